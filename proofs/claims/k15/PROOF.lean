import PyProof.Rows.All
import Wide.All
import OpenK.AllK
import Wide.FinOn
import HandS.ForMost
import HandS.IsInst
import HandS.Flow
import HandS.WideBits
import HandS.Defaults
import HandS.MakeKw
import HandS.Exc
import HandS.ExcOwn
import HandS.TryOnly
import HandS.WordsExc
import HandS.Deep
import HandS.WordsDict
import HandS.Small
import HandS.Conv
import HandS.Text
import KE.KxIndex
import HandS.Codes
import KE.SortData
import HandS.ExcInit
import HandS.ClsMeth
import HandS.ExcField
import HandS.ExcIs
import HandS.TryMany
import KE.KExcIs
import HandS.Replace
import KE.DataMinMax
import PyProof.Claim2Refuses
import KE.KEqDict
import KE.KDictSum
import HandS.Sort
import PyProof.Rows.SeqMore
import KE.KIndexOf
import HandS.SetKeys
import HandS.More
import PyProof.Rows.SortStr
import KE.KStateDown
import HandS.Head0
import HandS.Head1
import HandS.Head2
import HandS.HeadEnd
import HandS.HeadHook1
import HandS.HeadHook2
import KE.GoesMore
import KE.GoesEnum
import HandS.TupAny
import HandS.SetFor
import HandS.SortInts
import HandS.Zip
import HandS.Strs
import PySem.Challenge.RW_tornshelf_k15_whole_none_is_less
set_option Elab.async false
set_option linter.all false
set_option maxRecDepth 100000
set_option maxHeartbeats 4000000
namespace Z
open PySem L2
def isDT : HO → Bool
  | .dT _ => true
  | .frz _ u => isDT u
  | _ => false
def okA (G : Hp) (a : Addr) : HO → Prop
  | .ins _ dx _ => G dx = some (.own a)
  | .frz _ u => okA G a u
  | _ => True
def kept : HO → Bool
  | .tup _ => true
  | .frz _ _ => true
  | .tbl _ => true
  | _ => false
/-- from H on, H' was reached; G, a part of H', is all that is still told -/
structure Gc (H H' G : Hp) : Prop where
  sub : ∀ a o, G a = some o → H' a = some o
  ok : ∀ a o, G a = some o → okA G a o ∨ (H a = some o ∧ ∀ b, H b = some (.own a) → G b = some (.own a))
  keep : ∀ b o, H b = some o → kept o = true → G b = some o
  dt : (∀ a o, G a = some o → isDT o = false) ∨ ∀ b xs, H' b = some (.tup xs) → G b = some (.tup xs)
section
variable {P : Program} {w : World} {H H' G : Hp} {h : Heap} {a : Addr} {o : HO}
theorem okA_of (x : ObjOk P w H h a o) (k : ∀ b, H b = some (.own a) → G b = some (.own a)) : okA G a o := by
  induction o with
  | ins C dx fs => exact k _ x.1
  | frz ob u ih => exact ih x.2
  | _ => trivial
end
/-- no dict with tuples for keys -/
def ND (H : Hp) : Prop := ∀ a o, H a = some o → isDT o = false
theorem only_nd {H : Hp} (h : L2.Only H) : ND H := fun a o e => by
  rcases h a with q | ⟨o', xs, q⟩
  · rw [q] at e; cases e
  · rw [q] at e; cases e; rfl
section
variable {H H' G H1 : Hp} {p q : Addr} {o : HO}
def flatO : HO → Bool
  | .ins _ _ _ => false
  | .frz _ _ => false
  | .dT _ => false
  | _ => true
theorem okA_flat {G : Hp} {a : Addr} {o : HO} (h : flatO o = true) : okA G a o := by
  cases o <;> first | trivial | cases h
theorem isDT_flat {o : HO} (h : flatO o = true) : isDT o = false := by
  cases o <;> first | rfl | cases h
theorem okA_upd {G : Hp} {a p : Addr} {o u : HO} (e : H' p = some o) (sub : ∀ a o, G a = some o → H' a = some o) (k : okA G a u) : okA (upd G p o) a u := by
  induction u with
  | ins C dx fs =>
    show upd G p o dx = _
    by_cases q : dx = p
    · subst q
      have e2 : H' dx = some (.own a) := sub _ _ k
      rw [e] at e2
      rw [upd_same, e2]
    · rw [upd_ne q]
      exact k
  | frz ob u ih => exact ih k
  | _ => trivial
theorem upd_sub {G : Hp} {p b : Addr} {o u : HO} (e : H' p = some o) (h : H' b = some u) (k : G b = some u) : upd G p o b = some u := by
  by_cases q : b = p
  · subst q
    rw [upd_same, ← e, h]
  · rw [upd_ne q]
    exact k
/-- one more thing is told -/
theorem Gc.put (g : Gc H H' G) (e : H' p = some o) (f : flatO o = true := by rfl) : Gc H H' (upd G p o) where
  sub := fun a u h => by
    by_cases q : a = p
    · subst q; rw [upd_same] at h; cases h; exact e
    · rw [upd_ne q] at h; exact g.sub a u h
  ok := fun a u h => by
    by_cases q : a = p
    · subst q; rw [upd_same] at h; cases h; exact .inl (okA_flat f)
    · rw [upd_ne q] at h
      rcases g.ok a u h with k | ⟨k1, k2⟩
      · exact .inl (okA_upd e g.sub k)
      · exact .inr ⟨k1, fun b hb => upd_sub e (g.sub _ _ (k2 b hb)) (k2 b hb)⟩
  keep := fun b u h k => upd_sub e (g.sub _ _ (g.keep b u h k)) (g.keep b u h k)
  dt := by
    rcases g.dt with d | d
    · refine .inl fun a u h => ?_
      by_cases q : a = p
      · subst q; rw [upd_same] at h; cases h; exact isDT_flat f
      · rw [upd_ne q] at h; exact d a u h
    · exact .inr fun b xs h => upd_sub e h (d b xs h)
theorem upd_none {a : Addr} : upd H p o a = none ↔ a ≠ p ∧ H a = none := by
  unfold upd
  by_cases e : a = p
  · simp [e]
  · simp [e]
end
section
variable {X : Cx}
theorem OpR.or {f : Value → Value → Sem Value} {r r' : R2} (a : OpR X f r) (b : OpR X f r') : OpR X f (fun x y H Q => r x y H Q ∨ r' x y H Q) :=
  fun pins s σ H x y v u Q I rx ry h => h.elim (fun h => a pins s σ H x y v u Q I rx ry h) fun h => b pins s σ H x y v u Q I rx ry h
theorem CallR.or {f : Value} {r r' : List V → Hp → VK → Prop} (a : CallR X f r) (b : CallR X f r') : CallR X f (fun x H Q => r x H Q ∨ r' x H Q) :=
  fun pins s σ H xs us Q I rx h => h.elim (fun h => a pins s σ H xs us Q I rx h) fun h => b pins s σ H xs us Q I rx h
/-- list + list, both to be read -/
def rCatZ (K : PySem.W.Frag) : R2 := fun x y H Q => ∃ l b xs zs, x = .ref l ∧ y = .ref b ∧ SqL K H l xs ∧ SqL K H b zs ∧ xs.length + zs.length ≤ sizeLine ∧ ∀ p, H p = none → Q (.ref p) (upd H p (.lst (xs ++ zs)))
def rAddZ (K : PySem.W.Frag) : R2 := fun x y H Q => (rI0 (fun i j => .int (i + j)) x y H Q ∨ ∃ i j, x = .str i ∧ y = .str j ∧ i.length + j.length ≤ sizeLine ∧ Q (.str (i ++ j)) H) ∨ rCatZ K x y H Q
theorem op_catZ : OpR X (binaryOp .Add) (rCatZ X.K) := by
  intro pins s σ H x y v u Q I rx ry h
  obtain ⟨l, b, xs, zs, rfl, rfl, hH, hB, hz, q⟩ := h
  cases rx
  cases ry
  obtain ⟨its, r, pl, z⟩ := I.list hH
  obtain ⟨its2, r2, pl2, z2⟩ := I.list hB
  have l1 := r.length
  have l2 := r2.length
  obtain ⟨⟨cls, dd, data, sl⟩, ho, hc, n, hd⟩ := pl.isList
  obtain ⟨⟨cls2, dd2, data2, sl2⟩, ho2, hc2, n2, hd2⟩ := pl2.isList
  simp only at hc hd hc2 hd2
  subst hc hd hc2 hd2
  have e : its.toArray ++ its2.toArray = (its ++ its2).toArray := by simp
  refine concat_meets ⟨_, ho, rfl⟩ ⟨_, ho2, rfl⟩ noFill_list_add seq_list_add PySem.F.slot_list_add PySem.F.entry_list_add (PySem.F.args_list_add_2 _ _) (PyProof.Rows.list_addW l b its.toArray its2.toArray n n2 dd dd2 sl sl2 (by simp only [List.size_toArray]; omega)) ⟨ho, ho2, ?_⟩
  rw [e]
  exact ⟨.ref _, _, I.lnew (t' := s.toks) (r.append r2) (by rw [List.length_append]; omega), rfl, q _ I.fresh⟩
theorem op_addZ {K : PySem.W.Frag} (hK : X.K = K) : OpR X (binaryOp .Add) (rAddZ K) := by subst hK; exact OpR.or (OpR.or op_add op_add_str) op_catZ
def rMulZ : R2 := fun x y H Q => rI CMul (fun i j => .int (i * j)) x y H Q ∨ rRep x y H Q
theorem op_mulZ : OpR X (binaryOp .Mult) rMulZ := OpR.or op_mul op_rep
def rEqZ (K : PySem.W.Frag) : R2 := fun x y H Q => rEq x y H Q ∨ rEqD K x y H Q
def rNeZ (K : PySem.W.Frag) : R2 := fun x y H Q => rNe x y H Q ∨ rNeD K x y H Q
theorem op_eqZ {K : PySem.W.Frag} (hK : X.K = K) (hu : X.A.units + 64 < cLine) : OpR X (compareOp .Eq) (rEqZ K) := by subst hK; exact OpR.or op_eq (op_eqD hu)
theorem op_neZ {K : PySem.W.Frag} (hK : X.K = K) (hu : X.A.units + 64 < cLine) : OpR X (compareOp .NotEq) (rNeZ K) := by subst hK; exact OpR.or op_ne (op_neD hu)
end
section
variable {X : Cx}
/-- len of a text, a list, a tuple -/
def rLenZ (K : PySem.W.Frag) : List V → Hp → VK → Prop := fun xs H Q => ∃ x n, xs = [x] ∧ LenV K x H n ∧ Q (.int n) H
theorem call_lenZ {K : PySem.W.Frag} (hK : X.K = K) : CallR X (.builtin "len") (rLenZ K) := by subst hK; exact call_len
def tTruZ (K : PySem.W.Frag) (ta : TE) : TT := fun σ H Q => ta σ H fun x H' => ∃ k, TruV K x H' k ∧ Q k H'
theorem pt_truthZ {K : PySem.W.Frag} {a : Expr} {ta : TE} (hK : X.K = K) (ha : PE X a ta) (he : ∀ whole, isTrue a X.env whole = (do let v ← whole; standAt a.pos; holding [v] (truthy v))) : PT X a (tTruZ K ta) := by subst hK; exact pt_truth ha he
theorem call_isiZ {K : PySem.W.Frag} (hK : X.K = K) : CallR X (.builtin "isinstance") (rIsi K) := by subst hK; exact call_isi
def rListOf (K : PySem.W.Frag) : List V → Hp → VK → Prop := fun xs H Q => ∃ p ys, xs = [.ref p] ∧ (SqL K H p ys ∨ SqT K H p ys) ∧ ∀ l, H l = none → Q (.ref l) (upd H l (.lst ys))
theorem call_listZ {K : PySem.W.Frag} (hK : X.K = K) : CallR X (.type "list") (rListOf K) := by subst hK; exact call_list_of
theorem cr_sumZ {K : PySem.W.Frag} (hK : X.K = K) (hc : X.calm = true) : CallR X (.builtin "sum") (rSum K) := by subst hK; exact cr_sum hc
theorem cr_allZ {K : PySem.W.Frag} (hK : X.K = K) (hc : X.calm = true) : CallR X (.builtin "all") (rAll K) := by subst hK; exact cr_all hc
theorem cr_anyZ {K : PySem.W.Frag} (hK : X.K = K) (hc : X.calm = true) : CallR X (.builtin "any") (rAny K) := by subst hK; exact cr_any hc
theorem cr_maxZ {K : PySem.W.Frag} (hK : X.K = K) (hc : X.calm = true) : CallR X (.builtin "max") (rMax K) := by subst hK; exact cr_max hc
theorem pi_listZ {K : PySem.W.Frag} {tg l : Expr} {tl : TE} (hK : X.K = K) (hl : PE X l tl) : PI X tg l (iList K tl) := by subst hK; exact pi_list hl
theorem pi_tupZ {K : PySem.W.Frag} {tg l : Expr} {tl : TE} (hK : X.K = K) (hl : PE X l tl) : PI X tg l (iTup K tl) := by subst hK; exact pi_tup hl
theorem pi_enumZ {K : PySem.W.Frag} {e : Expr} {ta : TA} {p pos tpos : Pos} {elts : List Expr} {kk : Nat} (hK : X.K = K) (hg : Gl X "enumerate") (hm : X.mg "enumerate" = none) (ha : PA X [e] ta) (hs : starEach [e] X.env = [(false, eval e X.env)] := by rfl) :
    PI X (.Tuple elts kk tpos) (.Call (.Name "enumerate" p) [e] [] pos) (iEnum K ta) := by subst hK; exact pi_enum hg hm ha hs
theorem pg_tupZ {K : PySem.W.Frag} {es : List Expr} {k : Nat} {t : TGs} {n : Nat} {pos : Pos} (hK : X.K = K) (hc : X.calm = true) (h : PGs X es t)
    (hn : (assignEach es X.env).length = n := by rfl) (hst : (assignEach es X.env).findIdx? (·.1) = none := by rfl) : PG X (.Tuple es k pos) (gTup K n t) := by subst hK; exact pg_tup hc h hn hst
theorem pe_bmZ {K : PySem.W.Frag} {o e : Expr} {es : List Expr} {to : TE} {t : TA} {name : Str} {apos cpos : Pos} {T id : String} {r : V → List V → Hp → VK → Prop} (hK : X.K = K) (pa : PlainAttrs T) (slot : Slot T name id) (hty : typeOf (.builtin id) = pure (.type "method_descriptor")) (hm : MtR X id r) (ho : PE X o to) (ha : PA X (e :: es) t)
    (hbase : attributeBase o name X.env (eval o X.env) = eval o X.env := by rfl)
    (hfew : ((backTo cpos (starEach (e :: es) X.env)).all (fun x => !x.1) && (backToKw cpos (keywordEach [] X.env)).all (fun x => x.1.isSome)
      && decide ((e :: es).length + ([] : List Keyword).length + (if ([] : List Keyword).isEmpty then 0 else 1) < 30)) = true := by rfl)
    (hline : (apos.endLine == cpos.line) = true := by rfl) (hs : starEach (e :: es) X.env = (false, eval e X.env) :: starEach es X.env := by rfl) (hplain : (backTo cpos (starEach es X.env)).any (·.1) = false := by rfl) :
    PE X (.Call (.Attribute o name apos) (e :: es) [] cpos) (tBM K T r to t) := by subst hK; exact pe_bm pa slot hty hm ho ha hbase hfew hline hs hplain
theorem pe_bm0Z {K : PySem.W.Frag} {o : Expr} {to : TE} {name : Str} {apos cpos : Pos} {T id : String} {r : V → List V → Hp → VK → Prop} (hK : X.K = K) (pa : PlainAttrs T) (slot : Slot T name id) (hty : typeOf (.builtin id) = pure (.type "method_descriptor")) (hm : MtR X id r) (ho : PE X o to)
    (hbase : attributeBase o name X.env (eval o X.env) = eval o X.env := by rfl) (hline : (apos.endLine == cpos.line) = true := by rfl) : PE X (.Call (.Attribute o name apos) [] [] cpos) (tBM0 K T r to) := by subst hK; exact pe_bm0 pa slot hty hm ho hbase hline
def tCallZ (sp : Sp) (E : XK) (t : TA) : TE := fun σ H Q => t σ H fun vs H1 => sp vs H1 Q E
variable {CX : CXT} {k : Nat} {f C : Addr} {fd : FuncData} {ps : List Str} {sp : Sp} {E : XK} {x m : Str} {p pos apos : Pos} {e o : Expr} {es : List Expr} {ta : TE} {t : TA}
theorem callZ_eq : tCall sp [] E t = tCallZ sp E t := by
  funext σ H Q
  show t σ H (fun vs H1 => sp (vs ++ []) H1 Q E) = t σ H fun vs H1 => sp vs H1 Q E
  simp only [List.append_nil]
theorem pe_callZ (F : FnOk X.prog X.w X.K X.mg X.base CX k f fd ps sp) (hr : Room k X.A) (hg : Gl X x) (hm : X.mg x = some (.ref f)) (hk : PySem.W.keepIn X.K (.ref f) = true) (hb : Binds X.K fd ps []) (hx : Passes CX X E)
    (ha : PA X (e :: es) t) (hdb : (x == ("__debug__" : Str)) = false := by decide) (he : starEach (e :: es) X.env = (false, eval e X.env) :: starEach es X.env := by rfl) (hpl : (backTo pos (starEach es X.env)).any (·.1) = false := by rfl) :
    PE X (.Call (.Name x p) (e :: es) [] pos) (tCallZ sp E t) := by
  rw [← callZ_eq]
  exact pe_call F hr hg hm hk hb .nil hx ha hdb he hpl
end
section
variable {K : PySem.W.Frag} {σ : St} {H : Hp} {nx bk ct : St → Hp → Prop} {rt : VK} {t u : TS} {te ta tb tc : TE} {tt uu : TT} {Q : VK} {QB : Bool → Hp → Prop} {QA : List V → Hp → Prop} {QO : Option Int → Hp → Prop} {v : V} {i : Nat} {b : Bool} {tr : TA}
theorem z_int {Qi : Int → Prop} {i : Int} (h : Qi i) : ∃ j, V.int i = .int j ∧ Qi j := ⟨i, rfl, h⟩
theorem z_if {p A B : Prop} [Decidable p] (h1 : p → A) (h2 : ¬ p → B) : if decide p = true then A else B := by
  by_cases h : p
  · rw [if_pos (decide_eq_true h)]; exact h1 h
  · rw [if_neg (by rw [decide_eq_false h]; exact Bool.false_ne_true)]; exact h2 h
theorem z_iT {A B : Prop} (h : A) : if true = true then A else B := by rw [if_pos rfl]; exact h
theorem z_iF {A B : Prop} (h : B) : if false = true then A else B := by rw [if_neg Bool.false_ne_true]; exact h
theorem z_inF {A B : Prop} (h : A) : if (!false) = true then A else B := h
theorem z_inT {A B : Prop} (h : B) : if (!true) = true then A else B := by
  rw [if_neg (by decide)]; exact h
end
structure Rt (X : Cx) (H : Hp) : Prop where
  keep : ∀ b o, X.H_0 b = some o → kept o = true → ∃ u, H b = some u ∧ kept u = true ∧ (∀ xs, o = .tup xs → u = o) ∧ (∀ ob u', o = .frz ob u' → u = o) ∧ ∀ ps, o = .tbl ps → ∃ more, u = .tbl (ps ++ more)
  cl : ∀ a o (G : Hp), H a = some o → (∀ b, H b = some (.own a) → G b = some (.own a)) → okA G a o
section
variable {X : Cx}
theorem Rt.of {pins : List (Addr × Obj)} {σ : List (Option V)} {H : Hp} {s : Shared} (I : Inv X pins σ H s) : Rt X H where
  keep := fun b o e k => by
    cases o with
    | tup xs => exact ⟨_, I.base.tups b xs e, rfl, fun _ _ => rfl, fun _ _ _ => rfl, fun _ q => nomatch q⟩
    | frz ob u => exact ⟨_, I.base.frzs b ob u e, rfl, fun _ _ => rfl, fun _ _ _ => rfl, fun _ q => nomatch q⟩
    | tbl ps =>
      obtain ⟨more, q⟩ := I.base.tbls b ps e
      exact ⟨_, q, rfl, fun _ z => (nomatch z), fun _ _ z => (nomatch z), fun _ z => by cases z; exact ⟨more, rfl⟩⟩
    | _ => cases k
  cl := fun a o G e k => okA_of (I.hok a o e) k
end
section
variable {K : PySem.W.Frag} {σ : St} {H : Hp} {Q : VK} {R : Hp → Prop}
theorem z_isi {x : V} {n m : String} {b : Bool} (ty : TyX K H x (.type n)) (e : PySem.W.kitOne K (.type n) (.type m) = some b) (h : Q (.bl b) H) : rIsi K [x, .ty m] H Q := ⟨x, .ty m, _, _, b, rfl, .ty m, ty, e, h⟩
end
section
variable {K : PySem.W.Frag} {H : Hp} {Q : VK}
theorem canLay_ints : ∀ ns : List Int, PyData.canLayAll0 (ns.map PyData.int) = true
  | [] => rfl
  | n :: ns => by
    show (PyData.canLay0 (.int n) && PyData.canLayAll0 (ns.map PyData.int)) = true
    rw [canLay_ints ns] <;> rfl
theorem depth_ints : ∀ ns : List Int, PyData.depthAll (ns.map PyData.int) = 0
  | [] => rfl
  | n :: ns => by
    show max (PyData.depth (.int n)) (PyData.depthAll (ns.map PyData.int)) = 0
    rw [depth_ints ns] <;> rfl
theorem shaped_ints (ns : List Int) : SeqAt.shaped (.list (ns.map PyData.int)) = true := by
  unfold SeqAt.shaped
  rw [show PyData.canLay0 (.list (ns.map PyData.int)) = true from canLay_ints ns]
  rw [show PyData.depth (.list (ns.map PyData.int)) = 1 from by show PyData.depthAll _ + 1 = 1; rw [depth_ints]] <;> rfl
theorem eqvAll_ints : ∀ ns ms : List Int, PyData.eqvAll (ns.map PyData.int) (ms.map PyData.int) = decide (ns = ms)
  | [], [] => rfl
  | [], m :: ms => rfl
  | n :: ns, [] => rfl
  | n :: ns, m :: ms => by
    show (n == m && PyData.eqvAll (ns.map PyData.int) (ms.map PyData.int)) = _
    rw [eqvAll_ints ns ms]
    by_cases h : n = m
    · subst h; simp
    · simp [h]
theorem eqv_ints (ns ms : List Int) : PyData.eqv (.list (ns.map PyData.int)) (.list (ms.map PyData.int)) = decide (ns = ms) := eqvAll_ints ns ms
end
section
variable {K : PySem.W.Frag} {H H1 H' : Hp} {p q a : Addr} {o u : HO} {xs : List V}
/-- what stood stands, no tuple is new -/
structure Sx (H H1 : Hp) : Prop where
  same : Same H H1
  nt : ∀ b xs, H1 b = some (.tup xs) → H b = some (.tup xs)
end
section
variable {K : PySem.W.Frag} {σ : St} {H : Hp} {Q : VK} {R A B : Prop} {p a : Addr} {xs ys : List V} {y : V}
theorem z_ifR {α : Type} [DecidableEq α] {x : α} (h : A) : if decide (x = x) = true then A else B := by rw [if_pos (decide_eq_true rfl)]; exact h
theorem z_ifnR {α : Type} [DecidableEq α] {x : α} (h : B) : if (!decide (x = x)) = true then A else B := by rw [decide_eq_true (rfl : x = x)]; exact z_inT h
theorem z_ifY {c : Prop} [Decidable c] (hc : c) (h : A) : if decide c = true then A else B := by rw [if_pos (decide_eq_true hc)]; exact h
theorem z_ifN {c : Prop} [Decidable c] (hc : ¬ c) (h : B) : if decide c = true then A else B := by rw [if_neg (by rw [decide_eq_false hc]; exact Bool.false_ne_true)]; exact h
theorem z_ifnY {c : Prop} [Decidable c] (hc : c) (h : B) : if (!decide c) = true then A else B := by rw [decide_eq_true hc]; exact z_inT h
theorem z_ifnN {c : Prop} [Decidable c] (hc : ¬ c) (h : A) : if (!decide c) = true then A else B := by rw [decide_eq_false hc]; exact z_inF h
theorem z_list (hp : SqL K H p ys) (h : ∀ l, H l = none → Q (.ref l) (upd H l (.lst ys))) : rListOf K [.ref p] H Q := ⟨p, ys, rfl, .inl hp, h⟩
end
section
variable {K : PySem.W.Frag} {H : Hp} {Q : VK} {n : Nat}
def rMin2 : List V → Hp → VK → Prop := fun xs H Q => ∃ i j, xs = [.int i, .int j] ∧ Q (.int (if j < i then j else i)) H
def rMax2 : List V → Hp → VK → Prop := fun xs H Q => ∃ i j, xs = [.int i, .int j] ∧ Q (.int (if j > i then j else i)) H
theorem call_min2Z {X : Cx} (hc : X.calm = true) : CallR X (.builtin "min") rMin2 := call_min2 hc
theorem call_max2Z {X : Cx} (hc : X.calm = true) : CallR X (.builtin "max") rMax2 := call_max2 hc
theorem z_min2 {i j : Int} (h : Q (.int (min i j)) H) : rMin2 [.int i, .int j] H Q := ⟨i, j, rfl, by
  have e : (if j < i then j else i) = min i j := by
    by_cases l : j < i
    · rw [if_pos l]; omega
    · rw [if_neg l]; omega
  rw [e]; exact h⟩
theorem z_max2 {i j : Int} (h : Q (.int (max i j)) H) : rMax2 [.int i, .int j] H Q := ⟨i, j, rfl, by
  have e : (if j > i then j else i) = max i j := by
    by_cases l : j > i
    · rw [if_pos l]; omega
    · rw [if_neg l]; omega
  rw [e]; exact h⟩
end
section
variable {K : PySem.W.Frag} {σ : St} {H : Hp} {Q : St → Hp → Prop} {QV : VK} {a : Addr} {xs : List V} {v : V} {n : Nat} {t : TG} {u : TGs}
theorem z_all {bs : List Bool} (ha : SqL K H a (bs.map V.bl)) (h : QV (.bl (bs.all id)) H) : rAll K [.ref a] H QV := ⟨a, bs, rfl, ha, h⟩
theorem z_any {bs : List Bool} (ha : SqL K H a (bs.map V.bl)) (h : QV (.bl (bs.any id)) H) : rAny K [.ref a] H QV := ⟨a, bs, rfl, ha, h⟩
end
/-- a raise of an own class: the way out -/
def tRaiseZ (C : Addr) (W : WX) : TS := fun _ σ H => W (.ref C) none σ H
theorem ps_raiseZ {X : Cx} {W : WX} {C : Addr} {bmB : List Value} {B newId initId : String} {x m : Str} {j : Nat} {p p2 pos pos' : Pos} (hc : X.calm = true) (tk : Takes X W) (F : ExcBaseFacts B newId initId bmB) (q : PySem.W.excIn X.K C bmB newId = true) (gC : X.mg x = some (.ref C)) (kC : PySem.W.keepIn X.K (.ref C) = true) (r : Raises X (.ref C)) (hg : Gl X x)
    (hdb : (x == ("__debug__" : Str)) = false := by decide) : PS X (.Raise (some (.Call (.Name x p) [.Constant (.str m) j p2] [] pos)) none pos') (tRaiseZ C W) := ps_raise hc tk (pmk_own F q gC kC r hg hdb)
end Z
namespace Y
open PySem L2 Z
/-- data -/
inductive D where
  | non | bl (b : Bool) | int (i : Int) | str (x : Str)
  | tup (l : List D) | ctp (l : List D) | lst (l : List D) | clst (l : List D)
  | dK (l : List (Key × D)) | dT (l : List (List Key × D))
  | cid (k : Nat) | ty (n : String)
/-- the classes' places; in a suite: the exception's place, class and dict -/
structure Ct where
  c : Nat → Addr
  xa : Option (Addr × Addr × Option Addr)
  lk : Option Addr
instance : CoeFun Ct (fun _ => Nat → Addr) := ⟨Ct.c⟩
/-- what may be changed -/
inductive Cn where
  | lst (l : List D) | dK (l : List (Key × D)) | dT (l : List (List Key × D)) | obj (c : Nat) (fs : List (Str × D))
structure Exn where
  cls : Nat
  fs : List (Str × D)
inductive Ent where
  | fz (d : D) | ow (c : Cn) | xn (x : Exn)
structure Stt where
  env : List (Option Ent)
  M : List Cn
inductive AI where
  | val (d : D) | slot (i : Nat) | new (c : Cn)
inductive Ro (α : Type) where
  | ok (a : α) (s : Stt) | er (x : Exn) (s : Stt) | no
abbrev Mo (α : Type) := Stt → Ro α
def Ro.bind {α β : Type} (r : Ro α) (f : α → Mo β) : Ro β :=
  match r with
  | .ok a s => f a s
  | .er x s => .er x s
  | .no => .no
inductive Rs where
  | nx (s : Stt) | rt (a : AI) (s : Stt) | bk (s : Stt) | ct (s : Stt) | er (x : Exn) (s : Stt) | no
abbrev Ms := Stt → Rs
/-- a def: what it hands back (a value, or a thing made anew), the objects behind it -/
inductive Fr where
  | ok (a : AI) (M : List Cn) | er (x : Exn) (M : List Cn) | no
abbrev Mf := List D → List Cn → Fr
def Cn.toD : Cn → D
  | .lst l => .lst l
  | .dK l => .dK l
  | .dT l => .dT l
  | .obj _ _ => .non
def Cn.isC : Cn → Bool
  | .obj _ _ => false
  | _ => true
mutual
inductive Rp (K : PySem.W.Frag) (G : Hp) (α : Nat → Addr) (n : Nat) : V → D → Prop
  | non : Rp K G α n .non .non
  | bl (b : Bool) : Rp K G α n (.bl b) (.bl b)
  | int (i : Int) : Rp K G α n (.int i) (.int i)
  | str (x : Str) : Rp K G α n (.str x) (.str x)
  | tup {a : Addr} {vs : List V} {l : List D} : G a = some (.tup vs) → RpL K G α n vs l → Rp K G α n (.ref a) (.tup l)
  | ctp {a : Addr} {vs : List V} {l : List D} : SqT K G a vs → RpL K G α n vs l → Rp K G α n (.ref a) (.ctp l)
  | lst {a : Addr} {vs : List V} {l : List D} : G a = some (.lst vs) → RpL K G α n vs l → Rp K G α n (.ref a) (.lst l)
  | clst {a : Addr} {vs : List V} {l : List D} : SqL K G a vs → RpL K G α n vs l → Rp K G α n (.ref a) (.clst l)
  | dK {a : Addr} {kvs : List (Key × V)} {l : List (Key × D)} : G a = some (.dK kvs) → kvs.map Prod.fst = l.map Prod.fst → RpL K G α n (kvs.map Prod.snd) (l.map Prod.snd) → Rp K G α n (.ref a) (.dK l)
  | dT {a : Addr} {kvs : List (List Key × V)} {l : List (List Key × D)} : G a = some (.dT kvs) → kvs.map Prod.fst = l.map Prod.fst → RpL K G α n (kvs.map Prod.snd) (l.map Prod.snd) → Rp K G α n (.ref a) (.dT l)
  | cid {k : Nat} : k < n → Rp K G α n (.ref (α k)) (.cid k)
  | ty (m : String) : Rp K G α n (.ty m) (.ty m)
inductive RpL (K : PySem.W.Frag) (G : Hp) (α : Nat → Addr) (n : Nat) : List V → List D → Prop
  | nil : RpL K G α n [] []
  | cons {v : V} {vs : List V} {d : D} {l : List D} : Rp K G α n v d → RpL K G α n vs l → RpL K G α n (v :: vs) (d :: l)
end
theorem rd_mono {G G' : Hp} {a : Addr} {u : HO} (s : Same G G') (h : Rd G a u) : Rd G' a u := by
  rcases h with h | ⟨o, h⟩
  · exact .inl (s _ _ h)
  · exact .inr ⟨o, s _ _ h⟩
theorem st_mono {K : PySem.W.Frag} {G G' : Hp} {a : Addr} {xs : List V} (s : Same G G') (h : SqT K G a xs) : SqT K G' a xs := by
  rcases h with h | h
  · exact .inl (rd_mono s h)
  · exact .inr h
section
variable {K : PySem.W.Frag} {G G' : Hp} {α α' : Nat → Addr} {n n' : Nat}
mutual
theorem Rp.mono (s : Same G G') (ha : ∀ k, k < n → α' k = α k) (hn : n ≤ n') : ∀ {v : V} {d : D}, Rp K G α n v d → Rp K G' α' n' v d
  | _, _, .non => .non
  | _, _, .bl b => .bl b
  | _, _, .int i => .int i
  | _, _, .str x => .str x
  | _, _, .ty x => .ty x
  | _, _, .tup h r => .tup (s _ _ h) (RpL.mono s ha hn r)
  | _, _, .ctp h r => .ctp (st_mono s h) (RpL.mono s ha hn r)
  | _, _, .lst h r => .lst (s _ _ h) (RpL.mono s ha hn r)
  | _, _, .clst h r => .clst (s.seq h) (RpL.mono s ha hn r)
  | _, _, .dK h e r => .dK (s _ _ h) e (RpL.mono s ha hn r)
  | _, _, .dT h e r => .dT (s _ _ h) e (RpL.mono s ha hn r)
  | _, _, .cid (k := k) h => by
    have e := ha k h
    rw [← e]
    exact .cid (Nat.lt_of_lt_of_le h hn)
theorem RpL.mono (s : Same G G') (ha : ∀ k, k < n → α' k = α k) (hn : n ≤ n') : ∀ {vs : List V} {l : List D}, RpL K G α n vs l → RpL K G' α' n' vs l
  | _, _, .nil => .nil
  | _, _, .cons h r => .cons (Rp.mono s ha hn h) (RpL.mono s ha hn r)
end
theorem RpL.length : ∀ {vs : List V} {l : List D}, RpL K G α n vs l → vs.length = l.length
  | _, _, .nil => rfl
  | _, _, .cons _ r => by rw [List.length_cons, List.length_cons, RpL.length r]
theorem RpL.append : ∀ {vs us : List V} {l m : List D}, RpL K G α n vs l → RpL K G α n us m → RpL K G α n (vs ++ us) (l ++ m)
  | _, _, _, _, .nil, h => h
  | _, _, _, _, .cons a r, h => .cons a (r.append h)
theorem RpL.get : ∀ {vs : List V} {l : List D} {i : Nat} {d : D}, RpL K G α n vs l → l[i]? = some d → ∃ v, vs[i]? = some v ∧ Rp K G α n v d
  | _, _, _, _, .nil, e => by simp at e
  | _, _, 0, _, .cons a _, e => ⟨_, rfl, by simp at e; subst e; exact a⟩
  | _, _, i + 1, d, .cons _ r, e => by
    obtain ⟨v, h1, h2⟩ := RpL.get (i := i) (d := d) r (by simpa using e)
    exact ⟨v, by simpa using h1, h2⟩
theorem RpL.get' : ∀ {vs : List V} {l : List D} {i : Nat} {v : V}, RpL K G α n vs l → vs[i]? = some v → ∃ d, l[i]? = some d ∧ Rp K G α n v d
  | _, _, _, _, .nil, e => by simp at e
  | _, _, 0, _, .cons a _, e => ⟨_, rfl, by simp at e; subst e; exact a⟩
  | _, _, i + 1, v, .cons _ r, e => by
    obtain ⟨d, h1, h2⟩ := RpL.get' (i := i) (v := v) r (by simpa using e)
    exact ⟨d, by simpa using h1, h2⟩
theorem RpL.set {v : V} {d : D} (h : Rp K G α n v d) : ∀ {vs : List V} {l : List D} (i : Nat), RpL K G α n vs l → RpL K G α n (vs.set i v) (l.set i d)
  | _, _, _, .nil => .nil
  | _, _, 0, .cons _ r => .cons h r
  | _, _, i + 1, .cons a r => .cons a (RpL.set h i r)
theorem RpL.take : ∀ {vs : List V} {l : List D} (i : Nat), RpL K G α n vs l → RpL K G α n (vs.take i) (l.take i)
  | _, _, 0, _ => .nil
  | _, _, _ + 1, .nil => .nil
  | _, _, i + 1, .cons a r => .cons a (r.take i)
theorem RpL.drop : ∀ {vs : List V} {l : List D} (i : Nat), RpL K G α n vs l → RpL K G α n (vs.drop i) (l.drop i)
  | _, _, 0, h => h
  | _, _, _ + 1, .nil => .nil
  | _, _, i + 1, .cons _ r => r.drop i
theorem RpL.rev : ∀ {vs : List V} {l : List D}, RpL K G α n vs l → RpL K G α n vs.reverse l.reverse
  | _, _, .nil => .nil
  | _, _, .cons a r => by rw [List.reverse_cons, List.reverse_cons]; exact r.rev.append (.cons a .nil)
end
def strip : Option HO → Option HO
  | some (.frz _ (.dK k)) => some (.dK k)
  | some (.frz _ (.dT k)) => some (.dT k)
  | x => x
/-- b: the dict that is locked, if any -/
def U (b : Option Addr) (H : Hp) : Hp := fun a => if b = some a then strip (H a) else H a
section
variable {K : PySem.W.Frag} {b : Option Addr} {H : Hp} {a p : Addr} {o : HO} {vs : List V}
theorem U0 : U none H = H := by funext a; unfold U; rw [if_neg (by simp)]
theorem U_same {H' : Hp} (h : H' a = H a) : U b H' a = U b H a := by unfold U; rw [h]
theorem U_none (h : H a = none) : U b H a = none := by unfold U; rw [h]; split <;> rfl
theorem U_ne (h : a ≠ p) : U b (upd H p o) a = U b H a := U_same (upd_ne h)
theorem uL (h : H a = some (.lst vs)) : U b H a = some (.lst vs) := by unfold U; rw [h]; split <;> rfl
theorem uP (h : H a = some (.tup vs)) : U b H a = some (.tup vs) := by unfold U; rw [h]; split <;> rfl
theorem uK {k : List (Key × V)} (h : H a = some (.dK k)) : U b H a = some (.dK k) := by unfold U; rw [h]; split <;> rfl
theorem uT {k : List (List Key × V)} (h : H a = some (.dT k)) : U b H a = some (.dT k) := by unfold U; rw [h]; split <;> rfl
theorem uX {k : List (Str × V)} (h : H a = some (.xd k)) : U b H a = some (.xd k) := by unfold U; rw [h]; split <;> rfl
theorem U_cases (b : Option Addr) (H : Hp) (a : Addr) : U b H a = H a ∨ (∃ o k, H a = some (.frz o (.dK k)) ∧ U b H a = some (.dK k)) ∨ ∃ o k, H a = some (.frz o (.dT k)) ∧ U b H a = some (.dT k) := by
  unfold U
  split
  · unfold strip
    split
    · rename_i o k h; exact .inr (.inl ⟨o, k, h, rfl⟩)
    · rename_i o k h; exact .inr (.inr ⟨o, k, h, rfl⟩)
    · exact .inl rfl
  · exact .inl rfl
theorem uL' (h : U b H a = some (.lst vs)) : H a = some (.lst vs) := by
  rcases U_cases b H a with e | ⟨o, k, _, e⟩ | ⟨o, k, _, e⟩
  · rw [e] at h; exact h
  · rw [e] at h; cases h
  · rw [e] at h; cases h
theorem uP' (h : U b H a = some (.tup vs)) : H a = some (.tup vs) := by
  rcases U_cases b H a with e | ⟨o, k, _, e⟩ | ⟨o, k, _, e⟩
  · rw [e] at h; exact h
  · rw [e] at h; cases h
  · rw [e] at h; cases h
theorem uF' {o : Obj} {u : HO} (h : U b H a = some (.frz o u)) : H a = some (.frz o u) := by
  rcases U_cases b H a with e | ⟨o, k, _, e⟩ | ⟨o, k, _, e⟩
  · rw [e] at h; exact h
  · rw [e] at h; cases h
  · rw [e] at h; cases h
theorem uK' {k : List (Key × V)} (h : U b H a = some (.dK k)) : Rd H a (.dK k) := by
  rcases U_cases b H a with e | ⟨o, k', q, e⟩ | ⟨o, k', q, e⟩
  · rw [e] at h; exact .inl h
  · rw [e] at h; cases h; exact .inr ⟨o, q⟩
  · rw [e] at h; cases h
theorem U_grow {H' : Hp} {u : HO} (k : ∀ o, H a = some o → H' a = some o) (h : U b H a = some u) : U b H' a = some u := by
  cases q : H a with
  | none => rw [U_none q] at h; cases h
  | some o =>
    have e : U b H' a = U b H a := U_same (by rw [k o q, q])
    rw [e]; exact h
theorem uSqL (h : SqL K (U b H) a vs) : SqL K H a vs := by
  rcases h with (h | ⟨o, h⟩) | h
  · exact .inl (.inl (uL' h))
  · exact .inl (.inr ⟨o, uF' h⟩)
  · exact .inr h
theorem uSqT (h : SqT K (U b H) a vs) : SqT K H a vs := by
  rcases h with (h | ⟨o, h⟩) | h
  · exact .inl (.inl (uP' h))
  · exact .inl (.inr ⟨o, uF' h⟩)
  · exact .inr h
end
inductive Lab where
  | id (k : Nat) | slot (i : Nat)
  deriving DecidableEq
structure Sh where
  G : Hp
  α : Nat → Addr
  lab : Addr → Option Lab
def CnOk (K : PySem.W.Frag) (ct : Ct) (S : Sh) (n : Nat) (H : Hp) (p : Addr) : Cn → Prop
  | .lst l => ∃ vs, H p = some (.lst vs) ∧ RpL K S.G S.α n vs l
  | .dK l => ∃ kvs, H p = some (.dK kvs) ∧ kvs.map Prod.fst = l.map Prod.fst ∧ RpL K S.G S.α n (kvs.map Prod.snd) (l.map Prod.snd)
  | .dT l => ∃ kvs, H p = some (.dT kvs) ∧ kvs.map Prod.fst = l.map Prod.fst ∧ RpL K S.G S.α n (kvs.map Prod.snd) (l.map Prod.snd)
  | .obj c fs => ∃ dx fvs, H p = some (.ins (ct c) dx fvs) ∧ fvs.map Prod.fst = fs.map Prod.fst ∧ RpL K S.G S.α n (fvs.map Prod.snd) (fs.map Prod.snd)
def XOk (K : PySem.W.Frag) (S : Sh) (n : Nat) (H : Hp) (x : Exn) (dd : Option Addr) : Prop :=
  (x.fs = [] ∧ dd = none) ∨ ∃ d fvs, dd = some d ∧ S.G d = some (.xd fvs) ∧ fvs.map Prod.fst = x.fs.map Prod.fst ∧ RpL K S.G S.α n (fvs.map Prod.snd) (x.fs.map Prod.snd)
theorem XOk.mono {K : PySem.W.Frag} {S S' : Sh} {n n' : Nat} {H H' : Hp} {x : Exn} {dd : Option Addr} (g : Same S.G S'.G) (al : ∀ k, k < n → S'.α k = S.α k) (hn : n ≤ n') (h : XOk K S n H x dd) : XOk K S' n' H' x dd := by
  rcases h with h | ⟨d, fvs, e, h1, h2, h3⟩
  · exact .inl h
  · exact .inr ⟨d, fvs, e, g _ _ h1, h2, h3.mono g al hn⟩
def EntOk (K : PySem.W.Frag) (ct : Ct) (H0 : Hp) (S : Sh) (n : Nat) (σ : St) (H : Hp) (i : Nat) : Ent → Prop
  | .fz d => ∃ v, σ[i]? = some (some v) ∧ Rp K S.G S.α n v d
  | .ow c => ∃ p, σ[i]? = some (some (.ref p)) ∧ H0 p = none ∧ S.lab p = some (.slot i) ∧ c.isC = true ∧ CnOk K ct S n H p c
  | .xn x => ∃ a d, ct.xa = some (a, ct x.cls, d) ∧ σ[i]? = some (some (.ref a)) ∧ XOk K S n H x d
theorem xn_mono {K : PySem.W.Frag} {ct : Ct} {H0 : Hp} {S S' : Sh} {n n' : Nat} {σ σ' : St} {H H' : Hp} {i : Nat} {x : Exn} (g : Same S.G S'.G) (al : ∀ k, k < n → S'.α k = S.α k) (hn : n ≤ n') (hs : σ'[i]? = σ[i]?) (h : EntOk K ct H0 S n σ H i (.xn x)) : EntOk K ct H0 S' n' σ' H' i (.xn x) := by
  obtain ⟨a, d, h1, h2, h3⟩ := h
  exact ⟨a, d, h1, hs.trans h2, h3.mono g al hn⟩
structure Rel (K : PySem.W.Frag) (ct : Ct) (H0 : Hp) (S : Sh) (s : Stt) (σ : St) (H : Hp) : Prop where
  sub : Same S.G (U ct.lk H)
  lg : ∀ a l, S.lab a = some l → S.G a = none ∧ ∃ o, H a = some o
  dom : ∀ a, H a = none → H0 a = none
  len : σ.length = s.env.length
  slot : ∀ i e, s.env[i]? = some (some e) → EntOk K ct H0 S s.M.length σ H i e
  ids : ∀ k c, s.M[k]? = some c → S.lab (S.α k) = some (.id k) ∧ CnOk K ct S s.M.length H (S.α k) c
structure Stp (S : Sh) (n : Nat) (H : Hp) (S' : Sh) (n' : Nat) (H' : Hp) : Prop where
  g : Same S.G S'.G
  le : n ≤ n'
  al : ∀ k, k < n → S'.α k = S.α k
  fr : ∀ a o, H a = some o → S.lab a = none → H' a = some o ∧ S'.lab a = none
  gn : ∀ a o, S'.G a = some o → S.G a = some o ∨ H a = none ∨ ∃ l, S.lab a = some l
  dom : ∀ a, H' a = none → H a = none
section
variable {S S' S'' : Sh} {n n' n'' : Nat} {H H' H'' : Hp}
theorem Stp.refl : Stp S n H S n H := ⟨fun _ _ e => e, Nat.le_refl _, fun _ _ => rfl, fun _ _ h l => ⟨h, l⟩, fun _ _ h => .inl h, fun _ h => h⟩
theorem Stp.trans (a : Stp S n H S' n' H') (b : Stp S' n' H' S'' n'' H'') : Stp S n H S'' n'' H'' where
  g := fun x o e => b.g x o (a.g x o e)
  le := Nat.le_trans a.le b.le
  al := fun k hk => (b.al k (Nat.lt_of_lt_of_le hk a.le)).trans (a.al k hk)
  fr := fun x o h l => by
    obtain ⟨h1, l1⟩ := a.fr x o h l
    exact b.fr x o h1 l1
  gn := fun x o e => by
    rcases b.gn x o e with h | h | ⟨l, h⟩
    · exact a.gn x o h
    · exact .inr (.inl (a.dom x h))
    · cases q : H x with
      | none => exact .inr (.inl rfl)
      | some u =>
        cases ql : S.lab x with
        | none =>
          have := (a.fr x u q ql).2
          rw [this] at h; cases h
        | some l' => exact .inr (.inr ⟨l', rfl⟩)
  dom := fun x h => a.dom x (b.dom x h)
theorem Rp.step {K : PySem.W.Frag} {v : V} {d : D} (t : Stp S n H S' n' H') (h : Rp K S.G S.α n v d) : Rp K S'.G S'.α n' v d := h.mono t.g t.al t.le
theorem RpL.step {K : PySem.W.Frag} {v : List V} {d : List D} (t : Stp S n H S' n' H') (h : RpL K S.G S.α n v d) : RpL K S'.G S'.α n' v d := h.mono t.g t.al t.le
end
theorem CnOk.mono {K : PySem.W.Frag} {ct : Ct} {S S' : Sh} {n n' : Nat} {H H' : Hp} {p : Addr} {c : Cn} (g : Same S.G S'.G) (al : ∀ k, k < n → S'.α k = S.α k) (hn : n ≤ n') (e : ∀ o, H p = some o → H' p = some o) (h : CnOk K ct S n H p c) : CnOk K ct S' n' H' p c := by
  cases c with
  | lst l => obtain ⟨vs, h1, h2⟩ := h; exact ⟨vs, e _ h1, h2.mono g al hn⟩
  | dK l => obtain ⟨vs, h1, h3, h2⟩ := h; exact ⟨vs, e _ h1, h3, h2.mono g al hn⟩
  | dT l => obtain ⟨vs, h1, h3, h2⟩ := h; exact ⟨vs, e _ h1, h3, h2.mono g al hn⟩
  | obj c fs => obtain ⟨dx, vs, h1, h3, h2⟩ := h; exact ⟨dx, vs, e _ h1, h3, h2.mono g al hn⟩
theorem CnOk.some {K : PySem.W.Frag} {ct : Ct} {S : Sh} {n : Nat} {H : Hp} {p : Addr} {c : Cn} (h : CnOk K ct S n H p c) : ∃ o, H p = some o := by
  cases c with
  | lst l => obtain ⟨vs, h1, _⟩ := h; exact ⟨_, h1⟩
  | dK l => obtain ⟨vs, h1, _⟩ := h; exact ⟨_, h1⟩
  | dT l => obtain ⟨vs, h1, _⟩ := h; exact ⟨_, h1⟩
  | obj c fs => obtain ⟨_, vs, h1, _⟩ := h; exact ⟨_, h1⟩
section
variable {K : PySem.W.Frag} {ct : Ct} {H0 : Hp} {S S' : Sh} {s s' : Stt} {σ : St} {H H' : Hp} {p : Addr} {o : HO}
theorem Rel.labN (r : Rel K ct H0 S s σ H) {a : Addr} (h : H a = none) : S.lab a = none := by
  cases q : S.lab a with
  | none => rfl
  | some l => obtain ⟨_, o, e⟩ := r.lg a l q; rw [e] at h; cases h
theorem Rel.gN (r : Rel K ct H0 S s σ H) {a : Addr} (h : H a = none) : S.G a = none := by
  cases q : S.G a with
  | none => rfl
  | some l => have := r.sub a l q; rw [U_none h] at this; cases this
/-- a new thing that nobody has yet -/
theorem Rel.new (r : Rel K ct H0 S s σ H) (hp : H p = none) : Rel K ct H0 S s σ (upd H p o) := by
  have ne : ∀ {a : Addr} {u : HO}, H a = some u → upd H p o a = some u := fun {a u} e => by rw [upd_ne (ne_of_none e hp)]; exact e
  have cn : ∀ {a : Addr} {c : Cn}, CnOk K ct S s.M.length H a c → CnOk K ct S s.M.length (upd H p o) a c := fun {a c} h => h.mono (fun _ _ e => e) (fun _ _ => rfl) (Nat.le_refl _) (fun _ e => ne e)
  refine ⟨fun a u e => by rw [U_ne (fun z => by subst z; rw [r.gN hp] at e; cases e)]; exact r.sub a u e, fun a l e => ?_, fun a e => ?_, r.len, fun i e h => ?_, fun k c h => ?_⟩
  · obtain ⟨h1, u, h2⟩ := r.lg a l e
    exact ⟨h1, u, ne h2⟩
  · exact r.dom a (upd_none.mp e).2
  · have q := r.slot i e h
    cases e with
    | fz d => exact q
    | xn x => exact xn_mono (fun _ _ e => e) (fun _ _ => rfl) (Nat.le_refl _) rfl q
    | ow c =>
      obtain ⟨a, h1, h2, h3, h4, h5⟩ := q
      exact ⟨a, h1, h2, h3, h4, cn h5⟩
  · obtain ⟨h1, h2⟩ := r.ids k c h
    exact ⟨h1, cn h2⟩
theorem Stp.new (r : Rel K ct H0 S s σ H) (hp : H p = none) {n : Nat} : Stp S n H S n (upd H p o) where
  g := fun _ _ e => e
  le := Nat.le_refl _
  al := fun _ _ => rfl
  fr := fun a u h l => ⟨by rw [upd_ne (ne_of_none h hp)]; exact h, l⟩
  gn := fun _ _ e => .inl e
  dom := fun a e => (upd_none.mp e).2
def Sh.frz (S : Sh) (p : Addr) (o : HO) : Sh := ⟨upd S.G p o, S.α, S.lab⟩
/-- what nobody has is frozen -/
theorem Rel.frz (r : Rel K ct H0 S s σ H) (hp : U ct.lk H p = some o) (hl : S.lab p = none) (hg : S.G p = none) : Rel K ct H0 (S.frz p o) s σ H := by
  have sg : Same S.G (S.frz p o).G := fun a u e => by show upd S.G p o a = _; rw [upd_ne (ne_of_none e hg)]; exact e
  have cn : ∀ {a : Addr} {c : Cn}, CnOk K ct S s.M.length H a c → CnOk K ct (S.frz p o) s.M.length H a c := fun {a c} h => h.mono sg (fun _ _ => rfl) (Nat.le_refl _) (fun _ e => e)
  refine ⟨fun a u e => ?_, fun a l e => ?_, r.dom, r.len, fun i e h => ?_, fun k c h => ?_⟩
  · have e : upd S.G p o a = some u := e
    by_cases q : a = p
    · subst q; rw [upd_same] at e; cases e; exact hp
    · rw [upd_ne q] at e; exact r.sub a u e
  · have e1 : S.lab a = some l := e
    obtain ⟨h1, h2⟩ := r.lg a l e1
    refine ⟨?_, h2⟩
    show upd S.G p o a = none
    rw [upd_ne (fun z => by subst z; rw [e1] at hl; cases hl)]
    exact h1
  · have q := r.slot i e h
    cases e with
    | fz d => obtain ⟨v, h1, h2⟩ := q; exact ⟨v, h1, h2.mono sg (fun _ _ => rfl) (Nat.le_refl _)⟩
    | xn x => exact xn_mono sg (fun _ _ => rfl) (Nat.le_refl _) rfl q
    | ow c =>
      obtain ⟨a, h1, h2, h3, h4, h5⟩ := q
      exact ⟨a, h1, h2, h3, h4, cn h5⟩
  · obtain ⟨h1, h2⟩ := r.ids k c h
    exact ⟨h1, cn h2⟩
theorem Stp.frz {n : Nat} (hg : S.G p = none) (hs : H p = none ∨ ∃ l, S.lab p = some l) (hd : ∀ a, H' a = none → H a = none) (fr : ∀ a u, H a = some u → S.lab a = none → H' a = some u) : Stp S n H (S.frz p o) n H' where
  g := fun a u e => by show upd S.G p o a = _; rw [upd_ne (ne_of_none e hg)]; exact e
  le := Nat.le_refl _
  al := fun _ _ => rfl
  fr := fun a u h l => ⟨fr a u h l, l⟩
  gn := fun a u e => by
    have e : upd S.G p o a = some u := e
    by_cases q : a = p
    · subst q; exact .inr hs
    · rw [upd_ne q] at e; exact .inl e
  dom := hd
end
end Y
namespace Y
open PySem L2 Z
def ItOk (K : PySem.W.Frag) (ct : Ct) (Hs : Hp) (S : Sh) (s : Stt) (σ : St) (H : Hp) (v : V) : AI → Prop
  | .val d => Rp K S.G S.α s.M.length v d
  | .slot i => σ[i]? = some (some v)
  | .new c => ∃ p, v = .ref p ∧ Hs p = none ∧ S.lab p = none ∧ S.G p = none ∧ c.isC = true ∧ CnOk K ct S s.M.length H p c
/-- how a result is told: the heap ahead, the state behind, the thing, its data -/
abbrev RR (β α : Type) := Hp → Sh → Stt → St → Hp → β → α → Prop
section
variable {K : PySem.W.Frag} {ct : Ct} {H0 : Hp} {W : WX}
def Pst (K : PySem.W.Frag) (ct : Ct) (H0 : Hp) {β α : Type} (R : RR β α) (W : WX) (S : Sh) (s : Stt) (σ : St) (H : Hp) (Q : β → Hp → Prop) : Ro α → Prop
  | .ok a s' => ∀ S' b H', Stp S s.M.length H S' s'.M.length H' → Rel K ct H0 S' s' σ H' → R H S' s' σ H' b a → Q b H'
  | .er x s' => ∀ S' H' dd, Stp S s.M.length H S' s'.M.length H' → Rel K ct H0 S' s' σ H' → XOk K S' s'.M.length H' x dd → W (.ref (ct x.cls)) dd σ H'
  | .no => False
def Jd (K : PySem.W.Frag) (ct : Ct) (H0 : Hp) {β α : Type} (R : RR β α) (W : WX) (t : St → Hp → (β → Hp → Prop) → Prop) (m : Mo α) : Prop :=
  ∀ S s σ H Q, Rel K ct H0 S s σ H → Pst K ct H0 R W S s σ H Q (m s) → t σ H Q
/-- a result that is told by an earlier heap, too -/
def Bck {β α : Type} (R : RR β α) : Prop := ∀ H1 H S s σ H' b a, (∀ x, H1 x = none → H x = none) → R H1 S s σ H' b a → R H S s σ H' b a
def RI (K : PySem.W.Frag) (ct : Ct) : RR V AI := fun H S s σ H' v a => ItOk K ct H S s σ H' v a
def RV (K : PySem.W.Frag) : RR V D := fun _ S s _ _ v d => Rp K S.G S.α s.M.length v d
def RVL (K : PySem.W.Frag) : RR (List V) (List D) := fun _ S s _ _ v d => RpL K S.G S.α s.M.length v d
def RB : RR Bool Bool := fun _ _ _ _ _ b a => b = a
theorem bI : Bck (RI K ct) := fun H1 H S s σ H' v a k h => by
  cases a with
  | val d => exact h
  | slot i => exact h
  | new c => obtain ⟨p, e, h1, h2⟩ := h; exact ⟨p, e, k _ h1, h2⟩
theorem bVL : Bck (RVL K) := fun _ _ _ _ _ _ _ _ _ h => h
theorem bB : Bck RB := fun _ _ _ _ _ _ _ _ _ h => h
variable {β α γ δ : Type} {R : RR β α} {R' : RR γ δ} {S S1 : Sh} {s s1 : Stt} {σ : St} {H H1 : Hp}
theorem Pst.from {Q : β → Hp → Prop} {r : Ro α} (b : Bck R) (h : Pst K ct H0 R W S s σ H Q r) (t : Stp S s.M.length H S1 s1.M.length H1) : Pst K ct H0 R W S1 s1 σ H1 Q r := by
  cases r with
  | ok a s' => exact fun S' b' H' st rel q => h S' b' H' (t.trans st) rel (b _ _ _ _ _ _ _ _ t.dom q)
  | er x s' => exact fun S' H' dd st rel q => h S' H' dd (t.trans st) rel q
  | no => exact h
theorem Pst.bind {Q : γ → Hp → Prop} {Q1 : β → Hp → Prop} {r : Ro α} {f : α → Mo δ} (b : Bck R') (h : Pst K ct H0 R' W S s σ H Q (r.bind f))
    (k : ∀ S1 s1 H1 x a, Stp S s.M.length H S1 s1.M.length H1 → Rel K ct H0 S1 s1 σ H1 → R H S1 s1 σ H1 x a → Pst K ct H0 R' W S1 s1 σ H1 Q (f a s1) → Q1 x H1) : Pst K ct H0 R W S s σ H Q1 r := by
  cases r with
  | ok a s' => exact fun S' x H' st rel q => k S' s' H' x a st rel q (Pst.from b h st)
  | er x s' => exact h
  | no => exact h
theorem ItOk.step {Hs : Hp} {v : V} {a : AI} (t : Stp S s.M.length H S1 s1.M.length H1) (h : ItOk K ct Hs S s σ H v a) : ItOk K ct Hs S1 s1 σ H1 v a := by
  cases a with
  | val d => exact Rp.step t h
  | slot i => exact h
  | new c =>
    obtain ⟨p, e, h1, h2, h3, h4, h5⟩ := h
    obtain ⟨o, ho⟩ := h5.some
    obtain ⟨k1, k2⟩ := t.fr p o ho h2
    refine ⟨p, e, h1, k2, ?_, h4, h5.mono t.g t.al t.le fun u hu => (t.fr p u hu h2).1⟩
    cases q : S1.G p with
    | none => rfl
    | some u =>
      rcases t.gn p u q with z | z | ⟨l, z⟩
      · rw [h3] at z; cases z
      · rw [ho] at z; cases z
      · rw [h2] at z; cases z
def Cn.aL : Cn → Option (List D)
  | .lst l => some l
  | _ => none
def Cn.aK : Cn → Option (List (Key × D))
  | .dK l => some l
  | _ => none
def Cn.aT : Cn → Option (List (List Key × D))
  | .dT l => some l
  | _ => none
def listOf (M : List Cn) : D → Option (List D)
  | .lst l => some l
  | .clst l => some l
  | .cid k => M[k]?.bind Cn.aL
  | _ => none
def tupOf : D → Option (List D)
  | .tup l => some l
  | .ctp l => some l
  | _ => none
def dictOf (M : List Cn) : D → Option (List (Key × D))
  | .dK l => some l
  | .cid k => M[k]?.bind Cn.aK
  | _ => none
def dictTOf (M : List Cn) : D → Option (List (List Key × D))
  | .dT l => some l
  | .cid k => M[k]?.bind Cn.aT
  | _ => none
def Ent.toD : Ent → D
  | .fz d => d
  | .ow c => c.toD
  | .xn _ => .non
def Ent.nox : Ent → Option Ent
  | .xn _ => none
  | e => some e
def entAt (s : Stt) (i : Nat) : Option Ent := ((s.env[i]?).getD none).bind Ent.nox
theorem nox_xn {o : Option Ent} {x : Exn} (h : o.bind Ent.nox = some (.xn x)) : False := by
  cases o with
  | none => cases h
  | some e => cases e <;> cases h
theorem entAt_xn {s : Stt} {i : Nat} {x : Exn} (h : entAt s i = some (.xn x)) : False := nox_xn h
theorem entAt_eq {s : Stt} {i : Nat} {e : Ent} (h : entAt s i = some e) : s.env[i]? = some (some e) := by
  unfold entAt at h
  cases q : s.env[i]? with
  | none => rw [q] at h; cases h
  | some z =>
    rw [q] at h
    cases z with
    | none => cases h
    | some z => cases z <;> cases h <;> rfl
/-- an item as data, what it has now -/
def look (s : Stt) : AI → Option D
  | .val d => some d
  | .new c => some c.toD
  | .slot i => (entAt s i).map Ent.toD
def viewL (s : Stt) (a : AI) : Option (List D) := (look s a).bind (listOf s.M)
def viewT (s : Stt) (a : AI) : Option (List D) := (look s a).bind tupOf
def viewD (s : Stt) (a : AI) : Option (List (Key × D)) := (look s a).bind (dictOf s.M)
def viewDT (s : Stt) (a : AI) : Option (List (List Key × D)) := (look s a).bind (dictTOf s.M)
/-- data as the whole heap shows it -/
theorem CnOk.rp {p : Addr} {c : Cn} (r : Rel K ct H0 S s σ H) (hc : c.isC = true) (h : CnOk K ct S s.M.length H p c) : Rp K (U ct.lk H) S.α s.M.length (.ref p) c.toD := by
  cases c with
  | lst l => obtain ⟨vs, h1, h2⟩ := h; exact .lst (uL h1) (h2.mono r.sub (fun _ _ => rfl) (Nat.le_refl _))
  | dK l => obtain ⟨vs, h1, h3, h2⟩ := h; exact .dK (uK h1) h3 (h2.mono r.sub (fun _ _ => rfl) (Nat.le_refl _))
  | dT l => obtain ⟨vs, h1, h3, h2⟩ := h; exact .dT (uT h1) h3 (h2.mono r.sub (fun _ _ => rfl) (Nat.le_refl _))
  | obj c fs => cases hc
theorem look_ok {Hs : Hp} {v : V} {a : AI} {d : D} (r : Rel K ct H0 S s σ H) (i : ItOk K ct Hs S s σ H v a) (e : look s a = some d) : Rp K (U ct.lk H) S.α s.M.length v d := by
  cases a with
  | val d' => cases e; exact Rp.mono r.sub (fun _ _ => rfl) (Nat.le_refl _) i
  | new c =>
    cases e
    obtain ⟨p, rfl, _, _, _, hc, h5⟩ := i
    exact h5.rp r hc
  | slot j =>
    obtain ⟨en, q0, rfl⟩ := Option.map_eq_some_iff.mp e
    have q := entAt_eq q0
    have hh := r.slot j en q
    have hi : σ[j]? = some (some v) := i
    cases en with
    | fz d' =>
      obtain ⟨v', h1, h2⟩ := hh
      rw [hi] at h1; cases h1
      exact h2.mono r.sub (fun _ _ => rfl) (Nat.le_refl _)
    | xn x => exact (entAt_xn q0).elim
    | ow c =>
      obtain ⟨p, h1, _, _, hc, h5⟩ := hh
      rw [hi] at h1; cases h1
      exact h5.rp r hc
/-- the parts of what an item shows are frozen -/
theorem viewL_ok {Hs : Hp} {v : V} {a : AI} {l : List D} (r : Rel K ct H0 S s σ H) (i : ItOk K ct Hs S s σ H v a) (e : viewL s a = some l) : ∃ p vs, v = .ref p ∧ SqL K H p vs ∧ RpL K S.G S.α s.M.length vs l := by
  have cidc : ∀ {k : Nat} {u : V}, Rp K S.G S.α s.M.length u (.cid k) → listOf s.M (.cid k) = some l → ∃ p vs, u = .ref p ∧ SqL K H p vs ∧ RpL K S.G S.α s.M.length vs l := fun {k u} h e => by
    cases h
    obtain ⟨c, q, e1⟩ := Option.bind_eq_some_iff.mp (show s.M[k]?.bind Cn.aL = some l from e)
    cases c with
    | lst l' =>
      cases e1
      obtain ⟨vs, h1, h2⟩ := (r.ids k _ q).2
      exact ⟨_, vs, rfl, .of h1, h2⟩
    | _ => cases e1
  have frz : ∀ {u : V} {d : D}, Rp K S.G S.α s.M.length u d → listOf s.M d = some l → ∃ p vs, u = .ref p ∧ SqL K H p vs ∧ RpL K S.G S.α s.M.length vs l := fun {u d} h e => by
    cases d with
    | lst l' => cases e; cases h with | lst h1 h2 => exact ⟨_, _, rfl, (.of (uL' (r.sub _ _ h1))), h2⟩
    | clst l' => cases e; cases h with | clst h1 h2 => exact ⟨_, _, rfl, uSqL (r.sub.seq h1), h2⟩
    | cid k => exact cidc h e
    | _ => cases e
  have own : ∀ {p : Addr} {c : Cn}, CnOk K ct S s.M.length H p c → c.isC = true → listOf s.M c.toD = some l → ∃ q vs, V.ref p = .ref q ∧ SqL K H q vs ∧ RpL K S.G S.α s.M.length vs l := fun {p c} h hc e => by
    cases c with
    | lst l' => cases e; obtain ⟨vs, h1, h2⟩ := h; exact ⟨p, vs, rfl, .of h1, h2⟩
    | dK l' => cases e
    | dT l' => cases e
    | obj _ _ => cases e
  unfold viewL at e
  cases a with
  | val d => exact frz i e
  | new c =>
    obtain ⟨p, rfl, _, _, _, hc, h5⟩ := i
    exact own h5 hc e
  | slot j =>
    obtain ⟨d, q0, e⟩ := Option.bind_eq_some_iff.mp e
    obtain ⟨en, q1, rfl⟩ := Option.map_eq_some_iff.mp q0
    have q := entAt_eq q1
    have hi : σ[j]? = some (some v) := i
    have hh := r.slot j en q
    cases en with
    | fz d =>
      obtain ⟨v', h1, h2⟩ := hh
      rw [hi] at h1; cases h1
      exact frz h2 e
    | xn x => exact (entAt_xn q1).elim
    | ow c =>
      obtain ⟨p, h1, _, _, hc, h5⟩ := hh
      rw [hi] at h1; cases h1
      exact own h5 hc e
theorem viewT_ok {Hs : Hp} {v : V} {a : AI} {l : List D} (r : Rel K ct H0 S s σ H) (i : ItOk K ct Hs S s σ H v a) (e : viewT s a = some l) : ∃ p vs, v = .ref p ∧ SqT K H p vs ∧ RpL K S.G S.α s.M.length vs l := by
  have frz : ∀ {u : V} {d : D}, Rp K S.G S.α s.M.length u d → tupOf d = some l → ∃ p vs, u = .ref p ∧ SqT K H p vs ∧ RpL K S.G S.α s.M.length vs l := fun {u d} h e => by
    cases d with
    | tup l' => cases e; cases h with | tup h1 h2 => exact ⟨_, _, rfl, .of (uP' (r.sub _ _ h1)), h2⟩
    | ctp l' => cases e; cases h with | ctp h1 h2 => exact ⟨_, _, rfl, uSqT (st_mono r.sub h1), h2⟩
    | _ => cases e
  unfold viewT at e
  cases a with
  | val d => exact frz i e
  | new c => cases c <;> cases e
  | slot j =>
    obtain ⟨d, q0, e⟩ := Option.bind_eq_some_iff.mp e
    obtain ⟨en, q1, rfl⟩ := Option.map_eq_some_iff.mp q0
    have q := entAt_eq q1
    have hi : σ[j]? = some (some v) := i
    have hh := r.slot j en q
    cases en with
    | fz d =>
      obtain ⟨v', h1, h2⟩ := hh
      rw [hi] at h1; cases h1
      exact frz h2 e
    | xn x => exact (entAt_xn q1).elim
    | ow c => cases c <;> cases e
def Sh.frzL (S : Sh) (p : Addr) (o : HO) : Sh := ⟨upd S.G p o, S.α, fun a => if a = p then none else S.lab a⟩
def toV : AI → Mo D := fun a s => match a with
  | .val d => .ok d s
  | .new c => .ok c.toD s
  | .slot i => match entAt s i with
    | some (.ow c) => .ok c.toD ⟨s.env.set i (some (.fz c.toD)), s.M⟩
    | some (.fz d) => .ok d s
    | _ => .no
theorem rp_frz {p : Addr} {c : Cn} {n : Nat} {Hx : Hp} (hg : S.G p = none) (hc : c.isC = true) (h : CnOk K ct S n Hx p c) : ∃ o, U ct.lk Hx p = some o ∧ Rp K (upd S.G p o) S.α n (.ref p) c.toD := by
  have sg : ∀ o, Same S.G (upd S.G p o) := fun o a u e => by rw [upd_ne (ne_of_none e hg)]; exact e
  cases c with
  | lst l => obtain ⟨vs, h1, h2⟩ := h; exact ⟨_, uL h1, .lst upd_same (h2.mono (sg _) (fun _ _ => rfl) (Nat.le_refl _))⟩
  | dK l => obtain ⟨vs, h1, h3, h2⟩ := h; exact ⟨_, uK h1, .dK upd_same h3 (h2.mono (sg _) (fun _ _ => rfl) (Nat.le_refl _))⟩
  | dT l => obtain ⟨vs, h1, h3, h2⟩ := h; exact ⟨_, uT h1, .dT upd_same h3 (h2.mono (sg _) (fun _ _ => rfl) (Nat.le_refl _))⟩
  | obj c fs => cases hc
theorem Stp.frzNew {S' : Sh} {n n' : Nat} {H' : Hp} {p : Addr} {o : HO} (t : Stp S n H S' n' H') (hp : H p = none) (hg : S'.G p = none) : Stp S n H (S'.frz p o) n' H' where
  g := fun a u e => by show upd S'.G p o a = _; rw [upd_ne (ne_of_none (t.g a u e) hg)]; exact t.g a u e
  le := t.le
  al := t.al
  fr := t.fr
  gn := fun a u e => by
    have e1 : upd S'.G p o a = some u := e
    by_cases q : a = p
    · subst q; exact .inr (.inl hp)
    · rw [upd_ne q] at e1; exact t.gn a u e1
  dom := t.dom
theorem frz_slot {i : Nat} {c : Cn} (r : Rel K ct H0 S s σ H) (e : s.env[i]? = some (some (.ow c))) : ∃ S' v, σ[i]? = some (some v) ∧ Stp S s.M.length H S' s.M.length H ∧ Rel K ct H0 S' ⟨s.env.set i (some (.fz c.toD)), s.M⟩ σ H ∧ Rp K S'.G S'.α s.M.length v c.toD := by
  obtain ⟨p, h1, h2, h3, h4, h5⟩ := r.slot i _ e
  have hg := (r.lg p _ h3).1
  obtain ⟨o, ho, hr⟩ := rp_frz hg h4 h5
  have sg : Same S.G (upd S.G p o) := fun a u e => by rw [upd_ne (ne_of_none e hg)]; exact e
  have cn : ∀ {a : Addr} {c : Cn}, CnOk K ct S s.M.length H a c → CnOk K ct (S.frzL p o) s.M.length H a c := fun {a c} h => h.mono sg (fun _ _ => rfl) (Nat.le_refl _) (fun _ e => e)
  have labne : ∀ {a : Addr} {l : Lab}, S.lab a = some l → l ≠ .slot i → (S.frzL p o).lab a = some l := fun {a l} h ne => by
    show (if a = p then none else S.lab a) = _
    rw [if_neg (fun z => by subst z; rw [h3] at h; cases h; exact ne rfl)]
    exact h
  refine ⟨S.frzL p o, .ref p, h1, ⟨sg, Nat.le_refl _, fun _ _ => rfl, fun a u h l => ⟨h, ?_⟩, fun a u q => ?_, fun _ h => h⟩, ⟨fun a u q => ?_, fun a l q => ?_, r.dom, ?_, fun j en q => ?_, fun k c' q => ?_⟩, hr⟩
  · show (if a = p then none else S.lab a) = none
    split
    · rfl
    · exact l
  · have q1 : upd S.G p o a = some u := q
    by_cases z : a = p
    · subst z; exact .inr (.inr ⟨_, h3⟩)
    · rw [upd_ne z] at q1; exact .inl q1
  · have q1 : upd S.G p o a = some u := q
    by_cases z : a = p
    · subst z; rw [upd_same] at q1; cases q1; exact ho
    · rw [upd_ne z] at q1; exact r.sub a u q1
  · have q1 : (if a = p then none else S.lab a) = some l := q
    by_cases z : a = p
    · rw [if_pos z] at q1; cases q1
    · rw [if_neg z] at q1
      obtain ⟨k1, k2⟩ := r.lg a l q1
      refine ⟨?_, k2⟩
      show upd S.G p o a = none
      rw [upd_ne z]; exact k1
  · show σ.length = (s.env.set i _).length
    rw [List.length_set]; exact r.len
  · have q1 : (s.env.set i (some (.fz c.toD)))[j]? = some (some en) := q
    by_cases z : i = j
    · subst z
      have hlt : i < s.env.length := (List.getElem?_eq_some_iff.mp e).1
      rw [List.getElem?_set_self hlt] at q1
      cases q1
      exact ⟨_, h1, hr⟩
    · rw [List.getElem?_set_ne z] at q1
      have hh := r.slot j en q1
      cases en with
      | fz d => obtain ⟨v, k1, k2⟩ := hh; exact ⟨v, k1, k2.mono sg (fun _ _ => rfl) (Nat.le_refl _)⟩
      | xn x => exact xn_mono sg (fun _ _ => rfl) (Nat.le_refl _) rfl hh
      | ow c' =>
        obtain ⟨a, k1, k2, k3, k4, k5⟩ := hh
        exact ⟨a, k1, k2, labne k3 (fun w => by cases w; exact z rfl), k4, cn k5⟩
  · obtain ⟨k1, k2⟩ := r.ids k c' q
    exact ⟨labne k1 (fun w => by cases w), cn k2⟩
abbrev Ei (K : PySem.W.Frag) (ct : Ct) (H0 : Hp) (W : WX) (t : TE) (m : Mo AI) : Prop := Jd K ct H0 (RI K ct) W t m
abbrev Ev (K : PySem.W.Frag) (ct : Ct) (H0 : Hp) (W : WX) (t : TE) (m : Mo D) : Prop := Jd K ct H0 (RV K) W t m
abbrev EvL (K : PySem.W.Frag) (ct : Ct) (H0 : Hp) (W : WX) (t : TA) (m : Mo (List D)) : Prop := Jd K ct H0 (RVL K) W t m
abbrev Et (K : PySem.W.Frag) (ct : Ct) (H0 : Hp) (W : WX) (t : TT) (m : Mo Bool) : Prop := Jd K ct H0 RB W t m
def mV (m : Mo AI) : Mo D := fun s => (m s).bind toV
theorem ev_of {t : TE} {m : Mo AI} (h : Ei K ct H0 W t m) : Ev K ct H0 W t (mV m) := fun S s σ H Q rel p => h S s σ H Q rel (by
  unfold mV at p
  cases q : m s with
  | no => rw [q] at p; exact p
  | er x s' => rw [q] at p; exact p
  | ok a s' =>
    rw [q] at p
    have p : Pst K ct H0 (RV K) W S s σ H Q (toV a s') := p
    intro S' v H' st rel' it
    cases a with
    | val d => exact p S' v H' st rel' it
    | new c =>
      obtain ⟨pp, rfl, h1, h2, h3, h4, h5⟩ := it
      obtain ⟨o, ho, hr⟩ := rp_frz h3 h4 h5
      exact p (S'.frz pp o) _ H' (st.frzNew h1 h3) (rel'.frz ho h2 h3) hr
    | slot i =>
      have hi : σ[i]? = some (some v) := it
      have p : Pst K ct H0 (RV K) W S s σ H Q (match entAt s' i with | some (.ow c) => .ok c.toD ⟨s'.env.set i (some (.fz c.toD)), s'.M⟩ | some (.fz d) => .ok d s' | _ => .no) := p
      cases qe : entAt s' i with
      | none => rw [qe] at p; exact False.elim p
      | some en =>
        rw [qe] at p
        cases en with
        | fz d =>
          obtain ⟨v', k1, k2⟩ := rel'.slot i _ (entAt_eq qe)
          rw [hi] at k1; cases k1
          exact p S' v H' st rel' k2
        | xn x => exact False.elim p
        | ow c =>
          obtain ⟨S2, v', k1, st2, rel2, k2⟩ := frz_slot rel' (entAt_eq qe)
          rw [hi] at k1; cases k1
          exact p S2 v H' (st.trans st2) rel2 k2)
def mI (m : Mo D) : Mo AI := fun s => (m s).bind fun d s' => .ok (.val d) s'
theorem ei_of {t : TE} {m : Mo D} (h : Ev K ct H0 W t m) : Ei K ct H0 W t (mI m) := fun S s σ H Q rel p => h S s σ H Q rel (by
  unfold mI at p
  cases q : m s with
  | no => rw [q] at p; exact p
  | er x s' => rw [q] at p; exact p
  | ok a s' => rw [q] at p; exact p)
def mName (i : Nat) : Mo AI := fun s => match entAt s i with
  | some (.fz d) => .ok (.val d) s
  | some (.ow _) => .ok (.slot i) s
  | _ => .no
theorem ei_var {i : Nat} : Ei K ct H0 W (tVar i) (mName i) := fun S s σ H Q rel p => by
  unfold mName at p
  cases q : entAt s i with
  | none => rw [q] at p; exact False.elim p
  | some en =>
    rw [q] at p
    cases en with
    | fz d =>
      obtain ⟨v, h1, h2⟩ := rel.slot i _ (entAt_eq q)
      exact ⟨v, h1, p S v H .refl rel h2⟩
    | xn x => exact False.elim p
    | ow c =>
      obtain ⟨a, h1, _⟩ := rel.slot i _ (entAt_eq q)
      exact ⟨_, h1, p S _ H .refl rel h1⟩
def mC (d : D) : Mo AI := fun s => .ok (.val d) s
/-- what stands for data whatever the heap -/
def CR (K : PySem.W.Frag) (v : V) (d : D) : Prop := ∀ G α n, Rp K G α n v d
theorem ei_c {v : V} {d : D} (h : CR K v d) : Ei K ct H0 W (tC v) (mC d) := fun S s σ H Q rel p => p S v H .refl rel (h _ _ _)
theorem cr_int {i : Int} : CR K (.int i) (.int i) := fun _ _ _ => .int i
theorem cr_bl {b : Bool} : CR K (.bl b) (.bl b) := fun _ _ _ => .bl b
theorem cr_str {x : Str} : CR K (.str x) (.str x) := fun _ _ _ => .str x
theorem cr_non : CR K .non .non := fun _ _ _ => .non
/-- an operator of two items -/
def J2 (K : PySem.W.Frag) (ct : Ct) (H0 : Hp) (r : R2) (f : Stt → AI → AI → Ro AI) : Prop := ∀ W S s σ H Hs Hs' x y a b Q, Rel K ct H0 S s σ H → ItOk K ct Hs S s σ H x a → ItOk K ct Hs' S s σ H y b → Pst K ct H0 (RI K ct) W S s σ H Q (f s a b) → r x y H Q
def J1 (K : PySem.W.Frag) (ct : Ct) (H0 : Hp) (r : V → Hp → VK → Prop) (f : Stt → AI → Ro AI) : Prop := ∀ W S s σ H Hs x a Q, Rel K ct H0 S s σ H → ItOk K ct Hs S s σ H x a → Pst K ct H0 (RI K ct) W S s σ H Q (f s a) → r x H Q
def mOp (f : Stt → AI → AI → Ro AI) (m1 m2 : Mo AI) : Mo AI := fun s => (m1 s).bind fun a s1 => (m2 s1).bind fun b s2 => f s2 a b
def mUn (f : Stt → AI → Ro AI) (m1 : Mo AI) : Mo AI := fun s => (m1 s).bind fun a s1 => f s1 a
theorem ei_op {r : R2} {f : Stt → AI → AI → Ro AI} {ta tb : TE} {m1 m2 : Mo AI} (ho : J2 K ct H0 r f) (h1 : Ei K ct H0 W ta m1) (h2 : Ei K ct H0 W tb m2) : Ei K ct H0 W (tOp r ta tb) (mOp f m1 m2) := fun S s σ H Q rel p =>
  h1 S s σ H _ rel (Pst.bind bI p fun S1 s1 H1 x a st1 rel1 i1 p1 => h2 S1 s1 σ H1 _ rel1 (Pst.bind bI p1 fun S2 s2 H2 y b st2 rel2 i2 p2 => ho W S2 s2 σ H2 _ _ x y a b Q rel2 (i1.step st2) i2 p2))
theorem ei_un {r : V → Hp → VK → Prop} {f : Stt → AI → Ro AI} {ta : TE} {m1 : Mo AI} (ho : J1 K ct H0 r f) (h1 : Ei K ct H0 W ta m1) : Ei K ct H0 W (tUn r ta) (mUn f m1) := fun S s σ H Q rel p =>
  h1 S s σ H _ rel (Pst.bind bI p fun S1 s1 H1 x a st1 rel1 i1 p1 => ho W S1 s1 σ H1 _ x a Q rel1 i1 p1)
end
end Y
namespace Y
open PySem L2 Z
section
variable {K : PySem.W.Frag} {ct : Ct} {H0 : Hp} {W : WX} {S : Sh} {s : Stt} {σ : St} {H : Hp} {Q : VK}
theorem Pst.val {d : D} {v : V} (p : Pst K ct H0 (RI K ct) W S s σ H Q (.ok (.val d) s)) (rel : Rel K ct H0 S s σ H) (h : Rp K S.G S.α s.M.length v d) : Q v H := p S v H .refl rel h
theorem Pst.newC {c : Cn} {q : Addr} {o : HO} (p : Pst K ct H0 (RI K ct) W S s σ H Q (.ok (.new c) s)) (rel : Rel K ct H0 S s σ H) (hp : H q = none) (hc : c.isC = true) (h : CnOk K ct S s.M.length (upd H q o) q c) : Q (.ref q) (upd H q o) :=
  p S _ _ (Stp.new rel hp) (rel.new hp) ⟨q, rfl, hp, rel.labN hp, rel.gN hp, hc, h⟩
theorem Pst.newL {l : List D} {vs : List V} {q : Addr} (p : Pst K ct H0 (RI K ct) W S s σ H Q (.ok (.new (.lst l)) s)) (rel : Rel K ct H0 S s σ H) (hp : H q = none) (h : RpL K S.G S.α s.M.length vs l) : Q (.ref q) (upd H q (.lst vs)) :=
  p.newC rel hp rfl ⟨vs, upd_same, h⟩
theorem Pst.newT {l : List D} {vs : List V} {q : Addr} (p : Pst K ct H0 (RI K ct) W S s σ H Q (.ok (.val (.tup l)) s)) (rel : Rel K ct H0 S s σ H) (hp : H q = none) (h : RpL K S.G S.α s.M.length vs l) : Q (.ref q) (upd H q (.tup vs)) := by
  have hg := rel.gN hp
  refine p (S.frz q (.tup vs)) _ _ ((Stp.new rel hp).frzNew hp hg) ((rel.new hp).frz (uP upd_same) (rel.labN hp) hg) ?_
  exact .tup upd_same (h.mono (fun a u e => by show upd S.G q _ a = _; rw [upd_ne (ne_of_none e hg)]; exact e) (fun _ _ => rfl) (Nat.le_refl _))
end
def fI0 (g : Int → Int → D) : Stt → AI → AI → Ro AI := fun s a b => match a, b with
  | .val (.int i), .val (.int j) => .ok (.val (g i j)) s
  | _, _ => .no
open Classical in
noncomputable def fI (C : Int → Int → Prop) (g : Int → Int → D) : Stt → AI → AI → Ro AI := fun s a b => match a, b with
  | .val (.int i), .val (.int j) => if C i j then .ok (.val (g i j)) s else .no
  | _, _ => .no
def fAdd : Stt → AI → AI → Ro AI := fun s a b => match a, b with
  | .val (.int i), .val (.int j) => .ok (.val (.int (i + j))) s
  | .val (.str x), .val (.str y) => if x.length + y.length ≤ sizeLine then .ok (.val (.str (x ++ y))) s else .no
  | a, b => match viewL s a, viewL s b with
    | some l, some l' => if l.length + l'.length ≤ sizeLine then .ok (.new (.lst (l ++ l'))) s else .no
    | _, _ => .no
/-- a list that is tracked -/
def listX (M : List Cn) : D → Option (List D)
  | .lst l => some l
  | .cid k => M[k]?.bind Cn.aL
  | _ => none
def viewX (s : Stt) (a : AI) : Option (List D) := (look s a).bind (listX s.M)
open Classical in
noncomputable def fMul : Stt → AI → AI → Ro AI := fun s a b => match a, b with
  | .val (.int i), .val (.int j) => if CMul i j then .ok (.val (.int (i * j))) s else .no
  | a, .val (.int j) => match viewX s a with
    | some l => if -(2 ^ 63) ≤ j ∧ j < 2 ^ 63 ∧ l.length * j.toNat ≤ sizeLine then .ok (.new (.lst (List.replicate j.toNat l).flatten)) s else .no
    | none => .no
  | _, _ => .no
mutual
def D.py : D → Option PyData
  | .non => some .none
  | .bl b => some (.bool b)
  | .int i => some (.int i)
  | .str x => some (.str x)
  | .tup l => (D.pyL l).map .tuple
  | .ctp l => (D.pyL l).map .tuple
  | .lst l => (D.pyL l).map .list
  | .clst l => (D.pyL l).map .list
  | _ => none
def D.pyL : List D → Option (List PyData)
  | [] => some []
  | d :: l => d.py.bind fun x => (D.pyL l).map (x :: ·)
end
def Cn.dat : Cn → Option D
  | .obj _ _ => none
  | c => some c.toD
def deref (M : List Cn) : D → Option D
  | .cid k => M[k]?.bind Cn.dat
  | d => some d
def pyOf (s : Stt) (a : AI) : Option PyData := ((look s a).bind (deref s.M)).bind D.py
def eqOf (s : Stt) (a b : AI) : Option Bool := (pyOf s a).bind fun x => (pyOf s b).bind fun y => if SeqAt.shaped x && SeqAt.shaped y then some (x.eqv y) else none
def fEq : Stt → AI → AI → Ro AI := fun s a b => match eqOf s a b with
  | some k => .ok (.val (.bl k)) s
  | none => .no
def fNe : Stt → AI → AI → Ro AI := fun s a b => match eqOf s a b with
  | some k => .ok (.val (.bl (!k))) s
  | none => .no
def D.isN : D → Bool
  | .non => true
  | _ => false
def isOf (s : Stt) (a b : AI) : Option Bool := match a, b with
  | .val (.bl x), .val (.bl y) => some (x == y)
  | a, .val .non => (look s a).map D.isN
  | _, _ => none
def fIs : Stt → AI → AI → Ro AI := fun s a b => match isOf s a b with
  | some k => .ok (.val (.bl k)) s
  | none => .no
def fIsn : Stt → AI → AI → Ro AI := fun s a b => match isOf s a b with
  | some k => .ok (.val (.bl (!k))) s
  | none => .no
def fIx : Stt → AI → AI → Ro AI := fun s a b => match b with
  | .val (.int i) => match a with
    | .val (.str z) => if z.length ≤ sizeLine then (match atI z.cps.toList i with
      | some c => .ok (.val (.str ⟨#[c]⟩)) s
      | none => .no) else .no
    | a => match viewL s a with
      | some l => (match atI l i with
        | some d => .ok (.val d) s
        | none => .no)
      | none => (match viewT s a with
        | some l => (match atI l i with
          | some d => .ok (.val d) s
          | none => .no)
        | none => .no)
  | _ => .no
section
variable {K : PySem.W.Frag} {ct : Ct} {H0 : Hp} {G : Hp} {α : Nat → Addr} {n : Nat}
mutual
theorem rp_dp : ∀ {d : D} {v : V} {x : PyData}, Rp K G α n v d → d.py = some x → Dp K G v x
  | .non, _, _, .non, e => by cases e; exact .non
  | .bl b, _, _, .bl _, e => by cases e; exact .bl b
  | .int i, _, _, .int _, e => by cases e; exact .int i
  | .str y, _, _, .str _, e => by cases e; exact .str y
  | .tup l, _, _, .tup h r, e => by
    obtain ⟨xs, q, rfl⟩ := Option.map_eq_some_iff.mp (show (D.pyL l).map PyData.tuple = some _ from e)
    exact .tup (.of h) (rpL_dp r q)
  | .ctp l, _, _, .ctp h r, e => by
    obtain ⟨xs, q, rfl⟩ := Option.map_eq_some_iff.mp (show (D.pyL l).map PyData.tuple = some _ from e)
    exact .tup h (rpL_dp r q)
  | .lst l, _, _, .lst h r, e => by
    obtain ⟨xs, q, rfl⟩ := Option.map_eq_some_iff.mp (show (D.pyL l).map PyData.list = some _ from e)
    exact .lst (.of h) (rpL_dp r q)
  | .clst l, _, _, .clst h r, e => by
    obtain ⟨xs, q, rfl⟩ := Option.map_eq_some_iff.mp (show (D.pyL l).map PyData.list = some _ from e)
    exact .lst h (rpL_dp r q)
  | .dK _, _, _, _, e => by cases e
  | .dT _, _, _, _, e => by cases e
  | .cid _, _, _, _, e => by cases e
  | .ty _, _, _, _, e => by cases e
theorem rpL_dp : ∀ {l : List D} {vs : List V} {xs : List PyData}, RpL K G α n vs l → D.pyL l = some xs → DpAll K G vs xs
  | [], _, _, .nil, e => by cases e; exact .nil
  | d :: l, _, _, .cons h r, e => by
    obtain ⟨x, q, e1⟩ := Option.bind_eq_some_iff.mp (show (d.py.bind fun x => (D.pyL l).map (x :: ·)) = some _ from e)
    obtain ⟨ys, q2, rfl⟩ := Option.map_eq_some_iff.mp e1
    exact .cons (rp_dp h q) (rpL_dp r q2)
end
mutual
theorem uDp {b : Option Addr} {H : Hp} : ∀ {v : V} {x : PyData}, Dp K (U b H) v x → Dp K H v x
  | _, _, .non => .non
  | _, _, .bl b => .bl b
  | _, _, .int i => .int i
  | _, _, .str y => .str y
  | _, _, .lst h r => .lst (uSqL h) (uDpL r)
  | _, _, .tup h r => .tup (uSqT h) (uDpL r)
theorem uDpL {b : Option Addr} {H : Hp} : ∀ {vs : List V} {xs : List PyData}, DpAll K (U b H) vs xs → DpAll K H vs xs
  | _, _, .nil => .nil
  | _, _, .cons h r => .cons (uDp h) (uDpL r)
end
variable {W : WX} {S : Sh} {s : Stt} {σ : St} {H : Hp} {Q : VK}
theorem deref_ok {v : V} {d e : D} (rel : Rel K ct H0 S s σ H) (h : Rp K (U ct.lk H) S.α s.M.length v d) (q : deref s.M d = some e) : Rp K (U ct.lk H) S.α s.M.length v e := by
  cases d with
  | cid k =>
    obtain ⟨c, hc, e1⟩ := Option.bind_eq_some_iff.mp (show s.M[k]?.bind Cn.dat = some e from q)
    cases h
    have hh := (rel.ids k c hc).2
    cases c with
    | obj _ _ => cases e1
    | lst l => cases e1; exact hh.rp rel rfl
    | dK l => cases e1; exact hh.rp rel rfl
    | dT l => cases e1; exact hh.rp rel rfl
  | _ => cases q; exact h
theorem pyOf_ok {Hs : Hp} {v : V} {a : AI} {x : PyData} (rel : Rel K ct H0 S s σ H) (i : ItOk K ct Hs S s σ H v a) (e : pyOf s a = some x) : Dp K H v x := by
  obtain ⟨d, e1, e2⟩ := Option.bind_eq_some_iff.mp e
  obtain ⟨d0, e0, e1⟩ := Option.bind_eq_some_iff.mp e1
  exact uDp (rp_dp (deref_ok rel (look_ok rel i e0) e1) e2)
theorem eqOf_ok {Hs Hs' : Hp} {v w : V} {a b : AI} {k : Bool} (rel : Rel K ct H0 S s σ H) (i : ItOk K ct Hs S s σ H v a) (j : ItOk K ct Hs' S s σ H w b) (e : eqOf s a b = some k) :
    ∃ x y, Dp K H v x ∧ Dp K H w y ∧ SeqAt.shaped x = true ∧ SeqAt.shaped y = true ∧ x.eqv y = k := by
  obtain ⟨x, e1, e⟩ := Option.bind_eq_some_iff.mp e
  obtain ⟨y, e2, e⟩ := Option.bind_eq_some_iff.mp e
  split at e
  · rename_i h
    rw [Bool.and_eq_true] at h
    cases e
    exact ⟨x, y, pyOf_ok rel i e1, pyOf_ok rel j e2, h.1, h.2, rfl⟩
  · cases e
theorem viewX_ok {Hs : Hp} {v : V} {a : AI} {l : List D} (r : Rel K ct H0 S s σ H) (i : ItOk K ct Hs S s σ H v a) (e : viewX s a = some l) : ∃ p vs, v = .ref p ∧ H p = some (.lst vs) ∧ RpL K S.G S.α s.M.length vs l := by
  have cidc : ∀ {k : Nat} {u : V}, Rp K S.G S.α s.M.length u (.cid k) → listX s.M (.cid k) = some l → ∃ p vs, u = .ref p ∧ H p = some (.lst vs) ∧ RpL K S.G S.α s.M.length vs l := fun {k u} h e => by
    cases h
    obtain ⟨c, q, e1⟩ := Option.bind_eq_some_iff.mp (show s.M[k]?.bind Cn.aL = some l from e)
    cases c with
    | lst l' =>
      cases e1
      obtain ⟨vs, h1, h2⟩ := (r.ids k _ q).2
      exact ⟨_, vs, rfl, h1, h2⟩
    | _ => cases e1
  have frz : ∀ {u : V} {d : D}, Rp K S.G S.α s.M.length u d → listX s.M d = some l → ∃ p vs, u = .ref p ∧ H p = some (.lst vs) ∧ RpL K S.G S.α s.M.length vs l := fun {u d} h e => by
    cases d with
    | lst l' => cases e; cases h with | lst h1 h2 => exact ⟨_, _, rfl, uL' (r.sub _ _ h1), h2⟩
    | cid k => exact cidc h e
    | _ => cases e
  have own : ∀ {p : Addr} {c : Cn}, CnOk K ct S s.M.length H p c → listX s.M c.toD = some l → ∃ q vs, V.ref p = .ref q ∧ H q = some (.lst vs) ∧ RpL K S.G S.α s.M.length vs l := fun {p c} h e => by
    cases c with
    | lst l' => cases e; obtain ⟨vs, h1, h2⟩ := h; exact ⟨p, vs, rfl, h1, h2⟩
    | dK l' => cases e
    | dT l' => cases e
    | obj _ _ => cases e
  unfold viewX at e
  cases a with
  | val d => exact frz i e
  | new c =>
    obtain ⟨p, rfl, _, _, _, hc, h5⟩ := i
    exact own h5 e
  | slot j =>
    obtain ⟨d, q0, e⟩ := Option.bind_eq_some_iff.mp e
    obtain ⟨en, q1, rfl⟩ := Option.map_eq_some_iff.mp q0
    have q := entAt_eq q1
    have hi : σ[j]? = some (some v) := i
    have hh := r.slot j en q
    cases en with
    | fz d =>
      obtain ⟨v', h1, h2⟩ := hh
      rw [hi] at h1; cases h1
      exact frz h2 e
    | xn x => exact (entAt_xn q1).elim
    | ow c =>
      obtain ⟨p, h1, _, _, hc, h5⟩ := hh
      rw [hi] at h1; cases h1
      exact own h5 e
theorem rp_int {v : V} {i : Int} (h : Rp K G α n v (.int i)) : v = .int i := by cases h; rfl
theorem rp_str {v : V} {x : Str} (h : Rp K G α n v (.str x)) : v = .str x := by cases h; rfl
theorem rp_bl {v : V} {x : Bool} (h : Rp K G α n v (.bl x)) : v = .bl x := by cases h; rfl
theorem j_I0 {gV : Int → Int → V} {g : Int → Int → D} (hg : ∀ i j, CR K (gV i j) (g i j)) : J2 K ct H0 (rI0 gV) (fI0 g) := fun W S s σ H Hs Hs' x y a b Q rel ia ib p => by
  unfold fI0 at p
  split at p
  · rename_i i j
    cases rp_int ia; cases rp_int ib
    exact ⟨i, j, rfl, rfl, p.val rel (hg _ _ _ _ _)⟩
  · exact False.elim p
theorem j_I {C : Int → Int → Prop} {gV : Int → Int → V} {g : Int → Int → D} (hg : ∀ i j, CR K (gV i j) (g i j)) : J2 K ct H0 (rI C gV) (fI C g) := fun W S s σ H Hs Hs' x y a b Q rel ia ib p => by
  unfold fI at p
  split at p
  · rename_i i j
    cases rp_int ia; cases rp_int ib
    split at p
    · rename_i hc
      exact ⟨i, j, rfl, rfl, hc, p.val rel (hg _ _ _ _ _)⟩
    · exact False.elim p
  · exact False.elim p
theorem j_add : J2 K ct H0 (rAddZ K) fAdd := fun W S s σ H Hs Hs' x y a b Q rel ia ib p => by
  unfold fAdd at p
  split at p
  · rename_i i j
    cases rp_int ia; cases rp_int ib
    exact .inl (.inl ⟨i, j, rfl, rfl, p.val rel (.int _)⟩)
  · rename_i i j
    cases rp_str ia; cases rp_str ib
    split at p
    · rename_i hc
      exact .inl (.inr ⟨i, j, rfl, rfl, hc, p.val rel (.str _)⟩)
    · exact False.elim p
  · split at p
    · rename_i l l' e1 e2
      split at p
      · rename_i hc
        obtain ⟨p1, vs, rfl, h1, r1⟩ := viewL_ok rel ia e1
        obtain ⟨p2, us, rfl, h2, r2⟩ := viewL_ok rel ib e2
        refine .inr ⟨p1, p2, vs, us, rfl, rfl, h1, h2, by rw [r1.length, r2.length]; exact hc, fun q hq => p.newL rel hq (r1.append r2)⟩
      · exact False.elim p
    · exact False.elim p
theorem rpL_rep {vs : List V} {l : List D} (h : RpL K G α n vs l) : ∀ k : Nat, RpL K G α n (List.replicate k vs).flatten (List.replicate k l).flatten
  | 0 => .nil
  | k + 1 => by rw [List.replicate_succ, List.replicate_succ, List.flatten_cons, List.flatten_cons]; exact h.append (rpL_rep h k)
theorem j_mul : J2 K ct H0 rMulZ fMul := fun W S s σ H Hs Hs' x y a b Q rel ia ib p => by
  unfold fMul at p
  split at p
  · rename_i i j
    cases rp_int ia; cases rp_int ib
    split at p
    · rename_i hc
      exact .inl ⟨i, j, rfl, rfl, hc, p.val rel (.int _)⟩
    · exact False.elim p
  · rename_i a' j _
    cases rp_int ib
    split at p
    · rename_i l e1
      split at p
      · rename_i hc
        obtain ⟨p1, vs, rfl, h1, r1⟩ := viewX_ok rel ia e1
        exact .inr ⟨p1, j, vs, rfl, rfl, h1, hc.1, hc.2.1, by rw [r1.length]; exact hc.2.2, fun q hq => p.newL rel hq (rpL_rep r1 _)⟩
      · exact False.elim p
    · exact False.elim p
  · exact False.elim p
theorem j_eq : J2 K ct H0 (rEqZ K) fEq := fun W S s σ H Hs Hs' x y a b Q rel ia ib p => by
  unfold fEq at p
  split at p
  · rename_i k e
    obtain ⟨d, f, h1, h2, h3, h4, rfl⟩ := eqOf_ok rel ia ib e
    exact .inr ⟨d, f, h1, h2, h3, h4, p.val rel (.bl _)⟩
  · exact False.elim p
theorem j_ne : J2 K ct H0 (rNeZ K) fNe := fun W S s σ H Hs Hs' x y a b Q rel ia ib p => by
  unfold fNe at p
  split at p
  · rename_i k e
    obtain ⟨d, f, h1, h2, h3, h4, rfl⟩ := eqOf_ok rel ia ib e
    exact .inr ⟨d, f, h1, h2, h3, h4, p.val rel (.bl _)⟩
  · exact False.elim p
theorem atI_rp {vs : List V} {l : List D} {i : Int} {d : D} (r : RpL K G α n vs l) (e : atI l i = some d) : ∃ v, atI vs i = some v ∧ Rp K G α n v d := by
  unfold atI at e ⊢
  obtain ⟨j, e1, e2⟩ := Option.bind_eq_some_iff.mp e
  obtain ⟨v, h1, h2⟩ := r.get e2
  exact ⟨v, by rw [r.length, e1]; exact h1, h2⟩
theorem j_ix : J2 K ct H0 (rIx K) fIx := fun W S s σ H Hs Hs' x y a b Q rel ia ib p => by
  unfold fIx at p
  split at p
  · rename_i i
    cases rp_int ib
    split at p
    · rename_i z
      cases rp_str ia
      split at p
      · rename_i hz
        split at p
        · rename_i c e
          exact .inr (.inr ⟨z, i, c, rfl, rfl, hz, e, p.val rel (.str _)⟩)
        · exact False.elim p
      · exact False.elim p
    · split at p
      · rename_i l e
        split at p
        · rename_i d e2
          obtain ⟨q, vs, rfl, h1, r1⟩ := viewL_ok rel ia e
          obtain ⟨v, h2, h3⟩ := atI_rp r1 e2
          exact .inl ⟨q, vs, i, v, rfl, rfl, h1, h2, p.val rel h3⟩
        · exact False.elim p
      · split at p
        · rename_i l e
          split at p
          · rename_i d e2
            obtain ⟨q, vs, rfl, h1, r1⟩ := viewT_ok rel ia e
            obtain ⟨v, h2, h3⟩ := atI_rp r1 e2
            exact .inr (.inl ⟨q, vs, i, v, rfl, rfl, h1, h2, p.val rel h3⟩)
          · exact False.elim p
        · exact False.elim p
  · exact False.elim p
end
end Y
namespace Y
open PySem L2 Z
section
variable {X : Cx}
def rDIx : R2 := fun x y H Q => ∃ a v, x = .ref a ∧ DGet H a y (some v) ∧ Q v H
theorem ix_dict (hu : X.A.units + 1 < cLine) : IxR X rDIx := by
  intro value slice pins s σ H x y v u Q I rx ry h hs
  obtain ⟨a, r, rfl, g, q⟩ := h
  obtain rfl : v = Value.ref a := rx
  exact PyProof.Rows.tail_any (dict_typeIs I g) PySem.F.slot_dict_getitem.lookup (d_getItem hu I g ry fun w' s3 I3 rw' => ⟨r, H, I3, rw', q⟩) hs
def rIxY (K : PySem.W.Frag) : R2 := fun x y H Q => rIx K x y H Q ∨ rDIx x y H Q
theorem ix_Y {K : PySem.W.Frag} (hK : X.K = K) (hu : X.A.units + 1 < cLine) : IxR X (rIxY K) := by subst hK; exact ix_seq.or (ix_dict hu)
def rDIn (k : Bool → Bool) : R2 := fun y x H Q => ∃ a o, x = .ref a ∧ DGet H a y o ∧ Q (.bl (k o.isSome)) H
theorem op_din (hu : X.A.units + 1 < cLine) : OpR X (compareOp .In) (rDIn id) := by
  intro pins s σ H y x v u Q I ry rx h
  obtain ⟨a, o, rfl, g, q⟩ := h
  obtain rfl : u = Value.ref a := rx
  exact d_in hu I g ry fun s3 I3 => ⟨.bl o.isSome, H, I3, rfl, q⟩
def rSIn (k : Bool → Bool) : R2 := fun x y H Q => ∃ i j, x = .str i ∧ y = .str j ∧ Q (.bl (k (!(Builtin.Str.occurrences j i 0 j.length 1).isEmpty))) H
/-- in, not in: of a list, a tuple of flat things, a text, a dict -/
def rInY (K : PySem.W.Frag) : R2 := fun x y H Q => ((rInD K x y H Q ∨ rIn K false x y H Q) ∨ rSIn id x y H Q) ∨ rDIn id x y H Q
theorem op_inY {K : PySem.W.Frag} (hK : X.K = K) (hu : X.A.units + 65 < cLine) : OpR X (compareOp .In) (rInY K) := by
  subst hK; exact L2.OpR.or (L2.OpR.or (L2.OpR.or (op_inD hu) op_in_seq) op_in_str) (op_din (by omega))
/-- len of a dict, too -/
def rLenY (K : PySem.W.Frag) : List V → Hp → VK → Prop := fun xs H Q => rLenZ K xs H Q ∨ ∃ a kvs, xs = [V.ref a] ∧ Rd H a (.dK kvs) ∧ Q (.int kvs.length) H
theorem call_lenR : CallR X (.builtin "len") (fun xs H Q => ∃ a kvs, xs = [V.ref a] ∧ Rd H a (.dK kvs) ∧ Q (.int kvs.length) H) := by
  intro pins s σ H xs us Q I r h
  obtain ⟨a, kvs, rfl, ha, q⟩ := h
  obtain ⟨u, rfl, ru⟩ := vals1 r
  cases ru
  exact d_len I ha fun t s' I' => ⟨.int kvs.length, H, I', ⟨t, rfl⟩, q⟩
theorem call_lenY {K : PySem.W.Frag} (hK : X.K = K) : CallR X (.builtin "len") (rLenY K) := L2.CallR.or (call_lenZ hK) call_lenR
end
section
variable {κ β γ : Type} [DecidableEq κ]
def vl (l : List (κ × β)) (k : κ) : Option β := (l.find? fun p => decide (p.1 = k)).map (·.2)
def pu (l : List (κ × β)) (k : κ) (v : β) : List (κ × β) := if (l.any fun p => decide (p.1 = k)) = true then l.map (fun p => if p.1 = k then (p.1, v) else p) else l ++ [(k, v)]
def dr (l : List (κ × β)) (k : κ) : List (κ × β) := l.filter fun p => decide (p.1 ≠ k)
end
section
variable {K : PySem.W.Frag} {G : Hp} {α : Nat → Addr} {n : Nat} {κ : Type} [DecidableEq κ]
inductive RpK (K : PySem.W.Frag) (G : Hp) (α : Nat → Addr) (n : Nat) {κ : Type} : List (κ × V) → List (κ × D) → Prop
  | nil : RpK K G α n [] []
  | cons {k : κ} {v : V} {d : D} {kvs : List (κ × V)} {l : List (κ × D)} : Rp K G α n v d → RpK K G α n kvs l → RpK K G α n ((k, v) :: kvs) ((k, d) :: l)
theorem RpK.of {κ : Type} : ∀ {kvs : List (κ × V)} {l : List (κ × D)}, kvs.map Prod.fst = l.map Prod.fst → RpL K G α n (kvs.map Prod.snd) (l.map Prod.snd) → RpK K G α n kvs l
  | [], [], _, _ => .nil
  | [], _ :: _, e, _ => by simp at e
  | _ :: _, [], e, _ => by simp at e
  | (k, v) :: r, (k', d) :: r', e, h => by
    simp only [List.map_cons] at e h
    injection e with e1 e2
    have e1 : k = k' := e1
    subst e1
    cases h with
    | cons a b => exact .cons a (RpK.of e2 b)
theorem RpK.keys {κ : Type} : ∀ {kvs : List (κ × V)} {l : List (κ × D)}, RpK K G α n kvs l → kvs.map Prod.fst = l.map Prod.fst
  | _, _, .nil => rfl
  | _, _, .cons _ r => by rw [List.map_cons, List.map_cons, r.keys]
theorem RpK.vals {κ : Type} : ∀ {kvs : List (κ × V)} {l : List (κ × D)}, RpK K G α n kvs l → RpL K G α n (kvs.map Prod.snd) (l.map Prod.snd)
  | _, _, .nil => .nil
  | _, _, .cons a r => .cons a r.vals
theorem RpK.len {κ : Type} {kvs : List (κ × V)} {l : List (κ × D)} (h : RpK K G α n kvs l) : kvs.length = l.length := by
  have := congrArg List.length h.keys
  simpa using this
theorem RpK.get {k : κ} : ∀ {kvs : List (κ × V)} {l : List (κ × D)}, RpK K G α n kvs l → (vl l k = none ∧ valV kvs k = none) ∨ ∃ v d, vl l k = some d ∧ valV kvs k = some v ∧ Rp K G α n v d
  | _, _, .nil => .inl ⟨rfl, rfl⟩
  | _, _, .cons (k := k') (v := v) (d := d) (kvs := kvs) (l := l) a r => by
    by_cases e : k' = k
    · refine .inr ⟨v, d, ?_, ?_, a⟩
      · unfold vl; rw [List.find?_cons, decide_eq_true (show (k', d).1 = k from e)]; rfl
      · exact valV_pos e
    · have h1 : vl ((k', d) :: l) k = vl l k := by unfold vl; rw [List.find?_cons, decide_eq_false (show ¬ (k', d).1 = k from e)]
      rw [h1, valV_neg (p := (k', v)) e]
      exact r.get
theorem RpK.append {κ : Type} : ∀ {kvs kvs' : List (κ × V)} {l l' : List (κ × D)}, RpK K G α n kvs l → RpK K G α n kvs' l' → RpK K G α n (kvs ++ kvs') (l ++ l')
  | _, _, _, _, .nil, h => h
  | _, _, _, _, .cons a r, h => .cons a (r.append h)
theorem RpK.any {k : κ} : ∀ {kvs : List (κ × V)} {l : List (κ × D)}, RpK K G α n kvs l → (kvs.any fun p => decide (p.1 = k)) = l.any fun p => decide (p.1 = k)
  | _, _, .nil => rfl
  | _, _, .cons _ r => by rw [List.any_cons, List.any_cons, r.any]
theorem RpK.put {k : κ} {v : V} {d : D} {kvs : List (κ × V)} {l : List (κ × D)} (h : RpK K G α n kvs l) (hv : Rp K G α n v d) : RpK K G α n (putK kvs k v) (pu l k d) := by
  have mp : ∀ {kvs : List (κ × V)} {l : List (κ × D)}, RpK K G α n kvs l → RpK K G α n (kvs.map fun kv => if kv.1 = k then (kv.1, v) else kv) (l.map fun p => if p.1 = k then (p.1, d) else p) := by
    intro kvs l h
    induction h with
    | nil => exact .nil
    | @cons k' v' d' kvs l a r ih =>
      rw [List.map_cons, List.map_cons]
      by_cases e : k' = k
      · rw [if_pos (show (k', v').1 = k from e), if_pos (show (k', d').1 = k from e)]; exact .cons hv ih
      · rw [if_neg (show ¬ (k', v').1 = k from e), if_neg (show ¬ (k', d').1 = k from e)]; exact .cons a ih
  unfold putK pu
  rw [h.any]
  split
  · exact mp h
  · exact h.append (.cons hv .nil)
theorem RpK.drop {k : κ} : ∀ {kvs : List (κ × V)} {l : List (κ × D)}, RpK K G α n kvs l → RpK K G α n (dropK kvs k) (dr l k)
  | _, _, .nil => .nil
  | _, _, .cons (k := k') (v := v) (d := d) (kvs := kvs) (l := l) a r => by
    unfold dropK dr
    rw [List.filter_cons, List.filter_cons]
    by_cases e : k' = k
    · rw [if_neg (by simp [e]), if_neg (by simp [e])]; exact r.drop
    · rw [if_pos (by simp [e]), if_pos (by simp [e])]; exact .cons a r.drop
theorem RpK.mono {κ : Type} {G' : Hp} {α' : Nat → Addr} {n' : Nat} {kvs : List (κ × V)} {l : List (κ × D)} (s : Same G G') (ha : ∀ k, k < n → α' k = α k) (hn : n ≤ n') (h : RpK K G α n kvs l) : RpK K G' α' n' kvs l := RpK.of h.keys (h.vals.mono s ha hn)
end
section
variable {K : PySem.W.Frag} {ct : Ct} {H0 : Hp} {W : WX}
def truD (M : List Cn) : D → Option Bool
  | .non => some false
  | .bl b => some b
  | .int i => some (!decide (i = 0))
  | .str x => if x.length ≤ sizeLine then some (!decide ((x.length : Int) = 0)) else none
  | .tup l => some (!l.isEmpty)
  | .ctp l => some (!l.isEmpty)
  | .lst l => some (!l.isEmpty)
  | .clst l => some (!l.isEmpty)
  | .cid k => M[k]?.bind fun c => match c with
    | .lst l => some (!l.isEmpty)
    | .dK l => some (!l.isEmpty)
    | _ => none
  | _ => none
def mTru (m : Mo AI) : Mo Bool := fun s => (m s).bind fun a s1 => match (look s1 a).bind (truD s1.M) with
  | some b => .ok b s1
  | none => .no
theorem emp_len {α β : Type} {l : List α} {m : List β} (h : l.length = m.length) : (!l.isEmpty) = !m.isEmpty := by
  cases l <;> cases m <;> first | rfl | (simp at h)
theorem tru_ok {S : Sh} {s : Stt} {σ : St} {H : Hp} {v : V} {d : D} {b : Bool} (rel : Rel K ct H0 S s σ H) (r : Rp K (U ct.lk H) S.α s.M.length v d) (e : truD s.M d = some b) : TruV K v H b := by
  cases r with
  | non => cases e; rfl
  | bl b => cases e; rfl
  | int i =>
    cases e
    show (!decide (i = 0)) = (i != 0)
    by_cases q : i = 0 <;> simp [q]
  | str x =>
    have e1 : (if x.length ≤ sizeLine then some (!decide ((x.length : Int) = 0)) else none) = some b := e
    by_cases h : x.length ≤ sizeLine
    · rw [if_pos h] at e1
      cases e1
      refine ⟨h, ?_⟩
      by_cases q : (x.length : Int) = 0
      · rw [decide_eq_true q, q]; rfl
      · rw [decide_eq_false q]; exact (bne_iff_ne.mpr q).symm
    · rw [if_neg h] at e1; cases e1
  | tup h r => cases e; exact .inr (.inl ⟨_, .of (uP' h), (emp_len r.length).symm⟩)
  | ctp h r => cases e; exact .inr (.inl ⟨_, uSqT h, (emp_len r.length).symm⟩)
  | lst h r => cases e; exact .inl ⟨_, .of (uL' h), (emp_len r.length).symm⟩
  | clst h r => cases e; exact .inl ⟨_, uSqL h, (emp_len r.length).symm⟩
  | dK h e1 r => cases e
  | dT h e1 r => cases e
  | ty m => cases e
  | @cid k h =>
    obtain ⟨c, q, e1⟩ := Option.bind_eq_some_iff.mp e
    have hh := (rel.ids k c q).2
    cases c with
    | lst l => cases e1; obtain ⟨vs, h1, h2⟩ := hh; exact .inl ⟨_, .of h1, (emp_len h2.length).symm⟩
    | dK l => cases e1; obtain ⟨vs, h1, h3, h2⟩ := hh; exact .inr (.inr ⟨_, h1, (emp_len (RpK.of h3 h2).len).symm⟩)
    | dT l => cases e1
    | obj c fs => cases e1
theorem et_tru {ta : TE} {m : Mo AI} (h : Ei K ct H0 W ta m) : Et K ct H0 W (tTruZ K ta) (mTru m) := fun S s σ H Q rel p =>
  h S s σ H _ rel (Pst.bind bB p fun S1 s1 H1 x a st1 rel1 i1 p1 => by
    split at p1
    · rename_i b e
      obtain ⟨d, e1, e2⟩ := Option.bind_eq_some_iff.mp e
      exact ⟨b, tru_ok rel1 (look_ok rel1 i1 e1) e2, p1 S1 b H1 .refl rel1 rfl⟩
    · exact False.elim p1)
/-- a truth value -/
def blOf : AI → Option Bool
  | .val (.bl b) => some b
  | _ => none
def mBl (m : Mo AI) : Mo Bool := fun s => (m s).bind fun a s1 => match blOf a with
  | some b => .ok b s1
  | none => .no
theorem blOf_eq {a : AI} {b : Bool} (e : blOf a = some b) : a = .val (.bl b) := by
  unfold blOf at e
  split at e
  · cases e; rfl
  · cases e
theorem et_tst {ta : TE} {m : Mo AI} (h : Ei K ct H0 W ta m) : Et K ct H0 W (tTest ta) (mBl m) := fun S s σ H Q rel p =>
  h S s σ H _ rel (Pst.bind bB p fun S1 s1 H1 x a st1 rel1 i1 p1 => by
    split at p1
    · rename_i b e
      cases blOf_eq e
      cases rp_bl i1
      exact ⟨b, rfl, p1 S1 b H1 .refl rel1 rfl⟩
    · exact False.elim p1)
def mAnd (m1 m2 : Mo Bool) : Mo Bool := fun s => (m1 s).bind fun c s1 => if c = true then m2 s1 else .ok false s1
def mOr (m1 m2 : Mo Bool) : Mo Bool := fun s => (m1 s).bind fun c s1 => if c = true then .ok true s1 else m2 s1
def mNot (m1 : Mo Bool) : Mo Bool := fun s => (m1 s).bind fun c s1 => .ok (!c) s1
theorem et_and {t u : TT} {m1 m2 : Mo Bool} (h1 : Et K ct H0 W t m1) (h2 : Et K ct H0 W u m2) : Et K ct H0 W (tAnd t u) (mAnd m1 m2) := fun S s σ H Q rel p =>
  h1 S s σ H _ rel (Pst.bind bB p fun S1 s1 H1 x a st1 rel1 i1 p1 => by
    cases (show x = a from i1)
    cases x with
    | true => rw [if_pos rfl] at p1 ⊢; exact h2 S1 s1 σ H1 Q rel1 p1
    | false => rw [if_neg Bool.false_ne_true] at p1 ⊢; exact p1 S1 false H1 .refl rel1 rfl)
theorem et_or {t u : TT} {m1 m2 : Mo Bool} (h1 : Et K ct H0 W t m1) (h2 : Et K ct H0 W u m2) : Et K ct H0 W (tOr t u) (mOr m1 m2) := fun S s σ H Q rel p =>
  h1 S s σ H _ rel (Pst.bind bB p fun S1 s1 H1 x a st1 rel1 i1 p1 => by
    cases (show x = a from i1)
    cases x with
    | true => rw [if_pos rfl] at p1 ⊢; exact p1 S1 true H1 .refl rel1 rfl
    | false => rw [if_neg Bool.false_ne_true] at p1 ⊢; exact h2 S1 s1 σ H1 Q rel1 p1)
theorem et_not {t : TT} {m1 : Mo Bool} (h1 : Et K ct H0 W t m1) : Et K ct H0 W (tNot t) (mNot m1) := fun S s σ H Q rel p =>
  h1 S s σ H _ rel (Pst.bind bB p fun S1 s1 H1 x a st1 rel1 i1 p1 => by
    cases (show x = a from i1)
    exact p1 S1 (!x) H1 .refl rel1 rfl)
/-- and, or, not as values, of truth values -/
def mAndV (m1 m2 : Mo AI) : Mo AI := fun s => (m1 s).bind fun a s1 => match blOf a with
  | some true => m2 s1
  | some false => .ok (.val (.bl false)) s1
  | none => .no
def mOrV (m1 m2 : Mo AI) : Mo AI := fun s => (m1 s).bind fun a s1 => match blOf a with
  | some true => .ok (.val (.bl true)) s1
  | some false => m2 s1
  | none => .no
def mNotV (m1 : Mo AI) : Mo AI := fun s => (m1 s).bind fun a s1 => match blOf a with
  | some b => .ok (.val (.bl (!b))) s1
  | none => .no
theorem ei_andV {ta tb : TE} {m1 m2 : Mo AI} (h1 : Ei K ct H0 W ta m1) (h2 : Ei K ct H0 W tb m2) : Ei K ct H0 W (tAndV ta tb) (mAndV m1 m2) := fun S s σ H Q rel p =>
  h1 S s σ H _ rel (Pst.bind bI p fun S1 s1 H1 x a st1 rel1 i1 p1 => by
    split at p1
    · rename_i e; cases blOf_eq e; cases rp_bl i1
      exact ⟨true, rfl, by rw [if_pos rfl]; exact h2 S1 s1 σ H1 Q rel1 p1⟩
    · rename_i e; cases blOf_eq e; cases rp_bl i1
      exact ⟨false, rfl, by rw [if_neg Bool.false_ne_true]; exact p1.val rel1 (.bl _)⟩
    · exact False.elim p1)
theorem ei_orV {ta tb : TE} {m1 m2 : Mo AI} (h1 : Ei K ct H0 W ta m1) (h2 : Ei K ct H0 W tb m2) : Ei K ct H0 W (tOrV ta tb) (mOrV m1 m2) := fun S s σ H Q rel p =>
  h1 S s σ H _ rel (Pst.bind bI p fun S1 s1 H1 x a st1 rel1 i1 p1 => by
    split at p1
    · rename_i e; cases blOf_eq e; cases rp_bl i1
      exact ⟨true, rfl, by rw [if_pos rfl]; exact p1.val rel1 (.bl _)⟩
    · rename_i e; cases blOf_eq e; cases rp_bl i1
      exact ⟨false, rfl, by rw [if_neg Bool.false_ne_true]; exact h2 S1 s1 σ H1 Q rel1 p1⟩
    · exact False.elim p1)
theorem ei_notV {ta : TE} {m1 : Mo AI} (h1 : Ei K ct H0 W ta m1) : Ei K ct H0 W (tNotV ta) (mNotV m1) := fun S s σ H Q rel p =>
  h1 S s σ H _ rel (Pst.bind bI p fun S1 s1 H1 x a st1 rel1 i1 p1 => by
    split at p1
    · rename_i b e; cases blOf_eq e; cases rp_bl i1
      exact ⟨b, rfl, p1.val rel1 (.bl _)⟩
    · exact False.elim p1)
def mIf {α : Type} (c : Mo Bool) (m1 m2 : Mo α) : Mo α := fun s => (c s).bind fun b s1 => if b = true then m1 s1 else m2 s1
/-- a < b < c: nothing is changed in between -/
def mChain (f f' : Stt → AI → AI → Ro AI) (m1 m2 m3 : Mo AI) : Mo AI := fun s => (m1 s).bind fun a s1 => (m2 s1).bind fun b s2 => (f s2 a b).bind fun z s3 => match blOf z with
  | some true => (m3 s3).bind fun c s4 => f' s4 b c
  | some false => .ok (.val (.bl false)) s3
  | none => .no
theorem ei_chain {r r' : R2} {f f' : Stt → AI → AI → Ro AI} {ta tb tc : TE} {m1 m2 m3 : Mo AI} (ho : J2 K ct H0 r f) (ho' : J2 K ct H0 r' f') (h1 : Ei K ct H0 W ta m1) (h2 : Ei K ct H0 W tb m2) (h3 : Ei K ct H0 W tc m3) : Ei K ct H0 W (tChain r r' ta tb tc) (mChain f f' m1 m2 m3) := fun S s σ H Q rel p =>
  h1 S s σ H _ rel (Pst.bind bI p fun S1 s1 H1 x a st1 rel1 i1 p1 => h2 S1 s1 σ H1 _ rel1 (Pst.bind bI p1 fun S2 s2 H2 y b st2 rel2 i2 p2 =>
    ho W S2 s2 σ H2 _ _ x y a b _ rel2 (i1.step st2) i2 (Pst.bind bI p2 fun S3 s3 H3 z c st3 rel3 i3 p3 => by
      split at p3
      · rename_i e; cases blOf_eq e; cases rp_bl i3
        exact ⟨true, rfl, by rw [if_pos rfl]; exact h3 S3 s3 σ H3 _ rel3 (Pst.bind bI p3 fun S4 s4 H4 z' c' st4 rel4 i4 p4 => ho' W S4 s4 σ H4 _ _ y z' b c' Q rel4 ((i2.step st3).step st4) i4 p4)⟩
      · rename_i e; cases blOf_eq e; cases rp_bl i3
        exact ⟨false, rfl, by rw [if_neg Bool.false_ne_true]; exact p3.val rel3 (.bl _)⟩
      · exact False.elim p3)))
end
end Y
namespace Y
open PySem L2 Z
section
variable {K : PySem.W.Frag} {ct : Ct} {H0 : Hp} {W : WX}
inductive AsOk (K : PySem.W.Frag) (ct : Ct) (Hs : Hp) (S : Sh) (s : Stt) (σ : St) (H : Hp) : List V → List AI → Prop
  | nil : AsOk K ct Hs S s σ H [] []
  | cons {v : V} {a : AI} {vs : List V} {as : List AI} : ItOk K ct Hs S s σ H v a → AsOk K ct Hs S s σ H vs as → AsOk K ct Hs S s σ H (v :: vs) (a :: as)
def RA (K : PySem.W.Frag) (ct : Ct) : RR (List V) (List AI) := fun H S s σ H' v a => AsOk K ct H S s σ H' v a
theorem bA : Bck (RA K ct) := fun H1 H S s σ H' v a k h => by
  induction (show AsOk K ct H1 S s σ H' v a from h) with
  | nil => exact AsOk.nil
  | cons i _ ih => exact AsOk.cons (bI _ _ _ _ _ _ _ _ k i) (ih ‹_›)
abbrev EaL (K : PySem.W.Frag) (ct : Ct) (H0 : Hp) (W : WX) (t : TA) (m : Mo (List AI)) : Prop := Jd K ct H0 (RA K ct) W t m
def aNil : Mo (List AI) := fun s => .ok [] s
def aCons (m : Mo AI) (r : Mo (List AI)) : Mo (List AI) := fun s => (m s).bind fun a s1 => (r s1).bind fun as s2 => .ok (a :: as) s2
theorem ea_nil : EaL K ct H0 W tNil aNil := fun S s σ H Q rel p => p S [] H .refl rel .nil
theorem ea_cons {ta : TE} {tr : TA} {m : Mo AI} {r : Mo (List AI)} (h1 : Ei K ct H0 W ta m) (h2 : EaL K ct H0 W tr r) : EaL K ct H0 W (tCons ta tr) (aCons m r) := fun S s σ H Q rel p =>
  h1 S s σ H _ rel (by
    unfold aCons at p
    cases q : m s with
    | no => rw [q] at p; exact p
    | er x s' => rw [q] at p; exact p
    | ok a s1 =>
      rw [q] at p
      have p : Pst K ct H0 (RA K ct) W S s σ H Q ((r s1).bind fun as s2 => .ok (a :: as) s2) := p
      intro S1 v H1 st1 rel1 i1
      refine h2 S1 s1 σ H1 _ rel1 ?_
      cases q2 : r s1 with
      | no => rw [q2] at p; exact p
      | er x s' => rw [q2] at p; exact fun S' H' dd st rel q => p S' H' dd (st1.trans st) rel q
      | ok as s2 =>
        rw [q2] at p
        exact fun S2 vs H2 st2 rel2 i2 => p S2 (v :: vs) H2 (st1.trans st2) rel2 (.cons (i1.step st2) (bA _ _ _ _ _ _ _ _ st1.dom i2)))
def vNil : Mo (List D) := fun s => .ok [] s
def vCons (m : Mo AI) (r : Mo (List D)) : Mo (List D) := fun s => (mV m s).bind fun a s1 => (r s1).bind fun as s2 => .ok (a :: as) s2
theorem ev_nil : EvL K ct H0 W tNil vNil := fun S s σ H Q rel p => p S [] H .refl rel .nil
theorem ev_cons {ta : TE} {tr : TA} {m : Mo AI} {r : Mo (List D)} (h1 : Ei K ct H0 W ta m) (h2 : EvL K ct H0 W tr r) : EvL K ct H0 W (tCons ta tr) (vCons m r) := fun S s σ H Q rel p =>
  ev_of h1 S s σ H _ rel (Pst.bind bVL p fun S1 s1 H1 x a st1 rel1 i1 p1 => h2 S1 s1 σ H1 _ rel1 (Pst.bind bVL p1 fun S2 s2 H2 y b st2 rel2 i2 p2 => p2 S2 (x :: y) H2 .refl rel2 (.cons (Rp.step st2 i1) i2)))
def mLst (m : Mo (List D)) : Mo AI := fun s => (m s).bind fun l s1 => if l.length ≤ sizeLine then .ok (.new (.lst l)) s1 else .no
def mTup (m : Mo (List D)) : Mo AI := fun s => (m s).bind fun l s1 => if l.length ≤ sizeLine then .ok (.val (.tup l)) s1 else .no
theorem ei_lst {t : TA} {m : Mo (List D)} (h : EvL K ct H0 W t m) : Ei K ct H0 W (tLst t) (mLst m) := fun S s σ H Q rel p =>
  h S s σ H _ rel (Pst.bind bI p fun S1 s1 H1 x a st1 rel1 i1 p1 => by
    split at p1
    · rename_i hz
      exact ⟨by rw [RpL.length i1]; exact hz, fun q hq => p1.newL rel1 hq i1⟩
    · exact False.elim p1)
theorem ei_tup {t : TA} {m : Mo (List D)} (h : EvL K ct H0 W t m) : Ei K ct H0 W (tTup t) (mTup m) := fun S s σ H Q rel p =>
  h S s σ H _ rel (Pst.bind bI p fun S1 s1 H1 x a st1 rel1 i1 p1 => by
    split at p1
    · rename_i hz
      exact ⟨by rw [RpL.length i1]; exact hz, fun q hq => p1.newT rel1 hq i1⟩
    · exact False.elim p1)
def oNo : Mo (Option Int) := fun s => .ok none s
def oSm (m : Mo AI) : Mo (Option Int) := fun s => (m s).bind fun a s1 => match a with
  | .val (.int i) => .ok (some i) s1
  | _ => .no
def cutL {β : Type} (xs : List β) (lo hi : Option Int) : List β := (xs.drop (HT.sIx xs.length 0 lo)).take (HT.sIx xs.length xs.length hi - HT.sIx xs.length 0 lo)
def fSl (s : Stt) (a : AI) (lo hi : Option Int) : Ro AI := match a with
  | .val (.str x) => if x.length ≤ sizeLine then .ok (.val (.str (cutS x lo hi))) s else .no
  | a => match viewL s a with
    | some l => .ok (.new (.lst (cutL l lo hi))) s
    | none => .no
def mSl (m : Mo AI) (ml mh : Mo (Option Int)) : Mo AI := fun s => (m s).bind fun a s1 => (ml s1).bind fun l s2 => (mh s2).bind fun h s3 => fSl s3 a l h
def JB (K : PySem.W.Frag) (ct : Ct) (H0 : Hp) (r : List V → Hp → VK → Prop) (f : Stt → List AI → Ro AI) : Prop := ∀ W S s σ H Hs vs as Q, Rel K ct H0 S s σ H → AsOk K ct Hs S s σ H vs as → Pst K ct H0 (RI K ct) W S s σ H Q (f s as) → r vs H Q
def mCB (f : Stt → List AI → Ro AI) (m : Mo (List AI)) : Mo AI := fun s => (m s).bind fun as s1 => f s1 as
theorem ei_cb {r : List V → Hp → VK → Prop} {f : Stt → List AI → Ro AI} {t : TA} {m : Mo (List AI)} (hr : JB K ct H0 r f) (h : EaL K ct H0 W t m) : Ei K ct H0 W (tCB r t) (mCB f m) := fun S s σ H Q rel p =>
  h S s σ H _ rel (Pst.bind bI p fun S1 s1 H1 x a st1 rel1 i1 p1 => hr W S1 s1 σ H1 _ x a Q rel1 i1 p1)
def lenD (M : List Cn) : D → Option Nat
  | .str x => if x.length ≤ sizeLine then some x.length else none
  | .tup l => some l.length
  | .ctp l => some l.length
  | .lst l => some l.length
  | .clst l => some l.length
  | .dK l => some l.length
  | .cid k => M[k]?.bind fun c => match c with
    | .lst l => some l.length
    | .dK l => some l.length
    | _ => none
  | _ => none
def fLen (s : Stt) (as : List AI) : Ro AI := match as with
  | [a] => match (look s a).bind (lenD s.M) with
    | some n => .ok (.val (.int (n : Int))) s
    | none => .no
  | _ => .no
theorem as1 {Hs : Hp} {S : Sh} {s : Stt} {σ : St} {H : Hp} {vs : List V} {a : AI} (h : AsOk K ct Hs S s σ H vs [a]) : ∃ v, vs = [v] ∧ ItOk K ct Hs S s σ H v a := by
  cases h with | cons i r => cases r; exact ⟨_, rfl, i⟩
theorem as2 {Hs : Hp} {S : Sh} {s : Stt} {σ : St} {H : Hp} {vs : List V} {a b : AI} (h : AsOk K ct Hs S s σ H vs [a, b]) : ∃ v w, vs = [v, w] ∧ ItOk K ct Hs S s σ H v a ∧ ItOk K ct Hs S s σ H w b := by
  cases h with | cons i r => cases r with | cons j r => cases r; exact ⟨_, _, rfl, i, j⟩
theorem len_ok {S : Sh} {s : Stt} {σ : St} {H : Hp} {v : V} {d : D} {n : Nat} {Q : VK} (rel : Rel K ct H0 S s σ H) (r : Rp K (U ct.lk H) S.α s.M.length v d) (e : lenD s.M d = some n) (q : Q (.int n) H) : rLenY K [v] H Q := by
  cases r with
  | str x =>
    have e1 : (if x.length ≤ sizeLine then some x.length else none) = some n := e
    by_cases h : x.length ≤ sizeLine
    · rw [if_pos h] at e1
      cases e1
      exact .inl ⟨_, _, rfl, ⟨h, rfl⟩, q⟩
    · rw [if_neg h] at e1; cases e1
  | tup h r => cases e; exact .inl ⟨_, _, rfl, .inr ⟨_, .of (uP' h), r.length.symm⟩, q⟩
  | ctp h r => cases e; exact .inl ⟨_, _, rfl, .inr ⟨_, uSqT h, r.length.symm⟩, q⟩
  | lst h r => cases e; exact .inl ⟨_, _, rfl, .inl ⟨_, .of (uL' h), r.length.symm⟩, q⟩
  | clst h r => cases e; exact .inl ⟨_, _, rfl, .inl ⟨_, uSqL h, r.length.symm⟩, q⟩
  | dK h e1 r => cases e; exact .inr ⟨_, _, rfl, uK' h, by rw [(RpK.of e1 r).len]; exact q⟩
  | non => cases e
  | bl _ => cases e
  | int _ => cases e
  | dT h e1 r => cases e
  | ty m => cases e
  | @cid k h =>
    obtain ⟨c, qc, e1⟩ := Option.bind_eq_some_iff.mp e
    have hh := (rel.ids k c qc).2
    cases c with
    | lst l => cases e1; obtain ⟨vs, h1, h2⟩ := hh; exact .inl ⟨_, _, rfl, .inl ⟨_, .of h1, h2.length.symm⟩, q⟩
    | dK l => cases e1; obtain ⟨vs, h1, h3, h2⟩ := hh; exact .inr ⟨_, _, rfl, .inl h1, by rw [(RpK.of h3 h2).len]; exact q⟩
    | dT l => cases e1
    | obj c fs => cases e1
theorem jb_len : JB K ct H0 (rLenY K) fLen := fun W S s σ H Hs vs as Q rel ia p => by
  unfold fLen at p
  split at p
  · rename_i a
    obtain ⟨v, rfl, i⟩ := as1 ia
    split at p
    · rename_i n e
      obtain ⟨d, e1, e2⟩ := Option.bind_eq_some_iff.mp e
      exact len_ok rel (look_ok rel i e1) e2 (p.val rel (.int _))
    · exact False.elim p
  · exact False.elim p
/-- a list of whole numbers, of truth values -/
def intsD : List D → Option (List Int)
  | [] => some []
  | .int i :: l => (intsD l).map (i :: ·)
  | _ :: _ => none
def blsD : List D → Option (List Bool)
  | [] => some []
  | .bl i :: l => (blsD l).map (i :: ·)
  | _ :: _ => none
section
variable {G : Hp} {α : Nat → Addr} {n : Nat}
theorem ints_rp : ∀ {l : List D} {vs : List V} {ns : List Int}, RpL K G α n vs l → intsD l = some ns → vs = ns.map V.int
  | [], _, _, .nil, e => by cases e; rfl
  | .int i :: l, _, ns, .cons h r, e => by
    obtain ⟨ms, q, rfl⟩ := Option.map_eq_some_iff.mp (show (intsD l).map (i :: ·) = some ns from e)
    rw [rp_int h, ints_rp r q]; rfl
  | .non :: _, _, _, _, e => by cases e
  | .bl _ :: _, _, _, _, e => by cases e
  | .str _ :: _, _, _, _, e => by cases e
  | .tup _ :: _, _, _, _, e => by cases e
  | .ctp _ :: _, _, _, _, e => by cases e
  | .lst _ :: _, _, _, _, e => by cases e
  | .clst _ :: _, _, _, _, e => by cases e
  | .dK _ :: _, _, _, _, e => by cases e
  | .dT _ :: _, _, _, _, e => by cases e
  | .cid _ :: _, _, _, _, e => by cases e
  | .ty _ :: _, _, _, _, e => by cases e
theorem bls_rp : ∀ {l : List D} {vs : List V} {ns : List Bool}, RpL K G α n vs l → blsD l = some ns → vs = ns.map V.bl
  | [], _, _, .nil, e => by cases e; rfl
  | .bl i :: l, _, ns, .cons h r, e => by
    obtain ⟨ms, q, rfl⟩ := Option.map_eq_some_iff.mp (show (blsD l).map (i :: ·) = some ns from e)
    rw [rp_bl h, bls_rp r q]; rfl
  | .non :: _, _, _, _, e => by cases e
  | .int _ :: _, _, _, _, e => by cases e
  | .str _ :: _, _, _, _, e => by cases e
  | .tup _ :: _, _, _, _, e => by cases e
  | .ctp _ :: _, _, _, _, e => by cases e
  | .lst _ :: _, _, _, _, e => by cases e
  | .clst _ :: _, _, _, _, e => by cases e
  | .dK _ :: _, _, _, _, e => by cases e
  | .dT _ :: _, _, _, _, e => by cases e
  | .cid _ :: _, _, _, _, e => by cases e
  | .ty _ :: _, _, _, _, e => by cases e
end
/-- a builtin of one list of whole numbers, of truth values -/
def fInts (g : List Int → Option D) (s : Stt) (as : List AI) : Ro AI := match as with
  | [a] => match ((viewL s a).bind intsD).bind g with
    | some d => .ok (.val d) s
    | none => .no
  | _ => .no
def fBls (g : List Bool → D) (s : Stt) (as : List AI) : Ro AI := match as with
  | [a] => match (viewL s a).bind blsD with
    | some bs => .ok (.val (g bs)) s
    | none => .no
  | _ => .no
def gSum (ns : List Int) : Option D := some (.int ns.sum)
def gMax : List Int → Option D
  | [] => none
  | n :: ns => some (.int (ns.foldl max n))
theorem fInts_ok {g : List Int → Option D} {S : Sh} {s : Stt} {σ : St} {H Hs : Hp} {vs : List V} {as : List AI} {Q : VK} (rel : Rel K ct H0 S s σ H) (ia : AsOk K ct Hs S s σ H vs as) (p : Pst K ct H0 (RI K ct) W S s σ H Q (fInts g s as)) :
    ∃ q ns d, vs = [.ref q] ∧ SqL K H q (ns.map V.int) ∧ g ns = some d ∧ Pst K ct H0 (RI K ct) W S s σ H Q (.ok (.val d) s) := by
  unfold fInts at p
  split at p
  · rename_i a
    obtain ⟨v, rfl, i⟩ := as1 ia
    split at p
    · rename_i d e
      obtain ⟨ns, e1, e2⟩ := Option.bind_eq_some_iff.mp e
      obtain ⟨l, e0, e1⟩ := Option.bind_eq_some_iff.mp e1
      obtain ⟨q, us, rfl, k1, k2⟩ := viewL_ok rel i e0
      rw [ints_rp k2 e1] at k1
      exact ⟨q, ns, d, rfl, k1, e2, p⟩
    · exact False.elim p
  · exact False.elim p
theorem jb_sum : JB K ct H0 (rSum K) (fInts gSum) := fun W S s σ H Hs vs as Q rel ia p => by
  obtain ⟨q, ns, d, rfl, h, e, p⟩ := fInts_ok rel ia p
  cases e
  exact ⟨q, ns, rfl, h, p.val rel (.int _)⟩
theorem fold_max (n : Int) (ns : List Int) : ns.foldl max n ∈ n :: ns ∧ ∀ y ∈ n :: ns, y ≤ ns.foldl max n := by
  induction ns generalizing n with
  | nil => exact ⟨by simp, fun y hy => by simp at hy; rw [hy]; exact Int.le_refl _⟩
  | cons m ms ih =>
    obtain ⟨h1, h2⟩ := ih (max n m)
    have hm := h2 (max n m) (by simp)
    refine ⟨?_, fun y hy => ?_⟩
    · show ms.foldl max (max n m) ∈ _
      rcases List.mem_cons.mp h1 with e | e
      · rw [e]
        by_cases l : n ≤ m
        · rw [Int.max_eq_right l]; simp
        · rw [Int.max_eq_left (by omega)]; simp
      · simp [e]
    · show y ≤ ms.foldl max (max n m)
      rcases List.mem_cons.mp hy with rfl | hy
      · omega
      · rcases List.mem_cons.mp hy with rfl | hy
        · omega
        · exact h2 y (by simp [hy])
theorem jb_max : JB K ct H0 (rMax K) (fInts gMax) := fun W S s σ H Hs vs as Q rel ia p => by
  obtain ⟨q, ns, d, rfl, h, e, p⟩ := fInts_ok rel ia p
  cases ns with
  | nil => cases e
  | cons n ns =>
    cases e
    refine ⟨q, n :: ns, rfl, h, by simp, fun m hm k => ?_⟩
    have h2 := fold_max n ns
    have e : m = ns.foldl max n := by have := k _ h2.1; have := h2.2 m hm; omega
    rw [e]; exact p.val rel (.int _)
theorem fBls_ok {g : List Bool → D} {S : Sh} {s : Stt} {σ : St} {H Hs : Hp} {vs : List V} {as : List AI} {Q : VK} (rel : Rel K ct H0 S s σ H) (ia : AsOk K ct Hs S s σ H vs as) (p : Pst K ct H0 (RI K ct) W S s σ H Q (fBls g s as)) :
    ∃ q bs, vs = [.ref q] ∧ SqL K H q (bs.map V.bl) ∧ Pst K ct H0 (RI K ct) W S s σ H Q (.ok (.val (g bs)) s) := by
  unfold fBls at p
  split at p
  · rename_i a
    obtain ⟨v, rfl, i⟩ := as1 ia
    split at p
    · rename_i bs e
      obtain ⟨l, e0, e1⟩ := Option.bind_eq_some_iff.mp e
      obtain ⟨q, us, rfl, k1, k2⟩ := viewL_ok rel i e0
      rw [bls_rp k2 e1] at k1
      exact ⟨q, bs, rfl, k1, p⟩
    · exact False.elim p
  · exact False.elim p
theorem jb_all : JB K ct H0 (rAll K) (fBls fun bs => .bl (bs.all id)) := fun W S s σ H Hs vs as Q rel ia p => by
  obtain ⟨q, ns, rfl, h, p⟩ := fBls_ok rel ia p
  exact ⟨q, ns, rfl, h, p.val rel (.bl _)⟩
theorem jb_any : JB K ct H0 (rAny K) (fBls fun bs => .bl (bs.any id)) := fun W S s σ H Hs vs as Q rel ia p => by
  obtain ⟨q, ns, rfl, h, p⟩ := fBls_ok rel ia p
  exact ⟨q, ns, rfl, h, p.val rel (.bl _)⟩
def fI2 (g : Int → Int → Int) (s : Stt) (as : List AI) : Ro AI := match as with
  | [.val (.int i), .val (.int j)] => .ok (.val (.int (g i j))) s
  | _ => .no
theorem jb_min2 : JB K ct H0 rMin2 (fI2 min) := fun W S s σ H Hs vs as Q rel ia p => by
  unfold fI2 at p
  split at p
  · rename_i i j
    obtain ⟨v, w, rfl, h1, h2⟩ := as2 ia
    cases rp_int h1; cases rp_int h2
    exact z_min2 (p.val rel (.int _))
  · exact False.elim p
theorem jb_max2 : JB K ct H0 rMax2 (fI2 max) := fun W S s σ H Hs vs as Q rel ia p => by
  unfold fI2 at p
  split at p
  · rename_i i j
    obtain ⟨v, w, rfl, h1, h2⟩ := as2 ia
    cases rp_int h1; cases rp_int h2
    exact z_max2 (p.val rel (.int _))
  · exact False.elim p
/-- list(x) -/
def fList (s : Stt) (as : List AI) : Ro AI := match as with
  | [a] => match viewL s a with
    | some l => .ok (.new (.lst l)) s
    | none => match viewT s a with
      | some l => .ok (.new (.lst l)) s
      | none => .no
  | _ => .no
theorem jb_list : JB K ct H0 (rListOf K) fList := fun W S s σ H Hs vs as Q rel ia p => by
  unfold fList at p
  split at p
  · rename_i a
    obtain ⟨v, rfl, i⟩ := as1 ia
    split at p
    · rename_i l e
      obtain ⟨q, us, rfl, k1, k2⟩ := viewL_ok rel i e
      exact ⟨q, us, rfl, .inl k1, fun r hr => p.newL rel hr k2⟩
    · split at p
      · rename_i l e
        obtain ⟨q, us, rfl, k1, k2⟩ := viewT_ok rel i e
        exact ⟨q, us, rfl, .inr k1, fun r hr => p.newL rel hr k2⟩
      · exact False.elim p
  · exact False.elim p
/-- isinstance -/
def kindD (M : List Cn) : D → Option String
  | .non => some "NoneType"
  | .bl _ => some "bool"
  | .int _ => some "int"
  | .str _ => some "str"
  | .tup _ => some "tuple"
  | .lst _ => some "list"
  | .dK _ => some "dict"
  | .cid k => M[k]?.bind fun c => match c with
    | .lst _ => some "list"
    | .dK _ => some "dict"
    | _ => none
  | _ => none
def fIsi (s : Stt) (as : List AI) : Ro AI := match as with
  | [a, .val (.ty m)] => match ((look s a).bind (kindD s.M)).bind fun n => kitB n m with
    | some b => .ok (.val (.bl b)) s
    | none => .no
  | _ => .no
theorem kind_ok {S : Sh} {s : Stt} {σ : St} {H : Hp} {v : V} {d : D} {n : String} (rel : Rel K ct H0 S s σ H) (r : Rp K (U ct.lk H) S.α s.M.length v d) (e : kindD s.M d = some n) : TyX K H v (.type n) := by
  cases r with
  | non => cases e; exact .base .non
  | bl b => cases e; exact .base (.bl b)
  | int i => cases e; exact .base (.int i)
  | str x => cases e; exact .base (.str x)
  | tup h r => cases e; exact .base (.tup (uP' h))
  | lst h r => cases e; exact .base (.lst (uL' h))
  | dK h e1 r =>
    cases e
    rcases uK' h with h | ⟨o, h⟩
    · exact .base (.dK h)
    · exact .fDict h
  | ctp h r => cases e
  | clst h r => cases e
  | dT h e1 r => cases e
  | ty m => cases e
  | @cid k h =>
    obtain ⟨c, qc, e1⟩ := Option.bind_eq_some_iff.mp e
    have hh := (rel.ids k c qc).2
    cases c with
    | lst l => cases e1; obtain ⟨vs, h1, h2⟩ := hh; exact .base (.lst h1)
    | dK l => cases e1; obtain ⟨vs, h1, h3, h2⟩ := hh; exact .base (.dK h1)
    | dT l => cases e1
    | obj c fs => cases e1
theorem jb_isi : JB K ct H0 (rIsi K) fIsi := fun W S s σ H Hs vs as Q rel ia p => by
  unfold fIsi at p
  split at p
  · rename_i a m
    obtain ⟨v, w, rfl, h1, h2⟩ := as2 ia
    split at p
    · rename_i b e
      obtain ⟨n, e1, e2⟩ := Option.bind_eq_some_iff.mp e
      obtain ⟨d, e0, e1⟩ := Option.bind_eq_some_iff.mp e1
      have h2' : Rp K S.G S.α s.M.length w (.ty m) := h2
      cases h2'
      exact z_isi (kind_ok rel (look_ok rel h1 e0) e1) (kit_ty e2) (p.val rel (.bl _))
    · exact False.elim p
  · exact False.elim p
end
theorem kb_int_int : kitB "int" "int" = some true := by decide +kernel
theorem kb_int_bool : kitB "int" "bool" = some false := by decide +kernel
section
variable {K : PySem.W.Frag} {ct : Ct} {H0 : Hp} {W : WX}
def inOf (s : Stt) (a b : AI) : Option Bool := match a, b with
  | .val (.str i), .val (.str j) => some (!(Builtin.Str.occurrences j i 0 j.length 1).isEmpty)
  | a, b => match viewD s b with
    | some l => match a with
      | .val (.int i) => some (vl l (.inl i)).isSome
      | .val (.str x) => some (vl l (.inr x)).isSome
      | _ => none
    | none => match pyOf s a, pyOf s b with
      | some d, some (.list ds) => if SeqAt.shaped d && SeqAt.shaped (.list ds) then some (ds.any fun z => PyData.eqv z d) else none
      | _, _ => none
def fIn : Stt → AI → AI → Ro AI := fun s a b => match inOf s a b with
  | some k => .ok (.val (.bl k)) s
  | none => .no
theorem viewD_ok {S : Sh} {s : Stt} {σ : St} {H Hs : Hp} {v : V} {a : AI} {l : List (Key × D)} (r : Rel K ct H0 S s σ H) (i : ItOk K ct Hs S s σ H v a) (e : viewD s a = some l) : ∃ p kvs, v = .ref p ∧ Rd H p (.dK kvs) ∧ RpK K S.G S.α s.M.length kvs l := by
  have frz : ∀ {u : V} {d : D}, Rp K S.G S.α s.M.length u d → dictOf s.M d = some l → ∃ p kvs, u = .ref p ∧ Rd H p (.dK kvs) ∧ RpK K S.G S.α s.M.length kvs l := fun {u d} h e => by
    cases d with
    | dK l' => cases e; cases h with | dK h1 h3 h2 => exact ⟨_, _, rfl, uK' (r.sub _ _ h1), .of h3 h2⟩
    | cid k =>
      cases h
      obtain ⟨c, q, e1⟩ := Option.bind_eq_some_iff.mp (show s.M[k]?.bind Cn.aK = some l from e)
      cases c with
      | dK l' =>
        cases e1
        obtain ⟨vs, h1, h3, h2⟩ := (r.ids k _ q).2
        exact ⟨_, vs, rfl, .inl h1, .of h3 h2⟩
      | _ => cases e1
    | _ => cases e
  have own : ∀ {p : Addr} {c : Cn}, CnOk K ct S s.M.length H p c → dictOf s.M c.toD = some l → ∃ q kvs, V.ref p = .ref q ∧ Rd H q (.dK kvs) ∧ RpK K S.G S.α s.M.length kvs l := fun {p c} h e => by
    cases c with
    | dK l' => cases e; obtain ⟨vs, h1, h3, h2⟩ := h; exact ⟨p, vs, rfl, .inl h1, .of h3 h2⟩
    | lst l' => cases e
    | dT l' => cases e
    | obj _ _ => cases e
  unfold viewD at e
  cases a with
  | val d => exact frz i e
  | new c =>
    obtain ⟨p, rfl, _, _, _, hc, h5⟩ := i
    exact own h5 e
  | slot j =>
    obtain ⟨d, q0, e⟩ := Option.bind_eq_some_iff.mp e
    obtain ⟨en, q1, rfl⟩ := Option.map_eq_some_iff.mp q0
    have q := entAt_eq q1
    have hi : σ[j]? = some (some v) := i
    have hh := r.slot j en q
    cases en with
    | fz d =>
      obtain ⟨v', h1, h2⟩ := hh
      rw [hi] at h1; cases h1
      exact frz h2 e
    | xn x => exact (entAt_xn q1).elim
    | ow c =>
      obtain ⟨p, h1, _, _, hc, h5⟩ := hh
      rw [hi] at h1; cases h1
      exact own h5 e
theorem dget_ok {S : Sh} {n : Nat} {H : Hp} {p : Addr} {kvs : List (Key × V)} {l : List (Key × D)} {k : Key} (h : Rd H p (.dK kvs)) (r : RpK K S.G S.α n kvs l) :
    (vl l k = none ∧ DGet H p (kV k) none) ∨ ∃ v d, vl l k = some d ∧ DGet H p (kV k) (some v) ∧ Rp K S.G S.α n v d := by
  have g : DGet H p (kV k) (valV kvs k) := .inl ⟨kvs, k, h, rfl, rfl⟩
  rcases r.get (k := k) with ⟨h1, h2⟩ | ⟨v, d, h1, h2, h3⟩
  · rw [h2] at g; exact .inl ⟨h1, g⟩
  · rw [h2] at g; exact .inr ⟨v, d, h1, g, h3⟩
theorem in_ok {S : Sh} {s : Stt} {σ : St} {H Hs Hs' : Hp} {v w : V} {a b : AI} {k : Bool} {Q : VK} (g : Bool → Bool) (rel : Rel K ct H0 S s σ H) (i : ItOk K ct Hs S s σ H v a) (j : ItOk K ct Hs' S s σ H w b) (e : inOf s a b = some k) (q : Q (.bl (g k)) H) :
    (∃ d ds, Dp K H v d ∧ Dp K H w (.list ds) ∧ SeqAt.shaped d = true ∧ SeqAt.shaped (.list ds) = true ∧ Q (.bl (g (ds.any fun z => PyData.eqv z d))) H) ∨ rSIn g v w H Q ∨ rDIn g v w H Q := by
  unfold inOf at e
  split at e
  · rename_i x y
    cases rp_str i; cases rp_str j; cases e
    exact .inr (.inl ⟨x, y, rfl, rfl, q⟩)
  · split at e
    · rename_i l e1
      obtain ⟨p, kvs, rfl, h1, h2⟩ := viewD_ok rel j e1
      split at e
      · rename_i x _
        cases rp_int i; cases e
        rcases dget_ok (k := Sum.inl x) h1 h2 with ⟨h3, h4⟩ | ⟨v, d, h3, h4, h5⟩
        · rw [h3] at q; exact .inr (.inr ⟨p, _, rfl, h4, q⟩)
        · rw [h3] at q; exact .inr (.inr ⟨p, _, rfl, h4, q⟩)
      · rename_i x _
        cases rp_str i; cases e
        rcases dget_ok (k := Sum.inr x) h1 h2 with ⟨h3, h4⟩ | ⟨v, d, h3, h4, h5⟩
        · rw [h3] at q; exact .inr (.inr ⟨p, _, rfl, h4, q⟩)
        · rw [h3] at q; exact .inr (.inr ⟨p, _, rfl, h4, q⟩)
      · cases e
    · split at e
      · rename_i d ds e1 e2
        split at e
        · rename_i h
          rw [Bool.and_eq_true] at h
          cases e
          exact .inl ⟨d, ds, pyOf_ok rel i e1, pyOf_ok rel j e2, h.1, h.2, q⟩
        · cases e
      · cases e
theorem j_in : J2 K ct H0 (rInY K) fIn := fun W S s σ H Hs Hs' x y a b Q rel ia ib p => by
  unfold fIn at p
  split at p
  · rename_i k e
    rcases in_ok id rel ia ib e (p.val rel (.bl _)) with h | h | h
    · exact .inl (.inl (.inl h))
    · exact .inl (.inr h)
    · exact .inr h
  · exact False.elim p
/-- an item of a dict, too -/
def fIxY : Stt → AI → AI → Ro AI := fun s a b => match viewD s a with
  | some l => match b with
    | .val (.int i) => match vl l (.inl i) with
      | some d => .ok (.val d) s
      | none => .no
    | .val (.str x) => match vl l (.inr x) with
      | some d => .ok (.val d) s
      | none => .no
    | _ => .no
  | none => fIx s a b
theorem j_ixY : J2 K ct H0 (rIxY K) fIxY := fun W S s σ H Hs Hs' x y a b Q rel ia ib p => by
  unfold fIxY at p
  split at p
  · rename_i l e1
    obtain ⟨q, kvs, rfl, h1, h2⟩ := viewD_ok rel ia e1
    split at p
    · rename_i i
      cases rp_int ib
      split at p
      · rename_i d e
        rcases dget_ok (k := Sum.inl i) h1 h2 with ⟨h3, h4⟩ | ⟨v, d', h3, h4, h5⟩
        · rw [h3] at e; cases e
        · rw [h3] at e; cases e
          exact .inr ⟨q, v, rfl, h4, p.val rel h5⟩
      · exact False.elim p
    · rename_i i
      cases rp_str ib
      split at p
      · rename_i d e
        rcases dget_ok (k := Sum.inr i) h1 h2 with ⟨h3, h4⟩ | ⟨v, d', h3, h4, h5⟩
        · rw [h3] at e; cases e
        · rw [h3] at e; cases e
          exact .inr ⟨q, v, rfl, h4, p.val rel h5⟩
      · exact False.elim p
    · exact False.elim p
  · exact .inl (j_ix W S s σ H Hs Hs' x y a b Q rel ia ib p)
end
end Y
namespace Y
open PySem L2 Z
section
variable {K : PySem.W.Frag} {ct : Ct} {H0 : Hp} {W : WX} {S : Sh} {s : Stt} {σ : St} {H : Hp}
def Ent.own : Ent → Option Cn
  | .ow c => some c
  | .fz _ => none
  | .xn _ => none
def getC (s : Stt) : AI → Option Cn
  | .slot i => (entAt s i).bind Ent.own
  | .val (.cid k) => s.M[k]?
  | _ => none
def setC (s : Stt) (a : AI) (c : Cn) : Stt := match a with
  | .slot i => ⟨s.env.set i (some (.ow c)), s.M⟩
  | .val (.cid k) => ⟨s.env, s.M.set k c⟩
  | _ => s
theorem setC_len {a : AI} {c : Cn} : (setC s a c).M.length = s.M.length := by
  unfold setC
  split
  · rfl
  · exact List.length_set
  · rfl
theorem mut_ok {Hs : Hp} {v : V} {a : AI} {c : Cn} (r : Rel K ct H0 S s σ H) (i : ItOk K ct Hs S s σ H v a) (e : getC s a = some c) :
    ∃ p, v = .ref p ∧ CnOk K ct S s.M.length H p c ∧ ∀ o c', (c.isC = true → c'.isC = true) → CnOk K ct S s.M.length (upd H p o) p c' →
      Rel K ct H0 S (setC s a c') σ (upd H p o) ∧ Stp S s.M.length H S (setC s a c').M.length (upd H p o) := by
  have gen : ∀ (p : Addr) (l : Lab), S.lab p = some l → ∀ o : HO,
      (Same S.G (U ct.lk (upd H p o))) ∧ (∀ a l, S.lab a = some l → S.G a = none ∧ ∃ u, upd H p o a = some u) ∧ (∀ a, upd H p o a = none → H0 a = none) ∧
      (∀ {a : Addr} {c : Cn} {l' : Lab}, S.lab a = some l' → l' ≠ l → CnOk K ct S s.M.length H a c → CnOk K ct S s.M.length (upd H p o) a c) ∧ Stp S s.M.length H S s.M.length (upd H p o) := by
    intro p l hl o
    obtain ⟨hg, u0, hu0⟩ := r.lg p l hl
    refine ⟨fun a u q => ?_, fun a l' q => ?_, fun a q => r.dom a (upd_none.mp q).2, fun {a c l'} q ne h => ?_, ⟨fun _ _ q => q, Nat.le_refl _, fun _ _ => rfl, fun a u q ql => ⟨?_, ql⟩, fun _ _ q => .inl q, fun a q => (upd_none.mp q).2⟩⟩
    · rw [U_ne (fun z => by subst z; rw [hg] at q; cases q)]; exact r.sub a u q
    · obtain ⟨k1, u, k2⟩ := r.lg a l' q
      refine ⟨k1, ?_⟩
      by_cases z : a = p
      · subst z; exact ⟨o, upd_same⟩
      · exact ⟨u, by rw [upd_ne z]; exact k2⟩
    · have z : a ≠ p := fun z => by subst z; rw [hl] at q; cases q; exact ne rfl
      exact h.mono (fun _ _ q => q) (fun _ _ => rfl) (Nat.le_refl _) fun u q => by rw [upd_ne z]; exact q
    · rw [upd_ne (fun z => by subst z; rw [hl] at ql; cases ql)]; exact q
  cases a with
  | new c => cases e
  | slot j =>
    obtain ⟨en, q1, q2⟩ := Option.bind_eq_some_iff.mp e
    cases en with
    | fz d => cases q2
    | xn x => cases q2
    | ow c0 =>
      cases q2
      have q := entAt_eq q1
      obtain ⟨p, h1, h2, h3, h4, h5⟩ := r.slot j _ q
      have hi : σ[j]? = some (some v) := i
      rw [hi] at h1; cases h1
      refine ⟨p, rfl, h5, fun o c' hc hk => ?_⟩
      obtain ⟨g1, g2, g3, g4, g5⟩ := gen p _ h3 o
      refine ⟨⟨g1, g2, g3, ?_, fun m en hm => ?_, fun k cc hk' => ?_⟩, g5⟩
      · show σ.length = (s.env.set j _).length
        rw [List.length_set]; exact r.len
      · have hm1 : (s.env.set j (some (.ow c')))[m]? = some (some en) := hm
        by_cases z : j = m
        · subst z
          have hlt : j < s.env.length := (List.getElem?_eq_some_iff.mp q).1
          rw [List.getElem?_set_self hlt] at hm1
          cases hm1
          exact ⟨p, hi, h2, h3, hc h4, hk⟩
        · rw [List.getElem?_set_ne z] at hm1
          have hh := r.slot m en hm1
          cases en with
          | fz d => exact hh
          | xn x => exact xn_mono (S := S) (n := s.M.length) (H := H) (fun _ _ e => e) (fun _ _ => rfl) (Nat.le_refl _) rfl hh
          | ow c2 =>
            obtain ⟨a, k1, k2, k3, k4, k5⟩ := hh
            exact ⟨a, k1, k2, k3, k4, g4 k3 (fun w => by cases w; exact z rfl) k5⟩
      · obtain ⟨k1, k2⟩ := r.ids k cc hk'
        exact ⟨k1, g4 k1 (fun w => by cases w) k2⟩
  | val d =>
    cases d with
    | cid k =>
      have e1 : s.M[k]? = some c := e
      have i1 : Rp K S.G S.α s.M.length v (.cid k) := i
      cases i1
      obtain ⟨h3, h5⟩ := r.ids k c e1
      refine ⟨_, rfl, h5, fun o c' hc hk => ?_⟩
      obtain ⟨g1, g2, g3, g4, g5⟩ := gen _ _ h3 o
      have hl : (s.M.set k c').length = s.M.length := List.length_set
      refine ⟨⟨g1, g2, g3, r.len, fun m en hm => ?_, fun k' cc hk' => ?_⟩, by show Stp S s.M.length H S (s.M.set k c').length _; rw [hl]; exact g5⟩
      · have hh := r.slot m en hm
        show EntOk K ct H0 S (s.M.set k c').length σ _ m en
        rw [hl]
        cases en with
        | fz d => exact hh
        | xn x => exact xn_mono (S := S) (n := s.M.length) (H := H) (fun _ _ e => e) (fun _ _ => rfl) (Nat.le_refl _) rfl hh
        | ow c2 =>
          obtain ⟨a, k1, k2, k3, k4, k5⟩ := hh
          exact ⟨a, k1, k2, k3, k4, g4 k3 (fun w => by cases w) k5⟩
      · have hk1 : (s.M.set k c')[k']? = some cc := hk'
        show S.lab (S.α k') = some (.id k') ∧ CnOk K ct S (s.M.set k c').length _ (S.α k') cc
        rw [hl]
        by_cases z : k = k'
        · subst z
          have hlt : k < s.M.length := (List.getElem?_eq_some_iff.mp e1).1
          rw [List.getElem?_set_self hlt] at hk1
          cases hk1
          exact ⟨h3, hk⟩
        · rw [List.getElem?_set_ne z] at hk1
          obtain ⟨k1, k2⟩ := r.ids k' cc hk1
          exact ⟨k1, g4 k1 (fun w => by cases w; exact z rfl) k2⟩
    | _ => cases e
/-- a method of a list: the receiver is read, then the values -/
def JM (K : PySem.W.Frag) (ct : Ct) (H0 : Hp) (r : V → List V → Hp → VK → Prop) (f : Stt → AI → List D → Ro AI) : Prop := ∀ W S s σ H Hs x a vs ds Q, Rel K ct H0 S s σ H → ItOk K ct Hs S s σ H x a → RpL K S.G S.α s.M.length vs ds → Pst K ct H0 (RI K ct) W S s σ H Q (f s a ds) → r x vs H Q
def mBM (f : Stt → AI → List D → Ro AI) (mo : Mo AI) (ma : Mo (List D)) : Mo AI := fun s => (mo s).bind fun a s1 => match viewL s1 a with
  | some _ => (ma s1).bind fun ds s2 => f s2 a ds
  | none => .no
theorem ei_bm {r : V → List V → Hp → VK → Prop} {f : Stt → AI → List D → Ro AI} {to : TE} {t : TA} {mo : Mo AI} {ma : Mo (List D)} (hr : JM K ct H0 r f) (ho : Ei K ct H0 W to mo) (ha : EvL K ct H0 W t ma) : Ei K ct H0 W (tBM K "list" r to t) (mBM f mo ma) := fun S s σ H Q rel p =>
  ho S s σ H _ rel (Pst.bind bI p fun S1 s1 H1 x a st1 rel1 i1 p1 => by
    split at p1
    · rename_i l e
      obtain ⟨q, vs, rfl, h1, _⟩ := viewL_ok rel1 i1 e
      exact ⟨.inl ⟨rfl, vs, h1⟩, ha S1 s1 σ H1 _ rel1 (Pst.bind bI p1 fun S2 s2 H2 vs ds st2 rel2 i2 p2 => hr W S2 s2 σ H2 _ _ a vs ds Q rel2 (i1.step st2) i2 p2)⟩
    · exact False.elim p1)
theorem ei_bm0 {r : V → List V → Hp → VK → Prop} {f : Stt → AI → List D → Ro AI} {to : TE} {mo : Mo AI} (hr : JM K ct H0 r f) (ho : Ei K ct H0 W to mo) : Ei K ct H0 W (tBM0 K "list" r to) (mBM f mo vNil) := fun S s σ H Q rel p =>
  ho S s σ H _ rel (Pst.bind bI p fun S1 s1 H1 x a st1 rel1 i1 p1 => by
    split at p1
    · rename_i l e
      obtain ⟨q, vs, rfl, h1, _⟩ := viewL_ok rel1 i1 e
      exact ⟨.inl ⟨rfl, vs, h1⟩, hr W S1 s1 σ H1 _ _ a [] [] Q rel1 i1 .nil p1⟩
    · exact False.elim p1)
def fApp (s : Stt) (a : AI) (ds : List D) : Ro AI := match ds, getC s a with
  | [d], some (.lst l) => if l.length < sizeLine then .ok (.val .non) (setC s a (.lst (l ++ [d]))) else .no
  | _, _ => .no
theorem Pst.mut {a : AI} {c' : Cn} {Q : VK} {H' : Hp} (p : Pst K ct H0 (RI K ct) W S s σ H Q (.ok (.val .non) (setC s a c'))) (h : Rel K ct H0 S (setC s a c') σ H' ∧ Stp S s.M.length H S (setC s a c').M.length H') : Q .non H' := p S .non H' h.2 h.1 .non
theorem jm_app : JM K ct H0 rAppend fApp := fun W S s σ H Hs x a vs ds Q rel i r p => by
  unfold fApp at p
  split at p
  · rename_i d l e
    split at p
    · rename_i hz
      obtain ⟨q, rfl, ⟨us, h1, h2⟩, h3⟩ := mut_ok rel i e
      cases r with
      | cons r1 r2 =>
        cases r2
        exact ⟨q, us, _, rfl, rfl, h1, by rw [h2.length]; exact hz, p.mut (h3 _ (.lst (l ++ [d])) (fun _ => rfl) ⟨_, upd_same, h2.append (.cons r1 .nil)⟩)⟩
    · exact False.elim p
  · exact False.elim p
def fRev (s : Stt) (a : AI) (ds : List D) : Ro AI := match ds, getC s a with
  | [], some (.lst l) => .ok (.val .non) (setC s a (.lst l.reverse))
  | _, _ => .no
theorem jm_rev : JM K ct H0 rReverse fRev := fun W S s σ H Hs x a vs ds Q rel i r p => by
  unfold fRev at p
  split at p
  · rename_i l e
    obtain ⟨q, rfl, ⟨us, h1, h2⟩, h3⟩ := mut_ok rel i e
    cases r
    exact ⟨q, us, rfl, rfl, h1, p.mut (h3 _ (.lst l.reverse) (fun _ => rfl) ⟨_, upd_same, h2.rev⟩)⟩
  · exact False.elim p
def PstS (K : PySem.W.Frag) (ct : Ct) (H0 : Hp) (W : WX) (S : Sh) (s : Stt) (H : Hp) (Dn : Ends) : Rs → Prop
  | .nx s' => ∀ S' σ' H', Stp S s.M.length H S' s'.M.length H' → Rel K ct H0 S' s' σ' H' → Dn.nx σ' H'
  | .bk s' => ∀ S' σ' H', Stp S s.M.length H S' s'.M.length H' → Rel K ct H0 S' s' σ' H' → Dn.bk σ' H'
  | .ct s' => ∀ S' σ' H', Stp S s.M.length H S' s'.M.length H' → Rel K ct H0 S' s' σ' H' → Dn.ct σ' H'
  | .rt a s' => ∀ S' σ' v H', Stp S s.M.length H S' s'.M.length H' → Rel K ct H0 S' s' σ' H' → ItOk K ct H0 S' s' [] H' v a → Dn.rt v H'
  | .er x s' => ∀ S' σ' H' dd, Stp S s.M.length H S' s'.M.length H' → Rel K ct H0 S' s' σ' H' → XOk K S' s'.M.length H' x dd → W (.ref (ct x.cls)) dd σ' H'
  | .no => False
def Sv (K : PySem.W.Frag) (ct : Ct) (H0 : Hp) (W : WX) (t : TS) (m : Ms) : Prop := ∀ S s σ H Dn, Rel K ct H0 S s σ H → PstS K ct H0 W S s H Dn (m s) → t Dn σ H
theorem PstS.from {S1 : Sh} {s1 : Stt} {H1 : Hp} {Dn : Ends} {r : Rs} (h : PstS K ct H0 W S s H Dn r) (t : Stp S s.M.length H S1 s1.M.length H1) : PstS K ct H0 W S1 s1 H1 Dn r := by
  cases r with
  | nx s' => exact fun S' σ' H' st rel => h S' σ' H' (t.trans st) rel
  | bk s' => exact fun S' σ' H' st rel => h S' σ' H' (t.trans st) rel
  | ct s' => exact fun S' σ' H' st rel => h S' σ' H' (t.trans st) rel
  | rt a s' => exact fun S' σ' v H' st rel => h S' σ' v H' (t.trans st) rel
  | er x s' => exact fun S' σ' H' dd st rel => h S' σ' H' dd (t.trans st) rel
  | no => exact h
/-- an expression's result goes on to a statement's -/
def Ro.toS {α : Type} (r : Ro α) (f : α → Ms) : Rs := match r with
  | .ok a s => f a s
  | .er x s => .er x s
  | .no => .no
theorem PstS.bind {β α : Type} {R : RR β α} {Dn : Ends} {Q1 : β → Hp → Prop} {r : Ro α} {f : α → Ms} (h : PstS K ct H0 W S s H Dn (r.toS f))
    (k : ∀ S1 s1 H1 x a, Stp S s.M.length H S1 s1.M.length H1 → Rel K ct H0 S1 s1 σ H1 → R H S1 s1 σ H1 x a → PstS K ct H0 W S s H Dn (f a s1) → Q1 x H1) : Pst K ct H0 R W S s σ H Q1 r := by
  cases r with
  | ok a s' => exact fun S' x H' st rel q => k S' s' H' x a st rel q h
  | er x s' => exact fun S' H' dd st rel q => h S' σ H' dd st rel q
  | no => exact h
def mSeq (m1 m2 : Ms) : Ms := fun s => match m1 s with
  | .nx s1 => m2 s1
  | r => r
theorem sv_seq {t u : TS} {m1 m2 : Ms} (h1 : Sv K ct H0 W t m1) (h2 : Sv K ct H0 W u m2) : Sv K ct H0 W (tSeq t u) (mSeq m1 m2) := fun S s σ H Dn rel p => h1 S s σ H _ rel (by
  unfold mSeq at p
  cases q : m1 s with
  | nx s1 => rw [q] at p; exact fun S1 σ1 H1 st rel1 => h2 S1 s1 σ1 H1 Dn rel1 (PstS.from p st)
  | bk s1 => rw [q] at p; exact p
  | ct s1 => rw [q] at p; exact p
  | rt a s1 => rw [q] at p; exact p
  | er x s1 => rw [q] at p; exact p
  | no => rw [q] at p; exact p)
def mNext : Ms := fun s => .nx s
theorem sv_next : Sv K ct H0 W tNext mNext := fun S s σ H Dn rel p => p S σ H .refl rel
def mDrop (m : Mo AI) : Ms := fun s => (m s).toS fun _ s1 => .nx s1
theorem sv_drop {te : TE} {m : Mo AI} (h : Ei K ct H0 W te m) : Sv K ct H0 W (tDrop te) (mDrop m) := fun S s σ H Dn rel p => h S s σ H _ rel (PstS.bind p fun S1 s1 H1 x a st1 rel1 i1 p1 => p1 S1 σ H1 st1 rel1)
def mIfS (c : Mo Bool) (m1 m2 : Ms) : Ms := fun s => (c s).toS fun b s1 => if b = true then m1 s1 else m2 s1
theorem sv_if {c : TT} {t u : TS} {mc : Mo Bool} {m1 m2 : Ms} (hc : Et K ct H0 W c mc) (h1 : Sv K ct H0 W t m1) (h2 : Sv K ct H0 W u m2) : Sv K ct H0 W (tIfS c t u) (mIfS mc m1 m2) := fun S s σ H Dn rel p =>
  hc S s σ H _ rel (PstS.bind p fun S1 s1 H1 x a st1 rel1 i1 p1 => by
    cases (show x = a from i1)
    cases x with
    | true => rw [if_pos rfl] at p1 ⊢; exact h1 S1 s1 σ H1 Dn rel1 (PstS.from p1 st1)
    | false => rw [if_neg Bool.false_ne_true] at p1 ⊢; exact h2 S1 s1 σ H1 Dn rel1 (PstS.from p1 st1))
def Sh.un (S : Sh) (i : Nat) : Sh := ⟨S.G, S.α, fun a => if S.lab a = some (.slot i) then none else S.lab a⟩
theorem un_lab {i : Nat} {a : Addr} {l : Lab} (h : S.lab a = some l) (ne : l ≠ .slot i) : (S.un i).lab a = some l := by
  show (if S.lab a = some (.slot i) then none else S.lab a) = _
  rw [if_neg (fun z => by rw [h] at z; cases z; exact ne rfl)]; exact h
theorem un_of {i : Nat} {a : Addr} {l : Lab} (h : (S.un i).lab a = some l) : S.lab a = some l := by
  have h1 : (if S.lab a = some (.slot i) then none else S.lab a) = some l := h
  split at h1
  · cases h1
  · exact h1
theorem Stp.un {n : Nat} {i : Nat} : Stp S n H (S.un i) n H := ⟨fun _ _ e => e, Nat.le_refl _, fun _ _ => rfl, fun a o h l => ⟨h, by
  show (if S.lab a = some (.slot i) then none else S.lab a) = none
  split
  · rfl
  · exact l⟩, fun _ _ e => .inl e, fun _ h => h⟩
theorem cn_un {n i : Nat} {p : Addr} {c : Cn} (h : CnOk K ct S n H p c) : CnOk K ct (S.un i) n H p c := h.mono (fun _ _ e => e) (fun _ _ => rfl) (Nat.le_refl _) (fun _ e => e)
/-- slot i is given another value -/
theorem Rel.setFz {i : Nat} {v : V} {d : D} (r : Rel K ct H0 S s σ H) (h : Rp K S.G S.α s.M.length v d) : Rel K ct H0 (S.un i) ⟨s.env.set i (some (.fz d)), s.M⟩ (σ.set i (some v)) H := by
  refine ⟨r.sub, fun a l q => r.lg a l (un_of q), r.dom, by rw [List.length_set]; show _ = (s.env.set i _).length; rw [List.length_set]; exact r.len, fun j en q => ?_, fun k c q => ?_⟩
  · have q1 : (s.env.set i (some (.fz d)))[j]? = some (some en) := q
    by_cases z : i = j
    · subst z
      have hlt : i < s.env.length := by
        have := (List.getElem?_eq_some_iff.mp q1).1
        rw [List.length_set] at this; exact this
      rw [List.getElem?_set_self hlt] at q1
      cases q1
      exact ⟨v, List.getElem?_set_self (by rw [r.len]; exact hlt), h⟩
    · rw [List.getElem?_set_ne z] at q1
      have hh := r.slot j en q1
      cases en with
      | fz d' => obtain ⟨w, k1, k2⟩ := hh; exact ⟨w, by rw [List.getElem?_set_ne z]; exact k1, k2⟩
      | xn x => exact xn_mono (S := S) (n := s.M.length) (H := H) (fun _ _ e => e) (fun _ _ => rfl) (Nat.le_refl _) (List.getElem?_set_ne z) hh
      | ow c =>
        obtain ⟨p, k1, k2, k3, k4, k5⟩ := hh
        exact ⟨p, by rw [List.getElem?_set_ne z]; exact k1, k2, un_lab k3 (fun w => by cases w; exact z rfl), k4, cn_un k5⟩
  · obtain ⟨k1, k2⟩ := r.ids k c q
    exact ⟨un_lab k1 (fun w => by cases w), cn_un k2⟩
theorem Rel.setN {i : Nat} (r : Rel K ct H0 S s σ H) : Rel K ct H0 (S.un i) ⟨s.env.set i none, s.M⟩ σ H := by
  refine ⟨r.sub, fun a l q => r.lg a l (un_of q), r.dom, by show _ = (s.env.set i _).length; rw [List.length_set]; exact r.len, fun j en q => ?_, fun k c q => ?_⟩
  · have q1 : (s.env.set i none)[j]? = some (some en) := q
    by_cases z : i = j
    · subst z
      have hlt : i < s.env.length := by
        have := (List.getElem?_eq_some_iff.mp q1).1
        rw [List.length_set] at this; exact this
      rw [List.getElem?_set_self hlt] at q1
      cases q1
    · rw [List.getElem?_set_ne z] at q1
      have hh := r.slot j en q1
      cases en with
      | fz d' => exact hh
      | xn x => exact xn_mono (S := S) (n := s.M.length) (H := H) (fun _ _ e => e) (fun _ _ => rfl) (Nat.le_refl _) rfl hh
      | ow c =>
        obtain ⟨p, k1, k2, k3, k4, k5⟩ := hh
        exact ⟨p, k1, k2, un_lab k3 (fun w => by cases w; exact z rfl), k4, cn_un k5⟩
  · obtain ⟨k1, k2⟩ := r.ids k c q
    exact ⟨un_lab k1 (fun w => by cases w), cn_un k2⟩
def Sh.cl (S : Sh) (i : Nat) (p : Addr) : Sh := ⟨S.G, S.α, fun a => if a = p then some (.slot i) else if S.lab a = some (.slot i) then none else S.lab a⟩
theorem Rel.setOw {i : Nat} {p : Addr} {c : Cn} (r : Rel K ct H0 S s σ H) (h0 : H0 p = none) (hl : S.lab p = none) (hg : S.G p = none) (hc : c.isC = true) (h : CnOk K ct S s.M.length H p c) : Rel K ct H0 (S.cl i p) ⟨s.env.set i (some (.ow c)), s.M⟩ (σ.set i (some (.ref p))) H := by
  have lb : ∀ {a : Addr} {l : Lab}, S.lab a = some l → l ≠ .slot i → (S.cl i p).lab a = some l := fun {a l} hh ne => by
    show (if a = p then _ else if S.lab a = some (.slot i) then none else S.lab a) = _
    rw [if_neg (fun z => by subst z; rw [hl] at hh; cases hh), if_neg (fun z => by rw [hh] at z; cases z; exact ne rfl)]; exact hh
  have cn : ∀ {a : Addr} {c : Cn}, CnOk K ct S s.M.length H a c → CnOk K ct (S.cl i p) s.M.length H a c := fun {a c} h => h.mono (fun _ _ e => e) (fun _ _ => rfl) (Nat.le_refl _) (fun _ e => e)
  refine ⟨r.sub, fun a l q => ?_, r.dom, by rw [List.length_set]; show _ = (s.env.set i _).length; rw [List.length_set]; exact r.len, fun j en q => ?_, fun k c' q => ?_⟩
  · have q1 : (if a = p then some (Lab.slot i) else if S.lab a = some (.slot i) then none else S.lab a) = some l := q
    by_cases z : a = p
    · subst z; exact ⟨hg, h.some⟩
    · rw [if_neg z] at q1
      split at q1
      · cases q1
      · exact r.lg a l q1
  · have q1 : (s.env.set i (some (.ow c)))[j]? = some (some en) := q
    by_cases z : i = j
    · subst z
      have hlt : i < s.env.length := by
        have := (List.getElem?_eq_some_iff.mp q1).1
        rw [List.length_set] at this; exact this
      rw [List.getElem?_set_self hlt] at q1
      cases q1
      exact ⟨p, List.getElem?_set_self (by rw [r.len]; exact hlt), h0, if_pos rfl, hc, cn h⟩
    · rw [List.getElem?_set_ne z] at q1
      have hh := r.slot j en q1
      cases en with
      | fz d' => obtain ⟨w, k1, k2⟩ := hh; exact ⟨w, by rw [List.getElem?_set_ne z]; exact k1, k2⟩
      | xn x => exact xn_mono (S := S) (n := s.M.length) (H := H) (fun _ _ e => e) (fun _ _ => rfl) (Nat.le_refl _) (List.getElem?_set_ne z) hh
      | ow c' =>
        obtain ⟨a, k1, k2, k3, k4, k5⟩ := hh
        exact ⟨a, by rw [List.getElem?_set_ne z]; exact k1, k2, lb k3 (fun w => by cases w; exact z rfl), k4, cn k5⟩
  · obtain ⟨k1, k2⟩ := r.ids k c' q
    exact ⟨lb k1 (fun w => by cases w), cn k2⟩
theorem Stp.claim {S' : Sh} {n n' i : Nat} {H' : Hp} {p : Addr} (t : Stp S n H S' n' H') (hp : H p = none) : Stp S n H (S'.cl i p) n' H' where
  g := t.g
  le := t.le
  al := t.al
  fr := fun a o h l => by
    obtain ⟨h1, h2⟩ := t.fr a o h l
    refine ⟨h1, ?_⟩
    show (if a = p then _ else if S'.lab a = some (.slot i) then none else S'.lab a) = none
    rw [if_neg (ne_of_none h hp)]
    split
    · rfl
    · exact h2
  gn := t.gn
  dom := t.dom
def asg (i : Nat) (a : AI) : Ms := fun s => match a with
  | .val d => .nx ⟨s.env.set i (some (.fz d)), s.M⟩
  | .new c => .nx ⟨s.env.set i (some (.ow c)), s.M⟩
  | .slot j => (toV (.slot j) s).toS fun d s1 => .nx ⟨s1.env.set i (some (.fz d)), s1.M⟩
def mAsg (i : Nat) (m : Mo AI) : Ms := fun s => (m s).toS (asg i)
theorem sv_asg {i : Nat} {te : TE} {m : Mo AI} (h : Ei K ct H0 W te m) : Sv K ct H0 W (tAsg te (gName i)) (mAsg i m) := fun S s σ H Dn rel p =>
  h S s σ H _ rel (PstS.bind p fun S1 s1 H1 x a st1 rel1 i1 p1 => by
    show Dn.nx (σ.set i (some x)) H1
    cases a with
    | val d => exact p1 (S1.un i) _ H1 (st1.trans .un) (rel1.setFz i1)
    | new c =>
      obtain ⟨q, rfl, h1, h2, h3, h4, h5⟩ := i1
      exact p1 (S1.cl i q) _ H1 (st1.claim h1) (rel1.setOw (rel.dom q h1) h2 h3 h4 h5)
    | slot j =>
      have hi : σ[j]? = some (some x) := i1
      have p1 : PstS K ct H0 W S s H Dn ((match entAt s1 j with | some (.ow c) => Ro.ok c.toD ⟨s1.env.set j (some (.fz c.toD)), s1.M⟩ | some (.fz d) => Ro.ok d s1 | _ => Ro.no).toS fun d s1 => .nx ⟨s1.env.set i (some (.fz d)), s1.M⟩) := p1
      cases qe : entAt s1 j with
      | none => rw [qe] at p1; exact False.elim p1
      | some en =>
        rw [qe] at p1
        cases en with
        | fz d =>
          obtain ⟨v', k1, k2⟩ := rel1.slot j _ (entAt_eq qe)
          rw [hi] at k1; cases k1
          exact p1 (S1.un i) _ H1 (st1.trans .un) (rel1.setFz k2)
        | xn x => exact False.elim p1
        | ow c =>
          obtain ⟨S2, v', k1, st2, rel2, k2⟩ := frz_slot rel1 (entAt_eq qe)
          rw [hi] at k1; cases k1
          exact p1 (S2.un i) _ H1 ((st1.trans st2).trans .un) (rel2.setFz k2))
def ret (a : AI) : Ms := fun s => match a with
  | .val d => .rt (.val d) s
  | .new c => .rt (.new c) s
  | .slot i => match entAt s i with
    | some (.ow c) => .rt (.new c) ⟨s.env.set i none, s.M⟩
    | some (.fz d) => .rt (.val d) s
    | _ => .no
def mRet (m : Mo AI) : Ms := fun s => (m s).toS ret
theorem sv_ret {te : TE} {m : Mo AI} (h : Ei K ct H0 W te m) : Sv K ct H0 W (tRet te) (mRet m) := fun S s σ H Dn rel p =>
  h S s σ H _ rel (PstS.bind p fun S1 s1 H1 x a st1 rel1 i1 p1 => by
    cases a with
    | val d => exact p1 S1 σ x H1 st1 rel1 i1
    | new c =>
      obtain ⟨q, rfl, h1, h2, h3, h4, h5⟩ := i1
      exact p1 S1 σ _ H1 st1 rel1 ⟨q, rfl, rel.dom q h1, h2, h3, h4, h5⟩
    | slot j =>
      have hi : σ[j]? = some (some x) := i1
      have p1 : PstS K ct H0 W S s H Dn (match entAt s1 j with | some (.ow c) => .rt (.new c) ⟨s1.env.set j none, s1.M⟩ | some (.fz d) => .rt (.val d) s1 | _ => .no) := p1
      cases qe : entAt s1 j with
      | none => rw [qe] at p1; exact False.elim p1
      | some en =>
        rw [qe] at p1
        cases en with
        | fz d =>
          obtain ⟨v', k1, k2⟩ := rel1.slot j _ (entAt_eq qe)
          rw [hi] at k1; cases k1
          exact p1 S1 σ x H1 st1 rel1 k2
        | xn x => exact False.elim p1
        | ow c =>
          obtain ⟨q, k1, k2, k3, k4, k5⟩ := rel1.slot j _ (entAt_eq qe)
          rw [hi] at k1; cases k1
          refine p1 (S1.un j) σ _ H1 (st1.trans .un) rel1.setN ⟨q, rfl, k2, ?_, (rel1.lg q _ k3).1, k4, cn_un k5⟩
          show (if S1.lab q = some (.slot j) then none else S1.lab q) = none
          rw [if_pos k3])
def mRetN : Ms := fun s => .rt (.val .non) s
end
end Y
namespace Y
open PySem L2 Z
abbrev Tg := D → Stt → Option Stt
abbrev Tgs := List D → Stt → Option Stt
/-- what of the slots is left when some are wiped -/
def Keeps (js : List Nat) (σ σ' : St) : Prop := ∀ ws : List Nat, (∀ j ∈ js, j ∈ ws) → wipe σ' ws = wipe σ ws
theorem wipe_in {σ : St} {i : Nat} : ∀ {vs : List Nat}, i ∈ vs → i < σ.length → (wipe σ vs)[i]? = some none
  | v :: vs, h, hl => by
    show ((wipe σ vs).set v none)[i]? = _
    by_cases e : v = i
    · subst e; rw [List.getElem?_set_self (by rw [wipe_length]; exact hl)]
    · rw [List.getElem?_set_ne e]
      rcases List.mem_cons.mp h with z | z
      · exact absurd z.symm e
      · exact wipe_in z hl
theorem keeps_set {σ : St} {i : Nat} {x : Option V} : Keeps [i] σ (σ.set i x) := fun ws h => by
  refine List.ext_getElem? fun k => ?_
  by_cases hk : k ∈ ws
  · by_cases hl : k < σ.length
    · rw [wipe_in hk (by rw [List.length_set]; exact hl), wipe_in hk hl]
    · rw [List.getElem?_eq_none_iff.mpr (by rw [wipe_length, List.length_set]; omega), List.getElem?_eq_none_iff.mpr (by rw [wipe_length]; omega)]
  · rw [wipe_out hk, wipe_out hk]
    have : i ≠ k := fun z => hk (z ▸ h i (by simp))
    rw [List.getElem?_set_ne this]
theorem keeps_refl {σ : St} {js : List Nat} : Keeps js σ σ := fun _ _ => rfl
theorem Keeps.trans {σ σ1 σ2 : St} {js ks : List Nat} (a : Keeps js σ σ1) (b : Keeps ks σ1 σ2) : Keeps (js ++ ks) σ σ2 := fun ws h => (b ws fun j hj => h j (by simp [hj])).trans (a ws fun j hj => h j (by simp [hj]))
section
variable {K : PySem.W.Frag} {ct : Ct} {H0 : Hp} {W : WX} {S : Sh} {s : Stt} {σ : St} {H : Hp}
def Sg (K : PySem.W.Frag) (ct : Ct) (H0 : Hp) (js : List Nat) (g : TG) (f : Tg) : Prop := ∀ S s σ H v d s' (Q : St → Hp → Prop), Rel K ct H0 S s σ H → Rp K S.G S.α s.M.length v d → f d s = some s' →
  (∀ S' σ', Stp S s.M.length H S' s'.M.length H → Rel K ct H0 S' s' σ' H → Keeps js σ σ' → S'.G = S.G → S'.α = S.α → Q σ' H) → g v σ H Q
def Sgs (K : PySem.W.Frag) (ct : Ct) (H0 : Hp) (js : List Nat) (g : TGs) (f : Tgs) : Prop := ∀ S s σ H vs ds s' (Q : St → Hp → Prop), Rel K ct H0 S s σ H → RpL K S.G S.α s.M.length vs ds → f ds s = some s' →
  (∀ S' σ', Stp S s.M.length H S' s'.M.length H → Rel K ct H0 S' s' σ' H → Keeps js σ σ' → S'.G = S.G → S'.α = S.α → Q σ' H) → g vs σ H Q
def tgN (i : Nat) : Tg := fun d s => some ⟨s.env.set i (some (.fz d)), s.M⟩
theorem sg_name {i : Nat} : Sg K ct H0 [i] (gName i) (tgN i) := fun S s σ H v d s' Q rel r e q => by
  cases e
  exact q (S.un i) _ .un (rel.setFz r) keeps_set rfl rfl
def tgNil : Tgs := fun ds s => match ds with
  | [] => some s
  | _ => none
def tgCons (f : Tg) (r : Tgs) : Tgs := fun ds s => match ds with
  | [] => none
  | d :: ds => (f d s).bind fun s1 => r ds s1
def tgT (n : Nat) (f : Tgs) : Tg := fun d s => match tupOf d with
  | some l => if l.length = n then f l s else none
  | none => none
theorem sgs_nil : Sgs K ct H0 [] gNil tgNil := fun S s σ H vs ds s' Q rel r e q => by
  cases r with
  | nil => cases e; exact ⟨rfl, q S σ .refl rel keeps_refl rfl rfl⟩
  | cons a b => cases e
theorem sgs_cons {js ks : List Nat} {g : TG} {gs : TGs} {f : Tg} {r : Tgs} (h1 : Sg K ct H0 js g f) (h2 : Sgs K ct H0 ks gs r) : Sgs K ct H0 (js ++ ks) (gCons g gs) (tgCons f r) := fun S s σ H vs ds s' Q rel rr e q => by
  cases rr with
  | nil => cases e
  | cons a b =>
    obtain ⟨s1, e1, e2⟩ := Option.bind_eq_some_iff.mp e
    refine ⟨_, _, rfl, h1 S s σ H _ _ s1 _ rel a e1 fun S1 σ1 st1 rel1 k1 g1 a1 => ?_⟩
    exact h2 S1 s1 σ1 H _ _ s' _ rel1 (b.step st1) e2 fun S2 σ2 st2 rel2 k2 g2 a2 => q S2 σ2 (st1.trans st2) rel2 (k1.trans k2) (g2.trans g1) (a2.trans a1)
theorem sg_tup {js : List Nat} {n : Nat} {gs : TGs} {f : Tgs} (h : Sgs K ct H0 js gs f) : Sg K ct H0 js (gTup K n gs) (tgT n f) := fun S s σ H v d s' Q rel r e q => by
  unfold tgT at e
  split at e
  · rename_i l el
    split at e
    · rename_i hl
      obtain ⟨p, vs, rfl, k1, k2⟩ := viewT_ok (Hs := H) (a := .val d) (v := v) rel r (by unfold viewT look; exact el)
      exact ⟨p, vs, rfl, k1, by rw [k2.length]; exact hl, h S s σ H vs l s' Q rel k2 e q⟩
    · cases e
  · cases e
def mAsgT (g : Tg) (m : Mo AI) : Ms := fun s => (mV m s).toS fun d s1 => match g d s1 with
  | some s2 => .nx s2
  | none => .no
structure Im where
  xs : List D
  ck : Option (Nat × Cn)
def chk : Option (Nat × Cn) → Stt → Prop
  | none, _ => True
  | some (k, c), s => s.M[k]? = some c
def Wk (K : PySem.W.Frag) (ct : Ct) (H0 : Hp) (S : Sh) (n : Nat) (H : Hp) (J : It) (im : Im) : Prop := ∀ S1 s1 σ1 H1, Stp S n H S1 s1.M.length H1 → Rel K ct H0 S1 s1 σ1 H1 → chk im.ck s1 →
  (∀ i d, im.xs[i]? = some d → J.go i H1 ∧ ∀ x H2, J.yld i H1 x H2 → ∃ S2, Stp S1 s1.M.length H1 S2 s1.M.length H2 ∧ Rel K ct H0 S2 s1 σ1 H2 ∧ Rp K S2.G S2.α s1.M.length x d) ∧ J.stop im.xs.length H1
def RW (K : PySem.W.Frag) (ct : Ct) (H0 : Hp) : RR It Im := fun _ S s _ H J im => Wk K ct H0 S s.M.length H J im
abbrev Jw (K : PySem.W.Frag) (ct : Ct) (H0 : Hp) (W : WX) (wi : TI) (m : Mo Im) : Prop := Jd K ct H0 (RW K ct H0) W wi m
theorem bW : Bck (RW K ct H0) := fun _ _ _ _ _ _ _ _ _ h => h
def rng (lo : Int) (n : Nat) : List D := (List.range n).map fun i => .int (lo + (i : Nat))
theorem wk_range {lo : Int} {n m : Nat} : Wk K ct H0 S m H (Itr lo n) ⟨rng lo n, none⟩ := fun S1 s1 σ1 H1 st rel _ => by
  refine ⟨fun i d e => ?_, ?_⟩
  · unfold rng at e
    rw [List.getElem?_map] at e
    obtain ⟨j, e1, rfl⟩ := Option.map_eq_some_iff.mp e
    have hj := (List.getElem?_eq_some_iff.mp e1)
    obtain ⟨hlt, ej⟩ := hj
    rw [List.getElem_range] at ej
    rw [List.length_range] at hlt
    subst ej
    refine ⟨hlt, fun x H2 h => ?_⟩
    obtain ⟨rfl, rfl⟩ := h
    exact ⟨S1, .refl, rel, .int _⟩
  · show n ≤ (rng lo n).length
    unfold rng; rw [List.length_map, List.length_range]; exact Nat.le_refl _
/-- the bounds of a range; decided classically, or whnf runs 2 ^ 62 in unary -/
def CRg1 (n : Int) : Prop := -(2 ^ 62) ≤ n ∧ n < 2 ^ 62
def CRg2 (i j : Int) : Prop := -(2 ^ 62) ≤ i ∧ i < 2 ^ 62 ∧ -(2 ^ 62) ≤ j ∧ j < 2 ^ 62
open Classical in
noncomputable def mRng1 (m : Mo (List AI)) : Mo Im := fun s => (m s).bind fun as s1 => match as with
  | [.val (.int n)] => if CRg1 n then .ok ⟨rng 0 n.toNat, none⟩ s1 else .no
  | _ => .no
theorem jw_rng1 {ta : TA} {m : Mo (List AI)} (h : EaL K ct H0 W ta m) : Jw K ct H0 W (iRng1 ta) (mRng1 m) := fun S s σ H Q rel p =>
  h S s σ H _ rel (Pst.bind bW p fun S1 s1 H1 x a st1 rel1 i1 p1 => by
    split at p1
    · rename_i n
      obtain ⟨v, rfl, k⟩ := as1 i1
      cases rp_int k
      split at p1
      · rename_i hz
        exact ⟨n, rfl, hz.1, hz.2, p1 S1 _ H1 .refl rel1 wk_range⟩
      · exact False.elim p1
    · exact False.elim p1)
open Classical in
noncomputable def mRng2 (m : Mo (List AI)) : Mo Im := fun s => (m s).bind fun as s1 => match as with
  | [.val (.int i), .val (.int j)] => if CRg2 i j then .ok ⟨rng i (j - i).toNat, none⟩ s1 else .no
  | _ => .no
theorem jw_rng2 {ta : TA} {m : Mo (List AI)} (h : EaL K ct H0 W ta m) : Jw K ct H0 W (iRng2 ta) (mRng2 m) := fun S s σ H Q rel p =>
  h S s σ H _ rel (Pst.bind bW p fun S1 s1 H1 x a st1 rel1 i1 p1 => by
    split at p1
    · rename_i i j
      obtain ⟨v, w, rfl, k1, k2⟩ := as2 i1
      cases rp_int k1; cases rp_int k2
      split at p1
      · rename_i hz
        exact ⟨i, j, rfl, hz, p1 S1 _ H1 .refl rel1 wk_range⟩
      · exact False.elim p1
    · exact False.elim p1)
def rngC (lo c : Int) (n : Nat) : List D := (List.range n).map fun i => .int (lo + ((i : Nat) : Int) * c)
theorem wk_rngC {lo c : Int} {n m : Nat} : Wk K ct H0 S m H (Itc lo c n) ⟨rngC lo c n, none⟩ := fun S1 s1 σ1 H1 st rel _ => by
  refine ⟨fun i d e => ?_, ?_⟩
  · unfold rngC at e
    rw [List.getElem?_map] at e
    obtain ⟨j, e1, rfl⟩ := Option.map_eq_some_iff.mp e
    obtain ⟨hlt, ej⟩ := List.getElem?_eq_some_iff.mp e1
    rw [List.getElem_range] at ej
    rw [List.length_range] at hlt
    subst ej
    refine ⟨hlt, fun x H2 h => ?_⟩
    obtain ⟨rfl, rfl⟩ := h
    exact ⟨S1, .refl, rel, .int _⟩
  · show n ≤ (rngC lo c n).length
    unfold rngC; rw [List.length_map, List.length_range]; exact Nat.le_refl _
open Classical in
noncomputable def mRng3 (m : Mo (List AI)) : Mo Im := fun s => (m s).bind fun as s1 => match as with
  | [.val (.int i), .val (.int j), .val (.int c)] => if RgC i j c (Builtin.Range.rangeSize i j c).toNat then .ok ⟨rngC i c (Builtin.Range.rangeSize i j c).toNat, none⟩ s1 else .no
  | _ => .no
theorem as3 {Hs : Hp} {vs : List V} {a b c : AI} (h : AsOk K ct Hs S s σ H vs [a, b, c]) : ∃ v w u, vs = [v, w, u] ∧ ItOk K ct Hs S s σ H v a ∧ ItOk K ct Hs S s σ H w b ∧ ItOk K ct Hs S s σ H u c := by
  cases h with | cons i r => cases r with | cons j r => cases r with | cons k r => cases r; exact ⟨_, _, _, rfl, i, j, k⟩
theorem jw_rng3 {ta : TA} {m : Mo (List AI)} (h : EaL K ct H0 W ta m) : Jw K ct H0 W (iRng3 ta) (mRng3 m) := fun S s σ H Q rel p =>
  h S s σ H _ rel (Pst.bind bW p fun S1 s1 H1 x a st1 rel1 i1 p1 => by
    split at p1
    · rename_i i j c
      obtain ⟨v, w, u, rfl, k1, k2, k3⟩ := as3 i1
      cases rp_int k1; cases rp_int k2; cases rp_int k3
      split at p1
      · rename_i hz
        exact ⟨i, j, c, _, rfl, hz, p1 S1 _ H1 .refl rel1 wk_rngC⟩
      · exact False.elim p1
    · exact False.elim p1)
/-- a list's value, walked -/
def ckOf : D → List D → Option (Nat × Cn)
  | .cid k, l => some (k, .lst l)
  | _, _ => none
theorem list_at {v : V} {d : D} {l : List D} {n : Nat} (rel : Rel K ct H0 S s σ H) (r : Rp K S.G S.α s.M.length v d) (e : listOf s.M d = some l) : ∃ p, v = .ref p ∧ ∀ S1 s1 σ1 H1, Stp S s.M.length H S1 s1.M.length H1 → Rel K ct H0 S1 s1 σ1 H1 → chk (ckOf d l) s1 →
    ∃ vs, SqL K H1 p vs ∧ RpL K S1.G S1.α s1.M.length vs l := by
  cases d with
  | lst l' => cases e; cases r with | lst h1 h2 => exact ⟨_, rfl, fun S1 s1 σ1 H1 st rel1 _ => ⟨_, .of (uL' (rel1.sub _ _ (st.g _ _ h1))), h2.step st⟩⟩
  | clst l' => cases e; cases r with | clst h1 h2 => exact ⟨_, rfl, fun S1 s1 σ1 H1 st rel1 _ => ⟨_, uSqL (rel1.sub.seq (st.g.seq h1)), h2.step st⟩⟩
  | cid k =>
    cases r with
    | cid hk =>
      refine ⟨_, rfl, fun S1 s1 σ1 H1 st rel1 c => ?_⟩
      have c1 : s1.M[k]? = some (.lst l) := c
      obtain ⟨vs, h1, h2⟩ := (rel1.ids k _ c1).2
      rw [st.al k hk] at h1
      exact ⟨vs, .of h1, h2⟩
  | _ => cases e
def mWL (m : Mo AI) : Mo Im := fun s => (mV m s).bind fun d s1 => match listOf s1.M d with
  | some l => .ok ⟨l, ckOf d l⟩ s1
  | none => .no
theorem jw_list {te : TE} {m : Mo AI} (h : Ei K ct H0 W te m) : Jw K ct H0 W (iList K te) (mWL m) := fun S s σ H Q rel p =>
  ev_of h S s σ H _ rel (Pst.bind bW p fun S1 s1 H1 x a st1 rel1 i1 p1 => by
    split at p1
    · rename_i l e
      have i1' : Rp K S1.G S1.α s1.M.length x a := i1
      have hv : viewL s1 (.val a) = some l := e
      obtain ⟨q0, vs0, e0, k1, _⟩ := viewL_ok (Hs := H) (a := .val a) rel1 i1' hv
      obtain ⟨q, rfl, k⟩ := list_at (n := 0) rel1 i1' e
      have e1 : q0 = q := by injection e0 with h; exact h.symm
      rw [e1] at k1
      refine ⟨q, rfl, ⟨vs0, k1⟩, p1 S1 _ H1 .refl rel1 fun S2 s2 σ2 H2 st2 rel2 c => ?_⟩
      obtain ⟨vs, h1, h2⟩ := k S2 s2 σ2 H2 st2 rel2 c
      refine ⟨fun i d e => ?_, ⟨vs, h1, by rw [h2.length]; exact Nat.le_refl _⟩⟩
      obtain ⟨v, e1, e2⟩ := h2.get e
      refine ⟨⟨vs, v, h1, e1⟩, fun x H3 hy => ?_⟩
      obtain ⟨rfl, hy⟩ := hy
      have := hy vs h1
      rw [e1] at this; cases this
      exact ⟨S2, .refl, rel2, e2⟩
    · exact False.elim p1)
def mWT (m : Mo AI) : Mo Im := fun s => (mV m s).bind fun d s1 => match tupOf d with
  | some l => .ok ⟨l, none⟩ s1
  | none => .no
theorem jw_tup {te : TE} {m : Mo AI} (h : Ei K ct H0 W te m) : Jw K ct H0 W (iTup K te) (mWT m) := fun S s σ H Q rel p =>
  ev_of h S s σ H _ rel (Pst.bind bW p fun S1 s1 H1 x a st1 rel1 i1 p1 => by
    split at p1
    · rename_i l e
      have i1' : Rp K S1.G S1.α s1.M.length x a := i1
      have key : ∃ q vs, x = .ref q ∧ SqT K S1.G q vs ∧ RpL K S1.G S1.α s1.M.length vs l := by
        cases a with
        | tup l' => cases e; cases i1' with | tup h1 h2 => exact ⟨_, _, rfl, .of h1, h2⟩
        | ctp l' => cases e; cases i1' with | ctp h1 h2 => exact ⟨_, _, rfl, h1, h2⟩
        | _ => cases e
      obtain ⟨q, vs, rfl, k1, k2⟩ := key
      refine ⟨q, rfl, ⟨vs, uSqT (st_mono rel1.sub k1)⟩, p1 S1 _ H1 .refl rel1 fun S2 s2 σ2 H2 st2 rel2 c => ?_⟩
      have h1 := uSqT (st_mono rel2.sub (st_mono st2.g k1))
      have h2 := k2.step st2
      refine ⟨fun i d e => ?_, ⟨vs, h1, by rw [h2.length]; exact Nat.le_refl _⟩⟩
      obtain ⟨v, e1, e2⟩ := h2.get e
      refine ⟨⟨vs, v, h1, e1⟩, fun x H3 hy => ?_⟩
      obtain ⟨rfl, hy⟩ := hy
      have := hy vs h1
      rw [e1] at this; cases this
      exact ⟨S2, .refl, rel2, e2⟩
    · exact False.elim p1)
def enumL (l : List D) : List D := l.zipIdx.map fun p => .tup [.int ((p.2 : Nat) : Int), p.1]
def mWE (m : Mo (List D)) : Mo Im := fun s => (m s).bind fun ds s1 => match ds with
  | [d] => match listOf s1.M d with
    | some l => .ok ⟨enumL l, ckOf d l⟩ s1
    | none => .no
  | _ => .no
/-- a pair made by an iterator -/
theorem new_tup {vs : List V} {l : List D} {q : Addr} (rel : Rel K ct H0 S s σ H) (hp : H q = none) (h : RpL K S.G S.α s.M.length vs l) : ∃ S2, Stp S s.M.length H S2 s.M.length (upd H q (.tup vs)) ∧ Rel K ct H0 S2 s σ (upd H q (.tup vs)) ∧ Rp K S2.G S2.α s.M.length (.ref q) (.tup l) := by
  have hg := rel.gN hp
  refine ⟨S.frz q (.tup vs), (Stp.new rel hp).frzNew hp hg, (rel.new hp).frz (uP upd_same) (rel.labN hp) hg, ?_⟩
  exact .tup upd_same (h.mono (fun a u e => by show upd S.G q _ a = _; rw [upd_ne (ne_of_none e hg)]; exact e) (fun _ _ => rfl) (Nat.le_refl _))
theorem jw_enum {ta : TA} {m : Mo (List D)} (h : EvL K ct H0 W ta m) : Jw K ct H0 W (iEnum K ta) (mWE m) := fun S s σ H Q rel p =>
  h S s σ H _ rel (Pst.bind bW p fun S1 s1 H1 x a st1 rel1 i1 p1 => by
    split at p1
    · rename_i d
      split at p1
      · rename_i l e
        cases i1 with
        | cons i1' r =>
          cases r
          have hv : viewL s1 (.val d) = some l := e
          obtain ⟨q0, vs0, e0, k1, _⟩ := viewL_ok (Hs := H) (a := .val d) rel1 i1' hv
          obtain ⟨q, rfl, k⟩ := list_at (n := 0) rel1 i1' e
          have e1 : q0 = q := by injection e0 with h; exact h.symm
          rw [e1] at k1
          refine ⟨q, vs0, rfl, k1, p1 S1 _ H1 .refl rel1 fun S2 s2 σ2 H2 st2 rel2 c => ?_⟩
          obtain ⟨vs, h1, h2⟩ := k S2 s2 σ2 H2 st2 rel2 c
          refine ⟨fun i d e => ?_, ⟨vs, h1, by rw [h2.length]; show _ ≤ (enumL l).length; unfold enumL; rw [List.length_map, List.length_zipIdx]; exact Nat.le_refl _⟩⟩
          have e' : ((l.zipIdx).map fun p => D.tup [.int ((p.2 : Nat) : Int), p.1])[i]? = some d := e
          rw [List.getElem?_map, List.getElem?_zipIdx] at e'
          obtain ⟨pr, e2, rfl⟩ := Option.map_eq_some_iff.mp e'
          obtain ⟨y, e3, rfl⟩ := Option.map_eq_some_iff.mp e2
          obtain ⟨v, e4, e5⟩ := h2.get e3
          refine ⟨⟨vs, v, h1, e4⟩, fun x H3 hy => ?_⟩
          obtain ⟨T, x0, rfl, hT, rfl, hx⟩ := hy
          have := hx vs h1
          rw [e4] at this; cases this
          rw [Nat.zero_add]
          exact new_tup rel2 hT (.cons (.int _) (.cons e5 .nil))
      · exact False.elim p1
    · exact False.elim p1)
def zipL (l l' : List D) : List D := (l.zip l').map fun p => .tup [p.1, p.2]
/-- only what is frozen is walked two by two -/
def mWZ (m : Mo (List D)) : Mo Im := fun s => (m s).bind fun ds s1 => match ds with
  | [.lst l, .lst l'] => .ok ⟨zipL l l', none⟩ s1
  | [.lst l, .clst l'] => .ok ⟨zipL l l', none⟩ s1
  | [.clst l, .lst l'] => .ok ⟨zipL l l', none⟩ s1
  | _ => .no
def strL (x : Str) : List D := x.cps.toList.map fun c => .str ⟨#[c]⟩
def mWS (m : Mo AI) : Mo Im := fun s => (m s).bind fun a s1 => match a with
  | .val (.str x) => .ok ⟨strL x, none⟩ s1
  | _ => .no
open Classical in
noncomputable def forN (g : Tg) (b : Ms) (ck : Option (Nat × Cn)) : List D → Ms
  | [], s => if chk ck s then .nx s else .no
  | x :: xs, s => if chk ck s then (match g x s with
    | none => .no
    | some s1 => match b s1 with
      | .nx s2 => forN g b ck xs s2
      | .ct s2 => forN g b ck xs s2
      | .bk s2 => .nx s2
      | .rt a s2 => .rt a s2
      | .er x s2 => .er x s2
      | .no => .no) else .no
noncomputable def mFor (mi : Mo Im) (g : Tg) (b : Ms) : Ms := fun s => (mi s).toS fun im s1 => forN g b im.ck im.xs s1
theorem sv_for {js : List Nat} {wi : TI} {g : TG} {tb : TS} {mi : Mo Im} {f : Tg} {b : Ms} (hi : Jw K ct H0 W wi mi) (hg : Sg K ct H0 js g f) (hb : Sv K ct H0 W tb b) : Sv K ct H0 W (tFor wi g tb) (mFor mi f b) := fun S s σ H Dn rel p =>
  hi S s σ H _ rel (PstS.bind p fun S1 s1 H1 J im st1 rel1 wk p1 => by
    have p1 := PstS.from p1 st1
    generalize hR : forN f b im.ck im.xs s1 = R at p1
    refine ⟨fun i m σ' H' => m = im.xs.length - i ∧ ∃ S' s', Stp S1 s1.M.length H1 S' s'.M.length H' ∧ Rel K ct H0 S' s' σ' H' ∧ i ≤ im.xs.length ∧ forN f b im.ck (im.xs.drop i) s' = R, ⟨im.xs.length, rfl, S1, s1, .refl, rel1, Nat.zero_le _, hR⟩, ?_⟩
    rintro i m σ' H' ⟨rfl, S', s', st', rel', hi', hr⟩
    have nno : R ≠ .no := fun z => by rw [z] at p1; exact p1
    by_cases hlt : i < im.xs.length
    · have e := List.drop_eq_getElem_cons hlt
      rw [e] at hr
      have hx : im.xs[i]? = some im.xs[i] := List.getElem?_eq_getElem hlt
      generalize im.xs[i] = d at e hr hx
      unfold forN at hr
      have hc : chk im.ck s' := Classical.byContradiction fun z => by rw [if_neg z] at hr; exact nno hr.symm
      rw [if_pos hc] at hr
      obtain ⟨go, yl⟩ := (wk S' s' σ' H' st' rel' hc).1 i d hx
      refine .inr ⟨go, fun σ2 H2 => ∃ S2 s2, Stp S1 s1.M.length H1 S2 s2.M.length H2 ∧ Rel K ct H0 S2 s2 σ2 H2 ∧ forN f b im.ck (im.xs.drop (i + 1)) s2 = R, ?_, ?_⟩
      · rintro σ2 H2 ⟨S2, s2, k1, k2, k3⟩
        exact ⟨im.xs.length - (i + 1), by omega, rfl, S2, s2, k1, k2, hlt, k3⟩
      · intro x H2 hy
        obtain ⟨S2, st2, rel2, rp2⟩ := yl x H2 hy
        cases hs : f d s' with
        | none => rw [hs] at hr; exact absurd hr.symm nno
        | some s2 =>
          rw [hs] at hr
          refine hg S2 s' σ' H2 x d s2 _ rel2 rp2 hs fun S3 σ3 st3 rel3 _ _ _ => ?_
          have stt := (st'.trans st2).trans st3
          refine hb S3 s2 σ3 H2 _ rel3 ?_
          have hr : (match b s2 with | .nx s2 => forN f b im.ck (im.xs.drop (i + 1)) s2 | .ct s2 => forN f b im.ck (im.xs.drop (i + 1)) s2 | .bk s2 => .nx s2 | .rt a s2 => .rt a s2 | .er x s2 => .er x s2 | .no => .no) = R := hr
          cases hbs : b s2 with
          | nx s4 => rw [hbs] at hr; exact fun S4 σ4 H4 st4 rel4 => ⟨S4, s4, stt.trans st4, rel4, hr⟩
          | ct s4 => rw [hbs] at hr; exact fun S4 σ4 H4 st4 rel4 => ⟨S4, s4, stt.trans st4, rel4, hr⟩
          | bk s4 => rw [hbs] at hr; subst hr; exact fun S4 σ4 H4 st4 rel4 => p1 S4 σ4 H4 (stt.trans st4) rel4
          | rt a s4 => rw [hbs] at hr; subst hr; exact fun S4 σ4 v H4 st4 rel4 q => p1 S4 σ4 v H4 (stt.trans st4) rel4 q
          | er x s4 => rw [hbs] at hr; subst hr; exact fun S4 σ4 H4 dd st4 rel4 q => p1 S4 σ4 H4 dd (stt.trans st4) rel4 q
          | no => rw [hbs] at hr; exact absurd hr.symm nno
    · have e : im.xs.drop i = [] := List.drop_eq_nil_of_le (by omega)
      rw [e] at hr
      unfold forN at hr
      have hc : chk im.ck s' := Classical.byContradiction fun z => by rw [if_neg z] at hr; exact nno hr.symm
      rw [if_pos hc] at hr
      have ei : i = im.xs.length := by omega
      subst hr
      refine .inl ⟨?_, p1 S' σ' H' st' rel'⟩
      rw [ei]
      exact (wk S' s' σ' H' st' rel' hc).2)
def whN (c : Mo Bool) (b : Ms) : Nat → Ms
  | 0, _ => .no
  | n + 1, s => (c s).toS fun k s1 => if k = true then (match b s1 with
    | .nx s2 => whN c b n s2
    | .ct s2 => whN c b n s2
    | .bk s2 => .nx s2
    | .rt a s2 => .rt a s2
    | .er x s2 => .er x s2
    | .no => .no) else .nx s1
theorem whN_mono {c : Mo Bool} {b : Ms} : ∀ {n : Nat} {s : Stt} {r : Rs}, whN c b n s = r → r ≠ .no → whN c b (n + 1) s = r
  | 0, s, r, h, nr => absurd h.symm nr
  | n + 1, s, r, h, nr => by
    unfold whN at h ⊢
    cases hc : c s with
    | no => rw [hc] at h; exact absurd h.symm nr
    | er x s1 => rw [hc] at h; exact h
    | ok k s1 =>
      rw [hc] at h
      have h : (if k = true then (match b s1 with | .nx s2 => whN c b n s2 | .ct s2 => whN c b n s2 | .bk s2 => .nx s2 | .rt a s2 => .rt a s2 | .er x s2 => .er x s2 | .no => .no) else Rs.nx s1) = r := h
      show (if k = true then (match b s1 with | .nx s2 => whN c b (n + 1) s2 | .ct s2 => whN c b (n + 1) s2 | .bk s2 => .nx s2 | .rt a s2 => .rt a s2 | .er x s2 => .er x s2 | .no => .no) else Rs.nx s1) = r
      cases k with
      | false => rw [if_neg Bool.false_ne_true] at h ⊢; exact h
      | true =>
        rw [if_pos rfl] at h ⊢
        cases hb : b s1 with
        | nx s2 => rw [hb] at h; exact whN_mono h nr
        | ct s2 => rw [hb] at h; exact whN_mono h nr
        | bk s2 => rw [hb] at h; exact h
        | rt a s2 => rw [hb] at h; exact h
        | er x s2 => rw [hb] at h; exact h
        | no => rw [hb] at h; exact h
theorem whN_le {c : Mo Bool} {b : Ms} {n m : Nat} {s : Stt} {r : Rs} (h : whN c b n s = r) (nr : r ≠ .no) (hl : n ≤ m) : whN c b m s = r := by
  obtain ⟨d, rfl⟩ := Nat.exists_eq_add_of_le hl
  induction d with
  | zero => exact h
  | succ d ih => exact whN_mono (ih (by omega)) nr
open Classical in
noncomputable def mWh (c : Mo Bool) (b : Ms) : Ms := fun s => if h : ∃ n, whN c b n s ≠ .no then whN c b (Classical.choose h) s else .no
theorem mWh_eq {c : Mo Bool} {b : Ms} {n : Nat} {s : Stt} {r : Rs} (h : whN c b n s = r) (nr : r ≠ .no) : mWh c b s = r := by
  have e : ∃ n, whN c b n s ≠ .no := ⟨n, by rw [h]; exact nr⟩
  unfold mWh
  rw [dif_pos e]
  have k := Classical.choose_spec e
  rcases Nat.le_total n (Classical.choose e) with l | l
  · exact whN_le h nr l
  · rw [← h]; exact (whN_le rfl k l).symm
theorem sv_while {c : TT} {tb : TS} {mc : Mo Bool} {b : Ms} (hc : Et K ct H0 W c mc) (hb : Sv K ct H0 W tb b) : Sv K ct H0 W (tWhile c tb) (mWh mc b) := fun S s σ H Dn rel p => by
  unfold mWh at p
  split at p
  · rename_i h
    have nno := Classical.choose_spec h
    generalize hR : whN mc b (Classical.choose h) s = R at p nno
    refine ⟨fun m σ' H' => ∃ S' s', Stp S s.M.length H S' s'.M.length H' ∧ Rel K ct H0 S' s' σ' H' ∧ whN mc b m s' = R, ⟨_, S, s, .refl, rel, hR⟩, ?_⟩
    rintro m σ' H' ⟨S', s', st', rel', hr⟩
    cases m with
    | zero => exact absurd hr.symm nno
    | succ m =>
      unfold whN at hr
      refine hc S' s' σ' H' _ rel' ?_
      cases hcs : mc s' with
      | no => rw [hcs] at hr; exact absurd hr.symm nno
      | er x s1 => rw [hcs] at hr; have hr : Rs.er x s1 = R := hr; subst hr; exact fun S1 H1 dd st1 rel1 q => p S1 σ' H1 dd (st'.trans st1) rel1 q
      | ok k s1 =>
        rw [hcs] at hr
        intro S1 k' H1 st1 rel1 ek
        have ek : k' = k := ek
        rw [ek]
        clear ek
        have hr : (if k = true then (match b s1 with | .nx s2 => whN mc b m s2 | .ct s2 => whN mc b m s2 | .bk s2 => .nx s2 | .rt a s2 => .rt a s2 | .er x s2 => .er x s2 | .no => .no) else Rs.nx s1) = R := hr
        cases k with
        | false => rw [if_neg Bool.false_ne_true] at hr ⊢; subst hr; exact p S1 σ' H1 (st'.trans st1) rel1
        | true =>
          rw [if_pos rfl] at hr ⊢
          refine ⟨fun σ2 H2 => ∃ S2 s2, Stp S s.M.length H S2 s2.M.length H2 ∧ Rel K ct H0 S2 s2 σ2 H2 ∧ whN mc b m s2 = R, fun σ2 H2 ⟨S2, s2, k1, k2, k3⟩ => ⟨m, Nat.lt_succ_self m, S2, s2, k1, k2, k3⟩, ?_⟩
          have stt := st'.trans st1
          refine hb S1 s1 σ' H1 _ rel1 ?_
          cases hbs : b s1 with
          | nx s4 => rw [hbs] at hr; exact fun S4 σ4 H4 st4 rel4 => ⟨S4, s4, stt.trans st4, rel4, hr⟩
          | ct s4 => rw [hbs] at hr; exact fun S4 σ4 H4 st4 rel4 => ⟨S4, s4, stt.trans st4, rel4, hr⟩
          | bk s4 => rw [hbs] at hr; subst hr; exact fun S4 σ4 H4 st4 rel4 => p S4 σ4 H4 (stt.trans st4) rel4
          | rt a s4 => rw [hbs] at hr; subst hr; exact fun S4 σ4 v H4 st4 rel4 q => p S4 σ4 v H4 (stt.trans st4) rel4 q
          | er x s4 => rw [hbs] at hr; subst hr; exact fun S4 σ4 H4 dd st4 rel4 q => p S4 σ4 H4 dd (stt.trans st4) rel4 q
          | no => rw [hbs] at hr; exact absurd hr.symm nno
  · exact False.elim p
end
end Y
namespace Y
open PySem L2 Z
def wipeE (env : List (Option Ent)) : List Nat → List (Option Ent)
  | [] => env
  | v :: vs => (wipeE env vs).set v none
def wipeS (ws : List Nat) (s : Stt) : Stt := ⟨wipeE s.env ws, s.M⟩
def kp : Option (Option Ent) → Option Ent
  | some (some (.fz d)) => some (.fz d)
  | _ => none
def rest (e0 e' : List (Option Ent)) : List Nat → List (Option Ent)
  | [] => e'
  | v :: vs => (rest e0 e' vs).set v (kp e0[v]?)
theorem rest_len {e0 e' : List (Option Ent)} : ∀ {ws : List Nat}, (rest e0 e' ws).length = e'.length
  | [] => rfl
  | v :: vs => by show ((rest e0 e' vs).set v _).length = _; rw [List.length_set]; exact rest_len
theorem rest_get {e0 e' : List (Option Ent)} {i : Nat} {en : Ent} : ∀ {ws : List Nat}, (rest e0 e' ws)[i]? = some (some en) → (∃ d, en = .fz d ∧ e0[i]? = some (some (.fz d))) ∨ (i ∉ ws ∧ e'[i]? = some (some en))
  | [], h => .inr ⟨by simp, h⟩
  | v :: vs, h => by
    have h1 : ((rest e0 e' vs).set v (kp e0[v]?))[i]? = some (some en) := h
    by_cases e : v = i
    · subst e
      have hl : v < (rest e0 e' vs).length := by
        have := (List.getElem?_eq_some_iff.mp h1).1
        rw [List.length_set] at this; exact this
      rw [List.getElem?_set_self hl] at h1
      have h2 : kp e0[v]? = some en := Option.some.inj h1
      unfold kp at h2
      split at h2
      · rename_i d q; cases h2; exact .inl ⟨d, rfl, q⟩
      · cases h2
    · rw [List.getElem?_set_ne e] at h1
      rcases rest_get h1 with k | ⟨k1, k2⟩
      · exact .inl k
      · exact .inr ⟨by simp; exact ⟨fun z => e z.symm, k1⟩, k2⟩
section
variable {K : PySem.W.Frag} {ct : Ct} {H0 : Hp} {W : WX} {S : Sh} {s : Stt} {σ : St} {H : Hp}
theorem Rel.setN2 {i : Nat} (r : Rel K ct H0 S s σ H) : Rel K ct H0 (S.un i) ⟨s.env.set i none, s.M⟩ (σ.set i none) H := by
  refine ⟨r.sub, fun a l q => r.lg a l (un_of q), r.dom, by rw [List.length_set]; show _ = (s.env.set i _).length; rw [List.length_set]; exact r.len, fun j en q => ?_, fun k c q => ?_⟩
  · have q1 : (s.env.set i none)[j]? = some (some en) := q
    by_cases z : i = j
    · subst z
      have hlt : i < s.env.length := by
        have := (List.getElem?_eq_some_iff.mp q1).1
        rw [List.length_set] at this; exact this
      rw [List.getElem?_set_self hlt] at q1
      cases q1
    · rw [List.getElem?_set_ne z] at q1
      have hh := r.slot j en q1
      cases en with
      | fz d' => obtain ⟨w, k1, k2⟩ := hh; exact ⟨w, by rw [List.getElem?_set_ne z]; exact k1, k2⟩
      | xn x => exact xn_mono (S := S) (n := s.M.length) (H := H) (fun _ _ e => e) (fun _ _ => rfl) (Nat.le_refl _) (List.getElem?_set_ne z) hh
      | ow c =>
        obtain ⟨p, k1, k2, k3, k4, k5⟩ := hh
        exact ⟨p, by rw [List.getElem?_set_ne z]; exact k1, k2, un_lab k3 (fun w => by cases w; exact z rfl), k4, cn_un k5⟩
  · obtain ⟨k1, k2⟩ := r.ids k c q
    exact ⟨un_lab k1 (fun w => by cases w), cn_un k2⟩
theorem Rel.wipe (r : Rel K ct H0 S s σ H) : ∀ ws : List Nat, ∃ S', Rel K ct H0 S' (wipeS ws s) (wipe σ ws) H ∧ Stp S s.M.length H S' s.M.length H ∧ S'.G = S.G ∧ S'.α = S.α ∧ ∀ a, S.lab a = none → S'.lab a = none
  | [] => ⟨S, r, .refl, rfl, rfl, fun _ h => h⟩
  | v :: vs => by
    obtain ⟨S', r', st, hg, ha, hl⟩ := r.wipe vs
    refine ⟨S'.un v, r'.setN2, st.trans .un, hg, ha, fun a h => ?_⟩
    show (if S'.lab a = some (.slot v) then none else S'.lab a) = none
    rw [hl a h]; rfl
theorem Rel.rest {S' : Sh} {s' : Stt} {H' : Hp} {ws : List Nat} (r0 : Rel K ct H0 S s σ H) (st : Stp S s.M.length H S' s'.M.length H') (r : Rel K ct H0 S' s' (L2.wipe σ ws) H') : Rel K ct H0 S' ⟨rest s.env s'.env ws, s'.M⟩ σ H' := by
  refine ⟨r.sub, r.lg, r.dom, by show _ = (Y.rest _ _ _).length; rw [rest_len, ← r.len, wipe_length], fun j en q => ?_, r.ids⟩
  rcases rest_get q with ⟨d, rfl, k⟩ | ⟨k1, k2⟩
  · obtain ⟨v, h1, h2⟩ := r0.slot j _ k
    exact ⟨v, h1, h2.step st⟩
  · have hh := r.slot j en k2
    cases en with
    | fz d => obtain ⟨v, h1, h2⟩ := hh; exact ⟨v, by rw [← wipe_out k1]; exact h1, h2⟩
    | xn x => exact xn_mono (S := S') (n := s'.M.length) (H := H') (fun _ _ e => e) (fun _ _ => rfl) (Nat.le_refl _) (wipe_out k1).symm hh
    | ow c => obtain ⟨p, h1, h2, h3, h4, h5⟩ := hh; exact ⟨p, by rw [← wipe_out k1]; exact h1, h2, h3, h4, h5⟩
/-- what nobody has is changed -/
theorem Rel.updU {p : Addr} {o : HO} (r : Rel K ct H0 S s σ H) (hl : S.lab p = none) (hg : S.G p = none) : Rel K ct H0 S s σ (upd H p o) := by
  have cn : ∀ {a : Addr} {c : Cn} {l : Lab}, S.lab a = some l → CnOk K ct S s.M.length H a c → CnOk K ct S s.M.length (upd H p o) a c := fun {a c l} q h => h.mono (fun _ _ e => e) (fun _ _ => rfl) (Nat.le_refl _) (fun _ e => by rw [upd_ne (fun z => by subst z; rw [hl] at q; cases q)]; exact e)
  refine ⟨fun a u e => by rw [U_ne (ne_of_none e hg)]; exact r.sub a u e, fun a l e => ?_, fun a e => r.dom a (upd_none.mp e).2, r.len, fun i e h => ?_, fun k c h => ?_⟩
  · obtain ⟨h1, u, h2⟩ := r.lg a l e
    exact ⟨h1, u, by rw [upd_ne (fun z => by subst z; rw [hl] at e; cases e)]; exact h2⟩
  · have q := r.slot i e h
    cases e with
    | fz d => exact q
    | xn x => exact xn_mono (S := S) (n := s.M.length) (H := H) (fun _ _ e => e) (fun _ _ => rfl) (Nat.le_refl _) rfl q
    | ow c =>
      obtain ⟨a, h1, h2, h3, h4, h5⟩ := q
      exact ⟨a, h1, h2, h3, h4, cn h3 h5⟩
  · obtain ⟨h1, h2⟩ := r.ids k c h
    exact ⟨h1, cn h1 h2⟩
theorem Stp.updNew {S' : Sh} {n n' : Nat} {H' : Hp} {p : Addr} {o : HO} (t : Stp S n H S' n' H') (hp : H p = none) : Stp S n H S' n' (upd H' p o) where
  g := t.g
  le := t.le
  al := t.al
  fr := fun a u h l => by
    obtain ⟨h1, h2⟩ := t.fr a u h l
    exact ⟨by rw [upd_ne (ne_of_none h hp)]; exact h1, h2⟩
  gn := t.gn
  dom := fun a e => t.dom a (upd_none.mp e).2
def W0 : WX := fun _ _ _ _ => False
open Classical in
noncomputable def lcN (ws : List Nat) (g : Tg) (c : Mo Bool) (e : Mo D) (ck : Option (Nat × Cn)) : List D → List D → Mo (List D)
  | [], acc, s => if chk ck s then .ok acc s else .no
  | x :: xs, acc, s => if chk ck s then (match g x s with
    | none => .no
    | some s1 => match c s1 with
      | .ok b s2 => if b = true then (match e s2 with
        | .ok d s3 => if acc.length < sizeLine then lcN ws g c e ck xs (acc ++ [d]) (wipeS ws s3) else .no
        | _ => .no) else lcN ws g c e ck xs acc (wipeS ws s2)
      | _ => .no) else .no
noncomputable def mLc (ws : List Nat) (mi : Mo Im) (g : Tg) (c : Mo Bool) (e : Mo AI) : Mo AI := fun s => (mi s).bind fun im s1 => match lcN ws g c (mV e) im.ck im.xs [] (wipeS ws s1) with
  | .ok l s2 => .ok (.new (.lst l)) ⟨rest s1.env s2.env ws, s2.M⟩
  | _ => .no
def mYes : Mo Bool := fun s => .ok true s
theorem et_yes : Et K ct H0 W tYes mYes := fun S s σ H Q rel p => p S true H .refl rel rfl
theorem ei_lcAt {js ws : List Nat} {wi : TI} {g : TG} {tt : TT} {te : TE} {mi : Mo Im} {f : Tg} {c : Mo Bool} {e : Mo AI} {S : Sh} {s : Stt} {σ : St} {H : Hp} {Q : VK} (hi : ∀ R, Pst K ct H0 (RW K ct H0) W S s σ H R (mi s) → wi σ H R) (hg : Sg K ct H0 js g f) (hjs : ∀ j ∈ js, j ∈ ws) (hc : Et K ct H0 W0 tt c) (he : Ei K ct H0 W0 te e)
    (p : Pst K ct H0 (RI K ct) W S s σ H Q (mLc ws mi f c e s)) : tLc wi g tt te ws σ H Q :=
  hi _ (Pst.bind bI p fun S1 s1 H1 J im st1 rel1 wk p1 => by
    intro D hD
    generalize hR : lcN ws f c (mV e) im.ck im.xs [] (wipeS ws s1) = R at p1
    cases R with
    | no => exact False.elim p1
    | er x s2 => exact False.elim p1
    | ok l s2 =>
      have p1 : Pst K ct H0 (RI K ct) W S1 s1 σ H1 Q (.ok (.new (.lst l)) ⟨rest s1.env s2.env ws, s2.M⟩) := p1
      obtain ⟨S1', rel1', st1', hg1, ha1, hl1⟩ := rel1.wipe ws
      refine ⟨fun i m H' => m = im.xs.length - i ∧ i ≤ im.xs.length ∧ ∃ S' s' acc accV, Stp S1 s1.M.length H1 S' s'.M.length H' ∧ Rel K ct H0 S' s' (wipe σ ws) H' ∧ H' D = some (.lst accV) ∧ S'.lab D = none ∧ S'.G D = none ∧ RpL K S'.G S'.α s'.M.length accV acc ∧ lcN ws f c (mV e) im.ck (im.xs.drop i) acc s' = .ok l s2, ⟨im.xs.length, rfl, Nat.zero_le _, S1', wipeS ws s1, [], [], st1'.updNew hD, rel1'.new hD, upd_same, rel1'.labN hD, rel1'.gN hD, .nil, hR⟩, ?_⟩
      rintro i m H' ⟨rfl, hi', S', s', acc, accV, st', rel', hDl, hDlab, hDg, rl, hr⟩
      by_cases hlt : i < im.xs.length
      · have ex := List.drop_eq_getElem_cons hlt
        rw [ex] at hr
        have hx : im.xs[i]? = some im.xs[i] := List.getElem?_eq_getElem hlt
        generalize im.xs[i] = d at ex hr hx
        unfold lcN at hr
        have hck : chk im.ck s' := Classical.byContradiction fun z => by rw [if_neg z] at hr; cases hr
        rw [if_pos hck] at hr
        obtain ⟨go, yl⟩ := (wk S' s' _ H' st' rel' hck).1 i d hx
        refine .inr ⟨go, fun H2 => ∃ S2 s3 acc accV, Stp S1 s1.M.length H1 S2 s3.M.length H2 ∧ Rel K ct H0 S2 s3 (wipe σ ws) H2 ∧ H2 D = some (.lst accV) ∧ S2.lab D = none ∧ S2.G D = none ∧ RpL K S2.G S2.α s3.M.length accV acc ∧ lcN ws f c (mV e) im.ck (im.xs.drop (i + 1)) acc s3 = .ok l s2, ?_, ?_⟩
        · rintro H2 ⟨S2, s3, acc', accV', k⟩
          exact ⟨im.xs.length - (i + 1), by omega, rfl, hlt, S2, s3, acc', accV', k⟩
        · intro x H2 hy
          obtain ⟨S2, st2, rel2, rp2⟩ := yl x H2 hy
          cases hs : f d s' with
          | none => rw [hs] at hr; cases hr
          | some s3 =>
            rw [hs] at hr
            refine hg S2 s' _ H2 x d s3 _ rel2 rp2 hs fun S3 σ3 st3 rel3 kk _ _ => ?_
            have hw : wipe σ3 ws = wipe σ ws := by
              rw [kk ws hjs]
              refine List.ext_getElem? fun k => ?_
              by_cases hk : k ∈ ws
              · by_cases hl : k < σ.length
                · rw [wipe_in hk (by rw [wipe_length]; exact hl), wipe_in hk hl]
                · rw [List.getElem?_eq_none_iff.mpr (by rw [wipe_length, wipe_length]; omega), List.getElem?_eq_none_iff.mpr (by rw [wipe_length]; omega)]
              · rw [wipe_out hk]
            refine ⟨hw, ?_⟩
            have stt := (st'.trans st2).trans st3
            have str := (st2.trans st3)
            obtain ⟨d3, l3⟩ := str.fr D _ hDl hDlab
            refine hc S3 s3 σ3 H2 _ rel3 ?_
            have hr : (match c s3 with | .ok b s2 => if b = true then (match mV e s2 with | .ok d s3 => if acc.length < sizeLine then lcN ws f c (mV e) im.ck (im.xs.drop (i + 1)) (acc ++ [d]) (wipeS ws s3) else .no | _ => .no) else lcN ws f c (mV e) im.ck (im.xs.drop (i + 1)) acc (wipeS ws s2) | _ => .no) = Ro.ok l s2 := hr
            have gD : ∀ {Sx : Sh} {nx : Nat} {Hx : Hp}, Stp S' s'.M.length H' Sx nx Hx → Sx.G D = none := fun {Sx nx Hx} t => by
              cases q : Sx.G D with
              | none => rfl
              | some u =>
                rcases t.gn D u q with z | z | ⟨lb, z⟩
                · rw [hDg] at z; cases z
                · rw [hDl] at z; cases z
                · rw [hDlab] at z; cases z
            cases hcs : c s3 with
            | no => rw [hcs] at hr; cases hr
            | er x s4 => rw [hcs] at hr; cases hr
            | ok b s4 =>
              rw [hcs] at hr
              intro S4 b' H4 st4 rel4 eb
              have eb : b' = b := eb
              rw [eb]
              have str4 := str.trans st4
              obtain ⟨d4, l4⟩ := str4.fr D _ hDl hDlab
              cases b with
              | false =>
                rw [if_neg Bool.false_ne_true]
                have hr : lcN ws f c (mV e) im.ck (im.xs.drop (i + 1)) acc (wipeS ws s4) = .ok l s2 := hr
                obtain ⟨S5, rel5, st5, hg5, ha5, hl5⟩ := rel4.wipe ws
                rw [hw] at rel5
                exact ⟨S5, wipeS ws s4, acc, accV, (stt.trans st4).trans st5, rel5, d4, hl5 _ l4, gD (str4.trans st5), rl.step (str4.trans st5), hr⟩
              | true =>
                rw [if_pos rfl]
                have hr : (match mV e s4 with | .ok d s3 => if acc.length < sizeLine then lcN ws f c (mV e) im.ck (im.xs.drop (i + 1)) (acc ++ [d]) (wipeS ws s3) else .no | _ => .no) = Ro.ok l s2 := hr
                refine ev_of he S4 s4 σ3 H4 _ rel4 ?_
                cases hes : mV e s4 with
                | no => rw [hes] at hr; cases hr
                | er x s5 => rw [hes] at hr; cases hr
                | ok d' s5 =>
                  rw [hes] at hr
                  have hr : (if acc.length < sizeLine then lcN ws f c (mV e) im.ck (im.xs.drop (i + 1)) (acc ++ [d']) (wipeS ws s5) else .no) = Ro.ok l s2 := hr
                  intro S5 y H5 st5 rel5 rp5
                  have str5 := str4.trans st5
                  obtain ⟨d5, l5⟩ := str5.fr D _ hDl hDlab
                  split at hr
                  · rename_i hz
                    refine ⟨accV, d5, by rw [rl.length]; exact hz, ?_⟩
                    have rel6 := rel5.updU (o := .lst (accV ++ [y])) l5 (gD str5)
                    obtain ⟨S7, rel7, st7, hg7, ha7, hl7⟩ := rel6.wipe ws
                    rw [hw] at rel7
                    have rl7 : RpL K S7.G S7.α (wipeS ws s5).M.length (accV ++ [y]) (acc ++ [d']) := by
                      rw [hg7, ha7]
                      exact (rl.step str5).append (.cons rp5 .nil)
                    exact ⟨S7, wipeS ws s5, acc ++ [d'], accV ++ [y], (((stt.trans st4).trans st5).updNew hD).trans st7, rel7, upd_same, hl7 _ l5, by rw [hg7]; exact gD str5, rl7, hr⟩
                  · cases hr
      · have ex : im.xs.drop i = [] := List.drop_eq_nil_of_le (by omega)
        rw [ex] at hr
        unfold lcN at hr
        have hck : chk im.ck s' := Classical.byContradiction fun z => by rw [if_neg z] at hr; cases hr
        rw [if_pos hck] at hr
        cases hr
        have ei : i = im.xs.length := by omega
        refine .inl ⟨by rw [ei]; exact (wk S' _ _ H' st' rel' hck).2, ?_⟩
        exact p1 S' _ H' st' (rel1.rest st' rel') ⟨D, rfl, hD, hDlab, hDg, rfl, accV, hDl, rl⟩)
theorem ei_lc {js ws : List Nat} {wi : TI} {g : TG} {tt : TT} {te : TE} {mi : Mo Im} {f : Tg} {c : Mo Bool} {e : Mo AI} (hi : Jw K ct H0 W wi mi) (hg : Sg K ct H0 js g f) (hjs : ∀ j ∈ js, j ∈ ws) (hc : Et K ct H0 W0 tt c) (he : Ei K ct H0 W0 te e) :
    Ei K ct H0 W (tLc wi g tt te ws) (mLc ws mi f c e) := fun S s σ H Q rel p => ei_lcAt (fun R q => hi S s σ H R rel q) hg hjs hc he p
def FPst (K : PySem.W.Frag) (ct : Ct) (S : Sh) (M : List Cn) (H : Hp) (Q : VK) (E : XK) : Fr → Prop
  | .ok a M' => ∀ S' v H', Stp S M.length H S' M'.length H' → Rel K ct H S' ⟨[], M'⟩ [] H' → ItOk K ct H S' ⟨[], M'⟩ [] H' v a → Q v H'
  | .er x M' => ∀ S' H' dd, Stp S M.length H S' M'.length H' → Rel K ct H S' ⟨[], M'⟩ [] H' → XOk K S' M'.length H' x dd → E (.ref (ct x.cls)) dd H'
  | .no => False
/-- a def's promise -/
def spM (K : PySem.W.Frag) (ct : Ct) (f : Mf) : Sp := fun vs H Q E => ∃ S M ds, Rel K ct H S ⟨[], M⟩ [] H ∧ RpL K S.G S.α M.length vs ds ∧ FPst K ct S M H Q E (f ds M)
/-- np parameters, n slots -/
def mFn (np n : Nat) (body : Ms) : Mf := fun ds M => if ds.length = np then (match body ⟨ds.map (fun d => some (.fz d)) ++ List.replicate (n - ds.length) none, M⟩ with
  | .nx s => .ok (.val .non) s.M
  | .rt a s => .ok a s.M
  | .er x s => .er x s.M
  | _ => .no) else .no
theorem sp_len {np n : Nat} {body : Ms} {vs : List V} {Q : VK} {E : XK} (h : spM K ct (mFn np n body) vs H Q E) : vs.length = np := by
  obtain ⟨S, M, ds, _, r, h⟩ := h
  rw [r.length]
  unfold mFn at h
  split at h
  · assumption
  · exact False.elim h
theorem Rel.enter {vs : List V} {ds : List D} {N : List Str} {M : List Cn} (r : Rel K ct H S ⟨[], M⟩ [] H) (h : RpL K S.G S.α M.length vs ds) : Rel K ct H S ⟨ds.map (fun d => some (.fz d)) ++ List.replicate (N.length - ds.length) none, M⟩ (start N vs) H := by
  refine ⟨r.sub, r.lg, r.dom, ?_, fun i e q => ?_, r.ids⟩
  · show (vs.map some ++ List.replicate (N.length - vs.length) none).length = (ds.map _ ++ List.replicate _ none).length
    simp only [List.length_append, List.length_map, List.length_replicate, h.length]
  · have q1 : (ds.map (fun d => some (Ent.fz d)) ++ List.replicate (N.length - ds.length) none)[i]? = some (some e) := q
    by_cases hl : i < ds.length
    · rw [List.getElem?_append_left (by rw [List.length_map]; exact hl), List.getElem?_map] at q1
      obtain ⟨d, e1, e2⟩ := Option.map_eq_some_iff.mp q1
      cases e2
      obtain ⟨v, h1, h2⟩ := h.get e1
      refine ⟨v, ?_, h2⟩
      show (vs.map some ++ List.replicate (N.length - vs.length) none)[i]? = _
      rw [List.getElem?_append_left (by rw [List.length_map, h.length]; exact hl), List.getElem?_map, h1]; rfl
    · rw [List.getElem?_append_right (by rw [List.length_map]; omega), List.getElem?_replicate] at q1
      split at q1
      · cases q1
      · cases q1
theorem Rel.leave (r : Rel K ct H0 S s σ H) : Rel K ct H0 S ⟨[], s.M⟩ [] H := ⟨r.sub, r.lg, r.dom, rfl, fun i e q => by simp at q, r.ids⟩
/-- the body keeps the promise -/
theorem fn_run {N : List Str} {np : Nat} {t : TS} {body : Ms} {vs : List V} {Q : VK} {E : XK} (hb : Sv K ct H (fun cls dd _ H' => E cls dd H') t body) (h : spM K ct (mFn np N.length body) vs H Q E) : t { nx := fun _ H' => Q .non H', rt := Q } (start N vs) H := by
  obtain ⟨S, M, ds, r, rp, h⟩ := h
  refine hb S _ _ H _ (r.enter rp) ?_
  unfold mFn at h
  split at h
  rotate_left
  · exact False.elim h
  generalize hR : body ⟨ds.map (fun d => some (.fz d)) ++ List.replicate (N.length - ds.length) none, M⟩ = R at h
  cases R with
  | nx s => exact fun S' σ' H' st rel => h S' .non H' st rel.leave .non
  | rt a s => exact fun S' σ' v H' st rel i => h S' v H' st rel.leave (by
      cases a with
      | val d => exact i
      | new c => exact i
      | slot j => simp [ItOk] at i)
  | er x s => exact fun S' σ' H' dd st rel q => h S' H' dd st rel.leave q
  | bk s => exact False.elim h
  | ct s => exact False.elim h
  | no => exact False.elim h
def Sh.hide (S : Sh) : Sh := ⟨S.G, S.α, fun a => match S.lab a with
  | some (.slot _) => none
  | l => l⟩
def Sh.back (S S' : Sh) : Sh := ⟨S'.G, S'.α, fun a => match S.lab a with
  | some (.slot i) => some (.slot i)
  | _ => match S'.lab a with
    | some (.slot _) => none
    | l => l⟩
theorem hide_of {a : Addr} {l : Lab} (h : S.hide.lab a = some l) : S.lab a = some l ∧ ∀ i, l ≠ .slot i := by
  have h1 : (match S.lab a with | some (.slot _) => none | l => l) = some l := h
  split at h1
  · cases h1
  · rename_i hn; exact ⟨h1, fun i z => by subst z; exact hn i h1⟩
theorem hide_id {a : Addr} {k : Nat} (h : S.lab a = some (.id k)) : S.hide.lab a = some (.id k) := by
  show (match S.lab a with | some (.slot _) => none | l => l) = _
  rw [h]
theorem hide_none {a : Addr} (h : S.lab a = none) : S.hide.lab a = none := by
  show (match S.lab a with | some (.slot _) => none | l => l) = _
  rw [h]
theorem hide_slot {a : Addr} {i : Nat} (h : S.lab a = some (.slot i)) : S.hide.lab a = none := by
  show (match S.lab a with | some (.slot _) => none | l => l) = _
  rw [h]
theorem back_slot {S' : Sh} {a : Addr} {i : Nat} (h : S.lab a = some (.slot i)) : (S.back S').lab a = some (.slot i) := by
  show (match S.lab a with | some (.slot i) => some (Lab.slot i) | _ => (match S'.lab a with | some (.slot _) => none | l => l)) = _
  rw [h]
theorem back_else {S' : Sh} {a : Addr} (h : ∀ i, S.lab a ≠ some (.slot i)) : (S.back S').lab a = (match S'.lab a with | some (.slot _) => none | l => l) := by
  show (match S.lab a with | some (.slot i) => some (Lab.slot i) | _ => (match S'.lab a with | some (.slot _) => none | l => l)) = _
  split
  · rename_i i e; exact absurd e (h i)
  · rfl
theorem Rel.hide (r : Rel K ct H0 S s σ H) : Rel K ct H S.hide ⟨[], s.M⟩ [] H := ⟨r.sub, fun a l q => r.lg a l (hide_of q).1, fun _ h => h, rfl, fun i e q => by simp at q, fun k c q => ⟨hide_id (r.ids k c q).1, (r.ids k c q).2.mono (fun _ _ e => e) (fun _ _ => rfl) (Nat.le_refl _) (fun _ e => e)⟩⟩
theorem Rel.back {S' : Sh} {M' : List Cn} {H' : Hp} (r : Rel K ct H0 S s σ H) (st : Stp S.hide s.M.length H S' M'.length H') (r' : Rel K ct H S' ⟨[], M'⟩ [] H') :
    Rel K ct H0 (S.back S') ⟨s.env, M'⟩ σ H' ∧ Stp S s.M.length H (S.back S') M'.length H' := by
  have slot_keep : ∀ {a : Addr} {i : Nat}, S.lab a = some (.slot i) → (∀ o, H a = some o → H' a = some o) ∧ S'.G a = none ∧ S'.lab a = none := fun {a i} h => by
    obtain ⟨hg, o, ho⟩ := r.lg a _ h
    have k := st.fr a o ho (hide_slot h)
    refine ⟨fun u hu => (st.fr a u hu (hide_slot h)).1, ?_, k.2⟩
    cases q : S'.G a with
    | none => rfl
    | some u =>
      rcases st.gn a u q with z | z | ⟨l, z⟩
      · have z : S.G a = some u := z; rw [hg] at z; cases z
      · rw [ho] at z; cases z
      · rw [hide_slot h] at z; cases z
  have cn : ∀ {a : Addr} {c : Cn}, CnOk K ct S' M'.length H' a c → CnOk K ct (S.back S') M'.length H' a c := fun {a c} h => h.mono (fun _ _ e => e) (fun _ _ => rfl) (Nat.le_refl _) (fun _ e => e)
  refine ⟨⟨r'.sub, fun a l q => ?_, fun a h => r.dom a (st.dom a h), r.len, fun i e q => ?_, fun k c q => ?_⟩, ⟨st.g, st.le, st.al, fun a o h l => ?_, fun a o q => ?_, st.dom⟩⟩
  · by_cases hs : ∃ i, S.lab a = some (.slot i)
    · obtain ⟨i, hs⟩ := hs
      obtain ⟨_, o, ho⟩ := r.lg a _ hs
      obtain ⟨k1, k2, k3⟩ := slot_keep hs
      exact ⟨k2, o, k1 o ho⟩
    · rw [back_else (fun i z => hs ⟨i, z⟩)] at q
      split at q
      · cases q
      · exact r'.lg a l q
  · have hh := r.slot i e q
    cases e with
    | fz d => obtain ⟨v, h1, h2⟩ := hh; exact ⟨v, h1, h2.mono st.g st.al st.le⟩
    | xn x => exact xn_mono (S := S) (n := s.M.length) (H := H) st.g st.al st.le rfl hh
    | ow c =>
      obtain ⟨p, h1, h2, h3, h4, h5⟩ := hh
      obtain ⟨k1, k2, k3⟩ := slot_keep h3
      exact ⟨p, h1, h2, back_slot h3, h4, h5.mono st.g st.al st.le k1⟩
  · obtain ⟨k1, k2⟩ := r'.ids k c q
    refine ⟨?_, cn k2⟩
    have hne : ∀ i, S.lab (S'.α k) ≠ some (.slot i) := fun i z => by
      have := (slot_keep z).2.2
      rw [k1] at this; cases this
    show (S.back S').lab (S'.α k) = _
    rw [back_else hne, k1]
  · obtain ⟨h1, h2⟩ := st.fr a o h (hide_none l)
    refine ⟨h1, ?_⟩
    rw [back_else (fun i z => by rw [l] at z; cases z), h2]
  · rcases st.gn a o q with z | z | ⟨l, z⟩
    · exact .inl z
    · exact .inr (.inl z)
    · exact .inr (.inr ⟨l, (hide_of z).1⟩)
def mCall (f : Mf) (m : Mo (List D)) : Mo AI := fun s => (m s).bind fun ds s1 => match f ds s1.M with
  | .ok a M' => .ok a ⟨s1.env, M'⟩
  | .er x M' => .er x ⟨s1.env, M'⟩
  | .no => .no
/-- .. where it doesn't raise -/
def mCallN (f : Mf) (m : Mo (List D)) : Mo AI := fun s => (m s).bind fun ds s1 => match f ds s1.M with
  | .ok a M' => .ok a ⟨s1.env, M'⟩
  | _ => .no
theorem fpst_of {f : Fr} {E : XK} {Q : VK} (rel : Rel K ct H0 S s σ H) (hE : ∀ x M', f = .er x M' → ∀ S' H' dd, Stp S s.M.length H S' M'.length H' → Rel K ct H0 S' ⟨s.env, M'⟩ σ H' → XOk K S' M'.length H' x dd → E (.ref (ct x.cls)) dd H')
    (hQ : ∀ a M', f = .ok a M' → ∀ S' v H', Stp S s.M.length H S' M'.length H' → Rel K ct H0 S' ⟨s.env, M'⟩ σ H' → ItOk K ct H S' ⟨s.env, M'⟩ σ H' v a → Q v H') (hn : f ≠ .no) : FPst K ct S.hide s.M H Q E f := by
  cases f with
  | no => exact absurd rfl hn
  | er x M' =>
      intro S' H' dd st r' xo
      obtain ⟨k1, k2⟩ := rel.back st r'
      exact hE x M' rfl (S.back S') H' dd k2 k1 xo
  | ok a M' =>
      intro S' v H' st r' it
      obtain ⟨k1, k2⟩ := rel.back st r'
      refine hQ a M' rfl (S.back S') v H' k2 k1 ?_
      cases a with
      | val d => exact it
      | slot j => simp [ItOk] at it
      | new c =>
        obtain ⟨p, rfl, h1, h2, h3, h4, h5⟩ := it
        refine ⟨p, rfl, h1, ?_, h3, h4, h5.mono (fun _ _ e => e) (fun _ _ => rfl) (Nat.le_refl _) (fun _ e => e)⟩
        rw [back_else (fun i z => by have := rel.labN h1; rw [z] at this; cases this), h2]
theorem ei_callN {f : Mf} {E : XK} {t : TA} {m : Mo (List D)} (h : EvL K ct H0 W t m) : Ei K ct H0 W (tCallZ (spM K ct f) E t) (mCallN f m) := fun S s σ H Q rel p =>
  h S s σ H _ rel (Pst.bind bI p fun S1 s1 H1 vs ds st1 rel1 i1 p1 => ⟨S1.hide, s1.M, ds, rel1.hide, i1, by
    generalize hf : f ds s1.M = r at p1
    cases r with
    | no => exact False.elim p1
    | er x M' => exact False.elim p1
    | ok a M' => exact fpst_of rel1 (fun x M' e => by cases e) (fun a' M'' e S' v H' st rl it => by cases e; exact p1 S' v H' st rl it) (fun e => by cases e)⟩)
theorem ei_callS {f : Mf} {t : TA} {m : Mo (List D)} (h : EvL K ct H0 W t m) : Ei K ct H0 W (tCallS (spM K ct f) (WE W) t) (mCall f m) := fun S s σ H Q rel p =>
  h S s σ H _ rel (Pst.bind bI p fun S1 s1 H1 vs ds st1 rel1 i1 p1 => ⟨S1.hide, s1.M, ds, rel1.hide, i1, by
    generalize hf : f ds s1.M = r at p1
    cases r with
    | no => exact False.elim p1
    | er x M' => exact fpst_of rel1 (fun x' M'' e S' H' dd st rl xo => by cases e; exact p1 S' H' dd st rl xo) (fun a' M'' e => by cases e) (fun e => by cases e)
    | ok a M' => exact fpst_of rel1 (fun x M' e => by cases e) (fun a' M'' e S' v H' st rl it => by cases e; exact p1 S' v H' st rl it) (fun e => by cases e)⟩)
end
end Y
namespace Y
open PySem L2 Z
section
variable {X : Cx}
theorem PSet.or {t t' : TSet} (h : PSet X t) (h' : PSet X t') : PSet X (fun o i v H Q => t o i v H Q ∨ t' o i v H Q) := by
  intro pins s σ H o i v ov iv u Q I ro ri rv q
  rcases q with q | q
  · exact h pins s σ H o i v ov iv u Q I ro ri rv q
  · exact h' pins s σ H o i v ov iv u Q I ro ri rv q
def rSetY : TSet := fun o i v H Q => rSetL o i v H Q ∨ rSetD o i v H Q
theorem set_Y (hu : X.A.units + 1 < cLine) : PSet X rSetY := PSet.or set_list (set_dict hu)
end
section
variable {K : PySem.W.Frag} {ct : Ct} {H0 : Hp} {W : WX} {S : Sh} {s : Stt} {σ : St} {H : Hp}
theorem cr_ty {n : String} : CR K (.ty n) (.ty n) := fun _ _ _ => .ty n
def fNeg : Stt → AI → Ro AI := fun s a => match a with
  | .val (.int i) => .ok (.val (.int (-i))) s
  | _ => .no
theorem j_neg : J1 K ct H0 (rU fun i => .int (-i)) fNeg := fun W S s σ H Hs x a Q rel ia p => by
  unfold fNeg at p
  split at p
  · rename_i i
    cases rp_int ia
    exact ⟨i, rfl, p.val rel (.int _)⟩
  · exact False.elim p
def fInt (s : Stt) (as : List AI) : Ro AI := match as with
  | [.val (.int i)] => .ok (.val (.int i)) s
  | [.val (.bl k)] => .ok (.val (.int (if k then 1 else 0))) s
  | [.val (.str x)] => match PySem.intText? x with
    | some n => if x.length ≤ 640 then .ok (.val (.int n)) s else .no
    | none => .no
  | _ => .no
def mAug (i : Nat) (f : Int → Int → Int) (m : Mo AI) : Ms := fun s => match entAt s i with
  | some (.fz (.int x)) => (m s).toS fun a s1 => match a with
    | .val (.int y) => .nx ⟨s1.env.set i (some (.fz (.int (f x y)))), s1.M⟩
    | _ => .no
  | _ => .no
theorem sv_aug {i : Nat} {f : Int → Int → Int} {te : TE} {m : Mo AI} (h : Ei K ct H0 W te m) : Sv K ct H0 W (tAug i te (ipI f)) (mAug i f m) := fun S s σ H Dn rel p => by
  unfold mAug at p
  split at p
  · rename_i x e
    obtain ⟨v, h1, h2⟩ := rel.slot i _ (entAt_eq e)
    cases rp_int h2
    refine ⟨.int x, h1, h S s σ H _ rel (PstS.bind p fun S1 s1 H1 y a st1 rel1 i1 p1 => ?_)⟩
    split at p1
    · rename_i j
      cases rp_int i1
      exact ⟨x, j, rfl, rfl, p1 (S1.un i) _ H1 (st1.trans .un) (rel1.setFz (.int _))⟩
    · exact False.elim p1
  · exact False.elim p
def keyOf : D → Option Key
  | .int i => some (.inl i)
  | .str x => some (.inr x)
  | _ => none
theorem keyOf_rp {G : Hp} {α : Nat → Addr} {n : Nat} {v : V} {d : D} {k : Key} (h : Rp K G α n v d) (e : keyOf d = some k) : v = kV k := by
  cases h <;> first | (cases e; rfl) | cases e
/-- o[i] = d -/
def setIt (a : AI) (i d : D) (s : Stt) : Option Stt := match getC s a with
  | some (.lst l) => match i with
    | .int k => (ixN l.length k).map fun j => setC s a (.lst (l.set j d))
    | _ => none
  | some (.dK l) => (keyOf i).bind fun k => if l.length < sizeLine then some (setC s a (.dK (pu l k d))) else none
  | _ => none
theorem setIt_ok {Hs : Hp} {x y v : V} {a : AI} {i d : D} {s' : Stt} {Q : Hp → Prop} (rel : Rel K ct H0 S s σ H) (ia : ItOk K ct Hs S s σ H x a) (ii : Rp K S.G S.α s.M.length y i) (id : Rp K S.G S.α s.M.length v d) (e : setIt a i d s = some s')
    (q : ∀ H', Stp S s.M.length H S s'.M.length H' → Rel K ct H0 S s' σ H' → Q H') : rSetY x y v H Q := by
  unfold setIt at e
  split at e
  · rename_i l eg
    split at e
    · rename_i k
      cases rp_int ii
      obtain ⟨j, e1, rfl⟩ := Option.map_eq_some_iff.mp e
      obtain ⟨p, rfl, ⟨us, h1, h2⟩, h3⟩ := mut_ok rel ia eg
      obtain ⟨r1, r2⟩ := h3 (.lst (us.set j v)) (.lst (l.set j d)) (fun _ => rfl) ⟨_, upd_same, h2.set id j⟩
      exact .inl ⟨p, us, k, j, rfl, rfl, h1, by rw [h2.length]; exact e1, q _ r2 r1⟩
    · cases e
  · rename_i l eg
    obtain ⟨k, e1, e2⟩ := Option.bind_eq_some_iff.mp e
    split at e2
    · rename_i hz
      cases e2
      obtain ⟨p, rfl, ⟨us, h1, h3, h2⟩, h4⟩ := mut_ok rel ia eg
      have rk := RpK.of h3 h2
      have rk' := rk.put (k := k) id
      obtain ⟨r1, r2⟩ := h4 (.dK (putK us k v)) (.dK (pu l k d)) (fun _ => rfl) ⟨_, upd_same, rk'.keys, rk'.vals⟩
      rw [keyOf_rp ii e1]
      exact .inr ⟨p, _, rfl, DPut.k h1 (by rw [rk.len]; exact hz), q _ r2 r1⟩
    · cases e2
  · cases e
def mAsgS (mo mi : Mo AI) (mv : Mo AI) : Ms := fun s => (mV mv s).toS fun d s1 => (mo s1).toS fun a s2 => (mV mi s2).toS fun i s3 => match setIt a i d s3 with
  | some s4 => .nx s4
  | none => .no
theorem sv_asgS {te to ti : TE} {mo mi mv : Mo AI} (hv : Ei K ct H0 W te mv) (ho : Ei K ct H0 W to mo) (hi : Ei K ct H0 W ti mi) : Sv K ct H0 W (tAsg te (gSub to ti rSetY)) (mAsgS mo mi mv) := fun S s σ H Dn rel p =>
  ev_of hv S s σ H _ rel (PstS.bind p fun S1 s1 H1 v d st1 rel1 i1 p1 => ho S1 s1 σ H1 _ rel1 (PstS.bind (PstS.from p1 st1) fun S2 s2 H2 x a st2 rel2 i2 p2 => ev_of hi S2 s2 σ H2 _ rel2 (PstS.bind (PstS.from p2 st2) fun S3 s3 H3 y i st3 rel3 i3 p3 => by
    have p3 := PstS.from p3 st3
    split at p3
    · rename_i s4 e
      exact setIt_ok rel3 (i2.step st3) i3 (Rp.step (st2.trans st3) i1) e fun H' st rl => p3 S3 σ H' st rl
    · exact False.elim p3)))
def mDNew : Mo AI := fun s => .ok (.new (.dK [])) s
theorem ei_dnew : Ei K ct H0 W tDNewK mDNew := fun S s σ H Q rel p q hq => p.newC rel hq rfl ⟨[], upd_same, rfl, .nil⟩
/-- d.pop(k), k is there -/
def fPop (s : Stt) (a : AI) (i : D) : Ro AI := match getC s a with
  | some (.dK l) => match (keyOf i).bind fun k => (vl l k).map fun d => (k, d) with
    | some (k, d) => .ok (.val d) (setC s a (.dK (dr l k)))
    | none => .no
  | _ => .no
def mPop (mo mi : Mo AI) : Mo AI := fun s => (mo s).bind fun a s1 => match viewD s1 a with
  | some _ => (mV mi s1).bind fun i s2 => fPop s2 a i
  | none => .no
theorem ei_pop {td ty : TE} {mo mi : Mo AI} (ho : Ei K ct H0 W td mo) (hi : Ei K ct H0 W ty mi) : Ei K ct H0 W (tDPop1 td ty) (mPop mo mi) := fun S s σ H Q rel p =>
  ho S s σ H _ rel (Pst.bind bI p fun S1 s1 H1 x a st1 rel1 i1 p1 => by
    split at p1
    · rename_i l e
      obtain ⟨q, kvs, rfl, h1, h2⟩ := viewD_ok rel1 i1 e
      refine ⟨q, rfl, .inl ⟨kvs, h1⟩, ev_of hi S1 s1 σ H1 _ rel1 (Pst.bind bI p1 fun S2 s2 H2 y i st2 rel2 i2 p2 => ?_)⟩
      unfold fPop at p2
      split at p2
      · rename_i l' eg
        split at p2
        · rename_i k d ek
          obtain ⟨k', e1, e2⟩ := Option.bind_eq_some_iff.mp ek
          obtain ⟨d', e3, e4⟩ := Option.map_eq_some_iff.mp e2
          obtain ⟨rfl, rfl⟩ : k' = k ∧ d' = d := by injection e4 with a b; exact ⟨a, b⟩
          obtain ⟨p, ep, ⟨us, g1, g3, g2⟩, g4⟩ := mut_ok rel2 (i1.step st2) eg
          cases ep
          have rk := RpK.of g3 g2
          have rk' := rk.drop (k := k')
          obtain ⟨r1, r2⟩ := g4 (.dK (dropK us k')) (.dK (dr l' k')) (fun _ => rfl) ⟨_, upd_same, rk'.keys, rk'.vals⟩
          rcases rk.get (k := k') with ⟨z1, z2⟩ | ⟨v, d0, z1, z2, z3⟩
          · rw [z1] at e3; cases e3
          · rw [z1] at e3; cases e3
            refine ⟨us, k', v, g1, keyOf_rp i2 e1, z2, p2 S2 v _ r2 r1 ?_⟩
            show Rp K S2.G S2.α (setC s2 a (.dK (dr l' k'))).M.length v _
            rw [setC_len]; exact z3
        · exact False.elim p2
      · exact False.elim p2
    · exact False.elim p1)
/-- d.get(k), d.get(k, x) -/
def fGet (s : Stt) (a : AI) (i x : D) : Ro AI := match viewD s a with
  | some l => match keyOf i with
    | some k => .ok (.val ((vl l k).getD x)) s
    | none => .no
  | none => .no
def mGet2 (mo mi mx : Mo AI) : Mo AI := fun s => (mo s).bind fun a s1 => match viewD s1 a with
  | some _ => (mV mi s1).bind fun i s2 => (mV mx s2).bind fun x s3 => fGet s3 a i x
  | none => .no
theorem ei_get2 {td ty tx : TE} {mo mi mx : Mo AI} (ho : Ei K ct H0 W td mo) (hi : Ei K ct H0 W ty mi) (hx : Ei K ct H0 W tx mx) : Ei K ct H0 W (tDGet2 td ty tx) (mGet2 mo mi mx) := fun S s σ H Q rel p =>
  ho S s σ H _ rel (Pst.bind bI p fun S1 s1 H1 x a st1 rel1 i1 p1 => by
    split at p1
    · rename_i l e
      obtain ⟨q, kvs, rfl, h1, h2⟩ := viewD_ok rel1 i1 e
      refine ⟨q, rfl, .inl ⟨kvs, h1⟩, ev_of hi S1 s1 σ H1 _ rel1 (Pst.bind bI p1 fun S2 s2 H2 y i st2 rel2 i2 p2 => ev_of hx S2 s2 σ H2 _ rel2 (Pst.bind bI p2 fun S3 s3 H3 z xd st3 rel3 i3 p3 => ?_))⟩
      unfold fGet at p3
      split at p3
      · rename_i l' e'
        split at p3
        · rename_i k ek
          obtain ⟨q', kvs', eq', g1, g2⟩ := viewD_ok rel3 ((i1.step st2).step st3) e'
          cases eq'
          rw [keyOf_rp i2 ek]
          rcases dget_ok (k := k) g1 g2 with ⟨z1, z2⟩ | ⟨v, d0, z1, z2, z3⟩
          · rw [z1] at p3; exact ⟨none, z2, p3.val rel3 i3⟩
          · rw [z1] at p3; exact ⟨some v, z2, p3.val rel3 z3⟩
        · exact False.elim p3
      · exact False.elim p3
    · exact False.elim p1)
end
end Y
namespace Y
open PySem L2 Z
theorem u65 {A : Around} {k : Nat} (hr : Room k A) : A.units + 65 < cLine := by have := hr.un; omega
theorem u66 {A : Around} {k : Nat} (hr : Room k A) : A.units + 70 < cLine := by have := hr.un; omega
theorem rpl_ints {K : PySem.W.Frag} {G : Hp} {α : Nat → Addr} {n : Nat} : ∀ ns : List Int, RpL K G α n (ns.map V.int) (ns.map D.int)
  | [] => .nil
  | i :: ns => .cons (.int i) (rpl_ints ns)
end Y
namespace Y
open PySem L2 Z
def So {α : Type} (P : α → Prop) : Option α → Prop
  | some s => P s
  | none => False
def Ok {α : Type} (P : α → Stt → Prop) : Ro α → Prop
  | .ok a s => P a s
  | _ => False
def Fo (P : AI → List Cn → Prop) : Fr → Prop
  | .ok a M => P a M
  | _ => False
theorem chk_none {s : Stt} : chk none s := trivial
theorem forN_nil {g : Tg} {b : Ms} {s : Stt} : forN g b none [] s = .nx s := by unfold forN; rw [if_pos chk_none]
theorem forN_cons {g : Tg} {b : Ms} {s s1 : Stt} {x : D} {xs : List D} (h : g x s = some s1) : forN g b none (x :: xs) s = (match b s1 with
      | .nx s2 => forN g b none xs s2
      | .ct s2 => forN g b none xs s2
      | .bk s2 => .nx s2
      | .rt a s2 => .rt a s2
      | .er x s2 => .er x s2
      | .no => .no) := by
  conv => lhs; unfold forN
  rw [if_pos chk_none, h] <;> rfl
/-- a comprehension, by what holds of each part: the state comes back -/
theorem lc_map {ws : List Nat} {g : Tg} {e : Mo D} {s : Stt} {xs : List D} (f : D → D) (hz : xs.length ≤ sizeLine) (h : ∀ x ∈ xs, So (fun s1 => Ok (fun d s2 => d = f x ∧ wipeS ws s2 = s) (e s1)) (g x s)) : ∀ acc : List D, acc.length + xs.length ≤ sizeLine → lcN ws g mYes e none xs acc s = .ok (acc ++ xs.map f) s := by
  induction xs with
  | nil => intro acc _; unfold lcN; rw [if_pos chk_none, List.map_nil, List.append_nil]
  | cons x xs ih =>
    intro acc ha
    have h1 := h x (by simp)
    unfold lcN
    rw [if_pos chk_none]
    cases hg : g x s with
    | none => rw [hg] at h1; exact False.elim h1
    | some s1 =>
      rw [hg] at h1
      have h1 : Ok (fun d s2 => d = f x ∧ wipeS ws s2 = s) (e s1) := h1
      show (if true = true then (match e s1 with | .ok d s3 => if acc.length < sizeLine then lcN ws g mYes e none xs (acc ++ [d]) (wipeS ws s3) else .no | _ => .no) else _) = _
      rw [if_pos rfl]
      cases he : e s1 with
      | no => rw [he] at h1; exact False.elim h1
      | er x s2 => rw [he] at h1; exact False.elim h1
      | ok d s2 =>
        rw [he] at h1
        obtain ⟨rfl, h3⟩ := h1
        have hl : acc.length < sizeLine := by rw [List.length_cons] at ha; omega
        show (if acc.length < sizeLine then lcN ws g mYes e none xs (acc ++ [f x]) (wipeS ws s2) else .no) = _
        rw [if_pos hl, h3, ih (by rw [List.length_cons] at hz; omega) (fun y hy => h y (by simp [hy])) _ (by rw [List.length_append, List.length_cons, List.length_nil]; rw [List.length_cons] at ha; omega), List.append_assoc]
        rfl
theorem intsD_map (ns : List Int) : intsD (ns.map D.int) = some ns := by
  induction ns with
  | nil => rfl
  | cons n ns ih => show (intsD (ns.map D.int)).map (n :: ·) = _; rw [ih]; rfl
theorem blsD_map (ns : List Bool) : blsD (ns.map D.bl) = some ns := by
  induction ns with
  | nil => rfl
  | cons n ns ih => show (blsD (ns.map D.bl)).map (n :: ·) = _; rw [ih]; rfl
theorem pyL_ints (ns : List Int) : D.pyL (ns.map D.int) = some (ns.map PyData.int) := by
  induction ns with
  | nil => rfl
  | cons n ns ih => show (D.py (.int n)).bind (fun x => (D.pyL (ns.map D.int)).map (x :: ·)) = _; rw [ih]; rfl
theorem atI_map {β : Type} (f : β → D) (l : List β) (i : Int) : atI (l.map f) i = (atI l i).map f := by
  unfold atI
  rw [List.length_map]
  cases ixN l.length i with
  | none => rfl
  | some j => show (l.map f)[j]? = (l[j]?).map f; rw [List.getElem?_map]
theorem atI_nn {β : Type} {l : List β} {i : Int} (h : 0 ≤ i) : atI l i = l[i.toNat]? := by
  unfold atI ixN
  rw [if_pos h]
  by_cases q : i < l.length
  · rw [if_pos q]; rfl
  · rw [if_neg q]; show none = _; rw [List.getElem?_eq_none_iff.mpr (by omega)]
theorem atI_int {ns : List Int} {i : Int} (h0 : 0 ≤ i) (h1 : i < ns.length) : atI (ns.map D.int) i = some (.int (ns.getD i.toNat 0)) := by
  rw [atI_nn h0, List.getElem?_map, List.getElem?_eq_getElem (by omega : i.toNat < ns.length)]
  simp [List.getD, (by omega : i.toNat < ns.length)]
theorem rng_get {lo : Int} {n i : Nat} {d : D} (h : (rng lo n)[i]? = some d) : i < n ∧ d = .int (lo + i) := by
  unfold rng at h
  rw [List.getElem?_map] at h
  obtain ⟨j, e1, rfl⟩ := Option.map_eq_some_iff.mp h
  obtain ⟨hlt, ej⟩ := List.getElem?_eq_some_iff.mp e1
  rw [List.getElem_range] at ej
  rw [List.length_range] at hlt
  subst ej
  exact ⟨hlt, rfl⟩
theorem rng_len {lo : Int} {n : Nat} : (rng lo n).length = n := by unfold rng; rw [List.length_map, List.length_range]
theorem map_get {β : Type} {f : β → D} {l : List β} {i : Nat} {d : D} (h : (l.map f)[i]? = some d) : ∃ x, l[i]? = some x ∧ d = f x := by
  rw [List.getElem?_map] at h
  obtain ⟨x, e, rfl⟩ := Option.map_eq_some_iff.mp h
  exact ⟨x, e, rfl⟩
theorem enum_get {l : List D} {i : Nat} {d : D} (h : (enumL l)[i]? = some d) : ∃ x, l[i]? = some x ∧ d = .tup [.int (i : Nat), x] := by
  unfold enumL at h
  rw [List.getElem?_map, List.getElem?_zipIdx] at h
  obtain ⟨pr, e2, rfl⟩ := Option.map_eq_some_iff.mp h
  obtain ⟨y, e3, rfl⟩ := Option.map_eq_some_iff.mp e2
  exact ⟨y, e3, by rw [Nat.zero_add]⟩
theorem enum_len {l : List D} : (enumL l).length = l.length := by unfold enumL; rw [List.length_map, List.length_zipIdx]
theorem eqv_int (i j : Int) : PyData.eqv (.int i) (.int j) = decide (i = j) := by
  show (i == j) = _
  by_cases h : i = j
  · subst h; simp
  · simp [h]
theorem eqv_lints (ns ms : List Int) : PyData.eqv (.list (ns.map PyData.int)) (.list (ms.map PyData.int)) = decide (ns = ms) := Z.eqv_ints ns ms
theorem shaped_lints (ns : List Int) : SeqAt.shaped (.list (ns.map PyData.int)) = true := Z.shaped_ints ns
end Y
namespace Y
open PySem L2 Z
def Wo {α : Type} (Q : α → Stt → Prop) (X : Exn → Stt → Prop) : Ro α → Prop
  | .ok a s => Q a s
  | .er x s => X x s
  | .no => False
def Ws (N : Stt → Prop) (O : Rs → Prop) : Rs → Prop
  | .nx s => N s
  | .no => False
  | r => O r
abbrev Xf : Exn → Stt → Prop := fun _ _ => False
section
variable {α β : Type} {Q : α → Stt → Prop} {QA : AI → Stt → Prop} {QD : D → Stt → Prop} {QL : List AI → Stt → Prop} {QV : List D → Stt → Prop} {QB : Bool → Stt → Prop} {QO : Option Int → Stt → Prop} {QI : Im → Stt → Prop} {X : Exn → Stt → Prop} {N : Stt → Prop} {O : Rs → Prop} {s : Stt} {i j : Nat} {m m1 m2 m3 : Mo AI} {env : List (Option Ent)} {M : List Cn}
theorem w_bind {r : Ro β} {f : β → Mo α} (h : Wo (fun a s => Wo Q X (f a s)) X r) : Wo Q X (r.bind f) := by cases r <;> exact h
theorem w_toS {r : Ro β} {f : β → Ms} (h : Wo (fun a s => Ws N O (f a s)) (fun x s => O (.er x s)) r) : Ws N O (r.toS f) := by cases r <;> exact h
theorem w_mono {Q' : α → Stt → Prop} {r : Ro α} (h : Wo Q X r) (k : ∀ a s, Q a s → Q' a s) : Wo Q' X r := by
  cases r with
  | ok a s => exact k _ _ h
  | er x s => exact h
  | no => exact h
theorem w_seq {a b : Ms} (h : Ws (fun s1 => Ws N O (b s1)) O (a s)) : Ws N O (mSeq a b s) := by
  unfold mSeq
  cases q : a s <;> rw [q] at h <;> exact h
/-- the ways meet again at R -/
theorem w_join {a b : Ms} (R : Stt → Prop) (h : Ws R O (a s)) (k : ∀ s, R s → Ws N O (b s)) : Ws N O (mSeq a b s) := by
  unfold mSeq
  cases q : a s with
  | nx s1 => rw [q] at h; exact k s1 h
  | _ => rw [q] at h; exact h
theorem w_next (h : N s) : Ws N O (mNext s) := h
theorem w_drop (h : Wo (fun _ s1 => N s1) (fun x s => O (.er x s)) (m s)) : Ws N O (mDrop m s) := w_toS h
theorem w_ifS {c : Mo Bool} {a b : Ms} (h : Wo (fun k s1 => if k = true then Ws N O (a s1) else Ws N O (b s1)) (fun x s => O (.er x s)) (c s)) : Ws N O (mIfS c a b s) := w_toS (w_mono h fun k s h => by cases k <;> exact h)
theorem w_asg (h : Wo (fun a s1 => Ws N O (asg i a s1)) (fun x s => O (.er x s)) (m s)) : Ws N O (mAsg i m s) := w_toS h
theorem w_asgV {d : D} (h : N ⟨s.env.set i (some (.fz d)), s.M⟩) : Ws N O (asg i (.val d) s) := h
theorem w_asgN {c : Cn} (h : N ⟨s.env.set i (some (.ow c)), s.M⟩) : Ws N O (asg i (.new c) s) := h
theorem w_asgI {c : Cn} (e : entAt s j = some (.ow c)) (h : N ⟨(s.env.set j (some (.fz c.toD))).set i (some (.fz c.toD)), s.M⟩) : Ws N O (asg i (.slot j) s) := by
  show Ws N O ((match entAt s j with | some (.ow c) => Ro.ok c.toD ⟨s.env.set j (some (.fz c.toD)), s.M⟩ | some (.fz d) => Ro.ok d s | _ => Ro.no).toS fun d s1 => .nx ⟨s1.env.set i (some (.fz d)), s1.M⟩)
  rw [e]; exact h
theorem w_ret (h : Wo (fun a s1 => Ws N O (Y.ret a s1)) (fun x s => O (.er x s)) (m s)) : Ws N O (mRet m s) := w_toS h
theorem w_retV {d : D} (h : O (.rt (.val d) s)) : Ws N O (Y.ret (.val d) s) := h
theorem w_retN' {c : Cn} (h : O (.rt (.new c) s)) : Ws N O (Y.ret (.new c) s) := h
theorem w_retS {c : Cn} (e : entAt s j = some (.ow c)) (h : O (.rt (.new c) ⟨s.env.set j none, s.M⟩)) : Ws N O (Y.ret (.slot j) s) := by
  show Ws N O (match entAt s j with | some (.ow c) => .rt (.new c) ⟨s.env.set j none, s.M⟩ | some (.fz d) => .rt (.val d) s | _ => .no)
  rw [e]; exact h
theorem w_retN (h : O (.rt (.val .non) s)) : Ws N O (mRetN s) := h
theorem w_nameF {d : D} (e : entAt s i = some (.fz d)) (h : QA (.val d) s) : Wo QA X (mName i s) := by unfold mName; rw [e]; exact h
theorem w_nameO {c : Cn} (e : entAt s i = some (.ow c)) (h : QA (.slot i) s) : Wo QA X (mName i s) := by unfold mName; rw [e]; exact h
theorem w_c {d : D} (h : QA (.val d) s) : Wo QA X (mC d s) := h
theorem w_op {f : Stt → AI → AI → Ro AI} (h : Wo (fun a s1 => Wo (fun b s2 => Wo QA X (f s2 a b)) X (m2 s1)) X (m1 s)) : Wo QA X (mOp f m1 m2 s) := w_bind (w_mono h fun _ _ h => w_bind h)
theorem w_un {f : Stt → AI → Ro AI} (h : Wo (fun a s1 => Wo QA X (f s1 a)) X (m1 s)) : Wo QA X (mUn f m1 s) := w_bind h
theorem w_I0 {g : Int → Int → D} {i j : Int} (h : QA (.val (g i j)) s) : Wo QA X (fI0 g s (.val (.int i)) (.val (.int j))) := h
theorem w_I {C : Int → Int → Prop} {g : Int → Int → D} {i j : Int} (c : C i j) (h : QA (.val (g i j)) s) : Wo QA X (fI C g s (.val (.int i)) (.val (.int j))) := by
  unfold fI; simp only []; rw [if_pos c]; exact h
theorem w_addI {i j : Int} (h : QA (.val (.int (i + j))) s) : Wo QA X (fAdd s (.val (.int i)) (.val (.int j))) := h
def noS : AI → Bool
  | .val (.int _) => false
  | .val (.str _) => false
  | _ => true
theorem w_addL {a b : AI} {l l' : List D} (n : noS a = true) (e1 : viewL s a = some l) (e2 : viewL s b = some l') (c : l.length + l'.length ≤ sizeLine) (h : QA (.new (.lst (l ++ l'))) s) : Wo QA X (fAdd s a b) := by
  unfold fAdd
  split
  · cases n
  · cases n
  · rw [e1, e2]; simp only []; rw [if_pos c]; exact h
theorem w_mulI {i j : Int} (c : CMul i j) (h : QA (.val (.int (i * j))) s) : Wo QA X (fMul s (.val (.int i)) (.val (.int j))) := by
  unfold fMul; simp only []; rw [if_pos c]; exact h
theorem w_eqI {i j : Int} (h : QA (.val (.bl (decide (i = j)))) s) : Wo QA X (fEq s (.val (.int i)) (.val (.int j))) := by
  show Wo QA X (.ok (.val (.bl (PyData.eqv (.int i) (.int j)))) s)
  rw [eqv_int]; exact h
theorem w_neI {i j : Int} (h : QA (.val (.bl (!decide (i = j)))) s) : Wo QA X (fNe s (.val (.int i)) (.val (.int j))) := by
  show Wo QA X (.ok (.val (.bl (!PyData.eqv (.int i) (.int j)))) s)
  rw [eqv_int]; exact h
theorem w_eq {a b : AI} {k : Bool} (e : eqOf s a b = some k) (h : QA (.val (.bl k)) s) : Wo QA X (fEq s a b) := by unfold fEq; rw [e]; exact h
theorem w_ne {a b : AI} {k : Bool} (e : eqOf s a b = some k) (h : QA (.val (.bl (!k))) s) : Wo QA X (fNe s a b) := by unfold fNe; rw [e]; exact h
theorem eqOf_of {a b : AI} {x y : PyData} {k : Bool} (e1 : pyOf s a = some x) (e2 : pyOf s b = some y) (h1 : SeqAt.shaped x = true) (h2 : SeqAt.shaped y = true) (e : x.eqv y = k) : eqOf s a b = some k := by
  unfold eqOf; rw [e1, e2]; show (if SeqAt.shaped x && SeqAt.shaped y then some (x.eqv y) else none) = _
  rw [h1, h2, e]; rfl
theorem py_ints {d : D} {ns : List Int} (h : d = .lst (ns.map D.int) ∨ d = .clst (ns.map D.int)) : d.py = some (.list (ns.map PyData.int)) := by
  rcases h with rfl | rfl
  · show (D.pyL (ns.map D.int)).map PyData.list = _; rw [pyL_ints]; rfl
  · show (D.pyL (ns.map D.int)).map PyData.list = _; rw [pyL_ints]; rfl
theorem eqOf_ints {a b : AI} {d d' : D} {ns ms : List Int} (e1 : (look s a).bind (deref s.M) = some d) (e2 : (look s b).bind (deref s.M) = some d') (h1 : d = .lst (ns.map D.int) ∨ d = .clst (ns.map D.int)) (h2 : d' = .lst (ms.map D.int) ∨ d' = .clst (ms.map D.int)) : eqOf s a b = some (decide (ns = ms)) := by
  refine eqOf_of (x := .list (ns.map PyData.int)) (y := .list (ms.map PyData.int)) ?_ ?_ (shaped_lints ns) (shaped_lints ms) (eqv_lints ns ms)
  · unfold pyOf; rw [e1]; exact py_ints h1
  · unfold pyOf; rw [e2]; exact py_ints h2
theorem w_isB {x y : Bool} (h : QA (.val (.bl (x == y))) s) : Wo QA X (fIs s (.val (.bl x)) (.val (.bl y))) := h
theorem w_isnB {x y : Bool} (h : QA (.val (.bl (!(x == y)))) s) : Wo QA X (fIsn s (.val (.bl x)) (.val (.bl y))) := h
theorem isOf_n {a : AI} {d : D} (e : look s a = some d) : isOf s a (.val .non) = some d.isN := by
  unfold isOf
  split
  · rename_i h; cases h
  · rw [e]; rfl
  · rename_i h1 h2; first | exact (h1 rfl).elim | exact (h2 rfl).elim
theorem w_isN {a : AI} {d : D} (e : look s a = some d) (h : QA (.val (.bl d.isN)) s) : Wo QA X (fIs s a (.val .non)) := by unfold fIs; rw [isOf_n e]; exact h
theorem w_isnN {a : AI} {d : D} (e : look s a = some d) (h : QA (.val (.bl (!d.isN))) s) : Wo QA X (fIsn s a (.val .non)) := by unfold fIsn; rw [isOf_n e]; exact h
theorem w_ixL {a : AI} {l : List D} {i : Int} {d : D} (n : noS a = true) (e0 : viewD s a = none) (e1 : viewL s a = some l) (e2 : atI l i = some d) (h : QA (.val d) s) : Wo QA X (fIxY s a (.val (.int i))) := by
  unfold fIxY; rw [e0]; simp only []
  unfold fIx; simp only []
  split
  · cases n
  · rw [e1]; simp only []; rw [e2]; exact h
theorem w_ixT {a : AI} {l : List D} {i : Int} {d : D} (n : noS a = true) (e0 : viewD s a = none) (e3 : viewL s a = none) (e1 : viewT s a = some l) (e2 : atI l i = some d) (h : QA (.val d) s) : Wo QA X (fIxY s a (.val (.int i))) := by
  unfold fIxY; rw [e0]; simp only []
  unfold fIx; simp only []
  split
  · cases n
  · rw [e3]; simp only []; rw [e1]; simp only []; rw [e2]; exact h
theorem w_ixI {a : AI} {ns : List Int} {i : Int} (n : noS a = true) (e0 : viewD s a = none) (e1 : viewL s a = some (ns.map D.int)) (h0 : 0 ≤ i) (h1 : i < ns.length) (h : QA (.val (.int (ns.getD i.toNat 0))) s) : Wo QA X (fIxY s a (.val (.int i))) := w_ixL n e0 e1 (atI_int h0 h1) h
theorem w_ixK {a : AI} {l : List (Key × D)} {i : D} {k : Key} {d : D} (e0 : viewD s a = some l) (ek : keyOf i = some k) (e : vl l k = some d) (h : QA (.val d) s) : Wo QA X (fIxY s a (.val i)) := by
  unfold fIxY; rw [e0]; simp only []
  cases i <;> first | (cases ek; simp only []; rw [e]; exact h) | cases ek
theorem w_tru (h : Wo (fun a s1 => ∃ d b, look s1 a = some d ∧ truD s1.M d = some b ∧ QB b s1) X (m s)) : Wo QB X (mTru m s) := w_bind (w_mono h fun a s1 ⟨d, b, e1, e2, k⟩ => by rw [e1]; show Wo QB X (match truD s1.M d with | some b => Ro.ok b s1 | none => .no); rw [e2]; exact k)
theorem w_bl (h : Wo (fun a s1 => ∃ b, a = .val (.bl b) ∧ QB b s1) X (m s)) : Wo QB X (mBl m s) := w_bind (w_mono h fun a s1 ⟨b, e, k⟩ => by subst e; exact k)
theorem w_blB {b : Bool} (h : QB b s) : ∃ b', AI.val (.bl b) = .val (.bl b') ∧ QB b' s := ⟨b, rfl, h⟩
theorem w_and {c1 c2 : Mo Bool} (h : Wo (fun k s1 => if k = true then Wo QB X (c2 s1) else QB false s1) X (c1 s)) : Wo QB X (mAnd c1 c2 s) := w_bind (w_mono h fun k s1 h => by cases k <;> exact h)
theorem w_or {c1 c2 : Mo Bool} (h : Wo (fun k s1 => if k = true then QB true s1 else Wo QB X (c2 s1)) X (c1 s)) : Wo QB X (mOr c1 c2 s) := w_bind (w_mono h fun k s1 h => by cases k <;> exact h)
theorem w_not {c1 : Mo Bool} (h : Wo (fun k s1 => QB (!k) s1) X (c1 s)) : Wo QB X (mNot c1 s) := w_bind h
theorem w_andV (h : Wo (fun a s1 => ∃ k, a = .val (.bl k) ∧ if k = true then Wo QA X (m2 s1) else QA (.val (.bl false)) s1) X (m1 s)) : Wo QA X (mAndV m1 m2 s) := w_bind (w_mono h fun a s1 ⟨k, e, h⟩ => by subst e; cases k <;> exact h)
theorem w_orV (h : Wo (fun a s1 => ∃ k, a = .val (.bl k) ∧ if k = true then QA (.val (.bl true)) s1 else Wo QA X (m2 s1)) X (m1 s)) : Wo QA X (mOrV m1 m2 s) := w_bind (w_mono h fun a s1 ⟨k, e, h⟩ => by subst e; cases k <;> exact h)
theorem w_notV (h : Wo (fun a s1 => ∃ k, a = .val (.bl k) ∧ QA (.val (.bl (!k))) s1) X (m1 s)) : Wo QA X (mNotV m1 s) := w_bind (w_mono h fun a s1 ⟨k, e, h⟩ => by subst e; exact h)
theorem w_blV {b : Bool} {P : Bool → Prop} (h : P b) : ∃ k, AI.val (.bl b) = .val (.bl k) ∧ P k := ⟨b, rfl, h⟩
theorem w_ifE {c : Mo Bool} {m1 m2 : Mo α} (h : Wo (fun k s1 => if k = true then Wo Q X (m1 s1) else Wo Q X (m2 s1)) X (c s)) : Wo Q X (mIf c m1 m2 s) := w_bind (w_mono h fun k s1 h => by cases k <;> exact h)
theorem w_chain {f f' : Stt → AI → AI → Ro AI} (h : Wo (fun a s1 => Wo (fun b s2 => Wo (fun z s3 => ∃ k, z = .val (.bl k) ∧ if k = true then Wo (fun c s4 => Wo QA X (f' s4 b c)) X (m3 s3) else QA (.val (.bl false)) s3) X (f s2 a b)) X (m2 s1)) X (m1 s)) : Wo QA X (mChain f f' m1 m2 m3 s) :=
  w_bind (w_mono h fun a s1 h => w_bind (w_mono h fun b s2 h => w_bind (w_mono h fun z s3 ⟨k, e, h⟩ => by subst e; cases k with | true => exact w_bind h | false => exact h)))
theorem w_aNil (h : QL [] s) : Wo QL X (aNil s) := h
theorem w_aCons {r : Mo (List AI)} (h : Wo (fun a s1 => Wo (fun as s2 => QL (a :: as) s2) X (r s1)) X (m s)) : Wo QL X (aCons m r s) := w_bind (w_mono h fun _ _ h => w_bind h)
theorem w_vNil (h : QV [] s) : Wo QV X (vNil s) := h
theorem w_vCons {r : Mo (List D)} (h : Wo (fun d s1 => Wo (fun as s2 => QV (d :: as) s2) X (r s1)) X (mV m s)) : Wo QV X (vCons m r s) := w_bind (w_mono h fun _ _ h => w_bind h)
theorem w_V (h : Wo (fun a s1 => Wo QD X (toV a s1)) X (m s)) : Wo QD X (mV m s) := w_bind h
theorem w_toVV {d : D} (h : QD d s) : Wo QD X (toV (.val d) s) := h
theorem w_toVN {c : Cn} (h : QD c.toD s) : Wo QD X (toV (.new c) s) := h
theorem w_toVS {c : Cn} (e : entAt s i = some (.ow c)) (h : QD c.toD ⟨s.env.set i (some (.fz c.toD)), s.M⟩) : Wo QD X (toV (.slot i) s) := by
  show Wo QD X (match entAt s i with | some (.ow c) => Ro.ok c.toD ⟨s.env.set i (some (.fz c.toD)), s.M⟩ | some (.fz d) => Ro.ok d s | _ => Ro.no)
  rw [e]; exact h
theorem w_lst {r : Mo (List D)} (h : Wo (fun l s1 => l.length ≤ sizeLine ∧ QA (.new (.lst l)) s1) X (r s)) : Wo QA X (mLst r s) := w_bind (w_mono h fun l s1 ⟨c, h⟩ => by show Wo QA X (if _ then _ else _); rw [if_pos c]; exact h)
theorem w_tup {r : Mo (List D)} (h : Wo (fun l s1 => l.length ≤ sizeLine ∧ QA (.val (.tup l)) s1) X (r s)) : Wo QA X (mTup r s) := w_bind (w_mono h fun l s1 ⟨c, h⟩ => by show Wo QA X (if _ then _ else _); rw [if_pos c]; exact h)
theorem w_oNo (h : QO none s) : Wo QO X (oNo s) := h
theorem w_oSm (h : Wo (fun a s1 => ∃ i, a = .val (.int i) ∧ QO (some i) s1) X (m s)) : Wo QO X (oSm m s) := w_bind (w_mono h fun a s1 ⟨i, e, h⟩ => by subst e; exact h)
theorem w_intI {i : Int} {P : Int → Prop} (h : P i) : ∃ k, AI.val (.int i) = .val (.int k) ∧ P k := ⟨i, rfl, h⟩
theorem w_sl {ml mh : Mo (Option Int)} (h : Wo (fun a s1 => Wo (fun l s2 => Wo (fun u s3 => Wo QA X (fSl s3 a l u)) X (mh s2)) X (ml s1)) X (m s)) : Wo QA X (mSl m ml mh s) := w_bind (w_mono h fun _ _ h => w_bind (w_mono h fun _ _ h => w_bind h))
theorem w_slL {a : AI} {l : List D} {lo hi : Option Int} (n : noS a = true) (e : viewL s a = some l) (h : QA (.new (.lst (cutL l lo hi))) s) : Wo QA X (fSl s a lo hi) := by
  unfold fSl
  split
  · cases n
  · rw [e]; exact h
theorem w_cb {f : Stt → List AI → Ro AI} {r : Mo (List AI)} (h : Wo (fun as s1 => Wo QA X (f s1 as)) X (r s)) : Wo QA X (mCB f r s) := w_bind h
theorem w_len {a : AI} {d : D} {n : Nat} (e1 : look s a = some d) (e2 : lenD s.M d = some n) (h : QA (.val (.int (n : Int))) s) : Wo QA X (fLen s [a]) := by
  unfold fLen; simp only []; rw [e1]; show Wo QA X (match lenD s.M d with | some n => _ | none => _); rw [e2]; exact h
theorem w_ints {g : List Int → Option D} {a : AI} {l : List D} {ns : List Int} {d : D} (e1 : viewL s a = some l) (e2 : intsD l = some ns) (e3 : g ns = some d) (h : QA (.val d) s) : Wo QA X (fInts g s [a]) := by
  unfold fInts; simp only []; rw [e1]; show Wo QA X (match (intsD l).bind g with | some d => _ | none => _); rw [e2]; show Wo QA X (match g ns with | some d => _ | none => _); rw [e3]; exact h
theorem w_bls {g : List Bool → D} {a : AI} {l : List D} {bs : List Bool} (e1 : viewL s a = some l) (e2 : blsD l = some bs) (h : QA (.val (g bs)) s) : Wo QA X (fBls g s [a]) := by
  unfold fBls; simp only []; rw [e1]; show Wo QA X (match blsD l with | some d => _ | none => _); rw [e2]; exact h
theorem w_I2 {g : Int → Int → Int} {i j : Int} (h : QA (.val (.int (g i j))) s) : Wo QA X (fI2 g s [.val (.int i), .val (.int j)]) := h
theorem w_list {a : AI} {l : List D} (e : viewL s a = some l) (h : QA (.new (.lst l)) s) : Wo QA X (fList s [a]) := by unfold fList; simp only []; rw [e]; exact h
theorem w_intB {k : Bool} (h : QA (.val (.int (if k then 1 else 0))) s) : Wo QA X (fInt s [.val (.bl k)]) := h
theorem w_isi {a : AI} {n : String} {t : String} {d : D} {b : Bool} (e1 : look s a = some d) (e2 : kindD s.M d = some n) (e3 : kitB n t = some b) (h : QA (.val (.bl b)) s) : Wo QA X (fIsi s [a, .val (.ty t)]) := by
  unfold fIsi; simp only []; rw [e1]; show Wo QA X (match (kindD s.M d).bind fun n => kitB n t with | some b => _ | none => _); rw [e2]; show Wo QA X (match kitB n t with | some b => _ | none => _); rw [e3]; exact h
theorem w_bm {f : Stt → AI → List D → Ro AI} {mo : Mo AI} {ma : Mo (List D)} (h : Wo (fun a s1 => ∃ l, viewL s1 a = some l ∧ Wo (fun ds s2 => Wo QA X (f s2 a ds)) X (ma s1)) X (mo s)) : Wo QA X (mBM f mo ma s) := w_bind (w_mono h fun a s1 ⟨l, e, h⟩ => by
  show Wo QA X (match viewL s1 a with | some _ => _ | none => _); rw [e]; exact w_bind h)
theorem w_app {a : AI} {l : List D} {d : D} (e : getC s a = some (.lst l)) (c : l.length < sizeLine) (h : QA (.val .non) (setC s a (.lst (l ++ [d])))) : Wo QA X (fApp s a [d]) := by
  unfold fApp; rw [e]; simp only []; rw [if_pos c]; exact h
theorem w_rev {a : AI} {l : List D} (e : getC s a = some (.lst l)) (h : QA (.val .non) (setC s a (.lst l.reverse))) : Wo QA X (fRev s a []) := by
  unfold fRev; rw [e]; exact h
theorem w_callN {f : Mf} {ma : Mo (List D)} (h : Wo (fun ds s1 => Fo (fun a M' => QA a ⟨s1.env, M'⟩) (f ds s1.M)) X (ma s)) : Wo QA X (mCallN f ma s) := w_bind (w_mono h fun ds s1 h => by
  show Wo QA X (match f ds s1.M with | .ok a M' => _ | _ => _)
  cases q : f ds s1.M <;> rw [q] at h <;> exact h)
theorem fo_eq {P : AI → List Cn → Prop} {r : Fr} {a : AI} {M' : List Cn} (e : r = .ok a M') (h : P a M') : Fo P r := by subst e; exact h
theorem fo_ok {P : AI → List Cn → Prop} {r : Fr} {a : AI} {M' : List Cn} (h : Fo (fun a' M'' => a' = a ∧ M'' = M') r) : r = .ok a M' := by
  cases r with
  | ok a' M'' => obtain ⟨rfl, rfl⟩ := h; rfl
  | er _ _ => exact False.elim h
  | no => exact False.elim h
/-- how a def ends -/
def Oe (P : AI → List Cn → Prop) : Rs → Prop
  | .rt a s => P a s.M
  | _ => False
theorem f_fn {P : AI → List Cn → Prop} {np n : Nat} {b : Ms} {ds : List D} (hl : ds.length = np) (h : Ws (fun s => P (.val .non) s.M) (Oe P) (b ⟨ds.map (fun d => some (.fz d)) ++ List.replicate (n - ds.length) none, M⟩)) : Fo P (mFn np n b ds M) := by
  unfold mFn
  rw [if_pos hl]
  cases q : b ⟨ds.map (fun d => some (.fz d)) ++ List.replicate (n - ds.length) none, M⟩ <;> rw [q] at h <;> exact h
theorem w_aug {f : Int → Int → Int} {x : Int} (e : entAt s i = some (.fz (.int x))) (h : Wo (fun a s1 => ∃ y, a = .val (.int y) ∧ N ⟨s1.env.set i (some (.fz (.int (f x y)))), s1.M⟩) (fun x s => O (.er x s)) (m s)) : Ws N O (mAug i f m s) := by
  unfold mAug; rw [e]
  exact w_toS (w_mono h fun a s1 ⟨y, e, h⟩ => by subst e; exact h)
theorem w_asgT {g : Tg} (h : Wo (fun d s1 => So N (g d s1)) (fun x s => O (.er x s)) (mV m s)) : Ws N O (mAsgT g m s) := w_toS (w_mono h fun d s1 h => by
  show Ws N O (match g d s1 with | some s2 => .nx s2 | none => .no)
  cases q : g d s1 <;> rw [q] at h <;> exact h)
theorem w_asgS {mo mi mv : Mo AI} (h : Wo (fun d s1 => Wo (fun a s2 => Wo (fun i s3 => So N (setIt a i d s3)) (fun x s => O (.er x s)) (mV mi s2)) (fun x s => O (.er x s)) (mo s1)) (fun x s => O (.er x s)) (mV mv s)) : Ws N O (mAsgS mo mi mv s) :=
  w_toS (w_mono h fun d s1 h => w_toS (w_mono h fun a s2 h => w_toS (w_mono h fun i s3 h => by
    show Ws N O (match setIt a i d s3 with | some s4 => .nx s4 | none => .no)
    cases q : setIt a i d s3 <;> rw [q] at h <;> exact h)))
theorem so_set {P : Stt → Prop} {s' : Stt} {r : Option Stt} (e : r = some s') (h : P s') : So P r := by subst e; exact h
def Lo (P N : Stt → Prop) (O : Rs → Prop) : Rs → Prop
  | .ct s => P s
  | .bk s => N s
  | r => O r
theorem w_for {mi : Mo Im} {g : Tg} {b : Ms} (h : Wo (fun im s1 => Ws N O (forN g b im.ck im.xs s1)) (fun x s => O (.er x s)) (mi s)) : Ws N O (mFor mi g b s) := w_toS h
theorem w_forN {g : Tg} {b : Ms} {xs : List D} (P : Nat → Stt → Prop) (h0 : P 0 s) (hs : ∀ i x s, xs[i]? = some x → P i s → So (fun s1 => Ws (P (i + 1)) (Lo (P (i + 1)) N O) (b s1)) (g x s)) (hd : ∀ s, P xs.length s → N s) : Ws N O (forN g b none xs s) := by
  induction xs generalizing P s with
  | nil => rw [forN_nil]; exact hd s h0
  | cons x xs ih =>
    have h1 := hs 0 x s rfl h0
    cases hg : g x s with
    | none => rw [hg] at h1; exact False.elim h1
    | some s1 =>
      rw [hg] at h1
      have h1 : Ws (P 1) (Lo (P 1) N O) (b s1) := h1
      rw [forN_cons hg]
      cases hb : b s1 with
      | nx s2 => rw [hb] at h1; exact ih (fun i => P (i + 1)) h1 (fun i y s e => hs (i + 1) y s e) hd
      | ct s2 => rw [hb] at h1; exact ih (fun i => P (i + 1)) h1 (fun i y s e => hs (i + 1) y s e) hd
      | bk s2 => rw [hb] at h1; exact h1
      | rt a s2 => rw [hb] at h1; exact h1
      | er x s2 => rw [hb] at h1; exact h1
      | no => rw [hb] at h1; exact h1
theorem w_while {c : Mo Bool} {b : Ms} (P : Nat → Stt → Prop) (n : Nat) (h0 : P n s) (hs : ∀ n s, P n s → Wo (fun k s1 => if k = true then Ws (fun s2 => ∃ m, m < n ∧ P m s2) (Lo (fun s2 => ∃ m, m < n ∧ P m s2) N O) (b s1) else N s1) (fun x s => O (.er x s)) (c s)) (hO : ∀ r, O r → r ≠ .no) : Ws N O (mWh c b s) := by
  have key : ∀ n s, P n s → ∃ k r, whN c b k s = r ∧ r ≠ .no ∧ Ws N O r := by
    intro n
    induction n using Nat.strongRecOn with
    | ind n ih =>
      intro s h
      have h1 := hs n s h
      cases hc : c s with
      | no => rw [hc] at h1; exact False.elim h1
      | er x s1 => rw [hc] at h1; exact ⟨1, .er x s1, by unfold whN; rw [hc]; rfl, (fun z => nomatch z), h1⟩
      | ok k s1 =>
        rw [hc] at h1
        have h1 : if k = true then Ws (fun s2 => ∃ m, m < n ∧ P m s2) (Lo (fun s2 => ∃ m, m < n ∧ P m s2) N O) (b s1) else N s1 := h1
        cases k with
        | false =>
          rw [if_neg Bool.false_ne_true] at h1
          exact ⟨1, .nx s1, by unfold whN; rw [hc]; rfl, (fun z => nomatch z), h1⟩
        | true =>
          rw [if_pos rfl] at h1
          have go : ∀ s2, (∃ m, m < n ∧ P m s2) → (b s1 = .nx s2 ∨ b s1 = .ct s2) → ∃ k r, whN c b k s = r ∧ r ≠ .no ∧ Ws N O r := by
            rintro s2 ⟨m, hm, hp⟩ hb
            obtain ⟨k, r, e, nr, w⟩ := ih m hm s2 hp
            refine ⟨k + 1, r, ?_, nr, w⟩
            unfold whN; rw [hc]
            show (if true = true then (match b s1 with | .nx s2 => whN c b k s2 | .ct s2 => whN c b k s2 | .bk s2 => .nx s2 | .rt a s2 => .rt a s2 | .er x s2 => .er x s2 | .no => .no) else Rs.nx s1) = _
            rw [if_pos rfl]
            rcases hb with hb | hb <;> rw [hb] <;> exact e
          have fin : ∀ r0 r, b s1 = r0 → (match r0 with | .nx s2 => whN c b 0 s2 | .ct s2 => whN c b 0 s2 | .bk s2 => .nx s2 | .rt a s2 => .rt a s2 | .er x s2 => .er x s2 | .no => .no) = r → whN c b 1 s = r := by
            intro r0 r hb e
            unfold whN; rw [hc]
            show (if true = true then (match b s1 with | .nx s2 => whN c b 0 s2 | .ct s2 => whN c b 0 s2 | .bk s2 => .nx s2 | .rt a s2 => .rt a s2 | .er x s2 => .er x s2 | .no => .no) else Rs.nx s1) = _
            rw [if_pos rfl, hb]; exact e
          cases hb : b s1 with
          | nx s2 => rw [hb] at h1; exact go s2 h1 (.inl hb)
          | ct s2 => rw [hb] at h1; exact go s2 h1 (.inr hb)
          | bk s2 => rw [hb] at h1; exact ⟨1, .nx s2, fin _ _ hb rfl, (fun z => nomatch z), h1⟩
          | rt a s2 => rw [hb] at h1; exact ⟨1, .rt a s2, fin _ _ hb rfl, (fun z => nomatch z), h1⟩
          | er x s2 => rw [hb] at h1; exact ⟨1, .er x s2, fin _ _ hb rfl, (fun z => nomatch z), h1⟩
          | no => rw [hb] at h1; exact False.elim h1
  obtain ⟨k, r, e, nr, w⟩ := key n s h0
  rw [mWh_eq e nr]; exact w
theorem w_rng1 {r : Mo (List AI)} (h : Wo (fun as s1 => ∃ n : Int, as = [.val (.int n)] ∧ (-(2 ^ 62) ≤ n ∧ n < 2 ^ 62) ∧ QI ⟨rng 0 n.toNat, none⟩ s1) X (r s)) : Wo QI X (mRng1 r s) := w_bind (w_mono h fun as s1 ⟨n, e, c, h⟩ => by subst e; simp only []; rw [if_pos (show CRg1 n from c)]; exact h)
theorem w_rng1I {n : Int} {P : Int → Prop} (c : -(2 ^ 62) ≤ n ∧ n < 2 ^ 62) (h : P n) : ∃ m : Int, [AI.val (.int n)] = [.val (.int m)] ∧ (-(2 ^ 62) ≤ m ∧ m < 2 ^ 62) ∧ P m := ⟨n, rfl, c, h⟩
theorem w_rng2 {r : Mo (List AI)} (h : Wo (fun as s1 => ∃ i j : Int, as = [.val (.int i), .val (.int j)] ∧ (-(2 ^ 62) ≤ i ∧ i < 2 ^ 62 ∧ -(2 ^ 62) ≤ j ∧ j < 2 ^ 62) ∧ QI ⟨rng i (j - i).toNat, none⟩ s1) X (r s)) : Wo QI X (mRng2 r s) := w_bind (w_mono h fun as s1 ⟨i, j, e, c, h⟩ => by subst e; simp only []; rw [if_pos (show CRg2 i j from c)]; exact h)
theorem w_rng2I {i j : Int} {P : Int → Int → Prop} (c : -(2 ^ 62) ≤ i ∧ i < 2 ^ 62 ∧ -(2 ^ 62) ≤ j ∧ j < 2 ^ 62) (h : P i j) : ∃ i' j' : Int, [AI.val (.int i), .val (.int j)] = [.val (.int i'), .val (.int j')] ∧ (-(2 ^ 62) ≤ i' ∧ i' < 2 ^ 62 ∧ -(2 ^ 62) ≤ j' ∧ j' < 2 ^ 62) ∧ P i' j' := ⟨i, j, rfl, c, h⟩
theorem w_wl (h : Wo (fun d s1 => ∃ l, Y.listOf s1.M d = some l ∧ QI ⟨l, ckOf d l⟩ s1) X (mV m s)) : Wo QI X (mWL m s) := w_bind (w_mono h fun d s1 ⟨l, e, h⟩ => by show Wo QI X (match Y.listOf s1.M d with | some l => _ | none => _); rw [e]; exact h)
theorem w_wt (h : Wo (fun d s1 => ∃ l, tupOf d = some l ∧ QI ⟨l, none⟩ s1) X (mV m s)) : Wo QI X (mWT m s) := w_bind (w_mono h fun d s1 ⟨l, e, h⟩ => by show Wo QI X (match tupOf d with | some l => _ | none => _); rw [e]; exact h)
theorem w_we {r : Mo (List D)} (h : Wo (fun ds s1 => ∃ d l, ds = [d] ∧ Y.listOf s1.M d = some l ∧ QI ⟨enumL l, ckOf d l⟩ s1) X (r s)) : Wo QI X (mWE r s) := w_bind (w_mono h fun ds s1 ⟨d, l, e0, e, h⟩ => by subst e0; show Wo QI X (match Y.listOf s1.M d with | some l => _ | none => _); rw [e]; exact h)
theorem w_ws (h : Wo (fun a s1 => ∃ x, a = .val (.str x) ∧ QI ⟨strL x, none⟩ s1) X (m s)) : Wo QI X (mWS m s) := w_bind (w_mono h fun a s1 ⟨x, e, h⟩ => by subst e; exact h)
theorem w_lc {ws : List Nat} {mi : Mo Im} {g : Tg} {c : Mo Bool} {e : Mo AI} (h : Wo (fun im s1 => ∃ l s2, lcN ws g c (mV e) im.ck im.xs [] (wipeS ws s1) = .ok l s2 ∧ QA (.new (.lst l)) ⟨Y.rest s1.env s2.env ws, s2.M⟩) X (mi s)) : Wo QA X (mLc ws mi g c e s) := w_bind (w_mono h fun im s1 ⟨l, s2, e, h⟩ => by
  show Wo QA X (match lcN ws g c (mV _) im.ck im.xs [] (wipeS ws s1) with | .ok l s2 => _ | _ => _)
  rw [e]; exact h)
/-- every item is f of its part; the state comes back -/
theorem w_lcMap {ws : List Nat} {g : Tg} {e : Mo D} {xs : List D} {P : List D → Stt → Prop} (f : D → D) (hz : xs.length ≤ sizeLine) (h : ∀ x ∈ xs, So (fun s1 => Wo (fun d s2 => d = f x ∧ wipeS ws s2 = s) Xf (e s1)) (g x s)) (k : P (xs.map f) s) : ∃ l s2, lcN ws g mYes e none xs [] s = .ok l s2 ∧ P l s2 := by
  refine ⟨xs.map f, s, ?_, k⟩
  have := lc_map (ws := ws) (g := g) (e := e) (s := s) f hz (fun x hx => by
    have h1 := h x hx
    cases hg : g x s with
    | none => rw [hg] at h1; exact h1
    | some s1 =>
      rw [hg] at h1
      have h1 : Wo (fun d s2 => d = f x ∧ wipeS ws s2 = s) Xf (e s1) := h1
      show Ok _ (e s1)
      cases q : e s1 <;> rw [q] at h1 <;> exact h1) [] (by simpa using hz)
  simpa using this
theorem so_some {P : Stt → Prop} (h : P s) : So P (some s) := h
end
end Y
namespace Y
open PySem L2 Z
section
variable {QA : AI → Stt → Prop} {X : Exn → Stt → Prop} {s : Stt}
theorem shaped_str {x : Str} (h : PySem.PyData.strOk x = true) : SeqAt.shaped (.str x) = true := by
  unfold SeqAt.shaped
  rw [show PyData.canLay0 (.str x) = true from h]; rfl
theorem eqv_str (x y : Str) : PyData.eqv (.str x) (.str y) = decide (x = y) := by
  show (x == y) = _
  by_cases h : x = y
  · subst h; simp
  · simp [h]
theorem w_eqS {x y : Str} (c : PySem.PyData.strOk x = true) (c' : PySem.PyData.strOk y = true) (h : QA (.val (.bl (decide (x = y)))) s) : Wo QA X (fEq s (.val (.str x)) (.val (.str y))) :=
  w_eq (eqOf_of (x := .str x) (y := .str y) rfl rfl (shaped_str c) (shaped_str c') (eqv_str x y)) h
theorem w_neS {x y : Str} (c : PySem.PyData.strOk x = true) (c' : PySem.PyData.strOk y = true) (h : QA (.val (.bl (!decide (x = y)))) s) : Wo QA X (fNe s (.val (.str x)) (.val (.str y))) :=
  w_ne (eqOf_of (x := .str x) (y := .str y) rfl rfl (shaped_str c) (shaped_str c') (eqv_str x y)) h
end
end Y
namespace Y
open PySem L2 Z
mutual
def D.noId : D → Bool
  | .tup l => D.noIdL l
  | .ctp l => D.noIdL l
  | .lst l => D.noIdL l
  | .clst l => D.noIdL l
  | .dK l => D.noIdK l
  | .dT l => D.noIdT l
  | .cid _ => false
  | _ => true
def D.noIdL : List D → Bool
  | [] => true
  | d :: l => d.noId && D.noIdL l
def D.noIdK : List (Key × D) → Bool
  | [] => true
  | (_, d) :: l => d.noId && D.noIdK l
def D.noIdT : List (List Key × D) → Bool
  | [] => true
  | (_, d) :: l => d.noId && D.noIdT l
end
def D.scal : D → Bool
  | .non => true
  | .bl _ => true
  | .int _ => true
  | .str _ => true
  | _ => false
section
variable {K : PySem.W.Frag} {ct : Ct} {H0 : Hp} {W : WX} {S : Sh} {s : Stt} {σ : St} {H : Hp} {G : Hp} {α α' : Nat → Addr} {n : Nat}
theorem noIdK_vals : ∀ {l : List (Key × D)}, D.noIdK l = true → D.noIdL (l.map Prod.snd) = true
  | [], _ => rfl
  | (k, d) :: l, h => by
    have h : (d.noId && D.noIdK l) = true := h
    rw [Bool.and_eq_true] at h
    show (d.noId && D.noIdL (l.map Prod.snd)) = true
    rw [h.1, noIdK_vals h.2]; rfl
theorem noIdT_vals : ∀ {l : List (List Key × D)}, D.noIdT l = true → D.noIdL (l.map Prod.snd) = true
  | [], _ => rfl
  | (k, d) :: l, h => by
    have h : (d.noId && D.noIdT l) = true := h
    rw [Bool.and_eq_true] at h
    show (d.noId && D.noIdL (l.map Prod.snd)) = true
    rw [h.1, noIdT_vals h.2]; rfl
mutual
theorem Rp.noId : ∀ {v : V} {d : D}, Rp K G α n v d → d.noId = true → Rp K G α' 0 v d
  | _, _, .non, _ => .non
  | _, _, .bl b, _ => .bl b
  | _, _, .int i, _ => .int i
  | _, _, .str x, _ => .str x
  | _, _, .ty x, _ => .ty x
  | _, _, .tup h r, e => .tup h (RpL.noId r e)
  | _, _, .ctp h r, e => .ctp h (RpL.noId r e)
  | _, _, .lst h r, e => .lst h (RpL.noId r e)
  | _, _, .clst h r, e => .clst h (RpL.noId r e)
  | _, _, .dK h q r, e => .dK h q (RpL.noId r (noIdK_vals e))
  | _, _, .dT h q r, e => .dT h q (RpL.noId r (noIdT_vals e))
  | _, _, .cid h, e => by cases e
theorem RpL.noId : ∀ {vs : List V} {l : List D}, RpL K G α n vs l → D.noIdL l = true → RpL K G α' 0 vs l
  | _, _, .nil, _ => .nil
  | _, _, .cons (d := d) (l := l) h r, e => by
    have e : (d.noId && D.noIdL l) = true := e
    rw [Bool.and_eq_true] at e
    exact .cons (Rp.noId h e.1) (RpL.noId r e.2)
end
theorem Rp.scal {G' : Hp} {n' : Nat} {v : V} {d : D} (h : Rp K G α n v d) (e : d.scal = true) : Rp K G' α' n' v d := by
  cases h <;> first | exact .non | exact .bl _ | exact .int _ | exact .str _ | cases e
theorem Rel.grow {H' : Hp} (r : Rel K ct H0 S s σ H) (k : ∀ a o, H a = some o → H' a = some o) : Rel K ct H0 S s σ H' := by
  have cn : ∀ {a : Addr} {c : Cn}, CnOk K ct S s.M.length H a c → CnOk K ct S s.M.length H' a c := fun {a c} h => h.mono (fun _ _ e => e) (fun _ _ => rfl) (Nat.le_refl _) (fun o e => k a o e)
  refine ⟨fun a o e => U_grow (fun o' e' => k a o' e') (r.sub a o e), fun a l e => ?_, fun a e => ?_, r.len, fun i e h => ?_, fun j c h => ?_⟩
  · obtain ⟨h1, o, h2⟩ := r.lg a l e
    exact ⟨h1, o, k a o h2⟩
  · cases q : H a with
    | none => exact r.dom a q
    | some o => have := k a o q; rw [e] at this; cases this
  · have q := r.slot i e h
    cases e with
    | fz d => exact q
    | xn x => exact xn_mono (S := S) (n := s.M.length) (H := H) (fun _ _ e => e) (fun _ _ => rfl) (Nat.le_refl _) rfl q
    | ow c =>
      obtain ⟨a, h1, h2, h3, h4, h5⟩ := q
      exact ⟨a, h1, h2, h3, h4, cn h5⟩
  · obtain ⟨h1, h2⟩ := r.ids j c h
    exact ⟨h1, cn h2⟩
def snap (s : Stt) : List AI → Option (List D)
  | [] => some []
  | a :: as => (look s a).bind fun d => (snap s as).map (d :: ·)
theorem snap_ok {Hs : Hp} (rel : Rel K ct H0 S s σ H) : ∀ {vs : List V} {as : List AI} {ds : List D}, AsOk K ct Hs S s σ H vs as → snap s as = some ds → RpL K (U ct.lk H) S.α s.M.length vs ds
  | _, _, _, .nil, e => by cases e; exact .nil
  | _, _, _, .cons (a := a) (as := as) i r, e => by
    obtain ⟨d, e1, e2⟩ := Option.bind_eq_some_iff.mp (show ((look s a).bind fun d => (snap s as).map (d :: ·)) = some _ from e)
    obtain ⟨ds, e3, rfl⟩ := Option.map_eq_some_iff.mp e2
    exact .cons (look_ok rel i e1) (snap_ok rel r e3)
def mCallB (f : Mf) (m : Mo (List AI)) : Mo AI := fun s => (m s).bind fun as s1 => match snap s1 as with
  | some ds => if D.noIdL ds = true then (match f ds [] with
    | .ok (.val d) _ => if d.scal = true then .ok (.val d) s1 else .no
    | _ => .no) else .no
  | none => .no
theorem ei_callB {f : Mf} {E : XK} {t : TA} {m : Mo (List AI)} (h : EaL K ct H0 W t m) : Ei K ct H0 W (tCallZ (spM K ct f) E t) (mCallB f m) := fun S s σ H Q rel p =>
  h S s σ H _ rel (Pst.bind bI p fun S1 s1 H1 vs as st1 rel1 i1 p1 => by
    split at p1
    · rename_i ds e
      split at p1
      · rename_i hn
        refine ⟨⟨U ct.lk H1, S1.α, fun _ => none⟩, [], ds, ⟨fun _ _ e => e, (fun a l e => nomatch e), fun _ e => e, rfl, (fun i e q => by simp at q), (fun k c q => by simp at q)⟩, (snap_ok rel1 i1 e).noId hn, ?_⟩
        split at p1
        · rename_i d M' ef
          rw [ef]
          split at p1
          · rename_i hs
            intro S' v H' st rel' it
            have k : ∀ a o, H1 a = some o → H' a = some o := fun a o e => (st.fr a o e rfl).1
            exact p1 S1 v H' ⟨fun _ _ e => e, Nat.le_refl _, fun _ _ => rfl, fun a o e l => ⟨k a o e, l⟩, fun _ _ e => .inl e, st.dom⟩ (rel1.grow k) (Rp.scal it hs)
          · exact False.elim p1
        · exact False.elim p1
      · exact False.elim p1
    · exact False.elim p1)
variable {QA : AI → Stt → Prop} {X : Exn → Stt → Prop}
theorem w_callB {f : Mf} {m : Mo (List AI)} (h : Wo (fun as s1 => ∃ ds d M', snap s1 as = some ds ∧ D.noIdL ds = true ∧ f ds [] = .ok (.val d) M' ∧ d.scal = true ∧ QA (.val d) s1) X (m s)) : Wo QA X (mCallB f m s) := w_bind (w_mono h fun as s1 ⟨ds, d, M', e1, e2, e3, e4, h⟩ => by
  show Wo QA X (match snap s1 as with | some ds => _ | none => _)
  rw [e1]; show Wo QA X (if _ then _ else _); rw [if_pos e2, e3]; show Wo QA X (if _ then _ else _); rw [if_pos e4]; exact h)
theorem noIdL_ints (ns : List Int) : D.noIdL (ns.map D.int) = true := by
  induction ns with
  | nil => rfl
  | cons n ns ih => show (true && D.noIdL (ns.map D.int)) = true; rw [ih]; rfl
theorem pyL_map {β : Type} {f : β → D} {g : β → PyData} (h : ∀ b, (f b).py = some (g b)) (l : List β) : D.pyL (l.map f) = some (l.map g) := by
  induction l with
  | nil => rfl
  | cons n ns ih => show ((f n).py).bind (fun x => (D.pyL (ns.map f)).map (x :: ·)) = _; rw [ih, h n]; rfl
theorem canLay_map {β : Type} {g : β → PyData} (h : ∀ b, (g b).canLay0 = true) (l : List β) : PyData.canLayAll0 (l.map g) = true := by
  induction l with
  | nil => rfl
  | cons n ns ih => show ((g n).canLay0 && PyData.canLayAll0 (ns.map g)) = true; rw [ih, h n]; rfl
theorem depth_map {β : Type} {g : β → PyData} {k : Nat} (h : ∀ b, (g b).depth ≤ k) (l : List β) : PyData.depthAll (l.map g) ≤ k := by
  induction l with
  | nil => exact Nat.zero_le _
  | cons n ns ih => show max (g n).depth (PyData.depthAll (ns.map g)) ≤ k; have := h n; omega
theorem shaped_map {β : Type} {g : β → PyData} (h : ∀ b, (g b).canLay0 = true) (h2 : ∀ b, (g b).depth ≤ 40) (l : List β) : SeqAt.shaped (.list (l.map g)) = true := by
  unfold SeqAt.shaped
  rw [show PyData.canLay0 (.list (l.map g)) = true from canLay_map h l]
  have : PyData.depth (.list (l.map g)) ≤ 64 := by show PyData.depthAll (l.map g) + 1 ≤ 64; have := depth_map h2 l; omega
  rw [decide_eq_true this]; rfl
end
end Y
namespace Y
theorem fo_use {P P' : AI → List Cn → Prop} {r : Fr} (h : Fo P r) (k : ∀ a M', P a M' → P' a M') : Fo P' r := by
  cases r with
  | ok a M => exact k a M h
  | er _ _ => exact h
  | no => exact h
end Y
namespace Y
theorem w_neg {QA : AI → Stt → Prop} {X : Exn → Stt → Prop} {s : Stt} {i : Int} (h : QA (.val (.int (-i))) s) : Wo QA X (fNeg s (.val (.int i))) := h
end Y
namespace Y
section
variable {P : Bool → Prop} {s : Stt}
theorem w_truB {b : Bool} (h : P b) : ∃ d b', look s (.val (.bl b)) = some d ∧ truD s.M d = some b' ∧ P b' := ⟨_, _, rfl, rfl, h⟩
theorem w_truI {i : Int} (h : P (!decide (i = 0))) : ∃ d b', look s (.val (.int i)) = some d ∧ truD s.M d = some b' ∧ P b' := ⟨_, _, rfl, rfl, h⟩
end
end Y
namespace Y
open PySem L2 Z
section
variable {K : PySem.W.Frag} {ct : Ct} {H0 : Hp} {W : WX} {S : Sh} {s : Stt} {σ : St} {H : Hp}
theorem rpl_at' {G : Hp} {α : Nat → Addr} {n : Nat} : ∀ {vs : List V} {l : List D} {j : Nat} {d : D}, RpL K G α n vs l → l[j]? = some d → ∃ v, vs[j]? = some v ∧ Rp K G α n v d
  | _, _, 0, v, .cons h r, e => by cases e; exact ⟨_, rfl, h⟩
  | _, _, j + 1, v, .cons h r, e => by
    obtain ⟨d, e1, e2⟩ := rpl_at' (j := j) r (by simpa using e)
    exact ⟨d, by simpa using e1, e2⟩
def CLR1 (n : Int) : Prop := 0 ≤ n ∧ n ≤ sizeLine
open Classical in
noncomputable def mLR1 (m : Mo AI) : Mo AI := fun s => (m s).bind fun a s1 => match a with
  | .val (.int n) => if CLR1 n then .ok (.new (.lst (rng 0 n.toNat))) s1 else .no
  | _ => .no
def mCallC (f : Mf) (m : Mo (List AI)) : Mo AI := fun s => (m s).bind fun as s1 => match snap s1 as with
  | some ds => if D.noIdL ds = true then (match f ds [] with
    | .ok (.new (.lst l)) _ => if l.all D.scal = true then .ok (.new (.lst l)) s1 else .no
    | _ => .no) else .no
  | none => .no
theorem RpL.scal {G G' : Hp} {α α' : Nat → Addr} {n n' : Nat} : ∀ {vs : List V} {l : List D}, RpL K G α n vs l → l.all D.scal = true → RpL K G' α' n' vs l
  | _, _, .nil, _ => .nil
  | _, _, .cons (d := d) (l := l) h r, e => by
    rw [List.all_cons, Bool.and_eq_true] at e
    exact .cons (Rp.scal h e.1) (RpL.scal r e.2)
variable {X : Exn → Stt → Prop} {QA : AI → Stt → Prop}
theorem w_callC {f : Mf} {m : Mo (List AI)} (h : Wo (fun as s1 => ∃ ds l M', snap s1 as = some ds ∧ D.noIdL ds = true ∧ f ds [] = .ok (.new (.lst l)) M' ∧ l.all D.scal = true ∧ QA (.new (.lst l)) s1) X (m s)) : Wo QA X (mCallC f m s) := w_bind (w_mono h fun as s1 ⟨ds, d, M', e1, e2, e3, e4, h⟩ => by
  show Wo QA X (match snap s1 as with | some ds => _ | none => _)
  rw [e1]; show Wo QA X (if _ then _ else _); rw [if_pos e2, e3]; show Wo QA X (if _ then _ else _); rw [if_pos e4]; exact h)
theorem w_lr1 {m : Mo AI} (h : Wo (fun a s1 => ∃ n : Int, a = .val (.int n) ∧ 0 ≤ n ∧ n ≤ sizeLine ∧ QA (.new (.lst (rng 0 n.toNat))) s1) X (m s)) : Wo QA X (mLR1 m s) := w_bind (w_mono h fun a s1 ⟨n, e, c1, c2, h⟩ => by
  subst e; simp only []; rw [if_pos (show CLR1 n from ⟨c1, c2⟩)]; exact h)
theorem w_lr1I {n : Int} {s : Stt} (c1 : 0 ≤ n) (c2 : n ≤ sizeLine) (h : QA (.new (.lst (rng 0 n.toNat))) s) : ∃ m : Int, (AI.val (.int n)) = .val (.int m) ∧ 0 ≤ m ∧ m ≤ sizeLine ∧ QA (.new (.lst (rng 0 m.toNat))) s := ⟨n, rfl, c1, c2, h⟩
end
end Y
namespace Y
open PySem L2 Z
section
variable {K : PySem.W.Frag} {ct : Ct} {H0 : Hp} {W : WX} {S : Sh} {s : Stt} {σ : St} {H : Hp}
def Sh.tr (S : Sh) (n : Nat) (p : Addr) : Sh := ⟨S.G, fun k => if k = n then p else S.α k, fun a => if a = p then some (.id n) else S.lab a⟩
theorem Rel.track {p : Addr} {c : Cn} (r : Rel K ct H0 S s σ H) (hl : S.lab p = none) (hg : S.G p = none) (h : CnOk K ct S s.M.length H p c) : Rel K ct H0 (S.tr s.M.length p) ⟨s.env, s.M ++ [c]⟩ σ H := by
  have hlen : (s.M ++ [c]).length = s.M.length + 1 := by simp
  have al : ∀ k, k < s.M.length → (S.tr s.M.length p).α k = S.α k := fun k hk => if_neg (by omega)
  have lb : ∀ {a : Addr} {l : Lab}, S.lab a = some l → (S.tr s.M.length p).lab a = some l := fun {a l} hh => by
    show (if a = p then _ else S.lab a) = _
    rw [if_neg (fun z => by subst z; rw [hl] at hh; cases hh)]; exact hh
  have cn : ∀ {a : Addr} {c' : Cn}, CnOk K ct S s.M.length H a c' → CnOk K ct (S.tr s.M.length p) (s.M ++ [c]).length H a c' := fun {a c'} h => CnOk.mono (S := S) (n := s.M.length) (fun _ _ e => e) al (by rw [hlen]; omega) (fun _ e => e) h
  refine ⟨r.sub, fun a l q => ?_, r.dom, r.len, fun j en q => ?_, fun k c' q => ?_⟩
  · have q1 : (if a = p then some (Lab.id s.M.length) else S.lab a) = some l := q
    by_cases z : a = p
    · subst z; exact ⟨hg, h.some⟩
    · rw [if_neg z] at q1; exact r.lg a l q1
  · have hh := r.slot j en q
    cases en with
    | fz d => obtain ⟨v, k1, k2⟩ := hh; exact ⟨v, k1, k2.mono (fun _ _ e => e) al (by show _ ≤ (s.M ++ [c]).length; rw [hlen]; omega)⟩
    | xn x => exact xn_mono (S := S) (n := s.M.length) (H := H) (fun _ _ e => e) al (by show _ ≤ (s.M ++ [c]).length; rw [hlen]; omega) rfl hh
    | ow c2 =>
      obtain ⟨a, k1, k2, k3, k4, k5⟩ := hh
      exact ⟨a, k1, k2, lb k3, k4, cn k5⟩
  · have q1 : (s.M ++ [c])[k]? = some c' := q
    by_cases z : k < s.M.length
    · rw [List.getElem?_append_left z] at q1
      obtain ⟨k1, k2⟩ := r.ids k c' q1
      rw [al k z]
      exact ⟨lb k1, cn k2⟩
    · have hk : k = s.M.length := by
        have := (List.getElem?_eq_some_iff.mp q1).1
        rw [hlen] at this; omega
      subst hk
      rw [List.getElem?_append_right (Nat.le_refl _), Nat.sub_self] at q1
      cases q1
      have e : (S.tr s.M.length p).α s.M.length = p := if_pos rfl
      rw [e]
      exact ⟨if_pos rfl, cn h⟩
theorem Stp.track {S' : Sh} {n n' : Nat} {H' : Hp} {p : Addr} (t : Stp S n H S' n' H') (hp : H p = none) : Stp S n H (S'.tr n' p) (n' + 1) H' where
  g := t.g
  le := Nat.le_succ_of_le t.le
  al := fun k hk => by
    show (if k = n' then p else S'.α k) = _
    rw [if_neg (by have := t.le; omega)]; exact t.al k hk
  fr := fun a o h l => by
    obtain ⟨h1, h2⟩ := t.fr a o h l
    refine ⟨h1, ?_⟩
    show (if a = p then _ else S'.lab a) = none
    rw [if_neg (ne_of_none h hp)]; exact h2
  gn := t.gn
  dom := t.dom
theorem tr_cid {n : Nat} {p : Addr} : Rp K (S.tr n p).G (S.tr n p).α (n + 1) (.ref p) (.cid n) := by
  have h : Rp K (S.tr n p).G (S.tr n p).α (n + 1) (.ref ((S.tr n p).α n)) (.cid n) := .cid (Nat.lt_succ_self n)
  have e : (S.tr n p).α n = p := if_pos rfl
  rw [e] at h; exact h
/-- x = e, and the new thing is tracked -/
def mAsgK (i : Nat) (m : Mo AI) : Ms := fun s => (m s).toS fun a s1 => match a with
  | .new c => .nx ⟨s1.env.set i (some (.fz (.cid s1.M.length))), s1.M ++ [c]⟩
  | _ => .no
theorem sv_asgK {i : Nat} {te : TE} {m : Mo AI} (h : Ei K ct H0 W te m) : Sv K ct H0 W (tAsg te (gName i)) (mAsgK i m) := fun S s σ H Dn rel p =>
  h S s σ H _ rel (PstS.bind p fun S1 s1 H1 x a st1 rel1 i1 p1 => by
    show Dn.nx (σ.set i (some x)) H1
    split at p1
    · rename_i c
      obtain ⟨q, rfl, h1, h2, h3, h4, h5⟩ := i1
      have rt := rel1.track h2 h3 h5
      have hlen : (s1.M ++ [c]).length = s1.M.length + 1 := by simp
      refine p1 ((S1.tr s1.M.length q).un i) _ H1 ?_ (rt.setFz (by show Rp _ _ _ (s1.M ++ [c]).length _ _; rw [hlen]; exact tr_cid))
      show Stp S s.M.length H _ (s1.M ++ [c]).length H1
      rw [hlen]
      exact (st1.track h1).trans .un
    · exact False.elim p1)
def strsD : List D → Option (List Str)
  | [] => some []
  | .str i :: l => (strsD l).map (i :: ·)
  | _ :: _ => none
def mJoin (mo ma : Mo AI) : Mo AI := fun s => (mo s).bind fun a s1 => match a with
  | .val (.str x) => (ma s1).bind fun b s2 => match (viewL s2 b).bind strsD with
    | some ys => if (ys.map (·.length)).sum + ys.length * x.length ≤ 16777216 then .ok (.val (.str (Txt.join x ys))) s2 else .no
    | none => .no
  | _ => .no
def fMulS : Stt → AI → AI → Ro AI := fun s a b => match a, b with
  | .val (.str x), .val (.int n) => if x.length ≤ 16 ∧ 0 ≤ n ∧ n ≤ 1048576 then .ok (.val (.str (Txt.mul x n))) s else .no
  | _, _ => .no
variable {X : Exn → Stt → Prop} {QA : AI → Stt → Prop} {N : Stt → Prop} {O : Rs → Prop}
theorem w_asgK {i : Nat} {m : Mo AI} (h : Wo (fun a s1 => ∃ c, a = .new c ∧ N ⟨s1.env.set i (some (.fz (.cid s1.M.length))), s1.M ++ [c]⟩) (fun x s => O (.er x s)) (m s)) : Ws N O (mAsgK i m s) := w_toS (w_mono h fun a s1 ⟨c, e, h⟩ => by subst e; exact h)
theorem w_sjoin {mo ma : Mo AI} (h : Wo (fun a s1 => ∃ x, a = .val (.str x) ∧ Wo (fun b s2 => ∃ ys, (viewL s2 b).bind strsD = some ys ∧ (ys.map (·.length)).sum + ys.length * x.length ≤ 16777216 ∧ QA (.val (.str (Txt.join x ys))) s2) X (ma s1)) X (mo s)) : Wo QA X (mJoin mo ma s) := w_bind (w_mono h fun a s1 ⟨x, e, h⟩ => by
  subst e; exact w_bind (w_mono h fun b s2 ⟨ys, e1, c, h⟩ => by
    show Wo QA X (match (viewL s2 b).bind strsD with | some ys => _ | none => _)
    rw [e1]; show Wo QA X (if _ then _ else _); rw [if_pos c]; exact h))
theorem w_mulS {x : Str} {n : Int} (c : x.length ≤ 16 ∧ 0 ≤ n ∧ n ≤ 1048576) (h : QA (.val (.str (Txt.mul x n))) s) : Wo QA X (fMulS s (.val (.str x)) (.val (.int n))) := by
  unfold fMulS; simp only []; rw [if_pos c]; exact h
end
end Y
namespace Y
open PySem L2 Z
def tx (l : List Nat) : Str := ⟨l.toArray⟩
end Y
namespace Y
open PySem L2 Z
open PySem.W (AllAlike Sortable dataLe EachIs)
def pyD (d : D) : PyData := d.py.getD .none
def rSortY (K : PySem.W.Frag) : List V → Hp → VK → Prop := fun xs H Q => ∃ (q : Addr) (ts : List (V × D)), xs = [.ref q] ∧ SqL K H q (ts.map Prod.fst) ∧ (∀ t ∈ ts, Dp K H t.1 (pyD t.2)) ∧ AllAlike (ts.map fun t => pyD t.2) ∧ Sortable (ts.map fun t => pyD t.2) ∧ (∀ t ∈ ts, (pyD t.2).depth ≤ 40) ∧
  ∀ p, H p = none → Q (.ref p) (upd H p (.lst ((ts.mergeSort (dataLe false fun t => pyD t.2)).map Prod.fst)))
section
variable {X : Cx}
theorem each_vals : ∀ {ts : List (V × D)} {us : List Value}, Vals (ts.map Prod.fst) us → EachIs (fun u (t : V × D) => RelV t.1 u) us ts
  | [], _, .nil => .nil
  | _ :: _, _, .cons h r => .cons h (each_vals r)
theorem vals_each : ∀ {ts : List (V × D)} {us : List Value}, EachIs (fun u (t : V × D) => RelV t.1 u) us ts → Vals (ts.map Prod.fst) us
  | [], _, .nil => .nil
  | _ :: _, _, .cons h r => .cons h (vals_each r)
theorem each_reads {pins : List (Addr × Obj)} {σ : St} {H : Hp} {s : Shared} (I : Inv X pins σ H s) : ∀ {ts : List (V × D)} {us : List Value}, Vals (ts.map Prod.fst) us → (∀ t ∈ ts, Dp X.K H t.1 (pyD t.2)) → EachIs (fun u (t : V × D) => ∃ as, PySem.Reads s.heap u (pyD t.2) as) us ts
  | [], _, .nil, _ => .nil
  | t :: ts, _, .cons h r, hd => .cons (Dp.reads I (pyD t.2) t.1 _ (hd t (List.mem_cons_self ..)) h) (each_reads I r fun t' h' => hd t' (List.mem_cons_of_mem _ h'))
theorem cr_sortY' (hu : X.A.units + 70 < cLine) : CallR X (.builtin "sorted") (rSortY X.K) := by
  intro pins s σ H vs us Q I r h
  obtain ⟨a, ts, rfl, hs, hd, hal, hk, hdp, q⟩ := h
  obtain ⟨its, rv, hl, hz⟩ := I.list hs
  rw [Vals.ref1 r]
  rw [List.length_map] at hz
  refine PySem.W.sorted_data (enc := fun t : V × D => pyD t.2) hl.isList (each_vals rv) (each_reads I rv hd) hal hk hz (fun b hb => by have := hdp b hb; omega) fun out ho eo => ?_
  obtain ⟨ep, he'⟩ := PyProof.Rows.sortedAll_at s.heap its out.toArray
  have rv' := vals_each eo
  refine ⟨.ref _, upd H (s.heap.objs.size + 1) (.lst ((ts.mergeSort (dataLe false fun t => pyD t.2)).map Prod.fst)), I.laid (t' := s.toks) (fun _ _ => PyProof.Rows.sortedAll_old) (Nat.le_succ _) ⟨by rw [List.length_map, List.length_mergeSort]; exact hz, out, ep, rv', he'⟩, rfl, q _ (I.hok.fresh (Nat.le_succ _))⟩
theorem cr_sortY {K : PySem.W.Frag} (hK : X.K = K) (hu : X.A.units + 70 < cLine) : CallR X (.builtin "sorted") (rSortY K) := by subst hK; exact cr_sortY' hu
end
section
variable {K : PySem.W.Frag} {ct : Ct} {H0 : Hp} {W : WX}
def SortOk (l : List D) : Prop := (∀ d ∈ l, d.py.isSome = true) ∧ AllAlike (l.map pyD) ∧ Sortable (l.map pyD) ∧ (∀ d ∈ l, (pyD d).depth ≤ 40)
open Classical in
noncomputable def fSort (s : Stt) (as : List AI) : Ro AI := match as with
  | [a] => match viewL s a with
    | some l => if SortOk l then .ok (.new (.lst (l.mergeSort (dataLe false pyD)))) s else .no
    | none => .no
  | _ => .no
theorem RpL.zips {G : Hp} {α : Nat → Addr} {n : Nat} : ∀ {vs : List V} {l : List D}, RpL K G α n vs l → ∃ ts : List (V × D), ts.map Prod.fst = vs ∧ ts.map Prod.snd = l ∧ ∀ t ∈ ts, Rp K G α n t.1 t.2
  | _, _, .nil => ⟨[], rfl, rfl, fun t h => by simp at h⟩
  | _, _, .cons (v := v) (d := d) h r => by
    obtain ⟨ts, e1, e2, e3⟩ := RpL.zips r
    refine ⟨(v, d) :: ts, by rw [List.map_cons, e1], by rw [List.map_cons, e2], fun t ht => ?_⟩
    rcases List.mem_cons.mp ht with rfl | ht
    · exact h
    · exact e3 t ht
theorem RpL.unzip {G : Hp} {α : Nat → Addr} {n : Nat} : ∀ {ts : List (V × D)}, (∀ t ∈ ts, Rp K G α n t.1 t.2) → RpL K G α n (ts.map Prod.fst) (ts.map Prod.snd)
  | [], _ => .nil
  | t :: ts, h => .cons (h t (List.mem_cons_self ..)) (RpL.unzip fun t' h' => h t' (List.mem_cons_of_mem _ h'))
theorem jb_sort : JB K ct H0 (rSortY K) fSort := fun W S s σ H Hs vs as Q rel ia p => by
  unfold fSort at p
  split at p
  · rename_i a
    obtain ⟨v, rfl, i⟩ := as1 ia
    split at p
    · rename_i l e
      split at p
      · rename_i hok
        obtain ⟨h1, h2, h3, h4⟩ := hok
        obtain ⟨q, us, rfl, k1, k2⟩ := viewL_ok rel i e
        obtain ⟨ts, e1, e2, e3⟩ := RpL.zips k2
        have em : ts.map (fun t => pyD t.2) = l.map pyD := by rw [← e2, List.map_map]; rfl
        have hm : ∀ t ∈ ts, t.2 ∈ l := fun t ht => by rw [← e2]; exact List.mem_map_of_mem ht
        refine ⟨q, ts, rfl, by rw [e1]; exact k1, fun t ht => ?_, by rw [em]; exact h2, by rw [em]; exact h3, fun t ht => h4 _ (hm t ht), fun r hr => ?_⟩
        · obtain ⟨x, hx⟩ := Option.isSome_iff_exists.mp (h1 _ (hm t ht))
          have := uDp (rp_dp ((e3 t ht).mono rel.sub (fun _ _ => rfl) (Nat.le_refl _)) hx)
          unfold pyD; rw [hx]
          exact this
        · refine p.newL rel hr ?_
          have es : l.mergeSort (dataLe false pyD) = (ts.mergeSort (dataLe false fun t => pyD t.2)).map Prod.snd := by
            rw [← e2]
            refine (List.map_mergeSort (fun a _ b _ => ?_)).symm
            rfl
          rw [es]
          exact RpL.unzip fun t ht => e3 t (List.mem_mergeSort.mp ht)
      · exact False.elim p
    · exact False.elim p
  · exact False.elim p
variable {s : Stt} {X : Exn → Stt → Prop} {QA : AI → Stt → Prop}
theorem w_sort {a : AI} {l : List D} (e : viewL s a = some l) (c : SortOk l) (h : QA (.new (.lst (l.mergeSort (dataLe false pyD)))) s) : Wo QA X (fSort s [a]) := by
  unfold fSort; simp only []; rw [e]; simp only []; rw [if_pos c]; exact h
end
end Y
namespace L2
open PySem PySem.Spec PyProof.Rows
section
variable {X : Cx} {o e : Expr} {es : List Expr} {to te : TE} {ta : TA} {f : Str} {p p' p1 p2 pos : Pos}
/-- B.__init__(self, ..) of an own class B that has ValueError's -/
theorem pe_clsinit {x : Str} {CS : Addr} {mc : Value} {pl : Sem Bool} (hg : Gl X x) (hm : X.mg x = some (.ref CS)) (r : ClX.CRead X.K CS mc) (hv : PySem.W.findCls X.K (.ref CS) mc "__init__" = some (.val (.builtin "ValueError.__init__"))) (ha : PA X (e :: es) ta)
    (hdb : (x == ("__debug__" : Str)) = false := by decide)
    (hc : eval (.Call (.Attribute (.Name x p1) "__init__" p2) (e :: es) [] pos) X.env = (do
      let ov ← eval (.Name x p1) X.env
      standAt p2.atName
      let (f, first) ← holding [ov] (getMethod ov "__init__" pl)
      callWith pos f first (backTo pos (starEach (e :: es) X.env)) (backToKw pos (keywordEach [] X.env))) := by rfl)
    (he : starEach (e :: es) X.env = (false, eval e X.env) :: starEach es X.env := by rfl) (hpl : (backTo pos (starEach es X.env)).any (·.1) = false := by rfl) :
    PE X (.Call (.Attribute (.Name x p1) "__init__" p2) (e :: es) [] pos) (tVeI X.K ta) := by
  refine ⟨fun pins s σ H Q I h => ?_⟩
  refine PySem.W.methodCall_KW (ld_glob I hg hm ?_ hdb) hc
  refine PySem.W.method_cls I.kIn r.ga (PySem.W.cls_value I.kIn r.rd hv rfl ?_)
  show wpAny _ _ (callWith pos (Value.builtin "ValueError.__init__") [] (backTo pos (starEach (e :: es) X.env)) []) _ _ _
  refine PyProof.Rows.callWith_method1 (thn (ha.run pos pins _ σ H _ (I.tok _) h) fun us s1 ⟨vs, H1, I1, r1, a, C, ws, ev, hl, T, ea, q⟩ => ?_) he hpl
  subst ev
  cases r1 with
  | @cons _ u0 _ ur ra rw' =>
    obtain rfl : u0 = Value.ref a := ra
    have hlen : ur.length ≤ sizeLine := by
      rw [← Paired.length rw', sizeLine_eq]
      omega
    exact oinit_ok T I1 ea hlen fun s' J => ⟨.non, H1, J, rfl, q⟩
end
end L2
namespace Y
open PySem L2 Z
section
variable {K : PySem.W.Frag} {ct ct2 : Ct} {H0 : Hp} {W : WX} {S : Sh} {s : Stt} {σ : St} {H : Hp}
def unX : Option Ent → Option Ent
  | some (.xn _) => none
  | e => e
def dropX (i : Nat) (s : Stt) : Stt := ⟨(s.env.map unX).set i none, s.M⟩
def enterX (i : Nat) (x : Exn) (s : Stt) : Stt := ⟨(s.env.map unX).set i (some (.xn x)), s.M⟩
def leaveX (i : Nat) : Rs → Rs
  | .nx s => .nx (dropX i s)
  | .bk s => .bk (dropX i s)
  | .ct s => .ct (dropX i s)
  | .rt a s => .rt a (dropX i s)
  | _ => .no
def mTryA (cat : Nat → Option Bool) (i : Nat) (mb ms : Ms) : Ms := fun s => match mb s with
  | .er x s1 => match cat x.cls with
    | some true => leaveX i (ms (enterX i x s1))
    | some false => .er x s1
    | none => .no
  | r => r
def noEr : Rs → Rs
  | .er _ _ => .no
  | r => r
def clauses : List ((Nat → Option Bool) × Ms) → Exn → Ms
  | [], x => fun s => .er x s
  | (cat, ms) :: l, x => fun s => match cat x.cls with
    | some true => noEr (ms s)
    | some false => clauses l x s
    | none => .no
def mTryM (l : List ((Nat → Option Bool) × Ms)) (mb : Ms) : Ms := fun s => match mb s with
  | .er x s1 => clauses l x s1
  | r => r
def xnAt (s : Stt) (i : Nat) : Option Exn := match (s.env[i]?).getD none with
  | some (.xn x) => some x
  | _ => none
def mXf (i c : Nat) (f : Str) : Mo AI := fun s => match xnAt s i with
  | some x => if x.cls = c then (match x.fs.lookup f with | some d => .ok (.val d) s | none => .no) else .no
  | none => .no
def mIsX (i : Nat) (tbl : Nat → Option Bool) : Mo AI := fun s => match xnAt s i with
  | some x => match tbl x.cls with
    | some b => .ok (.val (.bl b)) s
    | none => .no
  | none => .no
def mRaise (c : Nat) : Ms := fun s => .er ⟨c, []⟩ s
theorem sv_raise {c : Nat} : Sv K ct H0 W (tRaiseZ (ct c) W) (mRaise c) := fun S s σ H Dn rel p => p S σ H none .refl rel (.inl ⟨rfl, rfl⟩)
/-- __init__(self, words, f): B.__init__(self, words); self.f = f -/
def spA (K : PySem.W.Frag) (C : Addr) (f : Str) : Sp := fun vs H Q E => ∃ (a : Addr) (w x : V), vs = [.ref a, w, x] ∧ OexC K C ∧ PySem.W.findIn K (.ref C) f = some none ∧ H a = some (exo a C none) ∧ ∀ dx, H dx = none → dx ≠ a → Q .non (upd (upd H dx (exd dx [(f, x)])) a (exo a C (some dx)))
theorem spA_len {C : Addr} {f : Str} {vs : List V} {Q : VK} {E : XK} (h : spA K C f vs H Q E) : vs.length = 3 := by
  obtain ⟨a, w, x, rfl, _⟩ := h; rfl
theorem initA {C : Addr} {f n1 n2 n3 : Str} {vs : List V} {Q : VK} {E : XK} (h : spA K C f vs H Q E) :
    tSeq (tDrop (tVeI K (tCons (tVar 0) (tCons (tVar 1) tNil)))) (tOst K f (tVar 0) (tVar 2)) { nx := fun _ H' => Q .non H', rt := Q } (start [n1, n2, n3] vs) H := by
  obtain ⟨a, w, x, rfl, T, hf, ha, q⟩ := h
  refine ⟨_, rfl, _, rfl, a, C, [w], rfl, (by show 1 ≤ 1000; decide), T, ha, ?_⟩
  exact ⟨x, rfl, .ref a, rfl, a, C, rfl, T, hf, .inl ⟨ha, fun dx h1 h2 => q dx h1 h2⟩⟩
def mRaiseA (c : Nat) (f : Str) (m : Mo (List D)) : Ms := fun s => (m s).toS fun ds s1 => match ds with
  | [_, x] => .er ⟨c, [(f, x)]⟩ s1
  | _ => .no
def tRaiseA (C : Addr) (sp : Sp) (W : WX) (ta : TA) : TS := fun _ σ H => tMkO C sp [] ta σ H fun cls d H' => W cls d σ H'
theorem RpL.two {G : Hp} {α : Nat → Addr} {n : Nat} {vs : List V} {x y : D} (h : RpL K G α n vs [x, y]) : ∃ u v, vs = [u, v] ∧ Rp K G α n u x ∧ Rp K G α n v y := by
  cases h with
  | cons h1 h => cases h with
    | cons h2 h => cases h; exact ⟨_, _, rfl, h1, h2⟩
theorem sv_raiseA {c : Nat} {f : Str} {ta : TA} {m : Mo (List D)} (T : OexC K (ct c)) (hf : PySem.W.findIn K (.ref (ct c)) f = some none) (h : EvL K ct H0 W ta m) : Sv K ct H0 W (tRaiseA (ct c) (spA K (ct c) f) W ta) (mRaiseA c f m) := fun S s σ H Dn rel p =>
  h S s σ H _ rel (PstS.bind p fun S1 s1 H1 vs ds st1 rel1 i1 p1 => by
    split at p1
    · rename_i y x
      obtain ⟨u, v, rfl, r1, r2⟩ := RpL.two i1
      refine ⟨(by show 2 ≤ 1000; decide), fun a ha => ⟨a, u, v, rfl, T, hf, upd_same, fun dx hdx hne => ⟨rfl, dx, [(f, v)], upd_same, by rw [upd_ne hne, upd_same], (upd_none.mp hdx).2, ?_⟩⟩⟩
      have hd : H1 dx = none := (upd_none.mp hdx).2
      have eh : upd (L2.del (upd (upd (upd H1 a (exo a (ct c) none)) dx (exd dx [(f, v)])) a (exo a (ct c) (some dx))) a) dx (.xd [(f, v)]) = upd H1 dx (.xd [(f, v)]) := by
        funext b
        by_cases e1 : b = dx
        · rw [e1, upd_same, upd_same]
        · rw [upd_ne e1, upd_ne e1]
          by_cases e2 : b = a
          · rw [e2, L2.del_same, ha]
          · rw [L2.del_ne e2, upd_ne e2, upd_ne e1, upd_ne e2]
      rw [eh]
      have rel2 := (rel1.new (o := .xd [(f, v)]) hd).frz (p := dx) (uX upd_same) (rel1.labN hd) (rel1.gN hd)
      have st2 : Stp S1 s1.M.length H1 (S1.frz dx (.xd [(f, v)])) s1.M.length (upd H1 dx (.xd [(f, v)])) := Stp.frz (rel1.gN hd) (.inl hd) (fun b e => (upd_none.mp e).2) (fun b w e _ => by rw [upd_ne (ne_of_none e hd)]; exact e)
      exact p1 _ σ _ (some dx) (st1.trans st2) rel2 (.inr ⟨dx, [(f, v)], rfl, upd_same, rfl, .cons (r2.mono st2.g st2.al st2.le) .nil⟩)
    · exact False.elim p1)
end
end Y
namespace Y
open PySem L2 Z
def mFn0 (np n : Nat) (body : Ms) : Mf := mFn np n fun s => noEr (body s)
def Fx (P : AI → List Cn → Prop) (E : Exn → List Cn → Prop) : Fr → Prop
  | .ok a M => P a M
  | .er x M => E x M
  | .no => False
def Ox (P : AI → List Cn → Prop) (E : Exn → List Cn → Prop) : Rs → Prop
  | .rt a s => P a s.M
  | .er x s => E x s.M
  | _ => False
section
variable {QA : AI → Stt → Prop} {X : Exn → Stt → Prop} {N : Stt → Prop} {O : Rs → Prop} {s : Stt} {M : List Cn} {P P' : AI → List Cn → Prop} {E E' : Exn → List Cn → Prop}
theorem f_fnX {np n : Nat} {b : Ms} {ds : List D} (hl : ds.length = np) (h : Ws (fun s => P (.val .non) s.M) (Ox P E) (b ⟨ds.map (fun d => some (.fz d)) ++ List.replicate (n - ds.length) none, M⟩)) : Fx P E (mFn np n b ds M) := by
  unfold mFn
  rw [if_pos hl]
  cases q : b ⟨ds.map (fun d => some (.fz d)) ++ List.replicate (n - ds.length) none, M⟩ <;> rw [q] at h <;> exact h
theorem f_fn0 {np n : Nat} {b : Ms} {ds : List D} (hl : ds.length = np) (h : Ws (fun s => P (.val .non) s.M) (Oe P) (b ⟨ds.map (fun d => some (.fz d)) ++ List.replicate (n - ds.length) none, M⟩)) : Fo P (mFn0 np n b ds M) := by
  refine f_fn hl ?_
  cases q : b ⟨ds.map (fun d => some (.fz d)) ++ List.replicate (n - ds.length) none, M⟩ <;> rw [q] at h <;> exact h
theorem fx_use {r : Fr} (h : Fx P E r) (k : ∀ a M', P a M' → P' a M') (k2 : ∀ x M', E x M' → E' x M') : Fx P' E' r := by
  cases r with
  | ok a M => exact k a M h
  | er x M => exact k2 x M h
  | no => exact h
theorem fx_eq {r : Fr} {a : AI} {M' : List Cn} (e : r = .ok a M') (h : P a M') : Fx P E r := by subst e; exact h
theorem fx_er {r : Fr} {x : Exn} {M' : List Cn} (e : r = .er x M') (h : E x M') : Fx P E r := by subst e; exact h
theorem fx_ok {r : Fr} {a : AI} {M' : List Cn} (h : Fx (fun a' M'' => a' = a ∧ M'' = M') (fun _ _ => False) r) : r = .ok a M' := by
  cases r with
  | ok a' M'' => obtain ⟨rfl, rfl⟩ := h; rfl
  | er _ _ => exact False.elim h
  | no => exact False.elim h
theorem fx_isEr {r : Fr} {x : Exn} {M' : List Cn} (h : Fx (fun _ _ => False) (fun x' M'' => x' = x ∧ M'' = M') r) : r = .er x M' := by
  cases r with
  | ok a' M'' => exact False.elim h
  | er _ _ => obtain ⟨rfl, rfl⟩ := h; rfl
  | no => exact False.elim h
theorem w_call {f : Mf} {ma : Mo (List D)} (h : Wo (fun ds s1 => Fx (fun a M' => QA a ⟨s1.env, M'⟩) (fun x M' => X x ⟨s1.env, M'⟩) (f ds s1.M)) X (ma s)) : Wo QA X (mCall f ma s) := w_bind (w_mono h fun ds s1 h => by
  show Wo QA X (match f ds s1.M with | .ok a M' => _ | .er x M' => _ | .no => _)
  cases q : f ds s1.M <;> rw [q] at h <;> exact h)
theorem w_raise {c : Nat} (h : O (.er ⟨c, []⟩ s)) : Ws N O (mRaise c s) := h
theorem w_raiseA {c : Nat} {f : Str} {m : Mo (List D)} (h : Wo (fun ds s1 => ∃ w x, ds = [w, x] ∧ O (.er ⟨c, [(f, x)]⟩ s1)) (fun x s => O (.er x s)) (m s)) : Ws N O (mRaiseA c f m s) := w_toS (w_mono h fun ds s1 ⟨w, x, e, h⟩ => by subst e; exact h)
/-- behind a suite -/
def Olv (i : Nat) (O : Rs → Prop) : Rs → Prop
  | .bk s => O (.bk (dropX i s))
  | .ct s => O (.ct (dropX i s))
  | .rt a s => O (.rt a (dropX i s))
  | _ => False
def Otry (cat : Nat → Option Bool) (i : Nat) (ms : Ms) (N : Stt → Prop) (O : Rs → Prop) : Rs → Prop
  | .er x s1 => (cat x.cls = some true ∧ Ws (fun s => N (dropX i s)) (Olv i O) (ms (enterX i x s1))) ∨ (cat x.cls = some false ∧ O (.er x s1))
  | r => O r
theorem w_tryA {cat : Nat → Option Bool} {i : Nat} {mb ms : Ms} (h : Ws N (Otry cat i ms N O) (mb s)) : Ws N O (mTryA cat i mb ms s) := by
  unfold mTryA
  cases q : mb s with
  | er x s1 =>
    rw [q] at h
    rcases h with ⟨e, h⟩ | ⟨e, h⟩
    · simp only []
      rw [e]
      simp only []
      cases q2 : ms (enterX i x s1) <;> rw [q2] at h <;> exact h
    · simp only []
      rw [e]
      exact h
  | _ => rw [q] at h; exact h
theorem w_xf {i c : Nat} {f : Str} {x : Exn} {d : D} (e : xnAt s i = some x) (hc : x.cls = c) (l : x.fs.lookup f = some d) (h : QA (.val d) s) : Wo QA X (mXf i c f s) := by
  unfold mXf; rw [e]; simp only []; rw [if_pos hc, l]; exact h
theorem w_isX {i : Nat} {tbl : Nat → Option Bool} {x : Exn} {b : Bool} (e : xnAt s i = some x) (l : tbl x.cls = some b) (h : QA (.val (.bl b)) s) : Wo QA X (mIsX i tbl s) := by
  unfold mIsX; rw [e]; simp only []; rw [l]; exact h
def Ocl (l : List ((Nat → Option Bool) × Ms)) (N : Stt → Prop) (O : Rs → Prop) : Rs → Prop
  | .er x s1 => Ws N O (clauses l x s1)
  | r => O r
theorem w_tryM {l : List ((Nat → Option Bool) × Ms)} {mb : Ms} (h : Ws N (Ocl l N O) (mb s)) : Ws N O (mTryM l mb s) := by
  unfold mTryM
  cases q : mb s <;> rw [q] at h <;> exact h
end
end Y
namespace Y
open PySem L2 Z
section
variable {K : PySem.W.Frag} {ct : Ct} {H0 : Hp} {W : WX}
def fAbs (s : Stt) (as : List AI) : Ro AI := match as with
  | [.val (.int i)] => .ok (.val (.int (if i < 0 then -i else i))) s
  | _ => .no
def sIdx (a b : Str) : Option Nat := (Builtin.Str.occurrences a b 0 a.length 1).head?
def mSIdx (mo ma : Mo AI) : Mo AI := fun s => (mo s).bind fun a s1 => match a with
  | .val (.str x) => (ma s1).bind fun b s2 => match b with
    | .val (.str y) => match sIdx x y with
      | some i => .ok (.val (.int (i : Nat))) s2
      | none => .no
    | _ => .no
  | _ => .no
end
section
variable {s : Stt} {X : Exn → Stt → Prop} {QA : AI → Stt → Prop} {QI : Im → Stt → Prop} {m1 m2 : Mo AI}
theorem w_abs {i : Int} (h : QA (.val (.int (if i < 0 then -i else i))) s) : Wo QA X (fAbs s [.val (.int i)]) := h
theorem w_sidx (h : Wo (fun a s1 => ∃ x, a = .val (.str x) ∧ Wo (fun b s2 => ∃ y i, b = .val (.str y) ∧ sIdx x y = some i ∧ QA (.val (.int (i : Nat))) s2) X (m2 s1)) X (m1 s)) : Wo QA X (mSIdx m1 m2 s) := w_bind (w_mono h fun a s1 ⟨x, e, h⟩ => by
  subst e
  exact w_bind (w_mono h fun b s2 ⟨y, i, e, e2, h⟩ => by
    subst e
    show Wo QA X (match sIdx x y with | some i => _ | none => _)
    rw [e2]; exact h))
open Classical in
theorem w_rng3 {r : Mo (List AI)} (h : Wo (fun as s1 => ∃ (i j c : Int) (n : Nat), as = [.val (.int i), .val (.int j), .val (.int c)] ∧ RgC i j c n ∧ QI ⟨rngC i c n, none⟩ s1) X (r s)) : Wo QI X (mRng3 r s) := w_bind (w_mono h fun as s1 ⟨i, j, c, n, e, hz, h⟩ => by
  subst e
  have en : (Builtin.Range.rangeSize i j c).toNat = n := by rw [hz.2.2.2]; rfl
  show Wo QI X (if RgC i j c (Builtin.Range.rangeSize i j c).toNat then Ro.ok ⟨rngC i c (Builtin.Range.rangeSize i j c).toNat, none⟩ s1 else _)
  rw [en, if_pos hz]; exact h)
theorem rngC_get {lo c : Int} {n i : Nat} {d : D} (h : (rngC lo c n)[i]? = some d) : i < n ∧ d = .int (lo + (i : Int) * c) := by
  unfold rngC at h
  rw [List.getElem?_map] at h
  obtain ⟨k, e1, e2⟩ := Option.map_eq_some_iff.mp h
  obtain ⟨h1, h2⟩ := List.getElem?_eq_some_iff.mp e1
  rw [List.length_range] at h1
  rw [List.getElem_range] at h2
  subst h2
  exact ⟨h1, e2.symm⟩
theorem rngC_len {lo c : Int} {n : Nat} : (rngC lo c n).length = n := by unfold rngC; rw [List.length_map, List.length_range]
end
end Y
namespace Y
open PySem L2 Z
inductive KD where
  | keys | vals | items
def kD : Key → D
  | .inl i => .int i
  | .inr x => .str x
def dIt : KD → List (Key × D) → List D
  | .keys, l => l.map fun p => kD p.1
  | .vals, l => l.map Prod.snd
  | .items, l => l.map fun p => .tup [kD p.1, p.2]
def dI : KD → Nat → TI
  | .keys, i => iKeys (tVar i)
  | .vals, i => iVals (tVar i)
  | .items, i => iItems (tVar i)
section
variable {K : PySem.W.Frag} {ct : Ct} {H0 : Hp} {W : WX} {S : Sh} {s : Stt} {σ : St} {H : Hp}
theorem kD_rp {G : Hp} {α : Nat → Addr} {n : Nat} (k : Key) : Rp K G α n (kV k) (kD k) := by
  cases k with
  | inl i => exact .int i
  | inr x => exact .str x
theorem RpK.at {G : Hp} {α : Nat → Addr} {n : Nat} : ∀ {kvs : List (Key × V)} {l : List (Key × D)} {i : Nat} {k : Key} {d : D}, RpK K G α n kvs l → l[i]? = some (k, d) → ∃ v, kvs[i]? = some (k, v) ∧ Rp K G α n v d
  | _, _, _, _, _, .nil, e => by simp at e
  | _, _, 0, _, _, .cons a _, e => by simp at e; obtain ⟨rfl, rfl⟩ := e; exact ⟨_, rfl, a⟩
  | _, _, i + 1, _, _, .cons _ r, e => by
    simp at e
    obtain ⟨v, h1, h2⟩ := r.at e
    exact ⟨v, by simpa using h1, h2⟩
theorem RpK.step' {G G' : Hp} {α α' : Nat → Addr} {n n' : Nat} (g : Same G G') (ha : ∀ k, k < n → α' k = α k) (hn : n ≤ n') : ∀ {kvs : List (Key × V)} {l : List (Key × D)}, RpK K G α n kvs l → RpK K G' α' n' kvs l
  | _, _, .nil => .nil
  | _, _, .cons a r => .cons (a.mono g ha hn) (r.step' g ha hn)
def dJ : KD → Addr → Obj → List (Key × V) → It
  | .keys, d, o, kvs => Itk d o kvs
  | .vals, d, o, kvs => Itd d o kvs
  | .items, d, o, kvs => Iti d o kvs
theorem wk_d {kd : KD} {d : Addr} {o : Obj} {kvs : List (Key × V)} {l : List (Key × D)} (hd : H d = some (.frz o (.dK kvs))) (hl : S.lab d = none) (r : RpK K S.G S.α s.M.length kvs l) : Wk K ct H0 S s.M.length H (dJ kd d o kvs) ⟨dIt kd l, none⟩ := fun S1 s1 σ1 H1 st rel _ => by
  have h1 := (st.fr d _ hd hl).1
  have r1 := r.step' st.g st.al st.le
  have hlen := r.len
  cases kd with
  | keys =>
    refine ⟨fun i x e => ?_, ⟨h1, by show kvs.length ≤ (l.map _).length; rw [List.length_map]; omega⟩⟩
    have e : (l.map fun p => kD p.1)[i]? = some x := e
    rw [List.getElem?_map] at e
    obtain ⟨⟨k, y⟩, e1, rfl⟩ := Option.map_eq_some_iff.mp e
    obtain ⟨v, e2, e3⟩ := r1.at e1
    refine ⟨⟨h1, (List.getElem?_eq_some_iff.mp e2).1⟩, fun x H2 hy => ?_⟩
    obtain ⟨rfl, k', v', q1, rfl⟩ := hy
    rw [e2] at q1; cases q1
    exact ⟨S1, .refl, rel, kD_rp k⟩
  | vals =>
    refine ⟨fun i x e => ?_, ⟨h1, by show kvs.length ≤ (l.map _).length; rw [List.length_map]; omega⟩⟩
    have e : (l.map Prod.snd)[i]? = some x := e
    rw [List.getElem?_map] at e
    obtain ⟨⟨k, y⟩, e1, rfl⟩ := Option.map_eq_some_iff.mp e
    obtain ⟨v, e2, e3⟩ := r1.at e1
    refine ⟨⟨h1, (List.getElem?_eq_some_iff.mp e2).1⟩, fun x H2 hy => ?_⟩
    obtain ⟨rfl, k', q1⟩ := hy
    rw [e2] at q1; cases q1
    exact ⟨S1, .refl, rel, e3⟩
  | items =>
    refine ⟨fun i x e => ?_, ⟨h1, by show kvs.length ≤ (l.map _).length; rw [List.length_map]; omega⟩⟩
    have e : (l.map fun p => D.tup [kD p.1, p.2])[i]? = some x := e
    rw [List.getElem?_map] at e
    obtain ⟨⟨k, y⟩, e1, rfl⟩ := Option.map_eq_some_iff.mp e
    obtain ⟨v, e2, e3⟩ := r1.at e1
    refine ⟨⟨h1, (List.getElem?_eq_some_iff.mp e2).1⟩, fun x H2 hy => ?_⟩
    obtain ⟨T, k', v', q1, rfl, hT, rfl⟩ := hy
    rw [e2] at q1; cases q1
    exact new_tup rel hT (.cons (kD_rp k) (.cons e3 .nil))
theorem dI_go {kd : KD} {i : Nat} {d : Addr} {o : Obj} {kvs : List (Key × V)} {R : It → Hp → Prop} (hs : σ[i]? = some (some (.ref d))) (hd : H d = some (.frz o (.dK kvs))) (h : R (dJ kd d o kvs) H) : dI kd i σ H R := by
  cases kd with
  | keys => exact ⟨_, hs, d, o, rfl, .inl ⟨kvs, hd, h⟩⟩
  | vals => exact ⟨_, hs, d, o, kvs, rfl, hd, h⟩
  | items => exact ⟨_, hs, d, o, kvs, rfl, hd, h⟩
def Ct.lkd (ct : Ct) (d : Option Addr) : Ct := ⟨ct.c, ct.xa, d⟩
theorem CnOk.lkd {b : Option Addr} {n : Nat} {p : Addr} {c : Cn} (h : CnOk K ct S n H p c) : CnOk K (ct.lkd b) S n H p c := by
  cases c <;> exact h
theorem CnOk.unlkd {b : Option Addr} {n : Nat} {p : Addr} {c : Cn} (h : CnOk K (ct.lkd b) S n H p c) : CnOk K ct S n H p c := by
  cases c <;> exact h
/-- a frozen dict is locked -/
theorem Rel.lock {d : Addr} {od : Obj} {kvs : List (Key × V)} (hlk : ct.lk = none) (r : Rel K ct H0 S s σ H) (hg : S.G d = some (.dK kvs)) : H d = some (.dK kvs) ∧ Rel K (ct.lkd (some d)) H0 S s σ (upd H d (.frz od (.dK kvs))) := by
  have hs : Same S.G H := by have := r.sub; rw [hlk, U0] at this; exact this
  have hd := hs _ _ hg
  have ne : ∀ {a : Addr} {l : Lab}, S.lab a = some l → a ≠ d := fun {a l} h z => by subst z; rw [(r.lg a l h).1] at hg; cases hg
  have cn : ∀ {a : Addr} {l : Lab} {c : Cn}, S.lab a = some l → CnOk K ct S s.M.length H a c → CnOk K (ct.lkd (some d)) S s.M.length (upd H d (.frz od (.dK kvs))) a c := fun {a l c} hl h => (h.mono (H' := upd H d (.frz od (.dK kvs))) (fun _ _ e => e) (fun _ _ => rfl) (Nat.le_refl _) (fun o e => by rw [upd_ne (ne hl)]; exact e)).lkd
  refine ⟨hd, ⟨fun a u e => ?_, fun a l e => ?_, fun a e => r.dom a (upd_none.mp e).2, r.len, fun i en q => ?_, fun k c q => ?_⟩⟩
  · show U (some d) _ a = some u
    by_cases z : a = d
    · subst z
      rw [hg] at e; cases e
      unfold U; rw [if_pos rfl, upd_same]; rfl
    · unfold U; rw [if_neg (by simp; exact fun q => z q.symm), upd_ne z]; exact hs _ _ e
  · obtain ⟨h1, o, h2⟩ := r.lg a l e
    exact ⟨h1, o, by rw [upd_ne (ne e)]; exact h2⟩
  · have hh := r.slot i en q
    cases en with
    | fz x => exact hh
    | xn x => exact xn_mono (S := S) (n := s.M.length) (H := H) (fun _ _ e => e) (fun _ _ => rfl) (Nat.le_refl _) rfl hh
    | ow c =>
      obtain ⟨p, h1, h2, h3, h4, h5⟩ := hh
      exact ⟨p, h1, h2, h3, h4, cn h3 h5⟩
  · obtain ⟨h1, h2⟩ := r.ids k c q
    exact ⟨h1, cn h1 h2⟩
theorem Rel.unlock {d : Addr} {kvs : List (Key × V)} {S' : Sh} {s' : Stt} {H' : Hp} (hlk : ct.lk = none) (r : Rel K (ct.lkd (some d)) H0 S' s' σ H') (hg : S'.G d = some (.dK kvs)) : Rel K ct H0 S' s' σ (upd H' d (.dK kvs)) := by
  have ne : ∀ {a : Addr} {l : Lab}, S'.lab a = some l → a ≠ d := fun {a l} h z => by subst z; rw [(r.lg a l h).1] at hg; cases hg
  have cn : ∀ {a : Addr} {l : Lab} {c : Cn}, S'.lab a = some l → CnOk K (ct.lkd (some d)) S' s'.M.length H' a c → CnOk K ct S' s'.M.length (upd H' d (.dK kvs)) a c := fun {a l c} hl h => (h.mono (H' := upd H' d (.dK kvs)) (fun _ _ e => e) (fun _ _ => rfl) (Nat.le_refl _) (fun o e => by rw [upd_ne (ne hl)]; exact e)).unlkd
  refine ⟨fun a u e => ?_, fun a l e => ?_, fun a e => r.dom a (upd_none.mp e).2, r.len, fun i en q => ?_, fun k c q => ?_⟩
  · rw [hlk, U0]
    by_cases z : a = d
    · subst z
      rw [hg] at e; cases e; exact upd_same
    · rw [upd_ne z]
      have := r.sub a u e
      have h2 : U (some d) H' a = some u := this
      unfold U at h2; rw [if_neg (by simp; exact fun q => z q.symm)] at h2; exact h2
  · obtain ⟨h1, o, h2⟩ := r.lg a l e
    exact ⟨h1, o, by rw [upd_ne (ne e)]; exact h2⟩
  · have hh := r.slot i en q
    cases en with
    | fz x => exact hh
    | xn x => exact xn_mono (S := S') (n := s'.M.length) (H := H') (fun _ _ e => e) (fun _ _ => rfl) (Nat.le_refl _) rfl hh
    | ow c =>
      obtain ⟨p, h1, h2, h3, h4, h5⟩ := hh
      exact ⟨p, h1, h2, h3, h4, cn h3 h5⟩
  · obtain ⟨h1, h2⟩ := r.ids k c q
    exact ⟨h1, cn h1 h2⟩
theorem Stp.lockd {d : Addr} {od : Obj} {u : HO} {S' : Sh} {n n' : Nat} {H' : Hp} (hd : H d = some u) (t : Stp S n (upd H d (.frz od u)) S' n' H') : Stp S n H S' n' (upd H' d u) where
  g := t.g
  le := t.le
  al := t.al
  fr := fun a o h l => by
    by_cases z : a = d
    · subst z
      rw [hd] at h; cases h
      exact ⟨upd_same, (t.fr a _ upd_same l).2⟩
    · obtain ⟨h1, h2⟩ := t.fr a o (by rw [upd_ne z]; exact h) l
      exact ⟨by rw [upd_ne z]; exact h1, h2⟩
  gn := fun a o e => by
    rcases t.gn a o e with h | h | h
    · exact .inl h
    · exact .inr (.inl (upd_none.mp h).2)
    · exact .inr (.inr h)
  dom := fun a h => (upd_none.mp (t.dom a (upd_none.mp h).2)).2
noncomputable def mLcD (kd : KD) (i : Nat) (ws : List Nat) (g : Tg) (c : Mo Bool) (e : Mo AI) : Mo AI := fun s => match entAt s i with
  | some (.fz (.dK l)) => mLc ws (fun s => .ok ⟨dIt kd l, none⟩ s) g c e s
  | some (.ow (.dK l)) => (mLc ws (fun s => .ok ⟨dIt kd l, none⟩ s) g c e ⟨s.env.set i none, s.M⟩).bind fun a s1 => .ok a ⟨s1.env.set i (some (.ow (.dK l))), s1.M⟩
  | _ => .no
theorem mLc_er {ws : List Nat} {im : Im} {g : Tg} {c : Mo Bool} {e : Mo AI} {x : Exn} {s s' : Stt} : mLc ws (fun s => .ok im s) g c e s ≠ .er x s' := fun h => by
  have h : (match lcN ws g c (mV e) im.ck im.xs [] (wipeS ws s) with | .ok l s2 => Ro.ok (AI.new (.lst l)) ⟨rest s.env s2.env ws, s2.M⟩ | _ => .no) = .er x s' := h
  split at h <;> cases h
theorem set_self {σ : St} {i : Nat} {v : V} (h : σ[i]? = some (some v)) : σ.set i (some v) = σ := by
  obtain ⟨h1, h2⟩ := List.getElem?_eq_some_iff.mp h
  rw [← h2]; exact List.set_getElem_self h1
theorem ei_lcD {kd : KD} {i : Nat} {js ws : List Nat} {g : TG} {tt : TT} {te : TE} {f : Tg} {c : Mo Bool} {e : Mo AI} (hlk : ct.lk = none) (hg : ∀ b, Sg K (ct.lkd b) H0 js g f) (hjs : ∀ j ∈ js, j ∈ ws) (hc : ∀ b, Et K (ct.lkd b) H0 W0 tt c) (he : ∀ b, Ei K (ct.lkd b) H0 W0 te e) :
    Ei K ct H0 W (tLockE (tLc (dI kd i) g tt te ws)) (mLcD kd i ws f c e) := fun S s σ H Q rel p => by
  have ect : ct.lkd none = ct := by cases ct; cases hlk; rfl
  unfold mLcD at p
  split at p
  · rename_i l en
    obtain ⟨v, h1, h2⟩ := rel.slot i _ (entAt_eq en)
    cases h2 with
    | @dK d kvs _ k1 k2 k3 =>
      have rk := RpK.of k2 k3
      obtain ⟨hd, _⟩ := rel.lock (od := default) hlk k1
      have hlab : S.lab d = none := by
        cases q : S.lab d with
        | none => rfl
        | some z => rw [(rel.lg d z q).1] at k1; cases k1
      refine ⟨d, _, hd, trivial, fun od => ?_⟩
      have rl := (rel.lock (od := od) hlk k1).2
      refine ei_lcAt (K := K) (ct := ct.lkd (some d)) (H0 := H0) (W := W0) (S := S) (s := s) (mi := fun s => .ok ⟨dIt kd l, none⟩ s) (fun R q => dI_go h1 upd_same (q S _ _ .refl rl (wk_d upd_same hlab rk))) (hg _) hjs (hc _) (he _) ?_
      have hne : ∀ x s', mLc ws (fun s => .ok ⟨dIt kd l, none⟩ s) f c e s ≠ .er x s' := fun _ _ => mLc_er
      generalize mLc ws (fun s => .ok ⟨dIt kd l, none⟩ s) f c e s = R at p hne
      cases R with
      | no => exact p
      | er x s' => exact absurd rfl (hne _ _)
      | ok a s' =>
        intro S' b H' st rel' it
        have hd' := (st.fr d _ upd_same hlab).1
        have g' : S'.G d = some (.dK kvs) := st.g _ _ k1
        refine ⟨hd', p S' b _ (st.lockd hd) (rel'.unlock hlk g') ?_⟩
        cases a with
        | val x => exact it
        | slot j => exact it
        | new c' =>
          obtain ⟨pp, rfl, i1, i2, i3, i4, i5⟩ := it
          have ne : pp ≠ d := fun z => by subst z; rw [i3] at g'; cases g'
          exact ⟨pp, rfl, (upd_none.mp i1).2, i2, i3, i4, (i5.mono (H' := upd H' d (.dK kvs)) (fun _ _ e => e) (fun _ _ => rfl) (Nat.le_refl _) (fun o e => by rw [upd_ne ne]; exact e)).unlkd⟩
  · rename_i l en
    obtain ⟨d, h1, h2, h3, h4, h5⟩ := rel.slot i _ (entAt_eq en)
    obtain ⟨kvs, hd, k2, k3⟩ := h5
    have hgd := (rel.lg d _ h3).1
    have rk : RpK K (S.un i).G (S.un i).α s.M.length kvs l := RpK.of k2 k3
    have hlab : (S.un i).lab d = none := by show (if S.lab d = some (.slot i) then none else S.lab d) = none; rw [if_pos h3]
    refine ⟨d, _, hd, trivial, fun od => ?_⟩
    have rl : Rel K ct H0 (S.un i) ⟨s.env.set i none, s.M⟩ σ (upd H d (.frz od (.dK kvs))) := rel.setN.updU hlab hgd
    refine ei_lcAt (K := K) (ct := ct) (H0 := H0) (W := W0) (S := S.un i) (s := ⟨s.env.set i none, s.M⟩) (mi := fun s => .ok ⟨dIt kd l, none⟩ s) (fun R q => dI_go h1 upd_same (q (S.un i) _ _ .refl rl (wk_d (s := ⟨s.env.set i none, s.M⟩) upd_same hlab rk))) (by have := hg none; rw [ect] at this; exact this) hjs (by have := hc none; rw [ect] at this; exact this) (by have := he none; rw [ect] at this; exact this) ?_
    have hne : ∀ x s', mLc ws (fun s => .ok ⟨dIt kd l, none⟩ s) f c e ⟨s.env.set i none, s.M⟩ ≠ .er x s' := fun _ _ => mLc_er
    generalize mLc ws (fun s => .ok ⟨dIt kd l, none⟩ s) f c e ⟨s.env.set i none, s.M⟩ = R at p hne
    cases R with
    | no => exact p
    | er x s' => exact absurd rfl (hne _ _)
    | ok a s' =>
      intro S' b H' st rel' it
      obtain ⟨hd', hl'⟩ := st.fr d _ upd_same hlab
      have hg' : S'.G d = none := by
        cases q : S'.G d with
        | none => rfl
        | some o =>
          rcases st.gn d o q with z | z | ⟨z, z'⟩
          · have z : S.G d = some o := z; rw [hgd] at z; cases z
          · rw [upd_same] at z; cases z
          · rw [hlab] at z'; cases z'
      have rk' := rk.step' st.g st.al st.le
      have r2 := (rel'.updU (o := .dK kvs) hl' hg').setOw (i := i) (c := .dK l) h2 hl' hg' rfl ⟨kvs, upd_same, rk'.keys, rk'.vals⟩
      rw [set_self h1] at r2
      have hneq : ∀ {a : Addr}, S.lab a = none → a ≠ d := fun {a} ha z => by subst z; rw [h3] at ha; cases ha
      refine ⟨hd', p (S'.cl i d) b _ ⟨st.g, st.le, st.al, fun a o ha la => ?_, fun a o ga => ?_, fun a ha => ?_⟩ r2 ?_⟩
      · have lu : (S.un i).lab a = none := by show (if S.lab a = some (.slot i) then none else S.lab a) = none; rw [la]; rfl
        obtain ⟨z1, z2⟩ := st.fr a o (by rw [upd_ne (hneq la)]; exact ha) lu
        refine ⟨by rw [upd_ne (hneq la)]; exact z1, ?_⟩
        show (if a = d then some (Lab.slot i) else if S'.lab a = some (.slot i) then none else S'.lab a) = none
        rw [if_neg (hneq la), z2]; rfl
      · rcases st.gn a o ga with z | z | ⟨z, z'⟩
        · exact .inl z
        · exact .inr (.inl (upd_none.mp z).2)
        · exact .inr (.inr ⟨z, un_of z'⟩)
      · exact (upd_none.mp (st.dom a (upd_none.mp ha).2)).2
      · cases a with
        | val x => exact it
        | slot j => exact it
        | new c' =>
          obtain ⟨pp, rfl, i1, i2, i3, i4, i5⟩ := it
          obtain ⟨i0, i1⟩ := upd_none.mp i1
          refine ⟨pp, rfl, i1, ?_, i3, i4, i5.mono (H' := upd H' d (.dK kvs)) (fun _ _ e => e) (fun _ _ => rfl) (Nat.le_refl _) (fun o e => by rw [upd_ne i0]; exact e)⟩
          show (if pp = d then some (Lab.slot i) else if S'.lab pp = some (.slot i) then none else S'.lab pp) = none
          rw [if_neg i0, i2]; rfl
  · exact False.elim p
end
end Y
namespace Y
open PySem L2 Z
abbrev pyP (p : Int × Int) : PyData := .tuple [.int p.1, .int p.2]
def ltP (x y : Int × Int) : Bool := decide (x.1 < y.1 ∨ (x.1 = y.1 ∧ x.2 < y.2))
def minP (p : Int × Int) (ps : List (Int × Int)) : Int × Int := ps.foldl (fun a y => if ltP y a = true then y else a) p
theorem dlt (x y : Int × Int) : PySem.W.dataLt (pyP x) (pyP y) = ltP x y := by
  obtain ⟨a, b⟩ := x
  obtain ⟨c, d⟩ := y
  show (decide ((1 : Int) < 1) || (!decide ((1 : Int) < 1) && (decide (a < c) || (!decide (c < a) && (decide ((1 : Int) < 1) || (!decide ((1 : Int) < 1) && (decide (b < d) || (!decide (d < b) && (decide ((0 : Int) < 0) || (!decide ((0 : Int) < 0) && false)))))))))) = decide (a < c ∨ (a = c ∧ b < d))
  by_cases h1 : a < c
  · simp [h1]
  · by_cases h2 : c < a
    · have : ¬ a = c := by omega
      simp [h1, h2, this]
    · have : a = c := by omega
      subst this
      by_cases h3 : b < d
      · simp [h3]
      · simp [h3]
theorem minD_P : ∀ (ps : List (Int × Int)) (p : Int × Int), PySem.W.minD (pyP p) (ps.map pyP) = pyP (minP p ps)
  | [], p => rfl
  | y :: ps, p => by
    show PySem.W.minD (if PySem.W.dataLt (pyP y) (pyP p) = true then pyP y else pyP p) (ps.map pyP) = pyP (minP (if ltP y p = true then y else p) ps)
    rw [dlt]
    by_cases h : ltP y p = true
    · rw [if_pos h, if_pos h]; exact minD_P ps y
    · rw [if_neg h, if_neg h]; exact minD_P ps p
def rMinP (K : PySem.W.Frag) : List V → Hp → VK → Prop := fun xs H Q => ∃ (q : Addr) (us : List V) (p : Int × Int) (ps : List (Int × Int)), xs = [.ref q] ∧ SqL K H q us ∧ DpAll K H us ((p :: ps).map pyP) ∧ ∀ (i : Nat) (u : V), us[i]? = some u → (p :: ps)[i]? = some (minP p ps) → Q u H
section
variable {X : Cx}
theorem depth_P : ∀ ps : List (Int × Int), PyData.depthAll (ps.map pyP) ≤ 5
  | [] => by show 0 ≤ 5; omega
  | p :: ps => by
    have := depth_P ps
    show max (PyData.depth (pyP p)) (PyData.depthAll (ps.map pyP)) ≤ 5
    have h : PyData.depth (pyP p) ≤ 5 := by show max (0 + 0) (max 0 0) + 1 ≤ 5 <;> decide
    omega
theorem cr_minP' (hc : X.calm = true) (hu : X.A.units + 70 < cLine) : CallR X (.builtin "min") (rMinP X.K) := by
  intro pins s σ H vs us Q I r h
  obtain ⟨a, xs, p, ps, rfl, hs, hd, q⟩ := h
  obtain ⟨its, rv, hl, hz⟩ := I.list hs
  rw [Vals.ref1 r]
  obtain ⟨as, hr⟩ := Dp.readsAll I _ _ _ hd rv
  have hr' : ReadsAll s.heap its.toArray.toList (pyP p :: ps.map pyP) as := by simpa using hr
  refine PySem.W.min_list_data (I.ok.hd hc) hl.isList hr' ⟨fun x hx y hy => ?_, fun x hx => ?_⟩ ?_ fun i v h' tk bs hv hR hk => ?_
  · obtain ⟨p1, _, rfl⟩ := List.mem_map.mp (show x ∈ (p :: ps).map pyP from hx)
    obtain ⟨p2, _, rfl⟩ := List.mem_map.mp (show y ∈ (p :: ps).map pyP from hy)
    rfl
  · obtain ⟨p1, _, rfl⟩ := List.mem_map.mp (show x ∈ (p :: ps).map pyP from hx)
    intro z; cases z
  · have := depth_P (p :: ps)
    have e : PyData.depthAll (pyP p :: ps.map pyP) = PyData.depthAll ((p :: ps).map pyP) := rfl
    omega
  · rw [minD_P] at hR
    have hv' : its[i]? = some v := by simpa using hv
    obtain ⟨bs', r1, hlt, _, _⟩ := PySem.W.readsAll_at hr i v hv'
    have e := (Reads.unique (PyProof.Rows.Reads.keeps hk r1) _ _ hR).1
    have hlt' : i < (p :: ps).length := by rw [List.length_map] at hlt; exact hlt
    have ep : ((p :: ps).map pyP).getD i .none = pyP (p :: ps)[i] := by
      rw [List.getD_eq_getElem?_getD, List.getElem?_map, List.getElem?_eq_getElem hlt']; rfl
    rw [ep] at e
    have e2 : (p :: ps)[i] = minP p ps := by
      injection e with e
      injection e with e3 e4
      injection e3 with e3
      injection e4 with e4 _
      injection e4 with e4
      exact Prod.ext e3 e4
    have hxl : i < xs.length := by have := rv.length; have := (List.getElem?_eq_some_iff.mp hv').1; omega
    obtain ⟨u, hu1, hu2⟩ := rv.get (List.getElem?_eq_getElem hxl)
    rw [hv'] at hu1; cases hu1
    exact ⟨_, H, I.kept (t' := tk) hk, hu2, q i _ (List.getElem?_eq_getElem hxl) (by rw [List.getElem?_eq_getElem hlt', e2])⟩
theorem cr_minP {K : PySem.W.Frag} (hK : X.K = K) (hc : X.calm = true) (hu : X.A.units + 70 < cLine) : CallR X (.builtin "min") (rMinP K) := by subst hK; exact cr_minP' hc hu
end
section
variable {K : PySem.W.Frag} {ct : Ct} {H0 : Hp} {W : WX}
def tP (p : Int × Int) : D := .tup [.int p.1, .int p.2]
def pairsD : List D → Option (List (Int × Int))
  | [] => some []
  | .tup [.int a, .int b] :: l => (pairsD l).map ((a, b) :: ·)
  | _ :: _ => none
theorem pairsD_eq : ∀ {l : List D} {ps : List (Int × Int)}, pairsD l = some ps → l = ps.map tP
  | [], _, e => by cases e; rfl
  | d :: l, ps, e => by
    unfold pairsD at e
    split at e
    · rename_i h; cases h
    · rename_i a b l' h
      cases h
      obtain ⟨qs, q, rfl⟩ := Option.map_eq_some_iff.mp e
      rw [pairsD_eq q]; rfl
    · cases e
theorem pairsD_map : ∀ ps : List (Int × Int), pairsD (ps.map tP) = some ps
  | [] => rfl
  | p :: ps => by show (pairsD (ps.map tP)).map (p :: ·) = _; rw [pairsD_map ps]; rfl
def fMinP (s : Stt) (as : List AI) : Ro AI := match as with
  | [a] => match (viewL s a).bind pairsD with
    | some (p :: ps) => .ok (.val (tP (minP p ps))) s
    | _ => .no
  | _ => .no
theorem pyL_P : ∀ ps : List (Int × Int), D.pyL (ps.map tP) = some (ps.map pyP)
  | [] => rfl
  | p :: ps => by show ((tP p).py).bind (fun x => (D.pyL (ps.map tP)).map (x :: ·)) = _; rw [pyL_P ps]; rfl
theorem jb_minP : JB K ct H0 (rMinP K) fMinP := fun W S s σ H Hs vs as Q rel ia p => by
  unfold fMinP at p
  split at p
  · rename_i a
    obtain ⟨v, rfl, i⟩ := as1 ia
    split at p
    · rename_i p0 ps e
      obtain ⟨l, e1, e2⟩ := Option.bind_eq_some_iff.mp e
      obtain ⟨q, us, rfl, k1, k2⟩ := viewL_ok rel i e1
      have el := pairsD_eq e2
      subst el
      have kH := uDpL (rpL_dp (RpL.mono rel.sub (fun _ _ => rfl) (Nat.le_refl _) k2) (pyL_P (p0 :: ps)))
      refine ⟨q, us, p0, ps, rfl, k1, kH, fun j u hu hj => ?_⟩
      obtain ⟨d, hd1, hd2⟩ := k2.get' hu
      rw [List.getElem?_map, hj] at hd1
      cases hd1
      exact p.val rel hd2
    · exact False.elim p
  · exact False.elim p
variable {s : Stt} {X : Exn → Stt → Prop} {QA : AI → Stt → Prop}
theorem w_minP {a : AI} {p : Int × Int} {ps : List (Int × Int)} (e : viewL s a = some ((p :: ps).map tP)) (h : QA (.val (tP (minP p ps))) s) : Wo QA X (fMinP s [a]) := by
  unfold fMinP; simp only []; rw [e, Option.bind_some, pairsD_map]; exact h
def kPair : D → Option (Key × D)
  | .tup [.int i, x] => some (.inl i, x)
  | .tup [.str i, x] => some (.inr i, x)
  | _ => none
def kPairs : List D → Option (List (Key × D))
  | [] => some []
  | d :: l => (kPair d).bind fun p => (kPairs l).map (p :: ·)
def mgD (l : List (Key × D)) : List (Key × D) := l.foldl (fun a p => pu a p.1 p.2) []
def fDict (s : Stt) (as : List AI) : Ro AI := match as with
  | [a] => match (viewL s a).bind kPairs with
    | some l => .ok (.new (.dK (mgD l))) s
    | none => .no
  | _ => .no
theorem mg_ok {G : Hp} {α : Nat → Addr} {n : Nat} : ∀ {kvs : List (Key × V)} {l : List (Key × D)} {acc : List (Key × V)} {a : List (Key × D)}, RpK K G α n kvs l → RpK K G α n acc a → RpK K G α n (mergeK acc kvs) (l.foldl (fun a p => pu a p.1 p.2) a)
  | _, _, _, _, .nil, h => h
  | _, _, acc, a, .cons (k := k) (v := v) (d := d) (kvs := kvs) (l := l) x r, h => by
    show RpK K G α n (mergeK (putK acc k v) kvs) (l.foldl (fun a p => pu a p.1 p.2) (pu a k d))
    exact mg_ok r (h.put x)
theorem w_dnew (h : QA (.new (.dK [])) s) : Wo QA X (mDNew s) := h
theorem w_lcD1 {kd : KD} {i : Nat} {ws : List Nat} {g : Tg} {c : Mo Bool} {e : Mo AI} {l : List (Key × D)} (en : entAt s i = some (.fz (.dK l))) (h : ∃ l2 s2, lcN ws g c (mV e) none (dIt kd l) [] (wipeS ws s) = .ok l2 s2 ∧ QA (.new (.lst l2)) ⟨Y.rest s.env s2.env ws, s2.M⟩) : Wo QA X (mLcD kd i ws g c e s) := by
  unfold mLcD; rw [en]
  exact w_lc (show Wo _ X (Ro.ok (⟨dIt kd l, none⟩ : Im) s) from h)
theorem w_lcD2 {kd : KD} {i : Nat} {ws : List Nat} {g : Tg} {c : Mo Bool} {e : Mo AI} {l : List (Key × D)} (en : entAt s i = some (.ow (.dK l))) (h : ∃ l2 s2, lcN ws g c (mV e) none (dIt kd l) [] (wipeS ws ⟨s.env.set i none, s.M⟩) = .ok l2 s2 ∧ QA (.new (.lst l2)) ⟨(Y.rest (s.env.set i none) s2.env ws).set i (some (.ow (.dK l))), s2.M⟩) : Wo QA X (mLcD kd i ws g c e s) := by
  unfold mLcD; rw [en]
  refine w_bind (w_lc (QA := fun a s1 => Wo QA X (.ok a ⟨s1.env.set i (some (.ow (.dK l))), s1.M⟩)) (show Wo _ X (Ro.ok (⟨dIt kd l, none⟩ : Im) _) from h))
theorem w_pop {m1 m2 : Mo AI} (h : Wo (fun a s1 => (∃ l, viewD s1 a = some l) ∧ Wo (fun i s2 => ∃ l k d, getC s2 a = some (.dK l) ∧ keyOf i = some k ∧ vl l k = some d ∧ QA (.val d) (setC s2 a (.dK (dr l k)))) X (mV m2 s1)) X (m1 s)) : Wo QA X (mPop m1 m2 s) := w_bind (w_mono h fun a s1 ⟨⟨l, e⟩, h⟩ => by
  show Wo QA X (match viewD s1 a with | some _ => _ | none => _)
  rw [e]
  exact w_bind (w_mono h fun i s2 ⟨l, k, d, e1, e2, e3, h⟩ => by
    show Wo QA X (fPop s2 a i)
    unfold fPop
    rw [e1]; simp only []; rw [e2, Option.bind_some, e3]; exact h))
theorem so_setK {N : Stt → Prop} {a : AI} {i d : D} {l : List (Key × D)} {k : Key} (e : getC s a = some (.dK l)) (e2 : keyOf i = some k) (hz : l.length < sizeLine) (h : N (setC s a (.dK (pu l k d)))) : So N (setIt a i d s) := by
  unfold setIt; rw [e]; simp only []; rw [e2, Option.bind_some, if_pos hz]; exact h
theorem w_inD {b : AI} {i : Int} {l : List (Key × D)} (e : viewD s b = some l) (h : QA (.val (.bl (vl l (.inl i)).isSome)) s) : Wo QA X (fIn s (.val (.int i)) b) := by
  unfold fIn
  have : inOf s (.val (.int i)) b = some (vl l (.inl i)).isSome := by
    unfold inOf
    split
    · rename_i h1 h2; cases h2
    · rw [e]
  rw [this]; exact h
/-- a comprehension with a test -/
theorem w_lcFil {ws : List Nat} {g : Tg} {c : Mo Bool} {e : Mo D} {xs : List D} {P : List D → Stt → Prop} (p : D → Bool) (f : D → D) (hz : xs.length ≤ sizeLine) (h : ∀ x ∈ xs, So (fun s1 => Wo (fun b s2 => b = p x ∧ if b = true then Wo (fun d s3 => d = f x ∧ wipeS ws s3 = s) Xf (e s2) else wipeS ws s2 = s) Xf (c s1)) (g x s)) (k : P ((xs.filter p).map f) s) : ∃ l s2, lcN ws g c e none xs [] s = .ok l s2 ∧ P l s2 := by
  refine ⟨(xs.filter p).map f, s, ?_, k⟩
  have gen : ∀ (ys acc : List D), acc.length + ys.length ≤ sizeLine → (∀ y ∈ ys, y ∈ xs) → lcN ws g c e none ys acc s = .ok (acc ++ (ys.filter p).map f) s := by
    intro ys
    induction ys with
    | nil => intro acc _ _; unfold lcN; rw [if_pos chk_none]; simp
    | cons y ys ih =>
      intro acc hl hy
      have hh := h y (hy y (List.mem_cons_self ..))
      unfold lcN
      rw [if_pos chk_none]
      cases q : g y s with
      | none => rw [q] at hh; exact False.elim hh
      | some s1 =>
        rw [q] at hh
        simp only []
        have hh : Wo _ Xf (c s1) := hh
        cases q2 : c s1 with
        | no => rw [q2] at hh; exact False.elim hh
        | er _ _ => rw [q2] at hh; exact False.elim hh
        | ok b s2 =>
          rw [q2] at hh
          obtain ⟨hb, hh⟩ := hh
          simp only []
          rw [List.length_cons] at hl
          by_cases hbt : b = true
          · rw [if_pos hbt] at hh ⊢
            cases q3 : e s2 with
            | no => rw [q3] at hh; exact False.elim hh
            | er _ _ => rw [q3] at hh; exact False.elim hh
            | ok d s3 =>
              rw [q3] at hh
              obtain ⟨rfl, hw⟩ := hh
              simp only []
              rw [if_pos (by omega), hw, ih _ (by rw [List.length_append, List.length_singleton]; omega) (fun z hz => hy z (List.mem_cons_of_mem _ hz))]
              rw [List.filter_cons, if_pos (by rw [← hb]; exact hbt), List.map_cons, List.append_assoc]; rfl
          · rw [if_neg hbt] at hh ⊢
            rw [hh, ih _ (by omega) (fun z hz => hy z (List.mem_cons_of_mem _ hz))]
            rw [List.filter_cons, if_neg (by rw [← hb]; exact hbt)]
  simpa using gen xs [] (by simpa using hz) (fun _ h => h)
end
section
variable {K : PySem.W.Frag} {ct : Ct} {H0 : Hp} {W : WX}
def mPar (i j : Nat) (m : Mo (List D)) : Ms := fun s => (m s).toS fun ds s1 => match ds with
  | [x, y] => .nx ⟨(s1.env.set i (some (.fz x))).set j (some (.fz y)), s1.M⟩
  | _ => .no
theorem sv_par {i j : Nat} {ta : TA} {m : Mo (List D)} (h : EvL K ct H0 W ta m) : Sv K ct H0 W (tPar i j ta) (mPar i j m) := fun S s σ H Dn rel p =>
  h S s σ H _ rel (PstS.bind p fun S1 s1 H1 vs ds st1 rel1 i1 p1 => by
    split at p1
    · rename_i x y
      obtain ⟨u, v, rfl, r1, r2⟩ := RpL.two i1
      refine ⟨u, v, rfl, p1 ((S1.un i).un j) _ H1 ((st1.trans .un).trans .un) ?_⟩
      exact (rel1.setFz (i := i) r1).setFz (i := j) r2
    · exact False.elim p1)
variable {s : Stt} {N : Stt → Prop} {O : Rs → Prop}
theorem w_par {i j : Nat} {m : Mo (List D)} (h : Wo (fun ds s1 => ∃ x y, ds = [x, y] ∧ N ⟨(s1.env.set i (some (.fz x))).set j (some (.fz y)), s1.M⟩) (fun x s => O (.er x s)) (m s)) : Ws N O (mPar i j m s) := w_toS (w_mono h fun ds s1 ⟨x, y, e, h⟩ => by subst e; exact h)
end
end Y
namespace Y
open PySem L2 Z
def putD (f : Str) (d : D) : List (Str × D) → List (Str × D)
  | [] => [(f, d)]
  | (g, x) :: r => if g = f then (g, d) :: r else (g, x) :: putD f d r
section
variable {K : PySem.W.Frag} {ct : Ct} {H0 : Hp} {W : WX} {S : Sh} {s : Stt} {σ : St} {H : Hp}
/-- to a value; a new thing is tracked -/
def toK : AI → Mo D := fun a s => match a with
  | .new c => .ok (.cid s.M.length) ⟨s.env, s.M ++ [c]⟩
  | a => toV a s
def mK (m : Mo AI) : Mo D := fun s => (m s).bind toK
def objAt (s : Stt) (a : AI) : Option (Nat × Nat × List (Str × D)) := match a with
  | .val (.cid k) => match s.M[k]? with
    | some (.obj c fs) => some (k, c, fs)
    | _ => none
  | _ => none
def mFld (ok : Nat → Bool) (f : Str) (m : Mo AI) : Mo AI := fun s => (m s).bind fun a s1 => match objAt s1 a with
  | some (_, c, fs) => if ok c = true then (match fs.lookup f with | some d => .ok (.val d) s1 | none => .no) else .no
  | none => .no
def mFldS (ok : Nat → Bool) (f : Str) (mo mv : Mo AI) : Ms := fun s => (mK mv s).toS fun d s1 => (mo s1).toS fun a s2 => match objAt s2 a with
  | some (k, c, fs) => if ok c = true ∧ fs.length < 1000 then .nx ⟨s2.env, s2.M.set k (.obj c (putD f d fs))⟩ else .no
  | none => .no
/-- o.f += e -/
def mFldA (ok : Nat → Bool) (f : Str) (g : Int → Int → Int) (mo mv : Mo AI) : Ms := fun s => (mo s).toS fun a s1 => match objAt s1 a with
  | some (k, c, fs) => if ok c = true then (match fs.lookup f with
    | some (.int i) => (mv s1).toS fun b s2 => match b with
      | .val (.int j) => match s2.M[k]? with
        | some (.obj c' fs') => if c' = c ∧ fs'.length < 1000 then .nx ⟨s2.env, s2.M.set k (.obj c (putD f (.int (g i j)) fs'))⟩ else .no
        | _ => .no
      | _ => .no
    | _ => .no) else .no
  | none => .no
def mMethN (c : Nat) (nm : Str) (f : Mf) (mo : Mo AI) (ma : Mo (List D)) : Mo AI := fun s => (mo s).bind fun a s1 => match objAt s1 a with
  | some (k, c', fs) => if c' = c ∧ fs.lookup nm = none then ((ma s1).bind fun ds s2 => match f (.cid k :: ds) s2.M with
    | .ok a M' => .ok a ⟨s2.env, M'⟩
    | _ => .no) else .no
  | none => .no
def mMethS (c : Nat) (nm : Str) (f : Mf) (mo : Mo AI) (ma : Mo (List D)) : Mo AI := fun s => (mo s).bind fun a s1 => match objAt s1 a with
  | some (k, c', fs) => if c' = c ∧ fs.lookup nm = none then ((ma s1).bind fun ds s2 => match f (.cid k :: ds) s2.M with
    | .ok a M' => .ok a ⟨s2.env, M'⟩
    | .er x M' => .er x ⟨s2.env, M'⟩
    | .no => .no) else .no
  | none => .no
def mMakeN (c : Nat) (f : Mf) (dds : List D) (ma : Mo (List D)) : Mo AI := fun s => (ma s).bind fun ds s1 => match f (.cid s1.M.length :: (ds ++ dds)) (s1.M ++ [.obj c []]) with
  | .ok (.val .non) M' => .ok (.val (.cid s1.M.length)) ⟨s1.env, M'⟩
  | _ => .no
def mMakeS (c : Nat) (f : Mf) (dds : List D) (ma : Mo (List D)) : Mo AI := fun s => (ma s).bind fun ds s1 => match f (.cid s1.M.length :: (ds ++ dds)) (s1.M ++ [.obj c []]) with
  | .ok (.val .non) M' => .ok (.val (.cid s1.M.length)) ⟨s1.env, M'⟩
  | .er x M' => .er x ⟨s1.env, M'⟩
  | _ => .no
end
section
variable {s : Stt} {X : Exn → Stt → Prop} {QA : AI → Stt → Prop} {N : Stt → Prop} {O : Rs → Prop} {QD : D → Stt → Prop} {m mo mv : Mo AI} {ma : Mo (List D)}
theorem w_K (h : Wo (fun a s1 => Wo QD X (toK a s1)) X (m s)) : Wo QD X (mK m s) := w_bind h
theorem w_toKN {c : Cn} (h : QD (.cid s.M.length) ⟨s.env, s.M ++ [c]⟩) : Wo QD X (toK (.new c) s) := h
theorem w_toKV {d : D} (h : QD d s) : Wo QD X (toK (.val d) s) := h
theorem w_toKS {i : Nat} (h : Wo QD X (toV (.slot i) s)) : Wo QD X (toK (.slot i) s) := h
theorem w_fld {ok : Nat → Bool} {f : Str} (h : Wo (fun a s1 => ∃ k c fs d, objAt s1 a = some (k, c, fs) ∧ ok c = true ∧ fs.lookup f = some d ∧ QA (.val d) s1) X (m s)) : Wo QA X (mFld ok f m s) := w_bind (w_mono h fun a s1 ⟨k, c, fs, d, e, h1, h2, h⟩ => by
  show Wo QA X (match objAt s1 a with | some (_, c, fs) => _ | none => _)
  rw [e]; simp only []; rw [if_pos h1, h2]; exact h)
theorem w_fldS {ok : Nat → Bool} {f : Str} (h : Wo (fun d s1 => Wo (fun a s2 => ∃ k c fs, objAt s2 a = some (k, c, fs) ∧ (ok c = true ∧ fs.length < 1000) ∧ N ⟨s2.env, s2.M.set k (.obj c (putD f d fs))⟩) (fun x s => O (.er x s)) (mo s1)) (fun x s => O (.er x s)) (mK mv s)) : Ws N O (mFldS ok f mo mv s) :=
  w_toS (w_mono h fun d s1 h => w_toS (w_mono h fun a s2 ⟨k, c, fs, e, h1, h⟩ => by
    show Ws N O (match objAt s2 a with | some (k, c, fs) => _ | none => _)
    rw [e]; simp only []; rw [if_pos h1]; exact h))
theorem w_fldA {ok : Nat → Bool} {f : Str} {g : Int → Int → Int} (h : Wo (fun a s1 => ∃ k c fs i, objAt s1 a = some (k, c, fs) ∧ ok c = true ∧ fs.lookup f = some (.int i) ∧ Wo (fun b s2 => ∃ j fs', b = .val (.int j) ∧ s2.M[k]? = some (.obj c fs') ∧ fs'.length < 1000 ∧ N ⟨s2.env, s2.M.set k (.obj c (putD f (.int (g i j)) fs'))⟩) (fun x s => O (.er x s)) (mv s1)) (fun x s => O (.er x s)) (mo s)) : Ws N O (mFldA ok f g mo mv s) :=
  w_toS (w_mono h fun a s1 ⟨k, c, fs, i, e, h1, h2, h⟩ => by
    show Ws N O (match objAt s1 a with | some (k, c, fs) => _ | none => _)
    rw [e]; simp only []; rw [if_pos h1, h2]
    exact w_toS (w_mono h fun b s2 ⟨j, fs', e1, e2, h3, h⟩ => by
      subst e1
      show Ws N O (match s2.M[k]? with | some (.obj c' fs') => _ | _ => _)
      rw [e2]; simp only []; rw [if_pos ⟨trivial, h3⟩]; exact h))
theorem w_methN {c : Nat} {nm : Str} {f : Mf} (h : Wo (fun a s1 => ∃ k fs, objAt s1 a = some (k, c, fs) ∧ fs.lookup nm = none ∧ Wo (fun ds s2 => Fo (fun a M' => QA a ⟨s2.env, M'⟩) (f (.cid k :: ds) s2.M)) X (ma s1)) X (mo s)) : Wo QA X (mMethN c nm f mo ma s) := w_bind (w_mono h fun a s1 ⟨k, fs, e, h1, h⟩ => by
  show Wo QA X (match objAt s1 a with | some (k, c', fs) => _ | none => _)
  rw [e]; simp only []; rw [if_pos ⟨trivial, h1⟩]
  exact w_bind (w_mono h fun ds s2 h => by
    show Wo QA X (match f (.cid k :: ds) s2.M with | .ok a M' => _ | _ => _)
    cases q : f (.cid k :: ds) s2.M <;> rw [q] at h <;> exact h))
theorem w_methS {c : Nat} {nm : Str} {f : Mf} (h : Wo (fun a s1 => ∃ k fs, objAt s1 a = some (k, c, fs) ∧ fs.lookup nm = none ∧ Wo (fun ds s2 => Fx (fun a M' => QA a ⟨s2.env, M'⟩) (fun x M' => X x ⟨s2.env, M'⟩) (f (.cid k :: ds) s2.M)) X (ma s1)) X (mo s)) : Wo QA X (mMethS c nm f mo ma s) := w_bind (w_mono h fun a s1 ⟨k, fs, e, h1, h⟩ => by
  show Wo QA X (match objAt s1 a with | some (k, c', fs) => _ | none => _)
  rw [e]; simp only []; rw [if_pos ⟨trivial, h1⟩]
  exact w_bind (w_mono h fun ds s2 h => by
    show Wo QA X (match f (.cid k :: ds) s2.M with | .ok a M' => _ | .er x M' => _ | .no => _)
    cases q : f (.cid k :: ds) s2.M <;> rw [q] at h <;> exact h))
theorem w_makeN {c : Nat} {f : Mf} {dds : List D} (h : Wo (fun ds s1 => Fo (fun a M' => a = .val .non ∧ QA (.val (.cid s1.M.length)) ⟨s1.env, M'⟩) (f (.cid s1.M.length :: (ds ++ dds)) (s1.M ++ [.obj c []]))) X (ma s)) : Wo QA X (mMakeN c f dds ma s) := w_bind (w_mono h fun ds s1 h => by
  show Wo QA X (match f (.cid s1.M.length :: (ds ++ dds)) (s1.M ++ [.obj c []]) with | .ok (.val .non) M' => _ | _ => _)
  cases q : f (.cid s1.M.length :: (ds ++ dds)) (s1.M ++ [.obj c []]) with
  | no => rw [q] at h; exact h
  | er x M' => rw [q] at h; exact h
  | ok a M' => rw [q] at h; obtain ⟨rfl, h⟩ := h; exact h)
theorem w_makeS {c : Nat} {f : Mf} {dds : List D} (h : Wo (fun ds s1 => Fx (fun a M' => a = .val .non ∧ QA (.val (.cid s1.M.length)) ⟨s1.env, M'⟩) (fun x M' => X x ⟨s1.env, M'⟩) (f (.cid s1.M.length :: (ds ++ dds)) (s1.M ++ [.obj c []]))) X (ma s)) : Wo QA X (mMakeS c f dds ma s) := w_bind (w_mono h fun ds s1 h => by
  show Wo QA X (match f (.cid s1.M.length :: (ds ++ dds)) (s1.M ++ [.obj c []]) with | .ok (.val .non) M' => _ | .er x M' => _ | _ => _)
  cases q : f (.cid s1.M.length :: (ds ++ dds)) (s1.M ++ [.obj c []]) with
  | no => rw [q] at h; exact h
  | er x M' => rw [q] at h; exact h
  | ok a M' => rw [q] at h; obtain ⟨rfl, h⟩ := h; exact h)
theorem objAt_of {k c : Nat} {fs : List (Str × D)} (h : s.M[k]? = some (.obj c fs)) : objAt s (.val (.cid k)) = some (k, c, fs) := by unfold objAt; simp only []; rw [h]
end
end Y
namespace Y
open PySem L2 Z
open PyProof.Rows
section
variable {X : Cx}
def rNeD0 : R2 := fun x y H Q => ∃ a b kvs, x = .ref a ∧ y = .ref b ∧ Rd H a (.dK kvs) ∧ Rd H b (.dK []) ∧ Q (.bl (!(kvs.length == 0))) H
theorem op_neD0 (hu : X.A.units < cLine) : OpR X (compareOp .NotEq) rNeD0 := by
  intro pins s σ H x y v u Q I rx ry h
  obtain ⟨a, b, kvs, rfl, rfl, ea, eb, q⟩ := h
  obtain rfl : v = Value.ref a := rx
  obtain rfl : u = Value.ref b := ry
  obtain ⟨_, ya, va, ra, da⟩ := dk_rd I.hok ea
  obtain ⟨_, yb, vb, rb, db⟩ := dk_rd I.hok eb
  have hb : vb.length = 0 := rb.length.symm
  refine PySem.W.keq_ne (knd := mixKind X.prog X.w) (r := true) ya yb da db hu (fun hl => ?_) (fin_bl I q (by rw [hb, ra.length]; simp))
  have : va = [] := List.length_eq_zero_iff.mp (by omega)
  subst this
  exact .nil
variable {o : Expr} {p pos apos mpos : Pos} {td : TE}
end
end Y
namespace Y
open PySem L2 Z
section
variable {K : PySem.W.Frag} {ct : Ct} {H0 : Hp} {W : WX}
def fNeD0 : Stt → AI → AI → Ro AI := fun s a b => match viewD s a with
  | some l => match viewD s b with
    | some [] => .ok (.val (.bl (!(l.length == 0)))) s
    | _ => .no
  | none => .no
theorem j_neD0 : J2 K ct H0 rNeD0 fNeD0 := fun W S s σ H Hs Hs' x y a b Q rel ia ib p => by
  unfold fNeD0 at p
  split at p
  · rename_i l e
    split at p
    · rename_i e2
      obtain ⟨q, kvs, rfl, h1, h2⟩ := viewD_ok rel ia e
      obtain ⟨q', kvs', rfl, g1, g2⟩ := viewD_ok rel ib e2
      have : kvs' = [] := List.length_eq_zero_iff.mp g2.len
      subst this
      exact ⟨q, q', kvs, rfl, rfl, h1, g1, by rw [h2.len]; exact p.val rel (.bl _)⟩
    · exact False.elim p
  · exact False.elim p
def leI (i j : Int) : Bool := decide (i ≤ j)
def mSortVals (mo : Mo AI) : Mo AI := fun s => (mo s).bind fun a s1 => match (viewD s1 a).bind fun l => intsD (l.map Prod.snd) with
  | some is => .ok (.new (.lst ((is.mergeSort leI).map D.int))) s1
  | none => .no
def mMinVals (mo : Mo AI) : Mo AI := fun s => (mo s).bind fun a s1 => match a with
  | .val (.cid k) => match s1.M[k]? with
    | some (.dK l) => match intsD (l.map Prod.snd) with
      | some (i :: is) => .ok (.val (.int (is.foldl min i))) s1
      | _ => .no
    | _ => .no
  | _ => .no
theorem foldl_min : ∀ (is : List Int) (i m : Int), (m ∈ i :: is ∧ ∀ j ∈ i :: is, m ≤ j) → m = is.foldl min i
  | [], i, m, ⟨h1, h2⟩ => by simpa using h1
  | j :: is, i, m, ⟨h1, h2⟩ => by
    refine foldl_min is (min i j) m ⟨?_, fun k hk => ?_⟩
    · have a := h2 i (by simp)
      have b := h2 j (by simp)
      rcases List.mem_cons.mp h1 with rfl | h1
      · exact List.mem_cons.mpr (.inl (by omega))
      · rcases List.mem_cons.mp h1 with rfl | h1
        · exact List.mem_cons.mpr (.inl (by omega))
        · exact List.mem_cons.mpr (.inr h1)
    · rcases List.mem_cons.mp hk with rfl | hk
      · have a := h2 i (by simp)
        have b := h2 j (by simp)
        omega
      · exact h2 k (by simp [hk])
theorem ei_minVals {td : TE} {mo : Mo AI} (ho : Ei K ct H0 W td mo) : Ei K ct H0 W (tMinVals td) (mMinVals mo) := fun S s σ H Q rel p =>
  ho S s σ H _ rel (Pst.bind bI p fun S1 s1 H1 x a st1 rel1 i1 p1 => by
    split at p1
    · rename_i k
      split at p1
      · rename_i l e
        split at p1
        · rename_i i is e2
          have i1' : Rp K S1.G S1.α s1.M.length x (.cid k) := i1
          cases i1'
          obtain ⟨vs, h1, h3, h2⟩ := (rel1.ids k _ e).2
          refine ⟨_, vs, i :: is, rfl, h1, ints_rp h2 e2, (by simp), fun m hm hj => ?_⟩
          rw [foldl_min is i m ⟨hm, hj⟩]
          exact p1.val rel1 (.int _)
        · exact False.elim p1
      · exact False.elim p1
    · exact False.elim p1)
def mAsgTB (n : Nat) (g : Tgs) (f : Mf) (m : Mo (List AI)) : Ms := fun s => (m s).toS fun as s1 => match snap s1 as with
  | some ds => if D.noIdL ds = true then (match f ds [] with
    | .ok (.val d) _ => (match tupOf d with
      | some l => if l.length = n ∧ l.all D.scal = true then (match g l s1 with | some s2 => .nx s2 | none => .no) else .no
      | none => .no)
    | _ => .no) else .no
  | none => .no
variable {s : Stt} {QA : AI → Stt → Prop} {X : Exn → Stt → Prop} {N : Stt → Prop} {O : Rs → Prop}
theorem w_neD0 {a b : AI} {l : List (Key × D)} (e : viewD s a = some l) (e2 : viewD s b = some []) (h : QA (.val (.bl (!(l.length == 0)))) s) : Wo QA X (fNeD0 s a b) := by
  unfold fNeD0; rw [e]; simp only []; rw [e2]; exact h
theorem w_sortVals {m : Mo AI} (h : Wo (fun a s1 => ∃ l is, viewD s1 a = some l ∧ intsD (l.map Prod.snd) = some is ∧ QA (.new (.lst ((is.mergeSort leI).map D.int))) s1) X (m s)) : Wo QA X (mSortVals m s) := w_bind (w_mono h fun a s1 ⟨l, is, e1, e2, h⟩ => by
  show Wo QA X (match (viewD s1 a).bind fun l => intsD (l.map Prod.snd) with | some is => _ | none => _)
  rw [e1, Option.bind_some, e2]; exact h)
theorem w_minVals {m : Mo AI} (h : Wo (fun a s1 => ∃ k l i is, a = .val (.cid k) ∧ s1.M[k]? = some (.dK l) ∧ intsD (l.map Prod.snd) = some (i :: is) ∧ QA (.val (.int (is.foldl min i))) s1) X (m s)) : Wo QA X (mMinVals m s) := w_bind (w_mono h fun a s1 ⟨k, l, i, is, e1, e2, e3, h⟩ => by
  subst e1
  show Wo QA X (match s1.M[k]? with | some (.dK l) => _ | _ => _)
  rw [e2]; simp only []; rw [e3]; exact h)
theorem w_asgTB {n : Nat} {g : Tgs} {f : Mf} {m : Mo (List AI)} (h : Wo (fun as s1 => ∃ ds d M' l s2, snap s1 as = some ds ∧ D.noIdL ds = true ∧ f ds [] = .ok (.val d) M' ∧ tupOf d = some l ∧ l.length = n ∧ l.all D.scal = true ∧ g l s1 = some s2 ∧ N s2) (fun x s => O (.er x s)) (m s)) : Ws N O (mAsgTB n g f m s) := w_toS (w_mono h fun as s1 ⟨ds, d, M', l, s2, e1, e2, e3, e4, e5, e6, e7, h⟩ => by
  show Ws N O (match snap s1 as with | some ds => _ | none => _)
  rw [e1]; simp only []; rw [if_pos e2, e3]; simp only []; rw [e4]; simp only []; rw [if_pos ⟨e5, e6⟩, e7]; exact h)
theorem w_get2 {m1 m2 m3 : Mo AI} (h : Wo (fun a s1 => (∃ l, viewD s1 a = some l) ∧ Wo (fun i s2 => Wo (fun x s3 => ∃ l k, viewD s3 a = some l ∧ keyOf i = some k ∧ QA (.val ((vl l k).getD x)) s3) X (mV m3 s2)) X (mV m2 s1)) X (m1 s)) : Wo QA X (mGet2 m1 m2 m3 s) := w_bind (w_mono h fun a s1 ⟨⟨l, e⟩, h⟩ => by
  show Wo QA X (match viewD s1 a with | some _ => _ | none => _)
  rw [e]
  exact w_bind (w_mono h fun i s2 h => w_bind (w_mono h fun x s3 ⟨l', k, e1, e2, h⟩ => by
    unfold fGet; rw [e1]; simp only []; rw [e2]; exact h)))
end
theorem z_b0 {b : Bool} {A C : Prop} (h : b = false) (k : C) : if b = true then A else C := by rw [h]; exact k
theorem z_b1 {b : Bool} {A C : Prop} (h : b = true) (k : A) : if b = true then A else C := by rw [h]; exact k
end Y
namespace Y
open PySem L2 Z
section
variable {X : Cx}
def tFrz (t : TE) : TE := fun σ H Q => t σ H fun v H1 => ∃ d u, v = .ref d ∧ H1 d = some u ∧ Mut (some u) ∧ ∀ od, Q v (upd H1 d (.frz od u))
theorem pe_frz {e : Expr} {t : TE} (h : PE X e t) : PE X e (tFrz t) := ⟨fun pins s σ H Q I q =>
  thn (h.run pins s σ H _ I q) fun v s1 ⟨x, H1, I1, r, d, u, ex, hd, mu, q⟩ => by
    obtain ⟨od, I2⟩ := I1.lock hd mu
    exact ⟨x, _, I2, r, q od⟩⟩
end
section
variable {K : PySem.W.Frag} {ct : Ct} {H0 : Hp} {W : WX}
def mWN (m : Mo AI) : Mo Im := fun s => match m s with
  | .ok (.new (.dK l)) s1 => .ok ⟨dIt .keys l, none⟩ s1
  | .er x s1 => .er x s1
  | _ => .no
theorem jw_newK {te : TE} {m : Mo AI} (h : Ei K ct H0 W te m) : Jw K ct H0 W (iKeys (tFrz te)) (mWN m) := fun S s σ H Q rel p => by
  unfold mWN at p
  refine h S s σ H _ rel ?_
  generalize m s = R at p
  split at p
  · rename_i l s1
    intro S1 v H1 st1 rel1 it
    obtain ⟨d, rfl, h1, h2, h3, h4, kvs, h5, h6, h7⟩ := it
    refine ⟨d, _, rfl, h5, trivial, fun od => ⟨d, od, rfl, .inl ⟨kvs, upd_same, ?_⟩⟩⟩
    have st2 : Stp S s.M.length H S1 s1.M.length (upd H1 d (.frz od (.dK kvs))) := ⟨st1.g, st1.le, st1.al, fun a o e l => by
      obtain ⟨k1, k2⟩ := st1.fr a o e l
      exact ⟨by rw [upd_ne (ne_of_none e h1)]; exact k1, k2⟩, st1.gn, fun a e => st1.dom a (upd_none.mp e).2⟩
    exact p S1 _ _ st2 (rel1.updU h2 h3) (wk_d (kd := .keys) upd_same h2 (RpK.of h6 h7))
  · exact p
  · exact False.elim p
variable {s : Stt} {QI : Im → Stt → Prop} {X : Exn → Stt → Prop}
theorem w_wn {m : Mo AI} (h : Wo (fun a s1 => ∃ l, a = .new (.dK l) ∧ QI ⟨dIt .keys l, none⟩ s1) X (m s)) : Wo QI X (mWN m s) := by
  unfold mWN
  cases q : m s with
  | no => rw [q] at h; exact h
  | er x s1 => rw [q] at h; exact h
  | ok a s1 => rw [q] at h; obtain ⟨l, rfl, h⟩ := h; exact h
end
end Y
namespace Y
open PySem L2 Z
open PySem.W
section
variable {s : Stt} {QA : AI → Stt → Prop} {X : Exn → Stt → Prop} {N : Stt → Prop} {O : Rs → Prop}
theorem ixN_nn {n : Nat} {i : Int} (h0 : 0 ≤ i) (h1 : i < n) : ixN n i = some i.toNat := by unfold ixN; rw [if_pos h0, if_pos h1]
theorem so_setLst {a : AI} {i : Int} {d : D} {l : List D} {j : Nat} (e : getC s a = some (.lst l)) (e2 : ixN l.length i = some j) (h : N (setC s a (.lst (l.set j d)))) : So N (setIt a (.int i) d s) := by
  unfold setIt; rw [e]; simp only []; rw [e2]; exact h
theorem so_setI {a : AI} {i d : Int} {ns : List Int} (e : getC s a = some (.lst (ns.map D.int))) (h0 : 0 ≤ i) (h1 : i < ns.length) (h : N (setC s a (.lst ((ns.set i.toNat d).map D.int)))) : So N (setIt a (.int i) (.int d) s) := by
  refine so_setLst e (ixN_nn h0 (by rw [List.length_map]; exact h1)) ?_
  rw [← List.map_set]; exact h
theorem le_int (i j : Int) : dataLe false pyD (.int i) (.int j) = leI i j := by
  show (!(decide (j < i) || (!decide (i < j) && false))) = decide (i ≤ j)
  by_cases h : j < i
  · have h2 : ¬ i ≤ j := by omega
    have h3 : ¬ i < j := by omega
    simp [h, h2, h3]
  · have h2 : i ≤ j := by omega
    simp [h, h2]
theorem sort_ints (is : List Int) : (is.map D.int).mergeSort (dataLe false pyD) = (is.mergeSort leI).map D.int := (List.map_mergeSort fun i _ j _ => (le_int i j).symm).symm
theorem sortOk_ints (is : List Int) : SortOk (is.map D.int) := by
  refine ⟨fun d hd => ?_, fun d hd d' hd' => ?_, .inr fun d hd => ?_, fun d hd => ?_⟩
  · obtain ⟨i, _, rfl⟩ := List.mem_map.mp hd; rfl
  · rw [List.map_map] at hd hd'
    obtain ⟨i, _, rfl⟩ := List.mem_map.mp hd
    obtain ⟨j, _, rfl⟩ := List.mem_map.mp hd'; rfl
  · rw [List.map_map] at hd
    obtain ⟨i, _, rfl⟩ := List.mem_map.mp hd
    exact ⟨(fun z => nomatch z), (fun _ z => nomatch z)⟩
  · obtain ⟨i, _, rfl⟩ := List.mem_map.mp hd; show 0 ≤ 40; decide
theorem leI_perm (is : List Int) : (is.mergeSort leI).Perm is := List.mergeSort_perm ..
end
end Y
namespace Y
open PySem L2 Z
open PySem.W
section
variable {s : Stt} {QA : AI → Stt → Prop} {QI : Im → Stt → Prop} {X : Exn → Stt → Prop} {N : Stt → Prop} {O : Rs → Prop}
theorem w_wz {r : Mo (List D)} (h : Wo (fun ds s1 => ∃ l l', ds = [.lst l, .lst l'] ∧ QI ⟨zipL l l', none⟩ s1) X (r s)) : Wo QI X (mWZ r s) :=
  w_bind (w_mono h fun ds s1 h => by
    obtain ⟨l, l', rfl, h⟩ := h
    exact h)
theorem w_wzI {l l' : List D} {P : List D → List D → Prop} (h : P l l') : ∃ m m', [D.lst l, D.lst l'] = [.lst m, .lst m'] ∧ P m m' := ⟨l, l', rfl, h⟩
theorem ib_le {x : Int} {m : Nat} (h : x.natAbs < 2 ^ m) : Builtin.Int.intBits x ≤ m := by
  unfold Builtin.Int.intBits
  by_cases h0 : x = 0
  · subst h0; simp
  · rw [if_neg (by simpa using h0)]
    have := (Nat.log2_lt (by omega)).mpr h
    omega
theorem cshl_1 {j : Int} (h0 : 0 ≤ j) (h1 : j ≤ 100000) : CShl 1 j := by
  have := ib_le (x := 1) (m := 1) (by decide)
  exact ⟨by omega, by omega⟩
theorem sh2 {x : Str} {d : PyData} (hx : PySem.PyData.strOk x = true) (hd : d = .none ∨ ∃ i, d = .int i) : SeqAt.shaped (.tuple [.str x, d]) = true := by
  unfold SeqAt.shaped
  rcases hd with rfl | ⟨i, rfl⟩
  · show ((PySem.PyData.strOk x && true) && _) = true
    rw [hx]; rfl
  · show ((PySem.PyData.strOk x && true) && _) = true
    rw [hx]; rfl
end
end Y
namespace Y
open PySem L2 Z
open PySem.W
end Y
namespace Y
open PySem L2 Z
section
variable {K : PySem.W.Frag} {ct : Ct} {H0 : Hp} {W : WX} {S : Sh} {s : Stt} {σ : St} {H : Hp}
/-- o[i] op= e, a list of ints -/
def mAugS (f : Int → Int → Int) (mo mi mv : Mo AI) : Ms := fun s => (mo s).toS fun a s1 => (mV mi s1).toS fun i s2 => match i with
  | .int k => (match (viewL s2 a).bind fun l => l[k.toNat]? with
    | some (.int x) => if 0 ≤ k then ((mv s2).toS fun b s3 => match b with
      | .val (.int y) => match setIt a (.int k) (.int (f x y)) s3 with
        | some s4 => .nx s4
        | none => .no
      | _ => .no) else .no
    | _ => .no)
  | _ => .no
end
section
variable {s : Stt} {QA : AI → Stt → Prop} {X : Exn → Stt → Prop} {N : Stt → Prop} {O : Rs → Prop}
theorem w_augS {f : Int → Int → Int} {mo mi mv : Mo AI} (h : Wo (fun a s1 => Wo (fun i s2 => ∃ (k x : Int) (l : List D), i = .int k ∧ viewL s2 a = some l ∧ l[k.toNat]? = some (.int x) ∧ 0 ≤ k ∧ Wo (fun b s3 => ∃ y, b = .val (.int y) ∧ So N (setIt a (.int k) (.int (f x y)) s3)) (fun x s => O (.er x s)) (mv s2)) (fun x s => O (.er x s)) (mV mi s1)) (fun x s => O (.er x s)) (mo s)) : Ws N O (mAugS f mo mi mv s) :=
  w_toS (w_mono h fun a s1 h => w_toS (w_mono h fun i s2 h => by
    obtain ⟨k, x, l, rfl, h1, h2, h3, h⟩ := h
    show Ws N O (match (viewL s2 a).bind fun l => l[k.toNat]? with
    | some (.int x) => if 0 ≤ k then ((mv s2).toS fun b s3 => match b with
      | .val (.int y) => match setIt a (.int k) (.int (f x y)) s3 with
        | some s4 => .nx s4
        | none => .no
      | _ => .no) else .no
    | _ => .no)
    rw [h1, Option.bind_some, h2]
    show Ws N O (if 0 ≤ k then _ else _)
    rw [if_pos h3]
    refine w_toS (w_mono h fun b s3 h => ?_)
    obtain ⟨y, rfl, h⟩ := h
    show Ws N O (match setIt a (.int k) (.int (f x y)) s3 with | some s4 => .nx s4 | none => .no)
    cases q : setIt a (.int k) (.int (f x y)) s3 <;> rw [q] at h <;> exact h))
end
end Y
namespace Y
open PySem L2 Z
section
variable {K : PySem.W.Frag} {ct : Ct} {H0 : Hp} {W : WX} {S : Sh} {s : Stt} {σ : St} {H : Hp}
def keysD : List D → Option (List Key)
  | [] => some []
  | d :: l => (keyOf d).bind fun k => (keysD l).map (k :: ·)
def tkey : D → Option (List Key)
  | .tup l => keysD l
  | _ => none
/-- o[i] = d -/
def setItT (a : AI) (i d : D) (s : Stt) : Option Stt := match getC s a with
  | some (.dT l) => (tkey i).bind fun k => if l.length < sizeLine then some (setC s a (.dT (pu l k d))) else none
  | _ => none
def mAsgST (mo mi : Mo AI) (mv : Mo AI) : Ms := fun s => (mV mv s).toS fun d s1 => (mo s1).toS fun a s2 => (mV mi s2).toS fun i s3 => match setItT a i d s3 with
  | some s4 => .nx s4
  | none => .no
def mDNewT : Mo AI := fun s => .ok (.new (.dT [])) s
/-- d.get(k), d.get(k, x) -/
def fGetT (s : Stt) (a : AI) (i x : D) : Ro AI := match viewDT s a with
  | some l => match tkey i with
    | some k => .ok (.val ((vl l k).getD x)) s
    | none => .no
  | none => .no
def mGet2T (mo mi mx : Mo AI) : Mo AI := fun s => (mo s).bind fun a s1 => match viewDT s1 a with
  | some _ => (mV mi s1).bind fun i s2 => (mV mx s2).bind fun x s3 => fGetT s3 a i x
  | none => .no
def mGet1T (mo mi : Mo AI) : Mo AI := fun s => (mo s).bind fun a s1 => match viewDT s1 a with
  | some _ => (mV mi s1).bind fun i s2 => fGetT s2 a i .non
  | none => .no
/-- d.get(k) of a dict with plain keys -/
def mGet1 (mo mi : Mo AI) : Mo AI := fun s => (mo s).bind fun a s1 => match viewD s1 a with
  | some _ => (mV mi s1).bind fun i s2 => fGet s2 a i .non
  | none => .no
end
section
variable {s : Stt} {X : Exn → Stt → Prop} {QA : AI → Stt → Prop} {N : Stt → Prop} {O : Rs → Prop} {m1 m2 m3 : Mo AI}
theorem w_dnewT (h : QA (.new (.dT [])) s) : Wo QA X (mDNewT s) := h
theorem w_asgST (h : Wo (fun d s1 => Wo (fun a s2 => Wo (fun i s3 => So N (setItT a i d s3)) (fun x s => O (.er x s)) (mV m2 s2)) (fun x s => O (.er x s)) (m1 s1)) (fun x s => O (.er x s)) (mV m3 s)) : Ws N O (mAsgST m1 m2 m3 s) :=
  w_toS (w_mono h fun d s1 h => w_toS (w_mono h fun a s2 h => w_toS (w_mono h fun i s3 h => by
    show Ws N O (match setItT a i d s3 with | some s4 => _ | none => _)
    cases e : setItT a i d s3 with
    | none => rw [e] at h; exact h.elim
    | some s4 => rw [e] at h; exact h)))
theorem w_get2T (h : Wo (fun a s1 => (∃ l, viewDT s1 a = some l) ∧ Wo (fun i s2 => Wo (fun x s3 => ∃ l k, viewDT s3 a = some l ∧ tkey i = some k ∧ QA (.val ((vl l k).getD x)) s3) X (mV m3 s2)) X (mV m2 s1)) X (m1 s)) : Wo QA X (mGet2T m1 m2 m3 s) := w_bind (w_mono h fun a s1 ⟨⟨l, e⟩, h⟩ => by
  show Wo QA X (match viewDT s1 a with | some _ => _ | none => _)
  rw [e]
  exact w_bind (w_mono h fun i s2 h => w_bind (w_mono h fun x s3 ⟨l', k, e1, e2, h⟩ => by
    unfold fGetT; rw [e1]; simp only []; rw [e2]; exact h)))
theorem w_get1T (h : Wo (fun a s1 => (∃ l, viewDT s1 a = some l) ∧ Wo (fun i s2 => ∃ l k, viewDT s2 a = some l ∧ tkey i = some k ∧ QA (.val ((vl l k).getD .non)) s2) X (mV m2 s1)) X (m1 s)) : Wo QA X (mGet1T m1 m2 s) := w_bind (w_mono h fun a s1 ⟨⟨l, e⟩, h⟩ => by
  show Wo QA X (match viewDT s1 a with | some _ => _ | none => _)
  rw [e]
  exact w_bind (w_mono h fun i s2 ⟨l', k, e1, e2, h⟩ => by
    show Wo QA X (fGetT s2 a i .non)
    unfold fGetT; rw [e1]; simp only []; rw [e2]; exact h))
theorem w_get1 (h : Wo (fun a s1 => (∃ l, viewD s1 a = some l) ∧ Wo (fun i s2 => ∃ l k, viewD s2 a = some l ∧ keyOf i = some k ∧ QA (.val ((vl l k).getD .non)) s2) X (mV m2 s1)) X (m1 s)) : Wo QA X (mGet1 m1 m2 s) := w_bind (w_mono h fun a s1 ⟨⟨l, e⟩, h⟩ => by
  show Wo QA X (match viewD s1 a with | some _ => _ | none => _)
  rw [e]
  exact w_bind (w_mono h fun i s2 ⟨l', k, e1, e2, h⟩ => by
    show Wo QA X (fGet s2 a i .non)
    unfold fGet; rw [e1]; simp only []; rw [e2]; exact h))
end
end Y
namespace Y
open PySem L2 Z
def mapO {α β : Type} (g : α → Option β) : List α → Option (List β)
  | [] => some []
  | d :: l => (g d).bind fun d' => (mapO g l).map (d' :: ·)
/-- what stands behind ids, as data -/
def rsv : Nat → List Cn → D → Option D
  | 0, _, _ => none
  | f + 1, M, .cid k => match M[k]? with
    | some (.lst l) => (mapO (rsv f M) l).map .lst
    | some (.dK l) => (mapO (rsv f M) (l.map Prod.snd)).map fun vs => .dK ((l.map Prod.fst).zip vs)
    | some (.dT l) => (mapO (rsv f M) (l.map Prod.snd)).map fun vs => .dT ((l.map Prod.fst).zip vs)
    | _ => none
  | f + 1, M, .tup l => (mapO (rsv f M) l).map .tup
  | f + 1, M, .ctp l => (mapO (rsv f M) l).map .ctp
  | f + 1, M, .lst l => (mapO (rsv f M) l).map .lst
  | f + 1, M, .clst l => (mapO (rsv f M) l).map .clst
  | f + 1, M, .dK l => (mapO (rsv f M) (l.map Prod.snd)).map fun vs => .dK ((l.map Prod.fst).zip vs)
  | f + 1, M, .dT l => (mapO (rsv f M) (l.map Prod.snd)).map fun vs => .dT ((l.map Prod.fst).zip vs)
  | _ + 1, _, .non => some .non
  | _ + 1, _, .bl b => some (.bl b)
  | _ + 1, _, .int i => some (.int i)
  | _ + 1, _, .str x => some (.str x)
  | _ + 1, _, .ty n => some (.ty n)
section
variable {K : PySem.W.Frag} {ct : Ct} {H0 : Hp} {W : WX} {S : Sh} {s : Stt} {σ : St} {H : Hp}
def pureR (r : Fr) (s : Stt) : Ro AI := match r with
  | .ok (.val d) M' => match rsv 9 M' d with
    | some d' => .ok (.val d') s
    | none => .no
  | .ok (.new (.lst l)) M' => match mapO (rsv 9 M') l with
    | some l' => .ok (.new (.lst l')) s
    | none => .no
  | .er x M' => match mapO (rsv 9 M') (x.fs.map Prod.snd) with
    | some vs => .er ⟨x.cls, (x.fs.map Prod.fst).zip vs⟩ s
    | none => .no
  | _ => .no
def mCallP (f : Mf) (m : Mo (List D)) : Mo AI := fun s => (m s).bind fun ds s1 => if D.noIdL ds = true then (match f ds [] with
  | .er _ _ => .no
  | r => pureR r s1) else .no
def mCallPS (f : Mf) (m : Mo (List D)) : Mo AI := fun s => (m s).bind fun ds s1 => if D.noIdL ds = true then pureR (f ds []) s1 else .no
end
/-- what a pure call tells -/
def Pf (P : AI → Prop) (E : Exn → Prop) : Fr → Prop
  | .ok (.val d) M' => ∃ d', rsv 9 M' d = some d' ∧ P (.val d')
  | .ok (.new (.lst l)) M' => ∃ l', mapO (rsv 9 M') l = some l' ∧ P (.new (.lst l'))
  | .er x M' => ∃ vs, mapO (rsv 9 M') (x.fs.map Prod.snd) = some vs ∧ E ⟨x.cls, (x.fs.map Prod.fst).zip vs⟩
  | _ => False
section
variable {s : Stt} {X : Exn → Stt → Prop} {QA : AI → Stt → Prop} {f : Mf} {ma : Mo (List D)}
theorem w_pureR {r : Fr} (h : Pf (fun a => QA a s) (fun x => X x s) r) : Wo QA X (pureR r s) := by
  unfold pureR
  cases r with
  | no => exact h.elim
  | er x M' => obtain ⟨vs, e, h⟩ := h; simp only []; rw [e]; exact h
  | ok a M' =>
    cases a with
    | val d => obtain ⟨vs, e, h⟩ := h; simp only []; rw [e]; exact h
    | slot j => exact h.elim
    | new c =>
      cases c with
      | lst l => obtain ⟨vs, e, h⟩ := h; simp only []; rw [e]; exact h
      | _ => exact h.elim
theorem w_callP (h : Wo (fun ds s1 => D.noIdL ds = true ∧ Pf (fun a => QA a s1) (fun _ => False) (f ds [])) X (ma s)) : Wo QA X (mCallP f ma s) := w_bind (w_mono h fun ds s1 ⟨e, h⟩ => by
  show Wo QA X (if D.noIdL ds = true then _ else _)
  rw [if_pos e]
  generalize f ds [] = r at h ⊢
  cases r with
  | no => exact h.elim
  | er x M' => obtain ⟨_, _, h⟩ := h; exact h.elim
  | ok a M' => exact w_pureR (show Pf (fun a => QA a s1) (fun x => X x s1) (.ok a M') from by
      cases a with
      | val d => exact h
      | slot j => exact h.elim
      | new c =>
        cases c with
        | lst l => exact h
        | _ => exact h.elim))
theorem w_callPS (h : Wo (fun ds s1 => D.noIdL ds = true ∧ Pf (fun a => QA a s1) (fun x => X x s1) (f ds [])) X (ma s)) : Wo QA X (mCallPS f ma s) := w_bind (w_mono h fun ds s1 ⟨e, h⟩ => by
  show Wo QA X (if D.noIdL ds = true then _ else _)
  rw [if_pos e]
  exact w_pureR h)
end
end Y
namespace Y
open PySem L2 Z
theorem viewL_cid {s : Stt} {k : Nat} {l : List D} (h : s.M[k]? = some (.lst l)) : viewL s (.val (.cid k)) = some l := by
  show s.M[k]?.bind Cn.aL = some l; rw [h]; rfl
theorem lenD_cid {M : List Cn} {k : Nat} {l : List D} (h : M[k]? = some (.lst l)) : lenD M (.cid k) = some l.length := by
  show M[k]?.bind _ = _; rw [h]; rfl
theorem w_lenC {QA : AI → Stt → Prop} {X : Exn → Stt → Prop} {env : List (Option Ent)} {M : List Cn} {k : Nat} {l : List D} (h : M[k]? = some (.lst l)) (q : QA (.val (.int (l.length : Int))) ⟨env, M⟩) : Wo QA X (fLen ⟨env, M⟩ [.val (.cid k)]) := w_len (d := .cid k) rfl (lenD_cid h) q
section
variable {K : PySem.W.Frag} {ct : Ct} {H0 : Hp} {W : WX}
def fSlT (s : Stt) (a : AI) (lo hi : Option Int) : Ro AI := match viewT s a with
  | some l => if HT.sIx l.length 0 lo = 0 ∧ HT.sIx l.length l.length hi = l.length then .no else .ok (.val (.tup (cutL l lo hi))) s
  | none => .no
def mSlT (m : Mo AI) (ml mh : Mo (Option Int)) : Mo AI := fun s => (m s).bind fun a s1 => (ml s1).bind fun l s2 => (mh s2).bind fun h s3 => fSlT s3 a l h
variable {s : Stt} {X : Exn → Stt → Prop} {QA : AI → Stt → Prop} {m : Mo AI}
theorem w_slTp {ml mh : Mo (Option Int)} (h : Wo (fun a s1 => Wo (fun l s2 => Wo (fun u s3 => Wo QA X (fSlT s3 a l u)) X (mh s2)) X (ml s1)) X (m s)) : Wo QA X (mSlT m ml mh s) := w_bind (w_mono h fun _ _ h => w_bind (w_mono h fun _ _ h => w_bind h))
theorem w_slTu {a : AI} {l : List D} {lo hi : Option Int} (e : viewT s a = some l) (c : ¬ (HT.sIx l.length 0 lo = 0 ∧ HT.sIx l.length l.length hi = l.length)) (h : QA (.val (.tup (cutL l lo hi))) s) : Wo QA X (fSlT s a lo hi) := by
  unfold fSlT; rw [e]; simp only []; rw [if_neg c]; exact h
end
end Y
namespace Y
open PySem L2 Z
def Lay (k : Nat) (x : PyData) : Prop := x.canLay0 = true ∧ x.depth ≤ k
theorem Lay.mono {k m : Nat} {x : PyData} (h : Lay k x) (hk : k ≤ m) : Lay m x := ⟨h.1, Nat.le_trans h.2 hk⟩
theorem Lay.shaped {k : Nat} {x : PyData} (h : Lay k x) (hk : k ≤ 64) : SeqAt.shaped x = true := by
  unfold SeqAt.shaped
  rw [h.1, decide_eq_true (Nat.le_trans h.2 hk)]; rfl
end Y
namespace Y
open PySem L2 Z
section
variable {N : Stt → Prop} {O : Rs → Prop} {s : Stt} {a b : Ms}
theorem noid_and {ds : List D} {P : Prop} (h : D.noIdL ds = true) (p : P) : D.noIdL ds = true ∧ P := ⟨h, p⟩
end
end Y
namespace Y
open PySem L2 Z
section
variable {K : PySem.W.Frag} {ct : Ct} {H0 : Hp} {W : WX} {S : Sh} {s : Stt} {σ : St} {H : Hp}
def vConsK (m : Mo AI) (r : Mo (List D)) : Mo (List D) := fun s => (mK m s).bind fun a s1 => (r s1).bind fun as s2 => .ok (a :: as) s2
end
mutual
def shD (n : Nat) : D → D
  | .tup l => .tup (shL n l)
  | .ctp l => .ctp (shL n l)
  | .lst l => .lst (shL n l)
  | .clst l => .clst (shL n l)
  | .dK l => .dK (shK n l)
  | .dT l => .dT (shT n l)
  | .cid k => .cid (n + k)
  | d => d
def shL (n : Nat) : List D → List D
  | [] => []
  | d :: l => shD n d :: shL n l
def shK (n : Nat) : List (Key × D) → List (Key × D)
  | [] => []
  | (k, d) :: l => (k, shD n d) :: shK n l
def shT (n : Nat) : List (List Key × D) → List (List Key × D)
  | [] => []
  | (k, d) :: l => (k, shD n d) :: shT n l
end
def shF (n : Nat) : List (Str × D) → List (Str × D)
  | [] => []
  | (k, d) :: l => (k, shD n d) :: shF n l
def shC (n : Nat) : Cn → Cn
  | .lst l => .lst (shL n l)
  | .dK l => .dK (shK n l)
  | .dT l => .dT (shT n l)
  | .obj c fs => .obj c (shF n fs)
section
variable {K : PySem.W.Frag} {ct : Ct} {H0 : Hp} {W : WX} {S : Sh} {s : Stt} {σ : St} {H : Hp} {G : Hp} {α β : Nat → Addr} {n n' : Nat}
def Sh.join (S S' : Sh) (n : Nat) : Sh := ⟨S'.G, fun k => if k < n then S.α k else S'.α (k - n), fun a => match S.lab a with
  | some l => some l
  | none => match S'.lab a with
    | some (.id k) => some (.id (n + k))
    | _ => none⟩
def takeR (r : Fr) (s : Stt) : Ro AI := match r with
  | .ok (.val d) M' => .ok (.val (shD s.M.length d)) ⟨s.env, s.M ++ M'.map (shC s.M.length)⟩
  | .ok (.new c) M' => .ok (.new (shC s.M.length c)) ⟨s.env, s.M ++ M'.map (shC s.M.length)⟩
  | .er x M' => .er ⟨x.cls, shF s.M.length x.fs⟩ ⟨s.env, s.M ++ M'.map (shC s.M.length)⟩
  | _ => .no
def mCallT (f : Mf) (m : Mo (List D)) : Mo AI := fun s => (m s).bind fun ds s1 => if D.noIdL ds = true then (match f ds [] with
  | .er _ _ => .no
  | r => takeR r s1) else .no
def mCallTS (f : Mf) (m : Mo (List D)) : Mo AI := fun s => (m s).bind fun ds s1 => if D.noIdL ds = true then takeR (f ds []) s1 else .no
end
/-- what a call tells whose cells are taken over -/
def Tf (n : Nat) (P : AI → List Cn → Prop) (E : Exn → List Cn → Prop) : Fr → Prop
  | .ok (.val d) M' => P (.val (shD n d)) (M'.map (shC n))
  | .ok (.new c) M' => P (.new (shC n c)) (M'.map (shC n))
  | .er x M' => E ⟨x.cls, shF n x.fs⟩ (M'.map (shC n))
  | _ => False
section
variable {s : Stt} {X : Exn → Stt → Prop} {QA : AI → Stt → Prop} {QV : List D → Stt → Prop} {f : Mf} {ma : Mo (List D)} {m : Mo AI} {r : Mo (List D)}
theorem w_vConsK (h : Wo (fun a s1 => Wo (fun as s2 => QV (a :: as) s2) X (r s1)) X (mK m s)) : Wo QV X (vConsK m r s) := w_bind (w_mono h fun _ _ h => w_bind (w_mono h fun _ _ h => h))
theorem w_takeR {r : Fr} (h : Tf s.M.length (fun a M' => QA a ⟨s.env, s.M ++ M'⟩) (fun x M' => X x ⟨s.env, s.M ++ M'⟩) r) : Wo QA X (takeR r s) := by
  unfold takeR
  cases r with
  | no => exact h.elim
  | er x M' => exact h
  | ok a M' =>
    cases a with
    | val d => exact h
    | slot j => exact h.elim
    | new c => exact h
theorem w_callT (h : Wo (fun ds s1 => D.noIdL ds = true ∧ Tf s1.M.length (fun a M' => QA a ⟨s1.env, s1.M ++ M'⟩) (fun _ _ => False) (f ds [])) X (ma s)) : Wo QA X (mCallT f ma s) := w_bind (w_mono h fun ds s1 ⟨e, h⟩ => by
  show Wo QA X (if D.noIdL ds = true then _ else _)
  rw [if_pos e]
  generalize f ds [] = r at h ⊢
  cases r with
  | no => exact h.elim
  | er x M' => exact h.elim
  | ok a M' => exact w_takeR (show Tf s1.M.length (fun a M' => QA a ⟨s1.env, s1.M ++ M'⟩) (fun x M' => X x ⟨s1.env, s1.M ++ M'⟩) (.ok a M') from by
      cases a with
      | val d => exact h
      | slot j => exact h.elim
      | new c => exact h))
theorem w_callTS (h : Wo (fun ds s1 => D.noIdL ds = true ∧ Tf s1.M.length (fun a M' => QA a ⟨s1.env, s1.M ++ M'⟩) (fun x M' => X x ⟨s1.env, s1.M ++ M'⟩) (f ds [])) X (ma s)) : Wo QA X (mCallTS f ma s) := w_bind (w_mono h fun ds s1 ⟨e, h⟩ => by
  show Wo QA X (if D.noIdL ds = true then _ else _)
  rw [if_pos e]
  exact w_takeR h)
end
end Y
namespace Y
open PySem L2 Z
end Y
namespace Y
open PySem L2 Z
end Y
namespace Y
open PySem L2 Z
theorem w_mI {s : Stt} {X : Exn → Stt → Prop} {QA : AI → Stt → Prop} {m : Mo D} (h : Wo (fun d s1 => QA (.val d) s1) X (m s)) : Wo QA X (mI m s) := w_bind (w_mono h fun _ _ h => h)
end Y
namespace Y
open PySem L2 Z
section
variable {K : PySem.W.Frag} {ct : Ct} {H0 : Hp} {W : WX}
theorem sv_forAt {js : List Nat} {wi : TI} {g : TG} {tb : TS} {mi : Mo Im} {f : Tg} {b : Ms} {S : Sh} {s : Stt} {σ : St} {H : Hp} {Dn : Ends} (hi : ∀ R, Pst K ct H0 (RW K ct H0) W S s σ H R (mi s) → wi σ H R) (hg : Sg K ct H0 js g f) (hb : Sv K ct H0 W tb b) (rel : Rel K ct H0 S s σ H) (p : PstS K ct H0 W S s H Dn (mFor mi f b s)) : tFor wi g tb Dn σ H :=
  hi _ (PstS.bind p fun S1 s1 H1 J im st1 rel1 wk p1 => by
    have p1 := PstS.from p1 st1
    generalize hR : forN f b im.ck im.xs s1 = R at p1
    refine ⟨fun i m σ' H' => m = im.xs.length - i ∧ ∃ S' s', Stp S1 s1.M.length H1 S' s'.M.length H' ∧ Rel K ct H0 S' s' σ' H' ∧ i ≤ im.xs.length ∧ forN f b im.ck (im.xs.drop i) s' = R, ⟨im.xs.length, rfl, S1, s1, .refl, rel1, Nat.zero_le _, hR⟩, ?_⟩
    rintro i m σ' H' ⟨rfl, S', s', st', rel', hi', hr⟩
    have nno : R ≠ .no := fun z => by rw [z] at p1; exact p1
    by_cases hlt : i < im.xs.length
    · have e := List.drop_eq_getElem_cons hlt
      rw [e] at hr
      have hx : im.xs[i]? = some im.xs[i] := List.getElem?_eq_getElem hlt
      generalize im.xs[i] = d at e hr hx
      unfold forN at hr
      have hc : chk im.ck s' := Classical.byContradiction fun z => by rw [if_neg z] at hr; exact nno hr.symm
      rw [if_pos hc] at hr
      obtain ⟨go, yl⟩ := (wk S' s' σ' H' st' rel' hc).1 i d hx
      refine .inr ⟨go, fun σ2 H2 => ∃ S2 s2, Stp S1 s1.M.length H1 S2 s2.M.length H2 ∧ Rel K ct H0 S2 s2 σ2 H2 ∧ forN f b im.ck (im.xs.drop (i + 1)) s2 = R, ?_, ?_⟩
      · rintro σ2 H2 ⟨S2, s2, k1, k2, k3⟩
        exact ⟨im.xs.length - (i + 1), by omega, rfl, S2, s2, k1, k2, hlt, k3⟩
      · intro x H2 hy
        obtain ⟨S2, st2, rel2, rp2⟩ := yl x H2 hy
        cases hs : f d s' with
        | none => rw [hs] at hr; exact absurd hr.symm nno
        | some s2 =>
          rw [hs] at hr
          refine hg S2 s' σ' H2 x d s2 _ rel2 rp2 hs fun S3 σ3 st3 rel3 _ _ _ => ?_
          have stt := (st'.trans st2).trans st3
          refine hb S3 s2 σ3 H2 _ rel3 ?_
          have hr : (match b s2 with | .nx s2 => forN f b im.ck (im.xs.drop (i + 1)) s2 | .ct s2 => forN f b im.ck (im.xs.drop (i + 1)) s2 | .bk s2 => .nx s2 | .rt a s2 => .rt a s2 | .er x s2 => .er x s2 | .no => .no) = R := hr
          cases hbs : b s2 with
          | nx s4 => rw [hbs] at hr; exact fun S4 σ4 H4 st4 rel4 => ⟨S4, s4, stt.trans st4, rel4, hr⟩
          | ct s4 => rw [hbs] at hr; exact fun S4 σ4 H4 st4 rel4 => ⟨S4, s4, stt.trans st4, rel4, hr⟩
          | bk s4 => rw [hbs] at hr; subst hr; exact fun S4 σ4 H4 st4 rel4 => p1 S4 σ4 H4 (stt.trans st4) rel4
          | rt a s4 => rw [hbs] at hr; subst hr; exact fun S4 σ4 v H4 st4 rel4 q => p1 S4 σ4 v H4 (stt.trans st4) rel4 q
          | er x s4 => rw [hbs] at hr; subst hr; exact fun S4 σ4 H4 dd st4 rel4 q => p1 S4 σ4 H4 dd (stt.trans st4) rel4 q
          | no => rw [hbs] at hr; exact absurd hr.symm nno
    · have e : im.xs.drop i = [] := List.drop_eq_nil_of_le (by omega)
      rw [e] at hr
      unfold forN at hr
      have hc : chk im.ck s' := Classical.byContradiction fun z => by rw [if_neg z] at hr; exact nno hr.symm
      rw [if_pos hc] at hr
      have ei : i = im.xs.length := by omega
      subst hr
      refine .inl ⟨?_, p1 S' σ' H' st' rel'⟩
      rw [ei]
      exact (wk S' s' σ' H' st' rel' hc).2)
noncomputable def mForD (kd : KD) (i : Nat) (g : Tg) (b : Ms) : Ms := fun s => match entAt s i with
  | some (.fz (.dK l)) => (match forN g b none (dIt kd l) s with
    | .er _ _ => .no
    | r => r)
  | _ => .no
theorem sv_forD {kd : KD} {i : Nat} {js : List Nat} {g : TG} {tb : TS} {f : Tg} {b : Ms} (hlk : ct.lk = none) (hg : ∀ b, Sg K (ct.lkd b) H0 js g f) (hb : ∀ z, Sv K (ct.lkd z) H0 W0 tb b) : Sv K ct H0 W (tLock (tFor (dI kd i) g tb)) (mForD kd i f b) := fun S s σ H Dn rel p => by
  unfold mForD at p
  split at p
  · rename_i l en
    obtain ⟨v, h1, h2⟩ := rel.slot i _ (entAt_eq en)
    cases h2 with
    | @dK d kvs _ k1 k2 k3 =>
      have rk := RpK.of k2 k3
      obtain ⟨hd, _⟩ := rel.lock (od := default) hlk k1
      have hlab : S.lab d = none := by
        cases q : S.lab d with
        | none => rfl
        | some z => rw [(rel.lg d z q).1] at k1; cases k1
      refine ⟨d, _, hd, trivial, fun od => ?_⟩
      have rl := (rel.lock (od := od) hlk k1).2
      refine sv_forAt (K := K) (ct := ct.lkd (some d)) (H0 := H0) (W := W0) (S := S) (s := s) (mi := fun s => .ok ⟨dIt kd l, none⟩ s) (f := f) (b := b) (fun R q => dI_go h1 upd_same (q S _ _ .refl rl (wk_d upd_same hlab rk))) (hg _) (hb _) rl ?_
      show PstS K (ct.lkd (some d)) H0 W0 S s _ _ (forN f b none (dIt kd l) s)
      generalize forN f b none (dIt kd l) s = R at p
      cases R with
      | no => exact p
      | er x s' => exact False.elim p
      | nx s' =>
        intro S' σ' H' st rel'
        exact ⟨(st.fr d _ upd_same hlab).1, p S' σ' _ (st.lockd hd) (rel'.unlock hlk (st.g _ _ k1))⟩
      | bk s' =>
        intro S' σ' H' st rel'
        exact ⟨(st.fr d _ upd_same hlab).1, p S' σ' _ (st.lockd hd) (rel'.unlock hlk (st.g _ _ k1))⟩
      | ct s' =>
        intro S' σ' H' st rel'
        exact ⟨(st.fr d _ upd_same hlab).1, p S' σ' _ (st.lockd hd) (rel'.unlock hlk (st.g _ _ k1))⟩
      | rt a s' =>
        intro S' σ' v H' st rel' it
        have g' : S'.G d = some (.dK kvs) := st.g _ _ k1
        refine ⟨(st.fr d _ upd_same hlab).1, p S' σ' v _ (st.lockd hd) (rel'.unlock hlk g') ?_⟩
        cases a with
        | val x => exact it
        | slot j => exact it
        | new c' =>
          obtain ⟨pp, rfl, i1, i2, i3, i4, i5⟩ := it
          have ne : pp ≠ d := fun z => by subst z; rw [i3] at g'; cases g'
          exact ⟨pp, rfl, i1, i2, i3, i4, (i5.mono (H' := upd H' d (.dK kvs)) (fun _ _ e => e) (fun _ _ => rfl) (Nat.le_refl _) (fun o e => by rw [upd_ne ne]; exact e)).unlkd⟩
  · exact False.elim p
theorem w_forD {N : Stt → Prop} {O : Rs → Prop} {kd : KD} {i : Nat} {g : Tg} {b : Ms} {l : List (Key × D)} {s : Stt} (e : entAt s i = some (.fz (.dK l))) (h : Ws N (fun r => match r with | .er _ _ => False | r => O r) (forN g b none (dIt kd l) s)) : Ws N O (mForD kd i g b s) := by
  unfold mForD
  rw [e]
  simp only []
  generalize forN g b none (dIt kd l) s = R at h ⊢
  cases R with
  | er x s' => exact h.elim
  | _ => exact h
end
end Y
namespace Y
open PySem L2 Z
section
variable {K : PySem.W.Frag} {ct : Ct} {H0 : Hp} {W : WX}
def mTIdx (ns : List Int) (ma : Mo (List D)) : Mo AI := fun s => (ma s).bind fun ds s1 => match ds with
  | [.int i] => if i ∈ ns then .ok (.val (.int ((ns.idxOf i : Nat) : Int))) s1 else .no
  | _ => .no
theorem w_tidx {s : Stt} {X : Exn → Stt → Prop} {QA : AI → Stt → Prop} {ns : List Int} {ma : Mo (List D)} (h : Wo (fun ds s1 => ∃ i, ds = [.int i] ∧ i ∈ ns ∧ QA (.val (.int ((ns.idxOf i : Nat) : Int))) s1) X (ma s)) : Wo QA X (mTIdx ns ma s) := w_bind (w_mono h fun ds s1 ⟨i, e, hi, h⟩ => by
  subst e
  show Wo QA X (if i ∈ ns then _ else _)
  rw [if_pos hi]; exact h)
end
end Y
namespace Y
open PySem L2 Z
section
variable {K : PySem.W.Frag} {ct : Ct} {H0 : Hp} {W : WX}
noncomputable def mLcO (i : Nat) (ws : List Nat) (g : Tg) (c : Mo Bool) (e : Mo AI) : Mo AI := fun s => match entAt s i with
  | some (.ow (.lst l)) => (mLc ws (fun s => .ok ⟨l, none⟩ s) g c e ⟨s.env.set i none, s.M⟩).bind fun a s1 => .ok a ⟨s1.env.set i (some (.ow (.lst l))), s1.M⟩
  | _ => mLc ws (mWL (mName i)) g c e s
theorem w_lcO {QA : AI → Stt → Prop} {X : Exn → Stt → Prop} {s : Stt} {i : Nat} {ws : List Nat} {g : Tg} {c : Mo Bool} {e : Mo AI} {l : List D} (en : entAt s i = some (.ow (.lst l))) (h : ∃ l2 s2, lcN ws g c (mV e) none l [] (wipeS ws ⟨s.env.set i none, s.M⟩) = .ok l2 s2 ∧ QA (.new (.lst l2)) ⟨(Y.rest (s.env.set i none) s2.env ws).set i (some (.ow (.lst l))), s2.M⟩) : Wo QA X (mLcO i ws g c e s) := by
  unfold mLcO; rw [en]
  refine w_bind (w_lc (QA := fun a s1 => Wo QA X (.ok a ⟨s1.env.set i (some (.ow (.lst l))), s1.M⟩)) (show Wo _ X (Ro.ok (⟨l, none⟩ : Im) _) from h))
end
end Y
namespace Y
open PySem L2 Z
section
variable {K : PySem.W.Frag} {ct : Ct} {H0 : Hp} {W : WX} {S : Sh} {s : Stt} {σ : St} {H : Hp}
theorem mt_popA {X : Cx} : MtR X "list.pop" rPopAt := mt_popAt
def fPopA (s : Stt) (a : AI) (ds : List D) : Ro AI := match ds, getC s a with
  | [.int i], some (.lst l) => if 0 ≤ i ∧ i < l.length ∧ i < 2 ^ 63 then (match l[i.toNat]? with
    | some d => .ok (.val d) (setC s a (.lst (l.eraseIdx i.toNat)))
    | none => .no) else .no
  | _, _ => .no
theorem rpl_erase {G : Hp} {α : Nat → Addr} {n : Nat} : ∀ {vs : List V} {l : List D} (i : Nat), RpL K G α n vs l → RpL K G α n (vs.eraseIdx i) (l.eraseIdx i)
  | _, _, _, .nil => .nil
  | _, _, 0, .cons h r => r
  | _, _, i + 1, .cons h r => .cons h (rpl_erase i r)
theorem jm_popA : JM K ct H0 rPopAt fPopA := fun W S s σ H Hs x a vs ds Q rel i r p => by
  unfold fPopA at p
  split at p
  · rename_i j l e
    split at p
    · rename_i hz
      split at p
      · rename_i d ed
        obtain ⟨q, rfl, ⟨us, h1, h2⟩, h3⟩ := mut_ok rel i e
        cases r with
        | cons r1 r2 =>
          cases r2
          cases r1
          obtain ⟨v, ev, rv⟩ := rpl_at' h2 ed
          obtain ⟨r1, r2⟩ := h3 (.lst (us.eraseIdx j.toNat)) (.lst (l.eraseIdx j.toNat)) (fun _ => rfl) ⟨_, upd_same, rpl_erase _ h2⟩
          refine ⟨q, us, j, j.toNat, v, rfl, rfl, h1, by omega, by omega, ?_, ev, p S v _ r2 r1 ?_⟩
          · have hl := h2.length
            have z1 := hz.1
            have z2 := hz.2.1
            unfold seqIndex?
            simp [show ¬ j < 0 by omega, z1, hl, z2]
          · show Rp K S.G S.α (setC s a (.lst (l.eraseIdx j.toNat))).M.length v d
            rw [setC_len]; exact rv
      · exact False.elim p
    · exact False.elim p
  · exact False.elim p
noncomputable def mLcG (ws : List Nat) (mi : Mo Im) (g : Tg) (c : Mo Bool) (e : Mo D) : Mo AI := fun s => (mi s).bind fun im s1 => match lcN ws g c e im.ck im.xs [] (wipeS ws s1) with
  | .ok l s2 => .ok (.new (.lst l)) ⟨rest s1.env s2.env ws, s2.M⟩
  | _ => .no
def CLR2 (i j : Int) : Prop := -(2 ^ 62) ≤ i ∧ i < 2 ^ 62 ∧ -(2 ^ 62) ≤ j ∧ j < 2 ^ 62 ∧ (j - i).toNat ≤ sizeLine
open Classical in
noncomputable def mLR2 (m1 m2 : Mo AI) : Mo AI := fun s => (m1 s).bind fun a s1 => (m2 s1).bind fun b s2 => match a, b with
  | .val (.int i), .val (.int j) => if CLR2 i j then .ok (.new (.lst (rng i (j - i).toNat))) s2 else .no
  | _, _ => .no
def RKV (K : PySem.W.Frag) : RR (List (V × V)) (List (D × D)) := fun _ S s _ _ b a => RpL K S.G S.α s.M.length (b.map Prod.fst) (a.map Prod.fst) ∧ RpL K S.G S.α s.M.length (b.map Prod.snd) (a.map Prod.snd)
theorem bKV : Bck (RKV K) := fun _ _ _ _ _ _ _ _ _ h => h
abbrev Ekv (K : PySem.W.Frag) (ct : Ct) (H0 : Hp) (W : WX) (t : List (TE × TE)) (m : Mo (List (D × D))) : Prop := Jd K ct H0 (RKV K) W (tPairs t) m
def kvNil : Mo (List (D × D)) := fun s => .ok [] s
def kvCons (mk mv : Mo AI) (r : Mo (List (D × D))) : Mo (List (D × D)) := fun s => (mV mk s).bind fun a s1 => (mV mv s1).bind fun b s2 => (r s2).bind fun l s3 => .ok ((a, b) :: l) s3
theorem ekv_nil : Ekv K ct H0 W [] kvNil := fun S s σ H Q rel p => p S [] H .refl rel ⟨.nil, .nil⟩
theorem ekv_cons {tk tv : TE} {tr : List (TE × TE)} {mk mv : Mo AI} {r : Mo (List (D × D))} (h1 : Ei K ct H0 W tk mk) (h2 : Ei K ct H0 W tv mv) (h3 : Ekv K ct H0 W tr r) : Ekv K ct H0 W ((tk, tv) :: tr) (kvCons mk mv r) := fun S s σ H Q rel p =>
  ev_of h1 S s σ H _ rel (Pst.bind bKV p fun S1 s1 H1 x a st1 rel1 i1 p1 => ev_of h2 S1 s1 σ H1 _ rel1 (Pst.bind bKV p1 fun S2 s2 H2 y b st2 rel2 i2 p2 => h3 S2 s2 σ H2 _ rel2 (Pst.bind bKV p2 fun S3 s3 H3 z l st3 rel3 i3 p3 =>
    p3 S3 ((x, y) :: z) H3 .refl rel3 ⟨.cons (Rp.step (st2.trans st3) i1) i3.1, .cons (Rp.step st3 i2) i3.2⟩)))
def kvKeys : List (D × D) → Option (List (Key × D))
  | [] => some []
  | (k, d) :: l => (keyOf k).bind fun k' => (kvKeys l).map ((k', d) :: ·)
theorem kvKeys_rp {G : Hp} {α : Nat → Addr} {n : Nat} : ∀ {l : List (D × D)} {ps : List (V × V)} {kl : List (Key × D)}, RpL K G α n (ps.map Prod.fst) (l.map Prod.fst) → RpL K G α n (ps.map Prod.snd) (l.map Prod.snd) → kvKeys l = some kl → ∃ kvs : List (Key × V), ps = kvs.map (fun kv => (kV kv.1, kv.2)) ∧ RpK K G α n kvs kl ∧ kvs.length = kl.length
  | [], [], _, _, _, e => by cases e; exact ⟨[], rfl, .nil, rfl⟩
  | [], _ :: _, _, h, _, _ => by cases h
  | _ :: _, [], _, h, _, _ => by cases h
  | (k, d) :: l, (x, y) :: ps, kl, .cons h1 h2, .cons g1 g2, e => by
    obtain ⟨k', e1, e2⟩ := Option.bind_eq_some_iff.mp (show (keyOf k).bind (fun k' => (kvKeys l).map ((k', d) :: ·)) = some kl from e)
    obtain ⟨kl', e3, rfl⟩ := Option.map_eq_some_iff.mp e2
    obtain ⟨kvs, rfl, r, hl⟩ := kvKeys_rp h2 g2 e3
    refine ⟨(k', y) :: kvs, ?_, .cons g1 r, by rw [List.length_cons, List.length_cons, hl]⟩
    show (x, y) :: _ = (kV k', y) :: _
    rw [show x = kV k' from keyOf_rp h1 e1]
def mDisp (r : Mo (List (D × D))) : Mo AI := fun s => (r s).bind fun l s1 => match kvKeys l with
  | some kl => if kl.length ≤ 15 then .ok (.new (.dK (mgD kl))) s1 else .no
  | none => .no
theorem ei_disp {trs : List (TE × TE)} {r : Mo (List (D × D))} (h : Ekv K ct H0 W trs r) : Ei K ct H0 W (tDisp trs) (mDisp r) := fun S s σ H Q rel p pa hp => by
  have hlab := rel.labN hp
  have hg := rel.gN hp
  have st0 : Stp S s.M.length H S s.M.length (upd H pa (.dK [])) := Stp.new rel hp
  refine h S s σ (upd H pa (.dK [])) _ (rel.new hp) ?_
  unfold mDisp at p
  cases q : r s with
  | no => rw [q] at p; exact p
  | er x s' =>
    rw [q] at p
    exact fun S' H' dd st r' xo => p S' H' dd (st0.trans st) r' xo
  | ok l s1 =>
    rw [q] at p
    have p : Pst K ct H0 (RI K ct) W S s σ H Q (match kvKeys l with | some kl => if kl.length ≤ 15 then .ok (.new (.dK (mgD kl))) s1 else .no | none => .no) := p
    intro S1 ps H1 st1 rel1 i1
    obtain ⟨h1, h2⟩ := st1.fr pa _ upd_same hlab
    have hg1 : S1.G pa = none := by
      cases q2 : S1.G pa with
      | none => rfl
      | some u =>
        rcases st1.gn pa u q2 with z | z | ⟨lb, z⟩
        · rw [hg] at z; cases z
        · rw [upd_same] at z; cases z
        · rw [hlab] at z; cases z
    refine ⟨h1, ?_⟩
    split at p
    · rename_i kl e
      obtain ⟨kvs, e1, e2, e3⟩ := kvKeys_rp i1.1 i1.2 e
      split at p
      · rename_i hz
        refine ⟨kvs, e1, by omega, ?_⟩
        refine p S1 (.ref pa) _ ((st0.trans st1).updNew hp) (rel1.updU h2 hg1) ⟨pa, rfl, hp, h2, hg1, rfl, mergeK [] kvs, upd_same, ?_⟩
        have := mg_ok e2 (.nil : RpK K S1.G S1.α s1.M.length [] [])
        exact ⟨this.keys, this.vals⟩
      · exact False.elim p
    · exact False.elim p
def mSetD (mo mi mx : Mo AI) : Mo AI := fun s => (mo s).bind fun a s1 => match viewD s1 a with
  | some _ => (mV mi s1).bind fun i s2 => (mK mx s2).bind fun x s3 => match getC s3 a, keyOf i with
    | some (.dK l), some k => if l.length < sizeLine then (match vl l k with
      | some d => .ok (.val d) s3
      | none => .ok (.val x) (setC s3 a (.dK (pu l k x)))) else .no
    | _, _ => .no
  | none => .no
def tgL (n : Nat) (f : Tgs) : Tg := fun d s => match listOf s.M d with
  | some l => if l.length = n then f l s else none
  | none => none
end
section
variable {s : Stt} {X : Exn → Stt → Prop} {QA : AI → Stt → Prop}
theorem w_popA {a : AI} {l : List D} {i : Int} {d : D} (e : getC s a = some (.lst l)) (c : 0 ≤ i ∧ i < l.length ∧ i < 2 ^ 63) (e2 : l[i.toNat]? = some d) (h : QA (.val d) (setC s a (.lst (l.eraseIdx i.toNat)))) : Wo QA X (fPopA s a [.int i]) := by
  show Wo QA X (match [D.int i], getC s a with | [.int i], some (.lst l) => if 0 ≤ i ∧ i < l.length ∧ i < 2 ^ 63 then (match l[i.toNat]? with | some d => .ok (.val d) (setC s a (.lst (l.eraseIdx i.toNat))) | none => .no) else .no | _, _ => .no)
  rw [e]
  show Wo QA X (if 0 ≤ i ∧ i < l.length ∧ i < 2 ^ 63 then _ else _)
  rw [if_pos c]
  show Wo QA X (match l[i.toNat]? with | some d => .ok (.val d) (setC s a (.lst (l.eraseIdx i.toNat))) | none => .no)
  rw [e2]
  exact h
theorem w_lcG {ws : List Nat} {mi : Mo Im} {g : Tg} {c : Mo Bool} {e : Mo D} (h : Wo (fun im s1 => ∃ l s2, lcN ws g c e im.ck im.xs [] (wipeS ws s1) = .ok l s2 ∧ QA (.new (.lst l)) ⟨Y.rest s1.env s2.env ws, s2.M⟩) X (mi s)) : Wo QA X (mLcG ws mi g c e s) := by
  unfold mLcG
  cases q : mi s with
  | no => rw [q] at h; exact h
  | er x s1 => rw [q] at h; exact h
  | ok im s1 =>
    rw [q] at h
    obtain ⟨l, s2, e1, e2⟩ := h
    show Wo QA X (match lcN ws g c e im.ck im.xs [] (wipeS ws s1) with | .ok l s2 => .ok (.new (.lst l)) ⟨rest s1.env s2.env ws, s2.M⟩ | _ => .no)
    rw [e1]; exact e2
theorem w_lr2 {m1 m2 : Mo AI} (h : Wo (fun a s1 => Wo (fun b s2 => ∃ i j : Int, a = .val (.int i) ∧ b = .val (.int j) ∧ (-(2 ^ 62) ≤ i ∧ i < 2 ^ 62 ∧ -(2 ^ 62) ≤ j ∧ j < 2 ^ 62 ∧ (j - i).toNat ≤ sizeLine) ∧ QA (.new (.lst (rng i (j - i).toNat))) s2) X (m2 s1)) X (m1 s)) : Wo QA X (mLR2 m1 m2 s) := by
  refine w_bind (w_mono h fun a s1 h => w_bind (w_mono h fun b s2 h => ?_))
  obtain ⟨i, j, rfl, rfl, c, h⟩ := h
  simp only []
  rw [if_pos (show CLR2 i j from c)]; exact h
theorem w_kvNil {QK : List (D × D) → Stt → Prop} (h : QK [] s) : Wo QK X (kvNil s) := h
theorem w_kvCons {QK : List (D × D) → Stt → Prop} {mk mv : Mo AI} {r : Mo (List (D × D))} (h : Wo (fun a s1 => Wo (fun b s2 => Wo (fun l s3 => QK ((a, b) :: l) s3) X (r s2)) X (mV mv s1)) X (mV mk s)) : Wo QK X (kvCons mk mv r s) :=
  w_bind (w_mono h fun a s1 h => w_bind (w_mono h fun b s2 h => w_bind (w_mono h fun l s3 h => h)))
theorem w_disp {r : Mo (List (D × D))} (h : Wo (fun l s1 => ∃ kl, kvKeys l = some kl ∧ kl.length ≤ 15 ∧ QA (.new (.dK (mgD kl))) s1) X (r s)) : Wo QA X (mDisp r s) := by
  refine w_bind (w_mono h fun l s1 h => ?_)
  obtain ⟨kl, e, c, h⟩ := h
  rw [e]
  show Wo QA X (if _ then _ else _)
  rw [if_pos c]; exact h
theorem w_setD {m1 m2 m3 : Mo AI} (h : Wo (fun a s1 => (∃ l, viewD s1 a = some l) ∧ Wo (fun i s2 => Wo (fun x s3 => ∃ l k, getC s3 a = some (.dK l) ∧ keyOf i = some k ∧ l.length < sizeLine ∧ (match vl l k with
      | some d => QA (.val d) s3
      | none => QA (.val x) (setC s3 a (.dK (pu l k x))))) X (mK m3 s2)) X (mV m2 s1)) X (m1 s)) : Wo QA X (mSetD m1 m2 m3 s) := by
  refine w_bind (w_mono h fun a s1 h => ?_)
  obtain ⟨⟨l0, e0⟩, h⟩ := h
  rw [e0]
  refine w_bind (w_mono h fun i s2 h => w_bind (w_mono h fun x s3 h => ?_))
  obtain ⟨l, k, e1, e2, c, h⟩ := h
  rw [e1, e2]
  show Wo QA X (if _ then _ else _)
  rw [if_pos c]
  cases q : vl l k with
  | some d => rw [q] at h; exact h
  | none => rw [q] at h; exact h
end
end Y
namespace Y
open PySem L2 Z
open PyProof.Rows (risingS sortedS)
end Y
namespace Hd
open PySem PySem.Spec PyProof.Rows L2
/-- what a name of the module stands for -/
def relAt (K : PySem.W.Frag) (x : Str) (v : V) : Bool := match PySem.W.nsIn K mainGlobals x with
  | some (some u) => He.relB v u
  | _ => false
theorem relAt_ok {K : PySem.W.Frag} {x : Str} {v : V} (h : relAt K x v = true) : ∃ u, PySem.W.nsIn K mainGlobals x = some (some u) ∧ RelV v u := by
  unfold relAt at h
  cases e : PySem.W.nsIn K mainGlobals x with
  | none => rw [e] at h; cases h
  | some r =>
    rw [e] at h
    cases r with
    | none => cases h
    | some u => exact ⟨u, rfl, He.relB_ok h⟩
/-- an exception class with its own __init__ -/
def oexAt (K : PySem.W.Frag) (C : Addr) (bm : List Value) : Bool := match K.lookup C with
  | some ⟨.type "type", _, .cls cd, sl⟩ => (match cd.mro, sl.toList with
    | .ref C' :: bm', [_, _, _, _, some (.builtin n), _] => C' == C && (n == "ValueError.__new__" && (!cd.hasDel && (decide (bm' = bm) && cd.hasDict)))
    | _, _ => false)
  | _ => false
theorem oexAt_ok {K : PySem.W.Frag} {C : Addr} {bm : List Value} (h : oexAt K C bm = true) :
    ∃ nm q N bs sn sub ab col dd m0 m1 m2 m3 m5, K.lookup C = some (PySem.excClassObj nm q C N bs bm true sn sub ab col dd m0 m1 m2 m3 m5 "ValueError.__new__") := by
  unfold oexAt at h
  split at h
  · rename_i dd cd sl ho
    split at h
    · rename_i C' bm' k0 k1 k2 k3 n k5 hm hs
      simp only [Bool.and_eq_true, beq_iff_eq, Bool.not_eq_true', decide_eq_true_eq] at h
      obtain ⟨rfl, rfl, hdel, rfl, hd⟩ := h
      obtain ⟨nm, bs, mro, ns, qn, hdd, sn, sub, ab, col, del⟩ := cd
      dsimp only at hm hdel hd
      subst hm hdel hd
      have hsl : sl = #[k0, k1, k2, k3, some (.builtin "ValueError.__new__"), k5] := by
        obtain ⟨l⟩ := sl
        simp only at hs
        rw [hs]
      subst hsl
      exact ⟨nm, qn, ns, bs, sn, sub, ab, col, dd, k0, k1, k2, k3, k5, ho⟩
    · cases h
  · cases h
/-- what a class tells by a builtin -/
def cfAt (r : Option PySem.W.CFound) (n : String) : Bool := match r with
  | some (.val (.builtin m)) => decide (m = n)
  | _ => false
theorem cfAt_ok {r : Option PySem.W.CFound} {n : String} (h : cfAt r n = true) : r = some (.val (.builtin n)) := by
  unfold cfAt at h
  split at h
  · rw [of_decide_eq_true h]
  · cases h
abbrev Ex : Type := List (List (PySem.W.Frag → Bool))
abbrev Al : Type := Bool × (List He.FnV × List He.FnW)
def exB (ex : Ex) (fn : List He.FnD) (K : PySem.W.Frag) : Bool := (ex.all fun l => l.all fun f => f K) && fn.all fun d => (He.Fa.code d.at_ d.qual).ok K
def obs (fn : List He.FnD) (fd : List He.DefD) (ex : Ex) (K : PySem.W.Frag) : Al := (exB ex fn K, fn.map (fun d => He.fnObs K d.at_), fd.map fun d => He.fnW K d.at_)
def val (fn : List He.FnD) (fd : List He.DefD) : Al := (true, fn.map He.FnD.val, fd.map He.DefD.val)
def Says (fn : List He.FnD) (fd : List He.DefD) (ex : Ex) (K : PySem.W.Frag) : Prop := obs fn fd ex K = val fn fd
/-- the objects that are looked at: the module's names, what stands behind them, the classes' tables, the methods -/
def outs (o : Obj) : List Addr := match o.data with
  | .func fd => He.refV fd.code ++ He.refV fd.defaults
  | .cls cd => [cd.ns]
  | .dict es _ => es.toList.flatMap fun e => He.refV e.val
  | _ => []
def outsG (g : Addr → Option Obj) (as : List Addr) : List Addr := as.flatMap fun a => match g a with
  | some o => outs o
  | none => []
def asK (g : Addr → Option Obj) : Nat → List Addr → List Addr
  | 0, l => l
  | n + 1, l => l ++ asK g n (outsG g l)
def obsG (n : Nat) (fn : List He.FnD) (fd : List He.DefD) (ex : Ex) (g : Addr → Option Obj) : Al := obs fn fd ex (He.frG g (PySem.cStatics :: asK g n [mainGlobals]))
def hook (n : Nat) (fn : List He.FnD) (fd : List He.DefD) (ex : Ex) : PySem.W.Hook where
  α := Al
  obs := fun s => obsG n fn fd ex s.heap.get?
  val := fun _ => val fn fd
  says := fun _ h => ∃ K : PySem.W.Frag, K.In h ∧ Says fn fd ex K
  of := fun _ _ e => ⟨_, He.frG_in, e⟩
  keeps := fun _ _ _ ⟨K, hK, c⟩ k => ⟨K, PySem.W.Frag.In.keeps hK k, c⟩
theorem obsG_eq {n : Nat} {fn : List He.FnD} {fd : List He.DefD} {ex : Ex} {g : Addr → Option Obj} {s : Shared} (h : ∀ a, g a = s.heap.get? a) : obsG n fn fd ex g = (hook n fn fd ex).obs s := by
  have e : g = s.heap.get? := funext h
  rw [e] <;> rfl
section
variable {fn : List He.FnD} {fd : List He.DefD} {ex : Ex} {K : PySem.W.Frag}
theorem Says.all (c : Says fn fd ex K) : exB ex fn K = true := congrArg (fun z : Al => z.1) c
theorem Says.fact (c : Says fn fd ex K) (i j : Nat) {l : List (PySem.W.Frag → Bool)} {f : PySem.W.Frag → Bool} (hl : ex[i]? = some l) (hf : l[j]? = some f) : f K = true :=
  List.all_eq_true.mp (List.all_eq_true.mp (He.ba c.all).1 l (List.mem_of_getElem? hl)) f (List.mem_of_getElem? hf)
theorem Says.def_ (c : Says fn fd ex K) (i : Nat) {d : He.FnD} (h : fn[i]? = some d) :
    ∃ oc od osl kV doc pm an cdv ct, K.lookup (He.fAd K d.at_) = some ⟨oc, od, .func (PySem.W.fnOf d.name d.qual d.params d.body d.scope .none kV doc pm an cdv ct), osl⟩ ∧ PySem.W.codeIn K cdv d.qual = true := by
  have e : fn.map (fun d => He.fnObs K d.at_) = fn.map He.FnD.val := congrArg (fun z : Al => z.2.1) c
  have e2 : (fn.map fun d => He.fnObs K d.at_)[i]? = (fn.map He.FnD.val)[i]? := by rw [e]
  rw [List.getElem?_map, List.getElem?_map, h] at e2
  exact He.fn_ok (Option.some.inj e2) (List.all_eq_true.mp (He.ba c.all).2 d (List.mem_of_getElem? h))
end
end Hd
namespace Y
open PySem L2 Z
section
variable {K : PySem.W.Frag} {ct : Ct} {H0 : Hp} {W : WX} {S : Sh} {s : Stt} {σ : St} {H : Hp}
theorem SqL.grow {H H' : Hp} {p a : Addr} {ys : List V} (h : SqL K H p ys) (ha : H a = none) (k : ∀ b o, H b = some o → b ≠ a → H' b = some o) : SqL K H' p ys := by
  rcases h with h | h
  · refine .inl ?_
    rcases h with h | ⟨o, h⟩
    · exact .inl (k _ _ h (fun e => by rw [e, ha] at h; cases h))
    · exact .inr ⟨o, k _ _ h (fun e => by rw [e, ha] at h; cases h)⟩
  · exact .inr h
variable {N : Stt → Prop} {O : Rs → Prop}
end
end Y
namespace Y
open PySem L2 Z
end Y
namespace Y
open PySem L2 Z
end Y
namespace Y
open PySem PySem.Spec PyProof.Rows L2 Z
section
variable {K : PySem.W.Frag} {ct : Ct} {H0 : Hp} {W : WX} {S : Sh} {s : Stt} {σ : L2.St} {H : Hp}
def mWZs (m : Mo (List D)) : Mo Im := fun s => (m s).bind fun ds s1 => match ds with
  | [.str x, .ctp l] => .ok ⟨zipL (strL x) l, none⟩ s1
  | _ => .no
end
section
variable {s : Stt} {QI : Im → Stt → Prop} {X : Exn → Stt → Prop}
theorem w_wzs {r : Mo (List D)} (h : Wo (fun ds s1 => ∃ x l, ds = [.str x, .ctp l] ∧ QI ⟨zipL (strL x) l, none⟩ s1) X (r s)) : Wo QI X (mWZs r s) :=
  w_bind (w_mono h fun ds s1 h => by
    obtain ⟨x, l, rfl, h⟩ := h
    exact h)
end
end Y
namespace Y
open PySem L2 Z
end Y
namespace Y
open PySem L2 Z PySem.Spec PyProof.Rows
section
variable {P : Program} {w : World} {A : Around} {E : Value → Shared → Prop} {z : Shared}
/-- an empty set, as it is made -/
abbrev nwS (w : World) : Obj := { cls := .type "set", dict := none, data := .set #[] 0 (.fresh 0 0 (!w.params.followText "set-order")) }
/-- the heap with it -/
abbrev hpS (w : World) (z : Shared) : Heap := z.heap.push (nwS w)
/-- what holds when the list's numbers are in the set -/
def InS (w : World) (ns : List Int) (z : Shared) (z2 : Shared) : Prop := ∃ h1 t c, z2 = { z with heap := h1, toks := t } ∧ SetR w h1 z.heap.objs.size (fun j => decide (j ∈ ns)) c ∧ c ≤ ns.length ∧ ∀ b o, z.heap.get? b = some o → h1.get? b = some o
/-- the list's numbers put in, one by one -/
theorem fill_set {l : Addr} {xs : Array Value} {ns : List Int} {R : Result → Shared → Prop} (hh : A.handled = none) (hl : z.heap.IsList l xs) (hi : IntsAre xs.toList ns) (hb : ns.length + 1 < scanBound)
    (h : ∀ z2, InS w ns z z2 → R (.ok (.ret .none)) z2) :
    codeAny (model P w) A (.builtin "set.update.loop" ⟨[.ref z.heap.objs.size, .ref (hpS w z).objs.size], []⟩) R { z with heap := (hpS w z).push { cls := .type "list_iterator", data := .fields #[.ref l, .int 0 0] } } := by
  have hn : xs.size = ns.length := by rw [← IntsAre.length hi, Array.length_toList]
  have sz : (hpS w z).objs.size = z.heap.objs.size + 1 := Heap.size_push ..
  have gS : (hpS w z).get? z.heap.objs.size = some (nwS w) := Heap.get?_push_size _ rfl
  have lt : l < z.heap.objs.size := by obtain ⟨_, e, _⟩ := hl; exact Heap.lt_size e
  have kl : (hpS w z).IsList l xs := hl.push _
  have no : z.heap.objs.size ∉ [(hpS w z).objs.size, l] := by
    rw [sz]; intro q
    rcases List.mem_cons.mp q with q | q
    · exact absurd q (Nat.ne_of_lt (Nat.lt_succ_self _))
    · exact absurd (List.mem_singleton.mp q) (Nat.ne_of_gt lt)
  refine set_update_ints ((Walks.list (by simp [hh]) _ l (by rw [sz]; exact Nat.ne_of_lt (Nat.lt_succ_of_lt lt)) xs).toS) z.heap.objs.size no ns hn hb (fun i v e => ?_) (xs.size - 0) 0 _ rfl (Nat.zero_le _) ⟨⟨_, Heap.get?_push_size _ rfl, rfl, rfl⟩, kl.push _⟩ ⟨0, Nat.le_refl 0, setR_new_at (Heap.get?_push_of_some _ gS)⟩ (fun z2 c mv hc hS => h z2 ?_)
  · have hlt : i < ns.length := by rw [← hn]; exact (Array.getElem?_eq_some_iff.mp e).1
    obtain ⟨t, q⟩ := IntsAre.int_at hi i v (by rw [Array.getElem?_toList]; exact e)
    rw [List.getD_eq_getElem?_getD, List.getElem?_eq_getElem hlt] at q
    exact ⟨ns[i], t, List.getElem?_eq_getElem hlt, q⟩
  · obtain ⟨h2, g2, d2, t2, o2⟩ := z2
    obtain rfl : g2 = z.gens := mv.gens
    obtain rfl : d2 = z.drawn := mv.drawn
    obtain rfl : o2 = z.os := mv.os
    refine ⟨h2, t2, c, rfl, hS, by rw [← hn]; exact hc, fun b o e => ?_⟩
    have hlt := Heap.lt_size e
    refine mv.heap b o (fun q => ?_) (Heap.get?_push_of_some _ (Heap.get?_push_of_some _ e))
    rw [sz] at q
    rcases List.mem_cons.mp q with q | q
    · exact absurd q (Nat.ne_of_lt hlt)
    · exact absurd (List.mem_singleton.mp q) (Nat.ne_of_lt (Nat.lt_succ_of_lt hlt))
theorem init_set {l : Addr} {xs : Array Value} {ns : List Int} (hh : A.handled = none) (hl : z.heap.IsList l xs) (hi : IntsAre xs.toList ns) (hb : ns.length + 1 < scanBound) :
    codeAny (model P w) A (.call (.builtin "set.__init__") ⟨[.ref z.heap.objs.size, .ref l], []⟩) (wants (fun r z2 => r = .none ∧ InS w ns z z2) E) { z with heap := hpS w z } := by
  have gS : (hpS w z).get? z.heap.objs.size = some (nwS w) := Heap.get?_push_size _ rfl
  have ty : Shared.TypeIs { z with heap := hpS w z } (.ref z.heap.objs.size) "set" := ⟨_, gS, rfl⟩
  refine codeAny_call_builtin F.called_set.init.plain F.entry_set_init (check_set_init_1 ty ?_)
  have kl : (hpS w z).IsList l xs := hl.push _
  have kl2 := kl
  obtain ⟨⟨oc, od, ot, os⟩, go, rfl, k, rfl⟩ := kl2
  have s1 := F.sub_list_set
  have s2 := F.sub_list_frozenset
  have s3 : (Value.type "list" == Value.type "dict") = false := by decide
  unfold Builtin.«set.__init__» noKeywords Builtin.Frozenset.updateFrom
  generalize ep : pyIter = pit
  wp_walk
  subst ep
  refine wpAny_pyIter_list kl (wpAny_bind (wpAny_runValue (fill_set (by simp [hh]) hl hi hb fun z2 q => ?_)))
  show wpAny _ _ _ _ _ _
  refine wpAny_pure (wpAny_pure ?_)
  exact ⟨rfl, q⟩
theorem set_list {l : Addr} {xs : Array Value} {ns : List Int} {Q : Value → Shared → Prop} (hh : A.handled = none) (hl : z.heap.IsList l xs) (hi : IntsAre xs.toList ns) (hb : ns.length + 1 < scanBound)
    (h : ∀ z2, InS w ns z z2 → Q (.ref z.heap.objs.size) z2) : wpAny (model P w) A (call (.type "set") [.ref l]) Q E z := by
  have a1 := F.called_set.made
  have a2 := F.called_set.sub
  have a3 := F.called_set.notType
  have a4 := F.called_set.canCreate
  have a5 := F.typeCall_set_1 (.ref l)
  obtain ⟨c, tl, a6⟩ := F.called_set.mro
  refine wpAny_call (codeAny_of_tree (show wpAny _ _ (callAny (.type "set") _) _ _ _ from wpAny_pure ⟨Code.quiet_builtin _ (by decide +kernel), codeAny_builtin F.entry_type_call ?_⟩))
  rw [Around.under_plain (weight_type_call_type "set" [.ref l] []) rfl]
  repeat (any_goals (first | assumption | wp_step))
  refine codeAny_mono (code_set_led1 (.ref l) (E := E) (Q₁ := fun o z2 => o = .ref z.heap.objs.size ∧ z2 = { z with heap := hpS w z }) ⟨rfl, rfl⟩) fun r z1 hr => ?_
  cases r with
  | error e => exact hr
  | ok f =>
    cases f with
    | ret o =>
      obtain ⟨rfl, rfl⟩ := hr
      have gS : (hpS w z).get? z.heap.objs.size = some (nwS w) := Heap.get?_push_size _ rfl
      have ty : Shared.TypeIs { z with heap := hpS w z } (.ref z.heap.objs.size) "set" := ⟨_, gS, rfl⟩
      have b1 := F.called_set.init.lookup
      have b2 := F.called_set.init.bind (.ref z.heap.objs.size)
      repeat (any_goals (first | assumption | wp_step))
      refine codeAny_mono (init_set (E := E) (by simp [hh]) hl hi hb) fun r2 z2 q => ?_
      cases r2 with
      | error e => exact q
      | ok f2 =>
        cases f2 with
        | ret v =>
          obtain ⟨rfl, q⟩ := q
          have hq := h z2 q
          repeat (any_goals (first | assumption | wp_step))
        | _ => exact q.elim
    | _ => exact hr.elim
end
end Y
namespace Y
open PySem L2 Z PySem.Spec PyProof.Rows
end Y
namespace Y
open PySem L2 Z
section
variable {K : PySem.W.Frag} {ct : Ct} {H0 : Hp} {W : WX} {S : Sh} {s : Stt} {σ : L2.St} {H : Hp}
/-- one place of such a store -/
def mSub (mo mi : Mo AI) (d : D) : Ms := fun s => (mo s).toS fun a s2 => (mV mi s2).toS fun i s3 => match setIt a i d s3 with
  | some s4 => .nx s4
  | none => .no
theorem sub_ok {to ti : TE} {mo mi : Mo AI} {v : V} {d : D} {Dn : Ends} (ho : Ei K ct H0 W to mo) (hi : Ei K ct H0 W ti mi) (rel : Rel K ct H0 S s σ H) (rv : Rp K S.G S.α s.M.length v d) (p : PstS K ct H0 W S s H Dn (mSub mo mi d s)) : gSub to ti rSetY v σ H Dn.nx :=
  ho S s σ H _ rel (PstS.bind p fun S2 s2 H2 x a st2 rel2 i2 p2 => ev_of hi S2 s2 σ H2 _ rel2 (PstS.bind (PstS.from p2 st2) fun S3 s3 H3 y i st3 rel3 i3 p3 => by
    have p3 := PstS.from p3 st3
    split at p3
    · rename_i s4 e
      exact setIt_ok rel3 (i2.step st3) i3 (Rp.step (st2.trans st3) rv) e fun H' st rl => p3 S3 σ H' st rl
    · exact False.elim p3))
def mAsgS2 (mo mi mo' mi' : Mo AI) (mv : Mo AI) : Ms := fun s => (mV mv s).toS fun d s1 => match tupOf d with
  | some [x, y] => mSeq (mSub mo mi x) (mSub mo' mi' y) s1
  | _ => .no
theorem sv_asgS2 {te to ti to' ti' : TE} {mo mi mo' mi' mv : Mo AI} (hv : Ei K ct H0 W te mv) (ho : Ei K ct H0 W to mo) (hi : Ei K ct H0 W ti mi) (ho' : Ei K ct H0 W to' mo') (hi' : Ei K ct H0 W ti' mi') : Sv K ct H0 W (tAsg te (gTup K 2 (gCons (gSub to ti rSetY) (gCons (gSub to' ti' rSetY) gNil)))) (mAsgS2 mo mi mo' mi' mv) := fun S s σ H Dn rel p =>
  ev_of hv S s σ H _ rel (PstS.bind p fun S1 s1 H1 v d st1 rel1 i1 p1 => by
    split at p1
    · rename_i x y el
      obtain ⟨q, vs, rfl, k1, k2⟩ := viewT_ok (Hs := H1) (a := .val d) (v := v) rel1 i1 (by unfold viewT look; exact el)
      cases k2 with
      | cons a k2 =>
      cases k2 with
      | cons b k2 =>
      cases k2 with
      | nil =>
      refine ⟨q, _, rfl, k1, rfl, _, _, rfl, ?_⟩
      have p1 := PstS.from p1 st1
      refine sub_ok (Dn := { Dn with nx := fun σ H => gCons (gSub to' ti' rSetY) gNil [_] σ H Dn.nx }) ho hi rel1 a ?_
      unfold mSeq at p1
      cases q : mSub mo mi x s1 with
      | nx s2 =>
        rw [q] at p1
        exact fun S2 σ2 H2 st rel2 => ⟨_, _, rfl, sub_ok (Dn := { Dn with nx := fun σ H => gNil [] σ H Dn.nx }) ho' hi' rel2 (b.step st) (by
          have p2 : PstS K ct H0 W _ _ _ Dn (mSub mo' mi' y s2) := PstS.from p1 st
          cases q2 : mSub mo' mi' y s2 with
          | nx s3 => rw [q2] at p2; exact fun S3 σ3 H3 st3 rel3 => ⟨rfl, p2 S3 σ3 H3 st3 rel3⟩
          | bk s3 => rw [q2] at p2; exact p2
          | ct s3 => rw [q2] at p2; exact p2
          | rt a s3 => rw [q2] at p2; exact p2
          | er x s3 => rw [q2] at p2; exact p2
          | no => rw [q2] at p2; exact p2)⟩
      | bk s2 => rw [q] at p1; exact p1
      | ct s2 => rw [q] at p1; exact p1
      | rt a s2 => rw [q] at p1; exact p1
      | er x s2 => rw [q] at p1; exact p1
      | no => rw [q] at p1; exact p1
    · exact False.elim p1)
theorem viewD_hk {S : Sh} {s : Stt} {σ : St} {H Hs : Hp} {v : V} {a : AI} {l : List (Key × D)} (hlk : ct.lk = none) (r : Rel K ct H0 S s σ H) (i : ItOk K ct Hs S s σ H v a) (e : viewD s a = some l) : ∃ p kvs, v = .ref p ∧ H p = some (.dK kvs) ∧ RpK K S.G S.α s.M.length kvs l := by
  have frz : ∀ {u : V} {d : D}, Rp K S.G S.α s.M.length u d → dictOf s.M d = some l → ∃ p kvs, u = .ref p ∧ H p = some (.dK kvs) ∧ RpK K S.G S.α s.M.length kvs l := fun {u d} h e => by
    cases d with
    | dK l' => cases e; cases h with | dK h1 h3 h2 => exact ⟨_, _, rfl, (r.lock (od := default) hlk h1).1, .of h3 h2⟩
    | cid k =>
      cases h
      obtain ⟨c, q, e1⟩ := Option.bind_eq_some_iff.mp (show s.M[k]?.bind Cn.aK = some l from e)
      cases c with
      | dK l' =>
        cases e1
        obtain ⟨vs, h1, h3, h2⟩ := (r.ids k _ q).2
        exact ⟨_, vs, rfl, h1, .of h3 h2⟩
      | _ => cases e1
    | _ => cases e
  have own : ∀ {p : Addr} {c : Cn}, CnOk K ct S s.M.length H p c → dictOf s.M c.toD = some l → ∃ q kvs, V.ref p = .ref q ∧ H q = some (.dK kvs) ∧ RpK K S.G S.α s.M.length kvs l := fun {p c} h e => by
    cases c with
    | dK l' => cases e; obtain ⟨vs, h1, h3, h2⟩ := h; exact ⟨p, vs, rfl, h1, .of h3 h2⟩
    | lst l' => cases e
    | dT l' => cases e
    | obj _ _ => cases e
  unfold viewD at e
  cases a with
  | val d => exact frz i e
  | new c =>
    obtain ⟨p, rfl, _, _, _, hc, h5⟩ := i
    exact own h5 e
  | slot j =>
    obtain ⟨d, q0, e⟩ := Option.bind_eq_some_iff.mp e
    obtain ⟨en, q1, rfl⟩ := Option.map_eq_some_iff.mp q0
    have q := entAt_eq q1
    have hi : σ[j]? = some (some v) := i
    have hh := r.slot j en q
    cases en with
    | fz d =>
      obtain ⟨v', h1, h2⟩ := hh
      rw [hi] at h1; cases h1
      exact frz h2 e
    | xn x => exact (entAt_xn q1).elim
    | ow c =>
      obtain ⟨p, h1, _, _, hc, h5⟩ := hh
      rw [hi] at h1; cases h1
      exact own h5 e
def mMinValsV (mo : Mo AI) : Mo AI := fun s => (mo s).bind fun a s1 => match viewD s1 a with
  | some l => match intsD (l.map Prod.snd) with
    | some (i :: is) => .ok (.val (.int (is.foldl min i))) s1
    | _ => .no
  | _ => .no
theorem ei_minValsV {td : TE} {mo : Mo AI} (hlk : ct.lk = none) (ho : Ei K ct H0 W td mo) : Ei K ct H0 W (tMinVals td) (mMinValsV mo) := fun S s σ H Q rel p =>
  ho S s σ H _ rel (Pst.bind bI p fun S1 s1 H1 x a st1 rel1 i1 p1 => by
    split at p1
    · rename_i l e
      split at p1
      · rename_i i is e2
        obtain ⟨q, kvs, rfl, h1, h2⟩ := viewD_hk hlk rel1 i1 e
        refine ⟨q, kvs, i :: is, rfl, h1, ints_rp h2.vals e2, (by simp), fun m hm hj => ?_⟩
        rw [foldl_min is i m ⟨hm, hj⟩]
        exact p1.val rel1 (.int _)
      · exact False.elim p1
    · exact False.elim p1)
variable {N : Stt → Prop} {O : Rs → Prop}
theorem w_minValsV {s : Stt} {QA : AI → Stt → Prop} {X : Exn → Stt → Prop} {m : Mo AI} (h : Wo (fun a s1 => ∃ l i is, viewD s1 a = some l ∧ intsD (l.map Prod.snd) = some (i :: is) ∧ QA (.val (.int (is.foldl min i))) s1) X (m s)) : Wo QA X (mMinValsV m s) := w_bind (w_mono h fun a s1 ⟨l, i, is, e1, e2, h⟩ => by
  show Wo QA X (match viewD s1 a with | some _ => _ | _ => _)
  rw [e1]; simp only []; rw [e2]; exact h)
theorem w_asgS2 {mo mi mo' mi' mv : Mo AI} (h : Wo (fun d s1 => ∃ x y, tupOf d = some [x, y] ∧ Wo (fun a s2 => Wo (fun i s3 => So (fun s4 => Wo (fun a s5 => Wo (fun i s6 => So N (setIt a i y s6)) (fun x s => O (.er x s)) (mV mi' s5)) (fun x s => O (.er x s)) (mo' s4)) (setIt a i x s3)) (fun x s => O (.er x s)) (mV mi s2)) (fun x s => O (.er x s)) (mo s1)) (fun x s => O (.er x s)) (mV mv s)) : Ws N O (mAsgS2 mo mi mo' mi' mv s) :=
  w_toS (w_mono h fun d s1 ⟨x, y, e, h⟩ => by
    show Ws N O (match tupOf d with | some [x, y] => mSeq (mSub mo mi x) (mSub mo' mi' y) s1 | _ => .no)
    rw [e]
    show Ws N O (mSeq (mSub mo mi x) (mSub mo' mi' y) s1)
    refine w_seq (w_toS (w_mono h fun a s2 h => w_toS (w_mono h fun i s3 h => ?_)))
    show Ws _ O (match setIt a i x s3 with | some s4 => .nx s4 | none => .no)
    cases q : setIt a i x s3 with
    | none => rw [q] at h; exact h
    | some s4 =>
      rw [q] at h
      exact w_toS (w_mono h fun a s5 h => w_toS (w_mono h fun i s6 h => by
        show Ws N O (match setIt a i y s6 with | some s4 => .nx s4 | none => .no)
        cases q : setIt a i y s6 <;> rw [q] at h <;> exact h)))
end
end Y
namespace K15
open PySem L2 Z Y
def top (i : Nat) : Stmt := PySem.Challenge.pw_tornshelf_k15_whole_none_is_less.main.body.getD i (.Pass ⟨0, 0, 0, 0⟩)
abbrev s_BadPaper_init : Stmt := (inClass (top 3) 0)
theorem sc_BadPaper_init : FnScope ["self", "words", "at"] ["self", "words", "at"] (defScope s_BadPaper_init) := ⟨rfl, rfl, rfl, by decide +kernel, rfl, by decide +kernel, by decide +kernel⟩
abbrev s_is_whole : Stmt := (top 8)
theorem sc_is_whole : FnScope ["thing"] ["thing"] (defScope s_is_whole) := ⟨rfl, rfl, rfl, by decide +kernel, rfl, by decide +kernel, by decide +kernel⟩
abbrev s_is_list_of : Stmt := (top 9)
theorem sc_is_list_of : FnScope ["thing", "low", "high", "number"] ["thing", "low", "high"] (defScope s_is_list_of) := ⟨rfl, rfl, rfl, by decide +kernel, rfl, by decide +kernel, by decide +kernel⟩
abbrev s_check_counts : Stmt := (top 10)
theorem sc_check_counts : FnScope ["counts"] ["counts"] (defScope s_check_counts) := ⟨rfl, rfl, rfl, by decide +kernel, rfl, by decide +kernel, by decide +kernel⟩
abbrev s_room_of : Stmt := (top 11)
theorem sc_room_of : FnScope ["lengths", "length"] ["lengths"] (defScope s_room_of) := ⟨rfl, rfl, rfl, by decide +kernel, rfl, by decide +kernel, by decide +kernel⟩
abbrev s_fits : Stmt := (top 12)
theorem sc_fits : FnScope ["lengths"] ["lengths"] (defScope s_fits) := ⟨rfl, rfl, rfl, by decide +kernel, rfl, by decide +kernel, by decide +kernel⟩
abbrev s_first_parts : Stmt := (top 13)
theorem sc_first_parts : FnScope ["counts", "found", "symbol", "count"] ["counts"] (defScope s_first_parts) := ⟨rfl, rfl, rfl, by decide +kernel, rfl, by decide +kernel, by decide +kernel⟩
abbrev s_least_part : Stmt := (top 14)
theorem sc_least_part : FnScope ["parts", "number", "weight"] ["parts"] (defScope s_least_part) := ⟨rfl, rfl, rfl, by decide +kernel, rfl, by decide +kernel, by decide +kernel⟩
abbrev s_pairs_of : Stmt := (top 15)
theorem sc_pairs_of : FnScope ["counts", "parts", "paper", "one", "weight", "other"] ["counts"] (defScope s_pairs_of) := ⟨rfl, rfl, rfl, by decide +kernel, rfl, by decide +kernel, by decide +kernel⟩
abbrev s_is_pair : Stmt := (top 16)
theorem sc_is_pair : FnScope ["pair", "parts", "number"] ["pair", "parts"] (defScope s_is_pair) := ⟨rfl, rfl, rfl, by decide +kernel, rfl, by decide +kernel, by decide +kernel⟩
abbrev s_put_together : Stmt := (top 17)
theorem sc_put_together : FnScope ["pair", "parts", "number", "at", "weights"] ["pair", "parts", "number", "at"] (defScope s_put_together) := ⟨rfl, rfl, rfl, by decide +kernel, rfl, by decide +kernel, by decide +kernel⟩
abbrev s_check_paper : Stmt := (top 18)
theorem sc_check_paper : FnScope ["counts", "paper", "parts", "bits", "at", "pair"] ["counts", "paper"] (defScope s_check_paper) := ⟨rfl, rfl, rfl, by decide +kernel, rfl, by decide +kernel, by decide +kernel⟩
abbrev s_lengths_by : Stmt := (top 19)
theorem sc_lengths_by : FnScope ["counts", "paper", "deep", "at", "above", "number", "found", "symbol"] ["counts", "paper"] (defScope s_lengths_by) := ⟨rfl, rfl, rfl, by decide +kernel, rfl, by decide +kernel, by decide +kernel⟩
abbrev s_least_lengths : Stmt := (top 20)
theorem sc_least_lengths : FnScope ["counts"] ["counts"] (defScope s_least_lengths) := ⟨rfl, rfl, rfl, by decide +kernel, rfl, by decide +kernel, by decide +kernel⟩
abbrev s_l_cell_at : Stmt := (top 22)
theorem sc_l_cell_at : FnScope ["_law_script", "_law_k"] ["_law_script", "_law_k"] (defScope s_l_cell_at) := ⟨rfl, rfl, rfl, by decide +kernel, rfl, by decide +kernel, by decide +kernel⟩
abbrev s_l_mixed : Stmt := (top 23)
theorem sc_l_mixed : FnScope ["_law_cell", "_law_k", "_law_number"] ["_law_cell", "_law_k"] (defScope s_l_mixed) := ⟨rfl, rfl, rfl, by decide +kernel, rfl, by decide +kernel, by decide +kernel⟩
abbrev s_l_counts : Stmt := (top 24)
theorem sc_l_counts : FnScope ["_law_head", "_law_cell", "_law_number", "_law_size", "_law_way", "_law_found", "_law_left", "_law_one", "_law_other", "_law_k", "_law_more", "_law_count"] ["_law_head", "_law_cell"] (defScope s_l_counts) := ⟨rfl, rfl, rfl, by decide +kernel, rfl, by decide +kernel, by decide +kernel⟩
abbrev s_l_bits : Stmt := (top 25)
theorem sc_l_bits : FnScope ["_law_counts_here", "_law_lengths", "_law_k"] ["_law_counts_here", "_law_lengths"] (defScope s_l_bits) := ⟨rfl, rfl, rfl, by decide +kernel, rfl, by decide +kernel, by decide +kernel⟩
abbrev s_l_by_parts : Stmt := (top 26)
theorem sc_l_by_parts : FnScope ["_law_counts_here", "_law_cell", "_law_parts", "_law_found", "_law_number", "_law_one", "_law_other", "_law_symbol", "_law_k", "_law_count"] ["_law_counts_here", "_law_cell"] (defScope s_l_by_parts) := ⟨rfl, rfl, rfl, by decide +kernel, rfl, by decide +kernel, by decide +kernel⟩
abbrev s_l_one_by_one : Stmt := (top 27)
theorem sc_l_one_by_one : FnScope ["_law_counts_here", "_law_cell", "_law_wanted", "_law_found", "_law_room", "_law_k", "_law_lacking", "_law_some", "_law_count", "_law_length"] ["_law_counts_here", "_law_cell"] (defScope s_l_one_by_one) := ⟨rfl, rfl, rfl, by decide +kernel, rfl, by decide +kernel, by decide +kernel⟩
abbrev s_l_fewest : Stmt := (top 28)
theorem sc_l_fewest : FnScope ["_law_counts_here", "_law_wanted", "_law_states", "_law_count", "_law_found", "_law_room", "_law_length", "_law_rest"] ["_law_counts_here"] (defScope s_l_fewest) := ⟨rfl, rfl, rfl, by decide +kernel, rfl, by decide +kernel, by decide +kernel⟩
abbrev s_law : Stmt := (top 29)
theorem sc_law : FnScope ["_law_script", "_law_counts_here", "_law_least", "_law_told", "_law_k", "_law_cell", "_law_other", "_law_turned", "_law_one", "_law_j", "_law_count"] ["_law_script"] (defScope s_law) := ⟨rfl, rfl, rfl, by decide +kernel, rfl, by decide +kernel, by decide +kernel⟩
/-- what the top has written -/
structure Tx (K : PySem.W.Frag) (mg : Str → Option Value) where
  a_BadPaper_init : Addr
  d_BadPaper_init : FuncData
  F_BadPaper_init : Fun K "__init__" "BadPaper.__init__" s_BadPaper_init a_BadPaper_init d_BadPaper_init
  b_BadPaper_init : Binds K d_BadPaper_init ["self", "words", "at"] []
  a_is_whole : Addr
  d_is_whole : FuncData
  F_is_whole : Fun K "is_whole" "is_whole" s_is_whole a_is_whole d_is_whole
  b_is_whole : Binds K d_is_whole ["thing"] []
  g_is_whole : mg "is_whole" = some (.ref a_is_whole)
  a_is_list_of : Addr
  d_is_list_of : FuncData
  F_is_list_of : Fun K "is_list_of" "is_list_of" s_is_list_of a_is_list_of d_is_list_of
  b_is_list_of : Binds K d_is_list_of ["thing", "low", "high"] []
  g_is_list_of : mg "is_list_of" = some (.ref a_is_list_of)
  a_check_counts : Addr
  d_check_counts : FuncData
  F_check_counts : Fun K "check_counts" "check_counts" s_check_counts a_check_counts d_check_counts
  b_check_counts : Binds K d_check_counts ["counts"] []
  g_check_counts : mg "check_counts" = some (.ref a_check_counts)
  a_room_of : Addr
  d_room_of : FuncData
  F_room_of : Fun K "room_of" "room_of" s_room_of a_room_of d_room_of
  b_room_of : Binds K d_room_of ["lengths"] []
  g_room_of : mg "room_of" = some (.ref a_room_of)
  a_fits : Addr
  d_fits : FuncData
  F_fits : Fun K "fits" "fits" s_fits a_fits d_fits
  b_fits : Binds K d_fits ["lengths"] []
  g_fits : mg "fits" = some (.ref a_fits)
  a_first_parts : Addr
  d_first_parts : FuncData
  F_first_parts : Fun K "first_parts" "first_parts" s_first_parts a_first_parts d_first_parts
  b_first_parts : Binds K d_first_parts ["counts"] []
  g_first_parts : mg "first_parts" = some (.ref a_first_parts)
  a_least_part : Addr
  d_least_part : FuncData
  F_least_part : Fun K "least_part" "least_part" s_least_part a_least_part d_least_part
  b_least_part : Binds K d_least_part ["parts"] []
  g_least_part : mg "least_part" = some (.ref a_least_part)
  a_pairs_of : Addr
  d_pairs_of : FuncData
  F_pairs_of : Fun K "pairs_of" "pairs_of" s_pairs_of a_pairs_of d_pairs_of
  b_pairs_of : Binds K d_pairs_of ["counts"] []
  g_pairs_of : mg "pairs_of" = some (.ref a_pairs_of)
  a_is_pair : Addr
  d_is_pair : FuncData
  F_is_pair : Fun K "is_pair" "is_pair" s_is_pair a_is_pair d_is_pair
  b_is_pair : Binds K d_is_pair ["pair", "parts"] []
  g_is_pair : mg "is_pair" = some (.ref a_is_pair)
  a_put_together : Addr
  d_put_together : FuncData
  F_put_together : Fun K "put_together" "put_together" s_put_together a_put_together d_put_together
  b_put_together : Binds K d_put_together ["pair", "parts", "number", "at"] []
  g_put_together : mg "put_together" = some (.ref a_put_together)
  a_check_paper : Addr
  d_check_paper : FuncData
  F_check_paper : Fun K "check_paper" "check_paper" s_check_paper a_check_paper d_check_paper
  b_check_paper : Binds K d_check_paper ["counts", "paper"] []
  g_check_paper : mg "check_paper" = some (.ref a_check_paper)
  a_lengths_by : Addr
  d_lengths_by : FuncData
  F_lengths_by : Fun K "lengths_by" "lengths_by" s_lengths_by a_lengths_by d_lengths_by
  b_lengths_by : Binds K d_lengths_by ["counts", "paper"] []
  g_lengths_by : mg "lengths_by" = some (.ref a_lengths_by)
  a_least_lengths : Addr
  d_least_lengths : FuncData
  F_least_lengths : Fun K "least_lengths" "least_lengths" s_least_lengths a_least_lengths d_least_lengths
  b_least_lengths : Binds K d_least_lengths ["counts"] []
  g_least_lengths : mg "least_lengths" = some (.ref a_least_lengths)
  a_l_cell_at : Addr
  d_l_cell_at : FuncData
  F_l_cell_at : Fun K "_law_cell_at" "_law_cell_at" s_l_cell_at a_l_cell_at d_l_cell_at
  b_l_cell_at : Binds K d_l_cell_at ["_law_script", "_law_k"] []
  g_l_cell_at : mg "_law_cell_at" = some (.ref a_l_cell_at)
  a_l_mixed : Addr
  d_l_mixed : FuncData
  F_l_mixed : Fun K "_law_mixed" "_law_mixed" s_l_mixed a_l_mixed d_l_mixed
  b_l_mixed : Binds K d_l_mixed ["_law_cell", "_law_k"] []
  g_l_mixed : mg "_law_mixed" = some (.ref a_l_mixed)
  a_l_counts : Addr
  d_l_counts : FuncData
  F_l_counts : Fun K "_law_counts" "_law_counts" s_l_counts a_l_counts d_l_counts
  b_l_counts : Binds K d_l_counts ["_law_head", "_law_cell"] []
  g_l_counts : mg "_law_counts" = some (.ref a_l_counts)
  a_l_bits : Addr
  d_l_bits : FuncData
  F_l_bits : Fun K "_law_bits" "_law_bits" s_l_bits a_l_bits d_l_bits
  b_l_bits : Binds K d_l_bits ["_law_counts_here", "_law_lengths"] []
  g_l_bits : mg "_law_bits" = some (.ref a_l_bits)
  a_l_by_parts : Addr
  d_l_by_parts : FuncData
  F_l_by_parts : Fun K "_law_by_parts" "_law_by_parts" s_l_by_parts a_l_by_parts d_l_by_parts
  b_l_by_parts : Binds K d_l_by_parts ["_law_counts_here", "_law_cell"] []
  g_l_by_parts : mg "_law_by_parts" = some (.ref a_l_by_parts)
  a_l_one_by_one : Addr
  d_l_one_by_one : FuncData
  F_l_one_by_one : Fun K "_law_one_by_one" "_law_one_by_one" s_l_one_by_one a_l_one_by_one d_l_one_by_one
  b_l_one_by_one : Binds K d_l_one_by_one ["_law_counts_here", "_law_cell"] []
  g_l_one_by_one : mg "_law_one_by_one" = some (.ref a_l_one_by_one)
  a_l_fewest : Addr
  d_l_fewest : FuncData
  F_l_fewest : Fun K "_law_fewest" "_law_fewest" s_l_fewest a_l_fewest d_l_fewest
  b_l_fewest : Binds K d_l_fewest ["_law_counts_here"] []
  g_l_fewest : mg "_law_fewest" = some (.ref a_l_fewest)
  a_law : Addr
  d_law : FuncData
  F_law : Fun K "law" "law" s_law a_law d_law
  b_law : Binds K d_law ["_law_script"] []
  g_law : mg "law" = some (.ref a_law)
  C_ShelfError : Addr
  C_BadTable : Addr
  C_BadPaper : Addr
  g_ShelfError : mg "ShelfError" = some (.ref C_ShelfError)
  k_ShelfError : PySem.W.keepIn K (.ref C_ShelfError) = true
  b_ShelfError : PySem.W.subIn K (.ref C_ShelfError) (.type "BaseException") = some true
  t_ShelfError : PySem.W.typeIn K (.ref C_ShelfError) = some (.type "type")
  i_ShelfError : PySem.W.isClsIn K C_ShelfError = true
  rd_ShelfError : PySem.W.readsIn K C_ShelfError (.type "type") = true
  ra_ShelfError : PySem.W.specialIn K (.ref C_ShelfError) "__getattribute__" = some (some (.builtin "type.__getattribute__"))
  ri_ShelfError : PySem.W.findCls K (.ref C_ShelfError) (.type "type") "__init__" = some (.val (.builtin "ValueError.__init__"))
  g_BadTable : mg "BadTable" = some (.ref C_BadTable)
  k_BadTable : PySem.W.keepIn K (.ref C_BadTable) = true
  b_BadTable : PySem.W.subIn K (.ref C_BadTable) (.type "BaseException") = some true
  t_BadTable : PySem.W.typeIn K (.ref C_BadTable) = some (.type "type")
  i_BadTable : PySem.W.isClsIn K C_BadTable = true
  x_BadTable : PySem.W.excIn K C_BadTable [.type "ValueError", .type "Exception", .type "BaseException", .type "object"] "ValueError.__new__" = true
  gb_BadTable : PySem.W.findIn K (.ref C_BadTable) "__getattribute__" = some (some (.builtin "BaseException.__getattribute__"))
  gg_BadTable : PySem.W.findIn K (.ref C_BadTable) "__getattr__" = some none
  hd_BadTable : PySem.W.hasDictIn K C_BadTable = true
  ca_BadTable : PySem.W.findIn K (.ref C_BadTable) "__class__" = some (some (.builtin "object.__class__"))
  cn_BadTable : PySem.W.specialIn K (.builtin "object.__class__") "__get__" = some (some (.builtin "getset_descriptor.__get__"))
  ct_BadTable : PySem.W.takesIn K (.builtin "object.__class__") = some true
  cm_BadTable : PySem.W.mroIn K C_BadTable (.type "object") = some true
  xc_BadTable : ExcC K C_BadTable
  g_BadPaper : mg "BadPaper" = some (.ref C_BadPaper)
  k_BadPaper : PySem.W.keepIn K (.ref C_BadPaper) = true
  b_BadPaper : PySem.W.subIn K (.ref C_BadPaper) (.type "BaseException") = some true
  t_BadPaper : PySem.W.typeIn K (.ref C_BadPaper) = some (.type "type")
  i_BadPaper : PySem.W.isClsIn K C_BadPaper = true
  sa_BadPaper : PySem.W.findIn K (.ref C_BadPaper) "__setattr__" = some (some (.builtin "object.__setattr__"))
  iC_BadPaper : PySem.W.findIn K (.ref C_BadPaper) "__init__" = some (some (.ref a_BadPaper_init))
  n_at_BadPaper : PySem.W.findIn K (.ref C_BadPaper) "at" = some none
  gb_BadPaper : PySem.W.findIn K (.ref C_BadPaper) "__getattribute__" = some (some (.builtin "BaseException.__getattribute__"))
  gg_BadPaper : PySem.W.findIn K (.ref C_BadPaper) "__getattr__" = some none
  hd_BadPaper : PySem.W.hasDictIn K C_BadPaper = true
  ca_BadPaper : PySem.W.findIn K (.ref C_BadPaper) "__class__" = some (some (.builtin "object.__class__"))
  cn_BadPaper : PySem.W.specialIn K (.builtin "object.__class__") "__get__" = some (some (.builtin "getset_descriptor.__get__"))
  ct_BadPaper : PySem.W.takesIn K (.builtin "object.__class__") = some true
  cm_BadPaper : PySem.W.mroIn K C_BadPaper (.type "object") = some true
  xc_BadPaper : ExcC K C_BadPaper
  ox_BadPaper : OexC K C_BadPaper
  tI_BadPaper : PySem.W.typeIn K (.ref a_BadPaper_init) = some (.type "function")
  z_all : mg "all" = none
  z_any : mg "any" = none
  z_bool : mg "bool" = none
  z_enumerate : mg "enumerate" = none
  z_int : mg "int" = none
  z_isinstance : mg "isinstance" = none
  z_len : mg "len" = none
  z_list : mg "list" = none
  z_max : mg "max" = none
  z_min : mg "min" = none
  z_range : mg "range" = none
  z_sorted : mg "sorted" = none
  z_sum : mg "sum" = none
  z_tuple : mg "tuple" = none
  u_MOST_SYMBOLS : Value
  m_MOST_SYMBOLS : mg "MOST_SYMBOLS" = some u_MOST_SYMBOLS
  r_MOST_SYMBOLS : RelV (.int 64) u_MOST_SYMBOLS
  u_MOST_COUNT : Value
  m_MOST_COUNT : mg "MOST_COUNT" = some u_MOST_COUNT
  r_MOST_COUNT : RelV (.int 1000) u_MOST_COUNT
  u_LONGEST : Value
  m_LONGEST : mg "LONGEST" = some u_LONGEST
  r_LONGEST : RelV (.int 15) u_LONGEST
def ctT {K : PySem.W.Frag} {mg : Str → Option Value} (T : Tx K mg) : Ct := ⟨fun n => match n with
  | 0 => T.C_ShelfError
  | 1 => T.C_BadTable
  | 2 => T.C_BadPaper
  | _ => 0, none, none⟩
def zHfnZ : He.FnD := ⟨("BadPaper", some "__init__"), "__init__", "BadPaper.__init__", defArgs s_BadPaper_init, defBody s_BadPaper_init, defScope s_BadPaper_init⟩
def zHfn0 : List He.FnD := [⟨("BadPaper", some "__init__"), "__init__", "BadPaper.__init__", defArgs s_BadPaper_init, defBody s_BadPaper_init, defScope s_BadPaper_init⟩,
  ⟨("is_whole", none), "is_whole", "is_whole", defArgs s_is_whole, defBody s_is_whole, defScope s_is_whole⟩,
  ⟨("is_list_of", none), "is_list_of", "is_list_of", defArgs s_is_list_of, defBody s_is_list_of, defScope s_is_list_of⟩,
  ⟨("check_counts", none), "check_counts", "check_counts", defArgs s_check_counts, defBody s_check_counts, defScope s_check_counts⟩,
  ⟨("room_of", none), "room_of", "room_of", defArgs s_room_of, defBody s_room_of, defScope s_room_of⟩,
  ⟨("fits", none), "fits", "fits", defArgs s_fits, defBody s_fits, defScope s_fits⟩,
  ⟨("first_parts", none), "first_parts", "first_parts", defArgs s_first_parts, defBody s_first_parts, defScope s_first_parts⟩,
  ⟨("least_part", none), "least_part", "least_part", defArgs s_least_part, defBody s_least_part, defScope s_least_part⟩,
  ⟨("pairs_of", none), "pairs_of", "pairs_of", defArgs s_pairs_of, defBody s_pairs_of, defScope s_pairs_of⟩,
  ⟨("is_pair", none), "is_pair", "is_pair", defArgs s_is_pair, defBody s_is_pair, defScope s_is_pair⟩,
  ⟨("put_together", none), "put_together", "put_together", defArgs s_put_together, defBody s_put_together, defScope s_put_together⟩,
  ⟨("check_paper", none), "check_paper", "check_paper", defArgs s_check_paper, defBody s_check_paper, defScope s_check_paper⟩,
  ⟨("lengths_by", none), "lengths_by", "lengths_by", defArgs s_lengths_by, defBody s_lengths_by, defScope s_lengths_by⟩,
  ⟨("least_lengths", none), "least_lengths", "least_lengths", defArgs s_least_lengths, defBody s_least_lengths, defScope s_least_lengths⟩,
  ⟨("_law_cell_at", none), "_law_cell_at", "_law_cell_at", defArgs s_l_cell_at, defBody s_l_cell_at, defScope s_l_cell_at⟩,
  ⟨("_law_mixed", none), "_law_mixed", "_law_mixed", defArgs s_l_mixed, defBody s_l_mixed, defScope s_l_mixed⟩,
  ⟨("_law_counts", none), "_law_counts", "_law_counts", defArgs s_l_counts, defBody s_l_counts, defScope s_l_counts⟩,
  ⟨("_law_bits", none), "_law_bits", "_law_bits", defArgs s_l_bits, defBody s_l_bits, defScope s_l_bits⟩,
  ⟨("_law_by_parts", none), "_law_by_parts", "_law_by_parts", defArgs s_l_by_parts, defBody s_l_by_parts, defScope s_l_by_parts⟩,
  ⟨("_law_one_by_one", none), "_law_one_by_one", "_law_one_by_one", defArgs s_l_one_by_one, defBody s_l_one_by_one, defScope s_l_one_by_one⟩,
  ⟨("_law_fewest", none), "_law_fewest", "_law_fewest", defArgs s_l_fewest, defBody s_l_fewest, defScope s_l_fewest⟩,
  ⟨("law", none), "law", "law", defArgs s_law, defBody s_law, defScope s_law⟩]
def zHfn : List He.FnD := zHfn0
def zHfd0 : List He.DefD := []
def zHfd : List He.DefD := zHfd0
def zHx0 : List (PySem.W.Frag → Bool) := [fun K => Hd.oexAt K (He.ga K "BadPaper") [.ref (He.ga K "ShelfError"), .type "ValueError", .type "Exception", .type "BaseException", .type "object"],
  fun K => Hd.relAt K "MOST_SYMBOLS" (V.int 64),
  fun K => Hd.relAt K "MOST_COUNT" (V.int 1000),
  fun K => Hd.relAt K "LONGEST" (V.int 15),
  fun K => decide (PySem.W.findIn K (.ref (He.ga K "BadPaper")) "__init__" = some (some (.ref (He.fAd K ("BadPaper", some "__init__"))))),
  fun K => PySem.W.isFn K (.ref (He.fAd K ("BadPaper", some "__init__"))),
  fun K => PySem.W.keepIn K (.ref (He.fAd K ("BadPaper", some "__init__"))),
  fun K => decide (PySem.W.nsIn K mainGlobals "is_whole" = some (some (.ref (He.fAd K ("is_whole", none))))),
  fun K => PySem.W.keepIn K (.ref (He.fAd K ("is_whole", none))),
  fun K => decide (PySem.W.nsIn K mainGlobals "is_list_of" = some (some (.ref (He.fAd K ("is_list_of", none))))),
  fun K => PySem.W.keepIn K (.ref (He.fAd K ("is_list_of", none))),
  fun K => decide (PySem.W.nsIn K mainGlobals "check_counts" = some (some (.ref (He.fAd K ("check_counts", none))))),
  fun K => PySem.W.keepIn K (.ref (He.fAd K ("check_counts", none))),
  fun K => decide (PySem.W.nsIn K mainGlobals "room_of" = some (some (.ref (He.fAd K ("room_of", none))))),
  fun K => PySem.W.keepIn K (.ref (He.fAd K ("room_of", none))),
  fun K => decide (PySem.W.nsIn K mainGlobals "fits" = some (some (.ref (He.fAd K ("fits", none))))),
  fun K => PySem.W.keepIn K (.ref (He.fAd K ("fits", none))),
  fun K => decide (PySem.W.nsIn K mainGlobals "first_parts" = some (some (.ref (He.fAd K ("first_parts", none))))),
  fun K => PySem.W.keepIn K (.ref (He.fAd K ("first_parts", none))),
  fun K => decide (PySem.W.nsIn K mainGlobals "least_part" = some (some (.ref (He.fAd K ("least_part", none))))),
  fun K => PySem.W.keepIn K (.ref (He.fAd K ("least_part", none))),
  fun K => decide (PySem.W.nsIn K mainGlobals "pairs_of" = some (some (.ref (He.fAd K ("pairs_of", none))))),
  fun K => PySem.W.keepIn K (.ref (He.fAd K ("pairs_of", none))),
  fun K => decide (PySem.W.nsIn K mainGlobals "is_pair" = some (some (.ref (He.fAd K ("is_pair", none))))),
  fun K => PySem.W.keepIn K (.ref (He.fAd K ("is_pair", none))),
  fun K => decide (PySem.W.nsIn K mainGlobals "put_together" = some (some (.ref (He.fAd K ("put_together", none))))),
  fun K => PySem.W.keepIn K (.ref (He.fAd K ("put_together", none))),
  fun K => decide (PySem.W.nsIn K mainGlobals "check_paper" = some (some (.ref (He.fAd K ("check_paper", none))))),
  fun K => PySem.W.keepIn K (.ref (He.fAd K ("check_paper", none))),
  fun K => decide (PySem.W.nsIn K mainGlobals "lengths_by" = some (some (.ref (He.fAd K ("lengths_by", none))))),
  fun K => PySem.W.keepIn K (.ref (He.fAd K ("lengths_by", none))),
  fun K => decide (PySem.W.nsIn K mainGlobals "least_lengths" = some (some (.ref (He.fAd K ("least_lengths", none))))),
  fun K => PySem.W.keepIn K (.ref (He.fAd K ("least_lengths", none))),
  fun K => decide (PySem.W.nsIn K mainGlobals "_law_cell_at" = some (some (.ref (He.fAd K ("_law_cell_at", none))))),
  fun K => PySem.W.keepIn K (.ref (He.fAd K ("_law_cell_at", none))),
  fun K => decide (PySem.W.nsIn K mainGlobals "_law_mixed" = some (some (.ref (He.fAd K ("_law_mixed", none))))),
  fun K => PySem.W.keepIn K (.ref (He.fAd K ("_law_mixed", none))),
  fun K => decide (PySem.W.nsIn K mainGlobals "_law_counts" = some (some (.ref (He.fAd K ("_law_counts", none))))),
  fun K => PySem.W.keepIn K (.ref (He.fAd K ("_law_counts", none))),
  fun K => decide (PySem.W.nsIn K mainGlobals "_law_bits" = some (some (.ref (He.fAd K ("_law_bits", none)))))]
def zHx1 : List (PySem.W.Frag → Bool) := [fun K => PySem.W.keepIn K (.ref (He.fAd K ("_law_bits", none))),
  fun K => decide (PySem.W.nsIn K mainGlobals "_law_by_parts" = some (some (.ref (He.fAd K ("_law_by_parts", none))))),
  fun K => PySem.W.keepIn K (.ref (He.fAd K ("_law_by_parts", none))),
  fun K => decide (PySem.W.nsIn K mainGlobals "_law_one_by_one" = some (some (.ref (He.fAd K ("_law_one_by_one", none))))),
  fun K => PySem.W.keepIn K (.ref (He.fAd K ("_law_one_by_one", none))),
  fun K => decide (PySem.W.nsIn K mainGlobals "_law_fewest" = some (some (.ref (He.fAd K ("_law_fewest", none))))),
  fun K => PySem.W.keepIn K (.ref (He.fAd K ("_law_fewest", none))),
  fun K => decide (PySem.W.nsIn K mainGlobals "law" = some (some (.ref (He.fAd K ("law", none))))),
  fun K => PySem.W.keepIn K (.ref (He.fAd K ("law", none))),
  fun K => decide (PySem.W.nsIn K mainGlobals "ShelfError" = some (some (.ref (He.ga K "ShelfError")))),
  fun K => PySem.W.keepIn K (.ref (He.ga K "ShelfError")),
  fun K => decide (PySem.W.subIn K (.ref (He.ga K "ShelfError")) (.type "BaseException") = some true),
  fun K => decide (PySem.W.typeIn K (.ref (He.ga K "ShelfError")) = some (.type "type")),
  fun K => PySem.W.isClsIn K (He.ga K "ShelfError"),
  fun K => PySem.W.readsIn K (He.ga K "ShelfError") (.type "type"),
  fun K => decide (PySem.W.specialIn K (.ref (He.ga K "ShelfError")) "__getattribute__" = some (some (.builtin "type.__getattribute__"))),
  fun K => Hd.cfAt (PySem.W.findCls K (.ref (He.ga K "ShelfError")) (.type "type") "__init__") "ValueError.__init__",
  fun K => decide (PySem.W.nsIn K mainGlobals "BadTable" = some (some (.ref (He.ga K "BadTable")))),
  fun K => PySem.W.keepIn K (.ref (He.ga K "BadTable")),
  fun K => decide (PySem.W.subIn K (.ref (He.ga K "BadTable")) (.type "BaseException") = some true),
  fun K => decide (PySem.W.typeIn K (.ref (He.ga K "BadTable")) = some (.type "type")),
  fun K => PySem.W.isClsIn K (He.ga K "BadTable"),
  fun K => PySem.W.excIn K (He.ga K "BadTable") [.type "ValueError", .type "Exception", .type "BaseException", .type "object"] "ValueError.__new__",
  fun K => decide (PySem.W.findIn K (.ref (He.ga K "BadTable")) "__getattribute__" = some (some (.builtin "BaseException.__getattribute__"))),
  fun K => decide (PySem.W.findIn K (.ref (He.ga K "BadTable")) "__getattr__" = some none),
  fun K => PySem.W.hasDictIn K (He.ga K "BadTable"),
  fun K => decide (PySem.W.findIn K (.ref (He.ga K "BadTable")) "__class__" = some (some (.builtin "object.__class__"))),
  fun K => decide (PySem.W.specialIn K (.builtin "object.__class__") "__get__" = some (some (.builtin "getset_descriptor.__get__"))),
  fun K => decide (PySem.W.takesIn K (.builtin "object.__class__") = some true),
  fun K => decide (PySem.W.mroIn K (He.ga K "BadTable") (.type "object") = some true),
  fun K => decide (PySem.W.nsIn K mainGlobals "BadPaper" = some (some (.ref (He.ga K "BadPaper")))),
  fun K => PySem.W.keepIn K (.ref (He.ga K "BadPaper")),
  fun K => decide (PySem.W.subIn K (.ref (He.ga K "BadPaper")) (.type "BaseException") = some true),
  fun K => decide (PySem.W.typeIn K (.ref (He.ga K "BadPaper")) = some (.type "type")),
  fun K => PySem.W.isClsIn K (He.ga K "BadPaper"),
  fun K => decide (PySem.W.findIn K (.ref (He.ga K "BadPaper")) "__setattr__" = some (some (.builtin "object.__setattr__"))),
  fun K => decide (PySem.W.findIn K (.ref (He.ga K "BadPaper")) "at" = some none),
  fun K => decide (PySem.W.findIn K (.ref (He.ga K "BadPaper")) "__getattribute__" = some (some (.builtin "BaseException.__getattribute__"))),
  fun K => decide (PySem.W.findIn K (.ref (He.ga K "BadPaper")) "__getattr__" = some none),
  fun K => PySem.W.hasDictIn K (He.ga K "BadPaper")]
def zHx2 : List (PySem.W.Frag → Bool) := [fun K => decide (PySem.W.findIn K (.ref (He.ga K "BadPaper")) "__class__" = some (some (.builtin "object.__class__"))),
  fun K => decide (PySem.W.specialIn K (.builtin "object.__class__") "__get__" = some (some (.builtin "getset_descriptor.__get__"))),
  fun K => decide (PySem.W.takesIn K (.builtin "object.__class__") = some true),
  fun K => decide (PySem.W.mroIn K (He.ga K "BadPaper") (.type "object") = some true),
  fun K => decide (PySem.W.nsIn K mainGlobals "all" = some none),
  fun K => decide (PySem.W.nsIn K mainGlobals "any" = some none),
  fun K => decide (PySem.W.nsIn K mainGlobals "bool" = some none),
  fun K => decide (PySem.W.nsIn K mainGlobals "enumerate" = some none),
  fun K => decide (PySem.W.nsIn K mainGlobals "int" = some none),
  fun K => decide (PySem.W.nsIn K mainGlobals "isinstance" = some none),
  fun K => decide (PySem.W.nsIn K mainGlobals "len" = some none),
  fun K => decide (PySem.W.nsIn K mainGlobals "list" = some none),
  fun K => decide (PySem.W.nsIn K mainGlobals "max" = some none),
  fun K => decide (PySem.W.nsIn K mainGlobals "min" = some none),
  fun K => decide (PySem.W.nsIn K mainGlobals "range" = some none),
  fun K => decide (PySem.W.nsIn K mainGlobals "sorted" = some none),
  fun K => decide (PySem.W.nsIn K mainGlobals "sum" = some none),
  fun K => decide (PySem.W.nsIn K mainGlobals "tuple" = some none)]
def zHx : Hd.Ex := [zHx0, zHx1, zHx2]
def zHl0 : List Str := [(Str.ofString "ShelfError"),
  (Str.ofString "BadTable"),
  (Str.ofString "BadPaper"),
  (Str.ofString "MOST_SYMBOLS"),
  (Str.ofString "MOST_COUNT"),
  (Str.ofString "LONGEST"),
  (Str.ofString "is_whole"),
  (Str.ofString "is_list_of"),
  (Str.ofString "check_counts"),
  (Str.ofString "room_of"),
  (Str.ofString "fits"),
  (Str.ofString "first_parts"),
  (Str.ofString "least_part"),
  (Str.ofString "pairs_of"),
  (Str.ofString "is_pair"),
  (Str.ofString "put_together"),
  (Str.ofString "check_paper"),
  (Str.ofString "lengths_by"),
  (Str.ofString "least_lengths"),
  (Str.ofString "_law_cell_at"),
  (Str.ofString "_law_mixed"),
  (Str.ofString "_law_counts"),
  (Str.ofString "_law_bits"),
  (Str.ofString "_law_by_parts"),
  (Str.ofString "_law_one_by_one"),
  (Str.ofString "_law_fewest")]
def zHl : List Str := zHl0
abbrev zHr : PySem.W.OpenRow := PySem.W.OpenLaw.row PySem.Challenge.rw_tornshelf_k15_whole_none_is_less
abbrev zHk : PySem.W.Hook := Hd.hook 4 zHfn zHfd zHx
def zHob (s : PySem.W.SharedT) : Hd.Al := Hd.obsG 4 zHfn zHfd zHx (HandSHeadRun.getT s)
theorem zHob_eq (s : PySem.W.SharedT) : zHob s = zHk.obs s.abs := Hd.obsG_eq (HandSHeadRun.getT_eq s)
set_option maxHeartbeats 0 in
theorem zHrun (w : World) : HandSHeadRun.RunEq zHr (PySem.W.view zHr.prog [29]) zHk zHob 20000 zHl w := by
  intro os
  kernel_rfl
def spLaw (K : PySem.W.Frag) : Sp := fun vs H Q _ => ∃ (a : Addr) (ns : List Int), vs = [.ref a] ∧ SqL K H a (ns.map V.int) ∧ ns.length ≤ 63 ∧ ND H ∧ ∀ H', Q (.bl true) H'
theorem all_mk {l : PySem.W.OpenLaw} {w : World} {K : PySem.W.Frag} {h : Heap} {mg : Str → Option Value} {fa f0 f1 f2 f3 f4 f5 f6 f7 f8 f9 f10 f11 f12 f13 f14 f15 f16 f17 f18 f19 f20 f21 C_ShelfError C_BadTable C_BadPaper : Addr} (hlaw : ∀ {P : Program} {w : World} {K : PySem.W.Frag} {mg : Str → Option Value} {base : Heap} (T : Tx K mg), FnOk P w K mg base CX0 7 T.a_law T.d_law ["_law_script"] (spLaw K)) (X : K.In h) (G : h.Ns mainGlobals mg) (hfa : mg "law" = some (.ref fa))
    {od0 an0 : Option Addr} {sl0 : Array (Option Value)} {oc0 kV0 dc0 pm0 cd0 ct0 : Value}
    {od1 an1 : Option Addr} {sl1 : Array (Option Value)} {oc1 kV1 dc1 pm1 cd1 ct1 : Value}
    {od2 an2 : Option Addr} {sl2 : Array (Option Value)} {oc2 kV2 dc2 pm2 cd2 ct2 : Value}
    {od3 an3 : Option Addr} {sl3 : Array (Option Value)} {oc3 kV3 dc3 pm3 cd3 ct3 : Value}
    {od4 an4 : Option Addr} {sl4 : Array (Option Value)} {oc4 kV4 dc4 pm4 cd4 ct4 : Value}
    {od5 an5 : Option Addr} {sl5 : Array (Option Value)} {oc5 kV5 dc5 pm5 cd5 ct5 : Value}
    {od6 an6 : Option Addr} {sl6 : Array (Option Value)} {oc6 kV6 dc6 pm6 cd6 ct6 : Value}
    {od7 an7 : Option Addr} {sl7 : Array (Option Value)} {oc7 kV7 dc7 pm7 cd7 ct7 : Value}
    {od8 an8 : Option Addr} {sl8 : Array (Option Value)} {oc8 kV8 dc8 pm8 cd8 ct8 : Value}
    {od9 an9 : Option Addr} {sl9 : Array (Option Value)} {oc9 kV9 dc9 pm9 cd9 ct9 : Value}
    {od10 an10 : Option Addr} {sl10 : Array (Option Value)} {oc10 kV10 dc10 pm10 cd10 ct10 : Value}
    {od11 an11 : Option Addr} {sl11 : Array (Option Value)} {oc11 kV11 dc11 pm11 cd11 ct11 : Value}
    {od12 an12 : Option Addr} {sl12 : Array (Option Value)} {oc12 kV12 dc12 pm12 cd12 ct12 : Value}
    {od13 an13 : Option Addr} {sl13 : Array (Option Value)} {oc13 kV13 dc13 pm13 cd13 ct13 : Value}
    {od14 an14 : Option Addr} {sl14 : Array (Option Value)} {oc14 kV14 dc14 pm14 cd14 ct14 : Value}
    {od15 an15 : Option Addr} {sl15 : Array (Option Value)} {oc15 kV15 dc15 pm15 cd15 ct15 : Value}
    {od16 an16 : Option Addr} {sl16 : Array (Option Value)} {oc16 kV16 dc16 pm16 cd16 ct16 : Value}
    {od17 an17 : Option Addr} {sl17 : Array (Option Value)} {oc17 kV17 dc17 pm17 cd17 ct17 : Value}
    {od18 an18 : Option Addr} {sl18 : Array (Option Value)} {oc18 kV18 dc18 pm18 cd18 ct18 : Value}
    {od19 an19 : Option Addr} {sl19 : Array (Option Value)} {oc19 kV19 dc19 pm19 cd19 ct19 : Value}
    {od20 an20 : Option Addr} {sl20 : Array (Option Value)} {oc20 kV20 dc20 pm20 cd20 ct20 : Value}
    {od21 an21 : Option Addr} {sl21 : Array (Option Value)} {oc21 kV21 dc21 pm21 cd21 ct21 : Value}
    {nm_BadPaper q_BadPaper : Str} {N_BadPaper : Addr} {bs_BadPaper : List Value} {sn_BadPaper : List Str} {sub_BadPaper : List Value} {ab_BadPaper : Bool} {col_BadPaper : Option Bool} {dd_BadPaper : Option Addr} {m0_BadPaper m1_BadPaper m2_BadPaper m3_BadPaper m5_BadPaper : Option Value}
    {u_MOST_SYMBOLS : Value}
    {u_MOST_COUNT : Value}
    {u_LONGEST : Value}
    (a0 : PySem.W.findIn K (.ref C_BadPaper) "__init__" = some (some (.ref f0)))
    (i0 : PySem.W.isFn K (.ref f0) = true)
    (l0 : K.lookup f0 = some ⟨oc0, od0, .func (PySem.W.fnOf "__init__" "BadPaper.__init__" (defArgs s_BadPaper_init) (defBody s_BadPaper_init) (defScope s_BadPaper_init) .none kV0 dc0 pm0 an0 cd0 ct0), sl0⟩)
    (c0 : PySem.W.codeIn K cd0 "BadPaper.__init__" = true) (k0 : PySem.W.keepIn K (.ref f0) = true)
    (a1 : PySem.W.nsIn K mainGlobals "is_whole" = some (some (.ref f1)))
    (l1 : K.lookup f1 = some ⟨oc1, od1, .func (PySem.W.fnOf "is_whole" "is_whole" (defArgs s_is_whole) (defBody s_is_whole) (defScope s_is_whole) .none kV1 dc1 pm1 an1 cd1 ct1), sl1⟩)
    (c1 : PySem.W.codeIn K cd1 "is_whole" = true) (k1 : PySem.W.keepIn K (.ref f1) = true)
    (a2 : PySem.W.nsIn K mainGlobals "is_list_of" = some (some (.ref f2)))
    (l2 : K.lookup f2 = some ⟨oc2, od2, .func (PySem.W.fnOf "is_list_of" "is_list_of" (defArgs s_is_list_of) (defBody s_is_list_of) (defScope s_is_list_of) .none kV2 dc2 pm2 an2 cd2 ct2), sl2⟩)
    (c2 : PySem.W.codeIn K cd2 "is_list_of" = true) (k2 : PySem.W.keepIn K (.ref f2) = true)
    (a3 : PySem.W.nsIn K mainGlobals "check_counts" = some (some (.ref f3)))
    (l3 : K.lookup f3 = some ⟨oc3, od3, .func (PySem.W.fnOf "check_counts" "check_counts" (defArgs s_check_counts) (defBody s_check_counts) (defScope s_check_counts) .none kV3 dc3 pm3 an3 cd3 ct3), sl3⟩)
    (c3 : PySem.W.codeIn K cd3 "check_counts" = true) (k3 : PySem.W.keepIn K (.ref f3) = true)
    (a4 : PySem.W.nsIn K mainGlobals "room_of" = some (some (.ref f4)))
    (l4 : K.lookup f4 = some ⟨oc4, od4, .func (PySem.W.fnOf "room_of" "room_of" (defArgs s_room_of) (defBody s_room_of) (defScope s_room_of) .none kV4 dc4 pm4 an4 cd4 ct4), sl4⟩)
    (c4 : PySem.W.codeIn K cd4 "room_of" = true) (k4 : PySem.W.keepIn K (.ref f4) = true)
    (a5 : PySem.W.nsIn K mainGlobals "fits" = some (some (.ref f5)))
    (l5 : K.lookup f5 = some ⟨oc5, od5, .func (PySem.W.fnOf "fits" "fits" (defArgs s_fits) (defBody s_fits) (defScope s_fits) .none kV5 dc5 pm5 an5 cd5 ct5), sl5⟩)
    (c5 : PySem.W.codeIn K cd5 "fits" = true) (k5 : PySem.W.keepIn K (.ref f5) = true)
    (a6 : PySem.W.nsIn K mainGlobals "first_parts" = some (some (.ref f6)))
    (l6 : K.lookup f6 = some ⟨oc6, od6, .func (PySem.W.fnOf "first_parts" "first_parts" (defArgs s_first_parts) (defBody s_first_parts) (defScope s_first_parts) .none kV6 dc6 pm6 an6 cd6 ct6), sl6⟩)
    (c6 : PySem.W.codeIn K cd6 "first_parts" = true) (k6 : PySem.W.keepIn K (.ref f6) = true)
    (a7 : PySem.W.nsIn K mainGlobals "least_part" = some (some (.ref f7)))
    (l7 : K.lookup f7 = some ⟨oc7, od7, .func (PySem.W.fnOf "least_part" "least_part" (defArgs s_least_part) (defBody s_least_part) (defScope s_least_part) .none kV7 dc7 pm7 an7 cd7 ct7), sl7⟩)
    (c7 : PySem.W.codeIn K cd7 "least_part" = true) (k7 : PySem.W.keepIn K (.ref f7) = true)
    (a8 : PySem.W.nsIn K mainGlobals "pairs_of" = some (some (.ref f8)))
    (l8 : K.lookup f8 = some ⟨oc8, od8, .func (PySem.W.fnOf "pairs_of" "pairs_of" (defArgs s_pairs_of) (defBody s_pairs_of) (defScope s_pairs_of) .none kV8 dc8 pm8 an8 cd8 ct8), sl8⟩)
    (c8 : PySem.W.codeIn K cd8 "pairs_of" = true) (k8 : PySem.W.keepIn K (.ref f8) = true)
    (a9 : PySem.W.nsIn K mainGlobals "is_pair" = some (some (.ref f9)))
    (l9 : K.lookup f9 = some ⟨oc9, od9, .func (PySem.W.fnOf "is_pair" "is_pair" (defArgs s_is_pair) (defBody s_is_pair) (defScope s_is_pair) .none kV9 dc9 pm9 an9 cd9 ct9), sl9⟩)
    (c9 : PySem.W.codeIn K cd9 "is_pair" = true) (k9 : PySem.W.keepIn K (.ref f9) = true)
    (a10 : PySem.W.nsIn K mainGlobals "put_together" = some (some (.ref f10)))
    (l10 : K.lookup f10 = some ⟨oc10, od10, .func (PySem.W.fnOf "put_together" "put_together" (defArgs s_put_together) (defBody s_put_together) (defScope s_put_together) .none kV10 dc10 pm10 an10 cd10 ct10), sl10⟩)
    (c10 : PySem.W.codeIn K cd10 "put_together" = true) (k10 : PySem.W.keepIn K (.ref f10) = true)
    (a11 : PySem.W.nsIn K mainGlobals "check_paper" = some (some (.ref f11)))
    (l11 : K.lookup f11 = some ⟨oc11, od11, .func (PySem.W.fnOf "check_paper" "check_paper" (defArgs s_check_paper) (defBody s_check_paper) (defScope s_check_paper) .none kV11 dc11 pm11 an11 cd11 ct11), sl11⟩)
    (c11 : PySem.W.codeIn K cd11 "check_paper" = true) (k11 : PySem.W.keepIn K (.ref f11) = true)
    (a12 : PySem.W.nsIn K mainGlobals "lengths_by" = some (some (.ref f12)))
    (l12 : K.lookup f12 = some ⟨oc12, od12, .func (PySem.W.fnOf "lengths_by" "lengths_by" (defArgs s_lengths_by) (defBody s_lengths_by) (defScope s_lengths_by) .none kV12 dc12 pm12 an12 cd12 ct12), sl12⟩)
    (c12 : PySem.W.codeIn K cd12 "lengths_by" = true) (k12 : PySem.W.keepIn K (.ref f12) = true)
    (a13 : PySem.W.nsIn K mainGlobals "least_lengths" = some (some (.ref f13)))
    (l13 : K.lookup f13 = some ⟨oc13, od13, .func (PySem.W.fnOf "least_lengths" "least_lengths" (defArgs s_least_lengths) (defBody s_least_lengths) (defScope s_least_lengths) .none kV13 dc13 pm13 an13 cd13 ct13), sl13⟩)
    (c13 : PySem.W.codeIn K cd13 "least_lengths" = true) (k13 : PySem.W.keepIn K (.ref f13) = true)
    (a14 : PySem.W.nsIn K mainGlobals "_law_cell_at" = some (some (.ref f14)))
    (l14 : K.lookup f14 = some ⟨oc14, od14, .func (PySem.W.fnOf "_law_cell_at" "_law_cell_at" (defArgs s_l_cell_at) (defBody s_l_cell_at) (defScope s_l_cell_at) .none kV14 dc14 pm14 an14 cd14 ct14), sl14⟩)
    (c14 : PySem.W.codeIn K cd14 "_law_cell_at" = true) (k14 : PySem.W.keepIn K (.ref f14) = true)
    (a15 : PySem.W.nsIn K mainGlobals "_law_mixed" = some (some (.ref f15)))
    (l15 : K.lookup f15 = some ⟨oc15, od15, .func (PySem.W.fnOf "_law_mixed" "_law_mixed" (defArgs s_l_mixed) (defBody s_l_mixed) (defScope s_l_mixed) .none kV15 dc15 pm15 an15 cd15 ct15), sl15⟩)
    (c15 : PySem.W.codeIn K cd15 "_law_mixed" = true) (k15 : PySem.W.keepIn K (.ref f15) = true)
    (a16 : PySem.W.nsIn K mainGlobals "_law_counts" = some (some (.ref f16)))
    (l16 : K.lookup f16 = some ⟨oc16, od16, .func (PySem.W.fnOf "_law_counts" "_law_counts" (defArgs s_l_counts) (defBody s_l_counts) (defScope s_l_counts) .none kV16 dc16 pm16 an16 cd16 ct16), sl16⟩)
    (c16 : PySem.W.codeIn K cd16 "_law_counts" = true) (k16 : PySem.W.keepIn K (.ref f16) = true)
    (a17 : PySem.W.nsIn K mainGlobals "_law_bits" = some (some (.ref f17)))
    (l17 : K.lookup f17 = some ⟨oc17, od17, .func (PySem.W.fnOf "_law_bits" "_law_bits" (defArgs s_l_bits) (defBody s_l_bits) (defScope s_l_bits) .none kV17 dc17 pm17 an17 cd17 ct17), sl17⟩)
    (c17 : PySem.W.codeIn K cd17 "_law_bits" = true) (k17 : PySem.W.keepIn K (.ref f17) = true)
    (a18 : PySem.W.nsIn K mainGlobals "_law_by_parts" = some (some (.ref f18)))
    (l18 : K.lookup f18 = some ⟨oc18, od18, .func (PySem.W.fnOf "_law_by_parts" "_law_by_parts" (defArgs s_l_by_parts) (defBody s_l_by_parts) (defScope s_l_by_parts) .none kV18 dc18 pm18 an18 cd18 ct18), sl18⟩)
    (c18 : PySem.W.codeIn K cd18 "_law_by_parts" = true) (k18 : PySem.W.keepIn K (.ref f18) = true)
    (a19 : PySem.W.nsIn K mainGlobals "_law_one_by_one" = some (some (.ref f19)))
    (l19 : K.lookup f19 = some ⟨oc19, od19, .func (PySem.W.fnOf "_law_one_by_one" "_law_one_by_one" (defArgs s_l_one_by_one) (defBody s_l_one_by_one) (defScope s_l_one_by_one) .none kV19 dc19 pm19 an19 cd19 ct19), sl19⟩)
    (c19 : PySem.W.codeIn K cd19 "_law_one_by_one" = true) (k19 : PySem.W.keepIn K (.ref f19) = true)
    (a20 : PySem.W.nsIn K mainGlobals "_law_fewest" = some (some (.ref f20)))
    (l20 : K.lookup f20 = some ⟨oc20, od20, .func (PySem.W.fnOf "_law_fewest" "_law_fewest" (defArgs s_l_fewest) (defBody s_l_fewest) (defScope s_l_fewest) .none kV20 dc20 pm20 an20 cd20 ct20), sl20⟩)
    (c20 : PySem.W.codeIn K cd20 "_law_fewest" = true) (k20 : PySem.W.keepIn K (.ref f20) = true)
    (a21 : PySem.W.nsIn K mainGlobals "law" = some (some (.ref f21)))
    (l21 : K.lookup f21 = some ⟨oc21, od21, .func (PySem.W.fnOf "law" "law" (defArgs s_law) (defBody s_law) (defScope s_law) .none kV21 dc21 pm21 an21 cd21 ct21), sl21⟩)
    (c21 : PySem.W.codeIn K cd21 "law" = true) (k21 : PySem.W.keepIn K (.ref f21) = true)
    (qC_ShelfError : PySem.W.nsIn K mainGlobals "ShelfError" = some (some (.ref C_ShelfError)))
    (k_ShelfError : PySem.W.keepIn K (.ref C_ShelfError) = true)
    (b_ShelfError : PySem.W.subIn K (.ref C_ShelfError) (.type "BaseException") = some true)
    (t_ShelfError : PySem.W.typeIn K (.ref C_ShelfError) = some (.type "type"))
    (i_ShelfError : PySem.W.isClsIn K C_ShelfError = true)
    (rd_ShelfError : PySem.W.readsIn K C_ShelfError (.type "type") = true)
    (ra_ShelfError : PySem.W.specialIn K (.ref C_ShelfError) "__getattribute__" = some (some (.builtin "type.__getattribute__")))
    (ri_ShelfError : PySem.W.findCls K (.ref C_ShelfError) (.type "type") "__init__" = some (.val (.builtin "ValueError.__init__")))
    (qC_BadTable : PySem.W.nsIn K mainGlobals "BadTable" = some (some (.ref C_BadTable)))
    (k_BadTable : PySem.W.keepIn K (.ref C_BadTable) = true)
    (b_BadTable : PySem.W.subIn K (.ref C_BadTable) (.type "BaseException") = some true)
    (t_BadTable : PySem.W.typeIn K (.ref C_BadTable) = some (.type "type"))
    (i_BadTable : PySem.W.isClsIn K C_BadTable = true)
    (x_BadTable : PySem.W.excIn K C_BadTable [.type "ValueError", .type "Exception", .type "BaseException", .type "object"] "ValueError.__new__" = true)
    (gb_BadTable : PySem.W.findIn K (.ref C_BadTable) "__getattribute__" = some (some (.builtin "BaseException.__getattribute__")))
    (gg_BadTable : PySem.W.findIn K (.ref C_BadTable) "__getattr__" = some none)
    (hd_BadTable : PySem.W.hasDictIn K C_BadTable = true)
    (ca_BadTable : PySem.W.findIn K (.ref C_BadTable) "__class__" = some (some (.builtin "object.__class__")))
    (cn_BadTable : PySem.W.specialIn K (.builtin "object.__class__") "__get__" = some (some (.builtin "getset_descriptor.__get__")))
    (ct_BadTable : PySem.W.takesIn K (.builtin "object.__class__") = some true)
    (cm_BadTable : PySem.W.mroIn K C_BadTable (.type "object") = some true)
    (qC_BadPaper : PySem.W.nsIn K mainGlobals "BadPaper" = some (some (.ref C_BadPaper)))
    (k_BadPaper : PySem.W.keepIn K (.ref C_BadPaper) = true)
    (b_BadPaper : PySem.W.subIn K (.ref C_BadPaper) (.type "BaseException") = some true)
    (t_BadPaper : PySem.W.typeIn K (.ref C_BadPaper) = some (.type "type"))
    (i_BadPaper : PySem.W.isClsIn K C_BadPaper = true)
    (sa_BadPaper : PySem.W.findIn K (.ref C_BadPaper) "__setattr__" = some (some (.builtin "object.__setattr__")))
    (n_at_BadPaper : PySem.W.findIn K (.ref C_BadPaper) "at" = some none)
    (gb_BadPaper : PySem.W.findIn K (.ref C_BadPaper) "__getattribute__" = some (some (.builtin "BaseException.__getattribute__")))
    (gg_BadPaper : PySem.W.findIn K (.ref C_BadPaper) "__getattr__" = some none)
    (hd_BadPaper : PySem.W.hasDictIn K C_BadPaper = true)
    (ca_BadPaper : PySem.W.findIn K (.ref C_BadPaper) "__class__" = some (some (.builtin "object.__class__")))
    (cn_BadPaper : PySem.W.specialIn K (.builtin "object.__class__") "__get__" = some (some (.builtin "getset_descriptor.__get__")))
    (ct_BadPaper : PySem.W.takesIn K (.builtin "object.__class__") = some true)
    (cm_BadPaper : PySem.W.mroIn K C_BadPaper (.type "object") = some true)
    (xL_BadPaper : K.lookup C_BadPaper = some (PySem.excClassObj nm_BadPaper q_BadPaper C_BadPaper N_BadPaper bs_BadPaper [.ref C_ShelfError, .type "ValueError", .type "Exception", .type "BaseException", .type "object"] true sn_BadPaper sub_BadPaper ab_BadPaper col_BadPaper dd_BadPaper m0_BadPaper m1_BadPaper m2_BadPaper m3_BadPaper m5_BadPaper "ValueError.__new__"))
    (z_all : PySem.W.nsIn K mainGlobals "all" = some none)
    (z_any : PySem.W.nsIn K mainGlobals "any" = some none)
    (z_bool : PySem.W.nsIn K mainGlobals "bool" = some none)
    (z_enumerate : PySem.W.nsIn K mainGlobals "enumerate" = some none)
    (z_int : PySem.W.nsIn K mainGlobals "int" = some none)
    (z_isinstance : PySem.W.nsIn K mainGlobals "isinstance" = some none)
    (z_len : PySem.W.nsIn K mainGlobals "len" = some none)
    (z_list : PySem.W.nsIn K mainGlobals "list" = some none)
    (z_max : PySem.W.nsIn K mainGlobals "max" = some none)
    (z_min : PySem.W.nsIn K mainGlobals "min" = some none)
    (z_range : PySem.W.nsIn K mainGlobals "range" = some none)
    (z_sorted : PySem.W.nsIn K mainGlobals "sorted" = some none)
    (z_sum : PySem.W.nsIn K mainGlobals "sum" = some none)
    (z_tuple : PySem.W.nsIn K mainGlobals "tuple" = some none)
    (m_MOST_SYMBOLS : PySem.W.nsIn K mainGlobals "MOST_SYMBOLS" = some (some u_MOST_SYMBOLS)) (r_MOST_SYMBOLS : RelV (.int 64) u_MOST_SYMBOLS)
    (m_MOST_COUNT : PySem.W.nsIn K mainGlobals "MOST_COUNT" = some (some u_MOST_COUNT)) (r_MOST_COUNT : RelV (.int 1000) u_MOST_COUNT)
    (m_LONGEST : PySem.W.nsIn K mainGlobals "LONGEST" = some (some u_LONGEST)) (r_LONGEST : RelV (.int 15) u_LONGEST) :
    ∃ fd : FuncData, (∀ (s : Shared) (v : Value), BindsTo s fd ⟨[v], []⟩ [("_law_script", v)]) ∧ ∀ base : Heap, K.In base → base.Ns mainGlobals mg → FnOk l.prog w K mg base CX0 7 fa fd ["_law_script"] (spLaw K) := by
  have e := hfa.symm.trans (PySem.W.mg_of X G a21)
  cases e
  have F0 := fun_mk (st := s_BadPaper_init) l0 c0 k0
  have b0 := F0.binds (ps := ["self", "words", "at"]) fun _ _ _ _ _ _ us hl => match us, hl with | [_, _, _], _ => rfl
  have F1 := fun_mk (st := s_is_whole) l1 c1 k1
  have b1 := F1.binds (ps := ["thing"]) fun _ _ _ _ _ _ us hl => match us, hl with | [_], _ => rfl
  have F2 := fun_mk (st := s_is_list_of) l2 c2 k2
  have b2 := F2.binds (ps := ["thing", "low", "high"]) fun _ _ _ _ _ _ us hl => match us, hl with | [_, _, _], _ => rfl
  have F3 := fun_mk (st := s_check_counts) l3 c3 k3
  have b3 := F3.binds (ps := ["counts"]) fun _ _ _ _ _ _ us hl => match us, hl with | [_], _ => rfl
  have F4 := fun_mk (st := s_room_of) l4 c4 k4
  have b4 := F4.binds (ps := ["lengths"]) fun _ _ _ _ _ _ us hl => match us, hl with | [_], _ => rfl
  have F5 := fun_mk (st := s_fits) l5 c5 k5
  have b5 := F5.binds (ps := ["lengths"]) fun _ _ _ _ _ _ us hl => match us, hl with | [_], _ => rfl
  have F6 := fun_mk (st := s_first_parts) l6 c6 k6
  have b6 := F6.binds (ps := ["counts"]) fun _ _ _ _ _ _ us hl => match us, hl with | [_], _ => rfl
  have F7 := fun_mk (st := s_least_part) l7 c7 k7
  have b7 := F7.binds (ps := ["parts"]) fun _ _ _ _ _ _ us hl => match us, hl with | [_], _ => rfl
  have F8 := fun_mk (st := s_pairs_of) l8 c8 k8
  have b8 := F8.binds (ps := ["counts"]) fun _ _ _ _ _ _ us hl => match us, hl with | [_], _ => rfl
  have F9 := fun_mk (st := s_is_pair) l9 c9 k9
  have b9 := F9.binds (ps := ["pair", "parts"]) fun _ _ _ _ _ _ us hl => match us, hl with | [_, _], _ => rfl
  have F10 := fun_mk (st := s_put_together) l10 c10 k10
  have b10 := F10.binds (ps := ["pair", "parts", "number", "at"]) fun _ _ _ _ _ _ us hl => match us, hl with | [_, _, _, _], _ => rfl
  have F11 := fun_mk (st := s_check_paper) l11 c11 k11
  have b11 := F11.binds (ps := ["counts", "paper"]) fun _ _ _ _ _ _ us hl => match us, hl with | [_, _], _ => rfl
  have F12 := fun_mk (st := s_lengths_by) l12 c12 k12
  have b12 := F12.binds (ps := ["counts", "paper"]) fun _ _ _ _ _ _ us hl => match us, hl with | [_, _], _ => rfl
  have F13 := fun_mk (st := s_least_lengths) l13 c13 k13
  have b13 := F13.binds (ps := ["counts"]) fun _ _ _ _ _ _ us hl => match us, hl with | [_], _ => rfl
  have F14 := fun_mk (st := s_l_cell_at) l14 c14 k14
  have b14 := F14.binds (ps := ["_law_script", "_law_k"]) fun _ _ _ _ _ _ us hl => match us, hl with | [_, _], _ => rfl
  have F15 := fun_mk (st := s_l_mixed) l15 c15 k15
  have b15 := F15.binds (ps := ["_law_cell", "_law_k"]) fun _ _ _ _ _ _ us hl => match us, hl with | [_, _], _ => rfl
  have F16 := fun_mk (st := s_l_counts) l16 c16 k16
  have b16 := F16.binds (ps := ["_law_head", "_law_cell"]) fun _ _ _ _ _ _ us hl => match us, hl with | [_, _], _ => rfl
  have F17 := fun_mk (st := s_l_bits) l17 c17 k17
  have b17 := F17.binds (ps := ["_law_counts_here", "_law_lengths"]) fun _ _ _ _ _ _ us hl => match us, hl with | [_, _], _ => rfl
  have F18 := fun_mk (st := s_l_by_parts) l18 c18 k18
  have b18 := F18.binds (ps := ["_law_counts_here", "_law_cell"]) fun _ _ _ _ _ _ us hl => match us, hl with | [_, _], _ => rfl
  have F19 := fun_mk (st := s_l_one_by_one) l19 c19 k19
  have b19 := F19.binds (ps := ["_law_counts_here", "_law_cell"]) fun _ _ _ _ _ _ us hl => match us, hl with | [_, _], _ => rfl
  have F20 := fun_mk (st := s_l_fewest) l20 c20 k20
  have b20 := F20.binds (ps := ["_law_counts_here"]) fun _ _ _ _ _ _ us hl => match us, hl with | [_], _ => rfl
  have F21 := fun_mk (st := s_law) l21 c21 k21
  have b21 := F21.binds (ps := ["_law_script"]) fun _ _ _ _ _ _ us hl => match us, hl with | [_], _ => rfl
  exact ⟨_, fun s v => .of_eq rfl, fun base _ _ => hlaw (K := K) (mg := mg) { a_BadPaper_init := f0, d_BadPaper_init := _, F_BadPaper_init := F0, b_BadPaper_init := b0, a_is_whole := f1, d_is_whole := _, F_is_whole := F1, b_is_whole := b1, g_is_whole := PySem.W.mg_of X G a1, a_is_list_of := f2, d_is_list_of := _, F_is_list_of := F2, b_is_list_of := b2, g_is_list_of := PySem.W.mg_of X G a2, a_check_counts := f3, d_check_counts := _, F_check_counts := F3, b_check_counts := b3, g_check_counts := PySem.W.mg_of X G a3, a_room_of := f4, d_room_of := _, F_room_of := F4, b_room_of := b4, g_room_of := PySem.W.mg_of X G a4, a_fits := f5, d_fits := _, F_fits := F5, b_fits := b5, g_fits := PySem.W.mg_of X G a5, a_first_parts := f6, d_first_parts := _, F_first_parts := F6, b_first_parts := b6, g_first_parts := PySem.W.mg_of X G a6, a_least_part := f7, d_least_part := _, F_least_part := F7, b_least_part := b7, g_least_part := PySem.W.mg_of X G a7, a_pairs_of := f8, d_pairs_of := _, F_pairs_of := F8, b_pairs_of := b8, g_pairs_of := PySem.W.mg_of X G a8, a_is_pair := f9, d_is_pair := _, F_is_pair := F9, b_is_pair := b9, g_is_pair := PySem.W.mg_of X G a9, a_put_together := f10, d_put_together := _, F_put_together := F10, b_put_together := b10, g_put_together := PySem.W.mg_of X G a10, a_check_paper := f11, d_check_paper := _, F_check_paper := F11, b_check_paper := b11, g_check_paper := PySem.W.mg_of X G a11, a_lengths_by := f12, d_lengths_by := _, F_lengths_by := F12, b_lengths_by := b12, g_lengths_by := PySem.W.mg_of X G a12, a_least_lengths := f13, d_least_lengths := _, F_least_lengths := F13, b_least_lengths := b13, g_least_lengths := PySem.W.mg_of X G a13, a_l_cell_at := f14, d_l_cell_at := _, F_l_cell_at := F14, b_l_cell_at := b14, g_l_cell_at := PySem.W.mg_of X G a14, a_l_mixed := f15, d_l_mixed := _, F_l_mixed := F15, b_l_mixed := b15, g_l_mixed := PySem.W.mg_of X G a15, a_l_counts := f16, d_l_counts := _, F_l_counts := F16, b_l_counts := b16, g_l_counts := PySem.W.mg_of X G a16, a_l_bits := f17, d_l_bits := _, F_l_bits := F17, b_l_bits := b17, g_l_bits := PySem.W.mg_of X G a17, a_l_by_parts := f18, d_l_by_parts := _, F_l_by_parts := F18, b_l_by_parts := b18, g_l_by_parts := PySem.W.mg_of X G a18, a_l_one_by_one := f19, d_l_one_by_one := _, F_l_one_by_one := F19, b_l_one_by_one := b19, g_l_one_by_one := PySem.W.mg_of X G a19, a_l_fewest := f20, d_l_fewest := _, F_l_fewest := F20, b_l_fewest := b20, g_l_fewest := PySem.W.mg_of X G a20, a_law := fa, d_law := _, F_law := F21, b_law := b21, g_law := PySem.W.mg_of X G a21, C_ShelfError := C_ShelfError, g_ShelfError := PySem.W.mg_of X G qC_ShelfError, k_ShelfError := k_ShelfError, b_ShelfError := b_ShelfError, t_ShelfError := t_ShelfError, i_ShelfError := i_ShelfError, rd_ShelfError := rd_ShelfError, ra_ShelfError := ra_ShelfError, ri_ShelfError := ri_ShelfError, C_BadTable := C_BadTable, g_BadTable := PySem.W.mg_of X G qC_BadTable, k_BadTable := k_BadTable, b_BadTable := b_BadTable, t_BadTable := t_BadTable, i_BadTable := i_BadTable, x_BadTable := x_BadTable, gb_BadTable := gb_BadTable, gg_BadTable := gg_BadTable, hd_BadTable := hd_BadTable, ca_BadTable := ca_BadTable, cn_BadTable := cn_BadTable, ct_BadTable := ct_BadTable, cm_BadTable := cm_BadTable, xc_BadTable := ⟨gb_BadTable, gg_BadTable, b_BadTable, hd_BadTable, ca_BadTable, cn_BadTable, ct_BadTable, cm_BadTable⟩, C_BadPaper := C_BadPaper, g_BadPaper := PySem.W.mg_of X G qC_BadPaper, k_BadPaper := k_BadPaper, b_BadPaper := b_BadPaper, t_BadPaper := t_BadPaper, i_BadPaper := i_BadPaper, sa_BadPaper := sa_BadPaper, iC_BadPaper := a0, n_at_BadPaper := n_at_BadPaper, gb_BadPaper := gb_BadPaper, gg_BadPaper := gg_BadPaper, hd_BadPaper := hd_BadPaper, ca_BadPaper := ca_BadPaper, cn_BadPaper := cn_BadPaper, ct_BadPaper := ct_BadPaper, cm_BadPaper := cm_BadPaper, xc_BadPaper := ⟨gb_BadPaper, gg_BadPaper, b_BadPaper, hd_BadPaper, ca_BadPaper, cn_BadPaper, ct_BadPaper, cm_BadPaper⟩, ox_BadPaper := ⟨⟨_, _, _, _, _, _, _, _, _, _, _, _, _, _, _, xL_BadPaper, rfl⟩, sa_BadPaper, b_BadPaper, t_BadPaper, k_BadPaper⟩, tI_BadPaper := beq_iff_eq.mp i0, z_all := PySem.W.mg_none_of X G z_all, z_any := PySem.W.mg_none_of X G z_any, z_bool := PySem.W.mg_none_of X G z_bool, z_enumerate := PySem.W.mg_none_of X G z_enumerate, z_int := PySem.W.mg_none_of X G z_int, z_isinstance := PySem.W.mg_none_of X G z_isinstance, z_len := PySem.W.mg_none_of X G z_len, z_list := PySem.W.mg_none_of X G z_list, z_max := PySem.W.mg_none_of X G z_max, z_min := PySem.W.mg_none_of X G z_min, z_range := PySem.W.mg_none_of X G z_range, z_sorted := PySem.W.mg_none_of X G z_sorted, z_sum := PySem.W.mg_none_of X G z_sum, z_tuple := PySem.W.mg_none_of X G z_tuple, u_MOST_SYMBOLS := u_MOST_SYMBOLS, m_MOST_SYMBOLS := PySem.W.mg_of X G m_MOST_SYMBOLS, r_MOST_SYMBOLS := r_MOST_SYMBOLS, u_MOST_COUNT := u_MOST_COUNT, m_MOST_COUNT := PySem.W.mg_of X G m_MOST_COUNT, r_MOST_COUNT := r_MOST_COUNT, u_LONGEST := u_LONGEST, m_LONGEST := PySem.W.mg_of X G m_LONGEST, r_LONGEST := r_LONGEST }⟩
def HL : Prop := ∀ {P : Program} {w : World} {K : PySem.W.Frag} {mg : Str → Option Value} {base : Heap} (T : Tx K mg), FnOk P w K mg base CX0 7 T.a_law T.d_law ["_law_script"] (spLaw K)
theorem zHfacts (hlaw : HL) {l : PySem.W.OpenLaw} {w : World} {K : PySem.W.Frag} {h : Heap} {mg : Str → Option Value} {fa : Addr} (X : K.In h) (G : h.Ns mainGlobals mg) (hfa : mg "law" = some (.ref fa)) (c : Hd.Says zHfn zHfd zHx K) :
    ∃ fd : FuncData, (∀ (s : Shared) (v : Value), BindsTo s fd ⟨[v], []⟩ [("_law_script", v)]) ∧ ∀ base : Heap, K.In base → base.Ns mainGlobals mg → FnOk l.prog w K mg base CX0 7 fa fd ["_law_script"] (spLaw K) := by
  obtain ⟨oc0, od0, sl0, kV0, dc0, pm0, an0, cd0, ct0, l0, c0⟩ := c.def_ 0 (d := zHfn0.getD 0 zHfnZ) rfl
  obtain ⟨oc1, od1, sl1, kV1, dc1, pm1, an1, cd1, ct1, l1, c1⟩ := c.def_ 1 (d := zHfn0.getD 1 zHfnZ) rfl
  obtain ⟨oc2, od2, sl2, kV2, dc2, pm2, an2, cd2, ct2, l2, c2⟩ := c.def_ 2 (d := zHfn0.getD 2 zHfnZ) rfl
  obtain ⟨oc3, od3, sl3, kV3, dc3, pm3, an3, cd3, ct3, l3, c3⟩ := c.def_ 3 (d := zHfn0.getD 3 zHfnZ) rfl
  obtain ⟨oc4, od4, sl4, kV4, dc4, pm4, an4, cd4, ct4, l4, c4⟩ := c.def_ 4 (d := zHfn0.getD 4 zHfnZ) rfl
  obtain ⟨oc5, od5, sl5, kV5, dc5, pm5, an5, cd5, ct5, l5, c5⟩ := c.def_ 5 (d := zHfn0.getD 5 zHfnZ) rfl
  obtain ⟨oc6, od6, sl6, kV6, dc6, pm6, an6, cd6, ct6, l6, c6⟩ := c.def_ 6 (d := zHfn0.getD 6 zHfnZ) rfl
  obtain ⟨oc7, od7, sl7, kV7, dc7, pm7, an7, cd7, ct7, l7, c7⟩ := c.def_ 7 (d := zHfn0.getD 7 zHfnZ) rfl
  obtain ⟨oc8, od8, sl8, kV8, dc8, pm8, an8, cd8, ct8, l8, c8⟩ := c.def_ 8 (d := zHfn0.getD 8 zHfnZ) rfl
  obtain ⟨oc9, od9, sl9, kV9, dc9, pm9, an9, cd9, ct9, l9, c9⟩ := c.def_ 9 (d := zHfn0.getD 9 zHfnZ) rfl
  obtain ⟨oc10, od10, sl10, kV10, dc10, pm10, an10, cd10, ct10, l10, c10⟩ := c.def_ 10 (d := zHfn0.getD 10 zHfnZ) rfl
  obtain ⟨oc11, od11, sl11, kV11, dc11, pm11, an11, cd11, ct11, l11, c11⟩ := c.def_ 11 (d := zHfn0.getD 11 zHfnZ) rfl
  obtain ⟨oc12, od12, sl12, kV12, dc12, pm12, an12, cd12, ct12, l12, c12⟩ := c.def_ 12 (d := zHfn0.getD 12 zHfnZ) rfl
  obtain ⟨oc13, od13, sl13, kV13, dc13, pm13, an13, cd13, ct13, l13, c13⟩ := c.def_ 13 (d := zHfn0.getD 13 zHfnZ) rfl
  obtain ⟨oc14, od14, sl14, kV14, dc14, pm14, an14, cd14, ct14, l14, c14⟩ := c.def_ 14 (d := zHfn0.getD 14 zHfnZ) rfl
  obtain ⟨oc15, od15, sl15, kV15, dc15, pm15, an15, cd15, ct15, l15, c15⟩ := c.def_ 15 (d := zHfn0.getD 15 zHfnZ) rfl
  obtain ⟨oc16, od16, sl16, kV16, dc16, pm16, an16, cd16, ct16, l16, c16⟩ := c.def_ 16 (d := zHfn0.getD 16 zHfnZ) rfl
  obtain ⟨oc17, od17, sl17, kV17, dc17, pm17, an17, cd17, ct17, l17, c17⟩ := c.def_ 17 (d := zHfn0.getD 17 zHfnZ) rfl
  obtain ⟨oc18, od18, sl18, kV18, dc18, pm18, an18, cd18, ct18, l18, c18⟩ := c.def_ 18 (d := zHfn0.getD 18 zHfnZ) rfl
  obtain ⟨oc19, od19, sl19, kV19, dc19, pm19, an19, cd19, ct19, l19, c19⟩ := c.def_ 19 (d := zHfn0.getD 19 zHfnZ) rfl
  obtain ⟨oc20, od20, sl20, kV20, dc20, pm20, an20, cd20, ct20, l20, c20⟩ := c.def_ 20 (d := zHfn0.getD 20 zHfnZ) rfl
  obtain ⟨oc21, od21, sl21, kV21, dc21, pm21, an21, cd21, ct21, l21, c21⟩ := c.def_ 21 (d := zHfn0.getD 21 zHfnZ) rfl
  obtain ⟨nm_BadPaper, q_BadPaper, N_BadPaper, bs_BadPaper, sn_BadPaper, sub_BadPaper, ab_BadPaper, col_BadPaper, dd_BadPaper, m0_BadPaper, m1_BadPaper, m2_BadPaper, m3_BadPaper, m5_BadPaper, xL_BadPaper⟩ := Hd.oexAt_ok (c.fact (l := zHx0) 0 0 rfl rfl)
  obtain ⟨u_MOST_SYMBOLS, m_MOST_SYMBOLS, r_MOST_SYMBOLS⟩ := Hd.relAt_ok (c.fact (l := zHx0) 0 1 rfl rfl)
  obtain ⟨u_MOST_COUNT, m_MOST_COUNT, r_MOST_COUNT⟩ := Hd.relAt_ok (c.fact (l := zHx0) 0 2 rfl rfl)
  obtain ⟨u_LONGEST, m_LONGEST, r_LONGEST⟩ := Hd.relAt_ok (c.fact (l := zHx0) 0 3 rfl rfl)
  exact all_mk @hlaw X G hfa
    (of_decide_eq_true (c.fact (l := zHx0) 0 4 rfl rfl))
    (c.fact (l := zHx0) 0 5 rfl rfl)
    l0
    c0
    (c.fact (l := zHx0) 0 6 rfl rfl)
    (of_decide_eq_true (c.fact (l := zHx0) 0 7 rfl rfl))
    l1
    c1
    (c.fact (l := zHx0) 0 8 rfl rfl)
    (of_decide_eq_true (c.fact (l := zHx0) 0 9 rfl rfl))
    l2
    c2
    (c.fact (l := zHx0) 0 10 rfl rfl)
    (of_decide_eq_true (c.fact (l := zHx0) 0 11 rfl rfl))
    l3
    c3
    (c.fact (l := zHx0) 0 12 rfl rfl)
    (of_decide_eq_true (c.fact (l := zHx0) 0 13 rfl rfl))
    l4
    c4
    (c.fact (l := zHx0) 0 14 rfl rfl)
    (of_decide_eq_true (c.fact (l := zHx0) 0 15 rfl rfl))
    l5
    c5
    (c.fact (l := zHx0) 0 16 rfl rfl)
    (of_decide_eq_true (c.fact (l := zHx0) 0 17 rfl rfl))
    l6
    c6
    (c.fact (l := zHx0) 0 18 rfl rfl)
    (of_decide_eq_true (c.fact (l := zHx0) 0 19 rfl rfl))
    l7
    c7
    (c.fact (l := zHx0) 0 20 rfl rfl)
    (of_decide_eq_true (c.fact (l := zHx0) 0 21 rfl rfl))
    l8
    c8
    (c.fact (l := zHx0) 0 22 rfl rfl)
    (of_decide_eq_true (c.fact (l := zHx0) 0 23 rfl rfl))
    l9
    c9
    (c.fact (l := zHx0) 0 24 rfl rfl)
    (of_decide_eq_true (c.fact (l := zHx0) 0 25 rfl rfl))
    l10
    c10
    (c.fact (l := zHx0) 0 26 rfl rfl)
    (of_decide_eq_true (c.fact (l := zHx0) 0 27 rfl rfl))
    l11
    c11
    (c.fact (l := zHx0) 0 28 rfl rfl)
    (of_decide_eq_true (c.fact (l := zHx0) 0 29 rfl rfl))
    l12
    c12
    (c.fact (l := zHx0) 0 30 rfl rfl)
    (of_decide_eq_true (c.fact (l := zHx0) 0 31 rfl rfl))
    l13
    c13
    (c.fact (l := zHx0) 0 32 rfl rfl)
    (of_decide_eq_true (c.fact (l := zHx0) 0 33 rfl rfl))
    l14
    c14
    (c.fact (l := zHx0) 0 34 rfl rfl)
    (of_decide_eq_true (c.fact (l := zHx0) 0 35 rfl rfl))
    l15
    c15
    (c.fact (l := zHx0) 0 36 rfl rfl)
    (of_decide_eq_true (c.fact (l := zHx0) 0 37 rfl rfl))
    l16
    c16
    (c.fact (l := zHx0) 0 38 rfl rfl)
    (of_decide_eq_true (c.fact (l := zHx0) 0 39 rfl rfl))
    l17
    c17
    (c.fact (l := zHx1) 1 0 rfl rfl)
    (of_decide_eq_true (c.fact (l := zHx1) 1 1 rfl rfl))
    l18
    c18
    (c.fact (l := zHx1) 1 2 rfl rfl)
    (of_decide_eq_true (c.fact (l := zHx1) 1 3 rfl rfl))
    l19
    c19
    (c.fact (l := zHx1) 1 4 rfl rfl)
    (of_decide_eq_true (c.fact (l := zHx1) 1 5 rfl rfl))
    l20
    c20
    (c.fact (l := zHx1) 1 6 rfl rfl)
    (of_decide_eq_true (c.fact (l := zHx1) 1 7 rfl rfl))
    l21
    c21
    (c.fact (l := zHx1) 1 8 rfl rfl)
    (of_decide_eq_true (c.fact (l := zHx1) 1 9 rfl rfl))
    (c.fact (l := zHx1) 1 10 rfl rfl)
    (of_decide_eq_true (c.fact (l := zHx1) 1 11 rfl rfl))
    (of_decide_eq_true (c.fact (l := zHx1) 1 12 rfl rfl))
    (c.fact (l := zHx1) 1 13 rfl rfl)
    (c.fact (l := zHx1) 1 14 rfl rfl)
    (of_decide_eq_true (c.fact (l := zHx1) 1 15 rfl rfl))
    (Hd.cfAt_ok (c.fact (l := zHx1) 1 16 rfl rfl))
    (of_decide_eq_true (c.fact (l := zHx1) 1 17 rfl rfl))
    (c.fact (l := zHx1) 1 18 rfl rfl)
    (of_decide_eq_true (c.fact (l := zHx1) 1 19 rfl rfl))
    (of_decide_eq_true (c.fact (l := zHx1) 1 20 rfl rfl))
    (c.fact (l := zHx1) 1 21 rfl rfl)
    (c.fact (l := zHx1) 1 22 rfl rfl)
    (of_decide_eq_true (c.fact (l := zHx1) 1 23 rfl rfl))
    (of_decide_eq_true (c.fact (l := zHx1) 1 24 rfl rfl))
    (c.fact (l := zHx1) 1 25 rfl rfl)
    (of_decide_eq_true (c.fact (l := zHx1) 1 26 rfl rfl))
    (of_decide_eq_true (c.fact (l := zHx1) 1 27 rfl rfl))
    (of_decide_eq_true (c.fact (l := zHx1) 1 28 rfl rfl))
    (of_decide_eq_true (c.fact (l := zHx1) 1 29 rfl rfl))
    (of_decide_eq_true (c.fact (l := zHx1) 1 30 rfl rfl))
    (c.fact (l := zHx1) 1 31 rfl rfl)
    (of_decide_eq_true (c.fact (l := zHx1) 1 32 rfl rfl))
    (of_decide_eq_true (c.fact (l := zHx1) 1 33 rfl rfl))
    (c.fact (l := zHx1) 1 34 rfl rfl)
    (of_decide_eq_true (c.fact (l := zHx1) 1 35 rfl rfl))
    (of_decide_eq_true (c.fact (l := zHx1) 1 36 rfl rfl))
    (of_decide_eq_true (c.fact (l := zHx1) 1 37 rfl rfl))
    (of_decide_eq_true (c.fact (l := zHx1) 1 38 rfl rfl))
    (c.fact (l := zHx1) 1 39 rfl rfl)
    (of_decide_eq_true (c.fact (l := zHx2) 2 0 rfl rfl))
    (of_decide_eq_true (c.fact (l := zHx2) 2 1 rfl rfl))
    (of_decide_eq_true (c.fact (l := zHx2) 2 2 rfl rfl))
    (of_decide_eq_true (c.fact (l := zHx2) 2 3 rfl rfl))
    xL_BadPaper
    (of_decide_eq_true (c.fact (l := zHx2) 2 4 rfl rfl))
    (of_decide_eq_true (c.fact (l := zHx2) 2 5 rfl rfl))
    (of_decide_eq_true (c.fact (l := zHx2) 2 6 rfl rfl))
    (of_decide_eq_true (c.fact (l := zHx2) 2 7 rfl rfl))
    (of_decide_eq_true (c.fact (l := zHx2) 2 8 rfl rfl))
    (of_decide_eq_true (c.fact (l := zHx2) 2 9 rfl rfl))
    (of_decide_eq_true (c.fact (l := zHx2) 2 10 rfl rfl))
    (of_decide_eq_true (c.fact (l := zHx2) 2 11 rfl rfl))
    (of_decide_eq_true (c.fact (l := zHx2) 2 12 rfl rfl))
    (of_decide_eq_true (c.fact (l := zHx2) 2 13 rfl rfl))
    (of_decide_eq_true (c.fact (l := zHx2) 2 14 rfl rfl))
    (of_decide_eq_true (c.fact (l := zHx2) 2 15 rfl rfl))
    (of_decide_eq_true (c.fact (l := zHx2) 2 16 rfl rfl))
    (of_decide_eq_true (c.fact (l := zHx2) 2 17 rfl rfl))
    m_MOST_SYMBOLS
    r_MOST_SYMBOLS
    m_MOST_COUNT
    r_MOST_COUNT
    m_LONGEST
    r_LONGEST
end K15
open PySem PySem.W PySem.Calls PyProof.Rows in
set_option maxRecDepth 100000 in
set_option maxHeartbeats 0 in
theorem K15.early (hlaw : K15.HL) : PySem.Challenge.rw_tornshelf_k15_whole_none_is_less.Holds := by
  w_on; o_law
  refine HandSHeadRun.head_any (r := OpenLaw.row PySem.Challenge.rw_tornshelf_k15_whole_none_is_less) (q := view (OpenLaw.row PySem.Challenge.rw_tornshelf_k15_whole_none_is_less).prog [29]) (H := K15.zHk) (ob := K15.zHob) (M := 20000) (loose := K15.zHl) (d := HandSHeadRun.topDef (OpenLaw.row PySem.Challenge.rw_tornshelf_k15_whole_none_is_less).prog 29) (kwd := []) K15.zHob_eq
    (by kernel_rfl) (fun s => by kernel_rfl) K15.zHrun (by kernel_rfl) (by kernel_rfl) (by kernel_rfl) (by rfl) (by first | assumption | decide +kernel) (by decide +kernel) ⟨rfl, rfl, rfl, rfl, rfl, by decide +kernel⟩ ?hw ?hc
  case hw => w_witness2
  case hc =>
    refine L2.walk_ofE (l := PySem.Challenge.rw_tornshelf_k15_whole_none_is_less) (n := 63) (k := 7) (x := "_law_script") (CX := L2.CX0) rfl (by decide) (by kernel_rfl) ⟨rfl, by decide, by decide⟩ ?F (fun _ _ _ _ z => z)
    intro w mg fa h Y G hmg0
    obtain ⟨K, KX, c⟩ := Y
    have hmg : mg ("law" : PySem.Str) = some (.ref fa) := by
      have e : (HandSHeadRun.topDef (OpenLaw.row PySem.Challenge.rw_tornshelf_k15_whole_none_is_less).prog 29).name = ("law" : PySem.Str) := by kernel_rfl
      rw [← e]
      exact hmg0
    obtain ⟨fd, hb, hF⟩ := K15.zHfacts hlaw (l := PySem.Challenge.rw_tornshelf_k15_whole_none_is_less) (w := w) KX G hmg c
    exact ⟨K, fd, K15.spLaw K, KX, hb, fun H a ns hl hO hS => ⟨a, ns, rfl, hS, hl, Z.only_nd hO, fun _ => rfl⟩, hF⟩
namespace K15
open PySem L2 Z Y
local macro_rules | `(tactic| walk_at "sd") => `(tactic| first
  | omega | assumption | (show (_ : Nat) ≤ 16777216; simp; done) | (show (_ : Nat) ≤ 16777216; simp; omega) | (show (_ : Nat) < 16777216; simp; done) | (show (_ : Nat) < 16777216; simp; omega) | decide | exact Or.inr ⟨by omega, by omega⟩ | exact Or.inl ⟨by omega, by omega⟩ | exact ⟨by omega, by omega⟩ | exact ⟨by omega, by omega, by omega⟩ | exact ⟨by omega, by omega, by omega, by omega⟩ | exact ⟨by omega, by omega, by decide⟩)
local macro_rules | `(tactic| walk_at "ds") => `(tactic| dsimp only [List.set, setC, wipeS, wipeE, Y.rest, kp, Cn.toD])
local macro_rules | `(tactic| walk_at "f0") => `(tactic| (refine Y.f_fn rfl ?_; simp only [List.map_cons, List.map_nil, List.length_cons, List.length_nil, List.replicate, Nat.reduceSub, Nat.reduceAdd, List.cons_append, List.nil_append]))
local macro_rules | `(tactic| walk_at "fx") => `(tactic| (refine Y.f_fnX rfl ?_; simp only [List.map_cons, List.map_nil, List.length_cons, List.length_nil, List.replicate, Nat.reduceSub, Nat.reduceAdd, List.cons_append, List.nil_append]))
local macro_rules | `(tactic| walk_at "f00") => `(tactic| (refine Y.f_fn0 rfl ?_; simp only [List.map_cons, List.map_nil, List.length_cons, List.length_nil, List.replicate, Nat.reduceSub, Nat.reduceAdd, List.cons_append, List.nil_append]))
local macro_rules | `(tactic| walk_at "wx") => `(tactic| ((with_reducible show _ ≤ sizeLine ∧ _); refine ⟨by walk_at "sd", ?_⟩))
local macro_rules | `(tactic| walk_at "wx") => `(tactic| ((with_reducible show _ ∧ Y.Wo _ _ _); refine ⟨by walk_at "sd", ?_⟩))
local macro_rules | `(tactic| walk_at "wx") => `(tactic| ((with_reducible show ∃ c, AI.new _ = AI.new c ∧ _); refine ⟨_, rfl, ?_⟩; try (walk_at "ds")))
local macro_rules | `(tactic| walk_at "wx") => `(tactic| ((with_reducible show ∃ x, AI.val (D.str _) = AI.val (D.str x) ∧ _); refine ⟨_, rfl, ?_⟩; try dsimp only []))
local macro_rules | `(tactic| walk_at "wx") => `(tactic| ((with_reducible show ∃ l, Y.tupOf _ = some l ∧ _); refine ⟨_, rfl, ?_⟩; try (dsimp only [])))
local macro_rules | `(tactic| walk_at "wx") => `(tactic| ((with_reducible show ∃ l, Y.viewL _ _ = some l ∧ _); first | refine ⟨_, rfl, ?_⟩ | refine ⟨_, Y.viewL_cid (by assumption), ?_⟩))
local macro_rules | `(tactic| walk_at "wx") => `(tactic| ((with_reducible show ∃ d' l', [_] = [d'] ∧ Y.listOf _ d' = some l' ∧ _); refine ⟨_, _, rfl, rfl, ?_⟩; dsimp only [ckOf]))
local macro_rules | `(tactic| walk_at "wx") => `(tactic| with_reducible refine Y.w_wzI ?_)
local macro_rules | `(tactic| walk_at "wx") => `(tactic| ((with_reducible show ∃ l', Y.listOf _ _ = some l' ∧ _); refine ⟨_, rfl, ?_⟩; dsimp only [ckOf]))
local macro_rules | `(tactic| walk_at "wx") => `(tactic| ((with_reducible refine Y.w_rng2I ?_ ?_); (focus (· walk_at "sd"))))
local macro_rules | `(tactic| walk_at "wx") => `(tactic| ((with_reducible show ∃ w x, [_, _] = [w, x] ∧ _); refine ⟨_, _, rfl, ?_⟩; try (walk_at "ds")))
local macro_rules | `(tactic| walk_at "wx") => `(tactic| ((with_reducible refine Y.noid_and ?_ ?_); (focus (· first | rfl | (simp only [D.noIdL, D.noId, Y.noIdL_ints, Bool.and_self, Bool.and_true, Bool.true_and]; done)))))
local macro_rules | `(tactic| walk_at "wx") => `(tactic| ((with_reducible show (∃ l, Y.viewD _ _ = some l) ∧ _); refine ⟨⟨_, rfl⟩, ?_⟩))
local macro_rules | `(tactic| walk_at "wx") => `(tactic| ((with_reducible show ∃ l, AI.new (.dK _) = AI.new (.dK l) ∧ _); refine ⟨_, rfl, ?_⟩))
local macro_rules | `(tactic| walk_at "wx") => `(tactic| ((with_reducible refine Y.w_lr1I ?_ ?_ ?_); (focus (· walk_at "sd")); (focus (· walk_at "sd"))))
local macro_rules | `(tactic| walk_at "wx") => `(tactic| ((with_reducible refine Z.z_ifnN ?_ ?_); (focus (· omega))))
local macro_rules | `(tactic| walk_at "wx") => `(tactic| with_reducible refine Z.z_ifnR ?_)
local macro_rules | `(tactic| walk_at "wx") => `(tactic| with_reducible refine Y.w_blB ?_)
local macro_rules | `(tactic| walk_at "wx") => `(tactic| with_reducible refine Y.w_truI ?_)
local macro_rules | `(tactic| walk_at "wx") => `(tactic| ((with_reducible refine Z.z_ifnY ?_ ?_); (focus (· omega))))
local macro_rules | `(tactic| walk_at "wx") => `(tactic| ((with_reducible show if (!(Y.D.isN _)) = true then _ else _); first | refine Y.z_b1 rfl ?_ | refine Y.z_b0 rfl ?_))
local macro_rules | `(tactic| walk_at "wx") => `(tactic| ((with_reducible show if Y.D.isN _ = true then _ else _); first | refine Y.z_b1 rfl ?_ | refine Y.z_b0 rfl ?_))
local macro_rules | `(tactic| walk_at "wx") => `(tactic| with_reducible refine Z.z_inF ?_)
local macro_rules | `(tactic| walk_at "wx") => `(tactic| ((with_reducible refine Y.w_rng1I ?_ ?_); (focus (· walk_at "sd"))))
local macro_rules | `(tactic| walk_at "wx") => `(tactic| with_reducible refine Z.z_ifR ?_)
local macro_rules | `(tactic| walk_at "wx") => `(tactic| with_reducible refine Z.z_inT ?_)
local macro_rules | `(tactic| walk_at "wx") => `(tactic| with_reducible refine Y.w_intI ?_)
local macro_rules | `(tactic| walk_at "wx") => `(tactic| ((with_reducible refine Z.z_ifY ?_ ?_); (focus (· omega))))
local macro_rules | `(tactic| walk_at "wx") => `(tactic| ((with_reducible show Y.So _ (Y.tgL _ _ _ _)); refine Y.so_set rfl ?_; walk_at "ds"))
local macro_rules | `(tactic| walk_at "wx") => `(tactic| ((with_reducible show Y.So _ (Y.tgT _ _ _ _)); refine Y.so_set rfl ?_; walk_at "ds"))
local macro_rules | `(tactic| walk_at "wx") => `(tactic| with_reducible refine Y.w_truB ?_)
local macro_rules | `(tactic| walk_at "wx") => `(tactic| ((with_reducible show Y.So _ (Y.tgN _ _ _)); refine Y.so_some ?_; walk_at "ds"))
local macro_rules | `(tactic| walk_at "wx") => `(tactic| with_reducible refine Z.z_iT ?_)
local macro_rules | `(tactic| walk_at "wx") => `(tactic| with_reducible refine Z.z_iF ?_)
local macro_rules | `(tactic| walk_at "wx") => `(tactic| ((with_reducible show if decide ((Str.ofString _) = Str.ofString _) = true then _ else _); first | refine Z.z_ifY (by decide +kernel) ?_ | refine Z.z_ifN (by decide +kernel) ?_))
local macro_rules | `(tactic| walk_at "wx") => `(tactic| ((with_reducible refine Z.z_ifN ?_ ?_); (focus (· omega))))
local macro_rules | `(tactic| walk_at "wx") => `(tactic| ((with_reducible show ∃ k c fs, Y.objAt _ _ = some (k, c, fs) ∧ _ ∧ _); first | refine ⟨_, _, _, rfl, ⟨rfl, by first | decide | simp⟩, ?_⟩ | refine ⟨_, _, _, Y.objAt_of (by assumption), ⟨rfl, by first | decide | simp⟩, ?_⟩))
local macro_rules | `(tactic| walk_at "wx") => `(tactic| ((with_reducible show ∃ k fs, Y.objAt _ _ = some (k, _, fs) ∧ _ ∧ _); first | refine ⟨_, _, rfl, rfl, ?_⟩ | refine ⟨_, _, Y.objAt_of (by assumption), rfl, ?_⟩))
local macro_rules | `(tactic| walk_at "wx") => `(tactic| ((with_reducible show ∃ k c fs d, Y.objAt _ _ = some (k, c, fs) ∧ _ ∧ _ ∧ _); first | refine ⟨_, _, _, _, rfl, rfl, rfl, ?_⟩ | refine ⟨_, _, _, _, Y.objAt_of (by assumption), rfl, rfl, ?_⟩))
local macro_rules | `(tactic| walk_at "wx") => `(tactic| with_reducible refine Y.w_blV ?_)
local macro_rules | `(tactic| walk_at "ws") => `(tactic| ((with_reducible show Y.Ws _ _ (Y.mAug _ _ _ _)); refine Y.w_aug rfl ?_))
local macro_rules | `(tactic| walk_at "ws") => `(tactic| with_reducible refine Y.w_augS ?_)
local macro_rules | `(tactic| walk_at "ws") => `(tactic| ((with_reducible show Y.Ws _ _ (Y.mForD _ _ _ _ _)); refine Y.w_forD rfl ?_))
local macro_rules | `(tactic| walk_at "ws") => `(tactic| with_reducible refine Y.w_tryM ?_)
local macro_rules | `(tactic| walk_at "ws") => `(tactic| with_reducible refine Y.w_tryA ?_)
local macro_rules | `(tactic| walk_at "ws") => `(tactic| with_reducible refine Y.w_raiseA ?_)
local macro_rules | `(tactic| walk_at "ws") => `(tactic| with_reducible refine Y.w_raise ?_)
local macro_rules | `(tactic| walk_at "ws") => `(tactic| with_reducible refine Y.w_fldA ?_)
local macro_rules | `(tactic| walk_at "ws") => `(tactic| with_reducible refine Y.w_asgTB ?_)
local macro_rules | `(tactic| walk_at "ws") => `(tactic| with_reducible refine Y.w_par ?_)
local macro_rules | `(tactic| walk_at "ws") => `(tactic| with_reducible refine Y.w_asgK ?_)
local macro_rules | `(tactic| walk_at "ws") => `(tactic| with_reducible refine Y.w_retN ?_)
local macro_rules | `(tactic| walk_at "ws") => `(tactic| with_reducible refine Y.w_retN' ?_)
local macro_rules | `(tactic| walk_at "ws") => `(tactic| ((with_reducible show Y.Ws _ _ (Y.asg _ (.slot _) _)); refine Y.w_asgI rfl ?_; walk_at "ds"))
local macro_rules | `(tactic| walk_at "ws") => `(tactic| with_reducible refine Y.w_asgS ?_)
local macro_rules | `(tactic| walk_at "ws") => `(tactic| with_reducible refine Y.w_asgST ?_)
local macro_rules | `(tactic| walk_at "ws") => `(tactic| with_reducible refine Y.w_asgT ?_)
local macro_rules | `(tactic| walk_at "ws") => `(tactic| ((with_reducible show Y.Ws _ _ (Y.ret (.slot _) _)); refine Y.w_retS rfl ?_; walk_at "ds"))
local macro_rules | `(tactic| walk_at "ws") => `(tactic| (with_reducible refine Y.w_asgN ?_; walk_at "ds"))
local macro_rules | `(tactic| walk_at "ws") => `(tactic| with_reducible refine Y.w_for ?_)
local macro_rules | `(tactic| walk_at "ws") => `(tactic| with_reducible refine Y.w_fldS ?_)
local macro_rules | `(tactic| walk_at "ws") => `(tactic| with_reducible refine Y.w_drop ?_)
local macro_rules | `(tactic| walk_at "ws") => `(tactic| (with_reducible refine Y.w_asgV ?_; walk_at "ds"))
local macro_rules | `(tactic| walk_at "ws") => `(tactic| with_reducible refine Y.w_asg ?_)
local macro_rules | `(tactic| walk_at "ws") => `(tactic| with_reducible refine Y.w_retV ?_)
local macro_rules | `(tactic| walk_at "ws") => `(tactic| with_reducible refine Y.w_ret ?_)
local macro_rules | `(tactic| walk_at "ws") => `(tactic| with_reducible refine Y.w_next ?_)
local macro_rules | `(tactic| walk_at "ws") => `(tactic| with_reducible refine Y.w_ifS ?_)
local macro_rules | `(tactic| walk_at "ws") => `(tactic| with_reducible refine Y.w_seq ?_)
local macro_rules | `(tactic| walk_at "wo") => `(tactic| with_reducible refine Y.w_isnB ?_)
local macro_rules | `(tactic| walk_at "wo") => `(tactic| with_reducible refine Y.w_isB ?_)
local macro_rules | `(tactic| walk_at "wo") => `(tactic| with_reducible refine Y.w_ws ?_)
local macro_rules | `(tactic| walk_at "wo") => `(tactic| with_reducible refine Y.w_wt ?_)
local macro_rules | `(tactic| walk_at "wo") => `(tactic| with_reducible refine Y.w_wz ?_)
local macro_rules | `(tactic| walk_at "wo") => `(tactic| with_reducible refine Y.w_rng2 ?_)
local macro_rules | `(tactic| walk_at "wo") => `(tactic| with_reducible refine Y.w_callC ?_)
local macro_rules | `(tactic| walk_at "wo") => `(tactic| with_reducible refine Y.w_callB ?_)
local macro_rules | `(tactic| walk_at "wo") => `(tactic| ((with_reducible show Y.Wo _ _ (Y.mIsX _ _ _)); refine Y.w_isX rfl rfl ?_))
local macro_rules | `(tactic| walk_at "wo") => `(tactic| ((with_reducible show Y.Wo _ _ (Y.mXf _ _ _ _)); refine Y.w_xf rfl rfl rfl ?_))
local macro_rules | `(tactic| walk_at "wo") => `(tactic| with_reducible refine Y.w_callPS ?_)
local macro_rules | `(tactic| walk_at "wo") => `(tactic| with_reducible refine Y.w_callTS ?_)
local macro_rules | `(tactic| walk_at "wo") => `(tactic| with_reducible refine Y.w_callT ?_)
local macro_rules | `(tactic| walk_at "wo") => `(tactic| with_reducible refine Y.w_callP ?_)
local macro_rules | `(tactic| walk_at "wo") => `(tactic| with_reducible refine Y.w_toKS ?_)
local macro_rules | `(tactic| walk_at "wo") => `(tactic| with_reducible refine Y.w_wn ?_)
local macro_rules | `(tactic| walk_at "wo") => `(tactic| with_reducible refine Y.w_get2 ?_)
local macro_rules | `(tactic| walk_at "wo") => `(tactic| with_reducible refine Y.w_minVals ?_)
local macro_rules | `(tactic| walk_at "wo") => `(tactic| with_reducible refine Y.w_sortVals ?_)
local macro_rules | `(tactic| walk_at "wo") => `(tactic| with_reducible refine Y.w_get1 ?_)
local macro_rules | `(tactic| walk_at "wo") => `(tactic| with_reducible refine Y.w_setT ?_)
local macro_rules | `(tactic| walk_at "wo") => `(tactic| with_reducible refine Y.w_setD ?_)
local macro_rules | `(tactic| walk_at "wo") => `(tactic| with_reducible refine Y.w_kvNil ?_)
local macro_rules | `(tactic| walk_at "wo") => `(tactic| with_reducible refine Y.w_kvCons ?_)
local macro_rules | `(tactic| walk_at "wo") => `(tactic| with_reducible refine Y.w_disp ?_)
local macro_rules | `(tactic| walk_at "wo") => `(tactic| with_reducible refine Y.w_lcG ?_)
local macro_rules | `(tactic| walk_at "wo") => `(tactic| with_reducible refine Y.w_dnew ?_)
local macro_rules | `(tactic| walk_at "wo") => `(tactic| with_reducible refine Y.w_pop ?_)
local macro_rules | `(tactic| walk_at "wo") => `(tactic| ((with_reducible show Y.Wo _ _ (Y.mLcO _ _ _ _ _ _)); refine Y.w_lcO rfl ?_; walk_at "ds"))
local macro_rules | `(tactic| walk_at "wo") => `(tactic| ((with_reducible show Y.Wo _ _ (Y.mLcD _ _ _ _ _ _ _)); first | refine Y.w_lcD1 rfl ?_ | (refine Y.w_lcD2 rfl ?_; walk_at "ds")))
local macro_rules | `(tactic| walk_at "wo") => `(tactic| with_reducible refine Y.w_rng3 ?_)
local macro_rules | `(tactic| walk_at "wo") => `(tactic| with_reducible refine Y.w_sidx ?_)
local macro_rules | `(tactic| walk_at "wo") => `(tactic| with_reducible refine Y.w_abs ?_)
local macro_rules | `(tactic| walk_at "wo") => `(tactic| ((with_reducible refine Y.w_mulS ?_ ?_); (focus (· walk_at "sd"))))
local macro_rules | `(tactic| walk_at "wo") => `(tactic| with_reducible refine Y.w_sjoin ?_)
local macro_rules | `(tactic| walk_at "wo") => `(tactic| with_reducible refine Y.w_intB ?_)
local macro_rules | `(tactic| walk_at "wo") => `(tactic| with_reducible refine Y.w_mI ?_)
local macro_rules | `(tactic| walk_at "wo") => `(tactic| with_reducible refine Y.w_ifE ?_)
local macro_rules | `(tactic| walk_at "wo") => `(tactic| ((with_reducible show Y.Wo _ _ (Y.fNe _ (.val (.str _)) (.val (.str _)))); refine Y.w_neS (by decide +kernel) (by decide +kernel) ?_))
local macro_rules | `(tactic| walk_at "wo") => `(tactic| with_reducible refine Y.w_wzs ?_)
local macro_rules | `(tactic| walk_at "wo") => `(tactic| with_reducible refine Y.w_makeS ?_)
local macro_rules | `(tactic| walk_at "wo") => `(tactic| with_reducible refine Y.w_get2T ?_)
local macro_rules | `(tactic| walk_at "wo") => `(tactic| with_reducible refine Y.w_tidx ?_)
local macro_rules | `(tactic| walk_at "wo") => `(tactic| with_reducible refine Y.w_I2 ?_)
local macro_rules | `(tactic| walk_at "wo") => `(tactic| with_reducible refine Y.w_we ?_)
local macro_rules | `(tactic| walk_at "wo") => `(tactic| with_reducible refine Y.w_call ?_)
local macro_rules | `(tactic| walk_at "wo") => `(tactic| with_reducible refine Y.w_get1T ?_)
local macro_rules | `(tactic| walk_at "wo") => `(tactic| with_reducible refine Y.w_dnewT ?_)
local macro_rules | `(tactic| walk_at "wo") => `(tactic| with_reducible refine Y.w_lr1 ?_)
local macro_rules | `(tactic| walk_at "wo") => `(tactic| ((with_reducible show Y.Wo _ _ (Y.fList _ [_])); refine Y.w_list rfl ?_))
local macro_rules | `(tactic| walk_at "wo") => `(tactic| with_reducible refine Y.w_neg ?_)
local macro_rules | `(tactic| walk_at "wo") => `(tactic| with_reducible refine Y.w_un ?_)
local macro_rules | `(tactic| walk_at "wo") => `(tactic| ((with_reducible show Y.Wo _ _ (Y.toV (.slot _) _)); refine Y.w_toVS rfl ?_; walk_at "ds"))
local macro_rules | `(tactic| walk_at "wo") => `(tactic| with_reducible refine Y.w_notV ?_)
local macro_rules | `(tactic| walk_at "wo") => `(tactic| with_reducible refine Y.w_lr2 ?_)
local macro_rules | `(tactic| walk_at "wo") => `(tactic| with_reducible refine Y.w_orV ?_)
local macro_rules | `(tactic| walk_at "wo") => `(tactic| with_reducible refine Y.w_neI ?_)
local macro_rules | `(tactic| walk_at "wo") => `(tactic| ((with_reducible show Y.Wo _ _ (Y.fIsn _ _ (.val .non))); refine Y.w_isnN rfl ?_))
local macro_rules | `(tactic| walk_at "wo") => `(tactic| ((with_reducible show Y.Wo _ _ (Y.fSlT _ _ _ _)); refine Y.w_slTu rfl (by first | decide | (simp only [List.length_cons, List.length_nil]; decide)) ?_))
local macro_rules | `(tactic| walk_at "wo") => `(tactic| with_reducible refine Y.w_slTp ?_)
local macro_rules | `(tactic| walk_at "wo") => `(tactic| with_reducible refine Y.w_makeN ?_)
local macro_rules | `(tactic| walk_at "wo") => `(tactic| ((with_reducible show Y.Wo _ _ (Y.fSl _ _ _ _)); refine Y.w_slL rfl rfl ?_))
local macro_rules | `(tactic| walk_at "wo") => `(tactic| with_reducible refine Y.w_sl ?_)
local macro_rules | `(tactic| walk_at "wo") => `(tactic| with_reducible refine Y.w_chain ?_)
local macro_rules | `(tactic| walk_at "wo") => `(tactic| with_reducible refine Y.w_andV ?_)
local macro_rules | `(tactic| walk_at "wo") => `(tactic| ((with_reducible show Y.Wo _ _ (Y.fIs _ _ (.val .non))); refine Y.w_isN rfl ?_))
local macro_rules | `(tactic| walk_at "wo") => `(tactic| with_reducible refine Y.w_vConsK ?_)
local macro_rules | `(tactic| walk_at "wo") => `(tactic| with_reducible refine Y.w_methS ?_)
local macro_rules | `(tactic| walk_at "wo") => `(tactic| (with_reducible refine Y.w_toVN ?_; dsimp only [Cn.toD]))
local macro_rules | `(tactic| walk_at "wo") => `(tactic| with_reducible refine Y.w_lc ?_)
local macro_rules | `(tactic| walk_at "wo") => `(tactic| with_reducible refine Y.w_rng1 ?_)
local macro_rules | `(tactic| walk_at "wo") => `(tactic| with_reducible refine Y.w_oSm ?_)
local macro_rules | `(tactic| walk_at "wo") => `(tactic| with_reducible refine Y.w_oNo ?_)
local macro_rules | `(tactic| walk_at "wo") => `(tactic| with_reducible refine Y.w_or ?_)
local macro_rules | `(tactic| walk_at "wo") => `(tactic| ((with_reducible refine Y.w_mulI ?_ ?_); (focus (· walk_at "sd"))))
local macro_rules | `(tactic| walk_at "wo") => `(tactic| with_reducible refine Y.w_callN ?_)
local macro_rules | `(tactic| walk_at "wo") => `(tactic| with_reducible refine Y.w_wl ?_)
local macro_rules | `(tactic| walk_at "wo") => `(tactic| with_reducible refine Y.w_not ?_)
local macro_rules | `(tactic| walk_at "wo") => `(tactic| with_reducible refine Y.w_tru ?_)
local macro_rules | `(tactic| walk_at "wo") => `(tactic| with_reducible refine Y.w_bm ?_)
local macro_rules | `(tactic| walk_at "wo") => `(tactic| ((with_reducible refine Y.w_I ?_ ?_); (focus (· walk_at "sd"))))
local macro_rules | `(tactic| walk_at "wo") => `(tactic| ((with_reducible show Y.Wo _ _ (Y.fLen _ [_])); first | refine Y.w_len rfl rfl ?_ | refine Y.w_lenC (by assumption) ?_))
local macro_rules | `(tactic| walk_at "wo") => `(tactic| (with_reducible refine Y.w_toKN ?_; try (dsimp only [List.length_cons, List.length_nil, List.cons_append, List.nil_append, Nat.reduceAdd])))
local macro_rules | `(tactic| walk_at "wo") => `(tactic| with_reducible refine Y.w_eqI ?_)
local macro_rules | `(tactic| walk_at "wo") => `(tactic| with_reducible refine Y.w_addI ?_)
local macro_rules | `(tactic| walk_at "wo") => `(tactic| with_reducible refine Y.w_tup ?_)
local macro_rules | `(tactic| walk_at "wo") => `(tactic| with_reducible refine Y.w_and ?_)
local macro_rules | `(tactic| walk_at "wo") => `(tactic| with_reducible refine Y.w_cb ?_)
local macro_rules | `(tactic| walk_at "wo") => `(tactic| with_reducible refine Y.w_methN ?_)
local macro_rules | `(tactic| walk_at "wo") => `(tactic| with_reducible refine Y.w_lst ?_)
local macro_rules | `(tactic| walk_at "wo") => `(tactic| ((with_reducible show Y.Wo _ _ (Y.fEq _ (.val (.str _)) (.val (.str _)))); refine Y.w_eqS (by decide +kernel) (by decide +kernel) ?_))
local macro_rules | `(tactic| walk_at "wo") => `(tactic| with_reducible refine Y.w_aNil ?_)
local macro_rules | `(tactic| walk_at "wo") => `(tactic| with_reducible refine Y.w_aCons ?_)
local macro_rules | `(tactic| walk_at "wo") => `(tactic| with_reducible refine Y.w_toKV ?_)
local macro_rules | `(tactic| walk_at "wo") => `(tactic| with_reducible refine Y.w_I0 ?_)
local macro_rules | `(tactic| walk_at "wo") => `(tactic| with_reducible refine Y.w_K ?_)
local macro_rules | `(tactic| walk_at "wo") => `(tactic| with_reducible refine Y.w_vNil ?_)
local macro_rules | `(tactic| walk_at "wo") => `(tactic| with_reducible refine Y.w_vCons ?_)
local macro_rules | `(tactic| walk_at "wo") => `(tactic| with_reducible refine Y.w_bl ?_)
local macro_rules | `(tactic| walk_at "wo") => `(tactic| with_reducible refine Y.w_fld ?_)
local macro_rules | `(tactic| walk_at "wo") => `(tactic| with_reducible refine Y.w_toVV ?_)
local macro_rules | `(tactic| walk_at "wo") => `(tactic| with_reducible refine Y.w_V ?_)
local macro_rules | `(tactic| walk_at "wo") => `(tactic| with_reducible refine Y.w_op ?_)
local macro_rules | `(tactic| walk_at "wo") => `(tactic| with_reducible refine Y.w_c ?_)
local macro_rules | `(tactic| walk_at "wo") => `(tactic| ((with_reducible show Y.Wo _ _ (Y.mName _ _)); first | refine Y.w_nameF rfl ?_ | refine Y.w_nameO rfl ?_))
local macro_rules | `(tactic| walk_at "w1") => `(tactic| walk_at "wx")
local macro_rules | `(tactic| walk_at "w1") => `(tactic| ((with_reducible show Y.Ws _ _ _); walk_at "ws"))
local macro_rules | `(tactic| walk_at "w1") => `(tactic| ((with_reducible show Y.Wo _ _ _); walk_at "wo"))
local macro_rules | `(tactic| walk_at "w") => `(tactic| repeat (walk_at "w1"))
local macro_rules | `(tactic| walk_at "dr") => `(tactic| (refine fo_use (next_ok (by assumption) (by first | decide | omega) (by first | decide | omega)) ?_; rintro _ _ ⟨_, rfl, _, _, _⟩; have := Kpt.dr (by assumption); walk_at "w"))
local macro_rules | `(tactic| walk_at "wi") => `(tactic| repeat ((fail_if_success (with_reducible show Y.Ws _ _ (Y.mSeq (Y.mIfS _ _ _) _ _))); walk_at "w1"))
local macro_rules | `(tactic| walk_at "wr") => `(tactic| repeat ((fail_if_success (with_reducible first | refine Y.w_rng1I ?_ ?_ | refine Y.w_rng2I ?_ ?_)); walk_at "w1"))
theorem ok_BadPaper_init {P : Program} {w : World} {K : PySem.W.Frag} {mg : Str → Option Value} {base : Heap} (T : Tx K mg) : FnOk P w K mg base CX0 1 T.a_BadPaper_init T.d_BadPaper_init ["self", "words", "at"] (spA K T.C_BadPaper "at") :=
  T.F_BadPaper_init.ok sc_BadPaper_init (fun vs H Q E h => spA_len h) (fun cdv A outer s H vs Q E hr h => ⟨_, (pss_cons (ps_expr (pe_clsinit (by rfl) T.g_ShelfError ⟨T.rd_ShelfError, T.ra_ShelfError⟩ T.ri_ShelfError (pa_cons (pv 0) (pa_cons (pv 1) pa_nil)))) (pss_one (ps_ost (pv 0) (pv 2)))), initA h⟩)
@[irreducible] noncomputable def b_l_bits : Ms :=
  (mRet (mCB (fInts gSum) (aCons (mLc [2] (mRng1 (aCons (mCB fLen (aCons (mName 0) aNil)) aNil)) (tgN 2) mYes (mOp fMul (mOp fIxY (mName 0) (mName 2)) (mOp fIxY (mName 1) (mName 2)))) aNil)))
noncomputable def m_l_bits : Mf := mFn 2 3 b_l_bits
theorem ok_l_bits {P : Program} {w : World} {K : PySem.W.Frag} {mg : Str → Option Value} {base : Heap} (T : Tx K mg) : FnOk P w K mg base CX0 1 T.a_l_bits T.d_l_bits ["_law_counts_here", "_law_lengths"] (spM K (ctT T) m_l_bits) :=
  T.F_l_bits.ok sc_l_bits (fun vs H Q E h => sp_len h) (fun cdv A outer s H vs Q E hr h => ⟨_, (pss_one (ps_ret (pe_callB (cr_sumZ (K := K) rfl rfl) (by rfl) T.z_sum (by decide +kernel) (pa_cons (pe_lc (own := [("_law_k", 2)]) rfl sc_l_bits.nd (pi_range1 rfl T.z_range (pa_cons (pe_callB (call_lenY (K := K) rfl) (by rfl) T.z_len PySem.boot_len (pa_cons (pv 0) pa_nil)) pa_nil)) (blkOk_by (N := ["_law_counts_here", "_law_lengths", "_law_k"]) (sc := defScope s_l_bits) (by decide +kernel)) (fun _ _ _ _ _ => (pg_name (i := 2) sc_l_bits.nd rfl (by first | exact Or.inl rfl | exact Or.inr rfl))) (fun _ _ _ _ _ => pts_nil) (fun _ _ _ _ _ => (pe_op op_mulZ (pe_ix (ix_Y (K := K) rfl (hu_of hr)) (pv 0) (pv 2) (fun _ _ => rfl)) (pe_ix (ix_Y (K := K) rfl (hu_of hr)) (pv 1) (pv 2) (fun _ _ => rfl))))) pa_nil)))),
    fn_run (np := 2) (N := ["_law_counts_here", "_law_lengths", "_law_k"]) (body := b_l_bits) (by unfold b_l_bits; exact (sv_ret (ei_cb jb_sum (ea_cons (ei_lc (ws := [2]) (jw_rng1 (ea_cons (ei_cb jb_len (ea_cons ei_var ea_nil)) ea_nil)) sg_name (by decide) et_yes (ei_op j_mul (ei_op j_ixY ei_var ei_var) (ei_op j_ixY ei_var ei_var))) ea_nil)))) h⟩)
@[irreducible] noncomputable def b_l_mixed : Ms :=
  (mSeq (mIfS (mAnd (mBl (mOp (fI0 fun i j => .bl (decide (j ≤ i))) (mName 0) (mOp (fI CShl fun i j => .int (i * 2 ^ j.toNat)) (mC (.int 1)) (mC (.int 90))))) (mAnd (mBl (mOp fEq (mOp (fI (fun _ j => 0 < j) fun i j => .int (i % j)) (mName 0) (mC (.int 2))) (mC (.int 1)))) (mBl (mOp (fI0 fun i j => .bl (decide (j < i))) (mOp (fI (fun _ j => 0 ≤ j) fun i j => .int (i / 2 ^ j.toNat)) (mName 0) (mOp fAdd (mC (.int 1)) (mOp fMul (mC (.int 31)) (mName 1)))) (mC (.int 0)))))) (mRet (mOp (fI (fun _ j => 0 < j) fun i j => .int (i % j)) (mOp (fI (fun _ j => 0 ≤ j) fun i j => .int (i / 2 ^ j.toNat)) (mName 0) (mOp fAdd (mC (.int 1)) (mOp fMul (mC (.int 31)) (mName 1)))) (mC (.int 2147483648)))) mNext)
  (mSeq (mAsg 2 (mOp (fI (fun _ j => 0 < j) fun i j => .int (i % j)) (mOp fMul (mOp fAdd (mOp fAdd (mName 0) (mOp fMul (mC (.int 7919)) (mName 1))) (mC (.int 1))) (mC (.int 48271))) (mC (.int 2147483647))))
  (mSeq (mAsg 2 (mOp (fI (fun _ j => 0 < j) fun i j => .int (i % j)) (mOp fMul (mName 2) (mOp fAdd (mOp (fI CDiv fun i j => .int (i / j)) (mName 2) (mC (.int 1009))) (mC (.int 69621)))) (mC (.int 2147483647))))
  (mRet (mOp (fI (fun _ j => 0 < j) fun i j => .int (i % j)) (mOp fMul (mName 2) (mOp fAdd (mOp fAdd (mOp (fI CDiv fun i j => .int (i / j)) (mName 2) (mC (.int 2003))) (mC (.int 39373))) (mName 1))) (mC (.int 2147483629)))))))
noncomputable def m_l_mixed : Mf := mFn 2 3 b_l_mixed
theorem ok_l_mixed {P : Program} {w : World} {K : PySem.W.Frag} {mg : Str → Option Value} {base : Heap} (T : Tx K mg) : FnOk P w K mg base CX0 1 T.a_l_mixed T.d_l_mixed ["_law_cell", "_law_k"] (spM K (ctT T) m_l_mixed) :=
  T.F_l_mixed.ok sc_l_mixed (fun vs H Q E h => sp_len h) (fun cdv A outer s H vs Q E hr h => ⟨_, (pss_cons (ps_if (PW.pt (pw_and (pt_cmpR op_ge (pv 0) (pe_op op_shlW pe_int pe_int) (nomark _)) (pw_and (pt_cmpR (op_eqZ (K := K) rfl hr.units) (pe_op op_mod (pv 0) pe_int) pe_int (nomark _)) (pw_and1 (pt_cmpR op_gt (pe_op op_shr (pv 0) (pe_op (op_addZ (K := K) rfl) pe_int (pe_op op_mulZ pe_int (pv 1)))) pe_int (nomark _)))))) (pss_one (ps_ret (pe_op op_mod (pe_op op_shr (pv 0) (pe_op (op_addZ (K := K) rfl) pe_int (pe_op op_mulZ pe_int (pv 1)))) pe_int))) pss_nil)
      (pss_cons (ps_set (i := 2) sc_l_mixed.nd rfl (by first | exact Or.inl rfl | exact Or.inr rfl) (pe_op op_mod (pe_op op_mulZ (pe_op (op_addZ (K := K) rfl) (pe_op (op_addZ (K := K) rfl) (pv 0) (pe_op op_mulZ pe_int (pv 1))) pe_int) pe_int) pe_int))
      (pss_cons (ps_set (i := 2) sc_l_mixed.nd rfl (by first | exact Or.inl rfl | exact Or.inr rfl) (pe_op op_mod (pe_op op_mulZ (pv 2) (pe_op (op_addZ (K := K) rfl) (pe_op op_fdiv (pv 2) pe_int) pe_int)) pe_int))
      (pss_one (ps_ret (pe_op op_mod (pe_op op_mulZ (pv 2) (pe_op (op_addZ (K := K) rfl) (pe_op (op_addZ (K := K) rfl) (pe_op op_fdiv (pv 2) pe_int) pe_int) (pv 1))) pe_int)))))),
    fn_run (np := 2) (N := ["_law_cell", "_law_k", "_law_number"]) (body := b_l_mixed) (by unfold b_l_mixed; exact (sv_seq (sv_if (et_and (et_tst (ei_op (j_I0 fun _ _ => cr_bl) ei_var (ei_op (j_I fun _ _ => cr_int) (ei_c cr_int) (ei_c cr_int)))) (et_and (et_tst (ei_op j_eq (ei_op (j_I fun _ _ => cr_int) ei_var (ei_c cr_int)) (ei_c cr_int))) (et_tst (ei_op (j_I0 fun _ _ => cr_bl) (ei_op (j_I fun _ _ => cr_int) ei_var (ei_op j_add (ei_c cr_int) (ei_op j_mul (ei_c cr_int) ei_var))) (ei_c cr_int))))) (sv_ret (ei_op (j_I fun _ _ => cr_int) (ei_op (j_I fun _ _ => cr_int) ei_var (ei_op j_add (ei_c cr_int) (ei_op j_mul (ei_c cr_int) ei_var))) (ei_c cr_int))) sv_next)
      (sv_seq (sv_asg (ei_op (j_I fun _ _ => cr_int) (ei_op j_mul (ei_op j_add (ei_op j_add ei_var (ei_op j_mul (ei_c cr_int) ei_var)) (ei_c cr_int)) (ei_c cr_int)) (ei_c cr_int)))
      (sv_seq (sv_asg (ei_op (j_I fun _ _ => cr_int) (ei_op j_mul ei_var (ei_op j_add (ei_op (j_I fun _ _ => cr_int) ei_var (ei_c cr_int)) (ei_c cr_int))) (ei_c cr_int)))
      (sv_ret (ei_op (j_I fun _ _ => cr_int) (ei_op j_mul ei_var (ei_op j_add (ei_op j_add (ei_op (j_I fun _ _ => cr_int) ei_var (ei_c cr_int)) (ei_c cr_int)) ei_var)) (ei_c cr_int))))))) h⟩)
@[irreducible] noncomputable def b_l_by_parts : Ms :=
  (mSeq (mAsg 2 (mLc [8] (mRng1 (aCons (mCB fLen (aCons (mName 0) aNil)) aNil)) (tgN 8) (mOr (mBl (mOp (fI0 fun i j => .bl (decide (j < i))) (mOp fIxY (mName 0) (mName 8)) (mC (.int 0)))) (mBl (mOp fEq (mOp (fI (fun _ j => 0 < j) fun i j => .int (i % j)) (mCallN m_l_mixed (vCons (mName 1) (vCons (mName 8) vNil))) (mC (.int 9))) (mC (.int 0))))) (mLst (vCons (mName 8) vNil))))
  (mSeq (mAsg 3 (mLc [9] (mWL (mName 0)) (tgN 9) mYes (mC (.int 0))))
  (mSeq (mIfS (mBl (mOp fEq (mCB fLen (aCons (mName 2) aNil)) (mC (.int 1)))) (mAsgS (mName 3) (mOp fIxY (mOp fIxY (mName 2) (mC (.int 0))) (mC (.int 0))) (mC (.int 1))) mNext)
  (mSeq (mWh (mBl (mOp (fI0 fun i j => .bl (decide (j < i))) (mCB fLen (aCons (mName 2) aNil)) (mC (.int 1)))) (mSeq (mAsg 4 (mCallN m_l_mixed (vCons (mName 1) (vCons (mOp fAdd (mC (.int 64)) (mCB fLen (aCons (mName 2) aNil))) vNil))))
  (mSeq (mAsg 5 (mBM fPopA (mName 2) (vCons (mOp (fI (fun _ j => 0 < j) fun i j => .int (i % j)) (mName 4) (mCB fLen (aCons (mName 2) aNil))) vNil)))
  (mSeq (mAsg 6 (mBM fPopA (mName 2) (vCons (mOp (fI (fun _ j => 0 < j) fun i j => .int (i % j)) (mOp (fI CDiv fun i j => .int (i / j)) (mName 4) (mC (.int 64))) (mCB fLen (aCons (mName 2) aNil))) vNil)))
  (mSeq (mFor (mWL (mOp fAdd (mName 5) (mName 6))) (tgN 7) (mAsgS (mName 3) (mName 7) (mOp fAdd (mOp fIxY (mName 3) (mName 7)) (mC (.int 1)))))
  (mDrop (mBM fApp (mName 2) (vCons (mOp fAdd (mName 5) (mName 6)) vNil))))))))
  (mRet (mName 3))))))
noncomputable def m_l_by_parts : Mf := mFn 2 10 b_l_by_parts
theorem ok_l_by_parts {P : Program} {w : World} {K : PySem.W.Frag} {mg : Str → Option Value} {base : Heap} (T : Tx K mg) : FnOk P w K mg base CX0 2 T.a_l_by_parts T.d_l_by_parts ["_law_counts_here", "_law_cell"] (spM K (ctT T) m_l_by_parts) :=
  T.F_l_by_parts.ok sc_l_by_parts (fun vs H Q E h => sp_len h) (fun cdv A outer s H vs Q E hr h => ⟨_, (pss_cons (ps_setLc (i := 2) (own := [("_law_k", 8)]) rfl sc_l_by_parts.nd rfl rfl (sw_true rfl rfl rfl (by decide +kernel)) (pi_range1 rfl T.z_range (pa_cons (pe_callB (call_lenY (K := K) rfl) (by rfl) T.z_len PySem.boot_len (pa_cons (pv 0) pa_nil)) pa_nil)) (blkOk_by (N := ["_law_counts_here", "_law_cell", "_law_parts", "_law_found", "_law_number", "_law_one", "_law_other", "_law_symbol", "_law_k", "_law_count"]) (sc := defScope s_l_by_parts) (by decide +kernel)) (fun _ _ _ _ _ => (pg_name (i := 8) sc_l_by_parts.nd rfl (by first | exact Or.inl rfl | exact Or.inr rfl))) (fun _ _ _ _ _ => (pts_one (PW.pt (pw_or (pt_cmpR op_gt (pe_ix (ix_Y (K := K) rfl (hu_of hr)) (pv 0) (pv 8) (fun _ _ => rfl)) pe_int (nomark _)) (pw_or1 (pt_cmpR (op_eqZ (K := K) rfl hr.units) (pe_op op_mod (pe_callZ (ok_l_mixed T) (hr.mono (by decide)) (by rfl) T.g_l_mixed T.F_l_mixed.kp T.b_l_mixed pass0 (pa_cons (pv 1) (pa_cons (pv 8) pa_nil))) pe_int) pe_int (nomark _))))))) (fun _ _ _ _ _ => (pe_lst (pa_cons (pv 8) pa_nil))))
      (pss_cons (ps_setLc (i := 3) (own := [("_law_count", 9)]) rfl sc_l_by_parts.nd rfl rfl (sw_true rfl rfl rfl (by decide +kernel)) (pi_listZ (K := K) rfl (pv 0)) (blkOk_by (N := ["_law_counts_here", "_law_cell", "_law_parts", "_law_found", "_law_number", "_law_one", "_law_other", "_law_symbol", "_law_k", "_law_count"]) (sc := defScope s_l_by_parts) (by decide +kernel)) (fun _ _ _ _ _ => (pg_name (i := 9) sc_l_by_parts.nd rfl (by first | exact Or.inl rfl | exact Or.inr rfl))) (fun _ _ _ _ _ => pts_nil) (fun _ _ _ _ _ => pe_int))
      (pss_cons (ps_if (pt_cmpR (op_eqZ (K := K) rfl hr.units) (pe_callB (call_lenY (K := K) rfl) (by rfl) T.z_len PySem.boot_len (pa_cons (pv 2) pa_nil)) pe_int (nomark _)) (pss_one (ps_asg pe_int (pg_sub (pv 3) (pe_ix (ix_Y (K := K) rfl (hu_of hr)) (pe_ix (ix_Y (K := K) rfl (hu_of hr)) (pv 2) pe_int (fun _ _ => rfl)) pe_int (fun _ _ => rfl)) (set_Y (hu_of hr))))) pss_nil)
      (pss_cons (ps_while PassesOwn.never (pt_cmpR op_gt (pe_callB (call_lenY (K := K) rfl) (by rfl) T.z_len PySem.boot_len (pa_cons (pv 2) pa_nil)) pe_int (nomark _)) (pss_cons (ps_set (i := 4) sc_l_by_parts.nd rfl (by first | exact Or.inl rfl | exact Or.inr rfl) (pe_callZ (ok_l_mixed T) (hr.mono (by decide)) (by rfl) T.g_l_mixed T.F_l_mixed.kp T.b_l_mixed pass0 (pa_cons (pv 1) (pa_cons (pe_op (op_addZ (K := K) rfl) pe_int (pe_callB (call_lenY (K := K) rfl) (by rfl) T.z_len PySem.boot_len (pa_cons (pv 2) pa_nil))) pa_nil))))
      (pss_cons (ps_set (i := 5) sc_l_by_parts.nd rfl (by first | exact Or.inl rfl | exact Or.inr rfl) (pe_bmZ (K := K) rfl PySem.F.plainAttrs_list PySem.F.slot_list_pop PySem.F.type_list_pop mt_popA (pv 2) (pa_cons (pe_op op_mod (pv 4) (pe_callB (call_lenY (K := K) rfl) (by rfl) T.z_len PySem.boot_len (pa_cons (pv 2) pa_nil))) pa_nil)))
      (pss_cons (ps_set (i := 6) sc_l_by_parts.nd rfl (by first | exact Or.inl rfl | exact Or.inr rfl) (pe_bmZ (K := K) rfl PySem.F.plainAttrs_list PySem.F.slot_list_pop PySem.F.type_list_pop mt_popA (pv 2) (pa_cons (pe_op op_mod (pe_op op_fdiv (pv 4) pe_int) (pe_callB (call_lenY (K := K) rfl) (by rfl) T.z_len PySem.boot_len (pa_cons (pv 2) pa_nil))) pa_nil)))
      (pss_cons (ps_for PassesOwn.never rfl (pi_listZ (K := K) rfl (pe_op (op_addZ (K := K) rfl) (pv 5) (pv 6))) (pg_name (i := 7) sc_l_by_parts.nd rfl (by first | exact Or.inl rfl | exact Or.inr rfl)) (pss_one (ps_asg (pe_op (op_addZ (K := K) rfl) (pe_ix (ix_Y (K := K) rfl (hu_of hr)) (pv 3) (pv 7) (fun _ _ => rfl)) pe_int) (pg_sub (pv 3) (pv 7) (set_Y (hu_of hr))))))
      (pss_one (ps_expr (pe_bmZ (K := K) rfl PySem.F.plainAttrs_list PySem.F.slot_list_append PySem.F.type_list_append mt_append (pv 2) (pa_cons (pe_op (op_addZ (K := K) rfl) (pv 5) (pv 6)) pa_nil)))))))))
      (pss_one (ps_ret (pv 3))))))),
    fn_run (np := 2) (N := ["_law_counts_here", "_law_cell", "_law_parts", "_law_found", "_law_number", "_law_one", "_law_other", "_law_symbol", "_law_k", "_law_count"]) (body := b_l_by_parts) (by unfold b_l_by_parts; exact (sv_seq (sv_asg (ei_lc (ws := [8]) (jw_rng1 (ea_cons (ei_cb jb_len (ea_cons ei_var ea_nil)) ea_nil)) sg_name (by decide) (et_or (et_tst (ei_op (j_I0 fun _ _ => cr_bl) (ei_op j_ixY ei_var ei_var) (ei_c cr_int))) (et_tst (ei_op j_eq (ei_op (j_I fun _ _ => cr_int) (ei_callN (ev_cons ei_var (ev_cons ei_var ev_nil))) (ei_c cr_int)) (ei_c cr_int)))) (ei_lst (ev_cons ei_var ev_nil))))
      (sv_seq (sv_asg (ei_lc (ws := [9]) (jw_list ei_var) sg_name (by decide) et_yes (ei_c cr_int)))
      (sv_seq (sv_if (et_tst (ei_op j_eq (ei_cb jb_len (ea_cons ei_var ea_nil)) (ei_c cr_int))) (sv_asgS (ei_c cr_int) ei_var (ei_op j_ixY (ei_op j_ixY ei_var (ei_c cr_int)) (ei_c cr_int))) sv_next)
      (sv_seq (sv_while (et_tst (ei_op (j_I0 fun _ _ => cr_bl) (ei_cb jb_len (ea_cons ei_var ea_nil)) (ei_c cr_int))) (sv_seq (sv_asg (ei_callN (ev_cons ei_var (ev_cons (ei_op j_add (ei_c cr_int) (ei_cb jb_len (ea_cons ei_var ea_nil))) ev_nil))))
      (sv_seq (sv_asg (ei_bm jm_popA ei_var (ev_cons (ei_op (j_I fun _ _ => cr_int) ei_var (ei_cb jb_len (ea_cons ei_var ea_nil))) ev_nil)))
      (sv_seq (sv_asg (ei_bm jm_popA ei_var (ev_cons (ei_op (j_I fun _ _ => cr_int) (ei_op (j_I fun _ _ => cr_int) ei_var (ei_c cr_int)) (ei_cb jb_len (ea_cons ei_var ea_nil))) ev_nil)))
      (sv_seq (sv_for (jw_list (ei_op j_add ei_var ei_var)) sg_name (sv_asgS (ei_op j_add (ei_op j_ixY ei_var ei_var) (ei_c cr_int)) ei_var ei_var))
      (sv_drop (ei_bm jm_app ei_var (ev_cons (ei_op j_add ei_var ei_var) ev_nil))))))))
      (sv_ret ei_var)))))) h⟩)
@[irreducible] noncomputable def b_l_cell_at : Ms :=
  (mSeq (mIfS (mBl (mOp (fI0 fun i j => .bl (decide (i < j))) (mName 1) (mCB fLen (aCons (mName 0) aNil)))) (mRet (mOp fIxY (mName 0) (mName 1))) mNext)
  (mRet (mC (.int 0))))
noncomputable def m_l_cell_at : Mf := mFn 2 2 b_l_cell_at
theorem ok_l_cell_at {P : Program} {w : World} {K : PySem.W.Frag} {mg : Str → Option Value} {base : Heap} (T : Tx K mg) : FnOk P w K mg base CX0 1 T.a_l_cell_at T.d_l_cell_at ["_law_script", "_law_k"] (spM K (ctT T) m_l_cell_at) :=
  T.F_l_cell_at.ok sc_l_cell_at (fun vs H Q E h => sp_len h) (fun cdv A outer s H vs Q E hr h => ⟨_, (pss_cons (ps_if (pt_cmpR op_lt (pv 1) (pe_callB (call_lenY (K := K) rfl) (by rfl) T.z_len PySem.boot_len (pa_cons (pv 0) pa_nil)) (nomark _)) (pss_one (ps_ret (pe_ix (ix_Y (K := K) rfl (hu_of hr)) (pv 0) (pv 1) (fun _ _ => rfl)))) pss_nil)
      (pss_one (ps_ret pe_int))),
    fn_run (np := 2) (N := ["_law_script", "_law_k"]) (body := b_l_cell_at) (by unfold b_l_cell_at; exact (sv_seq (sv_if (et_tst (ei_op (j_I0 fun _ _ => cr_bl) ei_var (ei_cb jb_len (ea_cons ei_var ea_nil)))) (sv_ret (ei_op j_ixY ei_var ei_var)) sv_next)
      (sv_ret (ei_c cr_int)))) h⟩)
@[irreducible] noncomputable def b_l_counts : Ms :=
  (mSeq (mAsg 2 (mCallN m_l_mixed (vCons (mName 0) (vCons (mC (.int 0)) vNil))))
  (mSeq (mAsg 3 (mOp fIxY (mLst (vCons (mOp fAdd (mC (.int 1)) (mOp (fI (fun _ j => 0 < j) fun i j => .int (i % j)) (mOp (fI CDiv fun i j => .int (i / j)) (mName 2) (mC (.int 4))) (mC (.int 6)))) (vCons (mC (.int 33)) (vCons (mOp fAdd (mC (.int 1)) (mOp (fI (fun _ j => 0 < j) fun i j => .int (i % j)) (mOp (fI CDiv fun i j => .int (i / j)) (mName 2) (mC (.int 4))) (mC (.int 64)))) (vCons (mOp fAdd (mC (.int 1)) (mOp (fI (fun _ j => 0 < j) fun i j => .int (i % j)) (mOp (fI CDiv fun i j => .int (i / j)) (mName 2) (mC (.int 4))) (mC (.int 20)))) vNil))))) (mOp (fI (fun _ j => 0 < j) fun i j => .int (i % j)) (mName 2) (mC (.int 4)))))
  (mSeq (mAsg 4 (mOp (fI (fun _ j => 0 < j) fun i j => .int (i % j)) (mOp (fI CDiv fun i j => .int (i / j)) (mName 2) (mC (.int 512))) (mC (.int 5))))
  (mSeq (mAsg 5 (mLst vNil))
  (mSeq (mAsg 6 (mC (.int 1000)))
  (mSeq (mAsg 7 (mC (.int 1)))
  (mSeq (mAsg 8 (mC (.int 1)))
  (mSeq (mFor (mRng1 (aCons (mName 3) aNil)) (tgN 9) (mSeq (mAsg 10 (mCallN m_l_mixed (vCons (mName 1) (vCons (mName 9) vNil))))
  (mSeq (mAsg 11 (mOp fIxY (mLst (vCons (mOp (fI (fun _ j => 0 < j) fun i j => .int (i % j)) (mName 10) (mC (.int 4))) (vCons (mOp (fI (fun _ j => 0 < j) fun i j => .int (i % j)) (mName 10) (mC (.int 60))) (vCons (mName 7) (vCons (mOp fIxY (mLst (vCons (mC (.int 0)) (vCons (mC (.int 0)) (vCons (mC (.int 1)) (vCons (mOp (fI (fun _ j => 0 < j) fun i j => .int (i % j)) (mOp (fI CDiv fun i j => .int (i / j)) (mName 10) (mC (.int 4))) (mC (.int 1001))) vNil))))) (mOp (fI (fun _ j => 0 < j) fun i j => .int (i % j)) (mName 10) (mC (.int 4)))) (vCons (mOp fMul (mOp (fI (fun _ j => 0 < j) fun i j => .int (i % j)) (mOp (fI CDiv fun i j => .int (i / j)) (mName 10) (mC (.int 3))) (mC (.int 2))) (mC (.int 7))) vNil)))))) (mName 4)))
  (mSeq (mPar 7 8 (vCons (mName 8) (vCons (mOp fAdd (mName 7) (mName 8)) vNil)))
  (mSeq (mDrop (mBM fApp (mName 5) (vCons (mCB (fI2 min) (aCons (mName 6) (aCons (mName 11) aNil))) vNil)))
  (mAsg 6 (mOp (fI0 fun i j => .int (i - j)) (mName 6) (mOp fIxY (mName 5) (mName 9)))))))))
  (mSeq (mIfS (mBl (mOp fEq (mOp (fI (fun _ j => 0 < j) fun i j => .int (i % j)) (mOp (fI CDiv fun i j => .int (i / j)) (mName 2) (mC (.int 4096))) (mC (.int 3))) (mC (.int 1)))) (mDrop (mBM fRev (mName 5) vNil)) mNext)
  (mRet (mName 5)))))))))))
noncomputable def m_l_counts : Mf := mFn 2 12 b_l_counts
theorem ok_l_counts {P : Program} {w : World} {K : PySem.W.Frag} {mg : Str → Option Value} {base : Heap} (T : Tx K mg) : FnOk P w K mg base CX0 2 T.a_l_counts T.d_l_counts ["_law_head", "_law_cell"] (spM K (ctT T) m_l_counts) :=
  T.F_l_counts.ok sc_l_counts (fun vs H Q E h => sp_len h) (fun cdv A outer s H vs Q E hr h => ⟨_, (pss_cons (ps_set (i := 2) sc_l_counts.nd rfl (by first | exact Or.inl rfl | exact Or.inr rfl) (pe_callZ (ok_l_mixed T) (hr.mono (by decide)) (by rfl) T.g_l_mixed T.F_l_mixed.kp T.b_l_mixed pass0 (pa_cons (pv 0) (pa_cons pe_int pa_nil))))
      (pss_cons (ps_set (i := 3) sc_l_counts.nd rfl (by first | exact Or.inl rfl | exact Or.inr rfl) (pe_ix (ix_Y (K := K) rfl (hu_of hr)) (pe_lst (pa_cons (pe_op (op_addZ (K := K) rfl) pe_int (pe_op op_mod (pe_op op_fdiv (pv 2) pe_int) pe_int)) (pa_cons pe_int (pa_cons (pe_op (op_addZ (K := K) rfl) pe_int (pe_op op_mod (pe_op op_fdiv (pv 2) pe_int) pe_int)) (pa_cons (pe_op (op_addZ (K := K) rfl) pe_int (pe_op op_mod (pe_op op_fdiv (pv 2) pe_int) pe_int)) pa_nil))))) (pe_op op_mod (pv 2) pe_int) (fun _ _ => rfl)))
      (pss_cons (ps_set (i := 4) sc_l_counts.nd rfl (by first | exact Or.inl rfl | exact Or.inr rfl) (pe_op op_mod (pe_op op_fdiv (pv 2) pe_int) pe_int))
      (pss_cons (ps_set (i := 5) sc_l_counts.nd rfl (by first | exact Or.inl rfl | exact Or.inr rfl) (pe_lst pa_nil))
      (pss_cons (ps_set (i := 6) sc_l_counts.nd rfl (by first | exact Or.inl rfl | exact Or.inr rfl) pe_int)
      (pss_cons (ps_set (i := 7) sc_l_counts.nd rfl (by first | exact Or.inl rfl | exact Or.inr rfl) pe_int)
      (pss_cons (ps_set (i := 8) sc_l_counts.nd rfl (by first | exact Or.inl rfl | exact Or.inr rfl) pe_int)
      (pss_cons (ps_for PassesOwn.never rfl (pi_range1 rfl T.z_range (pa_cons (pv 3) pa_nil)) (pg_name (i := 9) sc_l_counts.nd rfl (by first | exact Or.inl rfl | exact Or.inr rfl)) (pss_cons (ps_set (i := 10) sc_l_counts.nd rfl (by first | exact Or.inl rfl | exact Or.inr rfl) (pe_callZ (ok_l_mixed T) (hr.mono (by decide)) (by rfl) T.g_l_mixed T.F_l_mixed.kp T.b_l_mixed pass0 (pa_cons (pv 1) (pa_cons (pv 9) pa_nil))))
      (pss_cons (ps_set (i := 11) sc_l_counts.nd rfl (by first | exact Or.inl rfl | exact Or.inr rfl) (pe_ix (ix_Y (K := K) rfl (hu_of hr)) (pe_lst (pa_cons (pe_op op_mod (pv 10) pe_int) (pa_cons (pe_op op_mod (pv 10) pe_int) (pa_cons (pv 7) (pa_cons (pe_ix (ix_Y (K := K) rfl (hu_of hr)) (pe_lst (pa_cons pe_int (pa_cons pe_int (pa_cons pe_int (pa_cons (pe_op op_mod (pe_op op_fdiv (pv 10) pe_int) pe_int) pa_nil))))) (pe_op op_mod (pv 10) pe_int) (fun _ _ => rfl)) (pa_cons (pe_op op_mulZ (pe_op op_mod (pe_op op_fdiv (pv 10) pe_int) pe_int) pe_int) pa_nil)))))) (pv 4) (fun _ _ => rfl)))
      (pss_cons (ps_par (i := 7) (j := 8) rfl sc_l_counts.nd rfl rfl (by decide) rfl rfl (pa_cons (pv 8) (pa_cons (pe_op (op_addZ (K := K) rfl) (pv 7) (pv 8)) pa_nil)) rfl)
      (pss_cons (ps_expr (pe_bmZ (K := K) rfl PySem.F.plainAttrs_list PySem.F.slot_list_append PySem.F.type_list_append mt_append (pv 5) (pa_cons (pe_callB (call_min2Z rfl) (by rfl) T.z_min (by decide +kernel) (pa_cons (pv 6) (pa_cons (pv 11) pa_nil))) pa_nil)))
      (pss_one (ps_set (i := 6) sc_l_counts.nd rfl (by first | exact Or.inl rfl | exact Or.inr rfl) (pe_op op_sub (pv 6) (pe_ix (ix_Y (K := K) rfl (hu_of hr)) (pv 5) (pv 9) (fun _ _ => rfl))))))))))
      (pss_cons (ps_if (pt_cmpR (op_eqZ (K := K) rfl hr.units) (pe_op op_mod (pe_op op_fdiv (pv 2) pe_int) pe_int) pe_int (nomark _)) (pss_one (ps_expr (pe_bm0Z (K := K) rfl PySem.F.plainAttrs_list PySem.F.slot_list_reverse PySem.F.type_list_reverse mt_reverse (pv 5)))) pss_nil)
      (pss_one (ps_ret (pv 5)))))))))))),
    fn_run (np := 2) (N := ["_law_head", "_law_cell", "_law_number", "_law_size", "_law_way", "_law_found", "_law_left", "_law_one", "_law_other", "_law_k", "_law_more", "_law_count"]) (body := b_l_counts) (by unfold b_l_counts; exact (sv_seq (sv_asg (ei_callN (ev_cons ei_var (ev_cons (ei_c cr_int) ev_nil))))
      (sv_seq (sv_asg (ei_op j_ixY (ei_lst (ev_cons (ei_op j_add (ei_c cr_int) (ei_op (j_I fun _ _ => cr_int) (ei_op (j_I fun _ _ => cr_int) ei_var (ei_c cr_int)) (ei_c cr_int))) (ev_cons (ei_c cr_int) (ev_cons (ei_op j_add (ei_c cr_int) (ei_op (j_I fun _ _ => cr_int) (ei_op (j_I fun _ _ => cr_int) ei_var (ei_c cr_int)) (ei_c cr_int))) (ev_cons (ei_op j_add (ei_c cr_int) (ei_op (j_I fun _ _ => cr_int) (ei_op (j_I fun _ _ => cr_int) ei_var (ei_c cr_int)) (ei_c cr_int))) ev_nil))))) (ei_op (j_I fun _ _ => cr_int) ei_var (ei_c cr_int))))
      (sv_seq (sv_asg (ei_op (j_I fun _ _ => cr_int) (ei_op (j_I fun _ _ => cr_int) ei_var (ei_c cr_int)) (ei_c cr_int)))
      (sv_seq (sv_asg (ei_lst ev_nil))
      (sv_seq (sv_asg (ei_c cr_int))
      (sv_seq (sv_asg (ei_c cr_int))
      (sv_seq (sv_asg (ei_c cr_int))
      (sv_seq (sv_for (jw_rng1 (ea_cons ei_var ea_nil)) sg_name (sv_seq (sv_asg (ei_callN (ev_cons ei_var (ev_cons ei_var ev_nil))))
      (sv_seq (sv_asg (ei_op j_ixY (ei_lst (ev_cons (ei_op (j_I fun _ _ => cr_int) ei_var (ei_c cr_int)) (ev_cons (ei_op (j_I fun _ _ => cr_int) ei_var (ei_c cr_int)) (ev_cons ei_var (ev_cons (ei_op j_ixY (ei_lst (ev_cons (ei_c cr_int) (ev_cons (ei_c cr_int) (ev_cons (ei_c cr_int) (ev_cons (ei_op (j_I fun _ _ => cr_int) (ei_op (j_I fun _ _ => cr_int) ei_var (ei_c cr_int)) (ei_c cr_int)) ev_nil))))) (ei_op (j_I fun _ _ => cr_int) ei_var (ei_c cr_int))) (ev_cons (ei_op j_mul (ei_op (j_I fun _ _ => cr_int) (ei_op (j_I fun _ _ => cr_int) ei_var (ei_c cr_int)) (ei_c cr_int)) (ei_c cr_int)) ev_nil)))))) ei_var))
      (sv_seq (sv_par (ev_cons ei_var (ev_cons (ei_op j_add ei_var ei_var) ev_nil)))
      (sv_seq (sv_drop (ei_bm jm_app ei_var (ev_cons (ei_cb jb_min2 (ea_cons ei_var (ea_cons ei_var ea_nil))) ev_nil)))
      (sv_asg (ei_op (j_I0 fun _ _ => cr_int) ei_var (ei_op j_ixY ei_var ei_var))))))))
      (sv_seq (sv_if (et_tst (ei_op j_eq (ei_op (j_I fun _ _ => cr_int) (ei_op (j_I fun _ _ => cr_int) ei_var (ei_c cr_int)) (ei_c cr_int)) (ei_c cr_int))) (sv_drop (ei_bm0 jm_rev ei_var)) sv_next)
      (sv_ret ei_var))))))))))) h⟩)
@[irreducible] noncomputable def b_l_fewest : Ms :=
  (mSeq (mAsg 1 (mCB fSort (aCons (mLc [3] (mWL (mName 0)) (tgN 3) (mBl (mOp (fI0 fun i j => .bl (decide (j < i))) (mName 3) (mC (.int 0)))) (mName 3)) aNil)))
  (mSeq (mAsg 2 (mI (mV (mDisp (kvCons (mOp (fI CShl fun i j => .int (i * 2 ^ j.toNat)) (mC (.int 1)) (mC (.int 4))) (mC (.int 0)) kvNil)))))
  (mSeq (mFor (mWL (mName 1)) (tgN 3) (mSeq (mAsg 4 mDNew)
  (mSeq (mForD .keys 2 (tgN 5) (mFor (mRng2 (aCons (mC (.int 1)) (aCons (mC (.int 5)) aNil))) (tgN 6) (mSeq (mAsg 7 (mOp (fI0 fun i j => .int (i - j)) (mName 5) (mOp (fI CShl fun i j => .int (i * 2 ^ j.toNat)) (mC (.int 1)) (mOp (fI0 fun i j => .int (i - j)) (mC (.int 4)) (mName 6)))))
  (mIfS (mBl (mOp (fI0 fun i j => .bl (decide (j ≤ i))) (mName 7) (mC (.int 0)))) (mAsgS (mName 4) (mName 7) (mCB (fI2 min) (aCons (mGet2 (mName 4) (mName 7) (mC (.int 16000))) (aCons (mOp fAdd (mOp fIxY (mName 2) (mName 5)) (mOp fMul (mName 3) (mName 6))) aNil)))) mNext))))
  (mAsg 2 (mI (mV (mName 4)))))))
  (mRet (mMinValsV (mName 2))))))
noncomputable def m_l_fewest : Mf := mFn 1 8 b_l_fewest
theorem ok_l_fewest {P : Program} {w : World} {K : PySem.W.Frag} {mg : Str → Option Value} {base : Heap} (T : Tx K mg) : FnOk P w K mg base CX0 1 T.a_l_fewest T.d_l_fewest ["_law_counts_here"] (spM K (ctT T) m_l_fewest) :=
  T.F_l_fewest.ok sc_l_fewest (fun vs H Q E h => sp_len h) (fun cdv A outer s H vs Q E hr h => ⟨_, (pss_cons (ps_set (i := 1) sc_l_fewest.nd rfl (by first | exact Or.inl rfl | exact Or.inr rfl) (pe_callB (cr_sortY (K := K) rfl (u66 hr)) (by rfl) T.z_sorted (by decide +kernel) (pa_cons (pe_lc (own := [("_law_count", 3)]) rfl sc_l_fewest.nd (pi_listZ (K := K) rfl (pv 0)) (blkOk_by (N := ["_law_counts_here", "_law_wanted", "_law_states", "_law_count", "_law_found", "_law_room", "_law_length", "_law_rest"]) (sc := defScope s_l_fewest) (by decide +kernel)) (fun _ _ _ _ _ => (pg_name (i := 3) sc_l_fewest.nd rfl (by first | exact Or.inl rfl | exact Or.inr rfl))) (fun _ _ _ _ _ => (pts_one (pt_cmpR op_gt (pv 3) pe_int (nomark _)))) (fun _ _ _ _ _ => (pv 3))) pa_nil)))
      (pss_cons (ps_set (i := 2) sc_l_fewest.nd rfl (by first | exact Or.inl rfl | exact Or.inr rfl) (pe_disp (pps_cons (pe_op op_shlW pe_int pe_int) pe_int pps_nil) rfl rfl (by simp) (by decide)))
      (pss_cons (ps_for PassesOwn.never rfl (pi_listZ (K := K) rfl (pv 1)) (pg_name (i := 3) sc_l_fewest.nd rfl (by first | exact Or.inl rfl | exact Or.inr rfl)) (pss_cons (ps_set (i := 4) sc_l_fewest.nd rfl (by first | exact Or.inl rfl | exact Or.inr rfl) pe_dnewK)
      (pss_cons (ps_lock (ps_for PassesOwn.never rfl (pi_keys (pv 2)) (pg_name (i := 5) sc_l_fewest.nd rfl (by first | exact Or.inl rfl | exact Or.inr rfl)) (pss_one (ps_for PassesOwn.never rfl (pi_range2 rfl T.z_range (pa_cons pe_int (pa_cons pe_int pa_nil))) (pg_name (i := 6) sc_l_fewest.nd rfl (by first | exact Or.inl rfl | exact Or.inr rfl)) (pss_cons (ps_set (i := 7) sc_l_fewest.nd rfl (by first | exact Or.inl rfl | exact Or.inr rfl) (pe_op op_sub (pv 5) (pe_op op_shlW pe_int (pe_op op_sub pe_int (pv 6)))))
      (pss_one (ps_if (pt_cmpR op_ge (pv 7) pe_int (nomark _)) (pss_one (ps_asg (pe_callB (call_min2Z rfl) (by rfl) T.z_min (by decide +kernel) (pa_cons (pe_dget2 (hu_of hr) (pv 4) (pv 7) pe_int ⟨rfl, rfl, rfl, rfl⟩) (pa_cons (pe_op (op_addZ (K := K) rfl) (pe_ix (ix_Y (K := K) rfl (hu_of hr)) (pv 2) (pv 5) (fun _ _ => rfl)) (pe_op op_mulZ (pv 3) (pv 6))) pa_nil))) (pg_sub (pv 4) (pv 7) (set_Y (hu_of hr))))) pss_nil)))))))
      (pss_one (ps_set (i := 2) sc_l_fewest.nd rfl (by first | exact Or.inl rfl | exact Or.inr rfl) (pv 4))))))
      (pss_one (ps_ret (pe_minVals rfl (by rfl) T.z_min (pv 2))))))),
    fn_run (np := 1) (N := ["_law_counts_here", "_law_wanted", "_law_states", "_law_count", "_law_found", "_law_room", "_law_length", "_law_rest"]) (body := b_l_fewest) (by unfold b_l_fewest; exact (sv_seq (sv_asg (ei_cb jb_sort (ea_cons (ei_lc (ws := [3]) (jw_list ei_var) sg_name (by decide) (et_tst (ei_op (j_I0 fun _ _ => cr_bl) ei_var (ei_c cr_int))) ei_var) ea_nil)))
      (sv_seq (sv_asg (ei_of (ev_of (ei_disp (ekv_cons (ei_op (j_I fun _ _ => cr_int) (ei_c cr_int) (ei_c cr_int)) (ei_c cr_int) ekv_nil)))))
      (sv_seq (sv_for (jw_list ei_var) sg_name (sv_seq (sv_asg ei_dnew)
      (sv_seq (sv_forD (kd := .keys) (i := 2) rfl (fun b => sg_name) (fun b => (sv_for (jw_rng2 (ea_cons (ei_c cr_int) (ea_cons (ei_c cr_int) ea_nil))) sg_name (sv_seq (sv_asg (ei_op (j_I0 fun _ _ => cr_int) ei_var (ei_op (j_I fun _ _ => cr_int) (ei_c cr_int) (ei_op (j_I0 fun _ _ => cr_int) (ei_c cr_int) ei_var))))
      (sv_if (et_tst (ei_op (j_I0 fun _ _ => cr_bl) ei_var (ei_c cr_int))) (sv_asgS (ei_cb jb_min2 (ea_cons (ei_get2 ei_var ei_var (ei_c cr_int)) (ea_cons (ei_op j_add (ei_op j_ixY ei_var ei_var) (ei_op j_mul ei_var ei_var)) ea_nil))) ei_var ei_var) sv_next)))))
      (sv_asg (ei_of (ev_of ei_var))))))
      (sv_ret (ei_minValsV rfl ei_var)))))) h⟩)
@[irreducible] noncomputable def b_l_one_by_one : Ms :=
  (mSeq (mAsg 2 (mLc [5] (mRng1 (aCons (mCB fLen (aCons (mName 0) aNil)) aNil)) (tgN 5) (mBl (mOp (fI0 fun i j => .bl (decide (j < i))) (mOp fIxY (mName 0) (mName 5)) (mC (.int 0)))) (mName 5)))
  (mSeq (mAsg 3 (mLc [8] (mWL (mName 0)) (tgN 8) mYes (mC (.int 0))))
  (mSeq (mAsg 4 (mOp (fI CShl fun i j => .int (i * 2 ^ j.toNat)) (mC (.int 1)) (mC (.int 15))))
  (mSeq (mFor (mRng1 (aCons (mCB fLen (aCons (mName 2) aNil)) aNil)) (tgN 5) (mSeq (mAsg 6 (mOp (fI0 fun i j => .int (i - j)) (mOp (fI0 fun i j => .int (i - j)) (mCB fLen (aCons (mName 2) aNil)) (mC (.int 1))) (mName 5)))
  (mSeq (mAsg 7 (mLc [9] (mRng2 (aCons (mC (.int 1)) (aCons (mC (.int 16)) aNil))) (tgN 9) (mBl (mOp (fI0 fun i j => .bl (decide (i ≤ j))) (mOp fAdd (mOp (fI CShl fun i j => .int (i * 2 ^ j.toNat)) (mC (.int 1)) (mOp (fI0 fun i j => .int (i - j)) (mC (.int 15)) (mName 9))) (mName 6)) (mName 4))) (mName 9)))
  (mSeq (mAsgS (mName 3) (mOp fIxY (mName 2) (mName 5)) (mOp fIxY (mName 7) (mOp (fI (fun _ j => 0 < j) fun i j => .int (i % j)) (mCallN m_l_mixed (vCons (mName 1) (vCons (mName 5) vNil))) (mCB fLen (aCons (mName 7) aNil)))))
  (mAsg 4 (mOp (fI0 fun i j => .int (i - j)) (mName 4) (mOp (fI CShl fun i j => .int (i * 2 ^ j.toNat)) (mC (.int 1)) (mOp (fI0 fun i j => .int (i - j)) (mC (.int 15)) (mOp fIxY (mName 3) (mOp fIxY (mName 2) (mName 5)))))))))))
  (mRet (mName 3))))))
noncomputable def m_l_one_by_one : Mf := mFn 2 10 b_l_one_by_one
theorem ok_l_one_by_one {P : Program} {w : World} {K : PySem.W.Frag} {mg : Str → Option Value} {base : Heap} (T : Tx K mg) : FnOk P w K mg base CX0 2 T.a_l_one_by_one T.d_l_one_by_one ["_law_counts_here", "_law_cell"] (spM K (ctT T) m_l_one_by_one) :=
  T.F_l_one_by_one.ok sc_l_one_by_one (fun vs H Q E h => sp_len h) (fun cdv A outer s H vs Q E hr h => ⟨_, (pss_cons (ps_setLc (i := 2) (own := [("_law_k", 5)]) rfl sc_l_one_by_one.nd rfl rfl (sw_true rfl rfl rfl (by decide +kernel)) (pi_range1 rfl T.z_range (pa_cons (pe_callB (call_lenY (K := K) rfl) (by rfl) T.z_len PySem.boot_len (pa_cons (pv 0) pa_nil)) pa_nil)) (blkOk_by (N := ["_law_counts_here", "_law_cell", "_law_wanted", "_law_found", "_law_room", "_law_k", "_law_lacking", "_law_some", "_law_count", "_law_length"]) (sc := defScope s_l_one_by_one) (by decide +kernel)) (fun _ _ _ _ _ => (pg_name (i := 5) sc_l_one_by_one.nd rfl (by first | exact Or.inl rfl | exact Or.inr rfl))) (fun _ _ _ _ _ => (pts_one (pt_cmpR op_gt (pe_ix (ix_Y (K := K) rfl (hu_of hr)) (pv 0) (pv 5) (fun _ _ => rfl)) pe_int (nomark _)))) (fun _ _ _ _ _ => (pv 5)))
      (pss_cons (ps_setLc (i := 3) (own := [("_law_count", 8)]) rfl sc_l_one_by_one.nd rfl rfl (sw_true rfl rfl rfl (by decide +kernel)) (pi_listZ (K := K) rfl (pv 0)) (blkOk_by (N := ["_law_counts_here", "_law_cell", "_law_wanted", "_law_found", "_law_room", "_law_k", "_law_lacking", "_law_some", "_law_count", "_law_length"]) (sc := defScope s_l_one_by_one) (by decide +kernel)) (fun _ _ _ _ _ => (pg_name (i := 8) sc_l_one_by_one.nd rfl (by first | exact Or.inl rfl | exact Or.inr rfl))) (fun _ _ _ _ _ => pts_nil) (fun _ _ _ _ _ => pe_int))
      (pss_cons (ps_set (i := 4) sc_l_one_by_one.nd rfl (by first | exact Or.inl rfl | exact Or.inr rfl) (pe_op op_shlW pe_int pe_int))
      (pss_cons (ps_for PassesOwn.never rfl (pi_range1 rfl T.z_range (pa_cons (pe_callB (call_lenY (K := K) rfl) (by rfl) T.z_len PySem.boot_len (pa_cons (pv 2) pa_nil)) pa_nil)) (pg_name (i := 5) sc_l_one_by_one.nd rfl (by first | exact Or.inl rfl | exact Or.inr rfl)) (pss_cons (ps_set (i := 6) sc_l_one_by_one.nd rfl (by first | exact Or.inl rfl | exact Or.inr rfl) (pe_op op_sub (pe_op op_sub (pe_callB (call_lenY (K := K) rfl) (by rfl) T.z_len PySem.boot_len (pa_cons (pv 2) pa_nil)) pe_int) (pv 5)))
      (pss_cons (ps_setLc (i := 7) (own := [("_law_length", 9)]) rfl sc_l_one_by_one.nd rfl rfl (sw_true rfl rfl rfl (by decide +kernel)) (pi_range2 rfl T.z_range (pa_cons pe_int (pa_cons pe_int pa_nil))) (blkOk_by (N := ["_law_counts_here", "_law_cell", "_law_wanted", "_law_found", "_law_room", "_law_k", "_law_lacking", "_law_some", "_law_count", "_law_length"]) (sc := defScope s_l_one_by_one) (by decide +kernel)) (fun _ _ _ _ _ => (pg_name (i := 9) sc_l_one_by_one.nd rfl (by first | exact Or.inl rfl | exact Or.inr rfl))) (fun _ _ _ _ _ => (pts_one (pt_cmpR op_le (pe_op (op_addZ (K := K) rfl) (pe_op op_shlW pe_int (pe_op op_sub pe_int (pv 9))) (pv 6)) (pv 4) (nomark _)))) (fun _ _ _ _ _ => (pv 9)))
      (pss_cons (ps_asg (pe_ix (ix_Y (K := K) rfl (hu_of hr)) (pv 7) (pe_op op_mod (pe_callZ (ok_l_mixed T) (hr.mono (by decide)) (by rfl) T.g_l_mixed T.F_l_mixed.kp T.b_l_mixed pass0 (pa_cons (pv 1) (pa_cons (pv 5) pa_nil))) (pe_callB (call_lenY (K := K) rfl) (by rfl) T.z_len PySem.boot_len (pa_cons (pv 7) pa_nil))) (fun _ _ => rfl)) (pg_sub (pv 3) (pe_ix (ix_Y (K := K) rfl (hu_of hr)) (pv 2) (pv 5) (fun _ _ => rfl)) (set_Y (hu_of hr))))
      (pss_one (ps_set (i := 4) sc_l_one_by_one.nd rfl (by first | exact Or.inl rfl | exact Or.inr rfl) (pe_op op_sub (pv 4) (pe_op op_shlW pe_int (pe_op op_sub pe_int (pe_ix (ix_Y (K := K) rfl (hu_of hr)) (pv 3) (pe_ix (ix_Y (K := K) rfl (hu_of hr)) (pv 2) (pv 5) (fun _ _ => rfl)) (fun _ _ => rfl)))))))))))
      (pss_one (ps_ret (pv 3))))))),
    fn_run (np := 2) (N := ["_law_counts_here", "_law_cell", "_law_wanted", "_law_found", "_law_room", "_law_k", "_law_lacking", "_law_some", "_law_count", "_law_length"]) (body := b_l_one_by_one) (by unfold b_l_one_by_one; exact (sv_seq (sv_asg (ei_lc (ws := [5]) (jw_rng1 (ea_cons (ei_cb jb_len (ea_cons ei_var ea_nil)) ea_nil)) sg_name (by decide) (et_tst (ei_op (j_I0 fun _ _ => cr_bl) (ei_op j_ixY ei_var ei_var) (ei_c cr_int))) ei_var))
      (sv_seq (sv_asg (ei_lc (ws := [8]) (jw_list ei_var) sg_name (by decide) et_yes (ei_c cr_int)))
      (sv_seq (sv_asg (ei_op (j_I fun _ _ => cr_int) (ei_c cr_int) (ei_c cr_int)))
      (sv_seq (sv_for (jw_rng1 (ea_cons (ei_cb jb_len (ea_cons ei_var ea_nil)) ea_nil)) sg_name (sv_seq (sv_asg (ei_op (j_I0 fun _ _ => cr_int) (ei_op (j_I0 fun _ _ => cr_int) (ei_cb jb_len (ea_cons ei_var ea_nil)) (ei_c cr_int)) ei_var))
      (sv_seq (sv_asg (ei_lc (ws := [9]) (jw_rng2 (ea_cons (ei_c cr_int) (ea_cons (ei_c cr_int) ea_nil))) sg_name (by decide) (et_tst (ei_op (j_I0 fun _ _ => cr_bl) (ei_op j_add (ei_op (j_I fun _ _ => cr_int) (ei_c cr_int) (ei_op (j_I0 fun _ _ => cr_int) (ei_c cr_int) ei_var)) ei_var) ei_var)) ei_var))
      (sv_seq (sv_asgS (ei_op j_ixY ei_var (ei_op (j_I fun _ _ => cr_int) (ei_callN (ev_cons ei_var (ev_cons ei_var ev_nil))) (ei_cb jb_len (ea_cons ei_var ea_nil)))) ei_var (ei_op j_ixY ei_var ei_var))
      (sv_asg (ei_op (j_I0 fun _ _ => cr_int) ei_var (ei_op (j_I fun _ _ => cr_int) (ei_c cr_int) (ei_op (j_I0 fun _ _ => cr_int) (ei_c cr_int) (ei_op j_ixY ei_var (ei_op j_ixY ei_var ei_var))))))))))
      (sv_ret ei_var)))))) h⟩)
@[irreducible] noncomputable def b_room_of : Ms :=
  (mRet (mCB (fInts gSum) (aCons (mLc [1] (mWL (mName 0)) (tgN 1) (mBl (mOp (fI0 fun i j => .bl (decide (j < i))) (mName 1) (mC (.int 0)))) (mOp (fI CShl fun i j => .int (i * 2 ^ j.toNat)) (mC (.int 1)) (mOp (fI0 fun i j => .int (i - j)) (mC (.int 15)) (mName 1)))) aNil)))
noncomputable def m_room_of : Mf := mFn 1 2 b_room_of
theorem ok_room_of {P : Program} {w : World} {K : PySem.W.Frag} {mg : Str → Option Value} {base : Heap} (T : Tx K mg) : FnOk P w K mg base CX0 1 T.a_room_of T.d_room_of ["lengths"] (spM K (ctT T) m_room_of) :=
  T.F_room_of.ok sc_room_of (fun vs H Q E h => sp_len h) (fun cdv A outer s H vs Q E hr h => ⟨_, (pss_one (ps_ret (pe_callB (cr_sumZ (K := K) rfl rfl) (by rfl) T.z_sum (by decide +kernel) (pa_cons (pe_lc (own := [("length", 1)]) rfl sc_room_of.nd (pi_listZ (K := K) rfl (pv 0)) (blkOk_by (N := ["lengths", "length"]) (sc := defScope s_room_of) (by decide +kernel)) (fun _ _ _ _ _ => (pg_name (i := 1) sc_room_of.nd rfl (by first | exact Or.inl rfl | exact Or.inr rfl))) (fun _ _ _ _ _ => (pts_one (pt_cmpR op_gt (pv 1) pe_int (nomark _)))) (fun _ _ _ _ _ => (pe_op op_shlW pe_int (pe_op op_sub (pe_glob rfl T.m_LONGEST T.r_LONGEST) (pv 1))))) pa_nil)))),
    fn_run (np := 1) (N := ["lengths", "length"]) (body := b_room_of) (by unfold b_room_of; exact (sv_ret (ei_cb jb_sum (ea_cons (ei_lc (ws := [1]) (jw_list ei_var) sg_name (by decide) (et_tst (ei_op (j_I0 fun _ _ => cr_bl) ei_var (ei_c cr_int))) (ei_op (j_I fun _ _ => cr_int) (ei_c cr_int) (ei_op (j_I0 fun _ _ => cr_int) (ei_c cr_int) ei_var))) ea_nil)))) h⟩)
@[irreducible] noncomputable def b_fits : Ms :=
  (mRet (mOp (fI0 fun i j => .bl (decide (i ≤ j))) (mCallN m_room_of (vCons (mName 0) vNil)) (mOp (fI CShl fun i j => .int (i * 2 ^ j.toNat)) (mC (.int 1)) (mC (.int 15)))))
noncomputable def m_fits : Mf := mFn 1 1 b_fits
theorem ok_fits {P : Program} {w : World} {K : PySem.W.Frag} {mg : Str → Option Value} {base : Heap} (T : Tx K mg) : FnOk P w K mg base CX0 2 T.a_fits T.d_fits ["lengths"] (spM K (ctT T) m_fits) :=
  T.F_fits.ok sc_fits (fun vs H Q E h => sp_len h) (fun cdv A outer s H vs Q E hr h => ⟨_, (pss_one (ps_ret (pe_cmpR op_le (pe_callZ (ok_room_of T) (hr.mono (by decide)) (by rfl) T.g_room_of T.F_room_of.kp T.b_room_of pass0 (pa_cons (pv 0) pa_nil)) (pe_op op_shlW pe_int (pe_glob rfl T.m_LONGEST T.r_LONGEST)) (nomark _)))),
    fn_run (np := 1) (N := ["lengths"]) (body := b_fits) (by unfold b_fits; exact (sv_ret (ei_op (j_I0 fun _ _ => cr_bl) (ei_callN (ev_cons ei_var ev_nil)) (ei_op (j_I fun _ _ => cr_int) (ei_c cr_int) (ei_c cr_int))))) h⟩)
@[irreducible] noncomputable def b_is_whole : Ms :=
  (mRet (mAndV (mCB fIsi (aCons (mName 0) (aCons (mC (.ty "int")) aNil))) (mNotV (mCB fIsi (aCons (mName 0) (aCons (mC (.ty "bool")) aNil))))))
noncomputable def m_is_whole : Mf := mFn 1 1 b_is_whole
theorem ok_is_whole {P : Program} {w : World} {K : PySem.W.Frag} {mg : Str → Option Value} {base : Heap} (T : Tx K mg) : FnOk P w K mg base CX0 1 T.a_is_whole T.d_is_whole ["thing"] (spM K (ctT T) m_is_whole) :=
  T.F_is_whole.ok sc_is_whole (fun vs H Q E h => sp_len h) (fun cdv A outer s H vs Q E hr h => ⟨_, (pss_one (ps_ret (pe_and (pe_callB (call_isiZ (K := K) rfl) (by rfl) T.z_isinstance (by decide +kernel) (pa_cons (pv 0) (pa_cons (pe_bltn (v := .ty "int") rfl T.z_int (by decide +kernel) rfl) pa_nil))) (pe_one (pe_not (pe_callB (call_isiZ (K := K) rfl) (by rfl) T.z_isinstance (by decide +kernel) (pa_cons (pv 0) (pa_cons (pe_bltn (v := .ty "bool") rfl T.z_bool (by decide +kernel) rfl) pa_nil)))))))),
    fn_run (np := 1) (N := ["thing"]) (body := b_is_whole) (by unfold b_is_whole; exact (sv_ret (ei_andV (ei_cb jb_isi (ea_cons ei_var (ea_cons (ei_c cr_ty) ea_nil))) (ei_notV (ei_cb jb_isi (ea_cons ei_var (ea_cons (ei_c cr_ty) ea_nil))))))) h⟩)
@[irreducible] noncomputable def b_is_list_of : Ms :=
  (mSeq (mIfS (mOr (mNot (mTru (mCB fIsi (aCons (mName 0) (aCons (mC (.ty "list")) aNil))))) (mNot (mBl (mChain (fI0 fun i j => .bl (decide (i ≤ j))) (fI0 fun i j => .bl (decide (i ≤ j))) (mC (.int 1)) (mCB fLen (aCons (mName 0) aNil)) (mC (.int 64)))))) (mRet (mC (.bl false))) mNext)
  (mRet (mCB (fBls fun bs => .bl (bs.all id)) (aCons (mLc [3] (mWL (mName 0)) (tgN 3) mYes (mAndV (mCallN m_is_whole (vCons (mName 3) vNil)) (mChain (fI0 fun i j => .bl (decide (i ≤ j))) (fI0 fun i j => .bl (decide (i ≤ j))) (mName 1) (mName 3) (mName 2)))) aNil))))
noncomputable def m_is_list_of : Mf := mFn 3 4 b_is_list_of
theorem ok_is_list_of {P : Program} {w : World} {K : PySem.W.Frag} {mg : Str → Option Value} {base : Heap} (T : Tx K mg) : FnOk P w K mg base CX0 2 T.a_is_list_of T.d_is_list_of ["thing", "low", "high"] (spM K (ctT T) m_is_list_of) :=
  T.F_is_list_of.ok sc_is_list_of (fun vs H Q E h => sp_len h) (fun cdv A outer s H vs Q E hr h => ⟨_, (pss_cons (ps_if (PW.pt (pw_or (pt_not (pt_truthZ (K := K) rfl (pe_callB (call_isiZ (K := K) rfl) (by rfl) T.z_isinstance (by decide +kernel) (pa_cons (pv 0) (pa_cons (pe_bltn (v := .ty "list") rfl T.z_list (by decide +kernel) rfl) pa_nil))) (by intro _; rfl))) (pw_or1 (pt_not (pt_chain op_le op_le pe_int (pe_callB (call_lenY (K := K) rfl) (by rfl) T.z_len PySem.boot_len (pa_cons (pv 0) pa_nil)) (pe_glob rfl T.m_MOST_SYMBOLS T.r_MOST_SYMBOLS)))))) (pss_one (ps_ret pe_bl)) pss_nil)
      (pss_one (ps_ret (pe_callB (cr_allZ (K := K) rfl rfl) (by rfl) T.z_all (by decide +kernel) (pa_cons (pe_lc (own := [("number", 3)]) rfl sc_is_list_of.nd (pi_listZ (K := K) rfl (pv 0)) (blkOk_by (N := ["thing", "low", "high", "number"]) (sc := defScope s_is_list_of) (by decide +kernel)) (fun _ _ _ _ _ => (pg_name (i := 3) sc_is_list_of.nd rfl (by first | exact Or.inl rfl | exact Or.inr rfl))) (fun _ _ _ _ _ => pts_nil) (fun _ _ _ _ _ => (pe_and (pe_callZ (ok_is_whole T) (hr.mono (by decide)) (by rfl) T.g_is_whole T.F_is_whole.kp T.b_is_whole pass0 (pa_cons (pv 3) pa_nil)) (pe_one (pe_chain op_le op_le (pv 1) (pv 3) (pv 2)))))) pa_nil))))),
    fn_run (np := 3) (N := ["thing", "low", "high", "number"]) (body := b_is_list_of) (by unfold b_is_list_of; exact (sv_seq (sv_if (et_or (et_not (et_tru (ei_cb jb_isi (ea_cons ei_var (ea_cons (ei_c cr_ty) ea_nil))))) (et_not (et_tst (ei_chain (j_I0 fun _ _ => cr_bl) (j_I0 fun _ _ => cr_bl) (ei_c cr_int) (ei_cb jb_len (ea_cons ei_var ea_nil)) (ei_c cr_int))))) (sv_ret (ei_c cr_bl)) sv_next)
      (sv_ret (ei_cb jb_all (ea_cons (ei_lc (ws := [3]) (jw_list ei_var) sg_name (by decide) et_yes (ei_andV (ei_callN (ev_cons ei_var ev_nil)) (ei_chain (j_I0 fun _ _ => cr_bl) (j_I0 fun _ _ => cr_bl) ei_var ei_var ei_var))) ea_nil))))) h⟩)
@[irreducible] noncomputable def b_check_counts : Ms :=
  (mIfS (mOr (mNot (mTru (mCallN m_is_list_of (vCons (mName 0) (vCons (mC (.int 0)) (vCons (mC (.int 1000)) vNil)))))) (mBl (mOp (fI0 fun i j => .bl (decide (j < i))) (mCB (fInts gSum) (aCons (mName 0) aNil)) (mC (.int 1000))))) (mRaise 1) mNext)
noncomputable def m_check_counts : Mf := mFn 1 1 b_check_counts
theorem ok_check_counts {P : Program} {w : World} {K : PySem.W.Frag} {mg : Str → Option Value} {base : Heap} (T : Tx K mg) : FnOk P w K mg base (L2.CX P w) 3 T.a_check_counts T.d_check_counts ["counts"] (spM K (ctT T) m_check_counts) :=
  T.F_check_counts.okX sc_check_counts (fun vs H Q E h => sp_len h) (fun cdv A outer s H vs Q E hr h => ⟨_, (pss_one (ps_if (PW.pt (pw_or (pt_not (pt_truthZ (K := K) rfl (pe_callZ (ok_is_list_of T) (hr.mono (by decide)) (by rfl) T.g_is_list_of T.F_is_list_of.kp T.b_is_list_of pass0 (pa_cons (pv 0) (pa_cons pe_int (pa_cons (pe_glob rfl T.m_MOST_COUNT T.r_MOST_COUNT) pa_nil)))) (by intro _; rfl))) (pw_or1 (pt_cmpR op_gt (pe_callB (cr_sumZ (K := K) rfl rfl) (by rfl) T.z_sum (by decide +kernel) (pa_cons (pv 0) pa_nil)) (pe_glob rfl T.m_MOST_COUNT T.r_MOST_COUNT) (nomark _))))) (pss_one (ps_raiseZ rfl (takes_of rfl rfl rfl rfl) PySem.F.excBase_ValueError T.x_BadTable T.g_BadTable T.k_BadTable (raises_own T.b_BadTable T.t_BadTable) (by rfl))) pss_nil)),
    fn_run (np := 1) (N := ["counts"]) (body := b_check_counts) (by unfold b_check_counts; exact (sv_if (et_or (et_not (et_tru (ei_callN (ev_cons ei_var (ev_cons (ei_c cr_int) (ev_cons (ei_c cr_int) ev_nil)))))) (et_tst (ei_op (j_I0 fun _ _ => cr_bl) (ei_cb jb_sum (ea_cons ei_var ea_nil)) (ei_c cr_int)))) (sv_raise (c := 1)) sv_next)) h⟩)
@[irreducible] noncomputable def b_first_parts : Ms :=
  (mSeq (mAsg 1 mDNew)
  (mSeq (mFor (mWE (vCons (mName 0) vNil)) (tgT 2 (tgCons (tgN 2) (tgCons (tgN 3) tgNil))) (mIfS (mBl (mOp (fI0 fun i j => .bl (decide (j < i))) (mName 3) (mC (.int 0)))) (mAsgS (mName 1) (mName 2) (mName 3)) mNext))
  (mRet (mName 1))))
noncomputable def m_first_parts : Mf := mFn 1 4 b_first_parts
theorem ok_first_parts {P : Program} {w : World} {K : PySem.W.Frag} {mg : Str → Option Value} {base : Heap} (T : Tx K mg) : FnOk P w K mg base CX0 1 T.a_first_parts T.d_first_parts ["counts"] (spM K (ctT T) m_first_parts) :=
  T.F_first_parts.ok sc_first_parts (fun vs H Q E h => sp_len h) (fun cdv A outer s H vs Q E hr h => ⟨_, (pss_cons (ps_set (i := 1) sc_first_parts.nd rfl (by first | exact Or.inl rfl | exact Or.inr rfl) pe_dnewK)
      (pss_cons (ps_for PassesOwn.never rfl (pi_enumZ (K := K) rfl rfl T.z_enumerate (pa_cons (pv 0) pa_nil)) (pg_tupZ (K := K) (n := 2) rfl rfl (pgs_cons (pg_name (i := 2) sc_first_parts.nd rfl (by first | exact Or.inl rfl | exact Or.inr rfl)) (pgs_cons (pg_name (i := 3) sc_first_parts.nd rfl (by first | exact Or.inl rfl | exact Or.inr rfl)) pgs_nil))) (pss_one (ps_if (pt_cmpR op_gt (pv 3) pe_int (nomark _)) (pss_one (ps_asg (pv 3) (pg_sub (pv 1) (pv 2) (set_Y (hu_of hr))))) pss_nil)))
      (pss_one (ps_ret (pv 1))))),
    fn_run (np := 1) (N := ["counts", "found", "symbol", "count"]) (body := b_first_parts) (by unfold b_first_parts; exact (sv_seq (sv_asg ei_dnew)
      (sv_seq (sv_for (jw_enum (ev_cons ei_var ev_nil)) (sg_tup (sgs_cons sg_name (sgs_cons sg_name sgs_nil))) (sv_if (et_tst (ei_op (j_I0 fun _ _ => cr_bl) ei_var (ei_c cr_int))) (sv_asgS ei_var ei_var ei_var) sv_next))
      (sv_ret ei_var)))) h⟩)
@[irreducible] noncomputable def b_is_pair : Ms :=
  (mSeq (mIfS (mOr (mNot (mTru (mCB fIsi (aCons (mName 0) (aCons (mC (.ty "tuple")) aNil))))) (mOr (mBl (mOp fNe (mCB fLen (aCons (mName 0) aNil)) (mC (.int 2)))) (mBl (mOp fEq (mOp fIxY (mName 0) (mC (.int 0))) (mOp fIxY (mName 0) (mC (.int 1))))))) (mRet (mC (.bl false))) mNext)
  (mRet (mCB (fBls fun bs => .bl (bs.all id)) (aCons (mLc [2] (mWT (mName 0)) (tgN 2) mYes (mAndV (mCallN m_is_whole (vCons (mName 2) vNil)) (mOp fIn (mName 2) (mName 1)))) aNil))))
noncomputable def m_is_pair : Mf := mFn 2 3 b_is_pair
theorem ok_is_pair {P : Program} {w : World} {K : PySem.W.Frag} {mg : Str → Option Value} {base : Heap} (T : Tx K mg) : FnOk P w K mg base CX0 2 T.a_is_pair T.d_is_pair ["pair", "parts"] (spM K (ctT T) m_is_pair) :=
  T.F_is_pair.ok sc_is_pair (fun vs H Q E h => sp_len h) (fun cdv A outer s H vs Q E hr h => ⟨_, (pss_cons (ps_if (PW.pt (pw_or (pt_not (pt_truthZ (K := K) rfl (pe_callB (call_isiZ (K := K) rfl) (by rfl) T.z_isinstance (by decide +kernel) (pa_cons (pv 0) (pa_cons (pe_bltn (v := .ty "tuple") rfl T.z_tuple (by decide +kernel) rfl) pa_nil))) (by intro _; rfl))) (pw_or (pt_cmpR (op_neZ (K := K) rfl hr.units) (pe_callB (call_lenY (K := K) rfl) (by rfl) T.z_len PySem.boot_len (pa_cons (pv 0) pa_nil)) pe_int (nomark _)) (pw_or1 (pt_cmpR (op_eqZ (K := K) rfl hr.units) (pe_ix (ix_Y (K := K) rfl (hu_of hr)) (pv 0) pe_int (fun _ _ => rfl)) (pe_ix (ix_Y (K := K) rfl (hu_of hr)) (pv 0) pe_int (fun _ _ => rfl)) (nomark _)))))) (pss_one (ps_ret pe_bl)) pss_nil)
      (pss_one (ps_ret (pe_callB (cr_allZ (K := K) rfl rfl) (by rfl) T.z_all (by decide +kernel) (pa_cons (pe_lc (own := [("number", 2)]) rfl sc_is_pair.nd (pi_tupZ (K := K) rfl (pv 0)) (blkOk_by (N := ["pair", "parts", "number"]) (sc := defScope s_is_pair) (by decide +kernel)) (fun _ _ _ _ _ => (pg_name (i := 2) sc_is_pair.nd rfl (by first | exact Or.inl rfl | exact Or.inr rfl))) (fun _ _ _ _ _ => pts_nil) (fun _ _ _ _ _ => (pe_and (pe_callZ (ok_is_whole T) (hr.mono (by decide)) (by rfl) T.g_is_whole T.F_is_whole.kp T.b_is_whole pass0 (pa_cons (pv 2) pa_nil)) (pe_one (pe_cmpR (op_inY (K := K) rfl (u65 hr)) (pv 2) (pv 1) (by rfl)))))) pa_nil))))),
    fn_run (np := 2) (N := ["pair", "parts", "number"]) (body := b_is_pair) (by unfold b_is_pair; exact (sv_seq (sv_if (et_or (et_not (et_tru (ei_cb jb_isi (ea_cons ei_var (ea_cons (ei_c cr_ty) ea_nil))))) (et_or (et_tst (ei_op j_ne (ei_cb jb_len (ea_cons ei_var ea_nil)) (ei_c cr_int))) (et_tst (ei_op j_eq (ei_op j_ixY ei_var (ei_c cr_int)) (ei_op j_ixY ei_var (ei_c cr_int)))))) (sv_ret (ei_c cr_bl)) sv_next)
      (sv_ret (ei_cb jb_all (ea_cons (ei_lc (ws := [2]) (jw_tup ei_var) sg_name (by decide) et_yes (ei_andV (ei_callN (ev_cons ei_var ev_nil)) (ei_op j_in ei_var ei_var))) ea_nil))))) h⟩)
@[irreducible] noncomputable def b_put_together : Ms :=
  (mSeq (mIfS (mNot (mTru (mCallN m_is_pair (vCons (mName 0) (vCons (mName 1) vNil))))) (mRaiseA 2 "at" (vCons (mC (.str (Str.ofString "no pair of parts"))) (vCons (mName 3) vNil))) mNext)
  (mSeq (mAsg 4 (mLst (vCons (mPop (mName 1) (mOp fIxY (mName 0) (mC (.int 0)))) (vCons (mPop (mName 1) (mOp fIxY (mName 0) (mC (.int 1)))) vNil))))
  (mSeq (mIfS (mAnd (mBl (mOp fNeD0 (mName 1) mDNew)) (mBl (mOp (fI0 fun i j => .bl (decide (i < j))) (mMinVals (mName 1)) (mCB (fInts gMax) (aCons (mName 4) aNil))))) (mRaiseA 2 "at" (vCons (mC (.str (Str.ofString "not the least ones"))) (vCons (mName 3) vNil))) mNext)
  (mSeq (mAsgS (mName 1) (mName 2) (mCB (fInts gSum) (aCons (mName 4) aNil)))
  (mRet (mCB (fInts gSum) (aCons (mName 4) aNil)))))))
noncomputable def m_put_together : Mf := mFn 4 5 b_put_together
theorem ok_put_together {P : Program} {w : World} {K : PySem.W.Frag} {mg : Str → Option Value} {base : Heap} (T : Tx K mg) : FnOk P w K mg base (L2.CX P w) 3 T.a_put_together T.d_put_together ["pair", "parts", "number", "at"] (spM K (ctT T) m_put_together) :=
  T.F_put_together.okX sc_put_together (fun vs H Q E h => sp_len h) (fun cdv A outer s H vs Q E hr h => ⟨_, (pss_cons (ps_if (pt_not (pt_truthZ (K := K) rfl (pe_callZ (ok_is_pair T) (hr.mono (by decide)) (by rfl) T.g_is_pair T.F_is_pair.kp T.b_is_pair pass0 (pa_cons (pv 0) (pa_cons (pv 1) pa_nil))) (by intro _; rfl))) (pss_one (ps_raise rfl (takes_of rfl rfl rfl rfl) (pmk_oex T.ox_BadPaper T.iC_BadPaper T.tI_BadPaper (ok_BadPaper_init T) (hr.mono (by decide)) T.b_BadPaper_init .nil pass0 (by rfl) T.g_BadPaper (pa_cons pe_str (pa_cons (pv 3) pa_nil))))) pss_nil)
      (pss_cons (ps_set (i := 4) sc_put_together.nd rfl (by first | exact Or.inl rfl | exact Or.inr rfl) (pe_lst (pa_cons (pe_dpop1 (pv 1) (pe_ix (ix_Y (K := K) rfl (hu_of hr)) (pv 0) pe_int (fun _ _ => rfl)) ⟨rfl, rfl, rfl, rfl⟩) (pa_cons (pe_dpop1 (pv 1) (pe_ix (ix_Y (K := K) rfl (hu_of hr)) (pv 0) pe_int (fun _ _ => rfl)) ⟨rfl, rfl, rfl, rfl⟩) pa_nil))))
      (pss_cons (ps_if (PW.pt (pw_and (pt_cmpR (op_neD0 (Nat.lt_of_le_of_lt (Nat.le_add_right _ _) hr.units)) (pv 1) pe_dnewK (nomark _)) (pw_and1 (pt_cmpR op_lt (pe_minVals rfl (by rfl) T.z_min (pv 1)) (pe_callB (cr_maxZ (K := K) rfl rfl) (by rfl) T.z_max (by decide +kernel) (pa_cons (pv 4) pa_nil)) (nomark _))))) (pss_one (ps_raise rfl (takes_of rfl rfl rfl rfl) (pmk_oex T.ox_BadPaper T.iC_BadPaper T.tI_BadPaper (ok_BadPaper_init T) (hr.mono (by decide)) T.b_BadPaper_init .nil pass0 (by rfl) T.g_BadPaper (pa_cons pe_str (pa_cons (pv 3) pa_nil))))) pss_nil)
      (pss_cons (ps_asg (pe_callB (cr_sumZ (K := K) rfl rfl) (by rfl) T.z_sum (by decide +kernel) (pa_cons (pv 4) pa_nil)) (pg_sub (pv 1) (pv 2) (set_Y (hu_of hr))))
      (pss_one (ps_ret (pe_callB (cr_sumZ (K := K) rfl rfl) (by rfl) T.z_sum (by decide +kernel) (pa_cons (pv 4) pa_nil)))))))),
    fn_run (np := 4) (N := ["pair", "parts", "number", "at", "weights"]) (body := b_put_together) (by unfold b_put_together; exact (sv_seq (sv_if (et_not (et_tru (ei_callN (ev_cons ei_var (ev_cons ei_var ev_nil))))) (sv_raiseA (c := 2) T.ox_BadPaper T.n_at_BadPaper (ev_cons (ei_c cr_str) (ev_cons ei_var ev_nil))) sv_next)
      (sv_seq (sv_asg (ei_lst (ev_cons (ei_pop ei_var (ei_op j_ixY ei_var (ei_c cr_int))) (ev_cons (ei_pop ei_var (ei_op j_ixY ei_var (ei_c cr_int))) ev_nil))))
      (sv_seq (sv_if (et_and (et_tst (ei_op j_neD0 ei_var ei_dnew)) (et_tst (ei_op (j_I0 fun _ _ => cr_bl) (ei_minVals ei_var) (ei_cb jb_max (ea_cons ei_var ea_nil))))) (sv_raiseA (c := 2) T.ox_BadPaper T.n_at_BadPaper (ev_cons (ei_c cr_str) (ev_cons ei_var ev_nil))) sv_next)
      (sv_seq (sv_asgS (ei_cb jb_sum (ea_cons ei_var ea_nil)) ei_var ei_var)
      (sv_ret (ei_cb jb_sum (ea_cons ei_var ea_nil)))))))) h⟩)
@[irreducible] noncomputable def b_check_paper : Ms :=
  (mSeq (mDrop (mCall m_check_counts (vCons (mName 0) vNil)))
  (mSeq (mIfS (mNot (mTru (mCB fIsi (aCons (mName 1) (aCons (mC (.ty "list")) aNil))))) (mRaiseA 2 "at" (vCons (mC (.str (Str.ofString "no list"))) (vCons (mC .non) vNil))) mNext)
  (mSeq (mAsgK 2 (mCallN m_first_parts (vCons (mName 0) vNil)))
  (mSeq (mIfS (mAnd (mBl (mOp fEq (mCB fLen (aCons (mName 2) aNil)) (mC (.int 1)))) (mBl (mOp fEq (mName 1) (mLst vNil)))) (mRet (mCB (fInts gSum) (aCons (mName 0) aNil))) mNext)
  (mSeq (mAsg 3 (mC (.int 0)))
  (mSeq (mFor (mWE (vCons (mName 1) vNil)) (tgT 2 (tgCons (tgN 4) (tgCons (tgN 5) tgNil))) (mAug 3 (fun i j => i + j) (mCall m_put_together (vCons (mName 5) (vCons (mName 2) (vCons (mOp fAdd (mCB fLen (aCons (mName 0) aNil)) (mName 4)) (vCons (mName 4) vNil)))))))
  (mSeq (mIfS (mBl (mOp (fI0 fun i j => .bl (decide (j < i))) (mCB fLen (aCons (mName 2) aNil)) (mC (.int 1)))) (mRaiseA 2 "at" (vCons (mC (.str (Str.ofString "parts are left"))) (vCons (mCB fLen (aCons (mName 1) aNil)) vNil))) mNext)
  (mRet (mName 3)))))))))
noncomputable def m_check_paper : Mf := mFn 2 6 b_check_paper
theorem ok_check_paper {P : Program} {w : World} {K : PySem.W.Frag} {mg : Str → Option Value} {base : Heap} (T : Tx K mg) : FnOk P w K mg base (L2.CX P w) 4 T.a_check_paper T.d_check_paper ["counts", "paper"] (spM K (ctT T) m_check_paper) :=
  T.F_check_paper.okX sc_check_paper (fun vs H Q E h => sp_len h) (fun cdv A outer s H vs Q E hr h => ⟨_, (pss_cons (ps_expr (pe_callS (ok_check_counts T) (hr.mono (by decide)) (by rfl) T.g_check_counts T.F_check_counts.kp T.b_check_counts (fun σ => passAt (takes_of rfl rfl rfl rfl) σ) (pa_cons (pv 0) pa_nil)))
      (pss_cons (ps_if (pt_not (pt_truthZ (K := K) rfl (pe_callB (call_isiZ (K := K) rfl) (by rfl) T.z_isinstance (by decide +kernel) (pa_cons (pv 1) (pa_cons (pe_bltn (v := .ty "list") rfl T.z_list (by decide +kernel) rfl) pa_nil))) (by intro _; rfl))) (pss_one (ps_raise rfl (takes_of rfl rfl rfl rfl) (pmk_oex T.ox_BadPaper T.iC_BadPaper T.tI_BadPaper (ok_BadPaper_init T) (hr.mono (by decide)) T.b_BadPaper_init .nil pass0 (by rfl) T.g_BadPaper (pa_cons pe_str (pa_cons pe_non pa_nil))))) pss_nil)
      (pss_cons (ps_set (i := 2) sc_check_paper.nd rfl (by first | exact Or.inl rfl | exact Or.inr rfl) (pe_callZ (ok_first_parts T) (hr.mono (by decide)) (by rfl) T.g_first_parts T.F_first_parts.kp T.b_first_parts pass0 (pa_cons (pv 0) pa_nil)))
      (pss_cons (ps_if (PW.pt (pw_and (pt_cmpR (op_eqZ (K := K) rfl hr.units) (pe_callB (call_lenY (K := K) rfl) (by rfl) T.z_len PySem.boot_len (pa_cons (pv 2) pa_nil)) pe_int (nomark _)) (pw_and1 (pt_cmpR (op_eqZ (K := K) rfl hr.units) (pv 1) (pe_lst pa_nil) (nomark _))))) (pss_one (ps_ret (pe_callB (cr_sumZ (K := K) rfl rfl) (by rfl) T.z_sum (by decide +kernel) (pa_cons (pv 0) pa_nil)))) pss_nil)
      (pss_cons (ps_set (i := 3) sc_check_paper.nd rfl (by first | exact Or.inl rfl | exact Or.inr rfl) pe_int)
      (pss_cons (ps_for (passes_of rfl) rfl (pi_enumZ (K := K) rfl rfl T.z_enumerate (pa_cons (pv 1) pa_nil)) (pg_tupZ (K := K) (n := 2) rfl rfl (pgs_cons (pg_name (i := 4) sc_check_paper.nd rfl (by first | exact Or.inl rfl | exact Or.inr rfl)) (pgs_cons (pg_name (i := 5) sc_check_paper.nd rfl (by first | exact Or.inl rfl | exact Or.inr rfl)) pgs_nil))) (pss_one (ps_aug (i := 3) sc_check_paper.nd rfl (by first | exact Or.inl rfl | exact Or.inr rfl) (pe_callS (ok_put_together T) (hr.mono (by decide)) (by rfl) T.g_put_together T.F_put_together.kp T.b_put_together (fun σ => passAt (takes_of rfl rfl rfl rfl) σ) (pa_cons (pv 5) (pa_cons (pv 2) (pa_cons (pe_op (op_addZ (K := K) rfl) (pe_callB (call_lenY (K := K) rfl) (by rfl) T.z_len PySem.boot_len (pa_cons (pv 0) pa_nil)) (pv 4)) (pa_cons (pv 4) pa_nil))))) ip_add)))
      (pss_cons (ps_if (pt_cmpR op_gt (pe_callB (call_lenY (K := K) rfl) (by rfl) T.z_len PySem.boot_len (pa_cons (pv 2) pa_nil)) pe_int (nomark _)) (pss_one (ps_raise rfl (takes_of rfl rfl rfl rfl) (pmk_oex T.ox_BadPaper T.iC_BadPaper T.tI_BadPaper (ok_BadPaper_init T) (hr.mono (by decide)) T.b_BadPaper_init .nil pass0 (by rfl) T.g_BadPaper (pa_cons pe_str (pa_cons (pe_callB (call_lenY (K := K) rfl) (by rfl) T.z_len PySem.boot_len (pa_cons (pv 1) pa_nil)) pa_nil))))) pss_nil)
      (pss_one (ps_ret (pv 3)))))))))),
    fn_run (np := 2) (N := ["counts", "paper", "parts", "bits", "at", "pair"]) (body := b_check_paper) (by unfold b_check_paper; exact (sv_seq (sv_drop (ei_callS (ev_cons ei_var ev_nil)))
      (sv_seq (sv_if (et_not (et_tru (ei_cb jb_isi (ea_cons ei_var (ea_cons (ei_c cr_ty) ea_nil))))) (sv_raiseA (c := 2) T.ox_BadPaper T.n_at_BadPaper (ev_cons (ei_c cr_str) (ev_cons (ei_c cr_non) ev_nil))) sv_next)
      (sv_seq (sv_asgK (ei_callN (ev_cons ei_var ev_nil)))
      (sv_seq (sv_if (et_and (et_tst (ei_op j_eq (ei_cb jb_len (ea_cons ei_var ea_nil)) (ei_c cr_int))) (et_tst (ei_op j_eq ei_var (ei_lst ev_nil)))) (sv_ret (ei_cb jb_sum (ea_cons ei_var ea_nil))) sv_next)
      (sv_seq (sv_asg (ei_c cr_int))
      (sv_seq (sv_for (jw_enum (ev_cons ei_var ev_nil)) (sg_tup (sgs_cons sg_name (sgs_cons sg_name sgs_nil))) (sv_aug (ei_callS (ev_cons ei_var (ev_cons ei_var (ev_cons (ei_op j_add (ei_cb jb_len (ea_cons ei_var ea_nil)) ei_var) (ev_cons ei_var ev_nil)))))))
      (sv_seq (sv_if (et_tst (ei_op (j_I0 fun _ _ => cr_bl) (ei_cb jb_len (ea_cons ei_var ea_nil)) (ei_c cr_int))) (sv_raiseA (c := 2) T.ox_BadPaper T.n_at_BadPaper (ev_cons (ei_c cr_str) (ev_cons (ei_cb jb_len (ea_cons ei_var ea_nil)) ev_nil))) sv_next)
      (sv_ret ei_var))))))))) h⟩)
@[irreducible] noncomputable def b_lengths_by : Ms :=
  (mSeq (mDrop (mCall m_check_paper (vCons (mName 0) (vCons (mName 1) vNil))))
  (mSeq (mAsg 2 mDNew)
  (mSeq (mFor (mRng3 (aCons (mOp (fI0 fun i j => .int (i - j)) (mCB fLen (aCons (mName 1) aNil)) (mC (.int 1))) (aCons (mUn fNeg (mC (.int 1))) (aCons (mUn fNeg (mC (.int 1))) aNil)))) (tgN 3) (mSeq (mAsg 4 (mGet2 (mName 2) (mOp fAdd (mCB fLen (aCons (mName 0) aNil)) (mName 3)) (mC (.int 0))))
  (mFor (mWT (mOp fIxY (mName 1) (mName 3))) (tgN 5) (mAsgS (mName 2) (mName 5) (mOp fAdd (mName 4) (mC (.int 1)))))))
  (mSeq (mAsg 6 (mLc [7] (mRng1 (aCons (mCB fLen (aCons (mName 0) aNil)) aNil)) (tgN 7) mYes (mGet2 (mName 2) (mName 7) (mC (.int 0)))))
  (mSeq (mIfS (mBl (mOp fEq (mName 1) (mLst vNil))) (mFor (mWN (mCallN m_first_parts (vCons (mName 0) vNil))) (tgN 7) (mAsgS (mName 6) (mName 7) (mC (.int 1)))) mNext)
  (mRet (mName 6)))))))
noncomputable def m_lengths_by : Mf := mFn 2 8 b_lengths_by
theorem ok_lengths_by {P : Program} {w : World} {K : PySem.W.Frag} {mg : Str → Option Value} {base : Heap} (T : Tx K mg) : FnOk P w K mg base (L2.CX P w) 5 T.a_lengths_by T.d_lengths_by ["counts", "paper"] (spM K (ctT T) m_lengths_by) :=
  T.F_lengths_by.okX sc_lengths_by (fun vs H Q E h => sp_len h) (fun cdv A outer s H vs Q E hr h => ⟨_, (pss_cons (ps_expr (pe_callS (ok_check_paper T) (hr.mono (by decide)) (by rfl) T.g_check_paper T.F_check_paper.kp T.b_check_paper (fun σ => passAt (takes_of rfl rfl rfl rfl) σ) (pa_cons (pv 0) (pa_cons (pv 1) pa_nil))))
      (pss_cons (ps_set (i := 2) sc_lengths_by.nd rfl (by first | exact Or.inl rfl | exact Or.inr rfl) pe_dnewK)
      (pss_cons (ps_for (passes_of rfl) rfl (pi_range3 rfl T.z_range (pa_cons (pe_op op_sub (pe_callB (call_lenY (K := K) rfl) (by rfl) T.z_len PySem.boot_len (pa_cons (pv 1) pa_nil)) pe_int) (pa_cons (pe_un un_neg pe_int) (pa_cons (pe_un un_neg pe_int) pa_nil)))) (pg_name (i := 3) sc_lengths_by.nd rfl (by first | exact Or.inl rfl | exact Or.inr rfl)) (pss_cons (ps_set (i := 4) sc_lengths_by.nd rfl (by first | exact Or.inl rfl | exact Or.inr rfl) (pe_dget2 (hu_of hr) (pv 2) (pe_op (op_addZ (K := K) rfl) (pe_callB (call_lenY (K := K) rfl) (by rfl) T.z_len PySem.boot_len (pa_cons (pv 0) pa_nil)) (pv 3)) pe_int ⟨rfl, rfl, rfl, rfl⟩))
      (pss_one (ps_for (passes_of rfl) rfl (pi_tupZ (K := K) rfl (pe_ix (ix_Y (K := K) rfl (hu_of hr)) (pv 1) (pv 3) (fun _ _ => rfl))) (pg_name (i := 5) sc_lengths_by.nd rfl (by first | exact Or.inl rfl | exact Or.inr rfl)) (pss_one (ps_asg (pe_op (op_addZ (K := K) rfl) (pv 4) pe_int) (pg_sub (pv 2) (pv 5) (set_Y (hu_of hr)))))))))
      (pss_cons (ps_setLc (i := 6) (own := [("symbol", 7)]) rfl sc_lengths_by.nd rfl rfl (sw_true rfl rfl rfl (by decide +kernel)) (pi_range1 rfl T.z_range (pa_cons (pe_callB (call_lenY (K := K) rfl) (by rfl) T.z_len PySem.boot_len (pa_cons (pv 0) pa_nil)) pa_nil)) (blkOk_by (N := ["counts", "paper", "deep", "at", "above", "number", "found", "symbol"]) (sc := defScope s_lengths_by) (by decide +kernel)) (fun _ _ _ _ _ => (pg_name (i := 7) sc_lengths_by.nd rfl (by first | exact Or.inl rfl | exact Or.inr rfl))) (fun _ _ _ _ _ => pts_nil) (fun _ _ _ _ _ => (pe_dget2 (hu_of hr) (pv 2) (pv 7) pe_int ⟨rfl, rfl, rfl, rfl⟩)))
      (pss_cons (ps_if (pt_cmpR (op_eqZ (K := K) rfl hr.units) (pv 1) (pe_lst pa_nil) (nomark _)) (pss_one (ps_for (passes_of rfl) rfl (pi_keys (pe_frz (pe_callZ (ok_first_parts T) (hr.mono (by decide)) (by rfl) T.g_first_parts T.F_first_parts.kp T.b_first_parts pass0 (pa_cons (pv 0) pa_nil)))) (pg_name (i := 7) sc_lengths_by.nd rfl (by first | exact Or.inl rfl | exact Or.inr rfl)) (pss_one (ps_asg pe_int (pg_sub (pv 6) (pv 7) (set_Y (hu_of hr))))))) pss_nil)
      (pss_one (ps_ret (pv 6)))))))),
    fn_run (np := 2) (N := ["counts", "paper", "deep", "at", "above", "number", "found", "symbol"]) (body := b_lengths_by) (by unfold b_lengths_by; exact (sv_seq (sv_drop (ei_callS (ev_cons ei_var (ev_cons ei_var ev_nil))))
      (sv_seq (sv_asg ei_dnew)
      (sv_seq (sv_for (jw_rng3 (ea_cons (ei_op (j_I0 fun _ _ => cr_int) (ei_cb jb_len (ea_cons ei_var ea_nil)) (ei_c cr_int)) (ea_cons (ei_un j_neg (ei_c cr_int)) (ea_cons (ei_un j_neg (ei_c cr_int)) ea_nil)))) sg_name (sv_seq (sv_asg (ei_get2 ei_var (ei_op j_add (ei_cb jb_len (ea_cons ei_var ea_nil)) ei_var) (ei_c cr_int)))
      (sv_for (jw_tup (ei_op j_ixY ei_var ei_var)) sg_name (sv_asgS (ei_op j_add ei_var (ei_c cr_int)) ei_var ei_var))))
      (sv_seq (sv_asg (ei_lc (ws := [7]) (jw_rng1 (ea_cons (ei_cb jb_len (ea_cons ei_var ea_nil)) ea_nil)) sg_name (by decide) et_yes (ei_get2 ei_var ei_var (ei_c cr_int))))
      (sv_seq (sv_if (et_tst (ei_op j_eq ei_var (ei_lst ev_nil))) (sv_for (jw_newK (ei_callN (ev_cons ei_var ev_nil))) sg_name (sv_asgS (ei_c cr_int) ei_var ei_var)) sv_next)
      (sv_ret ei_var))))))) h⟩)
@[irreducible] noncomputable def b_least_part : Ms :=
  (mRet (mOp fIxY (mCB fMinP (aCons (mLcD .items 0 [1, 2] (tgT 2 (tgCons (tgN 1) (tgCons (tgN 2) tgNil))) mYes (mTup (vCons (mName 2) (vCons (mName 1) vNil)))) aNil)) (mC (.int 1))))
noncomputable def m_least_part : Mf := mFn 1 3 b_least_part
theorem ok_least_part {P : Program} {w : World} {K : PySem.W.Frag} {mg : Str → Option Value} {base : Heap} (T : Tx K mg) : FnOk P w K mg base CX0 1 T.a_least_part T.d_least_part ["parts"] (spM K (ctT T) m_least_part) :=
  T.F_least_part.ok sc_least_part (fun vs H Q E h => sp_len h) (fun cdv A outer s H vs Q E hr h => ⟨_, (pss_one (ps_ret (pe_ix (ix_Y (K := K) rfl (hu_of hr)) (pe_callB (cr_minP (K := K) rfl rfl (u66 hr)) (by rfl) T.z_min (by decide +kernel) (pa_cons (pe_lock (pe_lc (own := [("number", 1), ("weight", 2)]) rfl sc_least_part.nd (pi_items (pv 0)) (blkOk_by (N := ["parts", "number", "weight"]) (sc := defScope s_least_part) (by decide +kernel)) (fun _ _ _ _ _ => (pg_tupZ (K := K) (n := 2) rfl rfl (pgs_cons (pg_name (i := 1) sc_least_part.nd rfl (by first | exact Or.inl rfl | exact Or.inr rfl)) (pgs_cons (pg_name (i := 2) sc_least_part.nd rfl (by first | exact Or.inl rfl | exact Or.inr rfl)) pgs_nil)))) (fun _ _ _ _ _ => pts_nil) (fun _ _ _ _ _ => (pe_tup (pa_cons (pv 2) (pa_cons (pv 1) pa_nil)))))) pa_nil)) pe_int (fun _ _ => rfl)))),
    fn_run (np := 1) (N := ["parts", "number", "weight"]) (body := b_least_part) (by unfold b_least_part; exact (sv_ret (ei_op j_ixY (ei_cb jb_minP (ea_cons (ei_lcD (kd := .items) (i := 0) (ws := [1, 2]) rfl (fun b => (sg_tup (sgs_cons sg_name (sgs_cons sg_name sgs_nil)))) (by decide) (fun b => et_yes) (fun b => (ei_tup (ev_cons ei_var (ev_cons ei_var ev_nil))))) ea_nil)) (ei_c cr_int)))) h⟩)
@[irreducible] noncomputable def b_pairs_of : Ms :=
  (mSeq (mDrop (mCall m_check_counts (vCons (mName 0) vNil)))
  (mSeq (mAsg 1 (mCallN m_first_parts (vCons (mName 0) vNil)))
  (mSeq (mAsg 2 (mLst vNil))
  (mSeq (mWh (mBl (mOp (fI0 fun i j => .bl (decide (j < i))) (mCB fLen (aCons (mName 1) aNil)) (mC (.int 1)))) (mSeq (mAsg 3 (mCallB m_least_part (aCons (mName 1) aNil)))
  (mSeq (mAsg 4 (mPop (mName 1) (mName 3)))
  (mSeq (mAsg 5 (mCallB m_least_part (aCons (mName 1) aNil)))
  (mSeq (mAug 4 (fun i j => i + j) (mPop (mName 1) (mName 5)))
  (mSeq (mAsgS (mName 1) (mOp fAdd (mCB fLen (aCons (mName 0) aNil)) (mCB fLen (aCons (mName 2) aNil))) (mName 4))
  (mDrop (mBM fApp (mName 2) (vCons (mTup (vCons (mName 3) (vCons (mName 5) vNil))) vNil)))))))))
  (mRet (mName 2))))))
noncomputable def m_pairs_of : Mf := mFn 1 6 b_pairs_of
theorem ok_pairs_of {P : Program} {w : World} {K : PySem.W.Frag} {mg : Str → Option Value} {base : Heap} (T : Tx K mg) : FnOk P w K mg base (L2.CX P w) 4 T.a_pairs_of T.d_pairs_of ["counts"] (spM K (ctT T) m_pairs_of) :=
  T.F_pairs_of.okX sc_pairs_of (fun vs H Q E h => sp_len h) (fun cdv A outer s H vs Q E hr h => ⟨_, (pss_cons (ps_expr (pe_callS (ok_check_counts T) (hr.mono (by decide)) (by rfl) T.g_check_counts T.F_check_counts.kp T.b_check_counts (fun σ => passAt (takes_of rfl rfl rfl rfl) σ) (pa_cons (pv 0) pa_nil)))
      (pss_cons (ps_set (i := 1) sc_pairs_of.nd rfl (by first | exact Or.inl rfl | exact Or.inr rfl) (pe_callZ (ok_first_parts T) (hr.mono (by decide)) (by rfl) T.g_first_parts T.F_first_parts.kp T.b_first_parts pass0 (pa_cons (pv 0) pa_nil)))
      (pss_cons (ps_set (i := 2) sc_pairs_of.nd rfl (by first | exact Or.inl rfl | exact Or.inr rfl) (pe_lst pa_nil))
      (pss_cons (ps_while (passes_of rfl) (pt_cmpR op_gt (pe_callB (call_lenY (K := K) rfl) (by rfl) T.z_len PySem.boot_len (pa_cons (pv 1) pa_nil)) pe_int (nomark _)) (pss_cons (ps_set (i := 3) sc_pairs_of.nd rfl (by first | exact Or.inl rfl | exact Or.inr rfl) (pe_callZ (ok_least_part T) (hr.mono (by decide)) (by rfl) T.g_least_part T.F_least_part.kp T.b_least_part pass0 (pa_cons (pv 1) pa_nil)))
      (pss_cons (ps_set (i := 4) sc_pairs_of.nd rfl (by first | exact Or.inl rfl | exact Or.inr rfl) (pe_dpop1 (pv 1) (pv 3) ⟨rfl, rfl, rfl, rfl⟩))
      (pss_cons (ps_set (i := 5) sc_pairs_of.nd rfl (by first | exact Or.inl rfl | exact Or.inr rfl) (pe_callZ (ok_least_part T) (hr.mono (by decide)) (by rfl) T.g_least_part T.F_least_part.kp T.b_least_part pass0 (pa_cons (pv 1) pa_nil)))
      (pss_cons (ps_aug (i := 4) sc_pairs_of.nd rfl (by first | exact Or.inl rfl | exact Or.inr rfl) (pe_dpop1 (pv 1) (pv 5) ⟨rfl, rfl, rfl, rfl⟩) ip_add)
      (pss_cons (ps_asg (pv 4) (pg_sub (pv 1) (pe_op (op_addZ (K := K) rfl) (pe_callB (call_lenY (K := K) rfl) (by rfl) T.z_len PySem.boot_len (pa_cons (pv 0) pa_nil)) (pe_callB (call_lenY (K := K) rfl) (by rfl) T.z_len PySem.boot_len (pa_cons (pv 2) pa_nil))) (set_Y (hu_of hr))))
      (pss_one (ps_expr (pe_bmZ (K := K) rfl PySem.F.plainAttrs_list PySem.F.slot_list_append PySem.F.type_list_append mt_append (pv 2) (pa_cons (pe_tup (pa_cons (pv 3) (pa_cons (pv 5) pa_nil))) pa_nil))))))))))
      (pss_one (ps_ret (pv 2))))))),
    fn_run (np := 1) (N := ["counts", "parts", "paper", "one", "weight", "other"]) (body := b_pairs_of) (by unfold b_pairs_of; exact (sv_seq (sv_drop (ei_callS (ev_cons ei_var ev_nil)))
      (sv_seq (sv_asg (ei_callN (ev_cons ei_var ev_nil)))
      (sv_seq (sv_asg (ei_lst ev_nil))
      (sv_seq (sv_while (et_tst (ei_op (j_I0 fun _ _ => cr_bl) (ei_cb jb_len (ea_cons ei_var ea_nil)) (ei_c cr_int))) (sv_seq (sv_asg (ei_callB (ea_cons ei_var ea_nil)))
      (sv_seq (sv_asg (ei_pop ei_var ei_var))
      (sv_seq (sv_asg (ei_callB (ea_cons ei_var ea_nil)))
      (sv_seq (sv_aug (ei_pop ei_var ei_var))
      (sv_seq (sv_asgS ei_var ei_var (ei_op j_add (ei_cb jb_len (ea_cons ei_var ea_nil)) (ei_cb jb_len (ea_cons ei_var ea_nil))))
      (sv_drop (ei_bm jm_app ei_var (ev_cons (ei_tup (ev_cons ei_var (ev_cons ei_var ev_nil))) ev_nil)))))))))
      (sv_ret ei_var)))))) h⟩)
@[irreducible] noncomputable def b_least_lengths : Ms :=
  (mRet (mCall m_lengths_by (vCons (mName 0) (vCons (mCall m_pairs_of (vCons (mName 0) vNil)) vNil))))
noncomputable def m_least_lengths : Mf := mFn 1 1 b_least_lengths
theorem ok_least_lengths {P : Program} {w : World} {K : PySem.W.Frag} {mg : Str → Option Value} {base : Heap} (T : Tx K mg) : FnOk P w K mg base (L2.CX P w) 6 T.a_least_lengths T.d_least_lengths ["counts"] (spM K (ctT T) m_least_lengths) :=
  T.F_least_lengths.okX sc_least_lengths (fun vs H Q E h => sp_len h) (fun cdv A outer s H vs Q E hr h => ⟨_, (pss_one (ps_ret (pe_callS (ok_lengths_by T) (hr.mono (by decide)) (by rfl) T.g_lengths_by T.F_lengths_by.kp T.b_lengths_by (fun σ => passAt (takes_of rfl rfl rfl rfl) σ) (pa_cons (pv 0) (pa_cons (pe_callS (ok_pairs_of T) (hr.mono (by decide)) (by rfl) T.g_pairs_of T.F_pairs_of.kp T.b_pairs_of (fun σ => passAt (takes_of rfl rfl rfl rfl) σ) (pa_cons (pv 0) pa_nil)) pa_nil))))),
    fn_run (np := 1) (N := ["counts"]) (body := b_least_lengths) (by unfold b_least_lengths; exact (sv_ret (ei_callS (ev_cons ei_var (ev_cons (ei_callS (ev_cons ei_var ev_nil)) ev_nil))))) h⟩)
@[irreducible] noncomputable def b_law : Ms :=
  (mSeq (mAsg 1 (mCallN m_l_counts (vCons (mCallN m_l_cell_at (vCons (mName 0) (vCons (mC (.int 0)) vNil))) (vCons (mCallN m_l_cell_at (vCons (mName 0) (vCons (mC (.int 1)) vNil))) vNil))))
  (mSeq (mAsg 2 (mCallN m_least_lengths (vCons (mName 1) vNil)))
  (mSeq (mAsg 3 (mCallN m_l_bits (vCons (mName 1) (vCons (mName 2) vNil))))
  (mSeq (mFor (mRng2 (aCons (mC (.int 2)) (aCons (mCB (fI2 max) (aCons (mC (.int 4)) (aCons (mCB (fI2 min) (aCons (mCB fLen (aCons (mName 0) aNil)) (aCons (mC (.int 10)) aNil))) aNil))) aNil))) (tgN 4) (mSeq (mAsg 5 (mOp fAdd (mCallN m_l_cell_at (vCons (mName 0) (vCons (mName 4) vNil))) (mOp (fI (fun _ j => 0 < j) fun i j => .int (i % j)) (mName 4) (mC (.int 3)))))
  (mSeq (mAsg 6 (mCallN m_l_by_parts (vCons (mName 1) (vCons (mName 5) vNil))))
  (mSeq (mIfS (mOr (mBl (mOp fEq (mOp (fI (fun _ j => 0 < j) fun i j => .int (i % j)) (mOp (fI CDiv fun i j => .int (i / j)) (mName 5) (mC (.int 2))) (mC (.int 2))) (mC (.int 1)))) (mBl (mOp (fI0 fun i j => .bl (decide (j < i))) (mCB (fInts gMax) (aCons (mName 6) aNil)) (mC (.int 15))))) (mAsg 6 (mCallN m_l_one_by_one (vCons (mName 1) (vCons (mName 5) vNil)))) mNext)
  (mSeq (mAsg 7 (mCB fList (aCons (mName 2) aNil)))
  (mSeq (mIfS (mBl (mOp (fI0 fun i j => .bl (decide (j < i))) (mCB fLen (aCons (mName 1) aNil)) (mC (.int 1)))) (mSeq (mAsg 8 (mOp (fI (fun _ j => 0 < j) fun i j => .int (i % j)) (mCallN m_l_mixed (vCons (mName 5) (vCons (mC (.int 130)) vNil))) (mCB fLen (aCons (mName 1) aNil))))
  (mAsgS2 (mName 7) (mName 8) (mName 7) (mOp (fI0 fun i j => .int (i - j)) (mName 8) (mC (.int 1))) (mTup (vCons (mOp fIxY (mName 7) (mOp (fI0 fun i j => .int (i - j)) (mName 8) (mC (.int 1)))) (vCons (mOp fIxY (mName 7) (mName 8)) vNil))))) mNext)
  (mSeq (mIfS (mBl (mOp (fI0 fun i j => .bl (decide (i < j))) (mCallN m_l_bits (vCons (mName 1) (vCons (mName 6) vNil))) (mName 3))) (mRet (mC (.bl false))) mNext)
  (mIfS (mBl (mOp fEq (mLc [9] (mRng1 (aCons (mCB fLen (aCons (mName 1) aNil)) aNil)) (tgN 9) (mAnd (mBl (mOp (fI0 fun i j => .bl (decide (j < i))) (mOp fIxY (mName 1) (mName 9)) (mC (.int 0)))) (mBl (mOp fEq (mOp fIxY (mName 7) (mName 9)) (mC (.int 0))))) (mName 9)) (mLst vNil))) (mIfS (mBl (mOp (fI0 fun i j => .bl (decide (i < j))) (mCallN m_l_bits (vCons (mName 1) (vCons (mName 7) vNil))) (mName 3))) (mRet (mC (.bl false))) mNext) mNext))))))))
  (mSeq (mIfS (mOr (mTru (mCB (fBls fun bs => .bl (bs.any id)) (aCons (mLc [4] (mRng1 (aCons (mCB fLen (aCons (mName 1) aNil)) aNil)) (tgN 4) mYes (mAndV (mOp (fI0 fun i j => .bl (decide (j < i))) (mOp fIxY (mName 1) (mName 4)) (mC (.int 0))) (mOp fEq (mOp fIxY (mName 2) (mName 4)) (mC (.int 0))))) aNil))) (mNot (mTru (mCallN m_fits (vCons (mName 2) vNil))))) (mRet (mC (.bl false))) mNext)
  (mRet (mOrV (mOp (fI0 fun i j => .bl (decide (j < i))) (mCB fLen (aCons (mLc [10] (mWL (mName 1)) (tgN 10) (mBl (mOp (fI0 fun i j => .bl (decide (j < i))) (mName 10) (mC (.int 0)))) (mName 10)) aNil)) (mC (.int 5))) (mOp fEq (mName 3) (mCallN m_l_fewest (vCons (mName 1) vNil))))))))))
noncomputable def m_law : Mf := mFn 1 11 b_law
theorem ok_law {P : Program} {w : World} {K : PySem.W.Frag} {mg : Str → Option Value} {base : Heap} (T : Tx K mg) : FnOk P w K mg base CX0 7 T.a_law T.d_law ["_law_script"] (spM K (ctT T) m_law) :=
  T.F_law.ok sc_law (fun vs H Q E h => sp_len h) (fun cdv A outer s H vs Q E hr h => ⟨_, (pss_cons (ps_set (i := 1) sc_law.nd rfl (by first | exact Or.inl rfl | exact Or.inr rfl) (pe_callZ (ok_l_counts T) (hr.mono (by decide)) (by rfl) T.g_l_counts T.F_l_counts.kp T.b_l_counts pass0 (pa_cons (pe_callZ (ok_l_cell_at T) (hr.mono (by decide)) (by rfl) T.g_l_cell_at T.F_l_cell_at.kp T.b_l_cell_at pass0 (pa_cons (pv 0) (pa_cons pe_int pa_nil))) (pa_cons (pe_callZ (ok_l_cell_at T) (hr.mono (by decide)) (by rfl) T.g_l_cell_at T.F_l_cell_at.kp T.b_l_cell_at pass0 (pa_cons (pv 0) (pa_cons pe_int pa_nil))) pa_nil))))
      (pss_cons (ps_set (i := 2) sc_law.nd rfl (by first | exact Or.inl rfl | exact Or.inr rfl) (pe_callZ (ok_least_lengths T) (hr.mono (by decide)) (by rfl) T.g_least_lengths T.F_least_lengths.kp T.b_least_lengths passL (pa_cons (pv 1) pa_nil)))
      (pss_cons (ps_set (i := 3) sc_law.nd rfl (by first | exact Or.inl rfl | exact Or.inr rfl) (pe_callZ (ok_l_bits T) (hr.mono (by decide)) (by rfl) T.g_l_bits T.F_l_bits.kp T.b_l_bits pass0 (pa_cons (pv 1) (pa_cons (pv 2) pa_nil))))
      (pss_cons (ps_for PassesOwn.never rfl (pi_range2 rfl T.z_range (pa_cons pe_int (pa_cons (pe_callB (call_max2Z rfl) (by rfl) T.z_max (by decide +kernel) (pa_cons pe_int (pa_cons (pe_callB (call_min2Z rfl) (by rfl) T.z_min (by decide +kernel) (pa_cons (pe_callB (call_lenY (K := K) rfl) (by rfl) T.z_len PySem.boot_len (pa_cons (pv 0) pa_nil)) (pa_cons pe_int pa_nil))) pa_nil))) pa_nil))) (pg_name (i := 4) sc_law.nd rfl (by first | exact Or.inl rfl | exact Or.inr rfl)) (pss_cons (ps_set (i := 5) sc_law.nd rfl (by first | exact Or.inl rfl | exact Or.inr rfl) (pe_op (op_addZ (K := K) rfl) (pe_callZ (ok_l_cell_at T) (hr.mono (by decide)) (by rfl) T.g_l_cell_at T.F_l_cell_at.kp T.b_l_cell_at pass0 (pa_cons (pv 0) (pa_cons (pv 4) pa_nil))) (pe_op op_mod (pv 4) pe_int)))
      (pss_cons (ps_set (i := 6) sc_law.nd rfl (by first | exact Or.inl rfl | exact Or.inr rfl) (pe_callZ (ok_l_by_parts T) (hr.mono (by decide)) (by rfl) T.g_l_by_parts T.F_l_by_parts.kp T.b_l_by_parts pass0 (pa_cons (pv 1) (pa_cons (pv 5) pa_nil))))
      (pss_cons (ps_if (PW.pt (pw_or (pt_cmpR (op_eqZ (K := K) rfl hr.units) (pe_op op_mod (pe_op op_fdiv (pv 5) pe_int) pe_int) pe_int (nomark _)) (pw_or1 (pt_cmpR op_gt (pe_callB (cr_maxZ (K := K) rfl rfl) (by rfl) T.z_max (by decide +kernel) (pa_cons (pv 6) pa_nil)) pe_int (nomark _))))) (pss_one (ps_set (i := 6) sc_law.nd rfl (by first | exact Or.inl rfl | exact Or.inr rfl) (pe_callZ (ok_l_one_by_one T) (hr.mono (by decide)) (by rfl) T.g_l_one_by_one T.F_l_one_by_one.kp T.b_l_one_by_one pass0 (pa_cons (pv 1) (pa_cons (pv 5) pa_nil))))) pss_nil)
      (pss_cons (ps_set (i := 7) sc_law.nd rfl (by first | exact Or.inl rfl | exact Or.inr rfl) (pe_callTy (call_listZ (K := K) rfl) (by rfl) T.z_list (by decide +kernel) (pa_cons (pv 2) pa_nil)))
      (pss_cons (ps_if (pt_cmpR op_gt (pe_callB (call_lenY (K := K) rfl) (by rfl) T.z_len PySem.boot_len (pa_cons (pv 1) pa_nil)) pe_int (nomark _)) (pss_cons (ps_set (i := 8) sc_law.nd rfl (by first | exact Or.inl rfl | exact Or.inr rfl) (pe_op op_mod (pe_callZ (ok_l_mixed T) (hr.mono (by decide)) (by rfl) T.g_l_mixed T.F_l_mixed.kp T.b_l_mixed pass0 (pa_cons (pv 5) (pa_cons pe_int pa_nil))) (pe_callB (call_lenY (K := K) rfl) (by rfl) T.z_len PySem.boot_len (pa_cons (pv 1) pa_nil))))
      (pss_one (ps_asg (pe_tup (pa_cons (pe_ix (ix_Y (K := K) rfl (hu_of hr)) (pv 7) (pe_op op_sub (pv 8) pe_int) (fun _ _ => rfl)) (pa_cons (pe_ix (ix_Y (K := K) rfl (hu_of hr)) (pv 7) (pv 8) (fun _ _ => rfl)) pa_nil))) (pg_tupZ (K := K) (n := 2) rfl rfl (pgs_cons (pg_sub (pv 7) (pv 8) (set_Y (hu_of hr))) (pgs_cons (pg_sub (pv 7) (pe_op op_sub (pv 8) pe_int) (set_Y (hu_of hr))) pgs_nil)))))) pss_nil)
      (pss_cons (ps_if (pt_cmpR op_lt (pe_callZ (ok_l_bits T) (hr.mono (by decide)) (by rfl) T.g_l_bits T.F_l_bits.kp T.b_l_bits pass0 (pa_cons (pv 1) (pa_cons (pv 6) pa_nil))) (pv 3) (nomark _)) (pss_one (ps_ret pe_bl)) pss_nil)
      (pss_one (ps_if (pt_cmpR (op_eqZ (K := K) rfl hr.units) (pe_lc (own := [("_law_j", 9)]) rfl sc_law.nd (pi_range1 rfl T.z_range (pa_cons (pe_callB (call_lenY (K := K) rfl) (by rfl) T.z_len PySem.boot_len (pa_cons (pv 1) pa_nil)) pa_nil)) (blkOk_by (N := ["_law_script", "_law_counts_here", "_law_least", "_law_told", "_law_k", "_law_cell", "_law_other", "_law_turned", "_law_one", "_law_j", "_law_count"]) (sc := defScope s_law) (by decide +kernel)) (fun _ _ _ _ _ => (pg_name (i := 9) sc_law.nd rfl (by first | exact Or.inl rfl | exact Or.inr rfl))) (fun _ _ _ _ _ => (pts_one (PW.pt (pw_and (pt_cmpR op_gt (pe_ix (ix_Y (K := K) rfl (hu_of hr)) (pv 1) (pv 9) (fun _ _ => rfl)) pe_int (nomark _)) (pw_and1 (pt_cmpR (op_eqZ (K := K) rfl hr.units) (pe_ix (ix_Y (K := K) rfl (hu_of hr)) (pv 7) (pv 9) (fun _ _ => rfl)) pe_int (nomark _))))))) (fun _ _ _ _ _ => (pv 9))) (pe_lst pa_nil) (nomark _)) (pss_one (ps_if (pt_cmpR op_lt (pe_callZ (ok_l_bits T) (hr.mono (by decide)) (by rfl) T.g_l_bits T.F_l_bits.kp T.b_l_bits pass0 (pa_cons (pv 1) (pa_cons (pv 7) pa_nil))) (pv 3) (nomark _)) (pss_one (ps_ret pe_bl)) pss_nil)) pss_nil)))))))))
      (pss_cons (ps_if (PW.pt (pw_or (pt_truthZ (K := K) rfl (pe_callB (cr_anyZ (K := K) rfl rfl) (by rfl) T.z_any (by decide +kernel) (pa_cons (pe_lc (own := [("_law_k", 4)]) rfl sc_law.nd (pi_range1 rfl T.z_range (pa_cons (pe_callB (call_lenY (K := K) rfl) (by rfl) T.z_len PySem.boot_len (pa_cons (pv 1) pa_nil)) pa_nil)) (blkOk_by (N := ["_law_script", "_law_counts_here", "_law_least", "_law_told", "_law_k", "_law_cell", "_law_other", "_law_turned", "_law_one", "_law_j", "_law_count"]) (sc := defScope s_law) (by decide +kernel)) (fun _ _ _ _ _ => (pg_name (i := 4) sc_law.nd rfl (by first | exact Or.inl rfl | exact Or.inr rfl))) (fun _ _ _ _ _ => pts_nil) (fun _ _ _ _ _ => (pe_and (pe_cmpR op_gt (pe_ix (ix_Y (K := K) rfl (hu_of hr)) (pv 1) (pv 4) (fun _ _ => rfl)) pe_int (nomark _)) (pe_one (pe_cmpR (op_eqZ (K := K) rfl hr.units) (pe_ix (ix_Y (K := K) rfl (hu_of hr)) (pv 2) (pv 4) (fun _ _ => rfl)) pe_int (nomark _)))))) pa_nil)) (by intro _; rfl)) (pw_or1 (pt_not (pt_truthZ (K := K) rfl (pe_callZ (ok_fits T) (hr.mono (by decide)) (by rfl) T.g_fits T.F_fits.kp T.b_fits pass0 (pa_cons (pv 2) pa_nil)) (by intro _; rfl)))))) (pss_one (ps_ret pe_bl)) pss_nil)
      (pss_one (ps_ret (pe_or (pe_cmpR op_gt (pe_callB (call_lenY (K := K) rfl) (by rfl) T.z_len PySem.boot_len (pa_cons (pe_lc (own := [("_law_count", 10)]) rfl sc_law.nd (pi_listZ (K := K) rfl (pv 1)) (blkOk_by (N := ["_law_script", "_law_counts_here", "_law_least", "_law_told", "_law_k", "_law_cell", "_law_other", "_law_turned", "_law_one", "_law_j", "_law_count"]) (sc := defScope s_law) (by decide +kernel)) (fun _ _ _ _ _ => (pg_name (i := 10) sc_law.nd rfl (by first | exact Or.inl rfl | exact Or.inr rfl))) (fun _ _ _ _ _ => (pts_one (pt_cmpR op_gt (pv 10) pe_int (nomark _)))) (fun _ _ _ _ _ => (pv 10))) pa_nil)) pe_int (nomark _)) (pe_one (pe_cmpR (op_eqZ (K := K) rfl hr.units) (pv 3) (pe_callZ (ok_l_fewest T) (hr.mono (by decide)) (by rfl) T.g_l_fewest T.F_l_fewest.kp T.b_l_fewest pass0 (pa_cons (pv 1) pa_nil)) (nomark _))))))))))),
    fn_run (np := 1) (N := ["_law_script", "_law_counts_here", "_law_least", "_law_told", "_law_k", "_law_cell", "_law_other", "_law_turned", "_law_one", "_law_j", "_law_count"]) (body := b_law) (by unfold b_law; exact (sv_seq (sv_asg (ei_callN (ev_cons (ei_callN (ev_cons ei_var (ev_cons (ei_c cr_int) ev_nil))) (ev_cons (ei_callN (ev_cons ei_var (ev_cons (ei_c cr_int) ev_nil))) ev_nil))))
      (sv_seq (sv_asg (ei_callN (ev_cons ei_var ev_nil)))
      (sv_seq (sv_asg (ei_callN (ev_cons ei_var (ev_cons ei_var ev_nil))))
      (sv_seq (sv_for (jw_rng2 (ea_cons (ei_c cr_int) (ea_cons (ei_cb jb_max2 (ea_cons (ei_c cr_int) (ea_cons (ei_cb jb_min2 (ea_cons (ei_cb jb_len (ea_cons ei_var ea_nil)) (ea_cons (ei_c cr_int) ea_nil))) ea_nil))) ea_nil))) sg_name (sv_seq (sv_asg (ei_op j_add (ei_callN (ev_cons ei_var (ev_cons ei_var ev_nil))) (ei_op (j_I fun _ _ => cr_int) ei_var (ei_c cr_int))))
      (sv_seq (sv_asg (ei_callN (ev_cons ei_var (ev_cons ei_var ev_nil))))
      (sv_seq (sv_if (et_or (et_tst (ei_op j_eq (ei_op (j_I fun _ _ => cr_int) (ei_op (j_I fun _ _ => cr_int) ei_var (ei_c cr_int)) (ei_c cr_int)) (ei_c cr_int))) (et_tst (ei_op (j_I0 fun _ _ => cr_bl) (ei_cb jb_max (ea_cons ei_var ea_nil)) (ei_c cr_int)))) (sv_asg (ei_callN (ev_cons ei_var (ev_cons ei_var ev_nil)))) sv_next)
      (sv_seq (sv_asg (ei_cb jb_list (ea_cons ei_var ea_nil)))
      (sv_seq (sv_if (et_tst (ei_op (j_I0 fun _ _ => cr_bl) (ei_cb jb_len (ea_cons ei_var ea_nil)) (ei_c cr_int))) (sv_seq (sv_asg (ei_op (j_I fun _ _ => cr_int) (ei_callN (ev_cons ei_var (ev_cons (ei_c cr_int) ev_nil))) (ei_cb jb_len (ea_cons ei_var ea_nil))))
      (sv_asgS2 (ei_tup (ev_cons (ei_op j_ixY ei_var (ei_op (j_I0 fun _ _ => cr_int) ei_var (ei_c cr_int))) (ev_cons (ei_op j_ixY ei_var ei_var) ev_nil))) ei_var ei_var ei_var (ei_op (j_I0 fun _ _ => cr_int) ei_var (ei_c cr_int)))) sv_next)
      (sv_seq (sv_if (et_tst (ei_op (j_I0 fun _ _ => cr_bl) (ei_callN (ev_cons ei_var (ev_cons ei_var ev_nil))) ei_var)) (sv_ret (ei_c cr_bl)) sv_next)
      (sv_if (et_tst (ei_op j_eq (ei_lc (ws := [9]) (jw_rng1 (ea_cons (ei_cb jb_len (ea_cons ei_var ea_nil)) ea_nil)) sg_name (by decide) (et_and (et_tst (ei_op (j_I0 fun _ _ => cr_bl) (ei_op j_ixY ei_var ei_var) (ei_c cr_int))) (et_tst (ei_op j_eq (ei_op j_ixY ei_var ei_var) (ei_c cr_int)))) ei_var) (ei_lst ev_nil))) (sv_if (et_tst (ei_op (j_I0 fun _ _ => cr_bl) (ei_callN (ev_cons ei_var (ev_cons ei_var ev_nil))) ei_var)) (sv_ret (ei_c cr_bl)) sv_next) sv_next))))))))
      (sv_seq (sv_if (et_or (et_tru (ei_cb jb_any (ea_cons (ei_lc (ws := [4]) (jw_rng1 (ea_cons (ei_cb jb_len (ea_cons ei_var ea_nil)) ea_nil)) sg_name (by decide) et_yes (ei_andV (ei_op (j_I0 fun _ _ => cr_bl) (ei_op j_ixY ei_var ei_var) (ei_c cr_int)) (ei_op j_eq (ei_op j_ixY ei_var ei_var) (ei_c cr_int)))) ea_nil))) (et_not (et_tru (ei_callN (ev_cons ei_var ev_nil))))) (sv_ret (ei_c cr_bl)) sv_next)
      (sv_ret (ei_orV (ei_op (j_I0 fun _ _ => cr_bl) (ei_cb jb_len (ea_cons (ei_lc (ws := [10]) (jw_list ei_var) sg_name (by decide) (et_tst (ei_op (j_I0 fun _ _ => cr_bl) ei_var (ei_c cr_int))) ei_var) ea_nil)) (ei_c cr_int)) (ei_op j_eq ei_var (ei_callN (ev_cons ei_var ev_nil))))))))))) h⟩)
abbrev Pt := Int × Int
def dD (ps : List Pt) : List (Key × D) := ps.map fun p => (Sum.inl p.1, D.int p.2)
def vlP (ps : List Pt) (k : Int) : Option Int := (ps.find? fun p => decide (p.1 = k)).map (·.2)
def drP (ps : List Pt) (k : Int) : List Pt := ps.filter fun p => decide (p.1 ≠ k)
theorem key_dec (a b : Int) : decide ((Sum.inl a : Key) = Sum.inl b) = decide (a = b) := by
  by_cases h : a = b
  · subst h; rw [decide_eq_true rfl, decide_eq_true rfl]
  · rw [decide_eq_false h, decide_eq_false (fun q => h (Sum.inl.inj q))]
theorem vl_dD (ps : List Pt) (k : Int) : vl (dD ps) (.inl k) = (vlP ps k).map D.int := by
  unfold vl dD vlP
  induction ps with
  | nil => rfl
  | cons p ps ih =>
    rw [List.map_cons, List.find?_cons, List.find?_cons, key_dec]
    by_cases h : p.1 = k
    · rw [decide_eq_true h]; rfl
    · rw [decide_eq_false h]; exact ih
theorem dr_dD (ps : List Pt) (k : Int) : dr (dD ps) (.inl k) = dD (drP ps k) := by
  unfold dr dD drP
  rw [List.filter_map]
  congr 1
  refine List.filter_congr fun p _ => ?_
  show decide ((Sum.inl p.1 : Key) ≠ Sum.inl k) = decide (p.1 ≠ k)
  have := key_dec p.1 k
  rw [show decide ((Sum.inl p.1 : Key) ≠ Sum.inl k) = !decide ((Sum.inl p.1 : Key) = Sum.inl k) from by simp, this]; simp
theorem pu_new {ps : List Pt} {k w : Int} (h : ∀ p ∈ ps, p.1 ≠ k) : pu (dD ps) (.inl k) (.int w) = dD (ps ++ [(k, w)]) := by
  unfold pu
  rw [if_neg]
  · unfold dD; rw [List.map_append]; rfl
  · intro q
    rw [List.any_eq_true] at q
    obtain ⟨x, hx, hq⟩ := q
    obtain ⟨p, hp, rfl⟩ := List.mem_map.mp hx
    exact h p hp (Sum.inl.inj (of_decide_eq_true hq))
theorem dD_len (ps : List Pt) : (dD ps).length = ps.length := List.length_map ..
/-- each number once -/
def Nd (ps : List Pt) : Prop := (ps.map Prod.fst).Nodup
theorem vlP_mem : ∀ {ps : List Pt} {p : Pt}, Nd ps → p ∈ ps → vlP ps p.1 = some p.2
  | q :: ps, p, hn, hp => by
    unfold vlP
    rw [List.find?_cons]
    have hn : (q.1 :: ps.map Prod.fst).Nodup := hn
    rcases List.mem_cons.mp hp with rfl | hp
    · rw [decide_eq_true rfl]; rfl
    · have hne : q.1 ≠ p.1 := fun z => by
        have := (List.nodup_cons.mp hn).1
        exact this (z ▸ List.mem_map_of_mem hp)
      rw [decide_eq_false hne]
      exact vlP_mem (List.nodup_cons.mp hn).2 hp
theorem drP_nd {ps : List Pt} {k : Int} (h : Nd ps) : Nd (drP ps k) := h.sublist (List.filter_sublist.map _)
theorem drP_mem {ps : List Pt} {k : Int} {p : Pt} : p ∈ drP ps k ↔ p ∈ ps ∧ p.1 ≠ k := by
  unfold drP; rw [List.mem_filter, decide_eq_true_eq]
theorem drP_len : ∀ {ps : List Pt} {p : Pt}, Nd ps → p ∈ ps → (drP ps p.1).length + 1 = ps.length
  | q :: ps, p, hn, hp => by
    have hn : (q.1 :: ps.map Prod.fst).Nodup := hn
    obtain ⟨h1, h2⟩ := List.nodup_cons.mp hn
    unfold drP
    rw [List.filter_cons]
    rcases List.mem_cons.mp hp with rfl | hp
    · rw [if_neg (by simp), List.length_cons]
      rw [List.filter_eq_self.mpr (fun x hx => decide_eq_true (fun (z : x.1 = _) => h1 (by have := List.mem_map_of_mem (f := Prod.fst) hx; rw [z] at this; exact this)))]
    · have hne : q.1 ≠ p.1 := fun z => h1 (z ▸ List.mem_map_of_mem hp)
      rw [if_pos (decide_eq_true hne), List.length_cons, List.length_cons]
      have := drP_len h2 hp
      unfold drP at this
      omega
abbrev sw (p : Pt) : Pt := (p.2, p.1)
def least : List Pt → Pt
  | [] => (0, 0)
  | p :: ps => sw (minP (sw p) (ps.map sw))
theorem minP_mem : ∀ (ps : List Pt) (p : Pt), minP p ps ∈ p :: ps
  | [], p => List.mem_singleton.mpr rfl
  | y :: ps, p => by
    show minP (if Y.ltP y p = true then y else p) ps ∈ _
    have := minP_mem ps (if Y.ltP y p = true then y else p)
    rcases List.mem_cons.mp this with h | h
    · rw [h]; split
      · exact List.mem_cons_of_mem _ (List.mem_cons_self ..)
      · exact List.mem_cons_self ..
    · exact List.mem_cons_of_mem _ (List.mem_cons_of_mem _ h)
theorem minP_le : ∀ (ps : List Pt) (p : Pt), ∀ y ∈ p :: ps, (minP p ps).1 ≤ y.1
  | [], p, y, h => by rw [List.mem_singleton.mp h]; exact Int.le_refl _
  | z :: ps, p, y, h => by
    show (minP (if Y.ltP z p = true then z else p) ps).1 ≤ y.1
    have ih := minP_le ps (if Y.ltP z p = true then z else p)
    have hc := ih _ (List.mem_cons_self ..)
    have h1 : (if Y.ltP z p = true then z else p).1 ≤ z.1 ∧ (if Y.ltP z p = true then z else p).1 ≤ p.1 := by
      by_cases q : Y.ltP z p = true
      · rw [if_pos q]
        have := of_decide_eq_true q
        omega
      · rw [if_neg q]
        have : ¬ (z.1 < p.1 ∨ (z.1 = p.1 ∧ z.2 < p.2)) := fun w => q (decide_eq_true w)
        omega
    rcases List.mem_cons.mp h with rfl | h
    · omega
    · rcases List.mem_cons.mp h with rfl | h
      · omega
      · exact ih y (List.mem_cons_of_mem _ h)
theorem least_mem {ps : List Pt} (h : ps ≠ []) : least ps ∈ ps := by
  cases ps with
  | nil => exact absurd rfl h
  | cons p ps =>
    have := minP_mem (ps.map sw) (sw p)
    have h2 : minP (sw p) (ps.map sw) ∈ (p :: ps).map sw := this
    obtain ⟨q, hq, e⟩ := List.mem_map.mp h2
    show sw (minP (sw p) (ps.map sw)) ∈ _
    rw [← e]; exact hq
theorem least_le {ps : List Pt} : ∀ y ∈ ps, (least ps).2 ≤ y.2 := by
  intro y hy
  cases ps with
  | nil => simp at hy
  | cons p ps =>
    have := minP_le (ps.map sw) (sw p) (sw y) (List.mem_map_of_mem (f := sw) hy)
    exact this
def one (ps : List Pt) : Pt := least ps
def oth (ps : List Pt) : Pt := least (drP ps (one ps).1)
def rst (ps : List Pt) : List Pt := drP (drP ps (one ps).1) (oth ps).1
def nxt (n : Int) (ps : List Pt) : List Pt := rst ps ++ [(n, (one ps).2 + (oth ps).2)]
theorem one_mem {ps : List Pt} (h : 1 < ps.length) : one ps ∈ ps := least_mem (fun z => by subst z; simp at h)
theorem oth_mem {ps : List Pt} (hn : Nd ps) (h : 1 < ps.length) : oth ps ∈ drP ps (one ps).1 := least_mem (fun z => by
  have := drP_len hn (one_mem h)
  rw [z] at this; simp at this; omega)
theorem oth_ne {ps : List Pt} (hn : Nd ps) (h : 1 < ps.length) : (oth ps).1 ≠ (one ps).1 := (drP_mem.mp (oth_mem hn h)).2
theorem oth_in {ps : List Pt} (hn : Nd ps) (h : 1 < ps.length) : oth ps ∈ ps := (drP_mem.mp (oth_mem hn h)).1
theorem rst_len {ps : List Pt} (hn : Nd ps) (h : 1 < ps.length) : (rst ps).length + 2 = ps.length := by
  have h1 := drP_len hn (one_mem h)
  have h2 := drP_len (drP_nd hn) (oth_mem hn h)
  unfold rst
  omega
theorem rst_ge {ps : List Pt} (hn : Nd ps) (h : 1 < ps.length) : ∀ y ∈ rst ps, (one ps).2 ≤ y.2 ∧ (oth ps).2 ≤ y.2 := fun y hy => by
  obtain ⟨h1, _⟩ := drP_mem.mp hy
  exact ⟨least_le y (drP_mem.mp h1).1, least_le y h1⟩
/-- behind k turns -/
def stF (n : Int) (ps : List Pt) : Nat → List Pt
  | 0 => ps
  | k + 1 => nxt (n + k) (stF n ps k)
structure Pk (n : Int) (k : Nat) (ps : List Pt) : Prop where
  nd : Nd ps
  lt : ∀ p ∈ ps, p.1 < n + k
  ge : ∀ p ∈ ps, 0 ≤ p.2
theorem Pk.next {n : Int} {k : Nat} {ps : List Pt} (h : Pk n k ps) (hl : 1 < ps.length) : Pk n (k + 1) (nxt (n + k) ps) := by
  have hr : ∀ p ∈ rst ps, p ∈ ps := fun p hp => (drP_mem.mp (drP_mem.mp hp).1).1
  have w1 := h.ge _ (one_mem hl)
  have w2 := h.ge _ (oth_in h.nd hl)
  refine ⟨?_, fun p hp => ?_, fun p hp => ?_⟩
  · show ((rst ps ++ [(n + k, _)]).map Prod.fst).Nodup
    rw [List.map_append, List.nodup_append]
    refine ⟨drP_nd (drP_nd h.nd), by simp, fun a ha b hb => ?_⟩
    obtain ⟨p, hp, rfl⟩ := List.mem_map.mp ha
    simp at hb
    subst hb
    have := h.lt p (hr p hp)
    omega
  · rcases List.mem_append.mp hp with hp | hp
    · have := h.lt p (hr p hp); push_cast; omega
    · simp at hp; subst hp; show n + k < n + ((k + 1 : Nat) : Int); push_cast; omega
  · rcases List.mem_append.mp hp with hp | hp
    · exact h.ge p (hr p hp)
    · simp at hp; subst hp; show 0 ≤ (one ps).2 + (oth ps).2; omega
theorem stF_ok {n : Int} {ps : List Pt} (h : Pk n 0 ps) : ∀ k, k + 1 ≤ ps.length → Pk n k (stF n ps k) ∧ (stF n ps k).length + k = ps.length
  | 0, _ => ⟨h, rfl⟩
  | k + 1, hk => by
    obtain ⟨h1, h2⟩ := stF_ok h k (by omega)
    have hl : 1 < (stF n ps k).length := by omega
    refine ⟨h1.next hl, ?_⟩
    show (rst (stF n ps k) ++ [_]).length + (k + 1) = _
    rw [List.length_append]
    have := rst_len h1.nd hl
    show (rst (stF n ps k)).length + 1 + (k + 1) = _
    omega
def pairAt (n : Int) (ps : List Pt) (k : Nat) : Pt := ((one (stF n ps k)).1, (oth (stF n ps k)).1)
def paper (n : Int) (ps : List Pt) : List Pt := (List.range (ps.length - 1)).map (pairAt n ps)
/-- the first parts of counts -/
def fpF (k : Int) : List Int → List Pt
  | [] => []
  | c :: cs => if 0 < c then (k, c) :: fpF (k + 1) cs else fpF (k + 1) cs
theorem fpF_mem : ∀ {cs : List Int} {k : Int} {p : Pt}, p ∈ fpF k cs → k ≤ p.1 ∧ p.1 < k + cs.length ∧ 0 < p.2
  | [], _, _, h => by cases h
  | c :: cs, k, p, h => by
    unfold fpF at h
    rw [List.length_cons]
    split at h
    · rename_i hc
      rcases List.mem_cons.mp h with rfl | h
      · exact ⟨Int.le_refl _, by push_cast; show k < k + (_ + 1); omega, hc⟩
      · have := fpF_mem h; push_cast; omega
    · have := fpF_mem h; push_cast; omega
theorem fpF_nd : ∀ (cs : List Int) (k : Int), Nd (fpF k cs)
  | [], _ => List.nodup_nil
  | c :: cs, k => by
    unfold fpF
    split
    · refine List.nodup_cons.mpr ⟨fun h => ?_, fpF_nd cs (k + 1)⟩
      obtain ⟨p, hp, e⟩ := List.mem_map.mp h
      have := (fpF_mem hp).1
      have e : p.1 = k := e
      omega
    · exact fpF_nd cs (k + 1)
theorem fpF_pk (cs : List Int) : Pk (cs.length : Int) 0 (fpF 0 cs) := ⟨fpF_nd cs 0, fun p h => by have := fpF_mem h; push_cast; omega, fun p h => by have := fpF_mem h; omega⟩
theorem fpF_len : ∀ (cs : List Int) (k : Int), (fpF k cs).length ≤ cs.length
  | [], _ => Nat.le_refl _
  | c :: cs, k => by
    unfold fpF
    have := fpF_len cs (k + 1)
    split
    · rw [List.length_cons, List.length_cons]; omega
    · rw [List.length_cons]; omega
theorem fpF_snoc : ∀ (cs : List Int) (k c : Int), fpF k (cs ++ [c]) = fpF k cs ++ (if 0 < c then [(k + cs.length, c)] else [])
  | [], k, c => by
    show (if 0 < c then (k, c) :: fpF (k + 1) [] else fpF (k + 1) []) = [] ++ _
    split
    · show [(k, c)] = [] ++ [(k + ((0 : Nat) : Int), c)]; simp
    · rfl
  | x :: cs, k, c => by
    show (if 0 < x then (k, x) :: fpF (k + 1) (cs ++ [c]) else fpF (k + 1) (cs ++ [c])) = (if 0 < x then (k, x) :: fpF (k + 1) cs else fpF (k + 1) cs) ++ _
    rw [fpF_snoc cs (k + 1) c, List.length_cons]
    rw [show k + ((cs.length + 1 : Nat) : Int) = k + 1 + (cs.length : Int) by push_cast; omega]
    split <;> simp
theorem noId_dD : ∀ ps : List Pt, D.noIdK (dD ps) = true
  | [] => rfl
  | p :: ps => by show (true && D.noIdK (dD ps)) = true; rw [noId_dD ps]; rfl
structure Cts (cs : List Int) : Prop where
  pos : 1 ≤ cs.length
  few : cs.length ≤ 64
  bd : ∀ c ∈ cs, 0 ≤ c ∧ c ≤ 1000
  sum : cs.sum ≤ 1000
def wt (ps : List Pt) (k : Int) : Int := (vlP ps k).getD 0
def stepP (n : Int) (ps : List Pt) (q : Pt) : List Pt := drP (drP ps q.1) q.2 ++ [(n, wt ps q.1 + wt ps q.2)]
structure OkS (ps : List Pt) (q : Pt) : Prop where
  ne : q.1 ≠ q.2
  m1 : (q.1, wt ps q.1) ∈ ps
  m2 : (q.2, wt ps q.2) ∈ ps
  le : ∀ r ∈ drP (drP ps q.1) q.2, wt ps q.1 ≤ r.2 ∧ wt ps q.2 ≤ r.2
def stP (n : Int) (ps qs : List Pt) : Nat → List Pt
  | 0 => ps
  | k + 1 => stepP (n + k) (stP n ps qs k) (qs.getD k (0, 0))
def Gd (n : Int) (ps qs : List Pt) : Prop := ∀ k, k < qs.length → OkS (stP n ps qs k) (qs.getD k (0, 0))
def btP (n : Int) (ps qs : List Pt) : Nat → Int
  | 0 => 0
  | k + 1 => btP n ps qs k + (wt (stP n ps qs k) (qs.getD k (0, 0)).1 + wt (stP n ps qs k) (qs.getD k (0, 0)).2)
theorem wt_mem {ps : List Pt} {p : Pt} (hn : Nd ps) (h : p ∈ ps) : wt ps p.1 = p.2 := by unfold wt; rw [vlP_mem hn h]; rfl
theorem OkS.in1 {ps : List Pt} {q : Pt} (h : OkS ps q) : (q.2, wt ps q.2) ∈ drP ps q.1 := drP_mem.mpr ⟨h.m2, fun z => h.ne z.symm⟩
theorem OkS.len {ps : List Pt} {q : Pt} (h : OkS ps q) (hn : Nd ps) : (drP (drP ps q.1) q.2).length + 2 = ps.length := by
  have h1 : (drP ps q.1).length + 1 = ps.length := drP_len (p := (q.1, wt ps q.1)) hn h.m1
  have h2 : (drP (drP ps q.1) q.2).length + 1 = (drP ps q.1).length := drP_len (p := (q.2, wt ps q.2)) (drP_nd hn) h.in1
  omega
theorem Pk.step {n : Int} {k : Nat} {ps : List Pt} {q : Pt} (h : Pk n k ps) (hs : OkS ps q) : Pk n (k + 1) (stepP (n + k) ps q) ∧ (stepP (n + k) ps q).length + 1 = ps.length := by
  have hr : ∀ p ∈ drP (drP ps q.1) q.2, p ∈ ps := fun p hp => (drP_mem.mp (drP_mem.mp hp).1).1
  have w1 : 0 ≤ wt ps q.1 := h.ge _ hs.m1
  have w2 : 0 ≤ wt ps q.2 := h.ge _ hs.m2
  refine ⟨⟨?_, fun p hp => ?_, fun p hp => ?_⟩, ?_⟩
  · show ((drP (drP ps q.1) q.2 ++ [(n + k, _)]).map Prod.fst).Nodup
    rw [List.map_append, List.nodup_append]
    refine ⟨drP_nd (drP_nd h.nd), by simp, fun a ha b hb => ?_⟩
    obtain ⟨p, hp, rfl⟩ := List.mem_map.mp ha
    simp at hb
    subst hb
    have := h.lt p (hr p hp)
    omega
  · rcases List.mem_append.mp hp with hp | hp
    · have := h.lt p (hr p hp); push_cast; omega
    · simp at hp; subst hp; show n + k < n + ((k + 1 : Nat) : Int); push_cast; omega
  · rcases List.mem_append.mp hp with hp | hp
    · exact h.ge p (hr p hp)
    · simp at hp; subst hp; show 0 ≤ wt ps q.1 + wt ps q.2; omega
  · unfold stepP; rw [List.length_append]; have := hs.len h.nd; show _ + 1 + 1 = _; omega
theorem stP_ok {n : Int} {ps qs : List Pt} (h : Pk n 0 ps) (hg : Gd n ps qs) : ∀ k, k ≤ qs.length → Pk n k (stP n ps qs k) ∧ (stP n ps qs k).length + k = ps.length
  | 0, _ => ⟨h, rfl⟩
  | k + 1, hk => by
    obtain ⟨h1, h2⟩ := stP_ok h hg k (by omega)
    obtain ⟨h3, h4⟩ := h1.step (hg k (by omega))
    exact ⟨h3, by show (stepP _ _ _).length + (k + 1) = _; omega⟩
theorem stP_app {n : Int} {ps qs rs : List Pt} : ∀ k, k ≤ qs.length → stP n ps (qs ++ rs) k = stP n ps qs k
  | 0, _ => rfl
  | k + 1, hk => by
    show stepP _ (stP n ps (qs ++ rs) k) _ = stepP _ (stP n ps qs k) _
    rw [stP_app k (by omega), List.getD_eq_getElem?_getD, List.getD_eq_getElem?_getD, List.getElem?_append_left (by omega)]
theorem Gd.take {n : Int} {ps qs : List Pt} (h : Gd n ps qs) (j : Nat) : Gd n ps (qs.take j) ∧ (∀ k, k ≤ j → k ≤ qs.length → stP n ps (qs.take j) k = stP n ps qs k) := by
  have e : ∀ k, k ≤ j → k ≤ qs.length → stP n ps (qs.take j) k = stP n ps qs k := fun k hk hl => by
    conv => rhs; rw [← List.take_append_drop j qs]
    rw [stP_app]; rw [List.length_take]; omega
  refine ⟨fun k hk => ?_, e⟩
  rw [List.length_take] at hk
  rw [e k (by omega) (by omega), List.getD_eq_getElem?_getD, List.getElem?_take, if_pos (by omega), ← List.getD_eq_getElem?_getD]
  exact h k (by omega)
theorem drP_perm : ∀ {ps : List Pt} {p : Pt}, Nd ps → p ∈ ps → ps.Perm (p :: drP ps p.1)
  | q :: ps, p, hn, hp => by
    have hn : (q.1 :: ps.map Prod.fst).Nodup := hn
    obtain ⟨h1, h2⟩ := List.nodup_cons.mp hn
    rcases List.mem_cons.mp hp with rfl | hp
    · unfold drP
      rw [List.filter_cons, if_neg (by simp), List.filter_eq_self.mpr (fun x hx => decide_eq_true (fun (z : x.1 = _) => h1 (by have := List.mem_map_of_mem (f := Prod.fst) hx; rw [z] at this; exact this)))]
    · have hne : q.1 ≠ p.1 := fun z => h1 (z ▸ List.mem_map_of_mem hp)
      have e : drP (q :: ps) p.1 = q :: drP ps p.1 := by unfold drP; rw [List.filter_cons, if_pos (decide_eq_true hne)]
      rw [e]
      exact ((drP_perm h2 hp).cons q).trans (.swap ..)
theorem drP_comm (ps : List Pt) (a b : Int) : drP (drP ps a) b = drP (drP ps b) a := by
  unfold drP; rw [List.filter_filter, List.filter_filter]
  refine List.filter_congr fun p _ => ?_
  rw [Bool.and_comm]
theorem OkS.swap {ps : List Pt} {a b : Int} (h : OkS ps (a, b)) : OkS ps (b, a) := ⟨fun z => h.ne z.symm, h.m2, h.m1, fun r hr => by
  have := h.le r (by show r ∈ drP (drP ps a) b; rw [drP_comm]; exact hr)
  exact ⟨this.2, this.1⟩⟩
/-- how deep, by the pairs from i on -/
def fD (n : Int) (qs : List Pt) : Nat → Nat → Int → Option Int
  | _, 0 => fun _ => none
  | i, m + 1 => fun k => if k = (qs.getD i (0, 0)).1 ∨ k = (qs.getD i (0, 0)).2 then some ((fD n qs (i + 1) m (n + i)).getD 0 + 1) else fD n qs (i + 1) m k
def lenBy (n : Int) (cs : List Int) (qs : List Pt) : List Int :=
  if qs = [] then cs.map fun c => if 0 < c then 1 else 0 else (List.range cs.length).map fun (s : Nat) => (fD n qs 0 qs.length (s : Int)).getD 0
structure Pap (cs : List Int) (qs : List Pt) (b : Int) : Prop where
  gd : Gd (cs.length : Int) (fpF 0 cs) qs
  len : qs.length = (fpF 0 cs).length - 1
  bits : b = if qs = [] then cs.sum else btP (cs.length : Int) (fpF 0 cs) qs qs.length
def dpt (n : Int) (qs : List Pt) (k : Nat) (x : Int) : Int := (fD n qs k (qs.length - k) x).getD 0
theorem dp_end (n : Int) (qs : List Pt) (x : Int) : dpt n qs qs.length x = 0 := by unfold dpt; rw [Nat.sub_self]; rfl
theorem dp_step {n : Int} {qs : List Pt} {k : Nat} (h : k < qs.length) (x : Int) : dpt n qs k x = if x = (qs.getD k (0, 0)).1 ∨ x = (qs.getD k (0, 0)).2 then dpt n qs (k + 1) (n + k) + 1 else dpt n qs (k + 1) x := by
  unfold dpt
  rw [show qs.length - k = (qs.length - (k + 1)) + 1 by omega]
  show (if x = (qs.getD k (0, 0)).1 ∨ x = (qs.getD k (0, 0)).2 then some ((fD n qs (k + 1) (qs.length - (k + 1)) (n + k)).getD 0 + 1) else fD n qs (k + 1) (qs.length - (k + 1)) x).getD 0 = _
  split <;> rfl
theorem dp_nn (n : Int) (qs : List Pt) : ∀ (j k : Nat), k + j = qs.length → ∀ x, 0 ≤ dpt n qs k x
  | 0, k, h, x => by rw [show k = qs.length by omega, dp_end]; exact Int.le_refl _
  | j + 1, k, h, x => by
    rw [dp_step (by omega)]
    have h1 := dp_nn n qs j (k + 1) (by omega) (n + k)
    have h2 := dp_nn n qs j (k + 1) (by omega) x
    split <;> omega
theorem st_perm {ps : List Pt} {q : Pt} (hn : Nd ps) (hs : OkS ps q) : ps.Perm ((q.1, wt ps q.1) :: (q.2, wt ps q.2) :: drP (drP ps q.1) q.2) := by
  refine (drP_perm hn hs.m1).trans (.cons _ ?_)
  exact drP_perm (p := (q.2, wt ps q.2)) (drP_nd hn) hs.in1
theorem sum_perm {l m : List Int} (h : l.Perm m) : l.sum = m.sum := by
  induction h with
  | nil => rfl
  | cons x _ ih => rw [List.sum_cons, List.sum_cons, ih]
  | swap x y l => rw [List.sum_cons, List.sum_cons, List.sum_cons, List.sum_cons]; omega
  | trans _ _ h1 h2 => exact h1.trans h2
section
variable {n : Int} {ps qs : List Pt} (hpk : Pk n 0 ps) (hg : Gd n ps qs)
include hpk hg
theorem st_next {k : Nat} (h : k < qs.length) : stP n ps qs (k + 1) = drP (drP (stP n ps qs k) (qs.getD k (0, 0)).1) (qs.getD k (0, 0)).2 ++ [(n + k, wt (stP n ps qs k) (qs.getD k (0, 0)).1 + wt (stP n ps qs k) (qs.getD k (0, 0)).2)] := rfl
/-- a sum over the parts, from turn to turn -/
theorem tele {k : Nat} (h : k < qs.length) (f g : Int → Int) (hg1 : g (n + k) = f (qs.getD k (0, 0)).1 + f (qs.getD k (0, 0)).2) (hg2 : ∀ p ∈ drP (drP (stP n ps qs k) (qs.getD k (0, 0)).1) (qs.getD k (0, 0)).2, g p.1 = f p.1) :
    ((stP n ps qs k).map fun p => f p.1 * dpt n qs k p.1).sum = ((stP n ps qs (k + 1)).map fun p => g p.1 * dpt n qs (k + 1) p.1).sum + (f (qs.getD k (0, 0)).1 + f (qs.getD k (0, 0)).2) := by
  obtain ⟨hP, _⟩ := stP_ok hpk hg k (by omega)
  have hs := hg k h
  rw [st_next hpk hg h, sum_perm ((st_perm hP.nd hs).map _), List.map_append, List.sum_append, List.map_cons, List.map_cons, List.sum_cons, List.sum_cons]
  have e1 : dpt n qs k (qs.getD k (0, 0)).1 = dpt n qs (k + 1) (n + k) + 1 := by rw [dp_step h, if_pos (.inl rfl)]
  have e2 : dpt n qs k (qs.getD k (0, 0)).2 = dpt n qs (k + 1) (n + k) + 1 := by rw [dp_step h, if_pos (.inr rfl)]
  have e3 : ((drP (drP (stP n ps qs k) (qs.getD k (0, 0)).1) (qs.getD k (0, 0)).2).map fun p => f p.1 * dpt n qs k p.1) = ((drP (drP (stP n ps qs k) (qs.getD k (0, 0)).1) (qs.getD k (0, 0)).2).map fun p => g p.1 * dpt n qs (k + 1) p.1) := by
    refine List.map_congr_left fun p hp => ?_
    obtain ⟨h1, h2⟩ := drP_mem.mp hp
    obtain ⟨_, h3⟩ := drP_mem.mp h1
    rw [hg2 p hp, dp_step h, if_neg (by rintro (z | z); exact h3 z; exact h2 z)]
  rw [e3]
  show f (qs.getD k (0, 0)).1 * dpt n qs k (qs.getD k (0, 0)).1 + (f (qs.getD k (0, 0)).2 * dpt n qs k (qs.getD k (0, 0)).2 + _) = _ + (g (n + k) * dpt n qs (k + 1) (n + k) + 0) + _
  rw [e1, e2, hg1]
  generalize dpt n qs (k + 1) (n + k) = d
  generalize f (qs.getD k (0, 0)).1 = x
  generalize f (qs.getD k (0, 0)).2 = y
  generalize ((drP (drP (stP n ps qs k) (qs.getD k (0, 0)).1) (qs.getD k (0, 0)).2).map fun p => g p.1 * dpt n qs (k + 1) p.1).sum = z
  rw [Int.mul_add, Int.mul_add, Int.add_mul]; omega
theorem wt_next {k : Nat} (h : k < qs.length) : wt (stP n ps qs (k + 1)) (n + k) = wt (stP n ps qs k) (qs.getD k (0, 0)).1 + wt (stP n ps qs k) (qs.getD k (0, 0)).2 ∧ ∀ p ∈ drP (drP (stP n ps qs k) (qs.getD k (0, 0)).1) (qs.getD k (0, 0)).2, wt (stP n ps qs (k + 1)) p.1 = wt (stP n ps qs k) p.1 := by
  obtain ⟨hP, _⟩ := stP_ok hpk hg k (by omega)
  obtain ⟨hP', _⟩ := stP_ok hpk hg (k + 1) (by omega)
  refine ⟨wt_mem (p := (n + (k : Int), _)) hP'.nd (by rw [st_next hpk hg h]; exact List.mem_append_right _ (List.mem_singleton.mpr rfl)), fun p hp => ?_⟩
  rw [wt_mem hP'.nd (show p ∈ stP n ps qs (k + 1) by rw [st_next hpk hg h]; exact List.mem_append_left _ hp), wt_mem hP.nd (drP_mem.mp (drP_mem.mp hp).1).1]
theorem sumW : ∀ (j k : Nat), k + j = qs.length → ((stP n ps qs k).map fun p => wt (stP n ps qs k) p.1 * dpt n qs k p.1).sum = btP n ps qs qs.length - btP n ps qs k
  | 0, k, h => by
    have : k = qs.length := by omega
    subst this
    have : ((stP n ps qs qs.length).map fun p => wt (stP n ps qs qs.length) p.1 * dpt n qs qs.length p.1).sum = 0 := by
      rw [show ((stP n ps qs qs.length).map fun p => wt (stP n ps qs qs.length) p.1 * dpt n qs qs.length p.1) = (stP n ps qs qs.length).map fun _ => 0 from List.map_congr_left fun p _ => by rw [dp_end, Int.mul_zero]]
      induction stP n ps qs qs.length with
      | nil => rfl
      | cons _ _ ih => rw [List.map_cons, List.sum_cons, ih]; rfl
    omega
  | j + 1, k, h => by
    have hk : k < qs.length := by omega
    obtain ⟨w1, w2⟩ := wt_next hpk hg hk
    rw [tele hpk hg hk (wt (stP n ps qs k)) (wt (stP n ps qs (k + 1))) w1 w2, sumW j (k + 1) (by omega)]
    show _ - (btP n ps qs k + (_ + _)) + _ = _
    omega
/-- the bits are the sum of weights by depths -/
theorem bits_sum : (ps.map fun p => p.2 * dpt n qs 0 p.1).sum = btP n ps qs qs.length := by
  have := sumW hpk hg qs.length 0 (by omega)
  rw [show btP n ps qs 0 = 0 from rfl, Int.sub_zero] at this
  rw [← this]
  congr 1
  exact List.map_congr_left fun p hp => by rw [show stP n ps qs 0 = ps from rfl, wt_mem hpk.nd hp]
/-- all the weights together stay -/
theorem sum_st : ∀ k, k ≤ qs.length → ((stP n ps qs k).map Prod.snd).sum = (ps.map Prod.snd).sum
  | 0, _ => rfl
  | k + 1, h => by
    obtain ⟨hP, _⟩ := stP_ok hpk hg k (by omega)
    rw [← sum_st k (by omega), sum_perm ((st_perm hP.nd (hg k (by omega))).map Prod.snd), st_next hpk hg (by omega), List.map_append, List.sum_append, List.map_cons, List.map_cons, List.sum_cons, List.sum_cons]
    simp only [List.map_cons, List.map_nil, List.sum_cons, List.sum_nil]
    omega
end
def fib : Nat → Int
  | 0 => 0
  | 1 => 1
  | n + 2 => fib (n + 1) + fib n
theorem fib_nn : ∀ n, 0 ≤ fib n ∧ 0 ≤ fib (n + 1)
  | 0 => ⟨by decide, by decide⟩
  | n + 1 => by
    obtain ⟨h1, h2⟩ := fib_nn n
    refine ⟨h2, ?_⟩
    show 0 ≤ fib (n + 1) + fib n
    omega
theorem fib_mono1 : ∀ n, fib (n + 1) ≤ fib (n + 2) := fun n => by
  have := (fib_nn n).1
  show fib (n + 1) ≤ fib (n + 1) + fib n
  omega
theorem fib_mono {a b : Nat} (h : a ≤ b) : fib (a + 1) ≤ fib (b + 1) := by
  induction b with
  | zero => rw [show a = 0 by omega]; exact Int.le_refl _
  | succ b ih =>
    by_cases q : a ≤ b
    · exact Int.le_trans (ih q) (fib_mono1 b)
    · rw [show a = b + 1 by omega]; exact Int.le_refl _
/-- how high a part is -/
def hgt (n : Int) (qs : List Pt) : Nat → Int → Nat
  | 0, _ => 0
  | k + 1, x => if x = n + k then 1 + max (hgt n qs k (qs.getD k (0, 0)).1) (hgt n qs k (qs.getD k (0, 0)).2) else hgt n qs k x
section
variable {n : Int} {ps qs : List Pt} (hpk : Pk n 0 ps) (hg : Gd n ps qs)
include hpk hg
theorem hgt_rest {k : Nat} (h : k < qs.length) {p : Pt} (hp : p ∈ stP n ps qs k) : hgt n qs (k + 1) p.1 = hgt n qs k p.1 := by
  obtain ⟨hP, _⟩ := stP_ok hpk hg k (by omega)
  have := hP.lt p hp
  show (if p.1 = n + k then _ else _) = _
  rw [if_neg (by omega)]
theorem hgt_new {k : Nat} : hgt n qs (k + 1) (n + k) = 1 + max (hgt n qs k (qs.getD k (0, 0)).1) (hgt n qs k (qs.getD k (0, 0)).2) := by
  show (if n + (k : Int) = n + k then _ else _) = _
  rw [if_pos rfl]
theorem fibs (hw : ∀ p ∈ ps, 1 ≤ p.2) : ∀ k, k ≤ qs.length → ∀ p ∈ stP n ps qs k, fib (hgt n qs k p.1 + 2) ≤ p.2 ∧ ∀ r ∈ stP n ps qs k, r.1 ≠ p.1 → fib (hgt n qs k p.1 + 1) ≤ r.2
  | 0, _, p, hp => ⟨hw p hp, fun r hr _ => hw r hr⟩
  | k + 1, h, p, hp => by
    have ih := fibs hw k (by omega)
    obtain ⟨hP, _⟩ := stP_ok hpk hg k (by omega)
    have hs := hg k (by omega)
    have hi : ∀ r ∈ drP (drP (stP n ps qs k) (qs.getD k (0, 0)).1) (qs.getD k (0, 0)).2, r ∈ stP n ps qs k := fun r hr => (drP_mem.mp (drP_mem.mp hr).1).1
    have hlt : ∀ r ∈ stP n ps qs k, r.1 < n + k := hP.lt
    have hrest : ∀ r ∈ stP n ps qs k, hgt n qs (k + 1) r.1 = hgt n qs k r.1 := fun r hr => hgt_rest hpk hg (by omega) hr
    have hnew := hgt_new (k := k) hpk hg
    have ia : fib (hgt n qs k (qs.getD k (0, 0)).1 + 2) ≤ wt (stP n ps qs k) (qs.getD k (0, 0)).1 := (ih _ hs.m1).1
    have ja : fib (hgt n qs k (qs.getD k (0, 0)).2 + 2) ≤ wt (stP n ps qs k) (qs.getD k (0, 0)).2 := (ih _ hs.m2).1
    have iab : fib (hgt n qs k (qs.getD k (0, 0)).1 + 1) ≤ wt (stP n ps qs k) (qs.getD k (0, 0)).2 := (ih _ hs.m1).2 _ hs.m2 (fun z => hs.ne z.symm)
    have jab : fib (hgt n qs k (qs.getD k (0, 0)).2 + 1) ≤ wt (stP n ps qs k) (qs.getD k (0, 0)).1 := (ih _ hs.m2).2 _ hs.m1 hs.ne
    have hle := hs.le
    rw [st_next hpk hg (by omega)] at hp
    have hmem : ∀ r ∈ stP n ps qs (k + 1), r ∈ drP (drP (stP n ps qs k) (qs.getD k (0, 0)).1) (qs.getD k (0, 0)).2 ∨ r = (n + (k : Int), wt (stP n ps qs k) (qs.getD k (0, 0)).1 + wt (stP n ps qs k) (qs.getD k (0, 0)).2) := fun r hr => by
      rw [st_next hpk hg (by omega)] at hr
      rcases List.mem_append.mp hr with hr | hr
      · exact .inl hr
      · exact .inr (List.mem_singleton.mp hr)
    have f1 : fib (hgt n qs k (qs.getD k (0, 0)).1 + 3) = fib (hgt n qs k (qs.getD k (0, 0)).1 + 2) + fib (hgt n qs k (qs.getD k (0, 0)).1 + 1) := rfl
    have f2 : fib (hgt n qs k (qs.getD k (0, 0)).2 + 3) = fib (hgt n qs k (qs.getD k (0, 0)).2 + 2) + fib (hgt n qs k (qs.getD k (0, 0)).2 + 1) := rfl
    rcases List.mem_append.mp hp with hp | hp
    · rw [hrest p (hi p hp)]
      obtain ⟨h1, h2⟩ := ih p (hi p hp)
      refine ⟨h1, fun r hr hne => ?_⟩
      rcases hmem r hr with hr | rfl
      · exact h2 r (hi r hr) hne
      · have h3 : fib (hgt n qs k p.1 + 1) ≤ wt (stP n ps qs k) (qs.getD k (0, 0)).1 := h2 _ hs.m1 (fun z => (drP_mem.mp (drP_mem.mp hp).1).2 z.symm)
        have h5 := (fib_nn (hgt n qs k (qs.getD k (0, 0)).2 + 2)).1
        show _ ≤ wt (stP n ps qs k) (qs.getD k (0, 0)).1 + wt (stP n ps qs k) (qs.getD k (0, 0)).2
        omega
    · rw [List.mem_singleton.mp hp]
      show fib (hgt n qs (k + 1) (n + k) + 2) ≤ wt (stP n ps qs k) (qs.getD k (0, 0)).1 + wt (stP n ps qs k) (qs.getD k (0, 0)).2 ∧ ∀ r ∈ stP n ps qs (k + 1), r.1 ≠ n + k → fib (hgt n qs (k + 1) (n + k) + 1) ≤ r.2
      rw [hnew]
      by_cases hc : hgt n qs k (qs.getD k (0, 0)).2 ≤ hgt n qs k (qs.getD k (0, 0)).1
      · rw [Nat.max_eq_left hc, show 1 + hgt n qs k (qs.getD k (0, 0)).1 + 2 = hgt n qs k (qs.getD k (0, 0)).1 + 3 by omega, show 1 + hgt n qs k (qs.getD k (0, 0)).1 + 1 = hgt n qs k (qs.getD k (0, 0)).1 + 2 by omega]
        refine ⟨by omega, fun r hr hne => ?_⟩
        rcases hmem r hr with hr | rfl
        · have := hle r hr; omega
        · exact absurd rfl hne
      · rw [Nat.max_eq_right (by omega), show 1 + hgt n qs k (qs.getD k (0, 0)).2 + 2 = hgt n qs k (qs.getD k (0, 0)).2 + 3 by omega, show 1 + hgt n qs k (qs.getD k (0, 0)).2 + 1 = hgt n qs k (qs.getD k (0, 0)).2 + 2 by omega]
        refine ⟨by omega, fun r hr hne => ?_⟩
        rcases hmem r hr with hr | rfl
        · have := hle r hr; omega
        · exact absurd rfl hne
theorem dp_hgt (B : Nat) (hB : ∀ p ∈ stP n ps qs qs.length, hgt n qs qs.length p.1 ≤ B) : ∀ (j k : Nat), k + j = qs.length → ∀ p ∈ stP n ps qs k, dpt n qs k p.1 + hgt n qs k p.1 ≤ B
  | 0, k, h, p, hp => by
    have : k = qs.length := by omega
    subst this
    rw [dp_end]
    have := hB p hp
    omega
  | j + 1, k, h, p, hp => by
    have hk : k < qs.length := by omega
    have ih := dp_hgt B hB j (k + 1) (by omega)
    have hnew := hgt_new (k := k) hpk hg
    have hn := ih (n + k, _) (by rw [st_next hpk hg hk]; exact List.mem_append_right _ (List.mem_singleton.mpr rfl))
    have hn : dpt n qs (k + 1) (n + k) + hgt n qs (k + 1) (n + k) ≤ B := hn
    rw [hnew] at hn
    rw [dp_step hk]
    by_cases h1 : p.1 = (qs.getD k (0, 0)).1
    · rw [if_pos (.inl h1), h1]; omega
    · by_cases h2 : p.1 = (qs.getD k (0, 0)).2
      · rw [if_pos (.inr h2), h2]; omega
      · rw [if_neg (by rintro (z | z); exact h1 z; exact h2 z)]
        have := ih p (by rw [st_next hpk hg hk]; exact List.mem_append_left _ (drP_mem.mpr ⟨drP_mem.mpr ⟨hp, h1⟩, h2⟩))
        rw [hgt_rest hpk hg hk hp] at this
        exact this
/-- no depth above 14 -/
theorem hgt_14 (hw : ∀ p ∈ ps, 1 ≤ p.2) (hsum : (ps.map Prod.snd).sum ≤ 1000) : ∀ p ∈ stP n ps qs qs.length, hgt n qs qs.length p.1 ≤ 14 := fun r hr => by
    have h1 := (fibs hpk hg hw qs.length (Nat.le_refl _) r hr).1
    have h2 := sum_st hpk hg qs.length (Nat.le_refl _)
    obtain ⟨hP, _⟩ := stP_ok hpk hg qs.length (Nat.le_refl _)
    have h3 : r.2 ≤ ((stP n ps qs qs.length).map Prod.snd).sum := by
      have hge : ∀ x ∈ (stP n ps qs qs.length).map Prod.snd, 0 ≤ x := fun x hx => by
        obtain ⟨y, hy, rfl⟩ := List.mem_map.mp hx
        exact hP.ge y hy
      have hm : r.2 ∈ (stP n ps qs qs.length).map Prod.snd := List.mem_map_of_mem hr
      generalize (stP n ps qs qs.length).map Prod.snd = l at hge hm
      induction l with
      | nil => cases hm
      | cons x l ih =>
        rw [List.sum_cons]
        have hx := hge x (List.mem_cons_self ..)
        have hs : 0 ≤ l.sum := by
          clear ih hm
          induction l with
          | nil => exact Int.le_refl _
          | cons y l ih =>
            rw [List.sum_cons]
            have h1 := hge y (List.mem_cons_of_mem _ (List.mem_cons_self ..))
            have h2 := ih fun z hz => by
              rcases List.mem_cons.mp hz with rfl | hz
              · exact hx
              · exact hge z (List.mem_cons_of_mem _ (List.mem_cons_of_mem _ hz))
            omega
        rcases List.mem_cons.mp hm with e | hm
        · omega
        · have := ih (fun z hz => hge z (List.mem_cons_of_mem _ hz)) hm
          omega
    by_cases hc : hgt n qs qs.length r.1 ≤ 14
    · exact hc
    · have h4 := fib_mono (a := 16) (b := hgt n qs qs.length r.1 + 1) (by omega)
      have h5 : fib (16 + 1) = 1597 := by decide +kernel
      have h6 : fib (hgt n qs qs.length r.1 + 1 + 1) = fib (hgt n qs qs.length r.1 + 2) := rfl
      omega
/-- the room that the words take -/
theorem kraft (hw : ∀ k, k ≤ qs.length → ∀ p ∈ stP n ps qs k, dpt n qs k p.1 ≤ 15) : ∀ (j k : Nat), k + j = qs.length → ((stP n ps qs k).map fun p => (2 : Int) ^ (15 - dpt n qs k p.1).toNat).sum = ((stP n ps qs qs.length).map fun _ => (2 : Int) ^ 15).sum
  | 0, k, h => by
    have : k = qs.length := by omega
    subst this
    congr 1
    exact List.map_congr_left fun p _ => by rw [dp_end]; rfl
  | j + 1, k, h => by
    have hk : k < qs.length := by omega
    have ih := kraft hw j (k + 1) (by omega)
    rw [← ih]
    obtain ⟨hP, _⟩ := stP_ok hpk hg k (by omega)
    have hs := hg k hk
    have hb := hw k (by omega) _ hs.m1
    have hnn := dp_nn n qs j (k + 1) (by omega) (n + k)
    rw [st_next hpk hg hk, sum_perm ((st_perm hP.nd hs).map _), List.map_append, List.sum_append, List.map_cons, List.map_cons, List.sum_cons, List.sum_cons]
    have e1 : dpt n qs k (qs.getD k (0, 0)).1 = dpt n qs (k + 1) (n + k) + 1 := by rw [dp_step hk, if_pos (.inl rfl)]
    have e2 : dpt n qs k (qs.getD k (0, 0)).2 = dpt n qs (k + 1) (n + k) + 1 := by rw [dp_step hk, if_pos (.inr rfl)]
    have e3 : ((drP (drP (stP n ps qs k) (qs.getD k (0, 0)).1) (qs.getD k (0, 0)).2).map fun p => (2 : Int) ^ (15 - dpt n qs k p.1).toNat) = ((drP (drP (stP n ps qs k) (qs.getD k (0, 0)).1) (qs.getD k (0, 0)).2).map fun p => (2 : Int) ^ (15 - dpt n qs (k + 1) p.1).toNat) := by
      refine List.map_congr_left fun p hp => ?_
      obtain ⟨h1, h2⟩ := drP_mem.mp hp
      obtain ⟨_, h3⟩ := drP_mem.mp h1
      rw [dp_step hk, if_neg (by rintro (z | z); exact h3 z; exact h2 z)]
    have hb : dpt n qs k (qs.getD k (0, 0)).1 ≤ 15 := hb
    rw [e1] at hb
    rw [e3]
    simp only [List.map_cons, List.map_nil, List.sum_cons, List.sum_nil]
    rw [e1, e2]
    have e4 : (15 - dpt n qs (k + 1) (n + k)).toNat = (15 - (dpt n qs (k + 1) (n + k) + 1)).toNat + 1 := by omega
    rw [e4, Int.pow_succ]
    omega
end
theorem ord_perm (a b : Int) (R : List Int) : (min a b :: max a b :: R).Perm (a :: b :: R) := by
  by_cases h : a ≤ b
  · rw [show min a b = a by omega, show max a b = b by omega]
  · rw [show min a b = b by omega, show max a b = a by omega]; exact .swap ..
theorem paper_get {n : Int} {ps : List Pt} {k : Nat} (h : k < ps.length - 1) : (paper n ps).getD k (0, 0) = pairAt n ps k := by
  unfold paper
  rw [List.getD_eq_getElem?_getD, List.getElem?_map, List.getElem?_range h]; rfl
theorem paper_len (n : Int) (ps : List Pt) : (paper n ps).length = ps.length - 1 := by unfold paper; rw [List.length_map, List.length_range]
theorem paper_st {n : Int} {ps : List Pt} (hpk : Pk n 0 ps) : ∀ k, k ≤ ps.length - 1 → stP n ps (paper n ps) k = stF n ps k
  | 0, _ => rfl
  | k + 1, h => by
    obtain ⟨hP, hl⟩ := stF_ok hpk k (by omega)
    show stepP (n + k) (stP n ps (paper n ps) k) ((paper n ps).getD k (0, 0)) = nxt (n + k) (stF n ps k)
    rw [paper_st hpk k (by omega), paper_get (by omega)]
    have h1 := one_mem (ps := stF n ps k) (by omega)
    have h2 := oth_in hP.nd (by omega)
    show drP (drP (stF n ps k) (one (stF n ps k)).1) (oth (stF n ps k)).1 ++ [(n + (k : Int), wt (stF n ps k) (one (stF n ps k)).1 + wt (stF n ps k) (oth (stF n ps k)).1)] = rst (stF n ps k) ++ [(n + k, (one (stF n ps k)).2 + (oth (stF n ps k)).2)]
    rw [wt_mem hP.nd h1, wt_mem hP.nd h2]; rfl
theorem paper_gd {n : Int} {ps : List Pt} (hpk : Pk n 0 ps) : Gd n ps (paper n ps) := fun k hk => by
  rw [paper_len] at hk
  obtain ⟨hP, hl⟩ := stF_ok hpk k (by omega)
  rw [paper_st hpk k (by omega), paper_get hk]
  have h1 := one_mem (ps := stF n ps k) (by omega)
  have h2 := oth_in hP.nd (by omega)
  have e1 := wt_mem hP.nd h1
  have e2 := wt_mem hP.nd h2
  refine ⟨fun z => oth_ne hP.nd (by omega) z.symm, ?_, ?_, fun r hr => ?_⟩
  · show ((one (stF n ps k)).1, wt (stF n ps k) (one (stF n ps k)).1) ∈ _; rw [e1]; exact h1
  · show ((oth (stF n ps k)).1, wt (stF n ps k) (oth (stF n ps k)).1) ∈ _; rw [e2]; exact h2
  · have := rst_ge hP.nd (by omega) r hr
    show wt (stF n ps k) (one (stF n ps k)).1 ≤ r.2 ∧ wt (stF n ps k) (oth (stF n ps k)).1 ≤ r.2
    rw [e1, e2]; exact this
theorem dp_out {n : Int} {ps qs : List Pt} (hpk : Pk n 0 ps) (hg : Gd n ps qs) : ∀ (j k : Nat), k + j = qs.length → ∀ x, x < n + k → (∀ p ∈ stP n ps qs k, p.1 ≠ x) → dpt n qs k x = 0
  | 0, k, h, x, _, _ => by rw [show k = qs.length by omega, dp_end]
  | j + 1, k, h, x, hx, ho => by
    have hk : k < qs.length := by omega
    have hs := hg k hk
    have h1 := ho _ hs.m1
    have h2 := ho _ hs.m2
    rw [dp_step hk, if_neg (by rintro (z | z); exact h1 z.symm; exact h2 z.symm)]
    refine dp_out hpk hg j (k + 1) (by omega) x (by push_cast; omega) fun p hp => ?_
    rw [st_next hpk hg hk] at hp
    rcases List.mem_append.mp hp with hp | hp
    · exact ho p (drP_mem.mp (drP_mem.mp hp).1).1
    · rw [List.mem_singleton.mp hp]; show n + (k : Int) ≠ x; omega
def rmL (ls : List Int) : Int := ((ls.filter fun l => decide (0 < l)).map fun l => (2 : Int) ^ (15 - l).toNat).sum
def dotL : List Int → List Int → Int
  | c :: cs, l :: ls => c * l + dotL cs ls
  | _, _ => 0
theorem rng_shift (F : Int → Int) (m : Nat) (k : Int) : (List.range (m + 1)).map (fun (s : Nat) => F (k + s)) = F k :: (List.range m).map fun (s : Nat) => F (k + 1 + s) := by
  rw [List.range_succ_eq_map, List.map_cons, List.map_map]
  congr 1
  · show F (k + ((0 : Nat) : Int)) = F k; rw [show k + ((0 : Nat) : Int) = k by omega]
  · refine List.map_congr_left fun s _ => ?_
    show F (k + ((s + 1 : Nat) : Int)) = _
    rw [show k + ((s + 1 : Nat) : Int) = k + 1 + s by omega]
theorem dot_fp (F : Int → Int) : ∀ (cs : List Int) (k : Int), (∀ c ∈ cs, 0 ≤ c) → dotL cs ((List.range cs.length).map fun (s : Nat) => F (k + s)) = ((fpF k cs).map fun p => p.2 * F p.1).sum
  | [], _, _ => rfl
  | c :: cs, k, h => by
    rw [List.length_cons, rng_shift]
    show c * F k + dotL cs _ = _
    rw [dot_fp F cs (k + 1) fun x hx => h x (List.mem_cons_of_mem _ hx)]
    have e : fpF k (c :: cs) = if 0 < c then (k, c) :: fpF (k + 1) cs else fpF (k + 1) cs := rfl
    rw [e]
    have hc := h c (List.mem_cons_self ..)
    split
    · rw [List.map_cons, List.sum_cons]
    · rw [show c = 0 by omega]; omega
theorem rm_fp (F : Int → Int) : ∀ (cs : List Int) (k : Int), (∀ i, i < cs.length → (0 < cs.getD i 0 ↔ 0 < F (k + (i : Nat)))) → rmL ((List.range cs.length).map fun (s : Nat) => F (k + s)) = ((fpF k cs).map fun p => (2 : Int) ^ (15 - F p.1).toNat).sum
  | [], _, _ => rfl
  | c :: cs, k, h => by
    rw [List.length_cons, rng_shift]
    have ih := rm_fp F cs (k + 1) fun i hi => by
      have := h (i + 1) (by rw [List.length_cons]; omega)
      rw [show k + ((i + 1 : Nat) : Int) = k + 1 + (i : Nat) by omega] at this
      exact this
    have h0 := h 0 (by rw [List.length_cons]; omega)
    rw [show k + ((0 : Nat) : Int) = k by omega] at h0
    have h0 : 0 < c ↔ 0 < F k := h0
    have e : fpF k (c :: cs) = if 0 < c then (k, c) :: fpF (k + 1) cs else fpF (k + 1) cs := rfl
    unfold rmL at ih ⊢
    rw [e, List.filter_cons]
    by_cases hc : 0 < c
    · rw [if_pos hc, if_pos (decide_eq_true (h0.mp hc)), List.map_cons, List.map_cons, List.sum_cons, List.sum_cons, ih]
    · rw [if_neg hc, if_neg (fun z => hc (h0.mpr (of_decide_eq_true z))), ih]
structure Lns (cs ls : List Int) (b : Int) : Prop where
  len : ls.length = cs.length
  bd : ∀ l ∈ ls, 0 ≤ l ∧ l ≤ 14
  has : ∀ i, i < cs.length → 0 < cs.getD i 0 → 0 < ls.getD i 0
  room : rmL ls ≤ 32768
  dot : dotL cs ls = b
theorem fpF_key : ∀ (cs : List Int) (k : Int) (i : Nat), i < cs.length → 0 < cs.getD i 0 → (k + (i : Nat), cs.getD i 0) ∈ fpF k cs
  | [], _, _, h, _ => by cases h
  | c :: cs, k, 0, _, h => by
    have h : 0 < c := h
    show (k + ((0 : Nat) : Int), c) ∈ if 0 < c then (k, c) :: fpF (k + 1) cs else fpF (k + 1) cs
    rw [if_pos h, show k + ((0 : Nat) : Int) = k by omega]; exact List.mem_cons_self ..
  | c :: cs, k, i + 1, hi, h => by
    have := fpF_key cs (k + 1) i (by rw [List.length_cons] at hi; omega) h
    rw [show k + 1 + (i : Nat) = k + ((i + 1 : Nat) : Int) by omega] at this
    show (_, cs.getD i 0) ∈ if 0 < c then (k, c) :: fpF (k + 1) cs else fpF (k + 1) cs
    split
    · exact List.mem_cons_of_mem _ this
    · exact this
theorem fpF_val {cs : List Int} {k : Int} {i : Nat} {w : Int} (hi : i < cs.length) (h : (k + (i : Nat), w) ∈ fpF k cs) : 0 < cs.getD i 0 := by
  induction cs generalizing k i with
  | nil => cases hi
  | cons c cs ih =>
    have e : fpF k (c :: cs) = if 0 < c then (k, c) :: fpF (k + 1) cs else fpF (k + 1) cs := rfl
    rw [e] at h
    cases i with
    | zero =>
      by_cases hc : 0 < c
      · exact hc
      · rw [if_neg hc] at h
        have := (fpF_mem h).1
        have this : k + 1 ≤ k + ((0 : Nat) : Int) := this
        omega
    | succ i =>
      have h' : (k + 1 + (i : Nat), w) ∈ fpF (k + 1) cs := by
        rw [show k + 1 + (i : Nat) = k + ((i + 1 : Nat) : Int) by omega]
        by_cases hc : 0 < c
        · rw [if_pos hc] at h
          rcases List.mem_cons.mp h with e | h
          · have : k + ((i + 1 : Nat) : Int) = k := congrArg Prod.fst e
            omega
          · exact h
        · rw [if_neg hc] at h; exact h
      exact ih (by rw [List.length_cons] at hi; omega) h'
theorem fp_sum : ∀ (cs : List Int) (k : Int), (∀ c ∈ cs, 0 ≤ c) → ((fpF k cs).map Prod.snd).sum = cs.sum
  | [], _, _ => rfl
  | c :: cs, k, h => by
    have e : fpF k (c :: cs) = if 0 < c then (k, c) :: fpF (k + 1) cs else fpF (k + 1) cs := rfl
    have hc := h c (List.mem_cons_self ..)
    rw [e, List.sum_cons, ← fp_sum cs (k + 1) fun x hx => h x (List.mem_cons_of_mem _ hx)]
    split
    · rw [List.map_cons, List.sum_cons]
    · omega
theorem pow_pos15 (n : Nat) : 0 < (2 : Int) ^ n := Int.pow_pos (by decide)
theorem psum_nn : ∀ (l : List Pt) (f : Pt → Nat), 0 ≤ (l.map fun p => (2 : Int) ^ f p).sum
  | [], _ => Int.le_refl _
  | p :: l, f => by rw [List.map_cons, List.sum_cons]; have := pow_pos15 (f p); have := psum_nn l f; omega
theorem psum_mem {l : List Pt} {f : Pt → Nat} {p q : Pt} (hp : p ∈ l) (hq : q ∈ l) (hne : p ≠ q) : (2 : Int) ^ f p < (l.map fun p => (2 : Int) ^ f p).sum := by
  induction l with
  | nil => cases hp
  | cons x l ih =>
    rw [List.map_cons, List.sum_cons]
    have h1 := pow_pos15 (f x)
    have h2 := psum_nn l f
    have hpos : ∀ {y : Pt}, y ∈ l → 0 < (l.map fun p => (2 : Int) ^ f p).sum := fun {y} hy => by
      clear ih hp hq
      induction l with
      | nil => cases hy
      | cons z l ih =>
        rw [List.map_cons, List.sum_cons]
        have := pow_pos15 (f z); have := psum_nn l f; omega
    have hle : ∀ {y : Pt}, y ∈ l → (2 : Int) ^ f y ≤ (l.map fun p => (2 : Int) ^ f p).sum := fun {y} hy => by
      clear ih hp hq hpos
      induction l with
      | nil => cases hy
      | cons z l ih =>
        rw [List.map_cons, List.sum_cons]
        have := pow_pos15 (f z); have h3 := psum_nn l f
        rcases List.mem_cons.mp hy with rfl | hy
        · omega
        · have := ih h3 hy; omega
    rcases List.mem_cons.mp hp with rfl | hp
    · rcases List.mem_cons.mp hq with rfl | hq
      · exact absurd rfl hne
      · have := hpos hq; omega
    · have := hle hp; omega
theorem wants {cs : List Int} (hc : Cts cs) : (∀ p ∈ fpF 0 cs, 1 ≤ p.2) ∧ ((fpF 0 cs).map Prod.snd).sum ≤ 1000 := ⟨fun p hp => by have := (fpF_mem hp).2.2; omega, by rw [fp_sum cs 0 fun c h => (hc.bd c h).1]; exact hc.sum⟩
theorem lens_of {cs : List Int} (hc : Cts cs) {qs : List Pt} {b : Int} (hp : Pap cs qs b) : Lns cs (lenBy (cs.length : Int) cs qs) b := by
  have hpk := fpF_pk cs
  have hnn : ∀ c ∈ cs, 0 ≤ c := fun c h => (hc.bd c h).1
  obtain ⟨hw, hsum⟩ := wants hc
  have hb := hp.bits
  have hl := hp.len
  unfold lenBy
  by_cases hq : qs = []
  · rw [if_pos hq] at hb ⊢
    subst hb
    have hfl : (fpF 0 cs).length ≤ 1 := by rw [hq] at hl; have hl : 0 = (fpF 0 cs).length - 1 := hl; omega
    have e : (cs.map fun c => if 0 < c then (1 : Int) else 0) = (List.range cs.length).map fun (s : Nat) => (fun x : Int => if 0 < cs.getD x.toNat 0 then (1 : Int) else 0) (0 + s) := by
      refine List.ext_getElem (by simp) fun i h1 h2 => ?_
      have hi : i < cs.length := by simpa using h1
      simp only [List.getElem_map, List.getElem_range]
      rw [show (0 + (i : Int)).toNat = i by omega, List.getD_eq_getElem?_getD, List.getElem?_eq_getElem hi]; rfl
    refine ⟨by rw [List.length_map], fun l h => ?_, fun i hi h => ?_, ?_, ?_⟩
    · obtain ⟨c, _, rfl⟩ := List.mem_map.mp h
      show 0 ≤ (if 0 < c then (1 : Int) else 0) ∧ (if 0 < c then (1 : Int) else 0) ≤ 14
      split <;> omega
    · rw [List.getD_eq_getElem?_getD, List.getElem?_eq_getElem hi] at h
      rw [List.getD_eq_getElem?_getD, List.getElem?_map, List.getElem?_eq_getElem hi]
      have h : 0 < cs[i] := h
      show 0 < (if 0 < cs[i] then (1 : Int) else 0)
      rw [if_pos h]; decide
    · rw [e, rm_fp (fun x : Int => if 0 < cs.getD x.toNat 0 then (1 : Int) else 0) cs 0 (fun i hi => by
        rw [show (0 + (i : Int)).toNat = i by omega]
        by_cases h : 0 < cs.getD i 0
        · rw [if_pos h]; exact ⟨fun _ => by decide, fun _ => h⟩
        · rw [if_neg h]; exact ⟨fun z => absurd z h, fun z => by cases z⟩)]
      match hf : fpF 0 cs with
      | [] => show (0 : Int) ≤ _; decide
      | [p] =>
        have hpm := fpF_mem (cs := cs) (k := 0) (p := p) (by rw [hf]; exact List.mem_cons_self ..)
        have : 0 < cs.getD p.1.toNat 0 := by
          refine fpF_val (k := 0) (w := p.2) (by omega) ?_
          rw [show (0 : Int) + (p.1.toNat : Nat) = p.1 by omega, hf]; exact List.mem_cons_self ..
        show (2 : Int) ^ (15 - (if 0 < cs.getD p.1.toNat 0 then (1 : Int) else 0)).toNat + 0 ≤ 32768
        rw [if_pos this]; decide
      | _ :: _ :: _ => rw [hf] at hfl; simp at hfl
    · clear e hw hsum hpk hl hfl hp
      induction cs with
      | nil => rfl
      | cons c cs ih =>
        show c * (if 0 < c then 1 else 0) + dotL cs (cs.map fun c => if 0 < c then 1 else 0) = _
        have h1 : dotL cs (cs.map fun c => if 0 < c then 1 else 0) = cs.sum := by
          clear ih hc
          induction cs with
          | nil => rfl
          | cons d cs ih =>
            show d * (if 0 < d then 1 else 0) + dotL cs (cs.map fun c => if 0 < c then 1 else 0) = _
            rw [ih fun x hx => by
              rcases List.mem_cons.mp hx with rfl | hx
              · exact hnn x (List.mem_cons_self ..)
              · exact hnn x (List.mem_cons_of_mem _ (List.mem_cons_of_mem _ hx)), List.sum_cons]
            have := hnn d (List.mem_cons_of_mem _ (List.mem_cons_self ..))
            split <;> omega
        rw [h1, List.sum_cons]
        have := hnn c (List.mem_cons_self ..)
        split <;> omega
  · rw [if_neg hq] at hb ⊢
    have hq0 : 0 < qs.length := List.length_pos_iff.mpr hq
    have e : ((List.range cs.length).map fun (s : Nat) => (fD (cs.length : Int) qs 0 qs.length (s : Int)).getD 0) = (List.range cs.length).map fun (s : Nat) => dpt (cs.length : Int) qs 0 (0 + s) := by
      refine List.map_congr_left fun s _ => ?_
      unfold dpt; rw [Nat.sub_zero, Int.zero_add]
    rw [e]
    have hB : ∀ k, k ≤ qs.length → ∀ p ∈ stP (cs.length : Int) (fpF 0 cs) qs k, dpt (cs.length : Int) qs k p.1 ≤ 14 := fun k hk p hpm => by
      have hB : ∀ p ∈ stP (cs.length : Int) (fpF 0 cs) qs qs.length, hgt (cs.length : Int) qs qs.length p.1 ≤ 14 := hgt_14 hpk hp.gd hw hsum
      have := dp_hgt hpk hp.gd 14 hB (qs.length - k) k (by omega) p hpm
      omega
    have hout : ∀ x : Int, 0 ≤ x → x < cs.length → (∀ p ∈ fpF 0 cs, p.1 ≠ x) → dpt (cs.length : Int) qs 0 x = 0 := fun x h0 h1 h2 => dp_out hpk hp.gd qs.length 0 (by omega) x (by push_cast; omega) h2
    have hst := (stP_ok hpk hp.gd qs.length (Nat.le_refl _)).2
    have hkr := kraft hpk hp.gd (fun k hk p hpm => by have := hB k hk p hpm; omega) qs.length 0 (by omega)
    have h1 : (stP (cs.length : Int) (fpF 0 cs) qs qs.length).length = 1 := by omega
    rw [show ((stP (cs.length : Int) (fpF 0 cs) qs qs.length).map fun _ => (2 : Int) ^ 15).sum = 32768 by
      match stP (cs.length : Int) (fpF 0 cs) qs qs.length, h1 with
      | [_], _ => rfl] at hkr
    have hpos : ∀ p ∈ fpF 0 cs, 0 < dpt (cs.length : Int) qs 0 p.1 := fun p hpm => by
      have hn0 := dp_nn (cs.length : Int) qs qs.length 0 (by omega) p.1
      by_cases hz : dpt (cs.length : Int) qs 0 p.1 = 0
      · have hl2 : 2 ≤ (fpF 0 cs).length := by omega
        obtain ⟨q, hqm, hne⟩ : ∃ q ∈ fpF 0 cs, p ≠ q := by
          have hnd : ((fpF 0 cs).map Prod.fst).Nodup := fpF_nd cs 0
          match hf : fpF 0 cs, hl2 with
          | a :: b :: _, _ =>
            rw [hf] at hnd hpm
            by_cases hpa : p = a
            · refine ⟨b, List.mem_cons_of_mem _ (List.mem_cons_self ..), fun z => ?_⟩
              have := (List.nodup_cons.mp hnd).1
              exact this (by rw [← hpa, z]; exact List.mem_cons_self ..)
            · exact ⟨a, List.mem_cons_self .., hpa⟩
        have hkr : ((fpF 0 cs).map fun p => (2 : Int) ^ (15 - dpt (cs.length : Int) qs 0 p.1).toNat).sum = 32768 := hkr
        have := psum_mem (f := fun p => (15 - dpt (cs.length : Int) qs 0 p.1).toNat) hpm hqm hne
        rw [hkr, hz] at this
        exact absurd this (by decide)
      · omega
    refine ⟨by rw [List.length_map, List.length_range], fun l h => ?_, fun i hi h => ?_, ?_, ?_⟩
    · obtain ⟨s, hs, rfl⟩ := List.mem_map.mp h
      have hs := List.mem_range.mp hs
      have hn0 := dp_nn (cs.length : Int) qs qs.length 0 (by omega) (0 + s)
      refine ⟨hn0, ?_⟩
      by_cases hx : ∃ p ∈ fpF 0 cs, p.1 = 0 + (s : Int)
      · obtain ⟨p, hpm, hpe⟩ := hx
        rw [← hpe]; exact hB 0 (by omega) p hpm
      · rw [hout (0 + s) (by omega) (by omega) fun p hpm hpe => hx ⟨p, hpm, hpe⟩]; decide
    · rw [List.getD_eq_getElem?_getD, List.getElem?_map, List.getElem?_range hi]
      exact hpos _ (fpF_key cs 0 i hi h)
    · rw [rm_fp (fun x => dpt (cs.length : Int) qs 0 x) cs 0 (fun i hi => ⟨fun h => hpos _ (fpF_key cs 0 i hi h), fun h => ?_⟩)]
      · have hkr : ((fpF 0 cs).map fun p => (2 : Int) ^ (15 - dpt (cs.length : Int) qs 0 p.1).toNat).sum = 32768 := hkr
        rw [hkr]; exact Int.le_refl _
      · by_cases hx : ∃ p ∈ fpF 0 cs, p.1 = 0 + (i : Int)
        · obtain ⟨p, hpm, hpe⟩ := hx
          exact fpF_val (k := 0) (w := p.2) hi (by rw [← hpe]; exact hpm)
        · rw [hout (0 + i) (by omega) (by omega) fun p hpm hpe => hx ⟨p, hpm, hpe⟩] at h
          cases h
    · rw [dot_fp (fun x => dpt (cs.length : Int) qs 0 x) cs 0 hnn, bits_sum hpk hp.gd, hb]
theorem least_pap (cs : List Int) : ∃ b, Pap cs (paper (cs.length : Int) (fpF 0 cs)) b := ⟨_, paper_gd (fpF_pk cs), paper_len _ _, rfl⟩
def krL (ls : List Int) : Int := (ls.map fun l => (2 : Int) ^ (15 - l).toNat).sum
def costL (zs : List Pt) : Int := (zs.map fun z => z.1 * z.2).sum
theorem kr_perm {l m : List Int} (h : l.Perm m) : krL l = krL m := sum_perm (h.map _)
theorem cost_perm {l m : List Pt} (h : l.Perm m) : costL l = costL m := sum_perm (h.map _)
theorem cost_cons (z : Pt) (zs : List Pt) : costL (z :: zs) = z.1 * z.2 + costL zs := by unfold costL; rw [List.map_cons, List.sum_cons]
theorem kr_cons (l : Int) (ls : List Int) : krL (l :: ls) = (2 : Int) ^ (15 - l).toNat + krL ls := by unfold krL; rw [List.map_cons, List.sum_cons]
theorem kr_nn : ∀ ls : List Int, 0 ≤ krL ls
  | [] => Int.le_refl _
  | l :: ls => by rw [kr_cons]; have := pow_pos15 (15 - l).toNat; have := kr_nn ls; omega
theorem max_mem : ∀ {zs : List Pt}, zs ≠ [] → ∃ y ∈ zs, ∀ z ∈ zs, z.2 ≤ y.2
  | [z], _ => ⟨z, List.mem_cons_self .., fun x hx => by rw [List.mem_singleton.mp hx]; exact Int.le_refl _⟩
  | z :: w :: zs, _ => by
    obtain ⟨y, hy, hm⟩ := max_mem (zs := w :: zs) (fun h => nomatch h)
    by_cases h : z.2 ≤ y.2
    · refine ⟨y, List.mem_cons_of_mem _ hy, fun x hx => ?_⟩
      rcases List.mem_cons.mp hx with rfl | hx
      · exact h
      · exact hm x hx
    · refine ⟨z, List.mem_cons_self .., fun x hx => ?_⟩
      rcases List.mem_cons.mp hx with rfl | hx
      · exact Int.le_refl _
      · have := hm x hx; omega
theorem mem_perm {zs : List Pt} {x : Pt} (h : x ∈ zs) : ∃ t, zs.Perm (x :: t) := by
  obtain ⟨a, b, rfl⟩ := List.append_of_mem h
  exact ⟨a ++ b, List.perm_middle⟩
theorem swap_min {zs : List Pt} {w : Int} {W : List Int} (hp : (zs.map Prod.fst).Perm (w :: W)) (hmin : ∀ x ∈ W, w ≤ x) : ∃ m Z, (zs.map Prod.snd).Perm (m :: (Z : List Pt).map Prod.snd) ∧ (Z.map Prod.fst).Perm W ∧ w * m + costL Z ≤ costL zs ∧ ∀ z ∈ Z, z.2 ≤ m := by
  have hw : w ∈ zs.map Prod.fst := hp.mem_iff.mpr (List.mem_cons_self ..)
  obtain ⟨x, hx, hxw⟩ := List.mem_map.mp hw
  have hxw : x.1 = w := hxw
  obtain ⟨y, hy, hym⟩ := max_mem (zs := zs) (fun z => by rw [z] at hx; cases hx)
  obtain ⟨t, ht⟩ := mem_perm hx
  have hW : (t.map Prod.fst).Perm W := by
    have := (ht.map Prod.fst).symm.trans hp
    rw [List.map_cons, hxw] at this
    exact this.cons_inv
  have hcx := cost_perm ht
  rw [cost_cons] at hcx
  by_cases hyx : y.2 ≤ x.2
  · refine ⟨x.2, t, ht.map Prod.snd, hW, by rw [hcx, hxw]; exact Int.le_refl _, fun z hz => ?_⟩
    have := hym z (ht.mem_iff.mpr (List.mem_cons_of_mem _ hz))
    omega
  · have hyt : y ∈ t := by
      rcases List.mem_cons.mp (ht.mem_iff.mp hy) with e | h
      · rw [e] at hyx; omega
      · exact h
    obtain ⟨u, hu⟩ := mem_perm hyt
    have hcy := cost_perm hu
    rw [cost_cons] at hcy
    refine ⟨y.2, (y.1, x.2) :: u, ?_, ?_, ?_, fun z hz => ?_⟩
    · refine (ht.map Prod.snd).trans ?_
      rw [List.map_cons, List.map_cons]
      refine (List.Perm.cons _ (hu.map Prod.snd)).trans ?_
      rw [List.map_cons]
      exact .swap ..
    · rw [List.map_cons]
      have := (hu.map Prod.fst).symm
      rw [List.map_cons] at this
      exact this.trans hW
    · rw [cost_cons]
      show w * y.2 + (y.1 * x.2 + costL u) ≤ _
      rw [hcx, hcy, hxw]
      have h1 : w ≤ y.1 := hmin _ (hW.mem_iff.mp (List.mem_map_of_mem hyt))
      have h2 : 0 ≤ (y.1 - w) * (y.2 - x.2) := Int.mul_nonneg (by omega) (by omega)
      rw [Int.sub_mul, Int.mul_sub, Int.mul_sub] at h2
      omega
    · rcases List.mem_cons.mp hz with rfl | hz
      · exact hym x hx
      · exact hym z (ht.mem_iff.mpr (List.mem_cons_of_mem _ (hu.mem_iff.mpr (List.mem_cons_of_mem _ hz))))
theorem kr_mul {m : Int} (hm : m ≤ 15) : ∀ {ls : List Int}, (∀ l ∈ ls, l ≤ m ∧ 0 ≤ l) → ∃ t : Int, krL ls = (2 : Int) ^ (15 - m).toNat * t
  | [], _ => ⟨0, by rw [Int.mul_zero]; rfl⟩
  | l :: ls, h => by
    obtain ⟨t, ht⟩ := kr_mul hm (ls := ls) fun x hx => h x (List.mem_cons_of_mem _ hx)
    obtain ⟨h1, h2⟩ := h l (List.mem_cons_self ..)
    refine ⟨2 ^ (m - l).toNat + t, ?_⟩
    rw [kr_cons, ht, Int.mul_add, ← Int.pow_add, show (15 - m).toNat + (m - l).toNat = (15 - l).toNat by omega]
theorem opt {n : Int} {ps qs : List Pt} (hpk : Pk n 0 ps) (hg : Gd n ps qs) : ∀ (j k : Nat), k + j = qs.length → ∀ zs : List Pt, (zs.map Prod.fst).Perm ((stP n ps qs k).map Prod.snd) → (∀ z ∈ zs, 0 ≤ z.2 ∧ z.2 ≤ 15) → krL (zs.map Prod.snd) ≤ 32768 → btP n ps qs qs.length - btP n ps qs k ≤ costL zs
  | 0, k, h, zs, hp, hb, _ => by
    have hk : k = qs.length := by omega
    subst hk
    rw [Int.sub_self]
    obtain ⟨hP, _⟩ := stP_ok hpk hg qs.length (Nat.le_refl _)
    have hw : ∀ z ∈ zs, 0 ≤ z.1 := fun z hz => by
      have := hp.mem_iff.mp (List.mem_map_of_mem hz)
      obtain ⟨p, hp, e⟩ := List.mem_map.mp this
      rw [← e]; exact hP.ge p hp
    clear hp
    induction zs with
    | nil => exact Int.le_refl _
    | cons z zs ih =>
      rw [cost_cons]
      have h1 := Int.mul_nonneg (hw z (List.mem_cons_self ..)) (hb z (List.mem_cons_self ..)).1
      have h2 := ih (fun x hx => hb x (List.mem_cons_of_mem _ hx)) (by rename_i hk2; rw [List.map_cons, kr_cons] at hk2; have := pow_pos15 (15 - z.2).toNat; omega) (fun x hx => hw x (List.mem_cons_of_mem _ hx))
      omega
  | j + 1, k, h, zs, hp, hb, hkr => by
    have hk : k < qs.length := by omega
    obtain ⟨hP, _⟩ := stP_ok hpk hg k (by omega)
    have hs := hg k hk
    have hge1 := hP.ge _ hs.m1
    have hge2 := hP.ge _ hs.m2
    have hge1 : 0 ≤ wt (stP n ps qs k) (qs.getD k (0, 0)).1 := hge1
    have hge2 : 0 ≤ wt (stP n ps qs k) (qs.getD k (0, 0)).2 := hge2
    have hperm := (st_perm hP.nd hs).map Prod.snd
    rw [List.map_cons, List.map_cons] at hperm
    have hR : ∀ r ∈ (drP (drP (stP n ps qs k) (qs.getD k (0, 0)).1) (qs.getD k (0, 0)).2).map Prod.snd, wt (stP n ps qs k) (qs.getD k (0, 0)).1 ≤ r ∧ wt (stP n ps qs k) (qs.getD k (0, 0)).2 ≤ r := fun r hr => by
      obtain ⟨y, hy, rfl⟩ := List.mem_map.mp hr
      exact hs.le y hy
    have hbt : btP n ps qs (k + 1) = btP n ps qs k + (wt (stP n ps qs k) (qs.getD k (0, 0)).1 + wt (stP n ps qs k) (qs.getD k (0, 0)).2) := rfl
    have hnx : (stP n ps qs (k + 1)).map Prod.snd = (drP (drP (stP n ps qs k) (qs.getD k (0, 0)).1) (qs.getD k (0, 0)).2).map Prod.snd ++ [wt (stP n ps qs k) (qs.getD k (0, 0)).1 + wt (stP n ps qs k) (qs.getD k (0, 0)).2] := by
      rw [st_next hpk hg hk, List.map_append]; rfl
    have ih := opt hpk hg j (k + 1) (by omega)
    rw [hnx] at ih
    rw [hbt] at ih
    generalize (drP (drP (stP n ps qs k) (qs.getD k (0, 0)).1) (qs.getD k (0, 0)).2).map Prod.snd = R at *
    have hperm := hp.trans (hperm.trans (ord_perm _ _ R).symm)
    simp only [] at hperm
    generalize wt (stP n ps qs k) (qs.getD k (0, 0)).1 = wa at *
    generalize wt (stP n ps qs k) (qs.getD k (0, 0)).2 = wb at *
    obtain ⟨m1, Z1, hz1, hz2, hz3, hz4⟩ := swap_min hperm (fun x hx => by
      rcases List.mem_cons.mp hx with rfl | hx
      · omega
      · have := hR x hx; omega)
    obtain ⟨m2, Z2, hy1, hy2, hy3, hy4⟩ := swap_min hz2 (fun x hx => by have := hR x hx; omega)
    have hsn : (zs.map Prod.snd).Perm (m1 :: m2 :: Z2.map Prod.snd) := hz1.trans (hy1.cons _)
    have hbs : ∀ l ∈ m1 :: m2 :: Z2.map Prod.snd, 0 ≤ l ∧ l ≤ 15 := fun l hl => by
      obtain ⟨z, hz, rfl⟩ := List.mem_map.mp (hsn.mem_iff.mpr hl)
      exact hb z hz
    have b1 := hbs m1 (List.mem_cons_self ..)
    have b2 := hbs m2 (List.mem_cons_of_mem _ (List.mem_cons_self ..))
    have h12 : m2 ≤ m1 := by
      have : m2 ∈ Z1.map Prod.snd := hy1.mem_iff.mpr (List.mem_cons_self ..)
      obtain ⟨z, hz, rfl⟩ := List.mem_map.mp this
      exact hz4 z hz
    rw [kr_perm hsn, kr_cons, kr_cons] at hkr
    have hnn := kr_nn (Z2.map Prod.snd)
    have p1 := pow_pos15 (15 - m1).toNat
    have p2 := pow_pos15 (15 - m2).toNat
    have hm2 : 1 ≤ m2 := by
      by_cases h0 : m2 = 0
      · rw [h0] at hkr
        have : (2 : Int) ^ (15 - (0 : Int)).toNat = 32768 := by decide
        omega
      · omega
    have hkr2 : (2 : Int) ^ (15 - m2).toNat + (2 : Int) ^ (15 - m2).toNat + krL (Z2.map Prod.snd) ≤ 32768 := by
      obtain ⟨t, ht⟩ := kr_mul (m := m2) (by omega) (ls := Z2.map Prod.snd) (fun l hl => by
        obtain ⟨z, hz, rfl⟩ := List.mem_map.mp hl
        exact ⟨hy4 z hz, (hbs _ (List.mem_cons_of_mem _ (List.mem_cons_of_mem _ hl))).1⟩)
      have hT : (32768 : Int) = 2 ^ (15 - m2).toNat * 2 ^ m2.toNat := by
        rw [← Int.pow_add, show (15 - m2).toNat + m2.toNat = 15 by omega]; decide
      rw [ht] at hkr ⊢
      rw [hT] at hkr ⊢
      generalize (2 : Int) ^ m2.toNat = T at *
      generalize (2 : Int) ^ (15 - m2).toNat = u at *
      have hlt : u * (1 + t) < u * T := by rw [Int.mul_add, Int.mul_one]; omega
      have hlt2 : 1 + t < T := Int.lt_of_mul_lt_mul_left hlt (by omega)
      have hle : u * (2 + t) ≤ u * T := Int.mul_le_mul_of_nonneg_left (by omega) (by omega)
      rw [Int.mul_add] at hle
      omega
    have hi := ih ((wa + wb, m2 - 1) :: Z2) ?_ ?_ ?_
    · rw [cost_cons] at hi
      have hi : btP n ps qs qs.length - (btP n ps qs k + (wa + wb)) ≤ (wa + wb) * (m2 - 1) + costL Z2 := hi
      have hlo : min wa wb * m2 ≤ min wa wb * m1 := Int.mul_le_mul_of_nonneg_left h12 (by omega)
      have e1 : (wa + wb) * (m2 - 1) = wa * m2 + wb * m2 - (wa + wb) := by rw [Int.mul_sub, Int.mul_one, Int.add_mul]
      have e2 : min wa wb * m2 + max wa wb * m2 = wa * m2 + wb * m2 := by
        by_cases hc : wa ≤ wb
        · rw [show min wa wb = wa by omega, show max wa wb = wb by omega]
        · rw [show min wa wb = wb by omega, show max wa wb = wa by omega]; omega
      omega
    · rw [List.map_cons]
      show ((wa + wb) :: Z2.map Prod.fst).Perm (R ++ [wa + wb])
      exact (hy2.cons _).trans (List.perm_append_singleton _ _).symm
    · intro z hz
      rcases List.mem_cons.mp hz with rfl | hz
      · show 0 ≤ m2 - 1 ∧ m2 - 1 ≤ 15; omega
      · exact hbs z.2 (List.mem_cons_of_mem _ (List.mem_cons_of_mem _ (List.mem_map_of_mem hz)))
    · rw [List.map_cons, kr_cons]
      show (2 : Int) ^ (15 - (m2 - 1)).toNat + _ ≤ _
      rw [show (15 - (m2 - 1)).toNat = (15 - m2).toNat + 1 by omega, Int.pow_succ]
      omega
/-- what is wanted, with its lengths -/
def wz : List Int → List Int → List Pt
  | c :: cs, l :: ls => if 0 < c then (c, l) :: wz cs ls else wz cs ls
  | _, _ => []
theorem wz_fst : ∀ (cs ls : List Int) (k : Int), ls.length = cs.length → (wz cs ls).map Prod.fst = (fpF k cs).map Prod.snd
  | [], _, _, _ => rfl
  | c :: cs, [], _, h => by simp at h
  | c :: cs, l :: ls, k, h => by
    have ih := wz_fst cs ls (k + 1) (by simpa using h)
    show (if 0 < c then (c, l) :: wz cs ls else wz cs ls).map Prod.fst = (if 0 < c then (k, c) :: fpF (k + 1) cs else fpF (k + 1) cs).map Prod.snd
    split
    · rw [List.map_cons, List.map_cons, ih]
    · exact ih
theorem wz_cost : ∀ (cs ls : List Int), (∀ c ∈ cs, 0 ≤ c) → costL (wz cs ls) = dotL cs ls
  | [], _, _ => rfl
  | _ :: _, [], _ => rfl
  | c :: cs, l :: ls, h => by
    have ih := wz_cost cs ls fun x hx => h x (List.mem_cons_of_mem _ hx)
    have hc := h c (List.mem_cons_self ..)
    show costL (if 0 < c then (c, l) :: wz cs ls else wz cs ls) = c * l + dotL cs ls
    split
    · rw [cost_cons, ih]
    · rw [show c = 0 by omega, ih]; omega
def Has (cs ls : List Int) : Prop := ∀ i, i < cs.length → 0 < cs.getD i 0 → 0 < ls.getD i 0
theorem Has.tail {c l : Int} {cs ls : List Int} (h : Has (c :: cs) (l :: ls)) : Has cs ls := fun i hi hc => h (i + 1) (by rw [List.length_cons]; omega) hc
theorem rm_nn (ls : List Int) : 0 ≤ rmL ls := kr_nn (ls.filter fun l => decide (0 < l))
theorem wz_kr : ∀ (cs ls : List Int), Has cs ls → krL ((wz cs ls).map Prod.snd) ≤ rmL ls
  | [], ls, _ => rm_nn ls
  | _ :: _, [], _ => Int.le_refl _
  | c :: cs, l :: ls, h => by
    have ih := wz_kr cs ls h.tail
    have hl : rmL (l :: ls) = if 0 < l then (2 : Int) ^ (15 - l).toNat + rmL ls else rmL ls := by
      unfold rmL
      rw [List.filter_cons]
      by_cases q : 0 < l
      · rw [if_pos q, if_pos (decide_eq_true q), List.map_cons, List.sum_cons]
      · rw [if_neg q, if_neg (fun z => q (of_decide_eq_true z))]
    have hp := pow_pos15 (15 - l).toNat
    show krL ((if 0 < c then (c, l) :: wz cs ls else wz cs ls).map Prod.snd) ≤ _
    rw [hl]
    by_cases hc : 0 < c
    · have h0 : 0 < l := h 0 (by rw [List.length_cons]; omega) hc
      rw [if_pos hc, if_pos h0, List.map_cons, kr_cons]
      show (2 : Int) ^ (15 - l).toNat + _ ≤ _
      omega
    · rw [if_neg hc]
      split <;> omega
theorem wz_mem : ∀ (cs ls : List Int), Has cs ls → ∀ z ∈ wz cs ls, z.2 ∈ ls ∧ 0 < z.2 ∧ z.1 ∈ cs
  | [], _, _, z, hz => by cases hz
  | _ :: _, [], _, z, hz => by cases hz
  | c :: cs, l :: ls, h, z, hz => by
    have ih := wz_mem cs ls h.tail
    have hz : z ∈ if 0 < c then (c, l) :: wz cs ls else wz cs ls := hz
    by_cases hc : 0 < c
    · rw [if_pos hc] at hz
      rcases List.mem_cons.mp hz with rfl | hz
      · exact ⟨List.mem_cons_self .., h 0 (by rw [List.length_cons]; omega) hc, List.mem_cons_self ..⟩
      · obtain ⟨h1, h2, h3⟩ := ih z hz
        exact ⟨List.mem_cons_of_mem _ h1, h2, List.mem_cons_of_mem _ h3⟩
    · rw [if_neg hc] at hz
      obtain ⟨h1, h2, h3⟩ := ih z hz
      exact ⟨List.mem_cons_of_mem _ h1, h2, List.mem_cons_of_mem _ h3⟩
/-- no lengths that fit come to fewer -/
theorem least_opt {cs ls : List Int} (hc : Cts cs) {qs : List Pt} {b : Int} (hp : Pap cs qs b) (hlen : ls.length = cs.length) (hbd : ∀ l ∈ ls, 0 ≤ l ∧ l ≤ 15) (hh : Has cs ls) (hr : rmL ls ≤ 32768) : b ≤ dotL cs ls := by
  have hnn : ∀ c ∈ cs, 0 ≤ c := fun c h => (hc.bd c h).1
  have hl := hp.len
  have hb := hp.bits
  have hfst := wz_fst cs ls 0 hlen
  have hm := wz_mem cs ls hh
  rw [← wz_cost cs ls hnn]
  by_cases hq : qs = []
  · rw [if_pos hq] at hb
    rw [hb, ← fp_sum cs 0 hnn, ← hfst]
    have hz : ∀ z ∈ wz cs ls, 0 ≤ z.1 ∧ 1 ≤ z.2 := fun z hz => by
      obtain ⟨_, h2, h3⟩ := hm z hz
      exact ⟨hnn _ h3, by omega⟩
    generalize wz cs ls = zs at hz
    clear hfst hm
    induction zs with
    | nil => exact Int.le_refl _
    | cons z zs ih =>
      rw [List.map_cons, List.sum_cons, cost_cons]
      have h1 := hz z (List.mem_cons_self ..)
      have h2 := ih fun x hx => hz x (List.mem_cons_of_mem _ hx)
      have h3 : z.1 * 1 ≤ z.1 * z.2 := Int.mul_le_mul_of_nonneg_left h1.2 h1.1
      omega
  · rw [if_neg hq] at hb
    have := opt (fpF_pk cs) hp.gd qs.length 0 (by omega) (wz cs ls) (by rw [hfst]; exact .refl _) (fun z hz => by
      obtain ⟨h1, h2, _⟩ := hm z hz
      exact hbd _ h1) (Int.le_trans (wz_kr cs ls hh) hr)
    have h0 : btP (cs.length : Int) (fpF 0 cs) qs 0 = 0 := rfl
    omega
theorem kb_int_int : kitB "int" "int" = some true := by decide +kernel
theorem kb_int_bool : kitB "int" "bool" = some false := by decide +kernel
theorem is_whole_int (i : Int) (M : List Cn) : m_is_whole [.int i] M = .ok (.val (.bl true)) M := by
  refine fo_ok (P := fun _ _ => True) ?_
  walk_at "f0"; unfold b_is_whole
  walk_at "w"
  refine w_isi (by exact rfl) (by exact rfl) kb_int_int ?_
  walk_at "w"
  refine w_isi (by exact rfl) (by exact rfl) kb_int_bool ?_
  walk_at "w"
  exact ⟨rfl, rfl⟩
theorem bls_map' (bs : List Bool) : blsD (bs.map D.bl) = some bs := by
  induction bs with
  | nil => rfl
  | cons n ns ih => show (blsD (ns.map D.bl)).map (n :: ·) = _; rw [ih]; rfl
theorem is_list_ok {ns : List Int} {lo hi : Int} (h1 : 1 ≤ ns.length) (h2 : ns.length ≤ 64) (hb : ∀ n ∈ ns, lo ≤ n ∧ n ≤ hi) (M : List Cn) : m_is_list_of [.lst (ns.map D.int), .int lo, .int hi] M = .ok (.val (.bl true)) M := by
  refine fo_ok (P := fun _ _ => True) ?_
  walk_at "f0"; unfold b_is_list_of
  walk_at "w"
  refine w_isi (b := true) (by exact rfl) (by exact rfl) (by decide +kernel) ?_
  walk_at "w"
  rw [List.length_map]
  walk_at "w"
  refine w_lcMap (fun _ => .bl true) ?_ ?_ ?_
  · rw [List.length_map]; show ns.length ≤ 16777216; omega
  · intro x hx
    obtain ⟨n, hn, rfl⟩ := List.mem_map.mp hx
    obtain ⟨b1, b2⟩ := hb n hn
    walk_at "w"
    refine fo_eq (is_whole_int n M) ?_
    walk_at "w"
    rw [decide_eq_true b2]
    exact ⟨rfl, rfl⟩
  · walk_at "w"
    have e : (ns.map D.int).map (fun _ => D.bl true) = (ns.map fun _ => true).map D.bl := by rw [List.map_map, List.map_map]; rfl
    refine w_bls (bs := ns.map fun _ => true) rfl (by rw [e]; exact bls_map' _) ?_
    walk_at "w"
    rw [List.all_map, show (ns.all (id ∘ fun _ => true)) = true by rw [List.all_eq_true]; intro _ _; rfl]
    exact ⟨rfl, rfl⟩
theorem check_counts_ok {cs : List Int} (h : Cts cs) (M : List Cn) : m_check_counts [.lst (cs.map D.int)] M = .ok (.val .non) M := by
  refine fo_ok (P := fun _ _ => True) ?_
  walk_at "f0"; unfold b_check_counts
  walk_at "w"
  refine fo_eq (is_list_ok h.pos h.few h.bd M) ?_
  walk_at "w"
  refine w_ints (ns := cs) (d := .int cs.sum) rfl (intsD_map cs) rfl ?_
  walk_at "w"
  have hs := h.sum
  walk_at "w"
  exact ⟨trivial, rfl⟩
theorem first_parts_ok {cs : List Int} (hf : cs.length ≤ 64) (M : List Cn) : m_first_parts [.lst (cs.map D.int)] M = .ok (.new (.dK (dD (fpF 0 cs)))) M := by
  refine fo_ok (P := fun _ _ => True) ?_
  walk_at "f0"; unfold b_first_parts
  walk_at "w"
  refine w_forN (fun i s => ∃ e2 e3 : Option Ent, s = ⟨[some (.fz (.lst (cs.map D.int))), some (.ow (.dK (dD (fpF 0 (cs.take i))))), e2, e3], M⟩) ⟨none, none, rfl⟩ ?_ ?_
  · rintro i x s hi ⟨e2, e3, rfl⟩
    obtain ⟨y, hy, rfl⟩ := enum_get hi
    obtain ⟨c, hc, rfl⟩ := map_get hy
    have hil : i < cs.length := (List.getElem?_eq_some_iff.mp hc).1
    have hnext : fpF 0 (cs.take (i + 1)) = fpF 0 (cs.take i) ++ (if 0 < c then [((i : Int), c)] else []) := by
      rw [List.take_add_one, hc]
      show fpF 0 (cs.take i ++ [c]) = _
      rw [fpF_snoc, List.length_take, Nat.min_eq_left (by omega), Int.zero_add]
    have hlen : (fpF 0 (cs.take i)).length ≤ 64 := by have := fpF_len (cs.take i) 0; rw [List.length_take] at this; omega
    have hlt : ∀ p ∈ fpF 0 (cs.take i), p.1 ≠ (i : Int) := fun p hp => by have := fpF_mem hp; rw [List.length_take] at this; omega
    rw [hnext]
    walk_at "w"
    refine z_if (fun h => ?_) (fun h => ?_)
    · rw [if_pos h]
      walk_at "w"
      refine so_setK rfl rfl (by rw [dD_len]; show _ < 16777216; omega) ?_
      rw [pu_new hlt]
      walk_at "ds"
      exact ⟨_, _, rfl⟩
    · rw [if_neg h, List.append_nil]
      walk_at "w"
      exact ⟨_, _, rfl⟩
  · rintro s ⟨e2, e3, rfl⟩
    rw [enum_len, List.length_map, List.take_length]
    walk_at "w"
    exact ⟨rfl, rfl⟩
theorem least_ok {ps : List Pt} (h : ps ≠ []) (hz : ps.length ≤ 100) (M : List Cn) : m_least_part [.dK (dD ps)] M = .ok (.val (.int (least ps).1)) M := by
  refine fo_ok (P := fun _ _ => True) ?_
  walk_at "f0"; unfold b_least_part
  walk_at "w"
  refine w_lcMap (fun d => match d with | .tup [a, b] => .tup [b, a] | d => d) ?_ ?_ ?_
  · show ((dD ps).map _).length ≤ 16777216; rw [List.length_map, dD_len]; omega
  · intro x hx
    obtain ⟨q, hq, rfl⟩ := List.mem_map.mp hx
    obtain ⟨p, hp, rfl⟩ := List.mem_map.mp hq
    walk_at "w"
    exact ⟨rfl, rfl⟩
  · walk_at "w"
    have e : (dIt .items (dD ps)).map (fun d => match d with | .tup [a, b] => D.tup [b, a] | d => d) = (ps.map sw).map tP := by
      show ((dD ps).map fun p => D.tup [kD p.1, p.2]).map _ = _
      unfold dD
      rw [List.map_map, List.map_map, List.map_map]; rfl
    rw [e]
    cases ps with
    | nil => exact absurd rfl h
    | cons p ps =>
      refine w_minP (p := sw p) (ps := ps.map sw) rfl ?_
      walk_at "w"
      refine w_ixT (d := .int (minP (sw p) (ps.map sw)).2) rfl rfl rfl rfl rfl ?_
      walk_at "w"
      exact ⟨rfl, rfl⟩
theorem pairs_of_ok {cs : List Int} (h : Cts cs) (M : List Cn) : m_pairs_of [.lst (cs.map D.int)] M = .ok (.new (.lst ((paper (cs.length : Int) (fpF 0 cs)).map tP))) M := by
  refine fx_ok ?_
  walk_at "fx"; unfold b_pairs_of
  walk_at "w"
  refine fx_eq (check_counts_ok h M) ?_
  walk_at "w"
  refine fo_eq (first_parts_ok h.few M) ?_
  walk_at "w"
  have hpk := fpF_pk cs
  have hfl := fpF_len cs 0
  have hfew := h.few
  generalize fpF 0 cs = ps at hpk hfl ⊢
  generalize hn : (cs.length : Int) = n at hpk ⊢
  refine w_while (fun m s => ∃ (k : Nat) (e3 e4 e5 : Option Ent), m = ps.length - k ∧ (ps.length = 0 ∨ k + 1 ≤ ps.length) ∧ (ps.length = 0 → k = 0) ∧ s = ⟨[some (.fz (.lst (cs.map D.int))), some (.ow (.dK (dD (stF n ps k)))), some (.ow (.lst (((List.range k).map (pairAt n ps)).map tP))), e3, e4, e5], M⟩) _ ⟨0, none, none, none, rfl, by omega, fun _ => rfl, rfl⟩ ?_ ?_
  · rintro m s ⟨k, e3, e4, e5, rfl, hk, hk0, rfl⟩
    have hst : (stF n ps k).length + k = ps.length ∧ (1 < (stF n ps k).length → Pk n k (stF n ps k)) := by
      rcases hk with h0 | h1
      · have := hk0 h0; subst this; exact ⟨rfl, fun hh => by have : 1 < ps.length := hh; omega⟩
      · exact ⟨(stF_ok hpk k h1).2, fun _ => (stF_ok hpk k h1).1⟩
    obtain ⟨hl, hP⟩ := hst
    walk_at "w"
    rw [dD_len]
    refine z_if (fun hc => ?_) (fun hc => ?_)
    · have hc' : 1 < (stF n ps k).length := by omega
      have hp := hP hc'
      have hnil : stF n ps k ≠ [] := fun z => by rw [z] at hc'; simp at hc'
      have hstep : stF n ps (k + 1) = nxt (n + k) (stF n ps k) := rfl
      have hpair : pairAt n ps k = ((one (stF n ps k)).1, (oth (stF n ps k)).1) := rfl
      have hrange : (List.range (k + 1)).map (pairAt n ps) = (List.range k).map (pairAt n ps) ++ [pairAt n ps k] := by rw [List.range_succ, List.map_append]; rfl
      have hrl : ((List.range k).map (pairAt n ps)).length = k := by rw [List.length_map, List.length_range]
      walk_at "w"
      refine ⟨_, _, _, rfl, by show (D.noIdK _ && true) = true; rw [noId_dD]; rfl, least_ok hnil (by omega) [], rfl, ?_⟩
      have ho := one_mem hc'
      have hq := oth_mem hp.nd hc'
      have hl1 := drP_len hp.nd ho
      have hnil2 : drP (stF n ps k) (one (stF n ps k)).1 ≠ [] := fun z => by rw [z] at hq; cases hq
      have v1 : vl (dD (stF n ps k)) (.inl (one (stF n ps k)).1) = some (.int (one (stF n ps k)).2) := by rw [vl_dD, vlP_mem hp.nd ho]; rfl
      have v2 : vl (dD (drP (stF n ps k) (one (stF n ps k)).1)) (.inl (oth (stF n ps k)).1) = some (.int (oth (stF n ps k)).2) := by rw [vl_dD, vlP_mem (drP_nd hp.nd) hq]; rfl
      have hrst : drP (drP (stF n ps k) (one (stF n ps k)).1) (oth (stF n ps k)).1 = rst (stF n ps k) := rfl
      have hlr := rst_len hp.nd hc'
      have hfr : ∀ p ∈ rst (stF n ps k), p.1 ≠ n + k := fun p hpp => by
        have := hp.lt p (drP_mem.mp (drP_mem.mp hpp).1).1
        omega
      rw [show (least (stF n ps k)).1 = (one (stF n ps k)).1 from rfl]
      walk_at "w"
      refine ⟨_, _, _, rfl, rfl, v1, ?_⟩
      walk_at "ds"
      rw [dr_dD]
      walk_at "w"
      refine ⟨_, _, _, rfl, by show (D.noIdK _ && true) = true; rw [noId_dD]; rfl, least_ok hnil2 (by omega) [], rfl, ?_⟩
      rw [show (least (drP (stF n ps k) (one (stF n ps k)).1)).1 = (oth (stF n ps k)).1 from rfl]
      walk_at "w"
      refine ⟨_, _, _, rfl, rfl, v2, ?_⟩
      walk_at "ds"
      rw [dr_dD, hrst]
      refine ⟨_, rfl, ?_⟩
      walk_at "w"
      rw [List.length_map, List.length_map, hrl, hn]
      refine so_setK rfl rfl (by rw [dD_len]; show _ < 16777216; omega) ?_
      rw [pu_new hfr]
      walk_at "ds"
      walk_at "w"
      refine w_app rfl (by rw [List.length_map, hrl]; show _ < 16777216; omega) ?_
      walk_at "ds"
      exact ⟨ps.length - (k + 1), by omega, k + 1, _, _, _, rfl, by omega, by omega, by rw [hstep, hrange, List.map_append, hpair]; rfl⟩
    · have hk2 : k = ps.length - 1 := by omega
      subst hk2
      walk_at "w"
      exact ⟨rfl, rfl⟩
  · intro r hr e; subst e; exact hr
theorem mixed_ok (c : Int) {k : Int} (hk : 0 ≤ k) (hk2 : k ≤ 1000) (M : List Cn) : Fo (fun a M' => ∃ x : Int, a = .val (.int x) ∧ 0 ≤ x ∧ x < 2147483648 ∧ M' = M) (m_l_mixed [.int c, .int k] M) := by
  have sh : CShl 1 90 := ⟨by decide, by decide +kernel⟩
  walk_at "f0"; unfold b_l_mixed
  walk_at "w"
  refine z_if (fun h1 => ?_) (fun h1 => ?_)
  · walk_at "w"
    refine z_if (fun h2 => ?_) (fun h2 => ?_)
    · walk_at "w"
      refine z_if (fun h3 => ?_) (fun h3 => ?_)
      · walk_at "w"
        exact ⟨_, rfl, by omega, by omega, rfl⟩
      · walk_at "w"
        exact ⟨_, rfl, by omega, by omega, rfl⟩
    · walk_at "w"
      exact ⟨_, rfl, by omega, by omega, rfl⟩
  · walk_at "w"
    exact ⟨_, rfl, by omega, by omega, rfl⟩
theorem cell_at_ok {ns : List Int} {k : Int} (h0 : 0 ≤ k) (M : List Cn) : Fo (fun a M' => (∃ x : Int, a = .val (.int x)) ∧ M' = M) (m_l_cell_at [.clst (ns.map D.int), .int k] M) := by
  walk_at "f0"; unfold b_l_cell_at
  walk_at "w"
  rw [List.length_map]
  refine z_if (fun h => ?_) (fun h => ?_)
  · walk_at "w"
    exact w_ixI rfl rfl rfl h0 h ⟨⟨_, rfl⟩, rfl⟩
  · walk_at "w"
    exact ⟨⟨_, rfl⟩, rfl⟩
theorem at5 {l : List Int} {i : Int} (h0 : 0 ≤ i) (h1 : i < l.length) (hl : ∀ x ∈ l, 0 ≤ x) : 0 ≤ l.getD i.toNat 0 := by
  rw [List.getD_eq_getElem?_getD, List.getElem?_eq_getElem (show i.toNat < l.length by omega)]
  exact hl _ (List.getElem_mem _)
theorem counts_ok (a b : Int) (M : List Cn) : Fo (fun r M' => ∃ cs : List Int, r = .new (.lst (cs.map D.int)) ∧ Cts cs ∧ M' = M) (m_l_counts [.int a, .int b] M) := by
  walk_at "f0"; unfold b_l_counts
  walk_at "w"
  refine fo_use (mixed_ok a (by omega) (by omega) M) ?_
  rintro _ M' ⟨x, rfl, hx, _, rfl⟩
  walk_at "w"
  have ix : ∀ (l : List Int) (i : Int) (d : D), 0 ≤ i → i < l.length → atI (l.map D.int) i = some (.int (l.getD i.toNat 0)) := fun l i d h0 h1 => atI_int h0 h1
  refine w_ixI (ns := [1 + x / 4 % 6, 33, 1 + x / 4 % 64, 1 + x / 4 % 20]) rfl rfl rfl (by omega) (by show x % 4 < 4; omega) ?_
  obtain ⟨sz, hsz, hs1, hs2⟩ : ∃ sz, ([1 + x / 4 % 6, 33, 1 + x / 4 % 64, 1 + x / 4 % 20] : List Int).getD (x % 4).toNat 0 = sz ∧ 1 ≤ sz ∧ sz ≤ 64 := by
    refine ⟨_, rfl, ?_⟩
    rcases (show x % 4 = 0 ∨ x % 4 = 1 ∨ x % 4 = 2 ∨ x % 4 = 3 by omega) with h | h | h | h <;> rw [h]
    · show 1 ≤ 1 + x / 4 % 6 ∧ 1 + x / 4 % 6 ≤ 64; omega
    · show (1 : Int) ≤ 33 ∧ (33 : Int) ≤ 64; omega
    · show 1 ≤ 1 + x / 4 % 64 ∧ 1 + x / 4 % 64 ≤ 64; omega
    · show 1 ≤ 1 + x / 4 % 20 ∧ 1 + x / 4 % 20 ≤ 64; omega
  rw [hsz]
  walk_at "w"
  refine w_forN (fun i s => ∃ (cs : List Int) (o1 o2 : Int) (e9 e10 e11 : Option Ent), s = ⟨[some (.fz (.int a)), some (.fz (.int b)), some (.fz (.int x)), some (.fz (.int sz)), some (.fz (.int (x / 512 % 5))), some (.ow (.lst (cs.map D.int))), some (.fz (.int (1000 - cs.sum))), some (.fz (.int o1)), some (.fz (.int o2)), e9, e10, e11], M'⟩ ∧ cs.length = i ∧ (∀ c ∈ cs, 0 ≤ c ∧ c ≤ 1000) ∧ cs.sum ≤ 1000 ∧ 0 ≤ cs.sum ∧ 0 ≤ o1 ∧ 0 ≤ o2) ⟨[], 1, 1, none, none, none, rfl, rfl, fun c h => by simp at h, by decide, by decide, by decide, by decide⟩ ?_ ?_
  · rintro i y s hi ⟨cs, o1, o2, e9, e10, e11, rfl, hl, hb, hs, hs0, ho1, ho2⟩
    obtain ⟨hi', rfl⟩ := rng_get hi
    walk_at "w"
    refine fo_use (mixed_ok b (by omega) (by omega) M') ?_
    rintro _ M'' ⟨m, rfl, hm, _, rfl⟩
    walk_at "w"
    refine w_ixI (ns := [0, 0, 1, m / 4 % 1001]) rfl rfl rfl (by omega) (by show m % 4 < 4; omega) ?_
    have hz0 : 0 ≤ ([0, 0, 1, m / 4 % 1001] : List Int).getD (m % 4).toNat 0 := at5 (by omega) (by show m % 4 < 4; omega) (fun y hy => by simp at hy; omega)
    generalize ([0, 0, 1, m / 4 % 1001] : List Int).getD (m % 4).toNat 0 = z at hz0 ⊢
    walk_at "w"
    refine w_ixI (ns := [m % 4, m % 60, o1, z, m / 3 % 2 * 7]) rfl rfl rfl (by omega) (by show x / 512 % 5 < 5; omega) ?_
    have hz1 : 0 ≤ ([m % 4, m % 60, o1, z, m / 3 % 2 * 7] : List Int).getD (x / 512 % 5).toNat 0 := at5 (by omega) (by show x / 512 % 5 < 5; omega) (fun y hy => by simp at hy; omega)
    generalize ([m % 4, m % 60, o1, z, m / 3 % 2 * 7] : List Int).getD (x / 512 % 5).toNat 0 = w at hz1 ⊢
    walk_at "w"
    refine w_app rfl (by rw [List.length_map]; show _ < 16777216; omega) ?_
    walk_at "ds"
    walk_at "w"
    have hsum : (cs ++ [min (1000 - cs.sum) w]).sum = cs.sum + min (1000 - cs.sum) w := by rw [List.sum_append]; simp
    have hget : (cs ++ [min (1000 - cs.sum) w]).getD (0 + (i : Int)).toNat 0 = min (1000 - cs.sum) w := by
      rw [show (0 + (i : Int)).toNat = cs.length by omega, List.getD_eq_getElem?_getD, List.getElem?_append_right (Nat.le_refl _), Nat.sub_self]; rfl
    refine w_ixI (ns := cs ++ [min (1000 - cs.sum) w]) rfl rfl (by show some (cs.map D.int ++ [D.int (min (1000 - cs.sum) w)]) = _; rw [List.map_append]; rfl) (by omega) (by rw [List.length_append]; show 0 + (i : Int) < ((cs.length + 1 : Nat) : Int); omega) ?_
    rw [hget]
    walk_at "w"
    refine ⟨cs ++ [min (1000 - cs.sum) w], o2, o1 + o2, _, _, _, by rw [List.map_append, hsum, show 1000 - (cs.sum + min (1000 - cs.sum) w) = 1000 - cs.sum - min (1000 - cs.sum) w by omega]; rfl, by simp [hl], fun c hc => ?_, by rw [hsum]; omega, by rw [hsum]; omega, ho2, by omega⟩
    rcases List.mem_append.mp hc with hc | hc
    · exact hb c hc
    · simp at hc; subst hc; omega
  · rintro s ⟨cs, o1, o2, e9, e10, e11, rfl, hl, hb, hs, hs0, ho1, ho2⟩
    rw [rng_len] at hl
    have hc : Cts cs := ⟨by omega, by omega, hb, hs⟩
    walk_at "w"
    refine z_if (fun h => ?_) (fun h => ?_)
    · walk_at "w"
      refine w_rev rfl ?_
      walk_at "ds"
      walk_at "w"
      refine ⟨cs.reverse, by rw [List.map_reverse], ⟨by rw [List.length_reverse]; exact hc.pos, by rw [List.length_reverse]; exact hc.few, fun c h => hb c (List.mem_reverse.mp h), by rw [List.sum_reverse]; exact hs⟩, rfl⟩
    · walk_at "w"
      exact ⟨cs, rfl, hc, rfl⟩
theorem viewK_cid {s : Stt} {k : Nat} {l : List (Key × D)} (h : s.M[k]? = some (.dK l)) : viewD s (.val (.cid k)) = some l := by
  show s.M[k]?.bind Cn.aK = some l; rw [h]; rfl
theorem lenK_cid {M : List Cn} {k : Nat} {l : List (Key × D)} (h : M[k]? = some (.dK l)) : lenD M (.cid k) = some l.length := by
  show M[k]?.bind _ = _; rw [h]; rfl
def isI : D → Bool
  | .int _ => true
  | _ => false
def gdD (ps : List Pt) : D → Bool
  | .int i => (vlP ps i).isSome
  | _ => false
inductive W3 : D → Prop
  | int (i : Int) : W3 (.int i)
  | non : W3 .non
  | bl (b : Bool) : W3 (.bl b)
theorem is_whole_3 {d : D} (h : W3 d) (M : List Cn) : m_is_whole [d] M = .ok (.val (.bl (isI d))) M := by
  cases h with
  | int i => exact is_whole_int i M
  | non =>
    refine fo_ok (P := fun _ _ => True) ?_
    walk_at "f0"; unfold b_is_whole
    walk_at "w"
    refine w_isi (b := false) (by exact rfl) (by exact rfl) (by decide +kernel) ?_
    walk_at "w"
    exact ⟨rfl, rfl⟩
  | bl b =>
    refine fo_ok (P := fun _ _ => True) ?_
    walk_at "f0"; unfold b_is_whole
    walk_at "w"
    refine w_isi (b := true) (by exact rfl) (by exact rfl) (by decide +kernel) ?_
    walk_at "w"
    refine w_isi (b := true) (by exact rfl) (by exact rfl) (by decide +kernel) ?_
    walk_at "w"
    exact ⟨rfl, rfl⟩
theorem w_eqG {s : Stt} {QA : AI → Stt → Prop} {X : Exn → Stt → Prop} {a b : AI} {k : Bool} (e : eqOf s a b = some k) (h : QA (.val (.bl k)) s) : Wo QA X (fEq s a b) := by
  unfold fEq; rw [e]; exact h
theorem vl_some (ps : List Pt) (i : Int) : (vl (dD ps) (.inl i)).isSome = (vlP ps i).isSome := by rw [vl_dD]; cases vlP ps i <;> rfl
theorem is_pair_two {x y : D} {e : Bool} (he : ∀ s, eqOf s (.val x) (.val y) = some e) (hx : W3 x) (hy : W3 y) {M : List Cn} {k : Nat} {ps : List Pt} (hM : M[k]? = some (.dK (dD ps))) : m_is_pair [.tup [x, y], .cid k] M = .ok (.val (.bl (!e && (gdD ps x && gdD ps y)))) M := by
  have h2 : ([x, y] : List D).length = 2 := rfl
  refine fo_ok (P := fun _ _ => True) ?_
  walk_at "f0"; unfold b_is_pair
  walk_at "w"
  refine w_isi (b := true) (by exact rfl) (by exact rfl) (by decide +kernel) ?_
  walk_at "w"
  refine w_ixT (d := x) rfl rfl rfl rfl rfl ?_
  walk_at "w"
  refine w_ixT (d := y) rfl rfl rfl rfl rfl ?_
  walk_at "w"
  refine w_eqG (he _) ?_
  walk_at "w"
  cases e with
  | true =>
    walk_at "w"
    exact ⟨rfl, rfl⟩
  | false =>
    walk_at "w"
    refine w_lcMap (fun d => .bl (gdD ps d)) ?_ ?_ ?_
    · show 2 ≤ sizeLine; decide
    · intro d hd
      have h3 : W3 d := by
        rcases List.mem_cons.mp hd with rfl | hd
        · exact hx
        · rw [List.mem_singleton.mp hd]; exact hy
      walk_at "w"
      refine fo_eq (is_whole_3 h3 _) ?_
      walk_at "w"
      cases h3 with
      | int i =>
        walk_at "w"
        refine w_inD (viewK_cid hM) ?_
        walk_at "w"
        exact ⟨by rw [vl_some]; rfl, rfl⟩
      | non =>
        walk_at "w"
        exact ⟨rfl, rfl⟩
      | bl b =>
        walk_at "w"
        exact ⟨rfl, rfl⟩
    · walk_at "w"
      refine w_bls (bs := [gdD ps x, gdD ps y]) rfl rfl ?_
      walk_at "w"
      exact ⟨by simp, rfl⟩
theorem eqOf_ints (i j : Int) (s : Stt) : eqOf s (.val (.int i)) (.val (.int j)) = some (i == j) := rfl
theorem fmin_le : ∀ (is : List Int) (i : Int), ∀ j ∈ i :: is, is.foldl min i ≤ j
  | [], i, j, h => by rw [List.mem_singleton.mp h]; exact Int.le_refl _
  | y :: is, i, j, h => by
    have ih := fmin_le is (min i y)
    have hm := ih _ (List.mem_cons_self ..)
    show is.foldl min (min i y) ≤ j
    rcases List.mem_cons.mp h with rfl | h
    · omega
    · rcases List.mem_cons.mp h with rfl | h
      · omega
      · exact ih j (List.mem_cons_of_mem _ h)
theorem fmin_mem : ∀ (is : List Int) (i : Int), is.foldl min i ∈ i :: is
  | [], i => List.mem_singleton.mpr rfl
  | y :: is, i => by
    show is.foldl min (min i y) ∈ _
    rcases List.mem_cons.mp (fmin_mem is (min i y)) with h | h
    · rw [h]
      by_cases q : i ≤ y
      · rw [show min i y = i by omega]; exact List.mem_cons_self ..
      · rw [show min i y = y by omega]; exact List.mem_cons_of_mem _ (List.mem_cons_self ..)
    · exact List.mem_cons_of_mem _ (List.mem_cons_of_mem _ h)
theorem ints_dD (ps : List Pt) : intsD ((dD ps).map Prod.snd) = some (ps.map Prod.snd) := by
  unfold dD; rw [List.map_map]
  rw [show (ps.map (Prod.snd ∘ fun p : Pt => ((Sum.inl p.1 : Key), D.int p.2))) = (ps.map Prod.snd).map D.int by rw [List.map_map]; rfl]
  exact intsD_map _
theorem vl_at {ps : List Pt} {k w : Int} (hn : Nd ps) (h : (k, w) ∈ ps) : vl (dD ps) (.inl k) = some (.int w) := by
  rw [vl_dD, vlP_mem (p := (k, w)) hn h]; rfl
theorem some_at {ps : List Pt} {k w : Int} (hn : Nd ps) (h : (k, w) ∈ ps) : (vlP ps k).isSome = true := by
  rw [vlP_mem (p := (k, w)) hn h]; rfl
structure InS (ps : List Pt) (q : Pt) : Prop where
  ne : q.1 ≠ q.2
  m1 : (q.1, wt ps q.1) ∈ ps
  m2 : (q.2, wt ps q.2) ∈ ps
theorem OkS.toI {ps : List Pt} {q : Pt} (h : OkS ps q) : InS ps q := ⟨h.ne, h.m1, h.m2⟩
theorem put_go {ps : List Pt} {q : Pt} {M : List Cn} {k : Nat} {n : Int} {a : D} (hM : M[k]? = some (.dK (dD ps))) (hn : Nd ps) (hz : ps.length ≤ 100) (hi : InS ps q) (hf : ∀ p ∈ ps, p.1 ≠ n) :
    ((∀ r ∈ drP (drP ps q.1) q.2, wt ps q.1 ≤ r.2 ∧ wt ps q.2 ≤ r.2) → m_put_together [tP q, .cid k, .int n, a] M = .ok (.val (.int (wt ps q.1 + wt ps q.2))) (M.set k (.dK (dD (stepP n ps q))))) ∧
    ((∃ r ∈ drP (drP ps q.1) q.2, r.2 < wt ps q.1 ∨ r.2 < wt ps q.2) → m_put_together [tP q, .cid k, .int n, a] M = .er ⟨2, [("at", a)]⟩ (M.set k (.dK (dD (drP (drP ps q.1) q.2))))) := by
  have hp : m_is_pair [tP q, .cid k] M = .ok (.val (.bl true)) M := by
    have := is_pair_two (eqOf_ints q.1 q.2) (.int _) (.int _) hM
    rw [show (q.1 == q.2) = false by simpa using hi.ne, show gdD ps (.int q.1) = true from some_at hn hi.m1, show gdD ps (.int q.2) = true from some_at hn hi.m2] at this
    exact this
  have hk := (List.getElem?_eq_some_iff.mp hM).1
  have v1 := vl_at hn hi.m1
  have v2 : vl (dD (drP ps q.1)) (.inl q.2) = some (.int (wt ps q.2)) := vl_at (drP_nd hn) (drP_mem.mpr ⟨hi.m2, fun z => hi.ne z.symm⟩)
  have hl1 : (drP (drP ps q.1) q.2).length ≤ ps.length := by
    unfold drP
    exact Nat.le_trans (List.length_filter_le ..) (List.length_filter_le ..)
  have hfr : ∀ p ∈ drP (drP ps q.1) q.2, p.1 ≠ n := fun p hp => hf p (drP_mem.mp (drP_mem.mp hp).1).1
  unfold stepP
  generalize wt ps q.1 = wa at v1 ⊢
  generalize wt ps q.2 = wb at v2 ⊢
  generalize hr : drP (drP ps q.1) q.2 = rs at hl1 hfr ⊢
  have hints := ints_dD rs
  have g1 : ∀ c : Cn, (M.set k c)[k]? = some c := fun c => List.getElem?_set_self hk
  constructor
  · intro hle
    refine fx_ok ?_
    walk_at "fx"; unfold b_put_together
    walk_at "w"
    refine fo_eq hp ?_
    walk_at "w"
    refine ⟨⟨_, viewK_cid hM⟩, ?_⟩
    walk_at "w"
    refine w_ixT (d := .int q.1) rfl rfl rfl rfl rfl ?_
    walk_at "w"
    refine ⟨_, _, _, hM, rfl, v1, ?_⟩
    rw [dr_dD]
    walk_at "ds"
    walk_at "w"
    refine ⟨⟨_, viewK_cid (g1 _)⟩, ?_⟩
    walk_at "w"
    refine w_ixT (d := .int q.2) rfl rfl rfl rfl rfl ?_
    walk_at "w"
    refine ⟨_, _, _, g1 _, rfl, v2, ?_⟩
    rw [dr_dD, hr]
    walk_at "ds"
    rw [List.set_set]
    walk_at "w"
    refine w_neD0 (viewK_cid (g1 _)) rfl ?_
    walk_at "w"
    rw [dD_len]
    cases hrs : rs with
    | nil =>
      rw [hrs] at hfr
      refine z_b0 (by rfl) ?_
      walk_at "w"
      refine w_ints (ns := [wa, wb]) (d := .int (wa + wb)) rfl rfl (by show some (D.int ([wa, wb].sum)) = _; simp) ?_
      walk_at "w"
      refine so_setK (l := dD []) (g1 _) rfl (by show 0 < 16777216; decide) ?_
      rw [pu_new hfr]
      walk_at "ds"
      rw [List.set_set]
      walk_at "w"
      refine w_ints (ns := [wa, wb]) (d := .int (wa + wb)) rfl rfl (by show some (D.int ([wa, wb].sum)) = _; simp) ?_
      walk_at "w"
      exact ⟨rfl, rfl⟩
    | cons r0 rt =>
      rw [← hrs]
      refine z_b1 (by rw [hrs]; rfl) ?_
      walk_at "w"
      rw [hrs] at hints
      refine ⟨_, _, _, _, rfl, g1 _, by rw [hrs]; exact hints, ?_⟩
      walk_at "w"
      refine w_ints (ns := [wa, wb]) (d := .int (max wa wb)) rfl rfl rfl ?_
      walk_at "w"
      have hmin := fmin_mem (rt.map Prod.snd) r0.2
      have hge : ¬ (rt.map Prod.snd).foldl min r0.2 < max wa wb := by
        have h5 : (rt.map Prod.snd).foldl min r0.2 ∈ rs.map Prod.snd := by rw [hrs]; exact hmin
        obtain ⟨r, hr5, e5⟩ := List.mem_map.mp h5
        have := hle r hr5
        omega
      refine z_ifN hge ?_
      walk_at "w"
      refine w_ints (ns := [wa, wb]) (d := .int (wa + wb)) rfl rfl (by show some (D.int ([wa, wb].sum)) = _; simp) ?_
      walk_at "w"
      refine so_setK (l := dD rs) (g1 _) rfl (by rw [dD_len]; show _ < 16777216; omega) ?_
      rw [pu_new hfr]
      walk_at "ds"
      rw [List.set_set]
      walk_at "w"
      refine w_ints (ns := [wa, wb]) (d := .int (wa + wb)) rfl rfl (by show some (D.int ([wa, wb].sum)) = _; simp) ?_
      walk_at "w"
      exact ⟨rfl, rfl⟩
  · rintro ⟨r1, hr1, hlt⟩
    refine fx_isEr ?_
    walk_at "fx"; unfold b_put_together
    walk_at "w"
    refine fo_eq hp ?_
    walk_at "w"
    refine ⟨⟨_, viewK_cid hM⟩, ?_⟩
    walk_at "w"
    refine w_ixT (d := .int q.1) rfl rfl rfl rfl rfl ?_
    walk_at "w"
    refine ⟨_, _, _, hM, rfl, v1, ?_⟩
    rw [dr_dD]
    walk_at "ds"
    walk_at "w"
    refine ⟨⟨_, viewK_cid (g1 _)⟩, ?_⟩
    walk_at "w"
    refine w_ixT (d := .int q.2) rfl rfl rfl rfl rfl ?_
    walk_at "w"
    refine ⟨_, _, _, g1 _, rfl, v2, ?_⟩
    rw [dr_dD, hr]
    walk_at "ds"
    rw [List.set_set]
    walk_at "w"
    refine w_neD0 (viewK_cid (g1 _)) rfl ?_
    walk_at "w"
    rw [dD_len]
    have hrs : ∃ r0 rt, rs = r0 :: rt := by
      cases rs with
      | nil => cases hr1
      | cons r0 rt => exact ⟨_, _, rfl⟩
    obtain ⟨r0, rt, hrs⟩ := hrs
    refine z_b1 (by rw [hrs]; rfl) ?_
    walk_at "w"
    rw [hrs] at hints
    refine ⟨_, _, _, _, rfl, g1 _, by rw [hrs]; exact hints, ?_⟩
    walk_at "w"
    refine w_ints (ns := [wa, wb]) (d := .int (max wa wb)) rfl rfl rfl ?_
    walk_at "w"
    have hmin := fmin_le (rt.map Prod.snd) r0.2 r1.2 (by
      have : r1.2 ∈ rs.map Prod.snd := List.mem_map_of_mem hr1
      rw [hrs] at this; exact this)
    refine z_ifY (by omega) ?_
    walk_at "w"
    exact ⟨rfl, rfl⟩
theorem py_tP (p : Pt) : (tP p).py = some (.tuple [.int p.1, .int p.2]) := rfl
theorem shaped_tP (qs : List Pt) : SeqAt.shaped (.list (qs.map fun p => PyData.tuple [.int p.1, .int p.2])) = true := shaped_map (fun _ => rfl) (fun _ => by show 1 ≤ 40; decide) qs
theorem eq_nil (qs : List Pt) (s : Stt) : eqOf s (.val (.lst (qs.map tP))) (.new (.lst [])) = some qs.isEmpty := by
  refine eqOf_of (x := .list (qs.map fun p => PyData.tuple [.int p.1, .int p.2])) (y := .list []) ?_ rfl (shaped_tP qs) (by decide) ?_
  · show (D.py (.lst (qs.map tP))) = _
    show (D.pyL (qs.map tP)).map PyData.list = _
    rw [pyL_map py_tP]; rfl
  · cases qs <;> rfl
theorem z_ifT {p A T : Prop} [Decidable p] (hT : T) (h : p → T → A) : if decide p = true then A else T := z_if (fun hp => h hp hT) (fun _ => hT)
theorem check_go {cs : List Int} (h : Cts cs) {xs : List D} {qs : List Pt} {P : AI → List Cn → Prop} {E : Exn → List Cn → Prop} (hl : qs.length ≤ xs.length) (hz : xs.length ≤ 1000)
    (hq : ∀ i, i < qs.length → xs[i]? = some (tP (qs.getD i (0, 0)))) (hg : Gd (cs.length : Int) (fpF 0 cs) qs)
    (he : (fpF 0 cs).length = 1 → ∀ s, eqOf s (.val (.lst xs)) (.new (.lst [])) = some xs.isEmpty)
    (h0 : (fpF 0 cs).length = 1 → xs = [] → ∀ M', P (.val (.int cs.sum)) M')
    (hend : xs.length = qs.length → ¬ ((fpF 0 cs).length = 1 ∧ xs = []) → (stP (cs.length : Int) (fpF 0 cs) qs qs.length).length ≤ 1 → ∀ M', P (.val (.int (btP (cs.length : Int) (fpF 0 cs) qs qs.length))) M')
    (hleft : xs.length = qs.length → 1 < (stP (cs.length : Int) (fpF 0 cs) qs qs.length).length → ∀ M', E ⟨2, [("at", .int (xs.length : Int))]⟩ M')
    (hbad : qs.length < xs.length → (∃ d, xs[qs.length]? = some d ∧ ∀ M k, M[k]? = some (.dK (dD (stP (cs.length : Int) (fpF 0 cs) qs qs.length))) → ∃ M', m_put_together [d, .cid k, .int ((cs.length : Int) + (qs.length : Int)), .int (qs.length : Int)] M = .er ⟨2, [("at", .int (qs.length : Int))]⟩ M') ∧ ∀ M', E ⟨2, [("at", .int (qs.length : Int))]⟩ M')
    (M : List Cn) : Fx P E (m_check_paper [.lst (cs.map D.int), .lst xs] M) := by
  have hpk := fpF_pk cs
  have hfl := fpF_len cs 0
  have hfew := h.few
  have hst := fun k hk => stP_ok hpk hg k hk
  walk_at "fx"; unfold b_check_paper
  walk_at "w"
  refine fx_eq (check_counts_ok h _) ?_
  walk_at "w"
  refine w_isi (b := true) (by exact rfl) (by exact rfl) (by decide +kernel) ?_
  walk_at "w"
  refine fo_eq (first_parts_ok h.few _) ?_
  walk_at "w"
  generalize fpF 0 cs = ps at *
  generalize hn : (cs.length : Int) = n at *
  have hlast : ∀ c : Cn, (M ++ [c])[M.length]? = some c := fun c => by rw [List.getElem?_append_right (Nat.le_refl _), Nat.sub_self]; rfl
  have hset : ∀ c d : Cn, (M ++ [c]).set M.length d = M ++ [d] := fun c d => by rw [List.set_append_right _ _ (Nat.le_refl _), Nat.sub_self]; rfl
  refine w_len (d := .cid M.length) (by exact rfl) (lenK_cid (hlast _)) ?_
  rw [dD_len]
  walk_at "w"
  by_cases hA : ps.length = 1 ∧ xs = []
  · refine z_if (fun hc => ?_) (fun hc => absurd (by have := hA.1; omega) hc)
    walk_at "w"
    refine w_eqG (he hA.1 _) ?_
    walk_at "w"
    refine z_b1 (by rw [hA.2]; rfl) ?_
    walk_at "w"
    refine w_ints (ns := cs) (d := .int cs.sum) rfl (intsD_map cs) rfl ?_
    walk_at "w"
    exact h0 hA.1 hA.2 _
  refine z_ifT ?_ (fun hc hT => ?_)
  rotate_left
  · have h1 : ps.length = 1 := by omega
    walk_at "w"
    refine w_eqG (he h1 _) ?_
    walk_at "w"
    refine z_b0 ?_ hT
    cases xs with
    | nil => exact absurd ⟨h1, rfl⟩ hA
    | cons _ _ => rfl
  walk_at "w"
  refine w_forN (fun i s => i ≤ qs.length ∧ ∃ e4 e5 : Option Ent, s = ⟨[some (.fz (.lst (cs.map D.int))), some (.fz (.lst xs)), some (.fz (.cid M.length)), some (.fz (.int (btP n ps qs i))), e4, e5], M ++ [.dK (dD (stP n ps qs i))]⟩) ⟨Nat.zero_le _, none, none, rfl⟩ ?_ ?_
  · rintro i y s hi ⟨hiq, e4, e5, rfl⟩
    obtain ⟨x, hx, rfl⟩ := enum_get hi
    have hix : i < xs.length := (List.getElem?_eq_some_iff.mp hx).1
    obtain ⟨hp, hlen⟩ := hst i hiq
    by_cases hiq2 : i < qs.length
    · have hx2 := hq i hiq2
      rw [hx] at hx2
      obtain rfl := Option.some.inj hx2
      have hs := hg i hiq2
      have hput := (put_go (a := .int (i : Int)) (hlast (.dK (dD (stP n ps qs i)))) hp.nd (by omega) hs.toI (n := n + (i : Int)) (fun p hpp => by have := hp.lt p hpp; omega)).1 hs.le
      rw [hset] at hput
      have hnext : stP n ps qs (i + 1) = stepP (n + (i : Int)) (stP n ps qs i) (qs.getD i (0, 0)) := rfl
      have hbn : btP n ps qs (i + 1) = btP n ps qs i + (wt (stP n ps qs i) (qs.getD i (0, 0)).1 + wt (stP n ps qs i) (qs.getD i (0, 0)).2) := rfl
      rw [hnext, hbn]
      walk_at "w"
      rw [List.length_map, hn]
      refine fx_eq hput ?_
      walk_at "w"
      exact ⟨by omega, _, _, rfl⟩
    · have : i = qs.length := by omega
      subst this
      obtain ⟨⟨d, hd, hput⟩, hE⟩ := hbad (by omega)
      rw [hx] at hd
      obtain rfl := Option.some.inj hd
      obtain ⟨M', hput⟩ := hput _ M.length (hlast _)
      walk_at "w"
      rw [List.length_map, hn]
      refine fx_er hput ?_
      exact hE _
  · rintro s ⟨hiq, e4, e5, rfl⟩
    rw [enum_len] at hiq ⊢
    have hxl : xs.length = qs.length := by omega
    rw [hxl]
    walk_at "w"
    refine w_len (d := .cid M.length) (by exact rfl) (lenK_cid (hlast _)) ?_
    rw [dD_len]
    walk_at "w"
    refine z_if (fun hc => ?_) (fun hc => ?_)
    · walk_at "w"
      exact hleft hxl (by omega) _
    · walk_at "w"
      exact hend hxl hA (by omega) _
theorem rgcD {n : Nat} (h : n ≤ 1000) : RgC ((n : Int) - 1) (-1) (-1) n := by
  refine ⟨by decide, by decide, ?_, ?_⟩
  · have f : ∀ x : Int, -1000000 ≤ x → x ≤ 1000000 → Builtin.Range.rangeFitsLong x = true := fun x h1 h2 => by unfold Builtin.Range.rangeFitsLong; simp; omega
    have hs : 0 ≤ Builtin.Range.rangeSize ((n : Int) - 1) (-1) (-1) ∧ Builtin.Range.rangeSize ((n : Int) - 1) (-1) (-1) ≤ 1000 := by unfold Builtin.Range.rangeSize; rw [if_neg (by decide), show (-(-1 : Int)) = 1 from rfl, Int.ediv_one]; split <;> omega
    unfold Builtin.Range.small
    rw [f _ (by omega) (by omega), f _ (by omega) (by omega), f _ (by omega) (by omega), f _ (by omega) (by omega), if_neg (by decide), f _ (by omega) (by omega), Bool.or_true]; rfl
  · unfold Builtin.Range.rangeSize
    rw [if_neg (by decide), show (-(-1 : Int)) = 1 from rfl, Int.ediv_one]
    split <;> omega
def puP (ds : List Pt) (k w : Int) : List Pt := if (ds.any fun p => decide (p.1 = k)) = true then ds.map fun p => if p.1 = k then (p.1, w) else p else ds ++ [(k, w)]
theorem pu_dD (ds : List Pt) (k w : Int) : pu (dD ds) (.inl k) (.int w) = dD (puP ds k w) := by
  unfold pu puP
  have e : ((dD ds).any fun p => decide (p.1 = (Sum.inl k : Key))) = ds.any fun p => decide (p.1 = k) := by
    unfold dD; rw [List.any_map]
    congr 1
    funext p
    exact key_dec p.1 k
  rw [e]
  split
  · unfold dD
    rw [List.map_map, List.map_map]
    refine List.map_congr_left fun p _ => ?_
    show (if (Sum.inl p.1 : Key) = Sum.inl k then _ else _) = (Sum.inl (if p.1 = k then (p.1, w) else p).1, D.int (if p.1 = k then (p.1, w) else p).2)
    by_cases h : p.1 = k
    · rw [if_pos h, if_pos (congrArg Sum.inl h)]
    · rw [if_neg h, if_neg (fun q => h (Sum.inl.inj q))]
  · unfold dD; rw [List.map_append]; rfl
theorem puP_vl (ds : List Pt) (k w j : Int) : vlP (puP ds k w) j = if j = k then some w else vlP ds j := by
  unfold puP
  split
  · rename_i ha
    rw [List.any_eq_true] at ha
    obtain ⟨p0, hp0, e0⟩ := ha
    have e0 := of_decide_eq_true e0
    unfold vlP
    rw [List.find?_map]
    have ec : ((fun p : Pt => decide (p.1 = j)) ∘ fun p : Pt => if p.1 = k then (p.1, w) else p) = fun p : Pt => decide (p.1 = j) := by
      funext p
      show decide ((if p.1 = k then (p.1, w) else p).1 = j) = _
      split <;> rfl
    rw [ec]
    by_cases hj : j = k
    · rw [if_pos hj]
      cases hf : ds.find? fun p => decide (p.1 = j) with
      | none => exact absurd (decide_eq_true (e0.trans hj.symm)) (List.find?_eq_none.mp hf p0 hp0)
      | some p =>
        have this : p.1 = j := by have z := List.find?_some hf; simpa using z
        show some (if p.1 = k then (p.1, w) else p).2 = some w
        rw [if_pos (this.trans hj)]
    · rw [if_neg hj]
      cases hf : ds.find? fun p => decide (p.1 = j) with
      | none => rfl
      | some p =>
        have this : p.1 = j := by have z := List.find?_some hf; simpa using z
        show some (if p.1 = k then (p.1, w) else p).2 = some p.2
        rw [if_neg (fun z => hj (this.symm.trans z))]
  · rename_i ha
    unfold vlP
    rw [List.find?_append]
    by_cases hj : j = k
    · rw [if_pos hj, List.find?_eq_none.mpr fun p hp => by
        intro z
        have z := of_decide_eq_true z
        exact ha (List.any_eq_true.mpr ⟨p, hp, decide_eq_true (z.trans hj)⟩)]
      rw [Option.none_or, List.find?_cons, decide_eq_true (show ((k, w) : Pt).1 = j from hj.symm)]; rfl
    · rw [if_neg hj]
      have : ([(k, w)].find? fun p : Pt => decide (p.1 = j)) = none := by
        rw [List.find?_cons, decide_eq_false (show ¬ ((k, w) : Pt).1 = j from fun z => hj z.symm)]; rfl
      rw [this, Option.or_none]
theorem puP_len (ds : List Pt) (k w : Int) : (puP ds k w).length ≤ ds.length + 1 := by
  unfold puP
  split
  · rw [List.length_map]; omega
  · rw [List.length_append]; exact Nat.le_refl _
theorem atI_tP {qs : List Pt} {i : Nat} (h : i < qs.length) : atI (qs.map tP) (i : Int) = some (tP (qs.getD i (0, 0))) := by
  rw [atI_map, atI_nn (by omega), Int.toNat_natCast, List.getD_eq_getElem?_getD, List.getElem?_eq_getElem h]; rfl
def fndL (cs : List Int) (j : Nat) : List Int := (List.range cs.length).map fun (s : Nat) => if ((fpF 0 cs).take j).any (fun p => decide (p.1 = (s : Int))) = true then 1 else 0
theorem range_set {n i : Nat} {f : Nat → Int} {v : Int} : ((List.range n).map f).set i v = (List.range n).map fun s => if s = i then v else f s := by
  refine List.ext_getElem (by simp) fun k h1 h2 => ?_
  rw [List.getElem_set]
  simp only [List.getElem_map, List.getElem_range]
  by_cases h : i = k
  · rw [if_pos h, if_pos h.symm]
  · rw [if_neg h, if_neg (fun z => h z.symm)]
theorem fndL_next {cs : List Int} {j : Nat} {p : Pt} (hp : (fpF 0 cs)[j]? = some p) (h0 : 0 ≤ p.1) (h1 : p.1 < cs.length) : fndL cs (j + 1) = (fndL cs j).set p.1.toNat 1 := by
  unfold fndL
  rw [range_set]
  refine List.map_congr_left fun s hs => ?_
  rw [List.take_add_one, hp, List.any_append]
  show (if (_ || (([p] : List Pt).any fun p => decide (p.1 = (s : Int)))) = true then (1 : Int) else 0) = _
  rw [List.any_cons, List.any_nil, Bool.or_false]
  by_cases h : s = p.1.toNat
  · rw [if_pos h, decide_eq_true (show p.1 = (s : Int) by omega), Bool.or_true, if_pos rfl]
  · rw [if_neg h, decide_eq_false (show ¬ p.1 = (s : Int) by omega), Bool.or_false]
theorem fpF_has : ∀ (cs : List Int) (k : Int) (s : Nat), ((fpF k cs).any fun p => decide (p.1 = k + s)) = decide (0 < cs.getD s 0)
  | [], k, s => by show false = decide ((0 : Int) < ([] : List Int).getD s 0); rw [show ([] : List Int).getD s 0 = 0 from rfl]; rfl
  | c :: cs, k, 0 => by
    show ((if 0 < c then (k, c) :: fpF (k + 1) cs else fpF (k + 1) cs).any fun p => decide (p.1 = k + ((0 : Nat) : Int))) = decide (0 < c)
    by_cases h : 0 < c
    · rw [if_pos h, List.any_cons, decide_eq_true (show k = k + ((0 : Nat) : Int) by omega), decide_eq_true h]; rfl
    · rw [if_neg h, decide_eq_false h, List.any_eq_false]
      intro p hp
      have := (fpF_mem hp).1
      simp; omega
  | c :: cs, k, s + 1 => by
    show ((if 0 < c then (k, c) :: fpF (k + 1) cs else fpF (k + 1) cs).any fun p => decide (p.1 = k + ((s + 1 : Nat) : Int))) = decide (0 < cs.getD s 0)
    rw [← fpF_has cs (k + 1) s, show k + 1 + (s : Int) = k + ((s + 1 : Nat) : Int) by omega]
    by_cases h : 0 < c
    · rw [if_pos h, List.any_cons, decide_eq_false (show ¬ k = k + ((s + 1 : Nat) : Int) by omega), Bool.false_or]
    · rw [if_neg h]
theorem fndL_all (cs : List Int) : fndL cs (fpF 0 cs).length = cs.map fun c => if 0 < c then 1 else 0 := by
  unfold fndL
  refine List.ext_getElem (by simp) fun k h1 h2 => ?_
  have hk : k < cs.length := by simpa using h2
  simp only [List.getElem_map, List.getElem_range, List.take_length]
  have := fpF_has cs 0 k
  rw [Int.zero_add] at this
  rw [this, List.getD_eq_getElem?_getD, List.getElem?_eq_getElem hk]
  show (if decide (0 < cs[k]) = true then (1 : Int) else 0) = _
  by_cases h : 0 < cs[k]
  · rw [if_pos (decide_eq_true h), if_pos h]
  · rw [if_neg (fun z => h (of_decide_eq_true z)), if_neg h]
theorem len_by_ok {cs : List Int} (hc : Cts cs) {qs : List Pt} {P : AI → Prop} {M : List Cn} (hz : qs.length ≤ 1000) (h : Fx (fun a _ => P a) (fun _ _ => False) (m_check_paper [.lst (cs.map D.int), .lst (qs.map tP)] M)) : Fx (fun a _ => a = .new (.lst ((lenBy (cs.length : Int) cs qs).map D.int))) (fun _ _ => False) (m_lengths_by [.lst (cs.map D.int), .lst (qs.map tP)] M) := by
  have hfew := hc.few
  walk_at "fx"; unfold b_lengths_by
  walk_at "w"
  refine fx_use h ?_ (fun _ _ h => h.elim)
  rintro a M' _
  walk_at "w"
  rw [List.length_map]
  refine ⟨_, _, _, _, rfl, rgcD (by omega), ?_⟩
  refine w_forN (fun i s => ∃ (ds : List Pt) (e3 e4 e5 : Option Ent), ds.length ≤ 2 * i ∧ (∀ k, vlP ds k = fD (cs.length : Int) qs (qs.length - i) i k) ∧ s = ⟨[some (.fz (.lst (cs.map D.int))), some (.fz (.lst (qs.map tP))), some (.ow (.dK (dD ds))), e3, e4, e5, none, none], M'⟩) ⟨[], none, none, none, Nat.le_refl _, fun _ => rfl, rfl⟩ ?_ ?_
  · rintro i y s hi ⟨ds, e3, e4, e5, hdl, hvl, rfl⟩
    obtain ⟨hlt, rfl⟩ := rngC_get hi
    walk_at "w"
    refine ⟨_, _, rfl, rfl, ?_⟩
    rw [List.length_map, vl_dD, hvl, show ∀ o : Option Int, (o.map D.int).getD (.int 0) = .int (o.getD 0) from fun o => by cases o <;> rfl]
    generalize hv : (fD (cs.length : Int) qs (qs.length - i) i ((cs.length : Int) + ((qs.length : Int) - 1 + (i : Int) * -1))).getD 0 = v
    walk_at "w"
    refine w_ixL (d := tP (qs.getD (qs.length - 1 - i) (0, 0))) rfl rfl rfl ?_ ?_
    · rw [show (qs.length : Int) - 1 + (i : Int) * -1 = ((qs.length - 1 - i : Nat) : Int) by omega]
      exact atI_tP (by omega)
    have hq : ∃ q, qs.getD (qs.length - 1 - i) (0, 0) = q := ⟨_, rfl⟩
    obtain ⟨q, hq⟩ := hq
    rw [hq]
    walk_at "w"
    refine w_forN (fun j s => ∃ (ds : List Pt) (e5 : Option Ent), ds.length ≤ 2 * i + j ∧ (∀ k, vlP ds k = if (1 ≤ j ∧ k = q.1) ∨ (2 ≤ j ∧ k = q.2) then some (v + 1) else fD (cs.length : Int) qs (qs.length - i) i k) ∧ s = ⟨[some (.fz (.lst (cs.map D.int))), some (.fz (.lst (qs.map tP))), some (.ow (.dK (dD ds))), some (.fz (.int ((qs.length : Int) - 1 + (i : Int) * -1))), some (.fz (.int v)), e5, none, none], M'⟩) ⟨ds, _, by omega, fun k => by rw [hvl, if_neg (by omega)], rfl⟩ ?_ ?_
    · rintro j y s hj ⟨ds, e5, hdl, hvl, rfl⟩
      have hj2 : (j = 0 ∧ y = .int q.1) ∨ (j = 1 ∧ y = .int q.2) := by
        match j, hj with
        | 0, hj => exact .inl ⟨rfl, (Option.some.inj hj).symm⟩
        | 1, hj => exact .inr ⟨rfl, (Option.some.inj hj).symm⟩
        | j + 2, hj => cases hj
      rcases hj2 with ⟨rfl, rfl⟩ | ⟨rfl, rfl⟩
      · walk_at "w"
        refine so_setK rfl rfl (by rw [dD_len]; show _ < 16777216; omega) ?_
        rw [pu_dD]
        walk_at "ds"
        refine ⟨_, _, by have := puP_len ds q.1 (v + 1); omega, fun k => ?_, rfl⟩
        rw [puP_vl, hvl]
        by_cases h1 : k = q.1
        · rw [if_pos h1, if_pos (by omega)]
        · rw [if_neg h1, if_neg (by omega), if_neg (by omega)]
      · walk_at "w"
        refine so_setK rfl rfl (by rw [dD_len]; show _ < 16777216; omega) ?_
        rw [pu_dD]
        walk_at "ds"
        refine ⟨_, _, by have := puP_len ds q.2 (v + 1); omega, fun k => ?_, rfl⟩
        rw [puP_vl, hvl]
        by_cases h1 : k = q.2
        · rw [if_pos h1, if_pos (by omega)]
        · rw [if_neg h1]
          by_cases h2 : k = q.1
          · rw [if_pos (by omega), if_pos (by omega)]
          · rw [if_neg (by omega), if_neg (by omega)]
    · rintro s ⟨ds, e5, hdl, hvl, rfl⟩
      have hdl : ds.length ≤ 2 * i + 2 := hdl
      have hvl : ∀ k, vlP ds k = if (1 ≤ 2 ∧ k = q.1) ∨ (2 ≤ 2 ∧ k = q.2) then some (v + 1) else fD (cs.length : Int) qs (qs.length - i) i k := hvl
      refine ⟨ds, _, _, _, by omega, fun k => ?_, rfl⟩
      have e1 : qs.length - (i + 1) = qs.length - 1 - i := by omega
      have e2 : qs.length - 1 - i + 1 = qs.length - i := by omega
      rw [hvl, e1]
      show _ = if k = (qs.getD (qs.length - 1 - i) (0, 0)).1 ∨ k = (qs.getD (qs.length - 1 - i) (0, 0)).2 then some ((fD (cs.length : Int) qs (qs.length - 1 - i + 1) i ((cs.length : Int) + ((qs.length - 1 - i : Nat) : Int))).getD 0 + 1) else fD (cs.length : Int) qs (qs.length - 1 - i + 1) i k
      rw [hq, e2, show ((cs.length : Int) + ((qs.length - 1 - i : Nat) : Int)) = (cs.length : Int) + ((qs.length : Int) - 1 + (i : Int) * -1) by omega, hv]
      by_cases h1 : k = q.1 ∨ k = q.2
      · rw [if_pos (by omega), if_pos h1]
      · rw [if_neg (by omega), if_neg h1]
  · rintro s ⟨ds, e3, e4, e5, hdl, hvl, rfl⟩
    rw [rngC_len] at hdl hvl
    rw [Nat.sub_self] at hvl
    walk_at "w"
    rw [List.length_map]
    refine w_rng1I (by omega) ?_
    refine w_lcMap (fun d => match d with | .int k => .int ((fD (cs.length : Int) qs 0 qs.length k).getD 0) | d => d) ?_ ?_ ?_
    · rw [rng_len]; show _ ≤ 16777216; omega
    · intro x hx
      obtain ⟨k, hk⟩ := List.mem_iff_getElem?.mp hx
      obtain ⟨hk, rfl⟩ := rng_get hk
      walk_at "w"
      refine ⟨_, _, rfl, rfl, ?_⟩
      rw [vl_dD, hvl, show ∀ o : Option Int, (o.map D.int).getD (.int 0) = .int (o.getD 0) from fun o => by cases o <;> rfl]
      walk_at "w"
      exact ⟨rfl, rfl⟩
    have e : (rng 0 (cs.length : Int).toNat).map (fun d => match d with | .int k => .int ((fD (cs.length : Int) qs 0 qs.length k).getD 0) | d => d) = ((List.range cs.length).map fun (s : Nat) => (fD (cs.length : Int) qs 0 qs.length (s : Int)).getD 0).map D.int := by
      unfold rng
      rw [Int.toNat_natCast, List.map_map, List.map_map]
      refine List.map_congr_left fun s _ => ?_
      show D.int ((fD (cs.length : Int) qs 0 qs.length (0 + (s : Int))).getD 0) = _
      rw [Int.zero_add]; rfl
    rw [e]
    walk_at "ds"
    walk_at "w"
    refine w_eqG (eq_nil qs _) ?_
    walk_at "w"
    cases hqs : qs with
    | cons q qs' =>
      rw [← hqs]
      refine z_b0 (by rw [hqs]; rfl) ?_
      walk_at "w"
      show _ = _
      unfold lenBy
      rw [if_neg (by rw [hqs]; exact fun z => nomatch z)]
    | nil =>
      refine z_b1 (by rfl) ?_
      walk_at "w"
      refine fo_eq (first_parts_ok hc.few _) ?_
      walk_at "w"
      have ez : (List.range cs.length).map (fun (s : Nat) => (fD (cs.length : Int) [] 0 ([] : List Pt).length (s : Int)).getD 0) = fndL cs 0 := rfl
      rw [ez]
      refine w_forN (fun j s => ∃ e7 : Option Ent, s = ⟨[some (.fz (.lst (cs.map D.int))), some (.fz (.lst (([] : List Pt).map tP))), some (.ow (.dK (dD ds))), e3, e4, e5, some (.ow (.lst ((fndL cs j).map D.int))), e7], M'⟩) ⟨_, rfl⟩ ?_ ?_
      · rintro j y s hj ⟨e7, rfl⟩
        have hj' : ((dD (fpF 0 cs)).map fun p => kD p.1)[j]? = some y := hj
        unfold dD at hj'
        rw [List.map_map] at hj'
        obtain ⟨p, hp, rfl⟩ := map_get hj'
        have hm := fpF_mem (List.mem_of_getElem? hp)
        have hnx := fndL_next hp (by omega) (by omega)
        walk_at "w"
        refine so_setI (ns := fndL cs j) rfl (by omega) (by unfold fndL; rw [List.length_map, List.length_range]; omega) ?_
        rw [← hnx]
        walk_at "ds"
        exact ⟨_, rfl⟩
      · rintro s ⟨e7, rfl⟩
        walk_at "w"
        show _ = _
        unfold lenBy
        rw [if_pos rfl, show (dIt .keys (dD (fpF 0 cs))).length = (fpF 0 cs).length by show ((dD (fpF 0 cs)).map _).length = _; rw [List.length_map, dD_len], fndL_all]
theorem fp_none : ∀ (cs : List Int) (k : Int), (fpF k cs).length = 0 → (∀ c ∈ cs, 0 ≤ c) → cs.sum = 0
  | [], _, _, _ => rfl
  | c :: cs, k, h, hb => by
    unfold fpF at h
    have hc := hb c (List.mem_cons_self ..)
    split at h
    · simp at h
    · rw [List.sum_cons, fp_none cs (k + 1) h fun x hx => hb x (List.mem_cons_of_mem _ hx)]; omega
theorem chk_good {cs : List Int} (hc : Cts cs) {qs : List Pt} {b : Int} (hp : Pap cs qs b) (M : List Cn) : Fx (fun r _ => r = .val (.int b)) (fun _ _ => False) (m_check_paper [.lst (cs.map D.int), .lst (qs.map tP)] M) := by
  have hfl := fpF_len cs 0
  have hfew := hc.few
  have hql := hp.len
  have hst := (stP_ok (fpF_pk cs) hp.gd qs.length (Nat.le_refl _)).2
  have hb := hp.bits
  refine check_go hc (qs := qs) (by rw [List.length_map]; exact Nat.le_refl _) (by rw [List.length_map]; omega) (fun i hi => ?_) hp.gd (fun h s => ?_) (fun h z M' => ?_) (fun _ hne h M' => ?_) (fun _ h => absurd h (by omega)) (fun h => absurd h (by rw [List.length_map]; omega)) M
  · rw [List.getElem?_map, List.getD_eq_getElem?_getD, List.getElem?_eq_getElem hi]; rfl
  · have := eq_nil qs s
    rw [this]; cases qs <;> rfl
  · have hz : qs = [] := by cases qs with | nil => rfl | cons _ _ => cases z
    rw [if_pos hz] at hb
    rw [hb]
  · by_cases hz : qs = []
    · rw [if_pos hz] at hb
      subst hz
      rw [hb]
      by_cases h0 : (fpF 0 cs).length = 0
      · rw [fp_none cs 0 h0 fun c hc' => (hc.bd c hc').1]; rfl
      · exact absurd ⟨by have : ([] : List Pt).length = (fpF 0 cs).length - 1 := hql; have : 0 = (fpF 0 cs).length - 1 := this; omega, rfl⟩ hne
    · rw [if_neg hz] at hb
      rw [hb]
theorem fx_fo {P : AI → List Cn → Prop} {r : Fr} (h : Fx P (fun _ _ => False) r) : Fo P r := by
  cases r with
  | ok a M => exact h
  | er x M => exact h.elim
  | no => exact h.elim
theorem room_ok {ls : List Int} (hb : ∀ l ∈ ls, 0 ≤ l ∧ l ≤ 15) (hz : ls.length ≤ 1000) (M : List Cn) : m_room_of [.lst (ls.map D.int)] M = .ok (.val (.int (rmL ls))) M := by
  refine fo_ok (P := fun _ _ => True) ?_
  walk_at "f0"; unfold b_room_of
  walk_at "w"
  refine w_lcFil (fun d => match d with | .int i => decide (0 < i) | _ => false) (fun d => match d with | .int i => D.int (2 ^ (15 - i).toNat) | d => d) ?_ ?_ ?_
  · rw [List.length_map]; show _ ≤ 16777216; omega
  · intro x hx
    obtain ⟨l, hl, rfl⟩ := List.mem_map.mp hx
    have := hb l hl
    have sh : CShl 1 (15 - l) := cshl_1 (by omega) (by omega)
    walk_at "w"
    refine ⟨rfl, ?_⟩
    refine z_if (fun h => ?_) (fun h => ?_)
    · walk_at "w"
      rw [Int.one_mul]
      exact ⟨rfl, rfl⟩
    · rfl
  have e : (((ls.map D.int).filter (fun d => match d with | .int i => decide (0 < i) | _ => false)).map (fun d => match d with | .int i => D.int (2 ^ (15 - i).toNat) | d => d)) = ((ls.filter fun l => decide (0 < l)).map fun l => (2 : Int) ^ (15 - l).toNat).map D.int := by
    rw [List.filter_map, List.map_map, List.map_map]; rfl
  rw [e]
  walk_at "ds"
  walk_at "w"
  refine w_ints (ns := (ls.filter fun l => decide (0 < l)).map fun l => (2 : Int) ^ (15 - l).toNat) (d := .int (rmL ls)) rfl (intsD_map _) rfl ?_
  walk_at "w"
  exact ⟨rfl, rfl⟩
theorem fits_ok {ls : List Int} (hb : ∀ l ∈ ls, 0 ≤ l ∧ l ≤ 15) (hz : ls.length ≤ 1000) (M : List Cn) : m_fits [.lst (ls.map D.int)] M = .ok (.val (.bl (decide (rmL ls ≤ 32768)))) M := by
  refine fo_ok (P := fun _ _ => True) ?_
  have sh : CShl 1 15 := cshl_1 (by omega) (by omega)
  walk_at "f0"; unfold b_fits
  walk_at "w"
  refine fo_eq (room_ok hb hz M) ?_
  walk_at "w"
  exact ⟨rfl, rfl⟩
theorem least_lengths_ok {cs : List Int} (hc : Cts cs) (M : List Cn) : Fx (fun a _ => a = .new (.lst ((lenBy (cs.length : Int) cs (paper (cs.length : Int) (fpF 0 cs))).map D.int))) (fun _ _ => False) (m_least_lengths [.lst (cs.map D.int)] M) := by
  have hfl := fpF_len cs 0
  have hfew := hc.few
  obtain ⟨b, hp⟩ := least_pap cs
  walk_at "fx"; unfold b_least_lengths
  walk_at "w"
  refine fx_eq (pairs_of_ok hc M) ?_
  walk_at "w"
  refine fx_use (len_by_ok hc (by rw [paper_len]; omega) (chk_good hc hp M)) ?_ (fun _ _ h => h.elim)
  rintro _ M' rfl
  walk_at "w"
  exact rfl
theorem dp_le {n : Int} {qs : List Pt} : ∀ (j k : Nat), k + j = qs.length → ∀ x, dpt n qs k x ≤ (j : Int)
  | 0, k, h, x => by
    obtain rfl : k = qs.length := by omega
    rw [dp_end]; omega
  | j + 1, k, h, x => by
    rw [dp_step (by omega)]
    have i1 := dp_le (n := n) (qs := qs) j (k + 1) (by omega) (n + k)
    have i2 := dp_le (n := n) (qs := qs) j (k + 1) (by omega) x
    split <;> omega
theorem lenBy_le {cs : List Int} {qs : List Pt} (hq : qs.length ≤ 4) : ∀ l ∈ lenBy (cs.length : Int) cs qs, l ≤ 4 := by
  intro l hl
  unfold lenBy at hl
  by_cases h : qs = []
  · rw [if_pos h] at hl
    obtain ⟨c, _, rfl⟩ := List.mem_map.mp hl
    split <;> omega
  · rw [if_neg h] at hl
    obtain ⟨s, _, rfl⟩ := List.mem_map.mp hl
    have := dp_le (n := (cs.length : Int)) (qs := qs) qs.length 0 (by omega) (s : Int)
    have this : (fD (cs.length : Int) qs 0 qs.length (s : Int)).getD 0 ≤ (qs.length : Int) := this
    omega
/-- no lengths of the wanted symbols come to fewer -/
theorem least_zs {cs : List Int} (hc : Cts cs) {qs : List Pt} {b : Int} (hp : Pap cs qs b) {zs : List Pt} (h : (zs.map Prod.fst).Perm ((fpF 0 cs).map Prod.snd)) (hl : ∀ z ∈ zs, 1 ≤ z.2 ∧ z.2 ≤ 15) (hk : krL (zs.map Prod.snd) ≤ 32768) : b ≤ costL zs := by
  have hnn : ∀ c ∈ cs, 0 ≤ c := fun c h => (hc.bd c h).1
  have hlen := hp.len
  have hb := hp.bits
  by_cases hq : qs = []
  · rw [if_pos hq] at hb
    rw [hb, ← fp_sum cs 0 hnn, ← sum_perm h]
    have hz : ∀ z ∈ zs, 0 ≤ z.1 ∧ 1 ≤ z.2 := fun z hz => by
      obtain ⟨p, hp, e⟩ := List.mem_map.mp (h.mem_iff.mp (List.mem_map_of_mem hz))
      have := (fpF_mem hp).2.2
      exact ⟨by omega, (hl z hz).1⟩
    clear h hk hl
    induction zs with
    | nil => exact Int.le_refl _
    | cons z zs ih =>
      rw [List.map_cons, List.sum_cons, cost_cons]
      have h1 := hz z (List.mem_cons_self ..)
      have h2 := ih fun x hx => hz x (List.mem_cons_of_mem _ hx)
      have h3 : z.1 * 1 ≤ z.1 * z.2 := Int.mul_le_mul_of_nonneg_left h1.2 h1.1
      omega
  · rw [if_neg hq] at hb
    have := opt (fpF_pk cs) hp.gd qs.length 0 (by omega) zs h (fun z hz => ⟨by have := (hl z hz).1; omega, (hl z hz).2⟩) hk
    have h0 : btP (cs.length : Int) (fpF 0 cs) qs 0 = 0 := rfl
    omega
theorem perm_lift {A B : List Int} (h : A.Perm B) : ∀ zs : List Pt, zs.map Prod.fst = A → ∃ zs' : List Pt, zs'.map Prod.fst = B ∧ zs'.Perm zs := by
  induction h with
  | nil => exact fun zs e => ⟨zs, e, .refl _⟩
  | cons x _ ih =>
    intro zs e
    cases zs with
    | nil => cases e
    | cons z zs =>
      rw [List.map_cons] at e
      obtain ⟨e1, e2⟩ := List.cons.inj e
      obtain ⟨zs', h1, h2⟩ := ih zs e2
      exact ⟨z :: zs', by rw [List.map_cons, h1, e1], h2.cons z⟩
  | swap x y l =>
    intro zs e
    match zs, e with
    | z1 :: z2 :: t, e =>
      rw [List.map_cons, List.map_cons] at e
      obtain ⟨e1, e⟩ := List.cons.inj e
      obtain ⟨e2, e3⟩ := List.cons.inj e
      exact ⟨z2 :: z1 :: t, by rw [List.map_cons, List.map_cons, e1, e2, e3], .swap ..⟩
  | trans _ _ i1 i2 =>
    intro zs e
    obtain ⟨z1, h1, h2⟩ := i1 zs e
    obtain ⟨z2, h3, h4⟩ := i2 z1 h1
    exact ⟨z2, h3, h4.trans h2⟩
theorem getD_set (F : List Int) (i s : Nat) (v : Int) (h : s < F.length) : (F.set i v).getD s 0 = if s = i then v else F.getD s 0 := by
  rw [List.getD_eq_getElem?_getD, List.getD_eq_getElem?_getD, List.getElem?_set]
  by_cases e : i = s
  · subst e; rw [if_pos rfl, if_pos rfl, if_pos h]; rfl
  · rw [if_neg e, if_neg (fun z => e z.symm)]
theorem getD_out {F : List Int} {s : Nat} (h : F.length ≤ s) : F.getD s 0 = 0 := by
  rw [List.getD_eq_getElem?_getD, List.getElem?_eq_none h]; rfl
theorem rm_cons (x : Int) (F : List Int) : rmL (x :: F) = (if 0 < x then (2 : Int) ^ (15 - x).toNat else 0) + rmL F := by
  unfold rmL
  by_cases h : 0 < x
  · rw [List.filter_cons, if_pos (decide_eq_true h), if_pos h, List.map_cons, List.sum_cons]
  · rw [List.filter_cons, if_neg (by simpa using h), if_neg h, Int.zero_add]
theorem rm_set : ∀ (F : List Int) (i : Nat) (l : Int), i < F.length → F.getD i 0 = 0 → 0 < l → rmL (F.set i l) = rmL F + (2 : Int) ^ (15 - l).toNat
  | [], i, l, h, _, _ => absurd h (Nat.not_lt_zero _)
  | x :: F, 0, l, h, hz, hl => by
    have hz : x = 0 := hz
    show rmL (l :: F) = _
    rw [rm_cons, rm_cons, if_pos hl, hz, if_neg (by decide)]; omega
  | x :: F, i + 1, l, h, hz, hl => by
    have hz : F.getD i 0 = 0 := hz
    show rmL (x :: F.set i l) = _
    rw [rm_cons, rm_cons, rm_set F i l (by rw [List.length_cons] at h; omega) hz hl]; omega
theorem rm_zero : ∀ n : Nat, rmL (List.replicate n 0) = 0
  | 0 => rfl
  | n + 1 => by rw [List.replicate_succ, rm_cons, rm_zero n]; rfl
theorem rm_perm {F G : List Int} (h : F.Perm G) : rmL F = rmL G := sum_perm ((h.filter _).map _)
def incs (F : List Int) (l : List Nat) : List Int := l.foldl (fun F s => F.set s (F.getD s 0 + 1)) F
theorem incs_len : ∀ (l : List Nat) (F : List Int), (incs F l).length = F.length
  | [], _ => rfl
  | x :: l, F => by
    show (incs (F.set x _) l).length = _
    rw [incs_len l, List.length_set]
theorem incs_get : ∀ (l : List Nat) (F : List Int) (s : Nat), s < F.length → (incs F l).getD s 0 = F.getD s 0 + (l.count s : Nat)
  | [], F, s, h => by
    show F.getD s 0 = F.getD s 0 + ((0 : Nat) : Int)
    omega
  | x :: l, F, s, h => by
    show (incs (F.set x (F.getD x 0 + 1)) l).getD s 0 = _
    rw [incs_get l _ s (by rw [List.length_set]; exact h), getD_set _ _ _ _ h, List.count_cons]
    by_cases e : s = x
    · subst e; rw [if_pos rfl, if_pos (beq_self_eq_true s)]; omega
    · rw [if_neg e, if_neg (by simpa using fun z => e z.symm)]; omega
def sumP (F : List Int) (p : List Nat) : Int := (p.map fun s => (2 : Int) ^ (64 - F.getD s 0).toNat).sum
theorem sumP_app (F : List Int) (a b : List Nat) : sumP F (a ++ b) = sumP F a + sumP F b := by
  unfold sumP; rw [List.map_append, List.sum_append]
theorem sumP_same {F G : List Int} {p : List Nat} (h : ∀ s ∈ p, G.getD s 0 = F.getD s 0) : sumP G p = sumP F p := by
  unfold sumP
  rw [List.map_congr_left fun s hs => by rw [h s hs]]
theorem sumP_half {F G : List Int} : ∀ {p : List Nat}, (∀ s ∈ p, G.getD s 0 = F.getD s 0 + 1 ∧ F.getD s 0 ≤ 63) → 2 * sumP G p = sumP F p
  | [], _ => rfl
  | s :: p, h => by
    have ih := sumP_half (F := F) (G := G) (p := p) fun x hx => h x (List.mem_cons_of_mem _ hx)
    obtain ⟨h1, h2⟩ := h s (List.mem_cons_self ..)
    have e1 : sumP G (s :: p) = (2 : Int) ^ (64 - G.getD s 0).toNat + sumP G p := by unfold sumP; rw [List.map_cons, List.sum_cons]
    have e2 : sumP F (s :: p) = (2 : Int) ^ (64 - F.getD s 0).toNat + sumP F p := by unfold sumP; rw [List.map_cons, List.sum_cons]
    rw [e1, e2, h1, show (64 - F.getD s 0).toNat = (64 - (F.getD s 0 + 1)).toNat + 1 by omega, Int.pow_succ]
    omega
structure BP (cs : List Int) (N : Nat) (P : List (List Nat)) (F : List Int) : Prop where
  len : F.length = cs.length
  nd : P.flatten.Nodup
  inb : ∀ s ∈ P.flatten, s < cs.length
  all : P.flatten.length = N
  want : ∀ s, s < cs.length → 0 < cs.getD s 0 → s ∈ P.flatten
  nn : ∀ s, 0 ≤ F.getD s 0
  hi : ∀ s, F.getD s 0 + (P.length : Int) ≤ (max N 1 : Nat)
  one : ∀ p ∈ P, p.length = 1 ∨ ∀ s ∈ p, 0 < F.getD s 0
  sum : ∀ p ∈ P, sumP F p = 18446744073709551616
  out : ∀ s, s ∉ P.flatten → F.getD s 0 = 0
theorem BP.perm {cs : List Int} {N : Nat} {P P' : List (List Nat)} {F : List Int} (h : BP cs N P F) (e : P.Perm P') : BP cs N P' F := by
  have f := e.flatten
  exact ⟨h.len, f.nodup_iff.mp h.nd, fun s hs => h.inb s (f.mem_iff.mpr hs), by rw [← f.length_eq]; exact h.all, fun s h1 h2 => f.mem_iff.mp (h.want s h1 h2), h.nn, fun s => by rw [← e.length_eq]; exact h.hi s, fun p hp => h.one p (e.mem_iff.mpr hp), fun p hp => h.sum p (e.mem_iff.mpr hp), fun s hs => h.out s fun z => hs (f.mem_iff.mp z)⟩
theorem BP.merge {cs : List Int} {N : Nat} {a b : List Nat} {R : List (List Nat)} {F : List Int} (h : BP cs N (a :: b :: R) F) (hN : N ≤ 64) : BP cs N (R ++ [a ++ b]) (incs F (a ++ b)) := by
  have f : (R ++ [a ++ b]).flatten.Perm (a :: b :: R).flatten := by
    rw [List.flatten_append, List.flatten_cons, List.flatten_cons, List.flatten_cons, List.flatten_nil, List.append_nil, ← List.append_assoc a]
    exact List.perm_append_comm
  have hnd := h.nd
  rw [List.flatten_cons, List.flatten_cons, ← List.append_assoc, List.nodup_append] at hnd
  obtain ⟨n1, n2, n3⟩ := hnd
  have hin : ∀ s ∈ a ++ b, s < F.length := fun s hs => by
    rw [h.len]; exact h.inb s (by rw [List.flatten_cons, List.flatten_cons, ← List.append_assoc]; exact List.mem_append_left _ hs)
  have hge : ∀ s, F.getD s 0 ≤ (incs F (a ++ b)).getD s 0 ∧ (incs F (a ++ b)).getD s 0 ≤ F.getD s 0 + 1 := fun s => by
    by_cases q : s < F.length
    · rw [incs_get _ _ _ q]
      have := List.nodup_iff_count.mp n1 s
      omega
    · rw [getD_out (F := F) (by omega), getD_out (by rw [incs_len]; omega)]; omega
  have hon : ∀ s ∈ a ++ b, (incs F (a ++ b)).getD s 0 = F.getD s 0 + 1 := fun s hs => by
    rw [incs_get _ _ _ (hin s hs)]
    have h1 := List.nodup_iff_count.mp n1 s
    have h2 := List.count_pos_iff.mpr hs
    omega
  have hoff : ∀ s, s ∉ a ++ b → (incs F (a ++ b)).getD s 0 = F.getD s 0 := fun s hs => by
    by_cases q : s < F.length
    · rw [incs_get _ _ _ q, List.count_eq_zero.mpr hs]; omega
    · rw [getD_out (F := F) (by omega), getD_out (by rw [incs_len]; omega)]
  have hhi : ∀ s, F.getD s 0 ≤ 63 := fun s => by
    have h1 := h.hi s
    rw [List.length_cons, List.length_cons] at h1
    omega
  refine ⟨by rw [incs_len]; exact h.len, f.nodup_iff.mpr h.nd, fun s hs => h.inb s (f.mem_iff.mp hs), by rw [f.length_eq]; exact h.all, fun s h1 h2 => f.mem_iff.mpr (h.want s h1 h2), fun s => Int.le_trans (h.nn s) (hge s).1, fun s => ?_, fun p hp => ?_, fun p hp => ?_, fun s hs => ?_⟩
  · have h1 := h.hi s
    have h2 := (hge s).2
    rw [List.length_cons, List.length_cons] at h1
    rw [List.length_append, List.length_singleton]
    omega
  · rcases List.mem_append.mp hp with q | q
    · rcases h.one p (List.mem_cons_of_mem _ (List.mem_cons_of_mem _ q)) with z | z
      · exact .inl z
      · exact .inr fun s hs => Int.lt_of_lt_of_le (z s hs) (hge s).1
    · rw [List.mem_singleton.mp q]
      exact .inr fun s hs => by have := h.nn s; rw [hon s hs]; omega
  · rcases List.mem_append.mp hp with q | q
    · rw [sumP_same (F := F) fun s hs => hoff s fun z => n3 s z s (List.mem_flatten.mpr ⟨p, q, hs⟩) rfl]
      exact h.sum p (List.mem_cons_of_mem _ (List.mem_cons_of_mem _ q))
    · rw [List.mem_singleton.mp q]
      have h1 := sumP_half (F := F) (G := incs F (a ++ b)) (p := a ++ b) fun s hs => ⟨hon s hs, hhi s⟩
      have h2 := sumP_app F a b
      have h3 := h.sum a (List.mem_cons_self ..)
      have h4 := h.sum b (List.mem_cons_of_mem _ (List.mem_cons_self ..))
      omega
  · have h1 : s ∉ (a :: b :: R).flatten := fun z => hs (f.mem_iff.mpr z)
    rw [hoff s fun z => h1 (by rw [List.flatten_cons, List.flatten_cons, ← List.append_assoc]; exact List.mem_append_left _ z)]
    exact h.out s h1
theorem rm_range (F : List Int) : rmL F = (((List.range F.length).filter fun s => decide (0 < F.getD s 0)).map fun s => (2 : Int) ^ (15 - F.getD s 0).toNat).sum := by
  have e : F = (List.range F.length).map fun s => F.getD s 0 := by
    refine List.ext_getElem (by simp) fun k h1 h2 => ?_
    rw [List.getElem_map, List.getElem_range, List.getD_eq_getElem?_getD, List.getElem?_eq_getElem h1]; rfl
  unfold rmL
  conv => lhs; rw [e]
  rw [List.filter_map, List.map_map]; rfl
theorem sum_scale : ∀ (p : List Nat) (F : List Int), (∀ s ∈ p, F.getD s 0 ≤ 15) → sumP F p = 562949953421312 * (p.map fun s => (2 : Int) ^ (15 - F.getD s 0).toNat).sum
  | [], _, _ => rfl
  | s :: p, F, h => by
    have ih := sum_scale p F fun x hx => h x (List.mem_cons_of_mem _ hx)
    have h1 := h s (List.mem_cons_self ..)
    have e1 : sumP F (s :: p) = (2 : Int) ^ (64 - F.getD s 0).toNat + sumP F p := by unfold sumP; rw [List.map_cons, List.sum_cons]
    rw [e1, List.map_cons, List.sum_cons, ih, show (64 - F.getD s 0).toNat = 49 + (15 - F.getD s 0).toNat by omega, Int.pow_add, show (2 : Int) ^ 49 = 562949953421312 by decide +kernel, Int.mul_add]
theorem BP.fin {cs : List Int} {N : Nat} {P : List (List Nat)} {F : List Int} (h : BP cs N P F) (hP : P.length ≤ 1) (hN : N ≠ 1) : Has cs F ∧ ((∀ f ∈ F, f ≤ 15) → rmL F ≤ 32768) := by
  match P, hP with
  | [], _ =>
    refine ⟨fun s h1 h2 => absurd (h.want s h1 h2) (by simp), fun _ => ?_⟩
    have e : F = List.replicate F.length 0 := List.eq_replicate_iff.mpr ⟨rfl, fun f hf => by
      obtain ⟨s, hs⟩ := List.mem_iff_getElem?.mp hf
      have := h.out s (by simp)
      rw [List.getD_eq_getElem?_getD, hs] at this
      exact this⟩
    rw [e, rm_zero]; decide
  | [p], _ =>
    have ef : ([p] : List (List Nat)).flatten = p := by rw [List.flatten_cons, List.flatten_nil, List.append_nil]
    have hl := h.all
    have hpos : ∀ s ∈ p, 0 < F.getD s 0 := by
      rcases h.one p (List.mem_cons_self ..) with z | z
      · rw [ef] at hl; omega
      · exact z
    refine ⟨fun s h1 h2 => hpos s (by have := h.want s h1 h2; rwa [ef] at this), fun hb => ?_⟩
    have hle : ∀ s, F.getD s 0 ≤ 15 := fun s => by
      by_cases q : s < F.length
      · rw [List.getD_eq_getElem?_getD, List.getElem?_eq_getElem q]; exact hb _ (List.getElem_mem q)
      · rw [getD_out (by omega)]; decide
    have hnd := h.nd
    have hout := h.out
    have hinb := h.inb
    rw [ef] at hnd hout hinb
    have hpm : ((List.range F.length).filter fun s => decide (0 < F.getD s 0)).Perm p := by
      refine List.perm_iff_count.mpr fun s => ?_
      have n1 : ((List.range F.length).filter fun s => decide (0 < F.getD s 0)).Nodup := List.nodup_range.filter _
      have c1 := List.nodup_iff_count.mp n1 s
      have c2 := List.nodup_iff_count.mp hnd s
      by_cases q : s ∈ p
      · have d1 := List.count_pos_iff.mpr q
        have d2 := List.count_pos_iff.mpr (List.mem_filter.mpr ⟨List.mem_range.mpr (by rw [h.len]; exact hinb s q), decide_eq_true (hpos s q)⟩ : s ∈ (List.range F.length).filter fun s => decide (0 < F.getD s 0))
        omega
      · rw [List.count_eq_zero.mpr q, List.count_eq_zero.mpr fun z => by
          have := of_decide_eq_true (List.mem_filter.mp z).2
          rw [hout s q] at this
          omega]
    have h1 := sum_scale p F fun s _ => hle s
    have h2 := h.sum p (List.mem_cons_self ..)
    rw [rm_range, sum_perm (hpm.map fun s => (2 : Int) ^ (15 - F.getD s 0).toNat)]
    omega
structure OB (cs : List Int) (W : List Nat) (j : Nat) (F : List Int) (room : Int) : Prop where
  len : F.length = cs.length
  bd : ∀ f ∈ F, 0 ≤ f ∧ f ≤ 15
  rm : rmL F + room = 32768
  lack : (W.length : Int) - j ≤ room
  got : ∀ s ∈ W.take j, 0 < F.getD s 0
  zero : ∀ s ∈ W.drop j, F.getD s 0 = 0
theorem OB.next {cs : List Int} {W : List Nat} {j s : Nat} {F : List Int} {room l : Int} (h : OB cs W j F room) (hW : W.Nodup) (hin : ∀ s ∈ W, s < cs.length) (hj : W[j]? = some s) (hl : 1 ≤ l ∧ l ≤ 15) (hr : (2 : Int) ^ (15 - l).toNat + ((W.length : Int) - 1 - j) ≤ room) : OB cs W (j + 1) (F.set s l) (room - (2 : Int) ^ (15 - l).toNat) := by
  have hlt := (List.getElem?_eq_some_iff.mp hj).1
  have hs : s < F.length := by rw [h.len]; exact hin s (List.mem_of_getElem? hj)
  have hd : W.drop j = s :: W.drop (j + 1) := by
    rw [List.drop_eq_getElem_cons hlt]
    rw [(List.getElem?_eq_some_iff.mp hj).2]
  have hnd : (W.drop j).Nodup := hW.sublist (List.drop_sublist _ _)
  rw [hd] at hnd
  have hz := h.zero s (by rw [hd]; exact List.mem_cons_self ..)
  refine ⟨by rw [List.length_set]; exact h.len, fun f hf => ?_, ?_, by omega, fun x hx => ?_, fun x hx => ?_⟩
  · rcases List.mem_or_eq_of_mem_set hf with q | q
    · exact h.bd f q
    · subst q; omega
  · rw [rm_set F s l hs hz (by omega)]
    have := h.rm
    omega
  · rw [List.take_add_one, hj] at hx
    by_cases q : x = s
    · subst q; rw [getD_set _ _ _ _ hs, if_pos rfl]; omega
    · rcases List.mem_append.mp hx with z | z
      · rw [getD_set _ _ _ _ (by rw [h.len]; exact hin x (List.mem_of_mem_take z)), if_neg q]
        exact h.got x z
      · exact absurd (List.mem_singleton.mp z) q
  · have q : x ≠ s := fun z => (List.nodup_cons.mp hnd).1 (z ▸ hx)
    rw [getD_set _ _ _ _ (by rw [h.len]; exact hin x (List.mem_of_mem_drop hx)), if_neg q]
    exact h.zero x (by rw [hd]; exact List.mem_cons_of_mem _ hx)
def k4 (zs : List Pt) : Int := (zs.map fun z => (2 : Int) ^ (4 - z.2).toNat).sum
theorem k4_app (a b : List Pt) : k4 (a ++ b) = k4 a + k4 b := by unfold k4; rw [List.map_append, List.sum_append]
theorem cost_app (a b : List Pt) : costL (a ++ b) = costL a + costL b := by unfold costL; rw [List.map_append, List.sum_append]
theorem k4_one (z : Pt) : k4 [z] = (2 : Int) ^ (4 - z.2).toNat := by show (2 : Int) ^ (4 - z.2).toNat + 0 = _; omega
theorem cost_one (z : Pt) : costL [z] = z.1 * z.2 := by show z.1 * z.2 + 0 = _; omega
theorem k4_kr : ∀ {zs : List Pt}, (∀ z ∈ zs, z.2 ≤ 4) → krL (zs.map Prod.snd) = 2048 * k4 zs
  | [], _ => rfl
  | z :: zs, h => by
    have ih := k4_kr (zs := zs) fun x hx => h x (List.mem_cons_of_mem _ hx)
    have h1 := h z (List.mem_cons_self ..)
    have e : k4 (z :: zs) = (2 : Int) ^ (4 - z.2).toNat + k4 zs := by unfold k4; rw [List.map_cons, List.sum_cons]
    rw [List.map_cons, kr_cons, e, ih, show (15 - z.2).toNat = 11 + (4 - z.2).toNat by omega, Int.pow_add, show (2 : Int) ^ 11 = 2048 by decide, Int.mul_add]
theorem cost_le : ∀ {zs : List Pt}, (∀ z ∈ zs, 0 ≤ z.1 ∧ z.2 ≤ 4) → costL zs ≤ 4 * (zs.map Prod.fst).sum
  | [], _ => by decide
  | z :: zs, h => by
    have ih := cost_le (zs := zs) fun x hx => h x (List.mem_cons_of_mem _ hx)
    obtain ⟨h1, h2⟩ := h z (List.mem_cons_self ..)
    rw [cost_cons, List.map_cons, List.sum_cons]
    have := Int.mul_le_mul_of_nonneg_left h2 h1
    omega
def Len4 (U : List Int) (zs : List Pt) : Prop := zs.map Prod.fst = U ∧ ∀ z ∈ zs, 1 ≤ z.2 ∧ z.2 ≤ 4
structure DP4 (U : List Int) (ps : List Pt) : Prop where
  nd : Nd ps
  few : ps.length ≤ 4 ^ U.length
  low : ∀ p ∈ ps, 0 ≤ p.1 ∧ ∃ zs, Len4 U zs ∧ p.1 = 16 - k4 zs ∧ p.2 = costL zs
  up : ∀ zs, Len4 U zs → k4 zs ≤ 16 → ∃ c, (16 - k4 zs, c) ∈ ps ∧ c ≤ costL zs
theorem dp4_nil : DP4 [] [(16, 0)] := by
  refine ⟨List.nodup_cons.mpr ⟨(fun z => by cases z), .nil⟩, by decide, fun p hp => ?_, fun zs h _ => ?_⟩
  · rw [List.mem_singleton.mp hp]
    exact ⟨by decide, [], ⟨rfl, (fun z h => by cases h)⟩, rfl, rfl⟩
  · obtain rfl : zs = [] := List.map_eq_nil_iff.mp h.1
    exact ⟨0, List.mem_singleton.mpr rfl, by decide⟩
def candP (w : Int) (p : Pt) : Nat → List Pt
  | 0 => []
  | j + 1 => candP w p j ++ (if 0 ≤ p.1 - (2 : Int) ^ (3 - j) then [(p.1 - (2 : Int) ^ (3 - j), p.2 + w * ((j : Int) + 1))] else [])
def cand (w : Int) (ps : List Pt) : List Pt := (ps.map fun p => candP w p 4).flatten
theorem candP_mem {w : Int} {p q : Pt} : ∀ {j : Nat}, j ≤ 4 → (q ∈ candP w p j ↔ ∃ l : Int, 1 ≤ l ∧ l ≤ (j : Int) ∧ q.1 = p.1 - (2 : Int) ^ (4 - l).toNat ∧ 0 ≤ q.1 ∧ q.2 = p.2 + w * l)
  | 0, _ => ⟨(fun h => by cases h), fun ⟨l, h1, h2, _⟩ => by omega⟩
  | j + 1, hj => by
    have ih := candP_mem (w := w) (p := p) (q := q) (j := j) (by omega)
    have e : (4 - ((j : Int) + 1)).toNat = 3 - j := by omega
    unfold candP
    rw [List.mem_append, ih]
    constructor
    · rintro (⟨l, h1, h2, h3⟩ | h)
      · exact ⟨l, h1, by omega, h3⟩
      · split at h
        · rename_i h0
          rw [List.mem_singleton.mp h]
          exact ⟨(j : Int) + 1, by omega, by omega, by rw [e], h0, rfl⟩
        · cases h
    · rintro ⟨l, h1, h2, h3, h4, h5⟩
      by_cases q' : l ≤ (j : Int)
      · exact .inl ⟨l, h1, q', h3, h4, h5⟩
      · obtain rfl : l = (j : Int) + 1 := by omega
        rw [e] at h3
        rw [if_pos (by rw [← h3]; exact h4)]
        exact .inr (List.mem_singleton.mpr (Prod.ext h3 h5))
theorem candP_len (w : Int) (p : Pt) : ∀ j, (candP w p j).length ≤ j
  | 0 => Nat.le_refl _
  | j + 1 => by
    have := candP_len w p j
    unfold candP
    rw [List.length_append]
    split
    · rw [List.length_singleton]; omega
    · rw [List.length_nil]; omega
theorem cand_len (w : Int) : ∀ ps, (cand w ps).length ≤ 4 * ps.length
  | [] => Nat.le_refl _
  | p :: ps => by
    have := cand_len w ps
    have := candP_len w p 4
    have e : cand w (p :: ps) = candP w p 4 ++ cand w ps := by unfold cand; rw [List.map_cons, List.flatten_cons]
    rw [e, List.length_append, List.length_cons]; omega
theorem cand_snoc (w : Int) (ps : List Pt) (p : Pt) : cand w (ps ++ [p]) = cand w ps ++ candP w p 4 := by
  unfold cand
  rw [List.map_append, List.flatten_append, List.map_cons, List.flatten_cons, List.map_nil, List.flatten_nil, List.append_nil]
/-- the least cost of each key -/
structure MD (fd Cs : List Pt) : Prop where
  nd : Nd fd
  len : fd.length ≤ Cs.length
  low : ∀ p ∈ fd, p ∈ Cs
  up : ∀ q ∈ Cs, ∃ c, (q.1, c) ∈ fd ∧ c ≤ q.2
theorem md_nil : MD [] [] := ⟨List.nodup_nil, Nat.le_refl _, (fun p h => by cases h), fun p h => by cases h⟩
theorem vlP_some {ps : List Pt} {k c : Int} (h : vlP ps k = some c) : (k, c) ∈ ps := by
  unfold vlP at h
  obtain ⟨p, h1, h2⟩ := Option.map_eq_some_iff.mp h
  have h3 := List.find?_some h1
  have h3 : p.1 = k := by simpa using h3
  have h4 := List.mem_of_find?_eq_some h1
  rwa [show p = (k, c) from Prod.ext h3 h2] at h4
theorem puP_nd {ps : List Pt} {k c : Int} (h : Nd ps) : Nd (puP ps k c) := by
  unfold puP
  split
  · unfold Nd
    rw [List.map_map, show (Prod.fst ∘ fun p : Pt => if p.1 = k then (p.1, c) else p) = Prod.fst from by
      funext p
      show (if p.1 = k then (p.1, c) else p).1 = p.1
      split <;> rfl]
    exact h
  · rename_i ha
    unfold Nd
    rw [List.map_append]
    refine List.nodup_append.mpr ⟨h, List.nodup_cons.mpr ⟨(fun z => by cases z), .nil⟩, fun a ha' b hb => ?_⟩
    obtain ⟨p, hp, rfl⟩ := List.mem_map.mp ha'
    rw [List.mem_singleton.mp hb]
    exact fun z => ha (List.any_eq_true.mpr ⟨p, hp, decide_eq_true z⟩)
theorem MD.put {fd Cs : List Pt} {k c : Int} (h : MD fd Cs) (hc : c ≤ 16000) : MD (puP fd k (min ((vlP fd k).getD 16000) c)) (Cs ++ [(k, c)]) := by
  have nd := puP_nd (k := k) (c := min ((vlP fd k).getD 16000) c) h.nd
  refine ⟨nd, ?_, fun p hp => ?_, fun q hq => ?_⟩
  · have := puP_len fd k (min ((vlP fd k).getD 16000) c)
    have := h.len
    rw [List.length_append, List.length_singleton]; omega
  · have v := vlP_mem nd hp
    rw [puP_vl] at v
    by_cases e : p.1 = k
    · rw [if_pos e] at v
      have v := Option.some.inj v
      cases o : vlP fd k with
      | none =>
        rw [o] at v
        have v : min 16000 c = p.2 := v
        exact List.mem_append_right _ (List.mem_singleton.mpr (Prod.ext e (by show p.2 = c; omega)))
      | some d =>
        rw [o] at v
        have v : min d c = p.2 := v
        by_cases z : d ≤ c
        · have := h.low _ (vlP_some o)
          rw [show p = (k, d) from Prod.ext e (by show p.2 = d; omega)]
          exact List.mem_append_left _ this
        · exact List.mem_append_right _ (List.mem_singleton.mpr (Prod.ext e (by show p.2 = c; omega)))
    · rw [if_neg e] at v
      exact List.mem_append_left _ (h.low p (vlP_some v))
  · by_cases e : q.1 = k
    · have v := puP_vl fd k (min ((vlP fd k).getD 16000) c) k
      rw [if_pos rfl] at v
      refine ⟨_, by rw [e]; exact vlP_some v, ?_⟩
      rcases List.mem_append.mp hq with z | z
      · obtain ⟨c', h1, h2⟩ := h.up q z
        have := vlP_mem h.nd h1
        rw [e] at this
        rw [this]
        show min c' c ≤ q.2
        omega
      · rw [List.mem_singleton.mp z]
        show _ ≤ c
        omega
    · rcases List.mem_append.mp hq with z | z
      · obtain ⟨c', h1, h2⟩ := h.up q z
        have v := puP_vl fd k (min ((vlP fd k).getD 16000) c) q.1
        rw [if_neg e, vlP_mem h.nd h1] at v
        exact ⟨c', vlP_some v, h2⟩
      · exact absurd (by rw [List.mem_singleton.mp z]) e
theorem DP4.next {U : List Int} {w : Int} {ps fd : List Pt} (h : DP4 U ps) (hm : MD fd (cand w ps)) : DP4 (U ++ [w]) fd := by
  refine ⟨hm.nd, ?_, fun p hp => ?_, fun zs hz hk => ?_⟩
  · have h1 := hm.len
    have h2 := cand_len w ps
    have h3 := h.few
    rw [List.length_append, List.length_singleton, Nat.pow_succ]; omega
  · obtain ⟨t, ht, hpt⟩ := List.mem_flatten.mp (hm.low p hp)
    obtain ⟨r, hr, rfl⟩ := List.mem_map.mp ht
    obtain ⟨l, h1, h2, h3, h4, h5⟩ := (candP_mem (Nat.le_refl 4)).mp hpt
    obtain ⟨_, zs, hz, e1, e2⟩ := h.low r hr
    refine ⟨h4, zs ++ [(w, l)], ⟨by rw [List.map_append, hz.1]; rfl, fun z hz' => ?_⟩, ?_, ?_⟩
    · rcases List.mem_append.mp hz' with q | q
      · exact hz.2 z q
      · rw [List.mem_singleton.mp q]; exact ⟨h1, h2⟩
    · rw [k4_app, k4_one, h3, e1]
      show _ - (2 : Int) ^ (4 - l).toNat = _ - (_ + (2 : Int) ^ (4 - l).toNat)
      omega
    · rw [cost_app, cost_one, h5, e2]
  · obtain ⟨h1, h2⟩ := hz
    have hne : zs ≠ [] := fun z => by
      rw [z] at h1
      have := congrArg List.length h1
      rw [List.length_append, List.length_singleton] at this
      cases this
    obtain ⟨zs0, z, rfl⟩ : ∃ zs0 z, zs = zs0 ++ [z] := ⟨zs.dropLast, zs.getLast hne, (List.dropLast_concat_getLast hne).symm⟩
    rw [List.map_append] at h1
    obtain ⟨e1, e2⟩ := List.append_inj' h1 rfl
    have e2 : z.1 = w := (List.cons.inj e2).1
    rw [k4_app, k4_one] at hk
    have hp := pow_pos15 (4 - z.2).toNat
    obtain ⟨c0, m0, l0⟩ := h.up zs0 ⟨e1, fun x hx => h2 x (List.mem_append_left _ hx)⟩ (by omega)
    obtain ⟨z1, z2⟩ := h2 z (List.mem_append_right _ (List.mem_singleton.mpr rfl))
    obtain ⟨c, hc1, hc2⟩ := hm.up (16 - k4 (zs0 ++ [z]), c0 + w * z.2) (List.mem_flatten.mpr ⟨_, List.mem_map_of_mem m0, (candP_mem (Nat.le_refl 4)).mpr ⟨z.2, z1, z2, (by rw [k4_app, k4_one]; show _ = 16 - k4 zs0 - _; omega), (by rw [k4_app, k4_one]; show 0 ≤ 16 - (k4 zs0 + _); omega), rfl⟩⟩)
    refine ⟨c, hc1, ?_⟩
    rw [cost_app, cost_one, e2]
    have hc2 : c ≤ c0 + w * z.2 := hc2
    omega
/-- the least value of the last states is what the least lengths come to -/
theorem DP4.least {cs : List Int} (hc : Cts cs) {qs : List Pt} {b : Int} (hp : Pap cs qs b) {U : List Int} (hU : U.Perm ((fpF 0 cs).map Prod.snd)) (h5 : U.length ≤ 5) {ps : List Pt} (h : DP4 U ps) : ∃ i is, ps.map Prod.snd = i :: is ∧ is.foldl min i = b := by
  have hlen := hp.len
  have hL := lens_of hc hp
  have hnn : ∀ c ∈ cs, 0 ≤ c := fun c h => (hc.bd c h).1
  have hU2 := hU.length_eq
  rw [List.length_map] at hU2
  have hle := lenBy_le (cs := cs) (qs := qs) (by omega)
  generalize lenBy (cs.length : Int) cs qs = ls at hL hle
  have hz := wz_mem cs ls hL.has
  obtain ⟨zs, z1, z2⟩ := perm_lift hU.symm (wz cs ls) (wz_fst cs ls 0 hL.len)
  have hz2 : ∀ z ∈ zs, 1 ≤ z.2 ∧ z.2 ≤ 4 := fun z hz' => by
    obtain ⟨a1, a2, _⟩ := hz z (z2.mem_iff.mp hz')
    exact ⟨by omega, hle _ a1⟩
  have hk := wz_kr cs ls hL.has
  rw [← kr_perm (z2.map Prod.snd), k4_kr fun z hz' => (hz2 z hz').2] at hk
  have hroom := hL.room
  have hcost : costL zs = b := by rw [cost_perm z2, wz_cost cs ls hnn, hL.dot]
  obtain ⟨c, m1, m2⟩ := h.up zs ⟨z1, hz2⟩ (by omega)
  have hmem : c ∈ ps.map Prod.snd := List.mem_map_of_mem m1
  cases q : ps.map Prod.snd with
  | nil => rw [q] at hmem; cases hmem
  | cons i is =>
    refine ⟨i, is, rfl, Int.le_antisymm ?_ ?_⟩
    · rw [q] at hmem
      have := fmin_le is i c hmem
      omega
    · have hm := fmin_mem is i
      rw [← q] at hm
      obtain ⟨p, hp', e⟩ := List.mem_map.mp hm
      obtain ⟨p0, ys, y1, y2, y3⟩ := h.low p hp'
      rw [← e, y3]
      refine least_zs hc hp (by rw [y1.1]; exact hU) (fun z hz' => ⟨(y1.2 z hz').1, by have := (y1.2 z hz').2; omega⟩) ?_
      rw [k4_kr fun z hz' => (y1.2 z hz').2]
      omega
theorem dot_rng : ∀ (cs ls : List Int), ls.length = cs.length → ((List.range cs.length).map fun k => cs.getD k 0 * ls.getD k 0).sum = dotL cs ls
  | [], [], _ => rfl
  | [], _ :: _, h => by cases h
  | c :: cs, [], h => by cases h
  | c :: cs, l :: ls, h => by
    rw [List.length_cons, List.range_succ_eq_map, List.map_cons, List.sum_cons, List.map_map]
    show c * l + _ = c * l + dotL cs ls
    rw [← dot_rng cs ls (by simpa using h)]; rfl
theorem lc_filJ {β : Type} {ws : List Nat} {g : Tg} {c : Mo Bool} {e : Mo D} {ck : Option (Nat × Cn)} {s : Stt} {ys : List β} {P : List D → Stt → Prop} (g0 : β → D) (p : β → Bool) (f : β → D) (hk : chk ck s) (hz : ys.length ≤ sizeLine) (h : ∀ y ∈ ys, So (fun s1 => Wo (fun b s2 => b = p y ∧ if b = true then Wo (fun d s3 => d = f y ∧ wipeS ws s3 = s) Xf (e s2) else wipeS ws s2 = s) Xf (c s1)) (g (g0 y) s)) (k : P ((ys.filter p).map f) s) : ∃ l s2, lcN ws g c e ck (ys.map g0) [] s = .ok l s2 ∧ P l s2 := by
  refine ⟨(ys.filter p).map f, s, ?_, k⟩
  have gen : ∀ (zs : List β) (acc : List D), acc.length + zs.length ≤ sizeLine → (∀ y ∈ zs, y ∈ ys) → lcN ws g c e ck (zs.map g0) acc s = .ok (acc ++ (zs.filter p).map f) s := by
    intro zs
    induction zs with
    | nil => intro acc _ _; rw [List.map_nil]; unfold lcN; rw [if_pos hk]; simp
    | cons y zs ih =>
      intro acc hl hy
      have hh := h y (hy y List.mem_cons_self)
      have hl' : acc.length + (zs.length + 1) ≤ sizeLine := hl
      rw [List.map_cons]
      unfold lcN
      rw [if_pos hk]
      cases q : g (g0 y) s with
      | none => rw [q] at hh; exact False.elim hh
      | some s1 =>
        rw [q] at hh
        have hh : Wo (fun b s2 => b = p y ∧ if b = true then Wo (fun d s3 => d = f y ∧ wipeS ws s3 = s) Xf (e s2) else wipeS ws s2 = s) Xf (c s1) := hh
        show (match c s1 with | .ok b s2 => if b = true then (match e s2 with | .ok d s3 => if acc.length < sizeLine then lcN ws g c e ck (zs.map g0) (acc ++ [d]) (wipeS ws s3) else .no | _ => .no) else lcN ws g c e ck (zs.map g0) acc (wipeS ws s2) | _ => .no) = _
        cases hc : c s1 with
        | no => rw [hc] at hh; exact False.elim hh
        | er x s2 => rw [hc] at hh; exact False.elim hh
        | ok b s2 =>
          rw [hc] at hh
          obtain ⟨hb, hh⟩ := hh
          show (if b = true then (match e s2 with | .ok d s3 => if acc.length < sizeLine then lcN ws g c e ck (zs.map g0) (acc ++ [d]) (wipeS ws s3) else .no | _ => .no) else lcN ws g c e ck (zs.map g0) acc (wipeS ws s2)) = _
          cases b with
          | false =>
            rw [if_neg Bool.false_ne_true] at hh ⊢
            rw [hh, ih acc (by omega) (fun z hz => hy z (List.mem_cons_of_mem _ hz)), List.filter_cons_of_neg (by rw [← hb]; exact Bool.false_ne_true)]
          | true =>
            rw [if_pos rfl] at hh ⊢
            cases he : e s2 with
            | no => rw [he] at hh; exact False.elim hh
            | er x s2 => rw [he] at hh; exact False.elim hh
            | ok d s3 =>
              rw [he] at hh
              obtain ⟨hd, hw⟩ := hh
              show (if acc.length < sizeLine then lcN ws g c e ck (zs.map g0) (acc ++ [d]) (wipeS ws s3) else .no) = _
              rw [if_pos (by omega), hw, ih (acc ++ [d]) (by rw [List.length_append]; show acc.length + 1 + zs.length ≤ _; omega) (fun z hz => hy z (List.mem_cons_of_mem _ hz)), List.filter_cons_of_pos (by rw [← hb]), hd, List.append_assoc]; rfl
  have := gen ys [] (by show 0 + ys.length ≤ _; omega) (fun _ h => h)
  rw [List.nil_append] at this
  exact this
theorem lc_filR {β : Type} {ws : List Nat} {g : Tg} {c : Mo Bool} {e : Mo D} {ck : Option (Nat × Cn)} {s : Stt} {ys : List β} {P : List D → Stt → Prop} (g0 : β → D) (p : β → Bool) (f : β → D) (r : List D) (er : (ys.filter p).map f = r) (hk : chk ck s) (hz : ys.length ≤ sizeLine) (h : ∀ y ∈ ys, So (fun s1 => Wo (fun b s2 => b = p y ∧ if b = true then Wo (fun d s3 => d = f y ∧ wipeS ws s3 = s) Xf (e s2) else wipeS ws s2 = s) Xf (c s1)) (g (g0 y) s)) (k : P r s) : ∃ l s2, lcN ws g c e ck (ys.map g0) [] s = .ok l s2 ∧ P l s2 := lc_filJ g0 p f hk hz h (by rw [er]; exact k)
theorem cts_get {cs : List Int} (hc : Cts cs) (s : Nat) : 0 ≤ cs.getD s 0 ∧ cs.getD s 0 ≤ 1000 := by
  by_cases q : s < cs.length
  · rw [List.getD_eq_getElem?_getD, List.getElem?_eq_getElem q]; exact hc.bd _ (List.getElem_mem q)
  · rw [getD_out (by omega)]; decide
theorem l_bits_ok {cs ls : List Int} (hc : Cts cs) (hl : ls.length = cs.length) (M : List Cn) : m_l_bits [.lst (cs.map D.int), .lst (ls.map D.int)] M = .ok (.val (.int (dotL cs ls))) M := by
  have hz := hc.few
  refine fo_ok (P := fun _ _ => True) ?_
  walk_at "f0"; unfold b_l_bits
  walk_at "w"
  rw [List.length_map]
  walk_at "w"
  refine w_lcMap (fun d => match d with | .int k => .int (cs.getD k.toNat 0 * ls.getD k.toNat 0) | d => d) ?_ ?_ ?_
  · rw [rng_len]; show _ ≤ 16777216; omega
  · intro x hx
    obtain ⟨k, hk⟩ := List.mem_iff_getElem?.mp hx
    obtain ⟨hk, rfl⟩ := rng_get hk
    walk_at "w"
    refine w_ixI (ns := cs) rfl rfl rfl (by omega) (by omega) ?_
    walk_at "w"
    refine w_ixI (ns := ls) rfl rfl rfl (by omega) (by omega) ?_
    have hb := cts_get hc (0 + (k : Int)).toNat
    refine w_mulI (.inl ⟨by omega, by omega⟩) ?_
    walk_at "w"
    exact ⟨rfl, rfl⟩
  · have e : ((rng 0 (cs.length : Int).toNat).map fun d => match d with | .int k => D.int (cs.getD k.toNat 0 * ls.getD k.toNat 0) | d => d) = ((List.range cs.length).map fun k => cs.getD k 0 * ls.getD k 0).map D.int := by
      unfold rng
      rw [Int.toNat_natCast, List.map_map, List.map_map]
      refine List.map_congr_left fun k _ => ?_
      show D.int (cs.getD (0 + (k : Int)).toNat 0 * ls.getD (0 + (k : Int)).toNat 0) = _
      rw [Int.zero_add, Int.toNat_natCast]; rfl
    rw [e]
    walk_at "ds"
    walk_at "w"
    refine w_ints (ns := (List.range cs.length).map fun k => cs.getD k 0 * ls.getD k 0) (d := .int (dotL cs ls)) rfl (intsD_map _) (by rw [← dot_rng cs ls hl]; rfl) ?_
    walk_at "w"
    exact ⟨rfl, rfl⟩
theorem mixed_eq (c : Int) (M : List Cn) : ∃ mx : Int → Int, ∀ k, 0 ≤ k → k ≤ 1000 → m_l_mixed [.int c, .int k] M = .ok (.val (.int (mx k))) M ∧ 0 ≤ mx k := by
  have h : ∀ k : Int, ∃ x : Int, 0 ≤ k → k ≤ 1000 → m_l_mixed [.int c, .int k] M = .ok (.val (.int x)) M ∧ 0 ≤ x := fun k => by
    by_cases q : 0 ≤ k ∧ k ≤ 1000
    · have := mixed_ok c q.1 q.2 M
      cases e : m_l_mixed [.int c, .int k] M with
      | ok a M2 => rw [e] at this; obtain ⟨x, rfl, h0, _, rfl⟩ := this; exact ⟨x, fun _ _ => ⟨rfl, h0⟩⟩
      | er x M2 => rw [e] at this; exact False.elim this
      | no => rw [e] at this; exact False.elim this
    · exact ⟨0, fun a b => absurd ⟨a, b⟩ q⟩
  exact ⟨fun k => (h k).choose, fun k => (h k).choose_spec⟩
def nL (p : List Nat) : List Int := p.map fun s : Nat => (s : Int)
def prD (P : List (List Nat)) : List D := P.map fun p => .lst ((nL p).map D.int)
theorem perm_erase {α : Type} : ∀ {l : List α} {i : Nat} {a : α}, l[i]? = some a → l.Perm (a :: l.eraseIdx i)
  | [], _, _, h => by cases h
  | x :: l, 0, a, h => by
    obtain rfl : x = a := Option.some.inj h
    exact .refl _
  | x :: l, i + 1, a, h => by
    have h : l[i]? = some a := h
    exact ((perm_erase h).cons x).trans (.swap ..)
theorem prD_erase (P : List (List Nat)) (i : Nat) : (prD P).eraseIdx i = prD (P.eraseIdx i) := by
  unfold prD
  induction P generalizing i with
  | nil => rfl
  | cons x P ih =>
    cases i with
    | zero => rfl
    | succ i =>
      show _ :: (P.map _).eraseIdx i = _ :: (P.eraseIdx i).map _
      rw [ih]
theorem prD_len (P : List (List Nat)) : (prD P).length = P.length := List.length_map ..
theorem prD_get {P : List (List Nat)} {i : Nat} {a : List Nat} (h : P[i]? = some a) : (prD P)[i]? = some (.lst ((nL a).map D.int)) := by unfold prD; rw [List.getElem?_map, h]; rfl
theorem flat_ones : ∀ l : List Nat, (l.map fun k => [k]).flatten = l
  | [] => rfl
  | x :: l => by rw [List.map_cons, List.flatten_cons, flat_ones l]; rfl
theorem getD_zeros (n s : Nat) : (List.replicate n (0 : Int)).getD s 0 = 0 := by
  by_cases q : s < n
  · rw [List.getD_eq_getElem?_getD, List.getElem?_replicate, if_pos q]; rfl
  · exact getD_out (by rw [List.length_replicate]; omega)
theorem incs_snoc (F : List Int) (l : List Nat) (s : Nat) : incs F (l ++ [s]) = (incs F l).set s ((incs F l).getD s 0 + 1) := by
  unfold incs; rw [List.foldl_append]; rfl
theorem bp_first {cs : List Int} {P0 : List Nat} (h1 : P0.Nodup) (h2 : ∀ s ∈ P0, s < cs.length) (h3 : ∀ s, s < cs.length → 0 < cs.getD s 0 → s ∈ P0) : BP cs P0.length (P0.map fun k => [k]) (List.replicate cs.length 0) := by
  refine ⟨List.length_replicate, by rw [flat_ones]; exact h1, by rw [flat_ones]; exact h2, by rw [flat_ones], by rw [flat_ones]; exact h3, fun s => by rw [getD_zeros]; exact Int.le_refl _, fun s => ?_, fun p hp => ?_, fun p hp => ?_, fun s _ => getD_zeros _ s⟩
  · rw [getD_zeros, List.length_map]; omega
  · obtain ⟨k, _, rfl⟩ := List.mem_map.mp hp
    exact .inl rfl
  · obtain ⟨k, _, rfl⟩ := List.mem_map.mp hp
    unfold sumP
    rw [List.map_cons, List.map_nil, List.sum_cons, getD_zeros]; decide +kernel
structure Oth (cs F : List Int) : Prop where
  len : F.length = cs.length
  nn : ∀ f ∈ F, 0 ≤ f
  has : Has cs F
  room : (∀ f ∈ F, f ≤ 15) → rmL F ≤ 32768
theorem by_parts_ok {cs : List Int} (hc : Cts cs) (c : Int) (M : List Cn) : Fo (fun a M' => M' = M ∧ ∃ F : List Int, a = .new (.lst (F.map D.int)) ∧ Oth cs F) (m_l_by_parts [.lst (cs.map D.int), .int c] M) := by
  have hfew := hc.few
  obtain ⟨mx, hmx⟩ := mixed_eq c M
  walk_at "f0"; unfold b_l_by_parts
  walk_at "w"
  rw [List.length_map]
  walk_at "w"
  rw [Int.toNat_natCast]
  obtain ⟨P0, eP0⟩ : ∃ P0, P0 = (List.range cs.length).filter fun k => decide (0 < cs.getD k 0) || decide (mx (0 + (k : Int)) % 9 = 0) := ⟨_, rfl⟩
  refine lc_filR (fun i : Nat => D.int (0 + (i : Int))) (fun k => decide (0 < cs.getD k 0) || decide (mx (0 + (k : Int)) % 9 = 0)) (fun k => D.lst [.int (k : Int)]) (prD (P0.map fun k => [k])) (by rw [← eP0]; unfold prD nL; rw [List.map_map]; rfl) trivial (by rw [List.length_range]; show _ ≤ 16777216; omega) ?_ ?_
  · intro k hk
    have hk1 : k < cs.length := List.mem_range.mp hk
    obtain ⟨e1, e2⟩ := hmx (0 + (k : Int)) (by omega) (by omega)
    walk_at "w"
    refine w_ixI (ns := cs) rfl rfl rfl (by omega) (by omega) ?_
    rw [show (0 + (k : Int)).toNat = k by omega]
    walk_at "w"
    by_cases q : 0 < cs.getD k 0
    · rw [if_pos (decide_eq_true q)]
      refine ⟨by rw [decide_eq_true q]; rfl, ?_⟩
      rw [if_pos rfl]
      walk_at "w"
      exact ⟨by rw [Int.zero_add], rfl⟩
    · rw [if_neg (fun z => q (of_decide_eq_true z))]
      walk_at "w"
      refine fo_eq e1 ?_
      walk_at "w"
      refine ⟨by rw [decide_eq_false q, Bool.false_or] <;> rfl, ?_⟩
      refine z_if (fun _ => ?_) (fun _ => ?_)
      · walk_at "w"
        exact ⟨by rw [Int.zero_add], rfl⟩
      · rfl
  · have hnd : P0.Nodup := by rw [eP0]; exact List.nodup_range.filter _
    have hin : ∀ s ∈ P0, s < cs.length := fun s hs => by rw [eP0] at hs; exact List.mem_range.mp (List.mem_filter.mp hs).1
    have hwt : ∀ s, s < cs.length → 0 < cs.getD s 0 → s ∈ P0 := fun s h1 h2 => by
      rw [eP0]
      exact List.mem_filter.mpr ⟨List.mem_range.mpr h1, by rw [decide_eq_true h2]; rfl⟩
    have hb0 := bp_first hnd hin hwt
    have hP0 : P0.length ≤ 64 := by
      rw [eP0]
      have := List.length_filter_le (fun k => decide (0 < cs.getD k 0) || decide (mx (0 + (k : Int)) % 9 = 0)) (List.range cs.length)
      rw [List.length_range] at this
      omega
    clear eP0
    walk_at "ds"
    walk_at "w"
    refine w_lcMap (fun _ => .int 0) (by rw [List.length_map]; show _ ≤ 16777216; omega) ?_ ?_
    · intro x _
      walk_at "w"
      exact ⟨rfl, rfl⟩
    · rw [show ((cs.map D.int).map fun _ => D.int 0) = (List.replicate cs.length 0).map D.int from by rw [List.map_map, List.map_replicate, ← List.map_const']; rfl]
      walk_at "ds"
      walk_at "wi"
      refine w_join (fun s => ∃ F : List Int, s = ⟨[some (.fz (.lst (cs.map D.int))), some (.fz (.int c)), some (.ow (.lst (prD (P0.map fun k => [k])))), some (.ow (.lst (F.map D.int))), none, none, none, none, none, none], M⟩ ∧ ((P0.length ≠ 1 ∧ BP cs P0.length (P0.map fun k => [k]) F) ∨ (P0.length = 1 ∧ Oth cs F))) ?_ ?_
      · walk_at "w"
        rw [prD_len, List.length_map]
        refine z_if (fun q => ?_) (fun q => ?_)
        · match P0, q with
          | [k], _ =>
            have hk := hin k (List.mem_singleton.mpr rfl)
            walk_at "w"
            refine w_ixL (d := .lst ((nL [k]).map D.int)) rfl rfl rfl rfl ?_
            walk_at "w"
            refine w_ixI (ns := nL [k]) rfl rfl rfl (by decide) (by show (0 : Int) < 1; decide) ?_
            rw [show (nL [k]).getD (0 : Int).toNat 0 = (k : Int) from rfl]
            walk_at "w"
            refine so_setI (ns := List.replicate cs.length 0) rfl (by omega) (by rw [List.length_replicate]; omega) ?_
            rw [Int.toNat_natCast]
            walk_at "ds"
            have hz := getD_zeros cs.length
            refine ⟨_, rfl, .inr ⟨rfl, by rw [List.length_set, List.length_replicate], fun f hf => ?_, fun i h1 h2 => ?_, fun _ => ?_⟩⟩
            · rcases List.mem_or_eq_of_mem_set hf with z | z
              · rw [(List.mem_replicate.mp z).2]; exact Int.le_refl _
              · subst z; decide
            · rw [List.mem_singleton.mp (hwt i h1 h2), getD_set _ _ _ _ (by rw [List.length_replicate]; exact hk), if_pos rfl]; decide
            · rw [rm_set _ _ _ (by rw [List.length_replicate]; exact hk) (hz k) (by decide), rm_zero]; decide
        · exact ⟨_, rfl, .inl ⟨fun z => q (by omega), hb0⟩⟩
      · rintro s ⟨F0, e, hq⟩
        subst e
        walk_at "w"
        refine w_while (fun n s => ∃ (P : List (List Nat)) (F : List Int) (e4 e5 e6 e7 : Option Ent), s = ⟨[some (.fz (.lst (cs.map D.int))), some (.fz (.int c)), some (.ow (.lst (prD P))), some (.ow (.lst (F.map D.int))), e4, e5, e6, e7, none, none], M⟩ ∧ n = P.length ∧ ((P0.length ≠ 1 ∧ BP cs P0.length P F) ∨ (P0.length = 1 ∧ P.length = 1 ∧ Oth cs F))) P0.length ⟨_, F0, _, _, _, _, rfl, by rw [List.length_map], ?_⟩ ?_ (fun r h z => by subst z; exact h)
        · rcases hq with z | z
          · exact .inl z
          · exact .inr ⟨z.1, by rw [List.length_map]; exact z.1, z.2⟩
        · rintro n s ⟨P, F, e4, e5, e6, e7, rfl, rfl, hq⟩
          walk_at "w"
          rw [prD_len]
          refine z_if (fun q => ?_) (fun q => ?_)
          · rcases hq with ⟨hN, hb⟩ | hq
            · have hPl : P.length ≤ 64 := by
                have h1 := hb.hi 0
                have h2 := hb.nn 0
                omega
              obtain ⟨e1, e2⟩ := hmx (64 + (P.length : Int)) (by omega) (by omega)
              walk_at "w"
              rw [prD_len]
              refine fo_eq e1 ?_
              generalize mx (64 + (P.length : Int)) = x at e2
              walk_at "w"
              rw [prD_len]
              have hi1 := Int.emod_nonneg x (b := (P.length : Int)) (by omega)
              have hi2 := Int.emod_lt_of_pos x (b := (P.length : Int)) (by omega)
              obtain ⟨i, ei⟩ : ∃ i, i = x % (P.length : Int) := ⟨_, rfl⟩
              rw [← ei] at hi1 hi2
              obtain ⟨a, ha⟩ : ∃ a, P[i.toNat]? = some a := ⟨_, List.getElem?_eq_getElem (by omega)⟩
              have hp1 := perm_erase ha
              walk_at "w"
              rw [← ei]
              refine w_popA (l := prD P) rfl ⟨hi1, by rw [prD_len]; exact hi2, by omega⟩ (prD_get ha) ?_
              rw [prD_erase]
              have hl1 := hp1.length_eq
              rw [List.length_cons] at hl1
              generalize P.eraseIdx i.toNat = P1 at hp1 hl1 ⊢
              walk_at "ds"
              walk_at "w"
              rw [prD_len]
              walk_at "w"
              have hj1 := Int.emod_nonneg (x / 64) (b := (P1.length : Int)) (by omega)
              have hj2 := Int.emod_lt_of_pos (x / 64) (b := (P1.length : Int)) (by omega)
              obtain ⟨j, ej⟩ : ∃ j, j = x / 64 % (P1.length : Int) := ⟨_, rfl⟩
              rw [← ej] at hj1 hj2
              obtain ⟨b, hbj⟩ : ∃ b, P1[j.toNat]? = some b := ⟨_, List.getElem?_eq_getElem (by omega)⟩
              have hp2 := perm_erase hbj
              walk_at "w"
              rw [← ej]
              refine w_popA (l := prD P1) rfl ⟨hj1, by rw [prD_len]; exact hj2, by omega⟩ (prD_get hbj) ?_
              rw [prD_erase]
              have hl2 := hp2.length_eq
              rw [List.length_cons] at hl2
              generalize P1.eraseIdx j.toNat = R at hp2 hl2 ⊢
              have hbm := (hb.perm (hp1.trans (hp2.cons a)))
              have hbn := hbm.merge hP0
              have hab : ∀ s ∈ a ++ b, s < cs.length := fun s hs => hbm.inb s (by rw [List.flatten_cons, List.flatten_cons, ← List.append_assoc]; exact List.mem_append_left _ hs)
              have hal : (a ++ b).length ≤ 64 := by
                have h1 := hbm.all
                rw [List.flatten_cons, List.flatten_cons, ← List.append_assoc, List.length_append] at h1
                omega
              have hal' := hal
              rw [List.length_append] at hal'
              have hna : (nL a).length = a.length := List.length_map ..
              have hnb : (nL b).length = b.length := List.length_map ..
              have hnab : (nL a).map D.int ++ (nL b).map D.int = (nL (a ++ b)).map D.int := by unfold nL; rw [List.map_append, List.map_append]
              walk_at "ds"
              walk_at "w"
              refine w_addL (l := (nL a).map D.int) (l' := (nL b).map D.int) rfl rfl rfl (by rw [List.length_map, List.length_map]; show _ ≤ 16777216; omega) ?_
              walk_at "w"
              rw [hnab]
              obtain ⟨T, eT⟩ : ∃ T, T = a ++ b := ⟨_, rfl⟩
              rw [← eT] at hbn hab hal hnab ⊢
              have hFl := hb.len
              refine w_forN (fun i s => ∃ e7 : Option Ent, s = ⟨[some (.fz (.lst (cs.map D.int))), some (.fz (.int c)), some (.ow (.lst (prD R))), some (.ow (.lst ((incs F (T.take i)).map D.int))), some (.fz (.int x)), some (.fz (.lst ((nL a).map D.int))), some (.fz (.lst ((nL b).map D.int))), e7, none, none], M⟩) ⟨_, rfl⟩ ?_ ?_
              · rintro k y s hk ⟨e7, rfl⟩
                unfold nL at hk
                rw [List.map_map, List.getElem?_map] at hk
                obtain ⟨v, hv, rfl⟩ := Option.map_eq_some_iff.mp hk
                have hvl := hab v (List.mem_of_getElem? hv)
                show So _ (tgN 7 (.int (v : Int)) _)
                have hFk := incs_len (T.take k) F
                walk_at "w"
                refine w_ixI (ns := incs F (T.take k)) rfl rfl rfl (by omega) (by omega) ?_
                walk_at "w"
                refine so_setI (ns := incs F (T.take k)) rfl (by omega) (by omega) ?_
                rw [Int.toNat_natCast]
                walk_at "ds"
                have e : incs F (T.take (k + 1)) = (incs F (T.take k)).set v ((incs F (T.take k)).getD v 0 + 1) := by
                  rw [List.take_add_one, hv]
                  exact incs_snoc _ _ _
                rw [e]
                exact ⟨_, rfl⟩
              · rintro s ⟨e7, rfl⟩
                rw [List.length_map, show (nL T).length = T.length from List.length_map .., List.take_length]
                walk_at "w"
                refine w_addL (l := (nL a).map D.int) (l' := (nL b).map D.int) rfl rfl rfl (by rw [List.length_map, List.length_map]; show _ ≤ 16777216; omega) ?_
                rw [hnab]
                walk_at "w"
                refine w_app (l := prD R) rfl (by rw [prD_len]; show _ < 16777216; omega) ?_
                rw [show prD R ++ [.lst ((nL T).map D.int)] = prD (R ++ [T]) from by unfold prD; rw [List.map_append]; rfl]
                walk_at "ds"
                walk_at "w"
                exact ⟨R.length + 1, by omega, R ++ [T], incs F T, _, _, _, _, rfl, by rw [List.length_append]; rfl, .inl ⟨hN, hbn⟩⟩
            · exact absurd q (by omega)
          · walk_at "w"
            refine ⟨rfl, F, rfl, ?_⟩
            rcases hq with ⟨hN, hb⟩ | hq
            · obtain ⟨h1, h2⟩ := hb.fin (by omega) hN
              exact ⟨hb.len, fun f hf => by
                obtain ⟨s, hs⟩ := List.mem_iff_getElem?.mp hf
                have := hb.nn s
                rw [List.getD_eq_getElem?_getD, hs] at this
                exact this, h1, h2⟩
            · exact hq.2.2
theorem ob_first {cs : List Int} (hc : Cts cs) {W : List Nat} (hw : W.length ≤ 64) : OB cs W 0 (List.replicate cs.length 0) 32768 := by
  refine ⟨List.length_replicate, fun f hf => ?_, by rw [rm_zero]; rfl, by omega, (fun s hs => by cases hs), fun s _ => getD_zeros _ s⟩
  rw [(List.mem_replicate.mp hf).2]; decide
theorem one_by_one_ok {cs : List Int} (hc : Cts cs) (c : Int) (M : List Cn) : Fo (fun a M' => M' = M ∧ ∃ F : List Int, a = .new (.lst (F.map D.int)) ∧ Oth cs F ∧ ∀ f ∈ F, f ≤ 15) (m_l_one_by_one [.lst (cs.map D.int), .int c] M) := by
  have hfew := hc.few
  obtain ⟨mx, hmx⟩ := mixed_eq c M
  walk_at "f0"; unfold b_l_one_by_one
  walk_at "w"
  rw [List.length_map]
  walk_at "w"
  rw [Int.toNat_natCast]
  obtain ⟨P0, eP0⟩ : ∃ P0, P0 = (List.range cs.length).filter fun k => decide (0 < cs.getD k 0) := ⟨_, rfl⟩
  refine lc_filR (fun i : Nat => D.int (0 + (i : Int))) (fun k => decide (0 < cs.getD k 0)) (fun k => D.int (k : Int)) ((nL P0).map D.int) (by rw [← eP0]; unfold nL; rw [List.map_map]; rfl) trivial (by rw [List.length_range]; show _ ≤ 16777216; omega) ?_ ?_
  · intro k hk
    have hk1 : k < cs.length := List.mem_range.mp hk
    walk_at "w"
    refine w_ixI (ns := cs) rfl rfl rfl (by omega) (by omega) ?_
    rw [show (0 + (k : Int)).toNat = k by omega]
    walk_at "w"
    refine ⟨rfl, ?_⟩
    refine z_if (fun _ => ?_) (fun _ => ?_)
    · walk_at "w"
      exact ⟨by rw [Int.zero_add], rfl⟩
    · rfl
  · have hnd : P0.Nodup := by rw [eP0]; exact List.nodup_range.filter _
    have hin : ∀ s ∈ P0, s < cs.length := fun s hs => by rw [eP0] at hs; exact List.mem_range.mp (List.mem_filter.mp hs).1
    have hwt : ∀ s, s < cs.length → 0 < cs.getD s 0 → s ∈ P0 := fun s h1 h2 => by
      rw [eP0]
      exact List.mem_filter.mpr ⟨List.mem_range.mpr h1, decide_eq_true h2⟩
    have hP0 : P0.length ≤ 64 := by
      rw [eP0]
      have := List.length_filter_le (fun k => decide (0 < cs.getD k 0)) (List.range cs.length)
      rw [List.length_range] at this
      omega
    have hb0 := ob_first hc hP0
    clear eP0
    have hnl : (nL P0).length = P0.length := List.length_map ..
    walk_at "ds"
    walk_at "w"
    refine w_lcMap (fun _ => .int 0) (by rw [List.length_map]; show _ ≤ 16777216; omega) ?_ ?_
    · intro x _
      walk_at "w"
      exact ⟨rfl, rfl⟩
    · rw [show ((cs.map D.int).map fun _ => D.int 0) = (List.replicate cs.length 0).map D.int from by rw [List.map_map, List.map_replicate, ← List.map_const']; rfl]
      walk_at "ds"
      have sh : CShl 1 15 := cshl_1 (by omega) (by omega)
      walk_at "w"
      rw [List.length_map, hnl]
      walk_at "w"
      refine w_forN (fun j s => ∃ (F : List Int) (room : Int) (e5 e6 e7 : Option Ent), s = ⟨[some (.fz (.lst (cs.map D.int))), some (.fz (.int c)), some (.ow (.lst ((nL P0).map D.int))), some (.ow (.lst (F.map D.int))), some (.fz (.int room)), e5, e6, e7, none, none], M⟩ ∧ OB cs P0 j F room) ⟨_, _, _, _, _, rfl, hb0⟩ ?_ ?_
      · rintro j y s hj ⟨F, room, e5, e6, e7, rfl, hO⟩
        obtain ⟨hj1, rfl⟩ := rng_get hj
        rw [Int.toNat_natCast] at hj1
        obtain ⟨v, hv⟩ : ∃ v, P0[j]? = some v := ⟨_, List.getElem?_eq_getElem hj1⟩
        have hvl := hin v (List.mem_of_getElem? hv)
        obtain ⟨m1, m2⟩ := hmx (0 + (j : Int)) (by omega) (by omega)
        walk_at "w"
        rw [List.length_map, hnl]
        walk_at "w"
        obtain ⟨lk, elk⟩ : ∃ lk, lk = (P0.length : Int) - 1 - (0 + (j : Int)) := ⟨_, rfl⟩
        rw [← elk, show ((16 : Int) - 1).toNat = 15 from rfl]
        obtain ⟨Ls, eLs⟩ : ∃ Ls, Ls = ((List.range 15).filter fun i : Nat => decide ((2 : Int) ^ (15 - (1 + (i : Int))).toNat + lk ≤ room)).map fun i : Nat => 1 + (i : Int) := ⟨_, rfl⟩
        refine lc_filR (fun i : Nat => D.int (1 + (i : Int))) (fun i => decide ((2 : Int) ^ (15 - (1 + (i : Int))).toNat + lk ≤ room)) (fun i => D.int (1 + (i : Int))) (Ls.map D.int) (by rw [eLs, List.map_map]; rfl) trivial (by rw [List.length_range]; show 15 ≤ 16777216; decide) ?_ ?_
        · intro i hi
          have hi1 := List.mem_range.mp hi
          have sh : CShl 1 (15 - (1 + (i : Int))) := cshl_1 (by omega) (by omega)
          walk_at "w"
          rw [Int.one_mul]
          refine ⟨rfl, ?_⟩
          refine z_if (fun _ => ?_) (fun _ => ?_)
          · walk_at "w"
            exact ⟨rfl, rfl⟩
          · rfl
        · have hlack := hO.lack
          have hLm : ∀ l ∈ Ls, 1 ≤ l ∧ l ≤ 15 ∧ (2 : Int) ^ (15 - l).toNat + lk ≤ room := fun l hl => by
            rw [eLs] at hl
            obtain ⟨i, hi, rfl⟩ := List.mem_map.mp hl
            obtain ⟨h1, h2⟩ := List.mem_filter.mp hi
            have := List.mem_range.mp h1
            exact ⟨by omega, by omega, of_decide_eq_true h2⟩
          have hLp : 1 ≤ Ls.length := by
            have : (14 : Nat) ∈ (List.range 15).filter fun i : Nat => decide ((2 : Int) ^ (15 - (1 + (i : Int))).toNat + lk ≤ room) := List.mem_filter.mpr ⟨List.mem_range.mpr (by decide), decide_eq_true (by show (1 : Int) + lk ≤ room; omega)⟩
            have := List.length_pos_of_mem this
            rw [eLs, List.length_map]; exact this
          have hLl : Ls.length ≤ 15 := by
            rw [eLs, List.length_map]
            exact Nat.le_trans (List.length_filter_le _ _) (by rw [List.length_range]; exact Nat.le_refl _)
          clear eLs
          walk_at "ds"
          walk_at "w"
          refine fo_eq m1 ?_
          generalize mx (0 + (j : Int)) = x at m2
          walk_at "w"
          rw [List.length_map]
          have hi1 := Int.emod_nonneg x (b := (Ls.length : Int)) (by omega)
          have hi2 := Int.emod_lt_of_pos x (b := (Ls.length : Int)) (by omega)
          walk_at "w"
          refine w_ixI (ns := Ls) rfl rfl rfl hi1 hi2 ?_
          obtain ⟨l, el⟩ : ∃ l, l = Ls.getD (x % (Ls.length : Int)).toNat 0 := ⟨_, rfl⟩
          have hl := hLm l (by rw [el, List.getD_eq_getElem?_getD, List.getElem?_eq_getElem (by omega)]; exact List.getElem_mem _)
          rw [← el]
          clear el hi1 hi2
          have hFl := hO.len
          have hgv : (nL P0).getD (0 + (j : Int)).toNat 0 = (v : Int) := by
            rw [show (0 + (j : Int)).toNat = j by omega, List.getD_eq_getElem?_getD]
            unfold nL
            rw [List.getElem?_map, hv]; rfl
          walk_at "w"
          refine w_ixI (ns := nL P0) rfl rfl rfl (by omega) (by omega) ?_
          rw [hgv]
          walk_at "w"
          refine so_setI (ns := F) rfl (by omega) (by omega) ?_
          rw [Int.toNat_natCast]
          walk_at "ds"
          have hgl : (F.set v l).getD (v : Int).toNat 0 = l := by
            rw [Int.toNat_natCast, getD_set _ _ _ _ (by omega), if_pos rfl]
          have sh2 : CShl 1 (15 - l) := cshl_1 (by omega) (by omega)
          walk_at "w"
          refine w_ixI (ns := nL P0) rfl rfl rfl (by omega) (by omega) ?_
          rw [hgv]
          refine w_ixI (ns := F.set v l) rfl rfl rfl (by omega) (by rw [List.length_set]; omega) ?_
          rw [hgl]
          walk_at "w"
          rw [Int.one_mul]
          exact ⟨_, _, _, _, _, rfl, hO.next hnd hin hv ⟨hl.1, hl.2.1⟩ (by omega)⟩
      · rintro s ⟨F, room, e5, e6, e7, rfl, hO⟩
        rw [rng_len, Int.toNat_natCast] at hO
        walk_at "w"
        refine ⟨rfl, F, rfl, ⟨hO.len, fun f hf => (hO.bd f hf).1, fun i h1 h2 => hO.got i (by rw [List.take_length]; exact hwt i h1 h2), fun _ => ?_⟩, fun f hf => (hO.bd f hf).2⟩
        have h1 := hO.rm
        have h2 := hO.lack
        omega
theorem fp_snd : ∀ (cs : List Int) (k : Int), (fpF k cs).map Prod.snd = cs.filter fun c => decide (0 < c)
  | [], _ => rfl
  | c :: cs, k => by
    have ih := fp_snd cs (k + 1)
    unfold fpF
    by_cases h : 0 < c
    · rw [if_pos h, List.filter_cons, if_pos (decide_eq_true h), List.map_cons, ih]
    · rw [if_neg h, List.filter_cons, if_neg (by simpa using h), ih]
theorem sum_take : ∀ {l : List Int} (i : Nat), (∀ x ∈ l, 0 ≤ x) → (l.take i).sum ≤ l.sum
  | [], i, _ => by rw [List.take_nil]; exact Int.le_refl _
  | x :: l, 0, h => by
    have h1 := h x (List.mem_cons_self ..)
    have h2 := sum_take (l := l) 0 fun y hy => h y (List.mem_cons_of_mem _ hy)
    rw [List.take_zero, List.sum_cons]
    rw [List.take_zero] at h2
    have h2 : (0 : Int) ≤ l.sum := h2
    show (0 : Int) ≤ _
    omega
  | x :: l, i + 1, h => by
    have := sum_take (l := l) i fun y hy => h y (List.mem_cons_of_mem _ hy)
    rw [List.take_succ_cons, List.sum_cons, List.sum_cons]; omega
theorem fewest_ok {cs : List Int} (hc : Cts cs) {qs : List Pt} {b : Int} (hp : Pap cs qs b) (h5 : (fpF 0 cs).length ≤ 5) (M : List Cn) : m_l_fewest [.lst (cs.map D.int)] M = .ok (.val (.int b)) M := by
  have hfew := hc.few
  have hnn : ∀ c ∈ cs, 0 ≤ c := fun c h => (hc.bd c h).1
  refine fo_ok (P := fun _ _ => True) ?_
  walk_at "f0"; unfold b_l_fewest
  walk_at "w"
  refine w_lcFil (fun d => match d with | .int i => decide (0 < i) | _ => false) (fun d => d) (by rw [List.length_map]; show _ ≤ 16777216; omega) ?_ ?_
  · intro x hx
    obtain ⟨l, _, rfl⟩ := List.mem_map.mp hx
    walk_at "w"
    refine ⟨rfl, ?_⟩
    refine z_if (fun _ => ?_) (fun _ => ?_)
    · walk_at "w"
      exact ⟨rfl, rfl⟩
    · rfl
  · rw [show (((cs.map D.int).filter (fun d => match d with | .int i => decide (0 < i) | _ => false)).map fun d => d) = (cs.filter fun c => decide (0 < c)).map D.int from by
      rw [List.map_id', List.filter_map]; rfl]
    walk_at "ds"
    walk_at "w"
    refine w_sort rfl (sortOk_ints _) ?_
    rw [sort_ints]
    obtain ⟨Ws, eW⟩ : ∃ W, W = (cs.filter fun c => decide (0 < c)).mergeSort leI := ⟨_, rfl⟩
    rw [← eW]
    have hW : Ws.Perm ((fpF 0 cs).map Prod.snd) := by rw [eW, fp_snd]; exact leI_perm _
    clear eW
    have hWl := hW.length_eq
    rw [List.length_map] at hWl
    have hWs : Ws.sum ≤ 1000 := by
      rw [sum_perm hW, fp_sum cs 0 hnn]; exact hc.sum
    have hWn : ∀ w ∈ Ws, 0 ≤ w := fun w hw => by
      obtain ⟨p, hp, rfl⟩ := List.mem_map.mp (hW.mem_iff.mp hw)
      have := (fpF_mem hp).2.2; omega
    have sh4 : CShl 1 4 := cshl_1 (by omega) (by omega)
    walk_at "w"
    refine ⟨[(.inl 16, .int 0)], by rfl, by decide, ?_⟩
    rw [show mgD [((.inl 16 : Key), D.int 0)] = dD [(16, 0)] from rfl]
    walk_at "w"
    refine w_forN (fun i s => ∃ (ps : List Pt) (e3 e4 e5 e6 e7 : Option Ent), s = ⟨[some (.fz (.lst (cs.map D.int))), some (.fz (.lst (Ws.map D.int))), some (.fz (.dK (dD ps))), e3, e4, e5, e6, e7], M⟩ ∧ DP4 (Ws.take i) ps) ⟨_, _, _, _, _, _, rfl, dp4_nil⟩ ?_ ?_
    · rintro i y s hi ⟨ps, e3, e4, e5, e6, e7, rfl, hD⟩
      rw [List.getElem?_map] at hi
      obtain ⟨w, hw, rfl⟩ := Option.map_eq_some_iff.mp hi
      have hil := (List.getElem?_eq_some_iff.mp hw).1
      have hUw : Ws.take (i + 1) = Ws.take i ++ [w] := by rw [List.take_add_one, hw]; rfl
      have hsum := sum_take (l := Ws) (i + 1) hWn
      rw [hUw, List.sum_append, List.sum_cons, List.sum_nil] at hsum
      have hw0 := hWn w (List.mem_of_getElem? hw)
      have hU0 : 0 ≤ (Ws.take i).sum := by
        have : ∀ l : List Int, (∀ x ∈ l, 0 ≤ x) → 0 ≤ l.sum := fun l => by
          induction l with
          | nil => exact fun _ => Int.le_refl _
          | cons x l ih =>
            intro h
            have h1 := h x (List.mem_cons_self ..)
            have h2 := ih fun y hy => h y (List.mem_cons_of_mem _ hy)
            rw [List.sum_cons]; omega
        exact this _ fun x hx => hWn x (List.mem_of_mem_take hx)
      have hpl : ps.length ≤ 1024 := by
        refine Nat.le_trans hD.few ?_
        rw [List.length_take]
        exact Nat.pow_le_pow_right (n := 4) (by decide) (show min i Ws.length ≤ 5 by omega)
      have hcost : ∀ p ∈ ps, p.2 ≤ 4 * (Ws.take i).sum := fun p hp' => by
        obtain ⟨_, zs, z1, _, z3⟩ := hD.low p hp'
        rw [z3, ← z1.1]
        exact cost_le fun z hz => ⟨hWn _ (List.mem_of_mem_take (by rw [← z1.1]; exact List.mem_map_of_mem hz)), (z1.2 z hz).2⟩
      walk_at "w"
      refine w_forN (fun k s => ∃ (fd : List Pt) (e5 e6 e7 : Option Ent), s = ⟨[some (.fz (.lst (cs.map D.int))), some (.fz (.lst (Ws.map D.int))), some (.fz (.dK (dD ps))), some (.fz (.int w)), some (.ow (.dK (dD fd))), e5, e6, e7], M⟩ ∧ MD fd (cand w (ps.take k))) ⟨[], _, _, _, rfl, md_nil⟩ ?_ ?_
      · rintro k y s hk ⟨fd, e5, e6, e7, rfl, hM⟩
        have hk' : ((dD ps).map fun p => Y.kD p.1)[k]? = some y := hk
        unfold dD at hk'
        rw [List.map_map] at hk'
        obtain ⟨p, hp', rfl⟩ := map_get hk'
        have hpm := List.mem_of_getElem? hp'
        have hkl := (List.getElem?_eq_some_iff.mp hp').1
        show So _ (tgN 5 (.int p.1) _)
        have hst := vl_at (k := p.1) (w := p.2) hD.nd hpm
        have hpc := hcost p hpm
        have hcl := cand_len w (ps.take k)
        rw [List.length_take] at hcl
        walk_at "w"
        refine w_forN (fun j s => ∃ (fd : List Pt) (e6 e7 : Option Ent), s = ⟨[some (.fz (.lst (cs.map D.int))), some (.fz (.lst (Ws.map D.int))), some (.fz (.dK (dD ps))), some (.fz (.int w)), some (.ow (.dK (dD fd))), some (.fz (.int p.1)), e6, e7], M⟩ ∧ MD fd (cand w (ps.take k) ++ candP w p j)) ⟨fd, _, _, rfl, by unfold candP; rw [List.append_nil]; exact hM⟩ ?_ ?_
        · rintro j y s hj ⟨fd, e6, e7, rfl, hM⟩
          obtain ⟨hj1, rfl⟩ := rng_get hj
          have hj2 : j < 4 := hj1
          have sh : CShl 1 (4 - (1 + (j : Int))) := cshl_1 (by omega) (by omega)
          have hfl := hM.len
          rw [List.length_append] at hfl
          have hcp := candP_len w p j
          walk_at "w"
          rw [Int.one_mul, show (4 - (1 + (j : Int))).toNat = 3 - j by omega]
          obtain ⟨r, er⟩ : ∃ r, r = p.1 - (2 : Int) ^ (3 - j) := ⟨_, rfl⟩
          have hc1 : candP w p (j + 1) = candP w p j ++ (if 0 ≤ r then [(r, p.2 + w * (1 + (j : Int)))] else []) := by
            rw [er, Int.add_comm 1 (j : Int)]; rfl
          rw [← er]
          refine z_if (fun q => ?_) (fun q => ?_)
          · rw [if_pos q] at hc1
            have hb4 : w * (1 + (j : Int)) ≤ 4 * w := by
              have := Int.mul_le_mul_of_nonneg_left (show 1 + (j : Int) ≤ 4 by omega) hw0
              omega
            have hput := hM.put (k := r) (c := p.2 + w * (1 + (j : Int))) (by omega)
            rw [List.append_assoc, ← hc1] at hput
            walk_at "w"
            refine ⟨_, _, rfl, rfl, ?_⟩
            rw [vl_dD, show ∀ o : Option Int, (o.map D.int).getD (.int 16000) = .int (o.getD 16000) from fun o => by cases o <;> rfl]
            walk_at "w"
            refine w_ixK (l := dD ps) rfl rfl hst ?_
            walk_at "w"
            refine so_setK (l := dD fd) rfl rfl (by rw [dD_len]; show _ < 16777216; omega) ?_
            rw [pu_dD]
            walk_at "ds"
            exact ⟨_, _, _, rfl, hput⟩
          · rw [if_neg q, List.append_nil] at hc1
            walk_at "w"
            rw [hc1]
            exact ⟨fd, _, _, rfl, hM⟩
        · rintro s ⟨fd, e6, e7, rfl, hM⟩
          refine ⟨fd, _, _, _, rfl, ?_⟩
          rw [List.take_add_one, hp']
          show MD fd (cand w (ps.take k ++ [p]))
          rw [cand_snoc]
          exact hM
      · rintro s ⟨fd, e5, e6, e7, rfl, hM⟩
        have hM : MD fd (cand w (ps.take ((dD ps).map fun p => Y.kD p.1).length)) := hM
        rw [List.length_map, dD_len, List.take_length] at hM
        walk_at "w"
        refine ⟨fd, _, _, _, _, _, rfl, ?_⟩
        rw [hUw]
        exact hD.next hM
    · rintro s ⟨ps, e3, e4, e5, e6, e7, rfl, hD⟩
      rw [List.length_map, List.take_length] at hD
      obtain ⟨i, is, q1, q2⟩ := hD.least hc hp hW (by omega)
      walk_at "w"
      refine w_minValsV ?_
      walk_at "w"
      refine ⟨_, i, is, rfl, by rw [ints_dD, q1], ?_⟩
      rw [q2]
      walk_at "w"
      exact ⟨rfl, rfl⟩
theorem eq_nilI (is : List Int) (s : Stt) : eqOf s (.new (.lst (is.map D.int))) (.new (.lst [])) = some (decide (is = [])) := by
  refine eqOf_of (x := .list (is.map PyData.int)) (y := .list []) ?_ rfl (shaped_lints is) (by decide) ?_
  · show (D.pyL (is.map D.int)).map PyData.list = _
    rw [pyL_ints]; rfl
  · exact eqv_lints is []
theorem fmax_ge : ∀ (is : List Int) (i : Int), ∀ j ∈ i :: is, j ≤ is.foldl max i
  | [], i, j, h => by rw [List.mem_singleton.mp h]; exact Int.le_refl _
  | y :: is, i, j, h => by
    have ih := fmax_ge is (max i y)
    have hm := ih _ (List.mem_cons_self ..)
    show j ≤ is.foldl max (max i y)
    rcases List.mem_cons.mp h with rfl | h
    · omega
    · rcases List.mem_cons.mp h with rfl | h
      · omega
      · exact ih j (List.mem_cons_of_mem _ h)
theorem gMax_ok {F : List Int} (h : 0 < F.length) : ∃ m, gMax F = some (.int m) ∧ ∀ f ∈ F, f ≤ m := by
  cases F with
  | nil => cases h
  | cons i is => exact ⟨_, rfl, fmax_ge is i⟩
/-- the place ahead of i, round about -/
def bef (n : Nat) (i : Int) : Nat := if i = 0 then n - 1 else (i - 1).toNat
theorem bef_ix {n : Nat} {i : Int} (h0 : 0 ≤ i) (h1 : i < n) : ixN n (i - 1) = some (bef n i) := by
  unfold ixN bef
  by_cases q : i = 0
  · rw [if_neg (by omega), if_pos (by omega), if_pos q]
    congr 1; omega
  · rw [if_pos (by omega), if_pos (by omega), if_neg q]
theorem bef_lt {n : Nat} {i : Int} (h0 : 0 ≤ i) (h1 : i < n) : bef n i < n := by
  unfold bef; split <;> omega
theorem get_getD {L : List Int} {i : Nat} (h : i < L.length) : L[i] = L.getD i 0 := by
  rw [List.getD_eq_getElem?_getD, List.getElem?_eq_getElem h]; rfl
theorem swap_perm {L : List Int} {i j : Nat} (hi : i < L.length) (hj : j < L.length) : ((L.set i (L.getD j 0)).set j (L.getD i 0)).Perm L := by
  rw [← get_getD hi, ← get_getD hj]
  exact List.set_set_perm hi hj
theorem mem_getD {L : List Int} {j : Nat} (hj : j < L.length) : L.getD j 0 ∈ L := by
  rw [← get_getD hj]; exact List.getElem_mem _
theorem lawT (ns : List Int) (hn : ns.length ≤ 63) : ∃ M', m_law [.clst (ns.map D.int)] [] = .ok (.val (.bl true)) M' := by
  suffices H : Fo (fun a _ => a = .val (.bl true)) (m_law [.clst (ns.map D.int)] []) by
    cases q : m_law [.clst (ns.map D.int)] [] with
    | ok a M2 => rw [q] at H; obtain rfl := H; exact ⟨M2, rfl⟩
    | er e M2 => rw [q] at H; exact False.elim H
    | no => rw [q] at H; exact False.elim H
  walk_at "f0"; unfold b_law
  walk_at "w"
  refine fo_use (cell_at_ok (by decide) _) ?_
  rintro _ M1 ⟨⟨a, rfl⟩, rfl⟩
  walk_at "w"
  refine fo_use (cell_at_ok (by decide) _) ?_
  rintro _ _ ⟨⟨b, rfl⟩, rfl⟩
  walk_at "w"
  refine fo_use (counts_ok a b _) ?_
  rintro _ _ ⟨cs, rfl, hc, rfl⟩
  obtain ⟨b0, hp⟩ := least_pap cs
  have hL := lens_of hc hp
  have hfew := hc.few
  have hpos := hc.pos
  walk_at "w"
  refine fo_use (fx_fo (least_lengths_ok hc _)) ?_
  rintro _ M2 rfl
  obtain ⟨L, eL⟩ : ∃ L, L = lenBy (cs.length : Int) cs (paper (cs.length : Int) (fpF 0 cs)) := ⟨_, rfl⟩
  rw [← eL] at hL ⊢
  clear eL
  have hLl := hL.len
  have hdot := hL.dot
  have hLb : ∀ l ∈ L, 0 ≤ l ∧ l ≤ 15 := fun l h => by have := hL.bd l h; omega
  walk_at "w"
  refine fo_eq (l_bits_ok hc hL.len _) ?_
  rw [hdot]
  walk_at "w"
  rw [List.length_map]
  walk_at "w"
  refine w_forN (fun i s => ∃ e4 e5 e6 e7 e8 : Option Ent, s = ⟨[some (.fz (.clst (ns.map D.int))), some (.fz (.lst (cs.map D.int))), some (.fz (.lst (L.map D.int))), some (.fz (.int b0)), e4, e5, e6, e7, e8, none, none], M2⟩) ⟨_, _, _, _, _, rfl⟩ ?_ ?_
  · rintro i y s hi ⟨e4, e5, e6, e7, e8, rfl⟩
    obtain ⟨hi1, rfl⟩ := rng_get hi
    walk_at "w"
    refine fo_use (cell_at_ok (k := 2 + (i : Int)) (by omega) _) ?_
    rintro _ _ ⟨⟨c0, rfl⟩, rfl⟩
    walk_at "w"
    obtain ⟨c, ec⟩ : ∃ c, c = c0 + (2 + (i : Int)) % 3 := ⟨_, rfl⟩
    rw [← ec]
    refine fo_use (by_parts_ok hc c _) ?_
    rintro _ M3 ⟨rfl, F, rfl, hF⟩
    walk_at "wi"
    refine w_join (fun s => ∃ F : List Int, s = ⟨[some (.fz (.clst (ns.map D.int))), some (.fz (.lst (cs.map D.int))), some (.fz (.lst (L.map D.int))), some (.fz (.int b0)), some (.fz (.int (2 + (i : Int)))), some (.fz (.int c)), some (.ow (.lst (F.map D.int))), e7, e8, none, none], M3⟩ ∧ Oth cs F ∧ ∀ f ∈ F, f ≤ 15) ?_ ?_
    · obtain ⟨m, hm1, hm2⟩ := gMax_ok (F := F) (by rw [hF.len]; omega)
      walk_at "w"
      by_cases q : c / 2 % 2 = 1
      · rw [if_pos (decide_eq_true q)]
        walk_at "w"
        refine fo_use (one_by_one_ok hc c _) ?_
        rintro _ _ ⟨rfl, G, rfl, hG, hG2⟩
        walk_at "w"
        exact ⟨G, rfl, hG, hG2⟩
      · rw [if_neg (fun z => q (of_decide_eq_true z))]
        walk_at "w"
        refine w_ints (ns := F) rfl (intsD_map _) hm1 ?_
        walk_at "w"
        refine z_if (fun q2 => ?_) (fun q2 => ?_)
        · walk_at "w"
          refine fo_use (one_by_one_ok hc c _) ?_
          rintro _ _ ⟨rfl, G, rfl, hG, hG2⟩
          walk_at "w"
          exact ⟨G, rfl, hG, hG2⟩
        · exact ⟨F, rfl, hF, fun f hf => by have := hm2 f hf; omega⟩
    · rintro s ⟨F, e, hF, hF15⟩
      subst e
      have hopt := least_opt hc hp hF.len (fun l hl => ⟨hF.nn l hl, hF15 l hl⟩) hF.has (hF.room hF15)
      walk_at "wi"
      refine w_join (fun s => ∃ (T : List Int) (e8 : Option Ent), s = ⟨[some (.fz (.clst (ns.map D.int))), some (.fz (.lst (cs.map D.int))), some (.fz (.lst (L.map D.int))), some (.fz (.int b0)), some (.fz (.int (2 + (i : Int)))), some (.fz (.int c)), some (.ow (.lst (F.map D.int))), some (.ow (.lst (T.map D.int))), e8, none, none], M3⟩ ∧ T.Perm L) ?_ ?_
      · walk_at "w"
        rw [List.length_map]
        refine z_if (fun q => ?_) (fun q => ?_)
        · walk_at "w"
          refine fo_use (mixed_ok c (k := 130) (by decide) (by decide) _) ?_
          rintro _ _ ⟨x, rfl, hx0, hx1, rfl⟩
          walk_at "w"
          rw [List.length_map]
          have h1 := Int.emod_nonneg x (b := (cs.length : Int)) (by omega)
          have h2 := Int.emod_lt_of_pos x (b := (cs.length : Int)) (by omega)
          walk_at "w"
          obtain ⟨one, eo⟩ : ∃ one, one = x % (cs.length : Int) := ⟨_, rfl⟩
          rw [← eo] at h1 h2 ⊢
          have hj := bef_lt h1 h2
          have hix := bef_ix h1 h2
          obtain ⟨j, ej⟩ : ∃ j, j = bef cs.length one := ⟨_, rfl⟩
          rw [← ej] at hj hix
          have hat : atI (L.map D.int) (one - 1) = some (.int (L.getD j 0)) := by
            unfold atI
            rw [List.length_map, hLl, hix, Option.bind_some, List.getElem?_map, List.getElem?_eq_getElem (by omega), get_getD (by omega)]; rfl
          have hsw := swap_perm (L := L) (i := one.toNat) (j := j) (by omega) (by omega)
          refine w_asgS2 ?_
          walk_at "w"
          refine w_ixL (d := .int (L.getD j 0)) rfl rfl rfl hat ?_
          walk_at "w"
          refine w_ixI (ns := L) rfl rfl rfl h1 (by omega) ?_
          walk_at "w"
          refine ⟨_, _, rfl, ?_⟩
          walk_at "w"
          refine so_setI (ns := L) rfl h1 (by omega) ?_
          walk_at "ds"
          walk_at "w"
          refine so_setLst (l := (L.set one.toNat (L.getD j 0)).map D.int) (j := j) rfl (by rw [List.length_map, List.length_set, hLl]; exact hix) ?_
          rw [← List.map_set]
          walk_at "ds"
          exact ⟨_, _, rfl, hsw⟩
        · exact ⟨L, _, rfl, .refl _⟩
      · rintro s ⟨T, e8, e, hT⟩
        subst e
        have hTl := hT.length_eq
        walk_at "w"
        refine fo_eq (l_bits_ok hc hF.len _) ?_
        walk_at "w"
        rw [List.length_map]
        refine ⟨_, rfl, ⟨by omega, by omega⟩, ?_⟩
        rw [Int.toNat_natCast]
        obtain ⟨P0, eP0⟩ : ∃ P0, P0 = (List.range cs.length).filter fun k => decide (0 < cs.getD k 0) && decide (T.getD k 0 = 0) := ⟨_, rfl⟩
        refine lc_filR (fun i : Nat => D.int (0 + (i : Int))) (fun k => decide (0 < cs.getD k 0) && decide (T.getD k 0 = 0)) (fun k => D.int (k : Int)) ((nL P0).map D.int) (by rw [← eP0]; unfold nL; rw [List.map_map]; rfl) trivial (by rw [List.length_range]; show _ ≤ 16777216; omega) ?_ ?_
        · intro k hk
          have hk1 : k < cs.length := List.mem_range.mp hk
          walk_at "w"
          refine w_ixI (ns := cs) rfl rfl rfl (by omega) (by omega) ?_
          rw [show (0 + (k : Int)).toNat = k by omega]
          walk_at "w"
          by_cases q : 0 < cs.getD k 0
          · rw [decide_eq_true q, if_pos rfl]
            walk_at "w"
            refine w_ixI (ns := T) rfl rfl rfl (by omega) (by omega) ?_
            rw [show (0 + (k : Int)).toNat = k by omega]
            walk_at "w"
            refine ⟨by rw [Bool.true_and], ?_⟩
            refine z_if (fun _ => ?_) (fun _ => ?_)
            · walk_at "w"
              exact ⟨by rw [Int.zero_add], rfl⟩
            · rfl
          · rw [decide_eq_false q, if_neg (by decide)]
            refine ⟨rfl, ?_⟩
            rw [if_neg (by decide)]
            rfl
        · walk_at "ds"
          walk_at "w"
          refine w_eqG (eq_nilI _ _) ?_
          walk_at "w"
          refine z_if (fun q => ?_) (fun q => ?_)
          · have hP : P0 = [] := List.map_eq_nil_iff.mp q
            have hTh : Has cs T := fun k h1 h2 => by
              have h3 : k ∉ P0 := by rw [hP]; exact fun z => by cases z
              have h4 : T.getD k 0 ≠ 0 := fun z => h3 (by rw [eP0]; exact List.mem_filter.mpr ⟨List.mem_range.mpr h1, by rw [decide_eq_true h2, decide_eq_true z]; rfl⟩)
              have h5 := (hLb _ (hT.mem_iff.mp (mem_getD (L := T) (by omega : k < T.length)))).1
              omega
            have hopt2 := least_opt hc hp (hTl.trans hLl) (fun l hl => hLb l (hT.mem_iff.mp hl)) hTh (by rw [rm_perm hT]; exact hL.room)
            walk_at "w"
            refine fo_eq (l_bits_ok hc (hTl.trans hLl) _) ?_
            walk_at "w"
            exact ⟨_, _, _, _, _, rfl⟩
          · exact ⟨_, _, _, _, _, rfl⟩
  · rintro s ⟨e4, e5, e6, e7, e8, rfl⟩
    walk_at "w"
    rw [List.length_map]
    refine ⟨_, rfl, ⟨by omega, by omega⟩, ?_⟩
    rw [Int.toNat_natCast]
    refine w_lcMap (fun _ => .bl false) (by rw [rng_len]; show _ ≤ 16777216; omega) ?_ ?_
    · intro x hx
      obtain ⟨k, hk⟩ := List.mem_iff_getElem?.mp hx
      obtain ⟨hk1, rfl⟩ := rng_get hk
      have hh := hL.has k hk1
      walk_at "w"
      refine w_ixI (ns := cs) rfl rfl rfl (by omega) (by omega) ?_
      rw [show (0 + (k : Int)).toNat = k by omega]
      walk_at "w"
      by_cases q : 0 < cs.getD k 0
      · have hh := hh q
        rw [decide_eq_true q, if_pos rfl]
        walk_at "w"
        refine w_ixI (ns := L) rfl rfl rfl (by omega) (by omega) ?_
        rw [show (0 + (k : Int)).toNat = k by omega]
        walk_at "w"
        exact ⟨by rw [decide_eq_false (by omega)], rfl⟩
      · rw [decide_eq_false q, if_neg (by decide)]
        walk_at "w"
        exact ⟨rfl, rfl⟩
    · rw [show ((rng 0 cs.length).map fun _ => D.bl false) = (List.replicate cs.length false).map D.bl from by
        rw [List.map_replicate, List.map_const', rng_len]]
      walk_at "ds"
      walk_at "w"
      refine w_bls (bs := List.replicate cs.length false) rfl (blsD_map _) ?_
      rw [show (List.replicate cs.length false).any id = false from by rw [List.any_replicate]; split <;> rfl]
      walk_at "w"
      refine fo_eq (fits_ok hLb (by omega) _) ?_
      rw [decide_eq_true hL.room]
      walk_at "w"
      refine w_lcFil (fun d => match d with | .int i => decide (0 < i) | _ => false) (fun d => d) (by rw [List.length_map]; show _ ≤ 16777216; omega) ?_ ?_
      · intro x hx
        obtain ⟨l, _, rfl⟩ := List.mem_map.mp hx
        walk_at "w"
        refine ⟨rfl, ?_⟩
        refine z_if (fun _ => ?_) (fun _ => ?_)
        · walk_at "w"
          exact ⟨rfl, rfl⟩
        · rfl
      · rw [show (((cs.map D.int).filter (fun d => match d with | .int i => decide (0 < i) | _ => false)).map fun d => d) = ((fpF 0 cs).map Prod.snd).map D.int from by
          rw [fp_snd, List.map_id', List.filter_map]; rfl]
        walk_at "ds"
        walk_at "w"
        rw [List.length_map, List.length_map]
        walk_at "w"
        by_cases q : 5 < (fpF 0 cs).length
        · rw [if_pos (decide_eq_true (by omega))]
          walk_at "w"
          exact rfl
        · rw [if_neg (fun z => by have := of_decide_eq_true z; omega)]
          walk_at "w"
          refine fo_eq (fewest_ok hc hp (by omega) _) ?_
          walk_at "w"
          show AI.val (D.bl (decide (b0 = b0))) = _
          rw [decide_eq_true rfl]
theorem ok_law' {P : Program} {w : World} {K : PySem.W.Frag} {mg : Str → Option Value} {base : Heap} (hl : ∀ ns : List Int, ns.length ≤ 63 → ∃ M', m_law [.clst (ns.map D.int)] [] = .ok (.val (.bl true)) M') (T : Tx K mg) : FnOk P w K mg base CX0 7 T.a_law T.d_law ["_law_script"] (spLaw K) :=
  (ok_law T).imp (fun vs H Q E h => by
    obtain ⟨a, ns, rfl, hS, hn, _, q⟩ := h
    obtain ⟨M', e⟩ := hl ns hn
    refine ⟨⟨H, fun _ => 0, fun _ => none⟩, [], [.clst (ns.map D.int)], ⟨(fun _ _ e => by rw [show (ctT T).lk = none from rfl, U0]; exact e), (fun a l e => nomatch e), fun _ e => e, rfl, (fun i e q => by simp at q), (fun k c q => by simp at q)⟩, .cons (.clst hS (rpl_ints ns)) .nil, ?_⟩
    rw [e]
    intro S' v H' st rel it
    cases rp_bl it
    exact q H')
end K15
theorem PySem.Challenge.cw_tornshelf_k15_whole_none_is_less_holds : PySem.Challenge.rw_tornshelf_k15_whole_none_is_less.Holds :=
  K15.early fun T => K15.ok_law' K15.lawT T
