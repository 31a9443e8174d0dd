import PyProof.Rows.All
import Wide.All
import OpenK.AllK
import Wide.FinOn
import HandS.ForMost
import HandS.IsInst
import HandS.Flow
import HandS.WideBits
import HandS.Defaults
import HandS.MakeKw
import HandS.Exc
import HandS.ExcOwn
import HandS.TryOnly
import HandS.WordsExc
import HandS.Deep
import HandS.WordsDict
import HandS.Small
import HandS.Conv
import HandS.Text
import KE.KxIndex
import HandS.Codes
import KE.SortData
import HandS.ExcInit
import HandS.ClsMeth
import HandS.ExcField
import HandS.ExcIs
import HandS.TryMany
import KE.KExcIs
import HandS.Replace
import KE.DataMinMax
import PyProof.Claim2Refuses
import KE.KEqDict
import KE.KDictSum
import HandS.Sort
import PyProof.Rows.SeqMore
import KE.KIndexOf
import HandS.SetKeys
import HandS.More
import PyProof.Rows.SortStr
import KE.KStateDown
import HandS.Head0
import HandS.Head1
import HandS.Head2
import HandS.HeadEnd
import HandS.HeadHook1
import HandS.HeadHook2
import KE.GoesMore
import KE.GoesEnum
import HandS.TupAny
import HandS.SetFor
import HandS.SortInts
import HandS.Zip
import HandS.Strs
import PyProof.DictMoreH
import HandS.TupSets
import KE.KDictDisplayH
import KE.KDictWalk
import KE.KDictPairs
import HandS.DictTup
import HandS.TupLen
import PySem.Challenge.RW_tornshelf_k17_beginnings
set_option Elab.async false
set_option linter.all false
set_option maxRecDepth 100000
set_option maxHeartbeats 4000000
namespace Z
open PySem L2
def isDT : HO → Bool
  | .dT _ => true
  | .frz _ u => isDT u
  | _ => false
def okA (G : Hp) (a : Addr) : HO → Prop
  | .ins _ dx _ => G dx = some (.own a)
  | .frz _ u => okA G a u
  | _ => True
def kept : HO → Bool
  | .tup _ => true
  | .frz _ _ => true
  | .tbl _ => true
  | _ => false
/-- from H on, H' was reached; G, a part of H', is all that is still told -/
structure Gc (H H' G : Hp) : Prop where
  sub : ∀ a o, G a = some o → H' a = some o
  ok : ∀ a o, G a = some o → okA G a o ∨ (H a = some o ∧ ∀ b, H b = some (.own a) → G b = some (.own a))
  keep : ∀ b o, H b = some o → kept o = true → G b = some o
  dt : (∀ a o, G a = some o → isDT o = false) ∨ ∀ b xs, H' b = some (.tup xs) → G b = some (.tup xs)
section
variable {P : Program} {w : World} {H H' G : Hp} {h : Heap} {a : Addr} {o : HO}
theorem okA_of (x : ObjOk P w H h a o) (k : ∀ b, H b = some (.own a) → G b = some (.own a)) : okA G a o := by
  induction o with
  | ins C dx fs => exact k _ x.1
  | frz ob u ih => exact ih x.2
  | _ => trivial
end
/-- no dict with tuples for keys -/
def ND (H : Hp) : Prop := ∀ a o, H a = some o → isDT o = false
theorem only_nd {H : Hp} (h : L2.Only H) : ND H := fun a o e => by
  rcases h a with q | ⟨o', xs, q⟩
  · rw [q] at e; cases e
  · rw [q] at e; cases e; rfl
section
variable {H H' G H1 : Hp} {p q : Addr} {o : HO}
def flatO : HO → Bool
  | .ins _ _ _ => false
  | .frz _ _ => false
  | .dT _ => false
  | _ => true
theorem okA_flat {G : Hp} {a : Addr} {o : HO} (h : flatO o = true) : okA G a o := by
  cases o <;> first | trivial | cases h
theorem isDT_flat {o : HO} (h : flatO o = true) : isDT o = false := by
  cases o <;> first | rfl | cases h
theorem okA_upd {G : Hp} {a p : Addr} {o u : HO} (e : H' p = some o) (sub : ∀ a o, G a = some o → H' a = some o) (k : okA G a u) : okA (upd G p o) a u := by
  induction u with
  | ins C dx fs =>
    show upd G p o dx = _
    by_cases q : dx = p
    · subst q
      have e2 : H' dx = some (.own a) := sub _ _ k
      rw [e] at e2
      rw [upd_same, e2]
    · rw [upd_ne q]
      exact k
  | frz ob u ih => exact ih k
  | _ => trivial
theorem upd_sub {G : Hp} {p b : Addr} {o u : HO} (e : H' p = some o) (h : H' b = some u) (k : G b = some u) : upd G p o b = some u := by
  by_cases q : b = p
  · subst q
    rw [upd_same, ← e, h]
  · rw [upd_ne q]
    exact k
/-- one more thing is told -/
theorem Gc.put (g : Gc H H' G) (e : H' p = some o) (f : flatO o = true := by rfl) : Gc H H' (upd G p o) where
  sub := fun a u h => by
    by_cases q : a = p
    · subst q; rw [upd_same] at h; cases h; exact e
    · rw [upd_ne q] at h; exact g.sub a u h
  ok := fun a u h => by
    by_cases q : a = p
    · subst q; rw [upd_same] at h; cases h; exact .inl (okA_flat f)
    · rw [upd_ne q] at h
      rcases g.ok a u h with k | ⟨k1, k2⟩
      · exact .inl (okA_upd e g.sub k)
      · exact .inr ⟨k1, fun b hb => upd_sub e (g.sub _ _ (k2 b hb)) (k2 b hb)⟩
  keep := fun b u h k => upd_sub e (g.sub _ _ (g.keep b u h k)) (g.keep b u h k)
  dt := by
    rcases g.dt with d | d
    · refine .inl fun a u h => ?_
      by_cases q : a = p
      · subst q; rw [upd_same] at h; cases h; exact isDT_flat f
      · rw [upd_ne q] at h; exact d a u h
    · exact .inr fun b xs h => upd_sub e h (d b xs h)
theorem upd_none {a : Addr} : upd H p o a = none ↔ a ≠ p ∧ H a = none := by
  unfold upd
  by_cases e : a = p
  · simp [e]
  · simp [e]
end
section
variable {X : Cx}
theorem OpR.or {f : Value → Value → Sem Value} {r r' : R2} (a : OpR X f r) (b : OpR X f r') : OpR X f (fun x y H Q => r x y H Q ∨ r' x y H Q) :=
  fun pins s σ H x y v u Q I rx ry h => h.elim (fun h => a pins s σ H x y v u Q I rx ry h) fun h => b pins s σ H x y v u Q I rx ry h
theorem CallR.or {f : Value} {r r' : List V → Hp → VK → Prop} (a : CallR X f r) (b : CallR X f r') : CallR X f (fun x H Q => r x H Q ∨ r' x H Q) :=
  fun pins s σ H xs us Q I rx h => h.elim (fun h => a pins s σ H xs us Q I rx h) fun h => b pins s σ H xs us Q I rx h
/-- list + list, both to be read -/
def rCatZ (K : PySem.W.Frag) : R2 := fun x y H Q => ∃ l b xs zs, x = .ref l ∧ y = .ref b ∧ SqL K H l xs ∧ SqL K H b zs ∧ xs.length + zs.length ≤ sizeLine ∧ ∀ p, H p = none → Q (.ref p) (upd H p (.lst (xs ++ zs)))
def rAddZ (K : PySem.W.Frag) : R2 := fun x y H Q => (rI0 (fun i j => .int (i + j)) x y H Q ∨ ∃ i j, x = .str i ∧ y = .str j ∧ i.length + j.length ≤ sizeLine ∧ Q (.str (i ++ j)) H) ∨ rCatZ K x y H Q
theorem op_catZ : OpR X (binaryOp .Add) (rCatZ X.K) := by
  intro pins s σ H x y v u Q I rx ry h
  obtain ⟨l, b, xs, zs, rfl, rfl, hH, hB, hz, q⟩ := h
  cases rx
  cases ry
  obtain ⟨its, r, pl, z⟩ := I.list hH
  obtain ⟨its2, r2, pl2, z2⟩ := I.list hB
  have l1 := r.length
  have l2 := r2.length
  obtain ⟨⟨cls, dd, data, sl⟩, ho, hc, n, hd⟩ := pl.isList
  obtain ⟨⟨cls2, dd2, data2, sl2⟩, ho2, hc2, n2, hd2⟩ := pl2.isList
  simp only at hc hd hc2 hd2
  subst hc hd hc2 hd2
  have e : its.toArray ++ its2.toArray = (its ++ its2).toArray := by simp
  refine concat_meets ⟨_, ho, rfl⟩ ⟨_, ho2, rfl⟩ noFill_list_add seq_list_add PySem.F.slot_list_add PySem.F.entry_list_add (PySem.F.args_list_add_2 _ _) (PyProof.Rows.list_addW l b its.toArray its2.toArray n n2 dd dd2 sl sl2 (by simp only [List.size_toArray]; omega)) ⟨ho, ho2, ?_⟩
  rw [e]
  exact ⟨.ref _, _, I.lnew (t' := s.toks) (r.append r2) (by rw [List.length_append]; omega), rfl, q _ I.fresh⟩
theorem op_addZ {K : PySem.W.Frag} (hK : X.K = K) : OpR X (binaryOp .Add) (rAddZ K) := by subst hK; exact OpR.or (OpR.or op_add op_add_str) op_catZ
def rMulZ : R2 := fun x y H Q => rI CMul (fun i j => .int (i * j)) x y H Q ∨ rRep x y H Q
theorem op_mulZ : OpR X (binaryOp .Mult) rMulZ := OpR.or op_mul op_rep
def rEqZ (K : PySem.W.Frag) : R2 := fun x y H Q => rEq x y H Q ∨ rEqD K x y H Q
def rNeZ (K : PySem.W.Frag) : R2 := fun x y H Q => rNe x y H Q ∨ rNeD K x y H Q
theorem op_eqZ {K : PySem.W.Frag} (hK : X.K = K) (hu : X.A.units + 64 < cLine) : OpR X (compareOp .Eq) (rEqZ K) := by subst hK; exact OpR.or op_eq (op_eqD hu)
theorem op_neZ {K : PySem.W.Frag} (hK : X.K = K) (hu : X.A.units + 64 < cLine) : OpR X (compareOp .NotEq) (rNeZ K) := by subst hK; exact OpR.or op_ne (op_neD hu)
end
section
variable {X : Cx}
/-- len of a text, a list, a tuple -/
def rLenZ (K : PySem.W.Frag) : List V → Hp → VK → Prop := fun xs H Q => ∃ x n, xs = [x] ∧ LenV K x H n ∧ Q (.int n) H
theorem call_lenZ {K : PySem.W.Frag} (hK : X.K = K) : CallR X (.builtin "len") (rLenZ K) := by subst hK; exact call_len
def rSlZ (K : PySem.W.Frag) : V → Option Int → Option Int → Hp → VK → Prop := fun x lo hi H Q => rSlL K x lo hi H Q ∨ rSlS x lo hi H Q
theorem sl_Z {K : PySem.W.Frag} (hK : X.K = K) : SlR X (rSlZ K) := by subst hK; exact SlR.or sl_list sl_str
def tTruZ (K : PySem.W.Frag) (ta : TE) : TT := fun σ H Q => ta σ H fun x H' => ∃ k, TruV K x H' k ∧ Q k H'
theorem pt_truthZ {K : PySem.W.Frag} {a : Expr} {ta : TE} (hK : X.K = K) (ha : PE X a ta) (he : ∀ whole, isTrue a X.env whole = (do let v ← whole; standAt a.pos; holding [v] (truthy v))) : PT X a (tTruZ K ta) := by subst hK; exact pt_truth ha he
theorem call_isiZ {K : PySem.W.Frag} (hK : X.K = K) : CallR X (.builtin "isinstance") (rIsi K) := by subst hK; exact call_isi
def rListOf (K : PySem.W.Frag) : List V → Hp → VK → Prop := fun xs H Q => ∃ p ys, xs = [.ref p] ∧ (SqL K H p ys ∨ SqT K H p ys) ∧ ∀ l, H l = none → Q (.ref l) (upd H l (.lst ys))
theorem call_listZ {K : PySem.W.Frag} (hK : X.K = K) : CallR X (.type "list") (rListOf K) := by subst hK; exact call_list_of
theorem cr_sumZ {K : PySem.W.Frag} (hK : X.K = K) (hc : X.calm = true) : CallR X (.builtin "sum") (rSum K) := by subst hK; exact cr_sum hc
theorem cr_allZ {K : PySem.W.Frag} (hK : X.K = K) (hc : X.calm = true) : CallR X (.builtin "all") (rAll K) := by subst hK; exact cr_all hc
theorem pi_listZ {K : PySem.W.Frag} {tg l : Expr} {tl : TE} (hK : X.K = K) (hl : PE X l tl) : PI X tg l (iList K tl) := by subst hK; exact pi_list hl
theorem pi_enumZ {K : PySem.W.Frag} {e : Expr} {ta : TA} {p pos tpos : Pos} {elts : List Expr} {kk : Nat} (hK : X.K = K) (hg : Gl X "enumerate") (hm : X.mg "enumerate" = none) (ha : PA X [e] ta) (hs : starEach [e] X.env = [(false, eval e X.env)] := by rfl) :
    PI X (.Tuple elts kk tpos) (.Call (.Name "enumerate" p) [e] [] pos) (iEnum K ta) := by subst hK; exact pi_enum hg hm ha hs
theorem pg_tupZ {K : PySem.W.Frag} {es : List Expr} {k : Nat} {t : TGs} {n : Nat} {pos : Pos} (hK : X.K = K) (hc : X.calm = true) (h : PGs X es t)
    (hn : (assignEach es X.env).length = n := by rfl) (hst : (assignEach es X.env).findIdx? (·.1) = none := by rfl) : PG X (.Tuple es k pos) (gTup K n t) := by subst hK; exact pg_tup hc h hn hst
theorem pe_bmZ {K : PySem.W.Frag} {o e : Expr} {es : List Expr} {to : TE} {t : TA} {name : Str} {apos cpos : Pos} {T id : String} {r : V → List V → Hp → VK → Prop} (hK : X.K = K) (pa : PlainAttrs T) (slot : Slot T name id) (hty : typeOf (.builtin id) = pure (.type "method_descriptor")) (hm : MtR X id r) (ho : PE X o to) (ha : PA X (e :: es) t)
    (hbase : attributeBase o name X.env (eval o X.env) = eval o X.env := by rfl)
    (hfew : ((backTo cpos (starEach (e :: es) X.env)).all (fun x => !x.1) && (backToKw cpos (keywordEach [] X.env)).all (fun x => x.1.isSome)
      && decide ((e :: es).length + ([] : List Keyword).length + (if ([] : List Keyword).isEmpty then 0 else 1) < 30)) = true := by rfl)
    (hline : (apos.endLine == cpos.line) = true := by rfl) (hs : starEach (e :: es) X.env = (false, eval e X.env) :: starEach es X.env := by rfl) (hplain : (backTo cpos (starEach es X.env)).any (·.1) = false := by rfl) :
    PE X (.Call (.Attribute o name apos) (e :: es) [] cpos) (tBM K T r to t) := by subst hK; exact pe_bm pa slot hty hm ho ha hbase hfew hline hs hplain
def tCallZ (sp : Sp) (E : XK) (t : TA) : TE := fun σ H Q => t σ H fun vs H1 => sp vs H1 Q E
variable {CX : CXT} {k : Nat} {f C : Addr} {fd : FuncData} {ps : List Str} {sp : Sp} {E : XK} {x m : Str} {p pos apos : Pos} {e o : Expr} {es : List Expr} {ta : TE} {t : TA}
theorem callZ_eq : tCall sp [] E t = tCallZ sp E t := by
  funext σ H Q
  show t σ H (fun vs H1 => sp (vs ++ []) H1 Q E) = t σ H fun vs H1 => sp vs H1 Q E
  simp only [List.append_nil]
theorem pe_callZ (F : FnOk X.prog X.w X.K X.mg X.base CX k f fd ps sp) (hr : Room k X.A) (hg : Gl X x) (hm : X.mg x = some (.ref f)) (hk : PySem.W.keepIn X.K (.ref f) = true) (hb : Binds X.K fd ps []) (hx : Passes CX X E)
    (ha : PA X (e :: es) t) (hdb : (x == ("__debug__" : Str)) = false := by decide) (he : starEach (e :: es) X.env = (false, eval e X.env) :: starEach es X.env := by rfl) (hpl : (backTo pos (starEach es X.env)).any (·.1) = false := by rfl) :
    PE X (.Call (.Name x p) (e :: es) [] pos) (tCallZ sp E t) := by
  rw [← callZ_eq]
  exact pe_call F hr hg hm hk hb .nil hx ha hdb he hpl
end
section
variable {K : PySem.W.Frag} {σ : St} {H : Hp} {nx bk ct : St → Hp → Prop} {rt : VK} {t u : TS} {te ta tb tc : TE} {tt uu : TT} {Q : VK} {QB : Bool → Hp → Prop} {QA : List V → Hp → Prop} {QO : Option Int → Hp → Prop} {v : V} {i : Nat} {b : Bool} {tr : TA}
theorem z_int {Qi : Int → Prop} {i : Int} (h : Qi i) : ∃ j, V.int i = .int j ∧ Qi j := ⟨i, rfl, h⟩
theorem z_if {p A B : Prop} [Decidable p] (h1 : p → A) (h2 : ¬ p → B) : if decide p = true then A else B := by
  by_cases h : p
  · rw [if_pos (decide_eq_true h)]; exact h1 h
  · rw [if_neg (by rw [decide_eq_false h]; exact Bool.false_ne_true)]; exact h2 h
theorem z_iT {A B : Prop} (h : A) : if true = true then A else B := by rw [if_pos rfl]; exact h
theorem z_iF {A B : Prop} (h : B) : if false = true then A else B := by rw [if_neg Bool.false_ne_true]; exact h
theorem z_inF {A B : Prop} (h : A) : if (!false) = true then A else B := h
theorem z_inT {A B : Prop} (h : B) : if (!true) = true then A else B := by
  rw [if_neg (by decide)]; exact h
end
structure Rt (X : Cx) (H : Hp) : Prop where
  keep : ∀ b o, X.H_0 b = some o → kept o = true → ∃ u, H b = some u ∧ kept u = true ∧ (∀ xs, o = .tup xs → u = o) ∧ (∀ ob u', o = .frz ob u' → u = o) ∧ ∀ ps, o = .tbl ps → ∃ more, u = .tbl (ps ++ more)
  cl : ∀ a o (G : Hp), H a = some o → (∀ b, H b = some (.own a) → G b = some (.own a)) → okA G a o
section
variable {X : Cx}
theorem Rt.of {pins : List (Addr × Obj)} {σ : List (Option V)} {H : Hp} {s : Shared} (I : Inv X pins σ H s) : Rt X H where
  keep := fun b o e k => by
    cases o with
    | tup xs => exact ⟨_, I.base.tups b xs e, rfl, fun _ _ => rfl, fun _ _ _ => rfl, fun _ q => nomatch q⟩
    | frz ob u => exact ⟨_, I.base.frzs b ob u e, rfl, fun _ _ => rfl, fun _ _ _ => rfl, fun _ q => nomatch q⟩
    | tbl ps =>
      obtain ⟨more, q⟩ := I.base.tbls b ps e
      exact ⟨_, q, rfl, fun _ z => (nomatch z), fun _ _ z => (nomatch z), fun _ z => by cases z; exact ⟨more, rfl⟩⟩
    | _ => cases k
  cl := fun a o G e k => okA_of (I.hok a o e) k
end
section
variable {K : PySem.W.Frag} {σ : St} {H : Hp} {Q : VK} {R : Hp → Prop}
theorem z_isi {x : V} {n m : String} {b : Bool} (ty : TyX K H x (.type n)) (e : PySem.W.kitOne K (.type n) (.type m) = some b) (h : Q (.bl b) H) : rIsi K [x, .ty m] H Q := ⟨x, .ty m, _, _, b, rfl, .ty m, ty, e, h⟩
end
section
theorem and_nat (a b : Nat) : Builtin.bitAnd (a : Int) (b : Int) = ((a &&& b : Nat) : Int) := by rw [PyProof.Rows.bitAnd_pp (by omega) (by omega)] <;> rfl
end
section
variable {K : PySem.W.Frag} {H : Hp} {Q : VK}
theorem canLay_ints : ∀ ns : List Int, PyData.canLayAll0 (ns.map PyData.int) = true
  | [] => rfl
  | n :: ns => by
    show (PyData.canLay0 (.int n) && PyData.canLayAll0 (ns.map PyData.int)) = true
    rw [canLay_ints ns] <;> rfl
theorem depth_ints : ∀ ns : List Int, PyData.depthAll (ns.map PyData.int) = 0
  | [] => rfl
  | n :: ns => by
    show max (PyData.depth (.int n)) (PyData.depthAll (ns.map PyData.int)) = 0
    rw [depth_ints ns] <;> rfl
theorem shaped_ints (ns : List Int) : SeqAt.shaped (.list (ns.map PyData.int)) = true := by
  unfold SeqAt.shaped
  rw [show PyData.canLay0 (.list (ns.map PyData.int)) = true from canLay_ints ns]
  rw [show PyData.depth (.list (ns.map PyData.int)) = 1 from by show PyData.depthAll _ + 1 = 1; rw [depth_ints]] <;> rfl
theorem eqvAll_ints : ∀ ns ms : List Int, PyData.eqvAll (ns.map PyData.int) (ms.map PyData.int) = decide (ns = ms)
  | [], [] => rfl
  | [], m :: ms => rfl
  | n :: ns, [] => rfl
  | n :: ns, m :: ms => by
    show (n == m && PyData.eqvAll (ns.map PyData.int) (ms.map PyData.int)) = _
    rw [eqvAll_ints ns ms]
    by_cases h : n = m
    · subst h; simp
    · simp [h]
theorem eqv_ints (ns ms : List Int) : PyData.eqv (.list (ns.map PyData.int)) (.list (ms.map PyData.int)) = decide (ns = ms) := eqvAll_ints ns ms
end
section
variable {K : PySem.W.Frag} {H H1 H' : Hp} {p q a : Addr} {o u : HO} {xs : List V}
/-- what stood stands, no tuple is new -/
structure Sx (H H1 : Hp) : Prop where
  same : Same H H1
  nt : ∀ b xs, H1 b = some (.tup xs) → H b = some (.tup xs)
end
section
variable {K : PySem.W.Frag} {σ : St} {H : Hp} {Q : VK} {R A B : Prop} {p a : Addr} {xs ys : List V} {y : V}
theorem z_ifR {α : Type} [DecidableEq α] {x : α} (h : A) : if decide (x = x) = true then A else B := by rw [if_pos (decide_eq_true rfl)]; exact h
theorem z_ifnR {α : Type} [DecidableEq α] {x : α} (h : B) : if (!decide (x = x)) = true then A else B := by rw [decide_eq_true (rfl : x = x)]; exact z_inT h
theorem z_ifY {c : Prop} [Decidable c] (hc : c) (h : A) : if decide c = true then A else B := by rw [if_pos (decide_eq_true hc)]; exact h
theorem z_ifN {c : Prop} [Decidable c] (hc : ¬ c) (h : B) : if decide c = true then A else B := by rw [if_neg (by rw [decide_eq_false hc]; exact Bool.false_ne_true)]; exact h
theorem z_ifnY {c : Prop} [Decidable c] (hc : c) (h : B) : if (!decide c) = true then A else B := by rw [decide_eq_true hc]; exact z_inT h
theorem z_ifnN {c : Prop} [Decidable c] (hc : ¬ c) (h : A) : if (!decide c) = true then A else B := by rw [decide_eq_false hc]; exact z_inF h
theorem z_list (hp : SqL K H p ys) (h : ∀ l, H l = none → Q (.ref l) (upd H l (.lst ys))) : rListOf K [.ref p] H Q := ⟨p, ys, rfl, .inl hp, h⟩
end
section
variable {K : PySem.W.Frag} {H : Hp} {Q : VK} {n : Nat}
def rMin2 : List V → Hp → VK → Prop := fun xs H Q => ∃ i j, xs = [.int i, .int j] ∧ Q (.int (if j < i then j else i)) H
def rMax2 : List V → Hp → VK → Prop := fun xs H Q => ∃ i j, xs = [.int i, .int j] ∧ Q (.int (if j > i then j else i)) H
theorem call_min2Z {X : Cx} (hc : X.calm = true) : CallR X (.builtin "min") rMin2 := call_min2 hc
theorem call_max2Z {X : Cx} (hc : X.calm = true) : CallR X (.builtin "max") rMax2 := call_max2 hc
theorem z_min2 {i j : Int} (h : Q (.int (min i j)) H) : rMin2 [.int i, .int j] H Q := ⟨i, j, rfl, by
  have e : (if j < i then j else i) = min i j := by
    by_cases l : j < i
    · rw [if_pos l]; omega
    · rw [if_neg l]; omega
  rw [e]; exact h⟩
theorem z_max2 {i j : Int} (h : Q (.int (max i j)) H) : rMax2 [.int i, .int j] H Q := ⟨i, j, rfl, by
  have e : (if j > i then j else i) = max i j := by
    by_cases l : j > i
    · rw [if_pos l]; omega
    · rw [if_neg l]; omega
  rw [e]; exact h⟩
end
section
variable {X : Cx} {K : PySem.W.Frag} {H : Hp} {Q : VK}
theorem op_isnB : OpR X (compareOp .IsNot) (fun x y H Q => ∃ b c, x = .bl b ∧ y = .bl c ∧ Q (.bl (!(b == c))) H) := by
  intro pins s σ H x y v u Q I rx ry h
  obtain ⟨b, c, rfl, rfl, q⟩ := h
  cases rx
  cases ry
  cases b <;> cases c <;> exact PySem.wpAny_pure (fin_bl I q rfl)
def rIsnZ : R2 := fun x y H Q => (y = .non ∧ Q (.bl (!decide (x = .non))) H) ∨ ∃ b c, x = .bl b ∧ y = .bl c ∧ Q (.bl (!(b == c))) H
theorem op_isnZ : OpR X (compareOp .IsNot) rIsnZ := op_notN.or op_isnB
end
section
variable {K : PySem.W.Frag} {σ : St} {H : Hp} {Q : St → Hp → Prop} {QV : VK} {a : Addr} {xs : List V} {v : V} {n : Nat} {t : TG} {u : TGs}
theorem z_all {bs : List Bool} (ha : SqL K H a (bs.map V.bl)) (h : QV (.bl (bs.all id)) H) : rAll K [.ref a] H QV := ⟨a, bs, rfl, ha, h⟩
end
/-- a raise of an own class: the way out -/
def tRaiseZ (C : Addr) (W : WX) : TS := fun _ σ H => W (.ref C) none σ H
theorem ps_raiseZ {X : Cx} {W : WX} {C : Addr} {bmB : List Value} {B newId initId : String} {x m : Str} {j : Nat} {p p2 pos pos' : Pos} (hc : X.calm = true) (tk : Takes X W) (F : ExcBaseFacts B newId initId bmB) (q : PySem.W.excIn X.K C bmB newId = true) (gC : X.mg x = some (.ref C)) (kC : PySem.W.keepIn X.K (.ref C) = true) (r : Raises X (.ref C)) (hg : Gl X x)
    (hdb : (x == ("__debug__" : Str)) = false := by decide) : PS X (.Raise (some (.Call (.Name x p) [.Constant (.str m) j p2] [] pos)) none pos') (tRaiseZ C W) := ps_raise hc tk (pmk_own F q gC kC r hg hdb)
end Z
namespace Y
open PySem L2 Z
/-- data -/
inductive D where
  | non | bl (b : Bool) | int (i : Int) | str (x : Str)
  | tup (l : List D) | ctp (l : List D) | lst (l : List D) | clst (l : List D)
  | dK (l : List (Key × D)) | dT (l : List (List Key × D))
  | cid (k : Nat) | ty (n : String)
/-- the classes' places; in a suite: the exception's place, class and dict -/
structure Ct where
  c : Nat → Addr
  xa : Option (Addr × Addr × Option Addr)
  lk : Option Addr
instance : CoeFun Ct (fun _ => Nat → Addr) := ⟨Ct.c⟩
/-- what may be changed -/
inductive Cn where
  | lst (l : List D) | dK (l : List (Key × D)) | dT (l : List (List Key × D)) | obj (c : Nat) (fs : List (Str × D)) | lkK (l : List (Key × D)) | lkT (l : List (List Key × D))
structure Exn where
  cls : Nat
  fs : List (Str × D)
inductive Ent where
  | fz (d : D) | ow (c : Cn) | xn (x : Exn)
structure Stt where
  env : List (Option Ent)
  M : List Cn
inductive AI where
  | val (d : D) | slot (i : Nat) | new (c : Cn)
inductive Ro (α : Type) where
  | ok (a : α) (s : Stt) | er (x : Exn) (s : Stt) | no
abbrev Mo (α : Type) := Stt → Ro α
def Ro.bind {α β : Type} (r : Ro α) (f : α → Mo β) : Ro β :=
  match r with
  | .ok a s => f a s
  | .er x s => .er x s
  | .no => .no
inductive Rs where
  | nx (s : Stt) | rt (a : AI) (s : Stt) | bk (s : Stt) | ct (s : Stt) | er (x : Exn) (s : Stt) | no
abbrev Ms := Stt → Rs
/-- a def: what it hands back (a value, or a thing made anew), the objects behind it -/
inductive Fr where
  | ok (a : AI) (M : List Cn) | er (x : Exn) (M : List Cn) | no
abbrev Mf := List D → List Cn → Fr
def Cn.toD : Cn → D
  | .lst l => .lst l
  | .dK l => .dK l
  | .dT l => .dT l
  | .obj _ _ => .non
  | .lkK _ => .non
  | .lkT _ => .non
def Cn.isC : Cn → Bool
  | .obj _ _ => false
  | .lkK _ => false
  | .lkT _ => false
  | _ => true
mutual
inductive Rp (K : PySem.W.Frag) (G : Hp) (α : Nat → Addr) (n : Nat) : V → D → Prop
  | non : Rp K G α n .non .non
  | bl (b : Bool) : Rp K G α n (.bl b) (.bl b)
  | int (i : Int) : Rp K G α n (.int i) (.int i)
  | str (x : Str) : Rp K G α n (.str x) (.str x)
  | tup {a : Addr} {vs : List V} {l : List D} : G a = some (.tup vs) → RpL K G α n vs l → Rp K G α n (.ref a) (.tup l)
  | ctp {a : Addr} {vs : List V} {l : List D} : SqT K G a vs → RpL K G α n vs l → Rp K G α n (.ref a) (.ctp l)
  | lst {a : Addr} {vs : List V} {l : List D} : G a = some (.lst vs) → RpL K G α n vs l → Rp K G α n (.ref a) (.lst l)
  | clst {a : Addr} {vs : List V} {l : List D} : SqL K G a vs → RpL K G α n vs l → Rp K G α n (.ref a) (.clst l)
  | dK {a : Addr} {kvs : List (Key × V)} {l : List (Key × D)} : G a = some (.dK kvs) → kvs.map Prod.fst = l.map Prod.fst → RpL K G α n (kvs.map Prod.snd) (l.map Prod.snd) → Rp K G α n (.ref a) (.dK l)
  | dT {a : Addr} {kvs : List (List Key × V)} {l : List (List Key × D)} : G a = some (.dT kvs) → kvs.map Prod.fst = l.map Prod.fst → RpL K G α n (kvs.map Prod.snd) (l.map Prod.snd) → Rp K G α n (.ref a) (.dT l)
  | cid {k : Nat} : k < n → Rp K G α n (.ref (α k)) (.cid k)
  | ty (m : String) : Rp K G α n (.ty m) (.ty m)
inductive RpL (K : PySem.W.Frag) (G : Hp) (α : Nat → Addr) (n : Nat) : List V → List D → Prop
  | nil : RpL K G α n [] []
  | cons {v : V} {vs : List V} {d : D} {l : List D} : Rp K G α n v d → RpL K G α n vs l → RpL K G α n (v :: vs) (d :: l)
end
theorem rd_mono {G G' : Hp} {a : Addr} {u : HO} (s : Same G G') (h : Rd G a u) : Rd G' a u := by
  rcases h with h | ⟨o, h⟩
  · exact .inl (s _ _ h)
  · exact .inr ⟨o, s _ _ h⟩
theorem st_mono {K : PySem.W.Frag} {G G' : Hp} {a : Addr} {xs : List V} (s : Same G G') (h : SqT K G a xs) : SqT K G' a xs := by
  rcases h with h | h
  · exact .inl (rd_mono s h)
  · exact .inr h
section
variable {K : PySem.W.Frag} {G G' : Hp} {α α' : Nat → Addr} {n n' : Nat}
mutual
theorem Rp.mono (s : Same G G') (ha : ∀ k, k < n → α' k = α k) (hn : n ≤ n') : ∀ {v : V} {d : D}, Rp K G α n v d → Rp K G' α' n' v d
  | _, _, .non => .non
  | _, _, .bl b => .bl b
  | _, _, .int i => .int i
  | _, _, .str x => .str x
  | _, _, .ty x => .ty x
  | _, _, .tup h r => .tup (s _ _ h) (RpL.mono s ha hn r)
  | _, _, .ctp h r => .ctp (st_mono s h) (RpL.mono s ha hn r)
  | _, _, .lst h r => .lst (s _ _ h) (RpL.mono s ha hn r)
  | _, _, .clst h r => .clst (s.seq h) (RpL.mono s ha hn r)
  | _, _, .dK h e r => .dK (s _ _ h) e (RpL.mono s ha hn r)
  | _, _, .dT h e r => .dT (s _ _ h) e (RpL.mono s ha hn r)
  | _, _, .cid (k := k) h => by
    have e := ha k h
    rw [← e]
    exact .cid (Nat.lt_of_lt_of_le h hn)
theorem RpL.mono (s : Same G G') (ha : ∀ k, k < n → α' k = α k) (hn : n ≤ n') : ∀ {vs : List V} {l : List D}, RpL K G α n vs l → RpL K G' α' n' vs l
  | _, _, .nil => .nil
  | _, _, .cons h r => .cons (Rp.mono s ha hn h) (RpL.mono s ha hn r)
end
theorem RpL.length : ∀ {vs : List V} {l : List D}, RpL K G α n vs l → vs.length = l.length
  | _, _, .nil => rfl
  | _, _, .cons _ r => by rw [List.length_cons, List.length_cons, RpL.length r]
theorem RpL.append : ∀ {vs us : List V} {l m : List D}, RpL K G α n vs l → RpL K G α n us m → RpL K G α n (vs ++ us) (l ++ m)
  | _, _, _, _, .nil, h => h
  | _, _, _, _, .cons a r, h => .cons a (r.append h)
theorem RpL.get : ∀ {vs : List V} {l : List D} {i : Nat} {d : D}, RpL K G α n vs l → l[i]? = some d → ∃ v, vs[i]? = some v ∧ Rp K G α n v d
  | _, _, _, _, .nil, e => by simp at e
  | _, _, 0, _, .cons a _, e => ⟨_, rfl, by simp at e; subst e; exact a⟩
  | _, _, i + 1, d, .cons _ r, e => by
    obtain ⟨v, h1, h2⟩ := RpL.get (i := i) (d := d) r (by simpa using e)
    exact ⟨v, by simpa using h1, h2⟩
theorem RpL.set {v : V} {d : D} (h : Rp K G α n v d) : ∀ {vs : List V} {l : List D} (i : Nat), RpL K G α n vs l → RpL K G α n (vs.set i v) (l.set i d)
  | _, _, _, .nil => .nil
  | _, _, 0, .cons _ r => .cons h r
  | _, _, i + 1, .cons a r => .cons a (RpL.set h i r)
theorem RpL.take : ∀ {vs : List V} {l : List D} (i : Nat), RpL K G α n vs l → RpL K G α n (vs.take i) (l.take i)
  | _, _, 0, _ => .nil
  | _, _, _ + 1, .nil => .nil
  | _, _, i + 1, .cons a r => .cons a (r.take i)
theorem RpL.drop : ∀ {vs : List V} {l : List D} (i : Nat), RpL K G α n vs l → RpL K G α n (vs.drop i) (l.drop i)
  | _, _, 0, h => h
  | _, _, _ + 1, .nil => .nil
  | _, _, i + 1, .cons _ r => r.drop i
end
def strip : Option HO → Option HO
  | some (.frz _ (.dK k)) => some (.dK k)
  | some (.frz _ (.dT k)) => some (.dT k)
  | x => x
/-- b: the dict that is locked, if any -/
def U (b : Option Addr) (H : Hp) : Hp := fun a => if b = some a then strip (H a) else H a
section
variable {K : PySem.W.Frag} {b : Option Addr} {H : Hp} {a p : Addr} {o : HO} {vs : List V}
theorem U0 : U none H = H := by funext a; unfold U; rw [if_neg (by simp)]
theorem U_same {H' : Hp} (h : H' a = H a) : U b H' a = U b H a := by unfold U; rw [h]
theorem U_none (h : H a = none) : U b H a = none := by unfold U; rw [h]; split <;> rfl
theorem U_ne (h : a ≠ p) : U b (upd H p o) a = U b H a := U_same (upd_ne h)
theorem uL (h : H a = some (.lst vs)) : U b H a = some (.lst vs) := by unfold U; rw [h]; split <;> rfl
theorem uP (h : H a = some (.tup vs)) : U b H a = some (.tup vs) := by unfold U; rw [h]; split <;> rfl
theorem uK {k : List (Key × V)} (h : H a = some (.dK k)) : U b H a = some (.dK k) := by unfold U; rw [h]; split <;> rfl
theorem uT {k : List (List Key × V)} (h : H a = some (.dT k)) : U b H a = some (.dT k) := by unfold U; rw [h]; split <;> rfl
theorem U_cases (b : Option Addr) (H : Hp) (a : Addr) : U b H a = H a ∨ (∃ o k, H a = some (.frz o (.dK k)) ∧ U b H a = some (.dK k)) ∨ ∃ o k, H a = some (.frz o (.dT k)) ∧ U b H a = some (.dT k) := by
  unfold U
  split
  · unfold strip
    split
    · rename_i o k h; exact .inr (.inl ⟨o, k, h, rfl⟩)
    · rename_i o k h; exact .inr (.inr ⟨o, k, h, rfl⟩)
    · exact .inl rfl
  · exact .inl rfl
theorem uL' (h : U b H a = some (.lst vs)) : H a = some (.lst vs) := by
  rcases U_cases b H a with e | ⟨o, k, _, e⟩ | ⟨o, k, _, e⟩
  · rw [e] at h; exact h
  · rw [e] at h; cases h
  · rw [e] at h; cases h
theorem uP' (h : U b H a = some (.tup vs)) : H a = some (.tup vs) := by
  rcases U_cases b H a with e | ⟨o, k, _, e⟩ | ⟨o, k, _, e⟩
  · rw [e] at h; exact h
  · rw [e] at h; cases h
  · rw [e] at h; cases h
theorem uF' {o : Obj} {u : HO} (h : U b H a = some (.frz o u)) : H a = some (.frz o u) := by
  rcases U_cases b H a with e | ⟨o, k, _, e⟩ | ⟨o, k, _, e⟩
  · rw [e] at h; exact h
  · rw [e] at h; cases h
  · rw [e] at h; cases h
theorem uK' {k : List (Key × V)} (h : U b H a = some (.dK k)) : Rd H a (.dK k) := by
  rcases U_cases b H a with e | ⟨o, k', q, e⟩ | ⟨o, k', q, e⟩
  · rw [e] at h; exact .inl h
  · rw [e] at h; cases h; exact .inr ⟨o, q⟩
  · rw [e] at h; cases h
theorem uT' {k : List (List Key × V)} (h : U b H a = some (.dT k)) : Rd H a (.dT k) := by
  rcases U_cases b H a with e | ⟨o, k', q, e⟩ | ⟨o, k', q, e⟩
  · rw [e] at h; exact .inl h
  · rw [e] at h; cases h
  · rw [e] at h; cases h; exact .inr ⟨o, q⟩
theorem uSqL (h : SqL K (U b H) a vs) : SqL K H a vs := by
  rcases h with (h | ⟨o, h⟩) | h
  · exact .inl (.inl (uL' h))
  · exact .inl (.inr ⟨o, uF' h⟩)
  · exact .inr h
theorem uSqT (h : SqT K (U b H) a vs) : SqT K H a vs := by
  rcases h with (h | ⟨o, h⟩) | h
  · exact .inl (.inl (uP' h))
  · exact .inl (.inr ⟨o, uF' h⟩)
  · exact .inr h
end
inductive Lab where
  | id (k : Nat) | slot (i : Nat)
  deriving DecidableEq
structure Sh where
  G : Hp
  α : Nat → Addr
  lab : Addr → Option Lab
def CnOk (K : PySem.W.Frag) (ct : Ct) (S : Sh) (n : Nat) (H : Hp) (p : Addr) : Cn → Prop
  | .lst l => ∃ vs, H p = some (.lst vs) ∧ RpL K S.G S.α n vs l
  | .dK l => ∃ kvs, H p = some (.dK kvs) ∧ kvs.map Prod.fst = l.map Prod.fst ∧ RpL K S.G S.α n (kvs.map Prod.snd) (l.map Prod.snd)
  | .dT l => ∃ kvs, H p = some (.dT kvs) ∧ kvs.map Prod.fst = l.map Prod.fst ∧ RpL K S.G S.α n (kvs.map Prod.snd) (l.map Prod.snd)
  | .obj c fs => ∃ dx fvs, H p = some (.ins (ct c) dx fvs) ∧ fvs.map Prod.fst = fs.map Prod.fst ∧ RpL K S.G S.α n (fvs.map Prod.snd) (fs.map Prod.snd)
  | .lkK l => ∃ kvs, (∃ od, H p = some (.frz od (.dK kvs))) ∧ kvs.map Prod.fst = l.map Prod.fst ∧ RpL K S.G S.α n (kvs.map Prod.snd) (l.map Prod.snd)
  | .lkT l => ∃ kvs, (∃ od, H p = some (.frz od (.dT kvs))) ∧ kvs.map Prod.fst = l.map Prod.fst ∧ RpL K S.G S.α n (kvs.map Prod.snd) (l.map Prod.snd)
def XOk (K : PySem.W.Frag) (S : Sh) (n : Nat) (H : Hp) (x : Exn) (dd : Option Addr) : Prop :=
  (x.fs = [] ∧ dd = none) ∨ ∃ d fvs, dd = some d ∧ S.G d = some (.xd fvs) ∧ fvs.map Prod.fst = x.fs.map Prod.fst ∧ RpL K S.G S.α n (fvs.map Prod.snd) (x.fs.map Prod.snd)
theorem XOk.mono {K : PySem.W.Frag} {S S' : Sh} {n n' : Nat} {H H' : Hp} {x : Exn} {dd : Option Addr} (g : Same S.G S'.G) (al : ∀ k, k < n → S'.α k = S.α k) (hn : n ≤ n') (h : XOk K S n H x dd) : XOk K S' n' H' x dd := by
  rcases h with h | ⟨d, fvs, e, h1, h2, h3⟩
  · exact .inl h
  · exact .inr ⟨d, fvs, e, g _ _ h1, h2, h3.mono g al hn⟩
def EntOk (K : PySem.W.Frag) (ct : Ct) (H0 : Hp) (S : Sh) (n : Nat) (σ : St) (H : Hp) (i : Nat) : Ent → Prop
  | .fz d => ∃ v, σ[i]? = some (some v) ∧ Rp K S.G S.α n v d
  | .ow c => ∃ p, σ[i]? = some (some (.ref p)) ∧ H0 p = none ∧ S.lab p = some (.slot i) ∧ c.isC = true ∧ CnOk K ct S n H p c
  | .xn x => ∃ a d, ct.xa = some (a, ct x.cls, d) ∧ σ[i]? = some (some (.ref a)) ∧ XOk K S n H x d
theorem xn_mono {K : PySem.W.Frag} {ct : Ct} {H0 : Hp} {S S' : Sh} {n n' : Nat} {σ σ' : St} {H H' : Hp} {i : Nat} {x : Exn} (g : Same S.G S'.G) (al : ∀ k, k < n → S'.α k = S.α k) (hn : n ≤ n') (hs : σ'[i]? = σ[i]?) (h : EntOk K ct H0 S n σ H i (.xn x)) : EntOk K ct H0 S' n' σ' H' i (.xn x) := by
  obtain ⟨a, d, h1, h2, h3⟩ := h
  exact ⟨a, d, h1, hs.trans h2, h3.mono g al hn⟩
/-- no tuple -/
def NT (o : HO) : Prop := ∀ vs, o ≠ .tup vs
structure Rel (K : PySem.W.Frag) (ct : Ct) (H0 : Hp) (S : Sh) (s : Stt) (σ : St) (H : Hp) : Prop where
  sub : Same S.G (U ct.lk H)
  lg : ∀ a l, S.lab a = some l → S.G a = none ∧ ∃ o, H a = some o ∧ NT o
  dom : ∀ a, H a = none → H0 a = none
  len : σ.length = s.env.length
  slot : ∀ i e, s.env[i]? = some (some e) → EntOk K ct H0 S s.M.length σ H i e
  ids : ∀ k c, s.M[k]? = some c → S.lab (S.α k) = some (.id k) ∧ CnOk K ct S s.M.length H (S.α k) c
structure Stp (S : Sh) (n : Nat) (H : Hp) (S' : Sh) (n' : Nat) (H' : Hp) : Prop where
  g : Same S.G S'.G
  le : n ≤ n'
  al : ∀ k, k < n → S'.α k = S.α k
  fr : ∀ a o, H a = some o → S.lab a = none → H' a = some o ∧ S'.lab a = none
  gn : ∀ a o, S'.G a = some o → S.G a = some o ∨ H a = none ∨ (∃ l, S.lab a = some l) ∨ ∃ vs, H a = some (.tup vs)
  dom : ∀ a, H' a = none → H a = none
  fz : ∀ a od u, H a = some (.frz od u) → H' a = some (.frz od u)
section
variable {S S' S'' : Sh} {n n' n'' : Nat} {H H' H'' : Hp}
theorem Stp.refl : Stp S n H S n H := ⟨fun _ _ e => e, Nat.le_refl _, fun _ _ => rfl, fun _ _ h l => ⟨h, l⟩, fun _ _ h => .inl h, fun _ h => h, fun _ _ _ h => h⟩
theorem Stp.trans (a : Stp S n H S' n' H') (b : Stp S' n' H' S'' n'' H'') : Stp S n H S'' n'' H'' where
  g := fun x o e => b.g x o (a.g x o e)
  le := Nat.le_trans a.le b.le
  al := fun k hk => (b.al k (Nat.lt_of_lt_of_le hk a.le)).trans (a.al k hk)
  fr := fun x o h l => by
    obtain ⟨h1, l1⟩ := a.fr x o h l
    exact b.fr x o h1 l1
  gn := fun x o e => by
    rcases b.gn x o e with h | h | ⟨l, h⟩ | ⟨vs, h⟩
    · exact a.gn x o h
    · exact .inr (.inl (a.dom x h))
    · cases q : H x with
      | none => exact .inr (.inl rfl)
      | some u =>
        cases ql : S.lab x with
        | none =>
          have := (a.fr x u q ql).2
          rw [this] at h; cases h
        | some l' => exact .inr (.inr (.inl ⟨l', rfl⟩))
    · cases q : H x with
      | none => exact .inr (.inl rfl)
      | some u =>
        cases ql : S.lab x with
        | none =>
          have := (a.fr x u q ql).1
          rw [this] at h; cases h
          exact .inr (.inr (.inr ⟨vs, rfl⟩))
        | some l' => exact .inr (.inr (.inl ⟨l', rfl⟩))
  dom := fun x h => a.dom x (b.dom x h)
  fz := fun x od u h => b.fz x od u (a.fz x od u h)
theorem Rp.step {K : PySem.W.Frag} {v : V} {d : D} (t : Stp S n H S' n' H') (h : Rp K S.G S.α n v d) : Rp K S'.G S'.α n' v d := h.mono t.g t.al t.le
theorem RpL.step {K : PySem.W.Frag} {v : List V} {d : List D} (t : Stp S n H S' n' H') (h : RpL K S.G S.α n v d) : RpL K S'.G S'.α n' v d := h.mono t.g t.al t.le
end
theorem CnOk.mono {K : PySem.W.Frag} {ct : Ct} {S S' : Sh} {n n' : Nat} {H H' : Hp} {p : Addr} {c : Cn} (g : Same S.G S'.G) (al : ∀ k, k < n → S'.α k = S.α k) (hn : n ≤ n') (e : ∀ o, H p = some o → H' p = some o) (h : CnOk K ct S n H p c) : CnOk K ct S' n' H' p c := by
  cases c with
  | lst l => obtain ⟨vs, h1, h2⟩ := h; exact ⟨vs, e _ h1, h2.mono g al hn⟩
  | dK l => obtain ⟨vs, h1, h3, h2⟩ := h; exact ⟨vs, e _ h1, h3, h2.mono g al hn⟩
  | dT l => obtain ⟨vs, h1, h3, h2⟩ := h; exact ⟨vs, e _ h1, h3, h2.mono g al hn⟩
  | obj c fs => obtain ⟨dx, vs, h1, h3, h2⟩ := h; exact ⟨dx, vs, e _ h1, h3, h2.mono g al hn⟩
  | lkK l => obtain ⟨vs, ⟨od, h1⟩, h3, h2⟩ := h; exact ⟨vs, ⟨od, e _ h1⟩, h3, h2.mono g al hn⟩
  | lkT l => obtain ⟨vs, ⟨od, h1⟩, h3, h2⟩ := h; exact ⟨vs, ⟨od, e _ h1⟩, h3, h2.mono g al hn⟩
/-- a dict that is locked while it is walked -/
def Cn.lkd : Cn → Bool
  | .lkK _ => true
  | .lkT _ => true
  | _ => false
def NF (o : HO) : Prop := ∀ od u, o ≠ .frz od u
theorem CnOk.nf {K : PySem.W.Frag} {ct : Ct} {S : Sh} {n : Nat} {H : Hp} {p : Addr} {c : Cn} (h : CnOk K ct S n H p c) (hc : c.lkd = false) {o : HO} (e : H p = some o) : NF o := fun od u z => by
  subst z
  cases c with
  | lst l => obtain ⟨us, h1, _⟩ := h; rw [h1] at e; cases e
  | dK l => obtain ⟨us, h1, _⟩ := h; rw [h1] at e; cases e
  | dT l => obtain ⟨us, h1, _⟩ := h; rw [h1] at e; cases e
  | obj c fs => obtain ⟨_, us, h1, _⟩ := h; rw [h1] at e; cases e
  | lkK l => cases hc
  | lkT l => cases hc
theorem CnOk.nt {K : PySem.W.Frag} {ct : Ct} {S : Sh} {n : Nat} {H : Hp} {p : Addr} {c : Cn} (h : CnOk K ct S n H p c) {o : HO} (e : H p = some o) : NT o := fun vs z => by
  subst z
  cases c with
  | lst l => obtain ⟨us, h1, _⟩ := h; rw [h1] at e; cases e
  | dK l => obtain ⟨us, h1, _⟩ := h; rw [h1] at e; cases e
  | dT l => obtain ⟨us, h1, _⟩ := h; rw [h1] at e; cases e
  | obj c fs => obtain ⟨_, us, h1, _⟩ := h; rw [h1] at e; cases e
  | lkK l => obtain ⟨us, ⟨od, h1⟩, _⟩ := h; rw [h1] at e; cases e
  | lkT l => obtain ⟨us, ⟨od, h1⟩, _⟩ := h; rw [h1] at e; cases e
theorem CnOk.some {K : PySem.W.Frag} {ct : Ct} {S : Sh} {n : Nat} {H : Hp} {p : Addr} {c : Cn} (h : CnOk K ct S n H p c) : ∃ o, H p = some o := by
  cases c with
  | lst l => obtain ⟨vs, h1, _⟩ := h; exact ⟨_, h1⟩
  | dK l => obtain ⟨vs, h1, _⟩ := h; exact ⟨_, h1⟩
  | dT l => obtain ⟨vs, h1, _⟩ := h; exact ⟨_, h1⟩
  | obj c fs => obtain ⟨_, vs, h1, _⟩ := h; exact ⟨_, h1⟩
  | lkK l => obtain ⟨vs, ⟨od, h1⟩, _⟩ := h; exact ⟨_, h1⟩
  | lkT l => obtain ⟨vs, ⟨od, h1⟩, _⟩ := h; exact ⟨_, h1⟩
section
variable {K : PySem.W.Frag} {ct : Ct} {H0 : Hp} {S S' : Sh} {s s' : Stt} {σ : St} {H H' : Hp} {p : Addr} {o : HO}
theorem Rel.labN (r : Rel K ct H0 S s σ H) {a : Addr} (h : H a = none) : S.lab a = none := by
  cases q : S.lab a with
  | none => rfl
  | some l => obtain ⟨_, o, e, _⟩ := r.lg a l q; rw [e] at h; cases h
theorem Rel.gN (r : Rel K ct H0 S s σ H) {a : Addr} (h : H a = none) : S.G a = none := by
  cases q : S.G a with
  | none => rfl
  | some l => have := r.sub a l q; rw [U_none h] at this; cases this
/-- a new thing that nobody has yet -/
theorem Rel.new (r : Rel K ct H0 S s σ H) (hp : H p = none) : Rel K ct H0 S s σ (upd H p o) := by
  have ne : ∀ {a : Addr} {u : HO}, H a = some u → upd H p o a = some u := fun {a u} e => by rw [upd_ne (ne_of_none e hp)]; exact e
  have cn : ∀ {a : Addr} {c : Cn}, CnOk K ct S s.M.length H a c → CnOk K ct S s.M.length (upd H p o) a c := fun {a c} h => h.mono (fun _ _ e => e) (fun _ _ => rfl) (Nat.le_refl _) (fun _ e => ne e)
  refine ⟨fun a u e => by rw [U_ne (fun z => by subst z; rw [r.gN hp] at e; cases e)]; exact r.sub a u e, fun a l e => ?_, fun a e => ?_, r.len, fun i e h => ?_, fun k c h => ?_⟩
  · obtain ⟨h1, u, h2, h3⟩ := r.lg a l e
    exact ⟨h1, u, ne h2, h3⟩
  · exact r.dom a (upd_none.mp e).2
  · have q := r.slot i e h
    cases e with
    | fz d => exact q
    | xn x => exact xn_mono (fun _ _ e => e) (fun _ _ => rfl) (Nat.le_refl _) rfl q
    | ow c =>
      obtain ⟨a, h1, h2, h3, h4, h5⟩ := q
      exact ⟨a, h1, h2, h3, h4, cn h5⟩
  · obtain ⟨h1, h2⟩ := r.ids k c h
    exact ⟨h1, cn h2⟩
theorem Stp.new (r : Rel K ct H0 S s σ H) (hp : H p = none) {n : Nat} : Stp S n H S n (upd H p o) where
  g := fun _ _ e => e
  le := Nat.le_refl _
  al := fun _ _ => rfl
  fr := fun a u h l => ⟨by rw [upd_ne (ne_of_none h hp)]; exact h, l⟩
  gn := fun _ _ e => .inl e
  dom := fun a e => (upd_none.mp e).2
  fz := fun a od u h => by rw [upd_ne (ne_of_none h hp)]; exact h
def Sh.frz (S : Sh) (p : Addr) (o : HO) : Sh := ⟨upd S.G p o, S.α, S.lab⟩
/-- what nobody has is frozen -/
theorem Rel.frz (r : Rel K ct H0 S s σ H) (hp : U ct.lk H p = some o) (hl : S.lab p = none) (hg : S.G p = none) : Rel K ct H0 (S.frz p o) s σ H := by
  have sg : Same S.G (S.frz p o).G := fun a u e => by show upd S.G p o a = _; rw [upd_ne (ne_of_none e hg)]; exact e
  have cn : ∀ {a : Addr} {c : Cn}, CnOk K ct S s.M.length H a c → CnOk K ct (S.frz p o) s.M.length H a c := fun {a c} h => h.mono sg (fun _ _ => rfl) (Nat.le_refl _) (fun _ e => e)
  refine ⟨fun a u e => ?_, fun a l e => ?_, r.dom, r.len, fun i e h => ?_, fun k c h => ?_⟩
  · have e : upd S.G p o a = some u := e
    by_cases q : a = p
    · subst q; rw [upd_same] at e; cases e; exact hp
    · rw [upd_ne q] at e; exact r.sub a u e
  · have e1 : S.lab a = some l := e
    obtain ⟨h1, h2⟩ := r.lg a l e1
    refine ⟨?_, h2⟩
    show upd S.G p o a = none
    rw [upd_ne (fun z => by subst z; rw [e1] at hl; cases hl)]
    exact h1
  · have q := r.slot i e h
    cases e with
    | fz d => obtain ⟨v, h1, h2⟩ := q; exact ⟨v, h1, h2.mono sg (fun _ _ => rfl) (Nat.le_refl _)⟩
    | xn x => exact xn_mono sg (fun _ _ => rfl) (Nat.le_refl _) rfl q
    | ow c =>
      obtain ⟨a, h1, h2, h3, h4, h5⟩ := q
      exact ⟨a, h1, h2, h3, h4, cn h5⟩
  · obtain ⟨h1, h2⟩ := r.ids k c h
    exact ⟨h1, cn h2⟩
theorem Stp.frz {n : Nat} (hg : S.G p = none) (hs : H p = none ∨ ∃ l, S.lab p = some l) (hd : ∀ a, H' a = none → H a = none) (fr : ∀ a u, H a = some u → S.lab a = none → H' a = some u) (hz : ∀ a od u, H a = some (.frz od u) → H' a = some (.frz od u)) : Stp S n H (S.frz p o) n H' where
  g := fun a u e => by show upd S.G p o a = _; rw [upd_ne (ne_of_none e hg)]; exact e
  le := Nat.le_refl _
  al := fun _ _ => rfl
  fr := fun a u h l => ⟨fr a u h l, l⟩
  gn := fun a u e => by
    have e : upd S.G p o a = some u := e
    by_cases q : a = p
    · subst q
      rcases hs with hs | hs
      · exact .inr (.inl hs)
      · exact .inr (.inr (.inl hs))
    · rw [upd_ne q] at e; exact .inl e
  fz := hz
  dom := hd
end
end Y
namespace Y
open PySem L2 Z
def ItOk (K : PySem.W.Frag) (ct : Ct) (Hs : Hp) (S : Sh) (s : Stt) (σ : St) (H : Hp) (v : V) : AI → Prop
  | .val d => Rp K S.G S.α s.M.length v d
  | .slot i => σ[i]? = some (some v)
  | .new c => ∃ p, v = .ref p ∧ Hs p = none ∧ S.lab p = none ∧ S.G p = none ∧ c.isC = true ∧ CnOk K ct S s.M.length H p c
/-- how a result is told: the heap ahead, the state behind, the thing, its data -/
abbrev RR (β α : Type) := Hp → Sh → Stt → St → Hp → β → α → Prop
section
variable {K : PySem.W.Frag} {ct : Ct} {H0 : Hp} {W : WX}
def Pst (K : PySem.W.Frag) (ct : Ct) (H0 : Hp) {β α : Type} (R : RR β α) (W : WX) (S : Sh) (s : Stt) (σ : St) (H : Hp) (Q : β → Hp → Prop) : Ro α → Prop
  | .ok a s' => ∀ S' b H', Stp S s.M.length H S' s'.M.length H' → Rel K ct H0 S' s' σ H' → R H S' s' σ H' b a → Q b H'
  | .er x s' => ∀ S' H' dd, Stp S s.M.length H S' s'.M.length H' → Rel K ct H0 S' s' σ H' → XOk K S' s'.M.length H' x dd → W (.ref (ct x.cls)) dd σ H'
  | .no => False
def Jd (K : PySem.W.Frag) (ct : Ct) (H0 : Hp) {β α : Type} (R : RR β α) (W : WX) (t : St → Hp → (β → Hp → Prop) → Prop) (m : Mo α) : Prop :=
  ∀ S s σ H Q, Rel K ct H0 S s σ H → Pst K ct H0 R W S s σ H Q (m s) → t σ H Q
/-- a result that is told by an earlier heap, too -/
def Bck {β α : Type} (R : RR β α) : Prop := ∀ H1 H S s σ H' b a, (∀ x, H1 x = none → H x = none) → R H1 S s σ H' b a → R H S s σ H' b a
def RI (K : PySem.W.Frag) (ct : Ct) : RR V AI := fun H S s σ H' v a => ItOk K ct H S s σ H' v a
def RV (K : PySem.W.Frag) : RR V D := fun _ S s _ _ v d => Rp K S.G S.α s.M.length v d
def RVL (K : PySem.W.Frag) : RR (List V) (List D) := fun _ S s _ _ v d => RpL K S.G S.α s.M.length v d
def RB : RR Bool Bool := fun _ _ _ _ _ b a => b = a
def RO : RR (Option Int) (Option Int) := fun _ _ _ _ _ b a => b = a
theorem bI : Bck (RI K ct) := fun H1 H S s σ H' v a k h => by
  cases a with
  | val d => exact h
  | slot i => exact h
  | new c => obtain ⟨p, e, h1, h2⟩ := h; exact ⟨p, e, k _ h1, h2⟩
theorem bVL : Bck (RVL K) := fun _ _ _ _ _ _ _ _ _ h => h
theorem bB : Bck RB := fun _ _ _ _ _ _ _ _ _ h => h
theorem bO : Bck RO := fun _ _ _ _ _ _ _ _ _ h => h
variable {β α γ δ : Type} {R : RR β α} {R' : RR γ δ} {S S1 : Sh} {s s1 : Stt} {σ : St} {H H1 : Hp}
theorem Pst.from {Q : β → Hp → Prop} {r : Ro α} (b : Bck R) (h : Pst K ct H0 R W S s σ H Q r) (t : Stp S s.M.length H S1 s1.M.length H1) : Pst K ct H0 R W S1 s1 σ H1 Q r := by
  cases r with
  | ok a s' => exact fun S' b' H' st rel q => h S' b' H' (t.trans st) rel (b _ _ _ _ _ _ _ _ t.dom q)
  | er x s' => exact fun S' H' dd st rel q => h S' H' dd (t.trans st) rel q
  | no => exact h
theorem Pst.bind {Q : γ → Hp → Prop} {Q1 : β → Hp → Prop} {r : Ro α} {f : α → Mo δ} (b : Bck R') (h : Pst K ct H0 R' W S s σ H Q (r.bind f))
    (k : ∀ S1 s1 H1 x a, Stp S s.M.length H S1 s1.M.length H1 → Rel K ct H0 S1 s1 σ H1 → R H S1 s1 σ H1 x a → Pst K ct H0 R' W S1 s1 σ H1 Q (f a s1) → Q1 x H1) : Pst K ct H0 R W S s σ H Q1 r := by
  cases r with
  | ok a s' => exact fun S' x H' st rel q => k S' s' H' x a st rel q (Pst.from b h st)
  | er x s' => exact h
  | no => exact h
theorem ItOk.step {Hs : Hp} {v : V} {a : AI} (t : Stp S s.M.length H S1 s1.M.length H1) (h : ItOk K ct Hs S s σ H v a) : ItOk K ct Hs S1 s1 σ H1 v a := by
  cases a with
  | val d => exact Rp.step t h
  | slot i => exact h
  | new c =>
    obtain ⟨p, e, h1, h2, h3, h4, h5⟩ := h
    obtain ⟨o, ho⟩ := h5.some
    obtain ⟨k1, k2⟩ := t.fr p o ho h2
    refine ⟨p, e, h1, k2, ?_, h4, h5.mono t.g t.al t.le fun u hu => (t.fr p u hu h2).1⟩
    cases q : S1.G p with
    | none => rfl
    | some u =>
      rcases t.gn p u q with z | z | ⟨l, z⟩ | ⟨us, z⟩
      · rw [h3] at z; cases z
      · rw [ho] at z; cases z
      · rw [h2] at z; cases z
      · exact absurd rfl (h5.nt z us)
def Cn.aL : Cn → Option (List D)
  | .lst l => some l
  | _ => none
def Cn.aK : Cn → Option (List (Key × D))
  | .dK l => some l
  | .lkK l => some l
  | _ => none
def Cn.aT : Cn → Option (List (List Key × D))
  | .dT l => some l
  | .lkT l => some l
  | _ => none
def listOf (M : List Cn) : D → Option (List D)
  | .lst l => some l
  | .clst l => some l
  | .cid k => M[k]?.bind Cn.aL
  | _ => none
def tupOf : D → Option (List D)
  | .tup l => some l
  | .ctp l => some l
  | _ => none
def dictOf (M : List Cn) : D → Option (List (Key × D))
  | .dK l => some l
  | .cid k => M[k]?.bind Cn.aK
  | _ => none
def dictTOf (M : List Cn) : D → Option (List (List Key × D))
  | .dT l => some l
  | .cid k => M[k]?.bind Cn.aT
  | _ => none
def Ent.toD : Ent → D
  | .fz d => d
  | .ow c => c.toD
  | .xn _ => .non
def Ent.nox : Ent → Option Ent
  | .xn _ => none
  | e => some e
def entAt (s : Stt) (i : Nat) : Option Ent := ((s.env[i]?).getD none).bind Ent.nox
theorem nox_xn {o : Option Ent} {x : Exn} (h : o.bind Ent.nox = some (.xn x)) : False := by
  cases o with
  | none => cases h
  | some e => cases e <;> cases h
theorem entAt_xn {s : Stt} {i : Nat} {x : Exn} (h : entAt s i = some (.xn x)) : False := nox_xn h
theorem entAt_eq {s : Stt} {i : Nat} {e : Ent} (h : entAt s i = some e) : s.env[i]? = some (some e) := by
  unfold entAt at h
  cases q : s.env[i]? with
  | none => rw [q] at h; cases h
  | some z =>
    rw [q] at h
    cases z with
    | none => cases h
    | some z => cases z <;> cases h <;> rfl
/-- an item as data, what it has now -/
def look (s : Stt) : AI → Option D
  | .val d => some d
  | .new c => some c.toD
  | .slot i => (entAt s i).map Ent.toD
def viewL (s : Stt) (a : AI) : Option (List D) := (look s a).bind (listOf s.M)
def viewT (s : Stt) (a : AI) : Option (List D) := (look s a).bind tupOf
def viewD (s : Stt) (a : AI) : Option (List (Key × D)) := (look s a).bind (dictOf s.M)
def viewDT (s : Stt) (a : AI) : Option (List (List Key × D)) := (look s a).bind (dictTOf s.M)
/-- data as the whole heap shows it -/
theorem CnOk.rp {p : Addr} {c : Cn} (r : Rel K ct H0 S s σ H) (hc : c.isC = true) (h : CnOk K ct S s.M.length H p c) : Rp K (U ct.lk H) S.α s.M.length (.ref p) c.toD := by
  cases c with
  | lst l => obtain ⟨vs, h1, h2⟩ := h; exact .lst (uL h1) (h2.mono r.sub (fun _ _ => rfl) (Nat.le_refl _))
  | dK l => obtain ⟨vs, h1, h3, h2⟩ := h; exact .dK (uK h1) h3 (h2.mono r.sub (fun _ _ => rfl) (Nat.le_refl _))
  | dT l => obtain ⟨vs, h1, h3, h2⟩ := h; exact .dT (uT h1) h3 (h2.mono r.sub (fun _ _ => rfl) (Nat.le_refl _))
  | obj c fs => cases hc
  | lkK l => cases hc
  | lkT l => cases hc
theorem look_ok {Hs : Hp} {v : V} {a : AI} {d : D} (r : Rel K ct H0 S s σ H) (i : ItOk K ct Hs S s σ H v a) (e : look s a = some d) : Rp K (U ct.lk H) S.α s.M.length v d := by
  cases a with
  | val d' => cases e; exact Rp.mono r.sub (fun _ _ => rfl) (Nat.le_refl _) i
  | new c =>
    cases e
    obtain ⟨p, rfl, _, _, _, hc, h5⟩ := i
    exact h5.rp r hc
  | slot j =>
    obtain ⟨en, q0, rfl⟩ := Option.map_eq_some_iff.mp e
    have q := entAt_eq q0
    have hh := r.slot j en q
    have hi : σ[j]? = some (some v) := i
    cases en with
    | fz d' =>
      obtain ⟨v', h1, h2⟩ := hh
      rw [hi] at h1; cases h1
      exact h2.mono r.sub (fun _ _ => rfl) (Nat.le_refl _)
    | xn x => exact (entAt_xn q0).elim
    | ow c =>
      obtain ⟨p, h1, _, _, hc, h5⟩ := hh
      rw [hi] at h1; cases h1
      exact h5.rp r hc
/-- the parts of what an item shows are frozen -/
theorem viewL_ok {Hs : Hp} {v : V} {a : AI} {l : List D} (r : Rel K ct H0 S s σ H) (i : ItOk K ct Hs S s σ H v a) (e : viewL s a = some l) : ∃ p vs, v = .ref p ∧ SqL K H p vs ∧ RpL K S.G S.α s.M.length vs l := by
  have cidc : ∀ {k : Nat} {u : V}, Rp K S.G S.α s.M.length u (.cid k) → listOf s.M (.cid k) = some l → ∃ p vs, u = .ref p ∧ SqL K H p vs ∧ RpL K S.G S.α s.M.length vs l := fun {k u} h e => by
    cases h
    obtain ⟨c, q, e1⟩ := Option.bind_eq_some_iff.mp (show s.M[k]?.bind Cn.aL = some l from e)
    cases c with
    | lst l' =>
      cases e1
      obtain ⟨vs, h1, h2⟩ := (r.ids k _ q).2
      exact ⟨_, vs, rfl, .of h1, h2⟩
    | _ => cases e1
  have frz : ∀ {u : V} {d : D}, Rp K S.G S.α s.M.length u d → listOf s.M d = some l → ∃ p vs, u = .ref p ∧ SqL K H p vs ∧ RpL K S.G S.α s.M.length vs l := fun {u d} h e => by
    cases d with
    | lst l' => cases e; cases h with | lst h1 h2 => exact ⟨_, _, rfl, (.of (uL' (r.sub _ _ h1))), h2⟩
    | clst l' => cases e; cases h with | clst h1 h2 => exact ⟨_, _, rfl, uSqL (r.sub.seq h1), h2⟩
    | cid k => exact cidc h e
    | _ => cases e
  have own : ∀ {p : Addr} {c : Cn}, CnOk K ct S s.M.length H p c → c.isC = true → listOf s.M c.toD = some l → ∃ q vs, V.ref p = .ref q ∧ SqL K H q vs ∧ RpL K S.G S.α s.M.length vs l := fun {p c} h hc e => by
    cases c with
    | lst l' => cases e; obtain ⟨vs, h1, h2⟩ := h; exact ⟨p, vs, rfl, .of h1, h2⟩
    | dK l' => cases e
    | dT l' => cases e
    | obj _ _ => cases e
    | lkK l => cases e
    | lkT l => cases e
  unfold viewL at e
  cases a with
  | val d => exact frz i e
  | new c =>
    obtain ⟨p, rfl, _, _, _, hc, h5⟩ := i
    exact own h5 hc e
  | slot j =>
    obtain ⟨d, q0, e⟩ := Option.bind_eq_some_iff.mp e
    obtain ⟨en, q1, rfl⟩ := Option.map_eq_some_iff.mp q0
    have q := entAt_eq q1
    have hi : σ[j]? = some (some v) := i
    have hh := r.slot j en q
    cases en with
    | fz d =>
      obtain ⟨v', h1, h2⟩ := hh
      rw [hi] at h1; cases h1
      exact frz h2 e
    | xn x => exact (entAt_xn q1).elim
    | ow c =>
      obtain ⟨p, h1, _, _, hc, h5⟩ := hh
      rw [hi] at h1; cases h1
      exact own h5 hc e
theorem viewT_ok {Hs : Hp} {v : V} {a : AI} {l : List D} (r : Rel K ct H0 S s σ H) (i : ItOk K ct Hs S s σ H v a) (e : viewT s a = some l) : ∃ p vs, v = .ref p ∧ SqT K H p vs ∧ RpL K S.G S.α s.M.length vs l := by
  have frz : ∀ {u : V} {d : D}, Rp K S.G S.α s.M.length u d → tupOf d = some l → ∃ p vs, u = .ref p ∧ SqT K H p vs ∧ RpL K S.G S.α s.M.length vs l := fun {u d} h e => by
    cases d with
    | tup l' => cases e; cases h with | tup h1 h2 => exact ⟨_, _, rfl, .of (uP' (r.sub _ _ h1)), h2⟩
    | ctp l' => cases e; cases h with | ctp h1 h2 => exact ⟨_, _, rfl, uSqT (st_mono r.sub h1), h2⟩
    | _ => cases e
  unfold viewT at e
  cases a with
  | val d => exact frz i e
  | new c => cases c <;> cases e
  | slot j =>
    obtain ⟨d, q0, e⟩ := Option.bind_eq_some_iff.mp e
    obtain ⟨en, q1, rfl⟩ := Option.map_eq_some_iff.mp q0
    have q := entAt_eq q1
    have hi : σ[j]? = some (some v) := i
    have hh := r.slot j en q
    cases en with
    | fz d =>
      obtain ⟨v', h1, h2⟩ := hh
      rw [hi] at h1; cases h1
      exact frz h2 e
    | xn x => exact (entAt_xn q1).elim
    | ow c => cases c <;> cases e
def Sh.frzL (S : Sh) (p : Addr) (o : HO) : Sh := ⟨upd S.G p o, S.α, fun a => if a = p then none else S.lab a⟩
def toV : AI → Mo D := fun a s => match a with
  | .val d => .ok d s
  | .new c => .ok c.toD s
  | .slot i => match entAt s i with
    | some (.ow c) => .ok c.toD ⟨s.env.set i (some (.fz c.toD)), s.M⟩
    | some (.fz d) => .ok d s
    | _ => .no
theorem rp_frz {p : Addr} {c : Cn} {n : Nat} {Hx : Hp} (hg : S.G p = none) (hc : c.isC = true) (h : CnOk K ct S n Hx p c) : ∃ o, U ct.lk Hx p = some o ∧ Rp K (upd S.G p o) S.α n (.ref p) c.toD := by
  have sg : ∀ o, Same S.G (upd S.G p o) := fun o a u e => by rw [upd_ne (ne_of_none e hg)]; exact e
  cases c with
  | lst l => obtain ⟨vs, h1, h2⟩ := h; exact ⟨_, uL h1, .lst upd_same (h2.mono (sg _) (fun _ _ => rfl) (Nat.le_refl _))⟩
  | dK l => obtain ⟨vs, h1, h3, h2⟩ := h; exact ⟨_, uK h1, .dK upd_same h3 (h2.mono (sg _) (fun _ _ => rfl) (Nat.le_refl _))⟩
  | dT l => obtain ⟨vs, h1, h3, h2⟩ := h; exact ⟨_, uT h1, .dT upd_same h3 (h2.mono (sg _) (fun _ _ => rfl) (Nat.le_refl _))⟩
  | obj c fs => cases hc
  | lkK l => cases hc
  | lkT l => cases hc
theorem Stp.frzNew {S' : Sh} {n n' : Nat} {H' : Hp} {p : Addr} {o : HO} (t : Stp S n H S' n' H') (hp : H p = none) (hg : S'.G p = none) : Stp S n H (S'.frz p o) n' H' where
  g := fun a u e => by show upd S'.G p o a = _; rw [upd_ne (ne_of_none (t.g a u e) hg)]; exact t.g a u e
  le := t.le
  al := t.al
  fr := t.fr
  gn := fun a u e => by
    have e1 : upd S'.G p o a = some u := e
    by_cases q : a = p
    · subst q; exact .inr (.inl hp)
    · rw [upd_ne q] at e1; exact t.gn a u e1
  fz := t.fz
  dom := t.dom
theorem frz_slot {i : Nat} {c : Cn} (r : Rel K ct H0 S s σ H) (e : s.env[i]? = some (some (.ow c))) : ∃ S' v, σ[i]? = some (some v) ∧ Stp S s.M.length H S' s.M.length H ∧ Rel K ct H0 S' ⟨s.env.set i (some (.fz c.toD)), s.M⟩ σ H ∧ Rp K S'.G S'.α s.M.length v c.toD := by
  obtain ⟨p, h1, h2, h3, h4, h5⟩ := r.slot i _ e
  have hg := (r.lg p _ h3).1
  obtain ⟨o, ho, hr⟩ := rp_frz hg h4 h5
  have sg : Same S.G (upd S.G p o) := fun a u e => by rw [upd_ne (ne_of_none e hg)]; exact e
  have cn : ∀ {a : Addr} {c : Cn}, CnOk K ct S s.M.length H a c → CnOk K ct (S.frzL p o) s.M.length H a c := fun {a c} h => h.mono sg (fun _ _ => rfl) (Nat.le_refl _) (fun _ e => e)
  have labne : ∀ {a : Addr} {l : Lab}, S.lab a = some l → l ≠ .slot i → (S.frzL p o).lab a = some l := fun {a l} h ne => by
    show (if a = p then none else S.lab a) = _
    rw [if_neg (fun z => by subst z; rw [h3] at h; cases h; exact ne rfl)]
    exact h
  refine ⟨S.frzL p o, .ref p, h1, ⟨sg, Nat.le_refl _, fun _ _ => rfl, fun a u h l => ⟨h, ?_⟩, fun a u q => ?_, fun _ h => h, fun _ _ _ h => h⟩, ⟨fun a u q => ?_, fun a l q => ?_, r.dom, ?_, fun j en q => ?_, fun k c' q => ?_⟩, hr⟩
  · show (if a = p then none else S.lab a) = none
    split
    · rfl
    · exact l
  · have q1 : upd S.G p o a = some u := q
    by_cases z : a = p
    · subst z; exact .inr (.inr (.inl ⟨_, h3⟩))
    · rw [upd_ne z] at q1; exact .inl q1
  · have q1 : upd S.G p o a = some u := q
    by_cases z : a = p
    · subst z; rw [upd_same] at q1; cases q1; exact ho
    · rw [upd_ne z] at q1; exact r.sub a u q1
  · have q1 : (if a = p then none else S.lab a) = some l := q
    by_cases z : a = p
    · rw [if_pos z] at q1; cases q1
    · rw [if_neg z] at q1
      obtain ⟨k1, k2⟩ := r.lg a l q1
      refine ⟨?_, k2⟩
      show upd S.G p o a = none
      rw [upd_ne z]; exact k1
  · show σ.length = (s.env.set i _).length
    rw [List.length_set]; exact r.len
  · have q1 : (s.env.set i (some (.fz c.toD)))[j]? = some (some en) := q
    by_cases z : i = j
    · subst z
      have hlt : i < s.env.length := (List.getElem?_eq_some_iff.mp e).1
      rw [List.getElem?_set_self hlt] at q1
      cases q1
      exact ⟨_, h1, hr⟩
    · rw [List.getElem?_set_ne z] at q1
      have hh := r.slot j en q1
      cases en with
      | fz d => obtain ⟨v, k1, k2⟩ := hh; exact ⟨v, k1, k2.mono sg (fun _ _ => rfl) (Nat.le_refl _)⟩
      | xn x => exact xn_mono sg (fun _ _ => rfl) (Nat.le_refl _) rfl hh
      | ow c' =>
        obtain ⟨a, k1, k2, k3, k4, k5⟩ := hh
        exact ⟨a, k1, k2, labne k3 (fun w => by cases w; exact z rfl), k4, cn k5⟩
  · obtain ⟨k1, k2⟩ := r.ids k c' q
    exact ⟨labne k1 (fun w => by cases w), cn k2⟩
abbrev Ei (K : PySem.W.Frag) (ct : Ct) (H0 : Hp) (W : WX) (t : TE) (m : Mo AI) : Prop := Jd K ct H0 (RI K ct) W t m
abbrev Ev (K : PySem.W.Frag) (ct : Ct) (H0 : Hp) (W : WX) (t : TE) (m : Mo D) : Prop := Jd K ct H0 (RV K) W t m
abbrev EvL (K : PySem.W.Frag) (ct : Ct) (H0 : Hp) (W : WX) (t : TA) (m : Mo (List D)) : Prop := Jd K ct H0 (RVL K) W t m
abbrev Et (K : PySem.W.Frag) (ct : Ct) (H0 : Hp) (W : WX) (t : TT) (m : Mo Bool) : Prop := Jd K ct H0 RB W t m
abbrev Eo (K : PySem.W.Frag) (ct : Ct) (H0 : Hp) (W : WX) (t : TO) (m : Mo (Option Int)) : Prop := Jd K ct H0 RO W t m
def mV (m : Mo AI) : Mo D := fun s => (m s).bind toV
theorem ev_of {t : TE} {m : Mo AI} (h : Ei K ct H0 W t m) : Ev K ct H0 W t (mV m) := fun S s σ H Q rel p => h S s σ H Q rel (by
  unfold mV at p
  cases q : m s with
  | no => rw [q] at p; exact p
  | er x s' => rw [q] at p; exact p
  | ok a s' =>
    rw [q] at p
    have p : Pst K ct H0 (RV K) W S s σ H Q (toV a s') := p
    intro S' v H' st rel' it
    cases a with
    | val d => exact p S' v H' st rel' it
    | new c =>
      obtain ⟨pp, rfl, h1, h2, h3, h4, h5⟩ := it
      obtain ⟨o, ho, hr⟩ := rp_frz h3 h4 h5
      exact p (S'.frz pp o) _ H' (st.frzNew h1 h3) (rel'.frz ho h2 h3) hr
    | slot i =>
      have hi : σ[i]? = some (some v) := it
      have p : Pst K ct H0 (RV K) W S s σ H Q (match entAt s' i with | some (.ow c) => .ok c.toD ⟨s'.env.set i (some (.fz c.toD)), s'.M⟩ | some (.fz d) => .ok d s' | _ => .no) := p
      cases qe : entAt s' i with
      | none => rw [qe] at p; exact False.elim p
      | some en =>
        rw [qe] at p
        cases en with
        | fz d =>
          obtain ⟨v', k1, k2⟩ := rel'.slot i _ (entAt_eq qe)
          rw [hi] at k1; cases k1
          exact p S' v H' st rel' k2
        | xn x => exact False.elim p
        | ow c =>
          obtain ⟨S2, v', k1, st2, rel2, k2⟩ := frz_slot rel' (entAt_eq qe)
          rw [hi] at k1; cases k1
          exact p S2 v H' (st.trans st2) rel2 k2)
def mI (m : Mo D) : Mo AI := fun s => (m s).bind fun d s' => .ok (.val d) s'
theorem ei_of {t : TE} {m : Mo D} (h : Ev K ct H0 W t m) : Ei K ct H0 W t (mI m) := fun S s σ H Q rel p => h S s σ H Q rel (by
  unfold mI at p
  cases q : m s with
  | no => rw [q] at p; exact p
  | er x s' => rw [q] at p; exact p
  | ok a s' => rw [q] at p; exact p)
def mName (i : Nat) : Mo AI := fun s => match entAt s i with
  | some (.fz d) => .ok (.val d) s
  | some (.ow _) => .ok (.slot i) s
  | _ => .no
theorem ei_var {i : Nat} : Ei K ct H0 W (tVar i) (mName i) := fun S s σ H Q rel p => by
  unfold mName at p
  cases q : entAt s i with
  | none => rw [q] at p; exact False.elim p
  | some en =>
    rw [q] at p
    cases en with
    | fz d =>
      obtain ⟨v, h1, h2⟩ := rel.slot i _ (entAt_eq q)
      exact ⟨v, h1, p S v H .refl rel h2⟩
    | xn x => exact False.elim p
    | ow c =>
      obtain ⟨a, h1, _⟩ := rel.slot i _ (entAt_eq q)
      exact ⟨_, h1, p S _ H .refl rel h1⟩
def mC (d : D) : Mo AI := fun s => .ok (.val d) s
/-- what stands for data whatever the heap -/
def CR (K : PySem.W.Frag) (v : V) (d : D) : Prop := ∀ G α n, Rp K G α n v d
theorem ei_c {v : V} {d : D} (h : CR K v d) : Ei K ct H0 W (tC v) (mC d) := fun S s σ H Q rel p => p S v H .refl rel (h _ _ _)
theorem cr_int {i : Int} : CR K (.int i) (.int i) := fun _ _ _ => .int i
theorem cr_bl {b : Bool} : CR K (.bl b) (.bl b) := fun _ _ _ => .bl b
theorem cr_str {x : Str} : CR K (.str x) (.str x) := fun _ _ _ => .str x
theorem cr_non : CR K .non .non := fun _ _ _ => .non
/-- an operator of two items -/
def J2 (K : PySem.W.Frag) (ct : Ct) (H0 : Hp) (r : R2) (f : Stt → AI → AI → Ro AI) : Prop := ∀ W S s σ H Hs Hs' x y a b Q, Rel K ct H0 S s σ H → ItOk K ct Hs S s σ H x a → ItOk K ct Hs' S s σ H y b → Pst K ct H0 (RI K ct) W S s σ H Q (f s a b) → r x y H Q
def mOp (f : Stt → AI → AI → Ro AI) (m1 m2 : Mo AI) : Mo AI := fun s => (m1 s).bind fun a s1 => (m2 s1).bind fun b s2 => f s2 a b
def mUn (f : Stt → AI → Ro AI) (m1 : Mo AI) : Mo AI := fun s => (m1 s).bind fun a s1 => f s1 a
theorem ei_op {r : R2} {f : Stt → AI → AI → Ro AI} {ta tb : TE} {m1 m2 : Mo AI} (ho : J2 K ct H0 r f) (h1 : Ei K ct H0 W ta m1) (h2 : Ei K ct H0 W tb m2) : Ei K ct H0 W (tOp r ta tb) (mOp f m1 m2) := fun S s σ H Q rel p =>
  h1 S s σ H _ rel (Pst.bind bI p fun S1 s1 H1 x a st1 rel1 i1 p1 => h2 S1 s1 σ H1 _ rel1 (Pst.bind bI p1 fun S2 s2 H2 y b st2 rel2 i2 p2 => ho W S2 s2 σ H2 _ _ x y a b Q rel2 (i1.step st2) i2 p2))
end
end Y
namespace Y
open PySem L2 Z
section
variable {K : PySem.W.Frag} {ct : Ct} {H0 : Hp} {W : WX} {S : Sh} {s : Stt} {σ : St} {H : Hp} {Q : VK}
theorem Pst.val {d : D} {v : V} (p : Pst K ct H0 (RI K ct) W S s σ H Q (.ok (.val d) s)) (rel : Rel K ct H0 S s σ H) (h : Rp K S.G S.α s.M.length v d) : Q v H := p S v H .refl rel h
theorem Pst.newC {c : Cn} {q : Addr} {o : HO} (p : Pst K ct H0 (RI K ct) W S s σ H Q (.ok (.new c) s)) (rel : Rel K ct H0 S s σ H) (hp : H q = none) (hc : c.isC = true) (h : CnOk K ct S s.M.length (upd H q o) q c) : Q (.ref q) (upd H q o) :=
  p S _ _ (Stp.new rel hp) (rel.new hp) ⟨q, rfl, hp, rel.labN hp, rel.gN hp, hc, h⟩
theorem Pst.newL {l : List D} {vs : List V} {q : Addr} (p : Pst K ct H0 (RI K ct) W S s σ H Q (.ok (.new (.lst l)) s)) (rel : Rel K ct H0 S s σ H) (hp : H q = none) (h : RpL K S.G S.α s.M.length vs l) : Q (.ref q) (upd H q (.lst vs)) :=
  p.newC rel hp rfl ⟨vs, upd_same, h⟩
theorem Pst.newT {l : List D} {vs : List V} {q : Addr} (p : Pst K ct H0 (RI K ct) W S s σ H Q (.ok (.val (.tup l)) s)) (rel : Rel K ct H0 S s σ H) (hp : H q = none) (h : RpL K S.G S.α s.M.length vs l) : Q (.ref q) (upd H q (.tup vs)) := by
  have hg := rel.gN hp
  refine p (S.frz q (.tup vs)) _ _ ((Stp.new rel hp).frzNew hp hg) ((rel.new hp).frz (uP upd_same) (rel.labN hp) hg) ?_
  exact .tup upd_same (h.mono (fun a u e => by show upd S.G q _ a = _; rw [upd_ne (ne_of_none e hg)]; exact e) (fun _ _ => rfl) (Nat.le_refl _))
end
def fI0 (g : Int → Int → D) : Stt → AI → AI → Ro AI := fun s a b => match a, b with
  | .val (.int i), .val (.int j) => .ok (.val (g i j)) s
  | _, _ => .no
open Classical in
noncomputable def fI (C : Int → Int → Prop) (g : Int → Int → D) : Stt → AI → AI → Ro AI := fun s a b => match a, b with
  | .val (.int i), .val (.int j) => if C i j then .ok (.val (g i j)) s else .no
  | _, _ => .no
def fAdd : Stt → AI → AI → Ro AI := fun s a b => match a, b with
  | .val (.int i), .val (.int j) => .ok (.val (.int (i + j))) s
  | .val (.str x), .val (.str y) => if x.length + y.length ≤ sizeLine then .ok (.val (.str (x ++ y))) s else .no
  | a, b => match viewL s a, viewL s b with
    | some l, some l' => if l.length + l'.length ≤ sizeLine then .ok (.new (.lst (l ++ l'))) s else .no
    | _, _ => .no
/-- a list that is tracked -/
def listX (M : List Cn) : D → Option (List D)
  | .lst l => some l
  | .cid k => M[k]?.bind Cn.aL
  | _ => none
def viewX (s : Stt) (a : AI) : Option (List D) := (look s a).bind (listX s.M)
open Classical in
noncomputable def fMul : Stt → AI → AI → Ro AI := fun s a b => match a, b with
  | .val (.int i), .val (.int j) => if CMul i j then .ok (.val (.int (i * j))) s else .no
  | a, .val (.int j) => match viewX s a with
    | some l => if -(2 ^ 63) ≤ j ∧ j < 2 ^ 63 ∧ l.length * j.toNat ≤ sizeLine then .ok (.new (.lst (List.replicate j.toNat l).flatten)) s else .no
    | none => .no
  | _, _ => .no
mutual
def D.py : D → Option PyData
  | .non => some .none
  | .bl b => some (.bool b)
  | .int i => some (.int i)
  | .str x => some (.str x)
  | .tup l => (D.pyL l).map .tuple
  | .ctp l => (D.pyL l).map .tuple
  | .lst l => (D.pyL l).map .list
  | .clst l => (D.pyL l).map .list
  | _ => none
def D.pyL : List D → Option (List PyData)
  | [] => some []
  | d :: l => d.py.bind fun x => (D.pyL l).map (x :: ·)
end
def Cn.dat : Cn → Option D
  | .obj _ _ => none
  | .lkK _ => none
  | .lkT _ => none
  | c => some c.toD
def deref (M : List Cn) : D → Option D
  | .cid k => M[k]?.bind Cn.dat
  | d => some d
def pyOf (s : Stt) (a : AI) : Option PyData := ((look s a).bind (deref s.M)).bind D.py
def eqOf (s : Stt) (a b : AI) : Option Bool := (pyOf s a).bind fun x => (pyOf s b).bind fun y => if SeqAt.shaped x && SeqAt.shaped y then some (x.eqv y) else none
def fEq : Stt → AI → AI → Ro AI := fun s a b => match eqOf s a b with
  | some k => .ok (.val (.bl k)) s
  | none => .no
def fNe : Stt → AI → AI → Ro AI := fun s a b => match eqOf s a b with
  | some k => .ok (.val (.bl (!k))) s
  | none => .no
def D.isN : D → Bool
  | .non => true
  | _ => false
def isOf (s : Stt) (a b : AI) : Option Bool := match a, b with
  | .val (.bl x), .val (.bl y) => some (x == y)
  | a, .val .non => (look s a).map D.isN
  | _, _ => none
def fIs : Stt → AI → AI → Ro AI := fun s a b => match isOf s a b with
  | some k => .ok (.val (.bl k)) s
  | none => .no
def fIsn : Stt → AI → AI → Ro AI := fun s a b => match isOf s a b with
  | some k => .ok (.val (.bl (!k))) s
  | none => .no
def fIx : Stt → AI → AI → Ro AI := fun s a b => match b with
  | .val (.int i) => match a with
    | .val (.str z) => if z.length ≤ sizeLine then (match atI z.cps.toList i with
      | some c => .ok (.val (.str ⟨#[c]⟩)) s
      | none => .no) else .no
    | a => match viewL s a with
      | some l => (match atI l i with
        | some d => .ok (.val d) s
        | none => .no)
      | none => (match viewT s a with
        | some l => (match atI l i with
          | some d => .ok (.val d) s
          | none => .no)
        | none => .no)
  | _ => .no
section
variable {K : PySem.W.Frag} {ct : Ct} {H0 : Hp} {G : Hp} {α : Nat → Addr} {n : Nat}
mutual
theorem rp_dp : ∀ {d : D} {v : V} {x : PyData}, Rp K G α n v d → d.py = some x → Dp K G v x
  | .non, _, _, .non, e => by cases e; exact .non
  | .bl b, _, _, .bl _, e => by cases e; exact .bl b
  | .int i, _, _, .int _, e => by cases e; exact .int i
  | .str y, _, _, .str _, e => by cases e; exact .str y
  | .tup l, _, _, .tup h r, e => by
    obtain ⟨xs, q, rfl⟩ := Option.map_eq_some_iff.mp (show (D.pyL l).map PyData.tuple = some _ from e)
    exact .tup (.of h) (rpL_dp r q)
  | .ctp l, _, _, .ctp h r, e => by
    obtain ⟨xs, q, rfl⟩ := Option.map_eq_some_iff.mp (show (D.pyL l).map PyData.tuple = some _ from e)
    exact .tup h (rpL_dp r q)
  | .lst l, _, _, .lst h r, e => by
    obtain ⟨xs, q, rfl⟩ := Option.map_eq_some_iff.mp (show (D.pyL l).map PyData.list = some _ from e)
    exact .lst (.of h) (rpL_dp r q)
  | .clst l, _, _, .clst h r, e => by
    obtain ⟨xs, q, rfl⟩ := Option.map_eq_some_iff.mp (show (D.pyL l).map PyData.list = some _ from e)
    exact .lst h (rpL_dp r q)
  | .dK _, _, _, _, e => by cases e
  | .dT _, _, _, _, e => by cases e
  | .cid _, _, _, _, e => by cases e
  | .ty _, _, _, _, e => by cases e
theorem rpL_dp : ∀ {l : List D} {vs : List V} {xs : List PyData}, RpL K G α n vs l → D.pyL l = some xs → DpAll K G vs xs
  | [], _, _, .nil, e => by cases e; exact .nil
  | d :: l, _, _, .cons h r, e => by
    obtain ⟨x, q, e1⟩ := Option.bind_eq_some_iff.mp (show (d.py.bind fun x => (D.pyL l).map (x :: ·)) = some _ from e)
    obtain ⟨ys, q2, rfl⟩ := Option.map_eq_some_iff.mp e1
    exact .cons (rp_dp h q) (rpL_dp r q2)
end
mutual
theorem uDp {b : Option Addr} {H : Hp} : ∀ {v : V} {x : PyData}, Dp K (U b H) v x → Dp K H v x
  | _, _, .non => .non
  | _, _, .bl b => .bl b
  | _, _, .int i => .int i
  | _, _, .str y => .str y
  | _, _, .lst h r => .lst (uSqL h) (uDpL r)
  | _, _, .tup h r => .tup (uSqT h) (uDpL r)
theorem uDpL {b : Option Addr} {H : Hp} : ∀ {vs : List V} {xs : List PyData}, DpAll K (U b H) vs xs → DpAll K H vs xs
  | _, _, .nil => .nil
  | _, _, .cons h r => .cons (uDp h) (uDpL r)
end
variable {W : WX} {S : Sh} {s : Stt} {σ : St} {H : Hp} {Q : VK}
theorem deref_ok {v : V} {d e : D} (rel : Rel K ct H0 S s σ H) (h : Rp K (U ct.lk H) S.α s.M.length v d) (q : deref s.M d = some e) : Rp K (U ct.lk H) S.α s.M.length v e := by
  cases d with
  | cid k =>
    obtain ⟨c, hc, e1⟩ := Option.bind_eq_some_iff.mp (show s.M[k]?.bind Cn.dat = some e from q)
    cases h
    have hh := (rel.ids k c hc).2
    cases c with
    | obj _ _ => cases e1
    | lkK l => cases e1
    | lkT l => cases e1
    | lst l => cases e1; exact hh.rp rel rfl
    | dK l => cases e1; exact hh.rp rel rfl
    | dT l => cases e1; exact hh.rp rel rfl
  | _ => cases q; exact h
theorem pyOf_ok {Hs : Hp} {v : V} {a : AI} {x : PyData} (rel : Rel K ct H0 S s σ H) (i : ItOk K ct Hs S s σ H v a) (e : pyOf s a = some x) : Dp K H v x := by
  obtain ⟨d, e1, e2⟩ := Option.bind_eq_some_iff.mp e
  obtain ⟨d0, e0, e1⟩ := Option.bind_eq_some_iff.mp e1
  exact uDp (rp_dp (deref_ok rel (look_ok rel i e0) e1) e2)
theorem eqOf_ok {Hs Hs' : Hp} {v w : V} {a b : AI} {k : Bool} (rel : Rel K ct H0 S s σ H) (i : ItOk K ct Hs S s σ H v a) (j : ItOk K ct Hs' S s σ H w b) (e : eqOf s a b = some k) :
    ∃ x y, Dp K H v x ∧ Dp K H w y ∧ SeqAt.shaped x = true ∧ SeqAt.shaped y = true ∧ x.eqv y = k := by
  obtain ⟨x, e1, e⟩ := Option.bind_eq_some_iff.mp e
  obtain ⟨y, e2, e⟩ := Option.bind_eq_some_iff.mp e
  split at e
  · rename_i h
    rw [Bool.and_eq_true] at h
    cases e
    exact ⟨x, y, pyOf_ok rel i e1, pyOf_ok rel j e2, h.1, h.2, rfl⟩
  · cases e
theorem viewX_ok {Hs : Hp} {v : V} {a : AI} {l : List D} (r : Rel K ct H0 S s σ H) (i : ItOk K ct Hs S s σ H v a) (e : viewX s a = some l) : ∃ p vs, v = .ref p ∧ H p = some (.lst vs) ∧ RpL K S.G S.α s.M.length vs l := by
  have cidc : ∀ {k : Nat} {u : V}, Rp K S.G S.α s.M.length u (.cid k) → listX s.M (.cid k) = some l → ∃ p vs, u = .ref p ∧ H p = some (.lst vs) ∧ RpL K S.G S.α s.M.length vs l := fun {k u} h e => by
    cases h
    obtain ⟨c, q, e1⟩ := Option.bind_eq_some_iff.mp (show s.M[k]?.bind Cn.aL = some l from e)
    cases c with
    | lst l' =>
      cases e1
      obtain ⟨vs, h1, h2⟩ := (r.ids k _ q).2
      exact ⟨_, vs, rfl, h1, h2⟩
    | _ => cases e1
  have frz : ∀ {u : V} {d : D}, Rp K S.G S.α s.M.length u d → listX s.M d = some l → ∃ p vs, u = .ref p ∧ H p = some (.lst vs) ∧ RpL K S.G S.α s.M.length vs l := fun {u d} h e => by
    cases d with
    | lst l' => cases e; cases h with | lst h1 h2 => exact ⟨_, _, rfl, uL' (r.sub _ _ h1), h2⟩
    | cid k => exact cidc h e
    | _ => cases e
  have own : ∀ {p : Addr} {c : Cn}, CnOk K ct S s.M.length H p c → listX s.M c.toD = some l → ∃ q vs, V.ref p = .ref q ∧ H q = some (.lst vs) ∧ RpL K S.G S.α s.M.length vs l := fun {p c} h e => by
    cases c with
    | lst l' => cases e; obtain ⟨vs, h1, h2⟩ := h; exact ⟨p, vs, rfl, h1, h2⟩
    | dK l' => cases e
    | dT l' => cases e
    | obj _ _ => cases e
    | lkK l => cases e
    | lkT l => cases e
  unfold viewX at e
  cases a with
  | val d => exact frz i e
  | new c =>
    obtain ⟨p, rfl, _, _, _, hc, h5⟩ := i
    exact own h5 e
  | slot j =>
    obtain ⟨d, q0, e⟩ := Option.bind_eq_some_iff.mp e
    obtain ⟨en, q1, rfl⟩ := Option.map_eq_some_iff.mp q0
    have q := entAt_eq q1
    have hi : σ[j]? = some (some v) := i
    have hh := r.slot j en q
    cases en with
    | fz d =>
      obtain ⟨v', h1, h2⟩ := hh
      rw [hi] at h1; cases h1
      exact frz h2 e
    | xn x => exact (entAt_xn q1).elim
    | ow c =>
      obtain ⟨p, h1, _, _, hc, h5⟩ := hh
      rw [hi] at h1; cases h1
      exact own h5 e
theorem rp_int {v : V} {i : Int} (h : Rp K G α n v (.int i)) : v = .int i := by cases h; rfl
theorem rp_str {v : V} {x : Str} (h : Rp K G α n v (.str x)) : v = .str x := by cases h; rfl
theorem rp_bl {v : V} {x : Bool} (h : Rp K G α n v (.bl x)) : v = .bl x := by cases h; rfl
theorem j_I0 {gV : Int → Int → V} {g : Int → Int → D} (hg : ∀ i j, CR K (gV i j) (g i j)) : J2 K ct H0 (rI0 gV) (fI0 g) := fun W S s σ H Hs Hs' x y a b Q rel ia ib p => by
  unfold fI0 at p
  split at p
  · rename_i i j
    cases rp_int ia; cases rp_int ib
    exact ⟨i, j, rfl, rfl, p.val rel (hg _ _ _ _ _)⟩
  · exact False.elim p
theorem j_I {C : Int → Int → Prop} {gV : Int → Int → V} {g : Int → Int → D} (hg : ∀ i j, CR K (gV i j) (g i j)) : J2 K ct H0 (rI C gV) (fI C g) := fun W S s σ H Hs Hs' x y a b Q rel ia ib p => by
  unfold fI at p
  split at p
  · rename_i i j
    cases rp_int ia; cases rp_int ib
    split at p
    · rename_i hc
      exact ⟨i, j, rfl, rfl, hc, p.val rel (hg _ _ _ _ _)⟩
    · exact False.elim p
  · exact False.elim p
theorem j_add : J2 K ct H0 (rAddZ K) fAdd := fun W S s σ H Hs Hs' x y a b Q rel ia ib p => by
  unfold fAdd at p
  split at p
  · rename_i i j
    cases rp_int ia; cases rp_int ib
    exact .inl (.inl ⟨i, j, rfl, rfl, p.val rel (.int _)⟩)
  · rename_i i j
    cases rp_str ia; cases rp_str ib
    split at p
    · rename_i hc
      exact .inl (.inr ⟨i, j, rfl, rfl, hc, p.val rel (.str _)⟩)
    · exact False.elim p
  · split at p
    · rename_i l l' e1 e2
      split at p
      · rename_i hc
        obtain ⟨p1, vs, rfl, h1, r1⟩ := viewL_ok rel ia e1
        obtain ⟨p2, us, rfl, h2, r2⟩ := viewL_ok rel ib e2
        refine .inr ⟨p1, p2, vs, us, rfl, rfl, h1, h2, by rw [r1.length, r2.length]; exact hc, fun q hq => p.newL rel hq (r1.append r2)⟩
      · exact False.elim p
    · exact False.elim p
theorem rpL_rep {vs : List V} {l : List D} (h : RpL K G α n vs l) : ∀ k : Nat, RpL K G α n (List.replicate k vs).flatten (List.replicate k l).flatten
  | 0 => .nil
  | k + 1 => by rw [List.replicate_succ, List.replicate_succ, List.flatten_cons, List.flatten_cons]; exact h.append (rpL_rep h k)
theorem j_mul : J2 K ct H0 rMulZ fMul := fun W S s σ H Hs Hs' x y a b Q rel ia ib p => by
  unfold fMul at p
  split at p
  · rename_i i j
    cases rp_int ia; cases rp_int ib
    split at p
    · rename_i hc
      exact .inl ⟨i, j, rfl, rfl, hc, p.val rel (.int _)⟩
    · exact False.elim p
  · rename_i a' j _
    cases rp_int ib
    split at p
    · rename_i l e1
      split at p
      · rename_i hc
        obtain ⟨p1, vs, rfl, h1, r1⟩ := viewX_ok rel ia e1
        exact .inr ⟨p1, j, vs, rfl, rfl, h1, hc.1, hc.2.1, by rw [r1.length]; exact hc.2.2, fun q hq => p.newL rel hq (rpL_rep r1 _)⟩
      · exact False.elim p
    · exact False.elim p
  · exact False.elim p
theorem j_eq : J2 K ct H0 (rEqZ K) fEq := fun W S s σ H Hs Hs' x y a b Q rel ia ib p => by
  unfold fEq at p
  split at p
  · rename_i k e
    obtain ⟨d, f, h1, h2, h3, h4, rfl⟩ := eqOf_ok rel ia ib e
    exact .inr ⟨d, f, h1, h2, h3, h4, p.val rel (.bl _)⟩
  · exact False.elim p
theorem j_ne : J2 K ct H0 (rNeZ K) fNe := fun W S s σ H Hs Hs' x y a b Q rel ia ib p => by
  unfold fNe at p
  split at p
  · rename_i k e
    obtain ⟨d, f, h1, h2, h3, h4, rfl⟩ := eqOf_ok rel ia ib e
    exact .inr ⟨d, f, h1, h2, h3, h4, p.val rel (.bl _)⟩
  · exact False.elim p
theorem rp_isN {v : V} {d : D} (h : Rp K G α n v d) : decide (v = .non) = d.isN := by cases h <;> rfl
theorem j_isn : J2 K ct H0 rIsnZ fIsn := fun W S s σ H Hs Hs' x y a b Q rel ia ib p => by
  unfold fIsn at p
  split at p
  · rename_i k e
    unfold isOf at e
    split at e
    · rename_i b1 b2
      cases rp_bl ia; cases rp_bl ib; cases e
      exact .inr ⟨b1, b2, rfl, rfl, p.val rel (.bl _)⟩
    · rename_i a' _
      obtain ⟨d, e1, rfl⟩ := Option.map_eq_some_iff.mp e
      have ib' : Rp K S.G S.α s.M.length y .non := ib
      cases ib'
      refine .inl ⟨rfl, ?_⟩
      rw [rp_isN (look_ok rel ia e1)]
      exact p.val rel (.bl _)
    · cases e
  · exact False.elim p
theorem atI_rp {vs : List V} {l : List D} {i : Int} {d : D} (r : RpL K G α n vs l) (e : atI l i = some d) : ∃ v, atI vs i = some v ∧ Rp K G α n v d := by
  unfold atI at e ⊢
  obtain ⟨j, e1, e2⟩ := Option.bind_eq_some_iff.mp e
  obtain ⟨v, h1, h2⟩ := r.get e2
  exact ⟨v, by rw [r.length, e1]; exact h1, h2⟩
theorem j_ix : J2 K ct H0 (rIx K) fIx := fun W S s σ H Hs Hs' x y a b Q rel ia ib p => by
  unfold fIx at p
  split at p
  · rename_i i
    cases rp_int ib
    split at p
    · rename_i z
      cases rp_str ia
      split at p
      · rename_i hz
        split at p
        · rename_i c e
          exact .inr (.inr ⟨z, i, c, rfl, rfl, hz, e, p.val rel (.str _)⟩)
        · exact False.elim p
      · exact False.elim p
    · split at p
      · rename_i l e
        split at p
        · rename_i d e2
          obtain ⟨q, vs, rfl, h1, r1⟩ := viewL_ok rel ia e
          obtain ⟨v, h2, h3⟩ := atI_rp r1 e2
          exact .inl ⟨q, vs, i, v, rfl, rfl, h1, h2, p.val rel h3⟩
        · exact False.elim p
      · split at p
        · rename_i l e
          split at p
          · rename_i d e2
            obtain ⟨q, vs, rfl, h1, r1⟩ := viewT_ok rel ia e
            obtain ⟨v, h2, h3⟩ := atI_rp r1 e2
            exact .inr (.inl ⟨q, vs, i, v, rfl, rfl, h1, h2, p.val rel h3⟩)
          · exact False.elim p
        · exact False.elim p
  · exact False.elim p
end
end Y
namespace Y
open PySem L2 Z
section
variable {X : Cx}
def rDIx : R2 := fun x y H Q => ∃ a v, x = .ref a ∧ DGet H a y (some v) ∧ Q v H
theorem ix_dict (hu : X.A.units + 1 < cLine) : IxR X rDIx := by
  intro value slice pins s σ H x y v u Q I rx ry h hs
  obtain ⟨a, r, rfl, g, q⟩ := h
  obtain rfl : v = Value.ref a := rx
  exact PyProof.Rows.tail_any (dict_typeIs I g) PySem.F.slot_dict_getitem.lookup (d_getItem hu I g ry fun w' s3 I3 rw' => ⟨r, H, I3, rw', q⟩) hs
def rIxY (K : PySem.W.Frag) : R2 := fun x y H Q => rIx K x y H Q ∨ rDIx x y H Q
theorem ix_Y {K : PySem.W.Frag} (hK : X.K = K) (hu : X.A.units + 1 < cLine) : IxR X (rIxY K) := by subst hK; exact ix_seq.or (ix_dict hu)
def rDIn (k : Bool → Bool) : R2 := fun y x H Q => ∃ a o, x = .ref a ∧ DGet H a y o ∧ Q (.bl (k o.isSome)) H
theorem op_dnin (hu : X.A.units + 1 < cLine) : OpR X (compareOp .NotIn) (rDIn not) := by
  intro pins s σ H y x v u Q I ry rx h
  obtain ⟨a, o, rfl, g, q⟩ := h
  obtain rfl : u = Value.ref a := rx
  exact d_notIn hu I g ry fun s3 I3 => ⟨.bl (!o.isSome), H, I3, rfl, q⟩
def rSIn (k : Bool → Bool) : R2 := fun x y H Q => ∃ i j, x = .str i ∧ y = .str j ∧ Q (.bl (k (!(Builtin.Str.occurrences j i 0 j.length 1).isEmpty))) H
def rNinY (K : PySem.W.Frag) : R2 := fun x y H Q => ((rNotInD K x y H Q ∨ rIn K true x y H Q) ∨ rSIn not x y H Q) ∨ rDIn not x y H Q
theorem op_ninY {K : PySem.W.Frag} (hK : X.K = K) (hu : X.A.units + 65 < cLine) : OpR X (compareOp .NotIn) (rNinY K) := by
  subst hK; exact L2.OpR.or (L2.OpR.or (L2.OpR.or (op_notInD hu) op_notIn_seq) op_notin_str) (op_dnin (by omega))
/-- len of a dict, too -/
def rLenY (K : PySem.W.Frag) : List V → Hp → VK → Prop := fun xs H Q => rLenZ K xs H Q ∨ ∃ a kvs, xs = [V.ref a] ∧ Rd H a (.dK kvs) ∧ Q (.int kvs.length) H
theorem call_lenR : CallR X (.builtin "len") (fun xs H Q => ∃ a kvs, xs = [V.ref a] ∧ Rd H a (.dK kvs) ∧ Q (.int kvs.length) H) := by
  intro pins s σ H xs us Q I r h
  obtain ⟨a, kvs, rfl, ha, q⟩ := h
  obtain ⟨u, rfl, ru⟩ := vals1 r
  cases ru
  exact d_len I ha fun t s' I' => ⟨.int kvs.length, H, I', ⟨t, rfl⟩, q⟩
theorem call_lenY {K : PySem.W.Frag} (hK : X.K = K) : CallR X (.builtin "len") (rLenY K) := L2.CallR.or (call_lenZ hK) call_lenR
end
section
variable {κ β γ : Type} [DecidableEq κ]
def vl (l : List (κ × β)) (k : κ) : Option β := (l.find? fun p => decide (p.1 = k)).map (·.2)
def pu (l : List (κ × β)) (k : κ) (v : β) : List (κ × β) := if (l.any fun p => decide (p.1 = k)) = true then l.map (fun p => if p.1 = k then (p.1, v) else p) else l ++ [(k, v)]
def dr (l : List (κ × β)) (k : κ) : List (κ × β) := l.filter fun p => decide (p.1 ≠ k)
end
section
variable {K : PySem.W.Frag} {G : Hp} {α : Nat → Addr} {n : Nat} {κ : Type} [DecidableEq κ]
inductive RpK (K : PySem.W.Frag) (G : Hp) (α : Nat → Addr) (n : Nat) {κ : Type} : List (κ × V) → List (κ × D) → Prop
  | nil : RpK K G α n [] []
  | cons {k : κ} {v : V} {d : D} {kvs : List (κ × V)} {l : List (κ × D)} : Rp K G α n v d → RpK K G α n kvs l → RpK K G α n ((k, v) :: kvs) ((k, d) :: l)
theorem RpK.of {κ : Type} : ∀ {kvs : List (κ × V)} {l : List (κ × D)}, kvs.map Prod.fst = l.map Prod.fst → RpL K G α n (kvs.map Prod.snd) (l.map Prod.snd) → RpK K G α n kvs l
  | [], [], _, _ => .nil
  | [], _ :: _, e, _ => by simp at e
  | _ :: _, [], e, _ => by simp at e
  | (k, v) :: r, (k', d) :: r', e, h => by
    simp only [List.map_cons] at e h
    injection e with e1 e2
    have e1 : k = k' := e1
    subst e1
    cases h with
    | cons a b => exact .cons a (RpK.of e2 b)
theorem RpK.keys {κ : Type} : ∀ {kvs : List (κ × V)} {l : List (κ × D)}, RpK K G α n kvs l → kvs.map Prod.fst = l.map Prod.fst
  | _, _, .nil => rfl
  | _, _, .cons _ r => by rw [List.map_cons, List.map_cons, r.keys]
theorem RpK.vals {κ : Type} : ∀ {kvs : List (κ × V)} {l : List (κ × D)}, RpK K G α n kvs l → RpL K G α n (kvs.map Prod.snd) (l.map Prod.snd)
  | _, _, .nil => .nil
  | _, _, .cons a r => .cons a r.vals
theorem RpK.len {κ : Type} {kvs : List (κ × V)} {l : List (κ × D)} (h : RpK K G α n kvs l) : kvs.length = l.length := by
  have := congrArg List.length h.keys
  simpa using this
theorem RpK.get {k : κ} : ∀ {kvs : List (κ × V)} {l : List (κ × D)}, RpK K G α n kvs l → (vl l k = none ∧ valV kvs k = none) ∨ ∃ v d, vl l k = some d ∧ valV kvs k = some v ∧ Rp K G α n v d
  | _, _, .nil => .inl ⟨rfl, rfl⟩
  | _, _, .cons (k := k') (v := v) (d := d) (kvs := kvs) (l := l) a r => by
    by_cases e : k' = k
    · refine .inr ⟨v, d, ?_, ?_, a⟩
      · unfold vl; rw [List.find?_cons, decide_eq_true (show (k', d).1 = k from e)]; rfl
      · exact valV_pos e
    · have h1 : vl ((k', d) :: l) k = vl l k := by unfold vl; rw [List.find?_cons, decide_eq_false (show ¬ (k', d).1 = k from e)]
      rw [h1, valV_neg (p := (k', v)) e]
      exact r.get
theorem RpK.append {κ : Type} : ∀ {kvs kvs' : List (κ × V)} {l l' : List (κ × D)}, RpK K G α n kvs l → RpK K G α n kvs' l' → RpK K G α n (kvs ++ kvs') (l ++ l')
  | _, _, _, _, .nil, h => h
  | _, _, _, _, .cons a r, h => .cons a (r.append h)
theorem RpK.any {k : κ} : ∀ {kvs : List (κ × V)} {l : List (κ × D)}, RpK K G α n kvs l → (kvs.any fun p => decide (p.1 = k)) = l.any fun p => decide (p.1 = k)
  | _, _, .nil => rfl
  | _, _, .cons _ r => by rw [List.any_cons, List.any_cons, r.any]
theorem RpK.put {k : κ} {v : V} {d : D} {kvs : List (κ × V)} {l : List (κ × D)} (h : RpK K G α n kvs l) (hv : Rp K G α n v d) : RpK K G α n (putK kvs k v) (pu l k d) := by
  have mp : ∀ {kvs : List (κ × V)} {l : List (κ × D)}, RpK K G α n kvs l → RpK K G α n (kvs.map fun kv => if kv.1 = k then (kv.1, v) else kv) (l.map fun p => if p.1 = k then (p.1, d) else p) := by
    intro kvs l h
    induction h with
    | nil => exact .nil
    | @cons k' v' d' kvs l a r ih =>
      rw [List.map_cons, List.map_cons]
      by_cases e : k' = k
      · rw [if_pos (show (k', v').1 = k from e), if_pos (show (k', d').1 = k from e)]; exact .cons hv ih
      · rw [if_neg (show ¬ (k', v').1 = k from e), if_neg (show ¬ (k', d').1 = k from e)]; exact .cons a ih
  unfold putK pu
  rw [h.any]
  split
  · exact mp h
  · exact h.append (.cons hv .nil)
theorem RpK.drop {k : κ} : ∀ {kvs : List (κ × V)} {l : List (κ × D)}, RpK K G α n kvs l → RpK K G α n (dropK kvs k) (dr l k)
  | _, _, .nil => .nil
  | _, _, .cons (k := k') (v := v) (d := d) (kvs := kvs) (l := l) a r => by
    unfold dropK dr
    rw [List.filter_cons, List.filter_cons]
    by_cases e : k' = k
    · rw [if_neg (by simp [e]), if_neg (by simp [e])]; exact r.drop
    · rw [if_pos (by simp [e]), if_pos (by simp [e])]; exact .cons a r.drop
theorem RpK.mono {κ : Type} {G' : Hp} {α' : Nat → Addr} {n' : Nat} {kvs : List (κ × V)} {l : List (κ × D)} (s : Same G G') (ha : ∀ k, k < n → α' k = α k) (hn : n ≤ n') (h : RpK K G α n kvs l) : RpK K G' α' n' kvs l := RpK.of h.keys (h.vals.mono s ha hn)
end
section
variable {K : PySem.W.Frag} {ct : Ct} {H0 : Hp} {W : WX}
def truD (M : List Cn) : D → Option Bool
  | .non => some false
  | .bl b => some b
  | .int i => some (!decide (i = 0))
  | .str x => if x.length ≤ sizeLine then some (!decide ((x.length : Int) = 0)) else none
  | .tup l => some (!l.isEmpty)
  | .ctp l => some (!l.isEmpty)
  | .lst l => some (!l.isEmpty)
  | .clst l => some (!l.isEmpty)
  | .cid k => M[k]?.bind fun c => match c with
    | .lst l => some (!l.isEmpty)
    | .dK l => some (!l.isEmpty)
    | _ => none
  | _ => none
def mTru (m : Mo AI) : Mo Bool := fun s => (m s).bind fun a s1 => match (look s1 a).bind (truD s1.M) with
  | some b => .ok b s1
  | none => .no
theorem emp_len {α β : Type} {l : List α} {m : List β} (h : l.length = m.length) : (!l.isEmpty) = !m.isEmpty := by
  cases l <;> cases m <;> first | rfl | (simp at h)
theorem tru_ok {S : Sh} {s : Stt} {σ : St} {H : Hp} {v : V} {d : D} {b : Bool} (rel : Rel K ct H0 S s σ H) (r : Rp K (U ct.lk H) S.α s.M.length v d) (e : truD s.M d = some b) : TruV K v H b := by
  cases r with
  | non => cases e; rfl
  | bl b => cases e; rfl
  | int i =>
    cases e
    show (!decide (i = 0)) = (i != 0)
    by_cases q : i = 0 <;> simp [q]
  | str x =>
    have e1 : (if x.length ≤ sizeLine then some (!decide ((x.length : Int) = 0)) else none) = some b := e
    by_cases h : x.length ≤ sizeLine
    · rw [if_pos h] at e1
      cases e1
      refine ⟨h, ?_⟩
      by_cases q : (x.length : Int) = 0
      · rw [decide_eq_true q, q]; rfl
      · rw [decide_eq_false q]; exact (bne_iff_ne.mpr q).symm
    · rw [if_neg h] at e1; cases e1
  | tup h r => cases e; exact .inr (.inl ⟨_, .of (uP' h), (emp_len r.length).symm⟩)
  | ctp h r => cases e; exact .inr (.inl ⟨_, uSqT h, (emp_len r.length).symm⟩)
  | lst h r => cases e; exact .inl ⟨_, .of (uL' h), (emp_len r.length).symm⟩
  | clst h r => cases e; exact .inl ⟨_, uSqL h, (emp_len r.length).symm⟩
  | dK h e1 r => cases e
  | dT h e1 r => cases e
  | ty m => cases e
  | @cid k h =>
    obtain ⟨c, q, e1⟩ := Option.bind_eq_some_iff.mp e
    have hh := (rel.ids k c q).2
    cases c with
    | lst l => cases e1; obtain ⟨vs, h1, h2⟩ := hh; exact .inl ⟨_, .of h1, (emp_len h2.length).symm⟩
    | dK l => cases e1; obtain ⟨vs, h1, h3, h2⟩ := hh; exact .inr (.inr ⟨_, h1, (emp_len (RpK.of h3 h2).len).symm⟩)
    | dT l => cases e1
    | obj c fs => cases e1
    | lkK l => cases e1
    | lkT l => cases e1
theorem et_tru {ta : TE} {m : Mo AI} (h : Ei K ct H0 W ta m) : Et K ct H0 W (tTruZ K ta) (mTru m) := fun S s σ H Q rel p =>
  h S s σ H _ rel (Pst.bind bB p fun S1 s1 H1 x a st1 rel1 i1 p1 => by
    split at p1
    · rename_i b e
      obtain ⟨d, e1, e2⟩ := Option.bind_eq_some_iff.mp e
      exact ⟨b, tru_ok rel1 (look_ok rel1 i1 e1) e2, p1 S1 b H1 .refl rel1 rfl⟩
    · exact False.elim p1)
/-- a truth value -/
def blOf : AI → Option Bool
  | .val (.bl b) => some b
  | _ => none
def mBl (m : Mo AI) : Mo Bool := fun s => (m s).bind fun a s1 => match blOf a with
  | some b => .ok b s1
  | none => .no
theorem blOf_eq {a : AI} {b : Bool} (e : blOf a = some b) : a = .val (.bl b) := by
  unfold blOf at e
  split at e
  · cases e; rfl
  · cases e
theorem et_tst {ta : TE} {m : Mo AI} (h : Ei K ct H0 W ta m) : Et K ct H0 W (tTest ta) (mBl m) := fun S s σ H Q rel p =>
  h S s σ H _ rel (Pst.bind bB p fun S1 s1 H1 x a st1 rel1 i1 p1 => by
    split at p1
    · rename_i b e
      cases blOf_eq e
      cases rp_bl i1
      exact ⟨b, rfl, p1 S1 b H1 .refl rel1 rfl⟩
    · exact False.elim p1)
def mAnd (m1 m2 : Mo Bool) : Mo Bool := fun s => (m1 s).bind fun c s1 => if c = true then m2 s1 else .ok false s1
def mOr (m1 m2 : Mo Bool) : Mo Bool := fun s => (m1 s).bind fun c s1 => if c = true then .ok true s1 else m2 s1
def mNot (m1 : Mo Bool) : Mo Bool := fun s => (m1 s).bind fun c s1 => .ok (!c) s1
theorem et_and {t u : TT} {m1 m2 : Mo Bool} (h1 : Et K ct H0 W t m1) (h2 : Et K ct H0 W u m2) : Et K ct H0 W (tAnd t u) (mAnd m1 m2) := fun S s σ H Q rel p =>
  h1 S s σ H _ rel (Pst.bind bB p fun S1 s1 H1 x a st1 rel1 i1 p1 => by
    cases (show x = a from i1)
    cases x with
    | true => rw [if_pos rfl] at p1 ⊢; exact h2 S1 s1 σ H1 Q rel1 p1
    | false => rw [if_neg Bool.false_ne_true] at p1 ⊢; exact p1 S1 false H1 .refl rel1 rfl)
theorem et_or {t u : TT} {m1 m2 : Mo Bool} (h1 : Et K ct H0 W t m1) (h2 : Et K ct H0 W u m2) : Et K ct H0 W (tOr t u) (mOr m1 m2) := fun S s σ H Q rel p =>
  h1 S s σ H _ rel (Pst.bind bB p fun S1 s1 H1 x a st1 rel1 i1 p1 => by
    cases (show x = a from i1)
    cases x with
    | true => rw [if_pos rfl] at p1 ⊢; exact p1 S1 true H1 .refl rel1 rfl
    | false => rw [if_neg Bool.false_ne_true] at p1 ⊢; exact h2 S1 s1 σ H1 Q rel1 p1)
theorem et_not {t : TT} {m1 : Mo Bool} (h1 : Et K ct H0 W t m1) : Et K ct H0 W (tNot t) (mNot m1) := fun S s σ H Q rel p =>
  h1 S s σ H _ rel (Pst.bind bB p fun S1 s1 H1 x a st1 rel1 i1 p1 => by
    cases (show x = a from i1)
    exact p1 S1 (!x) H1 .refl rel1 rfl)
/-- and, or, not as values, of truth values -/
def mAndV (m1 m2 : Mo AI) : Mo AI := fun s => (m1 s).bind fun a s1 => match blOf a with
  | some true => m2 s1
  | some false => .ok (.val (.bl false)) s1
  | none => .no
def mOrV (m1 m2 : Mo AI) : Mo AI := fun s => (m1 s).bind fun a s1 => match blOf a with
  | some true => .ok (.val (.bl true)) s1
  | some false => m2 s1
  | none => .no
def mNotV (m1 : Mo AI) : Mo AI := fun s => (m1 s).bind fun a s1 => match blOf a with
  | some b => .ok (.val (.bl (!b))) s1
  | none => .no
theorem ei_andV {ta tb : TE} {m1 m2 : Mo AI} (h1 : Ei K ct H0 W ta m1) (h2 : Ei K ct H0 W tb m2) : Ei K ct H0 W (tAndV ta tb) (mAndV m1 m2) := fun S s σ H Q rel p =>
  h1 S s σ H _ rel (Pst.bind bI p fun S1 s1 H1 x a st1 rel1 i1 p1 => by
    split at p1
    · rename_i e; cases blOf_eq e; cases rp_bl i1
      exact ⟨true, rfl, by rw [if_pos rfl]; exact h2 S1 s1 σ H1 Q rel1 p1⟩
    · rename_i e; cases blOf_eq e; cases rp_bl i1
      exact ⟨false, rfl, by rw [if_neg Bool.false_ne_true]; exact p1.val rel1 (.bl _)⟩
    · exact False.elim p1)
theorem ei_notV {ta : TE} {m1 : Mo AI} (h1 : Ei K ct H0 W ta m1) : Ei K ct H0 W (tNotV ta) (mNotV m1) := fun S s σ H Q rel p =>
  h1 S s σ H _ rel (Pst.bind bI p fun S1 s1 H1 x a st1 rel1 i1 p1 => by
    split at p1
    · rename_i b e; cases blOf_eq e; cases rp_bl i1
      exact ⟨b, rfl, p1.val rel1 (.bl _)⟩
    · exact False.elim p1)
def mIf {α : Type} (c : Mo Bool) (m1 m2 : Mo α) : Mo α := fun s => (c s).bind fun b s1 => if b = true then m1 s1 else m2 s1
/-- a < b < c: nothing is changed in between -/
def mChain (f f' : Stt → AI → AI → Ro AI) (m1 m2 m3 : Mo AI) : Mo AI := fun s => (m1 s).bind fun a s1 => (m2 s1).bind fun b s2 => (f s2 a b).bind fun z s3 => match blOf z with
  | some true => (m3 s3).bind fun c s4 => f' s4 b c
  | some false => .ok (.val (.bl false)) s3
  | none => .no
theorem ei_chain {r r' : R2} {f f' : Stt → AI → AI → Ro AI} {ta tb tc : TE} {m1 m2 m3 : Mo AI} (ho : J2 K ct H0 r f) (ho' : J2 K ct H0 r' f') (h1 : Ei K ct H0 W ta m1) (h2 : Ei K ct H0 W tb m2) (h3 : Ei K ct H0 W tc m3) : Ei K ct H0 W (tChain r r' ta tb tc) (mChain f f' m1 m2 m3) := fun S s σ H Q rel p =>
  h1 S s σ H _ rel (Pst.bind bI p fun S1 s1 H1 x a st1 rel1 i1 p1 => h2 S1 s1 σ H1 _ rel1 (Pst.bind bI p1 fun S2 s2 H2 y b st2 rel2 i2 p2 =>
    ho W S2 s2 σ H2 _ _ x y a b _ rel2 (i1.step st2) i2 (Pst.bind bI p2 fun S3 s3 H3 z c st3 rel3 i3 p3 => by
      split at p3
      · rename_i e; cases blOf_eq e; cases rp_bl i3
        exact ⟨true, rfl, by rw [if_pos rfl]; exact h3 S3 s3 σ H3 _ rel3 (Pst.bind bI p3 fun S4 s4 H4 z' c' st4 rel4 i4 p4 => ho' W S4 s4 σ H4 _ _ y z' b c' Q rel4 ((i2.step st3).step st4) i4 p4)⟩
      · rename_i e; cases blOf_eq e; cases rp_bl i3
        exact ⟨false, rfl, by rw [if_neg Bool.false_ne_true]; exact p3.val rel3 (.bl _)⟩
      · exact False.elim p3)))
end
end Y
namespace Y
open PySem L2 Z
section
variable {K : PySem.W.Frag} {ct : Ct} {H0 : Hp} {W : WX}
inductive AsOk (K : PySem.W.Frag) (ct : Ct) (Hs : Hp) (S : Sh) (s : Stt) (σ : St) (H : Hp) : List V → List AI → Prop
  | nil : AsOk K ct Hs S s σ H [] []
  | cons {v : V} {a : AI} {vs : List V} {as : List AI} : ItOk K ct Hs S s σ H v a → AsOk K ct Hs S s σ H vs as → AsOk K ct Hs S s σ H (v :: vs) (a :: as)
def RA (K : PySem.W.Frag) (ct : Ct) : RR (List V) (List AI) := fun H S s σ H' v a => AsOk K ct H S s σ H' v a
theorem bA : Bck (RA K ct) := fun H1 H S s σ H' v a k h => by
  induction (show AsOk K ct H1 S s σ H' v a from h) with
  | nil => exact AsOk.nil
  | cons i _ ih => exact AsOk.cons (bI _ _ _ _ _ _ _ _ k i) (ih ‹_›)
abbrev EaL (K : PySem.W.Frag) (ct : Ct) (H0 : Hp) (W : WX) (t : TA) (m : Mo (List AI)) : Prop := Jd K ct H0 (RA K ct) W t m
def aNil : Mo (List AI) := fun s => .ok [] s
def aCons (m : Mo AI) (r : Mo (List AI)) : Mo (List AI) := fun s => (m s).bind fun a s1 => (r s1).bind fun as s2 => .ok (a :: as) s2
theorem ea_nil : EaL K ct H0 W tNil aNil := fun S s σ H Q rel p => p S [] H .refl rel .nil
theorem ea_cons {ta : TE} {tr : TA} {m : Mo AI} {r : Mo (List AI)} (h1 : Ei K ct H0 W ta m) (h2 : EaL K ct H0 W tr r) : EaL K ct H0 W (tCons ta tr) (aCons m r) := fun S s σ H Q rel p =>
  h1 S s σ H _ rel (by
    unfold aCons at p
    cases q : m s with
    | no => rw [q] at p; exact p
    | er x s' => rw [q] at p; exact p
    | ok a s1 =>
      rw [q] at p
      have p : Pst K ct H0 (RA K ct) W S s σ H Q ((r s1).bind fun as s2 => .ok (a :: as) s2) := p
      intro S1 v H1 st1 rel1 i1
      refine h2 S1 s1 σ H1 _ rel1 ?_
      cases q2 : r s1 with
      | no => rw [q2] at p; exact p
      | er x s' => rw [q2] at p; exact fun S' H' dd st rel q => p S' H' dd (st1.trans st) rel q
      | ok as s2 =>
        rw [q2] at p
        exact fun S2 vs H2 st2 rel2 i2 => p S2 (v :: vs) H2 (st1.trans st2) rel2 (.cons (i1.step st2) (bA _ _ _ _ _ _ _ _ st1.dom i2)))
def vNil : Mo (List D) := fun s => .ok [] s
def vCons (m : Mo AI) (r : Mo (List D)) : Mo (List D) := fun s => (mV m s).bind fun a s1 => (r s1).bind fun as s2 => .ok (a :: as) s2
theorem ev_nil : EvL K ct H0 W tNil vNil := fun S s σ H Q rel p => p S [] H .refl rel .nil
theorem ev_cons {ta : TE} {tr : TA} {m : Mo AI} {r : Mo (List D)} (h1 : Ei K ct H0 W ta m) (h2 : EvL K ct H0 W tr r) : EvL K ct H0 W (tCons ta tr) (vCons m r) := fun S s σ H Q rel p =>
  ev_of h1 S s σ H _ rel (Pst.bind bVL p fun S1 s1 H1 x a st1 rel1 i1 p1 => h2 S1 s1 σ H1 _ rel1 (Pst.bind bVL p1 fun S2 s2 H2 y b st2 rel2 i2 p2 => p2 S2 (x :: y) H2 .refl rel2 (.cons (Rp.step st2 i1) i2)))
def mLst (m : Mo (List D)) : Mo AI := fun s => (m s).bind fun l s1 => if l.length ≤ sizeLine then .ok (.new (.lst l)) s1 else .no
def mTup (m : Mo (List D)) : Mo AI := fun s => (m s).bind fun l s1 => if l.length ≤ sizeLine then .ok (.val (.tup l)) s1 else .no
theorem ei_lst {t : TA} {m : Mo (List D)} (h : EvL K ct H0 W t m) : Ei K ct H0 W (tLst t) (mLst m) := fun S s σ H Q rel p =>
  h S s σ H _ rel (Pst.bind bI p fun S1 s1 H1 x a st1 rel1 i1 p1 => by
    split at p1
    · rename_i hz
      exact ⟨by rw [RpL.length i1]; exact hz, fun q hq => p1.newL rel1 hq i1⟩
    · exact False.elim p1)
theorem ei_tup {t : TA} {m : Mo (List D)} (h : EvL K ct H0 W t m) : Ei K ct H0 W (tTup t) (mTup m) := fun S s σ H Q rel p =>
  h S s σ H _ rel (Pst.bind bI p fun S1 s1 H1 x a st1 rel1 i1 p1 => by
    split at p1
    · rename_i hz
      exact ⟨by rw [RpL.length i1]; exact hz, fun q hq => p1.newT rel1 hq i1⟩
    · exact False.elim p1)
def oNo : Mo (Option Int) := fun s => .ok none s
def oSm (m : Mo AI) : Mo (Option Int) := fun s => (m s).bind fun a s1 => match a with
  | .val (.int i) => .ok (some i) s1
  | _ => .no
theorem eo_no : Eo K ct H0 W tNoPart oNo := fun S s σ H Q rel p => p S none H .refl rel rfl
theorem eo_sm {t : TE} {m : Mo AI} (h : Ei K ct H0 W t m) : Eo K ct H0 W (tPart t) (oSm m) := fun S s σ H Q rel p =>
  h S s σ H _ rel (Pst.bind bO p fun S1 s1 H1 x a st1 rel1 i1 p1 => by
    split at p1
    · rename_i i
      cases rp_int i1
      exact ⟨i, rfl, p1 S1 (some i) H1 .refl rel1 rfl⟩
    · exact False.elim p1)
def cutL {β : Type} (xs : List β) (lo hi : Option Int) : List β := (xs.drop (HT.sIx xs.length 0 lo)).take (HT.sIx xs.length xs.length hi - HT.sIx xs.length 0 lo)
def fSl (s : Stt) (a : AI) (lo hi : Option Int) : Ro AI := match a with
  | .val (.str x) => if x.length ≤ sizeLine then .ok (.val (.str (cutS x lo hi))) s else .no
  | a => match viewL s a with
    | some l => .ok (.new (.lst (cutL l lo hi))) s
    | none => .no
def mSl (m : Mo AI) (ml mh : Mo (Option Int)) : Mo AI := fun s => (m s).bind fun a s1 => (ml s1).bind fun l s2 => (mh s2).bind fun h s3 => fSl s3 a l h
theorem ei_sl {te : TE} {tl th : TO} {m : Mo AI} {ml mh : Mo (Option Int)} (h1 : Ei K ct H0 W te m) (h2 : Eo K ct H0 W tl ml) (h3 : Eo K ct H0 W th mh) : Ei K ct H0 W (tSl (rSlZ K) te tl th) (mSl m ml mh) := fun S s σ H Q rel p =>
  h1 S s σ H _ rel (Pst.bind bI p fun S1 s1 H1 x a st1 rel1 i1 p1 => h2 S1 s1 σ H1 _ rel1 (Pst.bind bI p1 fun S2 s2 H2 lo lo' st2 rel2 i2 p2 => h3 S2 s2 σ H2 _ rel2 (Pst.bind bI p2 fun S3 s3 H3 hi hi' st3 rel3 i3 p3 => by
    cases (show lo = lo' from i2); cases (show hi = hi' from i3)
    have i1' := (i1.step st2).step st3
    unfold fSl at p3
    split at p3
    · rename_i z
      cases rp_str i1'
      split at p3
      · rename_i hz
        exact .inr ⟨z, rfl, hz, p3.val rel3 (.str _)⟩
      · exact False.elim p3
    · split at p3
      · rename_i l e
        obtain ⟨q, vs, rfl, k1, k2⟩ := viewL_ok rel3 i1' e
        refine .inl ⟨q, vs, rfl, k1, fun r hr => p3.newL rel3 hr ?_⟩
        show RpL _ _ _ _ ((vs.drop (HT.sIx vs.length 0 lo)).take (HT.sIx vs.length vs.length hi - HT.sIx vs.length 0 lo)) _
        rw [k2.length]
        exact (k2.drop _).take _
      · exact False.elim p3)))
def JB (K : PySem.W.Frag) (ct : Ct) (H0 : Hp) (r : List V → Hp → VK → Prop) (f : Stt → List AI → Ro AI) : Prop := ∀ W S s σ H Hs vs as Q, Rel K ct H0 S s σ H → AsOk K ct Hs S s σ H vs as → Pst K ct H0 (RI K ct) W S s σ H Q (f s as) → r vs H Q
def mCB (f : Stt → List AI → Ro AI) (m : Mo (List AI)) : Mo AI := fun s => (m s).bind fun as s1 => f s1 as
theorem ei_cb {r : List V → Hp → VK → Prop} {f : Stt → List AI → Ro AI} {t : TA} {m : Mo (List AI)} (hr : JB K ct H0 r f) (h : EaL K ct H0 W t m) : Ei K ct H0 W (tCB r t) (mCB f m) := fun S s σ H Q rel p =>
  h S s σ H _ rel (Pst.bind bI p fun S1 s1 H1 x a st1 rel1 i1 p1 => hr W S1 s1 σ H1 _ x a Q rel1 i1 p1)
def lenD (M : List Cn) : D → Option Nat
  | .str x => if x.length ≤ sizeLine then some x.length else none
  | .tup l => some l.length
  | .ctp l => some l.length
  | .lst l => some l.length
  | .clst l => some l.length
  | .dK l => some l.length
  | .cid k => M[k]?.bind fun c => match c with
    | .lst l => some l.length
    | .dK l => some l.length
    | .lkK l => some l.length
    | _ => none
  | _ => none
def fLen (s : Stt) (as : List AI) : Ro AI := match as with
  | [a] => match (look s a).bind (lenD s.M) with
    | some n => .ok (.val (.int (n : Int))) s
    | none => .no
  | _ => .no
theorem as1 {Hs : Hp} {S : Sh} {s : Stt} {σ : St} {H : Hp} {vs : List V} {a : AI} (h : AsOk K ct Hs S s σ H vs [a]) : ∃ v, vs = [v] ∧ ItOk K ct Hs S s σ H v a := by
  cases h with | cons i r => cases r; exact ⟨_, rfl, i⟩
theorem as2 {Hs : Hp} {S : Sh} {s : Stt} {σ : St} {H : Hp} {vs : List V} {a b : AI} (h : AsOk K ct Hs S s σ H vs [a, b]) : ∃ v w, vs = [v, w] ∧ ItOk K ct Hs S s σ H v a ∧ ItOk K ct Hs S s σ H w b := by
  cases h with | cons i r => cases r with | cons j r => cases r; exact ⟨_, _, rfl, i, j⟩
theorem len_ok {S : Sh} {s : Stt} {σ : St} {H : Hp} {v : V} {d : D} {n : Nat} {Q : VK} (rel : Rel K ct H0 S s σ H) (r : Rp K (U ct.lk H) S.α s.M.length v d) (e : lenD s.M d = some n) (q : Q (.int n) H) : rLenY K [v] H Q := by
  cases r with
  | str x =>
    have e1 : (if x.length ≤ sizeLine then some x.length else none) = some n := e
    by_cases h : x.length ≤ sizeLine
    · rw [if_pos h] at e1
      cases e1
      exact .inl ⟨_, _, rfl, ⟨h, rfl⟩, q⟩
    · rw [if_neg h] at e1; cases e1
  | tup h r => cases e; exact .inl ⟨_, _, rfl, .inr ⟨_, .of (uP' h), r.length.symm⟩, q⟩
  | ctp h r => cases e; exact .inl ⟨_, _, rfl, .inr ⟨_, uSqT h, r.length.symm⟩, q⟩
  | lst h r => cases e; exact .inl ⟨_, _, rfl, .inl ⟨_, .of (uL' h), r.length.symm⟩, q⟩
  | clst h r => cases e; exact .inl ⟨_, _, rfl, .inl ⟨_, uSqL h, r.length.symm⟩, q⟩
  | dK h e1 r => cases e; exact .inr ⟨_, _, rfl, uK' h, by rw [(RpK.of e1 r).len]; exact q⟩
  | non => cases e
  | bl _ => cases e
  | int _ => cases e
  | dT h e1 r => cases e
  | ty m => cases e
  | @cid k h =>
    obtain ⟨c, qc, e1⟩ := Option.bind_eq_some_iff.mp e
    have hh := (rel.ids k c qc).2
    cases c with
    | lst l => cases e1; obtain ⟨vs, h1, h2⟩ := hh; exact .inl ⟨_, _, rfl, .inl ⟨_, .of h1, h2.length.symm⟩, q⟩
    | dK l => cases e1; obtain ⟨vs, h1, h3, h2⟩ := hh; exact .inr ⟨_, _, rfl, .inl h1, by rw [(RpK.of h3 h2).len]; exact q⟩
    | dT l => cases e1
    | obj c fs => cases e1
    | lkK l => cases e1; obtain ⟨vs, ⟨od, h1⟩, h3, h2⟩ := hh; exact .inr ⟨_, _, rfl, .inr ⟨od, h1⟩, by rw [(RpK.of h3 h2).len]; exact q⟩
    | lkT l => cases e1
theorem jb_len : JB K ct H0 (rLenY K) fLen := fun W S s σ H Hs vs as Q rel ia p => by
  unfold fLen at p
  split at p
  · rename_i a
    obtain ⟨v, rfl, i⟩ := as1 ia
    split at p
    · rename_i n e
      obtain ⟨d, e1, e2⟩ := Option.bind_eq_some_iff.mp e
      exact len_ok rel (look_ok rel i e1) e2 (p.val rel (.int _))
    · exact False.elim p
  · exact False.elim p
/-- a list of whole numbers, of truth values -/
def intsD : List D → Option (List Int)
  | [] => some []
  | .int i :: l => (intsD l).map (i :: ·)
  | _ :: _ => none
def blsD : List D → Option (List Bool)
  | [] => some []
  | .bl i :: l => (blsD l).map (i :: ·)
  | _ :: _ => none
section
variable {G : Hp} {α : Nat → Addr} {n : Nat}
theorem ints_rp : ∀ {l : List D} {vs : List V} {ns : List Int}, RpL K G α n vs l → intsD l = some ns → vs = ns.map V.int
  | [], _, _, .nil, e => by cases e; rfl
  | .int i :: l, _, ns, .cons h r, e => by
    obtain ⟨ms, q, rfl⟩ := Option.map_eq_some_iff.mp (show (intsD l).map (i :: ·) = some ns from e)
    rw [rp_int h, ints_rp r q]; rfl
  | .non :: _, _, _, _, e => by cases e
  | .bl _ :: _, _, _, _, e => by cases e
  | .str _ :: _, _, _, _, e => by cases e
  | .tup _ :: _, _, _, _, e => by cases e
  | .ctp _ :: _, _, _, _, e => by cases e
  | .lst _ :: _, _, _, _, e => by cases e
  | .clst _ :: _, _, _, _, e => by cases e
  | .dK _ :: _, _, _, _, e => by cases e
  | .dT _ :: _, _, _, _, e => by cases e
  | .cid _ :: _, _, _, _, e => by cases e
  | .ty _ :: _, _, _, _, e => by cases e
theorem bls_rp : ∀ {l : List D} {vs : List V} {ns : List Bool}, RpL K G α n vs l → blsD l = some ns → vs = ns.map V.bl
  | [], _, _, .nil, e => by cases e; rfl
  | .bl i :: l, _, ns, .cons h r, e => by
    obtain ⟨ms, q, rfl⟩ := Option.map_eq_some_iff.mp (show (blsD l).map (i :: ·) = some ns from e)
    rw [rp_bl h, bls_rp r q]; rfl
  | .non :: _, _, _, _, e => by cases e
  | .int _ :: _, _, _, _, e => by cases e
  | .str _ :: _, _, _, _, e => by cases e
  | .tup _ :: _, _, _, _, e => by cases e
  | .ctp _ :: _, _, _, _, e => by cases e
  | .lst _ :: _, _, _, _, e => by cases e
  | .clst _ :: _, _, _, _, e => by cases e
  | .dK _ :: _, _, _, _, e => by cases e
  | .dT _ :: _, _, _, _, e => by cases e
  | .cid _ :: _, _, _, _, e => by cases e
  | .ty _ :: _, _, _, _, e => by cases e
end
/-- a builtin of one list of whole numbers, of truth values -/
def fInts (g : List Int → Option D) (s : Stt) (as : List AI) : Ro AI := match as with
  | [a] => match ((viewL s a).bind intsD).bind g with
    | some d => .ok (.val d) s
    | none => .no
  | _ => .no
def fBls (g : List Bool → D) (s : Stt) (as : List AI) : Ro AI := match as with
  | [a] => match (viewL s a).bind blsD with
    | some bs => .ok (.val (g bs)) s
    | none => .no
  | _ => .no
def gSum (ns : List Int) : Option D := some (.int ns.sum)
theorem fInts_ok {g : List Int → Option D} {S : Sh} {s : Stt} {σ : St} {H Hs : Hp} {vs : List V} {as : List AI} {Q : VK} (rel : Rel K ct H0 S s σ H) (ia : AsOk K ct Hs S s σ H vs as) (p : Pst K ct H0 (RI K ct) W S s σ H Q (fInts g s as)) :
    ∃ q ns d, vs = [.ref q] ∧ SqL K H q (ns.map V.int) ∧ g ns = some d ∧ Pst K ct H0 (RI K ct) W S s σ H Q (.ok (.val d) s) := by
  unfold fInts at p
  split at p
  · rename_i a
    obtain ⟨v, rfl, i⟩ := as1 ia
    split at p
    · rename_i d e
      obtain ⟨ns, e1, e2⟩ := Option.bind_eq_some_iff.mp e
      obtain ⟨l, e0, e1⟩ := Option.bind_eq_some_iff.mp e1
      obtain ⟨q, us, rfl, k1, k2⟩ := viewL_ok rel i e0
      rw [ints_rp k2 e1] at k1
      exact ⟨q, ns, d, rfl, k1, e2, p⟩
    · exact False.elim p
  · exact False.elim p
theorem jb_sum : JB K ct H0 (rSum K) (fInts gSum) := fun W S s σ H Hs vs as Q rel ia p => by
  obtain ⟨q, ns, d, rfl, h, e, p⟩ := fInts_ok rel ia p
  cases e
  exact ⟨q, ns, rfl, h, p.val rel (.int _)⟩
theorem fBls_ok {g : List Bool → D} {S : Sh} {s : Stt} {σ : St} {H Hs : Hp} {vs : List V} {as : List AI} {Q : VK} (rel : Rel K ct H0 S s σ H) (ia : AsOk K ct Hs S s σ H vs as) (p : Pst K ct H0 (RI K ct) W S s σ H Q (fBls g s as)) :
    ∃ q bs, vs = [.ref q] ∧ SqL K H q (bs.map V.bl) ∧ Pst K ct H0 (RI K ct) W S s σ H Q (.ok (.val (g bs)) s) := by
  unfold fBls at p
  split at p
  · rename_i a
    obtain ⟨v, rfl, i⟩ := as1 ia
    split at p
    · rename_i bs e
      obtain ⟨l, e0, e1⟩ := Option.bind_eq_some_iff.mp e
      obtain ⟨q, us, rfl, k1, k2⟩ := viewL_ok rel i e0
      rw [bls_rp k2 e1] at k1
      exact ⟨q, bs, rfl, k1, p⟩
    · exact False.elim p
  · exact False.elim p
theorem jb_all : JB K ct H0 (rAll K) (fBls fun bs => .bl (bs.all id)) := fun W S s σ H Hs vs as Q rel ia p => by
  obtain ⟨q, ns, rfl, h, p⟩ := fBls_ok rel ia p
  exact ⟨q, ns, rfl, h, p.val rel (.bl _)⟩
def fI2 (g : Int → Int → Int) (s : Stt) (as : List AI) : Ro AI := match as with
  | [.val (.int i), .val (.int j)] => .ok (.val (.int (g i j))) s
  | _ => .no
theorem jb_min2 : JB K ct H0 rMin2 (fI2 min) := fun W S s σ H Hs vs as Q rel ia p => by
  unfold fI2 at p
  split at p
  · rename_i i j
    obtain ⟨v, w, rfl, h1, h2⟩ := as2 ia
    cases rp_int h1; cases rp_int h2
    exact z_min2 (p.val rel (.int _))
  · exact False.elim p
theorem jb_max2 : JB K ct H0 rMax2 (fI2 max) := fun W S s σ H Hs vs as Q rel ia p => by
  unfold fI2 at p
  split at p
  · rename_i i j
    obtain ⟨v, w, rfl, h1, h2⟩ := as2 ia
    cases rp_int h1; cases rp_int h2
    exact z_max2 (p.val rel (.int _))
  · exact False.elim p
/-- list(x) -/
def fList (s : Stt) (as : List AI) : Ro AI := match as with
  | [a] => match viewL s a with
    | some l => .ok (.new (.lst l)) s
    | none => match viewT s a with
      | some l => .ok (.new (.lst l)) s
      | none => .no
  | _ => .no
theorem jb_list : JB K ct H0 (rListOf K) fList := fun W S s σ H Hs vs as Q rel ia p => by
  unfold fList at p
  split at p
  · rename_i a
    obtain ⟨v, rfl, i⟩ := as1 ia
    split at p
    · rename_i l e
      obtain ⟨q, us, rfl, k1, k2⟩ := viewL_ok rel i e
      exact ⟨q, us, rfl, .inl k1, fun r hr => p.newL rel hr k2⟩
    · split at p
      · rename_i l e
        obtain ⟨q, us, rfl, k1, k2⟩ := viewT_ok rel i e
        exact ⟨q, us, rfl, .inr k1, fun r hr => p.newL rel hr k2⟩
      · exact False.elim p
  · exact False.elim p
/-- isinstance -/
def kindD (M : List Cn) : D → Option String
  | .non => some "NoneType"
  | .bl _ => some "bool"
  | .int _ => some "int"
  | .str _ => some "str"
  | .tup _ => some "tuple"
  | .lst _ => some "list"
  | .dK _ => some "dict"
  | .cid k => M[k]?.bind fun c => match c with
    | .lst _ => some "list"
    | .dK _ => some "dict"
    | _ => none
  | _ => none
def fIsi (s : Stt) (as : List AI) : Ro AI := match as with
  | [a, .val (.ty m)] => match ((look s a).bind (kindD s.M)).bind fun n => kitB n m with
    | some b => .ok (.val (.bl b)) s
    | none => .no
  | _ => .no
theorem kind_ok {S : Sh} {s : Stt} {σ : St} {H : Hp} {v : V} {d : D} {n : String} (rel : Rel K ct H0 S s σ H) (r : Rp K (U ct.lk H) S.α s.M.length v d) (e : kindD s.M d = some n) : TyX K H v (.type n) := by
  cases r with
  | non => cases e; exact .base .non
  | bl b => cases e; exact .base (.bl b)
  | int i => cases e; exact .base (.int i)
  | str x => cases e; exact .base (.str x)
  | tup h r => cases e; exact .base (.tup (uP' h))
  | lst h r => cases e; exact .base (.lst (uL' h))
  | dK h e1 r =>
    cases e
    rcases uK' h with h | ⟨o, h⟩
    · exact .base (.dK h)
    · exact .fDict h
  | ctp h r => cases e
  | clst h r => cases e
  | dT h e1 r => cases e
  | ty m => cases e
  | @cid k h =>
    obtain ⟨c, qc, e1⟩ := Option.bind_eq_some_iff.mp e
    have hh := (rel.ids k c qc).2
    cases c with
    | lst l => cases e1; obtain ⟨vs, h1, h2⟩ := hh; exact .base (.lst h1)
    | dK l => cases e1; obtain ⟨vs, h1, h3, h2⟩ := hh; exact .base (.dK h1)
    | dT l => cases e1
    | obj c fs => cases e1
    | lkK l => cases e1
    | lkT l => cases e1
theorem jb_isi : JB K ct H0 (rIsi K) fIsi := fun W S s σ H Hs vs as Q rel ia p => by
  unfold fIsi at p
  split at p
  · rename_i a m
    obtain ⟨v, w, rfl, h1, h2⟩ := as2 ia
    split at p
    · rename_i b e
      obtain ⟨n, e1, e2⟩ := Option.bind_eq_some_iff.mp e
      obtain ⟨d, e0, e1⟩ := Option.bind_eq_some_iff.mp e1
      have h2' : Rp K S.G S.α s.M.length w (.ty m) := h2
      cases h2'
      exact z_isi (kind_ok rel (look_ok rel h1 e0) e1) (kit_ty e2) (p.val rel (.bl _))
    · exact False.elim p
  · exact False.elim p
end
theorem kb_int_int : kitB "int" "int" = some true := by decide +kernel
theorem kb_int_bool : kitB "int" "bool" = some false := by decide +kernel
theorem kb_tuple_tuple : kitB "tuple" "tuple" = some true := by decide +kernel
theorem kb_dict_dict : kitB "dict" "dict" = some true := by decide +kernel
section
variable {K : PySem.W.Frag} {ct : Ct} {H0 : Hp} {W : WX}
def inOf (s : Stt) (a b : AI) : Option Bool := match a, b with
  | .val (.str i), .val (.str j) => some (!(Builtin.Str.occurrences j i 0 j.length 1).isEmpty)
  | a, b => match viewD s b with
    | some l => match a with
      | .val (.int i) => some (vl l (.inl i)).isSome
      | .val (.str x) => some (vl l (.inr x)).isSome
      | _ => none
    | none => match pyOf s a, pyOf s b with
      | some d, some (.list ds) => if SeqAt.shaped d && SeqAt.shaped (.list ds) then some (ds.any fun z => PyData.eqv z d) else none
      | _, _ => none
def fNin : Stt → AI → AI → Ro AI := fun s a b => match inOf s a b with
  | some k => .ok (.val (.bl (!k))) s
  | none => .no
theorem viewD_ok {S : Sh} {s : Stt} {σ : St} {H Hs : Hp} {v : V} {a : AI} {l : List (Key × D)} (r : Rel K ct H0 S s σ H) (i : ItOk K ct Hs S s σ H v a) (e : viewD s a = some l) : ∃ p kvs, v = .ref p ∧ Rd H p (.dK kvs) ∧ RpK K S.G S.α s.M.length kvs l := by
  have frz : ∀ {u : V} {d : D}, Rp K S.G S.α s.M.length u d → dictOf s.M d = some l → ∃ p kvs, u = .ref p ∧ Rd H p (.dK kvs) ∧ RpK K S.G S.α s.M.length kvs l := fun {u d} h e => by
    cases d with
    | dK l' => cases e; cases h with | dK h1 h3 h2 => exact ⟨_, _, rfl, uK' (r.sub _ _ h1), .of h3 h2⟩
    | cid k =>
      cases h
      obtain ⟨c, q, e1⟩ := Option.bind_eq_some_iff.mp (show s.M[k]?.bind Cn.aK = some l from e)
      cases c with
      | dK l' =>
        cases e1
        obtain ⟨vs, h1, h3, h2⟩ := (r.ids k _ q).2
        exact ⟨_, vs, rfl, .inl h1, .of h3 h2⟩
      | lkK l' =>
        cases e1
        obtain ⟨vs, ⟨od, h1⟩, h3, h2⟩ := (r.ids k _ q).2
        exact ⟨_, vs, rfl, .inr ⟨od, h1⟩, .of h3 h2⟩
      | _ => cases e1
    | _ => cases e
  have own : ∀ {p : Addr} {c : Cn}, CnOk K ct S s.M.length H p c → dictOf s.M c.toD = some l → ∃ q kvs, V.ref p = .ref q ∧ Rd H q (.dK kvs) ∧ RpK K S.G S.α s.M.length kvs l := fun {p c} h e => by
    cases c with
    | dK l' => cases e; obtain ⟨vs, h1, h3, h2⟩ := h; exact ⟨p, vs, rfl, .inl h1, .of h3 h2⟩
    | lst l' => cases e
    | dT l' => cases e
    | obj _ _ => cases e
    | lkK l => cases e
    | lkT l => cases e
  unfold viewD at e
  cases a with
  | val d => exact frz i e
  | new c =>
    obtain ⟨p, rfl, _, _, _, hc, h5⟩ := i
    exact own h5 e
  | slot j =>
    obtain ⟨d, q0, e⟩ := Option.bind_eq_some_iff.mp e
    obtain ⟨en, q1, rfl⟩ := Option.map_eq_some_iff.mp q0
    have q := entAt_eq q1
    have hi : σ[j]? = some (some v) := i
    have hh := r.slot j en q
    cases en with
    | fz d =>
      obtain ⟨v', h1, h2⟩ := hh
      rw [hi] at h1; cases h1
      exact frz h2 e
    | xn x => exact (entAt_xn q1).elim
    | ow c =>
      obtain ⟨p, h1, _, _, hc, h5⟩ := hh
      rw [hi] at h1; cases h1
      exact own h5 e
theorem dget_ok {S : Sh} {n : Nat} {H : Hp} {p : Addr} {kvs : List (Key × V)} {l : List (Key × D)} {k : Key} (h : Rd H p (.dK kvs)) (r : RpK K S.G S.α n kvs l) :
    (vl l k = none ∧ DGet H p (kV k) none) ∨ ∃ v d, vl l k = some d ∧ DGet H p (kV k) (some v) ∧ Rp K S.G S.α n v d := by
  have g : DGet H p (kV k) (valV kvs k) := .inl ⟨kvs, k, h, rfl, rfl⟩
  rcases r.get (k := k) with ⟨h1, h2⟩ | ⟨v, d, h1, h2, h3⟩
  · rw [h2] at g; exact .inl ⟨h1, g⟩
  · rw [h2] at g; exact .inr ⟨v, d, h1, g, h3⟩
theorem in_ok {S : Sh} {s : Stt} {σ : St} {H Hs Hs' : Hp} {v w : V} {a b : AI} {k : Bool} {Q : VK} (g : Bool → Bool) (rel : Rel K ct H0 S s σ H) (i : ItOk K ct Hs S s σ H v a) (j : ItOk K ct Hs' S s σ H w b) (e : inOf s a b = some k) (q : Q (.bl (g k)) H) :
    (∃ d ds, Dp K H v d ∧ Dp K H w (.list ds) ∧ SeqAt.shaped d = true ∧ SeqAt.shaped (.list ds) = true ∧ Q (.bl (g (ds.any fun z => PyData.eqv z d))) H) ∨ rSIn g v w H Q ∨ rDIn g v w H Q := by
  unfold inOf at e
  split at e
  · rename_i x y
    cases rp_str i; cases rp_str j; cases e
    exact .inr (.inl ⟨x, y, rfl, rfl, q⟩)
  · split at e
    · rename_i l e1
      obtain ⟨p, kvs, rfl, h1, h2⟩ := viewD_ok rel j e1
      split at e
      · rename_i x _
        cases rp_int i; cases e
        rcases dget_ok (k := Sum.inl x) h1 h2 with ⟨h3, h4⟩ | ⟨v, d, h3, h4, h5⟩
        · rw [h3] at q; exact .inr (.inr ⟨p, _, rfl, h4, q⟩)
        · rw [h3] at q; exact .inr (.inr ⟨p, _, rfl, h4, q⟩)
      · rename_i x _
        cases rp_str i; cases e
        rcases dget_ok (k := Sum.inr x) h1 h2 with ⟨h3, h4⟩ | ⟨v, d, h3, h4, h5⟩
        · rw [h3] at q; exact .inr (.inr ⟨p, _, rfl, h4, q⟩)
        · rw [h3] at q; exact .inr (.inr ⟨p, _, rfl, h4, q⟩)
      · cases e
    · split at e
      · rename_i d ds e1 e2
        split at e
        · rename_i h
          rw [Bool.and_eq_true] at h
          cases e
          exact .inl ⟨d, ds, pyOf_ok rel i e1, pyOf_ok rel j e2, h.1, h.2, q⟩
        · cases e
      · cases e
theorem j_nin : J2 K ct H0 (rNinY K) fNin := fun W S s σ H Hs Hs' x y a b Q rel ia ib p => by
  unfold fNin at p
  split at p
  · rename_i k e
    rcases in_ok not rel ia ib e (p.val rel (.bl _)) with h | h | h
    · exact .inl (.inl (.inl h))
    · exact .inl (.inr h)
    · exact .inr h
  · exact False.elim p
/-- an item of a dict, too -/
def fIxY : Stt → AI → AI → Ro AI := fun s a b => match viewD s a with
  | some l => match b with
    | .val (.int i) => match vl l (.inl i) with
      | some d => .ok (.val d) s
      | none => .no
    | .val (.str x) => match vl l (.inr x) with
      | some d => .ok (.val d) s
      | none => .no
    | _ => .no
  | none => fIx s a b
theorem j_ixY : J2 K ct H0 (rIxY K) fIxY := fun W S s σ H Hs Hs' x y a b Q rel ia ib p => by
  unfold fIxY at p
  split at p
  · rename_i l e1
    obtain ⟨q, kvs, rfl, h1, h2⟩ := viewD_ok rel ia e1
    split at p
    · rename_i i
      cases rp_int ib
      split at p
      · rename_i d e
        rcases dget_ok (k := Sum.inl i) h1 h2 with ⟨h3, h4⟩ | ⟨v, d', h3, h4, h5⟩
        · rw [h3] at e; cases e
        · rw [h3] at e; cases e
          exact .inr ⟨q, v, rfl, h4, p.val rel h5⟩
      · exact False.elim p
    · rename_i i
      cases rp_str ib
      split at p
      · rename_i d e
        rcases dget_ok (k := Sum.inr i) h1 h2 with ⟨h3, h4⟩ | ⟨v, d', h3, h4, h5⟩
        · rw [h3] at e; cases e
        · rw [h3] at e; cases e
          exact .inr ⟨q, v, rfl, h4, p.val rel h5⟩
      · exact False.elim p
    · exact False.elim p
  · exact .inl (j_ix W S s σ H Hs Hs' x y a b Q rel ia ib p)
end
end Y
namespace Y
open PySem L2 Z
section
variable {K : PySem.W.Frag} {ct : Ct} {H0 : Hp} {W : WX} {S : Sh} {s : Stt} {σ : St} {H : Hp}
def Ent.own : Ent → Option Cn
  | .ow c => some c
  | .fz _ => none
  | .xn _ => none
def getC (s : Stt) : AI → Option Cn
  | .slot i => (entAt s i).bind Ent.own
  | .val (.cid k) => s.M[k]?
  | _ => none
def setC (s : Stt) (a : AI) (c : Cn) : Stt := match a with
  | .slot i => ⟨s.env.set i (some (.ow c)), s.M⟩
  | .val (.cid k) => ⟨s.env, s.M.set k c⟩
  | _ => s
theorem setC_len {a : AI} {c : Cn} : (setC s a c).M.length = s.M.length := by
  unfold setC
  split
  · rfl
  · exact List.length_set
  · rfl
theorem mut_ok {Hs : Hp} {v : V} {a : AI} {c : Cn} (r : Rel K ct H0 S s σ H) (i : ItOk K ct Hs S s σ H v a) (e : getC s a = some c) (hlk : c.lkd = false := by rfl) :
    ∃ p, v = .ref p ∧ CnOk K ct S s.M.length H p c ∧ ∀ o c', (c.isC = true → c'.isC = true) → CnOk K ct S s.M.length (upd H p o) p c' →
      Rel K ct H0 S (setC s a c') σ (upd H p o) ∧ Stp S s.M.length H S (setC s a c').M.length (upd H p o) := by
  have gen : ∀ (p : Addr) (l : Lab), S.lab p = some l → (∀ u, H p = some u → NF u) → ∀ o : HO, NT o →
      (Same S.G (U ct.lk (upd H p o))) ∧ (∀ a l, S.lab a = some l → S.G a = none ∧ ∃ u, upd H p o a = some u ∧ NT u) ∧ (∀ a, upd H p o a = none → H0 a = none) ∧
      (∀ {a : Addr} {c : Cn} {l' : Lab}, S.lab a = some l' → l' ≠ l → CnOk K ct S s.M.length H a c → CnOk K ct S s.M.length (upd H p o) a c) ∧ Stp S s.M.length H S s.M.length (upd H p o) := by
    intro p l hl hnf o hnt
    obtain ⟨hg, u0, hu0⟩ := r.lg p l hl
    refine ⟨fun a u q => ?_, fun a l' q => ?_, fun a q => r.dom a (upd_none.mp q).2, fun {a c l'} q ne h => ?_, ⟨fun _ _ q => q, Nat.le_refl _, fun _ _ => rfl, fun a u q ql => ⟨?_, ql⟩, fun _ _ q => .inl q, fun a q => (upd_none.mp q).2, fun a od u q => by rw [upd_ne (fun z => by subst z; exact absurd rfl (hnf _ q od u))]; exact q⟩⟩
    · rw [U_ne (fun z => by subst z; rw [hg] at q; cases q)]; exact r.sub a u q
    · obtain ⟨k1, u, k2, k3⟩ := r.lg a l' q
      refine ⟨k1, ?_⟩
      by_cases z : a = p
      · subst z; exact ⟨o, upd_same, hnt⟩
      · exact ⟨u, by rw [upd_ne z]; exact k2, k3⟩
    · have z : a ≠ p := fun z => by subst z; rw [hl] at q; cases q; exact ne rfl
      exact h.mono (fun _ _ q => q) (fun _ _ => rfl) (Nat.le_refl _) fun u q => by rw [upd_ne z]; exact q
    · rw [upd_ne (fun z => by subst z; rw [hl] at ql; cases ql)]; exact q
  cases a with
  | new c => cases e
  | slot j =>
    obtain ⟨en, q1, q2⟩ := Option.bind_eq_some_iff.mp e
    cases en with
    | fz d => cases q2
    | xn x => cases q2
    | ow c0 =>
      cases q2
      have q := entAt_eq q1
      obtain ⟨p, h1, h2, h3, h4, h5⟩ := r.slot j _ q
      have hi : σ[j]? = some (some v) := i
      rw [hi] at h1; cases h1
      refine ⟨p, rfl, h5, fun o c' hc hk => ?_⟩
      obtain ⟨g1, g2, g3, g4, g5⟩ := gen p _ h3 (fun u hu => h5.nf hlk hu) o (hk.nt upd_same)
      refine ⟨⟨g1, g2, g3, ?_, fun m en hm => ?_, fun k cc hk' => ?_⟩, g5⟩
      · show σ.length = (s.env.set j _).length
        rw [List.length_set]; exact r.len
      · have hm1 : (s.env.set j (some (.ow c')))[m]? = some (some en) := hm
        by_cases z : j = m
        · subst z
          have hlt : j < s.env.length := (List.getElem?_eq_some_iff.mp q).1
          rw [List.getElem?_set_self hlt] at hm1
          cases hm1
          exact ⟨p, hi, h2, h3, hc h4, hk⟩
        · rw [List.getElem?_set_ne z] at hm1
          have hh := r.slot m en hm1
          cases en with
          | fz d => exact hh
          | xn x => exact xn_mono (S := S) (n := s.M.length) (H := H) (fun _ _ e => e) (fun _ _ => rfl) (Nat.le_refl _) rfl hh
          | ow c2 =>
            obtain ⟨a, k1, k2, k3, k4, k5⟩ := hh
            exact ⟨a, k1, k2, k3, k4, g4 k3 (fun w => by cases w; exact z rfl) k5⟩
      · obtain ⟨k1, k2⟩ := r.ids k cc hk'
        exact ⟨k1, g4 k1 (fun w => by cases w) k2⟩
  | val d =>
    cases d with
    | cid k =>
      have e1 : s.M[k]? = some c := e
      have i1 : Rp K S.G S.α s.M.length v (.cid k) := i
      cases i1
      obtain ⟨h3, h5⟩ := r.ids k c e1
      refine ⟨_, rfl, h5, fun o c' hc hk => ?_⟩
      obtain ⟨g1, g2, g3, g4, g5⟩ := gen _ _ h3 (fun u hu => h5.nf hlk hu) o (hk.nt upd_same)
      have hl : (s.M.set k c').length = s.M.length := List.length_set
      refine ⟨⟨g1, g2, g3, r.len, fun m en hm => ?_, fun k' cc hk' => ?_⟩, by show Stp S s.M.length H S (s.M.set k c').length _; rw [hl]; exact g5⟩
      · have hh := r.slot m en hm
        show EntOk K ct H0 S (s.M.set k c').length σ _ m en
        rw [hl]
        cases en with
        | fz d => exact hh
        | xn x => exact xn_mono (S := S) (n := s.M.length) (H := H) (fun _ _ e => e) (fun _ _ => rfl) (Nat.le_refl _) rfl hh
        | ow c2 =>
          obtain ⟨a, k1, k2, k3, k4, k5⟩ := hh
          exact ⟨a, k1, k2, k3, k4, g4 k3 (fun w => by cases w) k5⟩
      · have hk1 : (s.M.set k c')[k']? = some cc := hk'
        show S.lab (S.α k') = some (.id k') ∧ CnOk K ct S (s.M.set k c').length _ (S.α k') cc
        rw [hl]
        by_cases z : k = k'
        · subst z
          have hlt : k < s.M.length := (List.getElem?_eq_some_iff.mp e1).1
          rw [List.getElem?_set_self hlt] at hk1
          cases hk1
          exact ⟨h3, hk⟩
        · rw [List.getElem?_set_ne z] at hk1
          obtain ⟨k1, k2⟩ := r.ids k' cc hk1
          exact ⟨k1, g4 k1 (fun w => by cases w; exact z rfl) k2⟩
    | _ => cases e
/-- a method of a list: the receiver is read, then the values -/
def JM (K : PySem.W.Frag) (ct : Ct) (H0 : Hp) (r : V → List V → Hp → VK → Prop) (f : Stt → AI → List D → Ro AI) : Prop := ∀ W S s σ H Hs x a vs ds Q, Rel K ct H0 S s σ H → ItOk K ct Hs S s σ H x a → RpL K S.G S.α s.M.length vs ds → Pst K ct H0 (RI K ct) W S s σ H Q (f s a ds) → r x vs H Q
def mBM (f : Stt → AI → List D → Ro AI) (mo : Mo AI) (ma : Mo (List D)) : Mo AI := fun s => (mo s).bind fun a s1 => match viewL s1 a with
  | some _ => (ma s1).bind fun ds s2 => f s2 a ds
  | none => .no
theorem ei_bm {r : V → List V → Hp → VK → Prop} {f : Stt → AI → List D → Ro AI} {to : TE} {t : TA} {mo : Mo AI} {ma : Mo (List D)} (hr : JM K ct H0 r f) (ho : Ei K ct H0 W to mo) (ha : EvL K ct H0 W t ma) : Ei K ct H0 W (tBM K "list" r to t) (mBM f mo ma) := fun S s σ H Q rel p =>
  ho S s σ H _ rel (Pst.bind bI p fun S1 s1 H1 x a st1 rel1 i1 p1 => by
    split at p1
    · rename_i l e
      obtain ⟨q, vs, rfl, h1, _⟩ := viewL_ok rel1 i1 e
      exact ⟨.inl ⟨rfl, vs, h1⟩, ha S1 s1 σ H1 _ rel1 (Pst.bind bI p1 fun S2 s2 H2 vs ds st2 rel2 i2 p2 => hr W S2 s2 σ H2 _ _ a vs ds Q rel2 (i1.step st2) i2 p2)⟩
    · exact False.elim p1)
def fApp (s : Stt) (a : AI) (ds : List D) : Ro AI := match ds, getC s a with
  | [d], some (.lst l) => if l.length < sizeLine then .ok (.val .non) (setC s a (.lst (l ++ [d]))) else .no
  | _, _ => .no
theorem Pst.mut {a : AI} {c' : Cn} {Q : VK} {H' : Hp} (p : Pst K ct H0 (RI K ct) W S s σ H Q (.ok (.val .non) (setC s a c'))) (h : Rel K ct H0 S (setC s a c') σ H' ∧ Stp S s.M.length H S (setC s a c').M.length H') : Q .non H' := p S .non H' h.2 h.1 .non
theorem jm_app : JM K ct H0 rAppend fApp := fun W S s σ H Hs x a vs ds Q rel i r p => by
  unfold fApp at p
  split at p
  · rename_i d l e
    split at p
    · rename_i hz
      obtain ⟨q, rfl, ⟨us, h1, h2⟩, h3⟩ := mut_ok rel i e
      cases r with
      | cons r1 r2 =>
        cases r2
        exact ⟨q, us, _, rfl, rfl, h1, by rw [h2.length]; exact hz, p.mut (h3 _ (.lst (l ++ [d])) (fun _ => rfl) ⟨_, upd_same, h2.append (.cons r1 .nil)⟩)⟩
    · exact False.elim p
  · exact False.elim p
def PstS (K : PySem.W.Frag) (ct : Ct) (H0 : Hp) (W : WX) (S : Sh) (s : Stt) (H : Hp) (Dn : Ends) : Rs → Prop
  | .nx s' => ∀ S' σ' H', Stp S s.M.length H S' s'.M.length H' → Rel K ct H0 S' s' σ' H' → Dn.nx σ' H'
  | .bk s' => ∀ S' σ' H', Stp S s.M.length H S' s'.M.length H' → Rel K ct H0 S' s' σ' H' → Dn.bk σ' H'
  | .ct s' => ∀ S' σ' H', Stp S s.M.length H S' s'.M.length H' → Rel K ct H0 S' s' σ' H' → Dn.ct σ' H'
  | .rt a s' => ∀ S' σ' v H', Stp S s.M.length H S' s'.M.length H' → Rel K ct H0 S' s' σ' H' → ItOk K ct H0 S' s' [] H' v a → Dn.rt v H'
  | .er x s' => ∀ S' σ' H' dd, Stp S s.M.length H S' s'.M.length H' → Rel K ct H0 S' s' σ' H' → XOk K S' s'.M.length H' x dd → W (.ref (ct x.cls)) dd σ' H'
  | .no => False
def Sv (K : PySem.W.Frag) (ct : Ct) (H0 : Hp) (W : WX) (t : TS) (m : Ms) : Prop := ∀ S s σ H Dn, Rel K ct H0 S s σ H → PstS K ct H0 W S s H Dn (m s) → t Dn σ H
theorem PstS.from {S1 : Sh} {s1 : Stt} {H1 : Hp} {Dn : Ends} {r : Rs} (h : PstS K ct H0 W S s H Dn r) (t : Stp S s.M.length H S1 s1.M.length H1) : PstS K ct H0 W S1 s1 H1 Dn r := by
  cases r with
  | nx s' => exact fun S' σ' H' st rel => h S' σ' H' (t.trans st) rel
  | bk s' => exact fun S' σ' H' st rel => h S' σ' H' (t.trans st) rel
  | ct s' => exact fun S' σ' H' st rel => h S' σ' H' (t.trans st) rel
  | rt a s' => exact fun S' σ' v H' st rel => h S' σ' v H' (t.trans st) rel
  | er x s' => exact fun S' σ' H' dd st rel => h S' σ' H' dd (t.trans st) rel
  | no => exact h
/-- an expression's result goes on to a statement's -/
def Ro.toS {α : Type} (r : Ro α) (f : α → Ms) : Rs := match r with
  | .ok a s => f a s
  | .er x s => .er x s
  | .no => .no
theorem PstS.bind {β α : Type} {R : RR β α} {Dn : Ends} {Q1 : β → Hp → Prop} {r : Ro α} {f : α → Ms} (h : PstS K ct H0 W S s H Dn (r.toS f))
    (k : ∀ S1 s1 H1 x a, Stp S s.M.length H S1 s1.M.length H1 → Rel K ct H0 S1 s1 σ H1 → R H S1 s1 σ H1 x a → PstS K ct H0 W S s H Dn (f a s1) → Q1 x H1) : Pst K ct H0 R W S s σ H Q1 r := by
  cases r with
  | ok a s' => exact fun S' x H' st rel q => k S' s' H' x a st rel q h
  | er x s' => exact fun S' H' dd st rel q => h S' σ H' dd st rel q
  | no => exact h
def mSeq (m1 m2 : Ms) : Ms := fun s => match m1 s with
  | .nx s1 => m2 s1
  | r => r
theorem sv_seq {t u : TS} {m1 m2 : Ms} (h1 : Sv K ct H0 W t m1) (h2 : Sv K ct H0 W u m2) : Sv K ct H0 W (tSeq t u) (mSeq m1 m2) := fun S s σ H Dn rel p => h1 S s σ H _ rel (by
  unfold mSeq at p
  cases q : m1 s with
  | nx s1 => rw [q] at p; exact fun S1 σ1 H1 st rel1 => h2 S1 s1 σ1 H1 Dn rel1 (PstS.from p st)
  | bk s1 => rw [q] at p; exact p
  | ct s1 => rw [q] at p; exact p
  | rt a s1 => rw [q] at p; exact p
  | er x s1 => rw [q] at p; exact p
  | no => rw [q] at p; exact p)
def mNext : Ms := fun s => .nx s
theorem sv_next : Sv K ct H0 W tNext mNext := fun S s σ H Dn rel p => p S σ H .refl rel
def mDrop (m : Mo AI) : Ms := fun s => (m s).toS fun _ s1 => .nx s1
theorem sv_drop {te : TE} {m : Mo AI} (h : Ei K ct H0 W te m) : Sv K ct H0 W (tDrop te) (mDrop m) := fun S s σ H Dn rel p => h S s σ H _ rel (PstS.bind p fun S1 s1 H1 x a st1 rel1 i1 p1 => p1 S1 σ H1 st1 rel1)
def mIfS (c : Mo Bool) (m1 m2 : Ms) : Ms := fun s => (c s).toS fun b s1 => if b = true then m1 s1 else m2 s1
theorem sv_if {c : TT} {t u : TS} {mc : Mo Bool} {m1 m2 : Ms} (hc : Et K ct H0 W c mc) (h1 : Sv K ct H0 W t m1) (h2 : Sv K ct H0 W u m2) : Sv K ct H0 W (tIfS c t u) (mIfS mc m1 m2) := fun S s σ H Dn rel p =>
  hc S s σ H _ rel (PstS.bind p fun S1 s1 H1 x a st1 rel1 i1 p1 => by
    cases (show x = a from i1)
    cases x with
    | true => rw [if_pos rfl] at p1 ⊢; exact h1 S1 s1 σ H1 Dn rel1 (PstS.from p1 st1)
    | false => rw [if_neg Bool.false_ne_true] at p1 ⊢; exact h2 S1 s1 σ H1 Dn rel1 (PstS.from p1 st1))
def Sh.un (S : Sh) (i : Nat) : Sh := ⟨S.G, S.α, fun a => if S.lab a = some (.slot i) then none else S.lab a⟩
theorem un_lab {i : Nat} {a : Addr} {l : Lab} (h : S.lab a = some l) (ne : l ≠ .slot i) : (S.un i).lab a = some l := by
  show (if S.lab a = some (.slot i) then none else S.lab a) = _
  rw [if_neg (fun z => by rw [h] at z; cases z; exact ne rfl)]; exact h
theorem un_of {i : Nat} {a : Addr} {l : Lab} (h : (S.un i).lab a = some l) : S.lab a = some l := by
  have h1 : (if S.lab a = some (.slot i) then none else S.lab a) = some l := h
  split at h1
  · cases h1
  · exact h1
theorem Stp.un {n : Nat} {i : Nat} : Stp S n H (S.un i) n H := ⟨fun _ _ e => e, Nat.le_refl _, fun _ _ => rfl, fun a o h l => ⟨h, by
  show (if S.lab a = some (.slot i) then none else S.lab a) = none
  split
  · rfl
  · exact l⟩, fun _ _ e => .inl e, fun _ h => h, fun _ _ _ h => h⟩
theorem cn_un {n i : Nat} {p : Addr} {c : Cn} (h : CnOk K ct S n H p c) : CnOk K ct (S.un i) n H p c := h.mono (fun _ _ e => e) (fun _ _ => rfl) (Nat.le_refl _) (fun _ e => e)
/-- slot i is given another value -/
theorem Rel.setFz {i : Nat} {v : V} {d : D} (r : Rel K ct H0 S s σ H) (h : Rp K S.G S.α s.M.length v d) : Rel K ct H0 (S.un i) ⟨s.env.set i (some (.fz d)), s.M⟩ (σ.set i (some v)) H := by
  refine ⟨r.sub, fun a l q => r.lg a l (un_of q), r.dom, by rw [List.length_set]; show _ = (s.env.set i _).length; rw [List.length_set]; exact r.len, fun j en q => ?_, fun k c q => ?_⟩
  · have q1 : (s.env.set i (some (.fz d)))[j]? = some (some en) := q
    by_cases z : i = j
    · subst z
      have hlt : i < s.env.length := by
        have := (List.getElem?_eq_some_iff.mp q1).1
        rw [List.length_set] at this; exact this
      rw [List.getElem?_set_self hlt] at q1
      cases q1
      exact ⟨v, List.getElem?_set_self (by rw [r.len]; exact hlt), h⟩
    · rw [List.getElem?_set_ne z] at q1
      have hh := r.slot j en q1
      cases en with
      | fz d' => obtain ⟨w, k1, k2⟩ := hh; exact ⟨w, by rw [List.getElem?_set_ne z]; exact k1, k2⟩
      | xn x => exact xn_mono (S := S) (n := s.M.length) (H := H) (fun _ _ e => e) (fun _ _ => rfl) (Nat.le_refl _) (List.getElem?_set_ne z) hh
      | ow c =>
        obtain ⟨p, k1, k2, k3, k4, k5⟩ := hh
        exact ⟨p, by rw [List.getElem?_set_ne z]; exact k1, k2, un_lab k3 (fun w => by cases w; exact z rfl), k4, cn_un k5⟩
  · obtain ⟨k1, k2⟩ := r.ids k c q
    exact ⟨un_lab k1 (fun w => by cases w), cn_un k2⟩
theorem Rel.setN {i : Nat} (r : Rel K ct H0 S s σ H) : Rel K ct H0 (S.un i) ⟨s.env.set i none, s.M⟩ σ H := by
  refine ⟨r.sub, fun a l q => r.lg a l (un_of q), r.dom, by show _ = (s.env.set i _).length; rw [List.length_set]; exact r.len, fun j en q => ?_, fun k c q => ?_⟩
  · have q1 : (s.env.set i none)[j]? = some (some en) := q
    by_cases z : i = j
    · subst z
      have hlt : i < s.env.length := by
        have := (List.getElem?_eq_some_iff.mp q1).1
        rw [List.length_set] at this; exact this
      rw [List.getElem?_set_self hlt] at q1
      cases q1
    · rw [List.getElem?_set_ne z] at q1
      have hh := r.slot j en q1
      cases en with
      | fz d' => exact hh
      | xn x => exact xn_mono (S := S) (n := s.M.length) (H := H) (fun _ _ e => e) (fun _ _ => rfl) (Nat.le_refl _) rfl hh
      | ow c =>
        obtain ⟨p, k1, k2, k3, k4, k5⟩ := hh
        exact ⟨p, k1, k2, un_lab k3 (fun w => by cases w; exact z rfl), k4, cn_un k5⟩
  · obtain ⟨k1, k2⟩ := r.ids k c q
    exact ⟨un_lab k1 (fun w => by cases w), cn_un k2⟩
def Sh.cl (S : Sh) (i : Nat) (p : Addr) : Sh := ⟨S.G, S.α, fun a => if a = p then some (.slot i) else if S.lab a = some (.slot i) then none else S.lab a⟩
theorem Rel.setOw {i : Nat} {p : Addr} {c : Cn} (r : Rel K ct H0 S s σ H) (h0 : H0 p = none) (hl : S.lab p = none) (hg : S.G p = none) (hc : c.isC = true) (h : CnOk K ct S s.M.length H p c) : Rel K ct H0 (S.cl i p) ⟨s.env.set i (some (.ow c)), s.M⟩ (σ.set i (some (.ref p))) H := by
  have lb : ∀ {a : Addr} {l : Lab}, S.lab a = some l → l ≠ .slot i → (S.cl i p).lab a = some l := fun {a l} hh ne => by
    show (if a = p then _ else if S.lab a = some (.slot i) then none else S.lab a) = _
    rw [if_neg (fun z => by subst z; rw [hl] at hh; cases hh), if_neg (fun z => by rw [hh] at z; cases z; exact ne rfl)]; exact hh
  have cn : ∀ {a : Addr} {c : Cn}, CnOk K ct S s.M.length H a c → CnOk K ct (S.cl i p) s.M.length H a c := fun {a c} h => h.mono (fun _ _ e => e) (fun _ _ => rfl) (Nat.le_refl _) (fun _ e => e)
  refine ⟨r.sub, fun a l q => ?_, r.dom, by rw [List.length_set]; show _ = (s.env.set i _).length; rw [List.length_set]; exact r.len, fun j en q => ?_, fun k c' q => ?_⟩
  · have q1 : (if a = p then some (Lab.slot i) else if S.lab a = some (.slot i) then none else S.lab a) = some l := q
    by_cases z : a = p
    · subst z; exact ⟨hg, by obtain ⟨u, hu⟩ := h.some; exact ⟨u, hu, h.nt hu⟩⟩
    · rw [if_neg z] at q1
      split at q1
      · cases q1
      · exact r.lg a l q1
  · have q1 : (s.env.set i (some (.ow c)))[j]? = some (some en) := q
    by_cases z : i = j
    · subst z
      have hlt : i < s.env.length := by
        have := (List.getElem?_eq_some_iff.mp q1).1
        rw [List.length_set] at this; exact this
      rw [List.getElem?_set_self hlt] at q1
      cases q1
      exact ⟨p, List.getElem?_set_self (by rw [r.len]; exact hlt), h0, if_pos rfl, hc, cn h⟩
    · rw [List.getElem?_set_ne z] at q1
      have hh := r.slot j en q1
      cases en with
      | fz d' => obtain ⟨w, k1, k2⟩ := hh; exact ⟨w, by rw [List.getElem?_set_ne z]; exact k1, k2⟩
      | xn x => exact xn_mono (S := S) (n := s.M.length) (H := H) (fun _ _ e => e) (fun _ _ => rfl) (Nat.le_refl _) (List.getElem?_set_ne z) hh
      | ow c' =>
        obtain ⟨a, k1, k2, k3, k4, k5⟩ := hh
        exact ⟨a, by rw [List.getElem?_set_ne z]; exact k1, k2, lb k3 (fun w => by cases w; exact z rfl), k4, cn k5⟩
  · obtain ⟨k1, k2⟩ := r.ids k c' q
    exact ⟨lb k1 (fun w => by cases w), cn k2⟩
theorem Stp.claim {S' : Sh} {n n' i : Nat} {H' : Hp} {p : Addr} (t : Stp S n H S' n' H') (hp : H p = none) : Stp S n H (S'.cl i p) n' H' where
  g := t.g
  le := t.le
  al := t.al
  fr := fun a o h l => by
    obtain ⟨h1, h2⟩ := t.fr a o h l
    refine ⟨h1, ?_⟩
    show (if a = p then _ else if S'.lab a = some (.slot i) then none else S'.lab a) = none
    rw [if_neg (ne_of_none h hp)]
    split
    · rfl
    · exact h2
  gn := t.gn
  fz := t.fz
  dom := t.dom
def asg (i : Nat) (a : AI) : Ms := fun s => match a with
  | .val d => .nx ⟨s.env.set i (some (.fz d)), s.M⟩
  | .new c => .nx ⟨s.env.set i (some (.ow c)), s.M⟩
  | .slot j => (toV (.slot j) s).toS fun d s1 => .nx ⟨s1.env.set i (some (.fz d)), s1.M⟩
def mAsg (i : Nat) (m : Mo AI) : Ms := fun s => (m s).toS (asg i)
theorem sv_asg {i : Nat} {te : TE} {m : Mo AI} (h : Ei K ct H0 W te m) : Sv K ct H0 W (tAsg te (gName i)) (mAsg i m) := fun S s σ H Dn rel p =>
  h S s σ H _ rel (PstS.bind p fun S1 s1 H1 x a st1 rel1 i1 p1 => by
    show Dn.nx (σ.set i (some x)) H1
    cases a with
    | val d => exact p1 (S1.un i) _ H1 (st1.trans .un) (rel1.setFz i1)
    | new c =>
      obtain ⟨q, rfl, h1, h2, h3, h4, h5⟩ := i1
      exact p1 (S1.cl i q) _ H1 (st1.claim h1) (rel1.setOw (rel.dom q h1) h2 h3 h4 h5)
    | slot j =>
      have hi : σ[j]? = some (some x) := i1
      have p1 : PstS K ct H0 W S s H Dn ((match entAt s1 j with | some (.ow c) => Ro.ok c.toD ⟨s1.env.set j (some (.fz c.toD)), s1.M⟩ | some (.fz d) => Ro.ok d s1 | _ => Ro.no).toS fun d s1 => .nx ⟨s1.env.set i (some (.fz d)), s1.M⟩) := p1
      cases qe : entAt s1 j with
      | none => rw [qe] at p1; exact False.elim p1
      | some en =>
        rw [qe] at p1
        cases en with
        | fz d =>
          obtain ⟨v', k1, k2⟩ := rel1.slot j _ (entAt_eq qe)
          rw [hi] at k1; cases k1
          exact p1 (S1.un i) _ H1 (st1.trans .un) (rel1.setFz k2)
        | xn x => exact False.elim p1
        | ow c =>
          obtain ⟨S2, v', k1, st2, rel2, k2⟩ := frz_slot rel1 (entAt_eq qe)
          rw [hi] at k1; cases k1
          exact p1 (S2.un i) _ H1 ((st1.trans st2).trans .un) (rel2.setFz k2))
def ret (a : AI) : Ms := fun s => match a with
  | .val d => .rt (.val d) s
  | .new c => .rt (.new c) s
  | .slot i => match entAt s i with
    | some (.ow c) => .rt (.new c) ⟨s.env.set i none, s.M⟩
    | some (.fz d) => .rt (.val d) s
    | _ => .no
def mRet (m : Mo AI) : Ms := fun s => (m s).toS ret
theorem sv_ret {te : TE} {m : Mo AI} (h : Ei K ct H0 W te m) : Sv K ct H0 W (tRet te) (mRet m) := fun S s σ H Dn rel p =>
  h S s σ H _ rel (PstS.bind p fun S1 s1 H1 x a st1 rel1 i1 p1 => by
    cases a with
    | val d => exact p1 S1 σ x H1 st1 rel1 i1
    | new c =>
      obtain ⟨q, rfl, h1, h2, h3, h4, h5⟩ := i1
      exact p1 S1 σ _ H1 st1 rel1 ⟨q, rfl, rel.dom q h1, h2, h3, h4, h5⟩
    | slot j =>
      have hi : σ[j]? = some (some x) := i1
      have p1 : PstS K ct H0 W S s H Dn (match entAt s1 j with | some (.ow c) => .rt (.new c) ⟨s1.env.set j none, s1.M⟩ | some (.fz d) => .rt (.val d) s1 | _ => .no) := p1
      cases qe : entAt s1 j with
      | none => rw [qe] at p1; exact False.elim p1
      | some en =>
        rw [qe] at p1
        cases en with
        | fz d =>
          obtain ⟨v', k1, k2⟩ := rel1.slot j _ (entAt_eq qe)
          rw [hi] at k1; cases k1
          exact p1 S1 σ x H1 st1 rel1 k2
        | xn x => exact False.elim p1
        | ow c =>
          obtain ⟨q, k1, k2, k3, k4, k5⟩ := rel1.slot j _ (entAt_eq qe)
          rw [hi] at k1; cases k1
          refine p1 (S1.un j) σ _ H1 (st1.trans .un) rel1.setN ⟨q, rfl, k2, ?_, (rel1.lg q _ k3).1, k4, cn_un k5⟩
          show (if S1.lab q = some (.slot j) then none else S1.lab q) = none
          rw [if_pos k3])
def mRetN : Ms := fun s => .rt (.val .non) s
end
end Y
namespace Y
open PySem L2 Z
abbrev Tg := D → Stt → Option Stt
abbrev Tgs := List D → Stt → Option Stt
/-- what of the slots is left when some are wiped -/
def Keeps (js : List Nat) (σ σ' : St) : Prop := ∀ ws : List Nat, (∀ j ∈ js, j ∈ ws) → wipe σ' ws = wipe σ ws
theorem wipe_in {σ : St} {i : Nat} : ∀ {vs : List Nat}, i ∈ vs → i < σ.length → (wipe σ vs)[i]? = some none
  | v :: vs, h, hl => by
    show ((wipe σ vs).set v none)[i]? = _
    by_cases e : v = i
    · subst e; rw [List.getElem?_set_self (by rw [wipe_length]; exact hl)]
    · rw [List.getElem?_set_ne e]
      rcases List.mem_cons.mp h with z | z
      · exact absurd z.symm e
      · exact wipe_in z hl
theorem keeps_set {σ : St} {i : Nat} {x : Option V} : Keeps [i] σ (σ.set i x) := fun ws h => by
  refine List.ext_getElem? fun k => ?_
  by_cases hk : k ∈ ws
  · by_cases hl : k < σ.length
    · rw [wipe_in hk (by rw [List.length_set]; exact hl), wipe_in hk hl]
    · rw [List.getElem?_eq_none_iff.mpr (by rw [wipe_length, List.length_set]; omega), List.getElem?_eq_none_iff.mpr (by rw [wipe_length]; omega)]
  · rw [wipe_out hk, wipe_out hk]
    have : i ≠ k := fun z => hk (z ▸ h i (by simp))
    rw [List.getElem?_set_ne this]
theorem keeps_refl {σ : St} {js : List Nat} : Keeps js σ σ := fun _ _ => rfl
theorem Keeps.trans {σ σ1 σ2 : St} {js ks : List Nat} (a : Keeps js σ σ1) (b : Keeps ks σ1 σ2) : Keeps (js ++ ks) σ σ2 := fun ws h => (b ws fun j hj => h j (by simp [hj])).trans (a ws fun j hj => h j (by simp [hj]))
section
variable {K : PySem.W.Frag} {ct : Ct} {H0 : Hp} {W : WX} {S : Sh} {s : Stt} {σ : St} {H : Hp}
def Sg (K : PySem.W.Frag) (ct : Ct) (H0 : Hp) (js : List Nat) (g : TG) (f : Tg) : Prop := ∀ S s σ H v d s' (Q : St → Hp → Prop), Rel K ct H0 S s σ H → Rp K S.G S.α s.M.length v d → f d s = some s' →
  (∀ S' σ', Stp S s.M.length H S' s'.M.length H → Rel K ct H0 S' s' σ' H → Keeps js σ σ' → S'.G = S.G → S'.α = S.α → Q σ' H) → g v σ H Q
def Sgs (K : PySem.W.Frag) (ct : Ct) (H0 : Hp) (js : List Nat) (g : TGs) (f : Tgs) : Prop := ∀ S s σ H vs ds s' (Q : St → Hp → Prop), Rel K ct H0 S s σ H → RpL K S.G S.α s.M.length vs ds → f ds s = some s' →
  (∀ S' σ', Stp S s.M.length H S' s'.M.length H → Rel K ct H0 S' s' σ' H → Keeps js σ σ' → S'.G = S.G → S'.α = S.α → Q σ' H) → g vs σ H Q
def tgN (i : Nat) : Tg := fun d s => some ⟨s.env.set i (some (.fz d)), s.M⟩
theorem sg_name {i : Nat} : Sg K ct H0 [i] (gName i) (tgN i) := fun S s σ H v d s' Q rel r e q => by
  cases e
  exact q (S.un i) _ .un (rel.setFz r) keeps_set rfl rfl
def tgNil : Tgs := fun ds s => match ds with
  | [] => some s
  | _ => none
def tgCons (f : Tg) (r : Tgs) : Tgs := fun ds s => match ds with
  | [] => none
  | d :: ds => (f d s).bind fun s1 => r ds s1
def tgT (n : Nat) (f : Tgs) : Tg := fun d s => match tupOf d with
  | some l => if l.length = n then f l s else none
  | none => none
theorem sgs_nil : Sgs K ct H0 [] gNil tgNil := fun S s σ H vs ds s' Q rel r e q => by
  cases r with
  | nil => cases e; exact ⟨rfl, q S σ .refl rel keeps_refl rfl rfl⟩
  | cons a b => cases e
theorem sgs_cons {js ks : List Nat} {g : TG} {gs : TGs} {f : Tg} {r : Tgs} (h1 : Sg K ct H0 js g f) (h2 : Sgs K ct H0 ks gs r) : Sgs K ct H0 (js ++ ks) (gCons g gs) (tgCons f r) := fun S s σ H vs ds s' Q rel rr e q => by
  cases rr with
  | nil => cases e
  | cons a b =>
    obtain ⟨s1, e1, e2⟩ := Option.bind_eq_some_iff.mp e
    refine ⟨_, _, rfl, h1 S s σ H _ _ s1 _ rel a e1 fun S1 σ1 st1 rel1 k1 g1 a1 => ?_⟩
    exact h2 S1 s1 σ1 H _ _ s' _ rel1 (b.step st1) e2 fun S2 σ2 st2 rel2 k2 g2 a2 => q S2 σ2 (st1.trans st2) rel2 (k1.trans k2) (g2.trans g1) (a2.trans a1)
theorem sg_tup {js : List Nat} {n : Nat} {gs : TGs} {f : Tgs} (h : Sgs K ct H0 js gs f) : Sg K ct H0 js (gTup K n gs) (tgT n f) := fun S s σ H v d s' Q rel r e q => by
  unfold tgT at e
  split at e
  · rename_i l el
    split at e
    · rename_i hl
      obtain ⟨p, vs, rfl, k1, k2⟩ := viewT_ok (Hs := H) (a := .val d) (v := v) rel r (by unfold viewT look; exact el)
      exact ⟨p, vs, rfl, k1, by rw [k2.length]; exact hl, h S s σ H vs l s' Q rel k2 e q⟩
    · cases e
  · cases e
def mAsgT (g : Tg) (m : Mo AI) : Ms := fun s => (mV m s).toS fun d s1 => match g d s1 with
  | some s2 => .nx s2
  | none => .no
structure Im where
  xs : List D
  ck : Option (Nat × Cn)
def chk : Option (Nat × Cn) → Stt → Prop
  | none, _ => True
  | some (k, c), s => s.M[k]? = some c
def Wk (K : PySem.W.Frag) (ct : Ct) (H0 : Hp) (S : Sh) (n : Nat) (H : Hp) (J : It) (im : Im) : Prop := ∀ S1 s1 σ1 H1, Stp S n H S1 s1.M.length H1 → Rel K ct H0 S1 s1 σ1 H1 → chk im.ck s1 →
  (∀ i d, im.xs[i]? = some d → J.go i H1 ∧ ∀ x H2, J.yld i H1 x H2 → ∃ S2, Stp S1 s1.M.length H1 S2 s1.M.length H2 ∧ Rel K ct H0 S2 s1 σ1 H2 ∧ Rp K S2.G S2.α s1.M.length x d) ∧ J.stop im.xs.length H1
def RW (K : PySem.W.Frag) (ct : Ct) (H0 : Hp) : RR It Im := fun _ S s _ H J im => Wk K ct H0 S s.M.length H J im
abbrev Jw (K : PySem.W.Frag) (ct : Ct) (H0 : Hp) (W : WX) (wi : TI) (m : Mo Im) : Prop := Jd K ct H0 (RW K ct H0) W wi m
theorem bW : Bck (RW K ct H0) := fun _ _ _ _ _ _ _ _ _ h => h
def rng (lo : Int) (n : Nat) : List D := (List.range n).map fun i => .int (lo + (i : Nat))
theorem wk_range {lo : Int} {n m : Nat} : Wk K ct H0 S m H (Itr lo n) ⟨rng lo n, none⟩ := fun S1 s1 σ1 H1 st rel _ => by
  refine ⟨fun i d e => ?_, ?_⟩
  · unfold rng at e
    rw [List.getElem?_map] at e
    obtain ⟨j, e1, rfl⟩ := Option.map_eq_some_iff.mp e
    have hj := (List.getElem?_eq_some_iff.mp e1)
    obtain ⟨hlt, ej⟩ := hj
    rw [List.getElem_range] at ej
    rw [List.length_range] at hlt
    subst ej
    refine ⟨hlt, fun x H2 h => ?_⟩
    obtain ⟨rfl, rfl⟩ := h
    exact ⟨S1, .refl, rel, .int _⟩
  · show n ≤ (rng lo n).length
    unfold rng; rw [List.length_map, List.length_range]; exact Nat.le_refl _
/-- the bounds of a range; decided classically, or whnf runs 2 ^ 62 in unary -/
def CRg1 (n : Int) : Prop := -(2 ^ 62) ≤ n ∧ n < 2 ^ 62
def CRg2 (i j : Int) : Prop := -(2 ^ 62) ≤ i ∧ i < 2 ^ 62 ∧ -(2 ^ 62) ≤ j ∧ j < 2 ^ 62
open Classical in
noncomputable def mRng1 (m : Mo (List AI)) : Mo Im := fun s => (m s).bind fun as s1 => match as with
  | [.val (.int n)] => if CRg1 n then .ok ⟨rng 0 n.toNat, none⟩ s1 else .no
  | _ => .no
theorem jw_rng1 {ta : TA} {m : Mo (List AI)} (h : EaL K ct H0 W ta m) : Jw K ct H0 W (iRng1 ta) (mRng1 m) := fun S s σ H Q rel p =>
  h S s σ H _ rel (Pst.bind bW p fun S1 s1 H1 x a st1 rel1 i1 p1 => by
    split at p1
    · rename_i n
      obtain ⟨v, rfl, k⟩ := as1 i1
      cases rp_int k
      split at p1
      · rename_i hz
        exact ⟨n, rfl, hz.1, hz.2, p1 S1 _ H1 .refl rel1 wk_range⟩
      · exact False.elim p1
    · exact False.elim p1)
open Classical in
noncomputable def mRng2 (m : Mo (List AI)) : Mo Im := fun s => (m s).bind fun as s1 => match as with
  | [.val (.int i), .val (.int j)] => if CRg2 i j then .ok ⟨rng i (j - i).toNat, none⟩ s1 else .no
  | _ => .no
def rngC (lo c : Int) (n : Nat) : List D := (List.range n).map fun i => .int (lo + ((i : Nat) : Int) * c)
open Classical in
noncomputable def mRng3 (m : Mo (List AI)) : Mo Im := fun s => (m s).bind fun as s1 => match as with
  | [.val (.int i), .val (.int j), .val (.int c)] => if RgC i j c (Builtin.Range.rangeSize i j c).toNat then .ok ⟨rngC i c (Builtin.Range.rangeSize i j c).toNat, none⟩ s1 else .no
  | _ => .no
/-- a list's value, walked -/
def ckOf : D → List D → Option (Nat × Cn)
  | .cid k, l => some (k, .lst l)
  | _, _ => none
theorem list_at {v : V} {d : D} {l : List D} {n : Nat} (rel : Rel K ct H0 S s σ H) (r : Rp K S.G S.α s.M.length v d) (e : listOf s.M d = some l) : ∃ p, v = .ref p ∧ ∀ S1 s1 σ1 H1, Stp S s.M.length H S1 s1.M.length H1 → Rel K ct H0 S1 s1 σ1 H1 → chk (ckOf d l) s1 →
    ∃ vs, SqL K H1 p vs ∧ RpL K S1.G S1.α s1.M.length vs l := by
  cases d with
  | lst l' => cases e; cases r with | lst h1 h2 => exact ⟨_, rfl, fun S1 s1 σ1 H1 st rel1 _ => ⟨_, .of (uL' (rel1.sub _ _ (st.g _ _ h1))), h2.step st⟩⟩
  | clst l' => cases e; cases r with | clst h1 h2 => exact ⟨_, rfl, fun S1 s1 σ1 H1 st rel1 _ => ⟨_, uSqL (rel1.sub.seq (st.g.seq h1)), h2.step st⟩⟩
  | cid k =>
    cases r with
    | cid hk =>
      refine ⟨_, rfl, fun S1 s1 σ1 H1 st rel1 c => ?_⟩
      have c1 : s1.M[k]? = some (.lst l) := c
      obtain ⟨vs, h1, h2⟩ := (rel1.ids k _ c1).2
      rw [st.al k hk] at h1
      exact ⟨vs, .of h1, h2⟩
  | _ => cases e
def mWL (m : Mo AI) : Mo Im := fun s => (mV m s).bind fun d s1 => match listOf s1.M d with
  | some l => .ok ⟨l, ckOf d l⟩ s1
  | none => .no
theorem jw_list {te : TE} {m : Mo AI} (h : Ei K ct H0 W te m) : Jw K ct H0 W (iList K te) (mWL m) := fun S s σ H Q rel p =>
  ev_of h S s σ H _ rel (Pst.bind bW p fun S1 s1 H1 x a st1 rel1 i1 p1 => by
    split at p1
    · rename_i l e
      have i1' : Rp K S1.G S1.α s1.M.length x a := i1
      have hv : viewL s1 (.val a) = some l := e
      obtain ⟨q0, vs0, e0, k1, _⟩ := viewL_ok (Hs := H) (a := .val a) rel1 i1' hv
      obtain ⟨q, rfl, k⟩ := list_at (n := 0) rel1 i1' e
      have e1 : q0 = q := by injection e0 with h; exact h.symm
      rw [e1] at k1
      refine ⟨q, rfl, ⟨vs0, k1⟩, p1 S1 _ H1 .refl rel1 fun S2 s2 σ2 H2 st2 rel2 c => ?_⟩
      obtain ⟨vs, h1, h2⟩ := k S2 s2 σ2 H2 st2 rel2 c
      refine ⟨fun i d e => ?_, ⟨vs, h1, by rw [h2.length]; exact Nat.le_refl _⟩⟩
      obtain ⟨v, e1, e2⟩ := h2.get e
      refine ⟨⟨vs, v, h1, e1⟩, fun x H3 hy => ?_⟩
      obtain ⟨rfl, hy⟩ := hy
      have := hy vs h1
      rw [e1] at this; cases this
      exact ⟨S2, .refl, rel2, e2⟩
    · exact False.elim p1)
def mWT (m : Mo AI) : Mo Im := fun s => (mV m s).bind fun d s1 => match tupOf d with
  | some l => .ok ⟨l, none⟩ s1
  | none => .no
def enumL (l : List D) : List D := l.zipIdx.map fun p => .tup [.int ((p.2 : Nat) : Int), p.1]
def mWE (m : Mo (List D)) : Mo Im := fun s => (m s).bind fun ds s1 => match ds with
  | [d] => match listOf s1.M d with
    | some l => .ok ⟨enumL l, ckOf d l⟩ s1
    | none => .no
  | _ => .no
/-- a pair made by an iterator -/
theorem new_tup {vs : List V} {l : List D} {q : Addr} (rel : Rel K ct H0 S s σ H) (hp : H q = none) (h : RpL K S.G S.α s.M.length vs l) : ∃ S2, Stp S s.M.length H S2 s.M.length (upd H q (.tup vs)) ∧ Rel K ct H0 S2 s σ (upd H q (.tup vs)) ∧ Rp K S2.G S2.α s.M.length (.ref q) (.tup l) := by
  have hg := rel.gN hp
  refine ⟨S.frz q (.tup vs), (Stp.new rel hp).frzNew hp hg, (rel.new hp).frz (uP upd_same) (rel.labN hp) hg, ?_⟩
  exact .tup upd_same (h.mono (fun a u e => by show upd S.G q _ a = _; rw [upd_ne (ne_of_none e hg)]; exact e) (fun _ _ => rfl) (Nat.le_refl _))
theorem jw_enum {ta : TA} {m : Mo (List D)} (h : EvL K ct H0 W ta m) : Jw K ct H0 W (iEnum K ta) (mWE m) := fun S s σ H Q rel p =>
  h S s σ H _ rel (Pst.bind bW p fun S1 s1 H1 x a st1 rel1 i1 p1 => by
    split at p1
    · rename_i d
      split at p1
      · rename_i l e
        cases i1 with
        | cons i1' r =>
          cases r
          have hv : viewL s1 (.val d) = some l := e
          obtain ⟨q0, vs0, e0, k1, _⟩ := viewL_ok (Hs := H) (a := .val d) rel1 i1' hv
          obtain ⟨q, rfl, k⟩ := list_at (n := 0) rel1 i1' e
          have e1 : q0 = q := by injection e0 with h; exact h.symm
          rw [e1] at k1
          refine ⟨q, vs0, rfl, k1, p1 S1 _ H1 .refl rel1 fun S2 s2 σ2 H2 st2 rel2 c => ?_⟩
          obtain ⟨vs, h1, h2⟩ := k S2 s2 σ2 H2 st2 rel2 c
          refine ⟨fun i d e => ?_, ⟨vs, h1, by rw [h2.length]; show _ ≤ (enumL l).length; unfold enumL; rw [List.length_map, List.length_zipIdx]; exact Nat.le_refl _⟩⟩
          have e' : ((l.zipIdx).map fun p => D.tup [.int ((p.2 : Nat) : Int), p.1])[i]? = some d := e
          rw [List.getElem?_map, List.getElem?_zipIdx] at e'
          obtain ⟨pr, e2, rfl⟩ := Option.map_eq_some_iff.mp e'
          obtain ⟨y, e3, rfl⟩ := Option.map_eq_some_iff.mp e2
          obtain ⟨v, e4, e5⟩ := h2.get e3
          refine ⟨⟨vs, v, h1, e4⟩, fun x H3 hy => ?_⟩
          obtain ⟨T, x0, rfl, hT, rfl, hx⟩ := hy
          have := hx vs h1
          rw [e4] at this; cases this
          rw [Nat.zero_add]
          exact new_tup rel2 hT (.cons (.int _) (.cons e5 .nil))
      · exact False.elim p1
    · exact False.elim p1)
def zipL (l l' : List D) : List D := (l.zip l').map fun p => .tup [p.1, p.2]
/-- only what is frozen is walked two by two -/
def mWZ (m : Mo (List D)) : Mo Im := fun s => (m s).bind fun ds s1 => match ds with
  | [.lst l, .lst l'] => .ok ⟨zipL l l', none⟩ s1
  | [.lst l, .clst l'] => .ok ⟨zipL l l', none⟩ s1
  | [.clst l, .lst l'] => .ok ⟨zipL l l', none⟩ s1
  | _ => .no
def strL (x : Str) : List D := x.cps.toList.map fun c => .str ⟨#[c]⟩
def mWS (m : Mo AI) : Mo Im := fun s => (m s).bind fun a s1 => match a with
  | .val (.str x) => .ok ⟨strL x, none⟩ s1
  | _ => .no
open Classical in
noncomputable def forN (g : Tg) (b : Ms) (ck : Option (Nat × Cn)) : List D → Ms
  | [], s => if chk ck s then .nx s else .no
  | x :: xs, s => if chk ck s then (match g x s with
    | none => .no
    | some s1 => match b s1 with
      | .nx s2 => forN g b ck xs s2
      | .ct s2 => forN g b ck xs s2
      | .bk s2 => .nx s2
      | .rt a s2 => .rt a s2
      | .er x s2 => .er x s2
      | .no => .no) else .no
noncomputable def mFor (mi : Mo Im) (g : Tg) (b : Ms) : Ms := fun s => (mi s).toS fun im s1 => forN g b im.ck im.xs s1
theorem sv_for {js : List Nat} {wi : TI} {g : TG} {tb : TS} {mi : Mo Im} {f : Tg} {b : Ms} (hi : Jw K ct H0 W wi mi) (hg : Sg K ct H0 js g f) (hb : Sv K ct H0 W tb b) : Sv K ct H0 W (tFor wi g tb) (mFor mi f b) := fun S s σ H Dn rel p =>
  hi S s σ H _ rel (PstS.bind p fun S1 s1 H1 J im st1 rel1 wk p1 => by
    have p1 := PstS.from p1 st1
    generalize hR : forN f b im.ck im.xs s1 = R at p1
    refine ⟨fun i m σ' H' => m = im.xs.length - i ∧ ∃ S' s', Stp S1 s1.M.length H1 S' s'.M.length H' ∧ Rel K ct H0 S' s' σ' H' ∧ i ≤ im.xs.length ∧ forN f b im.ck (im.xs.drop i) s' = R, ⟨im.xs.length, rfl, S1, s1, .refl, rel1, Nat.zero_le _, hR⟩, ?_⟩
    rintro i m σ' H' ⟨rfl, S', s', st', rel', hi', hr⟩
    have nno : R ≠ .no := fun z => by rw [z] at p1; exact p1
    by_cases hlt : i < im.xs.length
    · have e := List.drop_eq_getElem_cons hlt
      rw [e] at hr
      have hx : im.xs[i]? = some im.xs[i] := List.getElem?_eq_getElem hlt
      generalize im.xs[i] = d at e hr hx
      unfold forN at hr
      have hc : chk im.ck s' := Classical.byContradiction fun z => by rw [if_neg z] at hr; exact nno hr.symm
      rw [if_pos hc] at hr
      obtain ⟨go, yl⟩ := (wk S' s' σ' H' st' rel' hc).1 i d hx
      refine .inr ⟨go, fun σ2 H2 => ∃ S2 s2, Stp S1 s1.M.length H1 S2 s2.M.length H2 ∧ Rel K ct H0 S2 s2 σ2 H2 ∧ forN f b im.ck (im.xs.drop (i + 1)) s2 = R, ?_, ?_⟩
      · rintro σ2 H2 ⟨S2, s2, k1, k2, k3⟩
        exact ⟨im.xs.length - (i + 1), by omega, rfl, S2, s2, k1, k2, hlt, k3⟩
      · intro x H2 hy
        obtain ⟨S2, st2, rel2, rp2⟩ := yl x H2 hy
        cases hs : f d s' with
        | none => rw [hs] at hr; exact absurd hr.symm nno
        | some s2 =>
          rw [hs] at hr
          refine hg S2 s' σ' H2 x d s2 _ rel2 rp2 hs fun S3 σ3 st3 rel3 _ _ _ => ?_
          have stt := (st'.trans st2).trans st3
          refine hb S3 s2 σ3 H2 _ rel3 ?_
          have hr : (match b s2 with | .nx s2 => forN f b im.ck (im.xs.drop (i + 1)) s2 | .ct s2 => forN f b im.ck (im.xs.drop (i + 1)) s2 | .bk s2 => .nx s2 | .rt a s2 => .rt a s2 | .er x s2 => .er x s2 | .no => .no) = R := hr
          cases hbs : b s2 with
          | nx s4 => rw [hbs] at hr; exact fun S4 σ4 H4 st4 rel4 => ⟨S4, s4, stt.trans st4, rel4, hr⟩
          | ct s4 => rw [hbs] at hr; exact fun S4 σ4 H4 st4 rel4 => ⟨S4, s4, stt.trans st4, rel4, hr⟩
          | bk s4 => rw [hbs] at hr; subst hr; exact fun S4 σ4 H4 st4 rel4 => p1 S4 σ4 H4 (stt.trans st4) rel4
          | rt a s4 => rw [hbs] at hr; subst hr; exact fun S4 σ4 v H4 st4 rel4 q => p1 S4 σ4 v H4 (stt.trans st4) rel4 q
          | er x s4 => rw [hbs] at hr; subst hr; exact fun S4 σ4 H4 dd st4 rel4 q => p1 S4 σ4 H4 dd (stt.trans st4) rel4 q
          | no => rw [hbs] at hr; exact absurd hr.symm nno
    · have e : im.xs.drop i = [] := List.drop_eq_nil_of_le (by omega)
      rw [e] at hr
      unfold forN at hr
      have hc : chk im.ck s' := Classical.byContradiction fun z => by rw [if_neg z] at hr; exact nno hr.symm
      rw [if_pos hc] at hr
      have ei : i = im.xs.length := by omega
      subst hr
      refine .inl ⟨?_, p1 S' σ' H' st' rel'⟩
      rw [ei]
      exact (wk S' s' σ' H' st' rel' hc).2)
end
end Y
namespace Y
open PySem L2 Z
def wipeE (env : List (Option Ent)) : List Nat → List (Option Ent)
  | [] => env
  | v :: vs => (wipeE env vs).set v none
def wipeS (ws : List Nat) (s : Stt) : Stt := ⟨wipeE s.env ws, s.M⟩
def kp : Option (Option Ent) → Option Ent
  | some (some (.fz d)) => some (.fz d)
  | _ => none
def rest (e0 e' : List (Option Ent)) : List Nat → List (Option Ent)
  | [] => e'
  | v :: vs => (rest e0 e' vs).set v (kp e0[v]?)
theorem rest_len {e0 e' : List (Option Ent)} : ∀ {ws : List Nat}, (rest e0 e' ws).length = e'.length
  | [] => rfl
  | v :: vs => by show ((rest e0 e' vs).set v _).length = _; rw [List.length_set]; exact rest_len
theorem rest_get {e0 e' : List (Option Ent)} {i : Nat} {en : Ent} : ∀ {ws : List Nat}, (rest e0 e' ws)[i]? = some (some en) → (∃ d, en = .fz d ∧ e0[i]? = some (some (.fz d))) ∨ (i ∉ ws ∧ e'[i]? = some (some en))
  | [], h => .inr ⟨by simp, h⟩
  | v :: vs, h => by
    have h1 : ((rest e0 e' vs).set v (kp e0[v]?))[i]? = some (some en) := h
    by_cases e : v = i
    · subst e
      have hl : v < (rest e0 e' vs).length := by
        have := (List.getElem?_eq_some_iff.mp h1).1
        rw [List.length_set] at this; exact this
      rw [List.getElem?_set_self hl] at h1
      have h2 : kp e0[v]? = some en := Option.some.inj h1
      unfold kp at h2
      split at h2
      · rename_i d q; cases h2; exact .inl ⟨d, rfl, q⟩
      · cases h2
    · rw [List.getElem?_set_ne e] at h1
      rcases rest_get h1 with k | ⟨k1, k2⟩
      · exact .inl k
      · exact .inr ⟨by simp; exact ⟨fun z => e z.symm, k1⟩, k2⟩
section
variable {K : PySem.W.Frag} {ct : Ct} {H0 : Hp} {W : WX} {S : Sh} {s : Stt} {σ : St} {H : Hp}
theorem Rel.setN2 {i : Nat} (r : Rel K ct H0 S s σ H) : Rel K ct H0 (S.un i) ⟨s.env.set i none, s.M⟩ (σ.set i none) H := by
  refine ⟨r.sub, fun a l q => r.lg a l (un_of q), r.dom, by rw [List.length_set]; show _ = (s.env.set i _).length; rw [List.length_set]; exact r.len, fun j en q => ?_, fun k c q => ?_⟩
  · have q1 : (s.env.set i none)[j]? = some (some en) := q
    by_cases z : i = j
    · subst z
      have hlt : i < s.env.length := by
        have := (List.getElem?_eq_some_iff.mp q1).1
        rw [List.length_set] at this; exact this
      rw [List.getElem?_set_self hlt] at q1
      cases q1
    · rw [List.getElem?_set_ne z] at q1
      have hh := r.slot j en q1
      cases en with
      | fz d' => obtain ⟨w, k1, k2⟩ := hh; exact ⟨w, by rw [List.getElem?_set_ne z]; exact k1, k2⟩
      | xn x => exact xn_mono (S := S) (n := s.M.length) (H := H) (fun _ _ e => e) (fun _ _ => rfl) (Nat.le_refl _) (List.getElem?_set_ne z) hh
      | ow c =>
        obtain ⟨p, k1, k2, k3, k4, k5⟩ := hh
        exact ⟨p, by rw [List.getElem?_set_ne z]; exact k1, k2, un_lab k3 (fun w => by cases w; exact z rfl), k4, cn_un k5⟩
  · obtain ⟨k1, k2⟩ := r.ids k c q
    exact ⟨un_lab k1 (fun w => by cases w), cn_un k2⟩
theorem Rel.wipe (r : Rel K ct H0 S s σ H) : ∀ ws : List Nat, ∃ S', Rel K ct H0 S' (wipeS ws s) (wipe σ ws) H ∧ Stp S s.M.length H S' s.M.length H ∧ S'.G = S.G ∧ S'.α = S.α ∧ ∀ a, S.lab a = none → S'.lab a = none
  | [] => ⟨S, r, .refl, rfl, rfl, fun _ h => h⟩
  | v :: vs => by
    obtain ⟨S', r', st, hg, ha, hl⟩ := r.wipe vs
    refine ⟨S'.un v, r'.setN2, st.trans .un, hg, ha, fun a h => ?_⟩
    show (if S'.lab a = some (.slot v) then none else S'.lab a) = none
    rw [hl a h]; rfl
theorem Rel.rest {S' : Sh} {s' : Stt} {H' : Hp} {ws : List Nat} (r0 : Rel K ct H0 S s σ H) (st : Stp S s.M.length H S' s'.M.length H') (r : Rel K ct H0 S' s' (L2.wipe σ ws) H') : Rel K ct H0 S' ⟨rest s.env s'.env ws, s'.M⟩ σ H' := by
  refine ⟨r.sub, r.lg, r.dom, by show _ = (Y.rest _ _ _).length; rw [rest_len, ← r.len, wipe_length], fun j en q => ?_, r.ids⟩
  rcases rest_get q with ⟨d, rfl, k⟩ | ⟨k1, k2⟩
  · obtain ⟨v, h1, h2⟩ := r0.slot j _ k
    exact ⟨v, h1, h2.step st⟩
  · have hh := r.slot j en k2
    cases en with
    | fz d => obtain ⟨v, h1, h2⟩ := hh; exact ⟨v, by rw [← wipe_out k1]; exact h1, h2⟩
    | xn x => exact xn_mono (S := S') (n := s'.M.length) (H := H') (fun _ _ e => e) (fun _ _ => rfl) (Nat.le_refl _) (wipe_out k1).symm hh
    | ow c => obtain ⟨p, h1, h2, h3, h4, h5⟩ := hh; exact ⟨p, by rw [← wipe_out k1]; exact h1, h2, h3, h4, h5⟩
/-- what nobody has is changed -/
theorem Rel.updU {p : Addr} {o : HO} (r : Rel K ct H0 S s σ H) (hl : S.lab p = none) (hg : S.G p = none) : Rel K ct H0 S s σ (upd H p o) := by
  have cn : ∀ {a : Addr} {c : Cn} {l : Lab}, S.lab a = some l → CnOk K ct S s.M.length H a c → CnOk K ct S s.M.length (upd H p o) a c := fun {a c l} q h => h.mono (fun _ _ e => e) (fun _ _ => rfl) (Nat.le_refl _) (fun _ e => by rw [upd_ne (fun z => by subst z; rw [hl] at q; cases q)]; exact e)
  refine ⟨fun a u e => by rw [U_ne (ne_of_none e hg)]; exact r.sub a u e, fun a l e => ?_, fun a e => r.dom a (upd_none.mp e).2, r.len, fun i e h => ?_, fun k c h => ?_⟩
  · obtain ⟨h1, u, h2, h3⟩ := r.lg a l e
    exact ⟨h1, u, by rw [upd_ne (fun z => by subst z; rw [hl] at e; cases e)]; exact h2, h3⟩
  · have q := r.slot i e h
    cases e with
    | fz d => exact q
    | xn x => exact xn_mono (S := S) (n := s.M.length) (H := H) (fun _ _ e => e) (fun _ _ => rfl) (Nat.le_refl _) rfl q
    | ow c =>
      obtain ⟨a, h1, h2, h3, h4, h5⟩ := q
      exact ⟨a, h1, h2, h3, h4, cn h3 h5⟩
  · obtain ⟨h1, h2⟩ := r.ids k c h
    exact ⟨h1, cn h1 h2⟩
theorem Stp.updNew {S' : Sh} {n n' : Nat} {H' : Hp} {p : Addr} {o : HO} (t : Stp S n H S' n' H') (hp : H p = none) : Stp S n H S' n' (upd H' p o) where
  g := t.g
  le := t.le
  al := t.al
  fr := fun a u h l => by
    obtain ⟨h1, h2⟩ := t.fr a u h l
    exact ⟨by rw [upd_ne (ne_of_none h hp)]; exact h1, h2⟩
  gn := t.gn
  fz := fun a od u h => by rw [upd_ne (ne_of_none h hp)]; exact t.fz a od u h
  dom := fun a e => t.dom a (upd_none.mp e).2
def W0 : WX := fun _ _ _ _ => False
open Classical in
noncomputable def lcN (ws : List Nat) (g : Tg) (c : Mo Bool) (e : Mo D) (ck : Option (Nat × Cn)) : List D → List D → Mo (List D)
  | [], acc, s => if chk ck s then .ok acc s else .no
  | x :: xs, acc, s => if chk ck s then (match g x s with
    | none => .no
    | some s1 => match c s1 with
      | .ok b s2 => if b = true then (match e s2 with
        | .ok d s3 => if acc.length < sizeLine then lcN ws g c e ck xs (acc ++ [d]) (wipeS ws s3) else .no
        | _ => .no) else lcN ws g c e ck xs acc (wipeS ws s2)
      | _ => .no) else .no
noncomputable def mLc (ws : List Nat) (mi : Mo Im) (g : Tg) (c : Mo Bool) (e : Mo AI) : Mo AI := fun s => (mi s).bind fun im s1 => match lcN ws g c (mV e) im.ck im.xs [] (wipeS ws s1) with
  | .ok l s2 => .ok (.new (.lst l)) ⟨rest s1.env s2.env ws, s2.M⟩
  | _ => .no
def mYes : Mo Bool := fun s => .ok true s
theorem et_yes : Et K ct H0 W tYes mYes := fun S s σ H Q rel p => p S true H .refl rel rfl
theorem ei_lcAt {js ws : List Nat} {wi : TI} {g : TG} {tt : TT} {te : TE} {mi : Mo Im} {f : Tg} {c : Mo Bool} {e : Mo AI} {S : Sh} {s : Stt} {σ : St} {H : Hp} {Q : VK} (hi : ∀ R, Pst K ct H0 (RW K ct H0) W S s σ H R (mi s) → wi σ H R) (hg : Sg K ct H0 js g f) (hjs : ∀ j ∈ js, j ∈ ws) (hc : Et K ct H0 W0 tt c) (he : Ei K ct H0 W0 te e)
    (p : Pst K ct H0 (RI K ct) W S s σ H Q (mLc ws mi f c e s)) : tLc wi g tt te ws σ H Q :=
  hi _ (Pst.bind bI p fun S1 s1 H1 J im st1 rel1 wk p1 => by
    intro D hD
    generalize hR : lcN ws f c (mV e) im.ck im.xs [] (wipeS ws s1) = R at p1
    cases R with
    | no => exact False.elim p1
    | er x s2 => exact False.elim p1
    | ok l s2 =>
      have p1 : Pst K ct H0 (RI K ct) W S1 s1 σ H1 Q (.ok (.new (.lst l)) ⟨rest s1.env s2.env ws, s2.M⟩) := p1
      obtain ⟨S1', rel1', st1', hg1, ha1, hl1⟩ := rel1.wipe ws
      refine ⟨fun i m H' => m = im.xs.length - i ∧ i ≤ im.xs.length ∧ ∃ S' s' acc accV, Stp S1 s1.M.length H1 S' s'.M.length H' ∧ Rel K ct H0 S' s' (wipe σ ws) H' ∧ H' D = some (.lst accV) ∧ S'.lab D = none ∧ S'.G D = none ∧ RpL K S'.G S'.α s'.M.length accV acc ∧ lcN ws f c (mV e) im.ck (im.xs.drop i) acc s' = .ok l s2, ⟨im.xs.length, rfl, Nat.zero_le _, S1', wipeS ws s1, [], [], st1'.updNew hD, rel1'.new hD, upd_same, rel1'.labN hD, rel1'.gN hD, .nil, hR⟩, ?_⟩
      rintro i m H' ⟨rfl, hi', S', s', acc, accV, st', rel', hDl, hDlab, hDg, rl, hr⟩
      by_cases hlt : i < im.xs.length
      · have ex := List.drop_eq_getElem_cons hlt
        rw [ex] at hr
        have hx : im.xs[i]? = some im.xs[i] := List.getElem?_eq_getElem hlt
        generalize im.xs[i] = d at ex hr hx
        unfold lcN at hr
        have hck : chk im.ck s' := Classical.byContradiction fun z => by rw [if_neg z] at hr; cases hr
        rw [if_pos hck] at hr
        obtain ⟨go, yl⟩ := (wk S' s' _ H' st' rel' hck).1 i d hx
        refine .inr ⟨go, fun H2 => ∃ S2 s3 acc accV, Stp S1 s1.M.length H1 S2 s3.M.length H2 ∧ Rel K ct H0 S2 s3 (wipe σ ws) H2 ∧ H2 D = some (.lst accV) ∧ S2.lab D = none ∧ S2.G D = none ∧ RpL K S2.G S2.α s3.M.length accV acc ∧ lcN ws f c (mV e) im.ck (im.xs.drop (i + 1)) acc s3 = .ok l s2, ?_, ?_⟩
        · rintro H2 ⟨S2, s3, acc', accV', k⟩
          exact ⟨im.xs.length - (i + 1), by omega, rfl, hlt, S2, s3, acc', accV', k⟩
        · intro x H2 hy
          obtain ⟨S2, st2, rel2, rp2⟩ := yl x H2 hy
          cases hs : f d s' with
          | none => rw [hs] at hr; cases hr
          | some s3 =>
            rw [hs] at hr
            refine hg S2 s' _ H2 x d s3 _ rel2 rp2 hs fun S3 σ3 st3 rel3 kk _ _ => ?_
            have hw : wipe σ3 ws = wipe σ ws := by
              rw [kk ws hjs]
              refine List.ext_getElem? fun k => ?_
              by_cases hk : k ∈ ws
              · by_cases hl : k < σ.length
                · rw [wipe_in hk (by rw [wipe_length]; exact hl), wipe_in hk hl]
                · rw [List.getElem?_eq_none_iff.mpr (by rw [wipe_length, wipe_length]; omega), List.getElem?_eq_none_iff.mpr (by rw [wipe_length]; omega)]
              · rw [wipe_out hk]
            refine ⟨hw, ?_⟩
            have stt := (st'.trans st2).trans st3
            have str := (st2.trans st3)
            obtain ⟨d3, l3⟩ := str.fr D _ hDl hDlab
            refine hc S3 s3 σ3 H2 _ rel3 ?_
            have hr : (match c s3 with | .ok b s2 => if b = true then (match mV e s2 with | .ok d s3 => if acc.length < sizeLine then lcN ws f c (mV e) im.ck (im.xs.drop (i + 1)) (acc ++ [d]) (wipeS ws s3) else .no | _ => .no) else lcN ws f c (mV e) im.ck (im.xs.drop (i + 1)) acc (wipeS ws s2) | _ => .no) = Ro.ok l s2 := hr
            have gD : ∀ {Sx : Sh} {nx : Nat} {Hx : Hp}, Stp S' s'.M.length H' Sx nx Hx → Sx.G D = none := fun {Sx nx Hx} t => by
              cases q : Sx.G D with
              | none => rfl
              | some u =>
                rcases t.gn D u q with z | z | ⟨lb, z⟩ | ⟨us, z⟩
                · rw [hDg] at z; cases z
                · rw [hDl] at z; cases z
                · rw [hDlab] at z; cases z
                · rw [hDl] at z; cases z
            cases hcs : c s3 with
            | no => rw [hcs] at hr; cases hr
            | er x s4 => rw [hcs] at hr; cases hr
            | ok b s4 =>
              rw [hcs] at hr
              intro S4 b' H4 st4 rel4 eb
              have eb : b' = b := eb
              rw [eb]
              have str4 := str.trans st4
              obtain ⟨d4, l4⟩ := str4.fr D _ hDl hDlab
              cases b with
              | false =>
                rw [if_neg Bool.false_ne_true]
                have hr : lcN ws f c (mV e) im.ck (im.xs.drop (i + 1)) acc (wipeS ws s4) = .ok l s2 := hr
                obtain ⟨S5, rel5, st5, hg5, ha5, hl5⟩ := rel4.wipe ws
                rw [hw] at rel5
                exact ⟨S5, wipeS ws s4, acc, accV, (stt.trans st4).trans st5, rel5, d4, hl5 _ l4, gD (str4.trans st5), rl.step (str4.trans st5), hr⟩
              | true =>
                rw [if_pos rfl]
                have hr : (match mV e s4 with | .ok d s3 => if acc.length < sizeLine then lcN ws f c (mV e) im.ck (im.xs.drop (i + 1)) (acc ++ [d]) (wipeS ws s3) else .no | _ => .no) = Ro.ok l s2 := hr
                refine ev_of he S4 s4 σ3 H4 _ rel4 ?_
                cases hes : mV e s4 with
                | no => rw [hes] at hr; cases hr
                | er x s5 => rw [hes] at hr; cases hr
                | ok d' s5 =>
                  rw [hes] at hr
                  have hr : (if acc.length < sizeLine then lcN ws f c (mV e) im.ck (im.xs.drop (i + 1)) (acc ++ [d']) (wipeS ws s5) else .no) = Ro.ok l s2 := hr
                  intro S5 y H5 st5 rel5 rp5
                  have str5 := str4.trans st5
                  obtain ⟨d5, l5⟩ := str5.fr D _ hDl hDlab
                  split at hr
                  · rename_i hz
                    refine ⟨accV, d5, by rw [rl.length]; exact hz, ?_⟩
                    have rel6 := rel5.updU (o := .lst (accV ++ [y])) l5 (gD str5)
                    obtain ⟨S7, rel7, st7, hg7, ha7, hl7⟩ := rel6.wipe ws
                    rw [hw] at rel7
                    have rl7 : RpL K S7.G S7.α (wipeS ws s5).M.length (accV ++ [y]) (acc ++ [d']) := by
                      rw [hg7, ha7]
                      exact (rl.step str5).append (.cons rp5 .nil)
                    exact ⟨S7, wipeS ws s5, acc ++ [d'], accV ++ [y], (((stt.trans st4).trans st5).updNew hD).trans st7, rel7, upd_same, hl7 _ l5, by rw [hg7]; exact gD str5, rl7, hr⟩
                  · cases hr
      · have ex : im.xs.drop i = [] := List.drop_eq_nil_of_le (by omega)
        rw [ex] at hr
        unfold lcN at hr
        have hck : chk im.ck s' := Classical.byContradiction fun z => by rw [if_neg z] at hr; cases hr
        rw [if_pos hck] at hr
        cases hr
        have ei : i = im.xs.length := by omega
        refine .inl ⟨by rw [ei]; exact (wk S' _ _ H' st' rel' hck).2, ?_⟩
        exact p1 S' _ H' st' (rel1.rest st' rel') ⟨D, rfl, hD, hDlab, hDg, rfl, accV, hDl, rl⟩)
theorem ei_lc {js ws : List Nat} {wi : TI} {g : TG} {tt : TT} {te : TE} {mi : Mo Im} {f : Tg} {c : Mo Bool} {e : Mo AI} (hi : Jw K ct H0 W wi mi) (hg : Sg K ct H0 js g f) (hjs : ∀ j ∈ js, j ∈ ws) (hc : Et K ct H0 W0 tt c) (he : Ei K ct H0 W0 te e) :
    Ei K ct H0 W (tLc wi g tt te ws) (mLc ws mi f c e) := fun S s σ H Q rel p => ei_lcAt (fun R q => hi S s σ H R rel q) hg hjs hc he p
def FPst (K : PySem.W.Frag) (ct : Ct) (S : Sh) (M : List Cn) (H : Hp) (Q : VK) (E : XK) : Fr → Prop
  | .ok a M' => ∀ S' v H', Stp S M.length H S' M'.length H' → Rel K ct H S' ⟨[], M'⟩ [] H' → ItOk K ct H S' ⟨[], M'⟩ [] H' v a → Q v H'
  | .er x M' => ∀ S' H' dd, Stp S M.length H S' M'.length H' → Rel K ct H S' ⟨[], M'⟩ [] H' → XOk K S' M'.length H' x dd → E (.ref (ct x.cls)) dd H'
  | .no => False
/-- a def's promise -/
def spM (K : PySem.W.Frag) (ct : Ct) (f : Mf) : Sp := fun vs H Q E => ∃ S M ds, Rel K ct H S ⟨[], M⟩ [] H ∧ RpL K S.G S.α M.length vs ds ∧ FPst K ct S M H Q E (f ds M)
/-- np parameters, n slots -/
def mFn (np n : Nat) (body : Ms) : Mf := fun ds M => if ds.length = np then (match body ⟨ds.map (fun d => some (.fz d)) ++ List.replicate (n - ds.length) none, M⟩ with
  | .nx s => .ok (.val .non) s.M
  | .rt a s => .ok a s.M
  | .er x s => .er x s.M
  | _ => .no) else .no
theorem sp_len {np n : Nat} {body : Ms} {vs : List V} {Q : VK} {E : XK} (h : spM K ct (mFn np n body) vs H Q E) : vs.length = np := by
  obtain ⟨S, M, ds, _, r, h⟩ := h
  rw [r.length]
  unfold mFn at h
  split at h
  · assumption
  · exact False.elim h
theorem Rel.enter {vs : List V} {ds : List D} {N : List Str} {M : List Cn} (r : Rel K ct H S ⟨[], M⟩ [] H) (h : RpL K S.G S.α M.length vs ds) : Rel K ct H S ⟨ds.map (fun d => some (.fz d)) ++ List.replicate (N.length - ds.length) none, M⟩ (start N vs) H := by
  refine ⟨r.sub, r.lg, r.dom, ?_, fun i e q => ?_, r.ids⟩
  · show (vs.map some ++ List.replicate (N.length - vs.length) none).length = (ds.map _ ++ List.replicate _ none).length
    simp only [List.length_append, List.length_map, List.length_replicate, h.length]
  · have q1 : (ds.map (fun d => some (Ent.fz d)) ++ List.replicate (N.length - ds.length) none)[i]? = some (some e) := q
    by_cases hl : i < ds.length
    · rw [List.getElem?_append_left (by rw [List.length_map]; exact hl), List.getElem?_map] at q1
      obtain ⟨d, e1, e2⟩ := Option.map_eq_some_iff.mp q1
      cases e2
      obtain ⟨v, h1, h2⟩ := h.get e1
      refine ⟨v, ?_, h2⟩
      show (vs.map some ++ List.replicate (N.length - vs.length) none)[i]? = _
      rw [List.getElem?_append_left (by rw [List.length_map, h.length]; exact hl), List.getElem?_map, h1]; rfl
    · rw [List.getElem?_append_right (by rw [List.length_map]; omega), List.getElem?_replicate] at q1
      split at q1
      · cases q1
      · cases q1
theorem Rel.leave (r : Rel K ct H0 S s σ H) : Rel K ct H0 S ⟨[], s.M⟩ [] H := ⟨r.sub, r.lg, r.dom, rfl, fun i e q => by simp at q, r.ids⟩
/-- the body keeps the promise -/
theorem fn_run {N : List Str} {np : Nat} {t : TS} {body : Ms} {vs : List V} {Q : VK} {E : XK} (hb : Sv K ct H (fun cls dd _ H' => E cls dd H') t body) (h : spM K ct (mFn np N.length body) vs H Q E) : t { nx := fun _ H' => Q .non H', rt := Q } (start N vs) H := by
  obtain ⟨S, M, ds, r, rp, h⟩ := h
  refine hb S _ _ H _ (r.enter rp) ?_
  unfold mFn at h
  split at h
  rotate_left
  · exact False.elim h
  generalize hR : body ⟨ds.map (fun d => some (.fz d)) ++ List.replicate (N.length - ds.length) none, M⟩ = R at h
  cases R with
  | nx s => exact fun S' σ' H' st rel => h S' .non H' st rel.leave .non
  | rt a s => exact fun S' σ' v H' st rel i => h S' v H' st rel.leave (by
      cases a with
      | val d => exact i
      | new c => exact i
      | slot j => simp [ItOk] at i)
  | er x s => exact fun S' σ' H' dd st rel q => h S' H' dd st rel.leave q
  | bk s => exact False.elim h
  | ct s => exact False.elim h
  | no => exact False.elim h
def Sh.hide (S : Sh) : Sh := ⟨S.G, S.α, fun a => match S.lab a with
  | some (.slot _) => none
  | l => l⟩
def Sh.back (S S' : Sh) : Sh := ⟨S'.G, S'.α, fun a => match S.lab a with
  | some (.slot i) => some (.slot i)
  | _ => match S'.lab a with
    | some (.slot _) => none
    | l => l⟩
theorem hide_of {a : Addr} {l : Lab} (h : S.hide.lab a = some l) : S.lab a = some l ∧ ∀ i, l ≠ .slot i := by
  have h1 : (match S.lab a with | some (.slot _) => none | l => l) = some l := h
  split at h1
  · cases h1
  · rename_i hn; exact ⟨h1, fun i z => by subst z; exact hn i h1⟩
theorem hide_id {a : Addr} {k : Nat} (h : S.lab a = some (.id k)) : S.hide.lab a = some (.id k) := by
  show (match S.lab a with | some (.slot _) => none | l => l) = _
  rw [h]
theorem hide_none {a : Addr} (h : S.lab a = none) : S.hide.lab a = none := by
  show (match S.lab a with | some (.slot _) => none | l => l) = _
  rw [h]
theorem hide_slot {a : Addr} {i : Nat} (h : S.lab a = some (.slot i)) : S.hide.lab a = none := by
  show (match S.lab a with | some (.slot _) => none | l => l) = _
  rw [h]
theorem back_slot {S' : Sh} {a : Addr} {i : Nat} (h : S.lab a = some (.slot i)) : (S.back S').lab a = some (.slot i) := by
  show (match S.lab a with | some (.slot i) => some (Lab.slot i) | _ => (match S'.lab a with | some (.slot _) => none | l => l)) = _
  rw [h]
theorem back_else {S' : Sh} {a : Addr} (h : ∀ i, S.lab a ≠ some (.slot i)) : (S.back S').lab a = (match S'.lab a with | some (.slot _) => none | l => l) := by
  show (match S.lab a with | some (.slot i) => some (Lab.slot i) | _ => (match S'.lab a with | some (.slot _) => none | l => l)) = _
  split
  · rename_i i e; exact absurd e (h i)
  · rfl
theorem Rel.hide (r : Rel K ct H0 S s σ H) : Rel K ct H S.hide ⟨[], s.M⟩ [] H := ⟨r.sub, fun a l q => r.lg a l (hide_of q).1, fun _ h => h, rfl, fun i e q => by simp at q, fun k c q => ⟨hide_id (r.ids k c q).1, (r.ids k c q).2.mono (fun _ _ e => e) (fun _ _ => rfl) (Nat.le_refl _) (fun _ e => e)⟩⟩
theorem Rel.back {S' : Sh} {M' : List Cn} {H' : Hp} (r : Rel K ct H0 S s σ H) (st : Stp S.hide s.M.length H S' M'.length H') (r' : Rel K ct H S' ⟨[], M'⟩ [] H') :
    Rel K ct H0 (S.back S') ⟨s.env, M'⟩ σ H' ∧ Stp S s.M.length H (S.back S') M'.length H' := by
  have slot_keep : ∀ {a : Addr} {i : Nat}, S.lab a = some (.slot i) → (∀ o, H a = some o → H' a = some o) ∧ S'.G a = none ∧ S'.lab a = none := fun {a i} h => by
    obtain ⟨hg, o, ho, hnt⟩ := r.lg a _ h
    have k := st.fr a o ho (hide_slot h)
    refine ⟨fun u hu => (st.fr a u hu (hide_slot h)).1, ?_, k.2⟩
    cases q : S'.G a with
    | none => rfl
    | some u =>
      rcases st.gn a u q with z | z | ⟨l, z⟩ | ⟨us, z⟩
      · have z : S.G a = some u := z; rw [hg] at z; cases z
      · rw [ho] at z; cases z
      · rw [hide_slot h] at z; cases z
      · rw [ho] at z; cases z; exact absurd rfl (hnt us)
  have cn : ∀ {a : Addr} {c : Cn}, CnOk K ct S' M'.length H' a c → CnOk K ct (S.back S') M'.length H' a c := fun {a c} h => h.mono (fun _ _ e => e) (fun _ _ => rfl) (Nat.le_refl _) (fun _ e => e)
  refine ⟨⟨r'.sub, fun a l q => ?_, fun a h => r.dom a (st.dom a h), r.len, fun i e q => ?_, fun k c q => ?_⟩, ⟨st.g, st.le, st.al, fun a o h l => ?_, fun a o q => ?_, st.dom, st.fz⟩⟩
  · by_cases hs : ∃ i, S.lab a = some (.slot i)
    · obtain ⟨i, hs⟩ := hs
      obtain ⟨_, o, ho, hnt⟩ := r.lg a _ hs
      obtain ⟨k1, k2, k3⟩ := slot_keep hs
      exact ⟨k2, o, k1 o ho, hnt⟩
    · rw [back_else (fun i z => hs ⟨i, z⟩)] at q
      split at q
      · cases q
      · exact r'.lg a l q
  · have hh := r.slot i e q
    cases e with
    | fz d => obtain ⟨v, h1, h2⟩ := hh; exact ⟨v, h1, h2.mono st.g st.al st.le⟩
    | xn x => exact xn_mono (S := S) (n := s.M.length) (H := H) st.g st.al st.le rfl hh
    | ow c =>
      obtain ⟨p, h1, h2, h3, h4, h5⟩ := hh
      obtain ⟨k1, k2, k3⟩ := slot_keep h3
      exact ⟨p, h1, h2, back_slot h3, h4, h5.mono st.g st.al st.le k1⟩
  · obtain ⟨k1, k2⟩ := r'.ids k c q
    refine ⟨?_, cn k2⟩
    have hne : ∀ i, S.lab (S'.α k) ≠ some (.slot i) := fun i z => by
      have := (slot_keep z).2.2
      rw [k1] at this; cases this
    show (S.back S').lab (S'.α k) = _
    rw [back_else hne, k1]
  · obtain ⟨h1, h2⟩ := st.fr a o h (hide_none l)
    refine ⟨h1, ?_⟩
    rw [back_else (fun i z => by rw [l] at z; cases z), h2]
  · rcases st.gn a o q with z | z | ⟨l, z⟩ | z
    · exact .inl z
    · exact .inr (.inl z)
    · exact .inr (.inr (.inl ⟨l, (hide_of z).1⟩))
    · exact .inr (.inr (.inr z))
def mCall (f : Mf) (m : Mo (List D)) : Mo AI := fun s => (m s).bind fun ds s1 => match f ds s1.M with
  | .ok a M' => .ok a ⟨s1.env, M'⟩
  | .er x M' => .er x ⟨s1.env, M'⟩
  | .no => .no
/-- .. where it doesn't raise -/
def mCallN (f : Mf) (m : Mo (List D)) : Mo AI := fun s => (m s).bind fun ds s1 => match f ds s1.M with
  | .ok a M' => .ok a ⟨s1.env, M'⟩
  | _ => .no
theorem fpst_of {f : Fr} {E : XK} {Q : VK} (rel : Rel K ct H0 S s σ H) (hE : ∀ x M', f = .er x M' → ∀ S' H' dd, Stp S s.M.length H S' M'.length H' → Rel K ct H0 S' ⟨s.env, M'⟩ σ H' → XOk K S' M'.length H' x dd → E (.ref (ct x.cls)) dd H')
    (hQ : ∀ a M', f = .ok a M' → ∀ S' v H', Stp S s.M.length H S' M'.length H' → Rel K ct H0 S' ⟨s.env, M'⟩ σ H' → ItOk K ct H S' ⟨s.env, M'⟩ σ H' v a → Q v H') (hn : f ≠ .no) : FPst K ct S.hide s.M H Q E f := by
  cases f with
  | no => exact absurd rfl hn
  | er x M' =>
      intro S' H' dd st r' xo
      obtain ⟨k1, k2⟩ := rel.back st r'
      exact hE x M' rfl (S.back S') H' dd k2 k1 xo
  | ok a M' =>
      intro S' v H' st r' it
      obtain ⟨k1, k2⟩ := rel.back st r'
      refine hQ a M' rfl (S.back S') v H' k2 k1 ?_
      cases a with
      | val d => exact it
      | slot j => simp [ItOk] at it
      | new c =>
        obtain ⟨p, rfl, h1, h2, h3, h4, h5⟩ := it
        refine ⟨p, rfl, h1, ?_, h3, h4, h5.mono (fun _ _ e => e) (fun _ _ => rfl) (Nat.le_refl _) (fun _ e => e)⟩
        rw [back_else (fun i z => by have := rel.labN h1; rw [z] at this; cases this), h2]
theorem ei_callN {f : Mf} {E : XK} {t : TA} {m : Mo (List D)} (h : EvL K ct H0 W t m) : Ei K ct H0 W (tCallZ (spM K ct f) E t) (mCallN f m) := fun S s σ H Q rel p =>
  h S s σ H _ rel (Pst.bind bI p fun S1 s1 H1 vs ds st1 rel1 i1 p1 => ⟨S1.hide, s1.M, ds, rel1.hide, i1, by
    generalize hf : f ds s1.M = r at p1
    cases r with
    | no => exact False.elim p1
    | er x M' => exact False.elim p1
    | ok a M' => exact fpst_of rel1 (fun x M' e => by cases e) (fun a' M'' e S' v H' st rl it => by cases e; exact p1 S' v H' st rl it) (fun e => by cases e)⟩)
theorem ei_callS {f : Mf} {t : TA} {m : Mo (List D)} (h : EvL K ct H0 W t m) : Ei K ct H0 W (tCallS (spM K ct f) (WE W) t) (mCall f m) := fun S s σ H Q rel p =>
  h S s σ H _ rel (Pst.bind bI p fun S1 s1 H1 vs ds st1 rel1 i1 p1 => ⟨S1.hide, s1.M, ds, rel1.hide, i1, by
    generalize hf : f ds s1.M = r at p1
    cases r with
    | no => exact False.elim p1
    | er x M' => exact fpst_of rel1 (fun x' M'' e S' H' dd st rl xo => by cases e; exact p1 S' H' dd st rl xo) (fun a' M'' e => by cases e) (fun e => by cases e)
    | ok a M' => exact fpst_of rel1 (fun x M' e => by cases e) (fun a' M'' e S' v H' st rl it => by cases e; exact p1 S' v H' st rl it) (fun e => by cases e)⟩)
end
end Y
namespace Y
open PySem L2 Z
section
variable {X : Cx}
def rStrY : List V → Hp → VK → Prop := fun xs H Q => ∃ i, xs = [.int i] ∧ i.natAbs.log2 < 1920 ∧ Q (.str (toString i)) H
theorem call_strY : CallR X (.type "str") rStrY := call_str_int
def rTupY (K : PySem.W.Frag) : List V → Hp → VK → Prop := fun xs H Q => ∃ p ys, xs = [.ref p] ∧ ((SqL K H p ys ∧ ∀ l, H l = none → Q (.ref l) (upd H l (.tup ys))) ∨ (SqT K H p ys ∧ Q (.ref p) H))
theorem call_tupY {K : PySem.W.Frag} (hK : X.K = K) : CallR X (.type "tuple") (rTupY K) := by subst hK; exact call_tuple_of
theorem PSet.or {t t' : TSet} (h : PSet X t) (h' : PSet X t') : PSet X (fun o i v H Q => t o i v H Q ∨ t' o i v H Q) := by
  intro pins s σ H o i v ov iv u Q I ro ri rv q
  rcases q with q | q
  · exact h pins s σ H o i v ov iv u Q I ro ri rv q
  · exact h' pins s σ H o i v ov iv u Q I ro ri rv q
def rSetY : TSet := fun o i v H Q => rSetL o i v H Q ∨ rSetD o i v H Q
theorem set_Y (hu : X.A.units + 1 < cLine) : PSet X rSetY := PSet.or set_list (set_dict hu)
end
section
variable {K : PySem.W.Frag} {ct : Ct} {H0 : Hp} {W : WX} {S : Sh} {s : Stt} {σ : St} {H : Hp}
theorem cr_ty {n : String} : CR K (.ty n) (.ty n) := fun _ _ _ => .ty n
def fNeg : Stt → AI → Ro AI := fun s a => match a with
  | .val (.int i) => .ok (.val (.int (-i))) s
  | _ => .no
def fInt (s : Stt) (as : List AI) : Ro AI := match as with
  | [.val (.int i)] => .ok (.val (.int i)) s
  | [.val (.bl k)] => .ok (.val (.int (if k then 1 else 0))) s
  | [.val (.str x)] => match PySem.intText? x with
    | some n => if x.length ≤ 640 then .ok (.val (.int n)) s else .no
    | none => .no
  | _ => .no
def fStr (s : Stt) (as : List AI) : Ro AI := match as with
  | [.val (.int i)] => if i.natAbs.log2 < 1920 then .ok (.val (.str (toString i))) s else .no
  | _ => .no
theorem jb_str : JB K ct H0 rStrY fStr := fun W S s σ H Hs vs as Q rel ia p => by
  unfold fStr at p
  split at p
  · rename_i i
    obtain ⟨v, rfl, h⟩ := as1 ia
    cases rp_int h
    split at p
    · rename_i hz
      exact ⟨i, rfl, hz, p.val rel (.str _)⟩
    · exact False.elim p
  · exact False.elim p
def fTup (s : Stt) (as : List AI) : Ro AI := match as with
  | [a] => match viewL s a with
    | some l => .ok (.val (.tup l)) s
    | none => match a with
      | .val (.tup l) => .ok (.val (.tup l)) s
      | _ => .no
  | _ => .no
theorem jb_tup : JB K ct H0 (rTupY K) fTup := fun W S s σ H Hs vs as Q rel ia p => by
  unfold fTup at p
  split at p
  · rename_i a
    obtain ⟨v, rfl, h⟩ := as1 ia
    split at p
    · rename_i l e
      obtain ⟨q, us, rfl, k1, k2⟩ := viewL_ok rel h e
      exact ⟨q, us, rfl, .inl ⟨k1, fun r hr => p.newT rel hr k2⟩⟩
    · split at p
      · rename_i l _
        have h' : Rp K S.G S.α s.M.length v (.tup l) := h
        cases h' with
        | tup h1 h2 => exact ⟨_, _, rfl, .inr ⟨.of (uP' (rel.sub _ _ h1)), p.val rel (.tup h1 h2)⟩⟩
      · exact False.elim p
  · exact False.elim p
def mAug (i : Nat) (f : Int → Int → Int) (m : Mo AI) : Ms := fun s => match entAt s i with
  | some (.fz (.int x)) => (m s).toS fun a s1 => match a with
    | .val (.int y) => .nx ⟨s1.env.set i (some (.fz (.int (f x y)))), s1.M⟩
    | _ => .no
  | _ => .no
def keyOf : D → Option Key
  | .int i => some (.inl i)
  | .str x => some (.inr x)
  | _ => none
theorem keyOf_rp {G : Hp} {α : Nat → Addr} {n : Nat} {v : V} {d : D} {k : Key} (h : Rp K G α n v d) (e : keyOf d = some k) : v = kV k := by
  cases h <;> first | (cases e; rfl) | cases e
/-- o[i] = d -/
def setIt (a : AI) (i d : D) (s : Stt) : Option Stt := match getC s a with
  | some (.lst l) => match i with
    | .int k => (ixN l.length k).map fun j => setC s a (.lst (l.set j d))
    | _ => none
  | some (.dK l) => (keyOf i).bind fun k => if l.length < sizeLine then some (setC s a (.dK (pu l k d))) else none
  | _ => none
theorem setIt_ok {Hs : Hp} {x y v : V} {a : AI} {i d : D} {s' : Stt} {Q : Hp → Prop} (rel : Rel K ct H0 S s σ H) (ia : ItOk K ct Hs S s σ H x a) (ii : Rp K S.G S.α s.M.length y i) (id : Rp K S.G S.α s.M.length v d) (e : setIt a i d s = some s')
    (q : ∀ H', Stp S s.M.length H S s'.M.length H' → Rel K ct H0 S s' σ H' → Q H') : rSetY x y v H Q := by
  unfold setIt at e
  split at e
  · rename_i l eg
    split at e
    · rename_i k
      cases rp_int ii
      obtain ⟨j, e1, rfl⟩ := Option.map_eq_some_iff.mp e
      obtain ⟨p, rfl, ⟨us, h1, h2⟩, h3⟩ := mut_ok rel ia eg
      obtain ⟨r1, r2⟩ := h3 (.lst (us.set j v)) (.lst (l.set j d)) (fun _ => rfl) ⟨_, upd_same, h2.set id j⟩
      exact .inl ⟨p, us, k, j, rfl, rfl, h1, by rw [h2.length]; exact e1, q _ r2 r1⟩
    · cases e
  · rename_i l eg
    obtain ⟨k, e1, e2⟩ := Option.bind_eq_some_iff.mp e
    split at e2
    · rename_i hz
      cases e2
      obtain ⟨p, rfl, ⟨us, h1, h3, h2⟩, h4⟩ := mut_ok rel ia eg
      have rk := RpK.of h3 h2
      have rk' := rk.put (k := k) id
      obtain ⟨r1, r2⟩ := h4 (.dK (putK us k v)) (.dK (pu l k d)) (fun _ => rfl) ⟨_, upd_same, rk'.keys, rk'.vals⟩
      rw [keyOf_rp ii e1]
      exact .inr ⟨p, _, rfl, DPut.k h1 (by rw [rk.len]; exact hz), q _ r2 r1⟩
    · cases e2
  · cases e
def mAsgS (mo mi : Mo AI) (mv : Mo AI) : Ms := fun s => (mV mv s).toS fun d s1 => (mo s1).toS fun a s2 => (mV mi s2).toS fun i s3 => match setIt a i d s3 with
  | some s4 => .nx s4
  | none => .no
theorem sv_asgS {te to ti : TE} {mo mi mv : Mo AI} (hv : Ei K ct H0 W te mv) (ho : Ei K ct H0 W to mo) (hi : Ei K ct H0 W ti mi) : Sv K ct H0 W (tAsg te (gSub to ti rSetY)) (mAsgS mo mi mv) := fun S s σ H Dn rel p =>
  ev_of hv S s σ H _ rel (PstS.bind p fun S1 s1 H1 v d st1 rel1 i1 p1 => ho S1 s1 σ H1 _ rel1 (PstS.bind (PstS.from p1 st1) fun S2 s2 H2 x a st2 rel2 i2 p2 => ev_of hi S2 s2 σ H2 _ rel2 (PstS.bind (PstS.from p2 st2) fun S3 s3 H3 y i st3 rel3 i3 p3 => by
    have p3 := PstS.from p3 st3
    split at p3
    · rename_i s4 e
      exact setIt_ok rel3 (i2.step st3) i3 (Rp.step (st2.trans st3) i1) e fun H' st rl => p3 S3 σ H' st rl
    · exact False.elim p3)))
def mDNew : Mo AI := fun s => .ok (.new (.dK [])) s
/-- d.pop(k), k is there -/
def fPop (s : Stt) (a : AI) (i : D) : Ro AI := match getC s a with
  | some (.dK l) => match (keyOf i).bind fun k => (vl l k).map fun d => (k, d) with
    | some (k, d) => .ok (.val d) (setC s a (.dK (dr l k)))
    | none => .no
  | _ => .no
def mPop (mo mi : Mo AI) : Mo AI := fun s => (mo s).bind fun a s1 => match viewD s1 a with
  | some _ => (mV mi s1).bind fun i s2 => fPop s2 a i
  | none => .no
/-- d.get(k), d.get(k, x) -/
def fGet (s : Stt) (a : AI) (i x : D) : Ro AI := match viewD s a with
  | some l => match keyOf i with
    | some k => .ok (.val ((vl l k).getD x)) s
    | none => .no
  | none => .no
def mGet2 (mo mi mx : Mo AI) : Mo AI := fun s => (mo s).bind fun a s1 => match viewD s1 a with
  | some _ => (mV mi s1).bind fun i s2 => (mV mx s2).bind fun x s3 => fGet s3 a i x
  | none => .no
end
end Y
namespace Y
open PySem L2 Z
theorem u65 {A : Around} {k : Nat} (hr : Room k A) : A.units + 65 < cLine := by have := hr.un; omega
theorem u66 {A : Around} {k : Nat} (hr : Room k A) : A.units + 70 < cLine := by have := hr.un; omega
theorem rpl_ints {K : PySem.W.Frag} {G : Hp} {α : Nat → Addr} {n : Nat} : ∀ ns : List Int, RpL K G α n (ns.map V.int) (ns.map D.int)
  | [] => .nil
  | i :: ns => .cons (.int i) (rpl_ints ns)
end Y
namespace Y
open PySem L2 Z
def So {α : Type} (P : α → Prop) : Option α → Prop
  | some s => P s
  | none => False
def Ok {α : Type} (P : α → Stt → Prop) : Ro α → Prop
  | .ok a s => P a s
  | _ => False
def Fo (P : AI → List Cn → Prop) : Fr → Prop
  | .ok a M => P a M
  | _ => False
theorem chk_none {s : Stt} : chk none s := trivial
theorem forN_nil {g : Tg} {b : Ms} {s : Stt} : forN g b none [] s = .nx s := by unfold forN; rw [if_pos chk_none]
theorem forN_cons {g : Tg} {b : Ms} {s s1 : Stt} {x : D} {xs : List D} (h : g x s = some s1) : forN g b none (x :: xs) s = (match b s1 with
      | .nx s2 => forN g b none xs s2
      | .ct s2 => forN g b none xs s2
      | .bk s2 => .nx s2
      | .rt a s2 => .rt a s2
      | .er x s2 => .er x s2
      | .no => .no) := by
  conv => lhs; unfold forN
  rw [if_pos chk_none, h] <;> rfl
/-- a comprehension, by what holds of each part: the state comes back -/
theorem lc_map {ws : List Nat} {g : Tg} {e : Mo D} {s : Stt} {xs : List D} (f : D → D) (hz : xs.length ≤ sizeLine) (h : ∀ x ∈ xs, So (fun s1 => Ok (fun d s2 => d = f x ∧ wipeS ws s2 = s) (e s1)) (g x s)) : ∀ acc : List D, acc.length + xs.length ≤ sizeLine → lcN ws g mYes e none xs acc s = .ok (acc ++ xs.map f) s := by
  induction xs with
  | nil => intro acc _; unfold lcN; rw [if_pos chk_none, List.map_nil, List.append_nil]
  | cons x xs ih =>
    intro acc ha
    have h1 := h x (by simp)
    unfold lcN
    rw [if_pos chk_none]
    cases hg : g x s with
    | none => rw [hg] at h1; exact False.elim h1
    | some s1 =>
      rw [hg] at h1
      have h1 : Ok (fun d s2 => d = f x ∧ wipeS ws s2 = s) (e s1) := h1
      show (if true = true then (match e s1 with | .ok d s3 => if acc.length < sizeLine then lcN ws g mYes e none xs (acc ++ [d]) (wipeS ws s3) else .no | _ => .no) else _) = _
      rw [if_pos rfl]
      cases he : e s1 with
      | no => rw [he] at h1; exact False.elim h1
      | er x s2 => rw [he] at h1; exact False.elim h1
      | ok d s2 =>
        rw [he] at h1
        obtain ⟨rfl, h3⟩ := h1
        have hl : acc.length < sizeLine := by rw [List.length_cons] at ha; omega
        show (if acc.length < sizeLine then lcN ws g mYes e none xs (acc ++ [f x]) (wipeS ws s2) else .no) = _
        rw [if_pos hl, h3, ih (by rw [List.length_cons] at hz; omega) (fun y hy => h y (by simp [hy])) _ (by rw [List.length_append, List.length_cons, List.length_nil]; rw [List.length_cons] at ha; omega), List.append_assoc]
        rfl
theorem intsD_map (ns : List Int) : intsD (ns.map D.int) = some ns := by
  induction ns with
  | nil => rfl
  | cons n ns ih => show (intsD (ns.map D.int)).map (n :: ·) = _; rw [ih]; rfl
theorem pyL_ints (ns : List Int) : D.pyL (ns.map D.int) = some (ns.map PyData.int) := by
  induction ns with
  | nil => rfl
  | cons n ns ih => show (D.py (.int n)).bind (fun x => (D.pyL (ns.map D.int)).map (x :: ·)) = _; rw [ih]; rfl
theorem atI_map {β : Type} (f : β → D) (l : List β) (i : Int) : atI (l.map f) i = (atI l i).map f := by
  unfold atI
  rw [List.length_map]
  cases ixN l.length i with
  | none => rfl
  | some j => show (l.map f)[j]? = (l[j]?).map f; rw [List.getElem?_map]
theorem atI_nn {β : Type} {l : List β} {i : Int} (h : 0 ≤ i) : atI l i = l[i.toNat]? := by
  unfold atI ixN
  rw [if_pos h]
  by_cases q : i < l.length
  · rw [if_pos q]; rfl
  · rw [if_neg q]; show none = _; rw [List.getElem?_eq_none_iff.mpr (by omega)]
theorem atI_int {ns : List Int} {i : Int} (h0 : 0 ≤ i) (h1 : i < ns.length) : atI (ns.map D.int) i = some (.int (ns.getD i.toNat 0)) := by
  rw [atI_nn h0, List.getElem?_map, List.getElem?_eq_getElem (by omega : i.toNat < ns.length)]
  simp [List.getD, (by omega : i.toNat < ns.length)]
theorem cutL_to {β : Type} (xs : List β) {i : Int} (h : 0 ≤ i) : cutL xs none (some i) = xs.take i.toNat := by
  unfold cutL
  have e1 : HT.sIx xs.length 0 none = 0 := rfl
  have e2 : HT.sIx xs.length xs.length (some i) = min i.toNat xs.length := if_neg (by omega)
  rw [e1, e2, List.drop_zero, Nat.sub_zero]
  by_cases l : i.toNat ≤ xs.length
  · rw [Nat.min_eq_left l]
  · rw [Nat.min_eq_right (by omega), List.take_of_length_le (Nat.le_refl _), List.take_of_length_le (by omega)]
theorem rng_get {lo : Int} {n i : Nat} {d : D} (h : (rng lo n)[i]? = some d) : i < n ∧ d = .int (lo + i) := by
  unfold rng at h
  rw [List.getElem?_map] at h
  obtain ⟨j, e1, rfl⟩ := Option.map_eq_some_iff.mp h
  obtain ⟨hlt, ej⟩ := List.getElem?_eq_some_iff.mp e1
  rw [List.getElem_range] at ej
  rw [List.length_range] at hlt
  subst ej
  exact ⟨hlt, rfl⟩
theorem rng_len {lo : Int} {n : Nat} : (rng lo n).length = n := by unfold rng; rw [List.length_map, List.length_range]
theorem map_get {β : Type} {f : β → D} {l : List β} {i : Nat} {d : D} (h : (l.map f)[i]? = some d) : ∃ x, l[i]? = some x ∧ d = f x := by
  rw [List.getElem?_map] at h
  obtain ⟨x, e, rfl⟩ := Option.map_eq_some_iff.mp h
  exact ⟨x, e, rfl⟩
theorem enum_get {l : List D} {i : Nat} {d : D} (h : (enumL l)[i]? = some d) : ∃ x, l[i]? = some x ∧ d = .tup [.int (i : Nat), x] := by
  unfold enumL at h
  rw [List.getElem?_map, List.getElem?_zipIdx] at h
  obtain ⟨pr, e2, rfl⟩ := Option.map_eq_some_iff.mp h
  obtain ⟨y, e3, rfl⟩ := Option.map_eq_some_iff.mp e2
  exact ⟨y, e3, by rw [Nat.zero_add]⟩
theorem enum_len {l : List D} : (enumL l).length = l.length := by unfold enumL; rw [List.length_map, List.length_zipIdx]
theorem eqv_int (i j : Int) : PyData.eqv (.int i) (.int j) = decide (i = j) := by
  show (i == j) = _
  by_cases h : i = j
  · subst h; simp
  · simp [h]
theorem eqv_lints (ns ms : List Int) : PyData.eqv (.list (ns.map PyData.int)) (.list (ms.map PyData.int)) = decide (ns = ms) := Z.eqv_ints ns ms
theorem shaped_lints (ns : List Int) : SeqAt.shaped (.list (ns.map PyData.int)) = true := Z.shaped_ints ns
end Y
namespace Y
open PySem L2 Z
def Wo {α : Type} (Q : α → Stt → Prop) (X : Exn → Stt → Prop) : Ro α → Prop
  | .ok a s => Q a s
  | .er x s => X x s
  | .no => False
def Ws (N : Stt → Prop) (O : Rs → Prop) : Rs → Prop
  | .nx s => N s
  | .no => False
  | r => O r
abbrev Xf : Exn → Stt → Prop := fun _ _ => False
section
variable {α β : Type} {Q : α → Stt → Prop} {QA : AI → Stt → Prop} {QD : D → Stt → Prop} {QL : List AI → Stt → Prop} {QV : List D → Stt → Prop} {QB : Bool → Stt → Prop} {QO : Option Int → Stt → Prop} {QI : Im → Stt → Prop} {X : Exn → Stt → Prop} {N : Stt → Prop} {O : Rs → Prop} {s : Stt} {i j : Nat} {m m1 m2 m3 : Mo AI} {env : List (Option Ent)} {M : List Cn}
theorem w_bind {r : Ro β} {f : β → Mo α} (h : Wo (fun a s => Wo Q X (f a s)) X r) : Wo Q X (r.bind f) := by cases r <;> exact h
theorem w_toS {r : Ro β} {f : β → Ms} (h : Wo (fun a s => Ws N O (f a s)) (fun x s => O (.er x s)) r) : Ws N O (r.toS f) := by cases r <;> exact h
theorem w_mono {Q' : α → Stt → Prop} {r : Ro α} (h : Wo Q X r) (k : ∀ a s, Q a s → Q' a s) : Wo Q' X r := by
  cases r with
  | ok a s => exact k _ _ h
  | er x s => exact h
  | no => exact h
theorem w_seq {a b : Ms} (h : Ws (fun s1 => Ws N O (b s1)) O (a s)) : Ws N O (mSeq a b s) := by
  unfold mSeq
  cases q : a s <;> rw [q] at h <;> exact h
/-- the ways meet again at R -/
theorem w_join {a b : Ms} (R : Stt → Prop) (h : Ws R O (a s)) (k : ∀ s, R s → Ws N O (b s)) : Ws N O (mSeq a b s) := by
  unfold mSeq
  cases q : a s with
  | nx s1 => rw [q] at h; exact k s1 h
  | _ => rw [q] at h; exact h
theorem w_next (h : N s) : Ws N O (mNext s) := h
theorem w_drop (h : Wo (fun _ s1 => N s1) (fun x s => O (.er x s)) (m s)) : Ws N O (mDrop m s) := w_toS h
theorem w_ifS {c : Mo Bool} {a b : Ms} (h : Wo (fun k s1 => if k = true then Ws N O (a s1) else Ws N O (b s1)) (fun x s => O (.er x s)) (c s)) : Ws N O (mIfS c a b s) := w_toS (w_mono h fun k s h => by cases k <;> exact h)
theorem w_asg (h : Wo (fun a s1 => Ws N O (asg i a s1)) (fun x s => O (.er x s)) (m s)) : Ws N O (mAsg i m s) := w_toS h
theorem w_asgV {d : D} (h : N ⟨s.env.set i (some (.fz d)), s.M⟩) : Ws N O (asg i (.val d) s) := h
theorem w_asgN {c : Cn} (h : N ⟨s.env.set i (some (.ow c)), s.M⟩) : Ws N O (asg i (.new c) s) := h
theorem w_asgI {c : Cn} (e : entAt s j = some (.ow c)) (h : N ⟨(s.env.set j (some (.fz c.toD))).set i (some (.fz c.toD)), s.M⟩) : Ws N O (asg i (.slot j) s) := by
  show Ws N O ((match entAt s j with | some (.ow c) => Ro.ok c.toD ⟨s.env.set j (some (.fz c.toD)), s.M⟩ | some (.fz d) => Ro.ok d s | _ => Ro.no).toS fun d s1 => .nx ⟨s1.env.set i (some (.fz d)), s1.M⟩)
  rw [e]; exact h
theorem w_ret (h : Wo (fun a s1 => Ws N O (Y.ret a s1)) (fun x s => O (.er x s)) (m s)) : Ws N O (mRet m s) := w_toS h
theorem w_retV {d : D} (h : O (.rt (.val d) s)) : Ws N O (Y.ret (.val d) s) := h
theorem w_retN' {c : Cn} (h : O (.rt (.new c) s)) : Ws N O (Y.ret (.new c) s) := h
theorem w_retS {c : Cn} (e : entAt s j = some (.ow c)) (h : O (.rt (.new c) ⟨s.env.set j none, s.M⟩)) : Ws N O (Y.ret (.slot j) s) := by
  show Ws N O (match entAt s j with | some (.ow c) => .rt (.new c) ⟨s.env.set j none, s.M⟩ | some (.fz d) => .rt (.val d) s | _ => .no)
  rw [e]; exact h
theorem w_retN (h : O (.rt (.val .non) s)) : Ws N O (mRetN s) := h
theorem w_nameF {d : D} (e : entAt s i = some (.fz d)) (h : QA (.val d) s) : Wo QA X (mName i s) := by unfold mName; rw [e]; exact h
theorem w_nameO {c : Cn} (e : entAt s i = some (.ow c)) (h : QA (.slot i) s) : Wo QA X (mName i s) := by unfold mName; rw [e]; exact h
theorem w_c {d : D} (h : QA (.val d) s) : Wo QA X (mC d s) := h
theorem w_op {f : Stt → AI → AI → Ro AI} (h : Wo (fun a s1 => Wo (fun b s2 => Wo QA X (f s2 a b)) X (m2 s1)) X (m1 s)) : Wo QA X (mOp f m1 m2 s) := w_bind (w_mono h fun _ _ h => w_bind h)
theorem w_un {f : Stt → AI → Ro AI} (h : Wo (fun a s1 => Wo QA X (f s1 a)) X (m1 s)) : Wo QA X (mUn f m1 s) := w_bind h
theorem w_I0 {g : Int → Int → D} {i j : Int} (h : QA (.val (g i j)) s) : Wo QA X (fI0 g s (.val (.int i)) (.val (.int j))) := h
theorem w_I {C : Int → Int → Prop} {g : Int → Int → D} {i j : Int} (c : C i j) (h : QA (.val (g i j)) s) : Wo QA X (fI C g s (.val (.int i)) (.val (.int j))) := by
  unfold fI; simp only []; rw [if_pos c]; exact h
theorem w_addI {i j : Int} (h : QA (.val (.int (i + j))) s) : Wo QA X (fAdd s (.val (.int i)) (.val (.int j))) := h
def noS : AI → Bool
  | .val (.int _) => false
  | .val (.str _) => false
  | _ => true
theorem w_mulI {i j : Int} (c : CMul i j) (h : QA (.val (.int (i * j))) s) : Wo QA X (fMul s (.val (.int i)) (.val (.int j))) := by
  unfold fMul; simp only []; rw [if_pos c]; exact h
theorem w_mulL {a : AI} {l : List D} {j : Int} (n : noS a = true) (e1 : viewX s a = some l) (c : -(2 ^ 63) ≤ j ∧ j < 2 ^ 63 ∧ l.length * j.toNat ≤ sizeLine) (h : QA (.new (.lst (List.replicate j.toNat l).flatten)) s) : Wo QA X (fMul s a (.val (.int j))) := by
  unfold fMul
  split
  · cases n
  · rename_i heq; cases heq; rw [e1]; simp only []; rw [if_pos c]; exact h
  · rename_i h1 h2; first | exact (h1 _ rfl).elim | exact (h2 _ rfl).elim | exact (h1 _ _ rfl).elim | exact (h2 _ _ rfl).elim
theorem w_eqI {i j : Int} (h : QA (.val (.bl (decide (i = j)))) s) : Wo QA X (fEq s (.val (.int i)) (.val (.int j))) := by
  show Wo QA X (.ok (.val (.bl (PyData.eqv (.int i) (.int j)))) s)
  rw [eqv_int]; exact h
theorem w_neI {i j : Int} (h : QA (.val (.bl (!decide (i = j)))) s) : Wo QA X (fNe s (.val (.int i)) (.val (.int j))) := by
  show Wo QA X (.ok (.val (.bl (!PyData.eqv (.int i) (.int j)))) s)
  rw [eqv_int]; exact h
theorem w_eq {a b : AI} {k : Bool} (e : eqOf s a b = some k) (h : QA (.val (.bl k)) s) : Wo QA X (fEq s a b) := by unfold fEq; rw [e]; exact h
theorem w_ne {a b : AI} {k : Bool} (e : eqOf s a b = some k) (h : QA (.val (.bl (!k))) s) : Wo QA X (fNe s a b) := by unfold fNe; rw [e]; exact h
theorem eqOf_of {a b : AI} {x y : PyData} {k : Bool} (e1 : pyOf s a = some x) (e2 : pyOf s b = some y) (h1 : SeqAt.shaped x = true) (h2 : SeqAt.shaped y = true) (e : x.eqv y = k) : eqOf s a b = some k := by
  unfold eqOf; rw [e1, e2]; show (if SeqAt.shaped x && SeqAt.shaped y then some (x.eqv y) else none) = _
  rw [h1, h2, e]; rfl
theorem py_ints {d : D} {ns : List Int} (h : d = .lst (ns.map D.int) ∨ d = .clst (ns.map D.int)) : d.py = some (.list (ns.map PyData.int)) := by
  rcases h with rfl | rfl
  · show (D.pyL (ns.map D.int)).map PyData.list = _; rw [pyL_ints]; rfl
  · show (D.pyL (ns.map D.int)).map PyData.list = _; rw [pyL_ints]; rfl
theorem eqOf_ints {a b : AI} {d d' : D} {ns ms : List Int} (e1 : (look s a).bind (deref s.M) = some d) (e2 : (look s b).bind (deref s.M) = some d') (h1 : d = .lst (ns.map D.int) ∨ d = .clst (ns.map D.int)) (h2 : d' = .lst (ms.map D.int) ∨ d' = .clst (ms.map D.int)) : eqOf s a b = some (decide (ns = ms)) := by
  refine eqOf_of (x := .list (ns.map PyData.int)) (y := .list (ms.map PyData.int)) ?_ ?_ (shaped_lints ns) (shaped_lints ms) (eqv_lints ns ms)
  · unfold pyOf; rw [e1]; exact py_ints h1
  · unfold pyOf; rw [e2]; exact py_ints h2
theorem w_isB {x y : Bool} (h : QA (.val (.bl (x == y))) s) : Wo QA X (fIs s (.val (.bl x)) (.val (.bl y))) := h
theorem w_isnB {x y : Bool} (h : QA (.val (.bl (!(x == y)))) s) : Wo QA X (fIsn s (.val (.bl x)) (.val (.bl y))) := h
theorem isOf_n {a : AI} {d : D} (e : look s a = some d) : isOf s a (.val .non) = some d.isN := by
  unfold isOf
  split
  · rename_i h; cases h
  · rw [e]; rfl
  · rename_i h1 h2; first | exact (h1 rfl).elim | exact (h2 rfl).elim
theorem w_isN {a : AI} {d : D} (e : look s a = some d) (h : QA (.val (.bl d.isN)) s) : Wo QA X (fIs s a (.val .non)) := by unfold fIs; rw [isOf_n e]; exact h
theorem w_isnN {a : AI} {d : D} (e : look s a = some d) (h : QA (.val (.bl (!d.isN))) s) : Wo QA X (fIsn s a (.val .non)) := by unfold fIsn; rw [isOf_n e]; exact h
theorem w_ixL {a : AI} {l : List D} {i : Int} {d : D} (n : noS a = true) (e0 : viewD s a = none) (e1 : viewL s a = some l) (e2 : atI l i = some d) (h : QA (.val d) s) : Wo QA X (fIxY s a (.val (.int i))) := by
  unfold fIxY; rw [e0]; simp only []
  unfold fIx; simp only []
  split
  · cases n
  · rw [e1]; simp only []; rw [e2]; exact h
theorem w_ixT {a : AI} {l : List D} {i : Int} {d : D} (n : noS a = true) (e0 : viewD s a = none) (e3 : viewL s a = none) (e1 : viewT s a = some l) (e2 : atI l i = some d) (h : QA (.val d) s) : Wo QA X (fIxY s a (.val (.int i))) := by
  unfold fIxY; rw [e0]; simp only []
  unfold fIx; simp only []
  split
  · cases n
  · rw [e3]; simp only []; rw [e1]; simp only []; rw [e2]; exact h
theorem w_ixI {a : AI} {ns : List Int} {i : Int} (n : noS a = true) (e0 : viewD s a = none) (e1 : viewL s a = some (ns.map D.int)) (h0 : 0 ≤ i) (h1 : i < ns.length) (h : QA (.val (.int (ns.getD i.toNat 0))) s) : Wo QA X (fIxY s a (.val (.int i))) := w_ixL n e0 e1 (atI_int h0 h1) h
theorem w_ixK {a : AI} {l : List (Key × D)} {i : D} {k : Key} {d : D} (e0 : viewD s a = some l) (ek : keyOf i = some k) (e : vl l k = some d) (h : QA (.val d) s) : Wo QA X (fIxY s a (.val i)) := by
  unfold fIxY; rw [e0]; simp only []
  cases i <;> first | (cases ek; simp only []; rw [e]; exact h) | cases ek
theorem w_tru (h : Wo (fun a s1 => ∃ d b, look s1 a = some d ∧ truD s1.M d = some b ∧ QB b s1) X (m s)) : Wo QB X (mTru m s) := w_bind (w_mono h fun a s1 ⟨d, b, e1, e2, k⟩ => by rw [e1]; show Wo QB X (match truD s1.M d with | some b => Ro.ok b s1 | none => .no); rw [e2]; exact k)
theorem w_bl (h : Wo (fun a s1 => ∃ b, a = .val (.bl b) ∧ QB b s1) X (m s)) : Wo QB X (mBl m s) := w_bind (w_mono h fun a s1 ⟨b, e, k⟩ => by subst e; exact k)
theorem w_blB {b : Bool} (h : QB b s) : ∃ b', AI.val (.bl b) = .val (.bl b') ∧ QB b' s := ⟨b, rfl, h⟩
theorem w_and {c1 c2 : Mo Bool} (h : Wo (fun k s1 => if k = true then Wo QB X (c2 s1) else QB false s1) X (c1 s)) : Wo QB X (mAnd c1 c2 s) := w_bind (w_mono h fun k s1 h => by cases k <;> exact h)
theorem w_or {c1 c2 : Mo Bool} (h : Wo (fun k s1 => if k = true then QB true s1 else Wo QB X (c2 s1)) X (c1 s)) : Wo QB X (mOr c1 c2 s) := w_bind (w_mono h fun k s1 h => by cases k <;> exact h)
theorem w_not {c1 : Mo Bool} (h : Wo (fun k s1 => QB (!k) s1) X (c1 s)) : Wo QB X (mNot c1 s) := w_bind h
theorem w_andV (h : Wo (fun a s1 => ∃ k, a = .val (.bl k) ∧ if k = true then Wo QA X (m2 s1) else QA (.val (.bl false)) s1) X (m1 s)) : Wo QA X (mAndV m1 m2 s) := w_bind (w_mono h fun a s1 ⟨k, e, h⟩ => by subst e; cases k <;> exact h)
theorem w_orV (h : Wo (fun a s1 => ∃ k, a = .val (.bl k) ∧ if k = true then QA (.val (.bl true)) s1 else Wo QA X (m2 s1)) X (m1 s)) : Wo QA X (mOrV m1 m2 s) := w_bind (w_mono h fun a s1 ⟨k, e, h⟩ => by subst e; cases k <;> exact h)
theorem w_notV (h : Wo (fun a s1 => ∃ k, a = .val (.bl k) ∧ QA (.val (.bl (!k))) s1) X (m1 s)) : Wo QA X (mNotV m1 s) := w_bind (w_mono h fun a s1 ⟨k, e, h⟩ => by subst e; exact h)
theorem w_blV {b : Bool} {P : Bool → Prop} (h : P b) : ∃ k, AI.val (.bl b) = .val (.bl k) ∧ P k := ⟨b, rfl, h⟩
theorem w_ifE {c : Mo Bool} {m1 m2 : Mo α} (h : Wo (fun k s1 => if k = true then Wo Q X (m1 s1) else Wo Q X (m2 s1)) X (c s)) : Wo Q X (mIf c m1 m2 s) := w_bind (w_mono h fun k s1 h => by cases k <;> exact h)
theorem w_chain {f f' : Stt → AI → AI → Ro AI} (h : Wo (fun a s1 => Wo (fun b s2 => Wo (fun z s3 => ∃ k, z = .val (.bl k) ∧ if k = true then Wo (fun c s4 => Wo QA X (f' s4 b c)) X (m3 s3) else QA (.val (.bl false)) s3) X (f s2 a b)) X (m2 s1)) X (m1 s)) : Wo QA X (mChain f f' m1 m2 m3 s) :=
  w_bind (w_mono h fun a s1 h => w_bind (w_mono h fun b s2 h => w_bind (w_mono h fun z s3 ⟨k, e, h⟩ => by subst e; cases k with | true => exact w_bind h | false => exact h)))
theorem w_aNil (h : QL [] s) : Wo QL X (aNil s) := h
theorem w_aCons {r : Mo (List AI)} (h : Wo (fun a s1 => Wo (fun as s2 => QL (a :: as) s2) X (r s1)) X (m s)) : Wo QL X (aCons m r s) := w_bind (w_mono h fun _ _ h => w_bind h)
theorem w_vNil (h : QV [] s) : Wo QV X (vNil s) := h
theorem w_vCons {r : Mo (List D)} (h : Wo (fun d s1 => Wo (fun as s2 => QV (d :: as) s2) X (r s1)) X (mV m s)) : Wo QV X (vCons m r s) := w_bind (w_mono h fun _ _ h => w_bind h)
theorem w_V (h : Wo (fun a s1 => Wo QD X (toV a s1)) X (m s)) : Wo QD X (mV m s) := w_bind h
theorem w_toVV {d : D} (h : QD d s) : Wo QD X (toV (.val d) s) := h
theorem w_toVN {c : Cn} (h : QD c.toD s) : Wo QD X (toV (.new c) s) := h
theorem w_toVS {c : Cn} (e : entAt s i = some (.ow c)) (h : QD c.toD ⟨s.env.set i (some (.fz c.toD)), s.M⟩) : Wo QD X (toV (.slot i) s) := by
  show Wo QD X (match entAt s i with | some (.ow c) => Ro.ok c.toD ⟨s.env.set i (some (.fz c.toD)), s.M⟩ | some (.fz d) => Ro.ok d s | _ => Ro.no)
  rw [e]; exact h
theorem w_lst {r : Mo (List D)} (h : Wo (fun l s1 => l.length ≤ sizeLine ∧ QA (.new (.lst l)) s1) X (r s)) : Wo QA X (mLst r s) := w_bind (w_mono h fun l s1 ⟨c, h⟩ => by show Wo QA X (if _ then _ else _); rw [if_pos c]; exact h)
theorem w_tup {r : Mo (List D)} (h : Wo (fun l s1 => l.length ≤ sizeLine ∧ QA (.val (.tup l)) s1) X (r s)) : Wo QA X (mTup r s) := w_bind (w_mono h fun l s1 ⟨c, h⟩ => by show Wo QA X (if _ then _ else _); rw [if_pos c]; exact h)
theorem w_oNo (h : QO none s) : Wo QO X (oNo s) := h
theorem w_oSm (h : Wo (fun a s1 => ∃ i, a = .val (.int i) ∧ QO (some i) s1) X (m s)) : Wo QO X (oSm m s) := w_bind (w_mono h fun a s1 ⟨i, e, h⟩ => by subst e; exact h)
theorem w_intI {i : Int} {P : Int → Prop} (h : P i) : ∃ k, AI.val (.int i) = .val (.int k) ∧ P k := ⟨i, rfl, h⟩
theorem w_sl {ml mh : Mo (Option Int)} (h : Wo (fun a s1 => Wo (fun l s2 => Wo (fun u s3 => Wo QA X (fSl s3 a l u)) X (mh s2)) X (ml s1)) X (m s)) : Wo QA X (mSl m ml mh s) := w_bind (w_mono h fun _ _ h => w_bind (w_mono h fun _ _ h => w_bind h))
theorem w_slL {a : AI} {l : List D} {lo hi : Option Int} (n : noS a = true) (e : viewL s a = some l) (h : QA (.new (.lst (cutL l lo hi))) s) : Wo QA X (fSl s a lo hi) := by
  unfold fSl
  split
  · cases n
  · rw [e]; exact h
theorem w_slS {x : Str} {lo hi : Option Int} (c : x.length ≤ sizeLine) (h : QA (.val (.str (cutS x lo hi))) s) : Wo QA X (fSl s (.val (.str x)) lo hi) := by
  show Wo QA X (if _ then _ else _); rw [if_pos c]; exact h
theorem w_cb {f : Stt → List AI → Ro AI} {r : Mo (List AI)} (h : Wo (fun as s1 => Wo QA X (f s1 as)) X (r s)) : Wo QA X (mCB f r s) := w_bind h
theorem w_len {a : AI} {d : D} {n : Nat} (e1 : look s a = some d) (e2 : lenD s.M d = some n) (h : QA (.val (.int (n : Int))) s) : Wo QA X (fLen s [a]) := by
  unfold fLen; simp only []; rw [e1]; show Wo QA X (match lenD s.M d with | some n => _ | none => _); rw [e2]; exact h
theorem w_ints {g : List Int → Option D} {a : AI} {l : List D} {ns : List Int} {d : D} (e1 : viewL s a = some l) (e2 : intsD l = some ns) (e3 : g ns = some d) (h : QA (.val d) s) : Wo QA X (fInts g s [a]) := by
  unfold fInts; simp only []; rw [e1]; show Wo QA X (match (intsD l).bind g with | some d => _ | none => _); rw [e2]; show Wo QA X (match g ns with | some d => _ | none => _); rw [e3]; exact h
theorem w_bls {g : List Bool → D} {a : AI} {l : List D} {bs : List Bool} (e1 : viewL s a = some l) (e2 : blsD l = some bs) (h : QA (.val (g bs)) s) : Wo QA X (fBls g s [a]) := by
  unfold fBls; simp only []; rw [e1]; show Wo QA X (match blsD l with | some d => _ | none => _); rw [e2]; exact h
theorem w_I2 {g : Int → Int → Int} {i j : Int} (h : QA (.val (.int (g i j))) s) : Wo QA X (fI2 g s [.val (.int i), .val (.int j)]) := h
theorem w_list {a : AI} {l : List D} (e : viewL s a = some l) (h : QA (.new (.lst l)) s) : Wo QA X (fList s [a]) := by unfold fList; simp only []; rw [e]; exact h
theorem w_intB {k : Bool} (h : QA (.val (.int (if k then 1 else 0))) s) : Wo QA X (fInt s [.val (.bl k)]) := h
theorem w_isi {a : AI} {n : String} {t : String} {d : D} {b : Bool} (e1 : look s a = some d) (e2 : kindD s.M d = some n) (e3 : kitB n t = some b) (h : QA (.val (.bl b)) s) : Wo QA X (fIsi s [a, .val (.ty t)]) := by
  unfold fIsi; simp only []; rw [e1]; show Wo QA X (match (kindD s.M d).bind fun n => kitB n t with | some b => _ | none => _); rw [e2]; show Wo QA X (match kitB n t with | some b => _ | none => _); rw [e3]; exact h
theorem w_bm {f : Stt → AI → List D → Ro AI} {mo : Mo AI} {ma : Mo (List D)} (h : Wo (fun a s1 => ∃ l, viewL s1 a = some l ∧ Wo (fun ds s2 => Wo QA X (f s2 a ds)) X (ma s1)) X (mo s)) : Wo QA X (mBM f mo ma s) := w_bind (w_mono h fun a s1 ⟨l, e, h⟩ => by
  show Wo QA X (match viewL s1 a with | some _ => _ | none => _); rw [e]; exact w_bind h)
theorem w_app {a : AI} {l : List D} {d : D} (e : getC s a = some (.lst l)) (c : l.length < sizeLine) (h : QA (.val .non) (setC s a (.lst (l ++ [d])))) : Wo QA X (fApp s a [d]) := by
  unfold fApp; rw [e]; simp only []; rw [if_pos c]; exact h
theorem w_callN {f : Mf} {ma : Mo (List D)} (h : Wo (fun ds s1 => Fo (fun a M' => QA a ⟨s1.env, M'⟩) (f ds s1.M)) X (ma s)) : Wo QA X (mCallN f ma s) := w_bind (w_mono h fun ds s1 h => by
  show Wo QA X (match f ds s1.M with | .ok a M' => _ | _ => _)
  cases q : f ds s1.M <;> rw [q] at h <;> exact h)
theorem fo_eq {P : AI → List Cn → Prop} {r : Fr} {a : AI} {M' : List Cn} (e : r = .ok a M') (h : P a M') : Fo P r := by subst e; exact h
theorem fo_ok {P : AI → List Cn → Prop} {r : Fr} {a : AI} {M' : List Cn} (h : Fo (fun a' M'' => a' = a ∧ M'' = M') r) : r = .ok a M' := by
  cases r with
  | ok a' M'' => obtain ⟨rfl, rfl⟩ := h; rfl
  | er _ _ => exact False.elim h
  | no => exact False.elim h
/-- how a def ends -/
def Oe (P : AI → List Cn → Prop) : Rs → Prop
  | .rt a s => P a s.M
  | _ => False
theorem f_fn {P : AI → List Cn → Prop} {np n : Nat} {b : Ms} {ds : List D} (hl : ds.length = np) (h : Ws (fun s => P (.val .non) s.M) (Oe P) (b ⟨ds.map (fun d => some (.fz d)) ++ List.replicate (n - ds.length) none, M⟩)) : Fo P (mFn np n b ds M) := by
  unfold mFn
  rw [if_pos hl]
  cases q : b ⟨ds.map (fun d => some (.fz d)) ++ List.replicate (n - ds.length) none, M⟩ <;> rw [q] at h <;> exact h
theorem w_aug {f : Int → Int → Int} {x : Int} (e : entAt s i = some (.fz (.int x))) (h : Wo (fun a s1 => ∃ y, a = .val (.int y) ∧ N ⟨s1.env.set i (some (.fz (.int (f x y)))), s1.M⟩) (fun x s => O (.er x s)) (m s)) : Ws N O (mAug i f m s) := by
  unfold mAug; rw [e]
  exact w_toS (w_mono h fun a s1 ⟨y, e, h⟩ => by subst e; exact h)
theorem w_asgT {g : Tg} (h : Wo (fun d s1 => So N (g d s1)) (fun x s => O (.er x s)) (mV m s)) : Ws N O (mAsgT g m s) := w_toS (w_mono h fun d s1 h => by
  show Ws N O (match g d s1 with | some s2 => .nx s2 | none => .no)
  cases q : g d s1 <;> rw [q] at h <;> exact h)
theorem w_asgS {mo mi mv : Mo AI} (h : Wo (fun d s1 => Wo (fun a s2 => Wo (fun i s3 => So N (setIt a i d s3)) (fun x s => O (.er x s)) (mV mi s2)) (fun x s => O (.er x s)) (mo s1)) (fun x s => O (.er x s)) (mV mv s)) : Ws N O (mAsgS mo mi mv s) :=
  w_toS (w_mono h fun d s1 h => w_toS (w_mono h fun a s2 h => w_toS (w_mono h fun i s3 h => by
    show Ws N O (match setIt a i d s3 with | some s4 => .nx s4 | none => .no)
    cases q : setIt a i d s3 <;> rw [q] at h <;> exact h)))
theorem so_set {P : Stt → Prop} {s' : Stt} {r : Option Stt} (e : r = some s') (h : P s') : So P r := by subst e; exact h
def Lo (P N : Stt → Prop) (O : Rs → Prop) : Rs → Prop
  | .ct s => P s
  | .bk s => N s
  | r => O r
theorem w_for {mi : Mo Im} {g : Tg} {b : Ms} (h : Wo (fun im s1 => Ws N O (forN g b im.ck im.xs s1)) (fun x s => O (.er x s)) (mi s)) : Ws N O (mFor mi g b s) := w_toS h
theorem w_forN {g : Tg} {b : Ms} {xs : List D} (P : Nat → Stt → Prop) (h0 : P 0 s) (hs : ∀ i x s, xs[i]? = some x → P i s → So (fun s1 => Ws (P (i + 1)) (Lo (P (i + 1)) N O) (b s1)) (g x s)) (hd : ∀ s, P xs.length s → N s) : Ws N O (forN g b none xs s) := by
  induction xs generalizing P s with
  | nil => rw [forN_nil]; exact hd s h0
  | cons x xs ih =>
    have h1 := hs 0 x s rfl h0
    cases hg : g x s with
    | none => rw [hg] at h1; exact False.elim h1
    | some s1 =>
      rw [hg] at h1
      have h1 : Ws (P 1) (Lo (P 1) N O) (b s1) := h1
      rw [forN_cons hg]
      cases hb : b s1 with
      | nx s2 => rw [hb] at h1; exact ih (fun i => P (i + 1)) h1 (fun i y s e => hs (i + 1) y s e) hd
      | ct s2 => rw [hb] at h1; exact ih (fun i => P (i + 1)) h1 (fun i y s e => hs (i + 1) y s e) hd
      | bk s2 => rw [hb] at h1; exact h1
      | rt a s2 => rw [hb] at h1; exact h1
      | er x s2 => rw [hb] at h1; exact h1
      | no => rw [hb] at h1; exact h1
theorem w_rng1 {r : Mo (List AI)} (h : Wo (fun as s1 => ∃ n : Int, as = [.val (.int n)] ∧ (-(2 ^ 62) ≤ n ∧ n < 2 ^ 62) ∧ QI ⟨rng 0 n.toNat, none⟩ s1) X (r s)) : Wo QI X (mRng1 r s) := w_bind (w_mono h fun as s1 ⟨n, e, c, h⟩ => by subst e; simp only []; rw [if_pos (show CRg1 n from c)]; exact h)
theorem w_rng1I {n : Int} {P : Int → Prop} (c : -(2 ^ 62) ≤ n ∧ n < 2 ^ 62) (h : P n) : ∃ m : Int, [AI.val (.int n)] = [.val (.int m)] ∧ (-(2 ^ 62) ≤ m ∧ m < 2 ^ 62) ∧ P m := ⟨n, rfl, c, h⟩
theorem w_rng2 {r : Mo (List AI)} (h : Wo (fun as s1 => ∃ i j : Int, as = [.val (.int i), .val (.int j)] ∧ (-(2 ^ 62) ≤ i ∧ i < 2 ^ 62 ∧ -(2 ^ 62) ≤ j ∧ j < 2 ^ 62) ∧ QI ⟨rng i (j - i).toNat, none⟩ s1) X (r s)) : Wo QI X (mRng2 r s) := w_bind (w_mono h fun as s1 ⟨i, j, e, c, h⟩ => by subst e; simp only []; rw [if_pos (show CRg2 i j from c)]; exact h)
theorem w_rng2I {i j : Int} {P : Int → Int → Prop} (c : -(2 ^ 62) ≤ i ∧ i < 2 ^ 62 ∧ -(2 ^ 62) ≤ j ∧ j < 2 ^ 62) (h : P i j) : ∃ i' j' : Int, [AI.val (.int i), .val (.int j)] = [.val (.int i'), .val (.int j')] ∧ (-(2 ^ 62) ≤ i' ∧ i' < 2 ^ 62 ∧ -(2 ^ 62) ≤ j' ∧ j' < 2 ^ 62) ∧ P i' j' := ⟨i, j, rfl, c, h⟩
theorem w_wl (h : Wo (fun d s1 => ∃ l, Y.listOf s1.M d = some l ∧ QI ⟨l, ckOf d l⟩ s1) X (mV m s)) : Wo QI X (mWL m s) := w_bind (w_mono h fun d s1 ⟨l, e, h⟩ => by show Wo QI X (match Y.listOf s1.M d with | some l => _ | none => _); rw [e]; exact h)
theorem w_wt (h : Wo (fun d s1 => ∃ l, tupOf d = some l ∧ QI ⟨l, none⟩ s1) X (mV m s)) : Wo QI X (mWT m s) := w_bind (w_mono h fun d s1 ⟨l, e, h⟩ => by show Wo QI X (match tupOf d with | some l => _ | none => _); rw [e]; exact h)
theorem w_we {r : Mo (List D)} (h : Wo (fun ds s1 => ∃ d l, ds = [d] ∧ Y.listOf s1.M d = some l ∧ QI ⟨enumL l, ckOf d l⟩ s1) X (r s)) : Wo QI X (mWE r s) := w_bind (w_mono h fun ds s1 ⟨d, l, e0, e, h⟩ => by subst e0; show Wo QI X (match Y.listOf s1.M d with | some l => _ | none => _); rw [e]; exact h)
theorem w_ws (h : Wo (fun a s1 => ∃ x, a = .val (.str x) ∧ QI ⟨strL x, none⟩ s1) X (m s)) : Wo QI X (mWS m s) := w_bind (w_mono h fun a s1 ⟨x, e, h⟩ => by subst e; exact h)
theorem w_lc {ws : List Nat} {mi : Mo Im} {g : Tg} {c : Mo Bool} {e : Mo AI} (h : Wo (fun im s1 => ∃ l s2, lcN ws g c (mV e) im.ck im.xs [] (wipeS ws s1) = .ok l s2 ∧ QA (.new (.lst l)) ⟨Y.rest s1.env s2.env ws, s2.M⟩) X (mi s)) : Wo QA X (mLc ws mi g c e s) := w_bind (w_mono h fun im s1 ⟨l, s2, e, h⟩ => by
  show Wo QA X (match lcN ws g c (mV _) im.ck im.xs [] (wipeS ws s1) with | .ok l s2 => _ | _ => _)
  rw [e]; exact h)
/-- every item is f of its part; the state comes back -/
theorem w_lcMap {ws : List Nat} {g : Tg} {e : Mo D} {xs : List D} {P : List D → Stt → Prop} (f : D → D) (hz : xs.length ≤ sizeLine) (h : ∀ x ∈ xs, So (fun s1 => Wo (fun d s2 => d = f x ∧ wipeS ws s2 = s) Xf (e s1)) (g x s)) (k : P (xs.map f) s) : ∃ l s2, lcN ws g mYes e none xs [] s = .ok l s2 ∧ P l s2 := by
  refine ⟨xs.map f, s, ?_, k⟩
  have := lc_map (ws := ws) (g := g) (e := e) (s := s) f hz (fun x hx => by
    have h1 := h x hx
    cases hg : g x s with
    | none => rw [hg] at h1; exact h1
    | some s1 =>
      rw [hg] at h1
      have h1 : Wo (fun d s2 => d = f x ∧ wipeS ws s2 = s) Xf (e s1) := h1
      show Ok _ (e s1)
      cases q : e s1 <;> rw [q] at h1 <;> exact h1) [] (by simpa using hz)
  simpa using this
theorem so_some {P : Stt → Prop} (h : P s) : So P (some s) := h
end
end Y
namespace Y
open PySem L2 Z
section
variable {QA : AI → Stt → Prop} {X : Exn → Stt → Prop} {s : Stt}
theorem shaped_str {x : Str} (h : PySem.PyData.strOk x = true) : SeqAt.shaped (.str x) = true := by
  unfold SeqAt.shaped
  rw [show PyData.canLay0 (.str x) = true from h]; rfl
theorem eqv_str (x y : Str) : PyData.eqv (.str x) (.str y) = decide (x = y) := by
  show (x == y) = _
  by_cases h : x = y
  · subst h; simp
  · simp [h]
theorem w_eqS {x y : Str} (c : PySem.PyData.strOk x = true) (c' : PySem.PyData.strOk y = true) (h : QA (.val (.bl (decide (x = y)))) s) : Wo QA X (fEq s (.val (.str x)) (.val (.str y))) :=
  w_eq (eqOf_of (x := .str x) (y := .str y) rfl rfl (shaped_str c) (shaped_str c') (eqv_str x y)) h
theorem w_neS {x y : Str} (c : PySem.PyData.strOk x = true) (c' : PySem.PyData.strOk y = true) (h : QA (.val (.bl (!decide (x = y)))) s) : Wo QA X (fNe s (.val (.str x)) (.val (.str y))) :=
  w_ne (eqOf_of (x := .str x) (y := .str y) rfl rfl (shaped_str c) (shaped_str c') (eqv_str x y)) h
end
end Y
namespace Y
open PySem L2 Z
mutual
def D.noId : D → Bool
  | .tup l => D.noIdL l
  | .ctp l => D.noIdL l
  | .lst l => D.noIdL l
  | .clst l => D.noIdL l
  | .dK l => D.noIdK l
  | .dT l => D.noIdT l
  | .cid _ => false
  | _ => true
def D.noIdL : List D → Bool
  | [] => true
  | d :: l => d.noId && D.noIdL l
def D.noIdK : List (Key × D) → Bool
  | [] => true
  | (_, d) :: l => d.noId && D.noIdK l
def D.noIdT : List (List Key × D) → Bool
  | [] => true
  | (_, d) :: l => d.noId && D.noIdT l
end
def D.scal : D → Bool
  | .non => true
  | .bl _ => true
  | .int _ => true
  | .str _ => true
  | _ => false
section
variable {K : PySem.W.Frag} {ct : Ct} {H0 : Hp} {W : WX} {S : Sh} {s : Stt} {σ : St} {H : Hp} {G : Hp} {α α' : Nat → Addr} {n : Nat}
theorem noIdK_vals : ∀ {l : List (Key × D)}, D.noIdK l = true → D.noIdL (l.map Prod.snd) = true
  | [], _ => rfl
  | (k, d) :: l, h => by
    have h : (d.noId && D.noIdK l) = true := h
    rw [Bool.and_eq_true] at h
    show (d.noId && D.noIdL (l.map Prod.snd)) = true
    rw [h.1, noIdK_vals h.2]; rfl
theorem noIdT_vals : ∀ {l : List (List Key × D)}, D.noIdT l = true → D.noIdL (l.map Prod.snd) = true
  | [], _ => rfl
  | (k, d) :: l, h => by
    have h : (d.noId && D.noIdT l) = true := h
    rw [Bool.and_eq_true] at h
    show (d.noId && D.noIdL (l.map Prod.snd)) = true
    rw [h.1, noIdT_vals h.2]; rfl
mutual
theorem Rp.noId : ∀ {v : V} {d : D}, Rp K G α n v d → d.noId = true → Rp K G α' 0 v d
  | _, _, .non, _ => .non
  | _, _, .bl b, _ => .bl b
  | _, _, .int i, _ => .int i
  | _, _, .str x, _ => .str x
  | _, _, .ty x, _ => .ty x
  | _, _, .tup h r, e => .tup h (RpL.noId r e)
  | _, _, .ctp h r, e => .ctp h (RpL.noId r e)
  | _, _, .lst h r, e => .lst h (RpL.noId r e)
  | _, _, .clst h r, e => .clst h (RpL.noId r e)
  | _, _, .dK h q r, e => .dK h q (RpL.noId r (noIdK_vals e))
  | _, _, .dT h q r, e => .dT h q (RpL.noId r (noIdT_vals e))
  | _, _, .cid h, e => by cases e
theorem RpL.noId : ∀ {vs : List V} {l : List D}, RpL K G α n vs l → D.noIdL l = true → RpL K G α' 0 vs l
  | _, _, .nil, _ => .nil
  | _, _, .cons (d := d) (l := l) h r, e => by
    have e : (d.noId && D.noIdL l) = true := e
    rw [Bool.and_eq_true] at e
    exact .cons (Rp.noId h e.1) (RpL.noId r e.2)
end
theorem Rp.scal {G' : Hp} {n' : Nat} {v : V} {d : D} (h : Rp K G α n v d) (e : d.scal = true) : Rp K G' α' n' v d := by
  cases h <;> first | exact .non | exact .bl _ | exact .int _ | exact .str _ | cases e
def snap (s : Stt) : List AI → Option (List D)
  | [] => some []
  | a :: as => (look s a).bind fun d => (snap s as).map (d :: ·)
def mCallB (f : Mf) (m : Mo (List AI)) : Mo AI := fun s => (m s).bind fun as s1 => match snap s1 as with
  | some ds => if D.noIdL ds = true then (match f ds [] with
    | .ok (.val d) _ => if d.scal = true then .ok (.val d) s1 else .no
    | _ => .no) else .no
  | none => .no
variable {QA : AI → Stt → Prop} {X : Exn → Stt → Prop}
theorem w_callB {f : Mf} {m : Mo (List AI)} (h : Wo (fun as s1 => ∃ ds d M', snap s1 as = some ds ∧ D.noIdL ds = true ∧ f ds [] = .ok (.val d) M' ∧ d.scal = true ∧ QA (.val d) s1) X (m s)) : Wo QA X (mCallB f m s) := w_bind (w_mono h fun as s1 ⟨ds, d, M', e1, e2, e3, e4, h⟩ => by
  show Wo QA X (match snap s1 as with | some ds => _ | none => _)
  rw [e1]; show Wo QA X (if _ then _ else _); rw [if_pos e2, e3]; show Wo QA X (if _ then _ else _); rw [if_pos e4]; exact h)
theorem noIdL_ints (ns : List Int) : D.noIdL (ns.map D.int) = true := by
  induction ns with
  | nil => rfl
  | cons n ns ih => show (true && D.noIdL (ns.map D.int)) = true; rw [ih]; rfl
mutual
theorem eqv_self : ∀ x : PyData, x.canLay0 = true → x.eqv x = true
  | .none, _ => rfl
  | .bool b, _ => by show (b == b) = true; simp
  | .int i, _ => by show (i == i) = true; simp
  | .str x, _ => by show (x == x) = true; simp
  | .list xs, h => eqvAll_self xs h
  | .tuple xs, h => eqvAll_self xs h
  | .dict _, h => by cases h
theorem eqvAll_self : ∀ xs : List PyData, PyData.canLayAll0 xs = true → PyData.eqvAll xs xs = true
  | [], _ => rfl
  | x :: xs, h => by
    have h : (x.canLay0 && PyData.canLayAll0 xs) = true := h
    rw [Bool.and_eq_true] at h
    show (x.eqv x && PyData.eqvAll xs xs) = true
    rw [eqv_self x h.1, eqvAll_self xs h.2]; rfl
end
theorem eqOf_same {a b : AI} {x : PyData} (e1 : pyOf s a = some x) (e2 : pyOf s b = some x) (h : SeqAt.shaped x = true) : eqOf s a b = some true :=
  eqOf_of e1 e2 h h (eqv_self x (by unfold SeqAt.shaped at h; rw [Bool.and_eq_true] at h; exact h.1))
end
end Y
namespace Y
theorem fo_use {P P' : AI → List Cn → Prop} {r : Fr} (h : Fo P r) (k : ∀ a M', P a M' → P' a M') : Fo P' r := by
  cases r with
  | ok a M => exact k a M h
  | er _ _ => exact h
  | no => exact h
end Y
namespace Y
theorem w_neg {QA : AI → Stt → Prop} {X : Exn → Stt → Prop} {s : Stt} {i : Int} (h : QA (.val (.int (-i))) s) : Wo QA X (fNeg s (.val (.int i))) := h
end Y
namespace Y
section
variable {P : Bool → Prop} {s : Stt}
theorem w_truB {b : Bool} (h : P b) : ∃ d b', look s (.val (.bl b)) = some d ∧ truD s.M d = some b' ∧ P b' := ⟨_, _, rfl, rfl, h⟩
theorem w_truI {i : Int} (h : P (!decide (i = 0))) : ∃ d b', look s (.val (.int i)) = some d ∧ truD s.M d = some b' ∧ P b' := ⟨_, _, rfl, rfl, h⟩
end
end Y
namespace Y
open PySem L2 Z
section
variable {K : PySem.W.Frag} {ct : Ct} {H0 : Hp} {W : WX} {S : Sh} {s : Stt} {σ : St} {H : Hp}
def CLR1 (n : Int) : Prop := 0 ≤ n ∧ n ≤ sizeLine
open Classical in
noncomputable def mLR1 (m : Mo AI) : Mo AI := fun s => (m s).bind fun a s1 => match a with
  | .val (.int n) => if CLR1 n then .ok (.new (.lst (rng 0 n.toNat))) s1 else .no
  | _ => .no
def mCallC (f : Mf) (m : Mo (List AI)) : Mo AI := fun s => (m s).bind fun as s1 => match snap s1 as with
  | some ds => if D.noIdL ds = true then (match f ds [] with
    | .ok (.new (.lst l)) _ => if l.all D.scal = true then .ok (.new (.lst l)) s1 else .no
    | _ => .no) else .no
  | none => .no
theorem RpL.scal {G G' : Hp} {α α' : Nat → Addr} {n n' : Nat} : ∀ {vs : List V} {l : List D}, RpL K G α n vs l → l.all D.scal = true → RpL K G' α' n' vs l
  | _, _, .nil, _ => .nil
  | _, _, .cons (d := d) (l := l) h r, e => by
    rw [List.all_cons, Bool.and_eq_true] at e
    exact .cons (Rp.scal h e.1) (RpL.scal r e.2)
variable {X : Exn → Stt → Prop} {QA : AI → Stt → Prop}
theorem w_callC {f : Mf} {m : Mo (List AI)} (h : Wo (fun as s1 => ∃ ds l M', snap s1 as = some ds ∧ D.noIdL ds = true ∧ f ds [] = .ok (.new (.lst l)) M' ∧ l.all D.scal = true ∧ QA (.new (.lst l)) s1) X (m s)) : Wo QA X (mCallC f m s) := w_bind (w_mono h fun as s1 ⟨ds, d, M', e1, e2, e3, e4, h⟩ => by
  show Wo QA X (match snap s1 as with | some ds => _ | none => _)
  rw [e1]; show Wo QA X (if _ then _ else _); rw [if_pos e2, e3]; show Wo QA X (if _ then _ else _); rw [if_pos e4]; exact h)
theorem w_lr1 {m : Mo AI} (h : Wo (fun a s1 => ∃ n : Int, a = .val (.int n) ∧ 0 ≤ n ∧ n ≤ sizeLine ∧ QA (.new (.lst (rng 0 n.toNat))) s1) X (m s)) : Wo QA X (mLR1 m s) := w_bind (w_mono h fun a s1 ⟨n, e, c1, c2, h⟩ => by
  subst e; simp only []; rw [if_pos (show CLR1 n from ⟨c1, c2⟩)]; exact h)
theorem w_lr1I {n : Int} {s : Stt} (c1 : 0 ≤ n) (c2 : n ≤ sizeLine) (h : QA (.new (.lst (rng 0 n.toNat))) s) : ∃ m : Int, (AI.val (.int n)) = .val (.int m) ∧ 0 ≤ m ∧ m ≤ sizeLine ∧ QA (.new (.lst (rng 0 m.toNat))) s := ⟨n, rfl, c1, c2, h⟩
end
end Y
namespace Y
open PySem L2 Z
section
variable {K : PySem.W.Frag} {ct : Ct} {H0 : Hp} {W : WX} {S : Sh} {s : Stt} {σ : St} {H : Hp}
def Sh.tr (S : Sh) (n : Nat) (p : Addr) : Sh := ⟨S.G, fun k => if k = n then p else S.α k, fun a => if a = p then some (.id n) else S.lab a⟩
theorem Rel.track {p : Addr} {c : Cn} (r : Rel K ct H0 S s σ H) (hl : S.lab p = none) (hg : S.G p = none) (h : CnOk K ct S s.M.length H p c) : Rel K ct H0 (S.tr s.M.length p) ⟨s.env, s.M ++ [c]⟩ σ H := by
  have hlen : (s.M ++ [c]).length = s.M.length + 1 := by simp
  have al : ∀ k, k < s.M.length → (S.tr s.M.length p).α k = S.α k := fun k hk => if_neg (by omega)
  have lb : ∀ {a : Addr} {l : Lab}, S.lab a = some l → (S.tr s.M.length p).lab a = some l := fun {a l} hh => by
    show (if a = p then _ else S.lab a) = _
    rw [if_neg (fun z => by subst z; rw [hl] at hh; cases hh)]; exact hh
  have cn : ∀ {a : Addr} {c' : Cn}, CnOk K ct S s.M.length H a c' → CnOk K ct (S.tr s.M.length p) (s.M ++ [c]).length H a c' := fun {a c'} h => CnOk.mono (S := S) (n := s.M.length) (fun _ _ e => e) al (by rw [hlen]; omega) (fun _ e => e) h
  refine ⟨r.sub, fun a l q => ?_, r.dom, r.len, fun j en q => ?_, fun k c' q => ?_⟩
  · have q1 : (if a = p then some (Lab.id s.M.length) else S.lab a) = some l := q
    by_cases z : a = p
    · subst z; exact ⟨hg, by obtain ⟨u, hu⟩ := h.some; exact ⟨u, hu, h.nt hu⟩⟩
    · rw [if_neg z] at q1; exact r.lg a l q1
  · have hh := r.slot j en q
    cases en with
    | fz d => obtain ⟨v, k1, k2⟩ := hh; exact ⟨v, k1, k2.mono (fun _ _ e => e) al (by show _ ≤ (s.M ++ [c]).length; rw [hlen]; omega)⟩
    | xn x => exact xn_mono (S := S) (n := s.M.length) (H := H) (fun _ _ e => e) al (by show _ ≤ (s.M ++ [c]).length; rw [hlen]; omega) rfl hh
    | ow c2 =>
      obtain ⟨a, k1, k2, k3, k4, k5⟩ := hh
      exact ⟨a, k1, k2, lb k3, k4, cn k5⟩
  · have q1 : (s.M ++ [c])[k]? = some c' := q
    by_cases z : k < s.M.length
    · rw [List.getElem?_append_left z] at q1
      obtain ⟨k1, k2⟩ := r.ids k c' q1
      rw [al k z]
      exact ⟨lb k1, cn k2⟩
    · have hk : k = s.M.length := by
        have := (List.getElem?_eq_some_iff.mp q1).1
        rw [hlen] at this; omega
      subst hk
      rw [List.getElem?_append_right (Nat.le_refl _), Nat.sub_self] at q1
      cases q1
      have e : (S.tr s.M.length p).α s.M.length = p := if_pos rfl
      rw [e]
      exact ⟨if_pos rfl, cn h⟩
theorem Stp.track {S' : Sh} {n n' : Nat} {H' : Hp} {p : Addr} (t : Stp S n H S' n' H') (hp : H p = none) : Stp S n H (S'.tr n' p) (n' + 1) H' where
  g := t.g
  le := Nat.le_succ_of_le t.le
  al := fun k hk => by
    show (if k = n' then p else S'.α k) = _
    rw [if_neg (by have := t.le; omega)]; exact t.al k hk
  fr := fun a o h l => by
    obtain ⟨h1, h2⟩ := t.fr a o h l
    refine ⟨h1, ?_⟩
    show (if a = p then _ else S'.lab a) = none
    rw [if_neg (ne_of_none h hp)]; exact h2
  gn := t.gn
  fz := t.fz
  dom := t.dom
theorem tr_cid {n : Nat} {p : Addr} : Rp K (S.tr n p).G (S.tr n p).α (n + 1) (.ref p) (.cid n) := by
  have h : Rp K (S.tr n p).G (S.tr n p).α (n + 1) (.ref ((S.tr n p).α n)) (.cid n) := .cid (Nat.lt_succ_self n)
  have e : (S.tr n p).α n = p := if_pos rfl
  rw [e] at h; exact h
/-- x = e, and the new thing is tracked -/
def mAsgK (i : Nat) (m : Mo AI) : Ms := fun s => (m s).toS fun a s1 => match a with
  | .new c => .nx ⟨s1.env.set i (some (.fz (.cid s1.M.length))), s1.M ++ [c]⟩
  | _ => .no
theorem sv_asgK {i : Nat} {te : TE} {m : Mo AI} (h : Ei K ct H0 W te m) : Sv K ct H0 W (tAsg te (gName i)) (mAsgK i m) := fun S s σ H Dn rel p =>
  h S s σ H _ rel (PstS.bind p fun S1 s1 H1 x a st1 rel1 i1 p1 => by
    show Dn.nx (σ.set i (some x)) H1
    split at p1
    · rename_i c
      obtain ⟨q, rfl, h1, h2, h3, h4, h5⟩ := i1
      have rt := rel1.track h2 h3 h5
      have hlen : (s1.M ++ [c]).length = s1.M.length + 1 := by simp
      refine p1 ((S1.tr s1.M.length q).un i) _ H1 ?_ (rt.setFz (by show Rp _ _ _ (s1.M ++ [c]).length _ _; rw [hlen]; exact tr_cid))
      show Stp S s.M.length H _ (s1.M ++ [c]).length H1
      rw [hlen]
      exact (st1.track h1).trans .un
    · exact False.elim p1)
def strsD : List D → Option (List Str)
  | [] => some []
  | .str i :: l => (strsD l).map (i :: ·)
  | _ :: _ => none
theorem strs_rp {G : Hp} {α : Nat → Addr} {n : Nat} : ∀ {l : List D} {vs : List V} {ns : List Str}, RpL K G α n vs l → strsD l = some ns → vs = ns.map V.str
  | [], _, _, .nil, e => by cases e; rfl
  | .str i :: l, _, ns, .cons h r, e => by
    obtain ⟨ms, q, rfl⟩ := Option.map_eq_some_iff.mp (show (strsD l).map (i :: ·) = some ns from e)
    rw [rp_str h, strs_rp r q]; rfl
  | .non :: _, _, _, _, e => by cases e
  | .bl _ :: _, _, _, _, e => by cases e
  | .int _ :: _, _, _, _, e => by cases e
  | .tup _ :: _, _, _, _, e => by cases e
  | .ctp _ :: _, _, _, _, e => by cases e
  | .lst _ :: _, _, _, _, e => by cases e
  | .clst _ :: _, _, _, _, e => by cases e
  | .dK _ :: _, _, _, _, e => by cases e
  | .dT _ :: _, _, _, _, e => by cases e
  | .cid _ :: _, _, _, _, e => by cases e
  | .ty _ :: _, _, _, _, e => by cases e
theorem strsD_map (ns : List Str) : strsD (ns.map D.str) = some ns := by
  induction ns with
  | nil => rfl
  | cons n ns ih => show (strsD (ns.map D.str)).map (n :: ·) = _; rw [ih]; rfl
def mJoin (mo ma : Mo AI) : Mo AI := fun s => (mo s).bind fun a s1 => match a with
  | .val (.str x) => (ma s1).bind fun b s2 => match (viewL s2 b).bind strsD with
    | some ys => if (ys.map (·.length)).sum + ys.length * x.length ≤ 16777216 then .ok (.val (.str (Txt.join x ys))) s2 else .no
    | none => .no
  | _ => .no
def rJoinY (K : PySem.W.Frag) : V → List V → Hp → VK → Prop := fun x xs H Q => ∃ a p, ∃ ys : List Str, x = .str a ∧ xs = [.ref p] ∧ (SqL K H p (ys.map V.str) ∨ SqT K H p (ys.map V.str)) ∧
    (ys.map (·.length)).sum + ys.length * a.length ≤ 16777216 ∧ Q (.str (Txt.join a ys)) H
theorem ei_join {to te : TE} {mo ma : Mo AI} (ho : Ei K ct H0 W to mo) (ha : Ei K ct H0 W te ma) : Ei K ct H0 W (tM1 (rJoinY K) to te) (mJoin mo ma) := fun S s σ H Q rel p =>
  ho S s σ H _ rel (Pst.bind bI p fun S1 s1 H1 x a st1 rel1 i1 p1 => by
    split at p1
    · rename_i z
      cases rp_str i1
      refine ⟨⟨z, rfl⟩, ha S1 s1 σ H1 _ rel1 (Pst.bind bI p1 fun S2 s2 H2 y b st2 rel2 i2 p2 => ?_)⟩
      split at p2
      · rename_i ys e
        split at p2
        · rename_i hz
          obtain ⟨l, e1, e2⟩ := Option.bind_eq_some_iff.mp e
          obtain ⟨q, us, rfl, k1, k2⟩ := viewL_ok rel2 i2 e1
          rw [strs_rp k2 e2] at k1
          exact ⟨z, q, ys, rfl, rfl, .inl k1, hz, p2.val rel2 (.str _)⟩
        · exact False.elim p2
      · exact False.elim p2
    · exact False.elim p1)
theorem pe_joinY {X : Cx} {K : PySem.W.Frag} {o e : Expr} {to te : TE} {apos pos : Pos} (hK : X.K = K) (ho : PE X o to) (he : PE X e te) (hs : starEach [e] X.env = [(false, eval e X.env)] := by rfl) (hbase : attributeBase o "join" X.env (eval o X.env) = eval o X.env := by rfl) (hline : (apos.endLine == pos.line) = true := by rfl) :
    PE X (.Call (.Attribute o "join" apos) [e] [] pos) (tM1 (rJoinY K) to te) := by subst hK; exact pe_join ho he hs hbase hline
def fMulS : Stt → AI → AI → Ro AI := fun s a b => match a, b with
  | .val (.str x), .val (.int n) => if x.length ≤ 16 ∧ 0 ≤ n ∧ n ≤ 1048576 then .ok (.val (.str (Txt.mul x n))) s else .no
  | _, _ => .no
variable {X : Exn → Stt → Prop} {QA : AI → Stt → Prop} {N : Stt → Prop} {O : Rs → Prop}
theorem w_asgK {i : Nat} {m : Mo AI} (h : Wo (fun a s1 => ∃ c, a = .new c ∧ N ⟨s1.env.set i (some (.fz (.cid s1.M.length))), s1.M ++ [c]⟩) (fun x s => O (.er x s)) (m s)) : Ws N O (mAsgK i m s) := w_toS (w_mono h fun a s1 ⟨c, e, h⟩ => by subst e; exact h)
theorem w_sjoin {mo ma : Mo AI} (h : Wo (fun a s1 => ∃ x, a = .val (.str x) ∧ Wo (fun b s2 => ∃ ys, (viewL s2 b).bind strsD = some ys ∧ (ys.map (·.length)).sum + ys.length * x.length ≤ 16777216 ∧ QA (.val (.str (Txt.join x ys))) s2) X (ma s1)) X (mo s)) : Wo QA X (mJoin mo ma s) := w_bind (w_mono h fun a s1 ⟨x, e, h⟩ => by
  subst e; exact w_bind (w_mono h fun b s2 ⟨ys, e1, c, h⟩ => by
    show Wo QA X (match (viewL s2 b).bind strsD with | some ys => _ | none => _)
    rw [e1]; show Wo QA X (if _ then _ else _); rw [if_pos c]; exact h))
theorem w_mulS {x : Str} {n : Int} (c : x.length ≤ 16 ∧ 0 ≤ n ∧ n ≤ 1048576) (h : QA (.val (.str (Txt.mul x n))) s) : Wo QA X (fMulS s (.val (.str x)) (.val (.int n))) := by
  unfold fMulS; simp only []; rw [if_pos c]; exact h
end
end Y
namespace Y
open PySem L2 Z
def tx (l : List Nat) : Str := ⟨l.toArray⟩
theorem tx_inj {a b : List Nat} (h : tx a = tx b) : a = b := congrArg (fun x : Str => x.cps.toList) h
theorem tx_len (l : List Nat) : (tx l).length = l.length := by simp [tx, Str.length]
theorem tx_cut (l : List Nat) (lo hi : Option Int) : cutS (tx l) lo hi = tx (cutL l lo hi) := by
  unfold cutS cutL
  rw [tx_len]; rfl
theorem joinL_nil : ∀ ys : List (List Nat), TL.joinL [] ys = ys.flatten
  | [] => rfl
  | [p] => by simp [TL.joinL]
  | p :: q :: r => by
    show p ++ ([] ++ TL.joinL [] (q :: r)) = _
    rw [joinL_nil (q :: r)]; rfl
theorem tx_join0 (ys : List (List Nat)) : Txt.join (tx []) (ys.map tx) = tx ys.flatten := by
  rw [← joinL_nil]
  exact SX.join_S [] ys
section
variable {s : Stt} {X : Exn → Stt → Prop} {QA : AI → Stt → Prop}
theorem w_slT {a : List Nat} {lo hi : Option Int} (c : a.length ≤ sizeLine) (h : QA (.val (.str (tx (cutL a lo hi)))) s) : Wo QA X (fSl s (.val (.str (tx a))) lo hi) :=
  w_slS (by rw [tx_len]; exact c) (by rw [tx_cut]; exact h)
theorem w_lenT {a : List Nat} (c : a.length ≤ sizeLine) (h : QA (.val (.int (a.length : Nat))) s) : Wo QA X (fLen s [.val (.str (tx a))]) := by
  refine w_len (d := .str (tx a)) (n := a.length) rfl ?_ h
  show (if (tx a).length ≤ sizeLine then some (tx a).length else none) = _
  rw [tx_len, if_pos c]
end
end Y
namespace Y
open PySem L2 Z
open PySem.W (AllAlike Sortable dataLe EachIs)
def pyD (d : D) : PyData := d.py.getD .none
def rSortY (K : PySem.W.Frag) : List V → Hp → VK → Prop := fun xs H Q => ∃ (q : Addr) (ts : List (V × D)), xs = [.ref q] ∧ SqL K H q (ts.map Prod.fst) ∧ (∀ t ∈ ts, Dp K H t.1 (pyD t.2)) ∧ AllAlike (ts.map fun t => pyD t.2) ∧ Sortable (ts.map fun t => pyD t.2) ∧ (∀ t ∈ ts, (pyD t.2).depth ≤ 40) ∧
  ∀ p, H p = none → Q (.ref p) (upd H p (.lst ((ts.mergeSort (dataLe false fun t => pyD t.2)).map Prod.fst)))
section
variable {X : Cx}
theorem each_vals : ∀ {ts : List (V × D)} {us : List Value}, Vals (ts.map Prod.fst) us → EachIs (fun u (t : V × D) => RelV t.1 u) us ts
  | [], _, .nil => .nil
  | _ :: _, _, .cons h r => .cons h (each_vals r)
theorem vals_each : ∀ {ts : List (V × D)} {us : List Value}, EachIs (fun u (t : V × D) => RelV t.1 u) us ts → Vals (ts.map Prod.fst) us
  | [], _, .nil => .nil
  | _ :: _, _, .cons h r => .cons h (vals_each r)
theorem each_reads {pins : List (Addr × Obj)} {σ : St} {H : Hp} {s : Shared} (I : Inv X pins σ H s) : ∀ {ts : List (V × D)} {us : List Value}, Vals (ts.map Prod.fst) us → (∀ t ∈ ts, Dp X.K H t.1 (pyD t.2)) → EachIs (fun u (t : V × D) => ∃ as, PySem.Reads s.heap u (pyD t.2) as) us ts
  | [], _, .nil, _ => .nil
  | t :: ts, _, .cons h r, hd => .cons (Dp.reads I (pyD t.2) t.1 _ (hd t (List.mem_cons_self ..)) h) (each_reads I r fun t' h' => hd t' (List.mem_cons_of_mem _ h'))
theorem cr_sortY' (hu : X.A.units + 70 < cLine) : CallR X (.builtin "sorted") (rSortY X.K) := by
  intro pins s σ H vs us Q I r h
  obtain ⟨a, ts, rfl, hs, hd, hal, hk, hdp, q⟩ := h
  obtain ⟨its, rv, hl, hz⟩ := I.list hs
  rw [Vals.ref1 r]
  rw [List.length_map] at hz
  refine PySem.W.sorted_data (enc := fun t : V × D => pyD t.2) hl.isList (each_vals rv) (each_reads I rv hd) hal hk hz (fun b hb => by have := hdp b hb; omega) fun out ho eo => ?_
  obtain ⟨ep, he'⟩ := PyProof.Rows.sortedAll_at s.heap its out.toArray
  have rv' := vals_each eo
  refine ⟨.ref _, upd H (s.heap.objs.size + 1) (.lst ((ts.mergeSort (dataLe false fun t => pyD t.2)).map Prod.fst)), I.laid (t' := s.toks) (fun _ _ => PyProof.Rows.sortedAll_old) (Nat.le_succ _) ⟨by rw [List.length_map, List.length_mergeSort]; exact hz, out, ep, rv', he'⟩, rfl, q _ (I.hok.fresh (Nat.le_succ _))⟩
theorem cr_sortY {K : PySem.W.Frag} (hK : X.K = K) (hu : X.A.units + 70 < cLine) : CallR X (.builtin "sorted") (rSortY K) := by subst hK; exact cr_sortY' hu
end
section
variable {K : PySem.W.Frag} {ct : Ct} {H0 : Hp} {W : WX}
def SortOk (l : List D) : Prop := (∀ d ∈ l, d.py.isSome = true) ∧ AllAlike (l.map pyD) ∧ Sortable (l.map pyD) ∧ (∀ d ∈ l, (pyD d).depth ≤ 40)
open Classical in
noncomputable def fSort (s : Stt) (as : List AI) : Ro AI := match as with
  | [a] => match viewL s a with
    | some l => if SortOk l then .ok (.new (.lst (l.mergeSort (dataLe false pyD)))) s else .no
    | none => .no
  | _ => .no
theorem RpL.zips {G : Hp} {α : Nat → Addr} {n : Nat} : ∀ {vs : List V} {l : List D}, RpL K G α n vs l → ∃ ts : List (V × D), ts.map Prod.fst = vs ∧ ts.map Prod.snd = l ∧ ∀ t ∈ ts, Rp K G α n t.1 t.2
  | _, _, .nil => ⟨[], rfl, rfl, fun t h => by simp at h⟩
  | _, _, .cons (v := v) (d := d) h r => by
    obtain ⟨ts, e1, e2, e3⟩ := RpL.zips r
    refine ⟨(v, d) :: ts, by rw [List.map_cons, e1], by rw [List.map_cons, e2], fun t ht => ?_⟩
    rcases List.mem_cons.mp ht with rfl | ht
    · exact h
    · exact e3 t ht
theorem RpL.unzip {G : Hp} {α : Nat → Addr} {n : Nat} : ∀ {ts : List (V × D)}, (∀ t ∈ ts, Rp K G α n t.1 t.2) → RpL K G α n (ts.map Prod.fst) (ts.map Prod.snd)
  | [], _ => .nil
  | t :: ts, h => .cons (h t (List.mem_cons_self ..)) (RpL.unzip fun t' h' => h t' (List.mem_cons_of_mem _ h'))
theorem jb_sort : JB K ct H0 (rSortY K) fSort := fun W S s σ H Hs vs as Q rel ia p => by
  unfold fSort at p
  split at p
  · rename_i a
    obtain ⟨v, rfl, i⟩ := as1 ia
    split at p
    · rename_i l e
      split at p
      · rename_i hok
        obtain ⟨h1, h2, h3, h4⟩ := hok
        obtain ⟨q, us, rfl, k1, k2⟩ := viewL_ok rel i e
        obtain ⟨ts, e1, e2, e3⟩ := RpL.zips k2
        have em : ts.map (fun t => pyD t.2) = l.map pyD := by rw [← e2, List.map_map]; rfl
        have hm : ∀ t ∈ ts, t.2 ∈ l := fun t ht => by rw [← e2]; exact List.mem_map_of_mem ht
        refine ⟨q, ts, rfl, by rw [e1]; exact k1, fun t ht => ?_, by rw [em]; exact h2, by rw [em]; exact h3, fun t ht => h4 _ (hm t ht), fun r hr => ?_⟩
        · obtain ⟨x, hx⟩ := Option.isSome_iff_exists.mp (h1 _ (hm t ht))
          have := uDp (rp_dp ((e3 t ht).mono rel.sub (fun _ _ => rfl) (Nat.le_refl _)) hx)
          unfold pyD; rw [hx]
          exact this
        · refine p.newL rel hr ?_
          have es : l.mergeSort (dataLe false pyD) = (ts.mergeSort (dataLe false fun t => pyD t.2)).map Prod.snd := by
            rw [← e2]
            refine (List.map_mergeSort (fun a _ b _ => ?_)).symm
            rfl
          rw [es]
          exact RpL.unzip fun t ht => e3 t (List.mem_mergeSort.mp ht)
      · exact False.elim p
    · exact False.elim p
  · exact False.elim p
variable {s : Stt} {X : Exn → Stt → Prop} {QA : AI → Stt → Prop}
theorem w_sort {a : AI} {l : List D} (e : viewL s a = some l) (c : SortOk l) (h : QA (.new (.lst (l.mergeSort (dataLe false pyD)))) s) : Wo QA X (fSort s [a]) := by
  unfold fSort; simp only []; rw [e]; simp only []; rw [if_pos c]; exact h
end
end Y
namespace L2
open PySem PySem.Spec PyProof.Rows
end L2
namespace Y
open PySem L2 Z
section
variable {K : PySem.W.Frag} {ct ct2 : Ct} {H0 : Hp} {W : WX} {S : Sh} {s : Stt} {σ : St} {H : Hp}
def unX : Option Ent → Option Ent
  | some (.xn _) => none
  | e => e
def dropX (i : Nat) (s : Stt) : Stt := ⟨(s.env.map unX).set i none, s.M⟩
def enterX (i : Nat) (x : Exn) (s : Stt) : Stt := ⟨(s.env.map unX).set i (some (.xn x)), s.M⟩
def leaveX (i : Nat) : Rs → Rs
  | .nx s => .nx (dropX i s)
  | .bk s => .bk (dropX i s)
  | .ct s => .ct (dropX i s)
  | .rt a s => .rt a (dropX i s)
  | _ => .no
def mTryA (cat : Nat → Option Bool) (i : Nat) (mb ms : Ms) : Ms := fun s => match mb s with
  | .er x s1 => match cat x.cls with
    | some true => leaveX i (ms (enterX i x s1))
    | some false => .er x s1
    | none => .no
  | r => r
def noEr : Rs → Rs
  | .er _ _ => .no
  | r => r
def clauses : List ((Nat → Option Bool) × Ms) → Exn → Ms
  | [], x => fun s => .er x s
  | (cat, ms) :: l, x => fun s => match cat x.cls with
    | some true => noEr (ms s)
    | some false => clauses l x s
    | none => .no
def mTryM (l : List ((Nat → Option Bool) × Ms)) (mb : Ms) : Ms := fun s => match mb s with
  | .er x s1 => clauses l x s1
  | r => r
def xnAt (s : Stt) (i : Nat) : Option Exn := match (s.env[i]?).getD none with
  | some (.xn x) => some x
  | _ => none
def mXf (i c : Nat) (f : Str) : Mo AI := fun s => match xnAt s i with
  | some x => if x.cls = c then (match x.fs.lookup f with | some d => .ok (.val d) s | none => .no) else .no
  | none => .no
def mIsX (i : Nat) (tbl : Nat → Option Bool) : Mo AI := fun s => match xnAt s i with
  | some x => match tbl x.cls with
    | some b => .ok (.val (.bl b)) s
    | none => .no
  | none => .no
def mRaise (c : Nat) : Ms := fun s => .er ⟨c, []⟩ s
theorem sv_raise {c : Nat} : Sv K ct H0 W (tRaiseZ (ct c) W) (mRaise c) := fun S s σ H Dn rel p => p S σ H none .refl rel (.inl ⟨rfl, rfl⟩)
def mRaiseA (c : Nat) (f : Str) (m : Mo (List D)) : Ms := fun s => (m s).toS fun ds s1 => match ds with
  | [_, x] => .er ⟨c, [(f, x)]⟩ s1
  | _ => .no
end
end Y
namespace Y
open PySem L2 Z
def mFn0 (np n : Nat) (body : Ms) : Mf := mFn np n fun s => noEr (body s)
def Fx (P : AI → List Cn → Prop) (E : Exn → List Cn → Prop) : Fr → Prop
  | .ok a M => P a M
  | .er x M => E x M
  | .no => False
def Ox (P : AI → List Cn → Prop) (E : Exn → List Cn → Prop) : Rs → Prop
  | .rt a s => P a s.M
  | .er x s => E x s.M
  | _ => False
section
variable {QA : AI → Stt → Prop} {X : Exn → Stt → Prop} {N : Stt → Prop} {O : Rs → Prop} {s : Stt} {M : List Cn} {P P' : AI → List Cn → Prop} {E E' : Exn → List Cn → Prop}
theorem f_fnX {np n : Nat} {b : Ms} {ds : List D} (hl : ds.length = np) (h : Ws (fun s => P (.val .non) s.M) (Ox P E) (b ⟨ds.map (fun d => some (.fz d)) ++ List.replicate (n - ds.length) none, M⟩)) : Fx P E (mFn np n b ds M) := by
  unfold mFn
  rw [if_pos hl]
  cases q : b ⟨ds.map (fun d => some (.fz d)) ++ List.replicate (n - ds.length) none, M⟩ <;> rw [q] at h <;> exact h
theorem f_fn0 {np n : Nat} {b : Ms} {ds : List D} (hl : ds.length = np) (h : Ws (fun s => P (.val .non) s.M) (Oe P) (b ⟨ds.map (fun d => some (.fz d)) ++ List.replicate (n - ds.length) none, M⟩)) : Fo P (mFn0 np n b ds M) := by
  refine f_fn hl ?_
  cases q : b ⟨ds.map (fun d => some (.fz d)) ++ List.replicate (n - ds.length) none, M⟩ <;> rw [q] at h <;> exact h
theorem fx_eq {r : Fr} {a : AI} {M' : List Cn} (e : r = .ok a M') (h : P a M') : Fx P E r := by subst e; exact h
theorem fx_ok {r : Fr} {a : AI} {M' : List Cn} (h : Fx (fun a' M'' => a' = a ∧ M'' = M') (fun _ _ => False) r) : r = .ok a M' := by
  cases r with
  | ok a' M'' => obtain ⟨rfl, rfl⟩ := h; rfl
  | er _ _ => exact False.elim h
  | no => exact False.elim h
theorem w_call {f : Mf} {ma : Mo (List D)} (h : Wo (fun ds s1 => Fx (fun a M' => QA a ⟨s1.env, M'⟩) (fun x M' => X x ⟨s1.env, M'⟩) (f ds s1.M)) X (ma s)) : Wo QA X (mCall f ma s) := w_bind (w_mono h fun ds s1 h => by
  show Wo QA X (match f ds s1.M with | .ok a M' => _ | .er x M' => _ | .no => _)
  cases q : f ds s1.M <;> rw [q] at h <;> exact h)
theorem w_raise {c : Nat} (h : O (.er ⟨c, []⟩ s)) : Ws N O (mRaise c s) := h
theorem w_raiseA {c : Nat} {f : Str} {m : Mo (List D)} (h : Wo (fun ds s1 => ∃ w x, ds = [w, x] ∧ O (.er ⟨c, [(f, x)]⟩ s1)) (fun x s => O (.er x s)) (m s)) : Ws N O (mRaiseA c f m s) := w_toS (w_mono h fun ds s1 ⟨w, x, e, h⟩ => by subst e; exact h)
/-- behind a suite -/
def Olv (i : Nat) (O : Rs → Prop) : Rs → Prop
  | .bk s => O (.bk (dropX i s))
  | .ct s => O (.ct (dropX i s))
  | .rt a s => O (.rt a (dropX i s))
  | _ => False
def Otry (cat : Nat → Option Bool) (i : Nat) (ms : Ms) (N : Stt → Prop) (O : Rs → Prop) : Rs → Prop
  | .er x s1 => (cat x.cls = some true ∧ Ws (fun s => N (dropX i s)) (Olv i O) (ms (enterX i x s1))) ∨ (cat x.cls = some false ∧ O (.er x s1))
  | r => O r
theorem w_tryA {cat : Nat → Option Bool} {i : Nat} {mb ms : Ms} (h : Ws N (Otry cat i ms N O) (mb s)) : Ws N O (mTryA cat i mb ms s) := by
  unfold mTryA
  cases q : mb s with
  | er x s1 =>
    rw [q] at h
    rcases h with ⟨e, h⟩ | ⟨e, h⟩
    · simp only []
      rw [e]
      simp only []
      cases q2 : ms (enterX i x s1) <;> rw [q2] at h <;> exact h
    · simp only []
      rw [e]
      exact h
  | _ => rw [q] at h; exact h
theorem w_xf {i c : Nat} {f : Str} {x : Exn} {d : D} (e : xnAt s i = some x) (hc : x.cls = c) (l : x.fs.lookup f = some d) (h : QA (.val d) s) : Wo QA X (mXf i c f s) := by
  unfold mXf; rw [e]; simp only []; rw [if_pos hc, l]; exact h
theorem w_isX {i : Nat} {tbl : Nat → Option Bool} {x : Exn} {b : Bool} (e : xnAt s i = some x) (l : tbl x.cls = some b) (h : QA (.val (.bl b)) s) : Wo QA X (mIsX i tbl s) := by
  unfold mIsX; rw [e]; simp only []; rw [l]; exact h
def Ocl (l : List ((Nat → Option Bool) × Ms)) (N : Stt → Prop) (O : Rs → Prop) : Rs → Prop
  | .er x s1 => Ws N O (clauses l x s1)
  | r => O r
theorem w_tryM {l : List ((Nat → Option Bool) × Ms)} {mb : Ms} (h : Ws N (Ocl l N O) (mb s)) : Ws N O (mTryM l mb s) := by
  unfold mTryM
  cases q : mb s <;> rw [q] at h <;> exact h
end
end Y
namespace Y
open PySem L2 Z
section
variable {K : PySem.W.Frag} {ct : Ct} {H0 : Hp} {W : WX}
def fAbs (s : Stt) (as : List AI) : Ro AI := match as with
  | [.val (.int i)] => .ok (.val (.int (if i < 0 then -i else i))) s
  | _ => .no
def sIdx (a b : Str) : Option Nat := (Builtin.Str.occurrences a b 0 a.length 1).head?
def mSIdx (mo ma : Mo AI) : Mo AI := fun s => (mo s).bind fun a s1 => match a with
  | .val (.str x) => (ma s1).bind fun b s2 => match b with
    | .val (.str y) => match sIdx x y with
      | some i => .ok (.val (.int (i : Nat))) s2
      | none => .no
    | _ => .no
  | _ => .no
end
section
variable {s : Stt} {X : Exn → Stt → Prop} {QA : AI → Stt → Prop} {QI : Im → Stt → Prop} {m1 m2 : Mo AI}
theorem w_abs {i : Int} (h : QA (.val (.int (if i < 0 then -i else i))) s) : Wo QA X (fAbs s [.val (.int i)]) := h
theorem w_sidx (h : Wo (fun a s1 => ∃ x, a = .val (.str x) ∧ Wo (fun b s2 => ∃ y i, b = .val (.str y) ∧ sIdx x y = some i ∧ QA (.val (.int (i : Nat))) s2) X (m2 s1)) X (m1 s)) : Wo QA X (mSIdx m1 m2 s) := w_bind (w_mono h fun a s1 ⟨x, e, h⟩ => by
  subst e
  exact w_bind (w_mono h fun b s2 ⟨y, i, e, e2, h⟩ => by
    subst e
    show Wo QA X (match sIdx x y with | some i => _ | none => _)
    rw [e2]; exact h))
open Classical in
theorem w_rng3 {r : Mo (List AI)} (h : Wo (fun as s1 => ∃ (i j c : Int) (n : Nat), as = [.val (.int i), .val (.int j), .val (.int c)] ∧ RgC i j c n ∧ QI ⟨rngC i c n, none⟩ s1) X (r s)) : Wo QI X (mRng3 r s) := w_bind (w_mono h fun as s1 ⟨i, j, c, n, e, hz, h⟩ => by
  subst e
  have en : (Builtin.Range.rangeSize i j c).toNat = n := by rw [hz.2.2.2]; rfl
  show Wo QI X (if RgC i j c (Builtin.Range.rangeSize i j c).toNat then Ro.ok ⟨rngC i c (Builtin.Range.rangeSize i j c).toNat, none⟩ s1 else _)
  rw [en, if_pos hz]; exact h)
end
end Y
namespace Y
open PySem L2 Z
inductive KD where
  | keys | vals | items
def kD : Key → D
  | .inl i => .int i
  | .inr x => .str x
def dIt : KD → List (Key × D) → List D
  | .keys, l => l.map fun p => kD p.1
  | .vals, l => l.map Prod.snd
  | .items, l => l.map fun p => .tup [kD p.1, p.2]
section
variable {K : PySem.W.Frag} {ct : Ct} {H0 : Hp} {W : WX} {S : Sh} {s : Stt} {σ : St} {H : Hp}
theorem kD_rp {G : Hp} {α : Nat → Addr} {n : Nat} (k : Key) : Rp K G α n (kV k) (kD k) := by
  cases k with
  | inl i => exact .int i
  | inr x => exact .str x
theorem RpK.at {G : Hp} {α : Nat → Addr} {n : Nat} : ∀ {kvs : List (Key × V)} {l : List (Key × D)} {i : Nat} {k : Key} {d : D}, RpK K G α n kvs l → l[i]? = some (k, d) → ∃ v, kvs[i]? = some (k, v) ∧ Rp K G α n v d
  | _, _, _, _, _, .nil, e => by simp at e
  | _, _, 0, _, _, .cons a _, e => by simp at e; obtain ⟨rfl, rfl⟩ := e; exact ⟨_, rfl, a⟩
  | _, _, i + 1, _, _, .cons _ r, e => by
    simp at e
    obtain ⟨v, h1, h2⟩ := r.at e
    exact ⟨v, by simpa using h1, h2⟩
def Ct.lkd (ct : Ct) (d : Option Addr) : Ct := ⟨ct.c, ct.xa, d⟩
theorem CnOk.lkd {b : Option Addr} {n : Nat} {p : Addr} {c : Cn} (h : CnOk K ct S n H p c) : CnOk K (ct.lkd b) S n H p c := by
  cases c <;> exact h
theorem Stp.lockd {d : Addr} {od : Obj} {u : HO} {S' : Sh} {n n' : Nat} {H' : Hp} (hd : H d = some u) (t : Stp S n (upd H d (.frz od u)) S' n' H') : Stp S n H S' n' (upd H' d u) where
  g := t.g
  le := t.le
  al := t.al
  fr := fun a o h l => by
    by_cases z : a = d
    · subst z
      rw [hd] at h; cases h
      exact ⟨upd_same, (t.fr a _ upd_same l).2⟩
    · obtain ⟨h1, h2⟩ := t.fr a o (by rw [upd_ne z]; exact h) l
      exact ⟨by rw [upd_ne z]; exact h1, h2⟩
  gn := fun a o e => by
    rcases t.gn a o e with h | h | h | ⟨vs, h⟩
    · exact .inl h
    · exact .inr (.inl (upd_none.mp h).2)
    · exact .inr (.inr (.inl h))
    · refine .inr (.inr (.inr ⟨vs, ?_⟩))
      by_cases z : a = d
      · subst z; rw [upd_same] at h; cases h
      · rw [upd_ne z] at h; exact h
  dom := fun a h => (upd_none.mp (t.dom a (upd_none.mp h).2)).2
  fz := fun a od' w h => by
    by_cases z : a = d
    · subst z; rw [upd_same, ← hd]; exact h
    · rw [upd_ne z]; exact t.fz a od' w (by rw [upd_ne z]; exact h)
noncomputable def mLcD (kd : KD) (i : Nat) (ws : List Nat) (g : Tg) (c : Mo Bool) (e : Mo AI) : Mo AI := fun s => match entAt s i with
  | some (.fz (.dK l)) => mLc ws (fun s => .ok ⟨dIt kd l, none⟩ s) g c e s
  | some (.ow (.dK l)) => (mLc ws (fun s => .ok ⟨dIt kd l, none⟩ s) g c e ⟨s.env.set i none, s.M⟩).bind fun a s1 => .ok a ⟨s1.env.set i (some (.ow (.dK l))), s1.M⟩
  | _ => .no
end
end Y
namespace Y
open PySem L2 Z
abbrev pyP (p : Int × Int) : PyData := .tuple [.int p.1, .int p.2]
def ltP (x y : Int × Int) : Bool := decide (x.1 < y.1 ∨ (x.1 = y.1 ∧ x.2 < y.2))
theorem dlt (x y : Int × Int) : PySem.W.dataLt (pyP x) (pyP y) = ltP x y := by
  obtain ⟨a, b⟩ := x
  obtain ⟨c, d⟩ := y
  show (decide ((1 : Int) < 1) || (!decide ((1 : Int) < 1) && (decide (a < c) || (!decide (c < a) && (decide ((1 : Int) < 1) || (!decide ((1 : Int) < 1) && (decide (b < d) || (!decide (d < b) && (decide ((0 : Int) < 0) || (!decide ((0 : Int) < 0) && false)))))))))) = decide (a < c ∨ (a = c ∧ b < d))
  by_cases h1 : a < c
  · simp [h1]
  · by_cases h2 : c < a
    · have : ¬ a = c := by omega
      simp [h1, h2, this]
    · have : a = c := by omega
      subst this
      by_cases h3 : b < d
      · simp [h3]
      · simp [h3]
section
variable {K : PySem.W.Frag} {ct : Ct} {H0 : Hp} {W : WX}
def tP (p : Int × Int) : D := .tup [.int p.1, .int p.2]
variable {s : Stt} {X : Exn → Stt → Prop} {QA : AI → Stt → Prop}
def kPair : D → Option (Key × D)
  | .tup [.int i, x] => some (.inl i, x)
  | .tup [.str i, x] => some (.inr i, x)
  | _ => none
def kPairs : List D → Option (List (Key × D))
  | [] => some []
  | d :: l => (kPair d).bind fun p => (kPairs l).map (p :: ·)
def mgD (l : List (Key × D)) : List (Key × D) := l.foldl (fun a p => pu a p.1 p.2) []
def fDict (s : Stt) (as : List AI) : Ro AI := match as with
  | [a] => match (viewL s a).bind kPairs with
    | some l => .ok (.new (.dK (mgD l))) s
    | none => .no
  | _ => .no
theorem mg_ok {G : Hp} {α : Nat → Addr} {n : Nat} : ∀ {kvs : List (Key × V)} {l : List (Key × D)} {acc : List (Key × V)} {a : List (Key × D)}, RpK K G α n kvs l → RpK K G α n acc a → RpK K G α n (mergeK acc kvs) (l.foldl (fun a p => pu a p.1 p.2) a)
  | _, _, _, _, .nil, h => h
  | _, _, acc, a, .cons (k := k) (v := v) (d := d) (kvs := kvs) (l := l) x r, h => by
    show RpK K G α n (mergeK (putK acc k v) kvs) (l.foldl (fun a p => pu a p.1 p.2) (pu a k d))
    exact mg_ok r (h.put x)
theorem w_dnew (h : QA (.new (.dK [])) s) : Wo QA X (mDNew s) := h
theorem w_lcD1 {kd : KD} {i : Nat} {ws : List Nat} {g : Tg} {c : Mo Bool} {e : Mo AI} {l : List (Key × D)} (en : entAt s i = some (.fz (.dK l))) (h : ∃ l2 s2, lcN ws g c (mV e) none (dIt kd l) [] (wipeS ws s) = .ok l2 s2 ∧ QA (.new (.lst l2)) ⟨Y.rest s.env s2.env ws, s2.M⟩) : Wo QA X (mLcD kd i ws g c e s) := by
  unfold mLcD; rw [en]
  exact w_lc (show Wo _ X (Ro.ok (⟨dIt kd l, none⟩ : Im) s) from h)
theorem w_lcD2 {kd : KD} {i : Nat} {ws : List Nat} {g : Tg} {c : Mo Bool} {e : Mo AI} {l : List (Key × D)} (en : entAt s i = some (.ow (.dK l))) (h : ∃ l2 s2, lcN ws g c (mV e) none (dIt kd l) [] (wipeS ws ⟨s.env.set i none, s.M⟩) = .ok l2 s2 ∧ QA (.new (.lst l2)) ⟨(Y.rest (s.env.set i none) s2.env ws).set i (some (.ow (.dK l))), s2.M⟩) : Wo QA X (mLcD kd i ws g c e s) := by
  unfold mLcD; rw [en]
  refine w_bind (w_lc (QA := fun a s1 => Wo QA X (.ok a ⟨s1.env.set i (some (.ow (.dK l))), s1.M⟩)) (show Wo _ X (Ro.ok (⟨dIt kd l, none⟩ : Im) _) from h))
theorem w_pop {m1 m2 : Mo AI} (h : Wo (fun a s1 => (∃ l, viewD s1 a = some l) ∧ Wo (fun i s2 => ∃ l k d, getC s2 a = some (.dK l) ∧ keyOf i = some k ∧ vl l k = some d ∧ QA (.val d) (setC s2 a (.dK (dr l k)))) X (mV m2 s1)) X (m1 s)) : Wo QA X (mPop m1 m2 s) := w_bind (w_mono h fun a s1 ⟨⟨l, e⟩, h⟩ => by
  show Wo QA X (match viewD s1 a with | some _ => _ | none => _)
  rw [e]
  exact w_bind (w_mono h fun i s2 ⟨l, k, d, e1, e2, e3, h⟩ => by
    show Wo QA X (fPop s2 a i)
    unfold fPop
    rw [e1]; simp only []; rw [e2, Option.bind_some, e3]; exact h))
/-- a comprehension with a test -/
theorem w_lcFil {ws : List Nat} {g : Tg} {c : Mo Bool} {e : Mo D} {xs : List D} {P : List D → Stt → Prop} (p : D → Bool) (f : D → D) (hz : xs.length ≤ sizeLine) (h : ∀ x ∈ xs, So (fun s1 => Wo (fun b s2 => b = p x ∧ if b = true then Wo (fun d s3 => d = f x ∧ wipeS ws s3 = s) Xf (e s2) else wipeS ws s2 = s) Xf (c s1)) (g x s)) (k : P ((xs.filter p).map f) s) : ∃ l s2, lcN ws g c e none xs [] s = .ok l s2 ∧ P l s2 := by
  refine ⟨(xs.filter p).map f, s, ?_, k⟩
  have gen : ∀ (ys acc : List D), acc.length + ys.length ≤ sizeLine → (∀ y ∈ ys, y ∈ xs) → lcN ws g c e none ys acc s = .ok (acc ++ (ys.filter p).map f) s := by
    intro ys
    induction ys with
    | nil => intro acc _ _; unfold lcN; rw [if_pos chk_none]; simp
    | cons y ys ih =>
      intro acc hl hy
      have hh := h y (hy y (List.mem_cons_self ..))
      unfold lcN
      rw [if_pos chk_none]
      cases q : g y s with
      | none => rw [q] at hh; exact False.elim hh
      | some s1 =>
        rw [q] at hh
        simp only []
        have hh : Wo _ Xf (c s1) := hh
        cases q2 : c s1 with
        | no => rw [q2] at hh; exact False.elim hh
        | er _ _ => rw [q2] at hh; exact False.elim hh
        | ok b s2 =>
          rw [q2] at hh
          obtain ⟨hb, hh⟩ := hh
          simp only []
          rw [List.length_cons] at hl
          by_cases hbt : b = true
          · rw [if_pos hbt] at hh ⊢
            cases q3 : e s2 with
            | no => rw [q3] at hh; exact False.elim hh
            | er _ _ => rw [q3] at hh; exact False.elim hh
            | ok d s3 =>
              rw [q3] at hh
              obtain ⟨rfl, hw⟩ := hh
              simp only []
              rw [if_pos (by omega), hw, ih _ (by rw [List.length_append, List.length_singleton]; omega) (fun z hz => hy z (List.mem_cons_of_mem _ hz))]
              rw [List.filter_cons, if_pos (by rw [← hb]; exact hbt), List.map_cons, List.append_assoc]; rfl
          · rw [if_neg hbt] at hh ⊢
            rw [hh, ih _ (by omega) (fun z hz => hy z (List.mem_cons_of_mem _ hz))]
            rw [List.filter_cons, if_neg (by rw [← hb]; exact hbt)]
  simpa using gen xs [] (by simpa using hz) (fun _ h => h)
end
section
variable {K : PySem.W.Frag} {ct : Ct} {H0 : Hp} {W : WX}
def mPar (i j : Nat) (m : Mo (List D)) : Ms := fun s => (m s).toS fun ds s1 => match ds with
  | [x, y] => .nx ⟨(s1.env.set i (some (.fz x))).set j (some (.fz y)), s1.M⟩
  | _ => .no
variable {s : Stt} {N : Stt → Prop} {O : Rs → Prop}
theorem w_par {i j : Nat} {m : Mo (List D)} (h : Wo (fun ds s1 => ∃ x y, ds = [x, y] ∧ N ⟨(s1.env.set i (some (.fz x))).set j (some (.fz y)), s1.M⟩) (fun x s => O (.er x s)) (m s)) : Ws N O (mPar i j m s) := w_toS (w_mono h fun ds s1 ⟨x, y, e, h⟩ => by subst e; exact h)
end
end Y
namespace Y
open PySem L2 Z
def putD (f : Str) (d : D) : List (Str × D) → List (Str × D)
  | [] => [(f, d)]
  | (g, x) :: r => if g = f then (g, d) :: r else (g, x) :: putD f d r
section
variable {K : PySem.W.Frag} {ct : Ct} {H0 : Hp} {W : WX} {S : Sh} {s : Stt} {σ : St} {H : Hp}
/-- to a value; a new thing is tracked -/
def toK : AI → Mo D := fun a s => match a with
  | .new c => .ok (.cid s.M.length) ⟨s.env, s.M ++ [c]⟩
  | a => toV a s
def mK (m : Mo AI) : Mo D := fun s => (m s).bind toK
theorem ek_of {t : TE} {m : Mo AI} (h : Ei K ct H0 W t m) : Ev K ct H0 W t (mK m) := fun S s σ H Q rel p => by
  unfold mK at p
  cases q : m s with
  | no => rw [q] at p; exact h S s σ H Q rel (by rw [q]; exact p)
  | er x s' => rw [q] at p; exact h S s σ H Q rel (by rw [q]; exact p)
  | ok a s' =>
    rw [q] at p
    cases a with
    | val d => exact ev_of h S s σ H Q rel (by unfold mV; rw [q]; exact p)
    | slot i => exact ev_of h S s σ H Q rel (by unfold mV; rw [q]; exact p)
    | new c =>
      refine h S s σ H Q rel (by
        rw [q]
        intro S' v H' st rel' it
        obtain ⟨pp, rfl, h1, h2, h3, h4, h5⟩ := it
        have rt := rel'.track h2 h3 h5
        have hlen : (s'.M ++ [c]).length = s'.M.length + 1 := by simp
        have p : ∀ S'' b H'', Stp S s.M.length H S'' (s'.M ++ [c]).length H'' → Rel K ct H0 S'' ⟨s'.env, s'.M ++ [c]⟩ σ H'' → RV K H S'' ⟨s'.env, s'.M ++ [c]⟩ σ H'' b (.cid s'.M.length) → Q b H'' := p
        refine p (S'.tr s'.M.length pp) _ H' (by rw [hlen]; exact st.track h1) rt ?_
        show Rp K _ _ (s'.M ++ [c]).length _ _
        rw [hlen]; exact tr_cid)
def objAt (s : Stt) (a : AI) : Option (Nat × Nat × List (Str × D)) := match a with
  | .val (.cid k) => match s.M[k]? with
    | some (.obj c fs) => some (k, c, fs)
    | _ => none
  | _ => none
def mFld (ok : Nat → Bool) (f : Str) (m : Mo AI) : Mo AI := fun s => (m s).bind fun a s1 => match objAt s1 a with
  | some (_, c, fs) => if ok c = true then (match fs.lookup f with | some d => .ok (.val d) s1 | none => .no) else .no
  | none => .no
def mFldS (ok : Nat → Bool) (f : Str) (mo mv : Mo AI) : Ms := fun s => (mK mv s).toS fun d s1 => (mo s1).toS fun a s2 => match objAt s2 a with
  | some (k, c, fs) => if ok c = true ∧ fs.length < 1000 then .nx ⟨s2.env, s2.M.set k (.obj c (putD f d fs))⟩ else .no
  | none => .no
/-- o.f += e -/
def mFldA (ok : Nat → Bool) (f : Str) (g : Int → Int → Int) (mo mv : Mo AI) : Ms := fun s => (mo s).toS fun a s1 => match objAt s1 a with
  | some (k, c, fs) => if ok c = true then (match fs.lookup f with
    | some (.int i) => (mv s1).toS fun b s2 => match b with
      | .val (.int j) => match s2.M[k]? with
        | some (.obj c' fs') => if c' = c ∧ fs'.length < 1000 then .nx ⟨s2.env, s2.M.set k (.obj c (putD f (.int (g i j)) fs'))⟩ else .no
        | _ => .no
      | _ => .no
    | _ => .no) else .no
  | none => .no
def mMethN (c : Nat) (nm : Str) (f : Mf) (mo : Mo AI) (ma : Mo (List D)) : Mo AI := fun s => (mo s).bind fun a s1 => match objAt s1 a with
  | some (k, c', fs) => if c' = c ∧ fs.lookup nm = none then ((ma s1).bind fun ds s2 => match f (.cid k :: ds) s2.M with
    | .ok a M' => .ok a ⟨s2.env, M'⟩
    | _ => .no) else .no
  | none => .no
def mMethS (c : Nat) (nm : Str) (f : Mf) (mo : Mo AI) (ma : Mo (List D)) : Mo AI := fun s => (mo s).bind fun a s1 => match objAt s1 a with
  | some (k, c', fs) => if c' = c ∧ fs.lookup nm = none then ((ma s1).bind fun ds s2 => match f (.cid k :: ds) s2.M with
    | .ok a M' => .ok a ⟨s2.env, M'⟩
    | .er x M' => .er x ⟨s2.env, M'⟩
    | .no => .no) else .no
  | none => .no
def mMakeN (c : Nat) (f : Mf) (dds : List D) (ma : Mo (List D)) : Mo AI := fun s => (ma s).bind fun ds s1 => match f (.cid s1.M.length :: (ds ++ dds)) (s1.M ++ [.obj c []]) with
  | .ok (.val .non) M' => .ok (.val (.cid s1.M.length)) ⟨s1.env, M'⟩
  | _ => .no
def mMakeS (c : Nat) (f : Mf) (dds : List D) (ma : Mo (List D)) : Mo AI := fun s => (ma s).bind fun ds s1 => match f (.cid s1.M.length :: (ds ++ dds)) (s1.M ++ [.obj c []]) with
  | .ok (.val .non) M' => .ok (.val (.cid s1.M.length)) ⟨s1.env, M'⟩
  | .er x M' => .er x ⟨s1.env, M'⟩
  | _ => .no
end
section
variable {s : Stt} {X : Exn → Stt → Prop} {QA : AI → Stt → Prop} {N : Stt → Prop} {O : Rs → Prop} {QD : D → Stt → Prop} {m mo mv : Mo AI} {ma : Mo (List D)}
theorem w_K (h : Wo (fun a s1 => Wo QD X (toK a s1)) X (m s)) : Wo QD X (mK m s) := w_bind h
theorem w_toKN {c : Cn} (h : QD (.cid s.M.length) ⟨s.env, s.M ++ [c]⟩) : Wo QD X (toK (.new c) s) := h
theorem w_toKV {d : D} (h : QD d s) : Wo QD X (toK (.val d) s) := h
theorem w_toKS {i : Nat} (h : Wo QD X (toV (.slot i) s)) : Wo QD X (toK (.slot i) s) := h
theorem w_fld {ok : Nat → Bool} {f : Str} (h : Wo (fun a s1 => ∃ k c fs d, objAt s1 a = some (k, c, fs) ∧ ok c = true ∧ fs.lookup f = some d ∧ QA (.val d) s1) X (m s)) : Wo QA X (mFld ok f m s) := w_bind (w_mono h fun a s1 ⟨k, c, fs, d, e, h1, h2, h⟩ => by
  show Wo QA X (match objAt s1 a with | some (_, c, fs) => _ | none => _)
  rw [e]; simp only []; rw [if_pos h1, h2]; exact h)
theorem w_fldS {ok : Nat → Bool} {f : Str} (h : Wo (fun d s1 => Wo (fun a s2 => ∃ k c fs, objAt s2 a = some (k, c, fs) ∧ (ok c = true ∧ fs.length < 1000) ∧ N ⟨s2.env, s2.M.set k (.obj c (putD f d fs))⟩) (fun x s => O (.er x s)) (mo s1)) (fun x s => O (.er x s)) (mK mv s)) : Ws N O (mFldS ok f mo mv s) :=
  w_toS (w_mono h fun d s1 h => w_toS (w_mono h fun a s2 ⟨k, c, fs, e, h1, h⟩ => by
    show Ws N O (match objAt s2 a with | some (k, c, fs) => _ | none => _)
    rw [e]; simp only []; rw [if_pos h1]; exact h))
theorem w_fldA {ok : Nat → Bool} {f : Str} {g : Int → Int → Int} (h : Wo (fun a s1 => ∃ k c fs i, objAt s1 a = some (k, c, fs) ∧ ok c = true ∧ fs.lookup f = some (.int i) ∧ Wo (fun b s2 => ∃ j fs', b = .val (.int j) ∧ s2.M[k]? = some (.obj c fs') ∧ fs'.length < 1000 ∧ N ⟨s2.env, s2.M.set k (.obj c (putD f (.int (g i j)) fs'))⟩) (fun x s => O (.er x s)) (mv s1)) (fun x s => O (.er x s)) (mo s)) : Ws N O (mFldA ok f g mo mv s) :=
  w_toS (w_mono h fun a s1 ⟨k, c, fs, i, e, h1, h2, h⟩ => by
    show Ws N O (match objAt s1 a with | some (k, c, fs) => _ | none => _)
    rw [e]; simp only []; rw [if_pos h1, h2]
    exact w_toS (w_mono h fun b s2 ⟨j, fs', e1, e2, h3, h⟩ => by
      subst e1
      show Ws N O (match s2.M[k]? with | some (.obj c' fs') => _ | _ => _)
      rw [e2]; simp only []; rw [if_pos ⟨trivial, h3⟩]; exact h))
theorem w_methN {c : Nat} {nm : Str} {f : Mf} (h : Wo (fun a s1 => ∃ k fs, objAt s1 a = some (k, c, fs) ∧ fs.lookup nm = none ∧ Wo (fun ds s2 => Fo (fun a M' => QA a ⟨s2.env, M'⟩) (f (.cid k :: ds) s2.M)) X (ma s1)) X (mo s)) : Wo QA X (mMethN c nm f mo ma s) := w_bind (w_mono h fun a s1 ⟨k, fs, e, h1, h⟩ => by
  show Wo QA X (match objAt s1 a with | some (k, c', fs) => _ | none => _)
  rw [e]; simp only []; rw [if_pos ⟨trivial, h1⟩]
  exact w_bind (w_mono h fun ds s2 h => by
    show Wo QA X (match f (.cid k :: ds) s2.M with | .ok a M' => _ | _ => _)
    cases q : f (.cid k :: ds) s2.M <;> rw [q] at h <;> exact h))
theorem w_methS {c : Nat} {nm : Str} {f : Mf} (h : Wo (fun a s1 => ∃ k fs, objAt s1 a = some (k, c, fs) ∧ fs.lookup nm = none ∧ Wo (fun ds s2 => Fx (fun a M' => QA a ⟨s2.env, M'⟩) (fun x M' => X x ⟨s2.env, M'⟩) (f (.cid k :: ds) s2.M)) X (ma s1)) X (mo s)) : Wo QA X (mMethS c nm f mo ma s) := w_bind (w_mono h fun a s1 ⟨k, fs, e, h1, h⟩ => by
  show Wo QA X (match objAt s1 a with | some (k, c', fs) => _ | none => _)
  rw [e]; simp only []; rw [if_pos ⟨trivial, h1⟩]
  exact w_bind (w_mono h fun ds s2 h => by
    show Wo QA X (match f (.cid k :: ds) s2.M with | .ok a M' => _ | .er x M' => _ | .no => _)
    cases q : f (.cid k :: ds) s2.M <;> rw [q] at h <;> exact h))
theorem w_makeN {c : Nat} {f : Mf} {dds : List D} (h : Wo (fun ds s1 => Fo (fun a M' => a = .val .non ∧ QA (.val (.cid s1.M.length)) ⟨s1.env, M'⟩) (f (.cid s1.M.length :: (ds ++ dds)) (s1.M ++ [.obj c []]))) X (ma s)) : Wo QA X (mMakeN c f dds ma s) := w_bind (w_mono h fun ds s1 h => by
  show Wo QA X (match f (.cid s1.M.length :: (ds ++ dds)) (s1.M ++ [.obj c []]) with | .ok (.val .non) M' => _ | _ => _)
  cases q : f (.cid s1.M.length :: (ds ++ dds)) (s1.M ++ [.obj c []]) with
  | no => rw [q] at h; exact h
  | er x M' => rw [q] at h; exact h
  | ok a M' => rw [q] at h; obtain ⟨rfl, h⟩ := h; exact h)
theorem w_makeS {c : Nat} {f : Mf} {dds : List D} (h : Wo (fun ds s1 => Fx (fun a M' => a = .val .non ∧ QA (.val (.cid s1.M.length)) ⟨s1.env, M'⟩) (fun x M' => X x ⟨s1.env, M'⟩) (f (.cid s1.M.length :: (ds ++ dds)) (s1.M ++ [.obj c []]))) X (ma s)) : Wo QA X (mMakeS c f dds ma s) := w_bind (w_mono h fun ds s1 h => by
  show Wo QA X (match f (.cid s1.M.length :: (ds ++ dds)) (s1.M ++ [.obj c []]) with | .ok (.val .non) M' => _ | .er x M' => _ | _ => _)
  cases q : f (.cid s1.M.length :: (ds ++ dds)) (s1.M ++ [.obj c []]) with
  | no => rw [q] at h; exact h
  | er x M' => rw [q] at h; exact h
  | ok a M' => rw [q] at h; obtain ⟨rfl, h⟩ := h; exact h)
theorem objAt_of {k c : Nat} {fs : List (Str × D)} (h : s.M[k]? = some (.obj c fs)) : objAt s (.val (.cid k)) = some (k, c, fs) := by unfold objAt; simp only []; rw [h]
end
end Y
namespace Y
open PySem L2 Z
open PyProof.Rows
end Y
namespace Y
open PySem L2 Z
section
variable {K : PySem.W.Frag} {ct : Ct} {H0 : Hp} {W : WX}
def leI (i j : Int) : Bool := decide (i ≤ j)
def mSortVals (mo : Mo AI) : Mo AI := fun s => (mo s).bind fun a s1 => match (viewD s1 a).bind fun l => intsD (l.map Prod.snd) with
  | some is => .ok (.new (.lst ((is.mergeSort leI).map D.int))) s1
  | none => .no
def mMinVals (mo : Mo AI) : Mo AI := fun s => (mo s).bind fun a s1 => match a with
  | .val (.cid k) => match s1.M[k]? with
    | some (.dK l) => match intsD (l.map Prod.snd) with
      | some (i :: is) => .ok (.val (.int (is.foldl min i))) s1
      | _ => .no
    | _ => .no
  | _ => .no
def mAsgTB (n : Nat) (g : Tgs) (f : Mf) (m : Mo (List AI)) : Ms := fun s => (m s).toS fun as s1 => match snap s1 as with
  | some ds => if D.noIdL ds = true then (match f ds [] with
    | .ok (.val d) _ => (match tupOf d with
      | some l => if l.length = n ∧ l.all D.scal = true then (match g l s1 with | some s2 => .nx s2 | none => .no) else .no
      | none => .no)
    | _ => .no) else .no
  | none => .no
variable {s : Stt} {QA : AI → Stt → Prop} {X : Exn → Stt → Prop} {N : Stt → Prop} {O : Rs → Prop}
theorem w_sortVals {m : Mo AI} (h : Wo (fun a s1 => ∃ l is, viewD s1 a = some l ∧ intsD (l.map Prod.snd) = some is ∧ QA (.new (.lst ((is.mergeSort leI).map D.int))) s1) X (m s)) : Wo QA X (mSortVals m s) := w_bind (w_mono h fun a s1 ⟨l, is, e1, e2, h⟩ => by
  show Wo QA X (match (viewD s1 a).bind fun l => intsD (l.map Prod.snd) with | some is => _ | none => _)
  rw [e1, Option.bind_some, e2]; exact h)
theorem w_minVals {m : Mo AI} (h : Wo (fun a s1 => ∃ k l i is, a = .val (.cid k) ∧ s1.M[k]? = some (.dK l) ∧ intsD (l.map Prod.snd) = some (i :: is) ∧ QA (.val (.int (is.foldl min i))) s1) X (m s)) : Wo QA X (mMinVals m s) := w_bind (w_mono h fun a s1 ⟨k, l, i, is, e1, e2, e3, h⟩ => by
  subst e1
  show Wo QA X (match s1.M[k]? with | some (.dK l) => _ | _ => _)
  rw [e2]; simp only []; rw [e3]; exact h)
theorem w_asgTB {n : Nat} {g : Tgs} {f : Mf} {m : Mo (List AI)} (h : Wo (fun as s1 => ∃ ds d M' l s2, snap s1 as = some ds ∧ D.noIdL ds = true ∧ f ds [] = .ok (.val d) M' ∧ tupOf d = some l ∧ l.length = n ∧ l.all D.scal = true ∧ g l s1 = some s2 ∧ N s2) (fun x s => O (.er x s)) (m s)) : Ws N O (mAsgTB n g f m s) := w_toS (w_mono h fun as s1 ⟨ds, d, M', l, s2, e1, e2, e3, e4, e5, e6, e7, h⟩ => by
  show Ws N O (match snap s1 as with | some ds => _ | none => _)
  rw [e1]; simp only []; rw [if_pos e2, e3]; simp only []; rw [e4]; simp only []; rw [if_pos ⟨e5, e6⟩, e7]; exact h)
theorem w_get2 {m1 m2 m3 : Mo AI} (h : Wo (fun a s1 => (∃ l, viewD s1 a = some l) ∧ Wo (fun i s2 => Wo (fun x s3 => ∃ l k, viewD s3 a = some l ∧ keyOf i = some k ∧ QA (.val ((vl l k).getD x)) s3) X (mV m3 s2)) X (mV m2 s1)) X (m1 s)) : Wo QA X (mGet2 m1 m2 m3 s) := w_bind (w_mono h fun a s1 ⟨⟨l, e⟩, h⟩ => by
  show Wo QA X (match viewD s1 a with | some _ => _ | none => _)
  rw [e]
  exact w_bind (w_mono h fun i s2 h => w_bind (w_mono h fun x s3 ⟨l', k, e1, e2, h⟩ => by
    unfold fGet; rw [e1]; simp only []; rw [e2]; exact h)))
end
theorem z_b0 {b : Bool} {A C : Prop} (h : b = false) (k : C) : if b = true then A else C := by rw [h]; exact k
theorem z_b1 {b : Bool} {A C : Prop} (h : b = true) (k : A) : if b = true then A else C := by rw [h]; exact k
end Y
namespace Y
open PySem L2 Z
section
variable {K : PySem.W.Frag} {ct : Ct} {H0 : Hp} {W : WX}
def mWN (m : Mo AI) : Mo Im := fun s => match m s with
  | .ok (.new (.dK l)) s1 => .ok ⟨dIt .keys l, none⟩ s1
  | .er x s1 => .er x s1
  | _ => .no
variable {s : Stt} {QI : Im → Stt → Prop} {X : Exn → Stt → Prop}
theorem w_wn {m : Mo AI} (h : Wo (fun a s1 => ∃ l, a = .new (.dK l) ∧ QI ⟨dIt .keys l, none⟩ s1) X (m s)) : Wo QI X (mWN m s) := by
  unfold mWN
  cases q : m s with
  | no => rw [q] at h; exact h
  | er x s1 => rw [q] at h; exact h
  | ok a s1 => rw [q] at h; obtain ⟨l, rfl, h⟩ := h; exact h
end
end Y
namespace Y
open PySem L2 Z
open PySem.W
section
variable {s : Stt} {QA : AI → Stt → Prop} {X : Exn → Stt → Prop} {N : Stt → Prop} {O : Rs → Prop}
theorem ixN_nn {n : Nat} {i : Int} (h0 : 0 ≤ i) (h1 : i < n) : ixN n i = some i.toNat := by unfold ixN; rw [if_pos h0, if_pos h1]
theorem so_setLst {a : AI} {i : Int} {d : D} {l : List D} {j : Nat} (e : getC s a = some (.lst l)) (e2 : ixN l.length i = some j) (h : N (setC s a (.lst (l.set j d)))) : So N (setIt a (.int i) d s) := by
  unfold setIt; rw [e]; simp only []; rw [e2]; exact h
def lePp (x y : Int × Int) : Bool := !ltP y x
theorem le_pair (x y : Int × Int) : dataLe false pyD (tP x) (tP y) = lePp x y := congrArg (!·) (dlt y x)
theorem sort_pairs (ps : List (Int × Int)) : (ps.map tP).mergeSort (dataLe false pyD) = (ps.mergeSort lePp).map tP := (List.map_mergeSort fun i _ j _ => (le_pair i j).symm).symm
theorem sortOk_pairs (ps : List (Int × Int)) : SortOk (ps.map tP) := by
  refine ⟨fun d hd => ?_, fun d hd d' hd' => ?_, .inl fun d hd => ?_, fun d hd => ?_⟩
  · obtain ⟨i, _, rfl⟩ := List.mem_map.mp hd; rfl
  · rw [List.map_map] at hd hd'
    obtain ⟨i, _, rfl⟩ := List.mem_map.mp hd
    obtain ⟨j, _, rfl⟩ := List.mem_map.mp hd'; rfl
  · rw [List.map_map] at hd
    obtain ⟨i, _, rfl⟩ := List.mem_map.mp hd
    exact ⟨_, _, rfl⟩
  · obtain ⟨i, _, rfl⟩ := List.mem_map.mp hd; show 1 ≤ 40; decide
theorem lePp_perm (ps : List (Int × Int)) : (ps.mergeSort lePp).Perm ps := List.mergeSort_perm ..
theorem lePp_pw (ps : List (Int × Int)) : (ps.mergeSort lePp).Pairwise (fun x y => x.1 < y.1 ∨ (x.1 = y.1 ∧ x.2 ≤ y.2)) := (List.pairwise_mergeSort (fun a b c h1 h2 => by unfold lePp ltP at *; simp at *; omega) (fun a b => by unfold lePp ltP; simp; omega) ps).imp fun h => by unfold lePp ltP at h; simp at h; omega
theorem w_tupL {a : AI} {l : List D} (e : viewL s a = some l) (h : QA (.val (.tup l)) s) : Wo QA X (fTup s [a]) := by
  unfold fTup; simp only []; rw [e]; exact h
end
end Y
namespace Y
open PySem L2 Z
open PySem.W
section
variable {s : Stt} {QA : AI → Stt → Prop} {QI : Im → Stt → Prop} {X : Exn → Stt → Prop} {N : Stt → Prop} {O : Rs → Prop}
theorem w_wz {r : Mo (List D)} (h : Wo (fun ds s1 => ∃ l l', ds = [.lst l, .lst l'] ∧ QI ⟨zipL l l', none⟩ s1) X (r s)) : Wo QI X (mWZ r s) :=
  w_bind (w_mono h fun ds s1 h => by
    obtain ⟨l, l', rfl, h⟩ := h
    exact h)
theorem w_wzI {l l' : List D} {P : List D → List D → Prop} (h : P l l') : ∃ m m', [D.lst l, D.lst l'] = [.lst m, .lst m'] ∧ P m m' := ⟨l, l', rfl, h⟩
theorem ib_le {x : Int} {m : Nat} (h : x.natAbs < 2 ^ m) : Builtin.Int.intBits x ≤ m := by
  unfold Builtin.Int.intBits
  by_cases h0 : x = 0
  · subst h0; simp
  · rw [if_neg (by simpa using h0)]
    have := (Nat.log2_lt (by omega)).mpr h
    omega
theorem cshl_1 {j : Int} (h0 : 0 ≤ j) (h1 : j ≤ 100000) : CShl 1 j := by
  have := ib_le (x := 1) (m := 1) (by decide)
  exact ⟨by omega, by omega⟩
theorem cshl_N {x j : Int} {m : Nat} (hx : x.natAbs < 2 ^ m) (hm : m ≤ 1000000) (h0 : 0 ≤ j) (h1 : j ≤ 1000000) : CShl x j := by
  have := ib_le hx
  exact ⟨by omega, by omega⟩
theorem sh2 {x : Str} {d : PyData} (hx : PySem.PyData.strOk x = true) (hd : d = .none ∨ ∃ i, d = .int i) : SeqAt.shaped (.tuple [.str x, d]) = true := by
  unfold SeqAt.shaped
  rcases hd with rfl | ⟨i, rfl⟩
  · show ((PySem.PyData.strOk x && true) && _) = true
    rw [hx]; rfl
  · show ((PySem.PyData.strOk x && true) && _) = true
    rw [hx]; rfl
end
end Y
namespace Y
open PySem L2 Z
open PySem.W
end Y
namespace Y
open PySem L2 Z
section
variable {K : PySem.W.Frag}
def KT (K : PySem.W.Frag) (a : Addr) (xs : List V) : Prop := ∃ (o : Obj) (its : Array Value) (n : Nat), K.lookup a = some o ∧ o.cls = .type "tuple" ∧ o.data = .seq its n ∧ its.size ≤ sizeLine ∧ Vals xs its.toList
end
section
variable {K : PySem.W.Frag} {ct : Ct} {H0 : Hp} {W : WX} {S : Sh} {s : Stt} {σ : St} {H : Hp}
/-- o[i] op= e, a list of ints -/
def mAugS (f : Int → Int → Int) (mo mi mv : Mo AI) : Ms := fun s => (mo s).toS fun a s1 => (mV mi s1).toS fun i s2 => match i with
  | .int k => (match (viewL s2 a).bind fun l => l[k.toNat]? with
    | some (.int x) => if 0 ≤ k then ((mv s2).toS fun b s3 => match b with
      | .val (.int y) => match setIt a (.int k) (.int (f x y)) s3 with
        | some s4 => .nx s4
        | none => .no
      | _ => .no) else .no
    | _ => .no)
  | _ => .no
end
section
variable {s : Stt} {QA : AI → Stt → Prop} {X : Exn → Stt → Prop} {N : Stt → Prop} {O : Rs → Prop}
theorem w_augS {f : Int → Int → Int} {mo mi mv : Mo AI} (h : Wo (fun a s1 => Wo (fun i s2 => ∃ (k x : Int) (l : List D), i = .int k ∧ viewL s2 a = some l ∧ l[k.toNat]? = some (.int x) ∧ 0 ≤ k ∧ Wo (fun b s3 => ∃ y, b = .val (.int y) ∧ So N (setIt a (.int k) (.int (f x y)) s3)) (fun x s => O (.er x s)) (mv s2)) (fun x s => O (.er x s)) (mV mi s1)) (fun x s => O (.er x s)) (mo s)) : Ws N O (mAugS f mo mi mv s) :=
  w_toS (w_mono h fun a s1 h => w_toS (w_mono h fun i s2 h => by
    obtain ⟨k, x, l, rfl, h1, h2, h3, h⟩ := h
    show Ws N O (match (viewL s2 a).bind fun l => l[k.toNat]? with
    | some (.int x) => if 0 ≤ k then ((mv s2).toS fun b s3 => match b with
      | .val (.int y) => match setIt a (.int k) (.int (f x y)) s3 with
        | some s4 => .nx s4
        | none => .no
      | _ => .no) else .no
    | _ => .no)
    rw [h1, Option.bind_some, h2]
    show Ws N O (if 0 ≤ k then _ else _)
    rw [if_pos h3]
    refine w_toS (w_mono h fun b s3 h => ?_)
    obtain ⟨y, rfl, h⟩ := h
    show Ws N O (match setIt a (.int k) (.int (f x y)) s3 with | some s4 => .nx s4 | none => .no)
    cases q : setIt a (.int k) (.int (f x y)) s3 <;> rw [q] at h <;> exact h))
end
end Y
namespace Y
open PySem L2 Z
section
variable {K : PySem.W.Frag} {ct : Ct} {H0 : Hp} {W : WX} {S : Sh} {s : Stt} {σ : St} {H : Hp}
theorem viewDT_ok {Hs : Hp} {v : V} {a : AI} {l : List (List Key × D)} (r : Rel K ct H0 S s σ H) (i : ItOk K ct Hs S s σ H v a) (e : viewDT s a = some l) : ∃ p kvs, v = .ref p ∧ Rd H p (.dT kvs) ∧ RpK K S.G S.α s.M.length kvs l := by
  have frz : ∀ {u : V} {d : D}, Rp K S.G S.α s.M.length u d → dictTOf s.M d = some l → ∃ p kvs, u = .ref p ∧ Rd H p (.dT kvs) ∧ RpK K S.G S.α s.M.length kvs l := fun {u d} h e => by
    cases d with
    | dT l' => cases e; cases h with | dT h1 h3 h2 => exact ⟨_, _, rfl, uT' (r.sub _ _ h1), .of h3 h2⟩
    | cid k =>
      cases h
      obtain ⟨c, q, e1⟩ := Option.bind_eq_some_iff.mp (show s.M[k]?.bind Cn.aT = some l from e)
      cases c with
      | dT l' =>
        cases e1
        obtain ⟨vs, h1, h3, h2⟩ := (r.ids k _ q).2
        exact ⟨_, vs, rfl, .inl h1, .of h3 h2⟩
      | lkT l' =>
        cases e1
        obtain ⟨vs, ⟨od, h1⟩, h3, h2⟩ := (r.ids k _ q).2
        exact ⟨_, vs, rfl, .inr ⟨od, h1⟩, .of h3 h2⟩
      | _ => cases e1
    | _ => cases e
  have own : ∀ {p : Addr} {c : Cn}, CnOk K ct S s.M.length H p c → dictTOf s.M c.toD = some l → ∃ q kvs, V.ref p = .ref q ∧ Rd H q (.dT kvs) ∧ RpK K S.G S.α s.M.length kvs l := fun {p c} h e => by
    cases c with
    | dT l' => cases e; obtain ⟨vs, h1, h3, h2⟩ := h; exact ⟨p, vs, rfl, .inl h1, .of h3 h2⟩
    | lst l' => cases e
    | dK l' => cases e
    | obj _ _ => cases e
    | lkK l => cases e
    | lkT l => cases e
  unfold viewDT at e
  cases a with
  | val d => exact frz i e
  | new c =>
    obtain ⟨p, rfl, _, _, _, hc, h5⟩ := i
    exact own h5 e
  | slot j =>
    obtain ⟨d, q0, e⟩ := Option.bind_eq_some_iff.mp e
    obtain ⟨en, q1, rfl⟩ := Option.map_eq_some_iff.mp q0
    have q := entAt_eq q1
    have hi : σ[j]? = some (some v) := i
    have hh := r.slot j en q
    cases en with
    | fz d =>
      obtain ⟨v', h1, h2⟩ := hh
      rw [hi] at h1; cases h1
      exact frz h2 e
    | xn x => exact (entAt_xn q1).elim
    | ow c =>
      obtain ⟨p, h1, _, _, hc, h5⟩ := hh
      rw [hi] at h1; cases h1
      exact own h5 e
def keysD : List D → Option (List Key)
  | [] => some []
  | d :: l => (keyOf d).bind fun k => (keysD l).map (k :: ·)
def tkey : D → Option (List Key)
  | .tup l => keysD l
  | _ => none
theorem keysD_rp {G : Hp} {α : Nat → Addr} {n : Nat} : ∀ {l : List D} {vs : List V} {ks : List Key}, RpL K G α n vs l → keysD l = some ks → vs = ks.map kV
  | [], _, _, .nil, e => by cases e; rfl
  | d :: l, _, _, .cons h r, e => by
    obtain ⟨k, e1, e2⟩ := Option.bind_eq_some_iff.mp (show (keyOf d).bind (fun k => (keysD l).map (k :: ·)) = _ from e)
    obtain ⟨ks, e3, rfl⟩ := Option.map_eq_some_iff.mp e2
    rw [keyOf_rp h e1, keysD_rp r e3]; rfl
theorem tkey_rp {n : Nat} {v : V} {d : D} {ks : List Key} (rel : Rel K ct H0 S s σ H) (h : Rp K S.G S.α n v d) (e : tkey d = some ks) : ∃ b, v = .ref b ∧ H b = some (.tup (ks.map kV)) := by
  cases h with
  | tup h1 h2 =>
    refine ⟨_, rfl, ?_⟩
    rw [← keysD_rp h2 e]
    exact uP' (rel.sub _ _ h1)
  | _ => cases e
theorem dgetT_ok {n : Nat} {p b : Addr} {kvs : List (List Key × V)} {l : List (List Key × D)} {k : List Key} (h : Rd H p (.dT kvs)) (hb : H b = some (.tup (k.map kV))) (r : RpK K S.G S.α n kvs l) :
    (vl l k = none ∧ DGet H p (.ref b) none) ∨ ∃ v d, vl l k = some d ∧ DGet H p (.ref b) (some v) ∧ Rp K S.G S.α n v d := by
  have g : DGet H p (.ref b) (valV kvs k) := .inr ⟨kvs, k, b, h, rfl, hb, rfl⟩
  rcases r.get (k := k) with ⟨h1, h2⟩ | ⟨v, d, h1, h2, h3⟩
  · rw [h2] at g; exact .inl ⟨h1, g⟩
  · rw [h2] at g; exact .inr ⟨v, d, h1, g, h3⟩
def fIxDT : Stt → AI → AI → Ro AI := fun s a b => match viewDT s a, b with
  | some l, .val i => match (tkey i).bind (vl l) with
    | some d => .ok (.val d) s
    | none => .no
  | _, _ => .no
theorem j_ixDT : J2 K ct H0 (rIxY K) fIxDT := fun W S s σ H Hs Hs' x y a b Q rel ia ib p => by
  unfold fIxDT at p
  split at p
  · rename_i l i e1
    obtain ⟨q, kvs, rfl, h1, h2⟩ := viewDT_ok rel ia e1
    split at p
    · rename_i d e
      obtain ⟨k, ek, ev⟩ := Option.bind_eq_some_iff.mp e
      obtain ⟨b, rfl, hb⟩ := tkey_rp rel ib ek
      rcases dgetT_ok h1 hb h2 with ⟨h3, h4⟩ | ⟨v, d', h3, h4, h5⟩
      · rw [h3] at ev; cases ev
      · rw [h3] at ev; cases ev
        exact .inr ⟨q, v, rfl, h4, p.val rel h5⟩
    · exact False.elim p
  · exact False.elim p
/-- o[i] = d -/
def setItT (a : AI) (i d : D) (s : Stt) : Option Stt := match getC s a with
  | some (.dT l) => (tkey i).bind fun k => if l.length < sizeLine then some (setC s a (.dT (pu l k d))) else none
  | _ => none
def mAsgST (mo mi : Mo AI) (mv : Mo AI) : Ms := fun s => (mV mv s).toS fun d s1 => (mo s1).toS fun a s2 => (mV mi s2).toS fun i s3 => match setItT a i d s3 with
  | some s4 => .nx s4
  | none => .no
def mDNewT : Mo AI := fun s => .ok (.new (.dT [])) s
/-- d.get(k), d.get(k, x) -/
def fGetT (s : Stt) (a : AI) (i x : D) : Ro AI := match viewDT s a with
  | some l => match tkey i with
    | some k => .ok (.val ((vl l k).getD x)) s
    | none => .no
  | none => .no
def mGet2T (mo mi mx : Mo AI) : Mo AI := fun s => (mo s).bind fun a s1 => match viewDT s1 a with
  | some _ => (mV mi s1).bind fun i s2 => (mV mx s2).bind fun x s3 => fGetT s3 a i x
  | none => .no
def mGet1T (mo mi : Mo AI) : Mo AI := fun s => (mo s).bind fun a s1 => match viewDT s1 a with
  | some _ => (mV mi s1).bind fun i s2 => fGetT s2 a i .non
  | none => .no
/-- d.get(k) of a dict with plain keys -/
def mGet1 (mo mi : Mo AI) : Mo AI := fun s => (mo s).bind fun a s1 => match viewD s1 a with
  | some _ => (mV mi s1).bind fun i s2 => fGet s2 a i .non
  | none => .no
end
section
variable {s : Stt} {X : Exn → Stt → Prop} {QA : AI → Stt → Prop} {N : Stt → Prop} {O : Rs → Prop} {m1 m2 m3 : Mo AI}
theorem w_dnewT (h : QA (.new (.dT [])) s) : Wo QA X (mDNewT s) := h
theorem w_ixDT {a : AI} {i d : D} {l : List (List Key × D)} {k : List Key} (e0 : viewDT s a = some l) (ek : tkey i = some k) (e : vl l k = some d) (h : QA (.val d) s) : Wo QA X (fIxDT s a (.val i)) := by
  unfold fIxDT; rw [e0]; simp only []; rw [ek, Option.bind_some, e]; exact h
theorem w_asgST (h : Wo (fun d s1 => Wo (fun a s2 => Wo (fun i s3 => So N (setItT a i d s3)) (fun x s => O (.er x s)) (mV m2 s2)) (fun x s => O (.er x s)) (m1 s1)) (fun x s => O (.er x s)) (mV m3 s)) : Ws N O (mAsgST m1 m2 m3 s) :=
  w_toS (w_mono h fun d s1 h => w_toS (w_mono h fun a s2 h => w_toS (w_mono h fun i s3 h => by
    show Ws N O (match setItT a i d s3 with | some s4 => _ | none => _)
    cases e : setItT a i d s3 with
    | none => rw [e] at h; exact h.elim
    | some s4 => rw [e] at h; exact h)))
theorem w_get2T (h : Wo (fun a s1 => (∃ l, viewDT s1 a = some l) ∧ Wo (fun i s2 => Wo (fun x s3 => ∃ l k, viewDT s3 a = some l ∧ tkey i = some k ∧ QA (.val ((vl l k).getD x)) s3) X (mV m3 s2)) X (mV m2 s1)) X (m1 s)) : Wo QA X (mGet2T m1 m2 m3 s) := w_bind (w_mono h fun a s1 ⟨⟨l, e⟩, h⟩ => by
  show Wo QA X (match viewDT s1 a with | some _ => _ | none => _)
  rw [e]
  exact w_bind (w_mono h fun i s2 h => w_bind (w_mono h fun x s3 ⟨l', k, e1, e2, h⟩ => by
    unfold fGetT; rw [e1]; simp only []; rw [e2]; exact h)))
theorem w_get1T (h : Wo (fun a s1 => (∃ l, viewDT s1 a = some l) ∧ Wo (fun i s2 => ∃ l k, viewDT s2 a = some l ∧ tkey i = some k ∧ QA (.val ((vl l k).getD .non)) s2) X (mV m2 s1)) X (m1 s)) : Wo QA X (mGet1T m1 m2 s) := w_bind (w_mono h fun a s1 ⟨⟨l, e⟩, h⟩ => by
  show Wo QA X (match viewDT s1 a with | some _ => _ | none => _)
  rw [e]
  exact w_bind (w_mono h fun i s2 ⟨l', k, e1, e2, h⟩ => by
    show Wo QA X (fGetT s2 a i .non)
    unfold fGetT; rw [e1]; simp only []; rw [e2]; exact h))
theorem w_get1 (h : Wo (fun a s1 => (∃ l, viewD s1 a = some l) ∧ Wo (fun i s2 => ∃ l k, viewD s2 a = some l ∧ keyOf i = some k ∧ QA (.val ((vl l k).getD .non)) s2) X (mV m2 s1)) X (m1 s)) : Wo QA X (mGet1 m1 m2 s) := w_bind (w_mono h fun a s1 ⟨⟨l, e⟩, h⟩ => by
  show Wo QA X (match viewD s1 a with | some _ => _ | none => _)
  rw [e]
  exact w_bind (w_mono h fun i s2 ⟨l', k, e1, e2, h⟩ => by
    show Wo QA X (fGet s2 a i .non)
    unfold fGet; rw [e1]; simp only []; rw [e2]; exact h))
end
end Y
namespace Y
open PySem L2 Z
def mapO {α β : Type} (g : α → Option β) : List α → Option (List β)
  | [] => some []
  | d :: l => (g d).bind fun d' => (mapO g l).map (d' :: ·)
/-- what stands behind ids, as data -/
def rsv : Nat → List Cn → D → Option D
  | 0, _, _ => none
  | f + 1, M, .cid k => match M[k]? with
    | some (.lst l) => (mapO (rsv f M) l).map .lst
    | some (.dK l) => (mapO (rsv f M) (l.map Prod.snd)).map fun vs => .dK ((l.map Prod.fst).zip vs)
    | some (.dT l) => (mapO (rsv f M) (l.map Prod.snd)).map fun vs => .dT ((l.map Prod.fst).zip vs)
    | _ => none
  | f + 1, M, .tup l => (mapO (rsv f M) l).map .tup
  | f + 1, M, .ctp l => (mapO (rsv f M) l).map .ctp
  | f + 1, M, .lst l => (mapO (rsv f M) l).map .lst
  | f + 1, M, .clst l => (mapO (rsv f M) l).map .clst
  | f + 1, M, .dK l => (mapO (rsv f M) (l.map Prod.snd)).map fun vs => .dK ((l.map Prod.fst).zip vs)
  | f + 1, M, .dT l => (mapO (rsv f M) (l.map Prod.snd)).map fun vs => .dT ((l.map Prod.fst).zip vs)
  | _ + 1, _, .non => some .non
  | _ + 1, _, .bl b => some (.bl b)
  | _ + 1, _, .int i => some (.int i)
  | _ + 1, _, .str x => some (.str x)
  | _ + 1, _, .ty n => some (.ty n)
section
variable {K : PySem.W.Frag} {ct : Ct} {H0 : Hp} {W : WX} {S : Sh} {s : Stt} {σ : St} {H : Hp}
def pureR (r : Fr) (s : Stt) : Ro AI := match r with
  | .ok (.val d) M' => match rsv 9 M' d with
    | some d' => .ok (.val d') s
    | none => .no
  | .ok (.new (.lst l)) M' => match mapO (rsv 9 M') l with
    | some l' => .ok (.new (.lst l')) s
    | none => .no
  | .er x M' => match mapO (rsv 9 M') (x.fs.map Prod.snd) with
    | some vs => .er ⟨x.cls, (x.fs.map Prod.fst).zip vs⟩ s
    | none => .no
  | _ => .no
def mCallP (f : Mf) (m : Mo (List D)) : Mo AI := fun s => (m s).bind fun ds s1 => if D.noIdL ds = true then (match f ds [] with
  | .er _ _ => .no
  | r => pureR r s1) else .no
def mCallPS (f : Mf) (m : Mo (List D)) : Mo AI := fun s => (m s).bind fun ds s1 => if D.noIdL ds = true then pureR (f ds []) s1 else .no
end
/-- what a pure call tells -/
def Pf (P : AI → Prop) (E : Exn → Prop) : Fr → Prop
  | .ok (.val d) M' => ∃ d', rsv 9 M' d = some d' ∧ P (.val d')
  | .ok (.new (.lst l)) M' => ∃ l', mapO (rsv 9 M') l = some l' ∧ P (.new (.lst l'))
  | .er x M' => ∃ vs, mapO (rsv 9 M') (x.fs.map Prod.snd) = some vs ∧ E ⟨x.cls, (x.fs.map Prod.fst).zip vs⟩
  | _ => False
section
variable {s : Stt} {X : Exn → Stt → Prop} {QA : AI → Stt → Prop} {f : Mf} {ma : Mo (List D)}
theorem w_pureR {r : Fr} (h : Pf (fun a => QA a s) (fun x => X x s) r) : Wo QA X (pureR r s) := by
  unfold pureR
  cases r with
  | no => exact h.elim
  | er x M' => obtain ⟨vs, e, h⟩ := h; simp only []; rw [e]; exact h
  | ok a M' =>
    cases a with
    | val d => obtain ⟨vs, e, h⟩ := h; simp only []; rw [e]; exact h
    | slot j => exact h.elim
    | new c =>
      cases c with
      | lst l => obtain ⟨vs, e, h⟩ := h; simp only []; rw [e]; exact h
      | _ => exact h.elim
theorem w_callP (h : Wo (fun ds s1 => D.noIdL ds = true ∧ Pf (fun a => QA a s1) (fun _ => False) (f ds [])) X (ma s)) : Wo QA X (mCallP f ma s) := w_bind (w_mono h fun ds s1 ⟨e, h⟩ => by
  show Wo QA X (if D.noIdL ds = true then _ else _)
  rw [if_pos e]
  generalize f ds [] = r at h ⊢
  cases r with
  | no => exact h.elim
  | er x M' => obtain ⟨_, _, h⟩ := h; exact h.elim
  | ok a M' => exact w_pureR (show Pf (fun a => QA a s1) (fun x => X x s1) (.ok a M') from by
      cases a with
      | val d => exact h
      | slot j => exact h.elim
      | new c =>
        cases c with
        | lst l => exact h
        | _ => exact h.elim))
theorem w_callPS (h : Wo (fun ds s1 => D.noIdL ds = true ∧ Pf (fun a => QA a s1) (fun x => X x s1) (f ds [])) X (ma s)) : Wo QA X (mCallPS f ma s) := w_bind (w_mono h fun ds s1 ⟨e, h⟩ => by
  show Wo QA X (if D.noIdL ds = true then _ else _)
  rw [if_pos e]
  exact w_pureR h)
end
end Y
namespace Y
open PySem L2 Z
theorem viewL_cid {s : Stt} {k : Nat} {l : List D} (h : s.M[k]? = some (.lst l)) : viewL s (.val (.cid k)) = some l := by
  show s.M[k]?.bind Cn.aL = some l; rw [h]; rfl
theorem lenD_cid {M : List Cn} {k : Nat} {l : List D} (h : M[k]? = some (.lst l)) : lenD M (.cid k) = some l.length := by
  show M[k]?.bind _ = _; rw [h]; rfl
theorem w_lenC {QA : AI → Stt → Prop} {X : Exn → Stt → Prop} {env : List (Option Ent)} {M : List Cn} {k : Nat} {l : List D} (h : M[k]? = some (.lst l)) (q : QA (.val (.int (l.length : Int))) ⟨env, M⟩) : Wo QA X (fLen ⟨env, M⟩ [.val (.cid k)]) := w_len (d := .cid k) rfl (lenD_cid h) q
section
variable {K : PySem.W.Frag} {ct : Ct} {H0 : Hp} {W : WX}
def fSlT (s : Stt) (a : AI) (lo hi : Option Int) : Ro AI := match viewT s a with
  | some l => if HT.sIx l.length 0 lo = 0 ∧ HT.sIx l.length l.length hi = l.length then .no else .ok (.val (.tup (cutL l lo hi))) s
  | none => .no
def mSlT (m : Mo AI) (ml mh : Mo (Option Int)) : Mo AI := fun s => (m s).bind fun a s1 => (ml s1).bind fun l s2 => (mh s2).bind fun h s3 => fSlT s3 a l h
variable {s : Stt} {X : Exn → Stt → Prop} {QA : AI → Stt → Prop} {m : Mo AI}
theorem w_slTp {ml mh : Mo (Option Int)} (h : Wo (fun a s1 => Wo (fun l s2 => Wo (fun u s3 => Wo QA X (fSlT s3 a l u)) X (mh s2)) X (ml s1)) X (m s)) : Wo QA X (mSlT m ml mh s) := w_bind (w_mono h fun _ _ h => w_bind (w_mono h fun _ _ h => w_bind h))
theorem w_slTu {a : AI} {l : List D} {lo hi : Option Int} (e : viewT s a = some l) (c : ¬ (HT.sIx l.length 0 lo = 0 ∧ HT.sIx l.length l.length hi = l.length)) (h : QA (.val (.tup (cutL l lo hi))) s) : Wo QA X (fSlT s a lo hi) := by
  unfold fSlT; rw [e]; simp only []; rw [if_neg c]; exact h
end
end Y
namespace Y
open PySem L2 Z
def Lay (k : Nat) (x : PyData) : Prop := x.canLay0 = true ∧ x.depth ≤ k
theorem lay_int {i : Int} : Lay 1 (.int i) := ⟨rfl, by simp [PyData.depth]⟩
theorem Lay.mono {k m : Nat} {x : PyData} (h : Lay k x) (hk : k ≤ m) : Lay m x := ⟨h.1, Nat.le_trans h.2 hk⟩
theorem lay_all {k : Nat} : ∀ {l : List PyData}, (∀ x ∈ l, Lay k x) → PyData.canLayAll0 l = true ∧ PyData.depthAll l ≤ k
  | [], _ => ⟨rfl, Nat.zero_le _⟩
  | x :: l, h => by
    obtain ⟨h1, h2⟩ := lay_all (l := l) (fun y hy => h y (List.mem_cons_of_mem _ hy))
    obtain ⟨h3, h4⟩ := h x List.mem_cons_self
    refine ⟨?_, ?_⟩
    · show (x.canLay0 && PyData.canLayAll0 l) = true; rw [h3, h1]; rfl
    · show max x.depth (PyData.depthAll l) ≤ k; omega
theorem lay_tup {k : Nat} {l : List PyData} (h : ∀ x ∈ l, Lay k x) : Lay (k + 1) (.tuple l) := by
  obtain ⟨h1, h2⟩ := lay_all h
  exact ⟨h1, by show PyData.depthAll l + 1 ≤ k + 1; omega⟩
theorem Lay.shaped {k : Nat} {x : PyData} (h : Lay k x) (hk : k ≤ 64) : SeqAt.shaped x = true := by
  unfold SeqAt.shaped
  rw [h.1, decide_eq_true (Nat.le_trans h.2 hk)]; rfl
end Y
namespace Y
open PySem L2 Z
section
variable {N : Stt → Prop} {O : Rs → Prop} {s : Stt} {a b : Ms}
theorem noid_and {ds : List D} {P : Prop} (h : D.noIdL ds = true) (p : P) : D.noIdL ds = true ∧ P := ⟨h, p⟩
end
end Y
namespace Y
open PySem L2 Z
section
variable {K : PySem.W.Frag} {ct : Ct} {H0 : Hp} {W : WX} {S : Sh} {s : Stt} {σ : St} {H : Hp}
def vConsK (m : Mo AI) (r : Mo (List D)) : Mo (List D) := fun s => (mK m s).bind fun a s1 => (r s1).bind fun as s2 => .ok (a :: as) s2
end
mutual
def shD (n : Nat) : D → D
  | .tup l => .tup (shL n l)
  | .ctp l => .ctp (shL n l)
  | .lst l => .lst (shL n l)
  | .clst l => .clst (shL n l)
  | .dK l => .dK (shK n l)
  | .dT l => .dT (shT n l)
  | .cid k => .cid (n + k)
  | d => d
def shL (n : Nat) : List D → List D
  | [] => []
  | d :: l => shD n d :: shL n l
def shK (n : Nat) : List (Key × D) → List (Key × D)
  | [] => []
  | (k, d) :: l => (k, shD n d) :: shK n l
def shT (n : Nat) : List (List Key × D) → List (List Key × D)
  | [] => []
  | (k, d) :: l => (k, shD n d) :: shT n l
end
def shF (n : Nat) : List (Str × D) → List (Str × D)
  | [] => []
  | (k, d) :: l => (k, shD n d) :: shF n l
def shC (n : Nat) : Cn → Cn
  | .lst l => .lst (shL n l)
  | .dK l => .dK (shK n l)
  | .dT l => .dT (shT n l)
  | .obj c fs => .obj c (shF n fs)
  | .lkK l => .lkK (shK n l)
  | .lkT l => .lkT (shT n l)
section
variable {K : PySem.W.Frag} {ct : Ct} {H0 : Hp} {W : WX} {S : Sh} {s : Stt} {σ : St} {H : Hp} {G : Hp} {α β : Nat → Addr} {n n' : Nat}
def Sh.join (S S' : Sh) (n : Nat) : Sh := ⟨S'.G, fun k => if k < n then S.α k else S'.α (k - n), fun a => match S.lab a with
  | some l => some l
  | none => match S'.lab a with
    | some (.id k) => some (.id (n + k))
    | _ => none⟩
def takeR (r : Fr) (s : Stt) : Ro AI := match r with
  | .ok (.val d) M' => .ok (.val (shD s.M.length d)) ⟨s.env, s.M ++ M'.map (shC s.M.length)⟩
  | .ok (.new c) M' => .ok (.new (shC s.M.length c)) ⟨s.env, s.M ++ M'.map (shC s.M.length)⟩
  | .er x M' => .er ⟨x.cls, shF s.M.length x.fs⟩ ⟨s.env, s.M ++ M'.map (shC s.M.length)⟩
  | _ => .no
def mCallT (f : Mf) (m : Mo (List D)) : Mo AI := fun s => (m s).bind fun ds s1 => if D.noIdL ds = true then (match f ds [] with
  | .er _ _ => .no
  | r => takeR r s1) else .no
def mCallTS (f : Mf) (m : Mo (List D)) : Mo AI := fun s => (m s).bind fun ds s1 => if D.noIdL ds = true then takeR (f ds []) s1 else .no
end
/-- what a call tells whose cells are taken over -/
def Tf (n : Nat) (P : AI → List Cn → Prop) (E : Exn → List Cn → Prop) : Fr → Prop
  | .ok (.val d) M' => P (.val (shD n d)) (M'.map (shC n))
  | .ok (.new c) M' => P (.new (shC n c)) (M'.map (shC n))
  | .er x M' => E ⟨x.cls, shF n x.fs⟩ (M'.map (shC n))
  | _ => False
section
variable {s : Stt} {X : Exn → Stt → Prop} {QA : AI → Stt → Prop} {QV : List D → Stt → Prop} {f : Mf} {ma : Mo (List D)} {m : Mo AI} {r : Mo (List D)}
theorem w_vConsK (h : Wo (fun a s1 => Wo (fun as s2 => QV (a :: as) s2) X (r s1)) X (mK m s)) : Wo QV X (vConsK m r s) := w_bind (w_mono h fun _ _ h => w_bind (w_mono h fun _ _ h => h))
theorem w_takeR {r : Fr} (h : Tf s.M.length (fun a M' => QA a ⟨s.env, s.M ++ M'⟩) (fun x M' => X x ⟨s.env, s.M ++ M'⟩) r) : Wo QA X (takeR r s) := by
  unfold takeR
  cases r with
  | no => exact h.elim
  | er x M' => exact h
  | ok a M' =>
    cases a with
    | val d => exact h
    | slot j => exact h.elim
    | new c => exact h
theorem w_callT (h : Wo (fun ds s1 => D.noIdL ds = true ∧ Tf s1.M.length (fun a M' => QA a ⟨s1.env, s1.M ++ M'⟩) (fun _ _ => False) (f ds [])) X (ma s)) : Wo QA X (mCallT f ma s) := w_bind (w_mono h fun ds s1 ⟨e, h⟩ => by
  show Wo QA X (if D.noIdL ds = true then _ else _)
  rw [if_pos e]
  generalize f ds [] = r at h ⊢
  cases r with
  | no => exact h.elim
  | er x M' => exact h.elim
  | ok a M' => exact w_takeR (show Tf s1.M.length (fun a M' => QA a ⟨s1.env, s1.M ++ M'⟩) (fun x M' => X x ⟨s1.env, s1.M ++ M'⟩) (.ok a M') from by
      cases a with
      | val d => exact h
      | slot j => exact h.elim
      | new c => exact h))
theorem w_callTS (h : Wo (fun ds s1 => D.noIdL ds = true ∧ Tf s1.M.length (fun a M' => QA a ⟨s1.env, s1.M ++ M'⟩) (fun x M' => X x ⟨s1.env, s1.M ++ M'⟩) (f ds [])) X (ma s)) : Wo QA X (mCallTS f ma s) := w_bind (w_mono h fun ds s1 ⟨e, h⟩ => by
  show Wo QA X (if D.noIdL ds = true then _ else _)
  rw [if_pos e]
  exact w_takeR h)
end
end Y
namespace Y
open PySem L2 Z
end Y
namespace Y
open PySem L2 Z
end Y
namespace Y
open PySem L2 Z
theorem w_mI {s : Stt} {X : Exn → Stt → Prop} {QA : AI → Stt → Prop} {m : Mo D} (h : Wo (fun d s1 => QA (.val d) s1) X (m s)) : Wo QA X (mI m s) := w_bind (w_mono h fun _ _ h => h)
end Y
namespace Y
open PySem L2 Z
section
variable {K : PySem.W.Frag} {ct : Ct} {H0 : Hp} {W : WX}
theorem sv_forAt {js : List Nat} {wi : TI} {g : TG} {tb : TS} {mi : Mo Im} {f : Tg} {b : Ms} {S : Sh} {s : Stt} {σ : St} {H : Hp} {Dn : Ends} (hi : ∀ R, Pst K ct H0 (RW K ct H0) W S s σ H R (mi s) → wi σ H R) (hg : Sg K ct H0 js g f) (hb : Sv K ct H0 W tb b) (rel : Rel K ct H0 S s σ H) (p : PstS K ct H0 W S s H Dn (mFor mi f b s)) : tFor wi g tb Dn σ H :=
  hi _ (PstS.bind p fun S1 s1 H1 J im st1 rel1 wk p1 => by
    have p1 := PstS.from p1 st1
    generalize hR : forN f b im.ck im.xs s1 = R at p1
    refine ⟨fun i m σ' H' => m = im.xs.length - i ∧ ∃ S' s', Stp S1 s1.M.length H1 S' s'.M.length H' ∧ Rel K ct H0 S' s' σ' H' ∧ i ≤ im.xs.length ∧ forN f b im.ck (im.xs.drop i) s' = R, ⟨im.xs.length, rfl, S1, s1, .refl, rel1, Nat.zero_le _, hR⟩, ?_⟩
    rintro i m σ' H' ⟨rfl, S', s', st', rel', hi', hr⟩
    have nno : R ≠ .no := fun z => by rw [z] at p1; exact p1
    by_cases hlt : i < im.xs.length
    · have e := List.drop_eq_getElem_cons hlt
      rw [e] at hr
      have hx : im.xs[i]? = some im.xs[i] := List.getElem?_eq_getElem hlt
      generalize im.xs[i] = d at e hr hx
      unfold forN at hr
      have hc : chk im.ck s' := Classical.byContradiction fun z => by rw [if_neg z] at hr; exact nno hr.symm
      rw [if_pos hc] at hr
      obtain ⟨go, yl⟩ := (wk S' s' σ' H' st' rel' hc).1 i d hx
      refine .inr ⟨go, fun σ2 H2 => ∃ S2 s2, Stp S1 s1.M.length H1 S2 s2.M.length H2 ∧ Rel K ct H0 S2 s2 σ2 H2 ∧ forN f b im.ck (im.xs.drop (i + 1)) s2 = R, ?_, ?_⟩
      · rintro σ2 H2 ⟨S2, s2, k1, k2, k3⟩
        exact ⟨im.xs.length - (i + 1), by omega, rfl, S2, s2, k1, k2, hlt, k3⟩
      · intro x H2 hy
        obtain ⟨S2, st2, rel2, rp2⟩ := yl x H2 hy
        cases hs : f d s' with
        | none => rw [hs] at hr; exact absurd hr.symm nno
        | some s2 =>
          rw [hs] at hr
          refine hg S2 s' σ' H2 x d s2 _ rel2 rp2 hs fun S3 σ3 st3 rel3 _ _ _ => ?_
          have stt := (st'.trans st2).trans st3
          refine hb S3 s2 σ3 H2 _ rel3 ?_
          have hr : (match b s2 with | .nx s2 => forN f b im.ck (im.xs.drop (i + 1)) s2 | .ct s2 => forN f b im.ck (im.xs.drop (i + 1)) s2 | .bk s2 => .nx s2 | .rt a s2 => .rt a s2 | .er x s2 => .er x s2 | .no => .no) = R := hr
          cases hbs : b s2 with
          | nx s4 => rw [hbs] at hr; exact fun S4 σ4 H4 st4 rel4 => ⟨S4, s4, stt.trans st4, rel4, hr⟩
          | ct s4 => rw [hbs] at hr; exact fun S4 σ4 H4 st4 rel4 => ⟨S4, s4, stt.trans st4, rel4, hr⟩
          | bk s4 => rw [hbs] at hr; subst hr; exact fun S4 σ4 H4 st4 rel4 => p1 S4 σ4 H4 (stt.trans st4) rel4
          | rt a s4 => rw [hbs] at hr; subst hr; exact fun S4 σ4 v H4 st4 rel4 q => p1 S4 σ4 v H4 (stt.trans st4) rel4 q
          | er x s4 => rw [hbs] at hr; subst hr; exact fun S4 σ4 H4 dd st4 rel4 q => p1 S4 σ4 H4 dd (stt.trans st4) rel4 q
          | no => rw [hbs] at hr; exact absurd hr.symm nno
    · have e : im.xs.drop i = [] := List.drop_eq_nil_of_le (by omega)
      rw [e] at hr
      unfold forN at hr
      have hc : chk im.ck s' := Classical.byContradiction fun z => by rw [if_neg z] at hr; exact nno hr.symm
      rw [if_pos hc] at hr
      have ei : i = im.xs.length := by omega
      subst hr
      refine .inl ⟨?_, p1 S' σ' H' st' rel'⟩
      rw [ei]
      exact (wk S' s' σ' H' st' rel' hc).2)
noncomputable def mForD (kd : KD) (i : Nat) (g : Tg) (b : Ms) : Ms := fun s => match entAt s i with
  | some (.fz (.dK l)) => (match forN g b none (dIt kd l) s with
    | .er _ _ => .no
    | r => r)
  | _ => .no
theorem w_forD {N : Stt → Prop} {O : Rs → Prop} {kd : KD} {i : Nat} {g : Tg} {b : Ms} {l : List (Key × D)} {s : Stt} (e : entAt s i = some (.fz (.dK l))) (h : Ws N (fun r => match r with | .er _ _ => False | r => O r) (forN g b none (dIt kd l) s)) : Ws N O (mForD kd i g b s) := by
  unfold mForD
  rw [e]
  simp only []
  generalize forN g b none (dIt kd l) s = R at h ⊢
  cases R with
  | er x s' => exact h.elim
  | _ => exact h
end
end Y
namespace Y
open PySem L2 Z
section
variable {K : PySem.W.Frag} {ct : Ct} {H0 : Hp} {W : WX}
def mTIdx (ns : List Int) (ma : Mo (List D)) : Mo AI := fun s => (ma s).bind fun ds s1 => match ds with
  | [.int i] => if i ∈ ns then .ok (.val (.int ((ns.idxOf i : Nat) : Int))) s1 else .no
  | _ => .no
theorem w_tidx {s : Stt} {X : Exn → Stt → Prop} {QA : AI → Stt → Prop} {ns : List Int} {ma : Mo (List D)} (h : Wo (fun ds s1 => ∃ i, ds = [.int i] ∧ i ∈ ns ∧ QA (.val (.int ((ns.idxOf i : Nat) : Int))) s1) X (ma s)) : Wo QA X (mTIdx ns ma s) := w_bind (w_mono h fun ds s1 ⟨i, e, hi, h⟩ => by
  subst e
  show Wo QA X (if i ∈ ns then _ else _)
  rw [if_pos hi]; exact h)
end
end Y
namespace Y
open PySem L2 Z
section
variable {K : PySem.W.Frag} {ct : Ct} {H0 : Hp} {W : WX}
noncomputable def mLcO (i : Nat) (ws : List Nat) (g : Tg) (c : Mo Bool) (e : Mo AI) : Mo AI := fun s => match entAt s i with
  | some (.ow (.lst l)) => (mLc ws (fun s => .ok ⟨l, none⟩ s) g c e ⟨s.env.set i none, s.M⟩).bind fun a s1 => .ok a ⟨s1.env.set i (some (.ow (.lst l))), s1.M⟩
  | _ => mLc ws (mWL (mName i)) g c e s
theorem w_lcO {QA : AI → Stt → Prop} {X : Exn → Stt → Prop} {s : Stt} {i : Nat} {ws : List Nat} {g : Tg} {c : Mo Bool} {e : Mo AI} {l : List D} (en : entAt s i = some (.ow (.lst l))) (h : ∃ l2 s2, lcN ws g c (mV e) none l [] (wipeS ws ⟨s.env.set i none, s.M⟩) = .ok l2 s2 ∧ QA (.new (.lst l2)) ⟨(Y.rest (s.env.set i none) s2.env ws).set i (some (.ow (.lst l))), s2.M⟩) : Wo QA X (mLcO i ws g c e s) := by
  unfold mLcO; rw [en]
  refine w_bind (w_lc (QA := fun a s1 => Wo QA X (.ok a ⟨s1.env.set i (some (.ow (.lst l))), s1.M⟩)) (show Wo _ X (Ro.ok (⟨l, none⟩ : Im) _) from h))
end
end Y
namespace Y
open PySem L2 Z
section
variable {K : PySem.W.Frag} {ct : Ct} {H0 : Hp} {W : WX} {S : Sh} {s : Stt} {σ : St} {H : Hp}
noncomputable def mLcG (ws : List Nat) (mi : Mo Im) (g : Tg) (c : Mo Bool) (e : Mo D) : Mo AI := fun s => (mi s).bind fun im s1 => match lcN ws g c e im.ck im.xs [] (wipeS ws s1) with
  | .ok l s2 => .ok (.new (.lst l)) ⟨rest s1.env s2.env ws, s2.M⟩
  | _ => .no
def CLR2 (i j : Int) : Prop := -(2 ^ 62) ≤ i ∧ i < 2 ^ 62 ∧ -(2 ^ 62) ≤ j ∧ j < 2 ^ 62 ∧ (j - i).toNat ≤ sizeLine
open Classical in
noncomputable def mLR2 (m1 m2 : Mo AI) : Mo AI := fun s => (m1 s).bind fun a s1 => (m2 s1).bind fun b s2 => match a, b with
  | .val (.int i), .val (.int j) => if CLR2 i j then .ok (.new (.lst (rng i (j - i).toNat))) s2 else .no
  | _, _ => .no
def RKV (K : PySem.W.Frag) : RR (List (V × V)) (List (D × D)) := fun _ S s _ _ b a => RpL K S.G S.α s.M.length (b.map Prod.fst) (a.map Prod.fst) ∧ RpL K S.G S.α s.M.length (b.map Prod.snd) (a.map Prod.snd)
theorem bKV : Bck (RKV K) := fun _ _ _ _ _ _ _ _ _ h => h
abbrev Ekv (K : PySem.W.Frag) (ct : Ct) (H0 : Hp) (W : WX) (t : List (TE × TE)) (m : Mo (List (D × D))) : Prop := Jd K ct H0 (RKV K) W (tPairs t) m
def kvNil : Mo (List (D × D)) := fun s => .ok [] s
def kvCons (mk mv : Mo AI) (r : Mo (List (D × D))) : Mo (List (D × D)) := fun s => (mV mk s).bind fun a s1 => (mV mv s1).bind fun b s2 => (r s2).bind fun l s3 => .ok ((a, b) :: l) s3
theorem ekv_nil : Ekv K ct H0 W [] kvNil := fun S s σ H Q rel p => p S [] H .refl rel ⟨.nil, .nil⟩
def kvKeys : List (D × D) → Option (List (Key × D))
  | [] => some []
  | (k, d) :: l => (keyOf k).bind fun k' => (kvKeys l).map ((k', d) :: ·)
theorem kvKeys_rp {G : Hp} {α : Nat → Addr} {n : Nat} : ∀ {l : List (D × D)} {ps : List (V × V)} {kl : List (Key × D)}, RpL K G α n (ps.map Prod.fst) (l.map Prod.fst) → RpL K G α n (ps.map Prod.snd) (l.map Prod.snd) → kvKeys l = some kl → ∃ kvs : List (Key × V), ps = kvs.map (fun kv => (kV kv.1, kv.2)) ∧ RpK K G α n kvs kl ∧ kvs.length = kl.length
  | [], [], _, _, _, e => by cases e; exact ⟨[], rfl, .nil, rfl⟩
  | [], _ :: _, _, h, _, _ => by cases h
  | _ :: _, [], _, h, _, _ => by cases h
  | (k, d) :: l, (x, y) :: ps, kl, .cons h1 h2, .cons g1 g2, e => by
    obtain ⟨k', e1, e2⟩ := Option.bind_eq_some_iff.mp (show (keyOf k).bind (fun k' => (kvKeys l).map ((k', d) :: ·)) = some kl from e)
    obtain ⟨kl', e3, rfl⟩ := Option.map_eq_some_iff.mp e2
    obtain ⟨kvs, rfl, r, hl⟩ := kvKeys_rp h2 g2 e3
    refine ⟨(k', y) :: kvs, ?_, .cons g1 r, by rw [List.length_cons, List.length_cons, hl]⟩
    show (x, y) :: _ = (kV k', y) :: _
    rw [show x = kV k' from keyOf_rp h1 e1]
def mDisp (r : Mo (List (D × D))) : Mo AI := fun s => (r s).bind fun l s1 => match kvKeys l with
  | some kl => if kl.length ≤ 15 then .ok (.new (.dK (mgD kl))) s1 else .no
  | none => .no
theorem ei_disp {trs : List (TE × TE)} {r : Mo (List (D × D))} (h : Ekv K ct H0 W trs r) : Ei K ct H0 W (tDisp trs) (mDisp r) := fun S s σ H Q rel p pa hp => by
  have hlab := rel.labN hp
  have hg := rel.gN hp
  have st0 : Stp S s.M.length H S s.M.length (upd H pa (.dK [])) := Stp.new rel hp
  refine h S s σ (upd H pa (.dK [])) _ (rel.new hp) ?_
  unfold mDisp at p
  cases q : r s with
  | no => rw [q] at p; exact p
  | er x s' =>
    rw [q] at p
    exact fun S' H' dd st r' xo => p S' H' dd (st0.trans st) r' xo
  | ok l s1 =>
    rw [q] at p
    have p : Pst K ct H0 (RI K ct) W S s σ H Q (match kvKeys l with | some kl => if kl.length ≤ 15 then .ok (.new (.dK (mgD kl))) s1 else .no | none => .no) := p
    intro S1 ps H1 st1 rel1 i1
    obtain ⟨h1, h2⟩ := st1.fr pa _ upd_same hlab
    have hg1 : S1.G pa = none := by
      cases q2 : S1.G pa with
      | none => rfl
      | some u =>
        rcases st1.gn pa u q2 with z | z | ⟨lb, z⟩ | ⟨us, z⟩
        · rw [hg] at z; cases z
        · rw [upd_same] at z; cases z
        · rw [hlab] at z; cases z
        · rw [upd_same] at z; cases z
    refine ⟨h1, ?_⟩
    split at p
    · rename_i kl e
      obtain ⟨kvs, e1, e2, e3⟩ := kvKeys_rp i1.1 i1.2 e
      split at p
      · rename_i hz
        refine ⟨kvs, e1, by omega, ?_⟩
        refine p S1 (.ref pa) _ ((st0.trans st1).updNew hp) (rel1.updU h2 hg1) ⟨pa, rfl, hp, h2, hg1, rfl, mergeK [] kvs, upd_same, ?_⟩
        have := mg_ok e2 (.nil : RpK K S1.G S1.α s1.M.length [] [])
        exact ⟨this.keys, this.vals⟩
      · exact False.elim p
    · exact False.elim p
def mSetD (mo mi mx : Mo AI) : Mo AI := fun s => (mo s).bind fun a s1 => match viewD s1 a with
  | some _ => (mV mi s1).bind fun i s2 => (mK mx s2).bind fun x s3 => match getC s3 a, keyOf i with
    | some (.dK l), some k => if l.length < sizeLine then (match vl l k with
      | some d => .ok (.val d) s3
      | none => .ok (.val x) (setC s3 a (.dK (pu l k x)))) else .no
    | _, _ => .no
  | none => .no
theorem ei_setD {td ty tx : TE} {mo mi mx : Mo AI} (ho : Ei K ct H0 W td mo) (hi : Ei K ct H0 W ty mi) (hx : Ei K ct H0 W tx mx) : Ei K ct H0 W (tDSetd td ty tx) (mSetD mo mi mx) := fun S s σ H Q rel p =>
  ho S s σ H _ rel (Pst.bind bI p fun S1 s1 H1 x a st1 rel1 i1 p1 => by
    split at p1
    · rename_i l0 e0
      obtain ⟨q, kvs0, rfl, hd, _⟩ := viewD_ok rel1 i1 e0
      refine ⟨q, rfl, .inl ⟨kvs0, hd⟩, ?_⟩
      refine ev_of hi S1 s1 σ H1 _ rel1 (Pst.bind bI p1 fun S2 s2 H2 y i st2 rel2 i2 p2 => ek_of hx S2 s2 σ H2 _ rel2 (Pst.bind bI p2 fun S3 s3 H3 z xd st3 rel3 i3 p3 => ?_))
      split at p3
      · rename_i l k e1 e2
        have ia := ItOk.step (st2.trans st3) i1
        obtain ⟨q', eq, ⟨us, g1, g2, g3⟩, g4⟩ := mut_ok rel3 ia e1
        cases eq
        split at p3
        · rename_i hz
          have rk := RpK.of g2 g3
          refine ⟨us, k, g1, keyOf_rp (Rp.step st3 i2) e2, by rw [rk.len]; exact hz, fun v hv => ?_, fun hn => ?_⟩
          · rcases rk.get (k := k) with ⟨_, b⟩ | ⟨v', d, h1, h2, h3⟩
            · rw [hv] at b; cases b
            · rw [hv] at h2; cases h2
              rw [h1] at p3
              exact p3 S3 v H3 .refl rel3 h3
          · rcases rk.get (k := k) with ⟨h1, _⟩ | ⟨v', d, h1, h2, h3⟩
            · rw [h1] at p3
              obtain ⟨r1, r2⟩ := g4 (.dK (putK us k z)) (.dK (pu l k xd)) (fun _ => rfl) ⟨_, upd_same, (rk.put i3).keys, (rk.put i3).vals⟩
              refine p3 S3 z _ r2 r1 ?_
              show Rp K S3.G S3.α (setC s3 a (.dK (pu l k xd))).M.length z xd
              rw [setC_len]; exact i3
            · rw [hn] at h2; cases h2
        · exact False.elim p3
      · exact False.elim p3
    · exact False.elim p1)
def tgL (n : Nat) (f : Tgs) : Tg := fun d s => match listOf s.M d with
  | some l => if l.length = n then f l s else none
  | none => none
end
section
variable {s : Stt} {X : Exn → Stt → Prop} {QA : AI → Stt → Prop}
theorem w_lcG {ws : List Nat} {mi : Mo Im} {g : Tg} {c : Mo Bool} {e : Mo D} (h : Wo (fun im s1 => ∃ l s2, lcN ws g c e im.ck im.xs [] (wipeS ws s1) = .ok l s2 ∧ QA (.new (.lst l)) ⟨Y.rest s1.env s2.env ws, s2.M⟩) X (mi s)) : Wo QA X (mLcG ws mi g c e s) := by
  unfold mLcG
  cases q : mi s with
  | no => rw [q] at h; exact h
  | er x s1 => rw [q] at h; exact h
  | ok im s1 =>
    rw [q] at h
    obtain ⟨l, s2, e1, e2⟩ := h
    show Wo QA X (match lcN ws g c e im.ck im.xs [] (wipeS ws s1) with | .ok l s2 => .ok (.new (.lst l)) ⟨rest s1.env s2.env ws, s2.M⟩ | _ => .no)
    rw [e1]; exact e2
theorem w_lr2 {m1 m2 : Mo AI} (h : Wo (fun a s1 => Wo (fun b s2 => ∃ i j : Int, a = .val (.int i) ∧ b = .val (.int j) ∧ (-(2 ^ 62) ≤ i ∧ i < 2 ^ 62 ∧ -(2 ^ 62) ≤ j ∧ j < 2 ^ 62 ∧ (j - i).toNat ≤ sizeLine) ∧ QA (.new (.lst (rng i (j - i).toNat))) s2) X (m2 s1)) X (m1 s)) : Wo QA X (mLR2 m1 m2 s) := by
  refine w_bind (w_mono h fun a s1 h => w_bind (w_mono h fun b s2 h => ?_))
  obtain ⟨i, j, rfl, rfl, c, h⟩ := h
  simp only []
  rw [if_pos (show CLR2 i j from c)]; exact h
theorem w_kvNil {QK : List (D × D) → Stt → Prop} (h : QK [] s) : Wo QK X (kvNil s) := h
theorem w_kvCons {QK : List (D × D) → Stt → Prop} {mk mv : Mo AI} {r : Mo (List (D × D))} (h : Wo (fun a s1 => Wo (fun b s2 => Wo (fun l s3 => QK ((a, b) :: l) s3) X (r s2)) X (mV mv s1)) X (mV mk s)) : Wo QK X (kvCons mk mv r s) :=
  w_bind (w_mono h fun a s1 h => w_bind (w_mono h fun b s2 h => w_bind (w_mono h fun l s3 h => h)))
theorem w_disp {r : Mo (List (D × D))} (h : Wo (fun l s1 => ∃ kl, kvKeys l = some kl ∧ kl.length ≤ 15 ∧ QA (.new (.dK (mgD kl))) s1) X (r s)) : Wo QA X (mDisp r s) := by
  refine w_bind (w_mono h fun l s1 h => ?_)
  obtain ⟨kl, e, c, h⟩ := h
  rw [e]
  show Wo QA X (if _ then _ else _)
  rw [if_pos c]; exact h
theorem w_setD {m1 m2 m3 : Mo AI} (h : Wo (fun a s1 => (∃ l, viewD s1 a = some l) ∧ Wo (fun i s2 => Wo (fun x s3 => ∃ l k, getC s3 a = some (.dK l) ∧ keyOf i = some k ∧ l.length < sizeLine ∧ (match vl l k with
      | some d => QA (.val d) s3
      | none => QA (.val x) (setC s3 a (.dK (pu l k x))))) X (mK m3 s2)) X (mV m2 s1)) X (m1 s)) : Wo QA X (mSetD m1 m2 m3 s) := by
  refine w_bind (w_mono h fun a s1 h => ?_)
  obtain ⟨⟨l0, e0⟩, h⟩ := h
  rw [e0]
  refine w_bind (w_mono h fun i s2 h => w_bind (w_mono h fun x s3 h => ?_))
  obtain ⟨l, k, e1, e2, c, h⟩ := h
  rw [e1, e2]
  show Wo QA X (if _ then _ else _)
  rw [if_pos c]
  cases q : vl l k with
  | some d => rw [q] at h; exact h
  | none => rw [q] at h; exact h
end
end Y
namespace Y
open PySem L2 Z
open PyProof.Rows (risingS sortedS)
end Y
namespace Hd
open PySem PySem.Spec PyProof.Rows L2
/-- what a name of the module stands for -/
def relAt (K : PySem.W.Frag) (x : Str) (v : V) : Bool := match PySem.W.nsIn K mainGlobals x with
  | some (some u) => He.relB v u
  | _ => false
theorem relAt_ok {K : PySem.W.Frag} {x : Str} {v : V} (h : relAt K x v = true) : ∃ u, PySem.W.nsIn K mainGlobals x = some (some u) ∧ RelV v u := by
  unfold relAt at h
  cases e : PySem.W.nsIn K mainGlobals x with
  | none => rw [e] at h; cases h
  | some r =>
    rw [e] at h
    cases r with
    | none => cases h
    | some u => exact ⟨u, rfl, He.relB_ok h⟩
abbrev Ex : Type := List (List (PySem.W.Frag → Bool))
abbrev Al : Type := Bool × (List He.FnV × List He.FnW)
def exB (ex : Ex) (fn : List He.FnD) (K : PySem.W.Frag) : Bool := (ex.all fun l => l.all fun f => f K) && fn.all fun d => (He.Fa.code d.at_ d.qual).ok K
def obs (fn : List He.FnD) (fd : List He.DefD) (ex : Ex) (K : PySem.W.Frag) : Al := (exB ex fn K, fn.map (fun d => He.fnObs K d.at_), fd.map fun d => He.fnW K d.at_)
def val (fn : List He.FnD) (fd : List He.DefD) : Al := (true, fn.map He.FnD.val, fd.map He.DefD.val)
def Says (fn : List He.FnD) (fd : List He.DefD) (ex : Ex) (K : PySem.W.Frag) : Prop := obs fn fd ex K = val fn fd
/-- the objects that are looked at: the module's names, what stands behind them, the classes' tables, the methods -/
def outs (o : Obj) : List Addr := match o.data with
  | .func fd => He.refV fd.code ++ He.refV fd.defaults
  | .cls cd => [cd.ns]
  | .dict es _ => es.toList.flatMap fun e => He.refV e.val
  | _ => []
def outsG (g : Addr → Option Obj) (as : List Addr) : List Addr := as.flatMap fun a => match g a with
  | some o => outs o
  | none => []
def asK (g : Addr → Option Obj) : Nat → List Addr → List Addr
  | 0, l => l
  | n + 1, l => l ++ asK g n (outsG g l)
def obsG (n : Nat) (fn : List He.FnD) (fd : List He.DefD) (ex : Ex) (g : Addr → Option Obj) : Al := obs fn fd ex (He.frG g (PySem.cStatics :: asK g n [mainGlobals]))
def hook (n : Nat) (fn : List He.FnD) (fd : List He.DefD) (ex : Ex) : PySem.W.Hook where
  α := Al
  obs := fun s => obsG n fn fd ex s.heap.get?
  val := fun _ => val fn fd
  says := fun _ h => ∃ K : PySem.W.Frag, K.In h ∧ Says fn fd ex K
  of := fun _ _ e => ⟨_, He.frG_in, e⟩
  keeps := fun _ _ _ ⟨K, hK, c⟩ k => ⟨K, PySem.W.Frag.In.keeps hK k, c⟩
theorem obsG_eq {n : Nat} {fn : List He.FnD} {fd : List He.DefD} {ex : Ex} {g : Addr → Option Obj} {s : Shared} (h : ∀ a, g a = s.heap.get? a) : obsG n fn fd ex g = (hook n fn fd ex).obs s := by
  have e : g = s.heap.get? := funext h
  rw [e] <;> rfl
section
variable {fn : List He.FnD} {fd : List He.DefD} {ex : Ex} {K : PySem.W.Frag}
theorem Says.all (c : Says fn fd ex K) : exB ex fn K = true := congrArg (fun z : Al => z.1) c
theorem Says.fact (c : Says fn fd ex K) (i j : Nat) {l : List (PySem.W.Frag → Bool)} {f : PySem.W.Frag → Bool} (hl : ex[i]? = some l) (hf : l[j]? = some f) : f K = true :=
  List.all_eq_true.mp (List.all_eq_true.mp (He.ba c.all).1 l (List.mem_of_getElem? hl)) f (List.mem_of_getElem? hf)
theorem Says.def_ (c : Says fn fd ex K) (i : Nat) {d : He.FnD} (h : fn[i]? = some d) :
    ∃ oc od osl kV doc pm an cdv ct, K.lookup (He.fAd K d.at_) = some ⟨oc, od, .func (PySem.W.fnOf d.name d.qual d.params d.body d.scope .none kV doc pm an cdv ct), osl⟩ ∧ PySem.W.codeIn K cdv d.qual = true := by
  have e : fn.map (fun d => He.fnObs K d.at_) = fn.map He.FnD.val := congrArg (fun z : Al => z.2.1) c
  have e2 : (fn.map fun d => He.fnObs K d.at_)[i]? = (fn.map He.FnD.val)[i]? := by rw [e]
  rw [List.getElem?_map, List.getElem?_map, h] at e2
  exact He.fn_ok (Option.some.inj e2) (List.all_eq_true.mp (He.ba c.all).2 d (List.mem_of_getElem? h))
end
end Hd
namespace Y
open PySem L2 Z
end Y
namespace Y
open PySem L2 Z
end Y
namespace Y
open PySem L2 Z
end Y
namespace Y
open PySem PySem.Spec PyProof.Rows L2 Z
section
variable {K : PySem.W.Frag} {ct : Ct} {H0 : Hp} {W : WX} {S : Sh} {s : Stt} {σ : L2.St} {H : Hp}
def mWZs (m : Mo (List D)) : Mo Im := fun s => (m s).bind fun ds s1 => match ds with
  | [.str x, .ctp l] => .ok ⟨zipL (strL x) l, none⟩ s1
  | _ => .no
end
section
variable {s : Stt} {QI : Im → Stt → Prop} {X : Exn → Stt → Prop}
theorem w_wzs {r : Mo (List D)} (h : Wo (fun ds s1 => ∃ x l, ds = [.str x, .ctp l] ∧ QI ⟨zipL (strL x) l, none⟩ s1) X (r s)) : Wo QI X (mWZs r s) :=
  w_bind (w_mono h fun ds s1 h => by
    obtain ⟨x, l, rfl, h⟩ := h
    exact h)
end
end Y
namespace Y
open PySem L2 Z
end Y
namespace Y
open PySem L2 Z PySem.Spec PyProof.Rows
section
variable {P : Program} {w : World} {A : Around} {E : Value → Shared → Prop} {z : Shared}
/-- an empty set, as it is made -/
abbrev nwS (w : World) : Obj := { cls := .type "set", dict := none, data := .set #[] 0 (.fresh 0 0 (!w.params.followText "set-order")) }
/-- the heap with it -/
abbrev hpS (w : World) (z : Shared) : Heap := z.heap.push (nwS w)
/-- what holds when the list's numbers are in the set -/
def InS (w : World) (ns : List Int) (z : Shared) (z2 : Shared) : Prop := ∃ h1 t c, z2 = { z with heap := h1, toks := t } ∧ SetR w h1 z.heap.objs.size (fun j => decide (j ∈ ns)) c ∧ c ≤ ns.length ∧ ∀ b o, z.heap.get? b = some o → h1.get? b = some o
/-- the list's numbers put in, one by one -/
theorem fill_set {l : Addr} {xs : Array Value} {ns : List Int} {R : Result → Shared → Prop} (hh : A.handled = none) (hl : z.heap.IsList l xs) (hi : IntsAre xs.toList ns) (hb : ns.length + 1 < scanBound)
    (h : ∀ z2, InS w ns z z2 → R (.ok (.ret .none)) z2) :
    codeAny (model P w) A (.builtin "set.update.loop" ⟨[.ref z.heap.objs.size, .ref (hpS w z).objs.size], []⟩) R { z with heap := (hpS w z).push { cls := .type "list_iterator", data := .fields #[.ref l, .int 0 0] } } := by
  have hn : xs.size = ns.length := by rw [← IntsAre.length hi, Array.length_toList]
  have sz : (hpS w z).objs.size = z.heap.objs.size + 1 := Heap.size_push ..
  have gS : (hpS w z).get? z.heap.objs.size = some (nwS w) := Heap.get?_push_size _ rfl
  have lt : l < z.heap.objs.size := by obtain ⟨_, e, _⟩ := hl; exact Heap.lt_size e
  have kl : (hpS w z).IsList l xs := hl.push _
  have no : z.heap.objs.size ∉ [(hpS w z).objs.size, l] := by
    rw [sz]; intro q
    rcases List.mem_cons.mp q with q | q
    · exact absurd q (Nat.ne_of_lt (Nat.lt_succ_self _))
    · exact absurd (List.mem_singleton.mp q) (Nat.ne_of_gt lt)
  refine set_update_ints ((Walks.list (by simp [hh]) _ l (by rw [sz]; exact Nat.ne_of_lt (Nat.lt_succ_of_lt lt)) xs).toS) z.heap.objs.size no ns hn hb (fun i v e => ?_) (xs.size - 0) 0 _ rfl (Nat.zero_le _) ⟨⟨_, Heap.get?_push_size _ rfl, rfl, rfl⟩, kl.push _⟩ ⟨0, Nat.le_refl 0, setR_new_at (Heap.get?_push_of_some _ gS)⟩ (fun z2 c mv hc hS => h z2 ?_)
  · have hlt : i < ns.length := by rw [← hn]; exact (Array.getElem?_eq_some_iff.mp e).1
    obtain ⟨t, q⟩ := IntsAre.int_at hi i v (by rw [Array.getElem?_toList]; exact e)
    rw [List.getD_eq_getElem?_getD, List.getElem?_eq_getElem hlt] at q
    exact ⟨ns[i], t, List.getElem?_eq_getElem hlt, q⟩
  · obtain ⟨h2, g2, d2, t2, o2⟩ := z2
    obtain rfl : g2 = z.gens := mv.gens
    obtain rfl : d2 = z.drawn := mv.drawn
    obtain rfl : o2 = z.os := mv.os
    refine ⟨h2, t2, c, rfl, hS, by rw [← hn]; exact hc, fun b o e => ?_⟩
    have hlt := Heap.lt_size e
    refine mv.heap b o (fun q => ?_) (Heap.get?_push_of_some _ (Heap.get?_push_of_some _ e))
    rw [sz] at q
    rcases List.mem_cons.mp q with q | q
    · exact absurd q (Nat.ne_of_lt hlt)
    · exact absurd (List.mem_singleton.mp q) (Nat.ne_of_lt (Nat.lt_succ_of_lt hlt))
theorem init_set {l : Addr} {xs : Array Value} {ns : List Int} (hh : A.handled = none) (hl : z.heap.IsList l xs) (hi : IntsAre xs.toList ns) (hb : ns.length + 1 < scanBound) :
    codeAny (model P w) A (.call (.builtin "set.__init__") ⟨[.ref z.heap.objs.size, .ref l], []⟩) (wants (fun r z2 => r = .none ∧ InS w ns z z2) E) { z with heap := hpS w z } := by
  have gS : (hpS w z).get? z.heap.objs.size = some (nwS w) := Heap.get?_push_size _ rfl
  have ty : Shared.TypeIs { z with heap := hpS w z } (.ref z.heap.objs.size) "set" := ⟨_, gS, rfl⟩
  refine codeAny_call_builtin F.called_set.init.plain F.entry_set_init (check_set_init_1 ty ?_)
  have kl : (hpS w z).IsList l xs := hl.push _
  have kl2 := kl
  obtain ⟨⟨oc, od, ot, os⟩, go, rfl, k, rfl⟩ := kl2
  have s1 := F.sub_list_set
  have s2 := F.sub_list_frozenset
  have s3 : (Value.type "list" == Value.type "dict") = false := by decide
  unfold Builtin.«set.__init__» noKeywords Builtin.Frozenset.updateFrom
  generalize ep : pyIter = pit
  wp_walk
  subst ep
  refine wpAny_pyIter_list kl (wpAny_bind (wpAny_runValue (fill_set (by simp [hh]) hl hi hb fun z2 q => ?_)))
  show wpAny _ _ _ _ _ _
  refine wpAny_pure (wpAny_pure ?_)
  exact ⟨rfl, q⟩
theorem set_list {l : Addr} {xs : Array Value} {ns : List Int} {Q : Value → Shared → Prop} (hh : A.handled = none) (hl : z.heap.IsList l xs) (hi : IntsAre xs.toList ns) (hb : ns.length + 1 < scanBound)
    (h : ∀ z2, InS w ns z z2 → Q (.ref z.heap.objs.size) z2) : wpAny (model P w) A (call (.type "set") [.ref l]) Q E z := by
  have a1 := F.called_set.made
  have a2 := F.called_set.sub
  have a3 := F.called_set.notType
  have a4 := F.called_set.canCreate
  have a5 := F.typeCall_set_1 (.ref l)
  obtain ⟨c, tl, a6⟩ := F.called_set.mro
  refine wpAny_call (codeAny_of_tree (show wpAny _ _ (callAny (.type "set") _) _ _ _ from wpAny_pure ⟨Code.quiet_builtin _ (by decide +kernel), codeAny_builtin F.entry_type_call ?_⟩))
  rw [Around.under_plain (weight_type_call_type "set" [.ref l] []) rfl]
  repeat (any_goals (first | assumption | wp_step))
  refine codeAny_mono (code_set_led1 (.ref l) (E := E) (Q₁ := fun o z2 => o = .ref z.heap.objs.size ∧ z2 = { z with heap := hpS w z }) ⟨rfl, rfl⟩) fun r z1 hr => ?_
  cases r with
  | error e => exact hr
  | ok f =>
    cases f with
    | ret o =>
      obtain ⟨rfl, rfl⟩ := hr
      have gS : (hpS w z).get? z.heap.objs.size = some (nwS w) := Heap.get?_push_size _ rfl
      have ty : Shared.TypeIs { z with heap := hpS w z } (.ref z.heap.objs.size) "set" := ⟨_, gS, rfl⟩
      have b1 := F.called_set.init.lookup
      have b2 := F.called_set.init.bind (.ref z.heap.objs.size)
      repeat (any_goals (first | assumption | wp_step))
      refine codeAny_mono (init_set (E := E) (by simp [hh]) hl hi hb) fun r2 z2 q => ?_
      cases r2 with
      | error e => exact q
      | ok f2 =>
        cases f2 with
        | ret v =>
          obtain ⟨rfl, q⟩ := q
          have hq := h z2 q
          repeat (any_goals (first | assumption | wp_step))
        | _ => exact q.elim
    | _ => exact hr.elim
end
end Y
namespace Y
open PySem L2 Z PySem.Spec PyProof.Rows
end Y
namespace Y
open PySem L2 Z
end Y
namespace Y
open PySem L2 Z PySem.Spec PyProof.Rows
section
variable {X : Cx} {pins : List (Addr × Obj)} {σ : L2.St} {H : Hp} {s : Shared} {p b : Addr} {kl : List (List Key × V)} {kk : List Key} {zd : V} {zr : Value} {A : Around} {E : Value → Shared → Prop}
theorem dT_setd {Q : Value → Shared → Prop} (hu : A.units + 1 < cLine) (I : Inv X pins σ H s) (e : H p = some (.dT kl)) (eb : H b = some (.tup (kk.map kV))) (rz : RelV zd zr) (hl : kl.length < sizeLine)
    (g1 : ∀ v, valV kl kk = some v → ∀ (w' : Value) (s' : Shared), Inv X pins σ H s' → RelV v w' → Q w' s') (g2 : valV kl kk = none → ∀ (w' : Value) (s' : Shared), Inv X pins σ (upd H p (.dT (putK kl kk zd))) s' → RelV zd w' → Q w' s') :
    wpAny (model X.prog X.w) A (call (.builtin "dict.setdefault") [.ref p, .ref b, zr]) Q E s := by
  obtain ⟨z, hd, xs, rel, dd⟩ := dt_of I.hok e
  have hz : xs.length ≤ sizeLine := by rw [← Paired.length rel]; exact z
  refine call_setdefault_heap (hsz := hz) (knd := tupleKind (mixKind X.prog X.w)) (tupleKind_room_in1 hu) (key_of I.hok eb) hd dd (fun q hq => ?_) fun hn h' dd' hs => ?_
  · have r := rel.val kk
    rw [hq] at r
    cases ev : valV kl kk with
    | none => rw [ev] at r; exact (show False from r).elim
    | some v0 => rw [ev] at r; exact g1 v0 ev _ _ (I.tok _) r
  · have r := rel.val kk
    rw [hn] at r
    cases ev : valV kl kk with
    | some v0 => rw [ev] at r; exact (show False from r).elim
    | none =>
      have hl2 : (putK kl kk zd).length ≤ sizeLine := by have := length_putK kl kk zd; omega
      refine g2 ev _ _ ?_ rz
      obtain ⟨q, es, ep, hq, h2, h3, h4, _, h5⟩ := dd'
      exact d_write I (by rw [e]; exact True.intro) hs ⟨q, hq⟩ ⟨hl2, hd, _, (rel.put kk eb rz).keeps (fun c ys ec => by rw [upd_ne (ne_of ec e (fun z => nomatch z))]; exact ec), q, es, ep, hq, h2, h3, h4, h5⟩
end
/-- d.setdefault(y, z), y a tuple -/
def tDSetT (td ty tx : TE) : TE := fun σ H Q => td σ H fun x H1 => ∃ a, x = .ref a ∧ IsD H1 a ∧ ty σ H1 fun y H2 => tx σ H2 fun z H3 => ∃ (b : Addr) (kvs : List (List Key × V)) (k : List Key), H3 a = some (.dT kvs) ∧ y = .ref b ∧ H3 b = some (.tup (k.map kV)) ∧ kvs.length < sizeLine ∧
  (∀ v, valV kvs k = some v → Q v H3) ∧ (valV kvs k = none → Q z (upd H3 a (.dT (putK kvs k z))))
section
variable {X : Cx} {o e f : Expr} {td ty tx : TE} {apos cpos : Pos}
theorem pe_dsetT (hu : X.A.units + 1 < cLine) (ho : PE X o td) (he : PE X e ty) (hf : PE X f tx) (m : M2 X o "setdefault" apos e f cpos) : PE X (.Call (.Attribute o "setdefault" apos) [e, f] [] cpos) (tDSetT td ty tx) := by
  refine ⟨fun pins s σ H Q I h => ?_⟩
  refine wpAny_Call_method m.base m.few m.line PySem.F.plainAttrs_dict PySem.F.slot_dict_setdefault PySem.F.type_dict_setdefault (thn (ho.run pins s σ H _ I h) fun u s1 ⟨x, H1, I1, rx, p, ex, d, q1⟩ => ?_)
  subst ex
  obtain rfl : u = Value.ref p := rx
  obtain ⟨t1, t2, _⟩ := isD_at I1 d
  refine ⟨t1, t2, ?_⟩
  rw [m.trees]
  refine Calls.callWith_builtin rfl (Calls.evalArgs_plain (Calls.spliced_cons (thn (he.run pins s1 σ H1 _ I1 q1) fun iv s2 ⟨y, H2, I2, ry, q2⟩ =>
    Calls.spliced_cons (thn (hf.run pins s2 σ H2 _ I2 q2) fun fv s3 ⟨z, H3, I3, rz, b, kvs, k, ea, ey, eb, hl, q3, q4⟩ => Calls.spliced_nil ?_))))
  subst ey
  cases (show iv = Value.ref b from ry)
  exact dT_setd (by first | assumption | exact hu | omega) I3 ea eb rz hl (fun v hv w' s4 I4 rw' => ⟨v, _, I4, rw', q3 v hv⟩) fun hn w' s4 I4 rw' => ⟨z, _, I4, rw', q4 hn⟩
end
section
variable {K : PySem.W.Frag} {ct : Ct} {H0 : Hp} {W : WX}
def mSetT (mo mi mx : Mo AI) : Mo AI := fun s => (mo s).bind fun a s1 => match viewDT s1 a with
  | some _ => (mV mi s1).bind fun i s2 => (mK mx s2).bind fun x s3 => match getC s3 a, tkey i with
    | some (.dT l), some k => if l.length < sizeLine then (match vl l k with
      | some d => .ok (.val d) s3
      | none => .ok (.val x) (setC s3 a (.dT (pu l k x)))) else .no
    | _, _ => .no
  | none => .no
theorem ei_setT {td ty tx : TE} {mo mi mx : Mo AI} (ho : Ei K ct H0 W td mo) (hi : Ei K ct H0 W ty mi) (hx : Ei K ct H0 W tx mx) : Ei K ct H0 W (tDSetT td ty tx) (mSetT mo mi mx) := fun S s σ H Q rel p =>
  ho S s σ H _ rel (Pst.bind bI p fun S1 s1 H1 x a st1 rel1 i1 p1 => by
    split at p1
    · rename_i l0 e0
      obtain ⟨q, kvs0, rfl, hd, _⟩ := viewDT_ok rel1 i1 e0
      refine ⟨q, rfl, .inr ⟨kvs0, hd⟩, ?_⟩
      refine ev_of hi S1 s1 σ H1 _ rel1 (Pst.bind bI p1 fun S2 s2 H2 y i st2 rel2 i2 p2 => ek_of hx S2 s2 σ H2 _ rel2 (Pst.bind bI p2 fun S3 s3 H3 z xd st3 rel3 i3 p3 => ?_))
      split at p3
      · rename_i l k e1 e2
        have ia := ItOk.step (st2.trans st3) i1
        obtain ⟨q', eq, ⟨us, g1, g2, g3⟩, g4⟩ := mut_ok rel3 ia e1
        cases eq
        obtain ⟨b, rfl, hb⟩ := tkey_rp rel3 (Rp.step st3 i2) e2
        split at p3
        · rename_i hz
          have rk := RpK.of g2 g3
          refine ⟨b, us, k, g1, rfl, hb, by rw [rk.len]; exact hz, fun v hv => ?_, fun hn => ?_⟩
          · rcases rk.get (k := k) with ⟨_, b⟩ | ⟨v', d, h1, h2, h3⟩
            · rw [hv] at b; cases b
            · rw [hv] at h2; cases h2
              rw [h1] at p3
              exact p3 S3 v H3 .refl rel3 h3
          · rcases rk.get (k := k) with ⟨h1, _⟩ | ⟨v', d, h1, h2, h3⟩
            · rw [h1] at p3
              obtain ⟨r1, r2⟩ := g4 (.dT (putK us k z)) (.dT (pu l k xd)) (fun _ => rfl) ⟨_, upd_same, (rk.put i3).keys, (rk.put i3).vals⟩
              refine p3 S3 z _ r2 r1 ?_
              show Rp K S3.G S3.α (setC s3 a (.dT (pu l k xd))).M.length z xd
              rw [setC_len]; exact i3
            · rw [hn] at h2; cases h2
        · exact False.elim p3
      · exact False.elim p3
    · exact False.elim p1)
end
section
variable {s : Stt} {X : Exn → Stt → Prop} {QA : AI → Stt → Prop}
theorem w_setT {m1 m2 m3 : Mo AI} (h : Wo (fun a s1 => (∃ l, viewDT s1 a = some l) ∧ Wo (fun i s2 => Wo (fun x s3 => ∃ l k, getC s3 a = some (.dT l) ∧ tkey i = some k ∧ l.length < sizeLine ∧ (match vl l k with
      | some d => QA (.val d) s3
      | none => QA (.val x) (setC s3 a (.dT (pu l k x))))) X (mK m3 s2)) X (mV m2 s1)) X (m1 s)) : Wo QA X (mSetT m1 m2 m3 s) := by
  refine w_bind (w_mono h fun a s1 h => ?_)
  obtain ⟨⟨l0, e0⟩, h⟩ := h
  rw [e0]
  refine w_bind (w_mono h fun i s2 h => w_bind (w_mono h fun x s3 h => ?_))
  obtain ⟨l, k, e1, e2, hz, h⟩ := h
  rw [e1, e2]
  simp only []
  rw [if_pos hz]
  cases q : vl l k with
  | none => rw [q] at h; exact h
  | some d => rw [q] at h; exact h
end
end Y
namespace Y
open PySem L2 Z PySem.Spec PyProof.Rows
section
variable {P : Program} {w : World} {A : Around} {E : Value → Shared → Prop} {z : Shared}
/-- a set of so many things -/
def SzAt (S : Addr) (n : Nat) (h : Heap) : Prop := ∃ o es ep t, h.get? S = some o ∧ o.ExactSet ∧ o.data = .set es ep t ∧ t.fits es.size = true ∧ es.size = n
theorem SzAt.keep {S : Addr} {n : Nat} {h h' : Heap} (g : SzAt S n h) (k : ∀ o, h.get? S = some o → h'.get? S = some o) : SzAt S n h' := by
  obtain ⟨o, es, ep, t, e, r⟩ := g
  exact ⟨o, es, ep, t, k o e, r⟩
end
section
variable {K : PySem.W.Frag} {ct : Ct} {H0 : Hp} {W : WX} {S : Sh} {s : Stt} {σ : L2.St} {H : Hp}
def tupI : D → Option (List Int)
  | .tup l => intsD l
  | _ => none
def tupsD : List D → Option (List (List Int))
  | [] => some []
  | d :: l => (tupI d).bind fun k => (tupsD l).map (k :: ·)
open Classical in
noncomputable def mLenTups (m : Mo AI) : Mo AI := fun s => (m s).bind fun a s1 => match (viewL s1 a).bind tupsD with
  | some xs => if xs.Nodup ∧ xs.length ≤ 64 then .ok (.val (.int xs.length)) s1 else .no
  | none => .no
theorem w_lenTups {m : Mo AI} {s : Stt} {X : Exn → Stt → Prop} {QA : AI → Stt → Prop} (h : Wo (fun a s1 => ∃ xs, (viewL s1 a).bind tupsD = some xs ∧ (xs.Nodup ∧ xs.length ≤ 64) ∧ QA (.val (.int xs.length)) s1) X (m s)) : Wo QA X (mLenTups m s) := w_bind (w_mono h fun a s1 ⟨xs, e, c, h⟩ => by
  show Wo QA X (match (viewL s1 a).bind tupsD with | some xs => _ | none => _)
  rw [e]
  show Wo QA X (if xs.Nodup ∧ xs.length ≤ 64 then _ else _)
  rw [if_pos c]; exact h)
end
end Y
namespace Y
open PySem L2 Z
section
variable {K : PySem.W.Frag} {ct : Ct} {H0 : Hp} {W : WX} {S : Sh} {s : Stt} {σ : St} {H : Hp}
/-- a cell gets another content -/
theorem Rel.setCell {k : Nat} {c c' : Cn} {o : HO} (r : Rel K ct H0 S s σ H) (e1 : s.M[k]? = some c) (hnt : NT o) (hk : CnOk K ct S s.M.length (upd H (S.α k) o) (S.α k) c') : Rel K ct H0 S ⟨s.env, s.M.set k c'⟩ σ (upd H (S.α k) o) := by
  obtain ⟨h3, h5⟩ := r.ids k c e1
  obtain ⟨hg, u0, hu0, _⟩ := r.lg _ _ h3
  have g4 : ∀ {a : Addr} {c : Cn} {l' : Lab}, S.lab a = some l' → l' ≠ .id k → CnOk K ct S s.M.length H a c → CnOk K ct S s.M.length (upd H (S.α k) o) a c := fun {a c l'} q ne h => by
    have z : a ≠ S.α k := fun z => by subst z; rw [h3] at q; cases q; exact ne rfl
    exact h.mono (fun _ _ q => q) (fun _ _ => rfl) (Nat.le_refl _) fun u q => by rw [upd_ne z]; exact q
  have hl : (s.M.set k c').length = s.M.length := List.length_set
  refine ⟨fun a u q => ?_, fun a l' q => ?_, fun a q => r.dom a (upd_none.mp q).2, r.len, fun m en hm => ?_, fun k' cc hk' => ?_⟩
  · rw [U_ne (fun z => by subst z; rw [hg] at q; cases q)]; exact r.sub a u q
  · obtain ⟨k1, u, k2, k3⟩ := r.lg a l' q
    refine ⟨k1, ?_⟩
    by_cases z : a = S.α k
    · subst z; exact ⟨o, upd_same, hnt⟩
    · exact ⟨u, by rw [upd_ne z]; exact k2, k3⟩
  · have hh := r.slot m en hm
    show EntOk K ct H0 S (s.M.set k c').length σ _ m en
    rw [hl]
    cases en with
    | fz d => exact hh
    | xn x => exact xn_mono (S := S) (n := s.M.length) (H := H) (fun _ _ e => e) (fun _ _ => rfl) (Nat.le_refl _) rfl hh
    | ow c2 =>
      obtain ⟨a, k1, k2, k3, k4, k5⟩ := hh
      exact ⟨a, k1, k2, k3, k4, g4 k3 (fun w => by cases w) k5⟩
  · have hk1 : (s.M.set k c')[k']? = some cc := hk'
    show S.lab (S.α k') = some (.id k') ∧ CnOk K ct S (s.M.set k c').length _ (S.α k') cc
    rw [hl]
    by_cases z : k = k'
    · subst z
      have hlt : k < s.M.length := (List.getElem?_eq_some_iff.mp e1).1
      rw [List.getElem?_set_self hlt] at hk1
      cases hk1
      exact ⟨h3, hk⟩
    · rw [List.getElem?_set_ne z] at hk1
      obtain ⟨k1, k2⟩ := r.ids k' cc hk1
      exact ⟨k1, g4 k1 (fun w => by cases w; exact z rfl) k2⟩
/-- a tuple that stands in the heap is frozen -/
theorem Rel.frzT {q : Addr} {vs : List V} (r : Rel K ct H0 S s σ H) (h : H q = some (.tup vs)) : ∃ S', Stp S s.M.length H S' s.M.length H ∧ Rel K ct H0 S' s σ H ∧ S'.G q = some (.tup vs) := by
  have hU : U ct.lk H q = some (.tup vs) := uP h
  cases e : S.G q with
  | some u =>
    have := r.sub q u e
    rw [hU] at this; cases this
    exact ⟨S, .refl, r, e⟩
  | none =>
    have hl : S.lab q = none := by
      cases z : S.lab q with
      | none => rfl
      | some l => obtain ⟨_, o, ho, hnt⟩ := r.lg q l z; rw [h] at ho; cases ho; exact absurd rfl (hnt vs)
    refine ⟨S.frz q (.tup vs), ⟨fun a u e2 => ?_, Nat.le_refl _, fun _ _ => rfl, fun a u h2 l => ⟨h2, l⟩, fun a u e2 => ?_, fun _ h => h, fun _ _ _ h => h⟩, r.frz hU hl e, upd_same⟩
    · show upd S.G q _ a = _; rw [upd_ne (ne_of_none e2 e)]; exact e2
    · have e2 : upd S.G q (.tup vs) a = some u := e2
      by_cases z : a = q
      · subst z; exact .inr (.inr (.inr ⟨vs, h⟩))
      · rw [upd_ne z] at e2; exact .inl e2
theorem kDs_rp {G : Hp} {α : Nat → Addr} {n : Nat} : ∀ ks : List Key, RpL K G α n (ks.map kV) (ks.map kD)
  | [] => .nil
  | k :: ks => .cons (kD_rp k) (kDs_rp ks)
inductive KDT where
  | keys | items
def dItT : KDT → List (List Key × D) → List D
  | .keys, l => l.map fun p => .tup (p.1.map kD)
  | .items, l => l.map fun p => .tup [.tup (p.1.map kD), p.2]
/-- the pairs of a dict with tuple keys, each a new tuple -/
def ItiT (d : Addr) (o : Obj) (kvs : List (List Key × V)) : It :=
  ⟨fun i H => H d = some (.frz o (.dT kvs)) ∧ i < kvs.length, fun i H x H' => ∃ T k v q, kvs[i]? = some (k, v) ∧ H q = some (.tup (k.map kV)) ∧ x = .ref T ∧ H T = none ∧ H' = upd H T (.tup [.ref q, v]), fun i H => H d = some (.frz o (.dT kvs)) ∧ kvs.length ≤ i⟩
def iItemsT (td : TE) : TI := fun σ H R => td σ H fun x H1 => ∃ d o kvs, x = .ref d ∧ H1 d = some (.frz o (.dT kvs)) ∧ R (ItiT d o kvs) H1
theorem RpK.atT {G : Hp} {α : Nat → Addr} {n : Nat} : ∀ {kvs : List (List Key × V)} {l : List (List Key × D)} {i : Nat} {k : List Key} {d : D}, RpK K G α n kvs l → l[i]? = some (k, d) → ∃ v, kvs[i]? = some (k, v) ∧ Rp K G α n v d
  | _, _, _, _, _, .nil, e => by simp at e
  | _, _, 0, _, _, .cons a _, e => by simp at e; obtain ⟨rfl, rfl⟩ := e; exact ⟨_, rfl, a⟩
  | _, _, i + 1, _, _, .cons _ r, e => by
    simp at e
    obtain ⟨v, h1, h2⟩ := r.atT e
    exact ⟨v, by simpa using h1, h2⟩
theorem RpK.stepT {G G' : Hp} {α α' : Nat → Addr} {n n' : Nat} (g : Same G G') (ha : ∀ k, k < n → α' k = α k) (hn : n ≤ n') : ∀ {kvs : List (List Key × V)} {l : List (List Key × D)}, RpK K G α n kvs l → RpK K G' α' n' kvs l
  | _, _, .nil => .nil
  | _, _, .cons a r => .cons (a.mono g ha hn) (r.stepT g ha hn)
def dJT : KDT → Addr → Obj → List (List Key × V) → It
  | .keys, d, o, kvs => Itkt d o kvs
  | .items, d, o, kvs => ItiT d o kvs
theorem wk_dT {kd : KDT} {d : Addr} {o : Obj} {kvs : List (List Key × V)} {l : List (List Key × D)} (hd : H d = some (.frz o (.dT kvs))) (r : RpK K S.G S.α s.M.length kvs l) : Wk K ct H0 S s.M.length H (dJT kd d o kvs) ⟨dItT kd l, none⟩ := fun S1 s1 σ1 H1 st rel _ => by
  have h1 := st.fz d _ _ hd
  have r1 := r.stepT st.g st.al st.le
  have hlen := r.len
  cases kd with
  | keys =>
    refine ⟨fun i x e => ?_, ⟨h1, by show kvs.length ≤ (l.map _).length; rw [List.length_map]; omega⟩⟩
    have e : (l.map fun p => D.tup (p.1.map kD))[i]? = some x := e
    rw [List.getElem?_map] at e
    obtain ⟨⟨k, y⟩, e1, rfl⟩ := Option.map_eq_some_iff.mp e
    obtain ⟨v, e2, e3⟩ := r1.atT e1
    refine ⟨⟨h1, (List.getElem?_eq_some_iff.mp e2).1⟩, fun x H2 hy => ?_⟩
    obtain ⟨rfl, k', v', q, q1, rfl, hq⟩ := hy
    rw [e2] at q1; cases q1
    obtain ⟨S2, st2, rel2, hG⟩ := rel.frzT hq
    exact ⟨S2, st2, rel2, .tup hG (kDs_rp k)⟩
  | items =>
    refine ⟨fun i x e => ?_, ⟨h1, by show kvs.length ≤ (l.map _).length; rw [List.length_map]; omega⟩⟩
    have e : (l.map fun p => D.tup [.tup (p.1.map kD), p.2])[i]? = some x := e
    rw [List.getElem?_map] at e
    obtain ⟨⟨k, y⟩, e1, rfl⟩ := Option.map_eq_some_iff.mp e
    obtain ⟨v, e2, e3⟩ := r1.atT e1
    refine ⟨⟨h1, (List.getElem?_eq_some_iff.mp e2).1⟩, fun x H2 hy => ?_⟩
    obtain ⟨T, k', v', q, q1, hq, rfl, hT, rfl⟩ := hy
    rw [e2] at q1; cases q1
    obtain ⟨S2, st2, rel2, hG⟩ := rel.frzT hq
    obtain ⟨S3, st3, rel3, rp3⟩ := new_tup rel2 hT (.cons (.tup hG (kDs_rp k)) (.cons (e3.mono st2.g st2.al (Nat.le_refl _)) .nil))
    exact ⟨S3, st2.trans st3, rel3, rp3⟩
def dIET : KDT → TE → TI
  | .keys, t => iKeys t
  | .items, t => iItemsT t
theorem cid_ev {k : Nat} {te : TE} {m : Mo AI} {Q : VK} (h : Ei K ct H0 W te m) (rl : Rel K ct H0 S s σ H) (hk : k < s.M.length) (hm : m s = .ok (.val (.cid k)) s) (q : ∀ S1 H1, Stp S s.M.length H S1 s.M.length H1 → Rel K ct H0 S1 s σ H1 → Q (.ref (S.α k)) H1) : te σ H Q := h S s σ H Q rl (by
  rw [hm]
  intro S1 b H1 st rel1 it
  have it : Rp K S1.G S1.α s.M.length b (.cid k) := it
  cases it
  rw [st.al k hk]
  exact q S1 H1 st rel1)
open Classical in
/-- the cell's content is put back behind a walk -/
noncomputable def unl (k : Nat) (c c' : Cn) : Rs → Rs
  | .nx s => if s.M[k]? = some c then .nx ⟨s.env, s.M.set k c'⟩ else .no
  | .bk s => if s.M[k]? = some c then .bk ⟨s.env, s.M.set k c'⟩ else .no
  | .ct s => if s.M[k]? = some c then .ct ⟨s.env, s.M.set k c'⟩ else .no
  | .rt a s => if s.M[k]? = some c then .rt a ⟨s.env, s.M.set k c'⟩ else .no
  | _ => .no
open Classical in
noncomputable def mForC (kd : KD) (m : Mo AI) (g : Tg) (b : Ms) : Ms := fun s => match m s with
  | .ok (.val (.cid k)) _ => (match s.M[k]? with
    | some (.dK l) => if m ⟨s.env, s.M.set k (.lkK l)⟩ = .ok (.val (.cid k)) ⟨s.env, s.M.set k (.lkK l)⟩ then unl k (.lkK l) (.dK l) (forN g b none (dIt kd l) ⟨s.env, s.M.set k (.lkK l)⟩) else .no
    | _ => .no)
  | _ => .no
open Classical in
noncomputable def mForCT (kd : KDT) (m : Mo AI) (g : Tg) (b : Ms) : Ms := fun s => match m s with
  | .ok (.val (.cid k)) _ => (match s.M[k]? with
    | some (.dT l) => if m ⟨s.env, s.M.set k (.lkT l)⟩ = .ok (.val (.cid k)) ⟨s.env, s.M.set k (.lkT l)⟩ then unl k (.lkT l) (.dT l) (forN g b none (dItT kd l) ⟨s.env, s.M.set k (.lkT l)⟩) else .no
    | _ => .no)
  | _ => .no
theorem sv_forCT {kd : KDT} {js : List Nat} {te : TE} {m : Mo AI} {g : TG} {tb : TS} {f : Tg} {b : Ms} (h : Ei K ct H0 W0 te m) (hg : Sg K ct H0 js g f) (hb : Sv K ct H0 W0 tb b) : Sv K ct H0 W (tLock (tFor (dIET kd te) g tb)) (mForCT kd m f b) := fun S s σ H Dn rel p => by
  unfold mForCT at p
  split at p
  · rename_i k s1 e0
    split at p
    · rename_i l hk
      split at p
      · rename_i hm
        obtain ⟨h3, kvs, hd, k2, k3⟩ := rel.ids k _ hk
        have hkl : k < s.M.length := (List.getElem?_eq_some_iff.mp hk).1
        have hlen : (s.M.set k (.lkT l)).length = s.M.length := List.length_set
        refine ⟨S.α k, _, hd, trivial, fun od => ?_⟩
        have rl : Rel K ct H0 S ⟨s.env, s.M.set k (.lkT l)⟩ σ (upd H (S.α k) (.frz od (.dT kvs))) := rel.setCell hk (fun _ z => by cases z) ⟨kvs, ⟨od, upd_same⟩, k2, k3⟩
        have rk : RpK K S.G S.α (s.M.set k (.lkT l)).length kvs l := by rw [hlen]; exact RpK.of k2 k3
        have hkl2 : k < (s.M.set k (.lkT l)).length := by rw [hlen]; exact hkl
        generalize hs0 : (⟨s.env, s.M.set k (.lkT l)⟩ : Stt) = s0 at hm p rl
        have hM0 : s0.M = s.M.set k (.lkT l) := by rw [← hs0]
        rw [← hM0] at rk hkl2 hlen
        refine sv_forAt (K := K) (ct := ct) (H0 := H0) (W := W0) (S := S) (s := s0) (mi := fun s => .ok ⟨dItT kd l, none⟩ s) (f := f) (b := b) (fun R q => ?_) hg hb rl ?_
        · have q : ∀ S' H', Stp S s0.M.length (upd H (S.α k) (.frz od (.dT kvs))) S' s0.M.length H' → Rel K ct H0 S' s0 σ H' → R (dJT kd (S.α k) od kvs) H' := fun S' H' st r' =>
            q S' _ H' st r' (wk_dT (st.fz _ _ _ upd_same) (rk.stepT st.g st.al (Nat.le_refl _)))
          cases kd with
          | keys => exact cid_ev h rl hkl2 hm fun S1 H1 st r1 => ⟨_, od, rfl, .inr ⟨kvs, st.fz _ _ _ upd_same, q S1 H1 st r1⟩⟩
          | items => exact cid_ev h rl hkl2 hm fun S1 H1 st r1 => ⟨_, od, kvs, rfl, st.fz _ _ _ upd_same, q S1 H1 st r1⟩
        · show PstS K ct H0 W0 S s0 _ _ (forN f b none (dItT kd l) s0)
          have fin : ∀ {S' : Sh} {s' : Stt} {σ' : St} {H' : Hp}, Stp S s0.M.length (upd H (S.α k) (.frz od (.dT kvs))) S' s'.M.length H' → Rel K ct H0 S' s' σ' H' → s'.M[k]? = some (.lkT l) →
              S'.lab (S.α k) = some (.id k) ∧ H' (S.α k) = some (.frz od (.dT kvs)) ∧ Stp S s.M.length H S' (s'.M.set k (.dT l)).length (upd H' (S.α k) (.dT kvs)) ∧ Rel K ct H0 S' ⟨s'.env, s'.M.set k (.dT l)⟩ σ' (upd H' (S.α k) (.dT kvs)) := fun {S' s' σ' H'} st r' hk' => by
            have hal := st.al k hkl2
            have hz := st.fz _ _ _ (upd_same : upd H (S.α k) (.frz od (.dT kvs)) (S.α k) = _)
            have hl := (r'.ids k _ hk').1
            have k3' : RpL K S'.G S'.α s'.M.length (kvs.map Prod.snd) (l.map Prod.snd) := k3.mono st.g (fun j hj => st.al j (by rw [hlen]; exact hj)) (by have := st.le; rw [hlen] at this; exact this)
            have st0 := Stp.lockd hd st
            rw [hlen] at st0
            have r2 := r'.setCell (c' := .dT l) (o := .dT kvs) hk' (fun _ z => by cases z) ⟨kvs, upd_same, k2, k3'⟩
            rw [hal] at hl r2
            refine ⟨hl, hz, ?_, r2⟩
            rw [List.length_set]; exact st0
          generalize forN f b none (dItT kd l) s0 = R at p
          cases R with
          | no => exact p
          | er x s' => exact False.elim p
          | nx s' =>
            intro S' σ' H' st rel'
            simp only [unl] at p
            split at p
            · rename_i hk'
              obtain ⟨_, f1, f2, f3⟩ := fin st rel' hk'
              exact ⟨f1, p S' σ' _ f2 f3⟩
            · exact False.elim p
          | bk s' =>
            intro S' σ' H' st rel'
            simp only [unl] at p
            split at p
            · rename_i hk'
              obtain ⟨_, f1, f2, f3⟩ := fin st rel' hk'
              exact ⟨f1, p S' σ' _ f2 f3⟩
            · exact False.elim p
          | ct s' =>
            intro S' σ' H' st rel'
            simp only [unl] at p
            split at p
            · rename_i hk'
              obtain ⟨_, f1, f2, f3⟩ := fin st rel' hk'
              exact ⟨f1, p S' σ' _ f2 f3⟩
            · exact False.elim p
          | rt a s' =>
            intro S' σ' v H' st rel' it
            simp only [unl] at p
            split at p
            · rename_i hk'
              obtain ⟨f0, f1, f2, f3⟩ := fin st rel' hk'
              refine ⟨f1, p S' σ' v _ f2 f3 ?_⟩
              cases a with
              | val x => show Rp K S'.G S'.α (s'.M.set k _).length v x; rw [List.length_set]; exact it
              | slot j => exact it
              | new c' =>
                obtain ⟨pp, rfl, i1, i2, i3, i4, i5⟩ := it
                have ne : pp ≠ S.α k := fun z => by subst z; rw [f0] at i2; cases i2
                refine ⟨pp, rfl, i1, i2, i3, i4, i5.mono (fun _ _ e => e) (fun _ _ => rfl) (by rw [List.length_set]; exact Nat.le_refl _) (fun o e => by rw [upd_ne ne]; exact e)⟩
            · exact False.elim p
      · exact False.elim p
    · exact False.elim p
  · exact False.elim p
open Classical in
noncomputable def mLcC (kd : KD) (m : Mo AI) (ws : List Nat) (g : Tg) (c : Mo Bool) (e : Mo AI) : Mo AI := fun s => match m s with
  | .ok (.val (.cid k)) _ => (match s.M[k]? with
    | some (.dK l) => if m ⟨s.env, s.M.set k (.lkK l)⟩ = .ok (.val (.cid k)) ⟨s.env, s.M.set k (.lkK l)⟩ then (match mLc ws (fun s => .ok ⟨dIt kd l, none⟩ s) g c e ⟨s.env, s.M.set k (.lkK l)⟩ with
      | .ok a s' => if s'.M[k]? = some (.lkK l) then .ok a ⟨s'.env, s'.M.set k (.dK l)⟩ else .no
      | _ => .no) else .no
    | _ => .no)
  | _ => .no
open Classical in
noncomputable def mLcCT (kd : KDT) (m : Mo AI) (ws : List Nat) (g : Tg) (c : Mo Bool) (e : Mo AI) : Mo AI := fun s => match m s with
  | .ok (.val (.cid k)) _ => (match s.M[k]? with
    | some (.dT l) => if m ⟨s.env, s.M.set k (.lkT l)⟩ = .ok (.val (.cid k)) ⟨s.env, s.M.set k (.lkT l)⟩ then (match mLc ws (fun s => .ok ⟨dItT kd l, none⟩ s) g c e ⟨s.env, s.M.set k (.lkT l)⟩ with
      | .ok a s' => if s'.M[k]? = some (.lkT l) then .ok a ⟨s'.env, s'.M.set k (.dT l)⟩ else .no
      | _ => .no) else .no
    | _ => .no)
  | _ => .no
theorem ei_lcCT {kd : KDT} {js ws : List Nat} {g : TG} {tt : TT} {te tx : TE} {m : Mo AI} {f : Tg} {c : Mo Bool} {e : Mo AI} (h : Ei K ct H0 W0 tx m) (hg : Sg K ct H0 js g f) (hjs : ∀ j ∈ js, j ∈ ws) (hc : Et K ct H0 W0 tt c) (he : Ei K ct H0 W0 te e) :
    Ei K ct H0 W (tLockE (tLc (dIET kd tx) g tt te ws)) (mLcCT kd m ws f c e) := fun S s σ H Q rel p => by
  unfold mLcCT at p
  split at p
  · rename_i k s1 e0
    split at p
    · rename_i l hk
      split at p
      · rename_i hm
        obtain ⟨h3, kvs, hd, k2, k3⟩ := rel.ids k _ hk
        have hkl : k < s.M.length := (List.getElem?_eq_some_iff.mp hk).1
        have hlen : (s.M.set k (.lkT l)).length = s.M.length := List.length_set
        refine ⟨S.α k, _, hd, trivial, fun od => ?_⟩
        have rl : Rel K ct H0 S ⟨s.env, s.M.set k (.lkT l)⟩ σ (upd H (S.α k) (.frz od (.dT kvs))) := rel.setCell hk (fun _ z => by cases z) ⟨kvs, ⟨od, upd_same⟩, k2, k3⟩
        have rk : RpK K S.G S.α (s.M.set k (.lkT l)).length kvs l := by rw [hlen]; exact RpK.of k2 k3
        have hkl2 : k < (s.M.set k (.lkT l)).length := by rw [hlen]; exact hkl
        generalize hs0 : (⟨s.env, s.M.set k (.lkT l)⟩ : Stt) = s0 at hm p rl
        have hM0 : s0.M = s.M.set k (.lkT l) := by rw [← hs0]
        rw [← hM0] at rk hkl2 hlen
        refine ei_lcAt (K := K) (ct := ct) (H0 := H0) (W := W0) (S := S) (s := s0) (mi := fun s => .ok ⟨dItT kd l, none⟩ s) (fun R q => ?_) hg hjs hc he ?_
        · have q : ∀ S' H', Stp S s0.M.length (upd H (S.α k) (.frz od (.dT kvs))) S' s0.M.length H' → Rel K ct H0 S' s0 σ H' → R (dJT kd (S.α k) od kvs) H' := fun S' H' st r' =>
            q S' _ H' st r' (wk_dT (st.fz _ _ _ upd_same) (rk.stepT st.g st.al (Nat.le_refl _)))
          cases kd with
          | keys => exact cid_ev h rl hkl2 hm fun S1 H1 st r1 => ⟨_, od, rfl, .inr ⟨kvs, st.fz _ _ _ upd_same, q S1 H1 st r1⟩⟩
          | items => exact cid_ev h rl hkl2 hm fun S1 H1 st r1 => ⟨_, od, kvs, rfl, st.fz _ _ _ upd_same, q S1 H1 st r1⟩
        · generalize mLc ws (fun s => .ok ⟨dItT kd l, none⟩ s) f c e s0 = R at p
          have hne : ∀ x s', R = .er x s' → False := fun x s' z => by subst z; exact p
          cases R with
          | no => exact p
          | er x s' => exact (hne x s' rfl).elim
          | ok a s' =>
            intro S' b H' st rel' it
            simp only [] at p
            split at p
            · rename_i hk'
              have hal := st.al k hkl2
              have hz := st.fz _ _ _ (upd_same : upd H (S.α k) (.frz od (.dT kvs)) (S.α k) = _)
              have hl := (rel'.ids k _ hk').1
              have k3' : RpL K S'.G S'.α s'.M.length (kvs.map Prod.snd) (l.map Prod.snd) := k3.mono st.g (fun j hj => st.al j (by rw [hlen]; exact hj)) (by have := st.le; rw [hlen] at this; exact this)
              have st0 := Stp.lockd hd st
              rw [hlen] at st0
              have r2 := rel'.setCell (c' := .dT l) (o := .dT kvs) hk' (fun _ z => by cases z) ⟨kvs, upd_same, k2, k3'⟩
              rw [hal] at hl r2
              refine ⟨hz, p S' b _ (by rw [List.length_set]; exact st0) r2 ?_⟩
              cases a with
              | val x => show Rp K S'.G S'.α (s'.M.set k _).length b x; rw [List.length_set]; exact it
              | slot j => exact it
              | new c' =>
                obtain ⟨pp, rfl, i1, i2, i3, i4, i5⟩ := it
                have ne : pp ≠ S.α k := fun z => by subst z; rw [hl] at i2; cases i2
                refine ⟨pp, rfl, (upd_none.mp i1).2, i2, i3, i4, i5.mono (fun _ _ e => e) (fun _ _ => rfl) (by rw [List.length_set]; exact Nat.le_refl _) (fun o e => by rw [upd_ne ne]; exact e)⟩
            · exact False.elim p
      · exact False.elim p
    · exact False.elim p
  · exact False.elim p
def Olk (k : Nat) (c c' : Cn) (O : Rs → Prop) : Rs → Prop
  | .rt a s => s.M[k]? = some c ∧ O (.rt a ⟨s.env, s.M.set k c'⟩)
  | .bk s => s.M[k]? = some c ∧ O (.bk ⟨s.env, s.M.set k c'⟩)
  | .ct s => s.M[k]? = some c ∧ O (.ct ⟨s.env, s.M.set k c'⟩)
  | _ => False
theorem unl_ws {k : Nat} {c c' : Cn} {N : Stt → Prop} {O : Rs → Prop} {r : Rs} (h : Ws (fun s' => s'.M[k]? = some c ∧ N ⟨s'.env, s'.M.set k c'⟩) (Olk k c c' O) r) : Ws N O (unl k c c' r) := by
  cases r with
  | nx s => obtain ⟨h1, h2⟩ := (show s.M[k]? = some c ∧ _ from h); simp only [unl]; rw [if_pos h1]; exact h2
  | bk s => obtain ⟨h1, h2⟩ := (show s.M[k]? = some c ∧ _ from h); simp only [unl]; rw [if_pos h1]; exact h2
  | ct s => obtain ⟨h1, h2⟩ := (show s.M[k]? = some c ∧ _ from h); simp only [unl]; rw [if_pos h1]; exact h2
  | rt a s => obtain ⟨h1, h2⟩ := (show s.M[k]? = some c ∧ _ from h); simp only [unl]; rw [if_pos h1]; exact h2
  | er x s => exact (show False from h).elim
  | no => exact (show False from h).elim
theorem w_forC {kd : KD} {m : Mo AI} {g : Tg} {b : Ms} {N : Stt → Prop} {O : Rs → Prop} (h : Wo (fun a _ => ∃ k l, a = .val (.cid k) ∧ s.M[k]? = some (.dK l) ∧ Wo (fun a2 s2 => (a2 = .val (.cid k) ∧ s2 = ⟨s.env, s.M.set k (.lkK l)⟩) ∧ Ws (fun s' => s'.M[k]? = some (.lkK l) ∧ N ⟨s'.env, s'.M.set k (.dK l)⟩) (Olk k (.lkK l) (.dK l) O) (forN g b none (dIt kd l) ⟨s.env, s.M.set k (.lkK l)⟩)) Xf (m ⟨s.env, s.M.set k (.lkK l)⟩)) Xf (m s)) : Ws N O (mForC kd m g b s) := by
  unfold mForC
  cases e : m s with
  | no => rw [e] at h; exact h.elim
  | er x s1 => rw [e] at h; exact h.elim
  | ok a s1 =>
    rw [e] at h
    obtain ⟨k, l, rfl, hk, h⟩ := h
    simp only []
    rw [hk]
    simp only []
    cases e2 : m ⟨s.env, s.M.set k (.lkK l)⟩ with
    | no => rw [e2] at h; exact h.elim
    | er x s2 => rw [e2] at h; exact h.elim
    | ok a2 s2 =>
      rw [e2] at h
      obtain ⟨⟨rfl, rfl⟩, h⟩ := h
      rw [if_pos rfl]
      exact unl_ws h
theorem w_lcC {kd : KD} {m : Mo AI} {ws : List Nat} {g : Tg} {c : Mo Bool} {e : Mo AI} {QA : AI → Stt → Prop} {X : Exn → Stt → Prop} (h : Wo (fun a _ => ∃ k l, a = .val (.cid k) ∧ s.M[k]? = some (.dK l) ∧ Wo (fun a2 s2 => (a2 = .val (.cid k) ∧ s2 = ⟨s.env, s.M.set k (.lkK l)⟩) ∧ ∃ l2 s3, lcN ws g c (mV e) none (dIt kd l) [] (wipeS ws ⟨s.env, s.M.set k (.lkK l)⟩) = .ok l2 s3 ∧ s3.M[k]? = some (.lkK l) ∧ QA (.new (.lst l2)) ⟨Y.rest s.env s3.env ws, s3.M.set k (.dK l)⟩) Xf (m ⟨s.env, s.M.set k (.lkK l)⟩)) Xf (m s)) : Wo QA X (mLcC kd m ws g c e s) := by
  unfold mLcC
  cases e0 : m s with
  | no => rw [e0] at h; exact h.elim
  | er x s1 => rw [e0] at h; exact h.elim
  | ok a s1 =>
    rw [e0] at h
    obtain ⟨k, l, rfl, hk, h⟩ := h
    simp only []
    rw [hk]
    simp only []
    cases e2 : m ⟨s.env, s.M.set k (.lkK l)⟩ with
    | no => rw [e2] at h; exact h.elim
    | er x s2 => rw [e2] at h; exact h.elim
    | ok a2 s2 =>
      rw [e2] at h
      obtain ⟨⟨rfl, rfl⟩, l2, s3, h1, h2, h3⟩ := h
      rw [if_pos rfl]
      have e4 : mLc ws (fun s => .ok ⟨dIt kd l, none⟩ s) g c e ⟨s.env, s.M.set k (.lkK l)⟩ = .ok (.new (.lst l2)) ⟨Y.rest s.env s3.env ws, s3.M⟩ := by
        show (match lcN ws g c (mV e) none (dIt kd l) [] (wipeS ws ⟨s.env, s.M.set k (.lkK l)⟩) with | .ok l s2 => Ro.ok (AI.new (.lst l)) ⟨Y.rest s.env s2.env ws, s2.M⟩ | _ => .no) = _
        rw [h1]
      rw [e4]
      simp only []
      rw [if_pos h2]
      exact h3
theorem w_forCT {kd : KDT} {m : Mo AI} {g : Tg} {b : Ms} {N : Stt → Prop} {O : Rs → Prop} (h : Wo (fun a _ => ∃ k l, a = .val (.cid k) ∧ s.M[k]? = some (.dT l) ∧ Wo (fun a2 s2 => (a2 = .val (.cid k) ∧ s2 = ⟨s.env, s.M.set k (.lkT l)⟩) ∧ Ws (fun s' => s'.M[k]? = some (.lkT l) ∧ N ⟨s'.env, s'.M.set k (.dT l)⟩) (Olk k (.lkT l) (.dT l) O) (forN g b none (dItT kd l) ⟨s.env, s.M.set k (.lkT l)⟩)) Xf (m ⟨s.env, s.M.set k (.lkT l)⟩)) Xf (m s)) : Ws N O (mForCT kd m g b s) := by
  unfold mForCT
  cases e : m s with
  | no => rw [e] at h; exact h.elim
  | er x s1 => rw [e] at h; exact h.elim
  | ok a s1 =>
    rw [e] at h
    obtain ⟨k, l, rfl, hk, h⟩ := h
    simp only []
    rw [hk]
    simp only []
    cases e2 : m ⟨s.env, s.M.set k (.lkT l)⟩ with
    | no => rw [e2] at h; exact h.elim
    | er x s2 => rw [e2] at h; exact h.elim
    | ok a2 s2 =>
      rw [e2] at h
      obtain ⟨⟨rfl, rfl⟩, h⟩ := h
      rw [if_pos rfl]
      exact unl_ws h
theorem w_lcCT {kd : KDT} {m : Mo AI} {ws : List Nat} {g : Tg} {c : Mo Bool} {e : Mo AI} {QA : AI → Stt → Prop} {X : Exn → Stt → Prop} (h : Wo (fun a _ => ∃ k l, a = .val (.cid k) ∧ s.M[k]? = some (.dT l) ∧ Wo (fun a2 s2 => (a2 = .val (.cid k) ∧ s2 = ⟨s.env, s.M.set k (.lkT l)⟩) ∧ ∃ l2 s3, lcN ws g c (mV e) none (dItT kd l) [] (wipeS ws ⟨s.env, s.M.set k (.lkT l)⟩) = .ok l2 s3 ∧ s3.M[k]? = some (.lkT l) ∧ QA (.new (.lst l2)) ⟨Y.rest s.env s3.env ws, s3.M.set k (.dT l)⟩) Xf (m ⟨s.env, s.M.set k (.lkT l)⟩)) Xf (m s)) : Wo QA X (mLcCT kd m ws g c e s) := by
  unfold mLcCT
  cases e0 : m s with
  | no => rw [e0] at h; exact h.elim
  | er x s1 => rw [e0] at h; exact h.elim
  | ok a s1 =>
    rw [e0] at h
    obtain ⟨k, l, rfl, hk, h⟩ := h
    simp only []
    rw [hk]
    simp only []
    cases e2 : m ⟨s.env, s.M.set k (.lkT l)⟩ with
    | no => rw [e2] at h; exact h.elim
    | er x s2 => rw [e2] at h; exact h.elim
    | ok a2 s2 =>
      rw [e2] at h
      obtain ⟨⟨rfl, rfl⟩, l2, s3, h1, h2, h3⟩ := h
      rw [if_pos rfl]
      have e4 : mLc ws (fun s => .ok ⟨dItT kd l, none⟩ s) g c e ⟨s.env, s.M.set k (.lkT l)⟩ = .ok (.new (.lst l2)) ⟨Y.rest s.env s3.env ws, s3.M⟩ := by
        show (match lcN ws g c (mV e) none (dItT kd l) [] (wipeS ws ⟨s.env, s.M.set k (.lkT l)⟩) with | .ok l s2 => Ro.ok (AI.new (.lst l)) ⟨Y.rest s.env s2.env ws, s2.M⟩ | _ => .no) = _
        rw [h1]
      rw [e4]
      simp only []
      rw [if_pos h2]
      exact h3
end
end Y
namespace Y
open PySem L2 Z PySem.Spec PyProof.Rows
section
variable {X : Cx} {pins : List (Addr × Obj)} {σ : L2.St} {H : Hp} {s : Shared} {d : Addr} {o : Obj}
theorem frzT2 {kvs : List (List Key × V)} (I : Inv X pins σ H s) (h : H d = some (.frz o (.dT kvs))) :
    (d == sysModules) = false ∧ s.heap.get? d = some o ∧ o.ExactDict ∧ ∃ (es : Array DictEntry) (ep : Nat), o.data = .dict es ep ∧ es.size = kvs.length ∧
      ∀ (i : Nat) (k : List Key) (v : V), kvs[i]? = some (k, v) → ∃ (en : DictEntry) (q : Addr), es[i]? = some en ∧ en.key = .ref q ∧ H q = some (.tup (k.map kV)) ∧ RelV v en.val := by
  obtain ⟨hd, z, hs, xs, pr, o', es, ep, ho, hx, hdt, he, _⟩ := I.hok d _ h
  rw [hd] at ho
  cases ho
  refine ⟨hs, hd, hx, es, ep, hdt, ?_, fun i k v e => ?_⟩
  · have l1 : es.size = xs.length := size_of_entries he
    have l2 : kvs.length = xs.length := Paired.length pr
    omega
  · obtain ⟨b, hb, e1, e2, e3⟩ := paired_get pr e
    have q := entry_at he i
    rw [hb] at q
    exact ⟨_, b.2.1, q, rfl, e2, e3⟩
end
section
variable {P : Program} {w : World} {K : PySem.W.Frag} {d : Addr} {o : Obj} {es : Array DictEntry} {ep : Nat}
theorem turn_itemsT {kvs : List (List Key × V)} {elts : List Expr} {kk : Nat} {tpos : Pos} (it : Addr) (hod : o.data = .dict es ep) :
    Turn P w K (.Tuple elts kk tpos) (ItiT d o kvs) [it] it (fun i h => ∃ ok ov, IsItemIter h it d i kvs.length ep ok ov) where
  mem := by simp
  obj := fun i h st b hb => by
    have e : b = it := by simpa using hb
    subst e
    obtain ⟨ok, ov, e⟩ := st
    exact ⟨_, e, fun v z => nomatch z⟩
  keep := fun i h h' st k => let ⟨ok, ov, e⟩ := st; ⟨ok, ov, k it (by simp) _ e⟩
  item := by
    intro X hP hw hK hc i pins s σ H E I hf st hg
    subst hP hw hK
    obtain ⟨hd, hi⟩ := hg
    obtain ⟨hs, hgd, hx, es', ep', hdt, hsz, ent⟩ := frzT2 I hd
    obtain ⟨rfl, rfl⟩ := dict_ep hod hdt
    obtain ⟨⟨k, v⟩, hkv⟩ : ∃ p, kvs[i]? = some p := ⟨kvs[i], List.getElem?_eq_getElem hi⟩
    obtain ⟨en, q, hen, hkey, hq, rv⟩ := ent i k v hkv
    obtain ⟨ok, ov, he⟩ := st
    rw [← hsz] at he
    have hie : i < es'.size := by omega
    have hen2 : es'[i] = en := by
      rw [Array.getElem?_eq_getElem hie] at hen
      exact Option.some.inj hen
    have hlt : it < s.heap.objs.size := Heap.lt_size he
    have hm : s.heap.DictRaw d es' ep' := ⟨o, hgd, hx, hdt⟩
    refine wpAny_pyNext_items_item_raw he hm hie fun h' ho hT hz hk => ?_
    rw [hen2, hkey] at ho hT
    refine ⟨_, rfl, wpAny_letOwnedTupleGo_items (s := { s with heap := h' }) ho fun h'' he' sb => ?_⟩
    have hT2 : h''.get? s.heap.objs.size = some { cls := .type "tuple", data := .seq #[.ref q, en.val] } := (sb.2 _ (Nat.ne_of_gt hlt)).trans hT
    have new : ObjOk X.prog X.w (upd H s.heap.objs.size (.tup [.ref q, v])) h'' s.heap.objs.size (.tup [.ref q, v]) :=
      ⟨by show 2 ≤ sizeLine; decide, [.ref q, en.val], .cons rfl (.cons rv .nil), ⟨_, hT2, rfl, _, rfl⟩⟩
    have I1 : Inv X pins σ (upd H s.heap.objs.size (.tup [.ref q, v])) { s with heap := h'' } :=
      I.turnedNew (t' := s.toks) (ch := [it]) (fun b ob hb e => (sb.2 b (by simpa using hb)).trans (hk b ob (by simpa using hb) e)) hf (Nat.le_refl _) new
    refine ⟨.ref s.heap.objs.size, _, I1, rfl, ⟨_, k, v, q, hkv, hq, rfl, I.hok.fresh (Nat.le_refl _), rfl⟩, ⟨.ref q, en.val, ?_⟩, fun b hb => ?_⟩
    · rw [← hsz]; exact he'
    · have e : b = it := by simpa using hb
      rw [e, upd_ne (Nat.ne_of_lt hlt)]
      exact (hf it (by simp)).1
  done := by
    intro X hP hw hK hc i pins s σ H E I hf st hg
    subst hP hw hK
    obtain ⟨hd, hi⟩ := hg
    obtain ⟨f0, f1, f2, f3, f4, f5⟩ := hf it (by simp)
    obtain ⟨hs, hgd, hx, es', ep', hdt, hsz, ent⟩ := frzT2 I hd
    obtain ⟨rfl, rfl⟩ := dict_ep hod hdt
    obtain ⟨ok, ov, he⟩ := st
    rw [← hsz] at he
    have hm : s.heap.DictRaw d es' ep' := ⟨o, hgd, hx, hdt⟩
    exact wpAny_pyNext_items_end_raw (I.ok.hd hc) he hm (by omega) fun h' eb => ⟨rfl, I.turned (t' := s.toks) (fun b ob hb e => eb b ob hb e) f0 f1 f3 f4 f5⟩
  self := fun A i s Q E st h => let ⟨_, _, e⟩ := st; PySem.W.kcp_self e h
end
section
variable {X : Cx} {e : Expr} {td : TE} {apos cpos : Pos}
theorem pi_itemsT {elts : List Expr} {kk : Nat} {tpos : Pos} (he : PE X e td) (hbase : attributeBase e "items" X.env (eval e X.env) = eval e X.env := by rfl) (hline : (apos.endLine == cpos.line) = true := by rfl) :
    PI X (.Tuple elts kk tpos) (.Call (.Attribute e "items" apos) [] [] cpos) (iItemsT td) := by
  refine ⟨fun pins s σ H R I h => ?_⟩
  refine wpAny_Call_method (T := "dict") (id := "dict.items") hbase rfl hline PySem.F.plainAttrs_dict PySem.F.slot_dict_items PySem.F.type_dict_items (thn (he.run pins s σ H _ I h) fun u s1 ⟨x, H1, I1, rx, d, o, kvs, ex, hd, q⟩ => ?_)
  subst ex
  obtain rfl : u = Value.ref d := rx
  obtain ⟨hs, hgd, hx, es, ep, hdt, hsz, ent⟩ := frzT2 I1 hd
  have hm : s1.heap.DictRaw d es ep := ⟨o, hgd, hx, hdt⟩
  refine ⟨hm.typeIs, (fun b q => by cases q; exact ⟨o, hgd, hx.2.1⟩), ?_⟩
  have I2 : Inv X pins σ H1 { s1 with heap := s1.heap.push { cls := .type "dict_items", data := .fields #[.ref d] } } := I1.kept (t' := s1.toks) fun b ob q => Heap.get?_push_of_some _ q
  have hm2 : (s1.heap.push { cls := .type "dict_items", data := .fields #[.ref d] }).DictRaw d es ep := ⟨o, Heap.get?_push_of_some _ hgd, hx, hdt⟩
  have fin : wpAny (model X.prog X.w) X.A (pyIter (.ref s1.heap.objs.size)) (PIE X pins σ (.Tuple elts kk tpos) R) X.xe { s1 with heap := s1.heap.push { cls := .type "dict_items", data := .fields #[.ref d] } } := by
    refine wpAny_pyIter_items_raw (d := d) ⟨_, Heap.get?_push_size _ rfl, rfl, rfl⟩ hm2 (pi_one (tk := s1.toks) I2 _ (turn_itemsT _ hdt) ⟨.none, .none, ?_⟩ q)
    rw [← hsz]
    exact Heap.get?_push_size _ rfl
  show wpAny _ _ (callWith cpos (.builtin "dict.items") [.ref d] [] []) _ X.xe s1
  exact method_meetsIn PySem.F.slot_dict_items PySem.F.entry_dict_items rfl (PySem.evalArgs_none ⟨rfl, hm.typeIs, PySem.F.args_dict_items_1 _, _, meets_dict_items_raw d hs, ⟨⟨es, ep, hm⟩, fin⟩⟩)
end
section
variable {X : Cx} {pins : List (Addr × Obj)} {σ : L2.St} {H : Hp} {s : Shared} {A : Around} {E : Value → Shared → Prop}
theorem dT_pop1 {a b : Addr} {kvs : List (List Key × V)} {k : List Key} {v : V} {Q : Value → Shared → Prop} (hu : A.units + 1 < cLine) (I : Inv X pins σ H s) (ha : H a = some (.dT kvs)) (hb : H b = some (.tup (k.map kV))) (hv : valV kvs k = some v)
    (h : ∀ (w' : Value) (s' : Shared), Inv X pins σ (upd H a (.dT (dropK kvs k))) s' → RelV v w' → Q w' s') : wpAny (model X.prog X.w) A (call (.builtin "dict.pop") [.ref a, .ref b]) Q E s := by
  obtain ⟨z, hd, xs', rel, dd⟩ := dt_of I.hok ha
  have hz : xs'.length ≤ sizeLine := by rw [← Paired.length rel]; exact z
  have r := rel.val k
  rw [hv] at r
  cases hp : atKey xs' k with
  | none => rw [hp] at r; exact (show False from r).elim
  | some p =>
    rw [hp] at r
    refine call_pop_heap (hsz := hz) (.inl rfl) (PySem.F.args_dict_pop_2 _ _) (tupleKind_room_in1 hu) (key_of I.hok hb) hd dd hp fun h' dd' hs => ?_
    obtain ⟨o, es, ep, hq, h2, h3, h4, _, h5⟩ := dd'
    exact h _ _ (d_write I (by rw [ha]; exact True.intro) hs ⟨o, hq⟩ ⟨Nat.le_trans (dropK_le kvs k) z, hd, _, (L2.DX.KT_drop k rel).keeps (fun c ys ec => (by rw [upd_ne (ne_of ec ha (fun z => nomatch z))]; exact ec)), o, es, ep, hq, h2, h3, h4, h5⟩) r
end
/-- d.pop(y), y a tuple -/
def tDPopT (td ty : TE) : TE := fun σ H Q => td σ H fun x H1 => ∃ a, x = .ref a ∧ IsD H1 a ∧ ty σ H1 fun y H2 => ∃ (b : Addr) (kvs : List (List Key × V)) (k : List Key) (v : V), H2 a = some (.dT kvs) ∧ y = .ref b ∧ H2 b = some (.tup (k.map kV)) ∧ valV kvs k = some v ∧ Q v (upd H2 a (.dT (dropK kvs k)))
section
variable {X : Cx} {o e f : Expr} {td ty tx : TE} {apos cpos : Pos}
theorem pe_dpopT (hu : X.A.units + 1 < cLine) (ho : PE X o td) (he : PE X e ty) (m : M1 X o "pop" apos e cpos) : PE X (.Call (.Attribute o "pop" apos) [e] [] cpos) (tDPopT td ty) := by
  refine ⟨fun pins s σ H Q I h => ?_⟩
  refine wpAny_Call_method m.base m.few m.line PySem.F.plainAttrs_dict PySem.F.slot_dict_pop PySem.F.type_dict_pop (thn (ho.run pins s σ H _ I h) fun u s1 ⟨x, H1, I1, rx, a, ex, d, q1⟩ => ?_)
  subst ex
  obtain rfl : u = Value.ref a := rx
  obtain ⟨t1, t2, _⟩ := isD_at I1 d
  refine ⟨t1, t2, ?_⟩
  rw [m.trees]
  refine Calls.callWith_builtin rfl (Calls.evalArgs_plain (Calls.spliced_cons (thn (he.run pins s1 σ H1 _ I1 q1) fun iv s2 ⟨y, H2, I2, ry, b, kvs, k, v, ea, ey, eb, l, q2⟩ => Calls.spliced_nil ?_)))
  subst ey
  cases (show iv = Value.ref b from ry)
  exact dT_pop1 (by first | assumption | exact hu | omega) I2 ea eb l fun w' s3 I3 rw' => ⟨v, _, I3, rw', q2⟩
end
section
variable {K : PySem.W.Frag} {ct : Ct} {H0 : Hp} {W : WX}
def mPopT (mo mi : Mo AI) : Mo AI := fun s => (mo s).bind fun a s1 => match viewDT s1 a with
  | some _ => (mV mi s1).bind fun i s2 => match getC s2 a, tkey i with
    | some (.dT l), some k => (match vl l k with
      | some d => .ok (.val d) (setC s2 a (.dT (dr l k)))
      | none => .no)
    | _, _ => .no
  | none => .no
theorem ei_popT {td ty : TE} {mo mi : Mo AI} (ho : Ei K ct H0 W td mo) (hi : Ei K ct H0 W ty mi) : Ei K ct H0 W (tDPopT td ty) (mPopT mo mi) := fun S s σ H Q rel p =>
  ho S s σ H _ rel (Pst.bind bI p fun S1 s1 H1 x a st1 rel1 i1 p1 => by
    split at p1
    · rename_i l e
      obtain ⟨q, kvs, rfl, h1, h2⟩ := viewDT_ok rel1 i1 e
      refine ⟨q, rfl, .inr ⟨kvs, h1⟩, ev_of hi S1 s1 σ H1 _ rel1 (Pst.bind bI p1 fun S2 s2 H2 y i st2 rel2 i2 p2 => ?_)⟩
      split at p2
      · rename_i l' k' eg e1
        split at p2
        · rename_i d' e3
          obtain ⟨p, ep, ⟨us, g1, g3, g2⟩, g4⟩ := mut_ok rel2 (i1.step st2) eg
          cases ep
          obtain ⟨b, rfl, hb⟩ := tkey_rp rel2 i2 e1
          have rk := RpK.of g3 g2
          have rk' := rk.drop (k := k')
          obtain ⟨r1, r2⟩ := g4 (.dT (dropK us k')) (.dT (dr l' k')) (fun _ => rfl) ⟨_, upd_same, rk'.keys, rk'.vals⟩
          rcases rk.get (k := k') with ⟨z1, z2⟩ | ⟨v, d0, z1, z2, z3⟩
          · rw [z1] at e3; cases e3
          · rw [z1] at e3; cases e3
            refine ⟨b, us, k', v, g1, rfl, hb, z2, p2 S2 v _ r2 r1 ?_⟩
            show Rp K S2.G S2.α (setC s2 a (.dT (dr l' k'))).M.length v _
            rw [setC_len]; exact z3
        · exact False.elim p2
      · exact False.elim p2
    · exact False.elim p1)
theorem w_popT {s : Stt} {X : Exn → Stt → Prop} {QA : AI → Stt → Prop} {m1 m2 : Mo AI} (h : Wo (fun a s1 => (∃ l, viewDT s1 a = some l) ∧ Wo (fun i s2 => ∃ l k d, getC s2 a = some (.dT l) ∧ tkey i = some k ∧ vl l k = some d ∧ QA (.val d) (setC s2 a (.dT (dr l k)))) X (mV m2 s1)) X (m1 s)) : Wo QA X (mPopT m1 m2 s) := by
  refine w_bind (w_mono h fun a s1 h => ?_)
  obtain ⟨⟨l0, e0⟩, h⟩ := h
  rw [e0]
  refine w_bind (w_mono h fun i s2 h => ?_)
  obtain ⟨l, k, d, e1, e2, e3, h⟩ := h
  rw [e1, e2]
  simp only []
  rw [e3]
  exact h
end
end Y
namespace Y
open PySem L2 Z PySem.Spec PyProof.Rows
theorem u2 {A : Around} {k : Nat} (hr : Room k A) : A.units + 2 < cLine := by have := hr.un; omega
def mergeT (kvs more : List (List Key × V)) : List (List Key × V) := more.foldl (fun acc kv => putK acc kv.1 kv.2) kvs
theorem KT_merge {H : Hp} : ∀ {more : List (List Key × V)} {rs : List (List Key × Addr × Value)} {kvs : List (List Key × V)} {xs : List (List Key × Addr × Value)}, L2.KT H more rs → L2.KT H kvs xs → L2.KT H (mergeT kvs more) (storedAllH xs rs)
  | _, _, _, _, .nil, h => h
  | _, _, kvs, xs, .cons (a := p) (b := q) (l₁ := ps) (l₂ := qs) h t, r0 => by
    have e : L2.KT H (putK kvs p.1 p.2) (storedH xs q.1 q.2.1 q.2.2) := by
      have := r0.put p.1 h.2.1 h.2.2
      rw [← h.1]; exact this
    exact KT_merge (more := ps) (rs := qs) (show L2.KT H ps qs from t) e
theorem length_mergeT : ∀ (more kvs : List (List Key × V)), (mergeT kvs more).length ≤ kvs.length + more.length
  | [], kvs => by show kvs.length ≤ kvs.length + 0; omega
  | p :: r, kvs => by
    have h1 := length_mergeT r (putK kvs p.1 p.2)
    have h2 := length_putK kvs p.1 p.2
    show (mergeT (putK kvs p.1 p.2) r).length ≤ _
    rw [List.length_cons]; omega
/-- the pairs of a display whose keys are tuples -/
def PsT (H : Hp) (ps : List (V × V)) (kvs : List (List Key × V)) : Prop := Paired (fun p kv => ∃ b, p.1 = V.ref b ∧ H b = some (.tup (kv.1.map kV)) ∧ p.2 = kv.2) ps kvs
section
variable {X : Cx} {pins : List (Addr × Obj)} {σ : L2.St} {H : Hp} {s : Shared}
theorem carriesH_of (I : Inv X pins σ H s) : ∀ {ps : List (V × V)} {kvs : List (List Key × V)} {ws : List (Value × Value)}, PsT H ps kvs → VV ps ws → ∃ rs, CarriesH (tupleKind (mixKind X.prog X.w)) s.heap ws rs ∧ L2.KT H kvs rs
  | _, _, _, .nil, .nil => ⟨[], trivial, .nil⟩
  | _, _, _, .cons (a := p) (b := kv) h t, .cons (b := w) hw tw => by
    obtain ⟨rs, c, q⟩ := carriesH_of I t tw
    obtain ⟨b, e1, e2, e3⟩ := h
    obtain ⟨w1, w2⟩ := w
    obtain ⟨r1, r2⟩ := hw
    rw [e1] at r1
    rw [e3] at r2
    cases (show w1 = Value.ref b from r1)
    exact ⟨(kv.1, b, w2) :: rs, ⟨rfl, rfl, key_of I.hok e2, c⟩, .cons ⟨rfl, e2, r2⟩ q⟩
end
section
variable {prog : Program} {w : World} {K : Type} [DecidableEq K] {knd : HeapKind prog w K} {A : Around} {E : Value → Shared → Prop} {s : Shared}
theorem dict_walkT {env : Env} {keys : List (Option Expr)} {values : List Expr} {pos : Pos} {Q : Value → Shared → Prop} (hu : knd.room A)
    (hall : keys.all (·.isSome) = true) (hl : keys.length = values.length) (h0 : keys ≠ []) (hlen : keys.length ≤ 15)
    (h : wpAny (model prog w) A (evalPairs (pairTrees keys values env pos)) (fun vs s₁ => ∃ ps, CarriesH knd s₁.heap vs ps ∧ s₁.heap.DictOfH knd s.heap.objs.size [] ∧
      ∀ h' tk, h'.DictOfH knd s.heap.objs.size (storedAllH [] ps) → Heap.SameBut s.heap.objs.size s₁.heap h' → Q (.ref s.heap.objs.size) { s₁ with heap := h', toks := tk }) E
      { s with heap := s.heap.push { cls := .type "dict", data := .dict #[] } }) :
    wpAny (model prog w) A (eval (.Dict keys values pos) env) Q E s := by
  have hn := pairTrees_length keys values env pos hall hl
  have hne : pairTrees keys values env pos ≠ [] := fun he => by
    rw [he] at hn
    exact h0 (List.length_eq_zero_iff.mp hn.symm)
  rw [arm_eval_Dict, zip_pairTrees keys values env pos hall hl, dictDisplay_pairs _ hne (by omega)]
  exact wpAny_bind (wpAny_standAt (wpAny_bind (wpAny_subDictH (knd := knd) (Q := fun d s' => wpAny (model prog w) A (pure (Value.ref d)) Q E s') hu (by omega)
    (wpAny_mono h (fun vs s₁ h₁ => by obtain ⟨ps, hc, hm, hq⟩ := h₁; exact ⟨ps, hc, hm, fun h' tk a b => wpAny_pure (hq h' tk a b)⟩) fun _ _ e => e))))
end
/-- {(k, l): v, ..}; the new dict stands empty while the pairs are made -/
def tDispT (trs : List (TE × TE)) : TE := fun σ H Q => ∀ p, H p = none → tPairs trs σ (upd H p (.dT [])) fun ps H2 => H2 p = some (.dT []) ∧ ∃ kvs : List (List Key × V), PsT H2 ps kvs ∧ kvs.length ≤ 15 ∧ Q (.ref p) (upd H2 p (.dT (mergeT [] kvs)))
theorem pe_dispT {X : Cx} {pos : Pos} {keys : List (Option Expr)} {values : List Expr} {trs : List (TE × TE)} (hu : X.A.units + 1 < cLine) (h : PPs X pos keys values trs) (hall : keys.all (·.isSome) = true) (hl : keys.length = values.length) (h0 : keys ≠ [])
    (h15 : keys.length ≤ 15) : PE X (.Dict keys values pos) (tDispT trs) := by
  refine ⟨fun pins s σ H Q I q => ?_⟩
  have hn := I.hok.fresh (Nat.le_refl s.heap.objs.size)
  have I1 := I.laid (a := s.heap.objs.size) (o := .dT []) (h' := s.heap.push { cls := .type "dict", data := .dict #[] }) (t' := s.toks) (fun _ _ q => Heap.get?_push_of_some _ q) (Nat.le_refl _) (dt_empty s.heap I.big)
  refine dict_walkT (knd := tupleKind (mixKind X.prog X.w)) (show X.A.units < cLine by omega) hall hl h0 h15 (thn (h.run pins _ σ _ _ I1 (q _ hn)) fun ws s2 ⟨ps, H2, I2, rel, e, kvs, ep, lk, q2⟩ => ?_)
  obtain ⟨rs, c, rk⟩ := carriesH_of I2 ep rel
  obtain ⟨z, hd, vs0, r0, dd⟩ := dt_of I2.hok e
  cases r0
  refine ⟨rs, c, dd, fun h' tk dd' hs => ⟨.ref s.heap.objs.size, _, ?_, rfl, q2⟩⟩
  have hz : (mergeT [] kvs).length ≤ sizeLine := by
    have h1 := length_mergeT kvs []
    rw [List.length_nil] at h1
    rw [sizeLine_eq]; omega
  obtain ⟨o, es, ep, hq, h2, h3, h4, _, h5⟩ := dd'
  exact d_write I2 (by rw [e]; exact True.intro) hs ⟨o, hq⟩ ⟨hz, hd, _, (KT_merge rk .nil).keeps (fun c ys ec => (by rw [upd_ne (ne_of ec e (fun z => nomatch z))]; exact ec)), o, es, ep, hq, h2, h3, h4, h5⟩
def PrT (K : PySem.W.Frag) (H : Hp) (ps : List Addr) (kvs : List (List Key × V)) : Prop := Paired (fun p kv => ∃ b, SqT K H p [.ref b, kv.2] ∧ H b = some (.tup (kv.1.map kV))) ps kvs
def rDictT (K : PySem.W.Frag) : List V → Hp → VK → Prop := fun xs H Q => ∃ (a : Addr) (ps : List Addr) (kvs : List (List Key × V)), xs = [.ref a] ∧ SqL K H a (ps.map V.ref) ∧ PrT K H ps kvs ∧ ∀ p, H p = none → Q (.ref p) (upd H p (.dT (mergeT [] kvs)))
section
variable {X : Cx}
theorem pairs_ofT {pins : List (Addr × Obj)} {σ : L2.St} {H : Hp} {s : Shared} (I : Inv X pins σ H s) : ∀ {ps : List Addr} {kvs : List (List Key × V)}, PrT X.K H ps kvs →
    ∃ prs : List (List Key × Addr × Value), L2.KT H kvs prs ∧ prs.length = ps.length ∧ ∀ (j : Nat) (q : List Key × Addr × Value), prs[j]? = some q → ∃ b : Addr, ps[j]? = some b ∧ s.heap.IsTuple b #[.ref q.2.1, q.2.2] ∧ (tupleKind (mixKind X.prog X.w)).is s.heap q.1 q.2.1
  | _, _, .nil => ⟨[], .nil, rfl, fun j q e => by simp at e⟩
  | _, _, .cons (a := p) (b := kv) h t => by
    obtain ⟨prs, r, hl, hp⟩ := pairs_ofT I t
    obtain ⟨b, h, hb⟩ := h
    obtain ⟨its, rv, ht, _⟩ := I.tuple h
    obtain ⟨u, y, ei, ru, ry⟩ := vals2 rv
    subst ei
    cases (show u = Value.ref b from ru)
    refine ⟨(kv.1, b, y) :: prs, .cons ⟨rfl, hb, ry⟩ r, by rw [List.length_cons, List.length_cons, hl], fun j q e => ?_⟩
    cases j with
    | zero =>
      have e' : (kv.1, b, y) = q := Option.some.inj e
      subst e'
      exact ⟨p, rfl, ht, key_of I.hok hb⟩
    | succ j =>
      obtain ⟨b, e1, e2, e3⟩ := hp j q (by simpa using e)
      exact ⟨b, by simpa using e1, e2, e3⟩
theorem call_dictT (hcalm : X.calm = true) (hu : X.A.units + 2 < cLine) : CallR X (.type "dict") (rDictT X.K) := by
  intro pins s σ H xs us Q I r q
  obtain ⟨a, ps, kvs, ex, hq, hp, q⟩ := q
  subst ex
  obtain ⟨u, eu, rx⟩ := vals1 r
  subst eu
  cases rx
  obtain ⟨its, rv, pl, hz⟩ := I.list hq
  have ei := refs_at rv
  subst ei
  rw [List.length_map] at hz
  obtain ⟨prs, rel, hl, hpr⟩ := pairs_ofT I hp
  obtain ⟨o, n, ho, hc, hd, hdat⟩ := pl
  have hlt : ∀ {b : Addr} {o : Obj}, s.heap.get? b = some o → b ≠ s.heap.objs.size := fun e => Nat.ne_of_lt (Heap.lt_size e)
  refine call_dict_pairsH (knd := tupleKind (mixKind X.prog X.w)) (ps := prs) (PairArg.list a (ps.map Value.ref).toArray (fun j => (ps[j]?).getD 0) (prs.map fun q => (.ref q.2.1, q.2.2))) (I.ok.hd hcalm) (show X.A.units + 2 < cLine from hu) ⟨⟨o, n, ho, hc, hd, hdat⟩, by simp [hl], fun j k v e => ?_⟩ ⟨by simp, fun i key v e => ?_⟩ (fun h' hk x hx => ?_) (by rw [List.length_map, hl]; exact hz) fun h' tk dd' k => ?_
  · rw [List.getElem?_map] at e
    obtain ⟨q, e1, e2⟩ := Option.map_eq_some_iff.mp e
    cases e2
    obtain ⟨b, g1, g2, _⟩ := hpr j q e1
    refine ⟨?_, ?_⟩
    · simp [g1]
    · show PairAt s.heap ((ps[j]?).getD 0) _ _
      rw [g1]; exact .inl g2
  · have e : (prs.map fun q => ((Value.ref q.2.1, q.2.2) : Value × Value))[i]? = some (key, v) := e
    rw [List.getElem?_map] at e
    obtain ⟨q, e1, e2⟩ := Option.map_eq_some_iff.mp e
    cases e2
    exact ⟨q.1, q.2.1, e1, rfl⟩
  · obtain ⟨j, hj⟩ := List.getElem?_of_mem hx
    obtain ⟨b, _, _, o2, its, n2, g1, g2⟩ := hpr j x hj
    exact ⟨o2, its, n2, hk _ _ (hlt g1) (by simp) g1, g2⟩
  · have hm : (s.heap.objs.size == sysModules) = false := beq_eq_false_iff_ne.mpr (Nat.ne_of_gt I.big)
    have hf := I.hok.fresh (Nat.le_refl s.heap.objs.size)
    have hlen : (mergeT [] kvs).length ≤ sizeLine := by
      refine Nat.le_trans (length_mergeT kvs []) ?_
      rw [List.length_nil, Nat.zero_add, rel.length, hl]
      exact hz
    obtain ⟨o, es, ep, hq, h2, h3, h4, _, h5⟩ := dd'
    refine ⟨.ref s.heap.objs.size, upd H s.heap.objs.size (.dT (mergeT [] kvs)), I.laid (t' := tk) (fun b o e => k b o (by simp) e) (Nat.le_refl _) ⟨hlen, hm, _, (KT_merge rel .nil).keeps (fun c ys ec => (by rw [upd_ne (fun z => by subst z; rw [hf] at ec; cases ec)]; exact ec)), o, es, ep, hq, h2, h3, h4, h5⟩, rfl, q _ hf⟩
theorem call_dictTZ {K : PySem.W.Frag} (hK : X.K = K) (hc : X.calm = true) (hu : X.A.units + 2 < cLine) : CallR X (.type "dict") (rDictT K) := by subst hK; exact call_dictT hc hu
end
section
variable {K : PySem.W.Frag} {ct : Ct} {H0 : Hp} {W : WX}
def kvConsK (mk mv : Mo AI) (r : Mo (List (D × D))) : Mo (List (D × D)) := fun s => (mV mk s).bind fun a s1 => (mK mv s1).bind fun b s2 => (r s2).bind fun l s3 => .ok ((a, b) :: l) s3
theorem ekv_consK {tk tv : TE} {tr : List (TE × TE)} {mk mv : Mo AI} {r : Mo (List (D × D))} (h1 : Ei K ct H0 W tk mk) (h2 : Ei K ct H0 W tv mv) (h3 : Ekv K ct H0 W tr r) : Ekv K ct H0 W ((tk, tv) :: tr) (kvConsK mk mv r) := fun S s σ H Q rel p =>
  ev_of h1 S s σ H _ rel (Pst.bind bKV p fun S1 s1 H1 x a st1 rel1 i1 p1 => ek_of h2 S1 s1 σ H1 _ rel1 (Pst.bind bKV p1 fun S2 s2 H2 y b st2 rel2 i2 p2 => h3 S2 s2 σ H2 _ rel2 (Pst.bind bKV p2 fun S3 s3 H3 z l st3 rel3 i3 p3 =>
    p3 S3 ((x, y) :: z) H3 .refl rel3 ⟨.cons (Rp.step (st2.trans st3) i1) i3.1, .cons (Rp.step st3 i2) i3.2⟩)))
def kvKeysT : List (D × D) → Option (List (List Key × D))
  | [] => some []
  | (k, d) :: l => (tkey k).bind fun k' => (kvKeysT l).map ((k', d) :: ·)
theorem kvKeysT_rp {S : Sh} {s : Stt} {σ : L2.St} {H : Hp} {n : Nat} (rel : Rel K ct H0 S s σ H) : ∀ {l : List (D × D)} {ps : List (V × V)} {kl : List (List Key × D)}, RpL K S.G S.α n (ps.map Prod.fst) (l.map Prod.fst) → RpL K S.G S.α n (ps.map Prod.snd) (l.map Prod.snd) → kvKeysT l = some kl → ∃ kvs : List (List Key × V), PsT H ps kvs ∧ RpK K S.G S.α n kvs kl ∧ kvs.length = kl.length
  | [], [], _, _, _, e => by cases e; exact ⟨[], .nil, .nil, rfl⟩
  | [], _ :: _, _, h, _, _ => by cases h
  | _ :: _, [], _, h, _, _ => by cases h
  | (k, d) :: l, (x, y) :: ps, kl, .cons h1 h2, .cons g1 g2, e => by
    obtain ⟨k', e1, e2⟩ := Option.bind_eq_some_iff.mp (show (tkey k).bind (fun k' => (kvKeysT l).map ((k', d) :: ·)) = some kl from e)
    obtain ⟨kl', e3, rfl⟩ := Option.map_eq_some_iff.mp e2
    obtain ⟨kvs, pk, r, hl⟩ := kvKeysT_rp rel h2 g2 e3
    obtain ⟨b, e4, e5⟩ := tkey_rp rel h1 e1
    exact ⟨(k', y) :: kvs, .cons ⟨b, e4, e5, rfl⟩ pk, .cons g1 r, by rw [List.length_cons, List.length_cons, hl]⟩
def mgT (l : List (List Key × D)) : List (List Key × D) := l.foldl (fun a p => pu a p.1 p.2) []
theorem mgT_ok {G : Hp} {α : Nat → Addr} {n : Nat} : ∀ {kvs : List (List Key × V)} {l : List (List Key × D)} {acc : List (List Key × V)} {a : List (List Key × D)}, RpK K G α n kvs l → RpK K G α n acc a → RpK K G α n (mergeT acc kvs) (l.foldl (fun a p => pu a p.1 p.2) a)
  | _, _, _, _, .nil, h => h
  | _, _, acc, a, .cons (k := k) (v := v) (d := d) (kvs := kvs) (l := l) x r, h => by
    show RpK K G α n (mergeT (putK acc k v) kvs) (l.foldl (fun a p => pu a p.1 p.2) (pu a k d))
    exact mgT_ok r (h.put x)
def mDispT (r : Mo (List (D × D))) : Mo AI := fun s => (r s).bind fun l s1 => match kvKeysT l with
  | some kl => if kl.length ≤ 15 then .ok (.new (.dT (mgT kl))) s1 else .no
  | none => .no
theorem ei_dispT {trs : List (TE × TE)} {r : Mo (List (D × D))} (h : Ekv K ct H0 W trs r) : Ei K ct H0 W (tDispT trs) (mDispT r) := fun S s σ H Q rel p pa hp => by
  have hlab := rel.labN hp
  have hg := rel.gN hp
  have st0 : Stp S s.M.length H S s.M.length (upd H pa (.dT [])) := Stp.new rel hp
  refine h S s σ (upd H pa (.dT [])) _ (rel.new hp) ?_
  unfold mDispT at p
  cases q : r s with
  | no => rw [q] at p; exact p
  | er x s' =>
    rw [q] at p
    exact fun S' H' dd st r' xo => p S' H' dd (st0.trans st) r' xo
  | ok l s1 =>
    rw [q] at p
    have p : Pst K ct H0 (RI K ct) W S s σ H Q (match kvKeysT l with | some kl => if kl.length ≤ 15 then .ok (.new (.dT (mgT kl))) s1 else .no | none => .no) := p
    intro S1 ps H1 st1 rel1 i1
    obtain ⟨h1, h2⟩ := st1.fr pa _ upd_same hlab
    have hg1 : S1.G pa = none := by
      cases q2 : S1.G pa with
      | none => rfl
      | some u =>
        rcases st1.gn pa u q2 with z | z | ⟨lb, z⟩ | ⟨us, z⟩
        · rw [hg] at z; cases z
        · rw [upd_same] at z; cases z
        · rw [hlab] at z; cases z
        · rw [upd_same] at z; cases z
    refine ⟨h1, ?_⟩
    split at p
    · rename_i kl e
      obtain ⟨kvs, e1, e2, e3⟩ := kvKeysT_rp rel1 i1.1 i1.2 e
      split at p
      · rename_i hz
        refine ⟨kvs, e1, by omega, ?_⟩
        refine p S1 (.ref pa) _ ((st0.trans st1).updNew hp) (rel1.updU h2 hg1) ⟨pa, rfl, hp, h2, hg1, rfl, mergeT [] kvs, upd_same, ?_⟩
        have := mgT_ok e2 (.nil : RpK K S1.G S1.α s1.M.length [] [])
        exact ⟨this.keys, this.vals⟩
      · exact False.elim p
    · exact False.elim p
def tPair : D → Option (List Key × D)
  | .tup [k, x] => (tkey k).map (·, x)
  | _ => none
def tPairsD : List D → Option (List (List Key × D))
  | [] => some []
  | d :: l => (tPair d).bind fun p => (tPairsD l).map (p :: ·)
theorem tPairs_ok {S : Sh} {s : Stt} {σ : L2.St} {H : Hp} {n : Nat} (rel : Rel K ct H0 S s σ H) : ∀ {ds : List D} {vs : List V} {l : List (List Key × D)}, RpL K S.G S.α n vs ds → tPairsD ds = some l → ∃ ps kvs, vs = ps.map V.ref ∧ PrT K H ps kvs ∧ RpK K S.G S.α n kvs l
  | [], _, _, .nil, e => by cases e; exact ⟨[], [], rfl, .nil, .nil⟩
  | d :: ds, _, l, .cons h r, e => by
    obtain ⟨kd, e1, e2⟩ := Option.bind_eq_some_iff.mp (show ((tPair d).bind fun p => (tPairsD ds).map (p :: ·)) = some l from e)
    obtain ⟨l', e3, rfl⟩ := Option.map_eq_some_iff.mp e2
    obtain ⟨ps, kvs, rfl, h2, h3⟩ := tPairs_ok rel r e3
    unfold tPair at e1
    split at e1
    · rename_i k x
      obtain ⟨kk, e4, rfl⟩ := Option.map_eq_some_iff.mp e1
      cases h with
      | tup g1 g2 =>
        cases g2 with
        | cons g3 g4 => cases g4 with
          | cons g5 g6 =>
            cases g6
            obtain ⟨b, rfl, hb⟩ := tkey_rp rel g3 e4
            exact ⟨_ :: ps, (kk, _) :: kvs, rfl, .cons ⟨b, .of (uP' (rel.sub _ _ g1)), hb⟩ h2, .cons g5 h3⟩
    · cases e1
def fDictT (s : Stt) (as : List AI) : Ro AI := match as with
  | [a] => match (viewL s a).bind tPairsD with
    | some l => .ok (.new (.dT (mgT l))) s
    | none => .no
  | _ => .no
end
section
variable {K : PySem.W.Frag} {ct : Ct} {H0 : Hp}
theorem jb_dictT : JB K ct H0 (rDictT K) fDictT := fun W S s σ H Hs vs as Q rel ia p => by
  unfold fDictT at p
  split at p
  · rename_i a
    obtain ⟨v, rfl, i⟩ := as1 ia
    split at p
    · rename_i l e
      obtain ⟨l0, e1, e2⟩ := Option.bind_eq_some_iff.mp e
      obtain ⟨q, us, rfl, k1, k2⟩ := viewL_ok rel i e1
      obtain ⟨ps, kvs, rfl, h2, h3⟩ := tPairs_ok rel k2 e2
      refine ⟨q, ps, kvs, rfl, k1, h2, fun r hr => ?_⟩
      have h4 := mgT_ok h3 (.nil (κ := List Key))
      exact p.newC rel hr rfl ⟨_, upd_same, h4.keys, h4.vals⟩
    · exact False.elim p
  · exact False.elim p
def fLenT (s : Stt) (as : List AI) : Ro AI := match as with
  | [a] => match getC s a with
    | some (.dT l) => .ok (.val (.int (l.length : Int))) s
    | _ => .no
  | _ => .no
theorem jb_lenT : JB K ct H0 rLenT fLenT := fun W S s σ H Hs vs as Q rel ia p => by
  unfold fLenT at p
  split at p
  · rename_i a
    obtain ⟨v, rfl, i⟩ := as1 ia
    split at p
    · rename_i l e
      obtain ⟨q, rfl, ⟨us, g1, g3, g2⟩, _⟩ := mut_ok rel i e
      refine ⟨q, us, rfl, g1, ?_⟩
      rw [(RpK.of g3 g2).len]
      exact p.val rel (.int _)
    · exact False.elim p
  · exact False.elim p
def fIsiT (s : Stt) (as : List AI) : Ro AI := match as with
  | [a, .val (.ty m)] => match getC s a with
    | some (.dT _) => (match kitB "dict" m with
      | some b => .ok (.val (.bl b)) s
      | none => .no)
    | _ => .no
  | _ => .no
theorem jb_isiT : JB K ct H0 (rIsi K) fIsiT := fun W S s σ H Hs vs as Q rel ia p => by
  unfold fIsiT at p
  split at p
  · rename_i a m
    obtain ⟨v, w, rfl, h1, h2⟩ := as2 ia
    split at p
    · rename_i l e
      split at p
      · rename_i b e2
        obtain ⟨q, rfl, ⟨us, g1, g3, g2⟩, _⟩ := mut_ok rel h1 e
        have h2' : Rp K S.G S.α s.M.length w (.ty m) := h2
        cases h2'
        exact z_isi (.base (.dT g1)) (kit_ty e2) (p.val rel (.bl _))
      · exact False.elim p
    · exact False.elim p
  · exact False.elim p
end
section
variable {s : Stt} {X : Exn → Stt → Prop} {QA : AI → Stt → Prop}
theorem w_lenDT {a : AI} {l : List (List Key × D)} (e : getC s a = some (.dT l)) (h : QA (.val (.int (l.length : Int))) s) : Wo QA X (fLenT s [a]) := by
  unfold fLenT; simp only []; rw [e]; exact h
theorem w_isiDT {a : AI} {m : String} {b : Bool} {l : List (List Key × D)} (e : getC s a = some (.dT l)) (e2 : kitB "dict" m = some b) (h : QA (.val (.bl b)) s) : Wo QA X (fIsiT s [a, .val (.ty m)]) := by
  unfold fIsiT; simp only []; rw [e]; simp only []; rw [e2]; exact h
theorem w_dictT {a : AI} {l : List D} {kl : List (List Key × D)} (e : viewL s a = some l) (e2 : tPairsD l = some kl) (h : QA (.new (.dT (mgT kl))) s) : Wo QA X (fDictT s [a]) := by
  unfold fDictT; simp only []; rw [e, Option.bind_some, e2]; exact h
theorem w_kvConsK {QK : List (D × D) → Stt → Prop} {mk mv : Mo AI} {r : Mo (List (D × D))} (h : Wo (fun a s1 => Wo (fun b s2 => Wo (fun l s3 => QK ((a, b) :: l) s3) X (r s2)) X (mK mv s1)) X (mV mk s)) : Wo QK X (kvConsK mk mv r s) :=
  w_bind (w_mono h fun a s1 h => w_bind (w_mono h fun b s2 h => w_bind (w_mono h fun l s3 h => h)))
theorem w_dispT {r : Mo (List (D × D))} (h : Wo (fun l s1 => ∃ kl, kvKeysT l = some kl ∧ kl.length ≤ 15 ∧ QA (.new (.dT (mgT kl))) s1) X (r s)) : Wo QA X (mDispT r s) := by
  refine w_bind (w_mono h fun l s1 h => ?_)
  obtain ⟨kl, e, c, h⟩ := h
  rw [e]
  show Wo QA X (if _ then _ else _)
  rw [if_pos c]; exact h
end
end Y
namespace K17
open PySem L2 Z Y
def top (i : Nat) : Stmt := PySem.Challenge.pw_tornshelf_k17_beginnings.main.body.getD i (.Pass ⟨0, 0, 0, 0⟩)
abbrev s_is_whole : Stmt := (top 6)
theorem sc_is_whole : FnScope ["thing"] ["thing"] (defScope s_is_whole) := ⟨rfl, rfl, rfl, by decide +kernel, rfl, by decide +kernel, by decide +kernel⟩
abbrev s_is_list_of : Stmt := (top 7)
theorem sc_is_list_of : FnScope ["thing", "low", "high", "number"] ["thing", "low", "high"] (defScope s_is_list_of) := ⟨rfl, rfl, rfl, by decide +kernel, rfl, by decide +kernel, by decide +kernel⟩
abbrev s_room_of : Stmt := (top 8)
theorem sc_room_of : FnScope ["lengths", "length"] ["lengths"] (defScope s_room_of) := ⟨rfl, rfl, rfl, by decide +kernel, rfl, by decide +kernel, by decide +kernel⟩
abbrev s_fits : Stmt := (top 9)
theorem sc_fits : FnScope ["lengths"] ["lengths"] (defScope s_fits) := ⟨rfl, rfl, rfl, by decide +kernel, rfl, by decide +kernel, by decide +kernel⟩
abbrev s_check_lengths : Stmt := (top 10)
theorem sc_check_lengths : FnScope ["lengths"] ["lengths"] (defScope s_check_lengths) := ⟨rfl, rfl, rfl, by decide +kernel, rfl, by decide +kernel, by decide +kernel⟩
abbrev s_words_of : Stmt := (top 12)
theorem sc_words_of : FnScope ["lengths", "found", "number", "last", "length", "symbol"] ["lengths"] (defScope s_words_of) := ⟨rfl, rfl, rfl, by decide +kernel, rfl, by decide +kernel, by decide +kernel⟩
abbrev s_beginnings_of : Stmt := (top 13)
theorem sc_beginnings_of : FnScope ["lengths", "found", "symbol", "word", "many", "beginning", "symbols"] ["lengths"] (defScope s_beginnings_of) := ⟨rfl, rfl, rfl, by decide +kernel, rfl, by decide +kernel, by decide +kernel⟩
abbrev s_l_cell_at : Stmt := (top 15)
theorem sc_l_cell_at : FnScope ["_law_script", "_law_k"] ["_law_script", "_law_k"] (defScope s_l_cell_at) := ⟨rfl, rfl, rfl, by decide +kernel, rfl, by decide +kernel, by decide +kernel⟩
abbrev s_l_mixed : Stmt := (top 16)
theorem sc_l_mixed : FnScope ["_law_cell", "_law_k", "_law_number"] ["_law_cell", "_law_k"] (defScope s_l_mixed) := ⟨rfl, rfl, rfl, by decide +kernel, rfl, by decide +kernel, by decide +kernel⟩
abbrev s_l_lengths : Stmt := (top 17)
theorem sc_l_lengths : FnScope ["_law_head", "_law_cell", "_law_number", "_law_size", "_law_way", "_law_found", "_law_room", "_law_k", "_law_length"] ["_law_head", "_law_cell"] (defScope s_l_lengths) := ⟨rfl, rfl, rfl, by decide +kernel, rfl, by decide +kernel, by decide +kernel⟩
abbrev s_l_bits : Stmt := (top 18)
theorem sc_l_bits : FnScope ["_law_word", "_law_k"] ["_law_word"] (defScope s_l_bits) := ⟨rfl, rfl, rfl, by decide +kernel, rfl, by decide +kernel, by decide +kernel⟩
abbrev s_l_due : Stmt := (top 19)
theorem sc_l_due : FnScope ["_law_words", "_law_found", "_law_symbol", "_law_text", "_law_many"] ["_law_words"] (defScope s_l_due) := ⟨rfl, rfl, rfl, by decide +kernel, rfl, by decide +kernel, by decide +kernel⟩
abbrev s_law : Stmt := (top 20)
theorem sc_law : FnScope ["_law_script", "_law_k", "_law_lengths_here", "_law_due_here", "_law_handed", "_law_turn", "_law_found", "_law_beginning", "_law_text"] ["_law_script"] (defScope s_law) := ⟨rfl, rfl, rfl, by decide +kernel, rfl, by decide +kernel, by decide +kernel⟩
/-- what the top has written -/
structure Tx (K : PySem.W.Frag) (mg : Str → Option Value) where
  a_is_whole : Addr
  d_is_whole : FuncData
  F_is_whole : Fun K "is_whole" "is_whole" s_is_whole a_is_whole d_is_whole
  b_is_whole : Binds K d_is_whole ["thing"] []
  g_is_whole : mg "is_whole" = some (.ref a_is_whole)
  a_is_list_of : Addr
  d_is_list_of : FuncData
  F_is_list_of : Fun K "is_list_of" "is_list_of" s_is_list_of a_is_list_of d_is_list_of
  b_is_list_of : Binds K d_is_list_of ["thing", "low", "high"] []
  g_is_list_of : mg "is_list_of" = some (.ref a_is_list_of)
  a_room_of : Addr
  d_room_of : FuncData
  F_room_of : Fun K "room_of" "room_of" s_room_of a_room_of d_room_of
  b_room_of : Binds K d_room_of ["lengths"] []
  g_room_of : mg "room_of" = some (.ref a_room_of)
  a_fits : Addr
  d_fits : FuncData
  F_fits : Fun K "fits" "fits" s_fits a_fits d_fits
  b_fits : Binds K d_fits ["lengths"] []
  g_fits : mg "fits" = some (.ref a_fits)
  a_check_lengths : Addr
  d_check_lengths : FuncData
  F_check_lengths : Fun K "check_lengths" "check_lengths" s_check_lengths a_check_lengths d_check_lengths
  b_check_lengths : Binds K d_check_lengths ["lengths"] []
  g_check_lengths : mg "check_lengths" = some (.ref a_check_lengths)
  a_words_of : Addr
  d_words_of : FuncData
  F_words_of : Fun K "words_of" "words_of" s_words_of a_words_of d_words_of
  b_words_of : Binds K d_words_of ["lengths"] []
  g_words_of : mg "words_of" = some (.ref a_words_of)
  a_beginnings_of : Addr
  d_beginnings_of : FuncData
  F_beginnings_of : Fun K "beginnings_of" "beginnings_of" s_beginnings_of a_beginnings_of d_beginnings_of
  b_beginnings_of : Binds K d_beginnings_of ["lengths"] []
  g_beginnings_of : mg "beginnings_of" = some (.ref a_beginnings_of)
  a_l_cell_at : Addr
  d_l_cell_at : FuncData
  F_l_cell_at : Fun K "_law_cell_at" "_law_cell_at" s_l_cell_at a_l_cell_at d_l_cell_at
  b_l_cell_at : Binds K d_l_cell_at ["_law_script", "_law_k"] []
  g_l_cell_at : mg "_law_cell_at" = some (.ref a_l_cell_at)
  a_l_mixed : Addr
  d_l_mixed : FuncData
  F_l_mixed : Fun K "_law_mixed" "_law_mixed" s_l_mixed a_l_mixed d_l_mixed
  b_l_mixed : Binds K d_l_mixed ["_law_cell", "_law_k"] []
  g_l_mixed : mg "_law_mixed" = some (.ref a_l_mixed)
  a_l_lengths : Addr
  d_l_lengths : FuncData
  F_l_lengths : Fun K "_law_lengths" "_law_lengths" s_l_lengths a_l_lengths d_l_lengths
  b_l_lengths : Binds K d_l_lengths ["_law_head", "_law_cell"] []
  g_l_lengths : mg "_law_lengths" = some (.ref a_l_lengths)
  a_l_bits : Addr
  d_l_bits : FuncData
  F_l_bits : Fun K "_law_bits" "_law_bits" s_l_bits a_l_bits d_l_bits
  b_l_bits : Binds K d_l_bits ["_law_word"] []
  g_l_bits : mg "_law_bits" = some (.ref a_l_bits)
  a_l_due : Addr
  d_l_due : FuncData
  F_l_due : Fun K "_law_due" "_law_due" s_l_due a_l_due d_l_due
  b_l_due : Binds K d_l_due ["_law_words"] []
  g_l_due : mg "_law_due" = some (.ref a_l_due)
  a_law : Addr
  d_law : FuncData
  F_law : Fun K "law" "law" s_law a_law d_law
  b_law : Binds K d_law ["_law_script"] []
  g_law : mg "law" = some (.ref a_law)
  C_BadTable : Addr
  g_BadTable : mg "BadTable" = some (.ref C_BadTable)
  k_BadTable : PySem.W.keepIn K (.ref C_BadTable) = true
  b_BadTable : PySem.W.subIn K (.ref C_BadTable) (.type "BaseException") = some true
  t_BadTable : PySem.W.typeIn K (.ref C_BadTable) = some (.type "type")
  i_BadTable : PySem.W.isClsIn K C_BadTable = true
  x_BadTable : PySem.W.excIn K C_BadTable [.type "ValueError", .type "Exception", .type "BaseException", .type "object"] "ValueError.__new__" = true
  gb_BadTable : PySem.W.findIn K (.ref C_BadTable) "__getattribute__" = some (some (.builtin "BaseException.__getattribute__"))
  gg_BadTable : PySem.W.findIn K (.ref C_BadTable) "__getattr__" = some none
  hd_BadTable : PySem.W.hasDictIn K C_BadTable = true
  ca_BadTable : PySem.W.findIn K (.ref C_BadTable) "__class__" = some (some (.builtin "object.__class__"))
  cn_BadTable : PySem.W.specialIn K (.builtin "object.__class__") "__get__" = some (some (.builtin "getset_descriptor.__get__"))
  ct_BadTable : PySem.W.takesIn K (.builtin "object.__class__") = some true
  cm_BadTable : PySem.W.mroIn K C_BadTable (.type "object") = some true
  xc_BadTable : ExcC K C_BadTable
  z_all : mg "all" = none
  z_bool : mg "bool" = none
  z_dict : mg "dict" = none
  z_enumerate : mg "enumerate" = none
  z_int : mg "int" = none
  z_isinstance : mg "isinstance" = none
  z_len : mg "len" = none
  z_list : mg "list" = none
  z_max : mg "max" = none
  z_min : mg "min" = none
  z_range : mg "range" = none
  z_sorted : mg "sorted" = none
  z_str : mg "str" = none
  z_sum : mg "sum" = none
  z_tuple : mg "tuple" = none
  u_MOST_SYMBOLS : Value
  m_MOST_SYMBOLS : mg "MOST_SYMBOLS" = some u_MOST_SYMBOLS
  r_MOST_SYMBOLS : RelV (.int 64) u_MOST_SYMBOLS
  u_LONGEST : Value
  m_LONGEST : mg "LONGEST" = some u_LONGEST
  r_LONGEST : RelV (.int 15) u_LONGEST
def ctT {K : PySem.W.Frag} {mg : Str → Option Value} (T : Tx K mg) : Ct := ⟨fun n => match n with
  | 1 => T.C_BadTable
  | _ => 0, none, none⟩
def zHfnZ : He.FnD := ⟨("is_whole", none), "is_whole", "is_whole", defArgs s_is_whole, defBody s_is_whole, defScope s_is_whole⟩
def zHfn0 : List He.FnD := [⟨("is_whole", none), "is_whole", "is_whole", defArgs s_is_whole, defBody s_is_whole, defScope s_is_whole⟩,
  ⟨("is_list_of", none), "is_list_of", "is_list_of", defArgs s_is_list_of, defBody s_is_list_of, defScope s_is_list_of⟩,
  ⟨("room_of", none), "room_of", "room_of", defArgs s_room_of, defBody s_room_of, defScope s_room_of⟩,
  ⟨("fits", none), "fits", "fits", defArgs s_fits, defBody s_fits, defScope s_fits⟩,
  ⟨("check_lengths", none), "check_lengths", "check_lengths", defArgs s_check_lengths, defBody s_check_lengths, defScope s_check_lengths⟩,
  ⟨("words_of", none), "words_of", "words_of", defArgs s_words_of, defBody s_words_of, defScope s_words_of⟩,
  ⟨("beginnings_of", none), "beginnings_of", "beginnings_of", defArgs s_beginnings_of, defBody s_beginnings_of, defScope s_beginnings_of⟩,
  ⟨("_law_cell_at", none), "_law_cell_at", "_law_cell_at", defArgs s_l_cell_at, defBody s_l_cell_at, defScope s_l_cell_at⟩,
  ⟨("_law_mixed", none), "_law_mixed", "_law_mixed", defArgs s_l_mixed, defBody s_l_mixed, defScope s_l_mixed⟩,
  ⟨("_law_lengths", none), "_law_lengths", "_law_lengths", defArgs s_l_lengths, defBody s_l_lengths, defScope s_l_lengths⟩,
  ⟨("_law_bits", none), "_law_bits", "_law_bits", defArgs s_l_bits, defBody s_l_bits, defScope s_l_bits⟩,
  ⟨("_law_due", none), "_law_due", "_law_due", defArgs s_l_due, defBody s_l_due, defScope s_l_due⟩,
  ⟨("law", none), "law", "law", defArgs s_law, defBody s_law, defScope s_law⟩]
def zHfn : List He.FnD := zHfn0
def zHfd0 : List He.DefD := []
def zHfd : List He.DefD := zHfd0
def zHx0 : List (PySem.W.Frag → Bool) := [fun K => Hd.relAt K "MOST_SYMBOLS" (V.int 64),
  fun K => Hd.relAt K "LONGEST" (V.int 15),
  fun K => decide (PySem.W.nsIn K mainGlobals "is_whole" = some (some (.ref (He.fAd K ("is_whole", none))))),
  fun K => PySem.W.keepIn K (.ref (He.fAd K ("is_whole", none))),
  fun K => decide (PySem.W.nsIn K mainGlobals "is_list_of" = some (some (.ref (He.fAd K ("is_list_of", none))))),
  fun K => PySem.W.keepIn K (.ref (He.fAd K ("is_list_of", none))),
  fun K => decide (PySem.W.nsIn K mainGlobals "room_of" = some (some (.ref (He.fAd K ("room_of", none))))),
  fun K => PySem.W.keepIn K (.ref (He.fAd K ("room_of", none))),
  fun K => decide (PySem.W.nsIn K mainGlobals "fits" = some (some (.ref (He.fAd K ("fits", none))))),
  fun K => PySem.W.keepIn K (.ref (He.fAd K ("fits", none))),
  fun K => decide (PySem.W.nsIn K mainGlobals "check_lengths" = some (some (.ref (He.fAd K ("check_lengths", none))))),
  fun K => PySem.W.keepIn K (.ref (He.fAd K ("check_lengths", none))),
  fun K => decide (PySem.W.nsIn K mainGlobals "words_of" = some (some (.ref (He.fAd K ("words_of", none))))),
  fun K => PySem.W.keepIn K (.ref (He.fAd K ("words_of", none))),
  fun K => decide (PySem.W.nsIn K mainGlobals "beginnings_of" = some (some (.ref (He.fAd K ("beginnings_of", none))))),
  fun K => PySem.W.keepIn K (.ref (He.fAd K ("beginnings_of", none))),
  fun K => decide (PySem.W.nsIn K mainGlobals "_law_cell_at" = some (some (.ref (He.fAd K ("_law_cell_at", none))))),
  fun K => PySem.W.keepIn K (.ref (He.fAd K ("_law_cell_at", none))),
  fun K => decide (PySem.W.nsIn K mainGlobals "_law_mixed" = some (some (.ref (He.fAd K ("_law_mixed", none))))),
  fun K => PySem.W.keepIn K (.ref (He.fAd K ("_law_mixed", none))),
  fun K => decide (PySem.W.nsIn K mainGlobals "_law_lengths" = some (some (.ref (He.fAd K ("_law_lengths", none))))),
  fun K => PySem.W.keepIn K (.ref (He.fAd K ("_law_lengths", none))),
  fun K => decide (PySem.W.nsIn K mainGlobals "_law_bits" = some (some (.ref (He.fAd K ("_law_bits", none))))),
  fun K => PySem.W.keepIn K (.ref (He.fAd K ("_law_bits", none))),
  fun K => decide (PySem.W.nsIn K mainGlobals "_law_due" = some (some (.ref (He.fAd K ("_law_due", none))))),
  fun K => PySem.W.keepIn K (.ref (He.fAd K ("_law_due", none))),
  fun K => decide (PySem.W.nsIn K mainGlobals "law" = some (some (.ref (He.fAd K ("law", none))))),
  fun K => PySem.W.keepIn K (.ref (He.fAd K ("law", none))),
  fun K => decide (PySem.W.nsIn K mainGlobals "BadTable" = some (some (.ref (He.ga K "BadTable")))),
  fun K => PySem.W.keepIn K (.ref (He.ga K "BadTable")),
  fun K => decide (PySem.W.subIn K (.ref (He.ga K "BadTable")) (.type "BaseException") = some true),
  fun K => decide (PySem.W.typeIn K (.ref (He.ga K "BadTable")) = some (.type "type")),
  fun K => PySem.W.isClsIn K (He.ga K "BadTable"),
  fun K => PySem.W.excIn K (He.ga K "BadTable") [.type "ValueError", .type "Exception", .type "BaseException", .type "object"] "ValueError.__new__",
  fun K => decide (PySem.W.findIn K (.ref (He.ga K "BadTable")) "__getattribute__" = some (some (.builtin "BaseException.__getattribute__"))),
  fun K => decide (PySem.W.findIn K (.ref (He.ga K "BadTable")) "__getattr__" = some none),
  fun K => PySem.W.hasDictIn K (He.ga K "BadTable"),
  fun K => decide (PySem.W.findIn K (.ref (He.ga K "BadTable")) "__class__" = some (some (.builtin "object.__class__"))),
  fun K => decide (PySem.W.specialIn K (.builtin "object.__class__") "__get__" = some (some (.builtin "getset_descriptor.__get__"))),
  fun K => decide (PySem.W.takesIn K (.builtin "object.__class__") = some true)]
def zHx1 : List (PySem.W.Frag → Bool) := [fun K => decide (PySem.W.mroIn K (He.ga K "BadTable") (.type "object") = some true),
  fun K => decide (PySem.W.nsIn K mainGlobals "all" = some none),
  fun K => decide (PySem.W.nsIn K mainGlobals "bool" = some none),
  fun K => decide (PySem.W.nsIn K mainGlobals "dict" = some none),
  fun K => decide (PySem.W.nsIn K mainGlobals "enumerate" = some none),
  fun K => decide (PySem.W.nsIn K mainGlobals "int" = some none),
  fun K => decide (PySem.W.nsIn K mainGlobals "isinstance" = some none),
  fun K => decide (PySem.W.nsIn K mainGlobals "len" = some none),
  fun K => decide (PySem.W.nsIn K mainGlobals "list" = some none),
  fun K => decide (PySem.W.nsIn K mainGlobals "max" = some none),
  fun K => decide (PySem.W.nsIn K mainGlobals "min" = some none),
  fun K => decide (PySem.W.nsIn K mainGlobals "range" = some none),
  fun K => decide (PySem.W.nsIn K mainGlobals "sorted" = some none),
  fun K => decide (PySem.W.nsIn K mainGlobals "str" = some none),
  fun K => decide (PySem.W.nsIn K mainGlobals "sum" = some none),
  fun K => decide (PySem.W.nsIn K mainGlobals "tuple" = some none)]
def zHx : Hd.Ex := [zHx0, zHx1]
def zHl0 : List Str := [(Str.ofString "ShelfError"),
  (Str.ofString "BadTable"),
  (Str.ofString "MOST_SYMBOLS"),
  (Str.ofString "LONGEST"),
  (Str.ofString "is_whole"),
  (Str.ofString "is_list_of"),
  (Str.ofString "room_of"),
  (Str.ofString "fits"),
  (Str.ofString "check_lengths"),
  (Str.ofString "words_of"),
  (Str.ofString "beginnings_of"),
  (Str.ofString "_law_cell_at"),
  (Str.ofString "_law_mixed"),
  (Str.ofString "_law_lengths"),
  (Str.ofString "_law_bits"),
  (Str.ofString "_law_due")]
def zHl : List Str := zHl0
abbrev zHr : PySem.W.OpenRow := PySem.W.OpenLaw.row PySem.Challenge.rw_tornshelf_k17_beginnings
abbrev zHk : PySem.W.Hook := Hd.hook 4 zHfn zHfd zHx
def zHob (s : PySem.W.SharedT) : Hd.Al := Hd.obsG 4 zHfn zHfd zHx (HandSHeadRun.getT s)
theorem zHob_eq (s : PySem.W.SharedT) : zHob s = zHk.obs s.abs := Hd.obsG_eq (HandSHeadRun.getT_eq s)
set_option maxHeartbeats 0 in
theorem zHrun (w : World) : HandSHeadRun.RunEq zHr (PySem.W.view zHr.prog [20]) zHk zHob 20000 zHl w := by
  intro os
  kernel_rfl
def spLaw (K : PySem.W.Frag) : Sp := fun vs H Q _ => ∃ (a : Addr) (ns : List Int), vs = [.ref a] ∧ SqL K H a (ns.map V.int) ∧ ns.length ≤ 63 ∧ ND H ∧ ∀ H', Q (.bl true) H'
theorem all_mk {l : PySem.W.OpenLaw} {w : World} {K : PySem.W.Frag} {h : Heap} {mg : Str → Option Value} {fa f0 f1 f2 f3 f4 f5 f6 f7 f8 f9 f10 f11 f12 C_BadTable : Addr} (hlaw : ∀ {P : Program} {w : World} {K : PySem.W.Frag} {mg : Str → Option Value} {base : Heap} (T : Tx K mg), FnOk P w K mg base CX0 6 T.a_law T.d_law ["_law_script"] (spLaw K)) (X : K.In h) (G : h.Ns mainGlobals mg) (hfa : mg "law" = some (.ref fa))
    {od0 an0 : Option Addr} {sl0 : Array (Option Value)} {oc0 kV0 dc0 pm0 cd0 ct0 : Value}
    {od1 an1 : Option Addr} {sl1 : Array (Option Value)} {oc1 kV1 dc1 pm1 cd1 ct1 : Value}
    {od2 an2 : Option Addr} {sl2 : Array (Option Value)} {oc2 kV2 dc2 pm2 cd2 ct2 : Value}
    {od3 an3 : Option Addr} {sl3 : Array (Option Value)} {oc3 kV3 dc3 pm3 cd3 ct3 : Value}
    {od4 an4 : Option Addr} {sl4 : Array (Option Value)} {oc4 kV4 dc4 pm4 cd4 ct4 : Value}
    {od5 an5 : Option Addr} {sl5 : Array (Option Value)} {oc5 kV5 dc5 pm5 cd5 ct5 : Value}
    {od6 an6 : Option Addr} {sl6 : Array (Option Value)} {oc6 kV6 dc6 pm6 cd6 ct6 : Value}
    {od7 an7 : Option Addr} {sl7 : Array (Option Value)} {oc7 kV7 dc7 pm7 cd7 ct7 : Value}
    {od8 an8 : Option Addr} {sl8 : Array (Option Value)} {oc8 kV8 dc8 pm8 cd8 ct8 : Value}
    {od9 an9 : Option Addr} {sl9 : Array (Option Value)} {oc9 kV9 dc9 pm9 cd9 ct9 : Value}
    {od10 an10 : Option Addr} {sl10 : Array (Option Value)} {oc10 kV10 dc10 pm10 cd10 ct10 : Value}
    {od11 an11 : Option Addr} {sl11 : Array (Option Value)} {oc11 kV11 dc11 pm11 cd11 ct11 : Value}
    {od12 an12 : Option Addr} {sl12 : Array (Option Value)} {oc12 kV12 dc12 pm12 cd12 ct12 : Value}
    {u_MOST_SYMBOLS : Value}
    {u_LONGEST : Value}
    (a0 : PySem.W.nsIn K mainGlobals "is_whole" = some (some (.ref f0)))
    (l0 : K.lookup f0 = some ⟨oc0, od0, .func (PySem.W.fnOf "is_whole" "is_whole" (defArgs s_is_whole) (defBody s_is_whole) (defScope s_is_whole) .none kV0 dc0 pm0 an0 cd0 ct0), sl0⟩)
    (c0 : PySem.W.codeIn K cd0 "is_whole" = true) (k0 : PySem.W.keepIn K (.ref f0) = true)
    (a1 : PySem.W.nsIn K mainGlobals "is_list_of" = some (some (.ref f1)))
    (l1 : K.lookup f1 = some ⟨oc1, od1, .func (PySem.W.fnOf "is_list_of" "is_list_of" (defArgs s_is_list_of) (defBody s_is_list_of) (defScope s_is_list_of) .none kV1 dc1 pm1 an1 cd1 ct1), sl1⟩)
    (c1 : PySem.W.codeIn K cd1 "is_list_of" = true) (k1 : PySem.W.keepIn K (.ref f1) = true)
    (a2 : PySem.W.nsIn K mainGlobals "room_of" = some (some (.ref f2)))
    (l2 : K.lookup f2 = some ⟨oc2, od2, .func (PySem.W.fnOf "room_of" "room_of" (defArgs s_room_of) (defBody s_room_of) (defScope s_room_of) .none kV2 dc2 pm2 an2 cd2 ct2), sl2⟩)
    (c2 : PySem.W.codeIn K cd2 "room_of" = true) (k2 : PySem.W.keepIn K (.ref f2) = true)
    (a3 : PySem.W.nsIn K mainGlobals "fits" = some (some (.ref f3)))
    (l3 : K.lookup f3 = some ⟨oc3, od3, .func (PySem.W.fnOf "fits" "fits" (defArgs s_fits) (defBody s_fits) (defScope s_fits) .none kV3 dc3 pm3 an3 cd3 ct3), sl3⟩)
    (c3 : PySem.W.codeIn K cd3 "fits" = true) (k3 : PySem.W.keepIn K (.ref f3) = true)
    (a4 : PySem.W.nsIn K mainGlobals "check_lengths" = some (some (.ref f4)))
    (l4 : K.lookup f4 = some ⟨oc4, od4, .func (PySem.W.fnOf "check_lengths" "check_lengths" (defArgs s_check_lengths) (defBody s_check_lengths) (defScope s_check_lengths) .none kV4 dc4 pm4 an4 cd4 ct4), sl4⟩)
    (c4 : PySem.W.codeIn K cd4 "check_lengths" = true) (k4 : PySem.W.keepIn K (.ref f4) = true)
    (a5 : PySem.W.nsIn K mainGlobals "words_of" = some (some (.ref f5)))
    (l5 : K.lookup f5 = some ⟨oc5, od5, .func (PySem.W.fnOf "words_of" "words_of" (defArgs s_words_of) (defBody s_words_of) (defScope s_words_of) .none kV5 dc5 pm5 an5 cd5 ct5), sl5⟩)
    (c5 : PySem.W.codeIn K cd5 "words_of" = true) (k5 : PySem.W.keepIn K (.ref f5) = true)
    (a6 : PySem.W.nsIn K mainGlobals "beginnings_of" = some (some (.ref f6)))
    (l6 : K.lookup f6 = some ⟨oc6, od6, .func (PySem.W.fnOf "beginnings_of" "beginnings_of" (defArgs s_beginnings_of) (defBody s_beginnings_of) (defScope s_beginnings_of) .none kV6 dc6 pm6 an6 cd6 ct6), sl6⟩)
    (c6 : PySem.W.codeIn K cd6 "beginnings_of" = true) (k6 : PySem.W.keepIn K (.ref f6) = true)
    (a7 : PySem.W.nsIn K mainGlobals "_law_cell_at" = some (some (.ref f7)))
    (l7 : K.lookup f7 = some ⟨oc7, od7, .func (PySem.W.fnOf "_law_cell_at" "_law_cell_at" (defArgs s_l_cell_at) (defBody s_l_cell_at) (defScope s_l_cell_at) .none kV7 dc7 pm7 an7 cd7 ct7), sl7⟩)
    (c7 : PySem.W.codeIn K cd7 "_law_cell_at" = true) (k7 : PySem.W.keepIn K (.ref f7) = true)
    (a8 : PySem.W.nsIn K mainGlobals "_law_mixed" = some (some (.ref f8)))
    (l8 : K.lookup f8 = some ⟨oc8, od8, .func (PySem.W.fnOf "_law_mixed" "_law_mixed" (defArgs s_l_mixed) (defBody s_l_mixed) (defScope s_l_mixed) .none kV8 dc8 pm8 an8 cd8 ct8), sl8⟩)
    (c8 : PySem.W.codeIn K cd8 "_law_mixed" = true) (k8 : PySem.W.keepIn K (.ref f8) = true)
    (a9 : PySem.W.nsIn K mainGlobals "_law_lengths" = some (some (.ref f9)))
    (l9 : K.lookup f9 = some ⟨oc9, od9, .func (PySem.W.fnOf "_law_lengths" "_law_lengths" (defArgs s_l_lengths) (defBody s_l_lengths) (defScope s_l_lengths) .none kV9 dc9 pm9 an9 cd9 ct9), sl9⟩)
    (c9 : PySem.W.codeIn K cd9 "_law_lengths" = true) (k9 : PySem.W.keepIn K (.ref f9) = true)
    (a10 : PySem.W.nsIn K mainGlobals "_law_bits" = some (some (.ref f10)))
    (l10 : K.lookup f10 = some ⟨oc10, od10, .func (PySem.W.fnOf "_law_bits" "_law_bits" (defArgs s_l_bits) (defBody s_l_bits) (defScope s_l_bits) .none kV10 dc10 pm10 an10 cd10 ct10), sl10⟩)
    (c10 : PySem.W.codeIn K cd10 "_law_bits" = true) (k10 : PySem.W.keepIn K (.ref f10) = true)
    (a11 : PySem.W.nsIn K mainGlobals "_law_due" = some (some (.ref f11)))
    (l11 : K.lookup f11 = some ⟨oc11, od11, .func (PySem.W.fnOf "_law_due" "_law_due" (defArgs s_l_due) (defBody s_l_due) (defScope s_l_due) .none kV11 dc11 pm11 an11 cd11 ct11), sl11⟩)
    (c11 : PySem.W.codeIn K cd11 "_law_due" = true) (k11 : PySem.W.keepIn K (.ref f11) = true)
    (a12 : PySem.W.nsIn K mainGlobals "law" = some (some (.ref f12)))
    (l12 : K.lookup f12 = some ⟨oc12, od12, .func (PySem.W.fnOf "law" "law" (defArgs s_law) (defBody s_law) (defScope s_law) .none kV12 dc12 pm12 an12 cd12 ct12), sl12⟩)
    (c12 : PySem.W.codeIn K cd12 "law" = true) (k12 : PySem.W.keepIn K (.ref f12) = true)
    (qC_BadTable : PySem.W.nsIn K mainGlobals "BadTable" = some (some (.ref C_BadTable)))
    (k_BadTable : PySem.W.keepIn K (.ref C_BadTable) = true)
    (b_BadTable : PySem.W.subIn K (.ref C_BadTable) (.type "BaseException") = some true)
    (t_BadTable : PySem.W.typeIn K (.ref C_BadTable) = some (.type "type"))
    (i_BadTable : PySem.W.isClsIn K C_BadTable = true)
    (x_BadTable : PySem.W.excIn K C_BadTable [.type "ValueError", .type "Exception", .type "BaseException", .type "object"] "ValueError.__new__" = true)
    (gb_BadTable : PySem.W.findIn K (.ref C_BadTable) "__getattribute__" = some (some (.builtin "BaseException.__getattribute__")))
    (gg_BadTable : PySem.W.findIn K (.ref C_BadTable) "__getattr__" = some none)
    (hd_BadTable : PySem.W.hasDictIn K C_BadTable = true)
    (ca_BadTable : PySem.W.findIn K (.ref C_BadTable) "__class__" = some (some (.builtin "object.__class__")))
    (cn_BadTable : PySem.W.specialIn K (.builtin "object.__class__") "__get__" = some (some (.builtin "getset_descriptor.__get__")))
    (ct_BadTable : PySem.W.takesIn K (.builtin "object.__class__") = some true)
    (cm_BadTable : PySem.W.mroIn K C_BadTable (.type "object") = some true)
    (z_all : PySem.W.nsIn K mainGlobals "all" = some none)
    (z_bool : PySem.W.nsIn K mainGlobals "bool" = some none)
    (z_dict : PySem.W.nsIn K mainGlobals "dict" = some none)
    (z_enumerate : PySem.W.nsIn K mainGlobals "enumerate" = some none)
    (z_int : PySem.W.nsIn K mainGlobals "int" = some none)
    (z_isinstance : PySem.W.nsIn K mainGlobals "isinstance" = some none)
    (z_len : PySem.W.nsIn K mainGlobals "len" = some none)
    (z_list : PySem.W.nsIn K mainGlobals "list" = some none)
    (z_max : PySem.W.nsIn K mainGlobals "max" = some none)
    (z_min : PySem.W.nsIn K mainGlobals "min" = some none)
    (z_range : PySem.W.nsIn K mainGlobals "range" = some none)
    (z_sorted : PySem.W.nsIn K mainGlobals "sorted" = some none)
    (z_str : PySem.W.nsIn K mainGlobals "str" = some none)
    (z_sum : PySem.W.nsIn K mainGlobals "sum" = some none)
    (z_tuple : PySem.W.nsIn K mainGlobals "tuple" = some none)
    (m_MOST_SYMBOLS : PySem.W.nsIn K mainGlobals "MOST_SYMBOLS" = some (some u_MOST_SYMBOLS)) (r_MOST_SYMBOLS : RelV (.int 64) u_MOST_SYMBOLS)
    (m_LONGEST : PySem.W.nsIn K mainGlobals "LONGEST" = some (some u_LONGEST)) (r_LONGEST : RelV (.int 15) u_LONGEST) :
    ∃ fd : FuncData, (∀ (s : Shared) (v : Value), BindsTo s fd ⟨[v], []⟩ [("_law_script", v)]) ∧ ∀ base : Heap, K.In base → base.Ns mainGlobals mg → FnOk l.prog w K mg base CX0 6 fa fd ["_law_script"] (spLaw K) := by
  have e := hfa.symm.trans (PySem.W.mg_of X G a12)
  cases e
  have F0 := fun_mk (st := s_is_whole) l0 c0 k0
  have b0 := F0.binds (ps := ["thing"]) fun _ _ _ _ _ _ us hl => match us, hl with | [_], _ => rfl
  have F1 := fun_mk (st := s_is_list_of) l1 c1 k1
  have b1 := F1.binds (ps := ["thing", "low", "high"]) fun _ _ _ _ _ _ us hl => match us, hl with | [_, _, _], _ => rfl
  have F2 := fun_mk (st := s_room_of) l2 c2 k2
  have b2 := F2.binds (ps := ["lengths"]) fun _ _ _ _ _ _ us hl => match us, hl with | [_], _ => rfl
  have F3 := fun_mk (st := s_fits) l3 c3 k3
  have b3 := F3.binds (ps := ["lengths"]) fun _ _ _ _ _ _ us hl => match us, hl with | [_], _ => rfl
  have F4 := fun_mk (st := s_check_lengths) l4 c4 k4
  have b4 := F4.binds (ps := ["lengths"]) fun _ _ _ _ _ _ us hl => match us, hl with | [_], _ => rfl
  have F5 := fun_mk (st := s_words_of) l5 c5 k5
  have b5 := F5.binds (ps := ["lengths"]) fun _ _ _ _ _ _ us hl => match us, hl with | [_], _ => rfl
  have F6 := fun_mk (st := s_beginnings_of) l6 c6 k6
  have b6 := F6.binds (ps := ["lengths"]) fun _ _ _ _ _ _ us hl => match us, hl with | [_], _ => rfl
  have F7 := fun_mk (st := s_l_cell_at) l7 c7 k7
  have b7 := F7.binds (ps := ["_law_script", "_law_k"]) fun _ _ _ _ _ _ us hl => match us, hl with | [_, _], _ => rfl
  have F8 := fun_mk (st := s_l_mixed) l8 c8 k8
  have b8 := F8.binds (ps := ["_law_cell", "_law_k"]) fun _ _ _ _ _ _ us hl => match us, hl with | [_, _], _ => rfl
  have F9 := fun_mk (st := s_l_lengths) l9 c9 k9
  have b9 := F9.binds (ps := ["_law_head", "_law_cell"]) fun _ _ _ _ _ _ us hl => match us, hl with | [_, _], _ => rfl
  have F10 := fun_mk (st := s_l_bits) l10 c10 k10
  have b10 := F10.binds (ps := ["_law_word"]) fun _ _ _ _ _ _ us hl => match us, hl with | [_], _ => rfl
  have F11 := fun_mk (st := s_l_due) l11 c11 k11
  have b11 := F11.binds (ps := ["_law_words"]) fun _ _ _ _ _ _ us hl => match us, hl with | [_], _ => rfl
  have F12 := fun_mk (st := s_law) l12 c12 k12
  have b12 := F12.binds (ps := ["_law_script"]) fun _ _ _ _ _ _ us hl => match us, hl with | [_], _ => rfl
  exact ⟨_, fun s v => .of_eq rfl, fun base _ _ => hlaw (K := K) (mg := mg) { a_is_whole := f0, d_is_whole := _, F_is_whole := F0, b_is_whole := b0, g_is_whole := PySem.W.mg_of X G a0, a_is_list_of := f1, d_is_list_of := _, F_is_list_of := F1, b_is_list_of := b1, g_is_list_of := PySem.W.mg_of X G a1, a_room_of := f2, d_room_of := _, F_room_of := F2, b_room_of := b2, g_room_of := PySem.W.mg_of X G a2, a_fits := f3, d_fits := _, F_fits := F3, b_fits := b3, g_fits := PySem.W.mg_of X G a3, a_check_lengths := f4, d_check_lengths := _, F_check_lengths := F4, b_check_lengths := b4, g_check_lengths := PySem.W.mg_of X G a4, a_words_of := f5, d_words_of := _, F_words_of := F5, b_words_of := b5, g_words_of := PySem.W.mg_of X G a5, a_beginnings_of := f6, d_beginnings_of := _, F_beginnings_of := F6, b_beginnings_of := b6, g_beginnings_of := PySem.W.mg_of X G a6, a_l_cell_at := f7, d_l_cell_at := _, F_l_cell_at := F7, b_l_cell_at := b7, g_l_cell_at := PySem.W.mg_of X G a7, a_l_mixed := f8, d_l_mixed := _, F_l_mixed := F8, b_l_mixed := b8, g_l_mixed := PySem.W.mg_of X G a8, a_l_lengths := f9, d_l_lengths := _, F_l_lengths := F9, b_l_lengths := b9, g_l_lengths := PySem.W.mg_of X G a9, a_l_bits := f10, d_l_bits := _, F_l_bits := F10, b_l_bits := b10, g_l_bits := PySem.W.mg_of X G a10, a_l_due := f11, d_l_due := _, F_l_due := F11, b_l_due := b11, g_l_due := PySem.W.mg_of X G a11, a_law := fa, d_law := _, F_law := F12, b_law := b12, g_law := PySem.W.mg_of X G a12, C_BadTable := C_BadTable, g_BadTable := PySem.W.mg_of X G qC_BadTable, k_BadTable := k_BadTable, b_BadTable := b_BadTable, t_BadTable := t_BadTable, i_BadTable := i_BadTable, x_BadTable := x_BadTable, gb_BadTable := gb_BadTable, gg_BadTable := gg_BadTable, hd_BadTable := hd_BadTable, ca_BadTable := ca_BadTable, cn_BadTable := cn_BadTable, ct_BadTable := ct_BadTable, cm_BadTable := cm_BadTable, xc_BadTable := ⟨gb_BadTable, gg_BadTable, b_BadTable, hd_BadTable, ca_BadTable, cn_BadTable, ct_BadTable, cm_BadTable⟩, z_all := PySem.W.mg_none_of X G z_all, z_bool := PySem.W.mg_none_of X G z_bool, z_dict := PySem.W.mg_none_of X G z_dict, z_enumerate := PySem.W.mg_none_of X G z_enumerate, z_int := PySem.W.mg_none_of X G z_int, z_isinstance := PySem.W.mg_none_of X G z_isinstance, z_len := PySem.W.mg_none_of X G z_len, z_list := PySem.W.mg_none_of X G z_list, z_max := PySem.W.mg_none_of X G z_max, z_min := PySem.W.mg_none_of X G z_min, z_range := PySem.W.mg_none_of X G z_range, z_sorted := PySem.W.mg_none_of X G z_sorted, z_str := PySem.W.mg_none_of X G z_str, z_sum := PySem.W.mg_none_of X G z_sum, z_tuple := PySem.W.mg_none_of X G z_tuple, u_MOST_SYMBOLS := u_MOST_SYMBOLS, m_MOST_SYMBOLS := PySem.W.mg_of X G m_MOST_SYMBOLS, r_MOST_SYMBOLS := r_MOST_SYMBOLS, u_LONGEST := u_LONGEST, m_LONGEST := PySem.W.mg_of X G m_LONGEST, r_LONGEST := r_LONGEST }⟩
def HL : Prop := ∀ {P : Program} {w : World} {K : PySem.W.Frag} {mg : Str → Option Value} {base : Heap} (T : Tx K mg), FnOk P w K mg base CX0 6 T.a_law T.d_law ["_law_script"] (spLaw K)
theorem zHfacts (hlaw : HL) {l : PySem.W.OpenLaw} {w : World} {K : PySem.W.Frag} {h : Heap} {mg : Str → Option Value} {fa : Addr} (X : K.In h) (G : h.Ns mainGlobals mg) (hfa : mg "law" = some (.ref fa)) (c : Hd.Says zHfn zHfd zHx K) :
    ∃ fd : FuncData, (∀ (s : Shared) (v : Value), BindsTo s fd ⟨[v], []⟩ [("_law_script", v)]) ∧ ∀ base : Heap, K.In base → base.Ns mainGlobals mg → FnOk l.prog w K mg base CX0 6 fa fd ["_law_script"] (spLaw K) := by
  obtain ⟨oc0, od0, sl0, kV0, dc0, pm0, an0, cd0, ct0, l0, c0⟩ := c.def_ 0 (d := zHfn0.getD 0 zHfnZ) rfl
  obtain ⟨oc1, od1, sl1, kV1, dc1, pm1, an1, cd1, ct1, l1, c1⟩ := c.def_ 1 (d := zHfn0.getD 1 zHfnZ) rfl
  obtain ⟨oc2, od2, sl2, kV2, dc2, pm2, an2, cd2, ct2, l2, c2⟩ := c.def_ 2 (d := zHfn0.getD 2 zHfnZ) rfl
  obtain ⟨oc3, od3, sl3, kV3, dc3, pm3, an3, cd3, ct3, l3, c3⟩ := c.def_ 3 (d := zHfn0.getD 3 zHfnZ) rfl
  obtain ⟨oc4, od4, sl4, kV4, dc4, pm4, an4, cd4, ct4, l4, c4⟩ := c.def_ 4 (d := zHfn0.getD 4 zHfnZ) rfl
  obtain ⟨oc5, od5, sl5, kV5, dc5, pm5, an5, cd5, ct5, l5, c5⟩ := c.def_ 5 (d := zHfn0.getD 5 zHfnZ) rfl
  obtain ⟨oc6, od6, sl6, kV6, dc6, pm6, an6, cd6, ct6, l6, c6⟩ := c.def_ 6 (d := zHfn0.getD 6 zHfnZ) rfl
  obtain ⟨oc7, od7, sl7, kV7, dc7, pm7, an7, cd7, ct7, l7, c7⟩ := c.def_ 7 (d := zHfn0.getD 7 zHfnZ) rfl
  obtain ⟨oc8, od8, sl8, kV8, dc8, pm8, an8, cd8, ct8, l8, c8⟩ := c.def_ 8 (d := zHfn0.getD 8 zHfnZ) rfl
  obtain ⟨oc9, od9, sl9, kV9, dc9, pm9, an9, cd9, ct9, l9, c9⟩ := c.def_ 9 (d := zHfn0.getD 9 zHfnZ) rfl
  obtain ⟨oc10, od10, sl10, kV10, dc10, pm10, an10, cd10, ct10, l10, c10⟩ := c.def_ 10 (d := zHfn0.getD 10 zHfnZ) rfl
  obtain ⟨oc11, od11, sl11, kV11, dc11, pm11, an11, cd11, ct11, l11, c11⟩ := c.def_ 11 (d := zHfn0.getD 11 zHfnZ) rfl
  obtain ⟨oc12, od12, sl12, kV12, dc12, pm12, an12, cd12, ct12, l12, c12⟩ := c.def_ 12 (d := zHfn0.getD 12 zHfnZ) rfl
  obtain ⟨u_MOST_SYMBOLS, m_MOST_SYMBOLS, r_MOST_SYMBOLS⟩ := Hd.relAt_ok (c.fact (l := zHx0) 0 0 rfl rfl)
  obtain ⟨u_LONGEST, m_LONGEST, r_LONGEST⟩ := Hd.relAt_ok (c.fact (l := zHx0) 0 1 rfl rfl)
  exact all_mk @hlaw X G hfa
    (of_decide_eq_true (c.fact (l := zHx0) 0 2 rfl rfl))
    l0
    c0
    (c.fact (l := zHx0) 0 3 rfl rfl)
    (of_decide_eq_true (c.fact (l := zHx0) 0 4 rfl rfl))
    l1
    c1
    (c.fact (l := zHx0) 0 5 rfl rfl)
    (of_decide_eq_true (c.fact (l := zHx0) 0 6 rfl rfl))
    l2
    c2
    (c.fact (l := zHx0) 0 7 rfl rfl)
    (of_decide_eq_true (c.fact (l := zHx0) 0 8 rfl rfl))
    l3
    c3
    (c.fact (l := zHx0) 0 9 rfl rfl)
    (of_decide_eq_true (c.fact (l := zHx0) 0 10 rfl rfl))
    l4
    c4
    (c.fact (l := zHx0) 0 11 rfl rfl)
    (of_decide_eq_true (c.fact (l := zHx0) 0 12 rfl rfl))
    l5
    c5
    (c.fact (l := zHx0) 0 13 rfl rfl)
    (of_decide_eq_true (c.fact (l := zHx0) 0 14 rfl rfl))
    l6
    c6
    (c.fact (l := zHx0) 0 15 rfl rfl)
    (of_decide_eq_true (c.fact (l := zHx0) 0 16 rfl rfl))
    l7
    c7
    (c.fact (l := zHx0) 0 17 rfl rfl)
    (of_decide_eq_true (c.fact (l := zHx0) 0 18 rfl rfl))
    l8
    c8
    (c.fact (l := zHx0) 0 19 rfl rfl)
    (of_decide_eq_true (c.fact (l := zHx0) 0 20 rfl rfl))
    l9
    c9
    (c.fact (l := zHx0) 0 21 rfl rfl)
    (of_decide_eq_true (c.fact (l := zHx0) 0 22 rfl rfl))
    l10
    c10
    (c.fact (l := zHx0) 0 23 rfl rfl)
    (of_decide_eq_true (c.fact (l := zHx0) 0 24 rfl rfl))
    l11
    c11
    (c.fact (l := zHx0) 0 25 rfl rfl)
    (of_decide_eq_true (c.fact (l := zHx0) 0 26 rfl rfl))
    l12
    c12
    (c.fact (l := zHx0) 0 27 rfl rfl)
    (of_decide_eq_true (c.fact (l := zHx0) 0 28 rfl rfl))
    (c.fact (l := zHx0) 0 29 rfl rfl)
    (of_decide_eq_true (c.fact (l := zHx0) 0 30 rfl rfl))
    (of_decide_eq_true (c.fact (l := zHx0) 0 31 rfl rfl))
    (c.fact (l := zHx0) 0 32 rfl rfl)
    (c.fact (l := zHx0) 0 33 rfl rfl)
    (of_decide_eq_true (c.fact (l := zHx0) 0 34 rfl rfl))
    (of_decide_eq_true (c.fact (l := zHx0) 0 35 rfl rfl))
    (c.fact (l := zHx0) 0 36 rfl rfl)
    (of_decide_eq_true (c.fact (l := zHx0) 0 37 rfl rfl))
    (of_decide_eq_true (c.fact (l := zHx0) 0 38 rfl rfl))
    (of_decide_eq_true (c.fact (l := zHx0) 0 39 rfl rfl))
    (of_decide_eq_true (c.fact (l := zHx1) 1 0 rfl rfl))
    (of_decide_eq_true (c.fact (l := zHx1) 1 1 rfl rfl))
    (of_decide_eq_true (c.fact (l := zHx1) 1 2 rfl rfl))
    (of_decide_eq_true (c.fact (l := zHx1) 1 3 rfl rfl))
    (of_decide_eq_true (c.fact (l := zHx1) 1 4 rfl rfl))
    (of_decide_eq_true (c.fact (l := zHx1) 1 5 rfl rfl))
    (of_decide_eq_true (c.fact (l := zHx1) 1 6 rfl rfl))
    (of_decide_eq_true (c.fact (l := zHx1) 1 7 rfl rfl))
    (of_decide_eq_true (c.fact (l := zHx1) 1 8 rfl rfl))
    (of_decide_eq_true (c.fact (l := zHx1) 1 9 rfl rfl))
    (of_decide_eq_true (c.fact (l := zHx1) 1 10 rfl rfl))
    (of_decide_eq_true (c.fact (l := zHx1) 1 11 rfl rfl))
    (of_decide_eq_true (c.fact (l := zHx1) 1 12 rfl rfl))
    (of_decide_eq_true (c.fact (l := zHx1) 1 13 rfl rfl))
    (of_decide_eq_true (c.fact (l := zHx1) 1 14 rfl rfl))
    (of_decide_eq_true (c.fact (l := zHx1) 1 15 rfl rfl))
    m_MOST_SYMBOLS
    r_MOST_SYMBOLS
    m_LONGEST
    r_LONGEST
end K17
open PySem PySem.W PySem.Calls PyProof.Rows in
set_option maxRecDepth 100000 in
set_option maxHeartbeats 0 in
theorem K17.early (hlaw : K17.HL) : PySem.Challenge.rw_tornshelf_k17_beginnings.Holds := by
  w_on; o_law
  refine HandSHeadRun.head_any (r := OpenLaw.row PySem.Challenge.rw_tornshelf_k17_beginnings) (q := view (OpenLaw.row PySem.Challenge.rw_tornshelf_k17_beginnings).prog [20]) (H := K17.zHk) (ob := K17.zHob) (M := 20000) (loose := K17.zHl) (d := HandSHeadRun.topDef (OpenLaw.row PySem.Challenge.rw_tornshelf_k17_beginnings).prog 20) (kwd := []) K17.zHob_eq
    (by kernel_rfl) (fun s => by kernel_rfl) K17.zHrun (by kernel_rfl) (by kernel_rfl) (by kernel_rfl) (by rfl) (by first | assumption | decide +kernel) (by decide +kernel) ⟨rfl, rfl, rfl, rfl, rfl, by decide +kernel⟩ ?hw ?hc
  case hw => w_witness2
  case hc =>
    refine L2.walk_ofE (l := PySem.Challenge.rw_tornshelf_k17_beginnings) (n := 63) (k := 6) (x := "_law_script") (CX := L2.CX0) rfl (by decide) (by kernel_rfl) ⟨rfl, by decide, by decide⟩ ?F (fun _ _ _ _ z => z)
    intro w mg fa h Y G hmg0
    obtain ⟨K, KX, c⟩ := Y
    have hmg : mg ("law" : PySem.Str) = some (.ref fa) := by
      have e : (HandSHeadRun.topDef (OpenLaw.row PySem.Challenge.rw_tornshelf_k17_beginnings).prog 20).name = ("law" : PySem.Str) := by kernel_rfl
      rw [← e]
      exact hmg0
    obtain ⟨fd, hb, hF⟩ := K17.zHfacts hlaw (l := PySem.Challenge.rw_tornshelf_k17_beginnings) (w := w) KX G hmg c
    exact ⟨K, fd, K17.spLaw K, KX, hb, fun H a ns hl hO hS => ⟨a, ns, rfl, hS, hl, Z.only_nd hO, fun _ => rfl⟩, hF⟩
namespace K17
open PySem L2 Z Y
local macro_rules | `(tactic| walk_at "sd") => `(tactic| first
  | omega | assumption | (show (_ : Nat) ≤ 16777216; simp; done) | (show (_ : Nat) ≤ 16777216; simp; omega) | (show (_ : Nat) < 16777216; simp; done) | (show (_ : Nat) < 16777216; simp; omega) | decide | exact Or.inr ⟨by omega, by omega⟩ | exact Or.inl ⟨by omega, by omega⟩ | exact ⟨by omega, by omega⟩ | exact ⟨by omega, by omega, by omega⟩ | exact ⟨by omega, by omega, by omega, by omega⟩ | exact ⟨by omega, by omega, by decide⟩)
local macro_rules | `(tactic| walk_at "ds") => `(tactic| dsimp only [List.set, setC, wipeS, wipeE, Y.rest, kp, Cn.toD])
local macro_rules | `(tactic| walk_at "f0") => `(tactic| (refine Y.f_fn rfl ?_; simp only [List.map_cons, List.map_nil, List.length_cons, List.length_nil, List.replicate, Nat.reduceSub, Nat.reduceAdd, List.cons_append, List.nil_append]))
local macro_rules | `(tactic| walk_at "fx") => `(tactic| (refine Y.f_fnX rfl ?_; simp only [List.map_cons, List.map_nil, List.length_cons, List.length_nil, List.replicate, Nat.reduceSub, Nat.reduceAdd, List.cons_append, List.nil_append]))
local macro_rules | `(tactic| walk_at "f00") => `(tactic| (refine Y.f_fn0 rfl ?_; simp only [List.map_cons, List.map_nil, List.length_cons, List.length_nil, List.replicate, Nat.reduceSub, Nat.reduceAdd, List.cons_append, List.nil_append]))
local macro_rules | `(tactic| walk_at "wx") => `(tactic| ((with_reducible show _ ≤ sizeLine ∧ _); refine ⟨by walk_at "sd", ?_⟩))
local macro_rules | `(tactic| walk_at "wx") => `(tactic| ((with_reducible show _ ∧ Y.Wo _ _ _); refine ⟨by walk_at "sd", ?_⟩))
local macro_rules | `(tactic| walk_at "wx") => `(tactic| ((with_reducible show ∃ c, AI.new _ = AI.new c ∧ _); refine ⟨_, rfl, ?_⟩; try (walk_at "ds")))
local macro_rules | `(tactic| walk_at "wx") => `(tactic| ((with_reducible show ∃ x, AI.val (D.str _) = AI.val (D.str x) ∧ _); refine ⟨_, rfl, ?_⟩; try dsimp only []))
local macro_rules | `(tactic| walk_at "wx") => `(tactic| ((with_reducible show ∃ l, Y.tupOf _ = some l ∧ _); refine ⟨_, rfl, ?_⟩; try (dsimp only [])))
local macro_rules | `(tactic| walk_at "wx") => `(tactic| ((with_reducible show ∃ l, Y.viewL _ _ = some l ∧ _); first | refine ⟨_, rfl, ?_⟩ | refine ⟨_, Y.viewL_cid (by assumption), ?_⟩))
local macro_rules | `(tactic| walk_at "wx") => `(tactic| ((with_reducible show ∃ d' l', [_] = [d'] ∧ Y.listOf _ d' = some l' ∧ _); refine ⟨_, _, rfl, rfl, ?_⟩; dsimp only [ckOf]))
local macro_rules | `(tactic| walk_at "wx") => `(tactic| with_reducible refine Y.w_wzI ?_)
local macro_rules | `(tactic| walk_at "wx") => `(tactic| ((with_reducible show ∃ l', Y.listOf _ _ = some l' ∧ _); refine ⟨_, rfl, ?_⟩; dsimp only [ckOf]))
local macro_rules | `(tactic| walk_at "wx") => `(tactic| ((with_reducible refine Y.w_rng2I ?_ ?_); (focus (· walk_at "sd"))))
local macro_rules | `(tactic| walk_at "wx") => `(tactic| ((with_reducible show ∃ w x, [_, _] = [w, x] ∧ _); refine ⟨_, _, rfl, ?_⟩; try (walk_at "ds")))
local macro_rules | `(tactic| walk_at "wx") => `(tactic| ((with_reducible refine Y.noid_and ?_ ?_); (focus (· first | rfl | (simp only [D.noIdL, D.noId, Y.noIdL_ints, Bool.and_self, Bool.and_true, Bool.true_and]; done)))))
local macro_rules | `(tactic| walk_at "wx") => `(tactic| ((with_reducible show (∃ l, Y.viewD _ _ = some l) ∧ _); refine ⟨⟨_, rfl⟩, ?_⟩))
local macro_rules | `(tactic| walk_at "wx") => `(tactic| ((with_reducible show ∃ l, AI.new (.dK _) = AI.new (.dK l) ∧ _); refine ⟨_, rfl, ?_⟩))
local macro_rules | `(tactic| walk_at "wx") => `(tactic| ((with_reducible refine Y.w_lr1I ?_ ?_ ?_); (focus (· walk_at "sd")); (focus (· walk_at "sd"))))
local macro_rules | `(tactic| walk_at "wx") => `(tactic| ((with_reducible refine Z.z_ifnN ?_ ?_); (focus (· omega))))
local macro_rules | `(tactic| walk_at "wx") => `(tactic| with_reducible refine Z.z_ifnR ?_)
local macro_rules | `(tactic| walk_at "wx") => `(tactic| with_reducible refine Y.w_blB ?_)
local macro_rules | `(tactic| walk_at "wx") => `(tactic| with_reducible refine Y.w_truI ?_)
local macro_rules | `(tactic| walk_at "wx") => `(tactic| ((with_reducible refine Z.z_ifnY ?_ ?_); (focus (· omega))))
local macro_rules | `(tactic| walk_at "wx") => `(tactic| ((with_reducible show if (!(Y.D.isN _)) = true then _ else _); first | refine Y.z_b1 rfl ?_ | refine Y.z_b0 rfl ?_))
local macro_rules | `(tactic| walk_at "wx") => `(tactic| ((with_reducible show if Y.D.isN _ = true then _ else _); first | refine Y.z_b1 rfl ?_ | refine Y.z_b0 rfl ?_))
local macro_rules | `(tactic| walk_at "wx") => `(tactic| with_reducible refine Z.z_inF ?_)
local macro_rules | `(tactic| walk_at "wx") => `(tactic| ((with_reducible refine Y.w_rng1I ?_ ?_); (focus (· walk_at "sd"))))
local macro_rules | `(tactic| walk_at "wx") => `(tactic| with_reducible refine Z.z_ifR ?_)
local macro_rules | `(tactic| walk_at "wx") => `(tactic| with_reducible refine Z.z_inT ?_)
local macro_rules | `(tactic| walk_at "wx") => `(tactic| with_reducible refine Y.w_intI ?_)
local macro_rules | `(tactic| walk_at "wx") => `(tactic| ((with_reducible refine Z.z_ifY ?_ ?_); (focus (· omega))))
local macro_rules | `(tactic| walk_at "wx") => `(tactic| ((with_reducible show Y.So _ (Y.tgL _ _ _ _)); refine Y.so_set rfl ?_; walk_at "ds"))
local macro_rules | `(tactic| walk_at "wx") => `(tactic| ((with_reducible show Y.So _ (Y.tgT _ _ _ _)); refine Y.so_set rfl ?_; walk_at "ds"))
local macro_rules | `(tactic| walk_at "wx") => `(tactic| with_reducible refine Y.w_truB ?_)
local macro_rules | `(tactic| walk_at "wx") => `(tactic| ((with_reducible show Y.So _ (Y.tgN _ _ _)); refine Y.so_some ?_; walk_at "ds"))
local macro_rules | `(tactic| walk_at "wx") => `(tactic| with_reducible refine Z.z_iT ?_)
local macro_rules | `(tactic| walk_at "wx") => `(tactic| with_reducible refine Z.z_iF ?_)
local macro_rules | `(tactic| walk_at "wx") => `(tactic| ((with_reducible show if decide ((Str.ofString _) = Str.ofString _) = true then _ else _); first | refine Z.z_ifY (by decide +kernel) ?_ | refine Z.z_ifN (by decide +kernel) ?_))
local macro_rules | `(tactic| walk_at "wx") => `(tactic| ((with_reducible refine Z.z_ifN ?_ ?_); (focus (· omega))))
local macro_rules | `(tactic| walk_at "wx") => `(tactic| ((with_reducible show ∃ k c fs, Y.objAt _ _ = some (k, c, fs) ∧ _ ∧ _); first | refine ⟨_, _, _, rfl, ⟨rfl, by first | decide | simp⟩, ?_⟩ | refine ⟨_, _, _, Y.objAt_of (by assumption), ⟨rfl, by first | decide | simp⟩, ?_⟩))
local macro_rules | `(tactic| walk_at "wx") => `(tactic| ((with_reducible show ∃ k fs, Y.objAt _ _ = some (k, _, fs) ∧ _ ∧ _); first | refine ⟨_, _, rfl, rfl, ?_⟩ | refine ⟨_, _, Y.objAt_of (by assumption), rfl, ?_⟩))
local macro_rules | `(tactic| walk_at "wx") => `(tactic| ((with_reducible show ∃ k c fs d, Y.objAt _ _ = some (k, c, fs) ∧ _ ∧ _ ∧ _); first | refine ⟨_, _, _, _, rfl, rfl, rfl, ?_⟩ | refine ⟨_, _, _, _, Y.objAt_of (by assumption), rfl, rfl, ?_⟩))
local macro_rules | `(tactic| walk_at "wx") => `(tactic| with_reducible refine Y.w_blV ?_)
local macro_rules | `(tactic| walk_at "ws") => `(tactic| ((with_reducible show Y.Ws _ _ (Y.mAug _ _ _ _)); refine Y.w_aug rfl ?_))
local macro_rules | `(tactic| walk_at "ws") => `(tactic| with_reducible refine Y.w_augS ?_)
local macro_rules | `(tactic| walk_at "ws") => `(tactic| ((with_reducible show Y.Ws _ _ (Y.mForD _ _ _ _ _)); refine Y.w_forD rfl ?_))
local macro_rules | `(tactic| walk_at "ws") => `(tactic| with_reducible refine Y.w_tryM ?_)
local macro_rules | `(tactic| walk_at "ws") => `(tactic| with_reducible refine Y.w_tryA ?_)
local macro_rules | `(tactic| walk_at "ws") => `(tactic| with_reducible refine Y.w_raiseA ?_)
local macro_rules | `(tactic| walk_at "ws") => `(tactic| with_reducible refine Y.w_raise ?_)
local macro_rules | `(tactic| walk_at "ws") => `(tactic| with_reducible refine Y.w_fldA ?_)
local macro_rules | `(tactic| walk_at "ws") => `(tactic| with_reducible refine Y.w_asgTB ?_)
local macro_rules | `(tactic| walk_at "ws") => `(tactic| with_reducible refine Y.w_forCT ?_)
local macro_rules | `(tactic| walk_at "ws") => `(tactic| with_reducible refine Y.w_forC ?_)
local macro_rules | `(tactic| walk_at "ws") => `(tactic| with_reducible refine Y.w_par ?_)
local macro_rules | `(tactic| walk_at "ws") => `(tactic| with_reducible refine Y.w_asgK ?_)
local macro_rules | `(tactic| walk_at "ws") => `(tactic| with_reducible refine Y.w_retN ?_)
local macro_rules | `(tactic| walk_at "ws") => `(tactic| with_reducible refine Y.w_retN' ?_)
local macro_rules | `(tactic| walk_at "ws") => `(tactic| ((with_reducible show Y.Ws _ _ (Y.asg _ (.slot _) _)); refine Y.w_asgI rfl ?_; walk_at "ds"))
local macro_rules | `(tactic| walk_at "ws") => `(tactic| with_reducible refine Y.w_asgS ?_)
local macro_rules | `(tactic| walk_at "ws") => `(tactic| with_reducible refine Y.w_asgST ?_)
local macro_rules | `(tactic| walk_at "ws") => `(tactic| with_reducible refine Y.w_asgT ?_)
local macro_rules | `(tactic| walk_at "ws") => `(tactic| ((with_reducible show Y.Ws _ _ (Y.ret (.slot _) _)); refine Y.w_retS rfl ?_; walk_at "ds"))
local macro_rules | `(tactic| walk_at "ws") => `(tactic| (with_reducible refine Y.w_asgN ?_; walk_at "ds"))
local macro_rules | `(tactic| walk_at "ws") => `(tactic| with_reducible refine Y.w_for ?_)
local macro_rules | `(tactic| walk_at "ws") => `(tactic| with_reducible refine Y.w_fldS ?_)
local macro_rules | `(tactic| walk_at "ws") => `(tactic| with_reducible refine Y.w_drop ?_)
local macro_rules | `(tactic| walk_at "ws") => `(tactic| (with_reducible refine Y.w_asgV ?_; walk_at "ds"))
local macro_rules | `(tactic| walk_at "ws") => `(tactic| with_reducible refine Y.w_asg ?_)
local macro_rules | `(tactic| walk_at "ws") => `(tactic| with_reducible refine Y.w_retV ?_)
local macro_rules | `(tactic| walk_at "ws") => `(tactic| with_reducible refine Y.w_ret ?_)
local macro_rules | `(tactic| walk_at "ws") => `(tactic| with_reducible refine Y.w_next ?_)
local macro_rules | `(tactic| walk_at "ws") => `(tactic| with_reducible refine Y.w_ifS ?_)
local macro_rules | `(tactic| walk_at "ws") => `(tactic| with_reducible refine Y.w_seq ?_)
local macro_rules | `(tactic| walk_at "wo") => `(tactic| with_reducible refine Y.w_isnB ?_)
local macro_rules | `(tactic| walk_at "wo") => `(tactic| with_reducible refine Y.w_isB ?_)
local macro_rules | `(tactic| walk_at "wo") => `(tactic| with_reducible refine Y.w_ws ?_)
local macro_rules | `(tactic| walk_at "wo") => `(tactic| with_reducible refine Y.w_wt ?_)
local macro_rules | `(tactic| walk_at "wo") => `(tactic| with_reducible refine Y.w_wz ?_)
local macro_rules | `(tactic| walk_at "wo") => `(tactic| with_reducible refine Y.w_rng2 ?_)
local macro_rules | `(tactic| walk_at "wo") => `(tactic| with_reducible refine Y.w_callC ?_)
local macro_rules | `(tactic| walk_at "wo") => `(tactic| with_reducible refine Y.w_callB ?_)
local macro_rules | `(tactic| walk_at "wo") => `(tactic| ((with_reducible show Y.Wo _ _ (Y.mIsX _ _ _)); refine Y.w_isX rfl rfl ?_))
local macro_rules | `(tactic| walk_at "wo") => `(tactic| ((with_reducible show Y.Wo _ _ (Y.mXf _ _ _ _)); refine Y.w_xf rfl rfl rfl ?_))
local macro_rules | `(tactic| walk_at "wo") => `(tactic| with_reducible refine Y.w_callPS ?_)
local macro_rules | `(tactic| walk_at "wo") => `(tactic| with_reducible refine Y.w_callTS ?_)
local macro_rules | `(tactic| walk_at "wo") => `(tactic| with_reducible refine Y.w_callT ?_)
local macro_rules | `(tactic| walk_at "wo") => `(tactic| with_reducible refine Y.w_callP ?_)
local macro_rules | `(tactic| walk_at "wo") => `(tactic| with_reducible refine Y.w_toKS ?_)
local macro_rules | `(tactic| walk_at "wo") => `(tactic| with_reducible refine Y.w_wn ?_)
local macro_rules | `(tactic| walk_at "wo") => `(tactic| with_reducible refine Y.w_get2 ?_)
local macro_rules | `(tactic| walk_at "wo") => `(tactic| with_reducible refine Y.w_minVals ?_)
local macro_rules | `(tactic| walk_at "wo") => `(tactic| with_reducible refine Y.w_sortVals ?_)
local macro_rules | `(tactic| walk_at "wo") => `(tactic| with_reducible refine Y.w_get1 ?_)
local macro_rules | `(tactic| walk_at "wo") => `(tactic| with_reducible refine Y.w_lenTups ?_)
local macro_rules | `(tactic| walk_at "wo") => `(tactic| with_reducible refine Y.w_setT ?_)
local macro_rules | `(tactic| walk_at "wo") => `(tactic| with_reducible refine Y.w_setD ?_)
local macro_rules | `(tactic| walk_at "wo") => `(tactic| with_reducible refine Y.w_kvNil ?_)
local macro_rules | `(tactic| walk_at "wo") => `(tactic| with_reducible refine Y.w_kvCons ?_)
local macro_rules | `(tactic| walk_at "wo") => `(tactic| with_reducible refine Y.w_lcCT ?_)
local macro_rules | `(tactic| walk_at "wo") => `(tactic| with_reducible refine Y.w_lcC ?_)
local macro_rules | `(tactic| walk_at "wo") => `(tactic| with_reducible refine Y.w_popT ?_)
local macro_rules | `(tactic| walk_at "wo") => `(tactic| with_reducible refine Y.w_kvConsK ?_)
local macro_rules | `(tactic| walk_at "wo") => `(tactic| with_reducible refine Y.w_dispT ?_)
local macro_rules | `(tactic| walk_at "wo") => `(tactic| with_reducible refine Y.w_disp ?_)
local macro_rules | `(tactic| walk_at "wo") => `(tactic| with_reducible refine Y.w_lcG ?_)
local macro_rules | `(tactic| walk_at "wo") => `(tactic| with_reducible refine Y.w_dnew ?_)
local macro_rules | `(tactic| walk_at "wo") => `(tactic| with_reducible refine Y.w_pop ?_)
local macro_rules | `(tactic| walk_at "wo") => `(tactic| ((with_reducible show Y.Wo _ _ (Y.mLcO _ _ _ _ _ _)); refine Y.w_lcO rfl ?_; walk_at "ds"))
local macro_rules | `(tactic| walk_at "wo") => `(tactic| ((with_reducible show Y.Wo _ _ (Y.mLcD _ _ _ _ _ _ _)); first | refine Y.w_lcD1 rfl ?_ | (refine Y.w_lcD2 rfl ?_; walk_at "ds")))
local macro_rules | `(tactic| walk_at "wo") => `(tactic| with_reducible refine Y.w_rng3 ?_)
local macro_rules | `(tactic| walk_at "wo") => `(tactic| with_reducible refine Y.w_sidx ?_)
local macro_rules | `(tactic| walk_at "wo") => `(tactic| with_reducible refine Y.w_abs ?_)
local macro_rules | `(tactic| walk_at "wo") => `(tactic| ((with_reducible refine Y.w_mulS ?_ ?_); (focus (· walk_at "sd"))))
local macro_rules | `(tactic| walk_at "wo") => `(tactic| with_reducible refine Y.w_sjoin ?_)
local macro_rules | `(tactic| walk_at "wo") => `(tactic| with_reducible refine Y.w_intB ?_)
local macro_rules | `(tactic| walk_at "wo") => `(tactic| with_reducible refine Y.w_mI ?_)
local macro_rules | `(tactic| walk_at "wo") => `(tactic| with_reducible refine Y.w_ifE ?_)
local macro_rules | `(tactic| walk_at "wo") => `(tactic| ((with_reducible show Y.Wo _ _ (Y.fNe _ (.val (.str _)) (.val (.str _)))); refine Y.w_neS (by decide +kernel) (by decide +kernel) ?_))
local macro_rules | `(tactic| walk_at "wo") => `(tactic| with_reducible refine Y.w_wzs ?_)
local macro_rules | `(tactic| walk_at "wo") => `(tactic| with_reducible refine Y.w_makeS ?_)
local macro_rules | `(tactic| walk_at "wo") => `(tactic| with_reducible refine Y.w_get2T ?_)
local macro_rules | `(tactic| walk_at "wo") => `(tactic| with_reducible refine Y.w_tidx ?_)
local macro_rules | `(tactic| walk_at "wo") => `(tactic| with_reducible refine Y.w_I2 ?_)
local macro_rules | `(tactic| walk_at "wo") => `(tactic| with_reducible refine Y.w_we ?_)
local macro_rules | `(tactic| walk_at "wo") => `(tactic| with_reducible refine Y.w_call ?_)
local macro_rules | `(tactic| walk_at "wo") => `(tactic| with_reducible refine Y.w_get1T ?_)
local macro_rules | `(tactic| walk_at "wo") => `(tactic| with_reducible refine Y.w_dnewT ?_)
local macro_rules | `(tactic| walk_at "wo") => `(tactic| with_reducible refine Y.w_lr1 ?_)
local macro_rules | `(tactic| walk_at "wo") => `(tactic| ((with_reducible show Y.Wo _ _ (Y.fList _ [_])); refine Y.w_list rfl ?_))
local macro_rules | `(tactic| walk_at "wo") => `(tactic| with_reducible refine Y.w_neg ?_)
local macro_rules | `(tactic| walk_at "wo") => `(tactic| with_reducible refine Y.w_un ?_)
local macro_rules | `(tactic| walk_at "wo") => `(tactic| ((with_reducible show Y.Wo _ _ (Y.toV (.slot _) _)); refine Y.w_toVS rfl ?_; walk_at "ds"))
local macro_rules | `(tactic| walk_at "wo") => `(tactic| with_reducible refine Y.w_notV ?_)
local macro_rules | `(tactic| walk_at "wo") => `(tactic| with_reducible refine Y.w_lr2 ?_)
local macro_rules | `(tactic| walk_at "wo") => `(tactic| with_reducible refine Y.w_orV ?_)
local macro_rules | `(tactic| walk_at "wo") => `(tactic| with_reducible refine Y.w_neI ?_)
local macro_rules | `(tactic| walk_at "wo") => `(tactic| ((with_reducible show Y.Wo _ _ (Y.fIsn _ _ (.val .non))); refine Y.w_isnN rfl ?_))
local macro_rules | `(tactic| walk_at "wo") => `(tactic| ((with_reducible show Y.Wo _ _ (Y.fSlT _ _ _ _)); refine Y.w_slTu rfl (by first | decide | (simp only [List.length_cons, List.length_nil]; decide)) ?_))
local macro_rules | `(tactic| walk_at "wo") => `(tactic| with_reducible refine Y.w_slTp ?_)
local macro_rules | `(tactic| walk_at "wo") => `(tactic| with_reducible refine Y.w_makeN ?_)
local macro_rules | `(tactic| walk_at "wo") => `(tactic| ((with_reducible show Y.Wo _ _ (Y.fSl _ _ _ _)); refine Y.w_slL rfl rfl ?_))
local macro_rules | `(tactic| walk_at "wo") => `(tactic| with_reducible refine Y.w_sl ?_)
local macro_rules | `(tactic| walk_at "wo") => `(tactic| with_reducible refine Y.w_chain ?_)
local macro_rules | `(tactic| walk_at "wo") => `(tactic| with_reducible refine Y.w_andV ?_)
local macro_rules | `(tactic| walk_at "wo") => `(tactic| ((with_reducible show Y.Wo _ _ (Y.fIs _ _ (.val .non))); refine Y.w_isN rfl ?_))
local macro_rules | `(tactic| walk_at "wo") => `(tactic| with_reducible refine Y.w_vConsK ?_)
local macro_rules | `(tactic| walk_at "wo") => `(tactic| with_reducible refine Y.w_methS ?_)
local macro_rules | `(tactic| walk_at "wo") => `(tactic| (with_reducible refine Y.w_toVN ?_; dsimp only [Cn.toD]))
local macro_rules | `(tactic| walk_at "wo") => `(tactic| with_reducible refine Y.w_lc ?_)
local macro_rules | `(tactic| walk_at "wo") => `(tactic| with_reducible refine Y.w_rng1 ?_)
local macro_rules | `(tactic| walk_at "wo") => `(tactic| with_reducible refine Y.w_oSm ?_)
local macro_rules | `(tactic| walk_at "wo") => `(tactic| with_reducible refine Y.w_oNo ?_)
local macro_rules | `(tactic| walk_at "wo") => `(tactic| with_reducible refine Y.w_or ?_)
local macro_rules | `(tactic| walk_at "wo") => `(tactic| ((with_reducible refine Y.w_mulI ?_ ?_); (focus (· walk_at "sd"))))
local macro_rules | `(tactic| walk_at "wo") => `(tactic| with_reducible refine Y.w_callN ?_)
local macro_rules | `(tactic| walk_at "wo") => `(tactic| with_reducible refine Y.w_wl ?_)
local macro_rules | `(tactic| walk_at "wo") => `(tactic| with_reducible refine Y.w_not ?_)
local macro_rules | `(tactic| walk_at "wo") => `(tactic| with_reducible refine Y.w_tru ?_)
local macro_rules | `(tactic| walk_at "wo") => `(tactic| with_reducible refine Y.w_bm ?_)
local macro_rules | `(tactic| walk_at "wo") => `(tactic| ((with_reducible refine Y.w_I ?_ ?_); (focus (· walk_at "sd"))))
local macro_rules | `(tactic| walk_at "wo") => `(tactic| ((with_reducible show Y.Wo _ _ (Y.fLen _ [_])); first | refine Y.w_len rfl rfl ?_ | refine Y.w_lenC (by assumption) ?_))
local macro_rules | `(tactic| walk_at "wo") => `(tactic| (with_reducible refine Y.w_toKN ?_; try (dsimp only [List.length_cons, List.length_nil, List.cons_append, List.nil_append, Nat.reduceAdd])))
local macro_rules | `(tactic| walk_at "wo") => `(tactic| with_reducible refine Y.w_eqI ?_)
local macro_rules | `(tactic| walk_at "wo") => `(tactic| with_reducible refine Y.w_addI ?_)
local macro_rules | `(tactic| walk_at "wo") => `(tactic| with_reducible refine Y.w_tup ?_)
local macro_rules | `(tactic| walk_at "wo") => `(tactic| with_reducible refine Y.w_and ?_)
local macro_rules | `(tactic| walk_at "wo") => `(tactic| with_reducible refine Y.w_cb ?_)
local macro_rules | `(tactic| walk_at "wo") => `(tactic| with_reducible refine Y.w_methN ?_)
local macro_rules | `(tactic| walk_at "wo") => `(tactic| with_reducible refine Y.w_lst ?_)
local macro_rules | `(tactic| walk_at "wo") => `(tactic| ((with_reducible show Y.Wo _ _ (Y.fEq _ (.val (.str _)) (.val (.str _)))); refine Y.w_eqS (by decide +kernel) (by decide +kernel) ?_))
local macro_rules | `(tactic| walk_at "wo") => `(tactic| with_reducible refine Y.w_aNil ?_)
local macro_rules | `(tactic| walk_at "wo") => `(tactic| with_reducible refine Y.w_aCons ?_)
local macro_rules | `(tactic| walk_at "wo") => `(tactic| with_reducible refine Y.w_toKV ?_)
local macro_rules | `(tactic| walk_at "wo") => `(tactic| with_reducible refine Y.w_I0 ?_)
local macro_rules | `(tactic| walk_at "wo") => `(tactic| with_reducible refine Y.w_K ?_)
local macro_rules | `(tactic| walk_at "wo") => `(tactic| with_reducible refine Y.w_vNil ?_)
local macro_rules | `(tactic| walk_at "wo") => `(tactic| with_reducible refine Y.w_vCons ?_)
local macro_rules | `(tactic| walk_at "wo") => `(tactic| with_reducible refine Y.w_bl ?_)
local macro_rules | `(tactic| walk_at "wo") => `(tactic| with_reducible refine Y.w_fld ?_)
local macro_rules | `(tactic| walk_at "wo") => `(tactic| with_reducible refine Y.w_toVV ?_)
local macro_rules | `(tactic| walk_at "wo") => `(tactic| with_reducible refine Y.w_V ?_)
local macro_rules | `(tactic| walk_at "wo") => `(tactic| with_reducible refine Y.w_op ?_)
local macro_rules | `(tactic| walk_at "wo") => `(tactic| with_reducible refine Y.w_c ?_)
local macro_rules | `(tactic| walk_at "wo") => `(tactic| ((with_reducible show Y.Wo _ _ (Y.mName _ _)); first | refine Y.w_nameF rfl ?_ | refine Y.w_nameO rfl ?_))
local macro_rules | `(tactic| walk_at "w1") => `(tactic| walk_at "wx")
local macro_rules | `(tactic| walk_at "w1") => `(tactic| ((with_reducible show Y.Ws _ _ _); walk_at "ws"))
local macro_rules | `(tactic| walk_at "w1") => `(tactic| ((with_reducible show Y.Wo _ _ _); walk_at "wo"))
local macro_rules | `(tactic| walk_at "w") => `(tactic| repeat (walk_at "w1"))
local macro_rules | `(tactic| walk_at "dr") => `(tactic| (refine fo_use (next_ok (by assumption) (by first | decide | omega) (by first | decide | omega)) ?_; rintro _ _ ⟨_, rfl, _, _, _⟩; have := Kpt.dr (by assumption); walk_at "w"))
local macro_rules | `(tactic| walk_at "wi") => `(tactic| repeat ((fail_if_success (with_reducible show Y.Ws _ _ (Y.mSeq (Y.mIfS _ _ _) _ _))); walk_at "w1"))
local macro_rules | `(tactic| walk_at "wr") => `(tactic| repeat ((fail_if_success (with_reducible first | refine Y.w_rng1I ?_ ?_ | refine Y.w_rng2I ?_ ?_)); walk_at "w1"))
@[irreducible] noncomputable def b_l_bits : Ms :=
  (mRet (mJoin (mC (.str (Str.ofString ""))) (mLc [1] (mRng1 (aCons (mOp fIxY (mName 0) (mC (.int 0))) aNil)) (tgN 1) mYes (mCB fStr (aCons (mOp (fI0 fun i j => .int (Builtin.bitAnd i j)) (mOp (fI (fun _ j => 0 ≤ j) fun i j => .int (i / 2 ^ j.toNat)) (mOp fIxY (mName 0) (mC (.int 1))) (mOp (fI0 fun i j => .int (i - j)) (mOp (fI0 fun i j => .int (i - j)) (mOp fIxY (mName 0) (mC (.int 0))) (mC (.int 1))) (mName 1))) (mC (.int 1))) aNil)))))
noncomputable def m_l_bits : Mf := mFn 1 2 b_l_bits
theorem ok_l_bits {P : Program} {w : World} {K : PySem.W.Frag} {mg : Str → Option Value} {base : Heap} (T : Tx K mg) : FnOk P w K mg base CX0 1 T.a_l_bits T.d_l_bits ["_law_word"] (spM K (ctT T) m_l_bits) :=
  T.F_l_bits.ok sc_l_bits (fun vs H Q E h => sp_len h) (fun cdv A outer s H vs Q E hr h => ⟨_, (pss_one (ps_ret (pe_joinY (K := K) rfl pe_str (pe_lc (own := [("_law_k", 1)]) rfl sc_l_bits.nd (pi_range1 rfl T.z_range (pa_cons (pe_ix (ix_Y (K := K) rfl (hu_of hr)) (pv 0) pe_int (fun _ _ => rfl)) pa_nil)) (blkOk_by (N := ["_law_word", "_law_k"]) (sc := defScope s_l_bits) (by decide +kernel)) (fun _ _ _ _ _ => (pg_name (i := 1) sc_l_bits.nd rfl (by first | exact Or.inl rfl | exact Or.inr rfl))) (fun _ _ _ _ _ => pts_nil) (fun _ _ _ _ _ => (pe_callTy (call_strY) (by rfl) T.z_str (by decide +kernel) (pa_cons (pe_op op_and (pe_op op_shr (pe_ix (ix_Y (K := K) rfl (hu_of hr)) (pv 0) pe_int (fun _ _ => rfl)) (pe_op op_sub (pe_op op_sub (pe_ix (ix_Y (K := K) rfl (hu_of hr)) (pv 0) pe_int (fun _ _ => rfl)) pe_int) (pv 1))) pe_int) pa_nil))))))),
    fn_run (np := 1) (N := ["_law_word", "_law_k"]) (body := b_l_bits) (by unfold b_l_bits; exact (sv_ret (ei_join (ei_c cr_str) (ei_lc (ws := [1]) (jw_rng1 (ea_cons (ei_op j_ixY ei_var (ei_c cr_int)) ea_nil)) sg_name (by decide) et_yes (ei_cb jb_str (ea_cons (ei_op (j_I0 fun _ _ => cr_int) (ei_op (j_I fun _ _ => cr_int) (ei_op j_ixY ei_var (ei_c cr_int)) (ei_op (j_I0 fun _ _ => cr_int) (ei_op (j_I0 fun _ _ => cr_int) (ei_op j_ixY ei_var (ei_c cr_int)) (ei_c cr_int)) ei_var)) (ei_c cr_int)) ea_nil)))))) h⟩)
@[irreducible] noncomputable def b_l_cell_at : Ms :=
  (mSeq (mIfS (mBl (mOp (fI0 fun i j => .bl (decide (i < j))) (mName 1) (mCB fLen (aCons (mName 0) aNil)))) (mRet (mOp fIxY (mName 0) (mName 1))) mNext)
  (mRet (mC (.int 0))))
noncomputable def m_l_cell_at : Mf := mFn 2 2 b_l_cell_at
theorem ok_l_cell_at {P : Program} {w : World} {K : PySem.W.Frag} {mg : Str → Option Value} {base : Heap} (T : Tx K mg) : FnOk P w K mg base CX0 1 T.a_l_cell_at T.d_l_cell_at ["_law_script", "_law_k"] (spM K (ctT T) m_l_cell_at) :=
  T.F_l_cell_at.ok sc_l_cell_at (fun vs H Q E h => sp_len h) (fun cdv A outer s H vs Q E hr h => ⟨_, (pss_cons (ps_if (pt_cmpR op_lt (pv 1) (pe_callB (call_lenY (K := K) rfl) (by rfl) T.z_len PySem.boot_len (pa_cons (pv 0) pa_nil)) (nomark _)) (pss_one (ps_ret (pe_ix (ix_Y (K := K) rfl (hu_of hr)) (pv 0) (pv 1) (fun _ _ => rfl)))) pss_nil)
      (pss_one (ps_ret pe_int))),
    fn_run (np := 2) (N := ["_law_script", "_law_k"]) (body := b_l_cell_at) (by unfold b_l_cell_at; exact (sv_seq (sv_if (et_tst (ei_op (j_I0 fun _ _ => cr_bl) ei_var (ei_cb jb_len (ea_cons ei_var ea_nil)))) (sv_ret (ei_op j_ixY ei_var ei_var)) sv_next)
      (sv_ret (ei_c cr_int)))) h⟩)
@[irreducible] noncomputable def b_l_due : Ms :=
  (mSeq (mAsg 1 (mDisp (kvConsK (mC (.str (Str.ofString ""))) (mLst vNil) kvNil)))
  (mSeq (mFor (mRng1 (aCons (mCB fLen (aCons (mName 0) aNil)) aNil)) (tgN 2) (mIfS (mBl (mOp fIsn (mOp fIxY (mName 0) (mName 2)) (mC .non))) (mSeq (mAsg 3 (mCallN m_l_bits (vCons (mOp fIxY (mName 0) (mName 2)) vNil)))
  (mFor (mRng1 (aCons (mOp fAdd (mCB fLen (aCons (mName 3) aNil)) (mC (.int 1))) aNil)) (tgN 4) (mDrop (mBM fApp (mSetD (mName 1) (mSl (mName 3) oNo (oSm (mName 4))) (mLst vNil)) (vCons (mName 2) vNil))))) mNext))
  (mRet (mName 1))))
noncomputable def m_l_due : Mf := mFn 1 5 b_l_due
theorem ok_l_due {P : Program} {w : World} {K : PySem.W.Frag} {mg : Str → Option Value} {base : Heap} (T : Tx K mg) : FnOk P w K mg base CX0 2 T.a_l_due T.d_l_due ["_law_words"] (spM K (ctT T) m_l_due) :=
  T.F_l_due.ok sc_l_due (fun vs H Q E h => sp_len h) (fun cdv A outer s H vs Q E hr h => ⟨_, (pss_cons (ps_set (i := 1) sc_l_due.nd rfl (by first | exact Or.inl rfl | exact Or.inr rfl) (pe_disp (pps_cons pe_str (pe_lst pa_nil) pps_nil) rfl rfl (by simp) (by decide)))
      (pss_cons (ps_for PassesOwn.never rfl (pi_range1 rfl T.z_range (pa_cons (pe_callB (call_lenY (K := K) rfl) (by rfl) T.z_len PySem.boot_len (pa_cons (pv 0) pa_nil)) pa_nil)) (pg_name (i := 2) sc_l_due.nd rfl (by first | exact Or.inl rfl | exact Or.inr rfl)) (pss_one (ps_if (pt_cmpR op_isnZ (pe_ix (ix_Y (K := K) rfl (hu_of hr)) (pv 0) (pv 2) (fun _ _ => rfl)) pe_non (nomark _)) (pss_cons (ps_set (i := 3) sc_l_due.nd rfl (by first | exact Or.inl rfl | exact Or.inr rfl) (pe_callZ (ok_l_bits T) (hr.mono (by decide)) (by rfl) T.g_l_bits T.F_l_bits.kp T.b_l_bits pass0 (pa_cons (pe_ix (ix_Y (K := K) rfl (hu_of hr)) (pv 0) (pv 2) (fun _ _ => rfl)) pa_nil)))
      (pss_one (ps_for PassesOwn.never rfl (pi_range1 rfl T.z_range (pa_cons (pe_op (op_addZ (K := K) rfl) (pe_callB (call_lenY (K := K) rfl) (by rfl) T.z_len PySem.boot_len (pa_cons (pv 3) pa_nil)) pe_int) pa_nil)) (pg_name (i := 4) sc_l_due.nd rfl (by first | exact Or.inl rfl | exact Or.inr rfl)) (pss_one (ps_expr (pe_bmZ (K := K) rfl PySem.F.plainAttrs_list PySem.F.slot_list_append PySem.F.type_list_append mt_append (pe_dsetd (pv 1) (pe_slice (sl_Z (K := K) rfl) (pv 3) po_none (po_some (pv 4))) (pe_lst pa_nil) ⟨rfl, rfl, rfl, rfl⟩) (pa_cons (pv 2) pa_nil))))))) pss_nil)))
      (pss_one (ps_ret (pv 1))))),
    fn_run (np := 1) (N := ["_law_words", "_law_found", "_law_symbol", "_law_text", "_law_many"]) (body := b_l_due) (by unfold b_l_due; exact (sv_seq (sv_asg (ei_disp (ekv_consK (ei_c cr_str) (ei_lst ev_nil) ekv_nil)))
      (sv_seq (sv_for (jw_rng1 (ea_cons (ei_cb jb_len (ea_cons ei_var ea_nil)) ea_nil)) sg_name (sv_if (et_tst (ei_op j_isn (ei_op j_ixY ei_var ei_var) (ei_c cr_non))) (sv_seq (sv_asg (ei_callN (ev_cons (ei_op j_ixY ei_var ei_var) ev_nil)))
      (sv_for (jw_rng1 (ea_cons (ei_op j_add (ei_cb jb_len (ea_cons ei_var ea_nil)) (ei_c cr_int)) ea_nil)) sg_name (sv_drop (ei_bm jm_app (ei_setD ei_var (ei_sl ei_var eo_no (eo_sm ei_var)) (ei_lst ev_nil)) (ev_cons ei_var ev_nil))))) sv_next))
      (sv_ret ei_var)))) h⟩)
@[irreducible] noncomputable def b_l_mixed : Ms :=
  (mSeq (mIfS (mAnd (mBl (mOp (fI0 fun i j => .bl (decide (j ≤ i))) (mName 0) (mOp (fI CShl fun i j => .int (i * 2 ^ j.toNat)) (mC (.int 1)) (mC (.int 90))))) (mAnd (mBl (mOp fEq (mOp (fI (fun _ j => 0 < j) fun i j => .int (i % j)) (mName 0) (mC (.int 2))) (mC (.int 1)))) (mBl (mOp (fI0 fun i j => .bl (decide (j < i))) (mOp (fI (fun _ j => 0 ≤ j) fun i j => .int (i / 2 ^ j.toNat)) (mName 0) (mOp fAdd (mC (.int 1)) (mOp fMul (mC (.int 31)) (mName 1)))) (mC (.int 0)))))) (mRet (mOp (fI (fun _ j => 0 < j) fun i j => .int (i % j)) (mOp (fI (fun _ j => 0 ≤ j) fun i j => .int (i / 2 ^ j.toNat)) (mName 0) (mOp fAdd (mC (.int 1)) (mOp fMul (mC (.int 31)) (mName 1)))) (mC (.int 2147483648)))) mNext)
  (mSeq (mAsg 2 (mOp (fI (fun _ j => 0 < j) fun i j => .int (i % j)) (mOp fMul (mOp fAdd (mOp fAdd (mName 0) (mOp fMul (mC (.int 7919)) (mName 1))) (mC (.int 1))) (mC (.int 48271))) (mC (.int 2147483647))))
  (mSeq (mAsg 2 (mOp (fI (fun _ j => 0 < j) fun i j => .int (i % j)) (mOp fMul (mName 2) (mOp fAdd (mOp (fI CDiv fun i j => .int (i / j)) (mName 2) (mC (.int 1009))) (mC (.int 69621)))) (mC (.int 2147483647))))
  (mRet (mOp (fI (fun _ j => 0 < j) fun i j => .int (i % j)) (mOp fMul (mName 2) (mOp fAdd (mOp fAdd (mOp (fI CDiv fun i j => .int (i / j)) (mName 2) (mC (.int 2003))) (mC (.int 39373))) (mName 1))) (mC (.int 2147483629)))))))
noncomputable def m_l_mixed : Mf := mFn 2 3 b_l_mixed
theorem ok_l_mixed {P : Program} {w : World} {K : PySem.W.Frag} {mg : Str → Option Value} {base : Heap} (T : Tx K mg) : FnOk P w K mg base CX0 1 T.a_l_mixed T.d_l_mixed ["_law_cell", "_law_k"] (spM K (ctT T) m_l_mixed) :=
  T.F_l_mixed.ok sc_l_mixed (fun vs H Q E h => sp_len h) (fun cdv A outer s H vs Q E hr h => ⟨_, (pss_cons (ps_if (PW.pt (pw_and (pt_cmpR op_ge (pv 0) (pe_op op_shlW pe_int pe_int) (nomark _)) (pw_and (pt_cmpR (op_eqZ (K := K) rfl hr.units) (pe_op op_mod (pv 0) pe_int) pe_int (nomark _)) (pw_and1 (pt_cmpR op_gt (pe_op op_shr (pv 0) (pe_op (op_addZ (K := K) rfl) pe_int (pe_op op_mulZ pe_int (pv 1)))) pe_int (nomark _)))))) (pss_one (ps_ret (pe_op op_mod (pe_op op_shr (pv 0) (pe_op (op_addZ (K := K) rfl) pe_int (pe_op op_mulZ pe_int (pv 1)))) pe_int))) pss_nil)
      (pss_cons (ps_set (i := 2) sc_l_mixed.nd rfl (by first | exact Or.inl rfl | exact Or.inr rfl) (pe_op op_mod (pe_op op_mulZ (pe_op (op_addZ (K := K) rfl) (pe_op (op_addZ (K := K) rfl) (pv 0) (pe_op op_mulZ pe_int (pv 1))) pe_int) pe_int) pe_int))
      (pss_cons (ps_set (i := 2) sc_l_mixed.nd rfl (by first | exact Or.inl rfl | exact Or.inr rfl) (pe_op op_mod (pe_op op_mulZ (pv 2) (pe_op (op_addZ (K := K) rfl) (pe_op op_fdiv (pv 2) pe_int) pe_int)) pe_int))
      (pss_one (ps_ret (pe_op op_mod (pe_op op_mulZ (pv 2) (pe_op (op_addZ (K := K) rfl) (pe_op (op_addZ (K := K) rfl) (pe_op op_fdiv (pv 2) pe_int) pe_int) (pv 1))) pe_int)))))),
    fn_run (np := 2) (N := ["_law_cell", "_law_k", "_law_number"]) (body := b_l_mixed) (by unfold b_l_mixed; exact (sv_seq (sv_if (et_and (et_tst (ei_op (j_I0 fun _ _ => cr_bl) ei_var (ei_op (j_I fun _ _ => cr_int) (ei_c cr_int) (ei_c cr_int)))) (et_and (et_tst (ei_op j_eq (ei_op (j_I fun _ _ => cr_int) ei_var (ei_c cr_int)) (ei_c cr_int))) (et_tst (ei_op (j_I0 fun _ _ => cr_bl) (ei_op (j_I fun _ _ => cr_int) ei_var (ei_op j_add (ei_c cr_int) (ei_op j_mul (ei_c cr_int) ei_var))) (ei_c cr_int))))) (sv_ret (ei_op (j_I fun _ _ => cr_int) (ei_op (j_I fun _ _ => cr_int) ei_var (ei_op j_add (ei_c cr_int) (ei_op j_mul (ei_c cr_int) ei_var))) (ei_c cr_int))) sv_next)
      (sv_seq (sv_asg (ei_op (j_I fun _ _ => cr_int) (ei_op j_mul (ei_op j_add (ei_op j_add ei_var (ei_op j_mul (ei_c cr_int) ei_var)) (ei_c cr_int)) (ei_c cr_int)) (ei_c cr_int)))
      (sv_seq (sv_asg (ei_op (j_I fun _ _ => cr_int) (ei_op j_mul ei_var (ei_op j_add (ei_op (j_I fun _ _ => cr_int) ei_var (ei_c cr_int)) (ei_c cr_int))) (ei_c cr_int)))
      (sv_ret (ei_op (j_I fun _ _ => cr_int) (ei_op j_mul ei_var (ei_op j_add (ei_op j_add (ei_op (j_I fun _ _ => cr_int) ei_var (ei_c cr_int)) (ei_c cr_int)) ei_var)) (ei_c cr_int))))))) h⟩)
@[irreducible] noncomputable def b_l_lengths : Ms :=
  (mSeq (mAsg 2 (mCallN m_l_mixed (vCons (mName 0) (vCons (mC (.int 0)) vNil))))
  (mSeq (mAsg 3 (mOp fIxY (mLst (vCons (mOp fAdd (mC (.int 1)) (mOp (fI (fun _ j => 0 < j) fun i j => .int (i % j)) (mOp (fI CDiv fun i j => .int (i / j)) (mName 2) (mC (.int 8))) (mC (.int 64)))) (vCons (mC (.int 33)) (vCons (mOp fAdd (mC (.int 1)) (mOp (fI (fun _ j => 0 < j) fun i j => .int (i % j)) (mOp (fI CDiv fun i j => .int (i / j)) (mName 2) (mC (.int 8))) (mC (.int 8)))) vNil)))) (mOp (fI (fun _ j => 0 < j) fun i j => .int (i % j)) (mName 2) (mC (.int 3)))))
  (mSeq (mAsg 4 (mOp (fI (fun _ j => 0 < j) fun i j => .int (i % j)) (mOp (fI CDiv fun i j => .int (i / j)) (mName 2) (mC (.int 1024))) (mC (.int 4))))
  (mSeq (mIfS (mBl (mOp fEq (mName 4) (mC (.int 0)))) (mRet (mOp fMul (mLst (vCons (mOp fMul (mOp (fI (fun _ j => 0 < j) fun i j => .int (i % j)) (mOp (fI CDiv fun i j => .int (i / j)) (mName 2) (mC (.int 8192))) (mC (.int 3))) (mC (.int 6))) vNil)) (mCB (fI2 min) (aCons (mName 3) (aCons (mC (.int 40)) aNil))))) mNext)
  (mSeq (mAsg 5 (mLst vNil))
  (mSeq (mAsg 6 (mOp (fI CShl fun i j => .int (i * 2 ^ j.toNat)) (mC (.int 1)) (mC (.int 15))))
  (mSeq (mFor (mRng1 (aCons (mName 3) aNil)) (tgN 7) (mSeq (mAsg 8 (mOp (fI (fun _ j => 0 < j) fun i j => .int (i % j)) (mCallN m_l_mixed (vCons (mName 1) (vCons (mName 7) vNil))) (mOp fIxY (mLst (vCons (mC (.int 16)) (vCons (mC (.int 7)) (vCons (mC (.int 12)) vNil)))) (mOp (fI0 fun i j => .int (i - j)) (mName 4) (mC (.int 1))))))
  (mSeq (mIfS (mAnd (mBl (mOp (fI0 fun i j => .bl (decide (j < i))) (mName 8) (mC (.int 0)))) (mBl (mOp (fI0 fun i j => .bl (decide (j < i))) (mOp (fI CShl fun i j => .int (i * 2 ^ j.toNat)) (mC (.int 1)) (mOp (fI0 fun i j => .int (i - j)) (mC (.int 15)) (mName 8))) (mName 6)))) (mAsg 8 (mC (.int 0))) mNext)
  (mSeq (mIfS (mBl (mOp (fI0 fun i j => .bl (decide (j < i))) (mName 8) (mC (.int 0)))) (mAsg 6 (mOp (fI0 fun i j => .int (i - j)) (mName 6) (mOp (fI CShl fun i j => .int (i * 2 ^ j.toNat)) (mC (.int 1)) (mOp (fI0 fun i j => .int (i - j)) (mC (.int 15)) (mName 8))))) mNext)
  (mDrop (mBM fApp (mName 5) (vCons (mName 8) vNil)))))))
  (mRet (mName 5)))))))))
noncomputable def m_l_lengths : Mf := mFn 2 9 b_l_lengths
theorem ok_l_lengths {P : Program} {w : World} {K : PySem.W.Frag} {mg : Str → Option Value} {base : Heap} (T : Tx K mg) : FnOk P w K mg base CX0 2 T.a_l_lengths T.d_l_lengths ["_law_head", "_law_cell"] (spM K (ctT T) m_l_lengths) :=
  T.F_l_lengths.ok sc_l_lengths (fun vs H Q E h => sp_len h) (fun cdv A outer s H vs Q E hr h => ⟨_, (pss_cons (ps_set (i := 2) sc_l_lengths.nd rfl (by first | exact Or.inl rfl | exact Or.inr rfl) (pe_callZ (ok_l_mixed T) (hr.mono (by decide)) (by rfl) T.g_l_mixed T.F_l_mixed.kp T.b_l_mixed pass0 (pa_cons (pv 0) (pa_cons pe_int pa_nil))))
      (pss_cons (ps_set (i := 3) sc_l_lengths.nd rfl (by first | exact Or.inl rfl | exact Or.inr rfl) (pe_ix (ix_Y (K := K) rfl (hu_of hr)) (pe_lst (pa_cons (pe_op (op_addZ (K := K) rfl) pe_int (pe_op op_mod (pe_op op_fdiv (pv 2) pe_int) pe_int)) (pa_cons pe_int (pa_cons (pe_op (op_addZ (K := K) rfl) pe_int (pe_op op_mod (pe_op op_fdiv (pv 2) pe_int) pe_int)) pa_nil)))) (pe_op op_mod (pv 2) pe_int) (fun _ _ => rfl)))
      (pss_cons (ps_set (i := 4) sc_l_lengths.nd rfl (by first | exact Or.inl rfl | exact Or.inr rfl) (pe_op op_mod (pe_op op_fdiv (pv 2) pe_int) pe_int))
      (pss_cons (ps_if (pt_cmpR (op_eqZ (K := K) rfl hr.units) (pv 4) pe_int (nomark _)) (pss_one (ps_ret (pe_op op_mulZ (pe_lst (pa_cons (pe_op op_mulZ (pe_op op_mod (pe_op op_fdiv (pv 2) pe_int) pe_int) pe_int) pa_nil)) (pe_callB (call_min2Z rfl) (by rfl) T.z_min (by decide +kernel) (pa_cons (pv 3) (pa_cons pe_int pa_nil)))))) pss_nil)
      (pss_cons (ps_set (i := 5) sc_l_lengths.nd rfl (by first | exact Or.inl rfl | exact Or.inr rfl) (pe_lst pa_nil))
      (pss_cons (ps_set (i := 6) sc_l_lengths.nd rfl (by first | exact Or.inl rfl | exact Or.inr rfl) (pe_op op_shlW pe_int pe_int))
      (pss_cons (ps_for PassesOwn.never rfl (pi_range1 rfl T.z_range (pa_cons (pv 3) pa_nil)) (pg_name (i := 7) sc_l_lengths.nd rfl (by first | exact Or.inl rfl | exact Or.inr rfl)) (pss_cons (ps_set (i := 8) sc_l_lengths.nd rfl (by first | exact Or.inl rfl | exact Or.inr rfl) (pe_op op_mod (pe_callZ (ok_l_mixed T) (hr.mono (by decide)) (by rfl) T.g_l_mixed T.F_l_mixed.kp T.b_l_mixed pass0 (pa_cons (pv 1) (pa_cons (pv 7) pa_nil))) (pe_ix (ix_Y (K := K) rfl (hu_of hr)) (pe_lst (pa_cons pe_int (pa_cons pe_int (pa_cons pe_int pa_nil)))) (pe_op op_sub (pv 4) pe_int) (fun _ _ => rfl))))
      (pss_cons (ps_if (PW.pt (pw_and (pt_cmpR op_gt (pv 8) pe_int (nomark _)) (pw_and1 (pt_cmpR op_gt (pe_op op_shlW pe_int (pe_op op_sub pe_int (pv 8))) (pv 6) (nomark _))))) (pss_one (ps_set (i := 8) sc_l_lengths.nd rfl (by first | exact Or.inl rfl | exact Or.inr rfl) pe_int)) pss_nil)
      (pss_cons (ps_if (pt_cmpR op_gt (pv 8) pe_int (nomark _)) (pss_one (ps_set (i := 6) sc_l_lengths.nd rfl (by first | exact Or.inl rfl | exact Or.inr rfl) (pe_op op_sub (pv 6) (pe_op op_shlW pe_int (pe_op op_sub pe_int (pv 8)))))) pss_nil)
      (pss_one (ps_expr (pe_bmZ (K := K) rfl PySem.F.plainAttrs_list PySem.F.slot_list_append PySem.F.type_list_append mt_append (pv 5) (pa_cons (pv 8) pa_nil))))))))
      (pss_one (ps_ret (pv 5)))))))))),
    fn_run (np := 2) (N := ["_law_head", "_law_cell", "_law_number", "_law_size", "_law_way", "_law_found", "_law_room", "_law_k", "_law_length"]) (body := b_l_lengths) (by unfold b_l_lengths; exact (sv_seq (sv_asg (ei_callN (ev_cons ei_var (ev_cons (ei_c cr_int) ev_nil))))
      (sv_seq (sv_asg (ei_op j_ixY (ei_lst (ev_cons (ei_op j_add (ei_c cr_int) (ei_op (j_I fun _ _ => cr_int) (ei_op (j_I fun _ _ => cr_int) ei_var (ei_c cr_int)) (ei_c cr_int))) (ev_cons (ei_c cr_int) (ev_cons (ei_op j_add (ei_c cr_int) (ei_op (j_I fun _ _ => cr_int) (ei_op (j_I fun _ _ => cr_int) ei_var (ei_c cr_int)) (ei_c cr_int))) ev_nil)))) (ei_op (j_I fun _ _ => cr_int) ei_var (ei_c cr_int))))
      (sv_seq (sv_asg (ei_op (j_I fun _ _ => cr_int) (ei_op (j_I fun _ _ => cr_int) ei_var (ei_c cr_int)) (ei_c cr_int)))
      (sv_seq (sv_if (et_tst (ei_op j_eq ei_var (ei_c cr_int))) (sv_ret (ei_op j_mul (ei_lst (ev_cons (ei_op j_mul (ei_op (j_I fun _ _ => cr_int) (ei_op (j_I fun _ _ => cr_int) ei_var (ei_c cr_int)) (ei_c cr_int)) (ei_c cr_int)) ev_nil)) (ei_cb jb_min2 (ea_cons ei_var (ea_cons (ei_c cr_int) ea_nil))))) sv_next)
      (sv_seq (sv_asg (ei_lst ev_nil))
      (sv_seq (sv_asg (ei_op (j_I fun _ _ => cr_int) (ei_c cr_int) (ei_c cr_int)))
      (sv_seq (sv_for (jw_rng1 (ea_cons ei_var ea_nil)) sg_name (sv_seq (sv_asg (ei_op (j_I fun _ _ => cr_int) (ei_callN (ev_cons ei_var (ev_cons ei_var ev_nil))) (ei_op j_ixY (ei_lst (ev_cons (ei_c cr_int) (ev_cons (ei_c cr_int) (ev_cons (ei_c cr_int) ev_nil)))) (ei_op (j_I0 fun _ _ => cr_int) ei_var (ei_c cr_int)))))
      (sv_seq (sv_if (et_and (et_tst (ei_op (j_I0 fun _ _ => cr_bl) ei_var (ei_c cr_int))) (et_tst (ei_op (j_I0 fun _ _ => cr_bl) (ei_op (j_I fun _ _ => cr_int) (ei_c cr_int) (ei_op (j_I0 fun _ _ => cr_int) (ei_c cr_int) ei_var)) ei_var))) (sv_asg (ei_c cr_int)) sv_next)
      (sv_seq (sv_if (et_tst (ei_op (j_I0 fun _ _ => cr_bl) ei_var (ei_c cr_int))) (sv_asg (ei_op (j_I0 fun _ _ => cr_int) ei_var (ei_op (j_I fun _ _ => cr_int) (ei_c cr_int) (ei_op (j_I0 fun _ _ => cr_int) (ei_c cr_int) ei_var)))) sv_next)
      (sv_drop (ei_bm jm_app ei_var (ev_cons ei_var ev_nil)))))))
      (sv_ret ei_var))))))))) h⟩)
@[irreducible] noncomputable def b_room_of : Ms :=
  (mRet (mCB (fInts gSum) (aCons (mLc [1] (mWL (mName 0)) (tgN 1) (mBl (mOp (fI0 fun i j => .bl (decide (j < i))) (mName 1) (mC (.int 0)))) (mOp (fI CShl fun i j => .int (i * 2 ^ j.toNat)) (mC (.int 1)) (mOp (fI0 fun i j => .int (i - j)) (mC (.int 15)) (mName 1)))) aNil)))
noncomputable def m_room_of : Mf := mFn 1 2 b_room_of
theorem ok_room_of {P : Program} {w : World} {K : PySem.W.Frag} {mg : Str → Option Value} {base : Heap} (T : Tx K mg) : FnOk P w K mg base CX0 1 T.a_room_of T.d_room_of ["lengths"] (spM K (ctT T) m_room_of) :=
  T.F_room_of.ok sc_room_of (fun vs H Q E h => sp_len h) (fun cdv A outer s H vs Q E hr h => ⟨_, (pss_one (ps_ret (pe_callB (cr_sumZ (K := K) rfl rfl) (by rfl) T.z_sum (by decide +kernel) (pa_cons (pe_lc (own := [("length", 1)]) rfl sc_room_of.nd (pi_listZ (K := K) rfl (pv 0)) (blkOk_by (N := ["lengths", "length"]) (sc := defScope s_room_of) (by decide +kernel)) (fun _ _ _ _ _ => (pg_name (i := 1) sc_room_of.nd rfl (by first | exact Or.inl rfl | exact Or.inr rfl))) (fun _ _ _ _ _ => (pts_one (pt_cmpR op_gt (pv 1) pe_int (nomark _)))) (fun _ _ _ _ _ => (pe_op op_shlW pe_int (pe_op op_sub (pe_glob rfl T.m_LONGEST T.r_LONGEST) (pv 1))))) pa_nil)))),
    fn_run (np := 1) (N := ["lengths", "length"]) (body := b_room_of) (by unfold b_room_of; exact (sv_ret (ei_cb jb_sum (ea_cons (ei_lc (ws := [1]) (jw_list ei_var) sg_name (by decide) (et_tst (ei_op (j_I0 fun _ _ => cr_bl) ei_var (ei_c cr_int))) (ei_op (j_I fun _ _ => cr_int) (ei_c cr_int) (ei_op (j_I0 fun _ _ => cr_int) (ei_c cr_int) ei_var))) ea_nil)))) h⟩)
@[irreducible] noncomputable def b_fits : Ms :=
  (mRet (mOp (fI0 fun i j => .bl (decide (i ≤ j))) (mCallN m_room_of (vCons (mName 0) vNil)) (mOp (fI CShl fun i j => .int (i * 2 ^ j.toNat)) (mC (.int 1)) (mC (.int 15)))))
noncomputable def m_fits : Mf := mFn 1 1 b_fits
theorem ok_fits {P : Program} {w : World} {K : PySem.W.Frag} {mg : Str → Option Value} {base : Heap} (T : Tx K mg) : FnOk P w K mg base CX0 2 T.a_fits T.d_fits ["lengths"] (spM K (ctT T) m_fits) :=
  T.F_fits.ok sc_fits (fun vs H Q E h => sp_len h) (fun cdv A outer s H vs Q E hr h => ⟨_, (pss_one (ps_ret (pe_cmpR op_le (pe_callZ (ok_room_of T) (hr.mono (by decide)) (by rfl) T.g_room_of T.F_room_of.kp T.b_room_of pass0 (pa_cons (pv 0) pa_nil)) (pe_op op_shlW pe_int (pe_glob rfl T.m_LONGEST T.r_LONGEST)) (nomark _)))),
    fn_run (np := 1) (N := ["lengths"]) (body := b_fits) (by unfold b_fits; exact (sv_ret (ei_op (j_I0 fun _ _ => cr_bl) (ei_callN (ev_cons ei_var ev_nil)) (ei_op (j_I fun _ _ => cr_int) (ei_c cr_int) (ei_c cr_int))))) h⟩)
@[irreducible] noncomputable def b_is_whole : Ms :=
  (mRet (mAndV (mCB fIsi (aCons (mName 0) (aCons (mC (.ty "int")) aNil))) (mNotV (mCB fIsi (aCons (mName 0) (aCons (mC (.ty "bool")) aNil))))))
noncomputable def m_is_whole : Mf := mFn 1 1 b_is_whole
theorem ok_is_whole {P : Program} {w : World} {K : PySem.W.Frag} {mg : Str → Option Value} {base : Heap} (T : Tx K mg) : FnOk P w K mg base CX0 1 T.a_is_whole T.d_is_whole ["thing"] (spM K (ctT T) m_is_whole) :=
  T.F_is_whole.ok sc_is_whole (fun vs H Q E h => sp_len h) (fun cdv A outer s H vs Q E hr h => ⟨_, (pss_one (ps_ret (pe_and (pe_callB (call_isiZ (K := K) rfl) (by rfl) T.z_isinstance (by decide +kernel) (pa_cons (pv 0) (pa_cons (pe_bltn (v := .ty "int") rfl T.z_int (by decide +kernel) rfl) pa_nil))) (pe_one (pe_not (pe_callB (call_isiZ (K := K) rfl) (by rfl) T.z_isinstance (by decide +kernel) (pa_cons (pv 0) (pa_cons (pe_bltn (v := .ty "bool") rfl T.z_bool (by decide +kernel) rfl) pa_nil)))))))),
    fn_run (np := 1) (N := ["thing"]) (body := b_is_whole) (by unfold b_is_whole; exact (sv_ret (ei_andV (ei_cb jb_isi (ea_cons ei_var (ea_cons (ei_c cr_ty) ea_nil))) (ei_notV (ei_cb jb_isi (ea_cons ei_var (ea_cons (ei_c cr_ty) ea_nil))))))) h⟩)
@[irreducible] noncomputable def b_is_list_of : Ms :=
  (mSeq (mIfS (mOr (mNot (mTru (mCB fIsi (aCons (mName 0) (aCons (mC (.ty "list")) aNil))))) (mNot (mBl (mChain (fI0 fun i j => .bl (decide (i ≤ j))) (fI0 fun i j => .bl (decide (i ≤ j))) (mC (.int 1)) (mCB fLen (aCons (mName 0) aNil)) (mC (.int 64)))))) (mRet (mC (.bl false))) mNext)
  (mRet (mCB (fBls fun bs => .bl (bs.all id)) (aCons (mLc [3] (mWL (mName 0)) (tgN 3) mYes (mAndV (mCallN m_is_whole (vCons (mName 3) vNil)) (mChain (fI0 fun i j => .bl (decide (i ≤ j))) (fI0 fun i j => .bl (decide (i ≤ j))) (mName 1) (mName 3) (mName 2)))) aNil))))
noncomputable def m_is_list_of : Mf := mFn 3 4 b_is_list_of
theorem ok_is_list_of {P : Program} {w : World} {K : PySem.W.Frag} {mg : Str → Option Value} {base : Heap} (T : Tx K mg) : FnOk P w K mg base CX0 2 T.a_is_list_of T.d_is_list_of ["thing", "low", "high"] (spM K (ctT T) m_is_list_of) :=
  T.F_is_list_of.ok sc_is_list_of (fun vs H Q E h => sp_len h) (fun cdv A outer s H vs Q E hr h => ⟨_, (pss_cons (ps_if (PW.pt (pw_or (pt_not (pt_truthZ (K := K) rfl (pe_callB (call_isiZ (K := K) rfl) (by rfl) T.z_isinstance (by decide +kernel) (pa_cons (pv 0) (pa_cons (pe_bltn (v := .ty "list") rfl T.z_list (by decide +kernel) rfl) pa_nil))) (by intro _; rfl))) (pw_or1 (pt_not (pt_chain op_le op_le pe_int (pe_callB (call_lenY (K := K) rfl) (by rfl) T.z_len PySem.boot_len (pa_cons (pv 0) pa_nil)) (pe_glob rfl T.m_MOST_SYMBOLS T.r_MOST_SYMBOLS)))))) (pss_one (ps_ret pe_bl)) pss_nil)
      (pss_one (ps_ret (pe_callB (cr_allZ (K := K) rfl rfl) (by rfl) T.z_all (by decide +kernel) (pa_cons (pe_lc (own := [("number", 3)]) rfl sc_is_list_of.nd (pi_listZ (K := K) rfl (pv 0)) (blkOk_by (N := ["thing", "low", "high", "number"]) (sc := defScope s_is_list_of) (by decide +kernel)) (fun _ _ _ _ _ => (pg_name (i := 3) sc_is_list_of.nd rfl (by first | exact Or.inl rfl | exact Or.inr rfl))) (fun _ _ _ _ _ => pts_nil) (fun _ _ _ _ _ => (pe_and (pe_callZ (ok_is_whole T) (hr.mono (by decide)) (by rfl) T.g_is_whole T.F_is_whole.kp T.b_is_whole pass0 (pa_cons (pv 3) pa_nil)) (pe_one (pe_chain op_le op_le (pv 1) (pv 3) (pv 2)))))) pa_nil))))),
    fn_run (np := 3) (N := ["thing", "low", "high", "number"]) (body := b_is_list_of) (by unfold b_is_list_of; exact (sv_seq (sv_if (et_or (et_not (et_tru (ei_cb jb_isi (ea_cons ei_var (ea_cons (ei_c cr_ty) ea_nil))))) (et_not (et_tst (ei_chain (j_I0 fun _ _ => cr_bl) (j_I0 fun _ _ => cr_bl) (ei_c cr_int) (ei_cb jb_len (ea_cons ei_var ea_nil)) (ei_c cr_int))))) (sv_ret (ei_c cr_bl)) sv_next)
      (sv_ret (ei_cb jb_all (ea_cons (ei_lc (ws := [3]) (jw_list ei_var) sg_name (by decide) et_yes (ei_andV (ei_callN (ev_cons ei_var ev_nil)) (ei_chain (j_I0 fun _ _ => cr_bl) (j_I0 fun _ _ => cr_bl) ei_var ei_var ei_var))) ea_nil))))) h⟩)
@[irreducible] noncomputable def b_check_lengths : Ms :=
  (mIfS (mOr (mNot (mTru (mCallN m_is_list_of (vCons (mName 0) (vCons (mC (.int 0)) (vCons (mC (.int 15)) vNil)))))) (mNot (mTru (mCallN m_fits (vCons (mName 0) vNil))))) (mRaise 1) mNext)
noncomputable def m_check_lengths : Mf := mFn 1 1 b_check_lengths
theorem ok_check_lengths {P : Program} {w : World} {K : PySem.W.Frag} {mg : Str → Option Value} {base : Heap} (T : Tx K mg) : FnOk P w K mg base (L2.CX P w) 3 T.a_check_lengths T.d_check_lengths ["lengths"] (spM K (ctT T) m_check_lengths) :=
  T.F_check_lengths.okX sc_check_lengths (fun vs H Q E h => sp_len h) (fun cdv A outer s H vs Q E hr h => ⟨_, (pss_one (ps_if (PW.pt (pw_or (pt_not (pt_truthZ (K := K) rfl (pe_callZ (ok_is_list_of T) (hr.mono (by decide)) (by rfl) T.g_is_list_of T.F_is_list_of.kp T.b_is_list_of pass0 (pa_cons (pv 0) (pa_cons pe_int (pa_cons (pe_glob rfl T.m_LONGEST T.r_LONGEST) pa_nil)))) (by intro _; rfl))) (pw_or1 (pt_not (pt_truthZ (K := K) rfl (pe_callZ (ok_fits T) (hr.mono (by decide)) (by rfl) T.g_fits T.F_fits.kp T.b_fits pass0 (pa_cons (pv 0) pa_nil)) (by intro _; rfl)))))) (pss_one (ps_raiseZ rfl (takes_of rfl rfl rfl rfl) PySem.F.excBase_ValueError T.x_BadTable T.g_BadTable T.k_BadTable (raises_own T.b_BadTable T.t_BadTable) (by rfl))) pss_nil)),
    fn_run (np := 1) (N := ["lengths"]) (body := b_check_lengths) (by unfold b_check_lengths; exact (sv_if (et_or (et_not (et_tru (ei_callN (ev_cons ei_var (ev_cons (ei_c cr_int) (ev_cons (ei_c cr_int) ev_nil)))))) (et_not (et_tru (ei_callN (ev_cons ei_var ev_nil))))) (sv_raise (c := 1)) sv_next)) h⟩)
@[irreducible] noncomputable def b_words_of : Ms :=
  (mSeq (mDrop (mCall m_check_lengths (vCons (mName 0) vNil)))
  (mSeq (mAsg 1 (mLc [4] (mWL (mName 0)) (tgN 4) mYes (mC .non)))
  (mSeq (mAsg 2 (mC (.int 0)))
  (mSeq (mAsg 3 (mC (.int 0)))
  (mSeq (mFor (mWL (mCB fSort (aCons (mLc [5, 4] (mWE (vCons (mName 0) vNil)) (tgT 2 (tgCons (tgN 5) (tgCons (tgN 4) tgNil))) mYes (mTup (vCons (mName 4) (vCons (mName 5) vNil)))) aNil))) (tgT 2 (tgCons (tgN 4) (tgCons (tgN 5) tgNil))) (mIfS (mBl (mOp (fI0 fun i j => .bl (decide (j < i))) (mName 4) (mC (.int 0)))) (mSeq (mIfS (mBl (mOp (fI0 fun i j => .bl (decide (j < i))) (mName 3) (mC (.int 0)))) (mAsg 2 (mOp (fI CShl fun i j => .int (i * 2 ^ j.toNat)) (mOp fAdd (mName 2) (mC (.int 1))) (mOp (fI0 fun i j => .int (i - j)) (mName 4) (mName 3)))) mNext)
  (mSeq (mAsgS (mName 1) (mName 5) (mTup (vCons (mName 4) (vCons (mName 2) vNil))))
  (mAsg 3 (mName 4)))) mNext))
  (mRet (mName 1)))))))
noncomputable def m_words_of : Mf := mFn 1 6 b_words_of
theorem ok_words_of {P : Program} {w : World} {K : PySem.W.Frag} {mg : Str → Option Value} {base : Heap} (T : Tx K mg) : FnOk P w K mg base (L2.CX P w) 4 T.a_words_of T.d_words_of ["lengths"] (spM K (ctT T) m_words_of) :=
  T.F_words_of.okX sc_words_of (fun vs H Q E h => sp_len h) (fun cdv A outer s H vs Q E hr h => ⟨_, (pss_cons (ps_expr (pe_callS (ok_check_lengths T) (hr.mono (by decide)) (by rfl) T.g_check_lengths T.F_check_lengths.kp T.b_check_lengths (fun σ => passAt (takes_of rfl rfl rfl rfl) σ) (pa_cons (pv 0) pa_nil)))
      (pss_cons (ps_setLc (i := 1) (own := [("length", 4)]) rfl sc_words_of.nd rfl rfl (sw_true rfl rfl rfl (by decide +kernel)) (pi_listZ (K := K) rfl (pv 0)) (blkOk_by (N := ["lengths", "found", "number", "last", "length", "symbol"]) (sc := defScope s_words_of) (by decide +kernel)) (fun _ _ _ _ _ => (pg_name (i := 4) sc_words_of.nd rfl (by first | exact Or.inl rfl | exact Or.inr rfl))) (fun _ _ _ _ _ => pts_nil) (fun _ _ _ _ _ => pe_non))
      (pss_cons (ps_set (i := 2) sc_words_of.nd rfl (by first | exact Or.inl rfl | exact Or.inr rfl) pe_int)
      (pss_cons (ps_set (i := 3) sc_words_of.nd rfl (by first | exact Or.inl rfl | exact Or.inr rfl) pe_int)
      (pss_cons (ps_for (passes_of rfl) rfl (pi_listZ (K := K) rfl (pe_callB (cr_sortY (K := K) rfl (u66 hr)) (by rfl) T.z_sorted (by decide +kernel) (pa_cons (pe_lc (own := [("symbol", 5), ("length", 4)]) rfl sc_words_of.nd (pi_enumZ (K := K) rfl rfl T.z_enumerate (pa_cons (pv 0) pa_nil)) (blkOk_by (N := ["lengths", "found", "number", "last", "length", "symbol"]) (sc := defScope s_words_of) (by decide +kernel)) (fun _ _ _ _ _ => (pg_tupZ (K := K) (n := 2) rfl rfl (pgs_cons (pg_name (i := 5) sc_words_of.nd rfl (by first | exact Or.inl rfl | exact Or.inr rfl)) (pgs_cons (pg_name (i := 4) sc_words_of.nd rfl (by first | exact Or.inl rfl | exact Or.inr rfl)) pgs_nil)))) (fun _ _ _ _ _ => pts_nil) (fun _ _ _ _ _ => (pe_tup (pa_cons (pv 4) (pa_cons (pv 5) pa_nil))))) pa_nil))) (pg_tupZ (K := K) (n := 2) rfl rfl (pgs_cons (pg_name (i := 4) sc_words_of.nd rfl (by first | exact Or.inl rfl | exact Or.inr rfl)) (pgs_cons (pg_name (i := 5) sc_words_of.nd rfl (by first | exact Or.inl rfl | exact Or.inr rfl)) pgs_nil))) (pss_one (ps_if (pt_cmpR op_gt (pv 4) pe_int (nomark _)) (pss_cons (ps_if (pt_cmpR op_gt (pv 3) pe_int (nomark _)) (pss_one (ps_set (i := 2) sc_words_of.nd rfl (by first | exact Or.inl rfl | exact Or.inr rfl) (pe_op op_shlW (pe_op (op_addZ (K := K) rfl) (pv 2) pe_int) (pe_op op_sub (pv 4) (pv 3))))) pss_nil)
      (pss_cons (ps_asg (pe_tup (pa_cons (pv 4) (pa_cons (pv 2) pa_nil))) (pg_sub (pv 1) (pv 5) (set_Y (hu_of hr))))
      (pss_one (ps_set (i := 3) sc_words_of.nd rfl (by first | exact Or.inl rfl | exact Or.inr rfl) (pv 4))))) pss_nil)))
      (pss_one (ps_ret (pv 1)))))))),
    fn_run (np := 1) (N := ["lengths", "found", "number", "last", "length", "symbol"]) (body := b_words_of) (by unfold b_words_of; exact (sv_seq (sv_drop (ei_callS (ev_cons ei_var ev_nil)))
      (sv_seq (sv_asg (ei_lc (ws := [4]) (jw_list ei_var) sg_name (by decide) et_yes (ei_c cr_non)))
      (sv_seq (sv_asg (ei_c cr_int))
      (sv_seq (sv_asg (ei_c cr_int))
      (sv_seq (sv_for (jw_list (ei_cb jb_sort (ea_cons (ei_lc (ws := [5, 4]) (jw_enum (ev_cons ei_var ev_nil)) (sg_tup (sgs_cons sg_name (sgs_cons sg_name sgs_nil))) (by decide) et_yes (ei_tup (ev_cons ei_var (ev_cons ei_var ev_nil)))) ea_nil))) (sg_tup (sgs_cons sg_name (sgs_cons sg_name sgs_nil))) (sv_if (et_tst (ei_op (j_I0 fun _ _ => cr_bl) ei_var (ei_c cr_int))) (sv_seq (sv_if (et_tst (ei_op (j_I0 fun _ _ => cr_bl) ei_var (ei_c cr_int))) (sv_asg (ei_op (j_I fun _ _ => cr_int) (ei_op j_add ei_var (ei_c cr_int)) (ei_op (j_I0 fun _ _ => cr_int) ei_var ei_var))) sv_next)
      (sv_seq (sv_asgS (ei_tup (ev_cons ei_var (ev_cons ei_var ev_nil))) ei_var ei_var)
      (sv_asg ei_var))) sv_next))
      (sv_ret ei_var))))))) h⟩)
@[irreducible] noncomputable def b_beginnings_of : Ms :=
  (mSeq (mAsgK 1 (mDispT (kvConsK (mTup (vCons (mC (.int 0)) (vCons (mC (.int 0)) vNil))) (mLst vNil) kvNil)))
  (mSeq (mFor (mWE (vCons (mCall m_words_of (vCons (mName 0) vNil)) vNil)) (tgT 2 (tgCons (tgN 2) (tgCons (tgN 3) tgNil))) (mIfS (mBl (mOp fIsn (mName 3) (mC .non))) (mFor (mRng1 (aCons (mOp fAdd (mOp fIxY (mName 3) (mC (.int 0))) (mC (.int 1))) aNil)) (tgN 4) (mDrop (mBM fApp (mSetT (mName 1) (mTup (vCons (mName 4) (vCons (mOp (fI (fun _ j => 0 ≤ j) fun i j => .int (i / 2 ^ j.toNat)) (mOp fIxY (mName 3) (mC (.int 1))) (mOp (fI0 fun i j => .int (i - j)) (mOp fIxY (mName 3) (mC (.int 0))) (mName 4))) vNil))) (mLst vNil)) (vCons (mName 2) vNil)))) mNext))
  (mRet (mCB fDictT (aCons (mLcCT .items (mName 1) [5, 6] (tgT 2 (tgCons (tgN 5) (tgCons (tgN 6) tgNil))) mYes (mTup (vCons (mName 5) (vCons (mCB fTup (aCons (mName 6) aNil)) vNil)))) aNil)))))
noncomputable def m_beginnings_of : Mf := mFn 1 7 b_beginnings_of
theorem ok_beginnings_of {P : Program} {w : World} {K : PySem.W.Frag} {mg : Str → Option Value} {base : Heap} (T : Tx K mg) : FnOk P w K mg base (L2.CX P w) 5 T.a_beginnings_of T.d_beginnings_of ["lengths"] (spM K (ctT T) m_beginnings_of) :=
  T.F_beginnings_of.okX sc_beginnings_of (fun vs H Q E h => sp_len h) (fun cdv A outer s H vs Q E hr h => ⟨_, (pss_cons (ps_set (i := 1) sc_beginnings_of.nd rfl (by first | exact Or.inl rfl | exact Or.inr rfl) (pe_dispT (hu_of hr) (pps_cons (pe_tup (pa_cons pe_int (pa_cons pe_int pa_nil))) (pe_lst pa_nil) pps_nil) rfl rfl (by simp) (by decide)))
      (pss_cons (ps_for (passes_of rfl) rfl (pi_enumZ (K := K) rfl rfl T.z_enumerate (pa_cons (pe_callS (ok_words_of T) (hr.mono (by decide)) (by rfl) T.g_words_of T.F_words_of.kp T.b_words_of (fun σ => passAt (takes_of rfl rfl rfl rfl) σ) (pa_cons (pv 0) pa_nil)) pa_nil)) (pg_tupZ (K := K) (n := 2) rfl rfl (pgs_cons (pg_name (i := 2) sc_beginnings_of.nd rfl (by first | exact Or.inl rfl | exact Or.inr rfl)) (pgs_cons (pg_name (i := 3) sc_beginnings_of.nd rfl (by first | exact Or.inl rfl | exact Or.inr rfl)) pgs_nil))) (pss_one (ps_if (pt_cmpR op_isnZ (pv 3) pe_non (nomark _)) (pss_one (ps_for (passes_of rfl) rfl (pi_range1 rfl T.z_range (pa_cons (pe_op (op_addZ (K := K) rfl) (pe_ix (ix_Y (K := K) rfl (hu_of hr)) (pv 3) pe_int (fun _ _ => rfl)) pe_int) pa_nil)) (pg_name (i := 4) sc_beginnings_of.nd rfl (by first | exact Or.inl rfl | exact Or.inr rfl)) (pss_one (ps_expr (pe_bmZ (K := K) rfl PySem.F.plainAttrs_list PySem.F.slot_list_append PySem.F.type_list_append mt_append (pe_dsetT (hu_of hr) (pv 1) (pe_tup (pa_cons (pv 4) (pa_cons (pe_op op_shr (pe_ix (ix_Y (K := K) rfl (hu_of hr)) (pv 3) pe_int (fun _ _ => rfl)) (pe_op op_sub (pe_ix (ix_Y (K := K) rfl (hu_of hr)) (pv 3) pe_int (fun _ _ => rfl)) (pv 4))) pa_nil))) (pe_lst pa_nil) ⟨rfl, rfl, rfl, rfl⟩) (pa_cons (pv 2) pa_nil)))))) pss_nil)))
      (pss_one (ps_ret (pe_callTy (call_dictTZ (K := K) rfl rfl (u2 hr)) (by rfl) T.z_dict (by decide +kernel) (pa_cons (pe_lock (pe_lc (own := [("beginning", 5), ("symbols", 6)]) rfl sc_beginnings_of.nd (pi_itemsT (pv 1)) (blkOk_by (N := ["lengths", "found", "symbol", "word", "many", "beginning", "symbols"]) (sc := defScope s_beginnings_of) (by decide +kernel)) (fun _ _ _ _ _ => (pg_tupZ (K := K) (n := 2) rfl rfl (pgs_cons (pg_name (i := 5) sc_beginnings_of.nd rfl (by first | exact Or.inl rfl | exact Or.inr rfl)) (pgs_cons (pg_name (i := 6) sc_beginnings_of.nd rfl (by first | exact Or.inl rfl | exact Or.inr rfl)) pgs_nil)))) (fun _ _ _ _ _ => pts_nil) (fun _ _ _ _ _ => (pe_tup (pa_cons (pv 5) (pa_cons (pe_callTy (call_tupY (K := K) rfl) (by rfl) T.z_tuple (by decide +kernel) (pa_cons (pv 6) pa_nil)) pa_nil)))))) pa_nil)))))),
    fn_run (np := 1) (N := ["lengths", "found", "symbol", "word", "many", "beginning", "symbols"]) (body := b_beginnings_of) (by unfold b_beginnings_of; exact (sv_seq (sv_asgK (ei_dispT (ekv_consK (ei_tup (ev_cons (ei_c cr_int) (ev_cons (ei_c cr_int) ev_nil))) (ei_lst ev_nil) ekv_nil)))
      (sv_seq (sv_for (jw_enum (ev_cons (ei_callS (ev_cons ei_var ev_nil)) ev_nil)) (sg_tup (sgs_cons sg_name (sgs_cons sg_name sgs_nil))) (sv_if (et_tst (ei_op j_isn ei_var (ei_c cr_non))) (sv_for (jw_rng1 (ea_cons (ei_op j_add (ei_op j_ixY ei_var (ei_c cr_int)) (ei_c cr_int)) ea_nil)) sg_name (sv_drop (ei_bm jm_app (ei_setT ei_var (ei_tup (ev_cons ei_var (ev_cons (ei_op (j_I fun _ _ => cr_int) (ei_op j_ixY ei_var (ei_c cr_int)) (ei_op (j_I0 fun _ _ => cr_int) (ei_op j_ixY ei_var (ei_c cr_int)) ei_var)) ev_nil))) (ei_lst ev_nil)) (ev_cons ei_var ev_nil)))) sv_next))
      (sv_ret (ei_cb jb_dictT (ea_cons (ei_lcCT (kd := .items) (ws := [5, 6]) ei_var (sg_tup (sgs_cons sg_name (sgs_cons sg_name sgs_nil))) (by decide) et_yes (ei_tup (ev_cons ei_var (ev_cons (ei_cb jb_tup (ea_cons ei_var ea_nil)) ev_nil)))) ea_nil)))))) h⟩)
@[irreducible] noncomputable def b_law : Ms :=
  (mSeq (mFor (mRng1 (aCons (mCB (fI2 max) (aCons (mC (.int 1)) (aCons (mCB (fI2 min) (aCons (mOp (fI CDiv fun i j => .int (i / j)) (mCB fLen (aCons (mName 0) aNil)) (mC (.int 2))) (aCons (mC (.int 5)) aNil))) aNil))) aNil)) (tgN 1) (mSeq (mAsg 2 (mI (mV (mCallN m_l_lengths (vCons (mCallN m_l_cell_at (vCons (mName 0) (vCons (mOp fMul (mC (.int 2)) (mName 1)) vNil))) (vCons (mCallN m_l_cell_at (vCons (mName 0) (vCons (mOp fAdd (mOp fMul (mC (.int 2)) (mName 1)) (mC (.int 1))) vNil))) vNil))))))
  (mSeq (mAsg 3 (mCallN m_l_due (vCons (mCallN m_words_of (vCons (mName 2) vNil)) vNil)))
  (mSeq (mAsg 4 (mI (mV (mCB fList (aCons (mName 2) aNil)))))
  (mFor (mRng1 (aCons (mC (.int 2)) aNil)) (tgN 5) (mSeq (mAsgK 6 (mCallN m_beginnings_of (vCons (mName 4) vNil)))
  (mSeq (mIfS (mOr (mNot (mTru (mCB fIsiT (aCons (mName 6) (aCons (mC (.ty "dict")) aNil))))) (mOr (mBl (mOp fNe (mCB fLenT (aCons (mName 6) aNil)) (mCB fLen (aCons (mName 3) aNil)))) (mBl (mOp fNe (mName 4) (mName 2))))) (mRet (mC (.bl false))) mNext)
  (mSeq (mForCT .keys (mName 6) (tgN 7) (mSeq (mIfS (mOr (mNot (mTru (mCB fIsi (aCons (mName 7) (aCons (mC (.ty "tuple")) aNil))))) (mOr (mBl (mOp fNe (mCB fLen (aCons (mName 7) aNil)) (mC (.int 2)))) (mBl (mOp fNe (mOp (fI (fun _ j => 0 ≤ j) fun i j => .int (i / 2 ^ j.toNat)) (mOp fIxY (mName 7) (mC (.int 1))) (mOp fIxY (mName 7) (mC (.int 0)))) (mC (.int 0)))))) (mRet (mC (.bl false))) mNext)
  (mSeq (mAsg 8 (mCallN m_l_bits (vCons (mName 7) vNil)))
  (mIfS (mOr (mBl (mOp fNin (mName 8) (mName 3))) (mBl (mOp fNe (mOp fIxDT (mName 6) (mName 7)) (mCB fTup (aCons (mOp fIxY (mName 3) (mName 8)) aNil))))) (mRet (mC (.bl false))) mNext))))
  (mDrop (mPopT (mName 6) (mTup (vCons (mC (.int 0)) (vCons (mC (.int 0)) vNil)))))))))))))
  (mRet (mC (.bl true))))
noncomputable def m_law : Mf := mFn 1 9 b_law
theorem ok_law {P : Program} {w : World} {K : PySem.W.Frag} {mg : Str → Option Value} {base : Heap} (T : Tx K mg) : FnOk P w K mg base CX0 6 T.a_law T.d_law ["_law_script"] (spM K (ctT T) m_law) :=
  T.F_law.ok sc_law (fun vs H Q E h => sp_len h) (fun cdv A outer s H vs Q E hr h => ⟨_, (pss_cons (ps_for PassesOwn.never rfl (pi_range1 rfl T.z_range (pa_cons (pe_callB (call_max2Z rfl) (by rfl) T.z_max (by decide +kernel) (pa_cons pe_int (pa_cons (pe_callB (call_min2Z rfl) (by rfl) T.z_min (by decide +kernel) (pa_cons (pe_op op_fdiv (pe_callB (call_lenY (K := K) rfl) (by rfl) T.z_len PySem.boot_len (pa_cons (pv 0) pa_nil)) pe_int) (pa_cons pe_int pa_nil))) pa_nil))) pa_nil)) (pg_name (i := 1) sc_law.nd rfl (by first | exact Or.inl rfl | exact Or.inr rfl)) (pss_cons (ps_set (i := 2) sc_law.nd rfl (by first | exact Or.inl rfl | exact Or.inr rfl) (pe_callZ (ok_l_lengths T) (hr.mono (by decide)) (by rfl) T.g_l_lengths T.F_l_lengths.kp T.b_l_lengths pass0 (pa_cons (pe_callZ (ok_l_cell_at T) (hr.mono (by decide)) (by rfl) T.g_l_cell_at T.F_l_cell_at.kp T.b_l_cell_at pass0 (pa_cons (pv 0) (pa_cons (pe_op op_mulZ pe_int (pv 1)) pa_nil))) (pa_cons (pe_callZ (ok_l_cell_at T) (hr.mono (by decide)) (by rfl) T.g_l_cell_at T.F_l_cell_at.kp T.b_l_cell_at pass0 (pa_cons (pv 0) (pa_cons (pe_op (op_addZ (K := K) rfl) (pe_op op_mulZ pe_int (pv 1)) pe_int) pa_nil))) pa_nil))))
      (pss_cons (ps_set (i := 3) sc_law.nd rfl (by first | exact Or.inl rfl | exact Or.inr rfl) (pe_callZ (ok_l_due T) (hr.mono (by decide)) (by rfl) T.g_l_due T.F_l_due.kp T.b_l_due pass0 (pa_cons (pe_callZ (ok_words_of T) (hr.mono (by decide)) (by rfl) T.g_words_of T.F_words_of.kp T.b_words_of passL (pa_cons (pv 2) pa_nil)) pa_nil)))
      (pss_cons (ps_set (i := 4) sc_law.nd rfl (by first | exact Or.inl rfl | exact Or.inr rfl) (pe_callTy (call_listZ (K := K) rfl) (by rfl) T.z_list (by decide +kernel) (pa_cons (pv 2) pa_nil)))
      (pss_one (ps_for PassesOwn.never rfl (pi_range1 rfl T.z_range (pa_cons pe_int pa_nil)) (pg_name (i := 5) sc_law.nd rfl (by first | exact Or.inl rfl | exact Or.inr rfl)) (pss_cons (ps_set (i := 6) sc_law.nd rfl (by first | exact Or.inl rfl | exact Or.inr rfl) (pe_callZ (ok_beginnings_of T) (hr.mono (by decide)) (by rfl) T.g_beginnings_of T.F_beginnings_of.kp T.b_beginnings_of passL (pa_cons (pv 4) pa_nil)))
      (pss_cons (ps_if (PW.pt (pw_or (pt_not (pt_truthZ (K := K) rfl (pe_callB (call_isiZ (K := K) rfl) (by rfl) T.z_isinstance (by decide +kernel) (pa_cons (pv 6) (pa_cons (pe_bltn (v := .ty "dict") rfl T.z_dict (by decide +kernel) rfl) pa_nil))) (by intro _; rfl))) (pw_or (pt_cmpR (op_neZ (K := K) rfl hr.units) (pe_callB call_len_dT (by rfl) T.z_len PySem.boot_len (pa_cons (pv 6) pa_nil)) (pe_callB (call_lenY (K := K) rfl) (by rfl) T.z_len PySem.boot_len (pa_cons (pv 3) pa_nil)) (nomark _)) (pw_or1 (pt_cmpR (op_neZ (K := K) rfl hr.units) (pv 4) (pv 2) (nomark _)))))) (pss_one (ps_ret pe_bl)) pss_nil)
      (pss_cons (ps_lock (ps_for PassesOwn.never rfl (pi_keys (pv 6)) (pg_name (i := 7) sc_law.nd rfl (by first | exact Or.inl rfl | exact Or.inr rfl)) (pss_cons (ps_if (PW.pt (pw_or (pt_not (pt_truthZ (K := K) rfl (pe_callB (call_isiZ (K := K) rfl) (by rfl) T.z_isinstance (by decide +kernel) (pa_cons (pv 7) (pa_cons (pe_bltn (v := .ty "tuple") rfl T.z_tuple (by decide +kernel) rfl) pa_nil))) (by intro _; rfl))) (pw_or (pt_cmpR (op_neZ (K := K) rfl hr.units) (pe_callB (call_lenY (K := K) rfl) (by rfl) T.z_len PySem.boot_len (pa_cons (pv 7) pa_nil)) pe_int (nomark _)) (pw_or1 (pt_cmpR (op_neZ (K := K) rfl hr.units) (pe_op op_shr (pe_ix (ix_Y (K := K) rfl (hu_of hr)) (pv 7) pe_int (fun _ _ => rfl)) (pe_ix (ix_Y (K := K) rfl (hu_of hr)) (pv 7) pe_int (fun _ _ => rfl))) pe_int (nomark _)))))) (pss_one (ps_ret pe_bl)) pss_nil)
      (pss_cons (ps_set (i := 8) sc_law.nd rfl (by first | exact Or.inl rfl | exact Or.inr rfl) (pe_callZ (ok_l_bits T) (hr.mono (by decide)) (by rfl) T.g_l_bits T.F_l_bits.kp T.b_l_bits pass0 (pa_cons (pv 7) pa_nil)))
      (pss_one (ps_if (PW.pt (pw_or (pt_cmpR (op_ninY (K := K) rfl (u65 hr)) (pv 8) (pv 3) (by rfl)) (pw_or1 (pt_cmpR (op_neZ (K := K) rfl hr.units) (pe_ix (ix_Y (K := K) rfl (hu_of hr)) (pv 6) (pv 7) (fun _ _ => rfl)) (pe_callTy (call_tupY (K := K) rfl) (by rfl) T.z_tuple (by decide +kernel) (pa_cons (pe_ix (ix_Y (K := K) rfl (hu_of hr)) (pv 3) (pv 8) (fun _ _ => rfl)) pa_nil)) (nomark _))))) (pss_one (ps_ret pe_bl)) pss_nil))))))
      (pss_one (ps_expr (pe_dpopT (hu_of hr) (pv 6) (pe_tup (pa_cons pe_int (pa_cons pe_int pa_nil))) ⟨rfl, rfl, rfl, rfl⟩))))))))))))
      (pss_one (ps_ret pe_bl))),
    fn_run (np := 1) (N := ["_law_script", "_law_k", "_law_lengths_here", "_law_due_here", "_law_handed", "_law_turn", "_law_found", "_law_beginning", "_law_text"]) (body := b_law) (by unfold b_law; exact (sv_seq (sv_for (jw_rng1 (ea_cons (ei_cb jb_max2 (ea_cons (ei_c cr_int) (ea_cons (ei_cb jb_min2 (ea_cons (ei_op (j_I fun _ _ => cr_int) (ei_cb jb_len (ea_cons ei_var ea_nil)) (ei_c cr_int)) (ea_cons (ei_c cr_int) ea_nil))) ea_nil))) ea_nil)) sg_name (sv_seq (sv_asg (ei_of (ev_of (ei_callN (ev_cons (ei_callN (ev_cons ei_var (ev_cons (ei_op j_mul (ei_c cr_int) ei_var) ev_nil))) (ev_cons (ei_callN (ev_cons ei_var (ev_cons (ei_op j_add (ei_op j_mul (ei_c cr_int) ei_var) (ei_c cr_int)) ev_nil))) ev_nil))))))
      (sv_seq (sv_asg (ei_callN (ev_cons (ei_callN (ev_cons ei_var ev_nil)) ev_nil)))
      (sv_seq (sv_asg (ei_of (ev_of (ei_cb jb_list (ea_cons ei_var ea_nil)))))
      (sv_for (jw_rng1 (ea_cons (ei_c cr_int) ea_nil)) sg_name (sv_seq (sv_asgK (ei_callN (ev_cons ei_var ev_nil)))
      (sv_seq (sv_if (et_or (et_not (et_tru (ei_cb jb_isiT (ea_cons ei_var (ea_cons (ei_c cr_ty) ea_nil))))) (et_or (et_tst (ei_op j_ne (ei_cb jb_lenT (ea_cons ei_var ea_nil)) (ei_cb jb_len (ea_cons ei_var ea_nil)))) (et_tst (ei_op j_ne ei_var ei_var)))) (sv_ret (ei_c cr_bl)) sv_next)
      (sv_seq (sv_forCT (kd := .keys) ei_var sg_name (sv_seq (sv_if (et_or (et_not (et_tru (ei_cb jb_isi (ea_cons ei_var (ea_cons (ei_c cr_ty) ea_nil))))) (et_or (et_tst (ei_op j_ne (ei_cb jb_len (ea_cons ei_var ea_nil)) (ei_c cr_int))) (et_tst (ei_op j_ne (ei_op (j_I fun _ _ => cr_int) (ei_op j_ixY ei_var (ei_c cr_int)) (ei_op j_ixY ei_var (ei_c cr_int))) (ei_c cr_int))))) (sv_ret (ei_c cr_bl)) sv_next)
      (sv_seq (sv_asg (ei_callN (ev_cons ei_var ev_nil)))
      (sv_if (et_or (et_tst (ei_op j_nin ei_var ei_var)) (et_tst (ei_op j_ne (ei_op j_ixDT ei_var ei_var) (ei_cb jb_tup (ea_cons (ei_op j_ixY ei_var ei_var) ea_nil))))) (sv_ret (ei_c cr_bl)) sv_next))))
      (sv_drop (ei_popT ei_var (ei_tup (ev_cons (ei_c cr_int) (ev_cons (ei_c cr_int) ev_nil)))))))))))))
      (sv_ret (ei_c cr_bl)))) h⟩)
abbrev Pt := Int × Int
def vlP (ps : List Pt) (k : Int) : Option Int := (ps.find? fun p => decide (p.1 = k)).map (·.2)
def drP (ps : List Pt) (k : Int) : List Pt := ps.filter fun p => decide (p.1 ≠ k)
/-- each number once -/
def Nd (ps : List Pt) : Prop := (ps.map Prod.fst).Nodup
theorem drP_nd {ps : List Pt} {k : Int} (h : Nd ps) : Nd (drP ps k) := h.sublist (List.filter_sublist.map _)
theorem drP_mem {ps : List Pt} {k : Int} {p : Pt} : p ∈ drP ps k ↔ p ∈ ps ∧ p.1 ≠ k := by
  unfold drP; rw [List.mem_filter, decide_eq_true_eq]
theorem drP_len : ∀ {ps : List Pt} {p : Pt}, Nd ps → p ∈ ps → (drP ps p.1).length + 1 = ps.length
  | q :: ps, p, hn, hp => by
    have hn : (q.1 :: ps.map Prod.fst).Nodup := hn
    obtain ⟨h1, h2⟩ := List.nodup_cons.mp hn
    unfold drP
    rw [List.filter_cons]
    rcases List.mem_cons.mp hp with rfl | hp
    · rw [if_neg (by simp), List.length_cons]
      rw [List.filter_eq_self.mpr (fun x hx => decide_eq_true (fun (z : x.1 = _) => h1 (by have := List.mem_map_of_mem (f := Prod.fst) hx; rw [z] at this; exact this)))]
    · have hne : q.1 ≠ p.1 := fun z => h1 (z ▸ List.mem_map_of_mem hp)
      rw [if_pos (decide_eq_true hne), List.length_cons, List.length_cons]
      have := drP_len h2 hp
      unfold drP at this
      omega
structure Pk (n : Int) (k : Nat) (ps : List Pt) : Prop where
  nd : Nd ps
  lt : ∀ p ∈ ps, p.1 < n + k
  ge : ∀ p ∈ ps, 0 ≤ p.2
def wt (ps : List Pt) (k : Int) : Int := (vlP ps k).getD 0
def stepP (n : Int) (ps : List Pt) (q : Pt) : List Pt := drP (drP ps q.1) q.2 ++ [(n, wt ps q.1 + wt ps q.2)]
structure OkS (ps : List Pt) (q : Pt) : Prop where
  ne : q.1 ≠ q.2
  m1 : (q.1, wt ps q.1) ∈ ps
  m2 : (q.2, wt ps q.2) ∈ ps
  le : ∀ r ∈ drP (drP ps q.1) q.2, wt ps q.1 ≤ r.2 ∧ wt ps q.2 ≤ r.2
def stP (n : Int) (ps qs : List Pt) : Nat → List Pt
  | 0 => ps
  | k + 1 => stepP (n + k) (stP n ps qs k) (qs.getD k (0, 0))
def Gd (n : Int) (ps qs : List Pt) : Prop := ∀ k, k < qs.length → OkS (stP n ps qs k) (qs.getD k (0, 0))
theorem OkS.in1 {ps : List Pt} {q : Pt} (h : OkS ps q) : (q.2, wt ps q.2) ∈ drP ps q.1 := drP_mem.mpr ⟨h.m2, fun z => h.ne z.symm⟩
theorem OkS.len {ps : List Pt} {q : Pt} (h : OkS ps q) (hn : Nd ps) : (drP (drP ps q.1) q.2).length + 2 = ps.length := by
  have h1 : (drP ps q.1).length + 1 = ps.length := drP_len (p := (q.1, wt ps q.1)) hn h.m1
  have h2 : (drP (drP ps q.1) q.2).length + 1 = (drP ps q.1).length := drP_len (p := (q.2, wt ps q.2)) (drP_nd hn) h.in1
  omega
theorem Pk.step {n : Int} {k : Nat} {ps : List Pt} {q : Pt} (h : Pk n k ps) (hs : OkS ps q) : Pk n (k + 1) (stepP (n + k) ps q) ∧ (stepP (n + k) ps q).length + 1 = ps.length := by
  have hr : ∀ p ∈ drP (drP ps q.1) q.2, p ∈ ps := fun p hp => (drP_mem.mp (drP_mem.mp hp).1).1
  have w1 : 0 ≤ wt ps q.1 := h.ge _ hs.m1
  have w2 : 0 ≤ wt ps q.2 := h.ge _ hs.m2
  refine ⟨⟨?_, fun p hp => ?_, fun p hp => ?_⟩, ?_⟩
  · show ((drP (drP ps q.1) q.2 ++ [(n + k, _)]).map Prod.fst).Nodup
    rw [List.map_append, List.nodup_append]
    refine ⟨drP_nd (drP_nd h.nd), by simp, fun a ha b hb => ?_⟩
    obtain ⟨p, hp, rfl⟩ := List.mem_map.mp ha
    simp at hb
    subst hb
    have := h.lt p (hr p hp)
    omega
  · rcases List.mem_append.mp hp with hp | hp
    · have := h.lt p (hr p hp); push_cast; omega
    · simp at hp; subst hp; show n + k < n + ((k + 1 : Nat) : Int); push_cast; omega
  · rcases List.mem_append.mp hp with hp | hp
    · exact h.ge p (hr p hp)
    · simp at hp; subst hp; show 0 ≤ wt ps q.1 + wt ps q.2; omega
  · unfold stepP; rw [List.length_append]; have := hs.len h.nd; show _ + 1 + 1 = _; omega
theorem stP_app {n : Int} {ps qs rs : List Pt} : ∀ k, k ≤ qs.length → stP n ps (qs ++ rs) k = stP n ps qs k
  | 0, _ => rfl
  | k + 1, hk => by
    show stepP _ (stP n ps (qs ++ rs) k) _ = stepP _ (stP n ps qs k) _
    rw [stP_app k (by omega), List.getD_eq_getElem?_getD, List.getD_eq_getElem?_getD, List.getElem?_append_left (by omega)]
theorem Gd.take {n : Int} {ps qs : List Pt} (h : Gd n ps qs) (j : Nat) : Gd n ps (qs.take j) ∧ (∀ k, k ≤ j → k ≤ qs.length → stP n ps (qs.take j) k = stP n ps qs k) := by
  have e : ∀ k, k ≤ j → k ≤ qs.length → stP n ps (qs.take j) k = stP n ps qs k := fun k hk hl => by
    conv => rhs; rw [← List.take_append_drop j qs]
    rw [stP_app]; rw [List.length_take]; omega
  refine ⟨fun k hk => ?_, e⟩
  rw [List.length_take] at hk
  rw [e k (by omega) (by omega), List.getD_eq_getElem?_getD, List.getElem?_take, if_pos (by omega), ← List.getD_eq_getElem?_getD]
  exact h k (by omega)
theorem sum_perm {l m : List Int} (h : l.Perm m) : l.sum = m.sum := by
  induction h with
  | nil => rfl
  | cons x _ ih => rw [List.sum_cons, List.sum_cons, ih]
  | swap x y l => rw [List.sum_cons, List.sum_cons, List.sum_cons, List.sum_cons]; omega
  | trans _ _ h1 h2 => exact h1.trans h2
def rmL (ls : List Int) : Int := ((ls.filter fun l => decide (0 < l)).map fun l => (2 : Int) ^ (15 - l).toNat).sum
def tw (p : Pt) : Int := (2 : Int) ^ (15 - p.1).toNat
def sumQ (P : List Pt) (c : Pt → Bool) : Int := (P.map fun p => if 0 < p.1 ∧ c p = true then tw p else 0).sum
theorem tw_pos (p : Pt) : 0 < tw p := Int.pow_pos (by decide)
theorem sumQ_cons (p : Pt) (P : List Pt) (c : Pt → Bool) : sumQ (p :: P) c = (if 0 < p.1 ∧ c p = true then tw p else 0) + sumQ P c := by unfold sumQ; rw [List.map_cons, List.sum_cons]
theorem sumQ_app (P Q : List Pt) (c : Pt → Bool) : sumQ (P ++ Q) c = sumQ P c + sumQ Q c := by unfold sumQ; rw [List.map_append, List.sum_append]
theorem sumQ_perm {P Q : List Pt} (h : P.Perm Q) (c : Pt → Bool) : sumQ P c = sumQ Q c := sum_perm (h.map _)
theorem sumQ_nn : ∀ (P : List Pt) (c : Pt → Bool), 0 ≤ sumQ P c
  | [], _ => Int.le_refl _
  | p :: P, c => by
    rw [sumQ_cons]
    have := sumQ_nn P c
    have := tw_pos p
    split <;> omega
theorem sumQ_mono : ∀ {P : List Pt} {c d : Pt → Bool}, (∀ p ∈ P, c p = true → d p = true) → sumQ P c ≤ sumQ P d
  | [], _, _, _ => Int.le_refl _
  | p :: P, c, d, h => by
    rw [sumQ_cons, sumQ_cons]
    have ih := sumQ_mono (P := P) fun x hx => h x (List.mem_cons_of_mem _ hx)
    have hp := tw_pos p
    have h0 := h p (List.mem_cons_self ..)
    by_cases h1 : 0 < p.1 ∧ c p = true
    · rw [if_pos h1, if_pos ⟨h1.1, h0 h1.2⟩]; omega
    · rw [if_neg h1]
      split <;> omega
theorem sumQ_congr {P : List Pt} {c d : Pt → Bool} (h : ∀ p ∈ P, c p = d p) : sumQ P c = sumQ P d := by
  unfold sumQ
  congr 1
  exact List.map_congr_left fun p hp => by rw [h p hp]
theorem sumQ_zero {P : List Pt} {c : Pt → Bool} (h : ∀ p ∈ P, c p = false) : sumQ P c = 0 := by
  induction P with
  | nil => rfl
  | cons p P ih =>
    rw [sumQ_cons, ih fun x hx => h x (List.mem_cons_of_mem _ hx), h p (List.mem_cons_self ..), if_neg (fun z => by cases z.2)]; rfl
/-- one more -/
theorem sumQ_add : ∀ {P : List Pt} {c d : Pt → Bool} {q : Pt}, q ∈ P → 0 < q.1 → c q = false → d q = true → (∀ p ∈ P, c p = true → d p = true) → sumQ P c + tw q ≤ sumQ P d
  | p :: P, c, d, q, hq, h0, hc, hd, h => by
    rw [sumQ_cons, sumQ_cons]
    have hp := tw_pos p
    have hm := sumQ_mono (P := P) (c := c) (d := d) fun x hx => h x (List.mem_cons_of_mem _ hx)
    rcases List.mem_cons.mp hq with rfl | hq
    · rw [if_neg (fun z => by rw [hc] at z; cases z.2), if_pos ⟨h0, hd⟩]; omega
    · have ih := sumQ_add hq h0 hc hd fun x hx => h x (List.mem_cons_of_mem _ hx)
      have h1 := h p (List.mem_cons_self ..)
      by_cases h2 : 0 < p.1 ∧ c p = true
      · rw [if_pos h2, if_pos ⟨h2.1, h1 h2.2⟩]; omega
      · rw [if_neg h2]
        split <;> omega
theorem sumQ_mul {m : Int} (hm : m ≤ 15) : ∀ {P : List Pt} {c : Pt → Bool}, (∀ p ∈ P, c p = true → 0 < p.1 → p.1 ≤ m) → ∃ t : Int, 0 ≤ t ∧ sumQ P c = t * (2 : Int) ^ (15 - m).toNat
  | [], _, _ => ⟨0, Int.le_refl _, by rw [Int.zero_mul]; rfl⟩
  | p :: P, c, h => by
    obtain ⟨t, ht0, ht⟩ := sumQ_mul hm (P := P) (c := c) fun x hx => h x (List.mem_cons_of_mem _ hx)
    rw [sumQ_cons, ht]
    by_cases h1 : 0 < p.1 ∧ c p = true
    · have h2 := h p (List.mem_cons_self ..) h1.2 h1.1
      refine ⟨2 ^ (m - p.1).toNat + t, by have : 0 < (2 : Int) ^ (m - p.1).toNat := Int.pow_pos (by decide)
                                          omega, ?_⟩
      rw [if_pos h1, Int.add_mul, ← Int.pow_add, show (m - p.1).toNat + (15 - m).toNat = (15 - p.1).toNat by omega]; rfl
    · exact ⟨t, ht0, by rw [if_neg h1, Int.zero_add]⟩
/-- lengths and symbols -/
def enP (ls : List Int) : List Pt := (List.range ls.length).map fun (s : Nat) => (ls.getD s 0, (s : Int))
theorem enP_mem {ls : List Int} {p : Pt} : p ∈ enP ls ↔ 0 ≤ p.2 ∧ p.2 < ls.length ∧ p.1 = ls.getD p.2.toNat 0 := by
  unfold enP
  rw [List.mem_map]
  constructor
  · rintro ⟨s, hs, rfl⟩
    have hs := List.mem_range.mp hs
    exact ⟨by show 0 ≤ (s : Int); omega, by show (s : Int) < _; omega, by show ls.getD s 0 = ls.getD (s : Int).toNat 0; rw [Int.toNat_natCast]⟩
  · rintro ⟨h0, h1, h2⟩
    refine ⟨p.2.toNat, List.mem_range.mpr (by omega), ?_⟩
    rw [← h2, show ((p.2.toNat : Nat) : Int) = p.2 by omega]
def plc (ls : List Int) (s : Int) : Int := sumQ (enP ls) fun p => Y.ltP p (ls.getD s.toNat 0, s)
theorem rm_sumQ (ls : List Int) : rmL ls = sumQ (enP ls) fun _ => true := by
  unfold rmL sumQ enP
  rw [List.map_map]
  have : ∀ l : List Int, ((l.filter fun l => decide (0 < l)).map fun l => (2 : Int) ^ (15 - l).toNat).sum = (l.map fun x => if 0 < x ∧ true = true then (2 : Int) ^ (15 - x).toNat else 0).sum := fun l => by
    induction l with
    | nil => rfl
    | cons x l ih =>
      rw [List.filter_cons, List.map_cons, List.sum_cons, ← ih]
      by_cases h : 0 < x
      · rw [if_pos (decide_eq_true h), if_pos ⟨h, rfl⟩, List.map_cons, List.sum_cons]
      · rw [if_neg (fun z => h (of_decide_eq_true z)), if_neg (fun z => h z.1), Int.zero_add]
  rw [this]
  congr 1
  refine List.ext_getElem (by simp) fun i h1 h2 => ?_
  have hi : i < ls.length := by simpa using h1
  simp only [List.getElem_map, List.getElem_range, Function.comp]
  rw [List.getD_eq_getElem?_getD, List.getElem?_eq_getElem hi]; rfl
/-- the word of a symbol -/
def wordN (ls : List Int) (s : Int) : Int := plc ls s / (2 : Int) ^ (15 - ls.getD s.toNat 0).toNat
structure Ln (ls : List Int) : Prop where
  bd : ∀ l ∈ ls, 0 ≤ l ∧ l ≤ 15
  room : rmL ls ≤ 32768
theorem Ln.at {ls : List Int} (h : Ln ls) {s : Int} (h0 : 0 ≤ s) (h1 : s < ls.length) : 0 ≤ ls.getD s.toNat 0 ∧ ls.getD s.toNat 0 ≤ 15 := by
  rw [List.getD_eq_getElem?_getD, List.getElem?_eq_getElem (show s.toNat < ls.length by omega)]
  exact h.bd _ (List.getElem_mem _)
section
variable {ls : List Int} (h : Ln ls) {s : Int} (h0 : 0 ≤ s) (h1 : s < ls.length) (hl : 0 < ls.getD s.toNat 0)
include h h0 h1 hl
theorem plc_mul : plc ls s = wordN ls s * (2 : Int) ^ (15 - ls.getD s.toNat 0).toNat ∧ 0 ≤ wordN ls s := by
  have hb := h.at h0 h1
  obtain ⟨t, ht0, ht⟩ := sumQ_mul (m := ls.getD s.toNat 0) (by omega) (P := enP ls) (c := fun p => Y.ltP p (ls.getD s.toNat 0, s)) (fun p hp hc h0 => by
    have := of_decide_eq_true hc
    have : p.1 < ls.getD s.toNat 0 ∨ (p.1 = ls.getD s.toNat 0 ∧ p.2 < s) := this
    omega)
  have hp : (0 : Int) < 2 ^ (15 - ls.getD s.toNat 0).toNat := Int.pow_pos (by decide)
  have e : wordN ls s = t := by
    unfold wordN plc
    rw [ht, Int.mul_ediv_cancel _ (by omega)]
  rw [e]
  exact ⟨ht, ht0⟩
theorem plc_top : plc ls s + (2 : Int) ^ (15 - ls.getD s.toNat 0).toNat ≤ 32768 := by
  have := sumQ_add (P := enP ls) (c := fun p => Y.ltP p (ls.getD s.toNat 0, s)) (d := fun _ => true) (q := (ls.getD s.toNat 0, s)) (enP_mem.mpr ⟨h0, h1, rfl⟩) hl (by unfold Y.ltP; simp) rfl (fun _ _ _ => rfl)
  have hr := h.room
  rw [rm_sumQ] at hr
  exact Int.le_trans this hr
theorem wordN_lt : wordN ls s < (2 : Int) ^ (ls.getD s.toNat 0).toNat := by
  have hb := h.at h0 h1
  obtain ⟨e, hn⟩ := plc_mul h h0 h1 hl
  have ht := plc_top h h0 h1 hl
  rw [e] at ht
  have hT : (32768 : Int) = 2 ^ (ls.getD s.toNat 0).toNat * 2 ^ (15 - ls.getD s.toNat 0).toNat := by
    rw [← Int.pow_add, show (ls.getD s.toNat 0).toNat + (15 - ls.getD s.toNat 0).toNat = 15 by omega]; decide
  have hp : (0 : Int) < 2 ^ (15 - ls.getD s.toNat 0).toNat := Int.pow_pos (by decide)
  rw [hT] at ht
  generalize (2 : Int) ^ (15 - ls.getD s.toNat 0).toNat = u at *
  generalize (2 : Int) ^ (ls.getD s.toNat 0).toNat = T at *
  have : (wordN ls s + 1) * u ≤ T * u := by rw [Int.add_mul, Int.one_mul]; exact ht
  have := Int.le_of_mul_le_mul_right this hp
  omega
end
theorem enP_nd (ls : List Int) : (enP ls).Nodup := by
  unfold enP
  refine List.Pairwise.map _ (fun a b hab => ?_) List.nodup_range
  intro z
  have : (a : Int) = b := congrArg Prod.snd z
  exact hab (by omega)
theorem sort_strict (P : List Pt) (hn : P.Nodup) : (P.mergeSort lePp).Pairwise fun x y => Y.ltP x y = true := by
  have h1 := lePp_pw P
  have h2 : (P.mergeSort lePp).Nodup := (lePp_perm P).nodup_iff.mpr hn
  refine (h1.and h2).imp fun {a b} h => ?_
  obtain ⟨h, hne⟩ := h
  unfold Y.ltP
  refine decide_eq_true ?_
  rcases h with h | ⟨h, h'⟩
  · exact .inl h
  · refine .inr ⟨h, ?_⟩
    have : a.2 ≠ b.2 := fun z => hne (Prod.ext h z)
    omega
theorem take_sum {P : List Pt} (hs : P.Pairwise fun x y => Y.ltP x y = true) {i : Nat} {p : Pt} (hi : P[i]? = some p) : sumQ (P.take i) (fun _ => true) = sumQ P fun x => Y.ltP x p := by
  obtain ⟨hil, he⟩ := List.getElem?_eq_some_iff.mp hi
  have hsp : P = P.take i ++ p :: P.drop (i + 1) := by
    conv => lhs; rw [← List.take_append_drop i P, List.drop_eq_getElem_cons hil, he]
  rw [hsp] at hs
  obtain ⟨_, h2, h3⟩ := List.pairwise_append.mp hs
  obtain ⟨h4, _⟩ := List.pairwise_cons.mp h2
  conv => rhs; rw [hsp, sumQ_app, sumQ_cons]
  rw [sumQ_zero (P := P.drop (i + 1)) (c := fun x => Y.ltP x p) (fun q hq => by
    have := h4 q hq
    unfold Y.ltP at *
    simp at *
    omega), if_neg (fun z => by
    have := of_decide_eq_true z.2
    omega), sumQ_congr (P := P.take i) (c := fun x => Y.ltP x p) (d := fun _ => true) fun q hq => h3 q hq p (List.mem_cons_self ..)]
  omega
theorem kb_int_int : kitB "int" "int" = some true := by decide +kernel
theorem kb_int_bool : kitB "int" "bool" = some false := by decide +kernel
theorem is_whole_int (i : Int) (M : List Cn) : m_is_whole [.int i] M = .ok (.val (.bl true)) M := by
  refine fo_ok (P := fun _ _ => True) ?_
  walk_at "f0"; unfold b_is_whole
  walk_at "w"
  refine w_isi (by exact rfl) (by exact rfl) kb_int_int ?_
  walk_at "w"
  refine w_isi (by exact rfl) (by exact rfl) kb_int_bool ?_
  walk_at "w"
  exact ⟨rfl, rfl⟩
theorem bls_map' (bs : List Bool) : blsD (bs.map D.bl) = some bs := by
  induction bs with
  | nil => rfl
  | cons n ns ih => show (blsD (ns.map D.bl)).map (n :: ·) = _; rw [ih]; rfl
theorem is_list_ok {ns : List Int} {lo hi : Int} (h1 : 1 ≤ ns.length) (h2 : ns.length ≤ 64) (hb : ∀ n ∈ ns, lo ≤ n ∧ n ≤ hi) (M : List Cn) : m_is_list_of [.lst (ns.map D.int), .int lo, .int hi] M = .ok (.val (.bl true)) M := by
  refine fo_ok (P := fun _ _ => True) ?_
  walk_at "f0"; unfold b_is_list_of
  walk_at "w"
  refine w_isi (b := true) (by exact rfl) (by exact rfl) (by decide +kernel) ?_
  walk_at "w"
  rw [List.length_map]
  walk_at "w"
  refine w_lcMap (fun _ => .bl true) ?_ ?_ ?_
  · rw [List.length_map]; show ns.length ≤ 16777216; omega
  · intro x hx
    obtain ⟨n, hn, rfl⟩ := List.mem_map.mp hx
    obtain ⟨b1, b2⟩ := hb n hn
    walk_at "w"
    refine fo_eq (is_whole_int n M) ?_
    walk_at "w"
    rw [decide_eq_true b2]
    exact ⟨rfl, rfl⟩
  · walk_at "w"
    have e : (ns.map D.int).map (fun _ => D.bl true) = (ns.map fun _ => true).map D.bl := by rw [List.map_map, List.map_map]; rfl
    refine w_bls (bs := ns.map fun _ => true) rfl (by rw [e]; exact bls_map' _) ?_
    walk_at "w"
    rw [List.all_map, show (ns.all (id ∘ fun _ => true)) = true by rw [List.all_eq_true]; intro _ _; rfl]
    exact ⟨rfl, rfl⟩
theorem room_ok {ls : List Int} (hb : ∀ l ∈ ls, 0 ≤ l ∧ l ≤ 15) (hz : ls.length ≤ 1000) (M : List Cn) : m_room_of [.lst (ls.map D.int)] M = .ok (.val (.int (rmL ls))) M := by
  refine fo_ok (P := fun _ _ => True) ?_
  walk_at "f0"; unfold b_room_of
  walk_at "w"
  refine w_lcFil (fun d => match d with | .int i => decide (0 < i) | _ => false) (fun d => match d with | .int i => D.int (2 ^ (15 - i).toNat) | d => d) ?_ ?_ ?_
  · rw [List.length_map]; show _ ≤ 16777216; omega
  · intro x hx
    obtain ⟨l, hl, rfl⟩ := List.mem_map.mp hx
    have := hb l hl
    have sh : CShl 1 (15 - l) := cshl_1 (by omega) (by omega)
    walk_at "w"
    refine ⟨rfl, ?_⟩
    refine z_if (fun h => ?_) (fun h => ?_)
    · walk_at "w"
      rw [Int.one_mul]
      exact ⟨rfl, rfl⟩
    · rfl
  have e : (((ls.map D.int).filter (fun d => match d with | .int i => decide (0 < i) | _ => false)).map (fun d => match d with | .int i => D.int (2 ^ (15 - i).toNat) | d => d)) = ((ls.filter fun l => decide (0 < l)).map fun l => (2 : Int) ^ (15 - l).toNat).map D.int := by
    rw [List.filter_map, List.map_map, List.map_map]; rfl
  rw [e]
  walk_at "ds"
  walk_at "w"
  refine w_ints (ns := (ls.filter fun l => decide (0 < l)).map fun l => (2 : Int) ^ (15 - l).toNat) (d := .int (rmL ls)) rfl (intsD_map _) rfl ?_
  walk_at "w"
  exact ⟨rfl, rfl⟩
theorem fits_ok {ls : List Int} (hb : ∀ l ∈ ls, 0 ≤ l ∧ l ≤ 15) (hz : ls.length ≤ 1000) (M : List Cn) : m_fits [.lst (ls.map D.int)] M = .ok (.val (.bl (decide (rmL ls ≤ 32768)))) M := by
  refine fo_ok (P := fun _ _ => True) ?_
  have sh : CShl 1 15 := cshl_1 (by omega) (by omega)
  walk_at "f0"; unfold b_fits
  walk_at "w"
  refine fo_eq (room_ok hb hz M) ?_
  walk_at "w"
  exact ⟨rfl, rfl⟩
theorem check_lengths_ok {ls : List Int} (h1 : 1 ≤ ls.length) (h2 : ls.length ≤ 64) (hb : ∀ l ∈ ls, 0 ≤ l ∧ l ≤ 15) (hr : rmL ls ≤ 32768) (M : List Cn) : m_check_lengths [.lst (ls.map D.int)] M = .ok (.val .non) M := by
  refine fo_ok (P := fun _ _ => True) ?_
  walk_at "f0"; unfold b_check_lengths
  walk_at "w"
  refine fo_eq (is_list_ok h1 h2 hb M) ?_
  walk_at "w"
  refine fo_eq (fits_ok hb (by omega) M) ?_
  rw [decide_eq_true hr]
  walk_at "w"
  exact ⟨trivial, rfl⟩
def wrd (ls : List Int) (s : Nat) : D := if 0 < ls.getD s 0 then tP (ls.getD s 0, wordN ls (s : Int)) else .non
theorem range_setD {n i : Nat} {f : Nat → D} {v : D} : ((List.range n).map f).set i v = (List.range n).map fun s => if s = i then v else f s := by
  refine List.ext_getElem (by simp) fun k h1 h2 => ?_
  rw [List.getElem_set]
  simp only [List.getElem_map, List.getElem_range]
  by_cases h : i = k
  · rw [if_pos h, if_pos h.symm]
  · rw [if_neg h, if_neg (fun z => h z.symm)]
theorem en_pairs (ls : List Int) : (enumL (ls.map D.int)).map (fun d => match d with | .tup [a, b] => D.tup [b, a] | d => d) = (enP ls).map tP := by
  refine List.ext_getElem? fun i => ?_
  rw [List.getElem?_map]
  by_cases hi : i < ls.length
  · have h1 : (enumL (ls.map D.int))[i]? = some (.tup [.int (i : Nat), .int ls[i]]) := by
      cases q : (enumL (ls.map D.int))[i]? with
      | none => rw [List.getElem?_eq_none_iff, enum_len, List.length_map] at q; omega
      | some d =>
        obtain ⟨x, hx, rfl⟩ := enum_get q
        rw [List.getElem?_map, List.getElem?_eq_getElem hi] at hx
        rw [← Option.some.inj hx]
    rw [h1]
    unfold enP
    rw [List.map_map, List.getElem?_map, List.getElem?_range hi]
    show some (D.tup [.int ls[i], .int (i : Nat)]) = some (tP (ls.getD i 0, (i : Int)))
    rw [List.getD_eq_getElem?_getD, List.getElem?_eq_getElem hi]; rfl
  · rw [List.getElem?_eq_none_iff.mpr (by rw [enum_len, List.length_map]; omega), List.getElem?_eq_none_iff.mpr (by unfold enP; simp; omega)]; rfl
theorem words_ok {ls : List Int} (h1 : 1 ≤ ls.length) (h2 : ls.length ≤ 64) (h : Ln ls) (M : List Cn) : m_words_of [.lst (ls.map D.int)] M = .ok (.new (.lst ((List.range ls.length).map (wrd ls)))) M := by
  refine fx_ok ?_
  walk_at "fx"; unfold b_words_of
  walk_at "w"
  refine fx_eq (check_lengths_ok h1 h2 h.bd h.room M) ?_
  walk_at "w"
  refine w_lcMap (fun _ => .non) ?_ ?_ ?_
  · rw [List.length_map]; show _ ≤ 16777216; omega
  · intro x hx
    walk_at "w"
    exact ⟨rfl, rfl⟩
  walk_at "w"
  refine w_lcMap (fun d => match d with | .tup [a, b] => D.tup [b, a] | d => d) ?_ ?_ ?_
  · rw [enum_len, List.length_map]; show _ ≤ 16777216; omega
  · intro x hx
    obtain ⟨i, hi⟩ := List.mem_iff_getElem?.mp hx
    obtain ⟨y, hy, rfl⟩ := enum_get hi
    walk_at "w"
    exact ⟨rfl, rfl⟩
  rw [en_pairs]
  walk_at "ds"
  walk_at "w"
  refine w_sort rfl (sortOk_pairs _) ?_
  rw [sort_pairs]
  have hstr := sort_strict (enP ls) (enP_nd ls)
  have hprm := lePp_perm (enP ls)
  generalize (enP ls).mergeSort lePp = P at *
  have hPl : P.length = ls.length := by rw [hprm.length_eq]; unfold enP; simp
  have hPm : ∀ p ∈ P, 0 ≤ p.2 ∧ p.2 < ls.length ∧ p.1 = ls.getD p.2.toNat 0 := fun p hp => enP_mem.mp (hprm.mem_iff.mp hp)
  have hroom : sumQ P (fun _ => true) ≤ 32768 := by rw [sumQ_perm hprm, ← rm_sumQ]; exact h.room
  walk_at "w"
  refine ⟨_, rfl, ?_⟩
  refine w_forN (fun i s => ∃ (nu la : Int) (e4 e5 : Option Ent), ((la = 0 ∧ nu = 0 ∧ sumQ (P.take i) (fun _ => true) = 0) ∨ (0 < la ∧ la ≤ 15 ∧ 0 ≤ nu ∧ (nu + 1) * (2 : Int) ^ (15 - la).toNat = sumQ (P.take i) (fun _ => true) ∧ ∀ j p, i ≤ j → P[j]? = some p → la ≤ p.1)) ∧ s = ⟨[some (.fz (.lst (ls.map D.int))), some (.ow (.lst ((List.range ls.length).map fun s => if (ls.getD s 0, (s : Int)) ∈ P.take i then wrd ls s else .non))), some (.fz (.int nu)), some (.fz (.int la)), e4, e5], M⟩) ⟨0, 0, none, none, .inl ⟨rfl, rfl, rfl⟩, ?_⟩ ?_ ?_
  · have e : (ls.map D.int).map (fun _ => D.non) = (List.range ls.length).map fun s => if (ls.getD s 0, (s : Int)) ∈ P.take 0 then wrd ls s else .non := by
      refine List.ext_getElem (by simp) fun i q1 q2 => ?_
      simp
    rw [← e]; rfl
  · rintro i y s hi ⟨nu, la, e4, e5, hst, rfl⟩
    obtain ⟨p, hp, rfl⟩ := map_get hi
    obtain ⟨hil, hie⟩ := List.getElem?_eq_some_iff.mp hp
    obtain ⟨p0, p1, p2⟩ := hPm p (List.mem_of_getElem? hp)
    have htk : P.take (i + 1) = P.take i ++ [p] := by rw [List.take_add_one, hp]; rfl
    have hsm : sumQ (P.take (i + 1)) (fun _ => true) = sumQ (P.take i) (fun _ => true) + (if 0 < p.1 then tw p else 0) := by
      rw [htk, sumQ_app, sumQ_cons]
      show _ + ((if 0 < p.1 ∧ true = true then tw p else 0) + 0) = _
      by_cases q : 0 < p.1
      · rw [if_pos q, if_pos ⟨q, rfl⟩]; omega
      · rw [if_neg q, if_neg (fun z => q z.1)]; omega
    have hpl : sumQ (P.take i) (fun _ => true) = plc ls p.2 := by
      rw [take_sum hstr hp]
      unfold plc
      rw [sumQ_perm hprm, ← p2]
    have hb := h.at p0 p1
    have hmono : ∀ j q, i + 1 ≤ j → P[j]? = some q → p.1 ≤ q.1 := fun j q hj hq => by
      obtain ⟨hjl, hje⟩ := List.getElem?_eq_some_iff.mp hq
      have := List.pairwise_iff_getElem.mp hstr i j hil hjl (by omega)
      rw [hie, hje] at this
      have := of_decide_eq_true this
      omega
    have hnx : p.1 ≤ 0 → ((List.range ls.length).map fun s => if (ls.getD s 0, (s : Int)) ∈ P.take (i + 1) then wrd ls s else D.non) = (List.range ls.length).map fun s => if (ls.getD s 0, (s : Int)) ∈ P.take i then wrd ls s else D.non := fun hz => by
      refine List.map_congr_left fun s hs => ?_
      rw [htk]
      by_cases q : (ls.getD s 0, (s : Int)) ∈ P.take i
      · rw [if_pos q, if_pos (List.mem_append_left _ q)]
      · rw [if_neg q]
        by_cases q2 : (ls.getD s 0, (s : Int)) = p
        · rw [if_pos (List.mem_append_right _ (List.mem_singleton.mpr q2))]
          unfold wrd
          rw [if_neg (by have : ls.getD s 0 = p.1 := congrArg Prod.fst q2; omega)]
        · rw [if_neg (fun z => by
            rcases List.mem_append.mp z with z | z
            · exact q z
            · exact q2 (List.mem_singleton.mp z))]
    have hset : ∀ n : Int, 0 < p.1 → n = wordN ls p.2 → ((List.range ls.length).map fun s => if (ls.getD s 0, (s : Int)) ∈ P.take i then wrd ls s else D.non).set p.2.toNat (tP (p.1, n)) = (List.range ls.length).map fun s => if (ls.getD s 0, (s : Int)) ∈ P.take (i + 1) then wrd ls s else D.non := fun n hpos en => by
      rw [range_setD]
      refine List.map_congr_left fun s hs => ?_
      rw [htk]
      by_cases q : s = p.2.toNat
      · have ep : (ls.getD s 0, (s : Int)) = p := Prod.ext (by show ls.getD s 0 = p.1; rw [p2, q]) (by show (s : Int) = p.2; omega)
        rw [if_pos q, if_pos (List.mem_append_right _ (List.mem_singleton.mpr ep))]
        unfold wrd
        have e1 : ls.getD s 0 = p.1 := congrArg Prod.fst ep
        have e2 : (s : Int) = p.2 := congrArg Prod.snd ep
        rw [e1, if_pos hpos, e2, en]
      · have q2 : (ls.getD s 0, (s : Int)) ≠ p := fun z => q (by have : (s : Int) = p.2 := congrArg Prod.snd z; omega)
        rw [if_neg q]
        by_cases q3 : (ls.getD s 0, (s : Int)) ∈ P.take i
        · rw [if_pos q3, if_pos (List.mem_append_left _ q3)]
        · rw [if_neg q3, if_neg (fun z => by
            rcases List.mem_append.mp z with z | z
            · exact q3 z
            · exact q2 (List.mem_singleton.mp z))]
    walk_at "w"
    refine z_if (fun hpos => ?_) (fun hpos => ?_)
    · rw [if_pos hpos] at hsm
      have hwm := plc_mul h p0 p1 (by rw [← p2]; exact hpos)
      rw [← p2, ← hpl] at hwm
      obtain ⟨hwm, hwn⟩ := hwm
      have hpp : (0 : Int) < 2 ^ (15 - p.1).toNat := Int.pow_pos (by decide)
      have hfin : (wordN ls p.2 + 1) * (2 : Int) ^ (15 - p.1).toNat = sumQ (P.take (i + 1)) fun _ => true := by
        rw [hsm, hwm, Int.add_mul, Int.one_mul]; rfl
      walk_at "w"
      rcases hst with ⟨rfl, rfl, hz⟩ | ⟨hl0, hl1, hn0, hsum, hle⟩
      · have hw0 : (0 : Int) = wordN ls p.2 := by
          rw [hz] at hwm
          rcases Int.mul_eq_zero.mp hwm.symm with e | e
          · exact e.symm
          · omega
        walk_at "w"
        refine so_setLst (l := (List.range ls.length).map fun s => if (ls.getD s 0, (s : Int)) ∈ P.take i then wrd ls s else .non) rfl (ixN_nn p0 (by simpa using p1)) ?_
        rw [show D.tup [.int p.1, .int 0] = tP (p.1, 0) from rfl, hset 0 hpos hw0]
        walk_at "ds"
        walk_at "w"
        exact ⟨0, p.1, _, _, .inr ⟨hpos, by omega, by decide, by rw [hw0]; exact hfin, hmono⟩, rfl⟩
      · have hlp := hle i p (Nat.le_refl _) hp
        have hnum : (nu + 1) * (2 : Int) ^ (p.1 - la).toNat = wordN ls p.2 := by
          have : ((nu + 1) * (2 : Int) ^ (p.1 - la).toNat) * 2 ^ (15 - p.1).toNat = wordN ls p.2 * 2 ^ (15 - p.1).toNat := by
            rw [Int.mul_assoc, ← Int.pow_add, show (p.1 - la).toNat + (15 - p.1).toNat = (15 - la).toNat by omega, hsum, hwm]
          exact Int.eq_of_mul_eq_mul_right (by omega) this
        have hnb : nu + 1 ≤ 32768 := by
          have h15 : sumQ (P.take i) (fun _ => true) ≤ 32768 := by
            refine Int.le_trans ?_ hroom
            conv => rhs; rw [← List.take_append_drop i P, sumQ_app]
            have := sumQ_nn (P.drop i) fun _ => true
            omega
          have hp1 : (1 : Int) ≤ 2 ^ (15 - la).toNat := Int.add_one_le_of_lt (Int.pow_pos (by decide))
          have : (nu + 1) * 1 ≤ (nu + 1) * 2 ^ (15 - la).toNat := Int.mul_le_mul_of_nonneg_left hp1 (by omega)
          omega
        have sh : CShl (nu + 1) (p.1 - la) := cshl_N (m := 17) (by have : (2 : Nat) ^ 17 = 131072 := rfl; omega) (by decide) (by omega) (by omega)
        walk_at "w"
        refine so_setLst (l := (List.range ls.length).map fun s => if (ls.getD s 0, (s : Int)) ∈ P.take i then wrd ls s else .non) rfl (ixN_nn p0 (by simpa using p1)) ?_
        rw [hnum, show D.tup [.int p.1, .int (wordN ls p.2)] = tP (p.1, wordN ls p.2) from rfl, hset _ hpos rfl]
        walk_at "ds"
        walk_at "w"
        exact ⟨_, p.1, _, _, .inr ⟨hpos, by omega, hwn, hfin, hmono⟩, rfl⟩
    · rw [if_neg hpos, Int.add_zero] at hsm
      walk_at "w"
      rw [← hnx (by omega)]
      refine ⟨nu, la, _, _, ?_, rfl⟩
      rcases hst with ⟨rfl, rfl, hz⟩ | ⟨hl0, hl1, hn0, hsum, hle⟩
      · exact .inl ⟨rfl, rfl, by rw [hsm]; exact hz⟩
      · exact .inr ⟨hl0, hl1, hn0, by rw [hsm]; exact hsum, fun j q hj hq => hle j q (by omega) hq⟩
  · rintro s ⟨nu, la, e4, e5, hst, rfl⟩
    rw [List.length_map, List.take_length]
    walk_at "w"
    refine ⟨?_, rfl⟩
    congr 2
    refine List.map_congr_left fun s hs => ?_
    have hs := List.mem_range.mp hs
    rw [if_pos (hprm.mem_iff.mpr (enP_mem.mpr ⟨by show (0 : Int) ≤ (s : Int); omega, by show (s : Int) < _; omega, by show ls.getD s 0 = ls.getD (s : Int).toNat 0; rw [Int.toNat_natCast]⟩))]
theorem mixed_ok (c : Int) {k : Int} (hk : 0 ≤ k) (hk2 : k ≤ 1000) (M : List Cn) : Fo (fun a M' => ∃ x : Int, a = .val (.int x) ∧ 0 ≤ x ∧ x < 2147483648 ∧ M' = M) (m_l_mixed [.int c, .int k] M) := by
  have sh : CShl 1 90 := ⟨by decide, by decide +kernel⟩
  walk_at "f0"; unfold b_l_mixed
  walk_at "w"
  refine z_if (fun h1 => ?_) (fun h1 => ?_)
  · walk_at "w"
    refine z_if (fun h2 => ?_) (fun h2 => ?_)
    · walk_at "w"
      refine z_if (fun h3 => ?_) (fun h3 => ?_)
      · walk_at "w"
        exact ⟨_, rfl, by omega, by omega, rfl⟩
      · walk_at "w"
        exact ⟨_, rfl, by omega, by omega, rfl⟩
    · walk_at "w"
      exact ⟨_, rfl, by omega, by omega, rfl⟩
  · walk_at "w"
    exact ⟨_, rfl, by omega, by omega, rfl⟩
theorem cell_at_ok {ns : List Int} {k : Int} (h0 : 0 ≤ k) (M : List Cn) : Fo (fun a M' => (∃ x : Int, a = .val (.int x)) ∧ M' = M) (m_l_cell_at [.clst (ns.map D.int), .int k] M) := by
  walk_at "f0"; unfold b_l_cell_at
  walk_at "w"
  rw [List.length_map]
  refine z_if (fun h => ?_) (fun h => ?_)
  · walk_at "w"
    exact w_ixI rfl rfl rfl h0 h ⟨⟨_, rfl⟩, rfl⟩
  · walk_at "w"
    exact ⟨⟨_, rfl⟩, rfl⟩
theorem rm_nil : rmL [] = 0 := rfl
theorem rm_cons (x : Int) (l : List Int) : rmL (x :: l) = (if 0 < x then (2 : Int) ^ (15 - x).toNat else 0) + rmL l := by
  unfold rmL
  rw [List.filter_cons]
  split
  · rename_i h; rw [if_pos (of_decide_eq_true h), List.map_cons, List.sum_cons]
  · rename_i h; rw [if_neg (fun z => h (decide_eq_true z)), Int.zero_add]
theorem rm_app (a b : List Int) : rmL (a ++ b) = rmL a + rmL b := by
  induction a with
  | nil => rw [List.nil_append, rm_nil, Int.zero_add]
  | cons x a ih => rw [List.cons_append, rm_cons, rm_cons, ih]; omega
theorem rm_rep (n : Nat) (x : Int) : rmL (List.replicate n x) = n * (if 0 < x then (2 : Int) ^ (15 - x).toNat else 0) := by
  induction n with
  | zero => simp [rm_nil]
  | succ n ih => rw [List.replicate_succ, rm_cons, ih]; rw [show ((n + 1 : Nat) : Int) = n + 1 by omega, Int.add_mul, Int.one_mul]; omega
theorem rep_ints (n : Nat) (x : Int) : (List.replicate n [D.int x]).flatten = (List.replicate n x).map D.int := by
  induction n with
  | zero => rfl
  | succ n ih => rw [List.replicate_succ, List.flatten_cons, ih, List.replicate_succ]; rfl
theorem lengths_ok (a b : Int) (M : List Cn) : Fo (fun r M' => ∃ ls : List Int, r = .new (.lst (ls.map D.int)) ∧ 1 ≤ ls.length ∧ ls.length ≤ 64 ∧ Ln ls ∧ M' = M) (m_l_lengths [.int a, .int b] M) := by
  have sh : CShl 1 15 := ⟨by decide, by decide +kernel⟩
  walk_at "f0"; unfold b_l_lengths
  walk_at "w"
  refine fo_use (mixed_ok a (by decide) (by decide) M) ?_
  rintro _ M1 ⟨x, rfl, hx0, hx1, rfl⟩
  walk_at "w"
  refine w_ixI (ns := [1 + x / 8 % 64, 33, 1 + x / 8 % 8]) rfl rfl rfl (by omega) (by show x % 3 < 3; omega) ?_
  obtain ⟨n, en, hn1, hn2⟩ : ∃ n : Int, ([1 + x / 8 % 64, 33, 1 + x / 8 % 8] : List Int).getD (x % 3).toNat 0 = n ∧ 1 ≤ n ∧ n ≤ 64 := by
    rcases (show x % 3 = 0 ∨ x % 3 = 1 ∨ x % 3 = 2 by omega) with e | e | e <;> rw [e]
    · exact ⟨1 + x / 8 % 64, rfl, by omega, by omega⟩
    · exact ⟨33, rfl, by decide, by decide⟩
    · exact ⟨1 + x / 8 % 8, rfl, by omega, by omega⟩
  rw [en]
  walk_at "w"
  refine z_if (fun w0 => ?_) (fun w0 => ?_)
  · walk_at "w"
    refine w_mulL (l := [.int (x / 8192 % 3 * 6)]) rfl rfl ⟨by omega, by omega, by show 1 * _ ≤ 16777216; omega⟩ ?_
    rw [rep_ints]
    walk_at "w"
    obtain ⟨q, eq, hq⟩ : ∃ q, x / 8192 % 3 * 6 = q ∧ (q = 0 ∨ q = 6 ∨ q = 12) := ⟨_, rfl, by omega⟩
    rw [eq]
    refine ⟨_, rfl, by rw [List.length_replicate]; omega, by rw [List.length_replicate]; omega, ⟨fun l hl => by rw [List.eq_of_mem_replicate hl]; omega, ?_⟩, rfl⟩
    rw [rm_rep]
    have hn : (((min n 40).toNat : Nat) : Int) ≤ 40 := by omega
    have hn0 : (0 : Int) ≤ (((min n 40).toNat : Nat) : Int) := by omega
    generalize (((min n 40).toNat : Nat) : Int) = N at hn hn0 ⊢
    rcases hq with e | e | e <;> subst e
    · rw [if_neg (by decide)]; omega
    · rw [if_pos (by decide), show (2 : Int) ^ ((15 : Int) - 6).toNat = 512 from by decide]; omega
    · rw [if_pos (by decide), show (2 : Int) ^ ((15 : Int) - 12).toNat = 8 from by decide]; omega
  · obtain ⟨way, eway⟩ : ∃ way, way = x / 1024 % 4 := ⟨_, rfl⟩
    have hway : way = 1 ∨ way = 2 ∨ way = 3 := by omega
    rw [← eway]
    walk_at "w"
    rw [show (1 : Int) * 2 ^ Int.toNat 15 = 32768 from by decide]
    refine w_forN (fun i s => ∃ (ls : List Int) (room : Int) (e7 e8 : Option Ent), s = ⟨[some (.fz (.int a)), some (.fz (.int b)), some (.fz (.int x)), some (.fz (.int n)), some (.fz (.int way)), some (.ow (.lst (ls.map D.int))), some (.fz (.int room)), e7, e8], M1⟩ ∧ ls.length = i ∧ (∀ l ∈ ls, 0 ≤ l ∧ l ≤ 15) ∧ rmL ls + room = 32768 ∧ 0 ≤ room) ⟨[], 32768, none, none, rfl, rfl, (fun l h => by cases h), by rw [rm_nil]; rfl, by decide⟩ ?_ ?_
    · rintro i y s hi ⟨ls, room, e7, e8, rfl, hl, hb, hr, hr0⟩
      obtain ⟨hi1, rfl⟩ := rng_get hi
      rw [Int.zero_add]
      walk_at "w"
      refine fo_use (mixed_ok b (k := (i : Int)) (by omega) (by omega) M1) ?_
      rintro _ M1 ⟨u, rfl, hu0, hu1, rfl⟩
      walk_at "w"
      refine w_ixI (ns := [16, 7, 12]) rfl rfl rfl (by omega) (by show way - 1 < 3; omega) ?_
      obtain ⟨v, ev, hv1, hv2⟩ : ∃ v : Int, ([16, 7, 12] : List Int).getD (way - 1).toNat 0 = v ∧ 1 ≤ v ∧ v ≤ 16 := by
        rcases hway with e | e | e <;> rw [e]
        · exact ⟨16, rfl, by decide, by decide⟩
        · exact ⟨7, rfl, by decide, by decide⟩
        · exact ⟨12, rfl, by decide, by decide⟩
      rw [ev]
      have hq0 := Int.emod_nonneg u (b := v) (by omega)
      have hq1 := Int.emod_lt_of_pos u (b := v) (by omega)
      walk_at "wi"
      obtain ⟨q, eq⟩ : ∃ q, q = u % v := ⟨_, rfl⟩
      rw [← eq] at hq0 hq1 ⊢
      have sh2 : CShl 1 (15 - q) := cshl_1 (by omega) (by omega)
      refine w_join (fun s => ∃ l : Int, s = ⟨[some (.fz (.int a)), some (.fz (.int b)), some (.fz (.int x)), some (.fz (.int n)), some (.fz (.int way)), some (.ow (.lst (ls.map D.int))), some (.fz (.int room)), some (.fz (.int (i : Int))), some (.fz (.int l))], M1⟩ ∧ 0 ≤ l ∧ l ≤ 15 ∧ (0 < l → (2 : Int) ^ (15 - l).toNat ≤ room)) ?_ ?_
      · walk_at "w"
        refine z_if (fun c1 => ?_) (fun c1 => ?_)
        · walk_at "w"
          refine z_if (fun c2 => ?_) (fun c2 => ?_)
          · walk_at "w"
            exact ⟨0, rfl, by decide, by decide, fun z => absurd z (by decide)⟩
          · walk_at "w"
            refine ⟨q, rfl, by omega, by omega, fun _ => ?_⟩
            rw [Int.one_mul] at c2
            omega
        · walk_at "w"
          exact ⟨q, rfl, by omega, by omega, fun z => absurd z c1⟩
      · rintro s ⟨l, e, hl0, hl1, hl2⟩
        subst e
        have sh3 : CShl 1 (15 - l) := cshl_1 (by omega) (by omega)
        walk_at "wi"
        refine w_join (fun s => s = ⟨[some (.fz (.int a)), some (.fz (.int b)), some (.fz (.int x)), some (.fz (.int n)), some (.fz (.int way)), some (.ow (.lst (ls.map D.int))), some (.fz (.int (room - if 0 < l then (2 : Int) ^ (15 - l).toNat else 0))), some (.fz (.int (i : Int))), some (.fz (.int l))], M1⟩) ?_ ?_
        · walk_at "w"
          refine z_if (fun c1 => ?_) (fun c1 => ?_)
          · walk_at "w"
            rw [if_pos c1, Int.one_mul]
          · walk_at "w"
            rw [if_neg c1, Int.sub_zero]
        · intro s e
          subst e
          walk_at "w"
          refine w_app (l := ls.map D.int) rfl (by rw [List.length_map]; show _ < 16777216; omega) ?_
          walk_at "ds"
          refine ⟨ls ++ [l], room - (if 0 < l then (2 : Int) ^ (15 - l).toNat else 0), some (.fz (.int (i : Int))), some (.fz (.int l)), ?_, by rw [List.length_append, hl]; rfl, ?_, ?_, ?_⟩
          · rw [List.map_append]; rfl
          · intro z hz
            rcases List.mem_append.mp hz with k | k
            · exact hb z k
            · rw [List.mem_singleton.mp k]; exact ⟨hl0, hl1⟩
          · rw [rm_app, rm_cons, rm_nil]; omega
          · split
            · rename_i c; have := hl2 c; omega
            · omega
    · rintro s ⟨ls, room, e7, e8, rfl, hl, hb, hr, hr0⟩
      rw [rng_len] at hl
      walk_at "w"
      exact ⟨ls, rfl, by omega, by omega, ⟨hb, by omega⟩, rfl⟩
def b2i (b : Bool) : Int := if b then 1 else 0
def val : List Bool → Int
  | [] => 0
  | b :: bs => b2i b * 2 ^ bs.length + val bs
/-- the bits of a number, the highest first -/
def bitsN (x : Nat) : Nat → List Bool
  | 0 => []
  | n + 1 => x.testBit n :: bitsN x n
theorem bitsN_len (x n : Nat) : (bitsN x n).length = n := by
  induction n with
  | zero => rfl
  | succ n ih => show (bitsN x n).length + 1 = _; rw [ih]
theorem val_bitsN (x n : Nat) : val (bitsN x n) = ((x % 2 ^ n : Nat) : Int) := by
  induction n with
  | zero => show (0 : Int) = _; rw [Nat.pow_zero, Nat.mod_one]; rfl
  | succ n ih =>
    show b2i (x.testBit n) * 2 ^ (bitsN x n).length + val (bitsN x n) = _
    rw [ih, bitsN_len]
    have h := Nat.mod_pow_succ (b := 2) (k := n) (x := x)
    rw [h]
    rw [Nat.testBit_eq_decide_div_mod_eq]
    have h2 : x / 2 ^ n % 2 = 0 ∨ x / 2 ^ n % 2 = 1 := by omega
    rcases h2 with h2 | h2
    · rw [h2]; show 0 * _ + _ = _; rw [Int.zero_mul]; simp
    · rw [h2]; show 1 * (2 ^ n : Int) + _ = _; rw [Int.one_mul]; push_cast; omega
theorem bit_and {x t : Nat} : Builtin.bitAnd ((x : Int) / 2 ^ t) 1 = b2i (x.testBit t) := by
  have e : ((x : Int) / 2 ^ t) = ((x / 2 ^ t : Nat) : Int) := by push_cast; rfl
  rw [e, show (1 : Int) = ((1 : Nat) : Int) from rfl, and_nat, Nat.and_one_is_mod, Nat.testBit_eq_decide_div_mod_eq]
  have h2 : x / 2 ^ t % 2 = 0 ∨ x / 2 ^ t % 2 = 1 := by omega
  rcases h2 with h2 | h2 <;> rw [h2] <;> rfl
/-- bits by the number's place: x.testBit (n - 1 - i) -/
theorem bitsN_at {x n i : Nat} (h : i < n) : (bitsN x n)[i]? = some (x.testBit (n - 1 - i)) := by
  induction n generalizing i with
  | zero => omega
  | succ n ih =>
    cases i with
    | zero => rfl
    | succ i =>
      show (bitsN x n)[i]? = _
      rw [ih (by omega)]
      congr 2; omega
def ch (b : Bool) : Nat := if b then 49 else 48
def bS (B : List Bool) : Str := tx (B.map ch)
theorem bS_len (B : List Bool) : (bS B).length = B.length := by unfold bS; rw [tx_len, List.length_map]
theorem str_bit (b : Bool) : (toString (b2i b) : Str) = bS [b] := by cases b <;> decide +kernel
theorem w_strI {s : Stt} {QA : AI → Stt → Prop} {X : Exn → Stt → Prop} {b : Bool} (h : QA (.val (.str (bS [b]))) s) : Wo QA X (fStr s [.val (.int (b2i b))]) := by
  unfold fStr
  simp only []
  rw [if_pos (by cases b <;> decide +kernel)]
  rw [str_bit]; exact h
abbrev Bp := Nat × Nat
abbrev Bl := List (Bp × List Int)
def addB (l : Bl) (p : Bp) (s : Int) : Bl := if p ∈ l.map Prod.fst then l.map (fun e => if e.1 = p then (e.1, e.2 ++ [s]) else e) else l ++ [(p, [s])]
def cutB (n v m : Nat) : Bp := (m, v / 2 ^ (n - m))
def inB (n v : Nat) (s : Int) (j : Nat) (l : Bl) : Bl := (List.range j).foldl (fun l m => addB l (cutB n v m) s) l
theorem inB_succ (n v : Nat) (s : Int) (j : Nat) (l : Bl) : inB n v s (j + 1) l = addB (inB n v s j l) (cutB n v j) s := by
  unfold inB; rw [List.range_succ, List.foldl_append]; rfl
def lenN (ls : List Int) (s : Nat) : Nat := (ls.getD s 0).toNat
def wrdN (ls : List Int) (s : Nat) : Nat := (wordN ls (s : Int)).toNat
def outB (ls : List Int) (i : Nat) : Bl := (List.range i).foldl (fun l s => if 0 < ls.getD s 0 then inB (lenN ls s) (wrdN ls s) (s : Int) (lenN ls s + 1) l else l) [((0, 0), [])]
theorem outB_0 (ls : List Int) : outB ls 0 = [((0, 0), [])] := rfl
theorem outB_succ (ls : List Int) (i : Nat) : outB ls (i + 1) = if 0 < ls.getD i 0 then inB (lenN ls i) (wrdN ls i) (i : Int) (lenN ls i + 1) (outB ls i) else outB ls i := by
  unfold outB; rw [List.range_succ, List.foldl_append]; rfl
/-- a place of a beginning that may be -/
def Okp (p : Bp) : Prop := p.1 ≤ 15 ∧ p.2 < 2 ^ p.1
structure Gb (k : Nat) (l : Bl) : Prop where
  nd : (l.map Prod.fst).Nodup
  ok : ∀ e ∈ l, Okp e.1
  z : (0, 0) ∈ l.map Prod.fst
  len : l.length ≤ k + 1
  sy : ∀ e ∈ l, e.2.length ≤ k
theorem addB_fst (l : Bl) (p : Bp) (s : Int) : (addB l p s).map Prod.fst = if p ∈ l.map Prod.fst then l.map Prod.fst else l.map Prod.fst ++ [p] := by
  unfold addB
  split
  · rw [List.map_map]
    refine List.map_congr_left fun e _ => ?_
    show (if e.1 = p then (e.1, e.2 ++ [s]) else e).1 = e.1
    split <;> rfl
  · rw [List.map_append]; rfl
theorem Gb.add {k : Nat} {l : Bl} (h : Gb k l) {p : Bp} (hp : Okp p) (s : Int) : Gb (k + 1) (addB l p s) := by
  refine ⟨?_, ?_, ?_, ?_, ?_⟩
  · rw [addB_fst]
    split
    · exact h.nd
    · rename_i hn
      refine List.nodup_append.mpr ⟨h.nd, by simp, fun a ha b hb => ?_⟩
      rw [List.mem_singleton.mp hb]
      exact fun z => hn (z ▸ ha)
  · intro e he
    unfold addB at he
    split at he
    · obtain ⟨e0, h0, rfl⟩ := List.mem_map.mp he
      have := h.ok e0 h0
      split <;> exact this
    · rcases List.mem_append.mp he with z | z
      · exact h.ok e z
      · rw [List.mem_singleton.mp z]; exact hp
  · rw [addB_fst]
    split
    · exact h.z
    · exact List.mem_append_left _ h.z
  · have := h.len
    unfold addB
    split
    · rw [List.length_map]; omega
    · rw [List.length_append]; show _ + 1 ≤ _; omega
  · intro e he
    unfold addB at he
    split at he
    · obtain ⟨e0, h0, rfl⟩ := List.mem_map.mp he
      have := h.sy e0 h0
      split
      · show (e0.2 ++ [s]).length ≤ _; rw [List.length_append]; show _ + 1 ≤ _; omega
      · omega
    · rcases List.mem_append.mp he with z | z
      · have := h.sy e z; omega
      · rw [List.mem_singleton.mp z]; show 1 ≤ _; omega
theorem cutB_ok {n v m : Nat} (hn : n ≤ 15) (hv : v < 2 ^ n) (hm : m ≤ n) : Okp (cutB n v m) := by
  refine ⟨by show m ≤ 15; omega, ?_⟩
  show v / 2 ^ (n - m) < 2 ^ m
  rw [Nat.div_lt_iff_lt_mul (Nat.pow_pos (by decide)), ← Nat.pow_add, show m + (n - m) = n by omega]
  exact hv
theorem inB_gd {n v : Nat} (hn : n ≤ 15) (hv : v < 2 ^ n) {s : Int} {k : Nat} {l : Bl} (h : Gb k l) : ∀ j, j ≤ n + 1 → Gb (k + j) (inB n v s j l)
  | 0, _ => h
  | j + 1, hj => by
    rw [inB_succ]
    exact (inB_gd hn hv h j (by omega)).add (cutB_ok hn hv (by omega)) s
theorem Gb.mono {k k' : Nat} {l : Bl} (h : Gb k l) (hk : k ≤ k') : Gb k' l := ⟨h.nd, h.ok, h.z, by have := h.len; omega, fun e he => by have := h.sy e he; omega⟩
theorem lnN_bd {ls : List Int} (h : Ln ls) {s : Nat} (hs : s < ls.length) : 0 ≤ ls.getD s 0 ∧ ls.getD s 0 ≤ 15 := by
  have := h.at (s := (s : Int)) (by omega) (by omega)
  rwa [Int.toNat_natCast] at this
theorem wrdN_lt {ls : List Int} (h : Ln ls) {s : Nat} (hs : s < ls.length) (hp : 0 < ls.getD s 0) : wrdN ls s < 2 ^ lenN ls s ∧ wordN ls (s : Int) = (wrdN ls s : Int) := by
  have h1 := wordN_lt h (s := (s : Int)) (by omega) (by omega) (by rw [Int.toNat_natCast]; exact hp)
  obtain ⟨_, h2⟩ := plc_mul h (s := (s : Int)) (by omega) (by omega) (by rw [Int.toNat_natCast]; exact hp)
  rw [Int.toNat_natCast] at h1
  unfold wrdN lenN
  generalize wordN ls (s : Int) = w at *
  refine ⟨?_, by omega⟩
  have : ((w.toNat : Nat) : Int) < ((2 ^ (ls.getD s 0).toNat : Nat) : Int) := by rw [Int.toNat_of_nonneg h2]; push_cast; exact h1
  omega
theorem outB_gd {ls : List Int} (h : Ln ls) : ∀ i, i ≤ ls.length → Gb (16 * i) (outB ls i)
  | 0, _ => by
    rw [outB_0]
    exact ⟨by simp, fun e he => by rw [List.mem_singleton.mp he]; exact ⟨by decide, by decide⟩, List.mem_cons_self, by decide, fun e he => by rw [List.mem_singleton.mp he]; decide⟩
  | i + 1, hi => by
    rw [outB_succ]
    have ih := outB_gd h i (by omega)
    split
    · rename_i hp
      have hb := lnN_bd h (s := i) (by omega)
      have hn : lenN ls i ≤ 15 := by unfold lenN; omega
      exact (inB_gd hn (wrdN_lt h (by omega) hp).1 ih _ (Nat.le_refl _)).mono (by omega)
    · exact ih.mono (by omega)
/-- the dict: each beginning with its list's cell -/
abbrev Ac := List ((Bp × List Int) × Nat)
def dOf {κ : Type} (key : Bp → κ) (a : Ac) : List (κ × D) := a.map fun e => (key e.1.1, .cid e.2)
structure Dk (n0 : Nat) (M : List Cn) (a : Ac) : Prop where
  nd : (a.map Prod.snd).Nodup
  ce : ∀ e ∈ a, n0 ≤ e.2 ∧ M[e.2]? = some (.lst (e.1.2.map D.int))
theorem Dk.lt {n0 : Nat} {M : List Cn} {a : Ac} (h : Dk n0 M a) {e} (he : e ∈ a) : e.2 < M.length := (List.getElem?_eq_some_iff.mp (h.ce e he).2).1
theorem Dk.app {n0 : Nat} {M : List Cn} {a : Ac} (h : Dk n0 M a) (T : List Cn) : Dk n0 (M ++ T) a := ⟨h.nd, fun e he => ⟨(h.ce e he).1, by rw [List.getElem?_append_left (h.lt he)]; exact (h.ce e he).2⟩⟩
def isL : Cn → Bool
  | .lst _ => true
  | _ => false
theorem Dk.set {n0 : Nat} {M : List Cn} {a : Ac} (h : Dk n0 M a) {k : Nat} {c x : Cn} (hk : M[k]? = some c) (hc : isL c = false) : Dk n0 (M.set k x) a := ⟨h.nd, fun e he => ⟨(h.ce e he).1, by
  have h1 := (h.ce e he).2
  rw [List.getElem?_set_ne (fun z => by subst z; rw [hk] at h1; cases h1; cases hc)]; exact h1⟩⟩
theorem Dk.ext {n0 : Nat} {M M' : List Cn} {a : Ac} (h : Dk n0 M a) (x : ∀ (j : Nat) (c : Cn), M[j]? = some c → M'[j]? = some c) : Dk n0 M' a := ⟨h.nd, fun e he => ⟨(h.ce e he).1, x _ _ (h.ce e he).2⟩⟩
section
variable {κ : Type} [DecidableEq κ] {key : Bp → κ} (hkey : ∀ p q, Okp p → Okp q → key p = key q → p = q)
include hkey
/-- the beginning is there, or is not -/
theorem dOf_vl : ∀ {a : Ac}, (∀ e ∈ a, Okp e.1.1) → ∀ {p : Bp}, Okp p → (p ∉ (a.map Prod.fst).map Prod.fst ∧ vl (dOf key a) (key p) = none ∧ ((dOf key a).any fun x => decide (x.1 = key p)) = false) ∨ ∃ sy c, ((p, sy), c) ∈ a ∧ vl (dOf key a) (key p) = some (.cid c) ∧ p ∈ (a.map Prod.fst).map Prod.fst
  | [], _, p, _ => .inl ⟨(fun z => nomatch z), rfl, rfl⟩
  | ((q, sy), c) :: a, h, p, hp => by
    have hq := h _ List.mem_cons_self
    by_cases e : q = p
    · subst e
      refine .inr ⟨sy, c, List.mem_cons_self, ?_, List.mem_cons_self⟩
      show (List.find? (fun x : κ × D => decide (x.1 = key q)) ((key q, D.cid c) :: _)).map _ = _
      rw [List.find?_cons_of_pos (by simp)]; rfl
    · have ne : key q ≠ key p := fun z => e (hkey _ _ hq hp z)
      have ev : vl (dOf key (((q, sy), c) :: a)) (key p) = vl (dOf key a) (key p) := by
        show (List.find? (fun x : κ × D => decide (x.1 = key p)) ((key q, D.cid c) :: dOf key a)).map _ = _
        rw [List.find?_cons_of_neg (by simp [ne])]; rfl
      rcases dOf_vl (fun e he => h e (List.mem_cons_of_mem _ he)) hp with ⟨h1, h2, h3⟩ | ⟨sy', c', h1, h2, h3⟩
      · refine .inl ⟨fun z => ?_, by rw [ev]; exact h2, ?_⟩
        · rcases List.mem_cons.mp z with z | z
          · exact e z.symm
          · exact h1 z
        · show (List.any ((key q, D.cid c) :: dOf key a) _) = false
          rw [List.any_cons, h3, decide_eq_false ne]; rfl
      · exact .inr ⟨sy', c', List.mem_cons_of_mem _ h1, by rw [ev]; exact h2, List.mem_cons_of_mem _ h3⟩
end
theorem nd_inj {α β : Type} {f : α → β} : ∀ {l : List α}, (l.map f).Nodup → ∀ {a b : α}, a ∈ l → b ∈ l → f a = f b → a = b
  | [], _, _, _, h, _, _ => nomatch h
  | x :: l, h, a, b, ha, hb, e => by
    rw [List.map_cons] at h
    obtain ⟨h1, h2⟩ := List.nodup_cons.mp h
    rcases List.mem_cons.mp ha with za | za <;> rcases List.mem_cons.mp hb with zb | zb
    · rw [za, zb]
    · subst za; exact absurd (e ▸ List.mem_map_of_mem zb) h1
    · subst zb; exact absurd (e ▸ List.mem_map_of_mem za) h1
    · exact nd_inj h2 za zb e
/-- one more symbol at a beginning that is there -/
theorem dk_hit {n0 : Nat} {M : List Cn} {a : Ac} (h : Dk n0 M a) (hnd : ((a.map Prod.fst).map Prod.fst).Nodup) {p : Bp} {sy : List Int} {c : Nat} (he : ((p, sy), c) ∈ a) (s : Int) :
    ∃ a' : Ac, Dk n0 (M.set c (.lst (sy.map D.int ++ [.int s]))) a' ∧ (∀ {κ : Type} (key : Bp → κ), dOf key a' = dOf key a) ∧ a'.map Prod.fst = addB (a.map Prod.fst) p s := by
  have hin : p ∈ (a.map Prod.fst).map Prod.fst := List.mem_map_of_mem (List.mem_map_of_mem he)
  rw [List.map_map] at hnd
  refine ⟨a.map fun e => if e.1.1 = p then ((p, e.1.2 ++ [s]), e.2) else e, ⟨?_, fun e he2 => ?_⟩, fun key => ?_, ?_⟩
  · rw [List.map_map]
    rw [show (a.map (Prod.snd ∘ fun e => if e.1.1 = p then ((p, e.1.2 ++ [s]), e.2) else e)) = a.map Prod.snd from List.map_congr_left fun e _ => by
      show (if e.1.1 = p then ((p, e.1.2 ++ [s]), e.2) else e).2 = e.2
      split <;> rfl]
    exact h.nd
  · obtain ⟨e0, h0, rfl⟩ := List.mem_map.mp he2
    obtain ⟨g1, g2⟩ := h.ce e0 h0
    by_cases q : e0.1.1 = p
    · have z : e0 = ((p, sy), c) := nd_inj hnd h0 he q
      subst z
      rw [if_pos rfl]
      refine ⟨g1, ?_⟩
      show (M.set c _)[c]? = _
      rw [List.getElem?_set_self (h.lt he), List.map_append]; rfl
    · rw [if_neg q]
      refine ⟨g1, ?_⟩
      rw [List.getElem?_set_ne (fun z => q (by rw [show e0 = ((p, sy), c) from nd_inj h.nd h0 he z.symm]))]
      exact g2
  · unfold dOf
    rw [List.map_map]
    refine List.map_congr_left fun e _ => ?_
    show (key (if e.1.1 = p then ((p, e.1.2 ++ [s]), e.2) else e).1.1, D.cid (if e.1.1 = p then ((p, e.1.2 ++ [s]), e.2) else e).2) = _
    split
    · rename_i q; rw [q]
    · rfl
  · unfold addB
    rw [if_pos hin, List.map_map, List.map_map]
    refine List.map_congr_left fun e _ => ?_
    show (if e.1.1 = p then ((p, e.1.2 ++ [s]), e.2) else e).1 = if e.1.1 = p then (e.1.1, e.1.2 ++ [s]) else e.1
    split
    · rename_i q; rw [q]
    · rfl
/-- the first symbol at a beginning -/
theorem dk_new {n0 : Nat} {M : List Cn} {a : Ac} (h : Dk n0 M a) {p : Bp} (hp : p ∉ (a.map Prod.fst).map Prod.fst) {c : Nat} (h0 : n0 ≤ c) (hc : c < M.length) (hx : c ∉ a.map Prod.snd) (s : Int) :
    Dk n0 (M.set c (.lst [.int s])) (a ++ [((p, [s]), c)]) ∧ (a ++ [((p, [s]), c)]).map Prod.fst = addB (a.map Prod.fst) p s := by
  refine ⟨⟨?_, fun e he => ?_⟩, ?_⟩
  · rw [List.map_append]
    refine List.nodup_append.mpr ⟨h.nd, by simp, fun x hx2 y hy => ?_⟩
    rw [List.mem_singleton.mp hy]
    exact fun z => hx ((show x = c from z) ▸ hx2)
  · rcases List.mem_append.mp he with z | z
    · obtain ⟨g1, g2⟩ := h.ce e z
      refine ⟨g1, ?_⟩
      rw [List.getElem?_set_ne (fun w => hx (by rw [show c = e.2 from w]; exact List.mem_map_of_mem z))]
      exact g2
    · rw [List.mem_singleton.mp z]
      exact ⟨h0, by show (M.set c _)[c]? = _; rw [List.getElem?_set_self hc]; rfl⟩
  · unfold addB
    rw [if_neg hp, List.map_append]; rfl
theorem pu_dOf {κ : Type} [DecidableEq κ] {key : Bp → κ} {a : Ac} {p : Bp} {sy : List Int} {c : Nat} (h : ((dOf key a).any fun x => decide (x.1 = key p)) = false) : pu (dOf key a) (key p) (.cid c) = dOf key (a ++ [((p, sy), c)]) := by
  unfold pu
  rw [if_neg (by rw [h]; exact Bool.false_ne_true)]
  unfold dOf
  rw [List.map_append]; rfl
def keyT (p : Bp) : List Key := [.inl (p.1 : Int), .inl (p.2 : Int)]
theorem keyT_inj (p q : Bp) (_ : Okp p) (_ : Okp q) (e : keyT p = keyT q) : p = q := by
  unfold keyT at e
  injection e with e1 e2
  injection e2 with e2 _
  injection e1 with e1
  injection e2 with e2
  exact Prod.ext (by omega) (by omega)
def keyS (p : Bp) : Key := .inr (bS (bitsN p.2 p.1))
theorem ch_inj {a b : Bool} (h : ch a = ch b) : a = b := by cases a <;> cases b <;> first | rfl | exact absurd h (by decide)
theorem bS_inj {A B : List Bool} (h : bS A = bS B) : A = B := by
  have := tx_inj h
  exact List.map_inj_right (fun _ _ z => ch_inj z) |>.mp this
theorem bitsN_inj {x y n : Nat} (hx : x < 2 ^ n) (hy : y < 2 ^ n) (h : bitsN x n = bitsN y n) : x = y := by
  have e1 := val_bitsN x n
  have e2 := val_bitsN y n
  rw [h, e2, Nat.mod_eq_of_lt hx, Nat.mod_eq_of_lt hy] at e1
  omega
theorem keyS_inj (p q : Bp) (hp : Okp p) (hq : Okp q) (e : keyS p = keyS q) : p = q := by
  unfold keyS at e
  injection e with e
  have e := bS_inj e
  have hl := congrArg List.length e
  rw [bitsN_len, bitsN_len] at hl
  obtain ⟨m, b⟩ := p
  obtain ⟨m', b'⟩ := q
  dsimp only at *
  subst hl
  rw [show b = b' from bitsN_inj hp.2 hq.2 e]
theorem bitsN_take {v n m : Nat} (h : m ≤ n) : (bitsN v n).take m = bitsN (v / 2 ^ (n - m)) m := by
  refine List.ext_getElem? fun i => ?_
  by_cases hi : i < m
  · rw [List.getElem?_take_of_lt hi, bitsN_at (by omega), bitsN_at hi, Nat.testBit_div_two_pow]
    congr 2; omega
  · rw [List.getElem?_eq_none (by rw [List.length_take]; omega), List.getElem?_eq_none (by rw [bitsN_len]; omega)]
theorem keyS_cut {n v m : Nat} (h : m ≤ n) : keyS (cutB n v m) = .inr (bS ((bitsN v n).take m)) := by
  unfold keyS cutB
  rw [bitsN_take h]
def bit1 (p : Bp) (i : Nat) : Bool := p.2.testBit (p.1 - 1 - i)
def fBit (p : Bp) : D → D
  | .int i => .str (bS [bit1 p i.toNat])
  | d => d
theorem fBit_all (p : Bp) : (rng 0 p.1).map (fBit p) = ((List.range p.1).map fun i => bS [bit1 p i]).map D.str := by
  unfold rng
  rw [List.map_map, List.map_map]
  refine List.map_congr_left fun i _ => ?_
  show fBit p (.int (0 + (i : Int))) = _
  rw [Int.zero_add]
  show D.str (bS [bit1 p ((i : Int)).toNat]) = D.str (bS [bit1 p i])
  rw [Int.toNat_natCast]
theorem strsD_map (l : List Str) : strsD (l.map D.str) = some l := by
  induction l with
  | nil => rfl
  | cons x l ih =>
    show (strsD (l.map D.str)).map (x :: ·) = _
    rw [ih]; rfl
theorem bit1_all (p : Bp) : (List.range p.1).map (bit1 p) = bitsN p.2 p.1 := by
  refine List.ext_getElem? fun i => ?_
  by_cases hi : i < p.1
  · rw [bitsN_at hi, List.getElem?_map, List.getElem?_range hi]; rfl
  · rw [List.getElem?_eq_none (by rw [List.length_map, List.length_range]; omega), List.getElem?_eq_none (by rw [bitsN_len]; omega)]
theorem join_bits (p : Bp) : Txt.join (Str.ofString "") ((List.range p.1).map fun i => bS [bit1 p i]) = bS (bitsN p.2 p.1) := by
  have e : ((List.range p.1).map fun i => bS [bit1 p i]) = ((List.range p.1).map fun i => [ch (bit1 p i)]).map tx := by rw [List.map_map]; rfl
  rw [e, show Str.ofString "" = tx [] from by decide, tx_join0]
  unfold bS
  congr 1
  rw [← bit1_all, List.map_map]
  generalize List.range p.1 = R
  induction R with
  | nil => rfl
  | cons i R ih => rw [List.map_cons, List.flatten_cons, ih]; rfl
theorem sum1 {α : Type} (f : α → Str) (h : ∀ a, (f a).length = 1) : ∀ l : List α, ((l.map f).map (·.length)).sum = l.length
  | [] => rfl
  | a :: l => by rw [List.map_cons, List.map_cons, List.sum_cons, sum1 f h l, h a, List.length_cons]; omega
def pD (p : Bp) : D := .tup [.int (p.1 : Int), .int (p.2 : Int)]
theorem l_bits_ok {p : Bp} (hp : Okp p) (M : List Cn) : m_l_bits [pD p] M = .ok (.val (.str (bS (bitsN p.2 p.1)))) M := by
  have h15 := hp.1
  refine fo_ok (P := fun _ _ => True) ?_
  walk_at "f0"; unfold b_l_bits
  walk_at "w"
  refine w_ixT (l := [.int (p.1 : Int), .int (p.2 : Int)]) (d := .int (p.1 : Int)) rfl rfl rfl rfl rfl ?_
  walk_at "w"
  refine w_lcMap (fBit p) (by rw [rng_len]; show _ ≤ 16777216; omega) (fun y hy => ?_) ?_
  · obtain ⟨i, hi, rfl⟩ := List.mem_map.mp hy
    have hi := List.mem_range.mp hi
    have hi : i < p.1 := by omega
    rw [Int.zero_add]
    walk_at "w"
    refine w_ixT (l := [.int (p.1 : Int), .int (p.2 : Int)]) (d := .int (p.2 : Int)) rfl rfl rfl rfl rfl ?_
    walk_at "w"
    refine w_ixT (l := [.int (p.1 : Int), .int (p.2 : Int)]) (d := .int (p.1 : Int)) rfl rfl rfl rfl rfl ?_
    walk_at "w"
    rw [show ((p.1 : Int) - 1 - (i : Int)).toNat = p.1 - 1 - i by omega, bit_and]
    refine w_strI ?_
    walk_at "w"
    exact ⟨rfl, rfl⟩
  · rw [Int.toNat_natCast, fBit_all]
    walk_at "ds"
    walk_at "w"
    refine ⟨_, by show strsD _ = _; exact strsD_map _, ?_, ?_⟩
    · rw [sum1 _ (fun i => by rw [bS_len]; rfl)]
      rw [List.length_map, List.length_range]
      show p.1 + p.1 * (Str.ofString "").length ≤ _
      rw [show (Str.ofString "").length = 0 from by decide]; omega
    · rw [join_bits]
      exact ⟨rfl, rfl⟩
theorem dOf_len {κ : Type} (key : Bp → κ) (a : Ac) : (dOf key a).length = (a.map Prod.fst).length := by unfold dOf; rw [List.length_map, List.length_map]
theorem tkey_pD (p : Bp) : tkey (pD p) = some (keyT p) := rfl
theorem wrd_pos {ls : List Int} (h : Ln ls) {s : Nat} (hs : s < ls.length) (hp : 0 < ls.getD s 0) : wrd ls s = pD (lenN ls s, wrdN ls s) := by
  have hb := lnN_bd h hs
  unfold wrd
  rw [if_pos hp]
  show D.tup [.int (ls.getD s 0), .int (wordN ls (s : Int))] = _
  rw [(wrdN_lt h hs hp).2]
  unfold pD lenN
  rw [Int.toNat_of_nonneg hb.1]
def outD (ls : List Int) : List (List Key × D) := (outB ls ls.length).map fun e => (keyT e.1, .tup (e.2.map D.int))
/-- what a dict of cells is, told -/
def itD (e : (Bp × List Int) × Nat) : D := .tup [pD e.1.1, .cid e.2]
theorem dItT_dOf (a : Ac) : dItT .items (dOf keyT a) = a.map itD := by
  show ((dOf keyT a).map fun p => D.tup [.tup (p.1.map kD), p.2]) = _
  unfold dOf
  rw [List.map_map]; rfl
def cellD (M : List Cn) : D → D
  | .tup [p, .cid c] => .tup [p, match M[c]? with | some (.lst l) => .tup l | _ => .non]
  | d => d
def outA (e : Bp × List Int) : D := .tup [pD e.1, .tup (e.2.map D.int)]
theorem tPairs_out : ∀ l : Bl, tPairsD (l.map outA) = some (l.map fun e => (keyT e.1, D.tup (e.2.map D.int)))
  | [] => rfl
  | e :: l => by
    show (tPair (outA e)).bind (fun p => (tPairsD (l.map outA)).map (p :: ·)) = _
    rw [tPairs_out l]; rfl
theorem mgT_nd {l acc : List (List Key × D)} (h : ((acc ++ l).map Prod.fst).Nodup) : l.foldl (fun a p => pu a p.1 p.2) acc = acc ++ l := by
  induction l generalizing acc with
  | nil => rw [List.append_nil]; rfl
  | cons x l ih =>
    have hn : (acc.any fun p => decide (p.1 = x.1)) = false := by
      rw [List.any_eq_false]
      intro p hp
      rw [decide_eq_true_eq]
      intro z
      rw [List.map_append, List.map_cons] at h
      exact (List.nodup_append.mp h).2.2 p.1 (List.mem_map_of_mem hp) x.1 List.mem_cons_self z
    have e : pu acc x.1 x.2 = acc ++ [x] := by
      unfold pu
      rw [if_neg (by rw [hn]; exact Bool.false_ne_true)]
    show l.foldl (fun a p => pu a p.1 p.2) (pu acc x.1 x.2) = _
    rw [e, ih (by rw [List.append_assoc]; exact h), List.append_assoc]; rfl
theorem keysT_nd {l : Bl} (hn : (l.map Prod.fst).Nodup) (ho : ∀ e ∈ l, Okp e.1) : (l.map fun e => keyT e.1).Nodup := by
  refine List.pairwise_map.mpr ((List.pairwise_map.mp hn).imp_of_mem fun {a b} ha hb hne z => hne (keyT_inj _ _ (ho a ha) (ho b hb) z))
theorem fo_fx {P : AI → List Cn → Prop} {r : Fr} (h : Fx P (fun _ _ => False) r) : Fo P r := by
  cases r with
  | ok a M => exact h
  | er x M => exact h.elim
  | no => exact h.elim
/-- found, while it is made: in the cell kd; the cells ahead of n0 stay -/
structure Fn (M0 : List Cn) (kd : Nat) (M : List Cn) (a : Ac) (l : Bl) : Prop where
  dk : Dk M0.length M a
  d : M[kd]? = some (.dT (dOf keyT a))
  ex : ∀ (j : Nat) (c : Cn), M0[j]? = some c → M[j]? = some c
  eq : a.map Prod.fst = l
  ge : M0.length ≤ kd
theorem vdt {env : List (Option Ent)} {M : List Cn} {k : Nat} {l : List (List Key × D)} (h : M[k]? = some (.dT l)) : viewDT ⟨env, M⟩ (.val (.cid k)) = some l := by
  show dictTOf M (.cid k) = _
  unfold dictTOf
  simp only []
  rw [h]; rfl
theorem beginnings_ok {ls : List Int} (h1 : 1 ≤ ls.length) (h2 : ls.length ≤ 64) (h : Ln ls) (M : List Cn) : Fo (fun a M' => a = .new (.dT (outD ls)) ∧ ∀ (j : Nat) (c : Cn), M[j]? = some c → M'[j]? = some c) (m_beginnings_of [.lst (ls.map D.int)] M) := by
  refine fo_fx ?_
  walk_at "fx"; unfold b_beginnings_of
  walk_at "w"
  refine ⟨[([.inl 0, .inl 0], .cid M.length)], rfl, by show 1 ≤ 15; omega, ?_⟩
  walk_at "w"
  obtain ⟨kd, ekd⟩ : ∃ kd, kd = (M ++ [Cn.lst []]).length := ⟨_, rfl⟩
  have hF : Fn M kd (M ++ [Cn.lst []] ++ [Cn.dT (mgT [([Sum.inl 0, Sum.inl 0], D.cid M.length)])]) [(((0, 0), []), M.length)] (outB ls 0) := by
    refine ⟨⟨by simp, fun e he => ?_⟩, ?_, fun j c hj => ?_, rfl, ?_⟩
    · rw [List.mem_singleton.mp he]
      exact ⟨Nat.le_refl _, by simp⟩
    · rw [ekd, List.getElem?_append_right (Nat.le_refl _), Nat.sub_self]; rfl
    · have hl := (List.getElem?_eq_some_iff.mp hj).1
      rw [List.getElem?_append_left (by rw [List.length_append]; omega), List.getElem?_append_left hl]; exact hj
    · rw [ekd, List.length_append]; omega
  rw [← ekd]
  generalize M ++ [Cn.lst []] ++ [Cn.dT (mgT [([Sum.inl 0, Sum.inl 0], D.cid M.length)])] = M1 at hF ⊢
  refine fx_eq (words_ok h1 h2 h M1) ?_
  walk_at "w"
  refine w_forN (fun i s => ∃ (M' : List Cn) (a : Ac) (e2 e3 e4 : Option Ent), s = ⟨[some (.fz (.lst (ls.map D.int))), some (.fz (.cid kd)), e2, e3, e4, none, none], M'⟩ ∧ Fn M kd M' a (outB ls i)) ⟨M1, _, _, _, _, rfl, hF⟩ ?_ ?_
  · rintro i y s hi ⟨M', a, e2, e3, e4, rfl, hF⟩
    obtain ⟨z, hz, rfl⟩ := enum_get hi
    obtain ⟨i', hi', rfl⟩ := map_get hz
    have hil : i < ls.length := by
      have := (List.getElem?_eq_some_iff.mp hi').1
      rwa [List.length_range] at this
    have hii : i' = i := by
      rw [List.getElem?_range hil] at hi'
      exact (Option.some.inj hi').symm
    subst hii
    by_cases hp : 0 < ls.getD i' 0
    · rw [wrd_pos h hil hp]
      obtain ⟨hv, _⟩ := wrdN_lt h hil hp
      have hb := lnN_bd h hil
      have hn : lenN ls i' ≤ 15 := by unfold lenN; omega
      have hG := outB_gd h i' (by omega)
      generalize hN : lenN ls i' = n at *
      generalize hV : wrdN ls i' = v at *
      walk_at "w"
      refine w_ixT (l := [.int (n : Int), .int (v : Int)]) (d := .int (n : Int)) rfl rfl rfl rfl rfl ?_
      walk_at "w"
      refine w_forN (fun j s => ∃ (M' : List Cn) (a : Ac) (e4 : Option Ent), s = ⟨[some (.fz (.lst (ls.map D.int))), some (.fz (.cid kd)), some (.fz (.int (i' : Int))), some (.fz (pD (n, v))), e4, none, none], M'⟩ ∧ Fn M kd M' a (inB n v (i' : Int) j (outB ls i'))) ⟨M', a, _, rfl, hF⟩ ?_ ?_
      · rintro j y s hj ⟨M2, a2, e4, rfl, hF2⟩
        obtain ⟨hj1, rfl⟩ := rng_get hj
        have hj1 : j ≤ n := by omega
        have hGj := inB_gd hn hv (s := (i' : Int)) hG j (by omega)
        rw [Int.zero_add]
        walk_at "w"
        refine ⟨⟨_, vdt hF2.d⟩, ?_⟩
        walk_at "w"
        refine w_ixT (l := [.int (n : Int), .int (v : Int)]) (d := .int (v : Int)) rfl rfl rfl rfl rfl ?_
        walk_at "w"
        refine w_ixT (l := [.int (n : Int), .int (v : Int)]) (d := .int (n : Int)) rfl rfl rfl rfl rfl ?_
        walk_at "w"
        rw [show (v : Int) / 2 ^ ((n : Int) - (j : Int)).toNat = ((v / 2 ^ (n - j) : Nat) : Int) from by rw [show ((n : Int) - (j : Int)).toNat = n - j by omega]; push_cast; rfl]
        walk_at "w"
        have hkd : kd < M2.length := (List.getElem?_eq_some_iff.mp hF2.d).1
        have hd2 : (M2 ++ [Cn.lst []])[kd]? = some (.dT (dOf keyT a2)) := by rw [List.getElem?_append_left hkd]; exact hF2.d
        have hok : ∀ e ∈ a2, Okp e.1.1 := fun e he => hGj.ok e.1 (by rw [← hF2.eq]; exact List.mem_map_of_mem he)
        have hdk := hF2.dk.app [Cn.lst []]
        have hsy : ∀ sy c, ((cutB n v j, sy), c) ∈ a2 → sy.length < sizeLine := fun sy c hc => by
          have := hGj.sy (cutB n v j, sy) (by rw [← hF2.eq]; exact List.mem_map_of_mem hc)
          show sy.length < 16777216
          dsimp only at this; omega
        refine ⟨dOf keyT a2, keyT (cutB n v j), hd2, rfl, by rw [dOf_len, hF2.eq]; have := hGj.len; show _ < 16777216; omega, ?_⟩
        rcases dOf_vl keyT_inj hok (cutB_ok hn hv hj1) with ⟨q1, q2, q3⟩ | ⟨sy, c, q1, q2, q3⟩
        · rw [q2]
          dsimp only []
          rw [pu_dOf (sy := [(i' : Int)]) q3]
          walk_at "ds"
          have hM3 : ((M2 ++ [Cn.lst []]).set kd (.dT (dOf keyT (a2 ++ [((cutB n v j, [(i' : Int)]), M2.length)]))))[M2.length]? = some (.lst []) := by
            rw [List.getElem?_set_ne (by omega), List.getElem?_append_right (Nat.le_refl _), Nat.sub_self]; rfl
          have hdk3 := hdk.set (x := .dT (dOf keyT (a2 ++ [((cutB n v j, [(i' : Int)]), M2.length)]))) hd2 rfl
          have hM3k : ((M2 ++ [Cn.lst []]).set kd (.dT (dOf keyT (a2 ++ [((cutB n v j, [(i' : Int)]), M2.length)]))))[kd]? = some (.dT (dOf keyT (a2 ++ [((cutB n v j, [(i' : Int)]), M2.length)]))) := List.getElem?_set_self (by rw [List.length_append]; omega)
          have hex : ∀ (j' : Nat) (c' : Cn), M[j']? = some c' → ((M2 ++ [Cn.lst []]).set kd (.dT (dOf keyT (a2 ++ [((cutB n v j, [(i' : Int)]), M2.length)]))))[j']? = some c' := fun j' c' hj' => by
            have hl := (List.getElem?_eq_some_iff.mp hj').1
            have := hF2.ge
            rw [List.getElem?_set_ne (by omega), List.getElem?_append_left (by omega)]
            exact hF2.ex j' c' hj'
          have hxl : M2.length < ((M2 ++ [Cn.lst []]).set kd (.dT (dOf keyT (a2 ++ [((cutB n v j, [(i' : Int)]), M2.length)])))).length := (List.getElem?_eq_some_iff.mp hM3).1
          generalize (M2 ++ [Cn.lst []]).set kd (.dT (dOf keyT (a2 ++ [((cutB n v j, [(i' : Int)]), M2.length)]))) = M3 at *
          refine ⟨[], viewL_cid hM3, ?_⟩
          walk_at "w"
          refine w_app (l := []) hM3 (by decide) ?_
          walk_at "ds"
          have hge := hF2.ge
          obtain ⟨r1, r2⟩ := dk_new hdk3 q1 (c := M2.length) (by omega) hxl (fun z => by
            obtain ⟨e, he, ez⟩ := List.mem_map.mp z
            have := hF2.dk.lt he
            omega) (i' : Int)
          refine ⟨_, _, _, rfl, r1, ?_, fun j' c' hj' => ?_, ?_, hF2.ge⟩
          · rw [List.nil_append, List.getElem?_set_ne (by omega)]; exact hM3k
          · have hl := (List.getElem?_eq_some_iff.mp hj').1
            rw [List.nil_append, List.getElem?_set_ne (by omega)]; exact hex j' c' hj'
          · rw [inB_succ, r2, hF2.eq]
        · rw [q2]
          dsimp only []
          have hc := hdk.ce _ q1
          have hge := hF2.ge
          have hex : ∀ (j' : Nat) (c' : Cn), M[j']? = some c' → (M2 ++ [Cn.lst []])[j']? = some c' := fun j' c' hj' => by
            have hl := (List.getElem?_eq_some_iff.mp hj').1
            rw [List.getElem?_append_left (by omega)]
            exact hF2.ex j' c' hj'
          have hne : c ≠ kd := fun z => by subst z; rw [hc.2] at hd2; cases hd2
          generalize M2 ++ [Cn.lst []] = M3 at *
          refine ⟨sy.map D.int, viewL_cid hc.2, ?_⟩
          walk_at "w"
          refine w_app (l := sy.map D.int) hc.2 (by rw [List.length_map]; exact hsy sy c q1) ?_
          walk_at "ds"
          obtain ⟨a3, r1, r2, r3⟩ := dk_hit hdk (by rw [hF2.eq]; exact hGj.nd) q1 (i' : Int)
          refine ⟨_, a3, _, rfl, r1, ?_, fun j' c' hj' => ?_, ?_, hF2.ge⟩
          · rw [List.getElem?_set_ne hne, r2 keyT]; exact hd2
          · have hl := (List.getElem?_eq_some_iff.mp hj').1
            rw [List.getElem?_set_ne (by have := hc.1; omega)]; exact hex j' c' hj'
          · rw [inB_succ, r3, hF2.eq]
      · rintro s ⟨M2, a2, e4, rfl, hF2⟩
        rw [rng_len] at hF2
        refine ⟨M2, a2, _, _, _, rfl, ?_⟩
        rw [outB_succ, if_pos hp, hN, hV]
        rw [show ((n : Int) + 1).toNat = n + 1 by omega] at hF2
        exact hF2
    · have hw : wrd ls i' = .non := by unfold wrd; rw [if_neg hp]
      rw [hw]
      walk_at "w"
      refine ⟨M', a, _, _, _, rfl, ?_⟩
      rw [outB_succ, if_neg hp]; exact hF
  · rintro s ⟨M', a, e2, e3, e4, rfl, hF⟩
    rw [enum_len, List.length_map, List.length_range] at hF
    walk_at "w"
    refine ⟨kd, _, rfl, hF.d, ?_⟩
    walk_at "w"
    refine ⟨⟨rfl, rfl⟩, ?_⟩
    rw [dItT_dOf]
    have hG := outB_gd h ls.length (Nat.le_refl _)
    have hok : ∀ e ∈ a, Okp e.1.1 := fun e he => hG.ok e.1 (by rw [← hF.eq]; exact List.mem_map_of_mem he)
    have hal : a.length ≤ 16 * ls.length + 1 := by
      have := hG.len
      rw [← hF.eq, List.length_map] at this
      exact this
    have hkd : kd < M'.length := (List.getElem?_eq_some_iff.mp hF.d).1
    have hdk := hF.dk.set (x := .lkT (dOf keyT a)) hF.d rfl
    refine w_lcMap (cellD (M'.set kd (.lkT (dOf keyT a)))) (by rw [List.length_map]; show _ ≤ 16777216; omega) (fun y hy => ?_) ?_
    · obtain ⟨e, he, rfl⟩ := List.mem_map.mp hy
      have hc := (hdk.ce e he).2
      have ef : cellD (M'.set kd (.lkT (dOf keyT a))) (itD e) = outA e.1 := by
        show D.tup [pD e.1.1, match (M'.set kd (.lkT (dOf keyT a)))[e.2]? with | some (.lst l) => .tup l | _ => .non] = _
        rw [hc]; rfl
      rw [ef]
      unfold itD
      walk_at "w"
      refine w_tupL (viewL_cid hc) ?_
      walk_at "w"
      exact ⟨rfl, rfl⟩
    · have el : (a.map itD).map (cellD (M'.set kd (.lkT (dOf keyT a)))) = (outB ls ls.length).map outA := by
        rw [← hF.eq, List.map_map, List.map_map]
        refine List.map_congr_left fun e he => ?_
        have hc := (hdk.ce e he).2
        show D.tup [pD e.1.1, match (M'.set kd (.lkT (dOf keyT a)))[e.2]? with | some (.lst l) => .tup l | _ => .non] = _
        rw [hc]; rfl
      rw [el]
      refine ⟨by show (M'.set kd _)[kd]? = _; exact List.getElem?_set_self hkd, ?_⟩
      walk_at "ds"
      walk_at "w"
      refine w_dictT rfl (tPairs_out _) ?_
      rw [show mgT ((outB ls ls.length).map fun e => (keyT e.1, D.tup (e.2.map D.int))) = outD ls from (by
        unfold mgT
        rw [mgT_nd (acc := []) (by rw [List.nil_append, List.map_map]; exact keysT_nd hG.nd hG.ok)]; rfl)]
      walk_at "w"
      refine ⟨rfl, fun j c hj => ?_⟩
      have hl := (List.getElem?_eq_some_iff.mp hj).1
      have := hF.ge
      rw [List.set_set, List.getElem?_set_ne (by omega)]
      exact hF.ex j c hj
theorem bS_nil : Str.ofString "" = bS (bitsN 0 0) := by decide
structure Fd (n0 : Nat) (M : List Cn) (a : Ac) (l : Bl) : Prop where
  dk : Dk n0 M a
  eq : a.map Prod.fst = l
  le : n0 ≤ M.length
theorem due_ok {ls : List Int} (h1 : 1 ≤ ls.length) (h2 : ls.length ≤ 64) (h : Ln ls) (M : List Cn) : Fo (fun a M' => ∃ ac : Ac, a = .new (.dK (dOf keyS ac)) ∧ Dk M.length M' ac ∧ ac.map Prod.fst = outB ls ls.length) (m_l_due [.lst ((List.range ls.length).map (wrd ls))] M) := by
  walk_at "f0"; unfold b_l_due
  walk_at "w"
  refine ⟨[(.inr (Str.ofString ""), .cid M.length)], rfl, by show 1 ≤ 15; omega, ?_⟩
  walk_at "w"
  rw [List.length_map, List.length_range]
  have hF : Fd M.length (M ++ [Cn.lst []]) [(((0, 0), []), M.length)] (outB ls 0) := by
    refine ⟨⟨by simp, fun e he => ?_⟩, rfl, by rw [List.length_append]; omega⟩
    rw [List.mem_singleton.mp he]
    exact ⟨Nat.le_refl _, by simp⟩
  have e0 : mgD [(Sum.inr (Str.ofString ""), D.cid M.length)] = dOf keyS [(((0, 0), []), M.length)] := by
    rw [bS_nil]; rfl
  rw [e0]
  generalize M ++ [Cn.lst []] = M1 at hF ⊢
  walk_at "w"
  refine w_forN (fun i s => ∃ (M' : List Cn) (a : Ac) (e2 e3 e4 : Option Ent), s = ⟨[some (.fz (.lst ((List.range ls.length).map (wrd ls)))), some (.ow (.dK (dOf keyS a))), e2, e3, e4], M'⟩ ∧ Fd M.length M' a (outB ls i)) ⟨M1, _, _, _, _, rfl, hF⟩ ?_ ?_
  · rintro i y s hi ⟨M', a, e2, e3, e4, rfl, hF⟩
    obtain ⟨hi1, rfl⟩ := rng_get hi
    have hil : i < ls.length := by omega
    rw [Int.zero_add]
    have hat : atI ((List.range ls.length).map (wrd ls)) (i : Int) = some (wrd ls i) := by
      rw [atI_map, atI_nn (by omega), Int.toNat_natCast, List.getElem?_range hil]; rfl
    walk_at "w"
    refine w_ixL rfl rfl rfl hat ?_
    by_cases hp : 0 < ls.getD i 0
    · obtain ⟨hv, _⟩ := wrdN_lt h hil hp
      have hb := lnN_bd h hil
      have hn : lenN ls i ≤ 15 := by unfold lenN; omega
      have hG := outB_gd h i (by omega)
      rw [wrd_pos h hil hp] at hat ⊢
      generalize hN : lenN ls i = n at *
      generalize hV : wrdN ls i = v at *
      have hP : Okp (n, v) := ⟨hn, hv⟩
      walk_at "w"
      refine w_ixL rfl rfl rfl hat ?_
      walk_at "w"
      refine fo_eq (l_bits_ok hP _) ?_
      walk_at "w"
      refine w_lenT (a := (bitsN v n).map ch) (by rw [List.length_map, bitsN_len]; show _ ≤ 16777216; omega) ?_
      rw [List.length_map, bitsN_len]
      walk_at "w"
      refine w_forN (fun j s => ∃ (M' : List Cn) (a : Ac) (e4 : Option Ent), s = ⟨[some (.fz (.lst ((List.range ls.length).map (wrd ls)))), some (.ow (.dK (dOf keyS a))), some (.fz (.int (i : Int))), some (.fz (.str (bS (bitsN v n)))), e4], M'⟩ ∧ Fd M.length M' a (inB n v (i : Int) j (outB ls i))) ⟨M', a, _, rfl, hF⟩ ?_ ?_
      · rintro j y s hj ⟨M2, a2, e4, rfl, hF2⟩
        obtain ⟨hj1, rfl⟩ := rng_get hj
        have hj1 : j ≤ n := by omega
        have hGj := inB_gd hn hv (s := (i : Int)) hG j (by omega)
        rw [Int.zero_add]
        walk_at "w"
        refine w_slT (a := (bitsN v n).map ch) (by rw [List.length_map, bitsN_len]; show _ ≤ 16777216; omega) ?_
        rw [cutL_to _ (by omega), Int.toNat_natCast, ← List.map_take]
        rw [show D.str (tx (((bitsN v n).take j).map ch)) = D.str (bS ((bitsN v n).take j)) from rfl]
        walk_at "w"
        have hok : ∀ e ∈ a2, Okp e.1.1 := fun e he => hGj.ok e.1 (by rw [← hF2.eq]; exact List.mem_map_of_mem he)
        have hdk := hF2.dk.app [Cn.lst []]
        have hsy : ∀ sy c, ((cutB n v j, sy), c) ∈ a2 → sy.length < sizeLine := fun sy c hc => by
          have := hGj.sy (cutB n v j, sy) (by rw [← hF2.eq]; exact List.mem_map_of_mem hc)
          show sy.length < 16777216
          dsimp only at this; omega
        refine ⟨dOf keyS a2, keyS (cutB n v j), rfl, by rw [keyS_cut hj1]; rfl, by rw [dOf_len, hF2.eq]; have := hGj.len; show _ < 16777216; omega, ?_⟩
        rcases dOf_vl keyS_inj hok (cutB_ok hn hv hj1) with ⟨q1, q2, q3⟩ | ⟨sy, c, q1, q2, q3⟩
        · rw [q2]
          dsimp only []
          rw [pu_dOf (sy := [(i : Int)]) q3]
          walk_at "ds"
          have hM3 : (M2 ++ [Cn.lst []])[M2.length]? = some (.lst []) := by
            rw [List.getElem?_append_right (Nat.le_refl _), Nat.sub_self]; rfl
          have hxl : M2.length < (M2 ++ [Cn.lst []]).length := (List.getElem?_eq_some_iff.mp hM3).1
          have hle := hF2.le
          generalize M2 ++ [Cn.lst []] = M3 at *
          refine ⟨[], viewL_cid hM3, ?_⟩
          walk_at "w"
          refine w_app (l := []) hM3 (by decide) ?_
          walk_at "ds"
          obtain ⟨r1, r2⟩ := dk_new hdk q1 (c := M2.length) (by omega) hxl (fun z => by
            obtain ⟨e, he, ez⟩ := List.mem_map.mp z
            have := hF2.dk.lt he
            omega) (i : Int)
          refine ⟨_, _, _, rfl, r1, ?_, ?_⟩
          · rw [inB_succ, r2, hF2.eq]
          · rw [List.nil_append, List.length_set]; omega
        · rw [q2]
          dsimp only []
          have hc := hdk.ce _ q1
          have hle : M.length ≤ (M2 ++ [Cn.lst []]).length := by have := hF2.le; rw [List.length_append]; omega
          generalize M2 ++ [Cn.lst []] = M3 at *
          refine ⟨sy.map D.int, viewL_cid hc.2, ?_⟩
          walk_at "w"
          refine w_app (l := sy.map D.int) hc.2 (by rw [List.length_map]; exact hsy sy c q1) ?_
          walk_at "ds"
          obtain ⟨a3, r1, r2, r3⟩ := dk_hit hdk (by rw [hF2.eq]; exact hGj.nd) q1 (i : Int)
          rw [← r2 keyS]
          refine ⟨_, a3, _, rfl, r1, ?_, ?_⟩
          · rw [inB_succ, r3, hF2.eq]
          · rw [List.length_set]; exact hle
      · rintro s ⟨M2, a2, e4, rfl, hF2⟩
        rw [rng_len] at hF2
        refine ⟨M2, a2, _, _, _, rfl, ?_⟩
        rw [outB_succ, if_pos hp, hN, hV]
        rw [show ((n : Int) + 1).toNat = n + 1 by omega] at hF2
        exact hF2
    · have hw : wrd ls i = .non := by unfold wrd; rw [if_neg hp]
      rw [hw]
      walk_at "w"
      refine ⟨M', a, _, _, _, rfl, ?_⟩
      rw [outB_succ, if_neg hp]; exact hF
  · rintro s ⟨M', a, e2, e3, e4, rfl, hF⟩
    rw [rng_len, Int.toNat_natCast] at hF
    walk_at "w"
    exact ⟨a, rfl, hF.dk, hF.eq⟩
theorem vl_nd {κ : Type} [DecidableEq κ] {l : List (κ × D)} (hn : (l.map Prod.fst).Nodup) {k : κ} {d : D} (h : (k, d) ∈ l) : vl l k = some d := by
  induction l with
  | nil => cases h
  | cons x l ih =>
    rw [List.map_cons] at hn
    obtain ⟨n1, n2⟩ := List.nodup_cons.mp hn
    show ((x :: l).find? _).map _ = _
    rcases List.mem_cons.mp h with z | z
    · subst z
      rw [List.find?_cons_of_pos (by simp)]; rfl
    · rw [List.find?_cons_of_neg (by
        rw [decide_eq_true_eq]
        intro e
        exact n1 (e ▸ List.mem_map_of_mem z))]
      exact ih n2 z
theorem w_ninX {QA : AI → Stt → Prop} {X : Exn → Stt → Prop} {s : Stt} {b : AI} {x : Str} {l : List (Key × D)} (e : viewD s b = some l) (h : QA (.val (.bl (!(vl l (.inr x)).isSome))) s) : Wo QA X (fNin s (.val (.str x)) b) := by
  unfold fNin
  have : inOf s (.val (.str x)) b = some (vl l (.inr x)).isSome := by
    unfold inOf
    split
    · cases (show (none : Option (List (Key × D))) = some l from e)
    · rw [e]
  rw [this]; exact h
theorem outD_vl {ls : List Int} (h : Ln ls) {e : Bp × List Int} (he : e ∈ outB ls ls.length) : vl (outD ls) (keyT e.1) = some (.tup (e.2.map D.int)) := by
  have hG := outB_gd h ls.length (Nat.le_refl _)
  refine vl_nd ?_ (List.mem_map.mpr ⟨e, he, rfl⟩)
  unfold outD
  rw [List.map_map]
  exact keysT_nd hG.nd hG.ok
theorem keysS_nd {l : Bl} (hn : (l.map Prod.fst).Nodup) (ho : ∀ e ∈ l, Okp e.1) : (l.map fun e => keyS e.1).Nodup :=
  List.pairwise_map.mpr ((List.pairwise_map.mp hn).imp_of_mem fun {a b} ha hb hne z => hne (keyS_inj _ _ (ho a ha) (ho b hb) z))
theorem due_vl {ls : List Int} (h : Ln ls) {ac : Ac} (ha : ac.map Prod.fst = outB ls ls.length) {n0 : Nat} {M : List Cn} (hk : Dk n0 M ac) {e : Bp × List Int} (he : e ∈ outB ls ls.length) : ∃ c, vl (dOf keyS ac) (keyS e.1) = some (.cid c) ∧ M[c]? = some (.lst (e.2.map D.int)) := by
  have hG := outB_gd h ls.length (Nat.le_refl _)
  rw [← ha] at he
  obtain ⟨x, hx, rfl⟩ := List.mem_map.mp he
  refine ⟨x.2, vl_nd ?_ (List.mem_map.mpr ⟨x, hx, rfl⟩), (hk.ce x hx).2⟩
  unfold dOf
  rw [List.map_map, show (Prod.fst ∘ fun (e : (Bp × List Int) × Nat) => (keyS e.1.1, D.cid e.2)) = (fun e : Bp × List Int => keyS e.1) ∘ Prod.fst from rfl, ← List.map_map, ha]
  exact keysS_nd hG.nd hG.ok
theorem lay_its (l : List Int) : Lay 2 (.tuple (l.map PyData.int)) := lay_tup fun x hx => by
  obtain ⟨i, _, rfl⟩ := List.mem_map.mp hx
  exact lay_int
theorem pyT_ints (l : List Int) (s : Stt) : pyOf s (.val (.tup (l.map D.int))) = some (.tuple (l.map PyData.int)) := by
  show (D.pyL (l.map D.int)).map PyData.tuple = _
  rw [pyL_ints]; rfl
theorem dItT_out (ls : List Int) : dItT .keys (outD ls) = (outB ls ls.length).map fun e => pD e.1 := by
  show ((outD ls).map fun p => D.tup (p.1.map kD)) = _
  unfold outD
  rw [List.map_map]; rfl
theorem okp_sh {p : Bp} (hp : Okp p) : (p.2 : Int) / 2 ^ ((p.1 : Int)).toNat = 0 := by
  rw [Int.toNat_natCast]
  refine Int.ediv_eq_zero_of_lt (by omega) ?_
  have := hp.2
  have h2 : ((p.2 : Nat) : Int) < ((2 ^ p.1 : Nat) : Int) := by omega
  rw [show ((2 ^ p.1 : Nat) : Int) = 2 ^ p.1 by push_cast; rfl] at h2
  exact h2
theorem vdl {env : List (Option Ent)} {M : List Cn} {k : Nat} {l : List (List Key × D)} (h : M[k]? = some (.lkT l)) : viewDT ⟨env, M⟩ (.val (.cid k)) = some l := by
  show dictTOf M (.cid k) = _
  unfold dictTOf
  simp only []
  rw [h]; rfl
theorem lawT (ns : List Int) (hn : ns.length ≤ 63) : ∃ M', m_law [.clst (ns.map D.int)] [] = .ok (.val (.bl true)) M' := by
  suffices H : Fo (fun a _ => a = .val (.bl true)) (m_law [.clst (ns.map D.int)] []) by
    cases q : m_law [.clst (ns.map D.int)] [] with
    | ok a M2 => rw [q] at H; obtain rfl := H; exact ⟨M2, rfl⟩
    | er e M2 => rw [q] at H; exact False.elim H
    | no => rw [q] at H; exact False.elim H
  walk_at "f0"; unfold b_law
  walk_at "w"
  rw [List.length_map]
  walk_at "w"
  refine w_forN (fun i s => ∃ (e1 e2 e3 e4 e5 e6 e7 e8 : Option Ent) (M : List Cn), s = ⟨[some (.fz (.clst (ns.map D.int))), e1, e2, e3, e4, e5, e6, e7, e8], M⟩) ⟨_, _, _, _, _, _, _, _, _, rfl⟩ ?_ ?_
  · rintro i y s hi ⟨e1, e2, e3, e4, e5, e6, e7, e8, M, rfl⟩
    obtain ⟨hi1, rfl⟩ := rng_get hi
    rw [Int.zero_add]
    walk_at "w"
    refine fo_use (cell_at_ok (k := 2 * (i : Int)) (by omega) _) ?_
    rintro _ _ ⟨⟨a, rfl⟩, rfl⟩
    walk_at "w"
    refine fo_use (cell_at_ok (k := 2 * (i : Int) + 1) (by omega) _) ?_
    rintro _ _ ⟨⟨b, rfl⟩, rfl⟩
    walk_at "w"
    refine fo_use (lengths_ok a b _) ?_
    rintro _ M0 ⟨ls, rfl, hl1, hl2, hL, rfl⟩
    walk_at "w"
    refine fo_eq (words_ok hl1 hl2 hL _) ?_
    walk_at "w"
    refine fo_use (due_ok hl1 hl2 hL M0) ?_
    rintro _ M1 ⟨ac, rfl, hdk, hac⟩
    have hG := outB_gd hL ls.length (Nat.le_refl _)
    walk_at "w"
    refine w_forN (fun j s => ∃ (e5 e6 e7 e8 : Option Ent) (M : List Cn), s = ⟨[some (.fz (.clst (ns.map D.int))), some (.fz (.int (i : Int))), some (.fz (.lst (ls.map D.int))), some (.ow (.dK (dOf keyS ac))), some (.fz (.lst (ls.map D.int))), e5, e6, e7, e8], M⟩ ∧ Dk M0.length M ac) ⟨_, _, _, _, _, rfl, hdk⟩ ?_ ?_
    · rintro j y s hj ⟨e5, e6, e7, e8, M2, rfl, hdk⟩
      obtain ⟨hj1, rfl⟩ := rng_get hj
      walk_at "w"
      refine fo_use (beginnings_ok hl1 hl2 hL M2) ?_
      rintro _ M3 ⟨rfl, hex⟩
      walk_at "w"
      have hdk3 := (hdk.ext hex).app [Cn.dT (outD ls)]
      have hk3 : (M3 ++ [Cn.dT (outD ls)])[M3.length]? = some (.dT (outD ls)) := by
        rw [List.getElem?_append_right (Nat.le_refl _), Nat.sub_self]; rfl
      generalize hkd : M3.length = kd at *
      generalize M3 ++ [Cn.dT (outD ls)] = M4 at *
      refine w_isiDT hk3 kb_dict_dict ?_
      walk_at "w"
      refine w_lenDT hk3 ?_
      walk_at "w"
      rw [dOf_len, hac, show (outD ls).length = (outB ls ls.length).length from by unfold outD; rw [List.length_map]]
      walk_at "w"
      refine w_ne (_root_.Y.eqOf_ints (ns := ls) (ms := ls) rfl rfl (.inl rfl) (.inl rfl)) ?_
      rw [decide_eq_true rfl]
      walk_at "w"
      refine ⟨kd, _, rfl, hk3, ?_⟩
      walk_at "w"
      refine ⟨⟨rfl, rfl⟩, ?_⟩
      rw [dItT_out]
      have hkl : kd < M4.length := (List.getElem?_eq_some_iff.mp hk3).1
      have hdk5 := hdk3.set (x := .lkT (outD ls)) hk3 rfl
      have hk5 : (M4.set kd (.lkT (outD ls)))[kd]? = some (.lkT (outD ls)) := List.getElem?_set_self hkl
      refine w_forN (fun m s => ∃ (e7 e8 : Option Ent), s = ⟨[some (.fz (.clst (ns.map D.int))), some (.fz (.int (i : Int))), some (.fz (.lst (ls.map D.int))), some (.ow (.dK (dOf keyS ac))), some (.fz (.lst (ls.map D.int))), some (.fz (.int (0 + (j : Int)))), some (.fz (.cid kd)), e7, e8], M4.set kd (.lkT (outD ls))⟩) ⟨_, _, rfl⟩ ?_ ?_
      · rintro m y s hm ⟨e7, e8, rfl⟩
        obtain ⟨e, he, rfl⟩ := map_get hm
        have hem := List.mem_of_getElem? he
        have hp := hG.ok e hem
        obtain ⟨c, hv1, hv2⟩ := due_vl hL hac hdk5 hem
        have hv3 := outD_vl hL hem
        generalize M4.set kd (.lkT (outD ls)) = M5 at *
        have hsl : e.2.length ≤ 16777216 := by have := hG.sy e hem; omega
        walk_at "w"
        refine w_isi rfl rfl kb_tuple_tuple ?_
        walk_at "w"
        rw [if_neg (by simp)]
        walk_at "w"
        refine w_ixT (l := [.int (e.1.1 : Int), .int (e.1.2 : Int)]) (d := .int (e.1.2 : Int)) rfl rfl rfl rfl rfl ?_
        walk_at "w"
        refine w_ixT (l := [.int (e.1.1 : Int), .int (e.1.2 : Int)]) (d := .int (e.1.1 : Int)) rfl rfl rfl rfl rfl ?_
        walk_at "w"
        rw [okp_sh hp]
        walk_at "w"
        refine fo_eq (l_bits_ok hp _) ?_
        walk_at "w"
        refine w_ninX rfl ?_
        rw [show vl (dOf keyS ac) (.inr (bS (bitsN e.1.2 e.1.1))) = some (.cid c) from hv1]
        walk_at "w"
        rw [if_neg (by simp)]
        walk_at "w"
        refine w_ixDT (vdl hk5) (tkey_pD e.1) hv3 ?_
        walk_at "w"
        refine w_ixK (l := dOf keyS ac) (k := keyS e.1) rfl rfl hv1 ?_
        walk_at "w"
        refine w_tupL (viewL_cid hv2) ?_
        walk_at "w"
        refine w_ne (eqOf_same (pyT_ints _ _) (pyT_ints _ _) ((lay_its e.2).shaped (by decide))) ?_
        walk_at "w"
        exact ⟨_, _, rfl⟩
      · rintro s ⟨e7, e8, rfl⟩
        refine ⟨hk5, ?_⟩
        rw [List.set_set]
        have hk6 : (M4.set kd (.dT (outD ls)))[kd]? = some (.dT (outD ls)) := List.getElem?_set_self hkl
        have hdk6 := hdk3.set (x := .dT (outD ls)) hk3 rfl
        generalize M4.set kd (.dT (outD ls)) = M6 at *
        dsimp only []
        walk_at "w"
        refine ⟨⟨_, vdt hk6⟩, ?_⟩
        walk_at "w"
        obtain ⟨e0, he0, hz0⟩ := List.mem_map.mp hG.z
        have hv0 := outD_vl hL he0
        rw [hz0] at hv0
        refine ⟨outD ls, keyT (0, 0), _, hk6, rfl, hv0, ?_⟩
        walk_at "ds"
        exact ⟨_, _, _, _, _, rfl, hdk6.set hk6 rfl⟩
    · rintro s ⟨e5, e6, e7, e8, M2, rfl, hdk⟩
      walk_at "w"
      exact ⟨_, _, _, _, _, _, _, _, _, rfl⟩
  · rintro s ⟨e1, e2, e3, e4, e5, e6, e7, e8, M, rfl⟩
    walk_at "w"
    rfl
theorem ok_law' {P : Program} {w : World} {K : PySem.W.Frag} {mg : Str → Option Value} {base : Heap} (hl : ∀ ns : List Int, ns.length ≤ 63 → ∃ M', m_law [.clst (ns.map D.int)] [] = .ok (.val (.bl true)) M') (T : Tx K mg) : FnOk P w K mg base CX0 6 T.a_law T.d_law ["_law_script"] (spLaw K) :=
  (ok_law T).imp (fun vs H Q E h => by
    obtain ⟨a, ns, rfl, hS, hn, _, q⟩ := h
    obtain ⟨M', e⟩ := hl ns hn
    refine ⟨⟨H, fun _ => 0, fun _ => none⟩, [], [.clst (ns.map D.int)], ⟨(fun _ _ e => by rw [show (ctT T).lk = none from rfl, U0]; exact e), (fun a l e => nomatch e), fun _ e => e, rfl, (fun i e q => by simp at q), (fun k c q => by simp at q)⟩, .cons (.clst hS (rpl_ints ns)) .nil, ?_⟩
    rw [e]
    intro S' v H' st rel it
    cases rp_bl it
    exact q H')
end K17
theorem PySem.Challenge.cw_tornshelf_k17_beginnings_holds : PySem.Challenge.rw_tornshelf_k17_beginnings.Holds :=
  K17.early fun T => K17.ok_law' K17.lawT T
