import PyProof.Rows.All
import Wide.All
import OpenK.AllK
import Wide.FinOn
import HandS.ForMost
import HandS.IsInst
import HandS.Flow
import HandS.WideBits
import HandS.Defaults
import HandS.MakeKw
import HandS.Exc
import HandS.ExcOwn
import HandS.TryOnly
import HandS.WordsExc
import HandS.Deep
import HandS.WordsDict
import HandS.Small
import HandS.Conv
import HandS.Text
import KE.KxIndex
import HandS.Codes
import KE.SortData
import HandS.ExcInit
import HandS.ClsMeth
import HandS.ExcField
import HandS.ExcIs
import HandS.TryMany
import KE.KExcIs
import HandS.Replace
import KE.DataMinMax
import PyProof.Claim2Refuses
import KE.KEqDict
import KE.KDictSum
import HandS.Sort
import PyProof.Rows.SeqMore
import KE.KIndexOf
import HandS.SetKeys
import HandS.More
import PyProof.Rows.SortStr
import KE.KStateDown
import HandS.Head0
import HandS.Head1
import HandS.Head2
import HandS.HeadEnd
import HandS.HeadHook1
import HandS.HeadHook2
import KE.GoesMore
import KE.GoesEnum
import HandS.TupAny
import HandS.SetFor
import HandS.SortInts
import HandS.Zip
import HandS.Strs
import PyProof.DictMoreH
import HandS.TupSets
import KE.KDictDisplayH
import KE.KDictWalk
import KE.KDictPairs
import HandS.DictTup
import HandS.TupLen
import HandS.ExcValue
import PySem.Challenge.RW_tornshelf_k04_bits_refused
set_option Elab.async false
set_option linter.all false
set_option maxRecDepth 100000
set_option maxHeartbeats 4000000
namespace Z
open PySem L2
def isDT : HO → Bool
  | .dT _ => true
  | .frz _ u => isDT u
  | _ => false
def okA (G : Hp) (a : Addr) : HO → Prop
  | .ins _ dx _ => G dx = some (.own a)
  | .frz _ u => okA G a u
  | _ => True
def kept : HO → Bool
  | .tup _ => true
  | .frz _ _ => true
  | .tbl _ => true
  | _ => false
section
variable {P : Program} {w : World} {H H' G : Hp} {h : Heap} {a : Addr} {o : HO}
theorem okA_of (x : ObjOk P w H h a o) (k : ∀ b, H b = some (.own a) → G b = some (.own a)) : okA G a o := by
  induction o with
  | ins C dx fs => exact k _ x.1
  | frz ob u ih => exact ih x.2
  | _ => trivial
end
/-- no dict with tuples for keys -/
def ND (H : Hp) : Prop := ∀ a o, H a = some o → isDT o = false
theorem ND.upd {H : Hp} {p : Addr} {o : HO} (h : ND H) (ho : isDT o = false := by rfl) : ND (upd H p o) := fun a u e => by
  by_cases q : a = p
  · subst q; rw [upd_same] at e; cases e; exact ho
  · rw [upd_ne q] at e; exact h a u e
theorem only_nd {H : Hp} (h : L2.Only H) : ND H := fun a o e => by
  rcases h a with q | ⟨o', xs, q⟩
  · rw [q] at e; cases e
  · rw [q] at e; cases e; rfl
section
variable {H H' G H1 : Hp} {p q : Addr} {o : HO}
theorem upd_none {a : Addr} : upd H p o a = none ↔ a ≠ p ∧ H a = none := by
  unfold upd
  by_cases e : a = p
  · simp [e]
  · simp [e]
end
section
variable {X : Cx}
theorem OpR.or {f : Value → Value → Sem Value} {r r' : R2} (a : OpR X f r) (b : OpR X f r') : OpR X f (fun x y H Q => r x y H Q ∨ r' x y H Q) :=
  fun pins s σ H x y v u Q I rx ry h => h.elim (fun h => a pins s σ H x y v u Q I rx ry h) fun h => b pins s σ H x y v u Q I rx ry h
theorem CallR.or {f : Value} {r r' : List V → Hp → VK → Prop} (a : CallR X f r) (b : CallR X f r') : CallR X f (fun x H Q => r x H Q ∨ r' x H Q) :=
  fun pins s σ H xs us Q I rx h => h.elim (fun h => a pins s σ H xs us Q I rx h) fun h => b pins s σ H xs us Q I rx h
/-- list + list, both to be read -/
def rCatZ (K : PySem.W.Frag) : R2 := fun x y H Q => ∃ l b xs zs, x = .ref l ∧ y = .ref b ∧ SqL K H l xs ∧ SqL K H b zs ∧ xs.length + zs.length ≤ sizeLine ∧ ∀ p, H p = none → Q (.ref p) (upd H p (.lst (xs ++ zs)))
def rAddZ (K : PySem.W.Frag) : R2 := fun x y H Q => (rI0 (fun i j => .int (i + j)) x y H Q ∨ ∃ i j, x = .str i ∧ y = .str j ∧ i.length + j.length ≤ sizeLine ∧ Q (.str (i ++ j)) H) ∨ rCatZ K x y H Q
theorem op_catZ : OpR X (binaryOp .Add) (rCatZ X.K) := by
  intro pins s σ H x y v u Q I rx ry h
  obtain ⟨l, b, xs, zs, rfl, rfl, hH, hB, hz, q⟩ := h
  cases rx
  cases ry
  obtain ⟨its, r, pl, z⟩ := I.list hH
  obtain ⟨its2, r2, pl2, z2⟩ := I.list hB
  have l1 := r.length
  have l2 := r2.length
  obtain ⟨⟨cls, dd, data, sl⟩, ho, hc, n, hd⟩ := pl.isList
  obtain ⟨⟨cls2, dd2, data2, sl2⟩, ho2, hc2, n2, hd2⟩ := pl2.isList
  simp only at hc hd hc2 hd2
  subst hc hd hc2 hd2
  have e : its.toArray ++ its2.toArray = (its ++ its2).toArray := by simp
  refine concat_meets ⟨_, ho, rfl⟩ ⟨_, ho2, rfl⟩ noFill_list_add seq_list_add PySem.F.slot_list_add PySem.F.entry_list_add (PySem.F.args_list_add_2 _ _) (PyProof.Rows.list_addW l b its.toArray its2.toArray n n2 dd dd2 sl sl2 (by simp only [List.size_toArray]; omega)) ⟨ho, ho2, ?_⟩
  rw [e]
  exact ⟨.ref _, _, I.lnew (t' := s.toks) (r.append r2) (by rw [List.length_append]; omega), rfl, q _ I.fresh⟩
theorem op_addZ {K : PySem.W.Frag} (hK : X.K = K) : OpR X (binaryOp .Add) (rAddZ K) := by subst hK; exact OpR.or (OpR.or op_add op_add_str) op_catZ
def rMulZ : R2 := fun x y H Q => rI CMul (fun i j => .int (i * j)) x y H Q ∨ rRep x y H Q
theorem op_mulZ : OpR X (binaryOp .Mult) rMulZ := OpR.or op_mul op_rep
def rEqZ (K : PySem.W.Frag) : R2 := fun x y H Q => rEq x y H Q ∨ rEqD K x y H Q
def rNeZ (K : PySem.W.Frag) : R2 := fun x y H Q => rNe x y H Q ∨ rNeD K x y H Q
theorem op_eqZ {K : PySem.W.Frag} (hK : X.K = K) (hu : X.A.units + 64 < cLine) : OpR X (compareOp .Eq) (rEqZ K) := by subst hK; exact OpR.or op_eq (op_eqD hu)
theorem op_neZ {K : PySem.W.Frag} (hK : X.K = K) (hu : X.A.units + 64 < cLine) : OpR X (compareOp .NotEq) (rNeZ K) := by subst hK; exact OpR.or op_ne (op_neD hu)
end
section
variable {X : Cx}
/-- len of a text, a list, a tuple -/
def rLenZ (K : PySem.W.Frag) : List V → Hp → VK → Prop := fun xs H Q => ∃ x n, xs = [x] ∧ LenV K x H n ∧ Q (.int n) H
theorem call_lenZ {K : PySem.W.Frag} (hK : X.K = K) : CallR X (.builtin "len") (rLenZ K) := by subst hK; exact call_len
def rSlZ (K : PySem.W.Frag) : V → Option Int → Option Int → Hp → VK → Prop := fun x lo hi H Q => rSlL K x lo hi H Q ∨ rSlS x lo hi H Q
theorem sl_Z {K : PySem.W.Frag} (hK : X.K = K) : SlR X (rSlZ K) := by subst hK; exact SlR.or sl_list sl_str
def tTruZ (K : PySem.W.Frag) (ta : TE) : TT := fun σ H Q => ta σ H fun x H' => ∃ k, TruV K x H' k ∧ Q k H'
theorem pt_truthZ {K : PySem.W.Frag} {a : Expr} {ta : TE} (hK : X.K = K) (ha : PE X a ta) (he : ∀ whole, isTrue a X.env whole = (do let v ← whole; standAt a.pos; holding [v] (truthy v))) : PT X a (tTruZ K ta) := by subst hK; exact pt_truth ha he
theorem call_isiZ {K : PySem.W.Frag} (hK : X.K = K) : CallR X (.builtin "isinstance") (rIsi K) := by subst hK; exact call_isi
def rListOf (K : PySem.W.Frag) : List V → Hp → VK → Prop := fun xs H Q => ∃ p ys, xs = [.ref p] ∧ (SqL K H p ys ∨ SqT K H p ys) ∧ ∀ l, H l = none → Q (.ref l) (upd H l (.lst ys))
theorem call_listZ {K : PySem.W.Frag} (hK : X.K = K) : CallR X (.type "list") (rListOf K) := by subst hK; exact call_list_of
theorem pi_listZ {K : PySem.W.Frag} {tg l : Expr} {tl : TE} (hK : X.K = K) (hl : PE X l tl) : PI X tg l (iList K tl) := by subst hK; exact pi_list hl
theorem pe_fldZ {K : PySem.W.Frag} {e : Expr} {f : Str} {pos : Pos} {ta : TE} (hK : X.K = K) (he : PE X e ta) (hb : attributeBase e f X.env (eval e X.env) = eval e X.env) : PE X (.Attribute e f pos) (tFld K ta f) := by subst hK; exact pe_fld he hb
theorem pg_tupZ {K : PySem.W.Frag} {es : List Expr} {k : Nat} {t : TGs} {n : Nat} {pos : Pos} (hK : X.K = K) (hc : X.calm = true) (h : PGs X es t)
    (hn : (assignEach es X.env).length = n := by rfl) (hst : (assignEach es X.env).findIdx? (·.1) = none := by rfl) : PG X (.Tuple es k pos) (gTup K n t) := by subst hK; exact pg_tup hc h hn hst
theorem pe_bmZ {K : PySem.W.Frag} {o e : Expr} {es : List Expr} {to : TE} {t : TA} {name : Str} {apos cpos : Pos} {T id : String} {r : V → List V → Hp → VK → Prop} (hK : X.K = K) (pa : PlainAttrs T) (slot : Slot T name id) (hty : typeOf (.builtin id) = pure (.type "method_descriptor")) (hm : MtR X id r) (ho : PE X o to) (ha : PA X (e :: es) t)
    (hbase : attributeBase o name X.env (eval o X.env) = eval o X.env := by rfl)
    (hfew : ((backTo cpos (starEach (e :: es) X.env)).all (fun x => !x.1) && (backToKw cpos (keywordEach [] X.env)).all (fun x => x.1.isSome)
      && decide ((e :: es).length + ([] : List Keyword).length + (if ([] : List Keyword).isEmpty then 0 else 1) < 30)) = true := by rfl)
    (hline : (apos.endLine == cpos.line) = true := by rfl) (hs : starEach (e :: es) X.env = (false, eval e X.env) :: starEach es X.env := by rfl) (hplain : (backTo cpos (starEach es X.env)).any (·.1) = false := by rfl) :
    PE X (.Call (.Attribute o name apos) (e :: es) [] cpos) (tBM K T r to t) := by subst hK; exact pe_bm pa slot hty hm ho ha hbase hfew hline hs hplain
def tCallZ (sp : Sp) (E : XK) (t : TA) : TE := fun σ H Q => t σ H fun vs H1 => sp vs H1 Q E
variable {CX : CXT} {k : Nat} {f C : Addr} {fd : FuncData} {ps : List Str} {sp : Sp} {E : XK} {x m : Str} {p pos apos : Pos} {e o : Expr} {es : List Expr} {ta : TE} {t : TA}
theorem callZ_eq : tCall sp [] E t = tCallZ sp E t := by
  funext σ H Q
  show t σ H (fun vs H1 => sp (vs ++ []) H1 Q E) = t σ H fun vs H1 => sp vs H1 Q E
  simp only [List.append_nil]
theorem pe_callZ (F : FnOk X.prog X.w X.K X.mg X.base CX k f fd ps sp) (hr : Room k X.A) (hg : Gl X x) (hm : X.mg x = some (.ref f)) (hk : PySem.W.keepIn X.K (.ref f) = true) (hb : Binds X.K fd ps []) (hx : Passes CX X E)
    (ha : PA X (e :: es) t) (hdb : (x == ("__debug__" : Str)) = false := by decide) (he : starEach (e :: es) X.env = (false, eval e X.env) :: starEach es X.env := by rfl) (hpl : (backTo pos (starEach es X.env)).any (·.1) = false := by rfl) :
    PE X (.Call (.Name x p) (e :: es) [] pos) (tCallZ sp E t) := by
  rw [← callZ_eq]
  exact pe_call F hr hg hm hk hb .nil hx ha hdb he hpl
end
section
variable {K : PySem.W.Frag} {σ : St} {H : Hp} {nx bk ct : St → Hp → Prop} {rt : VK} {t u : TS} {te ta tb tc : TE} {tt uu : TT} {Q : VK} {QB : Bool → Hp → Prop} {QA : List V → Hp → Prop} {QO : Option Int → Hp → Prop} {v : V} {i : Nat} {b : Bool} {tr : TA}
theorem z_int {Qi : Int → Prop} {i : Int} (h : Qi i) : ∃ j, V.int i = .int j ∧ Qi j := ⟨i, rfl, h⟩
theorem z_if {p A B : Prop} [Decidable p] (h1 : p → A) (h2 : ¬ p → B) : if decide p = true then A else B := by
  by_cases h : p
  · rw [if_pos (decide_eq_true h)]; exact h1 h
  · rw [if_neg (by rw [decide_eq_false h]; exact Bool.false_ne_true)]; exact h2 h
theorem z_iT {A B : Prop} (h : A) : if true = true then A else B := by rw [if_pos rfl]; exact h
theorem z_iF {A B : Prop} (h : B) : if false = true then A else B := by rw [if_neg Bool.false_ne_true]; exact h
theorem z_inF {A B : Prop} (h : A) : if (!false) = true then A else B := h
theorem z_inT {A B : Prop} (h : B) : if (!true) = true then A else B := by
  rw [if_neg (by decide)]; exact h
end
structure Rt (X : Cx) (H : Hp) : Prop where
  keep : ∀ b o, X.H_0 b = some o → kept o = true → ∃ u, H b = some u ∧ kept u = true ∧ (∀ xs, o = .tup xs → u = o) ∧ (∀ ob u', o = .frz ob u' → u = o) ∧ ∀ ps, o = .tbl ps → ∃ more, u = .tbl (ps ++ more)
  cl : ∀ a o (G : Hp), H a = some o → (∀ b, H b = some (.own a) → G b = some (.own a)) → okA G a o
section
variable {X : Cx}
theorem Rt.of {pins : List (Addr × Obj)} {σ : List (Option V)} {H : Hp} {s : Shared} (I : Inv X pins σ H s) : Rt X H where
  keep := fun b o e k => by
    cases o with
    | tup xs => exact ⟨_, I.base.tups b xs e, rfl, fun _ _ => rfl, fun _ _ _ => rfl, fun _ q => nomatch q⟩
    | frz ob u => exact ⟨_, I.base.frzs b ob u e, rfl, fun _ _ => rfl, fun _ _ _ => rfl, fun _ q => nomatch q⟩
    | tbl ps =>
      obtain ⟨more, q⟩ := I.base.tbls b ps e
      exact ⟨_, q, rfl, fun _ z => (nomatch z), fun _ _ z => (nomatch z), fun _ z => by cases z; exact ⟨more, rfl⟩⟩
    | _ => cases k
  cl := fun a o G e k => okA_of (I.hok a o e) k
end
section
variable {K : PySem.W.Frag} {σ : St} {H : Hp} {Q : VK} {R : Hp → Prop}
theorem z_isi {x : V} {n m : String} {b : Bool} (ty : TyX K H x (.type n)) (e : PySem.W.kitOne K (.type n) (.type m) = some b) (h : Q (.bl b) H) : rIsi K [x, .ty m] H Q := ⟨x, .ty m, _, _, b, rfl, .ty m, ty, e, h⟩
end
section
theorem and_nat (a b : Nat) : Builtin.bitAnd (a : Int) (b : Int) = ((a &&& b : Nat) : Int) := by rw [PyProof.Rows.bitAnd_pp (by omega) (by omega)] <;> rfl
end
section
variable {K : PySem.W.Frag} {H H1 H' : Hp} {p q a : Addr} {o u : HO} {xs : List V}
/-- what stood stands, no tuple is new -/
structure Sx (H H1 : Hp) : Prop where
  same : Same H H1
  nt : ∀ b xs, H1 b = some (.tup xs) → H b = some (.tup xs)
end
section
variable {K : PySem.W.Frag} {σ : St} {H : Hp} {Q : VK} {R A B : Prop} {p a : Addr} {xs ys : List V} {y : V}
theorem z_ifR {α : Type} [DecidableEq α] {x : α} (h : A) : if decide (x = x) = true then A else B := by rw [if_pos (decide_eq_true rfl)]; exact h
theorem z_ifnR {α : Type} [DecidableEq α] {x : α} (h : B) : if (!decide (x = x)) = true then A else B := by rw [decide_eq_true (rfl : x = x)]; exact z_inT h
theorem z_ifY {c : Prop} [Decidable c] (hc : c) (h : A) : if decide c = true then A else B := by rw [if_pos (decide_eq_true hc)]; exact h
theorem z_ifN {c : Prop} [Decidable c] (hc : ¬ c) (h : B) : if decide c = true then A else B := by rw [if_neg (by rw [decide_eq_false hc]; exact Bool.false_ne_true)]; exact h
theorem z_ifnY {c : Prop} [Decidable c] (hc : c) (h : B) : if (!decide c) = true then A else B := by rw [decide_eq_true hc]; exact z_inT h
theorem z_ifnN {c : Prop} [Decidable c] (hc : ¬ c) (h : A) : if (!decide c) = true then A else B := by rw [decide_eq_false hc]; exact z_inF h
theorem z_list (hp : SqL K H p ys) (h : ∀ l, H l = none → Q (.ref l) (upd H l (.lst ys))) : rListOf K [.ref p] H Q := ⟨p, ys, rfl, .inl hp, h⟩
end
section
variable {K : PySem.W.Frag} {H : Hp} {Q : VK} {n : Nat}
def rMin2 : List V → Hp → VK → Prop := fun xs H Q => ∃ i j, xs = [.int i, .int j] ∧ Q (.int (if j < i then j else i)) H
theorem call_min2Z {X : Cx} (hc : X.calm = true) : CallR X (.builtin "min") rMin2 := call_min2 hc
theorem z_min2 {i j : Int} (h : Q (.int (min i j)) H) : rMin2 [.int i, .int j] H Q := ⟨i, j, rfl, by
  have e : (if j < i then j else i) = min i j := by
    by_cases l : j < i
    · rw [if_pos l]; omega
    · rw [if_neg l]; omega
  rw [e]; exact h⟩
end
def rFld (K : PySem.W.Frag) (f : Str) (x : V) (H : Hp) (Q : VK) : Prop := ∃ a C dx fs v, x = .ref a ∧ H a = some (.ins C dx fs) ∧ Cls K C ∧ NoAttr K C f ∧ fs.lookup f = some v ∧ Q v H
def wFld (K : PySem.W.Frag) (f : Str) (x y : V) (H : Hp) (R : Hp → Prop) : Prop := ∃ a C dx fs, x = .ref a ∧ H a = some (.ins C dx fs) ∧ Cls K C ∧ NoAttr K C f ∧ fs.length < 1000 ∧ R (upd H a (.ins C dx (putF f y fs)))
def aFld (a C : Addr) (f : Str) (z : V) (H : Hp) (R : Hp → Prop) : Prop := ∃ dx fs, H a = some (.ins C dx fs) ∧ fs.length < 1000 ∧ R (upd H a (.ins C dx (putF f z fs)))
def bFld (K : PySem.W.Frag) (f : Str) (x : V) (H : Hp) (R : Addr → Addr → V → Hp → Prop) : Prop := ∃ a C dx fs v, x = .ref a ∧ H a = some (.ins C dx fs) ∧ Cls K C ∧ NoAttr K C f ∧ fs.lookup f = some v ∧ R a C v H
section
variable {K : PySem.W.Frag} {σ : St} {H : Hp} {nx bk ct : St → Hp → Prop} {rt : VK} {ta tv : TE} {Q : VK} {f : Str}
theorem lkf_hd {k : Str} {v : V} {r : List (Str × V)} : List.lookup k ((k, v) :: r) = some v := by simp [List.lookup]
theorem lkf_tl {k g : Str} {v : V} {r : List (Str × V)} {o : Option V} (h : (k == g) = false) (e : List.lookup k r = o) : List.lookup k ((g, v) :: r) = o := by simp only [List.lookup, h]; exact e
theorem lkf_nil {k : Str} : List.lookup k ([] : List (Str × V)) = none := rfl
theorem ptf_hd {k : Str} {v u : V} {r : List (Str × V)} : putF k v ((k, u) :: r) = (k, v) :: r := if_pos rfl
theorem ptf_tl {k g : Str} {v u : V} {r r' : List (Str × V)} (h : ¬ g = k) (e : putF k v r = r') : putF k v ((g, u) :: r) = (g, u) :: r' := by rw [← e]; exact if_neg h
theorem ptf_nil {k : Str} {v : V} : putF k v [] = [(k, v)] := rfl
/-- methods -/
def rMeth (C : Addr) (m : Str) (R : V → Hp → Prop) (x : V) (H : Hp) : Prop := ∃ a dx fs, x = .ref a ∧ H a = some (.ins C dx fs) ∧ fs.lookup m = none ∧ R x H
theorem z_methR {C a dx : Addr} {m : Str} {fs : List (Str × V)} {R : V → Hp → Prop} (ho : H a = some (.ins C dx fs)) (hl : fs.lookup m = none) (h : R (.ref a) H) : rMeth C m R (.ref a) H := ⟨a, dx, fs, rfl, ho, hl, h⟩
def rMake (C : Addr) (sp : Sp) (E : XK) (dvs : List V) (Q : VK) (vs : List V) (H1 : Hp) : Prop := ∀ x dx, H1 x = none → H1 dx = none → dx ≠ x →
  sp (.ref x :: (vs ++ dvs)) (upd (upd H1 dx (.own x)) x (.ins C dx [])) (fun v H2 => v = .non ∧ Q (.ref x) H2) E
end
section
variable {X : Cx} {CX : CXT} {k : Nat} {f C : Addr} {fd : FuncData} {ps : List Str} {sp : Sp} {E : XK} {x m : Str} {p pos apos : Pos} {e o : Expr} {es : List Expr} {ta : TE} {t : TA}
theorem pe_methZ {pl : Sem Bool} (he : PE X o ta) (c : Cls X.K C) (hm : Meth X.K C m f) (F : FnOk X.prog X.w X.K X.mg X.base CX k f fd ps sp) (hr : Room k X.A) (hb : Binds X.K fd ps []) (hx : Passes CX X E) (ha : PA X (e :: es) t)
    (hst : starEach (e :: es) X.env = (false, eval e X.env) :: starEach es X.env := by rfl) (hpl : (backTo pos (starEach es X.env)).any (·.1) = false := by rfl)
    (ht : eval (.Call (.Attribute o m apos) (e :: es) [] pos) X.env = (do
      let ov ← eval o X.env
      standAt apos.atName
      let (f, first) ← holding [ov] (getMethod ov m pl)
      callWith pos f first (backTo pos (starEach (e :: es) X.env)) (backToKw pos (keywordEach [] X.env))) := by rfl) :
    PE X (.Call (.Attribute o m apos) (e :: es) [] pos) (tMeth C m sp [] E ta t) := pe_meth (pl := pl) he c hm F hr hb .nil hx ha hst hpl ht
theorem pe_meth0Z {pl : Sem Bool} (he : PE X o ta) (c : Cls X.K C) (hm : Meth X.K C m f) (F : FnOk X.prog X.w X.K X.mg X.base CX k f fd ps sp) (hr : Room k X.A) (hb : Binds X.K fd ps []) (hx : Passes CX X E)
    (ht : eval (.Call (.Attribute o m apos) [] [] pos) X.env = (do
      let ov ← eval o X.env
      standAt apos.atName
      let (f, first) ← holding [ov] (getMethod ov m pl)
      callWith pos f first (backTo pos (starEach [] X.env)) (backToKw pos (keywordEach [] X.env))) := by rfl) :
    PE X (.Call (.Attribute o m apos) [] [] pos) (tMeth C m sp [] E ta tNil) := pe_meth0 (pl := pl) he c hm F hr hb .nil hx ht
theorem ps_fldZ {K : PySem.W.Frag} {value : Expr} {f : Str} {pos' : Pos} {tv : TE} (hK : X.K = K) (ha : PE X o ta) (hv : PE X value tv) (hs : swapsWith value (some (.Attribute o f pos')) pos.line X.env = pure false) : PS X (.Assign [.Attribute o f pos'] value pos) (sFld K ta tv f) := by subst hK; exact ps_fld ha hv hs
theorem ps_fldaugZ {K : PySem.W.Frag} {value : Expr} {f : Str} {tpos : Pos} {tv : TE} {op : Operator} {rd : V → V → Hp → VK → Prop} (hK : X.K = K) (ha : PE X o ta) (hv : PE X value tv) (hop : InOp X op rd) : PS X (.AugAssign (.Attribute o f tpos) op value pos) (sFldAug K ta tv rd f) := by subst hK; exact ps_fldaug ha hv hop
end
section
variable {X : Cx} {K : PySem.W.Frag} {H : Hp} {Q : VK}
/-- is, is not: with None, of two truth values -/
theorem op_isB : OpR X (compareOp .Is) (fun x y H Q => ∃ b c, x = .bl b ∧ y = .bl c ∧ Q (.bl (b == c)) H) := by
  intro pins s σ H x y v u Q I rx ry h
  obtain ⟨b, c, rfl, rfl, q⟩ := h
  cases rx
  cases ry
  cases b <;> cases c <;> exact PySem.wpAny_pure (fin_bl I q rfl)
def rIsZ : R2 := fun x y H Q => (y = .non ∧ Q (.bl (decide (x = .non))) H) ∨ ∃ b c, x = .bl b ∧ y = .bl c ∧ Q (.bl (b == c)) H
theorem op_isZ : OpR X (compareOp .Is) rIsZ := op_isN.or op_isB
end
section
variable {P : Program} {w : World} {K : PySem.W.Frag} {mg : Str → Option Value} {base : Heap}
theorem fd_mk {x qual : Str} {st : Stmt} {f T : Addr} {oc : Value} {od an : Option Addr} {osl : Array (Option Value)} {kV doc pm cdv ct : Value} {o : Obj} {its : List Value} {n : Nat} {dvs : List V} (l : K.lookup f = some ⟨oc, od, .func (PySem.W.fnOf x qual (defArgs st) (defBody st) (defScope st) (.ref T) kV doc pm an cdv ct), osl⟩)
    (c : PySem.W.codeIn K cdv qual = true) (k : PySem.W.keepIn K (.ref f) = true) (lt : K.lookup T = some o) (ot : o.data = .seq its.toArray n) (r : Vals dvs its) (hd : dvs ≠ []) :
    FunD K x qual (defArgs st) (defBody st) (defScope st) dvs [] f (PySem.W.fnOf x qual (defArgs st) (defBody st) (defScope st) (.ref T) kV doc pm an cdv ct) :=
  ⟨⟨oc, od, _, kV, doc, pm, an, cdv, ct, osl, rfl, l, c, Or.inr ⟨hd, T, o, its, n, rfl, lt, ot, r⟩, Or.inl rfl⟩, k⟩
end
section
variable {X : Cx} {CX : CXT} {k : Nat} {f C : Addr} {fd : FuncData} {ps : List Str} {sp : Sp} {E : St → XK} {x m : Str} {p pos apos : Pos} {e o : Expr} {es : List Expr} {ta : TE} {t : TA}
def tMethS (C : Addr) (m : Str) (sp : Sp) (E : St → XK) (ta : TE) (t : TA) : TE := fun σ H Q => ta σ H fun x H1 => rMeth C m (fun x H1 => t σ H1 fun vs H2 => sp (x :: (vs ++ [])) H2 Q (E σ)) x H1
theorem pe_methS {pl : Sem Bool} (he : PE X o ta) (c : Cls X.K C) (hm : Meth X.K C m f) (F : FnOk X.prog X.w X.K X.mg X.base CX k f fd ps sp) (hr : Room k X.A) (hb : Binds X.K fd ps []) (hx : ∀ σ, PassesAt CX X σ (E σ)) (ha : PA X (e :: es) t)
    (hst : starEach (e :: es) X.env = (false, eval e X.env) :: starEach es X.env := by rfl) (hpl : (backTo pos (starEach es X.env)).any (·.1) = false := by rfl)
    (ht : eval (.Call (.Attribute o m apos) (e :: es) [] pos) X.env = (do
      let ov ← eval o X.env
      standAt apos.atName
      let (f, first) ← holding [ov] (getMethod ov m pl)
      callWith pos f first (backTo pos (starEach (e :: es) X.env)) (backToKw pos (keywordEach [] X.env))) := by rfl) :
    PE X (.Call (.Attribute o m apos) (e :: es) [] pos) (tMethS C m sp E ta t) := by
  refine ⟨fun pins s σ H Q I h => ?_⟩
  refine PySem.W.methodCall_KW (pl := pl) (thn (he.run pins s σ H _ I h) fun u s1 ⟨x, H1, I1, rx, a, dx, fs, ex, ea, l, q⟩ => ?_) ht
  subst ex
  obtain rfl : u = Value.ref a := rx
  refine getmeth_ok I1 ea c hm l ?_
  refine PySem.W.callWith_K (first := [.ref a]) (h₀ := X.base) I.ok.mod.kin hm.kp (thn (ha.run pos pins s1 σ H1 _ I1 q) fun us s2 ⟨vs, H2, I2, r, q2⟩ => ⟨I2.kIn, ?_⟩) hst hpl
  have q3 : sp (V.ref a :: vs) H2 Q (E σ) := by have q4 : sp (V.ref a :: (vs ++ [])) H2 Q (E σ) := q2; rw [List.append_nil] at q4; exact q4
  exact run_fnS (us := .ref a :: us) (vs := .ref a :: vs) F hr hb (hx σ) I2 (.cons rfl r) q3
def tMakeS (C : Addr) (sp : Sp) (dvs : List V) (E : St → XK) (t : TA) : TE := fun σ H Q => t σ H fun vs H1 => rMake C sp (E σ) dvs Q vs H1
variable {dvs : List V} {ds : List Value}
theorem run_makeS {pins : List (Addr × Obj)} {σ : St} {H : Hp} {s : Shared} {Q : VK} {us : List Value} {vs : List V} (M : Mk X.K C f) (F : FnOk X.prog X.w X.K X.mg X.base CX k f fd ps sp) (hr : Room (k + 1) X.A) (hb : Binds X.K fd ps ds) (hd : Vals dvs ds)
    (hx : PassesAt CX X σ (E σ)) (I : Inv X pins σ H s) (r : Vals vs us) (h : rMake C sp (E σ) dvs Q vs H) :
    wpAny (model X.prog X.w) X.A (call (.ref C) us) (EP X pins σ Q) X.xe s := by
  have hq := h (s.heap.objs.size + 1) s.heap.objs.size (I.hok.fresh (Nat.le_succ _)) (I.hok.fresh (Nat.le_refl _)) (Nat.ne_of_lt (Nat.lt_succ_self _))
  have I2 := Inv.made (C := C) I
  have r2 : Vals (V.ref (s.heap.objs.size + 1) :: (vs ++ dvs)) (Value.ref (s.heap.objs.size + 1) :: (us ++ ds)) := .cons rfl (r.append hd)
  have hl : (Value.ref (s.heap.objs.size + 1) :: us ++ ds).length = ps.length := by
    have e := r2.length
    rw [F.len _ _ _ _ hq] at e
    exact e.symm
  refine wpAny_call (make_map (f := f) I.kIn M.makes M.init (beq_iff_eq.mp M.fn) (codeAny_mono (F.run _ X.stack _ _ ⟨Value.ref (s.heap.objs.size + 1) :: us, []⟩ (Value.ref (s.heap.objs.size + 1) :: (us ++ ds)) _ _ (E σ) (hr.make C us [])
    (I2.env0.make C us []) (hb _ (Value.ref (s.heap.objs.size + 1) :: us) I2.kIn hl) r2 hq) fun r s' hq' => ?_))
  cases r with
  | error e => exact hx pins _ _ e s' I2 hq'
  | ok fl =>
    cases fl with
    | ret u =>
      obtain ⟨v, H', I3, rv, ev, q3⟩ := I2.after hq'
      subst ev
      exact ⟨rv, ⟨V.ref (s.heap.objs.size + 1), H', I3, rfl, q3⟩⟩
    | next => exact False.elim hq'
    | brk => exact False.elim hq'
    | cont => exact False.elim hq'
theorem pe_makeS (M : Mk X.K C f) (F : FnOk X.prog X.w X.K X.mg X.base CX k f fd ps sp) (hr : Room (k + 1) X.A) (hg : Gl X x) (hm : X.mg x = some (.ref C)) (hb : Binds X.K fd ps ds) (hd : Vals dvs ds) (hx : ∀ σ, PassesAt CX X σ (E σ))
    (ha : PA X (e :: es) t) (hdb : (x == ("__debug__" : Str)) = false := by decide) (he : starEach (e :: es) X.env = (false, eval e X.env) :: starEach es X.env := by rfl) (hpl : (backTo pos (starEach es X.env)).any (·.1) = false := by rfl) :
    PE X (.Call (.Name x p) (e :: es) [] pos) (tMakeS C sp dvs E t) := by
  refine ⟨fun pins s σ H Q I h => ?_⟩
  refine wpAny_Call_Name_kw (ld_glob I hg hm ?_ hdb)
  refine PySem.W.callWith_K (h₀ := X.base) I.ok.mod.kin M.kp (thn (ha.run pos pins s σ H _ I h) fun us s1 ⟨vs, H1, I1, r, q⟩ => ⟨I1.kIn, ?_⟩) he hpl
  exact run_makeS M F hr hb hd (hx σ) I1 r q
end
/-- a raise of an own class: the way out -/
def tRaiseZ (C : Addr) (W : WX) : TS := fun _ σ H => W (.ref C) none σ H
theorem ps_raiseZ {X : Cx} {W : WX} {C : Addr} {bmB : List Value} {B newId initId : String} {x m : Str} {j : Nat} {p p2 pos pos' : Pos} (hc : X.calm = true) (tk : Takes X W) (F : ExcBaseFacts B newId initId bmB) (q : PySem.W.excIn X.K C bmB newId = true) (gC : X.mg x = some (.ref C)) (kC : PySem.W.keepIn X.K (.ref C) = true) (r : Raises X (.ref C)) (hg : Gl X x)
    (hdb : (x == ("__debug__" : Str)) = false := by decide) : PS X (.Raise (some (.Call (.Name x p) [.Constant (.str m) j p2] [] pos)) none pos') (tRaiseZ C W) := ps_raise hc tk (pmk_own F q gC kC r hg hdb)
/-- which class an except clause takes -/
theorem exm_of {K : PySem.W.Frag} {R S : Addr} {b : Bool} (h2 : PySem.W.isClsIn K S = true) (h3 : PySem.W.typeIn K (.ref S) = some (.type "type")) (hb : PySem.W.subIn K (.ref S) (.type "BaseException") = some true) (h4 : PySem.W.subIn K (.ref R) (.ref S) = some b) :
    PySem.W.exmOne K (.ref R) (.ref S) = some b := by
  have e1 : (PySem.W.subIn K (.ref S) (.type "BaseException") == some true) = true := by rw [hb] <;> rfl
  have e2 : ((PySem.W.clsIn K S).isSome && PySem.W.typeIn K (.ref S) == some (.type "type")) = true := by
    have h2' : (PySem.W.clsIn K S).isSome = true := h2
    rw [h2', h3] <;> rfl
  show (if (PySem.W.subIn K (.ref S) (.type "BaseException") == some true) = true then (if ((PySem.W.clsIn K S).isSome && PySem.W.typeIn K (.ref S) == some (.type "type")) = true then PySem.W.subIn K (.ref R) (.ref S) else none) else none) = some b
  rw [if_pos e1, if_pos e2]
  exact h4
end Z
namespace Y
open PySem L2 Z
/-- data -/
inductive D where
  | non | bl (b : Bool) | int (i : Int) | str (x : Str)
  | tup (l : List D) | ctp (l : List D) | lst (l : List D) | clst (l : List D)
  | dK (l : List (Key × D)) | dT (l : List (List Key × D))
  | cid (k : Nat) | ty (n : String)
/-- the classes' places; in a suite: the exception's place, class and dict -/
structure Ct where
  c : Nat → Addr
  xa : Option (Addr × Addr × Option Addr)
  lk : Option Addr
instance : CoeFun Ct (fun _ => Nat → Addr) := ⟨Ct.c⟩
/-- what may be changed -/
inductive Cn where
  | lst (l : List D) | dK (l : List (Key × D)) | dT (l : List (List Key × D)) | obj (c : Nat) (fs : List (Str × D)) | lkK (l : List (Key × D)) | lkT (l : List (List Key × D))
structure Exn where
  cls : Nat
  fs : List (Str × D)
inductive Ent where
  | fz (d : D) | ow (c : Cn) | xn (x : Exn)
structure Stt where
  env : List (Option Ent)
  M : List Cn
inductive AI where
  | val (d : D) | slot (i : Nat) | new (c : Cn)
inductive Ro (α : Type) where
  | ok (a : α) (s : Stt) | er (x : Exn) (s : Stt) | no
abbrev Mo (α : Type) := Stt → Ro α
def Ro.bind {α β : Type} (r : Ro α) (f : α → Mo β) : Ro β :=
  match r with
  | .ok a s => f a s
  | .er x s => .er x s
  | .no => .no
inductive Rs where
  | nx (s : Stt) | rt (a : AI) (s : Stt) | bk (s : Stt) | ct (s : Stt) | er (x : Exn) (s : Stt) | no
abbrev Ms := Stt → Rs
/-- a def: what it hands back (a value, or a thing made anew), the objects behind it -/
inductive Fr where
  | ok (a : AI) (M : List Cn) | er (x : Exn) (M : List Cn) | no
abbrev Mf := List D → List Cn → Fr
def Cn.toD : Cn → D
  | .lst l => .lst l
  | .dK l => .dK l
  | .dT l => .dT l
  | .obj _ _ => .non
  | .lkK _ => .non
  | .lkT _ => .non
def Cn.isC : Cn → Bool
  | .obj _ _ => false
  | .lkK _ => false
  | .lkT _ => false
  | _ => true
mutual
inductive Rp (K : PySem.W.Frag) (G : Hp) (α : Nat → Addr) (n : Nat) : V → D → Prop
  | non : Rp K G α n .non .non
  | bl (b : Bool) : Rp K G α n (.bl b) (.bl b)
  | int (i : Int) : Rp K G α n (.int i) (.int i)
  | str (x : Str) : Rp K G α n (.str x) (.str x)
  | tup {a : Addr} {vs : List V} {l : List D} : G a = some (.tup vs) → RpL K G α n vs l → Rp K G α n (.ref a) (.tup l)
  | ctp {a : Addr} {vs : List V} {l : List D} : SqT K G a vs → RpL K G α n vs l → Rp K G α n (.ref a) (.ctp l)
  | lst {a : Addr} {vs : List V} {l : List D} : G a = some (.lst vs) → RpL K G α n vs l → Rp K G α n (.ref a) (.lst l)
  | clst {a : Addr} {vs : List V} {l : List D} : SqL K G a vs → RpL K G α n vs l → Rp K G α n (.ref a) (.clst l)
  | dK {a : Addr} {kvs : List (Key × V)} {l : List (Key × D)} : G a = some (.dK kvs) → kvs.map Prod.fst = l.map Prod.fst → RpL K G α n (kvs.map Prod.snd) (l.map Prod.snd) → Rp K G α n (.ref a) (.dK l)
  | dT {a : Addr} {kvs : List (List Key × V)} {l : List (List Key × D)} : G a = some (.dT kvs) → kvs.map Prod.fst = l.map Prod.fst → RpL K G α n (kvs.map Prod.snd) (l.map Prod.snd) → Rp K G α n (.ref a) (.dT l)
  | cid {k : Nat} : k < n → Rp K G α n (.ref (α k)) (.cid k)
  | ty (m : String) : Rp K G α n (.ty m) (.ty m)
inductive RpL (K : PySem.W.Frag) (G : Hp) (α : Nat → Addr) (n : Nat) : List V → List D → Prop
  | nil : RpL K G α n [] []
  | cons {v : V} {vs : List V} {d : D} {l : List D} : Rp K G α n v d → RpL K G α n vs l → RpL K G α n (v :: vs) (d :: l)
end
theorem rd_mono {G G' : Hp} {a : Addr} {u : HO} (s : Same G G') (h : Rd G a u) : Rd G' a u := by
  rcases h with h | ⟨o, h⟩
  · exact .inl (s _ _ h)
  · exact .inr ⟨o, s _ _ h⟩
theorem st_mono {K : PySem.W.Frag} {G G' : Hp} {a : Addr} {xs : List V} (s : Same G G') (h : SqT K G a xs) : SqT K G' a xs := by
  rcases h with h | h
  · exact .inl (rd_mono s h)
  · exact .inr h
section
variable {K : PySem.W.Frag} {G G' : Hp} {α α' : Nat → Addr} {n n' : Nat}
mutual
theorem Rp.mono (s : Same G G') (ha : ∀ k, k < n → α' k = α k) (hn : n ≤ n') : ∀ {v : V} {d : D}, Rp K G α n v d → Rp K G' α' n' v d
  | _, _, .non => .non
  | _, _, .bl b => .bl b
  | _, _, .int i => .int i
  | _, _, .str x => .str x
  | _, _, .ty x => .ty x
  | _, _, .tup h r => .tup (s _ _ h) (RpL.mono s ha hn r)
  | _, _, .ctp h r => .ctp (st_mono s h) (RpL.mono s ha hn r)
  | _, _, .lst h r => .lst (s _ _ h) (RpL.mono s ha hn r)
  | _, _, .clst h r => .clst (s.seq h) (RpL.mono s ha hn r)
  | _, _, .dK h e r => .dK (s _ _ h) e (RpL.mono s ha hn r)
  | _, _, .dT h e r => .dT (s _ _ h) e (RpL.mono s ha hn r)
  | _, _, .cid (k := k) h => by
    have e := ha k h
    rw [← e]
    exact .cid (Nat.lt_of_lt_of_le h hn)
theorem RpL.mono (s : Same G G') (ha : ∀ k, k < n → α' k = α k) (hn : n ≤ n') : ∀ {vs : List V} {l : List D}, RpL K G α n vs l → RpL K G' α' n' vs l
  | _, _, .nil => .nil
  | _, _, .cons h r => .cons (Rp.mono s ha hn h) (RpL.mono s ha hn r)
end
theorem RpL.length : ∀ {vs : List V} {l : List D}, RpL K G α n vs l → vs.length = l.length
  | _, _, .nil => rfl
  | _, _, .cons _ r => by rw [List.length_cons, List.length_cons, RpL.length r]
theorem RpL.append : ∀ {vs us : List V} {l m : List D}, RpL K G α n vs l → RpL K G α n us m → RpL K G α n (vs ++ us) (l ++ m)
  | _, _, _, _, .nil, h => h
  | _, _, _, _, .cons a r, h => .cons a (r.append h)
theorem RpL.get : ∀ {vs : List V} {l : List D} {i : Nat} {d : D}, RpL K G α n vs l → l[i]? = some d → ∃ v, vs[i]? = some v ∧ Rp K G α n v d
  | _, _, _, _, .nil, e => by simp at e
  | _, _, 0, _, .cons a _, e => ⟨_, rfl, by simp at e; subst e; exact a⟩
  | _, _, i + 1, d, .cons _ r, e => by
    obtain ⟨v, h1, h2⟩ := RpL.get (i := i) (d := d) r (by simpa using e)
    exact ⟨v, by simpa using h1, h2⟩
theorem RpL.set {v : V} {d : D} (h : Rp K G α n v d) : ∀ {vs : List V} {l : List D} (i : Nat), RpL K G α n vs l → RpL K G α n (vs.set i v) (l.set i d)
  | _, _, _, .nil => .nil
  | _, _, 0, .cons _ r => .cons h r
  | _, _, i + 1, .cons a r => .cons a (RpL.set h i r)
theorem RpL.take : ∀ {vs : List V} {l : List D} (i : Nat), RpL K G α n vs l → RpL K G α n (vs.take i) (l.take i)
  | _, _, 0, _ => .nil
  | _, _, _ + 1, .nil => .nil
  | _, _, i + 1, .cons a r => .cons a (r.take i)
theorem RpL.drop : ∀ {vs : List V} {l : List D} (i : Nat), RpL K G α n vs l → RpL K G α n (vs.drop i) (l.drop i)
  | _, _, 0, h => h
  | _, _, _ + 1, .nil => .nil
  | _, _, i + 1, .cons _ r => r.drop i
end
def strip : Option HO → Option HO
  | some (.frz _ (.dK k)) => some (.dK k)
  | some (.frz _ (.dT k)) => some (.dT k)
  | x => x
/-- b: the dict that is locked, if any -/
def U (b : Option Addr) (H : Hp) : Hp := fun a => if b = some a then strip (H a) else H a
section
variable {K : PySem.W.Frag} {b : Option Addr} {H : Hp} {a p : Addr} {o : HO} {vs : List V}
theorem U0 : U none H = H := by funext a; unfold U; rw [if_neg (by simp)]
theorem U_same {H' : Hp} (h : H' a = H a) : U b H' a = U b H a := by unfold U; rw [h]
theorem U_none (h : H a = none) : U b H a = none := by unfold U; rw [h]; split <;> rfl
theorem U_ne (h : a ≠ p) : U b (upd H p o) a = U b H a := U_same (upd_ne h)
theorem uL (h : H a = some (.lst vs)) : U b H a = some (.lst vs) := by unfold U; rw [h]; split <;> rfl
theorem uP (h : H a = some (.tup vs)) : U b H a = some (.tup vs) := by unfold U; rw [h]; split <;> rfl
theorem uK {k : List (Key × V)} (h : H a = some (.dK k)) : U b H a = some (.dK k) := by unfold U; rw [h]; split <;> rfl
theorem uT {k : List (List Key × V)} (h : H a = some (.dT k)) : U b H a = some (.dT k) := by unfold U; rw [h]; split <;> rfl
theorem U_cases (b : Option Addr) (H : Hp) (a : Addr) : U b H a = H a ∨ (∃ o k, H a = some (.frz o (.dK k)) ∧ U b H a = some (.dK k)) ∨ ∃ o k, H a = some (.frz o (.dT k)) ∧ U b H a = some (.dT k) := by
  unfold U
  split
  · unfold strip
    split
    · rename_i o k h; exact .inr (.inl ⟨o, k, h, rfl⟩)
    · rename_i o k h; exact .inr (.inr ⟨o, k, h, rfl⟩)
    · exact .inl rfl
  · exact .inl rfl
theorem uL' (h : U b H a = some (.lst vs)) : H a = some (.lst vs) := by
  rcases U_cases b H a with e | ⟨o, k, _, e⟩ | ⟨o, k, _, e⟩
  · rw [e] at h; exact h
  · rw [e] at h; cases h
  · rw [e] at h; cases h
theorem uP' (h : U b H a = some (.tup vs)) : H a = some (.tup vs) := by
  rcases U_cases b H a with e | ⟨o, k, _, e⟩ | ⟨o, k, _, e⟩
  · rw [e] at h; exact h
  · rw [e] at h; cases h
  · rw [e] at h; cases h
theorem uF' {o : Obj} {u : HO} (h : U b H a = some (.frz o u)) : H a = some (.frz o u) := by
  rcases U_cases b H a with e | ⟨o, k, _, e⟩ | ⟨o, k, _, e⟩
  · rw [e] at h; exact h
  · rw [e] at h; cases h
  · rw [e] at h; cases h
theorem uK' {k : List (Key × V)} (h : U b H a = some (.dK k)) : Rd H a (.dK k) := by
  rcases U_cases b H a with e | ⟨o, k', q, e⟩ | ⟨o, k', q, e⟩
  · rw [e] at h; exact .inl h
  · rw [e] at h; cases h; exact .inr ⟨o, q⟩
  · rw [e] at h; cases h
theorem uSqL (h : SqL K (U b H) a vs) : SqL K H a vs := by
  rcases h with (h | ⟨o, h⟩) | h
  · exact .inl (.inl (uL' h))
  · exact .inl (.inr ⟨o, uF' h⟩)
  · exact .inr h
theorem uSqT (h : SqT K (U b H) a vs) : SqT K H a vs := by
  rcases h with (h | ⟨o, h⟩) | h
  · exact .inl (.inl (uP' h))
  · exact .inl (.inr ⟨o, uF' h⟩)
  · exact .inr h
end
inductive Lab where
  | id (k : Nat) | slot (i : Nat)
  deriving DecidableEq
structure Sh where
  G : Hp
  α : Nat → Addr
  lab : Addr → Option Lab
def CnOk (K : PySem.W.Frag) (ct : Ct) (S : Sh) (n : Nat) (H : Hp) (p : Addr) : Cn → Prop
  | .lst l => ∃ vs, H p = some (.lst vs) ∧ RpL K S.G S.α n vs l
  | .dK l => ∃ kvs, H p = some (.dK kvs) ∧ kvs.map Prod.fst = l.map Prod.fst ∧ RpL K S.G S.α n (kvs.map Prod.snd) (l.map Prod.snd)
  | .dT l => ∃ kvs, H p = some (.dT kvs) ∧ kvs.map Prod.fst = l.map Prod.fst ∧ RpL K S.G S.α n (kvs.map Prod.snd) (l.map Prod.snd)
  | .obj c fs => ∃ dx fvs, H p = some (.ins (ct c) dx fvs) ∧ fvs.map Prod.fst = fs.map Prod.fst ∧ RpL K S.G S.α n (fvs.map Prod.snd) (fs.map Prod.snd)
  | .lkK l => ∃ kvs, (∃ od, H p = some (.frz od (.dK kvs))) ∧ kvs.map Prod.fst = l.map Prod.fst ∧ RpL K S.G S.α n (kvs.map Prod.snd) (l.map Prod.snd)
  | .lkT l => ∃ kvs, (∃ od, H p = some (.frz od (.dT kvs))) ∧ kvs.map Prod.fst = l.map Prod.fst ∧ RpL K S.G S.α n (kvs.map Prod.snd) (l.map Prod.snd)
def XOk (K : PySem.W.Frag) (S : Sh) (n : Nat) (H : Hp) (x : Exn) (dd : Option Addr) : Prop :=
  (x.fs = [] ∧ dd = none) ∨ ∃ d fvs, dd = some d ∧ S.G d = some (.xd fvs) ∧ fvs.map Prod.fst = x.fs.map Prod.fst ∧ RpL K S.G S.α n (fvs.map Prod.snd) (x.fs.map Prod.snd)
theorem XOk.mono {K : PySem.W.Frag} {S S' : Sh} {n n' : Nat} {H H' : Hp} {x : Exn} {dd : Option Addr} (g : Same S.G S'.G) (al : ∀ k, k < n → S'.α k = S.α k) (hn : n ≤ n') (h : XOk K S n H x dd) : XOk K S' n' H' x dd := by
  rcases h with h | ⟨d, fvs, e, h1, h2, h3⟩
  · exact .inl h
  · exact .inr ⟨d, fvs, e, g _ _ h1, h2, h3.mono g al hn⟩
def EntOk (K : PySem.W.Frag) (ct : Ct) (H0 : Hp) (S : Sh) (n : Nat) (σ : St) (H : Hp) (i : Nat) : Ent → Prop
  | .fz d => ∃ v, σ[i]? = some (some v) ∧ Rp K S.G S.α n v d
  | .ow c => ∃ p, σ[i]? = some (some (.ref p)) ∧ H0 p = none ∧ S.lab p = some (.slot i) ∧ c.isC = true ∧ CnOk K ct S n H p c
  | .xn x => ∃ a d, ct.xa = some (a, ct x.cls, d) ∧ σ[i]? = some (some (.ref a)) ∧ XOk K S n H x d
theorem xn_mono {K : PySem.W.Frag} {ct : Ct} {H0 : Hp} {S S' : Sh} {n n' : Nat} {σ σ' : St} {H H' : Hp} {i : Nat} {x : Exn} (g : Same S.G S'.G) (al : ∀ k, k < n → S'.α k = S.α k) (hn : n ≤ n') (hs : σ'[i]? = σ[i]?) (h : EntOk K ct H0 S n σ H i (.xn x)) : EntOk K ct H0 S' n' σ' H' i (.xn x) := by
  obtain ⟨a, d, h1, h2, h3⟩ := h
  exact ⟨a, d, h1, hs.trans h2, h3.mono g al hn⟩
/-- no tuple -/
def NT (o : HO) : Prop := ∀ vs, o ≠ .tup vs
structure Rel (K : PySem.W.Frag) (ct : Ct) (H0 : Hp) (S : Sh) (s : Stt) (σ : St) (H : Hp) : Prop where
  sub : Same S.G (U ct.lk H)
  lg : ∀ a l, S.lab a = some l → S.G a = none ∧ ∃ o, H a = some o ∧ NT o
  dom : ∀ a, H a = none → H0 a = none
  len : σ.length = s.env.length
  slot : ∀ i e, s.env[i]? = some (some e) → EntOk K ct H0 S s.M.length σ H i e
  ids : ∀ k c, s.M[k]? = some c → S.lab (S.α k) = some (.id k) ∧ CnOk K ct S s.M.length H (S.α k) c
structure Stp (S : Sh) (n : Nat) (H : Hp) (S' : Sh) (n' : Nat) (H' : Hp) : Prop where
  g : Same S.G S'.G
  le : n ≤ n'
  al : ∀ k, k < n → S'.α k = S.α k
  fr : ∀ a o, H a = some o → S.lab a = none → H' a = some o ∧ S'.lab a = none
  gn : ∀ a o, S'.G a = some o → S.G a = some o ∨ H a = none ∨ (∃ l, S.lab a = some l) ∨ ∃ vs, H a = some (.tup vs)
  dom : ∀ a, H' a = none → H a = none
  fz : ∀ a od u, H a = some (.frz od u) → H' a = some (.frz od u)
section
variable {S S' S'' : Sh} {n n' n'' : Nat} {H H' H'' : Hp}
theorem Stp.refl : Stp S n H S n H := ⟨fun _ _ e => e, Nat.le_refl _, fun _ _ => rfl, fun _ _ h l => ⟨h, l⟩, fun _ _ h => .inl h, fun _ h => h, fun _ _ _ h => h⟩
theorem Stp.trans (a : Stp S n H S' n' H') (b : Stp S' n' H' S'' n'' H'') : Stp S n H S'' n'' H'' where
  g := fun x o e => b.g x o (a.g x o e)
  le := Nat.le_trans a.le b.le
  al := fun k hk => (b.al k (Nat.lt_of_lt_of_le hk a.le)).trans (a.al k hk)
  fr := fun x o h l => by
    obtain ⟨h1, l1⟩ := a.fr x o h l
    exact b.fr x o h1 l1
  gn := fun x o e => by
    rcases b.gn x o e with h | h | ⟨l, h⟩ | ⟨vs, h⟩
    · exact a.gn x o h
    · exact .inr (.inl (a.dom x h))
    · cases q : H x with
      | none => exact .inr (.inl rfl)
      | some u =>
        cases ql : S.lab x with
        | none =>
          have := (a.fr x u q ql).2
          rw [this] at h; cases h
        | some l' => exact .inr (.inr (.inl ⟨l', rfl⟩))
    · cases q : H x with
      | none => exact .inr (.inl rfl)
      | some u =>
        cases ql : S.lab x with
        | none =>
          have := (a.fr x u q ql).1
          rw [this] at h; cases h
          exact .inr (.inr (.inr ⟨vs, rfl⟩))
        | some l' => exact .inr (.inr (.inl ⟨l', rfl⟩))
  dom := fun x h => a.dom x (b.dom x h)
  fz := fun x od u h => b.fz x od u (a.fz x od u h)
theorem Rp.step {K : PySem.W.Frag} {v : V} {d : D} (t : Stp S n H S' n' H') (h : Rp K S.G S.α n v d) : Rp K S'.G S'.α n' v d := h.mono t.g t.al t.le
theorem RpL.step {K : PySem.W.Frag} {v : List V} {d : List D} (t : Stp S n H S' n' H') (h : RpL K S.G S.α n v d) : RpL K S'.G S'.α n' v d := h.mono t.g t.al t.le
end
theorem CnOk.mono {K : PySem.W.Frag} {ct : Ct} {S S' : Sh} {n n' : Nat} {H H' : Hp} {p : Addr} {c : Cn} (g : Same S.G S'.G) (al : ∀ k, k < n → S'.α k = S.α k) (hn : n ≤ n') (e : ∀ o, H p = some o → H' p = some o) (h : CnOk K ct S n H p c) : CnOk K ct S' n' H' p c := by
  cases c with
  | lst l => obtain ⟨vs, h1, h2⟩ := h; exact ⟨vs, e _ h1, h2.mono g al hn⟩
  | dK l => obtain ⟨vs, h1, h3, h2⟩ := h; exact ⟨vs, e _ h1, h3, h2.mono g al hn⟩
  | dT l => obtain ⟨vs, h1, h3, h2⟩ := h; exact ⟨vs, e _ h1, h3, h2.mono g al hn⟩
  | obj c fs => obtain ⟨dx, vs, h1, h3, h2⟩ := h; exact ⟨dx, vs, e _ h1, h3, h2.mono g al hn⟩
  | lkK l => obtain ⟨vs, ⟨od, h1⟩, h3, h2⟩ := h; exact ⟨vs, ⟨od, e _ h1⟩, h3, h2.mono g al hn⟩
  | lkT l => obtain ⟨vs, ⟨od, h1⟩, h3, h2⟩ := h; exact ⟨vs, ⟨od, e _ h1⟩, h3, h2.mono g al hn⟩
/-- a dict that is locked while it is walked -/
def Cn.lkd : Cn → Bool
  | .lkK _ => true
  | .lkT _ => true
  | _ => false
def NF (o : HO) : Prop := ∀ od u, o ≠ .frz od u
theorem CnOk.nf {K : PySem.W.Frag} {ct : Ct} {S : Sh} {n : Nat} {H : Hp} {p : Addr} {c : Cn} (h : CnOk K ct S n H p c) (hc : c.lkd = false) {o : HO} (e : H p = some o) : NF o := fun od u z => by
  subst z
  cases c with
  | lst l => obtain ⟨us, h1, _⟩ := h; rw [h1] at e; cases e
  | dK l => obtain ⟨us, h1, _⟩ := h; rw [h1] at e; cases e
  | dT l => obtain ⟨us, h1, _⟩ := h; rw [h1] at e; cases e
  | obj c fs => obtain ⟨_, us, h1, _⟩ := h; rw [h1] at e; cases e
  | lkK l => cases hc
  | lkT l => cases hc
theorem CnOk.nt {K : PySem.W.Frag} {ct : Ct} {S : Sh} {n : Nat} {H : Hp} {p : Addr} {c : Cn} (h : CnOk K ct S n H p c) {o : HO} (e : H p = some o) : NT o := fun vs z => by
  subst z
  cases c with
  | lst l => obtain ⟨us, h1, _⟩ := h; rw [h1] at e; cases e
  | dK l => obtain ⟨us, h1, _⟩ := h; rw [h1] at e; cases e
  | dT l => obtain ⟨us, h1, _⟩ := h; rw [h1] at e; cases e
  | obj c fs => obtain ⟨_, us, h1, _⟩ := h; rw [h1] at e; cases e
  | lkK l => obtain ⟨us, ⟨od, h1⟩, _⟩ := h; rw [h1] at e; cases e
  | lkT l => obtain ⟨us, ⟨od, h1⟩, _⟩ := h; rw [h1] at e; cases e
theorem CnOk.some {K : PySem.W.Frag} {ct : Ct} {S : Sh} {n : Nat} {H : Hp} {p : Addr} {c : Cn} (h : CnOk K ct S n H p c) : ∃ o, H p = some o := by
  cases c with
  | lst l => obtain ⟨vs, h1, _⟩ := h; exact ⟨_, h1⟩
  | dK l => obtain ⟨vs, h1, _⟩ := h; exact ⟨_, h1⟩
  | dT l => obtain ⟨vs, h1, _⟩ := h; exact ⟨_, h1⟩
  | obj c fs => obtain ⟨_, vs, h1, _⟩ := h; exact ⟨_, h1⟩
  | lkK l => obtain ⟨vs, ⟨od, h1⟩, _⟩ := h; exact ⟨_, h1⟩
  | lkT l => obtain ⟨vs, ⟨od, h1⟩, _⟩ := h; exact ⟨_, h1⟩
section
variable {K : PySem.W.Frag} {ct : Ct} {H0 : Hp} {S S' : Sh} {s s' : Stt} {σ : St} {H H' : Hp} {p : Addr} {o : HO}
theorem Rel.labN (r : Rel K ct H0 S s σ H) {a : Addr} (h : H a = none) : S.lab a = none := by
  cases q : S.lab a with
  | none => rfl
  | some l => obtain ⟨_, o, e, _⟩ := r.lg a l q; rw [e] at h; cases h
theorem Rel.gN (r : Rel K ct H0 S s σ H) {a : Addr} (h : H a = none) : S.G a = none := by
  cases q : S.G a with
  | none => rfl
  | some l => have := r.sub a l q; rw [U_none h] at this; cases this
/-- a new thing that nobody has yet -/
theorem Rel.new (r : Rel K ct H0 S s σ H) (hp : H p = none) : Rel K ct H0 S s σ (upd H p o) := by
  have ne : ∀ {a : Addr} {u : HO}, H a = some u → upd H p o a = some u := fun {a u} e => by rw [upd_ne (ne_of_none e hp)]; exact e
  have cn : ∀ {a : Addr} {c : Cn}, CnOk K ct S s.M.length H a c → CnOk K ct S s.M.length (upd H p o) a c := fun {a c} h => h.mono (fun _ _ e => e) (fun _ _ => rfl) (Nat.le_refl _) (fun _ e => ne e)
  refine ⟨fun a u e => by rw [U_ne (fun z => by subst z; rw [r.gN hp] at e; cases e)]; exact r.sub a u e, fun a l e => ?_, fun a e => ?_, r.len, fun i e h => ?_, fun k c h => ?_⟩
  · obtain ⟨h1, u, h2, h3⟩ := r.lg a l e
    exact ⟨h1, u, ne h2, h3⟩
  · exact r.dom a (upd_none.mp e).2
  · have q := r.slot i e h
    cases e with
    | fz d => exact q
    | xn x => exact xn_mono (fun _ _ e => e) (fun _ _ => rfl) (Nat.le_refl _) rfl q
    | ow c =>
      obtain ⟨a, h1, h2, h3, h4, h5⟩ := q
      exact ⟨a, h1, h2, h3, h4, cn h5⟩
  · obtain ⟨h1, h2⟩ := r.ids k c h
    exact ⟨h1, cn h2⟩
theorem Stp.new (r : Rel K ct H0 S s σ H) (hp : H p = none) {n : Nat} : Stp S n H S n (upd H p o) where
  g := fun _ _ e => e
  le := Nat.le_refl _
  al := fun _ _ => rfl
  fr := fun a u h l => ⟨by rw [upd_ne (ne_of_none h hp)]; exact h, l⟩
  gn := fun _ _ e => .inl e
  dom := fun a e => (upd_none.mp e).2
  fz := fun a od u h => by rw [upd_ne (ne_of_none h hp)]; exact h
def Sh.frz (S : Sh) (p : Addr) (o : HO) : Sh := ⟨upd S.G p o, S.α, S.lab⟩
/-- what nobody has is frozen -/
theorem Rel.frz (r : Rel K ct H0 S s σ H) (hp : U ct.lk H p = some o) (hl : S.lab p = none) (hg : S.G p = none) : Rel K ct H0 (S.frz p o) s σ H := by
  have sg : Same S.G (S.frz p o).G := fun a u e => by show upd S.G p o a = _; rw [upd_ne (ne_of_none e hg)]; exact e
  have cn : ∀ {a : Addr} {c : Cn}, CnOk K ct S s.M.length H a c → CnOk K ct (S.frz p o) s.M.length H a c := fun {a c} h => h.mono sg (fun _ _ => rfl) (Nat.le_refl _) (fun _ e => e)
  refine ⟨fun a u e => ?_, fun a l e => ?_, r.dom, r.len, fun i e h => ?_, fun k c h => ?_⟩
  · have e : upd S.G p o a = some u := e
    by_cases q : a = p
    · subst q; rw [upd_same] at e; cases e; exact hp
    · rw [upd_ne q] at e; exact r.sub a u e
  · have e1 : S.lab a = some l := e
    obtain ⟨h1, h2⟩ := r.lg a l e1
    refine ⟨?_, h2⟩
    show upd S.G p o a = none
    rw [upd_ne (fun z => by subst z; rw [e1] at hl; cases hl)]
    exact h1
  · have q := r.slot i e h
    cases e with
    | fz d => obtain ⟨v, h1, h2⟩ := q; exact ⟨v, h1, h2.mono sg (fun _ _ => rfl) (Nat.le_refl _)⟩
    | xn x => exact xn_mono sg (fun _ _ => rfl) (Nat.le_refl _) rfl q
    | ow c =>
      obtain ⟨a, h1, h2, h3, h4, h5⟩ := q
      exact ⟨a, h1, h2, h3, h4, cn h5⟩
  · obtain ⟨h1, h2⟩ := r.ids k c h
    exact ⟨h1, cn h2⟩
theorem Stp.frz {n : Nat} (hg : S.G p = none) (hs : H p = none ∨ ∃ l, S.lab p = some l) (hd : ∀ a, H' a = none → H a = none) (fr : ∀ a u, H a = some u → S.lab a = none → H' a = some u) (hz : ∀ a od u, H a = some (.frz od u) → H' a = some (.frz od u)) : Stp S n H (S.frz p o) n H' where
  g := fun a u e => by show upd S.G p o a = _; rw [upd_ne (ne_of_none e hg)]; exact e
  le := Nat.le_refl _
  al := fun _ _ => rfl
  fr := fun a u h l => ⟨fr a u h l, l⟩
  gn := fun a u e => by
    have e : upd S.G p o a = some u := e
    by_cases q : a = p
    · subst q
      rcases hs with hs | hs
      · exact .inr (.inl hs)
      · exact .inr (.inr (.inl hs))
    · rw [upd_ne q] at e; exact .inl e
  fz := hz
  dom := hd
end
end Y
namespace Y
open PySem L2 Z
def ItOk (K : PySem.W.Frag) (ct : Ct) (Hs : Hp) (S : Sh) (s : Stt) (σ : St) (H : Hp) (v : V) : AI → Prop
  | .val d => Rp K S.G S.α s.M.length v d
  | .slot i => σ[i]? = some (some v)
  | .new c => ∃ p, v = .ref p ∧ Hs p = none ∧ S.lab p = none ∧ S.G p = none ∧ c.isC = true ∧ CnOk K ct S s.M.length H p c
/-- how a result is told: the heap ahead, the state behind, the thing, its data -/
abbrev RR (β α : Type) := Hp → Sh → Stt → St → Hp → β → α → Prop
section
variable {K : PySem.W.Frag} {ct : Ct} {H0 : Hp} {W : WX}
def Pst (K : PySem.W.Frag) (ct : Ct) (H0 : Hp) {β α : Type} (R : RR β α) (W : WX) (S : Sh) (s : Stt) (σ : St) (H : Hp) (Q : β → Hp → Prop) : Ro α → Prop
  | .ok a s' => ∀ S' b H', Stp S s.M.length H S' s'.M.length H' → Rel K ct H0 S' s' σ H' → R H S' s' σ H' b a → Q b H'
  | .er x s' => ∀ S' H' dd, Stp S s.M.length H S' s'.M.length H' → Rel K ct H0 S' s' σ H' → XOk K S' s'.M.length H' x dd → W (.ref (ct x.cls)) dd σ H'
  | .no => False
def Jd (K : PySem.W.Frag) (ct : Ct) (H0 : Hp) {β α : Type} (R : RR β α) (W : WX) (t : St → Hp → (β → Hp → Prop) → Prop) (m : Mo α) : Prop :=
  ∀ S s σ H Q, Rel K ct H0 S s σ H → Pst K ct H0 R W S s σ H Q (m s) → t σ H Q
/-- a result that is told by an earlier heap, too -/
def Bck {β α : Type} (R : RR β α) : Prop := ∀ H1 H S s σ H' b a, (∀ x, H1 x = none → H x = none) → R H1 S s σ H' b a → R H S s σ H' b a
def RI (K : PySem.W.Frag) (ct : Ct) : RR V AI := fun H S s σ H' v a => ItOk K ct H S s σ H' v a
def RV (K : PySem.W.Frag) : RR V D := fun _ S s _ _ v d => Rp K S.G S.α s.M.length v d
def RVL (K : PySem.W.Frag) : RR (List V) (List D) := fun _ S s _ _ v d => RpL K S.G S.α s.M.length v d
def RB : RR Bool Bool := fun _ _ _ _ _ b a => b = a
def RO : RR (Option Int) (Option Int) := fun _ _ _ _ _ b a => b = a
theorem bI : Bck (RI K ct) := fun H1 H S s σ H' v a k h => by
  cases a with
  | val d => exact h
  | slot i => exact h
  | new c => obtain ⟨p, e, h1, h2⟩ := h; exact ⟨p, e, k _ h1, h2⟩
theorem bVL : Bck (RVL K) := fun _ _ _ _ _ _ _ _ _ h => h
theorem bB : Bck RB := fun _ _ _ _ _ _ _ _ _ h => h
theorem bO : Bck RO := fun _ _ _ _ _ _ _ _ _ h => h
variable {β α γ δ : Type} {R : RR β α} {R' : RR γ δ} {S S1 : Sh} {s s1 : Stt} {σ : St} {H H1 : Hp}
theorem Pst.from {Q : β → Hp → Prop} {r : Ro α} (b : Bck R) (h : Pst K ct H0 R W S s σ H Q r) (t : Stp S s.M.length H S1 s1.M.length H1) : Pst K ct H0 R W S1 s1 σ H1 Q r := by
  cases r with
  | ok a s' => exact fun S' b' H' st rel q => h S' b' H' (t.trans st) rel (b _ _ _ _ _ _ _ _ t.dom q)
  | er x s' => exact fun S' H' dd st rel q => h S' H' dd (t.trans st) rel q
  | no => exact h
theorem Pst.bind {Q : γ → Hp → Prop} {Q1 : β → Hp → Prop} {r : Ro α} {f : α → Mo δ} (b : Bck R') (h : Pst K ct H0 R' W S s σ H Q (r.bind f))
    (k : ∀ S1 s1 H1 x a, Stp S s.M.length H S1 s1.M.length H1 → Rel K ct H0 S1 s1 σ H1 → R H S1 s1 σ H1 x a → Pst K ct H0 R' W S1 s1 σ H1 Q (f a s1) → Q1 x H1) : Pst K ct H0 R W S s σ H Q1 r := by
  cases r with
  | ok a s' => exact fun S' x H' st rel q => k S' s' H' x a st rel q (Pst.from b h st)
  | er x s' => exact h
  | no => exact h
theorem ItOk.step {Hs : Hp} {v : V} {a : AI} (t : Stp S s.M.length H S1 s1.M.length H1) (h : ItOk K ct Hs S s σ H v a) : ItOk K ct Hs S1 s1 σ H1 v a := by
  cases a with
  | val d => exact Rp.step t h
  | slot i => exact h
  | new c =>
    obtain ⟨p, e, h1, h2, h3, h4, h5⟩ := h
    obtain ⟨o, ho⟩ := h5.some
    obtain ⟨k1, k2⟩ := t.fr p o ho h2
    refine ⟨p, e, h1, k2, ?_, h4, h5.mono t.g t.al t.le fun u hu => (t.fr p u hu h2).1⟩
    cases q : S1.G p with
    | none => rfl
    | some u =>
      rcases t.gn p u q with z | z | ⟨l, z⟩ | ⟨us, z⟩
      · rw [h3] at z; cases z
      · rw [ho] at z; cases z
      · rw [h2] at z; cases z
      · exact absurd rfl (h5.nt z us)
def Cn.aL : Cn → Option (List D)
  | .lst l => some l
  | _ => none
def Cn.aK : Cn → Option (List (Key × D))
  | .dK l => some l
  | .lkK l => some l
  | _ => none
def Cn.aT : Cn → Option (List (List Key × D))
  | .dT l => some l
  | .lkT l => some l
  | _ => none
def listOf (M : List Cn) : D → Option (List D)
  | .lst l => some l
  | .clst l => some l
  | .cid k => M[k]?.bind Cn.aL
  | _ => none
def tupOf : D → Option (List D)
  | .tup l => some l
  | .ctp l => some l
  | _ => none
def dictOf (M : List Cn) : D → Option (List (Key × D))
  | .dK l => some l
  | .cid k => M[k]?.bind Cn.aK
  | _ => none
def dictTOf (M : List Cn) : D → Option (List (List Key × D))
  | .dT l => some l
  | .cid k => M[k]?.bind Cn.aT
  | _ => none
def Ent.toD : Ent → D
  | .fz d => d
  | .ow c => c.toD
  | .xn _ => .non
def Ent.nox : Ent → Option Ent
  | .xn _ => none
  | e => some e
def entAt (s : Stt) (i : Nat) : Option Ent := ((s.env[i]?).getD none).bind Ent.nox
theorem nox_xn {o : Option Ent} {x : Exn} (h : o.bind Ent.nox = some (.xn x)) : False := by
  cases o with
  | none => cases h
  | some e => cases e <;> cases h
theorem entAt_xn {s : Stt} {i : Nat} {x : Exn} (h : entAt s i = some (.xn x)) : False := nox_xn h
theorem entAt_eq {s : Stt} {i : Nat} {e : Ent} (h : entAt s i = some e) : s.env[i]? = some (some e) := by
  unfold entAt at h
  cases q : s.env[i]? with
  | none => rw [q] at h; cases h
  | some z =>
    rw [q] at h
    cases z with
    | none => cases h
    | some z => cases z <;> cases h <;> rfl
/-- an item as data, what it has now -/
def look (s : Stt) : AI → Option D
  | .val d => some d
  | .new c => some c.toD
  | .slot i => (entAt s i).map Ent.toD
def viewL (s : Stt) (a : AI) : Option (List D) := (look s a).bind (listOf s.M)
def viewT (s : Stt) (a : AI) : Option (List D) := (look s a).bind tupOf
def viewD (s : Stt) (a : AI) : Option (List (Key × D)) := (look s a).bind (dictOf s.M)
def viewDT (s : Stt) (a : AI) : Option (List (List Key × D)) := (look s a).bind (dictTOf s.M)
/-- data as the whole heap shows it -/
theorem CnOk.rp {p : Addr} {c : Cn} (r : Rel K ct H0 S s σ H) (hc : c.isC = true) (h : CnOk K ct S s.M.length H p c) : Rp K (U ct.lk H) S.α s.M.length (.ref p) c.toD := by
  cases c with
  | lst l => obtain ⟨vs, h1, h2⟩ := h; exact .lst (uL h1) (h2.mono r.sub (fun _ _ => rfl) (Nat.le_refl _))
  | dK l => obtain ⟨vs, h1, h3, h2⟩ := h; exact .dK (uK h1) h3 (h2.mono r.sub (fun _ _ => rfl) (Nat.le_refl _))
  | dT l => obtain ⟨vs, h1, h3, h2⟩ := h; exact .dT (uT h1) h3 (h2.mono r.sub (fun _ _ => rfl) (Nat.le_refl _))
  | obj c fs => cases hc
  | lkK l => cases hc
  | lkT l => cases hc
theorem look_ok {Hs : Hp} {v : V} {a : AI} {d : D} (r : Rel K ct H0 S s σ H) (i : ItOk K ct Hs S s σ H v a) (e : look s a = some d) : Rp K (U ct.lk H) S.α s.M.length v d := by
  cases a with
  | val d' => cases e; exact Rp.mono r.sub (fun _ _ => rfl) (Nat.le_refl _) i
  | new c =>
    cases e
    obtain ⟨p, rfl, _, _, _, hc, h5⟩ := i
    exact h5.rp r hc
  | slot j =>
    obtain ⟨en, q0, rfl⟩ := Option.map_eq_some_iff.mp e
    have q := entAt_eq q0
    have hh := r.slot j en q
    have hi : σ[j]? = some (some v) := i
    cases en with
    | fz d' =>
      obtain ⟨v', h1, h2⟩ := hh
      rw [hi] at h1; cases h1
      exact h2.mono r.sub (fun _ _ => rfl) (Nat.le_refl _)
    | xn x => exact (entAt_xn q0).elim
    | ow c =>
      obtain ⟨p, h1, _, _, hc, h5⟩ := hh
      rw [hi] at h1; cases h1
      exact h5.rp r hc
/-- the parts of what an item shows are frozen -/
theorem viewL_ok {Hs : Hp} {v : V} {a : AI} {l : List D} (r : Rel K ct H0 S s σ H) (i : ItOk K ct Hs S s σ H v a) (e : viewL s a = some l) : ∃ p vs, v = .ref p ∧ SqL K H p vs ∧ RpL K S.G S.α s.M.length vs l := by
  have cidc : ∀ {k : Nat} {u : V}, Rp K S.G S.α s.M.length u (.cid k) → listOf s.M (.cid k) = some l → ∃ p vs, u = .ref p ∧ SqL K H p vs ∧ RpL K S.G S.α s.M.length vs l := fun {k u} h e => by
    cases h
    obtain ⟨c, q, e1⟩ := Option.bind_eq_some_iff.mp (show s.M[k]?.bind Cn.aL = some l from e)
    cases c with
    | lst l' =>
      cases e1
      obtain ⟨vs, h1, h2⟩ := (r.ids k _ q).2
      exact ⟨_, vs, rfl, .of h1, h2⟩
    | _ => cases e1
  have frz : ∀ {u : V} {d : D}, Rp K S.G S.α s.M.length u d → listOf s.M d = some l → ∃ p vs, u = .ref p ∧ SqL K H p vs ∧ RpL K S.G S.α s.M.length vs l := fun {u d} h e => by
    cases d with
    | lst l' => cases e; cases h with | lst h1 h2 => exact ⟨_, _, rfl, (.of (uL' (r.sub _ _ h1))), h2⟩
    | clst l' => cases e; cases h with | clst h1 h2 => exact ⟨_, _, rfl, uSqL (r.sub.seq h1), h2⟩
    | cid k => exact cidc h e
    | _ => cases e
  have own : ∀ {p : Addr} {c : Cn}, CnOk K ct S s.M.length H p c → c.isC = true → listOf s.M c.toD = some l → ∃ q vs, V.ref p = .ref q ∧ SqL K H q vs ∧ RpL K S.G S.α s.M.length vs l := fun {p c} h hc e => by
    cases c with
    | lst l' => cases e; obtain ⟨vs, h1, h2⟩ := h; exact ⟨p, vs, rfl, .of h1, h2⟩
    | dK l' => cases e
    | dT l' => cases e
    | obj _ _ => cases e
    | lkK l => cases e
    | lkT l => cases e
  unfold viewL at e
  cases a with
  | val d => exact frz i e
  | new c =>
    obtain ⟨p, rfl, _, _, _, hc, h5⟩ := i
    exact own h5 hc e
  | slot j =>
    obtain ⟨d, q0, e⟩ := Option.bind_eq_some_iff.mp e
    obtain ⟨en, q1, rfl⟩ := Option.map_eq_some_iff.mp q0
    have q := entAt_eq q1
    have hi : σ[j]? = some (some v) := i
    have hh := r.slot j en q
    cases en with
    | fz d =>
      obtain ⟨v', h1, h2⟩ := hh
      rw [hi] at h1; cases h1
      exact frz h2 e
    | xn x => exact (entAt_xn q1).elim
    | ow c =>
      obtain ⟨p, h1, _, _, hc, h5⟩ := hh
      rw [hi] at h1; cases h1
      exact own h5 hc e
theorem viewT_ok {Hs : Hp} {v : V} {a : AI} {l : List D} (r : Rel K ct H0 S s σ H) (i : ItOk K ct Hs S s σ H v a) (e : viewT s a = some l) : ∃ p vs, v = .ref p ∧ SqT K H p vs ∧ RpL K S.G S.α s.M.length vs l := by
  have frz : ∀ {u : V} {d : D}, Rp K S.G S.α s.M.length u d → tupOf d = some l → ∃ p vs, u = .ref p ∧ SqT K H p vs ∧ RpL K S.G S.α s.M.length vs l := fun {u d} h e => by
    cases d with
    | tup l' => cases e; cases h with | tup h1 h2 => exact ⟨_, _, rfl, .of (uP' (r.sub _ _ h1)), h2⟩
    | ctp l' => cases e; cases h with | ctp h1 h2 => exact ⟨_, _, rfl, uSqT (st_mono r.sub h1), h2⟩
    | _ => cases e
  unfold viewT at e
  cases a with
  | val d => exact frz i e
  | new c => cases c <;> cases e
  | slot j =>
    obtain ⟨d, q0, e⟩ := Option.bind_eq_some_iff.mp e
    obtain ⟨en, q1, rfl⟩ := Option.map_eq_some_iff.mp q0
    have q := entAt_eq q1
    have hi : σ[j]? = some (some v) := i
    have hh := r.slot j en q
    cases en with
    | fz d =>
      obtain ⟨v', h1, h2⟩ := hh
      rw [hi] at h1; cases h1
      exact frz h2 e
    | xn x => exact (entAt_xn q1).elim
    | ow c => cases c <;> cases e
def Sh.frzL (S : Sh) (p : Addr) (o : HO) : Sh := ⟨upd S.G p o, S.α, fun a => if a = p then none else S.lab a⟩
def toV : AI → Mo D := fun a s => match a with
  | .val d => .ok d s
  | .new c => .ok c.toD s
  | .slot i => match entAt s i with
    | some (.ow c) => .ok c.toD ⟨s.env.set i (some (.fz c.toD)), s.M⟩
    | some (.fz d) => .ok d s
    | _ => .no
theorem rp_frz {p : Addr} {c : Cn} {n : Nat} {Hx : Hp} (hg : S.G p = none) (hc : c.isC = true) (h : CnOk K ct S n Hx p c) : ∃ o, U ct.lk Hx p = some o ∧ Rp K (upd S.G p o) S.α n (.ref p) c.toD := by
  have sg : ∀ o, Same S.G (upd S.G p o) := fun o a u e => by rw [upd_ne (ne_of_none e hg)]; exact e
  cases c with
  | lst l => obtain ⟨vs, h1, h2⟩ := h; exact ⟨_, uL h1, .lst upd_same (h2.mono (sg _) (fun _ _ => rfl) (Nat.le_refl _))⟩
  | dK l => obtain ⟨vs, h1, h3, h2⟩ := h; exact ⟨_, uK h1, .dK upd_same h3 (h2.mono (sg _) (fun _ _ => rfl) (Nat.le_refl _))⟩
  | dT l => obtain ⟨vs, h1, h3, h2⟩ := h; exact ⟨_, uT h1, .dT upd_same h3 (h2.mono (sg _) (fun _ _ => rfl) (Nat.le_refl _))⟩
  | obj c fs => cases hc
  | lkK l => cases hc
  | lkT l => cases hc
theorem Stp.frzNew {S' : Sh} {n n' : Nat} {H' : Hp} {p : Addr} {o : HO} (t : Stp S n H S' n' H') (hp : H p = none) (hg : S'.G p = none) : Stp S n H (S'.frz p o) n' H' where
  g := fun a u e => by show upd S'.G p o a = _; rw [upd_ne (ne_of_none (t.g a u e) hg)]; exact t.g a u e
  le := t.le
  al := t.al
  fr := t.fr
  gn := fun a u e => by
    have e1 : upd S'.G p o a = some u := e
    by_cases q : a = p
    · subst q; exact .inr (.inl hp)
    · rw [upd_ne q] at e1; exact t.gn a u e1
  fz := t.fz
  dom := t.dom
theorem frz_slot {i : Nat} {c : Cn} (r : Rel K ct H0 S s σ H) (e : s.env[i]? = some (some (.ow c))) : ∃ S' v, σ[i]? = some (some v) ∧ Stp S s.M.length H S' s.M.length H ∧ Rel K ct H0 S' ⟨s.env.set i (some (.fz c.toD)), s.M⟩ σ H ∧ Rp K S'.G S'.α s.M.length v c.toD := by
  obtain ⟨p, h1, h2, h3, h4, h5⟩ := r.slot i _ e
  have hg := (r.lg p _ h3).1
  obtain ⟨o, ho, hr⟩ := rp_frz hg h4 h5
  have sg : Same S.G (upd S.G p o) := fun a u e => by rw [upd_ne (ne_of_none e hg)]; exact e
  have cn : ∀ {a : Addr} {c : Cn}, CnOk K ct S s.M.length H a c → CnOk K ct (S.frzL p o) s.M.length H a c := fun {a c} h => h.mono sg (fun _ _ => rfl) (Nat.le_refl _) (fun _ e => e)
  have labne : ∀ {a : Addr} {l : Lab}, S.lab a = some l → l ≠ .slot i → (S.frzL p o).lab a = some l := fun {a l} h ne => by
    show (if a = p then none else S.lab a) = _
    rw [if_neg (fun z => by subst z; rw [h3] at h; cases h; exact ne rfl)]
    exact h
  refine ⟨S.frzL p o, .ref p, h1, ⟨sg, Nat.le_refl _, fun _ _ => rfl, fun a u h l => ⟨h, ?_⟩, fun a u q => ?_, fun _ h => h, fun _ _ _ h => h⟩, ⟨fun a u q => ?_, fun a l q => ?_, r.dom, ?_, fun j en q => ?_, fun k c' q => ?_⟩, hr⟩
  · show (if a = p then none else S.lab a) = none
    split
    · rfl
    · exact l
  · have q1 : upd S.G p o a = some u := q
    by_cases z : a = p
    · subst z; exact .inr (.inr (.inl ⟨_, h3⟩))
    · rw [upd_ne z] at q1; exact .inl q1
  · have q1 : upd S.G p o a = some u := q
    by_cases z : a = p
    · subst z; rw [upd_same] at q1; cases q1; exact ho
    · rw [upd_ne z] at q1; exact r.sub a u q1
  · have q1 : (if a = p then none else S.lab a) = some l := q
    by_cases z : a = p
    · rw [if_pos z] at q1; cases q1
    · rw [if_neg z] at q1
      obtain ⟨k1, k2⟩ := r.lg a l q1
      refine ⟨?_, k2⟩
      show upd S.G p o a = none
      rw [upd_ne z]; exact k1
  · show σ.length = (s.env.set i _).length
    rw [List.length_set]; exact r.len
  · have q1 : (s.env.set i (some (.fz c.toD)))[j]? = some (some en) := q
    by_cases z : i = j
    · subst z
      have hlt : i < s.env.length := (List.getElem?_eq_some_iff.mp e).1
      rw [List.getElem?_set_self hlt] at q1
      cases q1
      exact ⟨_, h1, hr⟩
    · rw [List.getElem?_set_ne z] at q1
      have hh := r.slot j en q1
      cases en with
      | fz d => obtain ⟨v, k1, k2⟩ := hh; exact ⟨v, k1, k2.mono sg (fun _ _ => rfl) (Nat.le_refl _)⟩
      | xn x => exact xn_mono sg (fun _ _ => rfl) (Nat.le_refl _) rfl hh
      | ow c' =>
        obtain ⟨a, k1, k2, k3, k4, k5⟩ := hh
        exact ⟨a, k1, k2, labne k3 (fun w => by cases w; exact z rfl), k4, cn k5⟩
  · obtain ⟨k1, k2⟩ := r.ids k c' q
    exact ⟨labne k1 (fun w => by cases w), cn k2⟩
abbrev Ei (K : PySem.W.Frag) (ct : Ct) (H0 : Hp) (W : WX) (t : TE) (m : Mo AI) : Prop := Jd K ct H0 (RI K ct) W t m
abbrev Ev (K : PySem.W.Frag) (ct : Ct) (H0 : Hp) (W : WX) (t : TE) (m : Mo D) : Prop := Jd K ct H0 (RV K) W t m
abbrev EvL (K : PySem.W.Frag) (ct : Ct) (H0 : Hp) (W : WX) (t : TA) (m : Mo (List D)) : Prop := Jd K ct H0 (RVL K) W t m
abbrev Et (K : PySem.W.Frag) (ct : Ct) (H0 : Hp) (W : WX) (t : TT) (m : Mo Bool) : Prop := Jd K ct H0 RB W t m
abbrev Eo (K : PySem.W.Frag) (ct : Ct) (H0 : Hp) (W : WX) (t : TO) (m : Mo (Option Int)) : Prop := Jd K ct H0 RO W t m
def mV (m : Mo AI) : Mo D := fun s => (m s).bind toV
theorem ev_of {t : TE} {m : Mo AI} (h : Ei K ct H0 W t m) : Ev K ct H0 W t (mV m) := fun S s σ H Q rel p => h S s σ H Q rel (by
  unfold mV at p
  cases q : m s with
  | no => rw [q] at p; exact p
  | er x s' => rw [q] at p; exact p
  | ok a s' =>
    rw [q] at p
    have p : Pst K ct H0 (RV K) W S s σ H Q (toV a s') := p
    intro S' v H' st rel' it
    cases a with
    | val d => exact p S' v H' st rel' it
    | new c =>
      obtain ⟨pp, rfl, h1, h2, h3, h4, h5⟩ := it
      obtain ⟨o, ho, hr⟩ := rp_frz h3 h4 h5
      exact p (S'.frz pp o) _ H' (st.frzNew h1 h3) (rel'.frz ho h2 h3) hr
    | slot i =>
      have hi : σ[i]? = some (some v) := it
      have p : Pst K ct H0 (RV K) W S s σ H Q (match entAt s' i with | some (.ow c) => .ok c.toD ⟨s'.env.set i (some (.fz c.toD)), s'.M⟩ | some (.fz d) => .ok d s' | _ => .no) := p
      cases qe : entAt s' i with
      | none => rw [qe] at p; exact False.elim p
      | some en =>
        rw [qe] at p
        cases en with
        | fz d =>
          obtain ⟨v', k1, k2⟩ := rel'.slot i _ (entAt_eq qe)
          rw [hi] at k1; cases k1
          exact p S' v H' st rel' k2
        | xn x => exact False.elim p
        | ow c =>
          obtain ⟨S2, v', k1, st2, rel2, k2⟩ := frz_slot rel' (entAt_eq qe)
          rw [hi] at k1; cases k1
          exact p S2 v H' (st.trans st2) rel2 k2)
def mI (m : Mo D) : Mo AI := fun s => (m s).bind fun d s' => .ok (.val d) s'
def mName (i : Nat) : Mo AI := fun s => match entAt s i with
  | some (.fz d) => .ok (.val d) s
  | some (.ow _) => .ok (.slot i) s
  | _ => .no
theorem ei_var {i : Nat} : Ei K ct H0 W (tVar i) (mName i) := fun S s σ H Q rel p => by
  unfold mName at p
  cases q : entAt s i with
  | none => rw [q] at p; exact False.elim p
  | some en =>
    rw [q] at p
    cases en with
    | fz d =>
      obtain ⟨v, h1, h2⟩ := rel.slot i _ (entAt_eq q)
      exact ⟨v, h1, p S v H .refl rel h2⟩
    | xn x => exact False.elim p
    | ow c =>
      obtain ⟨a, h1, _⟩ := rel.slot i _ (entAt_eq q)
      exact ⟨_, h1, p S _ H .refl rel h1⟩
def mC (d : D) : Mo AI := fun s => .ok (.val d) s
/-- what stands for data whatever the heap -/
def CR (K : PySem.W.Frag) (v : V) (d : D) : Prop := ∀ G α n, Rp K G α n v d
theorem ei_c {v : V} {d : D} (h : CR K v d) : Ei K ct H0 W (tC v) (mC d) := fun S s σ H Q rel p => p S v H .refl rel (h _ _ _)
theorem cr_int {i : Int} : CR K (.int i) (.int i) := fun _ _ _ => .int i
theorem cr_bl {b : Bool} : CR K (.bl b) (.bl b) := fun _ _ _ => .bl b
theorem cr_str {x : Str} : CR K (.str x) (.str x) := fun _ _ _ => .str x
theorem cr_non : CR K .non .non := fun _ _ _ => .non
/-- an operator of two items -/
def J2 (K : PySem.W.Frag) (ct : Ct) (H0 : Hp) (r : R2) (f : Stt → AI → AI → Ro AI) : Prop := ∀ W S s σ H Hs Hs' x y a b Q, Rel K ct H0 S s σ H → ItOk K ct Hs S s σ H x a → ItOk K ct Hs' S s σ H y b → Pst K ct H0 (RI K ct) W S s σ H Q (f s a b) → r x y H Q
def J1 (K : PySem.W.Frag) (ct : Ct) (H0 : Hp) (r : V → Hp → VK → Prop) (f : Stt → AI → Ro AI) : Prop := ∀ W S s σ H Hs x a Q, Rel K ct H0 S s σ H → ItOk K ct Hs S s σ H x a → Pst K ct H0 (RI K ct) W S s σ H Q (f s a) → r x H Q
def mOp (f : Stt → AI → AI → Ro AI) (m1 m2 : Mo AI) : Mo AI := fun s => (m1 s).bind fun a s1 => (m2 s1).bind fun b s2 => f s2 a b
def mUn (f : Stt → AI → Ro AI) (m1 : Mo AI) : Mo AI := fun s => (m1 s).bind fun a s1 => f s1 a
theorem ei_op {r : R2} {f : Stt → AI → AI → Ro AI} {ta tb : TE} {m1 m2 : Mo AI} (ho : J2 K ct H0 r f) (h1 : Ei K ct H0 W ta m1) (h2 : Ei K ct H0 W tb m2) : Ei K ct H0 W (tOp r ta tb) (mOp f m1 m2) := fun S s σ H Q rel p =>
  h1 S s σ H _ rel (Pst.bind bI p fun S1 s1 H1 x a st1 rel1 i1 p1 => h2 S1 s1 σ H1 _ rel1 (Pst.bind bI p1 fun S2 s2 H2 y b st2 rel2 i2 p2 => ho W S2 s2 σ H2 _ _ x y a b Q rel2 (i1.step st2) i2 p2))
theorem ei_un {r : V → Hp → VK → Prop} {f : Stt → AI → Ro AI} {ta : TE} {m1 : Mo AI} (ho : J1 K ct H0 r f) (h1 : Ei K ct H0 W ta m1) : Ei K ct H0 W (tUn r ta) (mUn f m1) := fun S s σ H Q rel p =>
  h1 S s σ H _ rel (Pst.bind bI p fun S1 s1 H1 x a st1 rel1 i1 p1 => ho W S1 s1 σ H1 _ x a Q rel1 i1 p1)
end
end Y
namespace Y
open PySem L2 Z
section
variable {K : PySem.W.Frag} {ct : Ct} {H0 : Hp} {W : WX} {S : Sh} {s : Stt} {σ : St} {H : Hp} {Q : VK}
theorem Pst.val {d : D} {v : V} (p : Pst K ct H0 (RI K ct) W S s σ H Q (.ok (.val d) s)) (rel : Rel K ct H0 S s σ H) (h : Rp K S.G S.α s.M.length v d) : Q v H := p S v H .refl rel h
theorem Pst.newC {c : Cn} {q : Addr} {o : HO} (p : Pst K ct H0 (RI K ct) W S s σ H Q (.ok (.new c) s)) (rel : Rel K ct H0 S s σ H) (hp : H q = none) (hc : c.isC = true) (h : CnOk K ct S s.M.length (upd H q o) q c) : Q (.ref q) (upd H q o) :=
  p S _ _ (Stp.new rel hp) (rel.new hp) ⟨q, rfl, hp, rel.labN hp, rel.gN hp, hc, h⟩
theorem Pst.newL {l : List D} {vs : List V} {q : Addr} (p : Pst K ct H0 (RI K ct) W S s σ H Q (.ok (.new (.lst l)) s)) (rel : Rel K ct H0 S s σ H) (hp : H q = none) (h : RpL K S.G S.α s.M.length vs l) : Q (.ref q) (upd H q (.lst vs)) :=
  p.newC rel hp rfl ⟨vs, upd_same, h⟩
theorem Pst.newT {l : List D} {vs : List V} {q : Addr} (p : Pst K ct H0 (RI K ct) W S s σ H Q (.ok (.val (.tup l)) s)) (rel : Rel K ct H0 S s σ H) (hp : H q = none) (h : RpL K S.G S.α s.M.length vs l) : Q (.ref q) (upd H q (.tup vs)) := by
  have hg := rel.gN hp
  refine p (S.frz q (.tup vs)) _ _ ((Stp.new rel hp).frzNew hp hg) ((rel.new hp).frz (uP upd_same) (rel.labN hp) hg) ?_
  exact .tup upd_same (h.mono (fun a u e => by show upd S.G q _ a = _; rw [upd_ne (ne_of_none e hg)]; exact e) (fun _ _ => rfl) (Nat.le_refl _))
end
def fI0 (g : Int → Int → D) : Stt → AI → AI → Ro AI := fun s a b => match a, b with
  | .val (.int i), .val (.int j) => .ok (.val (g i j)) s
  | _, _ => .no
open Classical in
noncomputable def fI (C : Int → Int → Prop) (g : Int → Int → D) : Stt → AI → AI → Ro AI := fun s a b => match a, b with
  | .val (.int i), .val (.int j) => if C i j then .ok (.val (g i j)) s else .no
  | _, _ => .no
def fAdd : Stt → AI → AI → Ro AI := fun s a b => match a, b with
  | .val (.int i), .val (.int j) => .ok (.val (.int (i + j))) s
  | .val (.str x), .val (.str y) => if x.length + y.length ≤ sizeLine then .ok (.val (.str (x ++ y))) s else .no
  | a, b => match viewL s a, viewL s b with
    | some l, some l' => if l.length + l'.length ≤ sizeLine then .ok (.new (.lst (l ++ l'))) s else .no
    | _, _ => .no
/-- a list that is tracked -/
def listX (M : List Cn) : D → Option (List D)
  | .lst l => some l
  | .cid k => M[k]?.bind Cn.aL
  | _ => none
def viewX (s : Stt) (a : AI) : Option (List D) := (look s a).bind (listX s.M)
open Classical in
noncomputable def fMul : Stt → AI → AI → Ro AI := fun s a b => match a, b with
  | .val (.int i), .val (.int j) => if CMul i j then .ok (.val (.int (i * j))) s else .no
  | a, .val (.int j) => match viewX s a with
    | some l => if -(2 ^ 63) ≤ j ∧ j < 2 ^ 63 ∧ l.length * j.toNat ≤ sizeLine then .ok (.new (.lst (List.replicate j.toNat l).flatten)) s else .no
    | none => .no
  | _, _ => .no
mutual
def D.py : D → Option PyData
  | .non => some .none
  | .bl b => some (.bool b)
  | .int i => some (.int i)
  | .str x => some (.str x)
  | .tup l => (D.pyL l).map .tuple
  | .ctp l => (D.pyL l).map .tuple
  | .lst l => (D.pyL l).map .list
  | .clst l => (D.pyL l).map .list
  | _ => none
def D.pyL : List D → Option (List PyData)
  | [] => some []
  | d :: l => d.py.bind fun x => (D.pyL l).map (x :: ·)
end
def Cn.dat : Cn → Option D
  | .obj _ _ => none
  | .lkK _ => none
  | .lkT _ => none
  | c => some c.toD
def deref (M : List Cn) : D → Option D
  | .cid k => M[k]?.bind Cn.dat
  | d => some d
def pyOf (s : Stt) (a : AI) : Option PyData := ((look s a).bind (deref s.M)).bind D.py
def eqOf (s : Stt) (a b : AI) : Option Bool := (pyOf s a).bind fun x => (pyOf s b).bind fun y => if SeqAt.shaped x && SeqAt.shaped y then some (x.eqv y) else none
def fEq : Stt → AI → AI → Ro AI := fun s a b => match eqOf s a b with
  | some k => .ok (.val (.bl k)) s
  | none => .no
def fNe : Stt → AI → AI → Ro AI := fun s a b => match eqOf s a b with
  | some k => .ok (.val (.bl (!k))) s
  | none => .no
def D.isN : D → Bool
  | .non => true
  | _ => false
def isOf (s : Stt) (a b : AI) : Option Bool := match a, b with
  | .val (.bl x), .val (.bl y) => some (x == y)
  | a, .val .non => (look s a).map D.isN
  | _, _ => none
def fIs : Stt → AI → AI → Ro AI := fun s a b => match isOf s a b with
  | some k => .ok (.val (.bl k)) s
  | none => .no
def fIsn : Stt → AI → AI → Ro AI := fun s a b => match isOf s a b with
  | some k => .ok (.val (.bl (!k))) s
  | none => .no
def fIx : Stt → AI → AI → Ro AI := fun s a b => match b with
  | .val (.int i) => match a with
    | .val (.str z) => if z.length ≤ sizeLine then (match atI z.cps.toList i with
      | some c => .ok (.val (.str ⟨#[c]⟩)) s
      | none => .no) else .no
    | a => match viewL s a with
      | some l => (match atI l i with
        | some d => .ok (.val d) s
        | none => .no)
      | none => (match viewT s a with
        | some l => (match atI l i with
          | some d => .ok (.val d) s
          | none => .no)
        | none => .no)
  | _ => .no
section
variable {K : PySem.W.Frag} {ct : Ct} {H0 : Hp} {G : Hp} {α : Nat → Addr} {n : Nat}
mutual
theorem rp_dp : ∀ {d : D} {v : V} {x : PyData}, Rp K G α n v d → d.py = some x → Dp K G v x
  | .non, _, _, .non, e => by cases e; exact .non
  | .bl b, _, _, .bl _, e => by cases e; exact .bl b
  | .int i, _, _, .int _, e => by cases e; exact .int i
  | .str y, _, _, .str _, e => by cases e; exact .str y
  | .tup l, _, _, .tup h r, e => by
    obtain ⟨xs, q, rfl⟩ := Option.map_eq_some_iff.mp (show (D.pyL l).map PyData.tuple = some _ from e)
    exact .tup (.of h) (rpL_dp r q)
  | .ctp l, _, _, .ctp h r, e => by
    obtain ⟨xs, q, rfl⟩ := Option.map_eq_some_iff.mp (show (D.pyL l).map PyData.tuple = some _ from e)
    exact .tup h (rpL_dp r q)
  | .lst l, _, _, .lst h r, e => by
    obtain ⟨xs, q, rfl⟩ := Option.map_eq_some_iff.mp (show (D.pyL l).map PyData.list = some _ from e)
    exact .lst (.of h) (rpL_dp r q)
  | .clst l, _, _, .clst h r, e => by
    obtain ⟨xs, q, rfl⟩ := Option.map_eq_some_iff.mp (show (D.pyL l).map PyData.list = some _ from e)
    exact .lst h (rpL_dp r q)
  | .dK _, _, _, _, e => by cases e
  | .dT _, _, _, _, e => by cases e
  | .cid _, _, _, _, e => by cases e
  | .ty _, _, _, _, e => by cases e
theorem rpL_dp : ∀ {l : List D} {vs : List V} {xs : List PyData}, RpL K G α n vs l → D.pyL l = some xs → DpAll K G vs xs
  | [], _, _, .nil, e => by cases e; exact .nil
  | d :: l, _, _, .cons h r, e => by
    obtain ⟨x, q, e1⟩ := Option.bind_eq_some_iff.mp (show (d.py.bind fun x => (D.pyL l).map (x :: ·)) = some _ from e)
    obtain ⟨ys, q2, rfl⟩ := Option.map_eq_some_iff.mp e1
    exact .cons (rp_dp h q) (rpL_dp r q2)
end
mutual
theorem uDp {b : Option Addr} {H : Hp} : ∀ {v : V} {x : PyData}, Dp K (U b H) v x → Dp K H v x
  | _, _, .non => .non
  | _, _, .bl b => .bl b
  | _, _, .int i => .int i
  | _, _, .str y => .str y
  | _, _, .lst h r => .lst (uSqL h) (uDpL r)
  | _, _, .tup h r => .tup (uSqT h) (uDpL r)
theorem uDpL {b : Option Addr} {H : Hp} : ∀ {vs : List V} {xs : List PyData}, DpAll K (U b H) vs xs → DpAll K H vs xs
  | _, _, .nil => .nil
  | _, _, .cons h r => .cons (uDp h) (uDpL r)
end
variable {W : WX} {S : Sh} {s : Stt} {σ : St} {H : Hp} {Q : VK}
theorem deref_ok {v : V} {d e : D} (rel : Rel K ct H0 S s σ H) (h : Rp K (U ct.lk H) S.α s.M.length v d) (q : deref s.M d = some e) : Rp K (U ct.lk H) S.α s.M.length v e := by
  cases d with
  | cid k =>
    obtain ⟨c, hc, e1⟩ := Option.bind_eq_some_iff.mp (show s.M[k]?.bind Cn.dat = some e from q)
    cases h
    have hh := (rel.ids k c hc).2
    cases c with
    | obj _ _ => cases e1
    | lkK l => cases e1
    | lkT l => cases e1
    | lst l => cases e1; exact hh.rp rel rfl
    | dK l => cases e1; exact hh.rp rel rfl
    | dT l => cases e1; exact hh.rp rel rfl
  | _ => cases q; exact h
theorem pyOf_ok {Hs : Hp} {v : V} {a : AI} {x : PyData} (rel : Rel K ct H0 S s σ H) (i : ItOk K ct Hs S s σ H v a) (e : pyOf s a = some x) : Dp K H v x := by
  obtain ⟨d, e1, e2⟩ := Option.bind_eq_some_iff.mp e
  obtain ⟨d0, e0, e1⟩ := Option.bind_eq_some_iff.mp e1
  exact uDp (rp_dp (deref_ok rel (look_ok rel i e0) e1) e2)
theorem eqOf_ok {Hs Hs' : Hp} {v w : V} {a b : AI} {k : Bool} (rel : Rel K ct H0 S s σ H) (i : ItOk K ct Hs S s σ H v a) (j : ItOk K ct Hs' S s σ H w b) (e : eqOf s a b = some k) :
    ∃ x y, Dp K H v x ∧ Dp K H w y ∧ SeqAt.shaped x = true ∧ SeqAt.shaped y = true ∧ x.eqv y = k := by
  obtain ⟨x, e1, e⟩ := Option.bind_eq_some_iff.mp e
  obtain ⟨y, e2, e⟩ := Option.bind_eq_some_iff.mp e
  split at e
  · rename_i h
    rw [Bool.and_eq_true] at h
    cases e
    exact ⟨x, y, pyOf_ok rel i e1, pyOf_ok rel j e2, h.1, h.2, rfl⟩
  · cases e
theorem viewX_ok {Hs : Hp} {v : V} {a : AI} {l : List D} (r : Rel K ct H0 S s σ H) (i : ItOk K ct Hs S s σ H v a) (e : viewX s a = some l) : ∃ p vs, v = .ref p ∧ H p = some (.lst vs) ∧ RpL K S.G S.α s.M.length vs l := by
  have cidc : ∀ {k : Nat} {u : V}, Rp K S.G S.α s.M.length u (.cid k) → listX s.M (.cid k) = some l → ∃ p vs, u = .ref p ∧ H p = some (.lst vs) ∧ RpL K S.G S.α s.M.length vs l := fun {k u} h e => by
    cases h
    obtain ⟨c, q, e1⟩ := Option.bind_eq_some_iff.mp (show s.M[k]?.bind Cn.aL = some l from e)
    cases c with
    | lst l' =>
      cases e1
      obtain ⟨vs, h1, h2⟩ := (r.ids k _ q).2
      exact ⟨_, vs, rfl, h1, h2⟩
    | _ => cases e1
  have frz : ∀ {u : V} {d : D}, Rp K S.G S.α s.M.length u d → listX s.M d = some l → ∃ p vs, u = .ref p ∧ H p = some (.lst vs) ∧ RpL K S.G S.α s.M.length vs l := fun {u d} h e => by
    cases d with
    | lst l' => cases e; cases h with | lst h1 h2 => exact ⟨_, _, rfl, uL' (r.sub _ _ h1), h2⟩
    | cid k => exact cidc h e
    | _ => cases e
  have own : ∀ {p : Addr} {c : Cn}, CnOk K ct S s.M.length H p c → listX s.M c.toD = some l → ∃ q vs, V.ref p = .ref q ∧ H q = some (.lst vs) ∧ RpL K S.G S.α s.M.length vs l := fun {p c} h e => by
    cases c with
    | lst l' => cases e; obtain ⟨vs, h1, h2⟩ := h; exact ⟨p, vs, rfl, h1, h2⟩
    | dK l' => cases e
    | dT l' => cases e
    | obj _ _ => cases e
    | lkK l => cases e
    | lkT l => cases e
  unfold viewX at e
  cases a with
  | val d => exact frz i e
  | new c =>
    obtain ⟨p, rfl, _, _, _, hc, h5⟩ := i
    exact own h5 e
  | slot j =>
    obtain ⟨d, q0, e⟩ := Option.bind_eq_some_iff.mp e
    obtain ⟨en, q1, rfl⟩ := Option.map_eq_some_iff.mp q0
    have q := entAt_eq q1
    have hi : σ[j]? = some (some v) := i
    have hh := r.slot j en q
    cases en with
    | fz d =>
      obtain ⟨v', h1, h2⟩ := hh
      rw [hi] at h1; cases h1
      exact frz h2 e
    | xn x => exact (entAt_xn q1).elim
    | ow c =>
      obtain ⟨p, h1, _, _, hc, h5⟩ := hh
      rw [hi] at h1; cases h1
      exact own h5 e
theorem rp_int {v : V} {i : Int} (h : Rp K G α n v (.int i)) : v = .int i := by cases h; rfl
theorem rp_str {v : V} {x : Str} (h : Rp K G α n v (.str x)) : v = .str x := by cases h; rfl
theorem rp_bl {v : V} {x : Bool} (h : Rp K G α n v (.bl x)) : v = .bl x := by cases h; rfl
theorem j_I0 {gV : Int → Int → V} {g : Int → Int → D} (hg : ∀ i j, CR K (gV i j) (g i j)) : J2 K ct H0 (rI0 gV) (fI0 g) := fun W S s σ H Hs Hs' x y a b Q rel ia ib p => by
  unfold fI0 at p
  split at p
  · rename_i i j
    cases rp_int ia; cases rp_int ib
    exact ⟨i, j, rfl, rfl, p.val rel (hg _ _ _ _ _)⟩
  · exact False.elim p
theorem j_I {C : Int → Int → Prop} {gV : Int → Int → V} {g : Int → Int → D} (hg : ∀ i j, CR K (gV i j) (g i j)) : J2 K ct H0 (rI C gV) (fI C g) := fun W S s σ H Hs Hs' x y a b Q rel ia ib p => by
  unfold fI at p
  split at p
  · rename_i i j
    cases rp_int ia; cases rp_int ib
    split at p
    · rename_i hc
      exact ⟨i, j, rfl, rfl, hc, p.val rel (hg _ _ _ _ _)⟩
    · exact False.elim p
  · exact False.elim p
theorem j_add : J2 K ct H0 (rAddZ K) fAdd := fun W S s σ H Hs Hs' x y a b Q rel ia ib p => by
  unfold fAdd at p
  split at p
  · rename_i i j
    cases rp_int ia; cases rp_int ib
    exact .inl (.inl ⟨i, j, rfl, rfl, p.val rel (.int _)⟩)
  · rename_i i j
    cases rp_str ia; cases rp_str ib
    split at p
    · rename_i hc
      exact .inl (.inr ⟨i, j, rfl, rfl, hc, p.val rel (.str _)⟩)
    · exact False.elim p
  · split at p
    · rename_i l l' e1 e2
      split at p
      · rename_i hc
        obtain ⟨p1, vs, rfl, h1, r1⟩ := viewL_ok rel ia e1
        obtain ⟨p2, us, rfl, h2, r2⟩ := viewL_ok rel ib e2
        refine .inr ⟨p1, p2, vs, us, rfl, rfl, h1, h2, by rw [r1.length, r2.length]; exact hc, fun q hq => p.newL rel hq (r1.append r2)⟩
      · exact False.elim p
    · exact False.elim p
theorem rpL_rep {vs : List V} {l : List D} (h : RpL K G α n vs l) : ∀ k : Nat, RpL K G α n (List.replicate k vs).flatten (List.replicate k l).flatten
  | 0 => .nil
  | k + 1 => by rw [List.replicate_succ, List.replicate_succ, List.flatten_cons, List.flatten_cons]; exact h.append (rpL_rep h k)
theorem j_mul : J2 K ct H0 rMulZ fMul := fun W S s σ H Hs Hs' x y a b Q rel ia ib p => by
  unfold fMul at p
  split at p
  · rename_i i j
    cases rp_int ia; cases rp_int ib
    split at p
    · rename_i hc
      exact .inl ⟨i, j, rfl, rfl, hc, p.val rel (.int _)⟩
    · exact False.elim p
  · rename_i a' j _
    cases rp_int ib
    split at p
    · rename_i l e1
      split at p
      · rename_i hc
        obtain ⟨p1, vs, rfl, h1, r1⟩ := viewX_ok rel ia e1
        exact .inr ⟨p1, j, vs, rfl, rfl, h1, hc.1, hc.2.1, by rw [r1.length]; exact hc.2.2, fun q hq => p.newL rel hq (rpL_rep r1 _)⟩
      · exact False.elim p
    · exact False.elim p
  · exact False.elim p
theorem j_eq : J2 K ct H0 (rEqZ K) fEq := fun W S s σ H Hs Hs' x y a b Q rel ia ib p => by
  unfold fEq at p
  split at p
  · rename_i k e
    obtain ⟨d, f, h1, h2, h3, h4, rfl⟩ := eqOf_ok rel ia ib e
    exact .inr ⟨d, f, h1, h2, h3, h4, p.val rel (.bl _)⟩
  · exact False.elim p
theorem j_ne : J2 K ct H0 (rNeZ K) fNe := fun W S s σ H Hs Hs' x y a b Q rel ia ib p => by
  unfold fNe at p
  split at p
  · rename_i k e
    obtain ⟨d, f, h1, h2, h3, h4, rfl⟩ := eqOf_ok rel ia ib e
    exact .inr ⟨d, f, h1, h2, h3, h4, p.val rel (.bl _)⟩
  · exact False.elim p
theorem rp_isN {v : V} {d : D} (h : Rp K G α n v d) : decide (v = .non) = d.isN := by cases h <;> rfl
theorem j_is : J2 K ct H0 rIsZ fIs := fun W S s σ H Hs Hs' x y a b Q rel ia ib p => by
  unfold fIs at p
  split at p
  · rename_i k e
    unfold isOf at e
    split at e
    · rename_i b1 b2
      cases rp_bl ia; cases rp_bl ib; cases e
      exact .inr ⟨b1, b2, rfl, rfl, p.val rel (.bl _)⟩
    · rename_i a' _
      obtain ⟨d, e1, rfl⟩ := Option.map_eq_some_iff.mp e
      have ib' : Rp K S.G S.α s.M.length y .non := ib
      cases ib'
      refine .inl ⟨rfl, ?_⟩
      rw [rp_isN (look_ok rel ia e1)]
      exact p.val rel (.bl _)
    · cases e
  · exact False.elim p
theorem atI_rp {vs : List V} {l : List D} {i : Int} {d : D} (r : RpL K G α n vs l) (e : atI l i = some d) : ∃ v, atI vs i = some v ∧ Rp K G α n v d := by
  unfold atI at e ⊢
  obtain ⟨j, e1, e2⟩ := Option.bind_eq_some_iff.mp e
  obtain ⟨v, h1, h2⟩ := r.get e2
  exact ⟨v, by rw [r.length, e1]; exact h1, h2⟩
theorem j_ix : J2 K ct H0 (rIx K) fIx := fun W S s σ H Hs Hs' x y a b Q rel ia ib p => by
  unfold fIx at p
  split at p
  · rename_i i
    cases rp_int ib
    split at p
    · rename_i z
      cases rp_str ia
      split at p
      · rename_i hz
        split at p
        · rename_i c e
          exact .inr (.inr ⟨z, i, c, rfl, rfl, hz, e, p.val rel (.str _)⟩)
        · exact False.elim p
      · exact False.elim p
    · split at p
      · rename_i l e
        split at p
        · rename_i d e2
          obtain ⟨q, vs, rfl, h1, r1⟩ := viewL_ok rel ia e
          obtain ⟨v, h2, h3⟩ := atI_rp r1 e2
          exact .inl ⟨q, vs, i, v, rfl, rfl, h1, h2, p.val rel h3⟩
        · exact False.elim p
      · split at p
        · rename_i l e
          split at p
          · rename_i d e2
            obtain ⟨q, vs, rfl, h1, r1⟩ := viewT_ok rel ia e
            obtain ⟨v, h2, h3⟩ := atI_rp r1 e2
            exact .inr (.inl ⟨q, vs, i, v, rfl, rfl, h1, h2, p.val rel h3⟩)
          · exact False.elim p
        · exact False.elim p
  · exact False.elim p
end
end Y
namespace Y
open PySem L2 Z
section
variable {X : Cx}
def rDIx : R2 := fun x y H Q => ∃ a v, x = .ref a ∧ DGet H a y (some v) ∧ Q v H
theorem ix_dict (hu : X.A.units + 1 < cLine) : IxR X rDIx := by
  intro value slice pins s σ H x y v u Q I rx ry h hs
  obtain ⟨a, r, rfl, g, q⟩ := h
  obtain rfl : v = Value.ref a := rx
  exact PyProof.Rows.tail_any (dict_typeIs I g) PySem.F.slot_dict_getitem.lookup (d_getItem hu I g ry fun w' s3 I3 rw' => ⟨r, H, I3, rw', q⟩) hs
def rIxY (K : PySem.W.Frag) : R2 := fun x y H Q => rIx K x y H Q ∨ rDIx x y H Q
theorem ix_Y {K : PySem.W.Frag} (hK : X.K = K) (hu : X.A.units + 1 < cLine) : IxR X (rIxY K) := by subst hK; exact ix_seq.or (ix_dict hu)
/-- len of a dict, too -/
def rLenY (K : PySem.W.Frag) : List V → Hp → VK → Prop := fun xs H Q => rLenZ K xs H Q ∨ ∃ a kvs, xs = [V.ref a] ∧ Rd H a (.dK kvs) ∧ Q (.int kvs.length) H
theorem call_lenR : CallR X (.builtin "len") (fun xs H Q => ∃ a kvs, xs = [V.ref a] ∧ Rd H a (.dK kvs) ∧ Q (.int kvs.length) H) := by
  intro pins s σ H xs us Q I r h
  obtain ⟨a, kvs, rfl, ha, q⟩ := h
  obtain ⟨u, rfl, ru⟩ := vals1 r
  cases ru
  exact d_len I ha fun t s' I' => ⟨.int kvs.length, H, I', ⟨t, rfl⟩, q⟩
theorem call_lenY {K : PySem.W.Frag} (hK : X.K = K) : CallR X (.builtin "len") (rLenY K) := L2.CallR.or (call_lenZ hK) call_lenR
end
section
variable {κ β γ : Type} [DecidableEq κ]
def vl (l : List (κ × β)) (k : κ) : Option β := (l.find? fun p => decide (p.1 = k)).map (·.2)
def pu (l : List (κ × β)) (k : κ) (v : β) : List (κ × β) := if (l.any fun p => decide (p.1 = k)) = true then l.map (fun p => if p.1 = k then (p.1, v) else p) else l ++ [(k, v)]
def dr (l : List (κ × β)) (k : κ) : List (κ × β) := l.filter fun p => decide (p.1 ≠ k)
end
section
variable {K : PySem.W.Frag} {G : Hp} {α : Nat → Addr} {n : Nat} {κ : Type} [DecidableEq κ]
inductive RpK (K : PySem.W.Frag) (G : Hp) (α : Nat → Addr) (n : Nat) {κ : Type} : List (κ × V) → List (κ × D) → Prop
  | nil : RpK K G α n [] []
  | cons {k : κ} {v : V} {d : D} {kvs : List (κ × V)} {l : List (κ × D)} : Rp K G α n v d → RpK K G α n kvs l → RpK K G α n ((k, v) :: kvs) ((k, d) :: l)
theorem RpK.of {κ : Type} : ∀ {kvs : List (κ × V)} {l : List (κ × D)}, kvs.map Prod.fst = l.map Prod.fst → RpL K G α n (kvs.map Prod.snd) (l.map Prod.snd) → RpK K G α n kvs l
  | [], [], _, _ => .nil
  | [], _ :: _, e, _ => by simp at e
  | _ :: _, [], e, _ => by simp at e
  | (k, v) :: r, (k', d) :: r', e, h => by
    simp only [List.map_cons] at e h
    injection e with e1 e2
    have e1 : k = k' := e1
    subst e1
    cases h with
    | cons a b => exact .cons a (RpK.of e2 b)
theorem RpK.keys {κ : Type} : ∀ {kvs : List (κ × V)} {l : List (κ × D)}, RpK K G α n kvs l → kvs.map Prod.fst = l.map Prod.fst
  | _, _, .nil => rfl
  | _, _, .cons _ r => by rw [List.map_cons, List.map_cons, r.keys]
theorem RpK.vals {κ : Type} : ∀ {kvs : List (κ × V)} {l : List (κ × D)}, RpK K G α n kvs l → RpL K G α n (kvs.map Prod.snd) (l.map Prod.snd)
  | _, _, .nil => .nil
  | _, _, .cons a r => .cons a r.vals
theorem RpK.len {κ : Type} {kvs : List (κ × V)} {l : List (κ × D)} (h : RpK K G α n kvs l) : kvs.length = l.length := by
  have := congrArg List.length h.keys
  simpa using this
theorem RpK.get {k : κ} : ∀ {kvs : List (κ × V)} {l : List (κ × D)}, RpK K G α n kvs l → (vl l k = none ∧ valV kvs k = none) ∨ ∃ v d, vl l k = some d ∧ valV kvs k = some v ∧ Rp K G α n v d
  | _, _, .nil => .inl ⟨rfl, rfl⟩
  | _, _, .cons (k := k') (v := v) (d := d) (kvs := kvs) (l := l) a r => by
    by_cases e : k' = k
    · refine .inr ⟨v, d, ?_, ?_, a⟩
      · unfold vl; rw [List.find?_cons, decide_eq_true (show (k', d).1 = k from e)]; rfl
      · exact valV_pos e
    · have h1 : vl ((k', d) :: l) k = vl l k := by unfold vl; rw [List.find?_cons, decide_eq_false (show ¬ (k', d).1 = k from e)]
      rw [h1, valV_neg (p := (k', v)) e]
      exact r.get
theorem RpK.append {κ : Type} : ∀ {kvs kvs' : List (κ × V)} {l l' : List (κ × D)}, RpK K G α n kvs l → RpK K G α n kvs' l' → RpK K G α n (kvs ++ kvs') (l ++ l')
  | _, _, _, _, .nil, h => h
  | _, _, _, _, .cons a r, h => .cons a (r.append h)
theorem RpK.any {k : κ} : ∀ {kvs : List (κ × V)} {l : List (κ × D)}, RpK K G α n kvs l → (kvs.any fun p => decide (p.1 = k)) = l.any fun p => decide (p.1 = k)
  | _, _, .nil => rfl
  | _, _, .cons _ r => by rw [List.any_cons, List.any_cons, r.any]
theorem RpK.drop {k : κ} : ∀ {kvs : List (κ × V)} {l : List (κ × D)}, RpK K G α n kvs l → RpK K G α n (dropK kvs k) (dr l k)
  | _, _, .nil => .nil
  | _, _, .cons (k := k') (v := v) (d := d) (kvs := kvs) (l := l) a r => by
    unfold dropK dr
    rw [List.filter_cons, List.filter_cons]
    by_cases e : k' = k
    · rw [if_neg (by simp [e]), if_neg (by simp [e])]; exact r.drop
    · rw [if_pos (by simp [e]), if_pos (by simp [e])]; exact .cons a r.drop
theorem RpK.mono {κ : Type} {G' : Hp} {α' : Nat → Addr} {n' : Nat} {kvs : List (κ × V)} {l : List (κ × D)} (s : Same G G') (ha : ∀ k, k < n → α' k = α k) (hn : n ≤ n') (h : RpK K G α n kvs l) : RpK K G' α' n' kvs l := RpK.of h.keys (h.vals.mono s ha hn)
end
section
variable {K : PySem.W.Frag} {ct : Ct} {H0 : Hp} {W : WX}
def truD (M : List Cn) : D → Option Bool
  | .non => some false
  | .bl b => some b
  | .int i => some (!decide (i = 0))
  | .str x => if x.length ≤ sizeLine then some (!decide ((x.length : Int) = 0)) else none
  | .tup l => some (!l.isEmpty)
  | .ctp l => some (!l.isEmpty)
  | .lst l => some (!l.isEmpty)
  | .clst l => some (!l.isEmpty)
  | .cid k => M[k]?.bind fun c => match c with
    | .lst l => some (!l.isEmpty)
    | .dK l => some (!l.isEmpty)
    | _ => none
  | _ => none
def mTru (m : Mo AI) : Mo Bool := fun s => (m s).bind fun a s1 => match (look s1 a).bind (truD s1.M) with
  | some b => .ok b s1
  | none => .no
theorem emp_len {α β : Type} {l : List α} {m : List β} (h : l.length = m.length) : (!l.isEmpty) = !m.isEmpty := by
  cases l <;> cases m <;> first | rfl | (simp at h)
theorem tru_ok {S : Sh} {s : Stt} {σ : St} {H : Hp} {v : V} {d : D} {b : Bool} (rel : Rel K ct H0 S s σ H) (r : Rp K (U ct.lk H) S.α s.M.length v d) (e : truD s.M d = some b) : TruV K v H b := by
  cases r with
  | non => cases e; rfl
  | bl b => cases e; rfl
  | int i =>
    cases e
    show (!decide (i = 0)) = (i != 0)
    by_cases q : i = 0 <;> simp [q]
  | str x =>
    have e1 : (if x.length ≤ sizeLine then some (!decide ((x.length : Int) = 0)) else none) = some b := e
    by_cases h : x.length ≤ sizeLine
    · rw [if_pos h] at e1
      cases e1
      refine ⟨h, ?_⟩
      by_cases q : (x.length : Int) = 0
      · rw [decide_eq_true q, q]; rfl
      · rw [decide_eq_false q]; exact (bne_iff_ne.mpr q).symm
    · rw [if_neg h] at e1; cases e1
  | tup h r => cases e; exact .inr (.inl ⟨_, .of (uP' h), (emp_len r.length).symm⟩)
  | ctp h r => cases e; exact .inr (.inl ⟨_, uSqT h, (emp_len r.length).symm⟩)
  | lst h r => cases e; exact .inl ⟨_, .of (uL' h), (emp_len r.length).symm⟩
  | clst h r => cases e; exact .inl ⟨_, uSqL h, (emp_len r.length).symm⟩
  | dK h e1 r => cases e
  | dT h e1 r => cases e
  | ty m => cases e
  | @cid k h =>
    obtain ⟨c, q, e1⟩ := Option.bind_eq_some_iff.mp e
    have hh := (rel.ids k c q).2
    cases c with
    | lst l => cases e1; obtain ⟨vs, h1, h2⟩ := hh; exact .inl ⟨_, .of h1, (emp_len h2.length).symm⟩
    | dK l => cases e1; obtain ⟨vs, h1, h3, h2⟩ := hh; exact .inr (.inr ⟨_, h1, (emp_len (RpK.of h3 h2).len).symm⟩)
    | dT l => cases e1
    | obj c fs => cases e1
    | lkK l => cases e1
    | lkT l => cases e1
theorem et_tru {ta : TE} {m : Mo AI} (h : Ei K ct H0 W ta m) : Et K ct H0 W (tTruZ K ta) (mTru m) := fun S s σ H Q rel p =>
  h S s σ H _ rel (Pst.bind bB p fun S1 s1 H1 x a st1 rel1 i1 p1 => by
    split at p1
    · rename_i b e
      obtain ⟨d, e1, e2⟩ := Option.bind_eq_some_iff.mp e
      exact ⟨b, tru_ok rel1 (look_ok rel1 i1 e1) e2, p1 S1 b H1 .refl rel1 rfl⟩
    · exact False.elim p1)
/-- a truth value -/
def blOf : AI → Option Bool
  | .val (.bl b) => some b
  | _ => none
def mBl (m : Mo AI) : Mo Bool := fun s => (m s).bind fun a s1 => match blOf a with
  | some b => .ok b s1
  | none => .no
theorem blOf_eq {a : AI} {b : Bool} (e : blOf a = some b) : a = .val (.bl b) := by
  unfold blOf at e
  split at e
  · cases e; rfl
  · cases e
theorem et_tst {ta : TE} {m : Mo AI} (h : Ei K ct H0 W ta m) : Et K ct H0 W (tTest ta) (mBl m) := fun S s σ H Q rel p =>
  h S s σ H _ rel (Pst.bind bB p fun S1 s1 H1 x a st1 rel1 i1 p1 => by
    split at p1
    · rename_i b e
      cases blOf_eq e
      cases rp_bl i1
      exact ⟨b, rfl, p1 S1 b H1 .refl rel1 rfl⟩
    · exact False.elim p1)
def mAnd (m1 m2 : Mo Bool) : Mo Bool := fun s => (m1 s).bind fun c s1 => if c = true then m2 s1 else .ok false s1
def mOr (m1 m2 : Mo Bool) : Mo Bool := fun s => (m1 s).bind fun c s1 => if c = true then .ok true s1 else m2 s1
def mNot (m1 : Mo Bool) : Mo Bool := fun s => (m1 s).bind fun c s1 => .ok (!c) s1
theorem et_and {t u : TT} {m1 m2 : Mo Bool} (h1 : Et K ct H0 W t m1) (h2 : Et K ct H0 W u m2) : Et K ct H0 W (tAnd t u) (mAnd m1 m2) := fun S s σ H Q rel p =>
  h1 S s σ H _ rel (Pst.bind bB p fun S1 s1 H1 x a st1 rel1 i1 p1 => by
    cases (show x = a from i1)
    cases x with
    | true => rw [if_pos rfl] at p1 ⊢; exact h2 S1 s1 σ H1 Q rel1 p1
    | false => rw [if_neg Bool.false_ne_true] at p1 ⊢; exact p1 S1 false H1 .refl rel1 rfl)
theorem et_or {t u : TT} {m1 m2 : Mo Bool} (h1 : Et K ct H0 W t m1) (h2 : Et K ct H0 W u m2) : Et K ct H0 W (tOr t u) (mOr m1 m2) := fun S s σ H Q rel p =>
  h1 S s σ H _ rel (Pst.bind bB p fun S1 s1 H1 x a st1 rel1 i1 p1 => by
    cases (show x = a from i1)
    cases x with
    | true => rw [if_pos rfl] at p1 ⊢; exact p1 S1 true H1 .refl rel1 rfl
    | false => rw [if_neg Bool.false_ne_true] at p1 ⊢; exact h2 S1 s1 σ H1 Q rel1 p1)
theorem et_not {t : TT} {m1 : Mo Bool} (h1 : Et K ct H0 W t m1) : Et K ct H0 W (tNot t) (mNot m1) := fun S s σ H Q rel p =>
  h1 S s σ H _ rel (Pst.bind bB p fun S1 s1 H1 x a st1 rel1 i1 p1 => by
    cases (show x = a from i1)
    exact p1 S1 (!x) H1 .refl rel1 rfl)
/-- and, or, not as values, of truth values -/
def mAndV (m1 m2 : Mo AI) : Mo AI := fun s => (m1 s).bind fun a s1 => match blOf a with
  | some true => m2 s1
  | some false => .ok (.val (.bl false)) s1
  | none => .no
def mOrV (m1 m2 : Mo AI) : Mo AI := fun s => (m1 s).bind fun a s1 => match blOf a with
  | some true => .ok (.val (.bl true)) s1
  | some false => m2 s1
  | none => .no
def mNotV (m1 : Mo AI) : Mo AI := fun s => (m1 s).bind fun a s1 => match blOf a with
  | some b => .ok (.val (.bl (!b))) s1
  | none => .no
theorem ei_andV {ta tb : TE} {m1 m2 : Mo AI} (h1 : Ei K ct H0 W ta m1) (h2 : Ei K ct H0 W tb m2) : Ei K ct H0 W (tAndV ta tb) (mAndV m1 m2) := fun S s σ H Q rel p =>
  h1 S s σ H _ rel (Pst.bind bI p fun S1 s1 H1 x a st1 rel1 i1 p1 => by
    split at p1
    · rename_i e; cases blOf_eq e; cases rp_bl i1
      exact ⟨true, rfl, by rw [if_pos rfl]; exact h2 S1 s1 σ H1 Q rel1 p1⟩
    · rename_i e; cases blOf_eq e; cases rp_bl i1
      exact ⟨false, rfl, by rw [if_neg Bool.false_ne_true]; exact p1.val rel1 (.bl _)⟩
    · exact False.elim p1)
theorem ei_notV {ta : TE} {m1 : Mo AI} (h1 : Ei K ct H0 W ta m1) : Ei K ct H0 W (tNotV ta) (mNotV m1) := fun S s σ H Q rel p =>
  h1 S s σ H _ rel (Pst.bind bI p fun S1 s1 H1 x a st1 rel1 i1 p1 => by
    split at p1
    · rename_i b e; cases blOf_eq e; cases rp_bl i1
      exact ⟨b, rfl, p1.val rel1 (.bl _)⟩
    · exact False.elim p1)
def mIf {α : Type} (c : Mo Bool) (m1 m2 : Mo α) : Mo α := fun s => (c s).bind fun b s1 => if b = true then m1 s1 else m2 s1
/-- a < b < c: nothing is changed in between -/
def mChain (f f' : Stt → AI → AI → Ro AI) (m1 m2 m3 : Mo AI) : Mo AI := fun s => (m1 s).bind fun a s1 => (m2 s1).bind fun b s2 => (f s2 a b).bind fun z s3 => match blOf z with
  | some true => (m3 s3).bind fun c s4 => f' s4 b c
  | some false => .ok (.val (.bl false)) s3
  | none => .no
theorem ei_chain {r r' : R2} {f f' : Stt → AI → AI → Ro AI} {ta tb tc : TE} {m1 m2 m3 : Mo AI} (ho : J2 K ct H0 r f) (ho' : J2 K ct H0 r' f') (h1 : Ei K ct H0 W ta m1) (h2 : Ei K ct H0 W tb m2) (h3 : Ei K ct H0 W tc m3) : Ei K ct H0 W (tChain r r' ta tb tc) (mChain f f' m1 m2 m3) := fun S s σ H Q rel p =>
  h1 S s σ H _ rel (Pst.bind bI p fun S1 s1 H1 x a st1 rel1 i1 p1 => h2 S1 s1 σ H1 _ rel1 (Pst.bind bI p1 fun S2 s2 H2 y b st2 rel2 i2 p2 =>
    ho W S2 s2 σ H2 _ _ x y a b _ rel2 (i1.step st2) i2 (Pst.bind bI p2 fun S3 s3 H3 z c st3 rel3 i3 p3 => by
      split at p3
      · rename_i e; cases blOf_eq e; cases rp_bl i3
        exact ⟨true, rfl, by rw [if_pos rfl]; exact h3 S3 s3 σ H3 _ rel3 (Pst.bind bI p3 fun S4 s4 H4 z' c' st4 rel4 i4 p4 => ho' W S4 s4 σ H4 _ _ y z' b c' Q rel4 ((i2.step st3).step st4) i4 p4)⟩
      · rename_i e; cases blOf_eq e; cases rp_bl i3
        exact ⟨false, rfl, by rw [if_neg Bool.false_ne_true]; exact p3.val rel3 (.bl _)⟩
      · exact False.elim p3)))
end
end Y
namespace Y
open PySem L2 Z
section
variable {K : PySem.W.Frag} {ct : Ct} {H0 : Hp} {W : WX}
inductive AsOk (K : PySem.W.Frag) (ct : Ct) (Hs : Hp) (S : Sh) (s : Stt) (σ : St) (H : Hp) : List V → List AI → Prop
  | nil : AsOk K ct Hs S s σ H [] []
  | cons {v : V} {a : AI} {vs : List V} {as : List AI} : ItOk K ct Hs S s σ H v a → AsOk K ct Hs S s σ H vs as → AsOk K ct Hs S s σ H (v :: vs) (a :: as)
def RA (K : PySem.W.Frag) (ct : Ct) : RR (List V) (List AI) := fun H S s σ H' v a => AsOk K ct H S s σ H' v a
theorem bA : Bck (RA K ct) := fun H1 H S s σ H' v a k h => by
  induction (show AsOk K ct H1 S s σ H' v a from h) with
  | nil => exact AsOk.nil
  | cons i _ ih => exact AsOk.cons (bI _ _ _ _ _ _ _ _ k i) (ih ‹_›)
abbrev EaL (K : PySem.W.Frag) (ct : Ct) (H0 : Hp) (W : WX) (t : TA) (m : Mo (List AI)) : Prop := Jd K ct H0 (RA K ct) W t m
def aNil : Mo (List AI) := fun s => .ok [] s
def aCons (m : Mo AI) (r : Mo (List AI)) : Mo (List AI) := fun s => (m s).bind fun a s1 => (r s1).bind fun as s2 => .ok (a :: as) s2
theorem ea_nil : EaL K ct H0 W tNil aNil := fun S s σ H Q rel p => p S [] H .refl rel .nil
theorem ea_cons {ta : TE} {tr : TA} {m : Mo AI} {r : Mo (List AI)} (h1 : Ei K ct H0 W ta m) (h2 : EaL K ct H0 W tr r) : EaL K ct H0 W (tCons ta tr) (aCons m r) := fun S s σ H Q rel p =>
  h1 S s σ H _ rel (by
    unfold aCons at p
    cases q : m s with
    | no => rw [q] at p; exact p
    | er x s' => rw [q] at p; exact p
    | ok a s1 =>
      rw [q] at p
      have p : Pst K ct H0 (RA K ct) W S s σ H Q ((r s1).bind fun as s2 => .ok (a :: as) s2) := p
      intro S1 v H1 st1 rel1 i1
      refine h2 S1 s1 σ H1 _ rel1 ?_
      cases q2 : r s1 with
      | no => rw [q2] at p; exact p
      | er x s' => rw [q2] at p; exact fun S' H' dd st rel q => p S' H' dd (st1.trans st) rel q
      | ok as s2 =>
        rw [q2] at p
        exact fun S2 vs H2 st2 rel2 i2 => p S2 (v :: vs) H2 (st1.trans st2) rel2 (.cons (i1.step st2) (bA _ _ _ _ _ _ _ _ st1.dom i2)))
def vNil : Mo (List D) := fun s => .ok [] s
def vCons (m : Mo AI) (r : Mo (List D)) : Mo (List D) := fun s => (mV m s).bind fun a s1 => (r s1).bind fun as s2 => .ok (a :: as) s2
theorem ev_nil : EvL K ct H0 W tNil vNil := fun S s σ H Q rel p => p S [] H .refl rel .nil
theorem ev_cons {ta : TE} {tr : TA} {m : Mo AI} {r : Mo (List D)} (h1 : Ei K ct H0 W ta m) (h2 : EvL K ct H0 W tr r) : EvL K ct H0 W (tCons ta tr) (vCons m r) := fun S s σ H Q rel p =>
  ev_of h1 S s σ H _ rel (Pst.bind bVL p fun S1 s1 H1 x a st1 rel1 i1 p1 => h2 S1 s1 σ H1 _ rel1 (Pst.bind bVL p1 fun S2 s2 H2 y b st2 rel2 i2 p2 => p2 S2 (x :: y) H2 .refl rel2 (.cons (Rp.step st2 i1) i2)))
def mLst (m : Mo (List D)) : Mo AI := fun s => (m s).bind fun l s1 => if l.length ≤ sizeLine then .ok (.new (.lst l)) s1 else .no
def mTup (m : Mo (List D)) : Mo AI := fun s => (m s).bind fun l s1 => if l.length ≤ sizeLine then .ok (.val (.tup l)) s1 else .no
theorem ei_lst {t : TA} {m : Mo (List D)} (h : EvL K ct H0 W t m) : Ei K ct H0 W (tLst t) (mLst m) := fun S s σ H Q rel p =>
  h S s σ H _ rel (Pst.bind bI p fun S1 s1 H1 x a st1 rel1 i1 p1 => by
    split at p1
    · rename_i hz
      exact ⟨by rw [RpL.length i1]; exact hz, fun q hq => p1.newL rel1 hq i1⟩
    · exact False.elim p1)
theorem ei_tup {t : TA} {m : Mo (List D)} (h : EvL K ct H0 W t m) : Ei K ct H0 W (tTup t) (mTup m) := fun S s σ H Q rel p =>
  h S s σ H _ rel (Pst.bind bI p fun S1 s1 H1 x a st1 rel1 i1 p1 => by
    split at p1
    · rename_i hz
      exact ⟨by rw [RpL.length i1]; exact hz, fun q hq => p1.newT rel1 hq i1⟩
    · exact False.elim p1)
def oNo : Mo (Option Int) := fun s => .ok none s
def oSm (m : Mo AI) : Mo (Option Int) := fun s => (m s).bind fun a s1 => match a with
  | .val (.int i) => .ok (some i) s1
  | _ => .no
theorem eo_no : Eo K ct H0 W tNoPart oNo := fun S s σ H Q rel p => p S none H .refl rel rfl
theorem eo_sm {t : TE} {m : Mo AI} (h : Ei K ct H0 W t m) : Eo K ct H0 W (tPart t) (oSm m) := fun S s σ H Q rel p =>
  h S s σ H _ rel (Pst.bind bO p fun S1 s1 H1 x a st1 rel1 i1 p1 => by
    split at p1
    · rename_i i
      cases rp_int i1
      exact ⟨i, rfl, p1 S1 (some i) H1 .refl rel1 rfl⟩
    · exact False.elim p1)
def cutL {β : Type} (xs : List β) (lo hi : Option Int) : List β := (xs.drop (HT.sIx xs.length 0 lo)).take (HT.sIx xs.length xs.length hi - HT.sIx xs.length 0 lo)
def fSl (s : Stt) (a : AI) (lo hi : Option Int) : Ro AI := match a with
  | .val (.str x) => if x.length ≤ sizeLine then .ok (.val (.str (cutS x lo hi))) s else .no
  | a => match viewL s a with
    | some l => .ok (.new (.lst (cutL l lo hi))) s
    | none => .no
def mSl (m : Mo AI) (ml mh : Mo (Option Int)) : Mo AI := fun s => (m s).bind fun a s1 => (ml s1).bind fun l s2 => (mh s2).bind fun h s3 => fSl s3 a l h
theorem ei_sl {te : TE} {tl th : TO} {m : Mo AI} {ml mh : Mo (Option Int)} (h1 : Ei K ct H0 W te m) (h2 : Eo K ct H0 W tl ml) (h3 : Eo K ct H0 W th mh) : Ei K ct H0 W (tSl (rSlZ K) te tl th) (mSl m ml mh) := fun S s σ H Q rel p =>
  h1 S s σ H _ rel (Pst.bind bI p fun S1 s1 H1 x a st1 rel1 i1 p1 => h2 S1 s1 σ H1 _ rel1 (Pst.bind bI p1 fun S2 s2 H2 lo lo' st2 rel2 i2 p2 => h3 S2 s2 σ H2 _ rel2 (Pst.bind bI p2 fun S3 s3 H3 hi hi' st3 rel3 i3 p3 => by
    cases (show lo = lo' from i2); cases (show hi = hi' from i3)
    have i1' := (i1.step st2).step st3
    unfold fSl at p3
    split at p3
    · rename_i z
      cases rp_str i1'
      split at p3
      · rename_i hz
        exact .inr ⟨z, rfl, hz, p3.val rel3 (.str _)⟩
      · exact False.elim p3
    · split at p3
      · rename_i l e
        obtain ⟨q, vs, rfl, k1, k2⟩ := viewL_ok rel3 i1' e
        refine .inl ⟨q, vs, rfl, k1, fun r hr => p3.newL rel3 hr ?_⟩
        show RpL _ _ _ _ ((vs.drop (HT.sIx vs.length 0 lo)).take (HT.sIx vs.length vs.length hi - HT.sIx vs.length 0 lo)) _
        rw [k2.length]
        exact (k2.drop _).take _
      · exact False.elim p3)))
def JB (K : PySem.W.Frag) (ct : Ct) (H0 : Hp) (r : List V → Hp → VK → Prop) (f : Stt → List AI → Ro AI) : Prop := ∀ W S s σ H Hs vs as Q, Rel K ct H0 S s σ H → AsOk K ct Hs S s σ H vs as → Pst K ct H0 (RI K ct) W S s σ H Q (f s as) → r vs H Q
def mCB (f : Stt → List AI → Ro AI) (m : Mo (List AI)) : Mo AI := fun s => (m s).bind fun as s1 => f s1 as
theorem ei_cb {r : List V → Hp → VK → Prop} {f : Stt → List AI → Ro AI} {t : TA} {m : Mo (List AI)} (hr : JB K ct H0 r f) (h : EaL K ct H0 W t m) : Ei K ct H0 W (tCB r t) (mCB f m) := fun S s σ H Q rel p =>
  h S s σ H _ rel (Pst.bind bI p fun S1 s1 H1 x a st1 rel1 i1 p1 => hr W S1 s1 σ H1 _ x a Q rel1 i1 p1)
def lenD (M : List Cn) : D → Option Nat
  | .str x => if x.length ≤ sizeLine then some x.length else none
  | .tup l => some l.length
  | .ctp l => some l.length
  | .lst l => some l.length
  | .clst l => some l.length
  | .dK l => some l.length
  | .cid k => M[k]?.bind fun c => match c with
    | .lst l => some l.length
    | .dK l => some l.length
    | .lkK l => some l.length
    | _ => none
  | _ => none
def fLen (s : Stt) (as : List AI) : Ro AI := match as with
  | [a] => match (look s a).bind (lenD s.M) with
    | some n => .ok (.val (.int (n : Int))) s
    | none => .no
  | _ => .no
theorem as1 {Hs : Hp} {S : Sh} {s : Stt} {σ : St} {H : Hp} {vs : List V} {a : AI} (h : AsOk K ct Hs S s σ H vs [a]) : ∃ v, vs = [v] ∧ ItOk K ct Hs S s σ H v a := by
  cases h with | cons i r => cases r; exact ⟨_, rfl, i⟩
theorem as2 {Hs : Hp} {S : Sh} {s : Stt} {σ : St} {H : Hp} {vs : List V} {a b : AI} (h : AsOk K ct Hs S s σ H vs [a, b]) : ∃ v w, vs = [v, w] ∧ ItOk K ct Hs S s σ H v a ∧ ItOk K ct Hs S s σ H w b := by
  cases h with | cons i r => cases r with | cons j r => cases r; exact ⟨_, _, rfl, i, j⟩
theorem len_ok {S : Sh} {s : Stt} {σ : St} {H : Hp} {v : V} {d : D} {n : Nat} {Q : VK} (rel : Rel K ct H0 S s σ H) (r : Rp K (U ct.lk H) S.α s.M.length v d) (e : lenD s.M d = some n) (q : Q (.int n) H) : rLenY K [v] H Q := by
  cases r with
  | str x =>
    have e1 : (if x.length ≤ sizeLine then some x.length else none) = some n := e
    by_cases h : x.length ≤ sizeLine
    · rw [if_pos h] at e1
      cases e1
      exact .inl ⟨_, _, rfl, ⟨h, rfl⟩, q⟩
    · rw [if_neg h] at e1; cases e1
  | tup h r => cases e; exact .inl ⟨_, _, rfl, .inr ⟨_, .of (uP' h), r.length.symm⟩, q⟩
  | ctp h r => cases e; exact .inl ⟨_, _, rfl, .inr ⟨_, uSqT h, r.length.symm⟩, q⟩
  | lst h r => cases e; exact .inl ⟨_, _, rfl, .inl ⟨_, .of (uL' h), r.length.symm⟩, q⟩
  | clst h r => cases e; exact .inl ⟨_, _, rfl, .inl ⟨_, uSqL h, r.length.symm⟩, q⟩
  | dK h e1 r => cases e; exact .inr ⟨_, _, rfl, uK' h, by rw [(RpK.of e1 r).len]; exact q⟩
  | non => cases e
  | bl _ => cases e
  | int _ => cases e
  | dT h e1 r => cases e
  | ty m => cases e
  | @cid k h =>
    obtain ⟨c, qc, e1⟩ := Option.bind_eq_some_iff.mp e
    have hh := (rel.ids k c qc).2
    cases c with
    | lst l => cases e1; obtain ⟨vs, h1, h2⟩ := hh; exact .inl ⟨_, _, rfl, .inl ⟨_, .of h1, h2.length.symm⟩, q⟩
    | dK l => cases e1; obtain ⟨vs, h1, h3, h2⟩ := hh; exact .inr ⟨_, _, rfl, .inl h1, by rw [(RpK.of h3 h2).len]; exact q⟩
    | dT l => cases e1
    | obj c fs => cases e1
    | lkK l => cases e1; obtain ⟨vs, ⟨od, h1⟩, h3, h2⟩ := hh; exact .inr ⟨_, _, rfl, .inr ⟨od, h1⟩, by rw [(RpK.of h3 h2).len]; exact q⟩
    | lkT l => cases e1
theorem jb_len : JB K ct H0 (rLenY K) fLen := fun W S s σ H Hs vs as Q rel ia p => by
  unfold fLen at p
  split at p
  · rename_i a
    obtain ⟨v, rfl, i⟩ := as1 ia
    split at p
    · rename_i n e
      obtain ⟨d, e1, e2⟩ := Option.bind_eq_some_iff.mp e
      exact len_ok rel (look_ok rel i e1) e2 (p.val rel (.int _))
    · exact False.elim p
  · exact False.elim p
/-- a list of whole numbers, of truth values -/
def intsD : List D → Option (List Int)
  | [] => some []
  | .int i :: l => (intsD l).map (i :: ·)
  | _ :: _ => none
def fI2 (g : Int → Int → Int) (s : Stt) (as : List AI) : Ro AI := match as with
  | [.val (.int i), .val (.int j)] => .ok (.val (.int (g i j))) s
  | _ => .no
theorem jb_min2 : JB K ct H0 rMin2 (fI2 min) := fun W S s σ H Hs vs as Q rel ia p => by
  unfold fI2 at p
  split at p
  · rename_i i j
    obtain ⟨v, w, rfl, h1, h2⟩ := as2 ia
    cases rp_int h1; cases rp_int h2
    exact z_min2 (p.val rel (.int _))
  · exact False.elim p
/-- list(x) -/
def fList (s : Stt) (as : List AI) : Ro AI := match as with
  | [a] => match viewL s a with
    | some l => .ok (.new (.lst l)) s
    | none => match viewT s a with
      | some l => .ok (.new (.lst l)) s
      | none => .no
  | _ => .no
theorem jb_list : JB K ct H0 (rListOf K) fList := fun W S s σ H Hs vs as Q rel ia p => by
  unfold fList at p
  split at p
  · rename_i a
    obtain ⟨v, rfl, i⟩ := as1 ia
    split at p
    · rename_i l e
      obtain ⟨q, us, rfl, k1, k2⟩ := viewL_ok rel i e
      exact ⟨q, us, rfl, .inl k1, fun r hr => p.newL rel hr k2⟩
    · split at p
      · rename_i l e
        obtain ⟨q, us, rfl, k1, k2⟩ := viewT_ok rel i e
        exact ⟨q, us, rfl, .inr k1, fun r hr => p.newL rel hr k2⟩
      · exact False.elim p
  · exact False.elim p
/-- isinstance -/
def kindD (M : List Cn) : D → Option String
  | .non => some "NoneType"
  | .bl _ => some "bool"
  | .int _ => some "int"
  | .str _ => some "str"
  | .tup _ => some "tuple"
  | .lst _ => some "list"
  | .dK _ => some "dict"
  | .cid k => M[k]?.bind fun c => match c with
    | .lst _ => some "list"
    | .dK _ => some "dict"
    | _ => none
  | _ => none
def fIsi (s : Stt) (as : List AI) : Ro AI := match as with
  | [a, .val (.ty m)] => match ((look s a).bind (kindD s.M)).bind fun n => kitB n m with
    | some b => .ok (.val (.bl b)) s
    | none => .no
  | _ => .no
theorem kind_ok {S : Sh} {s : Stt} {σ : St} {H : Hp} {v : V} {d : D} {n : String} (rel : Rel K ct H0 S s σ H) (r : Rp K (U ct.lk H) S.α s.M.length v d) (e : kindD s.M d = some n) : TyX K H v (.type n) := by
  cases r with
  | non => cases e; exact .base .non
  | bl b => cases e; exact .base (.bl b)
  | int i => cases e; exact .base (.int i)
  | str x => cases e; exact .base (.str x)
  | tup h r => cases e; exact .base (.tup (uP' h))
  | lst h r => cases e; exact .base (.lst (uL' h))
  | dK h e1 r =>
    cases e
    rcases uK' h with h | ⟨o, h⟩
    · exact .base (.dK h)
    · exact .fDict h
  | ctp h r => cases e
  | clst h r => cases e
  | dT h e1 r => cases e
  | ty m => cases e
  | @cid k h =>
    obtain ⟨c, qc, e1⟩ := Option.bind_eq_some_iff.mp e
    have hh := (rel.ids k c qc).2
    cases c with
    | lst l => cases e1; obtain ⟨vs, h1, h2⟩ := hh; exact .base (.lst h1)
    | dK l => cases e1; obtain ⟨vs, h1, h3, h2⟩ := hh; exact .base (.dK h1)
    | dT l => cases e1
    | obj c fs => cases e1
    | lkK l => cases e1
    | lkT l => cases e1
theorem jb_isi : JB K ct H0 (rIsi K) fIsi := fun W S s σ H Hs vs as Q rel ia p => by
  unfold fIsi at p
  split at p
  · rename_i a m
    obtain ⟨v, w, rfl, h1, h2⟩ := as2 ia
    split at p
    · rename_i b e
      obtain ⟨n, e1, e2⟩ := Option.bind_eq_some_iff.mp e
      obtain ⟨d, e0, e1⟩ := Option.bind_eq_some_iff.mp e1
      have h2' : Rp K S.G S.α s.M.length w (.ty m) := h2
      cases h2'
      exact z_isi (kind_ok rel (look_ok rel h1 e0) e1) (kit_ty e2) (p.val rel (.bl _))
    · exact False.elim p
  · exact False.elim p
end
section
variable {K : PySem.W.Frag} {ct : Ct} {H0 : Hp} {W : WX}
theorem viewD_ok {S : Sh} {s : Stt} {σ : St} {H Hs : Hp} {v : V} {a : AI} {l : List (Key × D)} (r : Rel K ct H0 S s σ H) (i : ItOk K ct Hs S s σ H v a) (e : viewD s a = some l) : ∃ p kvs, v = .ref p ∧ Rd H p (.dK kvs) ∧ RpK K S.G S.α s.M.length kvs l := by
  have frz : ∀ {u : V} {d : D}, Rp K S.G S.α s.M.length u d → dictOf s.M d = some l → ∃ p kvs, u = .ref p ∧ Rd H p (.dK kvs) ∧ RpK K S.G S.α s.M.length kvs l := fun {u d} h e => by
    cases d with
    | dK l' => cases e; cases h with | dK h1 h3 h2 => exact ⟨_, _, rfl, uK' (r.sub _ _ h1), .of h3 h2⟩
    | cid k =>
      cases h
      obtain ⟨c, q, e1⟩ := Option.bind_eq_some_iff.mp (show s.M[k]?.bind Cn.aK = some l from e)
      cases c with
      | dK l' =>
        cases e1
        obtain ⟨vs, h1, h3, h2⟩ := (r.ids k _ q).2
        exact ⟨_, vs, rfl, .inl h1, .of h3 h2⟩
      | lkK l' =>
        cases e1
        obtain ⟨vs, ⟨od, h1⟩, h3, h2⟩ := (r.ids k _ q).2
        exact ⟨_, vs, rfl, .inr ⟨od, h1⟩, .of h3 h2⟩
      | _ => cases e1
    | _ => cases e
  have own : ∀ {p : Addr} {c : Cn}, CnOk K ct S s.M.length H p c → dictOf s.M c.toD = some l → ∃ q kvs, V.ref p = .ref q ∧ Rd H q (.dK kvs) ∧ RpK K S.G S.α s.M.length kvs l := fun {p c} h e => by
    cases c with
    | dK l' => cases e; obtain ⟨vs, h1, h3, h2⟩ := h; exact ⟨p, vs, rfl, .inl h1, .of h3 h2⟩
    | lst l' => cases e
    | dT l' => cases e
    | obj _ _ => cases e
    | lkK l => cases e
    | lkT l => cases e
  unfold viewD at e
  cases a with
  | val d => exact frz i e
  | new c =>
    obtain ⟨p, rfl, _, _, _, hc, h5⟩ := i
    exact own h5 e
  | slot j =>
    obtain ⟨d, q0, e⟩ := Option.bind_eq_some_iff.mp e
    obtain ⟨en, q1, rfl⟩ := Option.map_eq_some_iff.mp q0
    have q := entAt_eq q1
    have hi : σ[j]? = some (some v) := i
    have hh := r.slot j en q
    cases en with
    | fz d =>
      obtain ⟨v', h1, h2⟩ := hh
      rw [hi] at h1; cases h1
      exact frz h2 e
    | xn x => exact (entAt_xn q1).elim
    | ow c =>
      obtain ⟨p, h1, _, _, hc, h5⟩ := hh
      rw [hi] at h1; cases h1
      exact own h5 e
theorem dget_ok {S : Sh} {n : Nat} {H : Hp} {p : Addr} {kvs : List (Key × V)} {l : List (Key × D)} {k : Key} (h : Rd H p (.dK kvs)) (r : RpK K S.G S.α n kvs l) :
    (vl l k = none ∧ DGet H p (kV k) none) ∨ ∃ v d, vl l k = some d ∧ DGet H p (kV k) (some v) ∧ Rp K S.G S.α n v d := by
  have g : DGet H p (kV k) (valV kvs k) := .inl ⟨kvs, k, h, rfl, rfl⟩
  rcases r.get (k := k) with ⟨h1, h2⟩ | ⟨v, d, h1, h2, h3⟩
  · rw [h2] at g; exact .inl ⟨h1, g⟩
  · rw [h2] at g; exact .inr ⟨v, d, h1, g, h3⟩
/-- an item of a dict, too -/
def fIxY : Stt → AI → AI → Ro AI := fun s a b => match viewD s a with
  | some l => match b with
    | .val (.int i) => match vl l (.inl i) with
      | some d => .ok (.val d) s
      | none => .no
    | .val (.str x) => match vl l (.inr x) with
      | some d => .ok (.val d) s
      | none => .no
    | _ => .no
  | none => fIx s a b
theorem j_ixY : J2 K ct H0 (rIxY K) fIxY := fun W S s σ H Hs Hs' x y a b Q rel ia ib p => by
  unfold fIxY at p
  split at p
  · rename_i l e1
    obtain ⟨q, kvs, rfl, h1, h2⟩ := viewD_ok rel ia e1
    split at p
    · rename_i i
      cases rp_int ib
      split at p
      · rename_i d e
        rcases dget_ok (k := Sum.inl i) h1 h2 with ⟨h3, h4⟩ | ⟨v, d', h3, h4, h5⟩
        · rw [h3] at e; cases e
        · rw [h3] at e; cases e
          exact .inr ⟨q, v, rfl, h4, p.val rel h5⟩
      · exact False.elim p
    · rename_i i
      cases rp_str ib
      split at p
      · rename_i d e
        rcases dget_ok (k := Sum.inr i) h1 h2 with ⟨h3, h4⟩ | ⟨v, d', h3, h4, h5⟩
        · rw [h3] at e; cases e
        · rw [h3] at e; cases e
          exact .inr ⟨q, v, rfl, h4, p.val rel h5⟩
      · exact False.elim p
    · exact False.elim p
  · exact .inl (j_ix W S s σ H Hs Hs' x y a b Q rel ia ib p)
end
end Y
namespace Y
open PySem L2 Z
section
variable {K : PySem.W.Frag} {ct : Ct} {H0 : Hp} {W : WX} {S : Sh} {s : Stt} {σ : St} {H : Hp}
def Ent.own : Ent → Option Cn
  | .ow c => some c
  | .fz _ => none
  | .xn _ => none
def getC (s : Stt) : AI → Option Cn
  | .slot i => (entAt s i).bind Ent.own
  | .val (.cid k) => s.M[k]?
  | _ => none
def setC (s : Stt) (a : AI) (c : Cn) : Stt := match a with
  | .slot i => ⟨s.env.set i (some (.ow c)), s.M⟩
  | .val (.cid k) => ⟨s.env, s.M.set k c⟩
  | _ => s
theorem mut_ok {Hs : Hp} {v : V} {a : AI} {c : Cn} (r : Rel K ct H0 S s σ H) (i : ItOk K ct Hs S s σ H v a) (e : getC s a = some c) (hlk : c.lkd = false := by rfl) :
    ∃ p, v = .ref p ∧ CnOk K ct S s.M.length H p c ∧ ∀ o c', (c.isC = true → c'.isC = true) → CnOk K ct S s.M.length (upd H p o) p c' →
      Rel K ct H0 S (setC s a c') σ (upd H p o) ∧ Stp S s.M.length H S (setC s a c').M.length (upd H p o) := by
  have gen : ∀ (p : Addr) (l : Lab), S.lab p = some l → (∀ u, H p = some u → NF u) → ∀ o : HO, NT o →
      (Same S.G (U ct.lk (upd H p o))) ∧ (∀ a l, S.lab a = some l → S.G a = none ∧ ∃ u, upd H p o a = some u ∧ NT u) ∧ (∀ a, upd H p o a = none → H0 a = none) ∧
      (∀ {a : Addr} {c : Cn} {l' : Lab}, S.lab a = some l' → l' ≠ l → CnOk K ct S s.M.length H a c → CnOk K ct S s.M.length (upd H p o) a c) ∧ Stp S s.M.length H S s.M.length (upd H p o) := by
    intro p l hl hnf o hnt
    obtain ⟨hg, u0, hu0⟩ := r.lg p l hl
    refine ⟨fun a u q => ?_, fun a l' q => ?_, fun a q => r.dom a (upd_none.mp q).2, fun {a c l'} q ne h => ?_, ⟨fun _ _ q => q, Nat.le_refl _, fun _ _ => rfl, fun a u q ql => ⟨?_, ql⟩, fun _ _ q => .inl q, fun a q => (upd_none.mp q).2, fun a od u q => by rw [upd_ne (fun z => by subst z; exact absurd rfl (hnf _ q od u))]; exact q⟩⟩
    · rw [U_ne (fun z => by subst z; rw [hg] at q; cases q)]; exact r.sub a u q
    · obtain ⟨k1, u, k2, k3⟩ := r.lg a l' q
      refine ⟨k1, ?_⟩
      by_cases z : a = p
      · subst z; exact ⟨o, upd_same, hnt⟩
      · exact ⟨u, by rw [upd_ne z]; exact k2, k3⟩
    · have z : a ≠ p := fun z => by subst z; rw [hl] at q; cases q; exact ne rfl
      exact h.mono (fun _ _ q => q) (fun _ _ => rfl) (Nat.le_refl _) fun u q => by rw [upd_ne z]; exact q
    · rw [upd_ne (fun z => by subst z; rw [hl] at ql; cases ql)]; exact q
  cases a with
  | new c => cases e
  | slot j =>
    obtain ⟨en, q1, q2⟩ := Option.bind_eq_some_iff.mp e
    cases en with
    | fz d => cases q2
    | xn x => cases q2
    | ow c0 =>
      cases q2
      have q := entAt_eq q1
      obtain ⟨p, h1, h2, h3, h4, h5⟩ := r.slot j _ q
      have hi : σ[j]? = some (some v) := i
      rw [hi] at h1; cases h1
      refine ⟨p, rfl, h5, fun o c' hc hk => ?_⟩
      obtain ⟨g1, g2, g3, g4, g5⟩ := gen p _ h3 (fun u hu => h5.nf hlk hu) o (hk.nt upd_same)
      refine ⟨⟨g1, g2, g3, ?_, fun m en hm => ?_, fun k cc hk' => ?_⟩, g5⟩
      · show σ.length = (s.env.set j _).length
        rw [List.length_set]; exact r.len
      · have hm1 : (s.env.set j (some (.ow c')))[m]? = some (some en) := hm
        by_cases z : j = m
        · subst z
          have hlt : j < s.env.length := (List.getElem?_eq_some_iff.mp q).1
          rw [List.getElem?_set_self hlt] at hm1
          cases hm1
          exact ⟨p, hi, h2, h3, hc h4, hk⟩
        · rw [List.getElem?_set_ne z] at hm1
          have hh := r.slot m en hm1
          cases en with
          | fz d => exact hh
          | xn x => exact xn_mono (S := S) (n := s.M.length) (H := H) (fun _ _ e => e) (fun _ _ => rfl) (Nat.le_refl _) rfl hh
          | ow c2 =>
            obtain ⟨a, k1, k2, k3, k4, k5⟩ := hh
            exact ⟨a, k1, k2, k3, k4, g4 k3 (fun w => by cases w; exact z rfl) k5⟩
      · obtain ⟨k1, k2⟩ := r.ids k cc hk'
        exact ⟨k1, g4 k1 (fun w => by cases w) k2⟩
  | val d =>
    cases d with
    | cid k =>
      have e1 : s.M[k]? = some c := e
      have i1 : Rp K S.G S.α s.M.length v (.cid k) := i
      cases i1
      obtain ⟨h3, h5⟩ := r.ids k c e1
      refine ⟨_, rfl, h5, fun o c' hc hk => ?_⟩
      obtain ⟨g1, g2, g3, g4, g5⟩ := gen _ _ h3 (fun u hu => h5.nf hlk hu) o (hk.nt upd_same)
      have hl : (s.M.set k c').length = s.M.length := List.length_set
      refine ⟨⟨g1, g2, g3, r.len, fun m en hm => ?_, fun k' cc hk' => ?_⟩, by show Stp S s.M.length H S (s.M.set k c').length _; rw [hl]; exact g5⟩
      · have hh := r.slot m en hm
        show EntOk K ct H0 S (s.M.set k c').length σ _ m en
        rw [hl]
        cases en with
        | fz d => exact hh
        | xn x => exact xn_mono (S := S) (n := s.M.length) (H := H) (fun _ _ e => e) (fun _ _ => rfl) (Nat.le_refl _) rfl hh
        | ow c2 =>
          obtain ⟨a, k1, k2, k3, k4, k5⟩ := hh
          exact ⟨a, k1, k2, k3, k4, g4 k3 (fun w => by cases w) k5⟩
      · have hk1 : (s.M.set k c')[k']? = some cc := hk'
        show S.lab (S.α k') = some (.id k') ∧ CnOk K ct S (s.M.set k c').length _ (S.α k') cc
        rw [hl]
        by_cases z : k = k'
        · subst z
          have hlt : k < s.M.length := (List.getElem?_eq_some_iff.mp e1).1
          rw [List.getElem?_set_self hlt] at hk1
          cases hk1
          exact ⟨h3, hk⟩
        · rw [List.getElem?_set_ne z] at hk1
          obtain ⟨k1, k2⟩ := r.ids k' cc hk1
          exact ⟨k1, g4 k1 (fun w => by cases w; exact z rfl) k2⟩
    | _ => cases e
/-- a method of a list: the receiver is read, then the values -/
def JM (K : PySem.W.Frag) (ct : Ct) (H0 : Hp) (r : V → List V → Hp → VK → Prop) (f : Stt → AI → List D → Ro AI) : Prop := ∀ W S s σ H Hs x a vs ds Q, Rel K ct H0 S s σ H → ItOk K ct Hs S s σ H x a → RpL K S.G S.α s.M.length vs ds → Pst K ct H0 (RI K ct) W S s σ H Q (f s a ds) → r x vs H Q
def mBM (f : Stt → AI → List D → Ro AI) (mo : Mo AI) (ma : Mo (List D)) : Mo AI := fun s => (mo s).bind fun a s1 => match viewL s1 a with
  | some _ => (ma s1).bind fun ds s2 => f s2 a ds
  | none => .no
theorem ei_bm {r : V → List V → Hp → VK → Prop} {f : Stt → AI → List D → Ro AI} {to : TE} {t : TA} {mo : Mo AI} {ma : Mo (List D)} (hr : JM K ct H0 r f) (ho : Ei K ct H0 W to mo) (ha : EvL K ct H0 W t ma) : Ei K ct H0 W (tBM K "list" r to t) (mBM f mo ma) := fun S s σ H Q rel p =>
  ho S s σ H _ rel (Pst.bind bI p fun S1 s1 H1 x a st1 rel1 i1 p1 => by
    split at p1
    · rename_i l e
      obtain ⟨q, vs, rfl, h1, _⟩ := viewL_ok rel1 i1 e
      exact ⟨.inl ⟨rfl, vs, h1⟩, ha S1 s1 σ H1 _ rel1 (Pst.bind bI p1 fun S2 s2 H2 vs ds st2 rel2 i2 p2 => hr W S2 s2 σ H2 _ _ a vs ds Q rel2 (i1.step st2) i2 p2)⟩
    · exact False.elim p1)
def fApp (s : Stt) (a : AI) (ds : List D) : Ro AI := match ds, getC s a with
  | [d], some (.lst l) => if l.length < sizeLine then .ok (.val .non) (setC s a (.lst (l ++ [d]))) else .no
  | _, _ => .no
theorem Pst.mut {a : AI} {c' : Cn} {Q : VK} {H' : Hp} (p : Pst K ct H0 (RI K ct) W S s σ H Q (.ok (.val .non) (setC s a c'))) (h : Rel K ct H0 S (setC s a c') σ H' ∧ Stp S s.M.length H S (setC s a c').M.length H') : Q .non H' := p S .non H' h.2 h.1 .non
theorem jm_app : JM K ct H0 rAppend fApp := fun W S s σ H Hs x a vs ds Q rel i r p => by
  unfold fApp at p
  split at p
  · rename_i d l e
    split at p
    · rename_i hz
      obtain ⟨q, rfl, ⟨us, h1, h2⟩, h3⟩ := mut_ok rel i e
      cases r with
      | cons r1 r2 =>
        cases r2
        exact ⟨q, us, _, rfl, rfl, h1, by rw [h2.length]; exact hz, p.mut (h3 _ (.lst (l ++ [d])) (fun _ => rfl) ⟨_, upd_same, h2.append (.cons r1 .nil)⟩)⟩
    · exact False.elim p
  · exact False.elim p
def PstS (K : PySem.W.Frag) (ct : Ct) (H0 : Hp) (W : WX) (S : Sh) (s : Stt) (H : Hp) (Dn : Ends) : Rs → Prop
  | .nx s' => ∀ S' σ' H', Stp S s.M.length H S' s'.M.length H' → Rel K ct H0 S' s' σ' H' → Dn.nx σ' H'
  | .bk s' => ∀ S' σ' H', Stp S s.M.length H S' s'.M.length H' → Rel K ct H0 S' s' σ' H' → Dn.bk σ' H'
  | .ct s' => ∀ S' σ' H', Stp S s.M.length H S' s'.M.length H' → Rel K ct H0 S' s' σ' H' → Dn.ct σ' H'
  | .rt a s' => ∀ S' σ' v H', Stp S s.M.length H S' s'.M.length H' → Rel K ct H0 S' s' σ' H' → ItOk K ct H0 S' s' [] H' v a → Dn.rt v H'
  | .er x s' => ∀ S' σ' H' dd, Stp S s.M.length H S' s'.M.length H' → Rel K ct H0 S' s' σ' H' → XOk K S' s'.M.length H' x dd → W (.ref (ct x.cls)) dd σ' H'
  | .no => False
def Sv (K : PySem.W.Frag) (ct : Ct) (H0 : Hp) (W : WX) (t : TS) (m : Ms) : Prop := ∀ S s σ H Dn, Rel K ct H0 S s σ H → PstS K ct H0 W S s H Dn (m s) → t Dn σ H
theorem PstS.from {S1 : Sh} {s1 : Stt} {H1 : Hp} {Dn : Ends} {r : Rs} (h : PstS K ct H0 W S s H Dn r) (t : Stp S s.M.length H S1 s1.M.length H1) : PstS K ct H0 W S1 s1 H1 Dn r := by
  cases r with
  | nx s' => exact fun S' σ' H' st rel => h S' σ' H' (t.trans st) rel
  | bk s' => exact fun S' σ' H' st rel => h S' σ' H' (t.trans st) rel
  | ct s' => exact fun S' σ' H' st rel => h S' σ' H' (t.trans st) rel
  | rt a s' => exact fun S' σ' v H' st rel => h S' σ' v H' (t.trans st) rel
  | er x s' => exact fun S' σ' H' dd st rel => h S' σ' H' dd (t.trans st) rel
  | no => exact h
/-- an expression's result goes on to a statement's -/
def Ro.toS {α : Type} (r : Ro α) (f : α → Ms) : Rs := match r with
  | .ok a s => f a s
  | .er x s => .er x s
  | .no => .no
theorem PstS.bind {β α : Type} {R : RR β α} {Dn : Ends} {Q1 : β → Hp → Prop} {r : Ro α} {f : α → Ms} (h : PstS K ct H0 W S s H Dn (r.toS f))
    (k : ∀ S1 s1 H1 x a, Stp S s.M.length H S1 s1.M.length H1 → Rel K ct H0 S1 s1 σ H1 → R H S1 s1 σ H1 x a → PstS K ct H0 W S s H Dn (f a s1) → Q1 x H1) : Pst K ct H0 R W S s σ H Q1 r := by
  cases r with
  | ok a s' => exact fun S' x H' st rel q => k S' s' H' x a st rel q h
  | er x s' => exact fun S' H' dd st rel q => h S' σ H' dd st rel q
  | no => exact h
def mSeq (m1 m2 : Ms) : Ms := fun s => match m1 s with
  | .nx s1 => m2 s1
  | r => r
theorem sv_seq {t u : TS} {m1 m2 : Ms} (h1 : Sv K ct H0 W t m1) (h2 : Sv K ct H0 W u m2) : Sv K ct H0 W (tSeq t u) (mSeq m1 m2) := fun S s σ H Dn rel p => h1 S s σ H _ rel (by
  unfold mSeq at p
  cases q : m1 s with
  | nx s1 => rw [q] at p; exact fun S1 σ1 H1 st rel1 => h2 S1 s1 σ1 H1 Dn rel1 (PstS.from p st)
  | bk s1 => rw [q] at p; exact p
  | ct s1 => rw [q] at p; exact p
  | rt a s1 => rw [q] at p; exact p
  | er x s1 => rw [q] at p; exact p
  | no => rw [q] at p; exact p)
def mNext : Ms := fun s => .nx s
theorem sv_next : Sv K ct H0 W tNext mNext := fun S s σ H Dn rel p => p S σ H .refl rel
def mDrop (m : Mo AI) : Ms := fun s => (m s).toS fun _ s1 => .nx s1
theorem sv_drop {te : TE} {m : Mo AI} (h : Ei K ct H0 W te m) : Sv K ct H0 W (tDrop te) (mDrop m) := fun S s σ H Dn rel p => h S s σ H _ rel (PstS.bind p fun S1 s1 H1 x a st1 rel1 i1 p1 => p1 S1 σ H1 st1 rel1)
def mIfS (c : Mo Bool) (m1 m2 : Ms) : Ms := fun s => (c s).toS fun b s1 => if b = true then m1 s1 else m2 s1
theorem sv_if {c : TT} {t u : TS} {mc : Mo Bool} {m1 m2 : Ms} (hc : Et K ct H0 W c mc) (h1 : Sv K ct H0 W t m1) (h2 : Sv K ct H0 W u m2) : Sv K ct H0 W (tIfS c t u) (mIfS mc m1 m2) := fun S s σ H Dn rel p =>
  hc S s σ H _ rel (PstS.bind p fun S1 s1 H1 x a st1 rel1 i1 p1 => by
    cases (show x = a from i1)
    cases x with
    | true => rw [if_pos rfl] at p1 ⊢; exact h1 S1 s1 σ H1 Dn rel1 (PstS.from p1 st1)
    | false => rw [if_neg Bool.false_ne_true] at p1 ⊢; exact h2 S1 s1 σ H1 Dn rel1 (PstS.from p1 st1))
def Sh.un (S : Sh) (i : Nat) : Sh := ⟨S.G, S.α, fun a => if S.lab a = some (.slot i) then none else S.lab a⟩
theorem un_lab {i : Nat} {a : Addr} {l : Lab} (h : S.lab a = some l) (ne : l ≠ .slot i) : (S.un i).lab a = some l := by
  show (if S.lab a = some (.slot i) then none else S.lab a) = _
  rw [if_neg (fun z => by rw [h] at z; cases z; exact ne rfl)]; exact h
theorem un_of {i : Nat} {a : Addr} {l : Lab} (h : (S.un i).lab a = some l) : S.lab a = some l := by
  have h1 : (if S.lab a = some (.slot i) then none else S.lab a) = some l := h
  split at h1
  · cases h1
  · exact h1
theorem Stp.un {n : Nat} {i : Nat} : Stp S n H (S.un i) n H := ⟨fun _ _ e => e, Nat.le_refl _, fun _ _ => rfl, fun a o h l => ⟨h, by
  show (if S.lab a = some (.slot i) then none else S.lab a) = none
  split
  · rfl
  · exact l⟩, fun _ _ e => .inl e, fun _ h => h, fun _ _ _ h => h⟩
theorem cn_un {n i : Nat} {p : Addr} {c : Cn} (h : CnOk K ct S n H p c) : CnOk K ct (S.un i) n H p c := h.mono (fun _ _ e => e) (fun _ _ => rfl) (Nat.le_refl _) (fun _ e => e)
/-- slot i is given another value -/
theorem Rel.setFz {i : Nat} {v : V} {d : D} (r : Rel K ct H0 S s σ H) (h : Rp K S.G S.α s.M.length v d) : Rel K ct H0 (S.un i) ⟨s.env.set i (some (.fz d)), s.M⟩ (σ.set i (some v)) H := by
  refine ⟨r.sub, fun a l q => r.lg a l (un_of q), r.dom, by rw [List.length_set]; show _ = (s.env.set i _).length; rw [List.length_set]; exact r.len, fun j en q => ?_, fun k c q => ?_⟩
  · have q1 : (s.env.set i (some (.fz d)))[j]? = some (some en) := q
    by_cases z : i = j
    · subst z
      have hlt : i < s.env.length := by
        have := (List.getElem?_eq_some_iff.mp q1).1
        rw [List.length_set] at this; exact this
      rw [List.getElem?_set_self hlt] at q1
      cases q1
      exact ⟨v, List.getElem?_set_self (by rw [r.len]; exact hlt), h⟩
    · rw [List.getElem?_set_ne z] at q1
      have hh := r.slot j en q1
      cases en with
      | fz d' => obtain ⟨w, k1, k2⟩ := hh; exact ⟨w, by rw [List.getElem?_set_ne z]; exact k1, k2⟩
      | xn x => exact xn_mono (S := S) (n := s.M.length) (H := H) (fun _ _ e => e) (fun _ _ => rfl) (Nat.le_refl _) (List.getElem?_set_ne z) hh
      | ow c =>
        obtain ⟨p, k1, k2, k3, k4, k5⟩ := hh
        exact ⟨p, by rw [List.getElem?_set_ne z]; exact k1, k2, un_lab k3 (fun w => by cases w; exact z rfl), k4, cn_un k5⟩
  · obtain ⟨k1, k2⟩ := r.ids k c q
    exact ⟨un_lab k1 (fun w => by cases w), cn_un k2⟩
theorem Rel.setN {i : Nat} (r : Rel K ct H0 S s σ H) : Rel K ct H0 (S.un i) ⟨s.env.set i none, s.M⟩ σ H := by
  refine ⟨r.sub, fun a l q => r.lg a l (un_of q), r.dom, by show _ = (s.env.set i _).length; rw [List.length_set]; exact r.len, fun j en q => ?_, fun k c q => ?_⟩
  · have q1 : (s.env.set i none)[j]? = some (some en) := q
    by_cases z : i = j
    · subst z
      have hlt : i < s.env.length := by
        have := (List.getElem?_eq_some_iff.mp q1).1
        rw [List.length_set] at this; exact this
      rw [List.getElem?_set_self hlt] at q1
      cases q1
    · rw [List.getElem?_set_ne z] at q1
      have hh := r.slot j en q1
      cases en with
      | fz d' => exact hh
      | xn x => exact xn_mono (S := S) (n := s.M.length) (H := H) (fun _ _ e => e) (fun _ _ => rfl) (Nat.le_refl _) rfl hh
      | ow c =>
        obtain ⟨p, k1, k2, k3, k4, k5⟩ := hh
        exact ⟨p, k1, k2, un_lab k3 (fun w => by cases w; exact z rfl), k4, cn_un k5⟩
  · obtain ⟨k1, k2⟩ := r.ids k c q
    exact ⟨un_lab k1 (fun w => by cases w), cn_un k2⟩
def Sh.cl (S : Sh) (i : Nat) (p : Addr) : Sh := ⟨S.G, S.α, fun a => if a = p then some (.slot i) else if S.lab a = some (.slot i) then none else S.lab a⟩
theorem Rel.setOw {i : Nat} {p : Addr} {c : Cn} (r : Rel K ct H0 S s σ H) (h0 : H0 p = none) (hl : S.lab p = none) (hg : S.G p = none) (hc : c.isC = true) (h : CnOk K ct S s.M.length H p c) : Rel K ct H0 (S.cl i p) ⟨s.env.set i (some (.ow c)), s.M⟩ (σ.set i (some (.ref p))) H := by
  have lb : ∀ {a : Addr} {l : Lab}, S.lab a = some l → l ≠ .slot i → (S.cl i p).lab a = some l := fun {a l} hh ne => by
    show (if a = p then _ else if S.lab a = some (.slot i) then none else S.lab a) = _
    rw [if_neg (fun z => by subst z; rw [hl] at hh; cases hh), if_neg (fun z => by rw [hh] at z; cases z; exact ne rfl)]; exact hh
  have cn : ∀ {a : Addr} {c : Cn}, CnOk K ct S s.M.length H a c → CnOk K ct (S.cl i p) s.M.length H a c := fun {a c} h => h.mono (fun _ _ e => e) (fun _ _ => rfl) (Nat.le_refl _) (fun _ e => e)
  refine ⟨r.sub, fun a l q => ?_, r.dom, by rw [List.length_set]; show _ = (s.env.set i _).length; rw [List.length_set]; exact r.len, fun j en q => ?_, fun k c' q => ?_⟩
  · have q1 : (if a = p then some (Lab.slot i) else if S.lab a = some (.slot i) then none else S.lab a) = some l := q
    by_cases z : a = p
    · subst z; exact ⟨hg, by obtain ⟨u, hu⟩ := h.some; exact ⟨u, hu, h.nt hu⟩⟩
    · rw [if_neg z] at q1
      split at q1
      · cases q1
      · exact r.lg a l q1
  · have q1 : (s.env.set i (some (.ow c)))[j]? = some (some en) := q
    by_cases z : i = j
    · subst z
      have hlt : i < s.env.length := by
        have := (List.getElem?_eq_some_iff.mp q1).1
        rw [List.length_set] at this; exact this
      rw [List.getElem?_set_self hlt] at q1
      cases q1
      exact ⟨p, List.getElem?_set_self (by rw [r.len]; exact hlt), h0, if_pos rfl, hc, cn h⟩
    · rw [List.getElem?_set_ne z] at q1
      have hh := r.slot j en q1
      cases en with
      | fz d' => obtain ⟨w, k1, k2⟩ := hh; exact ⟨w, by rw [List.getElem?_set_ne z]; exact k1, k2⟩
      | xn x => exact xn_mono (S := S) (n := s.M.length) (H := H) (fun _ _ e => e) (fun _ _ => rfl) (Nat.le_refl _) (List.getElem?_set_ne z) hh
      | ow c' =>
        obtain ⟨a, k1, k2, k3, k4, k5⟩ := hh
        exact ⟨a, by rw [List.getElem?_set_ne z]; exact k1, k2, lb k3 (fun w => by cases w; exact z rfl), k4, cn k5⟩
  · obtain ⟨k1, k2⟩ := r.ids k c' q
    exact ⟨lb k1 (fun w => by cases w), cn k2⟩
theorem Stp.claim {S' : Sh} {n n' i : Nat} {H' : Hp} {p : Addr} (t : Stp S n H S' n' H') (hp : H p = none) : Stp S n H (S'.cl i p) n' H' where
  g := t.g
  le := t.le
  al := t.al
  fr := fun a o h l => by
    obtain ⟨h1, h2⟩ := t.fr a o h l
    refine ⟨h1, ?_⟩
    show (if a = p then _ else if S'.lab a = some (.slot i) then none else S'.lab a) = none
    rw [if_neg (ne_of_none h hp)]
    split
    · rfl
    · exact h2
  gn := t.gn
  fz := t.fz
  dom := t.dom
def asg (i : Nat) (a : AI) : Ms := fun s => match a with
  | .val d => .nx ⟨s.env.set i (some (.fz d)), s.M⟩
  | .new c => .nx ⟨s.env.set i (some (.ow c)), s.M⟩
  | .slot j => (toV (.slot j) s).toS fun d s1 => .nx ⟨s1.env.set i (some (.fz d)), s1.M⟩
def mAsg (i : Nat) (m : Mo AI) : Ms := fun s => (m s).toS (asg i)
theorem sv_asg {i : Nat} {te : TE} {m : Mo AI} (h : Ei K ct H0 W te m) : Sv K ct H0 W (tAsg te (gName i)) (mAsg i m) := fun S s σ H Dn rel p =>
  h S s σ H _ rel (PstS.bind p fun S1 s1 H1 x a st1 rel1 i1 p1 => by
    show Dn.nx (σ.set i (some x)) H1
    cases a with
    | val d => exact p1 (S1.un i) _ H1 (st1.trans .un) (rel1.setFz i1)
    | new c =>
      obtain ⟨q, rfl, h1, h2, h3, h4, h5⟩ := i1
      exact p1 (S1.cl i q) _ H1 (st1.claim h1) (rel1.setOw (rel.dom q h1) h2 h3 h4 h5)
    | slot j =>
      have hi : σ[j]? = some (some x) := i1
      have p1 : PstS K ct H0 W S s H Dn ((match entAt s1 j with | some (.ow c) => Ro.ok c.toD ⟨s1.env.set j (some (.fz c.toD)), s1.M⟩ | some (.fz d) => Ro.ok d s1 | _ => Ro.no).toS fun d s1 => .nx ⟨s1.env.set i (some (.fz d)), s1.M⟩) := p1
      cases qe : entAt s1 j with
      | none => rw [qe] at p1; exact False.elim p1
      | some en =>
        rw [qe] at p1
        cases en with
        | fz d =>
          obtain ⟨v', k1, k2⟩ := rel1.slot j _ (entAt_eq qe)
          rw [hi] at k1; cases k1
          exact p1 (S1.un i) _ H1 (st1.trans .un) (rel1.setFz k2)
        | xn x => exact False.elim p1
        | ow c =>
          obtain ⟨S2, v', k1, st2, rel2, k2⟩ := frz_slot rel1 (entAt_eq qe)
          rw [hi] at k1; cases k1
          exact p1 (S2.un i) _ H1 ((st1.trans st2).trans .un) (rel2.setFz k2))
def ret (a : AI) : Ms := fun s => match a with
  | .val d => .rt (.val d) s
  | .new c => .rt (.new c) s
  | .slot i => match entAt s i with
    | some (.ow c) => .rt (.new c) ⟨s.env.set i none, s.M⟩
    | some (.fz d) => .rt (.val d) s
    | _ => .no
def mRet (m : Mo AI) : Ms := fun s => (m s).toS ret
theorem sv_ret {te : TE} {m : Mo AI} (h : Ei K ct H0 W te m) : Sv K ct H0 W (tRet te) (mRet m) := fun S s σ H Dn rel p =>
  h S s σ H _ rel (PstS.bind p fun S1 s1 H1 x a st1 rel1 i1 p1 => by
    cases a with
    | val d => exact p1 S1 σ x H1 st1 rel1 i1
    | new c =>
      obtain ⟨q, rfl, h1, h2, h3, h4, h5⟩ := i1
      exact p1 S1 σ _ H1 st1 rel1 ⟨q, rfl, rel.dom q h1, h2, h3, h4, h5⟩
    | slot j =>
      have hi : σ[j]? = some (some x) := i1
      have p1 : PstS K ct H0 W S s H Dn (match entAt s1 j with | some (.ow c) => .rt (.new c) ⟨s1.env.set j none, s1.M⟩ | some (.fz d) => .rt (.val d) s1 | _ => .no) := p1
      cases qe : entAt s1 j with
      | none => rw [qe] at p1; exact False.elim p1
      | some en =>
        rw [qe] at p1
        cases en with
        | fz d =>
          obtain ⟨v', k1, k2⟩ := rel1.slot j _ (entAt_eq qe)
          rw [hi] at k1; cases k1
          exact p1 S1 σ x H1 st1 rel1 k2
        | xn x => exact False.elim p1
        | ow c =>
          obtain ⟨q, k1, k2, k3, k4, k5⟩ := rel1.slot j _ (entAt_eq qe)
          rw [hi] at k1; cases k1
          refine p1 (S1.un j) σ _ H1 (st1.trans .un) rel1.setN ⟨q, rfl, k2, ?_, (rel1.lg q _ k3).1, k4, cn_un k5⟩
          show (if S1.lab q = some (.slot j) then none else S1.lab q) = none
          rw [if_pos k3])
def mRetN : Ms := fun s => .rt (.val .non) s
end
end Y
namespace Y
open PySem L2 Z
abbrev Tg := D → Stt → Option Stt
abbrev Tgs := List D → Stt → Option Stt
/-- what of the slots is left when some are wiped -/
def Keeps (js : List Nat) (σ σ' : St) : Prop := ∀ ws : List Nat, (∀ j ∈ js, j ∈ ws) → wipe σ' ws = wipe σ ws
theorem wipe_in {σ : St} {i : Nat} : ∀ {vs : List Nat}, i ∈ vs → i < σ.length → (wipe σ vs)[i]? = some none
  | v :: vs, h, hl => by
    show ((wipe σ vs).set v none)[i]? = _
    by_cases e : v = i
    · subst e; rw [List.getElem?_set_self (by rw [wipe_length]; exact hl)]
    · rw [List.getElem?_set_ne e]
      rcases List.mem_cons.mp h with z | z
      · exact absurd z.symm e
      · exact wipe_in z hl
theorem keeps_set {σ : St} {i : Nat} {x : Option V} : Keeps [i] σ (σ.set i x) := fun ws h => by
  refine List.ext_getElem? fun k => ?_
  by_cases hk : k ∈ ws
  · by_cases hl : k < σ.length
    · rw [wipe_in hk (by rw [List.length_set]; exact hl), wipe_in hk hl]
    · rw [List.getElem?_eq_none_iff.mpr (by rw [wipe_length, List.length_set]; omega), List.getElem?_eq_none_iff.mpr (by rw [wipe_length]; omega)]
  · rw [wipe_out hk, wipe_out hk]
    have : i ≠ k := fun z => hk (z ▸ h i (by simp))
    rw [List.getElem?_set_ne this]
theorem keeps_refl {σ : St} {js : List Nat} : Keeps js σ σ := fun _ _ => rfl
theorem Keeps.trans {σ σ1 σ2 : St} {js ks : List Nat} (a : Keeps js σ σ1) (b : Keeps ks σ1 σ2) : Keeps (js ++ ks) σ σ2 := fun ws h => (b ws fun j hj => h j (by simp [hj])).trans (a ws fun j hj => h j (by simp [hj]))
section
variable {K : PySem.W.Frag} {ct : Ct} {H0 : Hp} {W : WX} {S : Sh} {s : Stt} {σ : St} {H : Hp}
def Sg (K : PySem.W.Frag) (ct : Ct) (H0 : Hp) (js : List Nat) (g : TG) (f : Tg) : Prop := ∀ S s σ H v d s' (Q : St → Hp → Prop), Rel K ct H0 S s σ H → Rp K S.G S.α s.M.length v d → f d s = some s' →
  (∀ S' σ', Stp S s.M.length H S' s'.M.length H → Rel K ct H0 S' s' σ' H → Keeps js σ σ' → S'.G = S.G → S'.α = S.α → Q σ' H) → g v σ H Q
def Sgs (K : PySem.W.Frag) (ct : Ct) (H0 : Hp) (js : List Nat) (g : TGs) (f : Tgs) : Prop := ∀ S s σ H vs ds s' (Q : St → Hp → Prop), Rel K ct H0 S s σ H → RpL K S.G S.α s.M.length vs ds → f ds s = some s' →
  (∀ S' σ', Stp S s.M.length H S' s'.M.length H → Rel K ct H0 S' s' σ' H → Keeps js σ σ' → S'.G = S.G → S'.α = S.α → Q σ' H) → g vs σ H Q
def tgN (i : Nat) : Tg := fun d s => some ⟨s.env.set i (some (.fz d)), s.M⟩
theorem sg_name {i : Nat} : Sg K ct H0 [i] (gName i) (tgN i) := fun S s σ H v d s' Q rel r e q => by
  cases e
  exact q (S.un i) _ .un (rel.setFz r) keeps_set rfl rfl
def tgNil : Tgs := fun ds s => match ds with
  | [] => some s
  | _ => none
def tgCons (f : Tg) (r : Tgs) : Tgs := fun ds s => match ds with
  | [] => none
  | d :: ds => (f d s).bind fun s1 => r ds s1
def tgT (n : Nat) (f : Tgs) : Tg := fun d s => match tupOf d with
  | some l => if l.length = n then f l s else none
  | none => none
theorem sgs_nil : Sgs K ct H0 [] gNil tgNil := fun S s σ H vs ds s' Q rel r e q => by
  cases r with
  | nil => cases e; exact ⟨rfl, q S σ .refl rel keeps_refl rfl rfl⟩
  | cons a b => cases e
theorem sgs_cons {js ks : List Nat} {g : TG} {gs : TGs} {f : Tg} {r : Tgs} (h1 : Sg K ct H0 js g f) (h2 : Sgs K ct H0 ks gs r) : Sgs K ct H0 (js ++ ks) (gCons g gs) (tgCons f r) := fun S s σ H vs ds s' Q rel rr e q => by
  cases rr with
  | nil => cases e
  | cons a b =>
    obtain ⟨s1, e1, e2⟩ := Option.bind_eq_some_iff.mp e
    refine ⟨_, _, rfl, h1 S s σ H _ _ s1 _ rel a e1 fun S1 σ1 st1 rel1 k1 g1 a1 => ?_⟩
    exact h2 S1 s1 σ1 H _ _ s' _ rel1 (b.step st1) e2 fun S2 σ2 st2 rel2 k2 g2 a2 => q S2 σ2 (st1.trans st2) rel2 (k1.trans k2) (g2.trans g1) (a2.trans a1)
theorem sg_tup {js : List Nat} {n : Nat} {gs : TGs} {f : Tgs} (h : Sgs K ct H0 js gs f) : Sg K ct H0 js (gTup K n gs) (tgT n f) := fun S s σ H v d s' Q rel r e q => by
  unfold tgT at e
  split at e
  · rename_i l el
    split at e
    · rename_i hl
      obtain ⟨p, vs, rfl, k1, k2⟩ := viewT_ok (Hs := H) (a := .val d) (v := v) rel r (by unfold viewT look; exact el)
      exact ⟨p, vs, rfl, k1, by rw [k2.length]; exact hl, h S s σ H vs l s' Q rel k2 e q⟩
    · cases e
  · cases e
def mAsgT (g : Tg) (m : Mo AI) : Ms := fun s => (mV m s).toS fun d s1 => match g d s1 with
  | some s2 => .nx s2
  | none => .no
structure Im where
  xs : List D
  ck : Option (Nat × Cn)
def chk : Option (Nat × Cn) → Stt → Prop
  | none, _ => True
  | some (k, c), s => s.M[k]? = some c
def Wk (K : PySem.W.Frag) (ct : Ct) (H0 : Hp) (S : Sh) (n : Nat) (H : Hp) (J : It) (im : Im) : Prop := ∀ S1 s1 σ1 H1, Stp S n H S1 s1.M.length H1 → Rel K ct H0 S1 s1 σ1 H1 → chk im.ck s1 →
  (∀ i d, im.xs[i]? = some d → J.go i H1 ∧ ∀ x H2, J.yld i H1 x H2 → ∃ S2, Stp S1 s1.M.length H1 S2 s1.M.length H2 ∧ Rel K ct H0 S2 s1 σ1 H2 ∧ Rp K S2.G S2.α s1.M.length x d) ∧ J.stop im.xs.length H1
def RW (K : PySem.W.Frag) (ct : Ct) (H0 : Hp) : RR It Im := fun _ S s _ H J im => Wk K ct H0 S s.M.length H J im
abbrev Jw (K : PySem.W.Frag) (ct : Ct) (H0 : Hp) (W : WX) (wi : TI) (m : Mo Im) : Prop := Jd K ct H0 (RW K ct H0) W wi m
theorem bW : Bck (RW K ct H0) := fun _ _ _ _ _ _ _ _ _ h => h
def rng (lo : Int) (n : Nat) : List D := (List.range n).map fun i => .int (lo + (i : Nat))
theorem wk_range {lo : Int} {n m : Nat} : Wk K ct H0 S m H (Itr lo n) ⟨rng lo n, none⟩ := fun S1 s1 σ1 H1 st rel _ => by
  refine ⟨fun i d e => ?_, ?_⟩
  · unfold rng at e
    rw [List.getElem?_map] at e
    obtain ⟨j, e1, rfl⟩ := Option.map_eq_some_iff.mp e
    have hj := (List.getElem?_eq_some_iff.mp e1)
    obtain ⟨hlt, ej⟩ := hj
    rw [List.getElem_range] at ej
    rw [List.length_range] at hlt
    subst ej
    refine ⟨hlt, fun x H2 h => ?_⟩
    obtain ⟨rfl, rfl⟩ := h
    exact ⟨S1, .refl, rel, .int _⟩
  · show n ≤ (rng lo n).length
    unfold rng; rw [List.length_map, List.length_range]; exact Nat.le_refl _
/-- the bounds of a range; decided classically, or whnf runs 2 ^ 62 in unary -/
def CRg1 (n : Int) : Prop := -(2 ^ 62) ≤ n ∧ n < 2 ^ 62
def CRg2 (i j : Int) : Prop := -(2 ^ 62) ≤ i ∧ i < 2 ^ 62 ∧ -(2 ^ 62) ≤ j ∧ j < 2 ^ 62
open Classical in
noncomputable def mRng1 (m : Mo (List AI)) : Mo Im := fun s => (m s).bind fun as s1 => match as with
  | [.val (.int n)] => if CRg1 n then .ok ⟨rng 0 n.toNat, none⟩ s1 else .no
  | _ => .no
theorem jw_rng1 {ta : TA} {m : Mo (List AI)} (h : EaL K ct H0 W ta m) : Jw K ct H0 W (iRng1 ta) (mRng1 m) := fun S s σ H Q rel p =>
  h S s σ H _ rel (Pst.bind bW p fun S1 s1 H1 x a st1 rel1 i1 p1 => by
    split at p1
    · rename_i n
      obtain ⟨v, rfl, k⟩ := as1 i1
      cases rp_int k
      split at p1
      · rename_i hz
        exact ⟨n, rfl, hz.1, hz.2, p1 S1 _ H1 .refl rel1 wk_range⟩
      · exact False.elim p1
    · exact False.elim p1)
open Classical in
noncomputable def mRng2 (m : Mo (List AI)) : Mo Im := fun s => (m s).bind fun as s1 => match as with
  | [.val (.int i), .val (.int j)] => if CRg2 i j then .ok ⟨rng i (j - i).toNat, none⟩ s1 else .no
  | _ => .no
def rngC (lo c : Int) (n : Nat) : List D := (List.range n).map fun i => .int (lo + ((i : Nat) : Int) * c)
theorem wk_rngC {lo c : Int} {n m : Nat} : Wk K ct H0 S m H (Itc lo c n) ⟨rngC lo c n, none⟩ := fun S1 s1 σ1 H1 st rel _ => by
  refine ⟨fun i d e => ?_, ?_⟩
  · unfold rngC at e
    rw [List.getElem?_map] at e
    obtain ⟨j, e1, rfl⟩ := Option.map_eq_some_iff.mp e
    obtain ⟨hlt, ej⟩ := List.getElem?_eq_some_iff.mp e1
    rw [List.getElem_range] at ej
    rw [List.length_range] at hlt
    subst ej
    refine ⟨hlt, fun x H2 h => ?_⟩
    obtain ⟨rfl, rfl⟩ := h
    exact ⟨S1, .refl, rel, .int _⟩
  · show n ≤ (rngC lo c n).length
    unfold rngC; rw [List.length_map, List.length_range]; exact Nat.le_refl _
open Classical in
noncomputable def mRng3 (m : Mo (List AI)) : Mo Im := fun s => (m s).bind fun as s1 => match as with
  | [.val (.int i), .val (.int j), .val (.int c)] => if RgC i j c (Builtin.Range.rangeSize i j c).toNat then .ok ⟨rngC i c (Builtin.Range.rangeSize i j c).toNat, none⟩ s1 else .no
  | _ => .no
theorem as3 {Hs : Hp} {vs : List V} {a b c : AI} (h : AsOk K ct Hs S s σ H vs [a, b, c]) : ∃ v w u, vs = [v, w, u] ∧ ItOk K ct Hs S s σ H v a ∧ ItOk K ct Hs S s σ H w b ∧ ItOk K ct Hs S s σ H u c := by
  cases h with | cons i r => cases r with | cons j r => cases r with | cons k r => cases r; exact ⟨_, _, _, rfl, i, j, k⟩
theorem jw_rng3 {ta : TA} {m : Mo (List AI)} (h : EaL K ct H0 W ta m) : Jw K ct H0 W (iRng3 ta) (mRng3 m) := fun S s σ H Q rel p =>
  h S s σ H _ rel (Pst.bind bW p fun S1 s1 H1 x a st1 rel1 i1 p1 => by
    split at p1
    · rename_i i j c
      obtain ⟨v, w, u, rfl, k1, k2, k3⟩ := as3 i1
      cases rp_int k1; cases rp_int k2; cases rp_int k3
      split at p1
      · rename_i hz
        exact ⟨i, j, c, _, rfl, hz, p1 S1 _ H1 .refl rel1 wk_rngC⟩
      · exact False.elim p1
    · exact False.elim p1)
/-- a list's value, walked -/
def ckOf : D → List D → Option (Nat × Cn)
  | .cid k, l => some (k, .lst l)
  | _, _ => none
theorem list_at {v : V} {d : D} {l : List D} {n : Nat} (rel : Rel K ct H0 S s σ H) (r : Rp K S.G S.α s.M.length v d) (e : listOf s.M d = some l) : ∃ p, v = .ref p ∧ ∀ S1 s1 σ1 H1, Stp S s.M.length H S1 s1.M.length H1 → Rel K ct H0 S1 s1 σ1 H1 → chk (ckOf d l) s1 →
    ∃ vs, SqL K H1 p vs ∧ RpL K S1.G S1.α s1.M.length vs l := by
  cases d with
  | lst l' => cases e; cases r with | lst h1 h2 => exact ⟨_, rfl, fun S1 s1 σ1 H1 st rel1 _ => ⟨_, .of (uL' (rel1.sub _ _ (st.g _ _ h1))), h2.step st⟩⟩
  | clst l' => cases e; cases r with | clst h1 h2 => exact ⟨_, rfl, fun S1 s1 σ1 H1 st rel1 _ => ⟨_, uSqL (rel1.sub.seq (st.g.seq h1)), h2.step st⟩⟩
  | cid k =>
    cases r with
    | cid hk =>
      refine ⟨_, rfl, fun S1 s1 σ1 H1 st rel1 c => ?_⟩
      have c1 : s1.M[k]? = some (.lst l) := c
      obtain ⟨vs, h1, h2⟩ := (rel1.ids k _ c1).2
      rw [st.al k hk] at h1
      exact ⟨vs, .of h1, h2⟩
  | _ => cases e
def mWL (m : Mo AI) : Mo Im := fun s => (mV m s).bind fun d s1 => match listOf s1.M d with
  | some l => .ok ⟨l, ckOf d l⟩ s1
  | none => .no
theorem jw_list {te : TE} {m : Mo AI} (h : Ei K ct H0 W te m) : Jw K ct H0 W (iList K te) (mWL m) := fun S s σ H Q rel p =>
  ev_of h S s σ H _ rel (Pst.bind bW p fun S1 s1 H1 x a st1 rel1 i1 p1 => by
    split at p1
    · rename_i l e
      have i1' : Rp K S1.G S1.α s1.M.length x a := i1
      have hv : viewL s1 (.val a) = some l := e
      obtain ⟨q0, vs0, e0, k1, _⟩ := viewL_ok (Hs := H) (a := .val a) rel1 i1' hv
      obtain ⟨q, rfl, k⟩ := list_at (n := 0) rel1 i1' e
      have e1 : q0 = q := by injection e0 with h; exact h.symm
      rw [e1] at k1
      refine ⟨q, rfl, ⟨vs0, k1⟩, p1 S1 _ H1 .refl rel1 fun S2 s2 σ2 H2 st2 rel2 c => ?_⟩
      obtain ⟨vs, h1, h2⟩ := k S2 s2 σ2 H2 st2 rel2 c
      refine ⟨fun i d e => ?_, ⟨vs, h1, by rw [h2.length]; exact Nat.le_refl _⟩⟩
      obtain ⟨v, e1, e2⟩ := h2.get e
      refine ⟨⟨vs, v, h1, e1⟩, fun x H3 hy => ?_⟩
      obtain ⟨rfl, hy⟩ := hy
      have := hy vs h1
      rw [e1] at this; cases this
      exact ⟨S2, .refl, rel2, e2⟩
    · exact False.elim p1)
def mWT (m : Mo AI) : Mo Im := fun s => (mV m s).bind fun d s1 => match tupOf d with
  | some l => .ok ⟨l, none⟩ s1
  | none => .no
def enumL (l : List D) : List D := l.zipIdx.map fun p => .tup [.int ((p.2 : Nat) : Int), p.1]
def mWE (m : Mo (List D)) : Mo Im := fun s => (m s).bind fun ds s1 => match ds with
  | [d] => match listOf s1.M d with
    | some l => .ok ⟨enumL l, ckOf d l⟩ s1
    | none => .no
  | _ => .no
def zipL (l l' : List D) : List D := (l.zip l').map fun p => .tup [p.1, p.2]
/-- only what is frozen is walked two by two -/
def mWZ (m : Mo (List D)) : Mo Im := fun s => (m s).bind fun ds s1 => match ds with
  | [.lst l, .lst l'] => .ok ⟨zipL l l', none⟩ s1
  | [.lst l, .clst l'] => .ok ⟨zipL l l', none⟩ s1
  | [.clst l, .lst l'] => .ok ⟨zipL l l', none⟩ s1
  | _ => .no
def strL (x : Str) : List D := x.cps.toList.map fun c => .str ⟨#[c]⟩
def mWS (m : Mo AI) : Mo Im := fun s => (m s).bind fun a s1 => match a with
  | .val (.str x) => .ok ⟨strL x, none⟩ s1
  | _ => .no
open Classical in
noncomputable def forN (g : Tg) (b : Ms) (ck : Option (Nat × Cn)) : List D → Ms
  | [], s => if chk ck s then .nx s else .no
  | x :: xs, s => if chk ck s then (match g x s with
    | none => .no
    | some s1 => match b s1 with
      | .nx s2 => forN g b ck xs s2
      | .ct s2 => forN g b ck xs s2
      | .bk s2 => .nx s2
      | .rt a s2 => .rt a s2
      | .er x s2 => .er x s2
      | .no => .no) else .no
noncomputable def mFor (mi : Mo Im) (g : Tg) (b : Ms) : Ms := fun s => (mi s).toS fun im s1 => forN g b im.ck im.xs s1
theorem sv_for {js : List Nat} {wi : TI} {g : TG} {tb : TS} {mi : Mo Im} {f : Tg} {b : Ms} (hi : Jw K ct H0 W wi mi) (hg : Sg K ct H0 js g f) (hb : Sv K ct H0 W tb b) : Sv K ct H0 W (tFor wi g tb) (mFor mi f b) := fun S s σ H Dn rel p =>
  hi S s σ H _ rel (PstS.bind p fun S1 s1 H1 J im st1 rel1 wk p1 => by
    have p1 := PstS.from p1 st1
    generalize hR : forN f b im.ck im.xs s1 = R at p1
    refine ⟨fun i m σ' H' => m = im.xs.length - i ∧ ∃ S' s', Stp S1 s1.M.length H1 S' s'.M.length H' ∧ Rel K ct H0 S' s' σ' H' ∧ i ≤ im.xs.length ∧ forN f b im.ck (im.xs.drop i) s' = R, ⟨im.xs.length, rfl, S1, s1, .refl, rel1, Nat.zero_le _, hR⟩, ?_⟩
    rintro i m σ' H' ⟨rfl, S', s', st', rel', hi', hr⟩
    have nno : R ≠ .no := fun z => by rw [z] at p1; exact p1
    by_cases hlt : i < im.xs.length
    · have e := List.drop_eq_getElem_cons hlt
      rw [e] at hr
      have hx : im.xs[i]? = some im.xs[i] := List.getElem?_eq_getElem hlt
      generalize im.xs[i] = d at e hr hx
      unfold forN at hr
      have hc : chk im.ck s' := Classical.byContradiction fun z => by rw [if_neg z] at hr; exact nno hr.symm
      rw [if_pos hc] at hr
      obtain ⟨go, yl⟩ := (wk S' s' σ' H' st' rel' hc).1 i d hx
      refine .inr ⟨go, fun σ2 H2 => ∃ S2 s2, Stp S1 s1.M.length H1 S2 s2.M.length H2 ∧ Rel K ct H0 S2 s2 σ2 H2 ∧ forN f b im.ck (im.xs.drop (i + 1)) s2 = R, ?_, ?_⟩
      · rintro σ2 H2 ⟨S2, s2, k1, k2, k3⟩
        exact ⟨im.xs.length - (i + 1), by omega, rfl, S2, s2, k1, k2, hlt, k3⟩
      · intro x H2 hy
        obtain ⟨S2, st2, rel2, rp2⟩ := yl x H2 hy
        cases hs : f d s' with
        | none => rw [hs] at hr; exact absurd hr.symm nno
        | some s2 =>
          rw [hs] at hr
          refine hg S2 s' σ' H2 x d s2 _ rel2 rp2 hs fun S3 σ3 st3 rel3 _ _ _ => ?_
          have stt := (st'.trans st2).trans st3
          refine hb S3 s2 σ3 H2 _ rel3 ?_
          have hr : (match b s2 with | .nx s2 => forN f b im.ck (im.xs.drop (i + 1)) s2 | .ct s2 => forN f b im.ck (im.xs.drop (i + 1)) s2 | .bk s2 => .nx s2 | .rt a s2 => .rt a s2 | .er x s2 => .er x s2 | .no => .no) = R := hr
          cases hbs : b s2 with
          | nx s4 => rw [hbs] at hr; exact fun S4 σ4 H4 st4 rel4 => ⟨S4, s4, stt.trans st4, rel4, hr⟩
          | ct s4 => rw [hbs] at hr; exact fun S4 σ4 H4 st4 rel4 => ⟨S4, s4, stt.trans st4, rel4, hr⟩
          | bk s4 => rw [hbs] at hr; subst hr; exact fun S4 σ4 H4 st4 rel4 => p1 S4 σ4 H4 (stt.trans st4) rel4
          | rt a s4 => rw [hbs] at hr; subst hr; exact fun S4 σ4 v H4 st4 rel4 q => p1 S4 σ4 v H4 (stt.trans st4) rel4 q
          | er x s4 => rw [hbs] at hr; subst hr; exact fun S4 σ4 H4 dd st4 rel4 q => p1 S4 σ4 H4 dd (stt.trans st4) rel4 q
          | no => rw [hbs] at hr; exact absurd hr.symm nno
    · have e : im.xs.drop i = [] := List.drop_eq_nil_of_le (by omega)
      rw [e] at hr
      unfold forN at hr
      have hc : chk im.ck s' := Classical.byContradiction fun z => by rw [if_neg z] at hr; exact nno hr.symm
      rw [if_pos hc] at hr
      have ei : i = im.xs.length := by omega
      subst hr
      refine .inl ⟨?_, p1 S' σ' H' st' rel'⟩
      rw [ei]
      exact (wk S' s' σ' H' st' rel' hc).2)
end
end Y
namespace Y
open PySem L2 Z
def wipeE (env : List (Option Ent)) : List Nat → List (Option Ent)
  | [] => env
  | v :: vs => (wipeE env vs).set v none
def wipeS (ws : List Nat) (s : Stt) : Stt := ⟨wipeE s.env ws, s.M⟩
def kp : Option (Option Ent) → Option Ent
  | some (some (.fz d)) => some (.fz d)
  | _ => none
def rest (e0 e' : List (Option Ent)) : List Nat → List (Option Ent)
  | [] => e'
  | v :: vs => (rest e0 e' vs).set v (kp e0[v]?)
theorem rest_len {e0 e' : List (Option Ent)} : ∀ {ws : List Nat}, (rest e0 e' ws).length = e'.length
  | [] => rfl
  | v :: vs => by show ((rest e0 e' vs).set v _).length = _; rw [List.length_set]; exact rest_len
theorem rest_get {e0 e' : List (Option Ent)} {i : Nat} {en : Ent} : ∀ {ws : List Nat}, (rest e0 e' ws)[i]? = some (some en) → (∃ d, en = .fz d ∧ e0[i]? = some (some (.fz d))) ∨ (i ∉ ws ∧ e'[i]? = some (some en))
  | [], h => .inr ⟨by simp, h⟩
  | v :: vs, h => by
    have h1 : ((rest e0 e' vs).set v (kp e0[v]?))[i]? = some (some en) := h
    by_cases e : v = i
    · subst e
      have hl : v < (rest e0 e' vs).length := by
        have := (List.getElem?_eq_some_iff.mp h1).1
        rw [List.length_set] at this; exact this
      rw [List.getElem?_set_self hl] at h1
      have h2 : kp e0[v]? = some en := Option.some.inj h1
      unfold kp at h2
      split at h2
      · rename_i d q; cases h2; exact .inl ⟨d, rfl, q⟩
      · cases h2
    · rw [List.getElem?_set_ne e] at h1
      rcases rest_get h1 with k | ⟨k1, k2⟩
      · exact .inl k
      · exact .inr ⟨by simp; exact ⟨fun z => e z.symm, k1⟩, k2⟩
section
variable {K : PySem.W.Frag} {ct : Ct} {H0 : Hp} {W : WX} {S : Sh} {s : Stt} {σ : St} {H : Hp}
theorem Rel.setN2 {i : Nat} (r : Rel K ct H0 S s σ H) : Rel K ct H0 (S.un i) ⟨s.env.set i none, s.M⟩ (σ.set i none) H := by
  refine ⟨r.sub, fun a l q => r.lg a l (un_of q), r.dom, by rw [List.length_set]; show _ = (s.env.set i _).length; rw [List.length_set]; exact r.len, fun j en q => ?_, fun k c q => ?_⟩
  · have q1 : (s.env.set i none)[j]? = some (some en) := q
    by_cases z : i = j
    · subst z
      have hlt : i < s.env.length := by
        have := (List.getElem?_eq_some_iff.mp q1).1
        rw [List.length_set] at this; exact this
      rw [List.getElem?_set_self hlt] at q1
      cases q1
    · rw [List.getElem?_set_ne z] at q1
      have hh := r.slot j en q1
      cases en with
      | fz d' => obtain ⟨w, k1, k2⟩ := hh; exact ⟨w, by rw [List.getElem?_set_ne z]; exact k1, k2⟩
      | xn x => exact xn_mono (S := S) (n := s.M.length) (H := H) (fun _ _ e => e) (fun _ _ => rfl) (Nat.le_refl _) (List.getElem?_set_ne z) hh
      | ow c =>
        obtain ⟨p, k1, k2, k3, k4, k5⟩ := hh
        exact ⟨p, by rw [List.getElem?_set_ne z]; exact k1, k2, un_lab k3 (fun w => by cases w; exact z rfl), k4, cn_un k5⟩
  · obtain ⟨k1, k2⟩ := r.ids k c q
    exact ⟨un_lab k1 (fun w => by cases w), cn_un k2⟩
theorem Rel.wipe (r : Rel K ct H0 S s σ H) : ∀ ws : List Nat, ∃ S', Rel K ct H0 S' (wipeS ws s) (wipe σ ws) H ∧ Stp S s.M.length H S' s.M.length H ∧ S'.G = S.G ∧ S'.α = S.α ∧ ∀ a, S.lab a = none → S'.lab a = none
  | [] => ⟨S, r, .refl, rfl, rfl, fun _ h => h⟩
  | v :: vs => by
    obtain ⟨S', r', st, hg, ha, hl⟩ := r.wipe vs
    refine ⟨S'.un v, r'.setN2, st.trans .un, hg, ha, fun a h => ?_⟩
    show (if S'.lab a = some (.slot v) then none else S'.lab a) = none
    rw [hl a h]; rfl
theorem Rel.rest {S' : Sh} {s' : Stt} {H' : Hp} {ws : List Nat} (r0 : Rel K ct H0 S s σ H) (st : Stp S s.M.length H S' s'.M.length H') (r : Rel K ct H0 S' s' (L2.wipe σ ws) H') : Rel K ct H0 S' ⟨rest s.env s'.env ws, s'.M⟩ σ H' := by
  refine ⟨r.sub, r.lg, r.dom, by show _ = (Y.rest _ _ _).length; rw [rest_len, ← r.len, wipe_length], fun j en q => ?_, r.ids⟩
  rcases rest_get q with ⟨d, rfl, k⟩ | ⟨k1, k2⟩
  · obtain ⟨v, h1, h2⟩ := r0.slot j _ k
    exact ⟨v, h1, h2.step st⟩
  · have hh := r.slot j en k2
    cases en with
    | fz d => obtain ⟨v, h1, h2⟩ := hh; exact ⟨v, by rw [← wipe_out k1]; exact h1, h2⟩
    | xn x => exact xn_mono (S := S') (n := s'.M.length) (H := H') (fun _ _ e => e) (fun _ _ => rfl) (Nat.le_refl _) (wipe_out k1).symm hh
    | ow c => obtain ⟨p, h1, h2, h3, h4, h5⟩ := hh; exact ⟨p, by rw [← wipe_out k1]; exact h1, h2, h3, h4, h5⟩
/-- what nobody has is changed -/
theorem Rel.updU {p : Addr} {o : HO} (r : Rel K ct H0 S s σ H) (hl : S.lab p = none) (hg : S.G p = none) : Rel K ct H0 S s σ (upd H p o) := by
  have cn : ∀ {a : Addr} {c : Cn} {l : Lab}, S.lab a = some l → CnOk K ct S s.M.length H a c → CnOk K ct S s.M.length (upd H p o) a c := fun {a c l} q h => h.mono (fun _ _ e => e) (fun _ _ => rfl) (Nat.le_refl _) (fun _ e => by rw [upd_ne (fun z => by subst z; rw [hl] at q; cases q)]; exact e)
  refine ⟨fun a u e => by rw [U_ne (ne_of_none e hg)]; exact r.sub a u e, fun a l e => ?_, fun a e => r.dom a (upd_none.mp e).2, r.len, fun i e h => ?_, fun k c h => ?_⟩
  · obtain ⟨h1, u, h2, h3⟩ := r.lg a l e
    exact ⟨h1, u, by rw [upd_ne (fun z => by subst z; rw [hl] at e; cases e)]; exact h2, h3⟩
  · have q := r.slot i e h
    cases e with
    | fz d => exact q
    | xn x => exact xn_mono (S := S) (n := s.M.length) (H := H) (fun _ _ e => e) (fun _ _ => rfl) (Nat.le_refl _) rfl q
    | ow c =>
      obtain ⟨a, h1, h2, h3, h4, h5⟩ := q
      exact ⟨a, h1, h2, h3, h4, cn h3 h5⟩
  · obtain ⟨h1, h2⟩ := r.ids k c h
    exact ⟨h1, cn h1 h2⟩
theorem Stp.updNew {S' : Sh} {n n' : Nat} {H' : Hp} {p : Addr} {o : HO} (t : Stp S n H S' n' H') (hp : H p = none) : Stp S n H S' n' (upd H' p o) where
  g := t.g
  le := t.le
  al := t.al
  fr := fun a u h l => by
    obtain ⟨h1, h2⟩ := t.fr a u h l
    exact ⟨by rw [upd_ne (ne_of_none h hp)]; exact h1, h2⟩
  gn := t.gn
  fz := fun a od u h => by rw [upd_ne (ne_of_none h hp)]; exact t.fz a od u h
  dom := fun a e => t.dom a (upd_none.mp e).2
def W0 : WX := fun _ _ _ _ => False
open Classical in
noncomputable def lcN (ws : List Nat) (g : Tg) (c : Mo Bool) (e : Mo D) (ck : Option (Nat × Cn)) : List D → List D → Mo (List D)
  | [], acc, s => if chk ck s then .ok acc s else .no
  | x :: xs, acc, s => if chk ck s then (match g x s with
    | none => .no
    | some s1 => match c s1 with
      | .ok b s2 => if b = true then (match e s2 with
        | .ok d s3 => if acc.length < sizeLine then lcN ws g c e ck xs (acc ++ [d]) (wipeS ws s3) else .no
        | _ => .no) else lcN ws g c e ck xs acc (wipeS ws s2)
      | _ => .no) else .no
noncomputable def mLc (ws : List Nat) (mi : Mo Im) (g : Tg) (c : Mo Bool) (e : Mo AI) : Mo AI := fun s => (mi s).bind fun im s1 => match lcN ws g c (mV e) im.ck im.xs [] (wipeS ws s1) with
  | .ok l s2 => .ok (.new (.lst l)) ⟨rest s1.env s2.env ws, s2.M⟩
  | _ => .no
def mYes : Mo Bool := fun s => .ok true s
theorem et_yes : Et K ct H0 W tYes mYes := fun S s σ H Q rel p => p S true H .refl rel rfl
theorem ei_lcAt {js ws : List Nat} {wi : TI} {g : TG} {tt : TT} {te : TE} {mi : Mo Im} {f : Tg} {c : Mo Bool} {e : Mo AI} {S : Sh} {s : Stt} {σ : St} {H : Hp} {Q : VK} (hi : ∀ R, Pst K ct H0 (RW K ct H0) W S s σ H R (mi s) → wi σ H R) (hg : Sg K ct H0 js g f) (hjs : ∀ j ∈ js, j ∈ ws) (hc : Et K ct H0 W0 tt c) (he : Ei K ct H0 W0 te e)
    (p : Pst K ct H0 (RI K ct) W S s σ H Q (mLc ws mi f c e s)) : tLc wi g tt te ws σ H Q :=
  hi _ (Pst.bind bI p fun S1 s1 H1 J im st1 rel1 wk p1 => by
    intro D hD
    generalize hR : lcN ws f c (mV e) im.ck im.xs [] (wipeS ws s1) = R at p1
    cases R with
    | no => exact False.elim p1
    | er x s2 => exact False.elim p1
    | ok l s2 =>
      have p1 : Pst K ct H0 (RI K ct) W S1 s1 σ H1 Q (.ok (.new (.lst l)) ⟨rest s1.env s2.env ws, s2.M⟩) := p1
      obtain ⟨S1', rel1', st1', hg1, ha1, hl1⟩ := rel1.wipe ws
      refine ⟨fun i m H' => m = im.xs.length - i ∧ i ≤ im.xs.length ∧ ∃ S' s' acc accV, Stp S1 s1.M.length H1 S' s'.M.length H' ∧ Rel K ct H0 S' s' (wipe σ ws) H' ∧ H' D = some (.lst accV) ∧ S'.lab D = none ∧ S'.G D = none ∧ RpL K S'.G S'.α s'.M.length accV acc ∧ lcN ws f c (mV e) im.ck (im.xs.drop i) acc s' = .ok l s2, ⟨im.xs.length, rfl, Nat.zero_le _, S1', wipeS ws s1, [], [], st1'.updNew hD, rel1'.new hD, upd_same, rel1'.labN hD, rel1'.gN hD, .nil, hR⟩, ?_⟩
      rintro i m H' ⟨rfl, hi', S', s', acc, accV, st', rel', hDl, hDlab, hDg, rl, hr⟩
      by_cases hlt : i < im.xs.length
      · have ex := List.drop_eq_getElem_cons hlt
        rw [ex] at hr
        have hx : im.xs[i]? = some im.xs[i] := List.getElem?_eq_getElem hlt
        generalize im.xs[i] = d at ex hr hx
        unfold lcN at hr
        have hck : chk im.ck s' := Classical.byContradiction fun z => by rw [if_neg z] at hr; cases hr
        rw [if_pos hck] at hr
        obtain ⟨go, yl⟩ := (wk S' s' _ H' st' rel' hck).1 i d hx
        refine .inr ⟨go, fun H2 => ∃ S2 s3 acc accV, Stp S1 s1.M.length H1 S2 s3.M.length H2 ∧ Rel K ct H0 S2 s3 (wipe σ ws) H2 ∧ H2 D = some (.lst accV) ∧ S2.lab D = none ∧ S2.G D = none ∧ RpL K S2.G S2.α s3.M.length accV acc ∧ lcN ws f c (mV e) im.ck (im.xs.drop (i + 1)) acc s3 = .ok l s2, ?_, ?_⟩
        · rintro H2 ⟨S2, s3, acc', accV', k⟩
          exact ⟨im.xs.length - (i + 1), by omega, rfl, hlt, S2, s3, acc', accV', k⟩
        · intro x H2 hy
          obtain ⟨S2, st2, rel2, rp2⟩ := yl x H2 hy
          cases hs : f d s' with
          | none => rw [hs] at hr; cases hr
          | some s3 =>
            rw [hs] at hr
            refine hg S2 s' _ H2 x d s3 _ rel2 rp2 hs fun S3 σ3 st3 rel3 kk _ _ => ?_
            have hw : wipe σ3 ws = wipe σ ws := by
              rw [kk ws hjs]
              refine List.ext_getElem? fun k => ?_
              by_cases hk : k ∈ ws
              · by_cases hl : k < σ.length
                · rw [wipe_in hk (by rw [wipe_length]; exact hl), wipe_in hk hl]
                · rw [List.getElem?_eq_none_iff.mpr (by rw [wipe_length, wipe_length]; omega), List.getElem?_eq_none_iff.mpr (by rw [wipe_length]; omega)]
              · rw [wipe_out hk]
            refine ⟨hw, ?_⟩
            have stt := (st'.trans st2).trans st3
            have str := (st2.trans st3)
            obtain ⟨d3, l3⟩ := str.fr D _ hDl hDlab
            refine hc S3 s3 σ3 H2 _ rel3 ?_
            have hr : (match c s3 with | .ok b s2 => if b = true then (match mV e s2 with | .ok d s3 => if acc.length < sizeLine then lcN ws f c (mV e) im.ck (im.xs.drop (i + 1)) (acc ++ [d]) (wipeS ws s3) else .no | _ => .no) else lcN ws f c (mV e) im.ck (im.xs.drop (i + 1)) acc (wipeS ws s2) | _ => .no) = Ro.ok l s2 := hr
            have gD : ∀ {Sx : Sh} {nx : Nat} {Hx : Hp}, Stp S' s'.M.length H' Sx nx Hx → Sx.G D = none := fun {Sx nx Hx} t => by
              cases q : Sx.G D with
              | none => rfl
              | some u =>
                rcases t.gn D u q with z | z | ⟨lb, z⟩ | ⟨us, z⟩
                · rw [hDg] at z; cases z
                · rw [hDl] at z; cases z
                · rw [hDlab] at z; cases z
                · rw [hDl] at z; cases z
            cases hcs : c s3 with
            | no => rw [hcs] at hr; cases hr
            | er x s4 => rw [hcs] at hr; cases hr
            | ok b s4 =>
              rw [hcs] at hr
              intro S4 b' H4 st4 rel4 eb
              have eb : b' = b := eb
              rw [eb]
              have str4 := str.trans st4
              obtain ⟨d4, l4⟩ := str4.fr D _ hDl hDlab
              cases b with
              | false =>
                rw [if_neg Bool.false_ne_true]
                have hr : lcN ws f c (mV e) im.ck (im.xs.drop (i + 1)) acc (wipeS ws s4) = .ok l s2 := hr
                obtain ⟨S5, rel5, st5, hg5, ha5, hl5⟩ := rel4.wipe ws
                rw [hw] at rel5
                exact ⟨S5, wipeS ws s4, acc, accV, (stt.trans st4).trans st5, rel5, d4, hl5 _ l4, gD (str4.trans st5), rl.step (str4.trans st5), hr⟩
              | true =>
                rw [if_pos rfl]
                have hr : (match mV e s4 with | .ok d s3 => if acc.length < sizeLine then lcN ws f c (mV e) im.ck (im.xs.drop (i + 1)) (acc ++ [d]) (wipeS ws s3) else .no | _ => .no) = Ro.ok l s2 := hr
                refine ev_of he S4 s4 σ3 H4 _ rel4 ?_
                cases hes : mV e s4 with
                | no => rw [hes] at hr; cases hr
                | er x s5 => rw [hes] at hr; cases hr
                | ok d' s5 =>
                  rw [hes] at hr
                  have hr : (if acc.length < sizeLine then lcN ws f c (mV e) im.ck (im.xs.drop (i + 1)) (acc ++ [d']) (wipeS ws s5) else .no) = Ro.ok l s2 := hr
                  intro S5 y H5 st5 rel5 rp5
                  have str5 := str4.trans st5
                  obtain ⟨d5, l5⟩ := str5.fr D _ hDl hDlab
                  split at hr
                  · rename_i hz
                    refine ⟨accV, d5, by rw [rl.length]; exact hz, ?_⟩
                    have rel6 := rel5.updU (o := .lst (accV ++ [y])) l5 (gD str5)
                    obtain ⟨S7, rel7, st7, hg7, ha7, hl7⟩ := rel6.wipe ws
                    rw [hw] at rel7
                    have rl7 : RpL K S7.G S7.α (wipeS ws s5).M.length (accV ++ [y]) (acc ++ [d']) := by
                      rw [hg7, ha7]
                      exact (rl.step str5).append (.cons rp5 .nil)
                    exact ⟨S7, wipeS ws s5, acc ++ [d'], accV ++ [y], (((stt.trans st4).trans st5).updNew hD).trans st7, rel7, upd_same, hl7 _ l5, by rw [hg7]; exact gD str5, rl7, hr⟩
                  · cases hr
      · have ex : im.xs.drop i = [] := List.drop_eq_nil_of_le (by omega)
        rw [ex] at hr
        unfold lcN at hr
        have hck : chk im.ck s' := Classical.byContradiction fun z => by rw [if_neg z] at hr; cases hr
        rw [if_pos hck] at hr
        cases hr
        have ei : i = im.xs.length := by omega
        refine .inl ⟨by rw [ei]; exact (wk S' _ _ H' st' rel' hck).2, ?_⟩
        exact p1 S' _ H' st' (rel1.rest st' rel') ⟨D, rfl, hD, hDlab, hDg, rfl, accV, hDl, rl⟩)
theorem ei_lc {js ws : List Nat} {wi : TI} {g : TG} {tt : TT} {te : TE} {mi : Mo Im} {f : Tg} {c : Mo Bool} {e : Mo AI} (hi : Jw K ct H0 W wi mi) (hg : Sg K ct H0 js g f) (hjs : ∀ j ∈ js, j ∈ ws) (hc : Et K ct H0 W0 tt c) (he : Ei K ct H0 W0 te e) :
    Ei K ct H0 W (tLc wi g tt te ws) (mLc ws mi f c e) := fun S s σ H Q rel p => ei_lcAt (fun R q => hi S s σ H R rel q) hg hjs hc he p
def FPst (K : PySem.W.Frag) (ct : Ct) (S : Sh) (M : List Cn) (H : Hp) (Q : VK) (E : XK) : Fr → Prop
  | .ok a M' => ∀ S' v H', Stp S M.length H S' M'.length H' → Rel K ct H S' ⟨[], M'⟩ [] H' → ItOk K ct H S' ⟨[], M'⟩ [] H' v a → Q v H'
  | .er x M' => ∀ S' H' dd, Stp S M.length H S' M'.length H' → Rel K ct H S' ⟨[], M'⟩ [] H' → XOk K S' M'.length H' x dd → E (.ref (ct x.cls)) dd H'
  | .no => False
/-- a def's promise -/
def spM (K : PySem.W.Frag) (ct : Ct) (f : Mf) : Sp := fun vs H Q E => ∃ S M ds, Rel K ct H S ⟨[], M⟩ [] H ∧ RpL K S.G S.α M.length vs ds ∧ FPst K ct S M H Q E (f ds M)
/-- np parameters, n slots -/
def mFn (np n : Nat) (body : Ms) : Mf := fun ds M => if ds.length = np then (match body ⟨ds.map (fun d => some (.fz d)) ++ List.replicate (n - ds.length) none, M⟩ with
  | .nx s => .ok (.val .non) s.M
  | .rt a s => .ok a s.M
  | .er x s => .er x s.M
  | _ => .no) else .no
theorem sp_len {np n : Nat} {body : Ms} {vs : List V} {Q : VK} {E : XK} (h : spM K ct (mFn np n body) vs H Q E) : vs.length = np := by
  obtain ⟨S, M, ds, _, r, h⟩ := h
  rw [r.length]
  unfold mFn at h
  split at h
  · assumption
  · exact False.elim h
theorem Rel.enter {vs : List V} {ds : List D} {N : List Str} {M : List Cn} (r : Rel K ct H S ⟨[], M⟩ [] H) (h : RpL K S.G S.α M.length vs ds) : Rel K ct H S ⟨ds.map (fun d => some (.fz d)) ++ List.replicate (N.length - ds.length) none, M⟩ (start N vs) H := by
  refine ⟨r.sub, r.lg, r.dom, ?_, fun i e q => ?_, r.ids⟩
  · show (vs.map some ++ List.replicate (N.length - vs.length) none).length = (ds.map _ ++ List.replicate _ none).length
    simp only [List.length_append, List.length_map, List.length_replicate, h.length]
  · have q1 : (ds.map (fun d => some (Ent.fz d)) ++ List.replicate (N.length - ds.length) none)[i]? = some (some e) := q
    by_cases hl : i < ds.length
    · rw [List.getElem?_append_left (by rw [List.length_map]; exact hl), List.getElem?_map] at q1
      obtain ⟨d, e1, e2⟩ := Option.map_eq_some_iff.mp q1
      cases e2
      obtain ⟨v, h1, h2⟩ := h.get e1
      refine ⟨v, ?_, h2⟩
      show (vs.map some ++ List.replicate (N.length - vs.length) none)[i]? = _
      rw [List.getElem?_append_left (by rw [List.length_map, h.length]; exact hl), List.getElem?_map, h1]; rfl
    · rw [List.getElem?_append_right (by rw [List.length_map]; omega), List.getElem?_replicate] at q1
      split at q1
      · cases q1
      · cases q1
theorem Rel.leave (r : Rel K ct H0 S s σ H) : Rel K ct H0 S ⟨[], s.M⟩ [] H := ⟨r.sub, r.lg, r.dom, rfl, fun i e q => by simp at q, r.ids⟩
/-- the body keeps the promise -/
theorem fn_run {N : List Str} {np : Nat} {t : TS} {body : Ms} {vs : List V} {Q : VK} {E : XK} (hb : Sv K ct H (fun cls dd _ H' => E cls dd H') t body) (h : spM K ct (mFn np N.length body) vs H Q E) : t { nx := fun _ H' => Q .non H', rt := Q } (start N vs) H := by
  obtain ⟨S, M, ds, r, rp, h⟩ := h
  refine hb S _ _ H _ (r.enter rp) ?_
  unfold mFn at h
  split at h
  rotate_left
  · exact False.elim h
  generalize hR : body ⟨ds.map (fun d => some (.fz d)) ++ List.replicate (N.length - ds.length) none, M⟩ = R at h
  cases R with
  | nx s => exact fun S' σ' H' st rel => h S' .non H' st rel.leave .non
  | rt a s => exact fun S' σ' v H' st rel i => h S' v H' st rel.leave (by
      cases a with
      | val d => exact i
      | new c => exact i
      | slot j => simp [ItOk] at i)
  | er x s => exact fun S' σ' H' dd st rel q => h S' H' dd st rel.leave q
  | bk s => exact False.elim h
  | ct s => exact False.elim h
  | no => exact False.elim h
def Sh.hide (S : Sh) : Sh := ⟨S.G, S.α, fun a => match S.lab a with
  | some (.slot _) => none
  | l => l⟩
def Sh.back (S S' : Sh) : Sh := ⟨S'.G, S'.α, fun a => match S.lab a with
  | some (.slot i) => some (.slot i)
  | _ => match S'.lab a with
    | some (.slot _) => none
    | l => l⟩
theorem hide_of {a : Addr} {l : Lab} (h : S.hide.lab a = some l) : S.lab a = some l ∧ ∀ i, l ≠ .slot i := by
  have h1 : (match S.lab a with | some (.slot _) => none | l => l) = some l := h
  split at h1
  · cases h1
  · rename_i hn; exact ⟨h1, fun i z => by subst z; exact hn i h1⟩
theorem hide_id {a : Addr} {k : Nat} (h : S.lab a = some (.id k)) : S.hide.lab a = some (.id k) := by
  show (match S.lab a with | some (.slot _) => none | l => l) = _
  rw [h]
theorem hide_none {a : Addr} (h : S.lab a = none) : S.hide.lab a = none := by
  show (match S.lab a with | some (.slot _) => none | l => l) = _
  rw [h]
theorem hide_slot {a : Addr} {i : Nat} (h : S.lab a = some (.slot i)) : S.hide.lab a = none := by
  show (match S.lab a with | some (.slot _) => none | l => l) = _
  rw [h]
theorem back_slot {S' : Sh} {a : Addr} {i : Nat} (h : S.lab a = some (.slot i)) : (S.back S').lab a = some (.slot i) := by
  show (match S.lab a with | some (.slot i) => some (Lab.slot i) | _ => (match S'.lab a with | some (.slot _) => none | l => l)) = _
  rw [h]
theorem back_else {S' : Sh} {a : Addr} (h : ∀ i, S.lab a ≠ some (.slot i)) : (S.back S').lab a = (match S'.lab a with | some (.slot _) => none | l => l) := by
  show (match S.lab a with | some (.slot i) => some (Lab.slot i) | _ => (match S'.lab a with | some (.slot _) => none | l => l)) = _
  split
  · rename_i i e; exact absurd e (h i)
  · rfl
theorem Rel.hide (r : Rel K ct H0 S s σ H) : Rel K ct H S.hide ⟨[], s.M⟩ [] H := ⟨r.sub, fun a l q => r.lg a l (hide_of q).1, fun _ h => h, rfl, fun i e q => by simp at q, fun k c q => ⟨hide_id (r.ids k c q).1, (r.ids k c q).2.mono (fun _ _ e => e) (fun _ _ => rfl) (Nat.le_refl _) (fun _ e => e)⟩⟩
theorem Rel.back {S' : Sh} {M' : List Cn} {H' : Hp} (r : Rel K ct H0 S s σ H) (st : Stp S.hide s.M.length H S' M'.length H') (r' : Rel K ct H S' ⟨[], M'⟩ [] H') :
    Rel K ct H0 (S.back S') ⟨s.env, M'⟩ σ H' ∧ Stp S s.M.length H (S.back S') M'.length H' := by
  have slot_keep : ∀ {a : Addr} {i : Nat}, S.lab a = some (.slot i) → (∀ o, H a = some o → H' a = some o) ∧ S'.G a = none ∧ S'.lab a = none := fun {a i} h => by
    obtain ⟨hg, o, ho, hnt⟩ := r.lg a _ h
    have k := st.fr a o ho (hide_slot h)
    refine ⟨fun u hu => (st.fr a u hu (hide_slot h)).1, ?_, k.2⟩
    cases q : S'.G a with
    | none => rfl
    | some u =>
      rcases st.gn a u q with z | z | ⟨l, z⟩ | ⟨us, z⟩
      · have z : S.G a = some u := z; rw [hg] at z; cases z
      · rw [ho] at z; cases z
      · rw [hide_slot h] at z; cases z
      · rw [ho] at z; cases z; exact absurd rfl (hnt us)
  have cn : ∀ {a : Addr} {c : Cn}, CnOk K ct S' M'.length H' a c → CnOk K ct (S.back S') M'.length H' a c := fun {a c} h => h.mono (fun _ _ e => e) (fun _ _ => rfl) (Nat.le_refl _) (fun _ e => e)
  refine ⟨⟨r'.sub, fun a l q => ?_, fun a h => r.dom a (st.dom a h), r.len, fun i e q => ?_, fun k c q => ?_⟩, ⟨st.g, st.le, st.al, fun a o h l => ?_, fun a o q => ?_, st.dom, st.fz⟩⟩
  · by_cases hs : ∃ i, S.lab a = some (.slot i)
    · obtain ⟨i, hs⟩ := hs
      obtain ⟨_, o, ho, hnt⟩ := r.lg a _ hs
      obtain ⟨k1, k2, k3⟩ := slot_keep hs
      exact ⟨k2, o, k1 o ho, hnt⟩
    · rw [back_else (fun i z => hs ⟨i, z⟩)] at q
      split at q
      · cases q
      · exact r'.lg a l q
  · have hh := r.slot i e q
    cases e with
    | fz d => obtain ⟨v, h1, h2⟩ := hh; exact ⟨v, h1, h2.mono st.g st.al st.le⟩
    | xn x => exact xn_mono (S := S) (n := s.M.length) (H := H) st.g st.al st.le rfl hh
    | ow c =>
      obtain ⟨p, h1, h2, h3, h4, h5⟩ := hh
      obtain ⟨k1, k2, k3⟩ := slot_keep h3
      exact ⟨p, h1, h2, back_slot h3, h4, h5.mono st.g st.al st.le k1⟩
  · obtain ⟨k1, k2⟩ := r'.ids k c q
    refine ⟨?_, cn k2⟩
    have hne : ∀ i, S.lab (S'.α k) ≠ some (.slot i) := fun i z => by
      have := (slot_keep z).2.2
      rw [k1] at this; cases this
    show (S.back S').lab (S'.α k) = _
    rw [back_else hne, k1]
  · obtain ⟨h1, h2⟩ := st.fr a o h (hide_none l)
    refine ⟨h1, ?_⟩
    rw [back_else (fun i z => by rw [l] at z; cases z), h2]
  · rcases st.gn a o q with z | z | ⟨l, z⟩ | z
    · exact .inl z
    · exact .inr (.inl z)
    · exact .inr (.inr (.inl ⟨l, (hide_of z).1⟩))
    · exact .inr (.inr (.inr z))
def mCall (f : Mf) (m : Mo (List D)) : Mo AI := fun s => (m s).bind fun ds s1 => match f ds s1.M with
  | .ok a M' => .ok a ⟨s1.env, M'⟩
  | .er x M' => .er x ⟨s1.env, M'⟩
  | .no => .no
/-- .. where it doesn't raise -/
def mCallN (f : Mf) (m : Mo (List D)) : Mo AI := fun s => (m s).bind fun ds s1 => match f ds s1.M with
  | .ok a M' => .ok a ⟨s1.env, M'⟩
  | _ => .no
theorem fpst_of {f : Fr} {E : XK} {Q : VK} (rel : Rel K ct H0 S s σ H) (hE : ∀ x M', f = .er x M' → ∀ S' H' dd, Stp S s.M.length H S' M'.length H' → Rel K ct H0 S' ⟨s.env, M'⟩ σ H' → XOk K S' M'.length H' x dd → E (.ref (ct x.cls)) dd H')
    (hQ : ∀ a M', f = .ok a M' → ∀ S' v H', Stp S s.M.length H S' M'.length H' → Rel K ct H0 S' ⟨s.env, M'⟩ σ H' → ItOk K ct H S' ⟨s.env, M'⟩ σ H' v a → Q v H') (hn : f ≠ .no) : FPst K ct S.hide s.M H Q E f := by
  cases f with
  | no => exact absurd rfl hn
  | er x M' =>
      intro S' H' dd st r' xo
      obtain ⟨k1, k2⟩ := rel.back st r'
      exact hE x M' rfl (S.back S') H' dd k2 k1 xo
  | ok a M' =>
      intro S' v H' st r' it
      obtain ⟨k1, k2⟩ := rel.back st r'
      refine hQ a M' rfl (S.back S') v H' k2 k1 ?_
      cases a with
      | val d => exact it
      | slot j => simp [ItOk] at it
      | new c =>
        obtain ⟨p, rfl, h1, h2, h3, h4, h5⟩ := it
        refine ⟨p, rfl, h1, ?_, h3, h4, h5.mono (fun _ _ e => e) (fun _ _ => rfl) (Nat.le_refl _) (fun _ e => e)⟩
        rw [back_else (fun i z => by have := rel.labN h1; rw [z] at this; cases this), h2]
theorem ei_callN {f : Mf} {E : XK} {t : TA} {m : Mo (List D)} (h : EvL K ct H0 W t m) : Ei K ct H0 W (tCallZ (spM K ct f) E t) (mCallN f m) := fun S s σ H Q rel p =>
  h S s σ H _ rel (Pst.bind bI p fun S1 s1 H1 vs ds st1 rel1 i1 p1 => ⟨S1.hide, s1.M, ds, rel1.hide, i1, by
    generalize hf : f ds s1.M = r at p1
    cases r with
    | no => exact False.elim p1
    | er x M' => exact False.elim p1
    | ok a M' => exact fpst_of rel1 (fun x M' e => by cases e) (fun a' M'' e S' v H' st rl it => by cases e; exact p1 S' v H' st rl it) (fun e => by cases e)⟩)
theorem ei_callS {f : Mf} {t : TA} {m : Mo (List D)} (h : EvL K ct H0 W t m) : Ei K ct H0 W (tCallS (spM K ct f) (WE W) t) (mCall f m) := fun S s σ H Q rel p =>
  h S s σ H _ rel (Pst.bind bI p fun S1 s1 H1 vs ds st1 rel1 i1 p1 => ⟨S1.hide, s1.M, ds, rel1.hide, i1, by
    generalize hf : f ds s1.M = r at p1
    cases r with
    | no => exact False.elim p1
    | er x M' => exact fpst_of rel1 (fun x' M'' e S' H' dd st rl xo => by cases e; exact p1 S' H' dd st rl xo) (fun a' M'' e => by cases e) (fun e => by cases e)
    | ok a M' => exact fpst_of rel1 (fun x M' e => by cases e) (fun a' M'' e S' v H' st rl it => by cases e; exact p1 S' v H' st rl it) (fun e => by cases e)⟩)
end
end Y
namespace Y
open PySem L2 Z
section
variable {X : Cx}
theorem PSet.or {t t' : TSet} (h : PSet X t) (h' : PSet X t') : PSet X (fun o i v H Q => t o i v H Q ∨ t' o i v H Q) := by
  intro pins s σ H o i v ov iv u Q I ro ri rv q
  rcases q with q | q
  · exact h pins s σ H o i v ov iv u Q I ro ri rv q
  · exact h' pins s σ H o i v ov iv u Q I ro ri rv q
end
section
variable {K : PySem.W.Frag} {ct : Ct} {H0 : Hp} {W : WX} {S : Sh} {s : Stt} {σ : St} {H : Hp}
theorem cr_ty {n : String} : CR K (.ty n) (.ty n) := fun _ _ _ => .ty n
def fNeg : Stt → AI → Ro AI := fun s a => match a with
  | .val (.int i) => .ok (.val (.int (-i))) s
  | _ => .no
theorem j_neg : J1 K ct H0 (rU fun i => .int (-i)) fNeg := fun W S s σ H Hs x a Q rel ia p => by
  unfold fNeg at p
  split at p
  · rename_i i
    cases rp_int ia
    exact ⟨i, rfl, p.val rel (.int _)⟩
  · exact False.elim p
def fInt (s : Stt) (as : List AI) : Ro AI := match as with
  | [.val (.int i)] => .ok (.val (.int i)) s
  | [.val (.bl k)] => .ok (.val (.int (if k then 1 else 0))) s
  | [.val (.str x)] => match PySem.intText? x with
    | some n => if x.length ≤ 640 then .ok (.val (.int n)) s else .no
    | none => .no
  | _ => .no
def mAug (i : Nat) (f : Int → Int → Int) (m : Mo AI) : Ms := fun s => match entAt s i with
  | some (.fz (.int x)) => (m s).toS fun a s1 => match a with
    | .val (.int y) => .nx ⟨s1.env.set i (some (.fz (.int (f x y)))), s1.M⟩
    | _ => .no
  | _ => .no
def keyOf : D → Option Key
  | .int i => some (.inl i)
  | .str x => some (.inr x)
  | _ => none
/-- o[i] = d -/
def setIt (a : AI) (i d : D) (s : Stt) : Option Stt := match getC s a with
  | some (.lst l) => match i with
    | .int k => (ixN l.length k).map fun j => setC s a (.lst (l.set j d))
    | _ => none
  | some (.dK l) => (keyOf i).bind fun k => if l.length < sizeLine then some (setC s a (.dK (pu l k d))) else none
  | _ => none
def mAsgS (mo mi : Mo AI) (mv : Mo AI) : Ms := fun s => (mV mv s).toS fun d s1 => (mo s1).toS fun a s2 => (mV mi s2).toS fun i s3 => match setIt a i d s3 with
  | some s4 => .nx s4
  | none => .no
def mDNew : Mo AI := fun s => .ok (.new (.dK [])) s
/-- d.pop(k), k is there -/
def fPop (s : Stt) (a : AI) (i : D) : Ro AI := match getC s a with
  | some (.dK l) => match (keyOf i).bind fun k => (vl l k).map fun d => (k, d) with
    | some (k, d) => .ok (.val d) (setC s a (.dK (dr l k)))
    | none => .no
  | _ => .no
def mPop (mo mi : Mo AI) : Mo AI := fun s => (mo s).bind fun a s1 => match viewD s1 a with
  | some _ => (mV mi s1).bind fun i s2 => fPop s2 a i
  | none => .no
/-- d.get(k), d.get(k, x) -/
def fGet (s : Stt) (a : AI) (i x : D) : Ro AI := match viewD s a with
  | some l => match keyOf i with
    | some k => .ok (.val ((vl l k).getD x)) s
    | none => .no
  | none => .no
def mGet2 (mo mi mx : Mo AI) : Mo AI := fun s => (mo s).bind fun a s1 => match viewD s1 a with
  | some _ => (mV mi s1).bind fun i s2 => (mV mx s2).bind fun x s3 => fGet s3 a i x
  | none => .no
end
end Y
namespace Y
open PySem L2 Z
theorem rpl_ints {K : PySem.W.Frag} {G : Hp} {α : Nat → Addr} {n : Nat} : ∀ ns : List Int, RpL K G α n (ns.map V.int) (ns.map D.int)
  | [] => .nil
  | i :: ns => .cons (.int i) (rpl_ints ns)
end Y
namespace Y
open PySem L2 Z
def So {α : Type} (P : α → Prop) : Option α → Prop
  | some s => P s
  | none => False
def Ok {α : Type} (P : α → Stt → Prop) : Ro α → Prop
  | .ok a s => P a s
  | _ => False
def Fo (P : AI → List Cn → Prop) : Fr → Prop
  | .ok a M => P a M
  | _ => False
theorem chk_none {s : Stt} : chk none s := trivial
theorem forN_nil {g : Tg} {b : Ms} {s : Stt} : forN g b none [] s = .nx s := by unfold forN; rw [if_pos chk_none]
theorem forN_cons {g : Tg} {b : Ms} {s s1 : Stt} {x : D} {xs : List D} (h : g x s = some s1) : forN g b none (x :: xs) s = (match b s1 with
      | .nx s2 => forN g b none xs s2
      | .ct s2 => forN g b none xs s2
      | .bk s2 => .nx s2
      | .rt a s2 => .rt a s2
      | .er x s2 => .er x s2
      | .no => .no) := by
  conv => lhs; unfold forN
  rw [if_pos chk_none, h] <;> rfl
/-- .. by an invariant (the state may change; what is told of the items) -/
theorem lc_inv {ws : List Nat} {g : Tg} {e : Mo D} {s : Stt} {xs : List D} (P : Nat → List D → Stt → Prop) (acc : List D) (h0 : P 0 acc s) (hz : acc.length + xs.length ≤ sizeLine) (h : ∀ i x acc s, xs[i]? = some x → P i acc s → So (fun s1 => Ok (fun d s2 => P (i + 1) (acc ++ [d]) (wipeS ws s2)) (e s1)) (g x s)) : ∃ l s', lcN ws g mYes e none xs acc s = .ok l s' ∧ P xs.length l s' := by
  induction xs generalizing P acc s with
  | nil => exact ⟨acc, s, by unfold lcN; rw [if_pos chk_none], h0⟩
  | cons x xs ih =>
    have h1 := h 0 x acc s rfl h0
    unfold lcN
    rw [if_pos chk_none]
    cases hg : g x s with
    | none => rw [hg] at h1; exact False.elim h1
    | some s1 =>
      rw [hg] at h1
      have h1 : Ok (fun d s2 => P 1 (acc ++ [d]) (wipeS ws s2)) (e s1) := h1
      show ∃ l s', (if true = true then (match e s1 with | .ok d s3 => if acc.length < sizeLine then lcN ws g mYes e none xs (acc ++ [d]) (wipeS ws s3) else .no | _ => .no) else _) = _ ∧ _
      rw [if_pos rfl]
      cases he : e s1 with
      | no => rw [he] at h1; exact False.elim h1
      | er x s2 => rw [he] at h1; exact False.elim h1
      | ok d s2 =>
        rw [he] at h1
        have hl : acc.length < sizeLine := by rw [List.length_cons] at hz; omega
        show ∃ l s', (if acc.length < sizeLine then lcN ws g mYes e none xs (acc ++ [d]) (wipeS ws s2) else .no) = _ ∧ _
        rw [if_pos hl]
        exact ih (fun i => P (i + 1)) (acc ++ [d]) h1 (by rw [List.length_append, List.length_cons, List.length_nil]; rw [List.length_cons] at hz; omega) fun i y acc s e => h (i + 1) y acc s e
theorem pyL_ints (ns : List Int) : D.pyL (ns.map D.int) = some (ns.map PyData.int) := by
  induction ns with
  | nil => rfl
  | cons n ns ih => show (D.py (.int n)).bind (fun x => (D.pyL (ns.map D.int)).map (x :: ·)) = _; rw [ih]; rfl
theorem atI_nn {β : Type} {l : List β} {i : Int} (h : 0 ≤ i) : atI l i = l[i.toNat]? := by
  unfold atI ixN
  rw [if_pos h]
  by_cases q : i < l.length
  · rw [if_pos q]; rfl
  · rw [if_neg q]; show none = _; rw [List.getElem?_eq_none_iff.mpr (by omega)]
theorem atI_int {ns : List Int} {i : Int} (h0 : 0 ≤ i) (h1 : i < ns.length) : atI (ns.map D.int) i = some (.int (ns.getD i.toNat 0)) := by
  rw [atI_nn h0, List.getElem?_map, List.getElem?_eq_getElem (by omega : i.toNat < ns.length)]
  simp [List.getD, (by omega : i.toNat < ns.length)]
theorem cutL_map {β γ : Type} (f : β → γ) (l : List β) (lo hi : Option Int) : cutL (l.map f) lo hi = (cutL l lo hi).map f := by
  unfold cutL; rw [List.length_map, List.map_take, List.map_drop]
theorem cutL_to {β : Type} (xs : List β) {i : Int} (h : 0 ≤ i) : cutL xs none (some i) = xs.take i.toNat := by
  unfold cutL
  have e1 : HT.sIx xs.length 0 none = 0 := rfl
  have e2 : HT.sIx xs.length xs.length (some i) = min i.toNat xs.length := if_neg (by omega)
  rw [e1, e2, List.drop_zero, Nat.sub_zero]
  by_cases l : i.toNat ≤ xs.length
  · rw [Nat.min_eq_left l]
  · rw [Nat.min_eq_right (by omega), List.take_of_length_le (Nat.le_refl _), List.take_of_length_le (by omega)]
theorem rng_get {lo : Int} {n i : Nat} {d : D} (h : (rng lo n)[i]? = some d) : i < n ∧ d = .int (lo + i) := by
  unfold rng at h
  rw [List.getElem?_map] at h
  obtain ⟨j, e1, rfl⟩ := Option.map_eq_some_iff.mp h
  obtain ⟨hlt, ej⟩ := List.getElem?_eq_some_iff.mp e1
  rw [List.getElem_range] at ej
  rw [List.length_range] at hlt
  subst ej
  exact ⟨hlt, rfl⟩
theorem rng_len {lo : Int} {n : Nat} : (rng lo n).length = n := by unfold rng; rw [List.length_map, List.length_range]
theorem map_get {β : Type} {f : β → D} {l : List β} {i : Nat} {d : D} (h : (l.map f)[i]? = some d) : ∃ x, l[i]? = some x ∧ d = f x := by
  rw [List.getElem?_map] at h
  obtain ⟨x, e, rfl⟩ := Option.map_eq_some_iff.mp h
  exact ⟨x, e, rfl⟩
theorem eqv_int (i j : Int) : PyData.eqv (.int i) (.int j) = decide (i = j) := by
  show (i == j) = _
  by_cases h : i = j
  · subst h; simp
  · simp [h]
end Y
namespace Y
open PySem L2 Z
def Wo {α : Type} (Q : α → Stt → Prop) (X : Exn → Stt → Prop) : Ro α → Prop
  | .ok a s => Q a s
  | .er x s => X x s
  | .no => False
def Ws (N : Stt → Prop) (O : Rs → Prop) : Rs → Prop
  | .nx s => N s
  | .no => False
  | r => O r
abbrev Xf : Exn → Stt → Prop := fun _ _ => False
section
variable {α β : Type} {Q : α → Stt → Prop} {QA : AI → Stt → Prop} {QD : D → Stt → Prop} {QL : List AI → Stt → Prop} {QV : List D → Stt → Prop} {QB : Bool → Stt → Prop} {QO : Option Int → Stt → Prop} {QI : Im → Stt → Prop} {X : Exn → Stt → Prop} {N : Stt → Prop} {O : Rs → Prop} {s : Stt} {i j : Nat} {m m1 m2 m3 : Mo AI} {env : List (Option Ent)} {M : List Cn}
theorem w_bind {r : Ro β} {f : β → Mo α} (h : Wo (fun a s => Wo Q X (f a s)) X r) : Wo Q X (r.bind f) := by cases r <;> exact h
theorem w_toS {r : Ro β} {f : β → Ms} (h : Wo (fun a s => Ws N O (f a s)) (fun x s => O (.er x s)) r) : Ws N O (r.toS f) := by cases r <;> exact h
theorem w_mono {Q' : α → Stt → Prop} {r : Ro α} (h : Wo Q X r) (k : ∀ a s, Q a s → Q' a s) : Wo Q' X r := by
  cases r with
  | ok a s => exact k _ _ h
  | er x s => exact h
  | no => exact h
theorem w_seq {a b : Ms} (h : Ws (fun s1 => Ws N O (b s1)) O (a s)) : Ws N O (mSeq a b s) := by
  unfold mSeq
  cases q : a s <;> rw [q] at h <;> exact h
theorem w_next (h : N s) : Ws N O (mNext s) := h
theorem w_drop (h : Wo (fun _ s1 => N s1) (fun x s => O (.er x s)) (m s)) : Ws N O (mDrop m s) := w_toS h
theorem w_ifS {c : Mo Bool} {a b : Ms} (h : Wo (fun k s1 => if k = true then Ws N O (a s1) else Ws N O (b s1)) (fun x s => O (.er x s)) (c s)) : Ws N O (mIfS c a b s) := w_toS (w_mono h fun k s h => by cases k <;> exact h)
theorem w_asg (h : Wo (fun a s1 => Ws N O (asg i a s1)) (fun x s => O (.er x s)) (m s)) : Ws N O (mAsg i m s) := w_toS h
theorem w_asgV {d : D} (h : N ⟨s.env.set i (some (.fz d)), s.M⟩) : Ws N O (asg i (.val d) s) := h
theorem w_asgN {c : Cn} (h : N ⟨s.env.set i (some (.ow c)), s.M⟩) : Ws N O (asg i (.new c) s) := h
theorem w_asgI {c : Cn} (e : entAt s j = some (.ow c)) (h : N ⟨(s.env.set j (some (.fz c.toD))).set i (some (.fz c.toD)), s.M⟩) : Ws N O (asg i (.slot j) s) := by
  show Ws N O ((match entAt s j with | some (.ow c) => Ro.ok c.toD ⟨s.env.set j (some (.fz c.toD)), s.M⟩ | some (.fz d) => Ro.ok d s | _ => Ro.no).toS fun d s1 => .nx ⟨s1.env.set i (some (.fz d)), s1.M⟩)
  rw [e]; exact h
theorem w_ret (h : Wo (fun a s1 => Ws N O (Y.ret a s1)) (fun x s => O (.er x s)) (m s)) : Ws N O (mRet m s) := w_toS h
theorem w_retV {d : D} (h : O (.rt (.val d) s)) : Ws N O (Y.ret (.val d) s) := h
theorem w_retN' {c : Cn} (h : O (.rt (.new c) s)) : Ws N O (Y.ret (.new c) s) := h
theorem w_retS {c : Cn} (e : entAt s j = some (.ow c)) (h : O (.rt (.new c) ⟨s.env.set j none, s.M⟩)) : Ws N O (Y.ret (.slot j) s) := by
  show Ws N O (match entAt s j with | some (.ow c) => .rt (.new c) ⟨s.env.set j none, s.M⟩ | some (.fz d) => .rt (.val d) s | _ => .no)
  rw [e]; exact h
theorem w_retN (h : O (.rt (.val .non) s)) : Ws N O (mRetN s) := h
theorem w_nameF {d : D} (e : entAt s i = some (.fz d)) (h : QA (.val d) s) : Wo QA X (mName i s) := by unfold mName; rw [e]; exact h
theorem w_nameO {c : Cn} (e : entAt s i = some (.ow c)) (h : QA (.slot i) s) : Wo QA X (mName i s) := by unfold mName; rw [e]; exact h
theorem w_c {d : D} (h : QA (.val d) s) : Wo QA X (mC d s) := h
theorem w_op {f : Stt → AI → AI → Ro AI} (h : Wo (fun a s1 => Wo (fun b s2 => Wo QA X (f s2 a b)) X (m2 s1)) X (m1 s)) : Wo QA X (mOp f m1 m2 s) := w_bind (w_mono h fun _ _ h => w_bind h)
theorem w_un {f : Stt → AI → Ro AI} (h : Wo (fun a s1 => Wo QA X (f s1 a)) X (m1 s)) : Wo QA X (mUn f m1 s) := w_bind h
theorem w_I0 {g : Int → Int → D} {i j : Int} (h : QA (.val (g i j)) s) : Wo QA X (fI0 g s (.val (.int i)) (.val (.int j))) := h
theorem w_I {C : Int → Int → Prop} {g : Int → Int → D} {i j : Int} (c : C i j) (h : QA (.val (g i j)) s) : Wo QA X (fI C g s (.val (.int i)) (.val (.int j))) := by
  unfold fI; simp only []; rw [if_pos c]; exact h
theorem w_addI {i j : Int} (h : QA (.val (.int (i + j))) s) : Wo QA X (fAdd s (.val (.int i)) (.val (.int j))) := h
def noS : AI → Bool
  | .val (.int _) => false
  | .val (.str _) => false
  | _ => true
theorem w_addL {a b : AI} {l l' : List D} (n : noS a = true) (e1 : viewL s a = some l) (e2 : viewL s b = some l') (c : l.length + l'.length ≤ sizeLine) (h : QA (.new (.lst (l ++ l'))) s) : Wo QA X (fAdd s a b) := by
  unfold fAdd
  split
  · cases n
  · cases n
  · rw [e1, e2]; simp only []; rw [if_pos c]; exact h
theorem w_mulI {i j : Int} (c : CMul i j) (h : QA (.val (.int (i * j))) s) : Wo QA X (fMul s (.val (.int i)) (.val (.int j))) := by
  unfold fMul; simp only []; rw [if_pos c]; exact h
theorem w_mulL {a : AI} {l : List D} {j : Int} (n : noS a = true) (e1 : viewX s a = some l) (c : -(2 ^ 63) ≤ j ∧ j < 2 ^ 63 ∧ l.length * j.toNat ≤ sizeLine) (h : QA (.new (.lst (List.replicate j.toNat l).flatten)) s) : Wo QA X (fMul s a (.val (.int j))) := by
  unfold fMul
  split
  · cases n
  · rename_i heq; cases heq; rw [e1]; simp only []; rw [if_pos c]; exact h
  · rename_i h1 h2; first | exact (h1 _ rfl).elim | exact (h2 _ rfl).elim | exact (h1 _ _ rfl).elim | exact (h2 _ _ rfl).elim
theorem w_eqI {i j : Int} (h : QA (.val (.bl (decide (i = j)))) s) : Wo QA X (fEq s (.val (.int i)) (.val (.int j))) := by
  show Wo QA X (.ok (.val (.bl (PyData.eqv (.int i) (.int j)))) s)
  rw [eqv_int]; exact h
theorem w_neI {i j : Int} (h : QA (.val (.bl (!decide (i = j)))) s) : Wo QA X (fNe s (.val (.int i)) (.val (.int j))) := by
  show Wo QA X (.ok (.val (.bl (!PyData.eqv (.int i) (.int j)))) s)
  rw [eqv_int]; exact h
theorem w_eq {a b : AI} {k : Bool} (e : eqOf s a b = some k) (h : QA (.val (.bl k)) s) : Wo QA X (fEq s a b) := by unfold fEq; rw [e]; exact h
theorem w_ne {a b : AI} {k : Bool} (e : eqOf s a b = some k) (h : QA (.val (.bl (!k))) s) : Wo QA X (fNe s a b) := by unfold fNe; rw [e]; exact h
theorem eqOf_of {a b : AI} {x y : PyData} {k : Bool} (e1 : pyOf s a = some x) (e2 : pyOf s b = some y) (h1 : SeqAt.shaped x = true) (h2 : SeqAt.shaped y = true) (e : x.eqv y = k) : eqOf s a b = some k := by
  unfold eqOf; rw [e1, e2]; show (if SeqAt.shaped x && SeqAt.shaped y then some (x.eqv y) else none) = _
  rw [h1, h2, e]; rfl
theorem w_isB {x y : Bool} (h : QA (.val (.bl (x == y))) s) : Wo QA X (fIs s (.val (.bl x)) (.val (.bl y))) := h
theorem w_isnB {x y : Bool} (h : QA (.val (.bl (!(x == y)))) s) : Wo QA X (fIsn s (.val (.bl x)) (.val (.bl y))) := h
theorem isOf_n {a : AI} {d : D} (e : look s a = some d) : isOf s a (.val .non) = some d.isN := by
  unfold isOf
  split
  · rename_i h; cases h
  · rw [e]; rfl
  · rename_i h1 h2; first | exact (h1 rfl).elim | exact (h2 rfl).elim
theorem w_isN {a : AI} {d : D} (e : look s a = some d) (h : QA (.val (.bl d.isN)) s) : Wo QA X (fIs s a (.val .non)) := by unfold fIs; rw [isOf_n e]; exact h
theorem w_isnN {a : AI} {d : D} (e : look s a = some d) (h : QA (.val (.bl (!d.isN))) s) : Wo QA X (fIsn s a (.val .non)) := by unfold fIsn; rw [isOf_n e]; exact h
theorem w_ixL {a : AI} {l : List D} {i : Int} {d : D} (n : noS a = true) (e0 : viewD s a = none) (e1 : viewL s a = some l) (e2 : atI l i = some d) (h : QA (.val d) s) : Wo QA X (fIxY s a (.val (.int i))) := by
  unfold fIxY; rw [e0]; simp only []
  unfold fIx; simp only []
  split
  · cases n
  · rw [e1]; simp only []; rw [e2]; exact h
theorem w_ixT {a : AI} {l : List D} {i : Int} {d : D} (n : noS a = true) (e0 : viewD s a = none) (e3 : viewL s a = none) (e1 : viewT s a = some l) (e2 : atI l i = some d) (h : QA (.val d) s) : Wo QA X (fIxY s a (.val (.int i))) := by
  unfold fIxY; rw [e0]; simp only []
  unfold fIx; simp only []
  split
  · cases n
  · rw [e3]; simp only []; rw [e1]; simp only []; rw [e2]; exact h
theorem w_ixI {a : AI} {ns : List Int} {i : Int} (n : noS a = true) (e0 : viewD s a = none) (e1 : viewL s a = some (ns.map D.int)) (h0 : 0 ≤ i) (h1 : i < ns.length) (h : QA (.val (.int (ns.getD i.toNat 0))) s) : Wo QA X (fIxY s a (.val (.int i))) := w_ixL n e0 e1 (atI_int h0 h1) h
theorem w_tru (h : Wo (fun a s1 => ∃ d b, look s1 a = some d ∧ truD s1.M d = some b ∧ QB b s1) X (m s)) : Wo QB X (mTru m s) := w_bind (w_mono h fun a s1 ⟨d, b, e1, e2, k⟩ => by rw [e1]; show Wo QB X (match truD s1.M d with | some b => Ro.ok b s1 | none => .no); rw [e2]; exact k)
theorem w_bl (h : Wo (fun a s1 => ∃ b, a = .val (.bl b) ∧ QB b s1) X (m s)) : Wo QB X (mBl m s) := w_bind (w_mono h fun a s1 ⟨b, e, k⟩ => by subst e; exact k)
theorem w_blB {b : Bool} (h : QB b s) : ∃ b', AI.val (.bl b) = .val (.bl b') ∧ QB b' s := ⟨b, rfl, h⟩
theorem w_and {c1 c2 : Mo Bool} (h : Wo (fun k s1 => if k = true then Wo QB X (c2 s1) else QB false s1) X (c1 s)) : Wo QB X (mAnd c1 c2 s) := w_bind (w_mono h fun k s1 h => by cases k <;> exact h)
theorem w_or {c1 c2 : Mo Bool} (h : Wo (fun k s1 => if k = true then QB true s1 else Wo QB X (c2 s1)) X (c1 s)) : Wo QB X (mOr c1 c2 s) := w_bind (w_mono h fun k s1 h => by cases k <;> exact h)
theorem w_not {c1 : Mo Bool} (h : Wo (fun k s1 => QB (!k) s1) X (c1 s)) : Wo QB X (mNot c1 s) := w_bind h
theorem w_andV (h : Wo (fun a s1 => ∃ k, a = .val (.bl k) ∧ if k = true then Wo QA X (m2 s1) else QA (.val (.bl false)) s1) X (m1 s)) : Wo QA X (mAndV m1 m2 s) := w_bind (w_mono h fun a s1 ⟨k, e, h⟩ => by subst e; cases k <;> exact h)
theorem w_orV (h : Wo (fun a s1 => ∃ k, a = .val (.bl k) ∧ if k = true then QA (.val (.bl true)) s1 else Wo QA X (m2 s1)) X (m1 s)) : Wo QA X (mOrV m1 m2 s) := w_bind (w_mono h fun a s1 ⟨k, e, h⟩ => by subst e; cases k <;> exact h)
theorem w_notV (h : Wo (fun a s1 => ∃ k, a = .val (.bl k) ∧ QA (.val (.bl (!k))) s1) X (m1 s)) : Wo QA X (mNotV m1 s) := w_bind (w_mono h fun a s1 ⟨k, e, h⟩ => by subst e; exact h)
theorem w_blV {b : Bool} {P : Bool → Prop} (h : P b) : ∃ k, AI.val (.bl b) = .val (.bl k) ∧ P k := ⟨b, rfl, h⟩
theorem w_ifE {c : Mo Bool} {m1 m2 : Mo α} (h : Wo (fun k s1 => if k = true then Wo Q X (m1 s1) else Wo Q X (m2 s1)) X (c s)) : Wo Q X (mIf c m1 m2 s) := w_bind (w_mono h fun k s1 h => by cases k <;> exact h)
theorem w_chain {f f' : Stt → AI → AI → Ro AI} (h : Wo (fun a s1 => Wo (fun b s2 => Wo (fun z s3 => ∃ k, z = .val (.bl k) ∧ if k = true then Wo (fun c s4 => Wo QA X (f' s4 b c)) X (m3 s3) else QA (.val (.bl false)) s3) X (f s2 a b)) X (m2 s1)) X (m1 s)) : Wo QA X (mChain f f' m1 m2 m3 s) :=
  w_bind (w_mono h fun a s1 h => w_bind (w_mono h fun b s2 h => w_bind (w_mono h fun z s3 ⟨k, e, h⟩ => by subst e; cases k with | true => exact w_bind h | false => exact h)))
theorem w_aNil (h : QL [] s) : Wo QL X (aNil s) := h
theorem w_aCons {r : Mo (List AI)} (h : Wo (fun a s1 => Wo (fun as s2 => QL (a :: as) s2) X (r s1)) X (m s)) : Wo QL X (aCons m r s) := w_bind (w_mono h fun _ _ h => w_bind h)
theorem w_vNil (h : QV [] s) : Wo QV X (vNil s) := h
theorem w_vCons {r : Mo (List D)} (h : Wo (fun d s1 => Wo (fun as s2 => QV (d :: as) s2) X (r s1)) X (mV m s)) : Wo QV X (vCons m r s) := w_bind (w_mono h fun _ _ h => w_bind h)
theorem w_V (h : Wo (fun a s1 => Wo QD X (toV a s1)) X (m s)) : Wo QD X (mV m s) := w_bind h
theorem w_toVV {d : D} (h : QD d s) : Wo QD X (toV (.val d) s) := h
theorem w_toVN {c : Cn} (h : QD c.toD s) : Wo QD X (toV (.new c) s) := h
theorem w_toVS {c : Cn} (e : entAt s i = some (.ow c)) (h : QD c.toD ⟨s.env.set i (some (.fz c.toD)), s.M⟩) : Wo QD X (toV (.slot i) s) := by
  show Wo QD X (match entAt s i with | some (.ow c) => Ro.ok c.toD ⟨s.env.set i (some (.fz c.toD)), s.M⟩ | some (.fz d) => Ro.ok d s | _ => Ro.no)
  rw [e]; exact h
theorem w_lst {r : Mo (List D)} (h : Wo (fun l s1 => l.length ≤ sizeLine ∧ QA (.new (.lst l)) s1) X (r s)) : Wo QA X (mLst r s) := w_bind (w_mono h fun l s1 ⟨c, h⟩ => by show Wo QA X (if _ then _ else _); rw [if_pos c]; exact h)
theorem w_tup {r : Mo (List D)} (h : Wo (fun l s1 => l.length ≤ sizeLine ∧ QA (.val (.tup l)) s1) X (r s)) : Wo QA X (mTup r s) := w_bind (w_mono h fun l s1 ⟨c, h⟩ => by show Wo QA X (if _ then _ else _); rw [if_pos c]; exact h)
theorem w_oNo (h : QO none s) : Wo QO X (oNo s) := h
theorem w_oSm (h : Wo (fun a s1 => ∃ i, a = .val (.int i) ∧ QO (some i) s1) X (m s)) : Wo QO X (oSm m s) := w_bind (w_mono h fun a s1 ⟨i, e, h⟩ => by subst e; exact h)
theorem w_intI {i : Int} {P : Int → Prop} (h : P i) : ∃ k, AI.val (.int i) = .val (.int k) ∧ P k := ⟨i, rfl, h⟩
theorem w_sl {ml mh : Mo (Option Int)} (h : Wo (fun a s1 => Wo (fun l s2 => Wo (fun u s3 => Wo QA X (fSl s3 a l u)) X (mh s2)) X (ml s1)) X (m s)) : Wo QA X (mSl m ml mh s) := w_bind (w_mono h fun _ _ h => w_bind (w_mono h fun _ _ h => w_bind h))
theorem w_slL {a : AI} {l : List D} {lo hi : Option Int} (n : noS a = true) (e : viewL s a = some l) (h : QA (.new (.lst (cutL l lo hi))) s) : Wo QA X (fSl s a lo hi) := by
  unfold fSl
  split
  · cases n
  · rw [e]; exact h
theorem w_cb {f : Stt → List AI → Ro AI} {r : Mo (List AI)} (h : Wo (fun as s1 => Wo QA X (f s1 as)) X (r s)) : Wo QA X (mCB f r s) := w_bind h
theorem w_len {a : AI} {d : D} {n : Nat} (e1 : look s a = some d) (e2 : lenD s.M d = some n) (h : QA (.val (.int (n : Int))) s) : Wo QA X (fLen s [a]) := by
  unfold fLen; simp only []; rw [e1]; show Wo QA X (match lenD s.M d with | some n => _ | none => _); rw [e2]; exact h
theorem w_I2 {g : Int → Int → Int} {i j : Int} (h : QA (.val (.int (g i j))) s) : Wo QA X (fI2 g s [.val (.int i), .val (.int j)]) := h
theorem w_list {a : AI} {l : List D} (e : viewL s a = some l) (h : QA (.new (.lst l)) s) : Wo QA X (fList s [a]) := by unfold fList; simp only []; rw [e]; exact h
theorem w_intB {k : Bool} (h : QA (.val (.int (if k then 1 else 0))) s) : Wo QA X (fInt s [.val (.bl k)]) := h
theorem w_isi {a : AI} {n : String} {t : String} {d : D} {b : Bool} (e1 : look s a = some d) (e2 : kindD s.M d = some n) (e3 : kitB n t = some b) (h : QA (.val (.bl b)) s) : Wo QA X (fIsi s [a, .val (.ty t)]) := by
  unfold fIsi; simp only []; rw [e1]; show Wo QA X (match (kindD s.M d).bind fun n => kitB n t with | some b => _ | none => _); rw [e2]; show Wo QA X (match kitB n t with | some b => _ | none => _); rw [e3]; exact h
theorem w_bm {f : Stt → AI → List D → Ro AI} {mo : Mo AI} {ma : Mo (List D)} (h : Wo (fun a s1 => ∃ l, viewL s1 a = some l ∧ Wo (fun ds s2 => Wo QA X (f s2 a ds)) X (ma s1)) X (mo s)) : Wo QA X (mBM f mo ma s) := w_bind (w_mono h fun a s1 ⟨l, e, h⟩ => by
  show Wo QA X (match viewL s1 a with | some _ => _ | none => _); rw [e]; exact w_bind h)
theorem w_app {a : AI} {l : List D} {d : D} (e : getC s a = some (.lst l)) (c : l.length < sizeLine) (h : QA (.val .non) (setC s a (.lst (l ++ [d])))) : Wo QA X (fApp s a [d]) := by
  unfold fApp; rw [e]; simp only []; rw [if_pos c]; exact h
theorem w_callN {f : Mf} {ma : Mo (List D)} (h : Wo (fun ds s1 => Fo (fun a M' => QA a ⟨s1.env, M'⟩) (f ds s1.M)) X (ma s)) : Wo QA X (mCallN f ma s) := w_bind (w_mono h fun ds s1 h => by
  show Wo QA X (match f ds s1.M with | .ok a M' => _ | _ => _)
  cases q : f ds s1.M <;> rw [q] at h <;> exact h)
theorem fo_eq {P : AI → List Cn → Prop} {r : Fr} {a : AI} {M' : List Cn} (e : r = .ok a M') (h : P a M') : Fo P r := by subst e; exact h
theorem fo_ok {P : AI → List Cn → Prop} {r : Fr} {a : AI} {M' : List Cn} (h : Fo (fun a' M'' => a' = a ∧ M'' = M') r) : r = .ok a M' := by
  cases r with
  | ok a' M'' => obtain ⟨rfl, rfl⟩ := h; rfl
  | er _ _ => exact False.elim h
  | no => exact False.elim h
/-- how a def ends -/
def Oe (P : AI → List Cn → Prop) : Rs → Prop
  | .rt a s => P a s.M
  | _ => False
theorem f_fn {P : AI → List Cn → Prop} {np n : Nat} {b : Ms} {ds : List D} (hl : ds.length = np) (h : Ws (fun s => P (.val .non) s.M) (Oe P) (b ⟨ds.map (fun d => some (.fz d)) ++ List.replicate (n - ds.length) none, M⟩)) : Fo P (mFn np n b ds M) := by
  unfold mFn
  rw [if_pos hl]
  cases q : b ⟨ds.map (fun d => some (.fz d)) ++ List.replicate (n - ds.length) none, M⟩ <;> rw [q] at h <;> exact h
theorem w_aug {f : Int → Int → Int} {x : Int} (e : entAt s i = some (.fz (.int x))) (h : Wo (fun a s1 => ∃ y, a = .val (.int y) ∧ N ⟨s1.env.set i (some (.fz (.int (f x y)))), s1.M⟩) (fun x s => O (.er x s)) (m s)) : Ws N O (mAug i f m s) := by
  unfold mAug; rw [e]
  exact w_toS (w_mono h fun a s1 ⟨y, e, h⟩ => by subst e; exact h)
theorem w_asgT {g : Tg} (h : Wo (fun d s1 => So N (g d s1)) (fun x s => O (.er x s)) (mV m s)) : Ws N O (mAsgT g m s) := w_toS (w_mono h fun d s1 h => by
  show Ws N O (match g d s1 with | some s2 => .nx s2 | none => .no)
  cases q : g d s1 <;> rw [q] at h <;> exact h)
theorem w_asgS {mo mi mv : Mo AI} (h : Wo (fun d s1 => Wo (fun a s2 => Wo (fun i s3 => So N (setIt a i d s3)) (fun x s => O (.er x s)) (mV mi s2)) (fun x s => O (.er x s)) (mo s1)) (fun x s => O (.er x s)) (mV mv s)) : Ws N O (mAsgS mo mi mv s) :=
  w_toS (w_mono h fun d s1 h => w_toS (w_mono h fun a s2 h => w_toS (w_mono h fun i s3 h => by
    show Ws N O (match setIt a i d s3 with | some s4 => .nx s4 | none => .no)
    cases q : setIt a i d s3 <;> rw [q] at h <;> exact h)))
theorem so_set {P : Stt → Prop} {s' : Stt} {r : Option Stt} (e : r = some s') (h : P s') : So P r := by subst e; exact h
def Lo (P N : Stt → Prop) (O : Rs → Prop) : Rs → Prop
  | .ct s => P s
  | .bk s => N s
  | r => O r
theorem w_for {mi : Mo Im} {g : Tg} {b : Ms} (h : Wo (fun im s1 => Ws N O (forN g b im.ck im.xs s1)) (fun x s => O (.er x s)) (mi s)) : Ws N O (mFor mi g b s) := w_toS h
theorem w_forN {g : Tg} {b : Ms} {xs : List D} (P : Nat → Stt → Prop) (h0 : P 0 s) (hs : ∀ i x s, xs[i]? = some x → P i s → So (fun s1 => Ws (P (i + 1)) (Lo (P (i + 1)) N O) (b s1)) (g x s)) (hd : ∀ s, P xs.length s → N s) : Ws N O (forN g b none xs s) := by
  induction xs generalizing P s with
  | nil => rw [forN_nil]; exact hd s h0
  | cons x xs ih =>
    have h1 := hs 0 x s rfl h0
    cases hg : g x s with
    | none => rw [hg] at h1; exact False.elim h1
    | some s1 =>
      rw [hg] at h1
      have h1 : Ws (P 1) (Lo (P 1) N O) (b s1) := h1
      rw [forN_cons hg]
      cases hb : b s1 with
      | nx s2 => rw [hb] at h1; exact ih (fun i => P (i + 1)) h1 (fun i y s e => hs (i + 1) y s e) hd
      | ct s2 => rw [hb] at h1; exact ih (fun i => P (i + 1)) h1 (fun i y s e => hs (i + 1) y s e) hd
      | bk s2 => rw [hb] at h1; exact h1
      | rt a s2 => rw [hb] at h1; exact h1
      | er x s2 => rw [hb] at h1; exact h1
      | no => rw [hb] at h1; exact h1
theorem w_rng1 {r : Mo (List AI)} (h : Wo (fun as s1 => ∃ n : Int, as = [.val (.int n)] ∧ (-(2 ^ 62) ≤ n ∧ n < 2 ^ 62) ∧ QI ⟨rng 0 n.toNat, none⟩ s1) X (r s)) : Wo QI X (mRng1 r s) := w_bind (w_mono h fun as s1 ⟨n, e, c, h⟩ => by subst e; simp only []; rw [if_pos (show CRg1 n from c)]; exact h)
theorem w_rng1I {n : Int} {P : Int → Prop} (c : -(2 ^ 62) ≤ n ∧ n < 2 ^ 62) (h : P n) : ∃ m : Int, [AI.val (.int n)] = [.val (.int m)] ∧ (-(2 ^ 62) ≤ m ∧ m < 2 ^ 62) ∧ P m := ⟨n, rfl, c, h⟩
theorem w_rng2 {r : Mo (List AI)} (h : Wo (fun as s1 => ∃ i j : Int, as = [.val (.int i), .val (.int j)] ∧ (-(2 ^ 62) ≤ i ∧ i < 2 ^ 62 ∧ -(2 ^ 62) ≤ j ∧ j < 2 ^ 62) ∧ QI ⟨rng i (j - i).toNat, none⟩ s1) X (r s)) : Wo QI X (mRng2 r s) := w_bind (w_mono h fun as s1 ⟨i, j, e, c, h⟩ => by subst e; simp only []; rw [if_pos (show CRg2 i j from c)]; exact h)
theorem w_rng2I {i j : Int} {P : Int → Int → Prop} (c : -(2 ^ 62) ≤ i ∧ i < 2 ^ 62 ∧ -(2 ^ 62) ≤ j ∧ j < 2 ^ 62) (h : P i j) : ∃ i' j' : Int, [AI.val (.int i), .val (.int j)] = [.val (.int i'), .val (.int j')] ∧ (-(2 ^ 62) ≤ i' ∧ i' < 2 ^ 62 ∧ -(2 ^ 62) ≤ j' ∧ j' < 2 ^ 62) ∧ P i' j' := ⟨i, j, rfl, c, h⟩
theorem w_wl (h : Wo (fun d s1 => ∃ l, Y.listOf s1.M d = some l ∧ QI ⟨l, ckOf d l⟩ s1) X (mV m s)) : Wo QI X (mWL m s) := w_bind (w_mono h fun d s1 ⟨l, e, h⟩ => by show Wo QI X (match Y.listOf s1.M d with | some l => _ | none => _); rw [e]; exact h)
theorem w_wt (h : Wo (fun d s1 => ∃ l, tupOf d = some l ∧ QI ⟨l, none⟩ s1) X (mV m s)) : Wo QI X (mWT m s) := w_bind (w_mono h fun d s1 ⟨l, e, h⟩ => by show Wo QI X (match tupOf d with | some l => _ | none => _); rw [e]; exact h)
theorem w_we {r : Mo (List D)} (h : Wo (fun ds s1 => ∃ d l, ds = [d] ∧ Y.listOf s1.M d = some l ∧ QI ⟨enumL l, ckOf d l⟩ s1) X (r s)) : Wo QI X (mWE r s) := w_bind (w_mono h fun ds s1 ⟨d, l, e0, e, h⟩ => by subst e0; show Wo QI X (match Y.listOf s1.M d with | some l => _ | none => _); rw [e]; exact h)
theorem w_ws (h : Wo (fun a s1 => ∃ x, a = .val (.str x) ∧ QI ⟨strL x, none⟩ s1) X (m s)) : Wo QI X (mWS m s) := w_bind (w_mono h fun a s1 ⟨x, e, h⟩ => by subst e; exact h)
theorem w_lc {ws : List Nat} {mi : Mo Im} {g : Tg} {c : Mo Bool} {e : Mo AI} (h : Wo (fun im s1 => ∃ l s2, lcN ws g c (mV e) im.ck im.xs [] (wipeS ws s1) = .ok l s2 ∧ QA (.new (.lst l)) ⟨Y.rest s1.env s2.env ws, s2.M⟩) X (mi s)) : Wo QA X (mLc ws mi g c e s) := w_bind (w_mono h fun im s1 ⟨l, s2, e, h⟩ => by
  show Wo QA X (match lcN ws g c (mV _) im.ck im.xs [] (wipeS ws s1) with | .ok l s2 => _ | _ => _)
  rw [e]; exact h)
theorem w_lcInv {ws : List Nat} {g : Tg} {e : Mo D} {xs : List D} {P : List D → Stt → Prop} (I : Nat → List D → Stt → Prop) (h0 : I 0 [] s) (hz : xs.length ≤ sizeLine) (h : ∀ i x acc s, xs[i]? = some x → I i acc s → So (fun s1 => Wo (fun d s2 => I (i + 1) (acc ++ [d]) (wipeS ws s2)) Xf (e s1)) (g x s)) (k : ∀ l s', I xs.length l s' → P l s') : ∃ l s2, lcN ws g mYes e none xs [] s = .ok l s2 ∧ P l s2 := by
  obtain ⟨l, s', e1, h1⟩ := lc_inv (ws := ws) (g := g) (e := e) (xs := xs) I [] h0 (by simpa using hz) (fun i x acc s hx hi => by
    have h1 := h i x acc s hx hi
    cases hg : g x s with
    | none => rw [hg] at h1; exact h1
    | some s1 =>
      rw [hg] at h1
      have h1 : Wo (fun d s2 => I (i + 1) (acc ++ [d]) (wipeS ws s2)) Xf (e s1) := h1
      show Ok _ (e s1)
      cases q : e s1 <;> rw [q] at h1 <;> exact h1)
  exact ⟨l, s', e1, k l s' h1⟩
theorem so_some {P : Stt → Prop} (h : P s) : So P (some s) := h
end
end Y
namespace Y
open PySem L2 Z
section
variable {QA : AI → Stt → Prop} {X : Exn → Stt → Prop} {s : Stt}
theorem shaped_str {x : Str} (h : PySem.PyData.strOk x = true) : SeqAt.shaped (.str x) = true := by
  unfold SeqAt.shaped
  rw [show PyData.canLay0 (.str x) = true from h]; rfl
theorem eqv_str (x y : Str) : PyData.eqv (.str x) (.str y) = decide (x = y) := by
  show (x == y) = _
  by_cases h : x = y
  · subst h; simp
  · simp [h]
theorem w_eqS {x y : Str} (c : PySem.PyData.strOk x = true) (c' : PySem.PyData.strOk y = true) (h : QA (.val (.bl (decide (x = y)))) s) : Wo QA X (fEq s (.val (.str x)) (.val (.str y))) :=
  w_eq (eqOf_of (x := .str x) (y := .str y) rfl rfl (shaped_str c) (shaped_str c') (eqv_str x y)) h
theorem w_neS {x y : Str} (c : PySem.PyData.strOk x = true) (c' : PySem.PyData.strOk y = true) (h : QA (.val (.bl (!decide (x = y)))) s) : Wo QA X (fNe s (.val (.str x)) (.val (.str y))) :=
  w_ne (eqOf_of (x := .str x) (y := .str y) rfl rfl (shaped_str c) (shaped_str c') (eqv_str x y)) h
end
end Y
namespace Y
open PySem L2 Z
mutual
def D.noId : D → Bool
  | .tup l => D.noIdL l
  | .ctp l => D.noIdL l
  | .lst l => D.noIdL l
  | .clst l => D.noIdL l
  | .dK l => D.noIdK l
  | .dT l => D.noIdT l
  | .cid _ => false
  | _ => true
def D.noIdL : List D → Bool
  | [] => true
  | d :: l => d.noId && D.noIdL l
def D.noIdK : List (Key × D) → Bool
  | [] => true
  | (_, d) :: l => d.noId && D.noIdK l
def D.noIdT : List (List Key × D) → Bool
  | [] => true
  | (_, d) :: l => d.noId && D.noIdT l
end
def D.scal : D → Bool
  | .non => true
  | .bl _ => true
  | .int _ => true
  | .str _ => true
  | _ => false
section
variable {K : PySem.W.Frag} {ct : Ct} {H0 : Hp} {W : WX} {S : Sh} {s : Stt} {σ : St} {H : Hp} {G : Hp} {α α' : Nat → Addr} {n : Nat}
theorem noIdK_vals : ∀ {l : List (Key × D)}, D.noIdK l = true → D.noIdL (l.map Prod.snd) = true
  | [], _ => rfl
  | (k, d) :: l, h => by
    have h : (d.noId && D.noIdK l) = true := h
    rw [Bool.and_eq_true] at h
    show (d.noId && D.noIdL (l.map Prod.snd)) = true
    rw [h.1, noIdK_vals h.2]; rfl
theorem noIdT_vals : ∀ {l : List (List Key × D)}, D.noIdT l = true → D.noIdL (l.map Prod.snd) = true
  | [], _ => rfl
  | (k, d) :: l, h => by
    have h : (d.noId && D.noIdT l) = true := h
    rw [Bool.and_eq_true] at h
    show (d.noId && D.noIdL (l.map Prod.snd)) = true
    rw [h.1, noIdT_vals h.2]; rfl
mutual
theorem Rp.noId : ∀ {v : V} {d : D}, Rp K G α n v d → d.noId = true → Rp K G α' 0 v d
  | _, _, .non, _ => .non
  | _, _, .bl b, _ => .bl b
  | _, _, .int i, _ => .int i
  | _, _, .str x, _ => .str x
  | _, _, .ty x, _ => .ty x
  | _, _, .tup h r, e => .tup h (RpL.noId r e)
  | _, _, .ctp h r, e => .ctp h (RpL.noId r e)
  | _, _, .lst h r, e => .lst h (RpL.noId r e)
  | _, _, .clst h r, e => .clst h (RpL.noId r e)
  | _, _, .dK h q r, e => .dK h q (RpL.noId r (noIdK_vals e))
  | _, _, .dT h q r, e => .dT h q (RpL.noId r (noIdT_vals e))
  | _, _, .cid h, e => by cases e
theorem RpL.noId : ∀ {vs : List V} {l : List D}, RpL K G α n vs l → D.noIdL l = true → RpL K G α' 0 vs l
  | _, _, .nil, _ => .nil
  | _, _, .cons (d := d) (l := l) h r, e => by
    have e : (d.noId && D.noIdL l) = true := e
    rw [Bool.and_eq_true] at e
    exact .cons (Rp.noId h e.1) (RpL.noId r e.2)
end
theorem Rp.scal {G' : Hp} {n' : Nat} {v : V} {d : D} (h : Rp K G α n v d) (e : d.scal = true) : Rp K G' α' n' v d := by
  cases h <;> first | exact .non | exact .bl _ | exact .int _ | exact .str _ | cases e
def snap (s : Stt) : List AI → Option (List D)
  | [] => some []
  | a :: as => (look s a).bind fun d => (snap s as).map (d :: ·)
def mCallB (f : Mf) (m : Mo (List AI)) : Mo AI := fun s => (m s).bind fun as s1 => match snap s1 as with
  | some ds => if D.noIdL ds = true then (match f ds [] with
    | .ok (.val d) _ => if d.scal = true then .ok (.val d) s1 else .no
    | _ => .no) else .no
  | none => .no
variable {QA : AI → Stt → Prop} {X : Exn → Stt → Prop}
theorem w_callB {f : Mf} {m : Mo (List AI)} (h : Wo (fun as s1 => ∃ ds d M', snap s1 as = some ds ∧ D.noIdL ds = true ∧ f ds [] = .ok (.val d) M' ∧ d.scal = true ∧ QA (.val d) s1) X (m s)) : Wo QA X (mCallB f m s) := w_bind (w_mono h fun as s1 ⟨ds, d, M', e1, e2, e3, e4, h⟩ => by
  show Wo QA X (match snap s1 as with | some ds => _ | none => _)
  rw [e1]; show Wo QA X (if _ then _ else _); rw [if_pos e2, e3]; show Wo QA X (if _ then _ else _); rw [if_pos e4]; exact h)
theorem noIdL_ints (ns : List Int) : D.noIdL (ns.map D.int) = true := by
  induction ns with
  | nil => rfl
  | cons n ns ih => show (true && D.noIdL (ns.map D.int)) = true; rw [ih]; rfl
mutual
theorem eqv_self : ∀ x : PyData, x.canLay0 = true → x.eqv x = true
  | .none, _ => rfl
  | .bool b, _ => by show (b == b) = true; simp
  | .int i, _ => by show (i == i) = true; simp
  | .str x, _ => by show (x == x) = true; simp
  | .list xs, h => eqvAll_self xs h
  | .tuple xs, h => eqvAll_self xs h
  | .dict _, h => by cases h
theorem eqvAll_self : ∀ xs : List PyData, PyData.canLayAll0 xs = true → PyData.eqvAll xs xs = true
  | [], _ => rfl
  | x :: xs, h => by
    have h : (x.canLay0 && PyData.canLayAll0 xs) = true := h
    rw [Bool.and_eq_true] at h
    show (x.eqv x && PyData.eqvAll xs xs) = true
    rw [eqv_self x h.1, eqvAll_self xs h.2]; rfl
end
theorem eqOf_same {a b : AI} {x : PyData} (e1 : pyOf s a = some x) (e2 : pyOf s b = some x) (h : SeqAt.shaped x = true) : eqOf s a b = some true :=
  eqOf_of e1 e2 h h (eqv_self x (by unfold SeqAt.shaped at h; rw [Bool.and_eq_true] at h; exact h.1))
end
end Y
namespace Y
theorem fo_use {P P' : AI → List Cn → Prop} {r : Fr} (h : Fo P r) (k : ∀ a M', P a M' → P' a M') : Fo P' r := by
  cases r with
  | ok a M => exact k a M h
  | er _ _ => exact h
  | no => exact h
end Y
namespace Y
theorem w_neg {QA : AI → Stt → Prop} {X : Exn → Stt → Prop} {s : Stt} {i : Int} (h : QA (.val (.int (-i))) s) : Wo QA X (fNeg s (.val (.int i))) := h
end Y
namespace Y
section
variable {P : Bool → Prop} {s : Stt}
theorem w_truB {b : Bool} (h : P b) : ∃ d b', look s (.val (.bl b)) = some d ∧ truD s.M d = some b' ∧ P b' := ⟨_, _, rfl, rfl, h⟩
theorem w_truI {i : Int} (h : P (!decide (i = 0))) : ∃ d b', look s (.val (.int i)) = some d ∧ truD s.M d = some b' ∧ P b' := ⟨_, _, rfl, rfl, h⟩
end
end Y
namespace Y
open PySem L2 Z
section
variable {K : PySem.W.Frag} {ct : Ct} {H0 : Hp} {W : WX} {S : Sh} {s : Stt} {σ : St} {H : Hp}
def CLR1 (n : Int) : Prop := 0 ≤ n ∧ n ≤ sizeLine
open Classical in
noncomputable def mLR1 (m : Mo AI) : Mo AI := fun s => (m s).bind fun a s1 => match a with
  | .val (.int n) => if CLR1 n then .ok (.new (.lst (rng 0 n.toNat))) s1 else .no
  | _ => .no
def mCallC (f : Mf) (m : Mo (List AI)) : Mo AI := fun s => (m s).bind fun as s1 => match snap s1 as with
  | some ds => if D.noIdL ds = true then (match f ds [] with
    | .ok (.new (.lst l)) _ => if l.all D.scal = true then .ok (.new (.lst l)) s1 else .no
    | _ => .no) else .no
  | none => .no
theorem RpL.scal {G G' : Hp} {α α' : Nat → Addr} {n n' : Nat} : ∀ {vs : List V} {l : List D}, RpL K G α n vs l → l.all D.scal = true → RpL K G' α' n' vs l
  | _, _, .nil, _ => .nil
  | _, _, .cons (d := d) (l := l) h r, e => by
    rw [List.all_cons, Bool.and_eq_true] at e
    exact .cons (Rp.scal h e.1) (RpL.scal r e.2)
variable {X : Exn → Stt → Prop} {QA : AI → Stt → Prop}
theorem w_callC {f : Mf} {m : Mo (List AI)} (h : Wo (fun as s1 => ∃ ds l M', snap s1 as = some ds ∧ D.noIdL ds = true ∧ f ds [] = .ok (.new (.lst l)) M' ∧ l.all D.scal = true ∧ QA (.new (.lst l)) s1) X (m s)) : Wo QA X (mCallC f m s) := w_bind (w_mono h fun as s1 ⟨ds, d, M', e1, e2, e3, e4, h⟩ => by
  show Wo QA X (match snap s1 as with | some ds => _ | none => _)
  rw [e1]; show Wo QA X (if _ then _ else _); rw [if_pos e2, e3]; show Wo QA X (if _ then _ else _); rw [if_pos e4]; exact h)
theorem w_lr1 {m : Mo AI} (h : Wo (fun a s1 => ∃ n : Int, a = .val (.int n) ∧ 0 ≤ n ∧ n ≤ sizeLine ∧ QA (.new (.lst (rng 0 n.toNat))) s1) X (m s)) : Wo QA X (mLR1 m s) := w_bind (w_mono h fun a s1 ⟨n, e, c1, c2, h⟩ => by
  subst e; simp only []; rw [if_pos (show CLR1 n from ⟨c1, c2⟩)]; exact h)
theorem w_lr1I {n : Int} {s : Stt} (c1 : 0 ≤ n) (c2 : n ≤ sizeLine) (h : QA (.new (.lst (rng 0 n.toNat))) s) : ∃ m : Int, (AI.val (.int n)) = .val (.int m) ∧ 0 ≤ m ∧ m ≤ sizeLine ∧ QA (.new (.lst (rng 0 m.toNat))) s := ⟨n, rfl, c1, c2, h⟩
end
end Y
namespace Y
open PySem L2 Z
section
variable {K : PySem.W.Frag} {ct : Ct} {H0 : Hp} {W : WX} {S : Sh} {s : Stt} {σ : St} {H : Hp}
def Sh.tr (S : Sh) (n : Nat) (p : Addr) : Sh := ⟨S.G, fun k => if k = n then p else S.α k, fun a => if a = p then some (.id n) else S.lab a⟩
theorem Rel.track {p : Addr} {c : Cn} (r : Rel K ct H0 S s σ H) (hl : S.lab p = none) (hg : S.G p = none) (h : CnOk K ct S s.M.length H p c) : Rel K ct H0 (S.tr s.M.length p) ⟨s.env, s.M ++ [c]⟩ σ H := by
  have hlen : (s.M ++ [c]).length = s.M.length + 1 := by simp
  have al : ∀ k, k < s.M.length → (S.tr s.M.length p).α k = S.α k := fun k hk => if_neg (by omega)
  have lb : ∀ {a : Addr} {l : Lab}, S.lab a = some l → (S.tr s.M.length p).lab a = some l := fun {a l} hh => by
    show (if a = p then _ else S.lab a) = _
    rw [if_neg (fun z => by subst z; rw [hl] at hh; cases hh)]; exact hh
  have cn : ∀ {a : Addr} {c' : Cn}, CnOk K ct S s.M.length H a c' → CnOk K ct (S.tr s.M.length p) (s.M ++ [c]).length H a c' := fun {a c'} h => CnOk.mono (S := S) (n := s.M.length) (fun _ _ e => e) al (by rw [hlen]; omega) (fun _ e => e) h
  refine ⟨r.sub, fun a l q => ?_, r.dom, r.len, fun j en q => ?_, fun k c' q => ?_⟩
  · have q1 : (if a = p then some (Lab.id s.M.length) else S.lab a) = some l := q
    by_cases z : a = p
    · subst z; exact ⟨hg, by obtain ⟨u, hu⟩ := h.some; exact ⟨u, hu, h.nt hu⟩⟩
    · rw [if_neg z] at q1; exact r.lg a l q1
  · have hh := r.slot j en q
    cases en with
    | fz d => obtain ⟨v, k1, k2⟩ := hh; exact ⟨v, k1, k2.mono (fun _ _ e => e) al (by show _ ≤ (s.M ++ [c]).length; rw [hlen]; omega)⟩
    | xn x => exact xn_mono (S := S) (n := s.M.length) (H := H) (fun _ _ e => e) al (by show _ ≤ (s.M ++ [c]).length; rw [hlen]; omega) rfl hh
    | ow c2 =>
      obtain ⟨a, k1, k2, k3, k4, k5⟩ := hh
      exact ⟨a, k1, k2, lb k3, k4, cn k5⟩
  · have q1 : (s.M ++ [c])[k]? = some c' := q
    by_cases z : k < s.M.length
    · rw [List.getElem?_append_left z] at q1
      obtain ⟨k1, k2⟩ := r.ids k c' q1
      rw [al k z]
      exact ⟨lb k1, cn k2⟩
    · have hk : k = s.M.length := by
        have := (List.getElem?_eq_some_iff.mp q1).1
        rw [hlen] at this; omega
      subst hk
      rw [List.getElem?_append_right (Nat.le_refl _), Nat.sub_self] at q1
      cases q1
      have e : (S.tr s.M.length p).α s.M.length = p := if_pos rfl
      rw [e]
      exact ⟨if_pos rfl, cn h⟩
theorem Stp.track {S' : Sh} {n n' : Nat} {H' : Hp} {p : Addr} (t : Stp S n H S' n' H') (hp : H p = none) : Stp S n H (S'.tr n' p) (n' + 1) H' where
  g := t.g
  le := Nat.le_succ_of_le t.le
  al := fun k hk => by
    show (if k = n' then p else S'.α k) = _
    rw [if_neg (by have := t.le; omega)]; exact t.al k hk
  fr := fun a o h l => by
    obtain ⟨h1, h2⟩ := t.fr a o h l
    refine ⟨h1, ?_⟩
    show (if a = p then _ else S'.lab a) = none
    rw [if_neg (ne_of_none h hp)]; exact h2
  gn := t.gn
  fz := t.fz
  dom := t.dom
theorem tr_cid {n : Nat} {p : Addr} : Rp K (S.tr n p).G (S.tr n p).α (n + 1) (.ref p) (.cid n) := by
  have h : Rp K (S.tr n p).G (S.tr n p).α (n + 1) (.ref ((S.tr n p).α n)) (.cid n) := .cid (Nat.lt_succ_self n)
  have e : (S.tr n p).α n = p := if_pos rfl
  rw [e] at h; exact h
/-- x = e, and the new thing is tracked -/
def mAsgK (i : Nat) (m : Mo AI) : Ms := fun s => (m s).toS fun a s1 => match a with
  | .new c => .nx ⟨s1.env.set i (some (.fz (.cid s1.M.length))), s1.M ++ [c]⟩
  | _ => .no
def strsD : List D → Option (List Str)
  | [] => some []
  | .str i :: l => (strsD l).map (i :: ·)
  | _ :: _ => none
def mJoin (mo ma : Mo AI) : Mo AI := fun s => (mo s).bind fun a s1 => match a with
  | .val (.str x) => (ma s1).bind fun b s2 => match (viewL s2 b).bind strsD with
    | some ys => if (ys.map (·.length)).sum + ys.length * x.length ≤ 16777216 then .ok (.val (.str (Txt.join x ys))) s2 else .no
    | none => .no
  | _ => .no
def fMulS : Stt → AI → AI → Ro AI := fun s a b => match a, b with
  | .val (.str x), .val (.int n) => if x.length ≤ 16 ∧ 0 ≤ n ∧ n ≤ 1048576 then .ok (.val (.str (Txt.mul x n))) s else .no
  | _, _ => .no
variable {X : Exn → Stt → Prop} {QA : AI → Stt → Prop} {N : Stt → Prop} {O : Rs → Prop}
theorem w_asgK {i : Nat} {m : Mo AI} (h : Wo (fun a s1 => ∃ c, a = .new c ∧ N ⟨s1.env.set i (some (.fz (.cid s1.M.length))), s1.M ++ [c]⟩) (fun x s => O (.er x s)) (m s)) : Ws N O (mAsgK i m s) := w_toS (w_mono h fun a s1 ⟨c, e, h⟩ => by subst e; exact h)
theorem w_sjoin {mo ma : Mo AI} (h : Wo (fun a s1 => ∃ x, a = .val (.str x) ∧ Wo (fun b s2 => ∃ ys, (viewL s2 b).bind strsD = some ys ∧ (ys.map (·.length)).sum + ys.length * x.length ≤ 16777216 ∧ QA (.val (.str (Txt.join x ys))) s2) X (ma s1)) X (mo s)) : Wo QA X (mJoin mo ma s) := w_bind (w_mono h fun a s1 ⟨x, e, h⟩ => by
  subst e; exact w_bind (w_mono h fun b s2 ⟨ys, e1, c, h⟩ => by
    show Wo QA X (match (viewL s2 b).bind strsD with | some ys => _ | none => _)
    rw [e1]; show Wo QA X (if _ then _ else _); rw [if_pos c]; exact h))
theorem w_mulS {x : Str} {n : Int} (c : x.length ≤ 16 ∧ 0 ≤ n ∧ n ≤ 1048576) (h : QA (.val (.str (Txt.mul x n))) s) : Wo QA X (fMulS s (.val (.str x)) (.val (.int n))) := by
  unfold fMulS; simp only []; rw [if_pos c]; exact h
end
end Y
namespace Y
open PySem L2 Z
end Y
namespace Y
open PySem L2 Z
open PySem.W (AllAlike Sortable dataLe EachIs)
end Y
namespace L2
open PySem PySem.Spec PyProof.Rows
end L2
namespace Y
open PySem L2 Z
section
variable {K : PySem.W.Frag} {ct ct2 : Ct} {H0 : Hp} {W : WX} {S : Sh} {s : Stt} {σ : St} {H : Hp}
def unX : Option Ent → Option Ent
  | some (.xn _) => none
  | e => e
def dropX (i : Nat) (s : Stt) : Stt := ⟨(s.env.map unX).set i none, s.M⟩
def enterX (i : Nat) (x : Exn) (s : Stt) : Stt := ⟨(s.env.map unX).set i (some (.xn x)), s.M⟩
def leaveX (i : Nat) : Rs → Rs
  | .nx s => .nx (dropX i s)
  | .bk s => .bk (dropX i s)
  | .ct s => .ct (dropX i s)
  | .rt a s => .rt a (dropX i s)
  | _ => .no
def mTryA (cat : Nat → Option Bool) (i : Nat) (mb ms : Ms) : Ms := fun s => match mb s with
  | .er x s1 => match cat x.cls with
    | some true => leaveX i (ms (enterX i x s1))
    | some false => .er x s1
    | none => .no
  | r => r
def noEr : Rs → Rs
  | .er _ _ => .no
  | r => r
def clauses : List ((Nat → Option Bool) × Ms) → Exn → Ms
  | [], x => fun s => .er x s
  | (cat, ms) :: l, x => fun s => match cat x.cls with
    | some true => noEr (ms s)
    | some false => clauses l x s
    | none => .no
def mTryM (l : List ((Nat → Option Bool) × Ms)) (mb : Ms) : Ms := fun s => match mb s with
  | .er x s1 => clauses l x s1
  | r => r
theorem noEr_ok {Dn : Ends} {r : Rs} (h : PstS K ct H0 W S s H Dn (noEr r)) : PstS K ct H0 (fun _ _ _ _ => False) S s H Dn r := by
  cases r with
  | er x s' => exact False.elim h
  | _ => exact h
def xnAt (s : Stt) (i : Nat) : Option Exn := match (s.env[i]?).getD none with
  | some (.xn x) => some x
  | _ => none
def mXf (i c : Nat) (f : Str) : Mo AI := fun s => match xnAt s i with
  | some x => if x.cls = c then (match x.fs.lookup f with | some d => .ok (.val d) s | none => .no) else .no
  | none => .no
theorem lookup_rp {f : Str} {G : Hp} {α : Nat → Addr} {n : Nat} : ∀ {fvs : List (Str × V)} {fs : List (Str × D)} {d : D}, fvs.map Prod.fst = fs.map Prod.fst → RpL K G α n (fvs.map Prod.snd) (fs.map Prod.snd) → fs.lookup f = some d → ∃ v, fvs.lookup f = some v ∧ Rp K G α n v d
  | [], [], _, _, _, e => by cases e
  | (g, v) :: fvs, (g', d') :: fs, d, hk, .cons hr r, e => by
    rw [List.map_cons, List.map_cons] at hk
    obtain ⟨h1, h2⟩ := List.cons.inj hk
    have h1 : g = g' := h1
    subst h1
    rw [List.lookup_cons] at e ⊢
    cases q : (f == g) with
    | true => rw [q] at e; cases e; exact ⟨v, rfl, hr⟩
    | false => rw [q] at e; exact lookup_rp h2 r e
def mIsX (i : Nat) (tbl : Nat → Option Bool) : Mo AI := fun s => match xnAt s i with
  | some x => match tbl x.cls with
    | some b => .ok (.val (.bl b)) s
    | none => .no
  | none => .no
def mRaise (c : Nat) : Ms := fun s => .er ⟨c, []⟩ s
theorem sv_raise {c : Nat} : Sv K ct H0 W (tRaiseZ (ct c) W) (mRaise c) := fun S s σ H Dn rel p => p S σ H none .refl rel (.inl ⟨rfl, rfl⟩)
def mRaiseA (c : Nat) (f : Str) (m : Mo (List D)) : Ms := fun s => (m s).toS fun ds s1 => match ds with
  | [_, x] => .er ⟨c, [(f, x)]⟩ s1
  | _ => .no
end
end Y
namespace Y
open PySem L2 Z
def mFn0 (np n : Nat) (body : Ms) : Mf := mFn np n fun s => noEr (body s)
section
variable {K : PySem.W.Frag} {ct : Ct} {H : Hp}
theorem sv_no {H0 : Hp} {W : WX} {t : TS} {m : Ms} (h : Sv K ct H0 (fun _ _ _ _ => False) t m) : Sv K ct H0 W t fun s => noEr (m s) := fun S s σ H Dn rel p => h S s σ H Dn rel (noEr_ok p)
theorem fn_run0 {N : List Str} {np : Nat} {t : TS} {body : Ms} {vs : List V} {Q : VK} {E : XK} (hb : Sv K ct H (fun _ _ _ _ => False) t body) (h : spM K ct (mFn0 np N.length body) vs H Q E) : t { nx := fun _ H' => Q .non H', rt := Q } (start N vs) H := fn_run (sv_no hb) h
end
theorem sp_len0 {K : PySem.W.Frag} {ct : Ct} {H : Hp} {np n : Nat} {body : Ms} {vs : List V} {Q : VK} {E : XK} (h : spM K ct (mFn0 np n body) vs H Q E) : vs.length = np := sp_len (body := fun s => noEr (body s)) h
def Fx (P : AI → List Cn → Prop) (E : Exn → List Cn → Prop) : Fr → Prop
  | .ok a M => P a M
  | .er x M => E x M
  | .no => False
def Ox (P : AI → List Cn → Prop) (E : Exn → List Cn → Prop) : Rs → Prop
  | .rt a s => P a s.M
  | .er x s => E x s.M
  | _ => False
section
variable {QA : AI → Stt → Prop} {X : Exn → Stt → Prop} {N : Stt → Prop} {O : Rs → Prop} {s : Stt} {M : List Cn} {P P' : AI → List Cn → Prop} {E E' : Exn → List Cn → Prop}
theorem f_fnX {np n : Nat} {b : Ms} {ds : List D} (hl : ds.length = np) (h : Ws (fun s => P (.val .non) s.M) (Ox P E) (b ⟨ds.map (fun d => some (.fz d)) ++ List.replicate (n - ds.length) none, M⟩)) : Fx P E (mFn np n b ds M) := by
  unfold mFn
  rw [if_pos hl]
  cases q : b ⟨ds.map (fun d => some (.fz d)) ++ List.replicate (n - ds.length) none, M⟩ <;> rw [q] at h <;> exact h
theorem f_fn0 {np n : Nat} {b : Ms} {ds : List D} (hl : ds.length = np) (h : Ws (fun s => P (.val .non) s.M) (Oe P) (b ⟨ds.map (fun d => some (.fz d)) ++ List.replicate (n - ds.length) none, M⟩)) : Fo P (mFn0 np n b ds M) := by
  refine f_fn hl ?_
  cases q : b ⟨ds.map (fun d => some (.fz d)) ++ List.replicate (n - ds.length) none, M⟩ <;> rw [q] at h <;> exact h
theorem fx_eq {r : Fr} {a : AI} {M' : List Cn} (e : r = .ok a M') (h : P a M') : Fx P E r := by subst e; exact h
theorem fx_er {r : Fr} {x : Exn} {M' : List Cn} (e : r = .er x M') (h : E x M') : Fx P E r := by subst e; exact h
theorem fx_ok {r : Fr} {a : AI} {M' : List Cn} (h : Fx (fun a' M'' => a' = a ∧ M'' = M') (fun _ _ => False) r) : r = .ok a M' := by
  cases r with
  | ok a' M'' => obtain ⟨rfl, rfl⟩ := h; rfl
  | er _ _ => exact False.elim h
  | no => exact False.elim h
theorem fx_isEr {r : Fr} {x : Exn} {M' : List Cn} (h : Fx (fun _ _ => False) (fun x' M'' => x' = x ∧ M'' = M') r) : r = .er x M' := by
  cases r with
  | ok a' M'' => exact False.elim h
  | er _ _ => obtain ⟨rfl, rfl⟩ := h; rfl
  | no => exact False.elim h
theorem w_call {f : Mf} {ma : Mo (List D)} (h : Wo (fun ds s1 => Fx (fun a M' => QA a ⟨s1.env, M'⟩) (fun x M' => X x ⟨s1.env, M'⟩) (f ds s1.M)) X (ma s)) : Wo QA X (mCall f ma s) := w_bind (w_mono h fun ds s1 h => by
  show Wo QA X (match f ds s1.M with | .ok a M' => _ | .er x M' => _ | .no => _)
  cases q : f ds s1.M <;> rw [q] at h <;> exact h)
theorem w_raise {c : Nat} (h : O (.er ⟨c, []⟩ s)) : Ws N O (mRaise c s) := h
theorem w_raiseA {c : Nat} {f : Str} {m : Mo (List D)} (h : Wo (fun ds s1 => ∃ w x, ds = [w, x] ∧ O (.er ⟨c, [(f, x)]⟩ s1)) (fun x s => O (.er x s)) (m s)) : Ws N O (mRaiseA c f m s) := w_toS (w_mono h fun ds s1 ⟨w, x, e, h⟩ => by subst e; exact h)
/-- behind a suite -/
def Olv (i : Nat) (O : Rs → Prop) : Rs → Prop
  | .bk s => O (.bk (dropX i s))
  | .ct s => O (.ct (dropX i s))
  | .rt a s => O (.rt a (dropX i s))
  | _ => False
def Otry (cat : Nat → Option Bool) (i : Nat) (ms : Ms) (N : Stt → Prop) (O : Rs → Prop) : Rs → Prop
  | .er x s1 => (cat x.cls = some true ∧ Ws (fun s => N (dropX i s)) (Olv i O) (ms (enterX i x s1))) ∨ (cat x.cls = some false ∧ O (.er x s1))
  | r => O r
theorem w_tryA {cat : Nat → Option Bool} {i : Nat} {mb ms : Ms} (h : Ws N (Otry cat i ms N O) (mb s)) : Ws N O (mTryA cat i mb ms s) := by
  unfold mTryA
  cases q : mb s with
  | er x s1 =>
    rw [q] at h
    rcases h with ⟨e, h⟩ | ⟨e, h⟩
    · simp only []
      rw [e]
      simp only []
      cases q2 : ms (enterX i x s1) <;> rw [q2] at h <;> exact h
    · simp only []
      rw [e]
      exact h
  | _ => rw [q] at h; exact h
theorem w_xf {i c : Nat} {f : Str} {x : Exn} {d : D} (e : xnAt s i = some x) (hc : x.cls = c) (l : x.fs.lookup f = some d) (h : QA (.val d) s) : Wo QA X (mXf i c f s) := by
  unfold mXf; rw [e]; simp only []; rw [if_pos hc, l]; exact h
theorem w_isX {i : Nat} {tbl : Nat → Option Bool} {x : Exn} {b : Bool} (e : xnAt s i = some x) (l : tbl x.cls = some b) (h : QA (.val (.bl b)) s) : Wo QA X (mIsX i tbl s) := by
  unfold mIsX; rw [e]; simp only []; rw [l]; exact h
def Ocl (l : List ((Nat → Option Bool) × Ms)) (N : Stt → Prop) (O : Rs → Prop) : Rs → Prop
  | .er x s1 => Ws N O (clauses l x s1)
  | r => O r
theorem w_tryM {l : List ((Nat → Option Bool) × Ms)} {mb : Ms} (h : Ws N (Ocl l N O) (mb s)) : Ws N O (mTryM l mb s) := by
  unfold mTryM
  cases q : mb s <;> rw [q] at h <;> exact h
end
end Y
namespace Y
open PySem L2 Z
section
variable {K : PySem.W.Frag} {ct : Ct} {H0 : Hp} {W : WX}
def fAbs (s : Stt) (as : List AI) : Ro AI := match as with
  | [.val (.int i)] => .ok (.val (.int (if i < 0 then -i else i))) s
  | _ => .no
def sIdx (a b : Str) : Option Nat := (Builtin.Str.occurrences a b 0 a.length 1).head?
def mSIdx (mo ma : Mo AI) : Mo AI := fun s => (mo s).bind fun a s1 => match a with
  | .val (.str x) => (ma s1).bind fun b s2 => match b with
    | .val (.str y) => match sIdx x y with
      | some i => .ok (.val (.int (i : Nat))) s2
      | none => .no
    | _ => .no
  | _ => .no
end
section
variable {s : Stt} {X : Exn → Stt → Prop} {QA : AI → Stt → Prop} {QI : Im → Stt → Prop} {m1 m2 : Mo AI}
theorem w_abs {i : Int} (h : QA (.val (.int (if i < 0 then -i else i))) s) : Wo QA X (fAbs s [.val (.int i)]) := h
theorem w_sidx (h : Wo (fun a s1 => ∃ x, a = .val (.str x) ∧ Wo (fun b s2 => ∃ y i, b = .val (.str y) ∧ sIdx x y = some i ∧ QA (.val (.int (i : Nat))) s2) X (m2 s1)) X (m1 s)) : Wo QA X (mSIdx m1 m2 s) := w_bind (w_mono h fun a s1 ⟨x, e, h⟩ => by
  subst e
  exact w_bind (w_mono h fun b s2 ⟨y, i, e, e2, h⟩ => by
    subst e
    show Wo QA X (match sIdx x y with | some i => _ | none => _)
    rw [e2]; exact h))
open Classical in
theorem w_rng3 {r : Mo (List AI)} (h : Wo (fun as s1 => ∃ (i j c : Int) (n : Nat), as = [.val (.int i), .val (.int j), .val (.int c)] ∧ RgC i j c n ∧ QI ⟨rngC i c n, none⟩ s1) X (r s)) : Wo QI X (mRng3 r s) := w_bind (w_mono h fun as s1 ⟨i, j, c, n, e, hz, h⟩ => by
  subst e
  have en : (Builtin.Range.rangeSize i j c).toNat = n := by rw [hz.2.2.2]; rfl
  show Wo QI X (if RgC i j c (Builtin.Range.rangeSize i j c).toNat then Ro.ok ⟨rngC i c (Builtin.Range.rangeSize i j c).toNat, none⟩ s1 else _)
  rw [en, if_pos hz]; exact h)
theorem rngC_get {lo c : Int} {n i : Nat} {d : D} (h : (rngC lo c n)[i]? = some d) : i < n ∧ d = .int (lo + (i : Int) * c) := by
  unfold rngC at h
  rw [List.getElem?_map] at h
  obtain ⟨k, e1, e2⟩ := Option.map_eq_some_iff.mp h
  obtain ⟨h1, h2⟩ := List.getElem?_eq_some_iff.mp e1
  rw [List.length_range] at h1
  rw [List.getElem_range] at h2
  subst h2
  exact ⟨h1, e2.symm⟩
theorem rngC_len {lo c : Int} {n : Nat} : (rngC lo c n).length = n := by unfold rngC; rw [List.length_map, List.length_range]
end
end Y
namespace Y
open PySem L2 Z
inductive KD where
  | keys | vals | items
def kD : Key → D
  | .inl i => .int i
  | .inr x => .str x
def dIt : KD → List (Key × D) → List D
  | .keys, l => l.map fun p => kD p.1
  | .vals, l => l.map Prod.snd
  | .items, l => l.map fun p => .tup [kD p.1, p.2]
section
variable {K : PySem.W.Frag} {ct : Ct} {H0 : Hp} {W : WX} {S : Sh} {s : Stt} {σ : St} {H : Hp}
theorem RpK.at {G : Hp} {α : Nat → Addr} {n : Nat} : ∀ {kvs : List (Key × V)} {l : List (Key × D)} {i : Nat} {k : Key} {d : D}, RpK K G α n kvs l → l[i]? = some (k, d) → ∃ v, kvs[i]? = some (k, v) ∧ Rp K G α n v d
  | _, _, _, _, _, .nil, e => by simp at e
  | _, _, 0, _, _, .cons a _, e => by simp at e; obtain ⟨rfl, rfl⟩ := e; exact ⟨_, rfl, a⟩
  | _, _, i + 1, _, _, .cons _ r, e => by
    simp at e
    obtain ⟨v, h1, h2⟩ := r.at e
    exact ⟨v, by simpa using h1, h2⟩
def Ct.lkd (ct : Ct) (d : Option Addr) : Ct := ⟨ct.c, ct.xa, d⟩
theorem CnOk.lkd {b : Option Addr} {n : Nat} {p : Addr} {c : Cn} (h : CnOk K ct S n H p c) : CnOk K (ct.lkd b) S n H p c := by
  cases c <;> exact h
noncomputable def mLcD (kd : KD) (i : Nat) (ws : List Nat) (g : Tg) (c : Mo Bool) (e : Mo AI) : Mo AI := fun s => match entAt s i with
  | some (.fz (.dK l)) => mLc ws (fun s => .ok ⟨dIt kd l, none⟩ s) g c e s
  | some (.ow (.dK l)) => (mLc ws (fun s => .ok ⟨dIt kd l, none⟩ s) g c e ⟨s.env.set i none, s.M⟩).bind fun a s1 => .ok a ⟨s1.env.set i (some (.ow (.dK l))), s1.M⟩
  | _ => .no
end
end Y
namespace Y
open PySem L2 Z
section
variable {K : PySem.W.Frag} {ct : Ct} {H0 : Hp} {W : WX}
variable {s : Stt} {X : Exn → Stt → Prop} {QA : AI → Stt → Prop}
def kPair : D → Option (Key × D)
  | .tup [.int i, x] => some (.inl i, x)
  | .tup [.str i, x] => some (.inr i, x)
  | _ => none
def kPairs : List D → Option (List (Key × D))
  | [] => some []
  | d :: l => (kPair d).bind fun p => (kPairs l).map (p :: ·)
def mgD (l : List (Key × D)) : List (Key × D) := l.foldl (fun a p => pu a p.1 p.2) []
def fDict (s : Stt) (as : List AI) : Ro AI := match as with
  | [a] => match (viewL s a).bind kPairs with
    | some l => .ok (.new (.dK (mgD l))) s
    | none => .no
  | _ => .no
theorem w_dnew (h : QA (.new (.dK [])) s) : Wo QA X (mDNew s) := h
theorem w_lcD1 {kd : KD} {i : Nat} {ws : List Nat} {g : Tg} {c : Mo Bool} {e : Mo AI} {l : List (Key × D)} (en : entAt s i = some (.fz (.dK l))) (h : ∃ l2 s2, lcN ws g c (mV e) none (dIt kd l) [] (wipeS ws s) = .ok l2 s2 ∧ QA (.new (.lst l2)) ⟨Y.rest s.env s2.env ws, s2.M⟩) : Wo QA X (mLcD kd i ws g c e s) := by
  unfold mLcD; rw [en]
  exact w_lc (show Wo _ X (Ro.ok (⟨dIt kd l, none⟩ : Im) s) from h)
theorem w_lcD2 {kd : KD} {i : Nat} {ws : List Nat} {g : Tg} {c : Mo Bool} {e : Mo AI} {l : List (Key × D)} (en : entAt s i = some (.ow (.dK l))) (h : ∃ l2 s2, lcN ws g c (mV e) none (dIt kd l) [] (wipeS ws ⟨s.env.set i none, s.M⟩) = .ok l2 s2 ∧ QA (.new (.lst l2)) ⟨(Y.rest (s.env.set i none) s2.env ws).set i (some (.ow (.dK l))), s2.M⟩) : Wo QA X (mLcD kd i ws g c e s) := by
  unfold mLcD; rw [en]
  refine w_bind (w_lc (QA := fun a s1 => Wo QA X (.ok a ⟨s1.env.set i (some (.ow (.dK l))), s1.M⟩)) (show Wo _ X (Ro.ok (⟨dIt kd l, none⟩ : Im) _) from h))
theorem w_pop {m1 m2 : Mo AI} (h : Wo (fun a s1 => (∃ l, viewD s1 a = some l) ∧ Wo (fun i s2 => ∃ l k d, getC s2 a = some (.dK l) ∧ keyOf i = some k ∧ vl l k = some d ∧ QA (.val d) (setC s2 a (.dK (dr l k)))) X (mV m2 s1)) X (m1 s)) : Wo QA X (mPop m1 m2 s) := w_bind (w_mono h fun a s1 ⟨⟨l, e⟩, h⟩ => by
  show Wo QA X (match viewD s1 a with | some _ => _ | none => _)
  rw [e]
  exact w_bind (w_mono h fun i s2 ⟨l, k, d, e1, e2, e3, h⟩ => by
    show Wo QA X (fPop s2 a i)
    unfold fPop
    rw [e1]; simp only []; rw [e2, Option.bind_some, e3]; exact h))
end
section
variable {K : PySem.W.Frag} {ct : Ct} {H0 : Hp} {W : WX}
def mPar (i j : Nat) (m : Mo (List D)) : Ms := fun s => (m s).toS fun ds s1 => match ds with
  | [x, y] => .nx ⟨(s1.env.set i (some (.fz x))).set j (some (.fz y)), s1.M⟩
  | _ => .no
variable {s : Stt} {N : Stt → Prop} {O : Rs → Prop}
theorem w_par {i j : Nat} {m : Mo (List D)} (h : Wo (fun ds s1 => ∃ x y, ds = [x, y] ∧ N ⟨(s1.env.set i (some (.fz x))).set j (some (.fz y)), s1.M⟩) (fun x s => O (.er x s)) (m s)) : Ws N O (mPar i j m s) := w_toS (w_mono h fun ds s1 ⟨x, y, e, h⟩ => by subst e; exact h)
end
end Y
namespace Y
open PySem L2 Z
def putD (f : Str) (d : D) : List (Str × D) → List (Str × D)
  | [] => [(f, d)]
  | (g, x) :: r => if g = f then (g, d) :: r else (g, x) :: putD f d r
section
variable {K : PySem.W.Frag} {ct : Ct} {H0 : Hp} {W : WX} {S : Sh} {s : Stt} {σ : St} {H : Hp}
theorem put_ok {G : Hp} {α : Nat → Addr} {n : Nat} {f : Str} {v : V} {d : D} (h : Rp K G α n v d) : ∀ {fvs : List (Str × V)} {fs : List (Str × D)}, fvs.map Prod.fst = fs.map Prod.fst → RpL K G α n (fvs.map Prod.snd) (fs.map Prod.snd) → (putF f v fvs).map Prod.fst = (putD f d fs).map Prod.fst ∧ RpL K G α n ((putF f v fvs).map Prod.snd) ((putD f d fs).map Prod.snd)
  | [], [], _, _ => ⟨rfl, .cons h .nil⟩
  | [], _ :: _, e, _ => by simp at e
  | _ :: _, [], e, _ => by simp at e
  | (g, x) :: fvs, (g', y) :: fs, e, r => by
    rw [List.map_cons, List.map_cons] at e r
    obtain ⟨e1, e2⟩ := List.cons.inj e
    have e1 : g = g' := e1
    subst e1
    cases r with
    | cons r1 r2 =>
      unfold putF putD
      by_cases q : g = f
      · rw [if_pos q, if_pos q]
        exact ⟨by rw [List.map_cons, List.map_cons, e2], .cons h r2⟩
      · rw [if_neg q, if_neg q]
        obtain ⟨k1, k2⟩ := put_ok h e2 r2
        exact ⟨by rw [List.map_cons, List.map_cons, k1], .cons r1 k2⟩
theorem lookup_no {f : Str} : ∀ {fvs : List (Str × V)} {fs : List (Str × D)}, fvs.map Prod.fst = fs.map Prod.fst → fs.lookup f = none → fvs.lookup f = none
  | [], [], _, _ => rfl
  | [], _ :: _, e, _ => by simp at e
  | _ :: _, [], e, _ => by simp at e
  | (g, x) :: fvs, (g', y) :: fs, e, h => by
    rw [List.map_cons, List.map_cons] at e
    obtain ⟨e1, e2⟩ := List.cons.inj e
    have e1 : g = g' := e1
    subst e1
    rw [List.lookup_cons] at h ⊢
    cases q : (f == g) with
    | true => rw [q] at h; cases h
    | false => rw [q] at h; exact lookup_no e2 h
/-- to a value; a new thing is tracked -/
def toK : AI → Mo D := fun a s => match a with
  | .new c => .ok (.cid s.M.length) ⟨s.env, s.M ++ [c]⟩
  | a => toV a s
def mK (m : Mo AI) : Mo D := fun s => (m s).bind toK
theorem ek_of {t : TE} {m : Mo AI} (h : Ei K ct H0 W t m) : Ev K ct H0 W t (mK m) := fun S s σ H Q rel p => by
  unfold mK at p
  cases q : m s with
  | no => rw [q] at p; exact h S s σ H Q rel (by rw [q]; exact p)
  | er x s' => rw [q] at p; exact h S s σ H Q rel (by rw [q]; exact p)
  | ok a s' =>
    rw [q] at p
    cases a with
    | val d => exact ev_of h S s σ H Q rel (by unfold mV; rw [q]; exact p)
    | slot i => exact ev_of h S s σ H Q rel (by unfold mV; rw [q]; exact p)
    | new c =>
      refine h S s σ H Q rel (by
        rw [q]
        intro S' v H' st rel' it
        obtain ⟨pp, rfl, h1, h2, h3, h4, h5⟩ := it
        have rt := rel'.track h2 h3 h5
        have hlen : (s'.M ++ [c]).length = s'.M.length + 1 := by simp
        have p : ∀ S'' b H'', Stp S s.M.length H S'' (s'.M ++ [c]).length H'' → Rel K ct H0 S'' ⟨s'.env, s'.M ++ [c]⟩ σ H'' → RV K H S'' ⟨s'.env, s'.M ++ [c]⟩ σ H'' b (.cid s'.M.length) → Q b H'' := p
        refine p (S'.tr s'.M.length pp) _ H' (by rw [hlen]; exact st.track h1) rt ?_
        show Rp K _ _ (s'.M ++ [c]).length _ _
        rw [hlen]; exact tr_cid)
theorem okc1 {P : Nat → Prop} {i : Nat} (h : P i) : ∀ c, (c == i) = true → P c := fun c e => by rw [beq_iff_eq.mp e]; exact h
def objAt (s : Stt) (a : AI) : Option (Nat × Nat × List (Str × D)) := match a with
  | .val (.cid k) => match s.M[k]? with
    | some (.obj c fs) => some (k, c, fs)
    | _ => none
  | _ => none
theorem objAt_ok {Hs : Hp} {v : V} {a : AI} {k c : Nat} {fs : List (Str × D)} (rel : Rel K ct H0 S s σ H) (i : ItOk K ct Hs S s σ H v a) (e : objAt s a = some (k, c, fs)) : a = .val (.cid k) ∧ s.M[k]? = some (.obj c fs) ∧ v = .ref (S.α k) ∧ ∃ dx fvs, H (S.α k) = some (.ins (ct c) dx fvs) ∧ fvs.map Prod.fst = fs.map Prod.fst ∧ RpL K S.G S.α s.M.length (fvs.map Prod.snd) (fs.map Prod.snd) := by
  unfold objAt at e
  split at e
  · rename_i k'
    split at e
    · rename_i c' fs' em
      cases e
      have i : Rp K S.G S.α s.M.length v (.cid k) := i
      cases i
      exact ⟨rfl, em, rfl, (rel.ids k _ em).2⟩
    · cases e
  · cases e
def mFld (ok : Nat → Bool) (f : Str) (m : Mo AI) : Mo AI := fun s => (m s).bind fun a s1 => match objAt s1 a with
  | some (_, c, fs) => if ok c = true then (match fs.lookup f with | some d => .ok (.val d) s1 | none => .no) else .no
  | none => .no
theorem ei_fld {ok : Nat → Bool} {f : Str} {ta : TE} {m : Mo AI} (hc : ∀ c, ok c = true → Cls K (ct c) ∧ NoAttr K (ct c) f) (h : Ei K ct H0 W ta m) : Ei K ct H0 W (tFld K ta f) (mFld ok f m) := fun S s σ H Q rel p =>
  h S s σ H _ rel (Pst.bind bI p fun S1 s1 H1 x a st1 rel1 i1 p1 => by
    split at p1
    · rename_i k c fs e
      split at p1
      · rename_i hk
        split at p1
        · rename_i d el
          obtain ⟨rfl, em, rfl, dx, fvs, h1, h2, h3⟩ := objAt_ok rel1 i1 e
          obtain ⟨v, l1, l2⟩ := lookup_rp h2 h3 el
          exact ⟨_, _, dx, fvs, v, rfl, h1, (hc c hk).1, (hc c hk).2, l1, p1 S1 v H1 .refl rel1 l2⟩
        · exact False.elim p1
      · exact False.elim p1
    · exact False.elim p1)
def mFldS (ok : Nat → Bool) (f : Str) (mo mv : Mo AI) : Ms := fun s => (mK mv s).toS fun d s1 => (mo s1).toS fun a s2 => match objAt s2 a with
  | some (k, c, fs) => if ok c = true ∧ fs.length < 1000 then .nx ⟨s2.env, s2.M.set k (.obj c (putD f d fs))⟩ else .no
  | none => .no
theorem sv_fld {ok : Nat → Bool} {f : Str} {ta tv : TE} {mo mv : Mo AI} (hc : ∀ c, ok c = true → Cls K (ct c) ∧ NoAttr K (ct c) f) (ho : Ei K ct H0 W ta mo) (hv : Ei K ct H0 W tv mv) : Sv K ct H0 W (sFld K ta tv f) (mFldS ok f mo mv) := fun S s σ H Dn rel p =>
  ek_of hv S s σ H _ rel (PstS.bind p fun S1 s1 H1 y d st1 rel1 r1 p1 => ho S1 s1 σ H1 _ rel1 (PstS.bind (PstS.from p1 st1) fun S2 s2 H2 x a st2 rel2 i2 p2 => by
    split at p2
    · rename_i k c fs e
      split at p2
      · rename_i hk
        obtain ⟨rfl, em, rfl, dx, fvs, h1, h2, h3⟩ := objAt_ok rel2 i2 e
        have r2 : Rp K S2.G S2.α s2.M.length y d := Rp.step st2 r1
        obtain ⟨k1, k2⟩ := put_ok (f := f) r2 h2 h3
        have hlen : fvs.length = fs.length := by have := congrArg List.length h2; simpa using this
        refine ⟨_, _, dx, fvs, rfl, h1, (hc c hk.1).1, (hc c hk.1).2, by rw [hlen]; exact hk.2, ?_⟩
        obtain ⟨pp, ep, _, g⟩ := mut_ok (a := .val (.cid k)) (c := .obj c fs) rel2 i2 em
        have ep : S2.α k = pp := by injection ep
        subst ep
        obtain ⟨g1, g2⟩ := g (.ins (ct c) dx (putF f y fvs)) (.obj c (putD f d fs)) (fun z => z) ⟨dx, _, upd_same, k1, k2⟩
        exact p2 S2 σ _ (st2.trans g2) g1
      · exact False.elim p2
    · exact False.elim p2))
/-- o.f += e -/
def mFldA (ok : Nat → Bool) (f : Str) (g : Int → Int → Int) (mo mv : Mo AI) : Ms := fun s => (mo s).toS fun a s1 => match objAt s1 a with
  | some (k, c, fs) => if ok c = true then (match fs.lookup f with
    | some (.int i) => (mv s1).toS fun b s2 => match b with
      | .val (.int j) => match s2.M[k]? with
        | some (.obj c' fs') => if c' = c ∧ fs'.length < 1000 then .nx ⟨s2.env, s2.M.set k (.obj c (putD f (.int (g i j)) fs'))⟩ else .no
        | _ => .no
      | _ => .no
    | _ => .no) else .no
  | none => .no
theorem sv_fldA {ok : Nat → Bool} {f : Str} {g : Int → Int → Int} {ta tv : TE} {mo mv : Mo AI} (hc : ∀ c, ok c = true → Cls K (ct c) ∧ NoAttr K (ct c) f) (ho : Ei K ct H0 W ta mo) (hv : Ei K ct H0 W tv mv) : Sv K ct H0 W (sFldAug K ta tv (rI0 fun i j => .int (g i j)) f) (mFldA ok f g mo mv) := fun S s σ H Dn rel p =>
  ho S s σ H _ rel (PstS.bind p fun S1 s1 H1 x a st1 rel1 i1 p1 => by
    split at p1
    · rename_i k c fs e
      split at p1
      · rename_i hk
        split at p1
        · rename_i i el
          obtain ⟨rfl, em, rfl, dx, fvs, h1, h2, h3⟩ := objAt_ok rel1 i1 e
          obtain ⟨v, l1, l2⟩ := lookup_rp h2 h3 el
          cases rp_int l2
          refine ⟨_, _, dx, fvs, _, rfl, h1, (hc c hk).1, (hc c hk).2, l1, hv S1 s1 σ H1 _ rel1 (PstS.bind (PstS.from p1 st1) fun S2 s2 H2 y b st2 rel2 i2 p2 => ?_)⟩
          split at p2
          · rename_i j
            cases rp_int i2
            split at p2
            · rename_i c' fs' em'
              split at p2
              · rename_i hk'
                obtain ⟨rfl, hz⟩ := hk'
                have ea : S2.α k = S1.α k := st2.al k (List.getElem?_eq_some_iff.mp em).1
                have i2' : ItOk K ct H2 S2 s2 σ H2 (.ref (S2.α k)) (.val (.cid k)) := Rp.cid (List.getElem?_eq_some_iff.mp em').1
                obtain ⟨dx', fvs', h1', h2', h3'⟩ := (rel2.ids k _ em').2
                have hlen : fvs'.length = fs'.length := by have := congrArg List.length h2'; simpa using this
                obtain ⟨k1, k2⟩ := put_ok (f := f) (Rp.int (K := K) (G := S2.G) (α := S2.α) (n := s2.M.length) (g i j)) h2' h3'
                refine ⟨i, j, rfl, rfl, dx', fvs', by rw [← ea]; exact h1', by rw [hlen]; exact hz, ?_⟩
                rw [← ea]
                obtain ⟨pp, ep, _, gg⟩ := mut_ok (a := .val (.cid k)) (c := .obj c' fs') rel2 i2' em'
                have ep : S2.α k = pp := by injection ep
                subst ep
                obtain ⟨g1, g2⟩ := gg (.ins (ct c') dx' (putF f (.int (g i j)) fvs')) (.obj c' (putD f (.int (g i j)) fs')) (fun z => z) ⟨dx', _, upd_same, k1, k2⟩
                exact p2 S2 σ _ (st2.trans g2) g1
              · exact False.elim p2
            · exact False.elim p2
          · exact False.elim p2
        · exact False.elim p1
      · exact False.elim p1
    · exact False.elim p1)
def mMethN (c : Nat) (nm : Str) (f : Mf) (mo : Mo AI) (ma : Mo (List D)) : Mo AI := fun s => (mo s).bind fun a s1 => match objAt s1 a with
  | some (k, c', fs) => if c' = c ∧ fs.lookup nm = none then ((ma s1).bind fun ds s2 => match f (.cid k :: ds) s2.M with
    | .ok a M' => .ok a ⟨s2.env, M'⟩
    | _ => .no) else .no
  | none => .no
def mMethS (c : Nat) (nm : Str) (f : Mf) (mo : Mo AI) (ma : Mo (List D)) : Mo AI := fun s => (mo s).bind fun a s1 => match objAt s1 a with
  | some (k, c', fs) => if c' = c ∧ fs.lookup nm = none then ((ma s1).bind fun ds s2 => match f (.cid k :: ds) s2.M with
    | .ok a M' => .ok a ⟨s2.env, M'⟩
    | .er x M' => .er x ⟨s2.env, M'⟩
    | .no => .no) else .no
  | none => .no
theorem self_rp {S1 S2 : Sh} {s1 s2 : Stt} {H1 H2 : Hp} {k : Nat} {c : Cn} (em : s1.M[k]? = some c) (st : Stp S1 s1.M.length H1 S2 s2.M.length H2) : Rp K S2.G S2.α s2.M.length (.ref (S1.α k)) (.cid k) := by
  have hk := (List.getElem?_eq_some_iff.mp em).1
  have e := st.al k hk
  rw [← e]
  exact .cid (Nat.lt_of_lt_of_le hk st.le)
theorem ei_methN {c : Nat} {nm : Str} {f : Mf} {E : XK} {ta : TE} {t : TA} {mo : Mo AI} {ma : Mo (List D)} (ho : Ei K ct H0 W ta mo) (ha : EvL K ct H0 W t ma) : Ei K ct H0 W (tMeth (ct c) nm (spM K ct f) [] E ta t) (mMethN c nm f mo ma) := fun S s σ H Q rel p =>
  ho S s σ H _ rel (Pst.bind bI p fun S1 s1 H1 x a st1 rel1 i1 p1 => by
    split at p1
    · rename_i k c' fs e
      split at p1
      · rename_i hk
        obtain ⟨rfl, hno⟩ := hk
        obtain ⟨rfl, em, rfl, dx, fvs, h1, h2, h3⟩ := objAt_ok rel1 i1 e
        refine ⟨_, dx, fvs, rfl, h1, lookup_no h2 hno, ha S1 s1 σ H1 _ rel1 (Pst.bind bI p1 fun S2 s2 H2 vs ds st2 rel2 i2 p2 => ?_)⟩
        refine ⟨S2.hide, s2.M, .cid k :: ds, rel2.hide, (.cons (show Rp K S2.G S2.α s2.M.length _ _ from self_rp em st2) (by rw [List.append_nil]; exact i2)), ?_⟩
        generalize hf : f (.cid k :: ds) s2.M = r at p2
        cases r with
        | no => exact False.elim p2
        | er x M' => exact False.elim p2
        | ok a M' => exact fpst_of rel2 (fun x M' e => by cases e) (fun a' M'' e S' v H' st rl it => by cases e; exact p2 S' v H' st rl it) (fun e => by cases e)
      · exact False.elim p1
    · exact False.elim p1)
theorem ei_methS {c : Nat} {nm : Str} {f : Mf} {ta : TE} {t : TA} {mo : Mo AI} {ma : Mo (List D)} (ho : Ei K ct H0 W ta mo) (ha : EvL K ct H0 W t ma) : Ei K ct H0 W (Z.tMethS (ct c) nm (spM K ct f) (WE W) ta t) (mMethS c nm f mo ma) := fun S s σ H Q rel p =>
  ho S s σ H _ rel (Pst.bind bI p fun S1 s1 H1 x a st1 rel1 i1 p1 => by
    split at p1
    · rename_i k c' fs e
      split at p1
      · rename_i hk
        obtain ⟨rfl, hno⟩ := hk
        obtain ⟨rfl, em, rfl, dx, fvs, h1, h2, h3⟩ := objAt_ok rel1 i1 e
        refine ⟨_, dx, fvs, rfl, h1, lookup_no h2 hno, ha S1 s1 σ H1 _ rel1 (Pst.bind bI p1 fun S2 s2 H2 vs ds st2 rel2 i2 p2 => ?_)⟩
        refine ⟨S2.hide, s2.M, .cid k :: ds, rel2.hide, (.cons (show Rp K S2.G S2.α s2.M.length _ _ from self_rp em st2) (by rw [List.append_nil]; exact i2)), ?_⟩
        generalize hf : f (.cid k :: ds) s2.M = r at p2
        cases r with
        | no => exact False.elim p2
        | er x M' => exact fpst_of rel2 (fun x' M'' e S' H' dd st rl xo => by cases e; exact p2 S' H' dd st rl xo) (fun a' M'' e => by cases e) (fun e => by cases e)
        | ok a M' => exact fpst_of rel2 (fun x M' e => by cases e) (fun a' M'' e S' v H' st rl it => by cases e; exact p2 S' v H' st rl it) (fun e => by cases e)
      · exact False.elim p1
    · exact False.elim p1)
def mMakeN (c : Nat) (f : Mf) (dds : List D) (ma : Mo (List D)) : Mo AI := fun s => (ma s).bind fun ds s1 => match f (.cid s1.M.length :: (ds ++ dds)) (s1.M ++ [.obj c []]) with
  | .ok (.val .non) M' => .ok (.val (.cid s1.M.length)) ⟨s1.env, M'⟩
  | _ => .no
def mMakeS (c : Nat) (f : Mf) (dds : List D) (ma : Mo (List D)) : Mo AI := fun s => (ma s).bind fun ds s1 => match f (.cid s1.M.length :: (ds ++ dds)) (s1.M ++ [.obj c []]) with
  | .ok (.val .non) M' => .ok (.val (.cid s1.M.length)) ⟨s1.env, M'⟩
  | .er x M' => .er x ⟨s1.env, M'⟩
  | _ => .no
/-- what stands for data whatever the heap -/
def CRL (K : PySem.W.Frag) (vs : List V) (ds : List D) : Prop := ∀ G α n, RpL K G α n vs ds
theorem crl_nil : CRL K [] [] := fun _ _ _ => .nil
theorem crl_cons {v : V} {d : D} {vs : List V} {ds : List D} (h : CR K v d) (r : CRL K vs ds) : CRL K (v :: vs) (d :: ds) := fun G α n => .cons (h G α n) (r G α n)
theorem make_ok {c : Nat} {f : Mf} {E : XK} {Q : VK} {vs dvs : List V} {ds dds : List D} {x dx : Addr} (rel : Rel K ct H0 S s σ H) (hv : RpL K S.G S.α s.M.length vs ds) (hd : CRL K dvs dds) (hx : H x = none) (hdx : H dx = none) (hne : dx ≠ x)
    (hE : ∀ y M', f (.cid s.M.length :: (ds ++ dds)) (s.M ++ [.obj c []]) = .er y M' → ∀ S' H' dd, Stp S s.M.length H S' M'.length H' → Rel K ct H0 S' ⟨s.env, M'⟩ σ H' → XOk K S' M'.length H' y dd → E (.ref (ct y.cls)) dd H')
    (hQ : ∀ M', f (.cid s.M.length :: (ds ++ dds)) (s.M ++ [.obj c []]) = .ok (.val .non) M' → ∀ S' H', Stp S s.M.length H S' M'.length H' → Rel K ct H0 S' ⟨s.env, M'⟩ σ H' → Rp K S'.G S'.α M'.length (.ref x) (.cid s.M.length) → Q (.ref x) H')
    (hn : (∃ M', f (.cid s.M.length :: (ds ++ dds)) (s.M ++ [.obj c []]) = .ok (.val .non) M') ∨ ∃ y M', f (.cid s.M.length :: (ds ++ dds)) (s.M ++ [.obj c []]) = .er y M') :
    spM K ct f (.ref x :: (vs ++ dvs)) (upd (upd H dx (.own x)) x (.ins (ct c) dx [])) (fun v H2 => v = .non ∧ Q (.ref x) H2) E := by
  have hx' : (upd H dx (.own x)) x = none := by rw [upd_ne (Ne.symm hne)]; exact hx
  have relA : Rel K ct H0 S s σ (upd (upd H dx (.own x)) x (.ins (ct c) dx [])) := (rel.new (o := .own x) hdx).new hx'
  have stA : Stp S s.M.length H S s.M.length (upd (upd H dx (.own x)) x (.ins (ct c) dx [])) := (Stp.new rel hdx).trans (Stp.new (rel.new (o := .own x) hdx) hx')
  have hl : S.lab x = none := rel.labN hx
  have hg : S.G x = none := rel.gN hx
  have relT := relA.track (p := x) (c := .obj c []) hl hg ⟨dx, [], upd_same, rfl, .nil⟩
  have hlen : (s.M ++ [Cn.obj c []]).length = s.M.length + 1 := by simp
  have stT : Stp S s.M.length H (S.tr s.M.length x) (s.M.length + 1) (upd (upd H dx (.own x)) x (.ins (ct c) dx [])) := stA.track hx
  have hv' : RpL K (S.tr s.M.length x).G (S.tr s.M.length x).α (s.M.length + 1) vs ds := hv.mono stT.g stT.al stT.le
  refine ⟨(S.tr s.M.length x).hide, s.M ++ [.obj c []], .cid s.M.length :: (ds ++ dds), relT.hide, ?_, ?_⟩
  · rw [hlen]
    exact .cons (show Rp K (S.tr s.M.length x).G (S.tr s.M.length x).α (s.M.length + 1) _ _ from tr_cid) (RpL.append (show RpL K (S.tr s.M.length x).G (S.tr s.M.length x).α (s.M.length + 1) _ _ from hv') (hd _ _ _))
  · have stT' : Stp S s.M.length H (S.tr s.M.length x) (s.M ++ [Cn.obj c []]).length (upd (upd H dx (.own x)) x (.ins (ct c) dx [])) := by rw [hlen]; exact stT
    refine fpst_of relT (fun y M' e S' H' dd st rl xo => hE y M' e S' H' dd (stT'.trans st) rl xo) (fun a M' e S' v H' st rl it => ?_) (fun e => ?_)
    · rcases hn with ⟨M2, e2⟩ | ⟨y, M2, e2⟩
      · rw [e2] at e
        injection e with ea em
        subst ea em
        have it : Rp K S'.G S'.α M2.length v .non := it
        cases it
        refine ⟨rfl, hQ M2 e2 S' H' (stT'.trans st) rl ?_⟩
        have hlt : s.M.length < (s.M ++ [Cn.obj c []]).length := by rw [hlen]; omega
        have ea := st.al s.M.length hlt
        have eb : (S.tr s.M.length x).α s.M.length = x := if_pos rfl
        rw [eb] at ea
        have r : Rp K S'.G S'.α M2.length (.ref (S'.α s.M.length)) (.cid s.M.length) := .cid (Nat.lt_of_lt_of_le hlt st.le)
        rw [ea] at r; exact r
      · rw [e2] at e; cases e
    · rcases hn with ⟨M2, e2⟩ | ⟨y, M2, e2⟩
      · rw [e2] at e; cases e
      · rw [e2] at e; cases e
theorem ei_makeN {c : Nat} {f : Mf} {E : XK} {t : TA} {ma : Mo (List D)} {dvs : List V} {dds : List D} (hd : CRL K dvs dds) (ha : EvL K ct H0 W t ma) : Ei K ct H0 W (tMake (ct c) (spM K ct f) dvs E t) (mMakeN c f dds ma) := fun S s σ H Q rel p =>
  ha S s σ H _ rel (Pst.bind bI p fun S1 s1 H1 vs ds st1 rel1 i1 p1 => by
    intro x dx hx hdx hne
    split at p1
    · rename_i M' e
      exact make_ok rel1 i1 hd hx hdx hne (fun y M'' e' => by rw [e] at e'; cases e') (fun M'' e' S' H' st rl r => by rw [e] at e'; cases e'; exact p1 S' _ H' st rl r) (.inl ⟨M', e⟩)
    · exact False.elim p1)
theorem ei_makeS {c : Nat} {f : Mf} {t : TA} {ma : Mo (List D)} {dvs : List V} {dds : List D} (hd : CRL K dvs dds) (ha : EvL K ct H0 W t ma) : Ei K ct H0 W (Z.tMakeS (ct c) (spM K ct f) dvs (WE W) t) (mMakeS c f dds ma) := fun S s σ H Q rel p =>
  ha S s σ H _ rel (Pst.bind bI p fun S1 s1 H1 vs ds st1 rel1 i1 p1 => by
    intro x dx hx hdx hne
    split at p1
    · rename_i M' e
      exact make_ok rel1 i1 hd hx hdx hne (fun y M'' e' => by rw [e] at e'; cases e') (fun M'' e' S' H' st rl r => by rw [e] at e'; cases e'; exact p1 S' _ H' st rl r) (.inl ⟨M', e⟩)
    · rename_i y M' e
      exact make_ok rel1 i1 hd hx hdx hne (fun y' M'' e' S' H' dd st rl xo => by rw [e] at e'; cases e'; exact p1 S' H' dd st rl xo) (fun M'' e' => by rw [e] at e'; cases e') (.inr ⟨y, M', e⟩)
    · exact False.elim p1)
end
section
variable {s : Stt} {X : Exn → Stt → Prop} {QA : AI → Stt → Prop} {N : Stt → Prop} {O : Rs → Prop} {QD : D → Stt → Prop} {m mo mv : Mo AI} {ma : Mo (List D)}
theorem w_K (h : Wo (fun a s1 => Wo QD X (toK a s1)) X (m s)) : Wo QD X (mK m s) := w_bind h
theorem w_toKN {c : Cn} (h : QD (.cid s.M.length) ⟨s.env, s.M ++ [c]⟩) : Wo QD X (toK (.new c) s) := h
theorem w_toKV {d : D} (h : QD d s) : Wo QD X (toK (.val d) s) := h
theorem w_toKS {i : Nat} (h : Wo QD X (toV (.slot i) s)) : Wo QD X (toK (.slot i) s) := h
theorem w_fld {ok : Nat → Bool} {f : Str} (h : Wo (fun a s1 => ∃ k c fs d, objAt s1 a = some (k, c, fs) ∧ ok c = true ∧ fs.lookup f = some d ∧ QA (.val d) s1) X (m s)) : Wo QA X (mFld ok f m s) := w_bind (w_mono h fun a s1 ⟨k, c, fs, d, e, h1, h2, h⟩ => by
  show Wo QA X (match objAt s1 a with | some (_, c, fs) => _ | none => _)
  rw [e]; simp only []; rw [if_pos h1, h2]; exact h)
theorem w_fldS {ok : Nat → Bool} {f : Str} (h : Wo (fun d s1 => Wo (fun a s2 => ∃ k c fs, objAt s2 a = some (k, c, fs) ∧ (ok c = true ∧ fs.length < 1000) ∧ N ⟨s2.env, s2.M.set k (.obj c (putD f d fs))⟩) (fun x s => O (.er x s)) (mo s1)) (fun x s => O (.er x s)) (mK mv s)) : Ws N O (mFldS ok f mo mv s) :=
  w_toS (w_mono h fun d s1 h => w_toS (w_mono h fun a s2 ⟨k, c, fs, e, h1, h⟩ => by
    show Ws N O (match objAt s2 a with | some (k, c, fs) => _ | none => _)
    rw [e]; simp only []; rw [if_pos h1]; exact h))
theorem w_fldA {ok : Nat → Bool} {f : Str} {g : Int → Int → Int} (h : Wo (fun a s1 => ∃ k c fs i, objAt s1 a = some (k, c, fs) ∧ ok c = true ∧ fs.lookup f = some (.int i) ∧ Wo (fun b s2 => ∃ j fs', b = .val (.int j) ∧ s2.M[k]? = some (.obj c fs') ∧ fs'.length < 1000 ∧ N ⟨s2.env, s2.M.set k (.obj c (putD f (.int (g i j)) fs'))⟩) (fun x s => O (.er x s)) (mv s1)) (fun x s => O (.er x s)) (mo s)) : Ws N O (mFldA ok f g mo mv s) :=
  w_toS (w_mono h fun a s1 ⟨k, c, fs, i, e, h1, h2, h⟩ => by
    show Ws N O (match objAt s1 a with | some (k, c, fs) => _ | none => _)
    rw [e]; simp only []; rw [if_pos h1, h2]
    exact w_toS (w_mono h fun b s2 ⟨j, fs', e1, e2, h3, h⟩ => by
      subst e1
      show Ws N O (match s2.M[k]? with | some (.obj c' fs') => _ | _ => _)
      rw [e2]; simp only []; rw [if_pos ⟨trivial, h3⟩]; exact h))
theorem w_methN {c : Nat} {nm : Str} {f : Mf} (h : Wo (fun a s1 => ∃ k fs, objAt s1 a = some (k, c, fs) ∧ fs.lookup nm = none ∧ Wo (fun ds s2 => Fo (fun a M' => QA a ⟨s2.env, M'⟩) (f (.cid k :: ds) s2.M)) X (ma s1)) X (mo s)) : Wo QA X (mMethN c nm f mo ma s) := w_bind (w_mono h fun a s1 ⟨k, fs, e, h1, h⟩ => by
  show Wo QA X (match objAt s1 a with | some (k, c', fs) => _ | none => _)
  rw [e]; simp only []; rw [if_pos ⟨trivial, h1⟩]
  exact w_bind (w_mono h fun ds s2 h => by
    show Wo QA X (match f (.cid k :: ds) s2.M with | .ok a M' => _ | _ => _)
    cases q : f (.cid k :: ds) s2.M <;> rw [q] at h <;> exact h))
theorem w_methS {c : Nat} {nm : Str} {f : Mf} (h : Wo (fun a s1 => ∃ k fs, objAt s1 a = some (k, c, fs) ∧ fs.lookup nm = none ∧ Wo (fun ds s2 => Fx (fun a M' => QA a ⟨s2.env, M'⟩) (fun x M' => X x ⟨s2.env, M'⟩) (f (.cid k :: ds) s2.M)) X (ma s1)) X (mo s)) : Wo QA X (mMethS c nm f mo ma s) := w_bind (w_mono h fun a s1 ⟨k, fs, e, h1, h⟩ => by
  show Wo QA X (match objAt s1 a with | some (k, c', fs) => _ | none => _)
  rw [e]; simp only []; rw [if_pos ⟨trivial, h1⟩]
  exact w_bind (w_mono h fun ds s2 h => by
    show Wo QA X (match f (.cid k :: ds) s2.M with | .ok a M' => _ | .er x M' => _ | .no => _)
    cases q : f (.cid k :: ds) s2.M <;> rw [q] at h <;> exact h))
theorem w_makeN {c : Nat} {f : Mf} {dds : List D} (h : Wo (fun ds s1 => Fo (fun a M' => a = .val .non ∧ QA (.val (.cid s1.M.length)) ⟨s1.env, M'⟩) (f (.cid s1.M.length :: (ds ++ dds)) (s1.M ++ [.obj c []]))) X (ma s)) : Wo QA X (mMakeN c f dds ma s) := w_bind (w_mono h fun ds s1 h => by
  show Wo QA X (match f (.cid s1.M.length :: (ds ++ dds)) (s1.M ++ [.obj c []]) with | .ok (.val .non) M' => _ | _ => _)
  cases q : f (.cid s1.M.length :: (ds ++ dds)) (s1.M ++ [.obj c []]) with
  | no => rw [q] at h; exact h
  | er x M' => rw [q] at h; exact h
  | ok a M' => rw [q] at h; obtain ⟨rfl, h⟩ := h; exact h)
theorem w_makeS {c : Nat} {f : Mf} {dds : List D} (h : Wo (fun ds s1 => Fx (fun a M' => a = .val .non ∧ QA (.val (.cid s1.M.length)) ⟨s1.env, M'⟩) (fun x M' => X x ⟨s1.env, M'⟩) (f (.cid s1.M.length :: (ds ++ dds)) (s1.M ++ [.obj c []]))) X (ma s)) : Wo QA X (mMakeS c f dds ma s) := w_bind (w_mono h fun ds s1 h => by
  show Wo QA X (match f (.cid s1.M.length :: (ds ++ dds)) (s1.M ++ [.obj c []]) with | .ok (.val .non) M' => _ | .er x M' => _ | _ => _)
  cases q : f (.cid s1.M.length :: (ds ++ dds)) (s1.M ++ [.obj c []]) with
  | no => rw [q] at h; exact h
  | er x M' => rw [q] at h; exact h
  | ok a M' => rw [q] at h; obtain ⟨rfl, h⟩ := h; exact h)
theorem objAt_of {k c : Nat} {fs : List (Str × D)} (h : s.M[k]? = some (.obj c fs)) : objAt s (.val (.cid k)) = some (k, c, fs) := by unfold objAt; simp only []; rw [h]
end
end Y
namespace Y
open PySem L2 Z
open PyProof.Rows
end Y
namespace Y
open PySem L2 Z
section
variable {K : PySem.W.Frag} {ct : Ct} {H0 : Hp} {W : WX}
def leI (i j : Int) : Bool := decide (i ≤ j)
def mSortVals (mo : Mo AI) : Mo AI := fun s => (mo s).bind fun a s1 => match (viewD s1 a).bind fun l => intsD (l.map Prod.snd) with
  | some is => .ok (.new (.lst ((is.mergeSort leI).map D.int))) s1
  | none => .no
def mMinVals (mo : Mo AI) : Mo AI := fun s => (mo s).bind fun a s1 => match a with
  | .val (.cid k) => match s1.M[k]? with
    | some (.dK l) => match intsD (l.map Prod.snd) with
      | some (i :: is) => .ok (.val (.int (is.foldl min i))) s1
      | _ => .no
    | _ => .no
  | _ => .no
def mAsgTB (n : Nat) (g : Tgs) (f : Mf) (m : Mo (List AI)) : Ms := fun s => (m s).toS fun as s1 => match snap s1 as with
  | some ds => if D.noIdL ds = true then (match f ds [] with
    | .ok (.val d) _ => (match tupOf d with
      | some l => if l.length = n ∧ l.all D.scal = true then (match g l s1 with | some s2 => .nx s2 | none => .no) else .no
      | none => .no)
    | _ => .no) else .no
  | none => .no
variable {s : Stt} {QA : AI → Stt → Prop} {X : Exn → Stt → Prop} {N : Stt → Prop} {O : Rs → Prop}
theorem w_sortVals {m : Mo AI} (h : Wo (fun a s1 => ∃ l is, viewD s1 a = some l ∧ intsD (l.map Prod.snd) = some is ∧ QA (.new (.lst ((is.mergeSort leI).map D.int))) s1) X (m s)) : Wo QA X (mSortVals m s) := w_bind (w_mono h fun a s1 ⟨l, is, e1, e2, h⟩ => by
  show Wo QA X (match (viewD s1 a).bind fun l => intsD (l.map Prod.snd) with | some is => _ | none => _)
  rw [e1, Option.bind_some, e2]; exact h)
theorem w_minVals {m : Mo AI} (h : Wo (fun a s1 => ∃ k l i is, a = .val (.cid k) ∧ s1.M[k]? = some (.dK l) ∧ intsD (l.map Prod.snd) = some (i :: is) ∧ QA (.val (.int (is.foldl min i))) s1) X (m s)) : Wo QA X (mMinVals m s) := w_bind (w_mono h fun a s1 ⟨k, l, i, is, e1, e2, e3, h⟩ => by
  subst e1
  show Wo QA X (match s1.M[k]? with | some (.dK l) => _ | _ => _)
  rw [e2]; simp only []; rw [e3]; exact h)
theorem w_asgTB {n : Nat} {g : Tgs} {f : Mf} {m : Mo (List AI)} (h : Wo (fun as s1 => ∃ ds d M' l s2, snap s1 as = some ds ∧ D.noIdL ds = true ∧ f ds [] = .ok (.val d) M' ∧ tupOf d = some l ∧ l.length = n ∧ l.all D.scal = true ∧ g l s1 = some s2 ∧ N s2) (fun x s => O (.er x s)) (m s)) : Ws N O (mAsgTB n g f m s) := w_toS (w_mono h fun as s1 ⟨ds, d, M', l, s2, e1, e2, e3, e4, e5, e6, e7, h⟩ => by
  show Ws N O (match snap s1 as with | some ds => _ | none => _)
  rw [e1]; simp only []; rw [if_pos e2, e3]; simp only []; rw [e4]; simp only []; rw [if_pos ⟨e5, e6⟩, e7]; exact h)
theorem w_get2 {m1 m2 m3 : Mo AI} (h : Wo (fun a s1 => (∃ l, viewD s1 a = some l) ∧ Wo (fun i s2 => Wo (fun x s3 => ∃ l k, viewD s3 a = some l ∧ keyOf i = some k ∧ QA (.val ((vl l k).getD x)) s3) X (mV m3 s2)) X (mV m2 s1)) X (m1 s)) : Wo QA X (mGet2 m1 m2 m3 s) := w_bind (w_mono h fun a s1 ⟨⟨l, e⟩, h⟩ => by
  show Wo QA X (match viewD s1 a with | some _ => _ | none => _)
  rw [e]
  exact w_bind (w_mono h fun i s2 h => w_bind (w_mono h fun x s3 ⟨l', k, e1, e2, h⟩ => by
    unfold fGet; rw [e1]; simp only []; rw [e2]; exact h)))
end
theorem z_b0 {b : Bool} {A C : Prop} (h : b = false) (k : C) : if b = true then A else C := by rw [h]; exact k
theorem z_b1 {b : Bool} {A C : Prop} (h : b = true) (k : A) : if b = true then A else C := by rw [h]; exact k
end Y
namespace Y
open PySem L2 Z
section
variable {K : PySem.W.Frag} {ct : Ct} {H0 : Hp} {W : WX}
def mWN (m : Mo AI) : Mo Im := fun s => match m s with
  | .ok (.new (.dK l)) s1 => .ok ⟨dIt .keys l, none⟩ s1
  | .er x s1 => .er x s1
  | _ => .no
variable {s : Stt} {QI : Im → Stt → Prop} {X : Exn → Stt → Prop}
theorem w_wn {m : Mo AI} (h : Wo (fun a s1 => ∃ l, a = .new (.dK l) ∧ QI ⟨dIt .keys l, none⟩ s1) X (m s)) : Wo QI X (mWN m s) := by
  unfold mWN
  cases q : m s with
  | no => rw [q] at h; exact h
  | er x s1 => rw [q] at h; exact h
  | ok a s1 => rw [q] at h; obtain ⟨l, rfl, h⟩ := h; exact h
end
end Y
namespace Y
open PySem L2 Z
open PySem.W
end Y
namespace Y
open PySem L2 Z
open PySem.W
section
variable {s : Stt} {QA : AI → Stt → Prop} {QI : Im → Stt → Prop} {X : Exn → Stt → Prop} {N : Stt → Prop} {O : Rs → Prop}
theorem w_wz {r : Mo (List D)} (h : Wo (fun ds s1 => ∃ l l', ds = [.lst l, .lst l'] ∧ QI ⟨zipL l l', none⟩ s1) X (r s)) : Wo QI X (mWZ r s) :=
  w_bind (w_mono h fun ds s1 h => by
    obtain ⟨l, l', rfl, h⟩ := h
    exact h)
theorem w_wzI {l l' : List D} {P : List D → List D → Prop} (h : P l l') : ∃ m m', [D.lst l, D.lst l'] = [.lst m, .lst m'] ∧ P m m' := ⟨l, l', rfl, h⟩
end
end Y
namespace Y
open PySem L2 Z
open PySem.W
end Y
namespace Y
open PySem L2 Z
section
variable {K : PySem.W.Frag} {ct : Ct} {H0 : Hp} {W : WX} {S : Sh} {s : Stt} {σ : St} {H : Hp}
/-- o[i] op= e, a list of ints -/
def mAugS (f : Int → Int → Int) (mo mi mv : Mo AI) : Ms := fun s => (mo s).toS fun a s1 => (mV mi s1).toS fun i s2 => match i with
  | .int k => (match (viewL s2 a).bind fun l => l[k.toNat]? with
    | some (.int x) => if 0 ≤ k then ((mv s2).toS fun b s3 => match b with
      | .val (.int y) => match setIt a (.int k) (.int (f x y)) s3 with
        | some s4 => .nx s4
        | none => .no
      | _ => .no) else .no
    | _ => .no)
  | _ => .no
end
section
variable {s : Stt} {QA : AI → Stt → Prop} {X : Exn → Stt → Prop} {N : Stt → Prop} {O : Rs → Prop}
theorem w_augS {f : Int → Int → Int} {mo mi mv : Mo AI} (h : Wo (fun a s1 => Wo (fun i s2 => ∃ (k x : Int) (l : List D), i = .int k ∧ viewL s2 a = some l ∧ l[k.toNat]? = some (.int x) ∧ 0 ≤ k ∧ Wo (fun b s3 => ∃ y, b = .val (.int y) ∧ So N (setIt a (.int k) (.int (f x y)) s3)) (fun x s => O (.er x s)) (mv s2)) (fun x s => O (.er x s)) (mV mi s1)) (fun x s => O (.er x s)) (mo s)) : Ws N O (mAugS f mo mi mv s) :=
  w_toS (w_mono h fun a s1 h => w_toS (w_mono h fun i s2 h => by
    obtain ⟨k, x, l, rfl, h1, h2, h3, h⟩ := h
    show Ws N O (match (viewL s2 a).bind fun l => l[k.toNat]? with
    | some (.int x) => if 0 ≤ k then ((mv s2).toS fun b s3 => match b with
      | .val (.int y) => match setIt a (.int k) (.int (f x y)) s3 with
        | some s4 => .nx s4
        | none => .no
      | _ => .no) else .no
    | _ => .no)
    rw [h1, Option.bind_some, h2]
    show Ws N O (if 0 ≤ k then _ else _)
    rw [if_pos h3]
    refine w_toS (w_mono h fun b s3 h => ?_)
    obtain ⟨y, rfl, h⟩ := h
    show Ws N O (match setIt a (.int k) (.int (f x y)) s3 with | some s4 => .nx s4 | none => .no)
    cases q : setIt a (.int k) (.int (f x y)) s3 <;> rw [q] at h <;> exact h))
end
end Y
namespace Y
open PySem L2 Z
section
variable {K : PySem.W.Frag} {ct : Ct} {H0 : Hp} {W : WX} {S : Sh} {s : Stt} {σ : St} {H : Hp}
def keysD : List D → Option (List Key)
  | [] => some []
  | d :: l => (keyOf d).bind fun k => (keysD l).map (k :: ·)
def tkey : D → Option (List Key)
  | .tup l => keysD l
  | _ => none
/-- o[i] = d -/
def setItT (a : AI) (i d : D) (s : Stt) : Option Stt := match getC s a with
  | some (.dT l) => (tkey i).bind fun k => if l.length < sizeLine then some (setC s a (.dT (pu l k d))) else none
  | _ => none
def mAsgST (mo mi : Mo AI) (mv : Mo AI) : Ms := fun s => (mV mv s).toS fun d s1 => (mo s1).toS fun a s2 => (mV mi s2).toS fun i s3 => match setItT a i d s3 with
  | some s4 => .nx s4
  | none => .no
def mDNewT : Mo AI := fun s => .ok (.new (.dT [])) s
/-- d.get(k), d.get(k, x) -/
def fGetT (s : Stt) (a : AI) (i x : D) : Ro AI := match viewDT s a with
  | some l => match tkey i with
    | some k => .ok (.val ((vl l k).getD x)) s
    | none => .no
  | none => .no
def mGet2T (mo mi mx : Mo AI) : Mo AI := fun s => (mo s).bind fun a s1 => match viewDT s1 a with
  | some _ => (mV mi s1).bind fun i s2 => (mV mx s2).bind fun x s3 => fGetT s3 a i x
  | none => .no
def mGet1T (mo mi : Mo AI) : Mo AI := fun s => (mo s).bind fun a s1 => match viewDT s1 a with
  | some _ => (mV mi s1).bind fun i s2 => fGetT s2 a i .non
  | none => .no
/-- d.get(k) of a dict with plain keys -/
def mGet1 (mo mi : Mo AI) : Mo AI := fun s => (mo s).bind fun a s1 => match viewD s1 a with
  | some _ => (mV mi s1).bind fun i s2 => fGet s2 a i .non
  | none => .no
end
section
variable {s : Stt} {X : Exn → Stt → Prop} {QA : AI → Stt → Prop} {N : Stt → Prop} {O : Rs → Prop} {m1 m2 m3 : Mo AI}
theorem w_dnewT (h : QA (.new (.dT [])) s) : Wo QA X (mDNewT s) := h
theorem w_asgST (h : Wo (fun d s1 => Wo (fun a s2 => Wo (fun i s3 => So N (setItT a i d s3)) (fun x s => O (.er x s)) (mV m2 s2)) (fun x s => O (.er x s)) (m1 s1)) (fun x s => O (.er x s)) (mV m3 s)) : Ws N O (mAsgST m1 m2 m3 s) :=
  w_toS (w_mono h fun d s1 h => w_toS (w_mono h fun a s2 h => w_toS (w_mono h fun i s3 h => by
    show Ws N O (match setItT a i d s3 with | some s4 => _ | none => _)
    cases e : setItT a i d s3 with
    | none => rw [e] at h; exact h.elim
    | some s4 => rw [e] at h; exact h)))
theorem w_get2T (h : Wo (fun a s1 => (∃ l, viewDT s1 a = some l) ∧ Wo (fun i s2 => Wo (fun x s3 => ∃ l k, viewDT s3 a = some l ∧ tkey i = some k ∧ QA (.val ((vl l k).getD x)) s3) X (mV m3 s2)) X (mV m2 s1)) X (m1 s)) : Wo QA X (mGet2T m1 m2 m3 s) := w_bind (w_mono h fun a s1 ⟨⟨l, e⟩, h⟩ => by
  show Wo QA X (match viewDT s1 a with | some _ => _ | none => _)
  rw [e]
  exact w_bind (w_mono h fun i s2 h => w_bind (w_mono h fun x s3 ⟨l', k, e1, e2, h⟩ => by
    unfold fGetT; rw [e1]; simp only []; rw [e2]; exact h)))
theorem w_get1T (h : Wo (fun a s1 => (∃ l, viewDT s1 a = some l) ∧ Wo (fun i s2 => ∃ l k, viewDT s2 a = some l ∧ tkey i = some k ∧ QA (.val ((vl l k).getD .non)) s2) X (mV m2 s1)) X (m1 s)) : Wo QA X (mGet1T m1 m2 s) := w_bind (w_mono h fun a s1 ⟨⟨l, e⟩, h⟩ => by
  show Wo QA X (match viewDT s1 a with | some _ => _ | none => _)
  rw [e]
  exact w_bind (w_mono h fun i s2 ⟨l', k, e1, e2, h⟩ => by
    show Wo QA X (fGetT s2 a i .non)
    unfold fGetT; rw [e1]; simp only []; rw [e2]; exact h))
theorem w_get1 (h : Wo (fun a s1 => (∃ l, viewD s1 a = some l) ∧ Wo (fun i s2 => ∃ l k, viewD s2 a = some l ∧ keyOf i = some k ∧ QA (.val ((vl l k).getD .non)) s2) X (mV m2 s1)) X (m1 s)) : Wo QA X (mGet1 m1 m2 s) := w_bind (w_mono h fun a s1 ⟨⟨l, e⟩, h⟩ => by
  show Wo QA X (match viewD s1 a with | some _ => _ | none => _)
  rw [e]
  exact w_bind (w_mono h fun i s2 ⟨l', k, e1, e2, h⟩ => by
    show Wo QA X (fGet s2 a i .non)
    unfold fGet; rw [e1]; simp only []; rw [e2]; exact h))
end
end Y
namespace Y
open PySem L2 Z
def mapO {α β : Type} (g : α → Option β) : List α → Option (List β)
  | [] => some []
  | d :: l => (g d).bind fun d' => (mapO g l).map (d' :: ·)
/-- what stands behind ids, as data -/
def rsv : Nat → List Cn → D → Option D
  | 0, _, _ => none
  | f + 1, M, .cid k => match M[k]? with
    | some (.lst l) => (mapO (rsv f M) l).map .lst
    | some (.dK l) => (mapO (rsv f M) (l.map Prod.snd)).map fun vs => .dK ((l.map Prod.fst).zip vs)
    | some (.dT l) => (mapO (rsv f M) (l.map Prod.snd)).map fun vs => .dT ((l.map Prod.fst).zip vs)
    | _ => none
  | f + 1, M, .tup l => (mapO (rsv f M) l).map .tup
  | f + 1, M, .ctp l => (mapO (rsv f M) l).map .ctp
  | f + 1, M, .lst l => (mapO (rsv f M) l).map .lst
  | f + 1, M, .clst l => (mapO (rsv f M) l).map .clst
  | f + 1, M, .dK l => (mapO (rsv f M) (l.map Prod.snd)).map fun vs => .dK ((l.map Prod.fst).zip vs)
  | f + 1, M, .dT l => (mapO (rsv f M) (l.map Prod.snd)).map fun vs => .dT ((l.map Prod.fst).zip vs)
  | _ + 1, _, .non => some .non
  | _ + 1, _, .bl b => some (.bl b)
  | _ + 1, _, .int i => some (.int i)
  | _ + 1, _, .str x => some (.str x)
  | _ + 1, _, .ty n => some (.ty n)
section
variable {K : PySem.W.Frag} {ct : Ct} {H0 : Hp} {W : WX} {S : Sh} {s : Stt} {σ : St} {H : Hp}
def pureR (r : Fr) (s : Stt) : Ro AI := match r with
  | .ok (.val d) M' => match rsv 9 M' d with
    | some d' => .ok (.val d') s
    | none => .no
  | .ok (.new (.lst l)) M' => match mapO (rsv 9 M') l with
    | some l' => .ok (.new (.lst l')) s
    | none => .no
  | .er x M' => match mapO (rsv 9 M') (x.fs.map Prod.snd) with
    | some vs => .er ⟨x.cls, (x.fs.map Prod.fst).zip vs⟩ s
    | none => .no
  | _ => .no
def mCallP (f : Mf) (m : Mo (List D)) : Mo AI := fun s => (m s).bind fun ds s1 => if D.noIdL ds = true then (match f ds [] with
  | .er _ _ => .no
  | r => pureR r s1) else .no
def mCallPS (f : Mf) (m : Mo (List D)) : Mo AI := fun s => (m s).bind fun ds s1 => if D.noIdL ds = true then pureR (f ds []) s1 else .no
end
/-- what a pure call tells -/
def Pf (P : AI → Prop) (E : Exn → Prop) : Fr → Prop
  | .ok (.val d) M' => ∃ d', rsv 9 M' d = some d' ∧ P (.val d')
  | .ok (.new (.lst l)) M' => ∃ l', mapO (rsv 9 M') l = some l' ∧ P (.new (.lst l'))
  | .er x M' => ∃ vs, mapO (rsv 9 M') (x.fs.map Prod.snd) = some vs ∧ E ⟨x.cls, (x.fs.map Prod.fst).zip vs⟩
  | _ => False
section
variable {s : Stt} {X : Exn → Stt → Prop} {QA : AI → Stt → Prop} {f : Mf} {ma : Mo (List D)}
theorem w_pureR {r : Fr} (h : Pf (fun a => QA a s) (fun x => X x s) r) : Wo QA X (pureR r s) := by
  unfold pureR
  cases r with
  | no => exact h.elim
  | er x M' => obtain ⟨vs, e, h⟩ := h; simp only []; rw [e]; exact h
  | ok a M' =>
    cases a with
    | val d => obtain ⟨vs, e, h⟩ := h; simp only []; rw [e]; exact h
    | slot j => exact h.elim
    | new c =>
      cases c with
      | lst l => obtain ⟨vs, e, h⟩ := h; simp only []; rw [e]; exact h
      | _ => exact h.elim
theorem w_callP (h : Wo (fun ds s1 => D.noIdL ds = true ∧ Pf (fun a => QA a s1) (fun _ => False) (f ds [])) X (ma s)) : Wo QA X (mCallP f ma s) := w_bind (w_mono h fun ds s1 ⟨e, h⟩ => by
  show Wo QA X (if D.noIdL ds = true then _ else _)
  rw [if_pos e]
  generalize f ds [] = r at h ⊢
  cases r with
  | no => exact h.elim
  | er x M' => obtain ⟨_, _, h⟩ := h; exact h.elim
  | ok a M' => exact w_pureR (show Pf (fun a => QA a s1) (fun x => X x s1) (.ok a M') from by
      cases a with
      | val d => exact h
      | slot j => exact h.elim
      | new c =>
        cases c with
        | lst l => exact h
        | _ => exact h.elim))
theorem w_callPS (h : Wo (fun ds s1 => D.noIdL ds = true ∧ Pf (fun a => QA a s1) (fun x => X x s1) (f ds [])) X (ma s)) : Wo QA X (mCallPS f ma s) := w_bind (w_mono h fun ds s1 ⟨e, h⟩ => by
  show Wo QA X (if D.noIdL ds = true then _ else _)
  rw [if_pos e]
  exact w_pureR h)
end
end Y
namespace Y
open PySem L2 Z
theorem viewL_cid {s : Stt} {k : Nat} {l : List D} (h : s.M[k]? = some (.lst l)) : viewL s (.val (.cid k)) = some l := by
  show s.M[k]?.bind Cn.aL = some l; rw [h]; rfl
theorem viewD_cid {s : Stt} {k : Nat} {l : List D} (h : s.M[k]? = some (.lst l)) : viewD s (.val (.cid k)) = none := by
  show s.M[k]?.bind Cn.aK = none; rw [h]; rfl
theorem lenD_cid {M : List Cn} {k : Nat} {l : List D} (h : M[k]? = some (.lst l)) : lenD M (.cid k) = some l.length := by
  show M[k]?.bind _ = _; rw [h]; rfl
theorem w_lenC {QA : AI → Stt → Prop} {X : Exn → Stt → Prop} {env : List (Option Ent)} {M : List Cn} {k : Nat} {l : List D} (h : M[k]? = some (.lst l)) (q : QA (.val (.int (l.length : Int))) ⟨env, M⟩) : Wo QA X (fLen ⟨env, M⟩ [.val (.cid k)]) := w_len (d := .cid k) rfl (lenD_cid h) q
section
variable {K : PySem.W.Frag} {ct : Ct} {H0 : Hp} {W : WX}
def fSlT (s : Stt) (a : AI) (lo hi : Option Int) : Ro AI := match viewT s a with
  | some l => if HT.sIx l.length 0 lo = 0 ∧ HT.sIx l.length l.length hi = l.length then .no else .ok (.val (.tup (cutL l lo hi))) s
  | none => .no
def mSlT (m : Mo AI) (ml mh : Mo (Option Int)) : Mo AI := fun s => (m s).bind fun a s1 => (ml s1).bind fun l s2 => (mh s2).bind fun h s3 => fSlT s3 a l h
variable {s : Stt} {X : Exn → Stt → Prop} {QA : AI → Stt → Prop} {m : Mo AI}
theorem w_slTp {ml mh : Mo (Option Int)} (h : Wo (fun a s1 => Wo (fun l s2 => Wo (fun u s3 => Wo QA X (fSlT s3 a l u)) X (mh s2)) X (ml s1)) X (m s)) : Wo QA X (mSlT m ml mh s) := w_bind (w_mono h fun _ _ h => w_bind (w_mono h fun _ _ h => w_bind h))
theorem w_slTu {a : AI} {l : List D} {lo hi : Option Int} (e : viewT s a = some l) (c : ¬ (HT.sIx l.length 0 lo = 0 ∧ HT.sIx l.length l.length hi = l.length)) (h : QA (.val (.tup (cutL l lo hi))) s) : Wo QA X (fSlT s a lo hi) := by
  unfold fSlT; rw [e]; simp only []; rw [if_neg c]; exact h
end
end Y
namespace Y
open PySem L2 Z
def Lay (k : Nat) (x : PyData) : Prop := x.canLay0 = true ∧ x.depth ≤ k
theorem lay_int {i : Int} : Lay 1 (.int i) := ⟨rfl, by simp [PyData.depth]⟩
theorem Lay.mono {k m : Nat} {x : PyData} (h : Lay k x) (hk : k ≤ m) : Lay m x := ⟨h.1, Nat.le_trans h.2 hk⟩
theorem lay_all {k : Nat} : ∀ {l : List PyData}, (∀ x ∈ l, Lay k x) → PyData.canLayAll0 l = true ∧ PyData.depthAll l ≤ k
  | [], _ => ⟨rfl, Nat.zero_le _⟩
  | x :: l, h => by
    obtain ⟨h1, h2⟩ := lay_all (l := l) (fun y hy => h y (List.mem_cons_of_mem _ hy))
    obtain ⟨h3, h4⟩ := h x List.mem_cons_self
    refine ⟨?_, ?_⟩
    · show (x.canLay0 && PyData.canLayAll0 l) = true; rw [h3, h1]; rfl
    · show max x.depth (PyData.depthAll l) ≤ k; omega
theorem lay_tup {k : Nat} {l : List PyData} (h : ∀ x ∈ l, Lay k x) : Lay (k + 1) (.tuple l) := by
  obtain ⟨h1, h2⟩ := lay_all h
  exact ⟨h1, by show PyData.depthAll l + 1 ≤ k + 1; omega⟩
theorem lay_lst {k : Nat} {l : List PyData} (h : ∀ x ∈ l, Lay k x) : Lay (k + 1) (.list l) := by
  obtain ⟨h1, h2⟩ := lay_all h
  exact ⟨h1, by show PyData.depthAll l + 1 ≤ k + 1; omega⟩
theorem Lay.shaped {k : Nat} {x : PyData} (h : Lay k x) (hk : k ≤ 64) : SeqAt.shaped x = true := by
  unfold SeqAt.shaped
  rw [h.1, decide_eq_true (Nat.le_trans h.2 hk)]; rfl
end Y
namespace Y
open PySem L2 Z
section
variable {N : Stt → Prop} {O : Rs → Prop} {s : Stt} {a b : Ms}
theorem noid_and {ds : List D} {P : Prop} (h : D.noIdL ds = true) (p : P) : D.noIdL ds = true ∧ P := ⟨h, p⟩
end
end Y
namespace Y
open PySem L2 Z
section
variable {K : PySem.W.Frag} {ct : Ct} {H0 : Hp} {W : WX} {S : Sh} {s : Stt} {σ : St} {H : Hp}
def vConsK (m : Mo AI) (r : Mo (List D)) : Mo (List D) := fun s => (mK m s).bind fun a s1 => (r s1).bind fun as s2 => .ok (a :: as) s2
end
mutual
def shD (n : Nat) : D → D
  | .tup l => .tup (shL n l)
  | .ctp l => .ctp (shL n l)
  | .lst l => .lst (shL n l)
  | .clst l => .clst (shL n l)
  | .dK l => .dK (shK n l)
  | .dT l => .dT (shT n l)
  | .cid k => .cid (n + k)
  | d => d
def shL (n : Nat) : List D → List D
  | [] => []
  | d :: l => shD n d :: shL n l
def shK (n : Nat) : List (Key × D) → List (Key × D)
  | [] => []
  | (k, d) :: l => (k, shD n d) :: shK n l
def shT (n : Nat) : List (List Key × D) → List (List Key × D)
  | [] => []
  | (k, d) :: l => (k, shD n d) :: shT n l
end
def shF (n : Nat) : List (Str × D) → List (Str × D)
  | [] => []
  | (k, d) :: l => (k, shD n d) :: shF n l
def shC (n : Nat) : Cn → Cn
  | .lst l => .lst (shL n l)
  | .dK l => .dK (shK n l)
  | .dT l => .dT (shT n l)
  | .obj c fs => .obj c (shF n fs)
  | .lkK l => .lkK (shK n l)
  | .lkT l => .lkT (shT n l)
section
variable {K : PySem.W.Frag} {ct : Ct} {H0 : Hp} {W : WX} {S : Sh} {s : Stt} {σ : St} {H : Hp} {G : Hp} {α β : Nat → Addr} {n n' : Nat}
def Sh.join (S S' : Sh) (n : Nat) : Sh := ⟨S'.G, fun k => if k < n then S.α k else S'.α (k - n), fun a => match S.lab a with
  | some l => some l
  | none => match S'.lab a with
    | some (.id k) => some (.id (n + k))
    | _ => none⟩
def takeR (r : Fr) (s : Stt) : Ro AI := match r with
  | .ok (.val d) M' => .ok (.val (shD s.M.length d)) ⟨s.env, s.M ++ M'.map (shC s.M.length)⟩
  | .ok (.new c) M' => .ok (.new (shC s.M.length c)) ⟨s.env, s.M ++ M'.map (shC s.M.length)⟩
  | .er x M' => .er ⟨x.cls, shF s.M.length x.fs⟩ ⟨s.env, s.M ++ M'.map (shC s.M.length)⟩
  | _ => .no
def mCallT (f : Mf) (m : Mo (List D)) : Mo AI := fun s => (m s).bind fun ds s1 => if D.noIdL ds = true then (match f ds [] with
  | .er _ _ => .no
  | r => takeR r s1) else .no
def mCallTS (f : Mf) (m : Mo (List D)) : Mo AI := fun s => (m s).bind fun ds s1 => if D.noIdL ds = true then takeR (f ds []) s1 else .no
end
/-- what a call tells whose cells are taken over -/
def Tf (n : Nat) (P : AI → List Cn → Prop) (E : Exn → List Cn → Prop) : Fr → Prop
  | .ok (.val d) M' => P (.val (shD n d)) (M'.map (shC n))
  | .ok (.new c) M' => P (.new (shC n c)) (M'.map (shC n))
  | .er x M' => E ⟨x.cls, shF n x.fs⟩ (M'.map (shC n))
  | _ => False
section
variable {s : Stt} {X : Exn → Stt → Prop} {QA : AI → Stt → Prop} {QV : List D → Stt → Prop} {f : Mf} {ma : Mo (List D)} {m : Mo AI} {r : Mo (List D)}
theorem w_vConsK (h : Wo (fun a s1 => Wo (fun as s2 => QV (a :: as) s2) X (r s1)) X (mK m s)) : Wo QV X (vConsK m r s) := w_bind (w_mono h fun _ _ h => w_bind (w_mono h fun _ _ h => h))
theorem w_takeR {r : Fr} (h : Tf s.M.length (fun a M' => QA a ⟨s.env, s.M ++ M'⟩) (fun x M' => X x ⟨s.env, s.M ++ M'⟩) r) : Wo QA X (takeR r s) := by
  unfold takeR
  cases r with
  | no => exact h.elim
  | er x M' => exact h
  | ok a M' =>
    cases a with
    | val d => exact h
    | slot j => exact h.elim
    | new c => exact h
theorem w_callT (h : Wo (fun ds s1 => D.noIdL ds = true ∧ Tf s1.M.length (fun a M' => QA a ⟨s1.env, s1.M ++ M'⟩) (fun _ _ => False) (f ds [])) X (ma s)) : Wo QA X (mCallT f ma s) := w_bind (w_mono h fun ds s1 ⟨e, h⟩ => by
  show Wo QA X (if D.noIdL ds = true then _ else _)
  rw [if_pos e]
  generalize f ds [] = r at h ⊢
  cases r with
  | no => exact h.elim
  | er x M' => exact h.elim
  | ok a M' => exact w_takeR (show Tf s1.M.length (fun a M' => QA a ⟨s1.env, s1.M ++ M'⟩) (fun x M' => X x ⟨s1.env, s1.M ++ M'⟩) (.ok a M') from by
      cases a with
      | val d => exact h
      | slot j => exact h.elim
      | new c => exact h))
theorem w_callTS (h : Wo (fun ds s1 => D.noIdL ds = true ∧ Tf s1.M.length (fun a M' => QA a ⟨s1.env, s1.M ++ M'⟩) (fun x M' => X x ⟨s1.env, s1.M ++ M'⟩) (f ds [])) X (ma s)) : Wo QA X (mCallTS f ma s) := w_bind (w_mono h fun ds s1 ⟨e, h⟩ => by
  show Wo QA X (if D.noIdL ds = true then _ else _)
  rw [if_pos e]
  exact w_takeR h)
end
end Y
namespace Y
open PySem L2 Z
end Y
namespace Y
open PySem L2 Z
end Y
namespace Y
open PySem L2 Z
theorem w_mI {s : Stt} {X : Exn → Stt → Prop} {QA : AI → Stt → Prop} {m : Mo D} (h : Wo (fun d s1 => QA (.val d) s1) X (m s)) : Wo QA X (mI m s) := w_bind (w_mono h fun _ _ h => h)
end Y
namespace Y
open PySem L2 Z
section
variable {K : PySem.W.Frag} {ct : Ct} {H0 : Hp} {W : WX}
noncomputable def mForD (kd : KD) (i : Nat) (g : Tg) (b : Ms) : Ms := fun s => match entAt s i with
  | some (.fz (.dK l)) => (match forN g b none (dIt kd l) s with
    | .er _ _ => .no
    | r => r)
  | _ => .no
theorem w_forD {N : Stt → Prop} {O : Rs → Prop} {kd : KD} {i : Nat} {g : Tg} {b : Ms} {l : List (Key × D)} {s : Stt} (e : entAt s i = some (.fz (.dK l))) (h : Ws N (fun r => match r with | .er _ _ => False | r => O r) (forN g b none (dIt kd l) s)) : Ws N O (mForD kd i g b s) := by
  unfold mForD
  rw [e]
  simp only []
  generalize forN g b none (dIt kd l) s = R at h ⊢
  cases R with
  | er x s' => exact h.elim
  | _ => exact h
end
end Y
namespace Y
open PySem L2 Z
section
variable {K : PySem.W.Frag} {ct : Ct} {H0 : Hp} {W : WX}
def mTIdx (ns : List Int) (ma : Mo (List D)) : Mo AI := fun s => (ma s).bind fun ds s1 => match ds with
  | [.int i] => if i ∈ ns then .ok (.val (.int ((ns.idxOf i : Nat) : Int))) s1 else .no
  | _ => .no
theorem w_tidx {s : Stt} {X : Exn → Stt → Prop} {QA : AI → Stt → Prop} {ns : List Int} {ma : Mo (List D)} (h : Wo (fun ds s1 => ∃ i, ds = [.int i] ∧ i ∈ ns ∧ QA (.val (.int ((ns.idxOf i : Nat) : Int))) s1) X (ma s)) : Wo QA X (mTIdx ns ma s) := w_bind (w_mono h fun ds s1 ⟨i, e, hi, h⟩ => by
  subst e
  show Wo QA X (if i ∈ ns then _ else _)
  rw [if_pos hi]; exact h)
end
end Y
namespace Y
open PySem L2 Z
section
variable {K : PySem.W.Frag} {ct : Ct} {H0 : Hp} {W : WX}
noncomputable def mLcO (i : Nat) (ws : List Nat) (g : Tg) (c : Mo Bool) (e : Mo AI) : Mo AI := fun s => match entAt s i with
  | some (.ow (.lst l)) => (mLc ws (fun s => .ok ⟨l, none⟩ s) g c e ⟨s.env.set i none, s.M⟩).bind fun a s1 => .ok a ⟨s1.env.set i (some (.ow (.lst l))), s1.M⟩
  | _ => mLc ws (mWL (mName i)) g c e s
theorem w_lcO {QA : AI → Stt → Prop} {X : Exn → Stt → Prop} {s : Stt} {i : Nat} {ws : List Nat} {g : Tg} {c : Mo Bool} {e : Mo AI} {l : List D} (en : entAt s i = some (.ow (.lst l))) (h : ∃ l2 s2, lcN ws g c (mV e) none l [] (wipeS ws ⟨s.env.set i none, s.M⟩) = .ok l2 s2 ∧ QA (.new (.lst l2)) ⟨(Y.rest (s.env.set i none) s2.env ws).set i (some (.ow (.lst l))), s2.M⟩) : Wo QA X (mLcO i ws g c e s) := by
  unfold mLcO; rw [en]
  refine w_bind (w_lc (QA := fun a s1 => Wo QA X (.ok a ⟨s1.env.set i (some (.ow (.lst l))), s1.M⟩)) (show Wo _ X (Ro.ok (⟨l, none⟩ : Im) _) from h))
end
end Y
namespace Y
open PySem L2 Z
section
variable {K : PySem.W.Frag} {ct : Ct} {H0 : Hp} {W : WX} {S : Sh} {s : Stt} {σ : St} {H : Hp}
noncomputable def mLcG (ws : List Nat) (mi : Mo Im) (g : Tg) (c : Mo Bool) (e : Mo D) : Mo AI := fun s => (mi s).bind fun im s1 => match lcN ws g c e im.ck im.xs [] (wipeS ws s1) with
  | .ok l s2 => .ok (.new (.lst l)) ⟨rest s1.env s2.env ws, s2.M⟩
  | _ => .no
def CLR2 (i j : Int) : Prop := -(2 ^ 62) ≤ i ∧ i < 2 ^ 62 ∧ -(2 ^ 62) ≤ j ∧ j < 2 ^ 62 ∧ (j - i).toNat ≤ sizeLine
open Classical in
noncomputable def mLR2 (m1 m2 : Mo AI) : Mo AI := fun s => (m1 s).bind fun a s1 => (m2 s1).bind fun b s2 => match a, b with
  | .val (.int i), .val (.int j) => if CLR2 i j then .ok (.new (.lst (rng i (j - i).toNat))) s2 else .no
  | _, _ => .no
def kvNil : Mo (List (D × D)) := fun s => .ok [] s
def kvCons (mk mv : Mo AI) (r : Mo (List (D × D))) : Mo (List (D × D)) := fun s => (mV mk s).bind fun a s1 => (mV mv s1).bind fun b s2 => (r s2).bind fun l s3 => .ok ((a, b) :: l) s3
def kvKeys : List (D × D) → Option (List (Key × D))
  | [] => some []
  | (k, d) :: l => (keyOf k).bind fun k' => (kvKeys l).map ((k', d) :: ·)
def mDisp (r : Mo (List (D × D))) : Mo AI := fun s => (r s).bind fun l s1 => match kvKeys l with
  | some kl => if kl.length ≤ 15 then .ok (.new (.dK (mgD kl))) s1 else .no
  | none => .no
def mSetD (mo mi mx : Mo AI) : Mo AI := fun s => (mo s).bind fun a s1 => match viewD s1 a with
  | some _ => (mV mi s1).bind fun i s2 => (mK mx s2).bind fun x s3 => match getC s3 a, keyOf i with
    | some (.dK l), some k => if l.length < sizeLine then (match vl l k with
      | some d => .ok (.val d) s3
      | none => .ok (.val x) (setC s3 a (.dK (pu l k x)))) else .no
    | _, _ => .no
  | none => .no
def tgL (n : Nat) (f : Tgs) : Tg := fun d s => match listOf s.M d with
  | some l => if l.length = n then f l s else none
  | none => none
end
section
variable {s : Stt} {X : Exn → Stt → Prop} {QA : AI → Stt → Prop}
theorem w_lcG {ws : List Nat} {mi : Mo Im} {g : Tg} {c : Mo Bool} {e : Mo D} (h : Wo (fun im s1 => ∃ l s2, lcN ws g c e im.ck im.xs [] (wipeS ws s1) = .ok l s2 ∧ QA (.new (.lst l)) ⟨Y.rest s1.env s2.env ws, s2.M⟩) X (mi s)) : Wo QA X (mLcG ws mi g c e s) := by
  unfold mLcG
  cases q : mi s with
  | no => rw [q] at h; exact h
  | er x s1 => rw [q] at h; exact h
  | ok im s1 =>
    rw [q] at h
    obtain ⟨l, s2, e1, e2⟩ := h
    show Wo QA X (match lcN ws g c e im.ck im.xs [] (wipeS ws s1) with | .ok l s2 => .ok (.new (.lst l)) ⟨rest s1.env s2.env ws, s2.M⟩ | _ => .no)
    rw [e1]; exact e2
theorem w_lr2 {m1 m2 : Mo AI} (h : Wo (fun a s1 => Wo (fun b s2 => ∃ i j : Int, a = .val (.int i) ∧ b = .val (.int j) ∧ (-(2 ^ 62) ≤ i ∧ i < 2 ^ 62 ∧ -(2 ^ 62) ≤ j ∧ j < 2 ^ 62 ∧ (j - i).toNat ≤ sizeLine) ∧ QA (.new (.lst (rng i (j - i).toNat))) s2) X (m2 s1)) X (m1 s)) : Wo QA X (mLR2 m1 m2 s) := by
  refine w_bind (w_mono h fun a s1 h => w_bind (w_mono h fun b s2 h => ?_))
  obtain ⟨i, j, rfl, rfl, c, h⟩ := h
  simp only []
  rw [if_pos (show CLR2 i j from c)]; exact h
theorem w_kvNil {QK : List (D × D) → Stt → Prop} (h : QK [] s) : Wo QK X (kvNil s) := h
theorem w_kvCons {QK : List (D × D) → Stt → Prop} {mk mv : Mo AI} {r : Mo (List (D × D))} (h : Wo (fun a s1 => Wo (fun b s2 => Wo (fun l s3 => QK ((a, b) :: l) s3) X (r s2)) X (mV mv s1)) X (mV mk s)) : Wo QK X (kvCons mk mv r s) :=
  w_bind (w_mono h fun a s1 h => w_bind (w_mono h fun b s2 h => w_bind (w_mono h fun l s3 h => h)))
theorem w_disp {r : Mo (List (D × D))} (h : Wo (fun l s1 => ∃ kl, kvKeys l = some kl ∧ kl.length ≤ 15 ∧ QA (.new (.dK (mgD kl))) s1) X (r s)) : Wo QA X (mDisp r s) := by
  refine w_bind (w_mono h fun l s1 h => ?_)
  obtain ⟨kl, e, c, h⟩ := h
  rw [e]
  show Wo QA X (if _ then _ else _)
  rw [if_pos c]; exact h
theorem w_setD {m1 m2 m3 : Mo AI} (h : Wo (fun a s1 => (∃ l, viewD s1 a = some l) ∧ Wo (fun i s2 => Wo (fun x s3 => ∃ l k, getC s3 a = some (.dK l) ∧ keyOf i = some k ∧ l.length < sizeLine ∧ (match vl l k with
      | some d => QA (.val d) s3
      | none => QA (.val x) (setC s3 a (.dK (pu l k x))))) X (mK m3 s2)) X (mV m2 s1)) X (m1 s)) : Wo QA X (mSetD m1 m2 m3 s) := by
  refine w_bind (w_mono h fun a s1 h => ?_)
  obtain ⟨⟨l0, e0⟩, h⟩ := h
  rw [e0]
  refine w_bind (w_mono h fun i s2 h => w_bind (w_mono h fun x s3 h => ?_))
  obtain ⟨l, k, e1, e2, c, h⟩ := h
  rw [e1, e2]
  show Wo QA X (if _ then _ else _)
  rw [if_pos c]
  cases q : vl l k with
  | some d => rw [q] at h; exact h
  | none => rw [q] at h; exact h
end
end Y
namespace Y
open PySem L2 Z
open PyProof.Rows (risingS sortedS)
end Y
namespace Hd
open PySem PySem.Spec PyProof.Rows L2
/-- what a name of the module stands for -/
def relAt (K : PySem.W.Frag) (x : Str) (v : V) : Bool := match PySem.W.nsIn K mainGlobals x with
  | some (some u) => He.relB v u
  | _ => false
theorem relAt_ok {K : PySem.W.Frag} {x : Str} {v : V} (h : relAt K x v = true) : ∃ u, PySem.W.nsIn K mainGlobals x = some (some u) ∧ RelV v u := by
  unfold relAt at h
  cases e : PySem.W.nsIn K mainGlobals x with
  | none => rw [e] at h; cases h
  | some r =>
    rw [e] at h
    cases r with
    | none => cases h
    | some u => exact ⟨u, rfl, He.relB_ok h⟩
/-- a def with defaults -/
def dfAt (K : PySem.W.Frag) (p : Str × Option Str) (qual : Str) (dvs : List V) : Bool := match K.lookup (He.fAd K p) with
  | some ⟨_, _, .func fd, _⟩ => PySem.W.codeIn K fd.code qual && (match fd.defaults with
    | .ref T => (match K.lookup T with
      | some ⟨_, _, .seq its _, _⟩ => He.relAll dvs its.toList
      | _ => false)
    | _ => false)
  | _ => false
theorem dfAt_ok {K : PySem.W.Frag} {d : He.DefD} {dvs : List V} (e : He.fnW K d.at_ = d.val) (h : dfAt K d.at_ d.qual dvs = true) :
    ∃ oc od osl T kV doc pm an cdv ct o us n, K.lookup (He.fAd K d.at_) = some ⟨oc, od, .func (PySem.W.fnOf d.name d.qual d.params d.body d.scope (.ref T) kV doc pm an cdv ct), osl⟩ ∧ PySem.W.codeIn K cdv d.qual = true ∧ K.lookup T = some o ∧ o.data = .seq (List.toArray us) n ∧ Vals dvs us := by
  unfold dfAt at h
  unfold He.fnW at e
  cases q : K.lookup (He.fAd K d.at_) with
  | none => rw [q] at h; cases h
  | some o =>
    obtain ⟨oc, od, dt, osl⟩ := o
    rw [q] at h e
    cases dt with
    | func fd =>
      obtain ⟨n1, n2, n3, n4, n5, n6, n7, n8, n9, n10, n11, n12, n13, n14, n15⟩ := fd
      have e2 : (some (n1, n2, n3, n4, n5, n6, n7, n15) : He.FnW) = some (d.name, d.qual, d.params, .stmts d.body, d.scope, mainGlobals, [], builtinsNs) := e
      simp only [Option.some.injEq, Prod.mk.injEq] at e2
      obtain ⟨h1, h2, h3, h4, h5, h6, h7, h8⟩ := e2
      subst h1 h2 h3 h4 h5 h6 h7 h8
      dsimp only at h
      obtain ⟨c1, c2⟩ := He.ba h
      cases n8 with
      | ref T =>
        cases q2 : K.lookup T with
        | none =>
          dsimp only at c2
          rw [q2] at c2; cases c2
        | some o2 =>
          obtain ⟨oc2, od2, dt2, osl2⟩ := o2
          dsimp only at c2
          rw [q2] at c2
          cases dt2 with
          | seq its n => exact ⟨oc, od, osl, T, n9, n10, n11, n12, n13, n14, _, its.toList, n, rfl, c1, q2, by simp, He.relAll_ok c2⟩
          | _ => cases c2
      | _ => cases c2
    | _ => cases h
abbrev Ex : Type := List (List (PySem.W.Frag → Bool))
abbrev Al : Type := Bool × (List He.FnV × List He.FnW)
def exB (ex : Ex) (fn : List He.FnD) (K : PySem.W.Frag) : Bool := (ex.all fun l => l.all fun f => f K) && fn.all fun d => (He.Fa.code d.at_ d.qual).ok K
def obs (fn : List He.FnD) (fd : List He.DefD) (ex : Ex) (K : PySem.W.Frag) : Al := (exB ex fn K, fn.map (fun d => He.fnObs K d.at_), fd.map fun d => He.fnW K d.at_)
def val (fn : List He.FnD) (fd : List He.DefD) : Al := (true, fn.map He.FnD.val, fd.map He.DefD.val)
def Says (fn : List He.FnD) (fd : List He.DefD) (ex : Ex) (K : PySem.W.Frag) : Prop := obs fn fd ex K = val fn fd
/-- the objects that are looked at: the module's names, what stands behind them, the classes' tables, the methods -/
def outs (o : Obj) : List Addr := match o.data with
  | .func fd => He.refV fd.code ++ He.refV fd.defaults
  | .cls cd => [cd.ns]
  | .dict es _ => es.toList.flatMap fun e => He.refV e.val
  | _ => []
def outsG (g : Addr → Option Obj) (as : List Addr) : List Addr := as.flatMap fun a => match g a with
  | some o => outs o
  | none => []
def asK (g : Addr → Option Obj) : Nat → List Addr → List Addr
  | 0, l => l
  | n + 1, l => l ++ asK g n (outsG g l)
def obsG (n : Nat) (fn : List He.FnD) (fd : List He.DefD) (ex : Ex) (g : Addr → Option Obj) : Al := obs fn fd ex (He.frG g (PySem.cStatics :: asK g n [mainGlobals]))
def hook (n : Nat) (fn : List He.FnD) (fd : List He.DefD) (ex : Ex) : PySem.W.Hook where
  α := Al
  obs := fun s => obsG n fn fd ex s.heap.get?
  val := fun _ => val fn fd
  says := fun _ h => ∃ K : PySem.W.Frag, K.In h ∧ Says fn fd ex K
  of := fun _ _ e => ⟨_, He.frG_in, e⟩
  keeps := fun _ _ _ ⟨K, hK, c⟩ k => ⟨K, PySem.W.Frag.In.keeps hK k, c⟩
theorem obsG_eq {n : Nat} {fn : List He.FnD} {fd : List He.DefD} {ex : Ex} {g : Addr → Option Obj} {s : Shared} (h : ∀ a, g a = s.heap.get? a) : obsG n fn fd ex g = (hook n fn fd ex).obs s := by
  have e : g = s.heap.get? := funext h
  rw [e] <;> rfl
section
variable {fn : List He.FnD} {fd : List He.DefD} {ex : Ex} {K : PySem.W.Frag}
theorem Says.all (c : Says fn fd ex K) : exB ex fn K = true := congrArg (fun z : Al => z.1) c
theorem Says.fact (c : Says fn fd ex K) (i j : Nat) {l : List (PySem.W.Frag → Bool)} {f : PySem.W.Frag → Bool} (hl : ex[i]? = some l) (hf : l[j]? = some f) : f K = true :=
  List.all_eq_true.mp (List.all_eq_true.mp (He.ba c.all).1 l (List.mem_of_getElem? hl)) f (List.mem_of_getElem? hf)
theorem Says.def_ (c : Says fn fd ex K) (i : Nat) {d : He.FnD} (h : fn[i]? = some d) :
    ∃ oc od osl kV doc pm an cdv ct, K.lookup (He.fAd K d.at_) = some ⟨oc, od, .func (PySem.W.fnOf d.name d.qual d.params d.body d.scope .none kV doc pm an cdv ct), osl⟩ ∧ PySem.W.codeIn K cdv d.qual = true := by
  have e : fn.map (fun d => He.fnObs K d.at_) = fn.map He.FnD.val := congrArg (fun z : Al => z.2.1) c
  have e2 : (fn.map fun d => He.fnObs K d.at_)[i]? = (fn.map He.FnD.val)[i]? := by rw [e]
  rw [List.getElem?_map, List.getElem?_map, h] at e2
  exact He.fn_ok (Option.some.inj e2) (List.all_eq_true.mp (He.ba c.all).2 d (List.mem_of_getElem? h))
theorem Says.dflt (c : Says fn fd ex K) (i : Nat) {d : He.DefD} (h : fd[i]? = some d) : He.fnW K d.at_ = d.val := by
  have e : fd.map (fun d => He.fnW K d.at_) = fd.map He.DefD.val := congrArg (fun z : Al => z.2.2) c
  have e2 : (fd.map fun d => He.fnW K d.at_)[i]? = (fd.map He.DefD.val)[i]? := by rw [e]
  rw [List.getElem?_map, List.getElem?_map, h] at e2
  exact Option.some.inj e2
end
end Hd
namespace Y
open PySem L2 Z
end Y
namespace Y
open PySem L2 Z
end Y
namespace Y
open PySem L2 Z
end Y
namespace Y
open PySem PySem.Spec PyProof.Rows L2 Z
section
variable {K : PySem.W.Frag} {ct : Ct} {H0 : Hp} {W : WX} {S : Sh} {s : Stt} {σ : L2.St} {H : Hp}
def mWZs (m : Mo (List D)) : Mo Im := fun s => (m s).bind fun ds s1 => match ds with
  | [.str x, .ctp l] => .ok ⟨zipL (strL x) l, none⟩ s1
  | _ => .no
end
section
variable {s : Stt} {QI : Im → Stt → Prop} {X : Exn → Stt → Prop}
theorem w_wzs {r : Mo (List D)} (h : Wo (fun ds s1 => ∃ x l, ds = [.str x, .ctp l] ∧ QI ⟨zipL (strL x) l, none⟩ s1) X (r s)) : Wo QI X (mWZs r s) :=
  w_bind (w_mono h fun ds s1 h => by
    obtain ⟨x, l, rfl, h⟩ := h
    exact h)
end
end Y
namespace Y
open PySem L2 Z
end Y
namespace Y
open PySem L2 Z PySem.Spec PyProof.Rows
end Y
namespace Y
open PySem L2 Z PySem.Spec PyProof.Rows
end Y
namespace Y
open PySem L2 Z
end Y
namespace Y
open PySem L2 Z PySem.Spec PyProof.Rows
section
variable {K : PySem.W.Frag} {ct : Ct} {H0 : Hp} {W : WX}
def mSetT (mo mi mx : Mo AI) : Mo AI := fun s => (mo s).bind fun a s1 => match viewDT s1 a with
  | some _ => (mV mi s1).bind fun i s2 => (mK mx s2).bind fun x s3 => match getC s3 a, tkey i with
    | some (.dT l), some k => if l.length < sizeLine then (match vl l k with
      | some d => .ok (.val d) s3
      | none => .ok (.val x) (setC s3 a (.dT (pu l k x)))) else .no
    | _, _ => .no
  | none => .no
end
section
variable {s : Stt} {X : Exn → Stt → Prop} {QA : AI → Stt → Prop}
theorem w_setT {m1 m2 m3 : Mo AI} (h : Wo (fun a s1 => (∃ l, viewDT s1 a = some l) ∧ Wo (fun i s2 => Wo (fun x s3 => ∃ l k, getC s3 a = some (.dT l) ∧ tkey i = some k ∧ l.length < sizeLine ∧ (match vl l k with
      | some d => QA (.val d) s3
      | none => QA (.val x) (setC s3 a (.dT (pu l k x))))) X (mK m3 s2)) X (mV m2 s1)) X (m1 s)) : Wo QA X (mSetT m1 m2 m3 s) := by
  refine w_bind (w_mono h fun a s1 h => ?_)
  obtain ⟨⟨l0, e0⟩, h⟩ := h
  rw [e0]
  refine w_bind (w_mono h fun i s2 h => w_bind (w_mono h fun x s3 h => ?_))
  obtain ⟨l, k, e1, e2, hz, h⟩ := h
  rw [e1, e2]
  simp only []
  rw [if_pos hz]
  cases q : vl l k with
  | none => rw [q] at h; exact h
  | some d => rw [q] at h; exact h
end
end Y
namespace Y
open PySem L2 Z PySem.Spec PyProof.Rows
section
variable {P : Program} {w : World} {A : Around} {E : Value → Shared → Prop} {z : Shared}
/-- a set of so many things -/
def SzAt (S : Addr) (n : Nat) (h : Heap) : Prop := ∃ o es ep t, h.get? S = some o ∧ o.ExactSet ∧ o.data = .set es ep t ∧ t.fits es.size = true ∧ es.size = n
theorem SzAt.keep {S : Addr} {n : Nat} {h h' : Heap} (g : SzAt S n h) (k : ∀ o, h.get? S = some o → h'.get? S = some o) : SzAt S n h' := by
  obtain ⟨o, es, ep, t, e, r⟩ := g
  exact ⟨o, es, ep, t, k o e, r⟩
end
section
variable {K : PySem.W.Frag} {ct : Ct} {H0 : Hp} {W : WX} {S : Sh} {s : Stt} {σ : L2.St} {H : Hp}
def tupI : D → Option (List Int)
  | .tup l => intsD l
  | _ => none
def tupsD : List D → Option (List (List Int))
  | [] => some []
  | d :: l => (tupI d).bind fun k => (tupsD l).map (k :: ·)
open Classical in
noncomputable def mLenTups (m : Mo AI) : Mo AI := fun s => (m s).bind fun a s1 => match (viewL s1 a).bind tupsD with
  | some xs => if xs.Nodup ∧ xs.length ≤ 64 then .ok (.val (.int xs.length)) s1 else .no
  | none => .no
theorem w_lenTups {m : Mo AI} {s : Stt} {X : Exn → Stt → Prop} {QA : AI → Stt → Prop} (h : Wo (fun a s1 => ∃ xs, (viewL s1 a).bind tupsD = some xs ∧ (xs.Nodup ∧ xs.length ≤ 64) ∧ QA (.val (.int xs.length)) s1) X (m s)) : Wo QA X (mLenTups m s) := w_bind (w_mono h fun a s1 ⟨xs, e, c, h⟩ => by
  show Wo QA X (match (viewL s1 a).bind tupsD with | some xs => _ | none => _)
  rw [e]
  show Wo QA X (if xs.Nodup ∧ xs.length ≤ 64 then _ else _)
  rw [if_pos c]; exact h)
end
end Y
namespace Y
open PySem L2 Z
section
variable {K : PySem.W.Frag} {ct : Ct} {H0 : Hp} {W : WX} {S : Sh} {s : Stt} {σ : St} {H : Hp}
inductive KDT where
  | keys | items
def dItT : KDT → List (List Key × D) → List D
  | .keys, l => l.map fun p => .tup (p.1.map kD)
  | .items, l => l.map fun p => .tup [.tup (p.1.map kD), p.2]
open Classical in
/-- the cell's content is put back behind a walk -/
noncomputable def unl (k : Nat) (c c' : Cn) : Rs → Rs
  | .nx s => if s.M[k]? = some c then .nx ⟨s.env, s.M.set k c'⟩ else .no
  | .bk s => if s.M[k]? = some c then .bk ⟨s.env, s.M.set k c'⟩ else .no
  | .ct s => if s.M[k]? = some c then .ct ⟨s.env, s.M.set k c'⟩ else .no
  | .rt a s => if s.M[k]? = some c then .rt a ⟨s.env, s.M.set k c'⟩ else .no
  | _ => .no
open Classical in
noncomputable def mForC (kd : KD) (m : Mo AI) (g : Tg) (b : Ms) : Ms := fun s => match m s with
  | .ok (.val (.cid k)) _ => (match s.M[k]? with
    | some (.dK l) => if m ⟨s.env, s.M.set k (.lkK l)⟩ = .ok (.val (.cid k)) ⟨s.env, s.M.set k (.lkK l)⟩ then unl k (.lkK l) (.dK l) (forN g b none (dIt kd l) ⟨s.env, s.M.set k (.lkK l)⟩) else .no
    | _ => .no)
  | _ => .no
open Classical in
noncomputable def mForCT (kd : KDT) (m : Mo AI) (g : Tg) (b : Ms) : Ms := fun s => match m s with
  | .ok (.val (.cid k)) _ => (match s.M[k]? with
    | some (.dT l) => if m ⟨s.env, s.M.set k (.lkT l)⟩ = .ok (.val (.cid k)) ⟨s.env, s.M.set k (.lkT l)⟩ then unl k (.lkT l) (.dT l) (forN g b none (dItT kd l) ⟨s.env, s.M.set k (.lkT l)⟩) else .no
    | _ => .no)
  | _ => .no
open Classical in
noncomputable def mLcC (kd : KD) (m : Mo AI) (ws : List Nat) (g : Tg) (c : Mo Bool) (e : Mo AI) : Mo AI := fun s => match m s with
  | .ok (.val (.cid k)) _ => (match s.M[k]? with
    | some (.dK l) => if m ⟨s.env, s.M.set k (.lkK l)⟩ = .ok (.val (.cid k)) ⟨s.env, s.M.set k (.lkK l)⟩ then (match mLc ws (fun s => .ok ⟨dIt kd l, none⟩ s) g c e ⟨s.env, s.M.set k (.lkK l)⟩ with
      | .ok a s' => if s'.M[k]? = some (.lkK l) then .ok a ⟨s'.env, s'.M.set k (.dK l)⟩ else .no
      | _ => .no) else .no
    | _ => .no)
  | _ => .no
open Classical in
noncomputable def mLcCT (kd : KDT) (m : Mo AI) (ws : List Nat) (g : Tg) (c : Mo Bool) (e : Mo AI) : Mo AI := fun s => match m s with
  | .ok (.val (.cid k)) _ => (match s.M[k]? with
    | some (.dT l) => if m ⟨s.env, s.M.set k (.lkT l)⟩ = .ok (.val (.cid k)) ⟨s.env, s.M.set k (.lkT l)⟩ then (match mLc ws (fun s => .ok ⟨dItT kd l, none⟩ s) g c e ⟨s.env, s.M.set k (.lkT l)⟩ with
      | .ok a s' => if s'.M[k]? = some (.lkT l) then .ok a ⟨s'.env, s'.M.set k (.dT l)⟩ else .no
      | _ => .no) else .no
    | _ => .no)
  | _ => .no
def Olk (k : Nat) (c c' : Cn) (O : Rs → Prop) : Rs → Prop
  | .rt a s => s.M[k]? = some c ∧ O (.rt a ⟨s.env, s.M.set k c'⟩)
  | .bk s => s.M[k]? = some c ∧ O (.bk ⟨s.env, s.M.set k c'⟩)
  | .ct s => s.M[k]? = some c ∧ O (.ct ⟨s.env, s.M.set k c'⟩)
  | _ => False
theorem unl_ws {k : Nat} {c c' : Cn} {N : Stt → Prop} {O : Rs → Prop} {r : Rs} (h : Ws (fun s' => s'.M[k]? = some c ∧ N ⟨s'.env, s'.M.set k c'⟩) (Olk k c c' O) r) : Ws N O (unl k c c' r) := by
  cases r with
  | nx s => obtain ⟨h1, h2⟩ := (show s.M[k]? = some c ∧ _ from h); simp only [unl]; rw [if_pos h1]; exact h2
  | bk s => obtain ⟨h1, h2⟩ := (show s.M[k]? = some c ∧ _ from h); simp only [unl]; rw [if_pos h1]; exact h2
  | ct s => obtain ⟨h1, h2⟩ := (show s.M[k]? = some c ∧ _ from h); simp only [unl]; rw [if_pos h1]; exact h2
  | rt a s => obtain ⟨h1, h2⟩ := (show s.M[k]? = some c ∧ _ from h); simp only [unl]; rw [if_pos h1]; exact h2
  | er x s => exact (show False from h).elim
  | no => exact (show False from h).elim
theorem w_forC {kd : KD} {m : Mo AI} {g : Tg} {b : Ms} {N : Stt → Prop} {O : Rs → Prop} (h : Wo (fun a _ => ∃ k l, a = .val (.cid k) ∧ s.M[k]? = some (.dK l) ∧ Wo (fun a2 s2 => (a2 = .val (.cid k) ∧ s2 = ⟨s.env, s.M.set k (.lkK l)⟩) ∧ Ws (fun s' => s'.M[k]? = some (.lkK l) ∧ N ⟨s'.env, s'.M.set k (.dK l)⟩) (Olk k (.lkK l) (.dK l) O) (forN g b none (dIt kd l) ⟨s.env, s.M.set k (.lkK l)⟩)) Xf (m ⟨s.env, s.M.set k (.lkK l)⟩)) Xf (m s)) : Ws N O (mForC kd m g b s) := by
  unfold mForC
  cases e : m s with
  | no => rw [e] at h; exact h.elim
  | er x s1 => rw [e] at h; exact h.elim
  | ok a s1 =>
    rw [e] at h
    obtain ⟨k, l, rfl, hk, h⟩ := h
    simp only []
    rw [hk]
    simp only []
    cases e2 : m ⟨s.env, s.M.set k (.lkK l)⟩ with
    | no => rw [e2] at h; exact h.elim
    | er x s2 => rw [e2] at h; exact h.elim
    | ok a2 s2 =>
      rw [e2] at h
      obtain ⟨⟨rfl, rfl⟩, h⟩ := h
      rw [if_pos rfl]
      exact unl_ws h
theorem w_lcC {kd : KD} {m : Mo AI} {ws : List Nat} {g : Tg} {c : Mo Bool} {e : Mo AI} {QA : AI → Stt → Prop} {X : Exn → Stt → Prop} (h : Wo (fun a _ => ∃ k l, a = .val (.cid k) ∧ s.M[k]? = some (.dK l) ∧ Wo (fun a2 s2 => (a2 = .val (.cid k) ∧ s2 = ⟨s.env, s.M.set k (.lkK l)⟩) ∧ ∃ l2 s3, lcN ws g c (mV e) none (dIt kd l) [] (wipeS ws ⟨s.env, s.M.set k (.lkK l)⟩) = .ok l2 s3 ∧ s3.M[k]? = some (.lkK l) ∧ QA (.new (.lst l2)) ⟨Y.rest s.env s3.env ws, s3.M.set k (.dK l)⟩) Xf (m ⟨s.env, s.M.set k (.lkK l)⟩)) Xf (m s)) : Wo QA X (mLcC kd m ws g c e s) := by
  unfold mLcC
  cases e0 : m s with
  | no => rw [e0] at h; exact h.elim
  | er x s1 => rw [e0] at h; exact h.elim
  | ok a s1 =>
    rw [e0] at h
    obtain ⟨k, l, rfl, hk, h⟩ := h
    simp only []
    rw [hk]
    simp only []
    cases e2 : m ⟨s.env, s.M.set k (.lkK l)⟩ with
    | no => rw [e2] at h; exact h.elim
    | er x s2 => rw [e2] at h; exact h.elim
    | ok a2 s2 =>
      rw [e2] at h
      obtain ⟨⟨rfl, rfl⟩, l2, s3, h1, h2, h3⟩ := h
      rw [if_pos rfl]
      have e4 : mLc ws (fun s => .ok ⟨dIt kd l, none⟩ s) g c e ⟨s.env, s.M.set k (.lkK l)⟩ = .ok (.new (.lst l2)) ⟨Y.rest s.env s3.env ws, s3.M⟩ := by
        show (match lcN ws g c (mV e) none (dIt kd l) [] (wipeS ws ⟨s.env, s.M.set k (.lkK l)⟩) with | .ok l s2 => Ro.ok (AI.new (.lst l)) ⟨Y.rest s.env s2.env ws, s2.M⟩ | _ => .no) = _
        rw [h1]
      rw [e4]
      simp only []
      rw [if_pos h2]
      exact h3
theorem w_forCT {kd : KDT} {m : Mo AI} {g : Tg} {b : Ms} {N : Stt → Prop} {O : Rs → Prop} (h : Wo (fun a _ => ∃ k l, a = .val (.cid k) ∧ s.M[k]? = some (.dT l) ∧ Wo (fun a2 s2 => (a2 = .val (.cid k) ∧ s2 = ⟨s.env, s.M.set k (.lkT l)⟩) ∧ Ws (fun s' => s'.M[k]? = some (.lkT l) ∧ N ⟨s'.env, s'.M.set k (.dT l)⟩) (Olk k (.lkT l) (.dT l) O) (forN g b none (dItT kd l) ⟨s.env, s.M.set k (.lkT l)⟩)) Xf (m ⟨s.env, s.M.set k (.lkT l)⟩)) Xf (m s)) : Ws N O (mForCT kd m g b s) := by
  unfold mForCT
  cases e : m s with
  | no => rw [e] at h; exact h.elim
  | er x s1 => rw [e] at h; exact h.elim
  | ok a s1 =>
    rw [e] at h
    obtain ⟨k, l, rfl, hk, h⟩ := h
    simp only []
    rw [hk]
    simp only []
    cases e2 : m ⟨s.env, s.M.set k (.lkT l)⟩ with
    | no => rw [e2] at h; exact h.elim
    | er x s2 => rw [e2] at h; exact h.elim
    | ok a2 s2 =>
      rw [e2] at h
      obtain ⟨⟨rfl, rfl⟩, h⟩ := h
      rw [if_pos rfl]
      exact unl_ws h
theorem w_lcCT {kd : KDT} {m : Mo AI} {ws : List Nat} {g : Tg} {c : Mo Bool} {e : Mo AI} {QA : AI → Stt → Prop} {X : Exn → Stt → Prop} (h : Wo (fun a _ => ∃ k l, a = .val (.cid k) ∧ s.M[k]? = some (.dT l) ∧ Wo (fun a2 s2 => (a2 = .val (.cid k) ∧ s2 = ⟨s.env, s.M.set k (.lkT l)⟩) ∧ ∃ l2 s3, lcN ws g c (mV e) none (dItT kd l) [] (wipeS ws ⟨s.env, s.M.set k (.lkT l)⟩) = .ok l2 s3 ∧ s3.M[k]? = some (.lkT l) ∧ QA (.new (.lst l2)) ⟨Y.rest s.env s3.env ws, s3.M.set k (.dT l)⟩) Xf (m ⟨s.env, s.M.set k (.lkT l)⟩)) Xf (m s)) : Wo QA X (mLcCT kd m ws g c e s) := by
  unfold mLcCT
  cases e0 : m s with
  | no => rw [e0] at h; exact h.elim
  | er x s1 => rw [e0] at h; exact h.elim
  | ok a s1 =>
    rw [e0] at h
    obtain ⟨k, l, rfl, hk, h⟩ := h
    simp only []
    rw [hk]
    simp only []
    cases e2 : m ⟨s.env, s.M.set k (.lkT l)⟩ with
    | no => rw [e2] at h; exact h.elim
    | er x s2 => rw [e2] at h; exact h.elim
    | ok a2 s2 =>
      rw [e2] at h
      obtain ⟨⟨rfl, rfl⟩, l2, s3, h1, h2, h3⟩ := h
      rw [if_pos rfl]
      have e4 : mLc ws (fun s => .ok ⟨dItT kd l, none⟩ s) g c e ⟨s.env, s.M.set k (.lkT l)⟩ = .ok (.new (.lst l2)) ⟨Y.rest s.env s3.env ws, s3.M⟩ := by
        show (match lcN ws g c (mV e) none (dItT kd l) [] (wipeS ws ⟨s.env, s.M.set k (.lkT l)⟩) with | .ok l s2 => Ro.ok (AI.new (.lst l)) ⟨Y.rest s.env s2.env ws, s2.M⟩ | _ => .no) = _
        rw [h1]
      rw [e4]
      simp only []
      rw [if_pos h2]
      exact h3
end
end Y
namespace Y
open PySem L2 Z PySem.Spec PyProof.Rows
section
variable {K : PySem.W.Frag} {ct : Ct} {H0 : Hp} {W : WX}
def mPopT (mo mi : Mo AI) : Mo AI := fun s => (mo s).bind fun a s1 => match viewDT s1 a with
  | some _ => (mV mi s1).bind fun i s2 => match getC s2 a, tkey i with
    | some (.dT l), some k => (match vl l k with
      | some d => .ok (.val d) (setC s2 a (.dT (dr l k)))
      | none => .no)
    | _, _ => .no
  | none => .no
theorem w_popT {s : Stt} {X : Exn → Stt → Prop} {QA : AI → Stt → Prop} {m1 m2 : Mo AI} (h : Wo (fun a s1 => (∃ l, viewDT s1 a = some l) ∧ Wo (fun i s2 => ∃ l k d, getC s2 a = some (.dT l) ∧ tkey i = some k ∧ vl l k = some d ∧ QA (.val d) (setC s2 a (.dT (dr l k)))) X (mV m2 s1)) X (m1 s)) : Wo QA X (mPopT m1 m2 s) := by
  refine w_bind (w_mono h fun a s1 h => ?_)
  obtain ⟨⟨l0, e0⟩, h⟩ := h
  rw [e0]
  refine w_bind (w_mono h fun i s2 h => ?_)
  obtain ⟨l, k, d, e1, e2, e3, h⟩ := h
  rw [e1, e2]
  simp only []
  rw [e3]
  exact h
end
end Y
namespace Y
open PySem L2 Z PySem.Spec PyProof.Rows
theorem u2 {A : Around} {k : Nat} (hr : Room k A) : A.units + 2 < cLine := by have := hr.un; omega
section
variable {K : PySem.W.Frag} {ct : Ct} {H0 : Hp} {W : WX}
def kvConsK (mk mv : Mo AI) (r : Mo (List (D × D))) : Mo (List (D × D)) := fun s => (mV mk s).bind fun a s1 => (mK mv s1).bind fun b s2 => (r s2).bind fun l s3 => .ok ((a, b) :: l) s3
def kvKeysT : List (D × D) → Option (List (List Key × D))
  | [] => some []
  | (k, d) :: l => (tkey k).bind fun k' => (kvKeysT l).map ((k', d) :: ·)
def mgT (l : List (List Key × D)) : List (List Key × D) := l.foldl (fun a p => pu a p.1 p.2) []
def mDispT (r : Mo (List (D × D))) : Mo AI := fun s => (r s).bind fun l s1 => match kvKeysT l with
  | some kl => if kl.length ≤ 15 then .ok (.new (.dT (mgT kl))) s1 else .no
  | none => .no
end
section
variable {s : Stt} {X : Exn → Stt → Prop} {QA : AI → Stt → Prop}
theorem w_kvConsK {QK : List (D × D) → Stt → Prop} {mk mv : Mo AI} {r : Mo (List (D × D))} (h : Wo (fun a s1 => Wo (fun b s2 => Wo (fun l s3 => QK ((a, b) :: l) s3) X (r s2)) X (mK mv s1)) X (mV mk s)) : Wo QK X (kvConsK mk mv r s) :=
  w_bind (w_mono h fun a s1 h => w_bind (w_mono h fun b s2 h => w_bind (w_mono h fun l s3 h => h)))
theorem w_dispT {r : Mo (List (D × D))} (h : Wo (fun l s1 => ∃ kl, kvKeysT l = some kl ∧ kl.length ≤ 15 ∧ QA (.new (.dT (mgT kl))) s1) X (r s)) : Wo QA X (mDispT r s) := by
  refine w_bind (w_mono h fun l s1 h => ?_)
  obtain ⟨kl, e, c, h⟩ := h
  rw [e]
  show Wo QA X (if _ then _ else _)
  rw [if_pos c]; exact h
end
end Y
namespace Y
open PySem L2 Z PySem.Spec PyProof.Rows
/-- an exception object that came down -/
def ExF (cls : Value) (d : Option Addr) (a : Addr) : HO := .ext fun h => ∃ (oe : Obj) (vs : Array Value), h.get? a = some oe ∧ Zc cls d oe ∧ oe.data = .fields vs
theorem exF_ok {P : Program} {w : World} {H : Hp} {h : Heap} {a : Addr} {cls : Value} {d : Option Addr} {oe : Obj} {vs : Array Value} (e : h.get? a = some oe) (z : Zc cls d oe) (hd : oe.data = .fields vs) : ObjOk P w H h a (ExF cls d a) :=
  ⟨⟨oe, vs, e, z, hd⟩, ⟨oe, e⟩, fun _ _ ⟨o, v, q, r⟩ k => ⟨o, v, k o q, r⟩⟩
section
variable {X : Cx} {pins : List (Addr × Obj)} {σ : L2.St} {H : Hp} {s : Shared} {a : Addr} {o : HO} {oe : Obj} {vs : Array Value}
/-- what came since the entry, and nobody tells of, is told of from now on -/
theorem track (I : Inv X pins σ H s) (n0 : X.s_0.heap.get? a = none) (na : H a = none) (hp : ∀ p ∈ X.pn ++ pins, p.1 ≠ a) (nL : a ≠ X.env.locals) (he : s.heap.get? a = some oe) (hd : oe.data = .fields vs) (new : ObjOk X.prog X.w (upd H a o) s.heap a o) :
    Inv X pins σ (upd H a o) s := by
  have up : ∀ {b : Addr}, b ≠ a → upd H a o b = H b := fun h => upd_ne h
  have ne0 : ∀ {b : Addr} {u : Obj}, X.s_0.heap.get? b = some u → b ≠ a := fun e z => by rw [z, n0] at e; cases e
  have neH : ∀ {b : Addr} {u : HO}, H b = some u → b ≠ a := fun e z => by rw [z, na] at e; cases e
  refine ⟨I.ok, I.os, I.bare, ⟨I.base.keep, I.base.slot, fun b u q n hx => ?_, I.base.there, fun b xs q => ?_, fun b u w q => ?_, fun b ps q => ?_⟩, I.loc, I.cell, ?_, fun x c e => ?_, fun p h => ?_, I.hok.laidN (fun _ _ e => e) na new, I.len⟩
  · rw [up (ne0 q)]; exact I.base.free b u q n hx
  · have z := I.base.tups b xs q
    rw [up (neH z)]; exact z
  · have z := I.base.frzs b u w q
    rw [up (neH z)]; exact z
  · obtain ⟨m, z⟩ := I.base.tbls b ps q
    exact ⟨m, by rw [up (neH z)]; exact z⟩
  · rw [up (Ne.symm nL)]; exact I.free
  · have nc : c ≠ a := fun z => by
      obtain ⟨v, u, hu, hv⟩ := I.cell x c e
      rw [z, he] at hu
      cases hu
      rw [hd] at hv
      cases hv
    rw [up nc]; exact I.freeC x c e
  · obtain ⟨h1, h2, h3⟩ := I.pin p h
    exact ⟨h1, by rw [up (hp p h)]; exact h2, h3⟩
end
/-- as the kit's rule for 'except x as n', but the exception is told of behind the suite -/
def wKeep (K : PySem.W.Frag) (c : Value) (i : Nat) (ts : Addr → Value → Option Addr → TS) (Wout : WX) (D : Ends) : WX := fun cls d σ H =>
  ∃ b, PySem.W.exmOne K cls c = some b ∧ (b = true → ∀ a, H a = none → ts a cls d { nx := fun σ' H' => D.nx (σ'.set i none) (upd H' a (ExF cls d a)), rt := fun _ _ => False, bk := fun _ _ => False, ct := fun _ _ => False } (σ.set i (some (.ref a))) H) ∧ (b = false → Wout cls d σ H)
def tTryK (K : PySem.W.Frag) (c : Value) (i : Nat) (tb : WX → TS) (ts : Addr → Value → Option Addr → TS) (Wout : WX) : TS := fun D σ H => tb (wKeep K c i ts Wout D) D σ H
section
variable {X : Cx} {x n : Str} {c : Value} {i : Nat} {body suite : List Stmt} {b₀ : Stmt} {np pos pos' : Pos} {tb : WX → TS} {ts : Addr → Value → Option Addr → TS} {Wout : WX}
theorem try_keep (hx0 : X.ex = []) (hs : X.stack = X.env :: X.outer) (hf : X.env.frame = some X.env.locals) (hN : X.N.Nodup) (hi : X.N[i]? = some n) (hln : X.env.kindOf n = some .local) (hc : Names X x c) (tk : Takes X Wout)
    (hb : ∀ (W : WX) (pn : List (Addr × Obj)) (xe : Value → Shared → Prop), Takes (X.tr pn xe) W → PassesOwn (model X.prog X.w) X.A X.env xe → PSs (X.tr pn xe) body (tb W))
    (hsu : ∀ (a : Addr) (oe : Obj) (cls : Value) (d : Option Addr) (pn : List (Addr × Obj)), Zc cls d oe → (∃ vs, oe.data = .fields vs) → PSs (X.suite a ((a, oe) :: pn)) (b₀ :: suite) (ts a cls d)) :
    PS X (.Try body [.ExceptHandler (some (.Name x np)) (some n) (b₀ :: suite) pos'] [] [] pos) (tTryK X.K c i tb ts Wout) := by
  refine ⟨fun pins s σ H D I h => ?_⟩
  have ok := I.ok
  have hfr : X.A.frames = some (X.env :: X.outer) := by rw [ok.frames, hs]
  refine wpAny_Try_except (wpAny_mono ((hb (wKeep X.K c i ts Wout D) (X.pn ++ pins) (fun e s₁ => wpAny (model X.prog X.w) X.A (noteFrame e X.env) (fun _ s₂ => wpAny (model X.prog X.w) X.A (setFlight e none) (fun _ s₃ =>
    wpAny (model X.prog X.w) X.A (handleBy e X.env [.ExceptHandler (some (.Name x np)) (some n) (b₀ :: suite) pos']) (SP X pins D) X.xe s₃) X.xe s₂) X.xe s₁) (fun u s' xx => ?_) PassesOwn.looking).run [] s σ H D (I.toTry _) h) (fun f s1 hsp => ?_) (fun e s1 he => he))
  · obtain ⟨a, B, sI, pins', σ', H', cls, d, rfl, J', nb, up, sky, na, os, ag, b, hb1, hyes, hno⟩ := xx
    have J : Inv X pins σ' H' sI := J'.ofTry ok
    rw [show X.stack = X.env :: X.outer from hs] at sky
    show wpAny (model X.prog X.w) X.A (noteFrame (.ref a) X.env) _ _ _
    refine Sky.land Zc.steady hfr hf sky fun h3 fl3 up3 => ?_
    have J3 : Inv X pins σ' H' { s' with heap := h3 } := J.landed nb fl3.1 (up.trans up3) os ag
    obtain ⟨oe3, vs3, he3, hz3, hd3⟩ := fl3.there
    have nfr : a ∉ frs (X.env :: X.outer) := fun hm => by
      obtain ⟨_, o', e', hnf⟩ := fl3.2.2.1.mem hm
      rw [he3] at e'; cases e'
      exact hnf _ hd3
    have nL : a ≠ X.env.locals := fun z => nfr (List.mem_filterMap.mpr ⟨X.env, List.mem_cons_self, by rw [hf, z]⟩)
    have nF : a ∉ X.fs := fun hm => by
      obtain ⟨e, he, q⟩ := List.mem_filterMap.mp hm
      exact nfr (List.mem_filterMap.mpr ⟨e, List.mem_cons_of_mem _ he, q⟩)
    -- it is new
    have nI : sI.heap.get? a = none := by
      cases q : sI.heap.get? a with
      | none => rfl
      | some o =>
        have z := nb a o q (by rw [show X.stack = X.env :: X.outer from hs]; exact nfr)
        rw [fl3.2.1] at z; cases z
    have n0 : X.s_0.heap.get? a = none := by
      cases q : X.s_0.heap.get? a with
      | none => rfl
      | some o =>
        obtain ⟨o', z⟩ := J.base.there a o q (by rw [hx0]; exact fun z => nomatch z)
        rw [nI] at z; cases z
    have hpn : ∀ p ∈ X.pn ++ pins, p.1 ≠ a := fun p hp z => by
      have q := (J.pin p hp).1
      rw [z, nI] at q; cases q
    have S3 := J3.suite he3 hd3 na nL nF
    refine wpAny_handleBy_cons (codeAny_handlers_test ?_) (by intro q; cases q)
    have LT : PySem.W.Looks (model X.prog X.w) h3 (typeOf (.ref a)) cls := fun A Q E s k q => wpAny_typeOf_ref (k _ _ he3) (by rw [hz3.1]; exact q)
    have LM := PySem.W.exm_one (M := model X.prog X.w) (J3.kIn) LT hb1
    have test : ∀ {Q : Value → Shared → Prop} {E : Value → Shared → Prop}, Q c { s' with heap := h3 } → wpAny (model X.prog X.w) (X.A.mark (some (.ref a))) (eval (.Name x np) X.env) Q E { s' with heap := h3 } := fun {Q E} q => by
      obtain ⟨hg, hdbg, hm | ⟨hm, hv, hnn⟩⟩ := hc
      · exact ld_glob (X := X.suite a ((a, oe3) :: (X.pn ++ pins))) S3 hg hm q hdbg
      · exact ld_blt (X := X.suite a ((a, oe3) :: (X.pn ++ pins))) S3 hg hm hv q hnn hdbg
    refine test (LM.here ?_)
    cases b with
    | true =>
      refine codeAny_handlers_suite_as (HandSPX.lands_againZ fl3 fun h4 fl4 up4 => ?_)
      have J4 : Inv X pins σ' H' { s' with heap := h4 } := J.landed nb fl4.1 ((up.trans up3).trans up4) os ag
      obtain ⟨oe4, vs4, he4, hz4, hd4⟩ := fl4.there
      refine store_ok (X := X.suite a ((a, oe4) :: (X.pn ++ pins))) (v := .ref a) (J4.suite he4 hd4 na nL nF) hN hi (.inl hln) rfl (fun s5 S5 => ?_) (.inr hln)
      refine wpAny_mono ((hsu a oe4 cls d (X.pn ++ pins) hz4 ⟨_, hd4⟩).run [] s5 _ H' _ S5 (hyes rfl a na)) (fun f s6 hsp => ?_) (fun _ _ z => False.elim z)
      cases f with
      | next =>
        obtain ⟨σ6, H6, S6, q6⟩ := hsp
        obtain ⟨g1, g2, _⟩ := S6.pin (a, oe4) (List.mem_append.mpr (.inl List.mem_cons_self))
        exact gone_ok (track (S6.unsuite ok) n0 g2 hpn nL g1 hd4 (exF_ok g1 hz4 hd4)) hN hi hln fun s7 J7 => ⟨_, _, J7, q6⟩
      | brk => obtain ⟨_, _, _, q6⟩ := hsp; exact q6.elim
      | cont => obtain ⟨_, _, _, q6⟩ := hsp; exact q6.elim
      | ret u => obtain ⟨_, _, _, _, _, q6⟩ := hsp; exact q6.elim
    | false =>
      show wpAny _ X.A (handleBy (.ref a) X.env []) _ _ _
      refine wpAny_handleBy_nil ?_
      obtain ⟨k1, k2, k3, oe, vs, T, oT, ts', he, hz, hd, h1, hr⟩ := id fl3
      unfold PySem.passOn
      refine wpAny_bind (wpAny_field he hd h1 ?_)
      rw [if_neg (show ¬ ((Value.ref T == Value.none) = true) from by simp)]
      have fin : wpAny (model X.prog X.w) X.A (setFlight (.ref a) X.env.frame) (fun _ s4 => wpAny (model X.prog X.w) X.A (throw (.ref a) : Sem Flow) (SP X pins D) X.xe s4) X.xe { s' with heap := h3 } := by
        rw [hf]
        refine HandSPX.setFlight_upZ fl3 fun h4 hh4 up4 => wpAny_throw (tk _ _ ?_)
        exact ⟨a, B, sI, pins, σ', H', cls, d, rfl, J, nb, (up.trans up3).trans up4, .inr (.inr (by rw [hs]; exact hh4)), na, os, ag, hno rfl⟩
      first
        | exact wpAny_bind (wpAny_pure (wpAny_bind fin))
        | exact wpAny_bind fin
  · cases f with
    | next => obtain ⟨σ', H', J', q⟩ := hsp; exact wpAny_execs_nil ⟨σ', H', J'.ofTry ok, q⟩
    | brk => obtain ⟨σ', H', J', q⟩ := hsp; exact ⟨σ', H', J'.ofTry ok, q⟩
    | cont => obtain ⟨σ', H', J', q⟩ := hsp; exact ⟨σ', H', J'.ofTry ok, q⟩
    | ret u => obtain ⟨v, σ', H', J', r, q⟩ := hsp; exact ⟨v, σ', H', J'.ofTry ok, r, q⟩
theorem ps_keep {K : PySem.W.Frag} (hK : X.K = K) (hx0 : X.ex = []) (hs : X.stack = X.env :: X.outer) (hf : X.env.frame = some X.env.locals) (hN : X.N.Nodup) (hi : X.N[i]? = some n) (hln : X.env.kindOf n = some .local) (hc : Names X x c) (tk : Takes X Wout)
    (hb : ∀ (W : WX) (pn : List (Addr × Obj)) (xe : Value → Shared → Prop), Takes (X.tr pn xe) W → PassesOwn (model X.prog X.w) X.A X.env xe → PSs (X.tr pn xe) body (tb W))
    (hsu : ∀ (a : Addr) (oe : Obj) (cls : Value) (d : Option Addr) (pn : List (Addr × Obj)), Zc cls d oe → (∃ vs, oe.data = .fields vs) → PSs (X.suite a ((a, oe) :: pn)) (b₀ :: suite) (ts a cls d)) :
    PS X (.Try body [.ExceptHandler (some (.Name x np)) (some n) (b₀ :: suite) pos'] [] [] pos) (tTryK K c i tb ts Wout) := by
  subst hK
  exact try_keep hx0 hs hf hN hi hln hc tk hb hsu
end
def FX (H : Hp) (a D : Addr) : Prop := ∃ dd, H a = some (ExF (.ref D) dd a) ∧ (dd = none ∨ ∃ d fs, dd = some d ∧ H d = some (.xd fs))
theorem FX.upd {H : Hp} {a D p : Addr} {o : HO} (f : FX H a D) (hp : H p = none) : FX (L2.upd H p o) a D := by
  obtain ⟨dd, h, hd⟩ := f
  refine ⟨dd, by rw [upd_ne (ne_of_none h hp)]; exact h, hd.imp id fun ⟨d, fs, e, z⟩ => ⟨d, fs, e, by rw [upd_ne (ne_of_none z hp)]; exact z⟩⟩
section
variable {X : Cx} {pins : List (Addr × Obj)} {σ : L2.St} {H : Hp} {s : Shared} {a D : Addr}
theorem inst_of (I : Inv X pins σ H s) (f : FX H a D) : ∃ oe od, PySem.W.InstAt s.heap a oe D od := by
  obtain ⟨dd, h, hd⟩ := f
  obtain ⟨⟨oe, vs, hget, hz, hv⟩, _⟩ := (show ObjOk X.prog X.w H s.heap a (ExF (.ref D) dd a) from I.hok a _ h)
  rcases hd with rfl | ⟨d, fs, rfl, ed⟩
  · exact ⟨oe, none, hget, hz.1, by unfold PySem.W.notCls; rw [hv] <;> rfl, by rw [hz.2]; trivial⟩
  · obtain ⟨mA, hns, hr⟩ := (show ObjOk X.prog X.w H s.heap d (.xd fs) from I.hok d _ ed)
    obtain ⟨od, ho, hl⟩ := lookIn_ns hns
    exact ⟨oe, some od, hget, hz.1, by unfold PySem.W.notCls; rw [hv] <;> rfl, by rw [hz.2]; exact ho⟩
theorem cls_some {K : PySem.W.Frag} (C : ExcC K D) : (PySem.W.clsIn K D).isSome = true := by
  obtain ⟨cd, hc, _⟩ := PySem.W.any_some C.hd
  rw [hc]; rfl
def rIsF (K : PySem.W.Frag) : List V → Hp → VK → Prop := fun xs H Q => ∃ (a D : Addr) (c : V) (cv : Value) (b : Bool), xs = [.ref a, c] ∧ FX H a D ∧ ExcC K D ∧ ClsV c cv ∧ PySem.W.kitOne K (.ref D) cv = some b ∧ Q (.bl b) H
theorem call_isF : CallR X (.builtin "isinstance") (rIsF X.K) := by
  intro pins s σ H xs us Q I r h
  obtain ⟨a, D, c, cv, b, rfl, f, C, k, e, q⟩ := h
  obtain ⟨u1, u2, rfl, r1, r2⟩ := vals2 r
  have e2 := k.eq r2
  subst e2
  cases (show u1 = Value.ref a from r1)
  obtain ⟨oe, od, J⟩ := inst_of I f
  exact PySem.W.kia_one (PySem.W.kitx_exc (cls_some C) C.hg C.hk C.hs C.ha C.hn C.ht C.hm) I.kIn J e (fun z => nomatch z) fun tk => ⟨.bl b, H, I.tok tk, rfl, q⟩
def rIsFT (K : PySem.W.Frag) : List V → Hp → VK → Prop := fun xs H Q => ∃ (a D tp : Addr) (cs : List V) (us : List Value) (b : Bool), xs = [.ref a, .ref tp] ∧ FX H a D ∧ ExcC K D ∧ H tp = some (.tup cs) ∧ Paired ClsV cs us ∧ PySem.W.kitAny K (.ref D) us = some b ∧ Q (.bl b) H
theorem call_isFT : CallR X (.builtin "isinstance") (rIsFT X.K) := by
  intro pins s σ H xs us Q I r h
  obtain ⟨a, D, tp, cs, ws, b, rfl, f, C, hT, k, e, q⟩ := h
  obtain ⟨u1, u2, rfl, r1, r2⟩ := vals2 r
  cases (show u1 = Value.ref a from r1)
  cases (show u2 = Value.ref tp from r2)
  obtain ⟨oe, od, J⟩ := inst_of I f
  obtain ⟨_, its, rv, o, h1, h2, n, h3⟩ := (show ObjOk X.prog X.w H s.heap tp (.tup cs) from I.hok tp _ hT)
  have e3 := ClsV.all k rv
  subst e3
  obtain ⟨oc, od, dt, sl⟩ := o
  simp only at h2 h3
  subst h2 h3
  exact PySem.W.kia_tup (PySem.W.kitx_exc (cls_some C) C.hg C.hk C.hs C.ha C.hn C.ht C.hm) I.kIn J h1 e (fun z => nomatch z) fun tk => ⟨.bl b, H, I.tok tk, rfl, q⟩
def rIsW (K : PySem.W.Frag) : List V → Hp → VK → Prop := fun xs H Q => rIsF K xs H Q ∨ rIsFT K xs H Q
theorem call_isW {K : PySem.W.Frag} (hK : X.K = K) : CallR X (.builtin "isinstance") (rIsW K) := by subst hK; exact L2.CallR.or call_isF call_isFT
end
/-- a def that asks of a kept exception of the class B: True, behind two tuples of classes -/
def spR (B : Addr) : Sp := fun vs H Q _ => ∃ a, vs = [.ref a] ∧ FX H a B ∧ ∀ (p : Addr) (cs : List V) (q : Addr) (ds : List V), H p = none → L2.upd H p (.tup cs) q = none → Q (.bl true) (L2.upd (L2.upd H p (.tup cs)) q (.tup ds))
theorem spR_len {B : Addr} {vs : List V} {H : Hp} {Q : VK} {E : XK} (h : spR B vs H Q E) : vs.length = 1 := by
  obtain ⟨a, rfl, _⟩ := h; rfl
section
variable {K : PySem.W.Frag} {ct : Ct} {H0 : Hp} {W : WX}
/-- try: b / except .. as e: y = e / return asked(y) -/
def mKeep (i j : Nat) (cat : Nat → Option Bool) (tbl : Nat → Bool) (mb : Ms) : Ms := fun s => match mb s with
  | .er x s1 => match cat x.cls with
    | some true => if tbl x.cls = true ∧ i < s1.env.length ∧ j < s1.env.length ∧ i ≠ j then .rt (.val (.bl true)) s1 else .no
    | some false => .er x s1
    | none => .no
  | _ => .no
theorem sv_keep {c : Value} {i j : Nat} {B : Addr} {E : XK} {tb : WX → TS} {cat : Nat → Option Bool} {tbl : Nat → Bool} {mb : Ms} (hlk : ct.lk = none) (hcat : ∀ k b, cat k = some b → PySem.W.exmOne K (.ref (ct k)) c = some b) (hB : ∀ k, tbl k = true → ct k = B) (hb : ∀ W, Sv K ct H0 W (tb W) mb) :
    Sv K ct H0 W (tSeq (tTryK K c i tb (fun _ _ _ => tAsg (tVar i) (gName j)) W) (tRet (tCallZ (spR B) E (tCons (tVar j) tNil)))) (mKeep i j cat tbl mb) := fun S s σ H Dn rel p => by
  show tb (wKeep K c i _ W { Dn with nx := tRet (tCallZ (spR B) E (tCons (tVar j) tNil)) Dn }) { Dn with nx := tRet (tCallZ (spR B) E (tCons (tVar j) tNil)) Dn } σ H
  refine hb _ S s σ H _ rel ?_
  unfold mKeep at p
  cases q : mb s with
  | nx s1 => rw [q] at p; exact p.elim
  | bk s1 => rw [q] at p; exact p.elim
  | ct s1 => rw [q] at p; exact p.elim
  | rt a s1 => rw [q] at p; exact p.elim
  | no => rw [q] at p; exact p.elim
  | er x s1 =>
    rw [q] at p
    simp only [] at p
    intro S1 σ1 H1 dd st1 rel1 xo
    cases hcx : cat x.cls with
    | none => rw [hcx] at p; exact False.elim p
    | some b =>
      rw [hcx] at p
      refine ⟨b, hcat _ _ hcx, fun eb a ha => ?_, fun eb => ?_⟩
      · subst eb
        simp only [] at p
        split at p
        · rename_i hc
          obtain ⟨ht, hi, hj, hij⟩ := hc
          rw [← rel1.len] at hi hj
          refine ⟨.ref a, List.getElem?_set_self hi, .ref a, ?_, a, rfl, ⟨dd, ?_, ?_⟩, fun pp cs qq ds hp hq => ?_⟩
          · rw [List.getElem?_set_ne hij, List.getElem?_set_self (by rw [List.length_set]; exact hj)]
          · rw [upd_same, hB _ ht]
          · rcases xo with ⟨_, k⟩ | ⟨d, fvs, k, k3, _⟩
            · exact .inl k
            · refine .inr ⟨d, fvs, k, ?_⟩
              have z := rel1.sub _ _ k3
              rw [hlk, U0] at z
              rw [upd_ne (ne_of_none z ha)]; exact z
          · have r1 := rel1.new (o := ExF (.ref (ct x.cls)) dd a) ha
            have r2 := r1.new (o := .tup cs) hp
            have r3 := r2.new (o := .tup ds) hq
            exact p S1 σ1 _ _ (((st1.trans (Stp.new rel1 ha)).trans (Stp.new r1 hp)).trans (Stp.new r2 hq)) r3 (.bl true)
        · exact False.elim p
      · subst eb
        exact p S1 σ1 H1 dd st1 rel1 xo
end
theorem w_keep {N : Stt → Prop} {O : Rs → Prop} {i j : Nat} {cat : Nat → Option Bool} {tbl : Nat → Bool} {mb : Ms} {s : Stt} (h : Ws (fun _ => False) (fun r => match r with | .er x s1 => cat x.cls = some true ∧ (tbl x.cls = true ∧ i < s1.env.length ∧ j < s1.env.length ∧ i ≠ j) ∧ O (.rt (.val (.bl true)) s1) | _ => False) (mb s)) : Ws N O (mKeep i j cat tbl mb s) := by
  unfold mKeep
  cases q : mb s with
  | er x s1 =>
    rw [q] at h
    obtain ⟨h1, h2, h3⟩ := h
    simp only []
    rw [h1]
    simp only []
    rw [if_pos h2]
    exact h3
  | nx s1 => rw [q] at h; exact h.elim
  | no => rw [q] at h; exact h.elim
  | bk s1 => rw [q] at h; exact h.elim
  | ct s1 => rw [q] at h; exact h.elim
  | rt a s1 => rw [q] at h; exact h.elim
end Y
namespace K04
open PySem L2 Z Y
def top (i : Nat) : Stmt := PySem.Challenge.pw_tornshelf_k04_bits_refused.main.body.getD i (.Pass ⟨0, 0, 0, 0⟩)
abbrev s_is_whole : Stmt := (top 18)
theorem sc_is_whole : FnScope ["thing"] ["thing"] (defScope s_is_whole) := ⟨rfl, rfl, rfl, by decide +kernel, rfl, by decide +kernel, by decide +kernel⟩
abbrev s_refuse_unless : Stmt := (top 19)
theorem sc_refuse_unless : FnScope ["good"] ["good"] (defScope s_refuse_unless) := ⟨rfl, rfl, rfl, by decide +kernel, rfl, by decide +kernel, by decide +kernel⟩
abbrev s_Writer_init : Stmt := (inClass (top 20) 0)
theorem sc_Writer_init : FnScope ["self"] ["self"] (defScope s_Writer_init) := ⟨rfl, rfl, rfl, by decide +kernel, rfl, by decide +kernel, by decide +kernel⟩
abbrev s_Writer_put : Stmt := (inClass (top 20) 1)
theorem sc_Writer_put : FnScope ["self", "number", "many", "k"] ["self", "number", "many"] (defScope s_Writer_put) := ⟨rfl, rfl, rfl, by decide +kernel, rfl, by decide +kernel, by decide +kernel⟩
abbrev s_Writer_bits : Stmt := (inClass (top 20) 2)
theorem sc_Writer_bits : FnScope ["self"] ["self"] (defScope s_Writer_bits) := ⟨rfl, rfl, rfl, by decide +kernel, rfl, by decide +kernel, by decide +kernel⟩
abbrev s_Writer_row : Stmt := (inClass (top 20) 4)
theorem sc_Writer_row : FnScope ["self", "rest"] ["self"] (defScope s_Writer_row) := ⟨rfl, rfl, rfl, by decide +kernel, rfl, by decide +kernel, by decide +kernel⟩
abbrev s_Reader_init : Stmt := (inClass (top 21) 0)
theorem sc_Reader_init : FnScope ["self", "row", "at"] ["self", "row", "at"] (defScope s_Reader_init) := ⟨rfl, rfl, rfl, by decide +kernel, rfl, by decide +kernel, by decide +kernel⟩
abbrev s_Reader_left : Stmt := (inClass (top 21) 1)
theorem sc_Reader_left : FnScope ["self"] ["self"] (defScope s_Reader_left) := ⟨rfl, rfl, rfl, by decide +kernel, rfl, by decide +kernel, by decide +kernel⟩
abbrev s_Reader_take : Stmt := (inClass (top 21) 2)
theorem sc_Reader_take : FnScope ["self", "many", "found", "k"] ["self", "many"] (defScope s_Reader_take) := ⟨rfl, rfl, rfl, by decide +kernel, rfl, by decide +kernel, by decide +kernel⟩
abbrev s_Reader_place : Stmt := (inClass (top 21) 3)
theorem sc_Reader_place : FnScope ["self"] ["self"] (defScope s_Reader_place) := ⟨rfl, rfl, rfl, by decide +kernel, rfl, by decide +kernel, by decide +kernel⟩
abbrev s_Reader_ended : Stmt := (inClass (top 21) 4)
theorem sc_Reader_ended : FnScope ["self"] ["self"] (defScope s_Reader_ended) := ⟨rfl, rfl, rfl, by decide +kernel, rfl, by decide +kernel, by decide +kernel⟩
abbrev s_l_mixed : Stmt := (top 23)
theorem sc_l_mixed : FnScope ["_law_cell", "_law_k", "_law_number"] ["_law_cell", "_law_k"] (defScope s_l_mixed) := ⟨rfl, rfl, rfl, by decide +kernel, rfl, by decide +kernel, by decide +kernel⟩
abbrev s_l_row : Stmt := (top 24)
theorem sc_l_row : FnScope ["_law_cell", "_law_most", "_law_many", "_law_way", "_law_k"] ["_law_cell", "_law_most"] (defScope s_l_row) := ⟨rfl, rfl, rfl, by decide +kernel, rfl, by decide +kernel, by decide +kernel⟩
abbrev s_l_is_refusal : Stmt := (top 25)
theorem sc_l_is_refusal : FnScope ["_law_error"] ["_law_error"] (defScope s_l_is_refusal) := ⟨rfl, rfl, rfl, by decide +kernel, rfl, by decide +kernel, by decide +kernel⟩
abbrev s_l_put_refused : Stmt := (top 26)
theorem sc_l_put_refused : FnScope ["_law_writer", "_law_number", "_law_many", "_law_error", "e"] ["_law_writer", "_law_number", "_law_many"] (defScope s_l_put_refused) := ⟨rfl, rfl, rfl, by decide +kernel, rfl, by decide +kernel, by decide +kernel⟩
abbrev s_l_take_refused : Stmt := (top 27)
theorem sc_l_take_refused : FnScope ["_law_reader", "_law_many", "_law_error", "e"] ["_law_reader", "_law_many"] (defScope s_l_take_refused) := ⟨rfl, rfl, rfl, by decide +kernel, rfl, by decide +kernel, by decide +kernel⟩
abbrev s_l_made_refused : Stmt := (top 28)
theorem sc_l_made_refused : FnScope ["_law_row_here", "_law_at", "_law_error", "e"] ["_law_row_here", "_law_at"] (defScope s_l_made_refused) := ⟨rfl, rfl, rfl, by decide +kernel, rfl, by decide +kernel, by decide +kernel⟩
abbrev s_l_writer_right : Stmt := (top 29)
theorem sc_l_writer_right : FnScope ["_law_cell", "_law_writer", "_law_stood", "_law_many", "_law_far", "_law_bad", "_law_number", "_law_count"] ["_law_cell"] (defScope s_l_writer_right) := ⟨rfl, rfl, rfl, by decide +kernel, rfl, by decide +kernel, by decide +kernel⟩
abbrev s_l_reader_right : Stmt := (top 30)
theorem sc_l_reader_right : FnScope ["_law_cell", "_law_row_here", "_law_reader", "_law_taken", "_law_far", "_law_stood", "_law_many", "_law_at", "_law_other", "_law_rest", "_law_end"] ["_law_cell"] (defScope s_l_reader_right) := ⟨rfl, rfl, rfl, by decide +kernel, rfl, by decide +kernel, by decide +kernel⟩
abbrev s_law : Stmt := (top 31)
theorem sc_law : FnScope ["_law_script", "_law_cell"] ["_law_script"] (defScope s_law) := ⟨rfl, rfl, rfl, by decide +kernel, rfl, by decide +kernel, by decide +kernel⟩
/-- what the top has written -/
structure Tx (K : PySem.W.Frag) (mg : Str → Option Value) where
  a_is_whole : Addr
  d_is_whole : FuncData
  F_is_whole : Fun K "is_whole" "is_whole" s_is_whole a_is_whole d_is_whole
  b_is_whole : Binds K d_is_whole ["thing"] []
  g_is_whole : mg "is_whole" = some (.ref a_is_whole)
  a_refuse_unless : Addr
  d_refuse_unless : FuncData
  F_refuse_unless : Fun K "refuse_unless" "refuse_unless" s_refuse_unless a_refuse_unless d_refuse_unless
  b_refuse_unless : Binds K d_refuse_unless ["good"] []
  g_refuse_unless : mg "refuse_unless" = some (.ref a_refuse_unless)
  a_Writer_init : Addr
  d_Writer_init : FuncData
  F_Writer_init : Fun K "__init__" "Writer.__init__" s_Writer_init a_Writer_init d_Writer_init
  b_Writer_init : Binds K d_Writer_init ["self"] []
  a_Writer_put : Addr
  d_Writer_put : FuncData
  F_Writer_put : Fun K "put" "Writer.put" s_Writer_put a_Writer_put d_Writer_put
  b_Writer_put : Binds K d_Writer_put ["self", "number", "many"] []
  a_Writer_bits : Addr
  d_Writer_bits : FuncData
  F_Writer_bits : Fun K "bits" "Writer.bits" s_Writer_bits a_Writer_bits d_Writer_bits
  b_Writer_bits : Binds K d_Writer_bits ["self"] []
  a_Writer_row : Addr
  d_Writer_row : FuncData
  F_Writer_row : Fun K "row" "Writer.row" s_Writer_row a_Writer_row d_Writer_row
  b_Writer_row : Binds K d_Writer_row ["self"] []
  a_Reader_init : Addr
  d_Reader_init : FuncData
  F_Reader_init : FunD K "__init__" "Reader.__init__" (defArgs s_Reader_init) (defBody s_Reader_init) (defScope s_Reader_init) [V.int 0] [] a_Reader_init d_Reader_init
  ds_Reader_init_1 : List Value
  v_Reader_init_1 : Vals [V.int 0] ds_Reader_init_1
  b_Reader_init_1 : Binds K d_Reader_init ["self", "row", "at"] ds_Reader_init_1
  b_Reader_init : Binds K d_Reader_init ["self", "row", "at"] []
  a_Reader_left : Addr
  d_Reader_left : FuncData
  F_Reader_left : Fun K "left" "Reader.left" s_Reader_left a_Reader_left d_Reader_left
  b_Reader_left : Binds K d_Reader_left ["self"] []
  a_Reader_take : Addr
  d_Reader_take : FuncData
  F_Reader_take : Fun K "take" "Reader.take" s_Reader_take a_Reader_take d_Reader_take
  b_Reader_take : Binds K d_Reader_take ["self", "many"] []
  a_Reader_place : Addr
  d_Reader_place : FuncData
  F_Reader_place : Fun K "place" "Reader.place" s_Reader_place a_Reader_place d_Reader_place
  b_Reader_place : Binds K d_Reader_place ["self"] []
  a_Reader_ended : Addr
  d_Reader_ended : FuncData
  F_Reader_ended : Fun K "ended" "Reader.ended" s_Reader_ended a_Reader_ended d_Reader_ended
  b_Reader_ended : Binds K d_Reader_ended ["self"] []
  a_l_mixed : Addr
  d_l_mixed : FuncData
  F_l_mixed : Fun K "_law_mixed" "_law_mixed" s_l_mixed a_l_mixed d_l_mixed
  b_l_mixed : Binds K d_l_mixed ["_law_cell", "_law_k"] []
  g_l_mixed : mg "_law_mixed" = some (.ref a_l_mixed)
  a_l_row : Addr
  d_l_row : FuncData
  F_l_row : Fun K "_law_row" "_law_row" s_l_row a_l_row d_l_row
  b_l_row : Binds K d_l_row ["_law_cell", "_law_most"] []
  g_l_row : mg "_law_row" = some (.ref a_l_row)
  a_l_is_refusal : Addr
  d_l_is_refusal : FuncData
  F_l_is_refusal : Fun K "_law_is_refusal" "_law_is_refusal" s_l_is_refusal a_l_is_refusal d_l_is_refusal
  b_l_is_refusal : Binds K d_l_is_refusal ["_law_error"] []
  g_l_is_refusal : mg "_law_is_refusal" = some (.ref a_l_is_refusal)
  a_l_put_refused : Addr
  d_l_put_refused : FuncData
  F_l_put_refused : Fun K "_law_put_refused" "_law_put_refused" s_l_put_refused a_l_put_refused d_l_put_refused
  b_l_put_refused : Binds K d_l_put_refused ["_law_writer", "_law_number", "_law_many"] []
  g_l_put_refused : mg "_law_put_refused" = some (.ref a_l_put_refused)
  a_l_take_refused : Addr
  d_l_take_refused : FuncData
  F_l_take_refused : Fun K "_law_take_refused" "_law_take_refused" s_l_take_refused a_l_take_refused d_l_take_refused
  b_l_take_refused : Binds K d_l_take_refused ["_law_reader", "_law_many"] []
  g_l_take_refused : mg "_law_take_refused" = some (.ref a_l_take_refused)
  a_l_made_refused : Addr
  d_l_made_refused : FuncData
  F_l_made_refused : Fun K "_law_made_refused" "_law_made_refused" s_l_made_refused a_l_made_refused d_l_made_refused
  b_l_made_refused : Binds K d_l_made_refused ["_law_row_here", "_law_at"] []
  g_l_made_refused : mg "_law_made_refused" = some (.ref a_l_made_refused)
  a_l_writer_right : Addr
  d_l_writer_right : FuncData
  F_l_writer_right : Fun K "_law_writer_right" "_law_writer_right" s_l_writer_right a_l_writer_right d_l_writer_right
  b_l_writer_right : Binds K d_l_writer_right ["_law_cell"] []
  g_l_writer_right : mg "_law_writer_right" = some (.ref a_l_writer_right)
  a_l_reader_right : Addr
  d_l_reader_right : FuncData
  F_l_reader_right : Fun K "_law_reader_right" "_law_reader_right" s_l_reader_right a_l_reader_right d_l_reader_right
  b_l_reader_right : Binds K d_l_reader_right ["_law_cell"] []
  g_l_reader_right : mg "_law_reader_right" = some (.ref a_l_reader_right)
  a_law : Addr
  d_law : FuncData
  F_law : Fun K "law" "law" s_law a_law d_law
  b_law : Binds K d_law ["_law_script"] []
  g_law : mg "law" = some (.ref a_law)
  C_Writer : Addr
  g_Writer : mg "Writer" = some (.ref C_Writer)
  cl_Writer : Cls K C_Writer
  n_Writer_full : NoAttr K C_Writer "full"
  n_Writer_begun : NoAttr K C_Writer "begun"
  n_Writer_many : NoAttr K C_Writer "many"
  K_Writer : Mk K C_Writer a_Writer_init
  M_Writer_put : Meth K C_Writer "put" a_Writer_put
  M_Writer_bits : Meth K C_Writer "bits" a_Writer_bits
  M_Writer_row : Meth K C_Writer "row" a_Writer_row
  C_Reader : Addr
  g_Reader : mg "Reader" = some (.ref C_Reader)
  cl_Reader : Cls K C_Reader
  n_Reader_bytes : NoAttr K C_Reader "bytes"
  n_Reader_next : NoAttr K C_Reader "next"
  K_Reader : Mk K C_Reader a_Reader_init
  M_Reader_left : Meth K C_Reader "left" a_Reader_left
  M_Reader_take : Meth K C_Reader "take" a_Reader_take
  M_Reader_place : Meth K C_Reader "place" a_Reader_place
  M_Reader_ended : Meth K C_Reader "ended" a_Reader_ended
  C_ShelfError : Addr
  C_BadBits : Addr
  C_BadTable : Addr
  C_BadToken : Addr
  C_BadPaper : Addr
  C_NoContainer : Addr
  C_BadName : Addr
  C_NoName : Addr
  C_HasName : Addr
  C_BadSize : Addr
  C_BadText : Addr
  C_Full : Addr
  C_BadPlace : Addr
  C_NoRow : Addr
  g_ShelfError : mg "ShelfError" = some (.ref C_ShelfError)
  k_ShelfError : PySem.W.keepIn K (.ref C_ShelfError) = true
  b_ShelfError : PySem.W.subIn K (.ref C_ShelfError) (.type "BaseException") = some true
  t_ShelfError : PySem.W.typeIn K (.ref C_ShelfError) = some (.type "type")
  i_ShelfError : PySem.W.isClsIn K C_ShelfError = true
  g_BadBits : mg "BadBits" = some (.ref C_BadBits)
  k_BadBits : PySem.W.keepIn K (.ref C_BadBits) = true
  b_BadBits : PySem.W.subIn K (.ref C_BadBits) (.type "BaseException") = some true
  t_BadBits : PySem.W.typeIn K (.ref C_BadBits) = some (.type "type")
  i_BadBits : PySem.W.isClsIn K C_BadBits = true
  x_BadBits : PySem.W.excIn K C_BadBits [.type "ValueError", .type "Exception", .type "BaseException", .type "object"] "ValueError.__new__" = true
  gb_BadBits : PySem.W.findIn K (.ref C_BadBits) "__getattribute__" = some (some (.builtin "BaseException.__getattribute__"))
  gg_BadBits : PySem.W.findIn K (.ref C_BadBits) "__getattr__" = some none
  hd_BadBits : PySem.W.hasDictIn K C_BadBits = true
  ca_BadBits : PySem.W.findIn K (.ref C_BadBits) "__class__" = some (some (.builtin "object.__class__"))
  cn_BadBits : PySem.W.specialIn K (.builtin "object.__class__") "__get__" = some (some (.builtin "getset_descriptor.__get__"))
  ct_BadBits : PySem.W.takesIn K (.builtin "object.__class__") = some true
  cm_BadBits : PySem.W.mroIn K C_BadBits (.type "object") = some true
  xc_BadBits : ExcC K C_BadBits
  q_BadBits_BadBits : PySem.W.kitOne K (.ref C_BadBits) (.ref C_BadBits) = some true
  q_BadBits_BadName : PySem.W.kitOne K (.ref C_BadBits) (.ref C_BadName) = some false
  q_BadBits_BadPaper : PySem.W.kitOne K (.ref C_BadBits) (.ref C_BadPaper) = some false
  q_BadBits_BadPlace : PySem.W.kitOne K (.ref C_BadBits) (.ref C_BadPlace) = some false
  q_BadBits_BadSize : PySem.W.kitOne K (.ref C_BadBits) (.ref C_BadSize) = some false
  q_BadBits_BadTable : PySem.W.kitOne K (.ref C_BadBits) (.ref C_BadTable) = some false
  q_BadBits_BadText : PySem.W.kitOne K (.ref C_BadBits) (.ref C_BadText) = some false
  q_BadBits_BadToken : PySem.W.kitOne K (.ref C_BadBits) (.ref C_BadToken) = some false
  q_BadBits_Full : PySem.W.kitOne K (.ref C_BadBits) (.ref C_Full) = some false
  q_BadBits_HasName : PySem.W.kitOne K (.ref C_BadBits) (.ref C_HasName) = some false
  q_BadBits_NoContainer : PySem.W.kitOne K (.ref C_BadBits) (.ref C_NoContainer) = some false
  q_BadBits_NoName : PySem.W.kitOne K (.ref C_BadBits) (.ref C_NoName) = some false
  q_BadBits_NoRow : PySem.W.kitOne K (.ref C_BadBits) (.ref C_NoRow) = some false
  q_BadBits_ValueError : PySem.W.kitOne K (.ref C_BadBits) (.type "ValueError") = some true
  g_BadTable : mg "BadTable" = some (.ref C_BadTable)
  k_BadTable : PySem.W.keepIn K (.ref C_BadTable) = true
  b_BadTable : PySem.W.subIn K (.ref C_BadTable) (.type "BaseException") = some true
  t_BadTable : PySem.W.typeIn K (.ref C_BadTable) = some (.type "type")
  i_BadTable : PySem.W.isClsIn K C_BadTable = true
  g_BadToken : mg "BadToken" = some (.ref C_BadToken)
  k_BadToken : PySem.W.keepIn K (.ref C_BadToken) = true
  b_BadToken : PySem.W.subIn K (.ref C_BadToken) (.type "BaseException") = some true
  t_BadToken : PySem.W.typeIn K (.ref C_BadToken) = some (.type "type")
  i_BadToken : PySem.W.isClsIn K C_BadToken = true
  g_BadPaper : mg "BadPaper" = some (.ref C_BadPaper)
  k_BadPaper : PySem.W.keepIn K (.ref C_BadPaper) = true
  b_BadPaper : PySem.W.subIn K (.ref C_BadPaper) (.type "BaseException") = some true
  t_BadPaper : PySem.W.typeIn K (.ref C_BadPaper) = some (.type "type")
  i_BadPaper : PySem.W.isClsIn K C_BadPaper = true
  g_NoContainer : mg "NoContainer" = some (.ref C_NoContainer)
  k_NoContainer : PySem.W.keepIn K (.ref C_NoContainer) = true
  b_NoContainer : PySem.W.subIn K (.ref C_NoContainer) (.type "BaseException") = some true
  t_NoContainer : PySem.W.typeIn K (.ref C_NoContainer) = some (.type "type")
  i_NoContainer : PySem.W.isClsIn K C_NoContainer = true
  g_BadName : mg "BadName" = some (.ref C_BadName)
  k_BadName : PySem.W.keepIn K (.ref C_BadName) = true
  b_BadName : PySem.W.subIn K (.ref C_BadName) (.type "BaseException") = some true
  t_BadName : PySem.W.typeIn K (.ref C_BadName) = some (.type "type")
  i_BadName : PySem.W.isClsIn K C_BadName = true
  g_NoName : mg "NoName" = some (.ref C_NoName)
  k_NoName : PySem.W.keepIn K (.ref C_NoName) = true
  b_NoName : PySem.W.subIn K (.ref C_NoName) (.type "BaseException") = some true
  t_NoName : PySem.W.typeIn K (.ref C_NoName) = some (.type "type")
  i_NoName : PySem.W.isClsIn K C_NoName = true
  g_HasName : mg "HasName" = some (.ref C_HasName)
  k_HasName : PySem.W.keepIn K (.ref C_HasName) = true
  b_HasName : PySem.W.subIn K (.ref C_HasName) (.type "BaseException") = some true
  t_HasName : PySem.W.typeIn K (.ref C_HasName) = some (.type "type")
  i_HasName : PySem.W.isClsIn K C_HasName = true
  g_BadSize : mg "BadSize" = some (.ref C_BadSize)
  k_BadSize : PySem.W.keepIn K (.ref C_BadSize) = true
  b_BadSize : PySem.W.subIn K (.ref C_BadSize) (.type "BaseException") = some true
  t_BadSize : PySem.W.typeIn K (.ref C_BadSize) = some (.type "type")
  i_BadSize : PySem.W.isClsIn K C_BadSize = true
  g_BadText : mg "BadText" = some (.ref C_BadText)
  k_BadText : PySem.W.keepIn K (.ref C_BadText) = true
  b_BadText : PySem.W.subIn K (.ref C_BadText) (.type "BaseException") = some true
  t_BadText : PySem.W.typeIn K (.ref C_BadText) = some (.type "type")
  i_BadText : PySem.W.isClsIn K C_BadText = true
  g_Full : mg "Full" = some (.ref C_Full)
  k_Full : PySem.W.keepIn K (.ref C_Full) = true
  b_Full : PySem.W.subIn K (.ref C_Full) (.type "BaseException") = some true
  t_Full : PySem.W.typeIn K (.ref C_Full) = some (.type "type")
  i_Full : PySem.W.isClsIn K C_Full = true
  g_BadPlace : mg "BadPlace" = some (.ref C_BadPlace)
  k_BadPlace : PySem.W.keepIn K (.ref C_BadPlace) = true
  b_BadPlace : PySem.W.subIn K (.ref C_BadPlace) (.type "BaseException") = some true
  t_BadPlace : PySem.W.typeIn K (.ref C_BadPlace) = some (.type "type")
  i_BadPlace : PySem.W.isClsIn K C_BadPlace = true
  g_NoRow : mg "NoRow" = some (.ref C_NoRow)
  k_NoRow : PySem.W.keepIn K (.ref C_NoRow) = true
  b_NoRow : PySem.W.subIn K (.ref C_NoRow) (.type "BaseException") = some true
  t_NoRow : PySem.W.typeIn K (.ref C_NoRow) = some (.type "type")
  i_NoRow : PySem.W.isClsIn K C_NoRow = true
  e_BadBits_BadBits : PySem.W.exmOne K (.ref C_BadBits) (.ref C_BadBits) = some true
  e_BadBits_BadName : PySem.W.exmOne K (.ref C_BadBits) (.ref C_BadName) = some false
  e_BadBits_BadPaper : PySem.W.exmOne K (.ref C_BadBits) (.ref C_BadPaper) = some false
  e_BadBits_BadPlace : PySem.W.exmOne K (.ref C_BadBits) (.ref C_BadPlace) = some false
  e_BadBits_BadSize : PySem.W.exmOne K (.ref C_BadBits) (.ref C_BadSize) = some false
  e_BadBits_BadTable : PySem.W.exmOne K (.ref C_BadBits) (.ref C_BadTable) = some false
  e_BadBits_BadText : PySem.W.exmOne K (.ref C_BadBits) (.ref C_BadText) = some false
  e_BadBits_BadToken : PySem.W.exmOne K (.ref C_BadBits) (.ref C_BadToken) = some false
  e_BadBits_Full : PySem.W.exmOne K (.ref C_BadBits) (.ref C_Full) = some false
  e_BadBits_HasName : PySem.W.exmOne K (.ref C_BadBits) (.ref C_HasName) = some false
  e_BadBits_NoContainer : PySem.W.exmOne K (.ref C_BadBits) (.ref C_NoContainer) = some false
  e_BadBits_NoName : PySem.W.exmOne K (.ref C_BadBits) (.ref C_NoName) = some false
  e_BadBits_NoRow : PySem.W.exmOne K (.ref C_BadBits) (.ref C_NoRow) = some false
  e_BadBits_ShelfError : PySem.W.exmOne K (.ref C_BadBits) (.ref C_ShelfError) = some true
  z_ValueError : mg "ValueError" = none
  z_bool : mg "bool" = none
  z_int : mg "int" = none
  z_isinstance : mg "isinstance" = none
  z_len : mg "len" = none
  z_list : mg "list" = none
  z_min : mg "min" = none
  z_range : mg "range" = none
  u_MOST_BITS : Value
  m_MOST_BITS : mg "MOST_BITS" = some u_MOST_BITS
  r_MOST_BITS : RelV (.int 64) u_MOST_BITS
def fs_Writer (x0 x1 x2 : V) : List (Str × V) := [("full", x0), ("begun", x1), ("many", x2)]
theorem rd_Writer_full {K : PySem.W.Frag} {mg : Str → Option Value} (T : Tx K mg) {H : Hp} {p dx : Addr} {x0 x1 x2 : V} (ho : H p = some (.ins T.C_Writer dx (fs_Writer x0 x1 x2))) {Q : VK} (h : Q x0 H) : rFld K "full" (.ref p) H Q := ⟨p, _, dx, _, _, rfl, ho, T.cl_Writer, T.n_Writer_full, lkf_hd, h⟩
theorem pt_Writer_full {x0 x1 x2 y : V} : putF "full" y (fs_Writer x0 x1 x2) = fs_Writer y x1 x2 := ptf_hd
theorem wr_Writer_full {K : PySem.W.Frag} {mg : Str → Option Value} (T : Tx K mg) {H : Hp} {p dx : Addr} {x0 x1 x2 : V} (ho : H p = some (.ins T.C_Writer dx (fs_Writer x0 x1 x2))) {y : V} {R : Hp → Prop} (h : R (upd H p (.ins T.C_Writer dx (fs_Writer y x1 x2)))) : wFld K "full" (.ref p) y H R := ⟨p, _, dx, _, rfl, ho, T.cl_Writer, T.n_Writer_full, (by show 3 < 1000; decide), by rw [pt_Writer_full]; exact h⟩
theorem ba_Writer_full {K : PySem.W.Frag} {mg : Str → Option Value} (T : Tx K mg) {H : Hp} {p dx : Addr} {x0 x1 x2 : V} (ho : H p = some (.ins T.C_Writer dx (fs_Writer x0 x1 x2))) {R : Addr → Addr → V → Hp → Prop} (h : R p T.C_Writer x0 H) : bFld K "full" (.ref p) H R := ⟨p, _, dx, _, _, rfl, ho, T.cl_Writer, T.n_Writer_full, lkf_hd, h⟩
theorem aw_Writer_full {K : PySem.W.Frag} {mg : Str → Option Value} (T : Tx K mg) {H : Hp} {p dx : Addr} {x0 x1 x2 : V} (ho : H p = some (.ins T.C_Writer dx (fs_Writer x0 x1 x2))) {y : V} {R : Hp → Prop} (h : R (upd H p (.ins T.C_Writer dx (fs_Writer y x1 x2)))) : aFld p T.C_Writer "full" y H R := ⟨dx, _, ho, (by show 3 < 1000; decide), by rw [pt_Writer_full]; exact h⟩
theorem iw_Writer_full {K : PySem.W.Frag} {mg : Str → Option Value} (T : Tx K mg) {H : Hp} {p dx : Addr} { y : V} (ho : H p = some (.ins T.C_Writer dx [])) {R : Hp → Prop} (h : R (upd H p (.ins T.C_Writer dx [("full", y)]))) : wFld K "full" (.ref p) y H R := ⟨p, _, dx, _, rfl, ho, T.cl_Writer, T.n_Writer_full, (by show 0 < 1000; decide), by rw [show putF "full" y ([] : List (Str × V)) = ([("full", y)] : List (Str × V)) from ptf_nil]; exact h⟩
theorem rd_Writer_begun {K : PySem.W.Frag} {mg : Str → Option Value} (T : Tx K mg) {H : Hp} {p dx : Addr} {x0 x1 x2 : V} (ho : H p = some (.ins T.C_Writer dx (fs_Writer x0 x1 x2))) {Q : VK} (h : Q x1 H) : rFld K "begun" (.ref p) H Q := ⟨p, _, dx, _, _, rfl, ho, T.cl_Writer, T.n_Writer_begun, lkf_tl (by decide +kernel) (lkf_hd), h⟩
theorem pt_Writer_begun {x0 x1 x2 y : V} : putF "begun" y (fs_Writer x0 x1 x2) = fs_Writer x0 y x2 := ptf_tl (by decide +kernel) (ptf_hd)
theorem wr_Writer_begun {K : PySem.W.Frag} {mg : Str → Option Value} (T : Tx K mg) {H : Hp} {p dx : Addr} {x0 x1 x2 : V} (ho : H p = some (.ins T.C_Writer dx (fs_Writer x0 x1 x2))) {y : V} {R : Hp → Prop} (h : R (upd H p (.ins T.C_Writer dx (fs_Writer x0 y x2)))) : wFld K "begun" (.ref p) y H R := ⟨p, _, dx, _, rfl, ho, T.cl_Writer, T.n_Writer_begun, (by show 3 < 1000; decide), by rw [pt_Writer_begun]; exact h⟩
theorem ba_Writer_begun {K : PySem.W.Frag} {mg : Str → Option Value} (T : Tx K mg) {H : Hp} {p dx : Addr} {x0 x1 x2 : V} (ho : H p = some (.ins T.C_Writer dx (fs_Writer x0 x1 x2))) {R : Addr → Addr → V → Hp → Prop} (h : R p T.C_Writer x1 H) : bFld K "begun" (.ref p) H R := ⟨p, _, dx, _, _, rfl, ho, T.cl_Writer, T.n_Writer_begun, lkf_tl (by decide +kernel) (lkf_hd), h⟩
theorem aw_Writer_begun {K : PySem.W.Frag} {mg : Str → Option Value} (T : Tx K mg) {H : Hp} {p dx : Addr} {x0 x1 x2 : V} (ho : H p = some (.ins T.C_Writer dx (fs_Writer x0 x1 x2))) {y : V} {R : Hp → Prop} (h : R (upd H p (.ins T.C_Writer dx (fs_Writer x0 y x2)))) : aFld p T.C_Writer "begun" y H R := ⟨dx, _, ho, (by show 3 < 1000; decide), by rw [pt_Writer_begun]; exact h⟩
theorem iw_Writer_begun {K : PySem.W.Frag} {mg : Str → Option Value} (T : Tx K mg) {H : Hp} {p dx : Addr} {x0 y : V} (ho : H p = some (.ins T.C_Writer dx [("full", x0)])) {R : Hp → Prop} (h : R (upd H p (.ins T.C_Writer dx [("full", x0), ("begun", y)]))) : wFld K "begun" (.ref p) y H R := ⟨p, _, dx, _, rfl, ho, T.cl_Writer, T.n_Writer_begun, (by show 1 < 1000; decide), by rw [show putF "begun" y ([("full", x0)] : List (Str × V)) = ([("full", x0), ("begun", y)] : List (Str × V)) from ptf_tl (by decide +kernel) (ptf_nil)]; exact h⟩
theorem rd_Writer_many {K : PySem.W.Frag} {mg : Str → Option Value} (T : Tx K mg) {H : Hp} {p dx : Addr} {x0 x1 x2 : V} (ho : H p = some (.ins T.C_Writer dx (fs_Writer x0 x1 x2))) {Q : VK} (h : Q x2 H) : rFld K "many" (.ref p) H Q := ⟨p, _, dx, _, _, rfl, ho, T.cl_Writer, T.n_Writer_many, lkf_tl (by decide +kernel) (lkf_tl (by decide +kernel) (lkf_hd)), h⟩
theorem pt_Writer_many {x0 x1 x2 y : V} : putF "many" y (fs_Writer x0 x1 x2) = fs_Writer x0 x1 y := ptf_tl (by decide +kernel) (ptf_tl (by decide +kernel) (ptf_hd))
theorem wr_Writer_many {K : PySem.W.Frag} {mg : Str → Option Value} (T : Tx K mg) {H : Hp} {p dx : Addr} {x0 x1 x2 : V} (ho : H p = some (.ins T.C_Writer dx (fs_Writer x0 x1 x2))) {y : V} {R : Hp → Prop} (h : R (upd H p (.ins T.C_Writer dx (fs_Writer x0 x1 y)))) : wFld K "many" (.ref p) y H R := ⟨p, _, dx, _, rfl, ho, T.cl_Writer, T.n_Writer_many, (by show 3 < 1000; decide), by rw [pt_Writer_many]; exact h⟩
theorem ba_Writer_many {K : PySem.W.Frag} {mg : Str → Option Value} (T : Tx K mg) {H : Hp} {p dx : Addr} {x0 x1 x2 : V} (ho : H p = some (.ins T.C_Writer dx (fs_Writer x0 x1 x2))) {R : Addr → Addr → V → Hp → Prop} (h : R p T.C_Writer x2 H) : bFld K "many" (.ref p) H R := ⟨p, _, dx, _, _, rfl, ho, T.cl_Writer, T.n_Writer_many, lkf_tl (by decide +kernel) (lkf_tl (by decide +kernel) (lkf_hd)), h⟩
theorem aw_Writer_many {K : PySem.W.Frag} {mg : Str → Option Value} (T : Tx K mg) {H : Hp} {p dx : Addr} {x0 x1 x2 : V} (ho : H p = some (.ins T.C_Writer dx (fs_Writer x0 x1 x2))) {y : V} {R : Hp → Prop} (h : R (upd H p (.ins T.C_Writer dx (fs_Writer x0 x1 y)))) : aFld p T.C_Writer "many" y H R := ⟨dx, _, ho, (by show 3 < 1000; decide), by rw [pt_Writer_many]; exact h⟩
theorem iw_Writer_many {K : PySem.W.Frag} {mg : Str → Option Value} (T : Tx K mg) {H : Hp} {p dx : Addr} {x0 x1 y : V} (ho : H p = some (.ins T.C_Writer dx [("full", x0), ("begun", x1)])) {R : Hp → Prop} (h : R (upd H p (.ins T.C_Writer dx [("full", x0), ("begun", x1), ("many", y)]))) : wFld K "many" (.ref p) y H R := ⟨p, _, dx, _, rfl, ho, T.cl_Writer, T.n_Writer_many, (by show 2 < 1000; decide), by rw [show putF "many" y ([("full", x0), ("begun", x1)] : List (Str × V)) = ([("full", x0), ("begun", x1), ("many", y)] : List (Str × V)) from ptf_tl (by decide +kernel) (ptf_tl (by decide +kernel) (ptf_nil))]; exact h⟩
theorem mt_Writer_put {K : PySem.W.Frag} {mg : Str → Option Value} (T : Tx K mg) {H : Hp} {p dx : Addr} {x0 x1 x2 : V} (ho : H p = some (.ins T.C_Writer dx (fs_Writer x0 x1 x2))) {R : V → Hp → Prop} (h : R (.ref p) H) : rMeth T.C_Writer "put" R (.ref p) H := z_methR ho (lkf_tl (by decide +kernel) (lkf_tl (by decide +kernel) (lkf_tl (by decide +kernel) (lkf_nil)))) h
theorem mt_Writer_bits {K : PySem.W.Frag} {mg : Str → Option Value} (T : Tx K mg) {H : Hp} {p dx : Addr} {x0 x1 x2 : V} (ho : H p = some (.ins T.C_Writer dx (fs_Writer x0 x1 x2))) {R : V → Hp → Prop} (h : R (.ref p) H) : rMeth T.C_Writer "bits" R (.ref p) H := z_methR ho (lkf_tl (by decide +kernel) (lkf_tl (by decide +kernel) (lkf_tl (by decide +kernel) (lkf_nil)))) h
theorem mt_Writer_fill {K : PySem.W.Frag} {mg : Str → Option Value} (T : Tx K mg) {H : Hp} {p dx : Addr} {x0 x1 x2 : V} (ho : H p = some (.ins T.C_Writer dx (fs_Writer x0 x1 x2))) {R : V → Hp → Prop} (h : R (.ref p) H) : rMeth T.C_Writer "fill" R (.ref p) H := z_methR ho (lkf_tl (by decide +kernel) (lkf_tl (by decide +kernel) (lkf_tl (by decide +kernel) (lkf_nil)))) h
theorem mt_Writer_row {K : PySem.W.Frag} {mg : Str → Option Value} (T : Tx K mg) {H : Hp} {p dx : Addr} {x0 x1 x2 : V} (ho : H p = some (.ins T.C_Writer dx (fs_Writer x0 x1 x2))) {R : V → Hp → Prop} (h : R (.ref p) H) : rMeth T.C_Writer "row" R (.ref p) H := z_methR ho (lkf_tl (by decide +kernel) (lkf_tl (by decide +kernel) (lkf_tl (by decide +kernel) (lkf_nil)))) h
def fs_Reader (x0 x1 : V) : List (Str × V) := [("bytes", x0), ("next", x1)]
theorem rd_Reader_bytes {K : PySem.W.Frag} {mg : Str → Option Value} (T : Tx K mg) {H : Hp} {p dx : Addr} {x0 x1 : V} (ho : H p = some (.ins T.C_Reader dx (fs_Reader x0 x1))) {Q : VK} (h : Q x0 H) : rFld K "bytes" (.ref p) H Q := ⟨p, _, dx, _, _, rfl, ho, T.cl_Reader, T.n_Reader_bytes, lkf_hd, h⟩
theorem pt_Reader_bytes {x0 x1 y : V} : putF "bytes" y (fs_Reader x0 x1) = fs_Reader y x1 := ptf_hd
theorem wr_Reader_bytes {K : PySem.W.Frag} {mg : Str → Option Value} (T : Tx K mg) {H : Hp} {p dx : Addr} {x0 x1 : V} (ho : H p = some (.ins T.C_Reader dx (fs_Reader x0 x1))) {y : V} {R : Hp → Prop} (h : R (upd H p (.ins T.C_Reader dx (fs_Reader y x1)))) : wFld K "bytes" (.ref p) y H R := ⟨p, _, dx, _, rfl, ho, T.cl_Reader, T.n_Reader_bytes, (by show 2 < 1000; decide), by rw [pt_Reader_bytes]; exact h⟩
theorem ba_Reader_bytes {K : PySem.W.Frag} {mg : Str → Option Value} (T : Tx K mg) {H : Hp} {p dx : Addr} {x0 x1 : V} (ho : H p = some (.ins T.C_Reader dx (fs_Reader x0 x1))) {R : Addr → Addr → V → Hp → Prop} (h : R p T.C_Reader x0 H) : bFld K "bytes" (.ref p) H R := ⟨p, _, dx, _, _, rfl, ho, T.cl_Reader, T.n_Reader_bytes, lkf_hd, h⟩
theorem aw_Reader_bytes {K : PySem.W.Frag} {mg : Str → Option Value} (T : Tx K mg) {H : Hp} {p dx : Addr} {x0 x1 : V} (ho : H p = some (.ins T.C_Reader dx (fs_Reader x0 x1))) {y : V} {R : Hp → Prop} (h : R (upd H p (.ins T.C_Reader dx (fs_Reader y x1)))) : aFld p T.C_Reader "bytes" y H R := ⟨dx, _, ho, (by show 2 < 1000; decide), by rw [pt_Reader_bytes]; exact h⟩
theorem iw_Reader_bytes {K : PySem.W.Frag} {mg : Str → Option Value} (T : Tx K mg) {H : Hp} {p dx : Addr} { y : V} (ho : H p = some (.ins T.C_Reader dx [])) {R : Hp → Prop} (h : R (upd H p (.ins T.C_Reader dx [("bytes", y)]))) : wFld K "bytes" (.ref p) y H R := ⟨p, _, dx, _, rfl, ho, T.cl_Reader, T.n_Reader_bytes, (by show 0 < 1000; decide), by rw [show putF "bytes" y ([] : List (Str × V)) = ([("bytes", y)] : List (Str × V)) from ptf_nil]; exact h⟩
theorem rd_Reader_next {K : PySem.W.Frag} {mg : Str → Option Value} (T : Tx K mg) {H : Hp} {p dx : Addr} {x0 x1 : V} (ho : H p = some (.ins T.C_Reader dx (fs_Reader x0 x1))) {Q : VK} (h : Q x1 H) : rFld K "next" (.ref p) H Q := ⟨p, _, dx, _, _, rfl, ho, T.cl_Reader, T.n_Reader_next, lkf_tl (by decide +kernel) (lkf_hd), h⟩
theorem pt_Reader_next {x0 x1 y : V} : putF "next" y (fs_Reader x0 x1) = fs_Reader x0 y := ptf_tl (by decide +kernel) (ptf_hd)
theorem wr_Reader_next {K : PySem.W.Frag} {mg : Str → Option Value} (T : Tx K mg) {H : Hp} {p dx : Addr} {x0 x1 : V} (ho : H p = some (.ins T.C_Reader dx (fs_Reader x0 x1))) {y : V} {R : Hp → Prop} (h : R (upd H p (.ins T.C_Reader dx (fs_Reader x0 y)))) : wFld K "next" (.ref p) y H R := ⟨p, _, dx, _, rfl, ho, T.cl_Reader, T.n_Reader_next, (by show 2 < 1000; decide), by rw [pt_Reader_next]; exact h⟩
theorem ba_Reader_next {K : PySem.W.Frag} {mg : Str → Option Value} (T : Tx K mg) {H : Hp} {p dx : Addr} {x0 x1 : V} (ho : H p = some (.ins T.C_Reader dx (fs_Reader x0 x1))) {R : Addr → Addr → V → Hp → Prop} (h : R p T.C_Reader x1 H) : bFld K "next" (.ref p) H R := ⟨p, _, dx, _, _, rfl, ho, T.cl_Reader, T.n_Reader_next, lkf_tl (by decide +kernel) (lkf_hd), h⟩
theorem aw_Reader_next {K : PySem.W.Frag} {mg : Str → Option Value} (T : Tx K mg) {H : Hp} {p dx : Addr} {x0 x1 : V} (ho : H p = some (.ins T.C_Reader dx (fs_Reader x0 x1))) {y : V} {R : Hp → Prop} (h : R (upd H p (.ins T.C_Reader dx (fs_Reader x0 y)))) : aFld p T.C_Reader "next" y H R := ⟨dx, _, ho, (by show 2 < 1000; decide), by rw [pt_Reader_next]; exact h⟩
theorem iw_Reader_next {K : PySem.W.Frag} {mg : Str → Option Value} (T : Tx K mg) {H : Hp} {p dx : Addr} {x0 y : V} (ho : H p = some (.ins T.C_Reader dx [("bytes", x0)])) {R : Hp → Prop} (h : R (upd H p (.ins T.C_Reader dx [("bytes", x0), ("next", y)]))) : wFld K "next" (.ref p) y H R := ⟨p, _, dx, _, rfl, ho, T.cl_Reader, T.n_Reader_next, (by show 1 < 1000; decide), by rw [show putF "next" y ([("bytes", x0)] : List (Str × V)) = ([("bytes", x0), ("next", y)] : List (Str × V)) from ptf_tl (by decide +kernel) (ptf_nil)]; exact h⟩
theorem mt_Reader_left {K : PySem.W.Frag} {mg : Str → Option Value} (T : Tx K mg) {H : Hp} {p dx : Addr} {x0 x1 : V} (ho : H p = some (.ins T.C_Reader dx (fs_Reader x0 x1))) {R : V → Hp → Prop} (h : R (.ref p) H) : rMeth T.C_Reader "left" R (.ref p) H := z_methR ho (lkf_tl (by decide +kernel) (lkf_tl (by decide +kernel) (lkf_nil))) h
theorem mt_Reader_take {K : PySem.W.Frag} {mg : Str → Option Value} (T : Tx K mg) {H : Hp} {p dx : Addr} {x0 x1 : V} (ho : H p = some (.ins T.C_Reader dx (fs_Reader x0 x1))) {R : V → Hp → Prop} (h : R (.ref p) H) : rMeth T.C_Reader "take" R (.ref p) H := z_methR ho (lkf_tl (by decide +kernel) (lkf_tl (by decide +kernel) (lkf_nil))) h
theorem mt_Reader_place {K : PySem.W.Frag} {mg : Str → Option Value} (T : Tx K mg) {H : Hp} {p dx : Addr} {x0 x1 : V} (ho : H p = some (.ins T.C_Reader dx (fs_Reader x0 x1))) {R : V → Hp → Prop} (h : R (.ref p) H) : rMeth T.C_Reader "place" R (.ref p) H := z_methR ho (lkf_tl (by decide +kernel) (lkf_tl (by decide +kernel) (lkf_nil))) h
theorem mt_Reader_ended {K : PySem.W.Frag} {mg : Str → Option Value} (T : Tx K mg) {H : Hp} {p dx : Addr} {x0 x1 : V} (ho : H p = some (.ins T.C_Reader dx (fs_Reader x0 x1))) {R : V → Hp → Prop} (h : R (.ref p) H) : rMeth T.C_Reader "ended" R (.ref p) H := z_methR ho (lkf_tl (by decide +kernel) (lkf_tl (by decide +kernel) (lkf_nil))) h
local macro_rules | `(tactic| walk_at "z1") => `(tactic| first
  | ((with_reducible show Z.rFld _ _ _ _ _); first
    | ((with_reducible apply rd_Writer_full); (focus (· walk_at "lk")))
    | ((with_reducible apply rd_Writer_begun); (focus (· walk_at "lk")))
    | ((with_reducible apply rd_Writer_many); (focus (· walk_at "lk")))
    | ((with_reducible apply rd_Reader_bytes); (focus (· walk_at "lk")))
    | ((with_reducible apply rd_Reader_next); (focus (· walk_at "lk"))))
  | ((with_reducible show Z.wFld _ _ _ _ _ _); first
    | ((with_reducible apply wr_Writer_full); (focus (· walk_at "lk")))
    | ((with_reducible apply iw_Writer_full); (focus (· walk_at "lk")))
    | ((with_reducible apply wr_Writer_begun); (focus (· walk_at "lk")))
    | ((with_reducible apply iw_Writer_begun); (focus (· walk_at "lk")))
    | ((with_reducible apply wr_Writer_many); (focus (· walk_at "lk")))
    | ((with_reducible apply iw_Writer_many); (focus (· walk_at "lk")))
    | ((with_reducible apply wr_Reader_bytes); (focus (· walk_at "lk")))
    | ((with_reducible apply iw_Reader_bytes); (focus (· walk_at "lk")))
    | ((with_reducible apply wr_Reader_next); (focus (· walk_at "lk")))
    | ((with_reducible apply iw_Reader_next); (focus (· walk_at "lk"))))
  | ((with_reducible show Z.bFld _ _ _ _ _); first
    | ((with_reducible apply ba_Writer_full); (focus (· walk_at "lk")))
    | ((with_reducible apply ba_Writer_begun); (focus (· walk_at "lk")))
    | ((with_reducible apply ba_Writer_many); (focus (· walk_at "lk")))
    | ((with_reducible apply ba_Reader_bytes); (focus (· walk_at "lk")))
    | ((with_reducible apply ba_Reader_next); (focus (· walk_at "lk"))))
  | ((with_reducible show Z.aFld _ _ _ _ _ _); first
    | ((with_reducible apply aw_Writer_full); (focus (· walk_at "lk")))
    | ((with_reducible apply aw_Writer_begun); (focus (· walk_at "lk")))
    | ((with_reducible apply aw_Writer_many); (focus (· walk_at "lk")))
    | ((with_reducible apply aw_Reader_bytes); (focus (· walk_at "lk")))
    | ((with_reducible apply aw_Reader_next); (focus (· walk_at "lk"))))
  | ((with_reducible show Z.rMeth _ _ _ _ _); first
    | ((with_reducible apply mt_Writer_put); (focus (· walk_at "lk")))
    | ((with_reducible apply mt_Writer_bits); (focus (· walk_at "lk")))
    | ((with_reducible apply mt_Writer_fill); (focus (· walk_at "lk")))
    | ((with_reducible apply mt_Writer_row); (focus (· walk_at "lk")))
    | ((with_reducible apply mt_Reader_left); (focus (· walk_at "lk")))
    | ((with_reducible apply mt_Reader_take); (focus (· walk_at "lk")))
    | ((with_reducible apply mt_Reader_place); (focus (· walk_at "lk")))
    | ((with_reducible apply mt_Reader_ended); (focus (· walk_at "lk")))))
def ctT {K : PySem.W.Frag} {mg : Str → Option Value} (T : Tx K mg) : Ct := ⟨fun n => match n with
  | 0 => T.C_ShelfError
  | 1 => T.C_BadBits
  | 2 => T.C_BadTable
  | 3 => T.C_BadToken
  | 4 => T.C_BadPaper
  | 5 => T.C_NoContainer
  | 6 => T.C_BadName
  | 7 => T.C_NoName
  | 8 => T.C_HasName
  | 9 => T.C_BadSize
  | 10 => T.C_BadText
  | 11 => T.C_Full
  | 12 => T.C_BadPlace
  | 13 => T.C_NoRow
  | 14 => T.C_Writer
  | 15 => T.C_Reader
  | _ => 0, none, none⟩
def zHfnZ : He.FnD := ⟨("is_whole", none), "is_whole", "is_whole", defArgs s_is_whole, defBody s_is_whole, defScope s_is_whole⟩
def zHfn0 : List He.FnD := [⟨("is_whole", none), "is_whole", "is_whole", defArgs s_is_whole, defBody s_is_whole, defScope s_is_whole⟩,
  ⟨("refuse_unless", none), "refuse_unless", "refuse_unless", defArgs s_refuse_unless, defBody s_refuse_unless, defScope s_refuse_unless⟩,
  ⟨("Writer", some "__init__"), "__init__", "Writer.__init__", defArgs s_Writer_init, defBody s_Writer_init, defScope s_Writer_init⟩,
  ⟨("Writer", some "put"), "put", "Writer.put", defArgs s_Writer_put, defBody s_Writer_put, defScope s_Writer_put⟩,
  ⟨("Writer", some "bits"), "bits", "Writer.bits", defArgs s_Writer_bits, defBody s_Writer_bits, defScope s_Writer_bits⟩,
  ⟨("Writer", some "row"), "row", "Writer.row", defArgs s_Writer_row, defBody s_Writer_row, defScope s_Writer_row⟩,
  ⟨("Reader", some "left"), "left", "Reader.left", defArgs s_Reader_left, defBody s_Reader_left, defScope s_Reader_left⟩,
  ⟨("Reader", some "take"), "take", "Reader.take", defArgs s_Reader_take, defBody s_Reader_take, defScope s_Reader_take⟩,
  ⟨("Reader", some "place"), "place", "Reader.place", defArgs s_Reader_place, defBody s_Reader_place, defScope s_Reader_place⟩,
  ⟨("Reader", some "ended"), "ended", "Reader.ended", defArgs s_Reader_ended, defBody s_Reader_ended, defScope s_Reader_ended⟩,
  ⟨("_law_mixed", none), "_law_mixed", "_law_mixed", defArgs s_l_mixed, defBody s_l_mixed, defScope s_l_mixed⟩,
  ⟨("_law_row", none), "_law_row", "_law_row", defArgs s_l_row, defBody s_l_row, defScope s_l_row⟩,
  ⟨("_law_is_refusal", none), "_law_is_refusal", "_law_is_refusal", defArgs s_l_is_refusal, defBody s_l_is_refusal, defScope s_l_is_refusal⟩,
  ⟨("_law_put_refused", none), "_law_put_refused", "_law_put_refused", defArgs s_l_put_refused, defBody s_l_put_refused, defScope s_l_put_refused⟩,
  ⟨("_law_take_refused", none), "_law_take_refused", "_law_take_refused", defArgs s_l_take_refused, defBody s_l_take_refused, defScope s_l_take_refused⟩,
  ⟨("_law_made_refused", none), "_law_made_refused", "_law_made_refused", defArgs s_l_made_refused, defBody s_l_made_refused, defScope s_l_made_refused⟩,
  ⟨("_law_writer_right", none), "_law_writer_right", "_law_writer_right", defArgs s_l_writer_right, defBody s_l_writer_right, defScope s_l_writer_right⟩,
  ⟨("_law_reader_right", none), "_law_reader_right", "_law_reader_right", defArgs s_l_reader_right, defBody s_l_reader_right, defScope s_l_reader_right⟩,
  ⟨("law", none), "law", "law", defArgs s_law, defBody s_law, defScope s_law⟩]
def zHfn : List He.FnD := zHfn0
def zHfdZ : He.DefD := ⟨("Reader", some "__init__"), "__init__", "Reader.__init__", defArgs s_Reader_init, defBody s_Reader_init, defScope s_Reader_init, [], []⟩
def zHfd0 : List He.DefD := [⟨("Reader", some "__init__"), "__init__", "Reader.__init__", defArgs s_Reader_init, defBody s_Reader_init, defScope s_Reader_init, [], []⟩]
def zHfd : List He.DefD := zHfd0
def zHx0 : List (PySem.W.Frag → Bool) := [fun K => Hd.dfAt K ("Reader", some "__init__") "Reader.__init__" [V.int 0],
  fun K => Hd.relAt K "MOST_BITS" (V.int 64),
  fun K => decide (PySem.W.nsIn K mainGlobals "is_whole" = some (some (.ref (He.fAd K ("is_whole", none))))),
  fun K => PySem.W.keepIn K (.ref (He.fAd K ("is_whole", none))),
  fun K => decide (PySem.W.nsIn K mainGlobals "refuse_unless" = some (some (.ref (He.fAd K ("refuse_unless", none))))),
  fun K => PySem.W.keepIn K (.ref (He.fAd K ("refuse_unless", none))),
  fun K => decide (PySem.W.findIn K (.ref (He.ga K "Writer")) "__init__" = some (some (.ref (He.fAd K ("Writer", some "__init__"))))),
  fun K => PySem.W.isFn K (.ref (He.fAd K ("Writer", some "__init__"))),
  fun K => PySem.W.keepIn K (.ref (He.fAd K ("Writer", some "__init__"))),
  fun K => decide (PySem.W.findIn K (.ref (He.ga K "Writer")) "put" = some (some (.ref (He.fAd K ("Writer", some "put"))))),
  fun K => PySem.W.isFn K (.ref (He.fAd K ("Writer", some "put"))),
  fun K => PySem.W.keepIn K (.ref (He.fAd K ("Writer", some "put"))),
  fun K => decide (PySem.W.findIn K (.ref (He.ga K "Writer")) "bits" = some (some (.ref (He.fAd K ("Writer", some "bits"))))),
  fun K => PySem.W.isFn K (.ref (He.fAd K ("Writer", some "bits"))),
  fun K => PySem.W.keepIn K (.ref (He.fAd K ("Writer", some "bits"))),
  fun K => decide (PySem.W.findIn K (.ref (He.ga K "Writer")) "row" = some (some (.ref (He.fAd K ("Writer", some "row"))))),
  fun K => PySem.W.isFn K (.ref (He.fAd K ("Writer", some "row"))),
  fun K => PySem.W.keepIn K (.ref (He.fAd K ("Writer", some "row"))),
  fun K => decide (PySem.W.findIn K (.ref (He.ga K "Reader")) "__init__" = some (some (.ref (He.fAd K ("Reader", some "__init__"))))),
  fun K => PySem.W.isFn K (.ref (He.fAd K ("Reader", some "__init__"))),
  fun K => PySem.W.keepIn K (.ref (He.fAd K ("Reader", some "__init__"))),
  fun K => decide (PySem.W.findIn K (.ref (He.ga K "Reader")) "left" = some (some (.ref (He.fAd K ("Reader", some "left"))))),
  fun K => PySem.W.isFn K (.ref (He.fAd K ("Reader", some "left"))),
  fun K => PySem.W.keepIn K (.ref (He.fAd K ("Reader", some "left"))),
  fun K => decide (PySem.W.findIn K (.ref (He.ga K "Reader")) "take" = some (some (.ref (He.fAd K ("Reader", some "take"))))),
  fun K => PySem.W.isFn K (.ref (He.fAd K ("Reader", some "take"))),
  fun K => PySem.W.keepIn K (.ref (He.fAd K ("Reader", some "take"))),
  fun K => decide (PySem.W.findIn K (.ref (He.ga K "Reader")) "place" = some (some (.ref (He.fAd K ("Reader", some "place"))))),
  fun K => PySem.W.isFn K (.ref (He.fAd K ("Reader", some "place"))),
  fun K => PySem.W.keepIn K (.ref (He.fAd K ("Reader", some "place"))),
  fun K => decide (PySem.W.findIn K (.ref (He.ga K "Reader")) "ended" = some (some (.ref (He.fAd K ("Reader", some "ended"))))),
  fun K => PySem.W.isFn K (.ref (He.fAd K ("Reader", some "ended"))),
  fun K => PySem.W.keepIn K (.ref (He.fAd K ("Reader", some "ended"))),
  fun K => decide (PySem.W.nsIn K mainGlobals "_law_mixed" = some (some (.ref (He.fAd K ("_law_mixed", none))))),
  fun K => PySem.W.keepIn K (.ref (He.fAd K ("_law_mixed", none))),
  fun K => decide (PySem.W.nsIn K mainGlobals "_law_row" = some (some (.ref (He.fAd K ("_law_row", none))))),
  fun K => PySem.W.keepIn K (.ref (He.fAd K ("_law_row", none))),
  fun K => decide (PySem.W.nsIn K mainGlobals "_law_is_refusal" = some (some (.ref (He.fAd K ("_law_is_refusal", none))))),
  fun K => PySem.W.keepIn K (.ref (He.fAd K ("_law_is_refusal", none))),
  fun K => decide (PySem.W.nsIn K mainGlobals "_law_put_refused" = some (some (.ref (He.fAd K ("_law_put_refused", none)))))]
def zHx1 : List (PySem.W.Frag → Bool) := [fun K => PySem.W.keepIn K (.ref (He.fAd K ("_law_put_refused", none))),
  fun K => decide (PySem.W.nsIn K mainGlobals "_law_take_refused" = some (some (.ref (He.fAd K ("_law_take_refused", none))))),
  fun K => PySem.W.keepIn K (.ref (He.fAd K ("_law_take_refused", none))),
  fun K => decide (PySem.W.nsIn K mainGlobals "_law_made_refused" = some (some (.ref (He.fAd K ("_law_made_refused", none))))),
  fun K => PySem.W.keepIn K (.ref (He.fAd K ("_law_made_refused", none))),
  fun K => decide (PySem.W.nsIn K mainGlobals "_law_writer_right" = some (some (.ref (He.fAd K ("_law_writer_right", none))))),
  fun K => PySem.W.keepIn K (.ref (He.fAd K ("_law_writer_right", none))),
  fun K => decide (PySem.W.nsIn K mainGlobals "_law_reader_right" = some (some (.ref (He.fAd K ("_law_reader_right", none))))),
  fun K => PySem.W.keepIn K (.ref (He.fAd K ("_law_reader_right", none))),
  fun K => decide (PySem.W.nsIn K mainGlobals "law" = some (some (.ref (He.fAd K ("law", none))))),
  fun K => PySem.W.keepIn K (.ref (He.fAd K ("law", none))),
  fun K => decide (PySem.W.nsIn K mainGlobals "Writer" = some (some (.ref (He.ga K "Writer")))),
  fun K => PySem.W.plainGet K (He.ga K "Writer") Str.empty,
  fun K => PySem.W.hasDictIn K (He.ga K "Writer"),
  fun K => PySem.W.plainOver K (He.ga K "Writer"),
  fun K => decide (PySem.W.findIn K (.ref (He.ga K "Writer")) "__setattr__" = some (some (.builtin "object.__setattr__"))),
  fun K => PySem.W.makesIn K (He.ga K "Writer"),
  fun K => PySem.W.keepIn K (.ref (He.ga K "Writer")),
  fun K => decide (PySem.W.findIn K (.ref (He.ga K "Writer")) "full" = some none),
  fun K => decide (PySem.W.findIn K (.ref (He.ga K "Writer")) "begun" = some none),
  fun K => decide (PySem.W.findIn K (.ref (He.ga K "Writer")) "many" = some none),
  fun K => decide (PySem.W.nsIn K mainGlobals "Reader" = some (some (.ref (He.ga K "Reader")))),
  fun K => PySem.W.plainGet K (He.ga K "Reader") Str.empty,
  fun K => PySem.W.hasDictIn K (He.ga K "Reader"),
  fun K => PySem.W.plainOver K (He.ga K "Reader"),
  fun K => decide (PySem.W.findIn K (.ref (He.ga K "Reader")) "__setattr__" = some (some (.builtin "object.__setattr__"))),
  fun K => PySem.W.makesIn K (He.ga K "Reader"),
  fun K => PySem.W.keepIn K (.ref (He.ga K "Reader")),
  fun K => decide (PySem.W.findIn K (.ref (He.ga K "Reader")) "bytes" = some none),
  fun K => decide (PySem.W.findIn K (.ref (He.ga K "Reader")) "next" = some none),
  fun K => decide (PySem.W.nsIn K mainGlobals "ShelfError" = some (some (.ref (He.ga K "ShelfError")))),
  fun K => PySem.W.keepIn K (.ref (He.ga K "ShelfError")),
  fun K => decide (PySem.W.subIn K (.ref (He.ga K "ShelfError")) (.type "BaseException") = some true),
  fun K => decide (PySem.W.typeIn K (.ref (He.ga K "ShelfError")) = some (.type "type")),
  fun K => PySem.W.isClsIn K (He.ga K "ShelfError"),
  fun K => decide (PySem.W.nsIn K mainGlobals "BadBits" = some (some (.ref (He.ga K "BadBits")))),
  fun K => PySem.W.keepIn K (.ref (He.ga K "BadBits")),
  fun K => decide (PySem.W.subIn K (.ref (He.ga K "BadBits")) (.type "BaseException") = some true),
  fun K => decide (PySem.W.typeIn K (.ref (He.ga K "BadBits")) = some (.type "type")),
  fun K => PySem.W.isClsIn K (He.ga K "BadBits")]
def zHx2 : List (PySem.W.Frag → Bool) := [fun K => PySem.W.excIn K (He.ga K "BadBits") [.type "ValueError", .type "Exception", .type "BaseException", .type "object"] "ValueError.__new__",
  fun K => decide (PySem.W.findIn K (.ref (He.ga K "BadBits")) "__getattribute__" = some (some (.builtin "BaseException.__getattribute__"))),
  fun K => decide (PySem.W.findIn K (.ref (He.ga K "BadBits")) "__getattr__" = some none),
  fun K => PySem.W.hasDictIn K (He.ga K "BadBits"),
  fun K => decide (PySem.W.findIn K (.ref (He.ga K "BadBits")) "__class__" = some (some (.builtin "object.__class__"))),
  fun K => decide (PySem.W.specialIn K (.builtin "object.__class__") "__get__" = some (some (.builtin "getset_descriptor.__get__"))),
  fun K => decide (PySem.W.takesIn K (.builtin "object.__class__") = some true),
  fun K => decide (PySem.W.mroIn K (He.ga K "BadBits") (.type "object") = some true),
  fun K => decide (PySem.W.nsIn K mainGlobals "BadTable" = some (some (.ref (He.ga K "BadTable")))),
  fun K => PySem.W.keepIn K (.ref (He.ga K "BadTable")),
  fun K => decide (PySem.W.subIn K (.ref (He.ga K "BadTable")) (.type "BaseException") = some true),
  fun K => decide (PySem.W.typeIn K (.ref (He.ga K "BadTable")) = some (.type "type")),
  fun K => PySem.W.isClsIn K (He.ga K "BadTable"),
  fun K => decide (PySem.W.nsIn K mainGlobals "BadToken" = some (some (.ref (He.ga K "BadToken")))),
  fun K => PySem.W.keepIn K (.ref (He.ga K "BadToken")),
  fun K => decide (PySem.W.subIn K (.ref (He.ga K "BadToken")) (.type "BaseException") = some true),
  fun K => decide (PySem.W.typeIn K (.ref (He.ga K "BadToken")) = some (.type "type")),
  fun K => PySem.W.isClsIn K (He.ga K "BadToken"),
  fun K => decide (PySem.W.nsIn K mainGlobals "BadPaper" = some (some (.ref (He.ga K "BadPaper")))),
  fun K => PySem.W.keepIn K (.ref (He.ga K "BadPaper")),
  fun K => decide (PySem.W.subIn K (.ref (He.ga K "BadPaper")) (.type "BaseException") = some true),
  fun K => decide (PySem.W.typeIn K (.ref (He.ga K "BadPaper")) = some (.type "type")),
  fun K => PySem.W.isClsIn K (He.ga K "BadPaper"),
  fun K => decide (PySem.W.nsIn K mainGlobals "NoContainer" = some (some (.ref (He.ga K "NoContainer")))),
  fun K => PySem.W.keepIn K (.ref (He.ga K "NoContainer")),
  fun K => decide (PySem.W.subIn K (.ref (He.ga K "NoContainer")) (.type "BaseException") = some true),
  fun K => decide (PySem.W.typeIn K (.ref (He.ga K "NoContainer")) = some (.type "type")),
  fun K => PySem.W.isClsIn K (He.ga K "NoContainer"),
  fun K => decide (PySem.W.nsIn K mainGlobals "BadName" = some (some (.ref (He.ga K "BadName")))),
  fun K => PySem.W.keepIn K (.ref (He.ga K "BadName")),
  fun K => decide (PySem.W.subIn K (.ref (He.ga K "BadName")) (.type "BaseException") = some true),
  fun K => decide (PySem.W.typeIn K (.ref (He.ga K "BadName")) = some (.type "type")),
  fun K => PySem.W.isClsIn K (He.ga K "BadName"),
  fun K => decide (PySem.W.nsIn K mainGlobals "NoName" = some (some (.ref (He.ga K "NoName")))),
  fun K => PySem.W.keepIn K (.ref (He.ga K "NoName")),
  fun K => decide (PySem.W.subIn K (.ref (He.ga K "NoName")) (.type "BaseException") = some true),
  fun K => decide (PySem.W.typeIn K (.ref (He.ga K "NoName")) = some (.type "type")),
  fun K => PySem.W.isClsIn K (He.ga K "NoName"),
  fun K => decide (PySem.W.nsIn K mainGlobals "HasName" = some (some (.ref (He.ga K "HasName")))),
  fun K => PySem.W.keepIn K (.ref (He.ga K "HasName"))]
def zHx3 : List (PySem.W.Frag → Bool) := [fun K => decide (PySem.W.subIn K (.ref (He.ga K "HasName")) (.type "BaseException") = some true),
  fun K => decide (PySem.W.typeIn K (.ref (He.ga K "HasName")) = some (.type "type")),
  fun K => PySem.W.isClsIn K (He.ga K "HasName"),
  fun K => decide (PySem.W.nsIn K mainGlobals "BadSize" = some (some (.ref (He.ga K "BadSize")))),
  fun K => PySem.W.keepIn K (.ref (He.ga K "BadSize")),
  fun K => decide (PySem.W.subIn K (.ref (He.ga K "BadSize")) (.type "BaseException") = some true),
  fun K => decide (PySem.W.typeIn K (.ref (He.ga K "BadSize")) = some (.type "type")),
  fun K => PySem.W.isClsIn K (He.ga K "BadSize"),
  fun K => decide (PySem.W.nsIn K mainGlobals "BadText" = some (some (.ref (He.ga K "BadText")))),
  fun K => PySem.W.keepIn K (.ref (He.ga K "BadText")),
  fun K => decide (PySem.W.subIn K (.ref (He.ga K "BadText")) (.type "BaseException") = some true),
  fun K => decide (PySem.W.typeIn K (.ref (He.ga K "BadText")) = some (.type "type")),
  fun K => PySem.W.isClsIn K (He.ga K "BadText"),
  fun K => decide (PySem.W.nsIn K mainGlobals "Full" = some (some (.ref (He.ga K "Full")))),
  fun K => PySem.W.keepIn K (.ref (He.ga K "Full")),
  fun K => decide (PySem.W.subIn K (.ref (He.ga K "Full")) (.type "BaseException") = some true),
  fun K => decide (PySem.W.typeIn K (.ref (He.ga K "Full")) = some (.type "type")),
  fun K => PySem.W.isClsIn K (He.ga K "Full"),
  fun K => decide (PySem.W.nsIn K mainGlobals "BadPlace" = some (some (.ref (He.ga K "BadPlace")))),
  fun K => PySem.W.keepIn K (.ref (He.ga K "BadPlace")),
  fun K => decide (PySem.W.subIn K (.ref (He.ga K "BadPlace")) (.type "BaseException") = some true),
  fun K => decide (PySem.W.typeIn K (.ref (He.ga K "BadPlace")) = some (.type "type")),
  fun K => PySem.W.isClsIn K (He.ga K "BadPlace"),
  fun K => decide (PySem.W.nsIn K mainGlobals "NoRow" = some (some (.ref (He.ga K "NoRow")))),
  fun K => PySem.W.keepIn K (.ref (He.ga K "NoRow")),
  fun K => decide (PySem.W.subIn K (.ref (He.ga K "NoRow")) (.type "BaseException") = some true),
  fun K => decide (PySem.W.typeIn K (.ref (He.ga K "NoRow")) = some (.type "type")),
  fun K => PySem.W.isClsIn K (He.ga K "NoRow"),
  fun K => decide (PySem.W.kitOne K (.ref (He.ga K "BadBits")) (.ref (He.ga K "BadBits")) = some true),
  fun K => decide (PySem.W.kitOne K (.ref (He.ga K "BadBits")) (.ref (He.ga K "BadName")) = some false),
  fun K => decide (PySem.W.kitOne K (.ref (He.ga K "BadBits")) (.ref (He.ga K "BadPaper")) = some false),
  fun K => decide (PySem.W.kitOne K (.ref (He.ga K "BadBits")) (.ref (He.ga K "BadPlace")) = some false),
  fun K => decide (PySem.W.kitOne K (.ref (He.ga K "BadBits")) (.ref (He.ga K "BadSize")) = some false),
  fun K => decide (PySem.W.kitOne K (.ref (He.ga K "BadBits")) (.ref (He.ga K "BadTable")) = some false),
  fun K => decide (PySem.W.kitOne K (.ref (He.ga K "BadBits")) (.ref (He.ga K "BadText")) = some false),
  fun K => decide (PySem.W.kitOne K (.ref (He.ga K "BadBits")) (.ref (He.ga K "BadToken")) = some false),
  fun K => decide (PySem.W.kitOne K (.ref (He.ga K "BadBits")) (.ref (He.ga K "Full")) = some false),
  fun K => decide (PySem.W.kitOne K (.ref (He.ga K "BadBits")) (.ref (He.ga K "HasName")) = some false),
  fun K => decide (PySem.W.kitOne K (.ref (He.ga K "BadBits")) (.ref (He.ga K "NoContainer")) = some false),
  fun K => decide (PySem.W.kitOne K (.ref (He.ga K "BadBits")) (.ref (He.ga K "NoName")) = some false)]
def zHx4 : List (PySem.W.Frag → Bool) := [fun K => decide (PySem.W.kitOne K (.ref (He.ga K "BadBits")) (.ref (He.ga K "NoRow")) = some false),
  fun K => decide (PySem.W.kitOne K (.ref (He.ga K "BadBits")) (.type "ValueError") = some true),
  fun K => decide (PySem.W.subIn K (.ref (He.ga K "BadBits")) (.ref (He.ga K "BadBits")) = some true),
  fun K => decide (PySem.W.subIn K (.ref (He.ga K "BadBits")) (.ref (He.ga K "BadName")) = some false),
  fun K => decide (PySem.W.subIn K (.ref (He.ga K "BadBits")) (.ref (He.ga K "BadPaper")) = some false),
  fun K => decide (PySem.W.subIn K (.ref (He.ga K "BadBits")) (.ref (He.ga K "BadPlace")) = some false),
  fun K => decide (PySem.W.subIn K (.ref (He.ga K "BadBits")) (.ref (He.ga K "BadSize")) = some false),
  fun K => decide (PySem.W.subIn K (.ref (He.ga K "BadBits")) (.ref (He.ga K "BadTable")) = some false),
  fun K => decide (PySem.W.subIn K (.ref (He.ga K "BadBits")) (.ref (He.ga K "BadText")) = some false),
  fun K => decide (PySem.W.subIn K (.ref (He.ga K "BadBits")) (.ref (He.ga K "BadToken")) = some false),
  fun K => decide (PySem.W.subIn K (.ref (He.ga K "BadBits")) (.ref (He.ga K "Full")) = some false),
  fun K => decide (PySem.W.subIn K (.ref (He.ga K "BadBits")) (.ref (He.ga K "HasName")) = some false),
  fun K => decide (PySem.W.subIn K (.ref (He.ga K "BadBits")) (.ref (He.ga K "NoContainer")) = some false),
  fun K => decide (PySem.W.subIn K (.ref (He.ga K "BadBits")) (.ref (He.ga K "NoName")) = some false),
  fun K => decide (PySem.W.subIn K (.ref (He.ga K "BadBits")) (.ref (He.ga K "NoRow")) = some false),
  fun K => decide (PySem.W.subIn K (.ref (He.ga K "BadBits")) (.ref (He.ga K "ShelfError")) = some true),
  fun K => decide (PySem.W.nsIn K mainGlobals "ValueError" = some none),
  fun K => decide (PySem.W.nsIn K mainGlobals "bool" = some none),
  fun K => decide (PySem.W.nsIn K mainGlobals "int" = some none),
  fun K => decide (PySem.W.nsIn K mainGlobals "isinstance" = some none),
  fun K => decide (PySem.W.nsIn K mainGlobals "len" = some none),
  fun K => decide (PySem.W.nsIn K mainGlobals "list" = some none),
  fun K => decide (PySem.W.nsIn K mainGlobals "min" = some none),
  fun K => decide (PySem.W.nsIn K mainGlobals "range" = some none)]
def zHx : Hd.Ex := [zHx0, zHx1, zHx2, zHx3, zHx4]
def zHl0 : List Str := [(Str.ofString "_wall"),
  (Str.ofString "ShelfError"),
  (Str.ofString "BadBits"),
  (Str.ofString "BadTable"),
  (Str.ofString "BadToken"),
  (Str.ofString "BadPaper"),
  (Str.ofString "NoContainer"),
  (Str.ofString "BadName"),
  (Str.ofString "NoName"),
  (Str.ofString "HasName"),
  (Str.ofString "BadSize"),
  (Str.ofString "BadText"),
  (Str.ofString "Full"),
  (Str.ofString "BadPlace"),
  (Str.ofString "NoRow"),
  (Str.ofString "MOST_BITS"),
  (Str.ofString "is_whole"),
  (Str.ofString "refuse_unless"),
  (Str.ofString "Writer"),
  (Str.ofString "Reader"),
  (Str.ofString "_law_mixed"),
  (Str.ofString "_law_row"),
  (Str.ofString "_law_is_refusal"),
  (Str.ofString "_law_put_refused"),
  (Str.ofString "_law_take_refused"),
  (Str.ofString "_law_made_refused"),
  (Str.ofString "_law_writer_right"),
  (Str.ofString "_law_reader_right")]
def zHl : List Str := zHl0
abbrev zHr : PySem.W.OpenRow := PySem.W.OpenLaw.row PySem.Challenge.rw_tornshelf_k04_bits_refused
abbrev zHk : PySem.W.Hook := Hd.hook 4 zHfn zHfd zHx
def zHob (s : PySem.W.SharedT) : Hd.Al := Hd.obsG 4 zHfn zHfd zHx (HandSHeadRun.getT s)
theorem zHob_eq (s : PySem.W.SharedT) : zHob s = zHk.obs s.abs := Hd.obsG_eq (HandSHeadRun.getT_eq s)
set_option maxHeartbeats 0 in
theorem zHrun (w : World) : HandSHeadRun.RunEq zHr (PySem.W.view zHr.prog [31]) zHk zHob 20000 zHl w := by
  intro os
  kernel_rfl
def spLaw (K : PySem.W.Frag) : Sp := fun vs H Q _ => ∃ (a : Addr) (ns : List Int), vs = [.ref a] ∧ SqL K H a (ns.map V.int) ∧ ns.length ≤ 63 ∧ ND H ∧ ∀ H', Q (.bl true) H'
theorem all_mk {l : PySem.W.OpenLaw} {w : World} {K : PySem.W.Frag} {h : Heap} {mg : Str → Option Value} {fa f0 f1 f2 f3 f4 f5 f6 f7 f8 f9 f10 f11 f12 f13 f14 f15 f16 f17 f18 f19 C_Writer C_Reader C_ShelfError C_BadBits C_BadTable C_BadToken C_BadPaper C_NoContainer C_BadName C_NoName C_HasName C_BadSize C_BadText C_Full C_BadPlace C_NoRow : Addr} (hlaw : ∀ {P : Program} {w : World} {K : PySem.W.Frag} {mg : Str → Option Value} {base : Heap} (T : Tx K mg), FnOk P w K mg base CX0 8 T.a_law T.d_law ["_law_script"] (spLaw K)) (X : K.In h) (G : h.Ns mainGlobals mg) (hfa : mg "law" = some (.ref fa))
    {od0 an0 : Option Addr} {sl0 : Array (Option Value)} {oc0 kV0 dc0 pm0 cd0 ct0 : Value}
    {od1 an1 : Option Addr} {sl1 : Array (Option Value)} {oc1 kV1 dc1 pm1 cd1 ct1 : Value}
    {od2 an2 : Option Addr} {sl2 : Array (Option Value)} {oc2 kV2 dc2 pm2 cd2 ct2 : Value}
    {od3 an3 : Option Addr} {sl3 : Array (Option Value)} {oc3 kV3 dc3 pm3 cd3 ct3 : Value}
    {od4 an4 : Option Addr} {sl4 : Array (Option Value)} {oc4 kV4 dc4 pm4 cd4 ct4 : Value}
    {od5 an5 : Option Addr} {sl5 : Array (Option Value)} {oc5 kV5 dc5 pm5 cd5 ct5 : Value}
    {od6 an6 : Option Addr} {sl6 : Array (Option Value)} {oc6 kV6 dc6 pm6 cd6 ct6 : Value}
    {T6 : Addr} {o6 : Obj} {n6 : Nat} {w6_0 : Value}
    {od7 an7 : Option Addr} {sl7 : Array (Option Value)} {oc7 kV7 dc7 pm7 cd7 ct7 : Value}
    {od8 an8 : Option Addr} {sl8 : Array (Option Value)} {oc8 kV8 dc8 pm8 cd8 ct8 : Value}
    {od9 an9 : Option Addr} {sl9 : Array (Option Value)} {oc9 kV9 dc9 pm9 cd9 ct9 : Value}
    {od10 an10 : Option Addr} {sl10 : Array (Option Value)} {oc10 kV10 dc10 pm10 cd10 ct10 : Value}
    {od11 an11 : Option Addr} {sl11 : Array (Option Value)} {oc11 kV11 dc11 pm11 cd11 ct11 : Value}
    {od12 an12 : Option Addr} {sl12 : Array (Option Value)} {oc12 kV12 dc12 pm12 cd12 ct12 : Value}
    {od13 an13 : Option Addr} {sl13 : Array (Option Value)} {oc13 kV13 dc13 pm13 cd13 ct13 : Value}
    {od14 an14 : Option Addr} {sl14 : Array (Option Value)} {oc14 kV14 dc14 pm14 cd14 ct14 : Value}
    {od15 an15 : Option Addr} {sl15 : Array (Option Value)} {oc15 kV15 dc15 pm15 cd15 ct15 : Value}
    {od16 an16 : Option Addr} {sl16 : Array (Option Value)} {oc16 kV16 dc16 pm16 cd16 ct16 : Value}
    {od17 an17 : Option Addr} {sl17 : Array (Option Value)} {oc17 kV17 dc17 pm17 cd17 ct17 : Value}
    {od18 an18 : Option Addr} {sl18 : Array (Option Value)} {oc18 kV18 dc18 pm18 cd18 ct18 : Value}
    {od19 an19 : Option Addr} {sl19 : Array (Option Value)} {oc19 kV19 dc19 pm19 cd19 ct19 : Value}
    {u_MOST_BITS : Value}
    (a0 : PySem.W.nsIn K mainGlobals "is_whole" = some (some (.ref f0)))
    (l0 : K.lookup f0 = some ⟨oc0, od0, .func (PySem.W.fnOf "is_whole" "is_whole" (defArgs s_is_whole) (defBody s_is_whole) (defScope s_is_whole) .none kV0 dc0 pm0 an0 cd0 ct0), sl0⟩)
    (c0 : PySem.W.codeIn K cd0 "is_whole" = true) (k0 : PySem.W.keepIn K (.ref f0) = true)
    (a1 : PySem.W.nsIn K mainGlobals "refuse_unless" = some (some (.ref f1)))
    (l1 : K.lookup f1 = some ⟨oc1, od1, .func (PySem.W.fnOf "refuse_unless" "refuse_unless" (defArgs s_refuse_unless) (defBody s_refuse_unless) (defScope s_refuse_unless) .none kV1 dc1 pm1 an1 cd1 ct1), sl1⟩)
    (c1 : PySem.W.codeIn K cd1 "refuse_unless" = true) (k1 : PySem.W.keepIn K (.ref f1) = true)
    (a2 : PySem.W.findIn K (.ref C_Writer) "__init__" = some (some (.ref f2)))
    (i2 : PySem.W.isFn K (.ref f2) = true)
    (l2 : K.lookup f2 = some ⟨oc2, od2, .func (PySem.W.fnOf "__init__" "Writer.__init__" (defArgs s_Writer_init) (defBody s_Writer_init) (defScope s_Writer_init) .none kV2 dc2 pm2 an2 cd2 ct2), sl2⟩)
    (c2 : PySem.W.codeIn K cd2 "Writer.__init__" = true) (k2 : PySem.W.keepIn K (.ref f2) = true)
    (a3 : PySem.W.findIn K (.ref C_Writer) "put" = some (some (.ref f3)))
    (i3 : PySem.W.isFn K (.ref f3) = true)
    (l3 : K.lookup f3 = some ⟨oc3, od3, .func (PySem.W.fnOf "put" "Writer.put" (defArgs s_Writer_put) (defBody s_Writer_put) (defScope s_Writer_put) .none kV3 dc3 pm3 an3 cd3 ct3), sl3⟩)
    (c3 : PySem.W.codeIn K cd3 "Writer.put" = true) (k3 : PySem.W.keepIn K (.ref f3) = true)
    (a4 : PySem.W.findIn K (.ref C_Writer) "bits" = some (some (.ref f4)))
    (i4 : PySem.W.isFn K (.ref f4) = true)
    (l4 : K.lookup f4 = some ⟨oc4, od4, .func (PySem.W.fnOf "bits" "Writer.bits" (defArgs s_Writer_bits) (defBody s_Writer_bits) (defScope s_Writer_bits) .none kV4 dc4 pm4 an4 cd4 ct4), sl4⟩)
    (c4 : PySem.W.codeIn K cd4 "Writer.bits" = true) (k4 : PySem.W.keepIn K (.ref f4) = true)
    (a5 : PySem.W.findIn K (.ref C_Writer) "row" = some (some (.ref f5)))
    (i5 : PySem.W.isFn K (.ref f5) = true)
    (l5 : K.lookup f5 = some ⟨oc5, od5, .func (PySem.W.fnOf "row" "Writer.row" (defArgs s_Writer_row) (defBody s_Writer_row) (defScope s_Writer_row) .none kV5 dc5 pm5 an5 cd5 ct5), sl5⟩)
    (c5 : PySem.W.codeIn K cd5 "Writer.row" = true) (k5 : PySem.W.keepIn K (.ref f5) = true)
    (a6 : PySem.W.findIn K (.ref C_Reader) "__init__" = some (some (.ref f6)))
    (i6 : PySem.W.isFn K (.ref f6) = true)
    (l6 : K.lookup f6 = some ⟨oc6, od6, .func (PySem.W.fnOf "__init__" "Reader.__init__" (defArgs s_Reader_init) (defBody s_Reader_init) (defScope s_Reader_init) (.ref T6) kV6 dc6 pm6 an6 cd6 ct6), sl6⟩)
    (c6 : PySem.W.codeIn K cd6 "Reader.__init__" = true) (k6 : PySem.W.keepIn K (.ref f6) = true)
    (t6 : K.lookup T6 = some o6) (s6 : o6.data = .seq (List.toArray [w6_0]) n6)
    (r_d6_0 : RelV (V.int 0) w6_0)
    (a7 : PySem.W.findIn K (.ref C_Reader) "left" = some (some (.ref f7)))
    (i7 : PySem.W.isFn K (.ref f7) = true)
    (l7 : K.lookup f7 = some ⟨oc7, od7, .func (PySem.W.fnOf "left" "Reader.left" (defArgs s_Reader_left) (defBody s_Reader_left) (defScope s_Reader_left) .none kV7 dc7 pm7 an7 cd7 ct7), sl7⟩)
    (c7 : PySem.W.codeIn K cd7 "Reader.left" = true) (k7 : PySem.W.keepIn K (.ref f7) = true)
    (a8 : PySem.W.findIn K (.ref C_Reader) "take" = some (some (.ref f8)))
    (i8 : PySem.W.isFn K (.ref f8) = true)
    (l8 : K.lookup f8 = some ⟨oc8, od8, .func (PySem.W.fnOf "take" "Reader.take" (defArgs s_Reader_take) (defBody s_Reader_take) (defScope s_Reader_take) .none kV8 dc8 pm8 an8 cd8 ct8), sl8⟩)
    (c8 : PySem.W.codeIn K cd8 "Reader.take" = true) (k8 : PySem.W.keepIn K (.ref f8) = true)
    (a9 : PySem.W.findIn K (.ref C_Reader) "place" = some (some (.ref f9)))
    (i9 : PySem.W.isFn K (.ref f9) = true)
    (l9 : K.lookup f9 = some ⟨oc9, od9, .func (PySem.W.fnOf "place" "Reader.place" (defArgs s_Reader_place) (defBody s_Reader_place) (defScope s_Reader_place) .none kV9 dc9 pm9 an9 cd9 ct9), sl9⟩)
    (c9 : PySem.W.codeIn K cd9 "Reader.place" = true) (k9 : PySem.W.keepIn K (.ref f9) = true)
    (a10 : PySem.W.findIn K (.ref C_Reader) "ended" = some (some (.ref f10)))
    (i10 : PySem.W.isFn K (.ref f10) = true)
    (l10 : K.lookup f10 = some ⟨oc10, od10, .func (PySem.W.fnOf "ended" "Reader.ended" (defArgs s_Reader_ended) (defBody s_Reader_ended) (defScope s_Reader_ended) .none kV10 dc10 pm10 an10 cd10 ct10), sl10⟩)
    (c10 : PySem.W.codeIn K cd10 "Reader.ended" = true) (k10 : PySem.W.keepIn K (.ref f10) = true)
    (a11 : PySem.W.nsIn K mainGlobals "_law_mixed" = some (some (.ref f11)))
    (l11 : K.lookup f11 = some ⟨oc11, od11, .func (PySem.W.fnOf "_law_mixed" "_law_mixed" (defArgs s_l_mixed) (defBody s_l_mixed) (defScope s_l_mixed) .none kV11 dc11 pm11 an11 cd11 ct11), sl11⟩)
    (c11 : PySem.W.codeIn K cd11 "_law_mixed" = true) (k11 : PySem.W.keepIn K (.ref f11) = true)
    (a12 : PySem.W.nsIn K mainGlobals "_law_row" = some (some (.ref f12)))
    (l12 : K.lookup f12 = some ⟨oc12, od12, .func (PySem.W.fnOf "_law_row" "_law_row" (defArgs s_l_row) (defBody s_l_row) (defScope s_l_row) .none kV12 dc12 pm12 an12 cd12 ct12), sl12⟩)
    (c12 : PySem.W.codeIn K cd12 "_law_row" = true) (k12 : PySem.W.keepIn K (.ref f12) = true)
    (a13 : PySem.W.nsIn K mainGlobals "_law_is_refusal" = some (some (.ref f13)))
    (l13 : K.lookup f13 = some ⟨oc13, od13, .func (PySem.W.fnOf "_law_is_refusal" "_law_is_refusal" (defArgs s_l_is_refusal) (defBody s_l_is_refusal) (defScope s_l_is_refusal) .none kV13 dc13 pm13 an13 cd13 ct13), sl13⟩)
    (c13 : PySem.W.codeIn K cd13 "_law_is_refusal" = true) (k13 : PySem.W.keepIn K (.ref f13) = true)
    (a14 : PySem.W.nsIn K mainGlobals "_law_put_refused" = some (some (.ref f14)))
    (l14 : K.lookup f14 = some ⟨oc14, od14, .func (PySem.W.fnOf "_law_put_refused" "_law_put_refused" (defArgs s_l_put_refused) (defBody s_l_put_refused) (defScope s_l_put_refused) .none kV14 dc14 pm14 an14 cd14 ct14), sl14⟩)
    (c14 : PySem.W.codeIn K cd14 "_law_put_refused" = true) (k14 : PySem.W.keepIn K (.ref f14) = true)
    (a15 : PySem.W.nsIn K mainGlobals "_law_take_refused" = some (some (.ref f15)))
    (l15 : K.lookup f15 = some ⟨oc15, od15, .func (PySem.W.fnOf "_law_take_refused" "_law_take_refused" (defArgs s_l_take_refused) (defBody s_l_take_refused) (defScope s_l_take_refused) .none kV15 dc15 pm15 an15 cd15 ct15), sl15⟩)
    (c15 : PySem.W.codeIn K cd15 "_law_take_refused" = true) (k15 : PySem.W.keepIn K (.ref f15) = true)
    (a16 : PySem.W.nsIn K mainGlobals "_law_made_refused" = some (some (.ref f16)))
    (l16 : K.lookup f16 = some ⟨oc16, od16, .func (PySem.W.fnOf "_law_made_refused" "_law_made_refused" (defArgs s_l_made_refused) (defBody s_l_made_refused) (defScope s_l_made_refused) .none kV16 dc16 pm16 an16 cd16 ct16), sl16⟩)
    (c16 : PySem.W.codeIn K cd16 "_law_made_refused" = true) (k16 : PySem.W.keepIn K (.ref f16) = true)
    (a17 : PySem.W.nsIn K mainGlobals "_law_writer_right" = some (some (.ref f17)))
    (l17 : K.lookup f17 = some ⟨oc17, od17, .func (PySem.W.fnOf "_law_writer_right" "_law_writer_right" (defArgs s_l_writer_right) (defBody s_l_writer_right) (defScope s_l_writer_right) .none kV17 dc17 pm17 an17 cd17 ct17), sl17⟩)
    (c17 : PySem.W.codeIn K cd17 "_law_writer_right" = true) (k17 : PySem.W.keepIn K (.ref f17) = true)
    (a18 : PySem.W.nsIn K mainGlobals "_law_reader_right" = some (some (.ref f18)))
    (l18 : K.lookup f18 = some ⟨oc18, od18, .func (PySem.W.fnOf "_law_reader_right" "_law_reader_right" (defArgs s_l_reader_right) (defBody s_l_reader_right) (defScope s_l_reader_right) .none kV18 dc18 pm18 an18 cd18 ct18), sl18⟩)
    (c18 : PySem.W.codeIn K cd18 "_law_reader_right" = true) (k18 : PySem.W.keepIn K (.ref f18) = true)
    (a19 : PySem.W.nsIn K mainGlobals "law" = some (some (.ref f19)))
    (l19 : K.lookup f19 = some ⟨oc19, od19, .func (PySem.W.fnOf "law" "law" (defArgs s_law) (defBody s_law) (defScope s_law) .none kV19 dc19 pm19 an19 cd19 ct19), sl19⟩)
    (c19 : PySem.W.codeIn K cd19 "law" = true) (k19 : PySem.W.keepIn K (.ref f19) = true)
    (qC_Writer : PySem.W.nsIn K mainGlobals "Writer" = some (some (.ref C_Writer)))
    (pgC_Writer : PySem.W.plainGet K C_Writer Str.empty = true) (hdC_Writer : PySem.W.hasDictIn K C_Writer = true) (poC_Writer : PySem.W.plainOver K C_Writer = true) (saC_Writer : PySem.W.findIn K (.ref C_Writer) "__setattr__" = some (some (.builtin "object.__setattr__"))) (mkC_Writer : PySem.W.makesIn K C_Writer = true) (kcC_Writer : PySem.W.keepIn K (.ref C_Writer) = true)
    (nC_Writer_full : PySem.W.findIn K (.ref C_Writer) "full" = some none)
    (nC_Writer_begun : PySem.W.findIn K (.ref C_Writer) "begun" = some none)
    (nC_Writer_many : PySem.W.findIn K (.ref C_Writer) "many" = some none)
    (qC_Reader : PySem.W.nsIn K mainGlobals "Reader" = some (some (.ref C_Reader)))
    (pgC_Reader : PySem.W.plainGet K C_Reader Str.empty = true) (hdC_Reader : PySem.W.hasDictIn K C_Reader = true) (poC_Reader : PySem.W.plainOver K C_Reader = true) (saC_Reader : PySem.W.findIn K (.ref C_Reader) "__setattr__" = some (some (.builtin "object.__setattr__"))) (mkC_Reader : PySem.W.makesIn K C_Reader = true) (kcC_Reader : PySem.W.keepIn K (.ref C_Reader) = true)
    (nC_Reader_bytes : PySem.W.findIn K (.ref C_Reader) "bytes" = some none)
    (nC_Reader_next : PySem.W.findIn K (.ref C_Reader) "next" = some none)
    (qC_ShelfError : PySem.W.nsIn K mainGlobals "ShelfError" = some (some (.ref C_ShelfError)))
    (k_ShelfError : PySem.W.keepIn K (.ref C_ShelfError) = true)
    (b_ShelfError : PySem.W.subIn K (.ref C_ShelfError) (.type "BaseException") = some true)
    (t_ShelfError : PySem.W.typeIn K (.ref C_ShelfError) = some (.type "type"))
    (i_ShelfError : PySem.W.isClsIn K C_ShelfError = true)
    (qC_BadBits : PySem.W.nsIn K mainGlobals "BadBits" = some (some (.ref C_BadBits)))
    (k_BadBits : PySem.W.keepIn K (.ref C_BadBits) = true)
    (b_BadBits : PySem.W.subIn K (.ref C_BadBits) (.type "BaseException") = some true)
    (t_BadBits : PySem.W.typeIn K (.ref C_BadBits) = some (.type "type"))
    (i_BadBits : PySem.W.isClsIn K C_BadBits = true)
    (x_BadBits : PySem.W.excIn K C_BadBits [.type "ValueError", .type "Exception", .type "BaseException", .type "object"] "ValueError.__new__" = true)
    (gb_BadBits : PySem.W.findIn K (.ref C_BadBits) "__getattribute__" = some (some (.builtin "BaseException.__getattribute__")))
    (gg_BadBits : PySem.W.findIn K (.ref C_BadBits) "__getattr__" = some none)
    (hd_BadBits : PySem.W.hasDictIn K C_BadBits = true)
    (ca_BadBits : PySem.W.findIn K (.ref C_BadBits) "__class__" = some (some (.builtin "object.__class__")))
    (cn_BadBits : PySem.W.specialIn K (.builtin "object.__class__") "__get__" = some (some (.builtin "getset_descriptor.__get__")))
    (ct_BadBits : PySem.W.takesIn K (.builtin "object.__class__") = some true)
    (cm_BadBits : PySem.W.mroIn K C_BadBits (.type "object") = some true)
    (qC_BadTable : PySem.W.nsIn K mainGlobals "BadTable" = some (some (.ref C_BadTable)))
    (k_BadTable : PySem.W.keepIn K (.ref C_BadTable) = true)
    (b_BadTable : PySem.W.subIn K (.ref C_BadTable) (.type "BaseException") = some true)
    (t_BadTable : PySem.W.typeIn K (.ref C_BadTable) = some (.type "type"))
    (i_BadTable : PySem.W.isClsIn K C_BadTable = true)
    (qC_BadToken : PySem.W.nsIn K mainGlobals "BadToken" = some (some (.ref C_BadToken)))
    (k_BadToken : PySem.W.keepIn K (.ref C_BadToken) = true)
    (b_BadToken : PySem.W.subIn K (.ref C_BadToken) (.type "BaseException") = some true)
    (t_BadToken : PySem.W.typeIn K (.ref C_BadToken) = some (.type "type"))
    (i_BadToken : PySem.W.isClsIn K C_BadToken = true)
    (qC_BadPaper : PySem.W.nsIn K mainGlobals "BadPaper" = some (some (.ref C_BadPaper)))
    (k_BadPaper : PySem.W.keepIn K (.ref C_BadPaper) = true)
    (b_BadPaper : PySem.W.subIn K (.ref C_BadPaper) (.type "BaseException") = some true)
    (t_BadPaper : PySem.W.typeIn K (.ref C_BadPaper) = some (.type "type"))
    (i_BadPaper : PySem.W.isClsIn K C_BadPaper = true)
    (qC_NoContainer : PySem.W.nsIn K mainGlobals "NoContainer" = some (some (.ref C_NoContainer)))
    (k_NoContainer : PySem.W.keepIn K (.ref C_NoContainer) = true)
    (b_NoContainer : PySem.W.subIn K (.ref C_NoContainer) (.type "BaseException") = some true)
    (t_NoContainer : PySem.W.typeIn K (.ref C_NoContainer) = some (.type "type"))
    (i_NoContainer : PySem.W.isClsIn K C_NoContainer = true)
    (qC_BadName : PySem.W.nsIn K mainGlobals "BadName" = some (some (.ref C_BadName)))
    (k_BadName : PySem.W.keepIn K (.ref C_BadName) = true)
    (b_BadName : PySem.W.subIn K (.ref C_BadName) (.type "BaseException") = some true)
    (t_BadName : PySem.W.typeIn K (.ref C_BadName) = some (.type "type"))
    (i_BadName : PySem.W.isClsIn K C_BadName = true)
    (qC_NoName : PySem.W.nsIn K mainGlobals "NoName" = some (some (.ref C_NoName)))
    (k_NoName : PySem.W.keepIn K (.ref C_NoName) = true)
    (b_NoName : PySem.W.subIn K (.ref C_NoName) (.type "BaseException") = some true)
    (t_NoName : PySem.W.typeIn K (.ref C_NoName) = some (.type "type"))
    (i_NoName : PySem.W.isClsIn K C_NoName = true)
    (qC_HasName : PySem.W.nsIn K mainGlobals "HasName" = some (some (.ref C_HasName)))
    (k_HasName : PySem.W.keepIn K (.ref C_HasName) = true)
    (b_HasName : PySem.W.subIn K (.ref C_HasName) (.type "BaseException") = some true)
    (t_HasName : PySem.W.typeIn K (.ref C_HasName) = some (.type "type"))
    (i_HasName : PySem.W.isClsIn K C_HasName = true)
    (qC_BadSize : PySem.W.nsIn K mainGlobals "BadSize" = some (some (.ref C_BadSize)))
    (k_BadSize : PySem.W.keepIn K (.ref C_BadSize) = true)
    (b_BadSize : PySem.W.subIn K (.ref C_BadSize) (.type "BaseException") = some true)
    (t_BadSize : PySem.W.typeIn K (.ref C_BadSize) = some (.type "type"))
    (i_BadSize : PySem.W.isClsIn K C_BadSize = true)
    (qC_BadText : PySem.W.nsIn K mainGlobals "BadText" = some (some (.ref C_BadText)))
    (k_BadText : PySem.W.keepIn K (.ref C_BadText) = true)
    (b_BadText : PySem.W.subIn K (.ref C_BadText) (.type "BaseException") = some true)
    (t_BadText : PySem.W.typeIn K (.ref C_BadText) = some (.type "type"))
    (i_BadText : PySem.W.isClsIn K C_BadText = true)
    (qC_Full : PySem.W.nsIn K mainGlobals "Full" = some (some (.ref C_Full)))
    (k_Full : PySem.W.keepIn K (.ref C_Full) = true)
    (b_Full : PySem.W.subIn K (.ref C_Full) (.type "BaseException") = some true)
    (t_Full : PySem.W.typeIn K (.ref C_Full) = some (.type "type"))
    (i_Full : PySem.W.isClsIn K C_Full = true)
    (qC_BadPlace : PySem.W.nsIn K mainGlobals "BadPlace" = some (some (.ref C_BadPlace)))
    (k_BadPlace : PySem.W.keepIn K (.ref C_BadPlace) = true)
    (b_BadPlace : PySem.W.subIn K (.ref C_BadPlace) (.type "BaseException") = some true)
    (t_BadPlace : PySem.W.typeIn K (.ref C_BadPlace) = some (.type "type"))
    (i_BadPlace : PySem.W.isClsIn K C_BadPlace = true)
    (qC_NoRow : PySem.W.nsIn K mainGlobals "NoRow" = some (some (.ref C_NoRow)))
    (k_NoRow : PySem.W.keepIn K (.ref C_NoRow) = true)
    (b_NoRow : PySem.W.subIn K (.ref C_NoRow) (.type "BaseException") = some true)
    (t_NoRow : PySem.W.typeIn K (.ref C_NoRow) = some (.type "type"))
    (i_NoRow : PySem.W.isClsIn K C_NoRow = true)
    (q_BadBits_BadBits : PySem.W.kitOne K (.ref C_BadBits) (.ref C_BadBits) = some true)
    (q_BadBits_BadName : PySem.W.kitOne K (.ref C_BadBits) (.ref C_BadName) = some false)
    (q_BadBits_BadPaper : PySem.W.kitOne K (.ref C_BadBits) (.ref C_BadPaper) = some false)
    (q_BadBits_BadPlace : PySem.W.kitOne K (.ref C_BadBits) (.ref C_BadPlace) = some false)
    (q_BadBits_BadSize : PySem.W.kitOne K (.ref C_BadBits) (.ref C_BadSize) = some false)
    (q_BadBits_BadTable : PySem.W.kitOne K (.ref C_BadBits) (.ref C_BadTable) = some false)
    (q_BadBits_BadText : PySem.W.kitOne K (.ref C_BadBits) (.ref C_BadText) = some false)
    (q_BadBits_BadToken : PySem.W.kitOne K (.ref C_BadBits) (.ref C_BadToken) = some false)
    (q_BadBits_Full : PySem.W.kitOne K (.ref C_BadBits) (.ref C_Full) = some false)
    (q_BadBits_HasName : PySem.W.kitOne K (.ref C_BadBits) (.ref C_HasName) = some false)
    (q_BadBits_NoContainer : PySem.W.kitOne K (.ref C_BadBits) (.ref C_NoContainer) = some false)
    (q_BadBits_NoName : PySem.W.kitOne K (.ref C_BadBits) (.ref C_NoName) = some false)
    (q_BadBits_NoRow : PySem.W.kitOne K (.ref C_BadBits) (.ref C_NoRow) = some false)
    (q_BadBits_ValueError : PySem.W.kitOne K (.ref C_BadBits) (.type "ValueError") = some true)
    (s_BadBits_BadBits : PySem.W.subIn K (.ref C_BadBits) (.ref C_BadBits) = some true)
    (s_BadBits_BadName : PySem.W.subIn K (.ref C_BadBits) (.ref C_BadName) = some false)
    (s_BadBits_BadPaper : PySem.W.subIn K (.ref C_BadBits) (.ref C_BadPaper) = some false)
    (s_BadBits_BadPlace : PySem.W.subIn K (.ref C_BadBits) (.ref C_BadPlace) = some false)
    (s_BadBits_BadSize : PySem.W.subIn K (.ref C_BadBits) (.ref C_BadSize) = some false)
    (s_BadBits_BadTable : PySem.W.subIn K (.ref C_BadBits) (.ref C_BadTable) = some false)
    (s_BadBits_BadText : PySem.W.subIn K (.ref C_BadBits) (.ref C_BadText) = some false)
    (s_BadBits_BadToken : PySem.W.subIn K (.ref C_BadBits) (.ref C_BadToken) = some false)
    (s_BadBits_Full : PySem.W.subIn K (.ref C_BadBits) (.ref C_Full) = some false)
    (s_BadBits_HasName : PySem.W.subIn K (.ref C_BadBits) (.ref C_HasName) = some false)
    (s_BadBits_NoContainer : PySem.W.subIn K (.ref C_BadBits) (.ref C_NoContainer) = some false)
    (s_BadBits_NoName : PySem.W.subIn K (.ref C_BadBits) (.ref C_NoName) = some false)
    (s_BadBits_NoRow : PySem.W.subIn K (.ref C_BadBits) (.ref C_NoRow) = some false)
    (s_BadBits_ShelfError : PySem.W.subIn K (.ref C_BadBits) (.ref C_ShelfError) = some true)
    (z_ValueError : PySem.W.nsIn K mainGlobals "ValueError" = some none)
    (z_bool : PySem.W.nsIn K mainGlobals "bool" = some none)
    (z_int : PySem.W.nsIn K mainGlobals "int" = some none)
    (z_isinstance : PySem.W.nsIn K mainGlobals "isinstance" = some none)
    (z_len : PySem.W.nsIn K mainGlobals "len" = some none)
    (z_list : PySem.W.nsIn K mainGlobals "list" = some none)
    (z_min : PySem.W.nsIn K mainGlobals "min" = some none)
    (z_range : PySem.W.nsIn K mainGlobals "range" = some none)
    (m_MOST_BITS : PySem.W.nsIn K mainGlobals "MOST_BITS" = some (some u_MOST_BITS)) (r_MOST_BITS : RelV (.int 64) u_MOST_BITS) :
    ∃ fd : FuncData, (∀ (s : Shared) (v : Value), BindsTo s fd ⟨[v], []⟩ [("_law_script", v)]) ∧ ∀ base : Heap, K.In base → base.Ns mainGlobals mg → FnOk l.prog w K mg base CX0 8 fa fd ["_law_script"] (spLaw K) := by
  have e := hfa.symm.trans (PySem.W.mg_of X G a19)
  cases e
  have F0 := fun_mk (st := s_is_whole) l0 c0 k0
  have b0 := F0.binds (ps := ["thing"]) fun _ _ _ _ _ _ us hl => match us, hl with | [_], _ => rfl
  have F1 := fun_mk (st := s_refuse_unless) l1 c1 k1
  have b1 := F1.binds (ps := ["good"]) fun _ _ _ _ _ _ us hl => match us, hl with | [_], _ => rfl
  have F2 := fun_mk (st := s_Writer_init) l2 c2 k2
  have b2 := F2.binds (ps := ["self"]) fun _ _ _ _ _ _ us hl => match us, hl with | [_], _ => rfl
  have F3 := fun_mk (st := s_Writer_put) l3 c3 k3
  have b3 := F3.binds (ps := ["self", "number", "many"]) fun _ _ _ _ _ _ us hl => match us, hl with | [_, _, _], _ => rfl
  have F4 := fun_mk (st := s_Writer_bits) l4 c4 k4
  have b4 := F4.binds (ps := ["self"]) fun _ _ _ _ _ _ us hl => match us, hl with | [_], _ => rfl
  have F5 := fun_mk (st := s_Writer_row) l5 c5 k5
  have b5 := F5.binds (ps := ["self"]) fun _ _ _ _ _ _ us hl => match us, hl with | [_], _ => rfl
  have F6 := fd_mk (st := s_Reader_init) l6 c6 k6 t6 s6 (dvs := [V.int 0]) (.cons r_d6_0 .nil) (by intro z; cases z)
  obtain ⟨ds6_0, v6_0, b6_0⟩ := F6.binds1 (ps := ["self", "row", "at"]) 3 1 (by intro z; cases z) rfl fun _ _ _ _ _ _ _ us its hl hi => match us, hl, its, hi with | [_, _, _], _, [_], _ => ⟨_, rfl, rfl⟩
  obtain ⟨ds6_1, v6_1, b6_1⟩ := F6.binds1 (ps := ["self", "row", "at"]) 2 0 (by intro z; cases z) rfl fun _ _ _ _ _ _ _ us its hl hi => match us, hl, its, hi with | [_, _], _, [_], _ => ⟨_, rfl, rfl⟩
  cases v6_0
  have F7 := fun_mk (st := s_Reader_left) l7 c7 k7
  have b7 := F7.binds (ps := ["self"]) fun _ _ _ _ _ _ us hl => match us, hl with | [_], _ => rfl
  have F8 := fun_mk (st := s_Reader_take) l8 c8 k8
  have b8 := F8.binds (ps := ["self", "many"]) fun _ _ _ _ _ _ us hl => match us, hl with | [_, _], _ => rfl
  have F9 := fun_mk (st := s_Reader_place) l9 c9 k9
  have b9 := F9.binds (ps := ["self"]) fun _ _ _ _ _ _ us hl => match us, hl with | [_], _ => rfl
  have F10 := fun_mk (st := s_Reader_ended) l10 c10 k10
  have b10 := F10.binds (ps := ["self"]) fun _ _ _ _ _ _ us hl => match us, hl with | [_], _ => rfl
  have F11 := fun_mk (st := s_l_mixed) l11 c11 k11
  have b11 := F11.binds (ps := ["_law_cell", "_law_k"]) fun _ _ _ _ _ _ us hl => match us, hl with | [_, _], _ => rfl
  have F12 := fun_mk (st := s_l_row) l12 c12 k12
  have b12 := F12.binds (ps := ["_law_cell", "_law_most"]) fun _ _ _ _ _ _ us hl => match us, hl with | [_, _], _ => rfl
  have F13 := fun_mk (st := s_l_is_refusal) l13 c13 k13
  have b13 := F13.binds (ps := ["_law_error"]) fun _ _ _ _ _ _ us hl => match us, hl with | [_], _ => rfl
  have F14 := fun_mk (st := s_l_put_refused) l14 c14 k14
  have b14 := F14.binds (ps := ["_law_writer", "_law_number", "_law_many"]) fun _ _ _ _ _ _ us hl => match us, hl with | [_, _, _], _ => rfl
  have F15 := fun_mk (st := s_l_take_refused) l15 c15 k15
  have b15 := F15.binds (ps := ["_law_reader", "_law_many"]) fun _ _ _ _ _ _ us hl => match us, hl with | [_, _], _ => rfl
  have F16 := fun_mk (st := s_l_made_refused) l16 c16 k16
  have b16 := F16.binds (ps := ["_law_row_here", "_law_at"]) fun _ _ _ _ _ _ us hl => match us, hl with | [_, _], _ => rfl
  have F17 := fun_mk (st := s_l_writer_right) l17 c17 k17
  have b17 := F17.binds (ps := ["_law_cell"]) fun _ _ _ _ _ _ us hl => match us, hl with | [_], _ => rfl
  have F18 := fun_mk (st := s_l_reader_right) l18 c18 k18
  have b18 := F18.binds (ps := ["_law_cell"]) fun _ _ _ _ _ _ us hl => match us, hl with | [_], _ => rfl
  have F19 := fun_mk (st := s_law) l19 c19 k19
  have b19 := F19.binds (ps := ["_law_script"]) fun _ _ _ _ _ _ us hl => match us, hl with | [_], _ => rfl
  exact ⟨_, fun s v => .of_eq rfl, fun base _ _ => hlaw (K := K) (mg := mg) { a_is_whole := f0, d_is_whole := _, F_is_whole := F0, b_is_whole := b0, g_is_whole := PySem.W.mg_of X G a0, a_refuse_unless := f1, d_refuse_unless := _, F_refuse_unless := F1, b_refuse_unless := b1, g_refuse_unless := PySem.W.mg_of X G a1, a_Writer_init := f2, d_Writer_init := _, F_Writer_init := F2, b_Writer_init := b2, a_Writer_put := f3, d_Writer_put := _, F_Writer_put := F3, b_Writer_put := b3, a_Writer_bits := f4, d_Writer_bits := _, F_Writer_bits := F4, b_Writer_bits := b4, a_Writer_row := f5, d_Writer_row := _, F_Writer_row := F5, b_Writer_row := b5, a_Reader_init := f6, d_Reader_init := _, F_Reader_init := F6, b_Reader_init := b6_0, ds_Reader_init_1 := ds6_1, v_Reader_init_1 := v6_1, b_Reader_init_1 := b6_1, a_Reader_left := f7, d_Reader_left := _, F_Reader_left := F7, b_Reader_left := b7, a_Reader_take := f8, d_Reader_take := _, F_Reader_take := F8, b_Reader_take := b8, a_Reader_place := f9, d_Reader_place := _, F_Reader_place := F9, b_Reader_place := b9, a_Reader_ended := f10, d_Reader_ended := _, F_Reader_ended := F10, b_Reader_ended := b10, a_l_mixed := f11, d_l_mixed := _, F_l_mixed := F11, b_l_mixed := b11, g_l_mixed := PySem.W.mg_of X G a11, a_l_row := f12, d_l_row := _, F_l_row := F12, b_l_row := b12, g_l_row := PySem.W.mg_of X G a12, a_l_is_refusal := f13, d_l_is_refusal := _, F_l_is_refusal := F13, b_l_is_refusal := b13, g_l_is_refusal := PySem.W.mg_of X G a13, a_l_put_refused := f14, d_l_put_refused := _, F_l_put_refused := F14, b_l_put_refused := b14, g_l_put_refused := PySem.W.mg_of X G a14, a_l_take_refused := f15, d_l_take_refused := _, F_l_take_refused := F15, b_l_take_refused := b15, g_l_take_refused := PySem.W.mg_of X G a15, a_l_made_refused := f16, d_l_made_refused := _, F_l_made_refused := F16, b_l_made_refused := b16, g_l_made_refused := PySem.W.mg_of X G a16, a_l_writer_right := f17, d_l_writer_right := _, F_l_writer_right := F17, b_l_writer_right := b17, g_l_writer_right := PySem.W.mg_of X G a17, a_l_reader_right := f18, d_l_reader_right := _, F_l_reader_right := F18, b_l_reader_right := b18, g_l_reader_right := PySem.W.mg_of X G a18, a_law := fa, d_law := _, F_law := F19, b_law := b19, g_law := PySem.W.mg_of X G a19, C_Writer := C_Writer, g_Writer := PySem.W.mg_of X G qC_Writer, cl_Writer := ⟨pgC_Writer, hdC_Writer, poC_Writer, saC_Writer⟩, n_Writer_full := nC_Writer_full, n_Writer_begun := nC_Writer_begun, n_Writer_many := nC_Writer_many, K_Writer := ⟨mkC_Writer, a2, i2, kcC_Writer⟩, M_Writer_put := ⟨a3, i3, k3⟩, M_Writer_bits := ⟨a4, i4, k4⟩, M_Writer_row := ⟨a5, i5, k5⟩, C_Reader := C_Reader, g_Reader := PySem.W.mg_of X G qC_Reader, cl_Reader := ⟨pgC_Reader, hdC_Reader, poC_Reader, saC_Reader⟩, n_Reader_bytes := nC_Reader_bytes, n_Reader_next := nC_Reader_next, K_Reader := ⟨mkC_Reader, a6, i6, kcC_Reader⟩, M_Reader_left := ⟨a7, i7, k7⟩, M_Reader_take := ⟨a8, i8, k8⟩, M_Reader_place := ⟨a9, i9, k9⟩, M_Reader_ended := ⟨a10, i10, k10⟩, C_ShelfError := C_ShelfError, g_ShelfError := PySem.W.mg_of X G qC_ShelfError, k_ShelfError := k_ShelfError, b_ShelfError := b_ShelfError, t_ShelfError := t_ShelfError, i_ShelfError := i_ShelfError, C_BadBits := C_BadBits, g_BadBits := PySem.W.mg_of X G qC_BadBits, k_BadBits := k_BadBits, b_BadBits := b_BadBits, t_BadBits := t_BadBits, i_BadBits := i_BadBits, x_BadBits := x_BadBits, gb_BadBits := gb_BadBits, gg_BadBits := gg_BadBits, hd_BadBits := hd_BadBits, ca_BadBits := ca_BadBits, cn_BadBits := cn_BadBits, ct_BadBits := ct_BadBits, cm_BadBits := cm_BadBits, xc_BadBits := ⟨gb_BadBits, gg_BadBits, b_BadBits, hd_BadBits, ca_BadBits, cn_BadBits, ct_BadBits, cm_BadBits⟩, C_BadTable := C_BadTable, g_BadTable := PySem.W.mg_of X G qC_BadTable, k_BadTable := k_BadTable, b_BadTable := b_BadTable, t_BadTable := t_BadTable, i_BadTable := i_BadTable, C_BadToken := C_BadToken, g_BadToken := PySem.W.mg_of X G qC_BadToken, k_BadToken := k_BadToken, b_BadToken := b_BadToken, t_BadToken := t_BadToken, i_BadToken := i_BadToken, C_BadPaper := C_BadPaper, g_BadPaper := PySem.W.mg_of X G qC_BadPaper, k_BadPaper := k_BadPaper, b_BadPaper := b_BadPaper, t_BadPaper := t_BadPaper, i_BadPaper := i_BadPaper, C_NoContainer := C_NoContainer, g_NoContainer := PySem.W.mg_of X G qC_NoContainer, k_NoContainer := k_NoContainer, b_NoContainer := b_NoContainer, t_NoContainer := t_NoContainer, i_NoContainer := i_NoContainer, C_BadName := C_BadName, g_BadName := PySem.W.mg_of X G qC_BadName, k_BadName := k_BadName, b_BadName := b_BadName, t_BadName := t_BadName, i_BadName := i_BadName, C_NoName := C_NoName, g_NoName := PySem.W.mg_of X G qC_NoName, k_NoName := k_NoName, b_NoName := b_NoName, t_NoName := t_NoName, i_NoName := i_NoName, C_HasName := C_HasName, g_HasName := PySem.W.mg_of X G qC_HasName, k_HasName := k_HasName, b_HasName := b_HasName, t_HasName := t_HasName, i_HasName := i_HasName, C_BadSize := C_BadSize, g_BadSize := PySem.W.mg_of X G qC_BadSize, k_BadSize := k_BadSize, b_BadSize := b_BadSize, t_BadSize := t_BadSize, i_BadSize := i_BadSize, C_BadText := C_BadText, g_BadText := PySem.W.mg_of X G qC_BadText, k_BadText := k_BadText, b_BadText := b_BadText, t_BadText := t_BadText, i_BadText := i_BadText, C_Full := C_Full, g_Full := PySem.W.mg_of X G qC_Full, k_Full := k_Full, b_Full := b_Full, t_Full := t_Full, i_Full := i_Full, C_BadPlace := C_BadPlace, g_BadPlace := PySem.W.mg_of X G qC_BadPlace, k_BadPlace := k_BadPlace, b_BadPlace := b_BadPlace, t_BadPlace := t_BadPlace, i_BadPlace := i_BadPlace, C_NoRow := C_NoRow, g_NoRow := PySem.W.mg_of X G qC_NoRow, k_NoRow := k_NoRow, b_NoRow := b_NoRow, t_NoRow := t_NoRow, i_NoRow := i_NoRow, q_BadBits_BadBits := q_BadBits_BadBits, q_BadBits_BadName := q_BadBits_BadName, q_BadBits_BadPaper := q_BadBits_BadPaper, q_BadBits_BadPlace := q_BadBits_BadPlace, q_BadBits_BadSize := q_BadBits_BadSize, q_BadBits_BadTable := q_BadBits_BadTable, q_BadBits_BadText := q_BadBits_BadText, q_BadBits_BadToken := q_BadBits_BadToken, q_BadBits_Full := q_BadBits_Full, q_BadBits_HasName := q_BadBits_HasName, q_BadBits_NoContainer := q_BadBits_NoContainer, q_BadBits_NoName := q_BadBits_NoName, q_BadBits_NoRow := q_BadBits_NoRow, q_BadBits_ValueError := q_BadBits_ValueError, e_BadBits_BadBits := Z.exm_of i_BadBits t_BadBits b_BadBits s_BadBits_BadBits, e_BadBits_BadName := Z.exm_of i_BadName t_BadName b_BadName s_BadBits_BadName, e_BadBits_BadPaper := Z.exm_of i_BadPaper t_BadPaper b_BadPaper s_BadBits_BadPaper, e_BadBits_BadPlace := Z.exm_of i_BadPlace t_BadPlace b_BadPlace s_BadBits_BadPlace, e_BadBits_BadSize := Z.exm_of i_BadSize t_BadSize b_BadSize s_BadBits_BadSize, e_BadBits_BadTable := Z.exm_of i_BadTable t_BadTable b_BadTable s_BadBits_BadTable, e_BadBits_BadText := Z.exm_of i_BadText t_BadText b_BadText s_BadBits_BadText, e_BadBits_BadToken := Z.exm_of i_BadToken t_BadToken b_BadToken s_BadBits_BadToken, e_BadBits_Full := Z.exm_of i_Full t_Full b_Full s_BadBits_Full, e_BadBits_HasName := Z.exm_of i_HasName t_HasName b_HasName s_BadBits_HasName, e_BadBits_NoContainer := Z.exm_of i_NoContainer t_NoContainer b_NoContainer s_BadBits_NoContainer, e_BadBits_NoName := Z.exm_of i_NoName t_NoName b_NoName s_BadBits_NoName, e_BadBits_NoRow := Z.exm_of i_NoRow t_NoRow b_NoRow s_BadBits_NoRow, e_BadBits_ShelfError := Z.exm_of i_ShelfError t_ShelfError b_ShelfError s_BadBits_ShelfError, z_ValueError := PySem.W.mg_none_of X G z_ValueError, z_bool := PySem.W.mg_none_of X G z_bool, z_int := PySem.W.mg_none_of X G z_int, z_isinstance := PySem.W.mg_none_of X G z_isinstance, z_len := PySem.W.mg_none_of X G z_len, z_list := PySem.W.mg_none_of X G z_list, z_min := PySem.W.mg_none_of X G z_min, z_range := PySem.W.mg_none_of X G z_range, u_MOST_BITS := u_MOST_BITS, m_MOST_BITS := PySem.W.mg_of X G m_MOST_BITS, r_MOST_BITS := r_MOST_BITS }⟩
def HL : Prop := ∀ {P : Program} {w : World} {K : PySem.W.Frag} {mg : Str → Option Value} {base : Heap} (T : Tx K mg), FnOk P w K mg base CX0 8 T.a_law T.d_law ["_law_script"] (spLaw K)
theorem zHfacts (hlaw : HL) {l : PySem.W.OpenLaw} {w : World} {K : PySem.W.Frag} {h : Heap} {mg : Str → Option Value} {fa : Addr} (X : K.In h) (G : h.Ns mainGlobals mg) (hfa : mg "law" = some (.ref fa)) (c : Hd.Says zHfn zHfd zHx K) :
    ∃ fd : FuncData, (∀ (s : Shared) (v : Value), BindsTo s fd ⟨[v], []⟩ [("_law_script", v)]) ∧ ∀ base : Heap, K.In base → base.Ns mainGlobals mg → FnOk l.prog w K mg base CX0 8 fa fd ["_law_script"] (spLaw K) := by
  obtain ⟨oc0, od0, sl0, kV0, dc0, pm0, an0, cd0, ct0, l0, c0⟩ := c.def_ 0 (d := zHfn0.getD 0 zHfnZ) rfl
  obtain ⟨oc1, od1, sl1, kV1, dc1, pm1, an1, cd1, ct1, l1, c1⟩ := c.def_ 1 (d := zHfn0.getD 1 zHfnZ) rfl
  obtain ⟨oc2, od2, sl2, kV2, dc2, pm2, an2, cd2, ct2, l2, c2⟩ := c.def_ 2 (d := zHfn0.getD 2 zHfnZ) rfl
  obtain ⟨oc3, od3, sl3, kV3, dc3, pm3, an3, cd3, ct3, l3, c3⟩ := c.def_ 3 (d := zHfn0.getD 3 zHfnZ) rfl
  obtain ⟨oc4, od4, sl4, kV4, dc4, pm4, an4, cd4, ct4, l4, c4⟩ := c.def_ 4 (d := zHfn0.getD 4 zHfnZ) rfl
  obtain ⟨oc5, od5, sl5, kV5, dc5, pm5, an5, cd5, ct5, l5, c5⟩ := c.def_ 5 (d := zHfn0.getD 5 zHfnZ) rfl
  obtain ⟨oc7, od7, sl7, kV7, dc7, pm7, an7, cd7, ct7, l7, c7⟩ := c.def_ 6 (d := zHfn0.getD 6 zHfnZ) rfl
  obtain ⟨oc8, od8, sl8, kV8, dc8, pm8, an8, cd8, ct8, l8, c8⟩ := c.def_ 7 (d := zHfn0.getD 7 zHfnZ) rfl
  obtain ⟨oc9, od9, sl9, kV9, dc9, pm9, an9, cd9, ct9, l9, c9⟩ := c.def_ 8 (d := zHfn0.getD 8 zHfnZ) rfl
  obtain ⟨oc10, od10, sl10, kV10, dc10, pm10, an10, cd10, ct10, l10, c10⟩ := c.def_ 9 (d := zHfn0.getD 9 zHfnZ) rfl
  obtain ⟨oc11, od11, sl11, kV11, dc11, pm11, an11, cd11, ct11, l11, c11⟩ := c.def_ 10 (d := zHfn0.getD 10 zHfnZ) rfl
  obtain ⟨oc12, od12, sl12, kV12, dc12, pm12, an12, cd12, ct12, l12, c12⟩ := c.def_ 11 (d := zHfn0.getD 11 zHfnZ) rfl
  obtain ⟨oc13, od13, sl13, kV13, dc13, pm13, an13, cd13, ct13, l13, c13⟩ := c.def_ 12 (d := zHfn0.getD 12 zHfnZ) rfl
  obtain ⟨oc14, od14, sl14, kV14, dc14, pm14, an14, cd14, ct14, l14, c14⟩ := c.def_ 13 (d := zHfn0.getD 13 zHfnZ) rfl
  obtain ⟨oc15, od15, sl15, kV15, dc15, pm15, an15, cd15, ct15, l15, c15⟩ := c.def_ 14 (d := zHfn0.getD 14 zHfnZ) rfl
  obtain ⟨oc16, od16, sl16, kV16, dc16, pm16, an16, cd16, ct16, l16, c16⟩ := c.def_ 15 (d := zHfn0.getD 15 zHfnZ) rfl
  obtain ⟨oc17, od17, sl17, kV17, dc17, pm17, an17, cd17, ct17, l17, c17⟩ := c.def_ 16 (d := zHfn0.getD 16 zHfnZ) rfl
  obtain ⟨oc18, od18, sl18, kV18, dc18, pm18, an18, cd18, ct18, l18, c18⟩ := c.def_ 17 (d := zHfn0.getD 17 zHfnZ) rfl
  obtain ⟨oc19, od19, sl19, kV19, dc19, pm19, an19, cd19, ct19, l19, c19⟩ := c.def_ 18 (d := zHfn0.getD 18 zHfnZ) rfl
  obtain ⟨oc6, od6, sl6, T6, kV6, dc6, pm6, an6, cd6, ct6, o6, us6, n6, l6, c6, t6, s6, vs6⟩ := Hd.dfAt_ok (dvs := [V.int 0]) (c.dflt 0 (d := zHfd0.getD 0 zHfdZ) rfl) (c.fact (l := zHx0) 0 0 rfl rfl)
  cases vs6 with | cons r_d6_0 vs6 =>
  cases vs6
  obtain ⟨u_MOST_BITS, m_MOST_BITS, r_MOST_BITS⟩ := Hd.relAt_ok (c.fact (l := zHx0) 0 1 rfl rfl)
  exact all_mk @hlaw X G hfa
    (of_decide_eq_true (c.fact (l := zHx0) 0 2 rfl rfl))
    l0
    c0
    (c.fact (l := zHx0) 0 3 rfl rfl)
    (of_decide_eq_true (c.fact (l := zHx0) 0 4 rfl rfl))
    l1
    c1
    (c.fact (l := zHx0) 0 5 rfl rfl)
    (of_decide_eq_true (c.fact (l := zHx0) 0 6 rfl rfl))
    (c.fact (l := zHx0) 0 7 rfl rfl)
    l2
    c2
    (c.fact (l := zHx0) 0 8 rfl rfl)
    (of_decide_eq_true (c.fact (l := zHx0) 0 9 rfl rfl))
    (c.fact (l := zHx0) 0 10 rfl rfl)
    l3
    c3
    (c.fact (l := zHx0) 0 11 rfl rfl)
    (of_decide_eq_true (c.fact (l := zHx0) 0 12 rfl rfl))
    (c.fact (l := zHx0) 0 13 rfl rfl)
    l4
    c4
    (c.fact (l := zHx0) 0 14 rfl rfl)
    (of_decide_eq_true (c.fact (l := zHx0) 0 15 rfl rfl))
    (c.fact (l := zHx0) 0 16 rfl rfl)
    l5
    c5
    (c.fact (l := zHx0) 0 17 rfl rfl)
    (of_decide_eq_true (c.fact (l := zHx0) 0 18 rfl rfl))
    (c.fact (l := zHx0) 0 19 rfl rfl)
    l6
    c6
    (c.fact (l := zHx0) 0 20 rfl rfl)
    t6
    s6
    r_d6_0
    (of_decide_eq_true (c.fact (l := zHx0) 0 21 rfl rfl))
    (c.fact (l := zHx0) 0 22 rfl rfl)
    l7
    c7
    (c.fact (l := zHx0) 0 23 rfl rfl)
    (of_decide_eq_true (c.fact (l := zHx0) 0 24 rfl rfl))
    (c.fact (l := zHx0) 0 25 rfl rfl)
    l8
    c8
    (c.fact (l := zHx0) 0 26 rfl rfl)
    (of_decide_eq_true (c.fact (l := zHx0) 0 27 rfl rfl))
    (c.fact (l := zHx0) 0 28 rfl rfl)
    l9
    c9
    (c.fact (l := zHx0) 0 29 rfl rfl)
    (of_decide_eq_true (c.fact (l := zHx0) 0 30 rfl rfl))
    (c.fact (l := zHx0) 0 31 rfl rfl)
    l10
    c10
    (c.fact (l := zHx0) 0 32 rfl rfl)
    (of_decide_eq_true (c.fact (l := zHx0) 0 33 rfl rfl))
    l11
    c11
    (c.fact (l := zHx0) 0 34 rfl rfl)
    (of_decide_eq_true (c.fact (l := zHx0) 0 35 rfl rfl))
    l12
    c12
    (c.fact (l := zHx0) 0 36 rfl rfl)
    (of_decide_eq_true (c.fact (l := zHx0) 0 37 rfl rfl))
    l13
    c13
    (c.fact (l := zHx0) 0 38 rfl rfl)
    (of_decide_eq_true (c.fact (l := zHx0) 0 39 rfl rfl))
    l14
    c14
    (c.fact (l := zHx1) 1 0 rfl rfl)
    (of_decide_eq_true (c.fact (l := zHx1) 1 1 rfl rfl))
    l15
    c15
    (c.fact (l := zHx1) 1 2 rfl rfl)
    (of_decide_eq_true (c.fact (l := zHx1) 1 3 rfl rfl))
    l16
    c16
    (c.fact (l := zHx1) 1 4 rfl rfl)
    (of_decide_eq_true (c.fact (l := zHx1) 1 5 rfl rfl))
    l17
    c17
    (c.fact (l := zHx1) 1 6 rfl rfl)
    (of_decide_eq_true (c.fact (l := zHx1) 1 7 rfl rfl))
    l18
    c18
    (c.fact (l := zHx1) 1 8 rfl rfl)
    (of_decide_eq_true (c.fact (l := zHx1) 1 9 rfl rfl))
    l19
    c19
    (c.fact (l := zHx1) 1 10 rfl rfl)
    (of_decide_eq_true (c.fact (l := zHx1) 1 11 rfl rfl))
    (c.fact (l := zHx1) 1 12 rfl rfl)
    (c.fact (l := zHx1) 1 13 rfl rfl)
    (c.fact (l := zHx1) 1 14 rfl rfl)
    (of_decide_eq_true (c.fact (l := zHx1) 1 15 rfl rfl))
    (c.fact (l := zHx1) 1 16 rfl rfl)
    (c.fact (l := zHx1) 1 17 rfl rfl)
    (of_decide_eq_true (c.fact (l := zHx1) 1 18 rfl rfl))
    (of_decide_eq_true (c.fact (l := zHx1) 1 19 rfl rfl))
    (of_decide_eq_true (c.fact (l := zHx1) 1 20 rfl rfl))
    (of_decide_eq_true (c.fact (l := zHx1) 1 21 rfl rfl))
    (c.fact (l := zHx1) 1 22 rfl rfl)
    (c.fact (l := zHx1) 1 23 rfl rfl)
    (c.fact (l := zHx1) 1 24 rfl rfl)
    (of_decide_eq_true (c.fact (l := zHx1) 1 25 rfl rfl))
    (c.fact (l := zHx1) 1 26 rfl rfl)
    (c.fact (l := zHx1) 1 27 rfl rfl)
    (of_decide_eq_true (c.fact (l := zHx1) 1 28 rfl rfl))
    (of_decide_eq_true (c.fact (l := zHx1) 1 29 rfl rfl))
    (of_decide_eq_true (c.fact (l := zHx1) 1 30 rfl rfl))
    (c.fact (l := zHx1) 1 31 rfl rfl)
    (of_decide_eq_true (c.fact (l := zHx1) 1 32 rfl rfl))
    (of_decide_eq_true (c.fact (l := zHx1) 1 33 rfl rfl))
    (c.fact (l := zHx1) 1 34 rfl rfl)
    (of_decide_eq_true (c.fact (l := zHx1) 1 35 rfl rfl))
    (c.fact (l := zHx1) 1 36 rfl rfl)
    (of_decide_eq_true (c.fact (l := zHx1) 1 37 rfl rfl))
    (of_decide_eq_true (c.fact (l := zHx1) 1 38 rfl rfl))
    (c.fact (l := zHx1) 1 39 rfl rfl)
    (c.fact (l := zHx2) 2 0 rfl rfl)
    (of_decide_eq_true (c.fact (l := zHx2) 2 1 rfl rfl))
    (of_decide_eq_true (c.fact (l := zHx2) 2 2 rfl rfl))
    (c.fact (l := zHx2) 2 3 rfl rfl)
    (of_decide_eq_true (c.fact (l := zHx2) 2 4 rfl rfl))
    (of_decide_eq_true (c.fact (l := zHx2) 2 5 rfl rfl))
    (of_decide_eq_true (c.fact (l := zHx2) 2 6 rfl rfl))
    (of_decide_eq_true (c.fact (l := zHx2) 2 7 rfl rfl))
    (of_decide_eq_true (c.fact (l := zHx2) 2 8 rfl rfl))
    (c.fact (l := zHx2) 2 9 rfl rfl)
    (of_decide_eq_true (c.fact (l := zHx2) 2 10 rfl rfl))
    (of_decide_eq_true (c.fact (l := zHx2) 2 11 rfl rfl))
    (c.fact (l := zHx2) 2 12 rfl rfl)
    (of_decide_eq_true (c.fact (l := zHx2) 2 13 rfl rfl))
    (c.fact (l := zHx2) 2 14 rfl rfl)
    (of_decide_eq_true (c.fact (l := zHx2) 2 15 rfl rfl))
    (of_decide_eq_true (c.fact (l := zHx2) 2 16 rfl rfl))
    (c.fact (l := zHx2) 2 17 rfl rfl)
    (of_decide_eq_true (c.fact (l := zHx2) 2 18 rfl rfl))
    (c.fact (l := zHx2) 2 19 rfl rfl)
    (of_decide_eq_true (c.fact (l := zHx2) 2 20 rfl rfl))
    (of_decide_eq_true (c.fact (l := zHx2) 2 21 rfl rfl))
    (c.fact (l := zHx2) 2 22 rfl rfl)
    (of_decide_eq_true (c.fact (l := zHx2) 2 23 rfl rfl))
    (c.fact (l := zHx2) 2 24 rfl rfl)
    (of_decide_eq_true (c.fact (l := zHx2) 2 25 rfl rfl))
    (of_decide_eq_true (c.fact (l := zHx2) 2 26 rfl rfl))
    (c.fact (l := zHx2) 2 27 rfl rfl)
    (of_decide_eq_true (c.fact (l := zHx2) 2 28 rfl rfl))
    (c.fact (l := zHx2) 2 29 rfl rfl)
    (of_decide_eq_true (c.fact (l := zHx2) 2 30 rfl rfl))
    (of_decide_eq_true (c.fact (l := zHx2) 2 31 rfl rfl))
    (c.fact (l := zHx2) 2 32 rfl rfl)
    (of_decide_eq_true (c.fact (l := zHx2) 2 33 rfl rfl))
    (c.fact (l := zHx2) 2 34 rfl rfl)
    (of_decide_eq_true (c.fact (l := zHx2) 2 35 rfl rfl))
    (of_decide_eq_true (c.fact (l := zHx2) 2 36 rfl rfl))
    (c.fact (l := zHx2) 2 37 rfl rfl)
    (of_decide_eq_true (c.fact (l := zHx2) 2 38 rfl rfl))
    (c.fact (l := zHx2) 2 39 rfl rfl)
    (of_decide_eq_true (c.fact (l := zHx3) 3 0 rfl rfl))
    (of_decide_eq_true (c.fact (l := zHx3) 3 1 rfl rfl))
    (c.fact (l := zHx3) 3 2 rfl rfl)
    (of_decide_eq_true (c.fact (l := zHx3) 3 3 rfl rfl))
    (c.fact (l := zHx3) 3 4 rfl rfl)
    (of_decide_eq_true (c.fact (l := zHx3) 3 5 rfl rfl))
    (of_decide_eq_true (c.fact (l := zHx3) 3 6 rfl rfl))
    (c.fact (l := zHx3) 3 7 rfl rfl)
    (of_decide_eq_true (c.fact (l := zHx3) 3 8 rfl rfl))
    (c.fact (l := zHx3) 3 9 rfl rfl)
    (of_decide_eq_true (c.fact (l := zHx3) 3 10 rfl rfl))
    (of_decide_eq_true (c.fact (l := zHx3) 3 11 rfl rfl))
    (c.fact (l := zHx3) 3 12 rfl rfl)
    (of_decide_eq_true (c.fact (l := zHx3) 3 13 rfl rfl))
    (c.fact (l := zHx3) 3 14 rfl rfl)
    (of_decide_eq_true (c.fact (l := zHx3) 3 15 rfl rfl))
    (of_decide_eq_true (c.fact (l := zHx3) 3 16 rfl rfl))
    (c.fact (l := zHx3) 3 17 rfl rfl)
    (of_decide_eq_true (c.fact (l := zHx3) 3 18 rfl rfl))
    (c.fact (l := zHx3) 3 19 rfl rfl)
    (of_decide_eq_true (c.fact (l := zHx3) 3 20 rfl rfl))
    (of_decide_eq_true (c.fact (l := zHx3) 3 21 rfl rfl))
    (c.fact (l := zHx3) 3 22 rfl rfl)
    (of_decide_eq_true (c.fact (l := zHx3) 3 23 rfl rfl))
    (c.fact (l := zHx3) 3 24 rfl rfl)
    (of_decide_eq_true (c.fact (l := zHx3) 3 25 rfl rfl))
    (of_decide_eq_true (c.fact (l := zHx3) 3 26 rfl rfl))
    (c.fact (l := zHx3) 3 27 rfl rfl)
    (of_decide_eq_true (c.fact (l := zHx3) 3 28 rfl rfl))
    (of_decide_eq_true (c.fact (l := zHx3) 3 29 rfl rfl))
    (of_decide_eq_true (c.fact (l := zHx3) 3 30 rfl rfl))
    (of_decide_eq_true (c.fact (l := zHx3) 3 31 rfl rfl))
    (of_decide_eq_true (c.fact (l := zHx3) 3 32 rfl rfl))
    (of_decide_eq_true (c.fact (l := zHx3) 3 33 rfl rfl))
    (of_decide_eq_true (c.fact (l := zHx3) 3 34 rfl rfl))
    (of_decide_eq_true (c.fact (l := zHx3) 3 35 rfl rfl))
    (of_decide_eq_true (c.fact (l := zHx3) 3 36 rfl rfl))
    (of_decide_eq_true (c.fact (l := zHx3) 3 37 rfl rfl))
    (of_decide_eq_true (c.fact (l := zHx3) 3 38 rfl rfl))
    (of_decide_eq_true (c.fact (l := zHx3) 3 39 rfl rfl))
    (of_decide_eq_true (c.fact (l := zHx4) 4 0 rfl rfl))
    (of_decide_eq_true (c.fact (l := zHx4) 4 1 rfl rfl))
    (of_decide_eq_true (c.fact (l := zHx4) 4 2 rfl rfl))
    (of_decide_eq_true (c.fact (l := zHx4) 4 3 rfl rfl))
    (of_decide_eq_true (c.fact (l := zHx4) 4 4 rfl rfl))
    (of_decide_eq_true (c.fact (l := zHx4) 4 5 rfl rfl))
    (of_decide_eq_true (c.fact (l := zHx4) 4 6 rfl rfl))
    (of_decide_eq_true (c.fact (l := zHx4) 4 7 rfl rfl))
    (of_decide_eq_true (c.fact (l := zHx4) 4 8 rfl rfl))
    (of_decide_eq_true (c.fact (l := zHx4) 4 9 rfl rfl))
    (of_decide_eq_true (c.fact (l := zHx4) 4 10 rfl rfl))
    (of_decide_eq_true (c.fact (l := zHx4) 4 11 rfl rfl))
    (of_decide_eq_true (c.fact (l := zHx4) 4 12 rfl rfl))
    (of_decide_eq_true (c.fact (l := zHx4) 4 13 rfl rfl))
    (of_decide_eq_true (c.fact (l := zHx4) 4 14 rfl rfl))
    (of_decide_eq_true (c.fact (l := zHx4) 4 15 rfl rfl))
    (of_decide_eq_true (c.fact (l := zHx4) 4 16 rfl rfl))
    (of_decide_eq_true (c.fact (l := zHx4) 4 17 rfl rfl))
    (of_decide_eq_true (c.fact (l := zHx4) 4 18 rfl rfl))
    (of_decide_eq_true (c.fact (l := zHx4) 4 19 rfl rfl))
    (of_decide_eq_true (c.fact (l := zHx4) 4 20 rfl rfl))
    (of_decide_eq_true (c.fact (l := zHx4) 4 21 rfl rfl))
    (of_decide_eq_true (c.fact (l := zHx4) 4 22 rfl rfl))
    (of_decide_eq_true (c.fact (l := zHx4) 4 23 rfl rfl))
    m_MOST_BITS
    r_MOST_BITS
end K04
open PySem PySem.W PySem.Calls PyProof.Rows in
set_option maxRecDepth 100000 in
set_option maxHeartbeats 0 in
theorem K04.early (hlaw : K04.HL) : PySem.Challenge.rw_tornshelf_k04_bits_refused.Holds := by
  w_on; o_law
  refine HandSHeadRun.head_any (r := OpenLaw.row PySem.Challenge.rw_tornshelf_k04_bits_refused) (q := view (OpenLaw.row PySem.Challenge.rw_tornshelf_k04_bits_refused).prog [31]) (H := K04.zHk) (ob := K04.zHob) (M := 20000) (loose := K04.zHl) (d := HandSHeadRun.topDef (OpenLaw.row PySem.Challenge.rw_tornshelf_k04_bits_refused).prog 31) (kwd := []) K04.zHob_eq
    (by kernel_rfl) (fun s => by kernel_rfl) K04.zHrun (by kernel_rfl) (by kernel_rfl) (by kernel_rfl) (by rfl) (by first | assumption | decide +kernel) (by decide +kernel) ⟨rfl, rfl, rfl, rfl, rfl, by decide +kernel⟩ ?hw ?hc
  case hw => w_witness2
  case hc =>
    refine L2.walk_ofE (l := PySem.Challenge.rw_tornshelf_k04_bits_refused) (n := 63) (k := 8) (x := "_law_script") (CX := L2.CX0) rfl (by decide) (by kernel_rfl) ⟨rfl, by decide, by decide⟩ ?F (fun _ _ _ _ z => z)
    intro w mg fa h Y G hmg0
    obtain ⟨K, KX, c⟩ := Y
    have hmg : mg ("law" : PySem.Str) = some (.ref fa) := by
      have e : (HandSHeadRun.topDef (OpenLaw.row PySem.Challenge.rw_tornshelf_k04_bits_refused).prog 31).name = ("law" : PySem.Str) := by kernel_rfl
      rw [← e]
      exact hmg0
    obtain ⟨fd, hb, hF⟩ := K04.zHfacts hlaw (l := PySem.Challenge.rw_tornshelf_k04_bits_refused) (w := w) KX G hmg c
    exact ⟨K, fd, K04.spLaw K, KX, hb, fun H a ns hl hO hS => ⟨a, ns, rfl, hS, hl, Z.only_nd hO, fun _ => rfl⟩, hF⟩
namespace K04
open PySem L2 Z Y
local macro_rules | `(tactic| walk_at "sd") => `(tactic| first
  | omega | assumption | (show (_ : Nat) ≤ 16777216; simp; done) | (show (_ : Nat) ≤ 16777216; simp; omega) | (show (_ : Nat) < 16777216; simp; done) | (show (_ : Nat) < 16777216; simp; omega) | decide | exact Or.inr ⟨by omega, by omega⟩ | exact Or.inl ⟨by omega, by omega⟩ | exact ⟨by omega, by omega⟩ | exact ⟨by omega, by omega, by omega⟩ | exact ⟨by omega, by omega, by omega, by omega⟩ | exact ⟨by omega, by omega, by decide⟩)
local macro_rules | `(tactic| walk_at "ds") => `(tactic| dsimp only [List.set, setC, wipeS, wipeE, Y.rest, kp, Cn.toD])
local macro_rules | `(tactic| walk_at "f0") => `(tactic| (refine Y.f_fn rfl ?_; simp only [List.map_cons, List.map_nil, List.length_cons, List.length_nil, List.replicate, Nat.reduceSub, Nat.reduceAdd, List.cons_append, List.nil_append]))
local macro_rules | `(tactic| walk_at "fx") => `(tactic| (refine Y.f_fnX rfl ?_; simp only [List.map_cons, List.map_nil, List.length_cons, List.length_nil, List.replicate, Nat.reduceSub, Nat.reduceAdd, List.cons_append, List.nil_append]))
local macro_rules | `(tactic| walk_at "f00") => `(tactic| (refine Y.f_fn0 rfl ?_; simp only [List.map_cons, List.map_nil, List.length_cons, List.length_nil, List.replicate, Nat.reduceSub, Nat.reduceAdd, List.cons_append, List.nil_append]))
local macro_rules | `(tactic| walk_at "wx") => `(tactic| ((with_reducible show _ ≤ sizeLine ∧ _); refine ⟨by walk_at "sd", ?_⟩))
local macro_rules | `(tactic| walk_at "wx") => `(tactic| ((with_reducible show _ ∧ Y.Wo _ _ _); refine ⟨by walk_at "sd", ?_⟩))
local macro_rules | `(tactic| walk_at "wx") => `(tactic| ((with_reducible show ∃ c, AI.new _ = AI.new c ∧ _); refine ⟨_, rfl, ?_⟩; try (walk_at "ds")))
local macro_rules | `(tactic| walk_at "wx") => `(tactic| ((with_reducible show ∃ x, AI.val (D.str _) = AI.val (D.str x) ∧ _); refine ⟨_, rfl, ?_⟩; try dsimp only []))
local macro_rules | `(tactic| walk_at "wx") => `(tactic| ((with_reducible show ∃ l, Y.tupOf _ = some l ∧ _); refine ⟨_, rfl, ?_⟩; try (dsimp only [])))
local macro_rules | `(tactic| walk_at "wx") => `(tactic| ((with_reducible show ∃ l, Y.viewL _ _ = some l ∧ _); first | refine ⟨_, rfl, ?_⟩ | refine ⟨_, Y.viewL_cid (by assumption), ?_⟩))
local macro_rules | `(tactic| walk_at "wx") => `(tactic| ((with_reducible show ∃ d' l', [_] = [d'] ∧ Y.listOf _ d' = some l' ∧ _); refine ⟨_, _, rfl, rfl, ?_⟩; dsimp only [ckOf]))
local macro_rules | `(tactic| walk_at "wx") => `(tactic| with_reducible refine Y.w_wzI ?_)
local macro_rules | `(tactic| walk_at "wx") => `(tactic| ((with_reducible show ∃ l', Y.listOf _ _ = some l' ∧ _); refine ⟨_, rfl, ?_⟩; dsimp only [ckOf]))
local macro_rules | `(tactic| walk_at "wx") => `(tactic| ((with_reducible refine Y.w_rng2I ?_ ?_); (focus (· walk_at "sd"))))
local macro_rules | `(tactic| walk_at "wx") => `(tactic| ((with_reducible show ∃ w x, [_, _] = [w, x] ∧ _); refine ⟨_, _, rfl, ?_⟩; try (walk_at "ds")))
local macro_rules | `(tactic| walk_at "wx") => `(tactic| ((with_reducible refine Y.noid_and ?_ ?_); (focus (· first | rfl | (simp only [D.noIdL, D.noId, Y.noIdL_ints, Bool.and_self, Bool.and_true, Bool.true_and]; done)))))
local macro_rules | `(tactic| walk_at "wx") => `(tactic| ((with_reducible show (∃ l, Y.viewD _ _ = some l) ∧ _); refine ⟨⟨_, rfl⟩, ?_⟩))
local macro_rules | `(tactic| walk_at "wx") => `(tactic| ((with_reducible show ∃ l, AI.new (.dK _) = AI.new (.dK l) ∧ _); refine ⟨_, rfl, ?_⟩))
local macro_rules | `(tactic| walk_at "wx") => `(tactic| ((with_reducible refine Y.w_lr1I ?_ ?_ ?_); (focus (· walk_at "sd")); (focus (· walk_at "sd"))))
local macro_rules | `(tactic| walk_at "wx") => `(tactic| ((with_reducible refine Z.z_ifnN ?_ ?_); (focus (· omega))))
local macro_rules | `(tactic| walk_at "wx") => `(tactic| with_reducible refine Z.z_ifnR ?_)
local macro_rules | `(tactic| walk_at "wx") => `(tactic| with_reducible refine Y.w_blB ?_)
local macro_rules | `(tactic| walk_at "wx") => `(tactic| with_reducible refine Y.w_truI ?_)
local macro_rules | `(tactic| walk_at "wx") => `(tactic| ((with_reducible refine Z.z_ifnY ?_ ?_); (focus (· omega))))
local macro_rules | `(tactic| walk_at "wx") => `(tactic| ((with_reducible show if (!(Y.D.isN _)) = true then _ else _); first | refine Y.z_b1 rfl ?_ | refine Y.z_b0 rfl ?_))
local macro_rules | `(tactic| walk_at "wx") => `(tactic| ((with_reducible show if Y.D.isN _ = true then _ else _); first | refine Y.z_b1 rfl ?_ | refine Y.z_b0 rfl ?_))
local macro_rules | `(tactic| walk_at "wx") => `(tactic| with_reducible refine Z.z_inF ?_)
local macro_rules | `(tactic| walk_at "wx") => `(tactic| ((with_reducible refine Y.w_rng1I ?_ ?_); (focus (· walk_at "sd"))))
local macro_rules | `(tactic| walk_at "wx") => `(tactic| with_reducible refine Z.z_ifR ?_)
local macro_rules | `(tactic| walk_at "wx") => `(tactic| with_reducible refine Z.z_inT ?_)
local macro_rules | `(tactic| walk_at "wx") => `(tactic| with_reducible refine Y.w_intI ?_)
local macro_rules | `(tactic| walk_at "wx") => `(tactic| ((with_reducible refine Z.z_ifY ?_ ?_); (focus (· omega))))
local macro_rules | `(tactic| walk_at "wx") => `(tactic| ((with_reducible show Y.So _ (Y.tgL _ _ _ _)); refine Y.so_set rfl ?_; walk_at "ds"))
local macro_rules | `(tactic| walk_at "wx") => `(tactic| ((with_reducible show Y.So _ (Y.tgT _ _ _ _)); refine Y.so_set rfl ?_; walk_at "ds"))
local macro_rules | `(tactic| walk_at "wx") => `(tactic| with_reducible refine Y.w_truB ?_)
local macro_rules | `(tactic| walk_at "wx") => `(tactic| ((with_reducible show Y.So _ (Y.tgN _ _ _)); refine Y.so_some ?_; walk_at "ds"))
local macro_rules | `(tactic| walk_at "wx") => `(tactic| with_reducible refine Z.z_iT ?_)
local macro_rules | `(tactic| walk_at "wx") => `(tactic| with_reducible refine Z.z_iF ?_)
local macro_rules | `(tactic| walk_at "wx") => `(tactic| ((with_reducible show if decide ((Str.ofString _) = Str.ofString _) = true then _ else _); first | refine Z.z_ifY (by decide +kernel) ?_ | refine Z.z_ifN (by decide +kernel) ?_))
local macro_rules | `(tactic| walk_at "wx") => `(tactic| ((with_reducible refine Z.z_ifN ?_ ?_); (focus (· omega))))
local macro_rules | `(tactic| walk_at "wx") => `(tactic| ((with_reducible show ∃ k c fs, Y.objAt _ _ = some (k, c, fs) ∧ _ ∧ _); first | refine ⟨_, _, _, rfl, ⟨rfl, by first | decide | simp⟩, ?_⟩ | refine ⟨_, _, _, Y.objAt_of (by assumption), ⟨rfl, by first | decide | simp⟩, ?_⟩))
local macro_rules | `(tactic| walk_at "wx") => `(tactic| ((with_reducible show ∃ k fs, Y.objAt _ _ = some (k, _, fs) ∧ _ ∧ _); first | refine ⟨_, _, rfl, rfl, ?_⟩ | refine ⟨_, _, Y.objAt_of (by assumption), rfl, ?_⟩))
local macro_rules | `(tactic| walk_at "wx") => `(tactic| ((with_reducible show ∃ k c fs d, Y.objAt _ _ = some (k, c, fs) ∧ _ ∧ _ ∧ _); first | refine ⟨_, _, _, _, rfl, rfl, rfl, ?_⟩ | refine ⟨_, _, _, _, Y.objAt_of (by assumption), rfl, rfl, ?_⟩))
local macro_rules | `(tactic| walk_at "wx") => `(tactic| with_reducible refine Y.w_blV ?_)
local macro_rules | `(tactic| walk_at "ws") => `(tactic| ((with_reducible show Y.Ws _ _ (Y.mAug _ _ _ _)); refine Y.w_aug rfl ?_))
local macro_rules | `(tactic| walk_at "ws") => `(tactic| with_reducible refine Y.w_augS ?_)
local macro_rules | `(tactic| walk_at "ws") => `(tactic| ((with_reducible show Y.Ws _ _ (Y.mForD _ _ _ _ _)); refine Y.w_forD rfl ?_))
local macro_rules | `(tactic| walk_at "ws") => `(tactic| with_reducible refine Y.w_tryM ?_)
local macro_rules | `(tactic| walk_at "ws") => `(tactic| with_reducible refine Y.w_tryA ?_)
local macro_rules | `(tactic| walk_at "ws") => `(tactic| with_reducible refine Y.w_raiseA ?_)
local macro_rules | `(tactic| walk_at "ws") => `(tactic| with_reducible refine Y.w_raise ?_)
local macro_rules | `(tactic| walk_at "ws") => `(tactic| with_reducible refine Y.w_fldA ?_)
local macro_rules | `(tactic| walk_at "ws") => `(tactic| with_reducible refine Y.w_asgTB ?_)
local macro_rules | `(tactic| walk_at "ws") => `(tactic| with_reducible refine Y.w_forCT ?_)
local macro_rules | `(tactic| walk_at "ws") => `(tactic| with_reducible refine Y.w_forC ?_)
local macro_rules | `(tactic| walk_at "ws") => `(tactic| with_reducible refine Y.w_par ?_)
local macro_rules | `(tactic| walk_at "ws") => `(tactic| with_reducible refine Y.w_asgK ?_)
local macro_rules | `(tactic| walk_at "ws") => `(tactic| with_reducible refine Y.w_retN ?_)
local macro_rules | `(tactic| walk_at "ws") => `(tactic| with_reducible refine Y.w_retN' ?_)
local macro_rules | `(tactic| walk_at "ws") => `(tactic| ((with_reducible show Y.Ws _ _ (Y.asg _ (.slot _) _)); refine Y.w_asgI rfl ?_; walk_at "ds"))
local macro_rules | `(tactic| walk_at "ws") => `(tactic| with_reducible refine Y.w_asgS ?_)
local macro_rules | `(tactic| walk_at "ws") => `(tactic| with_reducible refine Y.w_asgST ?_)
local macro_rules | `(tactic| walk_at "ws") => `(tactic| with_reducible refine Y.w_asgT ?_)
local macro_rules | `(tactic| walk_at "ws") => `(tactic| ((with_reducible show Y.Ws _ _ (Y.ret (.slot _) _)); refine Y.w_retS rfl ?_; walk_at "ds"))
local macro_rules | `(tactic| walk_at "ws") => `(tactic| (with_reducible refine Y.w_asgN ?_; walk_at "ds"))
local macro_rules | `(tactic| walk_at "ws") => `(tactic| with_reducible refine Y.w_for ?_)
local macro_rules | `(tactic| walk_at "ws") => `(tactic| with_reducible refine Y.w_fldS ?_)
local macro_rules | `(tactic| walk_at "ws") => `(tactic| with_reducible refine Y.w_drop ?_)
local macro_rules | `(tactic| walk_at "ws") => `(tactic| (with_reducible refine Y.w_asgV ?_; walk_at "ds"))
local macro_rules | `(tactic| walk_at "ws") => `(tactic| with_reducible refine Y.w_asg ?_)
local macro_rules | `(tactic| walk_at "ws") => `(tactic| with_reducible refine Y.w_retV ?_)
local macro_rules | `(tactic| walk_at "ws") => `(tactic| with_reducible refine Y.w_ret ?_)
local macro_rules | `(tactic| walk_at "ws") => `(tactic| with_reducible refine Y.w_next ?_)
local macro_rules | `(tactic| walk_at "ws") => `(tactic| with_reducible refine Y.w_ifS ?_)
local macro_rules | `(tactic| walk_at "ws") => `(tactic| with_reducible refine Y.w_seq ?_)
local macro_rules | `(tactic| walk_at "wo") => `(tactic| with_reducible refine Y.w_isnB ?_)
local macro_rules | `(tactic| walk_at "wo") => `(tactic| with_reducible refine Y.w_isB ?_)
local macro_rules | `(tactic| walk_at "wo") => `(tactic| with_reducible refine Y.w_ws ?_)
local macro_rules | `(tactic| walk_at "wo") => `(tactic| with_reducible refine Y.w_wt ?_)
local macro_rules | `(tactic| walk_at "wo") => `(tactic| with_reducible refine Y.w_wz ?_)
local macro_rules | `(tactic| walk_at "wo") => `(tactic| with_reducible refine Y.w_rng2 ?_)
local macro_rules | `(tactic| walk_at "wo") => `(tactic| with_reducible refine Y.w_callC ?_)
local macro_rules | `(tactic| walk_at "wo") => `(tactic| with_reducible refine Y.w_callB ?_)
local macro_rules | `(tactic| walk_at "wo") => `(tactic| ((with_reducible show Y.Wo _ _ (Y.mIsX _ _ _)); refine Y.w_isX rfl rfl ?_))
local macro_rules | `(tactic| walk_at "wo") => `(tactic| ((with_reducible show Y.Wo _ _ (Y.mXf _ _ _ _)); refine Y.w_xf rfl rfl rfl ?_))
local macro_rules | `(tactic| walk_at "wo") => `(tactic| with_reducible refine Y.w_callPS ?_)
local macro_rules | `(tactic| walk_at "wo") => `(tactic| with_reducible refine Y.w_callTS ?_)
local macro_rules | `(tactic| walk_at "wo") => `(tactic| with_reducible refine Y.w_callT ?_)
local macro_rules | `(tactic| walk_at "wo") => `(tactic| with_reducible refine Y.w_callP ?_)
local macro_rules | `(tactic| walk_at "wo") => `(tactic| with_reducible refine Y.w_toKS ?_)
local macro_rules | `(tactic| walk_at "wo") => `(tactic| with_reducible refine Y.w_wn ?_)
local macro_rules | `(tactic| walk_at "wo") => `(tactic| with_reducible refine Y.w_get2 ?_)
local macro_rules | `(tactic| walk_at "wo") => `(tactic| with_reducible refine Y.w_minVals ?_)
local macro_rules | `(tactic| walk_at "wo") => `(tactic| with_reducible refine Y.w_sortVals ?_)
local macro_rules | `(tactic| walk_at "wo") => `(tactic| with_reducible refine Y.w_get1 ?_)
local macro_rules | `(tactic| walk_at "wo") => `(tactic| with_reducible refine Y.w_lenTups ?_)
local macro_rules | `(tactic| walk_at "wo") => `(tactic| with_reducible refine Y.w_setT ?_)
local macro_rules | `(tactic| walk_at "wo") => `(tactic| with_reducible refine Y.w_setD ?_)
local macro_rules | `(tactic| walk_at "wo") => `(tactic| with_reducible refine Y.w_kvNil ?_)
local macro_rules | `(tactic| walk_at "wo") => `(tactic| with_reducible refine Y.w_kvCons ?_)
local macro_rules | `(tactic| walk_at "wo") => `(tactic| with_reducible refine Y.w_lcCT ?_)
local macro_rules | `(tactic| walk_at "wo") => `(tactic| with_reducible refine Y.w_lcC ?_)
local macro_rules | `(tactic| walk_at "wo") => `(tactic| with_reducible refine Y.w_popT ?_)
local macro_rules | `(tactic| walk_at "wo") => `(tactic| with_reducible refine Y.w_kvConsK ?_)
local macro_rules | `(tactic| walk_at "wo") => `(tactic| with_reducible refine Y.w_dispT ?_)
local macro_rules | `(tactic| walk_at "wo") => `(tactic| with_reducible refine Y.w_disp ?_)
local macro_rules | `(tactic| walk_at "wo") => `(tactic| with_reducible refine Y.w_lcG ?_)
local macro_rules | `(tactic| walk_at "wo") => `(tactic| with_reducible refine Y.w_dnew ?_)
local macro_rules | `(tactic| walk_at "wo") => `(tactic| with_reducible refine Y.w_pop ?_)
local macro_rules | `(tactic| walk_at "wo") => `(tactic| ((with_reducible show Y.Wo _ _ (Y.mLcO _ _ _ _ _ _)); refine Y.w_lcO rfl ?_; walk_at "ds"))
local macro_rules | `(tactic| walk_at "wo") => `(tactic| ((with_reducible show Y.Wo _ _ (Y.mLcD _ _ _ _ _ _ _)); first | refine Y.w_lcD1 rfl ?_ | (refine Y.w_lcD2 rfl ?_; walk_at "ds")))
local macro_rules | `(tactic| walk_at "wo") => `(tactic| with_reducible refine Y.w_rng3 ?_)
local macro_rules | `(tactic| walk_at "wo") => `(tactic| with_reducible refine Y.w_sidx ?_)
local macro_rules | `(tactic| walk_at "wo") => `(tactic| with_reducible refine Y.w_abs ?_)
local macro_rules | `(tactic| walk_at "wo") => `(tactic| ((with_reducible refine Y.w_mulS ?_ ?_); (focus (· walk_at "sd"))))
local macro_rules | `(tactic| walk_at "wo") => `(tactic| with_reducible refine Y.w_sjoin ?_)
local macro_rules | `(tactic| walk_at "wo") => `(tactic| with_reducible refine Y.w_intB ?_)
local macro_rules | `(tactic| walk_at "wo") => `(tactic| with_reducible refine Y.w_mI ?_)
local macro_rules | `(tactic| walk_at "wo") => `(tactic| with_reducible refine Y.w_ifE ?_)
local macro_rules | `(tactic| walk_at "wo") => `(tactic| ((with_reducible show Y.Wo _ _ (Y.fNe _ (.val (.str _)) (.val (.str _)))); refine Y.w_neS (by decide +kernel) (by decide +kernel) ?_))
local macro_rules | `(tactic| walk_at "wo") => `(tactic| with_reducible refine Y.w_wzs ?_)
local macro_rules | `(tactic| walk_at "wo") => `(tactic| with_reducible refine Y.w_makeS ?_)
local macro_rules | `(tactic| walk_at "wo") => `(tactic| with_reducible refine Y.w_get2T ?_)
local macro_rules | `(tactic| walk_at "wo") => `(tactic| with_reducible refine Y.w_tidx ?_)
local macro_rules | `(tactic| walk_at "wo") => `(tactic| with_reducible refine Y.w_I2 ?_)
local macro_rules | `(tactic| walk_at "wo") => `(tactic| with_reducible refine Y.w_we ?_)
local macro_rules | `(tactic| walk_at "wo") => `(tactic| with_reducible refine Y.w_call ?_)
local macro_rules | `(tactic| walk_at "wo") => `(tactic| with_reducible refine Y.w_get1T ?_)
local macro_rules | `(tactic| walk_at "wo") => `(tactic| with_reducible refine Y.w_dnewT ?_)
local macro_rules | `(tactic| walk_at "wo") => `(tactic| with_reducible refine Y.w_lr1 ?_)
local macro_rules | `(tactic| walk_at "wo") => `(tactic| ((with_reducible show Y.Wo _ _ (Y.fList _ [_])); refine Y.w_list rfl ?_))
local macro_rules | `(tactic| walk_at "wo") => `(tactic| with_reducible refine Y.w_neg ?_)
local macro_rules | `(tactic| walk_at "wo") => `(tactic| with_reducible refine Y.w_un ?_)
local macro_rules | `(tactic| walk_at "wo") => `(tactic| ((with_reducible show Y.Wo _ _ (Y.toV (.slot _) _)); refine Y.w_toVS rfl ?_; walk_at "ds"))
local macro_rules | `(tactic| walk_at "wo") => `(tactic| with_reducible refine Y.w_notV ?_)
local macro_rules | `(tactic| walk_at "wo") => `(tactic| with_reducible refine Y.w_lr2 ?_)
local macro_rules | `(tactic| walk_at "wo") => `(tactic| with_reducible refine Y.w_orV ?_)
local macro_rules | `(tactic| walk_at "wo") => `(tactic| with_reducible refine Y.w_neI ?_)
local macro_rules | `(tactic| walk_at "wo") => `(tactic| ((with_reducible show Y.Wo _ _ (Y.fIsn _ _ (.val .non))); refine Y.w_isnN rfl ?_))
local macro_rules | `(tactic| walk_at "wo") => `(tactic| ((with_reducible show Y.Wo _ _ (Y.fSlT _ _ _ _)); refine Y.w_slTu rfl (by first | decide | (simp only [List.length_cons, List.length_nil]; decide)) ?_))
local macro_rules | `(tactic| walk_at "wo") => `(tactic| with_reducible refine Y.w_slTp ?_)
local macro_rules | `(tactic| walk_at "wo") => `(tactic| with_reducible refine Y.w_makeN ?_)
local macro_rules | `(tactic| walk_at "wo") => `(tactic| ((with_reducible show Y.Wo _ _ (Y.fSl _ _ _ _)); refine Y.w_slL rfl rfl ?_))
local macro_rules | `(tactic| walk_at "wo") => `(tactic| with_reducible refine Y.w_sl ?_)
local macro_rules | `(tactic| walk_at "wo") => `(tactic| with_reducible refine Y.w_chain ?_)
local macro_rules | `(tactic| walk_at "wo") => `(tactic| with_reducible refine Y.w_andV ?_)
local macro_rules | `(tactic| walk_at "wo") => `(tactic| ((with_reducible show Y.Wo _ _ (Y.fIs _ _ (.val .non))); refine Y.w_isN rfl ?_))
local macro_rules | `(tactic| walk_at "wo") => `(tactic| with_reducible refine Y.w_vConsK ?_)
local macro_rules | `(tactic| walk_at "wo") => `(tactic| with_reducible refine Y.w_methS ?_)
local macro_rules | `(tactic| walk_at "wo") => `(tactic| (with_reducible refine Y.w_toVN ?_; dsimp only [Cn.toD]))
local macro_rules | `(tactic| walk_at "wo") => `(tactic| with_reducible refine Y.w_lc ?_)
local macro_rules | `(tactic| walk_at "wo") => `(tactic| with_reducible refine Y.w_rng1 ?_)
local macro_rules | `(tactic| walk_at "wo") => `(tactic| with_reducible refine Y.w_oSm ?_)
local macro_rules | `(tactic| walk_at "wo") => `(tactic| with_reducible refine Y.w_oNo ?_)
local macro_rules | `(tactic| walk_at "wo") => `(tactic| with_reducible refine Y.w_or ?_)
local macro_rules | `(tactic| walk_at "wo") => `(tactic| ((with_reducible refine Y.w_mulI ?_ ?_); (focus (· walk_at "sd"))))
local macro_rules | `(tactic| walk_at "wo") => `(tactic| with_reducible refine Y.w_callN ?_)
local macro_rules | `(tactic| walk_at "wo") => `(tactic| with_reducible refine Y.w_wl ?_)
local macro_rules | `(tactic| walk_at "wo") => `(tactic| with_reducible refine Y.w_not ?_)
local macro_rules | `(tactic| walk_at "wo") => `(tactic| with_reducible refine Y.w_tru ?_)
local macro_rules | `(tactic| walk_at "wo") => `(tactic| with_reducible refine Y.w_bm ?_)
local macro_rules | `(tactic| walk_at "wo") => `(tactic| ((with_reducible refine Y.w_I ?_ ?_); (focus (· walk_at "sd"))))
local macro_rules | `(tactic| walk_at "wo") => `(tactic| ((with_reducible show Y.Wo _ _ (Y.fLen _ [_])); first | refine Y.w_len rfl rfl ?_ | refine Y.w_lenC (by assumption) ?_))
local macro_rules | `(tactic| walk_at "wo") => `(tactic| (with_reducible refine Y.w_toKN ?_; try (dsimp only [List.length_cons, List.length_nil, List.cons_append, List.nil_append, Nat.reduceAdd])))
local macro_rules | `(tactic| walk_at "wo") => `(tactic| with_reducible refine Y.w_eqI ?_)
local macro_rules | `(tactic| walk_at "wo") => `(tactic| with_reducible refine Y.w_addI ?_)
local macro_rules | `(tactic| walk_at "wo") => `(tactic| with_reducible refine Y.w_tup ?_)
local macro_rules | `(tactic| walk_at "wo") => `(tactic| with_reducible refine Y.w_and ?_)
local macro_rules | `(tactic| walk_at "wo") => `(tactic| with_reducible refine Y.w_cb ?_)
local macro_rules | `(tactic| walk_at "wo") => `(tactic| with_reducible refine Y.w_methN ?_)
local macro_rules | `(tactic| walk_at "wo") => `(tactic| with_reducible refine Y.w_lst ?_)
local macro_rules | `(tactic| walk_at "wo") => `(tactic| ((with_reducible show Y.Wo _ _ (Y.fEq _ (.val (.str _)) (.val (.str _)))); refine Y.w_eqS (by decide +kernel) (by decide +kernel) ?_))
local macro_rules | `(tactic| walk_at "wo") => `(tactic| with_reducible refine Y.w_aNil ?_)
local macro_rules | `(tactic| walk_at "wo") => `(tactic| with_reducible refine Y.w_aCons ?_)
local macro_rules | `(tactic| walk_at "wo") => `(tactic| with_reducible refine Y.w_toKV ?_)
local macro_rules | `(tactic| walk_at "wo") => `(tactic| with_reducible refine Y.w_I0 ?_)
local macro_rules | `(tactic| walk_at "wo") => `(tactic| with_reducible refine Y.w_K ?_)
local macro_rules | `(tactic| walk_at "wo") => `(tactic| with_reducible refine Y.w_vNil ?_)
local macro_rules | `(tactic| walk_at "wo") => `(tactic| with_reducible refine Y.w_vCons ?_)
local macro_rules | `(tactic| walk_at "wo") => `(tactic| with_reducible refine Y.w_bl ?_)
local macro_rules | `(tactic| walk_at "wo") => `(tactic| with_reducible refine Y.w_fld ?_)
local macro_rules | `(tactic| walk_at "wo") => `(tactic| with_reducible refine Y.w_toVV ?_)
local macro_rules | `(tactic| walk_at "wo") => `(tactic| with_reducible refine Y.w_V ?_)
local macro_rules | `(tactic| walk_at "wo") => `(tactic| with_reducible refine Y.w_op ?_)
local macro_rules | `(tactic| walk_at "wo") => `(tactic| with_reducible refine Y.w_c ?_)
local macro_rules | `(tactic| walk_at "wo") => `(tactic| ((with_reducible show Y.Wo _ _ (Y.mName _ _)); first | refine Y.w_nameF rfl ?_ | refine Y.w_nameO rfl ?_))
local macro_rules | `(tactic| walk_at "w1") => `(tactic| walk_at "wx")
local macro_rules | `(tactic| walk_at "w1") => `(tactic| ((with_reducible show Y.Ws _ _ _); walk_at "ws"))
local macro_rules | `(tactic| walk_at "w1") => `(tactic| ((with_reducible show Y.Wo _ _ _); walk_at "wo"))
local macro_rules | `(tactic| walk_at "w") => `(tactic| repeat (walk_at "w1"))
local macro_rules | `(tactic| walk_at "dr") => `(tactic| (refine fo_use (next_ok (by assumption) (by first | decide | omega) (by first | decide | omega)) ?_; rintro _ _ ⟨_, rfl, _, _, _⟩; have := Kpt.dr (by assumption); walk_at "w"))
local macro_rules | `(tactic| walk_at "wi") => `(tactic| repeat ((fail_if_success (with_reducible show Y.Ws _ _ (Y.mSeq (Y.mIfS _ _ _) _ _))); walk_at "w1"))
local macro_rules | `(tactic| walk_at "wr") => `(tactic| repeat ((fail_if_success (with_reducible first | refine Y.w_rng1I ?_ ?_ | refine Y.w_rng2I ?_ ?_)); walk_at "w1"))
@[irreducible] noncomputable def b_is_whole : Ms :=
  (mRet (mAndV (mCB fIsi (aCons (mName 0) (aCons (mC (.ty "int")) aNil))) (mNotV (mCB fIsi (aCons (mName 0) (aCons (mC (.ty "bool")) aNil))))))
noncomputable def m_is_whole : Mf := mFn 1 1 b_is_whole
theorem ok_is_whole {P : Program} {w : World} {K : PySem.W.Frag} {mg : Str → Option Value} {base : Heap} (T : Tx K mg) : FnOk P w K mg base CX0 1 T.a_is_whole T.d_is_whole ["thing"] (spM K (ctT T) m_is_whole) :=
  T.F_is_whole.ok sc_is_whole (fun vs H Q E h => sp_len h) (fun cdv A outer s H vs Q E hr h => ⟨_, (pss_one (ps_ret (pe_and (pe_callB (call_isiZ (K := K) rfl) (by rfl) T.z_isinstance (by decide +kernel) (pa_cons (pv 0) (pa_cons (pe_bltn (v := .ty "int") rfl T.z_int (by decide +kernel) rfl) pa_nil))) (pe_one (pe_not (pe_callB (call_isiZ (K := K) rfl) (by rfl) T.z_isinstance (by decide +kernel) (pa_cons (pv 0) (pa_cons (pe_bltn (v := .ty "bool") rfl T.z_bool (by decide +kernel) rfl) pa_nil)))))))),
    fn_run (np := 1) (N := ["thing"]) (body := b_is_whole) (by unfold b_is_whole; exact (sv_ret (ei_andV (ei_cb jb_isi (ea_cons ei_var (ea_cons (ei_c cr_ty) ea_nil))) (ei_notV (ei_cb jb_isi (ea_cons ei_var (ea_cons (ei_c cr_ty) ea_nil))))))) h⟩)
@[irreducible] noncomputable def b_refuse_unless : Ms :=
  (mIfS (mNot (mTru (mName 0))) (mRaise 1) mNext)
noncomputable def m_refuse_unless : Mf := mFn 1 1 b_refuse_unless
theorem ok_refuse_unless {P : Program} {w : World} {K : PySem.W.Frag} {mg : Str → Option Value} {base : Heap} (T : Tx K mg) : FnOk P w K mg base (L2.CX P w) 3 T.a_refuse_unless T.d_refuse_unless ["good"] (spM K (ctT T) m_refuse_unless) :=
  T.F_refuse_unless.okX sc_refuse_unless (fun vs H Q E h => sp_len h) (fun cdv A outer s H vs Q E hr h => ⟨_, (pss_one (ps_if (pt_not (pt_truthZ (K := K) rfl (pv 0) (by intro _; rfl))) (pss_one (ps_raiseZ rfl (takes_of rfl rfl rfl rfl) PySem.F.excBase_ValueError T.x_BadBits T.g_BadBits T.k_BadBits (raises_own T.b_BadBits T.t_BadBits) (by rfl))) pss_nil)),
    fn_run (np := 1) (N := ["good"]) (body := b_refuse_unless) (by unfold b_refuse_unless; exact (sv_if (et_not (et_tru ei_var)) (sv_raise (c := 1)) sv_next)) h⟩)
@[irreducible] noncomputable def b_Reader_init : Ms :=
  (mSeq (mDrop (mCall m_refuse_unless (vCons (mAndV (mCallN m_is_whole (vCons (mName 2) vNil)) (mChain (fI0 fun i j => .bl (decide (i ≤ j))) (fI0 fun i j => .bl (decide (i ≤ j))) (mC (.int 0)) (mName 2) (mCB fLen (aCons (mName 1) aNil)))) vNil)))
  (mSeq (mFldS (fun c => c == 15) "bytes" (mName 0) (mCB fList (aCons (mName 1) aNil)))
  (mFldS (fun c => c == 15) "next" (mName 0) (mOp fMul (mC (.int 8)) (mName 2)))))
noncomputable def m_Reader_init : Mf := mFn 3 3 b_Reader_init
theorem ok_Reader_init {P : Program} {w : World} {K : PySem.W.Frag} {mg : Str → Option Value} {base : Heap} (T : Tx K mg) : FnOk P w K mg base (L2.CX P w) 4 T.a_Reader_init T.d_Reader_init ["self", "row", "at"] (spM K (ctT T) m_Reader_init) :=
  T.F_Reader_init.ok sc_Reader_init (fun vs H Q E h => sp_len h) (fun cdv A outer s H vs Q E hr h => ⟨_, (pss_cons (ps_expr (pe_callS (ok_refuse_unless T) (hr.mono (by decide)) (by rfl) T.g_refuse_unless T.F_refuse_unless.kp T.b_refuse_unless (fun σ => passAt (takes_of rfl rfl rfl rfl) σ) (pa_cons (pe_and (pe_callZ (ok_is_whole T) (hr.mono (by decide)) (by rfl) T.g_is_whole T.F_is_whole.kp T.b_is_whole pass0 (pa_cons (pv 2) pa_nil)) (pe_one (pe_chain op_le op_le pe_int (pv 2) (pe_callB (call_lenY (K := K) rfl) (by rfl) T.z_len PySem.boot_len (pa_cons (pv 1) pa_nil))))) pa_nil)))
      (pss_cons (ps_fldZ (K := K) rfl (pv 0) (pe_callTy (call_listZ (K := K) rfl) (by rfl) T.z_list (by decide +kernel) (pa_cons (pv 1) pa_nil)) rfl)
      (pss_one (ps_fldZ (K := K) rfl (pv 0) (pe_op op_mulZ pe_int (pv 2)) rfl)))),
    fn_run (np := 3) (N := ["self", "row", "at"]) (body := b_Reader_init) (by unfold b_Reader_init; exact (sv_seq (sv_drop (ei_callS (ev_cons (ei_andV (ei_callN (ev_cons ei_var ev_nil)) (ei_chain (j_I0 fun _ _ => cr_bl) (j_I0 fun _ _ => cr_bl) (ei_c cr_int) ei_var (ei_cb jb_len (ea_cons ei_var ea_nil)))) ev_nil)))
      (sv_seq (sv_fld (ok := (fun c => c == 15)) (okc1 ⟨T.cl_Reader, T.n_Reader_bytes⟩) ei_var (ei_cb jb_list (ea_cons ei_var ea_nil)))
      (sv_fld (ok := (fun c => c == 15)) (okc1 ⟨T.cl_Reader, T.n_Reader_next⟩) ei_var (ei_op j_mul (ei_c cr_int) ei_var))))) h⟩)
@[irreducible] noncomputable def b_Reader_left : Ms :=
  (mRet (mOp (fI0 fun i j => .int (i - j)) (mOp fMul (mC (.int 8)) (mCB fLen (aCons (mFld (fun c => c == 15) "bytes" (mName 0)) aNil))) (mFld (fun c => c == 15) "next" (mName 0))))
noncomputable def m_Reader_left : Mf := mFn 1 1 b_Reader_left
theorem ok_Reader_left {P : Program} {w : World} {K : PySem.W.Frag} {mg : Str → Option Value} {base : Heap} (T : Tx K mg) : FnOk P w K mg base CX0 1 T.a_Reader_left T.d_Reader_left ["self"] (spM K (ctT T) m_Reader_left) :=
  T.F_Reader_left.ok sc_Reader_left (fun vs H Q E h => sp_len h) (fun cdv A outer s H vs Q E hr h => ⟨_, (pss_one (ps_ret (pe_op op_sub (pe_op op_mulZ pe_int (pe_callB (call_lenY (K := K) rfl) (by rfl) T.z_len PySem.boot_len (pa_cons (pe_fldZ (K := K) rfl (pv 0) rfl) pa_nil))) (pe_fldZ (K := K) rfl (pv 0) rfl)))),
    fn_run (np := 1) (N := ["self"]) (body := b_Reader_left) (by unfold b_Reader_left; exact (sv_ret (ei_op (j_I0 fun _ _ => cr_int) (ei_op j_mul (ei_c cr_int) (ei_cb jb_len (ea_cons (ei_fld (ok := (fun c => c == 15)) (okc1 ⟨T.cl_Reader, T.n_Reader_bytes⟩) ei_var) ea_nil))) (ei_fld (ok := (fun c => c == 15)) (okc1 ⟨T.cl_Reader, T.n_Reader_next⟩) ei_var)))) h⟩)
@[irreducible] noncomputable def b_Reader_take : Ms :=
  (mSeq (mDrop (mCall m_refuse_unless (vCons (mAndV (mCallN m_is_whole (vCons (mName 1) vNil)) (mAndV (mChain (fI0 fun i j => .bl (decide (i ≤ j))) (fI0 fun i j => .bl (decide (i ≤ j))) (mC (.int 0)) (mName 1) (mC (.int 64))) (mOp (fI0 fun i j => .bl (decide (i ≤ j))) (mName 1) (mMethN 15 "left" m_Reader_left (mName 0) vNil)))) vNil)))
  (mSeq (mAsg 2 (mC (.int 0)))
  (mSeq (mFor (mRng1 (aCons (mName 1) aNil)) (tgN 3) (mSeq (mAsg 2 (mOp fAdd (mOp fMul (mC (.int 2)) (mName 2)) (mOp (fI0 fun i j => .int (Builtin.bitAnd i j)) (mOp (fI (fun _ j => 0 ≤ j) fun i j => .int (i / 2 ^ j.toNat)) (mOp fIxY (mFld (fun c => c == 15) "bytes" (mName 0)) (mOp (fI CDiv fun i j => .int (i / j)) (mFld (fun c => c == 15) "next" (mName 0)) (mC (.int 8)))) (mOp (fI0 fun i j => .int (i - j)) (mC (.int 7)) (mOp (fI (fun _ j => 0 < j) fun i j => .int (i % j)) (mFld (fun c => c == 15) "next" (mName 0)) (mC (.int 8))))) (mC (.int 1)))))
  (mFldA (fun c => c == 15) "next" (fun i j => i + j) (mName 0) (mC (.int 1)))))
  (mRet (mName 2)))))
noncomputable def m_Reader_take : Mf := mFn 2 4 b_Reader_take
theorem ok_Reader_take {P : Program} {w : World} {K : PySem.W.Frag} {mg : Str → Option Value} {base : Heap} (T : Tx K mg) : FnOk P w K mg base (L2.CX P w) 4 T.a_Reader_take T.d_Reader_take ["self", "many"] (spM K (ctT T) m_Reader_take) :=
  T.F_Reader_take.okX sc_Reader_take (fun vs H Q E h => sp_len h) (fun cdv A outer s H vs Q E hr h => ⟨_, (pss_cons (ps_expr (pe_callS (ok_refuse_unless T) (hr.mono (by decide)) (by rfl) T.g_refuse_unless T.F_refuse_unless.kp T.b_refuse_unless (fun σ => passAt (takes_of rfl rfl rfl rfl) σ) (pa_cons (pe_and (pe_callZ (ok_is_whole T) (hr.mono (by decide)) (by rfl) T.g_is_whole T.F_is_whole.kp T.b_is_whole pass0 (pa_cons (pv 1) pa_nil)) (pe_and (pe_chain op_le op_le pe_int (pv 1) (pe_glob rfl T.m_MOST_BITS T.r_MOST_BITS)) (pe_one (pe_cmpR op_le (pv 1) (pe_meth0Z (pv 0) T.cl_Reader T.M_Reader_left (ok_Reader_left T) (hr.mono (by decide)) T.b_Reader_left pass0) (nomark _))))) pa_nil)))
      (pss_cons (ps_set (i := 2) sc_Reader_take.nd rfl (by first | exact Or.inl rfl | exact Or.inr rfl) pe_int)
      (pss_cons (ps_for (passes_of rfl) rfl (pi_range1 rfl T.z_range (pa_cons (pv 1) pa_nil)) (pg_name (i := 3) sc_Reader_take.nd rfl (by first | exact Or.inl rfl | exact Or.inr rfl)) (pss_cons (ps_set (i := 2) sc_Reader_take.nd rfl (by first | exact Or.inl rfl | exact Or.inr rfl) (pe_op (op_addZ (K := K) rfl) (pe_op op_mulZ pe_int (pv 2)) (pe_op op_and (pe_op op_shr (pe_ix (ix_Y (K := K) rfl (hu_of hr)) (pe_fldZ (K := K) rfl (pv 0) rfl) (pe_op op_fdiv (pe_fldZ (K := K) rfl (pv 0) rfl) pe_int) (fun _ _ => rfl)) (pe_op op_sub pe_int (pe_op op_mod (pe_fldZ (K := K) rfl (pv 0) rfl) pe_int))) pe_int)))
      (pss_one (ps_fldaugZ (K := K) rfl (pv 0) pe_int in_add))))
      (pss_one (ps_ret (pv 2)))))),
    fn_run (np := 2) (N := ["self", "many", "found", "k"]) (body := b_Reader_take) (by unfold b_Reader_take; exact (sv_seq (sv_drop (ei_callS (ev_cons (ei_andV (ei_callN (ev_cons ei_var ev_nil)) (ei_andV (ei_chain (j_I0 fun _ _ => cr_bl) (j_I0 fun _ _ => cr_bl) (ei_c cr_int) ei_var (ei_c cr_int)) (ei_op (j_I0 fun _ _ => cr_bl) ei_var (ei_methN (c := 15) ei_var ev_nil)))) ev_nil)))
      (sv_seq (sv_asg (ei_c cr_int))
      (sv_seq (sv_for (jw_rng1 (ea_cons ei_var ea_nil)) sg_name (sv_seq (sv_asg (ei_op j_add (ei_op j_mul (ei_c cr_int) ei_var) (ei_op (j_I0 fun _ _ => cr_int) (ei_op (j_I fun _ _ => cr_int) (ei_op j_ixY (ei_fld (ok := (fun c => c == 15)) (okc1 ⟨T.cl_Reader, T.n_Reader_bytes⟩) ei_var) (ei_op (j_I fun _ _ => cr_int) (ei_fld (ok := (fun c => c == 15)) (okc1 ⟨T.cl_Reader, T.n_Reader_next⟩) ei_var) (ei_c cr_int))) (ei_op (j_I0 fun _ _ => cr_int) (ei_c cr_int) (ei_op (j_I fun _ _ => cr_int) (ei_fld (ok := (fun c => c == 15)) (okc1 ⟨T.cl_Reader, T.n_Reader_next⟩) ei_var) (ei_c cr_int)))) (ei_c cr_int))))
      (sv_fldA (ok := (fun c => c == 15)) (g := (fun i j => i + j)) (okc1 ⟨T.cl_Reader, T.n_Reader_next⟩) ei_var (ei_c cr_int))))
      (sv_ret ei_var))))) h⟩)
@[irreducible] noncomputable def b_Reader_ended : Ms :=
  (mRet (mOp fEq (mMethN 15 "take" m_Reader_take (mName 0) (vCons (mOp (fI (fun _ j => 0 < j) fun i j => .int (i % j)) (mOp (fI0 fun i j => .int (i - j)) (mC (.int 0)) (mFld (fun c => c == 15) "next" (mName 0))) (mC (.int 8))) vNil)) (mC (.int 0))))
noncomputable def m_Reader_ended : Mf := mFn 1 1 b_Reader_ended
theorem ok_Reader_ended {P : Program} {w : World} {K : PySem.W.Frag} {mg : Str → Option Value} {base : Heap} (T : Tx K mg) : FnOk P w K mg base CX0 5 T.a_Reader_ended T.d_Reader_ended ["self"] (spM K (ctT T) m_Reader_ended) :=
  T.F_Reader_ended.ok sc_Reader_ended (fun vs H Q E h => sp_len h) (fun cdv A outer s H vs Q E hr h => ⟨_, (pss_one (ps_ret (pe_cmpR (op_eqZ (K := K) rfl hr.units) (pe_methZ (pv 0) T.cl_Reader T.M_Reader_take (ok_Reader_take T) (hr.mono (by decide)) T.b_Reader_take passL (pa_cons (pe_op op_mod (pe_op op_sub pe_int (pe_fldZ (K := K) rfl (pv 0) rfl)) pe_int) pa_nil)) pe_int (nomark _)))),
    fn_run (np := 1) (N := ["self"]) (body := b_Reader_ended) (by unfold b_Reader_ended; exact (sv_ret (ei_op j_eq (ei_methN (c := 15) ei_var (ev_cons (ei_op (j_I fun _ _ => cr_int) (ei_op (j_I0 fun _ _ => cr_int) (ei_c cr_int) (ei_fld (ok := (fun c => c == 15)) (okc1 ⟨T.cl_Reader, T.n_Reader_next⟩) ei_var)) (ei_c cr_int)) ev_nil)) (ei_c cr_int)))) h⟩)
@[irreducible] noncomputable def b_Reader_place : Ms :=
  (mRet (mOp (fI CDiv fun i j => .int (i / j)) (mOp fAdd (mFld (fun c => c == 15) "next" (mName 0)) (mC (.int 7))) (mC (.int 8))))
noncomputable def m_Reader_place : Mf := mFn 1 1 b_Reader_place
theorem ok_Reader_place {P : Program} {w : World} {K : PySem.W.Frag} {mg : Str → Option Value} {base : Heap} (T : Tx K mg) : FnOk P w K mg base CX0 1 T.a_Reader_place T.d_Reader_place ["self"] (spM K (ctT T) m_Reader_place) :=
  T.F_Reader_place.ok sc_Reader_place (fun vs H Q E h => sp_len h) (fun cdv A outer s H vs Q E hr h => ⟨_, (pss_one (ps_ret (pe_op op_fdiv (pe_op (op_addZ (K := K) rfl) (pe_fldZ (K := K) rfl (pv 0) rfl) pe_int) pe_int))),
    fn_run (np := 1) (N := ["self"]) (body := b_Reader_place) (by unfold b_Reader_place; exact (sv_ret (ei_op (j_I fun _ _ => cr_int) (ei_op j_add (ei_fld (ok := (fun c => c == 15)) (okc1 ⟨T.cl_Reader, T.n_Reader_next⟩) ei_var) (ei_c cr_int)) (ei_c cr_int)))) h⟩)
theorem ok_l_is_refusal {P : Program} {w : World} {K : PySem.W.Frag} {mg : Str → Option Value} {base : Heap} (T : Tx K mg) : FnOk P w K mg base CX0 1 T.a_l_is_refusal T.d_l_is_refusal ["_law_error"] (spR T.C_BadBits) :=
  T.F_l_is_refusal.ok sc_l_is_refusal (fun vs H Q E h => spR_len h) (fun cdv A outer s H vs Q E hr h => ⟨_, (pss_cons (ps_if (PW.pt (pw_or (pt_not (pt_truthZ (K := K) rfl (pe_callB (call_isW (K := K) rfl) (by rfl) T.z_isinstance (by decide +kernel) (pa_cons (pv 0) (pa_cons (pe_glob (v := .ref T.C_BadBits) rfl T.g_BadBits rfl) pa_nil))) (by intro _; rfl))) (pw_or1 (pt_not (pt_truthZ (K := K) rfl (pe_callB (call_isW (K := K) rfl) (by rfl) T.z_isinstance (by decide +kernel) (pa_cons (pv 0) (pa_cons (pe_bltn (v := .ty "ValueError") rfl T.z_ValueError (by decide +kernel) rfl) pa_nil))) (by intro _; rfl)))))) (pss_one (ps_ret pe_bl)) pss_nil)
      (pss_cons (ps_if (pt_truthZ (K := K) rfl (pe_callB (call_isW (K := K) rfl) (by rfl) T.z_isinstance (by decide +kernel) (pa_cons (pv 0) (pa_cons (pe_tup (pa_cons (pe_glob (v := .ref T.C_BadName) rfl T.g_BadName rfl) (pa_cons (pe_glob (v := .ref T.C_BadPaper) rfl T.g_BadPaper rfl) (pa_cons (pe_glob (v := .ref T.C_BadPlace) rfl T.g_BadPlace rfl) (pa_cons (pe_glob (v := .ref T.C_BadSize) rfl T.g_BadSize rfl) (pa_cons (pe_glob (v := .ref T.C_BadTable) rfl T.g_BadTable rfl) (pa_cons (pe_glob (v := .ref T.C_BadText) rfl T.g_BadText rfl) (pa_cons (pe_glob (v := .ref T.C_BadToken) rfl T.g_BadToken rfl) (pa_cons (pe_glob (v := .ref T.C_Full) rfl T.g_Full rfl) pa_nil))))))))) pa_nil))) (by intro _; rfl)) (pss_one (ps_ret pe_bl)) pss_nil)
      (pss_one (ps_ret (pe_not (pe_callB (call_isW (K := K) rfl) (by rfl) T.z_isinstance (by decide +kernel) (pa_cons (pv 0) (pa_cons (pe_tup (pa_cons (pe_glob (v := .ref T.C_HasName) rfl T.g_HasName rfl) (pa_cons (pe_glob (v := .ref T.C_NoContainer) rfl T.g_NoContainer rfl) (pa_cons (pe_glob (v := .ref T.C_NoName) rfl T.g_NoName rfl) (pa_cons (pe_glob (v := .ref T.C_NoRow) rfl T.g_NoRow rfl) pa_nil))))) pa_nil)))))))), by
    obtain ⟨a, rfl, f, q⟩ := h
    dsimp only [tSeq, tIfS, tOr, tNot, tTruZ, tCB, tCons, tVar, tC, tNil, tRet, tNext, tTup, tNotV, rIsW]
    refine ⟨_, rfl, .inl ⟨a, _, _, _, true, rfl, f, T.xc_BadBits, .own _, T.q_BadBits_BadBits, ?_⟩⟩
    refine ⟨true, rfl, ?_⟩
    simp only [Bool.not_true, Bool.false_eq_true, if_false]
    refine ⟨_, rfl, .inl ⟨a, _, _, _, true, rfl, f, T.xc_BadBits, .ty _, T.q_BadBits_ValueError, ?_⟩⟩
    refine ⟨true, rfl, ?_⟩
    simp only [Bool.not_true, Bool.false_eq_true, if_false]
    refine ⟨_, rfl, by show _ ≤ 16777216; simp, fun p1 hp1 => .inr ⟨a, _, p1, _, [.ref T.C_BadName, .ref T.C_BadPaper, .ref T.C_BadPlace, .ref T.C_BadSize, .ref T.C_BadTable, .ref T.C_BadText, .ref T.C_BadToken, .ref T.C_Full], false, rfl, f.upd hp1, T.xc_BadBits, upd_same, (.cons (.own _) (.cons (.own _) (.cons (.own _) (.cons (.own _) (.cons (.own _) (.cons (.own _) (.cons (.own _) (.cons (.own _) .nil)))))))), by simp only [PySem.W.kitAny, T.q_BadBits_BadName, T.q_BadBits_BadPaper, T.q_BadBits_BadPlace, T.q_BadBits_BadSize, T.q_BadBits_BadTable, T.q_BadBits_BadText, T.q_BadBits_BadToken, T.q_BadBits_Full], ?_⟩⟩
    refine ⟨false, rfl, ?_⟩
    simp only [Bool.false_eq_true, if_false]
    replace f := f.upd (o := .tup [.ref T.C_BadName, .ref T.C_BadPaper, .ref T.C_BadPlace, .ref T.C_BadSize, .ref T.C_BadTable, .ref T.C_BadText, .ref T.C_BadToken, .ref T.C_Full]) hp1
    refine ⟨_, rfl, by show _ ≤ 16777216; simp, fun p2 hp2 => .inr ⟨a, _, p2, _, [.ref T.C_HasName, .ref T.C_NoContainer, .ref T.C_NoName, .ref T.C_NoRow], false, rfl, f.upd hp2, T.xc_BadBits, upd_same, (.cons (.own _) (.cons (.own _) (.cons (.own _) (.cons (.own _) .nil)))), by simp only [PySem.W.kitAny, T.q_BadBits_HasName, T.q_BadBits_NoContainer, T.q_BadBits_NoName, T.q_BadBits_NoRow], ?_⟩⟩
    exact ⟨false, rfl, q p1 _ p2 _ hp1 hp2⟩⟩)
@[irreducible] noncomputable def b_l_made_refused : Ms :=
  (mSeq (mAsg 2 (mC .non))
  (mKeep 3 2 (fun n => match n with  | 1 => some true | _ => none) (fun k => k == 1) (mDrop (mMakeS 15 m_Reader_init [] (vCons (mName 0) (vCons (mName 1) vNil))))))
noncomputable def m_l_made_refused : Mf := mFn0 2 4 b_l_made_refused
theorem ok_l_made_refused {P : Program} {w : World} {K : PySem.W.Frag} {mg : Str → Option Value} {base : Heap} (T : Tx K mg) : FnOk P w K mg base CX0 6 T.a_l_made_refused T.d_l_made_refused ["_law_row_here", "_law_at"] (spM K (ctT T) m_l_made_refused) :=
  T.F_l_made_refused.ok sc_l_made_refused (fun vs H Q E h => sp_len0 h) (fun cdv A outer s H vs Q E hr h => ⟨_, (pss_cons (ps_set (i := 2) sc_l_made_refused.nd rfl (by first | exact Or.inl rfl | exact Or.inr rfl) pe_non)
      (pss_cons (ps_keep (K := K) (i := 3) (c := .ref T.C_ShelfError) rfl rfl rfl rfl sc_l_made_refused.nd rfl rfl ⟨rfl, by decide, .inl T.g_ShelfError⟩ takes0 (fun W pn xe tk po => (pss_one (ps_expr (Z.pe_makeS T.K_Reader (ok_Reader_init T) (hr.mono (by decide)) (by rfl) T.g_Reader T.b_Reader_init .nil (fun σ => passAt tk σ) (pa_cons (pv 0) (pa_cons (pv 1) pa_nil)))))) (fun a oe cls d pn hz hf => (pss_one (ps_set (i := 2) sc_l_made_refused.nd rfl (by first | exact Or.inl rfl | exact Or.inr rfl) (pv 3))))) (pss_one (ps_ret (pe_callZ (ok_l_is_refusal T) (hr.mono (by decide)) (by rfl) T.g_l_is_refusal T.F_l_is_refusal.kp T.b_l_is_refusal pass0 (pa_cons (pv 2) pa_nil)))))),
    fn_run0 (np := 2) (N := ["_law_row_here", "_law_at", "_law_error", "e"]) (body := b_l_made_refused) (by unfold b_l_made_refused; exact (sv_seq (sv_asg (ei_c cr_non))
      (sv_keep (cat := (fun n => match n with  | 1 => some true | _ => none)) (tbl := fun k => k == 1) rfl (fun k b hk => by split at hk <;> first | (cases hk; first | exact T.e_BadBits_ShelfError) | cases hk) (fun k hk => by cases (beq_iff_eq.mp hk); rfl) (fun W => (sv_drop (ei_makeS (c := 15) (dds := []) crl_nil (ev_cons ei_var (ev_cons ei_var ev_nil)))))))) h⟩)
@[irreducible] noncomputable def b_l_mixed : Ms :=
  (mSeq (mIfS (mAnd (mBl (mOp (fI0 fun i j => .bl (decide (j ≤ i))) (mName 0) (mOp (fI CShl fun i j => .int (i * 2 ^ j.toNat)) (mC (.int 1)) (mC (.int 90))))) (mAnd (mBl (mOp fEq (mOp (fI (fun _ j => 0 < j) fun i j => .int (i % j)) (mName 0) (mC (.int 2))) (mC (.int 1)))) (mBl (mOp (fI0 fun i j => .bl (decide (j < i))) (mOp (fI (fun _ j => 0 ≤ j) fun i j => .int (i / 2 ^ j.toNat)) (mName 0) (mOp fAdd (mC (.int 1)) (mOp fMul (mC (.int 31)) (mName 1)))) (mC (.int 0)))))) (mRet (mOp (fI (fun _ j => 0 < j) fun i j => .int (i % j)) (mOp (fI (fun _ j => 0 ≤ j) fun i j => .int (i / 2 ^ j.toNat)) (mName 0) (mOp fAdd (mC (.int 1)) (mOp fMul (mC (.int 31)) (mName 1)))) (mC (.int 2147483648)))) mNext)
  (mSeq (mAsg 2 (mOp (fI (fun _ j => 0 < j) fun i j => .int (i % j)) (mOp fMul (mOp fAdd (mOp fAdd (mName 0) (mOp fMul (mC (.int 7919)) (mName 1))) (mC (.int 1))) (mC (.int 48271))) (mC (.int 2147483647))))
  (mSeq (mAsg 2 (mOp (fI (fun _ j => 0 < j) fun i j => .int (i % j)) (mOp fMul (mName 2) (mOp fAdd (mOp (fI CDiv fun i j => .int (i / j)) (mName 2) (mC (.int 1009))) (mC (.int 69621)))) (mC (.int 2147483647))))
  (mRet (mOp (fI (fun _ j => 0 < j) fun i j => .int (i % j)) (mOp fMul (mName 2) (mOp fAdd (mOp fAdd (mOp (fI CDiv fun i j => .int (i / j)) (mName 2) (mC (.int 2003))) (mC (.int 39373))) (mName 1))) (mC (.int 2147483629)))))))
noncomputable def m_l_mixed : Mf := mFn 2 3 b_l_mixed
theorem ok_l_mixed {P : Program} {w : World} {K : PySem.W.Frag} {mg : Str → Option Value} {base : Heap} (T : Tx K mg) : FnOk P w K mg base CX0 1 T.a_l_mixed T.d_l_mixed ["_law_cell", "_law_k"] (spM K (ctT T) m_l_mixed) :=
  T.F_l_mixed.ok sc_l_mixed (fun vs H Q E h => sp_len h) (fun cdv A outer s H vs Q E hr h => ⟨_, (pss_cons (ps_if (PW.pt (pw_and (pt_cmpR op_ge (pv 0) (pe_op op_shlW pe_int pe_int) (nomark _)) (pw_and (pt_cmpR (op_eqZ (K := K) rfl hr.units) (pe_op op_mod (pv 0) pe_int) pe_int (nomark _)) (pw_and1 (pt_cmpR op_gt (pe_op op_shr (pv 0) (pe_op (op_addZ (K := K) rfl) pe_int (pe_op op_mulZ pe_int (pv 1)))) pe_int (nomark _)))))) (pss_one (ps_ret (pe_op op_mod (pe_op op_shr (pv 0) (pe_op (op_addZ (K := K) rfl) pe_int (pe_op op_mulZ pe_int (pv 1)))) pe_int))) pss_nil)
      (pss_cons (ps_set (i := 2) sc_l_mixed.nd rfl (by first | exact Or.inl rfl | exact Or.inr rfl) (pe_op op_mod (pe_op op_mulZ (pe_op (op_addZ (K := K) rfl) (pe_op (op_addZ (K := K) rfl) (pv 0) (pe_op op_mulZ pe_int (pv 1))) pe_int) pe_int) pe_int))
      (pss_cons (ps_set (i := 2) sc_l_mixed.nd rfl (by first | exact Or.inl rfl | exact Or.inr rfl) (pe_op op_mod (pe_op op_mulZ (pv 2) (pe_op (op_addZ (K := K) rfl) (pe_op op_fdiv (pv 2) pe_int) pe_int)) pe_int))
      (pss_one (ps_ret (pe_op op_mod (pe_op op_mulZ (pv 2) (pe_op (op_addZ (K := K) rfl) (pe_op (op_addZ (K := K) rfl) (pe_op op_fdiv (pv 2) pe_int) pe_int) (pv 1))) pe_int)))))),
    fn_run (np := 2) (N := ["_law_cell", "_law_k", "_law_number"]) (body := b_l_mixed) (by unfold b_l_mixed; exact (sv_seq (sv_if (et_and (et_tst (ei_op (j_I0 fun _ _ => cr_bl) ei_var (ei_op (j_I fun _ _ => cr_int) (ei_c cr_int) (ei_c cr_int)))) (et_and (et_tst (ei_op j_eq (ei_op (j_I fun _ _ => cr_int) ei_var (ei_c cr_int)) (ei_c cr_int))) (et_tst (ei_op (j_I0 fun _ _ => cr_bl) (ei_op (j_I fun _ _ => cr_int) ei_var (ei_op j_add (ei_c cr_int) (ei_op j_mul (ei_c cr_int) ei_var))) (ei_c cr_int))))) (sv_ret (ei_op (j_I fun _ _ => cr_int) (ei_op (j_I fun _ _ => cr_int) ei_var (ei_op j_add (ei_c cr_int) (ei_op j_mul (ei_c cr_int) ei_var))) (ei_c cr_int))) sv_next)
      (sv_seq (sv_asg (ei_op (j_I fun _ _ => cr_int) (ei_op j_mul (ei_op j_add (ei_op j_add ei_var (ei_op j_mul (ei_c cr_int) ei_var)) (ei_c cr_int)) (ei_c cr_int)) (ei_c cr_int)))
      (sv_seq (sv_asg (ei_op (j_I fun _ _ => cr_int) (ei_op j_mul ei_var (ei_op j_add (ei_op (j_I fun _ _ => cr_int) ei_var (ei_c cr_int)) (ei_c cr_int))) (ei_c cr_int)))
      (sv_ret (ei_op (j_I fun _ _ => cr_int) (ei_op j_mul ei_var (ei_op j_add (ei_op j_add (ei_op (j_I fun _ _ => cr_int) ei_var (ei_c cr_int)) (ei_c cr_int)) ei_var)) (ei_c cr_int))))))) h⟩)
@[irreducible] noncomputable def b_l_row : Ms :=
  (mSeq (mAsg 2 (mOp (fI (fun _ j => 0 < j) fun i j => .int (i % j)) (mCallN m_l_mixed (vCons (mName 0) (vCons (mC (.int 1)) vNil))) (mOp fAdd (mName 1) (mC (.int 1)))))
  (mSeq (mAsg 3 (mOp (fI (fun _ j => 0 < j) fun i j => .int (i % j)) (mCallN m_l_mixed (vCons (mName 0) (vCons (mC (.int 2)) vNil))) (mC (.int 4))))
  (mSeq (mIfS (mBl (mOp fEq (mName 3) (mC (.int 0)))) (mRet (mLc [4] (mRng1 (aCons (mName 2) aNil)) (tgN 4) mYes (mOp fIxY (mLst (vCons (mC (.int 0)) (vCons (mC (.int 255)) (vCons (mC (.int 165)) (vCons (mC (.int 90)) vNil))))) (mOp (fI (fun _ j => 0 < j) fun i j => .int (i % j)) (mCallN m_l_mixed (vCons (mName 0) (vCons (mOp fAdd (mC (.int 10)) (mName 4)) vNil))) (mC (.int 4)))))) mNext)
  (mSeq (mIfS (mBl (mOp fEq (mName 3) (mC (.int 1)))) (mRet (mOp fMul (mLst (vCons (mOp (fI (fun _ j => 0 < j) fun i j => .int (i % j)) (mCallN m_l_mixed (vCons (mName 0) (vCons (mC (.int 3)) vNil))) (mC (.int 256))) vNil)) (mName 2))) mNext)
  (mRet (mLc [4] (mRng1 (aCons (mName 2) aNil)) (tgN 4) mYes (mOp (fI (fun _ j => 0 < j) fun i j => .int (i % j)) (mCallN m_l_mixed (vCons (mName 0) (vCons (mOp fAdd (mC (.int 10)) (mName 4)) vNil))) (mC (.int 256)))))))))
noncomputable def m_l_row : Mf := mFn 2 5 b_l_row
theorem ok_l_row {P : Program} {w : World} {K : PySem.W.Frag} {mg : Str → Option Value} {base : Heap} (T : Tx K mg) : FnOk P w K mg base CX0 2 T.a_l_row T.d_l_row ["_law_cell", "_law_most"] (spM K (ctT T) m_l_row) :=
  T.F_l_row.ok sc_l_row (fun vs H Q E h => sp_len h) (fun cdv A outer s H vs Q E hr h => ⟨_, (pss_cons (ps_set (i := 2) sc_l_row.nd rfl (by first | exact Or.inl rfl | exact Or.inr rfl) (pe_op op_mod (pe_callZ (ok_l_mixed T) (hr.mono (by decide)) (by rfl) T.g_l_mixed T.F_l_mixed.kp T.b_l_mixed pass0 (pa_cons (pv 0) (pa_cons pe_int pa_nil))) (pe_op (op_addZ (K := K) rfl) (pv 1) pe_int)))
      (pss_cons (ps_set (i := 3) sc_l_row.nd rfl (by first | exact Or.inl rfl | exact Or.inr rfl) (pe_op op_mod (pe_callZ (ok_l_mixed T) (hr.mono (by decide)) (by rfl) T.g_l_mixed T.F_l_mixed.kp T.b_l_mixed pass0 (pa_cons (pv 0) (pa_cons pe_int pa_nil))) pe_int))
      (pss_cons (ps_if (pt_cmpR (op_eqZ (K := K) rfl hr.units) (pv 3) pe_int (nomark _)) (pss_one (ps_ret (pe_lc (own := [("_law_k", 4)]) rfl sc_l_row.nd (pi_range1 rfl T.z_range (pa_cons (pv 2) pa_nil)) (blkOk_by (N := ["_law_cell", "_law_most", "_law_many", "_law_way", "_law_k"]) (sc := defScope s_l_row) (by decide +kernel)) (fun _ _ _ _ _ => (pg_name (i := 4) sc_l_row.nd rfl (by first | exact Or.inl rfl | exact Or.inr rfl))) (fun _ _ _ _ _ => pts_nil) (fun _ _ _ _ _ => (pe_ix (ix_Y (K := K) rfl (hu_of hr)) (pe_lst (pa_cons pe_int (pa_cons pe_int (pa_cons pe_int (pa_cons pe_int pa_nil))))) (pe_op op_mod (pe_callZ (ok_l_mixed T) (hr.mono (by decide)) (by rfl) T.g_l_mixed T.F_l_mixed.kp T.b_l_mixed pass0 (pa_cons (pv 0) (pa_cons (pe_op (op_addZ (K := K) rfl) pe_int (pv 4)) pa_nil))) pe_int) (fun _ _ => rfl)))))) pss_nil)
      (pss_cons (ps_if (pt_cmpR (op_eqZ (K := K) rfl hr.units) (pv 3) pe_int (nomark _)) (pss_one (ps_ret (pe_op op_mulZ (pe_lst (pa_cons (pe_op op_mod (pe_callZ (ok_l_mixed T) (hr.mono (by decide)) (by rfl) T.g_l_mixed T.F_l_mixed.kp T.b_l_mixed pass0 (pa_cons (pv 0) (pa_cons pe_int pa_nil))) pe_int) pa_nil)) (pv 2)))) pss_nil)
      (pss_one (ps_ret (pe_lc (own := [("_law_k", 4)]) rfl sc_l_row.nd (pi_range1 rfl T.z_range (pa_cons (pv 2) pa_nil)) (blkOk_by (N := ["_law_cell", "_law_most", "_law_many", "_law_way", "_law_k"]) (sc := defScope s_l_row) (by decide +kernel)) (fun _ _ _ _ _ => (pg_name (i := 4) sc_l_row.nd rfl (by first | exact Or.inl rfl | exact Or.inr rfl))) (fun _ _ _ _ _ => pts_nil) (fun _ _ _ _ _ => (pe_op op_mod (pe_callZ (ok_l_mixed T) (hr.mono (by decide)) (by rfl) T.g_l_mixed T.F_l_mixed.kp T.b_l_mixed pass0 (pa_cons (pv 0) (pa_cons (pe_op (op_addZ (K := K) rfl) pe_int (pv 4)) pa_nil))) pe_int))))))))),
    fn_run (np := 2) (N := ["_law_cell", "_law_most", "_law_many", "_law_way", "_law_k"]) (body := b_l_row) (by unfold b_l_row; exact (sv_seq (sv_asg (ei_op (j_I fun _ _ => cr_int) (ei_callN (ev_cons ei_var (ev_cons (ei_c cr_int) ev_nil))) (ei_op j_add ei_var (ei_c cr_int))))
      (sv_seq (sv_asg (ei_op (j_I fun _ _ => cr_int) (ei_callN (ev_cons ei_var (ev_cons (ei_c cr_int) ev_nil))) (ei_c cr_int)))
      (sv_seq (sv_if (et_tst (ei_op j_eq ei_var (ei_c cr_int))) (sv_ret (ei_lc (ws := [4]) (jw_rng1 (ea_cons ei_var ea_nil)) sg_name (by decide) et_yes (ei_op j_ixY (ei_lst (ev_cons (ei_c cr_int) (ev_cons (ei_c cr_int) (ev_cons (ei_c cr_int) (ev_cons (ei_c cr_int) ev_nil))))) (ei_op (j_I fun _ _ => cr_int) (ei_callN (ev_cons ei_var (ev_cons (ei_op j_add (ei_c cr_int) ei_var) ev_nil))) (ei_c cr_int))))) sv_next)
      (sv_seq (sv_if (et_tst (ei_op j_eq ei_var (ei_c cr_int))) (sv_ret (ei_op j_mul (ei_lst (ev_cons (ei_op (j_I fun _ _ => cr_int) (ei_callN (ev_cons ei_var (ev_cons (ei_c cr_int) ev_nil))) (ei_c cr_int)) ev_nil)) ei_var)) sv_next)
      (sv_ret (ei_lc (ws := [4]) (jw_rng1 (ea_cons ei_var ea_nil)) sg_name (by decide) et_yes (ei_op (j_I fun _ _ => cr_int) (ei_callN (ev_cons ei_var (ev_cons (ei_op j_add (ei_c cr_int) ei_var) ev_nil))) (ei_c cr_int))))))))) h⟩)
@[irreducible] noncomputable def b_l_take_refused : Ms :=
  (mSeq (mAsg 2 (mC .non))
  (mKeep 3 2 (fun n => match n with  | 1 => some true | _ => none) (fun k => k == 1) (mDrop (mMethS 15 "take" m_Reader_take (mName 0) (vCons (mName 1) vNil)))))
noncomputable def m_l_take_refused : Mf := mFn0 2 4 b_l_take_refused
theorem ok_l_take_refused {P : Program} {w : World} {K : PySem.W.Frag} {mg : Str → Option Value} {base : Heap} (T : Tx K mg) : FnOk P w K mg base CX0 5 T.a_l_take_refused T.d_l_take_refused ["_law_reader", "_law_many"] (spM K (ctT T) m_l_take_refused) :=
  T.F_l_take_refused.ok sc_l_take_refused (fun vs H Q E h => sp_len0 h) (fun cdv A outer s H vs Q E hr h => ⟨_, (pss_cons (ps_set (i := 2) sc_l_take_refused.nd rfl (by first | exact Or.inl rfl | exact Or.inr rfl) pe_non)
      (pss_cons (ps_keep (K := K) (i := 3) (c := .ref T.C_ShelfError) rfl rfl rfl rfl sc_l_take_refused.nd rfl rfl ⟨rfl, by decide, .inl T.g_ShelfError⟩ takes0 (fun W pn xe tk po => (pss_one (ps_expr (Z.pe_methS (pv 0) T.cl_Reader T.M_Reader_take (ok_Reader_take T) (hr.mono (by decide)) T.b_Reader_take (fun σ => passAt tk σ) (pa_cons (pv 1) pa_nil))))) (fun a oe cls d pn hz hf => (pss_one (ps_set (i := 2) sc_l_take_refused.nd rfl (by first | exact Or.inl rfl | exact Or.inr rfl) (pv 3))))) (pss_one (ps_ret (pe_callZ (ok_l_is_refusal T) (hr.mono (by decide)) (by rfl) T.g_l_is_refusal T.F_l_is_refusal.kp T.b_l_is_refusal pass0 (pa_cons (pv 2) pa_nil)))))),
    fn_run0 (np := 2) (N := ["_law_reader", "_law_many", "_law_error", "e"]) (body := b_l_take_refused) (by unfold b_l_take_refused; exact (sv_seq (sv_asg (ei_c cr_non))
      (sv_keep (cat := (fun n => match n with  | 1 => some true | _ => none)) (tbl := fun k => k == 1) rfl (fun k b hk => by split at hk <;> first | (cases hk; first | exact T.e_BadBits_ShelfError) | cases hk) (fun k hk => by cases (beq_iff_eq.mp hk); rfl) (fun W => (sv_drop (ei_methS (c := 15) ei_var (ev_cons ei_var ev_nil))))))) h⟩)
@[irreducible] noncomputable def b_l_reader_right : Ms :=
  (mSeq (mAsg 1 (mOp fAdd (mCallN m_l_row (vCons (mName 0) (vCons (mC (.int 8)) vNil))) (mLst (vCons (mOp (fI (fun _ j => 0 < j) fun i j => .int (i % j)) (mCallN m_l_mixed (vCons (mName 0) (vCons (mC (.int 54)) vNil))) (mC (.int 256))) vNil))))
  (mSeq (mAsg 2 (mMakeN 15 m_Reader_init [D.int 0] (vCons (mName 1) vNil)))
  (mSeq (mAsg 3 (mOp (fI (fun _ j => 0 < j) fun i j => .int (i % j)) (mCallN m_l_mixed (vCons (mName 0) (vCons (mC (.int 55)) vNil))) (mCB (fI2 min) (aCons (mC (.int 60)) (aCons (mOp fMul (mC (.int 8)) (mCB fLen (aCons (mName 1) aNil))) aNil)))))
  (mSeq (mDrop (mMethN 15 "take" m_Reader_take (mName 2) (vCons (mName 3) vNil)))
  (mSeq (mAsg 4 (mOp fAdd (mC (.int 1)) (mCallN m_l_mixed (vCons (mName 0) (vCons (mC (.int 56)) vNil)))))
  (mSeq (mAsg 5 (mTup (vCons (mMethN 15 "left" m_Reader_left (mName 2) vNil) (vCons (mMethN 15 "place" m_Reader_place (mName 2) vNil) vNil))))
  (mSeq (mFor (mWL (mLst (vCons (mUn fNeg (mC (.int 1))) (vCons (mOp (fI0 fun i j => .int (i - j)) (mC (.int 0)) (mName 4)) (vCons (mC (.int 65)) (vCons (mOp fAdd (mC (.int 64)) (mName 4)) (vCons (mOp fAdd (mOp fIxY (mName 5) (mC (.int 0))) (mC (.int 1))) (vCons (mC (.bl true)) (vCons (mC .non) (vCons (mC (.str (Str.ofString "1"))) vNil)))))))))) (tgN 6) (mIfS (mOr (mNot (mTru (mCallN m_l_take_refused (vCons (mName 2) (vCons (mName 6) vNil))))) (mBl (mOp fNe (mTup (vCons (mMethN 15 "left" m_Reader_left (mName 2) vNil) (vCons (mMethN 15 "place" m_Reader_place (mName 2) vNil) vNil))) (mName 5)))) (mRet (mC (.bl false))) mNext))
  (mSeq (mFor (mWL (mLst (vCons (mUn fNeg (mC (.int 1))) (vCons (mOp (fI0 fun i j => .int (i - j)) (mC (.int 0)) (mName 4)) (vCons (mOp fAdd (mCB fLen (aCons (mName 1) aNil)) (mC (.int 1))) (vCons (mOp fAdd (mCB fLen (aCons (mName 1) aNil)) (mName 4)) (vCons (mC (.bl true)) (vCons (mC .non) (vCons (mC (.str (Str.ofString "0"))) vNil))))))))) (tgN 7) (mIfS (mNot (mTru (mCallN m_l_made_refused (vCons (mName 1) (vCons (mName 7) vNil))))) (mRet (mC (.bl false))) mNext))
  (mSeq (mAsg 8 (mMakeN 15 m_Reader_init [D.int 0] (vCons (mName 1) vNil)))
  (mSeq (mDrop (mMethN 15 "take" m_Reader_take (mName 8) (vCons (mName 3) vNil)))
  (mSeq (mAsg 9 (mCB (fI2 min) (aCons (mC (.int 64)) (aCons (mOp fIxY (mName 5) (mC (.int 0))) aNil))))
  (mSeq (mIfS (mOr (mBl (mOp fNe (mMethN 15 "take" m_Reader_take (mName 2) (vCons (mName 9) vNil)) (mMethN 15 "take" m_Reader_take (mName 8) (vCons (mName 9) vNil)))) (mBl (mOp fNe (mMethN 15 "take" m_Reader_take (mName 2) (vCons (mC (.int 0)) vNil)) (mC (.int 0))))) (mRet (mC (.bl false))) mNext)
  (mSeq (mAsg 10 (mMakeN 15 m_Reader_init [] (vCons (mName 1) (vCons (mCB fLen (aCons (mName 1) aNil)) vNil))))
  (mRet (mAndV (mOp fEq (mMethN 15 "left" m_Reader_left (mName 10) vNil) (mC (.int 0))) (mAndV (mOp fEq (mMethN 15 "place" m_Reader_place (mName 10) vNil) (mCB fLen (aCons (mName 1) aNil))) (mAndV (mOp fEq (mMethN 15 "take" m_Reader_take (mName 10) (vCons (mC (.int 0)) vNil)) (mC (.int 0))) (mOp fIs (mMethN 15 "ended" m_Reader_ended (mName 10) vNil) (mC (.bl true))))))))))))))))))))
noncomputable def m_l_reader_right : Mf := mFn 1 11 b_l_reader_right
theorem ok_l_reader_right {P : Program} {w : World} {K : PySem.W.Frag} {mg : Str → Option Value} {base : Heap} (T : Tx K mg) : FnOk P w K mg base CX0 7 T.a_l_reader_right T.d_l_reader_right ["_law_cell"] (spM K (ctT T) m_l_reader_right) :=
  T.F_l_reader_right.ok sc_l_reader_right (fun vs H Q E h => sp_len h) (fun cdv A outer s H vs Q E hr h => ⟨_, (pss_cons (ps_set (i := 1) sc_l_reader_right.nd rfl (by first | exact Or.inl rfl | exact Or.inr rfl) (pe_op (op_addZ (K := K) rfl) (pe_callZ (ok_l_row T) (hr.mono (by decide)) (by rfl) T.g_l_row T.F_l_row.kp T.b_l_row pass0 (pa_cons (pv 0) (pa_cons pe_int pa_nil))) (pe_lst (pa_cons (pe_op op_mod (pe_callZ (ok_l_mixed T) (hr.mono (by decide)) (by rfl) T.g_l_mixed T.F_l_mixed.kp T.b_l_mixed pass0 (pa_cons (pv 0) (pa_cons pe_int pa_nil))) pe_int) pa_nil))))
      (pss_cons (ps_set (i := 2) sc_l_reader_right.nd rfl (by first | exact Or.inl rfl | exact Or.inr rfl) (pe_make T.K_Reader (ok_Reader_init T) (hr.mono (by decide)) (by rfl) T.g_Reader T.b_Reader_init_1 T.v_Reader_init_1 passL (pa_cons (pv 1) pa_nil)))
      (pss_cons (ps_set (i := 3) sc_l_reader_right.nd rfl (by first | exact Or.inl rfl | exact Or.inr rfl) (pe_op op_mod (pe_callZ (ok_l_mixed T) (hr.mono (by decide)) (by rfl) T.g_l_mixed T.F_l_mixed.kp T.b_l_mixed pass0 (pa_cons (pv 0) (pa_cons pe_int pa_nil))) (pe_callB (call_min2Z rfl) (by rfl) T.z_min (by decide +kernel) (pa_cons pe_int (pa_cons (pe_op op_mulZ pe_int (pe_callB (call_lenY (K := K) rfl) (by rfl) T.z_len PySem.boot_len (pa_cons (pv 1) pa_nil))) pa_nil)))))
      (pss_cons (ps_expr (pe_methZ (pv 2) T.cl_Reader T.M_Reader_take (ok_Reader_take T) (hr.mono (by decide)) T.b_Reader_take passL (pa_cons (pv 3) pa_nil)))
      (pss_cons (ps_set (i := 4) sc_l_reader_right.nd rfl (by first | exact Or.inl rfl | exact Or.inr rfl) (pe_op (op_addZ (K := K) rfl) pe_int (pe_callZ (ok_l_mixed T) (hr.mono (by decide)) (by rfl) T.g_l_mixed T.F_l_mixed.kp T.b_l_mixed pass0 (pa_cons (pv 0) (pa_cons pe_int pa_nil)))))
      (pss_cons (ps_set (i := 5) sc_l_reader_right.nd rfl (by first | exact Or.inl rfl | exact Or.inr rfl) (pe_tup (pa_cons (pe_meth0Z (pv 2) T.cl_Reader T.M_Reader_left (ok_Reader_left T) (hr.mono (by decide)) T.b_Reader_left pass0) (pa_cons (pe_meth0Z (pv 2) T.cl_Reader T.M_Reader_place (ok_Reader_place T) (hr.mono (by decide)) T.b_Reader_place pass0) pa_nil))))
      (pss_cons (ps_for PassesOwn.never rfl (pi_listZ (K := K) rfl (pe_lst (pa_cons (pe_un un_neg pe_int) (pa_cons (pe_op op_sub pe_int (pv 4)) (pa_cons pe_int (pa_cons (pe_op (op_addZ (K := K) rfl) pe_int (pv 4)) (pa_cons (pe_op (op_addZ (K := K) rfl) (pe_ix (ix_Y (K := K) rfl (hu_of hr)) (pv 5) pe_int (fun _ _ => rfl)) pe_int) (pa_cons pe_bl (pa_cons pe_non (pa_cons pe_str pa_nil)))))))))) (pg_name (i := 6) sc_l_reader_right.nd rfl (by first | exact Or.inl rfl | exact Or.inr rfl)) (pss_one (ps_if (PW.pt (pw_or (pt_not (pt_truthZ (K := K) rfl (pe_callZ (ok_l_take_refused T) (hr.mono (by decide)) (by rfl) T.g_l_take_refused T.F_l_take_refused.kp T.b_l_take_refused pass0 (pa_cons (pv 2) (pa_cons (pv 6) pa_nil))) (by intro _; rfl))) (pw_or1 (pt_cmpR (op_neZ (K := K) rfl hr.units) (pe_tup (pa_cons (pe_meth0Z (pv 2) T.cl_Reader T.M_Reader_left (ok_Reader_left T) (hr.mono (by decide)) T.b_Reader_left pass0) (pa_cons (pe_meth0Z (pv 2) T.cl_Reader T.M_Reader_place (ok_Reader_place T) (hr.mono (by decide)) T.b_Reader_place pass0) pa_nil))) (pv 5) (nomark _))))) (pss_one (ps_ret pe_bl)) pss_nil)))
      (pss_cons (ps_for PassesOwn.never rfl (pi_listZ (K := K) rfl (pe_lst (pa_cons (pe_un un_neg pe_int) (pa_cons (pe_op op_sub pe_int (pv 4)) (pa_cons (pe_op (op_addZ (K := K) rfl) (pe_callB (call_lenY (K := K) rfl) (by rfl) T.z_len PySem.boot_len (pa_cons (pv 1) pa_nil)) pe_int) (pa_cons (pe_op (op_addZ (K := K) rfl) (pe_callB (call_lenY (K := K) rfl) (by rfl) T.z_len PySem.boot_len (pa_cons (pv 1) pa_nil)) (pv 4)) (pa_cons pe_bl (pa_cons pe_non (pa_cons pe_str pa_nil))))))))) (pg_name (i := 7) sc_l_reader_right.nd rfl (by first | exact Or.inl rfl | exact Or.inr rfl)) (pss_one (ps_if (pt_not (pt_truthZ (K := K) rfl (pe_callZ (ok_l_made_refused T) (hr.mono (by decide)) (by rfl) T.g_l_made_refused T.F_l_made_refused.kp T.b_l_made_refused pass0 (pa_cons (pv 1) (pa_cons (pv 7) pa_nil))) (by intro _; rfl))) (pss_one (ps_ret pe_bl)) pss_nil)))
      (pss_cons (ps_set (i := 8) sc_l_reader_right.nd rfl (by first | exact Or.inl rfl | exact Or.inr rfl) (pe_make T.K_Reader (ok_Reader_init T) (hr.mono (by decide)) (by rfl) T.g_Reader T.b_Reader_init_1 T.v_Reader_init_1 passL (pa_cons (pv 1) pa_nil)))
      (pss_cons (ps_expr (pe_methZ (pv 8) T.cl_Reader T.M_Reader_take (ok_Reader_take T) (hr.mono (by decide)) T.b_Reader_take passL (pa_cons (pv 3) pa_nil)))
      (pss_cons (ps_set (i := 9) sc_l_reader_right.nd rfl (by first | exact Or.inl rfl | exact Or.inr rfl) (pe_callB (call_min2Z rfl) (by rfl) T.z_min (by decide +kernel) (pa_cons pe_int (pa_cons (pe_ix (ix_Y (K := K) rfl (hu_of hr)) (pv 5) pe_int (fun _ _ => rfl)) pa_nil))))
      (pss_cons (ps_if (PW.pt (pw_or (pt_cmpR (op_neZ (K := K) rfl hr.units) (pe_methZ (pv 2) T.cl_Reader T.M_Reader_take (ok_Reader_take T) (hr.mono (by decide)) T.b_Reader_take passL (pa_cons (pv 9) pa_nil)) (pe_methZ (pv 8) T.cl_Reader T.M_Reader_take (ok_Reader_take T) (hr.mono (by decide)) T.b_Reader_take passL (pa_cons (pv 9) pa_nil)) (nomark _)) (pw_or1 (pt_cmpR (op_neZ (K := K) rfl hr.units) (pe_methZ (pv 2) T.cl_Reader T.M_Reader_take (ok_Reader_take T) (hr.mono (by decide)) T.b_Reader_take passL (pa_cons pe_int pa_nil)) pe_int (nomark _))))) (pss_one (ps_ret pe_bl)) pss_nil)
      (pss_cons (ps_set (i := 10) sc_l_reader_right.nd rfl (by first | exact Or.inl rfl | exact Or.inr rfl) (pe_make T.K_Reader (ok_Reader_init T) (hr.mono (by decide)) (by rfl) T.g_Reader T.b_Reader_init .nil passL (pa_cons (pv 1) (pa_cons (pe_callB (call_lenY (K := K) rfl) (by rfl) T.z_len PySem.boot_len (pa_cons (pv 1) pa_nil)) pa_nil))))
      (pss_one (ps_ret (pe_and (pe_cmpR (op_eqZ (K := K) rfl hr.units) (pe_meth0Z (pv 10) T.cl_Reader T.M_Reader_left (ok_Reader_left T) (hr.mono (by decide)) T.b_Reader_left pass0) pe_int (nomark _)) (pe_and (pe_cmpR (op_eqZ (K := K) rfl hr.units) (pe_meth0Z (pv 10) T.cl_Reader T.M_Reader_place (ok_Reader_place T) (hr.mono (by decide)) T.b_Reader_place pass0) (pe_callB (call_lenY (K := K) rfl) (by rfl) T.z_len PySem.boot_len (pa_cons (pv 1) pa_nil)) (nomark _)) (pe_and (pe_cmpR (op_eqZ (K := K) rfl hr.units) (pe_methZ (pv 10) T.cl_Reader T.M_Reader_take (ok_Reader_take T) (hr.mono (by decide)) T.b_Reader_take passL (pa_cons pe_int pa_nil)) pe_int (nomark _)) (pe_one (pe_cmpR op_isZ (pe_meth0Z (pv 10) T.cl_Reader T.M_Reader_ended (ok_Reader_ended T) (hr.mono (by decide)) T.b_Reader_ended pass0) pe_bl (nomark _))))))))))))))))))))),
    fn_run (np := 1) (N := ["_law_cell", "_law_row_here", "_law_reader", "_law_taken", "_law_far", "_law_stood", "_law_many", "_law_at", "_law_other", "_law_rest", "_law_end"]) (body := b_l_reader_right) (by unfold b_l_reader_right; exact (sv_seq (sv_asg (ei_op j_add (ei_callN (ev_cons ei_var (ev_cons (ei_c cr_int) ev_nil))) (ei_lst (ev_cons (ei_op (j_I fun _ _ => cr_int) (ei_callN (ev_cons ei_var (ev_cons (ei_c cr_int) ev_nil))) (ei_c cr_int)) ev_nil))))
      (sv_seq (sv_asg (ei_makeN (c := 15) (dds := [D.int 0]) (crl_cons cr_int crl_nil) (ev_cons ei_var ev_nil)))
      (sv_seq (sv_asg (ei_op (j_I fun _ _ => cr_int) (ei_callN (ev_cons ei_var (ev_cons (ei_c cr_int) ev_nil))) (ei_cb jb_min2 (ea_cons (ei_c cr_int) (ea_cons (ei_op j_mul (ei_c cr_int) (ei_cb jb_len (ea_cons ei_var ea_nil))) ea_nil)))))
      (sv_seq (sv_drop (ei_methN (c := 15) ei_var (ev_cons ei_var ev_nil)))
      (sv_seq (sv_asg (ei_op j_add (ei_c cr_int) (ei_callN (ev_cons ei_var (ev_cons (ei_c cr_int) ev_nil)))))
      (sv_seq (sv_asg (ei_tup (ev_cons (ei_methN (c := 15) ei_var ev_nil) (ev_cons (ei_methN (c := 15) ei_var ev_nil) ev_nil))))
      (sv_seq (sv_for (jw_list (ei_lst (ev_cons (ei_un j_neg (ei_c cr_int)) (ev_cons (ei_op (j_I0 fun _ _ => cr_int) (ei_c cr_int) ei_var) (ev_cons (ei_c cr_int) (ev_cons (ei_op j_add (ei_c cr_int) ei_var) (ev_cons (ei_op j_add (ei_op j_ixY ei_var (ei_c cr_int)) (ei_c cr_int)) (ev_cons (ei_c cr_bl) (ev_cons (ei_c cr_non) (ev_cons (ei_c cr_str) ev_nil)))))))))) sg_name (sv_if (et_or (et_not (et_tru (ei_callN (ev_cons ei_var (ev_cons ei_var ev_nil))))) (et_tst (ei_op j_ne (ei_tup (ev_cons (ei_methN (c := 15) ei_var ev_nil) (ev_cons (ei_methN (c := 15) ei_var ev_nil) ev_nil))) ei_var))) (sv_ret (ei_c cr_bl)) sv_next))
      (sv_seq (sv_for (jw_list (ei_lst (ev_cons (ei_un j_neg (ei_c cr_int)) (ev_cons (ei_op (j_I0 fun _ _ => cr_int) (ei_c cr_int) ei_var) (ev_cons (ei_op j_add (ei_cb jb_len (ea_cons ei_var ea_nil)) (ei_c cr_int)) (ev_cons (ei_op j_add (ei_cb jb_len (ea_cons ei_var ea_nil)) ei_var) (ev_cons (ei_c cr_bl) (ev_cons (ei_c cr_non) (ev_cons (ei_c cr_str) ev_nil))))))))) sg_name (sv_if (et_not (et_tru (ei_callN (ev_cons ei_var (ev_cons ei_var ev_nil))))) (sv_ret (ei_c cr_bl)) sv_next))
      (sv_seq (sv_asg (ei_makeN (c := 15) (dds := [D.int 0]) (crl_cons cr_int crl_nil) (ev_cons ei_var ev_nil)))
      (sv_seq (sv_drop (ei_methN (c := 15) ei_var (ev_cons ei_var ev_nil)))
      (sv_seq (sv_asg (ei_cb jb_min2 (ea_cons (ei_c cr_int) (ea_cons (ei_op j_ixY ei_var (ei_c cr_int)) ea_nil))))
      (sv_seq (sv_if (et_or (et_tst (ei_op j_ne (ei_methN (c := 15) ei_var (ev_cons ei_var ev_nil)) (ei_methN (c := 15) ei_var (ev_cons ei_var ev_nil)))) (et_tst (ei_op j_ne (ei_methN (c := 15) ei_var (ev_cons (ei_c cr_int) ev_nil)) (ei_c cr_int)))) (sv_ret (ei_c cr_bl)) sv_next)
      (sv_seq (sv_asg (ei_makeN (c := 15) (dds := []) crl_nil (ev_cons ei_var (ev_cons (ei_cb jb_len (ea_cons ei_var ea_nil)) ev_nil))))
      (sv_ret (ei_andV (ei_op j_eq (ei_methN (c := 15) ei_var ev_nil) (ei_c cr_int)) (ei_andV (ei_op j_eq (ei_methN (c := 15) ei_var ev_nil) (ei_cb jb_len (ea_cons ei_var ea_nil))) (ei_andV (ei_op j_eq (ei_methN (c := 15) ei_var (ev_cons (ei_c cr_int) ev_nil)) (ei_c cr_int)) (ei_op j_is (ei_methN (c := 15) ei_var ev_nil) (ei_c cr_bl)))))))))))))))))))) h⟩)
@[irreducible] noncomputable def b_Writer_init : Ms :=
  (mSeq (mFldS (fun c => c == 14) "full" (mName 0) (mLst vNil))
  (mSeq (mFldS (fun c => c == 14) "begun" (mName 0) (mC (.int 0)))
  (mFldS (fun c => c == 14) "many" (mName 0) (mC (.int 0)))))
noncomputable def m_Writer_init : Mf := mFn 1 1 b_Writer_init
theorem ok_Writer_init {P : Program} {w : World} {K : PySem.W.Frag} {mg : Str → Option Value} {base : Heap} (T : Tx K mg) : FnOk P w K mg base CX0 1 T.a_Writer_init T.d_Writer_init ["self"] (spM K (ctT T) m_Writer_init) :=
  T.F_Writer_init.ok sc_Writer_init (fun vs H Q E h => sp_len h) (fun cdv A outer s H vs Q E hr h => ⟨_, (pss_cons (ps_fldZ (K := K) rfl (pv 0) (pe_lst pa_nil) rfl)
      (pss_cons (ps_fldZ (K := K) rfl (pv 0) pe_int rfl)
      (pss_one (ps_fldZ (K := K) rfl (pv 0) pe_int rfl)))),
    fn_run (np := 1) (N := ["self"]) (body := b_Writer_init) (by unfold b_Writer_init; exact (sv_seq (sv_fld (ok := (fun c => c == 14)) (okc1 ⟨T.cl_Writer, T.n_Writer_full⟩) ei_var (ei_lst ev_nil))
      (sv_seq (sv_fld (ok := (fun c => c == 14)) (okc1 ⟨T.cl_Writer, T.n_Writer_begun⟩) ei_var (ei_c cr_int))
      (sv_fld (ok := (fun c => c == 14)) (okc1 ⟨T.cl_Writer, T.n_Writer_many⟩) ei_var (ei_c cr_int))))) h⟩)
@[irreducible] noncomputable def b_Writer_bits : Ms :=
  (mRet (mFld (fun c => c == 14) "many" (mName 0)))
noncomputable def m_Writer_bits : Mf := mFn 1 1 b_Writer_bits
theorem ok_Writer_bits {P : Program} {w : World} {K : PySem.W.Frag} {mg : Str → Option Value} {base : Heap} (T : Tx K mg) : FnOk P w K mg base CX0 1 T.a_Writer_bits T.d_Writer_bits ["self"] (spM K (ctT T) m_Writer_bits) :=
  T.F_Writer_bits.ok sc_Writer_bits (fun vs H Q E h => sp_len h) (fun cdv A outer s H vs Q E hr h => ⟨_, (pss_one (ps_ret (pe_fldZ (K := K) rfl (pv 0) rfl))),
    fn_run (np := 1) (N := ["self"]) (body := b_Writer_bits) (by unfold b_Writer_bits; exact (sv_ret (ei_fld (ok := (fun c => c == 14)) (okc1 ⟨T.cl_Writer, T.n_Writer_many⟩) ei_var))) h⟩)
@[irreducible] noncomputable def b_Writer_put : Ms :=
  (mSeq (mDrop (mCall m_refuse_unless (vCons (mAndV (mCallN m_is_whole (vCons (mName 2) vNil)) (mChain (fI0 fun i j => .bl (decide (i ≤ j))) (fI0 fun i j => .bl (decide (i ≤ j))) (mC (.int 0)) (mName 2) (mC (.int 64)))) vNil)))
  (mSeq (mDrop (mCall m_refuse_unless (vCons (mAndV (mCallN m_is_whole (vCons (mName 1) vNil)) (mChain (fI0 fun i j => .bl (decide (i ≤ j))) (fI0 fun i j => .bl (decide (i < j))) (mC (.int 0)) (mName 1) (mOp (fI CShl fun i j => .int (i * 2 ^ j.toNat)) (mC (.int 1)) (mName 2)))) vNil)))
  (mFor (mRng3 (aCons (mOp (fI0 fun i j => .int (i - j)) (mName 2) (mC (.int 1))) (aCons (mUn fNeg (mC (.int 1))) (aCons (mUn fNeg (mC (.int 1))) aNil)))) (tgN 3) (mSeq (mFldS (fun c => c == 14) "begun" (mName 0) (mOp fAdd (mOp fMul (mC (.int 2)) (mFld (fun c => c == 14) "begun" (mName 0))) (mOp (fI0 fun i j => .int (Builtin.bitAnd i j)) (mOp (fI (fun _ j => 0 ≤ j) fun i j => .int (i / 2 ^ j.toNat)) (mName 1) (mName 3)) (mC (.int 1)))))
  (mSeq (mFldA (fun c => c == 14) "many" (fun i j => i + j) (mName 0) (mC (.int 1)))
  (mIfS (mBl (mOp fEq (mOp (fI (fun _ j => 0 < j) fun i j => .int (i % j)) (mFld (fun c => c == 14) "many" (mName 0)) (mC (.int 8))) (mC (.int 0)))) (mSeq (mDrop (mBM fApp (mFld (fun c => c == 14) "full" (mName 0)) (vCons (mFld (fun c => c == 14) "begun" (mName 0)) vNil)))
  (mFldS (fun c => c == 14) "begun" (mName 0) (mC (.int 0)))) mNext))))))
noncomputable def m_Writer_put : Mf := mFn 3 4 b_Writer_put
theorem ok_Writer_put {P : Program} {w : World} {K : PySem.W.Frag} {mg : Str → Option Value} {base : Heap} (T : Tx K mg) : FnOk P w K mg base (L2.CX P w) 4 T.a_Writer_put T.d_Writer_put ["self", "number", "many"] (spM K (ctT T) m_Writer_put) :=
  T.F_Writer_put.okX sc_Writer_put (fun vs H Q E h => sp_len h) (fun cdv A outer s H vs Q E hr h => ⟨_, (pss_cons (ps_expr (pe_callS (ok_refuse_unless T) (hr.mono (by decide)) (by rfl) T.g_refuse_unless T.F_refuse_unless.kp T.b_refuse_unless (fun σ => passAt (takes_of rfl rfl rfl rfl) σ) (pa_cons (pe_and (pe_callZ (ok_is_whole T) (hr.mono (by decide)) (by rfl) T.g_is_whole T.F_is_whole.kp T.b_is_whole pass0 (pa_cons (pv 2) pa_nil)) (pe_one (pe_chain op_le op_le pe_int (pv 2) (pe_glob rfl T.m_MOST_BITS T.r_MOST_BITS)))) pa_nil)))
      (pss_cons (ps_expr (pe_callS (ok_refuse_unless T) (hr.mono (by decide)) (by rfl) T.g_refuse_unless T.F_refuse_unless.kp T.b_refuse_unless (fun σ => passAt (takes_of rfl rfl rfl rfl) σ) (pa_cons (pe_and (pe_callZ (ok_is_whole T) (hr.mono (by decide)) (by rfl) T.g_is_whole T.F_is_whole.kp T.b_is_whole pass0 (pa_cons (pv 1) pa_nil)) (pe_one (pe_chain op_le op_lt pe_int (pv 1) (pe_op op_shlW pe_int (pv 2))))) pa_nil)))
      (pss_one (ps_for (passes_of rfl) rfl (pi_range3 rfl T.z_range (pa_cons (pe_op op_sub (pv 2) pe_int) (pa_cons (pe_un un_neg pe_int) (pa_cons (pe_un un_neg pe_int) pa_nil)))) (pg_name (i := 3) sc_Writer_put.nd rfl (by first | exact Or.inl rfl | exact Or.inr rfl)) (pss_cons (ps_fldZ (K := K) rfl (pv 0) (pe_op (op_addZ (K := K) rfl) (pe_op op_mulZ pe_int (pe_fldZ (K := K) rfl (pv 0) rfl)) (pe_op op_and (pe_op op_shr (pv 1) (pv 3)) pe_int)) rfl)
      (pss_cons (ps_fldaugZ (K := K) rfl (pv 0) pe_int in_add)
      (pss_one (ps_if (pt_cmpR (op_eqZ (K := K) rfl hr.units) (pe_op op_mod (pe_fldZ (K := K) rfl (pv 0) rfl) pe_int) pe_int (nomark _)) (pss_cons (ps_expr (pe_bmZ (K := K) rfl PySem.F.plainAttrs_list PySem.F.slot_list_append PySem.F.type_list_append mt_append (pe_fldZ (K := K) rfl (pv 0) rfl) (pa_cons (pe_fldZ (K := K) rfl (pv 0) rfl) pa_nil)))
      (pss_one (ps_fldZ (K := K) rfl (pv 0) pe_int rfl))) pss_nil)))))))),
    fn_run (np := 3) (N := ["self", "number", "many", "k"]) (body := b_Writer_put) (by unfold b_Writer_put; exact (sv_seq (sv_drop (ei_callS (ev_cons (ei_andV (ei_callN (ev_cons ei_var ev_nil)) (ei_chain (j_I0 fun _ _ => cr_bl) (j_I0 fun _ _ => cr_bl) (ei_c cr_int) ei_var (ei_c cr_int))) ev_nil)))
      (sv_seq (sv_drop (ei_callS (ev_cons (ei_andV (ei_callN (ev_cons ei_var ev_nil)) (ei_chain (j_I0 fun _ _ => cr_bl) (j_I0 fun _ _ => cr_bl) (ei_c cr_int) ei_var (ei_op (j_I fun _ _ => cr_int) (ei_c cr_int) ei_var))) ev_nil)))
      (sv_for (jw_rng3 (ea_cons (ei_op (j_I0 fun _ _ => cr_int) ei_var (ei_c cr_int)) (ea_cons (ei_un j_neg (ei_c cr_int)) (ea_cons (ei_un j_neg (ei_c cr_int)) ea_nil)))) sg_name (sv_seq (sv_fld (ok := (fun c => c == 14)) (okc1 ⟨T.cl_Writer, T.n_Writer_begun⟩) ei_var (ei_op j_add (ei_op j_mul (ei_c cr_int) (ei_fld (ok := (fun c => c == 14)) (okc1 ⟨T.cl_Writer, T.n_Writer_begun⟩) ei_var)) (ei_op (j_I0 fun _ _ => cr_int) (ei_op (j_I fun _ _ => cr_int) ei_var ei_var) (ei_c cr_int))))
      (sv_seq (sv_fldA (ok := (fun c => c == 14)) (g := (fun i j => i + j)) (okc1 ⟨T.cl_Writer, T.n_Writer_many⟩) ei_var (ei_c cr_int))
      (sv_if (et_tst (ei_op j_eq (ei_op (j_I fun _ _ => cr_int) (ei_fld (ok := (fun c => c == 14)) (okc1 ⟨T.cl_Writer, T.n_Writer_many⟩) ei_var) (ei_c cr_int)) (ei_c cr_int))) (sv_seq (sv_drop (ei_bm jm_app (ei_fld (ok := (fun c => c == 14)) (okc1 ⟨T.cl_Writer, T.n_Writer_full⟩) ei_var) (ev_cons (ei_fld (ok := (fun c => c == 14)) (okc1 ⟨T.cl_Writer, T.n_Writer_begun⟩) ei_var) ev_nil)))
      (sv_fld (ok := (fun c => c == 14)) (okc1 ⟨T.cl_Writer, T.n_Writer_begun⟩) ei_var (ei_c cr_int))) sv_next))))))) h⟩)
@[irreducible] noncomputable def b_Writer_row : Ms :=
  (mSeq (mAsg 1 (mOp (fI (fun _ j => 0 < j) fun i j => .int (i % j)) (mFld (fun c => c == 14) "many" (mName 0)) (mC (.int 8))))
  (mSeq (mIfS (mBl (mOp fEq (mName 1) (mC (.int 0)))) (mRet (mCB fList (aCons (mFld (fun c => c == 14) "full" (mName 0)) aNil))) mNext)
  (mRet (mOp fAdd (mFld (fun c => c == 14) "full" (mName 0)) (mLst (vCons (mOp (fI CShl fun i j => .int (i * 2 ^ j.toNat)) (mFld (fun c => c == 14) "begun" (mName 0)) (mOp (fI0 fun i j => .int (i - j)) (mC (.int 8)) (mName 1))) vNil))))))
noncomputable def m_Writer_row : Mf := mFn 1 2 b_Writer_row
theorem ok_Writer_row {P : Program} {w : World} {K : PySem.W.Frag} {mg : Str → Option Value} {base : Heap} (T : Tx K mg) : FnOk P w K mg base CX0 1 T.a_Writer_row T.d_Writer_row ["self"] (spM K (ctT T) m_Writer_row) :=
  T.F_Writer_row.ok sc_Writer_row (fun vs H Q E h => sp_len h) (fun cdv A outer s H vs Q E hr h => ⟨_, (pss_cons (ps_set (i := 1) sc_Writer_row.nd rfl (by first | exact Or.inl rfl | exact Or.inr rfl) (pe_op op_mod (pe_fldZ (K := K) rfl (pv 0) rfl) pe_int))
      (pss_cons (ps_if (pt_cmpR (op_eqZ (K := K) rfl hr.units) (pv 1) pe_int (nomark _)) (pss_one (ps_ret (pe_callTy (call_listZ (K := K) rfl) (by rfl) T.z_list (by decide +kernel) (pa_cons (pe_fldZ (K := K) rfl (pv 0) rfl) pa_nil)))) pss_nil)
      (pss_one (ps_ret (pe_op (op_addZ (K := K) rfl) (pe_fldZ (K := K) rfl (pv 0) rfl) (pe_lst (pa_cons (pe_op op_shlW (pe_fldZ (K := K) rfl (pv 0) rfl) (pe_op op_sub pe_int (pv 1))) pa_nil))))))),
    fn_run (np := 1) (N := ["self", "rest"]) (body := b_Writer_row) (by unfold b_Writer_row; exact (sv_seq (sv_asg (ei_op (j_I fun _ _ => cr_int) (ei_fld (ok := (fun c => c == 14)) (okc1 ⟨T.cl_Writer, T.n_Writer_many⟩) ei_var) (ei_c cr_int)))
      (sv_seq (sv_if (et_tst (ei_op j_eq ei_var (ei_c cr_int))) (sv_ret (ei_cb jb_list (ea_cons (ei_fld (ok := (fun c => c == 14)) (okc1 ⟨T.cl_Writer, T.n_Writer_full⟩) ei_var) ea_nil))) sv_next)
      (sv_ret (ei_op j_add (ei_fld (ok := (fun c => c == 14)) (okc1 ⟨T.cl_Writer, T.n_Writer_full⟩) ei_var) (ei_lst (ev_cons (ei_op (j_I fun _ _ => cr_int) (ei_fld (ok := (fun c => c == 14)) (okc1 ⟨T.cl_Writer, T.n_Writer_begun⟩) ei_var) (ei_op (j_I0 fun _ _ => cr_int) (ei_c cr_int) ei_var)) ev_nil))))))) h⟩)
@[irreducible] noncomputable def b_l_put_refused : Ms :=
  (mSeq (mAsg 3 (mC .non))
  (mKeep 4 3 (fun n => match n with  | 1 => some true | _ => none) (fun k => k == 1) (mDrop (mMethS 14 "put" m_Writer_put (mName 0) (vCons (mName 1) (vCons (mName 2) vNil))))))
noncomputable def m_l_put_refused : Mf := mFn0 3 5 b_l_put_refused
theorem ok_l_put_refused {P : Program} {w : World} {K : PySem.W.Frag} {mg : Str → Option Value} {base : Heap} (T : Tx K mg) : FnOk P w K mg base CX0 5 T.a_l_put_refused T.d_l_put_refused ["_law_writer", "_law_number", "_law_many"] (spM K (ctT T) m_l_put_refused) :=
  T.F_l_put_refused.ok sc_l_put_refused (fun vs H Q E h => sp_len0 h) (fun cdv A outer s H vs Q E hr h => ⟨_, (pss_cons (ps_set (i := 3) sc_l_put_refused.nd rfl (by first | exact Or.inl rfl | exact Or.inr rfl) pe_non)
      (pss_cons (ps_keep (K := K) (i := 4) (c := .ref T.C_ShelfError) rfl rfl rfl rfl sc_l_put_refused.nd rfl rfl ⟨rfl, by decide, .inl T.g_ShelfError⟩ takes0 (fun W pn xe tk po => (pss_one (ps_expr (Z.pe_methS (pv 0) T.cl_Writer T.M_Writer_put (ok_Writer_put T) (hr.mono (by decide)) T.b_Writer_put (fun σ => passAt tk σ) (pa_cons (pv 1) (pa_cons (pv 2) pa_nil)))))) (fun a oe cls d pn hz hf => (pss_one (ps_set (i := 3) sc_l_put_refused.nd rfl (by first | exact Or.inl rfl | exact Or.inr rfl) (pv 4))))) (pss_one (ps_ret (pe_callZ (ok_l_is_refusal T) (hr.mono (by decide)) (by rfl) T.g_l_is_refusal T.F_l_is_refusal.kp T.b_l_is_refusal pass0 (pa_cons (pv 3) pa_nil)))))),
    fn_run0 (np := 3) (N := ["_law_writer", "_law_number", "_law_many", "_law_error", "e"]) (body := b_l_put_refused) (by unfold b_l_put_refused; exact (sv_seq (sv_asg (ei_c cr_non))
      (sv_keep (cat := (fun n => match n with  | 1 => some true | _ => none)) (tbl := fun k => k == 1) rfl (fun k b hk => by split at hk <;> first | (cases hk; first | exact T.e_BadBits_ShelfError) | cases hk) (fun k hk => by cases (beq_iff_eq.mp hk); rfl) (fun W => (sv_drop (ei_methS (c := 14) ei_var (ev_cons ei_var (ev_cons ei_var ev_nil)))))))) h⟩)
@[irreducible] noncomputable def b_l_writer_right : Ms :=
  (mSeq (mAsg 1 (mMakeN 14 m_Writer_init [] vNil))
  (mSeq (mDrop (mMethN 14 "put" m_Writer_put (mName 1) (vCons (mOp (fI (fun _ j => 0 < j) fun i j => .int (i % j)) (mCallN m_l_mixed (vCons (mName 0) (vCons (mC (.int 50)) vNil))) (mC (.int 8192))) (vCons (mC (.int 13)) vNil))))
  (mSeq (mDrop (mMethN 14 "put" m_Writer_put (mName 1) (vCons (mC (.int 0)) (vCons (mOp (fI (fun _ j => 0 < j) fun i j => .int (i % j)) (mCallN m_l_mixed (vCons (mName 0) (vCons (mC (.int 51)) vNil))) (mC (.int 9))) vNil))))
  (mSeq (mAsg 2 (mTup (vCons (mMethN 14 "bits" m_Writer_bits (mName 1) vNil) (vCons (mMethN 14 "row" m_Writer_row (mName 1) vNil) vNil))))
  (mSeq (mAsg 3 (mOp (fI (fun _ j => 0 < j) fun i j => .int (i % j)) (mCallN m_l_mixed (vCons (mName 0) (vCons (mC (.int 52)) vNil))) (mC (.int 65))))
  (mSeq (mAsg 4 (mOp fAdd (mC (.int 1)) (mCallN m_l_mixed (vCons (mName 0) (vCons (mC (.int 53)) vNil)))))
  (mSeq (mAsg 5 (mLst (vCons (mTup (vCons (mOp (fI CShl fun i j => .int (i * 2 ^ j.toNat)) (mC (.int 1)) (mName 3)) (vCons (mName 3) vNil))) (vCons (mTup (vCons (mOp fAdd (mOp (fI CShl fun i j => .int (i * 2 ^ j.toNat)) (mC (.int 1)) (mName 3)) (mName 4)) (vCons (mName 3) vNil))) (vCons (mTup (vCons (mUn fNeg (mC (.int 1))) (vCons (mName 3) vNil))) (vCons (mTup (vCons (mOp (fI0 fun i j => .int (i - j)) (mC (.int 0)) (mName 4)) (vCons (mName 3) vNil))) (vCons (mTup (vCons (mC (.int 0)) (vCons (mUn fNeg (mC (.int 1))) vNil))) (vCons (mTup (vCons (mC (.int 0)) (vCons (mOp (fI0 fun i j => .int (i - j)) (mC (.int 0)) (mName 4)) vNil))) (vCons (mTup (vCons (mC (.int 0)) (vCons (mC (.int 65)) vNil))) vNil)))))))))
  (mSeq (mAsg 5 (mOp fAdd (mName 5) (mLst (vCons (mTup (vCons (mC (.int 1)) (vCons (mOp fAdd (mC (.int 64)) (mName 4)) vNil))) (vCons (mTup (vCons (mC (.bl true)) (vCons (mC (.int 3)) vNil))) (vCons (mTup (vCons (mC .non) (vCons (mC (.int 3)) vNil))) (vCons (mTup (vCons (mC (.str (Str.ofString "1"))) (vCons (mC (.int 3)) vNil))) (vCons (mTup (vCons (mC (.int 1)) (vCons (mC (.bl true)) vNil))) (vCons (mTup (vCons (mC (.int 1)) (vCons (mC .non) vNil))) (vCons (mTup (vCons (mC (.int 1)) (vCons (mC (.str (Str.ofString "3"))) vNil))) vNil))))))))))
  (mSeq (mFor (mWL (mName 5)) (tgT 2 (tgCons (tgN 6) (tgCons (tgN 7) tgNil))) (mIfS (mOr (mNot (mTru (mCallN m_l_put_refused (vCons (mName 1) (vCons (mName 6) (vCons (mName 7) vNil)))))) (mBl (mOp fNe (mTup (vCons (mMethN 14 "bits" m_Writer_bits (mName 1) vNil) (vCons (mMethN 14 "row" m_Writer_row (mName 1) vNil) vNil))) (mName 2)))) (mRet (mC (.bl false))) mNext))
  (mSeq (mDrop (mMethN 14 "put" m_Writer_put (mName 1) (vCons (mOp (fI0 fun i j => .int (i - j)) (mOp (fI CShl fun i j => .int (i * 2 ^ j.toNat)) (mC (.int 1)) (mC (.int 64))) (mC (.int 1))) (vCons (mC (.int 64)) vNil))))
  (mSeq (mDrop (mMethN 14 "put" m_Writer_put (mName 1) (vCons (mC (.int 0)) (vCons (mC (.int 0)) vNil))))
  (mRet (mOp fEq (mMethN 14 "bits" m_Writer_bits (mName 1) vNil) (mOp fAdd (mOp fIxY (mName 2) (mC (.int 0))) (mC (.int 64))))))))))))))))
noncomputable def m_l_writer_right : Mf := mFn 1 8 b_l_writer_right
theorem ok_l_writer_right {P : Program} {w : World} {K : PySem.W.Frag} {mg : Str → Option Value} {base : Heap} (T : Tx K mg) : FnOk P w K mg base CX0 6 T.a_l_writer_right T.d_l_writer_right ["_law_cell"] (spM K (ctT T) m_l_writer_right) :=
  T.F_l_writer_right.ok sc_l_writer_right (fun vs H Q E h => sp_len h) (fun cdv A outer s H vs Q E hr h => ⟨_, (pss_cons (ps_set (i := 1) sc_l_writer_right.nd rfl (by first | exact Or.inl rfl | exact Or.inr rfl) (pe_make0 T.K_Writer (ok_Writer_init T) (hr.mono (by decide)) (by rfl) T.g_Writer T.b_Writer_init .nil pass0))
      (pss_cons (ps_expr (pe_methZ (pv 1) T.cl_Writer T.M_Writer_put (ok_Writer_put T) (hr.mono (by decide)) T.b_Writer_put passL (pa_cons (pe_op op_mod (pe_callZ (ok_l_mixed T) (hr.mono (by decide)) (by rfl) T.g_l_mixed T.F_l_mixed.kp T.b_l_mixed pass0 (pa_cons (pv 0) (pa_cons pe_int pa_nil))) pe_int) (pa_cons pe_int pa_nil))))
      (pss_cons (ps_expr (pe_methZ (pv 1) T.cl_Writer T.M_Writer_put (ok_Writer_put T) (hr.mono (by decide)) T.b_Writer_put passL (pa_cons pe_int (pa_cons (pe_op op_mod (pe_callZ (ok_l_mixed T) (hr.mono (by decide)) (by rfl) T.g_l_mixed T.F_l_mixed.kp T.b_l_mixed pass0 (pa_cons (pv 0) (pa_cons pe_int pa_nil))) pe_int) pa_nil))))
      (pss_cons (ps_set (i := 2) sc_l_writer_right.nd rfl (by first | exact Or.inl rfl | exact Or.inr rfl) (pe_tup (pa_cons (pe_meth0Z (pv 1) T.cl_Writer T.M_Writer_bits (ok_Writer_bits T) (hr.mono (by decide)) T.b_Writer_bits pass0) (pa_cons (pe_meth0Z (pv 1) T.cl_Writer T.M_Writer_row (ok_Writer_row T) (hr.mono (by decide)) T.b_Writer_row pass0) pa_nil))))
      (pss_cons (ps_set (i := 3) sc_l_writer_right.nd rfl (by first | exact Or.inl rfl | exact Or.inr rfl) (pe_op op_mod (pe_callZ (ok_l_mixed T) (hr.mono (by decide)) (by rfl) T.g_l_mixed T.F_l_mixed.kp T.b_l_mixed pass0 (pa_cons (pv 0) (pa_cons pe_int pa_nil))) pe_int))
      (pss_cons (ps_set (i := 4) sc_l_writer_right.nd rfl (by first | exact Or.inl rfl | exact Or.inr rfl) (pe_op (op_addZ (K := K) rfl) pe_int (pe_callZ (ok_l_mixed T) (hr.mono (by decide)) (by rfl) T.g_l_mixed T.F_l_mixed.kp T.b_l_mixed pass0 (pa_cons (pv 0) (pa_cons pe_int pa_nil)))))
      (pss_cons (ps_set (i := 5) sc_l_writer_right.nd rfl (by first | exact Or.inl rfl | exact Or.inr rfl) (pe_lst (pa_cons (pe_tup (pa_cons (pe_op op_shlW pe_int (pv 3)) (pa_cons (pv 3) pa_nil))) (pa_cons (pe_tup (pa_cons (pe_op (op_addZ (K := K) rfl) (pe_op op_shlW pe_int (pv 3)) (pv 4)) (pa_cons (pv 3) pa_nil))) (pa_cons (pe_tup (pa_cons (pe_un un_neg pe_int) (pa_cons (pv 3) pa_nil))) (pa_cons (pe_tup (pa_cons (pe_op op_sub pe_int (pv 4)) (pa_cons (pv 3) pa_nil))) (pa_cons (pe_tup (pa_cons pe_int (pa_cons (pe_un un_neg pe_int) pa_nil))) (pa_cons (pe_tup (pa_cons pe_int (pa_cons (pe_op op_sub pe_int (pv 4)) pa_nil))) (pa_cons (pe_tup (pa_cons pe_int (pa_cons pe_int pa_nil))) pa_nil)))))))))
      (pss_cons (ps_set (i := 5) sc_l_writer_right.nd rfl (by first | exact Or.inl rfl | exact Or.inr rfl) (pe_op (op_addZ (K := K) rfl) (pv 5) (pe_lst (pa_cons (pe_tup (pa_cons pe_int (pa_cons (pe_op (op_addZ (K := K) rfl) pe_int (pv 4)) pa_nil))) (pa_cons (pe_tup (pa_cons pe_bl (pa_cons pe_int pa_nil))) (pa_cons (pe_tup (pa_cons pe_non (pa_cons pe_int pa_nil))) (pa_cons (pe_tup (pa_cons pe_str (pa_cons pe_int pa_nil))) (pa_cons (pe_tup (pa_cons pe_int (pa_cons pe_bl pa_nil))) (pa_cons (pe_tup (pa_cons pe_int (pa_cons pe_non pa_nil))) (pa_cons (pe_tup (pa_cons pe_int (pa_cons pe_str pa_nil))) pa_nil))))))))))
      (pss_cons (ps_for PassesOwn.never rfl (pi_listZ (K := K) rfl (pv 5)) (pg_tupZ (K := K) (n := 2) rfl rfl (pgs_cons (pg_name (i := 6) sc_l_writer_right.nd rfl (by first | exact Or.inl rfl | exact Or.inr rfl)) (pgs_cons (pg_name (i := 7) sc_l_writer_right.nd rfl (by first | exact Or.inl rfl | exact Or.inr rfl)) pgs_nil))) (pss_one (ps_if (PW.pt (pw_or (pt_not (pt_truthZ (K := K) rfl (pe_callZ (ok_l_put_refused T) (hr.mono (by decide)) (by rfl) T.g_l_put_refused T.F_l_put_refused.kp T.b_l_put_refused pass0 (pa_cons (pv 1) (pa_cons (pv 6) (pa_cons (pv 7) pa_nil)))) (by intro _; rfl))) (pw_or1 (pt_cmpR (op_neZ (K := K) rfl hr.units) (pe_tup (pa_cons (pe_meth0Z (pv 1) T.cl_Writer T.M_Writer_bits (ok_Writer_bits T) (hr.mono (by decide)) T.b_Writer_bits pass0) (pa_cons (pe_meth0Z (pv 1) T.cl_Writer T.M_Writer_row (ok_Writer_row T) (hr.mono (by decide)) T.b_Writer_row pass0) pa_nil))) (pv 2) (nomark _))))) (pss_one (ps_ret pe_bl)) pss_nil)))
      (pss_cons (ps_expr (pe_methZ (pv 1) T.cl_Writer T.M_Writer_put (ok_Writer_put T) (hr.mono (by decide)) T.b_Writer_put passL (pa_cons (pe_op op_sub (pe_op op_shlW pe_int pe_int) pe_int) (pa_cons pe_int pa_nil))))
      (pss_cons (ps_expr (pe_methZ (pv 1) T.cl_Writer T.M_Writer_put (ok_Writer_put T) (hr.mono (by decide)) T.b_Writer_put passL (pa_cons pe_int (pa_cons pe_int pa_nil))))
      (pss_one (ps_ret (pe_cmpR (op_eqZ (K := K) rfl hr.units) (pe_meth0Z (pv 1) T.cl_Writer T.M_Writer_bits (ok_Writer_bits T) (hr.mono (by decide)) T.b_Writer_bits pass0) (pe_op (op_addZ (K := K) rfl) (pe_ix (ix_Y (K := K) rfl (hu_of hr)) (pv 2) pe_int (fun _ _ => rfl)) pe_int) (nomark _))))))))))))))),
    fn_run (np := 1) (N := ["_law_cell", "_law_writer", "_law_stood", "_law_many", "_law_far", "_law_bad", "_law_number", "_law_count"]) (body := b_l_writer_right) (by unfold b_l_writer_right; exact (sv_seq (sv_asg (ei_makeN (c := 14) (dds := []) crl_nil ev_nil))
      (sv_seq (sv_drop (ei_methN (c := 14) ei_var (ev_cons (ei_op (j_I fun _ _ => cr_int) (ei_callN (ev_cons ei_var (ev_cons (ei_c cr_int) ev_nil))) (ei_c cr_int)) (ev_cons (ei_c cr_int) ev_nil))))
      (sv_seq (sv_drop (ei_methN (c := 14) ei_var (ev_cons (ei_c cr_int) (ev_cons (ei_op (j_I fun _ _ => cr_int) (ei_callN (ev_cons ei_var (ev_cons (ei_c cr_int) ev_nil))) (ei_c cr_int)) ev_nil))))
      (sv_seq (sv_asg (ei_tup (ev_cons (ei_methN (c := 14) ei_var ev_nil) (ev_cons (ei_methN (c := 14) ei_var ev_nil) ev_nil))))
      (sv_seq (sv_asg (ei_op (j_I fun _ _ => cr_int) (ei_callN (ev_cons ei_var (ev_cons (ei_c cr_int) ev_nil))) (ei_c cr_int)))
      (sv_seq (sv_asg (ei_op j_add (ei_c cr_int) (ei_callN (ev_cons ei_var (ev_cons (ei_c cr_int) ev_nil)))))
      (sv_seq (sv_asg (ei_lst (ev_cons (ei_tup (ev_cons (ei_op (j_I fun _ _ => cr_int) (ei_c cr_int) ei_var) (ev_cons ei_var ev_nil))) (ev_cons (ei_tup (ev_cons (ei_op j_add (ei_op (j_I fun _ _ => cr_int) (ei_c cr_int) ei_var) ei_var) (ev_cons ei_var ev_nil))) (ev_cons (ei_tup (ev_cons (ei_un j_neg (ei_c cr_int)) (ev_cons ei_var ev_nil))) (ev_cons (ei_tup (ev_cons (ei_op (j_I0 fun _ _ => cr_int) (ei_c cr_int) ei_var) (ev_cons ei_var ev_nil))) (ev_cons (ei_tup (ev_cons (ei_c cr_int) (ev_cons (ei_un j_neg (ei_c cr_int)) ev_nil))) (ev_cons (ei_tup (ev_cons (ei_c cr_int) (ev_cons (ei_op (j_I0 fun _ _ => cr_int) (ei_c cr_int) ei_var) ev_nil))) (ev_cons (ei_tup (ev_cons (ei_c cr_int) (ev_cons (ei_c cr_int) ev_nil))) ev_nil)))))))))
      (sv_seq (sv_asg (ei_op j_add ei_var (ei_lst (ev_cons (ei_tup (ev_cons (ei_c cr_int) (ev_cons (ei_op j_add (ei_c cr_int) ei_var) ev_nil))) (ev_cons (ei_tup (ev_cons (ei_c cr_bl) (ev_cons (ei_c cr_int) ev_nil))) (ev_cons (ei_tup (ev_cons (ei_c cr_non) (ev_cons (ei_c cr_int) ev_nil))) (ev_cons (ei_tup (ev_cons (ei_c cr_str) (ev_cons (ei_c cr_int) ev_nil))) (ev_cons (ei_tup (ev_cons (ei_c cr_int) (ev_cons (ei_c cr_bl) ev_nil))) (ev_cons (ei_tup (ev_cons (ei_c cr_int) (ev_cons (ei_c cr_non) ev_nil))) (ev_cons (ei_tup (ev_cons (ei_c cr_int) (ev_cons (ei_c cr_str) ev_nil))) ev_nil))))))))))
      (sv_seq (sv_for (jw_list ei_var) (sg_tup (sgs_cons sg_name (sgs_cons sg_name sgs_nil))) (sv_if (et_or (et_not (et_tru (ei_callN (ev_cons ei_var (ev_cons ei_var (ev_cons ei_var ev_nil)))))) (et_tst (ei_op j_ne (ei_tup (ev_cons (ei_methN (c := 14) ei_var ev_nil) (ev_cons (ei_methN (c := 14) ei_var ev_nil) ev_nil))) ei_var))) (sv_ret (ei_c cr_bl)) sv_next))
      (sv_seq (sv_drop (ei_methN (c := 14) ei_var (ev_cons (ei_op (j_I0 fun _ _ => cr_int) (ei_op (j_I fun _ _ => cr_int) (ei_c cr_int) (ei_c cr_int)) (ei_c cr_int)) (ev_cons (ei_c cr_int) ev_nil))))
      (sv_seq (sv_drop (ei_methN (c := 14) ei_var (ev_cons (ei_c cr_int) (ev_cons (ei_c cr_int) ev_nil))))
      (sv_ret (ei_op j_eq (ei_methN (c := 14) ei_var ev_nil) (ei_op j_add (ei_op j_ixY ei_var (ei_c cr_int)) (ei_c cr_int)))))))))))))))) h⟩)
@[irreducible] noncomputable def b_law : Ms :=
  (mSeq (mFor (mWL (mOp fAdd (mLst (vCons (mC (.int 0)) (vCons (mC (.int 1)) vNil))) (mSl (mName 0) oNo (oSm (mC (.int 20)))))) (tgN 1) (mIfS (mOr (mNot (mTru (mCallN m_l_writer_right (vCons (mName 1) vNil)))) (mNot (mTru (mCallN m_l_reader_right (vCons (mName 1) vNil))))) (mRet (mC (.bl false))) mNext))
  (mRet (mC (.bl true))))
noncomputable def m_law : Mf := mFn 1 2 b_law
theorem ok_law {P : Program} {w : World} {K : PySem.W.Frag} {mg : Str → Option Value} {base : Heap} (T : Tx K mg) : FnOk P w K mg base CX0 8 T.a_law T.d_law ["_law_script"] (spM K (ctT T) m_law) :=
  T.F_law.ok sc_law (fun vs H Q E h => sp_len h) (fun cdv A outer s H vs Q E hr h => ⟨_, (pss_cons (ps_for PassesOwn.never rfl (pi_listZ (K := K) rfl (pe_op (op_addZ (K := K) rfl) (pe_lst (pa_cons pe_int (pa_cons pe_int pa_nil))) (pe_slice (sl_Z (K := K) rfl) (pv 0) po_none (po_some pe_int)))) (pg_name (i := 1) sc_law.nd rfl (by first | exact Or.inl rfl | exact Or.inr rfl)) (pss_one (ps_if (PW.pt (pw_or (pt_not (pt_truthZ (K := K) rfl (pe_callZ (ok_l_writer_right T) (hr.mono (by decide)) (by rfl) T.g_l_writer_right T.F_l_writer_right.kp T.b_l_writer_right pass0 (pa_cons (pv 1) pa_nil)) (by intro _; rfl))) (pw_or1 (pt_not (pt_truthZ (K := K) rfl (pe_callZ (ok_l_reader_right T) (hr.mono (by decide)) (by rfl) T.g_l_reader_right T.F_l_reader_right.kp T.b_l_reader_right pass0 (pa_cons (pv 1) pa_nil)) (by intro _; rfl)))))) (pss_one (ps_ret pe_bl)) pss_nil)))
      (pss_one (ps_ret pe_bl))),
    fn_run (np := 1) (N := ["_law_script", "_law_cell"]) (body := b_law) (by unfold b_law; exact (sv_seq (sv_for (jw_list (ei_op j_add (ei_lst (ev_cons (ei_c cr_int) (ev_cons (ei_c cr_int) ev_nil))) (ei_sl ei_var eo_no (eo_sm (ei_c cr_int))))) sg_name (sv_if (et_or (et_not (et_tru (ei_callN (ev_cons ei_var ev_nil)))) (et_not (et_tru (ei_callN (ev_cons ei_var ev_nil))))) (sv_ret (ei_c cr_bl)) sv_next))
      (sv_ret (ei_c cr_bl)))) h⟩)
def b2i (b : Bool) : Int := if b then 1 else 0
def val : List Bool → Int
  | [] => 0
  | b :: bs => b2i b * 2 ^ bs.length + val bs
theorem val_cat : ∀ (a b : List Bool), val (a ++ b) = val a * 2 ^ b.length + val b
  | [], b => by show val b = 0 * _ + val b; simp
  | x :: a, b => by
    show b2i x * 2 ^ (a ++ b).length + val (a ++ b) = (b2i x * 2 ^ a.length + val a) * 2 ^ b.length + val b
    rw [val_cat a b, List.length_append, Int.pow_add, Int.add_mul, Int.mul_assoc]; omega
theorem val_snoc (a : List Bool) (b : Bool) : val (a ++ [b]) = 2 * val a + b2i b := by
  rw [val_cat]; show val a * 2 ^ 1 + (b2i b * 2 ^ 0 + 0) = _; simp; omega
theorem b2i_bd (b : Bool) : 0 ≤ b2i b ∧ b2i b ≤ 1 := by cases b <;> decide
theorem val_bd : ∀ a : List Bool, 0 ≤ val a ∧ val a < 2 ^ a.length
  | [] => by decide
  | b :: a => by
    have h := val_bd a
    have h2 := b2i_bd b
    show 0 ≤ b2i b * 2 ^ a.length + val a ∧ b2i b * 2 ^ a.length + val a < 2 ^ (a.length + 1)
    have hp : (0 : Int) < 2 ^ a.length := Int.pow_pos (by decide)
    rw [Int.pow_succ]
    cases b
    · show 0 ≤ 0 * _ + _ ∧ 0 * _ + _ < _; rw [Int.zero_mul]; omega
    · show 0 ≤ 1 * _ + _ ∧ 1 * _ + _ < _; rw [Int.one_mul]; omega
theorem val_zero (n : Nat) : val (List.replicate n false) = 0 := by
  induction n with
  | zero => rfl
  | succ n ih => show b2i false * _ + val (List.replicate n false) = 0; rw [ih]; show 0 * _ + 0 = 0; rw [Int.zero_mul]; rfl
/-- the bits of a number, the highest first -/
def bitsN (x : Nat) : Nat → List Bool
  | 0 => []
  | n + 1 => x.testBit n :: bitsN x n
theorem bitsN_len (x n : Nat) : (bitsN x n).length = n := by
  induction n with
  | zero => rfl
  | succ n ih => show (bitsN x n).length + 1 = _; rw [ih]
theorem bit_and {x t : Nat} : Builtin.bitAnd ((x : Int) / 2 ^ t) 1 = b2i (x.testBit t) := by
  have e : ((x : Int) / 2 ^ t) = ((x / 2 ^ t : Nat) : Int) := by push_cast; rfl
  rw [e, show (1 : Int) = ((1 : Nat) : Int) from rfl, and_nat, Nat.and_one_is_mod, Nat.testBit_eq_decide_div_mod_eq]
  have h2 : x / 2 ^ t % 2 = 0 ∨ x / 2 ^ t % 2 = 1 := by omega
  rcases h2 with h2 | h2 <;> rw [h2] <;> rfl
/-- bits by the number's place: x.testBit (n - 1 - i) -/
theorem bitsN_at {x n i : Nat} (h : i < n) : (bitsN x n)[i]? = some (x.testBit (n - 1 - i)) := by
  induction n generalizing i with
  | zero => omega
  | succ n ih =>
    cases i with
    | zero => rfl
    | succ i =>
      show (bitsN x n)[i]? = _
      rw [ih (by omega)]
      congr 2; omega
/-- eight by eight -/
def byL : List Bool → List Int
  | a :: b :: c :: d :: e :: f :: g :: h :: r => val [a, b, c, d, e, f, g, h] :: byL r
  | _ => []
/-- what is left of eight by eight -/
def rsL : List Bool → List Bool
  | _ :: _ :: _ :: _ :: _ :: _ :: _ :: _ :: r => rsL r
  | r => r
theorem cut8 {B : List Bool} (h : 8 ≤ B.length) : ∃ a b c d e f g i r, B = a :: b :: c :: d :: e :: f :: g :: i :: r := by
  match B, h with
  | a :: b :: c :: d :: e :: f :: g :: i :: r, _ => exact ⟨a, b, c, d, e, f, g, i, r, rfl⟩
theorem rsL_small {B : List Bool} (h : B.length < 8) : rsL B = B ∧ byL B = [] := by
  match B, h with
  | [], _ => exact ⟨rfl, rfl⟩
  | [_], _ => exact ⟨rfl, rfl⟩
  | [_, _], _ => exact ⟨rfl, rfl⟩
  | [_, _, _], _ => exact ⟨rfl, rfl⟩
  | [_, _, _, _], _ => exact ⟨rfl, rfl⟩
  | [_, _, _, _, _], _ => exact ⟨rfl, rfl⟩
  | [_, _, _, _, _, _], _ => exact ⟨rfl, rfl⟩
  | [_, _, _, _, _, _, _], _ => exact ⟨rfl, rfl⟩
/-- one way down, eight by eight -/
theorem ind8 {P : List Bool → Prop} (h0 : ∀ B, B.length < 8 → P B) (h8 : ∀ a b c d e f g i r, P r → P (a :: b :: c :: d :: e :: f :: g :: i :: r)) : ∀ B, P B := by
  intro B
  generalize hn : B.length = n
  induction n using Nat.strongRecOn generalizing B with
  | ind n ih =>
    by_cases h : B.length < 8
    · exact h0 B h
    · obtain ⟨a, b, c, d, e, f, g, i, r, rfl⟩ := cut8 (B := B) (by omega)
      exact h8 _ _ _ _ _ _ _ _ _ (ih r.length (by subst hn; simp; omega) r rfl)
theorem rsL_len (B : List Bool) : (rsL B).length = B.length % 8 ∧ (byL B).length = B.length / 8 := by
  refine ind8 (P := fun B => (rsL B).length = B.length % 8 ∧ (byL B).length = B.length / 8) (fun B h => ?_) (fun a b c d e f g i r h => ?_) B
  · obtain ⟨e1, e2⟩ := rsL_small h
    rw [e1, e2]; exact ⟨by omega, by simp; omega⟩
  · show (rsL r).length = (r.length + 8) % 8 ∧ (byL r).length + 1 = (r.length + 8) / 8
    omega
/-- a bit is put behind -/
theorem put_bit (B : List Bool) (x : Bool) : if (B.length + 1) % 8 = 0 then byL (B ++ [x]) = byL B ++ [2 * val (rsL B) + b2i x] ∧ rsL (B ++ [x]) = [] else byL (B ++ [x]) = byL B ∧ rsL (B ++ [x]) = rsL B ++ [x] := by
  refine ind8 (P := fun B => if (B.length + 1) % 8 = 0 then byL (B ++ [x]) = byL B ++ [2 * val (rsL B) + b2i x] ∧ rsL (B ++ [x]) = [] else byL (B ++ [x]) = byL B ∧ rsL (B ++ [x]) = rsL B ++ [x]) (fun B h => ?_) (fun a b c d e f g i r h => ?_) B
  · obtain ⟨e1, e2⟩ := rsL_small h
    by_cases h7 : (B.length + 1) % 8 = 0
    · rw [if_pos h7, e1, e2]
      have h7 : B.length = 7 := by omega
      match B, h7 with
      | [a, b, c, d, e, f, g], _ =>
        refine ⟨?_, rfl⟩
        show [val ([a, b, c, d, e, f, g] ++ [x])] = [2 * val [a, b, c, d, e, f, g] + b2i x]
        rw [val_snoc]
    · rw [if_neg h7, e1, e2]
      obtain ⟨e3, e4⟩ := rsL_small (B := B ++ [x]) (by rw [List.length_append]; show B.length + 1 < 8; omega)
      rw [e3, e4]; exact ⟨rfl, rfl⟩
  · by_cases h7 : ((a :: b :: c :: d :: e :: f :: g :: i :: r).length + 1) % 8 = 0
    · have h7' : (r.length + 1) % 8 = 0 := by simp at h7; omega
      rw [if_pos h7'] at h
      rw [if_pos h7]
      exact ⟨by show _ :: byL (r ++ [x]) = _ :: (byL r ++ _); rw [h.1]; rfl, h.2⟩
    · have h7' : ¬ (r.length + 1) % 8 = 0 := by simp at h7; omega
      rw [if_neg h7'] at h
      rw [if_neg h7]
      exact ⟨by show _ :: byL (r ++ [x]) = _ :: byL r; rw [h.1], h.2⟩
/-- all bits of bytes -/
def bitsOf (bs : List Int) : List Bool := (bs.map fun b => bitsN b.toNat 8).flatten
theorem bitsOf_len (bs : List Int) : (bitsOf bs).length = 8 * bs.length := by
  induction bs with
  | nil => rfl
  | cons b bs ih => show (bitsN b.toNat 8 ++ bitsOf bs).length = _; rw [List.length_append, bitsN_len, ih, List.length_cons]; omega
/-- a bit of bytes, by its place -/
theorem bitsOf_at : ∀ {bs : List Int} {p : Nat}, p < 8 * bs.length → (bitsOf bs)[p]? = some ((bs.getD (p / 8) 0).toNat.testBit (7 - p % 8))
  | [], p, h => by simp at h
  | b :: bs, p, h => by
    show (bitsN b.toNat 8 ++ bitsOf bs)[p]? = _
    by_cases hp : p < 8
    · rw [List.getElem?_append_left (by rw [bitsN_len]; exact hp), bitsN_at hp, Nat.div_eq_of_lt hp, Nat.mod_eq_of_lt hp]; rfl
    · rw [List.getElem?_append_right (by rw [bitsN_len]; omega), bitsN_len, bitsOf_at (by rw [List.length_cons] at h; omega)]
      rw [show p / 8 = (p - 8) / 8 + 1 by omega, show p % 8 = (p - 8) % 8 by omega]; rfl
abbrev wfd (f b m : D) : List (Str × D) := [("full", f), ("begun", b), ("many", m)]
theorem pb {f b m d : D} : putD "begun" d (wfd f b m) = wfd f d m := rfl
theorem pm {f b m d : D} : putD "many" d (wfd f b m) = wfd f b d := rfl
structure WAt (M : List Cn) (k j : Nat) (B : List Bool) : Prop where
  ho : M[k]? = some (.obj 14 (wfd (.cid j) (.int (val (rsL B))) (.int (B.length : Int))))
  hl : M[j]? = some (.lst ((byL B).map D.int))
  ne : k ≠ j
theorem is_whole_ok (i : Int) (M : List Cn) : m_is_whole [.int i] M = .ok (.val (.bl true)) M := by
  refine fo_ok (P := fun _ _ => True) ?_
  walk_at "f0"; unfold b_is_whole
  walk_at "w"
  refine w_isi (b := true) (by exact rfl) (by exact rfl) (by decide +kernel) ?_
  walk_at "w"
  refine w_isi (b := false) (by exact rfl) (by exact rfl) (by decide +kernel) ?_
  walk_at "w"
  exact ⟨rfl, rfl⟩
/-- no whole number -/
def NoInt : D → Bool
  | .bl _ => true
  | .non => true
  | .str _ => true
  | _ => false
theorem is_whole_no {d : D} (h : NoInt d = true) (M : List Cn) : m_is_whole [d] M = .ok (.val (.bl false)) M := by
  refine fo_ok (P := fun _ _ => True) ?_
  walk_at "f0"; unfold b_is_whole
  cases d with
  | bl b =>
    walk_at "w"
    refine w_isi (b := true) (by exact rfl) (by exact rfl) (by decide +kernel) ?_
    walk_at "w"
    refine w_isi (b := true) (by exact rfl) (by exact rfl) (by decide +kernel) ?_
    walk_at "w"
    exact ⟨rfl, rfl⟩
  | non =>
    walk_at "w"
    refine w_isi (b := false) (by exact rfl) (by exact rfl) (by decide +kernel) ?_
    walk_at "w"
    exact ⟨rfl, rfl⟩
  | str x =>
    walk_at "w"
    refine w_isi (b := false) (by exact rfl) (by exact rfl) (by decide +kernel) ?_
    walk_at "w"
    exact ⟨rfl, rfl⟩
  | _ => cases h
theorem refuse_ok (M : List Cn) : m_refuse_unless [.bl true] M = .ok (.val .non) M := by
  refine fx_ok ?_
  walk_at "fx"; unfold b_refuse_unless
  walk_at "w"
  exact ⟨trivial, rfl⟩
theorem refuse_no (M : List Cn) : m_refuse_unless [.bl false] M = .er ⟨1, []⟩ M := by
  refine fx_isEr ?_
  walk_at "fx"; unfold b_refuse_unless
  walk_at "w"
  exact ⟨rfl, rfl⟩
theorem refuse_ok' {b : Bool} (h : b = true) (M : List Cn) : m_refuse_unless [.bl b] M = .ok (.val .non) M := by subst h; exact refuse_ok M
theorem refuse_no' {b : Bool} (h : b = false) (M : List Cn) : m_refuse_unless [.bl b] M = .er ⟨1, []⟩ M := by subst h; exact refuse_no M
theorem rgcD {n : Nat} (h : n ≤ 1000) : RgC ((n : Int) - 1) (-1) (-1) n := by
  refine ⟨by decide, by decide, ?_, ?_⟩
  · have f : ∀ x : Int, -1000000 ≤ x → x ≤ 1000000 → Builtin.Range.rangeFitsLong x = true := fun x h1 h2 => by unfold Builtin.Range.rangeFitsLong; simp; omega
    have hs : 0 ≤ Builtin.Range.rangeSize ((n : Int) - 1) (-1) (-1) ∧ Builtin.Range.rangeSize ((n : Int) - 1) (-1) (-1) ≤ 1000 := by unfold Builtin.Range.rangeSize; rw [if_neg (by decide), show (-(-1 : Int)) = 1 from rfl, Int.ediv_one]; split <;> omega
    unfold Builtin.Range.small
    rw [f _ (by omega) (by omega), f _ (by omega) (by omega), f _ (by omega) (by omega), f _ (by omega) (by omega), if_neg (by decide), f _ (by omega) (by omega), Bool.or_true]; rfl
  · unfold Builtin.Range.rangeSize
    rw [if_neg (by decide), show (-(-1 : Int)) = 1 from rfl, Int.ediv_one]
    split <;> omega
theorem pow_int (m : Nat) : (1 : Int) * 2 ^ (m : Int).toNat = 2 ^ m := by rw [Int.one_mul, Int.toNat_natCast]
theorem winit_ok {M : List Cn} {k : Nat} (hM : M[k]? = some (.obj 14 [])) (hk : M.length = k + 1) : Fo (fun a M' => a = .val .non ∧ WAt M' k (k + 1) []) (m_Writer_init [.cid k] M) := by
  walk_at "f0"; unfold b_Writer_init
  have hM1 : (M ++ [Cn.lst []])[k]? = some (.obj 14 []) := by rw [List.getElem?_append_left (by omega)]; exact hM
  have hl1 : (M ++ [Cn.lst []])[k + 1]? = some (.lst []) := by rw [List.getElem?_append_right (by omega), hk, Nat.sub_self]; rfl
  have hlt : k < (M ++ [Cn.lst []]).length := (List.getElem?_eq_some_iff.mp hM1).1
  walk_at "w"
  rw [hk]
  generalize M ++ [Cn.lst []] = M1 at hM1 hl1 hlt ⊢
  try dsimp only []
  have ho2 : (M1.set k (.obj 14 [(Str.ofString "full", .cid (k + 1))]))[k]? = some (.obj 14 [(Str.ofString "full", .cid (k + 1))]) := List.getElem?_set_self hlt
  rw [show putD (Str.ofString "full") (D.cid (k + 1)) [] = [(Str.ofString "full", .cid (k + 1))] from rfl]
  have hl2 : (M1.set k (.obj 14 [(Str.ofString "full", .cid (k + 1))]))[k + 1]? = some (.lst []) := by rw [List.getElem?_set_ne (by omega)]; exact hl1
  generalize M1.set k (.obj 14 [(Str.ofString "full", .cid (k + 1))]) = M2 at ho2 hl2 ⊢
  have hlt2 : k < M2.length := (List.getElem?_eq_some_iff.mp ho2).1
  refine ⟨k, 14, _, objAt_of ho2, ⟨rfl, by show 1 < 1000; omega⟩, ?_⟩
  try dsimp only []
  have ho3 : (M2.set k (.obj 14 [(Str.ofString "full", .cid (k + 1)), (Str.ofString "begun", .int 0)]))[k]? = some (.obj 14 [(Str.ofString "full", .cid (k + 1)), (Str.ofString "begun", .int 0)]) := List.getElem?_set_self hlt2
  rw [show putD (Str.ofString "begun") (D.int 0) [(Str.ofString "full", .cid (k + 1))] = [(Str.ofString "full", .cid (k + 1)), (Str.ofString "begun", .int 0)] from rfl]
  have hl3 : (M2.set k (.obj 14 [(Str.ofString "full", .cid (k + 1)), (Str.ofString "begun", .int 0)]))[k + 1]? = some (.lst []) := by rw [List.getElem?_set_ne (by omega)]; exact hl2
  generalize M2.set k (.obj 14 [(Str.ofString "full", .cid (k + 1)), (Str.ofString "begun", .int 0)]) = M3 at ho3 hl3 ⊢
  have hlt3 : k < M3.length := (List.getElem?_eq_some_iff.mp ho3).1
  walk_at "w"
  refine ⟨trivial, ?_, ?_, by omega⟩
  · show (M3.set k _)[k]? = _
    rw [List.getElem?_set_self hlt3]; rfl
  · show (M3.set k _)[k + 1]? = _
    rw [List.getElem?_set_ne (by omega), hl3]; rfl
theorem wput_ok {M : List Cn} {k j : Nat} {B : List Bool} {x m : Nat} (hW : WAt M k j B) (hm : m ≤ 64) (hx : x < 2 ^ m) (hB : B.length ≤ 100000) : Fx (fun a M' => a = .val .non ∧ WAt M' k j (B ++ bitsN x m)) (fun _ _ => False) (m_Writer_put [.cid k, .int (x : Int), .int (m : Int)] M) := by
  have sh : CShl 1 (m : Int) := by
    have : Builtin.Int.intBits 1 ≤ 100 := by decide +kernel
    exact ⟨by omega, by omega⟩
  have hx' : (x : Int) < 1 * 2 ^ (m : Int).toNat := by rw [pow_int]; exact_mod_cast hx
  walk_at "fx"; unfold b_Writer_put
  walk_at "w"
  refine fo_eq (is_whole_ok _ _) ?_
  walk_at "w"
  refine fx_eq (refuse_ok' (decide_eq_true (show (m : Int) ≤ 64 by omega)) _) ?_
  walk_at "w"
  refine fo_eq (is_whole_ok _ _) ?_
  walk_at "w"
  refine fx_eq (refuse_ok' (decide_eq_true hx') _) ?_
  walk_at "w"
  refine ⟨_, _, _, _, rfl, rgcD (by omega), ?_⟩
  refine w_forN (fun i s => ∃ (e3 : Option Ent) (M' : List Cn), s = ⟨[some (.fz (.cid k)), some (.fz (.int (x : Int))), some (.fz (.int (m : Int))), e3], M'⟩ ∧ WAt M' k j (B ++ (bitsN x m).take i)) ⟨none, M, rfl, by rw [List.take_zero, List.append_nil]; exact hW⟩ ?_ ?_
  · rintro i y s hi ⟨e3, M', rfl, hW'⟩
    obtain ⟨hlt, rfl⟩ := rngC_get hi
    have hb := bitsN_at (x := x) hlt
    have hnext : B ++ (bitsN x m).take (i + 1) = (B ++ (bitsN x m).take i) ++ [x.testBit (m - 1 - i)] := by rw [List.take_add_one, hb, List.append_assoc]; rfl
    have hlen : (B ++ (bitsN x m).take i).length ≤ 200000 := by rw [List.length_append, List.length_take, bitsN_len]; omega
    rw [hnext]
    generalize B ++ (bitsN x m).take i = C at hlen hW' ⊢
    have hp := put_bit C (x.testBit (m - 1 - i))
    have hand : Builtin.bitAnd ((x : Int) / 2 ^ ((m : Int) - 1 + (i : Int) * -1).toNat) 1 = b2i (x.testBit (m - 1 - i)) := by rw [show ((m : Int) - 1 + (i : Int) * -1).toNat = m - 1 - i by omega]; exact bit_and
    generalize x.testBit (m - 1 - i) = b at hp hand ⊢
    have ho := hW'.ho
    have hl := hW'.hl
    have hkl : k < M'.length := (List.getElem?_eq_some_iff.mp ho).1
    walk_at "w"
    try dsimp only []
    rw [hand, pb]
    have ho1 : (M'.set k (.obj 14 (wfd (.cid j) (.int (2 * val (rsL C) + b2i b)) (.int (C.length : Int)))))[k]? = some (.obj 14 (wfd (.cid j) (.int (2 * val (rsL C) + b2i b)) (.int (C.length : Int)))) := List.getElem?_set_self hkl
    have hl1 : (M'.set k (.obj 14 (wfd (.cid j) (.int (2 * val (rsL C) + b2i b)) (.int (C.length : Int)))))[j]? = some (.lst ((byL C).map D.int)) := by rw [List.getElem?_set_ne hW'.ne]; exact hl
    generalize M'.set k (.obj 14 (wfd (.cid j) (.int (2 * val (rsL C) + b2i b)) (.int (C.length : Int)))) = M1 at ho1 hl1 ⊢
    have hkl1 : k < M1.length := (List.getElem?_eq_some_iff.mp ho1).1
    refine ⟨k, 14, _, _, objAt_of ho1, rfl, rfl, 1, _, rfl, ho1, by show 3 < 1000; omega, ?_⟩
    try dsimp only []
    rw [pm]
    have ho2 : (M1.set k (.obj 14 (wfd (.cid j) (.int (2 * val (rsL C) + b2i b)) (.int ((C.length : Int) + 1)))))[k]? = some (.obj 14 (wfd (.cid j) (.int (2 * val (rsL C) + b2i b)) (.int ((C.length : Int) + 1)))) := List.getElem?_set_self hkl1
    have hl2 : (M1.set k (.obj 14 (wfd (.cid j) (.int (2 * val (rsL C) + b2i b)) (.int ((C.length : Int) + 1)))))[j]? = some (.lst ((byL C).map D.int)) := by rw [List.getElem?_set_ne hW'.ne]; exact hl1
    generalize M1.set k (.obj 14 (wfd (.cid j) (.int (2 * val (rsL C) + b2i b)) (.int ((C.length : Int) + 1)))) = M2 at ho2 hl2 ⊢
    have hkl2 : k < M2.length := (List.getElem?_eq_some_iff.mp ho2).1
    walk_at "w"
    refine z_if (fun h8 => ?_) (fun h8 => ?_)
    · rw [if_pos (by omega)] at hp
      have hl8 := rsL_len C
      walk_at "w"
      refine w_app hl2 (by rw [List.length_map]; show _ < 16777216; omega) ?_
      walk_at "ds"
      have ho3 : (M2.set j (.lst ((byL C).map D.int ++ [.int (2 * val (rsL C) + b2i b)])))[k]? = some (.obj 14 (wfd (.cid j) (.int (2 * val (rsL C) + b2i b)) (.int ((C.length : Int) + 1)))) := by rw [List.getElem?_set_ne (Ne.symm hW'.ne)]; exact ho2
      have hl3 : (M2.set j (.lst ((byL C).map D.int ++ [.int (2 * val (rsL C) + b2i b)])))[j]? = some (.lst ((byL C).map D.int ++ [.int (2 * val (rsL C) + b2i b)])) := List.getElem?_set_self (List.getElem?_eq_some_iff.mp hl2).1
      generalize M2.set j (.lst ((byL C).map D.int ++ [.int (2 * val (rsL C) + b2i b)])) = M3 at ho3 hl3 ⊢
      have hkl3 : k < M3.length := (List.getElem?_eq_some_iff.mp ho3).1
      walk_at "w"
      refine ⟨_, _, rfl, ?_, ?_, hW'.ne⟩
      · show (M3.set k _)[k]? = _
        rw [List.getElem?_set_self hkl3, pb, hp.2, List.length_append]; rfl
      · show (M3.set k _)[j]? = _
        rw [List.getElem?_set_ne hW'.ne, hl3, hp.1, List.map_append]; rfl
    · rw [if_neg (by omega)] at hp
      walk_at "w"
      refine ⟨_, M2, rfl, ?_, ?_, hW'.ne⟩
      · rw [ho2, hp.2, val_snoc, List.length_append]; rfl
      · rw [hl2, hp.1]
  · rintro s ⟨e3, M', rfl, hW'⟩
    rw [rngC_len, List.take_of_length_le (by rw [bitsN_len]; exact Nat.le_refl _)] at hW'
    exact ⟨trivial, hW'⟩
theorem bits_ok {M : List Cn} {k j : Nat} {B : List Bool} (hW : WAt M k j B) : m_Writer_bits [.cid k] M = .ok (.val (.int (B.length : Int))) M := by
  have ho := hW.ho
  refine fo_ok (P := fun _ _ => True) ?_
  walk_at "f0"; unfold b_Writer_bits
  walk_at "w"
  exact ⟨rfl, rfl⟩
theorem pad_by (B : List Bool) : byL (B ++ List.replicate ((8 - B.length % 8) % 8) false) = if B.length % 8 = 0 then byL B else byL B ++ [val (rsL B) * 2 ^ (8 - B.length % 8)] := by
  refine ind8 (P := fun B => byL (B ++ List.replicate ((8 - B.length % 8) % 8) false) = if B.length % 8 = 0 then byL B else byL B ++ [val (rsL B) * 2 ^ (8 - B.length % 8)]) (fun B h => ?_) (fun a b c d e f g i r h => ?_) B
  · obtain ⟨e1, e2⟩ := rsL_small h
    rw [e1, e2]
    by_cases h0 : B.length % 8 = 0
    · rw [if_pos h0, show (8 - B.length % 8) % 8 = 0 by omega, List.replicate_zero, List.append_nil, e2]
    · rw [if_neg h0, show (8 - B.length % 8) % 8 = 8 - B.length % 8 by omega, Nat.mod_eq_of_lt h]
      have hl : (B ++ List.replicate (8 - B.length) false).length = 8 := by rw [List.length_append, List.length_replicate]; omega
      obtain ⟨a, b, c, d, e, f, g, i, r, he⟩ := cut8 (B := B ++ List.replicate (8 - B.length) false) (by omega)
      have hr : r = [] := by rw [he] at hl; simp at hl; exact hl
      subst hr
      rw [he]
      show [val [a, b, c, d, e, f, g, i]] = [] ++ [_]
      rw [← he, val_cat, val_zero, List.length_replicate]; simp
  · have e8 : (a :: b :: c :: d :: e :: f :: g :: i :: r).length % 8 = r.length % 8 := by simp; omega
    rw [e8]
    show val [a, b, c, d, e, f, g, i] :: byL (r ++ List.replicate ((8 - r.length % 8) % 8) false) = if r.length % 8 = 0 then val [a, b, c, d, e, f, g, i] :: byL r else val [a, b, c, d, e, f, g, i] :: byL r ++ [val (rsL r) * 2 ^ (8 - r.length % 8)]
    rw [h]
    split <;> rfl
def padd (n : Nat) : Nat := (8 - n % 8) % 8
abbrev padB (B : List Bool) : List Bool := B ++ List.replicate (padd B.length) false
theorem bits256 : ∀ a < 256, Builtin.Int.intBits ((a : Nat) : Int) ≤ 100 := by decide +kernel
theorem row_ok {M : List Cn} {k j : Nat} {B : List Bool} (hW : WAt M k j B) (hB : B.length ≤ 100000) : m_Writer_row [.cid k] M = .ok (.new (.lst ((byL (padB B)).map D.int))) M := by
  have ho := hW.ho
  have hl0 := hW.hl
  have hpb := pad_by B
  have hbd := val_bd (rsL B)
  have hl := rsL_len B
  refine fo_ok (P := fun _ _ => True) ?_
  walk_at "f0"; unfold b_Writer_row
  walk_at "w"
  refine z_if (fun h8 => ?_) (fun h8 => ?_)
  · rw [if_pos (by omega)] at hpb
    walk_at "w"
    refine w_list (viewL_cid hl0) ?_
    walk_at "w"
    exact ⟨by rw [show byL (padB B) = byL B from hpb], rfl⟩
  · rw [if_neg (by omega)] at hpb
    walk_at "w"
    have hb2 : (2 : Int) ^ (rsL B).length ≤ 2 ^ 8 := by
      have : (rsL B).length ≤ 8 := by omega
      exact_mod_cast Nat.pow_le_pow_right (by decide) this
    have hbits := bits256 (val (rsL B)).toNat (by omega)
    rw [show (((val (rsL B)).toNat : Nat) : Int) = val (rsL B) by omega] at hbits
    refine w_I (C := CShl) ⟨by omega, by omega⟩ ?_
    walk_at "w"
    refine w_addL (l := (byL B).map D.int) (l' := [.int (val (rsL B) * 2 ^ (8 - (B.length : Int) % 8).toNat)]) rfl (viewL_cid hl0) rfl (by rw [List.length_map]; show _ + 1 ≤ 16777216; omega) ?_
    walk_at "w"
    exact ⟨by rw [show byL (padB B) = byL B ++ [val (rsL B) * 2 ^ (8 - B.length % 8)] from hpb, List.map_append, show (8 - (B.length : Int) % 8).toNat = 8 - B.length % 8 by omega]; rfl, rfl⟩
theorem wput_y0 {k : Nat} {x y : D} (h : NoInt y = true) (M : List Cn) : m_Writer_put [.cid k, x, y] M = .er ⟨1, []⟩ M := by
  refine fx_isEr ?_
  walk_at "fx"; unfold b_Writer_put
  walk_at "w"
  refine fo_eq (is_whole_no h _) ?_
  walk_at "w"
  refine fx_er (refuse_no _) ?_
  exact ⟨rfl, rfl⟩
theorem wput_y1 {k : Nat} {x : D} {i : Int} (h : i < 0) (M : List Cn) : m_Writer_put [.cid k, x, .int i] M = .er ⟨1, []⟩ M := by
  refine fx_isEr ?_
  walk_at "fx"; unfold b_Writer_put
  walk_at "w"
  refine fo_eq (is_whole_ok _ _) ?_
  walk_at "w"
  refine fx_er (refuse_no' (by first | exact decide_eq_false (by omega) | rfl) _) ?_
  exact ⟨rfl, rfl⟩
theorem wput_y2 {k : Nat} {x : D} {i : Int} (h : 64 < i) (M : List Cn) : m_Writer_put [.cid k, x, .int i] M = .er ⟨1, []⟩ M := by
  refine fx_isEr ?_
  walk_at "fx"; unfold b_Writer_put
  walk_at "w"
  refine fo_eq (is_whole_ok _ _) ?_
  walk_at "w"
  refine fx_er (refuse_no' (decide_eq_false (by omega)) _) ?_
  exact ⟨rfl, rfl⟩
theorem wput_x0 {k : Nat} {x : D} {m : Int} (h : NoInt x = true) (h0 : 0 ≤ m) (h1 : m ≤ 64) (M : List Cn) : m_Writer_put [.cid k, x, .int m] M = .er ⟨1, []⟩ M := by
  refine fx_isEr ?_
  walk_at "fx"; unfold b_Writer_put
  walk_at "w"
  refine fo_eq (is_whole_ok _ _) ?_
  walk_at "w"
  refine fx_eq (refuse_ok' (decide_eq_true h1) _) ?_
  walk_at "w"
  refine fo_eq (is_whole_no h _) ?_
  walk_at "w"
  refine fx_er (refuse_no _) ?_
  exact ⟨rfl, rfl⟩
theorem wput_x1 {k : Nat} {i m : Int} (h : i < 0) (h0 : 0 ≤ m) (h1 : m ≤ 64) (M : List Cn) : m_Writer_put [.cid k, .int i, .int m] M = .er ⟨1, []⟩ M := by
  have sh : CShl 1 m := by
    have : Builtin.Int.intBits 1 ≤ 100 := by decide +kernel
    exact ⟨by omega, by omega⟩
  refine fx_isEr ?_
  walk_at "fx"; unfold b_Writer_put
  walk_at "w"
  refine fo_eq (is_whole_ok _ _) ?_
  walk_at "w"
  refine fx_eq (refuse_ok' (decide_eq_true h1) _) ?_
  walk_at "w"
  refine fo_eq (is_whole_ok _ _) ?_
  walk_at "w"
  refine fx_er (refuse_no' (by first | exact decide_eq_false (by omega) | rfl) _) ?_
  exact ⟨rfl, rfl⟩
theorem wput_x2 {k : Nat} {i m : Int} (h0 : 0 ≤ m) (h1 : m ≤ 64) (h : 2 ^ m.toNat ≤ i) (M : List Cn) : m_Writer_put [.cid k, .int i, .int m] M = .er ⟨1, []⟩ M := by
  have sh : CShl 1 m := by
    have : Builtin.Int.intBits 1 ≤ 100 := by decide +kernel
    exact ⟨by omega, by omega⟩
  have hp : (0 : Int) < 2 ^ m.toNat := Int.pow_pos (by decide)
  refine fx_isEr ?_
  walk_at "fx"; unfold b_Writer_put
  walk_at "w"
  refine fo_eq (is_whole_ok _ _) ?_
  walk_at "w"
  refine fx_eq (refuse_ok' (decide_eq_true h1) _) ?_
  walk_at "w"
  refine fo_eq (is_whole_ok _ _) ?_
  walk_at "w"
  rw [Int.one_mul]
  refine fx_er (refuse_no' (decide_eq_false (by omega)) _) ?_
  exact ⟨rfl, rfl⟩
def BadP (p : D) : Prop := ∃ x y, p = .tup [x, y] ∧ ∀ (k : Nat) (M : List Cn), m_Writer_put [.cid k, x, y] M = .er ⟨1, []⟩ M
theorem put_ref {x y : D} (h : ∀ (k : Nat) (M : List Cn), m_Writer_put [.cid k, x, y] M = .er ⟨1, []⟩ M) {M : List Cn} {k j : Nat} {B : List Bool} (hW : WAt M k j B) : m_l_put_refused [.cid k, x, y] M = .ok (.val (.bl true)) M := by
  have ho := hW.ho
  refine fo_ok (P := fun _ _ => True) ?_
  walk_at "f00"; unfold b_l_put_refused
  walk_at "w"
  refine w_keep ?_
  walk_at "w"
  refine fx_er (h k M) ?_
  exact ⟨rfl, ⟨rfl, by show 4 < 5; omega, by show 3 < 5; omega, by decide⟩, rfl, rfl⟩
theorem mixed_ok (c : Int) {k : Int} (hk : 0 ≤ k) (hk2 : k ≤ 1000000) (M : List Cn) : Fo (fun a M' => ∃ x : Int, a = .val (.int x) ∧ 0 ≤ x ∧ x < 2147483648 ∧ M = M') (m_l_mixed [.int c, .int k] M) := by
  have sh : CShl 1 90 := ⟨by decide, by decide +kernel⟩
  walk_at "f0"; unfold b_l_mixed
  walk_at "w"
  refine z_if (fun h1 => ?_) (fun h1 => ?_)
  · walk_at "w"
    refine z_if (fun h2 => ?_) (fun h2 => ?_)
    · walk_at "w"
      refine z_if (fun h3 => ?_) (fun h3 => ?_)
      · walk_at "w"
        exact ⟨_, rfl, by omega, by omega, rfl⟩
      · walk_at "w"
        exact ⟨_, rfl, by omega, by omega, rfl⟩
    · walk_at "w"
      exact ⟨_, rfl, by omega, by omega, rfl⟩
  · walk_at "w"
    exact ⟨_, rfl, by omega, by omega, rfl⟩
theorem fo_fx {P : AI → List Cn → Prop} {r : Fr} (h : Fx P (fun _ _ => False) r) : Fo P r := by
  cases r with
  | ok a M => exact h
  | er x M => exact h.elim
  | no => exact h.elim
theorem py_stood (b : Int) (l : List Int) (s : Stt) : pyOf s (.val (.tup [.int b, .lst (l.map D.int)])) = some (.tuple [.int b, .list (l.map PyData.int)]) := by
  show (D.pyL [.int b, .lst (l.map D.int)]).map PyData.tuple = _
  show ((some (PyData.int b)).bind fun x => (D.pyL [.lst (l.map D.int)]).map (x :: ·)).map PyData.tuple = _
  show ((((D.pyL (l.map D.int)).map PyData.list).bind fun x => (D.pyL []).map (x :: ·)).map (PyData.int b :: ·)).map PyData.tuple = _
  rw [pyL_ints]; rfl
theorem lay_stood (b : Int) (l : List Int) : Lay 3 (.tuple [.int b, .list (l.map PyData.int)]) := lay_tup fun x hx => by
  simp only [List.mem_cons, List.not_mem_nil, or_false] at hx
  rcases hx with rfl | rfl
  · exact lay_int.mono (by decide)
  · exact lay_lst fun y hy => by
      obtain ⟨i, _, rfl⟩ := List.mem_map.mp hy
      exact lay_int
theorem writer_right_ok (c : Int) (M : List Cn) : Fo (fun a _ => a = .val (.bl true)) (m_l_writer_right [.int c] M) := by
  walk_at "f0"; unfold b_l_writer_right
  walk_at "w"
  refine fo_use (winit_ok (M := M ++ [.obj 14 []]) (k := M.length) (by rw [List.getElem?_append_right (Nat.le_refl _), Nat.sub_self]; rfl) (by rw [List.length_append]; rfl)) ?_
  rintro _ M1 ⟨rfl, hW⟩
  generalize M.length = k at hW ⊢
  have ho := hW.ho
  refine ⟨rfl, ?_⟩
  walk_at "w"
  refine fo_use (mixed_ok c (by decide) (by decide) _) ?_
  rintro _ _ ⟨x, rfl, hx0, hx1, rfl⟩
  walk_at "w"
  obtain ⟨u, eu, hu⟩ : ∃ u : Nat, x % 8192 = (u : Int) ∧ u < 2 ^ 13 := ⟨(x % 8192).toNat, by omega, by omega⟩
  rw [eu]
  refine fo_use (fo_fx (wput_ok (m := 13) hW (by decide) hu (by show 0 ≤ 100000; omega))) ?_
  rintro _ M2 ⟨rfl, hW⟩
  have ho := hW.ho
  walk_at "w"
  refine fo_use (mixed_ok c (by decide) (by decide) _) ?_
  rintro _ _ ⟨x, rfl, hx0, hx1, rfl⟩
  walk_at "w"
  obtain ⟨w, ew, hw⟩ : ∃ w : Nat, x % 9 = (w : Int) ∧ w ≤ 8 := ⟨(x % 9).toNat, by omega, by omega⟩
  rw [ew]
  refine fo_use (fo_fx (wput_ok (x := 0) (m := w) hW (by omega) (Nat.pow_pos (by decide)) (by rw [List.nil_append, bitsN_len]; omega))) ?_
  rintro _ M3 ⟨rfl, hW⟩
  have hlen : (([] ++ bitsN u 13) ++ bitsN 0 w).length ≤ 21 := by rw [List.nil_append, List.length_append, bitsN_len, bitsN_len]; omega
  generalize ([] ++ bitsN u 13) ++ bitsN 0 w = B at hW hlen
  have ho := hW.ho
  walk_at "w"
  refine fo_eq (bits_ok hW) ?_
  walk_at "w"
  refine fo_eq (row_ok hW (by omega)) ?_
  walk_at "w"
  refine fo_use (mixed_ok c (by decide) (by decide) _) ?_
  rintro _ _ ⟨x, rfl, hx0, hx1, rfl⟩
  walk_at "w"
  obtain ⟨n, en, hn0, hn1⟩ : ∃ n : Int, x % 65 = n ∧ 0 ≤ n ∧ n ≤ 64 := ⟨_, rfl, by omega, by omega⟩
  rw [en]
  refine fo_use (mixed_ok c (by decide) (by decide) _) ?_
  rintro _ _ ⟨x, rfl, hx0, hx1, rfl⟩
  walk_at "w"
  obtain ⟨f, ef, hf0⟩ : ∃ f : Int, 1 + x = f ∧ 1 ≤ f := ⟨_, rfl, by omega⟩
  rw [ef]
  have sh : CShl 1 n := by
    have : Builtin.Int.intBits 1 ≤ 100 := by decide +kernel
    exact ⟨by omega, by omega⟩
  walk_at "w"
  have hb : ∀ p ∈ ([.tup [.int (1 * 2 ^ n.toNat), .int n], .tup [.int (1 * 2 ^ n.toNat + f), .int n], .tup [.int (-1), .int n], .tup [.int (0 - f), .int n], .tup [.int 0, .int (-1)], .tup [.int 0, .int (0 - f)], .tup [.int 0, .int 65]] ++ [.tup [.int 1, .int (64 + f)], .tup [.bl true, .int 3], .tup [.non, .int 3], .tup [.str (Str.ofString "1"), .int 3], .tup [.int 1, .bl true], .tup [.int 1, .non], .tup [.int 1, .str (Str.ofString "3")]] : List D), BadP p := by
    intro p hp
    simp only [List.cons_append, List.nil_append, List.mem_cons, List.not_mem_nil, or_false] at hp
    rcases hp with rfl | rfl | rfl | rfl | rfl | rfl | rfl | rfl | rfl | rfl | rfl | rfl | rfl | rfl
    · exact ⟨_, _, rfl, fun k M => wput_x2 hn0 hn1 (by omega) M⟩
    · exact ⟨_, _, rfl, fun k M => wput_x2 hn0 hn1 (by omega) M⟩
    · exact ⟨_, _, rfl, fun k M => wput_x1 (by omega) hn0 hn1 M⟩
    · exact ⟨_, _, rfl, fun k M => wput_x1 (by omega) hn0 hn1 M⟩
    · exact ⟨_, _, rfl, fun k M => wput_y1 (by omega) M⟩
    · exact ⟨_, _, rfl, fun k M => wput_y1 (by omega) M⟩
    · exact ⟨_, _, rfl, fun k M => wput_y2 (by omega) M⟩
    · exact ⟨_, _, rfl, fun k M => wput_y2 (by omega) M⟩
    · exact ⟨_, _, rfl, fun k M => wput_x0 rfl (by omega) (by omega) M⟩
    · exact ⟨_, _, rfl, fun k M => wput_x0 rfl (by omega) (by omega) M⟩
    · exact ⟨_, _, rfl, fun k M => wput_x0 rfl (by omega) (by omega) M⟩
    · exact ⟨_, _, rfl, fun k M => wput_y0 rfl M⟩
    · exact ⟨_, _, rfl, fun k M => wput_y0 rfl M⟩
    · exact ⟨_, _, rfl, fun k M => wput_y0 rfl M⟩
  refine w_addL (l := [.tup [.int (1 * 2 ^ n.toNat), .int n], .tup [.int (1 * 2 ^ n.toNat + f), .int n], .tup [.int (-1), .int n], .tup [.int (0 - f), .int n], .tup [.int 0, .int (-1)], .tup [.int 0, .int (0 - f)], .tup [.int 0, .int 65]]) (l' := [.tup [.int 1, .int (64 + f)], .tup [.bl true, .int 3], .tup [.non, .int 3], .tup [.str (Str.ofString "1"), .int 3], .tup [.int 1, .bl true], .tup [.int 1, .non], .tup [.int 1, .str (Str.ofString "3")]]) rfl rfl rfl (by show 7 + 7 ≤ 16777216; omega) ?_
  generalize ([.tup [.int (1 * 2 ^ n.toNat), .int n], .tup [.int (1 * 2 ^ n.toNat + f), .int n], .tup [.int (-1), .int n], .tup [.int (0 - f), .int n], .tup [.int 0, .int (-1)], .tup [.int 0, .int (0 - f)], .tup [.int 0, .int 65]] ++ [.tup [.int 1, .int (64 + f)], .tup [.bl true, .int 3], .tup [.non, .int 3], .tup [.str (Str.ofString "1"), .int 3], .tup [.int 1, .bl true], .tup [.int 1, .non], .tup [.int 1, .str (Str.ofString "3")]] : List D) = L at hb ⊢
  walk_at "w"
  refine w_forN (fun i s => ∃ (e6 e7 : Option Ent), s = ⟨[some (.fz (.int c)), some (.fz (.cid k)), some (.fz (.tup [.int (B.length : Int), .lst ((byL (padB B)).map D.int)])), some (.fz (.int n)), some (.fz (.int f)), some (.fz (.lst L)), e6, e7], M3⟩) ⟨_, _, rfl⟩ ?_ ?_
  · rintro i y s hi ⟨e6, e7, rfl⟩
    obtain ⟨x, y, rfl, hbad⟩ := hb _ (List.mem_of_getElem? hi)
    walk_at "w"
    refine fo_eq (put_ref hbad hW) ?_
    walk_at "w"
    refine fo_eq (bits_ok hW) ?_
    walk_at "w"
    refine fo_eq (row_ok hW (by omega)) ?_
    walk_at "w"
    refine w_ne (eqOf_same (py_stood _ _ _) (py_stood _ _ _) ((lay_stood _ _).shaped (by decide))) ?_
    walk_at "w"
    exact ⟨_, _, rfl⟩
  · rintro s ⟨e6, e7, rfl⟩
    have sh64 : CShl 1 64 := ⟨by decide, by decide +kernel⟩
    walk_at "w"
    rw [show (1 : Int) * 2 ^ Int.toNat 64 - 1 = ((2 ^ 64 - 1 : Nat) : Int) from by decide]
    refine fo_use (fo_fx (wput_ok (m := 64) hW (by decide) (by decide) (by omega))) ?_
    rintro _ M4 ⟨rfl, hW4⟩
    have ho4 := hW4.ho
    walk_at "w"
    refine fo_use (fo_fx (wput_ok (x := 0) (m := 0) hW4 (by decide) (by decide) (by rw [List.length_append, bitsN_len]; omega))) ?_
    rintro _ M5 ⟨rfl, hW5⟩
    have ho5 := hW5.ho
    walk_at "w"
    refine fo_eq (bits_ok hW5) ?_
    walk_at "w"
    refine w_ixT (l := [.int (B.length : Int), .lst ((byL (padB B)).map D.int)]) (d := .int (B.length : Int)) rfl rfl rfl rfl rfl ?_
    walk_at "w"
    rw [decide_eq_true (by rw [List.length_append, List.length_append, bitsN_len, bitsN_len]; omega)]
    exact rfl
abbrev rfd (b n : D) : List (Str × D) := [("bytes", b), ("next", n)]
structure RAt (M : List Cn) (k j : Nat) (bs : List Int) (p : Nat) : Prop where
  ho : M[k]? = some (.obj 15 (rfd (.cid j) (.int (p : Int))))
  hl : M[j]? = some (.lst (bs.map D.int))
  ne : k ≠ j
  bd : ∀ b ∈ bs, 0 ≤ b ∧ b ≤ 255
  few : bs.length ≤ 100000
  le : p ≤ 8 * bs.length
theorem viewD_cid {s : Stt} {k : Nat} {l : List D} (h : s.M[k]? = some (.lst l)) : viewD s (.val (.cid k)) = none := by
  show s.M[k]?.bind Cn.aK = none; rw [h]; rfl
theorem RAt.set {M : List Cn} {k j : Nat} {bs : List Int} {p q : Nat} (h : RAt M k j bs p) (hq : q ≤ 8 * bs.length) : RAt (M.set k (.obj 15 (rfd (.cid j) (.int (q : Int))))) k j bs q :=
  ⟨List.getElem?_set_self (List.getElem?_eq_some_iff.mp h.ho).1, by rw [List.getElem?_set_ne h.ne]; exact h.hl, h.ne, h.bd, h.few, hq⟩
theorem set_same {M : List Cn} {k : Nat} {c : Cn} (h : M[k]? = some c) : M.set k c = M := by
  obtain ⟨h1, h2⟩ := List.getElem?_eq_some_iff.mp h
  rw [← h2]; exact List.set_getElem_self h1
theorem left_ok {M : List Cn} {k j : Nat} {bs : List Int} {p : Nat} (h : RAt M k j bs p) : m_Reader_left [.cid k] M = .ok (.val (.int (8 * (bs.length : Int) - (p : Int)))) M := by
  have ho := h.ho
  refine fo_ok (P := fun _ _ => True) ?_
  walk_at "f0"; unfold b_Reader_left
  walk_at "w"
  refine w_len (d := .cid j) (by exact rfl) (lenD_cid h.hl) ?_
  walk_at "w"
  rw [List.length_map]
  exact ⟨rfl, rfl⟩
theorem place_ok {M : List Cn} {k j : Nat} {bs : List Int} {p : Nat} (h : RAt M k j bs p) : m_Reader_place [.cid k] M = .ok (.val (.int (((p : Int) + 7) / 8))) M := by
  have ho := h.ho
  refine fo_ok (P := fun _ _ => True) ?_
  walk_at "f0"; unfold b_Reader_place
  walk_at "w"
  exact ⟨rfl, rfl⟩
theorem take_ok {M : List Cn} {k j : Nat} {bs : List Int} {p m : Nat} (h : RAt M k j bs p) (hm : m ≤ 64) (hl : p + m ≤ 8 * bs.length) : m_Reader_take [.cid k, .int (m : Int)] M = .ok (.val (.int (val (((bitsOf bs).drop p).take m)))) (M.set k (.obj 15 (rfd (.cid j) (.int ((p + m : Nat) : Int))))) := by
  have ho := h.ho
  have hbl := bitsOf_len bs
  have h00 : val (((bitsOf bs).drop p).take 0) = 0 := by rw [List.take_zero]; rfl
  generalize hv0 : val (((bitsOf bs).drop p).take m) = vm
  generalize hMm : M.set k (.obj 15 (rfd (.cid j) (.int ((p + m : Nat) : Int)))) = Mm
  refine fx_ok ?_
  walk_at "fx"; unfold b_Reader_take
  walk_at "w"
  refine fo_eq (is_whole_ok _ _) ?_
  walk_at "w"
  refine fo_eq (left_ok h) ?_
  walk_at "w"
  refine fx_eq (refuse_ok' (decide_eq_true (by omega)) _) ?_
  walk_at "w"
  refine w_forN (fun i s => ∃ e3 : Option Ent, s = ⟨[some (.fz (.cid k)), some (.fz (.int (m : Int))), some (.fz (.int (val (((bitsOf bs).drop p).take i)))), e3], M.set k (.obj 15 (rfd (.cid j) (.int ((p + i : Nat) : Int))))⟩) ?_ ?_ ?_
  · exact ⟨none, by rw [h00, Nat.add_zero, set_same ho]⟩
  · rintro i y s hi ⟨e3, rfl⟩
    obtain ⟨hlt, rfl⟩ := rng_get hi
    have hlt : i < m := by omega
    have hR := h.set (q := p + i) (by omega)
    have ho2 := hR.ho
    have hl2 := hR.hl
    have hset : ∀ c : Cn, (M.set k (.obj 15 (rfd (.cid j) (.int ((p + i : Nat) : Int))))).set k c = M.set k c := fun c => List.set_set ..
    have hbit := bitsOf_at (bs := bs) (p := p + i) (by omega)
    have hnext : ((bitsOf bs).drop p).take (i + 1) = ((bitsOf bs).drop p).take i ++ [(bs.getD ((p + i) / 8) 0).toNat.testBit (7 - (p + i) % 8)] := by
      rw [List.take_add_one, List.getElem?_drop, hbit]; rfl
    have hgb := h.bd (bs.getD ((p + i) / 8) 0) (by
      rw [List.getD_eq_getElem?_getD, List.getElem?_eq_getElem (show (p + i) / 8 < bs.length by omega)]
      exact List.getElem_mem _)
    have hand := bit_and (x := (bs.getD ((p + i) / 8) 0).toNat) (t := 7 - (p + i) % 8)
    rw [show (((bs.getD ((p + i) / 8) 0).toNat : Nat) : Int) = bs.getD ((p + i) / 8) 0 by omega] at hand
    rw [hnext, val_snoc]
    generalize val (((bitsOf bs).drop p).take i) = v
    generalize hM : M.set k (.obj 15 (rfd (.cid j) (.int ((p + i : Nat) : Int)))) = M1 at ho2 hl2 hset ⊢
    walk_at "w"
    refine w_ixI (ns := bs) rfl (viewD_cid hl2) (viewL_cid hl2) (by omega) (by omega) ?_
    walk_at "w"
    refine ⟨1, rfd (.cid j) (.int ((p + i : Nat) : Int)), rfl, ho2, by simp, ?_⟩
    exact ⟨_, by
      rw [hset, show ((((p + i : Nat) : Int)) / 8).toNat = (p + i) / 8 by omega, show (7 - ((p + i : Nat) : Int) % 8).toNat = 7 - (p + i) % 8 by omega, hand]
      rfl⟩
  · rintro s ⟨e3, rfl⟩
    rw [rng_len]
    walk_at "w"
    exact ⟨by rw [← hv0]; rfl, by rw [← hMm]; rfl⟩
theorem take_no {M : List Cn} {k j : Nat} {bs : List Int} {p m : Nat} (h : RAt M k j bs p) (hm : m ≤ 64) (hl : 8 * bs.length < p + m) : m_Reader_take [.cid k, .int (m : Int)] M = .er ⟨1, []⟩ M := by
  have ho := h.ho
  refine fx_isEr ?_
  walk_at "fx"; unfold b_Reader_take
  walk_at "w"
  refine fo_eq (is_whole_ok _ _) ?_
  walk_at "w"
  refine fo_eq (left_ok h) ?_
  walk_at "w"
  refine fx_er (refuse_no' (decide_eq_false (by omega)) _) ?_
  exact ⟨rfl, rfl⟩
theorem ended_ok {M : List Cn} {k j : Nat} {bs : List Int} {p : Nat} (h : RAt M k j bs p) (hz : val (((bitsOf bs).drop p).take (padd p)) = 0) : m_Reader_ended [.cid k] M = .ok (.val (.bl true)) (M.set k (.obj 15 (rfd (.cid j) (.int ((p + padd p : Nat) : Int))))) := by
  have ho := h.ho
  have hle := h.le
  refine fo_ok (P := fun _ _ => True) ?_
  walk_at "f0"; unfold b_Reader_ended
  walk_at "w"
  rw [show (0 - (p : Int)) % 8 = ((padd p : Nat) : Int) by unfold padd; omega]
  refine fo_eq (take_ok h (by unfold padd; omega) (by unfold padd; omega)) ?_
  rw [hz]
  walk_at "w"
  exact ⟨rfl, rfl⟩
theorem rinit_ok {M : List Cn} {k : Nat} {bs : List Int} {q : Nat} (hM : M[k]? = some (.obj 15 [])) (hk : M.length = k + 1) (hq : q ≤ bs.length) (hb : bs.length ≤ 100000) : m_Reader_init [.cid k, .lst (bs.map D.int), .int (q : Int)] M = .ok (.val .non) ((M ++ [Cn.lst (bs.map D.int)]).set k (.obj 15 (rfd (.cid (k + 1)) (.int ((8 * q : Nat) : Int))))) := by
  have hM2 : (M ++ [Cn.lst (bs.map D.int)])[k]? = some (.obj 15 []) := by rw [List.getElem?_append_left (by omega)]; exact hM
  refine fx_ok ?_
  walk_at "fx"; unfold b_Reader_init
  walk_at "w"
  refine fo_eq (is_whole_ok _ _) ?_
  walk_at "w"
  rw [List.length_map]
  refine fx_eq (refuse_ok' (decide_eq_true (by omega)) _) ?_
  walk_at "w"
  refine ⟨_, _, _, objAt_of (List.getElem?_set_self (by rw [List.length_append]; show k < M.length + 1; omega)), ⟨rfl, by show 1 < 1000; decide⟩, ?_⟩
  refine ⟨trivial, ?_⟩
  show ((M ++ [Cn.lst (bs.map D.int)]).set k _).set k _ = _
  rw [List.set_set, hk, show (8 * (q : Int)) = ((8 * q : Nat) : Int) by omega]
  rfl
theorem rtake_y0 {k : Nat} {y : D} (h : NoInt y = true) (M : List Cn) : m_Reader_take [.cid k, y] M = .er ⟨1, []⟩ M := by
  refine fx_isEr ?_
  walk_at "fx"; unfold b_Reader_take
  walk_at "w"
  refine fo_eq (is_whole_no h _) ?_
  walk_at "w"
  refine fx_er (refuse_no _) ?_
  exact ⟨rfl, rfl⟩
theorem rtake_y1 {k : Nat} {i : Int} (h : i < 0) (M : List Cn) : m_Reader_take [.cid k, .int i] M = .er ⟨1, []⟩ M := by
  refine fx_isEr ?_
  walk_at "fx"; unfold b_Reader_take
  walk_at "w"
  refine fo_eq (is_whole_ok _ _) ?_
  walk_at "w"
  refine fx_er (refuse_no _) ?_
  exact ⟨rfl, rfl⟩
theorem rtake_y2 {k : Nat} {i : Int} (h : 64 < i) (M : List Cn) : m_Reader_take [.cid k, .int i] M = .er ⟨1, []⟩ M := by
  refine fx_isEr ?_
  walk_at "fx"; unfold b_Reader_take
  walk_at "w"
  refine fo_eq (is_whole_ok _ _) ?_
  walk_at "w"
  refine fx_er (refuse_no _) ?_
  exact ⟨rfl, rfl⟩
def BadT (bs : List Int) (p : Nat) (y : D) : Prop := ∀ (k j : Nat) (M : List Cn), RAt M k j bs p → m_Reader_take [.cid k, y] M = .er ⟨1, []⟩ M
theorem badT_left {bs : List Int} {p : Nat} {i : Int} (h : 8 * (bs.length : Int) - (p : Int) < i) (h0 : 0 ≤ i) : BadT bs p (.int i) := fun k j M hR => by
  by_cases h64 : 64 < i
  · exact rtake_y2 h64 M
  · obtain ⟨m, rfl⟩ : ∃ m : Nat, i = (m : Int) := ⟨i.toNat, by omega⟩
    exact take_no hR (by omega) (by omega)
theorem take_ref {bs : List Int} {p : Nat} {y : D} (h : BadT bs p y) {M : List Cn} {k j : Nat} (hR : RAt M k j bs p) : m_l_take_refused [.cid k, y] M = .ok (.val (.bl true)) M := by
  have ho := hR.ho
  refine fo_ok (P := fun _ _ => True) ?_
  walk_at "f00"; unfold b_l_take_refused
  walk_at "w"
  refine w_keep ?_
  walk_at "w"
  refine fx_er (h k j M hR) ?_
  exact ⟨rfl, ⟨rfl, by show 3 < 4; omega, by show 2 < 4; omega, by decide⟩, rfl, rfl⟩
def BadR (bs : List Int) (y : D) : Prop := ∀ (k : Nat) (M : List Cn), m_Reader_init [.cid k, .lst (bs.map D.int), y] M = .er ⟨1, []⟩ M
theorem badR0 {bs : List Int} {y : D} (h : NoInt y = true) : BadR bs y := fun k M => by
  refine fx_isEr ?_
  walk_at "fx"; unfold b_Reader_init
  walk_at "w"
  refine fo_eq (is_whole_no h _) ?_
  walk_at "w"
  refine fx_er (refuse_no _) ?_
  exact ⟨rfl, rfl⟩
theorem badR1 {bs : List Int} {i : Int} (h : i < 0) : BadR bs (.int i) := fun k M => by
  refine fx_isEr ?_
  walk_at "fx"; unfold b_Reader_init
  walk_at "w"
  refine fo_eq (is_whole_ok _ _) ?_
  walk_at "w"
  refine fx_er (refuse_no' (by first | exact decide_eq_false (by omega) | rfl) _) ?_
  exact ⟨rfl, rfl⟩
theorem badR2 {bs : List Int} {i : Int} (h : (bs.length : Int) < i) : BadR bs (.int i) := fun k M => by
  refine fx_isEr ?_
  walk_at "fx"; unfold b_Reader_init
  walk_at "w"
  refine fo_eq (is_whole_ok _ _) ?_
  walk_at "w"
  rw [List.length_map]
  refine fx_er (refuse_no' (decide_eq_false (by omega)) _) ?_
  exact ⟨rfl, rfl⟩
theorem made_ref {bs : List Int} {y : D} (h : BadR bs y) (M : List Cn) : m_l_made_refused [.lst (bs.map D.int), y] M = .ok (.val (.bl true)) (M ++ [.obj 15 []]) := by
  refine fo_ok (P := fun _ _ => True) ?_
  walk_at "f00"; unfold b_l_made_refused
  walk_at "w"
  refine w_keep ?_
  walk_at "w"
  refine fx_er (h _ _) ?_
  exact ⟨rfl, ⟨rfl, by show 3 < 4; omega, by show 2 < 4; omega, by decide⟩, rfl, rfl⟩
theorem RAt.ext {M M' : List Cn} {k j : Nat} {bs : List Int} {p : Nat} (h : RAt M k j bs p) (x : ∀ (i : Nat) (c : Cn), M[i]? = some c → M'[i]? = some c) : RAt M' k j bs p := ⟨x _ _ h.ho, x _ _ h.hl, h.ne, h.bd, h.few, h.le⟩
theorem app_ext (M T : List Cn) (i : Nat) (c : Cn) (h : M[i]? = some c) : (M ++ T)[i]? = some c := by rw [List.getElem?_append_left (List.getElem?_eq_some_iff.mp h).1]; exact h
theorem row_ok' (c : Int) (M : List Cn) : Fo (fun a M' => ∃ bs : List Int, a = .new (.lst (bs.map D.int)) ∧ bs.length ≤ 8 ∧ (∀ b ∈ bs, 0 ≤ b ∧ b ≤ 255) ∧ M = M') (m_l_row [.int c, .int 8] M) := by
  walk_at "f0"; unfold b_l_row
  walk_at "w"
  refine fo_use (mixed_ok c (by decide) (by decide) _) ?_
  rintro _ _ ⟨x, rfl, hx0, hx1, rfl⟩
  walk_at "w"
  obtain ⟨n, en, hn0, hn1⟩ : ∃ n : Int, x % (8 + 1) = n ∧ 0 ≤ n ∧ n ≤ 8 := ⟨_, rfl, by omega, by omega⟩
  rw [en]
  refine fo_use (mixed_ok c (by decide) (by decide) _) ?_
  rintro _ _ ⟨w, rfl, hw0, hw1, rfl⟩
  walk_at "w"
  refine z_if (fun h0 => ?_) (fun h0 => ?_)
  · walk_at "w"
    refine w_lcInv (fun i acc s => ∃ L : List Int, acc = L.map D.int ∧ L.length = i ∧ (∀ b ∈ L, 0 ≤ b ∧ b ≤ 255) ∧ s = ⟨[some (.fz (.int c)), some (.fz (.int 8)), some (.fz (.int n)), some (.fz (.int (w % 4))), none], M⟩) ⟨[], rfl, rfl, by simp, rfl⟩ (by rw [rng_len]; show _ ≤ 16777216; omega) ?_ ?_
    · rintro i y acc s hi ⟨L, rfl, hLi, hL, rfl⟩
      obtain ⟨hi1, rfl⟩ := rng_get hi
      walk_at "w"
      refine fo_use (mixed_ok c (by omega) (by omega) _) ?_
      rintro _ _ ⟨x, rfl, hx0, hx1, rfl⟩
      walk_at "w"
      refine w_ixI (ns := [0, 255, 165, 90]) rfl rfl rfl (by omega) (by show x % 4 < 4; omega) ?_
      obtain ⟨v, ev, hv1, hv2⟩ : ∃ v : Int, ([0, 255, 165, 90] : List Int).getD (x % 4).toNat 0 = v ∧ 0 ≤ v ∧ v ≤ 255 := by
        rcases (show x % 4 = 0 ∨ x % 4 = 1 ∨ x % 4 = 2 ∨ x % 4 = 3 by omega) with e | e | e | e <;> rw [e]
        · exact ⟨0, rfl, by decide, by decide⟩
        · exact ⟨255, rfl, by decide, by decide⟩
        · exact ⟨165, rfl, by decide, by decide⟩
        · exact ⟨90, rfl, by decide, by decide⟩
      rw [ev]
      walk_at "w"
      refine ⟨L ++ [v], by rw [List.map_append]; rfl, by rw [List.length_append, hLi]; rfl, fun b hb => ?_, rfl⟩
      rcases List.mem_append.mp hb with z | z
      · exact hL b z
      · rw [List.mem_singleton.mp z]; exact ⟨hv1, hv2⟩
    · rintro _ s ⟨L, rfl, hLi, hL, rfl⟩
      rw [rng_len] at hLi
      walk_at "ds"
      walk_at "w"
      exact ⟨L, rfl, by omega, hL, rfl⟩
  · walk_at "w"
    refine z_if (fun h1 => ?_) (fun h1 => ?_)
    · walk_at "w"
      refine fo_use (mixed_ok c (by decide) (by decide) _) ?_
      rintro _ _ ⟨x, rfl, hx0, hx1, rfl⟩
      walk_at "w"
      refine w_mulL (l := [.int (x % 256)]) rfl rfl ⟨by omega, by omega, by show 1 * _ ≤ 16777216; omega⟩ ?_
      walk_at "w"
      refine ⟨List.replicate n.toNat (x % 256), ?_, by rw [List.length_replicate]; omega, fun b hb => by rw [List.eq_of_mem_replicate hb]; omega, rfl⟩
      rw [List.map_replicate]
      congr 2
      generalize n.toNat = q
      induction q with
      | zero => rfl
      | succ q ih => rw [List.replicate_succ, List.flatten_cons, ih, List.replicate_succ]; rfl
    · walk_at "w"
      refine w_lcInv (fun i acc s => ∃ L : List Int, acc = L.map D.int ∧ L.length = i ∧ (∀ b ∈ L, 0 ≤ b ∧ b ≤ 255) ∧ s = ⟨[some (.fz (.int c)), some (.fz (.int 8)), some (.fz (.int n)), some (.fz (.int (w % 4))), none], M⟩) ⟨[], rfl, rfl, by simp, rfl⟩ (by rw [rng_len]; show _ ≤ 16777216; omega) ?_ ?_
      · rintro i y acc s hi ⟨L, rfl, hLi, hL, rfl⟩
        obtain ⟨hi1, rfl⟩ := rng_get hi
        walk_at "w"
        refine fo_use (mixed_ok c (by omega) (by omega) _) ?_
        rintro _ _ ⟨x, rfl, hx0, hx1, rfl⟩
        walk_at "w"
        refine ⟨L ++ [x % 256], by rw [List.map_append]; rfl, by rw [List.length_append, hLi]; rfl, fun b hb => ?_, rfl⟩
        rcases List.mem_append.mp hb with z | z
        · exact hL b z
        · rw [List.mem_singleton.mp z]; omega
      · rintro _ s ⟨L, rfl, hLi, hL, rfl⟩
        rw [rng_len] at hLi
        walk_at "ds"
        walk_at "w"
        exact ⟨L, rfl, by omega, hL, rfl⟩
theorem rnew_rat {M : List Cn} {bs : List Int} {q : Nat} (hb : ∀ b ∈ bs, 0 ≤ b ∧ b ≤ 255) (hf : bs.length ≤ 100000) (hq : q ≤ bs.length) : RAt ((M ++ [Cn.obj 15 []] ++ [Cn.lst (bs.map D.int)]).set M.length (.obj 15 (rfd (.cid (M.length + 1)) (.int ((8 * q : Nat) : Int))))) M.length (M.length + 1) bs (8 * q) ∧ ∀ (i : Nat) (c : Cn), M[i]? = some c → ((M ++ [Cn.obj 15 []] ++ [Cn.lst (bs.map D.int)]).set M.length (.obj 15 (rfd (.cid (M.length + 1)) (.int ((8 * q : Nat) : Int)))))[i]? = some c := by
  have hl : (M ++ [Cn.obj 15 []] ++ [Cn.lst (bs.map D.int)]).length = M.length + 2 := by rw [List.length_append, List.length_append]; rfl
  refine ⟨⟨List.getElem?_set_self (by omega), ?_, by omega, hb, hf, by omega⟩, fun i c h => ?_⟩
  · rw [List.getElem?_set_ne (by omega), List.getElem?_append_right (by rw [List.length_append]; show M.length + 1 ≤ _; omega), List.length_append]
    show [Cn.lst (bs.map D.int)][M.length + 1 - (M.length + 1)]? = _
    rw [Nat.sub_self]; rfl
  · have hi := (List.getElem?_eq_some_iff.mp h).1
    rw [List.getElem?_set_ne (by omega)]
    exact app_ext _ _ _ _ (app_ext _ _ _ _ h)
theorem rmake {M : List Cn} {bs : List Int} {q : Nat} (hb : ∀ b ∈ bs, 0 ≤ b ∧ b ≤ 255) (hf : bs.length ≤ 100000) (hq : q ≤ bs.length) : Fo (fun a M' => a = .val .non ∧ RAt M' M.length (M.length + 1) bs (8 * q) ∧ ∀ (i : Nat) (c : Cn), M[i]? = some c → M'[i]? = some c) (m_Reader_init [.cid M.length, .lst (bs.map D.int), .int (q : Int)] (M ++ [.obj 15 []])) := by
  refine fo_eq (rinit_ok (k := M.length) (M := M ++ [.obj 15 []]) (by rw [List.getElem?_append_right (Nat.le_refl _), Nat.sub_self]; rfl) (by rw [List.length_append]; rfl) hq hf) ?_
  obtain ⟨h1, h2⟩ := rnew_rat (M := M) hb hf hq
  exact ⟨rfl, h1, h2⟩
theorem py_two (a b : Int) (s : Stt) : pyOf s (.val (.tup [.int a, .int b])) = some (.tuple [.int a, .int b]) := rfl
theorem lay_two (a b : Int) : Lay 2 (.tuple [.int a, .int b]) := lay_tup fun x hx => by
  simp only [List.mem_cons, List.not_mem_nil, or_false] at hx
  rcases hx with rfl | rfl <;> exact lay_int
theorem RAt.set_ext {M : List Cn} {k : Nat} {c : Cn} (i : Nat) (x : Cn) (hi : i ≠ k) (h : M[i]? = some x) : (M.set k c)[i]? = some x := by rw [List.getElem?_set_ne (Ne.symm hi)]; exact h
theorem reader_right_ok (c : Int) (M : List Cn) : Fo (fun a _ => a = .val (.bl true)) (m_l_reader_right [.int c] M) := by
  walk_at "f0"; unfold b_l_reader_right
  walk_at "w"
  refine fo_use (row_ok' c M) ?_
  rintro _ _ ⟨b0, rfl, hb0, hb1, rfl⟩
  walk_at "w"
  refine fo_use (mixed_ok c (by decide) (by decide) _) ?_
  rintro _ _ ⟨x, rfl, hx0, hx1, rfl⟩
  walk_at "w"
  refine w_addL (l := b0.map D.int) (l' := [.int (x % 256)]) rfl rfl rfl (by rw [List.length_map]; show _ + 1 ≤ 16777216; omega) ?_
  obtain ⟨bs, ebs, hl1, hl2, hbd⟩ : ∃ bs : List Int, b0.map D.int ++ [.int (x % 256)] = bs.map D.int ∧ 1 ≤ bs.length ∧ bs.length ≤ 9 ∧ ∀ b ∈ bs, 0 ≤ b ∧ b ≤ 255 := by
    refine ⟨b0 ++ [x % 256], by rw [List.map_append]; rfl, by rw [List.length_append]; show 1 ≤ _ + 1; omega, by rw [List.length_append]; show _ + 1 ≤ 9; omega, fun b hb => ?_⟩
    rcases List.mem_append.mp hb with z | z
    · exact hb1 b z
    · rw [List.mem_singleton.mp z]; omega
  rw [ebs]
  walk_at "w"
  refine fo_use (rmake (M := M) (bs := bs) (q := 0) hbd (by omega) (by omega)) ?_
  rintro _ M1 ⟨rfl, hR, hX⟩
  generalize M.length = k at hR ⊢
  refine ⟨rfl, ?_⟩
  have ho := hR.ho
  walk_at "w"
  refine fo_use (mixed_ok c (by decide) (by decide) _) ?_
  rintro _ _ ⟨x, rfl, hx0, hx1, rfl⟩
  walk_at "w"
  rw [List.length_map]
  walk_at "w"
  obtain ⟨p, ep, hp1, hp2⟩ : ∃ p : Nat, x % min 60 (8 * (bs.length : Int)) = (p : Int) ∧ p ≤ 60 ∧ p < 8 * bs.length := by
    have h1 := Int.emod_nonneg x (b := min 60 (8 * (bs.length : Int))) (by omega)
    have h2 := Int.emod_lt_of_pos x (b := min 60 (8 * (bs.length : Int))) (by omega)
    exact ⟨(x % min 60 (8 * (bs.length : Int))).toNat, by omega, by omega, by omega⟩
  rw [ep]
  refine fo_eq (take_ok hR (m := p) (by omega) (by omega)) ?_
  have hR2 := hR.set (q := 8 * 0 + p) (by omega)
  rw [show 8 * 0 + p = p by omega] at hR2 ⊢
  generalize M1.set k (.obj 15 (rfd (.cid (k + 1)) (.int (p : Int)))) = M2 at hR2 ⊢
  have ho2 := hR2.ho
  walk_at "w"
  refine fo_use (mixed_ok c (by decide) (by decide) _) ?_
  rintro _ _ ⟨x, rfl, hx0, hx1, rfl⟩
  walk_at "w"
  obtain ⟨f, ef, hf0⟩ : ∃ f : Int, 1 + x = f ∧ 1 ≤ f := ⟨_, rfl, by omega⟩
  rw [ef]
  refine fo_eq (left_ok hR2) ?_
  walk_at "w"
  refine fo_eq (place_ok hR2) ?_
  walk_at "w"
  refine w_ixT (l := [.int (8 * (bs.length : Int) - (p : Int)), .int (((p : Int) + 7) / 8)]) (d := .int (8 * (bs.length : Int) - (p : Int))) rfl rfl rfl rfl rfl ?_
  walk_at "w"
  have hb : ∀ y ∈ ([.int (-1), .int (0 - f), .int 65, .int (64 + f), .int (8 * (bs.length : Int) - (p : Int) + 1), .bl true, .non, .str (Str.ofString "1")] : List D), BadT bs p y := by
    intro y hy
    simp only [List.mem_cons, List.not_mem_nil, or_false] at hy
    rcases hy with rfl | rfl | rfl | rfl | rfl | rfl | rfl | rfl
    · exact fun k j M _ => rtake_y1 (by omega) M
    · exact fun k j M _ => rtake_y1 (by omega) M
    · exact fun k j M _ => rtake_y2 (by omega) M
    · exact fun k j M _ => rtake_y2 (by omega) M
    · exact badT_left (by omega) (by omega)
    · exact fun k j M _ => rtake_y0 rfl M
    · exact fun k j M _ => rtake_y0 rfl M
    · exact fun k j M _ => rtake_y0 rfl M
  generalize ([.int (-1), .int (0 - f), .int 65, .int (64 + f), .int (8 * (bs.length : Int) - (p : Int) + 1), .bl true, .non, .str (Str.ofString "1")] : List D) = L at hb ⊢
  refine w_forN (fun i s => ∃ (e6 : Option Ent), s = ⟨[some (.fz (.int c)), some (.fz (.lst (bs.map D.int))), some (.fz (.cid k)), some (.fz (.int (p : Int))), some (.fz (.int f)), some (.fz (.tup [.int (8 * (bs.length : Int) - (p : Int)), .int (((p : Int) + 7) / 8)])), e6, none, none, none, none], M2⟩) ⟨_, rfl⟩ ?_ ?_
  · rintro i y s hi ⟨e6, rfl⟩
    have hbad := hb _ (List.mem_of_getElem? hi)
    walk_at "w"
    refine fo_eq (take_ref hbad hR2) ?_
    walk_at "w"
    refine fo_eq (left_ok hR2) ?_
    walk_at "w"
    refine fo_eq (place_ok hR2) ?_
    walk_at "w"
    refine w_ne (eqOf_same (py_two _ _ _) (py_two _ _ _) ((lay_two _ _).shaped (by decide))) ?_
    walk_at "w"
    exact ⟨_, rfl⟩
  rintro s ⟨e6, rfl⟩
  walk_at "w"
  rw [List.length_map]
  have hb2 : ∀ y ∈ ([.int (-1), .int (0 - f), .int ((bs.length : Int) + 1), .int ((bs.length : Int) + f), .bl true, .non, .str (Str.ofString "0")] : List D), BadR bs y := by
    intro y hy
    simp only [List.mem_cons, List.not_mem_nil, or_false] at hy
    rcases hy with rfl | rfl | rfl | rfl | rfl | rfl | rfl
    · exact badR1 (by omega)
    · exact badR1 (by omega)
    · exact badR2 (by omega)
    · exact badR2 (by omega)
    · exact badR0 rfl
    · exact badR0 rfl
    · exact badR0 rfl
  generalize ([.int (-1), .int (0 - f), .int ((bs.length : Int) + 1), .int ((bs.length : Int) + f), .bl true, .non, .str (Str.ofString "0")] : List D) = L2 at hb2 ⊢
  refine w_forN (fun i s => ∃ (e7 : Option Ent) (M' : List Cn), s = ⟨[some (.fz (.int c)), some (.fz (.lst (bs.map D.int))), some (.fz (.cid k)), some (.fz (.int (p : Int))), some (.fz (.int f)), some (.fz (.tup [.int (8 * (bs.length : Int) - (p : Int)), .int (((p : Int) + 7) / 8)])), e6, e7, none, none, none], M'⟩ ∧ RAt M' k (k + 1) bs p) ⟨_, _, rfl, hR2⟩ ?_ ?_
  · rintro i y s hi ⟨e7, M', rfl, hR'⟩
    have hbad := hb2 _ (List.mem_of_getElem? hi)
    walk_at "w"
    refine fo_eq (made_ref hbad _) ?_
    walk_at "w"
    exact ⟨_, _, rfl, hR'.ext (app_ext _ _)⟩
  rintro s ⟨e7, M3, rfl, hR3⟩
  walk_at "w"
  refine fo_use (rmake (M := M3) (bs := bs) (q := 0) hbd (by omega) (by omega)) ?_
  rintro _ M4 ⟨rfl, hS, hX4⟩
  have hk3 : k + 1 < M3.length := (List.getElem?_eq_some_iff.mp hR3.hl).1
  have hR4 := hR3.ext hX4
  generalize M3.length = k2 at hS hk3 ⊢
  refine ⟨rfl, ?_⟩
  have hoS := hS.ho
  walk_at "w"
  refine fo_eq (take_ok hS (m := p) (by omega) (by omega)) ?_
  have hS5 := hS.set (q := 8 * 0 + p) (by omega)
  rw [show 8 * 0 + p = p by omega] at hS5 ⊢
  have hR5 : RAt (M4.set k2 (.obj 15 (rfd (.cid (k2 + 1)) (.int (p : Int))))) k (k + 1) bs p := ⟨RAt.set_ext _ _ (by omega) hR4.ho, RAt.set_ext _ _ (by omega) hR4.hl, hR4.ne, hbd, hR4.few, hR4.le⟩
  generalize M4.set k2 (.obj 15 (rfd (.cid (k2 + 1)) (.int (p : Int)))) = M5 at hS5 hR5 ⊢
  have hoS5 := hS5.ho
  have hoR5 := hR5.ho
  walk_at "w"
  refine w_ixT (l := [.int (8 * (bs.length : Int) - (p : Int)), .int (((p : Int) + 7) / 8)]) (d := .int (8 * (bs.length : Int) - (p : Int))) rfl rfl rfl rfl rfl ?_
  walk_at "w"
  obtain ⟨r, er, hr1, hr2⟩ : ∃ r : Nat, min 64 (8 * (bs.length : Int) - (p : Int)) = (r : Int) ∧ r ≤ 64 ∧ p + r ≤ 8 * bs.length := ⟨(min 64 (8 * (bs.length : Int) - (p : Int))).toNat, by omega, by omega, by omega⟩
  rw [er]
  refine fo_eq (take_ok hR5 hr1 hr2) ?_
  have hR6 := hR5.set (q := p + r) hr2
  have hS6 : RAt (M5.set k (.obj 15 (rfd (.cid (k + 1)) (.int ((p + r : Nat) : Int))))) k2 (k2 + 1) bs p := ⟨RAt.set_ext _ _ (by omega) hS5.ho, RAt.set_ext _ _ (by omega) hS5.hl, hS5.ne, hbd, hS5.few, hS5.le⟩
  generalize M5.set k (.obj 15 (rfd (.cid (k + 1)) (.int ((p + r : Nat) : Int)))) = M6 at hR6 hS6 ⊢
  have hoS6 := hS6.ho
  walk_at "w"
  refine fo_eq (take_ok hS6 hr1 hr2) ?_
  have hR7 : RAt (M6.set k2 (.obj 15 (rfd (.cid (k2 + 1)) (.int ((p + r : Nat) : Int))))) k (k + 1) bs (p + r) := ⟨RAt.set_ext _ _ (by omega) hR6.ho, RAt.set_ext _ _ (by omega) hR6.hl, hR6.ne, hbd, hR6.few, hR6.le⟩
  generalize M6.set k2 (.obj 15 (rfd (.cid (k2 + 1)) (.int ((p + r : Nat) : Int)))) = M7 at hR7 ⊢
  have hoR7 := hR7.ho
  walk_at "w"
  refine fo_eq (take_ok hR7 (m := 0) (by decide) (by omega)) ?_
  rw [show val (((bitsOf bs).drop (p + r)).take 0) = 0 from by rw [List.take_zero]; rfl]
  generalize M7.set k (.obj 15 (rfd (.cid (k + 1)) (.int ((p + r + 0 : Nat) : Int)))) = M8
  walk_at "w"
  rw [List.length_map]
  refine fo_use (rmake (M := M8) (bs := bs) (q := bs.length) hbd (by omega) (Nat.le_refl _)) ?_
  rintro _ M9 ⟨rfl, hE, _⟩
  generalize M8.length = k3 at hE ⊢
  refine ⟨rfl, ?_⟩
  have hoE := hE.ho
  walk_at "w"
  refine fo_eq (left_ok hE) ?_
  walk_at "w"
  refine fo_eq (place_ok hE) ?_
  walk_at "w"
  rw [List.length_map]
  walk_at "w"
  refine fo_eq (take_ok hE (m := 0) (by decide) (by omega)) ?_
  rw [show val (((bitsOf bs).drop (8 * bs.length)).take 0) = 0 from by rw [List.take_zero]; rfl]
  have hE2 := hE.set (q := 8 * bs.length + 0) (by omega)
  generalize M9.set k3 (.obj 15 (rfd (.cid (k3 + 1)) (.int ((8 * bs.length + 0 : Nat) : Int)))) = MA at hE2 ⊢
  have hoE2 := hE2.ho
  walk_at "w"
  have hpd : padd (8 * bs.length + 0) = 0 := by unfold padd; omega
  refine fo_eq (ended_ok hE2 (by rw [hpd, List.take_zero]; rfl)) ?_
  walk_at "w"
  exact rfl
theorem lawT (ns : List Int) (hn : ns.length ≤ 63) : ∃ M', m_law [.clst (ns.map D.int)] [] = .ok (.val (.bl true)) M' := by
  suffices H : Fo (fun a _ => a = .val (.bl true)) (m_law [.clst (ns.map D.int)] []) by
    cases q : m_law [.clst (ns.map D.int)] [] with
    | ok a M2 => rw [q] at H; obtain rfl := H; exact ⟨M2, rfl⟩
    | er e M2 => rw [q] at H; exact False.elim H
    | no => rw [q] at H; exact False.elim H
  walk_at "f0"; unfold b_law
  walk_at "w"
  rw [cutL_map, cutL_to _ (by decide)]
  have hl := List.length_take_le (Int.toNat 20) ns
  have hl : (ns.take (Int.toNat 20)).length ≤ 20 := hl
  generalize ns.take (Int.toNat 20) = xs at hl ⊢
  refine w_addL (l := [.int 0, .int 1]) (l' := xs.map D.int) rfl rfl rfl (by rw [List.length_map]; show 2 + _ ≤ 16777216; omega) ?_
  rw [show [D.int 0, .int 1] ++ xs.map D.int = (0 :: 1 :: xs).map D.int from rfl]
  walk_at "w"
  refine w_forN (fun i s => ∃ (e1 : Option Ent) (M : List Cn), s = ⟨[some (.fz (.clst (ns.map D.int))), e1], M⟩) ⟨_, _, rfl⟩ ?_ ?_
  · rintro i y s hi ⟨e1, M, rfl⟩
    obtain ⟨x, hx, rfl⟩ := map_get hi
    walk_at "w"
    refine fo_use (writer_right_ok x M) ?_
    rintro _ M1 rfl
    walk_at "w"
    refine fo_use (reader_right_ok x M1) ?_
    rintro _ M2 rfl
    walk_at "w"
    exact ⟨_, _, rfl⟩
  · rintro s ⟨e1, M, rfl⟩
    walk_at "w"
    rfl
theorem ok_law' {P : Program} {w : World} {K : PySem.W.Frag} {mg : Str → Option Value} {base : Heap} (hl : ∀ ns : List Int, ns.length ≤ 63 → ∃ M', m_law [.clst (ns.map D.int)] [] = .ok (.val (.bl true)) M') (T : Tx K mg) : FnOk P w K mg base CX0 8 T.a_law T.d_law ["_law_script"] (spLaw K) :=
  (ok_law T).imp (fun vs H Q E h => by
    obtain ⟨a, ns, rfl, hS, hn, _, q⟩ := h
    obtain ⟨M', e⟩ := hl ns hn
    refine ⟨⟨H, fun _ => 0, fun _ => none⟩, [], [.clst (ns.map D.int)], ⟨(fun _ _ e => by rw [show (ctT T).lk = none from rfl, U0]; exact e), (fun a l e => nomatch e), fun _ e => e, rfl, (fun i e q => by simp at q), (fun k c q => by simp at q)⟩, .cons (.clst hS (rpl_ints ns)) .nil, ?_⟩
    rw [e]
    intro S' v H' st rel it
    cases rp_bl it
    exact q H')
end K04
theorem PySem.Challenge.cw_tornshelf_k04_bits_refused_holds : PySem.Challenge.rw_tornshelf_k04_bits_refused.Holds :=
  K04.early fun T => K04.ok_law' K04.lawT T
