import PyProof.Rows.All
import Wide.All
import OpenK.AllK
import Wide.FinOn
import HandS.ForMost
import HandS.Wide
import HandS.Exc
import HandS.TryOnly
import HandS.ExcOwn
import HandS.ExcInit
import HandS.IsInst
import HandS.Flow
import HandS.Defaults
import HandS.Walk
import HandS.Text
import HandS.Conv
import HandS.Deep
import PySem.Challenge.RW_callcoin_k24_rules_written
import HandS.WordsExc
import HandS.FStr
import KE.KCallOwn
import HandS.Zip
import KE.IntTextLaws
import KE.KIntText
set_option Elab.async false
set_option linter.all false
set_option maxRecDepth 90000
set_option maxHeartbeats 3999999
/-! CC: a layer of our own over HandS, for all laws of this program -/
namespace CC
open PySem PySem.Spec PyProof.Rows L2

/-! ### rules within a comprehension's block: the written part told by its name -/
section
variable {X : Cx}
theorem opK {K : PySem.W.Frag} {f : Value → Value → Sem Value} (r : PySem.W.Frag → R2) (h : OpR X f (r X.K)) (e : X.K = K := by rfl) : OpR X f (r K) := by
  subst e
  exact h
theorem ixK {K : PySem.W.Frag} (r : PySem.W.Frag → R2) (h : IxR X (r X.K)) (e : X.K = K := by rfl) : IxR X (r K) := by
  subst e
  exact h
theorem callK {K : PySem.W.Frag} {f : Value} (r : PySem.W.Frag → List V → Hp → VK → Prop) (h : CallR X f (r X.K)) (e : X.K = K := by rfl) : CallR X f (r K) := by
  subst e
  exact h
theorem pe_bmK {K : PySem.W.Frag} {o e : Expr} {es : List Expr} {to : TE} {t : TA} {name : Str} {apos cpos : Pos} {T id : String} {r : V → List V → Hp → VK → Prop} (pa : PlainAttrs T) (slot : Slot T name id) (hty : typeOf (.builtin id) = pure (.type "method_descriptor")) (hm : MtR X id r) (ho : PE X o to) (ha : PA X (e :: es) t)
    (hbase : attributeBase o name X.env (eval o X.env) = eval o X.env := by rfl)
    (hfew : ((backTo cpos (starEach (e :: es) X.env)).all (fun x => !x.1) && (backToKw cpos (keywordEach [] X.env)).all (fun x => x.1.isSome)
      && decide ((e :: es).length + ([] : List Keyword).length + (if ([] : List Keyword).isEmpty then 0 else 1) < 30)) = true := by rfl)
    (hline : (apos.endLine == cpos.line) = true := by rfl) (he : starEach (e :: es) X.env = (false, eval e X.env) :: starEach es X.env := by rfl) (hpl : (backTo cpos (starEach es X.env)).any (·.1) = false := by rfl) (eK : X.K = K := by rfl) :
    PE X (.Call (.Attribute o name apos) (e :: es) [] cpos) (tBM K T r to t) := by
  subst eK
  exact pe_bm pa slot hty hm ho ha hbase hfew hline he hpl
theorem pe_fldK {K : PySem.W.Frag} {e : Expr} {f : Str} {pos : Pos} {ta : TE} (he : PE X e ta) (hb : attributeBase e f X.env (eval e X.env) = eval e X.env := by rfl) (eK : X.K = K := by rfl) : PE X (.Attribute e f pos) (tFld K ta f) := by
  subst eK
  exact pe_fld he hb
theorem pg_tupK {K : PySem.W.Frag} {es : List Expr} {k : Nat} {t : TGs} {n : Nat} {pos : Pos} (hc : X.calm = true) (h : PGs X es t) (hn : (assignEach es X.env).length = n := by rfl) (hst : (assignEach es X.env).findIdx? (·.1) = none := by rfl) (eK : X.K = K := by rfl) : PG X (.Tuple es k pos) (gTup K n t) := by
  subst eK
  exact pg_tup hc h hn hst
theorem peK {K : PySem.W.Frag} {ex : Expr} (t : PySem.W.Frag → TE) (h : PE X ex (t X.K)) (e : X.K = K := by rfl) : PE X ex (t K) := by
  subst e
  exact h
end
/-! ### a def that may be called by its name; a method -/
structure Cal (P : Program) (w : World) (K : PySem.W.Frag) (mg : Str → Option Value) (base : Heap) (CX : CXT) (k : Nat) (x : Str) (ps : List Str) (sp : Sp) (dvs : List V) : Prop where
  ex : ∃ (f : Addr) (fd : FuncData) (ds : List Value), FnOk P w K mg base CX k f fd ps sp ∧ mg x = some (.ref f) ∧ PySem.W.keepIn K (.ref f) = true ∧ Binds K fd ps ds ∧ Vals dvs ds
structure Mcal (P : Program) (w : World) (K : PySem.W.Frag) (mg : Str → Option Value) (base : Heap) (CX : CXT) (k : Nat) (C : Addr) (m : Str) (ps : List Str) (sp : Sp) (dvs : List V) : Prop where
  ex : ∃ (f : Addr) (fd : FuncData) (ds : List Value), FnOk P w K mg base CX k f fd ps sp ∧ Cls K C ∧ Meth K C m f ∧ Binds K fd ps ds ∧ Vals dvs ds
structure Mkal (P : Program) (w : World) (K : PySem.W.Frag) (mg : Str → Option Value) (base : Heap) (CX : CXT) (k : Nat) (C : Addr) (x : Str) (ps : List Str) (sp : Sp) (dvs : List V) : Prop where
  ex : ∃ (f : Addr) (fd : FuncData) (ds : List Value), FnOk P w K mg base CX k f fd ps sp ∧ Mk K C f ∧ mg x = some (.ref C) ∧ Binds K fd ps ds ∧ Vals dvs ds

/-! ### frames: what stands is kept but at d; a draw: the list [script, how many] at d -/
structure Dw where
  d : Addr
  s : Addr
  xs : List Int
structure DrawAt (K : PySem.W.Frag) (H : Hp) (D : Dw) : Prop where
  at_ : ∃ n : Int, H D.d = some (.lst [.ref D.s, .int n]) ∧ 0 ≤ n
  sq : SqL K H D.s (D.xs.map V.int)
  le : D.xs.length ≤ 63
structure Dr (K : PySem.W.Frag) (D : Dw) (H H' : Hp) : Prop where
  kp : ∀ b o, H b = some o → b ≠ D.d → H' b = some o
  old : DrawAt K H D
  dr : DrawAt K H' D
theorem Same.new {H : Hp} {p : Addr} {o : HO} (hp : H p = none) : Same H (upd H p o) := fun b u e => by
  rw [upd_ne (ne_of_none e hp)]
  exact e
theorem SqL.upd_new {K : PySem.W.Frag} {H : Hp} {a p : Addr} {o : HO} {xs : List V} (h : SqL K H a xs) (hp : H p = none) : SqL K (upd H p o) a xs := (Same.new hp).seq h
section
variable {K : PySem.W.Frag} {H H1 H2 H' : Hp} {D : Dw} {p a : Addr} {o : HO} {xs : List V}
theorem DrawAt.same (h : DrawAt K H D) (s : Same H H') : DrawAt K H' D := by
  obtain ⟨n, h1, h2⟩ := h.at_
  exact ⟨⟨n, s _ _ h1, h2⟩, s.seq h.sq, h.le⟩
theorem DrawAt.ne (h : DrawAt K H D) (hp : H p = none) : p ≠ D.d := fun z => by
  obtain ⟨n, e, _⟩ := h.at_
  rw [← z, hp] at e
  cases e
theorem DrawAt.neT (h : DrawAt K H D) {ys : List V} (hp : H p = some (.tup ys)) : p ≠ D.d := fun z => by
  obtain ⟨n, e, _⟩ := h.at_
  rw [← z, hp] at e
  cases e
theorem Dr.refl (h : DrawAt K H D) : Dr K D H H := ⟨fun _ _ e _ => e, h, h⟩
theorem Dr.trans (a : Dr K D H H1) (b : Dr K D H1 H2) : Dr K D H H2 := ⟨fun c o e n => b.kp c o (a.kp c o e n) n, a.old, b.dr⟩
theorem Dr.same (a : Dr K D H H1) (b : Same H1 H2) : Dr K D H H2 := ⟨fun c o e n => b c o (a.kp c o e n), a.old, a.dr.same b⟩
theorem Dr.new (a : Dr K D H H1) (hp : H1 p = none) : Dr K D H (upd H1 p o) := a.same (Same.new hp)
theorem Dr.ne (a : Dr K D H H1) (h : H1 p = none) : p ≠ D.d := a.dr.ne h
theorem Dr.free (a : Dr K D H H1) (h : H1 p = none) : H p = none := by
  cases q : H p with
  | none => rfl
  | some o =>
    rw [a.kp p o q (a.ne h)] at h
    cases h
/-- an object of ours, new since H, is changed -/
theorem Dr.loc (a : Dr K D H H1) (h : H p = none) : Dr K D H (upd H1 p o) := by
  have npd : p ≠ D.d := a.old.ne h
  obtain ⟨n, h1, h2⟩ := a.dr.at_
  refine ⟨fun b u e nb => ?_, a.old, ⟨n, by rw [upd_ne npd.symm]; exact h1, h2⟩, ?_, a.dr.le⟩
  · have q : b ≠ p := fun z => by rw [z, h] at e; cases e
    rw [upd_ne q]
    exact a.kp b u e nb
  · have hk : ∀ b u, H1 b = some u → b ≠ p → upd H1 p o b = some u := fun b u e nb => by
      rw [upd_ne nb]
      exact e
    rcases a.dr.sq with (z | ⟨ob, z⟩) | z
    · rcases a.old.sq with (y | ⟨ob, y⟩) | y
      · exact .inl (.inl (hk _ _ z (ne_of_none y h)))
      · exact .inl (.inl (hk _ _ z (ne_of_none y h)))
      · exact .inr y
    · rcases a.old.sq with (y | ⟨ob2, y⟩) | y
      · exact .inl (.inr ⟨ob, hk _ _ z (ne_of_none y h)⟩)
      · exact .inl (.inr ⟨ob, hk _ _ z (ne_of_none y h)⟩)
      · exact .inr y
    · exact .inr z
/-- the draw is counted on -/
theorem DrawAt.next (h : DrawAt K H D) {n : Int} (hn : 0 ≤ n) : Dr K D H (upd H D.d (.lst [.ref D.s, .int n])) := by
  refine ⟨fun b u e nb => by rw [upd_ne nb]; exact e, h, ⟨n, upd_same, hn⟩, ?_, h.le⟩
  obtain ⟨m, h1, _⟩ := h.at_
  rcases h.sq with (z | ⟨ob, z⟩) | z
  · have q : D.s ≠ D.d := ne_of z h1 (fun w => by
      have w2 := HO.lst.inj w
      cases hx : D.xs with
      | nil => rw [hx] at w2; cases w2
      | cons x r => rw [hx] at w2; injection w2 with w3 _; cases w3)
    exact .inl (.inl (by rw [upd_ne q]; exact z))
  · have q : D.s ≠ D.d := ne_of z h1 (fun w => by cases w)
    exact .inl (.inr ⟨ob, by rw [upd_ne q]; exact z⟩)
  · exact .inr z
end
/-- a draw from 0 to k - 1 -/
def spNext (K : PySem.W.Frag) : Sp := fun vs H Q _ => ∃ (D : Dw) (k : Int), vs = [.ref D.d, .int k] ∧ DrawAt K H D ∧ 0 < k ∧ ∀ (r : Int) (H' : Hp), Dr K D H H' → 0 ≤ r → r < k → Q (.int r) H'
/-! ### data: == over lists and tuples -/
theorem dps_ints {K : PySem.W.Frag} {H : Hp} : ∀ ns : List Int, DpAll K H (ns.map V.int) (ns.map PyData.int)
  | [] => .nil
  | n :: r => .cons (.int n) (dps_ints r)
theorem shaped_ints (ns : List Int) : SeqAt.shaped (.list (ns.map PyData.int)) = true := by
  have h : ∀ l : List Int, PyData.canLayAll0 (l.map PyData.int) = true := fun l => by
    induction l with
    | nil => rfl
    | cons x r ih => rw [List.map_cons]; simp only [PyData.canLayAll0, PyData.canLay0, ih, Bool.and_self]
  have d : ∀ l : List Int, PyData.depthAll (l.map PyData.int) = 0 := fun l => by
    induction l with
    | nil => rfl
    | cons x r ih => rw [List.map_cons]; simp only [PyData.depthAll, PyData.depth, ih, Nat.max_self]
  unfold SeqAt.shaped
  simp only [PyData.canLay0, h, Bool.true_and, PyData.depth, d]
  exact decide_eq_true (by decide)
theorem eqv_nil (ds : List PyData) : PyData.eqv (.list ds) (.list []) = ds.isEmpty := by
  cases ds <;> simp [PyData.eqv, PyData.eqvAll]
def spMixed : Sp := fun vs H Q _ => ∃ (c k : Int), vs = [.int c, .int k] ∧ 0 ≤ k ∧ k < 127 ∧ ∀ r : Int, 0 ≤ r → r < 2147483399 → Q (.int r) H
theorem atI_int {α : Type} {xs : List α} {i : Int} {v : α} (h0 : 0 ≤ i) (h : xs[i.toNat]? = some v) : atI xs i = some v := by
  have e : i = ((i.toNat : Nat) : Int) := by omega
  rw [e]
  exact atI_nat h

/-! ### names -/
/-- a name: one to eight small letters -/
def nm (x : Str) : Bool := decide (1 ≤ x.length) && decide (x.length ≤ 8) && x.cps.toList.all fun c => decide (97 ≤ c) && decide (c ≤ 122)
theorem nm_iff {x : Str} : nm x = true ↔ 1 ≤ x.length ∧ x.length ≤ 8 ∧ ∀ c ∈ x.cps.toList, 97 ≤ c ∧ c ≤ 122 := by
  unfold nm
  simp only [Bool.and_eq_true, decide_eq_true_eq, List.all_eq_true]
  exact ⟨fun h => ⟨h.1.1, h.1.2, h.2⟩, fun h => ⟨⟨h.1, h.2.1⟩, h.2.2⟩⟩
def abc : Str := "abcdefghijklmnopqrstuvwxyz"
theorem abc_list : abc.cps.toList = (List.range 26).map (· + 97) := by decide +kernel
theorem abc_at {j : Nat} (h : j < 26) : abc.cps.toList[j]? = some (j + 97) := by
  rw [abc_list, List.getElem?_map, List.getElem?_range h]
  rfl
theorem abc_at' {j c : Nat} (h : abc.cps[j]? = some c) : 97 ≤ c ∧ c ≤ 122 := by
  have h2 : abc.cps.toList[j]? = some c := by rw [Array.getElem?_toList]; exact h
  rw [abc_list, List.getElem?_map] at h2
  cases hx : (List.range 26)[j]? with
  | none => rw [hx] at h2; cases h2
  | some k =>
    rw [hx] at h2
    have hk := List.mem_range.mp (List.mem_of_getElem? hx)
    have e : k + 97 = c := Option.some.inj h2
    omega
theorem abc_size : abc.cps.size = 26 := by decide +kernel
def sg (c : Nat) : Str := ⟨#[c]⟩
theorem app_list (x y : Str) : (x ++ y).cps.toList = x.cps.toList ++ y.cps.toList := Array.toList_append
theorem app_len (x y : Str) : (x ++ y).length = x.length + y.length := Array.size_append
theorem sg_len (c : Nat) : (sg c).length = 1 := rfl
theorem str_ext {x y : Str} (h : x.cps.toList = y.cps.toList) : x = y := by
  cases x; cases y
  exact congrArg Str.mk (Array.toList_inj.mp h)
/-- one more letter -/
theorem nm_snoc {x : Str} {c : Nat} (h : x.length ≤ 7) (hx : ∀ c ∈ x.cps.toList, 97 ≤ c ∧ c ≤ 122) (h1 : 97 ≤ c) (h2 : c ≤ 122) : nm (x ++ sg c) = true := by
  rw [nm_iff, app_len, sg_len]
  refine ⟨by omega, by omega, fun d hd => ?_⟩
  rw [app_list] at hd
  rcases List.mem_append.mp hd with e | e
  · exact hx d e
  · have e2 : d = c := List.mem_singleton.mp e
    subst e2
    exact ⟨h1, h2⟩
theorem inV_strs (x : Str) (ws : List Str) : inV (.str x) (ws.map V.str) = decide (x ∈ ws) := by
  unfold inV
  rw [List.any_map]
  by_cases h : x ∈ ws
  · rw [decide_eq_true h]
    exact List.any_eq_true.mpr ⟨x, h, by show eqV (.str x) (.str x) = true; simp [eqV]⟩
  · rw [decide_eq_false h]
    refine List.any_eq_false.mpr fun y hy => ?_
    show ¬ eqV (.str y) (.str x) = true
    intro e
    simp [eqV] at e
    exact h (e ▸ hy)
theorem flats_strs (ws : List Str) : (ws.map V.str).all flatV = true := by
  rw [List.all_map]
  exact List.all_eq_true.mpr fun _ _ => rfl
/-- unlike things all within a list: not more than these -/
theorem len_le_of_sub {α : Type} [DecidableEq α] : ∀ (l ws : List α), l.Nodup → (∀ x ∈ l, x ∈ ws) → l.length ≤ ws.length
  | [], _, _, _ => Nat.zero_le _
  | x :: l, ws, hn, hs => by
    have hx := hs x (List.mem_cons_self ..)
    have hn' := List.nodup_cons.mp hn
    have ih := len_le_of_sub l (ws.erase x) hn'.2 fun y hy => (List.mem_erase_of_ne (fun e : y = x => hn'.1 (e ▸ hy))).mpr (hs y (List.mem_cons_of_mem _ hy))
    rw [List.length_erase_of_mem hx] at ih
    have := List.length_pos_of_mem hx
    rw [List.length_cons]
    omega
/-- a letter that makes another name than all these -/
theorem fresh_letter (x : Str) (ws : List Str) (h : ws.length < 26) : ∃ (j c : Nat), abc.cps[j]? = some c ∧ (x ++ sg c) ∉ ws := by
  by_cases q : ∀ (j c : Nat), abc.cps[j]? = some c → (x ++ sg c) ∈ ws
  · have hl := len_le_of_sub ((List.range 26).map fun j => x ++ sg (j + 97)) ws ?_ ?_
    · rw [List.length_map, List.length_range] at hl
      omega
    · rw [List.nodup_iff_pairwise_ne, List.pairwise_map]
      have hr : (List.range 26).Pairwise (· ≠ ·) := List.nodup_iff_pairwise_ne.mp List.nodup_range
      refine hr.imp fun {a b} hab e => hab ?_
      have e2 := congrArg (fun s : Str => s.cps.toList) e
      simp only [app_list] at e2
      have e3 := List.append_cancel_left e2
      have e4 : a + 97 = b + 97 := by
        have := congrArg List.head? e3
        exact Option.some.inj this
      omega
    · intro y hy
      obtain ⟨j, hj, rfl⟩ := List.mem_map.mp hy
      refine q j (j + 97) ?_
      rw [← Array.getElem?_toList]
      exact abc_at (List.mem_range.mp hj)
  · simp only [Classical.not_forall] at q
    obtain ⟨j, c, h1, h2⟩ := q
    exact ⟨j, c, h1, h2⟩
theorem cut7 (x : Str) (h : nm x = true) : (cutS x none (some 7)).length ≤ 7 ∧ ∀ c ∈ (cutS x none (some 7)).cps.toList, 97 ≤ c ∧ c ≤ 122 := by
  have hx := nm_iff.mp h
  refine ⟨?_, fun c hc => hx.2.2 c ?_⟩
  · show (List.toArray _).size ≤ 7
    rw [List.size_toArray, List.length_take]
    rw [show HT.sIx x.length x.length (some 7) = min 7 x.length from HT.sIx_nat x.length x.length 7]
    omega
  · have hc' : c ∈ ((x.cps.toList.drop (HT.sIx x.length 0 none)).take (HT.sIx x.length x.length (some 7) - HT.sIx x.length 0 none)) := hc
    exact List.mem_of_mem_drop (List.mem_of_mem_take hc')
theorem small_str {x : Str} {n : Nat} (h : x.length ≤ n) (hn : n ≤ 1000) : x.length ≤ sizeLine := Nat.le_trans h (Nat.le_trans hn (by decide))
def spWord (K : PySem.W.Frag) : Sp := fun vs H Q _ => ∃ D : Dw, vs = [.ref D.d] ∧ DrawAt K H D ∧ ∀ (x : Str) (H' : Hp), Dr K D H H' → nm x = true → Q (.str x) H'
def spWords (K : PySem.W.Frag) : Sp := fun vs H Q _ => ∃ (D : Dw) (n : Int), vs = [.ref D.d, .int n] ∧ DrawAt K H D ∧ 0 ≤ n ∧ n ≤ 20 ∧
  ∀ (p : Addr) (ws : List Str) (H' : Hp), Dr K D H H' → H p = none → H' p = some (.lst (ws.map V.str)) → (ws.length : Int) = n → ws.Nodup → (∀ x ∈ ws, nm x = true) → Q (.ref p) H'

/-! ### tuples stay -/
def TK (H H' : Hp) : Prop := ∀ a xs, H a = some (.tup xs) → H' a = some (.tup xs)
section
variable {K : PySem.W.Frag} {H H1 H2 H' : Hp} {D : Dw} {p a : Addr} {o : HO} {xs : List V}
theorem TK.refl : TK H H := fun _ _ h => h
theorem TK.trans (h : TK H H1) (h' : TK H1 H2) : TK H H2 := fun a xs e => h' a xs (h a xs e)
theorem TK.same (h : Same H H1) : TK H H1 := fun _ _ e => h _ _ e
theorem Dr.tk (h : Dr K D H H1) : TK H H1 := fun a xs e => h.kp a _ e (h.old.neT e)
theorem TK.new (hp : H p = none) : TK H (upd H p o) := TK.same (Same.new hp)
theorem TK.lst (hp : H p = some (.lst xs)) : TK H (upd H p o) := fun a ys e => by
  rw [upd_ne (ne_of e hp (fun z => by cases z))]
  exact e
theorem TK.dT {kvs : List (List Key × V)} (hp : H p = some (.dT kvs)) : TK H (upd H p o) := fun a ys e => by
  rw [upd_ne (ne_of e hp (fun z => by cases z))]
  exact e
end
/-! ### goods and rows -/
abbrev Gd := Str × Str
abbrev gT (g : Gd) : HO := .tup [.str g.1, .str g.2]
def GoodsAt (H : Hp) (as : List Addr) (gs : List Gd) : Prop := Paired (fun a g => H a = some (gT g)) as gs
structure Rw where
  t1 : Str
  k1 : Str
  m1 : Int
  t2 : Str
  k2 : Str
  m2 : Int
  deriving DecidableEq
abbrev Rw.g1 (r : Rw) : Gd := (r.t1, r.k1)
abbrev Rw.g2 (r : Rw) : Gd := (r.t2, r.k2)
abbrev rT (r : Rw) : HO := .tup [.str r.t1, .str r.k1, .int r.m1, .str r.t2, .str r.k2, .int r.m2]
def RowsAt (H : Hp) (as : List Addr) (rs : List Rw) : Prop := Paired (fun a r => H a = some (rT r)) as rs
def GoodOk (g : Gd) : Prop := nm g.1 = true ∧ nm g.2 = true
structure RowOk (gs : List Gd) (r : Rw) : Prop where
  i1 : r.g1 ∈ gs
  i2 : r.g2 ∈ gs
  ne : r.g1 ≠ r.g2
  a1 : 1 ≤ r.m1
  b1 : r.m1 ≤ 1000000
  a2 : 1 ≤ r.m2
  b2 : r.m2 ≤ 1000000
section
variable {H H1 H2 H' : Hp} {as bs : List Addr} {gs hs : List Gd} {rs : List Rw}
theorem GoodsAt.tk (h : GoodsAt H as gs) (t : TK H H1) : GoodsAt H1 as gs := Paired.mapP h fun _ _ e => t _ _ e
theorem RowsAt.tk (h : RowsAt H as rs) (t : TK H H1) : RowsAt H1 as rs := Paired.mapP h fun _ _ e => t _ _ e
theorem paired_get {α β : Type} {F : α → β → Prop} : ∀ {l₁ : List α} {l₂ : List β} {i : Nat} {b : β}, Paired F l₁ l₂ → l₂[i]? = some b → ∃ a, l₁[i]? = some a ∧ F a b
  | _, _, _, _, .nil, h => by simp at h
  | _, _, 0, b, .cons (a := a) r t, h => by
    have e := Option.some.inj h
    subst e
    exact ⟨a, rfl, r⟩
  | _, _, i + 1, b, .cons r t, h => by
    obtain ⟨a, e, q⟩ := paired_get (i := i) (b := b) t h
    exact ⟨a, e, q⟩
theorem paired_get1 {α β : Type} {F : α → β → Prop} : ∀ {l₁ : List α} {l₂ : List β} {i : Nat} {a : α}, Paired F l₁ l₂ → l₁[i]? = some a → ∃ b, l₂[i]? = some b ∧ F a b
  | _, _, _, _, .nil, h => by simp at h
  | _, _, 0, b, .cons (b := c) r t, h => by
    have e := Option.some.inj h
    subst e
    exact ⟨c, rfl, r⟩
  | _, _, i + 1, b, .cons r t, h => by
    obtain ⟨a, e, q⟩ := paired_get1 (i := i) (a := b) t h
    exact ⟨a, e, q⟩
theorem paired_app {α β : Type} {F : α → β → Prop} : ∀ {l₁ : List α} {l₂ : List β} {m₁ : List α} {m₂ : List β}, Paired F l₁ l₂ → Paired F m₁ m₂ → Paired F (l₁ ++ m₁) (l₂ ++ m₂)
  | _, _, _, _, .nil, s => s
  | _, _, _, _, .cons r t, s => .cons r (paired_app t s)
theorem paired_snoc {α β : Type} {F : α → β → Prop} {l₁ : List α} {l₂ : List β} {a : α} {b : β} (h : Paired F l₁ l₂) (r : F a b) : Paired F (l₁ ++ [a]) (l₂ ++ [b]) := paired_app h (.cons r .nil)
theorem paired_erase {α β : Type} {F : α → β → Prop} : ∀ {l₁ : List α} {l₂ : List β} (k : Nat), Paired F l₁ l₂ → Paired F (l₁.eraseIdx k) (l₂.eraseIdx k)
  | _, _, _, .nil => .nil
  | _, _, 0, .cons _ t => t
  | _, _, k + 1, .cons r t => .cons r (paired_erase k t)
theorem erase_perm {α : Type} : ∀ {l : List α} {k : Nat} {x : α}, l[k]? = some x → (x :: l.eraseIdx k).Perm l
  | [], _, _, h => by simp at h
  | y :: l, 0, x, h => by
    have e : y = x := Option.some.inj h
    subst e
    exact List.Perm.refl _
  | y :: l, k + 1, x, h => (List.Perm.swap y x (l.eraseIdx k)).trans ((erase_perm (l := l) (k := k) (x := x) h).cons y)
theorem lst_get {α : Type} {f : α → V} {l : List α} {i : Nat} {y : V} (h : (l.map f)[i]? = some y) : ∃ x, l[i]? = some x ∧ y = f x := by
  rw [List.getElem?_map] at h
  cases e : l[i]? with
  | none => rw [e] at h; cases h
  | some x => rw [e] at h; exact ⟨x, rfl, (Option.some.inj h).symm⟩
theorem map_get {α : Type} {f : α → V} {l : List α} {i : Nat} {x : α} (h : l[i]? = some x) : (l.map f)[i]? = some (f x) := by
  rw [List.getElem?_map, h]
  rfl
theorem seqIx {i : Int} {n : Nat} (h0 : 0 ≤ i) (h : i < n) : seqIndex? i n = some i.toNat := by
  unfold seqIndex?
  simp only [show ¬ i < 0 by omega, if_false, show 0 ≤ i by omega, h]
  rfl
end
theorem map_erase {α β : Type} (f : α → β) : ∀ (l : List α) (j : Nat), (l.map f).eraseIdx j = (l.eraseIdx j).map f
  | [], _ => rfl
  | _ :: _, 0 => rfl
  | x :: l, j + 1 => by
    show f x :: (l.map f).eraseIdx j = f x :: (l.eraseIdx j).map f
    rw [map_erase f l j]
theorem nodup_pairs {α β : Type} : ∀ {xs : List α} {ys : List β}, xs.Nodup → ys.Nodup → (xs.flatMap fun a => ys.map fun b => (a, b)).Nodup
  | [], _, _, _ => List.nodup_nil
  | x :: xs, ys, hx, hy => by
    have h := List.nodup_cons.mp hx
    rw [List.flatMap_cons, List.nodup_append]
    refine ⟨?_, nodup_pairs h.2 hy, fun a ha b hb e => ?_⟩
    · rw [List.nodup_iff_pairwise_ne, List.pairwise_map]
      exact (List.nodup_iff_pairwise_ne.mp hy).imp fun hab e => hab (Prod.mk.inj e).2
    · obtain ⟨u, _, rfl⟩ := List.mem_map.mp ha
      obtain ⟨v, hv, hb⟩ := List.mem_flatMap.mp hb
      obtain ⟨z, _, rfl⟩ := List.mem_map.mp hb
      exact h.1 ((Prod.mk.inj e).1 ▸ hv)
theorem GoodsAt.length {H : Hp} {as : List Addr} {gs : List Gd} (h : GoodsAt H as gs) : as.length = gs.length := Paired.length h
theorem RowsAt.length {H : Hp} {as : List Addr} {rs : List Rw} (h : RowsAt H as rs) : as.length = rs.length := Paired.length h
theorem to_ne {a b n : Int} (a0 : 0 ≤ a) (a1 : a < n) (b0 : 0 ≤ b) (b1 : b < n - 1) : 0 ≤ (a + 1 + b) % n ∧ (a + 1 + b) % n < n ∧ (a + 1 + b) % n ≠ a := by
  refine ⟨Int.emod_nonneg _ (by omega), Int.emod_lt_of_pos _ (by omega), ?_⟩
  by_cases h : a + 1 + b < n
  · rw [Int.emod_eq_of_lt (by omega) h]
    omega
  · rw [← Int.sub_emod_right, Int.emod_eq_of_lt (by omega) (by omega)]
    omega
theorem nodup_ne {α : Type} {l : List α} (h : l.Nodup) {i j : Nat} {x y : α} (hx : l[i]? = some x) (hy : l[j]? = some y) (hij : i ≠ j) : x ≠ y := fun e => by
  subst e
  obtain ⟨h1, e1⟩ := List.getElem?_eq_some_iff.mp hx
  obtain ⟨h2, e2⟩ := List.getElem?_eq_some_iff.mp hy
  exact hij ((List.getElem_inj h).mp (e1.trans e2.symm))
def spNumber (K : PySem.W.Frag) : Sp := fun vs H Q _ => ∃ D : Dw, vs = [.ref D.d] ∧ DrawAt K H D ∧ ∀ (m : Int) (H' : Hp), Dr K D H H' → 1 ≤ m → m ≤ 1000000 → Q (.int m) H'
def spGoods (K : PySem.W.Frag) : Sp := fun vs H Q _ => ∃ (D : Dw) (n : Int), vs = [.ref D.d, .int n] ∧ DrawAt K H D ∧ 0 ≤ n ∧ n ≤ 25 ∧
  ∀ (p : Addr) (as : List Addr) (gs : List Gd) (H' : Hp), Dr K D H H' → H p = none → H' p = some (.lst (as.map V.ref)) → GoodsAt H' as gs → (gs.length : Int) = n → gs.Nodup → (∀ g ∈ gs, GoodOk g) → Q (.ref p) H'
def spRows (K : PySem.W.Frag) : Sp := fun vs H Q _ => ∃ (D : Dw) (p : Addr) (n : Int) (as : List Addr) (gs : List Gd), vs = [.ref D.d, .ref p, .int n] ∧ DrawAt K H D ∧ p ≠ D.d ∧ H p = some (.lst (as.map V.ref)) ∧ GoodsAt H as gs ∧ 2 ≤ gs.length ∧ gs.length ≤ 100 ∧ gs.Nodup ∧ 0 ≤ n ∧ n ≤ 100 ∧
  ∀ (q : Addr) (bs : List Addr) (rs : List Rw) (H' : Hp), Dr K D H H' → H q = none → H' q = some (.lst (bs.map V.ref)) → RowsAt H' bs rs → (rs.length : Int) = n → (∀ r ∈ rs, RowOk gs r) → Q (.ref q) H'
/-- what the walk asks of the built-in names: none is bound by the text -/
structure Bl (mg : Str → Option Value) : Prop where
  z_len : mg "len" = none
  z_max : mg "max" = none
  z_min : mg "min" = none
  z_sum : mg "sum" = none
  z_range : mg "range" = none
  z_isinstance : mg "isinstance" = none
  z_int : mg "int" = none
  z_bool : mg "bool" = none
  z_str : mg "str" = none
  z_all : mg "all" = none
  z_list : mg "list" = none
  z_tuple : mg "tuple" = none
  z_dict : mg "dict" = none
  z_zip : mg "zip" = none
  z_sorted : mg "sorted" = none
end CC

namespace LW
open PySem PySem.Spec PyProof.Rows L2 CC
def top (i : Nat) : Stmt := PySem.Challenge.pw_callcoin_k24_rules_written.main.body.getD i (.Pass ⟨0, 0, 0, 0⟩)
section
variable {P : Program} {w : World} {K : PySem.W.Frag} {mg : Str → Option Value} {base : Heap}
abbrev s_mixed : Stmt := top 32
theorem sc_mixed : FnScope ["_law_cell", "_law_k", "_law_mix"] ["_law_cell", "_law_k"] (defScope s_mixed) := ⟨rfl, rfl, rfl, by decide +kernel, rfl, by decide +kernel, by decide +kernel⟩
theorem ok_mixed {f : Addr} {fd : FuncData} (F : Fun K "_law_mixed" "_law_mixed" s_mixed f fd) : FnOk P w K mg base CX0 1 f fd ["_law_cell", "_law_k"] spMixed := by
  refine F.ok sc_mixed (fun vs H Q E h => ?_) (fun cdv A outer s H vs Q E hr h => ?_)
  · obtain ⟨c, k, rfl, _⟩ := h
    rfl
  · obtain ⟨c, k, rfl, k0, k1, q⟩ := h
    refine ⟨_, (pss_cons (ps_set (i := 2) sc_mixed.nd rfl (Or.inl rfl) (pe_op op_mod (pe_op op_pow (pe_op op_mod (pe_op op_mulW (pe_op op_add (pe_op op_add (pe_op op_mod (pv 0) pe_int) (pe_op op_mulW pe_int (pv 1))) pe_int) pe_int) pe_int) pe_int) pe_int))
      (pss_cons (ps_if (pt_cmpR op_lt (pv 0) (pe_op op_pow pe_int pe_int) (nomark _)) (pss_one (ps_ret (pv 2))) pss_nil)
      (pss_one (ps_ret (pe_op op_mod (pe_op op_add (pv 2) (pe_op op_mod (pe_op op_fdivW (pv 0) (pe_op op_pow pe_int pe_int)) (pe_op op_add pe_int (pe_op op_mulW (pe_op op_add (pv 1) pe_int) pe_int)))) pe_int))))), ?_⟩
    have M : (0 : Int) < 2147483399 := by decide
    have b1 := Int.emod_nonneg c (show (2147483399 : Int) ≠ 0 by decide)
    have b2 := Int.emod_lt_of_pos c M
    refine ⟨_, rfl, _, _, rfl, rfl, M, _, rfl, _, _, rfl, rfl, wide_mul (a := 20) (b := 20) (by decide) (by omega) (by decide) (by decide) (by decide), _, _, rfl, rfl, _, _, rfl, rfl, _, _, rfl, rfl, wide_mul (a := 40) (b := 20) (by omega) (by decide) (by decide) (by decide) (by decide), _, _, rfl, rfl, M, ?_⟩
    refine ⟨_, _, rfl, rfl, ⟨by decide, by decide, by show Int.natAbs _ < _; omega⟩, _, _, rfl, rfl, M, ?_⟩
    refine ⟨_, rfl, _, _, rfl, rfl, ⟨by decide, by decide, by decide⟩, _, _, rfl, rfl, _, rfl, ?_⟩
    refine ite2 (fun _ => ?_) (fun _ => ?_)
    · exact ⟨_, rfl, q _ (Int.emod_nonneg _ (by decide)) (Int.emod_lt_of_pos _ M)⟩
    · refine ⟨_, rfl, _, rfl, _, _, rfl, rfl, ⟨by decide, by decide, by decide⟩, _, _, rfl, rfl, wide_div (b := 60) (by decide) (by decide) (by decide) (by decide), _, rfl, _, _, rfl, rfl, _, _, rfl, rfl, wide_mul (a := 20) (b := 200) (by omega) (by decide) (by decide) (by decide) (by decide), _, _, rfl, rfl, _, _, rfl, rfl, ?_, _, _, rfl, rfl, _, _, rfl, rfl, M, ?_⟩
      · show (0 : Int) < 1 + (k + 1) * 4014476939333036189094441199026045136645885247730
        omega
      · exact q _ (Int.emod_nonneg _ (by decide)) (Int.emod_lt_of_pos _ M)
abbrev s_next : Stmt := top 33
theorem sc_next : FnScope ["_law_draw", "_law_size", "_law_at", "_law_many", "_law_cell"] ["_law_draw", "_law_size"] (defScope s_next) := ⟨rfl, rfl, rfl, by decide +kernel, rfl, by decide +kernel, by decide +kernel⟩
theorem ok_next {f : Addr} {fd : FuncData} (F : Fun K "_law_next" "_law_next" s_next f fd) (T : Bl mg) (c_mixed : Cal P w K mg base CX0 1 "_law_mixed" ["_law_cell", "_law_k"] (spMixed) []) : FnOk P w K mg base CX0 2 f fd ["_law_draw", "_law_size"] (spNext K) := by
  refine F.ok sc_next (fun vs H Q E h => ?_) (fun cdv A outer s H vs Q E hr h => ?_)
  · obtain ⟨D, k, rfl, _⟩ := h
    rfl
  · obtain ⟨D, k, rfl, hD, k0, q⟩ := h
    obtain ⟨f_mixed, fd_mixed, ds_mixed, F_mixed, g_mixed, k_mixed, b_mixed, v_mixed⟩ := c_mixed.ex
    refine ⟨_, (pss_cons (ps_set (i := 2) sc_next.nd rfl (Or.inl rfl) (pe_ix ix_list (pv 0) pe_int (fun _ _ => rfl)))
      (pss_cons (ps_asg (pe_op op_add (pv 2) pe_int) (pg_sub (pv 0) pe_int set_list))
      (pss_cons (ps_set (i := 3) sc_next.nd rfl (Or.inl rfl) (pe_callB (call_max2 rfl) (by rfl) T.z_max (by decide +kernel) (pa_cons pe_int (pa_cons (pe_callB call_len_seq (by rfl) T.z_len (by decide +kernel) (pa_cons (pe_ix ix_list (pv 0) pe_int (fun _ _ => rfl)) pa_nil)) pa_nil))))
      (pss_cons (ps_set (i := 4) sc_next.nd rfl (Or.inl rfl) pe_int)
      (pss_cons (ps_if (pt_cmpR (op_neD hr.units) (pe_ix ix_list (pv 0) pe_int (fun _ _ => rfl)) (pe_lst pa_nil) (nomark _)) (pss_one (ps_set (i := 4) sc_next.nd rfl (Or.inl rfl) (pe_ix ix_list (pe_ix ix_list (pv 0) pe_int (fun _ _ => rfl)) (pe_op op_mod (pv 2) (pv 3)) (fun _ _ => rfl)))) pss_nil)
      (pss_one (ps_ret (pe_op op_mod (pe_op op_fdivW (pe_call F_mixed (hr.mono (by omega)) rfl g_mixed k_mixed b_mixed v_mixed pass0 (pa_cons (pv 4) (pa_cons (pe_op op_mod (pe_op op_fdivW (pv 2) (pv 3)) pe_int) pa_nil))) pe_int) (pv 1))))))))), ?_⟩
    obtain ⟨n, hd, hn⟩ := hD.at_
    -- at = draw[1]; draw[1] = at + 1
    refine ⟨_, rfl, _, _, _, _, rfl, rfl, SqL.of hd, atI_nat (j := 1) rfl, ?_⟩
    refine ⟨_, rfl, _, _, rfl, rfl, _, rfl, _, _, _, 1, rfl, rfl, hd, rfl, ?_⟩
    have D1 : Dr K D H (upd H D.d (.lst [.ref D.s, .int (n + 1)])) := hD.next (by omega)
    have hd1 : (upd H D.d (.lst [.ref D.s, .int (n + 1)])) D.d = some (.lst [.ref D.s, .int (n + 1)]) := upd_same
    have sq := D1.dr.sq
    have le := D1.dr.le
    -- many = max(1, len(draw[0]))
    refine ⟨_, rfl, _, _, _, _, rfl, rfl, SqL.of hd1, atI_nat (j := 0) rfl, _, _, rfl, .inl sq, _, _, rfl, ?_⟩
    have hm : ∃ m : Int, (if (((D.xs.map V.int).length : Nat) : Int) > 1 then (((D.xs.map V.int).length : Nat) : Int) else 1) = m ∧ 1 ≤ m ∧ m ≤ 63 ∧ (D.xs.length : Int) ≤ m ∧ (D.xs ≠ [] → m = D.xs.length) := by
      rw [List.length_map]
      refine ⟨_, rfl, ?_⟩
      split
      · exact ⟨by omega, by omega, by omega, fun _ => rfl⟩
      · refine ⟨by omega, by omega, by omega, fun z => ?_⟩
        cases hx : D.xs with
        | nil => exact absurd hx z
        | cons x r => simp only [hx, List.length_cons] at *; omega
    obtain ⟨m, em, m1, m63, mle, meq⟩ := hm
    rw [em]
    -- cell = 0; if draw[0] != []
    refine ⟨_, rfl, _, _, _, _, rfl, rfl, SqL.of hd1, atI_nat (j := 0) rfl, Nat.zero_le _, fun p hp => ?_⟩
    have D2 := D1.new (o := .lst []) hp
    have hd2 := (Same.new (o := .lst []) hp) _ _ hd1
    have sq2 := D2.dr.sq
    have hp2 : (upd (upd H D.d (.lst [.ref D.s, .int (n + 1)])) p (.lst [])) p = some (.lst []) := upd_same
    refine ⟨_, _, .lst sq2 (dps_ints _), .lst (SqL.of hp2) .nil, shaped_ints _, rfl, _, rfl, ?_⟩
    rw [eqv_nil]
    have last : ∀ c : Int, (tRet (tOp (rI (fun _ j => 0 < j) fun i j => .int (i % j)) (tOp (rI CDivW fun i j => .int (i / j)) (tCall spMixed [] E0 (tCons (tVar 4) (tCons (tOp (rI (fun _ j => 0 < j) fun i j => .int (i % j)) (tOp (rI CDivW fun i j => .int (i / j)) (tVar 2) (tVar 3)) (tC (.int 127))) tNil))) (tC (.int 7))) (tVar 1)))
        { nx := fun _ H' => Q .non H', rt := Q } [some (.ref D.d), some (.int k), some (.int n), some (.int m), some (.int c)] (upd (upd H D.d (.lst [.ref D.s, .int (n + 1)])) p (.lst [])) := fun c => by
      refine ⟨_, rfl, _, rfl, _, rfl, _, _, rfl, rfl, wide_div (b := 60) (by omega) (by omega) (by decide) (by decide), _, _, rfl, rfl, (by decide : (0 : Int) < 127), c, n / m % 127, rfl, Int.emod_nonneg _ (by decide), Int.emod_lt_of_pos _ (by decide), fun r r0 r1 => ?_⟩
      exact ⟨_, _, rfl, rfl, wide_div (b := 60) (by decide) (by decide) (by decide) (by decide), _, rfl, _, _, rfl, rfl, k0, q _ _ D2 (Int.emod_nonneg _ (by omega)) (Int.emod_lt_of_pos _ k0)⟩
    cases hx : D.xs with
    | nil => exact iteF (last 0)
    | cons x r =>
      refine iteT ?_
      have hne : D.xs ≠ [] := by rw [hx]; exact List.cons_ne_nil _ _
      have j0 := Int.emod_nonneg n (show m ≠ 0 by omega)
      have j1 := Int.emod_lt_of_pos n (show 0 < m by omega)
      have jl : (n % m).toNat < D.xs.length := by have := meq hne; omega
      refine ⟨_, rfl, _, _, _, _, rfl, rfl, SqL.of hd2, atI_nat (j := 0) rfl, _, rfl, _, rfl, _, _, rfl, rfl, (show (0 : Int) < m by omega), _, _, _, .int (D.xs[(n % m).toNat]), rfl, rfl, sq2, atI_int j0 (by rw [List.getElem?_map, List.getElem?_eq_getElem jl]; rfl), ?_⟩
      exact last _
abbrev s_word : Stmt := top 34
theorem sc_word : FnScope ["_law_draw", "_law_some", "_law_word_here", "_law_k"] ["_law_draw"] (defScope s_word) := ⟨rfl, rfl, rfl, by decide +kernel, rfl, by decide +kernel, by decide +kernel⟩
theorem ok_word {f : Addr} {fd : FuncData} (F : Fun K "_law_word" "_law_word" s_word f fd) (T : Bl mg) (c_next : Cal P w K mg base CX0 2 "_law_next" ["_law_draw", "_law_size"] (spNext K) []) : FnOk P w K mg base CX0 3 f fd ["_law_draw"] (spWord K) := by
  refine F.ok sc_word (fun vs H Q E h => ?_) (fun cdv A outer s H vs Q E hr h => ?_)
  · obtain ⟨D, rfl, _⟩ := h
    rfl
  · obtain ⟨D, rfl, hD, q⟩ := h
    obtain ⟨f_next, fd_next, ds_next, F_next, g_next, k_next, b_next, v_next⟩ := c_next.ex
    refine ⟨_, (pss_cons (ps_set (i := 1) sc_word.nd rfl (Or.inl rfl) (pe_lst (pa_cons pe_str (pa_cons pe_str (pa_cons pe_str (pa_cons pe_str (pa_cons pe_str (pa_cons pe_str (pa_cons pe_str (pa_cons pe_str (pa_cons pe_str (pa_cons pe_str (pa_cons pe_str (pa_cons pe_str (pa_cons pe_str (pa_cons pe_str pa_nil))))))))))))))))
      (pss_cons (ps_if (pt_cmpR op_eq (pe_call F_next (hr.mono (by omega)) rfl g_next k_next b_next v_next pass0 (pa_cons (pv 0) (pa_cons pe_int pa_nil))) pe_int (nomark _)) (pss_one (ps_ret (pe_ix ix_list (pv 1) (pe_call F_next (hr.mono (by omega)) rfl g_next k_next b_next v_next pass0 (pa_cons (pv 0) (pa_cons (pe_callB call_len_seq (by rfl) T.z_len (by decide +kernel) (pa_cons (pv 1) pa_nil)) pa_nil))) (fun _ _ => rfl)))) pss_nil)
      (pss_cons (ps_set (i := 2) sc_word.nd rfl (Or.inl rfl) pe_str)
      (pss_cons (ps_for PassesOwn.never rfl (pi_range1 (by rfl) T.z_range (pa_cons (pe_op op_add pe_int (pe_call F_next (hr.mono (by omega)) rfl g_next k_next b_next v_next pass0 (pa_cons (pv 0) (pa_cons pe_int pa_nil)))) pa_nil)) (pg_name (i := 3) sc_word.nd rfl (Or.inl rfl)) (pss_one (ps_set (i := 2) sc_word.nd rfl (Or.inl rfl) (pe_op op_add_str (pv 2) (pe_ix ix_str pe_str (pe_call F_next (hr.mono (by omega)) rfl g_next k_next b_next v_next pass0 (pa_cons (pv 0) (pa_cons pe_int pa_nil))) (fun _ _ => rfl))))))
      (pss_one (ps_ret (pv 2))))))), ?_⟩
    refine ⟨(by show 14 ≤ sizeLine; decide), fun l hl => ?_⟩
    have D1 := (Dr.refl hD).new (o := .lst [.str "by", .str "in", .str "at", .str "made", .str "paid", .str "day", .str "least", .str "greatest", .str "for", .str "none", .str "call", .str "held", .str "a", .str "zz"]) hl
    have h1 : (upd H l (.lst [.str "by", .str "in", .str "at", .str "made", .str "paid", .str "day", .str "least", .str "greatest", .str "for", .str "none", .str "call", .str "held", .str "a", .str "zz"])) l = some (.lst [.str "by", .str "in", .str "at", .str "made", .str "paid", .str "day", .str "least", .str "greatest", .str "for", .str "none", .str "call", .str "held", .str "a", .str "zz"]) := upd_same
    refine ⟨_, rfl, D, 4, rfl, D1.dr, by decide, fun r H2 d2 r0 r1 => ⟨rfl, _, rfl, ?_⟩⟩
    have D2 := D1.trans d2
    have h2 := d2.kp _ _ h1 (hD.ne hl)
    refine ite2 (fun _ => ?_) (fun _ => ?_)
    · refine ⟨_, rfl, _, rfl, _, rfl, _, _, rfl, .inl (SqL.of h2), D, 14, rfl, D2.dr, by decide, fun r H3 d3 r0 r1 => ?_⟩
      have h3 := d3.kp _ _ h2 (hD.ne hl)
      obtain ⟨j, rfl⟩ : ∃ j : Nat, r = j := ⟨r.toNat, by omega⟩
      have hj : j < 14 := by omega
      have all14 : ∀ j < 14, ∃ x, ([.str "by", .str "in", .str "at", .str "made", .str "paid", .str "day", .str "least", .str "greatest", .str "for", .str "none", .str "call", .str "held", .str "a", .str "zz"] : List V)[j]? = some (.str x) ∧ nm x = true := by
        intro j hj
        match j, hj with
        | 0, _ | 1, _ | 2, _ | 3, _ | 4, _ | 5, _ | 6, _ | 7, _ | 8, _ | 9, _ | 10, _ | 11, _ | 12, _ | 13, _ => exact ⟨_, rfl, by decide +kernel⟩
        | n + 14, h => omega
      obtain ⟨x, ex, nx⟩ := all14 j hj
      exact ⟨_, _, _, _, rfl, rfl, SqL.of h3, atI_nat ex, q x H3 (D2.trans d3) nx⟩
    · -- word = ''; for k in range(1 + next(draw, 8))
      refine ⟨_, rfl, D, 8, rfl, D2.dr, by decide, fun r H3 d3 r0 r1 => ?_⟩
      refine ⟨_, _, rfl, rfl, _, rfl, (by omega), (by omega), for_it walk_range (fun i σ H4 => ∃ (x : Str) (v : Option V), σ = [some (.ref D.d), some (.ref l), some (.str x), v] ∧ Dr K D H H4 ∧ x.length = i ∧ ∀ c ∈ x.cps.toList, 97 ≤ c ∧ c ≤ 122)
        ⟨_, none, rfl, D2.trans d3, rfl, fun c hc => by rw [show (Str.ofString "").cps.toList = [] by decide +kernel] at hc; cases hc⟩ (fun _ _ _ _ _ => trivial) ?_ ?_⟩
      · rintro i y σ H4 H5 hi ⟨x, v, rfl, D4, hx, hc⟩ ⟨rfl, rfl⟩
        refine ⟨_, rfl, _, rfl, D, 26, rfl, D4.dr, by decide, fun r2 H6 d6 r20 r21 => ?_⟩
        refine ⟨abc, r2, r2.toNat + 97, rfl, rfl, (by decide +kernel), atI_int r20 (abc_at (by omega)), ?_⟩
        refine ⟨x, sg (r2.toNat + 97), rfl, rfl, ?_, ?_⟩
        · rw [hx, sg_len]
          exact Nat.le_trans (show i + 1 ≤ 9 by omega) (by decide)
        · refine ⟨_, _, rfl, D4.trans d6, by rw [app_len, sg_len, hx], fun c h => ?_⟩
          rw [app_list] at h
          rcases List.mem_append.mp h with e | e
          · exact hc c e
          · have e2 : c = r2.toNat + 97 := List.mem_singleton.mp e
            omega
      · rintro σ H4 ⟨x, v, rfl, D4, hx, hc⟩
        refine ⟨_, rfl, q x H4 D4 ?_⟩
        rw [nm_iff, hx]
        exact ⟨by omega, by omega, hc⟩
abbrev s_words : Stmt := top 35
theorem sc_words : FnScope ["_law_draw", "_law_many", "_law_found", "_law_k", "_law_word_here", "_law_sign"] ["_law_draw", "_law_many"] (defScope s_words) := ⟨rfl, rfl, rfl, by decide +kernel, rfl, by decide +kernel, by decide +kernel⟩
theorem ok_words {f : Addr} {fd : FuncData} (F : Fun K "_law_words" "_law_words" s_words f fd) (T : Bl mg) (c_word : Cal P w K mg base CX0 3 "_law_word" ["_law_draw"] (spWord K) []) : FnOk P w K mg base CX0 4 f fd ["_law_draw", "_law_many"] (spWords K) := by
  refine F.ok sc_words (fun vs H Q E h => ?_) (fun cdv A outer s H vs Q E hr h => ?_)
  · obtain ⟨D, n, rfl, _⟩ := h
    rfl
  · obtain ⟨D, n, rfl, hD, n0, n20, q⟩ := h
    obtain ⟨f_word, fd_word, ds_word, F_word, g_word, k_word, b_word, v_word⟩ := c_word.ex
    refine ⟨_, (pss_cons (ps_set (i := 2) sc_words.nd rfl (Or.inr rfl) (pe_lst pa_nil))
      (pss_cons (ps_for PassesOwn.never rfl (pi_range1 (by rfl) T.z_range (pa_cons (pv 1) pa_nil)) (pg_name (i := 3) sc_words.nd rfl (Or.inl rfl)) (pss_cons (ps_set (i := 4) sc_words.nd rfl (Or.inr rfl) (pe_call F_word (hr.mono (by omega)) rfl g_word k_word b_word v_word pass0 (pa_cons (pv 0) pa_nil))) (pss_cons (ps_if (pt_cmpR op_in_seq (pv 4) (pv 2) rfl) (pss_one (ps_set (i := 4) sc_words.nd rfl (Or.inr rfl) (pe_ix ix_list (pe_lc (own := [("_law_sign", 5)]) (g := gName 5) rfl sc_words.nd (pi_str pe_str) (blkOk_by (N := ["_law_draw", "_law_many", "_law_found", "_law_k", "_law_word_here", "_law_sign"]) (sc := defScope s_words) (by decide +kernel)) (fun _ _ _ _ _ => (pg_name (i := 5) sc_words.nd rfl (Or.inl rfl))) (fun _ _ _ _ _ => (pts_one (pt_cmpR (opK (K := K) (fun K => rIn K true) op_notIn_seq) (pe_op op_add_str (pe_slice sl_str (pv 4) po_none (po_some pe_int)) (pv 5)) (pv 2) rfl))) (fun _ _ _ _ _ => (pe_op op_add_str (pe_slice sl_str (pv 4) po_none (po_some pe_int)) (pv 5)))) pe_int (fun _ _ => rfl)))) pss_nil) (pss_one (ps_expr (pe_bm PySem.F.plainAttrs_list PySem.F.slot_list_append PySem.F.type_list_append mt_append (pv 2) (pa_cons (pv 4) pa_nil)))))))
      (pss_one (ps_ret (pv 2))))), ?_⟩
    refine ⟨Nat.zero_le _, fun p hp => ?_⟩
    have D1 := (Dr.refl hD).new (o := .lst []) hp
    refine ⟨_, rfl, n, rfl, (by omega), (by omega), for_it walk_range (fun i σ H2 => ∃ (ws : List Str) (v3 v4 v5 : Option V), σ = [some (.ref D.d), some (.int n), some (.ref p), v3, v4, v5] ∧ Dr K D H H2 ∧ H2 p = some (.lst (ws.map V.str)) ∧ ws.length = i ∧ ws.Nodup ∧ ∀ x ∈ ws, nm x = true)
      ⟨[], none, none, none, rfl, D1, upd_same, rfl, List.nodup_nil, fun _ h => by cases h⟩ (fun _ _ _ _ _ => trivial) ?_ ?_⟩
    · rintro i y σ H2 H3 hi ⟨ws, v3, v4, v5, rfl, D2, hp2, hl, nd, hnm⟩ ⟨rfl, rfl⟩
      refine ⟨_, rfl, D, rfl, D2.dr, fun x H4 d4 nx => ?_⟩
      have D4 := D2.trans d4
      have hp4 := d4.kp _ _ hp2 (hD.ne hp)
      refine ⟨_, rfl, _, rfl, p, _, rfl, .inl (SqL.of hp4), rfl, flats_strs ws, _, rfl, ?_⟩
      refine ite2 (fun h => ?_) (fun h => ?_)
      · obtain ⟨c1, c2⟩ := cut7 x nx
        have hx8 := (nm_iff.mp nx).2.1
        refine ⟨abc, rfl, fun a ha => lc_it walk_str (fun i H5 => ∃ acc : List Str, Dr K D H H5 ∧ H5 p = some (.lst (ws.map V.str)) ∧ H5 a = some (.lst (acc.map V.str)) ∧ acc.length ≤ i ∧ (∀ y ∈ acc, y ∉ ws ∧ nm y = true) ∧
            ∀ (j c : Nat), j < i → abc.cps[j]? = some c → (cutS x none (some 7) ++ sg c) ∉ ws → acc ≠ [])
          ⟨[], D4.new ha, (Same.new ha) _ _ hp4, upd_same, Nat.le_refl _, (fun _ h => by cases h), fun j c h => absurd h (Nat.not_lt_zero _)⟩ (fun _ _ _ _ => trivial) ?_ ?_⟩
        · rintro i y H5 H6 hi ⟨acc, D5, hp5, ha5, hl5, hall, hne⟩ ⟨rfl, c, hc, rfl⟩
          have hi26 : i < 26 := by rw [abc_size] at hi; exact hi
          obtain ⟨k1, k2⟩ := abc_at' hc
          have hz : x.length ≤ sizeLine := small_str hx8 (by decide)
          have hz2 : (cutS x none (some 7)).length + (sg c).length ≤ sizeLine := by rw [sg_len]; exact Nat.le_trans (Nat.succ_le_succ c1) (by decide)
          refine ⟨rfl, _, rfl, _, rfl, x, rfl, hz, _, rfl, cutS x none (some 7), sg c, rfl, rfl, hz2, _, rfl, p, _, rfl, .inl (SqL.of hp5), rfl, flats_strs ws, _, rfl, ?_⟩
          have nn := nm_snoc c1 c2 k1 k2
          refine ite2 (fun h => ?_) (fun h => ?_)
          · refine ⟨_, rfl, _, rfl, x, rfl, hz, _, rfl, cutS x none (some 7), sg c, rfl, rfl, hz2, _, ha5, (by rw [List.length_map]; exact small1000 (by omega)), ?_⟩
            have hin : (cutS x none (some 7) ++ sg c) ∉ ws := by simpa [inV_strs] using h
            have npa : p ≠ a := fun z => by rw [z, ha] at hp4; cases hp4
            refine ⟨acc ++ [cutS x none (some 7) ++ sg c], D5.loc (D4.free ha), by rw [upd_ne npa]; exact hp5, by rw [upd_same, List.map_append]; rfl, by rw [List.length_append]; exact Nat.succ_le_succ hl5, fun y hy => ?_, fun _ _ _ _ _ => by simp⟩
            rcases List.mem_append.mp hy with e | e
            · exact hall y e
            · rw [List.mem_singleton.mp e]
              exact ⟨hin, nn⟩
          · have hin : (cutS x none (some 7) ++ sg c) ∈ ws := by simpa [inV_strs] using h
            refine ⟨acc, D5, hp5, ha5, Nat.le_succ_of_le hl5, hall, fun j c' hj hc' hno => ?_⟩
            by_cases e : j < i
            · exact hne j c' e hc' hno
            · have ej : j = i := by omega
              subst ej
              rw [hc] at hc'
              cases hc'
              exact absurd hin hno
        · rintro H5 ⟨acc, D5, hp5, ha5, hl5, hall, hne⟩
          obtain ⟨j, c, hj, hno⟩ := fresh_letter (cutS x none (some 7)) ws (by omega)
          have hja : j < abc.cps.size := by
            rcases Nat.lt_or_ge j abc.cps.size with h | h
            · exact h
            · rw [Array.getElem?_eq_none h] at hj
              cases hj
          have hacc := hne j c hja hj hno
          cases acc with
          | nil => exact absurd rfl hacc
          | cons x' r =>
            obtain ⟨hx', nx'⟩ := hall x' (List.mem_cons_self ..)
            refine ⟨a, _, 0, .str x', rfl, rfl, SqL.of ha5, atI_nat (j := 0) rfl, ?_⟩
            refine ⟨_, rfl, .inl ⟨rfl, _, SqL.of hp5⟩, _, rfl, p, _, _, rfl, rfl, hp5, (by rw [List.length_map]; exact small1000 (by omega)), ?_⟩
            refine ⟨ws ++ [x'], _, _, _, rfl, D5.loc hp, ?_, by rw [List.length_append, hl]; rfl, ?_, ?_⟩
            · rw [upd_same, List.map_append]
              rfl
            · rw [List.nodup_append]
              exact ⟨nd, List.nodup_cons.mpr ⟨by simp, List.nodup_nil⟩, fun a ha b hb e => by
                have e2 := List.mem_singleton.mp hb
                exact hx' (e2 ▸ e ▸ ha)⟩
            · intro z hz
              rcases List.mem_append.mp hz with e | e
              · exact hnm z e
              · rw [List.mem_singleton.mp e]
                exact nx'
      · have hx' : x ∉ ws := by simpa [inV_strs] using h
        have hp5 := hp4
        have D5 := D4
        have nx' := nx
        generalize x = x' at *
        refine ⟨_, rfl, .inl ⟨rfl, _, SqL.of hp5⟩, _, rfl, p, _, _, rfl, rfl, hp5, (by rw [List.length_map]; exact small1000 (by omega)), ?_⟩
        refine ⟨ws ++ [x'], _, _, _, rfl, D5.loc hp, ?_, by rw [List.length_append, hl]; rfl, ?_, ?_⟩
        · rw [upd_same, List.map_append]
          rfl
        · rw [List.nodup_append]
          exact ⟨nd, List.nodup_cons.mpr ⟨by simp, List.nodup_nil⟩, fun a ha b hb e => by
            have e2 := List.mem_singleton.mp hb
            exact hx' (e2 ▸ e ▸ ha)⟩
        · intro z hz
          rcases List.mem_append.mp hz with e | e
          · exact hnm z e
          · rw [List.mem_singleton.mp e]
            exact nx'
    · rintro σ H2 ⟨ws, v3, v4, v5, rfl, D2, hp2, hl, nd, hnm⟩
      exact ⟨_, rfl, q p ws H2 D2 hp hp2 (by omega) nd hnm⟩
end
end LW

/-! CE: refusals: own exception classes without own __init__, raised, passed on, caught and kept as values -/
namespace CC
open PySem PySem.Spec PyProof.Rows L2
/-- the address of the class that a module's name holds -/
def exA (mg : Str → Option Value) (x : Str) : Addr := match mg x with
  | some (.ref a) => a
  | _ => 0
theorem exA_of {mg : Str → Option Value} {x : Str} {a : Addr} (h : mg x = some (.ref a)) : exA mg x = a := by
  unfold exA
  rw [h]
/-- what the top says of the exception class named x -/
structure Exk (K : PySem.W.Frag) (mg : Str → Option Value) (x : Str) : Prop where
  g : mg x = some (.ref (exA mg x))
  k : PySem.W.keepIn K (.ref (exA mg x)) = true
  xp : PySem.W.excIn K (exA mg x) [.type "ValueError", .type "Exception", .type "BaseException", .type "object"] "ValueError.__new__" = true
  b : PySem.W.subIn K (.ref (exA mg x)) (.type "BaseException") = some true
  t : PySem.W.typeIn K (.ref (exA mg x)) = some (.type "type")
section
variable {X : Cx}
/-- X() -/
theorem pmk_x {x : Str} {p pos : Pos} (e : Exk X.K X.mg x) (hg : Gl X x := by rfl) (hdb : (x == ("__debug__" : Str)) = false := by decide) :
    PMk X (.Call (.Name x p) [] [] pos) (fun _ H Q => Q (.ref (exA X.mg x)) none H) := by
  intro pins s σ H Q I h
  refine wpAny_Call_Name_kw (ld_glob I hg e.g ?_ hdb)
  refine PySem.W.callWith_K0 I.kIn e.k ?_
  obtain ⟨bm, N, nm, qn, bs, hdct, sn, sub, ab, col, dd, k0, k1, k2, k3, k5, mN, hC, hN, hni, T⟩ := exc_obj I.kIn e.xp
  refine wpAny_call_exc_subT PySem.F.excBase_ValueError T hC hN hni (fun h' a hm => ?_) (Nat.zero_le _)
  exact mk_of I hm (raises_own e.b e.t) h (I.hok.gone hm.new)
/-- a def that may raise, called where it does not -/
theorem passF : Passes (L2.CX X.prog X.w) X E0 := fun _ _ _ _ u s' _ c => by
  obtain ⟨a, B, H', cls, d, _, _, _, _, _, _, _, hE⟩ := c
  exact hE.elim
end
/-! ### isinstance of a plain value -/
def isB : V → Bool | .bl _ => true | _ => false
def isI : V → Bool | .bl _ => true | .int _ => true | _ => false
def isS : V → Bool | .str _ => true | _ => false
section
variable {K : PySem.W.Frag} {H : Hp} {v : V}
theorem isi_bool (hf : flatV v = true) : ∃ t u, ClsV (.ty "bool") u ∧ TyX K H v t ∧ PySem.W.kitOne K t u = some (isB v) := by
  cases v with
  | non => exact ⟨_, _, .ty _, .base .non, kit_ty (r := false) (by decide +kernel)⟩
  | bl b => exact ⟨_, _, .ty _, .base (.bl b), kit_ty (r := true) (by decide +kernel)⟩
  | int i => exact ⟨_, _, .ty _, .base (.int i), kit_ty (r := false) (by decide +kernel)⟩
  | str x => exact ⟨_, _, .ty _, .base (.str x), kit_ty (r := false) (by decide +kernel)⟩
  | byt _ => cases hf
  | flt _ => cases hf
  | ref _ => cases hf
  | ty _ => cases hf
theorem isi_int (hf : flatV v = true) : ∃ t u, ClsV (.ty "int") u ∧ TyX K H v t ∧ PySem.W.kitOne K t u = some (isI v) := by
  cases v with
  | non => exact ⟨_, _, .ty _, .base .non, kit_ty (r := false) (by decide +kernel)⟩
  | bl b => exact ⟨_, _, .ty _, .base (.bl b), kit_ty (r := true) (by decide +kernel)⟩
  | int i => exact ⟨_, _, .ty _, .base (.int i), kit_ty (r := true) (by decide +kernel)⟩
  | str x => exact ⟨_, _, .ty _, .base (.str x), kit_ty (r := false) (by decide +kernel)⟩
  | byt _ => cases hf
  | flt _ => cases hf
  | ref _ => cases hf
  | ty _ => cases hf
theorem isi_str (hf : flatV v = true) : ∃ t u, ClsV (.ty "str") u ∧ TyX K H v t ∧ PySem.W.kitOne K t u = some (isS v) := by
  cases v with
  | non => exact ⟨_, _, .ty _, .base .non, kit_ty (r := false) (by decide +kernel)⟩
  | bl b => exact ⟨_, _, .ty _, .base (.bl b), kit_ty (r := false) (by decide +kernel)⟩
  | int i => exact ⟨_, _, .ty _, .base (.int i), kit_ty (r := false) (by decide +kernel)⟩
  | str x => exact ⟨_, _, .ty _, .base (.str x), kit_ty (r := true) (by decide +kernel)⟩
  | byt _ => cases hf
  | flt _ => cases hf
  | ref _ => cases hf
  | ty _ => cases hf
end
section
variable {K : PySem.W.Frag} {H : Hp} {v : V}
theorem isi_tup (hf : flatV v = true) : ∃ t u, ClsV (.ty "tuple") u ∧ TyX K H v t ∧ PySem.W.kitOne K t u = some false := by
  cases v with
  | non => exact ⟨_, _, .ty _, .base .non, kit_ty (r := false) (by decide +kernel)⟩
  | bl b => exact ⟨_, _, .ty _, .base (.bl b), kit_ty (r := false) (by decide +kernel)⟩
  | int i => exact ⟨_, _, .ty _, .base (.int i), kit_ty (r := false) (by decide +kernel)⟩
  | str x => exact ⟨_, _, .ty _, .base (.str x), kit_ty (r := false) (by decide +kernel)⟩
  | byt _ => cases hf
  | flt _ => cases hf
  | ref _ => cases hf
  | ty _ => cases hf
theorem isi_tupT {a : Addr} {xs : List V} (h : H a = some (.tup xs)) : ∃ t u, ClsV (.ty "tuple") u ∧ TyX K H (.ref a) t ∧ PySem.W.kitOne K t u = some true := ⟨_, _, .ty _, .base (.tup h), kit_ty (r := true) (by decide +kernel)⟩
end
/-- flat things, the second no truth -/
def spAlikeF : Sp := fun vs H Q _ => ∃ x y : V, vs = [x, y] ∧ flatV x = true ∧ flatV y = true ∧ isB y = false ∧ Q (.bl (decide (x = y))) H
/-- a whole number from lo to hi; truths are none -/
def isNum (v : V) (lo hi : Int) : Bool := match v with
  | .int n => decide (lo ≤ n) && decide (n ≤ hi)
  | _ => false
def isNm (v : V) : Bool := match v with
  | .str x => nm x
  | _ => false
def spIsName : Sp := fun vs H Q _ => ∃ x : Str, vs = [.str x] ∧ x.length ≤ 100000 ∧ ∀ H', Same H H' → Q (.bl (nm x)) H'
def spIsNumber : Sp := fun vs H Q _ => ∃ (v : V) (lo hi : Int), vs = [v, .int lo, .int hi] ∧ flatV v = true ∧ Q (.bl (isNum v lo hi)) H
def lenOk (v : V) : Prop := match v with
  | .str x => x.length ≤ 100000
  | _ => True
def spAskName (mg : Str → Option Value) : Sp := fun vs H Q E => ∃ v : V, vs = [v] ∧ flatV v = true ∧ lenOk v ∧ (isNm v = true → ∀ H', Same H H' → Q .non H') ∧ (isNm v = false → ∀ H', Same H H' → E (.ref (exA mg "NoName")) none H')
def spAskWorth (mg : Str → Option Value) : Sp := fun vs H Q E => ∃ v : V, vs = [v] ∧ flatV v = true ∧ (isNum v 0 1000000 = true → Q .non H) ∧ (isNum v 0 1000000 = false → E (.ref (exA mg "NoWorth")) none H)
/-- a tracked comprehension of truths: all hold -/
theorem all_map_bl {α : Type} (p : α → Bool) (l : List α) : ((l.map p).all id) = l.all p := by
  rw [List.all_map]
  rfl
end CC

/-! CR: rules told by tuples, as trees -/
namespace CC
open PySem PySem.Spec PyProof.Rows L2
inductive Tld where
  | lv (v : V)
  | cl (w t : V)
  | mx (g : Bool) (ts : List Tld)
def wd (g : Bool) : Str := if g then "greatest" else "least"
mutual
def TldAt (H : Hp) : V → Tld → Prop
  | v, .lv x => ∃ a, v = .ref a ∧ H a = some (.tup [.str "level", x])
  | v, .cl w t => ∃ a, v = .ref a ∧ H a = some (.tup [.str "called", w, t])
  | v, .mx g ts => ∃ a vs, v = .ref a ∧ H a = some (.tup (.str (wd g) :: vs)) ∧ TldAll H vs ts
def TldAll (H : Hp) : List V → List Tld → Prop
  | [], [] => True
  | v :: vs, t :: ts => TldAt H v t ∧ TldAll H vs ts
  | [], _ :: _ => False
  | _ :: _, [] => False
end
mutual
def rulesT : Tld → Nat
  | .lv _ => 1
  | .cl _ _ => 1
  | .mx _ ts => 1 + rulesL ts
def rulesL : List Tld → Nat
  | [] => 0
  | t :: ts => rulesT t + rulesL ts
end
mutual
def deepT : Tld → Nat
  | .lv _ => 1
  | .cl _ _ => 1
  | .mx _ ts => 1 + deepL ts
def deepL : List Tld → Nat
  | [] => 0
  | t :: ts => max (deepT t) (deepL ts)
end
/- each leaf -/
mutual
def AllLf (p : V → Prop) (q : V × V → Prop) : Tld → Prop
  | .lv v => p v
  | .cl w t => q (w, t)
  | .mx _ ts => AllLs p q ts
def AllLs (p : V → Prop) (q : V × V → Prop) : List Tld → Prop
  | [] => True
  | t :: ts => AllLf p q t ∧ AllLs p q ts
end
/- two to eight in each bracket -/
mutual
def ShpT : Tld → Prop
  | .lv _ => True
  | .cl _ _ => True
  | .mx _ ts => 2 ≤ ts.length ∧ ts.length ≤ 8 ∧ ShpL ts
def ShpL : List Tld → Prop
  | [] => True
  | t :: ts => ShpT t ∧ ShpL ts
end
def lvOk (v : V) : Prop := ∃ n : Int, v = .int n ∧ 0 ≤ n ∧ n ≤ 1000000
def whOk (w : V) : Prop := w = .str "made" ∨ w = .str "paid" ∨ ∃ n : Int, w = .int n ∧ 0 ≤ n ∧ n ≤ 9999
def twOk (t : V) : Prop := t = .non ∨ ∃ x, t = .str x ∧ nm x = true
def clOk (c : V × V) : Prop := whOk c.1 ∧ twOk c.2
def CallsAt (H : Hp) (as : List Addr) (cs : List (V × V)) : Prop := Paired (fun a c => H a = some (.tup [c.1, c.2])) as cs
theorem CallsAt.tk {H H1 : Hp} {as : List Addr} {cs : List (V × V)} (h : CallsAt H as cs) (t : TK H H1) : CallsAt H1 as cs := Paired.mapP h fun _ _ e => t _ _ e
theorem CallsAt.length {H : Hp} {as : List Addr} {cs : List (V × V)} (h : CallsAt H as cs) : as.length = cs.length := Paired.length h
mutual
theorem TldAt.tk {H H' : Hp} (k : TK H H') : ∀ (t : Tld) {v : V}, TldAt H v t → TldAt H' v t
  | .lv x, v, h => by
    unfold TldAt at h ⊢
    obtain ⟨a, e, h⟩ := h
    exact ⟨a, e, k _ _ h⟩
  | .cl w t, v, h => by
    unfold TldAt at h ⊢
    obtain ⟨a, e, h⟩ := h
    exact ⟨a, e, k _ _ h⟩
  | .mx g ts, v, h => by
    unfold TldAt at h ⊢
    obtain ⟨a, vs, e, h, hs⟩ := h
    exact ⟨a, vs, e, k _ _ h, TldAll.tk k ts hs⟩
theorem TldAll.tk {H H' : Hp} (k : TK H H') : ∀ (ts : List Tld) {vs : List V}, TldAll H vs ts → TldAll H' vs ts
  | [], [], _ => by unfold TldAll; trivial
  | [], _ :: _, h => by unfold TldAll at h; exact h.elim
  | _ :: _, [], h => by unfold TldAll at h; exact h.elim
  | t :: ts, v :: vs, h => by
    unfold TldAll at h ⊢
    exact ⟨TldAt.tk k t h.1, TldAll.tk k ts h.2⟩
end
theorem TldAll.length {H : Hp} : ∀ {vs : List V} {ts : List Tld}, TldAll H vs ts → vs.length = ts.length
  | [], [], _ => rfl
  | [], _ :: _, h => by unfold TldAll at h; exact h.elim
  | _ :: _, [], h => by unfold TldAll at h; exact h.elim
  | v :: vs, t :: ts, h => by
    unfold TldAll at h
    rw [List.length_cons, List.length_cons, TldAll.length h.2]
theorem TldAll.app {H : Hp} : ∀ {vs ws : List V} {ts us : List Tld}, TldAll H vs ts → TldAll H ws us → TldAll H (vs ++ ws) (ts ++ us)
  | [], _, [], _, _, h => h
  | [], _, _ :: _, _, h, _ => by unfold TldAll at h; exact h.elim
  | _ :: _, _, [], _, h, _ => by unfold TldAll at h; exact h.elim
  | v :: vs, ws, t :: ts, us, h, h' => by
    unfold TldAll at h
    show TldAll H (v :: (vs ++ ws)) (t :: (ts ++ us))
    unfold TldAll
    exact ⟨h.1, TldAll.app h.2 h'⟩
theorem TldAll.one {H : Hp} {v : V} {t : Tld} (h : TldAt H v t) : TldAll H [v] [t] := by
  unfold TldAll
  exact ⟨h, by unfold TldAll; trivial⟩
theorem TldAll.nil {H : Hp} : TldAll H [] [] := by unfold TldAll; trivial
theorem TldAll.get {H : Hp} : ∀ {vs : List V} {ts : List Tld} {i : Nat} {v : V}, TldAll H vs ts → vs[i]? = some v → ∃ t, ts[i]? = some t ∧ TldAt H v t
  | [], _, _, _, _, e => by simp at e
  | _ :: _, [], _, _, h, _ => by unfold TldAll at h; exact h.elim
  | v :: vs, t :: ts, 0, x, h, e => by
    unfold TldAll at h
    have e2 : v = x := Option.some.inj e
    subst e2
    exact ⟨t, rfl, h.1⟩
  | v :: vs, t :: ts, i + 1, x, h, e => by
    unfold TldAll at h
    exact TldAll.get (i := i) h.2 e
theorem rulesL_app : ∀ ts us : List Tld, rulesL (ts ++ us) = rulesL ts + rulesL us
  | [], us => by show rulesL us = rulesL [] + rulesL us; simp only [rulesL]; omega
  | t :: ts, us => by
    show rulesL (t :: (ts ++ us)) = _
    simp only [rulesL]
    rw [rulesL_app ts us]
    omega
theorem deepL_app : ∀ ts us : List Tld, deepL (ts ++ us) = max (deepL ts) (deepL us)
  | [], us => by show deepL us = max (deepL []) (deepL us); simp only [deepL]; omega
  | t :: ts, us => by
    show deepL (t :: (ts ++ us)) = _
    simp only [deepL]
    rw [deepL_app ts us]
    omega
theorem AllLs_app {p : V → Prop} {q : V × V → Prop} : ∀ {ts us : List Tld}, AllLs p q ts → AllLs p q us → AllLs p q (ts ++ us)
  | [], _, _, h => h
  | t :: ts, us, h, h' => by
    unfold AllLs at h
    show AllLs p q (t :: (ts ++ us))
    unfold AllLs
    exact ⟨h.1, AllLs_app h.2 h'⟩
theorem ShpL_app : ∀ {ts us : List Tld}, ShpL ts → ShpL us → ShpL (ts ++ us)
  | [], _, _, h => h
  | t :: ts, us, h, h' => by
    unfold ShpL at h
    show ShpL (t :: (ts ++ us))
    unfold ShpL
    exact ⟨h.1, ShpL_app h.2 h'⟩
theorem AllLs_one {p : V → Prop} {q : V × V → Prop} {t : Tld} (h : AllLf p q t) : AllLs p q [t] := by
  unfold AllLs
  exact ⟨h, by unfold AllLs; trivial⟩
theorem ShpL_one {t : Tld} (h : ShpT t) : ShpL [t] := by
  unfold ShpL
  exact ⟨h, by unfold ShpL; trivial⟩
mutual
theorem rulesT_pos : ∀ t : Tld, 1 ≤ rulesT t
  | .lv _ => by simp only [rulesT]; omega
  | .cl _ _ => by simp only [rulesT]; omega
  | .mx _ ts => by simp only [rulesT]; omega
end
theorem deepT_pos : ∀ t : Tld, 1 ≤ deepT t
  | .lv _ => by simp only [deepT]; omega
  | .cl _ _ => by simp only [deepT]; omega
  | .mx _ ts => by simp only [deepT]; omega
/-! ### promises of the draws of rules -/
def spLevel (K : PySem.W.Frag) : Sp := fun vs H Q _ => ∃ D : Dw, vs = [.ref D.d] ∧ DrawAt K H D ∧ ∀ (n : Int) (H' : Hp), Dr K D H H' → 0 ≤ n → n ≤ 1000000 → Q (.int n) H'
def spDay (K : PySem.W.Frag) : Sp := fun vs H Q _ => ∃ D : Dw, vs = [.ref D.d] ∧ DrawAt K H D ∧ ∀ (n : Int) (H' : Hp), Dr K D H H' → 0 ≤ n → n ≤ 9999 → Q (.int n) H'
def spCalls (K : PySem.W.Frag) : Sp := fun vs H Q _ => ∃ (D : Dw) (pt pd : Addr) (ts : List V) (ds : List Int) (n : Int), vs = [.ref D.d, .ref pt, .ref pd, .int n] ∧ DrawAt K H D ∧ pt ≠ D.d ∧ pd ≠ D.d ∧ H pt = some (.lst ts) ∧ H pd = some (.lst (ds.map V.int)) ∧
  ts ≠ [] ∧ ds ≠ [] ∧ ts.length ≤ 100 ∧ ds.length ≤ 100 ∧ (∀ t ∈ ts, twOk t) ∧ (∀ d ∈ ds, 0 ≤ d ∧ d ≤ 9999) ∧ 0 ≤ n ∧ n ≤ 100 ∧
  ∀ (q : Addr) (as : List Addr) (cs : List (V × V)) (H' : Hp), Dr K D H H' → H q = none → H' q = some (.lst (as.map V.ref)) → CallsAt H' as cs → (cs.length : Int) = n →
    (∀ c ∈ cs, (c.1 = .str "made" ∨ c.1 = .str "paid" ∨ ∃ d ∈ ds, c.1 = .int d) ∧ c.2 ∈ ts) → (∀ c ∈ cs, clOk c) → Q (.ref q) H'
def spTold (K : PySem.W.Frag) (n : Nat) : Sp := fun vs H Q _ => ∃ (D : Dw) (pc : Addr) (as : List Addr) (cs : List (V × V)) (deep room : Int), vs = [.ref D.d, .ref pc, .int deep, .int room] ∧ DrawAt K H D ∧ pc ≠ D.d ∧ H pc = some (.lst (as.map V.ref)) ∧ CallsAt H as cs ∧
  cs ≠ [] ∧ cs.length ≤ 100 ∧ 1 ≤ deep ∧ deep ≤ n ∧ 1 ≤ room ∧ room ≤ 1000 ∧
  ∀ (v : V) (t : Tld) (H' : Hp), Dr K D H H' → TldAt H' v t → AllLf lvOk (· ∈ cs) t → ShpT t → (deepT t : Int) ≤ deep → (rulesT t : Int) ≤ room → Q v H'
theorem fnOk_false {P : Program} {w : World} {K : PySem.W.Frag} {mg : Str → Option Value} {base : Heap} {CX : CXT} {k : Nat} {f : Addr} {fd : FuncData} {ps : List Str} {sp : Sp} (h : ∀ vs H Q E, ¬ sp vs H Q E) : FnOk P w K mg base CX k f fd ps sp :=
  ⟨fun vs H Q E z => (h vs H Q E z).elim, fun A outer s H args us vs Q E hr he hb hv z => (h vs H Q E z).elim⟩
/-- a bool's number -/
theorem int_of_bool (b : Bool) : (if b = true then (1 : Int) else 0) = 0 ∨ (if b = true then (1 : Int) else 0) = 1 := by cases b <;> simp

def spTall (K : PySem.W.Frag) : Sp := fun vs H Q _ => ∃ (D : Dw) (pc : Addr) (as : List Addr) (cs : List (V × V)) (deep : Int), vs = [.ref D.d, .ref pc, .int deep] ∧ DrawAt K H D ∧ pc ≠ D.d ∧ H pc = some (.lst (as.map V.ref)) ∧ CallsAt H as cs ∧
  cs ≠ [] ∧ cs.length ≤ 100 ∧ 1 ≤ deep ∧ deep ≤ 12 ∧
  ∀ (v : V) (t : Tld) (H' : Hp), Dr K D H H' → TldAt H' v t → AllLf lvOk (· ∈ cs) t → ShpT t → (deepT t : Int) = deep → (rulesT t : Int) = 2 * deep - 1 → Q v H'
/-- size - 1 is 8 k and 3 to 7 more -/
def spSized (K : PySem.W.Frag) : Sp := fun vs H Q _ => ∃ (D : Dw) (pc : Addr) (as : List Addr) (cs : List (V × V)) (size : Int) (k : Nat), vs = [.ref D.d, .ref pc, .int size] ∧ DrawAt K H D ∧ pc ≠ D.d ∧ H pc = some (.lst (as.map V.ref)) ∧ CallsAt H as cs ∧
  cs ≠ [] ∧ cs.length ≤ 100 ∧ 1 ≤ k ∧ k ≤ 7 ∧ 8 * k + 3 ≤ size - 1 ∧ size - 1 ≤ 8 * k + 7 ∧
  ∀ (v : V) (t : Tld) (H' : Hp), Dr K D H H' → TldAt H' v t → AllLf lvOk (· ∈ cs) t → ShpT t → (deepT t : Int) ≤ 3 → (rulesT t : Int) = size → Q v H'
theorem TldAll.take {H : Hp} : ∀ {vs : List V} {ts : List Tld} (n : Nat), TldAll H vs ts → TldAll H (vs.take n) (ts.take n)
  | _, _, 0, _ => TldAll.nil
  | [], [], _ + 1, _ => TldAll.nil
  | [], _ :: _, _ + 1, h => by unfold TldAll at h; exact h.elim
  | _ :: _, [], _ + 1, h => by unfold TldAll at h; exact h.elim
  | v :: vs, t :: ts, n + 1, h => by
    unfold TldAll at h
    show TldAll H (v :: vs.take n) (t :: ts.take n)
    unfold TldAll
    exact ⟨h.1, TldAll.take n h.2⟩
theorem TldAll.drop {H : Hp} : ∀ {vs : List V} {ts : List Tld} (n : Nat), TldAll H vs ts → TldAll H (vs.drop n) (ts.drop n)
  | _, _, 0, h => h
  | [], [], _ + 1, _ => TldAll.nil
  | [], _ :: _, _ + 1, h => by unfold TldAll at h; exact h.elim
  | _ :: _, [], _ + 1, h => by unfold TldAll at h; exact h.elim
  | v :: vs, t :: ts, n + 1, h => by
    unfold TldAll at h
    exact TldAll.drop n h.2
theorem AllLs_iff {p : V → Prop} {q : V × V → Prop} : ∀ {ts : List Tld}, AllLs p q ts ↔ ∀ t ∈ ts, AllLf p q t
  | [] => by unfold AllLs; simp
  | t :: ts => by
    unfold AllLs
    rw [AllLs_iff (ts := ts)]
    simp
theorem ShpL_iff : ∀ {ts : List Tld}, ShpL ts ↔ ∀ t ∈ ts, ShpT t
  | [] => by unfold ShpL; simp
  | t :: ts => by
    unfold ShpL
    rw [ShpL_iff (ts := ts)]
    simp
theorem rulesL_swap (ts : List Tld) (n : Nat) : rulesL (ts.drop n ++ ts.take n) = rulesL ts := by
  have h := congrArg rulesL (List.take_append_drop n ts)
  rw [rulesL_app] at h
  rw [rulesL_app]
  omega
theorem deepL_swap (ts : List Tld) (n : Nat) : deepL (ts.drop n ++ ts.take n) = deepL ts := by
  have h := congrArg deepL (List.take_append_drop n ts)
  rw [deepL_app] at h
  rw [deepL_app]
  omega
theorem mem_swap {α : Type} {ts : List α} {n : Nat} {t : α} (h : t ∈ ts.drop n ++ ts.take n) : t ∈ ts := by
  rcases List.mem_append.mp h with e | e
  · exact List.mem_of_mem_drop e
  · exact List.mem_of_mem_take e
theorem cut_from (xs : List V) (a : Nat) (h : a ≤ xs.length) : cutV xs (some (a : Int)) none = xs.drop a := by
  unfold cutV
  rw [HT.sIx_nat, HT.sIx_none, Nat.min_eq_left h, ← List.length_drop]
  exact List.take_length
theorem cut_to (xs : List V) (a : Nat) (h : a ≤ xs.length) : cutV xs none (some (a : Int)) = xs.take a := by
  unfold cutV
  rw [HT.sIx_nat, HT.sIx_none, Nat.min_eq_left h]
  simp
theorem two_at {a b : V} {j : Int} (h0 : 0 ≤ j) (h1 : j < 2) : ∃ g : Bool, ([a, b] : List V)[j.toNat]? = some (if g then b else a) := by
  have : j.toNat = 0 ∨ j.toNat = 1 := by omega
  rcases this with e | e <;> rw [e]
  · exact ⟨false, rfl⟩
  · exact ⟨true, rfl⟩
theorem words_at {j : Int} (h0 : 0 ≤ j) (h1 : j < 2) : ∃ g : Bool, ([.str "least", .str "greatest"] : List V)[j.toNat]? = some (.str (wd g)) := by
  have : j.toNat = 0 ∨ j.toNat = 1 := by omega
  rcases this with e | e <;> rw [e]
  · exact ⟨false, rfl⟩
  · exact ⟨true, rfl⟩
end CC

/-! CO: instances of own classes whose class is one of several; rules as objects -/
namespace CC
open PySem PySem.Spec PyProof.Rows L2
section
variable {X : Cx} {CX : CXT} {k : Nat} {f C : Addr} {fd : FuncData} {ps : List Str} {sp : Sp} {dvs : List V} {ds : List Value} {E : XK}
/-- the callee runs, further in -/
theorem run_fnA {A : Around} {pins : List (Addr × Obj)} {σ : L2.St} {H : Hp} {s : Shared} {Q : VK} {us : List Value} {vs : List V} (F : FnOk X.prog X.w X.K X.mg X.base CX k f fd ps sp) (hr : Room k A) (hb : Binds X.K fd ps ds) (hd : Vals dvs ds) (hx : Passes CX X E)
    (I : Inv X pins σ H s) (e0 : Env0 X.prog X.w X.K X.mg X.base A X.stack s H) (r : Vals vs us) (h : sp (vs ++ dvs) H Q E) : wpAny (model X.prog X.w) A (call (.ref f) us) (EP X pins σ Q) X.xe s := by
  have r2 : Vals (vs ++ dvs) (us ++ ds) := r.append hd
  have hl : (us ++ ds).length = ps.length := by rw [← r2.length]; exact F.len _ _ _ _ h
  refine wpAny_call (codeAny_mono (F.run A X.stack s H ⟨us, []⟩ (us ++ ds) (vs ++ dvs) Q E hr e0 (hb s us I.kIn hl) r2 h) fun r s' hq => ?_)
  cases r with
  | error e => exact hx pins σ H s e s' I hq
  | ok fl =>
    cases fl with
    | ret u => exact I.after hq
    | next => exact False.elim hq
    | brk => exact False.elim hq
    | cont => exact False.elim hq
end
/-- a method without arguments that class C has: of level at most j, it raises nothing -/
structure Mdy (P : Program) (w : World) (K : PySem.W.Frag) (mg : Str → Option Value) (base : Heap) (j : Nat) (m : Str) (C : Addr) (sp : Sp) : Prop where
  ex : ∃ (f : Addr) (fd : FuncData) (ps : List Str), FnOk P w K mg base CX0 j f fd ps sp ∧ Cls K C ∧ Meth K C m f ∧ Binds K fd ps []
def tMD (P : Program) (w : World) (K : PySem.W.Frag) (mg : Str → Option Value) (base : Heap) (j : Nat) (m : Str) (ta : TE) : TE := fun σ H Q => ta σ H fun x H1 => ∃ (a C dx : Addr) (fs : List (Str × V)) (sp : Sp), x = .ref a ∧ H1 a = some (.ins C dx fs) ∧ Mdy P w K mg base j m C sp ∧ fs.lookup m = none ∧ sp [.ref a] H1 Q E0
section
variable {X : Cx} {P : Program} {w : World} {K : PySem.W.Frag} {mg : Str → Option Value} {base : Heap} {j : Nat} {m : Str} {ta : TE} {o : Expr} {apos pos : Pos}
/-- o.m() -/
theorem pe_methD {pl : Sem Bool} (he : PE X o ta) (hr : Room j X.A) (eP : X.prog = P := by rfl) (ew : X.w = w := by rfl) (eK : X.K = K := by rfl) (eM : X.mg = mg := by rfl) (eB : X.base = base := by rfl)
    (ht : eval (.Call (.Attribute o m apos) [] [] pos) X.env = (do
      let ov ← eval o X.env
      standAt apos.atName
      let (f, first) ← holding [ov] (getMethod ov m pl)
      callWith pos f first (backTo pos (starEach [] X.env)) (backToKw pos (keywordEach [] X.env))) := by rfl) :
    PE X (.Call (.Attribute o m apos) [] [] pos) (tMD P w K mg base j m ta) := by
  subst eP ew eK eM eB
  refine ⟨fun pins s σ H Q I h => ?_⟩
  refine PySem.W.methodCall_KW (pl := pl) (thn (he.run pins s σ H _ I h) fun u s1 ⟨x, H1, I1, rx, a, C, dx, fs, sp, ex, ea, M, l, q⟩ => ?_) ht
  subst ex
  obtain ⟨f, fd, ps, F, c, hm, hb⟩ := M.ex
  obtain rfl : u = Value.ref a := rx
  refine getmeth_ok I1 ea c hm l ?_
  exact PySem.W.callWith_K0 (first := [.ref a]) I1.kIn hm.kp (run_fn (us := [.ref a]) (vs := [.ref a]) (dvs := []) (ds := []) F hr hb .nil L2.pass0 I1 (.cons rfl .nil) q)
end
/-! ### rules as objects -/
def kd : Tld → Str
  | .lv _ => "Level"
  | .cl _ _ => "Called"
  | .mx true _ => "Greatest"
  | .mx false _ => "Least"
mutual
def ObAt (mg : Str → Option Value) (H : Hp) : V → Tld → Prop
  | v, .lv x => ∃ a dx, v = .ref a ∧ H a = some (.ins (exA mg "Level") dx [("level", x)])
  | v, .cl w t => ∃ a dx, v = .ref a ∧ H a = some (.ins (exA mg "Called") dx [("when", w), ("town", t)])
  | v, .mx g ts => ∃ a dx p vs, v = .ref a ∧ H a = some (.ins (exA mg (kd (.mx g []))) dx [("terms", .ref p)]) ∧ H p = some (.tup vs) ∧ ObAll mg H vs ts
def ObAll (mg : Str → Option Value) (H : Hp) : List V → List Tld → Prop
  | [], [] => True
  | v :: vs, t :: ts => ObAt mg H v t ∧ ObAll mg H vs ts
  | [], _ :: _ => False
  | _ :: _, [] => False
end
theorem kd_mx (g : Bool) (ts : List Tld) : kd (.mx g ts) = kd (.mx g []) := by cases g <;> rfl
/-- tuples and instances stay -/
structure TO (H H' : Hp) : Prop where
  t : TK H H'
  i : ∀ a C dx fs, fs ≠ [] → H a = some (.ins C dx fs) → H' a = some (.ins C dx fs)
theorem TO.refl (H : Hp) : TO H H := ⟨fun _ _ e => e, fun _ _ _ _ _ e => e⟩
theorem TO.trans {H H1 H2 : Hp} (a : TO H H1) (b : TO H1 H2) : TO H H2 := ⟨a.t.trans b.t, fun x C dx fs n e => b.i x C dx fs n (a.i x C dx fs n e)⟩
theorem TO.same {H H' : Hp} (h : Same H H') : TO H H' := ⟨fun _ _ e => h _ _ e, fun _ _ _ _ _ e => h _ _ e⟩
theorem TO.new {H : Hp} {p : Addr} {o : HO} (hp : H p = none) : TO H (upd H p o) := TO.same (Same.new hp)
theorem TO.lst {H : Hp} {p : Addr} {xs : List V} {o : HO} (hp : H p = some (.lst xs)) : TO H (upd H p o) := ⟨TK.lst hp, fun a C dx fs _ e => by rw [upd_ne (fun z => by rw [z, hp] at e; cases e)]; exact e⟩
section
variable {mg : Str → Option Value} {H H' : Hp}
mutual
theorem ObAt.to (k : TO H H') : ∀ (t : Tld) {v : V}, ObAt mg H v t → ObAt mg H' v t
  | .lv x, v, h => by
    unfold ObAt at h ⊢
    obtain ⟨a, dx, e, h⟩ := h
    exact ⟨a, dx, e, k.i _ _ _ _ (by simp) h⟩
  | .cl w t, v, h => by
    unfold ObAt at h ⊢
    obtain ⟨a, dx, e, h⟩ := h
    exact ⟨a, dx, e, k.i _ _ _ _ (by simp) h⟩
  | .mx g ts, v, h => by
    unfold ObAt at h ⊢
    obtain ⟨a, dx, p, vs, e, h, hp, hs⟩ := h
    exact ⟨a, dx, p, vs, e, k.i _ _ _ _ (by simp) h, k.t _ _ hp, ObAll.to k ts hs⟩
theorem ObAll.to (k : TO H H') : ∀ (ts : List Tld) {vs : List V}, ObAll mg H vs ts → ObAll mg H' vs ts
  | [], [], _ => by unfold ObAll; trivial
  | [], _ :: _, h => by unfold ObAll at h; exact h.elim
  | _ :: _, [], h => by unfold ObAll at h; exact h.elim
  | t :: ts, v :: vs, h => by
    unfold ObAll at h ⊢
    exact ⟨ObAt.to k t h.1, ObAll.to k ts h.2⟩
end
theorem ObAll.nil : ObAll mg H [] [] := by unfold ObAll; trivial
theorem ObAll.length : ∀ {vs : List V} {ts : List Tld}, ObAll mg H vs ts → vs.length = ts.length
  | [], [], _ => rfl
  | [], _ :: _, h => by unfold ObAll at h; exact h.elim
  | _ :: _, [], h => by unfold ObAll at h; exact h.elim
  | v :: vs, t :: ts, h => by
    unfold ObAll at h
    rw [List.length_cons, List.length_cons, ObAll.length h.2]
theorem ObAll.app : ∀ {vs ws : List V} {ts us : List Tld}, ObAll mg H vs ts → ObAll mg H ws us → ObAll mg H (vs ++ ws) (ts ++ us)
  | [], _, [], _, _, h => h
  | [], _, _ :: _, _, h, _ => by unfold ObAll at h; exact h.elim
  | _ :: _, _, [], _, h, _ => by unfold ObAll at h; exact h.elim
  | v :: vs, ws, t :: ts, us, h, h' => by
    unfold ObAll at h
    show ObAll mg H (v :: (vs ++ ws)) (t :: (ts ++ us))
    unfold ObAll
    exact ⟨h.1, ObAll.app h.2 h'⟩
theorem ObAll.one {v : V} {t : Tld} (h : ObAt mg H v t) : ObAll mg H [v] [t] := by
  unfold ObAll
  exact ⟨h, ObAll.nil⟩
theorem ObAll.get : ∀ {vs : List V} {ts : List Tld} {i : Nat} {v : V}, ObAll mg H vs ts → vs[i]? = some v → ∃ t, ts[i]? = some t ∧ ObAt mg H v t
  | [], _, _, _, _, e => by simp at e
  | _ :: _, [], _, _, h, _ => by unfold ObAll at h; exact h.elim
  | v :: vs, t :: ts, 0, x, h, e => by
    unfold ObAll at h
    have e2 : v = x := Option.some.inj e
    subst e2
    exact ⟨t, rfl, h.1⟩
  | v :: vs, t :: ts, i + 1, x, h, e => by
    unfold ObAll at h
    exact ObAll.get (i := i) h.2 e
theorem ObAt.ref : ∀ {t : Tld} {v : V}, ObAt mg H v t → ∃ a, v = .ref a
  | .lv x, v, h => by unfold ObAt at h; obtain ⟨a, _, e, _⟩ := h; exact ⟨a, e⟩
  | .cl _ _, v, h => by unfold ObAt at h; obtain ⟨a, _, e, _⟩ := h; exact ⟨a, e⟩
  | .mx _ _, v, h => by unfold ObAt at h; obtain ⟨a, _, _, _, e, _⟩ := h; exact ⟨a, e⟩
theorem ObAt.ins : ∀ {t : Tld} {a : Addr}, ObAt mg H (.ref a) t → ∃ dx fs, H a = some (.ins (exA mg (kd t)) dx fs) ∧ ∀ m : Str, (∀ f ∈ (["level", "when", "town", "terms"] : List Str), (m == f) = false) → fs.lookup m = none
  | .lv x, v, h => by
    unfold ObAt at h
    obtain ⟨a, dx, e, h⟩ := h
    cases e
    refine ⟨dx, _, h, fun m hm => ?_⟩
    simp only [List.lookup_cons, hm "level" (by simp), List.lookup_nil]
  | .cl _ _, v, h => by
    unfold ObAt at h
    obtain ⟨a, dx, e, h⟩ := h
    cases e
    refine ⟨dx, _, h, fun m hm => ?_⟩
    simp only [List.lookup_cons, hm "when" (by simp), hm "town" (by simp), List.lookup_nil]
  | .mx g ts, v, h => by
    unfold ObAt at h
    obtain ⟨a, dx, p, vs, e, h, _⟩ := h
    cases e
    rw [kd_mx g ts]
    refine ⟨dx, _, h, fun m hm => ?_⟩
    simp only [List.lookup_cons, hm "terms" (by simp), List.lookup_nil]
end
/-- what holds of each rule that is made: n deep at most -/
structure okT (n : Nat) (t : Tld) : Prop where
  d : deepT t ≤ n
  r : rulesT t ≤ 1000
  s : ShpT t
  l : AllLf lvOk clOk t
theorem rulesT_le : ∀ {ts : List Tld} {t : Tld}, t ∈ ts → rulesT t ≤ rulesL ts
  | [], _, h => by cases h
  | u :: ts, t, h => by
    simp only [rulesL]
    rcases List.mem_cons.mp h with e | e
    · rw [e]; omega
    · have := rulesT_le e; omega
theorem deepT_le : ∀ {ts : List Tld} {t : Tld}, t ∈ ts → deepT t ≤ deepL ts
  | [], _, h => by cases h
  | u :: ts, t, h => by
    simp only [deepL]
    rcases List.mem_cons.mp h with e | e
    · rw [e]; omega
    · have := deepT_le e; omega
theorem len_rulesL : ∀ ts : List Tld, ts.length ≤ rulesL ts
  | [] => Nat.zero_le _
  | t :: ts => by
    have := rulesT_pos t
    have := len_rulesL ts
    simp only [rulesL, List.length_cons]
    omega
theorem okT.sub {n : Nat} {g : Bool} {ts : List Tld} (h : okT (n + 1) (.mx g ts)) : (∀ t ∈ ts, okT n t) ∧ 2 ≤ ts.length ∧ ts.length ≤ 8 ∧ rulesL ts ≤ 999 ∧ deepL ts ≤ n := by
  obtain ⟨d, r, s, l⟩ := h
  simp only [deepT] at d
  simp only [rulesT] at r
  unfold ShpT at s
  unfold AllLf at l
  refine ⟨fun t ht => ⟨?_, ?_, ShpL_iff.mp s.2.2 t ht, AllLs_iff.mp l t ht⟩, s.1, s.2.1, by omega, by omega⟩
  · have := deepT_le ht; omega
  · have := rulesT_le ht; omega
/-- a method of rules: what it tells of each -/
def spOb (mg : Str → Option Value) (cs : List Str) (n : Nat) (R : Tld → Hp → V → Prop) : Sp := fun vs H Q _ => ∃ (a : Addr) (t : Tld), vs = [.ref a] ∧ kd t ∈ cs ∧ ObAt mg H (.ref a) t ∧ okT n t ∧ ∀ v H', Same H H' → R t H' v → Q v H'
structure Disp (P : Program) (w : World) (K : PySem.W.Frag) (mg : Str → Option Value) (base : Heap) (j : Nat) (m : Str) (n : Nat) (R : Tld → Hp → V → Prop) : Prop where
  of : ∀ c ∈ (["Level", "Called", "Least", "Greatest"] : List Str), ∃ cs, c ∈ cs ∧ Mdy P w K mg base j m (exA mg c) (spOb mg cs n R)
theorem kd_in (t : Tld) : kd t ∈ (["Level", "Called", "Least", "Greatest"] : List Str) := by
  cases t with
  | lv x => exact List.mem_cons_self ..
  | cl w t => exact List.mem_cons_of_mem _ (List.mem_cons_self ..)
  | mx g ts => cases g <;> simp [kd]
section
variable {P : Program} {w : World} {K : PySem.W.Frag} {mg : Str → Option Value} {base : Heap} {j n : Nat} {m : Str} {R : Tld → Hp → V → Prop} {H : Hp} {a : Addr} {t : Tld} {Q : VK}
theorem Disp.go (D : Disp P w K mg base j m n R) (h : ObAt mg H (.ref a) t) (ok : okT n t) (hm : ∀ f ∈ (["level", "when", "town", "terms"] : List Str), (m == f) = false) (q : ∀ v H', Same H H' → R t H' v → Q v H') :
    ∃ (a' C dx : Addr) (fs : List (Str × V)) (sp : Sp), (.ref a : V) = .ref a' ∧ H a' = some (.ins C dx fs) ∧ Mdy P w K mg base j m C sp ∧ fs.lookup m = none ∧ sp [.ref a'] H Q E0 := by
  obtain ⟨dx, fs, h1, h2⟩ := h.ins
  obtain ⟨cs, hc, M⟩ := D.of (kd t) (kd_in t)
  exact ⟨a, _, dx, fs, _, rfl, h1, M, h2 m hm, a, t, rfl, hc, h, ok, q⟩
end
/-! ### str(o) by an own __str__ -/
def rStrD (P : Program) (w : World) (K : PySem.W.Frag) (mg : Str → Option Value) (base : Heap) (j : Nat) : List V → Hp → VK → Prop := fun xs H Q => ∃ (a C dx : Addr) (fs : List (Str × V)) (sp : Sp), xs = [.ref a] ∧ H a = some (.ins C dx fs) ∧ Mdy P w K mg base j "__str__" C sp ∧ sp [.ref a] H (fun v H' => (∃ y, v = .str y) ∧ Q v H') E0
theorem call_strD {X : Cx} {j : Nat} (hr : Room (j + 1) X.A) : CallR X (.type "str") (rStrD X.prog X.w X.K X.mg X.base j) := by
  intro pins s σ H xs us Q I r h
  obtain ⟨a, C, dx, fs, sp, rfl, ea, M, q⟩ := h
  obtain ⟨f, fd, ps, F, c, hm, hb⟩ := M.ex
  rw [Vals.ref1 r]
  obtain ⟨mA, O, _⟩ := ins_get I.hok ea
  obtain ⟨od, J, _⟩ := O.look
  have hr2 : Room j X.A.in1.in1 := ⟨hr.hd, by have := hr.dp; show X.A.depth + 3 * j + 5 < _; omega, by have := hr.un; show X.A.units + 1 + 1 + 16 * j + 200 < _; omega⟩
  refine PySem.W.kso_call (by have := hr2.un; omega) I.kIn J hm.at_ hm.fn ?_
  have e := I.env0
  have e1 : Env0 X.prog X.w X.K X.mg X.base X.A.in1.in1 X.stack s H := ⟨e.frames, e.mod, e.bs, e.bsz, e.funs, e.frf, e.hok, e.bare⟩
  have hc := run_fnA (us := [.ref a]) (vs := [.ref a]) (dvs := []) (ds := []) F hr2 hb .nil L2.pass0 I e1 (.cons rfl .nil) q
  refine wpAny_mono hc (fun v s' hv => ?_) fun _ _ y => y
  · obtain ⟨x, H', I', rx, ⟨y, rfl⟩, q2⟩ := hv
    obtain ⟨tk, rfl⟩ := rx
    exact ⟨.str y, H', I', ⟨tk, rfl⟩, q2⟩
/-- an instance without fields gets some -/
theorem TO.init {H H' : Hp} {a C dx : Addr} (ha : H a = some (.ins C dx [])) (k : ∀ b o, H b = some o → b ≠ a → H' b = some o) : TO H H' :=
  ⟨fun p xs e => k p _ e (fun z => by rw [z, ha] at e; cases e), fun p C' dx' fs n e => k p _ e (fun z => by
    rw [z, ha] at e
    injection e with e
    injection e with _ _ e
    exact n e.symm)⟩
/-! ### how rules are made -/
def isWh (v : V) : Bool := decide (v = .str "made") || decide (v = .str "paid") || isNum v 0 9999
def isTw (v : V) : Bool := decide (v = .non) || isNm v
def isMx (ts : List Tld) : Bool := decide (2 ≤ ts.length) && decide (ts.length ≤ 8) && decide (1 + rulesL ts ≤ 60) && decide (1 + deepL ts ≤ 8)
def spInitLv (mg : Str → Option Value) : Sp := fun vs H Q E => ∃ (a dx : Addr) (v : V), vs = [.ref a, v] ∧ H a = some (.ins (exA mg "Level") dx []) ∧ flatV v = true ∧
  (isNum v 0 1000000 = true → Q .non (upd H a (.ins (exA mg "Level") dx [("level", v)]))) ∧ (isNum v 0 1000000 = false → E (.ref (exA mg "NoWorth")) none H)
def spInitCl (mg : Str → Option Value) : Sp := fun vs H Q E => ∃ (a dx : Addr) (v t : V), vs = [.ref a, v, t] ∧ H a = some (.ins (exA mg "Called") dx []) ∧ flatV v = true ∧ flatV t = true ∧ lenOk t ∧
  (isWh v = true → isTw t = true → ∀ H', Same H H' → Q .non (upd H' a (.ins (exA mg "Called") dx [("when", v), ("town", t)]))) ∧
  (isWh v = false → E (.ref (exA mg "NoDay")) none H) ∧ (isWh v = true → isTw t = false → ∀ H', Same H H' → E (.ref (exA mg "NoName")) none H')
/-- the bracket's rules come in a list; its tuple is new -/
def spInitMx (mg : Str → Option Value) (n : Nat) : Sp := fun vs H Q E => ∃ (a dx p : Addr) (g : Bool) (xs : List V) (ts : List Tld), vs = [.ref a, .ref p] ∧ H a = some (.ins (exA mg (kd (.mx g []))) dx []) ∧ H p = some (.lst xs) ∧ ObAll mg H xs ts ∧
  (∀ t ∈ ts, okT n t) ∧ rulesL ts ≤ 999 ∧
  (isMx ts = true → ∀ H' q, (∀ b o, H b = some o → b ≠ a → H' b = some o) → H q = none → H' q = some (.tup xs) → H' a = some (.ins (exA mg (kd (.mx g []))) dx [("terms", .ref q)]) → Q .non H') ∧
  (isMx ts = false → ∀ H', (∀ b o, H b = some o → b ≠ a → H' b = some o) → E (.ref (exA mg "NoTerm")) none H')
/-- what the classes of rules are -/
structure Kls (K : PySem.W.Frag) (mg : Str → Option Value) : Prop where
  c : ∀ c ∈ (["Level", "Called", "Least", "Greatest"] : List Str), Cls K (exA mg c)
  na : ∀ c ∈ (["Level", "Called", "Least", "Greatest"] : List Str), ∀ f ∈ (["level", "when", "town", "terms"] : List Str), NoAttr K (exA mg c) f
theorem Kls.cls {K : PySem.W.Frag} {mg : Str → Option Value} (k : Kls K mg) (t : Tld) : Cls K (exA mg (kd t)) := k.c _ (kd_in t)
theorem Kls.no {K : PySem.W.Frag} {mg : Str → Option Value} (k : Kls K mg) (t : Tld) (f : Str) (hf : f ∈ (["level", "when", "town", "terms"] : List Str)) : NoAttr K (exA mg (kd t)) f := k.na _ (kd_in t) f hf
/-- the method m of the classes cs is the def at f -/
def Mby (K : PySem.W.Frag) (mg : Str → Option Value) (m : Str) (cs : List Str) (f : Addr) : Prop := ∀ c ∈ cs, Meth K (exA mg c) m f
section
variable {P : Program} {w : World} {K : PySem.W.Frag} {mg : Str → Option Value} {base : Heap} {j n : Nat} {m : Str} {R : Tld → Hp → V → Prop}
theorem Disp.two {f1 f2 : Addr} {fd1 fd2 : FuncData} {ps1 ps2 : List Str} (k : Kls K mg) (m1 : Mby K mg m ["Level", "Called"] f1) (m2 : Mby K mg m ["Least", "Greatest"] f2) (F1 : FnOk P w K mg base CX0 j f1 fd1 ps1 (spOb mg ["Level", "Called"] n R)) (F2 : FnOk P w K mg base CX0 j f2 fd2 ps2 (spOb mg ["Least", "Greatest"] n R))
    (b1 : Binds K fd1 ps1 []) (b2 : Binds K fd2 ps2 []) : Disp P w K mg base j m n R := ⟨fun c hc => by
  have h : c ∈ (["Level", "Called"] : List Str) ∨ c ∈ (["Least", "Greatest"] : List Str) := by
    simp only [List.mem_cons, List.not_mem_nil, or_false] at hc ⊢
    rcases hc with h | h | h | h
    · exact .inl (.inl h)
    · exact .inl (.inr h)
    · exact .inr (.inl h)
    · exact .inr (.inr h)
  rcases h with h | h
  · exact ⟨_, h, ⟨f1, fd1, ps1, F1, k.c c hc, m1 c h, b1⟩⟩
  · exact ⟨_, h, ⟨f2, fd2, ps2, F2, k.c c hc, m2 c h, b2⟩⟩⟩
theorem Disp.all {f1 : Addr} {fd1 : FuncData} {ps1 : List Str} (k : Kls K mg) (m1 : Mby K mg m ["Level", "Called", "Least", "Greatest"] f1) (F1 : FnOk P w K mg base CX0 j f1 fd1 ps1 (spOb mg ["Level", "Called", "Least", "Greatest"] n R)) (b1 : Binds K fd1 ps1 []) : Disp P w K mg base j m n R :=
  ⟨fun c hc => ⟨_, hc, ⟨f1, fd1, ps1, F1, k.c c hc, m1 c hc, b1⟩⟩⟩
theorem Disp.four {f1 f2 f3 f4 : Addr} {fd1 fd2 fd3 fd4 : FuncData} {ps1 ps2 ps3 ps4 : List Str} (k : Kls K mg) (m1 : Mby K mg m ["Level"] f1) (m2 : Mby K mg m ["Called"] f2) (m3 : Mby K mg m ["Least"] f3) (m4 : Mby K mg m ["Greatest"] f4)
    (F1 : FnOk P w K mg base CX0 j f1 fd1 ps1 (spOb mg ["Level"] n R)) (F2 : FnOk P w K mg base CX0 j f2 fd2 ps2 (spOb mg ["Called"] n R)) (F3 : FnOk P w K mg base CX0 j f3 fd3 ps3 (spOb mg ["Least"] n R)) (F4 : FnOk P w K mg base CX0 j f4 fd4 ps4 (spOb mg ["Greatest"] n R))
    (b1 : Binds K fd1 ps1 []) (b2 : Binds K fd2 ps2 []) (b3 : Binds K fd3 ps3 []) (b4 : Binds K fd4 ps4 []) : Disp P w K mg base j m n R := ⟨fun c hc => by
  have hc' := hc
  simp only [List.mem_cons, List.not_mem_nil, or_false] at hc
  rcases hc with h | h | h | h <;> subst h
  · exact ⟨_, List.mem_cons_self .., ⟨f1, fd1, ps1, F1, k.c _ hc', m1 _ (List.mem_cons_self ..), b1⟩⟩
  · exact ⟨_, List.mem_cons_self .., ⟨f2, fd2, ps2, F2, k.c _ hc', m2 _ (List.mem_cons_self ..), b2⟩⟩
  · exact ⟨_, List.mem_cons_self .., ⟨f3, fd3, ps3, F3, k.c _ hc', m3 _ (List.mem_cons_self ..), b3⟩⟩
  · exact ⟨_, List.mem_cons_self .., ⟨f4, fd4, ps4, F4, k.c _ hc', m4 _ (List.mem_cons_self ..), b4⟩⟩⟩
end
theorem kd_leaf {t : Tld} (h : kd t ∈ (["Level", "Called"] : List Str)) : (∃ v, t = .lv v) ∨ ∃ w u, t = .cl w u := by
  cases t with
  | lv v => exact .inl ⟨v, rfl⟩
  | cl w u => exact .inr ⟨w, u, rfl⟩
  | mx g ts =>
    cases g
    · exact absurd (show ("Least" : Str) ∈ (["Level", "Called"] : List Str) from h) (by decide +kernel)
    · exact absurd (show ("Greatest" : Str) ∈ (["Level", "Called"] : List Str) from h) (by decide +kernel)
theorem kd_mix {t : Tld} (h : kd t ∈ (["Least", "Greatest"] : List Str)) : ∃ g ts, t = .mx g ts := by
  cases t with
  | lv v => exact absurd (show ("Level" : Str) ∈ (["Least", "Greatest"] : List Str) from h) (by decide +kernel)
  | cl w u => exact absurd (show ("Called" : Str) ∈ (["Least", "Greatest"] : List Str) from h) (by decide +kernel)
  | mx g ts => exact ⟨g, ts, rfl⟩
theorem deepL_all {n : Nat} : ∀ {ts : List Tld}, (∀ t ∈ ts, deepT t ≤ n) → deepL ts ≤ n
  | [], _ => Nat.zero_le _
  | t :: ts, h => by
    have h1 := h t (List.mem_cons_self ..)
    have h2 := deepL_all (ts := ts) fun u hu => h u (List.mem_cons_of_mem _ hu)
    simp only [deepL]
    omega
theorem okT.mk_mx {n : Nat} {g : Bool} {ts : List Tld} (h : ∀ t ∈ ts, okT n t) (l2 : 2 ≤ ts.length) (l8 : ts.length ≤ 8) (r : rulesL ts ≤ 999) : okT (n + 1) (.mx g ts) := by
  refine ⟨?_, ?_, ?_, ?_⟩
  · have := deepL_all fun t ht => (h t ht).d
    simp only [deepT]
    omega
  · simp only [rulesT]
    omega
  · unfold ShpT
    exact ⟨l2, l8, ShpL_iff.mpr fun t ht => (h t ht).s⟩
  · unfold AllLf
    exact AllLs_iff.mpr fun t ht => (h t ht).l
theorem sum_rules : ∀ ts : List Tld, (ts.map fun t => (rulesT t : Int)).sum = rulesL ts
  | [] => rfl
  | t :: ts => by
    simp only [List.map_cons, List.sum_cons, rulesL, sum_rules ts]
    omega
theorem deepL_mem : ∀ {ts : List Tld}, ts ≠ [] → ∃ t ∈ ts, deepT t = deepL ts
  | [], h => absurd rfl h
  | [t], _ => ⟨t, List.mem_cons_self .., by simp only [deepL]; omega⟩
  | t :: u :: ts, _ => by
    obtain ⟨x, hx, e⟩ := deepL_mem (ts := u :: ts) (by simp)
    rw [deepL]
    rcases Nat.le_total (deepT t) (deepL (u :: ts)) with h | h
    · exact ⟨x, List.mem_cons_of_mem _ hx, by rw [e]; omega⟩
    · exact ⟨t, List.mem_cons_self .., by omega⟩
/-! ### the makings that go right -/
section
variable {mg : Str → Option Value} {H : Hp} {x dx : Addr} {Q : VK} {E : XK}
theorem same_made {H : Hp} {x dx : Addr} {o u u' : HO} (hx : H x = none) (hd : H dx = none) : Same H (upd (upd (upd H dx o) x u) x u') := fun b v e => by
  rw [upd_ne (ne_of_none e hx), upd_ne (ne_of_none e hx), upd_ne (ne_of_none e hd)]
  exact e
theorem isNum_lv {v : V} (h : lvOk v) : isNum v 0 1000000 = true := by
  obtain ⟨n, rfl, h0, h1⟩ := h
  show (decide (0 ≤ n) && decide (n ≤ 1000000)) = true
  rw [decide_eq_true h0, decide_eq_true h1]
  rfl
theorem flat_lv {v : V} (h : lvOk v) : flatV v = true := by
  obtain ⟨n, rfl, _⟩ := h
  rfl
theorem isWh_ok {v : V} (h : whOk v) : isWh v = true := by
  unfold isWh
  rcases h with h | h | ⟨n, rfl, h0, h1⟩
  · rw [decide_eq_true h]; rfl
  · rw [decide_eq_true h, Bool.or_true]; rfl
  · have e : isNum (.int n) 0 9999 = true := by
      show (decide (0 ≤ n) && decide (n ≤ 9999)) = true
      rw [decide_eq_true h0, decide_eq_true h1]
      rfl
    rw [e, Bool.or_true]
theorem flat_wh {v : V} (h : whOk v) : flatV v = true := by
  rcases h with h | h | ⟨n, h, _⟩ <;> rw [h] <;> rfl
theorem isTw_ok {v : V} (h : twOk v) : isTw v = true := by
  unfold isTw
  rcases h with h | ⟨x, rfl, h⟩
  · rw [decide_eq_true h]; rfl
  · rw [show isNm (.str x) = true from h, Bool.or_true]
theorem flat_tw {v : V} (h : twOk v) : flatV v = true ∧ lenOk v := by
  rcases h with h | ⟨x, h, hx⟩ <;> rw [h]
  · exact ⟨rfl, trivial⟩
  · exact ⟨rfl, Nat.le_trans (nm_iff.mp hx).2.1 (by decide)⟩
theorem mkLv {v : V} (hx : H x = none) (hd : H dx = none) (hv : lvOk v) (q : ∀ H', Same H H' → ObAt mg H' (.ref x) (.lv v) → Q .non H') :
    spInitLv mg [.ref x, v] (upd (upd H dx (.own x)) x (.ins (exA mg "Level") dx [])) Q E :=
  ⟨x, dx, v, rfl, upd_same, flat_lv hv, fun _ => q _ (same_made hx hd) (by unfold ObAt; exact ⟨x, dx, rfl, upd_same⟩), fun e => by rw [isNum_lv hv] at e; cases e⟩
theorem mkCl {v t : V} (hx : H x = none) (hd : H dx = none) (hv : whOk v) (ht : twOk t) (q : ∀ H', Same H H' → ObAt mg H' (.ref x) (.cl v t) → Q .non H') :
    spInitCl mg [.ref x, v, t] (upd (upd H dx (.own x)) x (.ins (exA mg "Called") dx [])) Q E :=
  ⟨x, dx, v, t, rfl, upd_same, flat_wh hv, (flat_tw ht).1, (flat_tw ht).2, fun _ _ H' s' => q _ (fun b u e => by
      rw [upd_ne (ne_of_none e hx)]
      exact s' _ _ (by rw [upd_ne (ne_of_none e hx), upd_ne (ne_of_none e hd)]; exact e)) (by unfold ObAt; exact ⟨x, dx, rfl, upd_same⟩),
    fun e => (by rw [isWh_ok hv] at e; cases e), fun _ e => (by rw [isTw_ok ht] at e; cases e)⟩
theorem mkMx {n : Nat} {p : Addr} {g : Bool} {xs : List V} {ts : List Tld} (hx : H x = none) (hd : H dx = none) (hp : H p = some (.lst xs)) (h : ObAll mg H xs ts) (ok : ∀ t ∈ ts, okT n t) (r : rulesL ts ≤ 999) (m : isMx ts = true) (q : ∀ H', Same H H' → ObAt mg H' (.ref x) (.mx g ts) → Q .non H') :
    spInitMx mg n [.ref x, .ref p] (upd (upd H dx (.own x)) x (.ins (exA mg (kd (.mx g []))) dx [])) Q E := by
  have s0 : Same H (upd (upd H dx (.own x)) x (.ins (exA mg (kd (.mx g []))) dx [])) := fun b u e => by
    rw [upd_ne (ne_of_none e hx), upd_ne (ne_of_none e hd)]
    exact e
  have h0 := ObAll.to (TO.same s0) ts h
  refine ⟨x, dx, p, g, xs, ts, rfl, upd_same, s0 _ _ hp, h0, ok, r, fun _ H' u fr hu hu' ha => ?_, fun e => by rw [m] at e; cases e⟩
  refine q H' (fun b o e => fr b o (s0 _ _ e) (ne_of_none e hx)) ?_
  unfold ObAt
  exact ⟨x, dx, u, xs, rfl, ha, hu', ObAll.to (TO.init upd_same fr) ts h0⟩
end
/-- a told rule is made a rule: one that is due to be made -/
def spTermOf (mg : Str → Option Value) (n : Nat) : Sp := fun vs H Q _ => ∃ (a : Addr) (t : Tld), vs = [.ref a] ∧ TldAt H (.ref a) t ∧ okT n t ∧ rulesT t ≤ 60 ∧ deepT t ≤ 8 ∧ ∀ b H', Same H H' → ObAt mg H' (.ref b) t → Q (.ref b) H'
theorem isMx_ok {n : Nat} {g : Bool} {ts : List Tld} (ok : okT (n + 1) (.mx g ts)) (r : rulesT (.mx g ts) ≤ 60) (d : deepT (.mx g ts) ≤ 8) : isMx ts = true := by
  obtain ⟨_, l2, l8, _, _⟩ := ok.sub
  simp only [rulesT] at r
  simp only [deepT] at d
  unfold isMx
  rw [decide_eq_true l2, decide_eq_true l8, decide_eq_true r, decide_eq_true d]
  rfl
theorem TldAt.ref {H : Hp} : ∀ {t : Tld} {v : V}, TldAt H v t → ∃ a, v = .ref a
  | .lv x, v, h => by unfold TldAt at h; obtain ⟨a, e, _⟩ := h; exact ⟨a, e⟩
  | .cl _ _, v, h => by unfold TldAt at h; obtain ⟨a, e, _⟩ := h; exact ⟨a, e⟩
  | .mx _ _, v, h => by unfold TldAt at h; obtain ⟨a, _, e, _⟩ := h; exact ⟨a, e⟩
theorem wd_ne (g : Bool) : V.str (wd g) ≠ .str "level" ∧ V.str (wd g) ≠ .str "called" := by
  cases g <;> exact ⟨by decide +kernel, by decide +kernel⟩
/-! ### isinstance of rules; zip of tuples -/
structure Kis (K : PySem.W.Frag) (mg : Str → Option Value) : Prop where
  g : ∀ c ∈ (["Term", "Level", "Called", "Least", "Greatest"] : List Str), mg c = some (.ref (exA mg c))
  ha : ∀ c ∈ (["Level", "Called", "Least", "Greatest"] : List Str), PySem.W.findIn K (.ref (exA mg c)) "__class__" = some (some (.builtin "object.__class__"))
  hn : PySem.W.specialIn K (.builtin "object.__class__") "__get__" = some (some (.builtin "getset_descriptor.__get__"))
  htk : PySem.W.takesIn K (.builtin "object.__class__") = some true
  hm : ∀ c ∈ (["Level", "Called", "Least", "Greatest"] : List Str), PySem.W.mroIn K (exA mg c) (.type "object") = some true
  isi : ∀ c ∈ (["Level", "Called", "Least", "Greatest"] : List Str), ∀ d ∈ (["Level", "Called", "Least", "Greatest"] : List Str), PySem.W.kitOne K (.ref (exA mg c)) (.ref (exA mg d)) = some (decide (c = d))
  isT : ∀ c ∈ (["Level", "Called", "Least", "Greatest"] : List Str), PySem.W.kitOne K (.ref (exA mg c)) (.ref (exA mg "Term")) = some true
section
variable {K : PySem.W.Frag} {mg : Str → Option Value} {H : Hp} {a : Addr} {t : Tld}
theorem isi_ob (k : Kls K mg) (i : Kis K mg) (h : ObAt mg H (.ref a) t) (d : Str) (hd : d ∈ (["Level", "Called", "Least", "Greatest"] : List Str)) : ∃ t' u, ClsV (.ref (exA mg d)) u ∧ TyX K H (.ref a) t' ∧ PySem.W.kitOne K t' u = some (decide (kd t = d)) := by
  obtain ⟨dx, fs, h1, _⟩ := h.ins
  exact ⟨_, _, .own _, .base (.ins h1 (k.cls t) (i.ha _ (kd_in t)) i.hn i.htk (i.hm _ (kd_in t))), i.isi _ (kd_in t) d hd⟩
theorem isi_obT (k : Kls K mg) (i : Kis K mg) (h : ObAt mg H (.ref a) t) : ∃ t' u, ClsV (.ref (exA mg "Term")) u ∧ TyX K H (.ref a) t' ∧ PySem.W.kitOne K t' u = some true := by
  obtain ⟨dx, fs, h1, _⟩ := h.ins
  exact ⟨_, _, .own _, .base (.ins h1 (k.cls t) (i.ha _ (kd_in t)) i.hn i.htk (i.hm _ (kd_in t))), i.isT _ (kd_in t)⟩
theorem walk_zipT {a b : Addr} {xs ys : List V} {n : Nat} (hn : n = min xs.length ys.length) : Walk (RZ.ItzT K a b) n (fun H => SqT K H a xs ∧ SqT K H b ys) (YPair (fun i => xs[i]?) (fun i => ys[i]?)) := by
  subst hn
  refine ⟨fun i _ hi q => ?_, fun _ q => ⟨xs, ys, q.1, q.2, by omega⟩, fun i H v H' _ q y => ?_⟩
  · have h1 : i < xs.length := by omega
    have h2 : i < ys.length := by omega
    exact ⟨xs, ys, xs[i], ys[i], q.1, q.2, by simp [h1], by simp [h2]⟩
  · obtain ⟨T, x, z, h1, h2, h3, h4, h5⟩ := y
    exact ⟨T, x, z, h1, h2, h3, h4 xs q.1, h5 ys q.2⟩
end
/-- a rule's class and fields are just those that are told -/
def spSame (mg : Str → Option Value) (n : Nat) : Sp := fun vs H Q _ => ∃ (a b : Addr) (t : Tld), vs = [.ref a, .ref b] ∧ ObAt mg H (.ref a) t ∧ TldAt H (.ref b) t ∧ okT n t ∧ ∀ H', Same H H' → Q (.bl true) H'
def tag : Tld → Str
  | .lv _ => "level"
  | .cl _ _ => "called"
  | .mx g _ => wd g
theorem sorts_eq (t : Tld) : [decide (kd t = "Level"), decide (kd t = "Called"), decide (kd t = "Least"), decide (kd t = "Greatest")] = (["level", "called", "least", "greatest"] : List Str).map fun w => decide (V.str (tag t) = V.str w) := by
  cases t with
  | lv v => show [decide (("Level" : Str) = "Level"), decide (("Level" : Str) = "Called"), decide (("Level" : Str) = "Least"), decide (("Level" : Str) = "Greatest")] = (["level", "called", "least", "greatest"] : List Str).map fun w => decide (V.str "level" = V.str w); decide +kernel
  | cl w u => show [decide (("Called" : Str) = "Level"), decide (("Called" : Str) = "Called"), decide (("Called" : Str) = "Least"), decide (("Called" : Str) = "Greatest")] = (["level", "called", "least", "greatest"] : List Str).map fun w => decide (V.str "called" = V.str w); decide +kernel
  | mx g ts =>
    cases g
    · show [decide (("Least" : Str) = "Level"), decide (("Least" : Str) = "Called"), decide (("Least" : Str) = "Least"), decide (("Least" : Str) = "Greatest")] = (["level", "called", "least", "greatest"] : List Str).map fun w => decide (V.str "least" = V.str w); decide +kernel
    · show [decide (("Greatest" : Str) = "Level"), decide (("Greatest" : Str) = "Called"), decide (("Greatest" : Str) = "Least"), decide (("Greatest" : Str) = "Greatest")] = (["level", "called", "least", "greatest"] : List Str).map fun w => decide (V.str "greatest" = V.str w); decide +kernel
theorem dps_bools {K : PySem.W.Frag} {H : Hp} : ∀ bs : List Bool, DpAll K H (bs.map V.bl) (bs.map PyData.bool)
  | [] => .nil
  | b :: r => .cons (.bl b) (dps_bools r)
theorem shaped_bools (bs : List Bool) : SeqAt.shaped (.list (bs.map PyData.bool)) = true := by
  have h : ∀ l : List Bool, PyData.canLayAll0 (l.map PyData.bool) = true := fun l => by
    induction l with
    | nil => rfl
    | cons x r ih => rw [List.map_cons]; simp only [PyData.canLayAll0, PyData.canLay0, ih, Bool.and_self]
  have d : ∀ l : List Bool, PyData.depthAll (l.map PyData.bool) = 0 := fun l => by
    induction l with
    | nil => rfl
    | cons x r ih => rw [List.map_cons]; simp only [PyData.depthAll, PyData.depth, ih, Nat.max_self]
  unfold SeqAt.shaped
  simp only [PyData.canLay0, h, Bool.true_and, PyData.depth, d]
  exact decide_eq_true (by decide)
theorem eqv_bools (bs : List Bool) : PyData.eqv (.list (bs.map PyData.bool)) (.list (bs.map PyData.bool)) = true := by
  have h : ∀ l : List Bool, PyData.eqvAll (l.map PyData.bool) (l.map PyData.bool) = true := fun l => by
    induction l with
    | nil => simp only [List.map_nil, PyData.eqvAll]
    | cons x r ih => rw [List.map_cons]; simp only [PyData.eqvAll, PyData.eqv, ih, beq_self_eq_true, Bool.and_self]
  simp only [PyData.eqv, h]
theorem TldAt.tagged {H : Hp} : ∀ {t : Tld} {b : Addr}, TldAt H (.ref b) t → ∃ xs, H b = some (.tup (.str (tag t) :: xs))
  | .lv x, _, h => by unfold TldAt at h; obtain ⟨a, e, h⟩ := h; cases e; exact ⟨_, h⟩
  | .cl _ _, _, h => by unfold TldAt at h; obtain ⟨a, e, h⟩ := h; cases e; exact ⟨_, h⟩
  | .mx _ _, _, h => by unfold TldAt at h; obtain ⟨a, _, e, h, _⟩ := h; cases e; exact ⟨_, h⟩
theorem isB_ok {v : V} (h : lvOk v ∨ whOk v ∨ twOk v) : isB v = false := by
  rcases h with ⟨n, h, _⟩ | (h | h | ⟨n, h, _⟩) | h | ⟨x, h, _⟩ <;> rw [h] <;> rfl
theorem kit_own {K : PySem.W.Frag} {C D : Addr} {b : Bool} (i : PySem.W.isClsIn K D = true) (t : PySem.W.typeIn K (.ref D) = some (.type "type")) (s : PySem.W.subIn K (.ref C) (.ref D) = some b) (n : (Value.ref C == Value.ref D) = false) : PySem.W.kitOne K (.ref C) (.ref D) = some b := by
  refine (if_neg (by rw [n]; decide)).trans ?_
  have e : ((PySem.W.clsIn K D).isSome && PySem.W.typeIn K (.ref D) == some (.type "type")) = true := by
    rw [show (PySem.W.clsIn K D).isSome = true from i, t]
    decide
  exact (if_pos e).trans s
theorem kit_self {K : PySem.W.Frag} {C : Addr} : PySem.W.kitOne K (.ref C) (.ref C) = some true := if_pos (beq_self_eq_true _)
end CC

namespace LW
open PySem PySem.Spec PyProof.Rows L2 CC
section
variable {P : Program} {w : World} {K : PySem.W.Frag} {mg : Str → Option Value} {base : Heap}
abbrev s_level : Stmt := top 36
theorem sc_level : FnScope ["_law_draw", "_law_way"] ["_law_draw"] (defScope s_level) := ⟨rfl, rfl, rfl, by decide +kernel, rfl, by decide +kernel, by decide +kernel⟩
theorem ok_level {f : Addr} {fd : FuncData} (F : Fun K "_law_level" "_law_level" s_level f fd) (T : Bl mg) (c_next : Cal P w K mg base CX0 2 "_law_next" ["_law_draw", "_law_size"] (spNext K) []) : FnOk P w K mg base CX0 3 f fd ["_law_draw"] (spLevel K) := by
  refine F.ok sc_level (fun vs H Q E h => ?_) (fun cdv A outer s H vs Q E hr h => ?_)
  · obtain ⟨D, rfl, _⟩ := h
    rfl
  · obtain ⟨D, rfl, hD, q⟩ := h
    obtain ⟨f_next, fd_next, ds_next, F_next, g_next, k_next, b_next, v_next⟩ := c_next.ex
    refine ⟨_, (pss_cons (ps_set (i := 1) sc_level.nd rfl (Or.inl rfl) (pe_call F_next (hr.mono (by omega)) rfl g_next k_next b_next v_next pass0 (pa_cons (pv 0) (pa_cons pe_int pa_nil))))
      (pss_cons (ps_if (pt_cmpR op_lt (pv 1) pe_int (nomark _)) (pss_one (ps_ret (pe_ix ix_list (pe_lst (pa_cons pe_int (pa_cons pe_int (pa_cons pe_int (pa_cons pe_int pa_nil))))) (pv 1) (fun _ _ => rfl)))) pss_nil)
      (pss_one (ps_ret (pe_call F_next (hr.mono (by omega)) rfl g_next k_next b_next v_next pass0 (pa_cons (pv 0) (pa_cons pe_int pa_nil))))))), ?_⟩
    refine ⟨_, rfl, D, 12, rfl, hD, by decide, fun r H1 d1 r0 r1 => ⟨_, rfl, _, _, rfl, rfl, _, rfl, ?_⟩⟩
    refine ite2 (fun h => ?_) (fun _ => ?_)
    · have h4 : r < 4 := of_decide_eq_true h
      refine ⟨(by show 4 ≤ sizeLine; decide), fun l hl => ⟨_, rfl, ?_⟩⟩
      obtain ⟨j, rfl⟩ : ∃ j : Nat, r = j := ⟨r.toNat, by omega⟩
      have all4 : ∀ j < 4, ∃ x, ([.int 0, .int 1, .int 999999, .int 1000000] : List V)[j]? = some (.int x) ∧ 0 ≤ x ∧ x ≤ 1000000 := by
        intro j hj
        match j, hj with
        | 0, _ | 1, _ | 2, _ | 3, _ => exact ⟨_, rfl, by decide, by decide⟩
        | n + 4, h => omega
      obtain ⟨x, ex, x1, x2⟩ := all4 j (by omega)
      exact ⟨_, _, _, _, rfl, rfl, SqL.of upd_same, atI_nat ex, q x _ (d1.new hl) x1 x2⟩
    · exact ⟨_, rfl, D, 1000001, rfl, d1.dr, by decide, fun r2 H2 d2 r20 r21 => q _ _ (d1.trans d2) (by omega) (by omega)⟩
abbrev s_day : Stmt := top 37
theorem sc_day : FnScope ["_law_draw", "_law_way"] ["_law_draw"] (defScope s_day) := ⟨rfl, rfl, rfl, by decide +kernel, rfl, by decide +kernel, by decide +kernel⟩
theorem ok_day {f : Addr} {fd : FuncData} (F : Fun K "_law_day" "_law_day" s_day f fd) (T : Bl mg) (c_next : Cal P w K mg base CX0 2 "_law_next" ["_law_draw", "_law_size"] (spNext K) []) : FnOk P w K mg base CX0 3 f fd ["_law_draw"] (spDay K) := by
  refine F.ok sc_day (fun vs H Q E h => ?_) (fun cdv A outer s H vs Q E hr h => ?_)
  · obtain ⟨D, rfl, _⟩ := h
    rfl
  · obtain ⟨D, rfl, hD, q⟩ := h
    obtain ⟨f_next, fd_next, ds_next, F_next, g_next, k_next, b_next, v_next⟩ := c_next.ex
    refine ⟨_, (pss_cons (ps_set (i := 1) sc_day.nd rfl (Or.inl rfl) (pe_call F_next (hr.mono (by omega)) rfl g_next k_next b_next v_next pass0 (pa_cons (pv 0) (pa_cons pe_int pa_nil))))
      (pss_cons (ps_if (pt_cmpR op_lt (pv 1) pe_int (nomark _)) (pss_one (ps_ret (pe_ix ix_list (pe_lst (pa_cons pe_int (pa_cons pe_int pa_nil))) (pv 1) (fun _ _ => rfl)))) pss_nil)
      (pss_cons (ps_if (pt_cmpR op_lt (pv 1) pe_int (nomark _)) (pss_one (ps_ret (pe_call F_next (hr.mono (by omega)) rfl g_next k_next b_next v_next pass0 (pa_cons (pv 0) (pa_cons pe_int pa_nil))))) pss_nil)
      (pss_one (ps_ret (pe_call F_next (hr.mono (by omega)) rfl g_next k_next b_next v_next pass0 (pa_cons (pv 0) (pa_cons pe_int pa_nil)))))))), ?_⟩
    refine ⟨_, rfl, D, 8, rfl, hD, by decide, fun r H1 d1 r0 r1 => ⟨_, rfl, _, _, rfl, rfl, _, rfl, ?_⟩⟩
    refine ite2 (fun h => ?_) (fun _ => ?_)
    · have h4 : r < 2 := of_decide_eq_true h
      refine ⟨(by show 2 ≤ sizeLine; decide), fun l hl => ⟨_, rfl, ?_⟩⟩
      obtain ⟨j, rfl⟩ : ∃ j : Nat, r = j := ⟨r.toNat, by omega⟩
      have all2 : ∀ j < 2, ∃ x, ([.int 0, .int 9999] : List V)[j]? = some (.int x) ∧ 0 ≤ x ∧ x ≤ 9999 := by
        intro j hj
        match j, hj with
        | 0, _ | 1, _ => exact ⟨_, rfl, by decide, by decide⟩
        | n + 2, h => omega
      obtain ⟨x, ex, x1, x2⟩ := all2 j (by omega)
      exact ⟨_, _, _, _, rfl, rfl, SqL.of upd_same, atI_nat ex, q x _ (d1.new hl) x1 x2⟩
    · refine ⟨_, rfl, _, _, rfl, rfl, _, rfl, ?_⟩
      refine ite2 (fun _ => ?_) (fun _ => ?_)
      · exact ⟨_, rfl, D, 12, rfl, d1.dr, by decide, fun r2 H2 d2 r20 r21 => q _ _ (d1.trans d2) (by omega) (by omega)⟩
      · exact ⟨_, rfl, D, 10000, rfl, d1.dr, by decide, fun r2 H2 d2 r20 r21 => q _ _ (d1.trans d2) (by omega) (by omega)⟩
abbrev s_calls : Stmt := top 38
theorem sc_calls : FnScope ["_law_draw", "_law_towns", "_law_days", "_law_many", "_law_calls_here", "_law_k", "_law_way", "_law_when"] ["_law_draw", "_law_towns", "_law_days", "_law_many"] (defScope s_calls) := ⟨rfl, rfl, rfl, by decide +kernel, rfl, by decide +kernel, by decide +kernel⟩
theorem ok_calls {f : Addr} {fd : FuncData} (F : Fun K "_law_calls" "_law_calls" s_calls f fd) (T : Bl mg) (c_next : Cal P w K mg base CX0 2 "_law_next" ["_law_draw", "_law_size"] (spNext K) []) : FnOk P w K mg base CX0 3 f fd ["_law_draw", "_law_towns", "_law_days", "_law_many"] (spCalls K) := by
  refine F.ok sc_calls (fun vs H Q E h => ?_) (fun cdv A outer s H vs Q E hr h => ?_)
  · obtain ⟨D, pt, pd, ts, ds, n, rfl, _⟩ := h
    rfl
  · obtain ⟨D, pt, pd, ts, ds, n, rfl, hD, npt, npd, ht, hd, t0, d0, t100, d100, okt, okd, n0, n100, q⟩ := h
    obtain ⟨f_next, fd_next, ds_next, F_next, g_next, k_next, b_next, v_next⟩ := c_next.ex
    refine ⟨_, (pss_cons (ps_set (i := 4) sc_calls.nd rfl (Or.inl rfl) (pe_lst pa_nil))
      (pss_cons (ps_for PassesOwn.never rfl (pi_range1 (by rfl) T.z_range (pa_cons (pv 3) pa_nil)) (pg_name (i := 5) sc_calls.nd rfl (Or.inl rfl)) (pss_cons (ps_set (i := 6) sc_calls.nd rfl (Or.inl rfl) (pe_call F_next (hr.mono (by omega)) rfl g_next k_next b_next v_next pass0 (pa_cons (pv 0) (pa_cons pe_int pa_nil)))) (pss_cons (ps_set (i := 7) sc_calls.nd rfl (Or.inl rfl) (pe_ix ix_list (pe_lst (pa_cons pe_str (pa_cons pe_str pa_nil))) (pe_op op_mod (pv 6) pe_int) (fun _ _ => rfl))) (pss_cons (ps_if (pt_cmpR op_gt (pv 6) pe_int (nomark _)) (pss_one (ps_set (i := 7) sc_calls.nd rfl (Or.inl rfl) (pe_ix ix_list (pv 2) (pe_call F_next (hr.mono (by omega)) rfl g_next k_next b_next v_next pass0 (pa_cons (pv 0) (pa_cons (pe_callB call_len_seq (by rfl) T.z_len (by decide +kernel) (pa_cons (pv 2) pa_nil)) pa_nil))) (fun _ _ => rfl)))) pss_nil) (pss_one (ps_expr (pe_bm PySem.F.plainAttrs_list PySem.F.slot_list_append PySem.F.type_list_append mt_append (pv 4) (pa_cons (pe_tup (pa_cons (pv 7) (pa_cons (pe_ix ix_list (pv 1) (pe_call F_next (hr.mono (by omega)) rfl g_next k_next b_next v_next pass0 (pa_cons (pv 0) (pa_cons (pe_callB call_len_seq (by rfl) T.z_len (by decide +kernel) (pa_cons (pv 1) pa_nil)) pa_nil))) (fun _ _ => rfl)) pa_nil))) pa_nil))))))))
      (pss_one (ps_ret (pv 4))))), ?_⟩
    have lt : 0 < ts.length := List.length_pos_iff.mpr t0
    have ld : 0 < ds.length := List.length_pos_iff.mpr d0
    refine ⟨Nat.zero_le _, fun l hl => ?_⟩
    have nld : l ≠ D.d := hD.ne hl
    refine ⟨_, rfl, n, rfl, (by omega), (by omega), for_it walk_range (fun i σ H2 => ∃ (as : List Addr) (cs : List (V × V)) (v5 v6 v7 : Option V), σ = [some (.ref D.d), some (.ref pt), some (.ref pd), some (.int n), some (.ref l), v5, v6, v7] ∧ Dr K D H H2 ∧ H2 l = some (.lst (as.map V.ref)) ∧ CallsAt H2 as cs ∧ cs.length = i ∧
        (∀ c ∈ cs, (c.1 = .str "made" ∨ c.1 = .str "paid" ∨ ∃ d ∈ ds, c.1 = .int d) ∧ c.2 ∈ ts))
      ⟨[], [], none, none, none, rfl, (Dr.refl hD).new hl, upd_same, .nil, rfl, fun _ h => by cases h⟩ (fun _ _ _ _ _ => trivial) ?_ ?_⟩
    · rintro i y σ H2 H2' hi ⟨as, cs, v5, v6, v7, rfl, D2, h2, C2, lc, ok⟩ ⟨rfl, rfl⟩
      have las := C2.length
      -- way
      refine ⟨_, rfl, D, 4, rfl, D2.dr, by decide, fun r H3 d3 r0 r1 => ?_⟩
      -- when = ["made", "paid"][way % 2]
      refine ⟨(by show 2 ≤ sizeLine; decide), fun p hp => ⟨_, rfl, _, _, rfl, rfl, (by show (0 : Int) < 2; decide), ?_⟩⟩
      have E3 := d3.new (o := .lst [.str "made", .str "paid"]) hp
      have j0 := Int.emod_nonneg r (show (2 : Int) ≠ 0 by decide)
      have j1 := Int.emod_lt_of_pos r (show (0 : Int) < 2 by decide)
      obtain ⟨z, ez, oz⟩ : ∃ z : Str, ([.str "made", .str "paid"] : List V)[(r % 2).toNat]? = some (.str z) ∧ (z = "made" ∨ z = "paid") := by
        have : (r % 2).toNat = 0 ∨ (r % 2).toNat = 1 := by omega
        rcases this with e | e <;> rw [e]
        · exact ⟨_, rfl, .inl rfl⟩
        · exact ⟨_, rfl, .inr rfl⟩
      refine ⟨p, _, _, .str z, rfl, rfl, SqL.of upd_same, atI_int j0 ez, ?_⟩
      -- if way > 1
      refine ⟨_, rfl, _, _, rfl, rfl, _, rfl, ?_⟩
      refine ite2 (fun _ => ?_) (fun _ => ?_)
      · refine ⟨_, rfl, _, rfl, _, rfl, _, _, rfl, .inl (SqL.of ((D2.trans E3).kp _ _ hd npd)), D, _, rfl, E3.dr, (by rw [List.length_map]; omega), fun r4 H4 d4 r40 r41 => ?_⟩
        rw [List.length_map] at r41
        have hr4 : r4.toNat < ds.length := by omega
        refine ⟨pd, _, _, _, rfl, rfl, SqL.of ((D2.trans (E3.trans d4)).kp _ _ hd npd), atI_int r40 (map_get (List.getElem?_eq_getElem hr4)), ?_⟩
        have E4 := E3.trans d4
        have owv : (V.int ds[r4.toNat] = .str "made" ∨ V.int ds[r4.toNat] = .str "paid" ∨ ∃ d ∈ ds, V.int ds[r4.toNat] = .int d) := .inr (.inr ⟨_, List.getElem_mem hr4, rfl⟩)
        generalize V.int ds[r4.toNat] = wv at owv ⊢
        refine ⟨_, rfl, .inl ⟨rfl, _, SqL.of (E4.kp _ _ h2 nld)⟩, ?_⟩
        refine ⟨_, rfl, _, rfl, _, rfl, _, rfl, _, _, rfl, .inl (SqL.of ((D2.trans E4).kp _ _ ht npt)), D, _, rfl, E4.dr, (by omega), fun r5 H5 d5 r50 r51 => ?_⟩
        have E5 := E4.trans d5
        have hr5 : r5.toNat < ts.length := by omega
        refine ⟨pt, _, _, _, rfl, rfl, SqL.of ((D2.trans E5).kp _ _ ht npt), atI_int r50 (List.getElem?_eq_getElem hr5), (by show 2 ≤ sizeLine; decide), fun u hu => ?_⟩
        have E6 := E5.new (o := .tup [wv, ts[r5.toNat]]) hu
        have h6 := E6.kp _ _ h2 nld
        refine ⟨l, _, _, rfl, rfl, h6, (by rw [List.length_map]; exact small1000 (by omega)), ?_⟩
        have tk := E6.tk.trans (TK.lst (o := .lst (as.map V.ref ++ [.ref u])) h6)
        refine ⟨as ++ [u], cs ++ [(wv, ts[r5.toNat])], _, _, _, rfl, (D2.trans E6).loc hl, by rw [upd_same, List.map_append]; rfl, ?_, by rw [List.length_append, lc]; rfl, ?_⟩
        · refine paired_snoc (CallsAt.tk C2 tk) ?_
          have nu : u ≠ l := fun e => by rw [e, E5.kp _ _ h2 nld] at hu; cases hu
          rw [upd_ne nu, upd_same]
        · intro c hc
          rcases List.mem_append.mp hc with e | e
          · exact ok c e
          · rw [List.mem_singleton.mp e]
            exact ⟨owv, List.getElem_mem hr5⟩
      · have E4 := E3
        have owv : (V.str z = .str "made" ∨ V.str z = .str "paid" ∨ ∃ d ∈ ds, V.str z = .int d) := by
          rcases oz with e | e <;> rw [e]
          · exact .inl rfl
          · exact .inr (.inl rfl)
        generalize V.str z = wv at owv ⊢
        refine ⟨_, rfl, .inl ⟨rfl, _, SqL.of (E4.kp _ _ h2 nld)⟩, ?_⟩
        refine ⟨_, rfl, _, rfl, _, rfl, _, rfl, _, _, rfl, .inl (SqL.of ((D2.trans E4).kp _ _ ht npt)), D, _, rfl, E4.dr, (by omega), fun r5 H5 d5 r50 r51 => ?_⟩
        have E5 := E4.trans d5
        have hr5 : r5.toNat < ts.length := by omega
        refine ⟨pt, _, _, _, rfl, rfl, SqL.of ((D2.trans E5).kp _ _ ht npt), atI_int r50 (List.getElem?_eq_getElem hr5), (by show 2 ≤ sizeLine; decide), fun u hu => ?_⟩
        have E6 := E5.new (o := .tup [wv, ts[r5.toNat]]) hu
        have h6 := E6.kp _ _ h2 nld
        refine ⟨l, _, _, rfl, rfl, h6, (by rw [List.length_map]; exact small1000 (by omega)), ?_⟩
        have tk := E6.tk.trans (TK.lst (o := .lst (as.map V.ref ++ [.ref u])) h6)
        refine ⟨as ++ [u], cs ++ [(wv, ts[r5.toNat])], _, _, _, rfl, (D2.trans E6).loc hl, by rw [upd_same, List.map_append]; rfl, ?_, by rw [List.length_append, lc]; rfl, ?_⟩
        · refine paired_snoc (CallsAt.tk C2 tk) ?_
          have nu : u ≠ l := fun e => by rw [e, E5.kp _ _ h2 nld] at hu; cases hu
          rw [upd_ne nu, upd_same]
        · intro c hc
          rcases List.mem_append.mp hc with e | e
          · exact ok c e
          · rw [List.mem_singleton.mp e]
            exact ⟨owv, List.getElem_mem hr5⟩
    · rintro σ H2 ⟨as, cs, v5, v6, v7, rfl, D2, h2, C2, lc, ok⟩
      refine ⟨_, rfl, q l as cs H2 D2 hl h2 C2 (by omega) ok fun c hc => ⟨?_, okt _ (ok c hc).2⟩⟩
      rcases (ok c hc).1 with e | e | ⟨d, hd, e⟩
      · exact .inl e
      · exact .inr (.inl e)
      · exact .inr (.inr ⟨d, e, okd d hd⟩)
end
end LW

namespace LW
open PySem PySem.Spec PyProof.Rows L2 CC
section
variable {P : Program} {w : World} {K : PySem.W.Frag} {mg : Str → Option Value} {base : Heap}
abbrev s_told : Stmt := top 39
theorem sc_told : FnScope ["_law_draw", "_law_calls_here", "_law_deep", "_law_room", "_law_way", "_law_many", "_law_word_here", "_law_parts", "_law_k"] ["_law_draw", "_law_calls_here", "_law_deep", "_law_room"] (defScope s_told) := ⟨rfl, rfl, rfl, by decide +kernel, rfl, by decide +kernel, by decide +kernel⟩
theorem ok_told {f : Addr} {fd : FuncData} (F : Fun K "_law_told" "_law_told" s_told f fd) (gT : mg "_law_told" = some (.ref f)) (bT : Binds K fd ["_law_draw", "_law_calls_here", "_law_deep", "_law_room"] []) (T : Bl mg) (c_next : Cal P w K mg base CX0 2 "_law_next" ["_law_draw", "_law_size"] (spNext K) []) (c_level : Cal P w K mg base CX0 3 "_law_level" ["_law_draw"] (spLevel K) []) :
    ∀ n : Nat, FnOk P w K mg base CX0 (4 + n) f fd ["_law_draw", "_law_calls_here", "_law_deep", "_law_room"] (spTold K n)
  | 0 => fnOk_false fun vs H Q E h => by
    obtain ⟨D, pc, as, cs, deep, room, _, _, _, _, _, _, _, h1, h2, _⟩ := h
    omega
  | n + 1 => by
    have IH := ok_told F gT bT T c_next c_level n
    have c_told : Cal P w K mg base CX0 (4 + n) "_law_told" ["_law_draw", "_law_calls_here", "_law_deep", "_law_room"] (spTold K n) [] := ⟨f, fd, [], IH, gT, F.kp, bT, .nil⟩
    refine F.ok sc_told (fun vs H Q E h => ?_) (fun cdv A outer s H vs Q E hr h => ?_)
    · obtain ⟨D, pc, as, cs, deep, room, rfl, _⟩ := h
      rfl
    · obtain ⟨D, pc, as, cs, deep, room, rfl, hD, npc, hc, C0, cs0, cs100, dp1, dpn, rm1, rm1000, q⟩ := h
      obtain ⟨f_told, fd_told, ds_told, F_told, g_told, k_told, b_told, v_told⟩ := c_told.ex
      obtain ⟨f_next, fd_next, ds_next, F_next, g_next, k_next, b_next, v_next⟩ := c_next.ex
      obtain ⟨f_level, fd_level, ds_level, F_level, g_level, k_level, b_level, v_level⟩ := c_level.ex
      have hr : Room (4 + n) (A.deeper _) := hr
      refine ⟨_, (pss_cons (ps_set (i := 4) sc_told.nd rfl (Or.inl rfl) (pe_call F_next (hr.mono (by omega)) rfl g_next k_next b_next v_next pass0 (pa_cons (pv 0) (pa_cons pe_int pa_nil))))
      (pss_cons (ps_if (PW.pt (pw_or (pt_cmpR op_eq (pv 2) pe_int (nomark _)) (pw_or (pt_cmpR op_lt (pv 3) pe_int (nomark _)) (pw_or1 (pt_cmpR op_lt (pv 4) pe_int (nomark _)))))) (pss_cons (ps_if (pt_cmpR op_eq (pe_call F_next (hr.mono (by omega)) rfl g_next k_next b_next v_next pass0 (pa_cons (pv 0) (pa_cons pe_int pa_nil))) pe_int (nomark _)) (pss_one (ps_ret (pe_tup (pa_cons pe_str (pa_cons (pe_call F_level (hr.mono (by omega)) rfl g_level k_level b_level v_level pass0 (pa_cons (pv 0) pa_nil)) pa_nil))))) pss_nil) (pss_one (ps_ret (pe_op op_catT (pe_tup (pa_cons pe_str pa_nil)) (pe_ix ix_list (pv 1) (pe_call F_next (hr.mono (by omega)) rfl g_next k_next b_next v_next pass0 (pa_cons (pv 0) (pa_cons (pe_callB call_len_seq (by rfl) T.z_len (by decide +kernel) (pa_cons (pv 1) pa_nil)) pa_nil))) (fun _ _ => rfl)))))) pss_nil)
      (pss_cons (ps_set (i := 5) sc_told.nd rfl (Or.inr rfl) (pe_callB (call_min2 rfl) (by rfl) T.z_min (by decide +kernel) (pa_cons (pe_op op_sub (pv 3) pe_int) (pa_cons (pe_op op_add pe_int (pe_call F_next (hr.mono (by omega)) rfl g_next k_next b_next v_next pass0 (pa_cons (pv 0) (pa_cons (pe_ix ix_list (pe_lst (pa_cons pe_int (pa_cons pe_int pa_nil))) (pe_callTy call_int1 (by rfl) T.z_int (by decide +kernel) (pa_cons (pe_cmpR op_eq (pv 4) pe_int (nomark _)) pa_nil)) (fun _ _ => rfl)) pa_nil)))) pa_nil))))
      (pss_cons (ps_set (i := 6) sc_told.nd rfl (Or.inl rfl) (pe_ix ix_list (pe_lst (pa_cons pe_str (pa_cons pe_str pa_nil))) (pe_call F_next (hr.mono (by omega)) rfl g_next k_next b_next v_next pass0 (pa_cons (pv 0) (pa_cons pe_int pa_nil))) (fun _ _ => rfl)))
      (pss_cons (ps_setLc (i := 7) (own := [("_law_k", 8)]) (g := gName 8) (tt := tYes) rfl sc_told.nd rfl rfl (sw_true rfl rfl rfl (by decide +kernel)) (pi_range1 (by rfl) T.z_range (pa_cons (pv 5) pa_nil)) (blkOk_by (N := ["_law_draw", "_law_calls_here", "_law_deep", "_law_room", "_law_way", "_law_many", "_law_word_here", "_law_parts", "_law_k"]) (sc := defScope s_told) (by decide +kernel)) (fun _ _ _ _ _ => (pg_name (i := 8) sc_told.nd rfl (Or.inl rfl))) (fun _ _ _ _ _ => pts_nil) (fun _ _ _ _ _ => (pe_call F_told (hr.mono (by omega)) rfl g_told k_told b_told v_told pass0 (pa_cons (pv 0) (pa_cons (pv 1) (pa_cons (pe_op op_sub (pv 2) pe_int) (pa_cons (pe_op op_fdivW (pe_op op_sub (pv 3) pe_int) (pv 5)) pa_nil)))))))
      (pss_one (ps_ret (pe_callTy call_tuple_of (by rfl) T.z_tuple (by decide +kernel) (pa_cons (pe_op op_cat (pe_lst (pa_cons (pv 6) pa_nil)) (pv 7)) pa_nil))))))))), ?_⟩
      have lc : 0 < cs.length := List.length_pos_iff.mpr cs0
      have las := C0.length
      refine ⟨_, rfl, D, 8, rfl, hD, by decide, fun way H1 d1 w0 w1 => ?_⟩
      -- if deep == 1 or room < 3 or way < 2
      refine ⟨_, rfl, rfl, _, rfl, ?_⟩
      refine ite2 (fun _ => ?_) (fun hdp => ?_)
      · refine ⟨_, rfl, D, 3, rfl, d1.dr, by decide, fun r2 H2 d2 r20 r21 => ⟨rfl, _, rfl, ?_⟩⟩
        have E2 := d1.trans d2
        refine ite2 (fun _ => ?_) (fun _ => ?_)
        · refine ⟨_, rfl, D, rfl, E2.dr, fun m H3 d3 m0 m1 => ?_⟩
          refine ⟨(by show 2 ≤ sizeLine; decide), fun p hp => ?_⟩
          have E3 := E2.trans d3
          refine q (.ref p) (.lv (.int m)) _ (E3.new hp) (by unfold TldAt; exact ⟨p, rfl, upd_same⟩) (by unfold AllLf; exact ⟨m, rfl, m0, m1⟩) (by unfold ShpT; trivial) (by simp only [deepT]; omega) (by simp only [rulesT]; omega)
        · refine ⟨(by show 1 ≤ sizeLine; decide), fun p hp => ?_⟩
          have E3 := E2.new (o := .tup [.str "called"]) hp
          refine ⟨_, rfl, _, rfl, _, rfl, _, _, rfl, .inl (SqL.of (E3.kp _ _ hc npc)), D, _, rfl, E3.dr, (by rw [List.length_map]; omega), fun r4 H4 d4 r40 r41 => ?_⟩
          rw [List.length_map] at r41
          have E4 := E3.trans d4
          have hr4 : r4.toNat < cs.length := by omega
          obtain ⟨c, hca, hcc⟩ := paired_get (C0.tk E4.tk) (List.getElem?_eq_getElem hr4)
          refine ⟨pc, _, _, .ref c, rfl, rfl, SqL.of (E4.kp _ _ hc npc), atI_int r40 (map_get hca), ?_⟩
          refine ⟨p, c, _, _, rfl, rfl, SqT.of (d4.tk _ _ upd_same), SqT.of hcc, (by simp), (by show 3 ≤ sizeLine; decide), (fun e => by cases e), fun _ u hu => ?_⟩
          refine q (.ref u) (.cl cs[r4.toNat].1 cs[r4.toNat].2) _ (E4.new hu) (by unfold TldAt; exact ⟨u, rfl, upd_same⟩) (by unfold AllLf; exact List.getElem_mem hr4) (by unfold ShpT; trivial) (by simp only [deepT]; omega) (by simp only [rulesT]; omega)
      refine ⟨_, rfl, _, _, rfl, rfl, _, rfl, ?_⟩
      refine ite2 (fun _ => ?_) (fun hrm => ?_)
      · refine ⟨_, rfl, D, 3, rfl, d1.dr, by decide, fun r2 H2 d2 r20 r21 => ⟨rfl, _, rfl, ?_⟩⟩
        have E2 := d1.trans d2
        refine ite2 (fun _ => ?_) (fun _ => ?_)
        · refine ⟨_, rfl, D, rfl, E2.dr, fun m H3 d3 m0 m1 => ?_⟩
          refine ⟨(by show 2 ≤ sizeLine; decide), fun p hp => ?_⟩
          have E3 := E2.trans d3
          refine q (.ref p) (.lv (.int m)) _ (E3.new hp) (by unfold TldAt; exact ⟨p, rfl, upd_same⟩) (by unfold AllLf; exact ⟨m, rfl, m0, m1⟩) (by unfold ShpT; trivial) (by simp only [deepT]; omega) (by simp only [rulesT]; omega)
        · refine ⟨(by show 1 ≤ sizeLine; decide), fun p hp => ?_⟩
          have E3 := E2.new (o := .tup [.str "called"]) hp
          refine ⟨_, rfl, _, rfl, _, rfl, _, _, rfl, .inl (SqL.of (E3.kp _ _ hc npc)), D, _, rfl, E3.dr, (by rw [List.length_map]; omega), fun r4 H4 d4 r40 r41 => ?_⟩
          rw [List.length_map] at r41
          have E4 := E3.trans d4
          have hr4 : r4.toNat < cs.length := by omega
          obtain ⟨c, hca, hcc⟩ := paired_get (C0.tk E4.tk) (List.getElem?_eq_getElem hr4)
          refine ⟨pc, _, _, .ref c, rfl, rfl, SqL.of (E4.kp _ _ hc npc), atI_int r40 (map_get hca), ?_⟩
          refine ⟨p, c, _, _, rfl, rfl, SqT.of (d4.tk _ _ upd_same), SqT.of hcc, (by simp), (by show 3 ≤ sizeLine; decide), (fun e => by cases e), fun _ u hu => ?_⟩
          refine q (.ref u) (.cl cs[r4.toNat].1 cs[r4.toNat].2) _ (E4.new hu) (by unfold TldAt; exact ⟨u, rfl, upd_same⟩) (by unfold AllLf; exact List.getElem_mem hr4) (by unfold ShpT; trivial) (by simp only [deepT]; omega) (by simp only [rulesT]; omega)
      refine ⟨_, rfl, _, _, rfl, rfl, _, rfl, ?_⟩
      refine ite2 (fun _ => ?_) (fun hwy => ?_)
      · refine ⟨_, rfl, D, 3, rfl, d1.dr, by decide, fun r2 H2 d2 r20 r21 => ⟨rfl, _, rfl, ?_⟩⟩
        have E2 := d1.trans d2
        refine ite2 (fun _ => ?_) (fun _ => ?_)
        · refine ⟨_, rfl, D, rfl, E2.dr, fun m H3 d3 m0 m1 => ?_⟩
          refine ⟨(by show 2 ≤ sizeLine; decide), fun p hp => ?_⟩
          have E3 := E2.trans d3
          refine q (.ref p) (.lv (.int m)) _ (E3.new hp) (by unfold TldAt; exact ⟨p, rfl, upd_same⟩) (by unfold AllLf; exact ⟨m, rfl, m0, m1⟩) (by unfold ShpT; trivial) (by simp only [deepT]; omega) (by simp only [rulesT]; omega)
        · refine ⟨(by show 1 ≤ sizeLine; decide), fun p hp => ?_⟩
          have E3 := E2.new (o := .tup [.str "called"]) hp
          refine ⟨_, rfl, _, rfl, _, rfl, _, _, rfl, .inl (SqL.of (E3.kp _ _ hc npc)), D, _, rfl, E3.dr, (by rw [List.length_map]; omega), fun r4 H4 d4 r40 r41 => ?_⟩
          rw [List.length_map] at r41
          have E4 := E3.trans d4
          have hr4 : r4.toNat < cs.length := by omega
          obtain ⟨c, hca, hcc⟩ := paired_get (C0.tk E4.tk) (List.getElem?_eq_getElem hr4)
          refine ⟨pc, _, _, .ref c, rfl, rfl, SqL.of (E4.kp _ _ hc npc), atI_int r40 (map_get hca), ?_⟩
          refine ⟨p, c, _, _, rfl, rfl, SqT.of (d4.tk _ _ upd_same), SqT.of hcc, (by simp), (by show 3 ≤ sizeLine; decide), (fun e => by cases e), fun _ u hu => ?_⟩
          refine q (.ref u) (.cl cs[r4.toNat].1 cs[r4.toNat].2) _ (E4.new hu) (by unfold TldAt; exact ⟨u, rfl, upd_same⟩) (by unfold AllLf; exact List.getElem_mem hr4) (by unfold ShpT; trivial) (by simp only [deepT]; omega) (by simp only [rulesT]; omega)
      have dp2 : deep ≠ 1 := fun e => hdp (by rw [e]; exact decide_eq_true rfl)
      have rm3 : ¬ room < 3 := fun e => hrm (decide_eq_true e)
      -- many = min(room - 1, 2 + next(draw, [2, 7][int(way == 7)]))
      refine ⟨_, rfl, _, _, rfl, rfl, _, rfl, (by show 2 ≤ sizeLine; decide), fun l2 hl2 => ?_⟩
      have E2 := d1.new (o := .lst [.int 2, .int 7]) hl2
      obtain ⟨sz, esz, sz2, sz7⟩ : ∃ sz : Int, atI ([.int 2, .int 7] : List V) (if decide (V.int way = V.int 7) = true then 1 else 0) = some (.int sz) ∧ 2 ≤ sz ∧ sz ≤ 7 := by
        cases decide (V.int way = V.int 7)
        · exact ⟨2, rfl, by decide, by decide⟩
        · exact ⟨7, rfl, by decide, by decide⟩
      refine ⟨_, rfl, rfl, .inr ⟨_, rfl, l2, _, _, .int sz, rfl, rfl, SqL.of upd_same, esz, D, sz, rfl, E2.dr, (by omega), fun r3 H3 d3 r30 r31 => ⟨_, _, rfl, rfl, _, _, rfl, ?_⟩⟩⟩
      have E3 := E2.trans d3
      have hm : ∃ m : Int, (if 2 + r3 < room - 1 then 2 + r3 else room - 1) = m ∧ 2 ≤ m ∧ m ≤ 8 ∧ m ≤ room - 1 := by
        refine ⟨_, rfl, ?_⟩
        split <;> exact ⟨by omega, by omega, by omega⟩
      obtain ⟨m, em, m2, m8, mr⟩ := hm
      rw [em]
      -- word
      refine ⟨(by show 2 ≤ sizeLine; decide), fun l4 hl4 => ⟨_, rfl, D, 2, rfl, (E3.new hl4).dr, by decide, fun r5 H5 d5 r50 r51 => ?_⟩⟩
      have h4 := d5.kp l4 (.lst [.str "least", .str "greatest"]) upd_same (E3.ne hl4)
      have E5 := (E3.new (o := .lst [.str "least", .str "greatest"]) hl4).trans d5
      obtain ⟨g, eg⟩ : ∃ g : Bool, ([.str "least", .str "greatest"] : List V)[r5.toNat]? = some (.str (wd g)) := by
        have : r5.toNat = 0 ∨ r5.toNat = 1 := by omega
        rcases this with e | e <;> rw [e]
        · exact ⟨false, rfl⟩
        · exact ⟨true, rfl⟩
      refine ⟨l4, _, _, .str (wd g), rfl, rfl, SqL.of h4, atI_int r50 eg, ?_⟩
      -- parts
      have q1 : 1 ≤ (room - 1) / m := by
        have := Int.mul_ediv_self_le (x := room - 1) (k := m) (by omega)
        have h2 := Int.lt_mul_ediv_self_add (x := room - 1) (k := m) (by omega)
        refine Int.le_ediv_of_mul_le (by omega) (by omega)
      have q2 : (room - 1) / m ≤ 1000 := Int.le_trans (Int.ediv_le_self _ (by omega)) (by omega)
      have qm : m * ((room - 1) / m) ≤ room - 1 := Int.mul_ediv_self_le (by omega)
      refine ⟨_, rfl, m, rfl, (by omega), (by omega), fun a ha => lc_it walk_range (fun j H6 => ∃ (vs : List V) (ts : List Tld), Dr K D H H6 ∧ H6 a = some (.lst vs) ∧ TldAll H6 vs ts ∧ ts.length = j ∧ AllLs lvOk (· ∈ cs) ts ∧ ShpL ts ∧ (deepL ts : Int) ≤ deep - 1 ∧ (rulesL ts : Int) ≤ j * ((room - 1) / m))
        ⟨[], [], E5.new ha, upd_same, .nil, rfl, by unfold AllLs; trivial, by unfold ShpL; trivial, by simp only [deepL]; omega, by simp only [rulesL]; omega⟩ (fun _ _ _ _ => trivial) ?_ ?_⟩
      · rintro j z H6 H6' hj ⟨vs, ts, E6, ha6, A6, l6, al6, sh6, dp6, ru6⟩ ⟨rfl, rfl⟩
        refine ⟨rfl, ?_⟩
        refine ⟨_, rfl, _, rfl, _, rfl, _, _, rfl, rfl, _, rfl, _, _, rfl, rfl, _, rfl, _, _, rfl, rfl, wide_div (b := 60) (by omega) (by omega) (by decide) (by decide), ?_⟩
        refine ⟨D, pc, as, cs, deep - 1, (room - 1) / m, rfl, E6.dr, npc, E6.kp _ _ hc npc, C0.tk E6.tk, cs0, cs100, by omega, by omega, q1, q2, fun v t H7 d7 At al sh dp ru => ?_⟩
        have nad : a ≠ D.d := E5.ne ha
        have ha7 := d7.kp _ _ ha6 nad
        refine ⟨vs, ha7, (by rw [A6.length]; exact small1000 (by omega)), ?_⟩
        have tk2 : TK H7 (upd H7 a (.lst (vs ++ [v]))) := TK.lst ha7
        refine ⟨vs ++ [v], ts ++ [t], (E6.trans d7).loc (E5.free ha), upd_same, TldAll.app (TldAll.tk (d7.tk.trans tk2) ts A6) (TldAll.one (TldAt.tk tk2 t At)), by rw [List.length_append, l6]; rfl, AllLs_app al6 (AllLs_one al), ShpL_app sh6 (ShpL_one sh), ?_, ?_⟩
        · rw [deepL_app]
          simp only [deepL]
          omega
        · rw [rulesL_app]
          simp only [rulesL]
          have e : ((j + 1 : Nat) : Int) * ((room - 1) / m) = (j : Int) * ((room - 1) / m) + (room - 1) / m := by
            rw [Int.natCast_add, Int.add_mul]
            simp
          rw [e]
          omega
      · rintro H6 ⟨vs, ts, E6, ha6, A6, l6, al6, sh6, dp6, ru6⟩
        have lvs := A6.length
        -- tuple([word] + parts)
        refine ⟨_, rfl, (by show 1 ≤ sizeLine; decide), fun l7 hl7 => ?_⟩
        have E7 := E6.new (o := .lst [.str (wd g)]) hl7
        refine ⟨_, rfl, l7, a, _, _, rfl, rfl, upd_same, (Same.new hl7) _ _ ha6, (by rw [lvs]; exact Nat.le_of_lt (small1000 (by show 1 + _ ≤ 1000; omega))), fun p8 hp8 => ?_⟩
        refine ⟨p8, _, rfl, .inl ⟨SqL.of upd_same, fun p9 hp9 => ?_⟩⟩
        have E9 := (E7.new (o := .lst ([.str (wd g)] ++ vs)) hp8).new (o := .tup ([.str (wd g)] ++ vs)) hp9
        have tk : TK H6 _ := ((TK.new (o := .lst [.str (wd g)]) hl7).trans (TK.new (o := .lst ([.str (wd g)] ++ vs)) hp8)).trans (TK.new (o := .tup ([.str (wd g)] ++ vs)) hp9)
        have mm : ((ts.length : Nat) : Int) = m := by rw [l6]; omega
        refine q (.ref p9) (.mx g ts) _ E9 (by unfold TldAt; exact ⟨p9, vs, rfl, upd_same, TldAll.tk tk ts A6⟩) (by unfold AllLf; exact al6) (by unfold ShpT; exact ⟨by omega, by omega, sh6⟩) (by simp only [deepT]; omega) ?_
        simp only [rulesT]
        have e2 : ((m.toNat : Nat) : Int) * ((room - 1) / m) = m * ((room - 1) / m) := by rw [Int.toNat_of_nonneg (by omega)]
        rw [e2] at ru6
        omega
end
end LW

namespace LW
open PySem PySem.Spec PyProof.Rows L2 CC
section
variable {P : Program} {w : World} {K : PySem.W.Frag} {mg : Str → Option Value} {base : Heap}
abbrev s_tall : Stmt := top 40
theorem sc_tall : FnScope ["_law_draw", "_law_calls_here", "_law_deep", "_law_told_here", "_law_k", "_law_way", "_law_parts"] ["_law_draw", "_law_calls_here", "_law_deep"] (defScope s_tall) := ⟨rfl, rfl, rfl, by decide +kernel, rfl, by decide +kernel, by decide +kernel⟩
theorem ok_tall {f : Addr} {fd : FuncData} (F : Fun K "_law_tall" "_law_tall" s_tall f fd) (T : Bl mg) (c_next : Cal P w K mg base CX0 2 "_law_next" ["_law_draw", "_law_size"] (spNext K) []) (c_told : Cal P w K mg base CX0 5 "_law_told" ["_law_draw", "_law_calls_here", "_law_deep", "_law_room"] (spTold K 1) []) : FnOk P w K mg base CX0 6 f fd ["_law_draw", "_law_calls_here", "_law_deep"] (spTall K) := by
  refine F.ok sc_tall (fun vs H Q E h => ?_) (fun cdv A outer s H vs Q E hr h => ?_)
  · obtain ⟨D, pc, as, cs, deep, rfl, _⟩ := h
    rfl
  · obtain ⟨D, pc, as, cs, deep, rfl, hD, npc, hc, C0, cs0, cs100, dp1, dp12, q⟩ := h
    obtain ⟨f_told, fd_told, ds_told, F_told, g_told, k_told, b_told, v_told⟩ := c_told.ex
    obtain ⟨f_next, fd_next, ds_next, F_next, g_next, k_next, b_next, v_next⟩ := c_next.ex
    refine ⟨_, (pss_cons (ps_set (i := 3) sc_tall.nd rfl (Or.inl rfl) (pe_call F_told (hr.mono (by omega)) rfl g_told k_told b_told v_told pass0 (pa_cons (pv 0) (pa_cons (pv 1) (pa_cons pe_int (pa_cons pe_int pa_nil))))))
      (pss_cons (ps_for PassesOwn.never rfl (pi_range1 (by rfl) T.z_range (pa_cons (pe_op op_sub (pv 2) pe_int) pa_nil)) (pg_name (i := 4) sc_tall.nd rfl (Or.inl rfl)) (pss_cons (ps_set (i := 5) sc_tall.nd rfl (Or.inl rfl) (pe_call F_next (hr.mono (by omega)) rfl g_next k_next b_next v_next pass0 (pa_cons (pv 0) (pa_cons pe_int pa_nil)))) (pss_cons (ps_set (i := 6) sc_tall.nd rfl (Or.inl rfl) (pe_lst (pa_cons (pv 3) (pa_cons (pe_call F_told (hr.mono (by omega)) rfl g_told k_told b_told v_told pass0 (pa_cons (pv 0) (pa_cons (pv 1) (pa_cons pe_int (pa_cons pe_int pa_nil))))) pa_nil)))) (pss_cons (ps_if (pt_cmpR op_gt (pv 5) pe_int (nomark _)) (pss_one (ps_set (i := 6) sc_tall.nd rfl (Or.inl rfl) (pe_lst (pa_cons (pe_ix ix_list (pv 6) pe_int (fun _ _ => rfl)) (pa_cons (pe_ix ix_list (pv 6) pe_int (fun _ _ => rfl)) pa_nil))))) pss_nil) (pss_one (ps_set (i := 3) sc_tall.nd rfl (Or.inl rfl) (pe_callTy call_tuple_of (by rfl) T.z_tuple (by decide +kernel) (pa_cons (pe_op op_cat (pe_lst (pa_cons (pe_ix ix_list (pe_lst (pa_cons pe_str (pa_cons pe_str pa_nil))) (pe_op op_mod (pv 5) pe_int) (fun _ _ => rfl)) pa_nil)) (pv 6)) pa_nil))))))))
      (pss_one (ps_ret (pv 3))))), ?_⟩
    refine ⟨_, rfl, _, rfl, D, pc, as, cs, 1, 1, rfl, hD, npc, hc, C0, cs0, cs100, by decide, by decide, by decide, by decide, fun v0 t0 H1 D1 A0 al0 sh0 dt0 rt0 => ?_⟩
    have p0 := rulesT_pos t0
    have p1 := deepT_pos t0
    refine ⟨_, rfl, _, _, rfl, rfl, _, rfl, (by omega), (by omega), for_it walk_range (fun i σ H2 => ∃ (v : V) (t : Tld) (v4 v5 v6 : Option V), σ = [some (.ref D.d), some (.ref pc), some (.int deep), some v, v4, v5, v6] ∧ Dr K D H H2 ∧ TldAt H2 v t ∧ AllLf lvOk (· ∈ cs) t ∧ ShpT t ∧ deepT t = i + 1 ∧ rulesT t = 2 * i + 1)
      ⟨v0, t0, none, none, none, rfl, D1, A0, al0, sh0, by omega, by omega⟩ (fun _ _ _ _ _ => trivial) ?_ ?_⟩
    · rintro i y σ H2 H2' hi ⟨v, t, v4, v5, v6, rfl, D2, At, al, sh, dt, rt⟩ ⟨rfl, rfl⟩
      refine ⟨_, rfl, D, 4, rfl, D2.dr, by decide, fun way H3 d3 w0 w1 => ?_⟩
      have E3 := D2.trans d3
      refine ⟨_, rfl, _, rfl, _, rfl, D, pc, as, cs, 1, 1, rfl, E3.dr, npc, E3.kp _ _ hc npc, C0.tk E3.tk, cs0, cs100, by decide, by decide, by decide, by decide, fun v1 t1 H4 d4 A1 al1 sh1 dt1 rt1 => ?_⟩
      have E4 := E3.trans d4
      have p0 := rulesT_pos t1
      have p1 := deepT_pos t1
      have A4 := TldAt.tk (d3.trans d4).tk t At
      refine ⟨(by show 2 ≤ sizeLine; decide), fun l5 hl5 => ?_⟩
      have E5 := E4.new (o := .lst [v, v1]) hl5
      have h5 : (upd H4 l5 (.lst [v, v1])) l5 = some (.lst [v, v1]) := upd_same
      have A5 := TldAt.tk (TK.new (o := .lst [v, v1]) hl5) t A4
      have A15 := TldAt.tk (TK.new (o := .lst [v, v1]) hl5) t1 A1
      refine ⟨_, rfl, _, _, rfl, rfl, _, rfl, ?_⟩
      refine ite2 (fun _ => ?_) (fun _ => ?_)
      · refine ⟨_, rfl, _, _, _, _, rfl, rfl, SqL.of h5, atI_nat (j := 1) rfl, _, rfl, _, _, _, _, rfl, rfl, SqL.of h5, atI_nat (j := 0) rfl, (by show 2 ≤ sizeLine; decide), fun l6 hl6 => ?_⟩
        have E6 := E5.new (o := .lst [v1, v]) hl6
        have h6 : (upd (upd H4 l5 (.lst [v, v1])) l6 (.lst [v1, v])) l6 = some (.lst [v1, v]) := upd_same
        obtain ⟨a1, b1, B1, bl1, bs1, ba1, c1, a2, b2, B2, bl2, bs2, ba2, c2⟩ : ∃ (a1 : V) (b1 : Tld) (_ : TldAt (upd (upd H4 l5 (.lst [v, v1])) l6 (.lst [v1, v])) a1 b1) (_ : AllLf lvOk (· ∈ cs) b1) (_ : ShpT b1) (_ : a1 = v1) (_ : b1 = t1) (a2 : V) (b2 : Tld) (_ : TldAt (upd (upd H4 l5 (.lst [v, v1])) l6 (.lst [v1, v])) a2 b2) (_ : AllLf lvOk (· ∈ cs) b2) (_ : ShpT b2) (_ : a2 = v), b2 = t :=
          ⟨v1, t1, TldAt.tk (TK.new hl6) t1 A15, al1, sh1, rfl, rfl, v, t, TldAt.tk (TK.new hl6) t A5, al, sh, rfl, rfl⟩
        subst ba1 ba2 c1 c2
        refine ⟨(by show 2 ≤ sizeLine; decide), fun l7 hl7 => ?_⟩
        have j0 := Int.emod_nonneg way (show (2 : Int) ≠ 0 by decide)
        have j1 := Int.emod_lt_of_pos way (show (0 : Int) < 2 by decide)
        obtain ⟨g, eg⟩ := words_at j0 j1
        refine ⟨_, rfl, _, _, rfl, rfl, (by show (0 : Int) < 2; decide), l7, _, _, .str (wd g), rfl, rfl, SqL.of upd_same, atI_int j0 eg, ?_⟩
        refine ⟨(by show 1 ≤ sizeLine; decide), fun l8 hl8 => ?_⟩
        have E7 := E6.new (o := .lst [.str "least", .str "greatest"]) hl7
        have E8 := E7.new (o := .lst [.str (wd g)]) hl8
        have tk7 : TK _ _ := (TK.new (o := .lst [.str "least", .str "greatest"]) hl7).trans (TK.new (o := .lst [.str (wd g)]) hl8)
        have h8 := (Same.new (o := .lst [.str (wd g)]) hl8) _ _ ((Same.new (o := .lst [.str "least", .str "greatest"]) hl7) _ _ h6)
        refine ⟨_, rfl, l8, l6, _, _, rfl, rfl, upd_same, h8, (by show 3 ≤ sizeLine; decide), fun p9 hp9 => ?_⟩
        refine ⟨p9, _, rfl, .inl ⟨SqL.of upd_same, fun p10 hp10 => ?_⟩⟩
        have E10 := (E8.new (o := .lst ([.str (wd g)] ++ [a1, a2])) hp9).new (o := .tup ([.str (wd g)] ++ [a1, a2])) hp10
        have tk : TK _ _ := (tk7.trans (TK.new (o := .lst ([.str (wd g)] ++ [a1, a2])) hp9)).trans (TK.new (o := .tup ([.str (wd g)] ++ [a1, a2])) hp10)
        refine ⟨.ref p10, .mx g [b1, b2], _, _, _, rfl, E10, by unfold TldAt; exact ⟨p10, [a1, a2], rfl, upd_same, TldAll.tk tk [b1, b2] (TldAll.app (TldAll.one B1) (TldAll.one B2))⟩, ?_, ?_, ?_, ?_⟩
        · unfold AllLf
          exact AllLs_app (AllLs_one bl1) (AllLs_one bl2)
        · unfold ShpT
          exact ⟨by simp, by simp, ShpL_app (ShpL_one bs1) (ShpL_one bs2)⟩
        · simp only [deepT, deepL]
          omega
        · simp only [rulesT, rulesL]
          omega
      · have E6 := E5
        have h6 := h5
        have B1 := A5
        have B2 := A15
        have bl1 := al
        have bl2 := al1
        have bs1 := sh
        have bs2 := sh1
        generalize l5 = l6 at *
        generalize v = a1 at *
        generalize t = b1 at *
        generalize v1 = a2 at *
        generalize t1 = b2 at *
        refine ⟨(by show 2 ≤ sizeLine; decide), fun l7 hl7 => ?_⟩
        have j0 := Int.emod_nonneg way (show (2 : Int) ≠ 0 by decide)
        have j1 := Int.emod_lt_of_pos way (show (0 : Int) < 2 by decide)
        obtain ⟨g, eg⟩ := words_at j0 j1
        refine ⟨_, rfl, _, _, rfl, rfl, (by show (0 : Int) < 2; decide), l7, _, _, .str (wd g), rfl, rfl, SqL.of upd_same, atI_int j0 eg, ?_⟩
        refine ⟨(by show 1 ≤ sizeLine; decide), fun l8 hl8 => ?_⟩
        have E7 := E6.new (o := .lst [.str "least", .str "greatest"]) hl7
        have E8 := E7.new (o := .lst [.str (wd g)]) hl8
        have tk7 : TK _ _ := (TK.new (o := .lst [.str "least", .str "greatest"]) hl7).trans (TK.new (o := .lst [.str (wd g)]) hl8)
        have h8 := (Same.new (o := .lst [.str (wd g)]) hl8) _ _ ((Same.new (o := .lst [.str "least", .str "greatest"]) hl7) _ _ h6)
        refine ⟨_, rfl, l8, l6, _, _, rfl, rfl, upd_same, h8, (by show 3 ≤ sizeLine; decide), fun p9 hp9 => ?_⟩
        refine ⟨p9, _, rfl, .inl ⟨SqL.of upd_same, fun p10 hp10 => ?_⟩⟩
        have E10 := (E8.new (o := .lst ([.str (wd g)] ++ [a1, a2])) hp9).new (o := .tup ([.str (wd g)] ++ [a1, a2])) hp10
        have tk : TK _ _ := (tk7.trans (TK.new (o := .lst ([.str (wd g)] ++ [a1, a2])) hp9)).trans (TK.new (o := .tup ([.str (wd g)] ++ [a1, a2])) hp10)
        refine ⟨.ref p10, .mx g [b1, b2], _, _, _, rfl, E10, by unfold TldAt; exact ⟨p10, [a1, a2], rfl, upd_same, TldAll.tk tk [b1, b2] (TldAll.app (TldAll.one B1) (TldAll.one B2))⟩, ?_, ?_, ?_, ?_⟩
        · unfold AllLf
          exact AllLs_app (AllLs_one bl1) (AllLs_one bl2)
        · unfold ShpT
          exact ⟨by simp, by simp, ShpL_app (ShpL_one bs1) (ShpL_one bs2)⟩
        · simp only [deepT, deepL]
          omega
        · simp only [rulesT, rulesL]
          omega
    · rintro σ H2 ⟨v, t, v4, v5, v6, rfl, D2, At, al, sh, dt, rt⟩
      exact ⟨_, rfl, q v t H2 D2 At al sh (by omega) (by omega)⟩
abbrev s_sized : Stmt := top 41
theorem sc_sized : FnScope ["_law_draw", "_law_calls_here", "_law_size", "_law_parts", "_law_left", "_law_many", "_law_leaves", "_law_k", "_law_at"] ["_law_draw", "_law_calls_here", "_law_size"] (defScope s_sized) := ⟨rfl, rfl, rfl, by decide +kernel, rfl, by decide +kernel, by decide +kernel⟩
theorem ok_sized {f : Addr} {fd : FuncData} (F : Fun K "_law_sized" "_law_sized" s_sized f fd) (T : Bl mg) (c_next : Cal P w K mg base CX0 2 "_law_next" ["_law_draw", "_law_size"] (spNext K) []) (c_told : Cal P w K mg base CX0 5 "_law_told" ["_law_draw", "_law_calls_here", "_law_deep", "_law_room"] (spTold K 1) []) : FnOk P w K mg base CX0 6 f fd ["_law_draw", "_law_calls_here", "_law_size"] (spSized K) := by
  refine F.ok sc_sized (fun vs H Q E h => ?_) (fun cdv A outer s H vs Q E hr h => ?_)
  · obtain ⟨D, pc, as, cs, size, k, rfl, _⟩ := h
    rfl
  · obtain ⟨D, pc, as, cs, size, k, rfl, hD, npc, hc, C0, cs0, cs100, k1, k7, sz1, sz2, q⟩ := h
    obtain ⟨f_next, fd_next, ds_next, F_next, g_next, k_next, b_next, v_next⟩ := c_next.ex
    obtain ⟨f_told, fd_told, ds_told, F_told, g_told, k_told, b_told, v_told⟩ := c_told.ex
    refine ⟨_, (pss_cons (ps_set (i := 3) sc_sized.nd rfl (Or.inl rfl) (pe_lst pa_nil))
      (pss_cons (ps_set (i := 4) sc_sized.nd rfl (Or.inl rfl) (pe_op op_sub (pv 2) pe_int))
      (pss_cons (ps_while PassesOwn.never (pt_cmpR op_gt (pv 4) pe_int (nomark _)) (pss_cons (ps_set (i := 5) sc_sized.nd rfl (Or.inl rfl) (pe_op op_sub (pe_callB (call_min2 rfl) (by rfl) T.z_min (by decide +kernel) (pa_cons pe_int (pa_cons (pv 4) pa_nil))) pe_int)) (pss_cons (ps_set (i := 4) sc_sized.nd rfl (Or.inl rfl) (pe_op op_sub (pe_op op_sub (pv 4) (pv 5)) pe_int)) (pss_cons (ps_setLc (i := 6) (own := [("_law_k", 7)]) (g := gName 7) (tt := tYes) rfl sc_sized.nd rfl rfl (sw_true rfl rfl rfl (by decide +kernel)) (pi_range1 (by rfl) T.z_range (pa_cons (pv 5) pa_nil)) (blkOk_by (N := ["_law_draw", "_law_calls_here", "_law_size", "_law_parts", "_law_left", "_law_many", "_law_leaves", "_law_k", "_law_at"]) (sc := defScope s_sized) (by decide +kernel)) (fun _ _ _ _ _ => (pg_name (i := 7) sc_sized.nd rfl (Or.inl rfl))) (fun _ _ _ _ _ => pts_nil) (fun _ _ _ _ _ => (pe_call F_told (hr.mono (by omega)) rfl g_told k_told b_told v_told pass0 (pa_cons (pv 0) (pa_cons (pv 1) (pa_cons pe_int (pa_cons pe_int pa_nil))))))) (pss_one (ps_expr (pe_bm PySem.F.plainAttrs_list PySem.F.slot_list_append PySem.F.type_list_append mt_append (pv 3) (pa_cons (pe_callTy call_tuple_of (by rfl) T.z_tuple (by decide +kernel) (pa_cons (pe_op op_cat (pe_lst (pa_cons (pe_ix ix_list (pe_lst (pa_cons pe_str (pa_cons pe_str pa_nil))) (pe_call F_next (hr.mono (by omega)) rfl g_next k_next b_next v_next pass0 (pa_cons (pv 0) (pa_cons pe_int pa_nil))) (fun _ _ => rfl)) pa_nil)) (pv 6)) pa_nil)) pa_nil))))))))
      (pss_cons (ps_set (i := 8) sc_sized.nd rfl (Or.inl rfl) (pe_call F_next (hr.mono (by omega)) rfl g_next k_next b_next v_next pass0 (pa_cons (pv 0) (pa_cons (pe_callB call_len_seq (by rfl) T.z_len (by decide +kernel) (pa_cons (pv 3) pa_nil)) pa_nil))))
      (pss_one (ps_ret (pe_callTy call_tuple_of (by rfl) T.z_tuple (by decide +kernel) (pa_cons (pe_op op_cat (pe_op op_cat (pe_lst (pa_cons (pe_ix ix_list (pe_lst (pa_cons pe_str (pa_cons pe_str pa_nil))) (pe_call F_next (hr.mono (by omega)) rfl g_next k_next b_next v_next pass0 (pa_cons (pv 0) (pa_cons pe_int pa_nil))) (fun _ _ => rfl)) pa_nil)) (pe_slice sl_list (pv 3) (po_some (pv 8)) po_none)) (pe_slice sl_list (pv 3) po_none (po_some (pv 8)))) pa_nil)))))))), ?_⟩
    refine ⟨Nat.zero_le _, fun l hl => ?_⟩
    have nld : l ≠ D.d := hD.ne hl
    refine ⟨_, rfl, _, _, rfl, rfl, ?_⟩
    refine ⟨fun m σ H2 => ∃ (vs : List V) (ts : List Tld) (left : Int) (v5 v6 v7 v8 : Option V), σ = [some (.ref D.d), some (.ref pc), some (.int size), some (.ref l), some (.int left), v5, v6, v7, v8] ∧ Dr K D H H2 ∧ H2 l = some (.lst vs) ∧ TldAll H2 vs ts ∧ AllLs lvOk (· ∈ cs) ts ∧ ShpL ts ∧ deepL ts ≤ 2 ∧
        (rulesL ts : Int) + left = size - 1 ∧ left.toNat = m ∧ ((left = 0 ∧ ts.length = k + 1) ∨ (3 ≤ left ∧ 8 * (ts.length : Int) + left = size - 1)), ⟨(size - 1).toNat, [], [], _, none, none, none, none, rfl, (Dr.refl hD).new hl, upd_same, .nil, by unfold AllLs; trivial, by unfold ShpL; trivial, by simp only [deepL]; omega, by simp only [rulesL]; omega, rfl, .inr ⟨by omega, by simp⟩⟩, ?_⟩
    rintro m σ H2 ⟨vs, ts, left, v5, v6, v7, v8, rfl, D2, h2, A2, al2, sh2, dp2, ru2, lm, hlf⟩
    have lvs := A2.length
    refine ⟨_, rfl, _, _, rfl, rfl, _, rfl, ?_⟩
    refine ite2 (fun h => ?_) (fun h => ?_)
    · have hl0 : 0 < left := of_decide_eq_true h
      obtain ⟨l3, l8⟩ : 3 ≤ left ∧ 8 * (ts.length : Int) + left = size - 1 := by
        rcases hlf with z | z
        · omega
        · exact z
      refine ⟨fun σ' H' => ∃ m', m' < m ∧ ∃ (vs : List V) (ts : List Tld) (left : Int) (v5 v6 v7 v8 : Option V), σ' = [some (.ref D.d), some (.ref pc), some (.int size), some (.ref l), some (.int left), v5, v6, v7, v8] ∧ Dr K D H H' ∧ H' l = some (.lst vs) ∧ TldAll H' vs ts ∧ AllLs lvOk (· ∈ cs) ts ∧ ShpL ts ∧ deepL ts ≤ 2 ∧
        (rulesL ts : Int) + left = size - 1 ∧ left.toNat = m' ∧ ((left = 0 ∧ ts.length = k + 1) ∨ (3 ≤ left ∧ 8 * (ts.length : Int) + left = size - 1)), fun σ' H' z => z, ?_⟩
      -- many = min(8, left) - 1
      have hm : ∃ b : Int, (if left < 8 then left else 8) = b ∧ 3 ≤ b ∧ b ≤ 8 ∧ b ≤ left ∧ (b = left ∨ b = 8) := by
        refine ⟨_, rfl, ?_⟩
        split
        · exact ⟨by omega, by omega, by omega, .inl rfl⟩
        · exact ⟨by omega, by omega, by omega, .inr rfl⟩
      obtain ⟨b, eb, b3, b8, bl, bor⟩ := hm
      refine ⟨_, rfl, _, _, rfl, ?_⟩
      rw [eb]
      refine ⟨_, _, rfl, rfl, _, rfl, _, rfl, _, _, rfl, rfl, _, _, rfl, rfl, ?_⟩
      -- leaves
      refine ⟨_, rfl, b - 1, rfl, (by omega), (by omega), fun a ha => lc_it walk_range (fun j H6 => ∃ (us : List V) (bs : List Tld), Dr K D H H6 ∧ H6 l = some (.lst vs) ∧ TldAll H6 vs ts ∧ H6 a = some (.lst us) ∧ TldAll H6 us bs ∧ bs.length = j ∧ AllLs lvOk (· ∈ cs) bs ∧ ShpL bs ∧ deepL bs ≤ 1 ∧ rulesL bs = j)
        ⟨[], [], D2.new ha, (Same.new ha) _ _ h2, TldAll.tk (TK.new ha) ts A2, upd_same, .nil, rfl, by unfold AllLs; trivial, by unfold ShpL; trivial, by simp only [deepL]; omega, by simp only [rulesL]⟩ (fun _ _ _ _ => trivial) ?_ ?_⟩
      · rintro j z H6 H6' hj ⟨us, bs, E6, hl6, B6, ha6, A6, l6, al6, sh6, dp6, ru6⟩ ⟨rfl, rfl⟩
        refine ⟨rfl, ?_⟩
        refine ⟨_, rfl, _, rfl, D, pc, as, cs, 1, 1, rfl, E6.dr, npc, E6.kp _ _ hc npc, C0.tk E6.tk, cs0, cs100, by decide, by decide, by decide, by decide, fun v t H7 d7 At al sh dp ru => ?_⟩
        have nad : a ≠ D.d := D2.ne ha
        have nla : l ≠ a := fun e => by rw [e, ha] at h2; cases h2
        have ha7 := d7.kp _ _ ha6 nad
        have hl7 := d7.kp _ _ hl6 nld
        refine ⟨us, ha7, (by rw [A6.length]; exact small1000 (by omega)), ?_⟩
        have tk2 : TK H7 (upd H7 a (.lst (us ++ [v]))) := TK.lst ha7
        have p0 := rulesT_pos t
        refine ⟨us ++ [v], bs ++ [t], (E6.trans d7).loc (D2.free ha), by rw [upd_ne nla]; exact hl7, TldAll.tk (d7.tk.trans tk2) ts B6, upd_same, TldAll.app (TldAll.tk (d7.tk.trans tk2) bs A6) (TldAll.one (TldAt.tk tk2 t At)), by rw [List.length_append, l6]; rfl, AllLs_app al6 (AllLs_one al), ShpL_app sh6 (ShpL_one sh), ?_, ?_⟩
        · rw [deepL_app]
          simp only [deepL]
          omega
        · rw [rulesL_app]
          simp only [rulesL]
          omega
      · rintro H6 ⟨us, bs, E6, hl6, B6, ha6, A6, l6, al6, sh6, dp6, ru6⟩
        have lus := A6.length
        -- parts.append(tuple([word] + leaves))
        refine ⟨_, rfl, .inl ⟨rfl, _, SqL.of hl6⟩, (by show 2 ≤ sizeLine; decide), fun l7 hl7 => ⟨_, rfl, D, 2, rfl, (E6.new hl7).dr, by decide, fun r5 H8 d8 r50 r51 => ?_⟩⟩
        have E8 := (E6.new (o := .lst [.str "least", .str "greatest"]) hl7).trans d8
        have tk8 := (TK.new (o := .lst [.str "least", .str "greatest"]) hl7).trans d8.tk
        have h8 := d8.kp l7 (.lst [.str "least", .str "greatest"]) upd_same (E6.ne hl7)
        have hl8 := d8.kp l _ ((Same.new (o := .lst [.str "least", .str "greatest"]) hl7) _ _ hl6) nld
        have ha8 := d8.kp a _ ((Same.new (o := .lst [.str "least", .str "greatest"]) hl7) _ _ ha6) (D2.ne ha)
        obtain ⟨g, eg⟩ := words_at r50 r51
        refine ⟨l7, _, _, .str (wd g), rfl, rfl, SqL.of h8, atI_int r50 eg, (by show 1 ≤ sizeLine; decide), fun l9 hl9 => ?_⟩
        have E9 := E8.new (o := .lst [.str (wd g)]) hl9
        refine ⟨_, rfl, l9, a, _, _, rfl, rfl, upd_same, (Same.new hl9) _ _ ha8, (by rw [lus]; exact Nat.le_of_lt (small1000 (by show 1 + _ ≤ 1000; omega))), fun p10 hp10 => ?_⟩
        refine ⟨p10, _, rfl, .inl ⟨SqL.of upd_same, fun p11 hp11 => ?_⟩⟩
        have E11 := (E9.new (o := .lst ([.str (wd g)] ++ us)) hp10).new (o := .tup ([.str (wd g)] ++ us)) hp11
        have tk11 := ((tk8.trans (TK.new (o := .lst [.str (wd g)]) hl9)).trans (TK.new (o := .lst ([.str (wd g)] ++ us)) hp10)).trans (TK.new (o := .tup ([.str (wd g)] ++ us)) hp11)
        have hl11 := (Same.new (o := .tup ([.str (wd g)] ++ us)) hp11) _ _ ((Same.new (o := .lst ([.str (wd g)] ++ us)) hp10) _ _ ((Same.new (o := .lst [.str (wd g)]) hl9) _ _ hl8))
        refine ⟨l, _, _, rfl, rfl, hl11, (by rw [lvs]; exact small1000 (by omega)), ?_⟩
        have tk12 := TK.lst (o := .lst (vs ++ [.ref p11])) hl11
        have np : p11 ≠ l := (ne_of_none ((Same.new (o := .lst ([V.str (wd g)] ++ us)) hp10) _ _ ((Same.new (o := .lst [V.str (wd g)]) hl9) _ _ hl8)) hp11).symm
        have At : TldAt (upd (upd (upd (upd H8 l9 (.lst [.str (wd g)])) p10 (.lst ([.str (wd g)] ++ us))) p11 (.tup ([.str (wd g)] ++ us))) l (.lst (vs ++ [.ref p11]))) (.ref p11) (.mx g bs) := by
          unfold TldAt
          exact ⟨p11, us, rfl, by rw [upd_ne np, upd_same]; rfl, TldAll.tk (tk11.trans tk12) bs A6⟩
        refine ⟨(left - (b - 1) - 1).toNat, by omega, vs ++ [.ref p11], ts ++ [.mx g bs], left - (b - 1) - 1, _, _, _, _, rfl, E11.loc hl, upd_same, TldAll.app (TldAll.tk (tk11.trans tk12) ts B6) (TldAll.one At), AllLs_app al2 (AllLs_one (by unfold AllLf; exact al6)), ShpL_app sh2 (ShpL_one (by unfold ShpT; exact ⟨by omega, by omega, sh6⟩)), ?_, ?_, rfl, ?_⟩
        · rw [deepL_app]
          simp only [deepL, deepT]
          omega
        · rw [rulesL_app]
          simp only [rulesL, rulesT]
          omega
        · rw [List.length_append, List.length_singleton]
          rcases bor with e | e
          · exact .inl ⟨by omega, by omega⟩
          · exact .inr ⟨by omega, by omega⟩
    · -- at = next(draw, len(parts)); return tuple([word] + parts[at:] + parts[:at])
      have hl0 : ¬ 0 < left := fun e => h (decide_eq_true e)
      obtain ⟨e0, lts⟩ : left = 0 ∧ ts.length = k + 1 := by
        rcases hlf with z | z
        · exact z
        · omega
      refine ⟨_, rfl, _, rfl, _, _, rfl, .inl (SqL.of h2), D, _, rfl, D2.dr, (by omega), fun at_ H3 d3 a0 a1 => ?_⟩
      obtain ⟨n, rfl⟩ : ∃ n : Nat, at_ = n := ⟨at_.toNat, by omega⟩
      have hn : n ≤ vs.length := by omega
      have E3 := D2.trans d3
      have h3 := d3.kp _ _ h2 nld
      refine ⟨(by show 2 ≤ sizeLine; decide), fun l7 hl7 => ⟨_, rfl, D, 2, rfl, (E3.new hl7).dr, by decide, fun r5 H8 d8 r50 r51 => ?_⟩⟩
      have E8 := (E3.new (o := .lst [.str "least", .str "greatest"]) hl7).trans d8
      have tk8 := (d3.tk.trans (TK.new (o := .lst [.str "least", .str "greatest"]) hl7)).trans d8.tk
      have h8 := d8.kp l7 (.lst [.str "least", .str "greatest"]) upd_same (E3.ne hl7)
      have hl8 := d8.kp l _ ((Same.new (o := .lst [.str "least", .str "greatest"]) hl7) _ _ h3) nld
      obtain ⟨g, eg⟩ := words_at r50 r51
      refine ⟨l7, _, _, .str (wd g), rfl, rfl, SqL.of h8, atI_int r50 eg, (by show 1 ≤ sizeLine; decide), fun l9 hl9 => ?_⟩
      have E9 := E8.new (o := .lst [.str (wd g)]) hl9
      have hl9' := (Same.new (o := .lst [.str (wd g)]) hl9) _ _ hl8
      refine ⟨_, rfl, _, rfl, _, rfl, l, _, rfl, SqL.of hl9', fun l10 hl10 => ?_⟩
      rw [cut_from vs n hn]
      have E10 := E9.new (o := .lst (vs.drop n)) hl10
      have h9 := (Same.new (o := .lst (vs.drop n)) hl10) l9 (.lst [.str (wd g)]) upd_same
      refine ⟨l9, l10, _, _, rfl, rfl, h9, upd_same, (by rw [List.length_drop]; exact Nat.le_of_lt (small1000 (by show 1 + _ ≤ 1000; omega))), fun l11 hl11 => ?_⟩
      have E11 := E10.new (o := .lst ([.str (wd g)] ++ vs.drop n)) hl11
      have hl11' := (Same.new (o := .lst ([.str (wd g)] ++ vs.drop n)) hl11) _ _ ((Same.new (o := .lst (vs.drop n)) hl10) _ _ hl9')
      refine ⟨_, rfl, _, rfl, _, rfl, l, _, rfl, SqL.of hl11', fun l12 hl12 => ?_⟩
      rw [cut_to vs n hn]
      have E12 := E11.new (o := .lst (vs.take n)) hl12
      have h11 := (Same.new (o := .lst (vs.take n)) hl12) l11 (.lst ([.str (wd g)] ++ vs.drop n)) upd_same
      refine ⟨l11, l12, _, _, rfl, rfl, h11, upd_same, (by simp only [List.length_append, List.length_drop, List.length_take, List.length_singleton]; exact Nat.le_of_lt (small1000 (by omega))), fun p13 hp13 => ?_⟩
      refine ⟨p13, _, rfl, .inl ⟨SqL.of upd_same, fun p14 hp14 => ?_⟩⟩
      have E14 := (E12.new (o := .lst ([.str (wd g)] ++ vs.drop n ++ vs.take n)) hp13).new (o := .tup ([.str (wd g)] ++ vs.drop n ++ vs.take n)) hp14
      have tk14 := (((((tk8.trans (TK.new (o := .lst [.str (wd g)]) hl9)).trans (TK.new (o := .lst (vs.drop n)) hl10)).trans (TK.new (o := .lst ([.str (wd g)] ++ vs.drop n)) hl11)).trans (TK.new (o := .lst (vs.take n)) hl12)).trans (TK.new (o := .lst ([.str (wd g)] ++ vs.drop n ++ vs.take n)) hp13)).trans (TK.new (o := .tup ([.str (wd g)] ++ vs.drop n ++ vs.take n)) hp14)
      refine q (.ref p14) (.mx g (ts.drop n ++ ts.take n)) _ E14 ?_ ?_ ?_ ?_ ?_
      · unfold TldAt
        exact ⟨p14, vs.drop n ++ vs.take n, rfl, by rw [upd_same, List.append_assoc]; rfl, TldAll.tk tk14 _ (TldAll.app (TldAll.drop n A2) (TldAll.take n A2))⟩
      · unfold AllLf
        exact AllLs_iff.mpr fun t ht => AllLs_iff.mp al2 t (mem_swap ht)
      · unfold ShpT
        have hlen : (ts.drop n ++ ts.take n).length = ts.length := by rw [List.length_append, List.length_drop, List.length_take]; omega
        exact ⟨by omega, by omega, ShpL_iff.mpr fun t ht => ShpL_iff.mp sh2 t (mem_swap ht)⟩
      · simp only [deepT, deepL_swap]
        omega
      · simp only [rulesT, rulesL_swap]
        omega
end
end LW

namespace LW
open PySem PySem.Spec PyProof.Rows L2 CC
section
variable {P : Program} {w : World} {K : PySem.W.Frag} {mg : Str → Option Value} {base : Heap}
/-- the module's constants -/
structure Cn (mg : Str → Option Value) : Prop where
  c_TOP : ∃ t, mg "TOP" = some (.int 1000000 t)
  c_R : ∃ t, mg "MOST_RULES" = some (.int 60 t)
  c_D : ∃ t, mg "MOST_DEEP" = some (.int 8 t)
  c_O : ∃ t, mg "MOST_OPEN" = some (.int 20 t)
abbrev s_is_name : Stmt := top 9
theorem sc_is_name : FnScope ["text", "sign"] ["text"] (defScope s_is_name) := ⟨rfl, rfl, rfl, by decide +kernel, rfl, by decide +kernel, by decide +kernel⟩
theorem ok_is_name {f : Addr} {fd : FuncData} (F : Fun K "is_name" "is_name" s_is_name f fd) (T : Bl mg) : FnOk P w K mg base CX0 1 f fd ["text"] spIsName := by
  refine F.ok sc_is_name (fun vs H Q E h => ?_) (fun cdv A outer s H vs Q E hr h => ?_)
  · obtain ⟨x, rfl, _⟩ := h
    rfl
  · obtain ⟨x, rfl, xl, q⟩ := h
    refine ⟨_, (pss_cons (ps_if (pt_not (pt_chain op_le op_le pe_int (pe_callB call_len_str (by rfl) T.z_len (by decide +kernel) (pa_cons (pv 0) pa_nil)) pe_int)) (pss_one (ps_ret pe_bl)) pss_nil)
      (pss_one (ps_ret (pe_callB (cr_all rfl) (by rfl) T.z_all (by decide +kernel) (pa_cons (pe_lc (own := [("sign", 1)]) (g := gName 1) (tt := tYes) rfl sc_is_name.nd (pi_str (pv 0)) (blkOk_by (N := ["text", "sign"]) (sc := defScope s_is_name) (by decide +kernel)) (fun _ _ _ _ _ => (pg_name (i := 1) sc_is_name.nd rfl (Or.inl rfl))) (fun _ _ _ _ _ => pts_nil) (fun _ _ _ _ _ => (pe_cmpR op_in_sign (pv 1) pe_str rfl))) pa_nil))))), ?_⟩
    have hz : x.length ≤ sizeLine := Nat.le_trans xl (by decide)
    refine ⟨_, rfl, x, rfl, hz, _, _, rfl, rfl, _, rfl, ?_⟩
    by_cases h1 : (1 : Int) ≤ (x.length : Int)
    · rw [decide_eq_true h1]
      refine iteT ?_
      refine ⟨_, _, rfl, rfl, _, rfl, ?_⟩
      by_cases h8 : (x.length : Int) ≤ 8
      · rw [decide_eq_true h8]
        refine iteF ?_
        -- all([sign in letters for sign in text])
        refine ⟨_, rfl, x, rfl, fun a ha => lc_it walk_str (fun i H2 => ∃ bs : List Bool, Same H H2 ∧ H2 a = some (.lst (bs.map V.bl)) ∧ bs = (x.cps.toList.take i).map fun c => decide (97 ≤ c ∧ c ≤ 122))
          ⟨[], Same.new ha, upd_same, rfl⟩ (fun _ _ _ _ => trivial) ?_ ?_⟩
        · rintro i y H2 H2' hi ⟨bs, s2, h2, eb⟩ ⟨rfl, c, hc, rfl⟩
          have lb : bs.length ≤ i := by rw [eb, List.length_map, List.length_take]; exact Nat.min_le_left _ _
          have li : i < x.length := hi
          refine ⟨rfl, ?_⟩
          refine ⟨_, rfl, c, abc, rfl, rfl, _, h2, (by rw [List.length_map]; exact small1000 (by omega)), ?_⟩
          refine ⟨bs ++ [decide (c ∈ abc.cps.toList)], fun b o e => ?_, by rw [upd_same, List.map_append]; rfl, ?_⟩
          · rw [upd_ne (ne_of_none e ha)]
            exact s2 b o e
          · have hc2 : x.cps.toList[i]? = some c := by rw [Array.getElem?_toList]; exact hc
            rw [List.take_add_one, hc2, eb, List.map_append]
            congr 1
            show [_] = [_]
            congr 1
            refine decide_eq_decide.mpr ?_
            rw [abc_list]
            refine ⟨fun h => ?_, fun h => List.mem_map.mpr ⟨c - 97, List.mem_range.mpr (by omega), by omega⟩⟩
            obtain ⟨k, hk, e⟩ := List.mem_map.mp h
            have := List.mem_range.mp hk
            omega
        · rintro H2 ⟨bs, s2, h2, eb⟩
          refine ⟨a, bs, rfl, SqL.of h2, ?_⟩
          have et : bs.all id = nm x := by
            have l1 : 1 ≤ x.length := by omega
            have l2 : x.length ≤ 8 := by omega
            have ex : x.cps.size = x.cps.toList.length := by simp
            rw [eb, ex, List.take_length, all_map_bl]
            unfold nm
            rw [decide_eq_true l1, decide_eq_true l2, Bool.true_and, Bool.true_and]
            congr 1
            funext c
            rw [Bool.decide_and]
          rw [et]
          exact q H2 s2
      · rw [decide_eq_false h8]
        refine iteT ?_
        have e : nm x = false := by
          rw [Bool.eq_false_iff]
          intro h
          have := (nm_iff.mp h).2.1
          omega
        rw [← e]
        exact q H (Same.refl H)
    · rw [decide_eq_false h1]
      refine iteF ?_
      refine ⟨false, rfl, ?_⟩
      refine iteT ?_
      have e : nm x = false := by
        rw [Bool.eq_false_iff]
        intro h
        have := (nm_iff.mp h).1
        omega
      show Q (.bl false) H
      rw [← e]
      exact q H (Same.refl H)
abbrev s_is_number : Stmt := top 10
theorem sc_is_number : FnScope ["thing", "low", "high"] ["thing", "low", "high"] (defScope s_is_number) := ⟨rfl, rfl, rfl, by decide +kernel, rfl, by decide +kernel, by decide +kernel⟩
theorem ok_is_number {f : Addr} {fd : FuncData} (F : Fun K "is_number" "is_number" s_is_number f fd) (T : Bl mg) : FnOk P w K mg base CX0 1 f fd ["thing", "low", "high"] spIsNumber := by
  refine F.ok sc_is_number (fun vs H Q E h => ?_) (fun cdv A outer s H vs Q E hr h => ?_)
  · obtain ⟨v, lo, hi, rfl, _⟩ := h
    rfl
  · obtain ⟨v, lo, hi, rfl, hf, q⟩ := h
    refine ⟨_, (pss_cons (ps_if (PW.pt (pw_or (pt_val (pe_callB call_isi (by rfl) T.z_isinstance (by decide +kernel) (pa_cons (pv 0) (pa_cons (pe_bltn (v := .ty "bool") (u := .type "bool") (by rfl) T.z_bool (by decide +kernel) rfl) pa_nil)))) (pw_or1 (pt_not (pt_val (pe_callB call_isi (by rfl) T.z_isinstance (by decide +kernel) (pa_cons (pv 0) (pa_cons (pe_bltn (v := .ty "int") (u := .type "int") (by rfl) T.z_int (by decide +kernel) rfl) pa_nil)))))))) (pss_one (ps_ret pe_bl)) pss_nil)
      (pss_one (ps_ret (pe_chain op_le op_le (pv 1) (pv 0) (pv 2))))), ?_⟩
    refine ⟨_, rfl, ?_⟩
    obtain ⟨tbool, ubool, y1, y2, y3⟩ := isi_bool (K := K) (H := H) hf
    refine ⟨_, _, tbool, ubool, _, rfl, y1, y2, y3, _, rfl, ?_⟩
    cases v with
    | int n =>
      refine iteF ?_
      refine ⟨_, rfl, ?_⟩
      obtain ⟨tint, uint, y1, y2, y3⟩ := isi_int (K := K) (H := H) hf
      refine ⟨_, _, tint, uint, _, rfl, y1, y2, y3, _, rfl, ?_⟩
      refine ⟨_, rfl, _, rfl, _, _, rfl, rfl, _, rfl, ?_⟩
      by_cases h1 : lo ≤ n
      · rw [decide_eq_true h1]
        refine iteT ?_
        refine ⟨_, rfl, _, _, rfl, rfl, ?_⟩
        have e : isNum (.int n) lo hi = decide (n ≤ hi) := by show (decide (lo ≤ n) && decide (n ≤ hi)) = _; rw [decide_eq_true h1, Bool.true_and]
        show Q (.bl (decide (n ≤ hi))) H
        rw [← e]
        exact q
      · rw [decide_eq_false h1]
        refine iteF ?_
        have e : isNum (.int n) lo hi = false := by show (decide (lo ≤ n) && decide (n ≤ hi)) = _; rw [decide_eq_false h1, Bool.false_and]
        show Q (.bl false) H
        rw [← e]
        exact q
    | bl b => exact iteT (iteT q)
    | non =>
      refine iteF ?_
      refine ⟨_, rfl, ?_⟩
      obtain ⟨tint, uint, y1, y2, y3⟩ := isi_int (K := K) (H := H) hf
      exact ⟨_, _, tint, uint, _, rfl, y1, y2, y3, _, rfl, iteT q⟩
    | str x =>
      refine iteF ?_
      refine ⟨_, rfl, ?_⟩
      obtain ⟨tint, uint, y1, y2, y3⟩ := isi_int (K := K) (H := H) hf
      exact ⟨_, _, tint, uint, _, rfl, y1, y2, y3, _, rfl, iteT q⟩
    | byt _ => cases hf
    | flt _ => cases hf
    | ref _ => cases hf
    | ty _ => cases hf
abbrev s_ask_name : Stmt := top 11
theorem sc_ask_name : FnScope ["text"] ["text"] (defScope s_ask_name) := ⟨rfl, rfl, rfl, by decide +kernel, rfl, by decide +kernel, by decide +kernel⟩
theorem ok_ask_name {f : Addr} {fd : FuncData} (F : Fun K "ask_name" "ask_name" s_ask_name f fd) (T : Bl mg) (X_NoName : Exk K mg "NoName") (c_is_name : Cal P w K mg base CX0 1 "is_name" ["text"] (spIsName) []) : FnOk P w K mg base (L2.CX P w) 2 f fd ["text"] (spAskName mg) := by
  refine F.okX sc_ask_name (fun vs H Q E h => ?_) (fun cdv A outer s H vs Q E hr h => ?_)
  · obtain ⟨v, rfl, _⟩ := h
    rfl
  · obtain ⟨v, rfl, hf, lv, qt, qf⟩ := h
    obtain ⟨f_is_name, fd_is_name, ds_is_name, F_is_name, g_is_name, k_is_name, b_is_name, v_is_name⟩ := c_is_name.ex
    refine ⟨_, (pss_one (ps_if (PW.pt (pw_or (pt_not (pt_val (pe_callB call_isi (by rfl) T.z_isinstance (by decide +kernel) (pa_cons (pv 0) (pa_cons (pe_bltn (v := .ty "str") (u := .type "str") (by rfl) T.z_str (by decide +kernel) rfl) pa_nil))))) (pw_or1 (pt_not (pt_val (pe_call F_is_name (hr.mono (by omega)) rfl g_is_name k_is_name b_is_name v_is_name pass0 (pa_cons (pv 0) pa_nil))))))) (pss_one (ps_raise rfl (takes_of rfl rfl rfl rfl) (pmk_x X_NoName))) pss_nil)), ?_⟩
    refine ⟨_, rfl, ?_⟩
    obtain ⟨tstr, ustr, y1, y2, y3⟩ := isi_str (K := K) (H := H) hf
    refine ⟨_, _, tstr, ustr, _, rfl, y1, y2, y3, _, rfl, ?_⟩
    cases v with
    | str x =>
      refine iteF ?_
      refine ⟨_, rfl, x, rfl, lv, fun H' s' => ⟨_, rfl, ?_⟩⟩
      cases e : nm x with
      | true => exact iteF (qt e H' s')
      | false => exact iteT (qf e H' s')
    | bl b => exact iteT (iteT (qf rfl H (Same.refl H)))
    | int b => exact iteT (iteT (qf rfl H (Same.refl H)))
    | non => exact iteT (iteT (qf rfl H (Same.refl H)))
    | byt _ => cases hf
    | flt _ => cases hf
    | ref _ => cases hf
    | ty _ => cases hf
abbrev s_ask_worth : Stmt := top 12
theorem sc_ask_worth : FnScope ["worth"] ["worth"] (defScope s_ask_worth) := ⟨rfl, rfl, rfl, by decide +kernel, rfl, by decide +kernel, by decide +kernel⟩
theorem ok_ask_worth {f : Addr} {fd : FuncData} (F : Fun K "ask_worth" "ask_worth" s_ask_worth f fd) (T0 : Bl mg) (T : Cn mg) (X_NoWorth : Exk K mg "NoWorth") (c_is_number : Cal P w K mg base CX0 1 "is_number" ["thing", "low", "high"] (spIsNumber) []) : FnOk P w K mg base (L2.CX P w) 2 f fd ["worth"] (spAskWorth mg) := by
  refine F.okX sc_ask_worth (fun vs H Q E h => ?_) (fun cdv A outer s H vs Q E hr h => ?_)
  · obtain ⟨v, rfl, _⟩ := h
    rfl
  · obtain ⟨v, rfl, hf, qt, qf⟩ := h
    obtain ⟨tt, h_TOP⟩ := T.c_TOP
    obtain ⟨f_is_number, fd_is_number, ds_is_number, F_is_number, g_is_number, k_is_number, b_is_number, v_is_number⟩ := c_is_number.ex
    refine ⟨_, (pss_one (ps_if (pt_not (pt_val (pe_call F_is_number (hr.mono (by omega)) rfl g_is_number k_is_number b_is_number v_is_number pass0 (pa_cons (pv 0) (pa_cons pe_int (pa_cons (pe_glob (v := .int 1000000) rfl h_TOP ⟨_, rfl⟩) pa_nil)))))) (pss_one (ps_raise rfl (takes_of rfl rfl rfl rfl) (pmk_x X_NoWorth))) pss_nil)), ?_⟩
    refine ⟨_, rfl, v, 0, 1000000, rfl, hf, _, rfl, ?_⟩
    cases e : isNum v 0 1000000 with
    | true => exact iteF (qt e)
    | false => exact iteT (qf e)
end
end LW

namespace LW
open PySem PySem.Spec PyProof.Rows L2 CC
section
variable {P : Program} {w : World} {K : PySem.W.Frag} {mg : Str → Option Value} {base : Heap}
abbrev RRules : Tld → Hp → V → Prop := fun t _ v => v = .int (rulesT t)
abbrev RDeep : Tld → Hp → V → Prop := fun t _ v => v = .int (deepT t)
abbrev s_Trules : Stmt := inClass (top 16) 0
theorem sc_Trules : FnScope ["self"] ["self"] (defScope s_Trules) := ⟨rfl, rfl, rfl, by decide +kernel, rfl, by decide +kernel, by decide +kernel⟩
theorem ok_Trules {f : Addr} {fd : FuncData} (F : Fun K "rules" "Term.rules" s_Trules f fd) (n : Nat) : FnOk P w K mg base CX0 1 f fd ["self"] (spOb mg ["Level", "Called"] n RRules) := by
  refine F.ok sc_Trules (fun vs H Q E h => ?_) (fun cdv A outer s H vs Q E hr h => ?_)
  · obtain ⟨a, t, rfl, _⟩ := h
    rfl
  · obtain ⟨a, t, rfl, hk, ht, ok, q⟩ := h
    refine ⟨_, (pss_one (ps_ret pe_int)), ?_⟩
    refine q _ H (Same.refl H) ?_
    rcases kd_leaf hk with ⟨v, rfl⟩ | ⟨w, u, rfl⟩ <;> (show _ = V.int ((rulesT _ : Nat) : Int); simp only [rulesT]; rfl)
abbrev s_Tdeep : Stmt := inClass (top 16) 1
theorem sc_Tdeep : FnScope ["self"] ["self"] (defScope s_Tdeep) := ⟨rfl, rfl, rfl, by decide +kernel, rfl, by decide +kernel, by decide +kernel⟩
theorem ok_Tdeep {f : Addr} {fd : FuncData} (F : Fun K "deep" "Term.deep" s_Tdeep f fd) (n : Nat) : FnOk P w K mg base CX0 1 f fd ["self"] (spOb mg ["Level", "Called"] n RDeep) := by
  refine F.ok sc_Tdeep (fun vs H Q E h => ?_) (fun cdv A outer s H vs Q E hr h => ?_)
  · obtain ⟨a, t, rfl, _⟩ := h
    rfl
  · obtain ⟨a, t, rfl, hk, ht, ok, q⟩ := h
    refine ⟨_, (pss_one (ps_ret pe_int)), ?_⟩
    refine q _ H (Same.refl H) ?_
    rcases kd_leaf hk with ⟨v, rfl⟩ | ⟨w, u, rfl⟩ <;> (show _ = V.int ((deepT _ : Nat) : Int); simp only [deepT]; rfl)
abbrev s_Mrules : Stmt := inClass (top 19) 1
theorem sc_Mrules : FnScope ["self", "term"] ["self"] (defScope s_Mrules) := ⟨rfl, rfl, rfl, by decide +kernel, rfl, by decide +kernel, by decide +kernel⟩
theorem ok_Mrules {f f0 : Addr} {fd fd0 : FuncData} (F : Fun K "rules" "Mixed.rules" s_Mrules f fd) (T : Bl mg) (k : Kls K mg) (m0 : Mby K mg "rules" ["Level", "Called"] f0) (m1 : Mby K mg "rules" ["Least", "Greatest"] f)
    (F0 : ∀ n, FnOk P w K mg base CX0 1 f0 fd0 ["self"] (spOb mg ["Level", "Called"] n RRules)) (b0 : Binds K fd0 ["self"] []) (b1 : Binds K fd ["self"] []) :
    ∀ n : Nat, FnOk P w K mg base CX0 (n + 1) f fd ["self"] (spOb mg ["Least", "Greatest"] n RRules)
  | 0 => fnOk_false fun vs H Q E h => by
    obtain ⟨a, t, _, hk, _, ok, _⟩ := h
    obtain ⟨g, ts, rfl⟩ := kd_mix hk
    have := ok.d
    have := deepT_pos (.mx g ts)
    omega
  | n + 1 => by
    have IH := ok_Mrules F T k m0 m1 F0 b0 b1 n
    have D : Disp P w K mg base (n + 1) "rules" n RRules := Disp.two k m0 m1 ((F0 n).mono (by omega)) IH b0 b1
    refine F.ok sc_Mrules (fun vs H Q E h => ?_) (fun cdv A outer s H vs Q E hr h => ?_)
    · obtain ⟨a, t, rfl, _⟩ := h
      rfl
    · obtain ⟨a, t, rfl, hk, ht, ok, q⟩ := h
      obtain ⟨g, ts, rfl⟩ := kd_mix hk
      obtain ⟨oks, l2, l8, r999, dn⟩ := ok.sub
      unfold ObAt at ht
      obtain ⟨a', dx, p, vs, e, h1, h2, h3⟩ := ht
      cases e
      have lv := h3.length
      have hr : Room (n + 1) (A.deeper _) := hr
      refine ⟨_, (pss_one (ps_ret (pe_op op_add pe_int (pe_callB (cr_sum rfl) (by rfl) T.z_sum (by decide +kernel) (pa_cons (pe_lc (own := [("term", 1)]) (g := gName 1) (tt := tYes) rfl sc_Mrules.nd (pi_tup (pe_fld (pv 0) rfl)) (blkOk_by (N := ["self", "term"]) (sc := defScope s_Mrules) (by decide +kernel)) (fun _ _ _ _ _ => (pg_name (i := 1) sc_Mrules.nd rfl (Or.inl rfl))) (fun _ _ _ _ _ => pts_nil) (fun _ _ _ _ _ => (pe_methD (P := P) (w := w) (K := K) (mg := mg) (base := base) (j := (n + 1)) (pv 1) (hr.mono (by omega))))) pa_nil))))), ?_⟩
      refine ⟨_, rfl, _, _, _, _, _, rfl, h1, k.cls (.mx g []), k.no (.mx g []) "terms" (by simp), rfl, p, rfl, ⟨vs, SqT.of h2⟩, fun D1 hD1 => lc_it walk_tup (fun i H2 => ∃ ns : List Int, Same H H2 ∧ H2 D1 = some (.lst (ns.map V.int)) ∧ ns = (ts.take i).map fun t => (rulesT t : Int))
        ⟨[], Same.new hD1, upd_same, rfl⟩ (fun i H2 _ h => SqT.of (h.choose_spec.1 _ _ h2)) ?_ ?_⟩
      · rintro i x H2 H2' hi ⟨ns, s2, d2, en⟩ ⟨rfl, hx⟩
        obtain ⟨t, et, ot⟩ := h3.get hx
        refine ⟨rfl, ?_⟩
        obtain ⟨b, rfl⟩ := ot.ref
        have ot2 := ObAt.to (TO.same s2) t ot
        refine ⟨_, rfl, D.go ot2 (oks t (List.mem_of_getElem? et)) (by decide +kernel) ?_⟩
        rintro v H3 s3 rfl
        have d3 := s3 _ _ d2
        have ln : ns.length = i := by rw [en, List.length_map, List.length_take]; omega
        refine ⟨_, d3, by rw [List.length_map]; exact small1000 (by omega), ns ++ [(rulesT t : Int)], fun b o e => ?_, by rw [upd_same, List.map_append]; rfl, ?_⟩
        · rw [upd_ne (ne_of_none e hD1)]
          exact s3 _ _ (s2 _ _ e)
        · rw [List.take_add_one, et, en, List.map_append]
          rfl
      · rintro H2 ⟨ns, s2, d2, en⟩
        rw [lv, List.take_length] at en
        refine ⟨D1, ns, rfl, SqL.of d2, 1, _, rfl, rfl, ?_⟩
        refine q _ H2 s2 ?_
        show V.int _ = V.int ((rulesT _ : Nat) : Int)
        rw [en, sum_rules]
        simp only [rulesT]
        rw [Int.natCast_add]
        rfl
abbrev s_Mdeep : Stmt := inClass (top 19) 2
theorem sc_Mdeep : FnScope ["self", "term"] ["self"] (defScope s_Mdeep) := ⟨rfl, rfl, rfl, by decide +kernel, rfl, by decide +kernel, by decide +kernel⟩
theorem ok_Mdeep {f f0 : Addr} {fd fd0 : FuncData} (F : Fun K "deep" "Mixed.deep" s_Mdeep f fd) (T : Bl mg) (k : Kls K mg) (m0 : Mby K mg "deep" ["Level", "Called"] f0) (m1 : Mby K mg "deep" ["Least", "Greatest"] f)
    (F0 : ∀ n, FnOk P w K mg base CX0 1 f0 fd0 ["self"] (spOb mg ["Level", "Called"] n RDeep)) (b0 : Binds K fd0 ["self"] []) (b1 : Binds K fd ["self"] []) :
    ∀ n : Nat, FnOk P w K mg base CX0 (n + 1) f fd ["self"] (spOb mg ["Least", "Greatest"] n RDeep)
  | 0 => fnOk_false fun vs H Q E h => by
    obtain ⟨a, t, _, hk, _, ok, _⟩ := h
    obtain ⟨g, ts, rfl⟩ := kd_mix hk
    have := ok.d
    have := deepT_pos (.mx g ts)
    omega
  | n + 1 => by
    have IH := ok_Mdeep F T k m0 m1 F0 b0 b1 n
    have D : Disp P w K mg base (n + 1) "deep" n RDeep := Disp.two k m0 m1 ((F0 n).mono (by omega)) IH b0 b1
    refine F.ok sc_Mdeep (fun vs H Q E h => ?_) (fun cdv A outer s H vs Q E hr h => ?_)
    · obtain ⟨a, t, rfl, _⟩ := h
      rfl
    · obtain ⟨a, t, rfl, hk, ht, ok, q⟩ := h
      obtain ⟨g, ts, rfl⟩ := kd_mix hk
      obtain ⟨oks, l2, l8, r999, dn⟩ := ok.sub
      unfold ObAt at ht
      obtain ⟨a', dx, p, vs, e, h1, h2, h3⟩ := ht
      cases e
      have lv := h3.length
      have hr : Room (n + 1) (A.deeper _) := hr
      refine ⟨_, (pss_one (ps_ret (pe_op op_add pe_int (pe_callB (cr_max rfl) (by rfl) T.z_max (by decide +kernel) (pa_cons (pe_lc (own := [("term", 1)]) (g := gName 1) (tt := tYes) rfl sc_Mdeep.nd (pi_tup (pe_fld (pv 0) rfl)) (blkOk_by (N := ["self", "term"]) (sc := defScope s_Mdeep) (by decide +kernel)) (fun _ _ _ _ _ => (pg_name (i := 1) sc_Mdeep.nd rfl (Or.inl rfl))) (fun _ _ _ _ _ => pts_nil) (fun _ _ _ _ _ => (pe_methD (P := P) (w := w) (K := K) (mg := mg) (base := base) (j := (n + 1)) (pv 1) (hr.mono (by omega))))) pa_nil))))), ?_⟩
      refine ⟨_, rfl, _, _, _, _, _, rfl, h1, k.cls (.mx g []), k.no (.mx g []) "terms" (by simp), rfl, p, rfl, ⟨vs, SqT.of h2⟩, fun D1 hD1 => lc_it walk_tup (fun i H2 => ∃ ns : List Int, Same H H2 ∧ H2 D1 = some (.lst (ns.map V.int)) ∧ ns = (ts.take i).map fun t => (deepT t : Int))
        ⟨[], Same.new hD1, upd_same, rfl⟩ (fun i H2 _ h => SqT.of (h.choose_spec.1 _ _ h2)) ?_ ?_⟩
      · rintro i x H2 H2' hi ⟨ns, s2, d2, en⟩ ⟨rfl, hx⟩
        obtain ⟨t, et, ot⟩ := h3.get hx
        refine ⟨rfl, ?_⟩
        obtain ⟨b, rfl⟩ := ot.ref
        have ot2 := ObAt.to (TO.same s2) t ot
        refine ⟨_, rfl, D.go ot2 (oks t (List.mem_of_getElem? et)) (by decide +kernel) ?_⟩
        rintro v H3 s3 rfl
        have d3 := s3 _ _ d2
        have ln : ns.length = i := by rw [en, List.length_map, List.length_take]; omega
        refine ⟨_, d3, by rw [List.length_map]; exact small1000 (by omega), ns ++ [(deepT t : Int)], fun b o e => ?_, by rw [upd_same, List.map_append]; rfl, ?_⟩
        · rw [upd_ne (ne_of_none e hD1)]
          exact s3 _ _ (s2 _ _ e)
        · rw [List.take_add_one, et, en, List.map_append]
          rfl
      · rintro H2 ⟨ns, s2, d2, en⟩
        rw [lv, List.take_length] at en
        refine ⟨D1, ns, rfl, SqL.of d2, by rw [en, List.length_map]; omega, fun m hm hx => ⟨1, _, rfl, rfl, ?_⟩⟩
        refine q _ H2 s2 ?_
        show V.int _ = V.int ((deepT _ : Nat) : Int)
        have e : m = deepL ts := by
          subst en
          obtain ⟨t, ht, e1⟩ := deepL_mem (ts := ts) (fun z => by rw [z] at l2; simp at l2)
          have h1 := hx _ (List.mem_map.mpr ⟨t, ht, rfl⟩)
          obtain ⟨u, hu, e2⟩ := List.mem_map.mp hm
          have h2 := deepT_le hu
          omega
        rw [e]
        simp only [deepT]
        rw [Int.natCast_add]
        rfl
end
end LW

/-! CT: how rules are written -/
namespace CC
open PySem PySem.Spec PyProof.Rows L2
def numS : V → Str
  | .int n => Str.ofString (toString n)
  | .str s => s
  | _ => ""
def whS : V → Str
  | .str s => s
  | v => "day " ++ numS v
def inS (x : Str) : V → Str
  | .str s => x ++ " in " ++ s
  | _ => x
mutual
def txT : Tld → Str
  | .lv v => "at " ++ numS v
  | .cl w t => inS (whS w) t
  | .mx g ts => wd g ++ "(" ++ Txt.join ", " (txL ts) ++ ")"
def txL : List Tld → List Str
  | [] => []
  | t :: ts => txT t :: txL ts
end
theorem txL_map : ∀ ts : List Tld, txL ts = ts.map txT
  | [] => by unfold txL; rfl
  | t :: ts => by unfold txL; rw [txL_map ts]; rfl
theorem empty_app (x : Str) : Str.empty ++ x = x := str_ext (by rw [app_list]; rfl)
theorem num_len {n : Int} (h0 : 0 ≤ n) (h : n ≤ 1000000) : (Str.ofString (toString n)).length ≤ 7 := toString_length_le h0 (by decide) (by show n < 10000000; omega)
theorem num_log {n : Int} (h0 : 0 ≤ n) (h : n ≤ 1000000) : n.natAbs.log2 < 1920 := by
  by_cases hz : n.natAbs = 0
  · rw [hz]; decide
  · have h1 : n.natAbs < 2 ^ 20 := by
      have : n.natAbs ≤ 1000000 := by omega
      exact Nat.lt_of_le_of_lt this (by decide)
    have := (Nat.log2_lt hz).mpr h1
    omega
theorem join_len (a : Str) : ∀ ys : List Str, (Txt.join a ys).length ≤ (ys.map fun y => y.length + a.length).sum := fun ys => by
  rw [show Txt.join a ys = Str.join a ys from PySem.StrLaws.glued_eq_join a ys]
  induction ys with
  | nil => exact Nat.zero_le _
  | cons y r ih =>
    cases r with
    | nil => show y.length ≤ _; simp only [List.map_cons, List.map_nil, List.sum_cons, List.sum_nil]; omega
    | cons z r =>
      show (y ++ a ++ Str.join a (z :: r)).length ≤ _
      rw [app_len, app_len, List.map_cons, List.sum_cons]
      omega
theorem nm_len {x : Str} (h : nm x = true) : x.length ≤ 8 := (nm_iff.mp h).2.1
theorem wd_len (g : Bool) : (wd g).length ≤ 8 := by cases g <;> decide +kernel
theorem wh_len {w : V} (h : whOk w) : (whS w).length ≤ 11 := by
  rcases h with h | h | ⟨n, h, h0, h1⟩ <;> subst h
  · show ("made" : Str).length ≤ 11; decide +kernel
  · show ("paid" : Str).length ≤ 11; decide +kernel
  · show ("day " ++ Str.ofString (toString n)).length ≤ 11
    have := num_len h0 (by omega)
    have e : ("day " : Str).length = 4 := by decide +kernel
    rw [app_len]
    omega
theorem leaf_len {w t : V} (h : clOk (w, t)) : (inS (whS w) t).length ≤ 23 := by
  obtain ⟨h1, h2⟩ := h
  have hw := wh_len h1
  rcases h2 with e | ⟨x, e, hx⟩ <;> (have e' : t = _ := e; subst e')
  · show (whS w).length ≤ 23
    have : (whS w).length ≤ 11 := hw
    omega
  · show (whS w ++ " in " ++ x).length ≤ 23
    have := nm_len hx
    have e4 : (" in " : Str).length = 4 := by decide +kernel
    have hw : (whS w).length ≤ 11 := hw
    rw [app_len, app_len]
    omega
mutual
theorem tx_len : ∀ {t : Tld}, AllLf lvOk clOk t → (txT t).length + 2 ≤ 25 * rulesT t
  | .lv v, h => by
    unfold AllLf at h
    obtain ⟨n, rfl, h0, h1⟩ := h
    unfold txT
    have := num_len h0 h1
    have e : ("at " : Str).length = 3 := by decide +kernel
    simp only [rulesT]
    rw [app_len]
    show 3 + (Str.ofString (toString n)).length + 2 ≤ _
    omega
  | .cl w u, h => by
    unfold AllLf at h
    unfold txT
    have := leaf_len h
    simp only [rulesT]
    omega
  | .mx g ts, h => by
    unfold AllLf at h
    have ih := txs_len h
    unfold txT
    have h1 := join_len ", " (txL ts)
    have h2 := wd_len g
    have e2 : (", " : Str).length = 2 := by decide +kernel
    have e3 : ("(" : Str).length = 1 := by decide +kernel
    have e4 : (")" : Str).length = 1 := by decide +kernel
    rw [e2] at h1
    simp only [rulesT]
    rw [app_len, app_len, app_len]
    omega
theorem txs_len : ∀ {ts : List Tld}, AllLs lvOk clOk ts → ((txL ts).map fun y => y.length + 2).sum ≤ 25 * rulesL ts
  | [], _ => by unfold txL; exact Nat.zero_le _
  | t :: ts, h => by
    unfold AllLs at h
    have h1 := tx_len h.1
    have h2 := txs_len h.2
    unfold txL
    simp only [List.map_cons, List.sum_cons, rulesL]
    omega
end
theorem sum_le {ys : List Str} {k : Nat} : ((ys.map fun y => y.length + k)).sum = (ys.map (·.length)).sum + ys.length * k := by
  induction ys with
  | nil => simp
  | cons y r ih =>
    simp only [List.map_cons, List.sum_cons, List.length_cons, ih, Nat.add_mul]
    omega
abbrev RText : Tld → Hp → V → Prop := fun t _ v => v = .str (txT t)
/-- the text of a bracket, its word told -/
def spTextBy (mg : Str → Option Value) (n : Nat) : Sp := fun vs H Q _ => ∃ (a : Addr) (g : Bool) (ts : List Tld) (x : Str), vs = [.ref a, .str x] ∧ ObAt mg H (.ref a) (.mx g ts) ∧ okT (n + 1) (.mx g ts) ∧ x.length ≤ 100 ∧ ∀ H', Same H H' → Q (.str (x ++ "(" ++ Txt.join ", " (txL ts) ++ ")")) H'
/-- the text that is due -/
def spLText (n : Nat) : Sp := fun vs H Q _ => ∃ (a : Addr) (t : Tld), vs = [.ref a] ∧ TldAt H (.ref a) t ∧ okT n t ∧ ∀ H', Same H H' → Q (.str (txT t)) H'
theorem small_tx {n k : Nat} (h : n ≤ k) (hk : k ≤ 100000) : n ≤ sizeLine := Nat.le_trans h (Nat.le_trans hk (by decide))
end CC

namespace LW
open PySem PySem.Spec PyProof.Rows L2 CC
section
variable {P : Program} {w : World} {K : PySem.W.Frag} {mg : Str → Option Value} {base : Heap}
abbrev s_Ltext : Stmt := inClass (top 17) 3
theorem sc_Ltext : FnScope ["self"] ["self"] (defScope s_Ltext) := ⟨rfl, rfl, rfl, by decide +kernel, rfl, by decide +kernel, by decide +kernel⟩
theorem ok_Ltext {f : Addr} {fd : FuncData} (F : Fun K "text" "Level.text" s_Ltext f fd) (k : Kls K mg) (n : Nat) : FnOk P w K mg base CX0 1 f fd ["self"] (spOb mg ["Level"] n RText) := by
  refine F.ok sc_Ltext (fun vs H Q E h => ?_) (fun cdv A outer s H vs Q E hr h => ?_)
  · obtain ⟨a, t, rfl, _⟩ := h
    rfl
  · obtain ⟨a, t, rfl, hk, ht, ok, q⟩ := h
    obtain ⟨v, rfl⟩ : ∃ v, t = .lv v := by
      cases t with
      | lv v => exact ⟨v, rfl⟩
      | cl w u => exact absurd (show ("Called" : Str) ∈ (["Level"] : List Str) from hk) (by decide +kernel)
      | mx g ts =>
        cases g
        · exact absurd (show ("Least" : Str) ∈ (["Level"] : List Str) from hk) (by decide +kernel)
        · exact absurd (show ("Greatest" : Str) ∈ (["Level"] : List Str) from hk) (by decide +kernel)
    have hl := ok.l
    unfold AllLf at hl
    obtain ⟨m, rfl, m0, m1⟩ := hl
    unfold ObAt at ht
    obtain ⟨a', dx, e, h1⟩ := ht
    cases e
    have hn := num_len m0 m1
    refine ⟨_, (pss_one (ps_ret (pe_joined (.cons pe_str (.cons (pe_fmt (pe_fld (pv 0) rfl)) .nil))))), ?_⟩
    have e0 : (Str.empty ++ ("at " : Str)) = "at " := empty_app _
    have e3 : ("at " : Str).length = 3 := by decide +kernel
    refine ⟨_, rfl, by rw [e0, e3]; decide, _, rfl, _, _, _, _, _, rfl, h1, k.cls (.lv .non), k.no (.lv .non) "level" (by simp), rfl, .inr ⟨m, rfl, num_log m0 m1, ?_⟩⟩
    refine ⟨_, rfl, ?_, ?_⟩
    · rw [e0, app_len]
      exact small_tx (k := 10) (by rw [e3]; exact Nat.add_le_add_left hn 3) (by decide)
    · rw [e0]
      refine q _ H (Same.refl H) ?_
      show _ = V.str (txT _)
      unfold txT
      rfl
abbrev s_Ctext : Stmt := inClass (top 18) 3
theorem sc_Ctext : FnScope ["self", "text"] ["self"] (defScope s_Ctext) := ⟨rfl, rfl, rfl, by decide +kernel, rfl, by decide +kernel, by decide +kernel⟩
theorem ok_Ctext {f : Addr} {fd : FuncData} (F : Fun K "text" "Called.text" s_Ctext f fd) (k : Kls K mg) (n : Nat) : FnOk P w K mg base CX0 1 f fd ["self"] (spOb mg ["Called"] n RText) := by
  refine F.ok sc_Ctext (fun vs H Q E h => ?_) (fun cdv A outer s H vs Q E hr h => ?_)
  · obtain ⟨a, t, rfl, _⟩ := h
    rfl
  · obtain ⟨a, t, rfl, hk, ht, ok, q⟩ := h
    obtain ⟨wh, u, rfl⟩ : ∃ v u, t = .cl v u := by
      cases t with
      | lv v => exact absurd (show ("Level" : Str) ∈ (["Called"] : List Str) from hk) (by decide +kernel)
      | cl w u => exact ⟨w, u, rfl⟩
      | mx g ts =>
        cases g
        · exact absurd (show ("Least" : Str) ∈ (["Called"] : List Str) from hk) (by decide +kernel)
        · exact absurd (show ("Greatest" : Str) ∈ (["Called"] : List Str) from hk) (by decide +kernel)
    have hl := ok.l
    unfold AllLf at hl
    obtain ⟨hw, hu⟩ := hl
    have hw : whOk wh := hw
    have hu : twOk u := hu
    have lw := wh_len hw
    unfold ObAt at ht
    obtain ⟨a', dx, e, h1⟩ := ht
    cases e
    have cC := k.cls (.cl .non .non)
    have nW := k.no (.cl .non .non) "when" (by simp)
    have nT := k.no (.cl .non .non) "town" (by simp)
    refine ⟨_, (pss_cons (ps_set (i := 1) sc_Ctext.nd rfl (Or.inl rfl) (pe_joined (.cons pe_str (.cons (pe_fmt (pe_fld (pv 0) rfl)) .nil))))
      (pss_cons (ps_if (PW.pt (pw_or (pt_cmpR op_eq (pe_fld (pv 0) rfl) pe_str (nomark _)) (pw_or1 (pt_cmpR op_eq (pe_fld (pv 0) rfl) pe_str (nomark _))))) (pss_one (ps_set (i := 1) sc_Ctext.nd rfl (Or.inl rfl) (pe_fld (pv 0) rfl))) pss_nil)
      (pss_cons (ps_if (pt_cmpR op_isN (pe_fld (pv 0) rfl) pe_non (nomark _)) (pss_one (ps_ret (pv 1))) pss_nil)
      (pss_one (ps_ret (pe_op op_add_str (pe_op op_add_str (pv 1) pe_str) (pe_fld (pv 0) rfl))))))), ?_⟩
    have e0 : (Str.empty ++ ("day " : Str)) = "day " := empty_app _
    have e4 : ("day " : Str).length = 4 := by decide +kernel
    refine ⟨_, rfl, by rw [e0, e4]; decide, _, rfl, _, _, _, _, _, rfl, h1, cC, nW, rfl, ?_⟩
    rcases hw with e | e | ⟨m, e, m0, m1⟩ <;> subst e
    · refine .inl ⟨_, rfl, (by decide +kernel), ?_⟩
      refine ⟨_, rfl, (by decide +kernel), ?_⟩
      refine ⟨_, rfl, _, _, _, _, _, rfl, h1, cC, nW, rfl, rfl, _, rfl, ?_⟩
      refine iteT ?_
      refine ⟨_, rfl, _, _, _, _, _, rfl, h1, cC, nW, rfl, ?_⟩
      -- if self.town is None
      refine ⟨_, rfl, _, _, _, _, _, rfl, h1, cC, nT, rfl, rfl, _, rfl, ?_⟩
      rcases hu with e | ⟨x, e, hx⟩ <;> subst e
      · refine iteT ?_
        refine ⟨_, rfl, ?_⟩
        refine q _ H (Same.refl H) ?_
        show _ = V.str (txT _)
        unfold txT
        rfl
      · refine iteF ?_
        have ei : (" in " : Str).length = 4 := by decide +kernel
        have lx := nm_len hx
        refine ⟨_, rfl, _, _, rfl, rfl, small_tx (k := 15) (by rw [ei]; exact Nat.add_le_add_right lw 4) (by decide), _, rfl, _, _, _, _, _, rfl, h1, cC, nT, rfl, _, _, rfl, rfl, small_tx (k := 23) (by rw [app_len, ei]; exact Nat.add_le_add (Nat.add_le_add_right lw 4) lx) (by decide), ?_⟩
        refine q _ H (Same.refl H) ?_
        show _ = V.str (txT _)
        unfold txT
        rfl
    · refine .inl ⟨_, rfl, (by decide +kernel), ?_⟩
      refine ⟨_, rfl, (by decide +kernel), ?_⟩
      refine ⟨_, rfl, _, _, _, _, _, rfl, h1, cC, nW, rfl, rfl, _, rfl, ?_⟩
      refine iteF ?_
      refine ⟨_, rfl, _, _, _, _, _, rfl, h1, cC, nW, rfl, rfl, _, rfl, ?_⟩
      refine iteT ?_
      refine ⟨_, rfl, _, _, _, _, _, rfl, h1, cC, nW, rfl, ?_⟩
      -- if self.town is None
      refine ⟨_, rfl, _, _, _, _, _, rfl, h1, cC, nT, rfl, rfl, _, rfl, ?_⟩
      rcases hu with e | ⟨x, e, hx⟩ <;> subst e
      · refine iteT ?_
        refine ⟨_, rfl, ?_⟩
        refine q _ H (Same.refl H) ?_
        show _ = V.str (txT _)
        unfold txT
        rfl
      · refine iteF ?_
        have ei : (" in " : Str).length = 4 := by decide +kernel
        have lx := nm_len hx
        refine ⟨_, rfl, _, _, rfl, rfl, small_tx (k := 15) (by rw [ei]; exact Nat.add_le_add_right lw 4) (by decide), _, rfl, _, _, _, _, _, rfl, h1, cC, nT, rfl, _, _, rfl, rfl, small_tx (k := 23) (by rw [app_len, ei]; exact Nat.add_le_add (Nat.add_le_add_right lw 4) lx) (by decide), ?_⟩
        refine q _ H (Same.refl H) ?_
        show _ = V.str (txT _)
        unfold txT
        rfl
    · have hn := num_len m0 (by omega)
      refine .inr ⟨m, rfl, num_log m0 (by omega), ?_⟩
      refine ⟨_, rfl, ?_, ?_⟩
      · rw [e0, app_len]
        exact small_tx (k := 11) (by rw [e4]; exact Nat.add_le_add_left hn 4) (by decide)
      rw [e0]
      refine ⟨_, rfl, _, _, _, _, _, rfl, h1, cC, nW, rfl, rfl, _, rfl, ?_⟩
      refine iteF ?_
      refine ⟨_, rfl, _, _, _, _, _, rfl, h1, cC, nW, rfl, rfl, _, rfl, ?_⟩
      refine iteF ?_
      -- if self.town is None
      refine ⟨_, rfl, _, _, _, _, _, rfl, h1, cC, nT, rfl, rfl, _, rfl, ?_⟩
      rcases hu with e | ⟨x, e, hx⟩ <;> subst e
      · refine iteT ?_
        refine ⟨_, rfl, ?_⟩
        refine q _ H (Same.refl H) ?_
        show _ = V.str (txT _)
        unfold txT
        rfl
      · refine iteF ?_
        have ei : (" in " : Str).length = 4 := by decide +kernel
        have lx := nm_len hx
        refine ⟨_, rfl, _, _, rfl, rfl, small_tx (k := 15) (by rw [ei]; exact Nat.add_le_add_right lw 4) (by decide), _, rfl, _, _, _, _, _, rfl, h1, cC, nT, rfl, _, _, rfl, rfl, small_tx (k := 23) (by rw [app_len, ei]; exact Nat.add_le_add (Nat.add_le_add_right lw 4) lx) (by decide), ?_⟩
        refine q _ H (Same.refl H) ?_
        show _ = V.str (txT _)
        unfold txT
        rfl
abbrev s_textby : Stmt := inClass (top 19) 5
theorem sc_textby : FnScope ["self", "word", "term"] ["self", "word"] (defScope s_textby) := ⟨rfl, rfl, rfl, by decide +kernel, rfl, by decide +kernel, by decide +kernel⟩
theorem ok_textby {f : Addr} {fd : FuncData} (F : Fun K "text_by" "Mixed.text_by" s_textby f fd) (T : Bl mg) (k : Kls K mg) (n j : Nat) (D : Disp P w K mg base j "text" n RText) : FnOk P w K mg base CX0 (j + 1) f fd ["self", "word"] (spTextBy mg n) := by
  refine F.ok sc_textby (fun vs H Q E h => ?_) (fun cdv A outer s H vs Q E hr h => ?_)
  · obtain ⟨a, g, ts, x, rfl, _⟩ := h
    rfl
  · obtain ⟨a, g, ts, x, rfl, ht, ok, lx, q⟩ := h
    obtain ⟨oks, l2, l8, r999, dn⟩ := ok.sub
    have hl := ok.l
    unfold AllLf at hl
    have hlen := txs_len hl
    unfold ObAt at ht
    obtain ⟨a', dx, p, vs, e, h1, h2, h3⟩ := ht
    cases e
    have lv := h3.length
    have hr : Room j (A.deeper _) := hr
    refine ⟨_, (pss_one (ps_ret (pe_op op_add_str (pe_op op_add_str (pe_op op_add_str (pv 1) pe_str) (pe_join pe_str (pe_lc (own := [("term", 2)]) (g := gName 2) (tt := tYes) rfl sc_textby.nd (pi_tup (pe_fld (pv 0) rfl)) (blkOk_by (N := ["self", "word", "term"]) (sc := defScope s_textby) (by decide +kernel)) (fun _ _ _ _ _ => (pg_name (i := 2) sc_textby.nd rfl (Or.inl rfl))) (fun _ _ _ _ _ => pts_nil) (fun _ _ _ _ _ => (pe_methD (P := P) (w := w) (K := K) (mg := mg) (base := base) (j := (j)) (pv 2) (hr.mono (by omega))))))) pe_str))), ?_⟩
    have e1 : ("(" : Str).length = 1 := by decide +kernel
    have e2 : (", " : Str).length = 2 := by decide +kernel
    refine ⟨_, rfl, _, _, rfl, rfl, small_tx (k := 101) (by rw [e1]; exact Nat.add_le_add_right lx 1) (by decide), ⟨_, rfl⟩, _, rfl, _, _, _, _, _, rfl, h1, k.cls (.mx g []), k.no (.mx g []) "terms" (by simp), rfl, p, rfl, ⟨vs, SqT.of h2⟩, fun D1 hD1 => lc_it walk_tup (fun i H2 => ∃ ns : List Str, Same H H2 ∧ H2 D1 = some (.lst (ns.map V.str)) ∧ ns = (ts.take i).map txT)
      ⟨[], Same.new hD1, upd_same, rfl⟩ (fun i H2 _ h => SqT.of (h.choose_spec.1 _ _ h2)) ?_ ?_⟩
    · rintro i x H2 H2' hi ⟨ns, s2, d2, en⟩ ⟨rfl, hx⟩
      obtain ⟨t, et, ot⟩ := h3.get hx
      refine ⟨rfl, ?_⟩
      obtain ⟨b, rfl⟩ := ot.ref
      have ot2 := ObAt.to (TO.same s2) t ot
      refine ⟨_, rfl, D.go ot2 (oks t (List.mem_of_getElem? et)) (by decide +kernel) ?_⟩
      rintro v H3 s3 rfl
      have d3 := s3 _ _ d2
      have ln : ns.length = i := by rw [en, List.length_map, List.length_take]; omega
      refine ⟨_, d3, by rw [List.length_map]; exact small1000 (by omega), ns ++ [txT t], fun b o e => ?_, by rw [upd_same, List.map_append]; rfl, ?_⟩
      · rw [upd_ne (ne_of_none e hD1)]
        exact s3 _ _ (s2 _ _ e)
      · rw [List.take_add_one, et, en, List.map_append]
        rfl
    · rintro H2 ⟨ns, s2, d2, en⟩
      rw [lv, List.take_length, ← txL_map] at en
      have jl := join_len ", " (txL ts)
      rw [e2] at jl
      refine ⟨_, D1, ns, rfl, rfl, .inl (SqL.of d2), ?_, ?_⟩
      · rw [e2, en, ← sum_le]
        exact Nat.le_trans hlen (Nat.le_trans (Nat.mul_le_mul_left 25 r999) (by decide))
      · rw [en]
        refine ⟨_, _, rfl, rfl, ?_, _, _, rfl, rfl, ?_, ?_⟩
        · rw [app_len, e1]
          exact small_tx (k := 101 + 25 * 999) (Nat.add_le_add (Nat.add_le_add_right lx 1) (Nat.le_trans jl (Nat.le_trans hlen (Nat.mul_le_mul_left 25 r999)))) (by decide)
        · rw [app_len, app_len, e1]
          exact small_tx (k := 101 + 25 * 999 + 1) (Nat.add_le_add_right (Nat.add_le_add (Nat.add_le_add_right lx 1) (Nat.le_trans jl (Nat.le_trans hlen (Nat.mul_le_mul_left 25 r999)))) 1) (by decide)
        · exact q H2 s2
end
end LW

namespace LW
open PySem PySem.Spec PyProof.Rows L2 CC
section
variable {P : Program} {w : World} {K : PySem.W.Frag} {mg : Str → Option Value} {base : Heap}
abbrev s_Letext : Stmt := inClass (top 20) 2
theorem sc_Letext : FnScope ["self"] ["self"] (defScope s_Letext) := ⟨rfl, rfl, rfl, by decide +kernel, rfl, by decide +kernel, by decide +kernel⟩
theorem ok_Letext {f : Addr} {fd : FuncData} (F : Fun K "text" "Least.text" s_Letext f fd) (n j : Nat) (c_text_by : Mcal P w K mg base CX0 j (exA mg "Least") "text_by" ["self", "word"] (spTextBy mg n) []) : FnOk P w K mg base CX0 (j + 1) f fd ["self"] (spOb mg ["Least"] (n + 1) RText) := by
  refine F.ok sc_Letext (fun vs H Q E h => ?_) (fun cdv A outer s H vs Q E hr h => ?_)
  · obtain ⟨a, t, rfl, _⟩ := h
    rfl
  · obtain ⟨a, t, rfl, hk, ht, ok, q⟩ := h
    obtain ⟨ts, rfl⟩ : ∃ ts, t = .mx false ts := by
      cases t with
      | lv v => exact absurd (show ("Level" : Str) ∈ (["Least"] : List Str) from hk) (by decide +kernel)
      | cl w u => exact absurd (show ("Called" : Str) ∈ (["Least"] : List Str) from hk) (by decide +kernel)
      | mx g ts =>
        cases g
        · exact ⟨ts, rfl⟩
        · exact absurd (show ("Greatest" : Str) ∈ (["Least"] : List Str) from hk) (by decide +kernel)
    obtain ⟨dx, fs, h1, h2⟩ := ht.ins
    obtain ⟨f_text_by, fd_text_by, ds_text_by, F_text_by, cl_text_by, me_text_by, b_text_by, v_text_by⟩ := c_text_by.ex
    have hr : Room j (A.deeper _) := hr
    refine ⟨_, (pss_one (ps_ret (pe_meth (pv 0) cl_text_by me_text_by F_text_by (hr.mono (by omega)) b_text_by v_text_by pass0 (pa_cons pe_str pa_nil)))), ?_⟩
    refine ⟨_, rfl, a, dx, fs, rfl, h1, h2 "text_by" (by decide +kernel), ?_⟩
    refine ⟨a, false, ts, "least", rfl, ht, ok, (by decide +kernel), fun H' s' => q _ H' s' ?_⟩
    show _ = V.str (txT _)
    unfold txT
    rfl
abbrev s_Grtext : Stmt := inClass (top 21) 2
theorem sc_Grtext : FnScope ["self"] ["self"] (defScope s_Grtext) := ⟨rfl, rfl, rfl, by decide +kernel, rfl, by decide +kernel, by decide +kernel⟩
theorem ok_Grtext {f : Addr} {fd : FuncData} (F : Fun K "text" "Greatest.text" s_Grtext f fd) (n j : Nat) (c_text_by : Mcal P w K mg base CX0 j (exA mg "Greatest") "text_by" ["self", "word"] (spTextBy mg n) []) : FnOk P w K mg base CX0 (j + 1) f fd ["self"] (spOb mg ["Greatest"] (n + 1) RText) := by
  refine F.ok sc_Grtext (fun vs H Q E h => ?_) (fun cdv A outer s H vs Q E hr h => ?_)
  · obtain ⟨a, t, rfl, _⟩ := h
    rfl
  · obtain ⟨a, t, rfl, hk, ht, ok, q⟩ := h
    obtain ⟨ts, rfl⟩ : ∃ ts, t = .mx true ts := by
      cases t with
      | lv v => exact absurd (show ("Level" : Str) ∈ (["Greatest"] : List Str) from hk) (by decide +kernel)
      | cl w u => exact absurd (show ("Called" : Str) ∈ (["Greatest"] : List Str) from hk) (by decide +kernel)
      | mx g ts =>
        cases g
        · exact absurd (show ("Least" : Str) ∈ (["Greatest"] : List Str) from hk) (by decide +kernel)
        · exact ⟨ts, rfl⟩
    obtain ⟨dx, fs, h1, h2⟩ := ht.ins
    obtain ⟨f_text_by, fd_text_by, ds_text_by, F_text_by, cl_text_by, me_text_by, b_text_by, v_text_by⟩ := c_text_by.ex
    have hr : Room j (A.deeper _) := hr
    refine ⟨_, (pss_one (ps_ret (pe_meth (pv 0) cl_text_by me_text_by F_text_by (hr.mono (by omega)) b_text_by v_text_by pass0 (pa_cons pe_str pa_nil)))), ?_⟩
    refine ⟨_, rfl, a, dx, fs, rfl, h1, h2 "text_by" (by decide +kernel), ?_⟩
    refine ⟨a, true, ts, "greatest", rfl, ht, ok, (by decide +kernel), fun H' s' => q _ H' s' ?_⟩
    show _ = V.str (txT _)
    unfold txT
    rfl
theorem ok_text {f1 f2 f3 f4 f5 : Addr} {fd1 fd2 fd3 fd4 fd5 : FuncData} (k : Kls K mg) (T : Bl mg) (m1 : Mby K mg "text" ["Level"] f1) (m2 : Mby K mg "text" ["Called"] f2) (m3 : Mby K mg "text" ["Least"] f3) (m4 : Mby K mg "text" ["Greatest"] f4) (m5 : Mby K mg "text_by" ["Least", "Greatest"] f5)
    (F1 : Fun K "text" "Level.text" s_Ltext f1 fd1) (F2 : Fun K "text" "Called.text" s_Ctext f2 fd2) (F3 : Fun K "text" "Least.text" s_Letext f3 fd3) (F4 : Fun K "text" "Greatest.text" s_Grtext f4 fd4) (F5 : Fun K "text_by" "Mixed.text_by" s_textby f5 fd5)
    (b1 : Binds K fd1 ["self"] []) (b2 : Binds K fd2 ["self"] []) (b3 : Binds K fd3 ["self"] []) (b4 : Binds K fd4 ["self"] []) (b5 : Binds K fd5 ["self", "word"] []) : ∀ n : Nat, Disp P w K mg base (2 * n + 1) "text" n RText
  | 0 => by
    refine Disp.four k m1 m2 m3 m4 ((ok_Ltext F1 k 0).mono (by omega)) ((ok_Ctext F2 k 0).mono (by omega)) ?_ ?_ b1 b2 b3 b4
    · refine fnOk_false fun vs H Q E h => ?_
      obtain ⟨a, t, _, hk, _, ok, _⟩ := h
      have := ok.d
      have := deepT_pos t
      omega
    · refine fnOk_false fun vs H Q E h => ?_
      obtain ⟨a, t, _, hk, _, ok, _⟩ := h
      have := ok.d
      have := deepT_pos t
      omega
  | n + 1 => by
    have D := ok_text k T m1 m2 m3 m4 m5 F1 F2 F3 F4 F5 b1 b2 b3 b4 b5 n
    have G5 := ok_textby F5 T k n (2 * n + 1) D
    have c3 : Mcal P w K mg base CX0 (2 * n + 1 + 1) (exA mg "Least") "text_by" ["self", "word"] (spTextBy mg n) [] := ⟨f5, fd5, [], G5, k.c "Least" (by simp), m5 "Least" (by simp), b5, .nil⟩
    have c4 : Mcal P w K mg base CX0 (2 * n + 1 + 1) (exA mg "Greatest") "text_by" ["self", "word"] (spTextBy mg n) [] := ⟨f5, fd5, [], G5, k.c "Greatest" (by simp), m5 "Greatest" (by simp), b5, .nil⟩
    exact Disp.four k m1 m2 m3 m4 ((ok_Ltext F1 k (n + 1)).mono (by omega)) ((ok_Ctext F2 k (n + 1)).mono (by omega)) ((ok_Letext F3 n _ c3).mono (by omega)) ((ok_Grtext F4 n _ c4).mono (by omega)) b1 b2 b3 b4
abbrev s_Tstr : Stmt := inClass (top 16) 3
theorem sc_Tstr : FnScope ["self"] ["self"] (defScope s_Tstr) := ⟨rfl, rfl, rfl, by decide +kernel, rfl, by decide +kernel, by decide +kernel⟩
theorem ok_Tstr {f : Addr} {fd : FuncData} (F : Fun K "__str__" "Term.__str__" s_Tstr f fd) (n j : Nat) (D : Disp P w K mg base j "text" n RText) : FnOk P w K mg base CX0 (j + 1) f fd ["self"] (spOb mg ["Level", "Called", "Least", "Greatest"] n RText) := by
  refine F.ok sc_Tstr (fun vs H Q E h => ?_) (fun cdv A outer s H vs Q E hr h => ?_)
  · obtain ⟨a, t, rfl, _⟩ := h
    rfl
  · obtain ⟨a, t, rfl, hk, ht, ok, q⟩ := h
    have hr : Room j (A.deeper _) := hr
    refine ⟨_, (pss_one (ps_ret (pe_joined1 (pe_fmt (pe_methD (P := P) (w := w) (K := K) (mg := mg) (base := base) (j := (j)) (pv 0) (hr.mono (by omega))))))), ?_⟩
    refine ⟨_, rfl, D.go ht ok (by decide +kernel) ?_⟩
    rintro v H' s' rfl
    have hl := tx_len ok.l
    have hr := ok.r
    exact .inl ⟨_, rfl, small_tx (k := 25 * 1000) (by omega) (by decide), q _ H' s' rfl⟩
abbrev s_LvI : Stmt := inClass (top 17) 0
theorem sc_LvI : FnScope ["self", "level"] ["self", "level"] (defScope s_LvI) := ⟨rfl, rfl, rfl, by decide +kernel, rfl, by decide +kernel, by decide +kernel⟩
theorem ok_LvI {f : Addr} {fd : FuncData} (F : Fun K "__init__" "Level.__init__" s_LvI f fd) (k : Kls K mg) (c_ask_worth : Cal P w K mg base (L2.CX P w) 2 "ask_worth" ["worth"] (spAskWorth mg) []) : FnOk P w K mg base (L2.CX P w) 3 f fd ["self", "level"] (spInitLv mg) := by
  refine F.okX sc_LvI (fun vs H Q E h => ?_) (fun cdv A outer s H vs Q E hr h => ?_)
  · obtain ⟨a, dx, v, rfl, _⟩ := h
    rfl
  · obtain ⟨a, dx, v, rfl, h1, hf, q1, q2⟩ := h
    obtain ⟨f_ask_worth, fd_ask_worth, ds_ask_worth, F_ask_worth, g_ask_worth, k_ask_worth, b_ask_worth, v_ask_worth⟩ := c_ask_worth.ex
    have hr : Room 2 (A.deeper _) := hr
    refine ⟨_, (pss_cons (ps_expr (pe_call F_ask_worth (hr.mono (by omega)) rfl g_ask_worth k_ask_worth b_ask_worth v_ask_worth (passes_call (takes_of rfl rfl rfl rfl) fun _ _ _ _ h => h) (pa_cons (pv 1) pa_nil)))
      (pss_one (ps_fld (pv 0) (pv 1) rfl))), ?_⟩
    refine ⟨_, rfl, v, rfl, hf, fun e => ?_, q2⟩
    refine ⟨_, rfl, _, rfl, a, _, dx, [], rfl, h1, k.cls (.lv .non), k.no (.lv .non) "level" (by simp), (by decide), q1 e⟩
abbrev s_ClI : Stmt := inClass (top 18) 0
theorem sc_ClI : FnScope ["self", "when", "town"] ["self", "when", "town"] (defScope s_ClI) := ⟨rfl, rfl, rfl, by decide +kernel, rfl, by decide +kernel, by decide +kernel⟩
theorem ok_ClI {f : Addr} {fd : FuncData} (F : FunD K "__init__" "Called.__init__" (defArgs s_ClI) (defBody s_ClI) (defScope s_ClI) [.non] [] f fd) (T : Bl mg) (k : Kls K mg) (X_NoDay : Exk K mg "NoDay") (c_ask_name : Cal P w K mg base (L2.CX P w) 2 "ask_name" ["text"] (spAskName mg) []) (c_is_number : Cal P w K mg base CX0 1 "is_number" ["thing", "low", "high"] (spIsNumber) []) : FnOk P w K mg base (L2.CX P w) 3 f fd ["self", "when", "town"] (spInitCl mg) := by
  refine F.ok (CX := L2.CX P w) sc_ClI (fun vs H Q E h => ?_) (fun cdv A outer s H vs Q E hr h => ?_)
  · obtain ⟨a, dx, v, t, rfl, _⟩ := h
    rfl
  · obtain ⟨a, dx, v, t, rfl, h1, hf, ht, lt, q1, q2, q3⟩ := h
    obtain ⟨f_ask_name, fd_ask_name, ds_ask_name, F_ask_name, g_ask_name, k_ask_name, b_ask_name, v_ask_name⟩ := c_ask_name.ex
    obtain ⟨f_is_number, fd_is_number, ds_is_number, F_is_number, g_is_number, k_is_number, b_is_number, v_is_number⟩ := c_is_number.ex
    have hr : Room 2 (A.deeper _) := hr
    refine ⟨_, (pss_cons (ps_if (PW.pt (pw_and (pt_cmpR op_ne (pv 1) pe_str (nomark _)) (pw_and (pt_cmpR op_ne (pv 1) pe_str (nomark _)) (pw_and1 (pt_not (pt_val (pe_call F_is_number (hr.mono (by omega)) rfl g_is_number k_is_number b_is_number v_is_number pass0 (pa_cons (pv 1) (pa_cons pe_int (pa_cons pe_int pa_nil)))))))))) (pss_one (ps_raise rfl (takes_of rfl rfl rfl rfl) (pmk_x X_NoDay))) pss_nil)
      (pss_cons (ps_if (pt_cmpR op_notN (pv 2) pe_non (nomark _)) (pss_one (ps_expr (pe_call F_ask_name (hr.mono (by omega)) rfl g_ask_name k_ask_name b_ask_name v_ask_name (passes_call (takes_of rfl rfl rfl rfl) fun _ _ _ _ h => h) (pa_cons (pv 2) pa_nil)))) pss_nil)
      (pss_cons (ps_fld (pv 0) (pv 1) rfl)
      (pss_one (ps_fld (pv 0) (pv 2) rfl))))), ?_⟩
    have cC := k.cls (.cl .non .non)
    have nW := k.no (.cl .non .non) "when" (by simp)
    have nT := k.no (.cl .non .non) "town" (by simp)
    have sc : ∀ x : Str, scal v (.str x) = true := fun x => by cases v <;> first | rfl | cases hf
    refine ⟨_, rfl, sc _, _, rfl, ?_⟩
    by_cases e1 : v = .str "made"
    · rw [decide_eq_true e1]
      refine iteF ?_
      have ew : isWh v = true := by unfold isWh; rw [decide_eq_true e1]; rfl
      refine ⟨_, rfl, rfl, _, rfl, ?_⟩
      by_cases en : t = .non
      · rw [decide_eq_true en]
        refine iteF ?_
        have et : isTw t = true := by unfold isTw; rw [decide_eq_true en]; rfl
        refine ⟨_, rfl, _, rfl, a, _, dx, [], rfl, h1, cC, nW, (by decide), _, rfl, _, rfl, a, _, dx, _, rfl, upd_same, cC, nT, (by show 1 < 1000; decide), ?_⟩
        have e := q1 ew et H (Same.refl H)
        rw [upd_upd]
        exact e
      · rw [decide_eq_false en]
        refine iteT ?_
        refine ⟨_, rfl, t, rfl, ht, lt, fun e H' s' => ?_, fun e H' s' => ?_⟩
        · have et : isTw t = true := by unfold isTw; rw [e, Bool.or_true]
          refine ⟨_, rfl, _, rfl, a, _, dx, [], rfl, s' _ _ h1, cC, nW, (by decide), _, rfl, _, rfl, a, _, dx, _, rfl, upd_same, cC, nT, (by show 1 < 1000; decide), ?_⟩
          have e := q1 ew et H' s'
          rw [upd_upd]
          exact e
        · have et : isTw t = false := by unfold isTw; rw [e, decide_eq_false en]; rfl
          exact q3 ew et H' s'
    rw [decide_eq_false e1]
    refine iteT ?_
    refine ⟨_, rfl, sc _, _, rfl, ?_⟩
    by_cases e2 : v = .str "paid"
    · rw [decide_eq_true e2]
      refine iteF ?_
      have ew : isWh v = true := by unfold isWh; rw [decide_eq_true e2, Bool.or_true]; rfl
      refine ⟨_, rfl, rfl, _, rfl, ?_⟩
      by_cases en : t = .non
      · rw [decide_eq_true en]
        refine iteF ?_
        have et : isTw t = true := by unfold isTw; rw [decide_eq_true en]; rfl
        refine ⟨_, rfl, _, rfl, a, _, dx, [], rfl, h1, cC, nW, (by decide), _, rfl, _, rfl, a, _, dx, _, rfl, upd_same, cC, nT, (by show 1 < 1000; decide), ?_⟩
        have e := q1 ew et H (Same.refl H)
        rw [upd_upd]
        exact e
      · rw [decide_eq_false en]
        refine iteT ?_
        refine ⟨_, rfl, t, rfl, ht, lt, fun e H' s' => ?_, fun e H' s' => ?_⟩
        · have et : isTw t = true := by unfold isTw; rw [e, Bool.or_true]
          refine ⟨_, rfl, _, rfl, a, _, dx, [], rfl, s' _ _ h1, cC, nW, (by decide), _, rfl, _, rfl, a, _, dx, _, rfl, upd_same, cC, nT, (by show 1 < 1000; decide), ?_⟩
          have e := q1 ew et H' s'
          rw [upd_upd]
          exact e
        · have et : isTw t = false := by unfold isTw; rw [e, decide_eq_false en]; rfl
          exact q3 ew et H' s'
    rw [decide_eq_false e2]
    refine iteT ?_
    refine ⟨_, rfl, v, 0, 9999, rfl, hf, _, rfl, ?_⟩
    cases e3 : isNum v 0 9999 with
    | true =>
      refine iteF ?_
      have ew : isWh v = true := by unfold isWh; rw [e3, Bool.or_true]
      refine ⟨_, rfl, rfl, _, rfl, ?_⟩
      by_cases en : t = .non
      · rw [decide_eq_true en]
        refine iteF ?_
        have et : isTw t = true := by unfold isTw; rw [decide_eq_true en]; rfl
        refine ⟨_, rfl, _, rfl, a, _, dx, [], rfl, h1, cC, nW, (by decide), _, rfl, _, rfl, a, _, dx, _, rfl, upd_same, cC, nT, (by show 1 < 1000; decide), ?_⟩
        have e := q1 ew et H (Same.refl H)
        rw [upd_upd]
        exact e
      · rw [decide_eq_false en]
        refine iteT ?_
        refine ⟨_, rfl, t, rfl, ht, lt, fun e H' s' => ?_, fun e H' s' => ?_⟩
        · have et : isTw t = true := by unfold isTw; rw [e, Bool.or_true]
          refine ⟨_, rfl, _, rfl, a, _, dx, [], rfl, s' _ _ h1, cC, nW, (by decide), _, rfl, _, rfl, a, _, dx, _, rfl, upd_same, cC, nT, (by show 1 < 1000; decide), ?_⟩
          have e := q1 ew et H' s'
          rw [upd_upd]
          exact e
        · have et : isTw t = false := by unfold isTw; rw [e, decide_eq_false en]; rfl
          exact q3 ew et H' s'
    | false =>
      refine iteT ?_
      have ew : isWh v = false := by unfold isWh; rw [e3, decide_eq_false e1, decide_eq_false e2]; rfl
      exact q2 ew
abbrev s_MxI : Stmt := inClass (top 19) 0
theorem sc_MxI : FnScope ["self", "terms"] ["self", "terms"] (defScope s_MxI) := ⟨rfl, rfl, rfl, by decide +kernel, rfl, by decide +kernel, by decide +kernel⟩
theorem ok_MxI {f : Addr} {fd : FuncData} (F : Fun K "__init__" "Mixed.__init__" s_MxI f fd) (T0 : Bl mg) (T : Cn mg) (k : Kls K mg) (X_NoTerm : Exk K mg "NoTerm") (n j : Nat) (D1 : Disp P w K mg base j "rules" (n + 1) RRules) (D2 : Disp P w K mg base j "deep" (n + 1) RDeep) : FnOk P w K mg base (L2.CX P w) (j + 1) f fd ["self", "terms"] (spInitMx mg n) := by
  refine F.okX sc_MxI (fun vs H Q E h => ?_) (fun cdv A outer s H vs Q E hr h => ?_)
  · obtain ⟨a, dx, p, g, xs, ts, rfl, _⟩ := h
    rfl
  · obtain ⟨a, dx, p, g, xs, ts, rfl, h1, h2, h3, oks, l1, q1, q2⟩ := h
    obtain ⟨t1, h_MOST_RULES⟩ := T.c_R
    obtain ⟨t2, h_MOST_DEEP⟩ := T.c_D
    have T := T0
    have hr : Room j (A.deeper _) := hr
    refine ⟨_, (pss_cons (ps_fld (pv 0) (pe_callTy call_tuple_of (by rfl) T.z_tuple (by decide +kernel) (pa_cons (pv 1) pa_nil)) rfl)
      (pss_cons (ps_if (pt_not (pt_chain op_le op_le pe_int (pe_callB call_len_seq (by rfl) T.z_len (by decide +kernel) (pa_cons (pe_fld (pv 0) rfl) pa_nil)) pe_int)) (pss_one (ps_raise rfl (takes_of rfl rfl rfl rfl) (pmk_x X_NoTerm))) pss_nil)
      (pss_one (ps_if (PW.pt (pw_or (pt_cmpR op_gt (pe_methD (P := P) (w := w) (K := K) (mg := mg) (base := base) (j := (j)) (pv 0) (hr.mono (by omega))) (pe_glob (v := .int 60) rfl h_MOST_RULES ⟨_, rfl⟩) (nomark _)) (pw_or1 (pt_cmpR op_gt (pe_methD (P := P) (w := w) (K := K) (mg := mg) (base := base) (j := (j)) (pv 0) (hr.mono (by omega))) (pe_glob (v := .int 8) rfl h_MOST_DEEP ⟨_, rfl⟩) (nomark _))))) (pss_one (ps_raise rfl (takes_of rfl rfl rfl rfl) (pmk_x X_NoTerm))) pss_nil)))), ?_⟩
    have cC := k.cls (.mx g [])
    have nT := k.no (.mx g []) "terms" (by simp)
    have lx := h3.length
    refine ⟨_, rfl, p, xs, rfl, .inl ⟨SqL.of h2, fun u hu => ?_⟩⟩
    have nau : a ≠ u := ne_of_none h1 hu
    refine ⟨_, rfl, a, _, dx, [], rfl, by rw [upd_ne nau]; exact h1, cC, nT, (by decide), ?_⟩
    have fr : ∀ b o, H b = some o → b ≠ a → (upd (upd H u (.tup xs)) a (.ins (exA mg (kd (.mx g []))) dx [("terms", .ref u)])) b = some o := fun b o e nb => by
      rw [upd_ne nb, upd_ne (ne_of_none e hu)]
      exact e
    have hu2 : (upd (upd H u (.tup xs)) a (.ins (exA mg (kd (.mx g []))) dx [("terms", .ref u)])) u = some (.tup xs) := by rw [upd_ne nau.symm]; exact upd_same
    have ha2 : (upd (upd H u (.tup xs)) a (.ins (exA mg (kd (.mx g []))) dx [("terms", .ref u)])) a = some (.ins (exA mg (kd (.mx g []))) dx [("terms", .ref u)]) := upd_same
    have h32 := ObAll.to (TO.init h1 fr) ts h3
    rw [show putF ("terms" : Str) (V.ref u) [] = [(("terms" : Str), V.ref u)] from rfl]
    generalize upd (upd H u (.tup xs)) a (.ins (exA mg (kd (.mx g []))) dx [("terms", .ref u)]) = H2 at fr hu2 ha2 h32
    refine ⟨_, rfl, _, _, _, _, _, rfl, ha2, cC, nT, rfl, u, xs, rfl, .inr (SqT.of hu2), _, _, rfl, rfl, _, rfl, ?_⟩
    have bad : isMx ts = false → E (.ref (exA mg "NoTerm")) none H2 := fun e => q2 e H2 fr
    by_cases l2 : (2 : Int) ≤ (xs.length : Int)
    · rw [decide_eq_true l2]
      refine iteT ?_
      refine ⟨_, _, rfl, rfl, _, rfl, ?_⟩
      by_cases l8 : (xs.length : Int) ≤ 8
      · rw [decide_eq_true l8]
        refine iteF ?_
        have ok : okT (n + 1) (.mx g ts) := okT.mk_mx oks (by omega) (by omega) l1
        have ob : ObAt mg H2 (.ref a) (.mx g ts) := by unfold ObAt; exact ⟨a, dx, u, xs, rfl, ha2, hu2, h32⟩
        refine ⟨_, rfl, D1.go ob ok (by decide +kernel) ?_⟩
        rintro v H3 s3 rfl
        refine ⟨_, _, rfl, rfl, _, rfl, ?_⟩
        by_cases r60 : (rulesT (.mx g ts) : Int) > 60
        · rw [decide_eq_true r60]
          refine iteT (q2 ?_ H3 fun b o e nb => s3 _ _ (fr b o e nb))
          simp only [rulesT] at r60
          unfold isMx
          rw [decide_eq_false (show ¬ 1 + rulesL ts ≤ 60 by omega), Bool.and_false]
          rfl
        · rw [decide_eq_false r60]
          refine iteF ?_
          refine ⟨_, rfl, D2.go (ObAt.to (TO.same s3) _ ob) ok (by decide +kernel) ?_⟩
          rintro v H4 s4 rfl
          have fr4 : ∀ b o, H b = some o → b ≠ a → H4 b = some o := fun b o e nb => s4 _ _ (s3 _ _ (fr b o e nb))
          refine ⟨_, _, rfl, rfl, _, rfl, ?_⟩
          simp only [rulesT] at r60
          by_cases d8 : (deepT (.mx g ts) : Int) > 8
          · rw [decide_eq_true d8]
            refine iteT (q2 ?_ H4 fr4)
            simp only [deepT] at d8
            unfold isMx
            rw [decide_eq_false (show ¬ 1 + deepL ts ≤ 8 by omega), Bool.and_false]
          · rw [decide_eq_false d8]
            refine iteF ?_
            simp only [deepT] at d8
            refine q1 ?_ H4 u fr4 hu (s4 _ _ (s3 _ _ hu2)) (s4 _ _ (s3 _ _ ha2))
            unfold isMx
            rw [decide_eq_true (show 2 ≤ ts.length by omega), decide_eq_true (show ts.length ≤ 8 by omega), decide_eq_true (show 1 + rulesL ts ≤ 60 by omega), decide_eq_true (show 1 + deepL ts ≤ 8 by omega)]
            rfl
      · rw [decide_eq_false l8]
        refine iteT (bad ?_)
        unfold isMx
        rw [decide_eq_false (show ¬ ts.length ≤ 8 by omega), Bool.and_false]
        rfl
    · rw [decide_eq_false l2]
      refine iteF ?_
      refine ⟨_, rfl, ?_⟩
      refine iteT (bad ?_)
      unfold isMx
      rw [decide_eq_false (show ¬ 2 ≤ ts.length by omega)]
      rfl
end
end LW

namespace LW
open PySem PySem.Spec PyProof.Rows L2 CC
section
variable {P : Program} {w : World} {K : PySem.W.Frag} {mg : Str → Option Value} {base : Heap}
abbrev s_term_of : Stmt := top 22
theorem sc_term_of : FnScope ["told", "terms", "part"] ["told"] (defScope s_term_of) := ⟨rfl, rfl, rfl, by decide +kernel, rfl, by decide +kernel, by decide +kernel⟩
theorem ok_term_of {f : Addr} {fd : FuncData} (F : Fun K "term_of" "term_of" s_term_of f fd) (gT : mg "term_of" = some (.ref f)) (bT : Binds K fd ["told"] []) (T : Bl mg) (c_Level : Mkal P w K mg base (L2.CX P w) 3 (exA mg "Level") "Level" ["self", "level"] (spInitLv mg) []) (c_Called : Mkal P w K mg base (L2.CX P w) 3 (exA mg "Called") "Called" ["self", "when", "town"] (spInitCl mg) [])
    (c_Least : Mkal P w K mg base (L2.CX P w) 11 (exA mg "Least") "Least" ["self", "terms"] (spInitMx mg 8) []) (c_Greatest : Mkal P w K mg base (L2.CX P w) 11 (exA mg "Greatest") "Greatest" ["self", "terms"] (spInitMx mg 8) []) :
    ∀ n : Nat, n ≤ 8 → FnOk P w K mg base CX0 (13 + n) f fd ["told"] (spTermOf mg n)
  | 0, _ => fnOk_false fun vs H Q E h => by
    obtain ⟨a, t, _, _, ok, _⟩ := h
    have := ok.d
    have := deepT_pos t
    omega
  | n + 1, hn8 => by
    have IH := ok_term_of F gT bT T c_Level c_Called c_Least c_Greatest n (by omega)
    have c_term_of : Cal P w K mg base CX0 (13 + n) "term_of" ["told"] (spTermOf mg n) [] := ⟨f, fd, [], IH, gT, F.kp, bT, .nil⟩
    refine F.ok sc_term_of (fun vs H Q E h => ?_) (fun cdv A outer s H vs Q E hr h => ?_)
    · obtain ⟨a, t, rfl, _⟩ := h
      rfl
    · obtain ⟨a, t, rfl, ht, ok, r60, d8, q⟩ := h
      obtain ⟨f_Greatest, fd_Greatest, ds_Greatest, F_Greatest, M_Greatest, g_Greatest, b_Greatest, v_Greatest⟩ := c_Greatest.ex
      obtain ⟨f_Least, fd_Least, ds_Least, F_Least, M_Least, g_Least, b_Least, v_Least⟩ := c_Least.ex
      obtain ⟨f_term_of, fd_term_of, ds_term_of, F_term_of, g_term_of, k_term_of, b_term_of, v_term_of⟩ := c_term_of.ex
      obtain ⟨f_Called, fd_Called, ds_Called, F_Called, M_Called, g_Called, b_Called, v_Called⟩ := c_Called.ex
      obtain ⟨f_Level, fd_Level, ds_Level, F_Level, M_Level, g_Level, b_Level, v_Level⟩ := c_Level.ex
      have hr : Room (13 + n) (A.deeper _) := hr
      refine ⟨_, (pss_cons (ps_if (pt_cmpR op_eq (pe_ix ix_tup (pv 0) pe_int (fun _ _ => rfl)) pe_str (nomark _)) (pss_one (ps_ret (pe_make M_Level F_Level (hr.mono (by omega)) rfl g_Level b_Level v_Level passF (pa_cons (pe_ix ix_tup (pv 0) pe_int (fun _ _ => rfl)) pa_nil)))) pss_nil)
      (pss_cons (ps_if (pt_cmpR op_eq (pe_ix ix_tup (pv 0) pe_int (fun _ _ => rfl)) pe_str (nomark _)) (pss_one (ps_ret (pe_make M_Called F_Called (hr.mono (by omega)) rfl g_Called b_Called v_Called passF (pa_cons (pe_ix ix_tup (pv 0) pe_int (fun _ _ => rfl)) (pa_cons (pe_ix ix_tup (pv 0) pe_int (fun _ _ => rfl)) pa_nil))))) pss_nil)
      (pss_cons (ps_setLc (i := 1) (own := [("part", 2)]) (g := gName 2) (tt := tYes) rfl sc_term_of.nd rfl rfl (sw_true rfl rfl rfl (by decide +kernel)) (pi_tup (pe_slice sl_tup (pv 0) (po_some pe_int) po_none)) (blkOk_by (N := ["told", "terms", "part"]) (sc := defScope s_term_of) (by decide +kernel)) (fun _ _ _ _ _ => (pg_name (i := 2) sc_term_of.nd rfl (Or.inl rfl))) (fun _ _ _ _ _ => pts_nil) (fun _ _ _ _ _ => (pe_call F_term_of (hr.mono (by omega)) rfl g_term_of k_term_of b_term_of v_term_of pass0 (pa_cons (pv 2) pa_nil))))
      (pss_cons (ps_if (pt_cmpR op_eq (pe_ix ix_tup (pv 0) pe_int (fun _ _ => rfl)) pe_str (nomark _)) (pss_one (ps_ret (pe_make M_Least F_Least (hr.mono (by omega)) rfl g_Least b_Least v_Least passF (pa_cons (pv 1) pa_nil)))) pss_nil)
      (pss_one (ps_ret (pe_make M_Greatest F_Greatest (hr.mono (by omega)) rfl g_Greatest b_Greatest v_Greatest passF (pa_cons (pv 1) pa_nil)))))))), ?_⟩
      cases t with
      | lv v =>
        unfold TldAt at ht
        obtain ⟨a', e, h1⟩ := ht
        cases e
        have hl := ok.l
        unfold AllLf at hl
        refine ⟨_, rfl, a, _, _, _, rfl, rfl, SqT.of h1, rfl, rfl, _, rfl, ?_⟩
        refine iteT ?_
        refine ⟨_, rfl, a, _, _, _, rfl, rfl, SqT.of h1, rfl, fun x dx hx hd ne => ?_⟩
        exact mkLv hx hd hl fun H' s' o => ⟨rfl, q x H' s' o⟩
      | cl wh u =>
        unfold TldAt at ht
        obtain ⟨a', e, h1⟩ := ht
        cases e
        have hl := ok.l
        unfold AllLf at hl
        refine ⟨_, rfl, a, _, _, _, rfl, rfl, SqT.of h1, rfl, rfl, _, rfl, ?_⟩
        refine iteF ?_
        refine ⟨_, rfl, a, _, _, _, rfl, rfl, SqT.of h1, rfl, rfl, _, rfl, ?_⟩
        refine iteT ?_
        refine ⟨_, rfl, a, _, _, _, rfl, rfl, SqT.of h1, rfl, _, rfl, a, _, _, _, rfl, rfl, SqT.of h1, rfl, fun x dx hx hd ne => ?_⟩
        exact mkCl hx hd hl.1 hl.2 fun H' s' o => ⟨rfl, q x H' s' o⟩
      | mx g ts =>
        obtain ⟨oks, l2, l8, r999, dn⟩ := ok.sub
        have im := isMx_ok ok r60 d8
        simp only [rulesT] at r60
        simp only [deepT] at d8
        unfold TldAt at ht
        obtain ⟨a', vs, e, h1, h3⟩ := ht
        cases e
        have lv := h3.length
        have w1 : decide (V.str (wd g) = V.str "level") = false := decide_eq_false (wd_ne g).1
        have w2 : decide (V.str (wd g) = V.str "called") = false := decide_eq_false (wd_ne g).2
        refine ⟨_, rfl, a, _, _, .str (wd g), rfl, rfl, SqT.of h1, atI_nat (j := 0) rfl, rfl, _, rfl, ?_⟩
        rw [w1]
        refine iteF ?_
        refine ⟨_, rfl, a, _, _, .str (wd g), rfl, rfl, SqT.of h1, atI_nat (j := 0) rfl, rfl, _, rfl, ?_⟩
        rw [w2]
        refine iteF ?_
        refine ⟨_, rfl, _, rfl, a, _, rfl, SqT.of h1, (by intro e; have e1 := e.1; simp [HT.sIx] at e1), fun p2 hp2 => ?_⟩
        rw [show cutV (.str (wd g) :: vs) (some 1) none = vs from cut_from (.str (wd g) :: vs) 1 (by simp)]
        have s2 : Same H (upd H p2 (.tup vs)) := Same.new hp2
        refine ⟨p2, rfl, ⟨vs, SqT.of upd_same⟩, fun D1 hD1 => lc_it walk_tup (fun i H2 => ∃ os : List V, Same (upd H p2 (.tup vs)) H2 ∧ H2 D1 = some (.lst os) ∧ ObAll mg H2 os (ts.take i))
          ⟨[], Same.new hD1, upd_same, .nil⟩ (fun i H2 _ h => SqT.of (h.choose_spec.1 _ _ upd_same)) ?_ ?_⟩
        · rintro i x H2 H2' hi ⟨os, s2', d2, ob⟩ ⟨rfl, hx⟩
          obtain ⟨t, et, tt⟩ := h3.get hx
          refine ⟨rfl, ?_⟩
          obtain ⟨b, rfl⟩ := tt.ref
          have tt2 := TldAt.tk (fun _ _ e => s2' _ _ (s2 _ _ e)) t tt
          have hm := List.mem_of_getElem? et
          have r1 := rulesT_le hm
          have d1 := deepT_le hm
          refine ⟨_, rfl, b, t, rfl, tt2, oks t hm, by omega, by omega, fun b3 H3 s3 o3 => ?_⟩
          have d3 := s3 _ _ d2
          have lo := ob.length
          rw [List.length_take] at lo
          refine ⟨_, d3, small1000 (by omega), os ++ [.ref b3], fun c o e => ?_, upd_same, ?_⟩
          · rw [upd_ne (ne_of_none e hD1)]
            exact s3 _ _ (s2' _ _ e)
          · rw [List.take_add_one, et]
            have tk := TO.lst (o := .lst (os ++ [.ref b3])) d3
            exact ObAll.app (ObAll.to ((TO.same s3).trans tk) _ ob) (ObAll.one (ObAt.to tk t o3))
        · rintro H2 ⟨os, s2', d2, ob⟩
          rw [lv, List.take_length] at ob
          have sH : Same H H2 := fun b o e => s2' _ _ (s2 _ _ e)
          have ha2 := sH _ _ h1
          refine ⟨_, rfl, a, _, _, .str (wd g), rfl, rfl, SqT.of ha2, atI_nat (j := 0) rfl, rfl, _, rfl, ?_⟩
          have ok8 : ∀ t ∈ ts, okT 8 t := fun t ht => ⟨by have := deepT_le ht; omega, (oks t ht).r, (oks t ht).s, (oks t ht).l⟩
          cases g with
          | false =>
            refine iteT ?_
            refine ⟨_, rfl, fun x dx hx hd ne => ?_⟩
            exact mkMx (n := 8) (g := false) hx hd d2 ob ok8 r999 im fun H' s' o => ⟨rfl, q x H' (fun b u e => s' _ _ (sH _ _ e)) o⟩
          | true =>
            refine iteF ?_
            refine ⟨_, rfl, fun x dx hx hd ne => ?_⟩
            exact mkMx (n := 8) (g := true) hx hd d2 ob ok8 r999 im fun H' s' o => ⟨rfl, q x H' (fun b u e => s' _ _ (sH _ _ e)) o⟩

end
end LW

namespace LW
open PySem PySem.Spec PyProof.Rows L2 CC
section
variable {P : Program} {w : World} {K : PySem.W.Frag} {mg : Str → Option Value} {base : Heap}
abbrev s_build : Stmt := top 43
theorem sc_build : FnScope ["_law_told_here", "_law_parts", "_law_part", "_law_term"] ["_law_told_here"] (defScope s_build) := ⟨rfl, rfl, rfl, by decide +kernel, rfl, by decide +kernel, by decide +kernel⟩
theorem ok_build {f : Addr} {fd : FuncData} (F : Fun K "_law_build" "_law_build" s_build f fd) (gT : mg "_law_build" = some (.ref f)) (bT : Binds K fd ["_law_told_here"] []) (T : Bl mg) (c_Level : Mkal P w K mg base (L2.CX P w) 3 (exA mg "Level") "Level" ["self", "level"] (spInitLv mg) []) (c_Called : Mkal P w K mg base (L2.CX P w) 3 (exA mg "Called") "Called" ["self", "when", "town"] (spInitCl mg) [])
    (c_Least : Mkal P w K mg base (L2.CX P w) 11 (exA mg "Least") "Least" ["self", "terms"] (spInitMx mg 8) []) (c_Greatest : Mkal P w K mg base (L2.CX P w) 11 (exA mg "Greatest") "Greatest" ["self", "terms"] (spInitMx mg 8) []) :
    ∀ n : Nat, n ≤ 8 → FnOk P w K mg base CX0 (13 + n) f fd ["_law_told_here"] (spTermOf mg n)
  | 0, _ => fnOk_false fun vs H Q E h => by
    obtain ⟨a, t, _, _, ok, _⟩ := h
    have := ok.d
    have := deepT_pos t
    omega
  | n + 1, hn8 => by
    have IH := ok_build F gT bT T c_Level c_Called c_Least c_Greatest n (by omega)
    have c_build : Cal P w K mg base CX0 (13 + n) "_law_build" ["_law_told_here"] (spTermOf mg n) [] := ⟨f, fd, [], IH, gT, F.kp, bT, .nil⟩
    refine F.ok sc_build (fun vs H Q E h => ?_) (fun cdv A outer s H vs Q E hr h => ?_)
    · obtain ⟨a, t, rfl, _⟩ := h
      rfl
    · obtain ⟨a, t, rfl, ht, ok, r60, d8, q⟩ := h
      obtain ⟨f_Least, fd_Least, ds_Least, F_Least, M_Least, g_Least, b_Least, v_Least⟩ := c_Least.ex
      obtain ⟨f_Greatest, fd_Greatest, ds_Greatest, F_Greatest, M_Greatest, g_Greatest, b_Greatest, v_Greatest⟩ := c_Greatest.ex
      obtain ⟨f_build, fd_build, ds_build, F_build, g_build, k_build, b_build, v_build⟩ := c_build.ex
      obtain ⟨f_Called, fd_Called, ds_Called, F_Called, M_Called, g_Called, b_Called, v_Called⟩ := c_Called.ex
      obtain ⟨f_Level, fd_Level, ds_Level, F_Level, M_Level, g_Level, b_Level, v_Level⟩ := c_Level.ex
      have hr : Room (13 + n) (A.deeper _) := hr
      refine ⟨_, (pss_cons (ps_if (pt_cmpR op_eq (pe_ix ix_tup (pv 0) pe_int (fun _ _ => rfl)) pe_str (nomark _)) (pss_one (ps_ret (pe_make M_Level F_Level (hr.mono (by omega)) rfl g_Level b_Level v_Level passF (pa_cons (pe_ix ix_tup (pv 0) pe_int (fun _ _ => rfl)) pa_nil)))) pss_nil)
      (pss_cons (ps_if (pt_cmpR op_eq (pe_ix ix_tup (pv 0) pe_int (fun _ _ => rfl)) pe_str (nomark _)) (pss_one (ps_ret (pe_make M_Called F_Called (hr.mono (by omega)) rfl g_Called b_Called v_Called passF (pa_cons (pe_ix ix_tup (pv 0) pe_int (fun _ _ => rfl)) (pa_cons (pe_ix ix_tup (pv 0) pe_int (fun _ _ => rfl)) pa_nil))))) pss_nil)
      (pss_cons (ps_setLc (i := 1) (own := [("_law_part", 2)]) (g := gName 2) (tt := tYes) rfl sc_build.nd rfl rfl (sw_true rfl rfl rfl (by decide +kernel)) (pi_tup (pe_slice sl_tup (pv 0) (po_some pe_int) po_none)) (blkOk_by (N := ["_law_told_here", "_law_parts", "_law_part", "_law_term"]) (sc := defScope s_build) (by decide +kernel)) (fun _ _ _ _ _ => (pg_name (i := 2) sc_build.nd rfl (Or.inl rfl))) (fun _ _ _ _ _ => pts_nil) (fun _ _ _ _ _ => (pe_call F_build (hr.mono (by omega)) rfl g_build k_build b_build v_build pass0 (pa_cons (pv 2) pa_nil))))
      (pss_cons (ps_if (pt_cmpR op_eq (pe_ix ix_tup (pv 0) pe_int (fun _ _ => rfl)) pe_str (nomark _)) (pss_one (ps_set (i := 3) sc_build.nd rfl (Or.inl rfl) (pe_make M_Least F_Least (hr.mono (by omega)) rfl g_Least b_Least v_Least passF (pa_cons (pv 1) pa_nil)))) (pss_one (ps_set (i := 3) sc_build.nd rfl (Or.inl rfl) (pe_make M_Greatest F_Greatest (hr.mono (by omega)) rfl g_Greatest b_Greatest v_Greatest passF (pa_cons (pv 1) pa_nil)))))
      (pss_cons (ps_if (pt_cmpR op_ne (pe_callB call_len_seq (by rfl) T.z_len (by decide +kernel) (pa_cons (pv 1) pa_nil)) (pe_op op_sub (pe_callB call_len_seq (by rfl) T.z_len (by decide +kernel) (pa_cons (pv 0) pa_nil)) pe_int) (nomark _)) (pss_one (ps_ret pe_non)) pss_nil)
      (pss_cons (ps_expr (pe_bm0 PySem.F.plainAttrs_list PySem.F.slot_list_clear PySem.F.type_list_clear mt_clear (pv 1)))
      (pss_one (ps_ret (pv 3))))))))), ?_⟩
      cases t with
      | lv v =>
        unfold TldAt at ht
        obtain ⟨a', e, h1⟩ := ht
        cases e
        have hl := ok.l
        unfold AllLf at hl
        refine ⟨_, rfl, a, _, _, _, rfl, rfl, SqT.of h1, rfl, rfl, _, rfl, ?_⟩
        refine iteT ?_
        refine ⟨_, rfl, a, _, _, _, rfl, rfl, SqT.of h1, rfl, fun x dx hx hd ne => ?_⟩
        exact mkLv hx hd hl fun H' s' o => ⟨rfl, q x H' s' o⟩
      | cl wh u =>
        unfold TldAt at ht
        obtain ⟨a', e, h1⟩ := ht
        cases e
        have hl := ok.l
        unfold AllLf at hl
        refine ⟨_, rfl, a, _, _, _, rfl, rfl, SqT.of h1, rfl, rfl, _, rfl, ?_⟩
        refine iteF ?_
        refine ⟨_, rfl, a, _, _, _, rfl, rfl, SqT.of h1, rfl, rfl, _, rfl, ?_⟩
        refine iteT ?_
        refine ⟨_, rfl, a, _, _, _, rfl, rfl, SqT.of h1, rfl, _, rfl, a, _, _, _, rfl, rfl, SqT.of h1, rfl, fun x dx hx hd ne => ?_⟩
        exact mkCl hx hd hl.1 hl.2 fun H' s' o => ⟨rfl, q x H' s' o⟩
      | mx g ts =>
        obtain ⟨oks, l2, l8, r999, dn⟩ := ok.sub
        have im := isMx_ok ok r60 d8
        simp only [rulesT] at r60
        simp only [deepT] at d8
        unfold TldAt at ht
        obtain ⟨a', vs, e, h1, h3⟩ := ht
        cases e
        have lv := h3.length
        have w1 : decide (V.str (wd g) = V.str "level") = false := decide_eq_false (wd_ne g).1
        have w2 : decide (V.str (wd g) = V.str "called") = false := decide_eq_false (wd_ne g).2
        refine ⟨_, rfl, a, _, _, .str (wd g), rfl, rfl, SqT.of h1, atI_nat (j := 0) rfl, rfl, _, rfl, ?_⟩
        rw [w1]
        refine iteF ?_
        refine ⟨_, rfl, a, _, _, .str (wd g), rfl, rfl, SqT.of h1, atI_nat (j := 0) rfl, rfl, _, rfl, ?_⟩
        rw [w2]
        refine iteF ?_
        refine ⟨_, rfl, _, rfl, a, _, rfl, SqT.of h1, (by intro e; have e1 := e.1; simp [HT.sIx] at e1), fun p2 hp2 => ?_⟩
        rw [show cutV (.str (wd g) :: vs) (some 1) none = vs from cut_from (.str (wd g) :: vs) 1 (by simp)]
        have s2 : Same H (upd H p2 (.tup vs)) := Same.new hp2
        refine ⟨p2, rfl, ⟨vs, SqT.of upd_same⟩, fun D1 hD1 => lc_it walk_tup (fun i H2 => ∃ os : List V, Same (upd H p2 (.tup vs)) H2 ∧ H2 D1 = some (.lst os) ∧ ObAll mg H2 os (ts.take i))
          ⟨[], Same.new hD1, upd_same, .nil⟩ (fun i H2 _ h => SqT.of (h.choose_spec.1 _ _ upd_same)) ?_ ?_⟩
        · rintro i x H2 H2' hi ⟨os, s2', d2, ob⟩ ⟨rfl, hx⟩
          obtain ⟨t, et, tt⟩ := h3.get hx
          refine ⟨rfl, ?_⟩
          obtain ⟨b, rfl⟩ := tt.ref
          have tt2 := TldAt.tk (fun _ _ e => s2' _ _ (s2 _ _ e)) t tt
          have hm := List.mem_of_getElem? et
          have r1 := rulesT_le hm
          have d1 := deepT_le hm
          refine ⟨_, rfl, b, t, rfl, tt2, oks t hm, by omega, by omega, fun b3 H3 s3 o3 => ?_⟩
          have d3 := s3 _ _ d2
          have lo := ob.length
          rw [List.length_take] at lo
          refine ⟨_, d3, small1000 (by omega), os ++ [.ref b3], fun c o e => ?_, upd_same, ?_⟩
          · rw [upd_ne (ne_of_none e hD1)]
            exact s3 _ _ (s2' _ _ e)
          · rw [List.take_add_one, et]
            have tk := TO.lst (o := .lst (os ++ [.ref b3])) d3
            exact ObAll.app (ObAll.to ((TO.same s3).trans tk) _ ob) (ObAll.one (ObAt.to tk t o3))
        · rintro H2 ⟨os, s2', d2, ob⟩
          rw [lv, List.take_length] at ob
          have sH : Same H H2 := fun b o e => s2' _ _ (s2 _ _ e)
          have ha2 := sH _ _ h1
          refine ⟨_, rfl, a, _, _, .str (wd g), rfl, rfl, SqT.of ha2, atI_nat (j := 0) rfl, rfl, _, rfl, ?_⟩
          have ok8 : ∀ t ∈ ts, okT 8 t := fun t ht => ⟨by have := deepT_le ht; omega, (oks t ht).r, (oks t ht).s, (oks t ht).l⟩
          cases g with
          | false =>
            refine iteT ?_
            refine ⟨_, rfl, fun x dx hx hd ne => ?_⟩
            refine mkMx (n := 8) (g := false) hx hd d2 ob ok8 r999 im fun H3 s3 o3 => ⟨rfl, ?_⟩
            obtain ⟨gg, hg⟩ : ∃ gg, gg = false := ⟨_, rfl⟩
            rw [← hg] at ha2
            have sx : Same H2 H3 := fun b u e => s3 _ _ e
            have d3 := s3 _ _ d2
            have ha3 := s3 _ _ ha2
            have sH3 : Same H H3 := fun b u e => s3 _ _ (sH _ _ e)
            have lo := ob.length
            refine ⟨_, rfl, D1, _, rfl, .inl (SqL.of d3), _, rfl, a, _, rfl, .inr (SqT.of ha3), _, _, rfl, rfl, rfl, _, rfl, ?_⟩
            have e : decide (V.int (os.length : Int) = V.int (((V.str (wd gg) :: vs).length : Int) - 1)) = true := decide_eq_true (congrArg V.int (by rw [List.length_cons]; omega))
            rw [e]
            refine iteF ?_
            refine ⟨_, rfl, .inl ⟨rfl, _, SqL.of d3⟩, D1, _, rfl, rfl, d3, ?_⟩
            refine ⟨_, rfl, ?_⟩
            refine q x _ (fun b u e => ?_) (ObAt.to (TO.lst d3) _ o3)
            rw [upd_ne (ne_of_none (s2 _ _ e) hD1)]
            exact sH3 _ _ e
          | true =>
            refine iteF ?_
            refine ⟨_, rfl, fun x dx hx hd ne => ?_⟩
            refine mkMx (n := 8) (g := true) hx hd d2 ob ok8 r999 im fun H3 s3 o3 => ⟨rfl, ?_⟩
            obtain ⟨gg, hg⟩ : ∃ gg, gg = true := ⟨_, rfl⟩
            rw [← hg] at ha2
            have sx : Same H2 H3 := fun b u e => s3 _ _ e
            have d3 := s3 _ _ d2
            have ha3 := s3 _ _ ha2
            have sH3 : Same H H3 := fun b u e => s3 _ _ (sH _ _ e)
            have lo := ob.length
            refine ⟨_, rfl, D1, _, rfl, .inl (SqL.of d3), _, rfl, a, _, rfl, .inr (SqT.of ha3), _, _, rfl, rfl, rfl, _, rfl, ?_⟩
            have e : decide (V.int (os.length : Int) = V.int (((V.str (wd gg) :: vs).length : Int) - 1)) = true := decide_eq_true (congrArg V.int (by rw [List.length_cons]; omega))
            rw [e]
            refine iteF ?_
            refine ⟨_, rfl, .inl ⟨rfl, _, SqL.of d3⟩, D1, _, rfl, rfl, d3, ?_⟩
            refine ⟨_, rfl, ?_⟩
            refine q x _ (fun b u e => ?_) (ObAt.to (TO.lst d3) _ o3)
            rw [upd_ne (ne_of_none (s2 _ _ e) hD1)]
            exact sH3 _ _ e
end
end LW

namespace LW
open PySem PySem.Spec PyProof.Rows L2 CC
section
variable {P : Program} {w : World} {K : PySem.W.Frag} {mg : Str → Option Value} {base : Heap}
abbrev s_alike : Stmt := top 42
theorem sc_alike : FnScope ["_law_found", "_law_due", "_law_k"] ["_law_found", "_law_due"] (defScope s_alike) := ⟨rfl, rfl, rfl, by decide +kernel, rfl, by decide +kernel, by decide +kernel⟩
theorem ok_alike {f : Addr} {fd : FuncData} (F : Fun K "_law_alike" "_law_alike" s_alike f fd) (gT : mg "_law_alike" = some (.ref f)) (bT : Binds K fd ["_law_found", "_law_due"] []) (T : Bl mg) : FnOk P w K mg base CX0 1 f fd ["_law_found", "_law_due"] spAlikeF := by
  have c_alike : Cal P w K mg base CX0 0 "_law_alike" ["_law_found", "_law_due"] (fun _ _ _ _ => False) [] := ⟨f, fd, [], fnOk_false fun _ _ _ _ h => h, gT, F.kp, bT, .nil⟩
  refine F.ok sc_alike (fun vs H Q E h => ?_) (fun cdv A outer s H vs Q E hr h => ?_)
  · obtain ⟨x, y, rfl, _⟩ := h
    rfl
  · obtain ⟨x, y, rfl, fx, fy, by_, q⟩ := h
    obtain ⟨f_alike, fd_alike, ds_alike, F_alike, g_alike, k_alike, b_alike, v_alike⟩ := c_alike.ex
    have hr : Room 0 (A.deeper _) := hr
    refine ⟨_, (pss_cons (ps_if (pt_cmpR op_isN (pv 1) pe_non (nomark _)) (pss_one (ps_ret (pe_cmpR op_isN (pv 0) pe_non (nomark _)))) pss_nil)
      (pss_cons (ps_if (pt_val (pe_callB call_isi (by rfl) T.z_isinstance (by decide +kernel) (pa_cons (pv 1) (pa_cons (pe_bltn (v := .ty "str") (u := .type "str") (by rfl) T.z_str (by decide +kernel) rfl) pa_nil)))) (pss_one (ps_ret (pe_and (pe_callB call_isi (by rfl) T.z_isinstance (by decide +kernel) (pa_cons (pv 0) (pa_cons (pe_bltn (v := .ty "str") (u := .type "str") (by rfl) T.z_str (by decide +kernel) rfl) pa_nil))) (pe_one (pe_cmpR op_eq (pv 0) (pv 1) (nomark _)))))) pss_nil)
      (pss_cons (ps_if (pt_not (pt_val (pe_callB call_isi (by rfl) T.z_isinstance (by decide +kernel) (pa_cons (pv 1) (pa_cons (pe_bltn (v := .ty "tuple") (u := .type "tuple") (by rfl) T.z_tuple (by decide +kernel) rfl) pa_nil))))) (pss_one (ps_ret (pe_and (pe_callB call_isi (by rfl) T.z_isinstance (by decide +kernel) (pa_cons (pv 0) (pa_cons (pe_bltn (v := .ty "int") (u := .type "int") (by rfl) T.z_int (by decide +kernel) rfl) pa_nil))) (pe_and (pe_not (pe_callB call_isi (by rfl) T.z_isinstance (by decide +kernel) (pa_cons (pv 0) (pa_cons (pe_bltn (v := .ty "bool") (u := .type "bool") (by rfl) T.z_bool (by decide +kernel) rfl) pa_nil)))) (pe_one (pe_cmpR op_eq (pv 0) (pv 1) (nomark _))))))) pss_nil)
      (pss_cons (ps_if (PW.pt (pw_or (pt_not (pt_val (pe_callB call_isi (by rfl) T.z_isinstance (by decide +kernel) (pa_cons (pv 0) (pa_cons (pe_bltn (v := .ty "tuple") (u := .type "tuple") (by rfl) T.z_tuple (by decide +kernel) rfl) pa_nil))))) (pw_or1 (pt_cmpR op_ne (pe_callB call_len_seq (by rfl) T.z_len (by decide +kernel) (pa_cons (pv 0) pa_nil)) (pe_callB call_len_seq (by rfl) T.z_len (by decide +kernel) (pa_cons (pv 1) pa_nil)) (nomark _))))) (pss_one (ps_ret pe_bl)) pss_nil)
      (pss_one (ps_ret (pe_callB (cr_all rfl) (by rfl) T.z_all (by decide +kernel) (pa_cons (pe_lc (own := [("_law_k", 2)]) (g := gName 2) (tt := tYes) rfl sc_alike.nd (pi_range1 (by rfl) T.z_range (pa_cons (pe_callB call_len_seq (by rfl) T.z_len (by decide +kernel) (pa_cons (pv 1) pa_nil)) pa_nil)) (blkOk_by (N := ["_law_found", "_law_due", "_law_k"]) (sc := defScope s_alike) (by decide +kernel)) (fun _ _ _ _ _ => (pg_name (i := 2) sc_alike.nd rfl (Or.inl rfl))) (fun _ _ _ _ _ => pts_nil) (fun _ _ _ _ _ => (pe_call F_alike (hr.mono (by omega)) rfl g_alike k_alike b_alike v_alike pass0 (pa_cons (pe_ix (ixK (K := K) rIxT ix_tup) (pv 0) (pv 2) (fun _ _ => rfl)) (pa_cons (pe_ix (ixK (K := K) rIxT ix_tup) (pv 1) (pv 2) (fun _ _ => rfl)) pa_nil))))) pa_nil)))))))), ?_⟩
    refine ⟨_, rfl, rfl, _, rfl, ?_⟩
    cases y with
    | non =>
      refine iteT ?_
      exact ⟨_, rfl, rfl, q⟩
    | bl b => cases by_
    | int n =>
      refine iteF ?_
      refine ⟨_, rfl, ?_⟩
      obtain ⟨t1, u1, y1, y2, y3⟩ := isi_str (K := K) (H := H) (v := .int n) rfl
      refine ⟨_, _, t1, u1, _, rfl, y1, y2, y3, _, rfl, ?_⟩
      refine iteF ?_
      refine ⟨_, rfl, ?_⟩
      obtain ⟨t2, u2, y1, y2, y3⟩ := isi_tup (K := K) (H := H) (v := .int n) rfl
      refine ⟨_, _, t2, u2, _, rfl, y1, y2, y3, _, rfl, ?_⟩
      refine iteT ?_
      refine ⟨_, rfl, ?_⟩
      obtain ⟨t3, u3, y1, y2, y3⟩ := isi_int (K := K) (H := H) fx
      refine ⟨_, _, t3, u3, _, rfl, y1, y2, y3, _, rfl, ?_⟩
      cases x with
      | int m =>
        refine iteT ?_
        refine ⟨_, rfl, ?_⟩
        obtain ⟨t4, u4, y1, y2, y3⟩ := isi_bool (K := K) (H := H) (v := .int m) rfl
        refine ⟨_, _, t4, u4, _, rfl, y1, y2, y3, _, rfl, _, rfl, ?_⟩
        refine iteT ?_
        exact ⟨_, rfl, _, rfl, rfl, q⟩
      | bl b =>
        refine iteT ?_
        refine ⟨_, rfl, ?_⟩
        obtain ⟨t4, u4, y1, y2, y3⟩ := isi_bool (K := K) (H := H) (v := .bl b) rfl
        refine ⟨_, _, t4, u4, _, rfl, y1, y2, y3, _, rfl, _, rfl, ?_⟩
        exact iteF q
      | non => exact iteF q
      | str s => exact iteF q
      | byt _ => cases fx
      | flt _ => cases fx
      | ref _ => cases fx
      | ty _ => cases fx
    | str z =>
      refine iteF ?_
      refine ⟨_, rfl, ?_⟩
      obtain ⟨t1, u1, y1, y2, y3⟩ := isi_str (K := K) (H := H) (v := .str z) rfl
      refine ⟨_, _, t1, u1, _, rfl, y1, y2, y3, _, rfl, ?_⟩
      refine iteT ?_
      refine ⟨_, rfl, ?_⟩
      obtain ⟨t2, u2, y1, y2, y3⟩ := isi_str (K := K) (H := H) fx
      refine ⟨_, _, t2, u2, _, rfl, y1, y2, y3, _, rfl, ?_⟩
      cases x with
      | str s =>
        refine iteT ?_
        exact ⟨_, rfl, _, rfl, rfl, q⟩
      | int m => exact iteF q
      | bl b => exact iteF q
      | non => exact iteF q
      | byt _ => cases fx
      | flt _ => cases fx
      | ref _ => cases fx
      | ty _ => cases fx
    | byt _ => cases fy
    | flt _ => cases fy
    | ref _ => cases fy
    | ty _ => cases fy
end
end LW

namespace LW
open PySem PySem.Spec PyProof.Rows L2 CC
section
variable {P : Program} {w : World} {K : PySem.W.Frag} {mg : Str → Option Value} {base : Heap}
abbrev s_ltext : Stmt := top 45
theorem sc_ltext : FnScope ["_law_told_here", "_law_text_here", "_law_part"] ["_law_told_here"] (defScope s_ltext) := ⟨rfl, rfl, rfl, by decide +kernel, rfl, by decide +kernel, by decide +kernel⟩
theorem ok_ltext {f : Addr} {fd : FuncData} (F : Fun K "_law_text" "_law_text" s_ltext f fd) (gT : mg "_law_text" = some (.ref f)) (bT : Binds K fd ["_law_told_here"] []) (T : Bl mg) :
    ∀ n : Nat, FnOk P w K mg base CX0 (1 + n) f fd ["_law_told_here"] (spLText n)
  | 0 => fnOk_false fun vs H Q E h => by
    obtain ⟨a, t, _, _, ok, _⟩ := h
    have := ok.d
    have := deepT_pos t
    omega
  | n + 1 => by
    have IH := ok_ltext F gT bT T n
    have c_text : Cal P w K mg base CX0 (1 + n) "_law_text" ["_law_told_here"] (spLText n) [] := ⟨f, fd, [], IH, gT, F.kp, bT, .nil⟩
    refine F.ok sc_ltext (fun vs H Q E h => ?_) (fun cdv A outer s H vs Q E hr h => ?_)
    · obtain ⟨a, t, rfl, _⟩ := h
      rfl
    · obtain ⟨a, t, rfl, ht, ok, q⟩ := h
      obtain ⟨f_text, fd_text, ds_text, F_text, g_text, k_text, b_text, v_text⟩ := c_text.ex
      have hr : Room (1 + n) (A.deeper _) := hr
      refine ⟨_, (pss_cons (ps_if (pt_cmpR op_eq (pe_ix ix_tup (pv 0) pe_int (fun _ _ => rfl)) pe_str (nomark _)) (pss_one (ps_ret (pe_joined (.cons pe_str (.cons (pe_fmt (pe_ix ix_tup (pv 0) pe_int (fun _ _ => rfl))) .nil))))) pss_nil)
      (pss_cons (ps_if (pt_cmpR op_eq (pe_ix ix_tup (pv 0) pe_int (fun _ _ => rfl)) pe_str (nomark _)) (pss_cons (ps_set (i := 1) sc_ltext.nd rfl (Or.inl rfl) (pe_joined (.cons pe_str (.cons (pe_fmt (pe_ix ix_tup (pv 0) pe_int (fun _ _ => rfl))) .nil)))) (pss_cons (ps_if (pt_val (pe_callB call_isi (by rfl) T.z_isinstance (by decide +kernel) (pa_cons (pe_ix ix_tup (pv 0) pe_int (fun _ _ => rfl)) (pa_cons (pe_bltn (v := .ty "str") (u := .type "str") (by rfl) T.z_str (by decide +kernel) rfl) pa_nil)))) (pss_one (ps_set (i := 1) sc_ltext.nd rfl (Or.inl rfl) (pe_ix ix_tup (pv 0) pe_int (fun _ _ => rfl)))) pss_nil) (pss_cons (ps_if (pt_cmpR op_notN (pe_ix ix_tup (pv 0) pe_int (fun _ _ => rfl)) pe_non (nomark _)) (pss_one (ps_set (i := 1) sc_ltext.nd rfl (Or.inl rfl) (pe_op op_add_str (pe_op op_add_str (pv 1) pe_str) (pe_ix ix_tup (pv 0) pe_int (fun _ _ => rfl))))) pss_nil) (pss_one (ps_ret (pv 1)))))) pss_nil)
      (pss_one (ps_ret (pe_op op_add_str (pe_op op_add_str (pe_op op_add_str (pe_ix ix_tup (pv 0) pe_int (fun _ _ => rfl)) pe_str) (pe_join pe_str (pe_lc (own := [("_law_part", 2)]) (g := gName 2) (tt := tYes) rfl sc_ltext.nd (pi_tup (pe_slice sl_tup (pv 0) (po_some pe_int) po_none)) (blkOk_by (N := ["_law_told_here", "_law_text_here", "_law_part"]) (sc := defScope s_ltext) (by decide +kernel)) (fun _ _ _ _ _ => (pg_name (i := 2) sc_ltext.nd rfl (Or.inl rfl))) (fun _ _ _ _ _ => pts_nil) (fun _ _ _ _ _ => (pe_call F_text (hr.mono (by omega)) rfl g_text k_text b_text v_text pass0 (pa_cons (pv 2) pa_nil)))))) pe_str))))), ?_⟩
      have hl := ok.l
      unfold AllLf at hl
      have e0 : (Str.empty ++ ("at " : Str)) = "at " := empty_app _
      have e3 : ("at " : Str).length = 3 := by decide +kernel
      have e0d : (Str.empty ++ ("day " : Str)) = "day " := empty_app _
      have e4 : ("day " : Str).length = 4 := by decide +kernel
      cases t with
      | lv v =>
        unfold TldAt at ht
        obtain ⟨a', e, h1⟩ := ht
        cases e
        obtain ⟨m, rfl, m0, m1⟩ := hl
        have hn := num_len m0 m1
        refine ⟨_, rfl, a, _, _, _, rfl, rfl, SqT.of h1, rfl, rfl, _, rfl, ?_⟩
        refine iteT ?_
        refine ⟨_, rfl, by rw [e0, e3]; decide, _, rfl, a, _, _, _, rfl, rfl, SqT.of h1, rfl, .inr ⟨m, rfl, num_log m0 m1, ?_⟩⟩
        refine ⟨_, rfl, ?_, ?_⟩
        · rw [e0, app_len]
          exact small_tx (k := 10) (by rw [e3]; exact Nat.add_le_add_left hn 3) (by decide)
        · rw [e0]
          have z := q H (Same.refl H)
          unfold txT at z
          exact z
      | cl wh u =>
        unfold TldAt at ht
        obtain ⟨a', e, h1⟩ := ht
        cases e
        obtain ⟨hw, hu⟩ := hl
        have hw : whOk wh := hw
        have hu : twOk u := hu
        have lw := wh_len hw
        have z := q H (Same.refl H)
        unfold txT at z
        refine ⟨_, rfl, a, _, _, _, rfl, rfl, SqT.of h1, rfl, rfl, _, rfl, ?_⟩
        refine iteF ?_
        refine ⟨_, rfl, a, _, _, _, rfl, rfl, SqT.of h1, rfl, rfl, _, rfl, ?_⟩
        refine iteT ?_
        refine ⟨_, rfl, by rw [e0d, e4]; decide, _, rfl, a, _, _, _, rfl, rfl, SqT.of h1, rfl, ?_⟩
        rcases hw with e | e | ⟨m, e, m0, m1⟩ <;> subst e
        · refine .inl ⟨_, rfl, (by decide +kernel), ?_⟩
          refine ⟨_, rfl, (by decide +kernel), ?_⟩
          refine ⟨_, rfl, a, _, _, _, rfl, rfl, SqT.of h1, rfl, ?_⟩
          obtain ⟨t1, u1, y1, y2, y3⟩ := isi_str (K := K) (H := H) (v := .str "made") rfl
          refine ⟨_, _, t1, u1, _, rfl, y1, y2, y3, _, rfl, ?_⟩
          refine iteT ?_
          refine ⟨_, rfl, a, _, _, _, rfl, rfl, SqT.of h1, rfl, ?_⟩
          -- if told[2] is not None
          refine ⟨_, rfl, a, _, _, _, rfl, rfl, SqT.of h1, rfl, rfl, _, rfl, ?_⟩
          rcases hu with e | ⟨x, e, hx⟩ <;> subst e
          · refine iteF ?_
            exact ⟨_, rfl, z⟩
          · refine iteT ?_
            have ei : (" in " : Str).length = 4 := by decide +kernel
            have lx := nm_len hx
            refine ⟨_, rfl, _, _, rfl, rfl, small_tx (k := 15) (by rw [ei]; exact Nat.add_le_add_right lw 4) (by decide), _, rfl, a, _, _, _, rfl, rfl, SqT.of h1, rfl, _, _, rfl, rfl, small_tx (k := 23) (by rw [app_len, ei]; exact Nat.add_le_add (Nat.add_le_add_right lw 4) lx) (by decide), ?_⟩
            exact ⟨_, rfl, z⟩
        · refine .inl ⟨_, rfl, (by decide +kernel), ?_⟩
          refine ⟨_, rfl, (by decide +kernel), ?_⟩
          refine ⟨_, rfl, a, _, _, _, rfl, rfl, SqT.of h1, rfl, ?_⟩
          obtain ⟨t1, u1, y1, y2, y3⟩ := isi_str (K := K) (H := H) (v := .str "paid") rfl
          refine ⟨_, _, t1, u1, _, rfl, y1, y2, y3, _, rfl, ?_⟩
          refine iteT ?_
          refine ⟨_, rfl, a, _, _, _, rfl, rfl, SqT.of h1, rfl, ?_⟩
          -- if told[2] is not None
          refine ⟨_, rfl, a, _, _, _, rfl, rfl, SqT.of h1, rfl, rfl, _, rfl, ?_⟩
          rcases hu with e | ⟨x, e, hx⟩ <;> subst e
          · refine iteF ?_
            exact ⟨_, rfl, z⟩
          · refine iteT ?_
            have ei : (" in " : Str).length = 4 := by decide +kernel
            have lx := nm_len hx
            refine ⟨_, rfl, _, _, rfl, rfl, small_tx (k := 15) (by rw [ei]; exact Nat.add_le_add_right lw 4) (by decide), _, rfl, a, _, _, _, rfl, rfl, SqT.of h1, rfl, _, _, rfl, rfl, small_tx (k := 23) (by rw [app_len, ei]; exact Nat.add_le_add (Nat.add_le_add_right lw 4) lx) (by decide), ?_⟩
            exact ⟨_, rfl, z⟩
        · have hn := num_len m0 (by omega)
          refine .inr ⟨m, rfl, num_log m0 (by omega), ?_⟩
          refine ⟨_, rfl, ?_, ?_⟩
          · rw [e0d, app_len]
            exact small_tx (k := 11) (by rw [e4]; exact Nat.add_le_add_left hn 4) (by decide)
          rw [e0d]
          refine ⟨_, rfl, a, _, _, _, rfl, rfl, SqT.of h1, rfl, ?_⟩
          obtain ⟨t1, u1, y1, y2, y3⟩ := isi_str (K := K) (H := H) (v := .int m) rfl
          refine ⟨_, _, t1, u1, _, rfl, y1, y2, y3, _, rfl, ?_⟩
          refine iteF ?_
          -- if told[2] is not None
          refine ⟨_, rfl, a, _, _, _, rfl, rfl, SqT.of h1, rfl, rfl, _, rfl, ?_⟩
          rcases hu with e | ⟨x, e, hx⟩ <;> subst e
          · refine iteF ?_
            exact ⟨_, rfl, z⟩
          · refine iteT ?_
            have ei : (" in " : Str).length = 4 := by decide +kernel
            have lx := nm_len hx
            refine ⟨_, rfl, _, _, rfl, rfl, small_tx (k := 15) (by rw [ei]; exact Nat.add_le_add_right lw 4) (by decide), _, rfl, a, _, _, _, rfl, rfl, SqT.of h1, rfl, _, _, rfl, rfl, small_tx (k := 23) (by rw [app_len, ei]; exact Nat.add_le_add (Nat.add_le_add_right lw 4) lx) (by decide), ?_⟩
            exact ⟨_, rfl, z⟩
      | mx g ts =>
        obtain ⟨oks, l2, l8, r999, dn⟩ := ok.sub
        have hlen := txs_len hl
        unfold TldAt at ht
        obtain ⟨a', vs, e, h1, h3⟩ := ht
        cases e
        have lv := h3.length
        have lg := wd_len g
        have w1 : decide (V.str (wd g) = V.str "level") = false := decide_eq_false (wd_ne g).1
        have w2 : decide (V.str (wd g) = V.str "called") = false := decide_eq_false (wd_ne g).2
        refine ⟨_, rfl, a, _, _, .str (wd g), rfl, rfl, SqT.of h1, atI_nat (j := 0) rfl, rfl, _, rfl, ?_⟩
        rw [w1]
        refine iteF ?_
        refine ⟨_, rfl, a, _, _, .str (wd g), rfl, rfl, SqT.of h1, atI_nat (j := 0) rfl, rfl, _, rfl, ?_⟩
        rw [w2]
        refine iteF ?_
        have e1 : ("(" : Str).length = 1 := by decide +kernel
        have e2 : (", " : Str).length = 2 := by decide +kernel
        refine ⟨_, rfl, a, _, _, .str (wd g), rfl, rfl, SqT.of h1, atI_nat (j := 0) rfl, _, _, rfl, rfl, small_tx (k := 9) (by rw [e1]; exact Nat.add_le_add_right lg 1) (by decide), ⟨_, rfl⟩, ?_⟩
        refine ⟨_, rfl, _, rfl, a, _, rfl, SqT.of h1, (by intro e; have e1 := e.1; simp [HT.sIx] at e1), fun p2 hp2 => ?_⟩
        rw [show cutV (.str (wd g) :: vs) (some 1) none = vs from cut_from (.str (wd g) :: vs) 1 (by simp)]
        have s2 : Same H (upd H p2 (.tup vs)) := Same.new hp2
        refine ⟨p2, rfl, ⟨vs, SqT.of upd_same⟩, fun D1 hD1 => lc_it walk_tup (fun i H2 => ∃ ns : List Str, Same (upd H p2 (.tup vs)) H2 ∧ H2 D1 = some (.lst (ns.map V.str)) ∧ ns = (ts.take i).map txT)
          ⟨[], Same.new hD1, upd_same, rfl⟩ (fun i H2 _ h => SqT.of (h.choose_spec.1 _ _ upd_same)) ?_ ?_⟩
        · rintro i x H2 H2' hi ⟨ns, s2', d2, en⟩ ⟨rfl, hx⟩
          obtain ⟨t, et, tt⟩ := h3.get hx
          refine ⟨rfl, ?_⟩
          obtain ⟨b, rfl⟩ := tt.ref
          have tt2 := TldAt.tk (fun _ _ e => s2' _ _ (s2 _ _ e)) t tt
          have hm := List.mem_of_getElem? et
          refine ⟨_, rfl, b, t, rfl, tt2, oks t hm, fun H3 s3 => ?_⟩
          have d3 := s3 _ _ d2
          have ln : ns.length = i := by rw [en, List.length_map, List.length_take]; omega
          refine ⟨_, d3, by rw [List.length_map]; exact small1000 (by omega), ns ++ [txT t], fun b o e => ?_, by rw [upd_same, List.map_append]; rfl, ?_⟩
          · rw [upd_ne (ne_of_none e hD1)]
            exact s3 _ _ (s2' _ _ e)
          · rw [List.take_add_one, et, en, List.map_append]
            rfl
        · rintro H2 ⟨ns, s2', d2, en⟩
          rw [lv, List.take_length, ← txL_map] at en
          have jl := join_len ", " (txL ts)
          rw [e2] at jl
          refine ⟨_, D1, ns, rfl, rfl, .inl (SqL.of d2), ?_, ?_⟩
          · rw [e2, en, ← sum_le]
            exact Nat.le_trans hlen (Nat.le_trans (Nat.mul_le_mul_left 25 r999) (by decide))
          · rw [en]
            refine ⟨_, _, rfl, rfl, ?_, _, _, rfl, rfl, ?_, ?_⟩
            · rw [app_len, e1]
              exact small_tx (k := 9 + 25 * 999) (Nat.add_le_add (Nat.add_le_add_right lg 1) (Nat.le_trans jl (Nat.le_trans hlen (Nat.mul_le_mul_left 25 r999)))) (by decide)
            · rw [app_len, app_len, e1]
              exact small_tx (k := 9 + 25 * 999 + 1) (Nat.add_le_add_right (Nat.add_le_add (Nat.add_le_add_right lg 1) (Nat.le_trans jl (Nat.le_trans hlen (Nat.mul_le_mul_left 25 r999)))) 1) (by decide)
            · have z := q H2 fun b o e => s2' _ _ (s2 _ _ e)
              unfold txT at z
              exact z
end
end LW

namespace LW
open PySem PySem.Spec PyProof.Rows L2 CC
section
variable {P : Program} {w : World} {K : PySem.W.Frag} {mg : Str → Option Value} {base : Heap}
abbrev s_same : Stmt := top 44
theorem sc_same : FnScope ["_law_term", "_law_told_here", "_law_sorts", "_law_words_here", "_law_word_here", "_law_part", "_law_known"] ["_law_term", "_law_told_here"] (defScope s_same) := ⟨rfl, rfl, rfl, by decide +kernel, rfl, by decide +kernel, by decide +kernel⟩
theorem ok_same {f : Addr} {fd : FuncData} (F : Fun K "_law_same" "_law_same" s_same f fd) (gT : mg "_law_same" = some (.ref f)) (bT : Binds K fd ["_law_term", "_law_told_here"] []) (T : Bl mg) (k : Kls K mg) (kis : Kis K mg) (c_alike : Cal P w K mg base CX0 1 "_law_alike" ["_law_found", "_law_due"] (spAlikeF) []) :
    ∀ n : Nat, FnOk P w K mg base CX0 (2 + n) f fd ["_law_term", "_law_told_here"] (spSame mg n)
  | 0 => fnOk_false fun vs H Q E h => by
    obtain ⟨a, b, t, _, _, _, ok, _⟩ := h
    have := ok.d
    have := deepT_pos t
    omega
  | n + 1 => by
    have IH := ok_same F gT bT T k kis c_alike n
    have c_same : Cal P w K mg base CX0 (2 + n) "_law_same" ["_law_term", "_law_told_here"] (spSame mg n) [] := ⟨f, fd, [], IH, gT, F.kp, bT, .nil⟩
    refine F.ok sc_same (fun vs H Q E h => ?_) (fun cdv A outer s H vs Q E hr h => ?_)
    · obtain ⟨a, b, t, rfl, _⟩ := h
      rfl
    · obtain ⟨a, b, t, rfl, ho, ht, ok, q⟩ := h
      obtain ⟨f_same, fd_same, ds_same, F_same, g_same, k_same, b_same, v_same⟩ := c_same.ex
      obtain ⟨f_alike, fd_alike, ds_alike, F_alike, g_alike, k_alike, b_alike, v_alike⟩ := c_alike.ex
      have hr : Room (2 + n) (A.deeper _) := hr
      refine ⟨_, (pss_cons (ps_set (i := 2) sc_same.nd rfl (Or.inl rfl) (pe_lst (pa_cons (pe_callB call_isi (by rfl) T.z_isinstance (by decide +kernel) (pa_cons (pv 0) (pa_cons (pe_glob (v := .ref (exA mg "Level")) rfl (kis.g "Level" (by simp)) rfl) pa_nil))) (pa_cons (pe_callB call_isi (by rfl) T.z_isinstance (by decide +kernel) (pa_cons (pv 0) (pa_cons (pe_glob (v := .ref (exA mg "Called")) rfl (kis.g "Called" (by simp)) rfl) pa_nil))) (pa_cons (pe_callB call_isi (by rfl) T.z_isinstance (by decide +kernel) (pa_cons (pv 0) (pa_cons (pe_glob (v := .ref (exA mg "Least")) rfl (kis.g "Least" (by simp)) rfl) pa_nil))) (pa_cons (pe_callB call_isi (by rfl) T.z_isinstance (by decide +kernel) (pa_cons (pv 0) (pa_cons (pe_glob (v := .ref (exA mg "Greatest")) rfl (kis.g "Greatest" (by simp)) rfl) pa_nil))) pa_nil))))))
      (pss_cons (ps_set (i := 3) sc_same.nd rfl (Or.inl rfl) (pe_lst (pa_cons pe_str (pa_cons pe_str (pa_cons pe_str (pa_cons pe_str pa_nil))))))
      (pss_cons (ps_if (PW.pt (pw_or (pt_not (pt_val (pe_callB call_isi (by rfl) T.z_isinstance (by decide +kernel) (pa_cons (pv 0) (pa_cons (pe_glob (v := .ref (exA mg "Term")) rfl (kis.g "Term" (by simp)) rfl) pa_nil))))) (pw_or1 (pt_cmpR (op_neD hr.units) (pv 2) (pe_lc (own := [("_law_word_here", 4)]) (g := gName 4) (tt := tYes) rfl sc_same.nd (pi_list (pv 3)) (blkOk_by (N := ["_law_term", "_law_told_here", "_law_sorts", "_law_words_here", "_law_word_here", "_law_part", "_law_known"]) (sc := defScope s_same) (by decide +kernel)) (fun _ _ _ _ _ => (pg_name (i := 4) sc_same.nd rfl (Or.inl rfl))) (fun _ _ _ _ _ => pts_nil) (fun _ _ _ _ _ => (pe_cmpR op_eq (pe_ix (ixK (K := K) rIxT ix_tup) (pv 1) pe_int (fun _ _ => rfl)) (pv 4) (nomark _)))) (nomark _))))) (pss_one (ps_ret pe_bl)) pss_nil)
      (pss_cons (ps_if (pt_cmpR op_eq (pe_ix ix_tup (pv 1) pe_int (fun _ _ => rfl)) pe_str (nomark _)) (pss_one (ps_ret (pe_call F_alike (hr.mono (by omega)) rfl g_alike k_alike b_alike v_alike pass0 (pa_cons (pe_fld (pv 0) rfl) (pa_cons (pe_ix ix_tup (pv 1) pe_int (fun _ _ => rfl)) pa_nil))))) pss_nil)
      (pss_cons (ps_if (pt_cmpR op_eq (pe_ix ix_tup (pv 1) pe_int (fun _ _ => rfl)) pe_str (nomark _)) (pss_one (ps_ret (pe_and (pe_call F_alike (hr.mono (by omega)) rfl g_alike k_alike b_alike v_alike pass0 (pa_cons (pe_fld (pv 0) rfl) (pa_cons (pe_ix ix_tup (pv 1) pe_int (fun _ _ => rfl)) pa_nil))) (pe_one (pe_call F_alike (hr.mono (by omega)) rfl g_alike k_alike b_alike v_alike pass0 (pa_cons (pe_fld (pv 0) rfl) (pa_cons (pe_ix ix_tup (pv 1) pe_int (fun _ _ => rfl)) pa_nil))))))) pss_nil)
      (pss_cons (ps_if (PW.pt (pw_or (pt_not (pt_val (pe_callB call_isi (by rfl) T.z_isinstance (by decide +kernel) (pa_cons (pe_fld (pv 0) rfl) (pa_cons (pe_bltn (v := .ty "tuple") (u := .type "tuple") (by rfl) T.z_tuple (by decide +kernel) rfl) pa_nil))))) (pw_or1 (pt_cmpR op_ne (pe_callB call_len_seq (by rfl) T.z_len (by decide +kernel) (pa_cons (pe_fld (pv 0) rfl) pa_nil)) (pe_op op_sub (pe_callB call_len_seq (by rfl) T.z_len (by decide +kernel) (pa_cons (pv 1) pa_nil)) pe_int) (nomark _))))) (pss_one (ps_ret pe_bl)) pss_nil)
      (pss_one (ps_ret (pe_callB (cr_all rfl) (by rfl) T.z_all (by decide +kernel) (pa_cons (pe_lc (own := [("_law_part", 5), ("_law_known", 6)]) (tt := tYes) rfl sc_same.nd (RZ.pi_zipA (by rfl) T.z_zip (pa_cons (pe_fld (pv 0) rfl) (pa_cons (pe_slice sl_tup (pv 1) (po_some pe_int) po_none) pa_nil))) (blkOk_by (N := ["_law_term", "_law_told_here", "_law_sorts", "_law_words_here", "_law_word_here", "_law_part", "_law_known"]) (sc := defScope s_same) (by decide +kernel)) (fun _ _ _ _ _ => (pg_tupK (K := K) (n := 2) (by rfl) (pgs_cons (pg_name (i := 5) sc_same.nd rfl (Or.inl rfl)) (pgs_cons (pg_name (i := 6) sc_same.nd rfl (Or.inl rfl)) pgs_nil)))) (fun _ _ _ _ _ => pts_nil) (fun _ _ _ _ _ => (pe_call F_same (hr.mono (by omega)) rfl g_same k_same b_same v_same pass0 (pa_cons (pv 5) (pa_cons (pv 6) pa_nil))))) pa_nil)))))))))), ?_⟩
      obtain ⟨t1, u1, y1, y2, y3⟩ := isi_ob k kis ho "Level" (by simp)
      obtain ⟨t2, u2, z1, z2, z3⟩ := isi_ob k kis ho "Called" (by simp)
      obtain ⟨t3, u3, x1, x2, x3⟩ := isi_ob k kis ho "Least" (by simp)
      obtain ⟨t4, u4, w1, w2, w3⟩ := isi_ob k kis ho "Greatest" (by simp)
      refine ⟨_, rfl, _, _, t1, u1, _, rfl, y1, y2, y3, _, rfl, _, _, t2, u2, _, rfl, z1, z2, z3, _, rfl, _, _, t3, u3, _, rfl, x1, x2, x3, _, rfl, _, _, t4, u4, _, rfl, w1, w2, w3, ?_⟩
      refine ⟨(by show 4 ≤ sizeLine; decide), fun l1 hl1 => ⟨(by show 4 ≤ sizeLine; decide), fun l2 hl2 => ?_⟩⟩
      have s2 : Same H (upd (upd H l1 (.lst [.bl (decide (kd t = "Level")), .bl (decide (kd t = "Called")), .bl (decide (kd t = "Least")), .bl (decide (kd t = "Greatest"))])) l2 (.lst [.str "level", .str "called", .str "least", .str "greatest"])) := (Same.new hl1).trans (Same.new hl2)
      have e1 := (Same.new (o := .lst [.str "level", .str "called", .str "least", .str "greatest"]) hl2) l1 (.lst [.bl (decide (kd t = "Level")), .bl (decide (kd t = "Called")), .bl (decide (kd t = "Least")), .bl (decide (kd t = "Greatest"))]) upd_same
      have e2 : (upd (upd H l1 (.lst [.bl (decide (kd t = "Level")), .bl (decide (kd t = "Called")), .bl (decide (kd t = "Least")), .bl (decide (kd t = "Greatest"))])) l2 (.lst [.str "level", .str "called", .str "least", .str "greatest"])) l2 = some (.lst [.str "level", .str "called", .str "least", .str "greatest"]) := upd_same
      generalize upd (upd H l1 (.lst [.bl (decide (kd t = "Level")), .bl (decide (kd t = "Called")), .bl (decide (kd t = "Least")), .bl (decide (kd t = "Greatest"))])) l2 (.lst [.str "level", .str "called", .str "least", .str "greatest"]) = H2 at s2 e1 e2
      obtain ⟨tt, ut, v1, v2, v3⟩ := isi_obT k kis (ObAt.to (TO.same s2) t ho)
      refine ⟨_, rfl, _, _, tt, ut, _, rfl, v1, v2, v3, _, rfl, ?_⟩
      refine iteF ?_
      have ht2 := TldAt.tk (fun _ _ e => s2 _ _ e) t ht
      obtain ⟨xs, hxs⟩ := ht2.tagged
      refine ⟨_, rfl, _, rfl, l2, rfl, ⟨_, SqL.of e2⟩, fun D hD => lc_it walk_list (fun i H3 => ∃ bs : List Bool, Same H2 H3 ∧ H3 D = some (.lst (bs.map V.bl)) ∧ bs = ((["level", "called", "least", "greatest"] : List Str).take i).map fun w => decide (V.str (tag t) = V.str w))
        ⟨[], Same.new hD, upd_same, rfl⟩ (fun i H3 _ h => SqL.of (h.choose_spec.1 _ _ e2)) ?_ ?_⟩
      · rintro i x H3 H3' hi ⟨bs, s3, d3, eb⟩ ⟨rfl, hx⟩
        refine ⟨rfl, ?_⟩
        obtain ⟨y, ey, rfl⟩ : ∃ y : Str, (["level", "called", "least", "greatest"] : List Str)[i]? = some y ∧ x = .str y := by
          have : (([("level" : Str), "called", "least", "greatest"] : List Str).map V.str)[i]? = some x := hx
          rw [List.getElem?_map] at this
          cases h : ([("level" : Str), "called", "least", "greatest"] : List Str)[i]? with
          | none => rw [h] at this; cases this
          | some y => rw [h] at this; exact ⟨y, rfl, (Option.some.inj this).symm⟩
        refine ⟨_, rfl, b, _, _, .str (tag t), rfl, rfl, SqT.of (s3 _ _ hxs), atI_nat (j := 0) rfl, _, rfl, rfl, ?_⟩
        have lb : bs.length ≤ i := by rw [eb, List.length_map, List.length_take]; exact Nat.min_le_left _ _
        have li : i < 4 := hi
        refine ⟨_, d3, by rw [List.length_map]; exact small1000 (by omega), bs ++ [decide (V.str (tag t) = V.str y)], fun c o e => ?_, by rw [upd_same, List.map_append]; rfl, ?_⟩
        · rw [upd_ne (ne_of_none e hD)]
          exact s3 _ _ e
        · rw [List.take_add_one, ey, eb, List.map_append]
          rfl
      rintro H3 ⟨bs, s3, d3, eb⟩
      have eb : bs = [decide (kd t = "Level"), decide (kd t = "Called"), decide (kd t = "Least"), decide (kd t = "Greatest")] := by rw [sorts_eq]; exact eb
      refine ⟨_, _, .lst (SqL.of (s3 _ _ e1)) (dps_bools [decide (kd t = "Level"), decide (kd t = "Called"), decide (kd t = "Least"), decide (kd t = "Greatest")]), .lst (SqL.of d3) (dps_bools bs), shaped_bools _, shaped_bools _, ?_⟩
      rw [eb, eqv_bools]
      refine ⟨_, rfl, ?_⟩
      refine iteF ?_
      have s03 : Same H H3 := fun b o e => s3 _ _ (s2 _ _ e)
      have ho := ObAt.to (TO.same s03) t ho
      have ht := TldAt.tk (fun _ _ e => s03 _ _ e) t ht
      have hl := ok.l
      unfold AllLf at hl
      cases t with
      | lv v =>
        unfold TldAt at ht
        obtain ⟨b', e, h1⟩ := ht
        cases e
        unfold ObAt at ho
        obtain ⟨a', dx, e, o1⟩ := ho
        cases e
        refine ⟨_, rfl, b, _, _, _, rfl, rfl, SqT.of h1, rfl, rfl, _, rfl, ?_⟩
        refine iteT ?_
        refine ⟨_, rfl, _, _, _, _, _, rfl, o1, k.cls (.lv .non), k.no (.lv .non) "level" (by simp), rfl, _, rfl, b, _, _, _, rfl, rfl, SqT.of h1, rfl, v, v, rfl, flat_lv hl, flat_lv hl, isB_ok (.inl hl), ?_⟩
        rw [decide_eq_true (rfl : v = v)]
        exact q H3 s03
      | cl wh u =>
        unfold TldAt at ht
        obtain ⟨b', e, h1⟩ := ht
        cases e
        unfold ObAt at ho
        obtain ⟨a', dx, e, o1⟩ := ho
        cases e
        have hw : whOk wh := hl.1
        have hu : twOk u := hl.2
        refine ⟨_, rfl, b, _, _, _, rfl, rfl, SqT.of h1, rfl, rfl, _, rfl, ?_⟩
        refine iteF ?_
        refine ⟨_, rfl, b, _, _, _, rfl, rfl, SqT.of h1, rfl, rfl, _, rfl, ?_⟩
        refine iteT ?_
        refine ⟨_, rfl, _, _, _, _, _, rfl, o1, k.cls (.cl .non .non), k.no (.cl .non .non) "when" (by simp), rfl, _, rfl, b, _, _, _, rfl, rfl, SqT.of h1, rfl, wh, wh, rfl, flat_wh hw, flat_wh hw, isB_ok (.inr (.inl hw)), _, rfl, ?_⟩
        rw [decide_eq_true (rfl : wh = wh)]
        refine iteT ?_
        refine ⟨_, rfl, _, _, _, _, _, rfl, o1, k.cls (.cl .non .non), k.no (.cl .non .non) "town" (by simp), rfl, _, rfl, b, _, _, _, rfl, rfl, SqT.of h1, rfl, u, u, rfl, (flat_tw hu).1, (flat_tw hu).1, isB_ok (.inr (.inr hu)), ?_⟩
        rw [decide_eq_true (rfl : u = u)]
        exact q H3 s03
      | mx g ts =>
        obtain ⟨oks, l2', l8, r999, dn⟩ := ok.sub
        unfold TldAt at ht
        obtain ⟨b', ws, e, h1, h3⟩ := ht
        cases e
        unfold ObAt at ho
        obtain ⟨a', dx, p, vs, e, o1, o2, o3⟩ := ho
        cases e
        have lw := h3.length
        have lv := o3.length
        have w1 : decide (V.str (wd g) = V.str "level") = false := decide_eq_false (wd_ne g).1
        have w2 : decide (V.str (wd g) = V.str "called") = false := decide_eq_false (wd_ne g).2
        refine ⟨_, rfl, b, _, _, .str (wd g), rfl, rfl, SqT.of h1, atI_nat (j := 0) rfl, rfl, _, rfl, ?_⟩
        rw [w1]
        refine iteF ?_
        refine ⟨_, rfl, b, _, _, .str (wd g), rfl, rfl, SqT.of h1, atI_nat (j := 0) rfl, rfl, _, rfl, ?_⟩
        rw [w2]
        refine iteF ?_
        obtain ⟨tp, up, p1, p2, p3⟩ := isi_tupT (K := K) o2
        refine ⟨_, rfl, _, _, _, _, _, rfl, o1, k.cls (.mx g []), k.no (.mx g []) "terms" (by simp), rfl, _, _, tp, up, _, rfl, p1, p2, p3, _, rfl, ?_⟩
        refine iteF ?_
        refine ⟨_, rfl, _, _, _, _, _, rfl, o1, k.cls (.mx g []), k.no (.mx g []) "terms" (by simp), rfl, p, _, rfl, .inr (SqT.of o2), _, rfl, b, _, rfl, .inr (SqT.of h1), _, _, rfl, rfl, rfl, _, rfl, ?_⟩
        have e : decide (V.int (vs.length : Int) = V.int (((V.str (wd g) :: ws).length : Int) - 1)) = true := decide_eq_true (congrArg V.int (by rw [List.length_cons]; omega))
        rw [e]
        refine iteF ?_
        refine ⟨_, rfl, _, _, _, _, _, rfl, o1, k.cls (.mx g []), k.no (.mx g []) "terms" (by simp), rfl, _, rfl, _, rfl, b, _, rfl, SqT.of h1, (by intro e; have e1 := e.1; simp [HT.sIx] at e1), fun p4 hp4 => ?_⟩
        rw [show cutV (.str (wd g) :: ws) (some 1) none = ws from cut_from (.str (wd g) :: ws) 1 (by simp)]
        have s4 : Same H3 (upd H3 p4 (.tup ws)) := Same.new hp4
        have h4 : (upd H3 p4 (.tup ws)) p4 = some (.tup ws) := upd_same
        generalize upd H3 p4 (.tup ws) = H4 at s4 h4
        have o3 := ObAll.to (TO.same s4) ts o3
        have h3 := TldAll.tk (fun _ _ e => s4 _ _ e) ts h3
        have o2 := s4 _ _ o2
        refine ⟨p, p4, vs, ws, rfl, .inr ⟨SqT.of o2, SqT.of h4, fun D2 hD2 => lc_it (walk_zipT (xs := vs) (ys := ws) (n := ts.length) (by omega)) (fun i H5 => ∃ bs : List Bool, Same H4 H5 ∧ H5 D2 = some (.lst (bs.map V.bl)) ∧ bs.length = i ∧ bs.all id = true)
          ⟨[], Same.new hD2, upd_same, rfl, rfl⟩ (fun i H5 _ h => ⟨SqT.of (h.choose_spec.1 _ _ o2), SqT.of (h.choose_spec.1 _ _ h4)⟩) ?_ ?_⟩⟩
        · rintro i x H5 H5' hi ⟨bs, s5, d5, lb, ab⟩ ⟨U, vx, vy, rfl, hU, rfl, gx, gy⟩
          obtain ⟨t, et, ot⟩ := o3.get gx
          obtain ⟨t', et', tt⟩ := h3.get gy
          rw [et] at et'
          cases et'
          obtain ⟨a5, rfl⟩ := ot.ref
          obtain ⟨b5, rfl⟩ := tt.ref
          refine ⟨U, _, rfl, SqT.of upd_same, rfl, _, _, rfl, _, _, rfl, rfl, ?_⟩
          refine ⟨rfl, ?_⟩
          have s6 : Same H5 (upd H5 U (.tup [.ref a5, .ref b5])) := Same.new hU
          have s46 : Same H4 (upd H5 U (.tup [.ref a5, .ref b5])) := fun b o e => s6 _ _ (s5 _ _ e)
          have hm := List.mem_of_getElem? et
          refine ⟨_, rfl, _, rfl, a5, b5, t, rfl, ObAt.to (TO.same s46) t ot, TldAt.tk (fun _ _ e => s46 _ _ e) t tt, oks t hm, fun H7 s7 => ?_⟩
          have d7 := s7 _ _ (s6 _ _ d5)
          refine ⟨_, d7, by rw [List.length_map]; exact small1000 (by omega), bs ++ [true], fun c o e => ?_, by rw [upd_same, List.map_append]; rfl, by rw [List.length_append, lb]; rfl, by rw [List.all_append, ab]; rfl⟩
          rw [upd_ne (ne_of_none e hD2)]
          exact s7 _ _ (s46 _ _ e)
        · rintro H5 ⟨bs, s5, d5, lb, ab⟩
          refine ⟨D2, bs, rfl, SqL.of d5, ?_⟩
          rw [ab]
          exact q H5 fun b o e => s5 _ _ (s4 _ _ (s03 _ _ e))
end
end LW

/-! PR: how rules are read, sign by sign -/
namespace CC
open PySem PySem.Spec PyProof.Rows L2
abbrev cs (x : Str) : List Nat := x.cps.toList
def isD (c : Nat) : Bool := decide (48 ≤ c) && decide (c ≤ 57)
def isL (c : Nat) : Bool := decide (97 ≤ c) && decide (c ≤ 122)
def nD (s : List Nat) : Nat := (s.takeWhile isD).length
def nL (s : List Nat) : Nat := (s.takeWhile isL).length
def pFig (s : List Nat) : Option Nat := if 1 ≤ nD s ∧ nD s ≤ 16 ∧ ¬ (s.head? = some 48 ∧ 1 < nD s) then some (nD s) else none
def pWord (s : List Nat) : Option Nat := if nL s = 0 then none else some (nL s)
def sDay : List Nat := [100, 97, 121, 32]
def sMade : List Nat := [109, 97, 100, 101]
def sPaid : List Nat := [112, 97, 105, 100]
def sIn : List Nat := [32, 105, 110, 32]
def sAt : List Nat := [97, 116, 32]
def sLe : List Nat := [108, 101, 97, 115, 116, 40]
def sGr : List Nat := [103, 114, 101, 97, 116, 101, 115, 116, 40]
def numV (s : List Nat) : V := .int ((PySem.NumText.digitsVal s : Nat) : Int)
def pWhen (s : List Nat) : Option (V × Nat) :=
  if s.take 4 = sDay then (pFig (s.drop 4)).map fun k => (numV ((s.drop 4).take k), 4 + k)
  else if s.take 4 = sMade then some (.str "made", 4) else if s.take 4 = sPaid then some (.str "paid", 4) else none
def pCalled (s : List Nat) : Option ((V × V) × Nat) := match pWhen s with
  | none => none
  | some (w, k) => if (s.drop k).take 4 = sIn then (pWord (s.drop (k + 4))).map fun m => ((w, .str ⟨((s.drop (k + 4)).take m).toArray⟩), k + 4 + m) else some ((w, .non), k)
def pLeaf (s : List Nat) : Option (Tld × Nat) :=
  if s.take 3 = sAt then (pFig (s.drop 3)).map fun k => (.lv (numV ((s.drop 3).take k)), 3 + k) else (pCalled s).map fun r => (.cl r.1.1 r.1.2, r.2)
def pParts (p : List Nat → Option (Tld × Nat)) : Nat → List Nat → Option (List Tld × Nat)
  | 0, _ => none
  | n + 1, s => match p s with
    | none => none
    | some (t, k) => if (s.drop k).take 1 = [41] then some ([t], k + 1)
      else if (s.drop k).take 2 = [44, 32] then (pParts p n (s.drop (k + 2))).map fun r => (t :: r.1, k + 2 + r.2) else none
/-- d brackets may be opened -/
def pRule : Nat → List Nat → Option (Tld × Nat)
  | 0, s => if s.take 6 = sLe then none else if s.take 9 = sGr then none else pLeaf s
  | d + 1, s => if s.take 6 = sLe then (pParts (pRule d) (s.length + 1) (s.drop 6)).map fun r => (.mx false r.1, 6 + r.2)
    else if s.take 9 = sGr then (pParts (pRule d) (s.length + 1) (s.drop 9)).map fun r => (.mx true r.1, 9 + r.2) else pLeaf s
/-- behind an opened bracket -/
def pRds : Nat → Nat → List Nat → Option (List Tld × Nat)
  | 0, _, _ => none
  | e + 1, n, s => pParts (pRule e) n s
/-! ### slices and signs -/
theorem cut_list (z : Str) (a b : Nat) : cs (cutS z (some (a : Int)) (some (b : Int))) = ((cs z).drop a).take (b - a) := by
  show ((z.cps.toList.drop (HT.sIx z.length 0 (some (a : Int)))).take (HT.sIx z.length z.length (some (b : Int)) - HT.sIx z.length 0 (some (a : Int)))).toArray.toList = _
  rw [HT.sIx_nat, HT.sIx_nat]
  have hz : z.length = (cs z).length := (Array.length_toList).symm
  rw [hz]
  show ((cs z).drop (min a (cs z).length)).take (min b (cs z).length - min a (cs z).length) = _
  rcases Nat.le_total (cs z).length a with h | h
  · rw [Nat.min_eq_right h, List.drop_of_length_le (Nat.le_refl _), List.drop_of_length_le h, List.take_nil, List.take_nil]
  · rw [Nat.min_eq_left h]
    rcases Nat.le_total (cs z).length b with h2 | h2
    · rw [Nat.min_eq_right h2, List.take_of_length_le (by rw [List.length_drop]; omega), List.take_of_length_le (by rw [List.length_drop]; omega)]
    · rw [Nat.min_eq_left h2]
theorem dec_cs (x y : Str) : decide (V.str x = V.str y) = decide (cs x = cs y) := by
  refine decide_eq_decide.mpr ⟨fun h => by rw [V.str.inj h], fun h => by rw [str_ext h]⟩
theorem digits_list : cs ("0123456789" : Str) = (List.range 10).map (· + 48) := by decide +kernel
theorem in_digits (c : Nat) : decide (c ∈ cs ("0123456789" : Str)) = isD c := by
  rw [digits_list]
  unfold isD
  rw [← Bool.decide_and]
  refine decide_eq_decide.mpr ⟨fun h => ?_, fun h => List.mem_map.mpr ⟨c - 48, List.mem_range.mpr (by omega), by omega⟩⟩
  obtain ⟨k, hk, e⟩ := List.mem_map.mp h
  have := List.mem_range.mp hk
  omega
theorem in_letters (c : Nat) : decide (c ∈ cs ("abcdefghijklmnopqrstuvwxyz" : Str)) = isL c := by
  show decide (c ∈ cs abc) = isL c
  rw [show cs abc = (List.range 26).map (· + 97) from abc_list]
  unfold isL
  rw [← Bool.decide_and]
  refine decide_eq_decide.mpr ⟨fun h => ?_, fun h => List.mem_map.mpr ⟨c - 97, List.mem_range.mpr (by omega), by omega⟩⟩
  obtain ⟨k, hk, e⟩ := List.mem_map.mp h
  have := List.mem_range.mp hk
  omega
theorem tw_lt {p : Nat → Bool} : ∀ {s : List Nat} {i : Nat}, i < (s.takeWhile p).length → ∃ c, s[i]? = some c ∧ p c = true
  | [], _, h => by simp at h
  | x :: s, i, h => by
    rw [List.takeWhile_cons] at h
    cases hp : p x with
    | false => rw [hp] at h; simp at h
    | true =>
      rw [hp] at h
      cases i with
      | zero => exact ⟨x, rfl, hp⟩
      | succ i =>
        have h2 : i < (s.takeWhile p).length := by simpa using h
        obtain ⟨c, e, q⟩ := tw_lt h2
        exact ⟨c, by simpa using e, q⟩
theorem tw_at {p : Nat → Bool} : ∀ {s : List Nat} {c : Nat}, s[(s.takeWhile p).length]? = some c → p c = false
  | [], c, h => by simp at h
  | x :: s, c, h => by
    rw [List.takeWhile_cons] at h
    cases hp : p x with
    | false =>
      rw [hp] at h
      have e : x = c := by simpa using h
      rw [← e]; exact hp
    | true =>
      rw [hp] at h
      refine tw_at (s := s) ?_
      simpa using h
theorem tw_le {p : Nat → Bool} (s : List Nat) : (s.takeWhile p).length ≤ s.length := (List.takeWhile_prefix p).length_le
/-- a reader of the signs from a place on: where it ends -/
def spEnd (mg : Str → Option Value) (p : List Nat → Option Nat) : Sp := fun vs H Q E => ∃ (z : Str) (a : Nat), vs = [.str z, .int (a : Nat)] ∧ z.length ≤ 100000 ∧
  (∀ k, p ((cs z).drop a) = some k → Q (.int ((a + k : Nat) : Int)) H) ∧ (p ((cs z).drop a) = none → E (.ref (exA mg "NoText")) none H)
/-- a reader of a rule: what it tells and where it ends -/
def spRd (mg : Str → Option Value) (p : List Nat → Option (Tld × Nat)) (m : List V) : Sp := fun vs H Q E => ∃ (z : Str) (a : Nat), vs = [.str z, .int (a : Nat)] ++ m ∧ z.length ≤ 100000 ∧
  (∀ t k, p ((cs z).drop a) = some (t, k) → ∀ (r : Addr) (v : V) H', Same H H' → H' r = some (.tup [v, .int ((a + k : Nat) : Int)]) → TldAt H' v t → Q (.ref r) H') ∧ (p ((cs z).drop a) = none → ∀ H', Same H H' → E (.ref (exA mg "NoText")) none H')
/-- a reader behind a bracket's opening -/
def spRds (mg : Str → Option Value) (e : Nat) : Sp := fun vs H Q E => ∃ (z : Str) (a n : Nat) (g : Bool), vs = [.str z, .int (a : Nat), .str (wd g), .int (21 - (e : Int))] ∧ z.length ≤ 100000 ∧ ((cs z).drop a).length < n ∧
  (∀ ts k, pRds e n ((cs z).drop a) = some (ts, k) → ∀ (r : Addr) (v : V) H', Same H H' → H' r = some (.tup [v, .int ((a + k : Nat) : Int)]) → TldAt H' v (.mx g ts) → Q (.ref r) H') ∧ (pRds e n ((cs z).drop a) = none → ∀ H', Same H H' → E (.ref (exA mg "NoText")) none H')
theorem tw_take {p : Nat → Bool} (s : List Nat) : s.take (s.takeWhile p).length = s.takeWhile p := List.prefix_iff_eq_take.mp (List.takeWhile_prefix p) |>.symm
theorem fig_take {s : List Nat} {k : Nat} (h : pFig s = some k) : PySem.NumText.AllDigits (s.take k) ∧ s.take k ≠ [] ∧ k ≤ 16 ∧ (s.take k).length = k := by
  unfold pFig at h
  split at h
  · rename_i c
    cases h
    have e : s.take (nD s) = s.takeWhile isD := tw_take s
    refine ⟨fun c hc => ?_, fun z => ?_, c.2.1, ?_⟩
    · rw [e] at hc
      have := List.all_takeWhile (p := isD) (l := s)
      have := List.all_eq_true.mp this c hc
      unfold isD at this
      simp only [Bool.and_eq_true, decide_eq_true_eq] at this
      exact this
    · have := congrArg List.length z
      rw [e] at this
      have h1 := c.1
      unfold nD at h1
      rw [this] at h1
      exact absurd h1 (by decide)
    · rw [e]; rfl
  · cases h
theorem int_of {z : Str} {a b : Nat} {k : Nat} (hk : pFig ((cs z).drop a) = some k) (e : b - a = k) : PySem.intText? (cutS z (some (a : Int)) (some (b : Int))) = some ((PySem.NumText.digitsVal (((cs z).drop a).take k) : Nat) : Int) ∧ (cutS z (some (a : Int)) (some (b : Int))).length ≤ 640 := by
  obtain ⟨h1, h2, h3, h4⟩ := fig_take hk
  have hl := cut_list z a b
  rw [e] at hl
  have hlen : (cutS z (some (a : Int)) (some (b : Int))).length = k := by
    rw [← h4, ← hl]
    exact (Array.length_toList).symm
  refine ⟨?_, by omega⟩
  have hl : (cutS z (some (a : Int)) (some (b : Int))).cps.toList = ((cs z).drop a).take k := hl
  have := PySem.intText_digits (x := cutS z (some (a : Int)) (some (b : Int))) (by rw [hl]; exact h1) (by rw [hl]; exact h2) (by omega)
  rw [hl] at this
  exact this
theorem dec_cut (z : Str) (a b k : Nat) (y : Str) (L : List Nat) (hb : b = a + k) (hy : cs y = L) : decide (V.str (cutS z (some (a : Int)) (some (b : Int))) = V.str y) = decide (((cs z).drop a).take k = L) := by
  rw [dec_cs, cut_list, hy, hb, Nat.add_sub_cancel_left]
def pCl (s : List Nat) : Option (Tld × Nat) := (pCalled s).map fun r => (.cl r.1.1 r.1.2, r.2)
theorem cl_non {s : List Nat} {w : V} {k : Nat} (h : pWhen s = some (w, k)) (e : ¬ (s.drop k).take 4 = sIn) : pCl s = some (.cl w .non, k) := by
  unfold pCl pCalled
  rw [h]
  simp only
  rw [if_neg e]
  rfl
theorem cl_in {s : List Nat} {w : V} {k m : Nat} (h : pWhen s = some (w, k)) (e : (s.drop k).take 4 = sIn) (hm : pWord (s.drop (k + 4)) = some m) : pCl s = some (.cl w (.str ⟨((s.drop (k + 4)).take m).toArray⟩), k + 4 + m) := by
  unfold pCl pCalled
  rw [h]
  simp only
  rw [if_pos e, hm]
  rfl
theorem cl_bad {s : List Nat} {w : V} {k : Nat} (h : pWhen s = some (w, k)) (e : (s.drop k).take 4 = sIn) (hm : pWord (s.drop (k + 4)) = none) : pCl s = none := by
  unfold pCl pCalled
  rw [h]
  simp only
  rw [if_pos e, hm]
  rfl
theorem cl_no {s : List Nat} (h : pWhen s = none) : pCl s = none := by
  unfold pCl pCalled
  rw [h]
  rfl
theorem when_day {s : List Nat} {k : Nat} (e : s.take 4 = sDay) (h : pFig (s.drop 4) = some k) : pWhen s = some (numV ((s.drop 4).take k), 4 + k) := by
  unfold pWhen
  rw [if_pos e, h]
  rfl
theorem when_bad {s : List Nat} (e : s.take 4 = sDay) (h : pFig (s.drop 4) = none) : pWhen s = none := by
  unfold pWhen
  rw [if_pos e, h]
  rfl
theorem when_made {s : List Nat} (e : ¬ s.take 4 = sDay) (e2 : s.take 4 = sMade) : pWhen s = some (.str "made", 4) := by
  unfold pWhen
  rw [if_neg e, if_pos e2]
theorem when_paid {s : List Nat} (e : ¬ s.take 4 = sDay) (e2 : ¬ s.take 4 = sMade) (e3 : s.take 4 = sPaid) : pWhen s = some (.str "paid", 4) := by
  unfold pWhen
  rw [if_neg e, if_neg e2, if_pos e3]
theorem when_no {s : List Nat} (e : ¬ s.take 4 = sDay) (e2 : ¬ s.take 4 = sMade) (e3 : ¬ s.take 4 = sPaid) : pWhen s = none := by
  unfold pWhen
  rw [if_neg e, if_neg e2, if_neg e3]
theorem cs_day : cs ("day " : Str) = sDay := by decide +kernel
theorem cs_made : cs ("made" : Str) = sMade := by decide +kernel
theorem cs_paid : cs ("paid" : Str) = sPaid := by decide +kernel
theorem cs_in : cs (" in " : Str) = sIn := by decide +kernel
theorem cs_at : cs ("at " : Str) = sAt := by decide +kernel
theorem cs_le : cs (("least" : Str) ++ "(") = sLe := by decide +kernel
theorem cs_gr : cs (("greatest" : Str) ++ "(") = sGr := by decide +kernel
theorem take_is {s L : List Nat} {z : Str} {a k : Nat} {y : Str} (hs : s = (cs z).drop a) (e : s.take k = L) (hy : cs y = L) {b : Nat} (hb : b = a + k) : cutS z (some (a : Int)) (some (b : Int)) = y := by
  refine str_ext ?_
  show cs _ = cs y
  rw [cut_list, hy, ← e, hs, hb, Nat.add_sub_cancel_left]
theorem rule_le {d : Nat} {s : List Nat} (h : s.take 6 = sLe) : pRule d s = (pRds d (s.length + 1) (s.drop 6)).map fun r => (.mx false r.1, 6 + r.2) := by
  cases d with
  | zero => unfold pRule pRds; rw [if_pos h]; rfl
  | succ d => unfold pRule pRds; rw [if_pos h]
theorem rule_gr {d : Nat} {s : List Nat} (h0 : ¬ s.take 6 = sLe) (h : s.take 9 = sGr) : pRule d s = (pRds d (s.length + 1) (s.drop 9)).map fun r => (.mx true r.1, 9 + r.2) := by
  cases d with
  | zero => unfold pRule pRds; rw [if_neg h0, if_pos h]; rfl
  | succ d => unfold pRule pRds; rw [if_neg h0, if_pos h]
theorem rule_leaf {d : Nat} {s : List Nat} (h0 : ¬ s.take 6 = sLe) (h : ¬ s.take 9 = sGr) : pRule d s = pLeaf s := by
  cases d with
  | zero => unfold pRule; rw [if_neg h0, if_neg h]
  | succ d => unfold pRule; rw [if_neg h0, if_neg h]
theorem leaf_at {s : List Nat} (h : s.take 3 = sAt) : pLeaf s = (pFig (s.drop 3)).map fun k => (.lv (numV ((s.drop 3).take k)), 3 + k) := by
  unfold pLeaf
  rw [if_pos h]
theorem leaf_cl {s : List Nat} (h : ¬ s.take 3 = sAt) : pLeaf s = pCl s := by
  unfold pLeaf
  rw [if_neg h]
  rfl
theorem parts_end {p : List Nat → Option (Tld × Nat)} {n k : Nat} {s : List Nat} {t : Tld} (h : p s = some (t, k)) (e : (s.drop k).take 1 = [41]) : pParts p (n + 1) s = some ([t], k + 1) := by
  unfold pParts
  rw [h]
  simp only
  rw [if_pos e]
theorem parts_more {p : List Nat → Option (Tld × Nat)} {n k : Nat} {s : List Nat} {t : Tld} (h : p s = some (t, k)) (e : ¬ (s.drop k).take 1 = [41]) (e2 : (s.drop k).take 2 = [44, 32]) : pParts p (n + 1) s = (pParts p n (s.drop (k + 2))).map fun r => (t :: r.1, k + 2 + r.2) := by
  rw [pParts, h]
  simp only
  rw [if_neg e, if_pos e2]
theorem parts_bad {p : List Nat → Option (Tld × Nat)} {n k : Nat} {s : List Nat} {t : Tld} (h : p s = some (t, k)) (e : ¬ (s.drop k).take 1 = [41]) (e2 : ¬ (s.drop k).take 2 = [44, 32]) : pParts p (n + 1) s = none := by
  rw [pParts, h]
  simp only
  rw [if_neg e, if_neg e2]
theorem parts_no {p : List Nat → Option (Tld × Nat)} {n : Nat} {s : List Nat} (h : p s = none) : pParts p (n + 1) s = none := by
  rw [pParts, h]
theorem cs_close : cs (")" : Str) = [41] := by decide +kernel
theorem cs_comma : cs (", " : Str) = [44, 32] := by decide +kernel
theorem two_left {s : List Nat} {x y : Nat} (h : s.take 2 = [x, y]) : 2 ≤ s.length := by
  have := congrArg List.length h
  rw [List.length_take] at this
  simp at this
  omega
end CC

namespace LW
open PySem PySem.Spec PyProof.Rows L2 CC
section
variable {P : Program} {w : World} {K : PySem.W.Frag} {mg : Str → Option Value} {base : Heap}
abbrev s_figures_end : Stmt := top 25
theorem sc_figures_end : FnScope ["text", "at", "end"] ["text", "at"] (defScope s_figures_end) := ⟨rfl, rfl, rfl, by decide +kernel, rfl, by decide +kernel, by decide +kernel⟩
theorem ok_figures_end {f : Addr} {fd : FuncData} (F : Fun K "figures_end" "figures_end" s_figures_end f fd) (T : Bl mg) (X_NoText : Exk K mg "NoText") : FnOk P w K mg base (L2.CX P w) 1 f fd ["text", "at"] (spEnd mg pFig) := by
  refine F.okX sc_figures_end (fun vs H Q E h => ?_) (fun cdv A outer s H vs Q E hr h => ?_)
  · obtain ⟨z, a, rfl, _⟩ := h
    rfl
  · obtain ⟨z, a, rfl, lz, q1, q2⟩ := h
    refine ⟨_, (pss_cons (ps_set (i := 2) sc_figures_end.nd rfl (Or.inl rfl) (pv 1))
      (pss_cons (ps_while (passes_of rfl) (PW.pt (pw_and (pt_cmpR op_lt (pv 2) (pe_callB call_len_str (by rfl) T.z_len (by decide +kernel) (pa_cons (pv 0) pa_nil)) (nomark _)) (pw_and1 (pt_cmpR op_in_sign (pe_ix ix_str (pv 0) (pv 2) (fun _ _ => rfl)) pe_str rfl)))) (pss_one (ps_set (i := 2) sc_figures_end.nd rfl (Or.inl rfl) (pe_op op_add (pv 2) pe_int))))
      (pss_cons (ps_if (PW.pt (pw_or (pt_not (pt_chain op_le op_le pe_int (pe_op op_sub (pv 2) (pv 1)) pe_int)) (pw_or1 (PW.pt (pw_and (pt_cmpR op_eq (pe_ix ix_str (pv 0) (pv 1) (fun _ _ => rfl)) pe_str (nomark _)) (pw_and1 (pt_cmpR op_gt (pe_op op_sub (pv 2) (pv 1)) pe_int (nomark _)))))))) (pss_one (ps_raise rfl (takes_of rfl rfl rfl rfl) (pmk_x X_NoText))) pss_nil)
      (pss_one (ps_ret (pv 2)))))), ?_⟩
    have zs : z.length ≤ sizeLine := Nat.le_trans lz (by decide)
    have ez : z.length = (cs z).length := (Array.length_toList).symm
    have ns := tw_le (p := isD) ((cs z).drop a)
    have nle : nD ((cs z).drop a) ≤ (cs z).length - a := by rw [List.length_drop] at ns; exact ns
    refine ⟨_, rfl, ?_⟩
    refine ⟨fun m σ H2 => ∃ i : Nat, H2 = H ∧ σ = [some (.str z), some (.int (a : Nat)), some (.int ((a + i : Nat) : Int))] ∧ i ≤ nD ((cs z).drop a) ∧ m = nD ((cs z).drop a) - i, ⟨_, 0, rfl, rfl, Nat.zero_le _, rfl⟩, ?_⟩
    rintro m σ H2 ⟨i, rfl, rfl, hi, rfl⟩
    refine ⟨_, rfl, _, rfl, z, rfl, zs, _, _, rfl, rfl, _, rfl, ?_⟩
    by_cases hlt : ((a + i : Nat) : Int) < (z.length : Int)
    · rw [decide_eq_true hlt]
      refine iteT ?_
      have hz : a + i < (cs z).length := by omega
      have hc : (cs z)[a + i]? = some ((cs z)[a + i]) := List.getElem?_eq_getElem hz
      refine ⟨_, rfl, _, rfl, z, _, (cs z)[a + i], rfl, rfl, zs, atI_nat hc, (cs z)[a + i], "0123456789", rfl, rfl, _, rfl, ?_⟩
      have hd : ((cs z).drop a)[i]? = some ((cs z)[a + i]) := by rw [List.getElem?_drop]; exact hc
      rw [show decide ((cs z)[a + i] ∈ ("0123456789" : Str).cps.toList) = isD ((cs z)[a + i]) from in_digits _]
      by_cases hi2 : i < nD ((cs z).drop a)
      · obtain ⟨c, hc2, hp⟩ := tw_lt (p := isD) hi2
        rw [hd] at hc2
        rw [Option.some.inj hc2, hp]
        refine iteT ?_
        refine ⟨fun σ' H' => ∃ m', m' < nD ((cs z).drop a) - i ∧ ∃ i' : Nat, H' = H2 ∧ σ' = [some (.str z), some (.int (a : Nat)), some (.int ((a + i' : Nat) : Int))] ∧ i' ≤ nD ((cs z).drop a) ∧ m' = nD ((cs z).drop a) - i', fun σ' H' z => z, ?_⟩
        refine ⟨_, rfl, _, _, rfl, rfl, ?_⟩
        exact ⟨_, by omega, i + 1, rfl, rfl, by omega, rfl⟩
      · have ei : i = nD ((cs z).drop a) := by omega
        subst ei
        rw [tw_at (p := isD) hd]
        refine iteF ?_
        -- behind the signs
        have hh : ∀ c, (cs z)[a]? = some c → ((cs z).drop a).head? = some c := fun c e => by rw [List.head?_drop]; exact e
        refine ⟨_, rfl, _, rfl, _, _, rfl, rfl, _, _, rfl, rfl, _, rfl, ?_⟩
        have ed : ((a + nD ((cs z).drop a) : Nat) : Int) - (a : Nat) = (nD ((cs z).drop a) : Nat) := by omega
        rw [ed]
        by_cases k1 : (1 : Int) ≤ (nD ((cs z).drop a) : Nat)
        · rw [decide_eq_true k1]
          refine iteT ?_
          refine ⟨_, _, rfl, rfl, _, rfl, ?_⟩
          rw [ed]
          by_cases k16 : ((nD ((cs z).drop a) : Nat) : Int) ≤ 16
          · rw [decide_eq_true k16]
            refine iteF ?_
            obtain ⟨c, hc, _⟩ := tw_lt (p := isD) (s := (cs z).drop a) (i := 0) (by show 0 < nD ((cs z).drop a); omega)
            have hc : (cs z)[a]? = some c := by rw [List.getElem?_drop] at hc; exact hc
            refine ⟨_, rfl, _, rfl, z, _, c, rfl, rfl, zs, atI_nat hc, rfl, _, rfl, ?_⟩
            by_cases c0 : c = 48
            · subst c0
              refine iteT ?_
              refine ⟨_, rfl, _, rfl, _, _, rfl, rfl, _, _, rfl, rfl, _, rfl, ?_⟩
              rw [ed]
              by_cases k2 : ((nD ((cs z).drop a) : Nat) : Int) > 1
              · rw [decide_eq_true k2]
                refine iteT (q2 ?_)
                unfold pFig
                rw [if_neg (fun h => h.2.2 ⟨hh _ hc, by omega⟩)]
              · rw [decide_eq_false k2]
                refine iteF ?_
                refine ⟨_, rfl, q1 _ ?_⟩
                unfold pFig
                rw [if_pos ⟨by omega, by omega, fun h => by omega⟩]
            · rw [show decide (V.str ⟨#[c]⟩ = V.str "0") = false from decide_eq_false (fun e => by
                have e2 := congrArg (fun v => match v with | V.str x => x.cps.toList | _ => []) e
                have e3 : [c] = [48] := e2
                exact c0 (by injection e3))]
              refine iteF ?_
              refine ⟨_, rfl, q1 _ ?_⟩
              unfold pFig
              rw [if_pos ⟨by omega, by omega, fun h => c0 (by have := hh _ hc; rw [h.1] at this; exact (Option.some.inj this).symm)⟩]
          · rw [decide_eq_false k16]
            refine iteT (q2 ?_)
            unfold pFig
            rw [if_neg (fun h => by omega)]
        · rw [decide_eq_false k1]
          refine iteF ?_
          refine ⟨_, rfl, ?_⟩
          refine iteT (q2 ?_)
          unfold pFig
          rw [if_neg (fun h => by omega)]
    · rw [decide_eq_false hlt]
      refine iteF ?_
      have ei : i = nD ((cs z).drop a) := by omega
      subst ei
      -- behind the signs
      have hh : ∀ c, (cs z)[a]? = some c → ((cs z).drop a).head? = some c := fun c e => by rw [List.head?_drop]; exact e
      refine ⟨_, rfl, _, rfl, _, _, rfl, rfl, _, _, rfl, rfl, _, rfl, ?_⟩
      have ed : ((a + nD ((cs z).drop a) : Nat) : Int) - (a : Nat) = (nD ((cs z).drop a) : Nat) := by omega
      rw [ed]
      by_cases k1 : (1 : Int) ≤ (nD ((cs z).drop a) : Nat)
      · rw [decide_eq_true k1]
        refine iteT ?_
        refine ⟨_, _, rfl, rfl, _, rfl, ?_⟩
        rw [ed]
        by_cases k16 : ((nD ((cs z).drop a) : Nat) : Int) ≤ 16
        · rw [decide_eq_true k16]
          refine iteF ?_
          obtain ⟨c, hc, _⟩ := tw_lt (p := isD) (s := (cs z).drop a) (i := 0) (by show 0 < nD ((cs z).drop a); omega)
          have hc : (cs z)[a]? = some c := by rw [List.getElem?_drop] at hc; exact hc
          refine ⟨_, rfl, _, rfl, z, _, c, rfl, rfl, zs, atI_nat hc, rfl, _, rfl, ?_⟩
          by_cases c0 : c = 48
          · subst c0
            refine iteT ?_
            refine ⟨_, rfl, _, rfl, _, _, rfl, rfl, _, _, rfl, rfl, _, rfl, ?_⟩
            rw [ed]
            by_cases k2 : ((nD ((cs z).drop a) : Nat) : Int) > 1
            · rw [decide_eq_true k2]
              refine iteT (q2 ?_)
              unfold pFig
              rw [if_neg (fun h => h.2.2 ⟨hh _ hc, by omega⟩)]
            · rw [decide_eq_false k2]
              refine iteF ?_
              refine ⟨_, rfl, q1 _ ?_⟩
              unfold pFig
              rw [if_pos ⟨by omega, by omega, fun h => by omega⟩]
          · rw [show decide (V.str ⟨#[c]⟩ = V.str "0") = false from decide_eq_false (fun e => by
              have e2 := congrArg (fun v => match v with | V.str x => x.cps.toList | _ => []) e
              have e3 : [c] = [48] := e2
              exact c0 (by injection e3))]
            refine iteF ?_
            refine ⟨_, rfl, q1 _ ?_⟩
            unfold pFig
            rw [if_pos ⟨by omega, by omega, fun h => c0 (by have := hh _ hc; rw [h.1] at this; exact (Option.some.inj this).symm)⟩]
        · rw [decide_eq_false k16]
          refine iteT (q2 ?_)
          unfold pFig
          rw [if_neg (fun h => by omega)]
      · rw [decide_eq_false k1]
        refine iteF ?_
        refine ⟨_, rfl, ?_⟩
        refine iteT (q2 ?_)
        unfold pFig
        rw [if_neg (fun h => by omega)]
abbrev s_word_end : Stmt := top 26
theorem sc_word_end : FnScope ["text", "at", "end"] ["text", "at"] (defScope s_word_end) := ⟨rfl, rfl, rfl, by decide +kernel, rfl, by decide +kernel, by decide +kernel⟩
theorem ok_word_end {f : Addr} {fd : FuncData} (F : Fun K "word_end" "word_end" s_word_end f fd) (T : Bl mg) (X_NoText : Exk K mg "NoText") : FnOk P w K mg base (L2.CX P w) 1 f fd ["text", "at"] (spEnd mg pWord) := by
  refine F.okX sc_word_end (fun vs H Q E h => ?_) (fun cdv A outer s H vs Q E hr h => ?_)
  · obtain ⟨z, a, rfl, _⟩ := h
    rfl
  · obtain ⟨z, a, rfl, lz, q1, q2⟩ := h
    refine ⟨_, (pss_cons (ps_set (i := 2) sc_word_end.nd rfl (Or.inl rfl) (pv 1))
      (pss_cons (ps_while (passes_of rfl) (PW.pt (pw_and (pt_cmpR op_lt (pv 2) (pe_callB call_len_str (by rfl) T.z_len (by decide +kernel) (pa_cons (pv 0) pa_nil)) (nomark _)) (pw_and1 (pt_cmpR op_in_sign (pe_ix ix_str (pv 0) (pv 2) (fun _ _ => rfl)) pe_str rfl)))) (pss_one (ps_set (i := 2) sc_word_end.nd rfl (Or.inl rfl) (pe_op op_add (pv 2) pe_int))))
      (pss_cons (ps_if (pt_cmpR op_eq (pv 2) (pv 1) (nomark _)) (pss_one (ps_raise rfl (takes_of rfl rfl rfl rfl) (pmk_x X_NoText))) pss_nil)
      (pss_one (ps_ret (pv 2)))))), ?_⟩
    have zs : z.length ≤ sizeLine := Nat.le_trans lz (by decide)
    have ez : z.length = (cs z).length := (Array.length_toList).symm
    have ns := tw_le (p := isL) ((cs z).drop a)
    have nle : nL ((cs z).drop a) ≤ (cs z).length - a := by rw [List.length_drop] at ns; exact ns
    refine ⟨_, rfl, ?_⟩
    refine ⟨fun m σ H2 => ∃ i : Nat, H2 = H ∧ σ = [some (.str z), some (.int (a : Nat)), some (.int ((a + i : Nat) : Int))] ∧ i ≤ nL ((cs z).drop a) ∧ m = nL ((cs z).drop a) - i, ⟨_, 0, rfl, rfl, Nat.zero_le _, rfl⟩, ?_⟩
    rintro m σ H2 ⟨i, rfl, rfl, hi, rfl⟩
    refine ⟨_, rfl, _, rfl, z, rfl, zs, _, _, rfl, rfl, _, rfl, ?_⟩
    by_cases hlt : ((a + i : Nat) : Int) < (z.length : Int)
    · rw [decide_eq_true hlt]
      refine iteT ?_
      have hz : a + i < (cs z).length := by omega
      have hc : (cs z)[a + i]? = some ((cs z)[a + i]) := List.getElem?_eq_getElem hz
      refine ⟨_, rfl, _, rfl, z, _, (cs z)[a + i], rfl, rfl, zs, atI_nat hc, (cs z)[a + i], "abcdefghijklmnopqrstuvwxyz", rfl, rfl, _, rfl, ?_⟩
      have hd : ((cs z).drop a)[i]? = some ((cs z)[a + i]) := by rw [List.getElem?_drop]; exact hc
      rw [show decide ((cs z)[a + i] ∈ ("abcdefghijklmnopqrstuvwxyz" : Str).cps.toList) = isL ((cs z)[a + i]) from in_letters _]
      by_cases hi2 : i < nL ((cs z).drop a)
      · obtain ⟨c, hc2, hp⟩ := tw_lt (p := isL) hi2
        rw [hd] at hc2
        rw [Option.some.inj hc2, hp]
        refine iteT ?_
        refine ⟨fun σ' H' => ∃ m', m' < nL ((cs z).drop a) - i ∧ ∃ i' : Nat, H' = H2 ∧ σ' = [some (.str z), some (.int (a : Nat)), some (.int ((a + i' : Nat) : Int))] ∧ i' ≤ nL ((cs z).drop a) ∧ m' = nL ((cs z).drop a) - i', fun σ' H' z => z, ?_⟩
        refine ⟨_, rfl, _, _, rfl, rfl, ?_⟩
        exact ⟨_, by omega, i + 1, rfl, rfl, by omega, rfl⟩
      · have ei : i = nL ((cs z).drop a) := by omega
        subst ei
        rw [tw_at (p := isL) hd]
        refine iteF ?_
        refine ⟨_, rfl, _, rfl, rfl, _, rfl, ?_⟩
        by_cases k0 : nL ((cs z).drop a) = 0
        · rw [show decide (V.int ((a + nL ((cs z).drop a) : Nat) : Int) = V.int (a : Nat)) = true from decide_eq_true (congrArg V.int (by omega))]
          refine iteT (q2 ?_)
          unfold pWord
          rw [if_pos k0]
        · rw [show decide (V.int ((a + nL ((cs z).drop a) : Nat) : Int) = V.int (a : Nat)) = false from decide_eq_false (fun e => by have := V.int.inj e; omega)]
          refine iteF ?_
          refine ⟨_, rfl, q1 _ ?_⟩
          unfold pWord
          rw [if_neg k0]
    · rw [decide_eq_false hlt]
      refine iteF ?_
      have ei : i = nL ((cs z).drop a) := by omega
      subst ei
      refine ⟨_, rfl, _, rfl, rfl, _, rfl, ?_⟩
      by_cases k0 : nL ((cs z).drop a) = 0
      · rw [show decide (V.int ((a + nL ((cs z).drop a) : Nat) : Int) = V.int (a : Nat)) = true from decide_eq_true (congrArg V.int (by omega))]
        refine iteT (q2 ?_)
        unfold pWord
        rw [if_pos k0]
      · rw [show decide (V.int ((a + nL ((cs z).drop a) : Nat) : Int) = V.int (a : Nat)) = false from decide_eq_false (fun e => by have := V.int.inj e; omega)]
        refine iteF ?_
        refine ⟨_, rfl, q1 _ ?_⟩
        unfold pWord
        rw [if_neg k0]
end
end LW

namespace LW
open PySem PySem.Spec PyProof.Rows L2 CC
section
variable {P : Program} {w : World} {K : PySem.W.Frag} {mg : Str → Option Value} {base : Heap}
abbrev s_read_called : Stmt := top 27
theorem sc_read_called : FnScope ["text", "at", "end", "when", "last"] ["text", "at"] (defScope s_read_called) := ⟨rfl, rfl, rfl, by decide +kernel, rfl, by decide +kernel, by decide +kernel⟩
theorem ok_read_called {f : Addr} {fd : FuncData} (F : Fun K "read_called" "read_called" s_read_called f fd) (T : Bl mg) (X_NoText : Exk K mg "NoText") (c_figures_end : Cal P w K mg base (L2.CX P w) 1 "figures_end" ["text", "at"] (spEnd mg pFig) []) (c_word_end : Cal P w K mg base (L2.CX P w) 1 "word_end" ["text", "at"] (spEnd mg pWord) []) : FnOk P w K mg base (L2.CX P w) 2 f fd ["text", "at"] (spRd mg pCl []) := by
  refine F.okX sc_read_called (fun vs H Q E h => ?_) (fun cdv A outer s H vs Q E hr h => ?_)
  · obtain ⟨z, a, rfl, _⟩ := h
    rfl
  · obtain ⟨z, a, rfl, lz, q1, q2⟩ := h
    obtain ⟨f_word_end, fd_word_end, ds_word_end, F_word_end, g_word_end, k_word_end, b_word_end, v_word_end⟩ := c_word_end.ex
    obtain ⟨f_figures_end, fd_figures_end, ds_figures_end, F_figures_end, g_figures_end, k_figures_end, b_figures_end, v_figures_end⟩ := c_figures_end.ex
    have hr : Room 1 (A.deeper _) := hr
    refine ⟨_, (pss_cons (ps_set (i := 2) sc_read_called.nd rfl (Or.inl rfl) (pe_op op_add (pv 1) pe_int))
      (pss_cons (ps_set (i := 3) sc_read_called.nd rfl (Or.inl rfl) (pe_slice sl_str (pv 0) (po_some (pv 1)) (po_some (pv 2))))
      (pss_cons (ps_if (pt_cmpR op_eq (pv 3) pe_str (nomark _)) (pss_cons (ps_set (i := 2) sc_read_called.nd rfl (Or.inl rfl) (pe_call F_figures_end (hr.mono (by omega)) rfl g_figures_end k_figures_end b_figures_end v_figures_end (passes_call (takes_of rfl rfl rfl rfl) fun _ _ _ _ h => h) (pa_cons (pv 0) (pa_cons (pe_op op_add (pv 1) pe_int) pa_nil)))) (pss_one (ps_set (i := 3) sc_read_called.nd rfl (Or.inl rfl) (pe_callTy call_int_str (by rfl) T.z_int (by decide +kernel) (pa_cons (pe_slice sl_str (pv 0) (po_some (pe_op op_add (pv 1) pe_int)) (po_some (pv 2))) pa_nil))))) (pss_one (ps_if (PW.pt (pw_and (pt_cmpR op_ne (pv 3) pe_str (nomark _)) (pw_and1 (pt_cmpR op_ne (pv 3) pe_str (nomark _))))) (pss_one (ps_raise rfl (takes_of rfl rfl rfl rfl) (pmk_x X_NoText))) pss_nil)))
      (pss_cons (ps_if (pt_cmpR op_ne (pe_slice sl_str (pv 0) (po_some (pv 2)) (po_some (pe_op op_add (pv 2) pe_int))) pe_str (nomark _)) (pss_one (ps_ret (pe_tup (pa_cons (pe_tup (pa_cons pe_str (pa_cons (pv 3) (pa_cons pe_non pa_nil)))) (pa_cons (pv 2) pa_nil))))) pss_nil)
      (pss_cons (ps_set (i := 4) sc_read_called.nd rfl (Or.inl rfl) (pe_call F_word_end (hr.mono (by omega)) rfl g_word_end k_word_end b_word_end v_word_end (passes_call (takes_of rfl rfl rfl rfl) fun _ _ _ _ h => h) (pa_cons (pv 0) (pa_cons (pe_op op_add (pv 2) pe_int) pa_nil))))
      (pss_one (ps_ret (pe_tup (pa_cons (pe_tup (pa_cons pe_str (pa_cons (pv 3) (pa_cons (pe_slice sl_str (pv 0) (po_some (pe_op op_add (pv 2) pe_int)) (po_some (pv 4))) pa_nil)))) (pa_cons (pv 4) pa_nil)))))))))), ?_⟩
    have zs : z.length ≤ sizeLine := Nat.le_trans lz (by decide)
    have dd : ∀ k, (cs z).drop (a + k) = ((cs z).drop a).drop k := fun k => by rw [List.drop_drop]
    refine ⟨_, rfl, _, _, rfl, rfl, ?_⟩
    refine ⟨_, rfl, _, rfl, _, rfl, _, rfl, _, rfl, z, rfl, zs, ?_⟩
    refine ⟨_, rfl, rfl, _, rfl, ?_⟩
    rw [show decide (V.str (cutS z (some ((a : Nat) : Int)) (some (((a : Nat) : Int) + 4))) = V.str "day ") = decide (((cs z).drop a).take 4 = sDay) from dec_cut z a (a + 4) 4 "day " sDay rfl cs_day]
    by_cases e1 : ((cs z).drop a).take 4 = sDay
    · rw [decide_eq_true e1]
      refine iteT ?_
      refine ⟨_, rfl, _, rfl, _, _, rfl, rfl, z, a + 4, rfl, lz, fun k hk => ?_, fun hn => ?_⟩
      · have hk' : pFig (((cs z).drop a).drop 4) = some k := by rw [← dd]; exact hk
        obtain ⟨i1, i2⟩ := int_of hk (b := a + 4 + k) (by omega)
        refine ⟨_, rfl, _, rfl, _, _, rfl, rfl, _, rfl, _, rfl, _, rfl, z, rfl, zs, _, _, rfl, i1, i2, ?_⟩
        have hp : pWhen ((cs z).drop a) = some (.int ((PySem.NumText.digitsVal (((cs z).drop (a + 4)).take k) : Nat) : Int), 4 + k) := by
          rw [dd]
          exact when_day e1 hk'
        have w2 : decide (V.str (cutS z (some (((a + 4 + k : Nat) : Int))) (some (((a + 4 + k : Nat) : Int) + 4))) = V.str " in ") = decide ((((cs z).drop a).drop ((4 + k))).take 4 = sIn) := by
          rw [show (((a + 4 + k : Nat) : Int) : Int) = ((a + ((4 + k)) : Nat) : Int) from by omega, ← dd]
          exact dec_cut z (a + ((4 + k))) (a + ((4 + k)) + 4) 4 " in " sIn rfl cs_in
        refine ⟨_, rfl, _, rfl, _, rfl, _, rfl, _, _, rfl, rfl, _, rfl, z, rfl, zs, rfl, _, rfl, ?_⟩
        rw [w2]
        by_cases ei : (((cs z).drop a).drop ((4 + k))).take 4 = sIn
        · rw [decide_eq_true ei]
          refine iteF ?_
          refine ⟨_, rfl, _, rfl, _, _, rfl, rfl, z, (a + 4 + k) + 4, rfl, lz, fun m hm => ?_, fun hn => ?_⟩
          · have hm' : pWord (((cs z).drop a).drop ((4 + k) + 4)) = some m := by rw [← dd, show a + ((4 + k) + 4) = (a + 4 + k) + 4 from by omega]; exact hm
            have ec : cutS z (some (((a + 4 + k : Nat) : Int) + 4)) (some (((a + 4 + k) + 4 + m : Nat) : Int)) = ⟨((((cs z).drop a).drop ((4 + k) + 4)).take m).toArray⟩ := by
              refine str_ext ?_
              show cs (cutS z (some (((a + 4 + k) + 4 : Nat) : Int)) (some (((a + 4 + k) + 4 + m : Nat) : Int))) = _
              rw [cut_list, Nat.add_sub_cancel_left, show (a + 4 + k) + 4 = a + ((4 + k) + 4) from by omega, dd]
            have hcl : pCl ((cs z).drop a) = some (.cl (.int ((PySem.NumText.digitsVal (((cs z).drop (a + 4)).take k) : Nat) : Int)) (.str (cutS z (some (((a + 4 + k : Nat) : Int) + 4)) (some (((a + 4 + k) + 4 + m : Nat) : Int)))), (4 + k) + 4 + m) := by
              rw [ec]
              exact cl_in hp ei hm'
            refine ⟨_, rfl, _, rfl, _, rfl, _, _, rfl, rfl, _, rfl, _, rfl, _, rfl, z, rfl, zs, (by show 3 ≤ sizeLine; decide), fun p hp1 => ⟨_, rfl, (by show 2 ≤ sizeLine; decide), fun r hr1 => ?_⟩⟩
            refine q1 _ _ hcl r (.ref p) _ ((Same.new hp1).trans (Same.new hr1)) (by rw [show a + ((4 + k) + 4 + m) = (a + 4 + k) + 4 + m from by omega]; exact upd_same) ?_
            unfold TldAt
            exact ⟨p, rfl, (Same.new hr1) _ _ upd_same⟩
          · have hn' : pWord (((cs z).drop a).drop ((4 + k) + 4)) = none := by rw [← dd, show a + ((4 + k) + 4) = (a + 4 + k) + 4 from by omega]; exact hn
            exact q2 (cl_bad hp ei hn') H (Same.refl H)
        · rw [decide_eq_false ei]
          refine iteT ?_
          refine ⟨_, rfl, (by show 3 ≤ sizeLine; decide), fun p hp1 => ⟨_, rfl, (by show 2 ≤ sizeLine; decide), fun r hr1 => ?_⟩⟩
          refine q1 _ _ (cl_non hp ei) r (.ref p) _ ((Same.new hp1).trans (Same.new hr1)) (by rw [show a + ((4 + k)) = (a + 4 + k) from by omega]; exact upd_same) ?_
          unfold TldAt
          exact ⟨p, rfl, (Same.new hr1) _ _ upd_same⟩
      · have hn' : pFig (((cs z).drop a).drop 4) = none := by rw [← dd]; exact hn
        exact q2 (cl_no (when_bad e1 hn')) H (Same.refl H)
    · rw [decide_eq_false e1]
      refine iteF ?_
      refine ⟨_, rfl, rfl, _, rfl, ?_⟩
      rw [show decide (V.str (cutS z (some ((a : Nat) : Int)) (some (((a : Nat) : Int) + 4))) = V.str "made") = decide (((cs z).drop a).take 4 = sMade) from dec_cut z a (a + 4) 4 "made" sMade rfl cs_made]
      by_cases e2 : ((cs z).drop a).take 4 = sMade
      · rw [decide_eq_true e2]
        refine iteF ?_
        have hp : pWhen ((cs z).drop a) = some (.str (cutS z (some ((a : Nat) : Int)) (some (((a : Nat) : Int) + 4))), 4) := by
          rw [show cutS z (some ((a : Nat) : Int)) (some (((a : Nat) : Int) + 4)) = "made" from take_is (b := a + 4) rfl e2 cs_made rfl]
          exact when_made e1 e2
        have w2 : decide (V.str (cutS z (some ((((a : Nat) : Int) + 4))) (some ((((a : Nat) : Int) + 4) + 4))) = V.str " in ") = decide ((((cs z).drop a).drop (4)).take 4 = sIn) := by
          rw [show ((((a : Nat) : Int) + 4) : Int) = ((a + (4) : Nat) : Int) from by omega, ← dd]
          exact dec_cut z (a + (4)) (a + (4) + 4) 4 " in " sIn rfl cs_in
        refine ⟨_, rfl, _, rfl, _, rfl, _, rfl, _, _, rfl, rfl, _, rfl, z, rfl, zs, rfl, _, rfl, ?_⟩
        rw [w2]
        by_cases ei : (((cs z).drop a).drop (4)).take 4 = sIn
        · rw [decide_eq_true ei]
          refine iteF ?_
          refine ⟨_, rfl, _, rfl, _, _, rfl, rfl, z, (a + 4) + 4, rfl, lz, fun m hm => ?_, fun hn => ?_⟩
          · have hm' : pWord (((cs z).drop a).drop (4 + 4)) = some m := by rw [← dd, show a + (4 + 4) = (a + 4) + 4 from by omega]; exact hm
            have ec : cutS z (some ((((a : Nat) : Int) + 4) + 4)) (some (((a + 4) + 4 + m : Nat) : Int)) = ⟨((((cs z).drop a).drop (4 + 4)).take m).toArray⟩ := by
              refine str_ext ?_
              show cs (cutS z (some (((a + 4) + 4 : Nat) : Int)) (some (((a + 4) + 4 + m : Nat) : Int))) = _
              rw [cut_list, Nat.add_sub_cancel_left, show (a + 4) + 4 = a + (4 + 4) from by omega, dd]
            have hcl : pCl ((cs z).drop a) = some (.cl (.str (cutS z (some ((a : Nat) : Int)) (some (((a : Nat) : Int) + 4)))) (.str (cutS z (some ((((a : Nat) : Int) + 4) + 4)) (some (((a + 4) + 4 + m : Nat) : Int)))), 4 + 4 + m) := by
              rw [ec]
              exact cl_in hp ei hm'
            refine ⟨_, rfl, _, rfl, _, rfl, _, _, rfl, rfl, _, rfl, _, rfl, _, rfl, z, rfl, zs, (by show 3 ≤ sizeLine; decide), fun p hp1 => ⟨_, rfl, (by show 2 ≤ sizeLine; decide), fun r hr1 => ?_⟩⟩
            refine q1 _ _ hcl r (.ref p) _ ((Same.new hp1).trans (Same.new hr1)) (by rw [show a + (4 + 4 + m) = (a + 4) + 4 + m from by omega]; exact upd_same) ?_
            unfold TldAt
            exact ⟨p, rfl, (Same.new hr1) _ _ upd_same⟩
          · have hn' : pWord (((cs z).drop a).drop (4 + 4)) = none := by rw [← dd, show a + (4 + 4) = (a + 4) + 4 from by omega]; exact hn
            exact q2 (cl_bad hp ei hn') H (Same.refl H)
        · rw [decide_eq_false ei]
          refine iteT ?_
          refine ⟨_, rfl, (by show 3 ≤ sizeLine; decide), fun p hp1 => ⟨_, rfl, (by show 2 ≤ sizeLine; decide), fun r hr1 => ?_⟩⟩
          refine q1 _ _ (cl_non hp ei) r (.ref p) _ ((Same.new hp1).trans (Same.new hr1)) (by rw [show a + (4) = (a + 4) from by omega]; exact upd_same) ?_
          unfold TldAt
          exact ⟨p, rfl, (Same.new hr1) _ _ upd_same⟩
      · rw [decide_eq_false e2]
        refine iteT ?_
        refine ⟨_, rfl, rfl, _, rfl, ?_⟩
        rw [show decide (V.str (cutS z (some ((a : Nat) : Int)) (some (((a : Nat) : Int) + 4))) = V.str "paid") = decide (((cs z).drop a).take 4 = sPaid) from dec_cut z a (a + 4) 4 "paid" sPaid rfl cs_paid]
        by_cases e3 : ((cs z).drop a).take 4 = sPaid
        · rw [decide_eq_true e3]
          refine iteF ?_
          have hp : pWhen ((cs z).drop a) = some (.str (cutS z (some ((a : Nat) : Int)) (some (((a : Nat) : Int) + 4))), 4) := by
            rw [show cutS z (some ((a : Nat) : Int)) (some (((a : Nat) : Int) + 4)) = "paid" from take_is (b := a + 4) rfl e3 cs_paid rfl]
            exact when_paid e1 e2 e3
          have w2 : decide (V.str (cutS z (some ((((a : Nat) : Int) + 4))) (some ((((a : Nat) : Int) + 4) + 4))) = V.str " in ") = decide ((((cs z).drop a).drop (4)).take 4 = sIn) := by
            rw [show ((((a : Nat) : Int) + 4) : Int) = ((a + (4) : Nat) : Int) from by omega, ← dd]
            exact dec_cut z (a + (4)) (a + (4) + 4) 4 " in " sIn rfl cs_in
          refine ⟨_, rfl, _, rfl, _, rfl, _, rfl, _, _, rfl, rfl, _, rfl, z, rfl, zs, rfl, _, rfl, ?_⟩
          rw [w2]
          by_cases ei : (((cs z).drop a).drop (4)).take 4 = sIn
          · rw [decide_eq_true ei]
            refine iteF ?_
            refine ⟨_, rfl, _, rfl, _, _, rfl, rfl, z, (a + 4) + 4, rfl, lz, fun m hm => ?_, fun hn => ?_⟩
            · have hm' : pWord (((cs z).drop a).drop (4 + 4)) = some m := by rw [← dd, show a + (4 + 4) = (a + 4) + 4 from by omega]; exact hm
              have ec : cutS z (some ((((a : Nat) : Int) + 4) + 4)) (some (((a + 4) + 4 + m : Nat) : Int)) = ⟨((((cs z).drop a).drop (4 + 4)).take m).toArray⟩ := by
                refine str_ext ?_
                show cs (cutS z (some (((a + 4) + 4 : Nat) : Int)) (some (((a + 4) + 4 + m : Nat) : Int))) = _
                rw [cut_list, Nat.add_sub_cancel_left, show (a + 4) + 4 = a + (4 + 4) from by omega, dd]
              have hcl : pCl ((cs z).drop a) = some (.cl (.str (cutS z (some ((a : Nat) : Int)) (some (((a : Nat) : Int) + 4)))) (.str (cutS z (some ((((a : Nat) : Int) + 4) + 4)) (some (((a + 4) + 4 + m : Nat) : Int)))), 4 + 4 + m) := by
                rw [ec]
                exact cl_in hp ei hm'
              refine ⟨_, rfl, _, rfl, _, rfl, _, _, rfl, rfl, _, rfl, _, rfl, _, rfl, z, rfl, zs, (by show 3 ≤ sizeLine; decide), fun p hp1 => ⟨_, rfl, (by show 2 ≤ sizeLine; decide), fun r hr1 => ?_⟩⟩
              refine q1 _ _ hcl r (.ref p) _ ((Same.new hp1).trans (Same.new hr1)) (by rw [show a + (4 + 4 + m) = (a + 4) + 4 + m from by omega]; exact upd_same) ?_
              unfold TldAt
              exact ⟨p, rfl, (Same.new hr1) _ _ upd_same⟩
            · have hn' : pWord (((cs z).drop a).drop (4 + 4)) = none := by rw [← dd, show a + (4 + 4) = (a + 4) + 4 from by omega]; exact hn
              exact q2 (cl_bad hp ei hn') H (Same.refl H)
          · rw [decide_eq_false ei]
            refine iteT ?_
            refine ⟨_, rfl, (by show 3 ≤ sizeLine; decide), fun p hp1 => ⟨_, rfl, (by show 2 ≤ sizeLine; decide), fun r hr1 => ?_⟩⟩
            refine q1 _ _ (cl_non hp ei) r (.ref p) _ ((Same.new hp1).trans (Same.new hr1)) (by rw [show a + (4) = (a + 4) from by omega]; exact upd_same) ?_
            unfold TldAt
            exact ⟨p, rfl, (Same.new hr1) _ _ upd_same⟩
        · rw [decide_eq_false e3]
          refine iteT ?_
          exact q2 (cl_no (when_no e1 e2 e3)) H (Same.refl H)
end
end LW

namespace LW
open PySem PySem.Spec PyProof.Rows L2 CC
section
variable {P : Program} {w : World} {K : PySem.W.Frag} {mg : Str → Option Value} {base : Heap}
abbrev s_read_rules : Stmt := top 28
theorem sc_read_rules : FnScope ["text", "at", "word", "many", "parts", "part"] ["text", "at", "word", "many"] (defScope s_read_rules) := ⟨rfl, rfl, rfl, by decide +kernel, rfl, by decide +kernel, by decide +kernel⟩
theorem ok_read_rules0 {f : Addr} {fd : FuncData} (F : Fun K "read_rules" "read_rules" s_read_rules f fd) (T0 : Bl mg) (T : Cn mg) (X_NoText : Exk K mg "NoText") (c_read_rule : Cal P w K mg base (L2.CX P w) 0 "read_rule" ["text", "at", "many"] (fun _ _ _ _ => False) []) : FnOk P w K mg base (L2.CX P w) 2 f fd ["text", "at", "word", "many"] (spRds mg 0) := by
  refine F.okX sc_read_rules (fun vs H Q E h => ?_) (fun cdv A outer s H vs Q E hr h => ?_)
  · obtain ⟨z, a, n, g, rfl, _⟩ := h
    rfl
  · obtain ⟨z, a, n, g, rfl, lz, ln, q1, q2⟩ := h
    obtain ⟨f_read_rule, fd_read_rule, ds_read_rule, F_read_rule, g_read_rule, k_read_rule, b_read_rule, v_read_rule⟩ := c_read_rule.ex
    obtain ⟨t1, h_MOST_OPEN⟩ := T.c_O
    have T := T0
    have hr : Room 1 (A.deeper _) := hr
    refine ⟨_, (pss_cons (ps_if (pt_cmpR op_gt (pv 3) (pe_glob (v := .int 20) rfl h_MOST_OPEN ⟨_, rfl⟩) (nomark _)) (pss_one (ps_raise rfl (takes_of rfl rfl rfl rfl) (pmk_x X_NoText))) pss_nil)
      (pss_cons (ps_set (i := 4) sc_read_rules.nd rfl (Or.inl rfl) (pe_lst (pa_cons (pv 2) pa_nil)))
      (pss_one (ps_while (passes_of rfl) (pt_val pe_bl) (pss_cons (ps_asg (pe_call F_read_rule (hr.mono (by omega)) rfl g_read_rule k_read_rule b_read_rule v_read_rule (passes_call (takes_of rfl rfl rfl rfl) fun _ _ _ _ h => h) (pa_cons (pv 0) (pa_cons (pv 1) (pa_cons (pv 3) pa_nil)))) (pg_tup (by rfl) (pgs_cons (pg_name (i := 5) sc_read_rules.nd rfl (Or.inl rfl)) (pgs_cons (pg_name (i := 1) sc_read_rules.nd rfl (Or.inl rfl)) pgs_nil)))) (pss_cons (ps_expr (pe_bm PySem.F.plainAttrs_list PySem.F.slot_list_append PySem.F.type_list_append mt_append (pv 4) (pa_cons (pv 5) pa_nil))) (pss_cons (ps_if (pt_cmpR op_eq (pe_slice sl_str (pv 0) (po_some (pv 1)) (po_some (pe_op op_add (pv 1) pe_int))) pe_str (nomark _)) (pss_one (ps_ret (pe_tup (pa_cons (pe_callTy call_tuple_of (by rfl) T.z_tuple (by decide +kernel) (pa_cons (pv 4) pa_nil)) (pa_cons (pe_op op_add (pv 1) pe_int) pa_nil))))) pss_nil) (pss_cons (ps_if (pt_cmpR op_ne (pe_slice sl_str (pv 0) (po_some (pv 1)) (po_some (pe_op op_add (pv 1) pe_int))) pe_str (nomark _)) (pss_one (ps_raise rfl (takes_of rfl rfl rfl rfl) (pmk_x X_NoText))) pss_nil) (pss_one (ps_set (i := 1) sc_read_rules.nd rfl (Or.inl rfl) (pe_op op_add (pv 1) pe_int))))))))))), ?_⟩
    refine ⟨_, rfl, _, _, rfl, rfl, _, rfl, ?_⟩
    refine iteT ?_
    exact q2 rfl H (Same.refl H)
theorem ok_read_rules {f : Addr} {fd : FuncData} (F : Fun K "read_rules" "read_rules" s_read_rules f fd) (T0 : Bl mg) (T : Cn mg) (X_NoText : Exk K mg "NoText") (e : Nat) (c_read_rule : Cal P w K mg base (L2.CX P w) (3 + 2 * e) "read_rule" ["text", "at", "many"] (spRd mg (pRule e) [.int (20 - (e : Int))]) []) : FnOk P w K mg base (L2.CX P w) (3 + 2 * e + 1) f fd ["text", "at", "word", "many"] (spRds mg (e + 1)) := by
  refine F.okX sc_read_rules (fun vs H Q E h => ?_) (fun cdv A outer s H vs Q E hr h => ?_)
  · obtain ⟨z, a, n, g, rfl, _⟩ := h
    rfl
  · obtain ⟨z, a, n, g, ev, lz, ln, q1, q2⟩ := h
    rw [show (21 : Int) - ((e + 1 : Nat) : Int) = 20 - (e : Int) from by omega] at ev
    subst ev
    obtain ⟨f_read_rule, fd_read_rule, ds_read_rule, F_read_rule, g_read_rule, k_read_rule, b_read_rule, v_read_rule⟩ := c_read_rule.ex
    obtain ⟨t1, h_MOST_OPEN⟩ := T.c_O
    have T := T0
    have hr : Room (3 + 2 * e) (A.deeper _) := hr
    refine ⟨_, (pss_cons (ps_if (pt_cmpR op_gt (pv 3) (pe_glob (v := .int 20) rfl h_MOST_OPEN ⟨_, rfl⟩) (nomark _)) (pss_one (ps_raise rfl (takes_of rfl rfl rfl rfl) (pmk_x X_NoText))) pss_nil)
      (pss_cons (ps_set (i := 4) sc_read_rules.nd rfl (Or.inl rfl) (pe_lst (pa_cons (pv 2) pa_nil)))
      (pss_one (ps_while (passes_of rfl) (pt_val pe_bl) (pss_cons (ps_asg (pe_call F_read_rule (hr.mono (by omega)) rfl g_read_rule k_read_rule b_read_rule v_read_rule (passes_call (takes_of rfl rfl rfl rfl) fun _ _ _ _ h => h) (pa_cons (pv 0) (pa_cons (pv 1) (pa_cons (pv 3) pa_nil)))) (pg_tup (by rfl) (pgs_cons (pg_name (i := 5) sc_read_rules.nd rfl (Or.inl rfl)) (pgs_cons (pg_name (i := 1) sc_read_rules.nd rfl (Or.inl rfl)) pgs_nil)))) (pss_cons (ps_expr (pe_bm PySem.F.plainAttrs_list PySem.F.slot_list_append PySem.F.type_list_append mt_append (pv 4) (pa_cons (pv 5) pa_nil))) (pss_cons (ps_if (pt_cmpR op_eq (pe_slice sl_str (pv 0) (po_some (pv 1)) (po_some (pe_op op_add (pv 1) pe_int))) pe_str (nomark _)) (pss_one (ps_ret (pe_tup (pa_cons (pe_callTy call_tuple_of (by rfl) T.z_tuple (by decide +kernel) (pa_cons (pv 4) pa_nil)) (pa_cons (pe_op op_add (pv 1) pe_int) pa_nil))))) pss_nil) (pss_cons (ps_if (pt_cmpR op_ne (pe_slice sl_str (pv 0) (po_some (pv 1)) (po_some (pe_op op_add (pv 1) pe_int))) pe_str (nomark _)) (pss_one (ps_raise rfl (takes_of rfl rfl rfl rfl) (pmk_x X_NoText))) pss_nil) (pss_one (ps_set (i := 1) sc_read_rules.nd rfl (Or.inl rfl) (pe_op op_add (pv 1) pe_int))))))))))), ?_⟩
    have zs : z.length ≤ sizeLine := Nat.le_trans lz (by decide)
    have ez : z.length = (cs z).length := (Array.length_toList).symm
    refine ⟨_, rfl, _, _, rfl, rfl, _, rfl, ?_⟩
    rw [show decide ((20 : Int) - (e : Int) > 20) = false from decide_eq_false (by omega)]
    refine iteF ?_
    refine ⟨_, rfl, (by show 1 ≤ sizeLine; decide), fun l hl => ?_⟩
    refine ⟨fun m σ H2 => ∃ (p k0 n' : Nat) (us : List V) (ts0 : List Tld) (v5 : Option V), σ = [some (.str z), some (.int (p : Nat)), some (.str (wd g)), some (.int (20 - (e : Int))), some (.ref l), v5] ∧ p = a + k0 ∧ m = n' ∧ (∀ b o, H b = some o → H2 b = some o) ∧ H2 l = some (.lst (.str (wd g) :: us)) ∧ TldAll H2 us ts0 ∧
      ((cs z).drop p).length < n' ∧ us.length ≤ k0 ∧ (us = [] ∨ p ≤ (cs z).length) ∧ (∀ ts k, pParts (pRule e) n' ((cs z).drop p) = some (ts, k) → pParts (pRule e) n ((cs z).drop a) = some (ts0 ++ ts, k0 + k)) ∧ (pParts (pRule e) n' ((cs z).drop p) = none → pParts (pRule e) n ((cs z).drop a) = none),
      ⟨n, a, 0, n, [], [], none, rfl, rfl, rfl, Same.new hl, upd_same, .nil, ln, Nat.zero_le _, .inl rfl, fun ts k h => (by rw [h, Nat.zero_add]; rfl), fun h => h⟩, ?_⟩
    rintro m σ H2 ⟨p, k0, n', us, ts0, v5, rfl, rfl, rfl, s2, hl2, A2, ln', lu, pl, f1, f2⟩
    refine ⟨_, rfl, ?_⟩
    refine iteT ?_
    refine ⟨fun σ' H' => ∃ m', m' < m ∧ ∃ (p k0 n' : Nat) (us : List V) (ts0 : List Tld) (v5 : Option V), σ' = [some (.str z), some (.int (p : Nat)), some (.str (wd g)), some (.int (20 - (e : Int))), some (.ref l), v5] ∧ p = a + k0 ∧ m' = n' ∧ (∀ b o, H b = some o → H' b = some o) ∧ H' l = some (.lst (.str (wd g) :: us)) ∧ TldAll H' us ts0 ∧
      ((cs z).drop p).length < n' ∧ us.length ≤ k0 ∧ (us = [] ∨ p ≤ (cs z).length) ∧ (∀ ts k, pParts (pRule e) n' ((cs z).drop p) = some (ts, k) → pParts (pRule e) n ((cs z).drop a) = some (ts0 ++ ts, k0 + k)) ∧ (pParts (pRule e) n' ((cs z).drop p) = none → pParts (pRule e) n ((cs z).drop a) = none), fun σ' H' z => z, ?_⟩
    obtain ⟨n1, rfl⟩ : ∃ n1, m = n1 + 1 := ⟨m - 1, by omega⟩
    refine ⟨_, rfl, _, rfl, _, rfl, z, a + k0, rfl, lz, fun t k hk r v H3 s3 h3 tt => ?_, fun hn H3 s3 => ?_⟩
    · refine ⟨r, _, rfl, SqT.of h3, rfl, _, _, rfl, _, _, rfl, rfl, ?_⟩
      have hl3 := s3 _ _ hl2
      have lus : us.length ≤ 100000 := by
        rcases pl with z | z
        · rw [z]; exact Nat.zero_le _
        · omega
      refine ⟨_, rfl, .inl ⟨rfl, _, SqL.of hl3⟩, _, rfl, l, _, _, rfl, rfl, hl3, Nat.lt_of_le_of_lt (Nat.succ_le_succ lus) (by decide), ?_⟩
      have s23 : ∀ b o, H b = some o → (upd H3 l (.lst (.str (wd g) :: us ++ [v]))) b = some o := fun b o eb => by
        rw [upd_ne (ne_of_none eb hl)]
        exact s3 _ _ (s2 _ _ eb)
      have tkl : TK H3 (upd H3 l (.lst (.str (wd g) :: us ++ [v]))) := TK.lst hl3
      have A4 : TldAll (upd H3 l (.lst (.str (wd g) :: us ++ [v]))) (us ++ [v]) (ts0 ++ [t]) := TldAll.app (TldAll.tk (fun _ _ ee => tkl _ _ (s3 _ _ ee)) ts0 A2) (TldAll.one (TldAt.tk tkl t tt))
      have hl4 : (upd H3 l (.lst (.str (wd g) :: us ++ [v]))) l = some (.lst (.str (wd g) :: (us ++ [v]))) := upd_same
      show _
      refine ⟨_, rfl, _, rfl, _, rfl, _, rfl, _, _, rfl, rfl, _, rfl, z, rfl, zs, rfl, _, rfl, ?_⟩
      have dd : ∀ j, (cs z).drop (a + k0 + j) = ((cs z).drop (a + k0)).drop j := fun j => by rw [List.drop_drop]
      rw [show decide (V.str (cutS z (some ((a + k0 + k : Nat) : Int)) (some (((a + k0 + k : Nat) : Int) + 1))) = V.str ")") = decide ((((cs z).drop (a + k0)).drop k).take 1 = [41]) from by
        rw [← dd]
        exact dec_cut z (a + k0 + k) (a + k0 + k + 1) 1 ")" [41] rfl cs_close]
      by_cases e1 : (((cs z).drop (a + k0)).drop k).take 1 = [41]
      · rw [decide_eq_true e1]
        refine iteT ?_
        refine ⟨_, rfl, l, _, rfl, .inl ⟨SqL.of hl4, fun p hp => ?_⟩⟩
        refine ⟨_, rfl, _, _, rfl, rfl, (by show 2 ≤ sizeLine; decide), fun r2 hr2 => ?_⟩
        have hq := f1 _ _ (parts_end (n := n1) hk e1)
        refine q1 _ _ hq r2 (.ref p) _ (fun b o eb => (Same.new hr2) _ _ ((Same.new hp) _ _ (s23 b o eb))) (by rw [show a + (k0 + (k + 1)) = a + k0 + k + 1 from by omega]; exact upd_same) ?_
        unfold TldAt
        exact ⟨p, us ++ [v], rfl, (Same.new hr2) _ _ upd_same, TldAll.tk ((TK.new hp).trans (TK.new hr2)) _ A4⟩
      · rw [decide_eq_false e1]
        refine iteF ?_
        refine ⟨_, rfl, _, rfl, _, rfl, _, rfl, _, _, rfl, rfl, _, rfl, z, rfl, zs, rfl, _, rfl, ?_⟩
        rw [show decide (V.str (cutS z (some ((a + k0 + k : Nat) : Int)) (some (((a + k0 + k : Nat) : Int) + 2))) = V.str ", ") = decide ((((cs z).drop (a + k0)).drop k).take 2 = [44, 32]) from by
          rw [← dd]
          exact dec_cut z (a + k0 + k) (a + k0 + k + 2) 2 ", " [44, 32] rfl cs_comma]
        by_cases e2 : (((cs z).drop (a + k0)).drop k).take 2 = [44, 32]
        · rw [decide_eq_true e2]
          refine iteF ?_
          have t2 := two_left e2
          rw [← dd, List.length_drop] at t2
          refine ⟨_, rfl, _, _, rfl, rfl, ?_⟩
          have pm := parts_more (n := n1) hk e1 e2
          rw [← dd, show a + k0 + (k + 2) = a + k0 + k + 2 from by omega] at pm
          refine ⟨n1, by omega, a + k0 + k + 2, k0 + k + 2, n1, us ++ [v], ts0 ++ [t], some v, rfl, by omega, rfl, s23, hl4, A4, ?_, ?_, .inr (by omega), fun ts j hj => ?_, fun hj => ?_⟩
          · rw [List.length_drop] at ln' ⊢
            omega
          · rw [List.length_append]
            show us.length + 1 ≤ _
            omega
          · rw [hj] at pm
            have := f1 _ _ pm
            rw [this, List.append_assoc, show k0 + (k + 2 + j) = k0 + k + 2 + j from by omega]
            rfl
          · rw [hj] at pm
            exact f2 pm
        · rw [decide_eq_false e2]
          refine iteT ?_
          exact q2 (f2 (parts_bad hk e1 e2)) _ s23
    · exact q2 (f2 (parts_no hn)) H3 fun b o eb => s3 _ _ (s2 _ _ eb)
end
end LW

namespace LW
open PySem PySem.Spec PyProof.Rows L2 CC
section
variable {P : Program} {w : World} {K : PySem.W.Frag} {mg : Str → Option Value} {base : Heap}
abbrev s_read_rule : Stmt := top 29
theorem sc_read_rule : FnScope ["text", "at", "many", "word", "end"] ["text", "at", "many"] (defScope s_read_rule) := ⟨rfl, rfl, rfl, by decide +kernel, rfl, by decide +kernel, by decide +kernel⟩
theorem ok_read_rule {f : Addr} {fd : FuncData} (F : Fun K "read_rule" "read_rule" s_read_rule f fd) (T : Bl mg) (d j : Nat) (hj : 2 ≤ j) (c_figures_end : Cal P w K mg base (L2.CX P w) 1 "figures_end" ["text", "at"] (spEnd mg pFig) []) (c_read_called : Cal P w K mg base (L2.CX P w) 2 "read_called" ["text", "at"] (spRd mg pCl []) []) (c_read_rules : Cal P w K mg base (L2.CX P w) j "read_rules" ["text", "at", "word", "many"] (spRds mg d) []) : FnOk P w K mg base (L2.CX P w) (j + 1) f fd ["text", "at", "many"] (spRd mg (pRule d) [.int (20 - (d : Int))]) := by
  refine F.okX sc_read_rule (fun vs H Q E h => ?_) (fun cdv A outer s H vs Q E hr h => ?_)
  · obtain ⟨z, a, rfl, _⟩ := h
    rfl
  · obtain ⟨z, a, rfl, lz, q1, q2⟩ := h
    obtain ⟨f_figures_end, fd_figures_end, ds_figures_end, F_figures_end, g_figures_end, k_figures_end, b_figures_end, v_figures_end⟩ := c_figures_end.ex
    obtain ⟨f_read_called, fd_read_called, ds_read_called, F_read_called, g_read_called, k_read_called, b_read_called, v_read_called⟩ := c_read_called.ex
    obtain ⟨f_read_rules, fd_read_rules, ds_read_rules, F_read_rules, g_read_rules, k_read_rules, b_read_rules, v_read_rules⟩ := c_read_rules.ex
    have hr : Room j (A.deeper _) := hr
    refine ⟨_, (pss_cons (ps_for (passes_of rfl) rfl (pi_tup (pe_tup (pa_cons pe_str (pa_cons pe_str pa_nil)))) (pg_name (i := 3) sc_read_rule.nd rfl (Or.inl rfl)) (pss_cons (ps_set (i := 4) sc_read_rule.nd rfl (Or.inl rfl) (pe_op op_add (pe_op op_add (pv 1) (pe_callB call_len_str (by rfl) T.z_len (by decide +kernel) (pa_cons (pv 3) pa_nil))) pe_int)) (pss_one (ps_if (pt_cmpR op_eq (pe_slice sl_str (pv 0) (po_some (pv 1)) (po_some (pv 4))) (pe_op op_add_str (pv 3) pe_str) (nomark _)) (pss_one (ps_ret (pe_call F_read_rules (hr.mono (by omega)) rfl g_read_rules k_read_rules b_read_rules v_read_rules (passes_call (takes_of rfl rfl rfl rfl) fun _ _ _ _ h => h) (pa_cons (pv 0) (pa_cons (pv 4) (pa_cons (pv 3) (pa_cons (pe_op op_add (pv 2) pe_int) pa_nil))))))) pss_nil))))
      (pss_cons (ps_if (pt_cmpR op_ne (pe_slice sl_str (pv 0) (po_some (pv 1)) (po_some (pe_op op_add (pv 1) pe_int))) pe_str (nomark _)) (pss_one (ps_ret (pe_call F_read_called (hr.mono (by omega)) rfl g_read_called k_read_called b_read_called v_read_called (passes_call (takes_of rfl rfl rfl rfl) fun _ _ _ _ h => h) (pa_cons (pv 0) (pa_cons (pv 1) pa_nil))))) pss_nil)
      (pss_cons (ps_set (i := 4) sc_read_rule.nd rfl (Or.inl rfl) (pe_call F_figures_end (hr.mono (by omega)) rfl g_figures_end k_figures_end b_figures_end v_figures_end (passes_call (takes_of rfl rfl rfl rfl) fun _ _ _ _ h => h) (pa_cons (pv 0) (pa_cons (pe_op op_add (pv 1) pe_int) pa_nil))))
      (pss_one (ps_ret (pe_tup (pa_cons (pe_tup (pa_cons pe_str (pa_cons (pe_callTy call_int_str (by rfl) T.z_int (by decide +kernel) (pa_cons (pe_slice sl_str (pv 0) (po_some (pe_op op_add (pv 1) pe_int)) (po_some (pv 4))) pa_nil)) pa_nil))) (pa_cons (pv 4) pa_nil)))))))), ?_⟩
    have zs : z.length ≤ sizeLine := Nat.le_trans lz (by decide)
    have dd : ∀ k, (cs z).drop (a + k) = ((cs z).drop a).drop k := fun k => by rw [List.drop_drop]
    have l5 : ("least" : Str).length = 5 := by decide +kernel
    have l8 : ("greatest" : Str).length = 8 := by decide +kernel
    have w1 : decide (V.str (cutS z (some ((a : Nat) : Int)) (some (((a : Nat) : Int) + (("least" : Str).length : Int) + 1))) = V.str (("least" : Str) ++ "(")) = decide (((cs z).drop a).take 6 = sLe) := by
      rw [l5]
      exact dec_cut z a (a + 6) 6 _ sLe rfl cs_le
    have w2 : decide (V.str (cutS z (some ((a : Nat) : Int)) (some (((a : Nat) : Int) + (("greatest" : Str).length : Int) + 1))) = V.str (("greatest" : Str) ++ "(")) = decide (((cs z).drop a).take 9 = sGr) := by
      rw [l8]
      exact dec_cut z a (a + 9) 9 _ sGr rfl cs_gr
    refine ⟨(by show 2 ≤ sizeLine; decide), fun tp htp => ⟨tp, rfl, ⟨_, SqT.of upd_same⟩, for_it walk_tup (fun i σ H2 => ∃ v3 v4 : Option V, H2 = upd H tp (.tup [.str "least", .str "greatest"]) ∧ σ = [some (.str z), some (.int (a : Nat)), some (.int (20 - (d : Int))), v3, v4] ∧ (1 ≤ i → ¬ ((cs z).drop a).take 6 = sLe) ∧ (2 ≤ i → ¬ ((cs z).drop a).take 9 = sGr))
      ⟨none, none, rfl, rfl, fun h => absurd h (by decide), fun h => absurd h (by decide)⟩ (fun i σ H2 _ h => by obtain ⟨_, _, rfl, _⟩ := h; exact SqT.of upd_same) ?_ ?_⟩⟩
    · rintro i x σ H2 H2' hi ⟨v3, v4, rfl, rfl, n1, n2⟩ ⟨rfl, hx⟩
      have hs2 : Same H (upd H tp (.tup [.str "least", .str "greatest"])) := Same.new htp
      have hi' : i < 2 := hi
      obtain rfl | rfl : i = 0 ∨ i = 1 := by omega
      · have ex : V.str "least" = x := Option.some.inj hx
        subst ex
        refine ⟨_, rfl, _, rfl, _, rfl, (by rw [l5]; decide), _, _, rfl, rfl, _, _, rfl, rfl, ?_⟩
        refine ⟨_, rfl, _, rfl, _, rfl, _, rfl, _, rfl, z, rfl, zs, _, rfl, _, _, rfl, rfl, (by rw [l5]; decide), rfl, _, rfl, ?_⟩
        rw [w1]
        by_cases e1 : ((cs z).drop a).take 6 = sLe
        · rw [decide_eq_true e1]
          refine iteT ?_
          refine ⟨_, rfl, _, rfl, _, rfl, _, rfl, _, _, rfl, rfl, z, a + 6, ((cs z).drop a).length + 1, false, ?_, lz, ?_, fun ts k hk r v H3 s3 h3 tt => ?_, fun hn H3 s3 => ?_⟩
          · rw [show (21 : Int) - (d : Int) = 20 - (d : Int) + 1 from by omega]
            show [V.str z, V.int (((a : Nat) : Int) + (("least" : Str).length : Int) + 1), V.str "least", _] = _
            rw [l5]
            rfl
          · rw [List.length_drop, List.length_drop]
            omega
          · rw [dd] at hk
            have hq := rule_le (d := d) e1
            rw [hk] at hq
            refine q1 _ _ hq r v H3 (fun b o eb => s3 _ _ (hs2 _ _ eb)) (by rw [h3, show a + 6 + k = a + (6 + k) from by omega]) tt
          · rw [dd] at hn
            have hq := rule_le (d := d) e1
            rw [hn] at hq
            exact q2 hq H3 fun b o eb => s3 _ _ (hs2 _ _ eb)
        · rw [decide_eq_false e1]
          refine iteF ?_
          exact ⟨_, _, rfl, rfl, fun _ => e1, fun h => absurd h (by decide)⟩
      · have ex : V.str "greatest" = x := Option.some.inj hx
        subst ex
        have e0 := n1 (Nat.le_refl 1)
        refine ⟨_, rfl, _, rfl, _, rfl, (by rw [l8]; decide), _, _, rfl, rfl, _, _, rfl, rfl, ?_⟩
        refine ⟨_, rfl, _, rfl, _, rfl, _, rfl, _, rfl, z, rfl, zs, _, rfl, _, _, rfl, rfl, (by rw [l8]; decide), rfl, _, rfl, ?_⟩
        rw [w2]
        by_cases e1 : ((cs z).drop a).take 9 = sGr
        · rw [decide_eq_true e1]
          refine iteT ?_
          refine ⟨_, rfl, _, rfl, _, rfl, _, rfl, _, _, rfl, rfl, z, a + 9, ((cs z).drop a).length + 1, true, ?_, lz, ?_, fun ts k hk r v H3 s3 h3 tt => ?_, fun hn H3 s3 => ?_⟩
          · rw [show (21 : Int) - (d : Int) = 20 - (d : Int) + 1 from by omega]
            show [V.str z, V.int (((a : Nat) : Int) + (("greatest" : Str).length : Int) + 1), V.str "greatest", _] = _
            rw [l8]
            rfl
          · rw [List.length_drop, List.length_drop]
            omega
          · rw [dd] at hk
            have hq := rule_gr (d := d) e0 e1
            rw [hk] at hq
            refine q1 _ _ hq r v H3 (fun b o eb => s3 _ _ (hs2 _ _ eb)) (by rw [h3, show a + 9 + k = a + (9 + k) from by omega]) tt
          · rw [dd] at hn
            have hq := rule_gr (d := d) e0 e1
            rw [hn] at hq
            exact q2 hq H3 fun b o eb => s3 _ _ (hs2 _ _ eb)
        · rw [decide_eq_false e1]
          refine iteF ?_
          exact ⟨_, _, rfl, rfl, fun _ => e0, fun _ => e1⟩
    · rintro σ H2 ⟨v3, v4, rfl, rfl, n1, n2⟩
      have e0 := n1 (by decide)
      have e1 := n2 (by decide)
      have hs2 : Same H (upd H tp (.tup [.str "least", .str "greatest"])) := Same.new htp
      generalize upd H tp (.tup [.str "least", .str "greatest"]) = H2 at hs2
      have hq := rule_leaf (d := d) e0 e1
      refine ⟨_, rfl, _, rfl, _, rfl, _, rfl, _, _, rfl, rfl, _, rfl, z, rfl, zs, rfl, _, rfl, ?_⟩
      rw [show decide (V.str (cutS z (some ((a : Nat) : Int)) (some (((a : Nat) : Int) + 3))) = V.str "at ") = decide (((cs z).drop a).take 3 = sAt) from dec_cut z a (a + 3) 3 "at " sAt rfl cs_at]
      by_cases e3 : ((cs z).drop a).take 3 = sAt
      · rw [decide_eq_true e3]
        refine iteF ?_
        rw [leaf_at e3] at hq
        refine ⟨_, rfl, _, rfl, _, _, rfl, rfl, z, a + 3, rfl, lz, fun k hk => ?_, fun hn => ?_⟩
        · obtain ⟨i1, i2⟩ := int_of hk (b := a + 3 + k) (by omega)
          rw [dd] at hk
          rw [hk] at hq
          refine ⟨_, rfl, _, rfl, _, _, rfl, rfl, _, rfl, _, rfl, _, rfl, z, rfl, zs, _, _, rfl, i1, i2, ?_⟩
          refine ⟨(by show 2 ≤ sizeLine; decide), fun p hp1 => ⟨_, rfl, (by show 2 ≤ sizeLine; decide), fun r hr1 => ?_⟩⟩
          refine q1 _ _ hq r (.ref p) _ (fun b o eb => (Same.new hr1) _ _ ((Same.new hp1) _ _ (hs2 _ _ eb))) (by rw [show a + (3 + k) = a + 3 + k from by omega]; exact upd_same) ?_
          unfold TldAt numV
          rw [← dd]
          exact ⟨p, rfl, (Same.new hr1) _ _ upd_same⟩
        · rw [dd] at hn
          rw [hn] at hq
          exact q2 hq H2 hs2
      · rw [decide_eq_false e3]
        refine iteT ?_
        rw [leaf_cl e3] at hq
        refine ⟨_, rfl, _, rfl, z, a, rfl, lz, fun t k hk r v H3 s3 h3 tt => ?_, fun hn H3 s3 => ?_⟩
        · rw [hk] at hq
          exact q1 _ _ hq r v H3 (fun b o eb => s3 _ _ (hs2 _ _ eb)) h3 tt
        · rw [hn] at hq
          exact q2 hq H3 fun b o eb => s3 _ _ (hs2 _ _ eb)
theorem ok_read {f1 f2 : Addr} {fd1 fd2 : FuncData} (F1 : Fun K "read_rules" "read_rules" s_read_rules f1 fd1) (F2 : Fun K "read_rule" "read_rule" s_read_rule f2 fd2) (g1 : mg "read_rules" = some (.ref f1)) (g2 : mg "read_rule" = some (.ref f2)) (b1 : Binds K fd1 ["text", "at", "word", "many"] []) (b2 : Binds K fd2 ["text", "at", "many"] []) (T0 : Bl mg) (T : Cn mg) (X_NoText : Exk K mg "NoText")
    (c_figures_end : Cal P w K mg base (L2.CX P w) 1 "figures_end" ["text", "at"] (spEnd mg pFig) []) (c_read_called : Cal P w K mg base (L2.CX P w) 2 "read_called" ["text", "at"] (spRd mg pCl []) []) : ∀ d : Nat, FnOk P w K mg base (L2.CX P w) (3 + 2 * d) f2 fd2 ["text", "at", "many"] (spRd mg (pRule d) [.int (20 - (d : Int))])
  | 0 => by
    have c0 : Cal P w K mg base (L2.CX P w) 0 "read_rule" ["text", "at", "many"] (fun _ _ _ _ => False) [] := ⟨f2, fd2, [], fnOk_false fun _ _ _ _ h => h, g2, F2.kp, b2, .nil⟩
    have h := ok_read_rules0 (P := P) (w := w) (base := base) F1 T0 T X_NoText c0
    have c1 : Cal P w K mg base (L2.CX P w) 2 "read_rules" ["text", "at", "word", "many"] (spRds mg 0) [] := ⟨f1, fd1, [], h, g1, F1.kp, b1, .nil⟩
    exact (ok_read_rule F2 T0 0 2 (Nat.le_refl 2) c_figures_end c_read_called c1).mono (by omega)
  | d + 1 => by
    have IH := ok_read F1 F2 g1 g2 b1 b2 T0 T X_NoText c_figures_end c_read_called d
    have c0 : Cal P w K mg base (L2.CX P w) (3 + 2 * d) "read_rule" ["text", "at", "many"] (spRd mg (pRule d) [.int (20 - (d : Int))]) [] := ⟨f2, fd2, [], IH, g2, F2.kp, b2, .nil⟩
    have h := ok_read_rules F1 T0 T X_NoText d c0
    have c1 : Cal P w K mg base (L2.CX P w) (3 + 2 * d + 1) "read_rules" ["text", "at", "word", "many"] (spRds mg (d + 1)) [] := ⟨f1, fd1, [], h, g1, F1.kp, b1, .nil⟩
    exact (ok_read_rule F2 T0 (d + 1) (3 + 2 * d + 1) (by omega) c_figures_end c_read_called c1).mono (by omega)
end
end LW

/-! PL: what is written is read -/
namespace CC
open PySem PySem.Spec PyProof.Rows L2
theorem dv_lt : ∀ (l : List Nat) (acc : Nat), PySem.NumText.AllDigits l → l.foldl (fun acc c => acc * 10 + (c - 48)) acc < (acc + 1) * 10 ^ l.length
  | [], acc, _ => by simp
  | c :: l, acc, h => by
    have hc := h.head
    have ih := dv_lt l (acc * 10 + (c - 48)) h.tail
    rw [List.foldl_cons, List.length_cons, Nat.pow_succ]
    refine Nat.lt_of_lt_of_le ih ?_
    rw [Nat.mul_comm (10 ^ l.length) 10, ← Nat.mul_assoc]
    exact Nat.mul_le_mul_right _ (by omega)
structure Num (n : Int) (ds : List Nat) : Prop where
  d : ∀ c ∈ ds, isD c = true
  l1 : 1 ≤ ds.length
  l7 : ds.length ≤ 7
  v : ((PySem.NumText.digitsVal ds : Nat) : Int) = n
  z : ¬ (ds.head? = some 48 ∧ 1 < ds.length)
theorem num_cs {n : Int} (h0 : 0 ≤ n) (h1 : n ≤ 1000000) : Num n (cs (Str.ofString (toString n))) := by
  have hl := num_len h0 h1
  obtain ⟨m, rfl⟩ := Int.eq_ofNat_of_zero_le h0
  have e := PySem.W.KIN.signs_num m
  have e : cs (Str.ofString (toString ((m : Nat) : Int))) = (Nat.toDigits 10 m).map Char.toNat := e
  have hd : PySem.NumText.AllDigits (cs (Str.ofString (toString ((m : Nat) : Int)))) := fun c hc => by
    rw [e] at hc
    obtain ⟨ch, hch, e2⟩ := List.mem_map.mp hc
    rw [← e2]
    exact digit_range (Nat.isDigit_of_mem_toDigits (by decide) (by decide) hch)
  have hv : PySem.NumText.digitsVal (cs (Str.ofString (toString ((m : Nat) : Int)))) = m := by rw [e, PySem.W.KIN.val_back]
  have hlen : (cs (Str.ofString (toString ((m : Nat) : Int)))).length = (Nat.toDigits 10 m).length := by rw [e, List.length_map]
  have hlz : (cs (Str.ofString (toString ((m : Nat) : Int)))).length = (Str.ofString (toString ((m : Nat) : Int))).length := Array.length_toList
  refine ⟨fun c hc => ?_, ?_, by omega, by rw [hv], fun ⟨z1, z2⟩ => ?_⟩
  · have := hd c hc
    unfold isD
    rw [decide_eq_true this.1, decide_eq_true this.2]
    rfl
  · rw [hlen]; exact tDigits_len_ge 10 m
  · generalize cs (Str.ofString (toString ((m : Nat) : Int))) = ds at *
    cases ds with
    | nil => cases z1
    | cons c tl =>
      have ec : c = 48 := Option.some.inj z1
      subst ec
      have ht := dv_lt tl 0 hd.tail
      have e3 : PySem.NumText.digitsVal (48 :: tl) = tl.foldl (fun acc c => acc * 10 + (c - 48)) 0 := rfl
      rw [← e3, hv, Nat.zero_add, Nat.one_mul] at ht
      rw [List.length_cons] at z2 hlen
      have := digits10_le (k := tl.length) (by omega) ht
      omega
/-- what may stand behind a rule -/
def okR (r : List Nat) : Prop := r = [] ∨ ∃ q, r = 41 :: q ∨ r = 44 :: q
theorem tw_app {p : Nat → Bool} : ∀ {l r : List Nat}, (∀ c ∈ l, p c = true) → (∀ c q, r = c :: q → p c = false) → (l ++ r).takeWhile p = l
  | [], r, _, h => by
    cases r with
    | nil => rfl
    | cons c q => rw [List.nil_append, List.takeWhile_cons, h c q rfl]; rfl
  | c :: l, r, h, h2 => by
    rw [List.cons_append, List.takeWhile_cons, h c (List.mem_cons_self ..)]
    show c :: (l ++ r).takeWhile p = _
    rw [tw_app (fun d hd => h d (List.mem_cons_of_mem _ hd)) h2]
theorem fig_num {n : Int} {ds r : List Nat} (h : Num n ds) (hr : ∀ c q, r = c :: q → isD c = false) : pFig (ds ++ r) = some ds.length ∧ numV ((ds ++ r).take ds.length) = .int n := by
  have e : nD (ds ++ r) = ds.length := by unfold nD; rw [tw_app h.d hr]
  refine ⟨?_, ?_⟩
  · unfold pFig
    rw [e]
    refine if_pos ⟨h.l1, Nat.le_trans h.l7 (by decide), fun z => h.z ⟨?_, z.2⟩⟩
    have := h.l1
    cases ds with
    | nil => simp at this
    | cons c l => exact z.1
  · unfold numV
    rw [List.take_left, h.v]
theorem word_nm {x : Str} {r : List Nat} (h : nm x = true) (hr : ∀ c q, r = c :: q → isL c = false) : pWord (cs x ++ r) = some (cs x).length ∧ (cs x ++ r).take (cs x).length = cs x := by
  obtain ⟨h1, h8, hc⟩ := nm_iff.mp h
  have hl : (cs x).length = x.length := Array.length_toList
  have e : nL (cs x ++ r) = (cs x).length := by
    unfold nL
    rw [tw_app (fun c hcm => by
      have := hc c hcm
      unfold isL
      rw [decide_eq_true this.1, decide_eq_true this.2]
      rfl) hr]
  refine ⟨?_, List.take_left⟩
  unfold pWord
  rw [e]
  exact if_neg (by omega)
theorem okR_D {r : List Nat} (h : okR r) : ∀ c q, r = c :: q → isD c = false := by
  rintro c q rfl
  rcases h with h | ⟨_, h | h⟩
  · cases h
  · cases h; decide
  · cases h; decide
theorem okR_L {r : List Nat} (h : okR r) : ∀ c q, r = c :: q → isL c = false := by
  rintro c q rfl
  rcases h with h | ⟨_, h | h⟩
  · cases h
  · cases h; decide
  · cases h; decide
theorem okR_in {r : List Nat} (h : okR r) : ¬ r.take 4 = sIn := by
  rcases h with h | ⟨q, h | h⟩ <;> subst h <;> intro e
  · cases e
  · have : (41 : Nat) = 32 := by
      have := congrArg List.head? e
      exact Option.some.inj this
    exact absurd this (by decide)
  · have : (44 : Nat) = 32 := by
      have := congrArg List.head? e
      exact Option.some.inj this
    exact absurd this (by decide)
/-- by the first sign -/
theorem take_ne {s L : List Nat} {c k : Nat} {l : List Nat} {x : Nat} {y : List Nat} (hs : s = c :: l) (hL : L = x :: y) (h : c ≠ x) : ¬ s.take (k + 1) = L := by
  subst hs hL
  intro e
  rw [List.take_succ_cons] at e
  injection e with e _
  exact h e
abbrev tx (t : Tld) : List Nat := cs (txT t)
theorem whS_when {w : V} {r : List Nat} (h : whOk w) (hr : ∀ c q, r = c :: q → isD c = false) : pWhen (cs (whS w) ++ r) = some (w, (cs (whS w)).length) := by
  rcases h with h | h | ⟨n, h, h0, h1⟩ <;> subst h
  · show pWhen (cs ("made" : Str) ++ r) = some (_, (cs ("made" : Str)).length)
    rw [cs_made]
    exact when_made (s := sMade ++ r) (by rw [show (sMade ++ r).take 4 = sMade from rfl]; decide) rfl
  · show pWhen (cs ("paid" : Str) ++ r) = some (_, (cs ("paid" : Str)).length)
    rw [cs_paid]
    exact when_paid (s := sPaid ++ r) (by rw [show (sPaid ++ r).take 4 = sPaid from rfl]; decide) (by rw [show (sPaid ++ r).take 4 = sPaid from rfl]; decide) rfl
  · have e : cs (whS (.int n)) = sDay ++ cs (Str.ofString (toString n)) := by
      show cs ("day " ++ Str.ofString (toString n)) = _
      rw [show cs (("day " : Str) ++ Str.ofString (toString n)) = cs ("day " : Str) ++ cs (Str.ofString (toString n)) from app_list _ _, cs_day]
    obtain ⟨f1, f2⟩ := fig_num (num_cs h0 (by omega)) hr
    rw [e, List.append_assoc]
    have := when_day (s := sDay ++ (cs (Str.ofString (toString n)) ++ r)) rfl (show pFig ((sDay ++ (cs (Str.ofString (toString n)) ++ r)).drop 4) = _ from f1)
    rw [this, show (sDay ++ (cs (Str.ofString (toString n)) ++ r)).drop 4 = cs (Str.ofString (toString n)) ++ r from rfl, f2, List.length_append]
    rfl
theorem leaf_tx {t : Tld} {r : List Nat} (h : AllLf lvOk clOk t) (hs : kd t ∈ (["Level", "Called"] : List Str)) (hr : okR r) : pLeaf (tx t ++ r) = some (t, (tx t).length) ∧ ∃ c l, tx t ++ r = c :: l ∧ c ≠ 108 ∧ c ≠ 103 := by
  rcases kd_leaf hs with ⟨v, rfl⟩ | ⟨w, u, rfl⟩
  · unfold AllLf at h
    obtain ⟨n, rfl, h0, h1⟩ := h
    have e : tx (.lv (.int n)) = sAt ++ cs (Str.ofString (toString n)) := by
      show cs (txT _) = _
      unfold txT
      show cs (("at " : Str) ++ Str.ofString (toString n)) = _
      rw [show cs (("at " : Str) ++ Str.ofString (toString n)) = cs ("at " : Str) ++ cs (Str.ofString (toString n)) from app_list _ _, cs_at]
    obtain ⟨f1, f2⟩ := fig_num (num_cs h0 h1) (okR_D hr)
    rw [e, List.append_assoc]
    refine ⟨?_, 97, _, rfl, by decide, by decide⟩
    rw [leaf_at (s := sAt ++ (cs (Str.ofString (toString n)) ++ r)) rfl, show (sAt ++ (cs (Str.ofString (toString n)) ++ r)).drop 3 = cs (Str.ofString (toString n)) ++ r from rfl, f1]
    show some (Tld.lv (numV ((cs (Str.ofString (toString n)) ++ r).take (cs (Str.ofString (toString n))).length)), _) = _
    rw [f2, List.length_append]
    rfl
  · unfold AllLf at h
    obtain ⟨hw, hu⟩ := h
    have hw : whOk w := hw
    have hu : twOk u := hu
    have hc : ∀ q : List Nat, ∃ c l, cs (whS w) ++ q = c :: l ∧ c ≠ 108 ∧ c ≠ 103 ∧ c ≠ 97 := fun q => by
      rcases hw with h | h | ⟨n, h, _⟩ <;> subst h
      · refine ⟨109, [97, 100, 101] ++ q, ?_, by decide, by decide, by decide⟩
        show cs ("made" : Str) ++ q = _
        rw [cs_made]; rfl
      · refine ⟨112, [97, 105, 100] ++ q, ?_, by decide, by decide, by decide⟩
        show cs ("paid" : Str) ++ q = _
        rw [cs_paid]; rfl
      · refine ⟨100, [97, 121, 32] ++ cs (Str.ofString (toString n)) ++ q, ?_, by decide, by decide, by decide⟩
        show cs ("day " ++ Str.ofString (toString n)) ++ q = _
        rw [show cs (("day " : Str) ++ Str.ofString (toString n)) = cs ("day " : Str) ++ cs (Str.ofString (toString n)) from app_list _ _, cs_day]; rfl
    rcases hu with h | ⟨x, h, hx⟩ <;> subst h
    · have e : tx (.cl w .non) = cs (whS w) := by
        show cs (txT _) = _
        unfold txT
        rfl
      rw [e]
      obtain ⟨c, l, e1, c1, c2, c3⟩ := hc r
      refine ⟨?_, c, l, e1, c1, c2⟩
      rw [leaf_cl (take_ne e1 (show sAt = 97 :: [116, 32] from rfl) c3)]
      refine cl_non (whS_when hw (okR_D hr)) ?_
      rw [List.drop_left]
      exact okR_in hr
    · have e : tx (.cl w (.str x)) = cs (whS w) ++ (sIn ++ cs x) := by
        show cs (txT _) = _
        unfold txT
        show cs (whS w ++ " in " ++ x) = _
        rw [show cs (whS w ++ " in " ++ x) = cs (whS w ++ " in ") ++ cs x from app_list _ _, show cs (whS w ++ " in ") = cs (whS w) ++ cs (" in " : Str) from app_list _ _, cs_in, List.append_assoc]
      obtain ⟨f1, f2⟩ := word_nm hx (okR_L hr)
      rw [e, List.append_assoc, List.append_assoc]
      obtain ⟨c, l, e1, c1, c2, c3⟩ := hc (sIn ++ (cs x ++ r))
      refine ⟨?_, c, l, e1, c1, c2⟩
      rw [leaf_cl (take_ne e1 (show sAt = 97 :: [116, 32] from rfl) c3)]
      have hd4 : (cs (whS w) ++ (sIn ++ (cs x ++ r))).drop ((cs (whS w)).length + 4) = cs x ++ r := by
        rw [← List.drop_drop, List.drop_left]
        rfl
      have := cl_in (s := cs (whS w) ++ (sIn ++ (cs x ++ r))) (m := (cs x).length) (whS_when hw (fun c q e => by
        have e2 : c = 32 := by injection e with e _; exact e.symm
        rw [e2]; decide)) (by rw [List.drop_left]; rfl) (by rw [hd4]; exact f1)
      rw [this, hd4, f2]
      have ex : (⟨(cs x).toArray⟩ : Str) = x := str_ext rfl
      rw [ex, List.length_append, List.length_append]
      show some (_, (cs (whS w)).length + 4 + (cs x).length) = some (_, (cs (whS w)).length + (4 + (cs x).length))
      rw [Nat.add_assoc]
abbrev jn (ts : List Tld) : List Nat := cs (Txt.join ", " (txL ts))
theorem jn_one (t : Tld) : jn [t] = tx t := by
  show cs (Txt.join ", " (txL [t])) = _
  rw [show Txt.join ", " (txL [t]) = Str.join ", " (txL [t]) from PySem.StrLaws.glued_eq_join _ _, txL_map]
  rfl
theorem jn_more (t u : Tld) (ts : List Tld) : jn (t :: u :: ts) = tx t ++ ([44, 32] ++ jn (u :: ts)) := by
  show cs (Txt.join ", " (txL (t :: u :: ts))) = _ ++ (_ ++ cs (Txt.join ", " (txL (u :: ts))))
  rw [show Txt.join ", " (txL (t :: u :: ts)) = Str.join ", " (txL (t :: u :: ts)) from PySem.StrLaws.glued_eq_join _ _, show Txt.join ", " (txL (u :: ts)) = Str.join ", " (txL (u :: ts)) from PySem.StrLaws.glued_eq_join _ _, txL_map, txL_map]
  show cs (txT t ++ ", " ++ Str.join ", " ((u :: ts).map txT)) = _
  rw [show cs (txT t ++ ", " ++ Str.join ", " ((u :: ts).map txT)) = cs (txT t ++ ", ") ++ cs (Str.join ", " ((u :: ts).map txT)) from app_list _ _, show cs (txT t ++ ", ") = cs (txT t) ++ cs (", " : Str) from app_list _ _, cs_comma, List.append_assoc]
theorem jn_len : ∀ ts : List Tld, ts.length ≤ (jn ts).length + 1
  | [] => Nat.zero_le _
  | [t] => by simp
  | t :: u :: ts => by
    have := jn_len (u :: ts)
    rw [jn_more, List.length_append, List.length_append]
    simp only [List.length_cons, List.length_nil] at this ⊢
    omega
theorem tx_mx (g : Bool) (ts : List Tld) : tx (.mx g ts) = (if g then sGr else sLe) ++ (jn ts ++ [41]) := by
  show cs (txT _) = _
  unfold txT
  rw [show cs (wd g ++ "(" ++ Txt.join ", " (txL ts) ++ ")") = cs (wd g ++ "(" ++ Txt.join ", " (txL ts)) ++ cs (")" : Str) from app_list _ _, show cs (wd g ++ "(" ++ Txt.join ", " (txL ts)) = cs (wd g ++ "(") ++ jn ts from app_list _ _, cs_close, List.append_assoc]
  cases g
  · rw [show cs (wd false ++ "(") = sLe from cs_le]; rfl
  · rw [show cs (wd true ++ "(") = sGr from cs_gr]; rfl
mutual
theorem rule_tx : ∀ (t : Tld) (d : Nat) (r : List Nat), AllLf lvOk clOk t → ShpT t → deepT t ≤ d + 1 → okR r → pRule d (tx t ++ r) = some (t, (tx t).length)
  | .lv v, d, r, h, _, _, hr => by
    obtain ⟨e, c, l, e1, c1, c2⟩ := leaf_tx (r := r) h (by simp [kd]) hr
    rw [rule_leaf (take_ne e1 (show sLe = 108 :: _ from rfl) c1) (take_ne e1 (show sGr = 103 :: _ from rfl) c2)]
    exact e
  | .cl w u, d, r, h, _, _, hr => by
    obtain ⟨e, c, l, e1, c1, c2⟩ := leaf_tx (r := r) h (by simp [kd]) hr
    rw [rule_leaf (take_ne e1 (show sLe = 108 :: _ from rfl) c1) (take_ne e1 (show sGr = 103 :: _ from rfl) c2)]
    exact e
  | .mx g ts, d, r, h, s, dp, hr => by
    unfold AllLf at h
    unfold ShpT at s
    simp only [deepT] at dp
    have ne : ts ≠ [] := fun z => by rw [z] at s; simp at s
    obtain ⟨t0, ht0, e0⟩ := deepL_mem ne
    have p0 := deepT_pos t0
    obtain ⟨d, rfl⟩ : ∃ e, d = e + 1 := ⟨d - 1, by omega⟩
    have jl := jn_len ts
    rw [tx_mx]
    cases g with
    | false =>
      show pRule (d + 1) ((sLe ++ (jn ts ++ [41])) ++ r) = some (_, (sLe ++ (jn ts ++ [41])).length)
      rw [List.append_assoc, List.append_assoc]
      have ih := parts_tx ts d ((sLe ++ (jn ts ++ ([41] ++ r))).length + 1) r ne h s.2.2 (by omega) (by simp only [List.length_append]; omega)
      rw [rule_le (d := d + 1) (s := sLe ++ (jn ts ++ ([41] ++ r))) rfl, show List.drop 6 (sLe ++ (jn ts ++ ([41] ++ r))) = jn ts ++ 41 :: r from rfl]
      show (pParts (pRule d) _ _).map _ = _
      rw [ih, List.length_append, List.length_append]
      rfl
    | true =>
      show pRule (d + 1) ((sGr ++ (jn ts ++ [41])) ++ r) = some (_, (sGr ++ (jn ts ++ [41])).length)
      rw [List.append_assoc, List.append_assoc]
      have ih := parts_tx ts d ((sGr ++ (jn ts ++ ([41] ++ r))).length + 1) r ne h s.2.2 (by omega) (by simp only [List.length_append]; omega)
      rw [rule_gr (d := d + 1) (s := sGr ++ (jn ts ++ ([41] ++ r))) (take_ne (k := 5) (show sGr ++ (jn ts ++ ([41] ++ r)) = 103 :: _ from rfl) (show sLe = 108 :: _ from rfl) (by decide)) rfl, show List.drop 9 (sGr ++ (jn ts ++ ([41] ++ r))) = jn ts ++ 41 :: r from rfl]
      show (pParts (pRule d) _ _).map _ = _
      rw [ih, List.length_append, List.length_append]
      rfl
theorem parts_tx : ∀ (ts : List Tld) (d n : Nat) (r : List Nat), ts ≠ [] → AllLs lvOk clOk ts → ShpL ts → deepL ts ≤ d + 1 → ts.length ≤ n → pParts (pRule d) n (jn ts ++ 41 :: r) = some (ts, (jn ts).length + 1)
  | [], _, _, _, h, _, _, _, _ => absurd rfl h
  | [t], d, n, r, _, h, s, dp, hn => by
    unfold AllLs at h
    unfold ShpL at s
    simp only [deepL] at dp
    obtain ⟨n, rfl⟩ : ∃ m, n = m + 1 := ⟨n - 1, by simp only [List.length_cons] at hn; omega⟩
    have e := rule_tx t d (41 :: r) h.1 s.1 (by omega) (.inr ⟨r, .inl rfl⟩)
    rw [jn_one]
    exact parts_end e (by rw [List.drop_left]; rfl)
  | t :: u :: ts, d, n, r, _, h, s, dp, hn => by
    unfold AllLs at h
    unfold ShpL at s
    rw [deepL] at dp
    obtain ⟨n, rfl⟩ : ∃ m, n = m + 1 := ⟨n - 1, by simp only [List.length_cons] at hn; omega⟩
    have ih := parts_tx (u :: ts) d n r (by simp) h.2 s.2 (by omega) (by simp only [List.length_cons] at hn ⊢; omega)
    have e := rule_tx t d (44 :: (32 :: (jn (u :: ts) ++ 41 :: r))) h.1 s.1 (by omega) (.inr ⟨_, .inr rfl⟩)
    rw [jn_more, List.append_assoc, List.append_assoc]
    have ee : tx t ++ ([44, 32] ++ (jn (u :: ts) ++ 41 :: r)) = tx t ++ 44 :: (32 :: (jn (u :: ts) ++ 41 :: r)) := rfl
    rw [ee, parts_more e (by rw [List.drop_left]; exact fun z => by cases z) (by rw [List.drop_left]; rfl), ← List.drop_drop, List.drop_left]
    show (pParts (pRule d) n (jn (u :: ts) ++ 41 :: r)).map _ = _
    rw [ih, List.length_append, List.length_append]
    show some (_, (tx t).length + 2 + ((jn (u :: ts)).length + 1)) = some (_, (tx t).length + (2 + (jn (u :: ts)).length) + 1)
    rw [show (tx t).length + 2 + ((jn (u :: ts)).length + 1) = (tx t).length + (2 + (jn (u :: ts)).length) + 1 from by omega]
end
theorem Disp.goS {P : Program} {w : World} {K : PySem.W.Frag} {mg : Str → Option Value} {base : Heap} {j n : Nat} {R : Tld → Hp → V → Prop} {H : Hp} {a : Addr} {t : Tld} {Q : VK} (D : Disp P w K mg base j "__str__" n R) (h : ObAt mg H (.ref a) t) (ok : okT n t) (q : ∀ v H', Same H H' → R t H' v → (∃ y, v = .str y) ∧ Q v H') : rStrD P w K mg base j [.ref a] H Q := by
  obtain ⟨dx, fs, h1, h2⟩ := h.ins
  obtain ⟨cs, hc, M⟩ := D.of (kd t) (kd_in t)
  exact ⟨a, _, dx, fs, _, rfl, h1, M, a, t, rfl, hc, h, ok, q⟩
/-- a text that is due is read: the rule is made -/
def spReadTerm (mg : Str → Option Value) (n : Nat) : Sp := fun vs H Q _ => ∃ (z : Str) (t : Tld), vs = [.str z] ∧ z.length ≤ 100000 ∧ pRule 20 (cs z) = some (t, z.length) ∧ okT n t ∧ rulesT t ≤ 60 ∧ deepT t ≤ 8 ∧ ∀ b H', Same H H' → ObAt mg H' (.ref b) t → Q (.ref b) H'
mutual
theorem AllLf.imp {p p' : V → Prop} {q q' : V × V → Prop} (hp : ∀ v, p v → p' v) (hq : ∀ c, q c → q' c) : ∀ {t : Tld}, AllLf p q t → AllLf p' q' t
  | .lv v, h => by unfold AllLf at h ⊢; exact hp _ h
  | .cl w u, h => by unfold AllLf at h ⊢; exact hq _ h
  | .mx g ts, h => by unfold AllLf at h ⊢; exact AllLs.imp hp hq h
theorem AllLs.imp {p p' : V → Prop} {q q' : V × V → Prop} (hp : ∀ v, p v → p' v) (hq : ∀ c, q c → q' c) : ∀ {ts : List Tld}, AllLs p q ts → AllLs p' q' ts
  | [], _ => by unfold AllLs; trivial
  | t :: ts, h => by unfold AllLs at h ⊢; exact ⟨AllLf.imp hp hq h.1, AllLs.imp hp hq h.2⟩
end
def spLaw (K : PySem.W.Frag) : Sp := fun vs H Q _ => ∃ (a : Addr) (ns : List Int), vs = [.ref a] ∧ SqL K H a (ns.map V.int) ∧ ns.length ≤ 63 ∧ ∀ H', Q (.bl true) H'
theorem read_due {t : Tld} (ok : okT 8 t) : pRule 20 (cs (txT t)) = some (t, (txT t).length) ∧ (txT t).length ≤ 100000 := by
  have h1 := rule_tx t 20 [] ok.l ok.s (by have := ok.d; omega) (.inl rfl)
  rw [List.append_nil] at h1
  refine ⟨by rw [h1]; rw [show (tx t).length = (txT t).length from Array.length_toList], ?_⟩
  have := tx_len ok.l
  have := ok.r
  omega
end CC

namespace LW
open PySem PySem.Spec PyProof.Rows L2 CC
section
variable {P : Program} {w : World} {K : PySem.W.Frag} {mg : Str → Option Value} {base : Heap}
abbrev s_read_term : Stmt := top 30
theorem sc_read_term : FnScope ["text", "told", "end"] ["text"] (defScope s_read_term) := ⟨rfl, rfl, rfl, by decide +kernel, rfl, by decide +kernel, by decide +kernel⟩
theorem ok_read_term {f : Addr} {fd : FuncData} (F : Fun K "read_term" "read_term" s_read_term f fd) (T : Bl mg) (c_read_rule : Cal P w K mg base (L2.CX P w) 43 "read_rule" ["text", "at", "many"] (spRd mg (pRule 20) [.int 0]) []) (c_term_of : Cal P w K mg base CX0 21 "term_of" ["told"] (spTermOf mg 8) []) : FnOk P w K mg base CX0 44 f fd ["text"] (spReadTerm mg 8) := by
  refine F.ok sc_read_term (fun vs H Q E h => ?_) (fun cdv A outer s H vs Q E hr h => ?_)
  · obtain ⟨z, t, rfl, _⟩ := h
    rfl
  · obtain ⟨z, t, rfl, lz, hp, ok, r60, d8, q⟩ := h
    obtain ⟨f_term_of, fd_term_of, ds_term_of, F_term_of, g_term_of, k_term_of, b_term_of, v_term_of⟩ := c_term_of.ex
    obtain ⟨f_read_rule, fd_read_rule, ds_read_rule, F_read_rule, g_read_rule, k_read_rule, b_read_rule, v_read_rule⟩ := c_read_rule.ex
    have hr : Room 43 (A.deeper _) := hr
    refine ⟨_, (pss_cons (ps_asg (pe_call F_read_rule (hr.mono (by omega)) rfl g_read_rule k_read_rule b_read_rule v_read_rule passF (pa_cons (pv 0) (pa_cons pe_int (pa_cons pe_int pa_nil)))) (pg_tup (by rfl) (pgs_cons (pg_name (i := 1) sc_read_term.nd rfl (Or.inl rfl)) (pgs_cons (pg_name (i := 2) sc_read_term.nd rfl (Or.inl rfl)) pgs_nil))))
      (pss_cons (ps_if (pt_cmpR op_ne (pv 2) (pe_callB call_len_str (by rfl) T.z_len (by decide +kernel) (pa_cons (pv 0) pa_nil)) (nomark _)) (pss_one ps_never) pss_nil)
      (pss_one (ps_ret (pe_call F_term_of (hr.mono (by omega)) rfl g_term_of k_term_of b_term_of v_term_of pass0 (pa_cons (pv 1) pa_nil)))))), ?_⟩
    have zs : z.length ≤ sizeLine := Nat.le_trans lz (by decide)
    refine ⟨_, rfl, z, 0, rfl, lz, fun t' k hk r v H3 s3 h3 tt => ?_, fun hn => ?_⟩
    · have hk : pRule 20 (cs z) = some (t', k) := hk
      rw [hp] at hk
      cases hk
      rw [Nat.zero_add] at h3
      refine ⟨r, _, rfl, SqT.of h3, rfl, _, _, rfl, _, _, rfl, rfl, ?_⟩
      refine ⟨_, rfl, _, rfl, z, rfl, zs, rfl, _, rfl, ?_⟩
      rw [show decide (V.int (z.length : Int) = V.int (z.length : Int)) = true from decide_eq_true rfl]
      refine iteF ?_
      obtain ⟨b, rfl⟩ := tt.ref
      exact ⟨_, rfl, b, t, rfl, tt, ok, r60, d8, fun b' H' s' o => q b' H' (fun c o' e => s' _ _ (s3 _ _ e)) o⟩
    · have hn : pRule 20 (cs z) = none := hn
      rw [hp] at hn
      cases hn
abbrev s_law : Stmt := top 46
theorem sc_law : FnScope ["_law_script", "_law_draw", "_law_shape", "_law_towns", "_law_calls_here", "_law_k", "_law_told_here", "_law_due", "_law_term", "_law_back"] ["_law_script"] (defScope s_law) := ⟨rfl, rfl, rfl, by decide +kernel, rfl, by decide +kernel, by decide +kernel⟩
theorem ok_law {f : Addr} {fd : FuncData} (F : Fun K "law" "law" s_law f fd) (T : Bl mg) (c_next : Cal P w K mg base CX0 2 "_law_next" ["_law_draw", "_law_size"] (spNext K) []) (c_words : Cal P w K mg base CX0 4 "_law_words" ["_law_draw", "_law_many"] (spWords K) []) (c_day : Cal P w K mg base CX0 3 "_law_day" ["_law_draw"] (spDay K) []) (c_calls : Cal P w K mg base CX0 3 "_law_calls" ["_law_draw", "_law_towns", "_law_days", "_law_many"] (spCalls K) [])
    (c_told : Cal P w K mg base CX0 10 "_law_told" ["_law_draw", "_law_calls_here", "_law_deep", "_law_room"] (spTold K 6) []) (c_tall : Cal P w K mg base CX0 6 "_law_tall" ["_law_draw", "_law_calls_here", "_law_deep"] (spTall K) []) (c_sized : Cal P w K mg base CX0 6 "_law_sized" ["_law_draw", "_law_calls_here", "_law_size"] (spSized K) []) (c_text : Cal P w K mg base CX0 9 "_law_text" ["_law_told_here"] (spLText 8) []) (c_build : Cal P w K mg base CX0 21 "_law_build" ["_law_told_here"] (spTermOf mg 8) []) (c_alike : Cal P w K mg base CX0 1 "_law_alike" ["_law_found", "_law_due"] (spAlikeF) []) (c_same : Cal P w K mg base CX0 10 "_law_same" ["_law_term", "_law_told_here"] (spSame mg 8) []) (c_read_term : Cal P w K mg base CX0 44 "read_term" ["text"] (spReadTerm mg 8) [])
    (D1 : Disp P w K mg base 17 "text" 8 RText) (D2 : Disp P w K mg base 18 "__str__" 8 RText) : FnOk P w K mg base CX0 45 f fd ["_law_script"] (spLaw K) := by
  refine F.ok sc_law (fun vs H Q E h => ?_) (fun cdv A outer s H vs Q E hr h => ?_)
  · obtain ⟨a, ns, rfl, _⟩ := h
    rfl
  · obtain ⟨a, ns, rfl, hS, hl, q⟩ := h
    obtain ⟨f_alike, fd_alike, ds_alike, F_alike, g_alike, k_alike, b_alike, v_alike⟩ := c_alike.ex
    obtain ⟨f_same, fd_same, ds_same, F_same, g_same, k_same, b_same, v_same⟩ := c_same.ex
    obtain ⟨f_read_term, fd_read_term, ds_read_term, F_read_term, g_read_term, k_read_term, b_read_term, v_read_term⟩ := c_read_term.ex
    obtain ⟨f_build, fd_build, ds_build, F_build, g_build, k_build, b_build, v_build⟩ := c_build.ex
    obtain ⟨f_text, fd_text, ds_text, F_text, g_text, k_text, b_text, v_text⟩ := c_text.ex
    obtain ⟨f_tall, fd_tall, ds_tall, F_tall, g_tall, k_tall, b_tall, v_tall⟩ := c_tall.ex
    obtain ⟨f_sized, fd_sized, ds_sized, F_sized, g_sized, k_sized, b_sized, v_sized⟩ := c_sized.ex
    obtain ⟨f_told, fd_told, ds_told, F_told, g_told, k_told, b_told, v_told⟩ := c_told.ex
    obtain ⟨f_next, fd_next, ds_next, F_next, g_next, k_next, b_next, v_next⟩ := c_next.ex
    obtain ⟨f_calls, fd_calls, ds_calls, F_calls, g_calls, k_calls, b_calls, v_calls⟩ := c_calls.ex
    obtain ⟨f_day, fd_day, ds_day, F_day, g_day, k_day, b_day, v_day⟩ := c_day.ex
    obtain ⟨f_words, fd_words, ds_words, F_words, g_words, k_words, b_words, v_words⟩ := c_words.ex
    have hr : Room 44 (A.deeper _) := hr
    refine ⟨_, (pss_cons (ps_set (i := 1) sc_law.nd rfl (Or.inr rfl) (pe_lst (pa_cons (pv 0) (pa_cons pe_int pa_nil))))
      (pss_cons (ps_set (i := 2) sc_law.nd rfl (Or.inl rfl) (pe_call F_next (hr.mono (by omega)) rfl g_next k_next b_next v_next pass0 (pa_cons (pv 1) (pa_cons pe_int pa_nil))))
      (pss_cons (ps_set (i := 3) sc_law.nd rfl (Or.inl rfl) (pe_op op_cat (pe_lst (pa_cons pe_non pa_nil)) (pe_call F_words (hr.mono (by omega)) rfl g_words k_words b_words v_words pass0 (pa_cons (pv 1) (pa_cons pe_int pa_nil)))))
      (pss_cons (ps_set (i := 4) sc_law.nd rfl (Or.inl rfl) (pe_call F_calls (hr.mono (by omega)) rfl g_calls k_calls b_calls v_calls pass0 (pa_cons (pv 1) (pa_cons (pv 3) (pa_cons (pe_lc (own := [("_law_k", 5)]) (g := gName 5) (tt := tYes) rfl sc_law.nd (pi_range1 (by rfl) T.z_range (pa_cons pe_int pa_nil)) (blkOk_by (N := ["_law_script", "_law_draw", "_law_shape", "_law_towns", "_law_calls_here", "_law_k", "_law_told_here", "_law_due", "_law_term", "_law_back"]) (sc := defScope s_law) (by decide +kernel)) (fun _ _ _ _ _ => (pg_name (i := 5) sc_law.nd rfl (Or.inl rfl))) (fun _ _ _ _ _ => pts_nil) (fun _ _ _ _ _ => (pe_call F_day (hr.mono (by omega)) rfl g_day k_day b_day v_day pass0 (pa_cons (pv 1) pa_nil)))) (pa_cons pe_int pa_nil))))))
      (pss_cons (ps_set (i := 6) sc_law.nd rfl (Or.inl rfl) (pe_call F_told (hr.mono (by omega)) rfl g_told k_told b_told v_told pass0 (pa_cons (pv 1) (pa_cons (pv 4) (pa_cons (pe_op op_add pe_int (pe_call F_next (hr.mono (by omega)) rfl g_next k_next b_next v_next pass0 (pa_cons (pv 1) (pa_cons pe_int pa_nil)))) (pa_cons pe_int pa_nil))))))
      (pss_cons (ps_if (pt_cmpR op_eq (pv 2) pe_int (nomark _)) (pss_one (ps_set (i := 6) sc_law.nd rfl (Or.inl rfl) (pe_call F_tall (hr.mono (by omega)) rfl g_tall k_tall b_tall v_tall pass0 (pa_cons (pv 1) (pa_cons (pv 4) (pa_cons pe_int pa_nil)))))) (pss_one (ps_if (pt_cmpR op_eq (pv 2) pe_int (nomark _)) (pss_one (ps_set (i := 6) sc_law.nd rfl (Or.inl rfl) (pe_call F_sized (hr.mono (by omega)) rfl g_sized k_sized b_sized v_sized pass0 (pa_cons (pv 1) (pa_cons (pv 4) (pa_cons pe_int pa_nil)))))) pss_nil)))
      (pss_cons (ps_set (i := 7) sc_law.nd rfl (Or.inl rfl) (pe_call F_text (hr.mono (by omega)) rfl g_text k_text b_text v_text pass0 (pa_cons (pv 6) pa_nil)))
      (pss_cons (ps_set (i := 8) sc_law.nd rfl (Or.inl rfl) (pe_call F_build (hr.mono (by omega)) rfl g_build k_build b_build v_build pass0 (pa_cons (pv 6) pa_nil)))
      (pss_cons (ps_if (PW.pt (pw_or (pt_not (pt_val (pe_call F_alike (hr.mono (by omega)) rfl g_alike k_alike b_alike v_alike pass0 (pa_cons (pe_methD (P := P) (w := w) (K := K) (mg := mg) (base := base) (j := (17)) (pv 8) (hr.mono (by omega))) (pa_cons (pv 7) pa_nil))))) (pw_or1 (pt_not (pt_val (pe_call F_alike (hr.mono (by omega)) rfl g_alike k_alike b_alike v_alike pass0 (pa_cons (pe_callTy (call_strD (j := (18)) (hr.mono (by omega))) (by rfl) T.z_str (by decide +kernel) (pa_cons (pv 8) pa_nil)) (pa_cons (pv 7) pa_nil)))))))) (pss_one (ps_ret pe_bl)) pss_nil)
      (pss_cons (ps_set (i := 9) sc_law.nd rfl (Or.inl rfl) (pe_call F_read_term (hr.mono (by omega)) rfl g_read_term k_read_term b_read_term v_read_term pass0 (pa_cons (pv 7) pa_nil)))
      (pss_one (ps_ret (pe_and (pe_call F_same (hr.mono (by omega)) rfl g_same k_same b_same v_same pass0 (pa_cons (pv 9) (pa_cons (pv 6) pa_nil))) (pe_and (pe_call F_alike (hr.mono (by omega)) rfl g_alike k_alike b_alike v_alike pass0 (pa_cons (pe_methD (P := P) (w := w) (K := K) (mg := mg) (base := base) (j := (17)) (pv 9) (hr.mono (by omega))) (pa_cons (pv 7) pa_nil))) (pe_one (pe_call F_alike (hr.mono (by omega)) rfl g_alike k_alike b_alike v_alike pass0 (pa_cons (pe_callTy (call_strD (j := (18)) (hr.mono (by omega))) (by rfl) T.z_str (by decide +kernel) (pa_cons (pv 9) pa_nil)) (pa_cons (pv 7) pa_nil)))))))))))))))))), ?_⟩
    refine ⟨_, rfl, (by show 2 ≤ sizeLine; decide), fun d hd => ?_⟩
    obtain ⟨D, eD⟩ : ∃ D : Dw, D = ⟨d, a, ns⟩ := ⟨_, rfl⟩
    have h0 : DrawAt K (upd H d (.lst [.ref a, .int 0])) D := by
      subst eD
      exact ⟨⟨0, upd_same, by decide⟩, SqL.upd_new hS hd, hl⟩
    have ed : d = D.d := by rw [eD]
    subst ed
    generalize upd H D.d (.lst [.ref a, .int 0]) = H0 at h0
    -- shape
    refine ⟨_, rfl, D, 4, rfl, h0, by decide, fun shape H1 d1 _ _ => ?_⟩
    -- towns
    refine ⟨(by show 1 ≤ sizeLine; decide), fun l1 hl1 => ?_⟩
    have E1 := d1.new (o := .lst [.non]) hl1
    have hh1 : (upd H1 l1 (.lst [.non])) l1 = some (.lst [.non]) := upd_same
    have hfree : (upd H1 l1 (.lst [.non])) l1 = some (.lst [.non]) := upd_same
    refine ⟨_, rfl, D, 4, rfl, E1.dr, by decide, by decide, fun p2 ws H2 d2 hp2 hw2 lw2 nd2 nm2 => ?_⟩
    have hl12 := d2.kp _ _ hh1 (d1.ne hl1)
    refine ⟨l1, p2, _, _, rfl, rfl, hl12, hw2, (by rw [List.length_map]; exact Nat.le_of_lt (small1000 (by show 1 + _ ≤ 1000; omega))), fun l3 hl3 => ?_⟩
    have E3 := (E1.trans d2).new (o := .lst ([.non] ++ ws.map V.str)) hl3
    have nl3 : l3 ≠ D.d := (E1.trans d2).ne hl3
    have hh3 : (upd H2 l3 (.lst ([.non] ++ ws.map V.str))) l3 = some (.lst ([.non] ++ ws.map V.str)) := upd_same
    -- days
    refine ⟨_, rfl, _, rfl, 6, rfl, (by decide), (by decide), fun l4 hl4 => lc_it walk_range (fun j H5 => ∃ ds : List Int, Dr K D H0 H5 ∧ H5 l3 = some (.lst ([.non] ++ ws.map V.str)) ∧ H5 l4 = some (.lst (ds.map V.int)) ∧ ds.length = j ∧ ∀ x ∈ ds, 0 ≤ x ∧ x ≤ 9999)
      ⟨[], E3.new hl4, (Same.new hl4) _ _ hh3, upd_same, rfl, fun _ h => (by cases h)⟩ (fun _ _ _ _ => trivial) ?_ ?_⟩
    · rintro j z H5 H5' hj ⟨ds, E5, hl35, h5, ld, bd⟩ ⟨rfl, rfl⟩
      refine ⟨rfl, ?_⟩
      refine ⟨_, rfl, D, rfl, E5.dr, fun n H6 d6 n0 n1 => ?_⟩
      have nl4 : l4 ≠ D.d := E3.ne hl4
      have h6 := d6.kp _ _ h5 nl4
      have h36 := d6.kp _ _ hl35 nl3
      have n34 : l3 ≠ l4 := ne_of_none hh3 hl4
      have hj6 : j < 6 := hj
      refine ⟨_, h6, by rw [List.length_map]; exact small1000 (by omega), ds ++ [n], (E5.trans d6).loc (E3.free hl4), by rw [upd_ne n34]; exact h36, by rw [upd_same, List.map_append]; rfl, by rw [List.length_append, ld]; rfl, fun x hx => ?_⟩
      rcases List.mem_append.mp hx with e | e
      · exact bd x e
      · rw [List.mem_singleton.mp e]
        exact ⟨n0, n1⟩
    rintro H5 ⟨ds, E5, hl35, h5, ld, bd⟩
    have ld : ds.length = 6 := ld
    have nl4 : l4 ≠ D.d := E3.ne hl4
    refine ⟨D, l3, l4, _, ds, 8, rfl, E5.dr, nl3, nl4, hl35, h5, (by simp), (fun z => by rw [z] at ld; cases ld), (by rw [List.length_append, List.length_map]; show 1 + _ ≤ 100; omega), (by omega), fun t ht => ?_, bd, by decide, by decide, fun pc as cs H6 d6 hpc hpc6 C6 lc _ ck => ?_⟩
    · rcases List.mem_append.mp ht with e | e
      · exact .inl (List.mem_singleton.mp e)
      · obtain ⟨x, hx, rfl⟩ := List.mem_map.mp e
        exact .inr ⟨x, rfl, nm2 x hx⟩
    have E6 := E5.trans d6
    have npc : pc ≠ D.d := E5.dr.ne hpc
    have cs0 : cs ≠ [] := fun z => by rw [z] at lc; cases lc
    -- told
    refine ⟨_, rfl, _, rfl, _, rfl, D, 5, rfl, E6.dr, by decide, fun r H7 d7 r0 r1 => ⟨_, _, rfl, rfl, ?_⟩⟩
    have E7 := E6.trans d7
    refine ⟨D, pc, as, cs, 2 + r, 60, rfl, E7.dr, npc, d7.kp _ _ hpc6 npc, C6.tk d7.tk, cs0, by omega, by omega, by omega, by decide, by decide, fun v t H8 d8 At al sh dp ru => ?_⟩
    have E8 := E7.trans d8
    have hpc8 := d8.kp _ _ (d7.kp _ _ hpc6 npc) npc
    have C8 := C6.tk (d7.tk.trans d8.tk)
    refine ⟨_, rfl, rfl, _, rfl, ?_⟩
    refine ite2 (fun _ => ?_) (fun _ => ?_)
    · refine ⟨_, rfl, _, rfl, D, pc, as, cs, 8, rfl, E8.dr, npc, hpc8, C8, cs0, by omega, by decide, by decide, fun v2 t2 H9 d9 At2 al2 sh2 dp2 ru2 => ?_⟩
      have ok : okT 8 t2 := ⟨by omega, by omega, sh2, AllLf.imp (fun _ h => h) (fun c h => ck c h) al2⟩
      have r60 : rulesT t2 ≤ 60 := by omega
      have dp8 : deepT t2 ≤ 8 := by omega
      obtain ⟨b, rfl⟩ := At2.ref
      refine ⟨_, rfl, b, t2, rfl, At2, ok, fun HA sA => ?_⟩
      have TA := TldAt.tk (fun _ _ e => sA _ _ e) t2 At2
      refine ⟨_, rfl, b, t2, rfl, TA, ok, r60, dp8, fun o HB sB oB => ?_⟩
      have TB := TldAt.tk (fun _ _ e => sB _ _ e) t2 TA
      refine ⟨_, rfl, D1.go oB ok (by decide +kernel) ?_⟩
      rintro v HC sC rfl
      refine ⟨_, rfl, _, _, rfl, rfl, rfl, rfl, _, rfl, ?_⟩
      rw [decide_eq_true (rfl : V.str (txT t2) = V.str (txT t2))]
      refine iteF ?_
      refine ⟨_, rfl, D2.goS (ObAt.to (TO.same sC) _ oB) ok ?_⟩
      rintro v HD sD rfl
      refine ⟨⟨_, rfl⟩, ?_⟩
      refine ⟨_, rfl, _, _, rfl, rfl, rfl, rfl, _, rfl, ?_⟩
      rw [decide_eq_true (rfl : V.str (txT t2) = V.str (txT t2))]
      refine iteF ?_
      obtain ⟨rd1, rd2⟩ := read_due ok
      refine ⟨_, rfl, txT t2, t2, rfl, rd2, rd1, ok, r60, dp8, fun o2 HE sE oE => ?_⟩
      have TE := TldAt.tk (fun _ _ e => sE _ _ (sD _ _ (sC _ _ e))) t2 TB
      refine ⟨_, rfl, _, rfl, o2, b, t2, rfl, oE, TE, ok, fun HF sF => ?_⟩
      refine ⟨_, rfl, ?_⟩
      refine iteT ?_
      have oF := ObAt.to (TO.same sF) _ oE
      refine ⟨_, rfl, D1.go oF ok (by decide +kernel) ?_⟩
      rintro v HG sG rfl
      refine ⟨_, rfl, _, _, rfl, rfl, rfl, rfl, _, rfl, ?_⟩
      rw [decide_eq_true (rfl : V.str (txT t2) = V.str (txT t2))]
      refine iteT ?_
      refine ⟨_, rfl, D2.goS (ObAt.to (TO.same sG) _ oF) ok ?_⟩
      rintro v HI sI rfl
      refine ⟨⟨_, rfl⟩, ?_⟩
      refine ⟨_, rfl, _, _, rfl, rfl, rfl, rfl, ?_⟩
      rw [decide_eq_true (rfl : V.str (txT t2) = V.str (txT t2))]
      exact q HI
    · refine ⟨_, rfl, rfl, _, rfl, ?_⟩
      refine ite2 (fun _ => ?_) (fun _ => ?_)
      · refine ⟨_, rfl, _, rfl, D, pc, as, cs, 60, 7, rfl, E8.dr, npc, hpc8, C8, cs0, by omega, by decide, by decide, by decide, by decide, fun v2 t2 H9 d9 At2 al2 sh2 dp2 ru2 => ?_⟩
        have ok : okT 8 t2 := ⟨by omega, by omega, sh2, AllLf.imp (fun _ h => h) (fun c h => ck c h) al2⟩
        have r60 : rulesT t2 ≤ 60 := by omega
        have dp8 : deepT t2 ≤ 8 := by omega
        obtain ⟨b, rfl⟩ := At2.ref
        refine ⟨_, rfl, b, t2, rfl, At2, ok, fun HA sA => ?_⟩
        have TA := TldAt.tk (fun _ _ e => sA _ _ e) t2 At2
        refine ⟨_, rfl, b, t2, rfl, TA, ok, r60, dp8, fun o HB sB oB => ?_⟩
        have TB := TldAt.tk (fun _ _ e => sB _ _ e) t2 TA
        refine ⟨_, rfl, D1.go oB ok (by decide +kernel) ?_⟩
        rintro v HC sC rfl
        refine ⟨_, rfl, _, _, rfl, rfl, rfl, rfl, _, rfl, ?_⟩
        rw [decide_eq_true (rfl : V.str (txT t2) = V.str (txT t2))]
        refine iteF ?_
        refine ⟨_, rfl, D2.goS (ObAt.to (TO.same sC) _ oB) ok ?_⟩
        rintro v HD sD rfl
        refine ⟨⟨_, rfl⟩, ?_⟩
        refine ⟨_, rfl, _, _, rfl, rfl, rfl, rfl, _, rfl, ?_⟩
        rw [decide_eq_true (rfl : V.str (txT t2) = V.str (txT t2))]
        refine iteF ?_
        obtain ⟨rd1, rd2⟩ := read_due ok
        refine ⟨_, rfl, txT t2, t2, rfl, rd2, rd1, ok, r60, dp8, fun o2 HE sE oE => ?_⟩
        have TE := TldAt.tk (fun _ _ e => sE _ _ (sD _ _ (sC _ _ e))) t2 TB
        refine ⟨_, rfl, _, rfl, o2, b, t2, rfl, oE, TE, ok, fun HF sF => ?_⟩
        refine ⟨_, rfl, ?_⟩
        refine iteT ?_
        have oF := ObAt.to (TO.same sF) _ oE
        refine ⟨_, rfl, D1.go oF ok (by decide +kernel) ?_⟩
        rintro v HG sG rfl
        refine ⟨_, rfl, _, _, rfl, rfl, rfl, rfl, _, rfl, ?_⟩
        rw [decide_eq_true (rfl : V.str (txT t2) = V.str (txT t2))]
        refine iteT ?_
        refine ⟨_, rfl, D2.goS (ObAt.to (TO.same sG) _ oF) ok ?_⟩
        rintro v HI sI rfl
        refine ⟨⟨_, rfl⟩, ?_⟩
        refine ⟨_, rfl, _, _, rfl, rfl, rfl, rfl, ?_⟩
        rw [decide_eq_true (rfl : V.str (txT t2) = V.str (txT t2))]
        exact q HI
      · have ok : okT 8 t := ⟨by omega, by omega, sh, AllLf.imp (fun _ h => h) (fun c h => ck c h) al⟩
        have r60 : rulesT t ≤ 60 := by omega
        have dp8 : deepT t ≤ 8 := by omega
        obtain ⟨b, rfl⟩ := At.ref
        refine ⟨_, rfl, b, t, rfl, At, ok, fun HA sA => ?_⟩
        have TA := TldAt.tk (fun _ _ e => sA _ _ e) t At
        refine ⟨_, rfl, b, t, rfl, TA, ok, r60, dp8, fun o HB sB oB => ?_⟩
        have TB := TldAt.tk (fun _ _ e => sB _ _ e) t TA
        refine ⟨_, rfl, D1.go oB ok (by decide +kernel) ?_⟩
        rintro v HC sC rfl
        refine ⟨_, rfl, _, _, rfl, rfl, rfl, rfl, _, rfl, ?_⟩
        rw [decide_eq_true (rfl : V.str (txT t) = V.str (txT t))]
        refine iteF ?_
        refine ⟨_, rfl, D2.goS (ObAt.to (TO.same sC) _ oB) ok ?_⟩
        rintro v HD sD rfl
        refine ⟨⟨_, rfl⟩, ?_⟩
        refine ⟨_, rfl, _, _, rfl, rfl, rfl, rfl, _, rfl, ?_⟩
        rw [decide_eq_true (rfl : V.str (txT t) = V.str (txT t))]
        refine iteF ?_
        obtain ⟨rd1, rd2⟩ := read_due ok
        refine ⟨_, rfl, txT t, t, rfl, rd2, rd1, ok, r60, dp8, fun o2 HE sE oE => ?_⟩
        have TE := TldAt.tk (fun _ _ e => sE _ _ (sD _ _ (sC _ _ e))) t TB
        refine ⟨_, rfl, _, rfl, o2, b, t, rfl, oE, TE, ok, fun HF sF => ?_⟩
        refine ⟨_, rfl, ?_⟩
        refine iteT ?_
        have oF := ObAt.to (TO.same sF) _ oE
        refine ⟨_, rfl, D1.go oF ok (by decide +kernel) ?_⟩
        rintro v HG sG rfl
        refine ⟨_, rfl, _, _, rfl, rfl, rfl, rfl, _, rfl, ?_⟩
        rw [decide_eq_true (rfl : V.str (txT t) = V.str (txT t))]
        refine iteT ?_
        refine ⟨_, rfl, D2.goS (ObAt.to (TO.same sG) _ oF) ok ?_⟩
        rintro v HI sI rfl
        refine ⟨⟨_, rfl⟩, ?_⟩
        refine ⟨_, rfl, _, _, rfl, rfl, rfl, rfl, ?_⟩
        rw [decide_eq_true (rfl : V.str (txT t) = V.str (txT t))]
        exact q HI
end
end LW

namespace LW
open PySem PySem.Spec PyProof.Rows L2 CC
theorem all_mk {l : PySem.W.OpenLaw} {w : World} {K : PySem.W.Frag} {h : Heap} {mg : Str → Option Value} {fa C_Term C_Level C_Called C_Least C_Greatest C_NoName C_NoWorth C_NoDay C_NoTerm C_NoText f_is_name f_is_number f_ask_name f_ask_worth f_term_of f_figures_end f_word_end f_read_called f_read_rules f_read_rule f_read_term f_mixed f_next f_word f_words f_level f_day f_calls f_told f_tall f_sized f_alike f_build f_same f_ltext f_law f_Trules f_Tdeep f_Tstr f_LvI f_Ltext f_ClI T_ClI f_Ctext f_MxI f_Mrules f_Mdeep f_textby f_Letext f_Grtext : Addr} {od_is_name an_is_name od_is_number an_is_number od_ask_name an_ask_name od_ask_worth an_ask_worth od_term_of an_term_of od_figures_end an_figures_end od_word_end an_word_end od_read_called an_read_called od_read_rules an_read_rules od_read_rule an_read_rule od_read_term an_read_term od_mixed an_mixed od_next an_next od_word an_word od_words an_words od_level an_level od_day an_day od_calls an_calls od_told an_told od_tall an_tall od_sized an_sized od_alike an_alike od_build an_build od_same an_same od_ltext an_ltext od_law an_law od_Trules an_Trules od_Tdeep an_Tdeep od_Tstr an_Tstr od_LvI an_LvI od_Ltext an_Ltext od_ClI an_ClI Td_ClI od_Ctext an_Ctext od_MxI an_MxI od_Mrules an_Mrules od_Mdeep an_Mdeep od_textby an_textby od_Letext an_Letext od_Grtext an_Grtext : Option Addr} {sl_is_name sl_is_number sl_ask_name sl_ask_worth sl_term_of sl_figures_end sl_word_end sl_read_called sl_read_rules sl_read_rule sl_read_term sl_mixed sl_next sl_word sl_words sl_level sl_day sl_calls sl_told sl_tall sl_sized sl_alike sl_build sl_same sl_ltext sl_law sl_Trules sl_Tdeep sl_Tstr sl_LvI sl_Ltext sl_ClI Ts_ClI sl_Ctext sl_MxI sl_Mrules sl_Mdeep sl_textby sl_Letext sl_Grtext : Array (Option Value)} {oc_is_name kV_is_name dc_is_name pm_is_name cd_is_name ct_is_name oc_is_number kV_is_number dc_is_number pm_is_number cd_is_number ct_is_number oc_ask_name kV_ask_name dc_ask_name pm_ask_name cd_ask_name ct_ask_name oc_ask_worth kV_ask_worth dc_ask_worth pm_ask_worth cd_ask_worth ct_ask_worth oc_term_of kV_term_of dc_term_of pm_term_of cd_term_of ct_term_of oc_figures_end kV_figures_end dc_figures_end pm_figures_end cd_figures_end ct_figures_end oc_word_end kV_word_end dc_word_end pm_word_end cd_word_end ct_word_end oc_read_called kV_read_called dc_read_called pm_read_called cd_read_called ct_read_called oc_read_rules kV_read_rules dc_read_rules pm_read_rules cd_read_rules ct_read_rules oc_read_rule kV_read_rule dc_read_rule pm_read_rule cd_read_rule ct_read_rule oc_read_term kV_read_term dc_read_term pm_read_term cd_read_term ct_read_term oc_mixed kV_mixed dc_mixed pm_mixed cd_mixed ct_mixed oc_next kV_next dc_next pm_next cd_next ct_next oc_word kV_word dc_word pm_word cd_word ct_word oc_words kV_words dc_words pm_words cd_words ct_words oc_level kV_level dc_level pm_level cd_level ct_level oc_day kV_day dc_day pm_day cd_day ct_day oc_calls kV_calls dc_calls pm_calls cd_calls ct_calls oc_told kV_told dc_told pm_told cd_told ct_told oc_tall kV_tall dc_tall pm_tall cd_tall ct_tall oc_sized kV_sized dc_sized pm_sized cd_sized ct_sized oc_alike kV_alike dc_alike pm_alike cd_alike ct_alike oc_build kV_build dc_build pm_build cd_build ct_build oc_same kV_same dc_same pm_same cd_same ct_same oc_ltext kV_ltext dc_ltext pm_ltext cd_ltext ct_ltext oc_law kV_law dc_law pm_law cd_law ct_law oc_Trules kV_Trules dc_Trules pm_Trules cd_Trules ct_Trules oc_Tdeep kV_Tdeep dc_Tdeep pm_Tdeep cd_Tdeep ct_Tdeep oc_Tstr kV_Tstr dc_Tstr pm_Tstr cd_Tstr ct_Tstr oc_LvI kV_LvI dc_LvI pm_LvI cd_LvI ct_LvI oc_Ltext kV_Ltext dc_Ltext pm_Ltext cd_Ltext ct_Ltext oc_ClI kV_ClI dc_ClI pm_ClI cd_ClI ct_ClI Tc_ClI oc_Ctext kV_Ctext dc_Ctext pm_Ctext cd_Ctext ct_Ctext oc_MxI kV_MxI dc_MxI pm_MxI cd_MxI ct_MxI oc_Mrules kV_Mrules dc_Mrules pm_Mrules cd_Mrules ct_Mrules oc_Mdeep kV_Mdeep dc_Mdeep pm_Mdeep cd_Mdeep ct_Mdeep oc_textby kV_textby dc_textby pm_textby cd_textby ct_textby oc_Letext kV_Letext dc_Letext pm_Letext cd_Letext ct_Letext oc_Grtext kV_Grtext dc_Grtext pm_Grtext cd_Grtext ct_Grtext : Value} {tk_TOP tk_MOST_RULES tk_MOST_DEEP tk_MOST_OPEN : Tok} {Tn_ClI : Nat} (X : K.In h) (G : h.Ns mainGlobals mg) (hfa : mg "law" = some (.ref fa))
    (a_Term : PySem.W.nsIn K mainGlobals "Term" = some (some (.ref C_Term)))
    (a_Level : PySem.W.nsIn K mainGlobals "Level" = some (some (.ref C_Level)))
    (a_Called : PySem.W.nsIn K mainGlobals "Called" = some (some (.ref C_Called)))
    (a_Least : PySem.W.nsIn K mainGlobals "Least" = some (some (.ref C_Least)))
    (a_Greatest : PySem.W.nsIn K mainGlobals "Greatest" = some (some (.ref C_Greatest)))
    (a_NoName : PySem.W.nsIn K mainGlobals "NoName" = some (some (.ref C_NoName)))
    (a_NoWorth : PySem.W.nsIn K mainGlobals "NoWorth" = some (some (.ref C_NoWorth)))
    (a_NoDay : PySem.W.nsIn K mainGlobals "NoDay" = some (some (.ref C_NoDay)))
    (a_NoTerm : PySem.W.nsIn K mainGlobals "NoTerm" = some (some (.ref C_NoTerm)))
    (a_NoText : PySem.W.nsIn K mainGlobals "NoText" = some (some (.ref C_NoText)))
    (a_is_name : PySem.W.nsIn K mainGlobals "is_name" = some (some (.ref f_is_name)))
    (l_is_name : K.lookup f_is_name = some ⟨oc_is_name, od_is_name, .func (PySem.W.fnOf "is_name" "is_name" (defArgs s_is_name) (defBody s_is_name) (defScope s_is_name) .none kV_is_name dc_is_name pm_is_name an_is_name cd_is_name ct_is_name), sl_is_name⟩)
    (c_is_name : PySem.W.codeIn K cd_is_name "is_name" = true)
    (k_is_name : PySem.W.keepIn K (.ref f_is_name) = true)
    (a_is_number : PySem.W.nsIn K mainGlobals "is_number" = some (some (.ref f_is_number)))
    (l_is_number : K.lookup f_is_number = some ⟨oc_is_number, od_is_number, .func (PySem.W.fnOf "is_number" "is_number" (defArgs s_is_number) (defBody s_is_number) (defScope s_is_number) .none kV_is_number dc_is_number pm_is_number an_is_number cd_is_number ct_is_number), sl_is_number⟩)
    (c_is_number : PySem.W.codeIn K cd_is_number "is_number" = true)
    (k_is_number : PySem.W.keepIn K (.ref f_is_number) = true)
    (a_ask_name : PySem.W.nsIn K mainGlobals "ask_name" = some (some (.ref f_ask_name)))
    (l_ask_name : K.lookup f_ask_name = some ⟨oc_ask_name, od_ask_name, .func (PySem.W.fnOf "ask_name" "ask_name" (defArgs s_ask_name) (defBody s_ask_name) (defScope s_ask_name) .none kV_ask_name dc_ask_name pm_ask_name an_ask_name cd_ask_name ct_ask_name), sl_ask_name⟩)
    (c_ask_name : PySem.W.codeIn K cd_ask_name "ask_name" = true)
    (k_ask_name : PySem.W.keepIn K (.ref f_ask_name) = true)
    (a_ask_worth : PySem.W.nsIn K mainGlobals "ask_worth" = some (some (.ref f_ask_worth)))
    (l_ask_worth : K.lookup f_ask_worth = some ⟨oc_ask_worth, od_ask_worth, .func (PySem.W.fnOf "ask_worth" "ask_worth" (defArgs s_ask_worth) (defBody s_ask_worth) (defScope s_ask_worth) .none kV_ask_worth dc_ask_worth pm_ask_worth an_ask_worth cd_ask_worth ct_ask_worth), sl_ask_worth⟩)
    (c_ask_worth : PySem.W.codeIn K cd_ask_worth "ask_worth" = true)
    (k_ask_worth : PySem.W.keepIn K (.ref f_ask_worth) = true)
    (a_term_of : PySem.W.nsIn K mainGlobals "term_of" = some (some (.ref f_term_of)))
    (l_term_of : K.lookup f_term_of = some ⟨oc_term_of, od_term_of, .func (PySem.W.fnOf "term_of" "term_of" (defArgs s_term_of) (defBody s_term_of) (defScope s_term_of) .none kV_term_of dc_term_of pm_term_of an_term_of cd_term_of ct_term_of), sl_term_of⟩)
    (c_term_of : PySem.W.codeIn K cd_term_of "term_of" = true)
    (k_term_of : PySem.W.keepIn K (.ref f_term_of) = true)
    (a_figures_end : PySem.W.nsIn K mainGlobals "figures_end" = some (some (.ref f_figures_end)))
    (l_figures_end : K.lookup f_figures_end = some ⟨oc_figures_end, od_figures_end, .func (PySem.W.fnOf "figures_end" "figures_end" (defArgs s_figures_end) (defBody s_figures_end) (defScope s_figures_end) .none kV_figures_end dc_figures_end pm_figures_end an_figures_end cd_figures_end ct_figures_end), sl_figures_end⟩)
    (c_figures_end : PySem.W.codeIn K cd_figures_end "figures_end" = true)
    (k_figures_end : PySem.W.keepIn K (.ref f_figures_end) = true)
    (a_word_end : PySem.W.nsIn K mainGlobals "word_end" = some (some (.ref f_word_end)))
    (l_word_end : K.lookup f_word_end = some ⟨oc_word_end, od_word_end, .func (PySem.W.fnOf "word_end" "word_end" (defArgs s_word_end) (defBody s_word_end) (defScope s_word_end) .none kV_word_end dc_word_end pm_word_end an_word_end cd_word_end ct_word_end), sl_word_end⟩)
    (c_word_end : PySem.W.codeIn K cd_word_end "word_end" = true)
    (k_word_end : PySem.W.keepIn K (.ref f_word_end) = true)
    (a_read_called : PySem.W.nsIn K mainGlobals "read_called" = some (some (.ref f_read_called)))
    (l_read_called : K.lookup f_read_called = some ⟨oc_read_called, od_read_called, .func (PySem.W.fnOf "read_called" "read_called" (defArgs s_read_called) (defBody s_read_called) (defScope s_read_called) .none kV_read_called dc_read_called pm_read_called an_read_called cd_read_called ct_read_called), sl_read_called⟩)
    (c_read_called : PySem.W.codeIn K cd_read_called "read_called" = true)
    (k_read_called : PySem.W.keepIn K (.ref f_read_called) = true)
    (a_read_rules : PySem.W.nsIn K mainGlobals "read_rules" = some (some (.ref f_read_rules)))
    (l_read_rules : K.lookup f_read_rules = some ⟨oc_read_rules, od_read_rules, .func (PySem.W.fnOf "read_rules" "read_rules" (defArgs s_read_rules) (defBody s_read_rules) (defScope s_read_rules) .none kV_read_rules dc_read_rules pm_read_rules an_read_rules cd_read_rules ct_read_rules), sl_read_rules⟩)
    (c_read_rules : PySem.W.codeIn K cd_read_rules "read_rules" = true)
    (k_read_rules : PySem.W.keepIn K (.ref f_read_rules) = true)
    (a_read_rule : PySem.W.nsIn K mainGlobals "read_rule" = some (some (.ref f_read_rule)))
    (l_read_rule : K.lookup f_read_rule = some ⟨oc_read_rule, od_read_rule, .func (PySem.W.fnOf "read_rule" "read_rule" (defArgs s_read_rule) (defBody s_read_rule) (defScope s_read_rule) .none kV_read_rule dc_read_rule pm_read_rule an_read_rule cd_read_rule ct_read_rule), sl_read_rule⟩)
    (c_read_rule : PySem.W.codeIn K cd_read_rule "read_rule" = true)
    (k_read_rule : PySem.W.keepIn K (.ref f_read_rule) = true)
    (a_read_term : PySem.W.nsIn K mainGlobals "read_term" = some (some (.ref f_read_term)))
    (l_read_term : K.lookup f_read_term = some ⟨oc_read_term, od_read_term, .func (PySem.W.fnOf "read_term" "read_term" (defArgs s_read_term) (defBody s_read_term) (defScope s_read_term) .none kV_read_term dc_read_term pm_read_term an_read_term cd_read_term ct_read_term), sl_read_term⟩)
    (c_read_term : PySem.W.codeIn K cd_read_term "read_term" = true)
    (k_read_term : PySem.W.keepIn K (.ref f_read_term) = true)
    (a_mixed : PySem.W.nsIn K mainGlobals "_law_mixed" = some (some (.ref f_mixed)))
    (l_mixed : K.lookup f_mixed = some ⟨oc_mixed, od_mixed, .func (PySem.W.fnOf "_law_mixed" "_law_mixed" (defArgs s_mixed) (defBody s_mixed) (defScope s_mixed) .none kV_mixed dc_mixed pm_mixed an_mixed cd_mixed ct_mixed), sl_mixed⟩)
    (c_mixed : PySem.W.codeIn K cd_mixed "_law_mixed" = true)
    (k_mixed : PySem.W.keepIn K (.ref f_mixed) = true)
    (a_next : PySem.W.nsIn K mainGlobals "_law_next" = some (some (.ref f_next)))
    (l_next : K.lookup f_next = some ⟨oc_next, od_next, .func (PySem.W.fnOf "_law_next" "_law_next" (defArgs s_next) (defBody s_next) (defScope s_next) .none kV_next dc_next pm_next an_next cd_next ct_next), sl_next⟩)
    (c_next : PySem.W.codeIn K cd_next "_law_next" = true)
    (k_next : PySem.W.keepIn K (.ref f_next) = true)
    (a_word : PySem.W.nsIn K mainGlobals "_law_word" = some (some (.ref f_word)))
    (l_word : K.lookup f_word = some ⟨oc_word, od_word, .func (PySem.W.fnOf "_law_word" "_law_word" (defArgs s_word) (defBody s_word) (defScope s_word) .none kV_word dc_word pm_word an_word cd_word ct_word), sl_word⟩)
    (c_word : PySem.W.codeIn K cd_word "_law_word" = true)
    (k_word : PySem.W.keepIn K (.ref f_word) = true)
    (a_words : PySem.W.nsIn K mainGlobals "_law_words" = some (some (.ref f_words)))
    (l_words : K.lookup f_words = some ⟨oc_words, od_words, .func (PySem.W.fnOf "_law_words" "_law_words" (defArgs s_words) (defBody s_words) (defScope s_words) .none kV_words dc_words pm_words an_words cd_words ct_words), sl_words⟩)
    (c_words : PySem.W.codeIn K cd_words "_law_words" = true)
    (k_words : PySem.W.keepIn K (.ref f_words) = true)
    (a_level : PySem.W.nsIn K mainGlobals "_law_level" = some (some (.ref f_level)))
    (l_level : K.lookup f_level = some ⟨oc_level, od_level, .func (PySem.W.fnOf "_law_level" "_law_level" (defArgs s_level) (defBody s_level) (defScope s_level) .none kV_level dc_level pm_level an_level cd_level ct_level), sl_level⟩)
    (c_level : PySem.W.codeIn K cd_level "_law_level" = true)
    (k_level : PySem.W.keepIn K (.ref f_level) = true)
    (a_day : PySem.W.nsIn K mainGlobals "_law_day" = some (some (.ref f_day)))
    (l_day : K.lookup f_day = some ⟨oc_day, od_day, .func (PySem.W.fnOf "_law_day" "_law_day" (defArgs s_day) (defBody s_day) (defScope s_day) .none kV_day dc_day pm_day an_day cd_day ct_day), sl_day⟩)
    (c_day : PySem.W.codeIn K cd_day "_law_day" = true)
    (k_day : PySem.W.keepIn K (.ref f_day) = true)
    (a_calls : PySem.W.nsIn K mainGlobals "_law_calls" = some (some (.ref f_calls)))
    (l_calls : K.lookup f_calls = some ⟨oc_calls, od_calls, .func (PySem.W.fnOf "_law_calls" "_law_calls" (defArgs s_calls) (defBody s_calls) (defScope s_calls) .none kV_calls dc_calls pm_calls an_calls cd_calls ct_calls), sl_calls⟩)
    (c_calls : PySem.W.codeIn K cd_calls "_law_calls" = true)
    (k_calls : PySem.W.keepIn K (.ref f_calls) = true)
    (a_told : PySem.W.nsIn K mainGlobals "_law_told" = some (some (.ref f_told)))
    (l_told : K.lookup f_told = some ⟨oc_told, od_told, .func (PySem.W.fnOf "_law_told" "_law_told" (defArgs s_told) (defBody s_told) (defScope s_told) .none kV_told dc_told pm_told an_told cd_told ct_told), sl_told⟩)
    (c_told : PySem.W.codeIn K cd_told "_law_told" = true)
    (k_told : PySem.W.keepIn K (.ref f_told) = true)
    (a_tall : PySem.W.nsIn K mainGlobals "_law_tall" = some (some (.ref f_tall)))
    (l_tall : K.lookup f_tall = some ⟨oc_tall, od_tall, .func (PySem.W.fnOf "_law_tall" "_law_tall" (defArgs s_tall) (defBody s_tall) (defScope s_tall) .none kV_tall dc_tall pm_tall an_tall cd_tall ct_tall), sl_tall⟩)
    (c_tall : PySem.W.codeIn K cd_tall "_law_tall" = true)
    (k_tall : PySem.W.keepIn K (.ref f_tall) = true)
    (a_sized : PySem.W.nsIn K mainGlobals "_law_sized" = some (some (.ref f_sized)))
    (l_sized : K.lookup f_sized = some ⟨oc_sized, od_sized, .func (PySem.W.fnOf "_law_sized" "_law_sized" (defArgs s_sized) (defBody s_sized) (defScope s_sized) .none kV_sized dc_sized pm_sized an_sized cd_sized ct_sized), sl_sized⟩)
    (c_sized : PySem.W.codeIn K cd_sized "_law_sized" = true)
    (k_sized : PySem.W.keepIn K (.ref f_sized) = true)
    (a_alike : PySem.W.nsIn K mainGlobals "_law_alike" = some (some (.ref f_alike)))
    (l_alike : K.lookup f_alike = some ⟨oc_alike, od_alike, .func (PySem.W.fnOf "_law_alike" "_law_alike" (defArgs s_alike) (defBody s_alike) (defScope s_alike) .none kV_alike dc_alike pm_alike an_alike cd_alike ct_alike), sl_alike⟩)
    (c_alike : PySem.W.codeIn K cd_alike "_law_alike" = true)
    (k_alike : PySem.W.keepIn K (.ref f_alike) = true)
    (a_build : PySem.W.nsIn K mainGlobals "_law_build" = some (some (.ref f_build)))
    (l_build : K.lookup f_build = some ⟨oc_build, od_build, .func (PySem.W.fnOf "_law_build" "_law_build" (defArgs s_build) (defBody s_build) (defScope s_build) .none kV_build dc_build pm_build an_build cd_build ct_build), sl_build⟩)
    (c_build : PySem.W.codeIn K cd_build "_law_build" = true)
    (k_build : PySem.W.keepIn K (.ref f_build) = true)
    (a_same : PySem.W.nsIn K mainGlobals "_law_same" = some (some (.ref f_same)))
    (l_same : K.lookup f_same = some ⟨oc_same, od_same, .func (PySem.W.fnOf "_law_same" "_law_same" (defArgs s_same) (defBody s_same) (defScope s_same) .none kV_same dc_same pm_same an_same cd_same ct_same), sl_same⟩)
    (c_same : PySem.W.codeIn K cd_same "_law_same" = true)
    (k_same : PySem.W.keepIn K (.ref f_same) = true)
    (a_ltext : PySem.W.nsIn K mainGlobals "_law_text" = some (some (.ref f_ltext)))
    (l_ltext : K.lookup f_ltext = some ⟨oc_ltext, od_ltext, .func (PySem.W.fnOf "_law_text" "_law_text" (defArgs s_ltext) (defBody s_ltext) (defScope s_ltext) .none kV_ltext dc_ltext pm_ltext an_ltext cd_ltext ct_ltext), sl_ltext⟩)
    (c_ltext : PySem.W.codeIn K cd_ltext "_law_text" = true)
    (k_ltext : PySem.W.keepIn K (.ref f_ltext) = true)
    (a_law : PySem.W.nsIn K mainGlobals "law" = some (some (.ref f_law)))
    (l_law : K.lookup f_law = some ⟨oc_law, od_law, .func (PySem.W.fnOf "law" "law" (defArgs s_law) (defBody s_law) (defScope s_law) .none kV_law dc_law pm_law an_law cd_law ct_law), sl_law⟩)
    (c_law : PySem.W.codeIn K cd_law "law" = true)
    (k_law : PySem.W.keepIn K (.ref f_law) = true)
    (m_Trules_Level : PySem.W.findIn K (.ref C_Level) "rules" = some (some (.ref f_Trules)))
    (m_Trules_Called : PySem.W.findIn K (.ref C_Called) "rules" = some (some (.ref f_Trules)))
    (i_Trules : PySem.W.isFn K (.ref f_Trules) = true)
    (l_Trules : K.lookup f_Trules = some ⟨oc_Trules, od_Trules, .func (PySem.W.fnOf "rules" "Term.rules" (defArgs s_Trules) (defBody s_Trules) (defScope s_Trules) .none kV_Trules dc_Trules pm_Trules an_Trules cd_Trules ct_Trules), sl_Trules⟩)
    (c_Trules : PySem.W.codeIn K cd_Trules "Term.rules" = true)
    (k_Trules : PySem.W.keepIn K (.ref f_Trules) = true)
    (m_Tdeep_Level : PySem.W.findIn K (.ref C_Level) "deep" = some (some (.ref f_Tdeep)))
    (m_Tdeep_Called : PySem.W.findIn K (.ref C_Called) "deep" = some (some (.ref f_Tdeep)))
    (i_Tdeep : PySem.W.isFn K (.ref f_Tdeep) = true)
    (l_Tdeep : K.lookup f_Tdeep = some ⟨oc_Tdeep, od_Tdeep, .func (PySem.W.fnOf "deep" "Term.deep" (defArgs s_Tdeep) (defBody s_Tdeep) (defScope s_Tdeep) .none kV_Tdeep dc_Tdeep pm_Tdeep an_Tdeep cd_Tdeep ct_Tdeep), sl_Tdeep⟩)
    (c_Tdeep : PySem.W.codeIn K cd_Tdeep "Term.deep" = true)
    (k_Tdeep : PySem.W.keepIn K (.ref f_Tdeep) = true)
    (m_Tstr_Level : PySem.W.findIn K (.ref C_Level) "__str__" = some (some (.ref f_Tstr)))
    (m_Tstr_Called : PySem.W.findIn K (.ref C_Called) "__str__" = some (some (.ref f_Tstr)))
    (m_Tstr_Least : PySem.W.findIn K (.ref C_Least) "__str__" = some (some (.ref f_Tstr)))
    (m_Tstr_Greatest : PySem.W.findIn K (.ref C_Greatest) "__str__" = some (some (.ref f_Tstr)))
    (i_Tstr : PySem.W.isFn K (.ref f_Tstr) = true)
    (l_Tstr : K.lookup f_Tstr = some ⟨oc_Tstr, od_Tstr, .func (PySem.W.fnOf "__str__" "Term.__str__" (defArgs s_Tstr) (defBody s_Tstr) (defScope s_Tstr) .none kV_Tstr dc_Tstr pm_Tstr an_Tstr cd_Tstr ct_Tstr), sl_Tstr⟩)
    (c_Tstr : PySem.W.codeIn K cd_Tstr "Term.__str__" = true)
    (k_Tstr : PySem.W.keepIn K (.ref f_Tstr) = true)
    (m_LvI_Level : PySem.W.findIn K (.ref C_Level) "__init__" = some (some (.ref f_LvI)))
    (i_LvI : PySem.W.isFn K (.ref f_LvI) = true)
    (l_LvI : K.lookup f_LvI = some ⟨oc_LvI, od_LvI, .func (PySem.W.fnOf "__init__" "Level.__init__" (defArgs s_LvI) (defBody s_LvI) (defScope s_LvI) .none kV_LvI dc_LvI pm_LvI an_LvI cd_LvI ct_LvI), sl_LvI⟩)
    (c_LvI : PySem.W.codeIn K cd_LvI "Level.__init__" = true)
    (k_LvI : PySem.W.keepIn K (.ref f_LvI) = true)
    (m_Ltext_Level : PySem.W.findIn K (.ref C_Level) "text" = some (some (.ref f_Ltext)))
    (i_Ltext : PySem.W.isFn K (.ref f_Ltext) = true)
    (l_Ltext : K.lookup f_Ltext = some ⟨oc_Ltext, od_Ltext, .func (PySem.W.fnOf "text" "Level.text" (defArgs s_Ltext) (defBody s_Ltext) (defScope s_Ltext) .none kV_Ltext dc_Ltext pm_Ltext an_Ltext cd_Ltext ct_Ltext), sl_Ltext⟩)
    (c_Ltext : PySem.W.codeIn K cd_Ltext "Level.text" = true)
    (k_Ltext : PySem.W.keepIn K (.ref f_Ltext) = true)
    (m_ClI_Called : PySem.W.findIn K (.ref C_Called) "__init__" = some (some (.ref f_ClI)))
    (i_ClI : PySem.W.isFn K (.ref f_ClI) = true)
    (l_ClI : K.lookup f_ClI = some ⟨oc_ClI, od_ClI, .func (PySem.W.fnOf "__init__" "Called.__init__" (defArgs s_ClI) (defBody s_ClI) (defScope s_ClI) (.ref T_ClI) kV_ClI dc_ClI pm_ClI an_ClI cd_ClI ct_ClI), sl_ClI⟩)
    (c_ClI : PySem.W.codeIn K cd_ClI "Called.__init__" = true)
    (k_ClI : PySem.W.keepIn K (.ref f_ClI) = true)
    (t_ClI : K.lookup T_ClI = some ⟨Tc_ClI, Td_ClI, .seq #[Value.none] Tn_ClI, Ts_ClI⟩)
    (m_Ctext_Called : PySem.W.findIn K (.ref C_Called) "text" = some (some (.ref f_Ctext)))
    (i_Ctext : PySem.W.isFn K (.ref f_Ctext) = true)
    (l_Ctext : K.lookup f_Ctext = some ⟨oc_Ctext, od_Ctext, .func (PySem.W.fnOf "text" "Called.text" (defArgs s_Ctext) (defBody s_Ctext) (defScope s_Ctext) .none kV_Ctext dc_Ctext pm_Ctext an_Ctext cd_Ctext ct_Ctext), sl_Ctext⟩)
    (c_Ctext : PySem.W.codeIn K cd_Ctext "Called.text" = true)
    (k_Ctext : PySem.W.keepIn K (.ref f_Ctext) = true)
    (m_MxI_Least : PySem.W.findIn K (.ref C_Least) "__init__" = some (some (.ref f_MxI)))
    (m_MxI_Greatest : PySem.W.findIn K (.ref C_Greatest) "__init__" = some (some (.ref f_MxI)))
    (i_MxI : PySem.W.isFn K (.ref f_MxI) = true)
    (l_MxI : K.lookup f_MxI = some ⟨oc_MxI, od_MxI, .func (PySem.W.fnOf "__init__" "Mixed.__init__" (defArgs s_MxI) (defBody s_MxI) (defScope s_MxI) .none kV_MxI dc_MxI pm_MxI an_MxI cd_MxI ct_MxI), sl_MxI⟩)
    (c_MxI : PySem.W.codeIn K cd_MxI "Mixed.__init__" = true)
    (k_MxI : PySem.W.keepIn K (.ref f_MxI) = true)
    (m_Mrules_Least : PySem.W.findIn K (.ref C_Least) "rules" = some (some (.ref f_Mrules)))
    (m_Mrules_Greatest : PySem.W.findIn K (.ref C_Greatest) "rules" = some (some (.ref f_Mrules)))
    (i_Mrules : PySem.W.isFn K (.ref f_Mrules) = true)
    (l_Mrules : K.lookup f_Mrules = some ⟨oc_Mrules, od_Mrules, .func (PySem.W.fnOf "rules" "Mixed.rules" (defArgs s_Mrules) (defBody s_Mrules) (defScope s_Mrules) .none kV_Mrules dc_Mrules pm_Mrules an_Mrules cd_Mrules ct_Mrules), sl_Mrules⟩)
    (c_Mrules : PySem.W.codeIn K cd_Mrules "Mixed.rules" = true)
    (k_Mrules : PySem.W.keepIn K (.ref f_Mrules) = true)
    (m_Mdeep_Least : PySem.W.findIn K (.ref C_Least) "deep" = some (some (.ref f_Mdeep)))
    (m_Mdeep_Greatest : PySem.W.findIn K (.ref C_Greatest) "deep" = some (some (.ref f_Mdeep)))
    (i_Mdeep : PySem.W.isFn K (.ref f_Mdeep) = true)
    (l_Mdeep : K.lookup f_Mdeep = some ⟨oc_Mdeep, od_Mdeep, .func (PySem.W.fnOf "deep" "Mixed.deep" (defArgs s_Mdeep) (defBody s_Mdeep) (defScope s_Mdeep) .none kV_Mdeep dc_Mdeep pm_Mdeep an_Mdeep cd_Mdeep ct_Mdeep), sl_Mdeep⟩)
    (c_Mdeep : PySem.W.codeIn K cd_Mdeep "Mixed.deep" = true)
    (k_Mdeep : PySem.W.keepIn K (.ref f_Mdeep) = true)
    (m_textby_Least : PySem.W.findIn K (.ref C_Least) "text_by" = some (some (.ref f_textby)))
    (m_textby_Greatest : PySem.W.findIn K (.ref C_Greatest) "text_by" = some (some (.ref f_textby)))
    (i_textby : PySem.W.isFn K (.ref f_textby) = true)
    (l_textby : K.lookup f_textby = some ⟨oc_textby, od_textby, .func (PySem.W.fnOf "text_by" "Mixed.text_by" (defArgs s_textby) (defBody s_textby) (defScope s_textby) .none kV_textby dc_textby pm_textby an_textby cd_textby ct_textby), sl_textby⟩)
    (c_textby : PySem.W.codeIn K cd_textby "Mixed.text_by" = true)
    (k_textby : PySem.W.keepIn K (.ref f_textby) = true)
    (m_Letext_Least : PySem.W.findIn K (.ref C_Least) "text" = some (some (.ref f_Letext)))
    (i_Letext : PySem.W.isFn K (.ref f_Letext) = true)
    (l_Letext : K.lookup f_Letext = some ⟨oc_Letext, od_Letext, .func (PySem.W.fnOf "text" "Least.text" (defArgs s_Letext) (defBody s_Letext) (defScope s_Letext) .none kV_Letext dc_Letext pm_Letext an_Letext cd_Letext ct_Letext), sl_Letext⟩)
    (c_Letext : PySem.W.codeIn K cd_Letext "Least.text" = true)
    (k_Letext : PySem.W.keepIn K (.ref f_Letext) = true)
    (m_Grtext_Greatest : PySem.W.findIn K (.ref C_Greatest) "text" = some (some (.ref f_Grtext)))
    (i_Grtext : PySem.W.isFn K (.ref f_Grtext) = true)
    (l_Grtext : K.lookup f_Grtext = some ⟨oc_Grtext, od_Grtext, .func (PySem.W.fnOf "text" "Greatest.text" (defArgs s_Grtext) (defBody s_Grtext) (defScope s_Grtext) .none kV_Grtext dc_Grtext pm_Grtext an_Grtext cd_Grtext ct_Grtext), sl_Grtext⟩)
    (c_Grtext : PySem.W.codeIn K cd_Grtext "Greatest.text" = true)
    (k_Grtext : PySem.W.keepIn K (.ref f_Grtext) = true)
    (pg_Level : PySem.W.plainGet K C_Level Str.empty = true)
    (hd_Level : PySem.W.hasDictIn K C_Level = true)
    (po_Level : PySem.W.plainOver K C_Level = true)
    (sa_Level : PySem.W.findIn K (.ref C_Level) "__setattr__" = some (some (.builtin "object.__setattr__")))
    (kc_Level : PySem.W.keepIn K (.ref C_Level) = true)
    (mk_Level : PySem.W.makesIn K C_Level = true)
    (n_Level_level : PySem.W.findIn K (.ref C_Level) "level" = some none)
    (n_Level_when : PySem.W.findIn K (.ref C_Level) "when" = some none)
    (n_Level_town : PySem.W.findIn K (.ref C_Level) "town" = some none)
    (n_Level_terms : PySem.W.findIn K (.ref C_Level) "terms" = some none)
    (pg_Called : PySem.W.plainGet K C_Called Str.empty = true)
    (hd_Called : PySem.W.hasDictIn K C_Called = true)
    (po_Called : PySem.W.plainOver K C_Called = true)
    (sa_Called : PySem.W.findIn K (.ref C_Called) "__setattr__" = some (some (.builtin "object.__setattr__")))
    (kc_Called : PySem.W.keepIn K (.ref C_Called) = true)
    (mk_Called : PySem.W.makesIn K C_Called = true)
    (n_Called_level : PySem.W.findIn K (.ref C_Called) "level" = some none)
    (n_Called_when : PySem.W.findIn K (.ref C_Called) "when" = some none)
    (n_Called_town : PySem.W.findIn K (.ref C_Called) "town" = some none)
    (n_Called_terms : PySem.W.findIn K (.ref C_Called) "terms" = some none)
    (pg_Least : PySem.W.plainGet K C_Least Str.empty = true)
    (hd_Least : PySem.W.hasDictIn K C_Least = true)
    (po_Least : PySem.W.plainOver K C_Least = true)
    (sa_Least : PySem.W.findIn K (.ref C_Least) "__setattr__" = some (some (.builtin "object.__setattr__")))
    (kc_Least : PySem.W.keepIn K (.ref C_Least) = true)
    (mk_Least : PySem.W.makesIn K C_Least = true)
    (n_Least_level : PySem.W.findIn K (.ref C_Least) "level" = some none)
    (n_Least_when : PySem.W.findIn K (.ref C_Least) "when" = some none)
    (n_Least_town : PySem.W.findIn K (.ref C_Least) "town" = some none)
    (n_Least_terms : PySem.W.findIn K (.ref C_Least) "terms" = some none)
    (pg_Greatest : PySem.W.plainGet K C_Greatest Str.empty = true)
    (hd_Greatest : PySem.W.hasDictIn K C_Greatest = true)
    (po_Greatest : PySem.W.plainOver K C_Greatest = true)
    (sa_Greatest : PySem.W.findIn K (.ref C_Greatest) "__setattr__" = some (some (.builtin "object.__setattr__")))
    (kc_Greatest : PySem.W.keepIn K (.ref C_Greatest) = true)
    (mk_Greatest : PySem.W.makesIn K C_Greatest = true)
    (n_Greatest_level : PySem.W.findIn K (.ref C_Greatest) "level" = some none)
    (n_Greatest_when : PySem.W.findIn K (.ref C_Greatest) "when" = some none)
    (n_Greatest_town : PySem.W.findIn K (.ref C_Greatest) "town" = some none)
    (n_Greatest_terms : PySem.W.findIn K (.ref C_Greatest) "terms" = some none)
    (ca_Level : PySem.W.findIn K (.ref C_Level) "__class__" = some (some (.builtin "object.__class__")))
    (mo_Level : PySem.W.mroIn K C_Level (.type "object") = some true)
    (is_Level_Called : PySem.W.subIn K (.ref C_Level) (.ref C_Called) = some false)
    (ib_Level_Called : (Value.ref C_Level == Value.ref C_Called) = false)
    (is_Level_Least : PySem.W.subIn K (.ref C_Level) (.ref C_Least) = some false)
    (ib_Level_Least : (Value.ref C_Level == Value.ref C_Least) = false)
    (is_Level_Greatest : PySem.W.subIn K (.ref C_Level) (.ref C_Greatest) = some false)
    (ib_Level_Greatest : (Value.ref C_Level == Value.ref C_Greatest) = false)
    (is_Level_Term : PySem.W.subIn K (.ref C_Level) (.ref C_Term) = some true)
    (ib_Level_Term : (Value.ref C_Level == Value.ref C_Term) = false)
    (ca_Called : PySem.W.findIn K (.ref C_Called) "__class__" = some (some (.builtin "object.__class__")))
    (mo_Called : PySem.W.mroIn K C_Called (.type "object") = some true)
    (is_Called_Level : PySem.W.subIn K (.ref C_Called) (.ref C_Level) = some false)
    (ib_Called_Level : (Value.ref C_Called == Value.ref C_Level) = false)
    (is_Called_Least : PySem.W.subIn K (.ref C_Called) (.ref C_Least) = some false)
    (ib_Called_Least : (Value.ref C_Called == Value.ref C_Least) = false)
    (is_Called_Greatest : PySem.W.subIn K (.ref C_Called) (.ref C_Greatest) = some false)
    (ib_Called_Greatest : (Value.ref C_Called == Value.ref C_Greatest) = false)
    (is_Called_Term : PySem.W.subIn K (.ref C_Called) (.ref C_Term) = some true)
    (ib_Called_Term : (Value.ref C_Called == Value.ref C_Term) = false)
    (ca_Least : PySem.W.findIn K (.ref C_Least) "__class__" = some (some (.builtin "object.__class__")))
    (mo_Least : PySem.W.mroIn K C_Least (.type "object") = some true)
    (is_Least_Level : PySem.W.subIn K (.ref C_Least) (.ref C_Level) = some false)
    (ib_Least_Level : (Value.ref C_Least == Value.ref C_Level) = false)
    (is_Least_Called : PySem.W.subIn K (.ref C_Least) (.ref C_Called) = some false)
    (ib_Least_Called : (Value.ref C_Least == Value.ref C_Called) = false)
    (is_Least_Greatest : PySem.W.subIn K (.ref C_Least) (.ref C_Greatest) = some false)
    (ib_Least_Greatest : (Value.ref C_Least == Value.ref C_Greatest) = false)
    (is_Least_Term : PySem.W.subIn K (.ref C_Least) (.ref C_Term) = some true)
    (ib_Least_Term : (Value.ref C_Least == Value.ref C_Term) = false)
    (ca_Greatest : PySem.W.findIn K (.ref C_Greatest) "__class__" = some (some (.builtin "object.__class__")))
    (mo_Greatest : PySem.W.mroIn K C_Greatest (.type "object") = some true)
    (is_Greatest_Level : PySem.W.subIn K (.ref C_Greatest) (.ref C_Level) = some false)
    (ib_Greatest_Level : (Value.ref C_Greatest == Value.ref C_Level) = false)
    (is_Greatest_Called : PySem.W.subIn K (.ref C_Greatest) (.ref C_Called) = some false)
    (ib_Greatest_Called : (Value.ref C_Greatest == Value.ref C_Called) = false)
    (is_Greatest_Least : PySem.W.subIn K (.ref C_Greatest) (.ref C_Least) = some false)
    (ib_Greatest_Least : (Value.ref C_Greatest == Value.ref C_Least) = false)
    (is_Greatest_Term : PySem.W.subIn K (.ref C_Greatest) (.ref C_Term) = some true)
    (ib_Greatest_Term : (Value.ref C_Greatest == Value.ref C_Term) = false)
    (ic_Level : PySem.W.isClsIn K C_Level = true)
    (it_Level : PySem.W.typeIn K (.ref C_Level) = some (.type "type"))
    (ic_Called : PySem.W.isClsIn K C_Called = true)
    (it_Called : PySem.W.typeIn K (.ref C_Called) = some (.type "type"))
    (ic_Least : PySem.W.isClsIn K C_Least = true)
    (it_Least : PySem.W.typeIn K (.ref C_Least) = some (.type "type"))
    (ic_Greatest : PySem.W.isClsIn K C_Greatest = true)
    (it_Greatest : PySem.W.typeIn K (.ref C_Greatest) = some (.type "type"))
    (ic_Term : PySem.W.isClsIn K C_Term = true)
    (it_Term : PySem.W.typeIn K (.ref C_Term) = some (.type "type"))
    (cn : PySem.W.specialIn K (.builtin "object.__class__") "__get__" = some (some (.builtin "getset_descriptor.__get__")))
    (ctk : PySem.W.takesIn K (.builtin "object.__class__") = some true)
    (ek_NoName : PySem.W.keepIn K (.ref C_NoName) = true)
    (ee_NoName : PySem.W.excIn K C_NoName [.type "ValueError", .type "Exception", .type "BaseException", .type "object"] "ValueError.__new__" = true)
    (eb_NoName : PySem.W.subIn K (.ref C_NoName) (.type "BaseException") = some true)
    (et_NoName : PySem.W.typeIn K (.ref C_NoName) = some (.type "type"))
    (ek_NoWorth : PySem.W.keepIn K (.ref C_NoWorth) = true)
    (ee_NoWorth : PySem.W.excIn K C_NoWorth [.type "ValueError", .type "Exception", .type "BaseException", .type "object"] "ValueError.__new__" = true)
    (eb_NoWorth : PySem.W.subIn K (.ref C_NoWorth) (.type "BaseException") = some true)
    (et_NoWorth : PySem.W.typeIn K (.ref C_NoWorth) = some (.type "type"))
    (ek_NoDay : PySem.W.keepIn K (.ref C_NoDay) = true)
    (ee_NoDay : PySem.W.excIn K C_NoDay [.type "ValueError", .type "Exception", .type "BaseException", .type "object"] "ValueError.__new__" = true)
    (eb_NoDay : PySem.W.subIn K (.ref C_NoDay) (.type "BaseException") = some true)
    (et_NoDay : PySem.W.typeIn K (.ref C_NoDay) = some (.type "type"))
    (ek_NoTerm : PySem.W.keepIn K (.ref C_NoTerm) = true)
    (ee_NoTerm : PySem.W.excIn K C_NoTerm [.type "ValueError", .type "Exception", .type "BaseException", .type "object"] "ValueError.__new__" = true)
    (eb_NoTerm : PySem.W.subIn K (.ref C_NoTerm) (.type "BaseException") = some true)
    (et_NoTerm : PySem.W.typeIn K (.ref C_NoTerm) = some (.type "type"))
    (ek_NoText : PySem.W.keepIn K (.ref C_NoText) = true)
    (ee_NoText : PySem.W.excIn K C_NoText [.type "ValueError", .type "Exception", .type "BaseException", .type "object"] "ValueError.__new__" = true)
    (eb_NoText : PySem.W.subIn K (.ref C_NoText) (.type "BaseException") = some true)
    (et_NoText : PySem.W.typeIn K (.ref C_NoText) = some (.type "type"))
    (v_TOP : PySem.W.nsIn K mainGlobals "TOP" = some (some (.int 1000000 tk_TOP)))
    (v_MOST_RULES : PySem.W.nsIn K mainGlobals "MOST_RULES" = some (some (.int 60 tk_MOST_RULES)))
    (v_MOST_DEEP : PySem.W.nsIn K mainGlobals "MOST_DEEP" = some (some (.int 8 tk_MOST_DEEP)))
    (v_MOST_OPEN : PySem.W.nsIn K mainGlobals "MOST_OPEN" = some (some (.int 20 tk_MOST_OPEN)))
    (z_len : PySem.W.nsIn K mainGlobals "len" = some none)
    (z_max : PySem.W.nsIn K mainGlobals "max" = some none)
    (z_min : PySem.W.nsIn K mainGlobals "min" = some none)
    (z_sum : PySem.W.nsIn K mainGlobals "sum" = some none)
    (z_range : PySem.W.nsIn K mainGlobals "range" = some none)
    (z_isinstance : PySem.W.nsIn K mainGlobals "isinstance" = some none)
    (z_int : PySem.W.nsIn K mainGlobals "int" = some none)
    (z_bool : PySem.W.nsIn K mainGlobals "bool" = some none)
    (z_str : PySem.W.nsIn K mainGlobals "str" = some none)
    (z_all : PySem.W.nsIn K mainGlobals "all" = some none)
    (z_list : PySem.W.nsIn K mainGlobals "list" = some none)
    (z_tuple : PySem.W.nsIn K mainGlobals "tuple" = some none)
    (z_dict : PySem.W.nsIn K mainGlobals "dict" = some none)
    (z_zip : PySem.W.nsIn K mainGlobals "zip" = some none)
    (z_sorted : PySem.W.nsIn K mainGlobals "sorted" = some none)
    : ∃ fd : FuncData, (∀ (s : Shared) (v : Value), BindsTo s fd ⟨[v], []⟩ [("_law_script", v)]) ∧ ∀ base : Heap, K.In base → base.Ns mainGlobals mg → FnOk l.prog w K mg base CX0 45 fa fd ["_law_script"] (spLaw K) := by
  have g_Term := PySem.W.mg_of X G a_Term
  have x_Term : exA mg "Term" = C_Term := exA_of g_Term
  have g_Level := PySem.W.mg_of X G a_Level
  have x_Level : exA mg "Level" = C_Level := exA_of g_Level
  have g_Called := PySem.W.mg_of X G a_Called
  have x_Called : exA mg "Called" = C_Called := exA_of g_Called
  have g_Least := PySem.W.mg_of X G a_Least
  have x_Least : exA mg "Least" = C_Least := exA_of g_Least
  have g_Greatest := PySem.W.mg_of X G a_Greatest
  have x_Greatest : exA mg "Greatest" = C_Greatest := exA_of g_Greatest
  have g_NoName := PySem.W.mg_of X G a_NoName
  have x_NoName : exA mg "NoName" = C_NoName := exA_of g_NoName
  have g_NoWorth := PySem.W.mg_of X G a_NoWorth
  have x_NoWorth : exA mg "NoWorth" = C_NoWorth := exA_of g_NoWorth
  have g_NoDay := PySem.W.mg_of X G a_NoDay
  have x_NoDay : exA mg "NoDay" = C_NoDay := exA_of g_NoDay
  have g_NoTerm := PySem.W.mg_of X G a_NoTerm
  have x_NoTerm : exA mg "NoTerm" = C_NoTerm := exA_of g_NoTerm
  have g_NoText := PySem.W.mg_of X G a_NoText
  have x_NoText : exA mg "NoText" = C_NoText := exA_of g_NoText
  have g_is_name := PySem.W.mg_of X G a_is_name
  have F_is_name := fun_mk (st := s_is_name) l_is_name c_is_name k_is_name
  have b_is_name := F_is_name.binds (ps := ["text"]) fun _ _ _ _ _ _ us hl => match us, hl with | [_], _ => rfl
  have g_is_number := PySem.W.mg_of X G a_is_number
  have F_is_number := fun_mk (st := s_is_number) l_is_number c_is_number k_is_number
  have b_is_number := F_is_number.binds (ps := ["thing", "low", "high"]) fun _ _ _ _ _ _ us hl => match us, hl with | [_, _, _], _ => rfl
  have g_ask_name := PySem.W.mg_of X G a_ask_name
  have F_ask_name := fun_mk (st := s_ask_name) l_ask_name c_ask_name k_ask_name
  have b_ask_name := F_ask_name.binds (ps := ["text"]) fun _ _ _ _ _ _ us hl => match us, hl with | [_], _ => rfl
  have g_ask_worth := PySem.W.mg_of X G a_ask_worth
  have F_ask_worth := fun_mk (st := s_ask_worth) l_ask_worth c_ask_worth k_ask_worth
  have b_ask_worth := F_ask_worth.binds (ps := ["worth"]) fun _ _ _ _ _ _ us hl => match us, hl with | [_], _ => rfl
  have g_term_of := PySem.W.mg_of X G a_term_of
  have F_term_of := fun_mk (st := s_term_of) l_term_of c_term_of k_term_of
  have b_term_of := F_term_of.binds (ps := ["told"]) fun _ _ _ _ _ _ us hl => match us, hl with | [_], _ => rfl
  have g_figures_end := PySem.W.mg_of X G a_figures_end
  have F_figures_end := fun_mk (st := s_figures_end) l_figures_end c_figures_end k_figures_end
  have b_figures_end := F_figures_end.binds (ps := ["text", "at"]) fun _ _ _ _ _ _ us hl => match us, hl with | [_, _], _ => rfl
  have g_word_end := PySem.W.mg_of X G a_word_end
  have F_word_end := fun_mk (st := s_word_end) l_word_end c_word_end k_word_end
  have b_word_end := F_word_end.binds (ps := ["text", "at"]) fun _ _ _ _ _ _ us hl => match us, hl with | [_, _], _ => rfl
  have g_read_called := PySem.W.mg_of X G a_read_called
  have F_read_called := fun_mk (st := s_read_called) l_read_called c_read_called k_read_called
  have b_read_called := F_read_called.binds (ps := ["text", "at"]) fun _ _ _ _ _ _ us hl => match us, hl with | [_, _], _ => rfl
  have g_read_rules := PySem.W.mg_of X G a_read_rules
  have F_read_rules := fun_mk (st := s_read_rules) l_read_rules c_read_rules k_read_rules
  have b_read_rules := F_read_rules.binds (ps := ["text", "at", "word", "many"]) fun _ _ _ _ _ _ us hl => match us, hl with | [_, _, _, _], _ => rfl
  have g_read_rule := PySem.W.mg_of X G a_read_rule
  have F_read_rule := fun_mk (st := s_read_rule) l_read_rule c_read_rule k_read_rule
  have b_read_rule := F_read_rule.binds (ps := ["text", "at", "many"]) fun _ _ _ _ _ _ us hl => match us, hl with | [_, _, _], _ => rfl
  have g_read_term := PySem.W.mg_of X G a_read_term
  have F_read_term := fun_mk (st := s_read_term) l_read_term c_read_term k_read_term
  have b_read_term := F_read_term.binds (ps := ["text"]) fun _ _ _ _ _ _ us hl => match us, hl with | [_], _ => rfl
  have g_mixed := PySem.W.mg_of X G a_mixed
  have F_mixed := fun_mk (st := s_mixed) l_mixed c_mixed k_mixed
  have b_mixed := F_mixed.binds (ps := ["_law_cell", "_law_k"]) fun _ _ _ _ _ _ us hl => match us, hl with | [_, _], _ => rfl
  have g_next := PySem.W.mg_of X G a_next
  have F_next := fun_mk (st := s_next) l_next c_next k_next
  have b_next := F_next.binds (ps := ["_law_draw", "_law_size"]) fun _ _ _ _ _ _ us hl => match us, hl with | [_, _], _ => rfl
  have g_word := PySem.W.mg_of X G a_word
  have F_word := fun_mk (st := s_word) l_word c_word k_word
  have b_word := F_word.binds (ps := ["_law_draw"]) fun _ _ _ _ _ _ us hl => match us, hl with | [_], _ => rfl
  have g_words := PySem.W.mg_of X G a_words
  have F_words := fun_mk (st := s_words) l_words c_words k_words
  have b_words := F_words.binds (ps := ["_law_draw", "_law_many"]) fun _ _ _ _ _ _ us hl => match us, hl with | [_, _], _ => rfl
  have g_level := PySem.W.mg_of X G a_level
  have F_level := fun_mk (st := s_level) l_level c_level k_level
  have b_level := F_level.binds (ps := ["_law_draw"]) fun _ _ _ _ _ _ us hl => match us, hl with | [_], _ => rfl
  have g_day := PySem.W.mg_of X G a_day
  have F_day := fun_mk (st := s_day) l_day c_day k_day
  have b_day := F_day.binds (ps := ["_law_draw"]) fun _ _ _ _ _ _ us hl => match us, hl with | [_], _ => rfl
  have g_calls := PySem.W.mg_of X G a_calls
  have F_calls := fun_mk (st := s_calls) l_calls c_calls k_calls
  have b_calls := F_calls.binds (ps := ["_law_draw", "_law_towns", "_law_days", "_law_many"]) fun _ _ _ _ _ _ us hl => match us, hl with | [_, _, _, _], _ => rfl
  have g_told := PySem.W.mg_of X G a_told
  have F_told := fun_mk (st := s_told) l_told c_told k_told
  have b_told := F_told.binds (ps := ["_law_draw", "_law_calls_here", "_law_deep", "_law_room"]) fun _ _ _ _ _ _ us hl => match us, hl with | [_, _, _, _], _ => rfl
  have g_tall := PySem.W.mg_of X G a_tall
  have F_tall := fun_mk (st := s_tall) l_tall c_tall k_tall
  have b_tall := F_tall.binds (ps := ["_law_draw", "_law_calls_here", "_law_deep"]) fun _ _ _ _ _ _ us hl => match us, hl with | [_, _, _], _ => rfl
  have g_sized := PySem.W.mg_of X G a_sized
  have F_sized := fun_mk (st := s_sized) l_sized c_sized k_sized
  have b_sized := F_sized.binds (ps := ["_law_draw", "_law_calls_here", "_law_size"]) fun _ _ _ _ _ _ us hl => match us, hl with | [_, _, _], _ => rfl
  have g_alike := PySem.W.mg_of X G a_alike
  have F_alike := fun_mk (st := s_alike) l_alike c_alike k_alike
  have b_alike := F_alike.binds (ps := ["_law_found", "_law_due"]) fun _ _ _ _ _ _ us hl => match us, hl with | [_, _], _ => rfl
  have g_build := PySem.W.mg_of X G a_build
  have F_build := fun_mk (st := s_build) l_build c_build k_build
  have b_build := F_build.binds (ps := ["_law_told_here"]) fun _ _ _ _ _ _ us hl => match us, hl with | [_], _ => rfl
  have g_same := PySem.W.mg_of X G a_same
  have F_same := fun_mk (st := s_same) l_same c_same k_same
  have b_same := F_same.binds (ps := ["_law_term", "_law_told_here"]) fun _ _ _ _ _ _ us hl => match us, hl with | [_, _], _ => rfl
  have g_ltext := PySem.W.mg_of X G a_ltext
  have F_ltext := fun_mk (st := s_ltext) l_ltext c_ltext k_ltext
  have b_ltext := F_ltext.binds (ps := ["_law_told_here"]) fun _ _ _ _ _ _ us hl => match us, hl with | [_], _ => rfl
  have e := hfa.symm.trans (PySem.W.mg_of X G a_law)
  cases e
  have F_law := fun_mk (st := s_law) l_law c_law k_law
  have b_law := F_law.binds (ps := ["_law_script"]) fun _ _ _ _ _ _ us hl => match us, hl with | [_], _ => rfl
  have F_Trules := fun_mk (st := s_Trules) l_Trules c_Trules k_Trules
  have b_Trules := F_Trules.binds (ps := ["self"]) fun _ _ _ _ _ _ us hl => match us, hl with | [_], _ => rfl
  have M_Trules : Mby K mg "rules" ["Level", "Called"] f_Trules := fun c hc => by
    simp only [List.mem_cons, List.not_mem_nil, or_false] at hc
    rcases hc with h | h
    · subst h; rw [x_Level]; exact ⟨m_Trules_Level, i_Trules, k_Trules⟩
    · subst h; rw [x_Called]; exact ⟨m_Trules_Called, i_Trules, k_Trules⟩
  have F_Tdeep := fun_mk (st := s_Tdeep) l_Tdeep c_Tdeep k_Tdeep
  have b_Tdeep := F_Tdeep.binds (ps := ["self"]) fun _ _ _ _ _ _ us hl => match us, hl with | [_], _ => rfl
  have M_Tdeep : Mby K mg "deep" ["Level", "Called"] f_Tdeep := fun c hc => by
    simp only [List.mem_cons, List.not_mem_nil, or_false] at hc
    rcases hc with h | h
    · subst h; rw [x_Level]; exact ⟨m_Tdeep_Level, i_Tdeep, k_Tdeep⟩
    · subst h; rw [x_Called]; exact ⟨m_Tdeep_Called, i_Tdeep, k_Tdeep⟩
  have F_Tstr := fun_mk (st := s_Tstr) l_Tstr c_Tstr k_Tstr
  have b_Tstr := F_Tstr.binds (ps := ["self"]) fun _ _ _ _ _ _ us hl => match us, hl with | [_], _ => rfl
  have M_Tstr : Mby K mg "__str__" ["Level", "Called", "Least", "Greatest"] f_Tstr := fun c hc => by
    simp only [List.mem_cons, List.not_mem_nil, or_false] at hc
    rcases hc with h | h | h | h
    · subst h; rw [x_Level]; exact ⟨m_Tstr_Level, i_Tstr, k_Tstr⟩
    · subst h; rw [x_Called]; exact ⟨m_Tstr_Called, i_Tstr, k_Tstr⟩
    · subst h; rw [x_Least]; exact ⟨m_Tstr_Least, i_Tstr, k_Tstr⟩
    · subst h; rw [x_Greatest]; exact ⟨m_Tstr_Greatest, i_Tstr, k_Tstr⟩
  have F_LvI := fun_mk (st := s_LvI) l_LvI c_LvI k_LvI
  have b_LvI := F_LvI.binds (ps := ["self", "level"]) fun _ _ _ _ _ _ us hl => match us, hl with | [_, _], _ => rfl
  have F_Ltext := fun_mk (st := s_Ltext) l_Ltext c_Ltext k_Ltext
  have b_Ltext := F_Ltext.binds (ps := ["self"]) fun _ _ _ _ _ _ us hl => match us, hl with | [_], _ => rfl
  have M_Ltext : Mby K mg "text" ["Level"] f_Ltext := fun c hc => by
    simp only [List.mem_cons, List.not_mem_nil, or_false] at hc
    have h := hc
    · subst h; rw [x_Level]; exact ⟨m_Ltext_Level, i_Ltext, k_Ltext⟩
  have F_ClI : FunD K "__init__" "Called.__init__" (defArgs s_ClI) (defBody s_ClI) (defScope s_ClI) [.non] [] f_ClI _ := ⟨⟨_, _, _, _, _, _, _, _, _, _, rfl, l_ClI, c_ClI, .inr ⟨by simp, T_ClI, _, [Value.none], _, rfl, t_ClI, rfl, .cons rfl .nil⟩, .inl rfl⟩, k_ClI⟩
  obtain ⟨ds_ClI, hv_ClI, b_ClI⟩ := F_ClI.binds1 (ps := ["self", "when", "town"]) 3 1 (by simp) rfl fun _ _ _ _ _ _ _ us its h1 h2 => match us, its, h1, h2 with | [_, _, _], [_], _, _ => ⟨_, rfl, rfl⟩
  have hv_ClI : Vals [] ds_ClI := hv_ClI
  cases hv_ClI
  have F_Ctext := fun_mk (st := s_Ctext) l_Ctext c_Ctext k_Ctext
  have b_Ctext := F_Ctext.binds (ps := ["self"]) fun _ _ _ _ _ _ us hl => match us, hl with | [_], _ => rfl
  have M_Ctext : Mby K mg "text" ["Called"] f_Ctext := fun c hc => by
    simp only [List.mem_cons, List.not_mem_nil, or_false] at hc
    have h := hc
    · subst h; rw [x_Called]; exact ⟨m_Ctext_Called, i_Ctext, k_Ctext⟩
  have F_MxI := fun_mk (st := s_MxI) l_MxI c_MxI k_MxI
  have b_MxI := F_MxI.binds (ps := ["self", "terms"]) fun _ _ _ _ _ _ us hl => match us, hl with | [_, _], _ => rfl
  have F_Mrules := fun_mk (st := s_Mrules) l_Mrules c_Mrules k_Mrules
  have b_Mrules := F_Mrules.binds (ps := ["self"]) fun _ _ _ _ _ _ us hl => match us, hl with | [_], _ => rfl
  have M_Mrules : Mby K mg "rules" ["Least", "Greatest"] f_Mrules := fun c hc => by
    simp only [List.mem_cons, List.not_mem_nil, or_false] at hc
    rcases hc with h | h
    · subst h; rw [x_Least]; exact ⟨m_Mrules_Least, i_Mrules, k_Mrules⟩
    · subst h; rw [x_Greatest]; exact ⟨m_Mrules_Greatest, i_Mrules, k_Mrules⟩
  have F_Mdeep := fun_mk (st := s_Mdeep) l_Mdeep c_Mdeep k_Mdeep
  have b_Mdeep := F_Mdeep.binds (ps := ["self"]) fun _ _ _ _ _ _ us hl => match us, hl with | [_], _ => rfl
  have M_Mdeep : Mby K mg "deep" ["Least", "Greatest"] f_Mdeep := fun c hc => by
    simp only [List.mem_cons, List.not_mem_nil, or_false] at hc
    rcases hc with h | h
    · subst h; rw [x_Least]; exact ⟨m_Mdeep_Least, i_Mdeep, k_Mdeep⟩
    · subst h; rw [x_Greatest]; exact ⟨m_Mdeep_Greatest, i_Mdeep, k_Mdeep⟩
  have F_textby := fun_mk (st := s_textby) l_textby c_textby k_textby
  have b_textby := F_textby.binds (ps := ["self", "word"]) fun _ _ _ _ _ _ us hl => match us, hl with | [_, _], _ => rfl
  have M_textby : Mby K mg "text_by" ["Least", "Greatest"] f_textby := fun c hc => by
    simp only [List.mem_cons, List.not_mem_nil, or_false] at hc
    rcases hc with h | h
    · subst h; rw [x_Least]; exact ⟨m_textby_Least, i_textby, k_textby⟩
    · subst h; rw [x_Greatest]; exact ⟨m_textby_Greatest, i_textby, k_textby⟩
  have F_Letext := fun_mk (st := s_Letext) l_Letext c_Letext k_Letext
  have b_Letext := F_Letext.binds (ps := ["self"]) fun _ _ _ _ _ _ us hl => match us, hl with | [_], _ => rfl
  have M_Letext : Mby K mg "text" ["Least"] f_Letext := fun c hc => by
    simp only [List.mem_cons, List.not_mem_nil, or_false] at hc
    have h := hc
    · subst h; rw [x_Least]; exact ⟨m_Letext_Least, i_Letext, k_Letext⟩
  have F_Grtext := fun_mk (st := s_Grtext) l_Grtext c_Grtext k_Grtext
  have b_Grtext := F_Grtext.binds (ps := ["self"]) fun _ _ _ _ _ _ us hl => match us, hl with | [_], _ => rfl
  have M_Grtext : Mby K mg "text" ["Greatest"] f_Grtext := fun c hc => by
    simp only [List.mem_cons, List.not_mem_nil, or_false] at hc
    have h := hc
    · subst h; rw [x_Greatest]; exact ⟨m_Grtext_Greatest, i_Grtext, k_Grtext⟩
  have kc : ∀ c ∈ (["Level", "Called", "Least", "Greatest"] : List Str), Cls K (exA mg c) := fun c hc => by
    simp only [List.mem_cons, List.not_mem_nil, or_false] at hc
    rcases hc with h | h | h | h
    · subst h; rw [x_Level]; exact ⟨pg_Level, hd_Level, po_Level, sa_Level⟩
    · subst h; rw [x_Called]; exact ⟨pg_Called, hd_Called, po_Called, sa_Called⟩
    · subst h; rw [x_Least]; exact ⟨pg_Least, hd_Least, po_Least, sa_Least⟩
    · subst h; rw [x_Greatest]; exact ⟨pg_Greatest, hd_Greatest, po_Greatest, sa_Greatest⟩
  have kn : ∀ c ∈ (["Level", "Called", "Least", "Greatest"] : List Str), ∀ f ∈ (["level", "when", "town", "terms"] : List Str), NoAttr K (exA mg c) f := fun c hc f hf => by
    simp only [List.mem_cons, List.not_mem_nil, or_false] at hc hf
    rcases hc with h | h | h | h <;> rcases hf with h2 | h2 | h2 | h2 <;> subst h <;> subst h2
    · rw [x_Level]; exact n_Level_level
    · rw [x_Level]; exact n_Level_when
    · rw [x_Level]; exact n_Level_town
    · rw [x_Level]; exact n_Level_terms
    · rw [x_Called]; exact n_Called_level
    · rw [x_Called]; exact n_Called_when
    · rw [x_Called]; exact n_Called_town
    · rw [x_Called]; exact n_Called_terms
    · rw [x_Least]; exact n_Least_level
    · rw [x_Least]; exact n_Least_when
    · rw [x_Least]; exact n_Least_town
    · rw [x_Least]; exact n_Least_terms
    · rw [x_Greatest]; exact n_Greatest_level
    · rw [x_Greatest]; exact n_Greatest_when
    · rw [x_Greatest]; exact n_Greatest_town
    · rw [x_Greatest]; exact n_Greatest_terms
  have kls : Kls K mg := ⟨kc, kn⟩
  have kg : ∀ c ∈ (["Term", "Level", "Called", "Least", "Greatest"] : List Str), mg c = some (.ref (exA mg c)) := fun c hc => by
    simp only [List.mem_cons, List.not_mem_nil, or_false] at hc
    rcases hc with h | h | h | h | h
    · subst h; rw [x_Term]; exact g_Term
    · subst h; rw [x_Level]; exact g_Level
    · subst h; rw [x_Called]; exact g_Called
    · subst h; rw [x_Least]; exact g_Least
    · subst h; rw [x_Greatest]; exact g_Greatest
  have ka : ∀ c ∈ (["Level", "Called", "Least", "Greatest"] : List Str), PySem.W.findIn K (.ref (exA mg c)) "__class__" = some (some (.builtin "object.__class__")) := fun c hc => by
    simp only [List.mem_cons, List.not_mem_nil, or_false] at hc
    rcases hc with h | h | h | h
    · subst h; rw [x_Level]; exact ca_Level
    · subst h; rw [x_Called]; exact ca_Called
    · subst h; rw [x_Least]; exact ca_Least
    · subst h; rw [x_Greatest]; exact ca_Greatest
  have km : ∀ c ∈ (["Level", "Called", "Least", "Greatest"] : List Str), PySem.W.mroIn K (exA mg c) (.type "object") = some true := fun c hc => by
    simp only [List.mem_cons, List.not_mem_nil, or_false] at hc
    rcases hc with h | h | h | h
    · subst h; rw [x_Level]; exact mo_Level
    · subst h; rw [x_Called]; exact mo_Called
    · subst h; rw [x_Least]; exact mo_Least
    · subst h; rw [x_Greatest]; exact mo_Greatest
  have ki : ∀ c ∈ (["Level", "Called", "Least", "Greatest"] : List Str), ∀ d ∈ (["Level", "Called", "Least", "Greatest"] : List Str), PySem.W.kitOne K (.ref (exA mg c)) (.ref (exA mg d)) = some (decide (c = d)) := fun c hc d hd => by
    simp only [List.mem_cons, List.not_mem_nil, or_false] at hc hd
    rcases hc with h | h | h | h <;> rcases hd with h2 | h2 | h2 | h2 <;> subst h <;> subst h2
    · rw [x_Level, kit_self, decide_eq_true rfl]
    · rw [x_Level, x_Called, kit_own ic_Called it_Called is_Level_Called ib_Level_Called, decide_eq_false (by decide +kernel)]
    · rw [x_Level, x_Least, kit_own ic_Least it_Least is_Level_Least ib_Level_Least, decide_eq_false (by decide +kernel)]
    · rw [x_Level, x_Greatest, kit_own ic_Greatest it_Greatest is_Level_Greatest ib_Level_Greatest, decide_eq_false (by decide +kernel)]
    · rw [x_Called, x_Level, kit_own ic_Level it_Level is_Called_Level ib_Called_Level, decide_eq_false (by decide +kernel)]
    · rw [x_Called, kit_self, decide_eq_true rfl]
    · rw [x_Called, x_Least, kit_own ic_Least it_Least is_Called_Least ib_Called_Least, decide_eq_false (by decide +kernel)]
    · rw [x_Called, x_Greatest, kit_own ic_Greatest it_Greatest is_Called_Greatest ib_Called_Greatest, decide_eq_false (by decide +kernel)]
    · rw [x_Least, x_Level, kit_own ic_Level it_Level is_Least_Level ib_Least_Level, decide_eq_false (by decide +kernel)]
    · rw [x_Least, x_Called, kit_own ic_Called it_Called is_Least_Called ib_Least_Called, decide_eq_false (by decide +kernel)]
    · rw [x_Least, kit_self, decide_eq_true rfl]
    · rw [x_Least, x_Greatest, kit_own ic_Greatest it_Greatest is_Least_Greatest ib_Least_Greatest, decide_eq_false (by decide +kernel)]
    · rw [x_Greatest, x_Level, kit_own ic_Level it_Level is_Greatest_Level ib_Greatest_Level, decide_eq_false (by decide +kernel)]
    · rw [x_Greatest, x_Called, kit_own ic_Called it_Called is_Greatest_Called ib_Greatest_Called, decide_eq_false (by decide +kernel)]
    · rw [x_Greatest, x_Least, kit_own ic_Least it_Least is_Greatest_Least ib_Greatest_Least, decide_eq_false (by decide +kernel)]
    · rw [x_Greatest, kit_self, decide_eq_true rfl]
  have kt : ∀ c ∈ (["Level", "Called", "Least", "Greatest"] : List Str), PySem.W.kitOne K (.ref (exA mg c)) (.ref (exA mg "Term")) = some true := fun c hc => by
    simp only [List.mem_cons, List.not_mem_nil, or_false] at hc
    rcases hc with h | h | h | h
    · subst h; rw [x_Level, x_Term]; exact kit_own ic_Term it_Term is_Level_Term ib_Level_Term
    · subst h; rw [x_Called, x_Term]; exact kit_own ic_Term it_Term is_Called_Term ib_Called_Term
    · subst h; rw [x_Least, x_Term]; exact kit_own ic_Term it_Term is_Least_Term ib_Least_Term
    · subst h; rw [x_Greatest, x_Term]; exact kit_own ic_Term it_Term is_Greatest_Term ib_Greatest_Term
  have kis : Kis K mg := ⟨kg, ka, cn, ctk, km, ki, kt⟩
  have X_NoName : Exk K mg "NoName" := ⟨by rw [x_NoName]; exact g_NoName, by rw [x_NoName]; exact ek_NoName, by rw [x_NoName]; exact ee_NoName, by rw [x_NoName]; exact eb_NoName, by rw [x_NoName]; exact et_NoName⟩
  have X_NoWorth : Exk K mg "NoWorth" := ⟨by rw [x_NoWorth]; exact g_NoWorth, by rw [x_NoWorth]; exact ek_NoWorth, by rw [x_NoWorth]; exact ee_NoWorth, by rw [x_NoWorth]; exact eb_NoWorth, by rw [x_NoWorth]; exact et_NoWorth⟩
  have X_NoDay : Exk K mg "NoDay" := ⟨by rw [x_NoDay]; exact g_NoDay, by rw [x_NoDay]; exact ek_NoDay, by rw [x_NoDay]; exact ee_NoDay, by rw [x_NoDay]; exact eb_NoDay, by rw [x_NoDay]; exact et_NoDay⟩
  have X_NoTerm : Exk K mg "NoTerm" := ⟨by rw [x_NoTerm]; exact g_NoTerm, by rw [x_NoTerm]; exact ek_NoTerm, by rw [x_NoTerm]; exact ee_NoTerm, by rw [x_NoTerm]; exact eb_NoTerm, by rw [x_NoTerm]; exact et_NoTerm⟩
  have X_NoText : Exk K mg "NoText" := ⟨by rw [x_NoText]; exact g_NoText, by rw [x_NoText]; exact ek_NoText, by rw [x_NoText]; exact ee_NoText, by rw [x_NoText]; exact eb_NoText, by rw [x_NoText]; exact et_NoText⟩
  have Tc : Cn mg := ⟨⟨_, PySem.W.mg_of X G v_TOP⟩, ⟨_, PySem.W.mg_of X G v_MOST_RULES⟩, ⟨_, PySem.W.mg_of X G v_MOST_DEEP⟩, ⟨_, PySem.W.mg_of X G v_MOST_OPEN⟩⟩
  have T : Bl mg := ⟨PySem.W.mg_none_of X G z_len, PySem.W.mg_none_of X G z_max, PySem.W.mg_none_of X G z_min, PySem.W.mg_none_of X G z_sum, PySem.W.mg_none_of X G z_range, PySem.W.mg_none_of X G z_isinstance, PySem.W.mg_none_of X G z_int, PySem.W.mg_none_of X G z_bool, PySem.W.mg_none_of X G z_str, PySem.W.mg_none_of X G z_all, PySem.W.mg_none_of X G z_list, PySem.W.mg_none_of X G z_tuple, PySem.W.mg_none_of X G z_dict, PySem.W.mg_none_of X G z_zip, PySem.W.mg_none_of X G z_sorted⟩
  have K_Level : Mk K (exA mg "Level") f_LvI := by rw [x_Level]; exact ⟨mk_Level, m_LvI_Level, i_LvI, kc_Level⟩
  have gx_Level : mg "Level" = some (.ref (exA mg "Level")) := by rw [x_Level]; exact g_Level
  have K_Called : Mk K (exA mg "Called") f_ClI := by rw [x_Called]; exact ⟨mk_Called, m_ClI_Called, i_ClI, kc_Called⟩
  have gx_Called : mg "Called" = some (.ref (exA mg "Called")) := by rw [x_Called]; exact g_Called
  have K_Least : Mk K (exA mg "Least") f_MxI := by rw [x_Least]; exact ⟨mk_Least, m_MxI_Least, i_MxI, kc_Least⟩
  have gx_Least : mg "Least" = some (.ref (exA mg "Least")) := by rw [x_Least]; exact g_Least
  have K_Greatest : Mk K (exA mg "Greatest") f_MxI := by rw [x_Greatest]; exact ⟨mk_Greatest, m_MxI_Greatest, i_MxI, kc_Greatest⟩
  have gx_Greatest : mg "Greatest" = some (.ref (exA mg "Greatest")) := by rw [x_Greatest]; exact g_Greatest
  refine ⟨PySem.W.fnOf "law" "law" (defArgs s_law) (defBody s_law) (defScope s_law) .none kV_law dc_law pm_law an_law cd_law ct_law, fun s v => .of_eq rfl, fun base _ _ => ?_⟩
  have c_mixed : Cal l.prog w K mg base CX0 1 "_law_mixed" ["_law_cell", "_law_k"] spMixed [] := ⟨_, _, [], ok_mixed F_mixed, g_mixed, k_mixed, b_mixed, .nil⟩
  have c_next : Cal l.prog w K mg base CX0 2 "_law_next" ["_law_draw", "_law_size"] (spNext K) [] := ⟨_, _, [], ok_next F_next T c_mixed, g_next, k_next, b_next, .nil⟩
  have c_word : Cal l.prog w K mg base CX0 3 "_law_word" ["_law_draw"] (spWord K) [] := ⟨_, _, [], ok_word F_word T c_next, g_word, k_word, b_word, .nil⟩
  have c_words : Cal l.prog w K mg base CX0 4 "_law_words" ["_law_draw", "_law_many"] (spWords K) [] := ⟨_, _, [], ok_words F_words T c_word, g_words, k_words, b_words, .nil⟩
  have c_level : Cal l.prog w K mg base CX0 3 "_law_level" ["_law_draw"] (spLevel K) [] := ⟨_, _, [], ok_level F_level T c_next, g_level, k_level, b_level, .nil⟩
  have c_day : Cal l.prog w K mg base CX0 3 "_law_day" ["_law_draw"] (spDay K) [] := ⟨_, _, [], ok_day F_day T c_next, g_day, k_day, b_day, .nil⟩
  have c_calls : Cal l.prog w K mg base CX0 3 "_law_calls" ["_law_draw", "_law_towns", "_law_days", "_law_many"] (spCalls K) [] := ⟨_, _, [], ok_calls F_calls T c_next, g_calls, k_calls, b_calls, .nil⟩
  have told := fun n => ok_told (P := l.prog) (w := w) (base := base) F_told g_told b_told T c_next c_level n
  have c_told1 : Cal l.prog w K mg base CX0 5 "_law_told" ["_law_draw", "_law_calls_here", "_law_deep", "_law_room"] (spTold K 1) [] := ⟨_, _, [], told 1, g_told, k_told, b_told, .nil⟩
  have c_told : Cal l.prog w K mg base CX0 10 "_law_told" ["_law_draw", "_law_calls_here", "_law_deep", "_law_room"] (spTold K 6) [] := ⟨_, _, [], told 6, g_told, k_told, b_told, .nil⟩
  have c_tall : Cal l.prog w K mg base CX0 6 "_law_tall" ["_law_draw", "_law_calls_here", "_law_deep"] (spTall K) [] := ⟨_, _, [], ok_tall F_tall T c_next c_told1, g_tall, k_tall, b_tall, .nil⟩
  have c_sized : Cal l.prog w K mg base CX0 6 "_law_sized" ["_law_draw", "_law_calls_here", "_law_size"] (spSized K) [] := ⟨_, _, [], ok_sized F_sized T c_next c_told1, g_sized, k_sized, b_sized, .nil⟩
  have c_is_name : Cal l.prog w K mg base CX0 1 "is_name" ["text"] spIsName [] := ⟨_, _, [], ok_is_name F_is_name T, g_is_name, k_is_name, b_is_name, .nil⟩
  have c_is_number : Cal l.prog w K mg base CX0 1 "is_number" ["thing", "low", "high"] spIsNumber [] := ⟨_, _, [], ok_is_number F_is_number T, g_is_number, k_is_number, b_is_number, .nil⟩
  have c_ask_name : Cal l.prog w K mg base (L2.CX l.prog w) 2 "ask_name" ["text"] (spAskName mg) [] := ⟨_, _, [], ok_ask_name F_ask_name T X_NoName c_is_name, g_ask_name, k_ask_name, b_ask_name, .nil⟩
  have c_ask_worth : Cal l.prog w K mg base (L2.CX l.prog w) 2 "ask_worth" ["worth"] (spAskWorth mg) [] := ⟨_, _, [], ok_ask_worth F_ask_worth T Tc X_NoWorth c_is_number, g_ask_worth, k_ask_worth, b_ask_worth, .nil⟩
  have c_Level : Mkal l.prog w K mg base (L2.CX l.prog w) 3 (exA mg "Level") "Level" ["self", "level"] (spInitLv mg) [] := ⟨_, _, [], ok_LvI F_LvI kls c_ask_worth, K_Level, gx_Level, b_LvI, .nil⟩
  have c_Called : Mkal l.prog w K mg base (L2.CX l.prog w) 3 (exA mg "Called") "Called" ["self", "when", "town"] (spInitCl mg) [] := ⟨_, _, [], ok_ClI F_ClI T kls X_NoDay c_ask_name c_is_number, K_Called, gx_Called, b_ClI, .nil⟩
  have dR : ∀ n, Disp l.prog w K mg base (n + 1) "rules" n RRules := fun n => Disp.two kls M_Trules M_Mrules ((ok_Trules F_Trules n).mono (by omega)) (ok_Mrules F_Mrules T kls M_Trules M_Mrules (fun n => ok_Trules F_Trules n) b_Trules b_Mrules n) b_Trules b_Mrules
  have dD : ∀ n, Disp l.prog w K mg base (n + 1) "deep" n RDeep := fun n => Disp.two kls M_Tdeep M_Mdeep ((ok_Tdeep F_Tdeep n).mono (by omega)) (ok_Mdeep F_Mdeep T kls M_Tdeep M_Mdeep (fun n => ok_Tdeep F_Tdeep n) b_Tdeep b_Mdeep n) b_Tdeep b_Mdeep
  have mxI := ok_MxI (P := l.prog) (w := w) (base := base) F_MxI T Tc kls X_NoTerm 8 10 (dR 9) (dD 9)
  have c_Least : Mkal l.prog w K mg base (L2.CX l.prog w) 11 (exA mg "Least") "Least" ["self", "terms"] (spInitMx mg 8) [] := ⟨_, _, [], mxI, K_Least, gx_Least, b_MxI, .nil⟩
  have c_Greatest : Mkal l.prog w K mg base (L2.CX l.prog w) 11 (exA mg "Greatest") "Greatest" ["self", "terms"] (spInitMx mg 8) [] := ⟨_, _, [], mxI, K_Greatest, gx_Greatest, b_MxI, .nil⟩
  have dT := ok_text (P := l.prog) (w := w) (base := base) kls T M_Ltext M_Ctext M_Letext M_Grtext M_textby F_Ltext F_Ctext F_Letext F_Grtext F_textby b_Ltext b_Ctext b_Letext b_Grtext b_textby 8
  have dS : Disp l.prog w K mg base 18 "__str__" 8 RText := Disp.all kls M_Tstr (ok_Tstr F_Tstr 8 17 dT) b_Tstr
  have c_term_of : Cal l.prog w K mg base CX0 21 "term_of" ["told"] (spTermOf mg 8) [] := ⟨_, _, [], ok_term_of F_term_of g_term_of b_term_of T c_Level c_Called c_Least c_Greatest 8 (by decide), g_term_of, k_term_of, b_term_of, .nil⟩
  have c_build : Cal l.prog w K mg base CX0 21 "_law_build" ["_law_told_here"] (spTermOf mg 8) [] := ⟨_, _, [], ok_build F_build g_build b_build T c_Level c_Called c_Least c_Greatest 8 (by decide), g_build, k_build, b_build, .nil⟩
  have c_alike : Cal l.prog w K mg base CX0 1 "_law_alike" ["_law_found", "_law_due"] spAlikeF [] := ⟨_, _, [], ok_alike F_alike g_alike b_alike T, g_alike, k_alike, b_alike, .nil⟩
  have c_same : Cal l.prog w K mg base CX0 10 "_law_same" ["_law_term", "_law_told_here"] (spSame mg 8) [] := ⟨_, _, [], ok_same F_same g_same b_same T kls kis c_alike 8, g_same, k_same, b_same, .nil⟩
  have c_text : Cal l.prog w K mg base CX0 9 "_law_text" ["_law_told_here"] (spLText 8) [] := ⟨_, _, [], ok_ltext F_ltext g_ltext b_ltext T 8, g_ltext, k_ltext, b_ltext, .nil⟩
  have c_figures_end : Cal l.prog w K mg base (L2.CX l.prog w) 1 "figures_end" ["text", "at"] (spEnd mg pFig) [] := ⟨_, _, [], ok_figures_end F_figures_end T X_NoText, g_figures_end, k_figures_end, b_figures_end, .nil⟩
  have c_word_end : Cal l.prog w K mg base (L2.CX l.prog w) 1 "word_end" ["text", "at"] (spEnd mg pWord) [] := ⟨_, _, [], ok_word_end F_word_end T X_NoText, g_word_end, k_word_end, b_word_end, .nil⟩
  have c_read_called : Cal l.prog w K mg base (L2.CX l.prog w) 2 "read_called" ["text", "at"] (spRd mg pCl []) [] := ⟨_, _, [], ok_read_called F_read_called T X_NoText c_figures_end c_word_end, g_read_called, k_read_called, b_read_called, .nil⟩
  have rd := ok_read (P := l.prog) (w := w) (base := base) F_read_rules F_read_rule g_read_rules g_read_rule b_read_rules b_read_rule T Tc X_NoText c_figures_end c_read_called 20
  have c_read_rule : Cal l.prog w K mg base (L2.CX l.prog w) 43 "read_rule" ["text", "at", "many"] (spRd mg (pRule 20) [.int 0]) [] := ⟨_, _, [], rd, g_read_rule, k_read_rule, b_read_rule, .nil⟩
  have c_read_term : Cal l.prog w K mg base CX0 44 "read_term" ["text"] (spReadTerm mg 8) [] := ⟨_, _, [], ok_read_term F_read_term T c_read_rule c_term_of, g_read_term, k_read_term, b_read_term, .nil⟩
  exact ok_law F_law T c_next c_words c_day c_calls c_told c_tall c_sized c_text c_build c_alike c_same c_read_term dT dS
theorem walk {l : PySem.W.OpenLaw} {q : Program} {loose : List Str} {XP : (Str → Option Value) → Heap → Prop} {YP : World → Heap → Prop} {d : DefRec} {K : Params → PySem.W.Frag} (hn : l.most = some 63) (hdf : d.params.defaults = [])
    (hY : ∀ (w : World) (h : Heap), YP w h → (K w.params).In h)
    (F : ∀ (w : World) (mg : Str → Option Value) (fa : Addr) (h : Heap), (K w.params).In h → h.Ns mainGlobals mg → mg d.name = some (.ref fa) →
      ∃ fd : FuncData, (∀ (s : Shared) (u : Value), BindsTo s fd ⟨[u], []⟩ [("_law_script", u)]) ∧ ∀ base : Heap, (K w.params).In base → base.Ns mainGlobals mg → FnOk l.prog w (K w.params) mg base CX0 45 fa fd ["_law_script"] (spLaw (K w.params))) :
    PySem.W.WalkO q loose XP YP l.row.toRowW d [] (fun f vs => PySem.call f vs) :=
  L2.walk_of (n := 63) (k := 45) (x := "_law_script") (CX := fun _ => CX0) (sp := fun w => spLaw (K w.params)) hn (by decide) hdf ⟨rfl, by decide, by decide⟩ hY F (fun _ _ a ns hl _ hS => ⟨a, ns, rfl, hS, hl, fun _ => rfl⟩) fun _ _ _ _ _ z => z
end LW
open PySem PySem.W PyProof.Rows
set_option maxRecDepth 100000 in
set_option maxHeartbeats 0 in
theorem PySem.Challenge.cw_callcoin_k24_rules_written_holds : PySem.Challenge.rw_callcoin_k24_rules_written.Holds := by
  w_on; o_law; k_head; (case hw => w_witness2)
  k_fill
  refine LW.walk (l := PySem.Challenge.rw_callcoin_k24_rules_written) rfl rfl (fun w h Y => PySem.W.kIn_of Y) ?F
  case F =>
    intro w mg fa h KX G hmg
    refine' LW.all_mk KX G hmg ?a_Term ?a_Level ?a_Called ?a_Least ?a_Greatest ?a_NoName ?a_NoWorth ?a_NoDay ?a_NoTerm ?a_NoText ?a_is_name ?l_is_name ?c_is_name ?k_is_name ?a_is_number ?l_is_number ?c_is_number ?k_is_number ?a_ask_name ?l_ask_name ?c_ask_name ?k_ask_name ?a_ask_worth ?l_ask_worth ?c_ask_worth ?k_ask_worth ?a_term_of ?l_term_of ?c_term_of ?k_term_of ?a_figures_end ?l_figures_end ?c_figures_end ?k_figures_end ?a_word_end ?l_word_end ?c_word_end ?k_word_end ?a_read_called ?l_read_called ?c_read_called ?k_read_called ?a_read_rules ?l_read_rules ?c_read_rules ?k_read_rules ?a_read_rule ?l_read_rule ?c_read_rule ?k_read_rule ?a_read_term ?l_read_term ?c_read_term ?k_read_term ?a_mixed ?l_mixed ?c_mixed ?k_mixed ?a_next ?l_next ?c_next ?k_next ?a_word ?l_word ?c_word ?k_word ?a_words ?l_words ?c_words ?k_words ?a_level ?l_level ?c_level ?k_level ?a_day ?l_day ?c_day ?k_day ?a_calls ?l_calls ?c_calls ?k_calls ?a_told ?l_told ?c_told ?k_told ?a_tall ?l_tall ?c_tall ?k_tall ?a_sized ?l_sized ?c_sized ?k_sized ?a_alike ?l_alike ?c_alike ?k_alike ?a_build ?l_build ?c_build ?k_build ?a_same ?l_same ?c_same ?k_same ?a_ltext ?l_ltext ?c_ltext ?k_ltext ?a_law ?l_law ?c_law ?k_law ?m_Trules_Level ?m_Trules_Called ?i_Trules ?l_Trules ?c_Trules ?k_Trules ?m_Tdeep_Level ?m_Tdeep_Called ?i_Tdeep ?l_Tdeep ?c_Tdeep ?k_Tdeep ?m_Tstr_Level ?m_Tstr_Called ?m_Tstr_Least ?m_Tstr_Greatest ?i_Tstr ?l_Tstr ?c_Tstr ?k_Tstr ?m_LvI_Level ?i_LvI ?l_LvI ?c_LvI ?k_LvI ?m_Ltext_Level ?i_Ltext ?l_Ltext ?c_Ltext ?k_Ltext ?m_ClI_Called ?i_ClI ?l_ClI ?c_ClI ?k_ClI ?t_ClI ?m_Ctext_Called ?i_Ctext ?l_Ctext ?c_Ctext ?k_Ctext ?m_MxI_Least ?m_MxI_Greatest ?i_MxI ?l_MxI ?c_MxI ?k_MxI ?m_Mrules_Least ?m_Mrules_Greatest ?i_Mrules ?l_Mrules ?c_Mrules ?k_Mrules ?m_Mdeep_Least ?m_Mdeep_Greatest ?i_Mdeep ?l_Mdeep ?c_Mdeep ?k_Mdeep ?m_textby_Least ?m_textby_Greatest ?i_textby ?l_textby ?c_textby ?k_textby ?m_Letext_Least ?i_Letext ?l_Letext ?c_Letext ?k_Letext ?m_Grtext_Greatest ?i_Grtext ?l_Grtext ?c_Grtext ?k_Grtext ?pg_Level ?hd_Level ?po_Level ?sa_Level ?kc_Level ?mk_Level ?n_Level_level ?n_Level_when ?n_Level_town ?n_Level_terms ?pg_Called ?hd_Called ?po_Called ?sa_Called ?kc_Called ?mk_Called ?n_Called_level ?n_Called_when ?n_Called_town ?n_Called_terms ?pg_Least ?hd_Least ?po_Least ?sa_Least ?kc_Least ?mk_Least ?n_Least_level ?n_Least_when ?n_Least_town ?n_Least_terms ?pg_Greatest ?hd_Greatest ?po_Greatest ?sa_Greatest ?kc_Greatest ?mk_Greatest ?n_Greatest_level ?n_Greatest_when ?n_Greatest_town ?n_Greatest_terms ?ca_Level ?mo_Level ?is_Level_Called ?ib_Level_Called ?is_Level_Least ?ib_Level_Least ?is_Level_Greatest ?ib_Level_Greatest ?is_Level_Term ?ib_Level_Term ?ca_Called ?mo_Called ?is_Called_Level ?ib_Called_Level ?is_Called_Least ?ib_Called_Least ?is_Called_Greatest ?ib_Called_Greatest ?is_Called_Term ?ib_Called_Term ?ca_Least ?mo_Least ?is_Least_Level ?ib_Least_Level ?is_Least_Called ?ib_Least_Called ?is_Least_Greatest ?ib_Least_Greatest ?is_Least_Term ?ib_Least_Term ?ca_Greatest ?mo_Greatest ?is_Greatest_Level ?ib_Greatest_Level ?is_Greatest_Called ?ib_Greatest_Called ?is_Greatest_Least ?ib_Greatest_Least ?is_Greatest_Term ?ib_Greatest_Term ?ic_Level ?it_Level ?ic_Called ?it_Called ?ic_Least ?it_Least ?ic_Greatest ?it_Greatest ?ic_Term ?it_Term ?cn ?ctk ?ek_NoName ?ee_NoName ?eb_NoName ?et_NoName ?ek_NoWorth ?ee_NoWorth ?eb_NoWorth ?et_NoWorth ?ek_NoDay ?ee_NoDay ?eb_NoDay ?et_NoDay ?ek_NoTerm ?ee_NoTerm ?eb_NoTerm ?et_NoTerm ?ek_NoText ?ee_NoText ?eb_NoText ?et_NoText ?v_TOP ?v_MOST_RULES ?v_MOST_DEEP ?v_MOST_OPEN ?z_len ?z_max ?z_min ?z_sum ?z_range ?z_isinstance ?z_int ?z_bool ?z_str ?z_all ?z_list ?z_tuple ?z_dict ?z_zip ?z_sorted
    (case a_Term => k_is); (case a_Level => k_is); (case a_Called => k_is); (case a_Least => k_is); (case a_Greatest => k_is); (case a_NoName => k_is)
    (case a_NoWorth => k_is); (case a_NoDay => k_is); (case a_NoTerm => k_is); (case a_NoText => k_is); (case a_is_name => k_is); (case l_is_name => k_is)
    (case c_is_name => k_is); (case k_is_name => k_is); (case a_is_number => k_is); (case l_is_number => k_is); (case c_is_number => k_is); (case k_is_number => k_is)
    (case a_ask_name => k_is); (case l_ask_name => k_is); (case c_ask_name => k_is); (case k_ask_name => k_is); (case a_ask_worth => k_is); (case l_ask_worth => k_is)
    (case c_ask_worth => k_is); (case k_ask_worth => k_is); (case a_term_of => k_is); (case l_term_of => k_is); (case c_term_of => k_is); (case k_term_of => k_is)
    (case a_figures_end => k_is); (case l_figures_end => k_is); (case c_figures_end => k_is); (case k_figures_end => k_is); (case a_word_end => k_is)
    (case l_word_end => k_is); (case c_word_end => k_is); (case k_word_end => k_is); (case a_read_called => k_is); (case l_read_called => k_is); (case c_read_called => k_is)
    (case k_read_called => k_is); (case a_read_rules => k_is); (case l_read_rules => k_is); (case c_read_rules => k_is); (case k_read_rules => k_is); (case a_read_rule => k_is)
    (case l_read_rule => k_is); (case c_read_rule => k_is); (case k_read_rule => k_is); (case a_read_term => k_is); (case l_read_term => k_is); (case c_read_term => k_is)
    (case k_read_term => k_is); (case a_mixed => k_is); (case l_mixed => k_is); (case c_mixed => k_is); (case k_mixed => k_is); (case a_next => k_is)
    (case l_next => k_is); (case c_next => k_is); (case k_next => k_is); (case a_word => k_is); (case l_word => k_is); (case c_word => k_is); (case k_word => k_is)
    (case a_words => k_is); (case l_words => k_is); (case c_words => k_is); (case k_words => k_is); (case a_level => k_is); (case l_level => k_is); (case c_level => k_is)
    (case k_level => k_is); (case a_day => k_is); (case l_day => k_is); (case c_day => k_is); (case k_day => k_is); (case a_calls => k_is); (case l_calls => k_is)
    (case c_calls => k_is); (case k_calls => k_is); (case a_told => k_is); (case l_told => k_is); (case c_told => k_is); (case k_told => k_is); (case a_tall => k_is)
    (case l_tall => k_is); (case c_tall => k_is); (case k_tall => k_is); (case a_sized => k_is); (case l_sized => k_is); (case c_sized => k_is); (case k_sized => k_is)
    (case a_alike => k_is); (case l_alike => k_is); (case c_alike => k_is); (case k_alike => k_is); (case a_build => k_is); (case l_build => k_is); (case c_build => k_is)
    (case k_build => k_is); (case a_same => k_is); (case l_same => k_is); (case c_same => k_is); (case k_same => k_is); (case a_ltext => k_is); (case l_ltext => k_is)
    (case c_ltext => k_is); (case k_ltext => k_is); (case a_law => k_is); (case l_law => k_is); (case c_law => k_is); (case k_law => k_is); (case m_Trules_Level => k_is)
    (case m_Trules_Called => k_is); (case i_Trules => k_is); (case l_Trules => k_is); (case c_Trules => k_is); (case k_Trules => k_is); (case m_Tdeep_Level => k_is)
    (case m_Tdeep_Called => k_is); (case i_Tdeep => k_is); (case l_Tdeep => k_is); (case c_Tdeep => k_is); (case k_Tdeep => k_is); (case m_Tstr_Level => k_is)
    (case m_Tstr_Called => k_is); (case m_Tstr_Least => k_is); (case m_Tstr_Greatest => k_is); (case i_Tstr => k_is); (case l_Tstr => k_is); (case c_Tstr => k_is)
    (case k_Tstr => k_is); (case m_LvI_Level => k_is); (case i_LvI => k_is); (case l_LvI => k_is); (case c_LvI => k_is); (case k_LvI => k_is); (case m_Ltext_Level => k_is)
    (case i_Ltext => k_is); (case l_Ltext => k_is); (case c_Ltext => k_is); (case k_Ltext => k_is); (case m_ClI_Called => k_is); (case i_ClI => k_is)
    (case l_ClI => k_is); (case c_ClI => k_is); (case k_ClI => k_is); (case t_ClI => k_is); (case m_Ctext_Called => k_is); (case i_Ctext => k_is); (case l_Ctext => k_is)
    (case c_Ctext => k_is); (case k_Ctext => k_is); (case m_MxI_Least => k_is); (case m_MxI_Greatest => k_is); (case i_MxI => k_is); (case l_MxI => k_is)
    (case c_MxI => k_is); (case k_MxI => k_is); (case m_Mrules_Least => k_is); (case m_Mrules_Greatest => k_is); (case i_Mrules => k_is); (case l_Mrules => k_is)
    (case c_Mrules => k_is); (case k_Mrules => k_is); (case m_Mdeep_Least => k_is); (case m_Mdeep_Greatest => k_is); (case i_Mdeep => k_is); (case l_Mdeep => k_is)
    (case c_Mdeep => k_is); (case k_Mdeep => k_is); (case m_textby_Least => k_is); (case m_textby_Greatest => k_is); (case i_textby => k_is); (case l_textby => k_is)
    (case c_textby => k_is); (case k_textby => k_is); (case m_Letext_Least => k_is); (case i_Letext => k_is); (case l_Letext => k_is); (case c_Letext => k_is)
    (case k_Letext => k_is); (case m_Grtext_Greatest => k_is); (case i_Grtext => k_is); (case l_Grtext => k_is); (case c_Grtext => k_is); (case k_Grtext => k_is)
    (case pg_Level => k_is); (case hd_Level => k_is); (case po_Level => k_is); (case sa_Level => k_is); (case kc_Level => k_is); (case mk_Level => k_is)
    (case n_Level_level => k_is); (case n_Level_when => k_is); (case n_Level_town => k_is); (case n_Level_terms => k_is); (case pg_Called => k_is); (case hd_Called => k_is)
    (case po_Called => k_is); (case sa_Called => k_is); (case kc_Called => k_is); (case mk_Called => k_is); (case n_Called_level => k_is); (case n_Called_when => k_is)
    (case n_Called_town => k_is); (case n_Called_terms => k_is); (case pg_Least => k_is); (case hd_Least => k_is); (case po_Least => k_is); (case sa_Least => k_is)
    (case kc_Least => k_is); (case mk_Least => k_is); (case n_Least_level => k_is); (case n_Least_when => k_is); (case n_Least_town => k_is); (case n_Least_terms => k_is)
    (case pg_Greatest => k_is); (case hd_Greatest => k_is); (case po_Greatest => k_is); (case sa_Greatest => k_is); (case kc_Greatest => k_is); (case mk_Greatest => k_is)
    (case n_Greatest_level => k_is); (case n_Greatest_when => k_is); (case n_Greatest_town => k_is); (case n_Greatest_terms => k_is); (case ca_Level => k_is)
    (case mo_Level => k_is); (case is_Level_Called => k_is); (case ib_Level_Called => rfl); (case is_Level_Least => k_is); (case ib_Level_Least => rfl)
    (case is_Level_Greatest => k_is); (case ib_Level_Greatest => rfl); (case is_Level_Term => k_is); (case ib_Level_Term => rfl); (case ca_Called => k_is)
    (case mo_Called => k_is); (case is_Called_Level => k_is); (case ib_Called_Level => rfl); (case is_Called_Least => k_is); (case ib_Called_Least => rfl)
    (case is_Called_Greatest => k_is); (case ib_Called_Greatest => rfl); (case is_Called_Term => k_is); (case ib_Called_Term => rfl); (case ca_Least => k_is)
    (case mo_Least => k_is); (case is_Least_Level => k_is); (case ib_Least_Level => rfl); (case is_Least_Called => k_is); (case ib_Least_Called => rfl)
    (case is_Least_Greatest => k_is); (case ib_Least_Greatest => rfl); (case is_Least_Term => k_is); (case ib_Least_Term => rfl); (case ca_Greatest => k_is)
    (case mo_Greatest => k_is); (case is_Greatest_Level => k_is); (case ib_Greatest_Level => rfl); (case is_Greatest_Called => k_is); (case ib_Greatest_Called => rfl)
    (case is_Greatest_Least => k_is); (case ib_Greatest_Least => rfl); (case is_Greatest_Term => k_is); (case ib_Greatest_Term => rfl); (case ic_Level => k_is)
    (case it_Level => k_is); (case ic_Called => k_is); (case it_Called => k_is); (case ic_Least => k_is); (case it_Least => k_is); (case ic_Greatest => k_is)
    (case it_Greatest => k_is); (case ic_Term => k_is); (case it_Term => k_is); (case cn => k_is); (case ctk => k_is); (case ek_NoName => k_is); (case ee_NoName => k_exc)
    (case eb_NoName => k_is); (case et_NoName => k_is); (case ek_NoWorth => k_is); (case ee_NoWorth => k_exc); (case eb_NoWorth => k_is); (case et_NoWorth => k_is)
    (case ek_NoDay => k_is); (case ee_NoDay => k_exc); (case eb_NoDay => k_is); (case et_NoDay => k_is); (case ek_NoTerm => k_is); (case ee_NoTerm => k_exc)
    (case eb_NoTerm => k_is); (case et_NoTerm => k_is); (case ek_NoText => k_is); (case ee_NoText => k_exc); (case eb_NoText => k_is); (case et_NoText => k_is)
    (case v_TOP => k_is); (case v_MOST_RULES => k_is); (case v_MOST_DEEP => k_is); (case v_MOST_OPEN => k_is); (case z_len => k_is); (case z_max => k_is)
    (case z_min => k_is); (case z_sum => k_is); (case z_range => k_is); (case z_isinstance => k_is); (case z_int => k_is); (case z_bool => k_is); (case z_str => k_is)
    (case z_all => k_is); (case z_list => k_is); (case z_tuple => k_is); (case z_dict => k_is); (case z_zip => k_is); (case z_sorted => k_is)
