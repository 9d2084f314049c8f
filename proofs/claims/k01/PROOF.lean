import PyProof.Rows.All
import Wide.All
import OpenK.AllK
import Wide.FinOn
import HandS.ForMost
import HandS.More
import HandS.TupAny
import HandS.Wide
import HandS.IsInst
import HandS.Style
import KE.KxIndex
import HandS.SortRule
import HandS.Conv
import HandS.Finally
import HandS.Deep
import HandS.DictComp
import KE.KDictCopyH
import HandS.TupLen
import KE.DataMinMax
import KE.SortData
import HandS.Text
import HandS.Steps
import HandS.ForExc
import HandS.TryMany
import KE.DataCmp
import PyProof.DictTable
import HandS.Rev
import HandS.RevTup
import HandS.MapJoin
import HandS.MapObj
import HandS.ExcOwn
import HandS.Replace
import HandS.Flow
import HandS.TupLe
import HandS.Iter
import HandS.MakeKwOnly
import HandS.Codes
import KE.IntTextText
import KE.KIntText
import HandS.ExcIs
import KE.KDictList
import PyProof.Draws
import HandS.SetKeys
import HandS.StrMore
import HandS.List
import KE.KExcSuper
import HandS.ExcField
import KE.KExcIs
import KE.KStateDown
import HandS.Head0
import HandS.Head1
import HandS.Head2
import HandS.HeadEnd
import HandS.HeadHook1
import HandS.HeadHook2
import PySem.Challenge.RW_storelife_k01_files_of_three_forms
set_option Elab.async false
set_option linter.all false
set_option maxRecDepth 100000
namespace Zk
open PySem PySem.Spec L2
open PyProof.Rows hiding St

/-! ### heaps that grow -/
def Imm : HO → Prop
  | .tup _ => True
  | .frz _ _ => True
  | _ => False
/-- everything but the objects at M stands as it stood -/
structure Ext (M : List Addr) (H H' : Hp) : Prop where
  keep : ∀ a o, H a = some o → a ∉ M → H' a = some o
  imm : ∀ a o, H a = some o → Imm o → H' a = some o
  live : ∀ a o, H a = some o → ∃ o', H' a = some o'
theorem Ext.refl {M : List Addr} {H : Hp} : Ext M H H := ⟨fun _ _ h _ => h, fun _ _ h _ => h, fun _ o h => ⟨o, h⟩⟩
theorem Ext.trans {M : List Addr} {H H1 H2 : Hp} (a : Ext M H H1) (b : Ext M H1 H2) : Ext M H H2 :=
  ⟨fun x o h n => b.keep x o (a.keep x o h n) n, fun x o h i => b.imm x o (a.imm x o h i) i, fun x o h => (a.live x o h).elim fun o' h' => b.live x o' h'⟩
theorem Ext.mono {M N : List Addr} {H H' : Hp} (a : Ext M H H') (s : ∀ x ∈ M, x ∈ N) : Ext N H H' :=
  ⟨fun x o h n => a.keep x o h fun z => n (s x z), a.imm, a.live⟩
theorem Ext.up {M : List Addr} {H H' : Hp} (a : Ext [] H H') : Ext M H H' := a.mono fun _ z => nomatch z
theorem Ext.free {M : List Addr} {H H' : Hp} (e : Ext M H H') {l : Addr} (h : H' l = none) : H l = none := by
  cases q : H l with
  | none => rfl
  | some o =>
    obtain ⟨o', q'⟩ := e.live l o q
    rw [h] at q'
    cases q'
/-- what changes at an address that was free at the start is no change -/
theorem Ext.drop {M : List Addr} {H H1 H2 : Hp} {p : Addr} (a : Ext M H H1) (b : Ext (p :: M) H1 H2) (np : H p = none) : Ext M H H2 :=
  ⟨fun x o h n => b.keep x o (a.keep x o h n) fun z => by
      rcases List.mem_cons.mp z with z | z
      · subst z; rw [np] at h; cases h
      · exact n z, fun x o h i => b.imm x o (a.imm x o h i) i, fun x o h => (a.live x o h).elim fun o' h' => b.live x o' h'⟩
theorem Ext.new {H : Hp} {p : Addr} {o : HO} (h : H p = none) : Ext [] H (upd H p o) :=
  ⟨fun a u e _ => by rw [upd_ne (ne_of_none e h)]; exact e, fun a u e _ => by rw [upd_ne (ne_of_none e h)]; exact e, fun a u e => ⟨u, by rw [upd_ne (ne_of_none e h)]; exact e⟩⟩
theorem Ext.mut {M : List Addr} {H : Hp} {p : Addr} {o u : HO} (h : H p = some u) (hm : ¬ Imm u) (hp : p ∈ M) : Ext M H (upd H p o) := by
  refine ⟨fun a x e n => ?_, fun a x e i => ?_, fun a x e => ?_⟩
  · have : a ≠ p := fun z => n (z ▸ hp)
    rw [upd_ne this]; exact e
  · have : a ≠ p := fun z => by subst z; rw [h] at e; cases e; exact hm i
    rw [upd_ne this]; exact e
  · by_cases z : a = p
    · subst z; exact ⟨o, upd_same⟩
    · exact ⟨x, by rw [upd_ne z]; exact e⟩
theorem Ext.tup {M : List Addr} {H H' : Hp} (e : Ext M H H') {a : Addr} {xs : List V} (h : H a = some (.tup xs)) : H' a = some (.tup xs) := e.imm a _ h trivial
theorem Ext.at {M : List Addr} {H H' : Hp} (e : Ext M H H') {a : Addr} {o : HO} (h : H a = some o) (n : a ∉ M) : H' a = some o := e.keep a o h n
/-- the dict at d is locked while it is walked -/
theorem Ext.lock {M : List Addr} {H H' : Hp} {d : Addr} {u : HO} {od : Obj} (h : H d = some u) (hm : ¬ Imm u) (e : Ext M (upd H d (.frz od u)) H') : Ext M H (upd H' d u) := by
  refine ⟨fun a x q n => ?_, fun a x q i => ?_, fun a x q => ?_⟩
  · by_cases z : a = d
    · subst z; rw [upd_same]; rw [h] at q; exact q
    · rw [upd_ne z]; exact e.keep a x (by rw [upd_ne z]; exact q) n
  · by_cases z : a = d
    · subst z; rw [upd_same]; rw [h] at q; exact q
    · rw [upd_ne z]; exact e.imm a x (by rw [upd_ne z]; exact q) i
  · by_cases z : a = d
    · subst z; exact ⟨u, upd_same⟩
    · obtain ⟨o', q'⟩ := e.live a x (by rw [upd_ne z]; exact q)
      exact ⟨o', by rw [upd_ne z]; exact q'⟩

/-! ### an object is laid, an object is changed, with the heap behind it a letter -/
def Alc (o : HO) (H : Hp) (Q : VK) : Prop := ∀ p, H p = none → Q (.ref p) (upd H p o)
theorem w_alc {o : HO} {H : Hp} {Q : VK} (h : ∀ p H', Ext [] H H' → H p = none → H' p = some o → Q (.ref p) H') : Alc o H Q := fun p np => h p _ (Ext.new np) np upd_same
def Chg (p : Addr) (o : HO) (H : Hp) (Q : Hp → Prop) : Prop := Q (upd H p o)
theorem w_chg {p : Addr} {o u : HO} {H : Hp} {Q : Hp → Prop} (hp : H p = some u) (hm : ¬ Imm u) (h : ∀ H', Ext [p] H H' → H' p = some o → Q H') : Chg p o H Q :=
  h _ (Ext.mut hp hm (List.mem_singleton.mpr rfl)) upd_same

/-! ### lists and tuples to be read -/
theorem sql {K : PySem.W.Frag} {H : Hp} {a : Addr} {xs : List V} (h : H a = some (.lst xs)) : SqL K H a xs := .inl (.inl h)
theorem sqt {K : PySem.W.Frag} {H : Hp} {a : Addr} {xs : List V} (h : H a = some (.tup xs)) : SqT K H a xs := .inl (.inl h)
/-- the script: locked, or of the written part -/
def Scr (K : PySem.W.Frag) (H : Hp) (a : Addr) (xs : List V) : Prop := (∃ o, H a = some (.frz o (.lst xs))) ∨ (∀ H', SqL K H' a xs)
theorem Scr.ext {K : PySem.W.Frag} {M : List Addr} {H H' : Hp} {a : Addr} {xs : List V} (e : Ext M H H') (h : Scr K H a xs) : Scr K H' a xs := by
  rcases h with ⟨o, h⟩ | h
  · exact .inl ⟨o, e.imm _ _ h trivial⟩
  · exact .inr h
theorem Scr.sql {K : PySem.W.Frag} {H : Hp} {a : Addr} {xs : List V} (h : Scr K H a xs) : SqL K H a xs := by
  rcases h with ⟨o, h⟩ | h
  · exact .inl (.inr ⟨o, h⟩)
  · exact h H
theorem Scr.of {K : PySem.W.Frag} {H : Hp} {a : Addr} {xs : List V} (hO : Only H) (h : SqL K H a xs) : Scr K H a xs := by
  rcases h with (h | ⟨o, h⟩) | h
  · rcases hO a with z | ⟨o, ys, z⟩
    · rw [h] at z; cases z
    · rw [h] at z; cases z
  · exact .inl ⟨o, h⟩
  · exact .inr fun H' => .inr h
theorem sz {n : Nat} (h : n ≤ 1000000) : n ≤ sizeLine := Nat.le_trans h (by decide)
theorem szl {n : Nat} (h : n < 1000000) : n < sizeLine := Nat.lt_of_lt_of_le h (by decide)

/-! ### readings, by name -/
def zTup (t : TA) : TE := fun σ H Q => t σ H fun xs H1 => xs.length ≤ sizeLine ∧ Alc (.tup xs) H1 Q
def zLst (t : TA) : TE := fun σ H Q => t σ H fun xs H1 => xs.length ≤ sizeLine ∧ Alc (.lst xs) H1 Q
def zDNewK : TE := fun _ H Q => Alc (.dK []) H Q
def zDNewT : TE := fun _ H Q => Alc (.dT []) H Q
def rLtS : R2 := fun x y H Q => ∃ i j, x = .str i ∧ y = .str j ∧ Q (.bl (decide (i.cps.toList < j.cps.toList))) H
def rAddSt : R2 := fun x y H Q => ∃ i j, x = .str i ∧ y = .str j ∧ i.length + j.length ≤ sizeLine ∧ Q (.str (i ++ j)) H
def rMulSt : R2 := fun x y H Q => ∃ i j, x = .str i ∧ y = .int j ∧ i.length ≤ 16 ∧ (-(2 ^ 63 : Int) ≤ j ∧ j ≤ 1048576) ∧ Q (.str (Txt.mul i j)) H
def rIsNn : R2 := fun x y H Q => y = .non ∧ Q (.bl (decide (x = .non))) H
def rIsNt : R2 := fun x y H Q => y = .non ∧ Q (.bl (!decide (x = .non))) H
def rIsBv : R2 := fun x y H Q => ∃ b, y = .bl b ∧ Q (.bl (decide (x = .bl b))) H
def rIsNtBv : R2 := fun x y H Q => ∃ b, y = .bl b ∧ Q (.bl (!decide (x = .bl b))) H
def zCat : R2 := fun x y H Q => ∃ l b xs zs, x = .ref l ∧ y = .ref b ∧ H l = some (.lst xs) ∧ H b = some (.lst zs) ∧ xs.length + zs.length ≤ sizeLine ∧ Alc (.lst (xs ++ zs)) H Q
def zCatA (K : PySem.W.Frag) : R2 := fun x y H Q => ∃ a b xs ys, x = .ref a ∧ y = .ref b ∧ SqT K H a xs ∧ SqT K H b ys ∧ xs.length + ys.length ≤ sizeLine ∧
  (xs = [] → Q (.ref b) H) ∧ (xs ≠ [] → ys = [] → Q (.ref a) H) ∧ (xs ≠ [] → ys ≠ [] → Alc (.tup (xs ++ ys)) H Q)
def zSetL : V → V → V → Hp → (Hp → Prop) → Prop := fun o i v H Q => ∃ p xs k j, o = .ref p ∧ i = .int k ∧ H p = some (.lst xs) ∧ ixN xs.length k = some j ∧ Chg p (.lst (xs.set j v)) H Q
def zAppend : V → List V → Hp → VK → Prop := fun x vs H Q => ∃ l xs y, x = .ref l ∧ vs = [y] ∧ H l = some (.lst xs) ∧ xs.length < sizeLine ∧ Chg l (.lst (xs ++ [y])) H (Q .non)
def rJoin (K : PySem.W.Frag) : V → List V → Hp → VK → Prop := fun x xs H Q => ∃ a p, ∃ ys : List Str, x = .str a ∧ xs = [.ref p] ∧ (SqL K H p (ys.map V.str) ∨ SqT K H p (ys.map V.str)) ∧
    (ys.map (·.length)).sum + ys.length * a.length ≤ 16777216 ∧ Q (.str (Txt.join a ys)) H
/-! calls of built-ins -/
abbrev RC := List V → Hp → VK → Prop
def cInt : RC := fun xs H Q => (∃ i, xs = [.int i] ∧ Q (.int i) H) ∨ ∃ k, xs = [.bl k] ∧ Q (.int (if k then 1 else 0)) H
def cTup (K : PySem.W.Frag) : RC := fun xs H Q => ∃ p ys, xs = [.ref p] ∧ ((SqL K H p ys ∧ Alc (.tup ys) H Q) ∨ (SqT K H p ys ∧ Q (.ref p) H))
def cLen (K : PySem.W.Frag) : RC := fun xs H Q => ∃ x n, xs = [x] ∧ LenV K x H n ∧ Q (.int n) H
def cLenD : RC := fun xs H Q => ∃ a kvs, xs = [V.ref a] ∧ H a = some (.dK kvs) ∧ Q (.int kvs.length) H
def cDictD : RC := fun xs H Q => ∃ (a : Addr) (kvs : List (Key × V)), xs = [.ref a] ∧ Rd H a (.dK kvs) ∧ Alc (.dK kvs) H Q
def cSortD : RC := fun xs H Q => ∃ (a : Addr) (kvs : List (Key × V)) (ks : List Str), xs = [.ref a] ∧ Rd H a (.dK kvs) ∧ kvs.map (·.1) = ks.map Sum.inr ∧ ks.length < 64 ∧
    ∀ ys, ys.Perm ks → sortedS ys = true → Alc (.lst (ys.map V.str)) H Q
section
variable {X : Cx} {es : List Expr} {t : TA} {pos : Pos}
theorem pe_tupZ {x1} (h : PA X es t) : PE X (.Tuple es x1 pos) (zTup t) := pe_tup h
theorem pe_lstZ (h : PA X es t) : PE X (.List es pos) (zLst t) := pe_lst h
theorem pe_dnewKZ : PE X (.Dict [] [] pos) zDNewK := pe_dnewK
theorem pe_dnewTZ : PE X (.Dict [] [] pos) zDNewT := pe_dnewT
theorem zpe_join {o e : Expr} {to te : TE} {apos : Pos} (ho : PE X o to) (he : PE X e te) (hs : starEach [e] X.env = [(false, eval e X.env)] := by rfl) (hbase : attributeBase o "join" X.env (eval o X.env) = eval o X.env := by rfl) (hline : (apos.endLine == pos.line) = true := by rfl) :
    PE X (.Call (.Attribute o "join" apos) [e] [] pos) (tM1 (rJoin X.K) to te) := pe_join ho he hs hbase hline
theorem zop_ltS : OpR X (compareOp .Lt) rLtS := op_lt_str
theorem zop_addS : OpR X (binaryOp .Add) rAddSt := op_add_str
theorem zop_isN : OpR X (compareOp .Is) rIsNn := op_isN
theorem zop_notN : OpR X (compareOp .IsNot) rIsNt := op_notN
theorem plain_bool {x : V} {v : Value} {b : Bool} (r : RelV x v) : plainIs v (.bool b) = true := by
  cases x with
  | non => cases (show v = _ from r); rfl
  | bl c => cases (show v = _ from r); rfl
  | int i => obtain ⟨t, e⟩ := (show ∃ t, v = _ from r); subst e; rfl
  | str i => obtain ⟨t, e⟩ := (show ∃ t, v = _ from r); subst e; rfl
  | byt i => obtain ⟨t, e⟩ := (show ∃ t, v = _ from r); subst e; rfl
  | flt i => obtain ⟨t, e⟩ := (show ∃ t, v = _ from r); subst e; rfl
  | ref a => cases (show v = _ from r); rfl
  | ty n => cases (show v = _ from r); rfl
theorem rel_bool {x : V} {v : Value} {b : Bool} (r : RelV x v) : (v = .bool b) ↔ x = .bl b := by
  constructor
  · intro z
    subst z
    cases x with
    | bl c => cases (show Value.bool b = Value.bool c from r); rfl
    | non => cases (show Value.bool b = _ from r)
    | int i => obtain ⟨t, e⟩ := (show ∃ t, Value.bool b = _ from r); cases e
    | str i => obtain ⟨t, e⟩ := (show ∃ t, Value.bool b = _ from r); cases e
    | byt i => obtain ⟨t, e⟩ := (show ∃ t, Value.bool b = _ from r); cases e
    | flt i => obtain ⟨t, e⟩ := (show ∃ t, Value.bool b = _ from r); cases e
    | ref a => cases (show Value.bool b = _ from r)
    | ty n => cases (show Value.bool b = _ from r)
  · intro z
    subst z
    exact r
theorem zop_isB : OpR X (compareOp .Is) rIsBv := by
  intro pins s σ H x y v u Q I rx ry h
  obtain ⟨b, rfl, q⟩ := h
  cases (show u = Value.bool b from ry)
  by_cases e : x = .bl b
  · have e2 := (rel_bool (b := b) rx).mpr e
    subst e2
    exact wpAny_is_self rfl ⟨.bl true, H, I, rfl, by rw [decide_eq_true e] at q; exact q⟩
  · exact wpAny_is_other (plain_bool rx) (fun z => e ((rel_bool rx).mp z)) ⟨.bl false, H, I, rfl, by rw [decide_eq_false e] at q; exact q⟩
theorem zop_isNotB : OpR X (compareOp .IsNot) rIsNtBv := by
  intro pins s σ H x y v u Q I rx ry h
  obtain ⟨b, rfl, q⟩ := h
  cases (show u = Value.bool b from ry)
  by_cases e : x = .bl b
  · have e2 := (rel_bool (b := b) rx).mpr e
    subst e2
    exact wpAny_isNot_self rfl ⟨.bl false, H, I, rfl, by rw [decide_eq_true e] at q; exact q⟩
  · exact wpAny_isNot_other (plain_bool rx) (fun z => e ((rel_bool rx).mp z)) ⟨.bl true, H, I, rfl, by rw [decide_eq_false e] at q; exact q⟩
theorem zop_mulS : OpR X (binaryOp .Mult) rMulSt := by
  intro pins s σ H x y v u Q I rx ry h
  obtain ⟨i, j, rfl, rfl, hi, hj, q⟩ := h
  obtain ⟨t, rfl⟩ := rx
  obtain ⟨t', rfl⟩ := ry
  exact PySem.W.KXi.mul rfl hi hj.1 hj.2 fun t' tk _ _ => ⟨.str (Txt.mul i j), H, I.tok _, ⟨_, rfl⟩, q⟩
theorem zop_cat : OpR X (binaryOp .Add) zCat := op_cat
theorem zop_catA : OpR X (binaryOp .Add) (zCatA X.K) := op_catA
theorem zset_list : PSet X zSetL := set_list
theorem zmt_append : MtR X "list.append" zAppend := mt_append
theorem zop_catAK {K : PySem.W.Frag} (h : X.K = K) : OpR X (binaryOp .Add) (zCatA K) := h ▸ zop_catA
theorem op_in_seqK {K : PySem.W.Frag} (h : X.K = K) : OpR X (compareOp .In) (rIn K false) := h ▸ op_in_seq
theorem op_notIn_seqK {K : PySem.W.Frag} (h : X.K = K) : OpR X (compareOp .NotIn) (rIn K true) := h ▸ op_notIn_seq
theorem ix_listK {K : PySem.W.Frag} (h : X.K = K) : IxR X (rIxL K) := h ▸ ix_list
theorem ix_tupK {K : PySem.W.Frag} (h : X.K = K) : IxR X (rIxT K) := h ▸ ix_tup
theorem zc_lenK {K : PySem.W.Frag} (h : X.K = K) : CallR X (.builtin "len") (cLen K) := h ▸ call_len
theorem cr_sumK {K : PySem.W.Frag} (hc : X.calm = true) (h : X.K = K) : CallR X (.builtin "sum") (rSum K) := h ▸ cr_sum hc
theorem zc_int : CallR X (.type "int") cInt := call_int1
theorem zc_tup : CallR X (.type "tuple") (cTup X.K) := call_tuple_of
theorem zc_len : CallR X (.builtin "len") (cLen X.K) := call_len
theorem zc_lenD : CallR X (.builtin "len") cLenD := call_lenD
theorem zc_dictD : CallR X (.type "dict") cDictD := call_dictD
theorem zc_sortD (hc : X.calm = true) : CallR X (.builtin "sorted") cSortD := by
  intro pins s σ H xs us Q I r h
  obtain ⟨a, kvs, ks, e, h1, h2, h3, q⟩ := h
  exact call_sortedD hc pins s σ H xs us Q I r ⟨a, kvs, ks, e, h1, h2, h3, fun ys p hp hs np => q ys hp hs p np⟩
end
end Zk

set_option Elab.async false
set_option linter.all false
set_option maxRecDepth 100000
namespace Zk
open PySem PySem.Spec L2
open PyProof.Rows hiding St

theorem nm1 {a p : Addr} (h : a ≠ p) : a ∉ [p] := fun z => h (List.mem_singleton.mp z)
theorem nm2 {a p q : Addr} (h : a ≠ p) (g : a ≠ q) : a ∉ [p, q] := fun z => by
  rcases List.mem_cons.mp z with z | z
  · exact h z
  · exact g (List.mem_singleton.mp z)
theorem Ext.get {M : List Addr} {H H' : Hp} (e : Ext M H H') {a : Addr} {o : HO} (h : H a = some o) (n : a ∉ M ∨ Imm o) : H' a = some o :=
  n.elim (e.keep a o h) (e.imm a o h)

theorem at_some {α : Type} {xs : List α} {r : Int} (h0 : 0 ≤ r) (h1 : r < (xs.length : Int)) : ∃ v, atI xs r = some v ∧ xs[r.toNat]? = some v := by
  have hl : r.toNat < xs.length := by omega
  refine ⟨xs[r.toNat], ?_, List.getElem?_eq_getElem hl⟩
  have h := atI_nat (xs := xs) (j := r.toNat) (List.getElem?_eq_getElem hl)
  rw [Int.toNat_of_nonneg h0] at h
  exact h
theorem at_map {α : Type} {f : α → V} {xs : List α} {r : Int} (h0 : 0 ≤ r) (h1 : r < (xs.length : Int)) : ∃ v, v ∈ xs ∧ atI (xs.map f) r = some (f v) := by
  obtain ⟨v, h, g⟩ := at_some (xs := xs.map f) h0 (by rw [List.length_map]; exact h1)
  rw [List.getElem?_map, Option.map_eq_some_iff] at g
  obtain ⟨y, hy, e⟩ := g
  subst e
  exact ⟨y, List.mem_of_getElem? hy, h⟩

theorem str_app_inj {z : Str} {c d : Nat} (h : z ++ (⟨#[c]⟩ : Str) = z ++ (⟨#[d]⟩ : Str)) : c = d := by
  have h1 : z.cps ++ #[c] = z.cps ++ #[d] := congrArg Str.cps h
  have h2 := congrArg Array.toList h1
  simp at h2
  exact h2
theorem str_len_append (a b : Str) : (a ++ b).length = a.length + b.length := Array.size_append
theorem str_len_join {sep : Str} (h0 : sep.length = 0) : ∀ ys : List Str, (Txt.join sep ys).length = (ys.map (·.length)).sum := by
  intro ys
  show (Builtin.Str.glued sep ys).length = _
  rw [StrLaws.glued_eq_join]
  induction ys with
  | nil => rfl
  | cons x r ih =>
    cases r with
    | nil => simp [Str.join]
    | cons y r =>
      show (x ++ sep ++ Str.join sep (y :: r)).length = _
      rw [str_len_append, str_len_append, ih, h0]
      simp
theorem str_len_mul {x : Str} {n : Int} (h : 0 ≤ n) : (Txt.mul x n).length = x.length * n.toNat := by
  have e := PyProof.Rows.len_mul x n
  rw [if_neg (by simp; omega)] at e
  have : (x.length : Int) * n = ((x.length * n.toNat : Nat) : Int) := by
    rw [Int.natCast_mul, Int.toNat_of_nonneg h]
  omega
theorem nodup_len {α : Type} [DecidableEq α] : ∀ {l m : List α}, l.Nodup → (∀ x ∈ l, x ∈ m) → l.length ≤ m.length
  | [], m, _, _ => Nat.zero_le _
  | x :: l, m, hn, hs => by
    obtain ⟨h1, h2⟩ := List.nodup_cons.mp hn
    have hx := hs x List.mem_cons_self
    have ih := nodup_len (l := l) (m := m.erase x) h2 fun y hy => by
      have ne : y ≠ x := fun z => h1 (z ▸ hy)
      exact (List.mem_erase_of_ne ne).mpr (hs y (List.mem_cons_of_mem _ hy))
    rw [List.length_erase_of_mem hx] at ih
    have : 0 < m.length := List.length_pos_of_mem hx
    show l.length + 1 ≤ m.length
    omega

theorem paired_snoc {α β : Type} {R : α → β → Prop} {x : α} {y : β} (r : R x y) : ∀ {xs : List α} {ys : List β}, Paired R xs ys → Paired R (xs ++ [x]) (ys ++ [y])
  | _, _, .nil => .cons r .nil
  | _, _, .cons h t => .cons h (paired_snoc r t)
theorem paired_at {α β : Type} {R : α → β → Prop} : ∀ {xs : List α} {ys : List β} {i : Nat} {x : α}, Paired R xs ys → xs[i]? = some x → ∃ y, ys[i]? = some y ∧ R x y
  | _, _, _, _, .nil, e => by simp at e
  | _, _, 0, _, .cons r _, e => by simp at e; subst e; exact ⟨_, rfl, r⟩
  | _, _, i + 1, x, .cons _ t, e => by
    obtain ⟨y, h1, h2⟩ := paired_at (i := i) (x := x) t (by simpa using e)
    exact ⟨y, by simpa using h1, h2⟩
theorem paired_len {α β : Type} {R : α → β → Prop} : ∀ {xs : List α} {ys : List β}, Paired R xs ys → xs.length = ys.length
  | _, _, .nil => rfl
  | _, _, .cons _ t => congrArg (· + 1) (paired_len t)
theorem at_nat0 {α : Type} {xs : List α} {i : Nat} {v : α} (h : xs[i]? = some v) : atI xs (0 + (i : Int)) = some v := by
  rw [Int.zero_add]
  exact atI_nat h
theorem get_snoc {α : Type} {xs : List α} {x : α} {i : Nat} (h : xs.length = i) : (xs ++ [x])[i]? = some x := by
  subst h
  simp
theorem Ext.dropq {M : List Addr} {H H1 H2 : Hp} {p : Addr} (a : Ext M H H1) (b : Ext [p] H1 H2) (np : H p = none) : Ext M H H2 :=
  a.drop (p := p) (b.mono fun _ z => List.mem_cons.mpr (.inl (List.mem_singleton.mp z))) np

/-! ### promises by the number of arguments -/
def sp0 (P : Hp → VK → Prop) : Sp := fun vs H Q _ => vs = [] ∧ P H Q
def sp1 (P : V → Hp → VK → Prop) : Sp := fun vs H Q _ => ∃ a, vs = [a] ∧ P a H Q
def sp2 (P : V → V → Hp → VK → Prop) : Sp := fun vs H Q _ => ∃ a b, vs = [a, b] ∧ P a b H Q
def sp3 (P : V → V → V → Hp → VK → Prop) : Sp := fun vs H Q _ => ∃ a b c, vs = [a, b, c] ∧ P a b c H Q
def sp4 (P : V → V → V → V → Hp → VK → Prop) : Sp := fun vs H Q _ => ∃ a b c d, vs = [a, b, c, d] ∧ P a b c d H Q
theorem w_sp1 {P : V → Hp → VK → Prop} {a H Q E} (h : P a H Q) : sp1 P ([a] ++ []) H Q E := ⟨a, rfl, h⟩
theorem w_sp2 {P : V → V → Hp → VK → Prop} {a b H Q E} (h : P a b H Q) : sp2 P ([a, b] ++ []) H Q E := ⟨a, b, rfl, h⟩
theorem w_sp3 {P : V → V → V → Hp → VK → Prop} {a b c H Q E} (h : P a b c H Q) : sp3 P ([a, b, c] ++ []) H Q E := ⟨a, b, c, rfl, h⟩
theorem w_sp4 {P : V → V → V → V → Hp → VK → Prop} {a b c d H Q E} (h : P a b c d H Q) : sp4 P ([a, b, c, d] ++ []) H Q E := ⟨a, b, c, d, rfl, h⟩
theorem len1 {P : V → Hp → VK → Prop} {x : Str} : ∀ vs H Q E, sp1 P vs H Q E → vs.length = [x].length := fun _ _ _ _ ⟨_, e, _⟩ => e ▸ rfl
theorem len2 {P : V → V → Hp → VK → Prop} {x y : Str} : ∀ vs H Q E, sp2 P vs H Q E → vs.length = [x, y].length := fun _ _ _ _ ⟨_, _, e, _⟩ => e ▸ rfl
theorem len3 {P : V → V → V → Hp → VK → Prop} {x y z : Str} : ∀ vs H Q E, sp3 P vs H Q E → vs.length = [x, y, z].length := fun _ _ _ _ ⟨_, _, _, e, _⟩ => e ▸ rfl
theorem len4 {P : V → V → V → V → Hp → VK → Prop} {x y z u : Str} : ∀ vs H Q E, sp4 P vs H Q E → vs.length = [x, y, z, u].length := fun _ _ _ _ ⟨_, _, _, _, e, _⟩ => e ▸ rfl

/-! ### one step of a reading -/
section
variable {σ : St} {H : Hp} {Q : VK} {QB : Bool → Hp → Prop} {QL : List V → Hp → Prop} {v x y : V} {ta tb tc te : TE} {tt tu : TT} {tl : TA} {t u : TS} {r : R2} {K : PySem.W.Frag} {i : Nat} {nx bk ct : St → Hp → Prop} {rt : VK} {a b : Addr}
theorem w_var (h : σ[i]? = some (some v)) (q : Q v H) : tVar i σ H Q := ⟨v, h, q⟩
theorem w_c (q : Q v H) : tC v σ H Q := q
theorem w_op (h : ta σ H fun x H1 => tb σ H1 fun y H2 => r x y H2 Q) : tOp r ta tb σ H Q := h
theorem w_un {r : V → Hp → VK → Prop} (h : ta σ H fun x H1 => r x H1 Q) : tUn r ta σ H Q := h
theorem w_rU {g : Int → V} {j : Int} (q : Q (g j) H) : rU g (.int j) H Q := ⟨j, rfl, q⟩
theorem w_I0 {g : Int → Int → V} {i j : Int} (q : Q (g i j) H) : rI0 g (.int i) (.int j) H Q := ⟨i, j, rfl, rfl, q⟩
theorem w_I {C : Int → Int → Prop} {g : Int → Int → V} {i j : Int} (c : C i j) (q : Q (g i j) H) : rI C g (.int i) (.int j) H Q := ⟨i, j, rfl, rfl, c, q⟩
theorem w_modA {i j : Int} (c : 0 < j) (q : ∀ r, 0 ≤ r → r < j → Q (.int r) H) : rI (fun _ j => 0 < j) (fun i j => .int (i % j)) (.int i) (.int j) H Q := ⟨i, j, rfl, rfl, c, q _ (Int.emod_nonneg i (by omega)) (Int.emod_lt_of_pos i c)⟩
theorem w_eq (c : scal x y = true) (q : Q (.bl (decide (x = y))) H) : rEq x y H Q := ⟨c, q⟩
theorem w_ne (c : scal x y = true) (q : Q (.bl (!decide (x = y))) H) : rNe x y H Q := ⟨c, q⟩
theorem w_eqI {i j : Int} (q : Q (.bl (decide (i = j))) H) : rEq (.int i) (.int j) H Q := ⟨rfl, by rw [show decide (V.int i = V.int j) = decide (i = j) by simp]; exact q⟩
theorem w_neI {i j : Int} (q : Q (.bl (!decide (i = j))) H) : rNe (.int i) (.int j) H Q := ⟨rfl, by rw [show decide (V.int i = V.int j) = decide (i = j) by simp]; exact q⟩
theorem w_eqS {i j : Str} (q : Q (.bl (decide (i = j))) H) : rEq (.str i) (.str j) H Q := ⟨rfl, by rw [show decide (V.str i = V.str j) = decide (i = j) by simp]; exact q⟩
theorem w_neS {i j : Str} (q : Q (.bl (!decide (i = j))) H) : rNe (.str i) (.str j) H Q := ⟨rfl, by rw [show decide (V.str i = V.str j) = decide (i = j) by simp]; exact q⟩
theorem w_isN (q : Q (.bl (decide (x = .non))) H) : rIsNn x .non H Q := ⟨rfl, q⟩
theorem w_isNt (q : Q (.bl (!decide (x = .non))) H) : rIsNt x .non H Q := ⟨rfl, q⟩
theorem w_isB {c : Bool} (q : Q (.bl (decide (x = .bl c))) H) : rIsBv x (.bl c) H Q := ⟨c, rfl, q⟩
theorem w_isNtB {c : Bool} (q : Q (.bl (!decide (x = .bl c))) H) : rIsNtBv x (.bl c) H Q := ⟨c, rfl, q⟩
theorem w_ltS {i j : Str} (q : Q (.bl (decide (i.cps.toList < j.cps.toList))) H) : rLtS (.str i) (.str j) H Q := ⟨i, j, rfl, rfl, q⟩
theorem w_addS {i j : Str} (c : i.length + j.length ≤ sizeLine) (q : Q (.str (i ++ j)) H) : rAddSt (.str i) (.str j) H Q := ⟨i, j, rfl, rfl, c, q⟩
theorem w_mulS {i : Str} {j : Int} (c : i.length ≤ 16) (d : -(2 ^ 63 : Int) ≤ j ∧ j ≤ 1048576) (q : Q (.str (Txt.mul i j)) H) : rMulSt (.str i) (.int j) H Q := ⟨i, j, rfl, rfl, c, d, q⟩
theorem w_ixL {xs : List V} {j : Int} (h : SqL K H a xs) (e : atI xs j = some v) (q : Q v H) : rIxL K (.ref a) (.int j) H Q := ⟨a, xs, j, v, rfl, rfl, h, e, q⟩
theorem w_ixT {xs : List V} {j : Int} (h : SqT K H a xs) (e : atI xs j = some v) (q : Q v H) : rIxT K (.ref a) (.int j) H Q := ⟨a, xs, j, v, rfl, rfl, h, e, q⟩
theorem w_ixS {z : Str} {j : Int} {c : Nat} (h : z.length ≤ sizeLine) (e : atI z.cps.toList j = some c) (q : Q (.str ⟨#[c]⟩) H) : rIxS (.str z) (.int j) H Q := ⟨z, j, c, rfl, rfl, h, e, q⟩
theorem w_inL {neg : Bool} {xs : List V} (h : SqL K H a xs) (f : flatV x = true) (g : xs.all flatV = true) (q : Q (.bl (if neg then !inV x xs else inV x xs)) H) : rIn K neg x (.ref a) H Q := ⟨a, xs, rfl, .inl h, f, g, q⟩
theorem w_inT {neg : Bool} {xs : List V} (h : SqT K H a xs) (f : flatV x = true) (g : xs.all flatV = true) (q : Q (.bl (if neg then !inV x xs else inV x xs)) H) : rIn K neg x (.ref a) H Q := ⟨a, xs, rfl, .inr h, f, g, q⟩
theorem w_cat {xs zs : List V} (h : H a = some (.lst xs)) (g : H b = some (.lst zs)) (c : xs.length + zs.length ≤ sizeLine) (q : Alc (.lst (xs ++ zs)) H Q) : zCat (.ref a) (.ref b) H Q := ⟨a, b, xs, zs, rfl, rfl, h, g, c, q⟩
theorem w_setL {xs : List V} {k : Int} {j : Nat} {Q : Hp → Prop} (h : H a = some (.lst xs)) (e : ixN xs.length k = some j) (q : Chg a (.lst (xs.set j v)) H Q) : zSetL (.ref a) (.int k) v H Q := ⟨a, xs, k, j, rfl, rfl, h, e, q⟩
theorem w_append {xs : List V} (h : H a = some (.lst xs)) (c : xs.length < sizeLine) (q : Chg a (.lst (xs ++ [y])) H (Q .non)) : zAppend (.ref a) [y] H Q := ⟨a, xs, y, rfl, rfl, h, c, q⟩
theorem w_m1 {r : V → List V → Hp → VK → Prop} (h : ta σ H fun x H1 => (∃ a, x = .str a) ∧ tb σ H1 fun y H2 => r x [y] H2 Q) : tM1 r ta tb σ H Q := h
theorem w_str {s : Str} {R : Prop} (h : R) : (∃ a, V.str s = .str a) ∧ R := ⟨⟨s, rfl⟩, h⟩
theorem w_join {s : Str} {ys : List Str} (h : SqL K H a (ys.map V.str)) (c : (ys.map (·.length)).sum + ys.length * s.length ≤ 16777216) (q : Q (.str (Txt.join s ys)) H) : rJoin K (.str s) [.ref a] H Q := ⟨s, a, ys, rfl, rfl, .inl h, c, q⟩
theorem inV_str {z : Str} {ns : List Str} : inV (.str z) (ns.map V.str) = decide (z ∈ ns) := by
  unfold inV
  induction ns with
  | nil => rfl
  | cons a r ih =>
    rw [List.map_cons, List.any_cons, ih]
    show (a == z || decide (z ∈ r)) = _
    by_cases h : a = z
    · subst h; simp
    · have h2 : ¬ z = a := fun e => h e.symm
      simp [h, h2]
theorem flat_str : ∀ ns : List Str, (ns.map V.str).all flatV = true
  | [] => rfl
  | _ :: r => by rw [List.map_cons, List.all_cons, flat_str r]; rfl
theorem w_inS {z : Str} {ns : List Str} (h : SqL K H a (ns.map V.str) ∨ SqT K H a (ns.map V.str)) (q : Q (.bl (decide (z ∈ ns))) H) : rIn K false (.str z) (.ref a) H Q :=
  ⟨a, _, rfl, h, rfl, flat_str ns, by rw [if_neg Bool.false_ne_true, inV_str]; exact q⟩
theorem w_ninS {z : Str} {ns : List Str} (h : SqL K H a (ns.map V.str) ∨ SqT K H a (ns.map V.str)) (q : Q (.bl (!decide (z ∈ ns))) H) : rIn K true (.str z) (.ref a) H Q :=
  ⟨a, _, rfl, h, rfl, flat_str ns, by rw [if_pos rfl, inV_str]; exact q⟩
theorem w_bm {T : String} {r : V → List V → Hp → VK → Prop} (h : ta σ H fun x H1 => tyV K T x H1 ∧ tl σ H1 fun xs H2 => r x xs H2 Q) : tBM K T r ta tl σ H Q := h
theorem w_bm0 {T : String} {r : V → List V → Hp → VK → Prop} (h : ta σ H fun x H1 => tyV K T x H1 ∧ r x [] H1 Q) : tBM0 K T r ta σ H Q := h
theorem w_tyL {xs : List V} {R : Prop} (h : SqL K H a xs) (q : R) : tyV K "list" (.ref a) H ∧ R := ⟨.inl ⟨rfl, xs, h⟩, q⟩
/-! tests -/
theorem w_test (h : te σ H fun x H1 => ∃ k, x = .bl k ∧ QB k H1) : tTest te σ H QB := h
theorem w_tB (h : te σ H fun x H1 => ∃ k, x = .bl k ∧ QB k H1) : tB te σ H QB := h
theorem w_bl {k : Bool} {P : Bool → Prop} (q : P k) : ∃ c, V.bl k = .bl c ∧ P c := ⟨k, rfl, q⟩
theorem w_and (h : tt σ H fun c H1 => if c = true then tu σ H1 QB else QB false H1) : tAnd tt tu σ H QB := h
theorem w_or (h : tt σ H fun c H1 => if c = true then QB true H1 else tu σ H1 QB) : tOr tt tu σ H QB := h
theorem w_not (h : tt σ H fun c H1 => QB (!c) H1) : tNot tt σ H QB := h
theorem w_andV (h : ta σ H fun x H1 => ∃ c, x = .bl c ∧ if c = true then tb σ H1 Q else Q (.bl false) H1) : tAndV ta tb σ H Q := h
theorem w_orV (h : ta σ H fun x H1 => ∃ c, x = .bl c ∧ if c = true then Q (.bl true) H1 else tb σ H1 Q) : tOrV ta tb σ H Q := h
theorem w_notV (h : ta σ H fun x H1 => ∃ c, x = .bl c ∧ Q (.bl (!c)) H1) : tNotV ta σ H Q := h
theorem w_if (h : tt σ H fun c H1 => if c = true then ta σ H1 Q else tb σ H1 Q) : tIf tt ta tb σ H Q := h
theorem w_yes (q : QB true H) : tYes σ H QB := q
/-! arguments, displays, calls -/
theorem w_nil (q : QL [] H) : tNil σ H QL := q
theorem w_cons (h : te σ H fun x H1 => tl σ H1 fun xs H2 => QL (x :: xs) H2) : tCons te tl σ H QL := h
theorem w_tup (h : tl σ H fun xs H1 => xs.length ≤ sizeLine ∧ Alc (.tup xs) H1 Q) : zTup tl σ H Q := h
theorem w_lst (h : tl σ H fun xs H1 => xs.length ≤ sizeLine ∧ Alc (.lst xs) H1 Q) : zLst tl σ H Q := h
theorem w_dnewK (h : Alc (.dK []) H Q) : zDNewK σ H Q := h
theorem w_dnewT (h : Alc (.dT []) H Q) : zDNewT σ H Q := h
theorem w_cb {r : RC} (h : tl σ H fun vs H1 => r vs H1 Q) : tCB r tl σ H Q := h
theorem w_call {sp : Sp} {dvs : List V} {E : XK} (h : tl σ H fun vs H1 => sp (vs ++ dvs) H1 Q E) : tCall sp dvs E tl σ H Q := h
theorem w_int {j : Int} (q : Q (.int j) H) : cInt [.int j] H Q := .inl ⟨j, rfl, q⟩
theorem w_lenL {xs : List V} (h : SqL K H a xs) (q : Q (.int (xs.length : Int)) H) : cLen K [.ref a] H Q := ⟨_, _, rfl, .inl ⟨xs, h, rfl⟩, q⟩
theorem w_lenT {xs : List V} (h : SqT K H a xs) (q : Q (.int (xs.length : Int)) H) : cLen K [.ref a] H Q := ⟨_, _, rfl, .inr ⟨xs, h, rfl⟩, q⟩
theorem w_lenD {kvs : List (Key × V)} (h : H a = some (.dK kvs)) (q : Q (.int (kvs.length : Int)) H) : cLenD [.ref a] H Q := ⟨_, _, rfl, h, q⟩
theorem w_tupL {xs : List V} (h : SqL K H a xs) (q : Alc (.tup xs) H Q) : cTup K [.ref a] H Q := ⟨a, xs, rfl, .inl ⟨h, q⟩⟩
theorem w_dictD {kvs : List (Key × V)} (h : H a = some (.dK kvs)) (q : Alc (.dK kvs) H Q) : cDictD [.ref a] H Q := ⟨a, kvs, rfl, .inl h, q⟩
theorem w_sum {ns : List Int} (h : SqL K H a (ns.map V.int)) (q : Q (.int ns.sum) H) : rSum K [.ref a] H Q := ⟨a, ns, rfl, h, q⟩
theorem w_isi {c : V} {t w : Value} {k : Bool} (cl : ClsV c w) (ty : TyX K H x t) (e : PySem.W.kitOne K t w = some k) (q : Q (.bl k) H) : rIsi K [x, c] H Q := ⟨x, c, t, w, k, rfl, cl, ty, e, q⟩
theorem w_dget (h : ta σ H fun x H1 => tb σ H1 fun y H2 => ∃ a v, x = .ref a ∧ DGet H2 a y (some v) ∧ Q v H2) : tDGet ta tb σ H Q := h
theorem w_dgetS {kvs : List (Key × V)} {z : Str} {P : V → Prop} (h : H a = some (.dK kvs)) (e : valV kvs (Sum.inr z : Key) = some v) (q : P v) : ∃ b u, V.ref a = .ref b ∧ DGet H b (.str z) (some u) ∧ P u := ⟨a, v, rfl, by rw [← e]; exact DGet.k (k := Sum.inr z) h, q⟩
theorem w_din (h : ta σ H fun y H1 => tb σ H1 fun x H2 => ∃ a o, x = .ref a ∧ DGet H2 a y o ∧ Q (.bl o.isSome) H2) : tDIn ta tb σ H Q := h
theorem w_dnotin (h : ta σ H fun y H1 => tb σ H1 fun x H2 => ∃ a o, x = .ref a ∧ DGet H2 a y o ∧ Q (.bl (!o.isSome)) H2) : tDNotIn ta tb σ H Q := h
/-! statements -/
theorem w_seq (h : t ⟨u ⟨nx, rt, bk, ct⟩, rt, bk, ct⟩ σ H) : tSeq t u ⟨nx, rt, bk, ct⟩ σ H := h
theorem w_next (q : nx σ H) : tNext ⟨nx, rt, bk, ct⟩ σ H := q
theorem w_break (q : bk σ H) : tBreak ⟨nx, rt, bk, ct⟩ σ H := q
theorem w_cont (q : ct σ H) : tCont ⟨nx, rt, bk, ct⟩ σ H := q
theorem w_asg {g : TG} (h : te σ H fun x H1 => g x σ H1 nx) : tAsg te g ⟨nx, rt, bk, ct⟩ σ H := h
theorem w_gname {N : St → Hp → Prop} (q : N (σ.set i (some v)) H) : gName i v σ H N := q
theorem w_gsub {N : St → Hp → Prop} {s : TSet} (h : ta σ H fun o H1 => tb σ H1 fun i H2 => s o i v H2 fun H3 => N σ H3) : gSub ta tb s v σ H N := h
theorem w_drop (h : te σ H fun _ H1 => nx σ H1) : tDrop te ⟨nx, rt, bk, ct⟩ σ H := h
theorem w_ret (h : te σ H rt) : tRet te ⟨nx, rt, bk, ct⟩ σ H := h
theorem w_retN (h : rt .non H) : tRetN ⟨nx, rt, bk, ct⟩ σ H := h
theorem w_ifS (h : tt σ H fun b H1 => if b = true then t ⟨nx, rt, bk, ct⟩ σ H1 else u ⟨nx, rt, bk, ct⟩ σ H1) : tIfS tt t u ⟨nx, rt, bk, ct⟩ σ H := h
theorem w_cut (P : St → Hp → Prop) (h : ∀ σ' H', P σ' H' → nx σ' H') (g : ∀ nx', (∀ σ' H', P σ' H' → nx' σ' H') → tIfS tt t u ⟨nx', rt, bk, ct⟩ σ H) : tIfS tt t u ⟨nx, rt, bk, ct⟩ σ H := g nx h
theorem w_cutA {g : TG} (P : St → Hp → Prop) (h : ∀ σ' H', P σ' H' → nx σ' H') (k : ∀ nx', (∀ σ' H', P σ' H' → nx' σ' H') → tAsg te g ⟨nx', rt, bk, ct⟩ σ H) : tAsg te g ⟨nx, rt, bk, ct⟩ σ H := k nx h
theorem w_cutE (P : V → Hp → Prop) (h : ∀ v H', P v H' → Q v H') (k : ∀ Q' : VK, (∀ v H', P v H' → Q' v H') → tIf tt ta tb σ H Q') : tIf tt ta tb σ H Q := k Q h
theorem w_d {c A B : Prop} [Decidable c] (h1 : c → A) (h2 : ¬ c → B) : if decide c = true then A else B := ite2 (fun h => h1 (of_decide_eq_true h)) fun h => h2 fun z => h (decide_eq_true z)
theorem w_nd {c A B : Prop} [Decidable c] (h1 : ¬ c → A) (h2 : c → B) : if (!decide c) = true then A else B := ite2 (fun h => h1 fun z => by rw [decide_eq_true z] at h; cases h) fun h => h2 (by
  by_cases z : c
  · exact z
  · rw [decide_eq_false z] at h; exact absurd rfl h)
theorem w_b {c : Bool} {A B : Prop} (h1 : c = true → A) (h2 : c = false → B) : if c = true then A else B := by cases c with | true => exact iteT (h1 rfl) | false => exact iteF (h2 rfl)
theorem w_nb {c : Bool} {A B : Prop} (h1 : c = false → A) (h2 : c = true → B) : if (!c) = true then A else B := by cases c with | true => exact iteF (h2 rfl) | false => exact iteT (h1 rfl)
theorem w_for {wi : TI} {g : TG} (h : wi σ H fun J H1 => ∃ W : Nat → Nat → St → Hp → Prop, (∃ m, W 0 m σ H1) ∧ ∀ i m σ H, W i m σ H →
  (J.stop i H ∧ nx σ H) ∨ (J.go i H ∧ ∃ N : St → Hp → Prop, (∀ σ' H', N σ' H' → ∃ m', m' < m ∧ W (i + 1) m' σ' H') ∧ ∀ x H', J.yld i H x H' → g x σ H' fun σ2 H2 => t ⟨N, rt, nx, N⟩ σ2 H2)) : tFor wi g t ⟨nx, rt, bk, ct⟩ σ H := h
theorem w_iList {R : It → Hp → Prop} (h : te σ H fun x H1 => ∃ a, x = .ref a ∧ (∃ xs, SqL K H1 a xs) ∧ R (Itl K a) H1) : iList K te σ H R := h
theorem w_iTup {R : It → Hp → Prop} (h : te σ H fun x H1 => ∃ a, x = .ref a ∧ (∃ xs, SqT K H1 a xs) ∧ R (Itt K a) H1) : iTup K te σ H R := h
theorem w_iRng1 {R : It → Hp → Prop} (h : tl σ H fun vs H1 => ∃ j : Int, vs = [.int j] ∧ -(2 ^ 62) ≤ j ∧ j < 2 ^ 62 ∧ R (Itr 0 j.toNat) H1) : iRng1 tl σ H R := h
theorem w_iRng2 {R : It → Hp → Prop} (h : tl σ H fun vs H1 => ∃ i j : Int, vs = [.int i, .int j] ∧ (-(2 ^ 62) ≤ i ∧ i < 2 ^ 62 ∧ -(2 ^ 62) ≤ j ∧ j < 2 ^ 62) ∧ R (Itr i (j - i).toNat) H1) : iRng2 tl σ H R := h
theorem w_iStr {R : It → Hp → Prop} (h : te σ H fun v H1 => ∃ x, v = .str x ∧ R (Its x) H1) : iStr te σ H R := h
theorem iteNF {A B : Prop} (h : A) : if (!false) = true then A else B := iteT h
theorem iteNT {A B : Prop} (h : B) : if (!true) = true then A else B := iteF h
theorem w_f {c : Bool} {A B : Prop} (h : c = false) (q : B) : if c = true then A else B := by rw [h]; exact iteF q
theorem w_t {c : Bool} {A B : Prop} (h : c = true) (q : A) : if c = true then A else B := by rw [h]; exact iteT q
theorem w_gtup {n : Nat} {g : TGs} {xs : List V} {N : St → Hp → Prop} (h : SqT K H a xs) (l : xs.length = n) (q : g xs σ H N) : gTup K n g (.ref a) σ H N := ⟨a, xs, rfl, h, l, q⟩
theorem w_gcons {g : TG} {gs : TGs} {r : List V} {N : St → Hp → Prop} (q : g v σ H fun σ' H' => gs r σ' H' N) : gCons g gs (v :: r) σ H N := ⟨v, r, rfl, q⟩
theorem w_gnil {N : St → Hp → Prop} (q : N σ H) : gNil [] σ H N := ⟨rfl, q⟩
theorem w_sdput (h : te σ H fun v H1 => ta σ H1 fun x H2 => tb σ H2 fun y H3 => ∃ a H4, x = .ref a ∧ DPut H3 a y v H4 ∧ nx σ H4) : sDPut ta tb te ⟨nx, rt, bk, ct⟩ σ H := h
theorem w_dputS {kvs : List (Key × V)} {z : Str} {N : Hp → Prop} (h : H a = some (.dK kvs)) (l : kvs.length < sizeLine) (k : ∀ H', Ext [a] H H' → H' a = some (.dK (putK kvs (Sum.inr z) v)) → N H') : ∃ b H4, V.ref a = .ref b ∧ DPut H b (.str z) v H4 ∧ N H4 :=
  ⟨a, _, rfl, DPut.k (k := Sum.inr z) h l, k _ (Ext.mut h (fun z => z) (List.mem_singleton.mpr rfl)) upd_same⟩
theorem w_sortD {kvs : List (Key × V)} {ks : List Str} (h : H a = some (.dK kvs)) (e : kvs.map (·.1) = ks.map Sum.inr) (l : ks.length < 64) (q : ∀ ys, ys.Perm ks → sortedS ys = true → Alc (.lst (ys.map V.str)) H Q) : cSortD [.ref a] H Q := ⟨a, kvs, ks, rfl, .inl h, e, l, q⟩
/-! a dict is locked while it is walked -/
structure Lk (d : Addr) (u : HO) (od : Obj) (H H1 : Hp) : Prop where
  was : H d = some u
  ni : ¬ Imm u
  eq : H1 = upd H d (.frz od u)
theorem Lk.at {d : Addr} {u : HO} {od : Obj} {H H1 : Hp} (L : Lk d u od H H1) : H1 d = some (.frz od u) := by rw [L.eq]; exact upd_same
theorem Lk.keep {d : Addr} {u : HO} {od : Obj} {H H1 : Hp} (L : Lk d u od H H1) {b : Addr} {o : HO} (h : H b = some o) (n : b ≠ d) : H1 b = some o := by rw [L.eq, upd_ne n]; exact h
theorem Lk.tup {d : Addr} {u : HO} {od : Obj} {H H1 : Hp} (L : Lk d u od H H1) {b : Addr} {xs : List V} (h : H b = some (.tup xs)) : H1 b = some (.tup xs) :=
  L.keep h fun z => L.ni (by subst z; have := L.was; rw [h] at this; cases this; trivial)
theorem Lk.frz {d : Addr} {u : HO} {od : Obj} {H H1 : Hp} (L : Lk d u od H H1) {b : Addr} {o : Obj} {x : HO} (h : H b = some (.frz o x)) : H1 b = some (.frz o x) :=
  L.keep h fun z => L.ni (by subst z; have := L.was; rw [h] at this; cases this; trivial)
theorem Lk.free {d : Addr} {u : HO} {od : Obj} {H H1 : Hp} (L : Lk d u od H H1) {b : Addr} (h : H1 b = none) : H b = none := by
  rw [L.eq] at h
  by_cases z : b = d
  · subst z; rw [upd_same] at h; cases h
  · rw [upd_ne z] at h; exact h
theorem Lk.scr {d : Addr} {u : HO} {od : Obj} {H H1 : Hp} (L : Lk d u od H H1) {b : Addr} {xs : List V} (h : Scr K H b xs) : Scr K H1 b xs := by
  rcases h with ⟨o, h⟩ | h
  · exact .inl ⟨o, L.frz h⟩
  · exact .inr h
theorem w_lock {d : Addr} {u : HO} (h : H d = some u) (m : Mut (some u)) (ni : ¬ Imm u) (k : ∀ od H1, Lk d u od H H1 → t ⟨fun σ' H' => H' d = some (.frz od u) ∧ nx σ' (upd H' d u), fun v H' => H' d = some (.frz od u) ∧ rt v (upd H' d u), fun σ' H' => H' d = some (.frz od u) ∧ bk σ' (upd H' d u), fun σ' H' => H' d = some (.frz od u) ∧ ct σ' (upd H' d u)⟩ σ H1) :
    tLock t ⟨nx, rt, bk, ct⟩ σ H := ⟨d, u, h, m, fun od => k od _ ⟨h, ni, rfl⟩⟩
theorem w_lockE {d : Addr} {u : HO} (h : H d = some u) (m : Mut (some u)) (ni : ¬ Imm u) (k : ∀ od H1, Lk d u od H H1 → te σ H1 fun v H' => H' d = some (.frz od u) ∧ Q v (upd H' d u)) : tLockE te σ H Q := ⟨d, u, h, m, fun od => k od _ ⟨h, ni, rfl⟩⟩
theorem w_unlock {d : Addr} {u : HO} {od : Obj} {H0 H1 : Hp} {M : List Addr} {N : Hp → Prop} (L : Lk d u od H0 H1) (e : Ext M H1 H) (k : ∀ H', Ext M H0 H' → (∀ b o, H b = some o → b ≠ d → H' b = some o) → N H') : H d = some (.frz od u) ∧ N (upd H d u) := by
  refine ⟨e.imm _ _ L.at trivial, k _ ?_ fun b o h n => by rw [upd_ne n]; exact h⟩
  have e' := e
  rw [L.eq] at e'
  exact Ext.lock L.was L.ni e'
theorem w_iKeys {R : It → Hp → Prop} (h : te σ H fun x H1 => ∃ d o, x = .ref d ∧ ((∃ kvs, H1 d = some (.frz o (.dK kvs)) ∧ R (Itk d o kvs) H1) ∨ ∃ kvs, H1 d = some (.frz o (.dT kvs)) ∧ R (Itkt d o kvs) H1)) : iKeys te σ H R := h
theorem w_keysK {kvs : List (Key × V)} {o : Obj} {R : It → Hp → Prop} (h : H a = some (.frz o (.dK kvs))) (q : R (Itk a o kvs) H) : ∃ d o, V.ref a = .ref d ∧ ((∃ kvs, H d = some (.frz o (.dK kvs)) ∧ R (Itk d o kvs) H) ∨ ∃ kvs, H d = some (.frz o (.dT kvs)) ∧ R (Itkt d o kvs) H) := ⟨a, o, rfl, .inl ⟨kvs, h, q⟩⟩
theorem w_keysV {kvs : List (Key × V)} {o : Obj} {R : It → Hp → Prop} (e : σ[i]? = some (some (.ref a))) (h : H a = some (.frz o (.dK kvs))) (q : R (Itk a o kvs) H) : iKeys (tVar i) σ H R := ⟨.ref a, e, a, o, rfl, .inl ⟨kvs, h, q⟩⟩
theorem w_dgetR {kvs : List (Key × V)} {z : Str} {P : V → Prop} (h : Rd H a (.dK kvs)) (e : valV kvs (Sum.inr z : Key) = some v) (q : P v) : ∃ b u, V.ref a = .ref b ∧ DGet H b (.str z) (some u) ∧ P u := ⟨a, v, rfl, .inl ⟨kvs, Sum.inr z, h, rfl, e.symm⟩, q⟩
theorem w_dinS {kvs : List (Key × V)} {z : Str} {P : Option V → Prop} (h : Rd H a (.dK kvs)) (q : P (valV kvs (Sum.inr z : Key))) : ∃ b o, V.ref a = .ref b ∧ DGet H b (.str z) o ∧ P o := ⟨a, _, rfl, .inl ⟨kvs, Sum.inr z, h, rfl, rfl⟩, q⟩
/-! loops by an invariant; what a turn is to reach is a letter -/
theorem z_for_list {xs : List V} {g : TG} (Pv : Nat → St → Hp → Prop) (h0 : Pv 0 σ H) (hl : ∀ i σ H, i ≤ xs.length → Pv i σ H → SqL K H a xs)
    (hs : ∀ (N : St → Hp → Prop) i x σ H, xs[i]? = some x → Pv i σ H → (∀ σ' H', Pv (i + 1) σ' H' → N σ' H') → g x σ H fun σ2 H2 => t ⟨N, rt, nx, N⟩ σ2 H2) (hd : ∀ σ H, Pv xs.length σ H → nx σ H) :
    ∃ W : Nat → Nat → St → Hp → Prop, (∃ m, W 0 m σ H) ∧ ∀ i m σ H, W i m σ H →
      ((Itl K a).stop i H ∧ nx σ H) ∨ ((Itl K a).go i H ∧ ∃ N : St → Hp → Prop, (∀ σ' H', N σ' H' → ∃ m', m' < m ∧ W (i + 1) m' σ' H') ∧ ∀ x H', (Itl K a).yld i H x H' → g x σ H' fun σ2 H2 => t ⟨N, rt, nx, N⟩ σ2 H2) :=
  for_list (D := ⟨nx, rt, nx, nx⟩) Pv h0 hl (fun i x σ H hx p => hs (Pv (i + 1)) i x σ H hx p fun _ _ q => q) hd
theorem z_for_tup {xs : List V} {g : TG} (Pv : Nat → St → Hp → Prop) (h0 : Pv 0 σ H) (hl : ∀ i σ H, i ≤ xs.length → Pv i σ H → SqT K H a xs)
    (hs : ∀ (N : St → Hp → Prop) i x σ H, xs[i]? = some x → Pv i σ H → (∀ σ' H', Pv (i + 1) σ' H' → N σ' H') → g x σ H fun σ2 H2 => t ⟨N, rt, nx, N⟩ σ2 H2) (hd : ∀ σ H, Pv xs.length σ H → nx σ H) :
    ∃ W : Nat → Nat → St → Hp → Prop, (∃ m, W 0 m σ H) ∧ ∀ i m σ H, W i m σ H →
      ((Itt K a).stop i H ∧ nx σ H) ∨ ((Itt K a).go i H ∧ ∃ N : St → Hp → Prop, (∀ σ' H', N σ' H' → ∃ m', m' < m ∧ W (i + 1) m' σ' H') ∧ ∀ x H', (Itt K a).yld i H x H' → g x σ H' fun σ2 H2 => t ⟨N, rt, nx, N⟩ σ2 H2) :=
  for_tup (D := ⟨nx, rt, nx, nx⟩) Pv h0 hl (fun i x σ H hx p => hs (Pv (i + 1)) i x σ H hx p fun _ _ q => q) hd
theorem z_for_range {lo : Int} {n : Nat} {g : TG} (Pv : Nat → St → Hp → Prop) (h0 : Pv 0 σ H)
    (hs : ∀ (N : St → Hp → Prop) i σ H, i < n → Pv i σ H → (∀ σ' H', Pv (i + 1) σ' H' → N σ' H') → g (.int (lo + i)) σ H fun σ2 H2 => t ⟨N, rt, nx, N⟩ σ2 H2) (hd : ∀ σ H, Pv n σ H → nx σ H) :
    ∃ W : Nat → Nat → St → Hp → Prop, (∃ m, W 0 m σ H) ∧ ∀ i m σ H, W i m σ H →
      ((Itr lo n).stop i H ∧ nx σ H) ∨ ((Itr lo n).go i H ∧ ∃ N : St → Hp → Prop, (∀ σ' H', N σ' H' → ∃ m', m' < m ∧ W (i + 1) m' σ' H') ∧ ∀ x H', (Itr lo n).yld i H x H' → g x σ H' fun σ2 H2 => t ⟨N, rt, nx, N⟩ σ2 H2) :=
  for_range (D := ⟨nx, rt, nx, nx⟩) Pv h0 (fun i σ H hx p => hs (Pv (i + 1)) i σ H hx p fun _ _ q => q) hd
theorem z_for_str {z : Str} {g : TG} (Pv : Nat → St → Hp → Prop) (h0 : Pv 0 σ H)
    (hs : ∀ (N : St → Hp → Prop) i c σ H, z.cps[i]? = some c → Pv i σ H → (∀ σ' H', Pv (i + 1) σ' H' → N σ' H') → g (.str ⟨#[c]⟩) σ H fun σ2 H2 => t ⟨N, rt, nx, N⟩ σ2 H2) (hd : ∀ σ H, Pv z.cps.size σ H → nx σ H) :
    ∃ W : Nat → Nat → St → Hp → Prop, (∃ m, W 0 m σ H) ∧ ∀ i m σ H, W i m σ H →
      ((Its z).stop i H ∧ nx σ H) ∨ ((Its z).go i H ∧ ∃ N : St → Hp → Prop, (∀ σ' H', N σ' H' → ∃ m', m' < m ∧ W (i + 1) m' σ' H') ∧ ∀ x H', (Its z).yld i H x H' → g x σ H' fun σ2 H2 => t ⟨N, rt, nx, N⟩ σ2 H2) := by
  refine ⟨fun i m σ H => m = z.cps.size - i ∧ i ≤ z.cps.size ∧ Pv i σ H, ⟨_, rfl, Nat.zero_le _, h0⟩, ?_⟩
  rintro i m σ H ⟨rfl, hi, p⟩
  by_cases hlt : i < z.cps.size
  · refine .inr ⟨hlt, Pv (i + 1), fun σ' H' p' => ⟨z.cps.size - (i + 1), by omega, rfl, hlt, p'⟩, fun x H' y => ?_⟩
    obtain ⟨e, c, hc, rfl⟩ := y
    subst e
    exact hs (Pv (i + 1)) i c σ _ hc p fun _ _ q => q
  · have e : i = z.cps.size := by omega
    subst e
    exact .inl ⟨Nat.le_refl _, hd σ H p⟩
/-- over the keys of a locked dict -/
theorem z_for_keys {kvs : List (Key × V)} {d : Addr} {o : Obj} {g : TG} (Pv : Nat → St → Hp → Prop) (h0 : Pv 0 σ H) (hl : ∀ i σ H, i ≤ kvs.length → Pv i σ H → H d = some (.frz o (.dK kvs)))
    (hs : ∀ (N : St → Hp → Prop) i k v σ H, kvs[i]? = some (k, v) → Pv i σ H → (∀ σ' H', Pv (i + 1) σ' H' → N σ' H') → g (kV k) σ H fun σ2 H2 => t ⟨N, rt, nx, N⟩ σ2 H2) (hd : ∀ σ H, Pv kvs.length σ H → nx σ H) :
    ∃ W : Nat → Nat → St → Hp → Prop, (∃ m, W 0 m σ H) ∧ ∀ i m σ H, W i m σ H →
      ((Itk d o kvs).stop i H ∧ nx σ H) ∨ ((Itk d o kvs).go i H ∧ ∃ N : St → Hp → Prop, (∀ σ' H', N σ' H' → ∃ m', m' < m ∧ W (i + 1) m' σ' H') ∧ ∀ x H', (Itk d o kvs).yld i H x H' → g x σ H' fun σ2 H2 => t ⟨N, rt, nx, N⟩ σ2 H2) := by
  refine ⟨fun i m σ H => m = kvs.length - i ∧ i ≤ kvs.length ∧ Pv i σ H, ⟨_, rfl, Nat.zero_le _, h0⟩, ?_⟩
  rintro i m σ H ⟨rfl, hi, p⟩
  by_cases hlt : i < kvs.length
  · refine .inr ⟨⟨hl i σ H hi p, hlt⟩, Pv (i + 1), fun σ' H' p' => ⟨kvs.length - (i + 1), by omega, rfl, hlt, p'⟩, fun x H' y => ?_⟩
    obtain ⟨e, k, v, hk, rfl⟩ := y
    subst e
    exact hs (Pv (i + 1)) i k v σ _ hk p fun _ _ q => q
  · have e : i = kvs.length := by omega
    subst e
    exact .inl ⟨⟨hl _ σ H hi p, Nat.le_refl _⟩, hd σ H p⟩
/-! comprehensions -/
theorem w_lc {wi : TI} {g : TG} {vs : List Nat} (h : wi σ H fun J H1 => ∀ D, H1 D = none → ∃ W : Nat → Nat → Hp → Prop, (∃ m, W 0 m (upd H1 D (.lst []))) ∧ ∀ i m H, W i m H →
  (J.stop i H ∧ Q (.ref D) H) ∨ (J.go i H ∧ ∃ Nx : Hp → Prop, (∀ H', Nx H' → ∃ m', m' < m ∧ W (i + 1) m' H') ∧ ∀ x H', J.yld i H x H' → g x (wipe σ vs) H' fun σ2 H2 => wipe σ2 vs = wipe σ vs ∧ tt σ2 H2 fun b H3 =>
    if b = true then te σ2 H3 fun y H4 => ∃ acc, H4 D = some (.lst acc) ∧ acc.length < sizeLine ∧ Nx (upd H4 D (.lst (acc ++ [y]))) else Nx H3)) : tLc wi g tt te vs σ H Q := h
theorem w_app {Nx : Hp → Prop} {acc : List V} {D : Addr} (hD : H D = some (.lst acc)) (c : acc.length < sizeLine) (k : ∀ H', Ext [D] H H' → H' D = some (.lst (acc ++ [y])) → Nx H') :
    ∃ acc, H D = some (.lst acc) ∧ acc.length < sizeLine ∧ Nx (upd H D (.lst (acc ++ [y]))) := ⟨acc, hD, c, k _ (Ext.mut hD (fun z => z) (List.mem_singleton.mpr rfl)) upd_same⟩
theorem z_lc_list {xs : List V} {g : TG} {vs : List Nat} {D : Addr} {Qd : Hp → Prop} (Pv : Nat → List V → Hp → Prop) (nD : H D = none) (h0 : ∀ H', Ext [] H H' → Pv 0 [] H') (hl : ∀ i acc H, i ≤ xs.length → Pv i acc H → SqL K H a xs)
    (hs : ∀ (Nx : Hp → Prop) i x acc H, xs[i]? = some x → Pv i acc H → H D = some (.lst acc) → (∀ acc' H', Pv (i + 1) acc' H' → H' D = some (.lst acc') → Nx H') → g x (wipe σ vs) H fun σ2 H2 => wipe σ2 vs = wipe σ vs ∧ tt σ2 H2 fun b H3 =>
      if b = true then te σ2 H3 fun y H4 => ∃ acc, H4 D = some (.lst acc) ∧ acc.length < sizeLine ∧ Nx (upd H4 D (.lst (acc ++ [y]))) else Nx H3) (hd : ∀ acc H, Pv xs.length acc H → H D = some (.lst acc) → Qd H) :
    ∃ W : Nat → Nat → Hp → Prop, (∃ m, W 0 m (upd H D (.lst []))) ∧ ∀ i m H, W i m H →
      ((Itl K a).stop i H ∧ Qd H) ∨ ((Itl K a).go i H ∧ ∃ Nx : Hp → Prop, (∀ H', Nx H' → ∃ m', m' < m ∧ W (i + 1) m' H') ∧ ∀ x H', (Itl K a).yld i H x H' → g x (wipe σ vs) H' fun σ2 H2 => wipe σ2 vs = wipe σ vs ∧ tt σ2 H2 fun b H3 =>
        if b = true then te σ2 H3 fun y H4 => ∃ acc, H4 D = some (.lst acc) ∧ acc.length < sizeLine ∧ Nx (upd H4 D (.lst (acc ++ [y]))) else Nx H3) :=
  lc_list (fun i H => ∃ acc, Pv i acc H ∧ H D = some (.lst acc)) ⟨[], h0 _ (Ext.new nD), upd_same⟩ (fun i H hi ⟨acc, p, _⟩ => hl i acc H hi p)
    (fun i x H hx ⟨acc, p, hD⟩ => hs _ i x acc H hx p hD fun acc' H' p' h' => ⟨acc', p', h'⟩) fun H ⟨acc, p, hD⟩ => hd acc H p hD
theorem z_lc_tup {xs : List V} {g : TG} {vs : List Nat} {D : Addr} {Qd : Hp → Prop} (Pv : Nat → List V → Hp → Prop) (nD : H D = none) (h0 : ∀ H', Ext [] H H' → Pv 0 [] H') (hl : ∀ i acc H, i ≤ xs.length → Pv i acc H → SqT K H a xs)
    (hs : ∀ (Nx : Hp → Prop) i x acc H, xs[i]? = some x → Pv i acc H → H D = some (.lst acc) → (∀ acc' H', Pv (i + 1) acc' H' → H' D = some (.lst acc') → Nx H') → g x (wipe σ vs) H fun σ2 H2 => wipe σ2 vs = wipe σ vs ∧ tt σ2 H2 fun b H3 =>
      if b = true then te σ2 H3 fun y H4 => ∃ acc, H4 D = some (.lst acc) ∧ acc.length < sizeLine ∧ Nx (upd H4 D (.lst (acc ++ [y]))) else Nx H3) (hd : ∀ acc H, Pv xs.length acc H → H D = some (.lst acc) → Qd H) :
    ∃ W : Nat → Nat → Hp → Prop, (∃ m, W 0 m (upd H D (.lst []))) ∧ ∀ i m H, W i m H →
      ((Itt K a).stop i H ∧ Qd H) ∨ ((Itt K a).go i H ∧ ∃ Nx : Hp → Prop, (∀ H', Nx H' → ∃ m', m' < m ∧ W (i + 1) m' H') ∧ ∀ x H', (Itt K a).yld i H x H' → g x (wipe σ vs) H' fun σ2 H2 => wipe σ2 vs = wipe σ vs ∧ tt σ2 H2 fun b H3 =>
        if b = true then te σ2 H3 fun y H4 => ∃ acc, H4 D = some (.lst acc) ∧ acc.length < sizeLine ∧ Nx (upd H4 D (.lst (acc ++ [y]))) else Nx H3) :=
  lc_tup (fun i H => ∃ acc, Pv i acc H ∧ H D = some (.lst acc)) ⟨[], h0 _ (Ext.new nD), upd_same⟩ (fun i H hi ⟨acc, p, _⟩ => hl i acc H hi p)
    (fun i x H hx ⟨acc, p, hD⟩ => hs _ i x acc H hx p hD fun acc' H' p' h' => ⟨acc', p', h'⟩) fun H ⟨acc, p, hD⟩ => hd acc H p hD
theorem z_lc_range {lo : Int} {n : Nat} {g : TG} {vs : List Nat} {D : Addr} {Qd : Hp → Prop} (Pv : Nat → List V → Hp → Prop) (nD : H D = none) (h0 : ∀ H', Ext [] H H' → Pv 0 [] H')
    (hs : ∀ (Nx : Hp → Prop) i acc H, i < n → Pv i acc H → H D = some (.lst acc) → (∀ acc' H', Pv (i + 1) acc' H' → H' D = some (.lst acc') → Nx H') → g (.int (lo + i)) (wipe σ vs) H fun σ2 H2 => wipe σ2 vs = wipe σ vs ∧ tt σ2 H2 fun b H3 =>
      if b = true then te σ2 H3 fun y H4 => ∃ acc, H4 D = some (.lst acc) ∧ acc.length < sizeLine ∧ Nx (upd H4 D (.lst (acc ++ [y]))) else Nx H3) (hd : ∀ acc H, Pv n acc H → H D = some (.lst acc) → Qd H) :
    ∃ W : Nat → Nat → Hp → Prop, (∃ m, W 0 m (upd H D (.lst []))) ∧ ∀ i m H, W i m H →
      ((Itr lo n).stop i H ∧ Qd H) ∨ ((Itr lo n).go i H ∧ ∃ Nx : Hp → Prop, (∀ H', Nx H' → ∃ m', m' < m ∧ W (i + 1) m' H') ∧ ∀ x H', (Itr lo n).yld i H x H' → g x (wipe σ vs) H' fun σ2 H2 => wipe σ2 vs = wipe σ vs ∧ tt σ2 H2 fun b H3 =>
        if b = true then te σ2 H3 fun y H4 => ∃ acc, H4 D = some (.lst acc) ∧ acc.length < sizeLine ∧ Nx (upd H4 D (.lst (acc ++ [y]))) else Nx H3) :=
  lc_range (fun i H => ∃ acc, Pv i acc H ∧ H D = some (.lst acc)) ⟨[], h0 _ (Ext.new nD), upd_same⟩
    (fun i H hx ⟨acc, p, hD⟩ => hs _ i acc H hx p hD fun acc' H' p' h' => ⟨acc', p', h'⟩) fun H ⟨acc, p, hD⟩ => hd acc H p hD
theorem z_lc_keys {kvs : List (Key × V)} {d : Addr} {o : Obj} {g : TG} {vs : List Nat} {D : Addr} {Qd : Hp → Prop} (Pv : Nat → List V → Hp → Prop) (nD : H D = none) (h0 : ∀ H', Ext [] H H' → Pv 0 [] H') (hl : ∀ i acc H, i ≤ kvs.length → Pv i acc H → H d = some (.frz o (.dK kvs)))
    (hs : ∀ (Nx : Hp → Prop) i k v acc H, kvs[i]? = some (k, v) → Pv i acc H → H D = some (.lst acc) → (∀ acc' H', Pv (i + 1) acc' H' → H' D = some (.lst acc') → Nx H') → g (kV k) (wipe σ vs) H fun σ2 H2 => wipe σ2 vs = wipe σ vs ∧ tt σ2 H2 fun b H3 =>
      if b = true then te σ2 H3 fun y H4 => ∃ acc, H4 D = some (.lst acc) ∧ acc.length < sizeLine ∧ Nx (upd H4 D (.lst (acc ++ [y]))) else Nx H3) (hd : ∀ acc H, Pv kvs.length acc H → H D = some (.lst acc) → Qd H) :
    ∃ W : Nat → Nat → Hp → Prop, (∃ m, W 0 m (upd H D (.lst []))) ∧ ∀ i m H, W i m H →
      ((Itk d o kvs).stop i H ∧ Qd H) ∨ ((Itk d o kvs).go i H ∧ ∃ Nx : Hp → Prop, (∀ H', Nx H' → ∃ m', m' < m ∧ W (i + 1) m' H') ∧ ∀ x H', (Itk d o kvs).yld i H x H' → g x (wipe σ vs) H' fun σ2 H2 => wipe σ2 vs = wipe σ vs ∧ tt σ2 H2 fun b H3 =>
        if b = true then te σ2 H3 fun y H4 => ∃ acc, H4 D = some (.lst acc) ∧ acc.length < sizeLine ∧ Nx (upd H4 D (.lst (acc ++ [y]))) else Nx H3) := by
  refine ⟨fun i m H => m = kvs.length - i ∧ i ≤ kvs.length ∧ ∃ acc, Pv i acc H ∧ H D = some (.lst acc), ⟨_, rfl, Nat.zero_le _, [], h0 _ (Ext.new nD), upd_same⟩, ?_⟩
  rintro i m H ⟨rfl, hi, acc, p, hD⟩
  by_cases hlt : i < kvs.length
  · refine .inr ⟨⟨hl i acc H hi p, hlt⟩, (fun H => ∃ acc, Pv (i + 1) acc H ∧ H D = some (.lst acc)), fun H' p' => ⟨kvs.length - (i + 1), by omega, rfl, hlt, p'⟩, fun x H' y => ?_⟩
    obtain ⟨e, k, v, hk, rfl⟩ := y
    subst e
    exact hs _ i k v acc _ hk p hD fun acc' H' p' h' => ⟨acc', p', h'⟩
  · have e : i = kvs.length := by omega
    subst e
    exact .inl ⟨⟨hl _ acc H hi p, Nat.le_refl _⟩, hd acc H p hD⟩
end
end Zk

set_option Elab.async false
set_option linter.all false
set_option maxRecDepth 100000
set_option maxHeartbeats 4000000
namespace Zk
open PySem PySem.Spec L2
open PyProof.Rows hiding St

/-! ### slots: a text and two ints; their order -/
abbrev Slot := Str × Int × Int
def sVs (s : Slot) : List V := [.str s.1, .int s.2.1, .int s.2.2]
def sKey (s : Slot) : List Key := [Sum.inr s.1, Sum.inl s.2.1, Sum.inl s.2.2]
theorem sKey_vs (s : Slot) : (sKey s).map kV = sVs s := rfl
theorem sKey_inj {s t : Slot} (h : sKey s = sKey t) : s = t := by
  unfold sKey at h
  injection h with h1 h2
  injection h2 with h2 h3
  injection h3 with h3 _
  obtain ⟨a, b, c⟩ := s
  obtain ⟨a', b', c'⟩ := t
  simp only [Sum.inr.injEq, Sum.inl.injEq] at h1 h2 h3
  subst h1 h2 h3
  rfl
theorem sVs_inj {s t : Slot} (h : sVs s = sVs t) : s = t := by
  obtain ⟨a, b, c⟩ := s
  obtain ⟨a', b', c'⟩ := t
  unfold sVs at h
  simp only [List.cons.injEq, V.str.injEq, V.int.injEq] at h
  obtain ⟨h1, h2, h3, _⟩ := h
  subst h1 h2 h3
  rfl
def sLt (p q : Slot) : Bool := if p.1 = q.1 then (if p.2.1 = q.2.1 then decide (p.2.2 < q.2.2) else decide (p.2.1 < q.2.1)) else decide (p.1.cps.toList < q.1.cps.toList)
theorem str_tri (a b : Str) : a.cps.toList < b.cps.toList ∨ a = b ∨ b.cps.toList < a.cps.toList := by
  by_cases h : a.cps.toList < b.cps.toList
  · exact .inl h
  · by_cases h2 : b.cps.toList < a.cps.toList
    · exact .inr (.inr h2)
    · refine .inr (.inl ?_)
      have := List.le_antisymm (List.not_lt.mp h2) (List.not_lt.mp h)
      cases a; cases b
      simp only [Str.mk.injEq]
      exact Array.toList_inj.mp this
def SLt (p q : Slot) : Prop := p.1.cps.toList < q.1.cps.toList ∨ (p.1 = q.1 ∧ (p.2.1 < q.2.1 ∨ (p.2.1 = q.2.1 ∧ p.2.2 < q.2.2)))
theorem sLt_iff {p q : Slot} : sLt p q = true ↔ SLt p q := by
  unfold sLt SLt
  by_cases e : p.1 = q.1
  · rw [if_pos e]
    have no : ¬ p.1.cps.toList < q.1.cps.toList := by rw [e]; exact List.lt_irrefl _
    by_cases e2 : p.2.1 = q.2.1
    · rw [if_pos e2, decide_eq_true_eq]
      constructor
      · intro h; exact .inr ⟨e, .inr ⟨e2, h⟩⟩
      · rintro (h | ⟨_, h | h⟩)
        · exact absurd h no
        · omega
        · exact h.2
    · rw [if_neg e2, decide_eq_true_eq]
      constructor
      · intro h; exact .inr ⟨e, .inl h⟩
      · rintro (h | ⟨_, h | h⟩)
        · exact absurd h no
        · exact h
        · exact absurd h.1 e2
  · rw [if_neg e, decide_eq_true_eq]
    constructor
    · intro h; exact .inl h
    · rintro (h | h)
      · exact h
      · exact absurd h.1 e
theorem SLt.tri (p q : Slot) : SLt p q ∨ p = q ∨ SLt q p := by
  obtain ⟨a, b, c⟩ := p
  obtain ⟨a', b', c'⟩ := q
  unfold SLt
  rcases str_tri a a' with h | h | h
  · exact .inl (.inl h)
  · subst h
    rcases Int.lt_trichotomy b b' with h | h | h
    · exact .inl (.inr ⟨rfl, .inl h⟩)
    · subst h
      rcases Int.lt_trichotomy c c' with h | h | h
      · exact .inl (.inr ⟨rfl, .inr ⟨rfl, h⟩⟩)
      · subst h; exact .inr (.inl rfl)
      · exact .inr (.inr (.inr ⟨rfl, .inr ⟨rfl, h⟩⟩))
    · exact .inr (.inr (.inr ⟨rfl, .inl h⟩))
  · exact .inr (.inr (.inl h))
theorem SLt.trans {p q r : Slot} (h1 : SLt p q) (h2 : SLt q r) : SLt p r := by
  unfold SLt at *
  rcases h1 with h1 | ⟨e1, h1⟩ <;> rcases h2 with h2 | ⟨e2, h2⟩
  · exact .inl (List.lt_trans h1 h2)
  · exact .inl (by rw [← e2]; exact h1)
  · exact .inl (by rw [e1]; exact h2)
  · exact .inr ⟨e1.trans e2, by omega⟩
theorem SLt.irr {p : Slot} (h : SLt p p) : False := by
  unfold SLt at h
  rcases h with h | ⟨_, h⟩
  · exact List.lt_irrefl _ h
  · omega
theorem sLt_no {p q : Slot} : sLt p q = false ↔ ¬ SLt p q := by rw [← sLt_iff]; simp
theorem sLt_swo {α : Type} (k : α → Slot) : SrtO.Swo fun v u => sLt (k v) (k u) := by
  refine ⟨fun x y h => sLt_no.mpr fun z => (SLt.trans (sLt_iff.mp h) z).irr, fun x y z h1 h2 => sLt_no.mpr fun q => ?_⟩
  have a := sLt_no.mp h1
  have b := sLt_no.mp h2
  rcases SLt.tri (k x) (k y) with c | c | c
  · exact b (SLt.trans q c)
  · rw [← c] at b; exact b q
  · exact a c
/-! ### sorting lists of slots, of any length -/
section
variable {prog : Program} {w : World} {A : Around} {E : Value → Shared → Prop} {s : Shared}
def IsSlotV (h : Heap) (v : Value) (z : Slot) : Prop := ∃ (a : Addr) (o : Obj) (t u r : Tok) (n : Nat), v = .ref a ∧ h.get? a = some o ∧ o.cls = .type "tuple" ∧ o.data = .seq #[.str z.1 t, .int z.2.1 u, .int z.2.2 r] n
theorem IsSlotV.stays {h h' : Heap} {v : Value} {z : Slot} (p : IsSlotV h v z) (k : ∀ b o, h.get? b = some o → o.cls = .type "tuple" → h'.get? b = some o) : IsSlotV h' v z := by
  obtain ⟨a, o, t, u, r, n, e, ho, hc, hd⟩ := p
  exact ⟨a, o, t, u, r, n, e, k _ _ ho hc, hc, hd⟩
theorem slot_cmp {vs : List Value} {k : Value → Slot} (hp : ∀ v ∈ vs, IsSlotV s.heap v (k v)) : SrtO.Cmp prog w A s (tuples' true) (fun p => p.1 ∈ vs) (SrtO.lt2 fun v u => sLt (k v) (k u)) := by
  intro p q hm hm'
  have g1 := hp _ hm
  have g2 := hp _ hm'
  show wpAny (model prog w) A (keyLt' (tuples' true) p.1 q.1) (fun r s' => s' = s ∧ r = sLt (k p.1) (k q.1)) (fun _ _ => False) s
  generalize k p.1 = x at g1 ⊢
  generalize k q.1 = y at g2 ⊢
  obtain ⟨x1, x2, x3⟩ := x
  obtain ⟨y1, y2, y3⟩ := y
  obtain ⟨a, o, t, u, r, n, e, ho, hc, hd⟩ := g1
  obtain ⟨a', o', t', u', r', n', e', ho', hc', hd'⟩ := g2
  rw [e, e']
  refine PySem.W.kat_lt ho hd ho' hd' ?_
  show PySem.W.KatLex prog w A true (decide (3 < 3)) _ [(.str x1 t, .str y1 t'), (.int x2 u, .int y2 u'), (.int x3 r, .int y3 r')] 0 s
  refine PySem.W.kat_cons (wpAny_eqBool_str ?_)
  refine PySem.W.kat_go (fun e1 => ?_) (fun e1 => ?_)
  · have ex : x1 = y1 := by simpa using e1
    refine PySem.W.kat_yes (PySem.W.kat_cons (wpAny_eqBool_int ?_))
    refine PySem.W.kat_go (fun e2 => ?_) (fun e2 => ?_)
    · have ey : x2 = y2 := by simpa using e2
      refine PySem.W.kat_yes (PySem.W.kat_cons (wpAny_eqBool_int ?_))
      refine PySem.W.kat_go (fun e3 => ?_) (fun e3 => ?_)
      · have ez : x3 = y3 := by simpa using e3
        refine PySem.W.kat_yes (PySem.W.kat_nil ⟨rfl, ?_⟩)
        show false = sLt (x1, x2, x3) (y1, y2, y3)
        unfold sLt
        rw [if_pos ex, if_pos ey, ez]
        exact (decide_eq_false (Int.lt_irrefl _)).symm
      · refine PySem.W.kat_no (PySem.W.kat_one _ _ (lt_int ?_))
        refine (show s = s ∧ decide (x3 < y3) = sLt (x1, x2, x3) (y1, y2, y3) from ⟨rfl, ?_⟩)
        unfold sLt
        rw [if_pos ex, if_pos ey]
    · have ey : ¬ x2 = y2 := by simpa using e2
      refine PySem.W.kat_no (PySem.W.kat_one _ _ (lt_int ?_))
      refine (show s = s ∧ decide (x2 < y2) = sLt (x1, x2, x3) (y1, y2, y3) from ⟨rfl, ?_⟩)
      unfold sLt
      rw [if_pos ex, if_neg ey]
  · have ex : ¬ x1 = y1 := by simpa using e1
    refine PySem.W.kat_no (oneLt_str ?_)
    refine (show s = s ∧ decide (x1.cps.toList < y1.cps.toList) = sLt (x1, x2, x3) (y1, y2, y3) from ⟨rfl, ?_⟩)
    unfold sLt
    rw [if_neg ex]
theorem slot_firsts {h : Heap} : ∀ {vs : List Value}, (∀ v ∈ vs, ∃ z, IsSlotV h v z) → ∃ fs : List Value, PySem.W.KatTups h vs fs ∧ fs.length = vs.length ∧ ∀ f ∈ fs, ∃ x t, f = Value.str x t
  | [], _ => ⟨[], PySem.W.KatTups.nil, rfl, fun _ z => nomatch z⟩
  | v :: vs, hp => by
    obtain ⟨fs, k, hl, hi⟩ := slot_firsts (vs := vs) fun u m => hp u (List.mem_cons_of_mem _ m)
    obtain ⟨z, a, o, t, u, r, n, rfl, ho, hc, hd⟩ := hp v List.mem_cons_self
    refine ⟨.str z.1 t :: fs, PySem.W.KatTups.cons ho hc hd rfl k, congrArg (· + 1) hl, fun f m => ?_⟩
    rcases List.mem_cons.mp m with m | m
    · exact ⟨_, _, m⟩
    · exact hi f m
theorem slots_able {a : Addr} {vs : List Value} {k : Value → Slot} (h0 : 0 < vs.length) (hp : ∀ v ∈ vs, IsSlotV s.heap v (k v)) (ha : ∀ o, s.heap.get? a = some o → o.cls ≠ .type "tuple") : SrtO.SortableO prog w A s a vs fun v u => sLt (k v) (k u) := by
  intro h' keep
  have g : ∀ v ∈ vs, IsSlotV h' v (k v) := fun v m => (hp v m).stays fun b o e c => keep b o (fun z => ha o (z ▸ e) c) e
  obtain ⟨fs, k1, hl, hi⟩ := slot_firsts fun v m => ⟨_, g v m⟩
  refine ⟨tuples' true, fun Q E q => ?_, slot_cmp g⟩
  refine PySem.W.kat_kind (T := .type "str") k1 (by omega) (fun f m => ?_) (by rfl) ?_
  · obtain ⟨x, t, rfl⟩ := hi f m
    exact PySem.W.Looks.now
  · rw [show (Value.type "str" != Value.type "tuple") = true by decide +kernel]
    exact q
theorem sorted_slots {l : Addr} {vs : List Value} {k : Value → Slot} {Q : Value → Shared → Prop} (hl : s.heap.IsList l vs.toArray) (hz : vs.length ≤ sizeLine) (hp : ∀ v ∈ vs, IsSlotV s.heap v (k v))
    (h : ∀ (h' : Heap) (d : Addr) (out : List Value), SrtO.Srtd (fun v u => sLt (k v) (k u)) out → out.Perm vs → (∀ b o, s.heap.get? b = some o → h'.get? b = some o) → s.heap.objs.size ≤ d → (∃ n, h'.get? d = some (seqObj "list" out.toArray n)) → Q (.ref d) { s with heap := h' }) :
    wpAny (model prog w) A (call (.builtin "sorted") [.ref l]) Q E s := by
  refine SrtO.sorted_ord (sLt_swo k) hl hz (fun h2 g a ha kk => ?_) fun out hs hb => h _ _ out hs hb.perm (fun b o e => sortedAll_old e) (Nat.le_succ _) (sortedAll_at s.heap vs out.toArray)
  refine slots_able (s := { s with heap := g }) (by omega) (fun v m => (hp v m).stays fun b o e _ => (kk b o e).2) fun o e c => ?_
  rw [ha] at e
  cases e
  exact absurd (Value.type.inj c) (by decide)
end
/-- the slot whose tuple stands at a -/
def slotAt (H : Hp) (a : Addr) : Slot := match H a with
  | some (.tup [.str z, .int n, .int k]) => (z, n, k)
  | _ => (Str.empty, 0, 0)
theorem slotAt_eq {H : Hp} {a : Addr} {s : Slot} (h : H a = some (.tup (sVs s))) : slotAt H a = s := by
  unfold slotAt
  rw [h]
  rfl
/-- addresses and the slots whose tuples stand there -/
def SlotsAt (H : Hp) (as : List Addr) (ss : List Slot) : Prop := Paired (fun (a : Addr) (s : Slot) => H a = some (.tup (sVs s))) as ss
theorem SlotsAt.ext {M : List Addr} {H H' : Hp} {as : List Addr} {ss : List Slot} (h : SlotsAt H as ss) (e : Ext M H H') : SlotsAt H' as ss := Paired.mapP h fun _ _ q => e.tup q
theorem SlotsAt.map {H : Hp} : ∀ {as : List Addr} {ss : List Slot}, SlotsAt H as ss → ss = as.map (slotAt H)
  | _, _, .nil => rfl
  | _, _, .cons h t => by rw [List.map_cons, slotAt_eq h, ← SlotsAt.map t]
theorem SlotsAt.mem {H : Hp} : ∀ {as : List Addr} {ss : List Slot}, SlotsAt H as ss → ∀ a ∈ as, H a = some (.tup (sVs (slotAt H a)))
  | _, _, .nil, a, h => nomatch h
  | _, _, .cons h t, a, m => by
    rcases List.mem_cons.mp m with m | m
    · rw [m, slotAt_eq h]; exact h
    · exact SlotsAt.mem t a m
theorem SlotsAt.of {H : Hp} : ∀ {as : List Addr}, (∀ a ∈ as, H a = some (.tup (sVs (slotAt H a)))) → SlotsAt H as (as.map (slotAt H))
  | [], _ => .nil
  | a :: as, h => .cons (h a List.mem_cons_self) (SlotsAt.of fun b m => h b (List.mem_cons_of_mem _ m))
theorem refs_list : ∀ {us : List Value}, (∀ u ∈ us, ∃ a, u = Value.ref a) → ∃ bs : List Addr, us = bs.map Value.ref
  | [], _ => ⟨[], rfl⟩
  | u :: us, h => by
    obtain ⟨bs, e⟩ := refs_list fun v m => h v (List.mem_cons_of_mem _ m)
    obtain ⟨a, ea⟩ := h u List.mem_cons_self
    exact ⟨a :: bs, by rw [ea, e]; rfl⟩
theorem vals_refs : ∀ bs : List Addr, Vals (bs.map V.ref) (bs.map Value.ref)
  | [] => .nil
  | _ :: r => .cons rfl (vals_refs r)
theorem perm_of_map {as bs : List Addr} (h : (as.map Value.ref).Perm (bs.map Value.ref)) : as.Perm bs := by
  have e := h.map fun v => match v with | Value.ref a => a | _ => 0
  rw [List.map_map, List.map_map] at e
  have id1 : ∀ l : List Addr, l.map ((fun v => match v with | Value.ref a => a | _ => 0) ∘ Value.ref) = l := fun l => by
    induction l with
    | nil => rfl
    | cons a r ih => rw [List.map_cons, ih]; rfl
  rw [id1, id1] at e
  exact e
/-- sorted(a list of slots) -/
def cSortSl (K : PySem.W.Frag) : RC := fun vs H Q => ∃ (a : Addr) (as : List Addr) (ss : List Slot), vs = [V.ref a] ∧ SqL K H a (as.map V.ref) ∧ SlotsAt H as ss ∧
  ∀ (bs : List Addr) (ts : List Slot), SlotsAt H bs ts → ts.Perm ss → ts.Pairwise (fun x y => sLt y x = false) → Alc (.lst (bs.map V.ref)) H Q
section
variable {X : Cx}
theorem zc_sortSl : CallR X (.builtin "sorted") (cSortSl X.K) := by
  intro pins s σ H vs us Q I r h
  obtain ⟨a, as, ss, rfl, hs, hx, q⟩ := h
  obtain ⟨its, rv, hl, hz⟩ := I.list hs
  obtain ⟨u, rfl, ru⟩ := vals1 r
  obtain rfl : u = Value.ref a := ru
  obtain ⟨e1, e2⟩ := refs_back rv fun x m => by
    obtain ⟨t, _, e⟩ := List.mem_map.mp m
    exact ⟨t, e.symm⟩
  let k : Value → Slot := fun v => match v with | .ref b => slotAt H b | _ => (Str.empty, 0, 0)
  have hm : ∀ b : Addr, Value.ref b ∈ its → b ∈ as := fun b m => by
    have h1 : V.ref b ∈ as.map V.ref := by rw [e1]; exact List.mem_map.mpr ⟨_, m, rfl⟩
    obtain ⟨c, hc, e⟩ := List.mem_map.mp h1
    cases e
    exact hc
  refine sorted_slots (k := k) hl.isList (by rw [← rv.length]; exact hz) (fun v hv => ?_) fun h' d out h1 h2 kp hd hn => ?_
  · obtain ⟨t, rfl⟩ := e2 v hv
    have ht := SlotsAt.mem hx t (hm t hv)
    obtain ⟨_, its2, r2, o, ho, hc, n, hd⟩ := I.hok _ _ ht
    cases r2 with
    | cons ra r2 => cases r2 with
      | cons rb r2 => cases r2 with
        | cons rc r2 =>
          cases r2
          obtain ⟨t1, rfl⟩ := ra
          obtain ⟨t2, rfl⟩ := rb
          obtain ⟨t3, rfl⟩ := rc
          exact ⟨t, o, t1, t2, t3, n, rfl, ho, hc, hd⟩
  · have h3 : ∀ u ∈ out, ∃ a, u = Value.ref a := fun u hu => e2 u (h2.mem_iff.mp hu)
    obtain ⟨n, hn⟩ := hn
    obtain ⟨bs, hb⟩ := refs_list h3
    subst hb
    obtain ⟨cs, hcs⟩ := refs_list e2
    subst hcs
    have hac : as = cs := by
      rw [List.map_map] at e1
      refine List.map_inj_right (f := V.ref) (fun x y h => V.ref.inj h) |>.mp (e1.trans ?_)
      rfl
    subst hac
    have hp : bs.Perm as := perm_of_map h2
    have hbm : ∀ b ∈ bs, H b = some (.tup (sVs (slotAt H b))) := fun b m => SlotsAt.mem hx b (hp.mem_iff.mp m)
    have hq := q bs (bs.map (slotAt H)) (SlotsAt.of hbm) (by rw [SlotsAt.map hx]; exact hp.map _) (by
      rw [List.pairwise_map]
      have h1' := List.pairwise_map.mp h1
      exact h1')
    refine ⟨.ref d, upd H d (.lst (bs.map V.ref)), I.laid (t' := s.toks) kp hd ⟨?_, _, n, vals_refs bs, hn⟩, rfl, hq d (I.hok.fresh hd)⟩
    rw [List.length_map, hp.length_eq]
    rw [List.length_map] at hz
    exact hz
end

/-! ### d.clear() of a dict with tuple keys -/
def rClearT : V → List V → Hp → VK → Prop := fun x vs H Q => ∃ (a : Addr) (kvs : List (List Key × V)), x = .ref a ∧ vs = [] ∧ H a = some (.dT kvs) ∧ Chg a (.dT []) H (Q .non)
theorem zmt_clearT {X : Cx} : MtR X "dict.clear" rClearT := by
  intro pins s σ H x vs v us Q I rx rv h
  obtain ⟨a, kvs, rfl, rfl, e, q⟩ := h
  obtain rfl : v = Value.ref a := rx
  obtain rfl := rv.zero
  obtain ⟨z, hd, xs, rel, o, es, ep, ho, hx, hdat, he, hn⟩ := I.hok _ _ e
  have raw : s.heap.DictRaw a es ep := ⟨o, ho, hx, hdat⟩
  have hz : es.size ≤ sizeLine := by
    have h1 : es.toList.length = xs.length := by rw [he, List.length_map]
    have h2 := Paired.length rel
    rw [Array.length_toList] at h1
    omega
  refine call_meetsIn PySem.F.slot_dict_clear raw.typeIs PySem.F.entry_dict_clear (PySem.F.args_dict_clear_1 _) (meets_dict_clear_raw a) ⟨es, ep, raw, hz, fun h' r' hs => ?_⟩
  obtain ⟨o', ho', hx', hd'⟩ := r'
  refine ⟨.non, _, d_write (t' := s.toks) I (by rw [e]; exact True.intro) hs ⟨o', ho'⟩ ?_, rfl, q⟩
  exact ⟨Nat.zero_le _, hd, [], .nil, o', _, _, ho', hx', hd', rfl, List.nodup_nil⟩

/-! ### {slot: e for slot in ..}: a dict comprehension whose keys are tuples -/
section
variable {X : Cx} {pins : List (Addr × Obj)} {σ : St} {H : Hp} {s : Shared}
theorem dictSet_tup {E : Value → Shared → Prop} {D b : Addr} {kvs : List (List Key × V)} {k : List Key} {v : V} {r : Value} {Q : Unit → Shared → Prop} (hu : X.A.units + 1 < cLine) (I : L2.Inv X pins σ H s) (hD : H D = some (.dT kvs)) (hb : H b = some (.tup (k.map kV))) (hz : kvs.length < sizeLine)
    (rv : RelV v r) (h : ∀ s', L2.Inv X pins σ (upd H D (.dT (putK kvs k v))) s' → Q () s') : wpAny (model X.prog X.w) X.A (dictSet D (.ref b) r) Q E s := by
  obtain ⟨z, hd, xs, rel, dd⟩ := dt_of I.hok hD
  have hxl : xs.length ≤ sizeLine := by
    have := Paired.length rel
    omega
  have hl : (putK kvs k v).length ≤ sizeLine := by
    have := length_putK kvs k v
    omega
  refine wpAny_dictSet_heap (hsz := hxl) (show X.A.units < cLine from Nat.lt_of_succ_lt hu) (key_of I.hok hb) dd fun h' dd' hs => h _ ?_
  obtain ⟨q, es, ep, hq, a2, a3, a4, _, a5⟩ := dd'
  refine d_write I (by rw [hD]; exact True.intro) hs ⟨q, hq⟩ ⟨hl, hd, _, (rel.put k hb rv).keeps fun c ys ec => ?_, q, es, ep, hq, a2, a3, a4, a5⟩
  rw [upd_ne (ne_of ec hD (fun z => by cases z))]
  exact ec
/-- D: the new dict; W, Nx as in a list comprehension's reading -/
def zDcT (wi : TI) (g : TG) (tt : TT) (tk tv : TE) (vs : List Nat) : TE := fun σ H Q => wi σ H fun J H1 => ∀ D, H1 D = none → ∃ W : Nat → Nat → Hp → Prop, (∃ m, W 0 m (upd H1 D (.dT []))) ∧
  ∀ i m H, W i m H → (J.stop i H ∧ Q (.ref D) H) ∨ (J.go i H ∧ ∃ Nx : Hp → Prop, (∀ H', Nx H' → ∃ m', m' < m ∧ W (i + 1) m' H') ∧
    ∀ x H', J.yld i H x H' → g x (wipe σ vs) H' fun σ2 H2 => wipe σ2 vs = wipe σ vs ∧ tt σ2 H2 fun b H3 =>
      if b = true then tk σ2 H3 fun y H4 => tv σ2 H4 fun z H5 => ∃ kvs k q, y = .ref q ∧ H5 q = some (.tup (k.map kV)) ∧ H5 D = some (.dT kvs) ∧ kvs.length < sizeLine ∧ Nx (upd H5 D (.dT (putK kvs k z))) else Nx H3)
abbrev AllB (X : Cx) (scope : Scope) (G : Cx → Prop) : Prop := ∀ (s : Shared) (H : Hp) (C : Addr) (cl : List (Str × Addr)) (fp : List Addr), G (X.blk s H scope (compEnvC scope cl C X.env) fp)
theorem zdc_run {Q : VK} {kx vx tg iter : Expr} {ifs : List Expr} {scope : Scope} {own : List (Str × Nat)} {pos pos' : Pos} {wi : TI} {g : TG} {tt : TT} {tk tv : TE} {use : Option (Value → Sem Unit)} {Qf : Value → Shared → Prop}
    (hu : X.A.units + 1 < cLine) (hc : X.calm = true) (hN : X.N.Nodup) (I : L2.Inv X pins σ H s) (hi : PI X tg iter wi) (ok : BlkOk X.N X.env.scope scope own)
    (hg : AllB X scope fun Y => PG Y tg g) (ht : AllB X scope fun Y => PTs Y ifs tt) (hk : AllB X scope fun Y => PE Y kx tk) (he : AllB X scope fun Y => PE Y vx tv) (hs : ∀ x, foldedSetIterable iter X.env x = pure x)
    (h : zDcT wi g tt tk tv (own.map (·.2)) σ H Q)
    (fin : ∀ D C s' m H', L2.Inv X pins σ H' s' → Q (.ref D) H' → s'.heap.Ns C m → FpOk X pins H' C → compPost (model X.prog X.w) X.A X.xe use Qf (.ref D) C (.ok .next) s') :
    wpAny (model X.prog X.w) X.A (comprehension (.DictComp kx vx [⟨tg, iter, ifs, 0⟩] scope pos) scope X.env pos' newDict false (eval iter X.env) use) Qf X.xe s := by
  have cells : ∀ y ∈ scope.names, y.2 = .free → ∃ c, X.env.cells.lookup y.1 = some c := fun y m e => I.ok.has _ ((ok.free y m e).elim .inl .inr)
  refine wpAny_comprehension_free (use := use) rfl hs (closure_ok cells) ok.kind (fun y m e => (ok.uniq y m).trans (congrArg some e)) (thn (hi.run pins s σ H _ I h) fun xv s1 hx => thn hx fun itv s2 h2 => ?_)
  obtain ⟨it, fp, tn, J, H2, rfl, I2, T, st2, f2, q⟩ := h2
  refine wpAny_newObj_type (newEnv_comp ?_)
  generalize eD : s2.heap.objs.size = D
  obtain ⟨W, ⟨m0, w0⟩, turn⟩ := q D (I2.hok.fresh (Nat.le_of_eq eD))
  generalize e3 : ({ s2 with heap := s2.heap.push { cls := .type "dict", data := .dict #[] } } : Shared) = s3
  have hp3 : s3.heap = s2.heap.push { cls := .type "dict", data := .dict #[] } := by rw [← e3]
  have I3 : L2.Inv X pins σ (upd H2 D (.dT [])) s3 := by
    rw [← e3, ← eD]
    exact I2.laid (t' := s2.toks) (fun b o e => Heap.get?_push_of_some _ e) (Nat.le_refl _) (dt_empty s2.heap I2.big)
  have old : ∀ b ∈ fp, b < s2.heap.objs.size := fun b m => (T.obj _ _ st2 b m).elim fun o x => Heap.lt_size x.1
  have f3 : ∀ b ∈ fp, FpOk X pins (upd H2 D (.dT [])) b ∧ b < s3.heap.objs.size := fun b m => by
    have lt := old b m
    refine ⟨⟨?_, (f2 b m).2⟩, ?_⟩
    · rw [upd_ne (fun z => absurd lt (by rw [eD, z]; exact Nat.lt_irrefl D))]
      exact (f2 b m).1
    · rw [hp3, Heap.size_push]
      exact Nat.lt_succ_of_lt lt
  have st3 : tn 0 s3.heap := T.keep _ _ _ st2 fun b _ o e => by rw [hp3]; exact Heap.get?_push_of_some _ e
  have I4 := block_start I3 ok hN f3
  generalize ecl : cellsFrom (s3.heap.objs.size + 1) scope.names (cloFrom X.env.cells scope.names []) = cl at I4
  have pg := hg s3 (upd H2 D (.dT [])) s3.heap.objs.size cl fp
  have pt := ht s3 (upd H2 D (.dT [])) s3.heap.objs.size cl fp
  have pk := hk s3 (upd H2 D (.dT [])) s3.heap.objs.size cl fp
  have pe := he s3 (upd H2 D (.dT [])) s3.heap.objs.size cl fp
  have gone : ∀ b ∈ fp, (upd H2 D (.dT [])) b = none := fun b m => (f3 b m).1.1
  show codeAny _ _ (.compStart (.DictComp kx vx [⟨tg, iter, ifs, 0⟩] scope pos) 0 (.ref it) (.ref D) (compEnvC scope cl s3.heap.objs.size X.env)) (compPost (model X.prog X.w) X.A X.xe use Qf (.ref D) s3.heap.objs.size) { s3 with heap := pushCells (s3.heap.push { cls := .type "dict", data := .dict #[] }) scope.names }
  generalize ece : compEnvC scope cl s3.heap.objs.size X.env = ce at I4 pg pt pk pe ⊢
  have loc : ce.locals = s3.heap.objs.size := by rw [← ece]; rfl
  generalize eH : upd H2 D (.dT []) = H3 at I3 I4 pg pt pk pe w0 gone f3
  generalize e4 : ({ s3 with heap := pushCells (s3.heap.push { cls := .type "dict", data := .dict #[] }) scope.names } : Shared) = s4 at I4 ⊢
  have st4 : tn 0 s4.heap := T.keep _ _ _ st3 fun b _ o e => by rw [← e4]; exact pushCells_keeps _ _ _ _ (Heap.get?_push_of_some _ e)
  let Y : Cx := X.blk s3 H3 scope ce fp
  have mine : ∀ {σ' : L2.St} {H' : Hp} {s' : Shared}, L2.Inv Y [] σ' H' s' → (∀ b ∈ fp, H' b = none) → ∀ b ∈ fp, FpOk Y [] H' b := fun {_ H' _} J' n b m =>
    ⟨n b m, (J'.ok.exf b m).1, J'.ok.exfs b m, .inl m, (J'.ok.exf b m).2, fun p hp => nomatch (show p ∈ ([] : List (Addr × Obj)) from hp)⟩
  have run : codeAny (model X.prog X.w) X.A (.compLoop (.DictComp kx vx [⟨tg, iter, ifs, 0⟩] scope pos) 0 (.ref it) (.ref D) ce) (compPost (model X.prog X.w) X.A X.xe use Qf (.ref D) s3.heap.objs.size) s4 := by
    refine compLoop_anyD (fun n s' => ∃ i H', L2.Inv Y [] (wipe σ (own.map (·.2))) H' s' ∧ tn i s'.heap ∧ (∀ b ∈ fp, H' b = none) ∧ W i n H') (fun n s5 => ?_) m0 ⟨0, H3, I4, st4, gone, w0⟩
    rintro ⟨i, H5, I5, st5, n5, w5⟩
    rcases turn i n H5 w5 with ⟨stop, qq⟩ | ⟨go, Nx, hNx, step⟩
    · refine thnF (T.done Y rfl rfl rfl hc i [] s5 _ H5 (fun _ _ => False) I5 (mine I5 n5) st5 stop) fun r s6 ⟨hr, I6⟩ => ?_
      subst hr
      have back : L2.Inv X pins σ H5 s6 := I3.call' (ch := fp) I6.os I6.base I6.hok I6.bare fun b m =>
        let ⟨_, x1, _, x3, x4, x5⟩ := (f3 b m).1
        ⟨x3, x1, x4, x5⟩
      have nC : H5 s3.heap.objs.size = none := loc ▸ (show H5 ce.locals = none from I6.free)
      obtain ⟨m, ns, _⟩ := I6.loc
      exact fin D s3.heap.objs.size s6 m H5 back qq (loc ▸ (show s6.heap.Ns ce.locals m from ns)) (I3.fpOk (Nat.le_refl _) nC)
    · refine thnF (T.item Y rfl rfl rfl hc i [] s5 _ H5 (fun _ _ => False) I5 (mine I5 n5) st5 go) fun r s6 ⟨u, hr, h6⟩ => ?_
      subst hr
      refine thnF h6 fun _ s7 ⟨x, H7, I7, r7, y7, st7, n7⟩ => ?_
      refine thnF (pg.run _ s7 _ H7 x u _ (I7.pinned (mine I7 n7) (T.obj _ _ st7)) r7 (step x H7 y7)) fun _ s8 ⟨σ8, H8, I8, hw8, q8⟩ => ?_
      refine thnF (pt.run _ s8 σ8 H8 _ I8 q8) fun b s9 ⟨H9, I9, q9⟩ => ?_
      have over : ∀ {s' : Shared} {H' : Hp}, L2.Inv Y ([] ++ pinsAt fp s7.heap) σ8 H' s' → Nx H' → ∃ m, m < n ∧ ∃ i H', L2.Inv Y [] (wipe σ (own.map (·.2))) H' s' ∧ tn i s'.heap ∧ (∀ b ∈ fp, H' b = none) ∧ W i m H' := fun {s' H'} J' nx => by
        obtain ⟨m', lt, w'⟩ := hNx H' nx
        have pn : ∀ b ∈ fp, ∀ o, s7.heap.get? b = some o → s'.heap.get? b = some o ∧ H' b = none := fun b m o e =>
          let z := J'.pin (b, o) (List.mem_append_right _ (List.mem_append_right _ (mem_pinsAt m e)))
          ⟨z.1, z.2.1⟩
        refine ⟨m', lt, i + 1, H', (J'.unpinned (pins := [])).weak (by rw [← hw8, wipe_length]) (fun j v e => ?_), T.keep _ _ _ st7 fun b m o e => (pn b m o e).1, fun b m => ?_, w'⟩
        · rw [← hw8] at e
          exact (wipe_some e).1
        · obtain ⟨o, e, _⟩ := T.obj _ _ st7 b m
          exact (pn b m o e).2
      cases b with
      | false =>
        simp only [Bool.false_eq_true, if_false] at q9 ⊢
        exact over I9 q9
      | true =>
        simp only [if_true] at q9 ⊢
        refine thnF (pk.run _ s9 σ8 H9 _ I9 q9) fun z1 s10 ⟨yk, H10, I10, r10, q10⟩ => ?_
        refine thnF (pe.run _ s10 σ8 H10 _ I10 q10) fun z2 s11 ⟨yv, H11, I11, r11, kvs, k, b2, ek, hb2, hD, hz, nx⟩ => ?_
        subst ek
        obtain rfl : z1 = Value.ref b2 := r10
        exact dictSet_tup (X := Y) hu I11 hD hb2 hz r11 fun s12 I12 => over I12 nx
  exact codeAny_compStart_dict run (T.self X.A 0 _ _ _ st4 run)
theorem zpe_dcT {kx vx tg iter : Expr} {ifs : List Expr} {scope : Scope} {own : List (Str × Nat)} {pos : Pos} {wi : TI} {g : TG} {tt : TT} {tk tv : TE} (hu : X.A.units + 1 < cLine) (hc : X.calm = true) (hN : X.N.Nodup) (hi : PI X tg iter wi) (ok : BlkOk X.N X.env.scope scope own)
    (hg : AllB X scope fun Y => PG Y tg g) (ht : AllB X scope fun Y => PTs Y ifs tt) (hk : AllB X scope fun Y => PE Y kx tk) (he : AllB X scope fun Y => PE Y vx tv) (hs : ∀ x, foldedSetIterable iter X.env x = pure x := by intro _; rfl) :
    PE X (.DictComp kx vx [⟨tg, iter, ifs, 0⟩] scope pos) (zDcT wi g tt tk tv (own.map (·.2))) := by
  refine ⟨fun pins s σ H Q I h => ?_⟩
  rw [arm_eval_DictComp]
  refine zdc_run hu hc hN I hi ok hg ht hk he hs h fun D C s' m H' I' q ns f => ⟨m, ns, fun h2 sb => ?_⟩
  obtain ⟨y0, y1, _, y3, y4, y5⟩ := f
  exact ⟨.ref D, H', I'.turned (t' := s'.toks) (fun b o hb e => (sb.2 b hb).trans e) y0 y1 y3 y4 y5, rfl, q⟩
end
end Zk

set_option Elab.async false
set_option linter.all false
set_option maxRecDepth 100000
set_option maxHeartbeats 4000000
namespace Zk
open PySem PySem.Spec L2
open PyProof.Rows hiding St

/-! ### data that do not change: flat ones and tuples of such -/
mutual
inductive Im (H : Hp) : V → PyData → Prop
  | non : Im H .non .none
  | bl (b : Bool) : Im H (.bl b) (.bool b)
  | int (i : Int) : Im H (.int i) (.int i)
  | str (x : Str) : Im H (.str x) (.str x)
  | tup {a : Addr} {xs : List V} {ds : List PyData} : H a = some (.tup xs) → xs.length ≤ 1000 → ImAll H xs ds → Im H (.ref a) (.tuple ds)
inductive ImAll (H : Hp) : List V → List PyData → Prop
  | nil : ImAll H [] []
  | cons {v : V} {vs : List V} {d : PyData} {ds : List PyData} : Im H v d → ImAll H vs ds → ImAll H (v :: vs) (d :: ds)
end
mutual
theorem Im.go {H H' : Hp} (e : ∀ a xs, H a = some (.tup xs) → H' a = some (.tup xs)) : ∀ (d : PyData) (v : V), Im H v d → Im H' v d
  | .none, _, .non => .non
  | .bool _, _, .bl b => .bl b
  | .int _, _, .int i => .int i
  | .str _, _, .str x => .str x
  | .tuple ds, _, .tup h l k => .tup (e _ _ h) l (ImAll.go e ds _ k)
theorem ImAll.go {H H' : Hp} (e : ∀ a xs, H a = some (.tup xs) → H' a = some (.tup xs)) : ∀ (ds : List PyData) (vs : List V), ImAll H vs ds → ImAll H' vs ds
  | [], _, .nil => .nil
  | d :: ds, _, .cons h k => .cons (Im.go e d _ h) (ImAll.go e ds _ k)
end
theorem Im.ext {M : List Addr} {H H' : Hp} {v : V} {d : PyData} (h : Im H v d) (e : Ext M H H') : Im H' v d := Im.go (fun _ _ q => e.tup q) d v h
theorem ImAll.ext {M : List Addr} {H H' : Hp} {v : List V} {d : List PyData} (h : ImAll H v d) (e : Ext M H H') : ImAll H' v d := ImAll.go (fun _ _ q => e.tup q) d v h
theorem Im.lk {p : Addr} {u : HO} {od : Obj} {H H' : Hp} {v : V} {d : PyData} (h : Im H v d) (e : Lk p u od H H') : Im H' v d := Im.go (fun _ _ q => e.tup q) d v h
mutual
theorem Im.dp {K : PySem.W.Frag} {H : Hp} : ∀ (d : PyData) (v : V), Im H v d → Dp K H v d
  | .none, _, .non => .non
  | .bool _, _, .bl b => .bl b
  | .int _, _, .int i => .int i
  | .str _, _, .str x => .str x
  | .tuple ds, _, .tup h _ k => .tup (sqt h) (ImAll.dp ds _ k)
theorem ImAll.dp {K : PySem.W.Frag} {H : Hp} : ∀ (ds : List PyData) (vs : List V), ImAll H vs ds → DpAll K H vs ds
  | [], _, .nil => .nil
  | d :: ds, _, .cons h k => .cons (Im.dp d _ h) (ImAll.dp ds _ k)
end
theorem ImAll.len {H : Hp} : ∀ {vs : List V} {ds : List PyData}, ImAll H vs ds → vs.length = ds.length
  | _, _, .nil => rfl
  | _, _, .cons _ k => congrArg (· + 1) k.len
theorem ImAll.at {H : Hp} : ∀ {vs : List V} {ds : List PyData} {i : Nat} {d : PyData}, ImAll H vs ds → ds[i]? = some d → ∃ v, vs[i]? = some v ∧ Im H v d
  | _, _, 0, _, .cons h _, e => by cases e; exact ⟨_, rfl, h⟩
  | _, _, i + 1, _, .cons _ k, e => ImAll.at (i := i) k e
theorem ImAll.at' {H : Hp} : ∀ {vs : List V} {ds : List PyData} {i : Nat} {v : V}, ImAll H vs ds → vs[i]? = some v → ∃ d, ds[i]? = some d ∧ Im H v d
  | _, _, 0, _, .cons h _, e => by cases e; exact ⟨_, rfl, h⟩
  | _, _, i + 1, _, .cons _ k, e => ImAll.at' (i := i) k e
theorem ImAll.snoc {H : Hp} {v : V} {d : PyData} (h : Im H v d) : ∀ {vs : List V} {ds : List PyData}, ImAll H vs ds → ImAll H (vs ++ [v]) (ds ++ [d])
  | _, _, .nil => .cons h .nil
  | _, _, .cons g k => .cons g (ImAll.snoc h k)
theorem Im.tupE {H : Hp} {v : V} {ds : List PyData} (h : Im H v (.tuple ds)) : ∃ a xs, v = .ref a ∧ H a = some (.tup xs) ∧ ImAll H xs ds := by
  cases h with
  | tup h _ k => exact ⟨_, _, rfl, h, k⟩
/-- an equation of data -/
theorem w_eqD {K : PySem.W.Frag} {H : Hp} {Q : VK} {x y : V} {d e : PyData} (hx : Im H x d) (hy : Im H y e) (sd : SeqAt.shaped d = true) (se : SeqAt.shaped e = true) (q : Q (.bl (PyData.eqv d e)) H) : rEqD K x y H Q := ⟨d, e, hx.dp, hy.dp, sd, se, q⟩
theorem w_neD {K : PySem.W.Frag} {H : Hp} {Q : VK} {x y : V} {d e : PyData} (hx : Im H x d) (hy : Im H y e) (sd : SeqAt.shaped d = true) (se : SeqAt.shaped e = true) (q : Q (.bl (!PyData.eqv d e)) H) : rNeD K x y H Q := ⟨d, e, hx.dp, hy.dp, sd, se, q⟩

/-! ### dicts whose keys are slots, read as functions -/
def ORel (H : Hp) : Option V → Option PyData → Prop
  | none, none => True
  | some v, some d => Im H v d
  | _, _ => False
theorem ORel.ext {M : List Addr} {H H' : Hp} {x : Option V} {y : Option PyData} (h : ORel H x y) (e : Ext M H H') : ORel H' x y := by
  cases x <;> cases y
  · exact h
  · exact h
  · exact h
  · exact Im.ext h e
theorem ORel.lk {p : Addr} {u : HO} {od : Obj} {H H' : Hp} {x : Option V} {y : Option PyData} (h : ORel H x y) (e : Lk p u od H H') : ORel H' x y := by
  cases x <;> cases y
  · exact h
  · exact h
  · exact h
  · exact Im.lk h e
theorem ORel.some {H : Hp} {x : Option V} {d : PyData} (h : ORel H x (Option.some d)) : ∃ v, x = Option.some v ∧ Im H v d := by
  cases x with
  | none => exact h.elim
  | some v => exact ⟨v, rfl, h⟩
theorem ORel.none {H : Hp} {x : Option V} (h : ORel H x Option.none) : x = Option.none := by
  cases x with
  | none => rfl
  | some v => exact h.elim
theorem ORel.iss {H : Hp} {x : Option V} {y : Option PyData} (h : ORel H x y) : x.isSome = y.isSome := by
  cases x <;> cases y <;> first | rfl | exact h.elim
abbrev Fd := Slot → Option PyData
structure DMk (U : List Slot) (H : Hp) (kvs : List (List Key × V)) (ks : List Slot) (f : Fd) : Prop where
  keys : kvs.map (·.1) = ks.map sKey
  nd : ks.Nodup
  sub : ∀ s ∈ ks, s ∈ U
  val : ∀ s, ORel H (valV kvs (sKey s)) (f s)
theorem DMk.ext {U : List Slot} {M : List Addr} {H H' : Hp} {kvs : List (List Key × V)} {ks : List Slot} {f : Fd} (h : DMk U H kvs ks f) (e : Ext M H H') : DMk U H' kvs ks f := ⟨h.keys, h.nd, h.sub, fun s => (h.val s).ext e⟩
theorem DMk.lk {U : List Slot} {p : Addr} {u : HO} {od : Obj} {H H' : Hp} {kvs : List (List Key × V)} {ks : List Slot} {f : Fd} (h : DMk U H kvs ks f) (e : Lk p u od H H') : DMk U H' kvs ks f := ⟨h.keys, h.nd, h.sub, fun s => (h.val s).lk e⟩
theorem val_mem {kvs : List (List Key × V)} {k : List Key} : (valV kvs k).isSome = true ↔ k ∈ kvs.map (·.1) := by
  rw [← valV_any, List.any_eq_true]
  constructor
  · rintro ⟨p, hp, e⟩
    exact List.mem_map.mpr ⟨p, hp, of_decide_eq_true e⟩
  · intro h
    obtain ⟨p, hp, e⟩ := List.mem_map.mp h
    exact ⟨p, hp, decide_eq_true e⟩
theorem DMk.mem {U : List Slot} {H : Hp} {kvs : List (List Key × V)} {ks : List Slot} {f : Fd} (h : DMk U H kvs ks f) {s : Slot} : s ∈ ks ↔ (f s).isSome = true := by
  rw [← (h.val s).iss, val_mem, h.keys, List.mem_map]
  constructor
  · intro m; exact ⟨s, m, rfl⟩
  · rintro ⟨t, m, e⟩; rw [← sKey_inj e]; exact m
theorem DMk.len {U : List Slot} {H : Hp} {kvs : List (List Key × V)} {ks : List Slot} {f : Fd} (h : DMk U H kvs ks f) : kvs.length = ks.length := by
  have := congrArg List.length h.keys
  rwa [List.length_map, List.length_map] at this
theorem DMk.small {U : List Slot} {H : Hp} {kvs : List (List Key × V)} {ks : List Slot} {f : Fd} (h : DMk U H kvs ks f) (hU : U.length ≤ 1000) : kvs.length ≤ 1000 := by
  rw [h.len]; exact Nat.le_trans (nodup_len h.nd h.sub) hU
theorem DMk.at {U : List Slot} {H : Hp} {kvs : List (List Key × V)} {ks : List Slot} {f : Fd} (h : DMk U H kvs ks f) {i : Nat} {k : List Key} {v : V} (e : kvs[i]? = some (k, v)) : ∃ s d, ks[i]? = some s ∧ k = sKey s ∧ f s = some d ∧ valV kvs k = some v ∧ Im H v d := by
  have e1 : (kvs.map (·.1))[i]? = some k := by rw [List.getElem?_map, e]; rfl
  rw [h.keys, List.getElem?_map] at e1
  cases q : ks[i]? with
  | none => rw [q] at e1; cases e1
  | some s =>
    rw [q] at e1
    have e2 : sKey s = k := Option.some.inj e1
    have m : s ∈ ks := List.mem_of_getElem? q
    have m2 := h.mem.mp m
    obtain ⟨d, hd⟩ := Option.isSome_iff_exists.mp m2
    have o := h.val s
    rw [hd, e2] at o
    obtain ⟨v', hv, im⟩ := o.some
    have nk : (kvs.map (·.1)).Nodup := by
      rw [h.keys]
      exact List.pairwise_map.mpr (h.nd.imp fun hn e => hn (sKey_inj e))
    have hv2 : valV kvs k = some v := by
      clear hv im o hd m2 m e2 q e1 h
      induction kvs generalizing i with
      | nil => simp at e
      | cons p r ih =>
        cases i with
        | zero =>
          have : p = (k, v) := Option.some.inj e
          subst this
          exact valV_pos rfl
        | succ i =>
          have e' : r[i]? = some (k, v) := e
          have km : k ∈ r.map (·.1) := List.mem_map.mpr ⟨_, List.mem_of_getElem? e', rfl⟩
          rw [List.map_cons, List.nodup_cons] at nk
          rw [valV_neg (fun z => nk.1 (z ▸ km))]
          exact ih e' nk.2
    rw [hv] at hv2
    cases hv2
    exact ⟨s, d, rfl, e2.symm, hd, hv, im⟩
/-- a dict of slots in use; one that may be locked -/
def DM (U : List Slot) (H : Hp) (p : Addr) (f : Fd) : Prop := ∃ kvs ks, H p = some (.dT kvs) ∧ DMk U H kvs ks f
def DR (U : List Slot) (H : Hp) (p : Addr) (f : Fd) : Prop := ∃ kvs ks, Rd H p (.dT kvs) ∧ DMk U H kvs ks f
theorem DM.dr {U : List Slot} {H : Hp} {p : Addr} {f : Fd} : DM U H p f → DR U H p f := fun ⟨kvs, ks, h, k⟩ => ⟨kvs, ks, .inl h, k⟩
theorem DM.ext {U : List Slot} {M : List Addr} {H H' : Hp} {p : Addr} {f : Fd} (h : DM U H p f) (e : Ext M H H') (n : p ∉ M) : DM U H' p f := by
  obtain ⟨kvs, ks, h, k⟩ := h
  exact ⟨kvs, ks, e.keep _ _ h n, k.ext e⟩
theorem DR.ext {U : List Slot} {M : List Addr} {H H' : Hp} {p : Addr} {f : Fd} (h : DR U H p f) (e : Ext M H H') (n : p ∉ M) : DR U H' p f := by
  obtain ⟨kvs, ks, h, k⟩ := h
  rcases h with h | ⟨o, h⟩
  · exact ⟨kvs, ks, .inl (e.keep _ _ h n), k.ext e⟩
  · exact ⟨kvs, ks, .inr ⟨o, e.imm _ _ h trivial⟩, k.ext e⟩
theorem DR.lk {U : List Slot} {H H' : Hp} {p q : Addr} {u : HO} {od : Obj} {f : Fd} (h : DR U H p f) (e : Lk q u od H H') : DR U H' p f := by
  obtain ⟨kvs, ks, h, k⟩ := h
  rcases h with h | ⟨o, h⟩
  · by_cases z : p = q
    · subst z
      have := e.was
      rw [h] at this
      cases this
      exact ⟨kvs, ks, .inr ⟨od, e.at⟩, k.lk e⟩
    · exact ⟨kvs, ks, .inl (e.keep h z), k.lk e⟩
  · exact ⟨kvs, ks, .inr ⟨o, e.frz h⟩, k.lk e⟩
theorem DM.lk {U : List Slot} {H H' : Hp} {p q : Addr} {u : HO} {od : Obj} {f : Fd} (h : DM U H p f) (e : Lk q u od H H') (n : p ≠ q) : DM U H' p f := by
  obtain ⟨kvs, ks, h, k⟩ := h
  exact ⟨kvs, ks, e.keep h n, k.lk e⟩
theorem DM.ne {U : List Slot} {H : Hp} {p q : Addr} {f : Fd} (h : DM U H p f) (n : H q = none) : p ≠ q := by
  obtain ⟨kvs, ks, h, k⟩ := h
  exact ne_of_none h n
theorem DR.ne {U : List Slot} {H : Hp} {p q : Addr} {f : Fd} (h : DR U H p f) (n : H q = none) : p ≠ q := by
  obtain ⟨kvs, ks, h, k⟩ := h
  rcases h with h | ⟨o, h⟩ <;> exact ne_of_none h n
theorem DM.nil {U : List Slot} {H : Hp} {p : Addr} (h : H p = some (.dT [])) : DM U H p fun _ => none := ⟨[], [], h, ⟨rfl, List.nodup_nil, fun _ m => (nomatch m), fun _ => trivial⟩⟩
theorem DM.congr {U : List Slot} {H : Hp} {p : Addr} {f g : Fd} (h : DM U H p f) (e : ∀ s, f s = g s) : DM U H p g := by rw [← funext e]; exact h
theorem DM.fsub {U : List Slot} {H : Hp} {p : Addr} {f : Fd} (h : DM U H p f) {s : Slot} (e : (f s).isSome = true) : s ∈ U := by
  obtain ⟨kvs, ks, h, k⟩ := h
  exact k.sub _ (k.mem.mpr e)
theorem DR.fsub {U : List Slot} {H : Hp} {p : Addr} {f : Fd} (h : DR U H p f) {s : Slot} (e : (f s).isSome = true) : s ∈ U := by
  obtain ⟨kvs, ks, h, k⟩ := h
  exact k.sub _ (k.mem.mpr e)
def putF (f : Fd) (s : Slot) (d : PyData) : Fd := fun t => if t = s then some d else f t
theorem DMk.put {U : List Slot} {H : Hp} {kvs : List (List Key × V)} {ks : List Slot} {f : Fd} (h : DMk U H kvs ks f) {s : Slot} (m : s ∈ U) {v : V} {d : PyData} (i : Im H v d) : ∃ ks', DMk U H (putK kvs (sKey s) v) ks' (putF f s d) := by
  have hv : ∀ t, ORel H (valV (putK kvs (sKey s) v) (sKey t)) (putF f s d t) := fun t => by
    rw [valV_put]
    unfold putF
    by_cases e : t = s
    · subst e; rw [if_pos rfl, if_pos rfl]; exact i
    · rw [if_neg e, if_neg (fun z => e (sKey_inj z))]; exact h.val t
  by_cases hs : s ∈ ks
  · refine ⟨ks, ?_, h.nd, h.sub, hv⟩
    have : (kvs.any fun kv => decide (kv.1 = sKey s)) = true := by
      rw [valV_any, val_mem, h.keys]; exact List.mem_map.mpr ⟨s, hs, rfl⟩
    unfold putK
    rw [this, if_pos rfl, List.map_map, ← h.keys]
    refine List.map_congr_left fun p _ => ?_
    show (if p.1 = sKey s then (p.1, v) else p).1 = p.1
    by_cases z : p.1 = sKey s
    · rw [if_pos z]
    · rw [if_neg z]
  · have no : valV kvs (sKey s) = none := by
      have := fun z => hs (h.mem.mpr z)
      rw [← (h.val s).iss] at this
      exact Option.not_isSome_iff_eq_none.mp this
    refine ⟨ks ++ [s], ?_, ?_, fun t mt => ?_, hv⟩
    · rw [putK_new v no, List.map_append, List.map_append, h.keys]; rfl
    · rw [List.nodup_append]
      refine ⟨h.nd, List.nodup_cons.mpr ⟨fun z => (nomatch z), List.nodup_nil⟩, fun a ha b hb e => ?_⟩
      subst e
      rw [List.mem_singleton.mp hb] at ha
      exact hs ha
    · rcases List.mem_append.mp mt with z | z
      · exact h.sub t z
      · rw [List.mem_singleton.mp z]; exact m
/-! readings of such dicts -/
section
variable {U : List Slot} {K : PySem.W.Frag} {σ : St} {H : Hp} {Q : VK} {a b p q : Addr} {f g : Fd} {s : Slot} {v : V}
theorem dgetT {kvs : List (List Key × V)} (h : Rd H a (.dT kvs)) (eb : H b = some (.tup (sVs s))) : DGet H a (.ref b) (valV kvs (sKey s)) := .inr ⟨kvs, sKey s, b, h, rfl, eb, rfl⟩
theorem w_dgetT {d : PyData} {P : V → Prop} (h : DR U H a f) (eb : H b = some (.tup (sVs s))) (e : f s = some d) (k : ∀ v, Im H v d → P v) : ∃ c v, V.ref a = .ref c ∧ DGet H c (.ref b) (some v) ∧ P v := by
  obtain ⟨kvs, ks, h, m⟩ := h
  have o := m.val s
  rw [e] at o
  obtain ⟨v, hv, i⟩ := o.some
  exact ⟨a, v, rfl, hv ▸ dgetT h eb, k v i⟩
theorem w_dinT {P : Option V → Prop} (h : DR U H a f) (eb : H b = some (.tup (sVs s))) (k : ∀ o, o.isSome = (f s).isSome → P o) : ∃ c o, V.ref a = .ref c ∧ DGet H c (.ref b) o ∧ P o := by
  obtain ⟨kvs, ks, h, m⟩ := h
  exact ⟨a, _, rfl, dgetT h eb, k _ (m.val s).iss⟩
theorem w_get1 {te : TE} {ty : TE} (h : te σ H fun x H1 => ∃ a, x = .ref a ∧ IsD H1 a ∧ ty σ H1 fun y H2 => ∃ o, DGet H2 a y o ∧ Q (o.getD .non) H2) : tDGet1 te ty σ H Q := h
theorem w_isD {P : Addr → Prop} (h : DR U H a f) (k : P a) : ∃ c, V.ref a = .ref c ∧ IsD H c ∧ P c := by
  obtain ⟨kvs, ks, h, m⟩ := h
  exact ⟨a, rfl, .inr ⟨kvs, h⟩, k⟩
theorem w_get1T {P : Option V → Prop} (h : DR U H a f) (eb : H b = some (.tup (sVs s))) (k : ∀ o, Im H (o.getD .non) ((f s).getD .none) → P o) : ∃ o, DGet H a (.ref b) o ∧ P o := by
  obtain ⟨kvs, ks, h, m⟩ := h
  refine ⟨_, dgetT h eb, k _ ?_⟩
  have o := m.val s
  revert o
  cases valV kvs (sKey s) <;> cases f s <;> intro o
  · exact .non
  · exact o.elim
  · exact o.elim
  · exact o
theorem w_dputT {N : Hp → Prop} {d : PyData} (hU : U.length ≤ 1000) (h : DM U H a f) (eb : H b = some (.tup (sVs s))) (m : s ∈ U) (i : Im H v d) (k : ∀ H', Ext [a] H H' → DM U H' a (putF f s d) → N H') :
    ∃ c H4, V.ref a = .ref c ∧ DPut H c (.ref b) v H4 ∧ N H4 := by
  obtain ⟨kvs, ks, h, w⟩ := h
  have eb' : H b = some (.tup ((sKey s).map kV)) := eb
  have e : Ext [a] H (upd H a (.dT (putK kvs (sKey s) v))) := Ext.mut h (fun z => z) (List.mem_singleton.mpr rfl)
  refine ⟨a, _, rfl, DPut.t (k := sKey s) h eb' (szl (Nat.lt_of_le_of_lt (w.small hU) (by decide))), k _ e ?_⟩
  obtain ⟨ks', w'⟩ := w.put m i
  exact ⟨_, ks', upd_same, w'.ext e⟩
/-- len of a list, a tuple, a dict with tuple keys -/
def cLenX (K : PySem.W.Frag) : RC := fun xs H Q => cLen K xs H Q ∨ ∃ p kvs, xs = [V.ref p] ∧ H p = some (.dT kvs) ∧ Q (.int kvs.length) H
theorem zc_lenX {X : Cx} : CallR X (.builtin "len") (cLenX X.K) := by
  intro pins s σ H vs us Q I r h
  rcases h with h | ⟨p, kvs, e, hp, q⟩
  · exact zc_len pins s σ H vs us Q I r h
  · exact call_len_dT pins s σ H vs us Q I r ⟨p, kvs, e, hp, q⟩
/-- list(d), d a dict of slots -/
def cListT : RC := fun xs H Q => ∃ d kvs, xs = [V.ref d] ∧ Rd H d (.dT kvs) ∧ ∀ bs, IsKeys H kvs bs → Alc (.lst (bs.map V.ref)) H Q
theorem zc_listT {X : Cx} (hc : X.calm = true) : CallR X (.type "list") cListT := by
  intro pins s σ H vs us Q I r h
  obtain ⟨d, kvs, e, hd, q⟩ := h
  exact call_list_dT hc pins s σ H vs us Q I r ⟨d, kvs, e, hd, fun p bs np ib => q bs ib p np⟩
theorem DMk.slots {kvs : List (List Key × V)} {ks : List Slot} {bs : List Addr} (m : DMk U H kvs ks f) (i : IsKeys H kvs bs) : SlotsAt H bs ks := by
  have e := m.keys
  clear m
  unfold IsKeys at i
  unfold SlotsAt
  induction i generalizing ks with
  | nil => cases ks with
    | nil => exact .nil
    | cons s r => cases e
  | cons h t ih => cases ks with
    | nil => cases e
    | cons s r =>
      injection e with e1 e2
      refine .cons ?_ (ih e2)
      show _ = some (HO.tup (sVs s))
      rw [h]
      have e1' : _ = sKey s := e1
      rw [← sKey_vs, ← e1']
theorem w_listT {P : V → Hp → Prop} (h : DR U H a f) (k : ∀ p bs ks H', Ext [] H H' → H p = none → H' p = some (.lst (bs.map V.ref)) → SlotsAt H' bs ks → ks.Nodup → (∀ s, s ∈ ks ↔ (f s).isSome = true) → ks.length ≤ U.length → P (.ref p) H') : cListT [.ref a] H P := by
  obtain ⟨kvs, ks, h, m⟩ := h
  refine ⟨a, kvs, rfl, h, fun bs ib => w_alc fun p H' e n hp => ?_⟩
  exact k p bs ks H' e n hp ((m.slots ib).ext e) m.nd (fun s => m.mem) (nodup_len m.nd m.sub)
/-- sorted(d), d a dict of slots; the dict is not changed by it -/
def cSortT (K : PySem.W.Frag) : RC := fun vs H Q => cSortSl K vs H Q ∨ ∃ (d : Addr) (kvs : List (List Key × V)) (ks : List Slot), vs = [V.ref d] ∧ Rd H d (.dT kvs) ∧ kvs.map (·.1) = ks.map sKey ∧
  ∀ (bs : List Addr) (ts : List Slot), SlotsAt H bs ts → ts.Perm ks → ts.Pairwise (fun x y => sLt y x = false) → Alc (.lst (bs.map V.ref)) H Q
theorem SlotsAt.vals {X : Cx} {pins : List (Addr × Obj)} {s : Shared} (I : L2.Inv X pins σ H s) {as : List Addr} {ss : List Slot} (hx : SlotsAt H as ss) {h' : Heap} (kp : ∀ b o, s.heap.get? b = some o → h'.get? b = some o) :
    ∀ v ∈ as.map Value.ref, IsSlotV h' v (match v with | .ref b => slotAt H b | _ => (Str.empty, 0, 0)) := by
  intro v hv
  obtain ⟨t, ht, rfl⟩ := List.mem_map.mp hv
  obtain ⟨_, its2, r2, o, ho, hc, n, hd⟩ := I.hok _ _ (SlotsAt.mem hx t ht)
  cases r2 with
  | cons ra r2 => cases r2 with
    | cons rb r2 => cases r2 with
      | cons rc r2 =>
        cases r2
        obtain ⟨t1, rfl⟩ := ra
        obtain ⟨t2, rfl⟩ := rb
        obtain ⟨t3, rfl⟩ := rc
        exact ⟨t, o, t1, t2, t3, n, rfl, kp _ _ ho, hc, hd⟩
theorem zc_sortT {X : Cx} (hc : X.calm = true) : CallR X (.builtin "sorted") (cSortT X.K) := by
  intro pins s σ H vs us Q I r h
  rcases h with h | ⟨d, kvs, ks, rfl, hd, hk, q⟩
  · exact zc_sortSl pins s σ H vs us Q I r h
  obtain ⟨u, rfl, rx⟩ := r.one
  cases rx
  obtain ⟨z, hs, ys, pr, o, es, ep, ho, hx, hdt, he, hn⟩ := (show ObjOk X.prog X.w H s.heap d (.dT kvs) from hd.ok I.hok)
  have l1 : es.size = ys.length := size_of_entries he
  have l2 : kvs.length = ys.length := Paired.length pr
  refine Calls.call_function_entry PyProof.Rows.kind_sorted PyProof.Rows.plain_sorted PyProof.Rows.entry_sorted (PyProof.Rows.args_sorted1 _) ?_
  unfold Builtin.«sorted»
  refine wpAny_bind (m := checkCount "sorted" 1 1 _) (wpAny_pure ?_)
  refine wpAny_bind (PySem.W.kdu_collect (A := X.A.in1) (kdl_raw hs hx hdt) (I.ok.hd hc) ho (by omega) fun h' tk acc' kp it => ?_)
  have ea : acc'.toList = ys.map fun x => Value.ref x.2.1 := by
    have hl : acc'.toList.length = ys.length := by rw [Array.length_toList, it.1]; exact l1
    apply List.ext_getElem?
    intro j
    rw [List.getElem?_map]
    cases hj : acc'.toList[j]? with
    | none =>
      have h1 := List.getElem?_eq_none_iff.mp hj
      rw [List.getElem?_eq_none (by omega)]
      all_goals rfl
    | some v =>
      obtain ⟨en, hen, hv⟩ := it.2 j v (by rw [← Array.getElem?_toList]; exact hj)
      have qe := entry_at he j
      rw [hen] at qe
      cases hb : ys[j]? with
      | none =>
        rw [hb] at qe
        exact nomatch (show some en = none from qe)
      | some b =>
        rw [hb] at qe
        have e2 : en = entryOfKey (tupleKind (mixKind X.prog X.w)) b := Option.some.inj qe
        rw [hv, e2]
        all_goals rfl
  have eb : acc'.toList = (ys.map fun x => x.2.1).map Value.ref := by rw [ea, List.map_map]; all_goals rfl
  have ik := isKeys_of pr
  generalize (ys.map fun x => x.2.1) = as at eb ik
  have hx2 : SlotsAt H as ks := by
    have e := hk
    clear q hd hx pr l2 ho he hn z hk
    unfold IsKeys at ik
    unfold SlotsAt
    clear eb ea
    induction ik generalizing ks with
    | nil => cases ks with
      | nil => exact .nil
      | cons s r => cases e
    | cons h t ih => cases ks with
      | nil => cases e
      | cons s r =>
        injection e with e1 e2
        refine .cons ?_ (ih (ks := r) e2)
        show _ = some (HO.tup (sVs s))
        rw [h]
        have e1' : _ = sKey s := e1
        rw [← sKey_vs, ← e1']
  have lz : (as.map Value.ref).length ≤ sizeLine := by
    rw [← eb, Array.length_toList, it.1, l1]; omega
  have I1 : L2.Inv X pins σ H { s with heap := h', toks := tk } := I.kept kp
  rw [eb]
  refine wpAny_bind (wpAny_newList ?_ lz)
  have hoL : (h'.push (seqObj "list" (as.map Value.ref).toArray 0)).get? h'.objs.size = some (seqObj "list" (as.map Value.ref).toArray 0) := Heap.get?_push_size _ rfl
  show wpAny _ _ _ _ _ { s with heap := h'.push (seqObj "list" (as.map Value.ref).toArray 0), toks := tk }
  let k : Value → Slot := fun v => match v with | .ref b => slotAt H b | _ => (Str.empty, 0, 0)
  refine wpAny_bind (wpAny_holding (wpAny_call_entry PyProof.Rows.slot_list_sort ⟨_, hoL, rfl⟩ PyProof.Rows.entry_list_sort
    (SrtO.list_sort_ord (s := { s with heap := h'.push (seqObj "list" (as.map Value.ref).toArray 0), toks := tk }) (sLt_swo k) hoL lz (fun h2 => slots_able (by omega) (SlotsAt.vals I hx2 fun b o e => Heap.get?_push_of_some _ (kp b o e)) fun o e c => ?_) fun out h1 hb => ⟨_, rfl, ?_⟩) (PyProof.Rows.args_list_sort _)))
  · rw [hoL] at e
    cases e
    exact absurd (Value.type.inj c) (by decide)
  have h2 := hb.perm
  obtain ⟨e', he'⟩ := PyProof.Rows.sortedHeap_at (vs := as.map Value.ref) (out := out.toArray) hoL
  obtain ⟨bs, hbs⟩ := refs_list (us := out) fun u hu => by
    obtain ⟨t, _, e⟩ := List.mem_map.mp (h2.mem_iff.mp hu)
    exact ⟨t, e.symm⟩
  subst hbs
  have hp : bs.Perm as := perm_of_map h2
  have hbm : ∀ b ∈ bs, H b = some (.tup (sVs (slotAt H b))) := fun b m => SlotsAt.mem hx2 b (hp.mem_iff.mp m)
  have hq := q bs (bs.map (slotAt H)) (SlotsAt.of hbm) (by rw [SlotsAt.map hx2]; exact hp.map _) (by
    rw [List.pairwise_map]
    exact List.pairwise_map.mp h1)
  refine wpAny_pure ⟨_, rfl, .ref h'.objs.size, upd H h'.objs.size (.lst (bs.map V.ref)), I1.laid (t' := tk) (fun b u e => ?_) (Nat.le_refl _)
    (show ObjOk X.prog X.w _ _ _ (.lst (bs.map V.ref)) from ⟨?_, bs.map Value.ref, e', vals_refs bs, he'⟩), rfl, hq _ (I1.hok.fresh (Nat.le_refl _))⟩
  · have hb : b < h'.objs.size := Heap.lt_size e
    rw [PyProof.Rows.sortedHeap_old (Nat.ne_of_lt hb) (by rw [size_push']; exact Nat.lt_succ_of_lt hb)]
    exact Heap.get?_push_of_some _ e
  · rw [List.length_map, hp.length_eq]
    rw [List.length_map] at lz
    exact lz
end
end Zk

set_option Elab.async false
set_option linter.all false
set_option maxRecDepth 100000
set_option maxHeartbeats 4000000
namespace Zk
open PySem PySem.Spec L2
open PyProof.Rows hiding St

theorem depthAll_mem {d : PyData} : ∀ {ds : List PyData}, d ∈ ds → d.depth ≤ PyData.depthAll ds
  | x :: xs, h => by
    rw [PyData.depthAll]
    rcases List.mem_cons.mp h with h | h
    · rw [h]; exact Nat.le_max_left _ _
    · exact Nat.le_trans (depthAll_mem h) (Nat.le_max_right _ _)
theorem depth_tup (ds : List PyData) : (PyData.tuple ds).depth = PyData.depthAll ds + 1 := by rw [PyData.depth]
/-- two that are told to be the same: data of the same form, lists of such, dicts of slots that are the same functions -/
def Sm (U : List Slot) : Nat → Hp → V → V → Prop
  | 0, _, _, _ => False
  | n + 1, H, a, b => (∃ d, d.depth ≤ n ∧ Im H a d ∧ Im H b d) ∨ (∃ p q xs ys, a = .ref p ∧ b = .ref q ∧ H p = some (.lst xs) ∧ H q = some (.lst ys) ∧ xs.length ≤ 1000 ∧ Paired (Sm U n H) xs ys) ∨
    (3 ≤ n ∧ U.length ≤ 1000 ∧ ∃ p q f, a = .ref p ∧ b = .ref q ∧ DM U H p f ∧ DM U H q f ∧ ∀ s d, f s = some d → d.depth < n)
theorem Sm.im {U : List Slot} {n : Nat} {H : Hp} {a b : V} {d : PyData} (l : d.depth < n) (h : Im H a d) (k : Im H b d) : Sm U n H a b := by
  cases n with
  | zero => omega
  | succ n => exact .inl ⟨d, by omega, h, k⟩
theorem Sm.ext {U : List Slot} {H H' : Hp} (e : Ext [] H H') : ∀ {n : Nat} {a b : V}, Sm U n H a b → Sm U n H' a b
  | 0, _, _, h => h
  | n + 1, a, b, h => by
    rcases h with ⟨d, l, i, j⟩ | ⟨p, q, xs, ys, rfl, rfl, hp, hq, lz, w⟩ | ⟨l, hU, p, q, f, rfl, rfl, hp, hq, w⟩
    · exact .inl ⟨d, l, i.ext e, j.ext e⟩
    · exact .inr (.inl ⟨p, q, xs, ys, rfl, rfl, e.keep _ _ hp List.not_mem_nil, e.keep _ _ hq List.not_mem_nil, lz, Paired.mapP w fun _ _ z => Sm.ext e z⟩)
    · exact .inr (.inr ⟨l, hU, p, q, f, rfl, rfl, hp.ext e List.not_mem_nil, hq.ext e List.not_mem_nil, w⟩)
theorem sle_anti {x y : Slot} (h : sLt y x = false) (k : sLt x y = false) : x = y := by
  rcases SLt.tri x y with z | z | z
  · exact absurd z (sLt_no.mp k)
  · exact z
  · exact absurd z (sLt_no.mp h)
theorem sorted_uniq : ∀ {xs ys : List Slot}, xs.Perm ys → xs.Pairwise (fun x y => sLt y x = false) → ys.Pairwise (fun x y => sLt y x = false) → xs = ys
  | [], ys, p, _, _ => (List.nil_perm.mp p).symm
  | x :: xs, [], p, _, _ => absurd (List.perm_nil.mp p) (fun z => nomatch z)
  | x :: xs, y :: ys, p, h, k => by
    obtain ⟨h1, h2⟩ := List.pairwise_cons.mp h
    obtain ⟨k1, k2⟩ := List.pairwise_cons.mp k
    have e : x = y := by
      have m1 : x ∈ y :: ys := p.mem_iff.mp List.mem_cons_self
      have m2 : y ∈ x :: xs := p.mem_iff.mpr List.mem_cons_self
      rcases List.mem_cons.mp m1 with m1 | m1
      · exact m1
      · rcases List.mem_cons.mp m2 with m2 | m2
        · exact m2.symm
        · exact sle_anti (h1 y m2) (k1 x m1)
    subst e
    rw [sorted_uniq ((List.perm_cons x).mp p) h2 k2]
theorem DMk.perm {U : List Slot} {H H' : Hp} {kvs kvs' : List (List Key × V)} {ks ks' : List Slot} {f : Fd} (h : DMk U H kvs ks f) (h' : DMk U H' kvs' ks' f) : ks.Perm ks' :=
  (List.perm_ext_iff_of_nodup h.nd h'.nd).mpr fun s => by rw [h.mem, h'.mem]
/-- the items of a slot's tuple -/
def sD (s : Slot) : PyData := .tuple [.str s.1, .int s.2.1, .int s.2.2]
theorem sD_depth (s : Slot) : (sD s).depth = 1 := by simp [sD, PyData.depth, PyData.depthAll]
theorem im_slot {H : Hp} {b : Addr} {s : Slot} (h : H b = some (.tup (sVs s))) : Im H (.ref b) (sD s) := .tup h (show 3 ≤ 1000 by decide) (.cons (.str _) (.cons (.int _) (.cons (.int _) .nil)))
theorem sm_slots {U : List Slot} {n : Nat} {H : Hp} (hn : 2 ≤ n) : ∀ {as bs : List Addr} {ss : List Slot}, SlotsAt H as ss → SlotsAt H bs ss → Paired (Sm U n H) (as.map V.ref) (bs.map V.ref)
  | _, _, _, .nil, .nil => .nil
  | _, _, _, .cons h t, .cons k u => .cons (Sm.im (d := sD _) (by rw [sD_depth]; omega) (im_slot h) (im_slot k)) (sm_slots hn t u)

theorem SlotsAt.app {H : Hp} {as bs : List Addr} {ss ts : List Slot} (h : SlotsAt H as ss) (k : SlotsAt H bs ts) : SlotsAt H (as ++ bs) (ss ++ ts) := by
  unfold SlotsAt at *
  induction h with
  | nil => exact k
  | cons h t ih => exact .cons h ih
theorem SlotsAt.snoc {H : Hp} {as : List Addr} {b : Addr} {ss : List Slot} {s : Slot} (h : SlotsAt H as ss) (k : H b = some (.tup (sVs s))) : SlotsAt H (as ++ [b]) (ss ++ [s]) := h.app (.cons k .nil)
theorem SlotsAt.len {H : Hp} {as : List Addr} {ss : List Slot} (h : SlotsAt H as ss) : as.length = ss.length := paired_len h
theorem SlotsAt.get {H : Hp} {as : List Addr} {ss : List Slot} (h : SlotsAt H as ss) {i : Nat} {v : V} (e : (as.map V.ref)[i]? = some v) : ∃ a s, v = .ref a ∧ as[i]? = some a ∧ ss[i]? = some s ∧ H a = some (.tup (sVs s)) := by
  rw [List.getElem?_map] at e
  cases q : as[i]? with
  | none => rw [q] at e; cases e
  | some a =>
    rw [q] at e
    obtain ⟨s, hs, hh⟩ := paired_at h q
    exact ⟨a, s, (Option.some.inj e).symm, rfl, hs, hh⟩
/-! ### walks over the keys of a dict of slots -/
section
variable {K : PySem.W.Frag} {σ : St} {H : Hp} {Q : VK} {a b : Addr} {rt : VK} {nx : St → Hp → Prop} {t : TS} {tt : TT} {te : TE} {U : List Slot} {f : Fd}
theorem w_keysT {kvs : List (List Key × V)} {o : Obj} {R : It → Hp → Prop} {i : Nat} (e : σ[i]? = some (some (.ref a))) (h : H a = some (.frz o (.dT kvs))) (q : R (Itkt a o kvs) H) : iKeys (tVar i) σ H R := ⟨.ref a, e, a, o, rfl, .inr ⟨kvs, h, q⟩⟩
theorem w_keysKT {kvs : List (List Key × V)} {o : Obj} {R : It → Hp → Prop} (h : H a = some (.frz o (.dT kvs))) (q : R (Itkt a o kvs) H) : ∃ d o, V.ref a = .ref d ∧ ((∃ kvs, H d = some (.frz o (.dK kvs)) ∧ R (Itk d o kvs) H) ∨ ∃ kvs, H d = some (.frz o (.dT kvs)) ∧ R (Itkt d o kvs) H) := ⟨a, o, rfl, .inr ⟨kvs, h, q⟩⟩
theorem z_for_keysT {kvs : List (List Key × V)} {ks : List Slot} {H0 : Hp} (m : DMk U H0 kvs ks f) {d : Addr} {o : Obj} {g : TG} (Pv : Nat → St → Hp → Prop) (h0 : Pv 0 σ H) (hl : ∀ i σ H, i ≤ ks.length → Pv i σ H → H d = some (.frz o (.dT kvs)))
    (hs : ∀ (N : St → Hp → Prop) i s e b σ H, ks[i]? = some s → f s = some e → H b = some (.tup (sVs s)) → Pv i σ H → (∀ σ' H', Pv (i + 1) σ' H' → N σ' H') → g (.ref b) σ H fun σ2 H2 => t ⟨N, rt, nx, N⟩ σ2 H2) (hd : ∀ σ H, Pv ks.length σ H → nx σ H) :
    ∃ W : Nat → Nat → St → Hp → Prop, (∃ m, W 0 m σ H) ∧ ∀ i m σ H, W i m σ H →
      ((Itkt d o kvs).stop i H ∧ nx σ H) ∨ ((Itkt d o kvs).go i H ∧ ∃ N : St → Hp → Prop, (∀ σ' H', N σ' H' → ∃ m', m' < m ∧ W (i + 1) m' σ' H') ∧ ∀ x H', (Itkt d o kvs).yld i H x H' → g x σ H' fun σ2 H2 => t ⟨N, rt, nx, N⟩ σ2 H2) := by
  rw [← m.len] at hl hd
  refine ⟨fun i m σ H => m = kvs.length - i ∧ i ≤ kvs.length ∧ Pv i σ H, ⟨_, rfl, Nat.zero_le _, h0⟩, ?_⟩
  rintro i m' σ H ⟨rfl, hi, p⟩
  by_cases hlt : i < kvs.length
  · refine .inr ⟨⟨hl i σ H hi p, hlt⟩, Pv (i + 1), fun σ' H' p' => ⟨kvs.length - (i + 1), by omega, rfl, hlt, p'⟩, fun x H' y => ?_⟩
    obtain ⟨e, k, v, q, hk, rfl, hq⟩ := y
    subst e
    obtain ⟨s, d', hs', ek, hf, _, _⟩ := m.at hk
    subst ek
    exact hs (Pv (i + 1)) i s d' q σ _ hs' hf hq p fun _ _ q => q
  · have e : i = kvs.length := by omega
    subst e
    exact .inl ⟨⟨hl _ σ H hi p, Nat.le_refl _⟩, hd σ H p⟩
theorem z_lc_keysT {kvs : List (List Key × V)} {ks : List Slot} {H0 : Hp} (m : DMk U H0 kvs ks f) {d : Addr} {o : Obj} {g : TG} {vs : List Nat} {D : Addr} {Qd : Hp → Prop} (Pv : Nat → List V → Hp → Prop) (nD : H D = none) (h0 : ∀ H', Ext [] H H' → Pv 0 [] H') (hl : ∀ i acc H, i ≤ ks.length → Pv i acc H → H d = some (.frz o (.dT kvs)))
    (hs : ∀ (Nx : Hp → Prop) i s e b acc H, ks[i]? = some s → f s = some e → H b = some (.tup (sVs s)) → Pv i acc H → H D = some (.lst acc) → (∀ acc' H', Pv (i + 1) acc' H' → H' D = some (.lst acc') → Nx H') → g (.ref b) (wipe σ vs) H fun σ2 H2 => wipe σ2 vs = wipe σ vs ∧ tt σ2 H2 fun b H3 =>
      if b = true then te σ2 H3 fun y H4 => ∃ acc, H4 D = some (.lst acc) ∧ acc.length < sizeLine ∧ Nx (upd H4 D (.lst (acc ++ [y]))) else Nx H3) (hd : ∀ acc H, Pv ks.length acc H → H D = some (.lst acc) → Qd H) :
    ∃ W : Nat → Nat → Hp → Prop, (∃ m, W 0 m (upd H D (.lst []))) ∧ ∀ i m H, W i m H →
      ((Itkt d o kvs).stop i H ∧ Qd H) ∨ ((Itkt d o kvs).go i H ∧ ∃ Nx : Hp → Prop, (∀ H', Nx H' → ∃ m', m' < m ∧ W (i + 1) m' H') ∧ ∀ x H', (Itkt d o kvs).yld i H x H' → g x (wipe σ vs) H' fun σ2 H2 => wipe σ2 vs = wipe σ vs ∧ tt σ2 H2 fun b H3 =>
        if b = true then te σ2 H3 fun y H4 => ∃ acc, H4 D = some (.lst acc) ∧ acc.length < sizeLine ∧ Nx (upd H4 D (.lst (acc ++ [y]))) else Nx H3) := by
  rw [← m.len] at hl hd
  refine ⟨fun i m H => m = kvs.length - i ∧ i ≤ kvs.length ∧ ∃ acc, Pv i acc H ∧ H D = some (.lst acc), ⟨_, rfl, Nat.zero_le _, [], h0 _ (Ext.new nD), upd_same⟩, ?_⟩
  rintro i m' H ⟨rfl, hi, acc, p, hD⟩
  by_cases hlt : i < kvs.length
  · refine .inr ⟨⟨hl i acc H hi p, hlt⟩, (fun H => ∃ acc, Pv (i + 1) acc H ∧ H D = some (.lst acc)), fun H' p' => ⟨kvs.length - (i + 1), by omega, rfl, hlt, p'⟩, fun x H' y => ?_⟩
    obtain ⟨e, k, v, q, hk, rfl, hq⟩ := y
    subst e
    obtain ⟨s, d', hs', ek, hf, _, _⟩ := m.at hk
    subst ek
    exact hs _ i s d' q acc _ hs' hf hq p hD fun acc' H' p' h' => ⟨acc', p', h'⟩
  · have e : i = kvs.length := by omega
    subst e
    exact .inl ⟨⟨hl _ acc H hi p, Nat.le_refl _⟩, hd acc H p hD⟩
/-- .. and a dict is made of them -/
theorem w_dc {wi : TI} {g : TG} {tk tv : TE} {vs : List Nat} (h : wi σ H fun J H1 => ∀ D, H1 D = none → ∃ W : Nat → Nat → Hp → Prop, (∃ m, W 0 m (upd H1 D (.dT []))) ∧
  ∀ i m H, W i m H → (J.stop i H ∧ Q (.ref D) H) ∨ (J.go i H ∧ ∃ Nx : Hp → Prop, (∀ H', Nx H' → ∃ m', m' < m ∧ W (i + 1) m' H') ∧
    ∀ x H', J.yld i H x H' → g x (wipe σ vs) H' fun σ2 H2 => wipe σ2 vs = wipe σ vs ∧ tt σ2 H2 fun b H3 =>
      if b = true then tk σ2 H3 fun y H4 => tv σ2 H4 fun z H5 => ∃ kvs k q, y = .ref q ∧ H5 q = some (.tup (k.map kV)) ∧ H5 D = some (.dT kvs) ∧ kvs.length < sizeLine ∧ Nx (upd H5 D (.dT (putK kvs k z))) else Nx H3)) : zDcT wi g tt tk tv vs σ H Q := h
theorem w_dcput {D q : Addr} {v : V} {N : Hp → Prop} {s : Slot} {d : PyData} (hU : U.length ≤ 1000) (h : DM U H D f) (eb : H q = some (.tup (sVs s))) (m : s ∈ U) (i : Im H v d) (k : ∀ H', Ext [D] H H' → DM U H' D (putF f s d) → N H') :
    ∃ kvs k c, V.ref q = .ref c ∧ H c = some (.tup (k.map kV)) ∧ H D = some (.dT kvs) ∧ kvs.length < sizeLine ∧ N (upd H D (.dT (putK kvs k v))) := by
  obtain ⟨kvs, ks, h, w⟩ := h
  have e : Ext [D] H (upd H D (.dT (putK kvs (sKey s) v))) := Ext.mut h (fun z => z) (List.mem_singleton.mpr rfl)
  refine ⟨kvs, sKey s, q, rfl, eb, h, szl (Nat.lt_of_le_of_lt (w.small hU) (by decide)), k _ e ?_⟩
  obtain ⟨ks', w'⟩ := w.put m i
  exact ⟨_, ks', upd_same, w'.ext e⟩
theorem z_dc_keysT {kvs : List (List Key × V)} {ks : List Slot} {H0 : Hp} (m : DMk U H0 kvs ks f) {d : Addr} {o : Obj} {g : TG} {tk tv : TE} {vs : List Nat} {D : Addr} {Qd : Hp → Prop} (Pv : Nat → Hp → Prop) (h0 : ∀ H', Ext [] H H' → H' D = some (.dT []) → Pv 0 H') (nD : H D = none) (hl : ∀ i H, i ≤ ks.length → Pv i H → H d = some (.frz o (.dT kvs)))
    (hs : ∀ (Nx : Hp → Prop) i s e b H, ks[i]? = some s → f s = some e → H b = some (.tup (sVs s)) → Pv i H → (∀ H', Pv (i + 1) H' → Nx H') → g (.ref b) (wipe σ vs) H fun σ2 H2 => wipe σ2 vs = wipe σ vs ∧ tt σ2 H2 fun b H3 =>
      if b = true then tk σ2 H3 fun y H4 => tv σ2 H4 fun z H5 => ∃ kvs k q, y = .ref q ∧ H5 q = some (.tup (k.map kV)) ∧ H5 D = some (.dT kvs) ∧ kvs.length < sizeLine ∧ Nx (upd H5 D (.dT (putK kvs k z))) else Nx H3) (hd : ∀ H, Pv ks.length H → Qd H) :
    ∃ W : Nat → Nat → Hp → Prop, (∃ m, W 0 m (upd H D (.dT []))) ∧ ∀ i m H, W i m H →
      ((Itkt d o kvs).stop i H ∧ Qd H) ∨ ((Itkt d o kvs).go i H ∧ ∃ Nx : Hp → Prop, (∀ H', Nx H' → ∃ m', m' < m ∧ W (i + 1) m' H') ∧ ∀ x H', (Itkt d o kvs).yld i H x H' → g x (wipe σ vs) H' fun σ2 H2 => wipe σ2 vs = wipe σ vs ∧ tt σ2 H2 fun b H3 =>
        if b = true then tk σ2 H3 fun y H4 => tv σ2 H4 fun z H5 => ∃ kvs k q, y = .ref q ∧ H5 q = some (.tup (k.map kV)) ∧ H5 D = some (.dT kvs) ∧ kvs.length < sizeLine ∧ Nx (upd H5 D (.dT (putK kvs k z))) else Nx H3) := by
  rw [← m.len] at hl hd
  refine ⟨fun i m H => m = kvs.length - i ∧ i ≤ kvs.length ∧ Pv i H, ⟨_, rfl, Nat.zero_le _, h0 _ (Ext.new nD) upd_same⟩, ?_⟩
  rintro i m' H ⟨rfl, hi, p⟩
  by_cases hlt : i < kvs.length
  · refine .inr ⟨⟨hl i H hi p, hlt⟩, Pv (i + 1), fun H' p' => ⟨kvs.length - (i + 1), by omega, rfl, hlt, p'⟩, fun x H' y => ?_⟩
    obtain ⟨e, k, v, q, hk, rfl, hq⟩ := y
    subst e
    obtain ⟨s, d', hs', ek, hf, _, _⟩ := m.at hk
    subst ek
    exact hs (Pv (i + 1)) i s d' q _ hs' hf hq p fun _ q => q
  · have e : i = kvs.length := by omega
    subst e
    exact .inl ⟨⟨hl _ H hi p, Nat.le_refl _⟩, hd H p⟩
theorem w_sortT {P : V → Hp → Prop} (h : DR U H a f) (k : ∀ p bs ts H', Ext [] H H' → H p = none → H' p = some (.lst (bs.map V.ref)) → SlotsAt H' bs ts → ts.Nodup → (∀ s, s ∈ ts ↔ (f s).isSome = true) → ts.length ≤ U.length → ts.Pairwise (fun x y => sLt y x = false) → P (.ref p) H') : cSortT K [.ref a] H P := by
  obtain ⟨kvs, ks, h, m⟩ := h
  refine .inr ⟨a, kvs, ks, rfl, h, m.keys, fun bs ts hb hp hs => w_alc fun p H' e n hh => ?_⟩
  exact k p bs ts H' e n hh (hb.ext e) (hp.nodup_iff.mpr m.nd) (fun s => by rw [hp.mem_iff]; exact m.mem) (by rw [hp.length_eq]; exact nodup_len m.nd m.sub) hs
theorem w_sortSl {P : V → Hp → Prop} {as : List Addr} {ss : List Slot} (h : SqL K H a (as.map V.ref)) (hx : SlotsAt H as ss) (k : ∀ p bs ts H', Ext [] H H' → H p = none → H' p = some (.lst (bs.map V.ref)) → SlotsAt H' bs ts → ts.Perm ss → ts.Pairwise (fun x y => sLt y x = false) → P (.ref p) H') : cSortT K [.ref a] H P :=
  .inl ⟨a, as, ss, rfl, h, hx, fun bs ts hb hp hs => w_alc fun p H' e n hh => k p bs ts H' e n hh (hb.ext e) hp hs⟩
theorem w_lenX {xs : List V} (h : SqL K H a xs ∨ SqT K H a xs) (q : Q (.int (xs.length : Int)) H) : cLenX K [.ref a] H Q := .inl ⟨_, _, rfl, h.elim (fun h => .inl ⟨xs, h, rfl⟩) (fun h => .inr ⟨xs, h, rfl⟩), q⟩
theorem w_lenXT {kvs : List (List Key × V)} (h : H a = some (.dT kvs)) (q : Q (.int (kvs.length : Int)) H) : cLenX K [.ref a] H Q := .inr ⟨a, kvs, rfl, h, q⟩
theorem w_ixA {v : V} {xs : List V} {j : Int} (h : SqL K H a xs ∨ SqT K H a xs) (e : atI xs j = some v) (q : Q v H) : rIx K (.ref a) (.int j) H Q :=
  h.elim (fun h => .inl ⟨a, xs, j, v, rfl, rfl, h, e, q⟩) fun h => .inr (.inl ⟨a, xs, j, v, rfl, rfl, h, e, q⟩)
theorem w_clearT {kvs : List (List Key × V)} {Q : VK} (h : H a = some (.dT kvs)) (k : ∀ H', Ext [a] H H' → Q .non H') : rClearT (.ref a) [] H Q := ⟨a, kvs, rfl, rfl, h, w_chg h (fun z => z) fun H' e _ => k H' e⟩
end
end Zk

set_option Elab.async false
set_option linter.all false
set_option maxRecDepth 100000
set_option maxHeartbeats 4000000
namespace Zk
open PySem PySem.Spec L2
open PyProof.Rows hiding St

/-! ### texts of plain signs -/
def Sg (z : Str) : Prop := ∀ c ∈ z.cps.toList, c < 128
theorem Sg.ok {z : Str} (h : Sg z) : PyData.strOk z = true := by
  unfold PyData.strOk
  rw [Array.all_eq_true']
  intro c hc
  have := h c (by simpa using hc)
  simp only [decide_eq_true_eq]
  omega
theorem Sg.app {a b : Str} (ha : Sg a) (hb : Sg b) : Sg (a ++ b) := fun c hc => by
  have e : (a ++ b).cps.toList = a.cps.toList ++ b.cps.toList := by
    show (a.cps ++ b.cps).toList = _
    simp
  rw [e, List.mem_append] at hc
  exact hc.elim (ha c) (hb c)
theorem Sg.one {c : Nat} (h : c < 128) : Sg ⟨#[c]⟩ := fun d hd => by
  have : d = c := by simpa using hd
  omega
theorem Sg.empty : Sg Str.empty := fun c hc => by simp [Str.empty] at hc
theorem Sg.join {sep : Str} (h0 : Sg sep) : ∀ {ys : List Str}, (∀ y ∈ ys, Sg y) → Sg (Txt.join sep ys) := by
  intro ys h
  show Sg (Builtin.Str.glued sep ys)
  rw [StrLaws.glued_eq_join]
  induction ys with
  | nil => exact Sg.empty
  | cons x r ih =>
    cases r with
    | nil => exact h x List.mem_cons_self
    | cons y r => exact ((h x List.mem_cons_self).app h0).app (ih fun z m => h z (List.mem_cons_of_mem _ m))
theorem Sg.mul {x : Str} (h : Sg x) (n : Int) : Sg (Txt.mul x n) := by
  unfold Txt.mul
  split
  · exact Sg.empty
  · split
    · exact h
    · have g : ∀ (k : Nat) (acc : Array Nat), (∀ c ∈ acc.toList, c < 128) → ∀ c ∈ ((List.replicate k x.cps).foldl (· ++ ·) acc).toList, c < 128 := by
        intro k
        induction k with
        | zero => intro acc ha; exact ha
        | succ k ih =>
          intro acc ha
          rw [List.replicate_succ, List.foldl_cons]
          refine ih _ fun c hc => ?_
          rw [Array.toList_append, List.mem_append] at hc
          exact hc.elim (ha c) (h c)
      exact g _ _ fun c hc => by simp at hc

/-! ### contents of slots -/
def Cell : Nat → PyData → Prop
  | 0, d => d = .none ∨ ∃ n, d = .int n
  | 1, d => d = .none ∨ ∃ z, Sg z ∧ d = .str z
  | 2, d => d = .none ∨ ∃ b, d = .bool b
  | 3, d => d = .none ∨ ∃ n m, d = .tuple [.str "sealed", .str "int", .int n, .int m]
  | _, _ => False
def Cells : Nat → List PyData → Prop
  | _, [] => True
  | i, d :: ds => Cell i d ∧ Cells (i + 1) ds
def Cont (d : PyData) : Prop := (∃ a b cs, Cells 0 cs ∧ d = .tuple [.str "row", .int a, .int b, .tuple cs]) ∨ (∃ n, d = .tuple [.str "closed", .int n]) ∨ ∃ a b k c, d = .tuple [.str "shelf", .int a, .int b, .bool k, .int c]
theorem Cell.eqv : ∀ {i : Nat} {d e : PyData}, Cell i d → Cell i e → (PyData.eqv d e = true ↔ d = e)
  | 0, d, e, h, k => by
    rcases h with rfl | ⟨n, rfl⟩ <;> rcases k with rfl | ⟨m, rfl⟩ <;> simp [PyData.eqv]
  | 1, d, e, h, k => by
    rcases h with rfl | ⟨n, _, rfl⟩ <;> rcases k with rfl | ⟨m, _, rfl⟩ <;> simp [PyData.eqv]
  | 2, d, e, h, k => by
    rcases h with rfl | ⟨n, rfl⟩ <;> rcases k with rfl | ⟨m, rfl⟩ <;> simp [PyData.eqv]
  | 3, d, e, h, k => by
    rcases h with rfl | ⟨n, m, rfl⟩ <;> rcases k with rfl | ⟨n', m', rfl⟩ <;> simp [PyData.eqv, PyData.eqvAll]
  | _ + 4, d, e, h, k => h.elim
theorem Cells.eqv : ∀ {i : Nat} {ds es : List PyData}, Cells i ds → Cells i es → (PyData.eqvAll ds es = true ↔ ds = es)
  | _, [], [], _, _ => by simp [PyData.eqvAll]
  | _, [], _ :: _, _, _ => by simp [PyData.eqvAll]
  | _, _ :: _, [], _, _ => by simp [PyData.eqvAll]
  | i, d :: ds, e :: es, h, k => by
    rw [PyData.eqvAll, Bool.and_eq_true, Cell.eqv h.1 k.1, Cells.eqv h.2 k.2, List.cons.injEq]
theorem Cont.eqv {d e : PyData} (h : Cont d) (k : Cont e) : PyData.eqv d e = true ↔ d = e := by
  rcases h with ⟨a, b, cs, hc, rfl⟩ | ⟨n, rfl⟩ | ⟨a, b, f, c, rfl⟩ <;> rcases k with ⟨a', b', cs', hc', rfl⟩ | ⟨n', rfl⟩ | ⟨a', b', f', c', rfl⟩
  · simp only [PyData.eqv, PyData.eqvAll, Bool.and_eq_true, Cells.eqv hc hc']
    simp
  all_goals simp [PyData.eqv, PyData.eqvAll]
theorem Cell.lay : ∀ {i : Nat} {d : PyData}, Cell i d → d.canLay0 = true ∧ d.depth ≤ 1
  | 0, d, h => by
    rcases h with rfl | ⟨n, rfl⟩ <;> simp [PyData.canLay0, PyData.depth]
  | 1, d, h => by
    rcases h with rfl | ⟨n, hn, rfl⟩
    · simp [PyData.canLay0, PyData.depth]
    · have := hn.ok
      simp [PyData.canLay0, PyData.depth]
      exact this
  | 2, d, h => by
    rcases h with rfl | ⟨n, rfl⟩ <;> simp [PyData.canLay0, PyData.depth]
  | 3, d, h => by
    rcases h with rfl | ⟨n, m, rfl⟩
    · simp [PyData.canLay0, PyData.depth]
    · simp [PyData.canLay0, PyData.canLayAll0, PyData.depth, PyData.depthAll]
      decide +kernel
  | _ + 4, d, h => h.elim
theorem Cells.lay : ∀ {i : Nat} {ds : List PyData}, Cells i ds → PyData.canLayAll0 ds = true ∧ PyData.depthAll ds ≤ 1
  | _, [], _ => by simp [PyData.canLayAll0, PyData.depthAll]
  | i, d :: ds, h => by
    obtain ⟨a1, a2⟩ := Cell.lay h.1
    obtain ⟨b1, b2⟩ := Cells.lay h.2
    rw [PyData.canLayAll0, PyData.depthAll, a1, b1]
    exact ⟨rfl, Nat.max_le.mpr ⟨a2, b2⟩⟩
theorem Cont.lay {d : PyData} (h : Cont d) : d.canLay0 = true ∧ d.depth ≤ 3 := by
  rcases h with ⟨a, b, cs, hc, rfl⟩ | ⟨n, rfl⟩ | ⟨a, b, f, c, rfl⟩
  · obtain ⟨b1, b2⟩ := Cells.lay hc
    simp only [PyData.canLay0, PyData.canLayAll0, PyData.depth, PyData.depthAll, b1]
    refine ⟨by decide +kernel, ?_⟩
    omega
  · simp [PyData.canLay0, PyData.canLayAll0, PyData.depth, PyData.depthAll]; decide +kernel
  · simp [PyData.canLay0, PyData.canLayAll0, PyData.depth, PyData.depthAll]; decide +kernel
/-- what a slot holds, None where it holds nothing -/
def oD (x : Option PyData) : PyData := x.getD .none
def OCt (x : Option PyData) : Prop := ∀ d, x = some d → Cont d
theorem Cont.ne_none {d : PyData} (h : Cont d) : d ≠ .none := by
  rcases h with ⟨a, b, cs, hc, rfl⟩ | ⟨n, rfl⟩ | ⟨a, b, f, c, rfl⟩ <;> exact fun z => nomatch z
theorem OCt.eqv {x y : Option PyData} (h : OCt x) (k : OCt y) : PyData.eqv (oD x) (oD y) = true ↔ x = y := by
  cases x with
  | none => cases y with
    | none => simp [oD, PyData.eqv]
    | some e =>
      have := k e rfl
      rcases this with ⟨a, b, cs, hc, rfl⟩ | ⟨n, rfl⟩ | ⟨a, b, f, c, rfl⟩ <;> simp [oD, PyData.eqv]
  | some d => cases y with
    | none =>
      have := h d rfl
      rcases this with ⟨a, b, cs, hc, rfl⟩ | ⟨n, rfl⟩ | ⟨a, b, f, c, rfl⟩ <;> simp [oD, PyData.eqv]
    | some e =>
      show PyData.eqv d e = true ↔ _
      rw [Cont.eqv (h d rfl) (k e rfl), Option.some.injEq]
theorem OCt.shaped {x : Option PyData} (h : OCt x) : SeqAt.shaped (oD x) = true := by
  unfold SeqAt.shaped
  cases x with
  | none => simp [oD, PyData.canLay0, PyData.depth]
  | some d =>
    obtain ⟨a, b⟩ := (h d rfl).lay
    show (d.canLay0 && decide (d.depth ≤ 64)) = true
    rw [a, decide_eq_true (by omega)]; rfl
theorem OCt.depth {x : Option PyData} (h : OCt x) : (oD x).depth ≤ 3 := by
  cases x with
  | none => simp [oD, PyData.depth]
  | some d => exact (h d rfl).lay.2
theorem OCt.non {x : Option PyData} (h : OCt x) {H : Hp} {v : V} (i : Im H v (oD x)) : v = .non ↔ x = none := by
  cases x with
  | none => cases i; simp
  | some d =>
    refine ⟨fun z => ?_, fun z => nomatch z⟩
    subst z
    have := (h d rfl).ne_none
    change Im H .non d at i
    cases i
    exact absurd rfl this
theorem OCt.inj {x y : Option PyData} (h : OCt x) (k : OCt y) (e : oD x = oD y) : x = y := by
  cases x with
  | none => cases y with
    | none => rfl
    | some e' => exact absurd e.symm (k e' rfl).ne_none
  | some d => cases y with
    | none => exact absurd e (h d rfl).ne_none
    | some e' => exact congrArg some e
/-! ### differences -/
open Classical in
noncomputable def btw (x y : Option PyData) : Option PyData := if x = y then none else some (.tuple [oD x, oD y])
theorem btw_eq {x y : Option PyData} (h : x = y) : btw x y = none := if_pos h
theorem btw_ne {x y : Option PyData} (h : x ≠ y) : btw x y = some (.tuple [oD x, oD y]) := if_neg h
theorem btw_none {x y : Option PyData} (h : btw x y = none) : x = y := Classical.byContradiction fun z => by rw [btw_ne z] at h; cases h
theorem btw_some {x y : Option PyData} {d : PyData} (h : btw x y = some d) : x ≠ y ∧ d = .tuple [oD x, oD y] := by
  by_cases z : x = y
  · rw [btw_eq z] at h; cases h
  · rw [btw_ne z] at h; exact ⟨z, (Option.some.inj h).symm⟩
noncomputable def btwF (f g : Fd) : Fd := fun s => btw (f s) (g s)
def Stt (f : Fd) : Prop := ∀ s, OCt (f s)
theorem btw_depth {x y : Option PyData} {d : PyData} (h : OCt x) (k : OCt y) (e : btw x y = some d) : d.depth ≤ 4 := by
  obtain ⟨_, rfl⟩ := btw_some e
  have a := h.depth
  have b := k.depth
  simp only [PyData.depth, PyData.depthAll]
  omega
theorem stt_none : Stt fun _ => none := fun _ _ h => nomatch h
theorem stt_put {f : Fd} {s : Slot} {d : PyData} (h : Stt f) (c : Cont d) : Stt (putF f s d) := fun t e q => by
  unfold putF at q
  by_cases z : t = s
  · rw [if_pos z] at q; cases q; exact c
  · rw [if_neg z] at q; exact h t e q
/-- what of F is worked out for the slots of l -/
def resF (l : List Slot) (F : Fd) : Fd := fun s => if s ∈ l then F s else none
theorem resF_nil {F : Fd} : resF [] F = fun _ => none := by funext s; exact if_neg (fun z => nomatch z)
theorem resF_put {l : List Slot} {F : Fd} {s : Slot} {d : PyData} (h : F s = some d) : putF (resF l F) s d = resF (l ++ [s]) F := by
  funext t
  unfold putF resF
  by_cases e : t = s
  · subst e
    rw [if_pos rfl, if_pos (List.mem_append.mpr (.inr (List.mem_singleton.mpr rfl))), h]
  · rw [if_neg e]
    by_cases m : t ∈ l
    · rw [if_pos m, if_pos (List.mem_append.mpr (.inl m))]
    · rw [if_neg m, if_neg (fun z => (List.mem_append.mp z).elim m fun q => e (List.mem_singleton.mp q))]
theorem resF_skip {l : List Slot} {F : Fd} {s : Slot} (h : F s = none) : resF (l ++ [s]) F = resF l F := by
  funext t
  unfold resF
  by_cases e : t = s
  · subst e
    rw [h, ite_self, ite_self]
  · by_cases m : t ∈ l
    · rw [if_pos m, if_pos (List.mem_append.mpr (.inl m))]
    · rw [if_neg m, if_neg (fun z => (List.mem_append.mp z).elim m fun q => e (List.mem_singleton.mp q))]
theorem resF_all {l : List Slot} {F : Fd} (h : ∀ s, s ∉ l → F s = none) : resF l F = F := by
  funext s
  unfold resF
  by_cases m : s ∈ l
  · rw [if_pos m]
  · rw [if_neg m, h s m]
theorem take_snoc {α : Type} {l : List α} {i : Nat} {x : α} (h : l[i]? = some x) : l.take (i + 1) = l.take i ++ [x] := by rw [List.take_add_one, h]; rfl
theorem room65 {k : Nat} {A : Around} (r : Room k A) : A.units + 65 < cLine := by have := r.un; omega
end Zk

set_option Elab.async false
set_option linter.all false
set_option maxRecDepth 100000
set_option maxHeartbeats 4000000
namespace Zk
open PySem PySem.Spec L2
open PyProof.Rows hiding St

/-! ### min of a list of slots -/
theorem slots_dp' {K : PySem.W.Frag} {H : Hp} {as : List Addr} {ss : List Slot} (h : SlotsAt H as ss) : DpAll K H (as.map V.ref) (ss.map sD) := by
  unfold SlotsAt at h
  induction h with
  | nil => exact .nil
  | cons h t ih => exact .cons (im_slot h).dp ih
theorem sD_inj {s t : Slot} (h : sD s = sD t) : s = t := by
  obtain ⟨a, b, c⟩ := s
  obtain ⟨a', b', c'⟩ := t
  simp [sD] at h
  obtain ⟨h1, h2, h3⟩ := h
  subst h1 h2 h3
  rfl
theorem sD_alike (s t : Slot) : PySem.W.alike (sD s) (sD t) = true := by simp [sD, PySem.W.alike, PySem.W.alikeAll]
theorem sD_lt (s t : Slot) : PySem.W.dataLt (sD s) (sD t) = sLt s t := by
  unfold sD
  rw [PySem.W.dataLt_tuple, PySem.W.dataLt_cons (by simp [PySem.W.alike]), PySem.W.dataLt_cons (by simp [PySem.W.alike]), PySem.W.dataLt_cons (by simp [PySem.W.alike])]
  rw [PySem.W.dataLt_str, PySem.W.dataLt_int, PySem.W.dataLt_int]
  have e1 : (PyData.eqv (.str s.1) (.str t.1) = true) ↔ s.1 = t.1 := by simp [PyData.eqv]
  have e2 : (PyData.eqv (.int s.2.1) (.int t.2.1) = true) ↔ s.2.1 = t.2.1 := by simp [PyData.eqv]
  have e3 : (PyData.eqv (.int s.2.2) (.int t.2.2) = true) ↔ s.2.2 = t.2.2 := by simp [PyData.eqv]
  unfold sLt
  by_cases h1 : s.1 = t.1
  · rw [if_pos (e1.mpr h1), if_pos h1]
    by_cases h2 : s.2.1 = t.2.1
    · rw [if_pos (e2.mpr h2), if_pos h2]
      by_cases h3 : s.2.2 = t.2.2
      · rw [if_pos (e3.mpr h3), h3, decide_eq_false (Int.lt_irrefl _)]
        rfl
      · rw [if_neg (fun z => h3 (e3.mp z))]
    · rw [if_neg (fun z => h2 (e2.mp z)), if_neg h2]
  · rw [if_neg (fun z => h1 (e1.mp z)), if_neg h1]
theorem minD_slots : ∀ (ss : List Slot) (s : Slot), ∃ m, m ∈ s :: ss ∧ PySem.W.minD (sD s) (ss.map sD) = sD m ∧ ∀ t ∈ s :: ss, sLt t m = false
  | [], s => ⟨s, List.mem_cons_self, rfl, fun t ht => by
      rw [List.mem_singleton.mp ht]
      exact sLt_no.mpr fun z => z.irr⟩
  | x :: ss, s => by
    have step : PySem.W.minD (sD s) ((x :: ss).map sD) = PySem.W.minD (sD (if sLt x s = true then x else s)) (ss.map sD) := by
      unfold PySem.W.minD
      rw [List.map_cons, List.foldl_cons, sD_lt]
      by_cases h : sLt x s = true
      · rw [if_pos h, if_pos h]
      · rw [if_neg h, if_neg h]
    rw [step]
    by_cases h : sLt x s = true
    · rw [if_pos h]
      obtain ⟨m, hm, e, hl⟩ := minD_slots ss x
      refine ⟨m, List.mem_cons_of_mem _ hm, e, fun t ht => ?_⟩
      rcases List.mem_cons.mp ht with rfl | ht
      · refine sLt_no.mpr fun z => ?_
        have a := sLt_no.mp (hl x List.mem_cons_self)
        exact a (SLt.trans (sLt_iff.mp h) z)
      · exact hl t ht
    · rw [if_neg h]
      obtain ⟨m, hm, e, hl⟩ := minD_slots ss s
      refine ⟨m, ?_, e, fun t ht => ?_⟩
      · rcases List.mem_cons.mp hm with rfl | hm
        · exact List.mem_cons_self
        · exact List.mem_cons_of_mem _ (List.mem_cons_of_mem _ hm)
      · rcases List.mem_cons.mp ht with rfl | ht
        · exact hl t List.mem_cons_self
        · rcases List.mem_cons.mp ht with rfl | ht
          · have a := sLt_no.mp (hl s List.mem_cons_self)
            have b : ¬ SLt t s := fun z => h (sLt_iff.mpr z)
            refine sLt_no.mpr fun z => ?_
            rcases SLt.tri s m with c | c | c
            · exact a c
            · rw [← c] at z; exact b z
            · exact b (SLt.trans z c)
          · exact hl t (List.mem_cons_of_mem _ ht)
def cMinSl (K : PySem.W.Frag) : RC := fun vs H Q => ∃ (a : Addr) (as : List Addr) (ss : List Slot), vs = [V.ref a] ∧ SqL K H a (as.map V.ref) ∧ SlotsAt H as ss ∧ 0 < ss.length ∧
  ∀ (b : Addr) (m : Slot), H b = some (.tup (sVs m)) → m ∈ ss → (∀ s ∈ ss, sLt s m = false) → Q (.ref b) H
theorem zc_minSl {X : Cx} (hc : X.calm = true) (hu : X.A.units + 64 < cLine) : CallR X (.builtin "min") (cMinSl X.K) := by
  intro pins s σ H vs us Q I r h
  obtain ⟨a, as, ss, rfl, hs, hx, hp, q⟩ := h
  obtain ⟨its, rv, hl, hz⟩ := I.list hs
  obtain ⟨u, rfl, ru⟩ := vals1 r
  obtain rfl : u = Value.ref a := ru
  obtain ⟨ads, hr⟩ := Dp.readsAll I (ss.map sD) (as.map V.ref) its (slots_dp' hx) rv
  cases ss with
  | nil => exact absurd hp (Nat.lt_irrefl 0)
  | cons s0 rest =>
    have dp : PyData.depthAll ((s0 :: rest).map sD) ≤ 1 := by
      have : ∀ l : List Slot, PyData.depthAll (l.map sD) ≤ 1 := by
        intro l
        induction l with
        | nil => simp [PyData.depthAll]
        | cons x l ih => rw [List.map_cons, PyData.depthAll, sD_depth]; exact Nat.max_le.mpr ⟨Nat.le_refl _, ih⟩
      exact this _
    refine PySem.W.min_list_data (x := sD s0) (xs := rest.map sD) (I.ok.hd hc) hl.isList hr ⟨?_, ?_⟩ (by have := dp; rw [List.map_cons] at this; omega) fun i v h' tk bs hv hv2 kp => ?_
    · intro x hx y hy
      rw [← List.map_cons] at hx hy
      obtain ⟨s, _, rfl⟩ := List.mem_map.mp hx
      obtain ⟨t, _, rfl⟩ := List.mem_map.mp hy
      exact sD_alike s t
    · intro x hx
      rw [← List.map_cons] at hx
      obtain ⟨s, _, rfl⟩ := List.mem_map.mp hx
      exact fun z => nomatch z
    · obtain ⟨m, hm, e, hl⟩ := minD_slots rest s0
      rw [e] at hv2
      have hv' : its[i]? = some v := by simpa using hv
      have li : i < as.length := by
        obtain ⟨l, _⟩ := List.getElem?_eq_some_iff.mp hv'
        have := rv.length
        rw [List.length_map] at this
        omega
      have ha : as[i]? = some as[i] := List.getElem?_eq_getElem li
      obtain ⟨t, ht, hb⟩ := paired_at hx ha
      obtain ⟨u, hu2, ru2⟩ := rv.get (x := V.ref as[i]) (by rw [List.getElem?_map, ha]; rfl)
      rw [hv'] at hu2
      cases hu2
      obtain rfl : v = Value.ref as[i] := ru2
      obtain ⟨bs2, r2⟩ := Dp.reads I (sD t) (.ref as[i]) (.ref as[i]) (im_slot hb).dp rfl
      have em := sD_inj (PySem.W.alike_unique _ _ _ _ _ (sD_alike m t) hv2 (PySem.W.reads_keeps kp r2))
      subst em
      exact ⟨.ref as[i], H, I.kept kp, rfl, q _ _ hb hm hl⟩
end Zk

set_option Elab.async false
set_option linter.all false
set_option maxRecDepth 100000
set_option maxHeartbeats 4000000
namespace Zk
open PySem PySem.Spec L2
open PyProof.Rows hiding St

/-! ### values and kinds -/
inductive Val where
  | fl (b : Bool)
  | nm (n : Int)
  | tx (z : Str)
inductive Kd where
  | F
  | I
  | T
def kS : Kd → Str
  | .F => Str.ofString "flag"
  | .I => Str.ofString "int"
  | .T => Str.ofString "text"
def vV : Val → V
  | .fl b => .bl b
  | .nm n => .int n
  | .tx z => .str z
def vD : Val → PyData
  | .fl b => .bool b
  | .nm n => .int n
  | .tx z => .str z
theorem vV_inj : ∀ {a b : Val}, vV a = vV b → a = b
  | .fl a, .fl b, h => by injection h with h; rw [h]
  | .nm a, .nm b, h => by injection h with h; rw [h]
  | .tx a, .tx b, h => by injection h with h; rw [h]
  | .fl _, .nm _, h => nomatch h
  | .fl _, .tx _, h => nomatch h
  | .nm _, .fl _, h => nomatch h
  | .nm _, .tx _, h => nomatch h
  | .tx _, .fl _, h => nomatch h
  | .tx _, .nm _, h => nomatch h
theorem im_val {H : Hp} : ∀ v : Val, Im H (vV v) (vD v)
  | .fl b => .bl b
  | .nm n => .int n
  | .tx z => .str z
def alph : Str := Str.ofString " !\"#$&'()*+,-./0123456789:;<=>?@ABCDEFGHIJKLMNOPQRSTUVWXYZ[\\]^_`abcdefghijklmnopqrstuvwxyz{|}~"
/-- its signs are of the alphabet -/
def Al (l : List Nat) : Prop := ∀ c ∈ l, c ∈ alph.cps.toList
/-- the values of a kind -/
def VOk : Kd → Val → Prop
  | .F, .fl _ => True
  | .I, .nm n => -1000000000 ≤ n ∧ n ≤ 1000000000
  | .T, .tx z => z.length ≤ 20 ∧ Al z.cps.toList
  | _, _ => False
theorem vok_scal : ∀ {k : Kd} {a b : Val}, VOk k a → VOk k b → scal (vV a) (vV b) = true
  | .F, .fl _, .fl _, _, _ => rfl
  | .I, .nm _, .nm _, _, _ => rfl
  | .T, .tx _, .tx _, _, _ => rfl
  | .F, .nm _, _, h, _ => h.elim
  | .F, .tx _, _, h, _ => h.elim
  | .I, .fl _, _, h, _ => h.elim
  | .I, .tx _, _, h, _ => h.elim
  | .T, .fl _, _, h, _ => h.elim
  | .T, .nm _, _, h, _ => h.elim
  | .F, .fl _, .nm _, _, h => h.elim
  | .F, .fl _, .tx _, _, h => h.elim
  | .I, .nm _, .fl _, _, h => h.elim
  | .I, .nm _, .tx _, _, h => h.elim
  | .T, .tx _, .fl _, _, h => h.elim
  | .T, .tx _, .nm _, _, h => h.elim
theorem vok_I {v : Val} (h : VOk .I v) : ∃ n, v = .nm n ∧ -1000000000 ≤ n ∧ n ≤ 1000000000 := by
  cases v with
  | nm n => exact ⟨n, rfl, h⟩
  | fl _ => exact h.elim
  | tx _ => exact h.elim
theorem vok_T {v : Val} (h : VOk .T v) : ∃ z, v = .tx z ∧ z.length ≤ 20 ∧ Al z.cps.toList := by
  cases v with
  | tx z => exact ⟨z, rfl, h⟩
  | fl _ => exact h.elim
  | nm _ => exact h.elim
/-! ### conversions -/
inductive Cv where
  | aff (a b : Int)
  | una (a b : Int)
  | pre (p : Str)
  | unp (p : Str)
  | rcd (k l : Kd) (ps : List (Val × Val))
def prD3 (p : Val × Val) : PyData := .tuple [vD p.1, vD p.2]
def cD : Cv → PyData
  | .aff a b => .tuple [.str (Str.ofString "affine"), .int a, .int b]
  | .una a b => .tuple [.str (Str.ofString "unaffine"), .int a, .int b]
  | .pre p => .tuple [.str (Str.ofString "prefix"), .str p]
  | .unp p => .tuple [.str (Str.ofString "unprefix"), .str p]
  | .rcd k l ps => .tuple [.str (Str.ofString "recode"), .str (kS k), .str (kS l), .tuple (ps.map prD3)]
def k1 : Cv → Kd
  | .aff _ _ => .I
  | .una _ _ => .I
  | .pre _ => .T
  | .unp _ => .T
  | .rcd k _ _ => k
def k2 : Cv → Kd
  | .aff _ _ => .I
  | .una _ _ => .I
  | .pre _ => .T
  | .unp _ => .T
  | .rcd _ l _ => l
def COk : Cv → Prop
  | .aff a b => a ≠ 0 ∧ -1000 ≤ a ∧ a ≤ 1000 ∧ -1000000 ≤ b ∧ b ≤ 1000000
  | .una a b => a ≠ 0 ∧ -1000 ≤ a ∧ a ≤ 1000 ∧ -1000000 ≤ b ∧ b ≤ 1000000
  | .pre p => 1 ≤ p.length ∧ p.length ≤ 6 ∧ Al p.cps.toList
  | .unp p => 1 ≤ p.length ∧ p.length ≤ 6 ∧ Al p.cps.toList
  | .rcd k l ps => ps.length ≤ 8 ∧ (∀ p ∈ ps, VOk k p.1 ∧ VOk l p.2) ∧ (ps.map (·.1)).Nodup ∧ (ps.map (·.2)).Nodup
def cI : Cv → Cv
  | .aff a b => .una a b
  | .una a b => .aff a b
  | .pre p => .unp p
  | .unp p => .pre p
  | .rcd k l ps => .rcd l k (ps.map fun p => (p.2, p.1))
theorem cI_ok : ∀ {c : Cv}, COk c → COk (cI c)
  | .aff _ _, h => h
  | .una _ _, h => h
  | .pre _, h => h
  | .unp _, h => h
  | .rcd k l ps, ⟨h1, h2, h3, h4⟩ => by
    refine ⟨by rw [List.length_map]; exact h1, fun p m => ?_, ?_, ?_⟩
    · obtain ⟨q, hq, rfl⟩ := List.mem_map.mp m
      exact ⟨(h2 q hq).2, (h2 q hq).1⟩
    · rw [List.map_map]; exact h4
    · rw [List.map_map]; exact h3
theorem cI_k1 : ∀ c : Cv, k1 (cI c) = k2 c
  | .aff _ _ => rfl
  | .una _ _ => rfl
  | .pre _ => rfl
  | .unp _ => rfl
  | .rcd _ _ _ => rfl
theorem cI_k2 : ∀ c : Cv, k2 (cI c) = k1 c
  | .aff _ _ => rfl
  | .una _ _ => rfl
  | .pre _ => rfl
  | .unp _ => rfl
  | .rcd _ _ _ => rfl
open Classical in
noncomputable def look : List (Val × Val) → Val → Option Val
  | [], _ => none
  | p :: ps, v => if p.1 = v then some p.2 else look ps v
def rng (n : Int) : Option Val := if -1000000000 ≤ n ∧ n ≤ 1000000000 then some (.nm n) else none
/-- z begins with p -/
def beg (z p : Str) : Bool := decide (z.cps.toList.take p.length = p.cps.toList)
def cut (z : Str) (n : Nat) : Str := ⟨(z.cps.toList.drop n).toArray⟩
def aB (a : Int) : Int := if a < 0 then -a else a
noncomputable def cvt : Cv → Val → Option Val
  | .aff a b, .nm n => rng (a * n + b)
  | .una a b, .nm n => if (n - b) % aB a = 0 then rng ((n - b).fdiv a) else none
  | .pre p, .tx z => if (p ++ z).length ≤ 20 then some (.tx (p ++ z)) else none
  | .unp p, .tx z => if beg z p = true then some (.tx (cut z p.length)) else none
  | .rcd _ _ ps, v => look ps v
  | _, _ => none
theorem rng_ok {n : Int} {r : Val} (h : rng n = some r) : r = .nm n ∧ -1000000000 ≤ n ∧ n ≤ 1000000000 := by
  unfold rng at h
  split at h
  · rename_i c; exact ⟨(Option.some.inj h).symm, c⟩
  · cases h
theorem look_mem : ∀ {ps : List (Val × Val)} {v r : Val}, look ps v = some r → (v, r) ∈ ps
  | p :: ps, v, r, h => by
    unfold look at h
    by_cases e : p.1 = v
    · rw [if_pos e] at h
      cases h
      rw [← e]
      exact List.mem_cons_self
    · rw [if_neg e] at h
      exact List.mem_cons_of_mem _ (look_mem h)
theorem look_at : ∀ {ps : List (Val × Val)} {v r : Val}, (ps.map (·.1)).Nodup → (v, r) ∈ ps → look ps v = some r
  | p :: ps, v, r, nd, m => by
    unfold look
    rw [List.map_cons, List.nodup_cons] at nd
    rcases List.mem_cons.mp m with m | m
    · rw [← m, if_pos rfl]
    · rw [if_neg (fun e => nd.1 (List.mem_map.mpr ⟨_, m, e.symm⟩))]
      exact look_at nd.2 m
theorem app_tl (a b : Str) : (a ++ b).cps.toList = a.cps.toList ++ b.cps.toList := by
  show (a.cps ++ b.cps).toList = _
  simp
theorem len_tl (a : Str) : a.cps.toList.length = a.length := by
  show a.cps.toList.length = a.cps.size
  rw [Array.length_toList]
theorem str_tl {a b : Str} (h : a.cps.toList = b.cps.toList) : a = b := by
  cases a; cases b
  simp only [Str.mk.injEq]
  exact Array.toList_inj.mp h
theorem beg_app (p z : Str) : beg (p ++ z) p = true := by
  unfold beg
  rw [app_tl, ← len_tl p, List.take_left, decide_eq_true rfl]
theorem cut_app (p z : Str) : cut (p ++ z) p.length = z := by
  refine str_tl ?_
  show ((p ++ z).cps.toList.drop p.length) = _
  rw [app_tl, ← len_tl p, List.drop_left]
theorem beg_cut {z p : Str} (h : beg z p = true) : p ++ cut z p.length = z := by
  refine str_tl ?_
  rw [app_tl, ← of_decide_eq_true h]
  exact List.take_append_drop _ _
theorem cvt_ok {c : Cv} {v r : Val} (hc : COk c) (hv : VOk (k1 c) v) (h : cvt c v = some r) : VOk (k2 c) r := by
  cases c with
  | aff a b =>
    obtain ⟨n, rfl, _⟩ := vok_I hv
    obtain ⟨rfl, x⟩ := rng_ok h
    exact x
  | una a b =>
    obtain ⟨n, rfl, _⟩ := vok_I hv
    change (if _ then _ else _) = _ at h
    split at h
    · obtain ⟨rfl, x⟩ := rng_ok h
      exact x
    · cases h
  | pre p =>
    obtain ⟨z, rfl, l, al⟩ := vok_T hv
    change (if _ then _ else _) = _ at h
    split at h
    · rename_i lz
      cases h
      exact ⟨lz, fun x m => by rw [app_tl, List.mem_append] at m; exact m.elim (hc.2.2 x) (al x)⟩
    · cases h
  | unp p =>
    obtain ⟨z, rfl, l, al⟩ := vok_T hv
    change (if _ then _ else _) = _ at h
    split at h
    · cases h
      refine ⟨?_, fun x m => al x (List.mem_of_mem_drop m)⟩
      rw [← len_tl]
      show (z.cps.toList.drop p.length).length ≤ 20
      rw [List.length_drop, len_tl]; omega
    · cases h
  | rcd k l ps => exact (hc.2.1 _ (look_mem h)).2
theorem abs_mod {a n : Int} (h : n % aB a = 0) : ∃ q, n = a * q := by
  unfold aB at h
  split at h
  · obtain ⟨q, e⟩ := Int.dvd_of_emod_eq_zero h
    exact ⟨-q, by rw [e, Int.neg_mul, Int.mul_neg]⟩
  · obtain ⟨q, e⟩ := Int.dvd_of_emod_eq_zero h
    exact ⟨q, e⟩
theorem mul_mod (a q : Int) : (a * q) % aB a = 0 := by
  unfold aB
  split
  · rw [show a * q = -a * (-q) by rw [Int.neg_mul_neg]]; exact Int.mul_emod_right _ _
  · exact Int.mul_emod_right _ _
theorem cvt_back {c : Cv} {v r : Val} (hc : COk c) (hv : VOk (k1 c) v) (h : cvt c v = some r) : cvt (cI c) r = some v := by
  cases c with
  | aff a b =>
    obtain ⟨n, rfl, n0, n1⟩ := vok_I hv
    obtain ⟨rfl, x⟩ := rng_ok h
    show (if (a * n + b - b) % _ = 0 then rng ((a * n + b - b).fdiv a) else none) = _
    rw [Int.add_sub_cancel, if_pos (mul_mod a n), Int.mul_fdiv_cancel_left _ hc.1]
    exact if_pos ⟨n0, n1⟩
  | una a b =>
    obtain ⟨n, rfl, n0, n1⟩ := vok_I hv
    change (if _ then _ else _) = _ at h
    split at h
    · rename_i d
      obtain ⟨rfl, x⟩ := rng_ok h
      obtain ⟨q, e⟩ := abs_mod d
      show rng (a * (n - b).fdiv a + b) = _
      rw [e, Int.mul_fdiv_cancel_left _ hc.1, ← e, Int.sub_add_cancel]
      exact if_pos ⟨n0, n1⟩
    · cases h
  | pre p =>
    obtain ⟨z, rfl, l, al⟩ := vok_T hv
    change (if _ then _ else _) = _ at h
    split at h
    · cases h
      show (if beg (p ++ z) p = true then some (Val.tx (cut (p ++ z) p.length)) else none) = _
      rw [if_pos (beg_app p z), cut_app]
    · cases h
  | unp p =>
    obtain ⟨z, rfl, l, al⟩ := vok_T hv
    change (if _ then _ else _) = _ at h
    split at h
    · rename_i b
      cases h
      show (if (p ++ cut z p.length).length ≤ 20 then some (Val.tx (p ++ cut z p.length)) else none) = _
      rw [beg_cut b, if_pos l]
    · cases h
  | rcd k l ps =>
    refine look_at ?_ ?_
    · rw [List.map_map]; exact hc.2.2.2
    · exact List.mem_map.mpr ⟨_, look_mem h, rfl⟩
/-! ### lists of conversions -/
noncomputable def thr : List Cv → Val → Option Val
  | [], v => some v
  | c :: cs, v => (cvt c v).bind (thr cs)
def Chn : Kd → List Cv → Kd → Prop
  | k, [], l => k = l
  | k, c :: cs, l => COk c ∧ k1 c = k ∧ Chn (k2 c) cs l
theorem thr_app : ∀ (cs ds : List Cv) (v : Val), thr (cs ++ ds) v = (thr cs v).bind (thr ds)
  | [], _, _ => rfl
  | c :: cs, ds, v => by
    show (cvt c v).bind (thr (cs ++ ds)) = ((cvt c v).bind (thr cs)).bind (thr ds)
    cases cvt c v with
    | none => rfl
    | some r => exact thr_app cs ds r
theorem chn_app : ∀ {cs ds : List Cv} {k l m : Kd}, Chn k cs l → Chn l ds m → Chn k (cs ++ ds) m
  | [], _, _, _, _, h, g => by cases h; exact g
  | _ :: _, _, _, _, _, h, g => ⟨h.1, h.2.1, chn_app h.2.2 g⟩
theorem chn_back : ∀ {cs : List Cv} {k l : Kd}, Chn k cs l → Chn l (cs.reverse.map cI) k
  | [], _, _, h => h.symm
  | c :: cs, k, l, h => by
    rw [List.reverse_cons, List.map_append]
    refine chn_app (chn_back h.2.2) ⟨cI_ok h.1, cI_k1 c, ?_⟩
    exact (cI_k2 c).trans h.2.1
theorem thr_ok : ∀ {cs : List Cv} {k l : Kd} {v r : Val}, Chn k cs l → VOk k v → thr cs v = some r → VOk l r
  | [], _, _, _, _, h, hv, e => by cases h; cases e; exact hv
  | c :: cs, k, l, v, r, h, hv, e => by
    change (cvt c v).bind (thr cs) = some r at e
    have hv' : VOk (k1 c) v := h.2.1 ▸ hv
    cases q : cvt c v with
    | none => rw [q] at e; cases e
    | some u =>
      rw [q] at e
      exact thr_ok h.2.2 (cvt_ok h.1 hv' q) e
theorem thr_back : ∀ {cs : List Cv} {k l : Kd} {v r : Val}, Chn k cs l → VOk k v → thr cs v = some r → thr (cs.reverse.map cI) r = some v
  | [], _, _, _, _, h, hv, e => by cases h; cases e; rfl
  | c :: cs, k, l, v, r, h, hv, e => by
    change (cvt c v).bind (thr cs) = some r at e
    have hv' : VOk (k1 c) v := h.2.1 ▸ hv
    cases q : cvt c v with
    | none => rw [q] at e; cases e
    | some u =>
      rw [q] at e
      rw [List.reverse_cons, List.map_append, thr_app, thr_back h.2.2 (cvt_ok h.1 hv' q) e]
      show (cvt (cI c) u).bind (thr []) = _
      rw [cvt_back h.1 hv' q]
      rfl
end Zk

set_option Elab.async false
set_option linter.all false
set_option maxRecDepth 100000
set_option maxHeartbeats 4000000
namespace Zk
open PySem PySem.Spec L2
open PyProof.Rows hiding St

def rStarts : V → List V → Hp → VK → Prop := fun x xs H Q => ∃ a b, x = .str a ∧ xs = [.str b] ∧ Q (.bl (Txt.startswith a b)) H
def cAbs : RC := fun xs H Q => ∃ i, xs = [.int i] ∧ Q (.int (if i < 0 then -i else i)) H
def cListL (K : PySem.W.Frag) : RC := fun xs H Q => ∃ p ys, xs = [.ref p] ∧ (SqL K H p ys ∨ SqT K H p ys) ∧ Alc (.lst ys) H Q
section
variable {X : Cx}
theorem zmt_starts : MtR X "str.startswith" rStarts := mt_startswith
theorem zc_abs : CallR X (.builtin "abs") cAbs := call_abs
theorem zc_list : CallR X (.type "list") (cListL X.K) := call_list_of
theorem zop_notInS : OpR X (compareOp .NotIn) rNotInS := op_notInS
theorem pg_tupK {K : PySem.W.Frag} {es : List Expr} {k : Nat} {t : TGs} {n : Nat} {pos : Pos} (e : X.K = K) (hc : X.calm = true) (h : PGs X es t)
    (hn : (assignEach es X.env).length = n := by rfl) (hst : (assignEach es X.env).findIdx? (·.1) = none := by rfl) : PG X (.Tuple es k pos) (gTup K n t) := e ▸ pg_tup hc h hn hst
end
section
variable {K : PySem.W.Frag} {σ : St} {H : Hp} {Q : VK} {a : Addr} {v x y : V} {te ta tb tc : TE} {rt : VK} {nx : St → Hp → Prop} {t : TS} {tt : TT}
theorem w_starts {p z : Str} (q : Q (.bl (Txt.startswith z p)) H) : rStarts (.str z) [.str p] H Q := ⟨z, p, rfl, rfl, q⟩
theorem w_abs {i : Int} (q : Q (.int (aB i)) H) : cAbs [.int i] H Q := ⟨i, rfl, q⟩
theorem w_listL {ys : List V} (h : SqL K H a ys) (q : Alc (.lst ys) H Q) : cListL K [.ref a] H Q := ⟨a, ys, rfl, .inl h, q⟩
theorem w_lenS {z : Str} (h : z.length ≤ sizeLine) (q : Q (.int (z.length : Int)) H) : cLen K [.str z] H Q := ⟨.str z, z.length, rfl, ⟨h, rfl⟩, q⟩
theorem w_slice {r : V → Option Int → Option Int → Hp → VK → Prop} {tl th : TO} (h : te σ H fun x H1 => tl σ H1 fun l H2 => th σ H2 fun u H3 => r x l u H3 Q) : L2.tSl r te tl th σ H Q := h
theorem w_noPart {P : Option Int → Hp → Prop} (q : P none H) : tNoPart σ H P := q
theorem w_slS {z : Str} {lo hi : Option Int} (l : z.length ≤ sizeLine) (q : Q (.str (cutS z lo hi)) H) : rSlS (.str z) lo hi H Q := ⟨z, rfl, l, q⟩
theorem w_chain {r r' : R2} (h : ta σ H fun x H1 => tb σ H1 fun y H2 => r x y H2 fun z H3 => ∃ k, z = .bl k ∧ (if k = true then tc σ H3 fun w' H4 => r' y w' H4 Q else Q (.bl false) H3)) : tChain r r' ta tb tc σ H Q := h
theorem w_notInC {c : Nat} {z : Str} (q : Q (.bl (!decide (c ∈ z.cps.toList))) H) : rNotInS (.str ⟨#[c]⟩) (.str z) H Q := ⟨c, z, rfl, rfl, q⟩
theorem aB_pos {i : Int} (h : i ≠ 0) : 0 < aB i := by unfold aB; split <;> omega
theorem starts_beg (z p : Str) : Txt.startswith z p = beg z p := by
  have e : Txt.startswith z p = (decide (0 + p.length ≤ z.length) && Builtin.Str.subAt z p 0) := rfl
  rw [e, StrLaws.subAt_eq, List.drop_zero]
  unfold beg
  by_cases h : z.cps.toList.take p.length = p.cps.toList
  · have l : p.length ≤ z.length := by
      have := congrArg List.length h
      rw [List.length_take, len_tl, len_tl] at this
      omega
    rw [decide_eq_true h, decide_eq_true (by omega), h]
    simp
  · rw [decide_eq_false h]
    have : (z.cps.toList.take p.length == p.cps.toList) = false := by simpa using h
    rw [this, Bool.and_false]
theorem cutS_tl (z : Str) (lo hi : Option Int) : (cutS z lo hi).cps.toList = (z.cps.toList.drop (HT.sIx z.length 0 lo)).take (HT.sIx z.length z.length hi - HT.sIx z.length 0 lo) := rfl
theorem cutS_from (z : Str) (n : Nat) : cutS z (some (n : Int)) none = cut z n := by
  refine str_tl ?_
  rw [cutS_tl]
  show _ = z.cps.toList.drop n
  rw [HT.sIx_nat, HT.sIx_none, ← len_tl]
  by_cases h : n ≤ z.cps.toList.length
  · rw [Nat.min_eq_left h]
    refine List.take_of_length_le ?_
    rw [List.length_drop]
    exact Nat.le_refl _
  · rw [Nat.min_eq_right (by omega), List.drop_eq_nil_of_le (Nat.le_refl _), List.drop_eq_nil_of_le (by omega), List.take_nil]
theorem cutS_to_eq (z p : Str) : decide (cutS z none (some (p.length : Int)) = p) = beg z p := by
  have e : (cutS z none (some (p.length : Int))).cps.toList = z.cps.toList.take p.length := by
    rw [cutS_tl, HT.sIx_nat, HT.sIx_none, List.drop_zero, Nat.sub_zero, ← len_tl z, List.take_eq_take_iff]
    omega
  unfold beg
  rw [← e]
  by_cases h : cutS z none (some (p.length : Int)) = p
  · rw [decide_eq_true h, decide_eq_true (by rw [h])]
  · rw [decide_eq_false h, decide_eq_false (fun q => h (str_tl q))]
theorem cutS_al {z : Str} {lo hi : Option Int} (h : Al z.cps.toList) : Al (cutS z lo hi).cps.toList := fun c m => by
  rw [cutS_tl] at m
  exact h c (List.mem_of_mem_drop (List.mem_of_mem_take m))
theorem cutS_to_len (z : Str) (n : Int) (h : 0 ≤ n) : (cutS z none (some n)).length ≤ n.toNat := by
  rw [← len_tl, cutS_tl, List.length_take, HT.sIx_none]
  obtain ⟨k, rfl⟩ := Int.eq_ofNat_of_zero_le h
  have : HT.sIx z.length z.length (some (k : Int)) = min k z.length := HT.sIx_nat _ _ _
  rw [this]
  have : ((k : Int)).toNat = k := by omega
  rw [this]
  omega
/-! reversed walks over a list -/
theorem w_iRev {tl : TA} {R : It → Hp → Prop} (h : tl σ H fun vs H1 => ∃ a xs, vs = [V.ref a] ∧ SqL K H1 a xs ∧ R (Itv K a xs.length) H1) : iRev K tl σ H R := h
theorem z_for_rev {xs : List V} {g : TG} (Pv : Nat → St → Hp → Prop) (h0 : Pv 0 σ H) (hl : ∀ i σ H, i ≤ xs.length → Pv i σ H → SqL K H a xs)
    (hs : ∀ (N : St → Hp → Prop) i x σ H, xs.reverse[i]? = some x → Pv i σ H → (∀ σ' H', Pv (i + 1) σ' H' → N σ' H') → g x σ H fun σ2 H2 => t ⟨N, rt, nx, N⟩ σ2 H2) (hd : ∀ σ H, Pv xs.length σ H → nx σ H) :
    ∃ W : Nat → Nat → St → Hp → Prop, (∃ m, W 0 m σ H) ∧ ∀ i m σ H, W i m σ H →
      ((Itv K a xs.length).stop i H ∧ nx σ H) ∨ ((Itv K a xs.length).go i H ∧ ∃ N : St → Hp → Prop, (∀ σ' H', N σ' H' → ∃ m', m' < m ∧ W (i + 1) m' σ' H') ∧ ∀ x H', (Itv K a xs.length).yld i H x H' → g x σ H' fun σ2 H2 => t ⟨N, rt, nx, N⟩ σ2 H2) := by
  refine ⟨fun i m σ H => m = xs.length - i ∧ i ≤ xs.length ∧ Pv i σ H, ⟨_, rfl, Nat.zero_le _, h0⟩, ?_⟩
  rintro i m σ H ⟨rfl, hi, p⟩
  by_cases hlt : i < xs.length
  · have hx : xs[xs.length - 1 - i]? = some xs[xs.length - 1 - i] := List.getElem?_eq_getElem (by omega)
    refine .inr ⟨⟨hlt, xs, _, hl i σ H hi p, hx⟩, Pv (i + 1), fun σ' H' p' => ⟨xs.length - (i + 1), by omega, rfl, hlt, p'⟩, fun x H' y => ?_⟩
    obtain ⟨e, hy⟩ := y
    subst e
    have h1 := hy xs (hl i σ _ hi p)
    exact hs (Pv (i + 1)) i x σ _ (by rw [List.getElem?_reverse hlt]; exact h1) p fun _ _ q => q
  · have e : i = xs.length := by omega
    subst e
    exact .inl ⟨Nat.le_refl _, hd σ H p⟩
theorem z_lc_rev {xs : List V} {g : TG} {vs : List Nat} {D : Addr} {Qd : Hp → Prop} (Pv : Nat → List V → Hp → Prop) (nD : H D = none) (h0 : ∀ H', Ext [] H H' → Pv 0 [] H') (hl : ∀ i acc H, i ≤ xs.length → Pv i acc H → SqL K H a xs)
    (hs : ∀ (Nx : Hp → Prop) i x acc H, xs.reverse[i]? = some x → Pv i acc H → H D = some (.lst acc) → (∀ acc' H', Pv (i + 1) acc' H' → H' D = some (.lst acc') → Nx H') → g x (wipe σ vs) H fun σ2 H2 => wipe σ2 vs = wipe σ vs ∧ tt σ2 H2 fun b H3 =>
      if b = true then te σ2 H3 fun y H4 => ∃ acc, H4 D = some (.lst acc) ∧ acc.length < sizeLine ∧ Nx (upd H4 D (.lst (acc ++ [y]))) else Nx H3) (hd : ∀ acc H, Pv xs.length acc H → H D = some (.lst acc) → Qd H) :
    ∃ W : Nat → Nat → Hp → Prop, (∃ m, W 0 m (upd H D (.lst []))) ∧ ∀ i m H, W i m H →
      ((Itv K a xs.length).stop i H ∧ Qd H) ∨ ((Itv K a xs.length).go i H ∧ ∃ Nx : Hp → Prop, (∀ H', Nx H' → ∃ m', m' < m ∧ W (i + 1) m' H') ∧ ∀ x H', (Itv K a xs.length).yld i H x H' → g x (wipe σ vs) H' fun σ2 H2 => wipe σ2 vs = wipe σ vs ∧ tt σ2 H2 fun b H3 =>
        if b = true then te σ2 H3 fun y H4 => ∃ acc, H4 D = some (.lst acc) ∧ acc.length < sizeLine ∧ Nx (upd H4 D (.lst (acc ++ [y]))) else Nx H3) := by
  refine ⟨fun i m H => m = xs.length - i ∧ i ≤ xs.length ∧ ∃ acc, Pv i acc H ∧ H D = some (.lst acc), ⟨_, rfl, Nat.zero_le _, [], h0 _ (Ext.new nD), upd_same⟩, ?_⟩
  rintro i m H ⟨rfl, hi, acc, p, hD⟩
  by_cases hlt : i < xs.length
  · have hx : xs[xs.length - 1 - i]? = some xs[xs.length - 1 - i] := List.getElem?_eq_getElem (by omega)
    refine .inr ⟨⟨hlt, xs, _, hl i acc H hi p, hx⟩, (fun H => ∃ acc, Pv (i + 1) acc H ∧ H D = some (.lst acc)), fun H' p' => ⟨xs.length - (i + 1), by omega, rfl, hlt, p'⟩, fun x H' y => ?_⟩
    obtain ⟨e, hy⟩ := y
    subst e
    have h1 := hy xs (hl i acc _ hi p)
    exact hs _ i x acc _ (by rw [List.getElem?_reverse hlt]; exact h1) p hD fun acc' H' p' h' => ⟨acc', p', h'⟩
  · have e : i = xs.length := by omega
    subst e
    exact .inl ⟨Nat.le_refl _, hd acc H p hD⟩
/-! what is told the same: data of one form, lists of such -/
def Sl : Nat → Hp → V → V → Prop
  | 0, _, _, _ => False
  | n + 1, H, a, b => (∃ d, d.depth ≤ n ∧ Im H a d ∧ Im H b d) ∨ (∃ p q xs ys, a = .ref p ∧ b = .ref q ∧ H p = some (.lst xs) ∧ H q = some (.lst ys) ∧ xs.length ≤ 1000 ∧ Paired (Sl n H) xs ys)
theorem dAll_mem {d : PyData} : ∀ {ds : List PyData}, d ∈ ds → d.depth ≤ PyData.depthAll ds
  | x :: xs, h => by
    rw [PyData.depthAll]
    rcases List.mem_cons.mp h with h | h
    · rw [h]; exact Nat.le_max_left _ _
    · exact Nat.le_trans (dAll_mem h) (Nat.le_max_right _ _)
theorem d_tup (ds : List PyData) : (PyData.tuple ds).depth = PyData.depthAll ds + 1 := by rw [PyData.depth]
theorem Sl.im {n : Nat} {H : Hp} {a b : V} {d : PyData} (l : d.depth < n) (h : Im H a d) (k : Im H b d) : Sl n H a b := by
  cases n with
  | zero => omega
  | succ n => exact .inl ⟨d, by omega, h, k⟩
theorem Sl.ext {H H' : Hp} (e : Ext [] H H') : ∀ {n : Nat} {a b : V}, Sl n H a b → Sl n H' a b
  | 0, _, _, h => h
  | n + 1, a, b, h => by
    rcases h with ⟨d, l, i, j⟩ | ⟨p, q, xs, ys, rfl, rfl, hp, hq, lz, w⟩
    · exact .inl ⟨d, l, i.ext e, j.ext e⟩
    · exact .inr ⟨p, q, xs, ys, rfl, rfl, e.keep _ _ hp List.not_mem_nil, e.keep _ _ hq List.not_mem_nil, lz, Paired.mapP w fun _ _ z => Sl.ext e z⟩
theorem im_at0 {H : Hp} {a : Addr} {xs : List V} {ds : List PyData} (h : H a = some (.tup xs)) (i : Im H (.ref a) (.tuple ds)) : ImAll H xs ds := by
  cases i with
  | tup h' _ k => rw [h] at h'; cases h'; exact k
end
end Zk

set_option Elab.async false
set_option linter.all false
set_option maxRecDepth 100000
set_option maxHeartbeats 4000000
namespace L2
open PySem PySem.Spec PyProof.Rows
/-! ### several except clauses, each with a name or without -/
abbrev Cl3 := Value × Option Nat × (Addr → Value → Option Addr → TS)
def behindAs (D : Ends) (i : Nat) : Ends := { nx := fun σ' H' => D.nx (σ'.set i none) H', rt := D.rt, bk := fun σ' H' => D.bk (σ'.set i none) H', ct := fun σ' H' => D.ct (σ'.set i none) H' }
def wAll (K : PySem.W.Frag) (Wout : WX) (D : Ends) : List Cl3 → WX
  | [] => Wout
  | (c, none, ts) :: r => fun cls d σ H => ∃ b, PySem.W.exmOne K cls c = some b ∧ (b = true → ∀ a, H a = none → ts a cls d D σ H) ∧ (b = false → wAll K Wout D r cls d σ H)
  | (c, some i, ts) :: r => fun cls d σ H => ∃ b, PySem.W.exmOne K cls c = some b ∧ (b = true → ∀ a, H a = none → ts a cls d (behindAs D i) (σ.set i (some (.ref a))) H) ∧ (b = false → wAll K Wout D r cls d σ H)
inductive HdsZ (X : Cx) : List ExceptHandler → List Cl3 → Prop
  | nil : HdsZ X [] []
  | bare {x : Str} {c : Value} {ts : Addr → Value → Option Addr → TS} {st : Stmt} {su : List Stmt} {p1 p2 : Pos} {hds : List ExceptHandler} {l : List Cl3} (hc : Names X x c)
      (hsu : ∀ (a : Addr) (oe : Obj) (cls : Value) (d : Option Addr) (pn : List (Addr × Obj)), Zc cls d oe → (∃ vs, oe.data = .fields vs) → PSs (X.suite a ((a, oe) :: pn)) (st :: su) (ts a cls d)) (r : HdsZ X hds l) :
      HdsZ X (.ExceptHandler (some (.Name x p1)) none (st :: su) p2 :: hds) ((c, none, ts) :: l)
  | named {x n : Str} {c : Value} {i : Nat} {ts : Addr → Value → Option Addr → TS} {st : Stmt} {su : List Stmt} {p1 p2 : Pos} {hds : List ExceptHandler} {l : List Cl3} (hi : X.N[i]? = some n) (hl : X.env.kindOf n = some .local) (hc : Names X x c)
      (hsu : ∀ (a : Addr) (oe : Obj) (cls : Value) (d : Option Addr) (pn : List (Addr × Obj)), Zc cls d oe → (∃ vs, oe.data = .fields vs) → PSs (X.suite a ((a, oe) :: pn)) (st :: su) (ts a cls d)) (r : HdsZ X hds l) :
      HdsZ X (.ExceptHandler (some (.Name x p1)) (some n) (st :: su) p2 :: hds) ((c, some i, ts) :: l)
section
variable {X : Cx} {bd : List Stmt} {hd0 : ExceptHandler} {hds : List ExceptHandler} {l : List Cl3} {pos : Pos} {tb : WX → TS} {Wout : WX}
theorem ps_try_all (hs : X.stack = X.env :: X.outer) (hf : X.env.frame = some X.env.locals) (hN : X.N.Nodup) (tk : Takes X Wout)
    (hb : ∀ (W : WX) (pn : List (Addr × Obj)) (xe : Value → Shared → Prop), Takes (X.tr pn xe) W → PassesOwn (model X.prog X.w) X.A X.env xe → PSs (X.tr pn xe) bd (tb W))
    (hh : HdsZ X (hd0 :: hds) l) : PS X (.Try bd (hd0 :: hds) [] [] pos) (fun D σ H => tb (wAll X.K Wout D l) D σ H) := by
  refine ⟨fun pins s σ H D I h => ?_⟩
  have okX := I.ok
  have frX : X.A.frames = some (X.env :: X.outer) := by rw [okX.frames, hs]
  refine wpAny_Try_except ?_
  refine wpAny_mono ((hb (wAll X.K Wout D l) (X.pn ++ pins) (fun u1 t1 => wpAny (model X.prog X.w) X.A (noteFrame u1 X.env) (fun _ t2 => wpAny (model X.prog X.w) X.A (setFlight u1 none) (fun _ t3 =>
    wpAny (model X.prog X.w) X.A (handleBy u1 X.env (hd0 :: hds)) (SP X pins D) X.xe t3) X.xe t2) X.xe t1) (fun u s' xx => ?_) PassesOwn.looking).run [] s σ H D (I.toTry _) h) (fun fl s1 got => ?_) (fun _ _ z => z)
  · obtain ⟨a, B, sI, pins', σ', H', cls, d, rfl, Jt, nb, up, sky, na, os, ag, wsh⟩ := xx
    have J0 : Inv X pins σ' H' sI := Jt.ofTry okX
    have sky2 : Sky B (X.env :: X.outer) a (Zc cls d) X.env.locals s'.heap := by rw [← hs]; exact sky
    show wpAny (model X.prog X.w) X.A (noteFrame (.ref a) X.env) _ _ _
    refine Sky.land Zc.steady frX hf sky2 fun hp3 w3 up3 => ?_
    have I3 : Inv X pins σ' H' { s' with heap := hp3 } := J0.landed nb w3.1 (up.trans up3) os ag
    obtain ⟨ob3, fv3, at3, zc3, da3⟩ := w3.there
    have noFrame : ∀ {hh : Heap} {oo : Obj} {ff : Array Value}, hh.FunFrames B (X.env :: X.outer) → hh.get? a = some oo → oo.data = .fields ff → a ∉ frs (X.env :: X.outer) := fun {hh oo ff} fr e1 e2 hm => by
      obtain ⟨_, o2, e3, nf⟩ := fr.mem hm
      rw [e1] at e3; cases e3
      exact nf _ e2
    have nfr3 := noFrame w3.2.2.1 at3 da3
    have neL : a ≠ X.env.locals := fun z => nfr3 (List.mem_filterMap.mpr ⟨X.env, List.mem_cons_self, by rw [hf, z]⟩)
    have neF : a ∉ X.fs := fun hm => by
      obtain ⟨ev, hv, q⟩ := List.mem_filterMap.mp hm
      exact nfr3 (List.mem_filterMap.mpr ⟨ev, List.mem_cons_of_mem _ hv, q⟩)
    have Su3 := I3.suite at3 da3 na neL neF
    have look : PySem.W.Looks (model X.prog X.w) hp3 (typeOf (.ref a)) cls := fun A Q E s k q => wpAny_typeOf_ref (k _ _ at3) (by rw [zc3.1]; exact q)
    have asks : ∀ {x : Str} {c : Value} {np : Pos} {Q : Value → Shared → Prop} {E : Value → Shared → Prop}, Names X x c → Q c { s' with heap := hp3 } → wpAny (model X.prog X.w) (X.A.mark (some (.ref a))) (eval (.Name x np) X.env) Q E { s' with heap := hp3 } := fun {x c np Q E} hc q => by
      obtain ⟨hg, hdbg, hm | ⟨hm, hv, hnn⟩⟩ := hc
      · exact ld_glob (X := X.suite a ((a, ob3) :: (X.pn ++ pins))) Su3 hg hm q hdbg
      · exact ld_blt (X := X.suite a ((a, ob3) :: (X.pn ++ pins))) Su3 hg hm hv q hnn hdbg
    have walk : ∀ {hs2 : List ExceptHandler} {l2 : List Cl3}, HdsZ X hs2 l2 → wAll X.K Wout D l2 cls d σ' H' →
        wpAny (model X.prog X.w) X.A (handleBy (.ref a) X.env hs2) (SP X pins D) X.xe { s' with heap := hp3 } := by
      intro hs2 l2 hk
      induction hk with
      | nil =>
        intro w
        refine wpAny_handleBy_nil ?_
        obtain ⟨_, _, _, ob, fv, T, oT, _, hat, _, hda, h1, _⟩ := id w3
        unfold PySem.passOn
        refine wpAny_bind (wpAny_field hat hda h1 ?_)
        rw [if_neg (show ¬ ((Value.ref T == Value.none) = true) from by simp)]
        have leave : wpAny (model X.prog X.w) X.A (setFlight (.ref a) X.env.frame) (fun _ s4 => wpAny (model X.prog X.w) X.A (throw (.ref a) : Sem Flow) (SP X pins D) X.xe s4) X.xe { s' with heap := hp3 } := by
          rw [hf]
          refine HandSPX.setFlight_upZ w3 fun hp4 w4 up4 => wpAny_throw (tk _ _ ?_)
          exact ⟨a, B, sI, pins, σ', H', cls, d, rfl, J0, nb, (up.trans up3).trans up4, .inr (.inr (by rw [hs]; exact w4)), na, os, ag, w⟩
        first
          | exact wpAny_bind (wpAny_pure (wpAny_bind leave))
          | exact wpAny_bind leave
      | @bare x c ts st su p1 p2 hds2 l2 hc hsu r ih =>
        intro w
        obtain ⟨b, hb1, yes, no⟩ := w
        refine wpAny_handleBy_cons (codeAny_handlers_test ?_) (by intro q; cases q)
        refine asks hc ((PySem.W.exm_one (M := model X.prog X.w) (I3.kIn) look hb1).here ?_)
        cases b with
        | true =>
          refine codeAny_handlers_suite ?_
          refine HandSPX.lands_againZ w3 fun hp4 w4 up4 => ?_
          have I4 : Inv X pins σ' H' { s' with heap := hp4 } := J0.landed nb w4.1 ((up.trans up3).trans up4) os ag
          obtain ⟨ob4, fv4, at4, zc4, da4⟩ := w4.there
          have Su4 := I4.suite at4 da4 na neL neF
          refine wpAny_mono ((hsu a ob4 cls d (X.pn ++ pins) zc4 ⟨_, da4⟩).run [] _ _ H' _ Su4 (yes rfl a na)) (fun fl s6 got => ?_) (fun _ _ z => False.elim z)
          cases fl with
          | next =>
            obtain ⟨σ6, H6, Su6, q6⟩ := got
            exact ⟨_, _, Su6.unsuite okX, q6⟩
          | brk =>
            obtain ⟨σ6, H6, Su6, q6⟩ := got
            exact ⟨_, _, Su6.unsuite okX, q6⟩
          | cont =>
            obtain ⟨σ6, H6, Su6, q6⟩ := got
            exact ⟨_, _, Su6.unsuite okX, q6⟩
          | ret u =>
            obtain ⟨v6, σ6, H6, Su6, r6, q6⟩ := got
            exact ⟨_, _, _, Su6.unsuite okX, r6, q6⟩
        | false =>
          show wpAny _ X.A (handleBy (.ref a) X.env hds2) _ _ _
          exact ih (no rfl)
      | @named x n c i ts st su p1 p2 hds2 l2 hi hl hc hsu r ih =>
        intro w
        obtain ⟨b, hb1, yes, no⟩ := w
        refine wpAny_handleBy_cons (codeAny_handlers_test ?_) (by intro q; cases q)
        refine asks hc ((PySem.W.exm_one (M := model X.prog X.w) (I3.kIn) look hb1).here ?_)
        cases b with
        | true =>
          refine codeAny_handlers_suite_as ?_
          refine HandSPX.lands_againZ w3 fun hp4 w4 up4 => ?_
          have I4 : Inv X pins σ' H' { s' with heap := hp4 } := J0.landed nb w4.1 ((up.trans up3).trans up4) os ag
          obtain ⟨ob4, fv4, at4, zc4, da4⟩ := w4.there
          have Su4 := I4.suite at4 da4 na neL neF
          have hloc : Loc X.env.scope n := .inl hl
          refine store_ok (X := X.suite a ((a, ob4) :: (X.pn ++ pins))) (v := .ref a) Su4 hN hi hloc rfl (fun s5 Su5 => ?_) (.inr hl)
          refine wpAny_mono ((hsu a ob4 cls d (X.pn ++ pins) zc4 ⟨_, da4⟩).run [] s5 _ H' _ Su5 (yes rfl a na)) (fun fl s6 got => ?_) (fun _ _ z => False.elim z)
          have out : ∀ {σ6 : St} {H6 : Hp} {Q : Shared → Prop}, Inv (X.suite a ((a, ob4) :: (X.pn ++ pins))) [] σ6 H6 s6 → (∀ s7, Inv X pins (σ6.set i none) H6 s7 → Q s7) →
              wpAny (model X.prog X.w) X.A (do bindName X.env n .none; unbindBehindTheSuite X.env n p2) (fun _ s7 => Q s7) X.xe s6 := fun {σ6 H6 Q} Su6 hq => gone_ok (Su6.unsuite okX) hN hi hl hq
          cases fl with
          | next =>
            obtain ⟨σ6, H6, Su6, q6⟩ := got
            exact out Su6 fun s7 J7 => ⟨_, _, J7, q6⟩
          | brk =>
            obtain ⟨σ6, H6, Su6, q6⟩ := got
            exact out Su6 fun s7 J7 => ⟨_, _, J7, q6⟩
          | cont =>
            obtain ⟨σ6, H6, Su6, q6⟩ := got
            exact out Su6 fun s7 J7 => ⟨_, _, J7, q6⟩
          | ret u =>
            obtain ⟨v6, σ6, H6, Su6, r6, q6⟩ := got
            exact out Su6 fun s7 J7 => ⟨_, _, _, J7, r6, q6⟩
        | false =>
          show wpAny _ X.A (handleBy (.ref a) X.env hds2) _ _ _
          exact ih (no rfl)
    exact walk hh wsh
  · cases fl with
    | next =>
      obtain ⟨σ2, H2, J2, q⟩ := got
      exact wpAny_execs_nil ⟨σ2, H2, J2.ofTry okX, q⟩
    | brk =>
      obtain ⟨σ2, H2, J2, q⟩ := got
      exact ⟨σ2, H2, J2.ofTry okX, q⟩
    | cont =>
      obtain ⟨σ2, H2, J2, q⟩ := got
      exact ⟨σ2, H2, J2.ofTry okX, q⟩
    | ret u =>
      obtain ⟨v, σ2, H2, J2, rv, q⟩ := got
      exact ⟨v, σ2, H2, J2.ofTry okX, rv, q⟩
end
theorem ps_try_allK {X : Cx} {K : PySem.W.Frag} {bd : List Stmt} {hd0 : ExceptHandler} {hds : List ExceptHandler} {l : List Cl3} {pos : Pos} {tb : WX → TS} {Wout : WX} (hK : X.K = K) (hs : X.stack = X.env :: X.outer) (hf : X.env.frame = some X.env.locals) (hN : X.N.Nodup) (tk : Takes X Wout)
    (hb : ∀ (W : WX) (pn : List (Addr × Obj)) (xe : Value → Shared → Prop), Takes (X.tr pn xe) W → PassesOwn (model X.prog X.w) X.A X.env xe → PSs (X.tr pn xe) bd (tb W))
    (hh : HdsZ X (hd0 :: hds) l) : PS X (.Try bd (hd0 :: hds) [] [] pos) (fun D σ H => tb (wAll K Wout D l) D σ H) := by
  subst hK
  exact ps_try_all hs hf hN tk hb hh
/-- what is raised while a dict is walked: the dict is free again -/
theorem takes_unlk {X : Cx} {W : WX} (tk : Takes X W) : Takes X (fun cls d σ H => W cls d σ H ∨ ∃ (d0 : Addr) (od : Obj) (u : HO), H d0 = some (.frz od u) ∧ (∀ o' u', X.H_0 d0 ≠ some (.frz o' u')) ∧ W cls d σ (upd H d0 u)) := by
  rintro u s' ⟨a, B, sI, pins, σ, H, cls, d, e, I, nb, up, sky, na, os, ag, w | ⟨d0, od, u0, h0, hn, w⟩⟩
  · exact tk u s' ⟨a, B, sI, pins, σ, H, cls, d, e, I, nb, up, sky, na, os, ag, w⟩
  · refine tk u s' ⟨a, B, sI, pins, σ, _, cls, d, e, I.unlock h0 hn, nb, up, sky, ?_, os, ag, w⟩
    rw [upd_ne (fun z => by rw [z, h0] at na; cases na)]
    exact na
theorem takesNo {X : Cx} : Takes X (fun _ _ _ _ => False) := takes_none5
/-! ### a method that may raise, called within a try; one that is called where it does not raise -/
def tMethT (C : Addr) (m : Str) (sp : Sp) (E : St → XK) (ta : TE) (t : TA) : TE := fun σ H Q => ta σ H fun x H1 => ∃ a dx fs, x = .ref a ∧ H1 a = some (.ins C dx fs) ∧ fs.lookup m = none ∧ t σ H1 fun vs H2 => sp (x :: vs) H2 Q (E σ)
section
variable {X : Cx} {CX : CXT} {k : Nat} {f C : Addr} {fd : FuncData} {ps : List Str} {sp : Sp} {E : St → XK} {m : Str} {pos apos : Pos} {e o : Expr} {es : List Expr} {ta : TE} {t : TA}
theorem pe_methT {pl : Sem Bool} (he : PE X o ta) (c : Cls X.K C) (hm : Meth X.K C m f) (F : FnOk X.prog X.w X.K X.mg X.base CX k f fd ps sp) (hr : Room k X.A) (hb : Binds X.K fd ps []) (hx : ∀ σ, PassesAt CX X σ (E σ)) (ha : PA X (e :: es) t)
    (h1 : starEach (e :: es) X.env = (false, eval e X.env) :: starEach es X.env := by rfl) (h2 : (backTo pos (starEach es X.env)).any (·.1) = false := by rfl)
    (h3 : eval (.Call (.Attribute o m apos) (e :: es) [] pos) X.env = (do
      let w ← eval o X.env
      standAt apos.atName
      let (g, args) ← holding [w] (getMethod w m pl)
      callWith pos g args (backTo pos (starEach (e :: es) X.env)) (backToKw pos (keywordEach [] X.env))) := by rfl) :
    PE X (.Call (.Attribute o m apos) (e :: es) [] pos) (tMethT C m sp E ta t) := by
  refine ⟨fun pins s σ H Q I h => PySem.W.methodCall_KW (pl := pl) (thn (he.run pins s σ H _ I h) fun u s1 hh => ?_) h3⟩
  obtain ⟨x, H1, I1, rx, a, dx, fs, ex, ea, ml, q⟩ := hh
  subst ex
  obtain rfl : u = Value.ref a := rx
  refine getmeth_ok I1 ea c hm ml (PySem.W.callWith_K (first := [.ref a]) (h₀ := X.base) I.ok.mod.kin hm.kp (thn (ha.run pos pins s1 σ H1 _ I1 q) fun us s2 z => ?_) h1 h2)
  obtain ⟨vs, H2, I2, r, q2⟩ := z
  exact ⟨I2.kIn, run_fnS (us := .ref a :: us) (vs := .ref a :: vs) F hr hb (hx σ) I2 (.cons rfl r) q2⟩
end
/-- no way out that is ever taken -/
theorem passF {X : Cx} {CX : CXT} (h : ∀ st H s e s', ¬ CX st H s (fun _ _ _ => False) e s') : Passes CX X (fun _ _ _ => False) := fun _ _ _ _ _ _ _ z => (h _ _ _ _ _ z).elim
end L2
namespace Zk
open PySem PySem.Spec L2
open PyProof.Rows hiding St
theorem passX {X : Cx} : Passes (L2.CX X.prog X.w) X (fun _ _ _ => False) := fun _ _ _ _ _ _ _ z => by
  obtain ⟨_, _, _, _, _, _, _, _, _, _, _, _, e⟩ := z
  exact e.elim
/-! ### data compared -/
def rGtD (K : PySem.W.Frag) : R2 := fun x y H Q => ∃ d e, Dp K H x d ∧ Dp K H y e ∧ PySem.W.alike d e = true ∧ d ≠ .none ∧ min d.depth e.depth ≤ 64 ∧ Q (.bl (PySem.W.dataLt e d)) H
theorem op_gtD {X : Cx} {K : PySem.W.Frag} (hK : X.K = K) (hu : X.A.units + 64 < cLine) : OpR X (compareOp .Gt) (rGtD K) := by
  subst hK
  intro pins s σ H x y v u Q I rx ry h
  obtain ⟨d, e, hd, he, al, nn, dp, q⟩ := h
  obtain ⟨as, r1⟩ := Dp.reads I d x v hd rx
  obtain ⟨bs, r2⟩ := Dp.reads I e y u he ry
  exact PySem.W.gt_data r1 r2 al nn (Nat.lt_of_le_of_lt (Nat.add_le_add_left dp _) hu) ⟨.bl _, H, I, rfl, q⟩
/-- a list grows, within a try or a comprehension -/
theorem pe_appK {X : Cx} {K : PySem.W.Frag} {o e : Expr} {to : TE} {t : TA} {apos cpos : Pos} (hK : X.K = K) (ho : PE X o to) (ha : PA X [e] t) (hbase : attributeBase o "append" X.env (eval o X.env) = eval o X.env) (hline : (apos.endLine == cpos.line) = true)
    (hs : starEach [e] X.env = (false, eval e X.env) :: starEach [] X.env) : PE X (.Call (.Attribute o "append" apos) [e] [] cpos) (tBM K "list" zAppend to t) := by
  subst hK
  exact pe_bm PySem.F.plainAttrs_list PySem.F.slot_list_append PySem.F.type_list_append zmt_append ho ha hbase (by rw [hs] <;> rfl) hline hs rfl
theorem pi_listK {X : Cx} {tg e : Expr} {te : TE} {K : PySem.W.Frag} (hK : X.K = K) (he : PE X e te) : PI X tg e (iList K te) := by
  subst hK
  exact pi_list he
theorem pi_tupK {X : Cx} {tg e : Expr} {te : TE} {K : PySem.W.Frag} (hK : X.K = K) (he : PE X e te) : PI X tg e (iTup K te) := by
  subst hK
  exact pi_tup he
theorem pe_fldK {X : Cx} {e : Expr} {f : Str} {pos : Pos} {ta : TE} {K : PySem.W.Frag} (hK : X.K = K) (he : PE X e ta) (hb : attributeBase e f X.env (eval e X.env) = eval e X.env := by rfl) : PE X (.Attribute e f pos) (tFld K ta f) := by
  subst hK
  exact pe_fld he hb
/-! ### objects: reading a field, storing one, calling a method, making one -/
section
variable {K : PySem.W.Frag} {σ : L2.St} {H : Hp} {Q : VK} {a C dx : Addr} {fs : List (Str × V)} {f m : Str} {v y : V} {ta tv : TE} {t : TA} {nx bk ct : L2.St → Hp → Prop} {rt : VK} {sp : Sp} {dvs : List V} {E : XK}
theorem w_tfld (h : ta σ H fun x H1 => ∃ a C dx fs v, x = .ref a ∧ H1 a = some (.ins C dx fs) ∧ Cls K C ∧ NoAttr K C f ∧ fs.lookup f = some v ∧ Q v H1) : tFld K ta f σ H Q := h
theorem w_fld (h : H a = some (.ins C dx fs)) (c : Cls K C) (n : NoAttr K C f) (l : fs.lookup f = some v) (q : Q v H) : ∃ a' C dx fs v, V.ref a = .ref a' ∧ H a' = some (.ins C dx fs) ∧ Cls K C ∧ NoAttr K C f ∧ fs.lookup f = some v ∧ Q v H := ⟨a, C, dx, fs, v, rfl, h, c, n, l, q⟩
theorem w_tsfld (h : tv σ H fun y H1 => ta σ H1 fun x H2 => ∃ a C dx fs, x = .ref a ∧ H2 a = some (.ins C dx fs) ∧ Cls K C ∧ NoAttr K C f ∧ fs.length < 1000 ∧ nx σ (upd H2 a (.ins C dx (L2.putF f y fs)))) : sFld K ta tv f ⟨nx, rt, bk, ct⟩ σ H := h
theorem w_sfld {gs : List (Str × V)} {N : Hp → Prop} (h : H a = some (.ins C dx fs)) (c : Cls K C) (n : NoAttr K C f) (l : fs.length < 1000) (e : L2.putF f y fs = gs) (k : ∀ H', Ext [a] H H' → H' a = some (.ins C dx gs) → N H') :
    ∃ a' C dx fs, V.ref a = .ref a' ∧ H a' = some (.ins C dx fs) ∧ Cls K C ∧ NoAttr K C f ∧ fs.length < 1000 ∧ N (upd H a' (.ins C dx (L2.putF f y fs))) :=
  ⟨a, C, dx, fs, rfl, h, c, n, l, by rw [e]; exact k _ (Ext.mut h (fun z => z) (List.mem_singleton.mpr rfl)) upd_same⟩
theorem w_tmeth (h : ta σ H fun x H1 => ∃ a dx fs, x = .ref a ∧ H1 a = some (.ins C dx fs) ∧ fs.lookup m = none ∧ t σ H1 fun vs H2 => sp (x :: (vs ++ dvs)) H2 Q E) : tMeth C m sp dvs E ta t σ H Q := h
theorem w_tmethT {ET : L2.St → XK} (h : ta σ H fun x H1 => ∃ a dx fs, x = .ref a ∧ H1 a = some (.ins C dx fs) ∧ fs.lookup m = none ∧ t σ H1 fun vs H2 => sp (x :: vs) H2 Q (ET σ)) : tMethT C m sp ET ta t σ H Q := h
theorem w_meth {P : Prop} (h : H a = some (.ins C dx fs)) (l : fs.lookup m = none) (k : P) : ∃ a' dx fs, V.ref a = .ref a' ∧ H a' = some (.ins C dx fs) ∧ fs.lookup m = none ∧ P := ⟨a, dx, fs, rfl, h, l, k⟩
theorem w_tmake (h : t σ H fun vs H1 => ∀ x dx, H1 x = none → H1 dx = none → dx ≠ x → sp (.ref x :: (vs ++ dvs)) (upd (upd H1 dx (.own x)) x (.ins C dx [])) (fun v H2 => v = .non ∧ Q (.ref x) H2) E) : tMake C sp dvs E t σ H Q := h
/-- a fresh instance -/
theorem make_ext {x dx : Addr} (nx : H x = none) (nd : H dx = none) (ne : dx ≠ x) : Ext [] H (upd (upd H dx (.own x)) x (.ins C dx [])) :=
  (Ext.new nd).trans (Ext.new (by rw [upd_ne (Ne.symm ne)]; exact nx))
end
/-- the fields by name -/
theorem lk_same {f : Str} {v : V} {r : List (Str × V)} : List.lookup f ((f, v) :: r) = some v := by simp [List.lookup]
theorem lk_other {f g : Str} {v : V} {r : List (Str × V)} (h : (f == g) = false) : List.lookup f ((g, v) :: r) = List.lookup f r := by simp [List.lookup, h]
theorem pf_same {f : Str} {v w : V} {r : List (Str × V)} : L2.putF f v ((f, w) :: r) = (f, v) :: r := by unfold L2.putF; rw [if_pos rfl]
theorem pf_other {f g : Str} {v w : V} {r : List (Str × V)} (h : (g == f) = false) : L2.putF f v ((g, w) :: r) = (g, w) :: L2.putF f v r := by
  show (if g = f then _ else _) = _
  rw [if_neg (fun e => by rw [e] at h; simp at h)]
theorem pf_nil {f : Str} {v : V} : L2.putF f v [] = [(f, v)] := rfl
end Zk

set_option Elab.async false
set_option linter.all false
set_option maxRecDepth 100000
set_option maxHeartbeats 4000000
namespace Zk
open PySem PySem.Spec L2
open PyProof.Rows hiding St
/-! ### {(a, b): c, ..}: a display whose keys are tuples -/
section
variable {X : Cx} {pins : List (Addr × Obj)} {σ : L2.St} {s : Shared}
def putAll (qs : List (List Key × Addr × V)) (acc : List (List Key × V)) : List (List Key × V) := qs.foldl (fun acc q => putK acc q.1 q.2.2) acc
theorem upd_twice {H : Hp} {p : Addr} {a b : HO} : upd (upd H p a) p b = upd H p b := by
  funext x
  by_cases z : x = p
  · subst z; rw [upd_same, upd_same]
  · rw [upd_ne z, upd_ne z, upd_ne z]
theorem storeAllT {E : Value → Shared → Prop} {D : Addr} (hu : X.A.units + 1 < cLine) : ∀ (qs : List (List Key × Addr × V)) (ws : List (Value × Value)) (acc : List (List Key × V)) (H : Hp) (s : Shared) (Q : PUnit → Shared → Prop),
    L2.Inv X pins σ (upd H D (.dT acc)) s → VV (qs.map fun q => (V.ref q.2.1, q.2.2)) ws → (∀ q ∈ qs, q.2.1 ≠ D ∧ H q.2.1 = some (.tup (q.1.map kV))) → acc.length + qs.length < sizeLine →
    (∀ s', L2.Inv X pins σ (upd H D (.dT (putAll qs acc))) s' → Q PUnit.unit s') →
    wpAny (model X.prog X.w) X.A (forIn ws PUnit.unit fun (x : Value × Value) (_ : PUnit) => (do dictSet D x.1 x.2; pure (ForInStep.yield PUnit.unit) : Sem (ForInStep PUnit))) Q E s
  | [], ws, acc, H, s, Q, I, r, _, _, hQ => by
    cases r
    rw [List.forIn_nil]
    exact wpAny_pure (hQ s I)
  | q :: qs, ws, acc, H, s, Q, I, r, hk, hz, hQ => by
    rw [List.map_cons] at r
    rw [List.length_cons] at hz
    cases r with
    | @cons a b as bs h t =>
      obtain ⟨b1, b2⟩ := b
      obtain rfl : b1 = Value.ref q.2.1 := h.1
      obtain ⟨n1, n2⟩ := hk q List.mem_cons_self
      rw [List.forIn_cons]
      refine wpAny_bind (wpAny_bind (dictSet_tup hu I upd_same (by rw [upd_ne n1]; exact n2) (by omega) h.2 fun s1 I1 => wpAny_pure ?_))
      rw [upd_twice] at I1
      have l := length_putK acc q.1 (V.ref q.2.1, q.2.2).2
      exact storeAllT hu qs bs _ H s1 Q I1 t (fun x m => hk x (List.mem_cons_of_mem _ m)) (by omega) hQ
def tDispT (trs : List (TE × TE)) : TE := fun σ H Q => ∀ p, H p = none → tPairs trs σ (upd H p (.dT [])) fun ps H2 => H2 p = some (.dT []) ∧ ∃ qs : List (List Key × Addr × V), ps = qs.map (fun q => (V.ref q.2.1, q.2.2)) ∧
  (∀ q ∈ qs, H2 q.2.1 = some (.tup (q.1.map kV))) ∧ Q (.ref p) (upd H2 p (.dT (putAll qs [])))
theorem pe_dispT {pos : Pos} {keys : List (Option Expr)} {values : List Expr} {trs : List (TE × TE)} (hu : X.A.units + 1 < cLine) (h : PPs X pos keys values trs) (hall : keys.all (·.isSome) = true) (hl : keys.length = values.length) (h0 : keys ≠ [])
    (h15 : keys.length ≤ 15) : PE X (.Dict keys values pos) (tDispT trs) := by
  refine ⟨fun pins s σ H Q I q => ?_⟩
  have hn := I.hok.fresh (Nat.le_refl s.heap.objs.size)
  have I1 := I.laid (a := s.heap.objs.size) (o := .dT []) (h' := s.heap.push { cls := .type "dict", data := .dict #[] }) (t' := s.toks) (fun _ _ q => Heap.get?_push_of_some _ q) (Nat.le_refl _) (dt_empty s.heap I.big)
  have ln := pairTrees_length keys values X.env pos hall hl
  have ne : pairTrees keys values X.env pos ≠ [] := fun z => by
    rw [z] at ln
    exact h0 (List.length_eq_zero_iff.mp ln.symm)
  rw [arm_eval_Dict, zip_pairTrees keys values X.env pos hall hl, dictDisplay_pairs _ ne (by omega)]
  refine wpAny_bind (wpAny_standAt (wpAny_bind ?_))
  unfold subDict
  refine wpAny_bind (wpAny_alloc (wpAny_bind (wpAny_holding ?_)))
  rw [if_pos (by rw [ln]; exact h15)]
  refine wpAny_bind (wpAny_mono (wpAny_evalPairs_len (h.run pins _ σ _ _ I1 (q _ hn))) (fun ws s2 h2 => ?_) fun _ _ e => e)
  obtain ⟨hv, ps, H2, I2, rel, e, qs, ep, hk, q2⟩ := h2
  subst ep
  have lq : qs.length = ws.length := by have := paired_len rel; rwa [List.length_map] at this
  have I3 : L2.Inv X pins σ (upd H2 s.heap.objs.size (.dT [])) s2 := by
    have : upd H2 s.heap.objs.size (.dT []) = H2 := by
      funext x
      by_cases z : x = s.heap.objs.size
      · rw [z, upd_same, e]
      · rw [upd_ne z]
    rw [this]; exact I2
  refine wpAny_holding (wpAny_bind (storeAllT hu qs ws [] H2 s2 _ I3 rel (fun x m => ⟨fun z => ?_, hk x m⟩) ?_ fun s3 I4 => wpAny_pure (wpAny_pure (wpAny_pure ⟨.ref s.heap.objs.size, _, I4, rfl, q2⟩))))
  · have := hk x m
    rw [z, e] at this; cases this
  · rw [sizeLine_eq, lq, hv, ln, List.length_nil]; omega
end
section
variable {H : Hp} {Q : VK} {σ : L2.St} {te : TE}
theorem w_part {P : Option Int → Hp → Prop} (h : te σ H fun x H1 => ∃ j : Int, x = .int j ∧ P (some j) H1) : tPart te σ H P := h
theorem w_slL {K : PySem.W.Frag} {a : Addr} {xs : List V} {lo hi : Option Int} (h : SqL K H a xs) (q : Alc (.lst (cutV xs lo hi)) H Q) : rSlL K (.ref a) lo hi H Q := ⟨a, xs, rfl, h, q⟩
theorem w_max2 {i j : Int} (q : Q (.int (if j > i then j else i)) H) : ∃ i' j', [V.int i, V.int j] = [V.int i', V.int j'] ∧ Q (.int (if j' > i' then j' else i')) H := ⟨i, j, rfl, q⟩
theorem w_gtS {K : PySem.W.Frag} {a b : Addr} {s t : Slot} (ha : H a = some (.tup (sVs s))) (hb : H b = some (.tup (sVs t))) (q : Q (.bl (sLt t s)) H) : rGtD K (.ref a) (.ref b) H Q := by
  refine ⟨sD s, sD t, (im_slot ha).dp, (im_slot hb).dp, sD_alike _ _, (fun z => nomatch z), ?_, ?_⟩
  · rw [sD_depth, sD_depth]; decide
  · rw [sD_lt]; exact q
theorem SlotsAt.take {H : Hp} {as : List Addr} {ss : List Slot} (h : SlotsAt H as ss) (n : Nat) : SlotsAt H (as.take n) (ss.take n) := by
  unfold SlotsAt at *
  induction h generalizing n with
  | nil => rw [List.take_nil, List.take_nil]; exact .nil
  | cons h t ih => cases n with
    | zero => exact .nil
    | succ n => exact .cons h (ih n)
end
section
variable {H : Hp} {Q : List (V × V) → Hp → Prop} {tk tv : TE} {σ : L2.St} {r : List (TE × TE)}
theorem w_pnil (q : Q [] H) : tPairs [] σ H Q := q
theorem w_pcons (h : tk σ H fun x H1 => tv σ H1 fun y H2 => tPairs r σ H2 fun ps H3 => Q ((x, y) :: ps) H3) : tPairs ((tk, tv) :: r) σ H Q := h
theorem w_dispT {trs : List (TE × TE)} {QV : VK} (k : ∀ p H', Ext [] H H' → H p = none → H' p = some (.dT []) → tPairs trs σ H' fun ps H2 => H2 p = some (.dT []) ∧ ∃ qs : List (List Key × Addr × V), ps = qs.map (fun q => (V.ref q.2.1, q.2.2)) ∧
  (∀ q ∈ qs, H2 q.2.1 = some (.tup (q.1.map kV))) ∧ QV (.ref p) (upd H2 p (.dT (putAll qs [])))) : tDispT trs σ H QV := fun p np => k p _ (Ext.new np) np upd_same
end
/-! ### a dict made of a list, of a tuple -/
theorem z_dc_list {xs : List V} {a : Addr} {g : TG} {tk tv : TE} {tt : TT} {vs : List Nat} {D : Addr} {Qd : Hp → Prop} {σ : L2.St} {H : Hp} {K : PySem.W.Frag} (Pv : Nat → Hp → Prop) (h0 : ∀ H', Ext [] H H' → H' D = some (.dT []) → Pv 0 H') (nD : H D = none) (hl : ∀ i H, i ≤ xs.length → Pv i H → SqL K H a xs)
    (hs : ∀ (Nx : Hp → Prop) i x H, xs[i]? = some x → Pv i H → (∀ H', Pv (i + 1) H' → Nx H') → g x (wipe σ vs) H fun σ2 H2 => wipe σ2 vs = wipe σ vs ∧ tt σ2 H2 fun b H3 =>
      if b = true then tk σ2 H3 fun y H4 => tv σ2 H4 fun z H5 => ∃ kvs k q, y = .ref q ∧ H5 q = some (.tup (k.map kV)) ∧ H5 D = some (.dT kvs) ∧ kvs.length < sizeLine ∧ Nx (upd H5 D (.dT (putK kvs k z))) else Nx H3) (hd : ∀ H, Pv xs.length H → Qd H) :
    ∃ W : Nat → Nat → Hp → Prop, (∃ m, W 0 m (upd H D (.dT []))) ∧ ∀ i m H, W i m H →
      ((Itl K a).stop i H ∧ Qd H) ∨ ((Itl K a).go i H ∧ ∃ Nx : Hp → Prop, (∀ H', Nx H' → ∃ m', m' < m ∧ W (i + 1) m' H') ∧ ∀ x H', (Itl K a).yld i H x H' → g x (wipe σ vs) H' fun σ2 H2 => wipe σ2 vs = wipe σ vs ∧ tt σ2 H2 fun b H3 =>
        if b = true then tk σ2 H3 fun y H4 => tv σ2 H4 fun z H5 => ∃ kvs k q, y = .ref q ∧ H5 q = some (.tup (k.map kV)) ∧ H5 D = some (.dT kvs) ∧ kvs.length < sizeLine ∧ Nx (upd H5 D (.dT (putK kvs k z))) else Nx H3) := by
  refine ⟨fun i m H => m = xs.length - i ∧ i ≤ xs.length ∧ Pv i H, ⟨_, rfl, Nat.zero_le _, h0 _ (Ext.new nD) upd_same⟩, ?_⟩
  rintro i m' H ⟨rfl, hi, p⟩
  have sq := hl i H hi p
  rcases Nat.lt_or_ge i xs.length with hlt | hge
  · refine .inr ⟨⟨xs, xs[i], sq, List.getElem?_eq_getElem hlt⟩, Pv (i + 1), fun H' p' => ⟨xs.length - (i + 1), by omega, rfl, hlt, p'⟩, fun x H' y => ?_⟩
    obtain ⟨e, y⟩ := y
    subst e
    exact hs (Pv (i + 1)) i x _ (y xs sq) p fun _ q => q
  · have e : i = xs.length := by omega
    subst e
    exact .inl ⟨⟨xs, sq, Nat.le_refl _⟩, hd H p⟩
theorem z_dc_tup {xs : List V} {a : Addr} {g : TG} {tk tv : TE} {tt : TT} {vs : List Nat} {D : Addr} {Qd : Hp → Prop} {σ : L2.St} {H : Hp} {K : PySem.W.Frag} (Pv : Nat → Hp → Prop) (h0 : ∀ H', Ext [] H H' → H' D = some (.dT []) → Pv 0 H') (nD : H D = none) (hl : ∀ i H, i ≤ xs.length → Pv i H → SqT K H a xs)
    (hs : ∀ (Nx : Hp → Prop) i x H, xs[i]? = some x → Pv i H → (∀ H', Pv (i + 1) H' → Nx H') → g x (wipe σ vs) H fun σ2 H2 => wipe σ2 vs = wipe σ vs ∧ tt σ2 H2 fun b H3 =>
      if b = true then tk σ2 H3 fun y H4 => tv σ2 H4 fun z H5 => ∃ kvs k q, y = .ref q ∧ H5 q = some (.tup (k.map kV)) ∧ H5 D = some (.dT kvs) ∧ kvs.length < sizeLine ∧ Nx (upd H5 D (.dT (putK kvs k z))) else Nx H3) (hd : ∀ H, Pv xs.length H → Qd H) :
    ∃ W : Nat → Nat → Hp → Prop, (∃ m, W 0 m (upd H D (.dT []))) ∧ ∀ i m H, W i m H →
      ((Itt K a).stop i H ∧ Qd H) ∨ ((Itt K a).go i H ∧ ∃ Nx : Hp → Prop, (∀ H', Nx H' → ∃ m', m' < m ∧ W (i + 1) m' H') ∧ ∀ x H', (Itt K a).yld i H x H' → g x (wipe σ vs) H' fun σ2 H2 => wipe σ2 vs = wipe σ vs ∧ tt σ2 H2 fun b H3 =>
        if b = true then tk σ2 H3 fun y H4 => tv σ2 H4 fun z H5 => ∃ kvs k q, y = .ref q ∧ H5 q = some (.tup (k.map kV)) ∧ H5 D = some (.dT kvs) ∧ kvs.length < sizeLine ∧ Nx (upd H5 D (.dT (putK kvs k z))) else Nx H3) := by
  refine ⟨fun i m H => m = xs.length - i ∧ i ≤ xs.length ∧ Pv i H, ⟨_, rfl, Nat.zero_le _, h0 _ (Ext.new nD) upd_same⟩, ?_⟩
  rintro i m' H ⟨rfl, hi, p⟩
  have sq := hl i H hi p
  rcases Nat.lt_or_ge i xs.length with hlt | hge
  · refine .inr ⟨⟨xs, xs[i], sq, List.getElem?_eq_getElem hlt⟩, Pv (i + 1), fun H' p' => ⟨xs.length - (i + 1), by omega, rfl, hlt, p'⟩, fun x H' y => ?_⟩
    obtain ⟨e, y⟩ := y
    subst e
    exact hs (Pv (i + 1)) i x _ (y xs sq) p fun _ q => q
  · have e : i = xs.length := by omega
    subst e
    exact .inl ⟨⟨xs, sq, Nat.le_refl _⟩, hd H p⟩
end Zk

set_option Elab.async false
set_option linter.all false
set_option maxRecDepth 100000
set_option maxHeartbeats 4000000
namespace Zk
open PySem PySem.Spec L2
open PyProof.Rows hiding St
/-! ### del d[k], k a tuple -/
theorem kt_drop {H : Hp} {kvs : List (List Key × V)} {xs : List (List Key × Addr × Value)} (r : KT H kvs xs) (k : List Key) : KT H (dropK kvs k) (withoutH xs k) := by
  unfold KT at r ⊢
  unfold dropK withoutH
  induction r with
  | nil => exact .nil
  | @cons p q ps qs h t ih =>
    have e : p.1 = q.1 := h.1
    by_cases z : q.1 = k
    · rw [List.filter_cons_of_neg (by rw [e, z]; simp), List.filter_cons_of_neg (by rw [z]; simp)]
      exact ih
    · rw [List.filter_cons_of_pos (by rw [e]; simpa using z), List.filter_cons_of_pos (by simpa using z)]
      exact .cons h ih
section
variable {X : Cx} {pins : List (Addr × Obj)} {σ : L2.St} {H : Hp} {s : Shared} {A : Around} {E : Value → Shared → Prop}
theorem d_delT {a b : Addr} {kvs : List (List Key × V)} {k : List Key} {v : V} {Q : Unit → Shared → Prop} (hu : A.units + 1 < cLine) (I : L2.Inv X pins σ H s) (e : H a = some (.dT kvs)) (eb : H b = some (.tup (k.map kV))) (l : valV kvs k = some v)
    (h : ∀ s', L2.Inv X pins σ (upd H a (.dT (dropK kvs k))) s' → Q () s') : wpAny (model X.prog X.w) A (delItem (.ref a) (.ref b)) Q E s := by
  obtain ⟨z, hd, xs, rel, dd⟩ := dt_of I.hok e
  obtain ⟨w', hw, _⟩ := RelO.some_of (v := v) (o := (atKey xs k).map (·.2)) (by rw [← l]; exact rel.val k)
  obtain ⟨p, hp, _⟩ := Option.map_eq_some_iff.mp hw
  have lx : xs.length ≤ sizeLine := by
    have := Paired.length rel
    omega
  refine wpAny_delItem_heap (hsz := lx) (tupleKind_room_in1 hu) (key_of I.hok eb) hd dd hp fun h' dd' hs => h _ ?_
  obtain ⟨q, es, ep, hq, a2, a3, a4, _, a5⟩ := dd'
  refine d_write I (by rw [e]; exact True.intro) hs ⟨q, hq⟩ ⟨Nat.le_trans (dropK_le kvs k) z, hd, _, (kt_drop rel k).keeps fun c ys ec => ?_, q, es, ep, hq, a2, a3, a4, a5⟩
  rw [upd_ne (ne_of ec e (fun z => by cases z))]
  exact ec
def sDDelT (td ty : TE) : TS := fun D σ H => td σ H fun x H1 => ty σ H1 fun y H2 => ∃ a b kvs k v, x = .ref a ∧ H2 a = some (.dT kvs) ∧ y = .ref b ∧ H2 b = some (.tup (k.map kV)) ∧ valV kvs k = some v ∧ D.nx σ (upd H2 a (.dT (dropK kvs k)))
theorem ps_ddelT {o i : Expr} {pos tpos : Pos} {td ty : TE} (hu : X.A.units + 1 < cLine) (ho : PE X o td) (hi : PE X i ty) : PS X (.Delete [.Subscript o i tpos] pos) (sDDelT td ty) := by
  refine ⟨fun pins s σ H D I h => wpAny_Delete (wpAny_deleteEach_cons (wpAny_delete_Subscript (thn (ho.run pins s σ H _ I h) fun u s1 g1 => ?_)))⟩
  obtain ⟨x, H1, I1, rx, q1⟩ := g1
  refine thn (hi.run pins s1 σ H1 _ I1 q1) fun iv s2 g2 => ?_
  obtain ⟨y, H2, I2, ry, a, b, kvs, k, v, ex, e, ey, eb, l, q2⟩ := g2
  subst ex ey
  obtain rfl : u = Value.ref a := rx
  obtain rfl : iv = Value.ref b := ry
  exact d_delT hu I2 e eb l fun s3 I3 => wpAny_deleteEach_nil ⟨σ, _, I3, q2⟩
end
def delF (f : Fd) (s : Slot) : Fd := fun t => if t = s then none else f t
theorem DMk.drop {U : List Slot} {H : Hp} {kvs : List (List Key × V)} {ks : List Slot} {f : Fd} (h : DMk U H kvs ks f) (s : Slot) : DMk U H (dropK kvs (sKey s)) (ks.filter fun t => decide (t ≠ s)) (delF f s) := by
  refine ⟨?_, h.nd.filter _, fun t m => h.sub t (List.mem_filter.mp m).1, fun t => ?_⟩
  · have e := h.keys
    clear h
    unfold dropK
    induction kvs generalizing ks with
    | nil => cases ks with
      | nil => rfl
      | cons t r => cases e
    | cons p r ih => cases ks with
      | nil => cases e
      | cons t ts =>
        injection e with e1 e2
        have e1 : p.1 = sKey t := e1
        have i := ih e2
        by_cases z : t = s
        · rw [List.filter_cons_of_neg (by rw [e1, z]; simp), List.filter_cons_of_neg (by rw [z]; simp)]
          exact i
        · have z' : ¬ p.1 = sKey s := fun y => z (sKey_inj (e1.symm.trans y))
          rw [List.filter_cons_of_pos (by simpa using z'), List.filter_cons_of_pos (by simpa using z), List.map_cons, List.map_cons, i, e1]
  · have e : valV (dropK kvs (sKey s)) (sKey t) = if t = s then none else valV kvs (sKey t) := by
      unfold dropK
      by_cases z : t = s
      · rw [if_pos z, z]
        have : ¬ (valV (kvs.filter fun kv => decide (kv.1 ≠ sKey s)) (sKey s)).isSome = true := fun y => by
          rw [val_mem, List.mem_map] at y
          obtain ⟨p, hp, e⟩ := y
          have := (List.mem_filter.mp hp).2
          simp [e] at this
        exact Option.not_isSome_iff_eq_none.mp this
      · rw [if_neg z]
        have z' : sKey t ≠ sKey s := fun y => z (sKey_inj y)
        clear h
        induction kvs with
        | nil => rfl
        | cons p r ih =>
          by_cases y : p.1 = sKey s
          · rw [List.filter_cons_of_neg (by simpa using y), ih, valV_neg (fun w => z' (w.symm.trans y))]
          · rw [List.filter_cons_of_pos (by simpa using y)]
            by_cases w : p.1 = sKey t
            · rw [valV_pos w, valV_pos w]
            · rw [valV_neg w, valV_neg w, ih]
    rw [e]
    unfold delF
    by_cases z : t = s
    · rw [if_pos z, if_pos z]; trivial
    · rw [if_neg z, if_neg z]; exact h.val t
theorem w_tddel {td ty : TE} {nx bk ct : L2.St → Hp → Prop} {rt : VK} {σ : L2.St} {H : Hp} (h : td σ H fun x H1 => ty σ H1 fun y H2 => ∃ a b kvs k v, x = .ref a ∧ H2 a = some (.dT kvs) ∧ y = .ref b ∧ H2 b = some (.tup (k.map kV)) ∧ valV kvs k = some v ∧ nx σ (upd H2 a (.dT (dropK kvs k)))) : sDDelT td ty ⟨nx, rt, bk, ct⟩ σ H := h
theorem w_ddelT {U : List Slot} {H : Hp} {a b : Addr} {f : Fd} {s : Slot} {N : Hp → Prop} (h : DM U H a f) (eb : H b = some (.tup (sVs s))) (hs : (f s).isSome = true) (k : ∀ H', Ext [a] H H' → DM U H' a (delF f s) → N H') :
    ∃ a' b' kvs k v, V.ref a = .ref a' ∧ H a' = some (.dT kvs) ∧ V.ref b = .ref b' ∧ H b' = some (.tup (k.map kV)) ∧ valV kvs k = some v ∧ N (upd H a' (.dT (dropK kvs k))) := by
  obtain ⟨kvs, ks, h, w⟩ := h
  have o := (w.val s).iss
  rw [hs] at o
  obtain ⟨v, hv⟩ := Option.isSome_iff_exists.mp o
  have e : Ext [a] H (upd H a (.dT (dropK kvs (sKey s)))) := Ext.mut h (fun z => z) (List.mem_singleton.mpr rfl)
  exact ⟨a, b, kvs, sKey s, v, rfl, h, rfl, eb, hv, k _ e ⟨_, _, upd_same, (w.drop s).ext e⟩⟩
/-- as Sm; tuples of such too -/
def Sq (U : List Slot) : Nat → Hp → V → V → Prop
  | 0, _, _, _ => False
  | n + 1, H, a, b => (∃ d, d.depth ≤ n ∧ Im H a d ∧ Im H b d) ∨ (∃ p q xs ys, a = .ref p ∧ b = .ref q ∧ H p = some (.lst xs) ∧ H q = some (.lst ys) ∧ xs.length ≤ 1000 ∧ Paired (Sq U n H) xs ys) ∨
    (3 ≤ n ∧ U.length ≤ 1000 ∧ ∃ p q f, a = .ref p ∧ b = .ref q ∧ DM U H p f ∧ DM U H q f ∧ ∀ s d, f s = some d → d.depth < n) ∨
    ∃ p q xs ys, a = .ref p ∧ b = .ref q ∧ H p = some (.tup xs) ∧ H q = some (.tup ys) ∧ xs.length ≤ 1000 ∧ Paired (Sq U n H) xs ys
theorem Sq.im {U : List Slot} {n : Nat} {H : Hp} {a b : V} {d : PyData} (l : d.depth < n) (h : Im H a d) (k : Im H b d) : Sq U n H a b := by
  cases n with
  | zero => omega
  | succ n => exact .inl ⟨d, by omega, h, k⟩
theorem Sq.ext {U : List Slot} {H H' : Hp} (e : Ext [] H H') : ∀ {n : Nat} {a b : V}, Sq U n H a b → Sq U n H' a b
  | 0, _, _, h => h
  | n + 1, a, b, h => by
    rcases h with ⟨d, l, i, j⟩ | ⟨p, q, xs, ys, rfl, rfl, hp, hq, lz, w⟩ | ⟨l, hU, p, q, f, rfl, rfl, hp, hq, w⟩ | ⟨p, q, xs, ys, rfl, rfl, hp, hq, lz, w⟩
    · exact .inl ⟨d, l, i.ext e, j.ext e⟩
    · exact .inr (.inl ⟨p, q, xs, ys, rfl, rfl, e.keep _ _ hp List.not_mem_nil, e.keep _ _ hq List.not_mem_nil, lz, Paired.mapP w fun _ _ z => Sq.ext e z⟩)
    · exact .inr (.inr (.inl ⟨l, hU, p, q, f, rfl, rfl, hp.ext e List.not_mem_nil, hq.ext e List.not_mem_nil, w⟩))
    · exact .inr (.inr (.inr ⟨p, q, xs, ys, rfl, rfl, e.tup hp, e.tup hq, lz, Paired.mapP w fun _ _ z => Sq.ext e z⟩))
theorem sq_slots {U : List Slot} {n : Nat} {H : Hp} (hn : 2 ≤ n) : ∀ {as bs : List Addr} {ss : List Slot}, SlotsAt H as ss → SlotsAt H bs ss → Paired (Sq U n H) (as.map V.ref) (bs.map V.ref)
  | _, _, _, .nil, .nil => .nil
  | _, _, _, .cons h t, .cons k u => .cons (Sq.im (d := sD _) (by rw [sD_depth]; omega) (im_slot h) (im_slot k)) (sq_slots hn t u)
/-! ### {s: d[s] for s in d}: a dict of slots copied -/
theorem dm_unlkZ {U : List Slot} {H0 H1 H3 H4 : Hp} {M : List Addr} {d D : Addr} {u : HO} {od : Obj} {f : Fd} (L : Lk d u od H0 H1) (e : Ext M H1 H3) (kp : ∀ b o, H3 b = some o → b ≠ d → H4 b = some o) (n : D ≠ d) (h : DM U H3 D f) : DM U H4 D f := by
  obtain ⟨kv3, ks3, h3, m3⟩ := h
  refine ⟨kv3, ks3, kp D _ h3 n, m3.keys, m3.nd, m3.sub, fun s => ?_⟩
  have v3 := m3.val s
  revert v3
  cases valV kv3 (sKey s) <;> cases f s <;> intro v3
  · exact v3
  · exact v3
  · exact v3
  · refine Im.go (fun a xs h => kp a _ h fun z => ?_) _ _ v3
    subst z
    have := e.imm _ _ L.at trivial
    rw [h] at this; cases this
theorem w_dcopyI {U : List Slot} {H H2 : Hp} {p : Addr} {f : Fd} {Q : VK} {σ : L2.St} {te te2 : TE} {i : Nat} {vs : List Nat} {kvs : List (List Key × V)} {ks : List Slot} {od : Obj} (hU : U.length ≤ 1000) (hp : H p = some (.dT kvs)) (mp : DMk U H kvs ks f) (L : Lk p (.dT kvs) od H H2)
    (h1 : ∀ u od H1 (R : VK), Lk p u od H H1 → R (.ref p) H1 → te σ H1 R)
    (h2 : ∀ u od H1 D H2 b (R : VK), Lk p u od H H1 → H1 D = none → Ext [D] H1 H2 → R (.ref p) H2 → te2 ((wipe σ vs).set i (some (.ref b))) H2 R)
    (hw : ∀ b, wipe ((wipe σ vs).set i (some (.ref b))) vs = wipe σ vs) (hi : ∀ b, ((wipe σ vs).set i (some (.ref b)))[i]? = some (some (.ref b)))
    (k : ∀ r H', Ext [] H H' → H r = none → DM U H' r f → Q (.ref r) H') : zDcT (iKeys te) (gName i) tYes (tVar i) (tDGet te2 (tVar i)) vs σ H2 (fun v H' => H' p = some (.frz od (.dT kvs)) ∧ Q v (upd H' p (.dT kvs))) := by
  refine w_dc (w_iKeys (h1 _ _ _ _ L ⟨p, od, rfl, .inr ⟨kvs, L.at, fun D nD => ?_⟩⟩))
  have f2 := (show DM U H p f from ⟨kvs, ks, hp, mp⟩).dr.lk L
  refine z_dc_keysT mp (fun i H' => Ext [] H2 H' ∧ DM U H' D (resF (ks.take i) f)) (fun H' e h => ⟨e, by rw [List.take_zero, resF_nil]; exact DM.nil h⟩) nD (fun i H' _ ⟨e, _⟩ => e.imm _ _ L.at trivial) ?_ ?_
  · rintro Nx j s c b H3 hsj hc hb ⟨e3, hD⟩ hN
    have f3 := f2.ext e3 List.not_mem_nil
    refine ⟨hw b, ?_⟩
    show tYes _ _ _
    refine w_yes ?_
    rw [if_pos rfl]
    refine ⟨_, hi b, ?_⟩
    refine h2 _ _ _ D _ b _ L nD e3.up ?_
    refine ⟨_, hi b, ?_⟩
    refine w_dgetT f3 hb hc fun v iv => ?_
    refine w_dcput hU hD hb (mp.sub _ (List.mem_of_getElem? hsj)) iv fun H5 e5 h5 => ?_
    refine hN _ ⟨e3.dropq e5 nD, ?_⟩
    rw [resF_put (F := f) hc] at h5
    rw [take_snoc hsj]; exact h5
  · rintro H3 ⟨e3, hD⟩
    have npD := (ne_of_none L.at nD).symm
    rw [List.take_length, resF_all fun s ns => Option.not_isSome_iff_eq_none.mp fun z => ns (mp.mem.mpr z)] at hD
    exact w_unlock L e3 fun H4 e4 kp => k D H4 e4 (L.free nD) (dm_unlkZ L e3 kp npD hD)
theorem w_dcopy {U : List Slot} {H : Hp} {p : Addr} {f : Fd} {Q : VK} {σ : L2.St} {te te2 : TE} {i : Nat} {vs : List Nat} (hU : U.length ≤ 1000) (hf : DM U H p f)
    (h1 : ∀ u od H1 (R : VK), Lk p u od H H1 → R (.ref p) H1 → te σ H1 R)
    (h2 : ∀ u od H1 D H2 b (R : VK), Lk p u od H H1 → H1 D = none → Ext [D] H1 H2 → R (.ref p) H2 → te2 ((wipe σ vs).set i (some (.ref b))) H2 R)
    (hw : ∀ b, wipe ((wipe σ vs).set i (some (.ref b))) vs = wipe σ vs) (hi : ∀ b, ((wipe σ vs).set i (some (.ref b)))[i]? = some (some (.ref b)))
    (k : ∀ r H', Ext [] H H' → H r = none → DM U H' r f → Q (.ref r) H') : tLockE (zDcT (iKeys te) (gName i) tYes (tVar i) (tDGet te2 (tVar i)) vs) σ H Q := by
  obtain ⟨kvs, ks, hp, mp⟩ := id hf
  exact w_lockE hp trivial (fun z => z) fun od H2 L => w_dcopyI hU hp mp L h1 h2 hw hi k
theorem w_dcopyS {U : List Slot} {H : Hp} {p : Addr} {f : Fd} {σ : L2.St} {te te2 : TE} {i y : Nat} {vs : List Nat} {nx bk ct : L2.St → Hp → Prop} {rt : VK} (hU : U.length ≤ 1000) (hf : DM U H p f)
    (h1 : ∀ u od H1 (R : VK), Lk p u od H H1 → R (.ref p) H1 → te σ H1 R)
    (h2 : ∀ u od H1 D H2 b (R : VK), Lk p u od H H1 → H1 D = none → Ext [D] H1 H2 → R (.ref p) H2 → te2 ((wipe σ vs).set i (some (.ref b))) H2 R)
    (hw : ∀ b, wipe ((wipe σ vs).set i (some (.ref b))) vs = wipe σ vs) (hi : ∀ b, ((wipe σ vs).set i (some (.ref b)))[i]? = some (some (.ref b)))
    (k : ∀ r H', Ext [] H H' → H r = none → DM U H' r f → nx (σ.set y (some (.ref r))) H') : tLock (tAsg (zDcT (iKeys te) (gName i) tYes (tVar i) (tDGet te2 (tVar i)) vs) (gName y)) ⟨nx, rt, bk, ct⟩ σ H := by
  obtain ⟨kvs, ks, hp, mp⟩ := id hf
  exact w_lock hp trivial (fun z => z) fun od H2 L => w_dcopyI (Q := fun v H' => nx (σ.set y (some v)) H') hU hp mp L h1 h2 hw hi k
/-! ### name = {..: .. for ..}, the name a local -/
section
variable {X : Cx}
theorem sw_trueD {kx vx : Expr} {gs : List Comprehension} {scope : Scope} {pos py : Pos} {y : Str} {l : Nat} {env : Env} (h1 : env.scope.kind = .function) (h2 : env.scope.names.lookup y = some .local) (h3 : (py.line == pos.line) = true)
    (h4 : (scope.names.any fun (n, k) => n == y && (k == .local || k == .cell)) = false) : swapsWith (.DictComp kx vx gs scope pos) (some (.Name y py)) l env = pure true := by
  have e1 : env.kindOf y = some .local := h2
  have e2 : env.blockKind = .function := by unfold Env.blockKind; rw [h1]; rfl
  unfold swapsWith
  simp only [e2, e1, h4, Expr.pos, h3]
  rfl
theorem zps_setDc {i : Nat} {y : Str} {py : Pos} {kx vx tg iter : Expr} {ifs : List Expr} {scope : Scope} {own : List (Str × Nat)} {pos spos : Pos} {wi : TI} {g : TG} {tt : TT} {tk tv : TE} (hu : X.A.units + 1 < cLine) (hc : X.calm = true) (hN : X.N.Nodup) (hy : X.N[i]? = some y) (hyl : X.env.scope.names.lookup y = some .local)
    (hsw : swapsWith (.DictComp kx vx [⟨tg, iter, ifs, 0⟩] scope pos) (some (.Name y py)) spos.line X.env = pure true) (hi : PI X tg iter wi) (ok : BlkOk X.N X.env.scope scope own)
    (hg : AllB X scope fun Y => PG Y tg g) (ht : AllB X scope fun Y => PTs Y ifs tt) (hk : AllB X scope fun Y => PE Y kx tk) (he : AllB X scope fun Y => PE Y vx tv) (hs : ∀ x, foldedSetIterable iter X.env x = pure x := by intro _; rfl) :
    PS X (.Assign [.Name y py] (.DictComp kx vx [⟨tg, iter, ifs, 0⟩] scope pos) spos) (tAsg (zDcT wi g tt tk tv (own.map (·.2))) (gName i)) := by
  refine ⟨fun pins s σ H D I h => ?_⟩
  rw [exec_Assign_Name_used _ _ _ _ hsw]
  refine wpAny_bind (wpAny_standAt (wpAny_bind ?_))
  show wpAny _ X.A (do let _ ← comprehension (.DictComp kx vx [⟨tg, iter, ifs, 0⟩] scope pos) scope X.env (firstIterPos [⟨tg, iter, ifs, 0⟩] pos) newDict false (eval iter X.env) (some (assign (.Name y py) X.env))) _ _ s
  have h' : zDcT wi g tt tk tv (own.map (·.2)) σ H (fun x H1 => gName i x σ H1 D.nx) := h
  refine wpAny_bind (thn (zdc_run (Qf := fun _ s' => SP X pins D .next s') hu hc hN I hi ok hg ht hk he hs h' fun L C s' m H' I' q hn f => ?_) fun _ s' hq => wpAny_pure (wpAny_pure hq))
  show wpAny _ _ (assign (.Name y py) X.env (.ref L)) _ _ _
  refine wpAny_assign_Name (store_ok2 (v := V.ref L) I' hN hy (.inl hyl) rfl (fun s2 I2 z => ?_) (.inr hyl))
  obtain ⟨a, sb, ha⟩ := z
  obtain ⟨f0, f1, f2, f3, f4, f5⟩ := f
  have neC : C ≠ a := by
    rcases ha with w | w
    · rw [w]; exact f1
    · exact fun e => f4 y a w e.symm
  exact ⟨m, hn.sameBut sb neC, fun h3 sb3 => ⟨_, H', I2.turned (t' := s2.toks) (fun b o hb e => (sb3.2 b hb).trans e) f0 f1 f3 f4 f5, q⟩⟩
end
end Zk

set_option Elab.async false
set_option linter.all false
set_option maxRecDepth 100000
set_option maxHeartbeats 4000000
namespace L2
open PySem PySem.Spec PyProof.Rows PySem.W
/-! ### an own exception class without __init__, made with nothing -/
theorem pmk_own0 {X : Cx} {C : Addr} {bmB : List Value} {B newId initId : String} {x : Str} {p pos : Pos} (F : ExcBaseFacts B newId initId bmB) (q : PySem.W.excIn X.K C bmB newId = true) (gC : X.mg x = some (.ref C)) (kC : PySem.W.keepIn X.K (.ref C) = true) (r : Raises X (.ref C)) (hg : Gl X x)
    (hdb : (x == ("__debug__" : Str)) = false := by decide) : PMk X (.Call (.Name x p) [] [] pos) (fun _ H Q => Q (.ref C) none H) := by
  intro pins s σ H Q I h
  refine wpAny_Call_Name_kw (ld_glob I hg gC ?_ hdb)
  refine PySem.W.callWith_K0 I.kIn kC ?_
  obtain ⟨bm, N, nm, qn, bs, hdct, sn, sub, ab, col, dd, k0, k1, k2, k3, k5, mN, hC, hN, hni, T⟩ := exc_obj I.kIn q
  obtain ⟨hp1, g1, d1, tk1, os1⟩ := s
  exact wpAny_call_exc_subT F T hC hN hni (fun h' e hm => mk_of I hm r h (I.hok.gone hm.new)) (Nat.zero_le _)
/-! ### sep.join(reversed(a list)) -/
section
open PySem.SC Builtin Builtin.Str
variable {prog : Program} {w : World} {A : Around} {E : Value → Shared → Prop} {s : Shared}
theorem call_join_rev {x : Str} {t : Tok} {it l : Addr} {its : Array Value} {ys : List Str} {Q : Value → Shared → Prop} (hh : A.handled = none) (hit : s.heap.IsRevIter it l ((its.size : Int) - 1)) (hl : s.heap.IsList l its) (hne : l ≠ it) (hn : its.size ≤ sizeLine)
    (hP : ∀ acc : Array Value, ItemsOf (fun i v => its[its.size - 1 - i]? = some v) acc its.size → StrsAre acc.toList ys) (hok : (ys.map (·.length)).sum + ys.length * x.length ≤ 16777216)
    (hq : ∀ h' k t', (∀ b o, b ≠ it → s.heap.get? b = some o → h'.get? b = some o) → Q (.str (Txt.join x ys) t') { s with heap := h', toks := k }) :
    wpAny (model prog w) A (call (.builtin "str.join") [.str x t, .ref it]) Q E s := by
  refine wpAny_call (codeAny_call_builtin F.slot_str_join.plain F.entry_str_join (F.slot_str_join.check _ _ _ _ _ _ _ _ (typeIs_str _ _ _) (F.args_str_join_2 _ _) ?_))
  rw [join_tree_other]
  refine wpAny_bind (wpAny_typeOf hit.typeIs ?_)
  show wpAny _ A.in1 ((pyIter (.ref it)).tryCatch _ >>= fun it => collect it >>= fun items => joinTail x items) _ _ s
  refine wpAny_bind (wpAny_tryCatch (wpAny_pyIter_revIter hit ?_))
  have hh1 : A.in1.handled = none := hh
  refine wpAny_bind (RT.collect_rev (A := A.in1) hh1 hit hl hne hn ?_)
  intro h' tk acc hk hacc
  obtain ⟨l, hl, ht⟩ := strsAre_values (hP acc hacc)
  subst ht
  rw [hl]
  have hok' := joinOk_of hok
  unfold JoinOk at hok'
  rw [Bool.not_eq_true'] at hok'
  have g : Gives (joinTail x (strValues l)) (joinMade x l) := by
    have g0 := gives_joinTail x l hok'
    cases l with
    | nil => exact g0
    | cons p r => cases r with
      | nil => exact g0
      | cons q r' => exact g0
  exact g prog w A (wants Q E) _ (post_join l ⟨joinFit_length hok', fun t' k => hq h' k t' hk⟩)
end
section
variable {X : Cx}
def tJoinRev (K : PySem.W.Frag) (to te : TE) : TE := fun σ H Q => to σ H fun x H1 => (∃ a, x = .str a) ∧ te σ H1 fun v H2 => ∃ (a : Str) (q : Addr) (ys : List Str),
  x = .str a ∧ v = .ref q ∧ SqL K H2 q (ys.map V.str) ∧ (ys.map (·.length)).sum + ys.length * a.length ≤ 16777216 ∧ Q (.str (Txt.join a ys.reverse)) H2
theorem strs_of : ∀ {ys : List Str} {us : List Value}, Vals (ys.map V.str) us → StrsAre us ys
  | [], _, h => by cases h; exact .nil
  | y :: ys, _, h => by
    cases h with
    | cons r t =>
      obtain ⟨u, rfl⟩ := r
      exact .cons y u (strs_of t)
theorem pe_joinRev {o e : Expr} {to te : TE} {apos pos p pos2 : Pos} (hc : X.calm = true) (ho : PE X o to) (hg2 : Gl X "reversed") (hm2 : X.mg "reversed" = none) (he : PE X e te)
    (hs1 : starEach [.Call (.Name "reversed" p) [e] [] pos2] X.env = [(false, eval (.Call (.Name "reversed" p) [e] [] pos2) X.env)] := by rfl)
    (hs : starEach [e] X.env = (false, eval e X.env) :: starEach [] X.env := by rfl)
    (hbase : attributeBase o "join" X.env (eval o X.env) = eval o X.env := by rfl) (hline : (apos.endLine == pos.line) = true := by rfl) :
    PE X (.Call (.Attribute o "join" apos) [.Call (.Name "reversed" p) [e] [] pos2] [] pos) (tJoinRev X.K to te) := by
  refine ⟨fun pins s σ H Q I h => ?_⟩
  refine PySem.Call_method1 hbase hs1 hline (thn (ho.run pins s σ H _ I h) fun v s1 ⟨x, H1, I1, r1, q1⟩ => ?_)
  obtain ⟨⟨a, rfl⟩, q1⟩ := q1
  obtain ⟨t, rfl⟩ := _root_.id r1
  refine ⟨"str", _, F.plainAttrs_str, F.slot_str_join, F.type_str_join, typeIs_str _ _ _, (fun _ e => nomatch e), Calls.callWith_builtin rfl (Calls.evalArgs_plain (Calls.spliced_cons ?_))⟩
  refine Call_ (ld_blt I1 hg2 hm2 PyProof.Rows.boot_reversed (PyProof.Rows.callWith_type1 (args_cons (thn (he.run pins s1 σ H1 _ I1 q1) fun u s2 ⟨v, H2, I2, r2, q2⟩ => args_nil ?_) hs) hs rfl))
  obtain ⟨a', q, ys, ea, ev, hq, hz, q2⟩ := q2
  cases ea
  subst ev
  obtain rfl : u = Value.ref q := r2
  obtain ⟨its, rv, p', hsz⟩ := I2.list hq
  refine call_reversed_list p'.isList (Calls.spliced_nil ?_)
  have k0 : ∀ b o, s2.heap.get? b = some o → (s2.heap.push (revObj q ((its.toArray.size : Int) - 1))).get? b = some o := fun b o e => Heap.get?_push_of_some _ e
  have hl := p'.isList
  obtain ⟨ol, hol, _⟩ := id hl
  have hne : q ≠ s2.heap.objs.size := Nat.ne_of_lt (Heap.lt_size hol)
  have hn : its.toArray.size ≤ sizeLine := by rw [List.size_toArray, ← rv.length]; exact hsz
  refine call_join_rev (s := { s2 with heap := s2.heap.push (revObj q ((its.toArray.size : Int) - 1)) }) (ys := ys.reverse) (I2.ok.hd hc) ⟨_, Heap.get?_push_size _ rfl, rfl, rfl⟩ (hl.push _) hne hn (fun acc hacc => ?_) ?_ fun h' k t' hk => ?_
  · have := RT.vals_rev rv hacc
    rw [← List.map_reverse] at this
    exact strs_of this
  · rw [List.map_reverse, List.sum_reverse, List.length_reverse]
    exact hz
  · exact ⟨.str _, H2, I2.kept (t' := k) (fun b o e => hk b o (Nat.ne_of_lt (Heap.lt_size e)) (k0 b o e)), ⟨t', rfl⟩, q2⟩
end
end L2
namespace Zk
open PySem PySem.Spec L2
/-! ### a while loop with one way out -/
theorem z_while {rt : VK} {nx bk ct : L2.St → Hp → Prop} {c : TT} {tb : TS} {σ : L2.St} {H : Hp} (W : Nat → L2.St → Hp → Prop) (R : L2.St → Hp → Prop) {m0 : Nat} (h0 : W m0 σ H) (hd : ∀ σ H, R σ H → nx σ H)
    (hs : ∀ nx' : L2.St → Hp → Prop, (∀ σ H, R σ H → nx' σ H) → ∀ m σ H, W m σ H → c σ H fun b H1 => if b = true then ∃ N : L2.St → Hp → Prop, (∀ σ' H', N σ' H' → ∃ m', m' < m ∧ W m' σ' H') ∧ tb ⟨N, rt, nx', N⟩ σ H1 else nx' σ H1) :
    tWhile c tb ⟨nx, rt, bk, ct⟩ σ H := ⟨W, ⟨m0, h0⟩, fun m σ H w => hs nx hd m σ H w⟩
theorem w_joinRev {K : PySem.W.Frag} {to te : TE} {σ : L2.St} {H : Hp} {Q : VK} (h : to σ H fun x H1 => (∃ a, x = .str a) ∧ te σ H1 fun v H2 => ∃ (a : Str) (q : Addr) (ys : List Str),
  x = .str a ∧ v = .ref q ∧ SqL K H2 q (ys.map V.str) ∧ (ys.map (·.length)).sum + ys.length * a.length ≤ 16777216 ∧ Q (.str (Txt.join a ys.reverse)) H2) : tJoinRev K to te σ H Q := h
/-! ### {k: .. for k in d}: a dict of numbers or texts made of the keys of one -/
theorem w_dcK {wi : TI} {g : TG} {tt : TT} {tk tv : TE} {vs : List Nat} {σ : L2.St} {H : Hp} {Q : VK} (h : wi σ H fun J H1 => ∀ D, H1 D = none → ∃ W : Nat → Nat → Hp → Prop, (∃ m, W 0 m (upd H1 D (.dK []))) ∧ ∀ i m H, W i m H →
  (J.stop i H ∧ Q (.ref D) H) ∨ (J.go i H ∧ ∃ Nx : Hp → Prop, (∀ H', Nx H' → ∃ m', m' < m ∧ W (i + 1) m' H') ∧ ∀ x H', J.yld i H x H' → g x (wipe σ vs) H' fun σ2 H2 => wipe σ2 vs = wipe σ vs ∧ tt σ2 H2 fun b H3 =>
    if b = true then tk σ2 H3 fun y H4 => tv σ2 H4 fun z H5 => ∃ kvs k, y = kV k ∧ H5 D = some (.dK kvs) ∧ kvs.length < sizeLine ∧ Nx (upd H5 D (.dK (putK kvs k z))) else Nx H3)) : tDc wi g tt tk tv vs σ H Q := h
theorem w_dcpI {H : Hp} {D : Addr} {acc : List (Key × V)} {n : Int} {z : V} {Nx : Hp → Prop} (hD : H D = some (.dK acc)) (l : acc.length < sizeLine) (k : ∀ H', Ext [D] H H' → H' D = some (.dK (putK acc (Sum.inl n) z)) → Nx H') :
    ∃ kvs k, V.int n = kV k ∧ H D = some (.dK kvs) ∧ kvs.length < sizeLine ∧ Nx (upd H D (.dK (putK kvs k z))) := ⟨acc, Sum.inl n, rfl, hD, l, k _ (Ext.mut hD (fun z => z) (List.mem_singleton.mpr rfl)) upd_same⟩
theorem w_dcpS {H : Hp} {D : Addr} {acc : List (Key × V)} {n : Str} {z : V} {Nx : Hp → Prop} (hD : H D = some (.dK acc)) (l : acc.length < sizeLine) (k : ∀ H', Ext [D] H H' → H' D = some (.dK (putK acc (Sum.inr n) z)) → Nx H') :
    ∃ kvs k, V.str n = kV k ∧ H D = some (.dK kvs) ∧ kvs.length < sizeLine ∧ Nx (upd H D (.dK (putK kvs k z))) := ⟨acc, Sum.inr n, rfl, hD, l, k _ (Ext.mut hD (fun z => z) (List.mem_singleton.mpr rfl)) upd_same⟩
theorem z_dc_keysK {kvs : List (Key × V)} {d : Addr} {o : Obj} {g : TG} {tt : TT} {tk tv : TE} {vs : List Nat} {D : Addr} {Qd : Hp → Prop} {σ : L2.St} {H : Hp} (Pv : Nat → List (Key × V) → Hp → Prop) (nD : H D = none) (h0 : ∀ H', Ext [] H H' → Pv 0 [] H') (hl : ∀ i acc H, i ≤ kvs.length → Pv i acc H → H d = some (.frz o (.dK kvs)))
    (hs : ∀ (Nx : Hp → Prop) i k v acc H, kvs[i]? = some (k, v) → Pv i acc H → H D = some (.dK acc) → (∀ acc' H', Pv (i + 1) acc' H' → H' D = some (.dK acc') → Nx H') → g (kV k) (wipe σ vs) H fun σ2 H2 => wipe σ2 vs = wipe σ vs ∧ tt σ2 H2 fun b H3 =>
      if b = true then tk σ2 H3 fun y H4 => tv σ2 H4 fun z H5 => ∃ kvs k, y = kV k ∧ H5 D = some (.dK kvs) ∧ kvs.length < sizeLine ∧ Nx (upd H5 D (.dK (putK kvs k z))) else Nx H3) (hd : ∀ acc H, Pv kvs.length acc H → H D = some (.dK acc) → Qd H) :
    ∃ W : Nat → Nat → Hp → Prop, (∃ m, W 0 m (upd H D (.dK []))) ∧ ∀ i m H, W i m H →
      ((Itk d o kvs).stop i H ∧ Qd H) ∨ ((Itk d o kvs).go i H ∧ ∃ Nx : Hp → Prop, (∀ H', Nx H' → ∃ m', m' < m ∧ W (i + 1) m' H') ∧ ∀ x H', (Itk d o kvs).yld i H x H' → g x (wipe σ vs) H' fun σ2 H2 => wipe σ2 vs = wipe σ vs ∧ tt σ2 H2 fun b H3 =>
        if b = true then tk σ2 H3 fun y H4 => tv σ2 H4 fun z H5 => ∃ kvs k, y = kV k ∧ H5 D = some (.dK kvs) ∧ kvs.length < sizeLine ∧ Nx (upd H5 D (.dK (putK kvs k z))) else Nx H3) := by
  refine ⟨fun i m H => m = kvs.length - i ∧ i ≤ kvs.length ∧ ∃ acc, Pv i acc H ∧ H D = some (.dK acc), ⟨_, rfl, Nat.zero_le _, [], h0 _ (Ext.new nD), upd_same⟩, ?_⟩
  rintro i m H ⟨rfl, hi, acc, p, hD⟩
  by_cases hlt : i < kvs.length
  · refine .inr ⟨⟨hl i acc H hi p, hlt⟩, (fun H => ∃ acc, Pv (i + 1) acc H ∧ H D = some (.dK acc)), fun H' p' => ⟨kvs.length - (i + 1), by omega, rfl, hlt, p'⟩, fun x H' y => ?_⟩
    obtain ⟨e, k, v, hk, rfl⟩ := y
    subst e
    exact hs _ i k v acc _ hk p hD fun acc' H' p' h' => ⟨acc', p', h'⟩
  · have e : i = kvs.length := by omega
    subst e
    exact .inl ⟨⟨hl _ acc H hi p, Nat.le_refl _⟩, hd acc H p hD⟩
theorem w_tddelK {td ty : TE} {nx bk ct : L2.St → Hp → Prop} {rt : VK} {σ : L2.St} {H : Hp} (h : td σ H fun x H1 => ty σ H1 fun y H2 => ∃ a kvs k, x = .ref a ∧ H2 a = some (.dK kvs) ∧ y = kV k ∧ (valV kvs k).isSome = true ∧ nx σ (upd H2 a (.dK (dropK kvs k)))) : sDDel td ty ⟨nx, rt, bk, ct⟩ σ H := h
theorem w_ddelS {H : Hp} {a : Addr} {kvs : List (Key × V)} {n : Str} {N : Hp → Prop} (h : H a = some (.dK kvs)) (m : (valV kvs (Sum.inr n : Key)).isSome = true) (k : ∀ H', Ext [a] H H' → H' a = some (.dK (dropK kvs (Sum.inr n))) → N H') :
    ∃ a' kvs k, V.ref a = .ref a' ∧ H a' = some (.dK kvs) ∧ V.str n = kV k ∧ (valV kvs k).isSome = true ∧ N (upd H a' (.dK (dropK kvs k))) := ⟨a, kvs, Sum.inr n, rfl, h, rfl, m, k _ (Ext.mut h (fun z => z) (List.mem_singleton.mpr rfl)) upd_same⟩
/-- a sorted list of texts without doubles is one -/
theorem pw_eq {α : Type} {R : α → α → Prop} (irr : ∀ a, ¬ R a a) (tr : ∀ a b c, R a b → R b c → R a c) : ∀ {l m : List α}, l.Pairwise R → m.Pairwise R → (∀ x, x ∈ l ↔ x ∈ m) → l = m
  | [], [], _, _, _ => rfl
  | [], y :: m, _, _, h => absurd ((h y).mpr List.mem_cons_self) List.not_mem_nil
  | x :: l, [], _, _, h => absurd ((h x).mp List.mem_cons_self) List.not_mem_nil
  | x :: l, y :: m, hl, hm, h => by
    rw [List.pairwise_cons] at hl hm
    have e : x = y := by
      rcases List.mem_cons.mp ((h x).mp List.mem_cons_self) with e | mx
      · exact e
      · rcases List.mem_cons.mp ((h y).mpr List.mem_cons_self) with e | my
        · exact e.symm
        · exact (irr x (tr _ _ _ (hl.1 y my) (hm.1 x mx))).elim
    subst e
    have e2 : l = m := pw_eq irr tr hl.2 hm.2 fun z => by
      constructor
      · intro mz
        rcases List.mem_cons.mp ((h z).mp (List.mem_cons_of_mem _ mz)) with e | r
        · subst e; exact (irr z (hl.1 z mz)).elim
        · exact r
      · intro mz
        rcases List.mem_cons.mp ((h z).mpr (List.mem_cons_of_mem _ mz)) with e | r
        · subst e; exact (irr z (hm.1 z mz)).elim
        · exact r
    rw [e2]
abbrev StrLt (a b : Str) : Prop := a.cps.toList < b.cps.toList
theorem str_srt_eq {l m : List Str} (hl : l.Pairwise StrLt) (hm : m.Pairwise StrLt) (h : ∀ x, x ∈ l ↔ x ∈ m) : l = m :=
  pw_eq (R := StrLt) (fun a => List.lt_irrefl a.cps.toList) (fun a b c x y => List.lt_trans x y) hl hm h
theorem at_pred {α : Type} {xs : List α} {n : Int} (h0 : 1 ≤ n) (h1 : n ≤ (xs.length : Int)) : ∃ v, xs[(n - 1).toNat]? = some v ∧ atI xs (n - 1) = some v := by
  obtain ⟨v, a, b⟩ := at_some (xs := xs) (r := n - 1) (by omega) (by omega)
  exact ⟨v, b, a⟩
/-- over the keys of a locked dict whose keys are numbers -/
theorem z_for_keysI {α : Type} {ks : List α} {kf : α → Int} {vf : α → V} {d : Addr} {o : Obj} {g : TG} {t : TS} {nx : L2.St → Hp → Prop} {rt : VK} {σ : L2.St} {H : Hp} (Pv : Nat → L2.St → Hp → Prop) (h0 : Pv 0 σ H) (hl : ∀ i σ H, i ≤ ks.length → Pv i σ H → H d = some (.frz o (.dK (ks.map fun x => ((Sum.inl (kf x) : Key), vf x)))))
    (hs : ∀ (N : L2.St → Hp → Prop) i x σ H, ks[i]? = some x → Pv i σ H → (∀ σ' H', Pv (i + 1) σ' H' → N σ' H') → g (.int (kf x)) σ H fun σ2 H2 => t ⟨N, rt, nx, N⟩ σ2 H2) (hd : ∀ σ H, Pv ks.length σ H → nx σ H) :
    ∃ W : Nat → Nat → L2.St → Hp → Prop, (∃ m, W 0 m σ H) ∧ ∀ i m σ H, W i m σ H →
      ((Itk d o (ks.map fun x => ((Sum.inl (kf x) : Key), vf x))).stop i H ∧ nx σ H) ∨ ((Itk d o (ks.map fun x => ((Sum.inl (kf x) : Key), vf x))).go i H ∧ ∃ N : L2.St → Hp → Prop, (∀ σ' H', N σ' H' → ∃ m', m' < m ∧ W (i + 1) m' σ' H') ∧ ∀ x H', (Itk d o (ks.map fun x => ((Sum.inl (kf x) : Key), vf x))).yld i H x H' → g x σ H' fun σ2 H2 => t ⟨N, rt, nx, N⟩ σ2 H2) := by
  refine z_for_keys Pv h0 (fun i σ H hi p => hl i σ H (by rwa [List.length_map] at hi) p) (fun N i k v σ H hx p q => ?_) (fun σ H p => hd σ H (by rwa [List.length_map] at p))
  rw [List.getElem?_map, Option.map_eq_some_iff] at hx
  obtain ⟨x, hx, e⟩ := hx
  cases e
  exact hs N i x σ H hx p q
theorem z_lc_keysI {α : Type} {ks : List α} {kf : α → Int} {vf : α → V} {d : Addr} {o : Obj} {g : TG} {tt : TT} {te : TE} {vs : List Nat} {D : Addr} {Qd : Hp → Prop} {σ : L2.St} {H : Hp} (Pv : Nat → List V → Hp → Prop) (nD : H D = none) (h0 : ∀ H', Ext [] H H' → Pv 0 [] H') (hl : ∀ i acc H, i ≤ ks.length → Pv i acc H → H d = some (.frz o (.dK (ks.map fun x => ((Sum.inl (kf x) : Key), vf x)))))
    (hs : ∀ (Nx : Hp → Prop) i x acc H, ks[i]? = some x → Pv i acc H → H D = some (.lst acc) → (∀ acc' H', Pv (i + 1) acc' H' → H' D = some (.lst acc') → Nx H') → g (.int (kf x)) (wipe σ vs) H fun σ2 H2 => wipe σ2 vs = wipe σ vs ∧ tt σ2 H2 fun b H3 =>
      if b = true then te σ2 H3 fun y H4 => ∃ acc, H4 D = some (.lst acc) ∧ acc.length < sizeLine ∧ Nx (upd H4 D (.lst (acc ++ [y]))) else Nx H3) (hd : ∀ acc H, Pv ks.length acc H → H D = some (.lst acc) → Qd H) :
    ∃ W : Nat → Nat → Hp → Prop, (∃ m, W 0 m (upd H D (.lst []))) ∧ ∀ i m H, W i m H →
      ((Itk d o (ks.map fun x => ((Sum.inl (kf x) : Key), vf x))).stop i H ∧ Qd H) ∨ ((Itk d o (ks.map fun x => ((Sum.inl (kf x) : Key), vf x))).go i H ∧ ∃ Nx : Hp → Prop, (∀ H', Nx H' → ∃ m', m' < m ∧ W (i + 1) m' H') ∧ ∀ x H', (Itk d o (ks.map fun x => ((Sum.inl (kf x) : Key), vf x))).yld i H x H' → g x (wipe σ vs) H' fun σ2 H2 => wipe σ2 vs = wipe σ vs ∧ tt σ2 H2 fun b H3 =>
        if b = true then te σ2 H3 fun y H4 => ∃ acc, H4 D = some (.lst acc) ∧ acc.length < sizeLine ∧ Nx (upd H4 D (.lst (acc ++ [y]))) else Nx H3) := by
  refine z_lc_keys Pv nD h0 (fun i acc H hi p => hl i acc H (by rwa [List.length_map] at hi) p) (fun N i k v acc H hx p hD q => ?_) (fun acc H p => hd acc H (by rwa [List.length_map] at p))
  rw [List.getElem?_map, Option.map_eq_some_iff] at hx
  obtain ⟨x, hx, e⟩ := hx
  cases e
  exact hs N i x acc H hx p hD q
theorem z_dc_keysI {α : Type} {ks : List α} {kf : α → Int} {vf : α → V} {d : Addr} {o : Obj} {g : TG} {tt : TT} {tk tv : TE} {vs : List Nat} {D : Addr} {Qd : Hp → Prop} {σ : L2.St} {H : Hp} (Pv : Nat → List (Key × V) → Hp → Prop) (nD : H D = none) (h0 : ∀ H', Ext [] H H' → Pv 0 [] H') (hl : ∀ i acc H, i ≤ ks.length → Pv i acc H → H d = some (.frz o (.dK (ks.map fun x => ((Sum.inl (kf x) : Key), vf x)))))
    (hs : ∀ (Nx : Hp → Prop) i x acc H, ks[i]? = some x → Pv i acc H → H D = some (.dK acc) → (∀ acc' H', Pv (i + 1) acc' H' → H' D = some (.dK acc') → Nx H') → g (.int (kf x)) (wipe σ vs) H fun σ2 H2 => wipe σ2 vs = wipe σ vs ∧ tt σ2 H2 fun b H3 =>
      if b = true then tk σ2 H3 fun y H4 => tv σ2 H4 fun z H5 => ∃ kvs k, y = kV k ∧ H5 D = some (.dK kvs) ∧ kvs.length < sizeLine ∧ Nx (upd H5 D (.dK (putK kvs k z))) else Nx H3) (hd : ∀ acc H, Pv ks.length acc H → H D = some (.dK acc) → Qd H) :
    ∃ W : Nat → Nat → Hp → Prop, (∃ m, W 0 m (upd H D (.dK []))) ∧ ∀ i m H, W i m H →
      ((Itk d o (ks.map fun x => ((Sum.inl (kf x) : Key), vf x))).stop i H ∧ Qd H) ∨ ((Itk d o (ks.map fun x => ((Sum.inl (kf x) : Key), vf x))).go i H ∧ ∃ Nx : Hp → Prop, (∀ H', Nx H' → ∃ m', m' < m ∧ W (i + 1) m' H') ∧ ∀ x H', (Itk d o (ks.map fun x => ((Sum.inl (kf x) : Key), vf x))).yld i H x H' → g x (wipe σ vs) H' fun σ2 H2 => wipe σ2 vs = wipe σ vs ∧ tt σ2 H2 fun b H3 =>
        if b = true then tk σ2 H3 fun y H4 => tv σ2 H4 fun z H5 => ∃ kvs k, y = kV k ∧ H5 D = some (.dK kvs) ∧ kvs.length < sizeLine ∧ Nx (upd H5 D (.dK (putK kvs k z))) else Nx H3) := by
  refine z_dc_keysK Pv nD h0 (fun i acc H hi p => hl i acc H (by rwa [List.length_map] at hi) p) (fun N i k v acc H hx p hD q => ?_) (fun acc H p => hd acc H (by rwa [List.length_map] at p))
  rw [List.getElem?_map, Option.map_eq_some_iff] at hx
  obtain ⟨x, hx, e⟩ := hx
  cases e
  exact hs N i x acc H hx p hD q
/-- over the keys of a locked dict whose keys are texts -/
theorem z_for_keysS {α : Type} {ks : List α} {kf : α → Str} {vf : α → V} {d : Addr} {o : Obj} {g : TG} {t : TS} {nx : L2.St → Hp → Prop} {rt : VK} {σ : L2.St} {H : Hp} (Pv : Nat → L2.St → Hp → Prop) (h0 : Pv 0 σ H) (hl : ∀ i σ H, i ≤ ks.length → Pv i σ H → H d = some (.frz o (.dK (ks.map fun x => ((Sum.inr (kf x) : Key), vf x)))))
    (hs : ∀ (N : L2.St → Hp → Prop) i x σ H, ks[i]? = some x → Pv i σ H → (∀ σ' H', Pv (i + 1) σ' H' → N σ' H') → g (.str (kf x)) σ H fun σ2 H2 => t ⟨N, rt, nx, N⟩ σ2 H2) (hd : ∀ σ H, Pv ks.length σ H → nx σ H) :
    ∃ W : Nat → Nat → L2.St → Hp → Prop, (∃ m, W 0 m σ H) ∧ ∀ i m σ H, W i m σ H →
      ((Itk d o (ks.map fun x => ((Sum.inr (kf x) : Key), vf x))).stop i H ∧ nx σ H) ∨ ((Itk d o (ks.map fun x => ((Sum.inr (kf x) : Key), vf x))).go i H ∧ ∃ N : L2.St → Hp → Prop, (∀ σ' H', N σ' H' → ∃ m', m' < m ∧ W (i + 1) m' σ' H') ∧ ∀ x H', (Itk d o (ks.map fun x => ((Sum.inr (kf x) : Key), vf x))).yld i H x H' → g x σ H' fun σ2 H2 => t ⟨N, rt, nx, N⟩ σ2 H2) := by
  refine z_for_keys Pv h0 (fun i σ H hi p => hl i σ H (by rwa [List.length_map] at hi) p) (fun N i k v σ H hx p q => ?_) (fun σ H p => hd σ H (by rwa [List.length_map] at p))
  rw [List.getElem?_map, Option.map_eq_some_iff] at hx
  obtain ⟨x, hx, e⟩ := hx
  cases e
  exact hs N i x σ H hx p q
theorem z_lc_keysS {α : Type} {ks : List α} {kf : α → Str} {vf : α → V} {d : Addr} {o : Obj} {g : TG} {tt : TT} {te : TE} {vs : List Nat} {D : Addr} {Qd : Hp → Prop} {σ : L2.St} {H : Hp} (Pv : Nat → List V → Hp → Prop) (nD : H D = none) (h0 : ∀ H', Ext [] H H' → Pv 0 [] H') (hl : ∀ i acc H, i ≤ ks.length → Pv i acc H → H d = some (.frz o (.dK (ks.map fun x => ((Sum.inr (kf x) : Key), vf x)))))
    (hs : ∀ (Nx : Hp → Prop) i x acc H, ks[i]? = some x → Pv i acc H → H D = some (.lst acc) → (∀ acc' H', Pv (i + 1) acc' H' → H' D = some (.lst acc') → Nx H') → g (.str (kf x)) (wipe σ vs) H fun σ2 H2 => wipe σ2 vs = wipe σ vs ∧ tt σ2 H2 fun b H3 =>
      if b = true then te σ2 H3 fun y H4 => ∃ acc, H4 D = some (.lst acc) ∧ acc.length < sizeLine ∧ Nx (upd H4 D (.lst (acc ++ [y]))) else Nx H3) (hd : ∀ acc H, Pv ks.length acc H → H D = some (.lst acc) → Qd H) :
    ∃ W : Nat → Nat → Hp → Prop, (∃ m, W 0 m (upd H D (.lst []))) ∧ ∀ i m H, W i m H →
      ((Itk d o (ks.map fun x => ((Sum.inr (kf x) : Key), vf x))).stop i H ∧ Qd H) ∨ ((Itk d o (ks.map fun x => ((Sum.inr (kf x) : Key), vf x))).go i H ∧ ∃ Nx : Hp → Prop, (∀ H', Nx H' → ∃ m', m' < m ∧ W (i + 1) m' H') ∧ ∀ x H', (Itk d o (ks.map fun x => ((Sum.inr (kf x) : Key), vf x))).yld i H x H' → g x (wipe σ vs) H' fun σ2 H2 => wipe σ2 vs = wipe σ vs ∧ tt σ2 H2 fun b H3 =>
        if b = true then te σ2 H3 fun y H4 => ∃ acc, H4 D = some (.lst acc) ∧ acc.length < sizeLine ∧ Nx (upd H4 D (.lst (acc ++ [y]))) else Nx H3) := by
  refine z_lc_keys Pv nD h0 (fun i acc H hi p => hl i acc H (by rwa [List.length_map] at hi) p) (fun N i k v acc H hx p hD q => ?_) (fun acc H p => hd acc H (by rwa [List.length_map] at p))
  rw [List.getElem?_map, Option.map_eq_some_iff] at hx
  obtain ⟨x, hx, e⟩ := hx
  cases e
  exact hs N i x acc H hx p hD q
theorem z_dc_keysS {α : Type} {ks : List α} {kf : α → Str} {vf : α → V} {d : Addr} {o : Obj} {g : TG} {tt : TT} {tk tv : TE} {vs : List Nat} {D : Addr} {Qd : Hp → Prop} {σ : L2.St} {H : Hp} (Pv : Nat → List (Key × V) → Hp → Prop) (nD : H D = none) (h0 : ∀ H', Ext [] H H' → Pv 0 [] H') (hl : ∀ i acc H, i ≤ ks.length → Pv i acc H → H d = some (.frz o (.dK (ks.map fun x => ((Sum.inr (kf x) : Key), vf x)))))
    (hs : ∀ (Nx : Hp → Prop) i x acc H, ks[i]? = some x → Pv i acc H → H D = some (.dK acc) → (∀ acc' H', Pv (i + 1) acc' H' → H' D = some (.dK acc') → Nx H') → g (.str (kf x)) (wipe σ vs) H fun σ2 H2 => wipe σ2 vs = wipe σ vs ∧ tt σ2 H2 fun b H3 =>
      if b = true then tk σ2 H3 fun y H4 => tv σ2 H4 fun z H5 => ∃ kvs k, y = kV k ∧ H5 D = some (.dK kvs) ∧ kvs.length < sizeLine ∧ Nx (upd H5 D (.dK (putK kvs k z))) else Nx H3) (hd : ∀ acc H, Pv ks.length acc H → H D = some (.dK acc) → Qd H) :
    ∃ W : Nat → Nat → Hp → Prop, (∃ m, W 0 m (upd H D (.dK []))) ∧ ∀ i m H, W i m H →
      ((Itk d o (ks.map fun x => ((Sum.inr (kf x) : Key), vf x))).stop i H ∧ Qd H) ∨ ((Itk d o (ks.map fun x => ((Sum.inr (kf x) : Key), vf x))).go i H ∧ ∃ Nx : Hp → Prop, (∀ H', Nx H' → ∃ m', m' < m ∧ W (i + 1) m' H') ∧ ∀ x H', (Itk d o (ks.map fun x => ((Sum.inr (kf x) : Key), vf x))).yld i H x H' → g x (wipe σ vs) H' fun σ2 H2 => wipe σ2 vs = wipe σ vs ∧ tt σ2 H2 fun b H3 =>
        if b = true then tk σ2 H3 fun y H4 => tv σ2 H4 fun z H5 => ∃ kvs k, y = kV k ∧ H5 D = some (.dK kvs) ∧ kvs.length < sizeLine ∧ Nx (upd H5 D (.dK (putK kvs k z))) else Nx H3) := by
  refine z_dc_keysK Pv nD h0 (fun i acc H hi p => hl i acc H (by rwa [List.length_map] at hi) p) (fun N i k v acc H hx p hD q => ?_) (fun acc H p => hd acc H (by rwa [List.length_map] at p))
  rw [List.getElem?_map, Option.map_eq_some_iff] at hx
  obtain ⟨x, hx, e⟩ := hx
  cases e
  exact hs N i x acc H hx p hD q
theorem w_notT {K : PySem.W.Frag} {ta : TE} {σ : L2.St} {H : Hp} {Q : VK} (h : ta σ H fun x H1 => ∃ b, TruV K x H1 b ∧ Q (.bl (!b)) H1) : tNotT K ta σ H Q := h
theorem unlock_is {d : Addr} {u : HO} {od : Obj} {H H0 H1 : Hp} {M : List Addr} (L : Lk d u od H0 H1) (e : Ext M H1 H) : ∃ H', upd H d u = H' ∧ Ext M H0 H' ∧ ∀ b o, H b = some o → b ≠ d → H' b = some o := by
  refine ⟨_, rfl, ?_, fun b o h n => by rw [upd_ne n]; exact h⟩
  have e' := e
  rw [L.eq] at e'
  exact Ext.lock L.was L.ni e'
theorem len_upto {ks : List Int} {N : Nat} (h : ks.Nodup) (r : ∀ n ∈ ks, 1 ≤ n ∧ n ≤ (N : Int)) : ks.length ≤ N := by
  have := nodup_len (m := (List.range N).map fun (i : Nat) => ((i : Int) + 1)) h fun n m => by
    obtain ⟨a, b⟩ := r n m
    exact List.mem_map.mpr ⟨(n - 1).toNat, List.mem_range.mpr (by omega), by omega⟩
  rwa [List.length_map, List.length_range] at this
theorem w_disp {trs : List (TE × TE)} {σ : L2.St} {H : Hp} {QV : VK} (k : ∀ p H', Ext [] H H' → H p = none → H' p = some (.dK []) → tPairs trs σ H' fun ps H2 => H2 p = some (.dK []) ∧ ∃ kvs : List (Key × V), ps = kvs.map (fun kv => (kV kv.1, kv.2)) ∧ kvs.length ≤ 15 ∧ QV (.ref p) (upd H2 p (.dK (mergeK [] kvs)))) : tDisp trs σ H QV :=
  fun p np => k p _ (Ext.new np) np upd_same
/-! ### lists that grow otherwise -/
def zExtend : V → List V → Hp → VK → Prop := fun x vs H Q => ∃ l b xs zs, x = .ref l ∧ vs = [.ref b] ∧ H l = some (.lst xs) ∧ H b = some (.lst zs) ∧ xs.length + zs.length ≤ sizeLine ∧ Chg l (.lst (xs ++ zs)) H (Q .non)
theorem zmt_extend {X : Cx} : MtR X "list.extend" zExtend := mt_extend
def zInsert : V → List V → Hp → VK → Prop := fun x vs H Q => ∃ (l : Addr) (xs : List V) (i : Int) (y : V), x = .ref l ∧ vs = [.int i, y] ∧ H l = some (.lst xs) ∧ xs.length < sizeLine ∧ 0 ≤ i ∧ i < 2 ^ 63 ∧ Chg l (.lst (xs.take i.toNat ++ [y] ++ xs.drop i.toNat)) H (Q .non)
theorem zmt_insert {X : Cx} : MtR X "list.insert" zInsert := mt_insert
theorem w_dget2 {td ty tx : TE} {σ : L2.St} {H : Hp} {Q : VK} (h : td σ H fun x H1 => ∃ a, x = .ref a ∧ IsD H1 a ∧ ty σ H1 fun y H2 => tx σ H2 fun z H3 => ∃ o, DGet H3 a y o ∧ Q (o.getD z) H3) : tDGet2 td ty tx σ H Q := h
theorem min_if {i j : Int} : (if j < i then j else i) = min i j := by split <;> omega
theorem max_if {i j : Int} : (if j > i then j else i) = max i j := by split <;> omega
theorem Ext.cut {M N : List Addr} {H H1 H2 : Hp} (a : Ext M H H1) (b : Ext N H1 H2) (s : ∀ x ∈ N, x ∈ M ∨ H x = none) : Ext M H H2 :=
  ⟨fun x o h n => b.keep x o (a.keep x o h n) fun m => (s x m).elim n fun z => (by rw [z] at h; cases h), fun x o h i => b.imm x o (a.imm x o h i) i, fun x o h => (a.live x o h).elim fun o' h' => b.live x o' h'⟩
end Zk

set_option Elab.async false
set_option linter.all false
set_option maxRecDepth 100000
set_option maxHeartbeats 4000000
namespace Zk
open PySem PySem.Spec L2
open PyProof.Rows hiding St
/-! ### data that do not change, written ones too -/
theorem SqT.ext {K : PySem.W.Frag} {M : List Addr} {H H' : Hp} {a : Addr} {xs : List V} (e : Ext M H H') (h : SqT K H a xs) : SqT K H' a xs := by
  rcases h with (h | ⟨o, h⟩) | h
  · exact .inl (.inl (e.tup h))
  · exact .inl (.inr ⟨o, e.imm _ _ h trivial⟩)
  · exact .inr h
mutual
inductive Jm (K : PySem.W.Frag) (H : Hp) : V → PyData → Prop
  | non : Jm K H .non .none
  | bl (b : Bool) : Jm K H (.bl b) (.bool b)
  | int (i : Int) : Jm K H (.int i) (.int i)
  | str (x : Str) : Jm K H (.str x) (.str x)
  | tup {a : Addr} {xs : List V} {ds : List PyData} : SqT K H a xs → xs.length ≤ 1000 → JmAll K H xs ds → Jm K H (.ref a) (.tuple ds)
inductive JmAll (K : PySem.W.Frag) (H : Hp) : List V → List PyData → Prop
  | nil : JmAll K H [] []
  | cons {v : V} {vs : List V} {d : PyData} {ds : List PyData} : Jm K H v d → JmAll K H vs ds → JmAll K H (v :: vs) (d :: ds)
end
mutual
theorem Jm.go {K : PySem.W.Frag} {H H' : Hp} (e : ∀ a xs, SqT K H a xs → SqT K H' a xs) : ∀ (d : PyData) (v : V), Jm K H v d → Jm K H' v d
  | .none, _, .non => .non
  | .bool _, _, .bl b => .bl b
  | .int _, _, .int i => .int i
  | .str _, _, .str x => .str x
  | .tuple ds, _, .tup h l k => .tup (e _ _ h) l (JmAll.go e ds _ k)
theorem JmAll.go {K : PySem.W.Frag} {H H' : Hp} (e : ∀ a xs, SqT K H a xs → SqT K H' a xs) : ∀ (ds : List PyData) (vs : List V), JmAll K H vs ds → JmAll K H' vs ds
  | [], _, .nil => .nil
  | d :: ds, _, .cons h k => .cons (Jm.go e d _ h) (JmAll.go e ds _ k)
end
theorem Jm.ext {K : PySem.W.Frag} {M : List Addr} {H H' : Hp} {v : V} {d : PyData} (h : Jm K H v d) (e : Ext M H H') : Jm K H' v d := Jm.go (fun _ _ q => SqT.ext e q) d v h
theorem JmAll.ext {K : PySem.W.Frag} {M : List Addr} {H H' : Hp} {v : List V} {d : List PyData} (h : JmAll K H v d) (e : Ext M H H') : JmAll K H' v d := JmAll.go (fun _ _ q => SqT.ext e q) d v h
theorem JmAll.len {K : PySem.W.Frag} {H : Hp} : ∀ {vs : List V} {ds : List PyData}, JmAll K H vs ds → vs.length = ds.length
  | _, _, .nil => rfl
  | _, _, .cons _ k => congrArg (· + 1) k.len
theorem JmAll.at {K : PySem.W.Frag} {H : Hp} : ∀ {vs : List V} {ds : List PyData} {i : Nat} {d : PyData}, JmAll K H vs ds → ds[i]? = some d → ∃ v, vs[i]? = some v ∧ Jm K H v d
  | _, _, 0, _, .cons h _, e => by cases e; exact ⟨_, rfl, h⟩
  | _, _, i + 1, _, .cons _ k, e => JmAll.at (i := i) k e
theorem JmAll.snoc {K : PySem.W.Frag} {H : Hp} {v : V} {d : PyData} (h : Jm K H v d) : ∀ {vs : List V} {ds : List PyData}, JmAll K H vs ds → JmAll K H (vs ++ [v]) (ds ++ [d])
  | _, _, .nil => .cons h .nil
  | _, _, .cons g k => .cons g (JmAll.snoc h k)
theorem JmAll.app {K : PySem.W.Frag} {H : Hp} : ∀ {vs us : List V} {ds es : List PyData}, JmAll K H vs ds → JmAll K H us es → JmAll K H (vs ++ us) (ds ++ es)
  | _, _, _, _, .nil, h => h
  | _, _, _, _, .cons g k, h => .cons g (JmAll.app k h)
theorem JmAll.take {K : PySem.W.Frag} {H : Hp} : ∀ {vs : List V} {ds : List PyData} (n : Nat), JmAll K H vs ds → JmAll K H (vs.take n) (ds.take n)
  | _, _, 0, _ => by rw [List.take_zero, List.take_zero]; exact .nil
  | _, _, _ + 1, .nil => .nil
  | _, _, n + 1, .cons g k => .cons g (JmAll.take n k)
theorem JmAll.drop {K : PySem.W.Frag} {H : Hp} : ∀ {vs : List V} {ds : List PyData} (n : Nat), JmAll K H vs ds → JmAll K H (vs.drop n) (ds.drop n)
  | _, _, 0, h => h
  | _, _, _ + 1, .nil => .nil
  | _, _, n + 1, .cons g k => JmAll.drop n k
theorem Jm.of {K : PySem.W.Frag} {H : Hp} : ∀ (d : PyData) (v : V), Im H v d → Jm K H v d := by
  have key : ∀ n, ∀ (d : PyData) (v : V), sizeOf d < n → Im H v d → Jm K H v d := by
    intro n
    induction n with
    | zero => intro d v h; omega
    | succ n ih =>
      intro d v hn h
      cases h with
      | non => exact .non
      | bl b => exact .bl b
      | int i => exact .int i
      | str x => exact .str x
      | @tup a xs ds ha l k =>
        refine .tup (sqt ha) l ?_
        have hn' : ∀ d ∈ ds, sizeOf d < n := fun d m => by
          have := List.sizeOf_lt_of_mem m
          have e : sizeOf (PyData.tuple ds) = 1 + sizeOf ds := by simp
          omega
        clear ha l hn
        induction ds generalizing xs with
        | nil => cases k; exact .nil
        | cons d ds ihd =>
          cases k with
          | cons g k => exact .cons (ih _ _ (hn' d List.mem_cons_self) g) (ihd k fun d m => hn' d (List.mem_cons_of_mem _ m))
  exact fun d v => key _ d v (Nat.lt_succ_self _)
theorem Jm.tupE {K : PySem.W.Frag} {H : Hp} {v : V} {ds : List PyData} (h : Jm K H v (.tuple ds)) : ∃ a xs, v = .ref a ∧ SqT K H a xs ∧ JmAll K H xs ds := by
  cases h with
  | tup h _ k => exact ⟨_, _, rfl, h, k⟩
/-- the same: data, lists of such, tuples of such -/
def Sj (K : PySem.W.Frag) : Nat → Hp → V → V → Prop
  | 0, _, _, _ => False
  | n + 1, H, a, b => (∃ d, d.depth ≤ n ∧ Jm K H a d ∧ Jm K H b d) ∨ (∃ p q xs ys, a = .ref p ∧ b = .ref q ∧ H p = some (.lst xs) ∧ H q = some (.lst ys) ∧ xs.length ≤ 100000 ∧ Paired (Sj K n H) xs ys) ∨
    ∃ p q xs ys, a = .ref p ∧ b = .ref q ∧ H p = some (.tup xs) ∧ H q = some (.tup ys) ∧ xs.length ≤ 1000 ∧ Paired (Sj K n H) xs ys
theorem Sj.jm {K : PySem.W.Frag} {n : Nat} {H : Hp} {a b : V} {d : PyData} (l : d.depth < n) (h : Jm K H a d) (k : Jm K H b d) : Sj K n H a b := by
  cases n with
  | zero => omega
  | succ n => exact .inl ⟨d, by omega, h, k⟩
theorem Sj.ext {K : PySem.W.Frag} {H H' : Hp} (e : Ext [] H H') : ∀ {n : Nat} {a b : V}, Sj K n H a b → Sj K n H' a b
  | 0, _, _, h => h
  | n + 1, a, b, h => by
    rcases h with ⟨d, l, i, j⟩ | ⟨p, q, xs, ys, rfl, rfl, hp, hq, lz, w⟩ | ⟨p, q, xs, ys, rfl, rfl, hp, hq, lz, w⟩
    · exact .inl ⟨d, l, i.ext e, j.ext e⟩
    · exact .inr (.inl ⟨p, q, xs, ys, rfl, rfl, e.keep _ _ hp List.not_mem_nil, e.keep _ _ hq List.not_mem_nil, lz, Paired.mapP w fun _ _ z => Sj.ext e z⟩)
    · exact .inr (.inr ⟨p, q, xs, ys, rfl, rfl, e.tup hp, e.tup hq, lz, Paired.mapP w fun _ _ z => Sj.ext e z⟩)
theorem w_eqO {H : Hp} {Q : VK} {a b : Option Int} (q : Q (.bl (decide (a = b))) H) : rEq (match a with | none => V.non | some t => V.int t) (match b with | none => V.non | some t => V.int t) H Q := by
  cases a <;> cases b
  · exact ⟨rfl, by simpa using q⟩
  · exact ⟨rfl, by simpa using q⟩
  · exact ⟨rfl, by simpa using q⟩
  · refine ⟨rfl, ?_⟩
    simpa using q
theorem w_iRng3 {tl : TA} {σ : L2.St} {H : Hp} {R : It → Hp → Prop} (h : tl σ H fun vs H1 => ∃ (i j c : Int) (n : Nat), vs = [.int i, .int j, .int c] ∧ RgC i j c n ∧ R (Itc i c n) H1) : iRng3 tl σ H R := h
theorem z_for_rangeC {σ : L2.St} {H : Hp} {t : TS} {nx : L2.St → Hp → Prop} {rt : VK} {lo c : Int} {n : Nat} {g : TG} (Pv : Nat → L2.St → Hp → Prop) (h0 : Pv 0 σ H)
    (hs : ∀ (N : L2.St → Hp → Prop) i σ H, i < n → Pv i σ H → (∀ σ' H', Pv (i + 1) σ' H' → N σ' H') → g (.int (lo + (i : Nat) * c)) σ H fun σ2 H2 => t ⟨N, rt, nx, N⟩ σ2 H2) (hd : ∀ σ H, Pv n σ H → nx σ H) :
    ∃ W : Nat → Nat → L2.St → Hp → Prop, (∃ m, W 0 m σ H) ∧ ∀ i m σ H, W i m σ H →
      ((Itc lo c n).stop i H ∧ nx σ H) ∨ ((Itc lo c n).go i H ∧ ∃ N : L2.St → Hp → Prop, (∀ σ' H', N σ' H' → ∃ m', m' < m ∧ W (i + 1) m' σ' H') ∧ ∀ x H', (Itc lo c n).yld i H x H' → g x σ H' fun σ2 H2 => t ⟨N, rt, nx, N⟩ σ2 H2) :=
  for_rangeC (D := ⟨nx, rt, nx, nx⟩) Pv h0 (fun i σ H hx p => hs (Pv (i + 1)) i σ H hx p fun _ _ q => q) hd
theorem w_neO {H : Hp} {Q : VK} {a b : Option Int} (q : Q (.bl (!decide (a = b))) H) : rNe (match a with | none => V.non | some t => V.int t) (match b with | none => V.non | some t => V.int t) H Q := by
  cases a <;> cases b
  · exact ⟨rfl, by simpa using q⟩
  · exact ⟨rfl, by simpa using q⟩
  · exact ⟨rfl, by simpa using q⟩
  · refine ⟨rfl, ?_⟩
    simpa using q
theorem z_dc_listK {xs : List V} {a : Addr} {g : TG} {tk tv : TE} {tt : TT} {vs : List Nat} {D : Addr} {Qd : Hp → Prop} {σ : L2.St} {H : Hp} {K : PySem.W.Frag} (Pv : Nat → List (Key × V) → Hp → Prop) (nD : H D = none) (h0 : ∀ H', Ext [] H H' → Pv 0 [] H') (hl : ∀ i acc H, i ≤ xs.length → Pv i acc H → SqL K H a xs)
    (hs : ∀ (Nx : Hp → Prop) i x acc H, xs[i]? = some x → Pv i acc H → H D = some (.dK acc) → (∀ acc' H', Pv (i + 1) acc' H' → H' D = some (.dK acc') → Nx H') → g x (wipe σ vs) H fun σ2 H2 => wipe σ2 vs = wipe σ vs ∧ tt σ2 H2 fun b H3 =>
      if b = true then tk σ2 H3 fun y H4 => tv σ2 H4 fun z H5 => ∃ kvs k, y = kV k ∧ H5 D = some (.dK kvs) ∧ kvs.length < sizeLine ∧ Nx (upd H5 D (.dK (putK kvs k z))) else Nx H3) (hd : ∀ acc H, Pv xs.length acc H → H D = some (.dK acc) → Qd H) :
    ∃ W : Nat → Nat → Hp → Prop, (∃ m, W 0 m (upd H D (.dK []))) ∧ ∀ i m H, W i m H →
      ((Itl K a).stop i H ∧ Qd H) ∨ ((Itl K a).go i H ∧ ∃ Nx : Hp → Prop, (∀ H', Nx H' → ∃ m', m' < m ∧ W (i + 1) m' H') ∧ ∀ x H', (Itl K a).yld i H x H' → g x (wipe σ vs) H' fun σ2 H2 => wipe σ2 vs = wipe σ vs ∧ tt σ2 H2 fun b H3 =>
        if b = true then tk σ2 H3 fun y H4 => tv σ2 H4 fun z H5 => ∃ kvs k, y = kV k ∧ H5 D = some (.dK kvs) ∧ kvs.length < sizeLine ∧ Nx (upd H5 D (.dK (putK kvs k z))) else Nx H3) := by
  refine ⟨fun i m H => m = xs.length - i ∧ i ≤ xs.length ∧ ∃ acc, Pv i acc H ∧ H D = some (.dK acc), ⟨_, rfl, Nat.zero_le _, [], h0 _ (Ext.new nD), upd_same⟩, ?_⟩
  rintro i m' H ⟨rfl, hi, acc, p, hD⟩
  have sq := hl i acc H hi p
  rcases Nat.lt_or_ge i xs.length with hlt | hge
  · refine .inr ⟨⟨xs, xs[i], sq, List.getElem?_eq_getElem hlt⟩, (fun H => ∃ acc, Pv (i + 1) acc H ∧ H D = some (.dK acc)), fun H' p' => ⟨xs.length - (i + 1), by omega, rfl, hlt, p'⟩, fun x H' y => ?_⟩
    obtain ⟨e, y⟩ := y
    subst e
    exact hs _ i x acc _ (y xs sq) p hD fun acc' H' p' h' => ⟨acc', p', h'⟩
  · have e : i = xs.length := by omega
    subst e
    exact .inl ⟨⟨xs, sq, Nat.le_refl _⟩, hd acc H p hD⟩
theorem pe_never {X : Cx} {e : Expr} : PE X e (fun _ _ _ => False) := ⟨fun _ _ _ _ _ _ h => h.elim⟩
theorem w_par {i j : Nat} {ta : TA} {D : Ends} {σ : L2.St} {H : Hp} (h : ta σ H fun vs H1 => ∃ v w, vs = [v, w] ∧ D.nx ((σ.set i (some v)).set j (some w)) H1) : tPar i j ta D σ H := h
end Zk

set_option Elab.async false
set_option linter.all false
set_option maxRecDepth 100000
set_option maxHeartbeats 4000000
namespace L2
open PySem PySem.Spec PyProof.Rows
/-! ### tuples of ints compared by > -/
def rGtT (K : PySem.W.Frag) : R2 := fun x y H Q => ∃ (a b : Addr) (ns ms : List Int), x = .ref a ∧ y = .ref b ∧ SqT K H a (ns.map V.int) ∧ SqT K H b (ms.map V.int) ∧
  Q (.bl (Ob.lexAt (fun j => decide (ns.getD j 0 = ms.getD j 0)) (fun j => decide (ns.getD j 0 > ms.getD j 0)) (decide (ns.length > ms.length)) 0 (min ns.length ms.length))) H
theorem op_gtT {X : Cx} (hu : X.A.units < cLine) : OpR X (compareOp .Gt) (rGtT X.K) := by
  intro pins s σ H x y v u Q I rx ry h
  obtain ⟨a, b, ns, ms, rfl, rfl, ha, hb, q⟩ := h
  cases rx
  cases ry
  obtain ⟨its, r1, p1, _⟩ := I.tuple ha
  obtain ⟨its2, r2, p2, _⟩ := I.tuple hb
  have i1 : IntsAre its ns := Vals.ints r1
  have i2 : IntsAre its2 ms := Vals.ints r2
  have e1 : its.toArray.size = ns.length := by rw [List.size_toArray]; exact i1.length
  have e2 : its2.toArray.size = ms.length := by rw [List.size_toArray]; exact i2.length
  have at1 : ∀ j (h1 : j < its.toArray.size), ∃ t, its.toArray[j] = .int (ns.getD j 0) t := fun j h1 => PyProof.Rows.IntsAre.int_at i1 _ _ (by simp at h1; simp [h1])
  have at2 : ∀ j (h1 : j < its2.toArray.size), ∃ t, its2.toArray[j] = .int (ms.getD j 0) t := fun j h1 => PyProof.Rows.IntsAre.int_at i2 _ _ (by simp at h1; simp [h1])
  have R := Ob.RcOp.tuples_gt (A := X.A) (s := s) (e := fun j => decide (ns.getD j 0 = ms.getD j 0)) (r := fun j => decide (ns.getD j 0 > ms.getD j 0)) p1 p2 hu (fun j h1 h2 => by
    obtain ⟨t, et⟩ := at1 j h1
    obtain ⟨t', et'⟩ := at2 j h2
    rw [et, et']
    have z : (ns.getD j 0 == ms.getD j 0) = decide (ns.getD j 0 = ms.getD j 0) := by
      by_cases q : ns.getD j 0 = ms.getD j 0
      · rw [decide_eq_true q]; exact beq_iff_eq.mpr q
      · rw [decide_eq_false q]; exact beq_eq_false_iff_ne.mpr q
    rw [← z]
    exact SeqAt.EqAt.int_int _ _ _ _) (fun j h1 h2 _ => by
    obtain ⟨t, et⟩ := at1 j h1
    obtain ⟨t', et'⟩ := at2 j h2
    rw [et, et']
    exact Ob.RcOp.gt_int _ _ _ _)
  rw [e1, e2] at R
  have z : wpAny (model X.prog X.w) X.A (compareOp .Gt (.ref a) (.ref b)) (EP X pins σ Q) X.xe s := R X.prog X.w X.xe (EP X pins σ Q) ⟨.bl _, H, I, rfl, q⟩
  exact z
end L2
namespace Zk
open PySem PySem.Spec L2
theorem w_min2 {H : Hp} {Q : VK} {i j : Int} (q : Q (.int (if j < i then j else i)) H) : ∃ i' j', [V.int i, V.int j] = [V.int i', V.int j'] ∧ Q (.int (if j' < i' then j' else i')) H := ⟨i, j, rfl, q⟩
theorem w_extend {H : Hp} {Q : VK} {l b : Addr} {xs zs : List V} (h : H l = some (.lst xs)) (g : H b = some (.lst zs)) (c : xs.length + zs.length ≤ sizeLine) (q : Chg l (.lst (xs ++ zs)) H (Q .non)) : zExtend (.ref l) [.ref b] H Q := ⟨l, b, xs, zs, rfl, rfl, h, g, c, q⟩
/-- the same data in two rows -/
theorem JmAll.sj {K : PySem.W.Frag} {H : Hp} {n : Nat} : ∀ {vs us : List V} {ds : List PyData}, JmAll K H vs ds → JmAll K H us ds → (∀ d ∈ ds, d.depth < n) → Paired (Sj K n H) vs us
  | _, _, _, .nil, .nil, _ => .nil
  | _, _, _, .cons h k, .cons h' k', m => .cons (Sj.jm (m _ List.mem_cons_self) h h') (JmAll.sj k k' fun d hd => m d (List.mem_cons_of_mem _ hd))
theorem JmAll.one {K : PySem.W.Frag} {H : Hp} : ∀ {vs : List V} {ds : List PyData} {i : Nat} {v : V}, JmAll K H vs ds → vs[i]? = some v → ∃ d, ds[i]? = some d ∧ Jm K H v d
  | _, _, 0, _, .cons h _, e => by cases e; exact ⟨_, rfl, h⟩
  | _, _, i + 1, _, .cons _ k, e => JmAll.one (i := i) k e
theorem Jm.tupL {K : PySem.W.Frag} {H : Hp} {v : V} {ds : List PyData} (h : Jm K H v (.tuple ds)) : ∃ a xs, v = .ref a ∧ SqT K H a xs ∧ xs.length ≤ 1000 ∧ JmAll K H xs ds := by
  cases h with
  | tup h l k => exact ⟨_, _, rfl, h, l, k⟩
/-- a list of data -/
def KnAt (K : PySem.W.Frag) (H : Hp) (a : Addr) (ks : List PyData) : Prop := ∃ vs, H a = some (.lst vs) ∧ JmAll K H vs ks
theorem KnAt.ext {K : PySem.W.Frag} {M : List Addr} {H H' : Hp} {a : Addr} {ks : List PyData} (h : KnAt K H a ks) (e : Ext M H H') (n : a ∉ M) : KnAt K H' a ks := by
  obtain ⟨vs, h1, h2⟩ := h
  exact ⟨vs, e.keep _ _ h1 n, h2.ext e⟩
end Zk
namespace Zk
open PySem PySem.Spec L2
theorem w_listU {K : PySem.W.Frag} {H : Hp} {Q : VK} {a : Addr} {ys : List V} (h : SqT K H a ys) (q : Alc (.lst ys) H Q) : cListL K [.ref a] H Q := ⟨a, ys, rfl, .inr h, q⟩
end Zk

set_option Elab.async false
set_option linter.all false
set_option maxRecDepth 100000
set_option maxHeartbeats 4000000
namespace Zk
open PySem PySem.Spec L2 SX PySem.NumText
open PyProof.Rows hiding St
/-! ### texts of values: writing and reading -/
def isDig (c : Nat) : Bool := decide (48 ≤ c) && decide (c ≤ 57)
def digs (t : List Nat) (p : Nat) : List Nat := (t.drop p).takeWhile isDig
def okD (m : Nat) (d : List Nat) : Bool := decide (d ≠ []) && decide (d.length ≤ m) && !(decide (d.head? = some 48) && decide (1 < d.length))
def seg (t : List Nat) (p e : Nat) : List Nat := (t.drop p).take (e - p)
def intL (i : Int) : List Nat := (Str.ofString (toString i)).cps.toList
mutual
def wr : PyData → List Nat
  | .none => [45]
  | .bool b => [if b = true then 121 else 110]
  | .int i => 105 :: (intL i ++ [59])
  | .str x => 116 :: (intL (x.length : Int) ++ 58 :: x.cps.toList)
  | .tuple ds => 40 :: (wrAll ds ++ [41])
  | _ => []
def wrAll : List PyData → List Nat
  | [] => []
  | d :: ds => wr d ++ wrAll ds
end
mutual
def small : PyData → Bool
  | .int i => decide (i.natAbs < 10 ^ 61)
  | .tuple ds => smallAll ds
  | _ => true
def smallAll : List PyData → Bool
  | [] => true
  | d :: ds => small d && smallAll ds
end
def rNum (t : List Nat) (p : Nat) : Option (PyData × Nat) :=
  if t[p]? = some 45 then
    (if okD 60 (digs t (p + 1)) = true ∧ t[p + 1 + (digs t (p + 1)).length]? = some 59 ∧ digs t (p + 1) ≠ [48] then
      some (.int (-(digitsVal (digs t (p + 1)) : Int)), p + 1 + (digs t (p + 1)).length + 1) else none)
  else if okD 60 (digs t p) = true ∧ t[p + (digs t p).length]? = some 59 then some (.int (digitsVal (digs t p) : Int), p + (digs t p).length + 1) else none
def rNumT (neg : Bool) (t : List Nat) (q : Nat) : Option (PyData × Nat) :=
  if okD 60 (digs t q) = true ∧ t[q + (digs t q).length]? = some 59 ∧ (neg = true → digs t q ≠ [48]) then some (.int (if neg = true then -(digitsVal (digs t q) : Int) else (digitsVal (digs t q) : Int)), q + (digs t q).length + 1) else none
theorem rNum_is (t : List Nat) (p : Nat) : rNum t p = if t[p]? = some 45 then rNumT true t (p + 1) else rNumT false t p := by
  unfold rNum rNumT
  split
  · simp
  · simp
def txtOk (t : List Nat) (s n : Nat) : Prop := n ≤ 20 ∧ t[s - 1]? = some 58 ∧ s + n ≤ t.length ∧ Al (seg t s (s + n))
open Classical in
noncomputable def rTxt (t : List Nat) (p : Nat) : Option (PyData × Nat) :=
  if okD 2 (digs t p) = true ∧ txtOk t (p + (digs t p).length + 1) (digitsVal (digs t p)) then
    some (.str (S (seg t (p + (digs t p).length + 1) (p + (digs t p).length + 1 + digitsVal (digs t p)))), p + (digs t p).length + 1 + digitsVal (digs t p)) else none
def mems (t : List Nat) (f : Nat → Option (PyData × Nat)) : Nat → Nat → List PyData → Option (PyData × Nat)
  | 0, _, _ => none
  | n + 1, p, acc => if t[p]? = some 41 then some (.tuple acc, p + 1) else match f p with
    | none => none
    | some (d, q) => mems t f n q (acc ++ [d])
noncomputable def rdW (t : List Nat) (tu : Nat → Option (PyData × Nat)) (p : Nat) : Option (PyData × Nat) :=
  if t[p]? = some 45 then some (.none, p + 1) else if t[p]? = some 121 then some (.bool true, p + 1) else if t[p]? = some 110 then some (.bool false, p + 1)
  else if t[p]? = some 105 then rNum t (p + 1) else if t[p]? = some 116 then rTxt t (p + 1) else if t[p]? = some 40 then tu (p + 1) else none
noncomputable def rd (t : List Nat) : Nat → Nat → Option (PyData × Nat)
  | 0 => rdW t fun _ => none
  | r + 1 => rdW t fun p => mems t (rd t r) t.length p []
/-! #### pieces -/
theorem seg_app {t : List Nat} {p q e : Nat} (h : p ≤ q) (k : q ≤ e) (l : e ≤ t.length) : seg t p q ++ seg t q e = seg t p e := by
  unfold seg
  rw [show e - p = (q - p) + (e - q) by omega, List.take_add, List.drop_drop, show p + (q - p) = q by omega]
theorem get_lt {t : List Nat} {p c : Nat} (h : t[p]? = some c) : p < t.length := by
  rcases Nat.lt_or_ge p t.length with k | k
  · exact k
  · rw [List.getElem?_eq_none k] at h; cases h
theorem seg_one {t : List Nat} {p c : Nat} (h : t[p]? = some c) : seg t p (p + 1) = [c] := by
  unfold seg
  rw [show p + 1 - p = 1 by omega]
  have l := get_lt h
  rw [List.getElem?_eq_getElem l] at h
  cases h
  rw [List.drop_eq_getElem_cons l]
  rfl
theorem seg_len {t : List Nat} {p e : Nat} (h : e ≤ t.length) : (seg t p e).length = e - p := by
  unfold seg; rw [List.length_take, List.length_drop]; omega
theorem digs_pre (t : List Nat) (p : Nat) : digs t p <+: t.drop p := List.takeWhile_prefix _
theorem digs_le {t : List Nat} {p : Nat} (h : p ≤ t.length) : p + (digs t p).length ≤ t.length := by
  have := (digs_pre t p).length_le
  rw [List.length_drop] at this
  omega
theorem digs_seg (t : List Nat) (p : Nat) : seg t p (p + (digs t p).length) = digs t p := by
  unfold seg
  rw [show p + (digs t p).length - p = (digs t p).length by omega]
  exact (List.prefix_iff_eq_take.mp (digs_pre t p)).symm
theorem digs_all (t : List Nat) (p : Nat) : AllDigits (digs t p) := fun c m => by
  have := List.all_eq_true.mp (List.all_takeWhile (l := t.drop p) (p := isDig)) c m
  unfold isDig at this
  rw [Bool.and_eq_true, decide_eq_true_eq, decide_eq_true_eq] at this
  exact this
theorem okD_take (m : Nat) (d : List Nat) : okD m (d.take (m + 1)) = okD m d := by
  by_cases h : d.length ≤ m
  · rw [List.take_of_length_le (by omega)]
  · unfold okD
    rw [decide_eq_false (p := d.length ≤ m) h, decide_eq_false (p := (d.take (m + 1)).length ≤ m) (by rw [List.length_take]; omega), Bool.and_false, Bool.and_false]
    rfl
theorem okD_ne {m : Nat} {d : List Nat} (h : okD m d = true) : d ≠ [] ∧ d.length ≤ m ∧ (d.head? = some 48 → d.length ≤ 1) := by
  unfold okD at h
  simp only [Bool.and_eq_true, decide_eq_true_eq, Bool.not_eq_true', Bool.and_eq_false_iff, decide_eq_false_iff_not] at h
  exact ⟨h.1.1, h.1.2, fun k => by rcases h.2 with z | z; exact absurd k z; omega⟩
theorem okD_of {m : Nat} {d : List Nat} (a : d ≠ []) (b : d.length ≤ m) (c : d.head? = some 48 → d.length ≤ 1) : okD m d = true := by
  unfold okD
  simp only [Bool.and_eq_true, decide_eq_true_eq, Bool.not_eq_true', Bool.and_eq_false_iff, decide_eq_false_iff_not]
  refine ⟨⟨a, b⟩, ?_⟩
  by_cases z : d.head? = some 48
  · right; have := c z; omega
  · exact .inl z
/-- digits of a number: the number's text is the digits -/
theorem map_chr : ∀ {d : List Nat}, AllDigits d → (d.map Char.ofNat).map Char.toNat = d
  | [], _ => rfl
  | c :: d, h => by
    rw [List.map_cons, List.map_cons, map_chr h.tail]
    have := h.head
    rw [show (Char.ofNat c).toNat = c from by
      have k : ∀ c, c ≤ 57 → (Char.ofNat c).toNat = c := by decide
      exact k c this.2]
theorem intL_nat (n : Nat) : intL (n : Int) = (Nat.toDigits 10 n).map Char.toNat := PySem.W.KIN.signs_num n
theorem intL_dig {m : Nat} {d : List Nat} (h : AllDigits d) (k : okD m d = true) : intL (digitsVal d : Int) = d := by
  obtain ⟨k1, k2, k3⟩ := okD_ne k
  rw [intL_nat, toDigits_all d h]
  cases d with
  | nil => exact absurd rfl k1
  | cons c r =>
    by_cases e : c = 48
    · subst e
      have := k3 rfl
      cases r with
      | nil => rfl
      | cons => simp at this
    · rw [List.dropWhile_cons, if_neg (by rw [beq_iff_eq]; exact e)]
      exact map_chr h
theorem dig_pos {m : Nat} {d : List Nat} (h : AllDigits d) (k : okD m d = true) (n : d ≠ [48]) : 0 < digitsVal d := by
  obtain ⟨k1, k2, k3⟩ := okD_ne k
  cases d with
  | nil => exact absurd rfl k1
  | cons c r =>
    by_cases e : c = 48
    · subst e
      have := k3 rfl
      cases r with
      | nil => exact absurd rfl n
      | cons => simp at this
    · have := h.head
      exact digitsVal_pos (by omega)
theorem intL_neg {n : Nat} (h : 0 < n) : intL (-(n : Int)) = 45 :: intL (n : Int) := by
  cases n with
  | zero => omega
  | succ m =>
    rw [intL_nat]
    unfold intL
    rw [PyProof.Rows.signs_ofString]
    show ((toString (Int.negSucc m) : String).toList).map Char.toNat = _
    rw [show (toString (Int.negSucc m) : String) = "-" ++ Nat.repr (m + 1) from rfl, String.toList_append, List.map_append, Nat.toList_repr]
    rfl
theorem okD_two {d : List Nat} (h : AllDigits d) (k : okD 60 d = true) (n : digitsVal d ≤ 20) : okD 2 d = true := by
  obtain ⟨k1, k2, k3⟩ := okD_ne k
  refine okD_of k1 ?_ k3
  have e := intL_dig h k
  rw [intL_nat] at e
  have := PyProof.Rows.digits10_le (k := 2) (by decide) (show digitsVal d < 10 ^ 2 by omega)
  rw [← e, List.length_map]
  exact this
theorem okD_mono {d : List Nat} (k : okD 2 d = true) : okD 60 d = true := by
  obtain ⟨k1, k2, k3⟩ := okD_ne k
  exact okD_of k1 (by omega) k3
theorem dig_lt : ∀ {d : List Nat} (a : Nat), AllDigits d → d.foldl (fun acc c => acc * 10 + (c - 48)) a < (a + 1) * 10 ^ d.length
  | [], a, _ => by simp
  | c :: d, a, h => by
    have := h.head
    have := dig_lt (d := d) (a * 10 + (c - 48)) h.tail
    rw [List.foldl_cons, List.length_cons, Nat.pow_succ]
    refine Nat.lt_of_lt_of_le this ?_
    rw [Nat.mul_comm (10 ^ d.length) 10, ← Nat.mul_assoc]
    exact Nat.mul_le_mul_right _ (by omega)
theorem dig_small {m : Nat} {d : List Nat} (h : AllDigits d) (k : d.length ≤ 61) : digitsVal d < 10 ^ 61 := by
  have := dig_lt 0 h
  rw [Nat.zero_add, Nat.one_mul] at this
  exact Nat.lt_of_lt_of_le this (Nat.pow_le_pow_right (by decide) k)
theorem small_snoc {d : PyData} (h : small d = true) : ∀ {ds : List PyData}, smallAll ds = true → smallAll (ds ++ [d]) = true
  | [], _ => by simp [smallAll, h]
  | a :: ds, k => by
    simp only [smallAll, Bool.and_eq_true] at k
    simp only [List.cons_append, smallAll, Bool.and_eq_true]
    exact ⟨k.1, small_snoc h k.2⟩
/-! #### what is read has the text -/
structure Got (t : List Nat) (r p : Nat) (d : PyData) (e : Nat) : Prop where
  lt : p < e
  le : e ≤ t.length
  wr : wr d = seg t p e
  lay : d.canLay0 = true
  dep : d.depth ≤ r
  sm : small d = true
theorem got_num {t : List Nat} {p e : Nat} {d : PyData} (r : Nat) (h1 : t[p]? = some 105) (h : rNum t (p + 1) = some (d, e)) : Got t r p d e := by
  have l := get_lt h1
  unfold rNum at h
  split at h
  · next m =>
    split at h
    · next k =>
      obtain ⟨k1, k2, k3⟩ := k
      cases h
      have ll := get_lt k2
      refine ⟨by omega, by omega, ?_, rfl, Nat.zero_le _, decide_eq_true (by rw [Int.natAbs_neg, Int.natAbs_natCast]; exact dig_small (m := 60) (digs_all _ _) (by have := (okD_ne k1).2.1; omega))⟩
      rw [wr, intL_neg (dig_pos (digs_all _ _) k1 k3), intL_dig (digs_all _ _) k1, ← seg_app (q := p + 1) (by omega) (by omega) (by omega), seg_one h1, ← seg_app (p := p + 1) (q := p + 1 + 1) (by omega) (by omega) (by omega), seg_one m,
        ← seg_app (p := p + 1 + 1) (q := p + 1 + 1 + (digs t (p + 1 + 1)).length) (by omega) (by omega) (by omega), digs_seg, seg_one k2]
      rfl
    · cases h
  · split at h
    · next k =>
      obtain ⟨k1, k2⟩ := k
      cases h
      have ll := get_lt k2
      refine ⟨by omega, by omega, ?_, rfl, Nat.zero_le _, decide_eq_true (by rw [Int.natAbs_natCast]; exact dig_small (m := 60) (digs_all _ _) (by have := (okD_ne k1).2.1; omega))⟩
      rw [wr, intL_dig (digs_all _ _) k1, ← seg_app (q := p + 1) (by omega) (by omega) (by omega), seg_one h1,
        ← seg_app (p := p + 1) (q := p + 1 + (digs t (p + 1)).length) (by omega) (by omega) (by omega), digs_seg, seg_one k2]
      rfl
    · cases h
theorem al_ok {x : Str} (h : Al x.cps.toList) : PySem.PyData.strOk x = true := by
  unfold PySem.PyData.strOk
  rw [Array.all_eq_true_iff_forall_mem]
  intro c m
  have := h c (by simpa using m)
  have k : ∀ c ∈ alph.cps.toList, c < 1114112 := by decide +kernel
  exact decide_eq_true (k c this)
theorem got_txt {t : List Nat} {p e : Nat} {d : PyData} (r : Nat) (h1 : t[p]? = some 116) (h : rTxt t (p + 1) = some (d, e)) : Got t r p d e := by
  have l := get_lt h1
  unfold rTxt at h
  split at h
  · next k =>
    obtain ⟨k1, k2, k3, k4, k5⟩ := k
    cases h
    rw [show p + 1 + (digs t (p + 1)).length + 1 - 1 = p + 1 + (digs t (p + 1)).length by omega] at k3
    have ll := get_lt k3
    have sl := seg_len (p := p + 1 + (digs t (p + 1)).length + 1) k4
    refine ⟨by omega, by omega, ?_, by show PySem.PyData.strOk _ = true; exact al_ok k5, Nat.zero_le _, rfl⟩
    rw [wr, S_len, sl, show p + 1 + (digs t (p + 1)).length + 1 + digitsVal (digs t (p + 1)) - (p + 1 + (digs t (p + 1)).length + 1) = digitsVal (digs t (p + 1)) by omega, intL_dig (digs_all _ _) k1,
      ← seg_app (p := p) (q := p + 1) (e := p + 1 + (digs t (p + 1)).length + 1 + digitsVal (digs t (p + 1))) (by omega) (by omega) k4, seg_one h1,
      ← seg_app (p := p + 1) (q := p + 1 + (digs t (p + 1)).length) (e := p + 1 + (digs t (p + 1)).length + 1 + digitsVal (digs t (p + 1))) (by omega) (by omega) (by omega), digs_seg,
      ← seg_app (p := p + 1 + (digs t (p + 1)).length) (e := p + 1 + (digs t (p + 1)).length + 1 + digitsVal (digs t (p + 1))) (q := p + 1 + (digs t (p + 1)).length + 1) (by omega) (by omega) (by omega), seg_one k3]
    rfl
  · cases h
theorem wrAll_app : ∀ (a b : List PyData), wrAll (a ++ b) = wrAll a ++ wrAll b
  | [], b => by rw [List.nil_append]; unfold wrAll; rfl
  | d :: a, b => by rw [List.cons_append, wrAll, wrAll, wrAll_app a b, List.append_assoc]
theorem lay_snoc {d : PyData} (h : d.canLay0 = true) : ∀ {ds : List PyData}, PyData.canLayAll0 ds = true → PyData.canLayAll0 (ds ++ [d]) = true
  | [], _ => by simp [PyData.canLayAll0, h]
  | a :: ds, k => by
    simp only [PyData.canLayAll0, Bool.and_eq_true] at k
    simp only [List.cons_append, PyData.canLayAll0, Bool.and_eq_true]
    exact ⟨k.1, lay_snoc h k.2⟩
theorem depAll_le {n : Nat} : ∀ {ds : List PyData}, (∀ d ∈ ds, d.depth ≤ n) → PyData.depthAll ds ≤ n
  | [], _ => by rw [PyData.depthAll]; exact Nat.zero_le _
  | d :: ds, h => by
    have a := h d List.mem_cons_self
    have b := depAll_le (ds := ds) fun x m => h x (List.mem_cons_of_mem _ m)
    rw [PyData.depthAll]
    omega
theorem got_mems {t : List Nat} {r p0 e : Nat} {d : PyData} {f : Nat → Option (PyData × Nat)} (hf : ∀ p d e, f p = some (d, e) → Got t r p d e) (h1 : t[p0]? = some 40) :
    ∀ (n p : Nat) (acc : List PyData), p0 < p → p ≤ t.length → wrAll acc = seg t (p0 + 1) p → PyData.canLayAll0 acc = true → (∀ a ∈ acc, a.depth ≤ r) → smallAll acc = true → mems t f n p acc = some (d, e) → Got t (r + 1) p0 d e
  | 0, _, _, _, _, _, _, _, _, h => nomatch h
  | n + 1, p, acc, lp, pl, hw, hl, hd, hs, h => by
    unfold mems at h
    split at h
    · next c =>
      cases h
      have := get_lt c
      refine ⟨by omega, by omega, ?_, by simpa [PyData.canLay0] using hl, ?_, by simpa [small] using hs⟩
      · rw [wr, hw, ← seg_app (p := p0) (q := p0 + 1) (e := p + 1) (by omega) (by omega) (by omega), seg_one h1, ← seg_app (p := p0 + 1) (q := p) (e := p + 1) (by omega) (by omega) (by omega), seg_one c]
        rfl
      · rw [depth_tup]
        have := depAll_le hd
        omega
    · split at h
      · cases h
      · next q _ d' q' e' =>
        have g := hf _ _ _ e'
        refine got_mems hf h1 n q' _ (by have := g.lt; omega) g.le ?_ (lay_snoc g.lay hl) (fun a m => ?_) (small_snoc g.sm hs) h
        · rw [wrAll_app, hw, show wrAll [d'] = wr d' from by rw [wrAll, wrAll, List.append_nil], g.wr, seg_app (by omega) (by have := g.lt; omega) g.le]
        · rcases List.mem_append.mp m with m | m
          · exact hd a m
          · rw [List.mem_singleton.mp m]; exact g.dep
theorem got_rdW {t : List Nat} {r p e : Nat} {d : PyData} {tu : Nat → Option (PyData × Nat)} (ht : t[p]? = some 40 → tu (p + 1) = some (d, e) → Got t r p d e) (h : rdW t tu p = some (d, e)) : Got t r p d e := by
  unfold rdW at h
  split at h
  · next c => cases h; have := get_lt c; exact ⟨by omega, by omega, by rw [wr, seg_one c], rfl, Nat.zero_le _, rfl⟩
  split at h
  · next c => cases h; have := get_lt c; exact ⟨by omega, by omega, by rw [wr, seg_one c]; rfl, rfl, Nat.zero_le _, rfl⟩
  split at h
  · next c => cases h; have := get_lt c; exact ⟨by omega, by omega, by rw [wr, seg_one c]; rfl, rfl, Nat.zero_le _, rfl⟩
  split at h
  · next c => exact got_num r c h
  split at h
  · next c => exact got_txt r c h
  split at h
  · next c => exact ht c h
  · cases h
theorem got_rd {t : List Nat} : ∀ (r p : Nat) (d : PyData) (e : Nat), rd t r p = some (d, e) → Got t r p d e
  | 0, p, d, e, h => by
    unfold rd at h
    exact got_rdW (fun _ z => by cases z) h
  | r + 1, p, d, e, h => by
    unfold rd at h
    refine got_rdW (fun c z => ?_) h
    have := get_lt c
    exact got_mems (got_rd r) c _ _ _ (by omega) (by omega) (by unfold seg; rw [Nat.sub_self, List.take_zero, wrAll]) rfl (by intro _ m; cases m) rfl z
theorem tw_next {q : Nat → Bool} : ∀ {l : List Nat} {j c : Nat}, l[j]? = some c → j ≤ (l.takeWhile q).length → (q c = true ↔ j < (l.takeWhile q).length)
  | [], j, c, h, _ => by cases h
  | a :: l, 0, c, h, _ => by
    cases h
    rw [List.takeWhile_cons]
    cases e : q a with
    | true => simp
    | false => simp
  | a :: l, j + 1, c, h, k => by
    rw [List.takeWhile_cons] at k ⊢
    cases e : q a with
    | true =>
      rw [e] at k
      simp only [if_true, List.length_cons] at k ⊢
      have := tw_next (q := q) (l := l) (j := j) (c := c) (by simpa using h) (by omega)
      rw [this]; omega
    | false =>
      rw [e] at k
      simp at k
theorem digs_next {t : List Nat} {p j c : Nat} (h : t[p + j]? = some c) (k : j ≤ (digs t p).length) : isDig c = true ↔ j < (digs t p).length :=
  tw_next (q := isDig) (l := t.drop p) (by rw [List.getElem?_drop]; exact h) k
theorem digs_in {t : List Nat} {p j : Nat} (hp : p ≤ t.length) (k : j < (digs t p).length) : ∃ c, t[p + j]? = some c ∧ isDig c = true := by
  have l := digs_le hp
  obtain ⟨c, h⟩ : ∃ c, t[p + j]? = some c := ⟨_, List.getElem?_eq_getElem (by omega)⟩
  exact ⟨c, h, (digs_next h (by omega)).mpr k⟩
/-- so many of the digits -/
theorem digs_cut {t : List Nat} {p : Nat} (k : Nat) : seg t p (p + min (digs t p).length k) = (digs t p).take k := by
  have e := digs_seg t p
  unfold seg at e ⊢
  rw [show p + (digs t p).length - p = (digs t p).length by omega] at e
  rw [show p + min (digs t p).length k - p = min k (digs t p).length by omega, ← List.take_take, e]
def digS : Str := Str.ofString "0123456789"
theorem digS_in (c : Nat) : decide (c ∈ digS.cps.toList) = isDig c := by
  rw [show digS.cps.toList = [48, 49, 50, 51, 52, 53, 54, 55, 56, 57] from by decide +kernel]
  unfold isDig
  by_cases h : 48 ≤ c ∧ c ≤ 57
  · obtain ⟨h1, h2⟩ := h
    rw [decide_eq_true h1, decide_eq_true h2]
    exact decide_eq_true (by simp only [List.mem_cons, List.not_mem_nil, or_false]; omega)
  · rw [decide_eq_false (by simp only [List.mem_cons, List.not_mem_nil, or_false]; omega)]
    by_cases h1 : 48 ≤ c
    · rw [decide_eq_true h1, decide_eq_false (p := c ≤ 57) (by omega)]; rfl
    · rw [decide_eq_false h1]; rfl
/-- the read value has the whole text -/
theorem rd_whole {t : List Nat} {r : Nat} {d : PyData} (h : rd t r 0 = some (d, t.length)) : wr d = t := by
  have := (got_rd r 0 d t.length h).wr
  unfold seg at this
  rw [this, List.drop_zero, Nat.sub_zero, List.take_length]
/-- the loop of a program that goes on while it must -/
theorem mems_more {t : List Nat} {f : Nat → Option (PyData × Nat)} {r : Nat} (hf : ∀ p d e, f p = some (d, e) → Got t r p d e) : ∀ (n p : Nat) (acc : List PyData), t.length < p + n → mems t f n p acc = mems t f (n + 1) p acc
  | 0, p, acc, h => by
    have c : t[p]? = none := List.getElem?_eq_none (by omega)
    rw [mems, mems, c, if_neg (by intro z; cases z)]
    cases e' : f p with
    | none => rfl
    | some z =>
      obtain ⟨d', q'⟩ := z
      have := (hf _ _ _ e').lt; have := (hf _ _ _ e').le
      omega
  | n + 1, p, acc, h => by
    rw [mems, mems]
    cases e' : f p with
    | none => rfl
    | some z =>
      obtain ⟨d', q'⟩ := z
      have := (hf _ _ _ e').lt
      simp only
      rw [mems_more hf n q' _ (by omega)]
end Zk

set_option Elab.async false
set_option linter.all false
set_option maxRecDepth 100000
set_option maxHeartbeats 4000000
namespace L2
open PySem PySem.Spec PyProof.Rows
/-- isinstance(e, c), e an own exception without a dict, whatever class the suite has been told -/
def rIsE0 (K : PySem.W.Frag) (a : Addr) (cls : Value) (d : Option Addr) : List V → Hp → VK → Prop := fun xs H Q => ∃ (D : Addr), cls = .ref D ∧ d = none ∧ ExcC K D ∧ rIsE K D a xs H Q
theorem call_isE0 {X : Cx} {a : Addr} {cls : Value} {d : Option Addr} {oe : Obj} {pn : List (Addr × Obj)} (hz : Zc cls d oe) (hf : ∃ vs, oe.data = .fields vs) : CallR (X.suite a ((a, oe) :: pn)) (.builtin "isinstance") (rIsE0 X.K a cls d) := by
  intro pins s σ H xs us Q I r h
  obtain ⟨D, rfl, rfl, C, h⟩ := h
  exact call_isE C hz hf pins s σ H xs us Q I r h
end L2
namespace Zk
open PySem PySem.Spec L2 SX PySem.NumText
open PyProof.Rows hiding St
section
variable {X : Cx} {K : PySem.W.Frag} {H : Hp} {Q : VK}
def rInS : R2 := fun x y H Q => ∃ c z, x = .str ⟨#[c]⟩ ∧ y = .str z ∧ Q (.bl (decide (c ∈ z.cps.toList))) H
theorem zop_inS : OpR X (compareOp .In) rInS := by
  intro pins s σ H x y v u Q I rx ry h
  obtain ⟨c, z, rfl, rfl, q⟩ := h
  refine op_in_str pins s σ H _ _ v u Q I rx ry ⟨⟨#[c]⟩, z, rfl, rfl, ?_⟩
  have e := in_one z.cps.toList c
  rw [S_tl] at e
  rw [show (⟨#[c]⟩ : Str) = S [c] from rfl, e]
  exact q
theorem w_inC {c : Nat} {z : Str} (q : Q (.bl (decide (c ∈ z.cps.toList))) H) : rInS (.str ⟨#[c]⟩) (.str z) H Q := ⟨c, z, rfl, rfl, q⟩
def cStrI : RC := fun xs H Q => ∃ i, xs = [.int i] ∧ i.natAbs.log2 < 1920 ∧ Q (.str (Str.ofString (toString i))) H
theorem zc_str : CallR X (.type "str") cStrI := call_str_int
theorem w_strI {i : Int} (l : i.natAbs.log2 < 1920) (q : Q (.str (S (intL i))) H) : cStrI [.int i] H Q := ⟨i, rfl, l, by rw [intL, S_tl] at q; exact q⟩
def cIntS : RC := fun xs H Q => ∃ a n, xs = [.str a] ∧ PySem.intText? a = some n ∧ a.length ≤ 640 ∧ Q (.int n) H
theorem zc_intS : CallR X (.type "int") cIntS := call_int_str
theorem w_intS {d : List Nat} (h : AllDigits d) (n : d ≠ []) (l : d.length ≤ 100) (q : Q (.int (digitsVal d : Int)) H) : cIntS [.str (S d)] H Q :=
  ⟨S d, _, rfl, PySem.intText_digits (x := S d) h n (by rw [S_len]; omega), by rw [S_len]; omega, q⟩
theorem w_isE0 {a D : Addr} {c : V} {cv : Value} {b : Bool} (C : ExcC K D) (hcv : ∀ u, RelV c u → u = cv) (e : PySem.W.kitOne K (.ref D) cv = some b) (q : Q (.bl b) H) : rIsE0 K a (.ref D) none [.ref a, c] H Q := ⟨D, rfl, rfl, C, c, cv, b, rfl, hcv, e, q⟩
end
theorem w_callS {sp : Sp} {E : L2.St → XK} {tl : TA} {σ : L2.St} {H : Hp} {Q : VK} (h : tl σ H fun vs H1 => sp vs H1 Q (E σ)) : tCallS sp E tl σ H Q := h
theorem op_eqDK {X : Cx} {K : PySem.W.Frag} (e : X.K = K) (hu : X.A.units + 64 < cLine) : OpR X (compareOp .Eq) (rEqD K) := e ▸ op_eqD hu
theorem w_sx {j : Int} {P : Int → Prop} (h : P j) : ∃ j', V.int j = V.int j' ∧ P j' := ⟨j, rfl, h⟩
theorem z_for_rangeR {t : TS} {nx : L2.St → Hp → Prop} {rt : VK} {σ : L2.St} {H : Hp} {lo : Int} {n : Nat} {g : TG} (Pv : Nat → L2.St → Hp → Prop) (R : L2.St → Hp → Prop) (h0 : Pv 0 σ H) (hr : ∀ σ H, R σ H → nx σ H)
    (hs : ∀ (N nx' : L2.St → Hp → Prop), (∀ σ H, R σ H → nx' σ H) → ∀ i σ H, i < n → Pv i σ H → (∀ σ' H', Pv (i + 1) σ' H' → N σ' H') → g (.int (lo + i)) σ H fun σ2 H2 => t ⟨N, rt, nx', N⟩ σ2 H2) (hd : ∀ σ H, Pv n σ H → R σ H) :
    ∃ W : Nat → Nat → L2.St → Hp → Prop, (∃ m, W 0 m σ H) ∧ ∀ i m σ H, W i m σ H →
      ((Itr lo n).stop i H ∧ nx σ H) ∨ ((Itr lo n).go i H ∧ ∃ N : L2.St → Hp → Prop, (∀ σ' H', N σ' H' → ∃ m', m' < m ∧ W (i + 1) m' σ' H') ∧ ∀ x H', (Itr lo n).yld i H x H' → g x σ H' fun σ2 H2 => t ⟨N, rt, nx, N⟩ σ2 H2) :=
  z_for_range Pv h0 (fun N i σ H hi p hN => hs N nx hr i σ H hi p hN) fun σ H p => hr σ H (hd σ H p)
theorem cut_S (t : List Nat) (p e : Nat) : cutS (S t) (some (p : Int)) (some (e : Int)) = S (seg t p e) := by
  refine str_tl ?_
  rw [cutS_tl, HT.sIx_nat, HT.sIx_nat, S_len]
  show (t.drop (min p t.length)).take (min e t.length - min p t.length) = (t.drop p).take (e - p)
  by_cases h : p ≤ t.length
  · rw [Nat.min_eq_left h]
    by_cases k : e ≤ t.length
    · rw [Nat.min_eq_left k]
    · rw [Nat.min_eq_right (by omega), List.take_of_length_le (by rw [List.length_drop] <;> omega), List.take_of_length_le (by rw [List.length_drop]; omega)]
  · rw [List.drop_eq_nil_of_le (by omega), List.drop_eq_nil_of_le (by omega), List.take_nil, List.take_nil]
theorem seg_at (t : List Nat) (p : Nat) : seg t p (p + 1) = (t[p]?).toList := by
  unfold seg
  rw [show p + 1 - p = 1 by omega]
  rcases Nat.lt_or_ge p t.length with h | h
  · rw [List.getElem?_eq_getElem h, List.drop_eq_getElem_cons h]
    rfl
  · rw [List.drop_eq_nil_of_le h, List.getElem?_eq_none h]
    rfl
/-- one sign of a text, told from a sign -/
theorem one_is {t : List Nat} {p c : Nat} : (S (seg t p (p + 1)) = S [c]) ↔ t[p]? = some c := by
  rw [seg_at]
  constructor
  · intro h
    have := S_inj h
    cases e : t[p]? with
    | none => rw [e] at this; cases this
    | some x => rw [e] at this; cases this; rfl
  · intro h
    rw [h]; rfl
theorem log_lt {n : Nat} (h : n < 10 ^ 61) : n.log2 < 1920 := by
  by_cases z : n = 0
  · subst z; decide
  · rw [Nat.log2_lt z]
    exact Nat.lt_of_lt_of_le h (by decide +kernel)
/-! data that do not change, their tuples up to a hundred thousand -/
mutual
inductive Jw (K : PySem.W.Frag) (H : Hp) : V → PyData → Prop
  | non : Jw K H .non .none
  | bl (b : Bool) : Jw K H (.bl b) (.bool b)
  | int (i : Int) : Jw K H (.int i) (.int i)
  | str (x : Str) : Jw K H (.str x) (.str x)
  | tup {a : Addr} {xs : List V} {ds : List PyData} : SqT K H a xs → xs.length ≤ 100000 → JwAll K H xs ds → Jw K H (.ref a) (.tuple ds)
inductive JwAll (K : PySem.W.Frag) (H : Hp) : List V → List PyData → Prop
  | nil : JwAll K H [] []
  | cons {v : V} {vs : List V} {d : PyData} {ds : List PyData} : Jw K H v d → JwAll K H vs ds → JwAll K H (v :: vs) (d :: ds)
end
mutual
theorem Jw.go {K : PySem.W.Frag} {H H' : Hp} (e : ∀ a xs, SqT K H a xs → SqT K H' a xs) : ∀ (d : PyData) (v : V), Jw K H v d → Jw K H' v d
  | .none, _, .non => .non
  | .bool _, _, .bl b => .bl b
  | .int _, _, .int i => .int i
  | .str _, _, .str x => .str x
  | .tuple ds, _, .tup h l k => .tup (e _ _ h) l (JwAll.go e ds _ k)
theorem JwAll.go {K : PySem.W.Frag} {H H' : Hp} (e : ∀ a xs, SqT K H a xs → SqT K H' a xs) : ∀ (ds : List PyData) (vs : List V), JwAll K H vs ds → JwAll K H' vs ds
  | [], _, .nil => .nil
  | d :: ds, _, .cons h k => .cons (Jw.go e d _ h) (JwAll.go e ds _ k)
end
theorem Jw.ext {K : PySem.W.Frag} {M : List Addr} {H H' : Hp} {v : V} {d : PyData} (h : Jw K H v d) (e : Ext M H H') : Jw K H' v d := Jw.go (fun _ _ q => SqT.ext e q) d v h
theorem JwAll.ext {K : PySem.W.Frag} {M : List Addr} {H H' : Hp} {v : List V} {d : List PyData} (h : JwAll K H v d) (e : Ext M H H') : JwAll K H' v d := JwAll.go (fun _ _ q => SqT.ext e q) d v h
theorem JwAll.len {K : PySem.W.Frag} {H : Hp} : ∀ {vs : List V} {ds : List PyData}, JwAll K H vs ds → vs.length = ds.length
  | _, _, .nil => rfl
  | _, _, .cons _ k => congrArg (· + 1) k.len
theorem JwAll.at {K : PySem.W.Frag} {H : Hp} : ∀ {vs : List V} {ds : List PyData} {i : Nat} {d : PyData}, JwAll K H vs ds → ds[i]? = some d → ∃ v, vs[i]? = some v ∧ Jw K H v d
  | _, _, 0, _, .cons h _, e => by cases e; exact ⟨_, rfl, h⟩
  | _, _, i + 1, _, .cons _ k, e => JwAll.at (i := i) k e
theorem JwAll.snoc {K : PySem.W.Frag} {H : Hp} {v : V} {d : PyData} (h : Jw K H v d) : ∀ {vs : List V} {ds : List PyData}, JwAll K H vs ds → JwAll K H (vs ++ [v]) (ds ++ [d])
  | _, _, .nil => .cons h .nil
  | _, _, .cons g k => .cons g (JwAll.snoc h k)
theorem JwAll.one {K : PySem.W.Frag} {H : Hp} : ∀ {vs : List V} {ds : List PyData} {i : Nat} {v : V}, JwAll K H vs ds → vs[i]? = some v → ∃ d, ds[i]? = some d ∧ Jw K H v d
  | _, _, 0, _, .cons h _, e => by cases e; exact ⟨_, rfl, h⟩
  | _, _, i + 1, _, .cons _ k, e => JwAll.one (i := i) k e
mutual
theorem Jw.dp {K : PySem.W.Frag} {H : Hp} : ∀ (d : PyData) (v : V), Jw K H v d → Dp K H v d
  | .none, _, .non => .non
  | .bool _, _, .bl b => .bl b
  | .int _, _, .int i => .int i
  | .str _, _, .str x => .str x
  | .tuple ds, _, .tup h l k => .tup h (JwAll.dp ds _ k)
theorem JwAll.dp {K : PySem.W.Frag} {H : Hp} : ∀ (ds : List PyData) (vs : List V), JwAll K H vs ds → DpAll K H vs ds
  | [], _, .nil => .nil
  | d :: ds, _, .cons h k => .cons (Jw.dp d _ h) (JwAll.dp ds _ k)
end
end Zk

set_option Elab.async false
set_option linter.all false
set_option maxRecDepth 100000
set_option maxHeartbeats 4000000
namespace L2
open PySem PySem.Spec PyProof.Rows
/-! ### tuple(d) of a dict with number and text keys -/
section
variable {prog : Program} {w : World} {A : Around} {E : Value → Shared → Prop} {s : Shared} {r d : Addr} {n : Nat} {P : Nat → Value → Prop} {OK : Heap → Prop}
theorem zf_collect {T : String} {Q : List Value → Shared → Prop} (K : PySem.W.KdlSrc prog w T r d n P OK) (hh : A.handled = none) (hok : OK s.heap) (hn : n ≤ sizeLine)
    (hQ : ∀ (h' : Heap) (tk : Nat) (acc : Array Value), (∀ b o, s.heap.get? b = some o → h'.get? b = some o) → ItemsOf P acc n → Q acc.toList { s with heap := h', toks := tk }) : wpAny (model prog w) A (collect (.ref r)) Q E s := by
  unfold collect
  refine wpAny_bind (wpAny_runValue (codeAny_builtin F.entry_proto_collect ?_))
  rw [Around.under_plainId F.plain_proto_collect _]
  show wpAny _ A.in1 (newList [] >>= fun l => again (.builtin "list.__iadd__" ⟨[l, .ref r], []⟩)) _ _ s
  refine wpAny_bind (wpAny_newObj_type ?_)
  refine wpAny_pure ⟨plainId_quiet F.plain_list_iadd _, codeAny_builtin F.entry_list_iadd ?_⟩
  rw [Around.under_plainId F.plain_list_iadd _]
  show wpAny _ A.in1 (Builtin.List.listExtendWith (.ref s.heap.objs.size) (.ref r) (.ref s.heap.objs.size)) _ _ _
  have hS : (s.heap.push { cls := .type "list", data := .seq ([] : List Value).toArray }).get? s.heap.objs.size = some { cls := .type "list", data := .seq #[] 0 } := Heap.get?_push_size _ rfl
  have hlt := K.there _ hok
  refine wpAny_mono (PySem.W.kdl_extend (A := A) (R := fun rr s' => rr = .ok (.ret (.ref s.heap.objs.size)) ∧ ∃ (h' : Heap) (tk : Nat) (acc : Array Value) (c' : Nat), s' = { s with heap := h', toks := tk } ∧
      (∀ b o, s.heap.get? b = some o → h'.get? b = some o) ∧ h'.get? s.heap.objs.size = some { cls := .type "list", dict := none, data := .seq acc c', slots := #[] } ∧ ItemsOf P acc n)
    (s := { s with heap := s.heap.push { cls := .type "list", data := .seq ([] : List Value).toArray } }) K hh (K.keep _ _ hok fun b _ o e => Heap.get?_push_of_some _ e) _ (Nat.ne_of_gt hlt.1) (Nat.ne_of_gt hlt.2) _ 0 hS
    (fun h' tk acc c' hk e hi => ⟨rfl, h', tk, acc, c', rfl, fun b o q => hk b o (Nat.ne_of_lt (Heap.lt_size q)) (Heap.get?_push_of_some _ q), e, hi⟩) hn) (fun fin s' h => ?_) (fun e s' h => ?_)
  · cases fin with
    | done f =>
      obtain ⟨e, h', tk, acc, c', rfl, hk, hS', hi⟩ := h
      cases e
      show wpAny _ A (load s.heap.objs.size >>= _) _ _ _
      exact wpAny_bind (wpAny_load hS' (wpAny_pure (hQ h' tk acc hk hi)))
    | again c' =>
      refine ⟨h.1, codeAny_mono h.2 fun rr s'' hr' => ?_⟩
      obtain ⟨rfl, h', tk, acc, c', rfl, hk, hS', hi⟩ := hr'
      show wpAny _ A (load s.heap.objs.size >>= _) _ _ _
      exact wpAny_bind (wpAny_load hS' (wpAny_pure (hQ h' tk acc hk hi)))
  · exact absurd h.1 (by simp)
theorem zf_tuple_new {Q₁ : Value → Shared → Prop} (K : PySem.W.KdlSrc prog w "dict" r d n P OK) (hh : A.handled = none) (hok : OK s.heap) (hn : n ≤ sizeLine)
    (h : ∀ (h' : Heap) (tk : Nat) (acc : Array Value), (∀ b o, s.heap.get? b = some o → h'.get? b = some o) → ItemsOf P acc n → Q₁ (.ref h'.objs.size) { s with heap := h'.push { cls := .type "tuple", data := .seq acc }, toks := tk }) :
    codeAny (model prog w) A (.call (.builtin "tuple.__new__") ⟨[.type "tuple", .ref r], []⟩) (wants Q₁ E) s := by
  refine codeAny_of_tree ?_
  show wpAny _ A.in1 (do checkBuiltinCall "tuple.__new__" ⟨[.type "tuple", .ref r], []⟩; again (.builtin "tuple.__new__" ⟨[.type "tuple", .ref r], []⟩)) _ _ s
  refine wpAny_bind (wpAny_of_eq (F.newCall_tuple_1 _) (wpAny_pure ⟨plainId_quiet F.plain_tuple_new _, codeAny_builtin F.entry_tuple_new ?_⟩))
  rw [Around.under_plainId F.plain_tuple_new _]
  have hsub := sub_tuple_self
  have hinit := init_tuple_lookup
  have hmh := madeHere_tuple
  have hTI : s.TypeIs (.ref r) "dict" := K.type s hok
  have hh1 : A.in1.handled = none := hh
  wp_walk using wpAny_typeOf hTI, zf_collect (A := A.in1) K hh1 hok hn
  intro h' tk acc hk hacc
  show wpAny _ _ (Builtin.Tuple.tupleExact acc.toList.toArray >>= fun v => ret v) _ _ _
  unfold Builtin.Tuple.tupleExact
  refine wpAny_bind (wpAny_newObj_type ?_ (by show acc.toList.toArray.size ≤ sizeLine; simp only [Array.toArray_toList]; rw [hacc.1]; exact hn))
  refine wpAny_pure ?_
  have e : acc.toList.toArray = acc := by simp
  rw [e]
  exact h h' tk acc hk hacc
theorem zf_call_tuple {Q : Value → Shared → Prop} (K : PySem.W.KdlSrc prog w "dict" r d n P OK) (hh : A.handled = none) (hok : OK s.heap) (hn : n ≤ sizeLine)
    (hQ : ∀ (h' : Heap) (tk : Nat) (acc : Array Value), (∀ b o, s.heap.get? b = some o → h'.get? b = some o) → ItemsOf P acc n → Q (.ref h'.objs.size) { s with heap := h'.push { cls := .type "tuple", data := .seq acc }, toks := tk }) :
    wpAny (model prog w) A (call (.type "tuple") [.ref r]) Q E s := by
  refine callType_codes (Q₁ := fun obj s₁ => s₁.TypeIs obj "tuple" ∧ Q obj s₁) F.called_tuple (F.typeCall_tuple_1 _) F.entry_object_init
    (zf_tuple_new (A := A.in1) K hh hok hn fun h' tk acc hk hacc => ⟨⟨_, Heap.get?_push_size _ rfl, rfl⟩, hQ h' tk acc hk hacc⟩) fun obj s₁ h₁ => ?_
  exact ⟨h₁.1, F.args_object_init_2 obj _, object_init_meets F.called_tuple.init.lookup F.called_tuple.made (by decide) prog w A.in1 _ s₁ ⟨h₁.1, rfl, h₁.2⟩⟩
end
/-- tuple(d): the keys -/
def rTupD : List V → Hp → VK → Prop := fun xs H Q => ∃ p kvs, xs = [.ref p] ∧ H p = some (.dK kvs) ∧ ∀ q, H q = none → Q (.ref q) (upd H q (.tup (kvs.map fun kv => kV kv.1)))
theorem call_tuple_dK {X : Cx} (hc : X.calm = true) : CallR X (.type "tuple") rTupD := by
  intro pins s σ H xs us Q I r h
  obtain ⟨p, kvs, e, hk, q⟩ := h
  subst e
  obtain ⟨u, eu, rx⟩ := vals1 r
  subst eu
  obtain rfl : u = Value.ref p := rx
  obtain ⟨z, lo, vs, rk, hd⟩ := (show ObjOk X.prog X.w H s.heap p (.dK kvs) from I.hok p _ hk)
  obtain ⟨ep, hat⟩ := hd.dictAt
  have hl : kvs.length = vs.length := Paired.length rk
  refine zf_call_tuple (PySem.W.kdl_dict (knd := mixKind X.prog X.w) (kvs := vs) (ep := ep) lo) (I.ok.hd hc) hat (by rw [← hl]; exact z) fun h' tk acc' hkeep hacc => ?_
  have I1 : Inv X pins σ H { s with heap := h', toks := tk } := I.kept hkeep
  refine ⟨.ref h'.objs.size, upd H h'.objs.size (.tup (kvs.map fun kv => kV kv.1)), I1.laid (t' := tk) (fun c o e => Heap.get?_push_of_some _ e) (Nat.le_refl _) (show ObjOk X.prog X.w _ _ _ (.tup (kvs.map fun kv => kV kv.1)) from ⟨?_, acc'.toList, ?_, ?_⟩), rfl, q _ (I1.hok.fresh (Nat.le_refl _))⟩
  · rw [List.length_map]; exact z
  · have el : acc'.toList.length = acc'.size := by simp
    refine vals_of_at (by rw [List.length_map, el, hacc.1, hl]) fun j x w h1 h2 => ?_
    obtain ⟨k, y, hky, hi⟩ := hacc.2 j w (by rw [← Array.getElem?_toList]; exact h2)
    have e1 : (kvs.map (·.1))[j]? = some k := by
      rw [KV.keys rk, List.getElem?_map, hky] <;> rfl
    have e2 : (kvs.map fun kv => kV kv.1)[j]? = some (kV k) := by
      have e3 : (kvs.map fun kv => kV kv.1) = (kvs.map (·.1)).map kV := by rw [List.map_map] <;> rfl
      rw [e3, List.getElem?_map, e1] <;> rfl
    rw [e2] at h1
    cases h1
    exact keyIs_rel hi
  · rw [Array.toArray_toList]; exact IsTup.new _ _
/-! ### enumerate(text) -/
def IteS (x : Str) : It := ⟨fun i _ => i < x.cps.size, fun i H v H' => ∃ T c, v = .ref T ∧ H T = none ∧ H' = upd H T (.tup [.int (i : Nat), .str ⟨#[c]⟩]) ∧ x.cps[i]? = some c, fun i _ => x.cps.size ≤ i⟩
theorem turn_enumS {P : Program} {w : World} {K : PySem.W.Frag} {elts : List Expr} {kk : Nat} {tpos : Pos} (e it : Addr) (x : Str) (t : Tok) (ty : String) (hty : ty = "str_ascii_iterator" ∨ ty = "str_iterator") :
    Turn P w K (.Tuple elts kk tpos) (IteS x) [e, it] e (fun i h => (∃ old, IsEnum h e it ((i : Nat) : Int) old) ∧ h.IsStrIter it ty x t i ∧ e ≠ it) where
  mem := by simp
  obj := fun i h st b hb => by
    obtain ⟨⟨old, he⟩, ⟨o, ho, hc, hd⟩, _⟩ := st
    have e' : b = e ∨ b = it := by simpa using hb
    rcases e' with z | z
    · rw [z]; exact ⟨_, he, fun v q => nomatch q⟩
    · rw [z]; exact ⟨o, ho, fun v q => by rw [hd] at q; cases q⟩
  keep := fun i h h' st k => by
    obtain ⟨⟨old, he⟩, ⟨o, ho, r⟩, hne⟩ := st
    exact ⟨⟨old, k e (by simp) _ he⟩, ⟨o, k it (by simp) o ho, r⟩, hne⟩
  item := by
    intro X hP hw hK hc i pins s σ H E I hf st hg
    subst hP hw hK
    obtain ⟨⟨old, he⟩, hit, hne⟩ := st
    have D : Draws X.prog X.w X.A.in1 it [it] x.cps.size (fun i v => ∃ c u, x.cps[i]? = some c ∧ v = .str ⟨#[c]⟩ u) (fun i h => h.IsStrIter it ty x t i) := by
      rcases hty with z | z
      · rw [z]; exact Draws.strAscii (show X.A.in1.handled = none from I.ok.hd hc) it x t
      · rw [z]; exact Draws.strWide (show X.A.in1.handled = none from I.ok.hd hc) it x t
    have hel : e < s.heap.objs.size := Heap.lt_size he
    have hil : it < s.heap.objs.size := by obtain ⟨_, q, _⟩ := id hit; exact Heap.lt_size q
    refine wpAny_pyNext_enum_itemD D he hit hg hne (by simpa using hne) fun u h' tk hP ho hs hT hsz hk => ?_
    obtain ⟨c, uu, hcx, rfl⟩ := hP
    refine ⟨_, rfl, wpAny_letOwnedTupleGo_enum (s := { s with heap := h', toks := tk + 1 }) ho fun h'' he' sb => ?_⟩
    have hT2 : h''.get? s.heap.objs.size = some { cls := .type "tuple", data := .seq #[.int i tk, .str ⟨#[c]⟩ uu] } := (sb.2 _ (Nat.ne_of_gt hel)).trans hT
    have new : ObjOk X.prog X.w (upd H s.heap.objs.size (.tup [.int (i : Nat), .str ⟨#[c]⟩])) h'' s.heap.objs.size (.tup [.int (i : Nat), .str ⟨#[c]⟩]) :=
      ⟨by show 2 ≤ sizeLine; decide, [.int i tk, .str ⟨#[c]⟩ uu], .cons ⟨_, rfl⟩ (.cons ⟨_, rfl⟩ .nil), ⟨_, hT2, rfl, _, rfl⟩⟩
    have I1 : Inv X pins σ (upd H s.heap.objs.size (.tup [.int (i : Nat), .str ⟨#[c]⟩])) { s with heap := h'', toks := tk + 1 } :=
      I.turnedNew (ch := [e, it]) (fun b ob hb q => (sb.2 b (fun z => hb (by simp [z]))).trans (hk b ob (fun z => hb (by simp [z])) (fun z => hb (by simp [z])) q)) hf (Nat.le_refl _) new
    refine ⟨.ref s.heap.objs.size, _, I1, rfl, ⟨_, c, rfl, I.hok.fresh (Nat.le_refl _), rfl, hcx⟩, ⟨⟨.str ⟨#[c]⟩ uu, ?_⟩, ?_, hne⟩, fun b hb => ?_⟩
    · have e1 : ((i + 1 : Nat) : Int) = (i : Int) + 1 := by omega
      rw [e1]; exact he'
    · obtain ⟨o2, ho2, r2⟩ := hs
      exact ⟨o2, (sb.2 it (Ne.symm hne)).trans ho2, r2⟩
    · have hb' : b < s.heap.objs.size := by
        have e' : b = e ∨ b = it := by simpa using hb
        rcases e' with z | z
        · rw [z]; exact hel
        · rw [z]; exact hil
      rw [upd_ne (Nat.ne_of_lt hb')]
      exact (hf b hb).1
  done := by
    intro X hP hw hK hc i pins s σ H E I hf st hg
    subst hP hw hK
    obtain ⟨⟨old, he⟩, hit, hne⟩ := st
    have ei : i = x.cps.size ∨ x.cps.size < i := by rcases Nat.lt_or_eq_of_le hg with z | z; exact .inr z; exact .inl z.symm
    obtain ⟨f0, f1, f2, f3, f4, f5⟩ := hf it (by simp)
    have hx : x.cps[i]? = none := Array.getElem?_eq_none hg
    have D : Draws X.prog X.w X.A.in1 it [it] i (fun i v => True) (fun j h => j = i ∧ h.IsStrIter it ty x t i) := by
      rcases hty with z | z
      · subst z
        exact { live := fun _ _ st => let ⟨_, o, ho, _⟩ := st; ⟨o, ho⟩, frame := fun _ _ _ st hk => ⟨st.1, let ⟨_, o, ho, r⟩ := st; ⟨o, hk it (by simp) o ho, r⟩⟩, item := fun j s Q E hj st _ => absurd st.1 (Nat.ne_of_lt hj),
                done := fun s Q E st hE => wpAny_nextOf_ascii_end (I.ok.hd hc) st.2 hx hE }
      · subst z
        exact { live := fun _ _ st => let ⟨_, o, ho, _⟩ := st; ⟨o, ho⟩, frame := fun _ _ _ st hk => ⟨st.1, let ⟨_, o, ho, r⟩ := st; ⟨o, hk it (by simp) o ho, r⟩⟩, item := fun j s Q E hj st _ => absurd st.1 (Nat.ne_of_lt hj),
                done := fun s Q E st hE => wpAny_nextOf_wide_end (I.ok.hd hc) st.2 hx hE }
    exact wpAny_pyNext_enum_endD D he ⟨rfl, hit⟩ fun h' eb => ⟨rfl, I.turned (t' := s.toks) (fun b o hb q => eb b o hb q) f0 f1 f3 f4 f5⟩
  self := fun A i s Q E st h => let ⟨⟨_, he⟩, _⟩ := st; wpAny_pyIter_enum he h
def iEnumS (ta : TA) : TI := fun σ H R => ta σ H fun vs H1 => ∃ x, vs = [.str x] ∧ R (IteS x) H1
theorem pi_enumS {X : Cx} {e : Expr} {ta : TA} {p pos tpos : Pos} {elts : List Expr} {kk : Nat} (hg : Gl X "enumerate") (hm : X.mg "enumerate" = none) (ha : PA X [e] ta) (hs : starEach [e] X.env = [(false, eval e X.env)] := by rfl) :
    PI X (.Tuple elts kk tpos) (.Call (.Name "enumerate" p) [e] [] pos) (iEnumS ta) := by
  refine ⟨fun pins s σ H R I h => ?_⟩
  refine Call_ (ld_blt I hg hm boot_enumerate (PyProof.Rows.callWith_type1 (thn (ha.run pos pins s σ H _ I h) fun us s1 ⟨vs, H1, I1, r1, q1⟩ => ?_) hs rfl))
  obtain ⟨x, ex, q⟩ := q1
  subst ex
  obtain ⟨u, eu, t, ru⟩ := vals1 r1
  subst eu ru
  have hty : strIterType x = "str_ascii_iterator" ∨ strIterType x = "str_iterator" := by
    unfold strIterType
    split
    · exact .inl rfl
    · exact .inr rfl
  refine call_enumerate_str fun h' he hit hsz hk => wpAny_pyIter_enum he ?_
  have I2 : Inv X pins σ H1 { s1 with heap := h' } := I1.kept (t' := s1.toks) hk
  refine ⟨s1.heap.objs.size + 1, [s1.heap.objs.size + 1, s1.heap.objs.size], _, _, H1, rfl, I2, turn_enumS (s1.heap.objs.size + 1) s1.heap.objs.size x t _ hty, ⟨⟨.none, he⟩, hit, Nat.succ_ne_self _⟩, fun b hb => ?_, q⟩
  have e' : b = s1.heap.objs.size + 1 ∨ b = s1.heap.objs.size := by simpa using hb
  have hle : s1.heap.objs.size ≤ b := by
    rcases e' with z | z
    · rw [z]; exact Nat.le_add_right _ _
    · rw [z]; exact Nat.le_refl _
  exact I1.fpOk hle (I1.hok.fresh hle)
end L2
namespace Zk
open PySem PySem.Spec L2 SX PySem.NumText
open PyProof.Rows hiding St
/-- d.setdefault(x, z) -/
theorem w_dsetd {td ty tx : TE} {σ : L2.St} {H : Hp} {Q : VK} (h : td σ H fun x H1 => ∃ a, x = .ref a ∧ IsD H1 a ∧ ty σ H1 fun y H2 => tx σ H2 fun z H3 => ∃ (kvs : List (Key × V)) (k : Key), H3 a = some (.dK kvs) ∧ y = kV k ∧ kvs.length < sizeLine ∧ (∀ v, valV kvs k = some v → Q v H3) ∧ (valV kvs k = none → Q z (upd H3 a (.dK (putK kvs k z))))) : tDSetd td ty tx σ H Q := h
theorem eqV_str {a b : Str} : eqV (.str a) (.str b) = decide (a = b) := by
  show (a == b) = _
  rw [Bool.eq_iff_iff, beq_iff_eq, decide_eq_true_eq]
/-- xs.index(x) of a list of texts -/
theorem w_indexS {K : PySem.W.Frag} {H : Hp} {Q : VK} {a : Addr} {N : List Str} {x : Str} (h : SqL K H a (N.map V.str)) (m : x ∈ N) (q : Q (.int ((N.idxOf x : Nat) : Int)) H) : rIndex K (.ref a) [.str x] H Q := by
  have li := List.idxOf_lt_length_of_mem m
  refine ⟨a, N.map V.str, .str x, N.idxOf x, .str x, rfl, rfl, h, rfl, flat_str N, ?_, by rw [eqV_str]; exact decide_eq_true rfl, fun j z hj hz => ?_, q⟩
  · rw [List.getElem?_map, List.getElem?_eq_getElem li, List.getElem_idxOf li]; rfl
  · rw [List.getElem?_map] at hz
    cases e : N[j]? with
    | none => rw [e] at hz; cases hz
    | some y =>
      rw [e] at hz
      cases hz
      rw [eqV_str]
      refine decide_eq_false fun z => ?_
      subst z
      have this := List.not_of_lt_findIdx (p := (· == y)) (xs := N) hj
      have hl : j < N.length := Nat.lt_trans hj li
      rw [List.getElem?_eq_getElem hl] at e
      have e' : N[j] = y := Option.some.inj e
      rw [e'] at this
      simp at this
/-- for i, c in enumerate(text) -/
theorem z_for_enumS {z : Str} {t : TS} {nx : L2.St → Hp → Prop} {rt : VK} {σ : L2.St} {H : Hp} {g : TG} (Pv : Nat → L2.St → Hp → Prop) (h0 : Pv 0 σ H)
    (hs : ∀ (N : L2.St → Hp → Prop) i c σ H, z.cps[i]? = some c → Pv i σ H → (∀ σ' H', Pv (i + 1) σ' H' → N σ' H') → ∀ T H', Ext [] H H' → H T = none → H' T = some (.tup [.int (i : Nat), .str ⟨#[c]⟩]) → g (.ref T) σ H' fun σ2 H2 => t ⟨N, rt, nx, N⟩ σ2 H2) (hd : ∀ σ H, Pv z.cps.size σ H → nx σ H) :
    ∃ W : Nat → Nat → L2.St → Hp → Prop, (∃ m, W 0 m σ H) ∧ ∀ i m σ H, W i m σ H →
      ((IteS z).stop i H ∧ nx σ H) ∨ ((IteS z).go i H ∧ ∃ N : L2.St → Hp → Prop, (∀ σ' H', N σ' H' → ∃ m', m' < m ∧ W (i + 1) m' σ' H') ∧ ∀ x H', (IteS z).yld i H x H' → g x σ H' fun σ2 H2 => t ⟨N, rt, nx, N⟩ σ2 H2) := by
  refine ⟨fun i m σ H => m = z.cps.size - i ∧ i ≤ z.cps.size ∧ Pv i σ H, ⟨_, rfl, Nat.zero_le _, h0⟩, ?_⟩
  rintro i m σ H ⟨rfl, hi, p⟩
  by_cases hlt : i < z.cps.size
  · refine .inr ⟨hlt, Pv (i + 1), fun σ' H' p' => ⟨z.cps.size - (i + 1), by omega, rfl, hlt, p'⟩, fun x H' y => ?_⟩
    obtain ⟨T, c, rfl, nT, rfl, hc⟩ := y
    exact hs (Pv (i + 1)) i c σ _ hc p (fun _ _ q => q) T _ (Ext.new nT) nT upd_same
  · have e : i = z.cps.size := by omega
    subst e
    exact .inl ⟨Nat.le_refl _, hd σ H p⟩
/-- [.. for i, x in enumerate(list)] -/
theorem z_lc_enumL {xs : List V} {a : Addr} {K : PySem.W.Frag} {g : TG} {tt : TT} {te : TE} {vs : List Nat} {D : Addr} {Qd : Hp → Prop} {σ : L2.St} {H : Hp} (Pv : Nat → List V → Hp → Prop) (nD : H D = none) (h0 : ∀ H', Ext [] H H' → Pv 0 [] H') (hl : ∀ i acc H, i ≤ xs.length → Pv i acc H → SqL K H a xs)
    (hs : ∀ (Nx : Hp → Prop) i x acc H, xs[i]? = some x → Pv i acc H → H D = some (.lst acc) → (∀ acc' H', Pv (i + 1) acc' H' → H' D = some (.lst acc') → Nx H') → ∀ T H', Ext [] H H' → H T = none → H' T = some (.tup [.int (i : Nat), x]) → g (.ref T) (wipe σ vs) H' fun σ2 H2 => wipe σ2 vs = wipe σ vs ∧ tt σ2 H2 fun b H3 =>
      if b = true then te σ2 H3 fun y H4 => ∃ acc, H4 D = some (.lst acc) ∧ acc.length < sizeLine ∧ Nx (upd H4 D (.lst (acc ++ [y]))) else Nx H3) (hd : ∀ acc H, Pv xs.length acc H → H D = some (.lst acc) → Qd H) :
    ∃ W : Nat → Nat → Hp → Prop, (∃ m, W 0 m (upd H D (.lst []))) ∧ ∀ i m H, W i m H →
      ((Ite K a).stop i H ∧ Qd H) ∨ ((Ite K a).go i H ∧ ∃ Nx : Hp → Prop, (∀ H', Nx H' → ∃ m', m' < m ∧ W (i + 1) m' H') ∧ ∀ x H', (Ite K a).yld i H x H' → g x (wipe σ vs) H' fun σ2 H2 => wipe σ2 vs = wipe σ vs ∧ tt σ2 H2 fun b H3 =>
        if b = true then te σ2 H3 fun y H4 => ∃ acc, H4 D = some (.lst acc) ∧ acc.length < sizeLine ∧ Nx (upd H4 D (.lst (acc ++ [y]))) else Nx H3) := by
  refine ⟨fun i m H => m = xs.length - i ∧ i ≤ xs.length ∧ ∃ acc, Pv i acc H ∧ H D = some (.lst acc), ⟨_, rfl, Nat.zero_le _, [], h0 _ (Ext.new nD), upd_same⟩, ?_⟩
  rintro i m H ⟨rfl, hi, acc, p, hD⟩
  by_cases hlt : i < xs.length
  · have hx : xs[i]? = some xs[i] := List.getElem?_eq_getElem hlt
    refine .inr ⟨⟨xs, _, hl i acc H hi p, hx⟩, fun H' => ∃ acc', Pv (i + 1) acc' H' ∧ H' D = some (.lst acc'), fun H' p' => ⟨xs.length - (i + 1), by omega, rfl, hlt, p'⟩, fun v H' y => ?_⟩
    obtain ⟨T, x, rfl, nT, rfl, hx'⟩ := y
    have e := hx' xs (hl i acc H hi p)
    exact hs _ i x acc H e p hD (fun acc' H' p' h' => ⟨acc', p', h'⟩) T _ (Ext.new nT) nT upd_same
  · have e : i = xs.length := by omega
    subst e
    exact .inl ⟨⟨xs, hl _ acc H hi p, Nat.le_refl _⟩, hd acc H p hD⟩
end Zk

set_option Elab.async false
set_option linter.all false
set_option maxRecDepth 100000
set_option maxHeartbeats 4000000
namespace Zk
open PySem PySem.Spec L2 SX PySem.NumText
open PyProof.Rows hiding St
/-! ### texts of values, strings spelt or by their indexes -/
mutual
def wm (M : Option (List Str)) : PyData → List Nat
  | .none => [45]
  | .bool b => [if b = true then 121 else 110]
  | .int i => 105 :: (intL i ++ [59])
  | .str x => match M with
    | none => 116 :: (intL (x.length : Int) ++ 58 :: x.cps.toList)
    | some N => 115 :: (intL ((N.idxOf x : Nat) : Int) ++ [59])
  | .tuple ds => 40 :: (wmAll M ds ++ [41])
  | _ => []
def wmAll (M : Option (List Str)) : List PyData → List Nat
  | [] => []
  | d :: ds => wm M d ++ wmAll M ds
end
mutual
theorem wm_wr : ∀ d : PyData, wm none d = wr d
  | .none => rfl
  | .bool _ => rfl
  | .int _ => rfl
  | .str _ => rfl
  | .tuple ds => by rw [wm, wr, wmAll_wr ds]
  | .list _ => rfl
  | .dict _ => rfl
theorem wmAll_wr : ∀ ds : List PyData, wmAll none ds = wrAll ds
  | [] => by unfold wmAll wrAll; rfl
  | d :: ds => by rw [wmAll, wrAll, wm_wr d, wmAll_wr ds]
end
theorem wmAll_app (M : Option (List Str)) : ∀ (a b : List PyData), wmAll M (a ++ b) = wmAll M a ++ wmAll M b
  | [], b => by rw [List.nil_append, wmAll, List.nil_append]
  | d :: a, b => by rw [List.cons_append, wmAll, wmAll, wmAll_app M a b, List.append_assoc]
/-! the strings of values in the order of their first use -/
mutual
def nt (N : List Str) : PyData → List Str
  | .str x => if x ∈ N then N else N ++ [x]
  | .tuple ds => ntAll N ds
  | _ => N
def ntAll (N : List Str) : List PyData → List Str
  | [] => N
  | d :: ds => ntAll (nt N d) ds
end
mutual
theorem nt_pre : ∀ (d : PyData) (N : List Str), N <+: nt N d
  | .str x, N => by
    rw [nt]
    split
    · exact List.prefix_rfl
    · exact List.prefix_append _ _
  | .tuple ds, N => by rw [nt]; exact ntAll_pre ds N
  | .none, N => List.prefix_rfl
  | .bool _, N => List.prefix_rfl
  | .int _, N => List.prefix_rfl
  | .list _, N => List.prefix_rfl
  | .dict _, N => List.prefix_rfl
theorem ntAll_pre : ∀ (ds : List PyData) (N : List Str), N <+: ntAll N ds
  | [], N => by rw [ntAll]; exact List.prefix_rfl
  | d :: ds, N => by rw [ntAll]; exact (nt_pre d N).trans (ntAll_pre ds _)
end
mutual
theorem nt_nodup : ∀ (d : PyData) (N : List Str), N.Nodup → (nt N d).Nodup
  | .str x, N, h => by
    rw [nt]
    split
    · exact h
    · next m => rw [List.nodup_append]; exact ⟨h, by simp, fun a ha b hb => by rw [List.mem_singleton.mp hb]; exact fun z => m (z ▸ ha)⟩
  | .tuple ds, N, h => by rw [nt]; exact ntAll_nodup ds N h
  | .none, _, h => h
  | .bool _, _, h => h
  | .int _, _, h => h
  | .list _, _, h => h
  | .dict _, _, h => h
theorem ntAll_nodup : ∀ (ds : List PyData) (N : List Str), N.Nodup → (ntAll N ds).Nodup
  | [], N, h => by rw [ntAll]; exact h
  | d :: ds, N, h => by rw [ntAll]; exact ntAll_nodup ds _ (nt_nodup d N h)
end
theorem ntAll_app (N : List Str) : ∀ (a b : List PyData), ntAll N (a ++ b) = ntAll (ntAll N a) b
  | [], b => by rw [List.nil_append, ntAll]
  | d :: a, b => by rw [List.cons_append, ntAll, ntAll, ntAll_app _ a b]
mutual
theorem nt_abs : ∀ (d : PyData) (A N : List Str), (∀ x ∈ nt A d, x ∈ N) → nt N d = N
  | .str x, A, N, h => by
    rw [nt, if_pos]
    rw [nt] at h
    split at h
    · next m => exact h x m
    · exact h x (by simp)
  | .tuple ds, A, N, h => by rw [nt] at h ⊢; exact ntAll_abs ds A N h
  | .none, _, _, _ => rfl
  | .bool _, _, _, _ => rfl
  | .int _, _, _, _ => rfl
  | .list _, _, _, _ => rfl
  | .dict _, _, _, _ => rfl
theorem ntAll_abs : ∀ (ds : List PyData) (A N : List Str), (∀ x ∈ ntAll A ds, x ∈ N) → ntAll N ds = N
  | [], A, N, h => by rw [ntAll]
  | d :: ds, A, N, h => by
    rw [ntAll] at h ⊢
    rw [nt_abs d A N fun x m => h x ((ntAll_pre ds _).subset m)]
    exact ntAll_abs ds (nt A d) N h
end
theorem pre_len {α : Type} {a b : List α} (h : a <+: b) (l : b.length ≤ a.length) : a = b := List.IsPrefix.eq_of_length_le h l
/-- what all strings of a list of values are, the strings of each are -/
theorem nt_mem {N : List Str} : ∀ {ds : List PyData}, ntAll N ds = N → ∀ d ∈ ds, nt N d = N
  | [], _, _, m => by cases m
  | e :: ds, h, d, m => by
    rw [ntAll] at h
    have e1 : nt N e = N := (pre_len (nt_pre e N) (by
      have := (ntAll_pre ds (nt N e)).length_le
      rw [h] at this; exact this)).symm
    rw [e1] at h
    rcases List.mem_cons.mp m with rfl | m
    · exact e1
    · exact nt_mem h d m
def lensS (N : List Str) : Nat := (N.map fun x => (wr (.str x)).length).sum
theorem lensS_app (a b : List Str) : lensS (a ++ b) = lensS a + lensS b := by unfold lensS; rw [List.map_append, List.sum_append]
mutual
theorem nt_lens : ∀ (d : PyData) (N : List Str), lensS (nt N d) ≤ lensS N + (wr d).length
  | .str x, N => by
    rw [nt]
    split
    · omega
    · rw [lensS_app, show lensS [x] = (wr (.str x)).length from by unfold lensS; simp]; omega
  | .tuple ds, N => by
    have := ntAll_lens ds N
    rw [nt, wr, List.length_cons, List.length_append]
    omega
  | .none, N => Nat.le_add_right _ _
  | .bool _, N => Nat.le_add_right _ _
  | .int _, N => Nat.le_add_right _ _
  | .list _, N => Nat.le_add_right _ _
  | .dict _, N => Nat.le_add_right _ _
theorem ntAll_lens : ∀ (ds : List PyData) (N : List Str), lensS (ntAll N ds) ≤ lensS N + (wrAll ds).length
  | [], N => by rw [ntAll]; omega
  | d :: ds, N => by
    have := nt_lens d N
    have := ntAll_lens ds (nt N d)
    rw [ntAll, wrAll, List.length_append]
    omega
end
theorem lensS_ge : ∀ N : List Str, N.length ≤ lensS N
  | [] => Nat.zero_le _
  | x :: N => by
    have := lensS_ge N
    have e : lensS (x :: N) = (wr (.str x)).length + lensS N := by unfold lensS; simp
    rw [e, wr, List.length_cons, List.length_cons, List.length_append]
    omega
theorem wrAll_strs : ∀ N : List Str, (wrAll (N.map .str)).length = lensS N
  | [] => by unfold lensS; rw [List.map_nil, wrAll]; rfl
  | x :: N => by
    rw [List.map_cons, wrAll, List.length_append, wrAll_strs N]
    unfold lensS; simp
/-! values within the bounds -/
mutual
def fit : PyData → Prop
  | .none => True
  | .bool _ => True
  | .int i => i.natAbs < 10 ^ 60
  | .str x => x.length ≤ 20 ∧ Al x.cps.toList
  | .tuple ds => ds.length ≤ 100000 ∧ fitAll ds
  | _ => False
def fitAll : List PyData → Prop
  | [] => True
  | d :: ds => fit d ∧ fitAll ds
end
theorem fit_mem {d : PyData} : ∀ {ds : List PyData}, fitAll ds → d ∈ ds → fit d
  | e :: ds, k, h => by
    rw [fitAll] at k
    rcases List.mem_cons.mp h with rfl | h
    · exact k.1
    · exact fit_mem k.2 h
theorem fit_snoc {d : PyData} (h : fit d) : ∀ {ds : List PyData}, fitAll ds → fitAll (ds ++ [d])
  | [], _ => by rw [List.nil_append, fitAll, fitAll]; exact ⟨h, trivial⟩
  | e :: ds, k => by
    rw [fitAll] at k
    rw [List.cons_append, fitAll]
    exact ⟨k.1, fit_snoc h k.2⟩
theorem fitAll_of : ∀ {ds : List PyData}, (∀ d ∈ ds, fit d) → fitAll ds
  | [], _ => by rw [fitAll]; trivial
  | e :: ds, k => by
    rw [fitAll]
    exact ⟨k e List.mem_cons_self, fitAll_of fun d m => k d (List.mem_cons_of_mem _ m)⟩
mutual
theorem fit_small : ∀ {d : PyData}, fit d → small d = true
  | .none, _ => rfl
  | .bool _, _ => rfl
  | .int i, h => by rw [fit] at h; exact decide_eq_true (Nat.lt_trans h (by decide))
  | .str _, _ => rfl
  | .tuple ds, h => by rw [fit] at h; rw [small]; exact fitAll_small h.2
  | .list _, h => False.elim h
  | .dict _, h => False.elim h
theorem fitAll_small : ∀ {ds : List PyData}, fitAll ds → smallAll ds = true
  | [], _ => rfl
  | d :: ds, h => by
    rw [fitAll] at h
    rw [smallAll, fit_small h.1, fitAll_small h.2]; rfl
end
theorem nt_fit {A : List Str} (hA : ∀ x ∈ A, x.length ≤ 20 ∧ Al x.cps.toList) : True := trivial
mutual
theorem nt_in : ∀ (d : PyData) (A : List Str), fit d → (∀ x ∈ A, fit (.str x)) → ∀ x ∈ nt A d, fit (.str x)
  | .str y, A, f, h, x, m => by
    rw [nt] at m
    split at m
    · exact h x m
    · rcases List.mem_append.mp m with m | m
      · exact h x m
      · rw [List.mem_singleton.mp m]; exact f
  | .tuple ds, A, f, h, x, m => by rw [fit] at f; rw [nt] at m; exact ntAll_in ds A f.2 h x m
  | .none, _, _, h, x, m => h x m
  | .bool _, _, _, h, x, m => h x m
  | .int _, _, _, h, x, m => h x m
  | .list _, _, _, h, x, m => h x m
  | .dict _, _, _, h, x, m => h x m
theorem ntAll_in : ∀ (ds : List PyData) (A : List Str), fitAll ds → (∀ x ∈ A, fit (.str x)) → ∀ x ∈ ntAll A ds, fit (.str x)
  | [], A, _, h, x, m => by rw [ntAll] at m; exact h x m
  | d :: ds, A, f, h, x, m => by
    rw [fitAll] at f
    rw [ntAll] at m
    exact ntAll_in ds _ f.2 (nt_in d A f.1 h) x m
end
/-! signs -/
theorem al_app {a b : List Nat} (h : Al a) (k : Al b) : Al (a ++ b) := fun c m => (List.mem_append.mp m).elim (h c) (k c)
theorem al_cons {c : Nat} {b : List Nat} (h : c ∈ alph.cps.toList) (k : Al b) : Al (c :: b) := fun x m => (List.mem_cons.mp m).elim (fun z => z ▸ h) (k x)
theorem al_nil : Al [] := fun _ m => by cases m
theorem al_dig {d : List Nat} (h : AllDigits d) : Al d := fun c m => by
  have k : ∀ c, c ≤ 57 → 48 ≤ c → c ∈ alph.cps.toList := by decide +kernel
  exact k c (h c m).2 (h c m).1
theorem intL_num (n : Nat) : intL (n : Int) = TL.numL n := intL_nat n
theorem nat_digs (n : Nat) : AllDigits (intL (n : Int)) := by rw [intL_num]; exact TL.numL_digits n
theorem nat_val (n : Nat) : digitsVal (intL (n : Int)) = n := by rw [intL_num]; exact TL.numL_val n
theorem nat_ne (n : Nat) : intL (n : Int) ≠ [] := by rw [intL_num]; exact TL.numL_ne n
theorem nat_len {n k : Nat} (hk : 0 < k) (h : n < 10 ^ k) : (intL (n : Int)).length ≤ k := by rw [intL_num]; exact TL.numL_len hk h
theorem num_head (n : Nat) (h : 1 ≤ n) : (TL.numL n).head? ≠ some 48 := by
  induction n using Nat.strongRecOn with
  | _ n ih =>
    by_cases k : n < 10
    · rw [TL.numL_lt k]
      intro z
      simp at z
      omega
    · rw [TL.numL_step (by omega)]
      have := ih (n / 10) (by omega) (by omega)
      have ne := TL.numL_ne (n / 10)
      cases e : TL.numL (n / 10) with
      | nil => exact absurd e ne
      | cons c r => rw [e] at this; exact this
theorem nat_ok {n k : Nat} (hk : 0 < k) (h : n < 10 ^ k) : okD k (intL (n : Int)) = true := by
  refine okD_of (nat_ne n) (nat_len hk h) fun z => ?_
  rw [intL_num] at z ⊢
  rcases Nat.eq_zero_or_pos n with rfl | p
  · rw [TL.numL_lt (by decide)]; exact Nat.le_refl _
  · exact absurd z (num_head n p)
theorem al_int (i : Int) : Al (intL i) := by
  rcases (show i < 0 ∨ 0 ≤ i by omega) with z | z
  · obtain ⟨n, rfl⟩ : ∃ n : Nat, i = -(n : Int) := ⟨i.natAbs, by omega⟩
    rw [intL_neg (by omega)]
    exact al_cons (by decide +kernel) (al_dig (nat_digs n))
  · obtain ⟨n, rfl⟩ := Int.eq_ofNat_of_zero_le z
    exact al_dig (nat_digs n)
mutual
theorem al_wm (M : Option (List Str)) : ∀ {d : PyData}, fit d → Al (wm M d)
  | .none, _ => by rw [wm]; exact al_cons (by decide +kernel) al_nil
  | .bool b, _ => by rw [wm]; refine al_cons ?_ al_nil; cases b <;> decide +kernel
  | .int i, _ => by rw [wm]; exact al_cons (by decide +kernel) (al_app (al_int i) (al_cons (by decide +kernel) al_nil))
  | .str x, h => by
    rw [fit] at h
    cases M with
    | none => rw [wm]; exact al_cons (by decide +kernel) (al_app (al_int _) (al_cons (by decide +kernel) h.2))
    | some N => rw [wm]; exact al_cons (by decide +kernel) (al_app (al_int _) (al_cons (by decide +kernel) al_nil))
  | .tuple ds, h => by rw [fit] at h; rw [wm]; exact al_cons (by decide +kernel) (al_app (alAll_wm M h.2) (al_cons (by decide +kernel) al_nil))
  | .list _, h => False.elim h
  | .dict _, h => False.elim h
theorem alAll_wm (M : Option (List Str)) : ∀ {ds : List PyData}, fitAll ds → Al (wmAll M ds)
  | [], _ => by rw [wmAll]; exact al_nil
  | d :: ds, h => by rw [fitAll] at h; rw [wmAll]; exact al_app (al_wm M h.1) (alAll_wm M h.2)
end
/-! lengths -/
mutual
theorem wm_len {N : List Str} (h : N.length < 10 ^ 6) : ∀ d : PyData, (wm (some N) d).length ≤ 3 * (wr d).length
  | .none => by rw [wm, wr]; decide
  | .bool _ => by rw [wm, wr]; show 1 ≤ 3; decide
  | .int _ => by rw [wm, wr]; omega
  | .str x => by
    have : N.idxOf x ≤ N.length := List.idxOf_le_length
    have := nat_len (n := N.idxOf x) (k := 6) (by decide) (by omega)
    have := List.length_pos_iff.mpr (nat_ne x.length)
    simp only [wm, wr, List.length_cons, List.length_append, List.length_nil]
    omega
  | .tuple ds => by
    have := wmAll_len h ds
    rw [wm, wr, List.length_cons, List.length_cons, List.length_append, List.length_append, List.length_singleton]
    omega
  | .list _ => Nat.zero_le _
  | .dict _ => Nat.zero_le _
theorem wmAll_len {N : List Str} (h : N.length < 10 ^ 6) : ∀ ds : List PyData, (wmAll (some N) ds).length ≤ 3 * (wrAll ds).length
  | [] => by rw [wmAll, wrAll]; exact Nat.zero_le _
  | d :: ds => by
    have := wm_len h d
    have := wmAll_len h ds
    rw [wmAll, wrAll, List.length_append, List.length_append]
    omega
end
theorem wm_pos (M : Option (List Str)) : ∀ {d : PyData}, fit d → 1 ≤ (wm M d).length
  | .none, _ => by rw [wm]; exact Nat.le_refl _
  | .bool _, _ => by rw [wm]; exact Nat.le_refl _
  | .int _, _ => by rw [wm, List.length_cons]; omega
  | .str _, _ => by cases M <;> (rw [wm, List.length_cons]; omega)
  | .tuple _, _ => by rw [wm, List.length_cons]; omega
  | .list _, h => False.elim h
  | .dict _, h => False.elim h
theorem wmAll_mem {M : Option (List Str)} {d : PyData} : ∀ {ds : List PyData}, d ∈ ds → (wm M d).length ≤ (wmAll M ds).length
  | e :: ds, h => by
    rw [wmAll, List.length_append]
    rcases List.mem_cons.mp h with rfl | h
    · omega
    · have := wmAll_mem (M := M) h; omega
theorem wmAll_join (M : Option (List Str)) : ∀ ds : List PyData, TL.joinL [] (ds.map (wm M)) = wmAll M ds
  | [] => by unfold wmAll; rfl
  | [d] => by rw [wmAll, wmAll, List.append_nil]; rfl
  | d :: e :: ds => by
    have := wmAll_join M (e :: ds)
    rw [wmAll, ← this]
    rfl
theorem wm_join (M : Option (List Str)) (ds : List PyData) : Txt.join (Str.ofString "") (ds.map fun d => S (wm M d)) = S (wmAll M ds) := by
  rw [show Str.ofString "" = S [] from by decide +kernel, show (ds.map fun d => S (wm M d)) = (ds.map (wm M)).map S from by rw [List.map_map]; rfl, join_S, wmAll_join]
theorem wmAll_sum (M : Option (List Str)) : ∀ ds : List PyData, ((ds.map fun d => S (wm M d)).map (·.length)).sum = (wmAll M ds).length
  | [] => by unfold wmAll; rfl
  | d :: ds => by rw [wmAll, List.length_append, ← wmAll_sum M ds, List.map_cons, List.map_cons, List.sum_cons, S_len]
/-! reading at a place -/
theorem drop_at {t a b : List Nat} {p : Nat} (h : t.drop p = a ++ b) : t.drop (p + a.length) = b := by
  rw [← List.drop_drop, h, List.drop_left]
theorem get_at {t b : List Nat} {p c : Nat} (h : t.drop p = c :: b) : t[p]? = some c := by
  have := congrArg (fun l => l[0]?) h
  simpa using this
theorem lt_at {t b : List Nat} {p c : Nat} (h : t.drop p = c :: b) : p < t.length := get_lt (get_at h)
theorem next_at {t b : List Nat} {p c : Nat} (h : t.drop p = c :: b) : t.drop (p + 1) = b := drop_at (a := [c]) h
theorem digs_at {t d b : List Nat} {p c : Nat} (h : t.drop p = d ++ c :: b) (k : AllDigits d) (n : isDig c = false) : digs t p = d := by
  unfold digs
  rw [h, List.takeWhile_append_of_pos (fun x m => by
    have := k x m
    unfold isDig
    rw [decide_eq_true this.1, decide_eq_true this.2]; rfl), List.takeWhile_cons, n]
  simp
theorem dig_min {t b : List Nat} {p n : Nat} (h : t.drop p = intL (n : Int) ++ b) : t[p]? ≠ some 45 := by
  intro z
  have ne := nat_ne n
  have al := nat_digs n
  cases e : intL (n : Int) with
  | nil => exact ne e
  | cons c r =>
    rw [e] at h al
    rw [get_at h] at z
    have := al c List.mem_cons_self
    have : c = 45 := by simpa using z
    omega
theorem rNum_at {t b : List Nat} {p : Nat} {i : Int} (h : t.drop p = intL i ++ 59 :: b) (k : i.natAbs < 10 ^ 60) : rNum t p = some (.int i, p + (intL i).length + 1) := by
  rcases (show i < 0 ∨ 0 ≤ i by omega) with z | z
  · obtain ⟨n, rfl⟩ : ∃ n : Nat, i = -(n : Int) := ⟨i.natAbs, by omega⟩
    rw [Int.natAbs_neg, Int.natAbs_natCast] at k
    rw [intL_neg (by omega)] at h ⊢
    have h1 : t.drop p = 45 :: (intL (n : Int) ++ 59 :: b) := h
    have h2 := next_at h1
    have e := digs_at h2 (nat_digs n) (by decide)
    unfold rNum
    have q : intL (n : Int) ≠ [48] := fun q => by
      have := congrArg digitsVal q
      rw [nat_val] at this
      have e0 : digitsVal [48] = 0 := by decide
      omega
    rw [if_pos (get_at h1), e, if_pos ⟨nat_ok (by decide) k, get_at (drop_at h2), q⟩, nat_val]
    rw [List.length_cons, show p + 1 + (intL (n : Int)).length + 1 = p + ((intL (n : Int)).length + 1) + 1 by omega]
  · obtain ⟨n, rfl⟩ := Int.eq_ofNat_of_zero_le z
    rw [Int.natAbs_natCast] at k
    have e := digs_at h (nat_digs n) (by decide)
    unfold rNum
    rw [if_neg (dig_min h), e, if_pos ⟨nat_ok (by decide) k, get_at (drop_at h)⟩, nat_val]
theorem seg_drop {t a b : List Nat} {p : Nat} (h : t.drop p = a ++ b) : seg t p (p + a.length) = a := by
  unfold seg
  rw [h, show p + a.length - p = a.length by omega, List.take_left]
theorem rTxt_at {t b : List Nat} {p : Nat} {x : Str} (h : t.drop p = intL (x.length : Int) ++ 58 :: (x.cps.toList ++ b)) (l : x.length ≤ 20) (al : Al x.cps.toList) : rTxt t p = some (.str x, p + (intL (x.length : Int)).length + 1 + x.length) := by
  have e := digs_at h (nat_digs x.length) (by decide)
  have h2 := drop_at h
  have h3 := next_at h2
  have sg := seg_drop h3
  rw [len_tl] at sg
  have tl : p + (intL (x.length : Int)).length + 1 + x.length ≤ t.length := by
    have := congrArg List.length h3
    rw [List.length_drop, List.length_append, len_tl] at this
    have := lt_at h2
    omega
  unfold rTxt
  have q1 : t[p + (intL (x.length : Int)).length + 1 - 1]? = some 58 := by
    rw [show p + (intL (x.length : Int)).length + 1 - 1 = p + (intL (x.length : Int)).length by omega]
    exact get_at h2
  have q2 : Al (seg t (p + (intL (x.length : Int)).length + 1) (p + (intL (x.length : Int)).length + 1 + x.length)) := by rw [sg]; exact al
  rw [e, nat_val, sg, if_pos ⟨nat_ok (by decide) (by omega), ⟨l, q1, tl, q2⟩⟩, S_tl]
theorem idx_new {N A : List Str} {x : Str} (h : A ++ [x] <+: N) (m : x ∉ A) : N.idxOf x = A.length := by
  obtain ⟨r, rfl⟩ := h
  rw [List.append_assoc, List.idxOf_append, if_neg m, List.singleton_append, List.idxOf_cons_self]
  omega
theorem idx_old {N A : List Str} {x : Str} (h : A <+: N) (m : x ∈ A) : N.idxOf x < A.length := by
  obtain ⟨r, rfl⟩ := h
  rw [List.idxOf_append, if_pos m]
  exact List.idxOf_lt_length_of_mem m
/-! dicts of indexes -/
def ixf : Nat → List Str → List (Key × V)
  | _, [] => []
  | i, x :: r => (Sum.inr x, .int (i : Int)) :: ixf (i + 1) r
theorem ixf_len : ∀ (i : Nat) (N : List Str), (ixf i N).length = N.length
  | _, [] => rfl
  | i, x :: r => by rw [ixf, List.length_cons, List.length_cons, ixf_len (i + 1) r]
theorem ixf_val {x : Str} : ∀ (i : Nat) (N : List Str), x ∈ N → valV (ixf i N) (Sum.inr x) = some (.int ((i + N.idxOf x : Nat) : Int))
  | i, y :: r, m => by
    unfold valV
    rw [ixf, List.find?_cons]
    by_cases e : y = x
    · subst e
      simp [List.idxOf_cons_self]
    · rw [show decide ((Sum.inr y : Key) = Sum.inr x) = false from decide_eq_false fun z => e (Sum.inr.inj z)]
      have m' : x ∈ r := (List.mem_cons.mp m).resolve_left fun z => e z.symm
      have := ixf_val (i + 1) r m'
      unfold valV at this
      simp only
      rw [this, List.idxOf_cons, show (y == x) = false from beq_eq_false_iff_ne.mpr e]
      simp only [cond_false]
      rw [show i + 1 + r.idxOf x = i + (r.idxOf x + 1) by omega]
theorem ixf_no {x : Str} : ∀ (i : Nat) (N : List Str), x ∉ N → valV (ixf i N) (Sum.inr x) = none
  | i, [], _ => rfl
  | i, y :: r, m => by
    unfold valV
    have e : y ≠ x := fun z => m (z ▸ List.mem_cons_self)
    rw [ixf, List.find?_cons, show decide ((Sum.inr y : Key) = Sum.inr x) = false from decide_eq_false fun z => e (Sum.inr.inj z)]
    exact ixf_no (i + 1) r fun z => m (List.mem_cons_of_mem _ z)
theorem ixf_snoc {x : Str} : ∀ (i : Nat) (N : List Str), ixf i (N ++ [x]) = ixf i N ++ [(Sum.inr x, .int ((i + N.length : Nat) : Int))]
  | i, [] => rfl
  | i, y :: r => by
    rw [List.cons_append, ixf, ixf, ixf_snoc (i + 1) r, List.length_cons, List.cons_append, show i + 1 + r.length = i + (r.length + 1) by omega]
theorem ixf_any {x : Str} : ∀ (i : Nat) (N : List Str), x ∉ N → ((ixf i N).any fun kv => decide (kv.1 = Sum.inr x)) = false
  | i, [], _ => rfl
  | i, y :: r, m => by
    have e : y ≠ x := fun z => m (z ▸ List.mem_cons_self)
    rw [ixf, List.any_cons, show decide ((Sum.inr y : Key) = Sum.inr x) = false from decide_eq_false fun z => e (Sum.inr.inj z), ixf_any (i + 1) r fun z => m (List.mem_cons_of_mem _ z)]
    rfl
theorem ixf_put {x : Str} {N : List Str} (m : x ∉ N) : putK (ixf 0 N) (Sum.inr x) (.int (N.length : Int)) = ixf 0 (N ++ [x]) := by
  unfold putK
  rw [ixf_any 0 N m, ixf_snoc]
  simp
theorem ixf_keys : ∀ (i : Nat) (N : List Str), ((ixf i N).map fun kv => kV kv.1) = N.map V.str
  | i, [] => rfl
  | i, y :: r => by rw [ixf, List.map_cons, List.map_cons, ixf_keys (i + 1) r]; rfl
/-! checks of lines -/
def plc (c : Nat) : Nat := if c < 37 then c - 32 else c - 33
def tot (row : Nat) (l : List Nat) : Nat → Nat
  | 0 => 7 * row
  | i + 1 => tot row l i + (i % 99990 + 1) * (plc (l.getD i 0) + 1)
def ck (row : Nat) (l : List Nat) : List Nat := List.replicate (5 - (intL ((tot row l l.length % 99991 : Nat) : Int)).length) 48 ++ intL ((tot row l l.length % 99991 : Nat) : Int)
theorem ck_len (row : Nat) (l : List Nat) : (ck row l).length = 5 := by
  unfold ck
  have := nat_len (n := tot row l l.length % 99991) (k := 5) (by decide) (Nat.lt_of_lt_of_le (Nat.mod_lt _ (by decide)) (by decide))
  rw [List.length_append, List.length_replicate]
  omega
theorem ck_digs (row : Nat) (l : List Nat) : AllDigits (ck row l) := by
  unfold ck
  intro c m
  rcases List.mem_append.mp m with m | m
  · rw [(List.mem_replicate.mp m).2]; decide
  · exact nat_digs _ c m
def plcs : List (Key × V) := alph.cps.toList.map fun c => ((Sum.inr (S [c]) : Key), V.int ((plc c : Nat) : Int))
/-! lines of a file -/
def headL (f n : Nat) : List Nat := [115, 116, 111, 114, 101, 108, 105, 102, 101, 32] ++ intL (f : Int) ++ [32] ++ intL (n : Int)
def names (ds : List PyData) : List Str := ntAll [] ds
def bareL (ds : List PyData) (f : Nat) : List (List Nat) :=
  if f < 3 then headL f ds.length :: ds.map (wm none) else headL f ds.length :: wm none (.tuple ((names ds).map .str)) :: ds.map (wm (some (names ds)))
def ckd (ls : List (List Nat)) : List (List Nat) := ls.mapIdx fun i l => ck i l ++ l
def fileL (ds : List PyData) (f : Nat) : List (List Nat) := if f = 1 then bareL ds f else ckd (bareL ds f)
end Zk

set_option Elab.async false
set_option linter.all false
set_option maxRecDepth 100000
set_option maxHeartbeats 4000000
namespace PySem
namespace ZEX
open PySem.W PySem.Calls PyProof.Rows PySem.HandSPX
section
variable {prog : Program} {w : World} {A : Around} {E : Value → Shared → Prop} {h : Heap} {g : Array GenState} {d : Drawn} {t : Nat} {os : OsState}
variable {nm q : Str} {C N : Addr} {bs bm : List Value} {hdct : Bool} {sn : List Str} {sub : List Value} {ab : Bool} {col : Option Bool} {dd : Option Addr} {k0 k1 k2 k3 k5 : Option Value}
/-- ValueError.__init__, bound to e at u, called -/
theorem call_bv {u e t0 : Addr} {rest : List Value} {Q : Value → Shared → Prop}
    (hC : h.get? C = some (excClassObj nm q C N bs bm hdct sn sub ab col dd k0 k1 k2 k3 k5 "ValueError.__new__")) (he : h.get? e = some (excO C t0)) (hu : h.get? u = some (kxs_mw "ValueError.__init__" e)) (hrest : rest.length ≤ sizeLine)
    (hq : ∀ h' t1, (∀ b o, b ≠ e → h.get? b = some o → h'.get? b = some o) → h'.get? e = some (excO C t1) → Q .none ⟨h', g, d, t, os⟩) :
    wpAny (model prog w) A (call (.ref u) rest) Q E ⟨h, g, d, t, os⟩ := by
  refine wpAny_call (codeAny_of_tree ?_)
  show wpAny _ A.in1 (callAny (.ref u) ⟨rest, []⟩) _ _ _
  simp only [callAny]
  refine wpAny_bind (wpAny_load hu ?_)
  simp only [kxs_mw, show (Value.type "method-wrapper" == Value.type "method" || Value.type "method-wrapper" == Value.type "builtin_function_or_method" || Value.type "method-wrapper" == Value.type "method-wrapper") = true by decide, if_true]
  refine KFB.if_so (by decide) ?_
  refine wpAny_bind (check_bound_init F.excBase_ValueError.toExcCallFacts hC he rfl ?_)
  refine wpAny_bind (wpAny_pure (wpAny_pure ?_))
  refine ⟨plainId_quiet F.excBase_ValueError.init.plain _, codeAny_builtin F.excBase_ValueError.initEntry ?_⟩
  exact exc_init_tree (cls := .ref C) (t0 := t0) (dv := none) (c2 := .none) (c3 := .none) (b4 := .bool false) he hrest fun h' k e' _ => hq h' _ k e'
end
end ZEX
end PySem
namespace L2
open PySem PySem.Spec PyProof.Rows
/-- isinstance(e, c), e the exception that the suite holds, its dict at dd -/
def rIsED (K : PySem.W.Frag) (D a dd : Addr) : List V → Hp → VK → Prop := fun xs H Q => ∃ (c : V) (cv : Value) (b : Bool) (fs : List (Str × V)), xs = [.ref a, c] ∧ (∀ u, RelV c u → u = cv) ∧ H dd = some (.xd fs) ∧ PySem.W.kitOne K (.ref D) cv = some b ∧ Q (.bl b) H
theorem call_isED {X : Cx} {a D dd : Addr} {oe : Obj} {pn : List (Addr × Obj)} (C : ExcC X.K D) (hz : Zc (.ref D) (some dd) oe) (hf : ∃ vs, oe.data = .fields vs) : CallR (X.suite a ((a, oe) :: pn)) (.builtin "isinstance") (rIsED X.K D a dd) := by
  intro pins s σ H xs us Q I r h
  obtain ⟨c, cv, b, fs, rfl, hcv, hd, e, q⟩ := h
  obtain ⟨u, w, rfl, rx, rt⟩ : ∃ u w, us = [u, w] ∧ RelV (.ref a) u ∧ RelV c w := by
    cases r with
    | cons rx rr => cases rr with
      | cons rt rr => cases rr; exact ⟨_, _, rfl, rx, rt⟩
  obtain rfl : u = Value.ref a := rx
  obtain rfl := hcv _ rt
  obtain ⟨hget, _⟩ := I.pin (a, oe) (List.mem_append.mpr (.inl List.mem_cons_self))
  obtain ⟨vs, hv⟩ := hf
  obtain ⟨mA, hns, _⟩ := (show ObjOk X.prog X.w H s.heap dd (.xd fs) from I.hok dd _ hd)
  obtain ⟨od, ho, _⟩ := lookIn_ns hns
  have J : PySem.W.InstAt s.heap a oe D (some od) := ⟨hget, hz.1, by unfold PySem.W.notCls; rw [hv] <;> rfl, by rw [hz.2]; exact ho⟩
  have hcl : (PySem.W.clsIn X.K D).isSome = true := by
    obtain ⟨cd, hc, _⟩ := PySem.W.any_some C.hd
    rw [hc]; rfl
  exact PySem.W.kia_one (PySem.W.kitx_exc hcl C.hg C.hk C.hs C.ha C.hn C.ht C.hm) I.kIn J e (fun z => nomatch z) fun tk => ⟨.bl b, H, I.kept (t' := tk) fun _ _ z => z, rfl, q⟩
/-- .. whatever class and dict the suite has been told -/
def rIsEE (K : PySem.W.Frag) (a : Addr) (cls : Value) (d : Option Addr) : List V → Hp → VK → Prop := fun xs H Q => ∃ (D dd : Addr), cls = .ref D ∧ d = some dd ∧ ExcC K D ∧ rIsED K D a dd xs H Q
theorem call_isEE {X : Cx} {a : Addr} {cls : Value} {d : Option Addr} {oe : Obj} {pn : List (Addr × Obj)} (hz : Zc cls d oe) (hf : ∃ vs, oe.data = .fields vs) : CallR (X.suite a ((a, oe) :: pn)) (.builtin "isinstance") (rIsEE X.K a cls d) := by
  intro pins s σ H xs us Q I r h
  obtain ⟨D, dd, rfl, rfl, C, h⟩ := h
  exact call_isED C hz hf pins s σ H xs us Q I r h
end L2

set_option Elab.async false
set_option linter.all false
set_option maxRecDepth 100000
set_option maxHeartbeats 4000000
/-! The head by one kernel run, with facts of classes, methods, own errors. -/
namespace ZH
open PySem PySem.Spec PyProof.Rows L2 He
/-- the heap's first objects -/
def asZ (_ : Addr → Option Obj) (n : Nat) : List Addr := List.range n
/-- a def without defaults -/
theorem fun_of {K : PySem.W.Frag} {x q : Str} {st : Stmt} {f : Addr} {fd : FuncData} (F : FunD K x q (defArgs st) (defBody st) (defScope st) [] [] f fd) : L2.Fun K x q st f fd := by
  obtain ⟨oc, od, dV, kV, doc, pm, an, cdv, ct, osl, rfl, lk, hcd, hD, hK⟩ := F.ex
  rcases hD with ⟨_, rfl⟩ | ⟨e, _⟩
  · exact ⟨⟨oc, od, kV, doc, pm, an, cdv, ct, osl, rfl, lk, hcd⟩, F.kp⟩
  · exact absurd rfl e
/-- a keyword-only default that is an object -/
def kwAt (f : Str × Option Str) (x : Str) (K : PySem.W.Frag) : Addr := match K.lookup (fAd K f) with
  | some ⟨_, _, .func fd, _⟩ => (match fd.kwdefaults with
    | .ref D => (match PySem.W.nsIn K D x with
      | some (some (.ref a)) => a
      | _ => 0)
    | _ => 0)
  | _ => 0
def emptyB (K : PySem.W.Frag) (a : Addr) : Bool := match K.lookup a with
  | some ⟨.type c, _, .seq its _, _⟩ => decide (c = "tuple") && its.isEmpty
  | _ => false
theorem emptyB_ok {K : PySem.W.Frag} {a : Addr} (h : emptyB K a = true) (H : Hp) : SqT K H a [] := by
  unfold emptyB at h
  cases q : K.lookup a with
  | none => rw [q] at h; cases h
  | some o =>
    obtain ⟨oc, od, dt, osl⟩ := o
    rw [q] at h
    cases oc with
    | type c =>
      cases dt with
      | seq its n =>
        obtain ⟨h1, h2⟩ := ba (show (decide (c = "tuple") && its.isEmpty) = true from h)
        have e2 : its = #[] := Array.isEmpty_iff.mp h2
        subst e2
        exact .inr ⟨_, _, _, q, congrArg Value.type (of_decide_eq_true h1), rfl, Nat.zero_le _, .nil⟩
      | _ => cases h
    | _ => cases dt <;> cases h
/-! ### own errors -/
abbrev ExV : Type := Option (Str × Str × Arguments × FuncBody × Scope × Addr × List Str × Value × Value × Addr)
def iAd (K : PySem.W.Frag) (x : Str) : Addr := ma K (ga K x) "__init__"
def exObs (K : PySem.W.Frag) (x : Str) : ExV := match K.lookup (iAd K x) with
  | some ⟨_, _, .func fd, _⟩ => some (fd.name, fd.qualname, fd.params, fd.body, fd.scope, fd.globals, fd.closure.map (·.1), fd.defaults, fd.kwdefaults, fd.builtins)
  | _ => none
structure ExD where
  nm : Str
  fld : Str
  q : Str
  A : Arguments
  B : List Stmt
  S : Scope
def ExD.val (d : ExD) : ExV := some ("__init__", d.q, d.A, .stmts d.B, d.S, mainGlobals, ["__class__"], .none, .none, builtinsNs)
def isEC (K : PySem.W.Frag) (C : Addr) : Bool := match K.lookup C with
  | some ⟨.type "type", _, .cls cd, sl⟩ => (match cd.mro, sl.toList with
    | .ref C' :: bm, [_, _, _, _, some (.builtin n), _] => C' == C && n == "ValueError.__new__" && !cd.hasDel && (cd.hasDict && PySem.HandSPX.refsVE bm)
    | _, _ => false)
  | _ => false
theorem isEC_ok {K : PySem.W.Frag} {C : Addr} (q : isEC K C = true) : ∃ nm qn N bs bm sn sub ab col dd k0 k1 k2 k3 k5, K.lookup C = some (excClassObj nm qn C N bs bm true sn sub ab col dd k0 k1 k2 k3 k5 "ValueError.__new__") ∧ PySem.HandSPX.refsVE bm = true := by
  unfold isEC at q
  split at q
  · rename_i dd cd sl ho
    split at q
    · rename_i C' bm k0 k1 k2 k3 n k5 hm hs
      simp only [Bool.and_eq_true, beq_iff_eq, Bool.not_eq_true'] at q
      obtain ⟨⟨⟨rfl, rfl⟩, hdel⟩, hdd, ht⟩ := q
      obtain ⟨nm, bs, mro, ns, qn, hd, sn, sub, ab, col, del⟩ := cd
      dsimp only at hm hdel hdd
      subst hm hdel hdd
      have hsl : sl = #[k0, k1, k2, k3, some (.builtin "ValueError.__new__"), k5] := by
        obtain ⟨l⟩ := sl
        simp only at hs
        rw [hs]
      subst hsl
      exact ⟨nm, qn, ns, bs, bm, sn, sub, ab, col, dd, k0, k1, k2, k3, k5, ho, ht⟩
    · cases q
  · cases q
def fnB (K : PySem.W.Frag) (file : Str) (d : ExD) : Bool := match K.lookup (iAd K d.nm) with
  | some ⟨_, _, .func fd, _⟩ => (match fd.closure, fd.code with
    | [(_, cc)], .ref cda => PySem.W.codeIn K (.ref cda) d.q && ((match K.lookup cc with
        | some ⟨_, _, .cell (some (.ref C')), _⟩ => C' == ga K d.nm
        | _ => false) && (match K.lookup cda with
        | some ⟨_, _, .fields vs, _⟩ => (match vs[2]? with
          | some (Value.str z _) => file == z
          | _ => false)
        | _ => false))
    | _, _ => false)
  | _ => false
theorem fnB_ok {K : PySem.W.Frag} {file : Str} {d : ExD} (e : exObs K d.nm = d.val) (h : fnB K file d = true) :
    ∃ (oc : Value) (od : Option Addr) (doc pm : Value) (an : Option Addr) (cda : Addr) (ct : Value) (osl : Array (Option Value)) (cc : Addr) (cl : Value) (cld : Option Addr) (csl : Array (Option Value)) (vs : Array Value) (ccl : Value) (cdd : Option Addr) (ccs : Array (Option Value)) (fl : Str) (tf : Tok),
      K.lookup (iAd K d.nm) = some ⟨oc, od, .func (PySem.W.ksFn "__init__" d.q d.A d.B d.S .none .none doc pm an (.ref cda) ct cc), osl⟩ ∧ PySem.W.codeIn K (.ref cda) d.q = true ∧
      K.lookup cc = some ⟨cl, cld, .cell (some (.ref (ga K d.nm))), csl⟩ ∧ K.lookup cda = some ⟨ccl, cdd, .fields vs, ccs⟩ ∧ vs[2]? = some (.str fl tf) ∧ (file == fl) = true := by
  unfold exObs ExD.val at e
  unfold fnB at h
  cases q : K.lookup (iAd K d.nm) with
  | none => rw [q] at h; cases h
  | some o =>
    obtain ⟨oc, od, dt, osl⟩ := o
    rw [q] at h e
    cases dt with
    | func fd =>
      obtain ⟨n1, n2, n3, n4, n5, n6, n7, n8, n9, n10, n11, n12, n13, n14, n15⟩ := fd
      have e2 : (some (n1, n2, n3, n4, n5, n6, n7.map (·.1), n8, n9, n15) : ExV) = (some ("__init__", d.q, d.A, FuncBody.stmts d.B, d.S, mainGlobals, ["__class__"], Value.none, Value.none, builtinsNs) : ExV) := e
      simp only [Option.some.injEq, Prod.mk.injEq] at e2
      obtain ⟨h1, h2, h3, h4, h5, h6, h7, h8, h9, h10⟩ := e2
      subst h1 h2 h3 h4 h5 h6 h8 h9 h10
      cases n7 with
      | nil => cases h7
      | cons p r =>
        obtain ⟨c1, cc⟩ := p
        cases r with
        | cons p2 r2 => simp at h7
        | nil =>
          have h7 : c1 = "__class__" := by simpa using h7
          subst h7
          cases n13 with
          | ref cda =>
            obtain ⟨g1, g2⟩ := ba (show (PySem.W.codeIn K (.ref cda) d.q && ((match K.lookup cc with
              | some ⟨_, _, .cell (some (.ref C')), _⟩ => C' == ga K d.nm
              | _ => false) && (match K.lookup cda with
              | some ⟨_, _, .fields vs, _⟩ => (match vs[2]? with
                | some (Value.str z _) => file == z
                | _ => false)
              | _ => false))) = true from h)
            obtain ⟨g3, g4⟩ := ba g2
            split at g3
            · rename_i cl cld C' csl hc
              have ec : C' = ga K d.nm := beq_iff_eq.mp g3
              subst ec
              split at g4
              · rename_i ccl cdd vs ccs hd
                split at g4
                · rename_i z tf hv
                  exact ⟨oc, od, n10, n11, n12, cda, n14, osl, cc, cl, cld, csl, vs, ccl, cdd, ccs, z, tf, rfl, g1, hc, hd, hv, g4⟩
                · cases g4
              · cases g4
            · cases g3
          | _ => cases h
    | _ => cases h
def so (a : Option Bool) : Bool := decide (a = some true)
def ExD.ok (K : PySem.W.Frag) (file : Str) (d : ExD) : Bool :=
  [eqO (PySem.W.findIn K (.ref (ga K d.nm)) "__setattr__") (some (some (.builtin "object.__setattr__"))), eqO (PySem.W.findIn K (.ref (ga K d.nm)) d.fld) (some none), eqO (PySem.W.findIn K (.ref (ga K d.nm)) "__init__") (some (some (.ref (iAd K d.nm)))),
    decide (PySem.W.typeIn K (.ref (iAd K d.nm)) = some (.type "function")), PySem.W.keepIn K (.ref (ga K d.nm)), so (PySem.W.subIn K (.ref (ga K d.nm)) (.type "BaseException")), so (PySem.W.subIn K (.ref (ga K d.nm)) (.type "ValueError")), decide (PySem.W.typeIn K (.ref (ga K d.nm)) = some (.type "type")),
    so (PySem.W.mroIn K (ga K d.nm) (.ref (ga K d.nm))), eqO (PySem.W.ks_superIn K (ga K d.nm) (ga K d.nm) "__init__") (some (some (.builtin "ValueError.__init__"))), PySem.W.hasDictIn K (ga K d.nm),
    eqO (PySem.W.findIn K (.ref (ga K d.nm)) "__getattribute__") (some (some (.builtin "BaseException.__getattribute__"))), eqO (PySem.W.findIn K (.ref (ga K d.nm)) "__getattr__") (some none), eqO (PySem.W.findIn K (.ref (ga K d.nm)) "__class__") (some (some (.builtin "object.__class__"))),
    so (PySem.W.mroIn K (ga K d.nm) (.type "object")), so (PySem.W.exmOne K (.ref (ga K d.nm)) (.ref (ga K d.nm))), isEC K (ga K d.nm), fnB K file d].all id
structure ExF (K : PySem.W.Frag) (file : Str) (d : ExD) : Prop where
  sa : PySem.W.findIn K (.ref (ga K d.nm)) "__setattr__" = some (some (.builtin "object.__setattr__"))
  noN : PySem.W.findIn K (.ref (ga K d.nm)) d.fld = some none
  iC : PySem.W.findIn K (.ref (ga K d.nm)) "__init__" = some (some (.ref (iAd K d.nm)))
  tC : PySem.W.typeIn K (.ref (iAd K d.nm)) = some (.type "function")
  kC : PySem.W.keepIn K (.ref (ga K d.nm)) = true
  exC : PySem.W.subIn K (.ref (ga K d.nm)) (.type "BaseException") = some true
  veC : PySem.W.subIn K (.ref (ga K d.nm)) (.type "ValueError") = some true
  tyC : PySem.W.typeIn K (.ref (ga K d.nm)) = some (.type "type")
  mro : PySem.W.mroIn K (ga K d.nm) (.ref (ga K d.nm)) = some true
  sup : PySem.W.ks_superIn K (ga K d.nm) (ga K d.nm) "__init__" = some (some (.builtin "ValueError.__init__"))
  hd : PySem.W.hasDictIn K (ga K d.nm) = true
  gg : PySem.W.findIn K (.ref (ga K d.nm)) "__getattribute__" = some (some (.builtin "BaseException.__getattribute__"))
  gk : PySem.W.findIn K (.ref (ga K d.nm)) "__getattr__" = some none
  gc : PySem.W.findIn K (.ref (ga K d.nm)) "__class__" = some (some (.builtin "object.__class__"))
  mo : PySem.W.mroIn K (ga K d.nm) (.type "object") = some true
  te : PySem.W.exmOne K (.ref (ga K d.nm)) (.ref (ga K d.nm)) = some true
  cls : ∃ nm qn N bs bm sn sub ab col dd k0 k1 k2 k3 k5, K.lookup (ga K d.nm) = some (excClassObj nm qn (ga K d.nm) N bs bm true sn sub ab col dd k0 k1 k2 k3 k5 "ValueError.__new__") ∧ PySem.HandSPX.refsVE bm = true
  fn : ∃ (oc : Value) (od : Option Addr) (doc pm : Value) (an : Option Addr) (cda : Addr) (ct : Value) (osl : Array (Option Value)) (cc : Addr) (cl : Value) (cld : Option Addr) (csl : Array (Option Value)) (vs : Array Value) (ccl : Value) (cdd : Option Addr) (ccs : Array (Option Value)) (fl : Str) (tf : Tok),
      K.lookup (iAd K d.nm) = some ⟨oc, od, .func (PySem.W.ksFn "__init__" d.q d.A d.B d.S .none .none doc pm an (.ref cda) ct cc), osl⟩ ∧ PySem.W.codeIn K (.ref cda) d.q = true ∧
      K.lookup cc = some ⟨cl, cld, .cell (some (.ref (ga K d.nm))), csl⟩ ∧ K.lookup cda = some ⟨ccl, cdd, .fields vs, ccs⟩ ∧ vs[2]? = some (.str fl tf) ∧ (file == fl) = true
theorem ex_ok {K : PySem.W.Frag} {file : Str} {d : ExD} (e : exObs K d.nm = d.val) (h : d.ok K file = true) : ExF K file d := by
  have c := List.all_eq_true.mp h
  have g : ∀ (i : Nat) {b : Bool}, ([eqO (PySem.W.findIn K (.ref (ga K d.nm)) "__setattr__") (some (some (.builtin "object.__setattr__"))), eqO (PySem.W.findIn K (.ref (ga K d.nm)) d.fld) (some none), eqO (PySem.W.findIn K (.ref (ga K d.nm)) "__init__") (some (some (.ref (iAd K d.nm)))),
    decide (PySem.W.typeIn K (.ref (iAd K d.nm)) = some (.type "function")), PySem.W.keepIn K (.ref (ga K d.nm)), so (PySem.W.subIn K (.ref (ga K d.nm)) (.type "BaseException")), so (PySem.W.subIn K (.ref (ga K d.nm)) (.type "ValueError")), decide (PySem.W.typeIn K (.ref (ga K d.nm)) = some (.type "type")),
    so (PySem.W.mroIn K (ga K d.nm) (.ref (ga K d.nm))), eqO (PySem.W.ks_superIn K (ga K d.nm) (ga K d.nm) "__init__") (some (some (.builtin "ValueError.__init__"))), PySem.W.hasDictIn K (ga K d.nm),
    eqO (PySem.W.findIn K (.ref (ga K d.nm)) "__getattribute__") (some (some (.builtin "BaseException.__getattribute__"))), eqO (PySem.W.findIn K (.ref (ga K d.nm)) "__getattr__") (some none), eqO (PySem.W.findIn K (.ref (ga K d.nm)) "__class__") (some (some (.builtin "object.__class__"))),
    so (PySem.W.mroIn K (ga K d.nm) (.type "object")), so (PySem.W.exmOne K (.ref (ga K d.nm)) (.ref (ga K d.nm))), isEC K (ga K d.nm), fnB K file d] : List Bool)[i]? = some b → b = true := fun i b hi => c b (List.mem_of_getElem? hi)
  exact ⟨eqO_ok (g 0 rfl), eqO_ok (g 1 rfl), eqO_ok (g 2 rfl), of_decide_eq_true (g 3 rfl), g 4 rfl, of_decide_eq_true (g 5 rfl), of_decide_eq_true (g 6 rfl), of_decide_eq_true (g 7 rfl), of_decide_eq_true (g 8 rfl), eqO_ok (g 9 rfl), g 10 rfl, eqO_ok (g 11 rfl), eqO_ok (g 12 rfl), eqO_ok (g 13 rfl), of_decide_eq_true (g 14 rfl), of_decide_eq_true (g 15 rfl), isEC_ok (g 16 rfl), fnB_ok e (g 17 rfl)⟩
theorem ExF.xfc {K : PySem.W.Frag} {file : Str} {d : ExD} (e : ExF K file d) : XfC K (ga K d.nm) := ⟨e.gg, e.gk, e.exC, e.hd⟩
/-! ### the Hook -/
abbrev AlZ : Type := AlD × Bool × List ExV
abbrev Xtr : Type := List (PySem.W.Frag → Bool)
def stat (K : PySem.W.Frag) : Bool := eqO (PySem.W.nsIn K cStatics "thirdparty.any") (some none) && (eqO (PySem.W.specialIn K (.builtin "object.__class__") "__get__") (some (some (.builtin "getset_descriptor.__get__"))) && decide (PySem.W.takesIn K (.builtin "object.__class__") = some true))
def obsZ (fa : List Fa) (fn : List DefD) (ex : List ExD) (xt : Xtr) (file : Str) (K : PySem.W.Frag) : AlZ := (obsD fa fn K, stat K && ((ex.all fun d => d.ok K file) && xt.all fun f => f K), ex.map fun d => exObs K d.nm)
def valZ (fn : List DefD) (ex : List ExD) : AlZ := (valD fn, true, ex.map ExD.val)
def SaysZ (fa : List Fa) (fn : List DefD) (ex : List ExD) (xt : Xtr) (file : Str) (K : PySem.W.Frag) : Prop := obsZ fa fn ex xt file K = valZ fn ex
def obsZG (n : Nat) (fa : List Fa) (fn : List DefD) (ex : List ExD) (xt : Xtr) (file : Str) (g : Addr → Option Obj) : AlZ := obsZ fa fn ex xt file (frG g (asZ g n))
def hookZ (n : Nat) (fa : List Fa) (fn : List DefD) (ex : List ExD) (xt : Xtr) (file : Str) : PySem.W.Hook where
  α := AlZ
  obs := fun s => obsZG n fa fn ex xt file s.heap.get?
  val := fun _ => valZ fn ex
  says := fun _ h => ∃ K : PySem.W.Frag, K.In h ∧ SaysZ fa fn ex xt file K
  of := fun _ _ e => ⟨_, frG_in, e⟩
  keeps := fun _ _ _ ⟨K, hK, c⟩ k => ⟨K, PySem.W.Frag.In.keeps hK k, c⟩
theorem obsZG_eq {n : Nat} {fa : List Fa} {fn : List DefD} {ex : List ExD} {xt : Xtr} {file : Str} {g : Addr → Option Obj} {s : Shared} (h : ∀ a, g a = s.heap.get? a) : obsZG n fa fn ex xt file g = (hookZ n fa fn ex xt file).obs s := by
  have e : g = s.heap.get? := funext h
  rw [e] <;> rfl
section
variable {fa : List Fa} {fn : List DefD} {ex : List ExD} {xt : Xtr} {file : Str} {K : PySem.W.Frag}
theorem SaysZ.d (c : SaysZ fa fn ex xt file K) : SaysD fa fn K := congrArg (fun z : AlZ => z.1) c
theorem SaysZ.b (c : SaysZ fa fn ex xt file K) : stat K = true ∧ (∀ d ∈ ex, d.ok K file = true) ∧ ∀ f ∈ xt, f K = true := by
  have e : (stat K && ((ex.all fun d => d.ok K file) && xt.all fun f => f K)) = true := congrArg (fun z : AlZ => z.2.1) c
  obtain ⟨e1, e⟩ := ba e
  obtain ⟨e2, e3⟩ := ba e
  exact ⟨e1, List.all_eq_true.mp e2, List.all_eq_true.mp e3⟩
theorem SaysZ.exf (c : SaysZ fa fn ex xt file K) (i : Nat) {d : ExD} (h : ex[i]? = some d := by rfl) : ExF K file d := by
  have e : ex.map (fun d => exObs K d.nm) = ex.map ExD.val := congrArg (fun z : AlZ => z.2.2) c
  have e2 : (ex.map fun d => exObs K d.nm)[i]? = (ex.map ExD.val)[i]? := by rw [e]
  rw [List.getElem?_map, List.getElem?_map, h] at e2
  exact ex_ok (Option.some.inj e2) (c.b.2.1 d (List.mem_of_getElem? h))
theorem SaysZ.xtr (c : SaysZ fa fn ex xt file K) (i : Nat) {f : PySem.W.Frag → Bool} (h : xt[i]? = some f := by rfl) : f K = true := c.b.2.2 f (List.mem_of_getElem? h)
theorem SaysZ.op (c : SaysZ fa fn ex xt file K) : PySem.W.nsIn K cStatics "thirdparty.any" = some none := eqO_ok (ba c.b.1).1
theorem SaysZ.y6 (c : SaysZ fa fn ex xt file K) : PySem.W.specialIn K (.builtin "object.__class__") "__get__" = some (some (.builtin "getset_descriptor.__get__")) := eqO_ok (ba (ba c.b.1).2).1
theorem SaysZ.y7 (c : SaysZ fa fn ex xt file K) : PySem.W.takesIn K (.builtin "object.__class__") = some true := of_decide_eq_true (ba (ba c.b.1).2).2
theorem ExF.exc (e : ExF K file d) (c : SaysZ fa fn ex xt file K) : ExcC K (ga K d.nm) := ⟨e.gg, e.gk, e.exC, e.hd, e.gc, c.y6, c.y7, e.mo⟩
end
end ZH

set_option Elab.async false
set_option linter.all false
set_option maxRecDepth 100000
set_option maxHeartbeats 8000000
namespace Law
open PySem PySem.Spec L2 Zk
open PyProof.Rows hiding St
local macro_rules | `(tactic| walk_at "ne") => `(tactic| first
  | assumption
  | exact Ne.symm (by assumption)
  | (refine ne_of_none (H := ?zg) (o := ?zo) ?zh ?zn; (case zn => assumption); (case zh => walk_at "hold"))
  | (refine Ne.symm (ne_of_none (H := ?zg) (o := ?zo) ?zh ?zn); (case zn => assumption); (case zh => walk_at "hold")))
local macro_rules | `(tactic| walk_at "nm") => `(tactic| first
  | exact List.not_mem_nil
  | (refine nm1 ?_; walk_at "ne")
  | (refine nm2 ?_ ?_ <;> walk_at "ne")
  | assumption)
local macro_rules | `(tactic| walk_at "hold") => `(tactic| first
  | assumption
  | (refine Ext.get (M := ?em) (H := ?eg) ?ek ?eh ?en; (case ek => assumption); (case eh => walk_at "hold"); (case en => first | exact Or.inr trivial | (refine Or.inl ?_; walk_at "nm")))
  | (refine sql ?_; walk_at "hold")
  | (refine sqt ?_; walk_at "hold")
  | (refine Scr.ext (M := ?em) (H := ?eg) ?ek ?eh; (case ek => assumption); (case eh => walk_at "hold"))
  | (refine Scr.sql ?_; walk_at "hold"))
local macro_rules | `(tactic| walk_at "go1") => `(tactic| first
  | (with_reducible refine w_seq ?_)
  | (with_reducible refine w_asg ?_)
  | (with_reducible refine w_gname ?_)
  | (with_reducible refine w_op ?_)
  | ((with_reducible refine w_var (v := ?zw) ?zv ?_); (case zv => exact rfl))
  | (with_reducible refine w_c ?_)
  | (with_reducible refine w_I0 ?_)
  | (with_reducible refine w_test ?_)
  | (with_reducible refine w_bl ?_)
  | (with_reducible refine w_eqI ?_)
  | (with_reducible refine w_neI ?_)
  | (with_reducible refine w_cb ?_)
  | (with_reducible refine w_cons ?_)
  | (with_reducible refine w_nil ?_)
  | (with_reducible refine w_int ?_)
  | (with_reducible refine w_call ?_)
  | (with_reducible refine w_ret ?_)
  | ((with_reducible refine w_I ?zc ?_); (case zc => first | exact Or.inr ⟨by decide, by decide⟩ | exact Or.inl ⟨by decide, by decide⟩ | (show (0 : Int) < _; first | decide | omega) | exact ⟨by decide, by decide⟩ | (show CPow _ _; exact ⟨by decide, by decide, by decide⟩) | (refine wide_mul (a := 200) (b := 200) ?_ ?_ (by decide) (by decide) (by decide) <;> omega)))
  | ((with_reducible refine w_ixL (xs := ?zx) (v := ?zw) ?zh ?ze ?_); (case zh => walk_at "hold"); (case ze => first | exact rfl | assumption))
  | ((with_reducible refine w_ixT (xs := ?zx) (v := ?zw) ?zh ?ze ?_); (case zh => walk_at "hold"); (case ze => first | exact rfl | assumption))
  | ((with_reducible refine w_lenL (xs := ?zx) ?zh ?_); (case zh => walk_at "hold"))
  | ((with_reducible refine w_lenT (xs := ?zx) ?zh ?_); (case zh => walk_at "hold"))
  | ((with_reducible refine w_lenD (kvs := ?zx) ?zh ?_); (case zh => walk_at "hold"))
  | (with_reducible refine w_gsub ?_)
  | ((with_reducible refine w_setL (xs := ?zx) (j := ?zj) ?zh ?ze ?_); (case zh => walk_at "hold"); (case ze => first | exact rfl | assumption))
  | (with_reducible refine w_and ?_)
  | (with_reducible refine w_or ?_)
  | (with_reducible refine w_not ?_)
  | (with_reducible refine w_tB ?_)
  | (with_reducible refine w_andV ?_)
  | (with_reducible refine w_orV ?_)
  | (with_reducible refine w_notV ?_)
  | (with_reducible refine w_next ?_)
  | (with_reducible refine w_drop ?_)
  | (with_reducible refine w_retN ?_)
  | (with_reducible refine w_tup ?_)
  | (with_reducible refine w_lst ?_)
  | (with_reducible refine w_un ?_)
  | (with_reducible refine w_rU ?_)
  | (with_reducible refine w_eqS ?_)
  | (with_reducible refine w_neS ?_)
  | (with_reducible refine w_isN ?_)
  | (with_reducible refine w_isNt ?_)
  | (with_reducible refine w_isB ?_)
  | (with_reducible refine w_ltS ?_)
  | (with_reducible refine w_dnewK ?_)
  | (with_reducible refine w_dnewT ?_)
  | (with_reducible refine w_break ?_)
  | (with_reducible refine w_cont ?_)
  | (with_reducible refine w_dget ?_)
  | (with_reducible refine w_chain ?_)
  | (with_reducible refine w_notT ?_)
  | (with_reducible refine w_din ?_)
  | (with_reducible refine w_dnotin ?_)
  | (with_reducible refine w_yes ?_)
  | (with_reducible refine w_m1 ?_)
  | (with_reducible refine w_gcons ?_)
  | (with_reducible refine w_gnil ?_)
  | (with_reducible refine w_sdput ?_)
  | ((with_reducible refine w_gtup (xs := ?zx) ?zh ?zl ?_); (case zh => walk_at "hold"); (case zl => exact rfl))
  | (with_reducible refine w_bm ?_)
  | (with_reducible refine w_bm0 ?_)
  | ((with_reducible refine w_tyL (xs := ?zx) ?zh ?_); (case zh => walk_at "hold"))
  | (with_reducible refine w_lc ?_)
  | (with_reducible refine w_for ?_)
  | (with_reducible refine w_str ?_)
  | (with_reducible refine w_iList ?_)
  | (with_reducible refine w_iTup ?_)
  | (with_reducible refine w_iRng1 ?_)
  | (with_reducible refine w_iRng2 ?_)
  | (with_reducible refine w_iStr ?_)
  | (with_reducible refine iteT ?_)
  | (with_reducible refine iteF ?_)
  | (with_reducible refine iteNF ?_)
  | (with_reducible refine iteNT ?_))
local macro_rules | `(tactic| walk_at "isi") => `(tactic| first
  | (refine w_isi (k := true) (.ty _) (.base (.int _)) (kit_ty (by decide +kernel)) ?_)
  | (refine w_isi (k := false) (.ty _) (.base (.int _)) (kit_ty (by decide +kernel)) ?_)
  | (refine w_isi (k := true) (.ty _) (.base (.str _)) (kit_ty (by decide +kernel)) ?_)
  | (refine w_isi (k := false) (.ty _) (.base (.str _)) (kit_ty (by decide +kernel)) ?_)
  | (refine w_isi (k := true) (.ty _) (by assumption) (kit_ty (by decide +kernel)) ?_)
  | (refine w_isi (k := false) (.ty _) (by assumption) (kit_ty (by decide +kernel)) ?_))
local macro_rules | `(tactic| walk_at "run") => `(tactic| repeat (first | walk_at "go1" | walk_at "if" | walk_at "ife" | (refine w_bl ?_) | (refine w_f rfl ?_) | (refine w_t rfl ?_) | walk_at "isi"))
local macro_rules | `(tactic| walk_at "go") => `(tactic| repeat walk_at "go1")
local macro_rules | `(tactic| walk_at "goa") => `(tactic| repeat (first
  | ((with_reducible refine w_modA ?zc ?_); (case zc => first | decide | omega); (intro r r0 r1))
  | walk_at "go1"))
local macro_rules | `(tactic| walk_at "if") => `(tactic| ((with_reducible refine w_ifS ?_); walk_at "go"))
local macro_rules | `(tactic| walk_at "ife") => `(tactic| ((with_reducible refine w_if ?_); walk_at "go"))
local macro_rules | `(tactic| walk_at "go1") => `(tactic| first | (with_reducible refine w_slice ?_) | (with_reducible refine w_noPart ?_) | (with_reducible refine w_part ?_) | (with_reducible refine w_sx ?_) | (with_reducible refine w_callS ?_))
def topS (i : Nat) : Stmt := PySem.Challenge.pw_storelife_k01_files_of_three_forms.main.body.getD i (.Pass ⟨0, 0, 0, 0⟩)
abbrev s_is_text : Stmt := topS 7
theorem sc_is_text : FnScope ["value", "char"] ["value"] (defScope s_is_text) := ⟨rfl, rfl, rfl, by decide +kernel, rfl, by decide +kernel, by decide +kernel⟩
abbrev s_Strings___init__ : Stmt := inClass (topS 12) 0
theorem sc_Strings___init__ : FnScope ["self", "texts"] ["self", "texts"] (defScope s_Strings___init__) := ⟨rfl, rfl, rfl, by decide +kernel, rfl, by decide +kernel, by decide +kernel⟩
abbrev s_Strings_named : Stmt := inClass (topS 12) 1
theorem sc_Strings_named : FnScope ["self", "place"] ["self", "place"] (defScope s_Strings_named) := ⟨rfl, rfl, rfl, by decide +kernel, rfl, by decide +kernel, by decide +kernel⟩
abbrev s_write_value : Stmt := topS 13
theorem sc_write_value : FnScope ["value"] ["value"] (defScope s_write_value) := ⟨rfl, rfl, rfl, by decide +kernel, rfl, by decide +kernel, by decide +kernel⟩
abbrev s_written : Stmt := topS 14
theorem sc_written : FnScope ["value", "places", "member"] ["value", "places"] (defScope s_written) := ⟨rfl, rfl, rfl, by decide +kernel, rfl, by decide +kernel, by decide +kernel⟩
abbrev s_note_strings : Stmt := topS 15
theorem sc_note_strings : FnScope ["value", "places", "member"] ["value", "places"] (defScope s_note_strings) := ⟨rfl, rfl, rfl, by decide +kernel, rfl, by decide +kernel, by decide +kernel⟩
abbrev s_read_value : Stmt := topS 16
theorem sc_read_value : FnScope ["text"] ["text"] (defScope s_read_value) := ⟨rfl, rfl, rfl, by decide +kernel, rfl, by decide +kernel, by decide +kernel⟩
abbrev s_read_named : Stmt := topS 17
theorem sc_read_named : FnScope ["text", "strings", "value", "place"] ["text", "strings"] (defScope s_read_named) := ⟨rfl, rfl, rfl, by decide +kernel, rfl, by decide +kernel, by decide +kernel⟩
abbrev s_value_at : Stmt := topS 18
theorem sc_value_at : FnScope ["text", "place", "room", "strings", "sign"] ["text", "place", "room", "strings"] (defScope s_value_at) := ⟨rfl, rfl, rfl, by decide +kernel, rfl, by decide +kernel, by decide +kernel⟩
abbrev s_digits_at : Stmt := topS 19
theorem sc_digits_at : FnScope ["text", "place", "most", "end", "digits"] ["text", "place", "most"] (defScope s_digits_at) := ⟨rfl, rfl, rfl, by decide +kernel, rfl, by decide +kernel, by decide +kernel⟩
abbrev s_integer_at : Stmt := topS 20
theorem sc_integer_at : FnScope ["text", "place", "negative", "digits", "end", "number"] ["text", "place"] (defScope s_integer_at) := ⟨rfl, rfl, rfl, by decide +kernel, rfl, by decide +kernel, by decide +kernel⟩
abbrev s_string_at : Stmt := topS 21
theorem sc_string_at : FnScope ["text", "place", "digits", "end", "first", "last", "chars"] ["text", "place"] (defScope s_string_at) := ⟨rfl, rfl, rfl, by decide +kernel, rfl, by decide +kernel, by decide +kernel⟩
abbrev s_named_at : Stmt := topS 22
theorem sc_named_at : FnScope ["text", "place", "strings", "digits", "end"] ["text", "place", "strings"] (defScope s_named_at) := ⟨rfl, rfl, rfl, by decide +kernel, rfl, by decide +kernel, by decide +kernel⟩
abbrev s_tuple_at : Stmt := topS 23
theorem sc_tuple_at : FnScope ["text", "place", "room", "strings", "members", "member"] ["text", "place", "room", "strings"] (defScope s_tuple_at) := ⟨rfl, rfl, rfl, by decide +kernel, rfl, by decide +kernel, by decide +kernel⟩
abbrev s_check_of : Stmt := topS 28
theorem sc_check_of : FnScope ["row", "line", "total", "at", "char", "code", "place"] ["row", "line"] (defScope s_check_of) := ⟨rfl, rfl, rfl, by decide +kernel, rfl, by decide +kernel, by decide +kernel⟩
abbrev s_checked : Stmt := topS 29
theorem sc_checked : FnScope ["lines", "row", "line"] ["lines"] (defScope s_checked) := ⟨rfl, rfl, rfl, by decide +kernel, rfl, by decide +kernel, by decide +kernel⟩
abbrev s_write_file : Stmt := topS 30
theorem sc_write_file : FnScope ["values", "form", "head", "value", "lines", "places"] ["values", "form"] (defScope s_write_file) := ⟨rfl, rfl, rfl, by decide +kernel, rfl, by decide +kernel, by decide +kernel⟩
abbrev s_bare_line : Stmt := topS 31
theorem sc_bare_line : FnScope ["lines", "row", "line"] ["lines", "row"] (defScope s_bare_line) := ⟨rfl, rfl, rfl, by decide +kernel, rfl, by decide +kernel, by decide +kernel⟩
abbrev s_is_count : Stmt := topS 32
theorem sc_is_count : FnScope ["digits", "char"] ["digits"] (defScope s_is_count) := ⟨rfl, rfl, rfl, by decide +kernel, rfl, by decide +kernel, by decide +kernel⟩
abbrev s_header_of : Stmt := topS 33
theorem sc_header_of : FnScope ["lines", "form", "line"] ["lines"] (defScope s_header_of) := ⟨rfl, rfl, rfl, by decide +kernel, rfl, by decide +kernel, by decide +kernel⟩
abbrev s_form_of : Stmt := topS 34
theorem sc_form_of : FnScope ["lines"] ["lines"] (defScope s_form_of) := ⟨rfl, rfl, rfl, by decide +kernel, rfl, by decide +kernel, by decide +kernel⟩
abbrev s_read_line : Stmt := topS 35
theorem sc_read_line : FnScope ["lines", "row", "form", "strings", "line"] ["lines", "row", "form", "strings"] (defScope s_read_line) := ⟨rfl, rfl, rfl, by decide +kernel, rfl, by decide +kernel, by decide +kernel⟩
abbrev s_read_strings : Stmt := topS 36
theorem sc_read_strings : FnScope ["lines", "count", "texts", "places", "text"] ["lines", "count"] (defScope s_read_strings) := ⟨rfl, rfl, rfl, by decide +kernel, rfl, by decide +kernel, by decide +kernel⟩
abbrev s_read_file : Stmt := topS 37
theorem sc_read_file : FnScope ["lines", "form", "count", "first", "strings", "values", "k"] ["lines"] (defScope s_read_file) := ⟨rfl, rfl, rfl, by decide +kernel, rfl, by decide +kernel, by decide +kernel⟩
abbrev s_reform : Stmt := topS 38
theorem sc_reform : FnScope ["lines", "form"] ["lines", "form"] (defScope s_reform) := ⟨rfl, rfl, rfl, by decide +kernel, rfl, by decide +kernel, by decide +kernel⟩
abbrev s_law_mixed : Stmt := topS 40
theorem sc_law_mixed : FnScope ["number", "place", "first", "second", "third"] ["number", "place"] (defScope s_law_mixed) := ⟨rfl, rfl, rfl, by decide +kernel, rfl, by decide +kernel, by decide +kernel⟩
abbrev s_law_rest : Stmt := topS 41
theorem sc_law_rest : FnScope ["script", "place", "fills", "number"] ["script", "place", "fills"] (defScope s_law_rest) := ⟨rfl, rfl, rfl, by decide +kernel, rfl, by decide +kernel, by decide +kernel⟩
abbrev s_law_pool : Stmt := topS 42
theorem sc_law_pool : FnScope ["script"] ["script"] (defScope s_law_pool) := ⟨rfl, rfl, rfl, by decide +kernel, rfl, by decide +kernel, by decide +kernel⟩
abbrev s_law_next : Stmt := topS 43
theorem sc_law_next : FnScope ["pool"] ["pool"] (defScope s_law_next) := ⟨rfl, rfl, rfl, by decide +kernel, rfl, by decide +kernel, by decide +kernel⟩
abbrev s_law_draw : Stmt := topS 44
theorem sc_law_draw : FnScope ["pool", "limit", "value"] ["pool", "limit"] (defScope s_law_draw) := ⟨rfl, rfl, rfl, by decide +kernel, rfl, by decide +kernel, by decide +kernel⟩
abbrev s_law_pick : Stmt := topS 45
theorem sc_law_pick : FnScope ["pool", "options"] ["pool", "options"] (defScope s_law_pick) := ⟨rfl, rfl, rfl, by decide +kernel, rfl, by decide +kernel, by decide +kernel⟩
abbrev s_law_same : Stmt := topS 46
theorem sc_law_same : FnScope ["one", "other", "key", "k"] ["one", "other"] (defScope s_law_same) := ⟨rfl, rfl, rfl, by decide +kernel, rfl, by decide +kernel, by decide +kernel⟩
abbrev s_law_chars : Stmt := topS 47
theorem sc_law_chars : FnScope ["pool", "count", "alphabet", "free", "step", "k"] ["pool", "count"] (defScope s_law_chars) := ⟨rfl, rfl, rfl, by decide +kernel, rfl, by decide +kernel, by decide +kernel⟩
abbrev s_law_digits : Stmt := topS 48
theorem sc_law_digits : FnScope ["pool", "count", "first", "step", "rest", "k"] ["pool", "count"] (defScope s_law_digits) := ⟨rfl, rfl, rfl, by decide +kernel, rfl, by decide +kernel, by decide +kernel⟩
abbrev s_law_integer : Stmt := topS 49
theorem sc_law_integer : FnScope ["pool", "over", "choice", "number"] ["pool", "over"] (defScope s_law_integer) := ⟨rfl, rfl, rfl, by decide +kernel, rfl, by decide +kernel, by decide +kernel⟩
abbrev s_law_value : Stmt := topS 50
theorem sc_law_value : FnScope ["pool", "room", "over", "left", "choice", "value", "k"] ["pool", "room", "over", "left"] (defScope s_law_value) := ⟨rfl, rfl, rfl, by decide +kernel, rfl, by decide +kernel, by decide +kernel⟩
abbrev s_law_text : Stmt := topS 51
theorem sc_law_text : FnScope ["value", "member"] ["value"] (defScope s_law_text) := ⟨rfl, rfl, rfl, by decide +kernel, rfl, by decide +kernel, by decide +kernel⟩
abbrev s_law_places : Stmt := topS 52
theorem sc_law_places : FnScope ["alphabet", "places", "k"] [] (defScope s_law_places) := ⟨rfl, rfl, rfl, by decide +kernel, rfl, by decide +kernel, by decide +kernel⟩
abbrev s_law_check : Stmt := topS 53
theorem sc_law_check : FnScope ["places", "row", "line", "total", "k", "digits"] ["places", "row", "line"] (defScope s_law_check) := ⟨rfl, rfl, rfl, by decide +kernel, rfl, by decide +kernel, by decide +kernel⟩
abbrev s_law_strings : Stmt := topS 54
theorem sc_law_strings : FnScope ["value", "found", "member"] ["value", "found"] (defScope s_law_strings) := ⟨rfl, rfl, rfl, by decide +kernel, rfl, by decide +kernel, by decide +kernel⟩
abbrev s_law_named : Stmt := topS 55
theorem sc_law_named : FnScope ["value", "names", "member"] ["value", "names"] (defScope s_law_named) := ⟨rfl, rfl, rfl, by decide +kernel, rfl, by decide +kernel, by decide +kernel⟩
abbrev s_law_bare : Stmt := topS 56
theorem sc_law_bare : FnScope ["values", "form", "lines", "value", "names"] ["values", "form"] (defScope s_law_bare) := ⟨rfl, rfl, rfl, by decide +kernel, rfl, by decide +kernel, by decide +kernel⟩
abbrev s_law_file : Stmt := topS 57
theorem sc_law_file : FnScope ["places", "values", "form", "lines", "row"] ["places", "values", "form"] (defScope s_law_file) := ⟨rfl, rfl, rfl, by decide +kernel, rfl, by decide +kernel, by decide +kernel⟩
abbrev s_law_again : Stmt := topS 58
theorem sc_law_again : FnScope ["pool", "value", "values", "choice"] ["pool", "value", "values"] (defScope s_law_again) := ⟨rfl, rfl, rfl, by decide +kernel, rfl, by decide +kernel, by decide +kernel⟩
abbrev s_law_depth : Stmt := topS 59
theorem sc_law_depth : FnScope ["value", "member"] ["value"] (defScope s_law_depth) := ⟨rfl, rfl, rfl, by decide +kernel, rfl, by decide +kernel, by decide +kernel⟩
abbrev s_law_flat : Stmt := topS 60
theorem sc_law_flat : FnScope ["value"] ["value"] (defScope s_law_flat) := ⟨rfl, rfl, rfl, by decide +kernel, rfl, by decide +kernel, by decide +kernel⟩
abbrev s_law_values : Stmt := topS 61
theorem sc_law_values : FnScope ["pool", "count", "way", "long", "values", "k", "value", "place"] ["pool"] (defScope s_law_values) := ⟨rfl, rfl, rfl, by decide +kernel, rfl, by decide +kernel, by decide +kernel⟩
abbrev s_law : Stmt := topS 62
theorem sc_law : FnScope ["script", "pool", "row", "places", "values", "kept", "form", "files", "lines", "other", "line"] ["script"] (defScope s_law) := ⟨rfl, rfl, rfl, by decide +kernel, rfl, by decide +kernel, by decide +kernel⟩
structure Txt (K : PySem.W.Frag) (mg : Str → Option Value) where
  f_is_text : Addr
  d_is_text : FuncData
  F_is_text : L2.Fun K "is_text" "is_text" s_is_text f_is_text d_is_text
  g_is_text : mg "is_text" = some (.ref f_is_text)
  k_is_text : Binds K d_is_text ["value"] []
  f_Strings___init__ : Addr
  d_Strings___init__ : FuncData
  F_Strings___init__ : L2.Fun K "__init__" "Strings.__init__" s_Strings___init__ f_Strings___init__ d_Strings___init__
  k_Strings___init__ : Binds K d_Strings___init__ ["self", "texts"] []
  f_Strings_named : Addr
  d_Strings_named : FuncData
  F_Strings_named : L2.Fun K "named" "Strings.named" s_Strings_named f_Strings_named d_Strings_named
  k_Strings_named : Binds K d_Strings_named ["self", "place"] []
  f_write_value : Addr
  d_write_value : FuncData
  F_write_value : L2.Fun K "write_value" "write_value" s_write_value f_write_value d_write_value
  g_write_value : mg "write_value" = some (.ref f_write_value)
  k_write_value : Binds K d_write_value ["value"] []
  f_written : Addr
  d_written : FuncData
  F_written : L2.Fun K "written" "written" s_written f_written d_written
  g_written : mg "written" = some (.ref f_written)
  k_written : Binds K d_written ["value", "places"] []
  f_note_strings : Addr
  d_note_strings : FuncData
  F_note_strings : L2.Fun K "note_strings" "note_strings" s_note_strings f_note_strings d_note_strings
  g_note_strings : mg "note_strings" = some (.ref f_note_strings)
  k_note_strings : Binds K d_note_strings ["value", "places"] []
  f_read_value : Addr
  d_read_value : FuncData
  F_read_value : L2.Fun K "read_value" "read_value" s_read_value f_read_value d_read_value
  g_read_value : mg "read_value" = some (.ref f_read_value)
  k_read_value : Binds K d_read_value ["text"] []
  f_read_named : Addr
  d_read_named : FuncData
  F_read_named : L2.Fun K "read_named" "read_named" s_read_named f_read_named d_read_named
  g_read_named : mg "read_named" = some (.ref f_read_named)
  k_read_named : Binds K d_read_named ["text", "strings"] []
  f_value_at : Addr
  d_value_at : FuncData
  F_value_at : L2.Fun K "value_at" "value_at" s_value_at f_value_at d_value_at
  g_value_at : mg "value_at" = some (.ref f_value_at)
  k_value_at : Binds K d_value_at ["text", "place", "room", "strings"] []
  f_digits_at : Addr
  d_digits_at : FuncData
  F_digits_at : L2.Fun K "digits_at" "digits_at" s_digits_at f_digits_at d_digits_at
  g_digits_at : mg "digits_at" = some (.ref f_digits_at)
  k_digits_at : Binds K d_digits_at ["text", "place", "most"] []
  f_integer_at : Addr
  d_integer_at : FuncData
  F_integer_at : L2.Fun K "integer_at" "integer_at" s_integer_at f_integer_at d_integer_at
  g_integer_at : mg "integer_at" = some (.ref f_integer_at)
  k_integer_at : Binds K d_integer_at ["text", "place"] []
  f_string_at : Addr
  d_string_at : FuncData
  F_string_at : L2.Fun K "string_at" "string_at" s_string_at f_string_at d_string_at
  g_string_at : mg "string_at" = some (.ref f_string_at)
  k_string_at : Binds K d_string_at ["text", "place"] []
  f_named_at : Addr
  d_named_at : FuncData
  F_named_at : L2.Fun K "named_at" "named_at" s_named_at f_named_at d_named_at
  g_named_at : mg "named_at" = some (.ref f_named_at)
  k_named_at : Binds K d_named_at ["text", "place", "strings"] []
  f_tuple_at : Addr
  d_tuple_at : FuncData
  F_tuple_at : L2.Fun K "tuple_at" "tuple_at" s_tuple_at f_tuple_at d_tuple_at
  g_tuple_at : mg "tuple_at" = some (.ref f_tuple_at)
  k_tuple_at : Binds K d_tuple_at ["text", "place", "room", "strings"] []
  f_check_of : Addr
  d_check_of : FuncData
  F_check_of : L2.Fun K "check_of" "check_of" s_check_of f_check_of d_check_of
  g_check_of : mg "check_of" = some (.ref f_check_of)
  k_check_of : Binds K d_check_of ["row", "line"] []
  f_checked : Addr
  d_checked : FuncData
  F_checked : L2.Fun K "checked" "checked" s_checked f_checked d_checked
  g_checked : mg "checked" = some (.ref f_checked)
  k_checked : Binds K d_checked ["lines"] []
  f_write_file : Addr
  d_write_file : FuncData
  F_write_file : L2.Fun K "write_file" "write_file" s_write_file f_write_file d_write_file
  g_write_file : mg "write_file" = some (.ref f_write_file)
  k_write_file : Binds K d_write_file ["values", "form"] []
  f_bare_line : Addr
  d_bare_line : FuncData
  F_bare_line : L2.Fun K "bare_line" "bare_line" s_bare_line f_bare_line d_bare_line
  g_bare_line : mg "bare_line" = some (.ref f_bare_line)
  k_bare_line : Binds K d_bare_line ["lines", "row"] []
  f_is_count : Addr
  d_is_count : FuncData
  F_is_count : L2.Fun K "is_count" "is_count" s_is_count f_is_count d_is_count
  g_is_count : mg "is_count" = some (.ref f_is_count)
  k_is_count : Binds K d_is_count ["digits"] []
  f_header_of : Addr
  d_header_of : FuncData
  F_header_of : L2.Fun K "header_of" "header_of" s_header_of f_header_of d_header_of
  g_header_of : mg "header_of" = some (.ref f_header_of)
  k_header_of : Binds K d_header_of ["lines"] []
  f_form_of : Addr
  d_form_of : FuncData
  F_form_of : L2.Fun K "form_of" "form_of" s_form_of f_form_of d_form_of
  g_form_of : mg "form_of" = some (.ref f_form_of)
  k_form_of : Binds K d_form_of ["lines"] []
  f_read_line : Addr
  d_read_line : FuncData
  F_read_line : L2.Fun K "read_line" "read_line" s_read_line f_read_line d_read_line
  g_read_line : mg "read_line" = some (.ref f_read_line)
  k_read_line : Binds K d_read_line ["lines", "row", "form", "strings"] []
  f_read_strings : Addr
  d_read_strings : FuncData
  F_read_strings : L2.Fun K "read_strings" "read_strings" s_read_strings f_read_strings d_read_strings
  g_read_strings : mg "read_strings" = some (.ref f_read_strings)
  k_read_strings : Binds K d_read_strings ["lines", "count"] []
  f_read_file : Addr
  d_read_file : FuncData
  F_read_file : L2.Fun K "read_file" "read_file" s_read_file f_read_file d_read_file
  g_read_file : mg "read_file" = some (.ref f_read_file)
  k_read_file : Binds K d_read_file ["lines"] []
  f_reform : Addr
  d_reform : FuncData
  F_reform : L2.Fun K "reform" "reform" s_reform f_reform d_reform
  g_reform : mg "reform" = some (.ref f_reform)
  k_reform : Binds K d_reform ["lines", "form"] []
  f__law_mixed : Addr
  d__law_mixed : FuncData
  F__law_mixed : L2.Fun K "_law_mixed" "_law_mixed" s_law_mixed f__law_mixed d__law_mixed
  g__law_mixed : mg "_law_mixed" = some (.ref f__law_mixed)
  k__law_mixed : Binds K d__law_mixed ["number", "place"] []
  f__law_rest : Addr
  d__law_rest : FuncData
  F__law_rest : L2.Fun K "_law_rest" "_law_rest" s_law_rest f__law_rest d__law_rest
  g__law_rest : mg "_law_rest" = some (.ref f__law_rest)
  k__law_rest : Binds K d__law_rest ["script", "place", "fills"] []
  f__law_pool : Addr
  d__law_pool : FuncData
  F__law_pool : L2.Fun K "_law_pool" "_law_pool" s_law_pool f__law_pool d__law_pool
  g__law_pool : mg "_law_pool" = some (.ref f__law_pool)
  k__law_pool : Binds K d__law_pool ["script"] []
  f__law_next : Addr
  d__law_next : FuncData
  F__law_next : L2.Fun K "_law_next" "_law_next" s_law_next f__law_next d__law_next
  g__law_next : mg "_law_next" = some (.ref f__law_next)
  k__law_next : Binds K d__law_next ["pool"] []
  f__law_draw : Addr
  d__law_draw : FuncData
  F__law_draw : L2.Fun K "_law_draw" "_law_draw" s_law_draw f__law_draw d__law_draw
  g__law_draw : mg "_law_draw" = some (.ref f__law_draw)
  k__law_draw : Binds K d__law_draw ["pool", "limit"] []
  f__law_pick : Addr
  d__law_pick : FuncData
  F__law_pick : L2.Fun K "_law_pick" "_law_pick" s_law_pick f__law_pick d__law_pick
  g__law_pick : mg "_law_pick" = some (.ref f__law_pick)
  k__law_pick : Binds K d__law_pick ["pool", "options"] []
  f__law_same : Addr
  d__law_same : FuncData
  F__law_same : L2.Fun K "_law_same" "_law_same" s_law_same f__law_same d__law_same
  g__law_same : mg "_law_same" = some (.ref f__law_same)
  k__law_same : Binds K d__law_same ["one", "other"] []
  f__law_chars : Addr
  d__law_chars : FuncData
  F__law_chars : L2.Fun K "_law_chars" "_law_chars" s_law_chars f__law_chars d__law_chars
  g__law_chars : mg "_law_chars" = some (.ref f__law_chars)
  k__law_chars : Binds K d__law_chars ["pool", "count"] []
  f__law_digits : Addr
  d__law_digits : FuncData
  F__law_digits : L2.Fun K "_law_digits" "_law_digits" s_law_digits f__law_digits d__law_digits
  g__law_digits : mg "_law_digits" = some (.ref f__law_digits)
  k__law_digits : Binds K d__law_digits ["pool", "count"] []
  f__law_integer : Addr
  d__law_integer : FuncData
  F__law_integer : L2.Fun K "_law_integer" "_law_integer" s_law_integer f__law_integer d__law_integer
  g__law_integer : mg "_law_integer" = some (.ref f__law_integer)
  k__law_integer : Binds K d__law_integer ["pool", "over"] []
  f__law_value : Addr
  d__law_value : FuncData
  F__law_value : L2.Fun K "_law_value" "_law_value" s_law_value f__law_value d__law_value
  g__law_value : mg "_law_value" = some (.ref f__law_value)
  k__law_value : Binds K d__law_value ["pool", "room", "over", "left"] []
  f__law_text : Addr
  d__law_text : FuncData
  F__law_text : L2.Fun K "_law_text" "_law_text" s_law_text f__law_text d__law_text
  g__law_text : mg "_law_text" = some (.ref f__law_text)
  k__law_text : Binds K d__law_text ["value"] []
  f__law_places : Addr
  d__law_places : FuncData
  F__law_places : L2.Fun K "_law_places" "_law_places" s_law_places f__law_places d__law_places
  g__law_places : mg "_law_places" = some (.ref f__law_places)
  k__law_places : Binds K d__law_places [] []
  f__law_check : Addr
  d__law_check : FuncData
  F__law_check : L2.Fun K "_law_check" "_law_check" s_law_check f__law_check d__law_check
  g__law_check : mg "_law_check" = some (.ref f__law_check)
  k__law_check : Binds K d__law_check ["places", "row", "line"] []
  f__law_strings : Addr
  d__law_strings : FuncData
  F__law_strings : L2.Fun K "_law_strings" "_law_strings" s_law_strings f__law_strings d__law_strings
  g__law_strings : mg "_law_strings" = some (.ref f__law_strings)
  k__law_strings : Binds K d__law_strings ["value", "found"] []
  f__law_named : Addr
  d__law_named : FuncData
  F__law_named : L2.Fun K "_law_named" "_law_named" s_law_named f__law_named d__law_named
  g__law_named : mg "_law_named" = some (.ref f__law_named)
  k__law_named : Binds K d__law_named ["value", "names"] []
  f__law_bare : Addr
  d__law_bare : FuncData
  F__law_bare : L2.Fun K "_law_bare" "_law_bare" s_law_bare f__law_bare d__law_bare
  g__law_bare : mg "_law_bare" = some (.ref f__law_bare)
  k__law_bare : Binds K d__law_bare ["values", "form"] []
  f__law_file : Addr
  d__law_file : FuncData
  F__law_file : L2.Fun K "_law_file" "_law_file" s_law_file f__law_file d__law_file
  g__law_file : mg "_law_file" = some (.ref f__law_file)
  k__law_file : Binds K d__law_file ["places", "values", "form"] []
  f__law_again : Addr
  d__law_again : FuncData
  F__law_again : L2.Fun K "_law_again" "_law_again" s_law_again f__law_again d__law_again
  g__law_again : mg "_law_again" = some (.ref f__law_again)
  k__law_again : Binds K d__law_again ["pool", "value", "values"] []
  f__law_depth : Addr
  d__law_depth : FuncData
  F__law_depth : L2.Fun K "_law_depth" "_law_depth" s_law_depth f__law_depth d__law_depth
  g__law_depth : mg "_law_depth" = some (.ref f__law_depth)
  k__law_depth : Binds K d__law_depth ["value"] []
  f__law_flat : Addr
  d__law_flat : FuncData
  F__law_flat : L2.Fun K "_law_flat" "_law_flat" s_law_flat f__law_flat d__law_flat
  g__law_flat : mg "_law_flat" = some (.ref f__law_flat)
  k__law_flat : Binds K d__law_flat ["value"] []
  f__law_values : Addr
  d__law_values : FuncData
  F__law_values : L2.Fun K "_law_values" "_law_values" s_law_values f__law_values d__law_values
  g__law_values : mg "_law_values" = some (.ref f__law_values)
  k__law_values : Binds K d__law_values ["pool"] []
  f_law : Addr
  d_law : FuncData
  F_law : L2.Fun K "law" "law" s_law f_law d_law
  g_law : mg "law" = some (.ref f_law)
  k_law : Binds K d_law ["script"] []
  C_Strings : Addr
  c_Strings : Cls K C_Strings
  g_Strings : mg "Strings" = some (.ref C_Strings)
  mk_Strings : Mk K C_Strings f_Strings___init__
  na_Strings_texts : NoAttr K C_Strings "texts"
  na_Strings_seen : NoAttr K C_Strings "seen"
  m_Strings___init__ : Meth K C_Strings "__init__" f_Strings___init__
  m_Strings_named : Meth K C_Strings "named" f_Strings_named
  b_bool : mg "bool" = none
  b_dict : mg "dict" = none
  b_enumerate : mg "enumerate" = none
  b_int : mg "int" = none
  b_isinstance : mg "isinstance" = none
  b_len : mg "len" = none
  b_list : mg "list" = none
  b_max : mg "max" = none
  b_min : mg "min" = none
  b_ord : mg "ord" = none
  b_range : mg "range" = none
  b_sorted : mg "sorted" = none
  b_str : mg "str" = none
  b_tuple : mg "tuple" = none
  t_ALPHABET : Tok
  g_ALPHABET : mg "ALPHABET" = some (.str (Str.ofString " !\"#$&'()*+,-./0123456789:;<=>?@ABCDEFGHIJKLMNOPQRSTUVWXYZ[\\]^_`abcdefghijklmnopqrstuvwxyz{|}~") t_ALPHABET)
  r_ALPHABET : RelV (.str (Zk.alph)) (.str (Str.ofString " !\"#$&'()*+,-./0123456789:;<=>?@ABCDEFGHIJKLMNOPQRSTUVWXYZ[\\]^_`abcdefghijklmnopqrstuvwxyz{|}~") t_ALPHABET)
  t_TEXT_MOST : Tok
  g_TEXT_MOST : mg "TEXT_MOST" = some (.int (20) t_TEXT_MOST)
  r_TEXT_MOST : RelV (.int (20)) (.int (20) t_TEXT_MOST)
  t_DIGITS : Tok
  g_DIGITS : mg "DIGITS" = some (.str (Str.ofString "0123456789") t_DIGITS)
  r_DIGITS : RelV (.str (Str.ofString "0123456789")) (.str (Str.ofString "0123456789") t_DIGITS)
  t_DIGITS_MOST : Tok
  g_DIGITS_MOST : mg "DIGITS_MOST" = some (.int (60) t_DIGITS_MOST)
  r_DIGITS_MOST : RelV (.int (60)) (.int (60) t_DIGITS_MOST)
  t_DEEPEST : Tok
  g_DEEPEST : mg "DEEPEST" = some (.int (16) t_DEEPEST)
  r_DEEPEST : RelV (.int (16)) (.int (16) t_DEEPEST)
  t_MODULUS : Tok
  g_MODULUS : mg "MODULUS" = some (.int (99991) t_MODULUS)
  r_MODULUS : RelV (.int (99991)) (.int (99991) t_MODULUS)
  t_VALUES_MOST : Tok
  g_VALUES_MOST : mg "VALUES_MOST" = some (.int (50000) t_VALUES_MOST)
  r_VALUES_MOST : RelV (.int (50000)) (.int (50000) t_VALUES_MOST)
  t_HEAD : Tok
  g_HEAD : mg "HEAD" = some (.str (Str.ofString "storelife ") t_HEAD)
  r_HEAD : RelV (.str (Str.ofString "storelife ")) (.str (Str.ofString "storelife ") t_HEAD)
def fs_Strings (v0 v1 : V) : List (Str × V) := [("texts", v0), ("seen", v1)]
theorem lk_Strings_texts {v0 v1 : V} : (fs_Strings v0 v1).lookup ("texts" : Str) = some v0 := lk_same
theorem pf_Strings_texts {v0 v1 y : V} : L2.putF "texts" y (fs_Strings v0 v1) = fs_Strings y v1 := by
  unfold fs_Strings
  rw [pf_same]
theorem lk_Strings_seen {v0 v1 : V} : (fs_Strings v0 v1).lookup ("seen" : Str) = some v1 := (lk_other (by decide +kernel)).trans (lk_same)
theorem pf_Strings_seen {v0 v1 y : V} : L2.putF "seen" y (fs_Strings v0 v1) = fs_Strings v0 y := by
  unfold fs_Strings
  rw [pf_other (by decide +kernel)]
  rw [pf_same]
theorem pi_Strings_texts { y : V} : L2.putF "texts" y ([] : List (Str × V)) = ([("texts", y)] : List (Str × V)) := by
  rfl
theorem pi_Strings_seen {v0 y : V} : L2.putF "seen" y ([("texts", v0)] : List (Str × V)) = ([("texts", v0), ("seen", y)] : List (Str × V)) := by
  rw [pf_other (by decide +kernel)]
  rfl
theorem no_Strings___init__ {v0 v1 : V} : (fs_Strings v0 v1).lookup ("__init__" : Str) = none := (lk_other (by decide +kernel)).trans ((lk_other (by decide +kernel)).trans (rfl))
theorem no_Strings_named {v0 v1 : V} : (fs_Strings v0 v1).lookup ("named" : Str) = none := (lk_other (by decide +kernel)).trans ((lk_other (by decide +kernel)).trans (rfl))
local macro_rules | `(tactic| walk_at "go1") => do let c := Lean.mkIdent `T.c_Strings; let n := Lean.mkIdent `T.na_Strings_texts; `(tactic| ((refine ⟨_, _, ?fx, fs_Strings ?f0 ?f1, _, rfl, ?zh, $c, $n, lk_Strings_texts, ?_⟩); (case zh => walk_at "hold")))
local macro_rules | `(tactic| walk_at "go1") => do let c := Lean.mkIdent `T.c_Strings; let n := Lean.mkIdent `T.na_Strings_seen; `(tactic| ((refine ⟨_, _, ?fx, fs_Strings ?f0 ?f1, _, rfl, ?zh, $c, $n, lk_Strings_seen, ?_⟩); (case zh => walk_at "hold")))
local macro_rules | `(tactic| walk_at "go1") => `(tactic| first | (with_reducible refine w_tfld ?_) | (with_reducible refine w_tsfld ?_) | (with_reducible refine w_tmeth ?_) | (with_reducible refine w_tmethT ?_) | (with_reducible refine w_tmake ?_) | (with_reducible refine w_slice ?_) | (with_reducible refine w_noPart ?_) | (with_reducible refine w_part ?_) | (with_reducible refine w_max2 ?_))
structure Errs (P : Program) (K : PySem.W.Frag) (mg : Str → Option Value) where
  C_StoreError : Addr
  g_StoreError : mg "StoreError" = some (.ref C_StoreError)
  C_BadText : Addr
  g_BadText : mg "BadText" = some (.ref C_BadText)
  C_BadFile : Addr
  g_BadFile : mg "BadFile" = some (.ref C_BadFile)
  C_Strings : Addr
  g_Strings : mg "Strings" = some (.ref C_Strings)
  q_BadText : PySem.W.excIn K C_BadText [.type "ValueError", .type "Exception", .type "BaseException", .type "object"] "ValueError.__new__" = true
  k_BadText : PySem.W.keepIn K (.ref C_BadText) = true
  s_BadText : PySem.W.subIn K (.ref C_BadText) (.type "BaseException") = some true
  y_BadText : PySem.W.typeIn K (.ref C_BadText) = some (.type "type")
def looseZ0 : List PySem.Str := ["StoreError", "BadText", "BadFile", "ALPHABET", "TEXT_MOST", "is_text", "DIGITS", "DIGITS_MOST", "DEEPEST", "Strings", "write_value", "written", "note_strings", "read_value", "read_named", "value_at", "digits_at", "integer_at", "string_at", "named_at", "tuple_at", "MODULUS", "VALUES_MOST", "HEAD", "check_of", "checked", "write_file", "bare_line", "is_count", "header_of"]
def looseZ1 : List PySem.Str := ["form_of", "read_line", "read_strings", "read_file", "reform", "_law_mixed", "_law_rest", "_law_pool", "_law_next", "_law_draw", "_law_pick", "_law_same", "_law_chars", "_law_digits", "_law_integer", "_law_value", "_law_text", "_law_places", "_law_check", "_law_strings", "_law_named", "_law_bare", "_law_file", "_law_again", "_law_depth", "_law_flat", "_law_values"]
def looseZ : List PySem.Str := looseZ0 ++ looseZ1
def fnsZ0 : List He.DefD := [⟨("is_text", none), "is_text", "is_text", defArgs s_is_text, defBody s_is_text, defScope s_is_text, [], []⟩, ⟨("Strings", some "__init__"), "__init__", "Strings.__init__", defArgs s_Strings___init__, defBody s_Strings___init__, defScope s_Strings___init__, [], []⟩, ⟨("Strings", some "named"), "named", "Strings.named", defArgs s_Strings_named, defBody s_Strings_named, defScope s_Strings_named, [], []⟩, ⟨("write_value", none), "write_value", "write_value", defArgs s_write_value, defBody s_write_value, defScope s_write_value, [], []⟩, ⟨("written", none), "written", "written", defArgs s_written, defBody s_written, defScope s_written, [], []⟩, ⟨("note_strings", none), "note_strings", "note_strings", defArgs s_note_strings, defBody s_note_strings, defScope s_note_strings, [], []⟩, ⟨("read_value", none), "read_value", "read_value", defArgs s_read_value, defBody s_read_value, defScope s_read_value, [], []⟩, ⟨("read_named", none), "read_named", "read_named", defArgs s_read_named, defBody s_read_named, defScope s_read_named, [], []⟩, ⟨("value_at", none), "value_at", "value_at", defArgs s_value_at, defBody s_value_at, defScope s_value_at, [], []⟩, ⟨("digits_at", none), "digits_at", "digits_at", defArgs s_digits_at, defBody s_digits_at, defScope s_digits_at, [], []⟩, ⟨("integer_at", none), "integer_at", "integer_at", defArgs s_integer_at, defBody s_integer_at, defScope s_integer_at, [], []⟩, ⟨("string_at", none), "string_at", "string_at", defArgs s_string_at, defBody s_string_at, defScope s_string_at, [], []⟩, ⟨("named_at", none), "named_at", "named_at", defArgs s_named_at, defBody s_named_at, defScope s_named_at, [], []⟩, ⟨("tuple_at", none), "tuple_at", "tuple_at", defArgs s_tuple_at, defBody s_tuple_at, defScope s_tuple_at, [], []⟩, ⟨("check_of", none), "check_of", "check_of", defArgs s_check_of, defBody s_check_of, defScope s_check_of, [], []⟩, ⟨("checked", none), "checked", "checked", defArgs s_checked, defBody s_checked, defScope s_checked, [], []⟩, ⟨("write_file", none), "write_file", "write_file", defArgs s_write_file, defBody s_write_file, defScope s_write_file, [], []⟩, ⟨("bare_line", none), "bare_line", "bare_line", defArgs s_bare_line, defBody s_bare_line, defScope s_bare_line, [], []⟩, ⟨("is_count", none), "is_count", "is_count", defArgs s_is_count, defBody s_is_count, defScope s_is_count, [], []⟩, ⟨("header_of", none), "header_of", "header_of", defArgs s_header_of, defBody s_header_of, defScope s_header_of, [], []⟩, ⟨("form_of", none), "form_of", "form_of", defArgs s_form_of, defBody s_form_of, defScope s_form_of, [], []⟩, ⟨("read_line", none), "read_line", "read_line", defArgs s_read_line, defBody s_read_line, defScope s_read_line, [], []⟩, ⟨("read_strings", none), "read_strings", "read_strings", defArgs s_read_strings, defBody s_read_strings, defScope s_read_strings, [], []⟩, ⟨("read_file", none), "read_file", "read_file", defArgs s_read_file, defBody s_read_file, defScope s_read_file, [], []⟩, ⟨("reform", none), "reform", "reform", defArgs s_reform, defBody s_reform, defScope s_reform, [], []⟩, ⟨("_law_mixed", none), "_law_mixed", "_law_mixed", defArgs s_law_mixed, defBody s_law_mixed, defScope s_law_mixed, [], []⟩, ⟨("_law_rest", none), "_law_rest", "_law_rest", defArgs s_law_rest, defBody s_law_rest, defScope s_law_rest, [], []⟩, ⟨("_law_pool", none), "_law_pool", "_law_pool", defArgs s_law_pool, defBody s_law_pool, defScope s_law_pool, [], []⟩, ⟨("_law_next", none), "_law_next", "_law_next", defArgs s_law_next, defBody s_law_next, defScope s_law_next, [], []⟩, ⟨("_law_draw", none), "_law_draw", "_law_draw", defArgs s_law_draw, defBody s_law_draw, defScope s_law_draw, [], []⟩]
def fnsZ1 : List He.DefD := [⟨("_law_pick", none), "_law_pick", "_law_pick", defArgs s_law_pick, defBody s_law_pick, defScope s_law_pick, [], []⟩, ⟨("_law_same", none), "_law_same", "_law_same", defArgs s_law_same, defBody s_law_same, defScope s_law_same, [], []⟩, ⟨("_law_chars", none), "_law_chars", "_law_chars", defArgs s_law_chars, defBody s_law_chars, defScope s_law_chars, [], []⟩, ⟨("_law_digits", none), "_law_digits", "_law_digits", defArgs s_law_digits, defBody s_law_digits, defScope s_law_digits, [], []⟩, ⟨("_law_integer", none), "_law_integer", "_law_integer", defArgs s_law_integer, defBody s_law_integer, defScope s_law_integer, [], []⟩, ⟨("_law_value", none), "_law_value", "_law_value", defArgs s_law_value, defBody s_law_value, defScope s_law_value, [], []⟩, ⟨("_law_text", none), "_law_text", "_law_text", defArgs s_law_text, defBody s_law_text, defScope s_law_text, [], []⟩, ⟨("_law_places", none), "_law_places", "_law_places", defArgs s_law_places, defBody s_law_places, defScope s_law_places, [], []⟩, ⟨("_law_check", none), "_law_check", "_law_check", defArgs s_law_check, defBody s_law_check, defScope s_law_check, [], []⟩, ⟨("_law_strings", none), "_law_strings", "_law_strings", defArgs s_law_strings, defBody s_law_strings, defScope s_law_strings, [], []⟩, ⟨("_law_named", none), "_law_named", "_law_named", defArgs s_law_named, defBody s_law_named, defScope s_law_named, [], []⟩, ⟨("_law_bare", none), "_law_bare", "_law_bare", defArgs s_law_bare, defBody s_law_bare, defScope s_law_bare, [], []⟩, ⟨("_law_file", none), "_law_file", "_law_file", defArgs s_law_file, defBody s_law_file, defScope s_law_file, [], []⟩, ⟨("_law_again", none), "_law_again", "_law_again", defArgs s_law_again, defBody s_law_again, defScope s_law_again, [], []⟩, ⟨("_law_depth", none), "_law_depth", "_law_depth", defArgs s_law_depth, defBody s_law_depth, defScope s_law_depth, [], []⟩, ⟨("_law_flat", none), "_law_flat", "_law_flat", defArgs s_law_flat, defBody s_law_flat, defScope s_law_flat, [], []⟩, ⟨("_law_values", none), "_law_values", "_law_values", defArgs s_law_values, defBody s_law_values, defScope s_law_values, [], []⟩, ⟨("law", none), "law", "law", defArgs s_law, defBody s_law, defScope s_law, [], []⟩]
def fnsZ : List He.DefD := fnsZ0 ++ fnsZ1
def fasZ0 : List He.Fa := [.glo "is_text", .glo "write_value", .glo "written", .glo "note_strings", .glo "read_value", .glo "read_named", .glo "value_at", .glo "digits_at", .glo "integer_at", .glo "string_at", .glo "named_at", .glo "tuple_at", .glo "check_of", .glo "checked", .glo "write_file", .glo "bare_line", .glo "is_count", .glo "header_of", .glo "form_of", .glo "read_line", .glo "read_strings", .glo "read_file", .glo "reform", .glo "_law_mixed", .glo "_law_rest", .glo "_law_pool", .glo "_law_next", .glo "_law_draw", .glo "_law_pick", .glo "_law_same"]
def fasZ1 : List He.Fa := [.glo "_law_chars", .glo "_law_digits", .glo "_law_integer", .glo "_law_value", .glo "_law_text", .glo "_law_places", .glo "_law_check", .glo "_law_strings", .glo "_law_named", .glo "_law_bare", .glo "_law_file", .glo "_law_again", .glo "_law_depth", .glo "_law_flat", .glo "_law_values", .glo "law", .cls "Strings", .glo "Strings", .mkr "Strings", .noat "Strings" "texts", .noat "Strings" "seen", .meth "Strings" "__init__", .meth "Strings" "named", .free "bool", .free "dict", .free "enumerate", .free "int", .free "isinstance", .free "len", .free "list"]
def fasZ2 : List He.Fa := [.free "max", .free "min", .free "ord", .free "range", .free "sorted", .free "str", .free "tuple", .str "ALPHABET" (Str.ofString " !\"#$&'()*+,-./0123456789:;<=>?@ABCDEFGHIJKLMNOPQRSTUVWXYZ[\\]^_`abcdefghijklmnopqrstuvwxyz{|}~"), .int "TEXT_MOST" (20), .str "DIGITS" (Str.ofString "0123456789"), .int "DIGITS_MOST" (60), .int "DEEPEST" (16), .int "MODULUS" (99991), .int "VALUES_MOST" (50000), .str "HEAD" (Str.ofString "storelife "), .glo "StoreError", .glo "BadText", .glo "BadFile", .exc "BadText"]
def fasZ : List He.Fa := fasZ0 ++ fasZ1 ++ fasZ2
def exsZ : List ZH.ExD := []
def xtrZ : ZH.Xtr := []
abbrev fileZ : Str := PySem.Challenge.pw_storelife_k01_files_of_three_forms.main.file
abbrev hkZ : PySem.W.Hook := ZH.hookZ 2000 fasZ fnsZ exsZ xtrZ fileZ
def obZ (s : PySem.W.SharedT) : ZH.AlZ := ZH.obsZG 2000 fasZ fnsZ exsZ xtrZ fileZ (HandSHeadRun.getT s)
theorem ob_eqZ (s : PySem.W.SharedT) : obZ s = hkZ.obs s.abs := ZH.obsZG_eq (HandSHeadRun.getT_eq s)
set_option maxHeartbeats 0 in
theorem runZ (w : World) : HandSHeadRun.RunEq (PySem.W.OpenLaw.row PySem.Challenge.rw_storelife_k01_files_of_three_forms) (PySem.W.view (PySem.W.OpenLaw.row PySem.Challenge.rw_storelife_k01_files_of_three_forms).prog [62]) hkZ obZ 20000 looseZ w := by
  intro os
  kernel_rfl
section
variable {P : Program} {w : World} {K : PySem.W.Frag} {mg : Str → Option Value} {base : Heap}

/-! ### the drawn numbers -/
def sp_law_mixed (K : PySem.W.Frag) : Sp := sp2 fun a b H Q => ∃ n p, a = .int n ∧ b = .int p ∧ ∀ v : Int, 0 ≤ v → Q (.int v) H
theorem ok_law_mixed (T : Txt K mg) : FnOk P w K mg base CX0 1 T.f__law_mixed T.d__law_mixed ["number", "place"] (sp_law_mixed K) := by
  refine T.F__law_mixed.ok sc_law_mixed len2 (fun cdv A outer s H vs Q E hr h => ?_)
  have nd := sc_law_mixed.nd
  have hu := hu_of hr
  obtain ⟨_, _, rfl, n, p, rfl, rfl, k⟩ := h
  refine ⟨_,
      (pss_cons (ps_set (i := 2) nd rfl (Or.inl rfl) (pe_op op_mod (pe_callTy zc_int (by rfl) T.b_int (by decide +kernel) (pa_cons (pe_op op_add (pe_op op_add (pe_op op_mul (pv 0) pe_int) (pe_op op_mul (pv 1) pe_int)) pe_int) pa_nil)) pe_int)) 
      (pss_cons (ps_set (i := 3) nd rfl (Or.inl rfl) (pe_op op_mod (pe_callTy zc_int (by rfl) T.b_int (by decide +kernel) (pa_cons (pe_op op_add (pe_op op_add (pe_op op_mulW (pv 2) (pv 2)) (pe_op op_mul pe_int (pv 2))) (pv 1)) pa_nil)) pe_int)) 
      (pss_cons (ps_set (i := 4) nd rfl (Or.inl rfl) (pe_op op_mod (pe_callTy zc_int (by rfl) T.b_int (by decide +kernel) (pa_cons (pe_op op_add (pe_op op_mulW (pv 3) (pv 3)) (pv 2)) pa_nil)) pe_int)) 
      (pss_one (ps_ret (pe_op op_add (pe_op op_mulW (pv 3) pe_int) (pv 4))))))), ?_⟩
  change (_ : TS) _ [some _, some _, none, none, none] _
  try dsimp only [cxOf, Cx.nox, Cx.wish]
  walk_at "goa"
  refine k _ ?_
  omega
def sp_law_rest (K : PySem.W.Frag) : Sp := sp3 fun a b c H Q => ∃ (sc : Addr) (ns : List Int) (p f : Int), a = .ref sc ∧ b = .int p ∧ c = .int f ∧ Scr K H sc (ns.map V.int) ∧ ∀ v : Int, 0 ≤ v → Q (.int v) H
theorem ok_law_rest (T : Txt K mg) : FnOk P w K mg base CX0 2 T.f__law_rest T.d__law_rest ["script", "place", "fills"] (sp_law_rest K) := by
  refine T.F__law_rest.ok sc_law_rest len3 (fun cdv A outer s H vs Q E hr h => ?_)
  have nd := sc_law_rest.nd
  have hu := hu_of hr
  obtain ⟨_, _, _, rfl, sc, ns, p, f, rfl, rfl, rfl, hS, k⟩ := h
  refine ⟨_,
      (pss_cons (ps_set (i := 3) nd rfl (Or.inl rfl) pe_int) 
      (pss_cons (ps_if (pt_cmpR op_gt (pe_callB zc_len (by rfl) T.b_len (by decide +kernel) (pa_cons (pv 0) pa_nil)) pe_int (nomark _)) 
        (pss_one (ps_set (i := 3) nd rfl (Or.inl rfl) (pe_callTy zc_int (by rfl) T.b_int (by decide +kernel) (pa_cons (pe_ix ix_list (pv 0) (pe_op op_mod (pe_callTy zc_int (by rfl) T.b_int (by decide +kernel) (pa_cons (pv 1) pa_nil)) (pe_callB zc_len (by rfl) T.b_len (by decide +kernel) (pa_cons (pv 0) pa_nil))) (fun _ _ => rfl)) pa_nil)))) pss_nil) 
      (pss_cons (ps_if (pt_cmpR op_lt (pv 3) pe_int (nomark _)) 
        (pss_one (ps_set (i := 3) nd rfl (Or.inl rfl) (pe_op op_sub pe_int (pe_op op_mul pe_int (pv 3))))) pss_nil) 
      (pss_cons (ps_if (PW.pt (pw_and (pt_cmpR op_eq (pv 2) pe_int (nomark _)) (pw_and (pt_cmpR op_lt (pv 1) (pe_callB zc_len (by rfl) T.b_len (by decide +kernel) (pa_cons (pv 0) pa_nil)) (nomark _)) (pw_and1 (pt_cmpR op_ge (pv 3) (pe_op op_pow pe_int pe_int) (nomark _)))))) 
        (pss_one (ps_ret (pe_op op_sub (pv 3) (pe_op op_pow pe_int pe_int)))) pss_nil) 
      (pss_one (ps_ret (pe_call (ok_law_mixed T) (hr.mono (by decide)) (by rfl) T.g__law_mixed T.F__law_mixed.kp T.k__law_mixed .nil pass0 (pa_cons (pe_op op_add (pv 3) (pe_op op_mul (pv 2) pe_int)) (pa_cons (pv 1) pa_nil))))))))), ?_⟩
  change (_ : TS) _ [some _, some _, some _, none] _
  try dsimp only [cxOf, Cx.nox, Cx.wish]
  have hS2 := hS.sql
  walk_at "go"
  refine w_cut (fun σ' H' => H = H' ∧ ∃ n : Int, σ' = [some (V.ref sc), some (V.int p), some (V.int f), some (V.int n)]) ?_ fun nx hn => ?_
  · rintro _ _ ⟨rfl, n, rfl⟩
    walk_at "go"
    refine w_cut (fun σ' H' => H = H' ∧ ∃ n : Int, 0 ≤ n ∧ σ' = [some (V.ref sc), some (V.int p), some (V.int f), some (V.int n)]) ?_ fun nx hn => ?_
    · rintro _ _ ⟨rfl, n, n0, rfl⟩
      walk_at "go"
      refine w_cut (fun σ' H' => H = H' ∧ σ' = [some (V.ref sc), some (V.int p), some (V.int f), some (V.int n)]) ?_ fun nx hn => ?_
      · rintro _ _ ⟨rfl, rfl⟩
        walk_at "go"
        exact w_sp2 ⟨_, _, rfl, rfl, k⟩
      · walk_at "if"
        refine w_d (fun h => ?_) fun h => ?_ <;> walk_at "go"
        · refine w_d (fun h => ?_) fun h => ?_ <;> walk_at "go"
          · refine w_d (fun h => ?_) fun h => ?_ <;> walk_at "go"
            · exact k _ (by omega)
            · exact hn _ _ ⟨rfl, rfl⟩
          · exact hn _ _ ⟨rfl, rfl⟩
        · exact hn _ _ ⟨rfl, rfl⟩
    · walk_at "if"
      refine w_d (fun h => ?_) fun h => ?_ <;> walk_at "go"
      · exact hn _ _ ⟨rfl, _, by omega, rfl⟩
      · exact hn _ _ ⟨rfl, _, by omega, rfl⟩
  · walk_at "if"
    refine w_d (fun h => ?_) fun h => ?_
    · walk_at "goa"
      rename_i r r0 r1
      rw [List.length_map] at r1
      obtain ⟨z, _, hz⟩ := at_map (f := V.int) r0 r1
      refine w_ixL hS2 hz ?_
      walk_at "go"
      exact hn _ _ ⟨rfl, _, rfl⟩
    · walk_at "go"
      exact hn _ _ ⟨rfl, _, rfl⟩
/-- the pool: the script, a place, what is left of the number, how often it was filled -/
def PoolAt (K : PySem.W.Frag) (H : Hp) (p : Addr) : Prop := ∃ (sc : Addr) (ns : List Int) (pl re fi : Int), H p = some (.lst [.ref sc, .int pl, .int re, .int fi]) ∧ Scr K H sc (ns.map V.int) ∧ 0 ≤ re
theorem PoolAt.ext {M : List Addr} {H H' : Hp} {p : Addr} (e : Ext M H H') (h : PoolAt K H p) (n : p ∉ M) : PoolAt K H' p := by
  obtain ⟨sc, ns, pl, re, fi, h1, h2, h3⟩ := h
  exact ⟨sc, ns, pl, re, fi, e.keep _ _ h1 n, h2.ext e, h3⟩
theorem PoolAt.ne {H : Hp} {p q : Addr} (h : PoolAt K H p) (n : H q = none) : p ≠ q := by
  obtain ⟨sc, ns, pl, re, fi, h1, h2, h3⟩ := h
  exact ne_of_none h1 n
def sp_law_pool (K : PySem.W.Frag) : Sp := sp1 fun a H Q => ∃ (sc : Addr) (ns : List Int), a = .ref sc ∧ Scr K H sc (ns.map V.int) ∧ ∀ p H', Ext [] H H' → H p = none → PoolAt K H' p → Q (.ref p) H'
theorem ok_law_pool (T : Txt K mg) : FnOk P w K mg base CX0 3 T.f__law_pool T.d__law_pool ["script"] (sp_law_pool K) := by
  refine T.F__law_pool.ok sc_law_pool len1 (fun cdv A outer s H vs Q E hr h => ?_)
  have nd := sc_law_pool.nd
  have hu := hu_of hr
  obtain ⟨_, rfl, sc, ns, rfl, hS, k⟩ := h
  refine ⟨_,
      (pss_one (ps_ret (pe_lstZ (pa_cons (pv 0) (pa_cons pe_int (pa_cons (pe_call (ok_law_rest T) (hr.mono (by decide)) (by rfl) T.g__law_rest T.F__law_rest.kp T.k__law_rest .nil pass0 (pa_cons (pv 0) (pa_cons pe_int (pa_cons pe_int pa_nil)))) (pa_cons pe_int pa_nil))))))), ?_⟩
  change (_ : TS) _ [some _] _
  try dsimp only [cxOf, Cx.nox, Cx.wish]
  walk_at "go"
  refine w_sp3 ⟨_, _, _, _, rfl, rfl, rfl, hS, fun v v0 => ?_⟩
  walk_at "go"
  refine ⟨sz (by show 4 ≤ _; decide), w_alc fun p H1 e1 n1 h1 => ?_⟩
  exact k p H1 e1 n1 ⟨sc, ns, _, _, _, h1, hS.ext e1, v0⟩
def sp_law_draw (K : PySem.W.Frag) : Sp := sp2 fun a b H Q => ∃ (p : Addr) (l : Int), a = .ref p ∧ b = .int l ∧ PoolAt K H p ∧ 0 < l ∧ l < 2 ^ 200 ∧ ∀ v H', 0 ≤ v → v < l → Ext [p] H H' → PoolAt K H' p → Q (.int v) H'
theorem ok_law_draw (T : Txt K mg) : FnOk P w K mg base CX0 3 T.f__law_draw T.d__law_draw ["pool", "limit"] (sp_law_draw K) := by
  refine T.F__law_draw.ok sc_law_draw len2 (fun cdv A outer s H vs Q E hr h => ?_)
  have nd := sc_law_draw.nd
  have hu := hu_of hr
  obtain ⟨_, _, rfl, p, l, rfl, rfl, hP, l0, l1, k⟩ := h
  refine ⟨_,
      (pss_cons (ps_if (pt_cmpR op_le (pe_ix ix_list (pv 0) pe_int (fun _ _ => rfl)) pe_int (nomark _)) 
        (pss_cons (ps_asg (pe_op op_add (pe_ix ix_list (pv 0) pe_int (fun _ _ => rfl)) pe_int) (pg_sub (pv 0) pe_int zset_list)) 
        (pss_one (ps_asg (pe_call (ok_law_rest T) (hr.mono (by decide)) (by rfl) T.g__law_rest T.F__law_rest.kp T.k__law_rest .nil pass0 (pa_cons (pe_ix ix_list (pv 0) pe_int (fun _ _ => rfl)) (pa_cons (pe_ix ix_list (pv 0) pe_int (fun _ _ => rfl)) (pa_cons (pe_ix ix_list (pv 0) pe_int (fun _ _ => rfl)) pa_nil)))) (pg_sub (pv 0) pe_int zset_list)))) pss_nil) 
      (pss_cons (ps_set (i := 2) nd rfl (Or.inl rfl) (pe_op op_mod (pe_callTy zc_int (by rfl) T.b_int (by decide +kernel) (pa_cons (pe_ix ix_list (pv 0) pe_int (fun _ _ => rfl)) pa_nil)) (pv 1))) 
      (pss_cons (ps_asg (pe_op op_fdivW (pe_callTy zc_int (by rfl) T.b_int (by decide +kernel) (pa_cons (pe_ix ix_list (pv 0) pe_int (fun _ _ => rfl)) pa_nil)) (pv 1)) (pg_sub (pv 0) pe_int zset_list)) 
      (pss_one (ps_ret (pv 2)))))), ?_⟩
  change (_ : TS) _ [some _, some _, none] _
  try dsimp only [cxOf, Cx.nox, Cx.wish]
  walk_at "go"
  refine w_cut (fun σ' H' => Ext [p] H H' ∧ PoolAt K H' p ∧ σ' = [some (V.ref p), some (V.int l), none]) ?_ fun nx hn => ?_
  · rintro _ H1 ⟨e1, ⟨sc, ns, pl, re, fi, h1, h2, h3⟩, rfl⟩
    walk_at "goa"
    rename_i r r0 r1
    refine w_I (wide_div (b := 200) l0 (by omega) (by decide) (by decide)) ?_
    walk_at "go"
    refine w_chg h1 (fun z => z) fun H2 e2 h4 => ?_
    walk_at "go"
    exact k r H2 r0 r1 (e1.trans e2) ⟨sc, ns, _, _, _, h4, h2.ext e2, Int.ediv_nonneg h3 (by omega)⟩
  · obtain ⟨sc, ns, pl, re, fi, h1, h2, h3⟩ := id hP
    walk_at "if"
    refine w_d (fun h => ?_) fun h => ?_ <;> walk_at "go"
    · refine w_chg h1 (fun z => z) fun H2 e2 h4 => ?_
      change H2 p = some (.lst [.ref sc, .int pl, .int re, .int (fi + 1)]) at h4
      walk_at "go"
      refine w_sp3 ⟨_, _, _, _, rfl, rfl, rfl, h2.ext e2, fun v v0 => ?_⟩
      walk_at "go"
      refine w_chg h4 (fun z => z) fun H3 e3 h5 => ?_
      exact hn _ _ ⟨e2.trans e3, ⟨sc, ns, _, _, _, h5, (h2.ext e2).ext e3, v0⟩, rfl⟩
    · exact hn _ _ ⟨Ext.refl, hP, rfl⟩
theorem w_draw {H : Hp} {p : Addr} {l : Int} {Q : VK} {E : XK} (hP : PoolAt K H p) (l0 : 0 < l) (l1 : l < 2 ^ 200) (k : ∀ v H', 0 ≤ v → v < l → Ext [p] H H' → PoolAt K H' p → Q (.int v) H') :
    sp_law_draw K ([.ref p, .int l] ++ []) H Q E := ⟨_, _, rfl, p, l, rfl, rfl, hP, l0, l1, k⟩

open SX PySem.NumText
/-! ### writing values, strings spelt or by their indexes -/
theorem small_int {i : Int} (h : small (.int i) = true) : i.natAbs.log2 < 1920 := log_lt (by simpa [small] using h)
theorem o_i : Str.ofString "i" = S [105] := by decide +kernel
theorem o_sem : Str.ofString ";" = S [59] := by decide +kernel
theorem o_t : Str.ofString "t" = S [116] := by decide +kernel
theorem o_s : Str.ofString "s" = S [115] := by decide +kernel
theorem o_col : Str.ofString ":" = S [58] := by decide +kernel
theorem o_op : Str.ofString "(" = S [40] := by decide +kernel
theorem o_cl : Str.ofString ")" = S [41] := by decide +kernel
theorem o_e : Str.ofString "" = S [] := by decide +kernel
theorem o_min : Str.ofString "-" = S [45] := by decide +kernel
theorem o_y : Str.ofString "y" = S [121] := by decide +kernel
theorem o_n : Str.ofString "n" = S [110] := by decide +kernel
theorem o_0 : Str.ofString "0" = S [48] := by decide +kernel
theorem take_one {α : Type} {xs : List α} {i : Nat} {v : α} (h : xs[i]? = some v) : xs.take (i + 1) = xs.take i ++ [v] := by
  rw [List.take_add_one, h]; rfl
theorem tyT {H : Hp} {a : Addr} {xs : List V} (h : SqT K H a xs) : TyX K H (.ref a) (.type "tuple") := by
  rcases h with (h | ⟨o, h⟩) | ⟨o, its, n, h1, h2, _⟩
  · exact .base (.tup h)
  · exact .fTuple h
  · exact .kTuple h1 h2
/-- the argument that tells the mode: none, or a dict of indexes -/
def PlAt (H : Hp) (b : V) : Option (List Str) → Prop
  | none => b = .non
  | some N => ∃ q, b = .ref q ∧ H q = some (.dK (ixf 0 N)) ∧ N.length < 10 ^ 6
theorem PlAt.ext {H H' : Hp} {b : V} : ∀ {M : Option (List Str)}, PlAt H b M → Ext [] H H' → PlAt H' b M
  | none, h, _ => h
  | some N, ⟨q, h1, h2, h3⟩, e => ⟨q, h1, e.keep _ _ h2 List.not_mem_nil, h3⟩
def sp_wr (n : Nat) (K : PySem.W.Frag) : Sp := sp2 fun a b H Q => ∃ M d, PlAt H b M ∧ Jw K H a d ∧ d.depth < n ∧ fit d ∧ (∀ N, M = some N → nt N d = N) ∧ (wm M d).length ≤ 500000 ∧ ∀ H', Ext [] H H' → Q (.str (S (wm M d))) H'
theorem ok_wr_no (T : Txt K mg) : FnOk P w K mg base CX0 0 T.f_written T.d_written ["value", "places"] (sp_wr 0 K) :=
  ⟨fun _ _ _ _ h => by obtain ⟨_, _, rfl, _⟩ := h; rfl, fun _ _ _ _ _ _ _ _ _ _ _ _ _ h => by obtain ⟨_, _, _, _, _, _, _, h, _⟩ := h; exact (Nat.not_lt_zero _ h).elim⟩
theorem isn_ref {q : Addr} : decide (V.ref q = V.non) = false := decide_eq_false fun z => by cases z
theorem step_written (T : Txt K mg)  (n l : Nat) (ih : FnOk P w K mg base CX0 l T.f_written T.d_written ["value", "places"] (sp_wr n K)) : FnOk P w K mg base CX0 (l+1) T.f_written T.d_written ["value", "places"] (sp_wr (n+1) K) := by
  refine T.F_written.ok sc_written len2 (fun cdv A outer s H vs Q E hr h => ?_)
  have nd := sc_written.nd
  have hu := hu_of hr
  obtain ⟨v, b, rfl, M, d, hb, hj, dp, ft, hn, ln, k⟩ := h
  refine ⟨_,
      (pss_cons (ps_if (pt_cmpR zop_isN (pv 0) pe_non (nomark _)) 
        (pss_one (ps_ret pe_str)) pss_nil) 
      (pss_cons (ps_if (pt_val (pe_callB call_isi (by rfl) T.b_isinstance (by decide +kernel) (pa_cons (pv 0) (pa_cons (pe_bltn (v := .ty "bool") (by rfl) T.b_bool (by decide +kernel) rfl) pa_nil)))) 
        (pss_one (ps_ret (pe_ifExp (pt_val (pv 0)) pe_str pe_str))) pss_nil) 
      (pss_cons (ps_if (pt_val (pe_callB call_isi (by rfl) T.b_isinstance (by decide +kernel) (pa_cons (pv 0) (pa_cons (pe_bltn (v := .ty "int") (by rfl) T.b_int (by decide +kernel) rfl) pa_nil)))) 
        (pss_one (ps_ret (pe_op zop_addS (pe_op zop_addS pe_str (pe_callTy zc_str (by rfl) T.b_str (by decide +kernel) (pa_cons (pv 0) pa_nil))) pe_str))) pss_nil) 
      (pss_cons (ps_if (pt_val (pe_callB call_isi (by rfl) T.b_isinstance (by decide +kernel) (pa_cons (pv 0) (pa_cons (pe_bltn (v := .ty "str") (by rfl) T.b_str (by decide +kernel) rfl) pa_nil)))) 
        (pss_cons (ps_if (pt_cmpR zop_isN (pv 1) pe_non (nomark _)) 
          (pss_one (ps_ret (pe_op zop_addS (pe_op zop_addS (pe_op zop_addS pe_str (pe_callTy zc_str (by rfl) T.b_str (by decide +kernel) (pa_cons (pe_callB zc_len (by rfl) T.b_len (by decide +kernel) (pa_cons (pv 0) pa_nil)) pa_nil))) pe_str) (pv 0)))) pss_nil) 
        (pss_one (ps_ret (pe_op zop_addS (pe_op zop_addS pe_str (pe_callTy zc_str (by rfl) T.b_str (by decide +kernel) (pa_cons (pe_dget hu (pv 1) (pv 0) (fun _ _ => rfl)) pa_nil))) pe_str)))) pss_nil) 
      (pss_one (ps_ret (pe_op zop_addS (pe_op zop_addS pe_str (zpe_join pe_str (pe_lc (own := [("member", 2)]) rfl nd (pi_tup (pv 0)) (blkOk_by (own := [("member", 2)]) (N := ["value", "places", "member"]) (sc := defScope s_written) (by decide +kernel)) (fun _ _ _ _ _ => (pg_name (i := 2) nd rfl (Or.inl rfl))) (fun _ _ _ _ _ => pts_nil) (fun _ _ _ _ _ => (pe_call ih (hr.mono (by omega)) (by rfl) T.g_written T.F_written.kp T.k_written .nil pass0 (pa_cons (pv 2) (pa_cons (pv 1) pa_nil))))))) pe_str))))))), ?_⟩
  change (_ : TS) _ [some _, some _, none] _
  try dsimp only [cxOf, Cx.nox, Cx.wish]
  cases hj with
  | non =>
    walk_at "go"; walk_at "if"
    refine w_t rfl ?_
    walk_at "go"
    exact k _ Ext.refl
  | bl c =>
    walk_at "go"; walk_at "if"
    refine w_f rfl ?_; walk_at "go"; walk_at "if"
    refine w_isi (k := true) (.ty _) (.base (.bl _)) (kit_ty (by decide +kernel)) ?_
    walk_at "go"
    cases c <;> (walk_at "ife"; walk_at "go")
    · exact k _ Ext.refl
    · exact k _ Ext.refl
  | int i =>
    walk_at "go"; walk_at "if"
    refine w_f rfl ?_; walk_at "go"; walk_at "if"
    refine w_isi (k := false) (.ty _) (.base (.int _)) (kit_ty (by decide +kernel)) ?_
    walk_at "go"; walk_at "if"
    refine w_isi (k := true) (.ty _) (.base (.int _)) (kit_ty (by decide +kernel)) ?_
    walk_at "go"
    have e : (wm M (.int i)).length = 1 + (intL i).length + 1 := by rw [wm, List.length_cons, List.length_append]; simp; omega
    refine w_strI (small_int (fit_small ft)) ?_
    walk_at "go"
    rw [o_i, o_sem]
    refine w_addS (sz (by rw [S_len, S_len]; simp only [List.length_singleton]; omega)) ?_
    walk_at "go"
    rw [S_cat]
    refine w_addS (sz (by rw [S_len, S_len, List.length_append]; simp only [List.length_singleton]; omega)) ?_
    rw [S_cat]
    exact k _ Ext.refl
  | str x =>
    walk_at "go"; walk_at "if"
    refine w_f rfl ?_; walk_at "go"; walk_at "if"
    refine w_isi (k := false) (.ty _) (.base (.str _)) (kit_ty (by decide +kernel)) ?_
    walk_at "go"; walk_at "if"
    refine w_isi (k := false) (.ty _) (.base (.str _)) (kit_ty (by decide +kernel)) ?_
    walk_at "go"; walk_at "if"
    refine w_isi (k := true) (.ty _) (.base (.str _)) (kit_ty (by decide +kernel)) ?_
    walk_at "go"; walk_at "if"
    rw [fit] at ft
    cases M with
    | none =>
      obtain rfl : b = .non := hb
      refine w_t rfl ?_
      walk_at "go"
      refine w_lenS (sz (by omega)) ?_
      walk_at "go"
      have ll := nat_len (n := x.length) (k := 2) (by decide) (by omega)
      refine w_strI (log_lt (by rw [Int.natAbs_natCast]; exact Nat.lt_of_le_of_lt ft.1 (by decide))) ?_
      walk_at "go"
      rw [o_t, o_col]
      refine w_addS (sz (by rw [S_len, S_len]; simp only [List.length_singleton]; omega)) ?_
      walk_at "go"
      rw [S_cat]
      refine w_addS (sz (by simp only [S_len, List.length_append, List.length_singleton]; omega)) ?_
      walk_at "go"
      rw [S_cat]
      refine w_addS (sz (by have hl : (wm none (.str x)).length = 1 + ((intL (x.length : Int)).length + (1 + x.length)) := (by rw [wm]; simp only [List.length_cons, List.length_append, len_tl]; omega); simp only [S_len, List.length_append, List.length_singleton]; omega)) ?_
      have k' := k _ Ext.refl
      rw [wm] at k'
      refine cast (congrArg (fun z => Q (.str z) H) ?_) k'
      rw [← S_tl x, S_cat, S_tl]
      simp
    | some N =>
      obtain ⟨q, rfl, hq, nl⟩ := hb
      refine w_f isn_ref ?_
      walk_at "go"
      have hm : x ∈ N := by
        have := hn N rfl
        rw [nt] at this
        by_cases m : x ∈ N
        · exact m
        · rw [if_neg m] at this
          have := congrArg List.length this
          simp at this
      refine w_dgetS hq (ixf_val 0 N hm) ?_
      have li := List.idxOf_lt_length_of_mem hm
      rw [Nat.zero_add]
      walk_at "go"
      have ll := nat_len (n := N.idxOf x) (k := 6) (by decide) (by omega)
      refine w_strI (log_lt (by rw [Int.natAbs_natCast]; exact Nat.lt_trans (Nat.lt_trans li nl) (by decide))) ?_
      walk_at "go"
      rw [o_s, o_sem]
      refine w_addS (sz (by rw [S_len, S_len]; simp only [List.length_singleton]; omega)) ?_
      walk_at "go"
      rw [S_cat]
      refine w_addS (sz (by rw [S_len, S_len, List.length_append]; simp only [List.length_singleton]; omega)) ?_
      rw [S_cat]
      exact k _ Ext.refl
  | @tup p xs ds ha lz wa =>
    have ta := tyT ha
    have la := wa.len
    walk_at "go"; walk_at "if"
    refine w_f rfl ?_; walk_at "go"; walk_at "if"
    refine w_isi (k := false) (.ty _) ta (kit_ty (by decide +kernel)) ?_
    walk_at "go"; walk_at "if"
    refine w_isi (k := false) (.ty _) ta (kit_ty (by decide +kernel)) ?_
    walk_at "go"; walk_at "if"
    refine w_isi (k := false) (.ty _) ta (kit_ty (by decide +kernel)) ?_
    walk_at "go"
    refine ⟨_, rfl, ⟨xs, ha⟩, fun D nD => ?_⟩
    rw [d_tup] at dp
    rw [fit] at ft
    have e : (wm M (.tuple ds)).length = 1 + (wmAll M ds).length + 1 := by rw [wm, List.length_cons, List.length_append]; simp; omega
    refine z_lc_tup (xs := xs) (fun i acc H' => Ext [] H H' ∧ acc = ((ds.take i).map fun d => S (wm M d)).map V.str) nD (fun H' e => ⟨e.up, rfl⟩) (fun i acc H' _ h => SqT.ext h.1 ha) ?_ ?_
    · rintro Nx i x acc H1 hx ⟨e1, rfl⟩ hD hN
      walk_at "go"
      refine ⟨rfl, ?_⟩
      obtain ⟨d, hd, hjx⟩ := wa.one hx
      have hm := List.mem_of_getElem? hd
      have hdm := dAll_mem hm
      have := wmAll_mem (M := M) hm
      walk_at "go"
      refine w_sp2 ⟨M, d, hb.ext e1, hjx.ext e1, by omega, fit_mem ft.2 hm, fun N z => nt_mem (by have := hn N z; rwa [nt] at this) d hm, by omega, fun H2 e2 => ?_⟩
      have li := (List.getElem?_eq_some_iff.mp hx).1
      refine w_app (e2.keep _ _ hD List.not_mem_nil) (szl (by rw [List.length_map, List.length_map, List.length_take]; omega)) fun H3 e3 hD3 => ?_
      refine hN _ _ ⟨(e1.trans e2).dropq e3 nD, ?_⟩ hD3
      rw [take_one hd, List.map_append, List.map_append]
      rfl
    · rintro acc H1 ⟨e1, rfl⟩ hD
      rw [List.take_of_length_le (by omega)] at hD
      refine w_join (ys := ds.map fun d => S (wm M d)) (sql hD) (by rw [wmAll_sum, show (Str.ofString "").length = 0 from by decide]; omega) ?_
      rw [wm_join]
      walk_at "go"
      rw [o_op, o_cl]
      refine w_addS (sz (by rw [S_len, S_len]; simp only [List.length_singleton]; omega)) ?_
      walk_at "go"
      rw [S_cat]
      refine w_addS (sz (by rw [S_len, S_len, List.length_append]; simp only [List.length_singleton]; omega)) ?_
      rw [S_cat]
      have k' := k _ e1
      rw [wm] at k'
      exact k'
theorem ok_wr_all (T : Txt K mg) : ∀ n, FnOk P w K mg base CX0 n T.f_written T.d_written ["value", "places"] (sp_wr n K)
  | 0 => ok_wr_no T
  | n + 1 => step_written T n n (ok_wr_all T n)
def sp_written (K : PySem.W.Frag) : Sp := sp_wr 19 K
theorem ok_written (T : Txt K mg) : FnOk P w K mg base CX0 19 T.f_written T.d_written ["value", "places"] (sp_written K) := ok_wr_all T 19
theorem w_written {H : Hp} {v b : V} {M : Option (List Str)} {d : PyData} {Q : VK} {E : XK} (hb : PlAt H b M) (h : Jw K H v d) (dp : d.depth < 19) (ft : fit d) (hn : ∀ N, M = some N → nt N d = N) (ln : (wm M d).length ≤ 500000) (k : ∀ H', Ext [] H H' → Q (.str (S (wm M d))) H') : sp_written K ([v, b] ++ []) H Q E := ⟨_, _, rfl, M, d, hb, h, dp, ft, hn, ln, k⟩
def sp_write_value (K : PySem.W.Frag) : Sp := sp1 fun a H Q => ∃ d, Jw K H a d ∧ d.depth < 19 ∧ fit d ∧ (wm none d).length ≤ 500000 ∧ ∀ H', Ext [] H H' → Q (.str (S (wm none d))) H'
theorem ok_write_value (T : Txt K mg) : FnOk P w K mg base CX0 20 T.f_write_value T.d_write_value ["value"] (sp_write_value K) := by
  refine T.F_write_value.ok sc_write_value len1 (fun cdv A outer s H vs Q E hr h => ?_)
  have nd := sc_write_value.nd
  have hu := hu_of hr
  obtain ⟨v, rfl, d, hj, dp, sm, ln, k⟩ := h
  refine ⟨_,
      (pss_one (ps_ret (pe_call (ok_written T) (hr.mono (by decide)) (by rfl) T.g_written T.F_written.kp T.k_written .nil pass0 (pa_cons (pv 0) (pa_cons pe_non pa_nil))))), ?_⟩
  change (_ : TS) _ [some _] _
  try dsimp only [cxOf, Cx.nox, Cx.wish]
  walk_at "go"
  exact w_written (M := none) rfl hj dp sm (fun _ z => nomatch z) ln k
theorem w_write {H : Hp} {v : V} {d : PyData} {Q : VK} {E : XK} (h : Jw K H v d) (dp : d.depth < 19) (ft : fit d) (ln : (wm none d).length ≤ 500000) (k : ∀ H', Ext [] H H' → Q (.str (S (wm none d))) H') : sp_write_value K ([v] ++ []) H Q E := ⟨_, rfl, d, h, dp, ft, ln, k⟩

/-! ### _law_same of data that are the same -/
/-- the same data, or lists of the same data -/
def SmL (K : PySem.W.Frag) (H : Hp) (n : Nat) (a b : V) : Prop := (∃ d, d.depth < n ∧ Jw K H a d ∧ Jw K H b d) ∨
  ∃ (p q : Addr) (xs ys : List V) (ds : List PyData), a = .ref p ∧ b = .ref q ∧ H p = some (.lst xs) ∧ H q = some (.lst ys) ∧ JwAll K H xs ds ∧ JwAll K H ys ds ∧ (∀ d ∈ ds, d.depth + 1 < n) ∧ ds.length ≤ 1000000 ∧ 0 < n
def sp_same (n : Nat) (K : PySem.W.Frag) : Sp := sp2 fun a b H Q => SmL K H n a b ∧ ∀ H', Ext [] H H' → Q (.bl true) H'
theorem ok_same_no (T : Txt K mg) : FnOk P w K mg base CX0 0 T.f__law_same T.d__law_same ["one", "other"] (sp_same 0 K) :=
  ⟨fun _ _ _ _ h => by obtain ⟨_, _, rfl, _⟩ := h; rfl, fun _ _ _ _ _ _ _ _ _ _ _ _ _ h => by obtain ⟨_, _, _, ⟨_, h, _⟩ | ⟨_, _, _, _, _, _, _, _, _, _, _, _, _, h⟩, _⟩ := h <;> exact (Nat.not_lt_zero _ h).elim⟩
theorem step_same (T : Txt K mg)  (n l : Nat) (ih : FnOk P w K mg base CX0 l T.f__law_same T.d__law_same ["one", "other"] (sp_same n K)) : FnOk P w K mg base CX0 (l+1) T.f__law_same T.d__law_same ["one", "other"] (sp_same (n+1) K) := by
  refine T.F__law_same.ok sc_law_same len2 (fun cdv A outer s H vs Q E hr h => ?_)
  have nd := sc_law_same.nd
  have hu := hu_of hr
  obtain ⟨a, b, rfl, sm, k⟩ := h
  refine ⟨_,
      (pss_cons (ps_if (pt_cmpR zop_isN (pv 0) pe_non (nomark _)) 
        (pss_one (ps_ret (pe_cmpR zop_isN (pv 1) pe_non (nomark _)))) pss_nil) 
      (pss_cons (ps_if (PW.pt (pw_or (pt_val (pe_callB call_isi (by rfl) T.b_isinstance (by decide +kernel) (pa_cons (pv 0) (pa_cons (pe_bltn (v := .ty "bool") (by rfl) T.b_bool (by decide +kernel) rfl) pa_nil)))) (pw_or1 (pt_val (pe_callB call_isi (by rfl) T.b_isinstance (by decide +kernel) (pa_cons (pv 1) (pa_cons (pe_bltn (v := .ty "bool") (by rfl) T.b_bool (by decide +kernel) rfl) pa_nil))))))) 
        (pss_one (ps_ret (pe_and (pe_callB call_isi (by rfl) T.b_isinstance (by decide +kernel) (pa_cons (pv 0) (pa_cons (pe_bltn (v := .ty "bool") (by rfl) T.b_bool (by decide +kernel) rfl) pa_nil))) (pe_and (pe_callB call_isi (by rfl) T.b_isinstance (by decide +kernel) (pa_cons (pv 1) (pa_cons (pe_bltn (v := .ty "bool") (by rfl) T.b_bool (by decide +kernel) rfl) pa_nil))) (pe_one (pe_cmpR op_eq (pv 0) (pv 1) (nomark _))))))) pss_nil) 
      (pss_cons (ps_if (pt_val (pe_callB call_isi (by rfl) T.b_isinstance (by decide +kernel) (pa_cons (pv 0) (pa_cons (pe_bltn (v := .ty "int") (by rfl) T.b_int (by decide +kernel) rfl) pa_nil)))) 
        (pss_one (ps_ret (pe_and (pe_callB call_isi (by rfl) T.b_isinstance (by decide +kernel) (pa_cons (pv 1) (pa_cons (pe_bltn (v := .ty "int") (by rfl) T.b_int (by decide +kernel) rfl) pa_nil))) (pe_one (pe_cmpR op_eq (pv 0) (pv 1) (nomark _)))))) pss_nil) 
      (pss_cons (ps_if (pt_val (pe_callB call_isi (by rfl) T.b_isinstance (by decide +kernel) (pa_cons (pv 0) (pa_cons (pe_bltn (v := .ty "str") (by rfl) T.b_str (by decide +kernel) rfl) pa_nil)))) 
        (pss_one (ps_ret (pe_and (pe_callB call_isi (by rfl) T.b_isinstance (by decide +kernel) (pa_cons (pv 1) (pa_cons (pe_bltn (v := .ty "str") (by rfl) T.b_str (by decide +kernel) rfl) pa_nil))) (pe_one (pe_cmpR op_eq (pv 0) (pv 1) (nomark _)))))) pss_nil) 
      (pss_cons (ps_if (pt_val (pe_callB call_isi (by rfl) T.b_isinstance (by decide +kernel) (pa_cons (pv 0) (pa_cons (pe_bltn (v := .ty "dict") (by rfl) T.b_dict (by decide +kernel) rfl) pa_nil)))) 
        (pss_cons (ps_if (PW.pt (pw_or (pt_not (pt_val (pe_callB call_isi (by rfl) T.b_isinstance (by decide +kernel) (pa_cons (pv 1) (pa_cons (pe_bltn (v := .ty "dict") (by rfl) T.b_dict (by decide +kernel) rfl) pa_nil))))) (pw_or1 (pt_cmpR op_ne (pe_callB zc_lenX (by rfl) T.b_len (by decide +kernel) (pa_cons (pv 0) pa_nil)) (pe_callB zc_lenX (by rfl) T.b_len (by decide +kernel) (pa_cons (pv 1) pa_nil)) (nomark _))))) 
          (pss_one (ps_ret pe_bl)) pss_nil) 
        (pss_cons (ps_lock (ps_for PassesOwn.never rfl (pi_keys (pv 0)) (pg_name (i := 2) nd rfl (Or.inl rfl)) 
          (pss_one (ps_if (PW.pt (pw_or (pt_cmp (pc_dnotin hu (pv 2) (pv 1))) (pw_or1 (pt_not (pt_val (pe_call ih (hr.mono (by omega)) (by rfl) T.g__law_same T.F__law_same.kp T.k__law_same .nil pass0 (pa_cons (pe_dget hu (pv 0) (pv 2) (fun _ _ => rfl)) (pa_cons (pe_dget hu (pv 1) (pv 2) (fun _ _ => rfl)) pa_nil)))))))) 
            (pss_one (ps_ret pe_bl)) pss_nil)))) 
        (pss_one (ps_ret (pe_call ih (hr.mono (by omega)) (by rfl) T.g__law_same T.F__law_same.kp T.k__law_same .nil pass0 (pa_cons (pe_callB (zc_sortD rfl) (by rfl) T.b_sorted (by decide +kernel) (pa_cons (pv 0) pa_nil)) (pa_cons (pe_callB (zc_sortD rfl) (by rfl) T.b_sorted (by decide +kernel) (pa_cons (pv 1) pa_nil)) pa_nil))))))) pss_nil) 
      (pss_cons (ps_if (PW.pt (pw_and (pt_val (pe_callB call_isi (by rfl) T.b_isinstance (by decide +kernel) (pa_cons (pv 0) (pa_cons (pe_bltn (v := .ty "tuple") (by rfl) T.b_tuple (by decide +kernel) rfl) pa_nil)))) (pw_and1 (pt_not (pt_val (pe_callB call_isi (by rfl) T.b_isinstance (by decide +kernel) (pa_cons (pv 1) (pa_cons (pe_bltn (v := .ty "tuple") (by rfl) T.b_tuple (by decide +kernel) rfl) pa_nil)))))))) 
        (pss_one (ps_ret pe_bl)) pss_nil) 
      (pss_cons (ps_if (PW.pt (pw_and (pt_val (pe_callB call_isi (by rfl) T.b_isinstance (by decide +kernel) (pa_cons (pv 0) (pa_cons (pe_bltn (v := .ty "list") (by rfl) T.b_list (by decide +kernel) rfl) pa_nil)))) (pw_and1 (pt_not (pt_val (pe_callB call_isi (by rfl) T.b_isinstance (by decide +kernel) (pa_cons (pv 1) (pa_cons (pe_bltn (v := .ty "list") (by rfl) T.b_list (by decide +kernel) rfl) pa_nil)))))))) 
        (pss_one (ps_ret pe_bl)) pss_nil) 
      (pss_cons (ps_if (pt_cmpR op_ne (pe_callB zc_lenX (by rfl) T.b_len (by decide +kernel) (pa_cons (pv 0) pa_nil)) (pe_callB zc_lenX (by rfl) T.b_len (by decide +kernel) (pa_cons (pv 1) pa_nil)) (nomark _)) 
        (pss_one (ps_ret pe_bl)) pss_nil) 
      (pss_cons (ps_for PassesOwn.never rfl (pi_range1 (by rfl) T.b_range (pa_cons (pe_callB zc_lenX (by rfl) T.b_len (by decide +kernel) (pa_cons (pv 0) pa_nil)) pa_nil)) (pg_name (i := 3) nd rfl (Or.inl rfl)) 
        (pss_one (ps_if (pt_not (pt_val (pe_call ih (hr.mono (by omega)) (by rfl) T.g__law_same T.F__law_same.kp T.k__law_same .nil pass0 (pa_cons (pe_ix ix_seq (pv 0) (pv 3) (fun _ _ => rfl)) (pa_cons (pe_ix ix_seq (pv 1) (pv 3) (fun _ _ => rfl)) pa_nil))))) 
          (pss_one (ps_ret pe_bl)) pss_nil))) 
      (pss_one (ps_ret pe_bl))))))))))), ?_⟩
  change (_ : TS) _ [some _, some _, none, none] _
  try dsimp only [cxOf, Cx.nox, Cx.wish]
  rcases sm with ⟨d, ld, i, j⟩ | ⟨p, q, xs, ys, ds, rfl, rfl, hp, hq, wa, wb, dn, dl, n0⟩
  · cases i with
  | non =>
    cases j
    walk_at "go"; walk_at "if"
    refine w_t rfl ?_
    walk_at "go"
    exact k _ Ext.refl
  | bl z =>
    cases j
    walk_at "go"; walk_at "if"
    refine w_f rfl ?_; walk_at "go"; walk_at "if"
    refine w_isi (k := true) (.ty _) (.base (.bl _)) (kit_ty (by decide +kernel)) ?_
    walk_at "go"
    refine w_isi (k := true) (.ty _) (.base (.bl _)) (kit_ty (by decide +kernel)) ?_
    refine w_bl ?_
    walk_at "go"
    refine w_isi (k := true) (.ty _) (.base (.bl _)) (kit_ty (by decide +kernel)) ?_
    refine w_bl ?_
    walk_at "go"
    refine w_eq rfl ?_
    rw [decide_eq_true rfl]
    exact k _ Ext.refl
  | int z =>
    cases j
    walk_at "go"; walk_at "if"
    refine w_f rfl ?_; walk_at "go"; walk_at "if"
    refine w_isi (k := false) (.ty _) (.base (.int _)) (kit_ty (by decide +kernel)) ?_
    walk_at "go"
    refine w_isi (k := false) (.ty _) (.base (.int _)) (kit_ty (by decide +kernel)) ?_
    walk_at "go"; walk_at "if"
    refine w_isi (k := true) (.ty _) (.base (.int _)) (kit_ty (by decide +kernel)) ?_
    walk_at "go"
    refine w_isi (k := true) (.ty _) (.base (.int _)) (kit_ty (by decide +kernel)) ?_
    refine w_bl ?_
    walk_at "go"
    rw [decide_eq_true rfl]
    exact k _ Ext.refl
  | str z =>
    cases j
    walk_at "go"; walk_at "if"
    refine w_f rfl ?_; walk_at "go"; walk_at "if"
    refine w_isi (k := false) (.ty _) (.base (.str _)) (kit_ty (by decide +kernel)) ?_
    walk_at "go"
    refine w_isi (k := false) (.ty _) (.base (.str _)) (kit_ty (by decide +kernel)) ?_
    walk_at "go"; walk_at "if"
    refine w_isi (k := false) (.ty _) (.base (.str _)) (kit_ty (by decide +kernel)) ?_
    walk_at "go"; walk_at "if"
    refine w_isi (k := true) (.ty _) (.base (.str _)) (kit_ty (by decide +kernel)) ?_
    walk_at "go"
    refine w_isi (k := true) (.ty _) (.base (.str _)) (kit_ty (by decide +kernel)) ?_
    refine w_bl ?_
    walk_at "go"
    rw [decide_eq_true rfl]
    exact k _ Ext.refl
  | @tup p xs ds ha lz wa =>
    cases j with
    | @tup q ys _ hb _ wb =>
      have la := wa.len
      have lb := wb.len
      have ta := tyT ha
      have tb := tyT hb
      walk_at "go"; walk_at "if"
      refine w_f rfl ?_; walk_at "go"; walk_at "if"
      refine w_isi (k := false) (.ty _) ta (kit_ty (by decide +kernel)) ?_
      walk_at "go"
      refine w_isi (k := false) (.ty _) tb (kit_ty (by decide +kernel)) ?_
      walk_at "go"; walk_at "if"
      refine w_isi (k := false) (.ty _) ta (kit_ty (by decide +kernel)) ?_
      walk_at "go"; walk_at "if"
      refine w_isi (k := false) (.ty _) ta (kit_ty (by decide +kernel)) ?_
      walk_at "go"; walk_at "if"
      refine w_isi (k := false) (.ty _) ta (kit_ty (by decide +kernel)) ?_
      walk_at "go"; walk_at "if"
      refine w_isi (k := true) (.ty _) ta (kit_ty (by decide +kernel)) ?_
      walk_at "go"
      refine w_isi (k := true) (.ty _) tb (kit_ty (by decide +kernel)) ?_
      walk_at "go"; walk_at "if"
      refine w_isi (k := false) (.ty _) ta (kit_ty (by decide +kernel)) ?_
      walk_at "go"; walk_at "if"
      refine w_lenX (.inr ha) ?_
      walk_at "go"
      refine w_lenX (.inr hb) ?_
      walk_at "go"
      refine w_f (by rw [la, lb]; simp) ?_
      walk_at "go"
      refine w_lenX (.inr ha) ?_
      refine w_nil ?_
      refine ⟨_, rfl, by omega, by omega, ?_⟩
      rw [Int.toNat_natCast]
      refine z_for_range (fun i σ' H' => Ext [] H H' ∧ ∃ v, σ' = [some (.ref p), some (.ref q), none, v]) ⟨Ext.refl, _, rfl⟩ ?_ ?_
      · rintro N i σ' H1 hi ⟨e1, v, rfl⟩ hN
        walk_at "go"; walk_at "if"
        obtain ⟨d, hd⟩ : ∃ d, ds[i]? = some d := ⟨_, List.getElem?_eq_getElem (by omega)⟩
        obtain ⟨x, hx, ix⟩ := wa.at hd
        obtain ⟨y, hy, iy⟩ := wb.at hd
        refine w_ixA (.inr (SqT.ext e1 ha)) (at_nat0 hx) ?_
        walk_at "go"
        refine w_ixA (.inr (SqT.ext e1 hb)) (at_nat0 hy) ?_
        walk_at "go"
        have dm := dAll_mem (List.mem_of_getElem? hd)
        rw [d_tup] at ld
        refine w_sp2 ⟨.inl ⟨d, by omega, ix.ext e1, iy.ext e1⟩, fun H2 e2 => ?_⟩
        walk_at "go"
        exact hN _ _ ⟨e1.trans e2, _, rfl⟩
      · rintro σ' H1 ⟨e1, v, rfl⟩
        walk_at "go"
        exact k _ e1
  · have la := wa.len
    have lb := wb.len
    have ta := TyX.base (K := K) (.lst hp)
    have tb := TyX.base (K := K) (.lst hq)
    walk_at "go"; walk_at "if"
    refine w_f rfl ?_; walk_at "go"; walk_at "if"
    refine w_isi (k := false) (.ty _) ta (kit_ty (by decide +kernel)) ?_
    walk_at "go"
    refine w_isi (k := false) (.ty _) tb (kit_ty (by decide +kernel)) ?_
    walk_at "go"; walk_at "if"
    refine w_isi (k := false) (.ty _) ta (kit_ty (by decide +kernel)) ?_
    walk_at "go"; walk_at "if"
    refine w_isi (k := false) (.ty _) ta (kit_ty (by decide +kernel)) ?_
    walk_at "go"; walk_at "if"
    refine w_isi (k := false) (.ty _) ta (kit_ty (by decide +kernel)) ?_
    walk_at "go"; walk_at "if"
    refine w_isi (k := false) (.ty _) ta (kit_ty (by decide +kernel)) ?_
    walk_at "go"; walk_at "if"
    refine w_isi (k := true) (.ty _) ta (kit_ty (by decide +kernel)) ?_
    walk_at "go"
    refine w_isi (k := true) (.ty _) tb (kit_ty (by decide +kernel)) ?_
    walk_at "go"; walk_at "if"
    refine w_lenX (.inl (sql hp)) ?_
    walk_at "go"
    refine w_lenX (.inl (sql hq)) ?_
    walk_at "go"
    refine w_f (by rw [la, lb]; simp) ?_
    walk_at "go"
    refine w_lenX (.inl (sql hp)) ?_
    refine w_nil ?_
    refine ⟨_, rfl, by omega, by omega, ?_⟩
    rw [Int.toNat_natCast]
    refine z_for_range (fun i σ' H' => Ext [] H H' ∧ ∃ v, σ' = [some (.ref p), some (.ref q), none, v]) ⟨Ext.refl, _, rfl⟩ ?_ ?_
    · rintro N i σ' H1 hi ⟨e1, v, rfl⟩ hN
      walk_at "go"; walk_at "if"
      obtain ⟨d, hd⟩ : ∃ d, ds[i]? = some d := ⟨_, List.getElem?_eq_getElem (by omega)⟩
      obtain ⟨x, hx, ix⟩ := wa.at hd
      obtain ⟨y, hy, iy⟩ := wb.at hd
      refine w_ixA (.inl (sql (e1.keep _ _ hp List.not_mem_nil))) (at_nat0 hx) ?_
      walk_at "go"
      refine w_ixA (.inl (sql (e1.keep _ _ hq List.not_mem_nil))) (at_nat0 hy) ?_
      walk_at "go"
      have dm := dn d (List.mem_of_getElem? hd)
      refine w_sp2 ⟨.inl ⟨d, by omega, ix.ext e1, iy.ext e1⟩, fun H2 e2 => ?_⟩
      walk_at "go"
      exact hN _ _ ⟨e1.trans e2, _, rfl⟩
    · rintro σ' H1 ⟨e1, v, rfl⟩
      walk_at "go"
      exact k _ e1
theorem ok_same_all (T : Txt K mg) : ∀ n, FnOk P w K mg base CX0 n T.f__law_same T.d__law_same ["one", "other"] (sp_same n K)
  | 0 => ok_same_no T
  | n + 1 => step_same T n n (ok_same_all T n)
def sp_law_same (K : PySem.W.Frag) : Sp := sp_same 20 K
theorem ok_law_same (T : Txt K mg) : FnOk P w K mg base CX0 20 T.f__law_same T.d__law_same ["one", "other"] (sp_law_same K) := ok_same_all T 20
theorem w_same {H : Hp} {d : PyData} {a b : V} {Q : VK} {E : XK} (l : d.depth < 20) (h : Jw K H a d) (i : Jw K H b d) (k : ∀ H', Ext [] H H' → Q (.bl true) H') : sp_law_same K ([a, b] ++ []) H Q E := ⟨_, _, rfl, .inl ⟨d, l, h, i⟩, k⟩
theorem w_sameL {H : Hp} {p q : Addr} {xs ys : List V} {ds : List PyData} {Q : VK} {E : XK} (hp : H p = some (.lst xs)) (hq : H q = some (.lst ys)) (wa : JwAll K H xs ds) (wb : JwAll K H ys ds) (dn : ∀ d ∈ ds, d.depth + 1 < 20) (dl : ds.length ≤ 1000000) (k : ∀ H', Ext [] H H' → Q (.bl true) H') :
    sp_law_same K ([.ref p, .ref q] ++ []) H Q E := ⟨_, _, rfl, .inr ⟨p, q, xs, ys, ds, rfl, rfl, hp, hq, wa, wb, dn, dl, by decide⟩, k⟩

open SX PySem.NumText
/-! ### the strings of a value in a dict, in a list -/
def sp_note (n : Nat) (K : PySem.W.Frag) : Sp := sp2 fun a b H Q => ∃ (q : Addr) (A : List Str) (d : PyData), b = .ref q ∧ H q = some (.dK (ixf 0 A)) ∧ Jw K H a d ∧ d.depth < n ∧ fit d ∧ (nt A d).length < 10 ^ 6 ∧ ∀ H', Ext [q] H H' → H' q = some (.dK (ixf 0 (nt A d))) → Q .non H'
theorem ok_note_no (T : Txt K mg) : FnOk P w K mg base CX0 0 T.f_note_strings T.d_note_strings ["value", "places"] (sp_note 0 K) :=
  ⟨fun _ _ _ _ h => by obtain ⟨_, _, rfl, _⟩ := h; rfl, fun _ _ _ _ _ _ _ _ _ _ _ _ _ h => by obtain ⟨_, _, _, _, _, _, _, _, _, h, _⟩ := h; exact (Nat.not_lt_zero _ h).elim⟩
theorem nt_take {A : List Str} {ds : List PyData} {i : Nat} {d : PyData} (h : ds[i]? = some d) : ntAll A (ds.take (i + 1)) = nt (ntAll A (ds.take i)) d := by
  rw [take_one h, ntAll_app, ntAll, ntAll]
theorem nt_part {A : List Str} {ds : List PyData} (i : Nat) : ntAll A (ds.take i) <+: ntAll A ds := by
  have := ntAll_app A (ds.take i) (ds.drop i)
  rw [List.take_append_drop] at this
  rw [this]
  exact ntAll_pre _ _
theorem step_note (T : Txt K mg)  (n l : Nat) (ih : FnOk P w K mg base CX0 l T.f_note_strings T.d_note_strings ["value", "places"] (sp_note n K)) : FnOk P w K mg base CX0 (l+1) T.f_note_strings T.d_note_strings ["value", "places"] (sp_note (n+1) K) := by
  refine T.F_note_strings.ok sc_note_strings len2 (fun cdv A outer s H vs Q E hr h => ?_)
  have nd := sc_note_strings.nd
  have hu := hu_of hr
  obtain ⟨v, b, rfl, q, A, d, rfl, hq, hj, dp, ft, nl, k⟩ := h
  refine ⟨_,
      (pss_one (ps_if (pt_val (pe_callB call_isi (by rfl) T.b_isinstance (by decide +kernel) (pa_cons (pv 0) (pa_cons (pe_bltn (v := .ty "str") (by rfl) T.b_str (by decide +kernel) rfl) pa_nil)))) 
        (pss_one (ps_expr (pe_dsetd (pv 1) (pv 0) (pe_callB zc_lenD (by rfl) T.b_len (by decide +kernel) (pa_cons (pv 1) pa_nil)) ⟨rfl, rfl, rfl, rfl⟩))) 
        (pss_one (ps_if (pt_val (pe_callB call_isi (by rfl) T.b_isinstance (by decide +kernel) (pa_cons (pv 0) (pa_cons (pe_bltn (v := .ty "tuple") (by rfl) T.b_tuple (by decide +kernel) rfl) pa_nil)))) 
          (pss_one (ps_for PassesOwn.never rfl (pi_tup (pv 0)) (pg_name (i := 2) nd rfl (Or.inl rfl)) 
            (pss_one (ps_expr (pe_call ih (hr.mono (by omega)) (by rfl) T.g_note_strings T.F_note_strings.kp T.k_note_strings .nil pass0 (pa_cons (pv 2) (pa_cons (pv 1) pa_nil))))))) pss_nil)))), ?_⟩
  change (_ : TS) _ [some _, some _, none] _
  try dsimp only [cxOf, Cx.nox, Cx.wish]
  have leaf : nt A d = A → Q .non H := fun z => k _ (Ext.up Ext.refl) (by rw [z]; exact hq)
  cases hj with
  | non =>
    walk_at "go"; walk_at "if"
    refine w_isi (k := false) (.ty _) (.base .non) (kit_ty (by decide +kernel)) ?_
    walk_at "go"; walk_at "if"
    refine w_isi (k := false) (.ty _) (.base .non) (kit_ty (by decide +kernel)) ?_
    walk_at "go"
    exact leaf rfl
  | bl c =>
    walk_at "go"; walk_at "if"
    refine w_isi (k := false) (.ty _) (.base (.bl _)) (kit_ty (by decide +kernel)) ?_
    walk_at "go"; walk_at "if"
    refine w_isi (k := false) (.ty _) (.base (.bl _)) (kit_ty (by decide +kernel)) ?_
    walk_at "go"
    exact leaf rfl
  | int i =>
    walk_at "go"; walk_at "if"
    refine w_isi (k := false) (.ty _) (.base (.int _)) (kit_ty (by decide +kernel)) ?_
    walk_at "go"; walk_at "if"
    refine w_isi (k := false) (.ty _) (.base (.int _)) (kit_ty (by decide +kernel)) ?_
    walk_at "go"
    exact leaf rfl
  | str x =>
    walk_at "go"; walk_at "if"
    refine w_isi (k := true) (.ty _) (.base (.str _)) (kit_ty (by decide +kernel)) ?_
    walk_at "go"
    refine w_dsetd ?_
    walk_at "go"
    refine ⟨q, rfl, .inl ⟨_, .inl hq⟩, ?_⟩
    walk_at "go"
    refine ⟨_, Sum.inr x, hq, rfl, szl (by rw [ixf_len]; have := (nt_pre (.str x) A).length_le; omega), fun v hv => ?_, fun hv => ?_⟩
    · rw [nt] at k nl
      by_cases m : x ∈ A
      · rw [if_pos m] at k
        exact k _ (Ext.up Ext.refl) hq
      · rw [ixf_no 0 A m] at hv; cases hv
    · by_cases m : x ∈ A
      · rw [ixf_val 0 A m] at hv; cases hv
      · rw [nt, if_neg m] at k
        refine k _ (Ext.mut hq (fun z => z) (by simp)) ?_
        rw [upd_same, ixf_len, ixf_put m]
  | @tup p xs ds ha lz wa =>
    have ta := tyT ha
    have la := wa.len
    walk_at "go"; walk_at "if"
    refine w_isi (k := false) (.ty _) ta (kit_ty (by decide +kernel)) ?_
    walk_at "go"; walk_at "if"
    refine w_isi (k := true) (.ty _) ta (kit_ty (by decide +kernel)) ?_
    walk_at "go"
    refine ⟨_, rfl, ⟨xs, ha⟩, ?_⟩
    rw [d_tup] at dp
    rw [fit] at ft
    rw [nt] at nl
    refine z_for_tup (xs := xs) (fun i σ' H' => Ext [q] H H' ∧ H' q = some (.dK (ixf 0 (ntAll A (ds.take i)))) ∧ ∃ u, σ' = [some (.ref p), some (.ref q), u]) ⟨Ext.up Ext.refl, by rw [List.take_zero, ntAll]; exact hq, none, rfl⟩ (fun i σ' H' _ h => SqT.ext h.1 ha) ?_ ?_
    · rintro N i x σ' H1 hx ⟨e1, h1, u, rfl⟩ hN
      walk_at "go"
      obtain ⟨d, hd, hjx⟩ := wa.one hx
      have hm := List.mem_of_getElem? hd
      have hdm := dAll_mem hm
      refine w_sp2 ⟨q, _, d, rfl, h1, hjx.ext e1, by omega, fit_mem ft.2 hm, ?_, fun H2 e2 h2 => ?_⟩
      · rw [← nt_take hd]
        exact Nat.lt_of_le_of_lt (nt_part _).length_le nl
      walk_at "go"
      exact hN _ _ ⟨e1.trans e2, by rw [nt_take hd]; exact h2, _, rfl⟩
    · rintro σ' H1 ⟨e1, h1, u, rfl⟩
      walk_at "go"
      rw [List.take_of_length_le (by omega)] at h1
      exact k _ e1 (by rw [nt]; exact h1)
theorem ok_note_all (T : Txt K mg) : ∀ n, FnOk P w K mg base CX0 n T.f_note_strings T.d_note_strings ["value", "places"] (sp_note n K)
  | 0 => ok_note_no T
  | n + 1 => step_note T n n (ok_note_all T n)
def sp_note_strings (K : PySem.W.Frag) : Sp := sp_note 19 K
theorem ok_note_strings (T : Txt K mg) : FnOk P w K mg base CX0 19 T.f_note_strings T.d_note_strings ["value", "places"] (sp_note_strings K) := ok_note_all T 19
theorem w_note {H : Hp} {v : V} {q : Addr} {A : List Str} {d : PyData} {Q : VK} {E : XK} (hq : H q = some (.dK (ixf 0 A))) (h : Jw K H v d) (dp : d.depth < 19) (ft : fit d) (nl : (nt A d).length < 10 ^ 6) (k : ∀ H', Ext [q] H H' → H' q = some (.dK (ixf 0 (nt A d))) → Q .non H') :
    sp_note_strings K ([v, .ref q] ++ []) H Q E := ⟨_, _, rfl, q, A, d, rfl, hq, h, dp, ft, nl, k⟩
def sp_lst (n : Nat) (K : PySem.W.Frag) : Sp := sp2 fun a b H Q => ∃ (q : Addr) (A : List Str) (d : PyData), b = .ref q ∧ H q = some (.lst (A.map V.str)) ∧ Jw K H a d ∧ d.depth < n ∧ fit d ∧ (nt A d).length < 10 ^ 6 ∧ ∀ H', Ext [q] H H' → H' q = some (.lst ((nt A d).map V.str)) → Q .non H'
theorem ok_lst_no (T : Txt K mg) : FnOk P w K mg base CX0 0 T.f__law_strings T.d__law_strings ["value", "found"] (sp_lst 0 K) :=
  ⟨fun _ _ _ _ h => by obtain ⟨_, _, rfl, _⟩ := h; rfl, fun _ _ _ _ _ _ _ _ _ _ _ _ _ h => by obtain ⟨_, _, _, _, _, _, _, _, _, h, _⟩ := h; exact (Nat.not_lt_zero _ h).elim⟩
theorem step_strings (T : Txt K mg)  (n l : Nat) (ih : FnOk P w K mg base CX0 l T.f__law_strings T.d__law_strings ["value", "found"] (sp_lst n K)) : FnOk P w K mg base CX0 (l+1) T.f__law_strings T.d__law_strings ["value", "found"] (sp_lst (n+1) K) := by
  refine T.F__law_strings.ok sc_law_strings len2 (fun cdv A outer s H vs Q E hr h => ?_)
  have nd := sc_law_strings.nd
  have hu := hu_of hr
  obtain ⟨v, b, rfl, q, A, d, rfl, hq, hj, dp, ft, nl, k⟩ := h
  refine ⟨_,
      (pss_cons (ps_if (PW.pt (pw_and (pt_val (pe_callB call_isi (by rfl) T.b_isinstance (by decide +kernel) (pa_cons (pv 0) (pa_cons (pe_bltn (v := .ty "str") (by rfl) T.b_str (by decide +kernel) rfl) pa_nil)))) (pw_and1 (pt_cmpR op_notIn_seq (pv 0) (pv 1) (by rfl))))) 
        (pss_one (ps_expr (pe_bm PySem.F.plainAttrs_list PySem.F.slot_list_append PySem.F.type_list_append zmt_append (pv 1) (pa_cons (pv 0) pa_nil)))) pss_nil) 
      (pss_one (ps_if (pt_val (pe_callB call_isi (by rfl) T.b_isinstance (by decide +kernel) (pa_cons (pv 0) (pa_cons (pe_bltn (v := .ty "tuple") (by rfl) T.b_tuple (by decide +kernel) rfl) pa_nil)))) 
        (pss_one (ps_for PassesOwn.never rfl (pi_tup (pv 0)) (pg_name (i := 2) nd rfl (Or.inl rfl)) 
          (pss_one (ps_expr (pe_call ih (hr.mono (by omega)) (by rfl) T.g__law_strings T.F__law_strings.kp T.k__law_strings .nil pass0 (pa_cons (pv 2) (pa_cons (pv 1) pa_nil))))))) pss_nil))), ?_⟩
  change (_ : TS) _ [some _, some _, none] _
  try dsimp only [cxOf, Cx.nox, Cx.wish]
  have leaf : nt A d = A → Q .non H := fun z => k _ (Ext.up Ext.refl) (by rw [z]; exact hq)
  cases hj with
  | non =>
    walk_at "go"; walk_at "if"
    refine w_isi (k := false) (.ty _) (.base .non) (kit_ty (by decide +kernel)) ?_
    walk_at "go"; walk_at "if"
    refine w_isi (k := false) (.ty _) (.base .non) (kit_ty (by decide +kernel)) ?_
    walk_at "go"
    exact leaf rfl
  | bl c =>
    walk_at "go"; walk_at "if"
    refine w_isi (k := false) (.ty _) (.base (.bl _)) (kit_ty (by decide +kernel)) ?_
    walk_at "go"; walk_at "if"
    refine w_isi (k := false) (.ty _) (.base (.bl _)) (kit_ty (by decide +kernel)) ?_
    walk_at "go"
    exact leaf rfl
  | int i =>
    walk_at "go"; walk_at "if"
    refine w_isi (k := false) (.ty _) (.base (.int _)) (kit_ty (by decide +kernel)) ?_
    walk_at "go"; walk_at "if"
    refine w_isi (k := false) (.ty _) (.base (.int _)) (kit_ty (by decide +kernel)) ?_
    walk_at "go"
    exact leaf rfl
  | str x =>
    walk_at "go"
    rw [nt] at k nl
    refine w_cut (fun σ' H' => Ext [q] H H' ∧ H' q = some (.lst ((if x ∈ A then A else A ++ [x]).map V.str)) ∧ σ' = [some (.str x), some (.ref q), none]) ?_ fun nx hN => ?_
    · rintro σ' H1 ⟨e1, h1, rfl⟩
      walk_at "go"; walk_at "if"
      refine w_isi (k := false) (.ty _) (.base (.str _)) (kit_ty (by decide +kernel)) ?_
      walk_at "go"
      exact k _ e1 h1
    · walk_at "if"
      refine w_isi (k := true) (.ty _) (.base (.str _)) (kit_ty (by decide +kernel)) ?_
      walk_at "go"
      refine w_ninS (.inl (sql hq)) ?_
      walk_at "go"
      by_cases m : x ∈ A
      · refine w_f (by rw [decide_eq_true m]; rfl) ?_
        walk_at "go"
        exact hN _ _ ⟨Ext.up Ext.refl, by rw [if_pos m]; exact hq, rfl⟩
      · refine w_t (by rw [decide_eq_false m]; rfl) ?_
        walk_at "go"
        rw [if_neg m] at nl
        rw [List.length_append] at nl
        refine w_append hq (szl (by rw [List.length_map]; simp at nl; omega)) (w_chg hq (fun z => z) fun H1 e1 h1 => ?_)
        exact hN _ _ ⟨e1, by rw [if_neg m, List.map_append]; exact h1, rfl⟩
  | @tup p xs ds ha lz wa =>
    have ta := tyT ha
    have la := wa.len
    walk_at "go"; walk_at "if"
    refine w_isi (k := false) (.ty _) ta (kit_ty (by decide +kernel)) ?_
    walk_at "go"; walk_at "if"
    refine w_isi (k := true) (.ty _) ta (kit_ty (by decide +kernel)) ?_
    walk_at "go"
    refine ⟨_, rfl, ⟨xs, ha⟩, ?_⟩
    rw [d_tup] at dp
    rw [fit] at ft
    rw [nt] at nl
    refine z_for_tup (xs := xs) (fun i σ' H' => Ext [q] H H' ∧ H' q = some (.lst ((ntAll A (ds.take i)).map V.str)) ∧ ∃ u, σ' = [some (.ref p), some (.ref q), u]) ⟨Ext.up Ext.refl, by rw [List.take_zero, ntAll]; exact hq, none, rfl⟩ (fun i σ' H' _ h => SqT.ext h.1 ha) ?_ ?_
    · rintro N i x σ' H1 hx ⟨e1, h1, u, rfl⟩ hN
      walk_at "go"
      obtain ⟨d, hd, hjx⟩ := wa.one hx
      have hm := List.mem_of_getElem? hd
      have hdm := dAll_mem hm
      refine w_sp2 ⟨q, _, d, rfl, h1, hjx.ext e1, by omega, fit_mem ft.2 hm, ?_, fun H2 e2 h2 => ?_⟩
      · rw [← nt_take hd]
        exact Nat.lt_of_le_of_lt (nt_part _).length_le nl
      walk_at "go"
      exact hN _ _ ⟨e1.trans e2, by rw [nt_take hd]; exact h2, _, rfl⟩
    · rintro σ' H1 ⟨e1, h1, u, rfl⟩
      walk_at "go"
      rw [List.take_of_length_le (by omega)] at h1
      exact k _ e1 (by rw [nt]; exact h1)
theorem ok_lst_all (T : Txt K mg) : ∀ n, FnOk P w K mg base CX0 n T.f__law_strings T.d__law_strings ["value", "found"] (sp_lst n K)
  | 0 => ok_lst_no T
  | n + 1 => step_strings T n n (ok_lst_all T n)
def sp_law_strings (K : PySem.W.Frag) : Sp := sp_lst 19 K
theorem ok_law_strings (T : Txt K mg) : FnOk P w K mg base CX0 19 T.f__law_strings T.d__law_strings ["value", "found"] (sp_law_strings K) := ok_lst_all T 19
theorem w_strings {H : Hp} {v : V} {q : Addr} {A : List Str} {d : PyData} {Q : VK} {E : XK} (hq : H q = some (.lst (A.map V.str))) (h : Jw K H v d) (dp : d.depth < 19) (ft : fit d) (nl : (nt A d).length < 10 ^ 6) (k : ∀ H', Ext [q] H H' → H' q = some (.lst ((nt A d).map V.str)) → Q .non H') :
    sp_law_strings K ([v, .ref q] ++ []) H Q E := ⟨_, _, rfl, q, A, d, rfl, hq, h, dp, ft, nl, k⟩

open SX PySem.NumText
/-! ### texts by the law -/
def sp_wt (n : Nat) (K : PySem.W.Frag) : Sp := sp1 fun a H Q => ∃ d, Jw K H a d ∧ d.depth < n ∧ fit d ∧ (wm none d).length ≤ 500000 ∧ ∀ H', Ext [] H H' → Q (.str (S (wm none d))) H'
theorem ok_wt_no (T : Txt K mg) : FnOk P w K mg base CX0 0 T.f__law_text T.d__law_text ["value"] (sp_wt 0 K) :=
  ⟨fun _ _ _ _ h => by obtain ⟨_, rfl, _⟩ := h; rfl, fun _ _ _ _ _ _ _ _ _ _ _ _ _ h => by obtain ⟨_, _, _, _, h, _⟩ := h; exact (Nat.not_lt_zero _ h).elim⟩
theorem step_text (T : Txt K mg)  (n l : Nat) (ih : FnOk P w K mg base CX0 l T.f__law_text T.d__law_text ["value"] (sp_wt n K)) : FnOk P w K mg base CX0 (l+1) T.f__law_text T.d__law_text ["value"] (sp_wt (n+1) K) := by
  refine T.F__law_text.ok sc_law_text len1 (fun cdv A outer s H vs Q E hr h => ?_)
  have nd := sc_law_text.nd
  have hu := hu_of hr
  obtain ⟨v, rfl, d, hj, dp, ft, ln, k⟩ := h
  refine ⟨_,
      (pss_cons (ps_if (pt_cmpR zop_isN (pv 0) pe_non (nomark _)) 
        (pss_one (ps_ret pe_str)) pss_nil) 
      (pss_cons (ps_if (pt_val (pe_callB call_isi (by rfl) T.b_isinstance (by decide +kernel) (pa_cons (pv 0) (pa_cons (pe_bltn (v := .ty "bool") (by rfl) T.b_bool (by decide +kernel) rfl) pa_nil)))) 
        (pss_one (ps_ret (pe_ifExp (pt_val (pv 0)) pe_str pe_str))) pss_nil) 
      (pss_cons (ps_if (pt_val (pe_callB call_isi (by rfl) T.b_isinstance (by decide +kernel) (pa_cons (pv 0) (pa_cons (pe_bltn (v := .ty "int") (by rfl) T.b_int (by decide +kernel) rfl) pa_nil)))) 
        (pss_one (ps_ret (pe_op zop_addS (pe_op zop_addS pe_str (pe_callTy zc_str (by rfl) T.b_str (by decide +kernel) (pa_cons (pv 0) pa_nil))) pe_str))) pss_nil) 
      (pss_cons (ps_if (pt_val (pe_callB call_isi (by rfl) T.b_isinstance (by decide +kernel) (pa_cons (pv 0) (pa_cons (pe_bltn (v := .ty "str") (by rfl) T.b_str (by decide +kernel) rfl) pa_nil)))) 
        (pss_one (ps_ret (pe_op zop_addS (pe_op zop_addS (pe_op zop_addS pe_str (pe_callTy zc_str (by rfl) T.b_str (by decide +kernel) (pa_cons (pe_callB zc_len (by rfl) T.b_len (by decide +kernel) (pa_cons (pv 0) pa_nil)) pa_nil))) pe_str) (pv 0)))) pss_nil) 
      (pss_one (ps_ret (pe_op zop_addS (pe_op zop_addS pe_str (zpe_join pe_str (pe_lc (own := [("member", 1)]) rfl nd (pi_tup (pv 0)) (blkOk_by (own := [("member", 1)]) (N := ["value", "member"]) (sc := defScope s_law_text) (by decide +kernel)) (fun _ _ _ _ _ => (pg_name (i := 1) nd rfl (Or.inl rfl))) (fun _ _ _ _ _ => pts_nil) (fun _ _ _ _ _ => (pe_call ih (hr.mono (by omega)) (by rfl) T.g__law_text T.F__law_text.kp T.k__law_text .nil pass0 (pa_cons (pv 1) pa_nil)))))) pe_str))))))), ?_⟩
  change (_ : TS) _ [some _, none] _
  try dsimp only [cxOf, Cx.nox, Cx.wish]
  cases hj with
  | non =>
    walk_at "go"; walk_at "if"
    refine w_t rfl ?_
    walk_at "go"
    exact k _ Ext.refl
  | bl c =>
    walk_at "go"; walk_at "if"
    refine w_f rfl ?_; walk_at "go"; walk_at "if"
    refine w_isi (k := true) (.ty _) (.base (.bl _)) (kit_ty (by decide +kernel)) ?_
    walk_at "go"
    cases c <;> (walk_at "ife"; walk_at "go")
    · exact k _ Ext.refl
    · exact k _ Ext.refl
  | int i =>
    walk_at "go"; walk_at "if"
    refine w_f rfl ?_; walk_at "go"; walk_at "if"
    refine w_isi (k := false) (.ty _) (.base (.int _)) (kit_ty (by decide +kernel)) ?_
    walk_at "go"; walk_at "if"
    refine w_isi (k := true) (.ty _) (.base (.int _)) (kit_ty (by decide +kernel)) ?_
    walk_at "go"
    have e : (wm none (.int i)).length = 1 + (intL i).length + 1 := by rw [wm, List.length_cons, List.length_append]; simp; omega
    refine w_strI (small_int (fit_small ft)) ?_
    walk_at "go"
    rw [o_i, o_sem]
    refine w_addS (sz (by rw [S_len, S_len]; simp only [List.length_singleton]; omega)) ?_
    walk_at "go"
    rw [S_cat]
    refine w_addS (sz (by rw [S_len, S_len, List.length_append]; simp only [List.length_singleton]; omega)) ?_
    rw [S_cat]
    exact k _ Ext.refl
  | str x =>
    walk_at "go"; walk_at "if"
    refine w_f rfl ?_; walk_at "go"; walk_at "if"
    refine w_isi (k := false) (.ty _) (.base (.str _)) (kit_ty (by decide +kernel)) ?_
    walk_at "go"; walk_at "if"
    refine w_isi (k := false) (.ty _) (.base (.str _)) (kit_ty (by decide +kernel)) ?_
    walk_at "go"; walk_at "if"
    refine w_isi (k := true) (.ty _) (.base (.str _)) (kit_ty (by decide +kernel)) ?_
    walk_at "go"
    rw [fit] at ft
    refine w_lenS (sz (by omega)) ?_
    walk_at "go"
    have ll := nat_len (n := x.length) (k := 2) (by decide) (by omega)
    refine w_strI (log_lt (by rw [Int.natAbs_natCast]; exact Nat.lt_of_le_of_lt ft.1 (by decide))) ?_
    walk_at "go"
    rw [o_t, o_col]
    refine w_addS (sz (by rw [S_len, S_len]; simp only [List.length_singleton]; omega)) ?_
    walk_at "go"
    rw [S_cat]
    refine w_addS (sz (by simp only [S_len, List.length_append, List.length_singleton]; omega)) ?_
    walk_at "go"
    rw [S_cat]
    refine w_addS (sz (by have hl : (wm none (.str x)).length = 1 + ((intL (x.length : Int)).length + (1 + x.length)) := (by rw [wm]; simp only [List.length_cons, List.length_append, len_tl]; omega); simp only [S_len, List.length_append, List.length_singleton]; omega)) ?_
    have k' := k _ Ext.refl
    rw [wm] at k'
    refine cast (congrArg (fun z => Q (.str z) H) ?_) k'
    rw [← S_tl x, S_cat, S_tl]
    simp
  | @tup p xs ds ha lz wa =>
    have ta := tyT ha
    have la := wa.len
    walk_at "go"; walk_at "if"
    refine w_f rfl ?_; walk_at "go"; walk_at "if"
    refine w_isi (k := false) (.ty _) ta (kit_ty (by decide +kernel)) ?_
    walk_at "go"; walk_at "if"
    refine w_isi (k := false) (.ty _) ta (kit_ty (by decide +kernel)) ?_
    walk_at "go"; walk_at "if"
    refine w_isi (k := false) (.ty _) ta (kit_ty (by decide +kernel)) ?_
    walk_at "go"
    refine ⟨_, rfl, ⟨xs, ha⟩, fun D nD => ?_⟩
    rw [d_tup] at dp
    rw [fit] at ft
    have e : (wm none (.tuple ds)).length = 1 + (wmAll none ds).length + 1 := by rw [wm, List.length_cons, List.length_append]; simp; omega
    refine z_lc_tup (xs := xs) (fun i acc H' => Ext [] H H' ∧ acc = ((ds.take i).map fun d => S (wm none d)).map V.str) nD (fun H' e => ⟨e.up, rfl⟩) (fun i acc H' _ h => SqT.ext h.1 ha) ?_ ?_
    · rintro Nx i x acc H1 hx ⟨e1, rfl⟩ hD hN
      walk_at "go"
      refine ⟨rfl, ?_⟩
      obtain ⟨d, hd, hjx⟩ := wa.one hx
      have hm := List.mem_of_getElem? hd
      have hdm := dAll_mem hm
      have := wmAll_mem (M := none) hm
      walk_at "go"
      refine w_sp1 ⟨d, hjx.ext e1, by omega, fit_mem ft.2 hm, by omega, fun H2 e2 => ?_⟩
      have li := (List.getElem?_eq_some_iff.mp hx).1
      refine w_app (e2.keep _ _ hD List.not_mem_nil) (szl (by rw [List.length_map, List.length_map, List.length_take]; omega)) fun H3 e3 hD3 => ?_
      refine hN _ _ ⟨(e1.trans e2).dropq e3 nD, ?_⟩ hD3
      rw [take_one hd, List.map_append, List.map_append]
      rfl
    · rintro acc H1 ⟨e1, rfl⟩ hD
      rw [List.take_of_length_le (by omega)] at hD
      refine w_join (ys := ds.map fun d => S (wm none d)) (sql hD) (by rw [wmAll_sum, show (Str.ofString "").length = 0 from by decide]; omega) ?_
      rw [wm_join]
      walk_at "go"
      rw [o_op, o_cl]
      refine w_addS (sz (by rw [S_len, S_len]; simp only [List.length_singleton]; omega)) ?_
      walk_at "go"
      rw [S_cat]
      refine w_addS (sz (by rw [S_len, S_len, List.length_append]; simp only [List.length_singleton]; omega)) ?_
      rw [S_cat]
      have k' := k _ e1
      rw [wm] at k'
      exact k'
theorem ok_wt_all (T : Txt K mg) : ∀ n, FnOk P w K mg base CX0 n T.f__law_text T.d__law_text ["value"] (sp_wt n K)
  | 0 => ok_wt_no T
  | n + 1 => step_text T n n (ok_wt_all T n)
def sp_law_text (K : PySem.W.Frag) : Sp := sp_wt 19 K
theorem ok_law_text (T : Txt K mg) : FnOk P w K mg base CX0 19 T.f__law_text T.d__law_text ["value"] (sp_law_text K) := ok_wt_all T 19
theorem w_text {H : Hp} {v : V} {d : PyData} {Q : VK} {E : XK} (h : Jw K H v d) (dp : d.depth < 19) (ft : fit d) (ln : (wm none d).length ≤ 500000) (k : ∀ H', Ext [] H H' → Q (.str (S (wm none d))) H') : sp_law_text K ([v] ++ []) H Q E := ⟨_, rfl, d, h, dp, ft, ln, k⟩
def sp_nm (n : Nat) (K : PySem.W.Frag) : Sp := sp2 fun a b H Q => ∃ (q : Addr) (N : List Str) (d : PyData), b = .ref q ∧ H q = some (.lst (N.map V.str)) ∧ N.length < 10 ^ 6 ∧ Jw K H a d ∧ d.depth < n ∧ fit d ∧ nt N d = N ∧ (wm (some N) d).length ≤ 500000 ∧ ∀ H', Ext [] H H' → Q (.str (S (wm (some N) d))) H'
theorem ok_nm_no (T : Txt K mg) : FnOk P w K mg base CX0 19 T.f__law_named T.d__law_named ["value", "names"] (sp_nm 0 K) :=
  ⟨fun _ _ _ _ h => by obtain ⟨_, _, rfl, _⟩ := h; rfl, fun _ _ _ _ _ _ _ _ _ _ _ _ _ h => by obtain ⟨_, _, _, _, _, _, _, _, _, _, h, _⟩ := h; exact (Nat.not_lt_zero _ h).elim⟩
theorem step_named (T : Txt K mg)  (n l : Nat) (ih : FnOk P w K mg base CX0 (l + 19) T.f__law_named T.d__law_named ["value", "names"] (sp_nm n K)) : FnOk P w K mg base CX0 (l+20) T.f__law_named T.d__law_named ["value", "names"] (sp_nm (n+1) K) := by
  refine T.F__law_named.ok sc_law_named len2 (fun cdv A outer s H vs Q E hr h => ?_)
  have nd := sc_law_named.nd
  have hu := hu_of hr
  obtain ⟨v, b, rfl, q, N, d, rfl, hq, nl, hj, dp, ft, hn, ln, k⟩ := h
  refine ⟨_,
      (pss_cons (ps_if (pt_val (pe_callB call_isi (by rfl) T.b_isinstance (by decide +kernel) (pa_cons (pv 0) (pa_cons (pe_bltn (v := .ty "str") (by rfl) T.b_str (by decide +kernel) rfl) pa_nil)))) 
        (pss_one (ps_ret (pe_op zop_addS (pe_op zop_addS pe_str (pe_callTy zc_str (by rfl) T.b_str (by decide +kernel) (pa_cons (pe_bm PySem.F.plainAttrs_list PySem.F.slot_list_index PySem.F.type_list_index mt_index (pv 1) (pa_cons (pv 0) pa_nil)) pa_nil))) pe_str))) pss_nil) 
      (pss_cons (ps_if (pt_val (pe_callB call_isi (by rfl) T.b_isinstance (by decide +kernel) (pa_cons (pv 0) (pa_cons (pe_bltn (v := .ty "tuple") (by rfl) T.b_tuple (by decide +kernel) rfl) pa_nil)))) 
        (pss_one (ps_ret (pe_op zop_addS (pe_op zop_addS pe_str (zpe_join pe_str (pe_lc (own := [("member", 2)]) rfl nd (pi_tup (pv 0)) (blkOk_by (own := [("member", 2)]) (N := ["value", "names", "member"]) (sc := defScope s_law_named) (by decide +kernel)) (fun _ _ _ _ _ => (pg_name (i := 2) nd rfl (Or.inl rfl))) (fun _ _ _ _ _ => pts_nil) (fun _ _ _ _ _ => (pe_call ih (hr.mono (by omega)) (by rfl) T.g__law_named T.F__law_named.kp T.k__law_named .nil pass0 (pa_cons (pv 2) (pa_cons (pv 1) pa_nil))))))) pe_str))) pss_nil) 
      (pss_one (ps_ret (pe_call (ok_law_text T) (hr.mono (by first | decide | omega)) (by rfl) T.g__law_text T.F__law_text.kp T.k__law_text .nil pass0 (pa_cons (pv 0) pa_nil)))))), ?_⟩
  change (_ : TS) _ [some _, some _, none] _
  try dsimp only [cxOf, Cx.nox, Cx.wish]
  cases hj with
  | non =>
    walk_at "go"; walk_at "if"
    refine w_isi (k := false) (.ty _) (.base .non) (kit_ty (by decide +kernel)) ?_
    walk_at "go"; walk_at "if"
    refine w_isi (k := false) (.ty _) (.base .non) (kit_ty (by decide +kernel)) ?_
    walk_at "go"
    refine w_text (by constructor) (by show 0 < 19; decide) ft ln fun H1 e1 => ?_
    exact k _ e1
  | bl c =>
    walk_at "go"; walk_at "if"
    refine w_isi (k := false) (.ty _) (.base (.bl _)) (kit_ty (by decide +kernel)) ?_
    walk_at "go"; walk_at "if"
    refine w_isi (k := false) (.ty _) (.base (.bl _)) (kit_ty (by decide +kernel)) ?_
    walk_at "go"
    refine w_text (by constructor) (by show 0 < 19; decide) ft ln fun H1 e1 => ?_
    exact k _ e1
  | int i =>
    walk_at "go"; walk_at "if"
    refine w_isi (k := false) (.ty _) (.base (.int _)) (kit_ty (by decide +kernel)) ?_
    walk_at "go"; walk_at "if"
    refine w_isi (k := false) (.ty _) (.base (.int _)) (kit_ty (by decide +kernel)) ?_
    walk_at "go"
    refine w_text (by constructor) (by show 0 < 19; decide) ft ln fun H1 e1 => ?_
    exact k _ e1
  | str x =>
    walk_at "go"; walk_at "if"
    refine w_isi (k := true) (.ty _) (.base (.str _)) (kit_ty (by decide +kernel)) ?_
    walk_at "go"
    have hm : x ∈ N := by
      rw [nt] at hn
      by_cases m : x ∈ N
      · exact m
      · rw [if_neg m] at hn
        have := congrArg List.length hn
        simp at this
    refine w_indexS (sql hq) hm ?_
    have li := List.idxOf_lt_length_of_mem hm
    walk_at "go"
    have ll := nat_len (n := N.idxOf x) (k := 6) (by decide) (by omega)
    refine w_strI (log_lt (by rw [Int.natAbs_natCast]; exact Nat.lt_trans (Nat.lt_trans li nl) (by decide))) ?_
    walk_at "go"
    rw [o_s, o_sem]
    refine w_addS (sz (by simp only [S_len, List.length_append, List.length_singleton]; omega)) ?_
    walk_at "go"
    rw [S_cat]
    refine w_addS (sz (by simp only [S_len, List.length_append, List.length_singleton]; omega)) ?_
    rw [S_cat]
    exact k _ Ext.refl
  | @tup p xs ds ha lz wa =>
    have ta := tyT ha
    have la := wa.len
    walk_at "go"; walk_at "if"
    refine w_isi (k := false) (.ty _) ta (kit_ty (by decide +kernel)) ?_
    walk_at "go"; walk_at "if"
    refine w_isi (k := true) (.ty _) ta (kit_ty (by decide +kernel)) ?_
    walk_at "go"
    refine ⟨_, rfl, ⟨xs, ha⟩, fun D nD => ?_⟩
    rw [d_tup] at dp
    rw [fit] at ft
    have e : (wm (some N) (.tuple ds)).length = 1 + (wmAll (some N) ds).length + 1 := by rw [wm, List.length_cons, List.length_append]; simp; omega
    refine z_lc_tup (xs := xs) (fun i acc H' => Ext [] H H' ∧ acc = ((ds.take i).map fun d => S (wm (some N) d)).map V.str) nD (fun H' e => ⟨e.up, rfl⟩) (fun i acc H' _ h => SqT.ext h.1 ha) ?_ ?_
    · rintro Nx i x acc H1 hx ⟨e1, rfl⟩ hD hN
      walk_at "go"
      refine ⟨rfl, ?_⟩
      obtain ⟨d, hd, hjx⟩ := wa.one hx
      have hm := List.mem_of_getElem? hd
      have hdm := dAll_mem hm
      have := wmAll_mem (M := some N) hm
      walk_at "go"
      refine w_sp2 ⟨q, N, d, rfl, e1.keep _ _ hq List.not_mem_nil, nl, hjx.ext e1, by omega, fit_mem ft.2 hm, nt_mem (by rwa [nt] at hn) d hm, by omega, fun H2 e2 => ?_⟩
      have li := (List.getElem?_eq_some_iff.mp hx).1
      refine w_app (e2.keep _ _ hD List.not_mem_nil) (szl (by rw [List.length_map, List.length_map, List.length_take]; omega)) fun H3 e3 hD3 => ?_
      refine hN _ _ ⟨(e1.trans e2).dropq e3 nD, ?_⟩ hD3
      rw [take_one hd, List.map_append, List.map_append]
      rfl
    · rintro acc H1 ⟨e1, rfl⟩ hD
      rw [List.take_of_length_le (by omega)] at hD
      refine w_join (ys := ds.map fun d => S (wm (some N) d)) (sql hD) (by rw [wmAll_sum, show (Str.ofString "").length = 0 from by decide]; omega) ?_
      rw [wm_join]
      walk_at "go"
      rw [o_op, o_cl]
      refine w_addS (sz (by rw [S_len, S_len]; simp only [List.length_singleton]; omega)) ?_
      walk_at "go"
      rw [S_cat]
      refine w_addS (sz (by rw [S_len, S_len, List.length_append]; simp only [List.length_singleton]; omega)) ?_
      rw [S_cat]
      have k' := k _ e1
      rw [wm] at k'
      exact k'
theorem ok_nm_all (T : Txt K mg) : ∀ n, FnOk P w K mg base CX0 (n + 19) T.f__law_named T.d__law_named ["value", "names"] (sp_nm n K)
  | 0 => ok_nm_no T
  | n + 1 => step_named T n n (ok_nm_all T n)
def sp_law_named (K : PySem.W.Frag) : Sp := sp_nm 19 K
theorem ok_law_named (T : Txt K mg) : FnOk P w K mg base CX0 38 T.f__law_named T.d__law_named ["value", "names"] (sp_law_named K) := ok_nm_all T 19
theorem w_named {H : Hp} {v : V} {q : Addr} {N : List Str} {d : PyData} {Q : VK} {E : XK} (hq : H q = some (.lst (N.map V.str))) (nl : N.length < 10 ^ 6) (h : Jw K H v d) (dp : d.depth < 19) (ft : fit d) (hn : nt N d = N) (ln : (wm (some N) d).length ≤ 500000) (k : ∀ H', Ext [] H H' → Q (.str (S (wm (some N) d))) H') :
    sp_law_named K ([v, .ref q] ++ []) H Q E := ⟨_, _, rfl, q, N, d, rfl, hq, nl, h, dp, ft, hn, ln, k⟩

open SX PySem.NumText
/-! ### reading values: the program -/
def sp3X (P : V → V → V → Hp → VK → XK → Prop) : Sp := fun vs H Q E => ∃ a b c, vs = [a, b, c] ∧ P a b c H Q E
def sp2X (P : V → V → Hp → VK → XK → Prop) : Sp := fun vs H Q E => ∃ a b, vs = [a, b] ∧ P a b H Q E
def sp1X (P : V → Hp → VK → XK → Prop) : Sp := fun vs H Q E => ∃ a, vs = [a] ∧ P a H Q E
def sp4X (P : V → V → V → V → Hp → VK → XK → Prop) : Sp := fun vs H Q E => ∃ a b c d, vs = [a, b, c, d] ∧ P a b c d H Q E
theorem len1X {P : V → Hp → VK → XK → Prop} {x : Str} : ∀ vs H Q E, sp1X P vs H Q E → vs.length = [x].length := fun _ _ _ _ ⟨_, e, _⟩ => e ▸ rfl
theorem len2X {P : V → V → Hp → VK → XK → Prop} {x y : Str} : ∀ vs H Q E, sp2X P vs H Q E → vs.length = [x, y].length := fun _ _ _ _ ⟨_, _, e, _⟩ => e ▸ rfl
theorem len3X {P : V → V → V → Hp → VK → XK → Prop} {x y z : Str} : ∀ vs H Q E, sp3X P vs H Q E → vs.length = [x, y, z].length := fun _ _ _ _ ⟨_, _, _, e, _⟩ => e ▸ rfl
theorem len4X {P : V → V → V → V → Hp → VK → XK → Prop} {x y z u : Str} : ∀ vs H Q E, sp4X P vs H Q E → vs.length = [x, y, z, u].length := fun _ _ _ _ ⟨_, _, _, _, e, _⟩ => e ▸ rfl
def sp_is_text (K : PySem.W.Frag) : Sp := sp1 fun a H Q => ∃ z : Str, a = .str z ∧ z.length ≤ 20 ∧ (Al z.cps.toList → Q (.bl true) H) ∧ (¬ Al z.cps.toList → Q (.bl false) H)
theorem ok_is_text (T : Txt K mg) : FnOk P w K mg base CX0 1 T.f_is_text T.d_is_text ["value"] (sp_is_text K) := by
  refine T.F_is_text.ok sc_is_text len1 (fun cdv A outer s H vs Q E hr h => ?_)
  have nd := sc_is_text.nd
  have hu := hu_of hr
  obtain ⟨_, rfl, z, rfl, l, k1, k2⟩ := h
  refine ⟨_,
      (pss_cons (ps_if (PW.pt (pw_or (pt_not (pt_val (pe_callB call_isi (by rfl) T.b_isinstance (by decide +kernel) (pa_cons (pv 0) (pa_cons (pe_bltn (v := .ty "str") (by rfl) T.b_str (by decide +kernel) rfl) pa_nil))))) (pw_or1 (pt_cmpR op_gt (pe_callB zc_len (by rfl) T.b_len (by decide +kernel) (pa_cons (pv 0) pa_nil)) (pe_glob rfl T.g_TEXT_MOST T.r_TEXT_MOST) (nomark _))))) 
        (pss_one (ps_ret pe_bl)) pss_nil) 
      (pss_cons (ps_for PassesOwn.never rfl (pi_str (pv 0)) (pg_name (i := 1) nd rfl (Or.inl rfl)) 
        (pss_one (ps_if (pt_cmpR zop_notInS (pv 1) (pe_glob rfl T.g_ALPHABET T.r_ALPHABET) (by rfl)) 
          (pss_one (ps_ret pe_bl)) pss_nil))) 
      (pss_one (ps_ret pe_bl)))), ?_⟩
  change (_ : TS) _ [some _, none] _
  try dsimp only [cxOf, Cx.nox, Cx.wish]
  walk_at "go"; walk_at "if"
  refine w_isi (k := true) (.ty _) (.base (.str _)) (kit_ty (by decide +kernel)) ?_
  walk_at "go"
  refine w_lenS (sz (by omega)) ?_
  walk_at "go"
  refine w_f (decide_eq_false (by omega)) ?_
  walk_at "go"
  refine ⟨z, rfl, ?_⟩
  refine z_for_str (fun i σ' H' => H = H' ∧ (∀ j c, j < i → z.cps.toList[j]? = some c → c ∈ alph.cps.toList) ∧ ∃ u, σ' = [some (.str z), u]) ⟨rfl, fun j c h => by omega, _, rfl⟩ ?_ ?_
  · rintro N i c σ' H1 hc ⟨rfl, al, u, rfl⟩ hN
    rw [← Array.getElem?_toList] at hc
    walk_at "go"; walk_at "if"
    refine w_notInC ?_
    walk_at "go"
    by_cases m : c ∈ alph.cps.toList
    · refine w_f (by rw [decide_eq_true m]; rfl) ?_
      walk_at "go"
      refine hN _ _ ⟨rfl, fun j c' h h' => ?_, _, rfl⟩
      rcases Nat.lt_or_ge j i with q | q
      · exact al j c' q h'
      · rw [show j = i by omega, hc] at h'
        cases h'; exact m
    · refine w_t (by rw [decide_eq_false m]; rfl) ?_
      walk_at "go"
      exact k2 fun al => m (al c (List.mem_of_getElem? hc))
  · rintro σ' H1 ⟨rfl, al, u, rfl⟩
    walk_at "go"
    refine k1 fun c m => ?_
    obtain ⟨j, hj⟩ := List.mem_iff_getElem?.mp m
    exact al j c (by have := (List.getElem?_eq_some_iff.mp hj).1; rwa [Array.length_toList] at this) hj
theorem at0 (c : Nat) (r : List Nat) : atI (S (c :: r)).cps.toList 0 = some c := by
  have := atI_nat (show (c :: r)[0]? = some c from rfl)
  exact this
def sp_digits_at (C : Addr) (K : PySem.W.Frag) : Sp := sp3X fun a b c H Q E => ∃ (t : List Nat) (p m : Nat), a = .str (S t) ∧ b = .int (p : Int) ∧ c = .int (m : Int) ∧ t.length ≤ 500000 ∧ p ≤ t.length ∧
  (okD m (digs t p) = false → E (.ref C) none H) ∧ (okD m (digs t p) = true → ∀ r H', Ext [] H H' → H r = none → H' r = some (.tup [.str (S (digs t p)), .int ((p + (digs t p).length : Nat) : Int)]) → Q (.ref r) H')
theorem ok_digits_at (T : Txt K mg) (TE : Errs P K mg) : FnOk P w K mg base (L2.CX P w) 2 T.f_digits_at T.d_digits_at ["text", "place", "most"] (sp_digits_at TE.C_BadText K) := by
  refine T.F_digits_at.okX sc_digits_at len3X (fun cdv A outer s H vs Q E hr h => ?_)
  have nd := sc_digits_at.nd
  have hu := hu_of hr
  obtain ⟨_, _, _, rfl, t, p, m, rfl, rfl, rfl, tl, pl, kx, k⟩ := h
  refine ⟨_,
      (pss_cons (ps_set (i := 3) nd rfl (Or.inl rfl) (pv 1)) 
      (pss_cons (ps_while (passes_of rfl) (PW.pt (pw_and (pt_cmpR op_lt (pv 3) (pe_callB zc_len (by rfl) T.b_len (by decide +kernel) (pa_cons (pv 0) pa_nil)) (nomark _)) (pw_and (pt_cmpR zop_inS (pe_ix ix_str (pv 0) (pv 3) (fun _ _ => rfl)) (pe_glob rfl T.g_DIGITS T.r_DIGITS) (by rfl)) (pw_and1 (pt_cmpR op_le (pe_op op_sub (pv 3) (pv 1)) (pv 2) (nomark _)))))) 
        (pss_one (ps_set (i := 3) nd rfl (Or.inl rfl) (pe_op op_add (pv 3) pe_int)))) 
      (pss_cons (ps_set (i := 4) nd rfl (Or.inl rfl) (pe_slice sl_str (pv 0) (po_some (pv 1)) (po_some (pv 3)))) 
      (pss_cons (ps_if (PW.pt (pw_or (pt_cmpR op_eq (pv 4) pe_str (nomark _)) (pw_or (pt_cmpR op_gt (pe_callB zc_len (by rfl) T.b_len (by decide +kernel) (pa_cons (pv 4) pa_nil)) (pv 2) (nomark _)) (pw_or1 (PW.pt (pw_and (pt_cmpR op_eq (pe_ix ix_str (pv 4) pe_int (fun _ _ => rfl)) pe_str (nomark _)) (pw_and1 (pt_cmpR op_gt (pe_callB zc_len (by rfl) T.b_len (by decide +kernel) (pa_cons (pv 4) pa_nil)) pe_int (nomark _))))))))) 
        (pss_one (ps_raise rfl (takes_of rfl rfl rfl rfl) (pmk_own0 PySem.F.excBase_ValueError TE.q_BadText TE.g_BadText TE.k_BadText (raises_own TE.s_BadText TE.y_BadText) rfl))) pss_nil) 
      (pss_one (ps_ret (pe_tupZ (pa_cons (pv 4) (pa_cons (pv 3) pa_nil))))))))), ?_⟩
  change (_ : TS) _ [some _, some _, some _, none, none] _
  try dsimp only [cxOf, Cx.nox, Cx.wish]
  have dl := digs_le pl
  walk_at "go"
  refine z_while (m0 := t.length - p) (fun n σ' H' => H = H' ∧ ∃ j : Nat, n = t.length - (p + j) ∧ j ≤ (digs t p).length ∧ j ≤ m + 1 ∧ σ' = [some (.str (S t)), some (.int (p : Int)), some (.int (m : Int)), some (.int ((p + j : Nat) : Int)), none])
    (fun σ' H' => H = H' ∧ σ' = [some (.str (S t)), some (.int (p : Int)), some (.int (m : Int)), some (.int ((p + min (digs t p).length (m + 1) : Nat) : Int)), none]) ⟨rfl, 0, rfl, Nat.zero_le _, Nat.zero_le _, rfl⟩ ?_ ?_
  · rintro σ' _ ⟨rfl, rfl⟩
    walk_at "go"
    refine w_slS (z := S t) (sz (by rw [S_len]; omega)) ?_
    rw [cut_S, digs_cut]
    have ok := okD_take m (digs t p)
    generalize hd : (digs t p).take (m + 1) = d at ok
    have dlen : d.length ≤ (digs t p).length := by rw [← hd, List.length_take]; omega
    walk_at "go"; walk_at "if"
    refine w_d (fun h => ?_) fun h => ?_ <;> walk_at "go"
    · refine kx ?_
      rw [← ok, show d = [] from S_inj (h.trans o_e)]
      rfl
    have dn : d ≠ [] := fun z => h (by rw [z, o_e])
    refine w_lenS (sz (by rw [S_len]; omega)) ?_
    walk_at "go"
    rw [S_len]
    refine w_d (fun h2 => ?_) fun h2 => ?_ <;> walk_at "go"
    · refine kx ?_
      rw [← ok]
      unfold okD
      rw [decide_eq_false (p := d.length ≤ m) (by omega), Bool.and_false]; rfl
    obtain ⟨c0, r0, hc0⟩ : ∃ c r, d = c :: r := by
      cases d with
      | nil => exact absurd rfl dn
      | cons c r => exact ⟨c, r, rfl⟩
    refine w_ixS (c := c0) (sz (by rw [S_len]; omega)) (by rw [hc0]; exact at0 _ _) ?_
    walk_at "go"
    have fin : okD m d = true → ∀ r H', Ext [] H H' → H r = none → H' r = some (.tup [.str (S d), .int ((p + min (digs t p).length (m + 1) : Nat) : Int)]) → Q (.ref r) H' := fun z r H' e n h' => by
      have ok' := ok.symm.trans z
      have ln := (okD_ne ok').2.1
      have ed : d = digs t p := by rw [← hd, List.take_of_length_le (by omega)]
      rw [ed, show p + min (digs t p).length (m + 1) = p + (digs t p).length by omega] at h'
      exact k ok' r H' e n h'
    have hm : okD m d = true ↔ ¬ (c0 = 48 ∧ 1 < d.length) := by
      constructor
      · rintro z ⟨z1, z2⟩
        have := (okD_ne z).2.2 (by rw [hc0, z1]; rfl)
        omega
      · intro z
        refine okD_of dn (by omega) fun w => ?_
        rw [hc0] at w
        have : c0 = 48 := by simpa using w
        by_cases q : 1 < d.length
        · exact absurd ⟨this, q⟩ z
        · omega
    refine w_d (fun h3 => ?_) fun h3 => ?_ <;> walk_at "go"
    · have e0 : c0 = 48 := by
        have := S_inj (show S [c0] = S [48] from h3.trans (by decide +kernel))
        simpa using this
      refine w_lenS (sz (by rw [S_len]; omega)) ?_
      walk_at "go"
      rw [S_len]
      refine w_d (fun h4 => ?_) fun h4 => ?_ <;> walk_at "go"
      · refine kx ?_
        rw [← ok]
        cases z : okD m d with
        | false => rfl
        | true => exact absurd ⟨e0, by omega⟩ (hm.mp z)
      · refine ⟨sz (by show 2 ≤ _; decide), w_alc fun r H1 e1 n1 h1 => ?_⟩
        exact fin (hm.mpr fun z => h4 (by omega)) r H1 e1 n1 h1
    · refine ⟨sz (by show 2 ≤ _; decide), w_alc fun r H1 e1 n1 h1 => ?_⟩
      exact fin (hm.mpr fun z => h3 (by rw [z.1]; decide +kernel)) r H1 e1 n1 h1
  · rintro nx' hx n σ' _ ⟨rfl, j, rfl, j1, j2, rfl⟩
    walk_at "go"
    refine w_lenS (sz (by rw [S_len]; omega)) ?_
    walk_at "go"
    rw [S_len]
    have out : j = min (digs t p).length (m + 1) → nx' [some (.str (S t)), some (.int (p : Int)), some (.int (m : Int)), some (.int ((p + j : Nat) : Int)), none] H := fun z => hx _ _ ⟨rfl, by rw [z]⟩
    refine w_d (fun h => ?_) fun h => ?_ <;> walk_at "go"
    · obtain ⟨c, hc⟩ : ∃ c, t[p + j]? = some c := ⟨_, List.getElem?_eq_getElem (by omega)⟩
      have nx := digs_next hc j1
      refine w_ixS (c := c) (sz (by rw [S_len]; omega)) (atI_nat hc) ?_
      walk_at "go"
      refine w_inC ?_
      rw [show (Str.ofString "0123456789") = digS from rfl, digS_in]
      walk_at "go"
      by_cases q : isDig c = true
      · refine w_t q ?_
        walk_at "go"
        refine w_d (fun h2 => ?_) fun h2 => ?_ <;> walk_at "go"
        · have := nx.mp q
          refine ⟨_, fun σ' H' z => z, ?_⟩
          walk_at "go"
          refine ⟨t.length - (p + (j + 1)), by omega, rfl, j + 1, rfl, by omega, by omega, ?_⟩
          rw [show ((p + j : Nat) : Int) + 1 = ((p + (j + 1) : Nat) : Int) by omega]
          rfl
        · exact out (by have := nx.mp q; omega)
      · refine w_f (by simpa using q) ?_
        exact out (by
          have : ¬ j < (digs t p).length := fun z => q (nx.mpr z)
          omega)
    · exact out (by omega)
theorem w_digits {C : Addr} {H : Hp} {t : List Nat} {p m : Nat} {Q : VK} {E : XK} (tl : t.length ≤ 500000) (pl : p ≤ t.length) (kx : okD m (digs t p) = false → E (.ref C) none H)
    (k : okD m (digs t p) = true → ∀ r H', Ext [] H H' → H r = none → H' r = some (.tup [.str (S (digs t p)), .int ((p + (digs t p).length : Nat) : Int)]) → Q (.ref r) H') : sp_digits_at C K [.str (S t), .int (p : Int), .int (m : Int)] H Q E := ⟨_, _, _, rfl, t, p, m, rfl, rfl, rfl, tl, pl, kx, k⟩
theorem dec_one (t : List Nat) (p c : Nat) : decide (S (seg t p (p + 1)) = S [c]) = decide (t[p]? = some c) := decide_eq_decide.mpr one_is
/-- what a reader at a place answers -/
def Rd (C : Addr) (K : PySem.W.Frag) (H : Hp) (r : Option (PyData × Nat)) (Q : VK) (E : XK) : Prop :=
  (r = none → ∀ H', Ext [] H H' → E (.ref C) none H') ∧ (∀ d e, r = some (d, e) → ∀ a v H', Ext [] H H' → H' a = some (.tup [v, .int (e : Int)]) → Jw K H' v d → Q (.ref a) H')
def sp_integer_at (C : Addr) (K : PySem.W.Frag) : Sp := sp2X fun a b H Q E => ∃ (t : List Nat) (p : Nat), a = .str (S t) ∧ b = .int (p : Int) ∧ t.length ≤ 500000 ∧ p ≤ t.length ∧ Rd C K H (rNum t p) Q E
theorem ok_integer_at (T : Txt K mg) (TE : Errs P K mg) : FnOk P w K mg base (L2.CX P w) 3 T.f_integer_at T.d_integer_at ["text", "place"] (sp_integer_at TE.C_BadText K) := by
  refine T.F_integer_at.okX sc_integer_at len2X (fun cdv A outer s H vs Q E hr h => ?_)
  have nd := sc_integer_at.nd
  have hu := hu_of hr
  obtain ⟨_, _, rfl, t, p, rfl, rfl, tl, pl, kx, k⟩ := h
  refine ⟨_,
      (pss_cons (ps_set (i := 2) nd rfl (Or.inl rfl) (pe_cmpR op_eq (pe_slice sl_str (pv 0) (po_some (pv 1)) (po_some (pe_op op_add (pv 1) pe_int))) pe_str (nomark _))) 
      (pss_cons (ps_if (pt_val (pv 2)) 
        (pss_one (ps_set (i := 1) nd rfl (Or.inl rfl) (pe_op op_add (pv 1) pe_int))) pss_nil) 
      (pss_cons (ps_asg (pe_callS (ok_digits_at T TE) (hr.mono (by decide)) (by rfl) T.g_digits_at T.F_digits_at.kp T.k_digits_at (fun σ => passAt (takes_of rfl rfl rfl rfl) σ) (pa_cons (pv 0) (pa_cons (pv 1) (pa_cons (pe_glob rfl T.g_DIGITS_MOST T.r_DIGITS_MOST) pa_nil)))) (pg_tup (by rfl) (pgs_cons (pg_name (i := 3) nd rfl (Or.inl rfl)) (pgs_cons (pg_name (i := 4) nd rfl (Or.inl rfl)) pgs_nil)))) 
      (pss_cons (ps_if (PW.pt (pw_or (pt_cmpR op_ne (pe_slice sl_str (pv 0) (po_some (pv 4)) (po_some (pe_op op_add (pv 4) pe_int))) pe_str (nomark _)) (pw_or1 (PW.pt (pw_and (pt_val (pv 2)) (pw_and1 (pt_cmpR op_eq (pv 3) pe_str (nomark _)))))))) 
        (pss_one (ps_raise rfl (takes_of rfl rfl rfl rfl) (pmk_own0 PySem.F.excBase_ValueError TE.q_BadText TE.g_BadText TE.k_BadText (raises_own TE.s_BadText TE.y_BadText) rfl))) pss_nil) 
      (pss_cons (ps_set (i := 5) nd rfl (Or.inl rfl) (pe_callTy zc_intS (by rfl) T.b_int (by decide +kernel) (pa_cons (pv 3) pa_nil))) 
      (pss_one (ps_ret (pe_tupZ (pa_cons (pe_ifExp (pt_val (pv 2)) (pe_un un_neg (pv 5)) (pv 5)) (pa_cons (pe_op op_add (pv 4) pe_int) pa_nil)))))))))), ?_⟩
  change (_ : TS) _ [some _, some _, none, none, none, none] _
  try dsimp only [cxOf, Cx.nox, Cx.wish]
  walk_at "go"
  refine w_slS (z := S t) (sz (by rw [S_len]; omega)) ?_
  rw [show (p : Int) + 1 = ((p + 1 : Nat) : Int) by omega, cut_S, o_min]
  walk_at "go"
  rw [dec_one]
  refine w_cut (fun σ' H' => H = H' ∧ ∃ (q : Nat) (neg : Bool), q ≤ t.length ∧ rNum t p = rNumT neg t q ∧ σ' = [some (.str (S t)), some (.int (q : Int)), some (.bl neg), none, none, none]) ?_ fun nx hN => ?_
  · rintro _ _ ⟨rfl, q, neg, ql, er, rfl⟩
    rw [er] at kx k
    walk_at "go"
    refine w_digits (m := 60) tl ql (fun z => ?_) fun z r H1 e1 n1 h1 => ?_
    · refine kx ?_ _ Ext.refl
      unfold rNumT
      rw [if_neg (fun h => by rw [z] at h; exact absurd h.1 (by decide))]
    refine w_gtup (sqt h1) rfl ?_
    walk_at "go"
    have dl := digs_le ql
    have da := digs_all t q
    obtain ⟨dn, d60, _⟩ := okD_ne z
    walk_at "if"
    refine w_slS (z := S t) (sz (by rw [S_len]; omega)) ?_
    rw [show ((q + (digs t q).length : Nat) : Int) + 1 = ((q + (digs t q).length + 1 : Nat) : Int) by omega, cut_S, o_sem]
    walk_at "go"
    rw [dec_one]
    by_cases hs : t[q + (digs t q).length]? = some 59
    · refine w_f (by rw [decide_eq_true hs]; rfl) ?_
      walk_at "go"
      cases neg with
      | false =>
        walk_at "go"
        refine w_intS da dn (by omega) ?_
        walk_at "go"; walk_at "ife"; walk_at "go"
        refine ⟨sz (by show 2 ≤ _; decide), w_alc fun r2 H2 e2 n2 h2 => ?_⟩
        refine k _ _ (by unfold rNumT; rw [if_pos ⟨z, hs, fun y => nomatch y⟩]) r2 _ H2 (e1.trans e2) ?_ (.int _)
        rw [h2, show ((q + (digs t q).length : Nat) : Int) + 1 = ((q + (digs t q).length + 1 : Nat) : Int) by omega]
        rfl
      | true =>
        walk_at "go"
        rw [o_0]
        refine w_d (fun h5 => ?_) fun h5 => ?_ <;> walk_at "go"
        · refine kx ?_ _ e1
          unfold rNumT
          rw [if_neg fun y => y.2.2 rfl (S_inj h5)]
        · refine w_intS da dn (by omega) ?_
          walk_at "go"; walk_at "ife"; walk_at "go"
          refine ⟨sz (by show 2 ≤ _; decide), w_alc fun r2 H2 e2 n2 h2 => ?_⟩
          refine k _ _ (by unfold rNumT; rw [if_pos ⟨z, hs, fun _ y => h5 (by rw [y])⟩]) r2 _ H2 (e1.trans e2) ?_ (.int _)
          rw [h2, show ((q + (digs t q).length : Nat) : Int) + 1 = ((q + (digs t q).length + 1 : Nat) : Int) by omega]
          rfl
    · refine w_t (by rw [decide_eq_false hs]; rfl) ?_
      walk_at "go"
      refine kx ?_ _ e1
      unfold rNumT
      rw [if_neg fun y => hs y.2.1]
  · walk_at "if"
    refine w_d (fun h => ?_) fun h => ?_ <;> walk_at "go"
    · refine hN _ _ ⟨rfl, p + 1, true, ?_, by rw [rNum_is, if_pos h], ?_⟩
      · have := get_lt h; omega
      · rw [decide_eq_true h, show (p : Int) + 1 = ((p + 1 : Nat) : Int) by omega]
        rfl
    · exact hN _ _ ⟨rfl, p, false, pl, by rw [rNum_is, if_neg h], by rw [decide_eq_false h]; rfl⟩
theorem w_integer {C : Addr} {H : Hp} {t : List Nat} {p : Nat} {Q : VK} {E : XK} (tl : t.length ≤ 500000) (pl : p ≤ t.length) (k : Rd C K H (rNum t p) Q E) : sp_integer_at C K [.str (S t), .int (p : Int)] H Q E := ⟨_, _, rfl, t, p, rfl, rfl, tl, pl, k⟩
def sp_string_at (C : Addr) (K : PySem.W.Frag) : Sp := sp2X fun a b H Q E => ∃ (t : List Nat) (p : Nat), a = .str (S t) ∧ b = .int (p : Int) ∧ t.length ≤ 500000 ∧ p ≤ t.length ∧ Rd C K H (rTxt t p) Q E
theorem ok_string_at (T : Txt K mg) (TE : Errs P K mg) : FnOk P w K mg base (L2.CX P w) 3 T.f_string_at T.d_string_at ["text", "place"] (sp_string_at TE.C_BadText K) := by
  refine T.F_string_at.okX sc_string_at len2X (fun cdv A outer s H vs Q E hr h => ?_)
  have nd := sc_string_at.nd
  have hu := hu_of hr
  obtain ⟨_, _, rfl, t, p, rfl, rfl, tl, pl, kx, k⟩ := h
  refine ⟨_,
      (pss_cons (ps_asg (pe_callS (ok_digits_at T TE) (hr.mono (by decide)) (by rfl) T.g_digits_at T.F_digits_at.kp T.k_digits_at (fun σ => passAt (takes_of rfl rfl rfl rfl) σ) (pa_cons (pv 0) (pa_cons (pv 1) (pa_cons pe_int pa_nil)))) (pg_tup (by rfl) (pgs_cons (pg_name (i := 2) nd rfl (Or.inl rfl)) (pgs_cons (pg_name (i := 3) nd rfl (Or.inl rfl)) pgs_nil)))) 
      (pss_cons (ps_set (i := 4) nd rfl (Or.inl rfl) (pe_op op_add (pv 3) pe_int)) 
      (pss_cons (ps_set (i := 5) nd rfl (Or.inl rfl) (pe_op op_add (pv 4) (pe_callTy zc_intS (by rfl) T.b_int (by decide +kernel) (pa_cons (pv 2) pa_nil)))) 
      (pss_cons (ps_set (i := 6) nd rfl (Or.inl rfl) (pe_slice sl_str (pv 0) (po_some (pv 4)) (po_some (pv 5)))) 
      (pss_cons (ps_if (PW.pt (pw_or (pt_cmpR op_ne (pe_slice sl_str (pv 0) (po_some (pv 3)) (po_some (pv 4))) pe_str (nomark _)) (pw_or (pt_cmpR op_gt (pv 5) (pe_callB zc_len (by rfl) T.b_len (by decide +kernel) (pa_cons (pv 0) pa_nil)) (nomark _)) (pw_or (pt_cmpR op_gt (pe_callTy zc_intS (by rfl) T.b_int (by decide +kernel) (pa_cons (pv 2) pa_nil)) (pe_glob rfl T.g_TEXT_MOST T.r_TEXT_MOST) (nomark _)) (pw_or1 (pt_not (pt_val (pe_call (ok_is_text T) (hr.mono (by decide)) (by rfl) T.g_is_text T.F_is_text.kp T.k_is_text .nil pass0 (pa_cons (pv 6) pa_nil))))))))) 
        (pss_one (ps_raise rfl (takes_of rfl rfl rfl rfl) (pmk_own0 PySem.F.excBase_ValueError TE.q_BadText TE.g_BadText TE.k_BadText (raises_own TE.s_BadText TE.y_BadText) rfl))) pss_nil) 
      (pss_one (ps_ret (pe_tupZ (pa_cons (pv 6) (pa_cons (pv 5) pa_nil)))))))))), ?_⟩
  change (_ : TS) _ [some _, some _, none, none, none, none, none] _
  try dsimp only [cxOf, Cx.nox, Cx.wish]
  walk_at "go"
  refine w_digits (m := 2) tl pl (fun z => ?_) fun z r H1 e1 n1 h1 => ?_
  · refine kx ?_ _ Ext.refl
    unfold rTxt
    rw [if_neg (fun h => by rw [z] at h; exact absurd h.1 (by decide))]
  walk_at "go"
  have dl := digs_le pl
  have da := digs_all t p
  obtain ⟨dn, d60, _⟩ := okD_ne z
  refine w_intS da dn (by omega) ?_
  walk_at "go"
  generalize hd : digs t p = d at *
  generalize hv : digitsVal d = n at *
  refine w_slS (z := S t) (sz (by rw [S_len]; omega)) ?_
  rw [show ((p + d.length : Nat) : Int) + 1 = ((p + d.length + 1 : Nat) : Int) by omega, show ((p + d.length + 1 : Nat) : Int) + (n : Int) = ((p + d.length + 1 + n : Nat) : Int) by omega, cut_S]
  walk_at "go"; walk_at "if"
  have no_ : ¬ (okD 2 d = true ∧ txtOk t (p + d.length + 1) n) → E (.ref TE.C_BadText) none H1 := fun h => kx (by unfold rTxt; rw [hd, hv, if_neg h]) _ e1
  have bk : p + d.length + 1 - 1 = p + d.length := by omega
  refine w_slS (z := S t) (sz (by rw [S_len]; omega)) ?_
  rw [cut_S, o_col]
  walk_at "go"
  rw [dec_one]
  by_cases hs : t[p + d.length]? = some 58
  · refine w_f (by rw [decide_eq_true hs]; rfl) ?_
    walk_at "go"
    refine w_lenS (sz (by rw [S_len]; omega)) ?_
    walk_at "go"
    rw [S_len]
    refine w_d (fun h2 => ?_) fun h2 => ?_ <;> walk_at "go"
    · exact no_ fun h => by have := h.2.2.2.1; omega
    have sl := seg_len (p := p + d.length + 1) (show p + d.length + 1 + n ≤ t.length by omega)
    refine w_intS da dn (by omega) ?_
    walk_at "go"
    rw [hv]
    refine w_d (fun h3 => ?_) fun h3 => ?_ <;> walk_at "go"
    · exact no_ fun h => by have := h.2.1; omega
    refine ⟨_, rfl, _, rfl, by rw [S_len]; omega, fun al => ?_, fun al => ?_⟩
    · walk_at "go"
      refine ⟨sz (by show 2 ≤ _; decide), w_alc fun r2 H2 e2 n2 h2 => ?_⟩
      exact k _ _ (by unfold rTxt; rw [hd, hv, if_pos ⟨z, by omega, by rw [bk]; exact hs, by omega, al⟩]) r2 _ H2 (e1.trans e2) h2 (.str _)
    · walk_at "go"
      exact no_ fun h => al h.2.2.2.2
  · refine w_t (by rw [decide_eq_false hs]; rfl) ?_
    walk_at "go"
    exact no_ fun h => hs (by have := h.2.2.1; rwa [bk] at this)
theorem w_string {C : Addr} {H : Hp} {t : List Nat} {p : Nat} {Q : VK} {E : XK} (tl : t.length ≤ 500000) (pl : p ≤ t.length) (k : Rd C K H (rTxt t p) Q E) : sp_string_at C K [.str (S t), .int (p : Int)] H Q E := ⟨_, _, rfl, t, p, rfl, rfl, tl, pl, k⟩

open SX PySem.NumText
/-! ### reading values: strings by their indexes -/
def MAt (C : Addr) (H : Hp) (s : V) (L : Addr) : Option (List Str) → List Str → Prop
  | none, _ => s = .non
  | some N, A => ∃ a dx, s = .ref a ∧ H a = some (.ins C dx (fs_Strings (.ref L) (.int (A.length : Int)))) ∧ H L = some (.lst (N.map V.str)) ∧ N.length < 10 ^ 6 ∧ A <+: N
def mF : V → List Addr
  | .ref a => [a]
  | _ => []
theorem MAt.ext {C : Addr} {H H' : Hp} {s : V} {L : Addr} {A : List Str} : ∀ {M : Option (List Str)}, MAt C H s L M A → Ext [] H H' → MAt C H' s L M A
  | none, h, _ => h
  | some N, ⟨a, dx, h1, h2, h3, h4, h5⟩, e => ⟨a, dx, h1, e.keep _ _ h2 List.not_mem_nil, e.keep _ _ h3 List.not_mem_nil, h4, h5⟩
def sp_Strings___init__ (C : Addr) (K : PySem.W.Frag) : Sp := sp2 fun a b H Q => ∃ (im q dx : Addr) (N : List Str), a = .ref im ∧ b = .ref q ∧ H im = some (.ins C dx []) ∧ SqT K H q (N.map V.str) ∧ N.length < 10 ^ 6 ∧
  ∀ L H', Ext [im] H H' → MAt C H' (.ref im) L (some N) [] → Q .non H'
theorem ok_Strings___init__ (T : Txt K mg) : FnOk P w K mg base CX0 1 T.f_Strings___init__ T.d_Strings___init__ ["self", "texts"] (sp_Strings___init__ T.C_Strings K) := by
  refine T.F_Strings___init__.ok sc_Strings___init__ len2 (fun cdv A outer s H vs Q E hr h => ?_)
  have nd := sc_Strings___init__.nd
  have hu := hu_of hr
  obtain ⟨_, _, rfl, im, q, dx, N, rfl, rfl, h0, hq, nl, k⟩ := h
  refine ⟨_,
      (pss_cons (ps_fld (pv 0) (pe_callTy zc_list (by rfl) T.b_list (by decide +kernel) (pa_cons (pv 1) pa_nil)) rfl) 
      (pss_one (ps_fld (pv 0) pe_int rfl))), ?_⟩
  change (_ : TS) _ [some _, some _] _
  try dsimp only [cxOf, Cx.nox, Cx.wish]
  walk_at "go"
  refine w_listU hq (w_alc fun L H1 e1 n1 h1 => ?_)
  walk_at "go"
  have nLi : L ≠ im := (ne_of_none h0 n1).symm
  refine w_sfld (e1.keep _ _ h0 List.not_mem_nil) T.c_Strings T.na_Strings_texts (Nat.le_of_ble_eq_true rfl) pi_Strings_texts fun H2 e2 h2 => ?_
  walk_at "go"
  refine w_sfld h2 T.c_Strings T.na_Strings_seen (Nat.le_of_ble_eq_true rfl) pi_Strings_seen fun H3 e3 h3 => ?_
  exact k L _ ((e1.up.trans e2).trans e3) ⟨im, dx, rfl, h3, e3.keep _ _ (e2.keep _ _ h1 (nm1 nLi)) (nm1 nLi), nl, List.nil_prefix⟩
theorem at_idx {N : List Str} {x : Str} (m : x ∈ N) : atI (N.map V.str) ((N.idxOf x : Nat) : Int) = some (.str x) := by
  have li := List.idxOf_lt_length_of_mem m
  refine atI_nat ?_
  rw [List.getElem?_map, List.getElem?_eq_getElem li, List.getElem_idxOf li]; rfl
theorem nt_str_in {A N : List Str} {x : Str} (h : nt A (.str x) <+: N) : x ∈ N := by
  refine h.subset ?_
  rw [nt]
  split
  · assumption
  · simp
def sp_Strings_named (C : Addr) (K : PySem.W.Frag) : Sp := sp2X fun a b H Q E => ∃ (L : Addr) (N A : List Str) (x : Str), b = .int ((N.idxOf x : Nat) : Int) ∧ MAt C H a L (some N) A ∧ nt A (.str x) <+: N ∧ ∀ H', Ext (mF a) H H' → MAt C H' a L (some N) (nt A (.str x)) → Q (.str x) H'
theorem ok_Strings_named (T : Txt K mg) (TE : Errs P K mg) : FnOk P w K mg base (L2.CX P w) 2 T.f_Strings_named T.d_Strings_named ["self", "place"] (sp_Strings_named T.C_Strings K) := by
  refine T.F_Strings_named.okX sc_Strings_named len2X (fun cdv A outer s H vs Q E hr h => ?_)
  have nd := sc_Strings_named.nd
  have hu := hu_of hr
  obtain ⟨_, _, rfl, L, N, A, x, rfl, hM, hn, k⟩ := h
  refine ⟨_,
      (pss_cons (ps_if (PW.pt (pw_or (pt_cmpR op_gt (pv 1) (pe_fld (pv 0) rfl) (nomark _)) (pw_or1 (pt_cmpR op_ge (pv 1) (pe_callB zc_len (by rfl) T.b_len (by decide +kernel) (pa_cons (pe_fld (pv 0) rfl) pa_nil)) (nomark _))))) 
        (pss_one (ps_raise rfl (takes_of rfl rfl rfl rfl) (pmk_own0 PySem.F.excBase_ValueError TE.q_BadText TE.g_BadText TE.k_BadText (raises_own TE.s_BadText TE.y_BadText) rfl))) pss_nil) 
      (pss_cons (ps_if (pt_cmpR op_eq (pv 1) (pe_fld (pv 0) rfl) (nomark _)) 
        (pss_one (ps_fld (pv 0) (pe_op op_add (pe_fld (pv 0) rfl) pe_int) rfl)) pss_nil) 
      (pss_one (ps_ret (pe_ix ix_list (pe_fld (pv 0) rfl) (pv 1) (fun _ _ => rfl)))))), ?_⟩
  change (_ : TS) _ [some _, some _] _
  try dsimp only [cxOf, Cx.nox, Cx.wish]
  obtain ⟨a, dx, rfl, ha, hL, nl, hA⟩ := id hM
  have hm := nt_str_in hn
  have li := List.idxOf_lt_length_of_mem hm
  have ale := hA.length_le
  have nLa : L ≠ a := fun z => by subst z; rw [ha] at hL; cases hL
  rw [nt] at hn k
  by_cases m : x ∈ A
  · have lt := idx_old hA m
    rw [if_pos m] at k
    walk_at "go"; walk_at "if"
    refine w_f (decide_eq_false (by omega)) ?_
    walk_at "go"
    refine w_f (decide_eq_false (by rw [List.length_map]; omega)) ?_
    walk_at "go"; walk_at "if"
    refine w_f (decide_eq_false (by omega)) ?_
    walk_at "go"
    refine w_ixL (sql hL) (at_idx hm) ?_
    exact k _ (Ext.up Ext.refl) hM
  · rw [if_neg m] at k hn
    have eq := idx_new hn m
    walk_at "go"; walk_at "if"
    refine w_f (decide_eq_false (by omega)) ?_
    walk_at "go"
    refine w_f (decide_eq_false (by rw [List.length_map]; omega)) ?_
    walk_at "go"; walk_at "if"
    refine w_t (decide_eq_true (by omega)) ?_
    walk_at "go"
    refine w_sfld ha T.c_Strings T.na_Strings_seen (Nat.le_of_ble_eq_true rfl) pf_Strings_seen fun H1 e1 h1 => ?_
    have hL1 := e1.keep _ _ hL (nm1 nLa)
    walk_at "go"
    refine w_ixL (sql hL1) (at_idx hm) ?_
    exact k _ e1 ⟨a, dx, rfl, by rw [List.length_append, List.length_singleton]; exact h1, hL1, nl, hn⟩

open SX PySem.NumText
theorem wm_head (M : Option (List Str)) : ∀ {d : PyData}, fit d → ∃ c r, wm M d = c :: r ∧ c ≠ 41
  | .none, _ => ⟨_, _, rfl, by decide⟩
  | .bool true, _ => ⟨_, _, rfl, by decide⟩
  | .bool false, _ => ⟨_, _, rfl, by decide⟩
  | .int _, _ => ⟨_, _, rfl, by decide⟩
  | .str _, _ => by cases M <;> exact ⟨_, _, rfl, by decide⟩
  | .tuple _, _ => ⟨_, _, rfl, by decide⟩
  | .list _, h => False.elim h
  | .dict _, h => False.elim h
def sp_named_at (C : Addr) (K : PySem.W.Frag) : Sp := sp3X fun a b s H Q E => ∃ (t : List Nat) (p : Nat) (L : Addr) (N A : List Str) (x : Str) (r : List Nat), a = .str (S t) ∧ b = .int (p : Int) ∧ t.length ≤ 500000 ∧ MAt C H s L (some N) A ∧ nt A (.str x) <+: N ∧
  t.drop p = intL ((N.idxOf x : Nat) : Int) ++ 59 :: r ∧ ∀ u H', Ext (mF s) H H' → H' u = some (.tup [.str x, .int ((p + (intL ((N.idxOf x : Nat) : Int)).length + 1 : Nat) : Int)]) → MAt C H' s L (some N) (nt A (.str x)) → Q (.ref u) H'
theorem ok_named_at (T : Txt K mg) (TE : Errs P K mg) : FnOk P w K mg base (L2.CX P w) 3 T.f_named_at T.d_named_at ["text", "place", "strings"] (sp_named_at T.C_Strings K) := by
  refine T.F_named_at.okX sc_named_at len3X (fun cdv A outer s H vs Q E hr h => ?_)
  have nd := sc_named_at.nd
  have hu := hu_of hr
  obtain ⟨_, _, s, rfl, t, p, L, N, A, x, r, rfl, rfl, tl, hM, hn, hd, k⟩ := h
  refine ⟨_,
      (pss_cons (ps_asg (pe_callS (ok_digits_at T TE) (hr.mono (by decide)) (by rfl) T.g_digits_at T.F_digits_at.kp T.k_digits_at (fun σ => passAt (takes_of rfl rfl rfl rfl) σ) (pa_cons (pv 0) (pa_cons (pv 1) (pa_cons (pe_glob rfl T.g_DIGITS_MOST T.r_DIGITS_MOST) pa_nil)))) (pg_tup (by rfl) (pgs_cons (pg_name (i := 3) nd rfl (Or.inl rfl)) (pgs_cons (pg_name (i := 4) nd rfl (Or.inl rfl)) pgs_nil)))) 
      (pss_cons (ps_if (pt_cmpR op_ne (pe_slice sl_str (pv 0) (po_some (pv 4)) (po_some (pe_op op_add (pv 4) pe_int))) pe_str (nomark _)) 
        (pss_one (ps_raise rfl (takes_of rfl rfl rfl rfl) (pmk_own0 PySem.F.excBase_ValueError TE.q_BadText TE.g_BadText TE.k_BadText (raises_own TE.s_BadText TE.y_BadText) rfl))) pss_nil) 
      (pss_one (ps_ret (pe_tupZ (pa_cons (pe_methT (pv 2) T.c_Strings T.m_Strings_named (ok_Strings_named T TE) (hr.mono (by decide)) T.k_Strings_named (fun σ => passAt (takes_of rfl rfl rfl rfl) σ) (pa_cons (pe_callTy zc_intS (by rfl) T.b_int (by decide +kernel) (pa_cons (pv 3) pa_nil)) pa_nil)) (pa_cons (pe_op op_add (pv 4) pe_int) pa_nil))))))), ?_⟩
  change (_ : TS) _ [some _, some _, some _, none, none] _
  try dsimp only [cxOf, Cx.nox, Cx.wish]
  obtain ⟨a, dx, rfl, ha, hL, nl, hA⟩ := id hM
  have hm := nt_str_in hn
  have li := List.idxOf_lt_length_of_mem hm
  have e := digs_at hd (nat_digs _) (by decide)
  have ok : okD 60 (digs t p) = true := by rw [e]; exact nat_ok (by decide) (Nat.lt_trans (Nat.lt_trans li nl) (by decide))
  have lt := lt_at (drop_at hd)
  walk_at "go"
  refine w_digits (m := 60) tl (by omega) (fun z => by rw [ok] at z; cases z) fun z u H1 e1 n1 h1 => ?_
  rw [e] at h1
  walk_at "go"; walk_at "if"
  refine w_slS (z := S t) (sz (by rw [S_len]; omega)) ?_
  rw [show ((p + (intL ((N.idxOf x : Nat) : Int)).length : Nat) : Int) + 1 = ((p + (intL ((N.idxOf x : Nat) : Int)).length + 1 : Nat) : Int) by omega, cut_S, seg_one (get_at (drop_at hd))]
  walk_at "go"
  refine w_f (by decide +kernel) ?_
  walk_at "go"
  have ha1 := e1.keep _ _ ha List.not_mem_nil
  refine w_meth ha1 no_Strings_named ?_
  walk_at "go"
  refine w_intS (nat_digs (N.idxOf x)) (nat_ne _) (by have := nat_len (n := N.idxOf x) (k := 6) (by decide) (by omega); omega) ?_
  rw [nat_val]
  walk_at "go"
  refine ⟨_, _, rfl, L, N, A, x, rfl, hM.ext e1, hn, fun H2 e2 hM2 => ?_⟩
  walk_at "go"
  refine ⟨sz (by show 2 ≤ _; decide), w_alc fun u2 H3 e3 n3 h3 => ?_⟩
  refine k u2 H3 ((e1.up.trans e2).trans e3.up) ?_ (hM2.ext e3)
  rw [h3, show ((p + (intL ((N.idxOf x : Nat) : Int)).length : Nat) : Int) + 1 = ((p + (intL ((N.idxOf x : Nat) : Int)).length + 1 : Nat) : Int) by omega]
/-- a list of members that follow at a place -/
def sp_tupN (n : Nat) (C : Addr) (K : PySem.W.Frag) : Sp := sp4X fun a b c s H Q E => ∃ (t : List Nat) (p : Nat) (L : Addr) (M : Option (List Str)) (A : List Str) (ds : List PyData) (r : List Nat), a = .str (S t) ∧ b = .int (p : Int) ∧ c = .int (n : Int) ∧ t.length ≤ 500000 ∧ MAt C H s L M A ∧
  (∀ N, M = some N → ntAll A ds <+: N) ∧ t.drop p = wmAll M ds ++ 41 :: r ∧ fitAll ds ∧ ds.length ≤ 100000 ∧ (∀ d ∈ ds, d.depth ≤ n) ∧
  ∀ u v H', Ext (mF s) H H' → H' u = some (.tup [v, .int ((p + (wmAll M ds).length + 1 : Nat) : Int)]) → Jw K H' v (.tuple ds) → MAt C H' s L M (ntAll A ds) → Q (.ref u) H'
def sp_tupN' (C : Addr) : Nat → PySem.W.Frag → Sp
  | 0, _ => sp4X fun _ _ _ _ _ _ _ => False
  | n + 1, K => sp_tupN n C K
def sp_valN (n : Nat) (C : Addr) (K : PySem.W.Frag) : Sp := sp4X fun a b c s H Q E => ∃ (t : List Nat) (p : Nat) (L : Addr) (M : Option (List Str)) (A : List Str) (d : PyData) (r : List Nat), a = .str (S t) ∧ b = .int (p : Int) ∧ c = .int (n : Int) ∧ t.length ≤ 500000 ∧ MAt C H s L M A ∧
  (∀ N, M = some N → nt A d <+: N) ∧ t.drop p = wm M d ++ r ∧ fit d ∧ d.depth ≤ n ∧
  ∀ u v H', Ext (mF s) H H' → H' u = some (.tup [v, .int ((p + (wm M d).length : Nat) : Int)]) → Jw K H' v d → MAt C H' s L M (nt A d) → Q (.ref u) H'
theorem MAt.ne {C : Addr} {H : Hp} {s : V} {L : Addr} {M : Option (List Str)} {A : List Str} {D : Addr} (h : MAt C H s L M A) (n : H D = none) : D ∉ mF s := by
  cases M with
  | none => rw [show s = .non from h]; exact List.not_mem_nil
  | some N =>
    obtain ⟨a, dx, rfl, ha, _⟩ := h
    intro m
    rw [List.mem_singleton.mp m] at n
    rw [ha] at n; cases n
theorem MAt.chg {C : Addr} {H H' H0 : Hp} {s : V} {L D : Addr} {M : Option (List Str)} {A A0 : List Str} (h : MAt C H s L M A) (h0 : MAt C H0 s L M A0) (n : H0 D = none) (e : Ext [D] H H') : MAt C H' s L M A := by
  cases M with
  | none => exact h
  | some N =>
    have ne := h0.ne n
    obtain ⟨a, dx, rfl, ha, hL, nl, hA⟩ := h
    obtain ⟨_, _, _, _, hL0, _⟩ := h0
    have na : a ≠ D := fun z => ne (by rw [← z]; exact List.mem_singleton.mpr rfl)
    have nL : L ≠ D := fun z => by rw [z, n] at hL0; cases hL0
    exact ⟨a, dx, rfl, e.keep _ _ ha (nm1 na), e.keep _ _ hL (nm1 nL), nl, hA⟩
theorem step_tuple (T : Txt K mg) (TE : Errs P K mg)  (n l : Nat) (ih : FnOk P w K mg base (CX P w) l T.f_value_at T.d_value_at ["text", "place", "room", "strings"] (sp_valN n T.C_Strings K)) : FnOk P w K mg base (L2.CX P w) (l+1) T.f_tuple_at T.d_tuple_at ["text", "place", "room", "strings"] (sp_tupN n T.C_Strings K) := by
  refine T.F_tuple_at.okX sc_tuple_at len4X (fun cdv A outer s H vs Q E hr h => ?_)
  have nd := sc_tuple_at.nd
  have hu := hu_of hr
  obtain ⟨_, _, _, s, rfl, t, p, L, M, A, ds, r, rfl, rfl, rfl, tl, hM, hn, hd, ft, dl, dd, k⟩ := h
  refine ⟨_,
      (pss_cons (ps_set (i := 4) nd rfl (Or.inl rfl) (pe_lstZ pa_nil)) 
      (pss_cons (ps_while (passes_of rfl) (pt_cmpR op_ne (pe_slice sl_str (pv 0) (po_some (pv 1)) (po_some (pe_op op_add (pv 1) pe_int))) pe_str (nomark _)) 
        (pss_cons (ps_asg (pe_callS ih (hr.mono (by omega)) (by rfl) T.g_value_at T.F_value_at.kp T.k_value_at (fun σ => passAt (takes_of rfl rfl rfl rfl) σ) (pa_cons (pv 0) (pa_cons (pv 1) (pa_cons (pv 2) (pa_cons (pv 3) pa_nil))))) (pg_tup (by rfl) (pgs_cons (pg_name (i := 5) nd rfl (Or.inl rfl)) (pgs_cons (pg_name (i := 1) nd rfl (Or.inl rfl)) pgs_nil)))) 
        (pss_one (ps_expr (pe_bm PySem.F.plainAttrs_list PySem.F.slot_list_append PySem.F.type_list_append zmt_append (pv 4) (pa_cons (pv 5) pa_nil)))))) 
      (pss_one (ps_ret (pe_tupZ (pa_cons (pe_callTy zc_tup (by rfl) T.b_tuple (by decide +kernel) (pa_cons (pv 4) pa_nil)) (pa_cons (pe_op op_add (pv 1) pe_int) pa_nil))))))), ?_⟩
  change (_ : TS) _ [some _, some _, some _, some _, none, none] _
  try dsimp only [cxOf, Cx.nox, Cx.wish]
  walk_at "go"
  refine ⟨Nat.zero_le _, w_alc fun B H1 e1 n1 h1 => ?_⟩
  walk_at "go"
  have at_i : ∀ i, i ≤ ds.length → t.drop (p + (wmAll M (ds.take i)).length) = wmAll M (ds.drop i) ++ 41 :: r := fun i hi => by
    have := wmAll_app M (ds.take i) (ds.drop i)
    rw [List.take_append_drop] at this
    rw [this, List.append_assoc] at hd
    exact drop_at hd
  refine z_while (m0 := ds.length) (fun m σ' H' => ∃ (i : Nat) (xs : List V) (u : Option V), m = ds.length - i ∧ i ≤ ds.length ∧ Ext (mF s) H H' ∧ H' B = some (.lst xs) ∧ JwAll K H' xs (ds.take i) ∧ MAt T.C_Strings H' s L M (ntAll A (ds.take i)) ∧
      σ' = [some (.str (S t)), some (.int ((p + (wmAll M (ds.take i)).length : Nat) : Int)), some (.int (n : Int)), some s, some (.ref B), u])
    (fun σ' H' => ∃ (xs : List V) (u : Option V), Ext (mF s) H H' ∧ H' B = some (.lst xs) ∧ JwAll K H' xs ds ∧ MAt T.C_Strings H' s L M (ntAll A ds) ∧
      σ' = [some (.str (S t)), some (.int ((p + (wmAll M ds).length : Nat) : Int)), some (.int (n : Int)), some s, some (.ref B), u])
    ⟨0, [], none, rfl, Nat.zero_le _, e1.up, h1, by rw [List.take_zero]; exact .nil, by rw [List.take_zero, ntAll]; exact hM.ext e1, by rw [List.take_zero, wmAll]; rfl⟩ ?_ ?_
  · rintro σ' H2 ⟨xs, u, e2, hB, wj, hM2, rfl⟩
    have xl := wj.len
    walk_at "go"
    refine w_tupL (sql hB) (w_alc fun q H3 e3 n3 h3 => ?_)
    walk_at "go"
    refine ⟨sz (by show 2 ≤ _; decide), w_alc fun r2 H4 e4 n4 h4 => ?_⟩
    refine k r2 (.ref q) H4 ((e2.trans e3.up).trans e4.up) ?_ (.tup (sqt (e4.tup h3)) (by omega) ((wj.ext e3).ext e4)) ((hM2.ext e3).ext e4)
    rw [h4, show ((p + (wmAll M ds).length : Nat) : Int) + 1 = ((p + (wmAll M ds).length + 1 : Nat) : Int) by omega]
  · rintro nx' hx m σ' H2 ⟨i, xs, u, rfl, hi, e2, hB, wj, hM2, rfl⟩
    have here := at_i i hi
    walk_at "go"
    refine w_slS (z := S t) (sz (by rw [S_len]; omega)) ?_
    rw [show ((p + (wmAll M (ds.take i)).length : Nat) : Int) + 1 = ((p + (wmAll M (ds.take i)).length + 1 : Nat) : Int) by omega, cut_S, o_cl]
    walk_at "go"
    rw [dec_one]
    rcases Nat.lt_or_eq_of_le hi with lt | rfl
    · obtain ⟨d, hdi⟩ : ∃ d, ds[i]? = some d := ⟨_, List.getElem?_eq_getElem lt⟩
      have hm := List.mem_of_getElem? hdi
      have fd := fit_mem ft hm
      obtain ⟨c, r0, hc, nc⟩ := wm_head M fd
      have dr : ds.drop i = d :: ds.drop (i + 1) := by
        rw [List.drop_eq_getElem_cons lt]
        rw [List.getElem?_eq_getElem lt] at hdi
        rw [Option.some.inj hdi]
      rw [dr, wmAll, List.append_assoc] at here
      have hc1 := get_at (show t.drop (p + (wmAll M (ds.take i)).length) = c :: (r0 ++ (wmAll M (ds.drop (i + 1)) ++ 41 :: r)) by rw [here, hc]; rfl)
      refine w_t (by rw [hc1, decide_eq_false fun z => nc (Option.some.inj z)]; rfl) ?_
      refine ⟨_, fun σ' H' z => z, ?_⟩
      walk_at "go"
      refine ⟨_, _, _, _, rfl, t, _, L, M, _, d, _, rfl, rfl, rfl, tl, hM2, fun N z => ?_, here, fd, dd d hm, fun u2 v H3 e3 h3 hj hM3 => ?_⟩
      · rw [← nt_take hdi]
        exact (nt_part _).trans (hn N z)
      · have xl := wj.len
        have hB3 := e3.keep _ _ hB (hM.ne n1)
        rw [List.length_take] at xl
        walk_at "go"
        refine w_append hB3 (szl (by omega)) (w_chg hB3 (fun z => z) fun H4 e4 h4 => ?_)
        refine ⟨_, by omega, i + 1, _, some v, rfl, by omega, (e2.trans e3).dropq e4 n1, h4, by rw [take_one hdi]; exact ((wj.ext e3).snoc hj).ext e4, by rw [nt_take hdi]; exact hM3.chg hM n1 e4, ?_⟩
        rw [take_one hdi, wmAll_app, List.length_append, show wmAll M [d] = wm M d from by rw [wmAll, wmAll, List.append_nil], ← Nat.add_assoc]
        rfl
    · rw [List.drop_length, wmAll, List.nil_append] at here
      refine w_f (by rw [get_at here, decide_eq_true rfl]; rfl) ?_
      rw [List.take_length] at wj hM2 ⊢
      exact hx _ _ ⟨xs, u, e2, hB, wj, hM2, rfl⟩
theorem ok_tupN_no (T : Txt K mg) (TE : Errs P K mg) : FnOk P w K mg base (CX P w) 1 T.f_tuple_at T.d_tuple_at ["text", "place", "room", "strings"] (sp_tupN' T.C_Strings 0 K) :=
  ⟨fun _ _ _ _ h => by obtain ⟨_, _, _, _, _, h⟩ := h; exact h.elim, fun _ _ _ _ _ _ _ _ _ _ _ _ _ h => by obtain ⟨_, _, _, _, _, h⟩ := h; exact h.elim⟩
theorem step_value (T : Txt K mg) (TE : Errs P K mg)  (n l : Nat) (ih : FnOk P w K mg base (CX P w) (l + 5) T.f_tuple_at T.d_tuple_at ["text", "place", "room", "strings"] (sp_tupN' T.C_Strings n K)) : FnOk P w K mg base (L2.CX P w) (l+6) T.f_value_at T.d_value_at ["text", "place", "room", "strings"] (sp_valN n T.C_Strings K) := by
  refine T.F_value_at.okX sc_value_at len4X (fun cdv A outer s H vs Q E hr h => ?_)
  have nd := sc_value_at.nd
  have hu := hu_of hr
  obtain ⟨_, _, _, s, rfl, t, p, L, M, A, d, r, rfl, rfl, rfl, tl, hM, hn, hd, ft, dd, k⟩ := h
  refine ⟨_,
      (pss_cons (ps_set (i := 4) nd rfl (Or.inl rfl) (pe_slice sl_str (pv 0) (po_some (pv 1)) (po_some (pe_op op_add (pv 1) pe_int)))) 
      (pss_cons (ps_if (pt_cmpR op_eq (pv 4) pe_str (nomark _)) 
        (pss_one (ps_ret (pe_tupZ (pa_cons pe_non (pa_cons (pe_op op_add (pv 1) pe_int) pa_nil))))) pss_nil) 
      (pss_cons (ps_if (PW.pt (pw_or (pt_cmpR op_eq (pv 4) pe_str (nomark _)) (pw_or1 (pt_cmpR op_eq (pv 4) pe_str (nomark _))))) 
        (pss_one (ps_ret (pe_tupZ (pa_cons (pe_cmpR op_eq (pv 4) pe_str (nomark _)) (pa_cons (pe_op op_add (pv 1) pe_int) pa_nil))))) pss_nil) 
      (pss_cons (ps_if (pt_cmpR op_eq (pv 4) pe_str (nomark _)) 
        (pss_one (ps_ret (pe_callS (ok_integer_at T TE) (hr.mono (by first | decide | omega)) (by rfl) T.g_integer_at T.F_integer_at.kp T.k_integer_at (fun σ => passAt (takes_of rfl rfl rfl rfl) σ) (pa_cons (pv 0) (pa_cons (pe_op op_add (pv 1) pe_int) pa_nil))))) pss_nil) 
      (pss_cons (ps_if (PW.pt (pw_and (pt_cmpR op_eq (pv 4) pe_str (nomark _)) (pw_and1 (pt_cmpR zop_isN (pv 3) pe_non (nomark _))))) 
        (pss_one (ps_ret (pe_callS (ok_string_at T TE) (hr.mono (by first | decide | omega)) (by rfl) T.g_string_at T.F_string_at.kp T.k_string_at (fun σ => passAt (takes_of rfl rfl rfl rfl) σ) (pa_cons (pv 0) (pa_cons (pe_op op_add (pv 1) pe_int) pa_nil))))) pss_nil) 
      (pss_cons (ps_if (PW.pt (pw_and (pt_cmpR op_eq (pv 4) pe_str (nomark _)) (pw_and1 (pt_cmpR zop_notN (pv 3) pe_non (nomark _))))) 
        (pss_one (ps_ret (pe_callS (ok_named_at T TE) (hr.mono (by first | decide | omega)) (by rfl) T.g_named_at T.F_named_at.kp T.k_named_at (fun σ => passAt (takes_of rfl rfl rfl rfl) σ) (pa_cons (pv 0) (pa_cons (pe_op op_add (pv 1) pe_int) (pa_cons (pv 3) pa_nil)))))) pss_nil) 
      (pss_cons (ps_if (PW.pt (pw_and (pt_cmpR op_eq (pv 4) pe_str (nomark _)) (pw_and1 (pt_cmpR op_gt (pv 2) pe_int (nomark _))))) 
        (pss_one (ps_ret (pe_callS ih (hr.mono (by omega)) (by rfl) T.g_tuple_at T.F_tuple_at.kp T.k_tuple_at (fun σ => passAt (takes_of rfl rfl rfl rfl) σ) (pa_cons (pv 0) (pa_cons (pe_op op_add (pv 1) pe_int) (pa_cons (pe_op op_sub (pv 2) pe_int) (pa_cons (pv 3) pa_nil))))))) pss_nil) 
      (pss_one (ps_raise rfl (takes_of rfl rfl rfl rfl) (pmk_own0 PySem.F.excBase_ValueError TE.q_BadText TE.g_BadText TE.k_BadText (raises_own TE.s_BadText TE.y_BadText) rfl)))))))))), ?_⟩
  change (_ : TS) _ [some _, some _, some _, some _, none] _
  try dsimp only [cxOf, Cx.nox, Cx.wish]
  walk_at "go"
  refine w_slS (z := S t) (sz (by rw [S_len]; omega)) ?_
  have one : (p : Int) + 1 = ((p + 1 : Nat) : Int) := by omega
  rw [one, cut_S]
  cases d with
  | none =>
    have hc : t.drop p = 45 :: r := hd
    rw [seg_one (get_at hc)]
    walk_at "go"; walk_at "if"
    refine w_t (by decide +kernel) ?_
    walk_at "go"
    refine ⟨sz (by show 2 ≤ _; decide), w_alc fun u H1 e1 n1 h1 => ?_⟩
    rw [one] at h1
    exact k u .non H1 e1.up h1 .non (hM.ext e1)
  | bool b =>
    have hc : t.drop p = (if b = true then 121 else 110) :: r := hd
    rw [seg_one (get_at hc)]
    cases b with
    | true =>
      walk_at "go"; walk_at "if"
      refine w_f (by decide +kernel) ?_
      walk_at "go"; walk_at "if"
      refine w_t (by decide +kernel) ?_
      walk_at "go"
      refine ⟨sz (by show 2 ≤ _; decide), w_alc fun u H1 e1 n1 h1 => ?_⟩
      rw [one, show decide (S [if true = true then 121 else 110] = Str.ofString "y") = true by decide +kernel] at h1
      exact k u (.bl true) H1 e1.up h1 (.bl true) (hM.ext e1)
    | false =>
      walk_at "go"; walk_at "if"
      refine w_f (by decide +kernel) ?_
      walk_at "go"; walk_at "if"
      refine w_f (by decide +kernel) ?_
      walk_at "go"
      refine w_t (by decide +kernel) ?_
      walk_at "go"
      refine ⟨sz (by show 2 ≤ _; decide), w_alc fun u H1 e1 n1 h1 => ?_⟩
      rw [one, show decide (S [if false = true then 121 else 110] = Str.ofString "y") = false by decide +kernel] at h1
      exact k u (.bl false) H1 e1.up h1 (.bl false) (hM.ext e1)
  | int i =>
    have hc : t.drop p = 105 :: ((intL i ++ [59]) ++ r) := hd
    have h1 := next_at hc
    rw [List.append_assoc] at h1
    rw [fit] at ft
    have er := rNum_at h1 ft
    have lt := lt_at hc
    rw [seg_one (get_at hc)]
    walk_at "go"; walk_at "if"
    refine w_f (by decide +kernel) ?_
    walk_at "go"; walk_at "if"
    refine w_f (by decide +kernel) ?_
    walk_at "go"
    refine w_f (by decide +kernel) ?_
    walk_at "go"; walk_at "if"
    refine w_t (by decide +kernel) ?_
    walk_at "go"
    rw [one]
    refine w_integer tl (by omega) ⟨fun z => (by rw [er] at z; cases z), fun d e z a v H1 e1 h1 hj => ?_⟩
    rw [er] at z
    cases z
    refine k a v H1 e1.up ?_ hj (hM.ext e1)
    rw [h1, wm, List.length_cons, List.length_append, List.length_singleton, show p + 1 + (intL i).length + 1 = p + ((intL i).length + 1 + 1) by omega]
  | str x =>
    rw [fit] at ft
    cases M with
    | none =>
      obtain rfl : s = .non := hM
      have hc : t.drop p = 116 :: ((intL (x.length : Int) ++ 58 :: x.cps.toList) ++ r) := hd
      have h1 := next_at hc
      rw [List.append_assoc] at h1
      have er := rTxt_at (b := r) h1 ft.1 ft.2
      have lt := lt_at hc
      rw [seg_one (get_at hc)]
      walk_at "go"; walk_at "if"
      refine w_f (by decide +kernel) ?_
      walk_at "go"; walk_at "if"
      refine w_f (by decide +kernel) ?_
      walk_at "go"
      refine w_f (by decide +kernel) ?_
      walk_at "go"; walk_at "if"
      refine w_f (by decide +kernel) ?_
      walk_at "go"; walk_at "if"
      refine w_t (by decide +kernel) ?_
      walk_at "go"
      refine w_t rfl ?_
      walk_at "go"
      rw [one]
      refine w_string tl (by omega) ⟨fun z => (by rw [er] at z; cases z), fun d e z a v H1 e1 h1 hj => ?_⟩
      rw [er] at z
      cases z
      refine k a v H1 e1.up ?_ hj rfl
      rw [h1, wm]
      simp only [List.length_cons, List.length_append, len_tl]
      rw [show p + 1 + (intL (x.length : Int)).length + 1 + x.length = p + ((intL (x.length : Int)).length + (x.length + 1) + 1) by omega]
    | some N =>
      obtain ⟨a, dx, rfl, _⟩ := id hM
      have hc : t.drop p = 115 :: ((intL ((N.idxOf x : Nat) : Int) ++ [59]) ++ r) := hd
      have h1 := next_at hc
      rw [List.append_assoc] at h1
      rw [seg_one (get_at hc)]
      walk_at "go"; walk_at "if"
      refine w_f (by decide +kernel) ?_
      walk_at "go"; walk_at "if"
      refine w_f (by decide +kernel) ?_
      walk_at "go"
      refine w_f (by decide +kernel) ?_
      walk_at "go"; walk_at "if"
      refine w_f (by decide +kernel) ?_
      walk_at "go"; walk_at "if"
      refine w_f (by decide +kernel) ?_
      walk_at "go"; walk_at "if"
      refine w_t (by decide +kernel) ?_
      walk_at "go"
      refine w_t (by rw [isn_ref]; rfl) ?_
      walk_at "go"
      rw [one]
      refine ⟨_, _, _, rfl, t, p + 1, L, N, A, x, r, rfl, rfl, tl, hM, hn N rfl, h1, fun u H1 e1 h2 hM1 => ?_⟩
      refine k u _ H1 e1 ?_ (.str x) hM1
      rw [h2, wm, List.length_cons, List.length_append, List.length_singleton, show p + 1 + (intL ((N.idxOf x : Nat) : Int)).length + 1 = p + ((intL ((N.idxOf x : Nat) : Int)).length + 1 + 1) by omega]
  | tuple ds =>
    rw [fit] at ft
    have hc : t.drop p = 40 :: ((wmAll M ds ++ [41]) ++ r) := hd
    have h1 := next_at hc
    rw [List.append_assoc] at h1
    rw [d_tup] at dd
    cases n with
    | zero => omega
    | succ n =>
    rw [seg_one (get_at hc)]
    walk_at "go"; walk_at "if"
    refine w_f (by decide +kernel) ?_
    walk_at "go"; walk_at "if"
    refine w_f (by decide +kernel) ?_
    walk_at "go"
    refine w_f (by decide +kernel) ?_
    walk_at "go"; walk_at "if"
    refine w_f (by decide +kernel) ?_
    walk_at "go"; walk_at "if"
    refine w_f (by decide +kernel) ?_
    walk_at "go"; walk_at "if"
    refine w_f (by decide +kernel) ?_
    walk_at "go"; walk_at "if"
    refine w_t (by decide +kernel) ?_
    walk_at "go"
    refine w_t (decide_eq_true (by omega)) ?_
    walk_at "go"
    rw [one, show ((n + 1 : Nat) : Int) - 1 = ((n : Nat) : Int) by omega]
    refine ⟨_, _, _, _, rfl, t, p + 1, L, M, A, ds, r, rfl, rfl, rfl, tl, hM, fun N z => by have := hn N z; rwa [nt] at this, h1, ft.2, ft.1, fun d m => by have := dAll_mem m; omega, fun u v H1 e1 h2 hj hM1 => ?_⟩
    refine k u v H1 e1 ?_ hj (by rw [nt]; exact hM1)
    rw [h2, wm, List.length_cons, List.length_append, List.length_singleton, show p + 1 + (wmAll M ds).length + 1 = p + ((wmAll M ds).length + 1 + 1) by omega]
  | list _ => exact False.elim ft
  | dict _ => exact False.elim ft
theorem ok_val_all (T : Txt K mg) (TE : Errs P K mg) : ∀ n, FnOk P w K mg base (CX P w) (2 * n + 6) T.f_value_at T.d_value_at ["text", "place", "room", "strings"] (sp_valN n T.C_Strings K)
  | 0 => step_value T TE 0 0 (.mono (ok_tupN_no T TE) (by decide))
  | n + 1 => step_value T TE (n + 1) (2 * n + 2) (step_tuple T TE n (2 * n + 6) (ok_val_all T TE n))
def sp_value_at (C : Addr) (K : PySem.W.Frag) : Sp := sp_valN 16 C K
theorem ok_value_at (T : Txt K mg) (TE : Errs P K mg) : FnOk P w K mg base (CX P w) 38 T.f_value_at T.d_value_at ["text", "place", "room", "strings"] (sp_value_at T.C_Strings K) := ok_val_all T TE 16
def sp_read_named (C : Addr) (K : PySem.W.Frag) : Sp := sp2X fun a s H Q E => ∃ (L : Addr) (M : Option (List Str)) (A : List Str) (d : PyData), a = .str (S (wm M d)) ∧ (wm M d).length ≤ 500000 ∧ MAt C H s L M A ∧ (∀ N, M = some N → nt A d <+: N) ∧ fit d ∧ d.depth ≤ 16 ∧
  ∀ v H', Ext (mF s) H H' → Jw K H' v d → MAt C H' s L M (nt A d) → Q v H'
theorem ok_read_named (T : Txt K mg) (TE : Errs P K mg) : FnOk P w K mg base (L2.CX P w) 45 T.f_read_named T.d_read_named ["text", "strings"] (sp_read_named T.C_Strings K) := by
  refine T.F_read_named.okX sc_read_named len2X (fun cdv A outer s H vs Q E hr h => ?_)
  have nd := sc_read_named.nd
  have hu := hu_of hr
  obtain ⟨_, s, rfl, L, M, A, d, rfl, tl, hM, hn, ft, dd, k⟩ := h
  refine ⟨_,
      (pss_cons (ps_asg (pe_callS (ok_value_at T TE) (hr.mono (by decide)) (by rfl) T.g_value_at T.F_value_at.kp T.k_value_at (fun σ => passAt (takes_of rfl rfl rfl rfl) σ) (pa_cons (pv 0) (pa_cons pe_int (pa_cons (pe_glob rfl T.g_DEEPEST T.r_DEEPEST) (pa_cons (pv 1) pa_nil))))) (pg_tup (by rfl) (pgs_cons (pg_name (i := 2) nd rfl (Or.inl rfl)) (pgs_cons (pg_name (i := 3) nd rfl (Or.inl rfl)) pgs_nil)))) 
      (pss_cons (ps_if (pt_cmpR op_ne (pv 3) (pe_callB zc_len (by rfl) T.b_len (by decide +kernel) (pa_cons (pv 0) pa_nil)) (nomark _)) 
        (pss_one (ps_raise rfl (takes_of rfl rfl rfl rfl) (pmk_own0 PySem.F.excBase_ValueError TE.q_BadText TE.g_BadText TE.k_BadText (raises_own TE.s_BadText TE.y_BadText) rfl))) pss_nil) 
      (pss_one (ps_ret (pv 2))))), ?_⟩
  change (_ : TS) _ [some _, some _, none, none] _
  try dsimp only [cxOf, Cx.nox, Cx.wish]
  walk_at "go"
  refine ⟨_, _, _, _, rfl, wm M d, 0, L, M, A, d, [], rfl, rfl, rfl, tl, hM, hn, by rw [List.drop_zero, List.append_nil], ft, dd, fun u v H1 e1 h1 hj hM1 => ?_⟩
  rw [Nat.zero_add] at h1
  walk_at "go"; walk_at "if"
  refine w_lenS (sz (by rw [S_len]; omega)) ?_
  rw [S_len]
  walk_at "go"
  refine w_f (by rw [decide_eq_true rfl]; rfl) ?_
  walk_at "go"
  exact k v H1 e1 hj hM1
def sp_read_value (C : Addr) (K : PySem.W.Frag) : Sp := sp1X fun a H Q E => ∃ (d : PyData), a = .str (S (wm none d)) ∧ (wm none d).length ≤ 500000 ∧ fit d ∧ d.depth ≤ 16 ∧ ∀ v H', Ext [] H H' → Jw K H' v d → Q v H'
theorem ok_read_value (T : Txt K mg) (TE : Errs P K mg) : FnOk P w K mg base (L2.CX P w) 46 T.f_read_value T.d_read_value ["text"] (sp_read_value T.C_Strings K) := by
  refine T.F_read_value.okX sc_read_value len1X (fun cdv A outer s H vs Q E hr h => ?_)
  have nd := sc_read_value.nd
  have hu := hu_of hr
  obtain ⟨_, rfl, d, rfl, tl, ft, dd, k⟩ := h
  refine ⟨_,
      (pss_one (ps_ret (pe_callS (ok_read_named T TE) (hr.mono (by decide)) (by rfl) T.g_read_named T.F_read_named.kp T.k_read_named (fun σ => passAt (takes_of rfl rfl rfl rfl) σ) (pa_cons (pv 0) (pa_cons pe_non pa_nil))))), ?_⟩
  change (_ : TS) _ [some _] _
  try dsimp only [cxOf, Cx.nox, Cx.wish]
  walk_at "go"
  exact ⟨_, _, rfl, 0, none, [], d, rfl, tl, rfl, (fun _ z => nomatch z), ft, dd, fun v H' e hj _ => k v H' e hj⟩

open SX PySem.NumText
/-! ### checks of lines -/
theorem zf_num (n : Nat) : Txt.zfill (S (intL (n : Int))) 5 = S (List.replicate (5 - (intL (n : Int)).length) 48 ++ intL (n : Int)) := by
  have al := nat_digs n
  have ne := nat_ne n
  generalize intL (n : Int) = d at al ne
  cases d with
  | nil => exact absurd rfl ne
  | cons c r =>
  have cb := al c List.mem_cons_self
  unfold Txt.zfill
  rw [S_len]
  by_cases h : (5 : Int) ≤ ((c :: r).length : Int)
  · rw [if_pos h, show 5 - (c :: r).length = 0 by omega, List.replicate_zero, List.nil_append]
  · rw [if_neg h]
    unfold zfilled
    rw [show (S (c :: r)).cps[0]? = some c from rfl]
    split
    · next e => cases e; omega
    · next e => cases e; omega
    · refine str_tl ?_
      show (Array.replicate _ 48 ++ (c :: r).toArray ++ Array.replicate 0 48).toList = List.replicate _ 48 ++ (c :: r)
      simp
theorem plc_if {c : Nat} (h : c ∈ alph.cps.toList) : (if (c : Int) < 37 then (c : Int) - 32 else (c : Int) - 33) = ((plc c : Nat) : Int) := by
  have k : ∀ c ∈ alph.cps.toList, 32 ≤ c := by decide +kernel
  have := k c h
  unfold plc
  by_cases q : c < 37
  · rw [if_pos q, if_pos (by omega)]; omega
  · rw [if_neg q, if_neg (by omega)]
    have k2 : ∀ c ∈ alph.cps.toList, c ≠ 37 := by decide +kernel
    omega
theorem plc_lt {c : Nat} (h : c ∈ alph.cps.toList) : plc c < 94 := by
  have k : ∀ c ∈ alph.cps.toList, plc c < 94 := by decide +kernel
  exact k c h
theorem tot_le {row : Nat} {l : List Nat} (al : Al l) (r : row ≤ 60000) : ∀ i, i ≤ l.length → tot row l i ≤ 420000 + i * 9499050
  | 0, _ => by unfold tot; omega
  | i + 1, h => by
    have := tot_le al r i (by omega)
    obtain ⟨c, hc⟩ : ∃ c, l[i]? = some c := ⟨_, List.getElem?_eq_getElem h⟩
    have pl := plc_lt (al c (List.mem_of_getElem? hc))
    have e : l.getD i 0 = c := by rw [List.getD_eq_getElem?_getD, hc]; rfl
    have m : i % 99990 + 1 ≤ 99990 := Nat.mod_lt _ (by decide)
    have mm : (i % 99990 + 1) * (plc c + 1) ≤ 99990 * 95 := Nat.mul_le_mul m (by omega)
    have u : tot row l (i + 1) = tot row l i + (i % 99990 + 1) * (plc c + 1) := by rw [tot, e]
    rw [u]
    generalize (i % 99990 + 1) * (plc c + 1) = m at *
    omega
theorem tot_next {row i c : Nat} {l : List Nat} (hc : l[i]? = some c) : (tot row l i : Int) + ((i : Int) % 99990 + 1) * ((plc c : Int) + 1) = ((tot row l (i + 1) : Nat) : Int) := by
  have e : l.getD i 0 = c := by rw [List.getD_eq_getElem?_getD, hc]; rfl
  have u : ((i % 99990 : Nat) : Int) = (i : Int) % 99990 := by omega
  rw [tot, e, Int.natCast_add, Int.natCast_mul, Int.natCast_add, Int.natCast_add, u]
  rfl
theorem w_iEnumS {ta : TA} {σ : L2.St} {H : Hp} {R : It → Hp → Prop} (h : ta σ H fun vs H1 => ∃ x, vs = [.str x] ∧ R (IteS x) H1) : iEnumS ta σ H R := h
theorem w_iEnumL {ta : TA} {σ : L2.St} {H : Hp} {R : It → Hp → Prop} (h : ta σ H fun vs H1 => ∃ a xs, vs = [.ref a] ∧ SqL K H1 a xs ∧ R (Ite K a) H1) : iEnum K ta σ H R := h
theorem S_at {l : List Nat} {i c : Nat} (h : (S l).cps[i]? = some c) : l[i]? = some c := by
  rw [← Array.getElem?_toList] at h
  exact h
def sp_check_of (K : PySem.W.Frag) : Sp := sp2 fun a b H Q => ∃ (row : Nat) (l : List Nat), a = .int (row : Int) ∧ b = .str (S l) ∧ row ≤ 60000 ∧ l.length ≤ 500000 ∧ Al l ∧ ∀ H', Ext [] H H' → Q (.str (S (ck row l))) H'
theorem ok_check_of (T : Txt K mg) : FnOk P w K mg base CX0 1 T.f_check_of T.d_check_of ["row", "line"] (sp_check_of K) := by
  refine T.F_check_of.ok sc_check_of len2 (fun cdv A outer s H vs Q E hr h => ?_)
  have nd := sc_check_of.nd
  have hu := hu_of hr
  obtain ⟨_, _, rfl, row, l, rfl, rfl, r6, ll, al, k⟩ := h
  refine ⟨_,
      (pss_cons (ps_set (i := 2) nd rfl (Or.inl rfl) (pe_op op_mul pe_int (pv 0))) 
      (pss_cons (ps_for PassesOwn.never rfl (pi_enumS (by rfl) T.b_enumerate (pa_cons (pv 1) pa_nil)) (pg_tup (by rfl) (pgs_cons (pg_name (i := 3) nd rfl (Or.inl rfl)) (pgs_cons (pg_name (i := 4) nd rfl (Or.inl rfl)) pgs_nil))) 
        (pss_cons (ps_set (i := 5) nd rfl (Or.inl rfl) (pe_callB call_ord (by rfl) T.b_ord (by decide +kernel) (pa_cons (pv 4) pa_nil))) 
        (pss_cons (ps_set (i := 6) nd rfl (Or.inl rfl) (pe_ifExp (pt_cmpR op_lt (pv 5) pe_int (nomark _)) (pe_op op_sub (pv 5) pe_int) (pe_op op_sub (pv 5) pe_int))) 
        (pss_one (ps_set (i := 2) nd rfl (Or.inl rfl) (pe_op op_add (pv 2) (pe_op op_mulW (pe_op op_add (pe_op op_mod (pv 3) pe_int) pe_int) (pe_op op_add (pv 6) pe_int)))))))) 
      (pss_one (ps_ret (pe_bm PySem.F.plainAttrs_str PySem.F.slot_str_zfill PySem.F.type_str_zfill mt_zfill (pe_callTy zc_str (by rfl) T.b_str (by decide +kernel) (pa_cons (pe_op op_mod (pv 2) (pe_glob rfl T.g_MODULUS T.r_MODULUS)) pa_nil)) (pa_cons pe_int pa_nil)))))), ?_⟩
  change (_ : TS) _ [some _, some _, none, none, none, none, none] _
  try dsimp only [cxOf, Cx.nox, Cx.wish]
  walk_at "go"
  refine w_iEnumS ?_
  walk_at "go"
  refine ⟨S l, rfl, ?_⟩
  refine z_for_enumS (fun i σ' H' => Ext [] H H' ∧ ∃ u1 u2 u3 u4, σ' = [some (.int (row : Int)), some (.str (S l)), some (.int (tot row l i : Int)), u1, u2, u3, u4]) ⟨Ext.refl, none, none, none, none, rfl⟩ ?_ ?_
  · rintro N i c σ' H1 hc ⟨e1, u1, u2, u3, u4, rfl⟩ hN T1 H2 e2 n2 h2
    have hc' := S_at hc
    have hm := al c (List.mem_of_getElem? hc')
    walk_at "go"
    refine ⟨_, rfl, rfl, ?_⟩
    walk_at "go"
    refine w_cutE (fun v H' => H2 = H' ∧ v = .int ((plc c : Nat) : Int)) ?_ fun Q' hQ => ?_
    · rintro _ _ ⟨rfl, rfl⟩
      walk_at "go"
      have pl := plc_lt hm
      refine w_I (by
        have a1 := log_lt (n := ((i : Int) % 99990 + 1).natAbs) (Nat.lt_of_lt_of_le (show _ < 100000 by omega) (by decide))
        have a2 := log_lt (n := ((plc c : Int) + 1).natAbs) (Nat.lt_of_lt_of_le (show _ < 100 by omega) (by decide))
        unfold CMulW
        omega) ?_
      walk_at "go"
      rw [tot_next hc']
      exact hN _ _ ⟨e1.trans e2, _, _, _, _, rfl⟩
    · have pi := plc_if hm
      walk_at "ife"
      walk_at "go"
      refine w_d (fun h => ?_) fun h => ?_ <;> walk_at "go"
      · rw [if_pos (show (c : Int) < 37 from h)] at pi
        exact hQ _ _ ⟨rfl, congrArg V.int pi⟩
      · rw [if_neg (show ¬ (c : Int) < 37 from h)] at pi
        exact hQ _ _ ⟨rfl, congrArg V.int pi⟩
  · rintro σ' H1 ⟨e1, u1, u2, u3, u4, rfl⟩
    walk_at "go"
    have ml : tot row l l.length % 99991 < 99991 := Nat.mod_lt _ (by decide)
    rw [show (tot row l (S l).cps.size : Int) % 99991 = ((tot row l l.length % 99991 : Nat) : Int) by rw [show (S l).cps.size = l.length from rfl]; omega]
    refine w_strI (log_lt (by rw [Int.natAbs_natCast]; exact Nat.lt_trans ml (by decide))) ?_
    refine ⟨rfl, ?_⟩
    walk_at "go"
    refine ⟨_, _, rfl, rfl, rfl, ?_⟩
    rw [zf_num]
    exact k _ e1
theorem w_check {H : Hp} {row : Nat} {l : List Nat} {Q : VK} {E : XK} (r : row ≤ 60000) (ll : l.length ≤ 500000) (al : Al l) (k : ∀ H', Ext [] H H' → Q (.str (S (ck row l))) H') : sp_check_of K ([.int (row : Int), .str (S l)] ++ []) H Q E := ⟨_, _, rfl, row, l, rfl, rfl, r, ll, al, k⟩
theorem ckd_at {ls : List (List Nat)} {i : Nat} {l : List Nat} (h : ls[i]? = some l) : (ckd ls)[i]? = some (ck i l ++ l) := by
  unfold ckd
  rw [List.getElem?_mapIdx, h]; rfl
theorem ckd_len (ls : List (List Nat)) : (ckd ls).length = ls.length := List.length_mapIdx
def tx (l : List Nat) : V := .str (S l)
theorem ckd_take {ls : List (List Nat)} {i : Nat} {l : List Nat} (h : ls[i]? = some l) : ((ckd ls).take i).map tx ++ [tx (ck i l ++ l)] = ((ckd ls).take (i + 1)).map tx := by
  rw [take_one (ckd_at h), List.map_append]; rfl
/-- a list of lines -/
def LnAt (H : Hp) (a : Addr) (ls : List (List Nat)) : Prop := H a = some (.lst (ls.map tx))
structure LnOk (ls : List (List Nat)) (n : Nat) : Prop where
  len : ls.length ≤ 60000
  al : ∀ l ∈ ls, Al l
  sz : ∀ l ∈ ls, l.length ≤ n
def sp_checked (K : PySem.W.Frag) : Sp := sp1 fun a H Q => ∃ (q : Addr) (ls : List (List Nat)), a = .ref q ∧ LnAt H q ls ∧ LnOk ls 500000 ∧ ∀ r H', Ext [] H H' → H r = none → LnAt H' r (ckd ls) → Q (.ref r) H'
theorem ok_checked (T : Txt K mg) : FnOk P w K mg base CX0 2 T.f_checked T.d_checked ["lines"] (sp_checked K) := by
  refine T.F_checked.ok sc_checked len1 (fun cdv A outer s H vs Q E hr h => ?_)
  have nd := sc_checked.nd
  have hu := hu_of hr
  obtain ⟨_, rfl, q, ls, rfl, hq, ok, k⟩ := h
  refine ⟨_,
      (pss_one (ps_ret (pe_lc (own := [("row", 1), ("line", 2)]) rfl nd (pi_enum (by rfl) T.b_enumerate (pa_cons (pv 0) pa_nil)) (blkOk_by (own := [("row", 1), ("line", 2)]) (N := ["lines", "row", "line"]) (sc := defScope s_checked) (by decide +kernel)) (fun _ _ _ _ _ => (pg_tupK (K := K) (n := 2) rfl rfl (pgs_cons (pg_name (i := 1) nd rfl (Or.inl rfl)) (pgs_cons (pg_name (i := 2) nd rfl (Or.inl rfl)) pgs_nil)))) (fun _ _ _ _ _ => pts_nil) (fun _ _ _ _ _ => (pe_op zop_addS (pe_call (ok_check_of T) (hr.mono (by decide)) (by rfl) T.g_check_of T.F_check_of.kp T.k_check_of .nil pass0 (pa_cons (pv 1) (pa_cons (pv 2) pa_nil))) (pv 2)))))), ?_⟩
  change (_ : TS) _ [some _, none, none] _
  try dsimp only [cxOf, Cx.nox, Cx.wish]
  have ll := ok.len
  unfold LnAt at hq
  walk_at "go"
  refine w_iEnumL ?_
  walk_at "go"
  refine ⟨q, _, rfl, sql hq, fun D nD => ?_⟩
  refine z_lc_enumL (xs := ls.map tx) (fun i acc H' => Ext [] H H' ∧ acc = ((ckd ls).take i).map tx) nD (fun H' e => ⟨e.up, rfl⟩) (fun i acc H' _ h => sql (h.1.keep _ _ hq List.not_mem_nil)) ?_ ?_
  · rintro Nx i x acc H1 hx ⟨e1, rfl⟩ hD hN T1 H2 e2 n2 h2
    rw [List.getElem?_map] at hx
    cases hl : ls[i]? with
    | none => rw [hl] at hx; cases hx
    | some l =>
    rw [hl] at hx
    cases hx
    have hm := List.mem_of_getElem? hl
    have li := (List.getElem?_eq_some_iff.mp hl).1
    walk_at "go"
    refine ⟨rfl, ?_⟩
    walk_at "go"
    refine w_check (by omega) (ok.sz l hm) (ok.al l hm) fun H3 e3 => ?_
    walk_at "go"
    refine w_addS (sz (by rw [S_len, S_len, ck_len]; have := ok.sz l hm; omega)) ?_
    rw [S_cat]
    refine w_app (e3.keep _ _ (e2.keep _ _ hD List.not_mem_nil) List.not_mem_nil) (szl (by rw [List.length_map, List.length_take]; omega)) fun H4 e4 hD4 => ?_
    refine hN _ _ ⟨((e1.trans e2).trans e3).dropq e4 nD, ckd_take hl⟩ hD4
  · rintro acc H1 ⟨e1, rfl⟩ hD
    rw [List.length_map, List.take_of_length_le (by rw [ckd_len]; omega)] at hD
    exact k D H1 e1 nD hD
theorem w_checked {H : Hp} {q : Addr} {ls : List (List Nat)} {Q : VK} {E : XK} (hq : LnAt H q ls) (ok : LnOk ls 500000) (k : ∀ r H', Ext [] H H' → H r = none → LnAt H' r (ckd ls) → Q (.ref r) H') : sp_checked K ([.ref q] ++ []) H Q E := ⟨_, rfl, q, ls, rfl, hq, ok, k⟩

open SX PySem.NumText
/-! ### writing files -/
structure Vls (ds : List PyData) : Prop where
  len : ds.length ≤ 50000
  ft : ∀ d ∈ ds, fit d
  dep : ∀ d ∈ ds, d.depth ≤ 16
  sz : ∀ d ∈ ds, (wr d).length ≤ 110000
  tot : (wrAll ds).length ≤ 330000
theorem lens_ne : ∀ {N : List Str}, (∀ x ∈ N, 1 ≤ x.length) → 4 * N.length ≤ lensS N
  | [], _ => Nat.zero_le _
  | x :: N, h => by
    have := lens_ne (N := N) fun y m => h y (List.mem_cons_of_mem _ m)
    have hx := h x List.mem_cons_self
    have e : lensS (x :: N) = (wr (.str x)).length + lensS N := by unfold lensS; simp
    have ln := List.length_pos_iff.mpr (nat_ne x.length)
    rw [e, wr, List.length_cons, List.length_cons, List.length_append, List.length_cons, len_tl]
    omega
theorem lens_nd : ∀ {N : List Str}, N.Nodup → 4 * N.length ≤ lensS N + 1
  | [], _ => Nat.zero_le _
  | x :: N, h => by
    have hn := List.nodup_cons.mp h
    have e : lensS (x :: N) = (wr (.str x)).length + lensS N := by unfold lensS; simp
    have ln := List.length_pos_iff.mpr (nat_ne x.length)
    have ew : (wr (.str x)).length = (intL (x.length : Int)).length + (x.length + 1) + 1 := by rw [wr, List.length_cons, List.length_append, List.length_cons, len_tl]
    rw [e, List.length_cons]
    by_cases z : x.length = 0
    · have := lens_ne (N := N) fun y m => by
        rcases Nat.eq_zero_or_pos y.length with q | q
        · refine absurd m ?_
          rw [show y = x from str_tl (by
            have a : y.cps.toList = [] := List.eq_nil_of_length_eq_zero (by rw [len_tl]; exact q)
            have b : x.cps.toList = [] := List.eq_nil_of_length_eq_zero (by rw [len_tl]; exact z)
            rw [a, b])]
          exact hn.1
        · exact q
      omega
    · have := lens_nd hn.2
      omega
theorem Vls.nms {ds : List PyData} (h : Vls ds) : lensS (names ds) ≤ 330000 ∧ (names ds).length ≤ 100000 ∧ ∀ x ∈ names ds, fit (.str x) := by
  have a := ntAll_lens ds []
  have b := lens_nd (ntAll_nodup ds [] List.nodup_nil)
  have c : lensS [] = 0 := rfl
  have t := h.tot
  unfold names
  exact ⟨by omega, by omega, ntAll_in ds [] (fitAll_of h.ft) (by intro _ m; cases m)⟩
theorem Vls.tup {ds : List PyData} (h : Vls ds) : fit (.tuple ((names ds).map .str)) := by
  obtain ⟨a, b, c⟩ := h.nms
  rw [fit]
  refine ⟨by rw [List.length_map]; exact b, fitAll_of fun d m => ?_⟩
  obtain ⟨x, hx, rfl⟩ := List.mem_map.mp m
  exact c x hx
theorem Vls.tup_len {ds : List PyData} (h : Vls ds) : (wm none (.tuple ((names ds).map .str))).length ≤ 330002 := by
  obtain ⟨a, b, c⟩ := h.nms
  have e := wrAll_strs (names ds)
  rw [wm, wmAll_wr, List.length_cons, List.length_append, List.length_singleton]
  omega
theorem Vls.in_names {ds : List PyData} (h : Vls ds) {d : PyData} (m : d ∈ ds) : nt (names ds) d = names ds :=
  nt_mem (ntAll_abs ds [] (names ds) fun _ z => z) d m
theorem strs_dep (N : List Str) : (PyData.tuple (N.map .str)).depth ≤ 1 := by
  rw [d_tup]
  have := depAll_le (n := 0) (ds := N.map .str) fun d m => by
    obtain ⟨x, _, rfl⟩ := List.mem_map.mp m
    exact Nat.le_refl _
  omega
theorem headL_len {f n : Nat} (hf : f < 10) (hn : n < 10 ^ 5) : (headL f n).length ≤ 30 := by
  have a := nat_len (n := f) (k := 1) (by decide) (by omega)
  have b := nat_len (n := n) (k := 5) (by decide) hn
  unfold headL
  simp only [List.length_append, List.length_cons, List.length_nil]
  omega
theorem headL_al (f n : Nat) : Al (headL f n) := al_app (al_app (al_app (by show ∀ c ∈ _, c ∈ alph.cps.toList; decide +kernel) (al_dig (nat_digs f))) (by show ∀ c ∈ _, c ∈ alph.cps.toList; decide +kernel)) (al_dig (nat_digs n))
theorem bare_len (ds : List PyData) (f : Nat) : (bareL ds f).length = ds.length + (if f < 3 then 1 else 2) := by
  unfold bareL
  split <;> simp
theorem bare_ok {ds : List PyData} (h : Vls ds) {f : Nat} (hf : f < 10) : LnOk (bareL ds f) 330100 := by
  have hl := h.len
  obtain ⟨n1, n2, n3⟩ := h.nms
  refine ⟨by rw [bare_len]; split <;> omega, fun l m => ?_, fun l m => ?_⟩
  · unfold bareL at m
    split at m
    · rcases List.mem_cons.mp m with rfl | m
      · exact headL_al _ _
      · obtain ⟨d, hd, rfl⟩ := List.mem_map.mp m
        exact al_wm _ (h.ft d hd)
    · rcases List.mem_cons.mp m with rfl | m
      · exact headL_al _ _
      rcases List.mem_cons.mp m with rfl | m
      · exact al_wm _ h.tup
      · obtain ⟨d, hd, rfl⟩ := List.mem_map.mp m
        exact al_wm _ (h.ft d hd)
  · unfold bareL at m
    have hh := headL_len (f := f) (n := ds.length) hf (by omega)
    split at m
    · rcases List.mem_cons.mp m with rfl | m
      · omega
      · obtain ⟨d, hd, rfl⟩ := List.mem_map.mp m
        have := h.sz d hd
        rw [wm_wr]; omega
    · rcases List.mem_cons.mp m with rfl | m
      · omega
      rcases List.mem_cons.mp m with rfl | m
      · have := h.tup_len; omega
      · obtain ⟨d, hd, rfl⟩ := List.mem_map.mp m
        have := h.sz d hd
        have := wm_len (N := names ds) (by omega) d
        omega
theorem LnOk.mono {ls : List (List Nat)} {m n : Nat} (h : LnOk ls m) (l : m ≤ n) : LnOk ls n := ⟨h.len, h.al, fun x z => Nat.le_trans (h.sz x z) l⟩
theorem w_tupDK {H : Hp} {Q : VK} {a : Addr} {kvs : List (Key × V)} (h : H a = some (.dK kvs)) (q : Alc (.tup (kvs.map fun kv => kV kv.1)) H Q) : rTupD [.ref a] H Q := ⟨a, kvs, rfl, h, q⟩
theorem o_sp : Str.ofString " " = S [32] := by decide +kernel
theorem o_hd : Str.ofString "storelife " = S [115, 116, 111, 114, 101, 108, 105, 102, 101, 32] := by decide +kernel
theorem jw_strs {H : Hp} : ∀ N : List Str, JwAll K H (N.map V.str) (N.map PyData.str)
  | [] => .nil
  | x :: N => .cons (.str x) (jw_strs N)
def sp_write_file (K : PySem.W.Frag) : Sp := sp2 fun a b H Q => ∃ (q : Addr) (xs : List V) (ds : List PyData) (f : Nat), a = .ref q ∧ b = .int (f : Int) ∧ H q = some (.lst xs) ∧ JwAll K H xs ds ∧ Vls ds ∧ 1 ≤ f ∧ f ≤ 3 ∧
  ∀ r H', Ext [] H H' → H r = none → LnAt H' r (fileL ds f) → Q (.ref r) H'
theorem ok_write_file (T : Txt K mg) : FnOk P w K mg base CX0 21 T.f_write_file T.d_write_file ["values", "form"] (sp_write_file K) := by
  refine T.F_write_file.ok sc_write_file len2 (fun cdv A outer s H vs Q E hr h => ?_)
  have nd := sc_write_file.nd
  have hu := hu_of hr
  obtain ⟨_, _, rfl, q, xs, ds, f, rfl, rfl, hq, wj, ok, f1, f3, k⟩ := h
  refine ⟨_,
      (pss_cons (ps_set (i := 2) nd rfl (Or.inl rfl) (pe_op zop_addS (pe_op zop_addS (pe_op zop_addS (pe_glob rfl T.g_HEAD T.r_HEAD) (pe_callTy zc_str (by rfl) T.b_str (by decide +kernel) (pa_cons (pv 1) pa_nil))) pe_str) (pe_callTy zc_str (by rfl) T.b_str (by decide +kernel) (pa_cons (pe_callB zc_len (by rfl) T.b_len (by decide +kernel) (pa_cons (pv 0) pa_nil)) pa_nil)))) 
      (pss_cons (ps_if (pt_cmpR op_lt (pv 1) pe_int (nomark _)) 
        (pss_cons (ps_set (i := 4) nd rfl (Or.inl rfl) (pe_op zop_cat (pe_lstZ (pa_cons (pv 2) pa_nil)) (pe_lc (own := [("value", 3)]) rfl nd (pi_list (pv 0)) (blkOk_by (own := [("value", 3)]) (N := ["values", "form", "head", "value", "lines", "places"]) (sc := defScope s_write_file) (by decide +kernel)) (fun _ _ _ _ _ => (pg_name (i := 3) nd rfl (Or.inl rfl))) (fun _ _ _ _ _ => pts_nil) (fun _ _ _ _ _ => (pe_call (ok_write_value T) (hr.mono (by decide)) (by rfl) T.g_write_value T.F_write_value.kp T.k_write_value .nil pass0 (pa_cons (pv 3) pa_nil)))))) 
        (pss_one (ps_ret (pe_ifExp (pt_cmpR op_eq (pv 1) pe_int (nomark _)) (pv 4) (pe_call (ok_checked T) (hr.mono (by decide)) (by rfl) T.g_checked T.F_checked.kp T.k_checked .nil pass0 (pa_cons (pv 4) pa_nil)))))) pss_nil) 
      (pss_cons (ps_set (i := 5) nd rfl (Or.inr rfl) pe_dnewKZ) 
      (pss_cons (ps_for PassesOwn.never rfl (pi_list (pv 0)) (pg_name (i := 3) nd rfl (Or.inl rfl)) 
        (pss_one (ps_expr (pe_call (ok_note_strings T) (hr.mono (by decide)) (by rfl) T.g_note_strings T.F_note_strings.kp T.k_note_strings .nil pass0 (pa_cons (pv 3) (pa_cons (pv 5) pa_nil)))))) 
      (pss_one (ps_ret (pe_call (ok_checked T) (hr.mono (by decide)) (by rfl) T.g_checked T.F_checked.kp T.k_checked .nil pass0 (pa_cons (pe_op zop_cat (pe_lstZ (pa_cons (pv 2) (pa_cons (pe_call (ok_write_value T) (hr.mono (by decide)) (by rfl) T.g_write_value T.F_write_value.kp T.k_write_value .nil pass0 (pa_cons (pe_callTy (call_tuple_dK rfl) (by rfl) T.b_tuple (by decide +kernel) (pa_cons (pv 5) pa_nil)) pa_nil)) pa_nil))) (pe_lc (own := [("value", 3)]) rfl nd (pi_list (pv 0)) (blkOk_by (own := [("value", 3)]) (N := ["values", "form", "head", "value", "lines", "places"]) (sc := defScope s_write_file) (by decide +kernel)) (fun _ _ _ _ _ => (pg_name (i := 3) nd rfl (Or.inl rfl))) (fun _ _ _ _ _ => pts_nil) (fun _ _ _ _ _ => (pe_call (ok_written T) (hr.mono (by decide)) (by rfl) T.g_written T.F_written.kp T.k_written .nil pass0 (pa_cons (pv 3) (pa_cons (pv 5) pa_nil)))))) pa_nil)))))))), ?_⟩
  change (_ : TS) _ [some _, some _, none, none, none, none] _
  try dsimp only [cxOf, Cx.nox, Cx.wish]
  have la := wj.len
  have dl := ok.len
  obtain ⟨n1, n2, n3⟩ := ok.nms
  have bl : ∀ i d, ds[i]? = some d → d ∈ ds := fun i d h => List.mem_of_getElem? h
  walk_at "go"
  refine w_strI (log_lt (by rw [Int.natAbs_natCast]; exact Nat.lt_of_le_of_lt f3 (by decide))) ?_
  walk_at "go"
  rw [o_hd, o_sp]
  have a1 := nat_len (n := f) (k := 1) (by decide) (by omega)
  have a2 := nat_len (n := ds.length) (k := 5) (by decide) (by omega)
  refine w_addS (sz (by simp only [S_len, List.length_cons, List.length_nil]; omega)) ?_
  walk_at "go"
  rw [S_cat]
  refine w_addS (sz (by simp only [S_len, List.length_append, List.length_cons, List.length_nil]; omega)) ?_
  walk_at "go"
  rw [S_cat, la]
  refine w_strI (log_lt (by rw [Int.natAbs_natCast]; exact Nat.lt_of_le_of_lt dl (by decide))) ?_
  walk_at "go"
  refine w_addS (sz (by simp only [S_len, List.length_append, List.length_cons, List.length_nil]; omega)) ?_
  walk_at "go"
  rw [S_cat]
  change (_ : TS) _ [some (.ref q), some (.int (f : Int)), some (.str (S (headL f ds.length))), none, none, none] _
  walk_at "if"
  refine w_d (fun h => ?_) fun h => ?_ <;> walk_at "go"
  · refine ⟨sz (by show 1 ≤ _; decide), w_alc fun p H1 e1 m1 h1 => ?_⟩
    walk_at "go"
    have hq1 := e1.keep _ _ hq List.not_mem_nil
    refine ⟨q, rfl, ⟨xs, sql hq1⟩, fun D nD => ?_⟩
    refine z_lc_list (xs := xs) (fun i acc H' => Ext [] H H' ∧ H' p = some (.lst [.str (S (headL f ds.length))]) ∧ acc = (ds.take i).map fun d => tx (wm none d)) nD (fun H' e => ⟨e1.trans e, e.keep _ _ h1 List.not_mem_nil, rfl⟩) (fun i acc H' _ h => sql (h.1.keep _ _ hq List.not_mem_nil)) ?_ ?_
    · rintro Nx i x acc H2 hx ⟨e2, p2, rfl⟩ hD hN
      walk_at "go"
      refine ⟨rfl, ?_⟩
      obtain ⟨d, hd, hjx⟩ := wj.one hx
      have hm := bl i d hd
      have li := (List.getElem?_eq_some_iff.mp hd).1
      walk_at "go"
      refine w_write (hjx.ext e2) (by have := ok.dep d hm; omega) (ok.ft d hm) (by rw [wm_wr]; have := ok.sz d hm; omega) fun H3 e3 => ?_
      refine w_app (e3.keep _ _ hD List.not_mem_nil) (szl (by rw [List.length_map, List.length_take]; omega)) fun H4 e4 hD4 => ?_
      refine hN _ _ ⟨(e2.trans e3).dropq e4 (e1.free nD), e4.keep _ _ (e3.keep _ _ p2 List.not_mem_nil) (nm1 (ne_of_none h1 nD)), ?_⟩ hD4
      rw [take_one hd, List.map_append]
      rfl
    · rintro acc H2 ⟨e2, p2, rfl⟩ hD
      rw [List.take_of_length_le (by omega)] at hD
      refine w_cat p2 hD (sz (by rw [List.length_map, List.length_singleton]; omega)) (w_alc fun r H3 e3 m3 h3 => ?_)
      have hb : LnAt H3 r (bareL ds f) := by
        unfold LnAt bareL
        rw [if_pos (by omega), List.map_cons, List.map_map]
        exact h3
      walk_at "go"
      walk_at "ife"
      refine w_d (fun h1 => ?_) fun h1 => ?_ <;> walk_at "go"
      · refine k r H3 (e2.trans e3) (e2.free m3) ?_
        unfold fileL
        rw [if_pos (by omega)]
        exact hb
      · refine w_checked hb ((bare_ok ok (by omega)).mono (by decide)) fun r2 H4 e4 m4 h4 => ?_
        refine k r2 H4 ((e2.trans e3).trans e4) ((e2.trans e3).free m4) ?_
        unfold fileL
        rw [if_neg (by omega)]
        exact h4
  · refine w_alc fun c H1 e1 m1 h1 => ?_
    walk_at "go"
    have hq1 := e1.keep _ _ hq List.not_mem_nil
    refine ⟨q, rfl, ⟨xs, sql hq1⟩, ?_⟩
    have qc : q ≠ c := ne_of_none hq m1
    refine z_for_list (xs := xs) (fun i σ' H' => Ext [] H H' ∧ H' c = some (.dK (ixf 0 (ntAll [] (ds.take i)))) ∧ ∃ u, σ' = [some (.ref q), some (.int (f : Int)), some (.str (S (headL f ds.length))), u, none, some (.ref c)]) ⟨e1, by rw [List.take_zero, ntAll]; exact h1, _, rfl⟩ (fun i σ' H' _ h => sql (h.1.keep _ _ hq List.not_mem_nil)) ?_ ?_
    · rintro N i x σ' H2 hx ⟨e2, c2, u, rfl⟩ hN
      obtain ⟨d, hd, hjx⟩ := wj.one hx
      have hm := bl i d hd
      walk_at "go"
      refine w_note c2 (hjx.ext e2) (by have := ok.dep d hm; omega) (ok.ft d hm) ?_ fun H3 e3 c3 => ?_
      · rw [← nt_take hd]
        have := (nt_part (A := []) (ds := ds) (i + 1)).length_le
        unfold names at n2
        omega
      walk_at "go"
      exact hN _ _ ⟨e2.dropq e3 m1, by rw [nt_take hd]; exact c3, _, rfl⟩
    · rintro σ' H2 ⟨e2, c2, u, rfl⟩
      rw [List.take_of_length_le (by omega)] at c2
      change H2 c = some (.dK (ixf 0 (names ds))) at c2
      walk_at "go"
      refine w_tupDK c2 (w_alc fun t H3 e3 m3 h3 => ?_)
      rw [ixf_keys] at h3
      walk_at "go"
      refine w_write (d := .tuple ((names ds).map .str)) (.tup (sqt h3) (by rw [List.length_map]; exact n2) (jw_strs _)) (by have := strs_dep (names ds); omega) ok.tup (by have := ok.tup_len; omega) fun H4 e4 => ?_
      refine ⟨sz (by show 2 ≤ _; decide), w_alc fun p H5 e5 m5 h5 => ?_⟩
      have e25 := (e3.trans e4).trans e5
      walk_at "go"
      refine ⟨q, rfl, ⟨xs, sql ((e2.trans e25).keep _ _ hq List.not_mem_nil)⟩, fun D nD => ?_⟩
      refine z_lc_list (xs := xs) (fun i acc H' => Ext [] H2 H' ∧ H' p = some (.lst [tx (headL f ds.length), tx (wm none (.tuple ((names ds).map .str)))]) ∧ acc = (ds.take i).map fun d => tx (wm (some (names ds)) d)) nD (fun H' e => ⟨e25.trans e, e.keep _ _ h5 List.not_mem_nil, rfl⟩) (fun i acc H' _ h => sql ((e2.trans h.1).keep _ _ hq List.not_mem_nil)) ?_ ?_
      · rintro Nx i x acc H6 hx ⟨e6, p6, rfl⟩ hD hN
        walk_at "go"
        refine ⟨rfl, ?_⟩
        obtain ⟨d, hd, hjx⟩ := wj.one hx
        have hm := bl i d hd
        have li := (List.getElem?_eq_some_iff.mp hd).1
        walk_at "go"
        refine w_written (M := some (names ds)) ⟨c, rfl, e6.keep _ _ c2 List.not_mem_nil, Nat.lt_of_le_of_lt n2 (by decide)⟩ (hjx.ext (e2.trans e6)) (by have := ok.dep d hm; omega) (ok.ft d hm) (fun N z => by cases z; exact ok.in_names hm) (by have := wm_len (N := names ds) (Nat.lt_of_le_of_lt n2 (by decide)) d; have := ok.sz d hm; omega) fun H7 e7 => ?_
        refine w_app (e7.keep _ _ hD List.not_mem_nil) (szl (by rw [List.length_map, List.length_take]; omega)) fun H8 e8 hD8 => ?_
        refine hN _ _ ⟨(e6.trans e7).dropq e8 (e25.free nD), e8.keep _ _ (e7.keep _ _ p6 List.not_mem_nil) (nm1 (ne_of_none h5 nD)), ?_⟩ hD8
        rw [take_one hd, List.map_append]
        rfl
      · rintro acc H6 ⟨e6, p6, rfl⟩ hD
        rw [List.take_of_length_le (by omega)] at hD
        refine w_cat p6 hD (sz (by rw [List.length_map]; show 2 + _ ≤ _; omega)) (w_alc fun r H7 e7 m7 h7 => ?_)
        have hb : LnAt H7 r (bareL ds f) := by
          unfold LnAt bareL
          rw [if_neg (by omega), List.map_cons, List.map_cons, List.map_map]
          exact h7
        walk_at "go"
        refine w_checked hb ((bare_ok ok (by omega)).mono (by decide)) fun r2 H8 e8 m8 h8 => ?_
        have e28 := (e2.trans e6).trans (e7.trans e8)
        refine k r2 H8 e28 (((e2.trans e6).trans e7).free m8) ?_
        unfold fileL
        rw [if_neg (by omega)]
        exact h8
theorem w_write_file {H : Hp} {q : Addr} {xs : List V} {ds : List PyData} {f : Nat} {Q : VK} {E : XK} (hq : H q = some (.lst xs)) (wj : JwAll K H xs ds) (ok : Vls ds) (f1 : 1 ≤ f) (f3 : f ≤ 3) (k : ∀ r H', Ext [] H H' → H r = none → LnAt H' r (fileL ds f) → Q (.ref r) H') :
    sp_write_file K ([.ref q, .int (f : Int)] ++ []) H Q E := ⟨_, _, rfl, q, xs, ds, f, rfl, rfl, hq, wj, ok, f1, f3, k⟩

open SX PySem.NumText
/-! ### reading files -/
theorem cut_to (t : List Nat) (e : Nat) : cutS (S t) none (some (e : Int)) = S (t.take e) := by
  refine str_tl ?_
  rw [cutS_tl, HT.sIx_none, HT.sIx_nat, S_len, List.drop_zero, Nat.sub_zero]
  show t.take (min e t.length) = t.take e
  by_cases h : e ≤ t.length
  · rw [Nat.min_eq_left h]
  · rw [Nat.min_eq_right (by omega), List.take_length, List.take_of_length_le (by omega)]
theorem cut_from (t : List Nat) (p : Nat) : cutS (S t) (some (p : Int)) none = S (t.drop p) := by
  refine str_tl ?_
  rw [cutS_tl, HT.sIx_none, HT.sIx_nat, S_len]
  show (t.drop (min p t.length)).take (t.length - min p t.length) = t.drop p
  by_cases h : p ≤ t.length
  · rw [Nat.min_eq_left h, List.take_of_length_le (by rw [List.length_drop]; exact Nat.le_refl _)]
  · rw [Nat.min_eq_right (by omega), List.drop_length, List.drop_eq_nil_of_le (by omega), List.take_nil]
def hd12 (f : Nat) : List Nat := [115, 116, 111, 114, 101, 108, 105, 102, 101, 32] ++ intL (f : Int) ++ [32]
theorem hd12_len {f : Nat} (h : f < 10) : (hd12 f).length = 12 := by
  have e : intL (f : Int) = [48 + f] := by rw [intL_num, TL.numL_lt h]
  unfold hd12
  rw [e]; rfl
theorem head_take {f n : Nat} (h : f < 10) : (headL f n).take 12 = hd12 f := by
  have e := hd12_len h
  rw [show headL f n = hd12 f ++ intL (n : Int) from rfl, List.take_append_of_le_length (by omega), List.take_of_length_le (by omega)]
theorem head_drop {f n : Nat} (h : f < 10) : (headL f n).drop 12 = intL (n : Int) := by
  have e := hd12_len h
  rw [show headL f n = hd12 f ++ intL (n : Int) from rfl, ← e, List.drop_left]
theorem at_ln {ls : List (List Nat)} {i : Nat} {l : List Nat} (h : ls[i]? = some l) : atI (ls.map tx) (i : Int) = some (.str (S l)) := by
  refine atI_nat ?_
  rw [List.getElem?_map, h]; rfl
theorem cut12 (t : List Nat) : cutS (S t) none (some 12) = S (t.take 12) := cut_to t 12
theorem cut12a {f n : Nat} (h : f < 10) : cutS (S (headL f n)) none (some 12) = S (hd12 f) := (cut12 _).trans (congrArg S (head_take h))
theorem cut12b {f n : Nat} (h : f < 10) : cutS (S (headL f n)) (some 12) none = S (intL (n : Int)) := (cut_from _ 12).trans (congrArg S (head_drop h))
theorem cut5a (row : Nat) (l : List Nat) : cutS (S (ck row l ++ l)) none (some 5) = S (ck row l) := by
  have cl := ck_len row l
  rw [show (5 : Int) = ((5 : Nat) : Int) from rfl, cut_to, List.take_append_of_le_length (by omega), List.take_of_length_le (by omega)]
theorem cut5b (row : Nat) (l : List Nat) : cutS (S (ck row l ++ l)) (some 5) none = S l := by
  have cl := ck_len row l
  rw [show (5 : Int) = ((5 : Nat) : Int) from rfl, cut_from, ← cl, List.drop_left]
def sp_bare_line (K : PySem.W.Frag) : Sp := sp2 fun a b H Q => ∃ (q : Addr) (row : Nat) (ls : List (List Nat)) (l : List Nat), a = .ref q ∧ b = .int (row : Int) ∧ LnAt H q (ckd ls) ∧ ls[row]? = some l ∧ LnOk ls 330100 ∧ ∀ H', Ext [] H H' → Q (.str (S l)) H'
theorem ok_bare_line (T : Txt K mg) : FnOk P w K mg base CX0 2 T.f_bare_line T.d_bare_line ["lines", "row"] (sp_bare_line K) := by
  refine T.F_bare_line.ok sc_bare_line len2 (fun cdv A outer s H vs Q E hr h => ?_)
  have nd := sc_bare_line.nd
  have hu := hu_of hr
  obtain ⟨_, _, rfl, q, row, ls, l, rfl, rfl, hq, hl, ok, k⟩ := h
  refine ⟨_,
      (pss_cons (ps_set (i := 2) nd rfl (Or.inl rfl) (pe_ix ix_list (pv 0) (pv 1) (fun _ _ => rfl))) 
      (pss_cons (ps_if (pt_cmpR op_ne (pe_slice sl_str (pv 2) po_none (po_some pe_int)) (pe_call (ok_check_of T) (hr.mono (by decide)) (by rfl) T.g_check_of T.F_check_of.kp T.k_check_of .nil pass0 (pa_cons (pv 1) (pa_cons (pe_slice sl_str (pv 2) (po_some pe_int) po_none) pa_nil))) (nomark _)) 
        (pss_one ps_never) pss_nil) 
      (pss_one (ps_ret (pe_slice sl_str (pv 2) (po_some pe_int) po_none))))), ?_⟩
  change (_ : TS) _ [some _, some _, none] _
  try dsimp only [cxOf, Cx.nox, Cx.wish]
  have hm := List.mem_of_getElem? hl
  have li := (List.getElem?_eq_some_iff.mp hl).1
  have ll := ok.len
  have lz := ok.sz l hm
  have cl := ck_len row l
  unfold LnAt at hq
  walk_at "go"
  refine w_ixL (sql hq) (at_ln (ckd_at hl)) ?_
  walk_at "go"; walk_at "if"
  refine w_slS (z := S (ck row l ++ l)) (sz (by rw [S_len, List.length_append]; omega)) ?_
  rw [cut5a]
  walk_at "go"
  refine w_slS (z := S (ck row l ++ l)) (sz (by rw [S_len, List.length_append]; omega)) ?_
  rw [cut5b]
  walk_at "go"
  refine w_check (by omega) (by omega) (ok.al l hm) fun H1 e1 => ?_
  walk_at "go"
  refine w_f (by rw [decide_eq_true rfl]; rfl) ?_
  walk_at "go"
  refine w_slS (z := S (ck row l ++ l)) (sz (by rw [S_len, List.length_append]; omega)) ?_
  rw [cut5b]
  exact k _ e1
theorem w_bare {H : Hp} {q : Addr} {row : Nat} {ls : List (List Nat)} {l : List Nat} {Q : VK} {E : XK} (hq : LnAt H q (ckd ls)) (hl : ls[row]? = some l) (ok : LnOk ls 330100) (k : ∀ H', Ext [] H H' → Q (.str (S l)) H') : sp_bare_line K ([.ref q, .int (row : Int)] ++ []) H Q E :=
  ⟨_, _, rfl, q, row, ls, l, rfl, rfl, hq, hl, ok, k⟩
def sp_is_count (K : PySem.W.Frag) : Sp := sp1 fun a H Q => ∃ n : Nat, a = .str (S (intL (n : Int))) ∧ n ≤ 50000 ∧ ∀ H', Ext [] H H' → Q (.bl true) H'
theorem ok_is_count (T : Txt K mg) : FnOk P w K mg base CX0 1 T.f_is_count T.d_is_count ["digits"] (sp_is_count K) := by
  refine T.F_is_count.ok sc_is_count len1 (fun cdv A outer s H vs Q E hr h => ?_)
  have nd := sc_is_count.nd
  have hu := hu_of hr
  obtain ⟨_, rfl, n, rfl, n5, k⟩ := h
  refine ⟨_,
      (pss_cons (ps_if (PW.pt (pw_or (pt_not (pt_chain op_le op_le pe_int (pe_callB zc_len (by rfl) T.b_len (by decide +kernel) (pa_cons (pv 0) pa_nil)) pe_int)) (pw_or1 (PW.pt (pw_and (pt_cmpR op_eq (pe_ix ix_str (pv 0) pe_int (fun _ _ => rfl)) pe_str (nomark _)) (pw_and1 (pt_cmpR op_gt (pe_callB zc_len (by rfl) T.b_len (by decide +kernel) (pa_cons (pv 0) pa_nil)) pe_int (nomark _)))))))) 
        (pss_one (ps_ret pe_bl)) pss_nil) 
      (pss_cons (ps_for PassesOwn.never rfl (pi_str (pv 0)) (pg_name (i := 1) nd rfl (Or.inl rfl)) 
        (pss_one (ps_if (pt_cmpR zop_notInS (pv 1) pe_str (by rfl)) 
          (pss_one (ps_ret pe_bl)) pss_nil))) 
      (pss_one (ps_ret (pe_cmpR op_le (pe_callTy zc_intS (by rfl) T.b_int (by decide +kernel) (pa_cons (pv 0) pa_nil)) (pe_glob rfl T.g_VALUES_MOST T.r_VALUES_MOST) (nomark _)))))), ?_⟩
  change (_ : TS) _ [some _, none] _
  try dsimp only [cxOf, Cx.nox, Cx.wish]
  have ln := nat_len (n := n) (k := 5) (by decide) (by omega)
  have ne := nat_ne n
  have al := nat_digs n
  have lp := List.length_pos_iff.mpr ne
  have ok := (okD_ne (nat_ok (n := n) (k := 5) (by decide) (by omega))).2.2
  have nv := nat_val n
  generalize intL (n : Int) = d at *
  obtain ⟨c0, r0, hc0⟩ : ∃ c r, d = c :: r := by
    cases d with
    | nil => exact absurd rfl ne
    | cons c r => exact ⟨c, r, rfl⟩
  walk_at "go"
  refine w_cut (fun σ' H' => H = H' ∧ σ' = [some (.str (S d)), none]) ?_ fun nx hN => ?_
  rotate_left
  · walk_at "if"
    refine w_lenS (sz (by rw [S_len]; omega)) ?_
    rw [S_len]
    walk_at "go"
    refine w_t (decide_eq_true (by omega)) ?_
    walk_at "go"
    refine w_f (by rw [decide_eq_true (by omega)]; rfl) ?_
    walk_at "go"
    refine w_ixS (c := c0) (sz (by rw [S_len]; omega)) (by rw [hc0]; exact at0 _ _) ?_
    walk_at "go"
    refine w_d (fun h3 => ?_) fun h3 => ?_ <;> walk_at "go"
    · refine w_lenS (sz (by rw [S_len]; omega)) ?_
      rw [S_len]
      walk_at "go"
      have e0 : c0 = 48 := by
        have := S_inj (show S [c0] = S [48] from h3.trans o_0)
        simpa using this
      refine w_f (decide_eq_false (by have := ok (by rw [hc0, e0]; rfl); omega)) ?_
      exact hN _ _ ⟨rfl, rfl⟩
    · exact hN _ _ ⟨rfl, rfl⟩
  rintro _ _ ⟨rfl, rfl⟩
  walk_at "go"
  refine ⟨S d, rfl, ?_⟩
  refine z_for_str (fun i σ' H' => H = H' ∧ ∃ u, σ' = [some (.str (S d)), u]) ⟨rfl, _, rfl⟩ ?_ ?_
  · rintro N i c σ' H1 hc ⟨rfl, u, rfl⟩ hN
    have hd := al c (List.mem_of_getElem? (S_at hc))
    walk_at "go"; walk_at "if"
    refine w_notInC ?_
    walk_at "go"
    rw [show (Str.ofString "0123456789") = digS from rfl, digS_in]
    refine w_f (by unfold isDig; rw [decide_eq_true hd.1, decide_eq_true hd.2]; rfl) ?_
    walk_at "go"
    exact hN _ _ ⟨rfl, _, rfl⟩
  · rintro σ' H1 ⟨rfl, u, rfl⟩
    walk_at "go"
    refine w_intS al ne (by omega) ?_
    rw [nv]
    walk_at "go"
    rw [decide_eq_true (by omega)]
    exact k _ Ext.refl
theorem w_count {H : Hp} {n : Nat} {Q : VK} {E : XK} (h : n ≤ 50000) (k : ∀ H', Ext [] H H' → Q (.bl true) H') : sp_is_count K ([.str (S (intL (n : Int)))] ++ []) H Q E := ⟨_, rfl, n, rfl, h, k⟩
/-- the first line of a file -/
theorem file_ne (ds : List PyData) (f : Nat) : ∃ l ls, bareL ds f = l :: ls ∧ l = headL f ds.length := by
  unfold bareL
  split
  · exact ⟨_, _, rfl, rfl⟩
  · exact ⟨_, _, rfl, rfl⟩
theorem bare0 (ds : List PyData) (f : Nat) : (bareL ds f)[0]? = some (headL f ds.length) := by
  obtain ⟨l, ls, h, rfl⟩ := file_ne ds f
  rw [h]; rfl
theorem o_one : Str.ofString "storelife " ++ Str.ofString "1 " = S (hd12 1) := by decide +kernel
theorem o_three : Str.ofString "storelife " ++ Str.ofString "3 " = S (hd12 3) := by decide +kernel
theorem hd_len : (Str.ofString "storelife ").length = 10 := by decide +kernel
def sp_header_of (K : PySem.W.Frag) : Sp := sp1 fun a H Q => ∃ (q : Addr) (ds : List PyData) (f : Nat), a = .ref q ∧ LnAt H q (fileL ds f) ∧ Vls ds ∧ 1 ≤ f ∧ f ≤ 3 ∧ ∀ r H', Ext [] H H' → H r = none → H' r = some (.tup [.int (f : Int), .int (ds.length : Int)]) → Q (.ref r) H'
theorem ok_header_of (T : Txt K mg) : FnOk P w K mg base CX0 3 T.f_header_of T.d_header_of ["lines"] (sp_header_of K) := by
  refine T.F_header_of.ok sc_header_of len1 (fun cdv A outer s H vs Q E hr h => ?_)
  have nd := sc_header_of.nd
  have hu := hu_of hr
  obtain ⟨_, rfl, q, ds, f, rfl, hq, ok, f1, f3, k⟩ := h
  refine ⟨_,
      (pss_cons (ps_if (pt_not (pt_truth (pv 0) (by intro _; rfl))) 
        (pss_one ps_never) pss_nil) 
      (pss_cons (ps_set (i := 1) nd rfl (Or.inl rfl) pe_int) 
      (pss_cons (ps_set (i := 2) nd rfl (Or.inl rfl) (pe_ix ix_list (pv 0) pe_int (fun _ _ => rfl))) 
      (pss_cons (ps_if (pt_cmpR op_ne (pe_slice sl_str (pv 2) po_none (po_some pe_int)) (pe_op zop_addS (pe_glob rfl T.g_HEAD T.r_HEAD) pe_str) (nomark _)) 
        (pss_cons (ps_set (i := 2) nd rfl (Or.inl rfl) (pe_call (ok_bare_line T) (hr.mono (by decide)) (by rfl) T.g_bare_line T.F_bare_line.kp T.k_bare_line .nil pass0 (pa_cons (pv 0) (pa_cons pe_int pa_nil)))) 
        (pss_one (ps_set (i := 1) nd rfl (Or.inl rfl) (pe_ifExp (pt_cmpR op_eq (pe_slice sl_str (pv 2) po_none (po_some pe_int)) (pe_op zop_addS (pe_glob rfl T.g_HEAD T.r_HEAD) pe_str) (nomark _)) pe_int pe_int)))) pss_nil) 
      (pss_cons (ps_if (PW.pt (pw_or (pt_cmpR op_ne (pe_slice sl_str (pv 2) po_none (po_some pe_int)) (pe_op zop_addS (pe_op zop_addS (pe_glob rfl T.g_HEAD T.r_HEAD) (pe_callTy zc_str (by rfl) T.b_str (by decide +kernel) (pa_cons (pv 1) pa_nil))) pe_str) (nomark _)) (pw_or1 (pt_not (pt_val (pe_call (ok_is_count T) (hr.mono (by decide)) (by rfl) T.g_is_count T.F_is_count.kp T.k_is_count .nil pass0 (pa_cons (pe_slice sl_str (pv 2) (po_some pe_int) po_none) pa_nil))))))) 
        (pss_one ps_never) pss_nil) 
      (pss_one (ps_ret (pe_tupZ (pa_cons (pv 1) (pa_cons (pe_callTy zc_intS (by rfl) T.b_int (by decide +kernel) (pa_cons (pe_slice sl_str (pv 2) (po_some pe_int) po_none) pa_nil)) pa_nil)))))))))), ?_⟩
  change (_ : TS) _ [some _, none, none] _
  try dsimp only [cxOf, Cx.nox, Cx.wish]
  have dl := ok.len
  have bk := bare_ok ok (f := f) (by omega)
  have b0 := bare0 ds f
  have hlen := headL_len (f := f) (n := ds.length) (by omega) (by omega)
  unfold LnAt at hq
  have fl : 0 < (fileL ds f).length := by
    have e : 0 < (bareL ds f).length := by rw [bare_len]; split <;> omega
    unfold fileL
    split
    · exact e
    · rw [ckd_len]; exact e
  have h12 := hd12_len (f := f) (by omega)
  walk_at "go"; walk_at "if"
  refine ⟨_, .inl ⟨_, sql hq, rfl⟩, ?_⟩
  refine w_f (by
    cases e : fileL ds f with
    | nil => rw [e] at fl; cases fl
    | cons a r => rfl) ?_
  walk_at "go"
  refine w_ixL (v := tx (if f = 1 then headL f ds.length else ck 0 (headL f ds.length) ++ headL f ds.length)) (sql hq) (at_ln (i := 0) ?_) ?_
  · unfold fileL
    split
    · exact b0
    · exact ckd_at b0
  walk_at "go"
  refine w_cut (fun σ' H' => Ext [] H H' ∧ σ' = [some (.ref q), some (.int (f : Int)), some (.str (S (headL f ds.length)))]) ?_ fun nx hN => ?_
  · rintro σ' H1 ⟨e1, rfl⟩
    walk_at "go"; walk_at "if"
    refine w_slS (z := S (headL f ds.length)) (sz (by rw [S_len]; omega)) ?_
    rw [cut12a (by omega)]
    walk_at "go"
    refine w_strI (log_lt (by rw [Int.natAbs_natCast]; exact Nat.lt_of_le_of_lt f3 (by decide))) ?_
    have a1 := nat_len (n := f) (k := 1) (by decide) (by omega)
    walk_at "go"
    rw [o_hd, o_sp]
    refine w_addS (sz (by simp only [S_len, List.length_cons, List.length_nil]; omega)) ?_
    walk_at "go"
    rw [S_cat]
    refine w_addS (sz (by simp only [S_len, List.length_append, List.length_cons, List.length_nil]; omega)) ?_
    walk_at "go"
    rw [S_cat]
    refine w_f (by rw [show ([115, 116, 111, 114, 101, 108, 105, 102, 101, 32] ++ intL (f : Int) ++ [32]) = hd12 f from rfl, decide_eq_true rfl]; rfl) ?_
    walk_at "go"
    refine w_slS (z := S (headL f ds.length)) (sz (by rw [S_len]; omega)) ?_
    rw [cut12b (by omega)]
    walk_at "go"
    refine w_count dl fun H2 e2 => ?_
    walk_at "go"
    refine w_slS (z := S (headL f ds.length)) (sz (by rw [S_len]; omega)) ?_
    rw [cut12b (by omega)]
    walk_at "go"
    refine w_intS (nat_digs ds.length) (nat_ne _) (by have := nat_len (n := ds.length) (k := 5) (by decide) (by omega); omega) ?_
    rw [nat_val]
    walk_at "go"
    refine ⟨sz (by show 2 ≤ _; decide), w_alc fun r H3 e3 n3 h3 => ?_⟩
    have e := (e1.trans e2).trans e3
    exact k r H3 e (e1.free (e2.free n3)) h3
  · walk_at "if"
    by_cases one : f = 1
    · subst one
      rw [if_pos rfl]
      refine w_slS (z := S (headL 1 ds.length)) (sz (by rw [S_len]; omega)) ?_
      rw [cut12a (by omega)]
      walk_at "go"
      refine w_addS (sz (by decide +kernel)) ?_
      walk_at "go"
      rw [o_one]
      refine w_f (by rw [decide_eq_true rfl]; rfl) ?_
      walk_at "go"
      exact hN _ _ ⟨Ext.refl, rfl⟩
    · rw [if_neg one]
      have hqc : LnAt H q (ckd (bareL ds f)) := by
        have := hq
        unfold fileL at this
        rwa [if_neg one] at this
      refine w_slS (z := S (ck 0 (headL f ds.length) ++ headL f ds.length)) (sz (by rw [S_len, List.length_append, ck_len]; omega)) ?_
      rw [cut12]
      walk_at "go"
      refine w_addS (sz (by decide +kernel)) ?_
      walk_at "go"
      rw [o_one]
      refine w_t (by
        rw [decide_eq_false]
        · rfl
        intro z
        have z' := congrArg List.head? (S_inj z)
        have cd := ck_digs 0 (headL f ds.length)
        have cl := ck_len 0 (headL f ds.length)
        cases e : ck 0 (headL f ds.length) with
        | nil => rw [e] at cl; cases cl
        | cons c r =>
          rw [e] at z' cd
          have c1 := cd c List.mem_cons_self
          have c2 : c = 115 := by simpa [hd12] using z'
          omega) ?_
      walk_at "go"
      refine w_bare (row := 0) hqc b0 bk fun H1 e1 => ?_
      walk_at "go"
      walk_at "ife"
      refine w_slS (z := S (headL f ds.length)) (sz (by rw [S_len]; omega)) ?_
      rw [cut12a (by omega)]
      walk_at "go"
      refine w_addS (sz (by decide +kernel)) ?_
      walk_at "go"
      rw [o_three]
      rcases (show f = 2 ∨ f = 3 by omega) with rfl | rfl
      · refine w_f (by decide +kernel) ?_
        walk_at "go"
        exact hN _ _ ⟨e1, rfl⟩
      · refine w_t (by decide +kernel) ?_
        walk_at "go"
        exact hN _ _ ⟨e1, rfl⟩
theorem w_header {H : Hp} {q : Addr} {ds : List PyData} {f : Nat} {Q : VK} {E : XK} (hq : LnAt H q (fileL ds f)) (ok : Vls ds) (f1 : 1 ≤ f) (f3 : f ≤ 3) (k : ∀ r H', Ext [] H H' → H r = none → H' r = some (.tup [.int (f : Int), .int (ds.length : Int)]) → Q (.ref r) H') :
    sp_header_of K ([.ref q] ++ []) H Q E := ⟨_, rfl, q, ds, f, rfl, hq, ok, f1, f3, k⟩
def sp_form_of (K : PySem.W.Frag) : Sp := sp1 fun a H Q => ∃ (q : Addr) (ds : List PyData) (f : Nat), a = .ref q ∧ LnAt H q (fileL ds f) ∧ Vls ds ∧ 1 ≤ f ∧ f ≤ 3 ∧ ∀ H', Ext [] H H' → Q (.int (f : Int)) H'
theorem ok_form_of (T : Txt K mg) : FnOk P w K mg base CX0 4 T.f_form_of T.d_form_of ["lines"] (sp_form_of K) := by
  refine T.F_form_of.ok sc_form_of len1 (fun cdv A outer s H vs Q E hr h => ?_)
  have nd := sc_form_of.nd
  have hu := hu_of hr
  obtain ⟨_, rfl, q, ds, f, rfl, hq, ok, f1, f3, k⟩ := h
  refine ⟨_,
      (pss_one (ps_ret (pe_ix ix_tup (pe_call (ok_header_of T) (hr.mono (by decide)) (by rfl) T.g_header_of T.F_header_of.kp T.k_header_of .nil pass0 (pa_cons (pv 0) pa_nil)) pe_int (fun _ _ => rfl)))), ?_⟩
  change (_ : TS) _ [some _] _
  try dsimp only [cxOf, Cx.nox, Cx.wish]
  walk_at "go"
  refine w_header hq ok f1 f3 fun r H1 e1 n1 h1 => ?_
  walk_at "go"
  exact k _ e1

open SX PySem.NumText
/-! ### reading files: lines, strings, all values -/
def lnF (f : Nat) (ls : List (List Nat)) : List (List Nat) := if f = 1 then ls else ckd ls
theorem LnAt.ext {H H' : Hp} {a : Addr} {ls : List (List Nat)} (h : LnAt H a ls) (e : Ext [] H H') : LnAt H' a ls := e.keep _ _ h List.not_mem_nil
theorem Ext.outs {M : List Addr} {H H1 H2 : Hp} (a : Ext [] H H1) (b : Ext M H1 H2) (n : ∀ x ∈ M, H x = none) : Ext [] H H2 := Ext.cut a b fun x m => .inr (n x m)
def sp_read_line (C : Addr) (K : PySem.W.Frag) : Sp := sp4 fun a b c s H Q => ∃ (q : Addr) (row f : Nat) (ls : List (List Nat)) (L : Addr) (M : Option (List Str)) (A : List Str) (d : PyData), a = .ref q ∧ b = .int (row : Int) ∧ c = .int (f : Int) ∧ LnAt H q (lnF f ls) ∧ LnOk ls 330100 ∧ ls[row]? = some (wm M d) ∧
  MAt C H s L M A ∧ (∀ N, M = some N → nt A d <+: N) ∧ fit d ∧ d.depth ≤ 16 ∧ ∀ v H', Ext (mF s) H H' → Jw K H' v d → MAt C H' s L M (nt A d) → Q v H'
theorem lnF_len (f : Nat) (ls : List (List Nat)) : (lnF f ls).length = ls.length := by
  unfold lnF
  split
  · rfl
  · exact ckd_len ls
theorem ok_read_line (T : Txt K mg) (TE : Errs P K mg) : FnOk P w K mg base CX0 47 T.f_read_line T.d_read_line ["lines", "row", "form", "strings"] (sp_read_line T.C_Strings K) := by
  refine T.F_read_line.ok sc_read_line len4 (fun cdv A outer s H vs Q E hr h => ?_)
  have nd := sc_read_line.nd
  have hu := hu_of hr
  obtain ⟨_, _, _, s, rfl, q, row, f, ls, L, M, A, d, rfl, rfl, rfl, hq, ok, hl, hM, hn, ft, dd, k⟩ := h
  refine ⟨_,
      (pss_cons (ps_if (pt_cmpR op_ge (pv 1) (pe_callB zc_len (by rfl) T.b_len (by decide +kernel) (pa_cons (pv 0) pa_nil)) (nomark _)) 
        (pss_one ps_never) pss_nil) 
      (pss_cons (ps_set (i := 4) nd rfl (Or.inl rfl) (pe_ifExp (pt_cmpR op_eq (pv 2) pe_int (nomark _)) (pe_ix ix_list (pv 0) (pv 1) (fun _ _ => rfl)) (pe_call (ok_bare_line T) (hr.mono (by decide)) (by rfl) T.g_bare_line T.F_bare_line.kp T.k_bare_line .nil pass0 (pa_cons (pv 0) (pa_cons (pv 1) pa_nil))))) 
      (pss_one (ps_try_all (Wout := fun _ _ _ _ => False) rfl rfl nd takesNo (fun W pn xe tk po => 
        (pss_cons (ps_if (pt_cmpR zop_isN (pv 3) pe_non (nomark _)) 
          (pss_one (ps_ret (pe_callS (ok_read_value T TE) (hr.mono (by decide)) (by rfl) T.g_read_value T.F_read_value.kp T.k_read_value (fun σ => passAt tk σ) (pa_cons (pv 4) pa_nil)))) pss_nil) 
        (pss_one (ps_ret (pe_callS (ok_read_named T TE) (hr.mono (by decide)) (by rfl) T.g_read_named T.F_read_named.kp T.k_read_named (fun σ => passAt tk σ) (pa_cons (pv 4) (pa_cons (pv 3) pa_nil))))))) (HdsZ.bare ⟨rfl, by decide, Or.inl TE.g_BadText⟩ (fun a oe cls d pn hz hf => 
        (pss_one ps_never)) HdsZ.nil))))), ?_⟩
  change (_ : TS) _ [some _, some _, some _, some _, none] _
  try dsimp only [cxOf, Cx.nox, Cx.wish]
  have hm := List.mem_of_getElem? hl
  have li := (List.getElem?_eq_some_iff.mp hl).1
  have lz := ok.sz _ hm
  have hq' := hq
  unfold LnAt at hq
  walk_at "go"; walk_at "if"
  refine w_f (decide_eq_false (by rw [List.length_map, lnF_len]; omega)) ?_
  walk_at "go"
  refine w_cutE (fun v H' => Ext [] H H' ∧ v = .str (S (wm M d))) ?_ fun Q' hQ => ?_
  · rintro _ H1 ⟨e1, rfl⟩
    have hM1 := hM.ext e1
    walk_at "go"; walk_at "if"
    cases M with
    | none =>
      obtain rfl : s = .non := hM
      refine w_t rfl ?_
      walk_at "go"
      exact ⟨_, rfl, d, rfl, by omega, ft, dd, fun v H2 e2 hj => k v H2 (e1.trans e2) hj rfl⟩
    | some N =>
      obtain ⟨a, dx, rfl, _⟩ := id hM
      refine w_f isn_ref ?_
      walk_at "go"
      exact ⟨_, _, rfl, L, some N, A, d, rfl, by omega, hM1, hn, ft, dd, fun v H2 e2 hj hM2 => k v H2 (e1.up.trans e2) hj hM2⟩
  · walk_at "ife"
    walk_at "go"
    refine w_d (fun h => ?_) fun h => ?_ <;> walk_at "go"
    · unfold lnF at hq
      rw [if_pos (by omega)] at hq
      refine w_ixL (sql hq) (at_ln hl) ?_
      exact hQ _ _ ⟨Ext.refl, rfl⟩
    · unfold lnF at hq'
      rw [if_neg (by omega)] at hq'
      refine w_bare hq' hl ok fun H1 e1 => ?_
      exact hQ _ _ ⟨e1, rfl⟩
theorem w_read_line {C : Addr} {H : Hp} {q : Addr} {row f : Nat} {ls : List (List Nat)} {s : V} {L : Addr} {M : Option (List Str)} {A : List Str} {d : PyData} {Q : VK} {E : XK} (hq : LnAt H q (lnF f ls)) (ok : LnOk ls 330100) (hl : ls[row]? = some (wm M d)) (hM : MAt C H s L M A) (hn : ∀ N, M = some N → nt A d <+: N) (ft : fit d) (dd : d.depth ≤ 16)
    (k : ∀ v H', Ext (mF s) H H' → Jw K H' v d → MAt C H' s L M (nt A d) → Q v H') : sp_read_line C K ([.ref q, .int (row : Int), .int (f : Int), s] ++ []) H Q E := ⟨_, _, _, _, rfl, q, row, f, ls, L, M, A, d, rfl, rfl, rfl, hq, ok, hl, hM, hn, ft, dd, k⟩
/-! a dict that marks texts -/
def tks (N : List Str) : List (Key × V) := N.map fun x => ((Sum.inr x : Key), V.bl true)
theorem tks_no {x : Str} : ∀ {N : List Str}, x ∉ N → valV (tks N) (Sum.inr x) = none
  | [], _ => rfl
  | y :: r, m => by
    unfold valV tks
    have e : y ≠ x := fun z => m (z ▸ List.mem_cons_self)
    rw [List.map_cons, List.find?_cons, show decide ((Sum.inr y : Key) = Sum.inr x) = false from decide_eq_false fun z => e (Sum.inr.inj z)]
    exact tks_no fun z => m (List.mem_cons_of_mem _ z)
theorem tks_any {x : Str} : ∀ {N : List Str}, x ∉ N → ((tks N).any fun kv => decide (kv.1 = Sum.inr x)) = false
  | [], _ => rfl
  | y :: r, m => by
    have e : y ≠ x := fun z => m (z ▸ List.mem_cons_self)
    unfold tks
    rw [List.map_cons, List.any_cons, show decide ((Sum.inr y : Key) = Sum.inr x) = false from decide_eq_false fun z => e (Sum.inr.inj z)]
    exact tks_any (N := r) fun z => m (List.mem_cons_of_mem _ z)
theorem tks_put {x : Str} {N : List Str} (m : x ∉ N) : putK (tks N) (Sum.inr x) (.bl true) = tks (N ++ [x]) := by
  unfold putK
  rw [tks_any m]
  unfold tks
  rw [List.map_append]
  simp
def sp_read_strings (C : Addr) (K : PySem.W.Frag) : Sp := sp2 fun a b H Q => ∃ (q : Addr) (ds : List PyData), a = .ref q ∧ b = .int (ds.length : Int) ∧ LnAt H q (fileL ds 3) ∧ Vls ds ∧ ∀ s L H', Ext [] H H' → H s = none → MAt C H' (.ref s) L (some (names ds)) [] → Q (.ref s) H'
theorem ok_read_strings (T : Txt K mg) (TE : Errs P K mg) : FnOk P w K mg base CX0 48 T.f_read_strings T.d_read_strings ["lines", "count"] (sp_read_strings T.C_Strings K) := by
  refine T.F_read_strings.ok sc_read_strings len2 (fun cdv A outer s H vs Q E hr h => ?_)
  have nd := sc_read_strings.nd
  have hu := hu_of hr
  obtain ⟨_, _, rfl, q, ds, rfl, rfl, hq, ok, k⟩ := h
  refine ⟨_,
      (pss_cons (ps_set (i := 2) nd rfl (Or.inl rfl) (pe_call (ok_read_line T TE) (hr.mono (by decide)) (by rfl) T.g_read_line T.F_read_line.kp T.k_read_line .nil pass0 (pa_cons (pv 0) (pa_cons pe_int (pa_cons pe_int (pa_cons pe_non pa_nil)))))) 
      (pss_cons (ps_if (PW.pt (pw_or (pt_not (pt_val (pe_callB call_isi (by rfl) T.b_isinstance (by decide +kernel) (pa_cons (pv 2) (pa_cons (pe_bltn (v := .ty "tuple") (by rfl) T.b_tuple (by decide +kernel) rfl) pa_nil))))) (pw_or1 (PW.pt (pw_and (pt_cmpR op_eq (pv 1) pe_int (nomark _)) (pw_and1 (pt_truth (pv 2) (by intro _; rfl)))))))) 
        (pss_one ps_never) pss_nil) 
      (pss_cons (ps_set (i := 3) nd rfl (Or.inl rfl) pe_dnewKZ) 
      (pss_cons (ps_for PassesOwn.never rfl (pi_tup (pv 2)) (pg_name (i := 4) nd rfl (Or.inl rfl)) 
        (pss_cons (ps_if (PW.pt (pw_or (pt_not (pt_val (pe_callB call_isi (by rfl) T.b_isinstance (by decide +kernel) (pa_cons (pv 4) (pa_cons (pe_bltn (v := .ty "str") (by rfl) T.b_str (by decide +kernel) rfl) pa_nil))))) (pw_or1 (pt_cmp (pc_din hu (pv 4) (pv 3)))))) 
          (pss_one ps_never) pss_nil) 
        (pss_one (ps_dput hu (pv 3) (pv 4) pe_bl rfl)))) 
      (pss_one (ps_ret (pe_make T.mk_Strings (ok_Strings___init__ T) (hr.mono (by decide)) (by rfl) T.g_Strings T.k_Strings___init__ .nil pass0 (pa_cons (pv 2) pa_nil)))))))), ?_⟩
  change (_ : TS) _ [some _, some _, none, none, none] _
  try dsimp only [cxOf, Cx.nox, Cx.wish]
  obtain ⟨n1, n2, n3⟩ := ok.nms
  have b1 : (bareL ds 3)[1]? = some (wm none (.tuple ((names ds).map .str))) := by unfold bareL; rw [if_neg (by decide)]; rfl
  walk_at "go"
  refine w_read_line (row := 1) (f := 3) (ls := bareL ds 3) (L := 0) (M := none) (A := []) (d := .tuple ((names ds).map .str)) hq (bare_ok ok (by decide)) b1 rfl (fun _ z => nomatch z) ok.tup (by have := strs_dep (names ds); omega) fun v H1 e1 hj _ => ?_
  replace e1 : Ext [] H H1 := e1
  cases hj with
  | @tup t xs _ ht lz wa =>
  have ta := tyT ht
  have xl := wa.len
  rw [List.length_map] at xl
  have hx : xs = (names ds).map V.str := by
    refine List.ext_getElem? fun i => ?_
    rcases Nat.lt_or_ge i (names ds).length with h | h
    · have hd : ((names ds).map PyData.str)[i]? = some (.str ((names ds)[i])) := by rw [List.getElem?_map, List.getElem?_eq_getElem h]; rfl
      obtain ⟨v, hv, hjv⟩ := wa.at hd
      cases hjv
      rw [hv, List.getElem?_map, List.getElem?_eq_getElem h]; rfl
    · rw [List.getElem?_eq_none (by omega), List.getElem?_eq_none (by rw [List.length_map]; omega)]
  subst hx
  walk_at "go"
  refine w_cut (fun σ' H' => H1 = H' ∧ σ' = [some (.ref q), some (.int (ds.length : Int)), some (.ref t), none, none]) ?_ fun nx hN => ?_
  rotate_left
  · walk_at "if"
    refine w_isi (k := true) (.ty _) ta (kit_ty (by decide +kernel)) ?_
    walk_at "go"
    refine w_d (fun h => ?_) fun h => ?_ <;> walk_at "go"
    · refine ⟨false, .inr (.inl ⟨_, ht, ?_⟩), ?_⟩
      · have : ds = [] := List.eq_nil_of_length_eq_zero (by omega)
        subst this
        rfl
      · walk_at "go"
        exact hN _ _ ⟨rfl, rfl⟩
    · exact hN _ _ ⟨rfl, rfl⟩
  rintro _ _ ⟨rfl, rfl⟩
  walk_at "go"
  refine w_alc fun c H2 e2 m2 h2 => ?_
  walk_at "go"
  have ht2 := SqT.ext e2 ht
  refine ⟨t, rfl, ⟨_, ht2⟩, ?_⟩
  have nd : (names ds).Nodup := ntAll_nodup ds [] List.nodup_nil
  refine z_for_tup (xs := (names ds).map V.str) (fun i σ' H' => Ext [] H1 H' ∧ H' c = some (.dK (tks ((names ds).take i))) ∧ ∃ u, σ' = [some (.ref q), some (.int (ds.length : Int)), some (.ref t), some (.ref c), u]) ⟨e2, by rw [List.take_zero]; exact h2, _, rfl⟩ (fun i σ' H' _ h => SqT.ext h.1 ht) ?_ ?_
  · rintro N i x σ' H3 hx ⟨e3, c3, u, rfl⟩ hN
    rw [List.getElem?_map] at hx
    cases hl : (names ds)[i]? with
    | none => rw [hl] at hx; cases hx
    | some y =>
    rw [hl] at hx
    cases hx
    have li := (List.getElem?_eq_some_iff.mp hl).1
    have ny : y ∉ (names ds).take i := fun m => by
      have e := List.take_append_drop i (names ds)
      rw [List.drop_eq_getElem_cons li, (List.getElem?_eq_some_iff.mp hl).2] at e
      rw [← e] at nd
      exact (List.nodup_append.mp nd).2.2 y m y List.mem_cons_self rfl
    walk_at "go"
    refine w_cut (fun σ' H' => H3 = H' ∧ σ' = [some (.ref q), some (.int (ds.length : Int)), some (.ref t), some (.ref c), some (.str y)]) ?_ fun nx' hN' => ?_
    · rintro _ _ ⟨rfl, rfl⟩
      walk_at "go"
      refine w_dputS c3 (szl (by unfold tks; rw [List.length_map, List.length_take]; omega)) fun H4 e4 c4 => ?_
      refine hN _ _ ⟨e3.dropq e4 m2, by rw [take_one hl, ← tks_put ny]; exact c4, _, rfl⟩
    · walk_at "if"
      refine w_isi (k := true) (.ty _) (.base (.str _)) (kit_ty (by decide +kernel)) ?_
      walk_at "go"
      refine w_dinS (.inl c3) ?_
      rw [tks_no ny]
      walk_at "go"
      exact hN' _ _ ⟨rfl, rfl⟩
  · rintro σ' H3 ⟨e3, c3, u, rfl⟩
    walk_at "go"
    intro x dx mx mdx ne
    have em := make_ext (C := T.C_Strings) mx mdx ne
    refine ⟨_, _, rfl, x, t, dx, names ds, rfl, rfl, upd_same, SqT.ext em (SqT.ext e3 ht), Nat.lt_of_le_of_lt n2 (by decide), fun L H4 e4 hM => ⟨rfl, ?_⟩⟩
    exact k x L H4 ((e1.trans e3).trans (em.dropq e4 mx)) ((e1.trans e3).free mx) hM
theorem w_read_strings {C : Addr} {H : Hp} {q : Addr} {ds : List PyData} {Q : VK} {E : XK} (hq : LnAt H q (fileL ds 3)) (ok : Vls ds) (k : ∀ s L H', Ext [] H H' → H s = none → MAt C H' (.ref s) L (some (names ds)) [] → Q (.ref s) H') : sp_read_strings C K ([.ref q, .int (ds.length : Int)] ++ []) H Q E := ⟨_, _, rfl, q, ds, rfl, rfl, hq, ok, k⟩
def modeF (ds : List PyData) (f : Nat) : Option (List Str) := if f < 3 then none else some (names ds)
def rowF (f : Nat) : Nat := if f < 3 then 1 else 2
theorem bare_at {ds : List PyData} {f i : Nat} {d : PyData} (h : ds[i]? = some d) : (bareL ds f)[rowF f + i]? = some (wm (modeF ds f) d) := by
  unfold bareL rowF modeF
  split
  · rw [Nat.add_comm, List.getElem?_cons_succ, List.getElem?_map, h]; rfl
  · rw [Nat.add_comm, List.getElem?_cons_succ, List.getElem?_cons_succ, List.getElem?_map, h]; rfl
def sp_read_file (K : PySem.W.Frag) : Sp := sp1 fun a H Q => ∃ (q : Addr) (ds : List PyData) (f : Nat), a = .ref q ∧ LnAt H q (fileL ds f) ∧ Vls ds ∧ 1 ≤ f ∧ f ≤ 3 ∧ ∀ r xs H', Ext [] H H' → H r = none → H' r = some (.lst xs) → JwAll K H' xs ds → Q (.ref r) H'
theorem ok_read_file (T : Txt K mg) (TE : Errs P K mg) : FnOk P w K mg base CX0 49 T.f_read_file T.d_read_file ["lines"] (sp_read_file K) := by
  refine T.F_read_file.ok sc_read_file len1 (fun cdv A outer s H vs Q E hr h => ?_)
  have nd := sc_read_file.nd
  have hu := hu_of hr
  obtain ⟨_, rfl, q, ds, f, rfl, hq, ok, f1, f3, k⟩ := h
  refine ⟨_,
      (pss_cons (ps_asg (pe_call (ok_header_of T) (hr.mono (by decide)) (by rfl) T.g_header_of T.F_header_of.kp T.k_header_of .nil pass0 (pa_cons (pv 0) pa_nil)) (pg_tup (by rfl) (pgs_cons (pg_name (i := 1) nd rfl (Or.inr rfl)) (pgs_cons (pg_name (i := 2) nd rfl (Or.inl rfl)) pgs_nil)))) 
      (pss_cons (ps_set (i := 3) nd rfl (Or.inr rfl) (pe_ifExp (pt_cmpR op_eq (pv 1) pe_int (nomark _)) pe_int pe_int)) 
      (pss_cons (ps_set (i := 4) nd rfl (Or.inr rfl) (pe_ifExp (pt_cmpR op_eq (pv 1) pe_int (nomark _)) (pe_call (ok_read_strings T TE) (hr.mono (by decide)) (by rfl) T.g_read_strings T.F_read_strings.kp T.k_read_strings .nil pass0 (pa_cons (pv 0) (pa_cons (pv 2) pa_nil))) pe_non)) 
      (pss_cons (ps_setLc (i := 5) (own := [("k", 6)]) rfl nd rfl rfl (sw_true rfl rfl rfl (by decide +kernel)) (pi_range1 (by rfl) T.b_range (pa_cons (pv 2) pa_nil)) (blkOk_by (own := [("k", 6)]) (N := ["lines", "form", "count", "first", "strings", "values", "k"]) (sc := defScope s_read_file) (by decide +kernel)) (fun _ _ _ _ _ => (pg_name (i := 6) nd rfl (Or.inl rfl))) (fun _ _ _ _ _ => pts_nil) (fun _ _ _ _ _ => (pe_call (ok_read_line T TE) (hr.mono (by decide)) (by rfl) T.g_read_line T.F_read_line.kp T.k_read_line .nil pass0 (pa_cons (pv 0) (pa_cons (pe_op op_add (pv 3) (pv 6)) (pa_cons (pv 1) (pa_cons (pv 4) pa_nil))))))) 
      (pss_cons (ps_if (PW.pt (pw_and (pt_cmpR zop_notN (pv 4) pe_non (nomark _)) (pw_and1 (pt_cmpR op_lt (pe_fld (pv 4) rfl) (pe_callB zc_len (by rfl) T.b_len (by decide +kernel) (pa_cons (pe_fld (pv 4) rfl) pa_nil)) (nomark _))))) 
        (pss_one ps_never) pss_nil) 
      (pss_cons (ps_if (pt_cmpR op_gt (pe_callB zc_len (by rfl) T.b_len (by decide +kernel) (pa_cons (pv 0) pa_nil)) (pe_op op_add (pv 3) (pv 2)) (nomark _)) 
        (pss_one ps_never) pss_nil) 
      (pss_one (ps_ret (pv 5))))))))), ?_⟩
  change (_ : TS) _ [some _, none, none, none, none, none, none] _
  try dsimp only [cxOf, Cx.nox, Cx.wish]
  have dl := ok.len
  have bk := bare_ok ok (f := f) (by omega)
  walk_at "go"
  refine w_header hq ok f1 f3 fun r H1 e1 n1 h1 => ?_
  walk_at "go"
  refine w_cutE (fun v H' => H1 = H' ∧ v = .int ((rowF f : Nat) : Int)) ?_ fun Q' hQ => ?_
  rotate_left
  · walk_at "ife"
    walk_at "go"
    unfold rowF at hQ
    refine w_d (fun h => ?_) fun h => ?_ <;> walk_at "go"
    · exact hQ _ _ ⟨rfl, by rw [if_neg (by omega)]; rfl⟩
    · exact hQ _ _ ⟨rfl, by rw [if_pos (by omega)]; rfl⟩
  rintro _ _ ⟨rfl, rfl⟩
  walk_at "go"
  refine w_cutE (fun v H' => Ext [] H1 H' ∧ (∀ a ∈ mF v, H1 a = none) ∧ ∃ L, MAt T.C_Strings H' v L (modeF ds f) []) ?_ fun Q' hQ => ?_
  rotate_left
  · walk_at "ife"
    walk_at "go"
    unfold modeF at hQ
    refine w_d (fun h => ?_) fun h => ?_ <;> walk_at "go"
    · have f3' : f = 3 := by omega
      subst f3'
      refine w_read_strings (LnAt.ext hq e1) ok fun s L H2 e2 n2 hM => ?_
      exact hQ _ _ ⟨e2, fun a m => by rw [List.mem_singleton.mp m]; exact n2, L, by rw [if_neg (by decide)]; exact hM⟩
    · exact hQ _ _ ⟨Ext.refl, (fun a m => by cases m), 0, by rw [if_pos (by omega)]; rfl⟩
  rintro s H2 ⟨e2, nf, L, hM⟩
  walk_at "go"
  refine ⟨_, rfl, by omega, by omega, fun D nD => ?_⟩
  rw [Int.toNat_natCast]
  have nDs := hM.ne nD
  refine z_lc_range (lo := 0) (n := ds.length) (fun i acc H' => Ext (mF s) H2 H' ∧ MAt T.C_Strings H' s L (modeF ds f) (ntAll [] (ds.take i)) ∧ JwAll K H' acc (ds.take i)) nD (fun H' e => ⟨e.up, by rw [List.take_zero, ntAll]; exact hM.ext e, by rw [List.take_zero]; exact .nil⟩) ?_ ?_
  · rintro Nx i acc H3 hi ⟨e3, hM3, wj⟩ hD hN
    walk_at "go"
    refine ⟨rfl, ?_⟩
    obtain ⟨d, hd⟩ : ∃ d, ds[i]? = some d := ⟨_, List.getElem?_eq_getElem hi⟩
    have hm := List.mem_of_getElem? hd
    have xl := wj.len
    rw [List.length_take] at xl
    walk_at "go"
    have lines : LnAt H3 q (lnF f (bareL ds f)) := by
      have h0 : LnAt H2 q (fileL ds f) := LnAt.ext hq (e1.trans e2)
      have nq : q ∉ mF s := fun m => by
        have := nf q m
        rw [show H1 q = some _ from e1.keep _ _ hq List.not_mem_nil] at this
        cases this
      exact e3.keep _ _ h0 nq
    rw [show ((rowF f : Nat) : Int) + (0 + (i : Int)) = ((rowF f + i : Nat) : Int) by omega]
    refine w_read_line lines bk (bare_at hd) hM3 (fun N z => ?_) (ok.ft d hm) (ok.dep d hm) fun v H4 e4 hj hM4 => ?_
    · unfold modeF at z
      split at z
      · cases z
      · cases z
        rw [← nt_take hd]
        exact nt_part (i + 1)
    refine w_app (e4.keep _ _ hD nDs) (szl (by omega)) fun H5 e5 hD5 => ?_
    refine hN _ _ ⟨(e3.trans e4).dropq e5 nD, by rw [nt_take hd]; exact hM4.chg hM nD e5, ?_⟩ hD5
    rw [take_one hd]
    exact ((wj.ext e4).snoc hj).ext e5
  · rintro acc H3 ⟨e3, hM3, wj⟩ hD
    rw [List.take_of_length_le (Nat.le_refl _)] at hM3 wj
    have e13 : Ext [] H H3 := Ext.outs (e1.trans e2) e3 fun a m => e1.free (nf a m)
    have hq3 : LnAt H3 q (fileL ds f) := LnAt.ext hq e13
    have fin : ∀ nx' : L2.St → Hp → Prop, True := fun _ => trivial
    have blen : (fileL ds f).length = rowF f + ds.length := by
      have e : (bareL ds f).length = rowF f + ds.length := by rw [bare_len]; unfold rowF; split <;> omega
      unfold fileL
      split
      · exact e
      · rw [ckd_len]; exact e
    walk_at "go"
    refine w_cut (fun σ' H' => H3 = H' ∧ ∃ u, σ' = [some (.ref q), some (.int (f : Int)), some (.int (ds.length : Int)), some (.int ((rowF f : Nat) : Int)), some s, some (.ref D), u]) ?_ fun nx hN => ?_
    · rintro _ _ ⟨rfl, u, rfl⟩
      unfold LnAt at hq3
      walk_at "go"; walk_at "if"
      refine w_f (decide_eq_false (by rw [List.length_map, blen]; omega)) ?_
      walk_at "go"
      exact k D acc H3 e13 (e1.free (e2.free nD)) hD wj
    · walk_at "if"
      unfold modeF at hM3
      by_cases h : f < 3
      · rw [if_pos h] at hM3
        obtain rfl : s = .non := hM3
        refine w_f rfl ?_
        exact hN _ _ ⟨rfl, _, rfl⟩
      · rw [if_neg h] at hM3
        obtain ⟨a, dx, rfl, ha, hL, nl, hA⟩ := hM3
        refine w_t (by rw [isn_ref]; rfl) ?_
        walk_at "go"
        refine w_f (decide_eq_false (by rw [List.length_map]; unfold names; omega)) ?_
        exact hN _ _ ⟨rfl, _, rfl⟩
theorem w_read_file {H : Hp} {q : Addr} {ds : List PyData} {f : Nat} {Q : VK} {E : XK} (hq : LnAt H q (fileL ds f)) (ok : Vls ds) (f1 : 1 ≤ f) (f3 : f ≤ 3) (k : ∀ r xs H', Ext [] H H' → H r = none → H' r = some (.lst xs) → JwAll K H' xs ds → Q (.ref r) H') :
    sp_read_file K ([.ref q] ++ []) H Q E := ⟨_, rfl, q, ds, f, rfl, hq, ok, f1, f3, k⟩
def sp_reform (K : PySem.W.Frag) : Sp := sp2 fun a b H Q => ∃ (q : Addr) (ds : List PyData) (f g : Nat), a = .ref q ∧ b = .int (g : Int) ∧ LnAt H q (fileL ds f) ∧ Vls ds ∧ 1 ≤ f ∧ f ≤ 3 ∧ 1 ≤ g ∧ g ≤ 3 ∧ ∀ r H', Ext [] H H' → LnAt H' r (fileL ds g) → Q (.ref r) H'
theorem ok_reform (T : Txt K mg) (TE : Errs P K mg) : FnOk P w K mg base CX0 50 T.f_reform T.d_reform ["lines", "form"] (sp_reform K) := by
  refine T.F_reform.ok sc_reform len2 (fun cdv A outer s H vs Q E hr h => ?_)
  have nd := sc_reform.nd
  have hu := hu_of hr
  obtain ⟨_, _, rfl, q, ds, f, g, rfl, rfl, hq, ok, f1, f3, g1, g3, k⟩ := h
  refine ⟨_,
      (pss_one (ps_ret (pe_call (ok_write_file T) (hr.mono (by decide)) (by rfl) T.g_write_file T.F_write_file.kp T.k_write_file .nil pass0 (pa_cons (pe_call (ok_read_file T TE) (hr.mono (by decide)) (by rfl) T.g_read_file T.F_read_file.kp T.k_read_file .nil pass0 (pa_cons (pv 0) pa_nil)) (pa_cons (pv 1) pa_nil))))), ?_⟩
  change (_ : TS) _ [some _, some _] _
  try dsimp only [cxOf, Cx.nox, Cx.wish]
  walk_at "go"
  refine w_read_file hq ok f1 f3 fun r xs H1 e1 n1 h1 wj => ?_
  walk_at "go"
  refine w_write_file h1 wj ok g1 g3 fun r2 H2 e2 n2 h2 => ?_
  exact k r2 H2 (e1.trans e2) h2
theorem w_reform {H : Hp} {q : Addr} {ds : List PyData} {f g : Nat} {Q : VK} {E : XK} (hq : LnAt H q (fileL ds f)) (ok : Vls ds) (f1 : 1 ≤ f) (f3 : f ≤ 3) (g1 : 1 ≤ g) (g3 : g ≤ 3) (k : ∀ r H', Ext [] H H' → LnAt H' r (fileL ds g) → Q (.ref r) H') :
    sp_reform K ([.ref q, .int (g : Int)] ++ []) H Q E := ⟨_, _, rfl, q, ds, f, g, rfl, rfl, hq, ok, f1, f3, g1, g3, k⟩

open SX PySem.NumText
/-! ### the next cell of the script; a drawn item -/
def sp_law_next (K : PySem.W.Frag) : Sp := sp1 fun a H Q => ∃ p, a = .ref p ∧ PoolAt K H p ∧ ∀ H', Ext [p] H H' → PoolAt K H' p → Q .non H'
theorem ok_law_next (T : Txt K mg) : FnOk P w K mg base CX0 3 T.f__law_next T.d__law_next ["pool"] (sp_law_next K) := by
  refine T.F__law_next.ok sc_law_next len1 (fun cdv A outer s H vs Q E hr h => ?_)
  have nd := sc_law_next.nd
  have hu := hu_of hr
  obtain ⟨_, rfl, p, rfl, ⟨sc, ns, pl, re, fi, h1, h2, h3⟩, k⟩ := h
  refine ⟨_,
      (pss_cons (ps_asg (pe_op op_add (pe_ix ix_list (pv 0) pe_int (fun _ _ => rfl)) pe_int) (pg_sub (pv 0) pe_int zset_list)) 
      (pss_cons (ps_asg (pe_call (ok_law_rest T) (hr.mono (by decide)) (by rfl) T.g__law_rest T.F__law_rest.kp T.k__law_rest .nil pass0 (pa_cons (pe_ix ix_list (pv 0) pe_int (fun _ _ => rfl)) (pa_cons (pe_ix ix_list (pv 0) pe_int (fun _ _ => rfl)) (pa_cons pe_int pa_nil)))) (pg_sub (pv 0) pe_int zset_list)) 
      (pss_one (ps_asg pe_int (pg_sub (pv 0) pe_int zset_list))))), ?_⟩
  change (_ : TS) _ [some _] _
  try dsimp only [cxOf, Cx.nox, Cx.wish]
  walk_at "go"
  refine w_chg h1 (fun z => z) fun H1 e1 g1 => ?_
  change H1 p = some (.lst [.ref sc, .int (pl + 1), .int re, .int fi]) at g1
  walk_at "go"
  refine w_sp3 ⟨_, _, _, _, rfl, rfl, rfl, h2.ext e1, fun v v0 => ?_⟩
  walk_at "go"
  refine w_chg g1 (fun z => z) fun H2 e2 g2 => ?_
  change H2 p = some (.lst [.ref sc, .int (pl + 1), .int v, .int fi]) at g2
  walk_at "go"
  refine w_chg g2 (fun z => z) fun H3 e3 g3 => ?_
  exact k _ ((e1.trans e2).trans e3) ⟨sc, ns, _, _, _, g3, ((h2.ext e1).ext e2).ext e3, v0⟩
theorem w_next_ {H : Hp} {p : Addr} {Q : VK} {E : XK} (hP : PoolAt K H p) (k : ∀ H', Ext [p] H H' → PoolAt K H' p → Q .non H') : sp_law_next K ([.ref p] ++ []) H Q E := ⟨_, rfl, p, rfl, hP, k⟩
def sp_law_pick (K : PySem.W.Frag) : Sp := sp2 fun a b H Q => ∃ (p : Addr), a = .ref p ∧ PoolAt K H p ∧ ((∃ (o : Addr) (xs : List V), b = .ref o ∧ H o = some (.lst xs) ∧ o ≠ p ∧ 0 < xs.length ∧ xs.length ≤ 1000 ∧ ∀ v H', v ∈ xs → Ext [p] H H' → PoolAt K H' p → Q v H') ∨
  ∃ z : Str, b = .str z ∧ 0 < z.length ∧ z.length ≤ 1000 ∧ ∀ c H', Ext [p] H H' → PoolAt K H' p → Q (.str (S [c])) H')
theorem ok_law_pick (T : Txt K mg) : FnOk P w K mg base CX0 4 T.f__law_pick T.d__law_pick ["pool", "options"] (sp_law_pick K) := by
  refine T.F__law_pick.ok sc_law_pick len2 (fun cdv A outer s H vs Q E hr h => ?_)
  have nd := sc_law_pick.nd
  have hu := hu_of hr
  obtain ⟨_, _, rfl, p, rfl, hP, h⟩ := h
  refine ⟨_,
      (pss_one (ps_ret (pe_ix ix_seq (pv 1) (pe_call (ok_law_draw T) (hr.mono (by decide)) (by rfl) T.g__law_draw T.F__law_draw.kp T.k__law_draw .nil pass0 (pa_cons (pv 0) (pa_cons (pe_callB zc_len (by rfl) T.b_len (by decide +kernel) (pa_cons (pv 1) pa_nil)) pa_nil))) (fun _ _ => rfl)))), ?_⟩
  change (_ : TS) _ [some _, some _] _
  try dsimp only [cxOf, Cx.nox, Cx.wish]
  rcases h with ⟨o, xs, rfl, ho, n, l0, l1, k⟩ | ⟨z, rfl, l0, l1, k⟩
  · walk_at "go"
    refine w_draw hP (by omega) (by omega) fun r H1 r0 r1 e1 hP1 => ?_
    obtain ⟨v, hv, hm⟩ := at_some r0 r1
    refine .inl (w_ixL (sql (e1.keep _ _ ho (nm1 n))) hv ?_)
    exact k v H1 (List.mem_of_getElem? hm) e1 hP1
  · walk_at "go"
    refine w_lenS (sz (by omega)) ?_
    walk_at "go"
    refine w_draw hP (by omega) (by omega) fun r H1 r0 r1 e1 hP1 => ?_
    obtain ⟨c, hc, hm⟩ := at_some (xs := z.cps.toList) r0 (by rw [len_tl]; exact r1)
    refine .inr (.inr (w_ixS (sz (by omega)) hc ?_))
    exact k c H1 e1 hP1
theorem w_pickL {H : Hp} {p o : Addr} {xs : List V} {Q : VK} {E : XK} (hP : PoolAt K H p) (ho : H o = some (.lst xs)) (n : o ≠ p) (l0 : 0 < xs.length) (l1 : xs.length ≤ 1000) (k : ∀ v H', v ∈ xs → Ext [p] H H' → PoolAt K H' p → Q v H') :
    sp_law_pick K ([.ref p, .ref o] ++ []) H Q E := ⟨_, _, rfl, p, rfl, hP, .inl ⟨o, xs, rfl, ho, n, l0, l1, k⟩⟩
theorem w_pickS {H : Hp} {p : Addr} {z : Str} {Q : VK} {E : XK} (hP : PoolAt K H p) (l0 : 0 < z.length) (l1 : z.length ≤ 1000) (k : ∀ c H', Ext [p] H H' → PoolAt K H' p → Q (.str (S [c])) H') :
    sp_law_pick K ([.ref p, .str z] ++ []) H Q E := ⟨_, _, rfl, p, rfl, hP, .inr ⟨z, rfl, l0, l1, k⟩⟩
theorem sgx_is : Str.ofString " !\"#$&'()*+,-./0123456789:;<=>?@ABCDEFGHIJKLMNOPQRSTUVWXYZ[\\]^_`" ++ Str.ofString "abcdefghijklmnopqrstuvwxyz{|}~" = alph := by decide +kernel
theorem alph_len : alph.cps.toList.length = 94 := by decide +kernel
theorem alph_sz : alph.length ≤ sizeLine := by decide +kernel
theorem sgx_at {r : Int} (h0 : 0 ≤ r) (h1 : r < 94) : ∃ c, atI alph.cps.toList r = some c ∧ c ∈ alph.cps.toList := by
  have := alph_len
  obtain ⟨c, hc, hm⟩ := at_some (xs := alph.cps.toList) (r := r) h0 (by omega)
  exact ⟨c, hc, List.mem_of_getElem? hm⟩
theorem al_snoc {c : Nat} {a : List Nat} (h : Al a) (m : c ∈ alph.cps.toList) : Al (a ++ [c]) := al_app h (al_cons m al_nil)
/-- a text of single signs -/
theorem join1 (cs : List Nat) : Txt.join (Str.ofString "") (cs.map fun c => S [c]) = S cs := by
  rw [o_e, show (cs.map fun c => S [c]) = (cs.map fun c => [c]).map S from by rw [List.map_map]; rfl, join_S]
  congr 1
  induction cs with
  | nil => rfl
  | cons c r ih =>
    cases r with
    | nil => rfl
    | cons d r =>
      rw [List.map_cons] at ih ⊢
      rw [List.map_cons]
      show [c] ++ ([] ++ TL.joinL [] ([d] :: r.map fun c => [c])) = _
      rw [ih]
      rfl
theorem sum1 (cs : List Nat) : ((cs.map fun c => S [c]).map (·.length)).sum = cs.length := by
  induction cs with
  | nil => rfl
  | cons c r ih => rw [List.map_cons, List.map_cons, List.sum_cons, ih, S_len, List.length_cons]; simp; omega
def sp_law_chars (K : PySem.W.Frag) : Sp := sp2 fun a b H Q => ∃ (p : Addr) (n : Nat), a = .ref p ∧ b = .int (n : Int) ∧ PoolAt K H p ∧ n ≤ 30 ∧ ∀ (t : List Nat) H', t.length = n → Al t → Ext [p] H H' → PoolAt K H' p → Q (.str (S t)) H'
theorem ok_law_chars (T : Txt K mg) : FnOk P w K mg base CX0 4 T.f__law_chars T.d__law_chars ["pool", "count"] (sp_law_chars K) := by
  refine T.F__law_chars.ok sc_law_chars len2 (fun cdv A outer s H vs Q E hr h => ?_)
  have nd := sc_law_chars.nd
  have hu := hu_of hr
  obtain ⟨_, _, rfl, p, n, rfl, rfl, hP, n1, k⟩ := h
  refine ⟨_,
      (pss_cons (ps_set (i := 2) nd rfl (Or.inr rfl) pe_str) 
      (pss_cons (ps_set (i := 2) nd rfl (Or.inr rfl) (pe_op zop_addS (pv 2) pe_str)) 
      (pss_cons (ps_set (i := 3) nd rfl (Or.inl rfl) (zpe_join pe_str (pe_lc (own := [("k", 5)]) rfl nd (pi_range1 (by rfl) T.b_range (pa_cons (pe_callB (call_min2 rfl) (by rfl) T.b_min (by decide +kernel) (pa_cons (pv 1) (pa_cons pe_int pa_nil))) pa_nil)) (blkOk_by (own := [("k", 5)]) (N := ["pool", "count", "alphabet", "free", "step", "k"]) (sc := defScope s_law_chars) (by decide +kernel)) (fun _ _ _ _ _ => (pg_name (i := 5) nd rfl (Or.inl rfl))) (fun _ _ _ _ _ => pts_nil) (fun _ _ _ _ _ => (pe_ix ix_str (pv 2) (pe_call (ok_law_draw T) (hr.mono (by decide)) (by rfl) T.g__law_draw T.F__law_draw.kp T.k__law_draw .nil pass0 (pa_cons (pv 0) (pa_cons pe_int pa_nil))) (fun _ _ => rfl)))))) 
      (pss_cons (ps_set (i := 4) nd rfl (Or.inr rfl) (pe_call (ok_law_draw T) (hr.mono (by decide)) (by rfl) T.g__law_draw T.F__law_draw.kp T.k__law_draw .nil pass0 (pa_cons (pv 0) (pa_cons pe_int pa_nil)))) 
      (pss_one (ps_ret (pe_op zop_addS (pv 3) (zpe_join pe_str (pe_lc (own := [("k", 5)]) rfl nd (pi_range1 (by rfl) T.b_range (pa_cons (pe_op op_sub (pv 1) (pe_callB zc_len (by rfl) T.b_len (by decide +kernel) (pa_cons (pv 3) pa_nil))) pa_nil)) (blkOk_by (own := [("k", 5)]) (N := ["pool", "count", "alphabet", "free", "step", "k"]) (sc := defScope s_law_chars) (by decide +kernel)) (fun _ _ _ _ _ => (pg_name (i := 5) nd rfl (Or.inl rfl))) (fun _ _ _ _ _ => pts_nil) (fun _ _ _ _ _ => (pe_ix ix_str (pv 2) (pe_op op_mod (pe_callTy zc_int (by rfl) T.b_int (by decide +kernel) (pa_cons (pe_op op_add (pe_op op_mulW (pv 4) (pv 5)) (pe_op op_mulW (pv 5) (pv 5))) pa_nil)) pe_int) (fun _ _ => rfl)))))))))))), ?_⟩
  change (_ : TS) _ [some _, some _, none, none, none, none] _
  try dsimp only [cxOf, Cx.nox, Cx.wish]
  walk_at "go"
  refine w_addS (sz (by decide +kernel)) ?_
  walk_at "go"
  rw [show (Str.ofString " !\"#$&'()*+,-./0123456789:;<=>?@ABCDEFGHIJKLMNOPQRSTUVWXYZ[\\]^_`" ++ Str.ofString "abcdefghijklmnopqrstuvwxyz{|}~") = alph from sgx_is]
  refine ⟨_, _, rfl, ?_⟩
  walk_at "go"
  rw [min_if]
  obtain ⟨m, em⟩ : ∃ m : Nat, min (n : Int) 6 = (m : Int) ∧ m ≤ n ∧ m ≤ 6 := ⟨min n 6, by omega, by omega, by omega⟩
  rw [em.1]
  refine ⟨_, rfl, by omega, by omega, fun D nD => ?_⟩
  rw [Int.toNat_natCast]
  have nDp : D ≠ p := (hP.ne nD).symm
  refine z_lc_range (lo := 0) (fun i acc H' => Ext [p] H H' ∧ PoolAt K H' p ∧ ∃ cs : List Nat, acc = (cs.map fun c => S [c]).map V.str ∧ cs.length = i ∧ Al cs) nD (fun H' e => ⟨e.up, hP.ext e List.not_mem_nil, [], rfl, rfl, al_nil⟩) ?_ ?_
  · rintro Nx i acc H4 hi ⟨e4, P4, cs, rfl, hl, ac⟩ hD hN
    walk_at "go"
    refine ⟨rfl, ?_⟩
    walk_at "go"
    refine w_draw P4 (by decide) (by decide) fun u H5 d0 d1 e5 P5 => ?_
    walk_at "go"
    obtain ⟨c', hc', mc'⟩ := sgx_at d0 (by omega)
    refine w_ixS alph_sz hc' ?_
    refine w_app (e5.keep _ _ hD (nm1 nDp)) (szl (by rw [List.length_map, List.length_map]; omega)) fun H6 e6 hD6 => ?_
    refine hN _ _ ⟨(e4.trans e5).dropq e6 nD, P5.ext e6 (nm1 nDp.symm), cs ++ [c'], by rw [List.map_append, List.map_append]; rfl, by rw [List.length_append, hl]; rfl, al_snoc ac mc'⟩ hD6
  · rintro acc H4 ⟨e4, P4, cs, rfl, hl, ac⟩ hD
    refine w_join (ys := cs.map fun c => S [c]) (sql hD) (by rw [sum1, List.length_map, show (Str.ofString "").length = 0 from by decide]; omega) ?_
    rw [join1]
    walk_at "go"
    refine w_draw P4 (by decide) (by decide) fun st H5 d0 d1 e5 P5 => ?_
    walk_at "go"
    refine w_lenS (sz (by rw [S_len]; omega)) ?_
    rw [S_len]
    walk_at "go"
    obtain ⟨b, eb⟩ : ∃ b : Nat, (n : Int) - (cs.length : Int) = (b : Int) ∧ cs.length + b = n := ⟨n - cs.length, by omega, by omega⟩
    rw [eb.1]
    refine ⟨_, rfl, by omega, by omega, fun D2 nD2 => ?_⟩
    rw [Int.toNat_natCast]
    have nD2p : D2 ≠ p := (P5.ne nD2).symm
    refine z_lc_range (lo := 0) (fun i acc H' => Ext [p] H H' ∧ PoolAt K H' p ∧ ∃ ds : List Nat, acc = (ds.map fun c => S [c]).map V.str ∧ ds.length = i ∧ Al ds) nD2 (fun H' e => ⟨(e4.trans e5).trans e.up, P5.ext e List.not_mem_nil, [], rfl, rfl, al_nil⟩) ?_ ?_
    · rintro Nx i acc H6 hi ⟨e6, P6, ds, rfl, hl2, ad⟩ hD2 hN
      walk_at "go"
      refine ⟨rfl, ?_⟩
      walk_at "go"
      obtain ⟨c', hc', mc'⟩ := sgx_at (r := (st * (0 + (i : Int)) + (0 + (i : Int)) * (0 + (i : Int))) % 94) (Int.emod_nonneg _ (by decide)) (Int.emod_lt_of_pos _ (by decide))
      refine w_ixS alph_sz hc' ?_
      refine w_app hD2 (szl (by rw [List.length_map, List.length_map]; omega)) fun H7 e7 hD7 => ?_
      refine hN _ _ ⟨e6.dropq e7 ((e4.trans e5).free nD2), P6.ext e7 (nm1 nD2p.symm), ds ++ [c'], by rw [List.map_append, List.map_append]; rfl, by rw [List.length_append, hl2]; rfl, al_snoc ad mc'⟩ hD7
    · rintro acc H6 ⟨e6, P6, ds, rfl, hl2, ad⟩ hD2
      refine w_join (ys := ds.map fun c => S [c]) (sql hD2) (by rw [sum1, List.length_map, show (Str.ofString "").length = 0 from by decide]; omega) ?_
      rw [join1]
      walk_at "go"
      refine w_addS (sz (by rw [S_len, S_len]; omega)) ?_
      rw [S_cat]
      exact k _ _ (by rw [List.length_append]; omega) (al_app ac ad) e6 P6
theorem w_chars {H : Hp} {p : Addr} {n : Nat} {Q : VK} {E : XK} (hP : PoolAt K H p) (n1 : n ≤ 30) (k : ∀ (t : List Nat) H', t.length = n → Al t → Ext [p] H H' → PoolAt K H' p → Q (.str (S t)) H') : sp_law_chars K ([.ref p, .int (n : Int)] ++ []) H Q E := ⟨_, _, rfl, p, n, rfl, rfl, hP, n1, k⟩
theorem intL_dg {x : Int} (h0 : 0 ≤ x) (h1 : x < 10) : ∃ c, intL x = [c] ∧ 48 ≤ c ∧ c ≤ 57 ∧ (1 ≤ x → 49 ≤ c) := by
  obtain ⟨n, rfl⟩ := Int.eq_ofNat_of_zero_le h0
  refine ⟨48 + n, ?_, by omega, by omega, fun h => by omega⟩
  have := TL.numL_lt (n := n) (by omega)
  rw [intL_nat]
  exact this
theorem log_dg {x : Int} (h0 : 0 ≤ x) (h1 : x < 10) : x.natAbs.log2 < 1920 := log_lt (Nat.lt_of_lt_of_le (show x.natAbs < 10 by omega) (by decide))
def sp_law_digits (K : PySem.W.Frag) : Sp := sp2 fun a b H Q => ∃ (p : Addr) (n : Int), a = .ref p ∧ b = .int n ∧ PoolAt K H p ∧ n ≤ 60 ∧ 0 ≤ n ∧ ∀ (d : List Nat) H', AllDigits d → d ≠ [] → d.length ≤ 60 → Ext [p] H H' → PoolAt K H' p → Q (.str (S d)) H'
theorem ok_law_digits (T : Txt K mg) : FnOk P w K mg base CX0 4 T.f__law_digits T.d__law_digits ["pool", "count"] (sp_law_digits K) := by
  refine T.F__law_digits.ok sc_law_digits len2 (fun cdv A outer s H vs Q E hr h => ?_)
  have nd := sc_law_digits.nd
  have hu := hu_of hr
  obtain ⟨_, _, rfl, p, n, rfl, rfl, hP, n1, n0, k⟩ := h
  refine ⟨_,
      (pss_cons (ps_set (i := 2) nd rfl (Or.inr rfl) (pe_op op_add pe_int (pe_call (ok_law_draw T) (hr.mono (by decide)) (by rfl) T.g__law_draw T.F__law_draw.kp T.k__law_draw .nil pass0 (pa_cons (pv 0) (pa_cons pe_int pa_nil))))) 
      (pss_cons (ps_set (i := 3) nd rfl (Or.inr rfl) (pe_call (ok_law_draw T) (hr.mono (by decide)) (by rfl) T.g__law_draw T.F__law_draw.kp T.k__law_draw .nil pass0 (pa_cons (pv 0) (pa_cons pe_int pa_nil)))) 
      (pss_cons (ps_set (i := 4) nd rfl (Or.inl rfl) (zpe_join pe_str (pe_lc (own := [("k", 5)]) rfl nd (pi_range2 (by rfl) T.b_range (pa_cons pe_int (pa_cons (pv 1) pa_nil))) (blkOk_by (own := [("k", 5)]) (N := ["pool", "count", "first", "step", "rest", "k"]) (sc := defScope s_law_digits) (by decide +kernel)) (fun _ _ _ _ _ => (pg_name (i := 5) nd rfl (Or.inl rfl))) (fun _ _ _ _ _ => pts_nil) (fun _ _ _ _ _ => (pe_callTy zc_str (by rfl) T.b_str (by decide +kernel) (pa_cons (pe_op op_mod (pe_callTy zc_int (by rfl) T.b_int (by decide +kernel) (pa_cons (pe_op op_add (pe_op op_add (pv 2) (pe_op op_mulW (pv 3) (pv 5))) (pe_op op_fdivW (pe_op op_mulW (pv 5) (pv 5)) pe_int)) pa_nil)) pe_int) pa_nil)))))) 
      (pss_one (ps_ret (pe_op zop_addS (pe_callTy zc_str (by rfl) T.b_str (by decide +kernel) (pa_cons (pv 2) pa_nil)) (pv 4))))))), ?_⟩
  change (_ : TS) _ [some _, some _, none, none, none, none] _
  try dsimp only [cxOf, Cx.nox, Cx.wish]
  walk_at "go"
  refine w_draw hP (by decide) (by decide) fun f H1 f0 f1 e1 P1 => ?_
  walk_at "go"
  refine w_draw P1 (by decide) (by decide) fun st H2 s0 s1 e2 P2 => ?_
  walk_at "go"
  refine ⟨_, _, rfl, by omega, fun D nD => ?_⟩
  have nDp : D ≠ p := (P2.ne nD).symm
  have nDH : H D = none := (e1.trans e2).free nD
  refine z_lc_range (lo := 1) (fun i acc H' => Ext [p] H H' ∧ PoolAt K H' p ∧ ∃ ds : List Nat, acc = (ds.map fun c => S [c]).map V.str ∧ ds.length = i ∧ AllDigits ds) nD (fun H' e => ⟨(e1.trans e2).trans e.up, P2.ext e List.not_mem_nil, [], rfl, rfl, fun _ m => by cases m⟩) ?_ ?_
  · rintro Nx i acc H6 hi ⟨e6, P6, ds, rfl, hl2, al⟩ hD2 hN
    walk_at "go"
    refine ⟨rfl, ?_⟩
    walk_at "go"
    obtain ⟨c, ec, c0, c1, _⟩ := intL_dg (x := (1 + f + st * (1 + (i : Int)) + (1 + (i : Int)) * (1 + (i : Int)) / 3) % 10) (Int.emod_nonneg _ (by decide)) (Int.emod_lt_of_pos _ (by decide))
    refine w_strI (log_dg (Int.emod_nonneg _ (by decide)) (Int.emod_lt_of_pos _ (by decide))) ?_
    rw [ec]
    refine w_app hD2 (szl (by rw [List.length_map, List.length_map]; omega)) fun H7 e7 hD7 => ?_
    refine hN _ _ ⟨e6.dropq e7 nDH, P6.ext e7 (nm1 nDp.symm), ds ++ [c], by rw [List.map_append, List.map_append]; rfl, by rw [List.length_append, hl2]; rfl, fun x m => ?_⟩ hD7
    rcases List.mem_append.mp m with m | m
    · exact al x m
    · rw [List.mem_singleton.mp m]; exact ⟨c0, c1⟩
  · rintro acc H6 ⟨e6, P6, ds, rfl, hl2, al⟩ hD2
    refine w_join (ys := ds.map fun c => S [c]) (sql hD2) (by rw [sum1, List.length_map, show (Str.ofString "").length = 0 from by decide]; omega) ?_
    rw [join1]
    walk_at "go"
    obtain ⟨c, ec, c0, c1, _⟩ := intL_dg (x := 1 + f) (by omega) (by omega)
    refine w_strI (log_dg (by omega) (by omega)) ?_
    rw [ec]
    walk_at "go"
    refine w_addS (sz (by rw [S_len, S_len]; simp; omega)) ?_
    rw [S_cat]
    refine k _ _ (fun x m => ?_) (by simp) (by simp; omega) e6 P6
    rcases List.mem_append.mp m with m | m
    · rw [List.mem_singleton.mp m]; exact ⟨c0, c1⟩
    · exact al x m
theorem w_ldigits {H : Hp} {p : Addr} {n : Int} {Q : VK} {E : XK} (hP : PoolAt K H p) (n1 : n ≤ 60) (n0 : 0 ≤ n) (k : ∀ (d : List Nat) H', AllDigits d → d ≠ [] → d.length ≤ 60 → Ext [p] H H' → PoolAt K H' p → Q (.str (S d)) H') : sp_law_digits K ([.ref p, .int n] ++ []) H Q E := ⟨_, _, rfl, p, n, rfl, rfl, hP, n1, n0, k⟩
theorem dig_60 {d : List Nat} (h : AllDigits d) (k : d.length ≤ 60) : digitsVal d < 10 ^ 60 := by
  have := dig_lt 0 h
  rw [Nat.zero_add, Nat.one_mul] at this
  exact Nat.lt_of_lt_of_le this (Nat.pow_le_pow_right (by decide) k)
def sp_law_integer (K : PySem.W.Frag) : Sp := sp2 fun a b H Q => ∃ (p : Addr) (o : Int), a = .ref p ∧ b = .int o ∧ PoolAt K H p ∧ o = 0 ∧ ∀ (x : Int) H', x.natAbs < 10 ^ 60 → Ext [p] H H' → PoolAt K H' p → Q (.int x) H'
theorem ok_law_integer (T : Txt K mg) : FnOk P w K mg base CX0 5 T.f__law_integer T.d__law_integer ["pool", "over"] (sp_law_integer K) := by
  refine T.F__law_integer.ok sc_law_integer len2 (fun cdv A outer s H vs Q E hr h => ?_)
  have nd := sc_law_integer.nd
  have hu := hu_of hr
  obtain ⟨_, _, rfl, p, o, rfl, rfl, hP, rfl, k⟩ := h
  refine ⟨_,
      (pss_cons (ps_set (i := 2) nd rfl (Or.inl rfl) (pe_call (ok_law_draw T) (hr.mono (by decide)) (by rfl) T.g__law_draw T.F__law_draw.kp T.k__law_draw .nil pass0 (pa_cons (pv 0) (pa_cons pe_int pa_nil)))) 
      (pss_cons (ps_if (pt_cmpR op_lt (pv 2) pe_int (nomark _)) 
        (pss_one (ps_set (i := 3) nd rfl (Or.inl rfl) (pe_call (ok_law_draw T) (hr.mono (by decide)) (by rfl) T.g__law_draw T.F__law_draw.kp T.k__law_draw .nil pass0 (pa_cons (pv 0) (pa_cons pe_int pa_nil))))) 
        (pss_one (ps_if (pt_cmpR op_lt (pv 2) pe_int (nomark _)) 
          (pss_one (ps_set (i := 3) nd rfl (Or.inl rfl) (pe_call (ok_law_draw T) (hr.mono (by decide)) (by rfl) T.g__law_draw T.F__law_draw.kp T.k__law_draw .nil pass0 (pa_cons (pv 0) (pa_cons (pe_op op_add (pe_op op_mul pe_int (pe_op op_pow pe_int pe_int)) pe_int) pa_nil))))) 
          (pss_one (ps_if (pt_cmpR op_eq (pv 2) pe_int (nomark _)) 
            (pss_one (ps_set (i := 3) nd rfl (Or.inl rfl) (pe_call (ok_law_draw T) (hr.mono (by decide)) (by rfl) T.g__law_draw T.F__law_draw.kp T.k__law_draw .nil pass0 (pa_cons (pv 0) (pa_cons (pe_op op_pow pe_int pe_int) pa_nil))))) 
            (pss_one (ps_set (i := 3) nd rfl (Or.inl rfl) (pe_callTy zc_intS (by rfl) T.b_int (by decide +kernel) (pa_cons (pe_call (ok_law_digits T) (hr.mono (by decide)) (by rfl) T.g__law_digits T.F__law_digits.kp T.k__law_digits .nil pass0 (pa_cons (pv 0) (pa_cons (pe_op op_add pe_int (pe_call (ok_law_draw T) (hr.mono (by decide)) (by rfl) T.g__law_draw T.F__law_draw.kp T.k__law_draw .nil pass0 (pa_cons (pv 0) (pa_cons (pe_op op_add pe_int (pv 1)) pa_nil)))) pa_nil))) pa_nil))))))))) 
      (pss_cons (ps_if (pt_cmpR op_eq (pe_call (ok_law_draw T) (hr.mono (by decide)) (by rfl) T.g__law_draw T.F__law_draw.kp T.k__law_draw .nil pass0 (pa_cons (pv 0) (pa_cons pe_int pa_nil))) pe_int (nomark _)) 
        (pss_one (ps_ret (pe_un un_neg (pv 3)))) pss_nil) 
      (pss_one (ps_ret (pv 3)))))), ?_⟩
  change (_ : TS) _ [some _, some _, none, none] _
  try dsimp only [cxOf, Cx.nox, Cx.wish]
  walk_at "go"
  refine w_draw hP (by decide) (by decide) fun ch H1 c0 c1 e1 P1 => ?_
  walk_at "go"
  refine w_cut (fun σ' H' => Ext [p] H H' ∧ PoolAt K H' p ∧ ∃ x : Int, x.natAbs < 10 ^ 60 ∧ σ' = [some (.ref p), some (.int 0), some (.int ch), some (.int x)]) ?_ fun nx hN => ?_
  · rintro σ' H2 ⟨e2, P2, x, xs, rfl⟩
    walk_at "go"; walk_at "if"
    refine w_draw P2 (by decide) (by decide) fun s H3 s0 s1 e3 P3 => ?_
    walk_at "go"
    refine w_d (fun h => ?_) fun h => ?_ <;> walk_at "go"
    · exact k _ _ (by rw [Int.natAbs_neg]; exact xs) (e2.trans e3) P3
    · exact k _ _ xs (e2.trans e3) P3
  · walk_at "if"
    refine w_d (fun h => ?_) fun h => ?_ <;> walk_at "go"
    · refine w_draw P1 (by decide) (by decide) fun s H3 s0 s1 e3 P3 => ?_
      walk_at "go"
      exact hN _ _ ⟨e1.trans e3, P3, s, Nat.lt_of_lt_of_le (show s.natAbs < 12 by omega) (by decide), rfl⟩
    walk_at "if"
    refine w_d (fun h => ?_) fun h => ?_ <;> walk_at "go"
    · refine w_draw P1 (by decide +kernel) (by decide +kernel) fun s H3 s0 s1 e3 P3 => ?_
      walk_at "go"
      exact hN _ _ ⟨e1.trans e3, P3, s, Nat.lt_of_le_of_lt (show s.natAbs ≤ 2 * 10 ^ 9 + 3 by
        have : (2 * 10 ^ Int.toNat 9 + 3 : Int) = 2 * 10 ^ 9 + 3 := by decide +kernel
        omega) (by decide), rfl⟩
    walk_at "if"
    refine w_d (fun h => ?_) fun h => ?_ <;> walk_at "go"
    · refine w_draw P1 (by decide +kernel) (by decide +kernel) fun s H3 s0 s1 e3 P3 => ?_
      walk_at "go"
      exact hN _ _ ⟨e1.trans e3, P3, s, Nat.lt_of_le_of_lt (show s.natAbs ≤ 10 ^ 46 by
        have : (10 ^ Int.toNat 46 : Int) = 10 ^ 46 := by decide +kernel
        omega) (by decide), rfl⟩
    · refine w_draw P1 (by omega) (by omega) fun s H3 s0 s1 e3 P3 => ?_
      walk_at "go"
      refine w_ldigits P3 (by omega) (by omega) fun d H4 da dn d61 e4 P4 => ?_
      walk_at "go"
      refine w_intS da dn (by omega) ?_
      walk_at "go"
      exact hN _ _ ⟨(e1.trans e3).trans e4, P4, _, by rw [Int.natAbs_natCast]; exact dig_60 da d61, rfl⟩
theorem w_linteger {H : Hp} {p : Addr} {Q : VK} {E : XK} (hP : PoolAt K H p) (k : ∀ (x : Int) H', x.natAbs < 10 ^ 60 → Ext [p] H H' → PoolAt K H' p → Q (.int x) H') : sp_law_integer K ([.ref p, .int 0] ++ []) H Q E := ⟨_, _, rfl, p, 0, rfl, rfl, hP, rfl, k⟩

open SX PySem.NumText
/-! ### drawn values -/
theorem S_tl2 (t : List Nat) : (S t).cps.toList = t := rfl
structure Drw (r L L' : Int) (d : PyData) : Prop where
  sm : fit d
  dep : (d.depth : Int) ≤ max r 0 + 1
  len : ((wr d).length : Int) ≤ 90 * (L - L')
  lt : L' < L
  lo : L ≤ 0 → L' = L - 1
  hi : 1 ≤ L → -(4 + 4 * max r 0) ≤ L'
theorem intL_len {x : Int} (h : x.natAbs < 10 ^ 61) : (intL x).length ≤ 62 := by
  have nat : ∀ n : Nat, n < 10 ^ 61 → (intL (n : Int)).length ≤ 61 := fun n hn => by
    rw [intL_nat, List.length_map]
    exact PyProof.Rows.digits10_le (by decide) hn
  rcases (show x < 0 ∨ 0 ≤ x by omega) with z | z
  · obtain ⟨n, rfl⟩ : ∃ n : Nat, x = -(n : Int) := ⟨x.natAbs, by omega⟩
    rw [Int.natAbs_neg, Int.natAbs_natCast] at h
    rw [intL_neg (by omega), List.length_cons]
    have := nat n h
    omega
  · obtain ⟨n, rfl⟩ := Int.eq_ofNat_of_zero_le z
    have := nat n (by simpa using h)
    exact Nat.le_trans this (by decide)
theorem wr_str_len {t : List Nat} {n : Nat} (tl : t.length = n) (h : (intL (n : Int)).length ≤ 62) (n22 : n ≤ 22) : (wr (.str (S t))).length ≤ 90 := by
  rw [wr, S_len, tl, List.length_cons, List.length_append, List.length_cons]
  show _ + (t.length + 1) + 1 ≤ 90
  omega
theorem drw_leaf {r L : Int} {d : PyData} (sm : fit d) (dp : (d.depth : Int) ≤ max r 0 + 1) (ln : (wr d).length ≤ 90) : Drw r L (L - 1) d := ⟨sm, dp, by omega, by omega, fun _ => rfl, fun _ => by omega⟩
def sp_drw (n : Nat) (K : PySem.W.Frag) : Sp := sp4 fun a b c d H Q => ∃ (p q : Addr) (r o L : Int), a = .ref p ∧ b = .int r ∧ c = .int o ∧ d = .ref q ∧ PoolAt K H p ∧ H q = some (.lst [.int L]) ∧ q ≠ p ∧ r + 10 < (n : Int) ∧ -10 ≤ r ∧ r ≤ 16 ∧ o = 0 ∧
  ∀ v d L' H', Ext [p, q] H H' → PoolAt K H' p → H' q = some (.lst [.int L']) → Jw K H' v d → Drw r L L' d → Q v H'
theorem ok_drw_no (T : Txt K mg) : FnOk P w K mg base CX0 0 T.f__law_value T.d__law_value ["pool", "room", "over", "left"] (sp_drw 0 K) :=
  ⟨fun _ _ _ _ h => by obtain ⟨_, _, _, _, rfl, _⟩ := h; rfl, fun _ _ _ _ _ _ _ _ _ _ _ _ _ h => by obtain ⟨_, _, _, _, _, _, _, _, _, _, _, _, _, _, _, _, _, h1, h2, _⟩ := h; omega⟩
theorem step_draw (T : Txt K mg)  (n l : Nat) (ih : FnOk P w K mg base CX0 (l + 5) T.f__law_value T.d__law_value ["pool", "room", "over", "left"] (sp_drw n K)) : FnOk P w K mg base CX0 (l+6) T.f__law_value T.d__law_value ["pool", "room", "over", "left"] (sp_drw (n+1) K) := by
  refine T.F__law_value.ok sc_law_value len4 (fun cdv A outer s H vs Q E hr h => ?_)
  have nd := sc_law_value.nd
  have hu := hu_of hr
  obtain ⟨_, _, _, _, rfl, p, q, r, o, L, rfl, rfl, rfl, rfl, hP, hq, nqp, rn, r0, r16, rfl, k⟩ := h
  refine ⟨_,
      (pss_cons (ps_asg (pe_op op_sub (pe_ix ix_list (pv 3) pe_int (fun _ _ => rfl)) pe_int) (pg_sub (pv 3) pe_int zset_list)) 
      (pss_cons (ps_set (i := 4) nd rfl (Or.inl rfl) (pe_call (ok_law_draw T) (hr.mono (by first | decide | omega)) (by rfl) T.g__law_draw T.F__law_draw.kp T.k__law_draw .nil pass0 (pa_cons (pv 0) (pa_cons pe_int pa_nil)))) 
      (pss_cons (ps_if (PW.pt (pw_or (pt_cmpR op_eq (pv 4) pe_int (nomark _)) (pw_or1 (pt_cmpR op_lt (pe_ix ix_list (pv 3) pe_int (fun _ _ => rfl)) pe_int (nomark _))))) 
        (pss_one (ps_ret pe_non)) pss_nil) 
      (pss_cons (ps_if (pt_cmpR op_eq (pv 4) pe_int (nomark _)) 
        (pss_one (ps_ret (pe_cmpR op_eq (pe_call (ok_law_draw T) (hr.mono (by first | decide | omega)) (by rfl) T.g__law_draw T.F__law_draw.kp T.k__law_draw .nil pass0 (pa_cons (pv 0) (pa_cons pe_int pa_nil))) pe_int (nomark _)))) pss_nil) 
      (pss_cons (ps_if (PW.pt (pw_or (pt_cmpR op_lt (pv 4) pe_int (nomark _)) (pw_or1 (PW.pt (pw_and (pt_cmpR op_gt (pv 4) pe_int (nomark _)) (pw_and1 (pt_cmpR op_le (pv 1) pe_int (nomark _)))))))) 
        (pss_one (ps_ret (pe_call (ok_law_integer T) (hr.mono (by first | decide | omega)) (by rfl) T.g__law_integer T.F__law_integer.kp T.k__law_integer .nil pass0 (pa_cons (pv 0) (pa_cons (pv 2) pa_nil))))) pss_nil) 
      (pss_cons (ps_if (pt_cmpR op_lt (pv 4) pe_int (nomark _)) 
        (pss_one (ps_ret (pe_call (ok_law_chars T) (hr.mono (by first | decide | omega)) (by rfl) T.g__law_chars T.F__law_chars.kp T.k__law_chars .nil pass0 (pa_cons (pv 0) (pa_cons (pe_call (ok_law_pick T) (hr.mono (by first | decide | omega)) (by rfl) T.g__law_pick T.F__law_pick.kp T.k__law_pick .nil pass0 (pa_cons (pv 0) (pa_cons (pe_lstZ (pa_cons pe_int (pa_cons pe_int (pa_cons pe_int (pa_cons pe_int (pa_cons pe_int (pa_cons pe_int (pa_cons pe_int (pa_cons pe_int (pa_cons (pe_op op_add pe_int (pe_op op_mul pe_int (pv 2))) pa_nil)))))))))) pa_nil))) pa_nil))))) pss_nil) 
      (pss_cons (ps_if (PW.pt (pw_and (pt_cmpR op_eq (pv 4) pe_int (nomark _)) (pw_and1 (pt_cmpR op_eq (pe_call (ok_law_draw T) (hr.mono (by first | decide | omega)) (by rfl) T.g__law_draw T.F__law_draw.kp T.k__law_draw .nil pass0 (pa_cons (pv 0) (pa_cons pe_int pa_nil))) pe_int (nomark _))))) 
        (pss_cons (ps_set (i := 5) nd rfl (Or.inl rfl) pe_non) 
        (pss_cons (ps_for PassesOwn.never rfl (pi_range1 (by rfl) T.b_range (pa_cons (pe_op op_sub (pe_op op_add (pv 1) (pv 2)) (pe_call (ok_law_draw T) (hr.mono (by first | decide | omega)) (by rfl) T.g__law_draw T.F__law_draw.kp T.k__law_draw .nil pass0 (pa_cons (pv 0) (pa_cons pe_int pa_nil)))) pa_nil)) (pg_name (i := 6) nd rfl (Or.inl rfl)) 
          (pss_one (ps_set (i := 5) nd rfl (Or.inl rfl) (pe_tupZ (pa_cons (pv 5) pa_nil))))) 
        (pss_one (ps_ret (pv 5))))) pss_nil) 
      (pss_one (ps_ret (pe_callTy zc_tup (by rfl) T.b_tuple (by decide +kernel) (pa_cons (pe_lc (own := [("k", 6)]) rfl nd (pi_range1 (by rfl) T.b_range (pa_cons (pe_call (ok_law_draw T) (hr.mono (by first | decide | omega)) (by rfl) T.g__law_draw T.F__law_draw.kp T.k__law_draw .nil pass0 (pa_cons (pv 0) (pa_cons pe_int pa_nil))) pa_nil)) (blkOk_by (own := [("k", 6)]) (N := ["pool", "room", "over", "left", "choice", "value", "k"]) (sc := defScope s_law_value) (by decide +kernel)) (fun _ _ _ _ _ => (pg_name (i := 6) nd rfl (Or.inl rfl))) (fun _ _ _ _ _ => pts_nil) (fun _ _ _ _ _ => (pe_call ih (hr.mono (by omega)) (by rfl) T.g__law_value T.F__law_value.kp T.k__law_value .nil pass0 (pa_cons (pv 0) (pa_cons (pe_op op_sub (pe_op op_sub (pv 1) pe_int) (pe_call (ok_law_draw T) (hr.mono (by first | decide | omega)) (by rfl) T.g__law_draw T.F__law_draw.kp T.k__law_draw .nil pass0 (pa_cons (pv 0) (pa_cons pe_int pa_nil)))) (pa_cons (pv 2) (pa_cons (pv 3) pa_nil))))))) pa_nil))))))))))), ?_⟩
  change (_ : TS) _ [some _, some _, some _, some _, none, none, none] _
  try dsimp only [cxOf, Cx.nox, Cx.wish]
  walk_at "go"
  refine w_chg hq (fun z => z) fun H1 e1 g1 => ?_
  change H1 q = some (.lst [.int (L - 1)]) at g1
  have P1 := hP.ext e1 (nm1 nqp.symm)
  walk_at "go"
  refine w_draw P1 (by decide) (by decide) fun ch H2 c0 c1 e2 P2 => ?_
  have g2 := e2.keep _ _ g1 (nm1 nqp)
  have E2 : Ext [p, q] H H2 := (e1.mono fun a m => by rw [List.mem_singleton.mp m]; simp).trans (e2.mono fun a m => by rw [List.mem_singleton.mp m]; simp)
  have em : ∀ {a : Addr}, a ∈ [p] → a ∈ [p, q] := fun m => by rw [List.mem_singleton.mp m]; simp
  walk_at "go"; walk_at "if"
  refine w_d (fun h => ?_) fun h1 => ?_
  · walk_at "go"
    exact k _ _ _ _ E2 P2 g2 .non (drw_leaf trivial (by show (0 : Int) ≤ _; omega) (by show 1 ≤ 90; decide))
  walk_at "go"
  refine w_d (fun h => ?_) fun h2 => ?_
  · walk_at "go"
    exact k _ _ _ _ E2 P2 g2 .non (drw_leaf trivial (by show (0 : Int) ≤ _; omega) (by show 1 ≤ 90; decide))
  walk_at "go"; walk_at "if"
  refine w_d (fun h => ?_) fun h3 => ?_
  · walk_at "go"
    refine w_draw P2 (by decide) (by decide) fun u H3 u0 u1 e3 P3 => ?_
    walk_at "go"
    exact k _ _ _ _ (E2.trans (e3.mono fun _ => em)) P3 (e3.keep _ _ g2 (nm1 nqp)) (.bl _) (drw_leaf trivial (by show (0 : Int) ≤ _; omega) (by simp [wr]))
  have intR : sp_law_integer K ([.ref p, .int 0] ++ []) H2 Q E0 := by
    refine w_linteger P2 fun x H3 xs e3 P3 => ?_
    have := intL_len (Nat.lt_trans xs (by decide))
    exact k _ _ _ _ (E2.trans (e3.mono fun _ => em)) P3 (e3.keep _ _ g2 (nm1 nqp)) (.int x) (drw_leaf (show fit (.int x) by rw [fit]; exact xs) (by show (0 : Int) ≤ _; omega) (by rw [wr, List.length_cons, List.length_append]; simp; omega))
  walk_at "go"
  refine w_cut (fun σ' H' => H2 = H' ∧ (ch ≤ 5 ∨ 1 ≤ r) ∧ 4 ≤ ch ∧ σ' = [some (.ref p), some (.int r), some (.int 0), some (.ref q), some (.int ch), none, none]) ?_ fun nx hN => ?_
  rotate_left
  · walk_at "if"
    refine w_d (fun h => ?_) fun h4 => ?_
    · walk_at "go"
      exact intR
    walk_at "go"
    refine w_d (fun h => ?_) fun h5 => ?_
    · walk_at "go"
      refine w_d (fun h => ?_) fun h6 => ?_
      · walk_at "go"
        exact intR
      · exact hN _ _ ⟨rfl, .inr (by omega), by omega, rfl⟩
    · exact hN _ _ ⟨rfl, .inl (by omega), by omega, rfl⟩
  rintro _ _ ⟨rfl, hc, h4, rfl⟩
  walk_at "go"; walk_at "if"
  refine w_d (fun h5 => ?_) fun h5 => ?_
  · walk_at "go"
    refine ⟨sz (by show 9 ≤ _; decide), w_alc fun o2 H3 e3 n3 h3 => ?_⟩
    walk_at "go"
    refine w_pickL (P2.ext e3 List.not_mem_nil) h3 (P2.ne n3).symm (by show 0 < 9; decide) (by show 9 ≤ 1000; decide) fun v H4 hv e4 P4 => ?_
    obtain ⟨n', rfl, n22⟩ : ∃ n' : Nat, v = .int (n' : Int) ∧ n' ≤ 20 := by
      simp only [List.mem_cons, List.not_mem_nil, or_false] at hv
      rcases hv with rfl | rfl | rfl | rfl | rfl | rfl | rfl | rfl | rfl
      · exact ⟨0, rfl, by omega⟩
      · exact ⟨1, rfl, by omega⟩
      · exact ⟨2, rfl, by omega⟩
      · exact ⟨5, rfl, by omega⟩
      · exact ⟨9, rfl, by omega⟩
      · exact ⟨10, rfl, by omega⟩
      · exact ⟨19, rfl, by omega⟩
      · exact ⟨20, rfl, by omega⟩
      · exact ⟨20, rfl, by omega⟩
    walk_at "go"
    refine w_chars P4 (by omega) fun t H5 tl al5 e5 P5 => ?_
    have := intL_len (x := (n' : Int)) (Nat.lt_of_le_of_lt (show (n' : Int).natAbs ≤ 22 by omega) (by decide))
    exact k _ _ _ _ (((E2.trans e3.up).trans (e4.mono fun _ => em)).trans (e5.mono fun _ => em)) P5 (e5.keep _ _ (e4.keep _ _ (e3.keep _ _ g2 List.not_mem_nil) (nm1 nqp)) (nm1 nqp)) (.str _)
      (drw_leaf (show fit (.str (S t)) by rw [fit, S_len, S_tl2]; exact ⟨by omega, al5⟩) (by show (0 : Int) ≤ _; omega) (wr_str_len tl this (by omega)))
  have r1 : 1 ≤ r := by omega
  walk_at "go"
  refine w_cut (fun σ' H' => Ext [p, q] H H' ∧ PoolAt K H' p ∧ H' q = some (.lst [.int (L - 1)]) ∧ σ' = [some (.ref p), some (.int r), some (.int 0), some (.ref q), some (.int ch), none, none]) ?_ fun nx hN => ?_
  rotate_left
  · walk_at "if"
    refine w_d (fun h => ?_) fun h6 => ?_
    · walk_at "go"
      refine w_draw P2 (by decide) (by decide) fun u H3 u0 u1 e3 P3 => ?_
      have E3 := E2.trans (e3.mono fun _ => em)
      have g3 := e3.keep _ _ g2 (nm1 nqp)
      walk_at "go"
      refine w_d (fun h => ?_) fun h7 => ?_
      · walk_at "go"
        refine w_draw P3 (by decide) (by decide) fun u2 H4 u20 u21 e4 P4 => ?_
        have E4 := E3.trans (e4.mono fun _ => em)
        have g4 := e4.keep _ _ g3 (nm1 nqp)
        walk_at "go"
        obtain ⟨m, em2⟩ : ∃ m : Nat, (r + 0 - u2).toNat = m ∧ (m : Int) ≤ r + 1 ∧ m ≤ 17 := ⟨_, rfl, by omega, by omega⟩
        refine ⟨_, rfl, by omega, by omega, ?_⟩
        rw [em2.1]
        refine z_for_range (lo := 0) (fun i σ' H' => Ext [p, q] H H' ∧ PoolAt K H' p ∧ H' q = some (.lst [.int (L - 1)]) ∧ ∃ v d u, Jw K H' v d ∧ d.depth ≤ i ∧ fit d ∧ (wr d).length ≤ 1 + 2 * i ∧ σ' = [some (.ref p), some (.int r), some (.int 0), some (.ref q), some (.int ch), some v, u])
          ⟨E4, P4, g4, .non, .none, none, .non, Nat.le_refl _, trivial, Nat.le_refl _, rfl⟩ ?_ ?_
        · rintro N i σ' H5 hi ⟨E5, P5, g5, v, d, u', hj, dd, sm, ln, rfl⟩ hN2
          walk_at "go"
          refine ⟨sz (by show 1 ≤ _; decide), w_alc fun a H6 e6 n6 h6 => ?_⟩
          refine hN2 _ _ ⟨E5.trans e6.up, P5.ext e6 List.not_mem_nil, e6.keep _ _ g5 List.not_mem_nil, .ref a, .tuple [d], _, .tup (sqt h6) (by show 1 ≤ 100000; decide) (.cons (hj.ext e6) .nil), ?_, (show fit (.tuple [d]) by rw [fit, fitAll, fitAll]; exact ⟨by show 1 ≤ 100000; decide, sm, trivial⟩), ?_, rfl⟩
          · simp only [PyData.depth, PyData.depthAll]; omega
          · simp only [wr, wrAll, List.length_cons, List.length_append, List.length_nil]; omega
        · rintro σ' H5 ⟨E5, P5, g5, v, d, u', hj, dd, sm, ln, rfl⟩
          walk_at "go"
          exact k _ _ _ _ E5 P5 g5 hj (drw_leaf sm (by omega) (by omega))
      · exact hN _ _ ⟨E3, P3, g3, rfl⟩
    · exact hN _ _ ⟨E2, P2, g2, rfl⟩
  rintro _ H3 ⟨E3, P3, g3, rfl⟩
  walk_at "go"
  refine w_draw P3 (by decide) (by decide) fun u H4 u0 u1 e4 P4 => ?_
  have E4 := E3.trans (e4.mono fun _ => em)
  have g4 := e4.keep _ _ g3 (nm1 nqp)
  walk_at "go"
  obtain ⟨m, em2⟩ : ∃ m : Nat, u = (m : Int) ∧ m ≤ 4 := ⟨u.toNat, by omega, by omega⟩
  obtain ⟨rfl, m4⟩ := em2
  refine ⟨_, rfl, by omega, by omega, fun D nD => ?_⟩
  rw [Int.toNat_natCast]
  have nDp : D ≠ p := (P4.ne nD).symm
  have nDq : D ≠ q := fun z => by subst z; rw [nD] at g4; cases g4
  have nDH : H D = none := E4.free nD
  have L0 : 1 ≤ L := by omega
  refine z_lc_range (lo := 0) (fun i acc H' => Ext [p, q] H H' ∧ PoolAt K H' p ∧ ∃ (M : Int) (ds : List PyData), H' q = some (.lst [.int M]) ∧ JwAll K H' acc ds ∧ acc.length = i ∧ fitAll ds ∧ (∀ d ∈ ds, (d.depth : Int) ≤ r) ∧ ((wrAll ds).length : Int) ≤ 90 * (L - 1 - M) ∧ M ≤ L - 1 - i ∧ -(4 * r) - i ≤ M)
    nD (fun H' e => ⟨E4.trans e.up, P4.ext e List.not_mem_nil, L - 1, [], e.keep _ _ g4 List.not_mem_nil, .nil, rfl, trivial, by (intro _ m; cases m), by simp [wrAll], by omega, by omega⟩) ?_ ?_
  · rintro Nx i acc H5 hi ⟨E5, P5, M, ds, g5, hj, hl, sm, dp, ln, M1, M2⟩ hD hN
    walk_at "go"
    refine ⟨rfl, ?_⟩
    walk_at "go"
    refine w_draw P5 (by decide) (by decide) fun v H6 v0 v1 e6 P6 => ?_
    have g6 := e6.keep _ _ g5 (nm1 nqp)
    walk_at "go"
    refine ⟨_, _, _, _, rfl, p, q, r - 1 - v, 0, M, rfl, rfl, rfl, rfl, P6, g6, nqp, by omega, by omega, by omega, rfl, fun y d M' H7 e7 P7 g7 hy w => ?_⟩
    have hD7 := e7.keep _ _ (e6.keep _ _ hD (nm1 nDp)) (fun m => by
      rcases List.mem_cons.mp m with z | z
      · exact nDp z
      · exact nDq (List.mem_singleton.mp z))
    refine w_app hD7 (szl (by omega)) fun H8 e8 hD8 => ?_
    have E7 : Ext [p, q] H H7 := (E5.trans (e6.mono fun _ => em)).trans e7
    refine hN _ _ ⟨E7.dropq e8 nDH, P7.ext e8 (nm1 nDp.symm), M', ds ++ [d], e8.keep _ _ g7 (nm1 nDq.symm), (((hj.ext e6).ext e7).snoc hy).ext e8, by rw [List.length_append, hl]; rfl, fit_snoc w.sm sm, fun d' m => ?_, ?_, ?_, ?_⟩ hD8
    · rcases List.mem_append.mp m with m | m
      · exact dp d' m
      · rw [List.mem_singleton.mp m]
        have := w.dep
        omega
    · rw [wrAll_app, List.length_append, show wrAll [d] = wr d from by rw [wrAll, wrAll, List.append_nil]]
      have := w.len
      omega
    · have := w.lt; omega
    · rcases (show M ≤ 0 ∨ 1 ≤ M by omega) with z | z
      · have := w.lo z; omega
      · have := w.hi z; omega
  · rintro acc H5 ⟨E5, P5, M, ds, g5, hj, hl, sm, dp, ln, M1, M2⟩ hD
    walk_at "go"
    refine w_tupL (sql hD) (w_alc fun a H6 e6 n6 h6 => ?_)
    have := hj.len
    refine k _ _ M _ (E5.trans e6.up) (P5.ext e6 List.not_mem_nil) (e6.keep _ _ g5 List.not_mem_nil) (.tup (sqt h6) (by omega) (hj.ext e6)) ⟨(show fit (.tuple ds) by rw [fit]; exact ⟨by omega, sm⟩), ?_, ?_, by omega, fun z => by omega, fun _ => by omega⟩
    · rw [d_tup]
      have := depAll_le (n := r.toNat) fun d m => by have := dp d m; omega
      omega
    · rw [wr, List.length_cons, List.length_append]
      simp
      omega
theorem ok_drw_all (T : Txt K mg) : ∀ n, FnOk P w K mg base CX0 (n + 5) T.f__law_value T.d__law_value ["pool", "room", "over", "left"] (sp_drw n K)
  | 0 => .mono (ok_drw_no T) (by decide)
  | n + 1 => step_draw T n n (ok_drw_all T n)
def sp_law_value (K : PySem.W.Frag) : Sp := sp_drw 27 K
theorem ok_law_value (T : Txt K mg) : FnOk P w K mg base CX0 32 T.f__law_value T.d__law_value ["pool", "room", "over", "left"] (sp_law_value K) := ok_drw_all T 27
theorem w_value {H : Hp} {p q : Addr} {r L : Int} {Q : VK} {E : XK} (hP : PoolAt K H p) (hq : H q = some (.lst [.int L])) (n : q ≠ p) (r0 : -10 ≤ r) (r1 : r ≤ 16)
    (k : ∀ v d L' H', Ext [p, q] H H' → PoolAt K H' p → H' q = some (.lst [.int L']) → Jw K H' v d → Drw r L L' d → Q v H') : sp_law_value K ([.ref p, .int r, .int 0, .ref q] ++ []) H Q E :=
  ⟨_, _, _, _, rfl, p, q, r, 0, L, rfl, rfl, rfl, rfl, hP, hq, n, by omega, r0, r1, rfl, k⟩

open SX PySem.NumText
/-! ### the law's own checks and files -/
theorem len0 {P : Hp → VK → Prop} : ∀ vs H Q E, sp0 P vs H Q E → vs.length = ([] : List Str).length := fun _ _ _ _ h => by rw [h.1]; rfl
theorem alph_nd : alph.cps.toList.Nodup := by decide +kernel
theorem alph_ix : ∀ i, i < 94 → (alph.cps.toList[i]?).map plc = some i := by decide +kernel
theorem plc_at {i c : Nat} (h : alph.cps.toList[i]? = some c) : plc c = i := by
  have l := (List.getElem?_eq_some_iff.mp h).1
  rw [alph_len] at l
  have := alph_ix i l
  rw [h] at this
  exact Option.some.inj this
def plcL (cs : List Nat) : List (Key × V) := cs.map fun c => ((Sum.inr (S [c]) : Key), V.int ((plc c : Nat) : Int))
theorem plc_key {a b : Nat} (h : a ≠ b) : decide ((Sum.inr (S [a]) : Key) = Sum.inr (S [b])) = false := decide_eq_false fun z => by
  have := S_inj (Sum.inr.inj z)
  simp at this
  exact h this
theorem plcL_any {c : Nat} : ∀ {cs : List Nat}, c ∉ cs → ((plcL cs).any fun kv => decide (kv.1 = Sum.inr (S [c]))) = false
  | [], _ => rfl
  | y :: r, m => by
    have e : y ≠ c := fun z => m (z ▸ List.mem_cons_self)
    unfold plcL
    rw [List.map_cons, List.any_cons, plc_key e]
    exact plcL_any (cs := r) fun z => m (List.mem_cons_of_mem _ z)
theorem plcL_put {c : Nat} {cs : List Nat} (m : c ∉ cs) : putK (plcL cs) (Sum.inr (S [c])) (.int ((plc c : Nat) : Int)) = plcL (cs ++ [c]) := by
  unfold putK
  rw [plcL_any m]
  unfold plcL
  rw [List.map_append]
  simp
theorem plcL_val {c : Nat} : ∀ {cs : List Nat}, c ∈ cs → valV (plcL cs) (Sum.inr (S [c])) = some (.int ((plc c : Nat) : Int))
  | y :: r, m => by
    unfold valV plcL
    rw [List.map_cons, List.find?_cons]
    by_cases e : y = c
    · subst e
      simp
    · rw [plc_key e]
      exact plcL_val (cs := r) ((List.mem_cons.mp m).resolve_left fun z => e z.symm)
theorem not_in_take {α : Type} {N : List α} {i : Nat} {y : α} (nd : N.Nodup) (hl : N[i]? = some y) : y ∉ N.take i := fun m => by
  have li := (List.getElem?_eq_some_iff.mp hl).1
  have e := List.take_append_drop i N
  rw [List.drop_eq_getElem_cons li, (List.getElem?_eq_some_iff.mp hl).2] at e
  rw [← e] at nd
  exact (List.nodup_append.mp nd).2.2 y m y List.mem_cons_self rfl
def sp_law_places (K : PySem.W.Frag) : Sp := sp0 fun H Q => ∀ r H', Ext [] H H' → H r = none → H' r = some (.dK (plcL alph.cps.toList)) → Q (.ref r) H'
theorem ok_law_places (T : Txt K mg) : FnOk P w K mg base CX0 1 T.f__law_places T.d__law_places [] (sp_law_places K) := by
  refine T.F__law_places.ok sc_law_places len0 (fun cdv A outer s H vs Q E hr h => ?_)
  have nd := sc_law_places.nd
  have hu := hu_of hr
  obtain ⟨rfl, k⟩ := h
  refine ⟨_,
      (pss_cons (ps_set (i := 0) nd rfl (Or.inl rfl) pe_str) 
      (pss_cons (ps_set (i := 0) nd rfl (Or.inl rfl) (pe_op zop_addS (pv 0) pe_str)) 
      (pss_cons (ps_set (i := 1) nd rfl (Or.inl rfl) pe_dnewKZ) 
      (pss_cons (ps_for PassesOwn.never rfl (pi_range1 (by rfl) T.b_range (pa_cons pe_int pa_nil)) (pg_name (i := 2) nd rfl (Or.inl rfl)) 
        (pss_one (ps_dput hu (pv 1) (pe_ix ix_str (pv 0) (pv 2) (fun _ _ => rfl)) (pv 2) rfl))) 
      (pss_one (ps_ret (pv 1))))))), ?_⟩
  change (_ : TS) _ [none, none, none] _
  try dsimp only [cxOf, Cx.nox, Cx.wish]
  walk_at "go"
  refine w_addS (sz (by decide +kernel)) ?_
  walk_at "go"
  rw [show (Str.ofString " !\"#$&'()*+,-./0123456789:;<=>?@ABCDEFGHIJKLMNOPQRSTUVWXYZ[\\]^_`" ++ Str.ofString "abcdefghijklmnopqrstuvwxyz{|}~") = alph from sgx_is]
  refine w_alc fun r H1 e1 n1 h1 => ?_
  walk_at "go"
  refine ⟨_, rfl, by decide, by decide, ?_⟩
  refine z_for_range (lo := 0) (n := 94) (fun i σ' H' => Ext [] H H' ∧ H' r = some (.dK (plcL (alph.cps.toList.take i))) ∧ ∃ u, σ' = [some (.str alph), some (.ref r), u]) ⟨e1, h1, none, rfl⟩ ?_ ?_
  · rintro N i σ' H2 hi ⟨e2, h2, u, rfl⟩ hN
    obtain ⟨c, hc⟩ : ∃ c, alph.cps.toList[i]? = some c := ⟨_, List.getElem?_eq_getElem (by rw [alph_len]; exact hi)⟩
    walk_at "go"
    refine w_ixS (c := c) alph_sz (by rw [Int.zero_add]; exact atI_nat hc) ?_
    have ny := not_in_take alph_nd hc
    refine w_dputS h2 (szl (by unfold plcL; rw [List.length_map, List.length_take]; omega)) fun H3 e3 h3 => ?_
    refine hN _ _ ⟨e2.dropq e3 n1, ?_, _, rfl⟩
    rw [take_one hc, ← plcL_put ny, plc_at hc, h3, Int.zero_add]
  · rintro σ' H2 ⟨e2, h2, u, rfl⟩
    walk_at "go"
    exact k r H2 e2 n1 (by rw [h2, List.take_of_length_le (by rw [alph_len]; exact Nat.le_refl _)])
def PlcAt (H : Hp) (a : Addr) : Prop := H a = some (.dK (plcL alph.cps.toList))
theorem zero_mul : ∀ n : Nat, n < 6 → Txt.mul (Str.ofString "0") (n : Int) = S (List.replicate n 48) := by decide +kernel
def sp_law_check (K : PySem.W.Frag) : Sp := sp3 fun a b c H Q => ∃ (g : Addr) (row : Nat) (l : List Nat), a = .ref g ∧ b = .int (row : Int) ∧ c = .str (S l) ∧ PlcAt H g ∧ row ≤ 60000 ∧ l.length ≤ 500000 ∧ Al l ∧ Q (.str (S (ck row l))) H
theorem ok_law_check (T : Txt K mg) : FnOk P w K mg base CX0 1 T.f__law_check T.d__law_check ["places", "row", "line"] (sp_law_check K) := by
  refine T.F__law_check.ok sc_law_check len3 (fun cdv A outer s H vs Q E hr h => ?_)
  have nd := sc_law_check.nd
  have hu := hu_of hr
  obtain ⟨_, _, _, rfl, g, row, l, rfl, rfl, rfl, hg, r6, ll, al, k⟩ := h
  refine ⟨_,
      (pss_cons (ps_set (i := 3) nd rfl (Or.inl rfl) (pe_op op_mul pe_int (pv 1))) 
      (pss_cons (ps_for PassesOwn.never rfl (pi_range1 (by rfl) T.b_range (pa_cons (pe_callB zc_len (by rfl) T.b_len (by decide +kernel) (pa_cons (pv 2) pa_nil)) pa_nil)) (pg_name (i := 4) nd rfl (Or.inl rfl)) 
        (pss_one (ps_set (i := 3) nd rfl (Or.inl rfl) (pe_op op_add (pv 3) (pe_op op_mulW (pe_op op_add (pe_op op_mod (pv 4) pe_int) pe_int) (pe_op op_add (pe_dget hu (pv 0) (pe_ix ix_str (pv 2) (pv 4) (fun _ _ => rfl)) (fun _ _ => rfl)) pe_int)))))) 
      (pss_cons (ps_set (i := 5) nd rfl (Or.inl rfl) (pe_callTy zc_str (by rfl) T.b_str (by decide +kernel) (pa_cons (pe_op op_mod (pv 3) pe_int) pa_nil))) 
      (pss_one (ps_ret (pe_op zop_addS (pe_op zop_mulS pe_str (pe_op op_sub pe_int (pe_callB zc_len (by rfl) T.b_len (by decide +kernel) (pa_cons (pv 5) pa_nil)))) (pv 5))))))), ?_⟩
  change (_ : TS) _ [some _, some _, some _, none, none, none] _
  try dsimp only [cxOf, Cx.nox, Cx.wish]
  unfold PlcAt at hg
  walk_at "go"
  refine w_lenS (sz (by rw [S_len]; omega)) ?_
  rw [S_len]
  walk_at "go"
  refine ⟨_, rfl, by omega, by omega, ?_⟩
  rw [Int.toNat_natCast]
  refine z_for_range (lo := 0) (n := l.length) (fun i σ' H' => H = H' ∧ ∃ u, σ' = [some (.ref g), some (.int (row : Int)), some (.str (S l)), some (.int (tot row l i : Int)), u, none]) ⟨rfl, none, rfl⟩ ?_ ?_
  · rintro N i σ' H1 hi ⟨rfl, u, rfl⟩ hN
    obtain ⟨c, hc⟩ : ∃ c, l[i]? = some c := ⟨_, List.getElem?_eq_getElem hi⟩
    have hm := al c (List.mem_of_getElem? hc)
    have pl := plc_lt hm
    walk_at "go"
    rw [Int.zero_add]
    refine w_ixS (c := c) (sz (by rw [S_len]; omega)) (atI_nat hc) ?_
    refine w_dgetS hg (plcL_val hm) ?_
    walk_at "go"
    rw [tot_next hc]
    exact hN _ _ ⟨rfl, _, rfl⟩
  · rintro σ' H1 ⟨rfl, u, rfl⟩
    walk_at "go"
    have ml : tot row l l.length % 99991 < 99991 := Nat.mod_lt _ (by decide)
    rw [show (tot row l l.length : Int) % 99991 = ((tot row l l.length % 99991 : Nat) : Int) by omega]
    have nl := nat_len (n := tot row l l.length % 99991) (k := 5) (by decide) (by omega)
    have np := List.length_pos_iff.mpr (nat_ne (tot row l l.length % 99991))
    refine w_strI (log_lt (by rw [Int.natAbs_natCast]; exact Nat.lt_trans ml (by decide))) ?_
    walk_at "go"
    refine w_lenS (sz (by rw [S_len]; omega)) ?_
    rw [S_len]
    walk_at "go"
    obtain ⟨z, ez⟩ : ∃ z : Nat, (5 : Int) - ((intL ((tot row l l.length % 99991 : Nat) : Int)).length : Int) = (z : Int) ∧ 5 - (intL ((tot row l l.length % 99991 : Nat) : Int)).length = z := ⟨5 - (intL ((tot row l l.length % 99991 : Nat) : Int)).length, by omega, rfl⟩
    rw [ez.1]
    refine w_mulS (by decide +kernel) ⟨by omega, by omega⟩ ?_
    rw [zero_mul z (by omega)]
    walk_at "go"
    refine w_addS (sz (by rw [S_len, S_len, List.length_replicate]; omega)) ?_
    rw [S_cat, ← ez.2]
    exact k
theorem w_lcheck {H : Hp} {g : Addr} {row : Nat} {l : List Nat} {Q : VK} {E : XK} (hg : PlcAt H g) (r : row ≤ 60000) (ll : l.length ≤ 500000) (al : Al l) (k : Q (.str (S (ck row l))) H) : sp_law_check K ([.ref g, .int (row : Int), .str (S l)] ++ []) H Q E := ⟨_, _, _, rfl, g, row, l, rfl, rfl, rfl, hg, r, ll, al, k⟩
def sp_law_bare (K : PySem.W.Frag) : Sp := sp2 fun a b H Q => ∃ (q : Addr) (xs : List V) (ds : List PyData) (f : Nat), a = .ref q ∧ b = .int (f : Int) ∧ H q = some (.lst xs) ∧ JwAll K H xs ds ∧ Vls ds ∧ 1 ≤ f ∧ f ≤ 3 ∧
  ∀ r H', Ext [] H H' → H r = none → LnAt H' r (bareL ds f) → Q (.ref r) H'
theorem ok_law_bare (T : Txt K mg) : FnOk P w K mg base CX0 41 T.f__law_bare T.d__law_bare ["values", "form"] (sp_law_bare K) := by
  refine T.F__law_bare.ok sc_law_bare len2 (fun cdv A outer s H vs Q E hr h => ?_)
  have nd := sc_law_bare.nd
  have hu := hu_of hr
  obtain ⟨_, _, rfl, q, xs, ds, f, rfl, rfl, hq, wj, ok, f1, f3, k⟩ := h
  refine ⟨_,
      (pss_cons (ps_set (i := 2) nd rfl (Or.inl rfl) (pe_lstZ (pa_cons (pe_op zop_addS (pe_op zop_addS (pe_op zop_addS pe_str (pe_callTy zc_str (by rfl) T.b_str (by decide +kernel) (pa_cons (pv 1) pa_nil))) pe_str) (pe_callTy zc_str (by rfl) T.b_str (by decide +kernel) (pa_cons (pe_callB zc_len (by rfl) T.b_len (by decide +kernel) (pa_cons (pv 0) pa_nil)) pa_nil))) pa_nil))) 
      (pss_cons (ps_if (pt_cmpR op_lt (pv 1) pe_int (nomark _)) 
        (pss_one (ps_ret (pe_op zop_cat (pv 2) (pe_lc (own := [("value", 3)]) rfl nd (pi_list (pv 0)) (blkOk_by (own := [("value", 3)]) (N := ["values", "form", "lines", "value", "names"]) (sc := defScope s_law_bare) (by decide +kernel)) (fun _ _ _ _ _ => (pg_name (i := 3) nd rfl (Or.inl rfl))) (fun _ _ _ _ _ => pts_nil) (fun _ _ _ _ _ => (pe_call (ok_law_text T) (hr.mono (by decide)) (by rfl) T.g__law_text T.F__law_text.kp T.k__law_text .nil pass0 (pa_cons (pv 3) pa_nil))))))) pss_nil) 
      (pss_cons (ps_set (i := 4) nd rfl (Or.inr rfl) (pe_lstZ pa_nil)) 
      (pss_cons (ps_for PassesOwn.never rfl (pi_list (pv 0)) (pg_name (i := 3) nd rfl (Or.inl rfl)) 
        (pss_one (ps_expr (pe_call (ok_law_strings T) (hr.mono (by decide)) (by rfl) T.g__law_strings T.F__law_strings.kp T.k__law_strings .nil pass0 (pa_cons (pv 3) (pa_cons (pv 4) pa_nil)))))) 
      (pss_one (ps_ret (pe_op zop_cat (pe_op zop_cat (pv 2) (pe_lstZ (pa_cons (pe_call (ok_law_text T) (hr.mono (by decide)) (by rfl) T.g__law_text T.F__law_text.kp T.k__law_text .nil pass0 (pa_cons (pe_callTy zc_tup (by rfl) T.b_tuple (by decide +kernel) (pa_cons (pv 4) pa_nil)) pa_nil)) pa_nil))) (pe_lc (own := [("value", 3)]) rfl nd (pi_list (pv 0)) (blkOk_by (own := [("value", 3)]) (N := ["values", "form", "lines", "value", "names"]) (sc := defScope s_law_bare) (by decide +kernel)) (fun _ _ _ _ _ => (pg_name (i := 3) nd rfl (Or.inl rfl))) (fun _ _ _ _ _ => pts_nil) (fun _ _ _ _ _ => (pe_call (ok_law_named T) (hr.mono (by decide)) (by rfl) T.g__law_named T.F__law_named.kp T.k__law_named .nil pass0 (pa_cons (pv 3) (pa_cons (pv 4) pa_nil)))))))))))), ?_⟩
  change (_ : TS) _ [some _, some _, none, none, none] _
  try dsimp only [cxOf, Cx.nox, Cx.wish]
  have la := wj.len
  have dl := ok.len
  obtain ⟨n1, n2, n3⟩ := ok.nms
  have bl : ∀ i d, ds[i]? = some d → d ∈ ds := fun i d h => List.mem_of_getElem? h
  walk_at "go"
  refine w_strI (log_lt (by rw [Int.natAbs_natCast]; exact Nat.lt_of_le_of_lt f3 (by decide))) ?_
  walk_at "go"
  rw [o_hd, o_sp]
  have a1 := nat_len (n := f) (k := 1) (by decide) (by omega)
  have a2 := nat_len (n := ds.length) (k := 5) (by decide) (by omega)
  refine w_addS (sz (by simp only [S_len, List.length_cons, List.length_nil]; omega)) ?_
  walk_at "go"
  rw [S_cat]
  refine w_addS (sz (by simp only [S_len, List.length_append, List.length_cons, List.length_nil]; omega)) ?_
  walk_at "go"
  rw [S_cat, la]
  refine w_strI (log_lt (by rw [Int.natAbs_natCast]; exact Nat.lt_of_le_of_lt dl (by decide))) ?_
  walk_at "go"
  refine w_addS (sz (by simp only [S_len, List.length_append, List.length_cons, List.length_nil]; omega)) ?_
  rw [S_cat]
  refine ⟨sz (by show 1 ≤ _; decide), w_alc fun p H1 e1 m1 h1 => ?_⟩
  change H1 p = some (.lst [tx (headL f ds.length)]) at h1
  walk_at "go"; walk_at "if"
  refine w_d (fun h => ?_) fun h => ?_ <;> walk_at "go"
  · have hq1 := e1.keep _ _ hq List.not_mem_nil
    refine ⟨q, rfl, ⟨xs, sql hq1⟩, fun D nD => ?_⟩
    refine z_lc_list (xs := xs) (fun i acc H' => Ext [] H H' ∧ H' p = some (.lst [tx (headL f ds.length)]) ∧ acc = (ds.take i).map fun d => tx (wm none d)) nD (fun H' e => ⟨e1.trans e, e.keep _ _ h1 List.not_mem_nil, rfl⟩) (fun i acc H' _ h => sql (h.1.keep _ _ hq List.not_mem_nil)) ?_ ?_
    · rintro Nx i x acc H2 hx ⟨e2, p2, rfl⟩ hD hN
      walk_at "go"
      refine ⟨rfl, ?_⟩
      obtain ⟨d, hd, hjx⟩ := wj.one hx
      have hm := bl i d hd
      have li := (List.getElem?_eq_some_iff.mp hd).1
      walk_at "go"
      refine w_text (hjx.ext e2) (by have := ok.dep d hm; omega) (ok.ft d hm) (by rw [wm_wr]; have := ok.sz d hm; omega) fun H3 e3 => ?_
      refine w_app (e3.keep _ _ hD List.not_mem_nil) (szl (by rw [List.length_map, List.length_take]; omega)) fun H4 e4 hD4 => ?_
      refine hN _ _ ⟨(e2.trans e3).dropq e4 (e1.free nD), e4.keep _ _ (e3.keep _ _ p2 List.not_mem_nil) (nm1 (ne_of_none h1 nD)), ?_⟩ hD4
      rw [take_one hd, List.map_append]
      rfl
    · rintro acc H2 ⟨e2, p2, rfl⟩ hD
      rw [List.take_of_length_le (by omega)] at hD
      refine w_cat p2 hD (sz (by rw [List.length_map, List.length_singleton]; omega)) (w_alc fun r H3 e3 m3 h3 => ?_)
      refine k r H3 (e2.trans e3) (e2.free m3) ?_
      unfold LnAt bareL
      rw [if_pos (by omega), List.map_cons, List.map_map]
      exact h3
  · refine ⟨Nat.zero_le _, w_alc fun c H2 e2 m2 h2 => ?_⟩
    walk_at "go"
    have e02 := e1.trans e2
    have hq2 := e02.keep _ _ hq List.not_mem_nil
    have p2 := e2.keep _ _ h1 List.not_mem_nil
    have pc : p ≠ c := ne_of_none h1 m2
    refine ⟨q, rfl, ⟨xs, sql hq2⟩, ?_⟩
    refine z_for_list (xs := xs) (fun i σ' H' => Ext [] H H' ∧ H' p = some (.lst [tx (headL f ds.length)]) ∧ H' c = some (.lst ((ntAll [] (ds.take i)).map V.str)) ∧ ∃ u, σ' = [some (.ref q), some (.int (f : Int)), some (.ref p), u, some (.ref c)]) ⟨e02, p2, by rw [List.take_zero, ntAll]; exact h2, _, rfl⟩ (fun i σ' H' _ h => sql (h.1.keep _ _ hq List.not_mem_nil)) ?_ ?_
    · rintro N i x σ' H3 hx ⟨e3, p3, c3, u, rfl⟩ hN
      obtain ⟨d, hd, hjx⟩ := wj.one hx
      have hm := bl i d hd
      walk_at "go"
      refine w_strings c3 (hjx.ext e3) (by have := ok.dep d hm; omega) (ok.ft d hm) ?_ fun H4 e4 c4 => ?_
      · rw [← nt_take hd]
        have := (nt_part (A := []) (ds := ds) (i + 1)).length_le
        unfold names at n2
        omega
      walk_at "go"
      exact hN _ _ ⟨e3.dropq e4 (e1.free m2), e4.keep _ _ p3 (nm1 pc), by rw [nt_take hd]; exact c4, _, rfl⟩
    · rintro σ' H3 ⟨e3, p3, c3, u, rfl⟩
      rw [List.take_of_length_le (by omega)] at c3
      change H3 c = some (.lst ((names ds).map V.str)) at c3
      walk_at "go"
      refine w_tupL (sql c3) (w_alc fun t H4 e4 m4 h4 => ?_)
      walk_at "go"
      refine w_text (d := .tuple ((names ds).map .str)) (.tup (sqt h4) (by rw [List.length_map]; exact n2) (jw_strs _)) (by have := strs_dep (names ds); omega) ok.tup (by have := ok.tup_len; omega) fun H5 e5 => ?_
      refine ⟨sz (by show 1 ≤ _; decide), w_alc fun y H6 e6 m6 h6 => ?_⟩
      have p6 := e6.keep _ _ (e5.keep _ _ (e4.keep _ _ p3 List.not_mem_nil) List.not_mem_nil) List.not_mem_nil
      have c6 := e6.keep _ _ (e5.keep _ _ (e4.keep _ _ c3 List.not_mem_nil) List.not_mem_nil) List.not_mem_nil
      have e36 := (e4.trans e5).trans e6
      have e06 := e3.trans e36
      refine w_cat p6 h6 (sz (by show 1 + 1 ≤ _; decide)) (w_alc fun z H7 e7 m7 h7 => ?_)
      change H7 z = some (.lst [tx (headL f ds.length), tx (wm none (.tuple ((names ds).map .str)))]) at h7
      have c7 := e7.keep _ _ c6 List.not_mem_nil
      have e07 := e06.trans e7
      walk_at "go"
      refine ⟨q, rfl, ⟨xs, sql (e07.keep _ _ hq List.not_mem_nil)⟩, fun D nD => ?_⟩
      refine z_lc_list (xs := xs) (fun i acc H' => Ext [] H7 H' ∧ acc = (ds.take i).map fun d => tx (wm (some (names ds)) d)) nD (fun H' e => ⟨e, rfl⟩) (fun i acc H' _ h => sql ((e07.trans h.1).keep _ _ hq List.not_mem_nil)) ?_ ?_
      · rintro Nx i x acc H8 hx ⟨e8, rfl⟩ hD hN
        walk_at "go"
        refine ⟨rfl, ?_⟩
        obtain ⟨d, hd, hjx⟩ := wj.one hx
        have hm := bl i d hd
        have li := (List.getElem?_eq_some_iff.mp hd).1
        walk_at "go"
        refine w_named (e8.keep _ _ c7 List.not_mem_nil) (Nat.lt_of_le_of_lt n2 (by decide)) (hjx.ext (e07.trans e8)) (by have := ok.dep d hm; omega) (ok.ft d hm) (ok.in_names hm) (by have := wm_len (N := names ds) (Nat.lt_of_le_of_lt n2 (by decide)) d; have := ok.sz d hm; omega) fun H9 e9 => ?_
        refine w_app (e9.keep _ _ hD List.not_mem_nil) (szl (by rw [List.length_map, List.length_take]; omega)) fun Ha ea hDa => ?_
        refine hN _ _ ⟨(e8.trans e9).dropq ea nD, ?_⟩ hDa
        rw [take_one hd, List.map_append]
        rfl
      · rintro acc H8 ⟨e8, rfl⟩ hD
        rw [List.take_of_length_le (by omega)] at hD
        refine w_cat (e8.keep _ _ h7 List.not_mem_nil) hD (sz (by rw [List.length_map]; show 2 + _ ≤ _; omega)) (w_alc fun r H9 e9 m9 h9 => ?_)
        have e08 := e07.trans e8
        refine k r H9 (e08.trans e9) (e08.free m9) ?_
        unfold LnAt bareL
        rw [if_neg (by omega), List.map_cons, List.map_cons, List.map_map]
        exact h9
theorem w_lbare {H : Hp} {q : Addr} {xs : List V} {ds : List PyData} {f : Nat} {Q : VK} {E : XK} (hq : H q = some (.lst xs)) (wj : JwAll K H xs ds) (ok : Vls ds) (f1 : 1 ≤ f) (f3 : f ≤ 3) (k : ∀ r H', Ext [] H H' → H r = none → LnAt H' r (bareL ds f) → Q (.ref r) H') :
    sp_law_bare K ([.ref q, .int (f : Int)] ++ []) H Q E := ⟨_, _, rfl, q, xs, ds, f, rfl, rfl, hq, wj, ok, f1, f3, k⟩
def sp_law_file (K : PySem.W.Frag) : Sp := sp3 fun a b c H Q => ∃ (g q : Addr) (xs : List V) (ds : List PyData) (f : Nat), a = .ref g ∧ b = .ref q ∧ c = .int (f : Int) ∧ PlcAt H g ∧ H q = some (.lst xs) ∧ JwAll K H xs ds ∧ Vls ds ∧ 1 ≤ f ∧ f ≤ 3 ∧
  ∀ r H', Ext [] H H' → H r = none → LnAt H' r (fileL ds f) → Q (.ref r) H'
theorem ok_law_file (T : Txt K mg) : FnOk P w K mg base CX0 42 T.f__law_file T.d__law_file ["places", "values", "form"] (sp_law_file K) := by
  refine T.F__law_file.ok sc_law_file len3 (fun cdv A outer s H vs Q E hr h => ?_)
  have nd := sc_law_file.nd
  have hu := hu_of hr
  obtain ⟨_, _, _, rfl, g, q, xs, ds, f, rfl, rfl, rfl, hg, hq, wj, ok, f1, f3, k⟩ := h
  refine ⟨_,
      (pss_cons (ps_set (i := 3) nd rfl (Or.inr rfl) (pe_call (ok_law_bare T) (hr.mono (by decide)) (by rfl) T.g__law_bare T.F__law_bare.kp T.k__law_bare .nil pass0 (pa_cons (pv 1) (pa_cons (pv 2) pa_nil)))) 
      (pss_cons (ps_if (pt_cmpR op_eq (pv 2) pe_int (nomark _)) 
        (pss_one (ps_ret (pv 3))) pss_nil) 
      (pss_one (ps_ret (pe_lc (own := [("row", 4)]) rfl nd (pi_range1 (by rfl) T.b_range (pa_cons (pe_callB zc_len (by rfl) T.b_len (by decide +kernel) (pa_cons (pv 3) pa_nil)) pa_nil)) (blkOk_by (own := [("row", 4)]) (N := ["places", "values", "form", "lines", "row"]) (sc := defScope s_law_file) (by decide +kernel)) (fun _ _ _ _ _ => (pg_name (i := 4) nd rfl (Or.inl rfl))) (fun _ _ _ _ _ => pts_nil) (fun _ _ _ _ _ => (pe_op zop_addS (pe_call (ok_law_check T) (hr.mono (by decide)) (by rfl) T.g__law_check T.F__law_check.kp T.k__law_check .nil pass0 (pa_cons (pv 0) (pa_cons (pv 4) (pa_cons (pe_ix (ix_listK (K := K) rfl) (pv 3) (pv 4) (fun _ _ => rfl)) pa_nil)))) (pe_ix (ix_listK (K := K) rfl) (pv 3) (pv 4) (fun _ _ => rfl))))))))), ?_⟩
  change (_ : TS) _ [some _, some _, some _, none, none] _
  try dsimp only [cxOf, Cx.nox, Cx.wish]
  walk_at "go"
  refine w_lbare hq wj ok f1 f3 fun r H1 e1 n1 h1 => ?_
  have bk := bare_ok ok (f := f) (by omega)
  have bl := bk.len
  walk_at "go"; walk_at "if"
  refine w_d (fun h => ?_) fun h => ?_ <;> walk_at "go"
  · refine k r H1 e1 n1 ?_
    unfold fileL
    rw [if_pos (by omega)]
    exact h1
  · unfold LnAt at h1
    refine ⟨_, rfl, by rw [List.length_map]; omega, by rw [List.length_map]; omega, fun D nD => ?_⟩
    rw [List.length_map, Int.toNat_natCast]
    refine z_lc_range (lo := 0) (n := (bareL ds f).length) (fun i acc H' => Ext [] H1 H' ∧ acc = ((ckd (bareL ds f)).take i).map tx) nD (fun H' e => ⟨e, rfl⟩) ?_ ?_
    · rintro Nx i acc H2 hi ⟨e2, rfl⟩ hD hN
      obtain ⟨l, hl⟩ : ∃ l, (bareL ds f)[i]? = some l := ⟨_, List.getElem?_eq_getElem hi⟩
      have hm := List.mem_of_getElem? hl
      have lz := bk.sz l hm
      walk_at "go"
      refine ⟨rfl, ?_⟩
      walk_at "go"
      have hr2 := e2.keep _ _ h1 List.not_mem_nil
      rw [Int.zero_add]
      refine w_ixL (sql hr2) (at_ln hl) ?_
      walk_at "go"
      refine w_lcheck (e2.keep _ _ (e1.keep _ _ hg List.not_mem_nil) List.not_mem_nil) (by omega) (by omega) (bk.al l hm) ?_
      walk_at "go"
      refine w_ixL (sql hr2) (at_ln hl) ?_
      refine w_addS (sz (by rw [S_len, S_len, ck_len]; omega)) ?_
      rw [S_cat]
      refine w_app hD (szl (by rw [List.length_map, List.length_take, ckd_len]; omega)) fun H3 e3 hD3 => ?_
      exact hN _ _ ⟨e2.dropq e3 nD, ckd_take hl⟩ hD3
    · rintro acc H2 ⟨e2, rfl⟩ hD
      rw [List.take_of_length_le (by rw [ckd_len]; exact Nat.le_refl _)] at hD
      refine k D H2 (e1.trans e2) (e1.free nD) ?_
      unfold fileL
      rw [if_neg (by omega)]
      exact hD
theorem w_lfile {H : Hp} {g q : Addr} {xs : List V} {ds : List PyData} {f : Nat} {Q : VK} {E : XK} (hg : PlcAt H g) (hq : H q = some (.lst xs)) (wj : JwAll K H xs ds) (ok : Vls ds) (f1 : 1 ≤ f) (f3 : f ≤ 3) (k : ∀ r H', Ext [] H H' → H r = none → LnAt H' r (fileL ds f) → Q (.ref r) H') :
    sp_law_file K ([.ref g, .ref q, .int (f : Int)] ++ []) H Q E := ⟨_, _, _, rfl, g, q, xs, ds, f, rfl, rfl, rfl, hg, hq, wj, ok, f1, f3, k⟩

open SX PySem.NumText
/-! ### the law's values -/
mutual
theorem fit_lay : ∀ {d : PyData}, fit d → d.canLay0 = true
  | .none, _ => rfl
  | .bool _, _ => rfl
  | .int _, _ => rfl
  | .str x, h => by rw [fit] at h; show PySem.PyData.strOk _ = true; exact al_ok h.2
  | .tuple ds, h => by rw [fit] at h; rw [PyData.canLay0]; exact fitAll_lay h.2
  | .list _, h => False.elim h
  | .dict _, h => False.elim h
theorem fitAll_lay : ∀ {ds : List PyData}, fitAll ds → PyData.canLayAll0 ds = true
  | [], _ => rfl
  | d :: ds, h => by
    rw [fitAll] at h
    rw [PyData.canLayAll0, fit_lay h.1, fitAll_lay h.2]; rfl
end
theorem jw_has {H : Hp} {vs : List V} {ds : List PyData} {v : V} (h : JwAll K H vs ds) (m : v ∈ vs) : ∃ d ∈ ds, Jw K H v d := by
  obtain ⟨i, hi⟩ := List.mem_iff_getElem?.mp m
  obtain ⟨d, hd, hj⟩ := h.one hi
  exact ⟨d, List.mem_of_getElem? hd, hj⟩
/-- a list is compared with the empty list -/
theorem w_neE {H : Hp} {Q : VK} {q m : Addr} {xs : List V} {ds : List PyData} (hq : H q = some (.lst xs)) (wj : JwAll K H xs ds) (hm : H m = some (.lst [])) (ft : ∀ d ∈ ds, fit d) (dp : ∀ d ∈ ds, d.depth ≤ 60) (k : Q (.bl (decide (0 < ds.length))) H) : rNeD K (.ref q) (.ref m) H Q := by
  refine ⟨.list ds, .list [], .lst (sql hq) (JwAll.dp ds xs wj), .lst (sql hm) .nil, ?_, by decide, ?_⟩
  · unfold SeqAt.shaped
    rw [Bool.and_eq_true]
    refine ⟨by rw [PyData.canLay0]; exact fitAll_lay (fitAll_of ft), decide_eq_true ?_⟩
    have := depAll_le dp
    rw [PyData.depth]
    omega
  · cases ds with
    | nil => exact k
    | cons d r => exact k
def sp_law_again (K : PySem.W.Frag) : Sp := sp3 fun a b c H Q => ∃ (p q : Addr) (d : PyData) (xs : List V) (ds : List PyData), a = .ref p ∧ c = .ref q ∧ PoolAt K H p ∧ Jw K H b d ∧ H q = some (.lst xs) ∧ JwAll K H xs ds ∧ (∀ d ∈ ds, fit d) ∧ (∀ d ∈ ds, d.depth ≤ 60) ∧ ds.length ≤ 1000 ∧ q ≠ p ∧
  ∀ v e H', Ext [p] H H' → PoolAt K H' p → Jw K H' v e → (e = d ∨ e ∈ ds ∨ ∃ e' ∈ ds, e = .tuple [d, e']) → Q v H'
theorem ok_law_again (T : Txt K mg) : FnOk P w K mg base CX0 5 T.f__law_again T.d__law_again ["pool", "value", "values"] (sp_law_again K) := by
  refine T.F__law_again.ok sc_law_again len3 (fun cdv A outer s H vs Q E hr h => ?_)
  have nd := sc_law_again.nd
  have hu := hu_of hr
  obtain ⟨_, b, _, rfl, p, q, d, xs, ds, rfl, rfl, hP, hb, hq, wj, ft, dp, dl, nqp, k⟩ := h
  refine ⟨_,
      (pss_cons (ps_set (i := 3) nd rfl (Or.inl rfl) (pe_call (ok_law_draw T) (hr.mono (by decide)) (by rfl) T.g__law_draw T.F__law_draw.kp T.k__law_draw .nil pass0 (pa_cons (pv 0) (pa_cons pe_int pa_nil)))) 
      (pss_cons (ps_if (PW.pt (pw_and (pt_cmpR op_eq (pv 3) pe_int (nomark _)) (pw_and1 (pt_cmpR (op_neD hr.units) (pv 2) (pe_lstZ pa_nil) (nomark _))))) 
        (pss_one (ps_ret (pe_tupZ (pa_cons (pv 1) (pa_cons (pe_call (ok_law_pick T) (hr.mono (by decide)) (by rfl) T.g__law_pick T.F__law_pick.kp T.k__law_pick .nil pass0 (pa_cons (pv 0) (pa_cons (pv 2) pa_nil))) pa_nil))))) pss_nil) 
      (pss_cons (ps_if (PW.pt (pw_and (pt_cmpR op_eq (pv 3) pe_int (nomark _)) (pw_and1 (pt_cmpR (op_neD hr.units) (pv 2) (pe_lstZ pa_nil) (nomark _))))) 
        (pss_one (ps_ret (pe_call (ok_law_pick T) (hr.mono (by decide)) (by rfl) T.g__law_pick T.F__law_pick.kp T.k__law_pick .nil pass0 (pa_cons (pv 0) (pa_cons (pv 2) pa_nil))))) pss_nil) 
      (pss_one (ps_ret (pv 1)))))), ?_⟩
  change (_ : TS) _ [some _, some _, some _, none] _
  try dsimp only [cxOf, Cx.nox, Cx.wish]
  have la := wj.len
  walk_at "go"
  refine w_draw hP (by decide) (by decide) fun ch H1 c0 c1 e1 P1 => ?_
  have q1 := e1.keep _ _ hq (nm1 nqp)
  walk_at "go"
  have again : ∀ H2, Ext [p] H H2 → PoolAt K H2 p → 0 < ds.length → ∀ (Q2 : VK), (∀ v H', v ∈ xs → Ext [p] H2 H' → PoolAt K H' p → Q2 v H') → sp_law_pick K ([.ref p, .ref q] ++ []) H2 Q2 E0 := fun H2 e2 P2 l0 Q2 k2 =>
    w_pickL P2 (e2.keep _ _ hq (nm1 nqp)) nqp (by omega) (by omega) k2
  refine w_cut (fun σ' H' => Ext [p] H H' ∧ PoolAt K H' p ∧ σ' = [some (.ref p), some b, some (.ref q), some (.int ch)]) ?_ fun nx hN => ?_
  · rintro σ' H2 ⟨e2, P2, rfl⟩
    walk_at "go"
    refine w_cut (fun σ' H' => Ext [p] H H' ∧ PoolAt K H' p ∧ σ' = [some (.ref p), some b, some (.ref q), some (.int ch)]) ?_ fun nx hN => ?_
    · rintro σ' H3 ⟨e3, P3, rfl⟩
      walk_at "go"
      exact k b d H3 e3 P3 (hb.ext e3) (.inl rfl)
    · walk_at "if"
      refine w_d (fun h => ?_) fun h => ?_ <;> walk_at "go"
      · refine ⟨Nat.zero_le _, w_alc fun m H3 e3 n3 h3 => ?_⟩
        have e03 := e2.trans e3.up
        refine w_neE (e03.keep _ _ hq (nm1 nqp)) (wj.ext e03) h3 ft dp ?_
        walk_at "go"
        refine w_d (fun h => ?_) fun h => ?_ <;> walk_at "go"
        · refine again H3 e03 (P2.ext e3 List.not_mem_nil) h _ fun v H4 hv e4 P4 => ?_
          obtain ⟨e, he, hj⟩ := jw_has wj hv
          exact k v e H4 (e03.trans e4) P4 ((hj.ext e03).ext e4) (.inr (.inl he))
        · exact hN _ _ ⟨e03, P2.ext e3 List.not_mem_nil, rfl⟩
      · exact hN _ _ ⟨e2, P2, rfl⟩
  · walk_at "if"
    refine w_d (fun h => ?_) fun h => ?_ <;> walk_at "go"
    · refine ⟨Nat.zero_le _, w_alc fun m H3 e3 n3 h3 => ?_⟩
      have e03 := e1.trans e3.up
      refine w_neE (e03.keep _ _ hq (nm1 nqp)) (wj.ext e03) h3 ft dp ?_
      walk_at "go"
      refine w_d (fun h => ?_) fun h => ?_ <;> walk_at "go"
      · refine again H3 e03 (P1.ext e3 List.not_mem_nil) h _ fun v H4 hv e4 P4 => ?_
        obtain ⟨e, he, hj⟩ := jw_has wj hv
        have e04 := e03.trans e4
        refine ⟨sz (by show 2 ≤ _; decide), w_alc fun t H5 e5 n5 h5 => ?_⟩
        exact k (.ref t) (.tuple [d, e]) H5 (e04.trans e5.up) (P4.ext e5 List.not_mem_nil) (.tup (sqt h5) (by show 2 ≤ 100000; decide) (.cons ((hb.ext e04).ext e5) (.cons ((hj.ext e04).ext e5) .nil))) (.inr (.inr ⟨e, he, rfl⟩))
      · exact hN _ _ ⟨e03, P1.ext e3 List.not_mem_nil, rfl⟩
    · exact hN _ _ ⟨e1, P1, rfl⟩
theorem w_again {H : Hp} {p q : Addr} {b : V} {d : PyData} {xs : List V} {ds : List PyData} {Q : VK} {E : XK} (hP : PoolAt K H p) (hb : Jw K H b d) (hq : H q = some (.lst xs)) (wj : JwAll K H xs ds) (ft : ∀ d ∈ ds, fit d) (dp : ∀ d ∈ ds, d.depth ≤ 60) (dl : ds.length ≤ 1000) (n : q ≠ p)
    (k : ∀ v e H', Ext [p] H H' → PoolAt K H' p → Jw K H' v e → (e = d ∨ e ∈ ds ∨ ∃ e' ∈ ds, e = .tuple [d, e']) → Q v H') : sp_law_again K ([.ref p, b, .ref q] ++ []) H Q E := ⟨_, _, _, rfl, p, q, d, xs, ds, rfl, rfl, hP, hb, hq, wj, ft, dp, dl, n, k⟩
def sp_dp (n : Nat) (K : PySem.W.Frag) : Sp := sp1 fun a H Q => ∃ d, Jw K H a d ∧ fit d ∧ d.depth < n ∧ n ≤ 100 ∧ ∀ H', Ext [] H H' → Q (.int (d.depth : Int)) H'
theorem ok_dp_no (T : Txt K mg) : FnOk P w K mg base CX0 0 T.f__law_depth T.d__law_depth ["value"] (sp_dp 0 K) :=
  ⟨fun _ _ _ _ h => by obtain ⟨_, rfl, _⟩ := h; rfl, fun _ _ _ _ _ _ _ _ _ _ _ _ _ h => by obtain ⟨_, _, _, _, _, h, _⟩ := h; exact (Nat.not_lt_zero _ h).elim⟩
theorem depAll_mem : ∀ {ds : List PyData}, ds = [] ∨ ∃ d ∈ ds, d.depth = PyData.depthAll ds
  | [] => .inl rfl
  | d :: ds => .inr (by
    rw [PyData.depthAll]
    rcases depAll_mem (ds := ds) with rfl | ⟨e, he, h⟩
    · exact ⟨d, List.mem_cons_self, by rw [PyData.depthAll]; omega⟩
    · by_cases z : d.depth ≤ e.depth
      · exact ⟨e, List.mem_cons_of_mem _ he, by omega⟩
      · exact ⟨d, List.mem_cons_self, by omega⟩)
theorem w_maxL {H : Hp} {Q : VK} {a : Addr} {ns : List Int} (h : SqL K H a (ns.map V.int)) (l : 0 < ns.length) (k : ∀ m, m ∈ ns → (∀ y, y ∈ ns → y ≤ m) → Q (.int m) H) : rMax K [.ref a] H Q := ⟨a, ns, rfl, h, l, k⟩
theorem step_depth (T : Txt K mg)  (n l : Nat) (ih : FnOk P w K mg base CX0 l T.f__law_depth T.d__law_depth ["value"] (sp_dp n K)) : FnOk P w K mg base CX0 (l+1) T.f__law_depth T.d__law_depth ["value"] (sp_dp (n+1) K) := by
  refine T.F__law_depth.ok sc_law_depth len1 (fun cdv A outer s H vs Q E hr h => ?_)
  have nd := sc_law_depth.nd
  have hu := hu_of hr
  obtain ⟨v, rfl, d, hj, ft, dp, nl, k⟩ := h
  refine ⟨_,
      (pss_cons (ps_if (pt_not (pt_val (pe_callB call_isi (by rfl) T.b_isinstance (by decide +kernel) (pa_cons (pv 0) (pa_cons (pe_bltn (v := .ty "tuple") (by rfl) T.b_tuple (by decide +kernel) rfl) pa_nil))))) 
        (pss_one (ps_ret pe_int)) pss_nil) 
      (pss_one (ps_ret (pe_op op_add pe_int (pe_callB (cr_max rfl) (by rfl) T.b_max (by decide +kernel) (pa_cons (pe_op zop_cat (pe_lstZ (pa_cons pe_int pa_nil)) (pe_lc (own := [("member", 1)]) rfl nd (pi_tup (pv 0)) (blkOk_by (own := [("member", 1)]) (N := ["value", "member"]) (sc := defScope s_law_depth) (by decide +kernel)) (fun _ _ _ _ _ => (pg_name (i := 1) nd rfl (Or.inl rfl))) (fun _ _ _ _ _ => pts_nil) (fun _ _ _ _ _ => (pe_call ih (hr.mono (by omega)) (by rfl) T.g__law_depth T.F__law_depth.kp T.k__law_depth .nil pass0 (pa_cons (pv 1) pa_nil))))) pa_nil)))))), ?_⟩
  change (_ : TS) _ [some _, none] _
  try dsimp only [cxOf, Cx.nox, Cx.wish]
  cases hj with
  | non =>
    walk_at "go"; walk_at "if"
    refine w_isi (k := false) (.ty _) (.base .non) (kit_ty (by decide +kernel)) ?_
    walk_at "go"
    exact k _ Ext.refl
  | bl c =>
    walk_at "go"; walk_at "if"
    refine w_isi (k := false) (.ty _) (.base (.bl _)) (kit_ty (by decide +kernel)) ?_
    walk_at "go"
    exact k _ Ext.refl
  | int i =>
    walk_at "go"; walk_at "if"
    refine w_isi (k := false) (.ty _) (.base (.int _)) (kit_ty (by decide +kernel)) ?_
    walk_at "go"
    exact k _ Ext.refl
  | str x =>
    walk_at "go"; walk_at "if"
    refine w_isi (k := false) (.ty _) (.base (.str _)) (kit_ty (by decide +kernel)) ?_
    walk_at "go"
    exact k _ Ext.refl
  | @tup p xs ds ha lz wa =>
    have ta := tyT ha
    have la := wa.len
    rw [d_tup] at dp k
    rw [fit] at ft
    walk_at "go"; walk_at "if"
    refine w_isi (k := true) (.ty _) ta (kit_ty (by decide +kernel)) ?_
    walk_at "go"
    refine ⟨sz (by show 1 ≤ _; decide), w_alc fun m H1 e1 n1 h1 => ?_⟩
    walk_at "go"
    refine ⟨_, rfl, ⟨xs, SqT.ext e1 ha⟩, fun D nD => ?_⟩
    refine z_lc_tup (xs := xs) (fun i acc H' => Ext [] H1 H' ∧ acc = ((ds.take i).map fun d => (d.depth : Int)).map V.int) nD (fun H' e => ⟨e, rfl⟩) (fun i acc H' _ h => SqT.ext h.1 (SqT.ext e1 ha)) ?_ ?_
    · rintro Nx i x acc H2 hx ⟨e2, rfl⟩ hD hN
      walk_at "go"
      refine ⟨rfl, ?_⟩
      obtain ⟨d, hd, hjx⟩ := wa.one hx
      have hm := List.mem_of_getElem? hd
      have hdm := dAll_mem hm
      walk_at "go"
      refine w_sp1 ⟨d, (hjx.ext e1).ext e2, fit_mem ft.2 hm, by omega, by omega, fun H3 e3 => ?_⟩
      have li := (List.getElem?_eq_some_iff.mp hx).1
      refine w_app (e3.keep _ _ hD List.not_mem_nil) (szl (by rw [List.length_map, List.length_map, List.length_take]; omega)) fun H4 e4 hD4 => ?_
      refine hN _ _ ⟨(e2.trans e3).dropq e4 nD, ?_⟩ hD4
      rw [take_one hd, List.map_append, List.map_append]
      rfl
    · rintro acc H2 ⟨e2, rfl⟩ hD
      rw [List.take_of_length_le (by omega)] at hD
      refine w_cat (e2.keep _ _ h1 List.not_mem_nil) hD (sz (by rw [List.length_map, List.length_map]; show 1 + _ ≤ _; omega)) (w_alc fun z H3 e3 n3 h3 => ?_)
      walk_at "go"
      refine w_maxL (ns := 0 :: ds.map fun d => (d.depth : Int)) (sql (show H3 z = some (.lst ((0 :: ds.map fun d => (d.depth : Int)).map V.int)) from by rw [h3]; rfl)) (by simp) fun mx hmx hall => ?_
      have em : mx = (PyData.depthAll ds : Int) := by
        have a1 : ∀ d ∈ ds, (d.depth : Int) ≤ mx := fun d hd => hall _ (List.mem_cons_of_mem _ (List.mem_map.mpr ⟨d, hd, rfl⟩))
        have a0 : (0 : Int) ≤ mx := hall _ List.mem_cons_self
        have up : (PyData.depthAll ds : Int) ≤ mx := by
          rcases depAll_mem (ds := ds) with rfl | ⟨e, he, h⟩
          · rw [PyData.depthAll]; exact a0
          · rw [← h]; exact a1 e he
        rcases List.mem_cons.mp hmx with rfl | m
        · omega
        · obtain ⟨d, hd, rfl⟩ := List.mem_map.mp m
          have := dAll_mem hd
          omega
      rw [em]
      walk_at "go"
      rw [show (1 : Int) + (PyData.depthAll ds : Int) = ((PyData.depthAll ds + 1 : Nat) : Int) by omega]
      exact k _ ((e1.trans e2).trans e3)
theorem ok_dp_all (T : Txt K mg) : ∀ n, FnOk P w K mg base CX0 n T.f__law_depth T.d__law_depth ["value"] (sp_dp n K)
  | 0 => ok_dp_no T
  | n + 1 => step_depth T n n (ok_dp_all T n)
def sp_law_depth (K : PySem.W.Frag) : Sp := sp_dp 19 K
theorem ok_law_depth (T : Txt K mg) : FnOk P w K mg base CX0 19 T.f__law_depth T.d__law_depth ["value"] (sp_law_depth K) := ok_dp_all T 19
theorem w_depth {H : Hp} {v : V} {d : PyData} {Q : VK} {E : XK} (h : Jw K H v d) (ft : fit d) (dp : d.depth < 19) (k : ∀ H', Ext [] H H' → Q (.int (d.depth : Int)) H') : sp_law_depth K ([v] ++ []) H Q E := ⟨_, rfl, d, h, ft, dp, by decide, k⟩
def sp_law_flat (K : PySem.W.Frag) : Sp := sp1 fun a H Q => ∃ d, Jw K H a d ∧ fit d ∧ d.depth < 19 ∧ (wm none d).length ≤ 500000 ∧ ∀ v e H', Ext [] H H' → Jw K H' v e → fit e → e.depth ≤ 16 → (wr e).length ≤ 300 → Q v H'
theorem wr_leaf {d : PyData} (ft : fit d) (h : ∀ ds, d ≠ .tuple ds) : (wr d).length ≤ 64 := by
  cases d with
  | none => rw [wr]; show 1 ≤ 64; decide
  | bool b => rw [wr]; show 1 ≤ 64; decide
  | int i =>
    rw [fit] at ft
    have := intL_len (x := i) (Nat.lt_trans ft (by decide))
    rw [wr, List.length_cons, List.length_append, List.length_singleton]
    omega
  | str x =>
    rw [fit] at ft
    have := nat_len (n := x.length) (k := 2) (by decide) (by omega)
    rw [wr, List.length_cons, List.length_append, List.length_cons, len_tl]
    omega
  | tuple ds => exact absurd rfl (h ds)
  | list _ => exact False.elim ft
  | dict _ => exact False.elim ft
theorem ok_law_flat (T : Txt K mg) : FnOk P w K mg base CX0 20 T.f__law_flat T.d__law_flat ["value"] (sp_law_flat K) := by
  refine T.F__law_flat.ok sc_law_flat len1 (fun cdv A outer s H vs Q E hr h => ?_)
  have nd := sc_law_flat.nd
  have hu := hu_of hr
  obtain ⟨v, rfl, d, hj, ft, dp, ln, k⟩ := h
  refine ⟨_,
      (pss_cons (ps_if (PW.pt (pw_and (pt_val (pe_callB call_isi (by rfl) T.b_isinstance (by decide +kernel) (pa_cons (pv 0) (pa_cons (pe_bltn (v := .ty "tuple") (by rfl) T.b_tuple (by decide +kernel) rfl) pa_nil)))) (pw_and1 (PW.pt (pw_or (pt_cmpR op_gt (pe_call (ok_law_depth T) (hr.mono (by decide)) (by rfl) T.g__law_depth T.F__law_depth.kp T.k__law_depth .nil pass0 (pa_cons (pv 0) pa_nil)) pe_int (nomark _)) (pw_or1 (pt_cmpR op_gt (pe_callB zc_len (by rfl) T.b_len (by decide +kernel) (pa_cons (pe_call (ok_law_text T) (hr.mono (by decide)) (by rfl) T.g__law_text T.F__law_text.kp T.k__law_text .nil pass0 (pa_cons (pv 0) pa_nil)) pa_nil)) pe_int (nomark _)))))))) 
        (pss_one (ps_ret (pe_callB zc_lenX (by rfl) T.b_len (by decide +kernel) (pa_cons (pv 0) pa_nil)))) pss_nil) 
      (pss_one (ps_ret (pv 0)))), ?_⟩
  change (_ : TS) _ [some _] _
  try dsimp only [cxOf, Cx.nox, Cx.wish]
  have leaf : (∀ ds, d ≠ .tuple ds) → d.depth = 0 → Q v H := fun z z0 => k v d H Ext.refl hj ft (by omega) (by have := wr_leaf ft z; omega)
  cases hj with
  | non =>
    walk_at "go"; walk_at "if"
    refine w_isi (k := false) (.ty _) (.base .non) (kit_ty (by decide +kernel)) ?_
    walk_at "go"
    exact leaf (fun _ z => by cases z) rfl
  | bl c =>
    walk_at "go"; walk_at "if"
    refine w_isi (k := false) (.ty _) (.base (.bl _)) (kit_ty (by decide +kernel)) ?_
    walk_at "go"
    exact leaf (fun _ z => by cases z) rfl
  | int i =>
    walk_at "go"; walk_at "if"
    refine w_isi (k := false) (.ty _) (.base (.int _)) (kit_ty (by decide +kernel)) ?_
    walk_at "go"
    exact leaf (fun _ z => by cases z) rfl
  | str x =>
    walk_at "go"; walk_at "if"
    refine w_isi (k := false) (.ty _) (.base (.str _)) (kit_ty (by decide +kernel)) ?_
    walk_at "go"
    exact leaf (fun _ z => by cases z) rfl
  | @tup p xs ds ha lz wa =>
    have ta := tyT ha
    have la := wa.len
    have flat : ∀ H', Ext [] H H' → Q (.int (xs.length : Int)) H' := fun H' e => by
      have lx : ((xs.length : Nat) : Int).natAbs < 10 ^ 60 := by rw [Int.natAbs_natCast]; exact Nat.lt_of_le_of_lt lz (by decide)
      refine k (.int (xs.length : Int)) (.int (xs.length : Int)) H' e (.int _) (show fit (.int _) by rw [fit]; exact lx) (Nat.zero_le _) ?_
      have := wr_leaf (d := .int (xs.length : Int)) (show fit (.int _) by rw [fit]; exact lx) fun _ z => by cases z
      omega
    walk_at "go"; walk_at "if"
    refine w_isi (k := true) (.ty _) ta (kit_ty (by decide +kernel)) ?_
    walk_at "go"
    refine w_depth (.tup ha lz wa) ft dp fun H1 e1 => ?_
    walk_at "go"
    refine w_d (fun h => ?_) fun h => ?_ <;> walk_at "go"
    · refine w_lenX (.inr (SqT.ext e1 ha)) ?_
      exact flat H1 e1
    · refine w_text (d := .tuple ds) ((Jw.tup ha lz wa).ext e1) dp ft ln fun H2 e2 => ?_
      walk_at "go"
      refine w_lenS (z := S (wm none (.tuple ds))) (sz (by rw [S_len]; omega)) ?_
      rw [S_len]
      walk_at "go"
      refine w_d (fun h2 => ?_) fun h2 => ?_ <;> walk_at "go"
      · refine w_lenX (.inr (SqT.ext (e1.trans e2) ha)) ?_
        exact flat H2 (e1.trans e2)
      · rw [wm_wr] at h2
        exact k _ (.tuple ds) H2 (e1.trans e2) ((Jw.tup ha lz wa).ext (e1.trans e2)) ft (by omega) (by omega)
theorem w_flat {H : Hp} {v : V} {d : PyData} {Q : VK} {E : XK} (h : Jw K H v d) (ft : fit d) (dp : d.depth < 19) (ln : (wr d).length ≤ 500000) (k : ∀ v e H', Ext [] H H' → Jw K H' v e → fit e → e.depth ≤ 16 → (wr e).length ≤ 300 → Q v H') : sp_law_flat K ([v] ++ []) H Q E := ⟨_, rfl, d, h, ft, dp, by rw [wm_wr]; exact ln, k⟩

open SX PySem.NumText
/-! ### the list of values -/
structure Vi (ds : List PyData) (i : Nat) : Prop where
  len : ds.length = i
  ft : ∀ d ∈ ds, fit d
  dep : ∀ d ∈ ds, d.depth ≤ 16
  sz : ∀ d ∈ ds, (wr d).length ≤ 19000
  sm : ∀ j d, ds[j]? = some d → j % 70 ≠ 69 → (wr d).length ≤ 300
  tot : (wrAll ds).length ≤ 300 * i + 18002 * (i / 70)
theorem wrAll_one (d : PyData) : wrAll [d] = wr d := by rw [wrAll, wrAll, List.append_nil]
theorem Vi.snoc {ds : List PyData} {i : Nat} (h : Vi ds i) {d : PyData} (ft : fit d) (dp : d.depth ≤ 16) (sz : (wr d).length ≤ 300 ∨ i % 70 = 69 ∧ (wr d).length ≤ 18002) : Vi (ds ++ [d]) (i + 1) := by
  have hl := h.len
  have ht := h.tot
  refine ⟨by rw [List.length_append, List.length_singleton, hl], fun e m => ?_, fun e m => ?_, fun e m => ?_, fun j e hj hn => ?_, ?_⟩
  · rcases List.mem_append.mp m with m | m
    · exact h.ft e m
    · rw [List.mem_singleton.mp m]; exact ft
  · rcases List.mem_append.mp m with m | m
    · exact h.dep e m
    · rw [List.mem_singleton.mp m]; exact dp
  · rcases List.mem_append.mp m with m | m
    · exact h.sz e m
    · rw [List.mem_singleton.mp m]; omega
  · rw [List.getElem?_append] at hj
    split at hj
    · exact h.sm j e hj hn
    · next lt =>
      have e0 : j - ds.length = 0 := by
        rcases Nat.eq_zero_or_pos (j - ds.length) with z | z
        · exact z
        · rw [List.getElem?_eq_none (by show 1 ≤ _; omega)] at hj; cases hj
      rw [e0] at hj
      cases hj
      omega
  · rw [wrAll_app, wrAll_one, List.length_append]
    omega
def sp_law_values (K : PySem.W.Frag) : Sp := sp1 fun a H Q => ∃ p, a = .ref p ∧ PoolAt K H p ∧ ∀ r xs ds H', Ext [p] H H' → H r = none → H' r = some (.lst xs) → JwAll K H' xs ds → Vls ds → Q (.ref r) H'
theorem ok_law_values (T : Txt K mg) : FnOk P w K mg base CX0 37 T.f__law_values T.d__law_values ["pool"] (sp_law_values K) := by
  refine T.F__law_values.ok sc_law_values len1 (fun cdv A outer s H vs Q E hr h => ?_)
  have nd := sc_law_values.nd
  have hu := hu_of hr
  obtain ⟨_, rfl, p, rfl, hP, k⟩ := h
  refine ⟨_,
      (pss_cons (ps_set (i := 1) nd rfl (Or.inl rfl) (pe_call (ok_law_draw T) (hr.mono (by decide)) (by rfl) T.g__law_draw T.F__law_draw.kp T.k__law_draw .nil pass0 (pa_cons (pv 0) (pa_cons pe_int pa_nil)))) 
      (pss_cons (ps_set (i := 2) nd rfl (Or.inl rfl) (pe_call (ok_law_draw T) (hr.mono (by decide)) (by rfl) T.g__law_draw T.F__law_draw.kp T.k__law_draw .nil pass0 (pa_cons (pv 0) (pa_cons pe_int pa_nil)))) 
      (pss_cons (ps_if (pt_cmpR op_lt (pv 2) pe_int (nomark _)) 
        (pss_one (ps_set (i := 1) nd rfl (Or.inl rfl) pe_int)) pss_nil) 
      (pss_cons (ps_if (pt_cmpR op_eq (pv 2) pe_int (nomark _)) 
        (pss_one (ps_set (i := 1) nd rfl (Or.inl rfl) (pe_op op_add pe_int (pe_call (ok_law_draw T) (hr.mono (by decide)) (by rfl) T.g__law_draw T.F__law_draw.kp T.k__law_draw .nil pass0 (pa_cons (pv 0) (pa_cons pe_int pa_nil)))))) pss_nil) 
      (pss_cons (ps_set (i := 3) nd rfl (Or.inl rfl) (pe_cmpR op_eq (pe_call (ok_law_draw T) (hr.mono (by decide)) (by rfl) T.g__law_draw T.F__law_draw.kp T.k__law_draw .nil pass0 (pa_cons (pv 0) (pa_cons pe_int pa_nil))) pe_int (nomark _))) 
      (pss_cons (ps_set (i := 4) nd rfl (Or.inr rfl) (pe_lstZ pa_nil)) 
      (pss_cons (ps_for PassesOwn.never rfl (pi_range1 (by rfl) T.b_range (pa_cons (pv 1) pa_nil)) (pg_name (i := 5) nd rfl (Or.inl rfl)) 
        (pss_cons (ps_expr (pe_call (ok_law_next T) (hr.mono (by decide)) (by rfl) T.g__law_next T.F__law_next.kp T.k__law_next .nil pass0 (pa_cons (pv 0) pa_nil))) 
        (pss_cons (ps_set (i := 6) nd rfl (Or.inl rfl) (pe_call (ok_law_flat T) (hr.mono (by decide)) (by rfl) T.g__law_flat T.F__law_flat.kp T.k__law_flat .nil pass0 (pa_cons (pe_call (ok_law_again T) (hr.mono (by decide)) (by rfl) T.g__law_again T.F__law_again.kp T.k__law_again .nil pass0 (pa_cons (pv 0) (pa_cons (pe_call (ok_law_value T) (hr.mono (by decide)) (by rfl) T.g__law_value T.F__law_value.kp T.k__law_value .nil pass0 (pa_cons (pv 0) (pa_cons pe_int (pa_cons pe_int (pa_cons (pe_lstZ (pa_cons (pe_ifExp (pt_cmpR op_lt (pv 1) pe_int (nomark _)) pe_int pe_int) pa_nil)) pa_nil))))) (pa_cons (pv 4) pa_nil)))) pa_nil))) 
        (pss_cons (ps_if (PW.pt (pw_and (pt_cmpR op_ge (pv 1) pe_int (nomark _)) (pw_and1 (pt_cmpR op_eq (pe_op op_mod (pe_callTy zc_int (by rfl) T.b_int (by decide +kernel) (pa_cons (pv 5) pa_nil)) pe_int) pe_int (nomark _))))) 
          (pss_one (ps_set (i := 6) nd rfl (Or.inl rfl) (pe_callTy zc_tup (by rfl) T.b_tuple (by decide +kernel) (pa_cons (pe_lc (own := [("place", 7)]) rfl nd (pi_range2 (by rfl) T.b_range (pa_cons (pe_op op_sub (pv 5) pe_int) (pa_cons (pv 5) pa_nil))) (blkOk_by (own := [("place", 7)]) (N := ["pool", "count", "way", "long", "values", "k", "value", "place"]) (sc := defScope s_law_values) (by decide +kernel)) (fun _ _ _ _ _ => (pg_name (i := 7) nd rfl (Or.inl rfl))) (fun _ _ _ _ _ => (pts_one (pt_cmpR op_lt (pe_call (ok_law_depth T) (hr.mono (by decide)) (by rfl) T.g__law_depth T.F__law_depth.kp T.k__law_depth .nil pass0 (pa_cons (pe_ix (ix_listK (K := K) rfl) (pv 4) (pv 7) (fun _ _ => rfl)) pa_nil)) pe_int (nomark _)))) (fun _ _ _ _ _ => (pe_ix (ix_listK (K := K) rfl) (pv 4) (pv 7) (fun _ _ => rfl)))) pa_nil)))) pss_nil) 
        (pss_one (ps_expr (pe_bm PySem.F.plainAttrs_list PySem.F.slot_list_append PySem.F.type_list_append zmt_append (pv 4) (pa_cons (pv 6) pa_nil)))))))) 
      (pss_cons (ps_if (pt_val (pv 3)) 
        (pss_one (ps_expr (pe_bm PySem.F.plainAttrs_list PySem.F.slot_list_append PySem.F.type_list_append zmt_append (pv 4) (pa_cons (pe_callTy zc_tup (by rfl) T.b_tuple (by decide +kernel) (pa_cons (pe_lc (own := [("k", 5)]) rfl nd (pi_range1 (by rfl) T.b_range (pa_cons pe_int pa_nil)) (blkOk_by (own := [("k", 5)]) (N := ["pool", "count", "way", "long", "values", "k", "value", "place"]) (sc := defScope s_law_values) (by decide +kernel)) (fun _ _ _ _ _ => (pg_name (i := 5) nd rfl (Or.inl rfl))) (fun _ _ _ _ _ => pts_nil) (fun _ _ _ _ _ => (pe_op op_add (pe_op op_pow pe_int pe_int) (pe_op op_mulW (pv 5) (pe_op op_pow pe_int pe_int))))) pa_nil)) pa_nil)))) pss_nil) 
      (pss_one (ps_ret (pv 4))))))))))), ?_⟩
  change (_ : TS) _ [some _, none, none, none, none, none, none, none] _
  try dsimp only [cxOf, Cx.nox, Cx.wish]
  walk_at "go"
  refine w_draw hP (by decide) (by decide) fun c0 H1 c00 c01 e1 P1 => ?_
  walk_at "go"
  refine w_draw P1 (by decide) (by decide) fun wy H2 w0 w1 e2 P2 => ?_
  have E2 := e1.trans e2
  walk_at "go"
  refine w_cut (fun σ' H' => Ext [p] H H' ∧ PoolAt K H' p ∧ ∃ c : Nat, c ≤ 400 ∧ σ' = [some (.ref p), some (.int (c : Int)), some (.int wy), none, none, none, none, none]) ?_ fun nx hN => ?_
  rotate_left
  · walk_at "if"
    refine w_d (fun h => ?_) fun h => ?_ <;> walk_at "go"
    · exact hN _ _ ⟨E2, P2, 70, by decide, rfl⟩
    · obtain ⟨c, rfl⟩ := Int.eq_ofNat_of_zero_le c00
      exact hN _ _ ⟨E2, P2, c, by omega, rfl⟩
  rintro σ' H3 ⟨E3, P3, c, c4, rfl⟩
  walk_at "go"
  refine w_cut (fun σ' H' => Ext [p] H H' ∧ PoolAt K H' p ∧ ∃ c : Nat, c ≤ 400 ∧ σ' = [some (.ref p), some (.int (c : Int)), some (.int wy), none, none, none, none, none]) ?_ fun nx hN => ?_
  rotate_left
  · walk_at "if"
    refine w_d (fun h => ?_) fun h => ?_ <;> walk_at "go"
    · refine w_draw P3 (by decide) (by decide) fun u H4 u0 u1 e4 P4 => ?_
      walk_at "go"
      obtain ⟨z, rfl⟩ := Int.eq_ofNat_of_zero_le u0
      exact hN _ _ ⟨E3.trans e4, P4, 200 + z, by omega, rfl⟩
    · exact hN _ _ ⟨E3, P3, c, c4, rfl⟩
  clear c4 P3 E3
  rintro σ' H4 ⟨E4, P4, c, c4, rfl⟩
  walk_at "go"
  refine w_draw P4 (by decide) (by decide) fun lg H5 l0 l1 e5 P5 => ?_
  have E5 := E4.trans e5
  walk_at "go"
  refine ⟨Nat.zero_le _, w_alc fun r H6 e6 n6 h6 => ?_⟩
  have nrp : r ≠ p := (P5.ne n6).symm
  have nr0 : H r = none := E5.free n6
  walk_at "go"
  refine ⟨_, rfl, by omega, by omega, ?_⟩
  rw [Int.toNat_natCast]
  refine z_for_range (lo := 0) (n := c) (fun i σ' H' => Ext [p] H H' ∧ PoolAt K H' p ∧ ∃ xs ds u1 u2 u3, H' r = some (.lst xs) ∧ JwAll K H' xs ds ∧ Vi ds i ∧ σ' = [some (.ref p), some (.int (c : Int)), some (.int wy), some (.bl (decide (lg = 41))), some (.ref r), u1, u2, u3])
    ⟨E5.trans e6.up, P5.ext e6 List.not_mem_nil, [], [], none, none, none, h6, .nil, ⟨rfl, (fun _ m => by cases m), (fun _ m => by cases m), (fun _ m => by cases m), (fun j d h => by cases h), by rw [wrAll]; exact Nat.zero_le _⟩, rfl⟩ ?_ ?_
  · rintro N i σ' H7 hi ⟨E7, P7, xs, ds, u1, u2, u3, h7, wj, vi, rfl⟩ hN
    have dl := vi.len
    have xl := wj.len
    walk_at "go"
    refine w_next_ P7 fun H8 e8 P8 => ?_
    have h8 := e8.keep _ _ h7 (nm1 nrp)
    have E8 := E7.trans e8
    walk_at "go"
    refine w_cutE (fun v H' => H8 = H' ∧ ∃ L : Int, 4 ≤ L ∧ L ≤ 20 ∧ v = .int L) ?_ fun Q' hQ => ?_
    rotate_left
    · walk_at "ife"
      walk_at "go"
      refine w_d (fun h => ?_) fun h => ?_ <;> walk_at "go"
      · exact hQ _ _ ⟨rfl, 20, by decide, by decide, rfl⟩
      · exact hQ _ _ ⟨rfl, 4, by decide, by decide, rfl⟩
    rintro _ _ ⟨rfl, L, L4, L20, rfl⟩
    walk_at "go"
    refine ⟨sz (by show 1 ≤ _; decide), w_alc fun q H9 e9 n9 h9 => ?_⟩
    walk_at "go"
    have nqp : q ≠ p := (P8.ne n9).symm
    refine w_value (P8.ext e9 List.not_mem_nil) h9 nqp (by decide) (by decide) fun v d L' Ha ea Pa ga hj dw => ?_
    have Ea : Ext [p] H8 Ha := Ext.drop e9.up (ea.mono fun x m => by
      rcases List.mem_cons.mp m with rfl | m
      · simp
      · rw [List.mem_singleton.mp m]; simp) n9
    have ha := Ea.keep _ _ h8 (nm1 nrp)
    have wja := (wj.ext e8).ext Ea
    walk_at "go"
    refine w_again Pa hj ha wja vi.ft (fun d m => by have := vi.dep d m; omega) (by omega) nrp fun v2 d2 Hb eb Pb hj2 ch => ?_
    have fe : fit d2 ∧ d2.depth < 19 ∧ (wr d2).length ≤ 500000 := by
      have w1 := dw.dep
      have w2 := dw.len
      have w3 := dw.hi (by omega)
      rcases ch with rfl | m | ⟨e', m, rfl⟩
      · exact ⟨dw.sm, by omega, by omega⟩
      · exact ⟨vi.ft _ m, by have := vi.dep _ m; omega, by have := vi.sz _ m; omega⟩
      · have f1 := vi.ft _ m
        have f2 := vi.dep _ m
        have f3 := vi.sz _ m
        refine ⟨?_, ?_, ?_⟩
        · rw [fit, fitAll, fitAll, fitAll]
          exact ⟨by show 2 ≤ 100000; decide, dw.sm, f1, trivial⟩
        · rw [d_tup, PyData.depthAll, PyData.depthAll, PyData.depthAll]; omega
        · rw [wr, wrAll, wrAll_one, List.length_cons, List.length_append, List.length_append, List.length_singleton]; omega
    walk_at "go"
    refine w_flat hj2 fe.1 fe.2.1 fe.2.2 fun v3 d3 Hc ec hj3 ft3 dp3 ln3 => ?_
    have Ec := ((E8.trans Ea).trans eb).trans ec.up
    have hc := ec.keep _ _ (eb.keep _ _ ha (nm1 nrp)) List.not_mem_nil
    have wjc := (wja.ext eb).ext ec
    have Pc := Pb.ext ec List.not_mem_nil
    walk_at "go"
    refine w_cut (fun σ' H' => Ext [p] H H' ∧ PoolAt K H' p ∧ H' r = some (.lst xs) ∧ JwAll K H' xs ds ∧ ∃ v d u, Jw K H' v d ∧ fit d ∧ d.depth ≤ 16 ∧ ((wr d).length ≤ 300 ∨ i % 70 = 69 ∧ (wr d).length ≤ 18002) ∧
      σ' = [some (.ref p), some (.int (c : Int)), some (.int wy), some (.bl (decide (lg = 41))), some (.ref r), some (.int (0 + (i : Int))), some v, u]) ?_ fun nx hx => ?_
    · rintro σ' Hd ⟨Ed, Pd, hd, wjd, v4, d4, u4, hj4, ft4, dp4, ln4, rfl⟩
      walk_at "go"
      refine w_append hd (szl (by omega)) (w_chg hd (fun z => z) fun He ee he => ?_)
      exact hN _ _ ⟨Ed.dropq ee nr0, Pd.ext ee (nm1 nrp.symm), _, _, _, _, _, he, (wjd.snoc hj4).ext ee, vi.snoc ft4 dp4 ln4, rfl⟩
    · walk_at "if"
      have out : nx [some (.ref p), some (.int (c : Int)), some (.int wy), some (.bl (decide (lg = 41))), some (.ref r), some (.int (0 + (i : Int))), some v3, u3] Hc := hx _ _ ⟨Ec, Pc, hc, wjc, v3, d3, _, hj3, ft3, dp3, .inl ln3, rfl⟩
      refine w_d (fun h200 => ?_) fun h200 => ?_
      · walk_at "go"
        refine w_d (fun h69 => ?_) fun h69 => ?_
        · have i69 : i % 70 = 69 := by omega
          walk_at "go"
          refine ⟨_, _, rfl, by omega, fun D nD => ?_⟩
          rw [show (0 + (i : Int) - (0 + (i : Int) - 60)).toNat = 60 by omega]
          have nDr : D ≠ r := (ne_of_none hc nD).symm
          refine z_lc_range (lo := 0 + (i : Int) - 60) (n := 60) (fun j acc H' => Ext [] Hc H' ∧ ∃ es, JwAll K H' acc es ∧ acc.length ≤ j ∧ (∀ e ∈ es, fit e ∧ e.depth < 9) ∧ (wrAll es).length ≤ 300 * j) nD (fun H' e => ⟨e, [], .nil, Nat.le_refl _, (fun _ m => by cases m), by rw [wrAll]; exact Nat.zero_le _⟩) ?_ ?_
          · rintro Nx j acc Hd hj70 ⟨ed, es, wa, al, fa, la⟩ hD hN2
            obtain ⟨x, hxv⟩ : ∃ x, xs[i - 60 + j]? = some x := ⟨_, List.getElem?_eq_getElem (by omega)⟩
            obtain ⟨e, he, hje⟩ := wjc.one hxv
            have hm := List.mem_of_getElem? he
            have sm := vi.sm _ _ he (by omega)
            have hr := ed.keep _ _ hc List.not_mem_nil
            walk_at "go"
            refine ⟨rfl, ?_⟩
            walk_at "go"
            rw [show 0 + (i : Int) - 60 + (j : Int) = ((i - 60 + j : Nat) : Int) by omega]
            refine w_ixL (sql hr) (atI_nat hxv) ?_
            walk_at "go"
            refine w_depth (hje.ext ed) (vi.ft _ hm) (by have := vi.dep _ hm; omega) fun He ee => ?_
            walk_at "go"
            refine w_d (fun h9 => ?_) fun h9 => ?_
            · walk_at "go"
              refine w_ixL (sql (ee.keep _ _ hr List.not_mem_nil)) (atI_nat hxv) ?_
              refine w_app (ee.keep _ _ hD List.not_mem_nil) (szl (by omega)) fun Hf ef hDf => ?_
              refine hN2 _ _ ⟨(ed.trans ee).dropq ef nD, es ++ [e], ((wa.ext ee).snoc ((hje.ext ed).ext ee)).ext ef, by rw [List.length_append, List.length_singleton]; omega, fun e' m => ?_, ?_⟩ hDf
              · rcases List.mem_append.mp m with m | m
                · exact fa e' m
                · rw [List.mem_singleton.mp m]; exact ⟨vi.ft _ hm, by omega⟩
              · rw [wrAll_app, wrAll_one, List.length_append]; omega
            · exact hN2 _ _ ⟨ed.trans ee, es, wa.ext ee, by omega, fa, by omega⟩ (ee.keep _ _ hD List.not_mem_nil)
          · rintro acc Hd ⟨ed, es, wa, al, fa, la⟩ hD
            have ql := wa.len
            walk_at "go"
            refine w_tupL (sql hD) (w_alc fun t He ee ne he => ?_)
            have ede := ed.trans ee
            refine hx _ _ ⟨Ec.trans ede.up, Pc.ext ede List.not_mem_nil, ede.keep _ _ hc List.not_mem_nil, wjc.ext ede, .ref t, .tuple es, _, .tup (sqt he) (by omega) (wa.ext ee), ?_, ?_, .inr ⟨i69, ?_⟩, rfl⟩
            · rw [fit]; exact ⟨by omega, fitAll_of fun e m => (fa e m).1⟩
            · rw [d_tup]
              have := depAll_le (n := 8) fun e m => by have := (fa e m).2; omega
              omega
            · rw [wr, List.length_cons, List.length_append, List.length_singleton]; omega
        · exact out
      · exact out
  · rintro σ' H7 ⟨E7, P7, xs, ds, u1, u2, u3, h7, wj, vi, rfl⟩
    have dl := vi.len
    have xl := wj.len
    have vt := vi.tot
    walk_at "go"
    have fin : ∀ xs ds H', Ext [p] H H' → H' r = some (.lst xs) → JwAll K H' xs ds → Vls ds → Q (.ref r) H' := fun xs ds H' e h w v => k r xs ds H' e nr0 h w v
    refine w_cut (fun σ' H' => Ext [p] H H' ∧ ∃ xs ds u, H' r = some (.lst xs) ∧ JwAll K H' xs ds ∧ Vls ds ∧ σ' = [some (.ref p), some (.int (c : Int)), some (.int wy), some (.bl (decide (lg = 41))), some (.ref r), u, u2, u3]) ?_ fun nx hN => ?_
    · rintro σ' H8 ⟨E8, xs', ds', u', h8, wj8, vl, rfl⟩
      walk_at "go"
      exact fin _ _ _ E8 h8 wj8 vl
    · walk_at "if"
      refine w_d (fun h => ?_) fun h => ?_ <;> walk_at "go"
      · refine ⟨_, rfl, by decide, by decide, fun D nD => ?_⟩
        refine z_lc_range (lo := 0) (n := 1700) (fun j acc H' => Ext [] H7 H' ∧ ∃ es, JwAll K H' acc es ∧ acc.length = j ∧ (∀ e ∈ es, fit e ∧ e.depth = 0) ∧ (wrAll es).length ≤ 64 * j) nD (fun H' e => ⟨e, [], .nil, rfl, (fun _ m => by cases m), by rw [wrAll]; exact Nat.zero_le _⟩) ?_ ?_
        · rintro Nx j acc H8 hj ⟨e8, es, wa, al, fa, la⟩ hD hN2
          walk_at "go"
          refine ⟨rfl, ?_⟩
          walk_at "go"
          have big : (10 ^ Int.toNat 59 + (0 + (j : Int)) * 7919 ^ Int.toNat 9 : Int).natAbs < 10 ^ 60 := by
            have c1 : (10 ^ Int.toNat 59 : Int) = ((10 ^ 59 : Nat) : Int) := by decide +kernel
            have c2 : (7919 ^ Int.toNat 9 : Int) = ((7919 ^ 9 : Nat) : Int) := by decide +kernel
            have c3 : (10 ^ 59 : Nat) + 1700 * 7919 ^ 9 < 10 ^ 60 := by decide +kernel
            have c4 : j * 7919 ^ 9 ≤ 1700 * 7919 ^ 9 := Nat.mul_le_mul_right _ (by omega)
            rw [c1, c2, Int.zero_add, ← Int.natCast_mul, ← Int.natCast_add, Int.natAbs_natCast]
            exact Nat.lt_of_le_of_lt (Nat.add_le_add_left c4 _) c3
          refine w_I (by
            have a1 := log_lt (n := (0 + (j : Int)).natAbs) (Nat.lt_of_lt_of_le (show _ < 100000 by omega) (by decide))
            have a2 := log_lt (n := (7919 ^ Int.toNat 9 : Int).natAbs) (by decide +kernel)
            unfold CMulW
            omega) ?_
          walk_at "go"
          have fb : fit (.int (10 ^ Int.toNat 59 + (0 + (j : Int)) * 7919 ^ Int.toNat 9)) := by rw [fit]; exact big
          have wb := wr_leaf fb fun _ z => by cases z
          refine w_app hD (szl (by omega)) fun H9 e9 hD9 => ?_
          refine hN2 _ _ ⟨e8.dropq e9 nD, es ++ [.int (10 ^ Int.toNat 59 + (0 + (j : Int)) * 7919 ^ Int.toNat 9)], (wa.snoc (.int _)).ext e9, by rw [List.length_append, List.length_singleton]; omega, fun e m => ?_, ?_⟩ hD9
          · rcases List.mem_append.mp m with m | m
            · exact fa e m
            · rw [List.mem_singleton.mp m]; exact ⟨fb, rfl⟩
          · rw [wrAll_app, wrAll_one, List.length_append]; omega
        · rintro acc H8 ⟨e8, es, wa, al, fa, la⟩ hD
          have ql := wa.len
          walk_at "go"
          refine w_tupL (sql hD) (w_alc fun t H9 e9 n9 h9 => ?_)
          have e79 := e8.trans e9
          have hr9 := e79.keep _ _ h7 List.not_mem_nil
          have ftt : fit (.tuple es) := by rw [fit]; exact ⟨by omega, fitAll_of fun e m => (fa e m).1⟩
          have dpt : (PyData.tuple es).depth ≤ 16 := by
            rw [d_tup]
            have := depAll_le (n := 0) fun e m => by have := (fa e m).2; omega
            omega
          have lnt : (wr (.tuple es)).length ≤ 108802 := by rw [wr, List.length_cons, List.length_append, List.length_singleton]; omega
          walk_at "go"
          refine w_append hr9 (szl (by omega)) (w_chg hr9 (fun z => z) fun Ha ea ha => ?_)
          refine hN _ _ ⟨(E7.trans e79.up).dropq ea nr0, _, ds ++ [.tuple es], _, ha, ((wj.ext e79).snoc (.tup (sqt h9) (by omega) (wa.ext e9))).ext ea, ⟨by rw [List.length_append, List.length_singleton]; omega, fun d m => ?_, fun d m => ?_, fun d m => ?_, ?_⟩, rfl⟩
          · rcases List.mem_append.mp m with m | m
            · exact vi.ft d m
            · rw [List.mem_singleton.mp m]; exact ftt
          · rcases List.mem_append.mp m with m | m
            · exact vi.dep d m
            · rw [List.mem_singleton.mp m]; exact dpt
          · rcases List.mem_append.mp m with m | m
            · have := vi.sz d m; omega
            · rw [List.mem_singleton.mp m]; omega
          · rw [wrAll_app, wrAll_one, List.length_append]; omega
      · exact hN _ _ ⟨E7, xs, ds, _, h7, wj, ⟨by omega, vi.ft, vi.dep, fun d m => by have := vi.sz d m; omega, by omega⟩, rfl⟩
theorem w_values {H : Hp} {p : Addr} {Q : VK} {E : XK} (hP : PoolAt K H p) (k : ∀ r xs ds H', Ext [p] H H' → H r = none → H' r = some (.lst xs) → JwAll K H' xs ds → Vls ds → Q (.ref r) H') : sp_law_values K ([.ref p] ++ []) H Q E := ⟨_, rfl, p, rfl, hP, k⟩

open SX PySem.NumText
/-! ### the law -/
theorem jw_lines {H : Hp} : ∀ ls : List (List Nat), JwAll K H (ls.map tx) (ls.map fun l => PyData.str (S l))
  | [] => .nil
  | l :: ls => .cons (.str _) (jw_lines ls)
theorem w_sameLn {H : Hp} {p q : Addr} {ls : List (List Nat)} {Q : VK} {E : XK} (hp : LnAt H p ls) (hq : LnAt H q ls) (l : ls.length ≤ 60002) (k : ∀ H', Ext [] H H' → Q (.bl true) H') : sp_law_same K ([.ref p, .ref q] ++ []) H Q E :=
  w_sameL hp hq (jw_lines ls) (jw_lines ls) (fun d m => by
    obtain ⟨_, _, rfl⟩ := List.mem_map.mp m
    show 0 + 1 < 20
    decide) (by rw [List.length_map]; omega) k
theorem file_len {ds : List PyData} (ok : Vls ds) (f : Nat) : (fileL ds f).length ≤ 60002 := by
  have := ok.len
  have e : (bareL ds f).length ≤ 60002 := by rw [bare_len]; split <;> omega
  unfold fileL
  split
  · exact e
  · rw [ckd_len]; exact e
def sp_law (K : PySem.W.Frag) : Sp := sp1 fun a H Q => ∃ (sc : Addr) (ns : List Int), a = .ref sc ∧ Scr K H sc (ns.map V.int) ∧ ∀ H', Q (.bl true) H'
theorem start_law {H : Hp} {a : Addr} {ns : List Int} (hO : Only H) (hl : ns.length ≤ 63) (hS : SqL K H a (ns.map V.int)) : sp_law K [.ref a] H (fun v _ => v = .bl true) (fun _ _ _ => False) :=
  ⟨_, rfl, a, ns, rfl, Scr.of hO hS, fun _ => rfl⟩
def FsAt (H : Hp) (fl : Addr) (ds : List PyData) (q1 q2 q3 : Addr) : Prop := H fl = some (.lst [.ref q1, .ref q2, .ref q3]) ∧ LnAt H q1 (fileL ds 1) ∧ LnAt H q2 (fileL ds 2) ∧ LnAt H q3 (fileL ds 3)
theorem FsAt.ext {H H' : Hp} {fl : Addr} {ds : List PyData} {q1 q2 q3 : Addr} (h : FsAt H fl ds q1 q2 q3) (e : Ext [] H H') : FsAt H' fl ds q1 q2 q3 := ⟨e.keep _ _ h.1 List.not_mem_nil, h.2.1.ext e, h.2.2.1.ext e, h.2.2.2.ext e⟩
theorem FsAt.at {H : Hp} {fl : Addr} {ds : List PyData} {q1 q2 q3 : Addr} (h : FsAt H fl ds q1 q2 q3) {i : Nat} (hi : i < 3) : ∃ q, LnAt H q (fileL ds (i + 1)) ∧ atI [V.ref q1, V.ref q2, V.ref q3] (1 + (i : Int) - 1) = some (.ref q) := by
  rw [show 1 + (i : Int) - 1 = (i : Int) by omega]
  rcases (show i = 0 ∨ i = 1 ∨ i = 2 by omega) with rfl | rfl | rfl
  · exact ⟨q1, h.2.1, atI_nat rfl⟩
  · exact ⟨q2, h.2.2.1, atI_nat rfl⟩
  · exact ⟨q3, h.2.2.2, atI_nat rfl⟩
theorem ok_law (T : Txt K mg) (TE : Errs P K mg) : FnOk P w K mg base CX0 51 T.f_law T.d_law ["script"] (sp_law K) := by
  refine T.F_law.ok sc_law len1 (fun cdv A outer s H vs Q E hr h => ?_)
  have nd := sc_law.nd
  have hu := hu_of hr
  obtain ⟨_, rfl, sc, ns, rfl, hS, k⟩ := h
  refine ⟨_,
      (pss_cons (ps_set (i := 1) nd rfl (Or.inl rfl) (pe_call (ok_law_pool T) (hr.mono (by decide)) (by rfl) T.g__law_pool T.F__law_pool.kp T.k__law_pool .nil pass0 (pa_cons (pv 0) pa_nil))) 
      (pss_cons (ps_set (i := 2) nd rfl (Or.inl rfl) (pe_call (ok_law_draw T) (hr.mono (by decide)) (by rfl) T.g__law_draw T.F__law_draw.kp T.k__law_draw .nil pass0 (pa_cons (pv 1) (pa_cons pe_int pa_nil)))) 
      (pss_cons (ps_set (i := 3) nd rfl (Or.inr rfl) (pe_call0 (ok_law_places T) (hr.mono (by decide)) (by rfl) T.g__law_places T.F__law_places.kp T.k__law_places .nil pass0)) 
      (pss_cons (ps_set (i := 4) nd rfl (Or.inr rfl) (pe_call (ok_law_values T) (hr.mono (by decide)) (by rfl) T.g__law_values T.F__law_values.kp T.k__law_values .nil pass0 (pa_cons (pv 1) pa_nil))) 
      (pss_cons (ps_set (i := 5) nd rfl (Or.inl rfl) (pe_callTy zc_list (by rfl) T.b_list (by decide +kernel) (pa_cons (pv 4) pa_nil))) 
      (pss_cons (ps_setLc (i := 7) (own := [("form", 6)]) rfl nd rfl rfl (sw_true rfl rfl rfl (by decide +kernel)) (pi_range2 (by rfl) T.b_range (pa_cons pe_int (pa_cons pe_int pa_nil))) (blkOk_by (own := [("form", 6)]) (N := ["script", "pool", "row", "places", "values", "kept", "form", "files", "lines", "other", "line"]) (sc := defScope s_law) (by decide +kernel)) (fun _ _ _ _ _ => (pg_name (i := 6) nd rfl (Or.inl rfl))) (fun _ _ _ _ _ => pts_nil) (fun _ _ _ _ _ => (pe_call (ok_law_file T) (hr.mono (by decide)) (by rfl) T.g__law_file T.F__law_file.kp T.k__law_file .nil pass0 (pa_cons (pv 3) (pa_cons (pv 4) (pa_cons (pv 6) pa_nil)))))) 
      (pss_cons (ps_for PassesOwn.never rfl (pi_range2 (by rfl) T.b_range (pa_cons pe_int (pa_cons pe_int pa_nil))) (pg_name (i := 6) nd rfl (Or.inl rfl)) 
        (pss_cons (ps_set (i := 8) nd rfl (Or.inl rfl) (pe_call (ok_write_file T) (hr.mono (by decide)) (by rfl) T.g_write_file T.F_write_file.kp T.k_write_file .nil pass0 (pa_cons (pv 4) (pa_cons (pv 6) pa_nil)))) 
        (pss_cons (ps_if (PW.pt (pw_or (pt_not (pt_val (pe_call (ok_law_same T) (hr.mono (by decide)) (by rfl) T.g__law_same T.F__law_same.kp T.k__law_same .nil pass0 (pa_cons (pe_ix ix_list (pv 7) (pe_op op_sub (pv 6) pe_int) (fun _ _ => rfl)) (pa_cons (pv 8) pa_nil))))) (pw_or1 (pt_not (pt_val (pe_call (ok_law_same T) (hr.mono (by decide)) (by rfl) T.g__law_same T.F__law_same.kp T.k__law_same .nil pass0 (pa_cons (pv 5) (pa_cons (pv 4) pa_nil)))))))) 
          (pss_one (ps_ret pe_bl)) pss_nil) 
        (pss_cons (ps_if (PW.pt (pw_or (pt_not (pt_val (pe_call (ok_law_same T) (hr.mono (by decide)) (by rfl) T.g__law_same T.F__law_same.kp T.k__law_same .nil pass0 (pa_cons (pv 6) (pa_cons (pe_call (ok_form_of T) (hr.mono (by decide)) (by rfl) T.g_form_of T.F_form_of.kp T.k_form_of .nil pass0 (pa_cons (pv 8) pa_nil)) pa_nil))))) (pw_or1 (pt_not (pt_val (pe_call (ok_law_same T) (hr.mono (by decide)) (by rfl) T.g__law_same T.F__law_same.kp T.k__law_same .nil pass0 (pa_cons (pv 5) (pa_cons (pe_call (ok_read_file T TE) (hr.mono (by decide)) (by rfl) T.g_read_file T.F_read_file.kp T.k_read_file .nil pass0 (pa_cons (pv 8) pa_nil)) pa_nil)))))))) 
          (pss_one (ps_ret pe_bl)) pss_nil) 
        (pss_cons (ps_for PassesOwn.never rfl (pi_range2 (by rfl) T.b_range (pa_cons pe_int (pa_cons pe_int pa_nil))) (pg_name (i := 9) nd rfl (Or.inl rfl)) 
          (pss_one (ps_if (pt_not (pt_val (pe_call (ok_law_same T) (hr.mono (by decide)) (by rfl) T.g__law_same T.F__law_same.kp T.k__law_same .nil pass0 (pa_cons (pe_ix ix_list (pv 7) (pe_op op_sub (pv 9) pe_int) (fun _ _ => rfl)) (pa_cons (pe_call (ok_reform T TE) (hr.mono (by decide)) (by rfl) T.g_reform T.F_reform.kp T.k_reform .nil pass0 (pa_cons (pv 8) (pa_cons (pv 9) pa_nil))) pa_nil))))) 
            (pss_one (ps_ret pe_bl)) pss_nil))) 
        (pss_one (ps_if (pt_not (pt_val (pe_call (ok_law_same T) (hr.mono (by decide)) (by rfl) T.g__law_same T.F__law_same.kp T.k__law_same .nil pass0 (pa_cons (pe_ix ix_list (pv 7) (pe_op op_sub (pv 6) pe_int) (fun _ _ => rfl)) (pa_cons (pv 8) pa_nil))))) 
          (pss_one (ps_ret pe_bl)) pss_nil))))))) 
      (pss_cons (ps_set (i := 10) nd rfl (Or.inl rfl) (pe_call (ok_law_text T) (hr.mono (by decide)) (by rfl) T.g__law_text T.F__law_text.kp T.k__law_text .nil pass0 (pa_cons (pe_ifExp (pt_cmpR (op_neD hr.units) (pv 5) (pe_lstZ pa_nil) (nomark _)) (pe_ix ix_list (pv 5) (pe_un un_neg pe_int) (fun _ _ => rfl)) pe_non) pa_nil))) 
      (pss_one (ps_ret (pe_call (ok_law_same T) (hr.mono (by decide)) (by rfl) T.g__law_same T.F__law_same.kp T.k__law_same .nil pass0 (pa_cons (pe_call (ok_law_check T) (hr.mono (by decide)) (by rfl) T.g__law_check T.F__law_check.kp T.k__law_check .nil pass0 (pa_cons (pv 3) (pa_cons (pv 2) (pa_cons (pv 10) pa_nil)))) (pa_cons (pe_call (ok_check_of T) (hr.mono (by decide)) (by rfl) T.g_check_of T.F_check_of.kp T.k_check_of .nil pass0 (pa_cons (pv 2) (pa_cons (pv 10) pa_nil))) pa_nil))))))))))))), ?_⟩
  change (_ : TS) _ [some _, none, none, none, none, none, none, none, none, none, none] _
  try dsimp only [cxOf, Cx.nox, Cx.wish]
  walk_at "go"
  refine ⟨_, rfl, sc, ns, rfl, hS, fun p H1 e1 n1 P1 => ?_⟩
  walk_at "go"
  refine w_draw P1 (by decide) (by decide) fun rw_ H2 r0 r1 e2 P2 => ?_
  obtain ⟨row, rfl⟩ := Int.eq_ofNat_of_zero_le r0
  walk_at "go"
  refine ⟨rfl, fun g H3 e3 n3 hg => ?_⟩
  walk_at "go"
  have P3 := P2.ext e3 List.not_mem_nil
  have ngp : g ≠ p := (P2.ne n3).symm
  refine w_values P3 fun vl xs ds H4 e4 n4 hv wj ok => ?_
  have hg4 : PlcAt H4 g := e4.keep _ _ hg (nm1 ngp)
  have xl := wj.len
  have dl := ok.len
  walk_at "go"
  refine w_listL (sql hv) (w_alc fun kp H5 e5 n5 hk => ?_)
  have hv5 := e5.keep _ _ hv List.not_mem_nil
  have wj5 := wj.ext e5
  have hg5 : PlcAt H5 g := e5.keep _ _ hg4 List.not_mem_nil
  walk_at "go"
  refine ⟨_, _, rfl, by decide, fun D nD => ?_⟩
  refine z_lc_range (lo := 1) (n := 3) (fun i acc H' => Ext [] H5 H' ∧ ∃ qs : List Addr, acc = qs.map V.ref ∧ qs.length = i ∧ ∀ j q, qs[j]? = some q → q ≠ D ∧ LnAt H' q (fileL ds (j + 1))) nD (fun H' e => ⟨e, [], rfl, rfl, fun j q h => by cases h⟩) ?_ ?_
  · rintro Nx i acc H6 hi ⟨e6, qs, rfl, ql, hqs⟩ hD hN
    walk_at "go"
    refine ⟨rfl, ?_⟩
    walk_at "go"
    rw [show 1 + (i : Int) = ((i + 1 : Nat) : Int) by omega]
    refine w_lfile (e6.keep _ _ hg5 List.not_mem_nil) (e6.keep _ _ hv5 List.not_mem_nil) (wj5.ext e6) ok (by omega) (by omega) fun r H7 e7 n7 h7 => ?_
    refine w_app (e7.keep _ _ hD List.not_mem_nil) (szl (by rw [List.length_map]; omega)) fun H8 e8 hD8 => ?_
    have nrD : r ≠ D := fun z => by subst z; rw [hD] at n7; cases n7
    refine hN _ _ ⟨(e6.trans e7).dropq e8 nD, qs ++ [r], by rw [List.map_append]; rfl, by rw [List.length_append, List.length_singleton]; omega, fun j q h => ?_⟩ hD8
    rw [List.getElem?_append] at h
    split at h
    · have := (hqs j q h).2.ext e7
      exact ⟨(hqs j q h).1, e8.keep _ _ this (nm1 (hqs j q h).1)⟩
    · have j0 : j - qs.length = 0 := by
        rcases Nat.eq_zero_or_pos (j - qs.length) with z | z
        · exact z
        · rw [List.getElem?_eq_none (by show 1 ≤ _; omega)] at h; cases h
      rw [j0] at h
      cases h
      rw [show j = i by omega]
      exact ⟨nrD, e8.keep _ _ h7 (nm1 nrD)⟩
  · rintro acc H6 ⟨e6, qs, rfl, ql, hqs⟩ hD
    obtain ⟨q1, q2, q3, rfl⟩ : ∃ a b c, qs = [a, b, c] := by
      match qs, ql with
      | [a, b, c], _ => exact ⟨a, b, c, rfl⟩
    have fs : FsAt H6 D ds q1 q2 q3 := ⟨hD, (hqs 0 q1 rfl).2, (hqs 1 q2 rfl).2, (hqs 2 q3 rfl).2⟩
    have hk6 := e6.keep _ _ hk List.not_mem_nil
    have hv6 := e6.keep _ _ hv5 List.not_mem_nil
    have wj6 := wj5.ext e6
    have hg6 : PlcAt H6 g := e6.keep _ _ hg5 List.not_mem_nil
    have sameK : ∀ {H' : Hp} {a b : Addr} {ys : List V} {Q : VK} {E : XK}, H' a = some (.lst xs) → JwAll K H' xs ds → H' b = some (.lst ys) → JwAll K H' ys ds → (∀ H2, Ext [] H' H2 → Q (.bl true) H2) → sp_law_same K ([.ref a, .ref b] ++ []) H' Q E :=
      fun ha wa hb wb kk => w_sameL ha hb wa wb (fun d m => by have := ok.dep d m; omega) (by omega) kk
    walk_at "go"
    refine ⟨_, _, rfl, by decide, ?_⟩
    refine z_for_range (lo := 1) (n := 3) (fun i σ' H' => Ext [] H6 H' ∧ ∃ u1 u2 u3 u4, σ' = [some (.ref sc), some (.ref p), some (.int (row : Int)), some (.ref g), some (.ref vl), some (.ref kp), u1, some (.ref D), u2, u3, u4]) ⟨Ext.refl, _, _, _, _, rfl⟩ ?_ ?_
    · rintro N i σ' H7 hi ⟨e7, u1, u2, u3, u4, rfl⟩ hN
      have fs7 := fs.ext e7
      obtain ⟨qf, hqf, atf⟩ := fs7.at hi
      have fd7 := fs7.1
      have hv7 := e7.keep _ _ hv6 List.not_mem_nil
      have hk7 := e7.keep _ _ hk6 List.not_mem_nil
      have wj7 := wj6.ext e7
      have flen := file_len ok
      walk_at "go"
      rw [show 1 + (i : Int) = ((i + 1 : Nat) : Int) by omega] at *
      refine w_write_file hv7 wj7 ok (by omega) (by omega) fun ln H8 e8 n8 h8 => ?_
      walk_at "go"
      refine w_cut (fun σ' H' => Ext [] H8 H' ∧ σ' = [some (.ref sc), some (.ref p), some (.int (row : Int)), some (.ref g), some (.ref vl), some (.ref kp), some (.int ((i + 1 : Nat) : Int)), some (.ref D), some (.ref ln), u3, u4]) ?_ fun nx hx => ?_
      rotate_left
      · walk_at "if"
        refine w_sameLn (hqf.ext e8) h8 (flen _) fun H9 e9 => ?_
        walk_at "go"
        have e89 := e8.trans e9
        refine sameK (e89.keep _ _ hk7 List.not_mem_nil) (wj7.ext e89) (e89.keep _ _ hv7 List.not_mem_nil) (wj7.ext e89) fun Ha ea => ?_
        walk_at "go"
        exact hx _ _ ⟨e9.trans ea, rfl⟩
      rintro σ' H9 ⟨e9, rfl⟩
      walk_at "go"
      refine w_cut (fun σ' H' => Ext [] H8 H' ∧ σ' = [some (.ref sc), some (.ref p), some (.int (row : Int)), some (.ref g), some (.ref vl), some (.ref kp), some (.int ((i + 1 : Nat) : Int)), some (.ref D), some (.ref ln), u3, u4]) ?_ fun nx hx => ?_
      rotate_left
      · walk_at "if"
        refine ⟨_, rfl, ln, ds, i + 1, rfl, h8.ext e9, ok, by omega, by omega, fun Ha ea => ?_⟩
        refine w_same (d := .int ((i + 1 : Nat) : Int)) (by show 0 < 20; decide) (.int _) (.int _) fun Hb eb => ?_
        walk_at "go"
        have e9b := (e9.trans ea).trans eb
        refine w_read_file (h8.ext e9b) ok (by omega) (by omega) fun r2 ys Hc ec nc hc wc => ?_
        have e7c := e8.trans (e9b.trans ec)
        refine sameK (e7c.keep _ _ hk7 List.not_mem_nil) (wj7.ext e7c) hc wc fun Hd ed => ?_
        walk_at "go"
        exact hx _ _ ⟨(e9b.trans ec).trans ed, rfl⟩
      clear e9
      rintro σ' H9 ⟨e9, rfl⟩
      walk_at "go"
      refine ⟨_, _, rfl, by decide, ?_⟩
      refine z_for_range (lo := 1) (n := 3) (fun j σ' H' => Ext [] H8 H' ∧ ∃ u3, σ' = [some (.ref sc), some (.ref p), some (.int (row : Int)), some (.ref g), some (.ref vl), some (.ref kp), some (.int ((i + 1 : Nat) : Int)), some (.ref D), some (.ref ln), u3, u4]) ⟨e9, _, rfl⟩ ?_ ?_
      · rintro N2 j σ' Ha hj ⟨ea, u5, rfl⟩ hN2
        have fsa := fs7.ext (e8.trans ea)
        obtain ⟨qg, hqg, atg⟩ := fsa.at hj
        have fda := fsa.1
        walk_at "go"; walk_at "if"
        rw [show 1 + (j : Int) = ((j + 1 : Nat) : Int) by omega]
        refine w_reform (h8.ext ea) ok (by omega) (by omega) (by omega) (by omega) fun r2 Hb eb hb => ?_
        refine w_sameLn (hqg.ext eb) hb (flen _) fun Hc ec => ?_
        walk_at "go"
        exact hN2 _ _ ⟨(ea.trans eb).trans ec, _, rfl⟩
      · rintro σ' Ha ⟨ea, u5, rfl⟩
        walk_at "go"; walk_at "if"
        refine w_sameLn (hqf.ext (e8.trans ea)) (h8.ext ea) (flen _) fun Hb eb => ?_
        walk_at "go"
        exact hN _ _ ⟨(e7.trans (e8.trans ea)).trans eb, _, _, _, _, rfl⟩
    · rintro σ' H7 ⟨e7, u1, u2, u3, u4, rfl⟩
      have hk7 := e7.keep _ _ hk6 List.not_mem_nil
      have wj7 := wj6.ext e7
      have hg7 : PlcAt H7 g := e7.keep _ _ hg6 List.not_mem_nil
      walk_at "go"
      refine w_cutE (fun v H' => Ext [] H7 H' ∧ ∃ d, Jw K H' v d ∧ fit d ∧ d.depth ≤ 16 ∧ (wr d).length ≤ 110000) ?_ fun Q' hQ => ?_
      · rintro v H8 ⟨e8, d, hj, ft, dp, lw⟩
        have lw' : (wm none d).length ≤ 110000 := by rw [wm_wr]; exact lw
        walk_at "go"
        refine w_text hj (by omega) ft (by omega) fun H9 e9 => ?_
        walk_at "go"
        refine w_lcheck ((e8.trans e9).keep _ _ hg7 List.not_mem_nil) (by omega) (by omega) (al_wm none ft) ?_
        walk_at "go"
        refine w_check (by omega) (by omega) (al_wm none ft) fun Ha ea => ?_
        refine w_same (d := .str (S (ck row (wm none d)))) (by show 0 < 20; decide) (.str _) (.str _) fun Hb eb => ?_
        exact k Hb
      · walk_at "ife"
        walk_at "go"
        refine ⟨Nat.zero_le _, w_alc fun m H8 e8 n8 h8 => ?_⟩
        refine w_neE (e8.keep _ _ hk7 List.not_mem_nil) (wj7.ext e8) h8 ok.ft (fun d m => by have := ok.dep d m; omega) ?_
        walk_at "go"
        refine w_d (fun h => ?_) fun h => ?_ <;> walk_at "go"
        · rcases List.eq_nil_or_concat xs with z | ⟨ys, y, z⟩
          · rw [z] at xl
            have : 0 = ds.length := xl
            omega
          · rw [List.concat_eq_append] at z
            subst z
            have hk8 := e8.keep _ _ hk7 List.not_mem_nil
            obtain ⟨d, hd, hj⟩ := jw_has wj7 (show y ∈ ys ++ [y] by simp)
            refine w_ixL (v := y) (sql hk8) (atI_last ys y) ?_
            exact hQ _ _ ⟨e8, d, hj.ext e8, ok.ft d hd, ok.dep d hd, ok.sz d hd⟩
        · exact hQ _ _ ⟨e8, .none, .non, trivial, Nat.zero_le _, by rw [wr]; show 1 ≤ 110000; decide⟩

end
theorem all_mkZ {w : World} {K : PySem.W.Frag} {h : Heap} {mg : Str → Option Value} {fa : Addr} (X : K.In h) (G : h.Ns mainGlobals mg) (hfa : mg "law" = some (.ref fa)) (c : ZH.SaysZ fasZ fnsZ exsZ xtrZ fileZ K)
    : ∃ fd : FuncData, (∀ (s : Shared) (v : Value), BindsTo s fd ⟨[v], []⟩ [("script", v)]) ∧ ∀ base : Heap, K.In base → base.Ns mainGlobals mg → FnOk (PySem.Challenge.rw_storelife_k01_files_of_three_forms).prog w K mg base CX0 51 fa fd ["script"] (sp_law K) := by
  have e := hfa.symm.trans (He.glo_ok X G (c.d.fact 45 rfl))
  cases e
  obtain ⟨d_is_text, FD_is_text⟩ := c.d.def_ 0 (d := ⟨("is_text", none), "is_text", "is_text", defArgs s_is_text, defBody s_is_text, defScope s_is_text, [], []⟩) rfl
  have F_is_text : L2.Fun K "is_text" "is_text" s_is_text (He.fAd K ("is_text", none)) d_is_text := ZH.fun_of FD_is_text
  have b_is_text := F_is_text.binds (ps := ["value"]) fun _ _ _ _ _ _ us hl => match us, hl with | [_], _ => rfl
  obtain ⟨d_Strings___init__, FD_Strings___init__⟩ := c.d.def_ 1 (d := ⟨("Strings", some "__init__"), "__init__", "Strings.__init__", defArgs s_Strings___init__, defBody s_Strings___init__, defScope s_Strings___init__, [], []⟩) rfl
  have F_Strings___init__ : L2.Fun K "__init__" "Strings.__init__" s_Strings___init__ (He.fAd K ("Strings", some "__init__")) d_Strings___init__ := ZH.fun_of FD_Strings___init__
  have b_Strings___init__ := F_Strings___init__.binds (ps := ["self", "texts"]) fun _ _ _ _ _ _ us hl => match us, hl with | [_, _], _ => rfl
  obtain ⟨d_Strings_named, FD_Strings_named⟩ := c.d.def_ 2 (d := ⟨("Strings", some "named"), "named", "Strings.named", defArgs s_Strings_named, defBody s_Strings_named, defScope s_Strings_named, [], []⟩) rfl
  have F_Strings_named : L2.Fun K "named" "Strings.named" s_Strings_named (He.fAd K ("Strings", some "named")) d_Strings_named := ZH.fun_of FD_Strings_named
  have b_Strings_named := F_Strings_named.binds (ps := ["self", "place"]) fun _ _ _ _ _ _ us hl => match us, hl with | [_, _], _ => rfl
  obtain ⟨d_write_value, FD_write_value⟩ := c.d.def_ 3 (d := ⟨("write_value", none), "write_value", "write_value", defArgs s_write_value, defBody s_write_value, defScope s_write_value, [], []⟩) rfl
  have F_write_value : L2.Fun K "write_value" "write_value" s_write_value (He.fAd K ("write_value", none)) d_write_value := ZH.fun_of FD_write_value
  have b_write_value := F_write_value.binds (ps := ["value"]) fun _ _ _ _ _ _ us hl => match us, hl with | [_], _ => rfl
  obtain ⟨d_written, FD_written⟩ := c.d.def_ 4 (d := ⟨("written", none), "written", "written", defArgs s_written, defBody s_written, defScope s_written, [], []⟩) rfl
  have F_written : L2.Fun K "written" "written" s_written (He.fAd K ("written", none)) d_written := ZH.fun_of FD_written
  have b_written := F_written.binds (ps := ["value", "places"]) fun _ _ _ _ _ _ us hl => match us, hl with | [_, _], _ => rfl
  obtain ⟨d_note_strings, FD_note_strings⟩ := c.d.def_ 5 (d := ⟨("note_strings", none), "note_strings", "note_strings", defArgs s_note_strings, defBody s_note_strings, defScope s_note_strings, [], []⟩) rfl
  have F_note_strings : L2.Fun K "note_strings" "note_strings" s_note_strings (He.fAd K ("note_strings", none)) d_note_strings := ZH.fun_of FD_note_strings
  have b_note_strings := F_note_strings.binds (ps := ["value", "places"]) fun _ _ _ _ _ _ us hl => match us, hl with | [_, _], _ => rfl
  obtain ⟨d_read_value, FD_read_value⟩ := c.d.def_ 6 (d := ⟨("read_value", none), "read_value", "read_value", defArgs s_read_value, defBody s_read_value, defScope s_read_value, [], []⟩) rfl
  have F_read_value : L2.Fun K "read_value" "read_value" s_read_value (He.fAd K ("read_value", none)) d_read_value := ZH.fun_of FD_read_value
  have b_read_value := F_read_value.binds (ps := ["text"]) fun _ _ _ _ _ _ us hl => match us, hl with | [_], _ => rfl
  obtain ⟨d_read_named, FD_read_named⟩ := c.d.def_ 7 (d := ⟨("read_named", none), "read_named", "read_named", defArgs s_read_named, defBody s_read_named, defScope s_read_named, [], []⟩) rfl
  have F_read_named : L2.Fun K "read_named" "read_named" s_read_named (He.fAd K ("read_named", none)) d_read_named := ZH.fun_of FD_read_named
  have b_read_named := F_read_named.binds (ps := ["text", "strings"]) fun _ _ _ _ _ _ us hl => match us, hl with | [_, _], _ => rfl
  obtain ⟨d_value_at, FD_value_at⟩ := c.d.def_ 8 (d := ⟨("value_at", none), "value_at", "value_at", defArgs s_value_at, defBody s_value_at, defScope s_value_at, [], []⟩) rfl
  have F_value_at : L2.Fun K "value_at" "value_at" s_value_at (He.fAd K ("value_at", none)) d_value_at := ZH.fun_of FD_value_at
  have b_value_at := F_value_at.binds (ps := ["text", "place", "room", "strings"]) fun _ _ _ _ _ _ us hl => match us, hl with | [_, _, _, _], _ => rfl
  obtain ⟨d_digits_at, FD_digits_at⟩ := c.d.def_ 9 (d := ⟨("digits_at", none), "digits_at", "digits_at", defArgs s_digits_at, defBody s_digits_at, defScope s_digits_at, [], []⟩) rfl
  have F_digits_at : L2.Fun K "digits_at" "digits_at" s_digits_at (He.fAd K ("digits_at", none)) d_digits_at := ZH.fun_of FD_digits_at
  have b_digits_at := F_digits_at.binds (ps := ["text", "place", "most"]) fun _ _ _ _ _ _ us hl => match us, hl with | [_, _, _], _ => rfl
  obtain ⟨d_integer_at, FD_integer_at⟩ := c.d.def_ 10 (d := ⟨("integer_at", none), "integer_at", "integer_at", defArgs s_integer_at, defBody s_integer_at, defScope s_integer_at, [], []⟩) rfl
  have F_integer_at : L2.Fun K "integer_at" "integer_at" s_integer_at (He.fAd K ("integer_at", none)) d_integer_at := ZH.fun_of FD_integer_at
  have b_integer_at := F_integer_at.binds (ps := ["text", "place"]) fun _ _ _ _ _ _ us hl => match us, hl with | [_, _], _ => rfl
  obtain ⟨d_string_at, FD_string_at⟩ := c.d.def_ 11 (d := ⟨("string_at", none), "string_at", "string_at", defArgs s_string_at, defBody s_string_at, defScope s_string_at, [], []⟩) rfl
  have F_string_at : L2.Fun K "string_at" "string_at" s_string_at (He.fAd K ("string_at", none)) d_string_at := ZH.fun_of FD_string_at
  have b_string_at := F_string_at.binds (ps := ["text", "place"]) fun _ _ _ _ _ _ us hl => match us, hl with | [_, _], _ => rfl
  obtain ⟨d_named_at, FD_named_at⟩ := c.d.def_ 12 (d := ⟨("named_at", none), "named_at", "named_at", defArgs s_named_at, defBody s_named_at, defScope s_named_at, [], []⟩) rfl
  have F_named_at : L2.Fun K "named_at" "named_at" s_named_at (He.fAd K ("named_at", none)) d_named_at := ZH.fun_of FD_named_at
  have b_named_at := F_named_at.binds (ps := ["text", "place", "strings"]) fun _ _ _ _ _ _ us hl => match us, hl with | [_, _, _], _ => rfl
  obtain ⟨d_tuple_at, FD_tuple_at⟩ := c.d.def_ 13 (d := ⟨("tuple_at", none), "tuple_at", "tuple_at", defArgs s_tuple_at, defBody s_tuple_at, defScope s_tuple_at, [], []⟩) rfl
  have F_tuple_at : L2.Fun K "tuple_at" "tuple_at" s_tuple_at (He.fAd K ("tuple_at", none)) d_tuple_at := ZH.fun_of FD_tuple_at
  have b_tuple_at := F_tuple_at.binds (ps := ["text", "place", "room", "strings"]) fun _ _ _ _ _ _ us hl => match us, hl with | [_, _, _, _], _ => rfl
  obtain ⟨d_check_of, FD_check_of⟩ := c.d.def_ 14 (d := ⟨("check_of", none), "check_of", "check_of", defArgs s_check_of, defBody s_check_of, defScope s_check_of, [], []⟩) rfl
  have F_check_of : L2.Fun K "check_of" "check_of" s_check_of (He.fAd K ("check_of", none)) d_check_of := ZH.fun_of FD_check_of
  have b_check_of := F_check_of.binds (ps := ["row", "line"]) fun _ _ _ _ _ _ us hl => match us, hl with | [_, _], _ => rfl
  obtain ⟨d_checked, FD_checked⟩ := c.d.def_ 15 (d := ⟨("checked", none), "checked", "checked", defArgs s_checked, defBody s_checked, defScope s_checked, [], []⟩) rfl
  have F_checked : L2.Fun K "checked" "checked" s_checked (He.fAd K ("checked", none)) d_checked := ZH.fun_of FD_checked
  have b_checked := F_checked.binds (ps := ["lines"]) fun _ _ _ _ _ _ us hl => match us, hl with | [_], _ => rfl
  obtain ⟨d_write_file, FD_write_file⟩ := c.d.def_ 16 (d := ⟨("write_file", none), "write_file", "write_file", defArgs s_write_file, defBody s_write_file, defScope s_write_file, [], []⟩) rfl
  have F_write_file : L2.Fun K "write_file" "write_file" s_write_file (He.fAd K ("write_file", none)) d_write_file := ZH.fun_of FD_write_file
  have b_write_file := F_write_file.binds (ps := ["values", "form"]) fun _ _ _ _ _ _ us hl => match us, hl with | [_, _], _ => rfl
  obtain ⟨d_bare_line, FD_bare_line⟩ := c.d.def_ 17 (d := ⟨("bare_line", none), "bare_line", "bare_line", defArgs s_bare_line, defBody s_bare_line, defScope s_bare_line, [], []⟩) rfl
  have F_bare_line : L2.Fun K "bare_line" "bare_line" s_bare_line (He.fAd K ("bare_line", none)) d_bare_line := ZH.fun_of FD_bare_line
  have b_bare_line := F_bare_line.binds (ps := ["lines", "row"]) fun _ _ _ _ _ _ us hl => match us, hl with | [_, _], _ => rfl
  obtain ⟨d_is_count, FD_is_count⟩ := c.d.def_ 18 (d := ⟨("is_count", none), "is_count", "is_count", defArgs s_is_count, defBody s_is_count, defScope s_is_count, [], []⟩) rfl
  have F_is_count : L2.Fun K "is_count" "is_count" s_is_count (He.fAd K ("is_count", none)) d_is_count := ZH.fun_of FD_is_count
  have b_is_count := F_is_count.binds (ps := ["digits"]) fun _ _ _ _ _ _ us hl => match us, hl with | [_], _ => rfl
  obtain ⟨d_header_of, FD_header_of⟩ := c.d.def_ 19 (d := ⟨("header_of", none), "header_of", "header_of", defArgs s_header_of, defBody s_header_of, defScope s_header_of, [], []⟩) rfl
  have F_header_of : L2.Fun K "header_of" "header_of" s_header_of (He.fAd K ("header_of", none)) d_header_of := ZH.fun_of FD_header_of
  have b_header_of := F_header_of.binds (ps := ["lines"]) fun _ _ _ _ _ _ us hl => match us, hl with | [_], _ => rfl
  obtain ⟨d_form_of, FD_form_of⟩ := c.d.def_ 20 (d := ⟨("form_of", none), "form_of", "form_of", defArgs s_form_of, defBody s_form_of, defScope s_form_of, [], []⟩) rfl
  have F_form_of : L2.Fun K "form_of" "form_of" s_form_of (He.fAd K ("form_of", none)) d_form_of := ZH.fun_of FD_form_of
  have b_form_of := F_form_of.binds (ps := ["lines"]) fun _ _ _ _ _ _ us hl => match us, hl with | [_], _ => rfl
  obtain ⟨d_read_line, FD_read_line⟩ := c.d.def_ 21 (d := ⟨("read_line", none), "read_line", "read_line", defArgs s_read_line, defBody s_read_line, defScope s_read_line, [], []⟩) rfl
  have F_read_line : L2.Fun K "read_line" "read_line" s_read_line (He.fAd K ("read_line", none)) d_read_line := ZH.fun_of FD_read_line
  have b_read_line := F_read_line.binds (ps := ["lines", "row", "form", "strings"]) fun _ _ _ _ _ _ us hl => match us, hl with | [_, _, _, _], _ => rfl
  obtain ⟨d_read_strings, FD_read_strings⟩ := c.d.def_ 22 (d := ⟨("read_strings", none), "read_strings", "read_strings", defArgs s_read_strings, defBody s_read_strings, defScope s_read_strings, [], []⟩) rfl
  have F_read_strings : L2.Fun K "read_strings" "read_strings" s_read_strings (He.fAd K ("read_strings", none)) d_read_strings := ZH.fun_of FD_read_strings
  have b_read_strings := F_read_strings.binds (ps := ["lines", "count"]) fun _ _ _ _ _ _ us hl => match us, hl with | [_, _], _ => rfl
  obtain ⟨d_read_file, FD_read_file⟩ := c.d.def_ 23 (d := ⟨("read_file", none), "read_file", "read_file", defArgs s_read_file, defBody s_read_file, defScope s_read_file, [], []⟩) rfl
  have F_read_file : L2.Fun K "read_file" "read_file" s_read_file (He.fAd K ("read_file", none)) d_read_file := ZH.fun_of FD_read_file
  have b_read_file := F_read_file.binds (ps := ["lines"]) fun _ _ _ _ _ _ us hl => match us, hl with | [_], _ => rfl
  obtain ⟨d_reform, FD_reform⟩ := c.d.def_ 24 (d := ⟨("reform", none), "reform", "reform", defArgs s_reform, defBody s_reform, defScope s_reform, [], []⟩) rfl
  have F_reform : L2.Fun K "reform" "reform" s_reform (He.fAd K ("reform", none)) d_reform := ZH.fun_of FD_reform
  have b_reform := F_reform.binds (ps := ["lines", "form"]) fun _ _ _ _ _ _ us hl => match us, hl with | [_, _], _ => rfl
  obtain ⟨d_law_mixed, FD_law_mixed⟩ := c.d.def_ 25 (d := ⟨("_law_mixed", none), "_law_mixed", "_law_mixed", defArgs s_law_mixed, defBody s_law_mixed, defScope s_law_mixed, [], []⟩) rfl
  have F_law_mixed : L2.Fun K "_law_mixed" "_law_mixed" s_law_mixed (He.fAd K ("_law_mixed", none)) d_law_mixed := ZH.fun_of FD_law_mixed
  have b_law_mixed := F_law_mixed.binds (ps := ["number", "place"]) fun _ _ _ _ _ _ us hl => match us, hl with | [_, _], _ => rfl
  obtain ⟨d_law_rest, FD_law_rest⟩ := c.d.def_ 26 (d := ⟨("_law_rest", none), "_law_rest", "_law_rest", defArgs s_law_rest, defBody s_law_rest, defScope s_law_rest, [], []⟩) rfl
  have F_law_rest : L2.Fun K "_law_rest" "_law_rest" s_law_rest (He.fAd K ("_law_rest", none)) d_law_rest := ZH.fun_of FD_law_rest
  have b_law_rest := F_law_rest.binds (ps := ["script", "place", "fills"]) fun _ _ _ _ _ _ us hl => match us, hl with | [_, _, _], _ => rfl
  obtain ⟨d_law_pool, FD_law_pool⟩ := c.d.def_ 27 (d := ⟨("_law_pool", none), "_law_pool", "_law_pool", defArgs s_law_pool, defBody s_law_pool, defScope s_law_pool, [], []⟩) rfl
  have F_law_pool : L2.Fun K "_law_pool" "_law_pool" s_law_pool (He.fAd K ("_law_pool", none)) d_law_pool := ZH.fun_of FD_law_pool
  have b_law_pool := F_law_pool.binds (ps := ["script"]) fun _ _ _ _ _ _ us hl => match us, hl with | [_], _ => rfl
  obtain ⟨d_law_next, FD_law_next⟩ := c.d.def_ 28 (d := ⟨("_law_next", none), "_law_next", "_law_next", defArgs s_law_next, defBody s_law_next, defScope s_law_next, [], []⟩) rfl
  have F_law_next : L2.Fun K "_law_next" "_law_next" s_law_next (He.fAd K ("_law_next", none)) d_law_next := ZH.fun_of FD_law_next
  have b_law_next := F_law_next.binds (ps := ["pool"]) fun _ _ _ _ _ _ us hl => match us, hl with | [_], _ => rfl
  obtain ⟨d_law_draw, FD_law_draw⟩ := c.d.def_ 29 (d := ⟨("_law_draw", none), "_law_draw", "_law_draw", defArgs s_law_draw, defBody s_law_draw, defScope s_law_draw, [], []⟩) rfl
  have F_law_draw : L2.Fun K "_law_draw" "_law_draw" s_law_draw (He.fAd K ("_law_draw", none)) d_law_draw := ZH.fun_of FD_law_draw
  have b_law_draw := F_law_draw.binds (ps := ["pool", "limit"]) fun _ _ _ _ _ _ us hl => match us, hl with | [_, _], _ => rfl
  obtain ⟨d_law_pick, FD_law_pick⟩ := c.d.def_ 30 (d := ⟨("_law_pick", none), "_law_pick", "_law_pick", defArgs s_law_pick, defBody s_law_pick, defScope s_law_pick, [], []⟩) rfl
  have F_law_pick : L2.Fun K "_law_pick" "_law_pick" s_law_pick (He.fAd K ("_law_pick", none)) d_law_pick := ZH.fun_of FD_law_pick
  have b_law_pick := F_law_pick.binds (ps := ["pool", "options"]) fun _ _ _ _ _ _ us hl => match us, hl with | [_, _], _ => rfl
  obtain ⟨d_law_same, FD_law_same⟩ := c.d.def_ 31 (d := ⟨("_law_same", none), "_law_same", "_law_same", defArgs s_law_same, defBody s_law_same, defScope s_law_same, [], []⟩) rfl
  have F_law_same : L2.Fun K "_law_same" "_law_same" s_law_same (He.fAd K ("_law_same", none)) d_law_same := ZH.fun_of FD_law_same
  have b_law_same := F_law_same.binds (ps := ["one", "other"]) fun _ _ _ _ _ _ us hl => match us, hl with | [_, _], _ => rfl
  obtain ⟨d_law_chars, FD_law_chars⟩ := c.d.def_ 32 (d := ⟨("_law_chars", none), "_law_chars", "_law_chars", defArgs s_law_chars, defBody s_law_chars, defScope s_law_chars, [], []⟩) rfl
  have F_law_chars : L2.Fun K "_law_chars" "_law_chars" s_law_chars (He.fAd K ("_law_chars", none)) d_law_chars := ZH.fun_of FD_law_chars
  have b_law_chars := F_law_chars.binds (ps := ["pool", "count"]) fun _ _ _ _ _ _ us hl => match us, hl with | [_, _], _ => rfl
  obtain ⟨d_law_digits, FD_law_digits⟩ := c.d.def_ 33 (d := ⟨("_law_digits", none), "_law_digits", "_law_digits", defArgs s_law_digits, defBody s_law_digits, defScope s_law_digits, [], []⟩) rfl
  have F_law_digits : L2.Fun K "_law_digits" "_law_digits" s_law_digits (He.fAd K ("_law_digits", none)) d_law_digits := ZH.fun_of FD_law_digits
  have b_law_digits := F_law_digits.binds (ps := ["pool", "count"]) fun _ _ _ _ _ _ us hl => match us, hl with | [_, _], _ => rfl
  obtain ⟨d_law_integer, FD_law_integer⟩ := c.d.def_ 34 (d := ⟨("_law_integer", none), "_law_integer", "_law_integer", defArgs s_law_integer, defBody s_law_integer, defScope s_law_integer, [], []⟩) rfl
  have F_law_integer : L2.Fun K "_law_integer" "_law_integer" s_law_integer (He.fAd K ("_law_integer", none)) d_law_integer := ZH.fun_of FD_law_integer
  have b_law_integer := F_law_integer.binds (ps := ["pool", "over"]) fun _ _ _ _ _ _ us hl => match us, hl with | [_, _], _ => rfl
  obtain ⟨d_law_value, FD_law_value⟩ := c.d.def_ 35 (d := ⟨("_law_value", none), "_law_value", "_law_value", defArgs s_law_value, defBody s_law_value, defScope s_law_value, [], []⟩) rfl
  have F_law_value : L2.Fun K "_law_value" "_law_value" s_law_value (He.fAd K ("_law_value", none)) d_law_value := ZH.fun_of FD_law_value
  have b_law_value := F_law_value.binds (ps := ["pool", "room", "over", "left"]) fun _ _ _ _ _ _ us hl => match us, hl with | [_, _, _, _], _ => rfl
  obtain ⟨d_law_text, FD_law_text⟩ := c.d.def_ 36 (d := ⟨("_law_text", none), "_law_text", "_law_text", defArgs s_law_text, defBody s_law_text, defScope s_law_text, [], []⟩) rfl
  have F_law_text : L2.Fun K "_law_text" "_law_text" s_law_text (He.fAd K ("_law_text", none)) d_law_text := ZH.fun_of FD_law_text
  have b_law_text := F_law_text.binds (ps := ["value"]) fun _ _ _ _ _ _ us hl => match us, hl with | [_], _ => rfl
  obtain ⟨d_law_places, FD_law_places⟩ := c.d.def_ 37 (d := ⟨("_law_places", none), "_law_places", "_law_places", defArgs s_law_places, defBody s_law_places, defScope s_law_places, [], []⟩) rfl
  have F_law_places : L2.Fun K "_law_places" "_law_places" s_law_places (He.fAd K ("_law_places", none)) d_law_places := ZH.fun_of FD_law_places
  have b_law_places := F_law_places.binds (ps := []) fun _ _ _ _ _ _ us hl => match us, hl with | [], _ => rfl
  obtain ⟨d_law_check, FD_law_check⟩ := c.d.def_ 38 (d := ⟨("_law_check", none), "_law_check", "_law_check", defArgs s_law_check, defBody s_law_check, defScope s_law_check, [], []⟩) rfl
  have F_law_check : L2.Fun K "_law_check" "_law_check" s_law_check (He.fAd K ("_law_check", none)) d_law_check := ZH.fun_of FD_law_check
  have b_law_check := F_law_check.binds (ps := ["places", "row", "line"]) fun _ _ _ _ _ _ us hl => match us, hl with | [_, _, _], _ => rfl
  obtain ⟨d_law_strings, FD_law_strings⟩ := c.d.def_ 39 (d := ⟨("_law_strings", none), "_law_strings", "_law_strings", defArgs s_law_strings, defBody s_law_strings, defScope s_law_strings, [], []⟩) rfl
  have F_law_strings : L2.Fun K "_law_strings" "_law_strings" s_law_strings (He.fAd K ("_law_strings", none)) d_law_strings := ZH.fun_of FD_law_strings
  have b_law_strings := F_law_strings.binds (ps := ["value", "found"]) fun _ _ _ _ _ _ us hl => match us, hl with | [_, _], _ => rfl
  obtain ⟨d_law_named, FD_law_named⟩ := c.d.def_ 40 (d := ⟨("_law_named", none), "_law_named", "_law_named", defArgs s_law_named, defBody s_law_named, defScope s_law_named, [], []⟩) rfl
  have F_law_named : L2.Fun K "_law_named" "_law_named" s_law_named (He.fAd K ("_law_named", none)) d_law_named := ZH.fun_of FD_law_named
  have b_law_named := F_law_named.binds (ps := ["value", "names"]) fun _ _ _ _ _ _ us hl => match us, hl with | [_, _], _ => rfl
  obtain ⟨d_law_bare, FD_law_bare⟩ := c.d.def_ 41 (d := ⟨("_law_bare", none), "_law_bare", "_law_bare", defArgs s_law_bare, defBody s_law_bare, defScope s_law_bare, [], []⟩) rfl
  have F_law_bare : L2.Fun K "_law_bare" "_law_bare" s_law_bare (He.fAd K ("_law_bare", none)) d_law_bare := ZH.fun_of FD_law_bare
  have b_law_bare := F_law_bare.binds (ps := ["values", "form"]) fun _ _ _ _ _ _ us hl => match us, hl with | [_, _], _ => rfl
  obtain ⟨d_law_file, FD_law_file⟩ := c.d.def_ 42 (d := ⟨("_law_file", none), "_law_file", "_law_file", defArgs s_law_file, defBody s_law_file, defScope s_law_file, [], []⟩) rfl
  have F_law_file : L2.Fun K "_law_file" "_law_file" s_law_file (He.fAd K ("_law_file", none)) d_law_file := ZH.fun_of FD_law_file
  have b_law_file := F_law_file.binds (ps := ["places", "values", "form"]) fun _ _ _ _ _ _ us hl => match us, hl with | [_, _, _], _ => rfl
  obtain ⟨d_law_again, FD_law_again⟩ := c.d.def_ 43 (d := ⟨("_law_again", none), "_law_again", "_law_again", defArgs s_law_again, defBody s_law_again, defScope s_law_again, [], []⟩) rfl
  have F_law_again : L2.Fun K "_law_again" "_law_again" s_law_again (He.fAd K ("_law_again", none)) d_law_again := ZH.fun_of FD_law_again
  have b_law_again := F_law_again.binds (ps := ["pool", "value", "values"]) fun _ _ _ _ _ _ us hl => match us, hl with | [_, _, _], _ => rfl
  obtain ⟨d_law_depth, FD_law_depth⟩ := c.d.def_ 44 (d := ⟨("_law_depth", none), "_law_depth", "_law_depth", defArgs s_law_depth, defBody s_law_depth, defScope s_law_depth, [], []⟩) rfl
  have F_law_depth : L2.Fun K "_law_depth" "_law_depth" s_law_depth (He.fAd K ("_law_depth", none)) d_law_depth := ZH.fun_of FD_law_depth
  have b_law_depth := F_law_depth.binds (ps := ["value"]) fun _ _ _ _ _ _ us hl => match us, hl with | [_], _ => rfl
  obtain ⟨d_law_flat, FD_law_flat⟩ := c.d.def_ 45 (d := ⟨("_law_flat", none), "_law_flat", "_law_flat", defArgs s_law_flat, defBody s_law_flat, defScope s_law_flat, [], []⟩) rfl
  have F_law_flat : L2.Fun K "_law_flat" "_law_flat" s_law_flat (He.fAd K ("_law_flat", none)) d_law_flat := ZH.fun_of FD_law_flat
  have b_law_flat := F_law_flat.binds (ps := ["value"]) fun _ _ _ _ _ _ us hl => match us, hl with | [_], _ => rfl
  obtain ⟨d_law_values, FD_law_values⟩ := c.d.def_ 46 (d := ⟨("_law_values", none), "_law_values", "_law_values", defArgs s_law_values, defBody s_law_values, defScope s_law_values, [], []⟩) rfl
  have F_law_values : L2.Fun K "_law_values" "_law_values" s_law_values (He.fAd K ("_law_values", none)) d_law_values := ZH.fun_of FD_law_values
  have b_law_values := F_law_values.binds (ps := ["pool"]) fun _ _ _ _ _ _ us hl => match us, hl with | [_], _ => rfl
  obtain ⟨d_law, FD_law⟩ := c.d.def_ 47 (d := ⟨("law", none), "law", "law", defArgs s_law, defBody s_law, defScope s_law, [], []⟩) rfl
  have F_law : L2.Fun K "law" "law" s_law (He.fAd K ("law", none)) d_law := ZH.fun_of FD_law
  have b_law := F_law.binds (ps := ["script"]) fun _ _ _ _ _ _ us hl => match us, hl with | [_], _ => rfl
  obtain ⟨t_ALPHABET, g_ALPHABET⟩ := He.str_ok X G (c.d.fact 67 rfl)
  obtain ⟨t_TEXT_MOST, g_TEXT_MOST⟩ := He.int_ok X G (c.d.fact 68 rfl)
  obtain ⟨t_DIGITS, g_DIGITS⟩ := He.str_ok X G (c.d.fact 69 rfl)
  obtain ⟨t_DIGITS_MOST, g_DIGITS_MOST⟩ := He.int_ok X G (c.d.fact 70 rfl)
  obtain ⟨t_DEEPEST, g_DEEPEST⟩ := He.int_ok X G (c.d.fact 71 rfl)
  obtain ⟨t_MODULUS, g_MODULUS⟩ := He.int_ok X G (c.d.fact 72 rfl)
  obtain ⟨t_VALUES_MOST, g_VALUES_MOST⟩ := He.int_ok X G (c.d.fact 73 rfl)
  obtain ⟨t_HEAD, g_HEAD⟩ := He.str_ok X G (c.d.fact 74 rfl)
  obtain ⟨q_BadText, k_BadText, s_BadText, y_BadText⟩ := He.exc_ok (c.d.fact 78 rfl)
  let T : Txt K mg := {
    f_is_text := He.fAd K ("is_text", none), d_is_text := d_is_text, F_is_text := F_is_text, g_is_text := (He.glo_ok X G (c.d.fact 0 rfl)), k_is_text := b_is_text,
    f_Strings___init__ := He.fAd K ("Strings", some "__init__"), d_Strings___init__ := d_Strings___init__, F_Strings___init__ := F_Strings___init__, k_Strings___init__ := b_Strings___init__,
    f_Strings_named := He.fAd K ("Strings", some "named"), d_Strings_named := d_Strings_named, F_Strings_named := F_Strings_named, k_Strings_named := b_Strings_named,
    f_write_value := He.fAd K ("write_value", none), d_write_value := d_write_value, F_write_value := F_write_value, g_write_value := (He.glo_ok X G (c.d.fact 1 rfl)), k_write_value := b_write_value,
    f_written := He.fAd K ("written", none), d_written := d_written, F_written := F_written, g_written := (He.glo_ok X G (c.d.fact 2 rfl)), k_written := b_written,
    f_note_strings := He.fAd K ("note_strings", none), d_note_strings := d_note_strings, F_note_strings := F_note_strings, g_note_strings := (He.glo_ok X G (c.d.fact 3 rfl)), k_note_strings := b_note_strings,
    f_read_value := He.fAd K ("read_value", none), d_read_value := d_read_value, F_read_value := F_read_value, g_read_value := (He.glo_ok X G (c.d.fact 4 rfl)), k_read_value := b_read_value,
    f_read_named := He.fAd K ("read_named", none), d_read_named := d_read_named, F_read_named := F_read_named, g_read_named := (He.glo_ok X G (c.d.fact 5 rfl)), k_read_named := b_read_named,
    f_value_at := He.fAd K ("value_at", none), d_value_at := d_value_at, F_value_at := F_value_at, g_value_at := (He.glo_ok X G (c.d.fact 6 rfl)), k_value_at := b_value_at,
    f_digits_at := He.fAd K ("digits_at", none), d_digits_at := d_digits_at, F_digits_at := F_digits_at, g_digits_at := (He.glo_ok X G (c.d.fact 7 rfl)), k_digits_at := b_digits_at,
    f_integer_at := He.fAd K ("integer_at", none), d_integer_at := d_integer_at, F_integer_at := F_integer_at, g_integer_at := (He.glo_ok X G (c.d.fact 8 rfl)), k_integer_at := b_integer_at,
    f_string_at := He.fAd K ("string_at", none), d_string_at := d_string_at, F_string_at := F_string_at, g_string_at := (He.glo_ok X G (c.d.fact 9 rfl)), k_string_at := b_string_at,
    f_named_at := He.fAd K ("named_at", none), d_named_at := d_named_at, F_named_at := F_named_at, g_named_at := (He.glo_ok X G (c.d.fact 10 rfl)), k_named_at := b_named_at,
    f_tuple_at := He.fAd K ("tuple_at", none), d_tuple_at := d_tuple_at, F_tuple_at := F_tuple_at, g_tuple_at := (He.glo_ok X G (c.d.fact 11 rfl)), k_tuple_at := b_tuple_at,
    f_check_of := He.fAd K ("check_of", none), d_check_of := d_check_of, F_check_of := F_check_of, g_check_of := (He.glo_ok X G (c.d.fact 12 rfl)), k_check_of := b_check_of,
    f_checked := He.fAd K ("checked", none), d_checked := d_checked, F_checked := F_checked, g_checked := (He.glo_ok X G (c.d.fact 13 rfl)), k_checked := b_checked,
    f_write_file := He.fAd K ("write_file", none), d_write_file := d_write_file, F_write_file := F_write_file, g_write_file := (He.glo_ok X G (c.d.fact 14 rfl)), k_write_file := b_write_file,
    f_bare_line := He.fAd K ("bare_line", none), d_bare_line := d_bare_line, F_bare_line := F_bare_line, g_bare_line := (He.glo_ok X G (c.d.fact 15 rfl)), k_bare_line := b_bare_line,
    f_is_count := He.fAd K ("is_count", none), d_is_count := d_is_count, F_is_count := F_is_count, g_is_count := (He.glo_ok X G (c.d.fact 16 rfl)), k_is_count := b_is_count,
    f_header_of := He.fAd K ("header_of", none), d_header_of := d_header_of, F_header_of := F_header_of, g_header_of := (He.glo_ok X G (c.d.fact 17 rfl)), k_header_of := b_header_of,
    f_form_of := He.fAd K ("form_of", none), d_form_of := d_form_of, F_form_of := F_form_of, g_form_of := (He.glo_ok X G (c.d.fact 18 rfl)), k_form_of := b_form_of,
    f_read_line := He.fAd K ("read_line", none), d_read_line := d_read_line, F_read_line := F_read_line, g_read_line := (He.glo_ok X G (c.d.fact 19 rfl)), k_read_line := b_read_line,
    f_read_strings := He.fAd K ("read_strings", none), d_read_strings := d_read_strings, F_read_strings := F_read_strings, g_read_strings := (He.glo_ok X G (c.d.fact 20 rfl)), k_read_strings := b_read_strings,
    f_read_file := He.fAd K ("read_file", none), d_read_file := d_read_file, F_read_file := F_read_file, g_read_file := (He.glo_ok X G (c.d.fact 21 rfl)), k_read_file := b_read_file,
    f_reform := He.fAd K ("reform", none), d_reform := d_reform, F_reform := F_reform, g_reform := (He.glo_ok X G (c.d.fact 22 rfl)), k_reform := b_reform,
    f__law_mixed := He.fAd K ("_law_mixed", none), d__law_mixed := d_law_mixed, F__law_mixed := F_law_mixed, g__law_mixed := (He.glo_ok X G (c.d.fact 23 rfl)), k__law_mixed := b_law_mixed,
    f__law_rest := He.fAd K ("_law_rest", none), d__law_rest := d_law_rest, F__law_rest := F_law_rest, g__law_rest := (He.glo_ok X G (c.d.fact 24 rfl)), k__law_rest := b_law_rest,
    f__law_pool := He.fAd K ("_law_pool", none), d__law_pool := d_law_pool, F__law_pool := F_law_pool, g__law_pool := (He.glo_ok X G (c.d.fact 25 rfl)), k__law_pool := b_law_pool,
    f__law_next := He.fAd K ("_law_next", none), d__law_next := d_law_next, F__law_next := F_law_next, g__law_next := (He.glo_ok X G (c.d.fact 26 rfl)), k__law_next := b_law_next,
    f__law_draw := He.fAd K ("_law_draw", none), d__law_draw := d_law_draw, F__law_draw := F_law_draw, g__law_draw := (He.glo_ok X G (c.d.fact 27 rfl)), k__law_draw := b_law_draw,
    f__law_pick := He.fAd K ("_law_pick", none), d__law_pick := d_law_pick, F__law_pick := F_law_pick, g__law_pick := (He.glo_ok X G (c.d.fact 28 rfl)), k__law_pick := b_law_pick,
    f__law_same := He.fAd K ("_law_same", none), d__law_same := d_law_same, F__law_same := F_law_same, g__law_same := (He.glo_ok X G (c.d.fact 29 rfl)), k__law_same := b_law_same,
    f__law_chars := He.fAd K ("_law_chars", none), d__law_chars := d_law_chars, F__law_chars := F_law_chars, g__law_chars := (He.glo_ok X G (c.d.fact 30 rfl)), k__law_chars := b_law_chars,
    f__law_digits := He.fAd K ("_law_digits", none), d__law_digits := d_law_digits, F__law_digits := F_law_digits, g__law_digits := (He.glo_ok X G (c.d.fact 31 rfl)), k__law_digits := b_law_digits,
    f__law_integer := He.fAd K ("_law_integer", none), d__law_integer := d_law_integer, F__law_integer := F_law_integer, g__law_integer := (He.glo_ok X G (c.d.fact 32 rfl)), k__law_integer := b_law_integer,
    f__law_value := He.fAd K ("_law_value", none), d__law_value := d_law_value, F__law_value := F_law_value, g__law_value := (He.glo_ok X G (c.d.fact 33 rfl)), k__law_value := b_law_value,
    f__law_text := He.fAd K ("_law_text", none), d__law_text := d_law_text, F__law_text := F_law_text, g__law_text := (He.glo_ok X G (c.d.fact 34 rfl)), k__law_text := b_law_text,
    f__law_places := He.fAd K ("_law_places", none), d__law_places := d_law_places, F__law_places := F_law_places, g__law_places := (He.glo_ok X G (c.d.fact 35 rfl)), k__law_places := b_law_places,
    f__law_check := He.fAd K ("_law_check", none), d__law_check := d_law_check, F__law_check := F_law_check, g__law_check := (He.glo_ok X G (c.d.fact 36 rfl)), k__law_check := b_law_check,
    f__law_strings := He.fAd K ("_law_strings", none), d__law_strings := d_law_strings, F__law_strings := F_law_strings, g__law_strings := (He.glo_ok X G (c.d.fact 37 rfl)), k__law_strings := b_law_strings,
    f__law_named := He.fAd K ("_law_named", none), d__law_named := d_law_named, F__law_named := F_law_named, g__law_named := (He.glo_ok X G (c.d.fact 38 rfl)), k__law_named := b_law_named,
    f__law_bare := He.fAd K ("_law_bare", none), d__law_bare := d_law_bare, F__law_bare := F_law_bare, g__law_bare := (He.glo_ok X G (c.d.fact 39 rfl)), k__law_bare := b_law_bare,
    f__law_file := He.fAd K ("_law_file", none), d__law_file := d_law_file, F__law_file := F_law_file, g__law_file := (He.glo_ok X G (c.d.fact 40 rfl)), k__law_file := b_law_file,
    f__law_again := He.fAd K ("_law_again", none), d__law_again := d_law_again, F__law_again := F_law_again, g__law_again := (He.glo_ok X G (c.d.fact 41 rfl)), k__law_again := b_law_again,
    f__law_depth := He.fAd K ("_law_depth", none), d__law_depth := d_law_depth, F__law_depth := F_law_depth, g__law_depth := (He.glo_ok X G (c.d.fact 42 rfl)), k__law_depth := b_law_depth,
    f__law_flat := He.fAd K ("_law_flat", none), d__law_flat := d_law_flat, F__law_flat := F_law_flat, g__law_flat := (He.glo_ok X G (c.d.fact 43 rfl)), k__law_flat := b_law_flat,
    f__law_values := He.fAd K ("_law_values", none), d__law_values := d_law_values, F__law_values := F_law_values, g__law_values := (He.glo_ok X G (c.d.fact 44 rfl)), k__law_values := b_law_values,
    f_law := He.fAd K ("law", none), d_law := d_law, F_law := F_law, g_law := (He.glo_ok X G (c.d.fact 45 rfl)), k_law := b_law,
    C_Strings := He.ga K "Strings", c_Strings := He.cls_ok (c.d.fact 46 rfl), g_Strings := (He.glo_ok X G (c.d.fact 47 rfl)), mk_Strings := He.mkr_ok (c.d.fact 48 rfl),
    na_Strings_texts := He.noat_ok (c.d.fact 49 rfl),
    na_Strings_seen := He.noat_ok (c.d.fact 50 rfl),
    m_Strings___init__ := He.meth_ok (c.d.fact 51 rfl),
    m_Strings_named := He.meth_ok (c.d.fact 52 rfl),
    b_bool := (He.free_ok X G (c.d.fact 53 rfl)),
    b_dict := (He.free_ok X G (c.d.fact 54 rfl)),
    b_enumerate := (He.free_ok X G (c.d.fact 55 rfl)),
    b_int := (He.free_ok X G (c.d.fact 56 rfl)),
    b_isinstance := (He.free_ok X G (c.d.fact 57 rfl)),
    b_len := (He.free_ok X G (c.d.fact 58 rfl)),
    b_list := (He.free_ok X G (c.d.fact 59 rfl)),
    b_max := (He.free_ok X G (c.d.fact 60 rfl)),
    b_min := (He.free_ok X G (c.d.fact 61 rfl)),
    b_ord := (He.free_ok X G (c.d.fact 62 rfl)),
    b_range := (He.free_ok X G (c.d.fact 63 rfl)),
    b_sorted := (He.free_ok X G (c.d.fact 64 rfl)),
    b_str := (He.free_ok X G (c.d.fact 65 rfl)),
    b_tuple := (He.free_ok X G (c.d.fact 66 rfl)),
    t_ALPHABET := t_ALPHABET, g_ALPHABET := g_ALPHABET, r_ALPHABET := ⟨_, rfl⟩,
    t_TEXT_MOST := t_TEXT_MOST, g_TEXT_MOST := g_TEXT_MOST, r_TEXT_MOST := ⟨_, rfl⟩,
    t_DIGITS := t_DIGITS, g_DIGITS := g_DIGITS, r_DIGITS := ⟨_, rfl⟩,
    t_DIGITS_MOST := t_DIGITS_MOST, g_DIGITS_MOST := g_DIGITS_MOST, r_DIGITS_MOST := ⟨_, rfl⟩,
    t_DEEPEST := t_DEEPEST, g_DEEPEST := g_DEEPEST, r_DEEPEST := ⟨_, rfl⟩,
    t_MODULUS := t_MODULUS, g_MODULUS := g_MODULUS, r_MODULUS := ⟨_, rfl⟩,
    t_VALUES_MOST := t_VALUES_MOST, g_VALUES_MOST := g_VALUES_MOST, r_VALUES_MOST := ⟨_, rfl⟩,
    t_HEAD := t_HEAD, g_HEAD := g_HEAD, r_HEAD := ⟨_, rfl⟩ }
  let TE : Errs (PySem.Challenge.rw_storelife_k01_files_of_three_forms).prog K mg := {
    C_StoreError := He.ga K "StoreError", g_StoreError := (He.glo_ok X G (c.d.fact 75 rfl)),
    C_BadText := He.ga K "BadText", g_BadText := (He.glo_ok X G (c.d.fact 76 rfl)),
    C_BadFile := He.ga K "BadFile", g_BadFile := (He.glo_ok X G (c.d.fact 77 rfl)),
    C_Strings := He.ga K "Strings", g_Strings := (He.glo_ok X G (c.d.fact 47 rfl)),
    q_BadText := q_BadText, k_BadText := k_BadText, s_BadText := s_BadText, y_BadText := y_BadText }
  have ba_law := FunD.bindsA (ps := ["script"]) FD_law fun _ _ _ _ _ _ us hl => match us, hl with | [_], _ => rfl
  exact ⟨_, fun s v => ba_law s [v] rfl, fun base _ _ => ok_law T TE⟩
end Law
open PySem PySem.W PySem.Calls PyProof.Rows
set_option maxRecDepth 100000 in
set_option maxHeartbeats 0 in
theorem PySem.Challenge.cw_storelife_k01_files_of_three_forms_holds : PySem.Challenge.rw_storelife_k01_files_of_three_forms.Holds := by
  w_on; o_law
  refine HandSHeadRun.head_any (r := OpenLaw.row PySem.Challenge.rw_storelife_k01_files_of_three_forms) (q := view (OpenLaw.row PySem.Challenge.rw_storelife_k01_files_of_three_forms).prog [62]) (H := Law.hkZ) (ob := Law.obZ) (M := 20000) (loose := Law.looseZ) (d := HandSHeadRun.topDef (OpenLaw.row PySem.Challenge.rw_storelife_k01_files_of_three_forms).prog 62) (kwd := []) Law.ob_eqZ
    (by kernel_rfl) (fun s => by kernel_rfl) Law.runZ (by kernel_rfl) (by kernel_rfl) (by kernel_rfl) (by rfl) (by first | assumption | decide +kernel) (by decide +kernel) ⟨rfl, rfl, rfl, rfl, rfl, by decide +kernel⟩ ?hw ?hc
  case hw => w_witness2
  case hc =>
    refine L2.walk_ofE (l := PySem.Challenge.rw_storelife_k01_files_of_three_forms) (n := 63) (k := 51) (x := "script") (CX := L2.CX0) rfl (by decide) (by kernel_rfl) ⟨rfl, by decide, by decide⟩ ?F (fun _ _ _ _ z => z)
    intro w mg fa h Y G hmg0
    obtain ⟨K, KX, c⟩ := Y
    have hmg : mg ("law" : PySem.Str) = some (.ref fa) := by
      have e : (HandSHeadRun.topDef (OpenLaw.row PySem.Challenge.rw_storelife_k01_files_of_three_forms).prog 62).name = ("law" : PySem.Str) := by kernel_rfl
      rw [← e]
      exact hmg0
    obtain ⟨fd, hb, hF⟩ := Law.all_mkZ (w := w) KX G hmg c
    exact ⟨K, fd, Law.sp_law K, KX, hb, fun H a ns hl hO hS => Law.start_law hO hl hS, hF⟩

