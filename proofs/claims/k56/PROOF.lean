import PyProof.Rows.All
import Wide.All
import OpenK.AllK
import Wide.FinOn
import HandS.ForMost
import HandS.More
import HandS.TupAny
import HandS.Wide
import HandS.IsInst
import HandS.Style
import KE.KxIndex
import HandS.SortRule
import HandS.Conv
import HandS.Finally
import HandS.Deep
import HandS.DictComp
import KE.KDictCopyH
import HandS.TupLen
import KE.DataMinMax
import KE.SortData
import HandS.Text
import HandS.Steps
import HandS.ForExc
import HandS.TryMany
import KE.DataCmp
import PyProof.DictTable
import HandS.Rev
import HandS.RevTup
import HandS.MapJoin
import HandS.MapObj
import HandS.ExcOwn
import HandS.Replace
import HandS.Flow
import HandS.TupLe
import HandS.Iter
import HandS.MakeKwOnly
import HandS.ExcCtx
import HandS.HotCalls
import HandS.RaiseFrom
import HandS.WordsExc
import KE.KDictSum
import PyProof.DictWalks
import KE.KExcSuper
import HandS.ExcInit
import HandS.ExcField
import HandS.ExcIs
import KE.KExcIs
import KE.KStateDown
import HandS.Head0
import HandS.Head1
import HandS.Head2
import HandS.HeadEnd
import HandS.HeadHook1
import HandS.HeadHook2
import PySem.Challenge.RW_storelife_k56_whole_other_worlds_of_a_va
set_option Elab.async false
set_option linter.all false
set_option maxRecDepth 100000
namespace Zk
open PySem PySem.Spec L2
open PyProof.Rows hiding St

/-! ### heaps that grow -/
def Imm : HO → Prop
  | .tup _ => True
  | .frz _ _ => True
  | _ => False
/-- everything but the objects at M stands as it stood -/
structure Ext (M : List Addr) (H H' : Hp) : Prop where
  keep : ∀ a o, H a = some o → a ∉ M → H' a = some o
  imm : ∀ a o, H a = some o → Imm o → H' a = some o
  live : ∀ a o, H a = some o → ∃ o', H' a = some o'
theorem Ext.refl {M : List Addr} {H : Hp} : Ext M H H := ⟨fun _ _ h _ => h, fun _ _ h _ => h, fun _ o h => ⟨o, h⟩⟩
theorem Ext.trans {M : List Addr} {H H1 H2 : Hp} (a : Ext M H H1) (b : Ext M H1 H2) : Ext M H H2 :=
  ⟨fun x o h n => b.keep x o (a.keep x o h n) n, fun x o h i => b.imm x o (a.imm x o h i) i, fun x o h => (a.live x o h).elim fun o' h' => b.live x o' h'⟩
theorem Ext.mono {M N : List Addr} {H H' : Hp} (a : Ext M H H') (s : ∀ x ∈ M, x ∈ N) : Ext N H H' :=
  ⟨fun x o h n => a.keep x o h fun z => n (s x z), a.imm, a.live⟩
theorem Ext.up {M : List Addr} {H H' : Hp} (a : Ext [] H H') : Ext M H H' := a.mono fun _ z => nomatch z
theorem Ext.free {M : List Addr} {H H' : Hp} (e : Ext M H H') {l : Addr} (h : H' l = none) : H l = none := by
  cases q : H l with
  | none => rfl
  | some o =>
    obtain ⟨o', q'⟩ := e.live l o q
    rw [h] at q'
    cases q'
/-- what changes at an address that was free at the start is no change -/
theorem Ext.drop {M : List Addr} {H H1 H2 : Hp} {p : Addr} (a : Ext M H H1) (b : Ext (p :: M) H1 H2) (np : H p = none) : Ext M H H2 :=
  ⟨fun x o h n => b.keep x o (a.keep x o h n) fun z => by
      rcases List.mem_cons.mp z with z | z
      · subst z; rw [np] at h; cases h
      · exact n z, fun x o h i => b.imm x o (a.imm x o h i) i, fun x o h => (a.live x o h).elim fun o' h' => b.live x o' h'⟩
theorem Ext.new {H : Hp} {p : Addr} {o : HO} (h : H p = none) : Ext [] H (upd H p o) :=
  ⟨fun a u e _ => by rw [upd_ne (ne_of_none e h)]; exact e, fun a u e _ => by rw [upd_ne (ne_of_none e h)]; exact e, fun a u e => ⟨u, by rw [upd_ne (ne_of_none e h)]; exact e⟩⟩
theorem Ext.mut {M : List Addr} {H : Hp} {p : Addr} {o u : HO} (h : H p = some u) (hm : ¬ Imm u) (hp : p ∈ M) : Ext M H (upd H p o) := by
  refine ⟨fun a x e n => ?_, fun a x e i => ?_, fun a x e => ?_⟩
  · have : a ≠ p := fun z => n (z ▸ hp)
    rw [upd_ne this]; exact e
  · have : a ≠ p := fun z => by subst z; rw [h] at e; cases e; exact hm i
    rw [upd_ne this]; exact e
  · by_cases z : a = p
    · subst z; exact ⟨o, upd_same⟩
    · exact ⟨x, by rw [upd_ne z]; exact e⟩
theorem Ext.tup {M : List Addr} {H H' : Hp} (e : Ext M H H') {a : Addr} {xs : List V} (h : H a = some (.tup xs)) : H' a = some (.tup xs) := e.imm a _ h trivial
theorem Ext.at {M : List Addr} {H H' : Hp} (e : Ext M H H') {a : Addr} {o : HO} (h : H a = some o) (n : a ∉ M) : H' a = some o := e.keep a o h n
/-- the dict at d is locked while it is walked -/
theorem Ext.lock {M : List Addr} {H H' : Hp} {d : Addr} {u : HO} {od : Obj} (h : H d = some u) (hm : ¬ Imm u) (e : Ext M (upd H d (.frz od u)) H') : Ext M H (upd H' d u) := by
  refine ⟨fun a x q n => ?_, fun a x q i => ?_, fun a x q => ?_⟩
  · by_cases z : a = d
    · subst z; rw [upd_same]; rw [h] at q; exact q
    · rw [upd_ne z]; exact e.keep a x (by rw [upd_ne z]; exact q) n
  · by_cases z : a = d
    · subst z; rw [upd_same]; rw [h] at q; exact q
    · rw [upd_ne z]; exact e.imm a x (by rw [upd_ne z]; exact q) i
  · by_cases z : a = d
    · subst z; exact ⟨u, upd_same⟩
    · obtain ⟨o', q'⟩ := e.live a x (by rw [upd_ne z]; exact q)
      exact ⟨o', by rw [upd_ne z]; exact q'⟩

/-! ### an object is laid, an object is changed, with the heap behind it a letter -/
def Alc (o : HO) (H : Hp) (Q : VK) : Prop := ∀ p, H p = none → Q (.ref p) (upd H p o)
theorem w_alc {o : HO} {H : Hp} {Q : VK} (h : ∀ p H', Ext [] H H' → H p = none → H' p = some o → Q (.ref p) H') : Alc o H Q := fun p np => h p _ (Ext.new np) np upd_same
def Chg (p : Addr) (o : HO) (H : Hp) (Q : Hp → Prop) : Prop := Q (upd H p o)
theorem w_chg {p : Addr} {o u : HO} {H : Hp} {Q : Hp → Prop} (hp : H p = some u) (hm : ¬ Imm u) (h : ∀ H', Ext [p] H H' → H' p = some o → Q H') : Chg p o H Q :=
  h _ (Ext.mut hp hm (List.mem_singleton.mpr rfl)) upd_same

/-! ### lists and tuples to be read -/
theorem sql {K : PySem.W.Frag} {H : Hp} {a : Addr} {xs : List V} (h : H a = some (.lst xs)) : SqL K H a xs := .inl (.inl h)
theorem sqt {K : PySem.W.Frag} {H : Hp} {a : Addr} {xs : List V} (h : H a = some (.tup xs)) : SqT K H a xs := .inl (.inl h)
/-- the script: locked, or of the written part -/
def Scr (K : PySem.W.Frag) (H : Hp) (a : Addr) (xs : List V) : Prop := (∃ o, H a = some (.frz o (.lst xs))) ∨ (∀ H', SqL K H' a xs)
theorem Scr.ext {K : PySem.W.Frag} {M : List Addr} {H H' : Hp} {a : Addr} {xs : List V} (e : Ext M H H') (h : Scr K H a xs) : Scr K H' a xs := by
  rcases h with ⟨o, h⟩ | h
  · exact .inl ⟨o, e.imm _ _ h trivial⟩
  · exact .inr h
theorem Scr.sql {K : PySem.W.Frag} {H : Hp} {a : Addr} {xs : List V} (h : Scr K H a xs) : SqL K H a xs := by
  rcases h with ⟨o, h⟩ | h
  · exact .inl (.inr ⟨o, h⟩)
  · exact h H
theorem Scr.of {K : PySem.W.Frag} {H : Hp} {a : Addr} {xs : List V} (hO : Only H) (h : SqL K H a xs) : Scr K H a xs := by
  rcases h with (h | ⟨o, h⟩) | h
  · rcases hO a with z | ⟨o, ys, z⟩
    · rw [h] at z; cases z
    · rw [h] at z; cases z
  · exact .inl ⟨o, h⟩
  · exact .inr fun H' => .inr h
theorem sz {n : Nat} (h : n ≤ 1000000) : n ≤ sizeLine := Nat.le_trans h (by decide)
theorem szl {n : Nat} (h : n < 1000000) : n < sizeLine := Nat.lt_of_lt_of_le h (by decide)

/-! ### readings, by name -/
def zTup (t : TA) : TE := fun σ H Q => t σ H fun xs H1 => xs.length ≤ sizeLine ∧ Alc (.tup xs) H1 Q
def zLst (t : TA) : TE := fun σ H Q => t σ H fun xs H1 => xs.length ≤ sizeLine ∧ Alc (.lst xs) H1 Q
def zDNewK : TE := fun _ H Q => Alc (.dK []) H Q
def zDNewT : TE := fun _ H Q => Alc (.dT []) H Q
def rLtS : R2 := fun x y H Q => ∃ i j, x = .str i ∧ y = .str j ∧ Q (.bl (decide (i.cps.toList < j.cps.toList))) H
def rAddSt : R2 := fun x y H Q => ∃ i j, x = .str i ∧ y = .str j ∧ i.length + j.length ≤ sizeLine ∧ Q (.str (i ++ j)) H
def rMulSt : R2 := fun x y H Q => ∃ i j, x = .str i ∧ y = .int j ∧ i.length ≤ 16 ∧ (-(2 ^ 63 : Int) ≤ j ∧ j ≤ 1048576) ∧ Q (.str (Txt.mul i j)) H
def rIsNn : R2 := fun x y H Q => y = .non ∧ Q (.bl (decide (x = .non))) H
def rIsNt : R2 := fun x y H Q => y = .non ∧ Q (.bl (!decide (x = .non))) H
def rIsBv : R2 := fun x y H Q => ∃ b, y = .bl b ∧ Q (.bl (decide (x = .bl b))) H
def rIsNtBv : R2 := fun x y H Q => ∃ b, y = .bl b ∧ Q (.bl (!decide (x = .bl b))) H
def zCat : R2 := fun x y H Q => ∃ l b xs zs, x = .ref l ∧ y = .ref b ∧ H l = some (.lst xs) ∧ H b = some (.lst zs) ∧ xs.length + zs.length ≤ sizeLine ∧ Alc (.lst (xs ++ zs)) H Q
def zCatA (K : PySem.W.Frag) : R2 := fun x y H Q => ∃ a b xs ys, x = .ref a ∧ y = .ref b ∧ SqT K H a xs ∧ SqT K H b ys ∧ xs.length + ys.length ≤ sizeLine ∧
  (xs = [] → Q (.ref b) H) ∧ (xs ≠ [] → ys = [] → Q (.ref a) H) ∧ (xs ≠ [] → ys ≠ [] → Alc (.tup (xs ++ ys)) H Q)
def zSetL : V → V → V → Hp → (Hp → Prop) → Prop := fun o i v H Q => ∃ p xs k j, o = .ref p ∧ i = .int k ∧ H p = some (.lst xs) ∧ ixN xs.length k = some j ∧ Chg p (.lst (xs.set j v)) H Q
def zAppend : V → List V → Hp → VK → Prop := fun x vs H Q => ∃ l xs y, x = .ref l ∧ vs = [y] ∧ H l = some (.lst xs) ∧ xs.length < sizeLine ∧ Chg l (.lst (xs ++ [y])) H (Q .non)
def rJoin (K : PySem.W.Frag) : V → List V → Hp → VK → Prop := fun x xs H Q => ∃ a p, ∃ ys : List Str, x = .str a ∧ xs = [.ref p] ∧ (SqL K H p (ys.map V.str) ∨ SqT K H p (ys.map V.str)) ∧
    (ys.map (·.length)).sum + ys.length * a.length ≤ 16777216 ∧ Q (.str (Txt.join a ys)) H
/-! calls of built-ins -/
abbrev RC := List V → Hp → VK → Prop
def cInt : RC := fun xs H Q => (∃ i, xs = [.int i] ∧ Q (.int i) H) ∨ ∃ k, xs = [.bl k] ∧ Q (.int (if k then 1 else 0)) H
def cTup (K : PySem.W.Frag) : RC := fun xs H Q => ∃ p ys, xs = [.ref p] ∧ ((SqL K H p ys ∧ Alc (.tup ys) H Q) ∨ (SqT K H p ys ∧ Q (.ref p) H))
def cLen (K : PySem.W.Frag) : RC := fun xs H Q => ∃ x n, xs = [x] ∧ LenV K x H n ∧ Q (.int n) H
def cLenD : RC := fun xs H Q => ∃ a kvs, xs = [V.ref a] ∧ H a = some (.dK kvs) ∧ Q (.int kvs.length) H
def cDictD : RC := fun xs H Q => ∃ (a : Addr) (kvs : List (Key × V)), xs = [.ref a] ∧ Rd H a (.dK kvs) ∧ Alc (.dK kvs) H Q
def cSortD : RC := fun xs H Q => ∃ (a : Addr) (kvs : List (Key × V)) (ks : List Str), xs = [.ref a] ∧ Rd H a (.dK kvs) ∧ kvs.map (·.1) = ks.map Sum.inr ∧ ks.length < 64 ∧
    ∀ ys, ys.Perm ks → sortedS ys = true → Alc (.lst (ys.map V.str)) H Q
section
variable {X : Cx} {es : List Expr} {t : TA} {pos : Pos}
theorem pe_tupZ {x1} (h : PA X es t) : PE X (.Tuple es x1 pos) (zTup t) := pe_tup h
theorem pe_lstZ (h : PA X es t) : PE X (.List es pos) (zLst t) := pe_lst h
theorem pe_dnewKZ : PE X (.Dict [] [] pos) zDNewK := pe_dnewK
theorem pe_dnewTZ : PE X (.Dict [] [] pos) zDNewT := pe_dnewT
theorem zpe_join {o e : Expr} {to te : TE} {apos : Pos} (ho : PE X o to) (he : PE X e te) (hs : starEach [e] X.env = [(false, eval e X.env)] := by rfl) (hbase : attributeBase o "join" X.env (eval o X.env) = eval o X.env := by rfl) (hline : (apos.endLine == pos.line) = true := by rfl) :
    PE X (.Call (.Attribute o "join" apos) [e] [] pos) (tM1 (rJoin X.K) to te) := pe_join ho he hs hbase hline
theorem zop_ltS : OpR X (compareOp .Lt) rLtS := op_lt_str
theorem zop_addS : OpR X (binaryOp .Add) rAddSt := op_add_str
theorem zop_isN : OpR X (compareOp .Is) rIsNn := op_isN
theorem zop_notN : OpR X (compareOp .IsNot) rIsNt := op_notN
theorem plain_bool {x : V} {v : Value} {b : Bool} (r : RelV x v) : plainIs v (.bool b) = true := by
  cases x with
  | non => cases (show v = _ from r); rfl
  | bl c => cases (show v = _ from r); rfl
  | int i => obtain ⟨t, e⟩ := (show ∃ t, v = _ from r); subst e; rfl
  | str i => obtain ⟨t, e⟩ := (show ∃ t, v = _ from r); subst e; rfl
  | byt i => obtain ⟨t, e⟩ := (show ∃ t, v = _ from r); subst e; rfl
  | flt i => obtain ⟨t, e⟩ := (show ∃ t, v = _ from r); subst e; rfl
  | ref a => cases (show v = _ from r); rfl
  | ty n => cases (show v = _ from r); rfl
theorem rel_bool {x : V} {v : Value} {b : Bool} (r : RelV x v) : (v = .bool b) ↔ x = .bl b := by
  constructor
  · intro z
    subst z
    cases x with
    | bl c => cases (show Value.bool b = Value.bool c from r); rfl
    | non => cases (show Value.bool b = _ from r)
    | int i => obtain ⟨t, e⟩ := (show ∃ t, Value.bool b = _ from r); cases e
    | str i => obtain ⟨t, e⟩ := (show ∃ t, Value.bool b = _ from r); cases e
    | byt i => obtain ⟨t, e⟩ := (show ∃ t, Value.bool b = _ from r); cases e
    | flt i => obtain ⟨t, e⟩ := (show ∃ t, Value.bool b = _ from r); cases e
    | ref a => cases (show Value.bool b = _ from r)
    | ty n => cases (show Value.bool b = _ from r)
  · intro z
    subst z
    exact r
theorem zop_isB : OpR X (compareOp .Is) rIsBv := by
  intro pins s σ H x y v u Q I rx ry h
  obtain ⟨b, rfl, q⟩ := h
  cases (show u = Value.bool b from ry)
  by_cases e : x = .bl b
  · have e2 := (rel_bool (b := b) rx).mpr e
    subst e2
    exact wpAny_is_self rfl ⟨.bl true, H, I, rfl, by rw [decide_eq_true e] at q; exact q⟩
  · exact wpAny_is_other (plain_bool rx) (fun z => e ((rel_bool rx).mp z)) ⟨.bl false, H, I, rfl, by rw [decide_eq_false e] at q; exact q⟩
theorem zop_isNotB : OpR X (compareOp .IsNot) rIsNtBv := by
  intro pins s σ H x y v u Q I rx ry h
  obtain ⟨b, rfl, q⟩ := h
  cases (show u = Value.bool b from ry)
  by_cases e : x = .bl b
  · have e2 := (rel_bool (b := b) rx).mpr e
    subst e2
    exact wpAny_isNot_self rfl ⟨.bl false, H, I, rfl, by rw [decide_eq_true e] at q; exact q⟩
  · exact wpAny_isNot_other (plain_bool rx) (fun z => e ((rel_bool rx).mp z)) ⟨.bl true, H, I, rfl, by rw [decide_eq_false e] at q; exact q⟩
theorem zop_mulS : OpR X (binaryOp .Mult) rMulSt := by
  intro pins s σ H x y v u Q I rx ry h
  obtain ⟨i, j, rfl, rfl, hi, hj, q⟩ := h
  obtain ⟨t, rfl⟩ := rx
  obtain ⟨t', rfl⟩ := ry
  exact PySem.W.KXi.mul rfl hi hj.1 hj.2 fun t' tk _ _ => ⟨.str (Txt.mul i j), H, I.tok _, ⟨_, rfl⟩, q⟩
theorem zop_cat : OpR X (binaryOp .Add) zCat := op_cat
theorem zop_catA : OpR X (binaryOp .Add) (zCatA X.K) := op_catA
theorem zset_list : PSet X zSetL := set_list
theorem zmt_append : MtR X "list.append" zAppend := mt_append
theorem zop_catAK {K : PySem.W.Frag} (h : X.K = K) : OpR X (binaryOp .Add) (zCatA K) := h ▸ zop_catA
theorem op_in_seqK {K : PySem.W.Frag} (h : X.K = K) : OpR X (compareOp .In) (rIn K false) := h ▸ op_in_seq
theorem op_notIn_seqK {K : PySem.W.Frag} (h : X.K = K) : OpR X (compareOp .NotIn) (rIn K true) := h ▸ op_notIn_seq
theorem ix_listK {K : PySem.W.Frag} (h : X.K = K) : IxR X (rIxL K) := h ▸ ix_list
theorem ix_tupK {K : PySem.W.Frag} (h : X.K = K) : IxR X (rIxT K) := h ▸ ix_tup
theorem zc_lenK {K : PySem.W.Frag} (h : X.K = K) : CallR X (.builtin "len") (cLen K) := h ▸ call_len
theorem cr_sumK {K : PySem.W.Frag} (hc : X.calm = true) (h : X.K = K) : CallR X (.builtin "sum") (rSum K) := h ▸ cr_sum hc
theorem zc_int : CallR X (.type "int") cInt := call_int1
theorem zc_tup : CallR X (.type "tuple") (cTup X.K) := call_tuple_of
theorem zc_len : CallR X (.builtin "len") (cLen X.K) := call_len
theorem zc_lenD : CallR X (.builtin "len") cLenD := call_lenD
theorem zc_dictD : CallR X (.type "dict") cDictD := call_dictD
theorem zc_sortD (hc : X.calm = true) : CallR X (.builtin "sorted") cSortD := by
  intro pins s σ H xs us Q I r h
  obtain ⟨a, kvs, ks, e, h1, h2, h3, q⟩ := h
  exact call_sortedD hc pins s σ H xs us Q I r ⟨a, kvs, ks, e, h1, h2, h3, fun ys p hp hs np => q ys hp hs p np⟩
end
end Zk

set_option Elab.async false
set_option linter.all false
set_option maxRecDepth 100000
namespace Zk
open PySem PySem.Spec L2
open PyProof.Rows hiding St

theorem nm1 {a p : Addr} (h : a ≠ p) : a ∉ [p] := fun z => h (List.mem_singleton.mp z)
theorem nm2 {a p q : Addr} (h : a ≠ p) (g : a ≠ q) : a ∉ [p, q] := fun z => by
  rcases List.mem_cons.mp z with z | z
  · exact h z
  · exact g (List.mem_singleton.mp z)
theorem Ext.get {M : List Addr} {H H' : Hp} (e : Ext M H H') {a : Addr} {o : HO} (h : H a = some o) (n : a ∉ M ∨ Imm o) : H' a = some o :=
  n.elim (e.keep a o h) (e.imm a o h)

theorem at_some {α : Type} {xs : List α} {r : Int} (h0 : 0 ≤ r) (h1 : r < (xs.length : Int)) : ∃ v, atI xs r = some v ∧ xs[r.toNat]? = some v := by
  have hl : r.toNat < xs.length := by omega
  refine ⟨xs[r.toNat], ?_, List.getElem?_eq_getElem hl⟩
  have h := atI_nat (xs := xs) (j := r.toNat) (List.getElem?_eq_getElem hl)
  rw [Int.toNat_of_nonneg h0] at h
  exact h
theorem at_map {α : Type} {f : α → V} {xs : List α} {r : Int} (h0 : 0 ≤ r) (h1 : r < (xs.length : Int)) : ∃ v, v ∈ xs ∧ atI (xs.map f) r = some (f v) := by
  obtain ⟨v, h, g⟩ := at_some (xs := xs.map f) h0 (by rw [List.length_map]; exact h1)
  rw [List.getElem?_map, Option.map_eq_some_iff] at g
  obtain ⟨y, hy, e⟩ := g
  subst e
  exact ⟨y, List.mem_of_getElem? hy, h⟩

theorem str_app_inj {z : Str} {c d : Nat} (h : z ++ (⟨#[c]⟩ : Str) = z ++ (⟨#[d]⟩ : Str)) : c = d := by
  have h1 : z.cps ++ #[c] = z.cps ++ #[d] := congrArg Str.cps h
  have h2 := congrArg Array.toList h1
  simp at h2
  exact h2
theorem str_len_append (a b : Str) : (a ++ b).length = a.length + b.length := Array.size_append
theorem str_len_join {sep : Str} (h0 : sep.length = 0) : ∀ ys : List Str, (Txt.join sep ys).length = (ys.map (·.length)).sum := by
  intro ys
  show (Builtin.Str.glued sep ys).length = _
  rw [StrLaws.glued_eq_join]
  induction ys with
  | nil => rfl
  | cons x r ih =>
    cases r with
    | nil => simp [Str.join]
    | cons y r =>
      show (x ++ sep ++ Str.join sep (y :: r)).length = _
      rw [str_len_append, str_len_append, ih, h0]
      simp
theorem str_len_mul {x : Str} {n : Int} (h : 0 ≤ n) : (Txt.mul x n).length = x.length * n.toNat := by
  have e := PyProof.Rows.len_mul x n
  rw [if_neg (by simp; omega)] at e
  have : (x.length : Int) * n = ((x.length * n.toNat : Nat) : Int) := by
    rw [Int.natCast_mul, Int.toNat_of_nonneg h]
  omega
theorem nodup_len {α : Type} [DecidableEq α] : ∀ {l m : List α}, l.Nodup → (∀ x ∈ l, x ∈ m) → l.length ≤ m.length
  | [], m, _, _ => Nat.zero_le _
  | x :: l, m, hn, hs => by
    obtain ⟨h1, h2⟩ := List.nodup_cons.mp hn
    have hx := hs x List.mem_cons_self
    have ih := nodup_len (l := l) (m := m.erase x) h2 fun y hy => by
      have ne : y ≠ x := fun z => h1 (z ▸ hy)
      exact (List.mem_erase_of_ne ne).mpr (hs y (List.mem_cons_of_mem _ hy))
    rw [List.length_erase_of_mem hx] at ih
    have : 0 < m.length := List.length_pos_of_mem hx
    show l.length + 1 ≤ m.length
    omega

theorem paired_snoc {α β : Type} {R : α → β → Prop} {x : α} {y : β} (r : R x y) : ∀ {xs : List α} {ys : List β}, Paired R xs ys → Paired R (xs ++ [x]) (ys ++ [y])
  | _, _, .nil => .cons r .nil
  | _, _, .cons h t => .cons h (paired_snoc r t)
theorem paired_at {α β : Type} {R : α → β → Prop} : ∀ {xs : List α} {ys : List β} {i : Nat} {x : α}, Paired R xs ys → xs[i]? = some x → ∃ y, ys[i]? = some y ∧ R x y
  | _, _, _, _, .nil, e => by simp at e
  | _, _, 0, _, .cons r _, e => by simp at e; subst e; exact ⟨_, rfl, r⟩
  | _, _, i + 1, x, .cons _ t, e => by
    obtain ⟨y, h1, h2⟩ := paired_at (i := i) (x := x) t (by simpa using e)
    exact ⟨y, by simpa using h1, h2⟩
theorem paired_len {α β : Type} {R : α → β → Prop} : ∀ {xs : List α} {ys : List β}, Paired R xs ys → xs.length = ys.length
  | _, _, .nil => rfl
  | _, _, .cons _ t => congrArg (· + 1) (paired_len t)
theorem at_nat0 {α : Type} {xs : List α} {i : Nat} {v : α} (h : xs[i]? = some v) : atI xs (0 + (i : Int)) = some v := by
  rw [Int.zero_add]
  exact atI_nat h
theorem get_snoc {α : Type} {xs : List α} {x : α} {i : Nat} (h : xs.length = i) : (xs ++ [x])[i]? = some x := by
  subst h
  simp
theorem Ext.dropq {M : List Addr} {H H1 H2 : Hp} {p : Addr} (a : Ext M H H1) (b : Ext [p] H1 H2) (np : H p = none) : Ext M H H2 :=
  a.drop (p := p) (b.mono fun _ z => List.mem_cons.mpr (.inl (List.mem_singleton.mp z))) np

/-! ### promises by the number of arguments -/
def sp0 (P : Hp → VK → Prop) : Sp := fun vs H Q _ => vs = [] ∧ P H Q
def sp1 (P : V → Hp → VK → Prop) : Sp := fun vs H Q _ => ∃ a, vs = [a] ∧ P a H Q
def sp2 (P : V → V → Hp → VK → Prop) : Sp := fun vs H Q _ => ∃ a b, vs = [a, b] ∧ P a b H Q
def sp3 (P : V → V → V → Hp → VK → Prop) : Sp := fun vs H Q _ => ∃ a b c, vs = [a, b, c] ∧ P a b c H Q
def sp4 (P : V → V → V → V → Hp → VK → Prop) : Sp := fun vs H Q _ => ∃ a b c d, vs = [a, b, c, d] ∧ P a b c d H Q
theorem w_sp1 {P : V → Hp → VK → Prop} {a H Q E} (h : P a H Q) : sp1 P ([a] ++ []) H Q E := ⟨a, rfl, h⟩
theorem w_sp2 {P : V → V → Hp → VK → Prop} {a b H Q E} (h : P a b H Q) : sp2 P ([a, b] ++ []) H Q E := ⟨a, b, rfl, h⟩
theorem w_sp3 {P : V → V → V → Hp → VK → Prop} {a b c H Q E} (h : P a b c H Q) : sp3 P ([a, b, c] ++ []) H Q E := ⟨a, b, c, rfl, h⟩
theorem w_sp4 {P : V → V → V → V → Hp → VK → Prop} {a b c d H Q E} (h : P a b c d H Q) : sp4 P ([a, b, c, d] ++ []) H Q E := ⟨a, b, c, d, rfl, h⟩
theorem len1 {P : V → Hp → VK → Prop} {x : Str} : ∀ vs H Q E, sp1 P vs H Q E → vs.length = [x].length := fun _ _ _ _ ⟨_, e, _⟩ => e ▸ rfl
theorem len2 {P : V → V → Hp → VK → Prop} {x y : Str} : ∀ vs H Q E, sp2 P vs H Q E → vs.length = [x, y].length := fun _ _ _ _ ⟨_, _, e, _⟩ => e ▸ rfl
theorem len3 {P : V → V → V → Hp → VK → Prop} {x y z : Str} : ∀ vs H Q E, sp3 P vs H Q E → vs.length = [x, y, z].length := fun _ _ _ _ ⟨_, _, _, e, _⟩ => e ▸ rfl
theorem len4 {P : V → V → V → V → Hp → VK → Prop} {x y z u : Str} : ∀ vs H Q E, sp4 P vs H Q E → vs.length = [x, y, z, u].length := fun _ _ _ _ ⟨_, _, _, _, e, _⟩ => e ▸ rfl

/-! ### one step of a reading -/
section
variable {σ : St} {H : Hp} {Q : VK} {QB : Bool → Hp → Prop} {QL : List V → Hp → Prop} {v x y : V} {ta tb tc te : TE} {tt tu : TT} {tl : TA} {t u : TS} {r : R2} {K : PySem.W.Frag} {i : Nat} {nx bk ct : St → Hp → Prop} {rt : VK} {a b : Addr}
theorem w_var (h : σ[i]? = some (some v)) (q : Q v H) : tVar i σ H Q := ⟨v, h, q⟩
theorem w_c (q : Q v H) : tC v σ H Q := q
theorem w_op (h : ta σ H fun x H1 => tb σ H1 fun y H2 => r x y H2 Q) : tOp r ta tb σ H Q := h
theorem w_un {r : V → Hp → VK → Prop} (h : ta σ H fun x H1 => r x H1 Q) : tUn r ta σ H Q := h
theorem w_rU {g : Int → V} {j : Int} (q : Q (g j) H) : rU g (.int j) H Q := ⟨j, rfl, q⟩
theorem w_I0 {g : Int → Int → V} {i j : Int} (q : Q (g i j) H) : rI0 g (.int i) (.int j) H Q := ⟨i, j, rfl, rfl, q⟩
theorem w_I {C : Int → Int → Prop} {g : Int → Int → V} {i j : Int} (c : C i j) (q : Q (g i j) H) : rI C g (.int i) (.int j) H Q := ⟨i, j, rfl, rfl, c, q⟩
theorem w_modA {i j : Int} (c : 0 < j) (q : ∀ r, 0 ≤ r → r < j → Q (.int r) H) : rI (fun _ j => 0 < j) (fun i j => .int (i % j)) (.int i) (.int j) H Q := ⟨i, j, rfl, rfl, c, q _ (Int.emod_nonneg i (by omega)) (Int.emod_lt_of_pos i c)⟩
theorem w_eq (c : scal x y = true) (q : Q (.bl (decide (x = y))) H) : rEq x y H Q := ⟨c, q⟩
theorem w_ne (c : scal x y = true) (q : Q (.bl (!decide (x = y))) H) : rNe x y H Q := ⟨c, q⟩
theorem w_eqI {i j : Int} (q : Q (.bl (decide (i = j))) H) : rEq (.int i) (.int j) H Q := ⟨rfl, by rw [show decide (V.int i = V.int j) = decide (i = j) by simp]; exact q⟩
theorem w_neI {i j : Int} (q : Q (.bl (!decide (i = j))) H) : rNe (.int i) (.int j) H Q := ⟨rfl, by rw [show decide (V.int i = V.int j) = decide (i = j) by simp]; exact q⟩
theorem w_eqS {i j : Str} (q : Q (.bl (decide (i = j))) H) : rEq (.str i) (.str j) H Q := ⟨rfl, by rw [show decide (V.str i = V.str j) = decide (i = j) by simp]; exact q⟩
theorem w_neS {i j : Str} (q : Q (.bl (!decide (i = j))) H) : rNe (.str i) (.str j) H Q := ⟨rfl, by rw [show decide (V.str i = V.str j) = decide (i = j) by simp]; exact q⟩
theorem w_isN (q : Q (.bl (decide (x = .non))) H) : rIsNn x .non H Q := ⟨rfl, q⟩
theorem w_isNt (q : Q (.bl (!decide (x = .non))) H) : rIsNt x .non H Q := ⟨rfl, q⟩
theorem w_isB {c : Bool} (q : Q (.bl (decide (x = .bl c))) H) : rIsBv x (.bl c) H Q := ⟨c, rfl, q⟩
theorem w_isNtB {c : Bool} (q : Q (.bl (!decide (x = .bl c))) H) : rIsNtBv x (.bl c) H Q := ⟨c, rfl, q⟩
theorem w_ltS {i j : Str} (q : Q (.bl (decide (i.cps.toList < j.cps.toList))) H) : rLtS (.str i) (.str j) H Q := ⟨i, j, rfl, rfl, q⟩
theorem w_addS {i j : Str} (c : i.length + j.length ≤ sizeLine) (q : Q (.str (i ++ j)) H) : rAddSt (.str i) (.str j) H Q := ⟨i, j, rfl, rfl, c, q⟩
theorem w_mulS {i : Str} {j : Int} (c : i.length ≤ 16) (d : -(2 ^ 63 : Int) ≤ j ∧ j ≤ 1048576) (q : Q (.str (Txt.mul i j)) H) : rMulSt (.str i) (.int j) H Q := ⟨i, j, rfl, rfl, c, d, q⟩
theorem w_ixL {xs : List V} {j : Int} (h : SqL K H a xs) (e : atI xs j = some v) (q : Q v H) : rIxL K (.ref a) (.int j) H Q := ⟨a, xs, j, v, rfl, rfl, h, e, q⟩
theorem w_ixT {xs : List V} {j : Int} (h : SqT K H a xs) (e : atI xs j = some v) (q : Q v H) : rIxT K (.ref a) (.int j) H Q := ⟨a, xs, j, v, rfl, rfl, h, e, q⟩
theorem w_ixS {z : Str} {j : Int} {c : Nat} (h : z.length ≤ sizeLine) (e : atI z.cps.toList j = some c) (q : Q (.str ⟨#[c]⟩) H) : rIxS (.str z) (.int j) H Q := ⟨z, j, c, rfl, rfl, h, e, q⟩
theorem w_inL {neg : Bool} {xs : List V} (h : SqL K H a xs) (f : flatV x = true) (g : xs.all flatV = true) (q : Q (.bl (if neg then !inV x xs else inV x xs)) H) : rIn K neg x (.ref a) H Q := ⟨a, xs, rfl, .inl h, f, g, q⟩
theorem w_inT {neg : Bool} {xs : List V} (h : SqT K H a xs) (f : flatV x = true) (g : xs.all flatV = true) (q : Q (.bl (if neg then !inV x xs else inV x xs)) H) : rIn K neg x (.ref a) H Q := ⟨a, xs, rfl, .inr h, f, g, q⟩
theorem w_cat {xs zs : List V} (h : H a = some (.lst xs)) (g : H b = some (.lst zs)) (c : xs.length + zs.length ≤ sizeLine) (q : Alc (.lst (xs ++ zs)) H Q) : zCat (.ref a) (.ref b) H Q := ⟨a, b, xs, zs, rfl, rfl, h, g, c, q⟩
theorem w_setL {xs : List V} {k : Int} {j : Nat} {Q : Hp → Prop} (h : H a = some (.lst xs)) (e : ixN xs.length k = some j) (q : Chg a (.lst (xs.set j v)) H Q) : zSetL (.ref a) (.int k) v H Q := ⟨a, xs, k, j, rfl, rfl, h, e, q⟩
theorem w_append {xs : List V} (h : H a = some (.lst xs)) (c : xs.length < sizeLine) (q : Chg a (.lst (xs ++ [y])) H (Q .non)) : zAppend (.ref a) [y] H Q := ⟨a, xs, y, rfl, rfl, h, c, q⟩
theorem w_m1 {r : V → List V → Hp → VK → Prop} (h : ta σ H fun x H1 => (∃ a, x = .str a) ∧ tb σ H1 fun y H2 => r x [y] H2 Q) : tM1 r ta tb σ H Q := h
theorem w_str {s : Str} {R : Prop} (h : R) : (∃ a, V.str s = .str a) ∧ R := ⟨⟨s, rfl⟩, h⟩
theorem w_join {s : Str} {ys : List Str} (h : SqL K H a (ys.map V.str)) (c : (ys.map (·.length)).sum + ys.length * s.length ≤ 16777216) (q : Q (.str (Txt.join s ys)) H) : rJoin K (.str s) [.ref a] H Q := ⟨s, a, ys, rfl, rfl, .inl h, c, q⟩
theorem inV_str {z : Str} {ns : List Str} : inV (.str z) (ns.map V.str) = decide (z ∈ ns) := by
  unfold inV
  induction ns with
  | nil => rfl
  | cons a r ih =>
    rw [List.map_cons, List.any_cons, ih]
    show (a == z || decide (z ∈ r)) = _
    by_cases h : a = z
    · subst h; simp
    · have h2 : ¬ z = a := fun e => h e.symm
      simp [h, h2]
theorem flat_str : ∀ ns : List Str, (ns.map V.str).all flatV = true
  | [] => rfl
  | _ :: r => by rw [List.map_cons, List.all_cons, flat_str r]; rfl
theorem w_inS {z : Str} {ns : List Str} (h : SqL K H a (ns.map V.str) ∨ SqT K H a (ns.map V.str)) (q : Q (.bl (decide (z ∈ ns))) H) : rIn K false (.str z) (.ref a) H Q :=
  ⟨a, _, rfl, h, rfl, flat_str ns, by rw [if_neg Bool.false_ne_true, inV_str]; exact q⟩
theorem w_ninS {z : Str} {ns : List Str} (h : SqL K H a (ns.map V.str) ∨ SqT K H a (ns.map V.str)) (q : Q (.bl (!decide (z ∈ ns))) H) : rIn K true (.str z) (.ref a) H Q :=
  ⟨a, _, rfl, h, rfl, flat_str ns, by rw [if_pos rfl, inV_str]; exact q⟩
theorem w_bm {T : String} {r : V → List V → Hp → VK → Prop} (h : ta σ H fun x H1 => tyV K T x H1 ∧ tl σ H1 fun xs H2 => r x xs H2 Q) : tBM K T r ta tl σ H Q := h
theorem w_bm0 {T : String} {r : V → List V → Hp → VK → Prop} (h : ta σ H fun x H1 => tyV K T x H1 ∧ r x [] H1 Q) : tBM0 K T r ta σ H Q := h
theorem w_tyL {xs : List V} {R : Prop} (h : SqL K H a xs) (q : R) : tyV K "list" (.ref a) H ∧ R := ⟨.inl ⟨rfl, xs, h⟩, q⟩
/-! tests -/
theorem w_test (h : te σ H fun x H1 => ∃ k, x = .bl k ∧ QB k H1) : tTest te σ H QB := h
theorem w_tB (h : te σ H fun x H1 => ∃ k, x = .bl k ∧ QB k H1) : tB te σ H QB := h
theorem w_bl {k : Bool} {P : Bool → Prop} (q : P k) : ∃ c, V.bl k = .bl c ∧ P c := ⟨k, rfl, q⟩
theorem w_and (h : tt σ H fun c H1 => if c = true then tu σ H1 QB else QB false H1) : tAnd tt tu σ H QB := h
theorem w_or (h : tt σ H fun c H1 => if c = true then QB true H1 else tu σ H1 QB) : tOr tt tu σ H QB := h
theorem w_not (h : tt σ H fun c H1 => QB (!c) H1) : tNot tt σ H QB := h
theorem w_andV (h : ta σ H fun x H1 => ∃ c, x = .bl c ∧ if c = true then tb σ H1 Q else Q (.bl false) H1) : tAndV ta tb σ H Q := h
theorem w_orV (h : ta σ H fun x H1 => ∃ c, x = .bl c ∧ if c = true then Q (.bl true) H1 else tb σ H1 Q) : tOrV ta tb σ H Q := h
theorem w_notV (h : ta σ H fun x H1 => ∃ c, x = .bl c ∧ Q (.bl (!c)) H1) : tNotV ta σ H Q := h
theorem w_if (h : tt σ H fun c H1 => if c = true then ta σ H1 Q else tb σ H1 Q) : tIf tt ta tb σ H Q := h
theorem w_yes (q : QB true H) : tYes σ H QB := q
/-! arguments, displays, calls -/
theorem w_nil (q : QL [] H) : tNil σ H QL := q
theorem w_cons (h : te σ H fun x H1 => tl σ H1 fun xs H2 => QL (x :: xs) H2) : tCons te tl σ H QL := h
theorem w_tup (h : tl σ H fun xs H1 => xs.length ≤ sizeLine ∧ Alc (.tup xs) H1 Q) : zTup tl σ H Q := h
theorem w_lst (h : tl σ H fun xs H1 => xs.length ≤ sizeLine ∧ Alc (.lst xs) H1 Q) : zLst tl σ H Q := h
theorem w_dnewK (h : Alc (.dK []) H Q) : zDNewK σ H Q := h
theorem w_dnewT (h : Alc (.dT []) H Q) : zDNewT σ H Q := h
theorem w_cb {r : RC} (h : tl σ H fun vs H1 => r vs H1 Q) : tCB r tl σ H Q := h
theorem w_call {sp : Sp} {dvs : List V} {E : XK} (h : tl σ H fun vs H1 => sp (vs ++ dvs) H1 Q E) : tCall sp dvs E tl σ H Q := h
theorem w_int {j : Int} (q : Q (.int j) H) : cInt [.int j] H Q := .inl ⟨j, rfl, q⟩
theorem w_lenL {xs : List V} (h : SqL K H a xs) (q : Q (.int (xs.length : Int)) H) : cLen K [.ref a] H Q := ⟨_, _, rfl, .inl ⟨xs, h, rfl⟩, q⟩
theorem w_lenT {xs : List V} (h : SqT K H a xs) (q : Q (.int (xs.length : Int)) H) : cLen K [.ref a] H Q := ⟨_, _, rfl, .inr ⟨xs, h, rfl⟩, q⟩
theorem w_lenD {kvs : List (Key × V)} (h : H a = some (.dK kvs)) (q : Q (.int (kvs.length : Int)) H) : cLenD [.ref a] H Q := ⟨_, _, rfl, h, q⟩
theorem w_tupL {xs : List V} (h : SqL K H a xs) (q : Alc (.tup xs) H Q) : cTup K [.ref a] H Q := ⟨a, xs, rfl, .inl ⟨h, q⟩⟩
theorem w_dictD {kvs : List (Key × V)} (h : H a = some (.dK kvs)) (q : Alc (.dK kvs) H Q) : cDictD [.ref a] H Q := ⟨a, kvs, rfl, .inl h, q⟩
theorem w_sum {ns : List Int} (h : SqL K H a (ns.map V.int)) (q : Q (.int ns.sum) H) : rSum K [.ref a] H Q := ⟨a, ns, rfl, h, q⟩
theorem w_isi {c : V} {t w : Value} {k : Bool} (cl : ClsV c w) (ty : TyX K H x t) (e : PySem.W.kitOne K t w = some k) (q : Q (.bl k) H) : rIsi K [x, c] H Q := ⟨x, c, t, w, k, rfl, cl, ty, e, q⟩
theorem w_dget (h : ta σ H fun x H1 => tb σ H1 fun y H2 => ∃ a v, x = .ref a ∧ DGet H2 a y (some v) ∧ Q v H2) : tDGet ta tb σ H Q := h
theorem w_dgetS {kvs : List (Key × V)} {z : Str} {P : V → Prop} (h : H a = some (.dK kvs)) (e : valV kvs (Sum.inr z : Key) = some v) (q : P v) : ∃ b u, V.ref a = .ref b ∧ DGet H b (.str z) (some u) ∧ P u := ⟨a, v, rfl, by rw [← e]; exact DGet.k (k := Sum.inr z) h, q⟩
theorem w_din (h : ta σ H fun y H1 => tb σ H1 fun x H2 => ∃ a o, x = .ref a ∧ DGet H2 a y o ∧ Q (.bl o.isSome) H2) : tDIn ta tb σ H Q := h
theorem w_dnotin (h : ta σ H fun y H1 => tb σ H1 fun x H2 => ∃ a o, x = .ref a ∧ DGet H2 a y o ∧ Q (.bl (!o.isSome)) H2) : tDNotIn ta tb σ H Q := h
/-! statements -/
theorem w_seq (h : t ⟨u ⟨nx, rt, bk, ct⟩, rt, bk, ct⟩ σ H) : tSeq t u ⟨nx, rt, bk, ct⟩ σ H := h
theorem w_next (q : nx σ H) : tNext ⟨nx, rt, bk, ct⟩ σ H := q
theorem w_break (q : bk σ H) : tBreak ⟨nx, rt, bk, ct⟩ σ H := q
theorem w_cont (q : ct σ H) : tCont ⟨nx, rt, bk, ct⟩ σ H := q
theorem w_asg {g : TG} (h : te σ H fun x H1 => g x σ H1 nx) : tAsg te g ⟨nx, rt, bk, ct⟩ σ H := h
theorem w_gname {N : St → Hp → Prop} (q : N (σ.set i (some v)) H) : gName i v σ H N := q
theorem w_gsub {N : St → Hp → Prop} {s : TSet} (h : ta σ H fun o H1 => tb σ H1 fun i H2 => s o i v H2 fun H3 => N σ H3) : gSub ta tb s v σ H N := h
theorem w_drop (h : te σ H fun _ H1 => nx σ H1) : tDrop te ⟨nx, rt, bk, ct⟩ σ H := h
theorem w_ret (h : te σ H rt) : tRet te ⟨nx, rt, bk, ct⟩ σ H := h
theorem w_retN (h : rt .non H) : tRetN ⟨nx, rt, bk, ct⟩ σ H := h
theorem w_ifS (h : tt σ H fun b H1 => if b = true then t ⟨nx, rt, bk, ct⟩ σ H1 else u ⟨nx, rt, bk, ct⟩ σ H1) : tIfS tt t u ⟨nx, rt, bk, ct⟩ σ H := h
theorem w_cut (P : St → Hp → Prop) (h : ∀ σ' H', P σ' H' → nx σ' H') (g : ∀ nx', (∀ σ' H', P σ' H' → nx' σ' H') → tIfS tt t u ⟨nx', rt, bk, ct⟩ σ H) : tIfS tt t u ⟨nx, rt, bk, ct⟩ σ H := g nx h
theorem w_cutA {g : TG} (P : St → Hp → Prop) (h : ∀ σ' H', P σ' H' → nx σ' H') (k : ∀ nx', (∀ σ' H', P σ' H' → nx' σ' H') → tAsg te g ⟨nx', rt, bk, ct⟩ σ H) : tAsg te g ⟨nx, rt, bk, ct⟩ σ H := k nx h
theorem w_cutE (P : V → Hp → Prop) (h : ∀ v H', P v H' → Q v H') (k : ∀ Q' : VK, (∀ v H', P v H' → Q' v H') → tIf tt ta tb σ H Q') : tIf tt ta tb σ H Q := k Q h
theorem w_d {c A B : Prop} [Decidable c] (h1 : c → A) (h2 : ¬ c → B) : if decide c = true then A else B := ite2 (fun h => h1 (of_decide_eq_true h)) fun h => h2 fun z => h (decide_eq_true z)
theorem w_nd {c A B : Prop} [Decidable c] (h1 : ¬ c → A) (h2 : c → B) : if (!decide c) = true then A else B := ite2 (fun h => h1 fun z => by rw [decide_eq_true z] at h; cases h) fun h => h2 (by
  by_cases z : c
  · exact z
  · rw [decide_eq_false z] at h; exact absurd rfl h)
theorem w_b {c : Bool} {A B : Prop} (h1 : c = true → A) (h2 : c = false → B) : if c = true then A else B := by cases c with | true => exact iteT (h1 rfl) | false => exact iteF (h2 rfl)
theorem w_nb {c : Bool} {A B : Prop} (h1 : c = false → A) (h2 : c = true → B) : if (!c) = true then A else B := by cases c with | true => exact iteF (h2 rfl) | false => exact iteT (h1 rfl)
theorem w_for {wi : TI} {g : TG} (h : wi σ H fun J H1 => ∃ W : Nat → Nat → St → Hp → Prop, (∃ m, W 0 m σ H1) ∧ ∀ i m σ H, W i m σ H →
  (J.stop i H ∧ nx σ H) ∨ (J.go i H ∧ ∃ N : St → Hp → Prop, (∀ σ' H', N σ' H' → ∃ m', m' < m ∧ W (i + 1) m' σ' H') ∧ ∀ x H', J.yld i H x H' → g x σ H' fun σ2 H2 => t ⟨N, rt, nx, N⟩ σ2 H2)) : tFor wi g t ⟨nx, rt, bk, ct⟩ σ H := h
theorem w_iList {R : It → Hp → Prop} (h : te σ H fun x H1 => ∃ a, x = .ref a ∧ (∃ xs, SqL K H1 a xs) ∧ R (Itl K a) H1) : iList K te σ H R := h
theorem w_iTup {R : It → Hp → Prop} (h : te σ H fun x H1 => ∃ a, x = .ref a ∧ (∃ xs, SqT K H1 a xs) ∧ R (Itt K a) H1) : iTup K te σ H R := h
theorem w_iRng1 {R : It → Hp → Prop} (h : tl σ H fun vs H1 => ∃ j : Int, vs = [.int j] ∧ -(2 ^ 62) ≤ j ∧ j < 2 ^ 62 ∧ R (Itr 0 j.toNat) H1) : iRng1 tl σ H R := h
theorem w_iRng2 {R : It → Hp → Prop} (h : tl σ H fun vs H1 => ∃ i j : Int, vs = [.int i, .int j] ∧ (-(2 ^ 62) ≤ i ∧ i < 2 ^ 62 ∧ -(2 ^ 62) ≤ j ∧ j < 2 ^ 62) ∧ R (Itr i (j - i).toNat) H1) : iRng2 tl σ H R := h
theorem w_iStr {R : It → Hp → Prop} (h : te σ H fun v H1 => ∃ x, v = .str x ∧ R (Its x) H1) : iStr te σ H R := h
theorem iteNF {A B : Prop} (h : A) : if (!false) = true then A else B := iteT h
theorem iteNT {A B : Prop} (h : B) : if (!true) = true then A else B := iteF h
theorem w_f {c : Bool} {A B : Prop} (h : c = false) (q : B) : if c = true then A else B := by rw [h]; exact iteF q
theorem w_t {c : Bool} {A B : Prop} (h : c = true) (q : A) : if c = true then A else B := by rw [h]; exact iteT q
theorem w_gtup {n : Nat} {g : TGs} {xs : List V} {N : St → Hp → Prop} (h : SqT K H a xs) (l : xs.length = n) (q : g xs σ H N) : gTup K n g (.ref a) σ H N := ⟨a, xs, rfl, h, l, q⟩
theorem w_gcons {g : TG} {gs : TGs} {r : List V} {N : St → Hp → Prop} (q : g v σ H fun σ' H' => gs r σ' H' N) : gCons g gs (v :: r) σ H N := ⟨v, r, rfl, q⟩
theorem w_gnil {N : St → Hp → Prop} (q : N σ H) : gNil [] σ H N := ⟨rfl, q⟩
theorem w_sdput (h : te σ H fun v H1 => ta σ H1 fun x H2 => tb σ H2 fun y H3 => ∃ a H4, x = .ref a ∧ DPut H3 a y v H4 ∧ nx σ H4) : sDPut ta tb te ⟨nx, rt, bk, ct⟩ σ H := h
theorem w_dputS {kvs : List (Key × V)} {z : Str} {N : Hp → Prop} (h : H a = some (.dK kvs)) (l : kvs.length < sizeLine) (k : ∀ H', Ext [a] H H' → H' a = some (.dK (putK kvs (Sum.inr z) v)) → N H') : ∃ b H4, V.ref a = .ref b ∧ DPut H b (.str z) v H4 ∧ N H4 :=
  ⟨a, _, rfl, DPut.k (k := Sum.inr z) h l, k _ (Ext.mut h (fun z => z) (List.mem_singleton.mpr rfl)) upd_same⟩
theorem w_sortD {kvs : List (Key × V)} {ks : List Str} (h : H a = some (.dK kvs)) (e : kvs.map (·.1) = ks.map Sum.inr) (l : ks.length < 64) (q : ∀ ys, ys.Perm ks → sortedS ys = true → Alc (.lst (ys.map V.str)) H Q) : cSortD [.ref a] H Q := ⟨a, kvs, ks, rfl, .inl h, e, l, q⟩
/-! a dict is locked while it is walked -/
structure Lk (d : Addr) (u : HO) (od : Obj) (H H1 : Hp) : Prop where
  was : H d = some u
  ni : ¬ Imm u
  eq : H1 = upd H d (.frz od u)
theorem Lk.at {d : Addr} {u : HO} {od : Obj} {H H1 : Hp} (L : Lk d u od H H1) : H1 d = some (.frz od u) := by rw [L.eq]; exact upd_same
theorem Lk.keep {d : Addr} {u : HO} {od : Obj} {H H1 : Hp} (L : Lk d u od H H1) {b : Addr} {o : HO} (h : H b = some o) (n : b ≠ d) : H1 b = some o := by rw [L.eq, upd_ne n]; exact h
theorem Lk.tup {d : Addr} {u : HO} {od : Obj} {H H1 : Hp} (L : Lk d u od H H1) {b : Addr} {xs : List V} (h : H b = some (.tup xs)) : H1 b = some (.tup xs) :=
  L.keep h fun z => L.ni (by subst z; have := L.was; rw [h] at this; cases this; trivial)
theorem Lk.frz {d : Addr} {u : HO} {od : Obj} {H H1 : Hp} (L : Lk d u od H H1) {b : Addr} {o : Obj} {x : HO} (h : H b = some (.frz o x)) : H1 b = some (.frz o x) :=
  L.keep h fun z => L.ni (by subst z; have := L.was; rw [h] at this; cases this; trivial)
theorem Lk.free {d : Addr} {u : HO} {od : Obj} {H H1 : Hp} (L : Lk d u od H H1) {b : Addr} (h : H1 b = none) : H b = none := by
  rw [L.eq] at h
  by_cases z : b = d
  · subst z; rw [upd_same] at h; cases h
  · rw [upd_ne z] at h; exact h
theorem Lk.scr {d : Addr} {u : HO} {od : Obj} {H H1 : Hp} (L : Lk d u od H H1) {b : Addr} {xs : List V} (h : Scr K H b xs) : Scr K H1 b xs := by
  rcases h with ⟨o, h⟩ | h
  · exact .inl ⟨o, L.frz h⟩
  · exact .inr h
theorem w_lock {d : Addr} {u : HO} (h : H d = some u) (m : Mut (some u)) (ni : ¬ Imm u) (k : ∀ od H1, Lk d u od H H1 → t ⟨fun σ' H' => H' d = some (.frz od u) ∧ nx σ' (upd H' d u), fun v H' => H' d = some (.frz od u) ∧ rt v (upd H' d u), fun σ' H' => H' d = some (.frz od u) ∧ bk σ' (upd H' d u), fun σ' H' => H' d = some (.frz od u) ∧ ct σ' (upd H' d u)⟩ σ H1) :
    tLock t ⟨nx, rt, bk, ct⟩ σ H := ⟨d, u, h, m, fun od => k od _ ⟨h, ni, rfl⟩⟩
theorem w_lockE {d : Addr} {u : HO} (h : H d = some u) (m : Mut (some u)) (ni : ¬ Imm u) (k : ∀ od H1, Lk d u od H H1 → te σ H1 fun v H' => H' d = some (.frz od u) ∧ Q v (upd H' d u)) : tLockE te σ H Q := ⟨d, u, h, m, fun od => k od _ ⟨h, ni, rfl⟩⟩
theorem w_unlock {d : Addr} {u : HO} {od : Obj} {H0 H1 : Hp} {M : List Addr} {N : Hp → Prop} (L : Lk d u od H0 H1) (e : Ext M H1 H) (k : ∀ H', Ext M H0 H' → (∀ b o, H b = some o → b ≠ d → H' b = some o) → N H') : H d = some (.frz od u) ∧ N (upd H d u) := by
  refine ⟨e.imm _ _ L.at trivial, k _ ?_ fun b o h n => by rw [upd_ne n]; exact h⟩
  have e' := e
  rw [L.eq] at e'
  exact Ext.lock L.was L.ni e'
theorem w_iKeys {R : It → Hp → Prop} (h : te σ H fun x H1 => ∃ d o, x = .ref d ∧ ((∃ kvs, H1 d = some (.frz o (.dK kvs)) ∧ R (Itk d o kvs) H1) ∨ ∃ kvs, H1 d = some (.frz o (.dT kvs)) ∧ R (Itkt d o kvs) H1)) : iKeys te σ H R := h
theorem w_keysK {kvs : List (Key × V)} {o : Obj} {R : It → Hp → Prop} (h : H a = some (.frz o (.dK kvs))) (q : R (Itk a o kvs) H) : ∃ d o, V.ref a = .ref d ∧ ((∃ kvs, H d = some (.frz o (.dK kvs)) ∧ R (Itk d o kvs) H) ∨ ∃ kvs, H d = some (.frz o (.dT kvs)) ∧ R (Itkt d o kvs) H) := ⟨a, o, rfl, .inl ⟨kvs, h, q⟩⟩
theorem w_keysV {kvs : List (Key × V)} {o : Obj} {R : It → Hp → Prop} (e : σ[i]? = some (some (.ref a))) (h : H a = some (.frz o (.dK kvs))) (q : R (Itk a o kvs) H) : iKeys (tVar i) σ H R := ⟨.ref a, e, a, o, rfl, .inl ⟨kvs, h, q⟩⟩
theorem w_dgetR {kvs : List (Key × V)} {z : Str} {P : V → Prop} (h : Rd H a (.dK kvs)) (e : valV kvs (Sum.inr z : Key) = some v) (q : P v) : ∃ b u, V.ref a = .ref b ∧ DGet H b (.str z) (some u) ∧ P u := ⟨a, v, rfl, .inl ⟨kvs, Sum.inr z, h, rfl, e.symm⟩, q⟩
theorem w_dinS {kvs : List (Key × V)} {z : Str} {P : Option V → Prop} (h : Rd H a (.dK kvs)) (q : P (valV kvs (Sum.inr z : Key))) : ∃ b o, V.ref a = .ref b ∧ DGet H b (.str z) o ∧ P o := ⟨a, _, rfl, .inl ⟨kvs, Sum.inr z, h, rfl, rfl⟩, q⟩
/-! loops by an invariant; what a turn is to reach is a letter -/
theorem z_for_list {xs : List V} {g : TG} (Pv : Nat → St → Hp → Prop) (h0 : Pv 0 σ H) (hl : ∀ i σ H, i ≤ xs.length → Pv i σ H → SqL K H a xs)
    (hs : ∀ (N : St → Hp → Prop) i x σ H, xs[i]? = some x → Pv i σ H → (∀ σ' H', Pv (i + 1) σ' H' → N σ' H') → g x σ H fun σ2 H2 => t ⟨N, rt, nx, N⟩ σ2 H2) (hd : ∀ σ H, Pv xs.length σ H → nx σ H) :
    ∃ W : Nat → Nat → St → Hp → Prop, (∃ m, W 0 m σ H) ∧ ∀ i m σ H, W i m σ H →
      ((Itl K a).stop i H ∧ nx σ H) ∨ ((Itl K a).go i H ∧ ∃ N : St → Hp → Prop, (∀ σ' H', N σ' H' → ∃ m', m' < m ∧ W (i + 1) m' σ' H') ∧ ∀ x H', (Itl K a).yld i H x H' → g x σ H' fun σ2 H2 => t ⟨N, rt, nx, N⟩ σ2 H2) :=
  for_list (D := ⟨nx, rt, nx, nx⟩) Pv h0 hl (fun i x σ H hx p => hs (Pv (i + 1)) i x σ H hx p fun _ _ q => q) hd
theorem z_for_tup {xs : List V} {g : TG} (Pv : Nat → St → Hp → Prop) (h0 : Pv 0 σ H) (hl : ∀ i σ H, i ≤ xs.length → Pv i σ H → SqT K H a xs)
    (hs : ∀ (N : St → Hp → Prop) i x σ H, xs[i]? = some x → Pv i σ H → (∀ σ' H', Pv (i + 1) σ' H' → N σ' H') → g x σ H fun σ2 H2 => t ⟨N, rt, nx, N⟩ σ2 H2) (hd : ∀ σ H, Pv xs.length σ H → nx σ H) :
    ∃ W : Nat → Nat → St → Hp → Prop, (∃ m, W 0 m σ H) ∧ ∀ i m σ H, W i m σ H →
      ((Itt K a).stop i H ∧ nx σ H) ∨ ((Itt K a).go i H ∧ ∃ N : St → Hp → Prop, (∀ σ' H', N σ' H' → ∃ m', m' < m ∧ W (i + 1) m' σ' H') ∧ ∀ x H', (Itt K a).yld i H x H' → g x σ H' fun σ2 H2 => t ⟨N, rt, nx, N⟩ σ2 H2) :=
  for_tup (D := ⟨nx, rt, nx, nx⟩) Pv h0 hl (fun i x σ H hx p => hs (Pv (i + 1)) i x σ H hx p fun _ _ q => q) hd
theorem z_for_range {lo : Int} {n : Nat} {g : TG} (Pv : Nat → St → Hp → Prop) (h0 : Pv 0 σ H)
    (hs : ∀ (N : St → Hp → Prop) i σ H, i < n → Pv i σ H → (∀ σ' H', Pv (i + 1) σ' H' → N σ' H') → g (.int (lo + i)) σ H fun σ2 H2 => t ⟨N, rt, nx, N⟩ σ2 H2) (hd : ∀ σ H, Pv n σ H → nx σ H) :
    ∃ W : Nat → Nat → St → Hp → Prop, (∃ m, W 0 m σ H) ∧ ∀ i m σ H, W i m σ H →
      ((Itr lo n).stop i H ∧ nx σ H) ∨ ((Itr lo n).go i H ∧ ∃ N : St → Hp → Prop, (∀ σ' H', N σ' H' → ∃ m', m' < m ∧ W (i + 1) m' σ' H') ∧ ∀ x H', (Itr lo n).yld i H x H' → g x σ H' fun σ2 H2 => t ⟨N, rt, nx, N⟩ σ2 H2) :=
  for_range (D := ⟨nx, rt, nx, nx⟩) Pv h0 (fun i σ H hx p => hs (Pv (i + 1)) i σ H hx p fun _ _ q => q) hd
theorem z_for_str {z : Str} {g : TG} (Pv : Nat → St → Hp → Prop) (h0 : Pv 0 σ H)
    (hs : ∀ (N : St → Hp → Prop) i c σ H, z.cps[i]? = some c → Pv i σ H → (∀ σ' H', Pv (i + 1) σ' H' → N σ' H') → g (.str ⟨#[c]⟩) σ H fun σ2 H2 => t ⟨N, rt, nx, N⟩ σ2 H2) (hd : ∀ σ H, Pv z.cps.size σ H → nx σ H) :
    ∃ W : Nat → Nat → St → Hp → Prop, (∃ m, W 0 m σ H) ∧ ∀ i m σ H, W i m σ H →
      ((Its z).stop i H ∧ nx σ H) ∨ ((Its z).go i H ∧ ∃ N : St → Hp → Prop, (∀ σ' H', N σ' H' → ∃ m', m' < m ∧ W (i + 1) m' σ' H') ∧ ∀ x H', (Its z).yld i H x H' → g x σ H' fun σ2 H2 => t ⟨N, rt, nx, N⟩ σ2 H2) := by
  refine ⟨fun i m σ H => m = z.cps.size - i ∧ i ≤ z.cps.size ∧ Pv i σ H, ⟨_, rfl, Nat.zero_le _, h0⟩, ?_⟩
  rintro i m σ H ⟨rfl, hi, p⟩
  by_cases hlt : i < z.cps.size
  · refine .inr ⟨hlt, Pv (i + 1), fun σ' H' p' => ⟨z.cps.size - (i + 1), by omega, rfl, hlt, p'⟩, fun x H' y => ?_⟩
    obtain ⟨e, c, hc, rfl⟩ := y
    subst e
    exact hs (Pv (i + 1)) i c σ _ hc p fun _ _ q => q
  · have e : i = z.cps.size := by omega
    subst e
    exact .inl ⟨Nat.le_refl _, hd σ H p⟩
/-- over the keys of a locked dict -/
theorem z_for_keys {kvs : List (Key × V)} {d : Addr} {o : Obj} {g : TG} (Pv : Nat → St → Hp → Prop) (h0 : Pv 0 σ H) (hl : ∀ i σ H, i ≤ kvs.length → Pv i σ H → H d = some (.frz o (.dK kvs)))
    (hs : ∀ (N : St → Hp → Prop) i k v σ H, kvs[i]? = some (k, v) → Pv i σ H → (∀ σ' H', Pv (i + 1) σ' H' → N σ' H') → g (kV k) σ H fun σ2 H2 => t ⟨N, rt, nx, N⟩ σ2 H2) (hd : ∀ σ H, Pv kvs.length σ H → nx σ H) :
    ∃ W : Nat → Nat → St → Hp → Prop, (∃ m, W 0 m σ H) ∧ ∀ i m σ H, W i m σ H →
      ((Itk d o kvs).stop i H ∧ nx σ H) ∨ ((Itk d o kvs).go i H ∧ ∃ N : St → Hp → Prop, (∀ σ' H', N σ' H' → ∃ m', m' < m ∧ W (i + 1) m' σ' H') ∧ ∀ x H', (Itk d o kvs).yld i H x H' → g x σ H' fun σ2 H2 => t ⟨N, rt, nx, N⟩ σ2 H2) := by
  refine ⟨fun i m σ H => m = kvs.length - i ∧ i ≤ kvs.length ∧ Pv i σ H, ⟨_, rfl, Nat.zero_le _, h0⟩, ?_⟩
  rintro i m σ H ⟨rfl, hi, p⟩
  by_cases hlt : i < kvs.length
  · refine .inr ⟨⟨hl i σ H hi p, hlt⟩, Pv (i + 1), fun σ' H' p' => ⟨kvs.length - (i + 1), by omega, rfl, hlt, p'⟩, fun x H' y => ?_⟩
    obtain ⟨e, k, v, hk, rfl⟩ := y
    subst e
    exact hs (Pv (i + 1)) i k v σ _ hk p fun _ _ q => q
  · have e : i = kvs.length := by omega
    subst e
    exact .inl ⟨⟨hl _ σ H hi p, Nat.le_refl _⟩, hd σ H p⟩
/-! comprehensions -/
theorem w_lc {wi : TI} {g : TG} {vs : List Nat} (h : wi σ H fun J H1 => ∀ D, H1 D = none → ∃ W : Nat → Nat → Hp → Prop, (∃ m, W 0 m (upd H1 D (.lst []))) ∧ ∀ i m H, W i m H →
  (J.stop i H ∧ Q (.ref D) H) ∨ (J.go i H ∧ ∃ Nx : Hp → Prop, (∀ H', Nx H' → ∃ m', m' < m ∧ W (i + 1) m' H') ∧ ∀ x H', J.yld i H x H' → g x (wipe σ vs) H' fun σ2 H2 => wipe σ2 vs = wipe σ vs ∧ tt σ2 H2 fun b H3 =>
    if b = true then te σ2 H3 fun y H4 => ∃ acc, H4 D = some (.lst acc) ∧ acc.length < sizeLine ∧ Nx (upd H4 D (.lst (acc ++ [y]))) else Nx H3)) : tLc wi g tt te vs σ H Q := h
theorem w_app {Nx : Hp → Prop} {acc : List V} {D : Addr} (hD : H D = some (.lst acc)) (c : acc.length < sizeLine) (k : ∀ H', Ext [D] H H' → H' D = some (.lst (acc ++ [y])) → Nx H') :
    ∃ acc, H D = some (.lst acc) ∧ acc.length < sizeLine ∧ Nx (upd H D (.lst (acc ++ [y]))) := ⟨acc, hD, c, k _ (Ext.mut hD (fun z => z) (List.mem_singleton.mpr rfl)) upd_same⟩
theorem z_lc_list {xs : List V} {g : TG} {vs : List Nat} {D : Addr} {Qd : Hp → Prop} (Pv : Nat → List V → Hp → Prop) (nD : H D = none) (h0 : ∀ H', Ext [] H H' → Pv 0 [] H') (hl : ∀ i acc H, i ≤ xs.length → Pv i acc H → SqL K H a xs)
    (hs : ∀ (Nx : Hp → Prop) i x acc H, xs[i]? = some x → Pv i acc H → H D = some (.lst acc) → (∀ acc' H', Pv (i + 1) acc' H' → H' D = some (.lst acc') → Nx H') → g x (wipe σ vs) H fun σ2 H2 => wipe σ2 vs = wipe σ vs ∧ tt σ2 H2 fun b H3 =>
      if b = true then te σ2 H3 fun y H4 => ∃ acc, H4 D = some (.lst acc) ∧ acc.length < sizeLine ∧ Nx (upd H4 D (.lst (acc ++ [y]))) else Nx H3) (hd : ∀ acc H, Pv xs.length acc H → H D = some (.lst acc) → Qd H) :
    ∃ W : Nat → Nat → Hp → Prop, (∃ m, W 0 m (upd H D (.lst []))) ∧ ∀ i m H, W i m H →
      ((Itl K a).stop i H ∧ Qd H) ∨ ((Itl K a).go i H ∧ ∃ Nx : Hp → Prop, (∀ H', Nx H' → ∃ m', m' < m ∧ W (i + 1) m' H') ∧ ∀ x H', (Itl K a).yld i H x H' → g x (wipe σ vs) H' fun σ2 H2 => wipe σ2 vs = wipe σ vs ∧ tt σ2 H2 fun b H3 =>
        if b = true then te σ2 H3 fun y H4 => ∃ acc, H4 D = some (.lst acc) ∧ acc.length < sizeLine ∧ Nx (upd H4 D (.lst (acc ++ [y]))) else Nx H3) :=
  lc_list (fun i H => ∃ acc, Pv i acc H ∧ H D = some (.lst acc)) ⟨[], h0 _ (Ext.new nD), upd_same⟩ (fun i H hi ⟨acc, p, _⟩ => hl i acc H hi p)
    (fun i x H hx ⟨acc, p, hD⟩ => hs _ i x acc H hx p hD fun acc' H' p' h' => ⟨acc', p', h'⟩) fun H ⟨acc, p, hD⟩ => hd acc H p hD
theorem z_lc_tup {xs : List V} {g : TG} {vs : List Nat} {D : Addr} {Qd : Hp → Prop} (Pv : Nat → List V → Hp → Prop) (nD : H D = none) (h0 : ∀ H', Ext [] H H' → Pv 0 [] H') (hl : ∀ i acc H, i ≤ xs.length → Pv i acc H → SqT K H a xs)
    (hs : ∀ (Nx : Hp → Prop) i x acc H, xs[i]? = some x → Pv i acc H → H D = some (.lst acc) → (∀ acc' H', Pv (i + 1) acc' H' → H' D = some (.lst acc') → Nx H') → g x (wipe σ vs) H fun σ2 H2 => wipe σ2 vs = wipe σ vs ∧ tt σ2 H2 fun b H3 =>
      if b = true then te σ2 H3 fun y H4 => ∃ acc, H4 D = some (.lst acc) ∧ acc.length < sizeLine ∧ Nx (upd H4 D (.lst (acc ++ [y]))) else Nx H3) (hd : ∀ acc H, Pv xs.length acc H → H D = some (.lst acc) → Qd H) :
    ∃ W : Nat → Nat → Hp → Prop, (∃ m, W 0 m (upd H D (.lst []))) ∧ ∀ i m H, W i m H →
      ((Itt K a).stop i H ∧ Qd H) ∨ ((Itt K a).go i H ∧ ∃ Nx : Hp → Prop, (∀ H', Nx H' → ∃ m', m' < m ∧ W (i + 1) m' H') ∧ ∀ x H', (Itt K a).yld i H x H' → g x (wipe σ vs) H' fun σ2 H2 => wipe σ2 vs = wipe σ vs ∧ tt σ2 H2 fun b H3 =>
        if b = true then te σ2 H3 fun y H4 => ∃ acc, H4 D = some (.lst acc) ∧ acc.length < sizeLine ∧ Nx (upd H4 D (.lst (acc ++ [y]))) else Nx H3) :=
  lc_tup (fun i H => ∃ acc, Pv i acc H ∧ H D = some (.lst acc)) ⟨[], h0 _ (Ext.new nD), upd_same⟩ (fun i H hi ⟨acc, p, _⟩ => hl i acc H hi p)
    (fun i x H hx ⟨acc, p, hD⟩ => hs _ i x acc H hx p hD fun acc' H' p' h' => ⟨acc', p', h'⟩) fun H ⟨acc, p, hD⟩ => hd acc H p hD
theorem z_lc_range {lo : Int} {n : Nat} {g : TG} {vs : List Nat} {D : Addr} {Qd : Hp → Prop} (Pv : Nat → List V → Hp → Prop) (nD : H D = none) (h0 : ∀ H', Ext [] H H' → Pv 0 [] H')
    (hs : ∀ (Nx : Hp → Prop) i acc H, i < n → Pv i acc H → H D = some (.lst acc) → (∀ acc' H', Pv (i + 1) acc' H' → H' D = some (.lst acc') → Nx H') → g (.int (lo + i)) (wipe σ vs) H fun σ2 H2 => wipe σ2 vs = wipe σ vs ∧ tt σ2 H2 fun b H3 =>
      if b = true then te σ2 H3 fun y H4 => ∃ acc, H4 D = some (.lst acc) ∧ acc.length < sizeLine ∧ Nx (upd H4 D (.lst (acc ++ [y]))) else Nx H3) (hd : ∀ acc H, Pv n acc H → H D = some (.lst acc) → Qd H) :
    ∃ W : Nat → Nat → Hp → Prop, (∃ m, W 0 m (upd H D (.lst []))) ∧ ∀ i m H, W i m H →
      ((Itr lo n).stop i H ∧ Qd H) ∨ ((Itr lo n).go i H ∧ ∃ Nx : Hp → Prop, (∀ H', Nx H' → ∃ m', m' < m ∧ W (i + 1) m' H') ∧ ∀ x H', (Itr lo n).yld i H x H' → g x (wipe σ vs) H' fun σ2 H2 => wipe σ2 vs = wipe σ vs ∧ tt σ2 H2 fun b H3 =>
        if b = true then te σ2 H3 fun y H4 => ∃ acc, H4 D = some (.lst acc) ∧ acc.length < sizeLine ∧ Nx (upd H4 D (.lst (acc ++ [y]))) else Nx H3) :=
  lc_range (fun i H => ∃ acc, Pv i acc H ∧ H D = some (.lst acc)) ⟨[], h0 _ (Ext.new nD), upd_same⟩
    (fun i H hx ⟨acc, p, hD⟩ => hs _ i acc H hx p hD fun acc' H' p' h' => ⟨acc', p', h'⟩) fun H ⟨acc, p, hD⟩ => hd acc H p hD
theorem z_lc_keys {kvs : List (Key × V)} {d : Addr} {o : Obj} {g : TG} {vs : List Nat} {D : Addr} {Qd : Hp → Prop} (Pv : Nat → List V → Hp → Prop) (nD : H D = none) (h0 : ∀ H', Ext [] H H' → Pv 0 [] H') (hl : ∀ i acc H, i ≤ kvs.length → Pv i acc H → H d = some (.frz o (.dK kvs)))
    (hs : ∀ (Nx : Hp → Prop) i k v acc H, kvs[i]? = some (k, v) → Pv i acc H → H D = some (.lst acc) → (∀ acc' H', Pv (i + 1) acc' H' → H' D = some (.lst acc') → Nx H') → g (kV k) (wipe σ vs) H fun σ2 H2 => wipe σ2 vs = wipe σ vs ∧ tt σ2 H2 fun b H3 =>
      if b = true then te σ2 H3 fun y H4 => ∃ acc, H4 D = some (.lst acc) ∧ acc.length < sizeLine ∧ Nx (upd H4 D (.lst (acc ++ [y]))) else Nx H3) (hd : ∀ acc H, Pv kvs.length acc H → H D = some (.lst acc) → Qd H) :
    ∃ W : Nat → Nat → Hp → Prop, (∃ m, W 0 m (upd H D (.lst []))) ∧ ∀ i m H, W i m H →
      ((Itk d o kvs).stop i H ∧ Qd H) ∨ ((Itk d o kvs).go i H ∧ ∃ Nx : Hp → Prop, (∀ H', Nx H' → ∃ m', m' < m ∧ W (i + 1) m' H') ∧ ∀ x H', (Itk d o kvs).yld i H x H' → g x (wipe σ vs) H' fun σ2 H2 => wipe σ2 vs = wipe σ vs ∧ tt σ2 H2 fun b H3 =>
        if b = true then te σ2 H3 fun y H4 => ∃ acc, H4 D = some (.lst acc) ∧ acc.length < sizeLine ∧ Nx (upd H4 D (.lst (acc ++ [y]))) else Nx H3) := by
  refine ⟨fun i m H => m = kvs.length - i ∧ i ≤ kvs.length ∧ ∃ acc, Pv i acc H ∧ H D = some (.lst acc), ⟨_, rfl, Nat.zero_le _, [], h0 _ (Ext.new nD), upd_same⟩, ?_⟩
  rintro i m H ⟨rfl, hi, acc, p, hD⟩
  by_cases hlt : i < kvs.length
  · refine .inr ⟨⟨hl i acc H hi p, hlt⟩, (fun H => ∃ acc, Pv (i + 1) acc H ∧ H D = some (.lst acc)), fun H' p' => ⟨kvs.length - (i + 1), by omega, rfl, hlt, p'⟩, fun x H' y => ?_⟩
    obtain ⟨e, k, v, hk, rfl⟩ := y
    subst e
    exact hs _ i k v acc _ hk p hD fun acc' H' p' h' => ⟨acc', p', h'⟩
  · have e : i = kvs.length := by omega
    subst e
    exact .inl ⟨⟨hl _ acc H hi p, Nat.le_refl _⟩, hd acc H p hD⟩
end
end Zk

set_option Elab.async false
set_option linter.all false
set_option maxRecDepth 100000
set_option maxHeartbeats 4000000
namespace Zk
open PySem PySem.Spec L2
open PyProof.Rows hiding St

/-! ### slots: a text and two ints; their order -/
abbrev Slot := Str × Int × Int
def sVs (s : Slot) : List V := [.str s.1, .int s.2.1, .int s.2.2]
def sKey (s : Slot) : List Key := [Sum.inr s.1, Sum.inl s.2.1, Sum.inl s.2.2]
theorem sKey_vs (s : Slot) : (sKey s).map kV = sVs s := rfl
theorem sKey_inj {s t : Slot} (h : sKey s = sKey t) : s = t := by
  unfold sKey at h
  injection h with h1 h2
  injection h2 with h2 h3
  injection h3 with h3 _
  obtain ⟨a, b, c⟩ := s
  obtain ⟨a', b', c'⟩ := t
  simp only [Sum.inr.injEq, Sum.inl.injEq] at h1 h2 h3
  subst h1 h2 h3
  rfl
theorem sVs_inj {s t : Slot} (h : sVs s = sVs t) : s = t := by
  obtain ⟨a, b, c⟩ := s
  obtain ⟨a', b', c'⟩ := t
  unfold sVs at h
  simp only [List.cons.injEq, V.str.injEq, V.int.injEq] at h
  obtain ⟨h1, h2, h3, _⟩ := h
  subst h1 h2 h3
  rfl
def sLt (p q : Slot) : Bool := if p.1 = q.1 then (if p.2.1 = q.2.1 then decide (p.2.2 < q.2.2) else decide (p.2.1 < q.2.1)) else decide (p.1.cps.toList < q.1.cps.toList)
theorem str_tri (a b : Str) : a.cps.toList < b.cps.toList ∨ a = b ∨ b.cps.toList < a.cps.toList := by
  by_cases h : a.cps.toList < b.cps.toList
  · exact .inl h
  · by_cases h2 : b.cps.toList < a.cps.toList
    · exact .inr (.inr h2)
    · refine .inr (.inl ?_)
      have := List.le_antisymm (List.not_lt.mp h2) (List.not_lt.mp h)
      cases a; cases b
      simp only [Str.mk.injEq]
      exact Array.toList_inj.mp this
def SLt (p q : Slot) : Prop := p.1.cps.toList < q.1.cps.toList ∨ (p.1 = q.1 ∧ (p.2.1 < q.2.1 ∨ (p.2.1 = q.2.1 ∧ p.2.2 < q.2.2)))
theorem sLt_iff {p q : Slot} : sLt p q = true ↔ SLt p q := by
  unfold sLt SLt
  by_cases e : p.1 = q.1
  · rw [if_pos e]
    have no : ¬ p.1.cps.toList < q.1.cps.toList := by rw [e]; exact List.lt_irrefl _
    by_cases e2 : p.2.1 = q.2.1
    · rw [if_pos e2, decide_eq_true_eq]
      constructor
      · intro h; exact .inr ⟨e, .inr ⟨e2, h⟩⟩
      · rintro (h | ⟨_, h | h⟩)
        · exact absurd h no
        · omega
        · exact h.2
    · rw [if_neg e2, decide_eq_true_eq]
      constructor
      · intro h; exact .inr ⟨e, .inl h⟩
      · rintro (h | ⟨_, h | h⟩)
        · exact absurd h no
        · exact h
        · exact absurd h.1 e2
  · rw [if_neg e, decide_eq_true_eq]
    constructor
    · intro h; exact .inl h
    · rintro (h | h)
      · exact h
      · exact absurd h.1 e
theorem SLt.tri (p q : Slot) : SLt p q ∨ p = q ∨ SLt q p := by
  obtain ⟨a, b, c⟩ := p
  obtain ⟨a', b', c'⟩ := q
  unfold SLt
  rcases str_tri a a' with h | h | h
  · exact .inl (.inl h)
  · subst h
    rcases Int.lt_trichotomy b b' with h | h | h
    · exact .inl (.inr ⟨rfl, .inl h⟩)
    · subst h
      rcases Int.lt_trichotomy c c' with h | h | h
      · exact .inl (.inr ⟨rfl, .inr ⟨rfl, h⟩⟩)
      · subst h; exact .inr (.inl rfl)
      · exact .inr (.inr (.inr ⟨rfl, .inr ⟨rfl, h⟩⟩))
    · exact .inr (.inr (.inr ⟨rfl, .inl h⟩))
  · exact .inr (.inr (.inl h))
theorem SLt.trans {p q r : Slot} (h1 : SLt p q) (h2 : SLt q r) : SLt p r := by
  unfold SLt at *
  rcases h1 with h1 | ⟨e1, h1⟩ <;> rcases h2 with h2 | ⟨e2, h2⟩
  · exact .inl (List.lt_trans h1 h2)
  · exact .inl (by rw [← e2]; exact h1)
  · exact .inl (by rw [e1]; exact h2)
  · exact .inr ⟨e1.trans e2, by omega⟩
theorem SLt.irr {p : Slot} (h : SLt p p) : False := by
  unfold SLt at h
  rcases h with h | ⟨_, h⟩
  · exact List.lt_irrefl _ h
  · omega
theorem sLt_no {p q : Slot} : sLt p q = false ↔ ¬ SLt p q := by rw [← sLt_iff]; simp
theorem sLt_swo {α : Type} (k : α → Slot) : SrtO.Swo fun v u => sLt (k v) (k u) := by
  refine ⟨fun x y h => sLt_no.mpr fun z => (SLt.trans (sLt_iff.mp h) z).irr, fun x y z h1 h2 => sLt_no.mpr fun q => ?_⟩
  have a := sLt_no.mp h1
  have b := sLt_no.mp h2
  rcases SLt.tri (k x) (k y) with c | c | c
  · exact b (SLt.trans q c)
  · rw [← c] at b; exact b q
  · exact a c
/-! ### sorting lists of slots, of any length -/
section
variable {prog : Program} {w : World} {A : Around} {E : Value → Shared → Prop} {s : Shared}
def IsSlotV (h : Heap) (v : Value) (z : Slot) : Prop := ∃ (a : Addr) (o : Obj) (t u r : Tok) (n : Nat), v = .ref a ∧ h.get? a = some o ∧ o.cls = .type "tuple" ∧ o.data = .seq #[.str z.1 t, .int z.2.1 u, .int z.2.2 r] n
theorem IsSlotV.stays {h h' : Heap} {v : Value} {z : Slot} (p : IsSlotV h v z) (k : ∀ b o, h.get? b = some o → o.cls = .type "tuple" → h'.get? b = some o) : IsSlotV h' v z := by
  obtain ⟨a, o, t, u, r, n, e, ho, hc, hd⟩ := p
  exact ⟨a, o, t, u, r, n, e, k _ _ ho hc, hc, hd⟩
theorem slot_cmp {vs : List Value} {k : Value → Slot} (hp : ∀ v ∈ vs, IsSlotV s.heap v (k v)) : SrtO.Cmp prog w A s (tuples' true) (fun p => p.1 ∈ vs) (SrtO.lt2 fun v u => sLt (k v) (k u)) := by
  intro p q hm hm'
  have g1 := hp _ hm
  have g2 := hp _ hm'
  show wpAny (model prog w) A (keyLt' (tuples' true) p.1 q.1) (fun r s' => s' = s ∧ r = sLt (k p.1) (k q.1)) (fun _ _ => False) s
  generalize k p.1 = x at g1 ⊢
  generalize k q.1 = y at g2 ⊢
  obtain ⟨x1, x2, x3⟩ := x
  obtain ⟨y1, y2, y3⟩ := y
  obtain ⟨a, o, t, u, r, n, e, ho, hc, hd⟩ := g1
  obtain ⟨a', o', t', u', r', n', e', ho', hc', hd'⟩ := g2
  rw [e, e']
  refine PySem.W.kat_lt ho hd ho' hd' ?_
  show PySem.W.KatLex prog w A true (decide (3 < 3)) _ [(.str x1 t, .str y1 t'), (.int x2 u, .int y2 u'), (.int x3 r, .int y3 r')] 0 s
  refine PySem.W.kat_cons (wpAny_eqBool_str ?_)
  refine PySem.W.kat_go (fun e1 => ?_) (fun e1 => ?_)
  · have ex : x1 = y1 := by simpa using e1
    refine PySem.W.kat_yes (PySem.W.kat_cons (wpAny_eqBool_int ?_))
    refine PySem.W.kat_go (fun e2 => ?_) (fun e2 => ?_)
    · have ey : x2 = y2 := by simpa using e2
      refine PySem.W.kat_yes (PySem.W.kat_cons (wpAny_eqBool_int ?_))
      refine PySem.W.kat_go (fun e3 => ?_) (fun e3 => ?_)
      · have ez : x3 = y3 := by simpa using e3
        refine PySem.W.kat_yes (PySem.W.kat_nil ⟨rfl, ?_⟩)
        show false = sLt (x1, x2, x3) (y1, y2, y3)
        unfold sLt
        rw [if_pos ex, if_pos ey, ez]
        exact (decide_eq_false (Int.lt_irrefl _)).symm
      · refine PySem.W.kat_no (PySem.W.kat_one _ _ (lt_int ?_))
        refine (show s = s ∧ decide (x3 < y3) = sLt (x1, x2, x3) (y1, y2, y3) from ⟨rfl, ?_⟩)
        unfold sLt
        rw [if_pos ex, if_pos ey]
    · have ey : ¬ x2 = y2 := by simpa using e2
      refine PySem.W.kat_no (PySem.W.kat_one _ _ (lt_int ?_))
      refine (show s = s ∧ decide (x2 < y2) = sLt (x1, x2, x3) (y1, y2, y3) from ⟨rfl, ?_⟩)
      unfold sLt
      rw [if_pos ex, if_neg ey]
  · have ex : ¬ x1 = y1 := by simpa using e1
    refine PySem.W.kat_no (oneLt_str ?_)
    refine (show s = s ∧ decide (x1.cps.toList < y1.cps.toList) = sLt (x1, x2, x3) (y1, y2, y3) from ⟨rfl, ?_⟩)
    unfold sLt
    rw [if_neg ex]
theorem slot_firsts {h : Heap} : ∀ {vs : List Value}, (∀ v ∈ vs, ∃ z, IsSlotV h v z) → ∃ fs : List Value, PySem.W.KatTups h vs fs ∧ fs.length = vs.length ∧ ∀ f ∈ fs, ∃ x t, f = Value.str x t
  | [], _ => ⟨[], PySem.W.KatTups.nil, rfl, fun _ z => nomatch z⟩
  | v :: vs, hp => by
    obtain ⟨fs, k, hl, hi⟩ := slot_firsts (vs := vs) fun u m => hp u (List.mem_cons_of_mem _ m)
    obtain ⟨z, a, o, t, u, r, n, rfl, ho, hc, hd⟩ := hp v List.mem_cons_self
    refine ⟨.str z.1 t :: fs, PySem.W.KatTups.cons ho hc hd rfl k, congrArg (· + 1) hl, fun f m => ?_⟩
    rcases List.mem_cons.mp m with m | m
    · exact ⟨_, _, m⟩
    · exact hi f m
theorem slots_able {a : Addr} {vs : List Value} {k : Value → Slot} (h0 : 0 < vs.length) (hp : ∀ v ∈ vs, IsSlotV s.heap v (k v)) (ha : ∀ o, s.heap.get? a = some o → o.cls ≠ .type "tuple") : SrtO.SortableO prog w A s a vs fun v u => sLt (k v) (k u) := by
  intro h' keep
  have g : ∀ v ∈ vs, IsSlotV h' v (k v) := fun v m => (hp v m).stays fun b o e c => keep b o (fun z => ha o (z ▸ e) c) e
  obtain ⟨fs, k1, hl, hi⟩ := slot_firsts fun v m => ⟨_, g v m⟩
  refine ⟨tuples' true, fun Q E q => ?_, slot_cmp g⟩
  refine PySem.W.kat_kind (T := .type "str") k1 (by omega) (fun f m => ?_) (by rfl) ?_
  · obtain ⟨x, t, rfl⟩ := hi f m
    exact PySem.W.Looks.now
  · rw [show (Value.type "str" != Value.type "tuple") = true by decide +kernel]
    exact q
theorem sorted_slots {l : Addr} {vs : List Value} {k : Value → Slot} {Q : Value → Shared → Prop} (hl : s.heap.IsList l vs.toArray) (hz : vs.length ≤ sizeLine) (hp : ∀ v ∈ vs, IsSlotV s.heap v (k v))
    (h : ∀ (h' : Heap) (d : Addr) (out : List Value), SrtO.Srtd (fun v u => sLt (k v) (k u)) out → out.Perm vs → (∀ b o, s.heap.get? b = some o → h'.get? b = some o) → s.heap.objs.size ≤ d → (∃ n, h'.get? d = some (seqObj "list" out.toArray n)) → Q (.ref d) { s with heap := h' }) :
    wpAny (model prog w) A (call (.builtin "sorted") [.ref l]) Q E s := by
  refine SrtO.sorted_ord (sLt_swo k) hl hz (fun h2 g a ha kk => ?_) fun out hs hb => h _ _ out hs hb.perm (fun b o e => sortedAll_old e) (Nat.le_succ _) (sortedAll_at s.heap vs out.toArray)
  refine slots_able (s := { s with heap := g }) (by omega) (fun v m => (hp v m).stays fun b o e _ => (kk b o e).2) fun o e c => ?_
  rw [ha] at e
  cases e
  exact absurd (Value.type.inj c) (by decide)
end
/-- the slot whose tuple stands at a -/
def slotAt (H : Hp) (a : Addr) : Slot := match H a with
  | some (.tup [.str z, .int n, .int k]) => (z, n, k)
  | _ => (Str.empty, 0, 0)
theorem slotAt_eq {H : Hp} {a : Addr} {s : Slot} (h : H a = some (.tup (sVs s))) : slotAt H a = s := by
  unfold slotAt
  rw [h]
  rfl
/-- addresses and the slots whose tuples stand there -/
def SlotsAt (H : Hp) (as : List Addr) (ss : List Slot) : Prop := Paired (fun (a : Addr) (s : Slot) => H a = some (.tup (sVs s))) as ss
theorem SlotsAt.ext {M : List Addr} {H H' : Hp} {as : List Addr} {ss : List Slot} (h : SlotsAt H as ss) (e : Ext M H H') : SlotsAt H' as ss := Paired.mapP h fun _ _ q => e.tup q
theorem SlotsAt.map {H : Hp} : ∀ {as : List Addr} {ss : List Slot}, SlotsAt H as ss → ss = as.map (slotAt H)
  | _, _, .nil => rfl
  | _, _, .cons h t => by rw [List.map_cons, slotAt_eq h, ← SlotsAt.map t]
theorem SlotsAt.mem {H : Hp} : ∀ {as : List Addr} {ss : List Slot}, SlotsAt H as ss → ∀ a ∈ as, H a = some (.tup (sVs (slotAt H a)))
  | _, _, .nil, a, h => nomatch h
  | _, _, .cons h t, a, m => by
    rcases List.mem_cons.mp m with m | m
    · rw [m, slotAt_eq h]; exact h
    · exact SlotsAt.mem t a m
theorem SlotsAt.of {H : Hp} : ∀ {as : List Addr}, (∀ a ∈ as, H a = some (.tup (sVs (slotAt H a)))) → SlotsAt H as (as.map (slotAt H))
  | [], _ => .nil
  | a :: as, h => .cons (h a List.mem_cons_self) (SlotsAt.of fun b m => h b (List.mem_cons_of_mem _ m))
theorem refs_list : ∀ {us : List Value}, (∀ u ∈ us, ∃ a, u = Value.ref a) → ∃ bs : List Addr, us = bs.map Value.ref
  | [], _ => ⟨[], rfl⟩
  | u :: us, h => by
    obtain ⟨bs, e⟩ := refs_list fun v m => h v (List.mem_cons_of_mem _ m)
    obtain ⟨a, ea⟩ := h u List.mem_cons_self
    exact ⟨a :: bs, by rw [ea, e]; rfl⟩
theorem vals_refs : ∀ bs : List Addr, Vals (bs.map V.ref) (bs.map Value.ref)
  | [] => .nil
  | _ :: r => .cons rfl (vals_refs r)
theorem perm_of_map {as bs : List Addr} (h : (as.map Value.ref).Perm (bs.map Value.ref)) : as.Perm bs := by
  have e := h.map fun v => match v with | Value.ref a => a | _ => 0
  rw [List.map_map, List.map_map] at e
  have id1 : ∀ l : List Addr, l.map ((fun v => match v with | Value.ref a => a | _ => 0) ∘ Value.ref) = l := fun l => by
    induction l with
    | nil => rfl
    | cons a r ih => rw [List.map_cons, ih]; rfl
  rw [id1, id1] at e
  exact e
/-- sorted(a list of slots) -/
def cSortSl (K : PySem.W.Frag) : RC := fun vs H Q => ∃ (a : Addr) (as : List Addr) (ss : List Slot), vs = [V.ref a] ∧ SqL K H a (as.map V.ref) ∧ SlotsAt H as ss ∧
  ∀ (bs : List Addr) (ts : List Slot), SlotsAt H bs ts → ts.Perm ss → ts.Pairwise (fun x y => sLt y x = false) → Alc (.lst (bs.map V.ref)) H Q
section
variable {X : Cx}
theorem zc_sortSl : CallR X (.builtin "sorted") (cSortSl X.K) := by
  intro pins s σ H vs us Q I r h
  obtain ⟨a, as, ss, rfl, hs, hx, q⟩ := h
  obtain ⟨its, rv, hl, hz⟩ := I.list hs
  obtain ⟨u, rfl, ru⟩ := vals1 r
  obtain rfl : u = Value.ref a := ru
  obtain ⟨e1, e2⟩ := refs_back rv fun x m => by
    obtain ⟨t, _, e⟩ := List.mem_map.mp m
    exact ⟨t, e.symm⟩
  let k : Value → Slot := fun v => match v with | .ref b => slotAt H b | _ => (Str.empty, 0, 0)
  have hm : ∀ b : Addr, Value.ref b ∈ its → b ∈ as := fun b m => by
    have h1 : V.ref b ∈ as.map V.ref := by rw [e1]; exact List.mem_map.mpr ⟨_, m, rfl⟩
    obtain ⟨c, hc, e⟩ := List.mem_map.mp h1
    cases e
    exact hc
  refine sorted_slots (k := k) hl.isList (by rw [← rv.length]; exact hz) (fun v hv => ?_) fun h' d out h1 h2 kp hd hn => ?_
  · obtain ⟨t, rfl⟩ := e2 v hv
    have ht := SlotsAt.mem hx t (hm t hv)
    obtain ⟨_, its2, r2, o, ho, hc, n, hd⟩ := I.hok _ _ ht
    cases r2 with
    | cons ra r2 => cases r2 with
      | cons rb r2 => cases r2 with
        | cons rc r2 =>
          cases r2
          obtain ⟨t1, rfl⟩ := ra
          obtain ⟨t2, rfl⟩ := rb
          obtain ⟨t3, rfl⟩ := rc
          exact ⟨t, o, t1, t2, t3, n, rfl, ho, hc, hd⟩
  · have h3 : ∀ u ∈ out, ∃ a, u = Value.ref a := fun u hu => e2 u (h2.mem_iff.mp hu)
    obtain ⟨n, hn⟩ := hn
    obtain ⟨bs, hb⟩ := refs_list h3
    subst hb
    obtain ⟨cs, hcs⟩ := refs_list e2
    subst hcs
    have hac : as = cs := by
      rw [List.map_map] at e1
      refine List.map_inj_right (f := V.ref) (fun x y h => V.ref.inj h) |>.mp (e1.trans ?_)
      rfl
    subst hac
    have hp : bs.Perm as := perm_of_map h2
    have hbm : ∀ b ∈ bs, H b = some (.tup (sVs (slotAt H b))) := fun b m => SlotsAt.mem hx b (hp.mem_iff.mp m)
    have hq := q bs (bs.map (slotAt H)) (SlotsAt.of hbm) (by rw [SlotsAt.map hx]; exact hp.map _) (by
      rw [List.pairwise_map]
      have h1' := List.pairwise_map.mp h1
      exact h1')
    refine ⟨.ref d, upd H d (.lst (bs.map V.ref)), I.laid (t' := s.toks) kp hd ⟨?_, _, n, vals_refs bs, hn⟩, rfl, hq d (I.hok.fresh hd)⟩
    rw [List.length_map, hp.length_eq]
    rw [List.length_map] at hz
    exact hz
end

/-! ### d.clear() of a dict with tuple keys -/
def rClearT : V → List V → Hp → VK → Prop := fun x vs H Q => ∃ (a : Addr) (kvs : List (List Key × V)), x = .ref a ∧ vs = [] ∧ H a = some (.dT kvs) ∧ Chg a (.dT []) H (Q .non)
theorem zmt_clearT {X : Cx} : MtR X "dict.clear" rClearT := by
  intro pins s σ H x vs v us Q I rx rv h
  obtain ⟨a, kvs, rfl, rfl, e, q⟩ := h
  obtain rfl : v = Value.ref a := rx
  obtain rfl := rv.zero
  obtain ⟨z, hd, xs, rel, o, es, ep, ho, hx, hdat, he, hn⟩ := I.hok _ _ e
  have raw : s.heap.DictRaw a es ep := ⟨o, ho, hx, hdat⟩
  have hz : es.size ≤ sizeLine := by
    have h1 : es.toList.length = xs.length := by rw [he, List.length_map]
    have h2 := Paired.length rel
    rw [Array.length_toList] at h1
    omega
  refine call_meetsIn PySem.F.slot_dict_clear raw.typeIs PySem.F.entry_dict_clear (PySem.F.args_dict_clear_1 _) (meets_dict_clear_raw a) ⟨es, ep, raw, hz, fun h' r' hs => ?_⟩
  obtain ⟨o', ho', hx', hd'⟩ := r'
  refine ⟨.non, _, d_write (t' := s.toks) I (by rw [e]; exact True.intro) hs ⟨o', ho'⟩ ?_, rfl, q⟩
  exact ⟨Nat.zero_le _, hd, [], .nil, o', _, _, ho', hx', hd', rfl, List.nodup_nil⟩

/-! ### {slot: e for slot in ..}: a dict comprehension whose keys are tuples -/
section
variable {X : Cx} {pins : List (Addr × Obj)} {σ : St} {H : Hp} {s : Shared}
theorem dictSet_tup {E : Value → Shared → Prop} {D b : Addr} {kvs : List (List Key × V)} {k : List Key} {v : V} {r : Value} {Q : Unit → Shared → Prop} (hu : X.A.units + 1 < cLine) (I : L2.Inv X pins σ H s) (hD : H D = some (.dT kvs)) (hb : H b = some (.tup (k.map kV))) (hz : kvs.length < sizeLine)
    (rv : RelV v r) (h : ∀ s', L2.Inv X pins σ (upd H D (.dT (putK kvs k v))) s' → Q () s') : wpAny (model X.prog X.w) X.A (dictSet D (.ref b) r) Q E s := by
  obtain ⟨z, hd, xs, rel, dd⟩ := dt_of I.hok hD
  have hxl : xs.length ≤ sizeLine := by
    have := Paired.length rel
    omega
  have hl : (putK kvs k v).length ≤ sizeLine := by
    have := length_putK kvs k v
    omega
  refine wpAny_dictSet_heap (hsz := hxl) (show X.A.units < cLine from Nat.lt_of_succ_lt hu) (key_of I.hok hb) dd fun h' dd' hs => h _ ?_
  obtain ⟨q, es, ep, hq, a2, a3, a4, _, a5⟩ := dd'
  refine d_write I (by rw [hD]; exact True.intro) hs ⟨q, hq⟩ ⟨hl, hd, _, (rel.put k hb rv).keeps fun c ys ec => ?_, q, es, ep, hq, a2, a3, a4, a5⟩
  rw [upd_ne (ne_of ec hD (fun z => by cases z))]
  exact ec
/-- D: the new dict; W, Nx as in a list comprehension's reading -/
def zDcT (wi : TI) (g : TG) (tt : TT) (tk tv : TE) (vs : List Nat) : TE := fun σ H Q => wi σ H fun J H1 => ∀ D, H1 D = none → ∃ W : Nat → Nat → Hp → Prop, (∃ m, W 0 m (upd H1 D (.dT []))) ∧
  ∀ i m H, W i m H → (J.stop i H ∧ Q (.ref D) H) ∨ (J.go i H ∧ ∃ Nx : Hp → Prop, (∀ H', Nx H' → ∃ m', m' < m ∧ W (i + 1) m' H') ∧
    ∀ x H', J.yld i H x H' → g x (wipe σ vs) H' fun σ2 H2 => wipe σ2 vs = wipe σ vs ∧ tt σ2 H2 fun b H3 =>
      if b = true then tk σ2 H3 fun y H4 => tv σ2 H4 fun z H5 => ∃ kvs k q, y = .ref q ∧ H5 q = some (.tup (k.map kV)) ∧ H5 D = some (.dT kvs) ∧ kvs.length < sizeLine ∧ Nx (upd H5 D (.dT (putK kvs k z))) else Nx H3)
abbrev AllB (X : Cx) (scope : Scope) (G : Cx → Prop) : Prop := ∀ (s : Shared) (H : Hp) (C : Addr) (cl : List (Str × Addr)) (fp : List Addr), G (X.blk s H scope (compEnvC scope cl C X.env) fp)
theorem zdc_run {Q : VK} {kx vx tg iter : Expr} {ifs : List Expr} {scope : Scope} {own : List (Str × Nat)} {pos pos' : Pos} {wi : TI} {g : TG} {tt : TT} {tk tv : TE} {use : Option (Value → Sem Unit)} {Qf : Value → Shared → Prop}
    (hu : X.A.units + 1 < cLine) (hc : X.calm = true) (hN : X.N.Nodup) (I : L2.Inv X pins σ H s) (hi : PI X tg iter wi) (ok : BlkOk X.N X.env.scope scope own)
    (hg : AllB X scope fun Y => PG Y tg g) (ht : AllB X scope fun Y => PTs Y ifs tt) (hk : AllB X scope fun Y => PE Y kx tk) (he : AllB X scope fun Y => PE Y vx tv) (hs : ∀ x, foldedSetIterable iter X.env x = pure x)
    (h : zDcT wi g tt tk tv (own.map (·.2)) σ H Q)
    (fin : ∀ D C s' m H', L2.Inv X pins σ H' s' → Q (.ref D) H' → s'.heap.Ns C m → FpOk X pins H' C → compPost (model X.prog X.w) X.A X.xe use Qf (.ref D) C (.ok .next) s') :
    wpAny (model X.prog X.w) X.A (comprehension (.DictComp kx vx [⟨tg, iter, ifs, 0⟩] scope pos) scope X.env pos' newDict false (eval iter X.env) use) Qf X.xe s := by
  have cells : ∀ y ∈ scope.names, y.2 = .free → ∃ c, X.env.cells.lookup y.1 = some c := fun y m e => I.ok.has _ ((ok.free y m e).elim .inl .inr)
  refine wpAny_comprehension_free (use := use) rfl hs (closure_ok cells) ok.kind (fun y m e => (ok.uniq y m).trans (congrArg some e)) (thn (hi.run pins s σ H _ I h) fun xv s1 hx => thn hx fun itv s2 h2 => ?_)
  obtain ⟨it, fp, tn, J, H2, rfl, I2, T, st2, f2, q⟩ := h2
  refine wpAny_newObj_type (newEnv_comp ?_)
  generalize eD : s2.heap.objs.size = D
  obtain ⟨W, ⟨m0, w0⟩, turn⟩ := q D (I2.hok.fresh (Nat.le_of_eq eD))
  generalize e3 : ({ s2 with heap := s2.heap.push { cls := .type "dict", data := .dict #[] } } : Shared) = s3
  have hp3 : s3.heap = s2.heap.push { cls := .type "dict", data := .dict #[] } := by rw [← e3]
  have I3 : L2.Inv X pins σ (upd H2 D (.dT [])) s3 := by
    rw [← e3, ← eD]
    exact I2.laid (t' := s2.toks) (fun b o e => Heap.get?_push_of_some _ e) (Nat.le_refl _) (dt_empty s2.heap I2.big)
  have old : ∀ b ∈ fp, b < s2.heap.objs.size := fun b m => (T.obj _ _ st2 b m).elim fun o x => Heap.lt_size x.1
  have f3 : ∀ b ∈ fp, FpOk X pins (upd H2 D (.dT [])) b ∧ b < s3.heap.objs.size := fun b m => by
    have lt := old b m
    refine ⟨⟨?_, (f2 b m).2⟩, ?_⟩
    · rw [upd_ne (fun z => absurd lt (by rw [eD, z]; exact Nat.lt_irrefl D))]
      exact (f2 b m).1
    · rw [hp3, Heap.size_push]
      exact Nat.lt_succ_of_lt lt
  have st3 : tn 0 s3.heap := T.keep _ _ _ st2 fun b _ o e => by rw [hp3]; exact Heap.get?_push_of_some _ e
  have I4 := block_start I3 ok hN f3
  generalize ecl : cellsFrom (s3.heap.objs.size + 1) scope.names (cloFrom X.env.cells scope.names []) = cl at I4
  have pg := hg s3 (upd H2 D (.dT [])) s3.heap.objs.size cl fp
  have pt := ht s3 (upd H2 D (.dT [])) s3.heap.objs.size cl fp
  have pk := hk s3 (upd H2 D (.dT [])) s3.heap.objs.size cl fp
  have pe := he s3 (upd H2 D (.dT [])) s3.heap.objs.size cl fp
  have gone : ∀ b ∈ fp, (upd H2 D (.dT [])) b = none := fun b m => (f3 b m).1.1
  show codeAny _ _ (.compStart (.DictComp kx vx [⟨tg, iter, ifs, 0⟩] scope pos) 0 (.ref it) (.ref D) (compEnvC scope cl s3.heap.objs.size X.env)) (compPost (model X.prog X.w) X.A X.xe use Qf (.ref D) s3.heap.objs.size) { s3 with heap := pushCells (s3.heap.push { cls := .type "dict", data := .dict #[] }) scope.names }
  generalize ece : compEnvC scope cl s3.heap.objs.size X.env = ce at I4 pg pt pk pe ⊢
  have loc : ce.locals = s3.heap.objs.size := by rw [← ece]; rfl
  generalize eH : upd H2 D (.dT []) = H3 at I3 I4 pg pt pk pe w0 gone f3
  generalize e4 : ({ s3 with heap := pushCells (s3.heap.push { cls := .type "dict", data := .dict #[] }) scope.names } : Shared) = s4 at I4 ⊢
  have st4 : tn 0 s4.heap := T.keep _ _ _ st3 fun b _ o e => by rw [← e4]; exact pushCells_keeps _ _ _ _ (Heap.get?_push_of_some _ e)
  let Y : Cx := X.blk s3 H3 scope ce fp
  have mine : ∀ {σ' : L2.St} {H' : Hp} {s' : Shared}, L2.Inv Y [] σ' H' s' → (∀ b ∈ fp, H' b = none) → ∀ b ∈ fp, FpOk Y [] H' b := fun {_ H' _} J' n b m =>
    ⟨n b m, (J'.ok.exf b m).1, J'.ok.exfs b m, .inl m, (J'.ok.exf b m).2, fun p hp => nomatch (show p ∈ ([] : List (Addr × Obj)) from hp)⟩
  have run : codeAny (model X.prog X.w) X.A (.compLoop (.DictComp kx vx [⟨tg, iter, ifs, 0⟩] scope pos) 0 (.ref it) (.ref D) ce) (compPost (model X.prog X.w) X.A X.xe use Qf (.ref D) s3.heap.objs.size) s4 := by
    refine compLoop_anyD (fun n s' => ∃ i H', L2.Inv Y [] (wipe σ (own.map (·.2))) H' s' ∧ tn i s'.heap ∧ (∀ b ∈ fp, H' b = none) ∧ W i n H') (fun n s5 => ?_) m0 ⟨0, H3, I4, st4, gone, w0⟩
    rintro ⟨i, H5, I5, st5, n5, w5⟩
    rcases turn i n H5 w5 with ⟨stop, qq⟩ | ⟨go, Nx, hNx, step⟩
    · refine thnF (T.done Y rfl rfl rfl hc i [] s5 _ H5 (fun _ _ => False) I5 (mine I5 n5) st5 stop) fun r s6 ⟨hr, I6⟩ => ?_
      subst hr
      have back : L2.Inv X pins σ H5 s6 := I3.call' (ch := fp) I6.os I6.base I6.hok I6.bare fun b m =>
        let ⟨_, x1, _, x3, x4, x5⟩ := (f3 b m).1
        ⟨x3, x1, x4, x5⟩
      have nC : H5 s3.heap.objs.size = none := loc ▸ (show H5 ce.locals = none from I6.free)
      obtain ⟨m, ns, _⟩ := I6.loc
      exact fin D s3.heap.objs.size s6 m H5 back qq (loc ▸ (show s6.heap.Ns ce.locals m from ns)) (I3.fpOk (Nat.le_refl _) nC)
    · refine thnF (T.item Y rfl rfl rfl hc i [] s5 _ H5 (fun _ _ => False) I5 (mine I5 n5) st5 go) fun r s6 ⟨u, hr, h6⟩ => ?_
      subst hr
      refine thnF h6 fun _ s7 ⟨x, H7, I7, r7, y7, st7, n7⟩ => ?_
      refine thnF (pg.run _ s7 _ H7 x u _ (I7.pinned (mine I7 n7) (T.obj _ _ st7)) r7 (step x H7 y7)) fun _ s8 ⟨σ8, H8, I8, hw8, q8⟩ => ?_
      refine thnF (pt.run _ s8 σ8 H8 _ I8 q8) fun b s9 ⟨H9, I9, q9⟩ => ?_
      have over : ∀ {s' : Shared} {H' : Hp}, L2.Inv Y ([] ++ pinsAt fp s7.heap) σ8 H' s' → Nx H' → ∃ m, m < n ∧ ∃ i H', L2.Inv Y [] (wipe σ (own.map (·.2))) H' s' ∧ tn i s'.heap ∧ (∀ b ∈ fp, H' b = none) ∧ W i m H' := fun {s' H'} J' nx => by
        obtain ⟨m', lt, w'⟩ := hNx H' nx
        have pn : ∀ b ∈ fp, ∀ o, s7.heap.get? b = some o → s'.heap.get? b = some o ∧ H' b = none := fun b m o e =>
          let z := J'.pin (b, o) (List.mem_append_right _ (List.mem_append_right _ (mem_pinsAt m e)))
          ⟨z.1, z.2.1⟩
        refine ⟨m', lt, i + 1, H', (J'.unpinned (pins := [])).weak (by rw [← hw8, wipe_length]) (fun j v e => ?_), T.keep _ _ _ st7 fun b m o e => (pn b m o e).1, fun b m => ?_, w'⟩
        · rw [← hw8] at e
          exact (wipe_some e).1
        · obtain ⟨o, e, _⟩ := T.obj _ _ st7 b m
          exact (pn b m o e).2
      cases b with
      | false =>
        simp only [Bool.false_eq_true, if_false] at q9 ⊢
        exact over I9 q9
      | true =>
        simp only [if_true] at q9 ⊢
        refine thnF (pk.run _ s9 σ8 H9 _ I9 q9) fun z1 s10 ⟨yk, H10, I10, r10, q10⟩ => ?_
        refine thnF (pe.run _ s10 σ8 H10 _ I10 q10) fun z2 s11 ⟨yv, H11, I11, r11, kvs, k, b2, ek, hb2, hD, hz, nx⟩ => ?_
        subst ek
        obtain rfl : z1 = Value.ref b2 := r10
        exact dictSet_tup (X := Y) hu I11 hD hb2 hz r11 fun s12 I12 => over I12 nx
  exact codeAny_compStart_dict run (T.self X.A 0 _ _ _ st4 run)
theorem zpe_dcT {kx vx tg iter : Expr} {ifs : List Expr} {scope : Scope} {own : List (Str × Nat)} {pos : Pos} {wi : TI} {g : TG} {tt : TT} {tk tv : TE} (hu : X.A.units + 1 < cLine) (hc : X.calm = true) (hN : X.N.Nodup) (hi : PI X tg iter wi) (ok : BlkOk X.N X.env.scope scope own)
    (hg : AllB X scope fun Y => PG Y tg g) (ht : AllB X scope fun Y => PTs Y ifs tt) (hk : AllB X scope fun Y => PE Y kx tk) (he : AllB X scope fun Y => PE Y vx tv) (hs : ∀ x, foldedSetIterable iter X.env x = pure x := by intro _; rfl) :
    PE X (.DictComp kx vx [⟨tg, iter, ifs, 0⟩] scope pos) (zDcT wi g tt tk tv (own.map (·.2))) := by
  refine ⟨fun pins s σ H Q I h => ?_⟩
  rw [arm_eval_DictComp]
  refine zdc_run hu hc hN I hi ok hg ht hk he hs h fun D C s' m H' I' q ns f => ⟨m, ns, fun h2 sb => ?_⟩
  obtain ⟨y0, y1, _, y3, y4, y5⟩ := f
  exact ⟨.ref D, H', I'.turned (t' := s'.toks) (fun b o hb e => (sb.2 b hb).trans e) y0 y1 y3 y4 y5, rfl, q⟩
end
end Zk

set_option Elab.async false
set_option linter.all false
set_option maxRecDepth 100000
set_option maxHeartbeats 4000000
namespace Zk
open PySem PySem.Spec L2
open PyProof.Rows hiding St

/-! ### data that do not change: flat ones and tuples of such -/
mutual
inductive Im (H : Hp) : V → PyData → Prop
  | non : Im H .non .none
  | bl (b : Bool) : Im H (.bl b) (.bool b)
  | int (i : Int) : Im H (.int i) (.int i)
  | str (x : Str) : Im H (.str x) (.str x)
  | tup {a : Addr} {xs : List V} {ds : List PyData} : H a = some (.tup xs) → xs.length ≤ 1000 → ImAll H xs ds → Im H (.ref a) (.tuple ds)
inductive ImAll (H : Hp) : List V → List PyData → Prop
  | nil : ImAll H [] []
  | cons {v : V} {vs : List V} {d : PyData} {ds : List PyData} : Im H v d → ImAll H vs ds → ImAll H (v :: vs) (d :: ds)
end
mutual
theorem Im.go {H H' : Hp} (e : ∀ a xs, H a = some (.tup xs) → H' a = some (.tup xs)) : ∀ (d : PyData) (v : V), Im H v d → Im H' v d
  | .none, _, .non => .non
  | .bool _, _, .bl b => .bl b
  | .int _, _, .int i => .int i
  | .str _, _, .str x => .str x
  | .tuple ds, _, .tup h l k => .tup (e _ _ h) l (ImAll.go e ds _ k)
theorem ImAll.go {H H' : Hp} (e : ∀ a xs, H a = some (.tup xs) → H' a = some (.tup xs)) : ∀ (ds : List PyData) (vs : List V), ImAll H vs ds → ImAll H' vs ds
  | [], _, .nil => .nil
  | d :: ds, _, .cons h k => .cons (Im.go e d _ h) (ImAll.go e ds _ k)
end
theorem Im.ext {M : List Addr} {H H' : Hp} {v : V} {d : PyData} (h : Im H v d) (e : Ext M H H') : Im H' v d := Im.go (fun _ _ q => e.tup q) d v h
theorem ImAll.ext {M : List Addr} {H H' : Hp} {v : List V} {d : List PyData} (h : ImAll H v d) (e : Ext M H H') : ImAll H' v d := ImAll.go (fun _ _ q => e.tup q) d v h
theorem Im.lk {p : Addr} {u : HO} {od : Obj} {H H' : Hp} {v : V} {d : PyData} (h : Im H v d) (e : Lk p u od H H') : Im H' v d := Im.go (fun _ _ q => e.tup q) d v h
mutual
theorem Im.dp {K : PySem.W.Frag} {H : Hp} : ∀ (d : PyData) (v : V), Im H v d → Dp K H v d
  | .none, _, .non => .non
  | .bool _, _, .bl b => .bl b
  | .int _, _, .int i => .int i
  | .str _, _, .str x => .str x
  | .tuple ds, _, .tup h _ k => .tup (sqt h) (ImAll.dp ds _ k)
theorem ImAll.dp {K : PySem.W.Frag} {H : Hp} : ∀ (ds : List PyData) (vs : List V), ImAll H vs ds → DpAll K H vs ds
  | [], _, .nil => .nil
  | d :: ds, _, .cons h k => .cons (Im.dp d _ h) (ImAll.dp ds _ k)
end
theorem ImAll.len {H : Hp} : ∀ {vs : List V} {ds : List PyData}, ImAll H vs ds → vs.length = ds.length
  | _, _, .nil => rfl
  | _, _, .cons _ k => congrArg (· + 1) k.len
theorem ImAll.at {H : Hp} : ∀ {vs : List V} {ds : List PyData} {i : Nat} {d : PyData}, ImAll H vs ds → ds[i]? = some d → ∃ v, vs[i]? = some v ∧ Im H v d
  | _, _, 0, _, .cons h _, e => by cases e; exact ⟨_, rfl, h⟩
  | _, _, i + 1, _, .cons _ k, e => ImAll.at (i := i) k e
theorem ImAll.at' {H : Hp} : ∀ {vs : List V} {ds : List PyData} {i : Nat} {v : V}, ImAll H vs ds → vs[i]? = some v → ∃ d, ds[i]? = some d ∧ Im H v d
  | _, _, 0, _, .cons h _, e => by cases e; exact ⟨_, rfl, h⟩
  | _, _, i + 1, _, .cons _ k, e => ImAll.at' (i := i) k e
theorem ImAll.snoc {H : Hp} {v : V} {d : PyData} (h : Im H v d) : ∀ {vs : List V} {ds : List PyData}, ImAll H vs ds → ImAll H (vs ++ [v]) (ds ++ [d])
  | _, _, .nil => .cons h .nil
  | _, _, .cons g k => .cons g (ImAll.snoc h k)
theorem Im.tupE {H : Hp} {v : V} {ds : List PyData} (h : Im H v (.tuple ds)) : ∃ a xs, v = .ref a ∧ H a = some (.tup xs) ∧ ImAll H xs ds := by
  cases h with
  | tup h _ k => exact ⟨_, _, rfl, h, k⟩
/-- an equation of data -/
theorem w_eqD {K : PySem.W.Frag} {H : Hp} {Q : VK} {x y : V} {d e : PyData} (hx : Im H x d) (hy : Im H y e) (sd : SeqAt.shaped d = true) (se : SeqAt.shaped e = true) (q : Q (.bl (PyData.eqv d e)) H) : rEqD K x y H Q := ⟨d, e, hx.dp, hy.dp, sd, se, q⟩
theorem w_neD {K : PySem.W.Frag} {H : Hp} {Q : VK} {x y : V} {d e : PyData} (hx : Im H x d) (hy : Im H y e) (sd : SeqAt.shaped d = true) (se : SeqAt.shaped e = true) (q : Q (.bl (!PyData.eqv d e)) H) : rNeD K x y H Q := ⟨d, e, hx.dp, hy.dp, sd, se, q⟩

/-! ### dicts whose keys are slots, read as functions -/
def ORel (H : Hp) : Option V → Option PyData → Prop
  | none, none => True
  | some v, some d => Im H v d
  | _, _ => False
theorem ORel.ext {M : List Addr} {H H' : Hp} {x : Option V} {y : Option PyData} (h : ORel H x y) (e : Ext M H H') : ORel H' x y := by
  cases x <;> cases y
  · exact h
  · exact h
  · exact h
  · exact Im.ext h e
theorem ORel.lk {p : Addr} {u : HO} {od : Obj} {H H' : Hp} {x : Option V} {y : Option PyData} (h : ORel H x y) (e : Lk p u od H H') : ORel H' x y := by
  cases x <;> cases y
  · exact h
  · exact h
  · exact h
  · exact Im.lk h e
theorem ORel.some {H : Hp} {x : Option V} {d : PyData} (h : ORel H x (Option.some d)) : ∃ v, x = Option.some v ∧ Im H v d := by
  cases x with
  | none => exact h.elim
  | some v => exact ⟨v, rfl, h⟩
theorem ORel.none {H : Hp} {x : Option V} (h : ORel H x Option.none) : x = Option.none := by
  cases x with
  | none => rfl
  | some v => exact h.elim
theorem ORel.iss {H : Hp} {x : Option V} {y : Option PyData} (h : ORel H x y) : x.isSome = y.isSome := by
  cases x <;> cases y <;> first | rfl | exact h.elim
abbrev Fd := Slot → Option PyData
structure DMk (U : List Slot) (H : Hp) (kvs : List (List Key × V)) (ks : List Slot) (f : Fd) : Prop where
  keys : kvs.map (·.1) = ks.map sKey
  nd : ks.Nodup
  sub : ∀ s ∈ ks, s ∈ U
  val : ∀ s, ORel H (valV kvs (sKey s)) (f s)
theorem DMk.ext {U : List Slot} {M : List Addr} {H H' : Hp} {kvs : List (List Key × V)} {ks : List Slot} {f : Fd} (h : DMk U H kvs ks f) (e : Ext M H H') : DMk U H' kvs ks f := ⟨h.keys, h.nd, h.sub, fun s => (h.val s).ext e⟩
theorem DMk.lk {U : List Slot} {p : Addr} {u : HO} {od : Obj} {H H' : Hp} {kvs : List (List Key × V)} {ks : List Slot} {f : Fd} (h : DMk U H kvs ks f) (e : Lk p u od H H') : DMk U H' kvs ks f := ⟨h.keys, h.nd, h.sub, fun s => (h.val s).lk e⟩
theorem val_mem {kvs : List (List Key × V)} {k : List Key} : (valV kvs k).isSome = true ↔ k ∈ kvs.map (·.1) := by
  rw [← valV_any, List.any_eq_true]
  constructor
  · rintro ⟨p, hp, e⟩
    exact List.mem_map.mpr ⟨p, hp, of_decide_eq_true e⟩
  · intro h
    obtain ⟨p, hp, e⟩ := List.mem_map.mp h
    exact ⟨p, hp, decide_eq_true e⟩
theorem DMk.mem {U : List Slot} {H : Hp} {kvs : List (List Key × V)} {ks : List Slot} {f : Fd} (h : DMk U H kvs ks f) {s : Slot} : s ∈ ks ↔ (f s).isSome = true := by
  rw [← (h.val s).iss, val_mem, h.keys, List.mem_map]
  constructor
  · intro m; exact ⟨s, m, rfl⟩
  · rintro ⟨t, m, e⟩; rw [← sKey_inj e]; exact m
theorem DMk.len {U : List Slot} {H : Hp} {kvs : List (List Key × V)} {ks : List Slot} {f : Fd} (h : DMk U H kvs ks f) : kvs.length = ks.length := by
  have := congrArg List.length h.keys
  rwa [List.length_map, List.length_map] at this
theorem DMk.small {U : List Slot} {H : Hp} {kvs : List (List Key × V)} {ks : List Slot} {f : Fd} (h : DMk U H kvs ks f) (hU : U.length ≤ 1000) : kvs.length ≤ 1000 := by
  rw [h.len]; exact Nat.le_trans (nodup_len h.nd h.sub) hU
theorem DMk.at {U : List Slot} {H : Hp} {kvs : List (List Key × V)} {ks : List Slot} {f : Fd} (h : DMk U H kvs ks f) {i : Nat} {k : List Key} {v : V} (e : kvs[i]? = some (k, v)) : ∃ s d, ks[i]? = some s ∧ k = sKey s ∧ f s = some d ∧ valV kvs k = some v ∧ Im H v d := by
  have e1 : (kvs.map (·.1))[i]? = some k := by rw [List.getElem?_map, e]; rfl
  rw [h.keys, List.getElem?_map] at e1
  cases q : ks[i]? with
  | none => rw [q] at e1; cases e1
  | some s =>
    rw [q] at e1
    have e2 : sKey s = k := Option.some.inj e1
    have m : s ∈ ks := List.mem_of_getElem? q
    have m2 := h.mem.mp m
    obtain ⟨d, hd⟩ := Option.isSome_iff_exists.mp m2
    have o := h.val s
    rw [hd, e2] at o
    obtain ⟨v', hv, im⟩ := o.some
    have nk : (kvs.map (·.1)).Nodup := by
      rw [h.keys]
      exact List.pairwise_map.mpr (h.nd.imp fun hn e => hn (sKey_inj e))
    have hv2 : valV kvs k = some v := by
      clear hv im o hd m2 m e2 q e1 h
      induction kvs generalizing i with
      | nil => simp at e
      | cons p r ih =>
        cases i with
        | zero =>
          have : p = (k, v) := Option.some.inj e
          subst this
          exact valV_pos rfl
        | succ i =>
          have e' : r[i]? = some (k, v) := e
          have km : k ∈ r.map (·.1) := List.mem_map.mpr ⟨_, List.mem_of_getElem? e', rfl⟩
          rw [List.map_cons, List.nodup_cons] at nk
          rw [valV_neg (fun z => nk.1 (z ▸ km))]
          exact ih e' nk.2
    rw [hv] at hv2
    cases hv2
    exact ⟨s, d, rfl, e2.symm, hd, hv, im⟩
/-- a dict of slots in use; one that may be locked -/
def DM (U : List Slot) (H : Hp) (p : Addr) (f : Fd) : Prop := ∃ kvs ks, H p = some (.dT kvs) ∧ DMk U H kvs ks f
def DR (U : List Slot) (H : Hp) (p : Addr) (f : Fd) : Prop := ∃ kvs ks, Rd H p (.dT kvs) ∧ DMk U H kvs ks f
theorem DM.dr {U : List Slot} {H : Hp} {p : Addr} {f : Fd} : DM U H p f → DR U H p f := fun ⟨kvs, ks, h, k⟩ => ⟨kvs, ks, .inl h, k⟩
theorem DM.ext {U : List Slot} {M : List Addr} {H H' : Hp} {p : Addr} {f : Fd} (h : DM U H p f) (e : Ext M H H') (n : p ∉ M) : DM U H' p f := by
  obtain ⟨kvs, ks, h, k⟩ := h
  exact ⟨kvs, ks, e.keep _ _ h n, k.ext e⟩
theorem DR.ext {U : List Slot} {M : List Addr} {H H' : Hp} {p : Addr} {f : Fd} (h : DR U H p f) (e : Ext M H H') (n : p ∉ M) : DR U H' p f := by
  obtain ⟨kvs, ks, h, k⟩ := h
  rcases h with h | ⟨o, h⟩
  · exact ⟨kvs, ks, .inl (e.keep _ _ h n), k.ext e⟩
  · exact ⟨kvs, ks, .inr ⟨o, e.imm _ _ h trivial⟩, k.ext e⟩
theorem DR.lk {U : List Slot} {H H' : Hp} {p q : Addr} {u : HO} {od : Obj} {f : Fd} (h : DR U H p f) (e : Lk q u od H H') : DR U H' p f := by
  obtain ⟨kvs, ks, h, k⟩ := h
  rcases h with h | ⟨o, h⟩
  · by_cases z : p = q
    · subst z
      have := e.was
      rw [h] at this
      cases this
      exact ⟨kvs, ks, .inr ⟨od, e.at⟩, k.lk e⟩
    · exact ⟨kvs, ks, .inl (e.keep h z), k.lk e⟩
  · exact ⟨kvs, ks, .inr ⟨o, e.frz h⟩, k.lk e⟩
theorem DM.lk {U : List Slot} {H H' : Hp} {p q : Addr} {u : HO} {od : Obj} {f : Fd} (h : DM U H p f) (e : Lk q u od H H') (n : p ≠ q) : DM U H' p f := by
  obtain ⟨kvs, ks, h, k⟩ := h
  exact ⟨kvs, ks, e.keep h n, k.lk e⟩
theorem DM.ne {U : List Slot} {H : Hp} {p q : Addr} {f : Fd} (h : DM U H p f) (n : H q = none) : p ≠ q := by
  obtain ⟨kvs, ks, h, k⟩ := h
  exact ne_of_none h n
theorem DR.ne {U : List Slot} {H : Hp} {p q : Addr} {f : Fd} (h : DR U H p f) (n : H q = none) : p ≠ q := by
  obtain ⟨kvs, ks, h, k⟩ := h
  rcases h with h | ⟨o, h⟩ <;> exact ne_of_none h n
theorem DM.nil {U : List Slot} {H : Hp} {p : Addr} (h : H p = some (.dT [])) : DM U H p fun _ => none := ⟨[], [], h, ⟨rfl, List.nodup_nil, fun _ m => (nomatch m), fun _ => trivial⟩⟩
theorem DM.congr {U : List Slot} {H : Hp} {p : Addr} {f g : Fd} (h : DM U H p f) (e : ∀ s, f s = g s) : DM U H p g := by rw [← funext e]; exact h
theorem DM.fsub {U : List Slot} {H : Hp} {p : Addr} {f : Fd} (h : DM U H p f) {s : Slot} (e : (f s).isSome = true) : s ∈ U := by
  obtain ⟨kvs, ks, h, k⟩ := h
  exact k.sub _ (k.mem.mpr e)
theorem DR.fsub {U : List Slot} {H : Hp} {p : Addr} {f : Fd} (h : DR U H p f) {s : Slot} (e : (f s).isSome = true) : s ∈ U := by
  obtain ⟨kvs, ks, h, k⟩ := h
  exact k.sub _ (k.mem.mpr e)
def putF (f : Fd) (s : Slot) (d : PyData) : Fd := fun t => if t = s then some d else f t
theorem DMk.put {U : List Slot} {H : Hp} {kvs : List (List Key × V)} {ks : List Slot} {f : Fd} (h : DMk U H kvs ks f) {s : Slot} (m : s ∈ U) {v : V} {d : PyData} (i : Im H v d) : ∃ ks', DMk U H (putK kvs (sKey s) v) ks' (putF f s d) := by
  have hv : ∀ t, ORel H (valV (putK kvs (sKey s) v) (sKey t)) (putF f s d t) := fun t => by
    rw [valV_put]
    unfold putF
    by_cases e : t = s
    · subst e; rw [if_pos rfl, if_pos rfl]; exact i
    · rw [if_neg e, if_neg (fun z => e (sKey_inj z))]; exact h.val t
  by_cases hs : s ∈ ks
  · refine ⟨ks, ?_, h.nd, h.sub, hv⟩
    have : (kvs.any fun kv => decide (kv.1 = sKey s)) = true := by
      rw [valV_any, val_mem, h.keys]; exact List.mem_map.mpr ⟨s, hs, rfl⟩
    unfold putK
    rw [this, if_pos rfl, List.map_map, ← h.keys]
    refine List.map_congr_left fun p _ => ?_
    show (if p.1 = sKey s then (p.1, v) else p).1 = p.1
    by_cases z : p.1 = sKey s
    · rw [if_pos z]
    · rw [if_neg z]
  · have no : valV kvs (sKey s) = none := by
      have := fun z => hs (h.mem.mpr z)
      rw [← (h.val s).iss] at this
      exact Option.not_isSome_iff_eq_none.mp this
    refine ⟨ks ++ [s], ?_, ?_, fun t mt => ?_, hv⟩
    · rw [putK_new v no, List.map_append, List.map_append, h.keys]; rfl
    · rw [List.nodup_append]
      refine ⟨h.nd, List.nodup_cons.mpr ⟨fun z => (nomatch z), List.nodup_nil⟩, fun a ha b hb e => ?_⟩
      subst e
      rw [List.mem_singleton.mp hb] at ha
      exact hs ha
    · rcases List.mem_append.mp mt with z | z
      · exact h.sub t z
      · rw [List.mem_singleton.mp z]; exact m
/-! readings of such dicts -/
section
variable {U : List Slot} {K : PySem.W.Frag} {σ : St} {H : Hp} {Q : VK} {a b p q : Addr} {f g : Fd} {s : Slot} {v : V}
theorem dgetT {kvs : List (List Key × V)} (h : Rd H a (.dT kvs)) (eb : H b = some (.tup (sVs s))) : DGet H a (.ref b) (valV kvs (sKey s)) := .inr ⟨kvs, sKey s, b, h, rfl, eb, rfl⟩
theorem w_dgetT {d : PyData} {P : V → Prop} (h : DR U H a f) (eb : H b = some (.tup (sVs s))) (e : f s = some d) (k : ∀ v, Im H v d → P v) : ∃ c v, V.ref a = .ref c ∧ DGet H c (.ref b) (some v) ∧ P v := by
  obtain ⟨kvs, ks, h, m⟩ := h
  have o := m.val s
  rw [e] at o
  obtain ⟨v, hv, i⟩ := o.some
  exact ⟨a, v, rfl, hv ▸ dgetT h eb, k v i⟩
theorem w_dinT {P : Option V → Prop} (h : DR U H a f) (eb : H b = some (.tup (sVs s))) (k : ∀ o, o.isSome = (f s).isSome → P o) : ∃ c o, V.ref a = .ref c ∧ DGet H c (.ref b) o ∧ P o := by
  obtain ⟨kvs, ks, h, m⟩ := h
  exact ⟨a, _, rfl, dgetT h eb, k _ (m.val s).iss⟩
theorem w_get1 {te : TE} {ty : TE} (h : te σ H fun x H1 => ∃ a, x = .ref a ∧ IsD H1 a ∧ ty σ H1 fun y H2 => ∃ o, DGet H2 a y o ∧ Q (o.getD .non) H2) : tDGet1 te ty σ H Q := h
theorem w_isD {P : Addr → Prop} (h : DR U H a f) (k : P a) : ∃ c, V.ref a = .ref c ∧ IsD H c ∧ P c := by
  obtain ⟨kvs, ks, h, m⟩ := h
  exact ⟨a, rfl, .inr ⟨kvs, h⟩, k⟩
theorem w_get1T {P : Option V → Prop} (h : DR U H a f) (eb : H b = some (.tup (sVs s))) (k : ∀ o, Im H (o.getD .non) ((f s).getD .none) → P o) : ∃ o, DGet H a (.ref b) o ∧ P o := by
  obtain ⟨kvs, ks, h, m⟩ := h
  refine ⟨_, dgetT h eb, k _ ?_⟩
  have o := m.val s
  revert o
  cases valV kvs (sKey s) <;> cases f s <;> intro o
  · exact .non
  · exact o.elim
  · exact o.elim
  · exact o
theorem w_dputT {N : Hp → Prop} {d : PyData} (hU : U.length ≤ 1000) (h : DM U H a f) (eb : H b = some (.tup (sVs s))) (m : s ∈ U) (i : Im H v d) (k : ∀ H', Ext [a] H H' → DM U H' a (putF f s d) → N H') :
    ∃ c H4, V.ref a = .ref c ∧ DPut H c (.ref b) v H4 ∧ N H4 := by
  obtain ⟨kvs, ks, h, w⟩ := h
  have eb' : H b = some (.tup ((sKey s).map kV)) := eb
  have e : Ext [a] H (upd H a (.dT (putK kvs (sKey s) v))) := Ext.mut h (fun z => z) (List.mem_singleton.mpr rfl)
  refine ⟨a, _, rfl, DPut.t (k := sKey s) h eb' (szl (Nat.lt_of_le_of_lt (w.small hU) (by decide))), k _ e ?_⟩
  obtain ⟨ks', w'⟩ := w.put m i
  exact ⟨_, ks', upd_same, w'.ext e⟩
/-- len of a list, a tuple, a dict with tuple keys -/
def cLenX (K : PySem.W.Frag) : RC := fun xs H Q => cLen K xs H Q ∨ ∃ p kvs, xs = [V.ref p] ∧ H p = some (.dT kvs) ∧ Q (.int kvs.length) H
theorem zc_lenX {X : Cx} : CallR X (.builtin "len") (cLenX X.K) := by
  intro pins s σ H vs us Q I r h
  rcases h with h | ⟨p, kvs, e, hp, q⟩
  · exact zc_len pins s σ H vs us Q I r h
  · exact call_len_dT pins s σ H vs us Q I r ⟨p, kvs, e, hp, q⟩
/-- list(d), d a dict of slots -/
def cListT : RC := fun xs H Q => ∃ d kvs, xs = [V.ref d] ∧ Rd H d (.dT kvs) ∧ ∀ bs, IsKeys H kvs bs → Alc (.lst (bs.map V.ref)) H Q
theorem zc_listT {X : Cx} (hc : X.calm = true) : CallR X (.type "list") cListT := by
  intro pins s σ H vs us Q I r h
  obtain ⟨d, kvs, e, hd, q⟩ := h
  exact call_list_dT hc pins s σ H vs us Q I r ⟨d, kvs, e, hd, fun p bs np ib => q bs ib p np⟩
theorem DMk.slots {kvs : List (List Key × V)} {ks : List Slot} {bs : List Addr} (m : DMk U H kvs ks f) (i : IsKeys H kvs bs) : SlotsAt H bs ks := by
  have e := m.keys
  clear m
  unfold IsKeys at i
  unfold SlotsAt
  induction i generalizing ks with
  | nil => cases ks with
    | nil => exact .nil
    | cons s r => cases e
  | cons h t ih => cases ks with
    | nil => cases e
    | cons s r =>
      injection e with e1 e2
      refine .cons ?_ (ih e2)
      show _ = some (HO.tup (sVs s))
      rw [h]
      have e1' : _ = sKey s := e1
      rw [← sKey_vs, ← e1']
theorem w_listT {P : V → Hp → Prop} (h : DR U H a f) (k : ∀ p bs ks H', Ext [] H H' → H p = none → H' p = some (.lst (bs.map V.ref)) → SlotsAt H' bs ks → ks.Nodup → (∀ s, s ∈ ks ↔ (f s).isSome = true) → ks.length ≤ U.length → P (.ref p) H') : cListT [.ref a] H P := by
  obtain ⟨kvs, ks, h, m⟩ := h
  refine ⟨a, kvs, rfl, h, fun bs ib => w_alc fun p H' e n hp => ?_⟩
  exact k p bs ks H' e n hp ((m.slots ib).ext e) m.nd (fun s => m.mem) (nodup_len m.nd m.sub)
/-- sorted(d), d a dict of slots; the dict is not changed by it -/
def cSortT (K : PySem.W.Frag) : RC := fun vs H Q => cSortSl K vs H Q ∨ ∃ (d : Addr) (kvs : List (List Key × V)) (ks : List Slot), vs = [V.ref d] ∧ Rd H d (.dT kvs) ∧ kvs.map (·.1) = ks.map sKey ∧
  ∀ (bs : List Addr) (ts : List Slot), SlotsAt H bs ts → ts.Perm ks → ts.Pairwise (fun x y => sLt y x = false) → Alc (.lst (bs.map V.ref)) H Q
theorem SlotsAt.vals {X : Cx} {pins : List (Addr × Obj)} {s : Shared} (I : L2.Inv X pins σ H s) {as : List Addr} {ss : List Slot} (hx : SlotsAt H as ss) {h' : Heap} (kp : ∀ b o, s.heap.get? b = some o → h'.get? b = some o) :
    ∀ v ∈ as.map Value.ref, IsSlotV h' v (match v with | .ref b => slotAt H b | _ => (Str.empty, 0, 0)) := by
  intro v hv
  obtain ⟨t, ht, rfl⟩ := List.mem_map.mp hv
  obtain ⟨_, its2, r2, o, ho, hc, n, hd⟩ := I.hok _ _ (SlotsAt.mem hx t ht)
  cases r2 with
  | cons ra r2 => cases r2 with
    | cons rb r2 => cases r2 with
      | cons rc r2 =>
        cases r2
        obtain ⟨t1, rfl⟩ := ra
        obtain ⟨t2, rfl⟩ := rb
        obtain ⟨t3, rfl⟩ := rc
        exact ⟨t, o, t1, t2, t3, n, rfl, kp _ _ ho, hc, hd⟩
theorem zc_sortT {X : Cx} (hc : X.calm = true) : CallR X (.builtin "sorted") (cSortT X.K) := by
  intro pins s σ H vs us Q I r h
  rcases h with h | ⟨d, kvs, ks, rfl, hd, hk, q⟩
  · exact zc_sortSl pins s σ H vs us Q I r h
  obtain ⟨u, rfl, rx⟩ := r.one
  cases rx
  obtain ⟨z, hs, ys, pr, o, es, ep, ho, hx, hdt, he, hn⟩ := (show ObjOk X.prog X.w H s.heap d (.dT kvs) from hd.ok I.hok)
  have l1 : es.size = ys.length := size_of_entries he
  have l2 : kvs.length = ys.length := Paired.length pr
  refine Calls.call_function_entry PyProof.Rows.kind_sorted PyProof.Rows.plain_sorted PyProof.Rows.entry_sorted (PyProof.Rows.args_sorted1 _) ?_
  unfold Builtin.«sorted»
  refine wpAny_bind (m := checkCount "sorted" 1 1 _) (wpAny_pure ?_)
  refine wpAny_bind (PySem.W.kdu_collect (A := X.A.in1) (kdl_raw hs hx hdt) (I.ok.hd hc) ho (by omega) fun h' tk acc' kp it => ?_)
  have ea : acc'.toList = ys.map fun x => Value.ref x.2.1 := by
    have hl : acc'.toList.length = ys.length := by rw [Array.length_toList, it.1]; exact l1
    apply List.ext_getElem?
    intro j
    rw [List.getElem?_map]
    cases hj : acc'.toList[j]? with
    | none =>
      have h1 := List.getElem?_eq_none_iff.mp hj
      rw [List.getElem?_eq_none (by omega)]
      all_goals rfl
    | some v =>
      obtain ⟨en, hen, hv⟩ := it.2 j v (by rw [← Array.getElem?_toList]; exact hj)
      have qe := entry_at he j
      rw [hen] at qe
      cases hb : ys[j]? with
      | none =>
        rw [hb] at qe
        exact nomatch (show some en = none from qe)
      | some b =>
        rw [hb] at qe
        have e2 : en = entryOfKey (tupleKind (mixKind X.prog X.w)) b := Option.some.inj qe
        rw [hv, e2]
        all_goals rfl
  have eb : acc'.toList = (ys.map fun x => x.2.1).map Value.ref := by rw [ea, List.map_map]; all_goals rfl
  have ik := isKeys_of pr
  generalize (ys.map fun x => x.2.1) = as at eb ik
  have hx2 : SlotsAt H as ks := by
    have e := hk
    clear q hd hx pr l2 ho he hn z hk
    unfold IsKeys at ik
    unfold SlotsAt
    clear eb ea
    induction ik generalizing ks with
    | nil => cases ks with
      | nil => exact .nil
      | cons s r => cases e
    | cons h t ih => cases ks with
      | nil => cases e
      | cons s r =>
        injection e with e1 e2
        refine .cons ?_ (ih (ks := r) e2)
        show _ = some (HO.tup (sVs s))
        rw [h]
        have e1' : _ = sKey s := e1
        rw [← sKey_vs, ← e1']
  have lz : (as.map Value.ref).length ≤ sizeLine := by
    rw [← eb, Array.length_toList, it.1, l1]; omega
  have I1 : L2.Inv X pins σ H { s with heap := h', toks := tk } := I.kept kp
  rw [eb]
  refine wpAny_bind (wpAny_newList ?_ lz)
  have hoL : (h'.push (seqObj "list" (as.map Value.ref).toArray 0)).get? h'.objs.size = some (seqObj "list" (as.map Value.ref).toArray 0) := Heap.get?_push_size _ rfl
  show wpAny _ _ _ _ _ { s with heap := h'.push (seqObj "list" (as.map Value.ref).toArray 0), toks := tk }
  let k : Value → Slot := fun v => match v with | .ref b => slotAt H b | _ => (Str.empty, 0, 0)
  refine wpAny_bind (wpAny_holding (wpAny_call_entry PyProof.Rows.slot_list_sort ⟨_, hoL, rfl⟩ PyProof.Rows.entry_list_sort
    (SrtO.list_sort_ord (s := { s with heap := h'.push (seqObj "list" (as.map Value.ref).toArray 0), toks := tk }) (sLt_swo k) hoL lz (fun h2 => slots_able (by omega) (SlotsAt.vals I hx2 fun b o e => Heap.get?_push_of_some _ (kp b o e)) fun o e c => ?_) fun out h1 hb => ⟨_, rfl, ?_⟩) (PyProof.Rows.args_list_sort _)))
  · rw [hoL] at e
    cases e
    exact absurd (Value.type.inj c) (by decide)
  have h2 := hb.perm
  obtain ⟨e', he'⟩ := PyProof.Rows.sortedHeap_at (vs := as.map Value.ref) (out := out.toArray) hoL
  obtain ⟨bs, hbs⟩ := refs_list (us := out) fun u hu => by
    obtain ⟨t, _, e⟩ := List.mem_map.mp (h2.mem_iff.mp hu)
    exact ⟨t, e.symm⟩
  subst hbs
  have hp : bs.Perm as := perm_of_map h2
  have hbm : ∀ b ∈ bs, H b = some (.tup (sVs (slotAt H b))) := fun b m => SlotsAt.mem hx2 b (hp.mem_iff.mp m)
  have hq := q bs (bs.map (slotAt H)) (SlotsAt.of hbm) (by rw [SlotsAt.map hx2]; exact hp.map _) (by
    rw [List.pairwise_map]
    exact List.pairwise_map.mp h1)
  refine wpAny_pure ⟨_, rfl, .ref h'.objs.size, upd H h'.objs.size (.lst (bs.map V.ref)), I1.laid (t' := tk) (fun b u e => ?_) (Nat.le_refl _)
    (show ObjOk X.prog X.w _ _ _ (.lst (bs.map V.ref)) from ⟨?_, bs.map Value.ref, e', vals_refs bs, he'⟩), rfl, hq _ (I1.hok.fresh (Nat.le_refl _))⟩
  · have hb : b < h'.objs.size := Heap.lt_size e
    rw [PyProof.Rows.sortedHeap_old (Nat.ne_of_lt hb) (by rw [size_push']; exact Nat.lt_succ_of_lt hb)]
    exact Heap.get?_push_of_some _ e
  · rw [List.length_map, hp.length_eq]
    rw [List.length_map] at lz
    exact lz
end
end Zk

set_option Elab.async false
set_option linter.all false
set_option maxRecDepth 100000
set_option maxHeartbeats 4000000
namespace Zk
open PySem PySem.Spec L2
open PyProof.Rows hiding St

theorem depthAll_mem {d : PyData} : ∀ {ds : List PyData}, d ∈ ds → d.depth ≤ PyData.depthAll ds
  | x :: xs, h => by
    rw [PyData.depthAll]
    rcases List.mem_cons.mp h with h | h
    · rw [h]; exact Nat.le_max_left _ _
    · exact Nat.le_trans (depthAll_mem h) (Nat.le_max_right _ _)
theorem depth_tup (ds : List PyData) : (PyData.tuple ds).depth = PyData.depthAll ds + 1 := by rw [PyData.depth]
/-- two that are told to be the same: data of the same form, lists of such, dicts of slots that are the same functions -/
def Sm (U : List Slot) : Nat → Hp → V → V → Prop
  | 0, _, _, _ => False
  | n + 1, H, a, b => (∃ d, d.depth ≤ n ∧ Im H a d ∧ Im H b d) ∨ (∃ p q xs ys, a = .ref p ∧ b = .ref q ∧ H p = some (.lst xs) ∧ H q = some (.lst ys) ∧ xs.length ≤ 1000 ∧ Paired (Sm U n H) xs ys) ∨
    (3 ≤ n ∧ U.length ≤ 1000 ∧ ∃ p q f, a = .ref p ∧ b = .ref q ∧ DM U H p f ∧ DM U H q f ∧ ∀ s d, f s = some d → d.depth < n)
theorem Sm.im {U : List Slot} {n : Nat} {H : Hp} {a b : V} {d : PyData} (l : d.depth < n) (h : Im H a d) (k : Im H b d) : Sm U n H a b := by
  cases n with
  | zero => omega
  | succ n => exact .inl ⟨d, by omega, h, k⟩
theorem Sm.ext {U : List Slot} {H H' : Hp} (e : Ext [] H H') : ∀ {n : Nat} {a b : V}, Sm U n H a b → Sm U n H' a b
  | 0, _, _, h => h
  | n + 1, a, b, h => by
    rcases h with ⟨d, l, i, j⟩ | ⟨p, q, xs, ys, rfl, rfl, hp, hq, lz, w⟩ | ⟨l, hU, p, q, f, rfl, rfl, hp, hq, w⟩
    · exact .inl ⟨d, l, i.ext e, j.ext e⟩
    · exact .inr (.inl ⟨p, q, xs, ys, rfl, rfl, e.keep _ _ hp List.not_mem_nil, e.keep _ _ hq List.not_mem_nil, lz, Paired.mapP w fun _ _ z => Sm.ext e z⟩)
    · exact .inr (.inr ⟨l, hU, p, q, f, rfl, rfl, hp.ext e List.not_mem_nil, hq.ext e List.not_mem_nil, w⟩)
theorem sle_anti {x y : Slot} (h : sLt y x = false) (k : sLt x y = false) : x = y := by
  rcases SLt.tri x y with z | z | z
  · exact absurd z (sLt_no.mp k)
  · exact z
  · exact absurd z (sLt_no.mp h)
theorem sorted_uniq : ∀ {xs ys : List Slot}, xs.Perm ys → xs.Pairwise (fun x y => sLt y x = false) → ys.Pairwise (fun x y => sLt y x = false) → xs = ys
  | [], ys, p, _, _ => (List.nil_perm.mp p).symm
  | x :: xs, [], p, _, _ => absurd (List.perm_nil.mp p) (fun z => nomatch z)
  | x :: xs, y :: ys, p, h, k => by
    obtain ⟨h1, h2⟩ := List.pairwise_cons.mp h
    obtain ⟨k1, k2⟩ := List.pairwise_cons.mp k
    have e : x = y := by
      have m1 : x ∈ y :: ys := p.mem_iff.mp List.mem_cons_self
      have m2 : y ∈ x :: xs := p.mem_iff.mpr List.mem_cons_self
      rcases List.mem_cons.mp m1 with m1 | m1
      · exact m1
      · rcases List.mem_cons.mp m2 with m2 | m2
        · exact m2.symm
        · exact sle_anti (h1 y m2) (k1 x m1)
    subst e
    rw [sorted_uniq ((List.perm_cons x).mp p) h2 k2]
theorem DMk.perm {U : List Slot} {H H' : Hp} {kvs kvs' : List (List Key × V)} {ks ks' : List Slot} {f : Fd} (h : DMk U H kvs ks f) (h' : DMk U H' kvs' ks' f) : ks.Perm ks' :=
  (List.perm_ext_iff_of_nodup h.nd h'.nd).mpr fun s => by rw [h.mem, h'.mem]
/-- the items of a slot's tuple -/
def sD (s : Slot) : PyData := .tuple [.str s.1, .int s.2.1, .int s.2.2]
theorem sD_depth (s : Slot) : (sD s).depth = 1 := by simp [sD, PyData.depth, PyData.depthAll]
theorem im_slot {H : Hp} {b : Addr} {s : Slot} (h : H b = some (.tup (sVs s))) : Im H (.ref b) (sD s) := .tup h (show 3 ≤ 1000 by decide) (.cons (.str _) (.cons (.int _) (.cons (.int _) .nil)))
theorem sm_slots {U : List Slot} {n : Nat} {H : Hp} (hn : 2 ≤ n) : ∀ {as bs : List Addr} {ss : List Slot}, SlotsAt H as ss → SlotsAt H bs ss → Paired (Sm U n H) (as.map V.ref) (bs.map V.ref)
  | _, _, _, .nil, .nil => .nil
  | _, _, _, .cons h t, .cons k u => .cons (Sm.im (d := sD _) (by rw [sD_depth]; omega) (im_slot h) (im_slot k)) (sm_slots hn t u)

theorem SlotsAt.app {H : Hp} {as bs : List Addr} {ss ts : List Slot} (h : SlotsAt H as ss) (k : SlotsAt H bs ts) : SlotsAt H (as ++ bs) (ss ++ ts) := by
  unfold SlotsAt at *
  induction h with
  | nil => exact k
  | cons h t ih => exact .cons h ih
theorem SlotsAt.snoc {H : Hp} {as : List Addr} {b : Addr} {ss : List Slot} {s : Slot} (h : SlotsAt H as ss) (k : H b = some (.tup (sVs s))) : SlotsAt H (as ++ [b]) (ss ++ [s]) := h.app (.cons k .nil)
theorem SlotsAt.len {H : Hp} {as : List Addr} {ss : List Slot} (h : SlotsAt H as ss) : as.length = ss.length := paired_len h
theorem SlotsAt.get {H : Hp} {as : List Addr} {ss : List Slot} (h : SlotsAt H as ss) {i : Nat} {v : V} (e : (as.map V.ref)[i]? = some v) : ∃ a s, v = .ref a ∧ as[i]? = some a ∧ ss[i]? = some s ∧ H a = some (.tup (sVs s)) := by
  rw [List.getElem?_map] at e
  cases q : as[i]? with
  | none => rw [q] at e; cases e
  | some a =>
    rw [q] at e
    obtain ⟨s, hs, hh⟩ := paired_at h q
    exact ⟨a, s, (Option.some.inj e).symm, rfl, hs, hh⟩
/-! ### walks over the keys of a dict of slots -/
section
variable {K : PySem.W.Frag} {σ : St} {H : Hp} {Q : VK} {a b : Addr} {rt : VK} {nx : St → Hp → Prop} {t : TS} {tt : TT} {te : TE} {U : List Slot} {f : Fd}
theorem w_keysT {kvs : List (List Key × V)} {o : Obj} {R : It → Hp → Prop} {i : Nat} (e : σ[i]? = some (some (.ref a))) (h : H a = some (.frz o (.dT kvs))) (q : R (Itkt a o kvs) H) : iKeys (tVar i) σ H R := ⟨.ref a, e, a, o, rfl, .inr ⟨kvs, h, q⟩⟩
theorem w_keysKT {kvs : List (List Key × V)} {o : Obj} {R : It → Hp → Prop} (h : H a = some (.frz o (.dT kvs))) (q : R (Itkt a o kvs) H) : ∃ d o, V.ref a = .ref d ∧ ((∃ kvs, H d = some (.frz o (.dK kvs)) ∧ R (Itk d o kvs) H) ∨ ∃ kvs, H d = some (.frz o (.dT kvs)) ∧ R (Itkt d o kvs) H) := ⟨a, o, rfl, .inr ⟨kvs, h, q⟩⟩
theorem z_for_keysT {kvs : List (List Key × V)} {ks : List Slot} {H0 : Hp} (m : DMk U H0 kvs ks f) {d : Addr} {o : Obj} {g : TG} (Pv : Nat → St → Hp → Prop) (h0 : Pv 0 σ H) (hl : ∀ i σ H, i ≤ ks.length → Pv i σ H → H d = some (.frz o (.dT kvs)))
    (hs : ∀ (N : St → Hp → Prop) i s e b σ H, ks[i]? = some s → f s = some e → H b = some (.tup (sVs s)) → Pv i σ H → (∀ σ' H', Pv (i + 1) σ' H' → N σ' H') → g (.ref b) σ H fun σ2 H2 => t ⟨N, rt, nx, N⟩ σ2 H2) (hd : ∀ σ H, Pv ks.length σ H → nx σ H) :
    ∃ W : Nat → Nat → St → Hp → Prop, (∃ m, W 0 m σ H) ∧ ∀ i m σ H, W i m σ H →
      ((Itkt d o kvs).stop i H ∧ nx σ H) ∨ ((Itkt d o kvs).go i H ∧ ∃ N : St → Hp → Prop, (∀ σ' H', N σ' H' → ∃ m', m' < m ∧ W (i + 1) m' σ' H') ∧ ∀ x H', (Itkt d o kvs).yld i H x H' → g x σ H' fun σ2 H2 => t ⟨N, rt, nx, N⟩ σ2 H2) := by
  rw [← m.len] at hl hd
  refine ⟨fun i m σ H => m = kvs.length - i ∧ i ≤ kvs.length ∧ Pv i σ H, ⟨_, rfl, Nat.zero_le _, h0⟩, ?_⟩
  rintro i m' σ H ⟨rfl, hi, p⟩
  by_cases hlt : i < kvs.length
  · refine .inr ⟨⟨hl i σ H hi p, hlt⟩, Pv (i + 1), fun σ' H' p' => ⟨kvs.length - (i + 1), by omega, rfl, hlt, p'⟩, fun x H' y => ?_⟩
    obtain ⟨e, k, v, q, hk, rfl, hq⟩ := y
    subst e
    obtain ⟨s, d', hs', ek, hf, _, _⟩ := m.at hk
    subst ek
    exact hs (Pv (i + 1)) i s d' q σ _ hs' hf hq p fun _ _ q => q
  · have e : i = kvs.length := by omega
    subst e
    exact .inl ⟨⟨hl _ σ H hi p, Nat.le_refl _⟩, hd σ H p⟩
theorem z_lc_keysT {kvs : List (List Key × V)} {ks : List Slot} {H0 : Hp} (m : DMk U H0 kvs ks f) {d : Addr} {o : Obj} {g : TG} {vs : List Nat} {D : Addr} {Qd : Hp → Prop} (Pv : Nat → List V → Hp → Prop) (nD : H D = none) (h0 : ∀ H', Ext [] H H' → Pv 0 [] H') (hl : ∀ i acc H, i ≤ ks.length → Pv i acc H → H d = some (.frz o (.dT kvs)))
    (hs : ∀ (Nx : Hp → Prop) i s e b acc H, ks[i]? = some s → f s = some e → H b = some (.tup (sVs s)) → Pv i acc H → H D = some (.lst acc) → (∀ acc' H', Pv (i + 1) acc' H' → H' D = some (.lst acc') → Nx H') → g (.ref b) (wipe σ vs) H fun σ2 H2 => wipe σ2 vs = wipe σ vs ∧ tt σ2 H2 fun b H3 =>
      if b = true then te σ2 H3 fun y H4 => ∃ acc, H4 D = some (.lst acc) ∧ acc.length < sizeLine ∧ Nx (upd H4 D (.lst (acc ++ [y]))) else Nx H3) (hd : ∀ acc H, Pv ks.length acc H → H D = some (.lst acc) → Qd H) :
    ∃ W : Nat → Nat → Hp → Prop, (∃ m, W 0 m (upd H D (.lst []))) ∧ ∀ i m H, W i m H →
      ((Itkt d o kvs).stop i H ∧ Qd H) ∨ ((Itkt d o kvs).go i H ∧ ∃ Nx : Hp → Prop, (∀ H', Nx H' → ∃ m', m' < m ∧ W (i + 1) m' H') ∧ ∀ x H', (Itkt d o kvs).yld i H x H' → g x (wipe σ vs) H' fun σ2 H2 => wipe σ2 vs = wipe σ vs ∧ tt σ2 H2 fun b H3 =>
        if b = true then te σ2 H3 fun y H4 => ∃ acc, H4 D = some (.lst acc) ∧ acc.length < sizeLine ∧ Nx (upd H4 D (.lst (acc ++ [y]))) else Nx H3) := by
  rw [← m.len] at hl hd
  refine ⟨fun i m H => m = kvs.length - i ∧ i ≤ kvs.length ∧ ∃ acc, Pv i acc H ∧ H D = some (.lst acc), ⟨_, rfl, Nat.zero_le _, [], h0 _ (Ext.new nD), upd_same⟩, ?_⟩
  rintro i m' H ⟨rfl, hi, acc, p, hD⟩
  by_cases hlt : i < kvs.length
  · refine .inr ⟨⟨hl i acc H hi p, hlt⟩, (fun H => ∃ acc, Pv (i + 1) acc H ∧ H D = some (.lst acc)), fun H' p' => ⟨kvs.length - (i + 1), by omega, rfl, hlt, p'⟩, fun x H' y => ?_⟩
    obtain ⟨e, k, v, q, hk, rfl, hq⟩ := y
    subst e
    obtain ⟨s, d', hs', ek, hf, _, _⟩ := m.at hk
    subst ek
    exact hs _ i s d' q acc _ hs' hf hq p hD fun acc' H' p' h' => ⟨acc', p', h'⟩
  · have e : i = kvs.length := by omega
    subst e
    exact .inl ⟨⟨hl _ acc H hi p, Nat.le_refl _⟩, hd acc H p hD⟩
/-- .. and a dict is made of them -/
theorem w_dc {wi : TI} {g : TG} {tk tv : TE} {vs : List Nat} (h : wi σ H fun J H1 => ∀ D, H1 D = none → ∃ W : Nat → Nat → Hp → Prop, (∃ m, W 0 m (upd H1 D (.dT []))) ∧
  ∀ i m H, W i m H → (J.stop i H ∧ Q (.ref D) H) ∨ (J.go i H ∧ ∃ Nx : Hp → Prop, (∀ H', Nx H' → ∃ m', m' < m ∧ W (i + 1) m' H') ∧
    ∀ x H', J.yld i H x H' → g x (wipe σ vs) H' fun σ2 H2 => wipe σ2 vs = wipe σ vs ∧ tt σ2 H2 fun b H3 =>
      if b = true then tk σ2 H3 fun y H4 => tv σ2 H4 fun z H5 => ∃ kvs k q, y = .ref q ∧ H5 q = some (.tup (k.map kV)) ∧ H5 D = some (.dT kvs) ∧ kvs.length < sizeLine ∧ Nx (upd H5 D (.dT (putK kvs k z))) else Nx H3)) : zDcT wi g tt tk tv vs σ H Q := h
theorem w_dcput {D q : Addr} {v : V} {N : Hp → Prop} {s : Slot} {d : PyData} (hU : U.length ≤ 1000) (h : DM U H D f) (eb : H q = some (.tup (sVs s))) (m : s ∈ U) (i : Im H v d) (k : ∀ H', Ext [D] H H' → DM U H' D (putF f s d) → N H') :
    ∃ kvs k c, V.ref q = .ref c ∧ H c = some (.tup (k.map kV)) ∧ H D = some (.dT kvs) ∧ kvs.length < sizeLine ∧ N (upd H D (.dT (putK kvs k v))) := by
  obtain ⟨kvs, ks, h, w⟩ := h
  have e : Ext [D] H (upd H D (.dT (putK kvs (sKey s) v))) := Ext.mut h (fun z => z) (List.mem_singleton.mpr rfl)
  refine ⟨kvs, sKey s, q, rfl, eb, h, szl (Nat.lt_of_le_of_lt (w.small hU) (by decide)), k _ e ?_⟩
  obtain ⟨ks', w'⟩ := w.put m i
  exact ⟨_, ks', upd_same, w'.ext e⟩
theorem z_dc_keysT {kvs : List (List Key × V)} {ks : List Slot} {H0 : Hp} (m : DMk U H0 kvs ks f) {d : Addr} {o : Obj} {g : TG} {tk tv : TE} {vs : List Nat} {D : Addr} {Qd : Hp → Prop} (Pv : Nat → Hp → Prop) (h0 : ∀ H', Ext [] H H' → H' D = some (.dT []) → Pv 0 H') (nD : H D = none) (hl : ∀ i H, i ≤ ks.length → Pv i H → H d = some (.frz o (.dT kvs)))
    (hs : ∀ (Nx : Hp → Prop) i s e b H, ks[i]? = some s → f s = some e → H b = some (.tup (sVs s)) → Pv i H → (∀ H', Pv (i + 1) H' → Nx H') → g (.ref b) (wipe σ vs) H fun σ2 H2 => wipe σ2 vs = wipe σ vs ∧ tt σ2 H2 fun b H3 =>
      if b = true then tk σ2 H3 fun y H4 => tv σ2 H4 fun z H5 => ∃ kvs k q, y = .ref q ∧ H5 q = some (.tup (k.map kV)) ∧ H5 D = some (.dT kvs) ∧ kvs.length < sizeLine ∧ Nx (upd H5 D (.dT (putK kvs k z))) else Nx H3) (hd : ∀ H, Pv ks.length H → Qd H) :
    ∃ W : Nat → Nat → Hp → Prop, (∃ m, W 0 m (upd H D (.dT []))) ∧ ∀ i m H, W i m H →
      ((Itkt d o kvs).stop i H ∧ Qd H) ∨ ((Itkt d o kvs).go i H ∧ ∃ Nx : Hp → Prop, (∀ H', Nx H' → ∃ m', m' < m ∧ W (i + 1) m' H') ∧ ∀ x H', (Itkt d o kvs).yld i H x H' → g x (wipe σ vs) H' fun σ2 H2 => wipe σ2 vs = wipe σ vs ∧ tt σ2 H2 fun b H3 =>
        if b = true then tk σ2 H3 fun y H4 => tv σ2 H4 fun z H5 => ∃ kvs k q, y = .ref q ∧ H5 q = some (.tup (k.map kV)) ∧ H5 D = some (.dT kvs) ∧ kvs.length < sizeLine ∧ Nx (upd H5 D (.dT (putK kvs k z))) else Nx H3) := by
  rw [← m.len] at hl hd
  refine ⟨fun i m H => m = kvs.length - i ∧ i ≤ kvs.length ∧ Pv i H, ⟨_, rfl, Nat.zero_le _, h0 _ (Ext.new nD) upd_same⟩, ?_⟩
  rintro i m' H ⟨rfl, hi, p⟩
  by_cases hlt : i < kvs.length
  · refine .inr ⟨⟨hl i H hi p, hlt⟩, Pv (i + 1), fun H' p' => ⟨kvs.length - (i + 1), by omega, rfl, hlt, p'⟩, fun x H' y => ?_⟩
    obtain ⟨e, k, v, q, hk, rfl, hq⟩ := y
    subst e
    obtain ⟨s, d', hs', ek, hf, _, _⟩ := m.at hk
    subst ek
    exact hs (Pv (i + 1)) i s d' q _ hs' hf hq p fun _ q => q
  · have e : i = kvs.length := by omega
    subst e
    exact .inl ⟨⟨hl _ H hi p, Nat.le_refl _⟩, hd H p⟩
theorem w_sortT {P : V → Hp → Prop} (h : DR U H a f) (k : ∀ p bs ts H', Ext [] H H' → H p = none → H' p = some (.lst (bs.map V.ref)) → SlotsAt H' bs ts → ts.Nodup → (∀ s, s ∈ ts ↔ (f s).isSome = true) → ts.length ≤ U.length → ts.Pairwise (fun x y => sLt y x = false) → P (.ref p) H') : cSortT K [.ref a] H P := by
  obtain ⟨kvs, ks, h, m⟩ := h
  refine .inr ⟨a, kvs, ks, rfl, h, m.keys, fun bs ts hb hp hs => w_alc fun p H' e n hh => ?_⟩
  exact k p bs ts H' e n hh (hb.ext e) (hp.nodup_iff.mpr m.nd) (fun s => by rw [hp.mem_iff]; exact m.mem) (by rw [hp.length_eq]; exact nodup_len m.nd m.sub) hs
theorem w_sortSl {P : V → Hp → Prop} {as : List Addr} {ss : List Slot} (h : SqL K H a (as.map V.ref)) (hx : SlotsAt H as ss) (k : ∀ p bs ts H', Ext [] H H' → H p = none → H' p = some (.lst (bs.map V.ref)) → SlotsAt H' bs ts → ts.Perm ss → ts.Pairwise (fun x y => sLt y x = false) → P (.ref p) H') : cSortT K [.ref a] H P :=
  .inl ⟨a, as, ss, rfl, h, hx, fun bs ts hb hp hs => w_alc fun p H' e n hh => k p bs ts H' e n hh (hb.ext e) hp hs⟩
theorem w_lenX {xs : List V} (h : SqL K H a xs ∨ SqT K H a xs) (q : Q (.int (xs.length : Int)) H) : cLenX K [.ref a] H Q := .inl ⟨_, _, rfl, h.elim (fun h => .inl ⟨xs, h, rfl⟩) (fun h => .inr ⟨xs, h, rfl⟩), q⟩
theorem w_lenXT {kvs : List (List Key × V)} (h : H a = some (.dT kvs)) (q : Q (.int (kvs.length : Int)) H) : cLenX K [.ref a] H Q := .inr ⟨a, kvs, rfl, h, q⟩
theorem w_ixA {v : V} {xs : List V} {j : Int} (h : SqL K H a xs ∨ SqT K H a xs) (e : atI xs j = some v) (q : Q v H) : rIx K (.ref a) (.int j) H Q :=
  h.elim (fun h => .inl ⟨a, xs, j, v, rfl, rfl, h, e, q⟩) fun h => .inr (.inl ⟨a, xs, j, v, rfl, rfl, h, e, q⟩)
theorem w_clearT {kvs : List (List Key × V)} {Q : VK} (h : H a = some (.dT kvs)) (k : ∀ H', Ext [a] H H' → Q .non H') : rClearT (.ref a) [] H Q := ⟨a, kvs, rfl, rfl, h, w_chg h (fun z => z) fun H' e _ => k H' e⟩
end
end Zk

set_option Elab.async false
set_option linter.all false
set_option maxRecDepth 100000
set_option maxHeartbeats 4000000
namespace Zk
open PySem PySem.Spec L2
open PyProof.Rows hiding St

/-! ### texts of plain signs -/
def Sg (z : Str) : Prop := ∀ c ∈ z.cps.toList, c < 128
theorem Sg.ok {z : Str} (h : Sg z) : PyData.strOk z = true := by
  unfold PyData.strOk
  rw [Array.all_eq_true']
  intro c hc
  have := h c (by simpa using hc)
  simp only [decide_eq_true_eq]
  omega
theorem Sg.app {a b : Str} (ha : Sg a) (hb : Sg b) : Sg (a ++ b) := fun c hc => by
  have e : (a ++ b).cps.toList = a.cps.toList ++ b.cps.toList := by
    show (a.cps ++ b.cps).toList = _
    simp
  rw [e, List.mem_append] at hc
  exact hc.elim (ha c) (hb c)
theorem Sg.one {c : Nat} (h : c < 128) : Sg ⟨#[c]⟩ := fun d hd => by
  have : d = c := by simpa using hd
  omega
theorem Sg.empty : Sg Str.empty := fun c hc => by simp [Str.empty] at hc
theorem Sg.join {sep : Str} (h0 : Sg sep) : ∀ {ys : List Str}, (∀ y ∈ ys, Sg y) → Sg (Txt.join sep ys) := by
  intro ys h
  show Sg (Builtin.Str.glued sep ys)
  rw [StrLaws.glued_eq_join]
  induction ys with
  | nil => exact Sg.empty
  | cons x r ih =>
    cases r with
    | nil => exact h x List.mem_cons_self
    | cons y r => exact ((h x List.mem_cons_self).app h0).app (ih fun z m => h z (List.mem_cons_of_mem _ m))
theorem Sg.mul {x : Str} (h : Sg x) (n : Int) : Sg (Txt.mul x n) := by
  unfold Txt.mul
  split
  · exact Sg.empty
  · split
    · exact h
    · have g : ∀ (k : Nat) (acc : Array Nat), (∀ c ∈ acc.toList, c < 128) → ∀ c ∈ ((List.replicate k x.cps).foldl (· ++ ·) acc).toList, c < 128 := by
        intro k
        induction k with
        | zero => intro acc ha; exact ha
        | succ k ih =>
          intro acc ha
          rw [List.replicate_succ, List.foldl_cons]
          refine ih _ fun c hc => ?_
          rw [Array.toList_append, List.mem_append] at hc
          exact hc.elim (ha c) (h c)
      exact g _ _ fun c hc => by simp at hc

/-! ### contents of slots -/
def Cell : Nat → PyData → Prop
  | 0, d => d = .none ∨ ∃ n, d = .int n
  | 1, d => d = .none ∨ ∃ z, Sg z ∧ d = .str z
  | 2, d => d = .none ∨ ∃ b, d = .bool b
  | 3, d => d = .none ∨ ∃ n m, d = .tuple [.str "sealed", .str "int", .int n, .int m]
  | _, _ => False
def Cells : Nat → List PyData → Prop
  | _, [] => True
  | i, d :: ds => Cell i d ∧ Cells (i + 1) ds
def Cont (d : PyData) : Prop := (∃ a b cs, Cells 0 cs ∧ d = .tuple [.str "row", .int a, .int b, .tuple cs]) ∨ (∃ n, d = .tuple [.str "closed", .int n]) ∨ ∃ a b k c, d = .tuple [.str "shelf", .int a, .int b, .bool k, .int c]
theorem Cell.eqv : ∀ {i : Nat} {d e : PyData}, Cell i d → Cell i e → (PyData.eqv d e = true ↔ d = e)
  | 0, d, e, h, k => by
    rcases h with rfl | ⟨n, rfl⟩ <;> rcases k with rfl | ⟨m, rfl⟩ <;> simp [PyData.eqv]
  | 1, d, e, h, k => by
    rcases h with rfl | ⟨n, _, rfl⟩ <;> rcases k with rfl | ⟨m, _, rfl⟩ <;> simp [PyData.eqv]
  | 2, d, e, h, k => by
    rcases h with rfl | ⟨n, rfl⟩ <;> rcases k with rfl | ⟨m, rfl⟩ <;> simp [PyData.eqv]
  | 3, d, e, h, k => by
    rcases h with rfl | ⟨n, m, rfl⟩ <;> rcases k with rfl | ⟨n', m', rfl⟩ <;> simp [PyData.eqv, PyData.eqvAll]
  | _ + 4, d, e, h, k => h.elim
theorem Cells.eqv : ∀ {i : Nat} {ds es : List PyData}, Cells i ds → Cells i es → (PyData.eqvAll ds es = true ↔ ds = es)
  | _, [], [], _, _ => by simp [PyData.eqvAll]
  | _, [], _ :: _, _, _ => by simp [PyData.eqvAll]
  | _, _ :: _, [], _, _ => by simp [PyData.eqvAll]
  | i, d :: ds, e :: es, h, k => by
    rw [PyData.eqvAll, Bool.and_eq_true, Cell.eqv h.1 k.1, Cells.eqv h.2 k.2, List.cons.injEq]
theorem Cont.eqv {d e : PyData} (h : Cont d) (k : Cont e) : PyData.eqv d e = true ↔ d = e := by
  rcases h with ⟨a, b, cs, hc, rfl⟩ | ⟨n, rfl⟩ | ⟨a, b, f, c, rfl⟩ <;> rcases k with ⟨a', b', cs', hc', rfl⟩ | ⟨n', rfl⟩ | ⟨a', b', f', c', rfl⟩
  · simp only [PyData.eqv, PyData.eqvAll, Bool.and_eq_true, Cells.eqv hc hc']
    simp
  all_goals simp [PyData.eqv, PyData.eqvAll]
theorem Cell.lay : ∀ {i : Nat} {d : PyData}, Cell i d → d.canLay0 = true ∧ d.depth ≤ 1
  | 0, d, h => by
    rcases h with rfl | ⟨n, rfl⟩ <;> simp [PyData.canLay0, PyData.depth]
  | 1, d, h => by
    rcases h with rfl | ⟨n, hn, rfl⟩
    · simp [PyData.canLay0, PyData.depth]
    · have := hn.ok
      simp [PyData.canLay0, PyData.depth]
      exact this
  | 2, d, h => by
    rcases h with rfl | ⟨n, rfl⟩ <;> simp [PyData.canLay0, PyData.depth]
  | 3, d, h => by
    rcases h with rfl | ⟨n, m, rfl⟩
    · simp [PyData.canLay0, PyData.depth]
    · simp [PyData.canLay0, PyData.canLayAll0, PyData.depth, PyData.depthAll]
      decide +kernel
  | _ + 4, d, h => h.elim
theorem Cells.lay : ∀ {i : Nat} {ds : List PyData}, Cells i ds → PyData.canLayAll0 ds = true ∧ PyData.depthAll ds ≤ 1
  | _, [], _ => by simp [PyData.canLayAll0, PyData.depthAll]
  | i, d :: ds, h => by
    obtain ⟨a1, a2⟩ := Cell.lay h.1
    obtain ⟨b1, b2⟩ := Cells.lay h.2
    rw [PyData.canLayAll0, PyData.depthAll, a1, b1]
    exact ⟨rfl, Nat.max_le.mpr ⟨a2, b2⟩⟩
theorem Cont.lay {d : PyData} (h : Cont d) : d.canLay0 = true ∧ d.depth ≤ 3 := by
  rcases h with ⟨a, b, cs, hc, rfl⟩ | ⟨n, rfl⟩ | ⟨a, b, f, c, rfl⟩
  · obtain ⟨b1, b2⟩ := Cells.lay hc
    simp only [PyData.canLay0, PyData.canLayAll0, PyData.depth, PyData.depthAll, b1]
    refine ⟨by decide +kernel, ?_⟩
    omega
  · simp [PyData.canLay0, PyData.canLayAll0, PyData.depth, PyData.depthAll]; decide +kernel
  · simp [PyData.canLay0, PyData.canLayAll0, PyData.depth, PyData.depthAll]; decide +kernel
/-- what a slot holds, None where it holds nothing -/
def oD (x : Option PyData) : PyData := x.getD .none
def OCt (x : Option PyData) : Prop := ∀ d, x = some d → Cont d
theorem Cont.ne_none {d : PyData} (h : Cont d) : d ≠ .none := by
  rcases h with ⟨a, b, cs, hc, rfl⟩ | ⟨n, rfl⟩ | ⟨a, b, f, c, rfl⟩ <;> exact fun z => nomatch z
theorem OCt.eqv {x y : Option PyData} (h : OCt x) (k : OCt y) : PyData.eqv (oD x) (oD y) = true ↔ x = y := by
  cases x with
  | none => cases y with
    | none => simp [oD, PyData.eqv]
    | some e =>
      have := k e rfl
      rcases this with ⟨a, b, cs, hc, rfl⟩ | ⟨n, rfl⟩ | ⟨a, b, f, c, rfl⟩ <;> simp [oD, PyData.eqv]
  | some d => cases y with
    | none =>
      have := h d rfl
      rcases this with ⟨a, b, cs, hc, rfl⟩ | ⟨n, rfl⟩ | ⟨a, b, f, c, rfl⟩ <;> simp [oD, PyData.eqv]
    | some e =>
      show PyData.eqv d e = true ↔ _
      rw [Cont.eqv (h d rfl) (k e rfl), Option.some.injEq]
theorem OCt.shaped {x : Option PyData} (h : OCt x) : SeqAt.shaped (oD x) = true := by
  unfold SeqAt.shaped
  cases x with
  | none => simp [oD, PyData.canLay0, PyData.depth]
  | some d =>
    obtain ⟨a, b⟩ := (h d rfl).lay
    show (d.canLay0 && decide (d.depth ≤ 64)) = true
    rw [a, decide_eq_true (by omega)]; rfl
theorem OCt.depth {x : Option PyData} (h : OCt x) : (oD x).depth ≤ 3 := by
  cases x with
  | none => simp [oD, PyData.depth]
  | some d => exact (h d rfl).lay.2
theorem OCt.non {x : Option PyData} (h : OCt x) {H : Hp} {v : V} (i : Im H v (oD x)) : v = .non ↔ x = none := by
  cases x with
  | none => cases i; simp
  | some d =>
    refine ⟨fun z => ?_, fun z => nomatch z⟩
    subst z
    have := (h d rfl).ne_none
    change Im H .non d at i
    cases i
    exact absurd rfl this
theorem OCt.inj {x y : Option PyData} (h : OCt x) (k : OCt y) (e : oD x = oD y) : x = y := by
  cases x with
  | none => cases y with
    | none => rfl
    | some e' => exact absurd e.symm (k e' rfl).ne_none
  | some d => cases y with
    | none => exact absurd e (h d rfl).ne_none
    | some e' => exact congrArg some e
/-! ### differences -/
open Classical in
noncomputable def btw (x y : Option PyData) : Option PyData := if x = y then none else some (.tuple [oD x, oD y])
theorem btw_eq {x y : Option PyData} (h : x = y) : btw x y = none := if_pos h
theorem btw_ne {x y : Option PyData} (h : x ≠ y) : btw x y = some (.tuple [oD x, oD y]) := if_neg h
theorem btw_none {x y : Option PyData} (h : btw x y = none) : x = y := Classical.byContradiction fun z => by rw [btw_ne z] at h; cases h
theorem btw_some {x y : Option PyData} {d : PyData} (h : btw x y = some d) : x ≠ y ∧ d = .tuple [oD x, oD y] := by
  by_cases z : x = y
  · rw [btw_eq z] at h; cases h
  · rw [btw_ne z] at h; exact ⟨z, (Option.some.inj h).symm⟩
noncomputable def btwF (f g : Fd) : Fd := fun s => btw (f s) (g s)
def Stt (f : Fd) : Prop := ∀ s, OCt (f s)
theorem btw_depth {x y : Option PyData} {d : PyData} (h : OCt x) (k : OCt y) (e : btw x y = some d) : d.depth ≤ 4 := by
  obtain ⟨_, rfl⟩ := btw_some e
  have a := h.depth
  have b := k.depth
  simp only [PyData.depth, PyData.depthAll]
  omega
theorem stt_none : Stt fun _ => none := fun _ _ h => nomatch h
theorem stt_put {f : Fd} {s : Slot} {d : PyData} (h : Stt f) (c : Cont d) : Stt (putF f s d) := fun t e q => by
  unfold putF at q
  by_cases z : t = s
  · rw [if_pos z] at q; cases q; exact c
  · rw [if_neg z] at q; exact h t e q
/-- what of F is worked out for the slots of l -/
def resF (l : List Slot) (F : Fd) : Fd := fun s => if s ∈ l then F s else none
theorem resF_nil {F : Fd} : resF [] F = fun _ => none := by funext s; exact if_neg (fun z => nomatch z)
theorem resF_put {l : List Slot} {F : Fd} {s : Slot} {d : PyData} (h : F s = some d) : putF (resF l F) s d = resF (l ++ [s]) F := by
  funext t
  unfold putF resF
  by_cases e : t = s
  · subst e
    rw [if_pos rfl, if_pos (List.mem_append.mpr (.inr (List.mem_singleton.mpr rfl))), h]
  · rw [if_neg e]
    by_cases m : t ∈ l
    · rw [if_pos m, if_pos (List.mem_append.mpr (.inl m))]
    · rw [if_neg m, if_neg (fun z => (List.mem_append.mp z).elim m fun q => e (List.mem_singleton.mp q))]
theorem resF_skip {l : List Slot} {F : Fd} {s : Slot} (h : F s = none) : resF (l ++ [s]) F = resF l F := by
  funext t
  unfold resF
  by_cases e : t = s
  · subst e
    rw [h, ite_self, ite_self]
  · by_cases m : t ∈ l
    · rw [if_pos m, if_pos (List.mem_append.mpr (.inl m))]
    · rw [if_neg m, if_neg (fun z => (List.mem_append.mp z).elim m fun q => e (List.mem_singleton.mp q))]
theorem resF_all {l : List Slot} {F : Fd} (h : ∀ s, s ∉ l → F s = none) : resF l F = F := by
  funext s
  unfold resF
  by_cases m : s ∈ l
  · rw [if_pos m]
  · rw [if_neg m, h s m]
theorem take_snoc {α : Type} {l : List α} {i : Nat} {x : α} (h : l[i]? = some x) : l.take (i + 1) = l.take i ++ [x] := by rw [List.take_add_one, h]; rfl
theorem room65 {k : Nat} {A : Around} (r : Room k A) : A.units + 65 < cLine := by have := r.un; omega
end Zk

set_option Elab.async false
set_option linter.all false
set_option maxRecDepth 100000
set_option maxHeartbeats 4000000
namespace Zk
open PySem PySem.Spec L2
open PyProof.Rows hiding St

/-! ### min of a list of slots -/
theorem slots_dp' {K : PySem.W.Frag} {H : Hp} {as : List Addr} {ss : List Slot} (h : SlotsAt H as ss) : DpAll K H (as.map V.ref) (ss.map sD) := by
  unfold SlotsAt at h
  induction h with
  | nil => exact .nil
  | cons h t ih => exact .cons (im_slot h).dp ih
theorem sD_inj {s t : Slot} (h : sD s = sD t) : s = t := by
  obtain ⟨a, b, c⟩ := s
  obtain ⟨a', b', c'⟩ := t
  simp [sD] at h
  obtain ⟨h1, h2, h3⟩ := h
  subst h1 h2 h3
  rfl
theorem sD_alike (s t : Slot) : PySem.W.alike (sD s) (sD t) = true := by simp [sD, PySem.W.alike, PySem.W.alikeAll]
theorem sD_lt (s t : Slot) : PySem.W.dataLt (sD s) (sD t) = sLt s t := by
  unfold sD
  rw [PySem.W.dataLt_tuple, PySem.W.dataLt_cons (by simp [PySem.W.alike]), PySem.W.dataLt_cons (by simp [PySem.W.alike]), PySem.W.dataLt_cons (by simp [PySem.W.alike])]
  rw [PySem.W.dataLt_str, PySem.W.dataLt_int, PySem.W.dataLt_int]
  have e1 : (PyData.eqv (.str s.1) (.str t.1) = true) ↔ s.1 = t.1 := by simp [PyData.eqv]
  have e2 : (PyData.eqv (.int s.2.1) (.int t.2.1) = true) ↔ s.2.1 = t.2.1 := by simp [PyData.eqv]
  have e3 : (PyData.eqv (.int s.2.2) (.int t.2.2) = true) ↔ s.2.2 = t.2.2 := by simp [PyData.eqv]
  unfold sLt
  by_cases h1 : s.1 = t.1
  · rw [if_pos (e1.mpr h1), if_pos h1]
    by_cases h2 : s.2.1 = t.2.1
    · rw [if_pos (e2.mpr h2), if_pos h2]
      by_cases h3 : s.2.2 = t.2.2
      · rw [if_pos (e3.mpr h3), h3, decide_eq_false (Int.lt_irrefl _)]
        rfl
      · rw [if_neg (fun z => h3 (e3.mp z))]
    · rw [if_neg (fun z => h2 (e2.mp z)), if_neg h2]
  · rw [if_neg (fun z => h1 (e1.mp z)), if_neg h1]
theorem minD_slots : ∀ (ss : List Slot) (s : Slot), ∃ m, m ∈ s :: ss ∧ PySem.W.minD (sD s) (ss.map sD) = sD m ∧ ∀ t ∈ s :: ss, sLt t m = false
  | [], s => ⟨s, List.mem_cons_self, rfl, fun t ht => by
      rw [List.mem_singleton.mp ht]
      exact sLt_no.mpr fun z => z.irr⟩
  | x :: ss, s => by
    have step : PySem.W.minD (sD s) ((x :: ss).map sD) = PySem.W.minD (sD (if sLt x s = true then x else s)) (ss.map sD) := by
      unfold PySem.W.minD
      rw [List.map_cons, List.foldl_cons, sD_lt]
      by_cases h : sLt x s = true
      · rw [if_pos h, if_pos h]
      · rw [if_neg h, if_neg h]
    rw [step]
    by_cases h : sLt x s = true
    · rw [if_pos h]
      obtain ⟨m, hm, e, hl⟩ := minD_slots ss x
      refine ⟨m, List.mem_cons_of_mem _ hm, e, fun t ht => ?_⟩
      rcases List.mem_cons.mp ht with rfl | ht
      · refine sLt_no.mpr fun z => ?_
        have a := sLt_no.mp (hl x List.mem_cons_self)
        exact a (SLt.trans (sLt_iff.mp h) z)
      · exact hl t ht
    · rw [if_neg h]
      obtain ⟨m, hm, e, hl⟩ := minD_slots ss s
      refine ⟨m, ?_, e, fun t ht => ?_⟩
      · rcases List.mem_cons.mp hm with rfl | hm
        · exact List.mem_cons_self
        · exact List.mem_cons_of_mem _ (List.mem_cons_of_mem _ hm)
      · rcases List.mem_cons.mp ht with rfl | ht
        · exact hl t List.mem_cons_self
        · rcases List.mem_cons.mp ht with rfl | ht
          · have a := sLt_no.mp (hl s List.mem_cons_self)
            have b : ¬ SLt t s := fun z => h (sLt_iff.mpr z)
            refine sLt_no.mpr fun z => ?_
            rcases SLt.tri s m with c | c | c
            · exact a c
            · rw [← c] at z; exact b z
            · exact b (SLt.trans z c)
          · exact hl t (List.mem_cons_of_mem _ ht)
def cMinSl (K : PySem.W.Frag) : RC := fun vs H Q => ∃ (a : Addr) (as : List Addr) (ss : List Slot), vs = [V.ref a] ∧ SqL K H a (as.map V.ref) ∧ SlotsAt H as ss ∧ 0 < ss.length ∧
  ∀ (b : Addr) (m : Slot), H b = some (.tup (sVs m)) → m ∈ ss → (∀ s ∈ ss, sLt s m = false) → Q (.ref b) H
theorem zc_minSl {X : Cx} (hc : X.calm = true) (hu : X.A.units + 64 < cLine) : CallR X (.builtin "min") (cMinSl X.K) := by
  intro pins s σ H vs us Q I r h
  obtain ⟨a, as, ss, rfl, hs, hx, hp, q⟩ := h
  obtain ⟨its, rv, hl, hz⟩ := I.list hs
  obtain ⟨u, rfl, ru⟩ := vals1 r
  obtain rfl : u = Value.ref a := ru
  obtain ⟨ads, hr⟩ := Dp.readsAll I (ss.map sD) (as.map V.ref) its (slots_dp' hx) rv
  cases ss with
  | nil => exact absurd hp (Nat.lt_irrefl 0)
  | cons s0 rest =>
    have dp : PyData.depthAll ((s0 :: rest).map sD) ≤ 1 := by
      have : ∀ l : List Slot, PyData.depthAll (l.map sD) ≤ 1 := by
        intro l
        induction l with
        | nil => simp [PyData.depthAll]
        | cons x l ih => rw [List.map_cons, PyData.depthAll, sD_depth]; exact Nat.max_le.mpr ⟨Nat.le_refl _, ih⟩
      exact this _
    refine PySem.W.min_list_data (x := sD s0) (xs := rest.map sD) (I.ok.hd hc) hl.isList hr ⟨?_, ?_⟩ (by have := dp; rw [List.map_cons] at this; omega) fun i v h' tk bs hv hv2 kp => ?_
    · intro x hx y hy
      rw [← List.map_cons] at hx hy
      obtain ⟨s, _, rfl⟩ := List.mem_map.mp hx
      obtain ⟨t, _, rfl⟩ := List.mem_map.mp hy
      exact sD_alike s t
    · intro x hx
      rw [← List.map_cons] at hx
      obtain ⟨s, _, rfl⟩ := List.mem_map.mp hx
      exact fun z => nomatch z
    · obtain ⟨m, hm, e, hl⟩ := minD_slots rest s0
      rw [e] at hv2
      have hv' : its[i]? = some v := by simpa using hv
      have li : i < as.length := by
        obtain ⟨l, _⟩ := List.getElem?_eq_some_iff.mp hv'
        have := rv.length
        rw [List.length_map] at this
        omega
      have ha : as[i]? = some as[i] := List.getElem?_eq_getElem li
      obtain ⟨t, ht, hb⟩ := paired_at hx ha
      obtain ⟨u, hu2, ru2⟩ := rv.get (x := V.ref as[i]) (by rw [List.getElem?_map, ha]; rfl)
      rw [hv'] at hu2
      cases hu2
      obtain rfl : v = Value.ref as[i] := ru2
      obtain ⟨bs2, r2⟩ := Dp.reads I (sD t) (.ref as[i]) (.ref as[i]) (im_slot hb).dp rfl
      have em := sD_inj (PySem.W.alike_unique _ _ _ _ _ (sD_alike m t) hv2 (PySem.W.reads_keeps kp r2))
      subst em
      exact ⟨.ref as[i], H, I.kept kp, rfl, q _ _ hb hm hl⟩
end Zk

set_option Elab.async false
set_option linter.all false
set_option maxRecDepth 100000
set_option maxHeartbeats 4000000
namespace Zk
open PySem PySem.Spec L2
open PyProof.Rows hiding St

/-! ### values and kinds -/
inductive Val where
  | fl (b : Bool)
  | nm (n : Int)
  | tx (z : Str)
inductive Kd where
  | F
  | I
  | T
def kS : Kd → Str
  | .F => Str.ofString "flag"
  | .I => Str.ofString "int"
  | .T => Str.ofString "text"
def vV : Val → V
  | .fl b => .bl b
  | .nm n => .int n
  | .tx z => .str z
def vD : Val → PyData
  | .fl b => .bool b
  | .nm n => .int n
  | .tx z => .str z
theorem vV_inj : ∀ {a b : Val}, vV a = vV b → a = b
  | .fl a, .fl b, h => by injection h with h; rw [h]
  | .nm a, .nm b, h => by injection h with h; rw [h]
  | .tx a, .tx b, h => by injection h with h; rw [h]
  | .fl _, .nm _, h => nomatch h
  | .fl _, .tx _, h => nomatch h
  | .nm _, .fl _, h => nomatch h
  | .nm _, .tx _, h => nomatch h
  | .tx _, .fl _, h => nomatch h
  | .tx _, .nm _, h => nomatch h
theorem im_val {H : Hp} : ∀ v : Val, Im H (vV v) (vD v)
  | .fl b => .bl b
  | .nm n => .int n
  | .tx z => .str z
def alph : Str := Str.ofString " !\"#$&'()*+,-./0123456789:;<=>?@ABCDEFGHIJKLMNOPQRSTUVWXYZ[\\]^_`abcdefghijklmnopqrstuvwxyz{|}~"
/-- its signs are of the alphabet -/
def Al (l : List Nat) : Prop := ∀ c ∈ l, c ∈ alph.cps.toList
/-- the values of a kind -/
def VOk : Kd → Val → Prop
  | .F, .fl _ => True
  | .I, .nm n => -1000000000 ≤ n ∧ n ≤ 1000000000
  | .T, .tx z => z.length ≤ 20 ∧ Al z.cps.toList
  | _, _ => False
theorem vok_scal : ∀ {k : Kd} {a b : Val}, VOk k a → VOk k b → scal (vV a) (vV b) = true
  | .F, .fl _, .fl _, _, _ => rfl
  | .I, .nm _, .nm _, _, _ => rfl
  | .T, .tx _, .tx _, _, _ => rfl
  | .F, .nm _, _, h, _ => h.elim
  | .F, .tx _, _, h, _ => h.elim
  | .I, .fl _, _, h, _ => h.elim
  | .I, .tx _, _, h, _ => h.elim
  | .T, .fl _, _, h, _ => h.elim
  | .T, .nm _, _, h, _ => h.elim
  | .F, .fl _, .nm _, _, h => h.elim
  | .F, .fl _, .tx _, _, h => h.elim
  | .I, .nm _, .fl _, _, h => h.elim
  | .I, .nm _, .tx _, _, h => h.elim
  | .T, .tx _, .fl _, _, h => h.elim
  | .T, .tx _, .nm _, _, h => h.elim
theorem vok_I {v : Val} (h : VOk .I v) : ∃ n, v = .nm n ∧ -1000000000 ≤ n ∧ n ≤ 1000000000 := by
  cases v with
  | nm n => exact ⟨n, rfl, h⟩
  | fl _ => exact h.elim
  | tx _ => exact h.elim
theorem vok_T {v : Val} (h : VOk .T v) : ∃ z, v = .tx z ∧ z.length ≤ 20 ∧ Al z.cps.toList := by
  cases v with
  | tx z => exact ⟨z, rfl, h⟩
  | fl _ => exact h.elim
  | nm _ => exact h.elim
/-! ### conversions -/
inductive Cv where
  | aff (a b : Int)
  | una (a b : Int)
  | pre (p : Str)
  | unp (p : Str)
  | rcd (k l : Kd) (ps : List (Val × Val))
def prD3 (p : Val × Val) : PyData := .tuple [vD p.1, vD p.2]
def cD : Cv → PyData
  | .aff a b => .tuple [.str (Str.ofString "affine"), .int a, .int b]
  | .una a b => .tuple [.str (Str.ofString "unaffine"), .int a, .int b]
  | .pre p => .tuple [.str (Str.ofString "prefix"), .str p]
  | .unp p => .tuple [.str (Str.ofString "unprefix"), .str p]
  | .rcd k l ps => .tuple [.str (Str.ofString "recode"), .str (kS k), .str (kS l), .tuple (ps.map prD3)]
def k1 : Cv → Kd
  | .aff _ _ => .I
  | .una _ _ => .I
  | .pre _ => .T
  | .unp _ => .T
  | .rcd k _ _ => k
def k2 : Cv → Kd
  | .aff _ _ => .I
  | .una _ _ => .I
  | .pre _ => .T
  | .unp _ => .T
  | .rcd _ l _ => l
def COk : Cv → Prop
  | .aff a b => a ≠ 0 ∧ -1000 ≤ a ∧ a ≤ 1000 ∧ -1000000 ≤ b ∧ b ≤ 1000000
  | .una a b => a ≠ 0 ∧ -1000 ≤ a ∧ a ≤ 1000 ∧ -1000000 ≤ b ∧ b ≤ 1000000
  | .pre p => 1 ≤ p.length ∧ p.length ≤ 6 ∧ Al p.cps.toList
  | .unp p => 1 ≤ p.length ∧ p.length ≤ 6 ∧ Al p.cps.toList
  | .rcd k l ps => ps.length ≤ 8 ∧ (∀ p ∈ ps, VOk k p.1 ∧ VOk l p.2) ∧ (ps.map (·.1)).Nodup ∧ (ps.map (·.2)).Nodup
def cI : Cv → Cv
  | .aff a b => .una a b
  | .una a b => .aff a b
  | .pre p => .unp p
  | .unp p => .pre p
  | .rcd k l ps => .rcd l k (ps.map fun p => (p.2, p.1))
theorem cI_ok : ∀ {c : Cv}, COk c → COk (cI c)
  | .aff _ _, h => h
  | .una _ _, h => h
  | .pre _, h => h
  | .unp _, h => h
  | .rcd k l ps, ⟨h1, h2, h3, h4⟩ => by
    refine ⟨by rw [List.length_map]; exact h1, fun p m => ?_, ?_, ?_⟩
    · obtain ⟨q, hq, rfl⟩ := List.mem_map.mp m
      exact ⟨(h2 q hq).2, (h2 q hq).1⟩
    · rw [List.map_map]; exact h4
    · rw [List.map_map]; exact h3
theorem cI_k1 : ∀ c : Cv, k1 (cI c) = k2 c
  | .aff _ _ => rfl
  | .una _ _ => rfl
  | .pre _ => rfl
  | .unp _ => rfl
  | .rcd _ _ _ => rfl
theorem cI_k2 : ∀ c : Cv, k2 (cI c) = k1 c
  | .aff _ _ => rfl
  | .una _ _ => rfl
  | .pre _ => rfl
  | .unp _ => rfl
  | .rcd _ _ _ => rfl
open Classical in
noncomputable def look : List (Val × Val) → Val → Option Val
  | [], _ => none
  | p :: ps, v => if p.1 = v then some p.2 else look ps v
def rng (n : Int) : Option Val := if -1000000000 ≤ n ∧ n ≤ 1000000000 then some (.nm n) else none
/-- z begins with p -/
def beg (z p : Str) : Bool := decide (z.cps.toList.take p.length = p.cps.toList)
def cut (z : Str) (n : Nat) : Str := ⟨(z.cps.toList.drop n).toArray⟩
def aB (a : Int) : Int := if a < 0 then -a else a
noncomputable def cvt : Cv → Val → Option Val
  | .aff a b, .nm n => rng (a * n + b)
  | .una a b, .nm n => if (n - b) % aB a = 0 then rng ((n - b).fdiv a) else none
  | .pre p, .tx z => if (p ++ z).length ≤ 20 then some (.tx (p ++ z)) else none
  | .unp p, .tx z => if beg z p = true then some (.tx (cut z p.length)) else none
  | .rcd _ _ ps, v => look ps v
  | _, _ => none
theorem rng_ok {n : Int} {r : Val} (h : rng n = some r) : r = .nm n ∧ -1000000000 ≤ n ∧ n ≤ 1000000000 := by
  unfold rng at h
  split at h
  · rename_i c; exact ⟨(Option.some.inj h).symm, c⟩
  · cases h
theorem look_mem : ∀ {ps : List (Val × Val)} {v r : Val}, look ps v = some r → (v, r) ∈ ps
  | p :: ps, v, r, h => by
    unfold look at h
    by_cases e : p.1 = v
    · rw [if_pos e] at h
      cases h
      rw [← e]
      exact List.mem_cons_self
    · rw [if_neg e] at h
      exact List.mem_cons_of_mem _ (look_mem h)
theorem look_at : ∀ {ps : List (Val × Val)} {v r : Val}, (ps.map (·.1)).Nodup → (v, r) ∈ ps → look ps v = some r
  | p :: ps, v, r, nd, m => by
    unfold look
    rw [List.map_cons, List.nodup_cons] at nd
    rcases List.mem_cons.mp m with m | m
    · rw [← m, if_pos rfl]
    · rw [if_neg (fun e => nd.1 (List.mem_map.mpr ⟨_, m, e.symm⟩))]
      exact look_at nd.2 m
theorem app_tl (a b : Str) : (a ++ b).cps.toList = a.cps.toList ++ b.cps.toList := by
  show (a.cps ++ b.cps).toList = _
  simp
theorem len_tl (a : Str) : a.cps.toList.length = a.length := by
  show a.cps.toList.length = a.cps.size
  rw [Array.length_toList]
theorem str_tl {a b : Str} (h : a.cps.toList = b.cps.toList) : a = b := by
  cases a; cases b
  simp only [Str.mk.injEq]
  exact Array.toList_inj.mp h
theorem beg_app (p z : Str) : beg (p ++ z) p = true := by
  unfold beg
  rw [app_tl, ← len_tl p, List.take_left, decide_eq_true rfl]
theorem cut_app (p z : Str) : cut (p ++ z) p.length = z := by
  refine str_tl ?_
  show ((p ++ z).cps.toList.drop p.length) = _
  rw [app_tl, ← len_tl p, List.drop_left]
theorem beg_cut {z p : Str} (h : beg z p = true) : p ++ cut z p.length = z := by
  refine str_tl ?_
  rw [app_tl, ← of_decide_eq_true h]
  exact List.take_append_drop _ _
theorem cvt_ok {c : Cv} {v r : Val} (hc : COk c) (hv : VOk (k1 c) v) (h : cvt c v = some r) : VOk (k2 c) r := by
  cases c with
  | aff a b =>
    obtain ⟨n, rfl, _⟩ := vok_I hv
    obtain ⟨rfl, x⟩ := rng_ok h
    exact x
  | una a b =>
    obtain ⟨n, rfl, _⟩ := vok_I hv
    change (if _ then _ else _) = _ at h
    split at h
    · obtain ⟨rfl, x⟩ := rng_ok h
      exact x
    · cases h
  | pre p =>
    obtain ⟨z, rfl, l, al⟩ := vok_T hv
    change (if _ then _ else _) = _ at h
    split at h
    · rename_i lz
      cases h
      exact ⟨lz, fun x m => by rw [app_tl, List.mem_append] at m; exact m.elim (hc.2.2 x) (al x)⟩
    · cases h
  | unp p =>
    obtain ⟨z, rfl, l, al⟩ := vok_T hv
    change (if _ then _ else _) = _ at h
    split at h
    · cases h
      refine ⟨?_, fun x m => al x (List.mem_of_mem_drop m)⟩
      rw [← len_tl]
      show (z.cps.toList.drop p.length).length ≤ 20
      rw [List.length_drop, len_tl]; omega
    · cases h
  | rcd k l ps => exact (hc.2.1 _ (look_mem h)).2
theorem abs_mod {a n : Int} (h : n % aB a = 0) : ∃ q, n = a * q := by
  unfold aB at h
  split at h
  · obtain ⟨q, e⟩ := Int.dvd_of_emod_eq_zero h
    exact ⟨-q, by rw [e, Int.neg_mul, Int.mul_neg]⟩
  · obtain ⟨q, e⟩ := Int.dvd_of_emod_eq_zero h
    exact ⟨q, e⟩
theorem mul_mod (a q : Int) : (a * q) % aB a = 0 := by
  unfold aB
  split
  · rw [show a * q = -a * (-q) by rw [Int.neg_mul_neg]]; exact Int.mul_emod_right _ _
  · exact Int.mul_emod_right _ _
theorem cvt_back {c : Cv} {v r : Val} (hc : COk c) (hv : VOk (k1 c) v) (h : cvt c v = some r) : cvt (cI c) r = some v := by
  cases c with
  | aff a b =>
    obtain ⟨n, rfl, n0, n1⟩ := vok_I hv
    obtain ⟨rfl, x⟩ := rng_ok h
    show (if (a * n + b - b) % _ = 0 then rng ((a * n + b - b).fdiv a) else none) = _
    rw [Int.add_sub_cancel, if_pos (mul_mod a n), Int.mul_fdiv_cancel_left _ hc.1]
    exact if_pos ⟨n0, n1⟩
  | una a b =>
    obtain ⟨n, rfl, n0, n1⟩ := vok_I hv
    change (if _ then _ else _) = _ at h
    split at h
    · rename_i d
      obtain ⟨rfl, x⟩ := rng_ok h
      obtain ⟨q, e⟩ := abs_mod d
      show rng (a * (n - b).fdiv a + b) = _
      rw [e, Int.mul_fdiv_cancel_left _ hc.1, ← e, Int.sub_add_cancel]
      exact if_pos ⟨n0, n1⟩
    · cases h
  | pre p =>
    obtain ⟨z, rfl, l, al⟩ := vok_T hv
    change (if _ then _ else _) = _ at h
    split at h
    · cases h
      show (if beg (p ++ z) p = true then some (Val.tx (cut (p ++ z) p.length)) else none) = _
      rw [if_pos (beg_app p z), cut_app]
    · cases h
  | unp p =>
    obtain ⟨z, rfl, l, al⟩ := vok_T hv
    change (if _ then _ else _) = _ at h
    split at h
    · rename_i b
      cases h
      show (if (p ++ cut z p.length).length ≤ 20 then some (Val.tx (p ++ cut z p.length)) else none) = _
      rw [beg_cut b, if_pos l]
    · cases h
  | rcd k l ps =>
    refine look_at ?_ ?_
    · rw [List.map_map]; exact hc.2.2.2
    · exact List.mem_map.mpr ⟨_, look_mem h, rfl⟩
/-! ### lists of conversions -/
noncomputable def thr : List Cv → Val → Option Val
  | [], v => some v
  | c :: cs, v => (cvt c v).bind (thr cs)
def Chn : Kd → List Cv → Kd → Prop
  | k, [], l => k = l
  | k, c :: cs, l => COk c ∧ k1 c = k ∧ Chn (k2 c) cs l
theorem thr_app : ∀ (cs ds : List Cv) (v : Val), thr (cs ++ ds) v = (thr cs v).bind (thr ds)
  | [], _, _ => rfl
  | c :: cs, ds, v => by
    show (cvt c v).bind (thr (cs ++ ds)) = ((cvt c v).bind (thr cs)).bind (thr ds)
    cases cvt c v with
    | none => rfl
    | some r => exact thr_app cs ds r
theorem chn_app : ∀ {cs ds : List Cv} {k l m : Kd}, Chn k cs l → Chn l ds m → Chn k (cs ++ ds) m
  | [], _, _, _, _, h, g => by cases h; exact g
  | _ :: _, _, _, _, _, h, g => ⟨h.1, h.2.1, chn_app h.2.2 g⟩
theorem chn_back : ∀ {cs : List Cv} {k l : Kd}, Chn k cs l → Chn l (cs.reverse.map cI) k
  | [], _, _, h => h.symm
  | c :: cs, k, l, h => by
    rw [List.reverse_cons, List.map_append]
    refine chn_app (chn_back h.2.2) ⟨cI_ok h.1, cI_k1 c, ?_⟩
    exact (cI_k2 c).trans h.2.1
theorem thr_ok : ∀ {cs : List Cv} {k l : Kd} {v r : Val}, Chn k cs l → VOk k v → thr cs v = some r → VOk l r
  | [], _, _, _, _, h, hv, e => by cases h; cases e; exact hv
  | c :: cs, k, l, v, r, h, hv, e => by
    change (cvt c v).bind (thr cs) = some r at e
    have hv' : VOk (k1 c) v := h.2.1 ▸ hv
    cases q : cvt c v with
    | none => rw [q] at e; cases e
    | some u =>
      rw [q] at e
      exact thr_ok h.2.2 (cvt_ok h.1 hv' q) e
theorem thr_back : ∀ {cs : List Cv} {k l : Kd} {v r : Val}, Chn k cs l → VOk k v → thr cs v = some r → thr (cs.reverse.map cI) r = some v
  | [], _, _, _, _, h, hv, e => by cases h; cases e; rfl
  | c :: cs, k, l, v, r, h, hv, e => by
    change (cvt c v).bind (thr cs) = some r at e
    have hv' : VOk (k1 c) v := h.2.1 ▸ hv
    cases q : cvt c v with
    | none => rw [q] at e; cases e
    | some u =>
      rw [q] at e
      rw [List.reverse_cons, List.map_append, thr_app, thr_back h.2.2 (cvt_ok h.1 hv' q) e]
      show (cvt (cI c) u).bind (thr []) = _
      rw [cvt_back h.1 hv' q]
      rfl
end Zk

set_option Elab.async false
set_option linter.all false
set_option maxRecDepth 100000
set_option maxHeartbeats 4000000
namespace Zk
open PySem PySem.Spec L2
open PyProof.Rows hiding St

def rStarts : V → List V → Hp → VK → Prop := fun x xs H Q => ∃ a b, x = .str a ∧ xs = [.str b] ∧ Q (.bl (Txt.startswith a b)) H
def cAbs : RC := fun xs H Q => ∃ i, xs = [.int i] ∧ Q (.int (if i < 0 then -i else i)) H
def cListL (K : PySem.W.Frag) : RC := fun xs H Q => ∃ p ys, xs = [.ref p] ∧ (SqL K H p ys ∨ SqT K H p ys) ∧ Alc (.lst ys) H Q
section
variable {X : Cx}
theorem zmt_starts : MtR X "str.startswith" rStarts := mt_startswith
theorem zc_abs : CallR X (.builtin "abs") cAbs := call_abs
theorem zc_list : CallR X (.type "list") (cListL X.K) := call_list_of
theorem zop_notInS : OpR X (compareOp .NotIn) rNotInS := op_notInS
theorem pg_tupK {K : PySem.W.Frag} {es : List Expr} {k : Nat} {t : TGs} {n : Nat} {pos : Pos} (e : X.K = K) (hc : X.calm = true) (h : PGs X es t)
    (hn : (assignEach es X.env).length = n := by rfl) (hst : (assignEach es X.env).findIdx? (·.1) = none := by rfl) : PG X (.Tuple es k pos) (gTup K n t) := e ▸ pg_tup hc h hn hst
end
section
variable {K : PySem.W.Frag} {σ : St} {H : Hp} {Q : VK} {a : Addr} {v x y : V} {te ta tb tc : TE} {rt : VK} {nx : St → Hp → Prop} {t : TS} {tt : TT}
theorem w_starts {p z : Str} (q : Q (.bl (Txt.startswith z p)) H) : rStarts (.str z) [.str p] H Q := ⟨z, p, rfl, rfl, q⟩
theorem w_abs {i : Int} (q : Q (.int (aB i)) H) : cAbs [.int i] H Q := ⟨i, rfl, q⟩
theorem w_listL {ys : List V} (h : SqL K H a ys) (q : Alc (.lst ys) H Q) : cListL K [.ref a] H Q := ⟨a, ys, rfl, .inl h, q⟩
theorem w_lenS {z : Str} (h : z.length ≤ sizeLine) (q : Q (.int (z.length : Int)) H) : cLen K [.str z] H Q := ⟨.str z, z.length, rfl, ⟨h, rfl⟩, q⟩
theorem w_slice {r : V → Option Int → Option Int → Hp → VK → Prop} {tl th : TO} (h : te σ H fun x H1 => tl σ H1 fun l H2 => th σ H2 fun u H3 => r x l u H3 Q) : L2.tSl r te tl th σ H Q := h
theorem w_noPart {P : Option Int → Hp → Prop} (q : P none H) : tNoPart σ H P := q
theorem w_slS {z : Str} {lo hi : Option Int} (l : z.length ≤ sizeLine) (q : Q (.str (cutS z lo hi)) H) : rSlS (.str z) lo hi H Q := ⟨z, rfl, l, q⟩
theorem w_chain {r r' : R2} (h : ta σ H fun x H1 => tb σ H1 fun y H2 => r x y H2 fun z H3 => ∃ k, z = .bl k ∧ (if k = true then tc σ H3 fun w' H4 => r' y w' H4 Q else Q (.bl false) H3)) : tChain r r' ta tb tc σ H Q := h
theorem w_notInC {c : Nat} {z : Str} (q : Q (.bl (!decide (c ∈ z.cps.toList))) H) : rNotInS (.str ⟨#[c]⟩) (.str z) H Q := ⟨c, z, rfl, rfl, q⟩
theorem aB_pos {i : Int} (h : i ≠ 0) : 0 < aB i := by unfold aB; split <;> omega
theorem starts_beg (z p : Str) : Txt.startswith z p = beg z p := by
  have e : Txt.startswith z p = (decide (0 + p.length ≤ z.length) && Builtin.Str.subAt z p 0) := rfl
  rw [e, StrLaws.subAt_eq, List.drop_zero]
  unfold beg
  by_cases h : z.cps.toList.take p.length = p.cps.toList
  · have l : p.length ≤ z.length := by
      have := congrArg List.length h
      rw [List.length_take, len_tl, len_tl] at this
      omega
    rw [decide_eq_true h, decide_eq_true (by omega), h]
    simp
  · rw [decide_eq_false h]
    have : (z.cps.toList.take p.length == p.cps.toList) = false := by simpa using h
    rw [this, Bool.and_false]
theorem cutS_tl (z : Str) (lo hi : Option Int) : (cutS z lo hi).cps.toList = (z.cps.toList.drop (HT.sIx z.length 0 lo)).take (HT.sIx z.length z.length hi - HT.sIx z.length 0 lo) := rfl
theorem cutS_from (z : Str) (n : Nat) : cutS z (some (n : Int)) none = cut z n := by
  refine str_tl ?_
  rw [cutS_tl]
  show _ = z.cps.toList.drop n
  rw [HT.sIx_nat, HT.sIx_none, ← len_tl]
  by_cases h : n ≤ z.cps.toList.length
  · rw [Nat.min_eq_left h]
    refine List.take_of_length_le ?_
    rw [List.length_drop]
    exact Nat.le_refl _
  · rw [Nat.min_eq_right (by omega), List.drop_eq_nil_of_le (Nat.le_refl _), List.drop_eq_nil_of_le (by omega), List.take_nil]
theorem cutS_to_eq (z p : Str) : decide (cutS z none (some (p.length : Int)) = p) = beg z p := by
  have e : (cutS z none (some (p.length : Int))).cps.toList = z.cps.toList.take p.length := by
    rw [cutS_tl, HT.sIx_nat, HT.sIx_none, List.drop_zero, Nat.sub_zero, ← len_tl z, List.take_eq_take_iff]
    omega
  unfold beg
  rw [← e]
  by_cases h : cutS z none (some (p.length : Int)) = p
  · rw [decide_eq_true h, decide_eq_true (by rw [h])]
  · rw [decide_eq_false h, decide_eq_false (fun q => h (str_tl q))]
theorem cutS_al {z : Str} {lo hi : Option Int} (h : Al z.cps.toList) : Al (cutS z lo hi).cps.toList := fun c m => by
  rw [cutS_tl] at m
  exact h c (List.mem_of_mem_drop (List.mem_of_mem_take m))
theorem cutS_to_len (z : Str) (n : Int) (h : 0 ≤ n) : (cutS z none (some n)).length ≤ n.toNat := by
  rw [← len_tl, cutS_tl, List.length_take, HT.sIx_none]
  obtain ⟨k, rfl⟩ := Int.eq_ofNat_of_zero_le h
  have : HT.sIx z.length z.length (some (k : Int)) = min k z.length := HT.sIx_nat _ _ _
  rw [this]
  have : ((k : Int)).toNat = k := by omega
  rw [this]
  omega
/-! reversed walks over a list -/
theorem w_iRev {tl : TA} {R : It → Hp → Prop} (h : tl σ H fun vs H1 => ∃ a xs, vs = [V.ref a] ∧ SqL K H1 a xs ∧ R (Itv K a xs.length) H1) : iRev K tl σ H R := h
theorem z_for_rev {xs : List V} {g : TG} (Pv : Nat → St → Hp → Prop) (h0 : Pv 0 σ H) (hl : ∀ i σ H, i ≤ xs.length → Pv i σ H → SqL K H a xs)
    (hs : ∀ (N : St → Hp → Prop) i x σ H, xs.reverse[i]? = some x → Pv i σ H → (∀ σ' H', Pv (i + 1) σ' H' → N σ' H') → g x σ H fun σ2 H2 => t ⟨N, rt, nx, N⟩ σ2 H2) (hd : ∀ σ H, Pv xs.length σ H → nx σ H) :
    ∃ W : Nat → Nat → St → Hp → Prop, (∃ m, W 0 m σ H) ∧ ∀ i m σ H, W i m σ H →
      ((Itv K a xs.length).stop i H ∧ nx σ H) ∨ ((Itv K a xs.length).go i H ∧ ∃ N : St → Hp → Prop, (∀ σ' H', N σ' H' → ∃ m', m' < m ∧ W (i + 1) m' σ' H') ∧ ∀ x H', (Itv K a xs.length).yld i H x H' → g x σ H' fun σ2 H2 => t ⟨N, rt, nx, N⟩ σ2 H2) := by
  refine ⟨fun i m σ H => m = xs.length - i ∧ i ≤ xs.length ∧ Pv i σ H, ⟨_, rfl, Nat.zero_le _, h0⟩, ?_⟩
  rintro i m σ H ⟨rfl, hi, p⟩
  by_cases hlt : i < xs.length
  · have hx : xs[xs.length - 1 - i]? = some xs[xs.length - 1 - i] := List.getElem?_eq_getElem (by omega)
    refine .inr ⟨⟨hlt, xs, _, hl i σ H hi p, hx⟩, Pv (i + 1), fun σ' H' p' => ⟨xs.length - (i + 1), by omega, rfl, hlt, p'⟩, fun x H' y => ?_⟩
    obtain ⟨e, hy⟩ := y
    subst e
    have h1 := hy xs (hl i σ _ hi p)
    exact hs (Pv (i + 1)) i x σ _ (by rw [List.getElem?_reverse hlt]; exact h1) p fun _ _ q => q
  · have e : i = xs.length := by omega
    subst e
    exact .inl ⟨Nat.le_refl _, hd σ H p⟩
theorem z_lc_rev {xs : List V} {g : TG} {vs : List Nat} {D : Addr} {Qd : Hp → Prop} (Pv : Nat → List V → Hp → Prop) (nD : H D = none) (h0 : ∀ H', Ext [] H H' → Pv 0 [] H') (hl : ∀ i acc H, i ≤ xs.length → Pv i acc H → SqL K H a xs)
    (hs : ∀ (Nx : Hp → Prop) i x acc H, xs.reverse[i]? = some x → Pv i acc H → H D = some (.lst acc) → (∀ acc' H', Pv (i + 1) acc' H' → H' D = some (.lst acc') → Nx H') → g x (wipe σ vs) H fun σ2 H2 => wipe σ2 vs = wipe σ vs ∧ tt σ2 H2 fun b H3 =>
      if b = true then te σ2 H3 fun y H4 => ∃ acc, H4 D = some (.lst acc) ∧ acc.length < sizeLine ∧ Nx (upd H4 D (.lst (acc ++ [y]))) else Nx H3) (hd : ∀ acc H, Pv xs.length acc H → H D = some (.lst acc) → Qd H) :
    ∃ W : Nat → Nat → Hp → Prop, (∃ m, W 0 m (upd H D (.lst []))) ∧ ∀ i m H, W i m H →
      ((Itv K a xs.length).stop i H ∧ Qd H) ∨ ((Itv K a xs.length).go i H ∧ ∃ Nx : Hp → Prop, (∀ H', Nx H' → ∃ m', m' < m ∧ W (i + 1) m' H') ∧ ∀ x H', (Itv K a xs.length).yld i H x H' → g x (wipe σ vs) H' fun σ2 H2 => wipe σ2 vs = wipe σ vs ∧ tt σ2 H2 fun b H3 =>
        if b = true then te σ2 H3 fun y H4 => ∃ acc, H4 D = some (.lst acc) ∧ acc.length < sizeLine ∧ Nx (upd H4 D (.lst (acc ++ [y]))) else Nx H3) := by
  refine ⟨fun i m H => m = xs.length - i ∧ i ≤ xs.length ∧ ∃ acc, Pv i acc H ∧ H D = some (.lst acc), ⟨_, rfl, Nat.zero_le _, [], h0 _ (Ext.new nD), upd_same⟩, ?_⟩
  rintro i m H ⟨rfl, hi, acc, p, hD⟩
  by_cases hlt : i < xs.length
  · have hx : xs[xs.length - 1 - i]? = some xs[xs.length - 1 - i] := List.getElem?_eq_getElem (by omega)
    refine .inr ⟨⟨hlt, xs, _, hl i acc H hi p, hx⟩, (fun H => ∃ acc, Pv (i + 1) acc H ∧ H D = some (.lst acc)), fun H' p' => ⟨xs.length - (i + 1), by omega, rfl, hlt, p'⟩, fun x H' y => ?_⟩
    obtain ⟨e, hy⟩ := y
    subst e
    have h1 := hy xs (hl i acc _ hi p)
    exact hs _ i x acc _ (by rw [List.getElem?_reverse hlt]; exact h1) p hD fun acc' H' p' h' => ⟨acc', p', h'⟩
  · have e : i = xs.length := by omega
    subst e
    exact .inl ⟨Nat.le_refl _, hd acc H p hD⟩
/-! what is told the same: data of one form, lists of such -/
def Sl : Nat → Hp → V → V → Prop
  | 0, _, _, _ => False
  | n + 1, H, a, b => (∃ d, d.depth ≤ n ∧ Im H a d ∧ Im H b d) ∨ (∃ p q xs ys, a = .ref p ∧ b = .ref q ∧ H p = some (.lst xs) ∧ H q = some (.lst ys) ∧ xs.length ≤ 1000 ∧ Paired (Sl n H) xs ys)
theorem dAll_mem {d : PyData} : ∀ {ds : List PyData}, d ∈ ds → d.depth ≤ PyData.depthAll ds
  | x :: xs, h => by
    rw [PyData.depthAll]
    rcases List.mem_cons.mp h with h | h
    · rw [h]; exact Nat.le_max_left _ _
    · exact Nat.le_trans (dAll_mem h) (Nat.le_max_right _ _)
theorem d_tup (ds : List PyData) : (PyData.tuple ds).depth = PyData.depthAll ds + 1 := by rw [PyData.depth]
theorem Sl.im {n : Nat} {H : Hp} {a b : V} {d : PyData} (l : d.depth < n) (h : Im H a d) (k : Im H b d) : Sl n H a b := by
  cases n with
  | zero => omega
  | succ n => exact .inl ⟨d, by omega, h, k⟩
theorem Sl.ext {H H' : Hp} (e : Ext [] H H') : ∀ {n : Nat} {a b : V}, Sl n H a b → Sl n H' a b
  | 0, _, _, h => h
  | n + 1, a, b, h => by
    rcases h with ⟨d, l, i, j⟩ | ⟨p, q, xs, ys, rfl, rfl, hp, hq, lz, w⟩
    · exact .inl ⟨d, l, i.ext e, j.ext e⟩
    · exact .inr ⟨p, q, xs, ys, rfl, rfl, e.keep _ _ hp List.not_mem_nil, e.keep _ _ hq List.not_mem_nil, lz, Paired.mapP w fun _ _ z => Sl.ext e z⟩
theorem im_at0 {H : Hp} {a : Addr} {xs : List V} {ds : List PyData} (h : H a = some (.tup xs)) (i : Im H (.ref a) (.tuple ds)) : ImAll H xs ds := by
  cases i with
  | tup h' _ k => rw [h] at h'; cases h'; exact k
end
end Zk

set_option Elab.async false
set_option linter.all false
set_option maxRecDepth 100000
set_option maxHeartbeats 4000000
namespace L2
open PySem PySem.Spec PyProof.Rows
/-! ### several except clauses, each with a name or without -/
abbrev Cl3 := Value × Option Nat × (Addr → Value → Option Addr → TS)
def behindAs (D : Ends) (i : Nat) : Ends := { nx := fun σ' H' => D.nx (σ'.set i none) H', rt := D.rt, bk := fun σ' H' => D.bk (σ'.set i none) H', ct := fun σ' H' => D.ct (σ'.set i none) H' }
def wAll (K : PySem.W.Frag) (Wout : WX) (D : Ends) : List Cl3 → WX
  | [] => Wout
  | (c, none, ts) :: r => fun cls d σ H => ∃ b, PySem.W.exmOne K cls c = some b ∧ (b = true → ∀ a, H a = none → ts a cls d D σ H) ∧ (b = false → wAll K Wout D r cls d σ H)
  | (c, some i, ts) :: r => fun cls d σ H => ∃ b, PySem.W.exmOne K cls c = some b ∧ (b = true → ∀ a, H a = none → ts a cls d (behindAs D i) (σ.set i (some (.ref a))) H) ∧ (b = false → wAll K Wout D r cls d σ H)
inductive HdsZ (X : Cx) : List ExceptHandler → List Cl3 → Prop
  | nil : HdsZ X [] []
  | bare {x : Str} {c : Value} {ts : Addr → Value → Option Addr → TS} {st : Stmt} {su : List Stmt} {p1 p2 : Pos} {hds : List ExceptHandler} {l : List Cl3} (hc : Names X x c)
      (hsu : ∀ (a : Addr) (oe : Obj) (cls : Value) (d : Option Addr) (pn : List (Addr × Obj)), Zc cls d oe → (∃ vs, oe.data = .fields vs) → PSs (X.suite a ((a, oe) :: pn)) (st :: su) (ts a cls d)) (r : HdsZ X hds l) :
      HdsZ X (.ExceptHandler (some (.Name x p1)) none (st :: su) p2 :: hds) ((c, none, ts) :: l)
  | named {x n : Str} {c : Value} {i : Nat} {ts : Addr → Value → Option Addr → TS} {st : Stmt} {su : List Stmt} {p1 p2 : Pos} {hds : List ExceptHandler} {l : List Cl3} (hi : X.N[i]? = some n) (hl : X.env.kindOf n = some .local) (hc : Names X x c)
      (hsu : ∀ (a : Addr) (oe : Obj) (cls : Value) (d : Option Addr) (pn : List (Addr × Obj)), Zc cls d oe → (∃ vs, oe.data = .fields vs) → PSs (X.suite a ((a, oe) :: pn)) (st :: su) (ts a cls d)) (r : HdsZ X hds l) :
      HdsZ X (.ExceptHandler (some (.Name x p1)) (some n) (st :: su) p2 :: hds) ((c, some i, ts) :: l)
section
variable {X : Cx} {bd : List Stmt} {hd0 : ExceptHandler} {hds : List ExceptHandler} {l : List Cl3} {pos : Pos} {tb : WX → TS} {Wout : WX}
theorem ps_try_all (hs : X.stack = X.env :: X.outer) (hf : X.env.frame = some X.env.locals) (hN : X.N.Nodup) (tk : Takes X Wout)
    (hb : ∀ (W : WX) (pn : List (Addr × Obj)) (xe : Value → Shared → Prop), Takes (X.tr pn xe) W → PassesOwn (model X.prog X.w) X.A X.env xe → PSs (X.tr pn xe) bd (tb W))
    (hh : HdsZ X (hd0 :: hds) l) : PS X (.Try bd (hd0 :: hds) [] [] pos) (fun D σ H => tb (wAll X.K Wout D l) D σ H) := by
  refine ⟨fun pins s σ H D I h => ?_⟩
  have okX := I.ok
  have frX : X.A.frames = some (X.env :: X.outer) := by rw [okX.frames, hs]
  refine wpAny_Try_except ?_
  refine wpAny_mono ((hb (wAll X.K Wout D l) (X.pn ++ pins) (fun u1 t1 => wpAny (model X.prog X.w) X.A (noteFrame u1 X.env) (fun _ t2 => wpAny (model X.prog X.w) X.A (setFlight u1 none) (fun _ t3 =>
    wpAny (model X.prog X.w) X.A (handleBy u1 X.env (hd0 :: hds)) (SP X pins D) X.xe t3) X.xe t2) X.xe t1) (fun u s' xx => ?_) PassesOwn.looking).run [] s σ H D (I.toTry _) h) (fun fl s1 got => ?_) (fun _ _ z => z)
  · obtain ⟨a, B, sI, pins', σ', H', cls, d, rfl, Jt, nb, up, sky, na, os, ag, wsh⟩ := xx
    have J0 : Inv X pins σ' H' sI := Jt.ofTry okX
    have sky2 : Sky B (X.env :: X.outer) a (Zc cls d) X.env.locals s'.heap := by rw [← hs]; exact sky
    show wpAny (model X.prog X.w) X.A (noteFrame (.ref a) X.env) _ _ _
    refine Sky.land Zc.steady frX hf sky2 fun hp3 w3 up3 => ?_
    have I3 : Inv X pins σ' H' { s' with heap := hp3 } := J0.landed nb w3.1 (up.trans up3) os ag
    obtain ⟨ob3, fv3, at3, zc3, da3⟩ := w3.there
    have noFrame : ∀ {hh : Heap} {oo : Obj} {ff : Array Value}, hh.FunFrames B (X.env :: X.outer) → hh.get? a = some oo → oo.data = .fields ff → a ∉ frs (X.env :: X.outer) := fun {hh oo ff} fr e1 e2 hm => by
      obtain ⟨_, o2, e3, nf⟩ := fr.mem hm
      rw [e1] at e3; cases e3
      exact nf _ e2
    have nfr3 := noFrame w3.2.2.1 at3 da3
    have neL : a ≠ X.env.locals := fun z => nfr3 (List.mem_filterMap.mpr ⟨X.env, List.mem_cons_self, by rw [hf, z]⟩)
    have neF : a ∉ X.fs := fun hm => by
      obtain ⟨ev, hv, q⟩ := List.mem_filterMap.mp hm
      exact nfr3 (List.mem_filterMap.mpr ⟨ev, List.mem_cons_of_mem _ hv, q⟩)
    have Su3 := I3.suite at3 da3 na neL neF
    have look : PySem.W.Looks (model X.prog X.w) hp3 (typeOf (.ref a)) cls := fun A Q E s k q => wpAny_typeOf_ref (k _ _ at3) (by rw [zc3.1]; exact q)
    have asks : ∀ {x : Str} {c : Value} {np : Pos} {Q : Value → Shared → Prop} {E : Value → Shared → Prop}, Names X x c → Q c { s' with heap := hp3 } → wpAny (model X.prog X.w) (X.A.mark (some (.ref a))) (eval (.Name x np) X.env) Q E { s' with heap := hp3 } := fun {x c np Q E} hc q => by
      obtain ⟨hg, hdbg, hm | ⟨hm, hv, hnn⟩⟩ := hc
      · exact ld_glob (X := X.suite a ((a, ob3) :: (X.pn ++ pins))) Su3 hg hm q hdbg
      · exact ld_blt (X := X.suite a ((a, ob3) :: (X.pn ++ pins))) Su3 hg hm hv q hnn hdbg
    have walk : ∀ {hs2 : List ExceptHandler} {l2 : List Cl3}, HdsZ X hs2 l2 → wAll X.K Wout D l2 cls d σ' H' →
        wpAny (model X.prog X.w) X.A (handleBy (.ref a) X.env hs2) (SP X pins D) X.xe { s' with heap := hp3 } := by
      intro hs2 l2 hk
      induction hk with
      | nil =>
        intro w
        refine wpAny_handleBy_nil ?_
        obtain ⟨_, _, _, ob, fv, T, oT, _, hat, _, hda, h1, _⟩ := id w3
        unfold PySem.passOn
        refine wpAny_bind (wpAny_field hat hda h1 ?_)
        rw [if_neg (show ¬ ((Value.ref T == Value.none) = true) from by simp)]
        have leave : wpAny (model X.prog X.w) X.A (setFlight (.ref a) X.env.frame) (fun _ s4 => wpAny (model X.prog X.w) X.A (throw (.ref a) : Sem Flow) (SP X pins D) X.xe s4) X.xe { s' with heap := hp3 } := by
          rw [hf]
          refine HandSPX.setFlight_upZ w3 fun hp4 w4 up4 => wpAny_throw (tk _ _ ?_)
          exact ⟨a, B, sI, pins, σ', H', cls, d, rfl, J0, nb, (up.trans up3).trans up4, .inr (.inr (by rw [hs]; exact w4)), na, os, ag, w⟩
        first
          | exact wpAny_bind (wpAny_pure (wpAny_bind leave))
          | exact wpAny_bind leave
      | @bare x c ts st su p1 p2 hds2 l2 hc hsu r ih =>
        intro w
        obtain ⟨b, hb1, yes, no⟩ := w
        refine wpAny_handleBy_cons (codeAny_handlers_test ?_) (by intro q; cases q)
        refine asks hc ((PySem.W.exm_one (M := model X.prog X.w) (I3.kIn) look hb1).here ?_)
        cases b with
        | true =>
          refine codeAny_handlers_suite ?_
          refine HandSPX.lands_againZ w3 fun hp4 w4 up4 => ?_
          have I4 : Inv X pins σ' H' { s' with heap := hp4 } := J0.landed nb w4.1 ((up.trans up3).trans up4) os ag
          obtain ⟨ob4, fv4, at4, zc4, da4⟩ := w4.there
          have Su4 := I4.suite at4 da4 na neL neF
          refine wpAny_mono ((hsu a ob4 cls d (X.pn ++ pins) zc4 ⟨_, da4⟩).run [] _ _ H' _ Su4 (yes rfl a na)) (fun fl s6 got => ?_) (fun _ _ z => False.elim z)
          cases fl with
          | next =>
            obtain ⟨σ6, H6, Su6, q6⟩ := got
            exact ⟨_, _, Su6.unsuite okX, q6⟩
          | brk =>
            obtain ⟨σ6, H6, Su6, q6⟩ := got
            exact ⟨_, _, Su6.unsuite okX, q6⟩
          | cont =>
            obtain ⟨σ6, H6, Su6, q6⟩ := got
            exact ⟨_, _, Su6.unsuite okX, q6⟩
          | ret u =>
            obtain ⟨v6, σ6, H6, Su6, r6, q6⟩ := got
            exact ⟨_, _, _, Su6.unsuite okX, r6, q6⟩
        | false =>
          show wpAny _ X.A (handleBy (.ref a) X.env hds2) _ _ _
          exact ih (no rfl)
      | @named x n c i ts st su p1 p2 hds2 l2 hi hl hc hsu r ih =>
        intro w
        obtain ⟨b, hb1, yes, no⟩ := w
        refine wpAny_handleBy_cons (codeAny_handlers_test ?_) (by intro q; cases q)
        refine asks hc ((PySem.W.exm_one (M := model X.prog X.w) (I3.kIn) look hb1).here ?_)
        cases b with
        | true =>
          refine codeAny_handlers_suite_as ?_
          refine HandSPX.lands_againZ w3 fun hp4 w4 up4 => ?_
          have I4 : Inv X pins σ' H' { s' with heap := hp4 } := J0.landed nb w4.1 ((up.trans up3).trans up4) os ag
          obtain ⟨ob4, fv4, at4, zc4, da4⟩ := w4.there
          have Su4 := I4.suite at4 da4 na neL neF
          have hloc : Loc X.env.scope n := .inl hl
          refine store_ok (X := X.suite a ((a, ob4) :: (X.pn ++ pins))) (v := .ref a) Su4 hN hi hloc rfl (fun s5 Su5 => ?_) (.inr hl)
          refine wpAny_mono ((hsu a ob4 cls d (X.pn ++ pins) zc4 ⟨_, da4⟩).run [] s5 _ H' _ Su5 (yes rfl a na)) (fun fl s6 got => ?_) (fun _ _ z => False.elim z)
          have out : ∀ {σ6 : St} {H6 : Hp} {Q : Shared → Prop}, Inv (X.suite a ((a, ob4) :: (X.pn ++ pins))) [] σ6 H6 s6 → (∀ s7, Inv X pins (σ6.set i none) H6 s7 → Q s7) →
              wpAny (model X.prog X.w) X.A (do bindName X.env n .none; unbindBehindTheSuite X.env n p2) (fun _ s7 => Q s7) X.xe s6 := fun {σ6 H6 Q} Su6 hq => gone_ok (Su6.unsuite okX) hN hi hl hq
          cases fl with
          | next =>
            obtain ⟨σ6, H6, Su6, q6⟩ := got
            exact out Su6 fun s7 J7 => ⟨_, _, J7, q6⟩
          | brk =>
            obtain ⟨σ6, H6, Su6, q6⟩ := got
            exact out Su6 fun s7 J7 => ⟨_, _, J7, q6⟩
          | cont =>
            obtain ⟨σ6, H6, Su6, q6⟩ := got
            exact out Su6 fun s7 J7 => ⟨_, _, J7, q6⟩
          | ret u =>
            obtain ⟨v6, σ6, H6, Su6, r6, q6⟩ := got
            exact out Su6 fun s7 J7 => ⟨_, _, _, J7, r6, q6⟩
        | false =>
          show wpAny _ X.A (handleBy (.ref a) X.env hds2) _ _ _
          exact ih (no rfl)
    exact walk hh wsh
  · cases fl with
    | next =>
      obtain ⟨σ2, H2, J2, q⟩ := got
      exact wpAny_execs_nil ⟨σ2, H2, J2.ofTry okX, q⟩
    | brk =>
      obtain ⟨σ2, H2, J2, q⟩ := got
      exact ⟨σ2, H2, J2.ofTry okX, q⟩
    | cont =>
      obtain ⟨σ2, H2, J2, q⟩ := got
      exact ⟨σ2, H2, J2.ofTry okX, q⟩
    | ret u =>
      obtain ⟨v, σ2, H2, J2, rv, q⟩ := got
      exact ⟨v, σ2, H2, J2.ofTry okX, rv, q⟩
end
theorem ps_try_allK {X : Cx} {K : PySem.W.Frag} {bd : List Stmt} {hd0 : ExceptHandler} {hds : List ExceptHandler} {l : List Cl3} {pos : Pos} {tb : WX → TS} {Wout : WX} (hK : X.K = K) (hs : X.stack = X.env :: X.outer) (hf : X.env.frame = some X.env.locals) (hN : X.N.Nodup) (tk : Takes X Wout)
    (hb : ∀ (W : WX) (pn : List (Addr × Obj)) (xe : Value → Shared → Prop), Takes (X.tr pn xe) W → PassesOwn (model X.prog X.w) X.A X.env xe → PSs (X.tr pn xe) bd (tb W))
    (hh : HdsZ X (hd0 :: hds) l) : PS X (.Try bd (hd0 :: hds) [] [] pos) (fun D σ H => tb (wAll K Wout D l) D σ H) := by
  subst hK
  exact ps_try_all hs hf hN tk hb hh
/-- what is raised while a dict is walked: the dict is free again -/
theorem takes_unlk {X : Cx} {W : WX} (tk : Takes X W) : Takes X (fun cls d σ H => W cls d σ H ∨ ∃ (d0 : Addr) (od : Obj) (u : HO), H d0 = some (.frz od u) ∧ (∀ o' u', X.H_0 d0 ≠ some (.frz o' u')) ∧ W cls d σ (upd H d0 u)) := by
  rintro u s' ⟨a, B, sI, pins, σ, H, cls, d, e, I, nb, up, sky, na, os, ag, w | ⟨d0, od, u0, h0, hn, w⟩⟩
  · exact tk u s' ⟨a, B, sI, pins, σ, H, cls, d, e, I, nb, up, sky, na, os, ag, w⟩
  · refine tk u s' ⟨a, B, sI, pins, σ, _, cls, d, e, I.unlock h0 hn, nb, up, sky, ?_, os, ag, w⟩
    rw [upd_ne (fun z => by rw [z, h0] at na; cases na)]
    exact na
theorem takesNo {X : Cx} : Takes X (fun _ _ _ _ => False) := takes_none5
/-! ### a method that may raise, called within a try; one that is called where it does not raise -/
def tMethT (C : Addr) (m : Str) (sp : Sp) (E : St → XK) (ta : TE) (t : TA) : TE := fun σ H Q => ta σ H fun x H1 => ∃ a dx fs, x = .ref a ∧ H1 a = some (.ins C dx fs) ∧ fs.lookup m = none ∧ t σ H1 fun vs H2 => sp (x :: vs) H2 Q (E σ)
section
variable {X : Cx} {CX : CXT} {k : Nat} {f C : Addr} {fd : FuncData} {ps : List Str} {sp : Sp} {E : St → XK} {m : Str} {pos apos : Pos} {e o : Expr} {es : List Expr} {ta : TE} {t : TA}
theorem pe_methT {pl : Sem Bool} (he : PE X o ta) (c : Cls X.K C) (hm : Meth X.K C m f) (F : FnOk X.prog X.w X.K X.mg X.base CX k f fd ps sp) (hr : Room k X.A) (hb : Binds X.K fd ps []) (hx : ∀ σ, PassesAt CX X σ (E σ)) (ha : PA X (e :: es) t)
    (h1 : starEach (e :: es) X.env = (false, eval e X.env) :: starEach es X.env := by rfl) (h2 : (backTo pos (starEach es X.env)).any (·.1) = false := by rfl)
    (h3 : eval (.Call (.Attribute o m apos) (e :: es) [] pos) X.env = (do
      let w ← eval o X.env
      standAt apos.atName
      let (g, args) ← holding [w] (getMethod w m pl)
      callWith pos g args (backTo pos (starEach (e :: es) X.env)) (backToKw pos (keywordEach [] X.env))) := by rfl) :
    PE X (.Call (.Attribute o m apos) (e :: es) [] pos) (tMethT C m sp E ta t) := by
  refine ⟨fun pins s σ H Q I h => PySem.W.methodCall_KW (pl := pl) (thn (he.run pins s σ H _ I h) fun u s1 hh => ?_) h3⟩
  obtain ⟨x, H1, I1, rx, a, dx, fs, ex, ea, ml, q⟩ := hh
  subst ex
  obtain rfl : u = Value.ref a := rx
  refine getmeth_ok I1 ea c hm ml (PySem.W.callWith_K (first := [.ref a]) (h₀ := X.base) I.ok.mod.kin hm.kp (thn (ha.run pos pins s1 σ H1 _ I1 q) fun us s2 z => ?_) h1 h2)
  obtain ⟨vs, H2, I2, r, q2⟩ := z
  exact ⟨I2.kIn, run_fnS (us := .ref a :: us) (vs := .ref a :: vs) F hr hb (hx σ) I2 (.cons rfl r) q2⟩
end
/-- no way out that is ever taken -/
theorem passF {X : Cx} {CX : CXT} (h : ∀ st H s e s', ¬ CX st H s (fun _ _ _ => False) e s') : Passes CX X (fun _ _ _ => False) := fun _ _ _ _ _ _ _ z => (h _ _ _ _ _ z).elim
end L2
namespace Zk
open PySem PySem.Spec L2
open PyProof.Rows hiding St
theorem passX {X : Cx} : Passes (L2.CX X.prog X.w) X (fun _ _ _ => False) := fun _ _ _ _ _ _ _ z => by
  obtain ⟨_, _, _, _, _, _, _, _, _, _, _, _, e⟩ := z
  exact e.elim
/-! ### data compared -/
def rGtD (K : PySem.W.Frag) : R2 := fun x y H Q => ∃ d e, Dp K H x d ∧ Dp K H y e ∧ PySem.W.alike d e = true ∧ d ≠ .none ∧ min d.depth e.depth ≤ 64 ∧ Q (.bl (PySem.W.dataLt e d)) H
theorem op_gtD {X : Cx} {K : PySem.W.Frag} (hK : X.K = K) (hu : X.A.units + 64 < cLine) : OpR X (compareOp .Gt) (rGtD K) := by
  subst hK
  intro pins s σ H x y v u Q I rx ry h
  obtain ⟨d, e, hd, he, al, nn, dp, q⟩ := h
  obtain ⟨as, r1⟩ := Dp.reads I d x v hd rx
  obtain ⟨bs, r2⟩ := Dp.reads I e y u he ry
  exact PySem.W.gt_data r1 r2 al nn (Nat.lt_of_le_of_lt (Nat.add_le_add_left dp _) hu) ⟨.bl _, H, I, rfl, q⟩
/-- a list grows, within a try or a comprehension -/
theorem pe_appK {X : Cx} {K : PySem.W.Frag} {o e : Expr} {to : TE} {t : TA} {apos cpos : Pos} (hK : X.K = K) (ho : PE X o to) (ha : PA X [e] t) (hbase : attributeBase o "append" X.env (eval o X.env) = eval o X.env) (hline : (apos.endLine == cpos.line) = true)
    (hs : starEach [e] X.env = (false, eval e X.env) :: starEach [] X.env) : PE X (.Call (.Attribute o "append" apos) [e] [] cpos) (tBM K "list" zAppend to t) := by
  subst hK
  exact pe_bm PySem.F.plainAttrs_list PySem.F.slot_list_append PySem.F.type_list_append zmt_append ho ha hbase (by rw [hs] <;> rfl) hline hs rfl
theorem pi_listK {X : Cx} {tg e : Expr} {te : TE} {K : PySem.W.Frag} (hK : X.K = K) (he : PE X e te) : PI X tg e (iList K te) := by
  subst hK
  exact pi_list he
theorem pi_tupK {X : Cx} {tg e : Expr} {te : TE} {K : PySem.W.Frag} (hK : X.K = K) (he : PE X e te) : PI X tg e (iTup K te) := by
  subst hK
  exact pi_tup he
theorem pe_fldK {X : Cx} {e : Expr} {f : Str} {pos : Pos} {ta : TE} {K : PySem.W.Frag} (hK : X.K = K) (he : PE X e ta) (hb : attributeBase e f X.env (eval e X.env) = eval e X.env := by rfl) : PE X (.Attribute e f pos) (tFld K ta f) := by
  subst hK
  exact pe_fld he hb
/-! ### objects: reading a field, storing one, calling a method, making one -/
section
variable {K : PySem.W.Frag} {σ : L2.St} {H : Hp} {Q : VK} {a C dx : Addr} {fs : List (Str × V)} {f m : Str} {v y : V} {ta tv : TE} {t : TA} {nx bk ct : L2.St → Hp → Prop} {rt : VK} {sp : Sp} {dvs : List V} {E : XK}
theorem w_tfld (h : ta σ H fun x H1 => ∃ a C dx fs v, x = .ref a ∧ H1 a = some (.ins C dx fs) ∧ Cls K C ∧ NoAttr K C f ∧ fs.lookup f = some v ∧ Q v H1) : tFld K ta f σ H Q := h
theorem w_fld (h : H a = some (.ins C dx fs)) (c : Cls K C) (n : NoAttr K C f) (l : fs.lookup f = some v) (q : Q v H) : ∃ a' C dx fs v, V.ref a = .ref a' ∧ H a' = some (.ins C dx fs) ∧ Cls K C ∧ NoAttr K C f ∧ fs.lookup f = some v ∧ Q v H := ⟨a, C, dx, fs, v, rfl, h, c, n, l, q⟩
theorem w_tsfld (h : tv σ H fun y H1 => ta σ H1 fun x H2 => ∃ a C dx fs, x = .ref a ∧ H2 a = some (.ins C dx fs) ∧ Cls K C ∧ NoAttr K C f ∧ fs.length < 1000 ∧ nx σ (upd H2 a (.ins C dx (L2.putF f y fs)))) : sFld K ta tv f ⟨nx, rt, bk, ct⟩ σ H := h
theorem w_sfld {gs : List (Str × V)} {N : Hp → Prop} (h : H a = some (.ins C dx fs)) (c : Cls K C) (n : NoAttr K C f) (l : fs.length < 1000) (e : L2.putF f y fs = gs) (k : ∀ H', Ext [a] H H' → H' a = some (.ins C dx gs) → N H') :
    ∃ a' C dx fs, V.ref a = .ref a' ∧ H a' = some (.ins C dx fs) ∧ Cls K C ∧ NoAttr K C f ∧ fs.length < 1000 ∧ N (upd H a' (.ins C dx (L2.putF f y fs))) :=
  ⟨a, C, dx, fs, rfl, h, c, n, l, by rw [e]; exact k _ (Ext.mut h (fun z => z) (List.mem_singleton.mpr rfl)) upd_same⟩
theorem w_tmeth (h : ta σ H fun x H1 => ∃ a dx fs, x = .ref a ∧ H1 a = some (.ins C dx fs) ∧ fs.lookup m = none ∧ t σ H1 fun vs H2 => sp (x :: (vs ++ dvs)) H2 Q E) : tMeth C m sp dvs E ta t σ H Q := h
theorem w_tmethT {ET : L2.St → XK} (h : ta σ H fun x H1 => ∃ a dx fs, x = .ref a ∧ H1 a = some (.ins C dx fs) ∧ fs.lookup m = none ∧ t σ H1 fun vs H2 => sp (x :: vs) H2 Q (ET σ)) : tMethT C m sp ET ta t σ H Q := h
theorem w_meth {P : Prop} (h : H a = some (.ins C dx fs)) (l : fs.lookup m = none) (k : P) : ∃ a' dx fs, V.ref a = .ref a' ∧ H a' = some (.ins C dx fs) ∧ fs.lookup m = none ∧ P := ⟨a, dx, fs, rfl, h, l, k⟩
theorem w_tmake (h : t σ H fun vs H1 => ∀ x dx, H1 x = none → H1 dx = none → dx ≠ x → sp (.ref x :: (vs ++ dvs)) (upd (upd H1 dx (.own x)) x (.ins C dx [])) (fun v H2 => v = .non ∧ Q (.ref x) H2) E) : tMake C sp dvs E t σ H Q := h
/-- a fresh instance -/
theorem make_ext {x dx : Addr} (nx : H x = none) (nd : H dx = none) (ne : dx ≠ x) : Ext [] H (upd (upd H dx (.own x)) x (.ins C dx [])) :=
  (Ext.new nd).trans (Ext.new (by rw [upd_ne (Ne.symm ne)]; exact nx))
end
/-- the fields by name -/
theorem lk_same {f : Str} {v : V} {r : List (Str × V)} : List.lookup f ((f, v) :: r) = some v := by simp [List.lookup]
theorem lk_other {f g : Str} {v : V} {r : List (Str × V)} (h : (f == g) = false) : List.lookup f ((g, v) :: r) = List.lookup f r := by simp [List.lookup, h]
theorem pf_same {f : Str} {v w : V} {r : List (Str × V)} : L2.putF f v ((f, w) :: r) = (f, v) :: r := by unfold L2.putF; rw [if_pos rfl]
theorem pf_other {f g : Str} {v w : V} {r : List (Str × V)} (h : (g == f) = false) : L2.putF f v ((g, w) :: r) = (g, w) :: L2.putF f v r := by
  show (if g = f then _ else _) = _
  rw [if_neg (fun e => by rw [e] at h; simp at h)]
theorem pf_nil {f : Str} {v : V} : L2.putF f v [] = [(f, v)] := rfl
end Zk

set_option Elab.async false
set_option linter.all false
set_option maxRecDepth 100000
set_option maxHeartbeats 4000000
namespace Zk
open PySem PySem.Spec L2
open PyProof.Rows hiding St
/-! ### {(a, b): c, ..}: a display whose keys are tuples -/
section
variable {X : Cx} {pins : List (Addr × Obj)} {σ : L2.St} {s : Shared}
def putAll (qs : List (List Key × Addr × V)) (acc : List (List Key × V)) : List (List Key × V) := qs.foldl (fun acc q => putK acc q.1 q.2.2) acc
theorem upd_twice {H : Hp} {p : Addr} {a b : HO} : upd (upd H p a) p b = upd H p b := by
  funext x
  by_cases z : x = p
  · subst z; rw [upd_same, upd_same]
  · rw [upd_ne z, upd_ne z, upd_ne z]
theorem storeAllT {E : Value → Shared → Prop} {D : Addr} (hu : X.A.units + 1 < cLine) : ∀ (qs : List (List Key × Addr × V)) (ws : List (Value × Value)) (acc : List (List Key × V)) (H : Hp) (s : Shared) (Q : PUnit → Shared → Prop),
    L2.Inv X pins σ (upd H D (.dT acc)) s → VV (qs.map fun q => (V.ref q.2.1, q.2.2)) ws → (∀ q ∈ qs, q.2.1 ≠ D ∧ H q.2.1 = some (.tup (q.1.map kV))) → acc.length + qs.length < sizeLine →
    (∀ s', L2.Inv X pins σ (upd H D (.dT (putAll qs acc))) s' → Q PUnit.unit s') →
    wpAny (model X.prog X.w) X.A (forIn ws PUnit.unit fun (x : Value × Value) (_ : PUnit) => (do dictSet D x.1 x.2; pure (ForInStep.yield PUnit.unit) : Sem (ForInStep PUnit))) Q E s
  | [], ws, acc, H, s, Q, I, r, _, _, hQ => by
    cases r
    rw [List.forIn_nil]
    exact wpAny_pure (hQ s I)
  | q :: qs, ws, acc, H, s, Q, I, r, hk, hz, hQ => by
    rw [List.map_cons] at r
    rw [List.length_cons] at hz
    cases r with
    | @cons a b as bs h t =>
      obtain ⟨b1, b2⟩ := b
      obtain rfl : b1 = Value.ref q.2.1 := h.1
      obtain ⟨n1, n2⟩ := hk q List.mem_cons_self
      rw [List.forIn_cons]
      refine wpAny_bind (wpAny_bind (dictSet_tup hu I upd_same (by rw [upd_ne n1]; exact n2) (by omega) h.2 fun s1 I1 => wpAny_pure ?_))
      rw [upd_twice] at I1
      have l := length_putK acc q.1 (V.ref q.2.1, q.2.2).2
      exact storeAllT hu qs bs _ H s1 Q I1 t (fun x m => hk x (List.mem_cons_of_mem _ m)) (by omega) hQ
def tDispT (trs : List (TE × TE)) : TE := fun σ H Q => ∀ p, H p = none → tPairs trs σ (upd H p (.dT [])) fun ps H2 => H2 p = some (.dT []) ∧ ∃ qs : List (List Key × Addr × V), ps = qs.map (fun q => (V.ref q.2.1, q.2.2)) ∧
  (∀ q ∈ qs, H2 q.2.1 = some (.tup (q.1.map kV))) ∧ Q (.ref p) (upd H2 p (.dT (putAll qs [])))
theorem pe_dispT {pos : Pos} {keys : List (Option Expr)} {values : List Expr} {trs : List (TE × TE)} (hu : X.A.units + 1 < cLine) (h : PPs X pos keys values trs) (hall : keys.all (·.isSome) = true) (hl : keys.length = values.length) (h0 : keys ≠ [])
    (h15 : keys.length ≤ 15) : PE X (.Dict keys values pos) (tDispT trs) := by
  refine ⟨fun pins s σ H Q I q => ?_⟩
  have hn := I.hok.fresh (Nat.le_refl s.heap.objs.size)
  have I1 := I.laid (a := s.heap.objs.size) (o := .dT []) (h' := s.heap.push { cls := .type "dict", data := .dict #[] }) (t' := s.toks) (fun _ _ q => Heap.get?_push_of_some _ q) (Nat.le_refl _) (dt_empty s.heap I.big)
  have ln := pairTrees_length keys values X.env pos hall hl
  have ne : pairTrees keys values X.env pos ≠ [] := fun z => by
    rw [z] at ln
    exact h0 (List.length_eq_zero_iff.mp ln.symm)
  rw [arm_eval_Dict, zip_pairTrees keys values X.env pos hall hl, dictDisplay_pairs _ ne (by omega)]
  refine wpAny_bind (wpAny_standAt (wpAny_bind ?_))
  unfold subDict
  refine wpAny_bind (wpAny_alloc (wpAny_bind (wpAny_holding ?_)))
  rw [if_pos (by rw [ln]; exact h15)]
  refine wpAny_bind (wpAny_mono (wpAny_evalPairs_len (h.run pins _ σ _ _ I1 (q _ hn))) (fun ws s2 h2 => ?_) fun _ _ e => e)
  obtain ⟨hv, ps, H2, I2, rel, e, qs, ep, hk, q2⟩ := h2
  subst ep
  have lq : qs.length = ws.length := by have := paired_len rel; rwa [List.length_map] at this
  have I3 : L2.Inv X pins σ (upd H2 s.heap.objs.size (.dT [])) s2 := by
    have : upd H2 s.heap.objs.size (.dT []) = H2 := by
      funext x
      by_cases z : x = s.heap.objs.size
      · rw [z, upd_same, e]
      · rw [upd_ne z]
    rw [this]; exact I2
  refine wpAny_holding (wpAny_bind (storeAllT hu qs ws [] H2 s2 _ I3 rel (fun x m => ⟨fun z => ?_, hk x m⟩) ?_ fun s3 I4 => wpAny_pure (wpAny_pure (wpAny_pure ⟨.ref s.heap.objs.size, _, I4, rfl, q2⟩))))
  · have := hk x m
    rw [z, e] at this; cases this
  · rw [sizeLine_eq, lq, hv, ln, List.length_nil]; omega
end
section
variable {H : Hp} {Q : VK} {σ : L2.St} {te : TE}
theorem w_part {P : Option Int → Hp → Prop} (h : te σ H fun x H1 => ∃ j : Int, x = .int j ∧ P (some j) H1) : tPart te σ H P := h
theorem w_slL {K : PySem.W.Frag} {a : Addr} {xs : List V} {lo hi : Option Int} (h : SqL K H a xs) (q : Alc (.lst (cutV xs lo hi)) H Q) : rSlL K (.ref a) lo hi H Q := ⟨a, xs, rfl, h, q⟩
theorem w_max2 {i j : Int} (q : Q (.int (if j > i then j else i)) H) : ∃ i' j', [V.int i, V.int j] = [V.int i', V.int j'] ∧ Q (.int (if j' > i' then j' else i')) H := ⟨i, j, rfl, q⟩
theorem w_gtS {K : PySem.W.Frag} {a b : Addr} {s t : Slot} (ha : H a = some (.tup (sVs s))) (hb : H b = some (.tup (sVs t))) (q : Q (.bl (sLt t s)) H) : rGtD K (.ref a) (.ref b) H Q := by
  refine ⟨sD s, sD t, (im_slot ha).dp, (im_slot hb).dp, sD_alike _ _, (fun z => nomatch z), ?_, ?_⟩
  · rw [sD_depth, sD_depth]; decide
  · rw [sD_lt]; exact q
theorem SlotsAt.take {H : Hp} {as : List Addr} {ss : List Slot} (h : SlotsAt H as ss) (n : Nat) : SlotsAt H (as.take n) (ss.take n) := by
  unfold SlotsAt at *
  induction h generalizing n with
  | nil => rw [List.take_nil, List.take_nil]; exact .nil
  | cons h t ih => cases n with
    | zero => exact .nil
    | succ n => exact .cons h (ih n)
end
section
variable {H : Hp} {Q : List (V × V) → Hp → Prop} {tk tv : TE} {σ : L2.St} {r : List (TE × TE)}
theorem w_pnil (q : Q [] H) : tPairs [] σ H Q := q
theorem w_pcons (h : tk σ H fun x H1 => tv σ H1 fun y H2 => tPairs r σ H2 fun ps H3 => Q ((x, y) :: ps) H3) : tPairs ((tk, tv) :: r) σ H Q := h
theorem w_dispT {trs : List (TE × TE)} {QV : VK} (k : ∀ p H', Ext [] H H' → H p = none → H' p = some (.dT []) → tPairs trs σ H' fun ps H2 => H2 p = some (.dT []) ∧ ∃ qs : List (List Key × Addr × V), ps = qs.map (fun q => (V.ref q.2.1, q.2.2)) ∧
  (∀ q ∈ qs, H2 q.2.1 = some (.tup (q.1.map kV))) ∧ QV (.ref p) (upd H2 p (.dT (putAll qs [])))) : tDispT trs σ H QV := fun p np => k p _ (Ext.new np) np upd_same
end
/-! ### a dict made of a list, of a tuple -/
theorem z_dc_list {xs : List V} {a : Addr} {g : TG} {tk tv : TE} {tt : TT} {vs : List Nat} {D : Addr} {Qd : Hp → Prop} {σ : L2.St} {H : Hp} {K : PySem.W.Frag} (Pv : Nat → Hp → Prop) (h0 : ∀ H', Ext [] H H' → H' D = some (.dT []) → Pv 0 H') (nD : H D = none) (hl : ∀ i H, i ≤ xs.length → Pv i H → SqL K H a xs)
    (hs : ∀ (Nx : Hp → Prop) i x H, xs[i]? = some x → Pv i H → (∀ H', Pv (i + 1) H' → Nx H') → g x (wipe σ vs) H fun σ2 H2 => wipe σ2 vs = wipe σ vs ∧ tt σ2 H2 fun b H3 =>
      if b = true then tk σ2 H3 fun y H4 => tv σ2 H4 fun z H5 => ∃ kvs k q, y = .ref q ∧ H5 q = some (.tup (k.map kV)) ∧ H5 D = some (.dT kvs) ∧ kvs.length < sizeLine ∧ Nx (upd H5 D (.dT (putK kvs k z))) else Nx H3) (hd : ∀ H, Pv xs.length H → Qd H) :
    ∃ W : Nat → Nat → Hp → Prop, (∃ m, W 0 m (upd H D (.dT []))) ∧ ∀ i m H, W i m H →
      ((Itl K a).stop i H ∧ Qd H) ∨ ((Itl K a).go i H ∧ ∃ Nx : Hp → Prop, (∀ H', Nx H' → ∃ m', m' < m ∧ W (i + 1) m' H') ∧ ∀ x H', (Itl K a).yld i H x H' → g x (wipe σ vs) H' fun σ2 H2 => wipe σ2 vs = wipe σ vs ∧ tt σ2 H2 fun b H3 =>
        if b = true then tk σ2 H3 fun y H4 => tv σ2 H4 fun z H5 => ∃ kvs k q, y = .ref q ∧ H5 q = some (.tup (k.map kV)) ∧ H5 D = some (.dT kvs) ∧ kvs.length < sizeLine ∧ Nx (upd H5 D (.dT (putK kvs k z))) else Nx H3) := by
  refine ⟨fun i m H => m = xs.length - i ∧ i ≤ xs.length ∧ Pv i H, ⟨_, rfl, Nat.zero_le _, h0 _ (Ext.new nD) upd_same⟩, ?_⟩
  rintro i m' H ⟨rfl, hi, p⟩
  have sq := hl i H hi p
  rcases Nat.lt_or_ge i xs.length with hlt | hge
  · refine .inr ⟨⟨xs, xs[i], sq, List.getElem?_eq_getElem hlt⟩, Pv (i + 1), fun H' p' => ⟨xs.length - (i + 1), by omega, rfl, hlt, p'⟩, fun x H' y => ?_⟩
    obtain ⟨e, y⟩ := y
    subst e
    exact hs (Pv (i + 1)) i x _ (y xs sq) p fun _ q => q
  · have e : i = xs.length := by omega
    subst e
    exact .inl ⟨⟨xs, sq, Nat.le_refl _⟩, hd H p⟩
theorem z_dc_tup {xs : List V} {a : Addr} {g : TG} {tk tv : TE} {tt : TT} {vs : List Nat} {D : Addr} {Qd : Hp → Prop} {σ : L2.St} {H : Hp} {K : PySem.W.Frag} (Pv : Nat → Hp → Prop) (h0 : ∀ H', Ext [] H H' → H' D = some (.dT []) → Pv 0 H') (nD : H D = none) (hl : ∀ i H, i ≤ xs.length → Pv i H → SqT K H a xs)
    (hs : ∀ (Nx : Hp → Prop) i x H, xs[i]? = some x → Pv i H → (∀ H', Pv (i + 1) H' → Nx H') → g x (wipe σ vs) H fun σ2 H2 => wipe σ2 vs = wipe σ vs ∧ tt σ2 H2 fun b H3 =>
      if b = true then tk σ2 H3 fun y H4 => tv σ2 H4 fun z H5 => ∃ kvs k q, y = .ref q ∧ H5 q = some (.tup (k.map kV)) ∧ H5 D = some (.dT kvs) ∧ kvs.length < sizeLine ∧ Nx (upd H5 D (.dT (putK kvs k z))) else Nx H3) (hd : ∀ H, Pv xs.length H → Qd H) :
    ∃ W : Nat → Nat → Hp → Prop, (∃ m, W 0 m (upd H D (.dT []))) ∧ ∀ i m H, W i m H →
      ((Itt K a).stop i H ∧ Qd H) ∨ ((Itt K a).go i H ∧ ∃ Nx : Hp → Prop, (∀ H', Nx H' → ∃ m', m' < m ∧ W (i + 1) m' H') ∧ ∀ x H', (Itt K a).yld i H x H' → g x (wipe σ vs) H' fun σ2 H2 => wipe σ2 vs = wipe σ vs ∧ tt σ2 H2 fun b H3 =>
        if b = true then tk σ2 H3 fun y H4 => tv σ2 H4 fun z H5 => ∃ kvs k q, y = .ref q ∧ H5 q = some (.tup (k.map kV)) ∧ H5 D = some (.dT kvs) ∧ kvs.length < sizeLine ∧ Nx (upd H5 D (.dT (putK kvs k z))) else Nx H3) := by
  refine ⟨fun i m H => m = xs.length - i ∧ i ≤ xs.length ∧ Pv i H, ⟨_, rfl, Nat.zero_le _, h0 _ (Ext.new nD) upd_same⟩, ?_⟩
  rintro i m' H ⟨rfl, hi, p⟩
  have sq := hl i H hi p
  rcases Nat.lt_or_ge i xs.length with hlt | hge
  · refine .inr ⟨⟨xs, xs[i], sq, List.getElem?_eq_getElem hlt⟩, Pv (i + 1), fun H' p' => ⟨xs.length - (i + 1), by omega, rfl, hlt, p'⟩, fun x H' y => ?_⟩
    obtain ⟨e, y⟩ := y
    subst e
    exact hs (Pv (i + 1)) i x _ (y xs sq) p fun _ q => q
  · have e : i = xs.length := by omega
    subst e
    exact .inl ⟨⟨xs, sq, Nat.le_refl _⟩, hd H p⟩
end Zk

set_option Elab.async false
set_option linter.all false
set_option maxRecDepth 100000
set_option maxHeartbeats 4000000
namespace Zk
open PySem PySem.Spec L2
open PyProof.Rows hiding St
/-! ### del d[k], k a tuple -/
theorem kt_drop {H : Hp} {kvs : List (List Key × V)} {xs : List (List Key × Addr × Value)} (r : KT H kvs xs) (k : List Key) : KT H (dropK kvs k) (withoutH xs k) := by
  unfold KT at r ⊢
  unfold dropK withoutH
  induction r with
  | nil => exact .nil
  | @cons p q ps qs h t ih =>
    have e : p.1 = q.1 := h.1
    by_cases z : q.1 = k
    · rw [List.filter_cons_of_neg (by rw [e, z]; simp), List.filter_cons_of_neg (by rw [z]; simp)]
      exact ih
    · rw [List.filter_cons_of_pos (by rw [e]; simpa using z), List.filter_cons_of_pos (by simpa using z)]
      exact .cons h ih
section
variable {X : Cx} {pins : List (Addr × Obj)} {σ : L2.St} {H : Hp} {s : Shared} {A : Around} {E : Value → Shared → Prop}
theorem d_delT {a b : Addr} {kvs : List (List Key × V)} {k : List Key} {v : V} {Q : Unit → Shared → Prop} (hu : A.units + 1 < cLine) (I : L2.Inv X pins σ H s) (e : H a = some (.dT kvs)) (eb : H b = some (.tup (k.map kV))) (l : valV kvs k = some v)
    (h : ∀ s', L2.Inv X pins σ (upd H a (.dT (dropK kvs k))) s' → Q () s') : wpAny (model X.prog X.w) A (delItem (.ref a) (.ref b)) Q E s := by
  obtain ⟨z, hd, xs, rel, dd⟩ := dt_of I.hok e
  obtain ⟨w', hw, _⟩ := RelO.some_of (v := v) (o := (atKey xs k).map (·.2)) (by rw [← l]; exact rel.val k)
  obtain ⟨p, hp, _⟩ := Option.map_eq_some_iff.mp hw
  have lx : xs.length ≤ sizeLine := by
    have := Paired.length rel
    omega
  refine wpAny_delItem_heap (hsz := lx) (tupleKind_room_in1 hu) (key_of I.hok eb) hd dd hp fun h' dd' hs => h _ ?_
  obtain ⟨q, es, ep, hq, a2, a3, a4, _, a5⟩ := dd'
  refine d_write I (by rw [e]; exact True.intro) hs ⟨q, hq⟩ ⟨Nat.le_trans (dropK_le kvs k) z, hd, _, (kt_drop rel k).keeps fun c ys ec => ?_, q, es, ep, hq, a2, a3, a4, a5⟩
  rw [upd_ne (ne_of ec e (fun z => by cases z))]
  exact ec
def sDDelT (td ty : TE) : TS := fun D σ H => td σ H fun x H1 => ty σ H1 fun y H2 => ∃ a b kvs k v, x = .ref a ∧ H2 a = some (.dT kvs) ∧ y = .ref b ∧ H2 b = some (.tup (k.map kV)) ∧ valV kvs k = some v ∧ D.nx σ (upd H2 a (.dT (dropK kvs k)))
theorem ps_ddelT {o i : Expr} {pos tpos : Pos} {td ty : TE} (hu : X.A.units + 1 < cLine) (ho : PE X o td) (hi : PE X i ty) : PS X (.Delete [.Subscript o i tpos] pos) (sDDelT td ty) := by
  refine ⟨fun pins s σ H D I h => wpAny_Delete (wpAny_deleteEach_cons (wpAny_delete_Subscript (thn (ho.run pins s σ H _ I h) fun u s1 g1 => ?_)))⟩
  obtain ⟨x, H1, I1, rx, q1⟩ := g1
  refine thn (hi.run pins s1 σ H1 _ I1 q1) fun iv s2 g2 => ?_
  obtain ⟨y, H2, I2, ry, a, b, kvs, k, v, ex, e, ey, eb, l, q2⟩ := g2
  subst ex ey
  obtain rfl : u = Value.ref a := rx
  obtain rfl : iv = Value.ref b := ry
  exact d_delT hu I2 e eb l fun s3 I3 => wpAny_deleteEach_nil ⟨σ, _, I3, q2⟩
end
def delF (f : Fd) (s : Slot) : Fd := fun t => if t = s then none else f t
theorem DMk.drop {U : List Slot} {H : Hp} {kvs : List (List Key × V)} {ks : List Slot} {f : Fd} (h : DMk U H kvs ks f) (s : Slot) : DMk U H (dropK kvs (sKey s)) (ks.filter fun t => decide (t ≠ s)) (delF f s) := by
  refine ⟨?_, h.nd.filter _, fun t m => h.sub t (List.mem_filter.mp m).1, fun t => ?_⟩
  · have e := h.keys
    clear h
    unfold dropK
    induction kvs generalizing ks with
    | nil => cases ks with
      | nil => rfl
      | cons t r => cases e
    | cons p r ih => cases ks with
      | nil => cases e
      | cons t ts =>
        injection e with e1 e2
        have e1 : p.1 = sKey t := e1
        have i := ih e2
        by_cases z : t = s
        · rw [List.filter_cons_of_neg (by rw [e1, z]; simp), List.filter_cons_of_neg (by rw [z]; simp)]
          exact i
        · have z' : ¬ p.1 = sKey s := fun y => z (sKey_inj (e1.symm.trans y))
          rw [List.filter_cons_of_pos (by simpa using z'), List.filter_cons_of_pos (by simpa using z), List.map_cons, List.map_cons, i, e1]
  · have e : valV (dropK kvs (sKey s)) (sKey t) = if t = s then none else valV kvs (sKey t) := by
      unfold dropK
      by_cases z : t = s
      · rw [if_pos z, z]
        have : ¬ (valV (kvs.filter fun kv => decide (kv.1 ≠ sKey s)) (sKey s)).isSome = true := fun y => by
          rw [val_mem, List.mem_map] at y
          obtain ⟨p, hp, e⟩ := y
          have := (List.mem_filter.mp hp).2
          simp [e] at this
        exact Option.not_isSome_iff_eq_none.mp this
      · rw [if_neg z]
        have z' : sKey t ≠ sKey s := fun y => z (sKey_inj y)
        clear h
        induction kvs with
        | nil => rfl
        | cons p r ih =>
          by_cases y : p.1 = sKey s
          · rw [List.filter_cons_of_neg (by simpa using y), ih, valV_neg (fun w => z' (w.symm.trans y))]
          · rw [List.filter_cons_of_pos (by simpa using y)]
            by_cases w : p.1 = sKey t
            · rw [valV_pos w, valV_pos w]
            · rw [valV_neg w, valV_neg w, ih]
    rw [e]
    unfold delF
    by_cases z : t = s
    · rw [if_pos z, if_pos z]; trivial
    · rw [if_neg z, if_neg z]; exact h.val t
theorem w_tddel {td ty : TE} {nx bk ct : L2.St → Hp → Prop} {rt : VK} {σ : L2.St} {H : Hp} (h : td σ H fun x H1 => ty σ H1 fun y H2 => ∃ a b kvs k v, x = .ref a ∧ H2 a = some (.dT kvs) ∧ y = .ref b ∧ H2 b = some (.tup (k.map kV)) ∧ valV kvs k = some v ∧ nx σ (upd H2 a (.dT (dropK kvs k)))) : sDDelT td ty ⟨nx, rt, bk, ct⟩ σ H := h
theorem w_ddelT {U : List Slot} {H : Hp} {a b : Addr} {f : Fd} {s : Slot} {N : Hp → Prop} (h : DM U H a f) (eb : H b = some (.tup (sVs s))) (hs : (f s).isSome = true) (k : ∀ H', Ext [a] H H' → DM U H' a (delF f s) → N H') :
    ∃ a' b' kvs k v, V.ref a = .ref a' ∧ H a' = some (.dT kvs) ∧ V.ref b = .ref b' ∧ H b' = some (.tup (k.map kV)) ∧ valV kvs k = some v ∧ N (upd H a' (.dT (dropK kvs k))) := by
  obtain ⟨kvs, ks, h, w⟩ := h
  have o := (w.val s).iss
  rw [hs] at o
  obtain ⟨v, hv⟩ := Option.isSome_iff_exists.mp o
  have e : Ext [a] H (upd H a (.dT (dropK kvs (sKey s)))) := Ext.mut h (fun z => z) (List.mem_singleton.mpr rfl)
  exact ⟨a, b, kvs, sKey s, v, rfl, h, rfl, eb, hv, k _ e ⟨_, _, upd_same, (w.drop s).ext e⟩⟩
/-- as Sm; tuples of such too -/
def Sq (U : List Slot) : Nat → Hp → V → V → Prop
  | 0, _, _, _ => False
  | n + 1, H, a, b => (∃ d, d.depth ≤ n ∧ Im H a d ∧ Im H b d) ∨ (∃ p q xs ys, a = .ref p ∧ b = .ref q ∧ H p = some (.lst xs) ∧ H q = some (.lst ys) ∧ xs.length ≤ 1000 ∧ Paired (Sq U n H) xs ys) ∨
    (3 ≤ n ∧ U.length ≤ 1000 ∧ ∃ p q f, a = .ref p ∧ b = .ref q ∧ DM U H p f ∧ DM U H q f ∧ ∀ s d, f s = some d → d.depth < n) ∨
    ∃ p q xs ys, a = .ref p ∧ b = .ref q ∧ H p = some (.tup xs) ∧ H q = some (.tup ys) ∧ xs.length ≤ 1000 ∧ Paired (Sq U n H) xs ys
theorem Sq.im {U : List Slot} {n : Nat} {H : Hp} {a b : V} {d : PyData} (l : d.depth < n) (h : Im H a d) (k : Im H b d) : Sq U n H a b := by
  cases n with
  | zero => omega
  | succ n => exact .inl ⟨d, by omega, h, k⟩
theorem Sq.ext {U : List Slot} {H H' : Hp} (e : Ext [] H H') : ∀ {n : Nat} {a b : V}, Sq U n H a b → Sq U n H' a b
  | 0, _, _, h => h
  | n + 1, a, b, h => by
    rcases h with ⟨d, l, i, j⟩ | ⟨p, q, xs, ys, rfl, rfl, hp, hq, lz, w⟩ | ⟨l, hU, p, q, f, rfl, rfl, hp, hq, w⟩ | ⟨p, q, xs, ys, rfl, rfl, hp, hq, lz, w⟩
    · exact .inl ⟨d, l, i.ext e, j.ext e⟩
    · exact .inr (.inl ⟨p, q, xs, ys, rfl, rfl, e.keep _ _ hp List.not_mem_nil, e.keep _ _ hq List.not_mem_nil, lz, Paired.mapP w fun _ _ z => Sq.ext e z⟩)
    · exact .inr (.inr (.inl ⟨l, hU, p, q, f, rfl, rfl, hp.ext e List.not_mem_nil, hq.ext e List.not_mem_nil, w⟩))
    · exact .inr (.inr (.inr ⟨p, q, xs, ys, rfl, rfl, e.tup hp, e.tup hq, lz, Paired.mapP w fun _ _ z => Sq.ext e z⟩))
theorem sq_slots {U : List Slot} {n : Nat} {H : Hp} (hn : 2 ≤ n) : ∀ {as bs : List Addr} {ss : List Slot}, SlotsAt H as ss → SlotsAt H bs ss → Paired (Sq U n H) (as.map V.ref) (bs.map V.ref)
  | _, _, _, .nil, .nil => .nil
  | _, _, _, .cons h t, .cons k u => .cons (Sq.im (d := sD _) (by rw [sD_depth]; omega) (im_slot h) (im_slot k)) (sq_slots hn t u)
/-! ### {s: d[s] for s in d}: a dict of slots copied -/
theorem dm_unlkZ {U : List Slot} {H0 H1 H3 H4 : Hp} {M : List Addr} {d D : Addr} {u : HO} {od : Obj} {f : Fd} (L : Lk d u od H0 H1) (e : Ext M H1 H3) (kp : ∀ b o, H3 b = some o → b ≠ d → H4 b = some o) (n : D ≠ d) (h : DM U H3 D f) : DM U H4 D f := by
  obtain ⟨kv3, ks3, h3, m3⟩ := h
  refine ⟨kv3, ks3, kp D _ h3 n, m3.keys, m3.nd, m3.sub, fun s => ?_⟩
  have v3 := m3.val s
  revert v3
  cases valV kv3 (sKey s) <;> cases f s <;> intro v3
  · exact v3
  · exact v3
  · exact v3
  · refine Im.go (fun a xs h => kp a _ h fun z => ?_) _ _ v3
    subst z
    have := e.imm _ _ L.at trivial
    rw [h] at this; cases this
theorem w_dcopyI {U : List Slot} {H H2 : Hp} {p : Addr} {f : Fd} {Q : VK} {σ : L2.St} {te te2 : TE} {i : Nat} {vs : List Nat} {kvs : List (List Key × V)} {ks : List Slot} {od : Obj} (hU : U.length ≤ 1000) (hp : H p = some (.dT kvs)) (mp : DMk U H kvs ks f) (L : Lk p (.dT kvs) od H H2)
    (h1 : ∀ u od H1 (R : VK), Lk p u od H H1 → R (.ref p) H1 → te σ H1 R)
    (h2 : ∀ u od H1 D H2 b (R : VK), Lk p u od H H1 → H1 D = none → Ext [D] H1 H2 → R (.ref p) H2 → te2 ((wipe σ vs).set i (some (.ref b))) H2 R)
    (hw : ∀ b, wipe ((wipe σ vs).set i (some (.ref b))) vs = wipe σ vs) (hi : ∀ b, ((wipe σ vs).set i (some (.ref b)))[i]? = some (some (.ref b)))
    (k : ∀ r H', Ext [] H H' → H r = none → DM U H' r f → Q (.ref r) H') : zDcT (iKeys te) (gName i) tYes (tVar i) (tDGet te2 (tVar i)) vs σ H2 (fun v H' => H' p = some (.frz od (.dT kvs)) ∧ Q v (upd H' p (.dT kvs))) := by
  refine w_dc (w_iKeys (h1 _ _ _ _ L ⟨p, od, rfl, .inr ⟨kvs, L.at, fun D nD => ?_⟩⟩))
  have f2 := (show DM U H p f from ⟨kvs, ks, hp, mp⟩).dr.lk L
  refine z_dc_keysT mp (fun i H' => Ext [] H2 H' ∧ DM U H' D (resF (ks.take i) f)) (fun H' e h => ⟨e, by rw [List.take_zero, resF_nil]; exact DM.nil h⟩) nD (fun i H' _ ⟨e, _⟩ => e.imm _ _ L.at trivial) ?_ ?_
  · rintro Nx j s c b H3 hsj hc hb ⟨e3, hD⟩ hN
    have f3 := f2.ext e3 List.not_mem_nil
    refine ⟨hw b, ?_⟩
    show tYes _ _ _
    refine w_yes ?_
    rw [if_pos rfl]
    refine ⟨_, hi b, ?_⟩
    refine h2 _ _ _ D _ b _ L nD e3.up ?_
    refine ⟨_, hi b, ?_⟩
    refine w_dgetT f3 hb hc fun v iv => ?_
    refine w_dcput hU hD hb (mp.sub _ (List.mem_of_getElem? hsj)) iv fun H5 e5 h5 => ?_
    refine hN _ ⟨e3.dropq e5 nD, ?_⟩
    rw [resF_put (F := f) hc] at h5
    rw [take_snoc hsj]; exact h5
  · rintro H3 ⟨e3, hD⟩
    have npD := (ne_of_none L.at nD).symm
    rw [List.take_length, resF_all fun s ns => Option.not_isSome_iff_eq_none.mp fun z => ns (mp.mem.mpr z)] at hD
    exact w_unlock L e3 fun H4 e4 kp => k D H4 e4 (L.free nD) (dm_unlkZ L e3 kp npD hD)
theorem w_dcopy {U : List Slot} {H : Hp} {p : Addr} {f : Fd} {Q : VK} {σ : L2.St} {te te2 : TE} {i : Nat} {vs : List Nat} (hU : U.length ≤ 1000) (hf : DM U H p f)
    (h1 : ∀ u od H1 (R : VK), Lk p u od H H1 → R (.ref p) H1 → te σ H1 R)
    (h2 : ∀ u od H1 D H2 b (R : VK), Lk p u od H H1 → H1 D = none → Ext [D] H1 H2 → R (.ref p) H2 → te2 ((wipe σ vs).set i (some (.ref b))) H2 R)
    (hw : ∀ b, wipe ((wipe σ vs).set i (some (.ref b))) vs = wipe σ vs) (hi : ∀ b, ((wipe σ vs).set i (some (.ref b)))[i]? = some (some (.ref b)))
    (k : ∀ r H', Ext [] H H' → H r = none → DM U H' r f → Q (.ref r) H') : tLockE (zDcT (iKeys te) (gName i) tYes (tVar i) (tDGet te2 (tVar i)) vs) σ H Q := by
  obtain ⟨kvs, ks, hp, mp⟩ := id hf
  exact w_lockE hp trivial (fun z => z) fun od H2 L => w_dcopyI hU hp mp L h1 h2 hw hi k
theorem w_dcopyS {U : List Slot} {H : Hp} {p : Addr} {f : Fd} {σ : L2.St} {te te2 : TE} {i y : Nat} {vs : List Nat} {nx bk ct : L2.St → Hp → Prop} {rt : VK} (hU : U.length ≤ 1000) (hf : DM U H p f)
    (h1 : ∀ u od H1 (R : VK), Lk p u od H H1 → R (.ref p) H1 → te σ H1 R)
    (h2 : ∀ u od H1 D H2 b (R : VK), Lk p u od H H1 → H1 D = none → Ext [D] H1 H2 → R (.ref p) H2 → te2 ((wipe σ vs).set i (some (.ref b))) H2 R)
    (hw : ∀ b, wipe ((wipe σ vs).set i (some (.ref b))) vs = wipe σ vs) (hi : ∀ b, ((wipe σ vs).set i (some (.ref b)))[i]? = some (some (.ref b)))
    (k : ∀ r H', Ext [] H H' → H r = none → DM U H' r f → nx (σ.set y (some (.ref r))) H') : tLock (tAsg (zDcT (iKeys te) (gName i) tYes (tVar i) (tDGet te2 (tVar i)) vs) (gName y)) ⟨nx, rt, bk, ct⟩ σ H := by
  obtain ⟨kvs, ks, hp, mp⟩ := id hf
  exact w_lock hp trivial (fun z => z) fun od H2 L => w_dcopyI (Q := fun v H' => nx (σ.set y (some v)) H') hU hp mp L h1 h2 hw hi k
/-! ### name = {..: .. for ..}, the name a local -/
section
variable {X : Cx}
theorem sw_trueD {kx vx : Expr} {gs : List Comprehension} {scope : Scope} {pos py : Pos} {y : Str} {l : Nat} {env : Env} (h1 : env.scope.kind = .function) (h2 : env.scope.names.lookup y = some .local) (h3 : (py.line == pos.line) = true)
    (h4 : (scope.names.any fun (n, k) => n == y && (k == .local || k == .cell)) = false) : swapsWith (.DictComp kx vx gs scope pos) (some (.Name y py)) l env = pure true := by
  have e1 : env.kindOf y = some .local := h2
  have e2 : env.blockKind = .function := by unfold Env.blockKind; rw [h1]; rfl
  unfold swapsWith
  simp only [e2, e1, h4, Expr.pos, h3]
  rfl
theorem zps_setDc {i : Nat} {y : Str} {py : Pos} {kx vx tg iter : Expr} {ifs : List Expr} {scope : Scope} {own : List (Str × Nat)} {pos spos : Pos} {wi : TI} {g : TG} {tt : TT} {tk tv : TE} (hu : X.A.units + 1 < cLine) (hc : X.calm = true) (hN : X.N.Nodup) (hy : X.N[i]? = some y) (hyl : X.env.scope.names.lookup y = some .local)
    (hsw : swapsWith (.DictComp kx vx [⟨tg, iter, ifs, 0⟩] scope pos) (some (.Name y py)) spos.line X.env = pure true) (hi : PI X tg iter wi) (ok : BlkOk X.N X.env.scope scope own)
    (hg : AllB X scope fun Y => PG Y tg g) (ht : AllB X scope fun Y => PTs Y ifs tt) (hk : AllB X scope fun Y => PE Y kx tk) (he : AllB X scope fun Y => PE Y vx tv) (hs : ∀ x, foldedSetIterable iter X.env x = pure x := by intro _; rfl) :
    PS X (.Assign [.Name y py] (.DictComp kx vx [⟨tg, iter, ifs, 0⟩] scope pos) spos) (tAsg (zDcT wi g tt tk tv (own.map (·.2))) (gName i)) := by
  refine ⟨fun pins s σ H D I h => ?_⟩
  rw [exec_Assign_Name_used _ _ _ _ hsw]
  refine wpAny_bind (wpAny_standAt (wpAny_bind ?_))
  show wpAny _ X.A (do let _ ← comprehension (.DictComp kx vx [⟨tg, iter, ifs, 0⟩] scope pos) scope X.env (firstIterPos [⟨tg, iter, ifs, 0⟩] pos) newDict false (eval iter X.env) (some (assign (.Name y py) X.env))) _ _ s
  have h' : zDcT wi g tt tk tv (own.map (·.2)) σ H (fun x H1 => gName i x σ H1 D.nx) := h
  refine wpAny_bind (thn (zdc_run (Qf := fun _ s' => SP X pins D .next s') hu hc hN I hi ok hg ht hk he hs h' fun L C s' m H' I' q hn f => ?_) fun _ s' hq => wpAny_pure (wpAny_pure hq))
  show wpAny _ _ (assign (.Name y py) X.env (.ref L)) _ _ _
  refine wpAny_assign_Name (store_ok2 (v := V.ref L) I' hN hy (.inl hyl) rfl (fun s2 I2 z => ?_) (.inr hyl))
  obtain ⟨a, sb, ha⟩ := z
  obtain ⟨f0, f1, f2, f3, f4, f5⟩ := f
  have neC : C ≠ a := by
    rcases ha with w | w
    · rw [w]; exact f1
    · exact fun e => f4 y a w e.symm
  exact ⟨m, hn.sameBut sb neC, fun h3 sb3 => ⟨_, H', I2.turned (t' := s2.toks) (fun b o hb e => (sb3.2 b hb).trans e) f0 f1 f3 f4 f5, q⟩⟩
end
end Zk

set_option Elab.async false
set_option linter.all false
set_option maxRecDepth 100000
set_option maxHeartbeats 4000000
namespace L2
open PySem PySem.Spec PyProof.Rows PySem.W
/-! ### an own exception class without __init__, made with nothing -/
theorem pmk_own0 {X : Cx} {C : Addr} {bmB : List Value} {B newId initId : String} {x : Str} {p pos : Pos} (F : ExcBaseFacts B newId initId bmB) (q : PySem.W.excIn X.K C bmB newId = true) (gC : X.mg x = some (.ref C)) (kC : PySem.W.keepIn X.K (.ref C) = true) (r : Raises X (.ref C)) (hg : Gl X x)
    (hdb : (x == ("__debug__" : Str)) = false := by decide) : PMk X (.Call (.Name x p) [] [] pos) (fun _ H Q => Q (.ref C) none H) := by
  intro pins s σ H Q I h
  refine wpAny_Call_Name_kw (ld_glob I hg gC ?_ hdb)
  refine PySem.W.callWith_K0 I.kIn kC ?_
  obtain ⟨bm, N, nm, qn, bs, hdct, sn, sub, ab, col, dd, k0, k1, k2, k3, k5, mN, hC, hN, hni, T⟩ := exc_obj I.kIn q
  obtain ⟨hp1, g1, d1, tk1, os1⟩ := s
  exact wpAny_call_exc_subT F T hC hN hni (fun h' e hm => mk_of I hm r h (I.hok.gone hm.new)) (Nat.zero_le _)
/-! ### sep.join(reversed(a list)) -/
section
open PySem.SC Builtin Builtin.Str
variable {prog : Program} {w : World} {A : Around} {E : Value → Shared → Prop} {s : Shared}
theorem call_join_rev {x : Str} {t : Tok} {it l : Addr} {its : Array Value} {ys : List Str} {Q : Value → Shared → Prop} (hh : A.handled = none) (hit : s.heap.IsRevIter it l ((its.size : Int) - 1)) (hl : s.heap.IsList l its) (hne : l ≠ it) (hn : its.size ≤ sizeLine)
    (hP : ∀ acc : Array Value, ItemsOf (fun i v => its[its.size - 1 - i]? = some v) acc its.size → StrsAre acc.toList ys) (hok : (ys.map (·.length)).sum + ys.length * x.length ≤ 16777216)
    (hq : ∀ h' k t', (∀ b o, b ≠ it → s.heap.get? b = some o → h'.get? b = some o) → Q (.str (Txt.join x ys) t') { s with heap := h', toks := k }) :
    wpAny (model prog w) A (call (.builtin "str.join") [.str x t, .ref it]) Q E s := by
  refine wpAny_call (codeAny_call_builtin F.slot_str_join.plain F.entry_str_join (F.slot_str_join.check _ _ _ _ _ _ _ _ (typeIs_str _ _ _) (F.args_str_join_2 _ _) ?_))
  rw [join_tree_other]
  refine wpAny_bind (wpAny_typeOf hit.typeIs ?_)
  show wpAny _ A.in1 ((pyIter (.ref it)).tryCatch _ >>= fun it => collect it >>= fun items => joinTail x items) _ _ s
  refine wpAny_bind (wpAny_tryCatch (wpAny_pyIter_revIter hit ?_))
  have hh1 : A.in1.handled = none := hh
  refine wpAny_bind (RT.collect_rev (A := A.in1) hh1 hit hl hne hn ?_)
  intro h' tk acc hk hacc
  obtain ⟨l, hl, ht⟩ := strsAre_values (hP acc hacc)
  subst ht
  rw [hl]
  have hok' := joinOk_of hok
  unfold JoinOk at hok'
  rw [Bool.not_eq_true'] at hok'
  have g : Gives (joinTail x (strValues l)) (joinMade x l) := by
    have g0 := gives_joinTail x l hok'
    cases l with
    | nil => exact g0
    | cons p r => cases r with
      | nil => exact g0
      | cons q r' => exact g0
  exact g prog w A (wants Q E) _ (post_join l ⟨joinFit_length hok', fun t' k => hq h' k t' hk⟩)
end
section
variable {X : Cx}
def tJoinRev (K : PySem.W.Frag) (to te : TE) : TE := fun σ H Q => to σ H fun x H1 => (∃ a, x = .str a) ∧ te σ H1 fun v H2 => ∃ (a : Str) (q : Addr) (ys : List Str),
  x = .str a ∧ v = .ref q ∧ SqL K H2 q (ys.map V.str) ∧ (ys.map (·.length)).sum + ys.length * a.length ≤ 16777216 ∧ Q (.str (Txt.join a ys.reverse)) H2
theorem strs_of : ∀ {ys : List Str} {us : List Value}, Vals (ys.map V.str) us → StrsAre us ys
  | [], _, h => by cases h; exact .nil
  | y :: ys, _, h => by
    cases h with
    | cons r t =>
      obtain ⟨u, rfl⟩ := r
      exact .cons y u (strs_of t)
theorem pe_joinRev {o e : Expr} {to te : TE} {apos pos p pos2 : Pos} (hc : X.calm = true) (ho : PE X o to) (hg2 : Gl X "reversed") (hm2 : X.mg "reversed" = none) (he : PE X e te)
    (hs1 : starEach [.Call (.Name "reversed" p) [e] [] pos2] X.env = [(false, eval (.Call (.Name "reversed" p) [e] [] pos2) X.env)] := by rfl)
    (hs : starEach [e] X.env = (false, eval e X.env) :: starEach [] X.env := by rfl)
    (hbase : attributeBase o "join" X.env (eval o X.env) = eval o X.env := by rfl) (hline : (apos.endLine == pos.line) = true := by rfl) :
    PE X (.Call (.Attribute o "join" apos) [.Call (.Name "reversed" p) [e] [] pos2] [] pos) (tJoinRev X.K to te) := by
  refine ⟨fun pins s σ H Q I h => ?_⟩
  refine PySem.Call_method1 hbase hs1 hline (thn (ho.run pins s σ H _ I h) fun v s1 ⟨x, H1, I1, r1, q1⟩ => ?_)
  obtain ⟨⟨a, rfl⟩, q1⟩ := q1
  obtain ⟨t, rfl⟩ := _root_.id r1
  refine ⟨"str", _, F.plainAttrs_str, F.slot_str_join, F.type_str_join, typeIs_str _ _ _, (fun _ e => nomatch e), Calls.callWith_builtin rfl (Calls.evalArgs_plain (Calls.spliced_cons ?_))⟩
  refine Call_ (ld_blt I1 hg2 hm2 PyProof.Rows.boot_reversed (PyProof.Rows.callWith_type1 (args_cons (thn (he.run pins s1 σ H1 _ I1 q1) fun u s2 ⟨v, H2, I2, r2, q2⟩ => args_nil ?_) hs) hs rfl))
  obtain ⟨a', q, ys, ea, ev, hq, hz, q2⟩ := q2
  cases ea
  subst ev
  obtain rfl : u = Value.ref q := r2
  obtain ⟨its, rv, p', hsz⟩ := I2.list hq
  refine call_reversed_list p'.isList (Calls.spliced_nil ?_)
  have k0 : ∀ b o, s2.heap.get? b = some o → (s2.heap.push (revObj q ((its.toArray.size : Int) - 1))).get? b = some o := fun b o e => Heap.get?_push_of_some _ e
  have hl := p'.isList
  obtain ⟨ol, hol, _⟩ := id hl
  have hne : q ≠ s2.heap.objs.size := Nat.ne_of_lt (Heap.lt_size hol)
  have hn : its.toArray.size ≤ sizeLine := by rw [List.size_toArray, ← rv.length]; exact hsz
  refine call_join_rev (s := { s2 with heap := s2.heap.push (revObj q ((its.toArray.size : Int) - 1)) }) (ys := ys.reverse) (I2.ok.hd hc) ⟨_, Heap.get?_push_size _ rfl, rfl, rfl⟩ (hl.push _) hne hn (fun acc hacc => ?_) ?_ fun h' k t' hk => ?_
  · have := RT.vals_rev rv hacc
    rw [← List.map_reverse] at this
    exact strs_of this
  · rw [List.map_reverse, List.sum_reverse, List.length_reverse]
    exact hz
  · exact ⟨.str _, H2, I2.kept (t' := k) (fun b o e => hk b o (Nat.ne_of_lt (Heap.lt_size e)) (k0 b o e)), ⟨t', rfl⟩, q2⟩
end
end L2
namespace Zk
open PySem PySem.Spec L2
/-! ### a while loop with one way out -/
theorem z_while {rt : VK} {nx bk ct : L2.St → Hp → Prop} {c : TT} {tb : TS} {σ : L2.St} {H : Hp} (W : Nat → L2.St → Hp → Prop) (R : L2.St → Hp → Prop) {m0 : Nat} (h0 : W m0 σ H) (hd : ∀ σ H, R σ H → nx σ H)
    (hs : ∀ nx' : L2.St → Hp → Prop, (∀ σ H, R σ H → nx' σ H) → ∀ m σ H, W m σ H → c σ H fun b H1 => if b = true then ∃ N : L2.St → Hp → Prop, (∀ σ' H', N σ' H' → ∃ m', m' < m ∧ W m' σ' H') ∧ tb ⟨N, rt, nx', N⟩ σ H1 else nx' σ H1) :
    tWhile c tb ⟨nx, rt, bk, ct⟩ σ H := ⟨W, ⟨m0, h0⟩, fun m σ H w => hs nx hd m σ H w⟩
theorem w_joinRev {K : PySem.W.Frag} {to te : TE} {σ : L2.St} {H : Hp} {Q : VK} (h : to σ H fun x H1 => (∃ a, x = .str a) ∧ te σ H1 fun v H2 => ∃ (a : Str) (q : Addr) (ys : List Str),
  x = .str a ∧ v = .ref q ∧ SqL K H2 q (ys.map V.str) ∧ (ys.map (·.length)).sum + ys.length * a.length ≤ 16777216 ∧ Q (.str (Txt.join a ys.reverse)) H2) : tJoinRev K to te σ H Q := h
/-! ### {k: .. for k in d}: a dict of numbers or texts made of the keys of one -/
theorem w_dcK {wi : TI} {g : TG} {tt : TT} {tk tv : TE} {vs : List Nat} {σ : L2.St} {H : Hp} {Q : VK} (h : wi σ H fun J H1 => ∀ D, H1 D = none → ∃ W : Nat → Nat → Hp → Prop, (∃ m, W 0 m (upd H1 D (.dK []))) ∧ ∀ i m H, W i m H →
  (J.stop i H ∧ Q (.ref D) H) ∨ (J.go i H ∧ ∃ Nx : Hp → Prop, (∀ H', Nx H' → ∃ m', m' < m ∧ W (i + 1) m' H') ∧ ∀ x H', J.yld i H x H' → g x (wipe σ vs) H' fun σ2 H2 => wipe σ2 vs = wipe σ vs ∧ tt σ2 H2 fun b H3 =>
    if b = true then tk σ2 H3 fun y H4 => tv σ2 H4 fun z H5 => ∃ kvs k, y = kV k ∧ H5 D = some (.dK kvs) ∧ kvs.length < sizeLine ∧ Nx (upd H5 D (.dK (putK kvs k z))) else Nx H3)) : tDc wi g tt tk tv vs σ H Q := h
theorem w_dcpI {H : Hp} {D : Addr} {acc : List (Key × V)} {n : Int} {z : V} {Nx : Hp → Prop} (hD : H D = some (.dK acc)) (l : acc.length < sizeLine) (k : ∀ H', Ext [D] H H' → H' D = some (.dK (putK acc (Sum.inl n) z)) → Nx H') :
    ∃ kvs k, V.int n = kV k ∧ H D = some (.dK kvs) ∧ kvs.length < sizeLine ∧ Nx (upd H D (.dK (putK kvs k z))) := ⟨acc, Sum.inl n, rfl, hD, l, k _ (Ext.mut hD (fun z => z) (List.mem_singleton.mpr rfl)) upd_same⟩
theorem w_dcpS {H : Hp} {D : Addr} {acc : List (Key × V)} {n : Str} {z : V} {Nx : Hp → Prop} (hD : H D = some (.dK acc)) (l : acc.length < sizeLine) (k : ∀ H', Ext [D] H H' → H' D = some (.dK (putK acc (Sum.inr n) z)) → Nx H') :
    ∃ kvs k, V.str n = kV k ∧ H D = some (.dK kvs) ∧ kvs.length < sizeLine ∧ Nx (upd H D (.dK (putK kvs k z))) := ⟨acc, Sum.inr n, rfl, hD, l, k _ (Ext.mut hD (fun z => z) (List.mem_singleton.mpr rfl)) upd_same⟩
theorem z_dc_keysK {kvs : List (Key × V)} {d : Addr} {o : Obj} {g : TG} {tt : TT} {tk tv : TE} {vs : List Nat} {D : Addr} {Qd : Hp → Prop} {σ : L2.St} {H : Hp} (Pv : Nat → List (Key × V) → Hp → Prop) (nD : H D = none) (h0 : ∀ H', Ext [] H H' → Pv 0 [] H') (hl : ∀ i acc H, i ≤ kvs.length → Pv i acc H → H d = some (.frz o (.dK kvs)))
    (hs : ∀ (Nx : Hp → Prop) i k v acc H, kvs[i]? = some (k, v) → Pv i acc H → H D = some (.dK acc) → (∀ acc' H', Pv (i + 1) acc' H' → H' D = some (.dK acc') → Nx H') → g (kV k) (wipe σ vs) H fun σ2 H2 => wipe σ2 vs = wipe σ vs ∧ tt σ2 H2 fun b H3 =>
      if b = true then tk σ2 H3 fun y H4 => tv σ2 H4 fun z H5 => ∃ kvs k, y = kV k ∧ H5 D = some (.dK kvs) ∧ kvs.length < sizeLine ∧ Nx (upd H5 D (.dK (putK kvs k z))) else Nx H3) (hd : ∀ acc H, Pv kvs.length acc H → H D = some (.dK acc) → Qd H) :
    ∃ W : Nat → Nat → Hp → Prop, (∃ m, W 0 m (upd H D (.dK []))) ∧ ∀ i m H, W i m H →
      ((Itk d o kvs).stop i H ∧ Qd H) ∨ ((Itk d o kvs).go i H ∧ ∃ Nx : Hp → Prop, (∀ H', Nx H' → ∃ m', m' < m ∧ W (i + 1) m' H') ∧ ∀ x H', (Itk d o kvs).yld i H x H' → g x (wipe σ vs) H' fun σ2 H2 => wipe σ2 vs = wipe σ vs ∧ tt σ2 H2 fun b H3 =>
        if b = true then tk σ2 H3 fun y H4 => tv σ2 H4 fun z H5 => ∃ kvs k, y = kV k ∧ H5 D = some (.dK kvs) ∧ kvs.length < sizeLine ∧ Nx (upd H5 D (.dK (putK kvs k z))) else Nx H3) := by
  refine ⟨fun i m H => m = kvs.length - i ∧ i ≤ kvs.length ∧ ∃ acc, Pv i acc H ∧ H D = some (.dK acc), ⟨_, rfl, Nat.zero_le _, [], h0 _ (Ext.new nD), upd_same⟩, ?_⟩
  rintro i m H ⟨rfl, hi, acc, p, hD⟩
  by_cases hlt : i < kvs.length
  · refine .inr ⟨⟨hl i acc H hi p, hlt⟩, (fun H => ∃ acc, Pv (i + 1) acc H ∧ H D = some (.dK acc)), fun H' p' => ⟨kvs.length - (i + 1), by omega, rfl, hlt, p'⟩, fun x H' y => ?_⟩
    obtain ⟨e, k, v, hk, rfl⟩ := y
    subst e
    exact hs _ i k v acc _ hk p hD fun acc' H' p' h' => ⟨acc', p', h'⟩
  · have e : i = kvs.length := by omega
    subst e
    exact .inl ⟨⟨hl _ acc H hi p, Nat.le_refl _⟩, hd acc H p hD⟩
theorem w_tddelK {td ty : TE} {nx bk ct : L2.St → Hp → Prop} {rt : VK} {σ : L2.St} {H : Hp} (h : td σ H fun x H1 => ty σ H1 fun y H2 => ∃ a kvs k, x = .ref a ∧ H2 a = some (.dK kvs) ∧ y = kV k ∧ (valV kvs k).isSome = true ∧ nx σ (upd H2 a (.dK (dropK kvs k)))) : sDDel td ty ⟨nx, rt, bk, ct⟩ σ H := h
theorem w_ddelS {H : Hp} {a : Addr} {kvs : List (Key × V)} {n : Str} {N : Hp → Prop} (h : H a = some (.dK kvs)) (m : (valV kvs (Sum.inr n : Key)).isSome = true) (k : ∀ H', Ext [a] H H' → H' a = some (.dK (dropK kvs (Sum.inr n))) → N H') :
    ∃ a' kvs k, V.ref a = .ref a' ∧ H a' = some (.dK kvs) ∧ V.str n = kV k ∧ (valV kvs k).isSome = true ∧ N (upd H a' (.dK (dropK kvs k))) := ⟨a, kvs, Sum.inr n, rfl, h, rfl, m, k _ (Ext.mut h (fun z => z) (List.mem_singleton.mpr rfl)) upd_same⟩
/-- a sorted list of texts without doubles is one -/
theorem pw_eq {α : Type} {R : α → α → Prop} (irr : ∀ a, ¬ R a a) (tr : ∀ a b c, R a b → R b c → R a c) : ∀ {l m : List α}, l.Pairwise R → m.Pairwise R → (∀ x, x ∈ l ↔ x ∈ m) → l = m
  | [], [], _, _, _ => rfl
  | [], y :: m, _, _, h => absurd ((h y).mpr List.mem_cons_self) List.not_mem_nil
  | x :: l, [], _, _, h => absurd ((h x).mp List.mem_cons_self) List.not_mem_nil
  | x :: l, y :: m, hl, hm, h => by
    rw [List.pairwise_cons] at hl hm
    have e : x = y := by
      rcases List.mem_cons.mp ((h x).mp List.mem_cons_self) with e | mx
      · exact e
      · rcases List.mem_cons.mp ((h y).mpr List.mem_cons_self) with e | my
        · exact e.symm
        · exact (irr x (tr _ _ _ (hl.1 y my) (hm.1 x mx))).elim
    subst e
    have e2 : l = m := pw_eq irr tr hl.2 hm.2 fun z => by
      constructor
      · intro mz
        rcases List.mem_cons.mp ((h z).mp (List.mem_cons_of_mem _ mz)) with e | r
        · subst e; exact (irr z (hl.1 z mz)).elim
        · exact r
      · intro mz
        rcases List.mem_cons.mp ((h z).mpr (List.mem_cons_of_mem _ mz)) with e | r
        · subst e; exact (irr z (hm.1 z mz)).elim
        · exact r
    rw [e2]
abbrev StrLt (a b : Str) : Prop := a.cps.toList < b.cps.toList
theorem str_srt_eq {l m : List Str} (hl : l.Pairwise StrLt) (hm : m.Pairwise StrLt) (h : ∀ x, x ∈ l ↔ x ∈ m) : l = m :=
  pw_eq (R := StrLt) (fun a => List.lt_irrefl a.cps.toList) (fun a b c x y => List.lt_trans x y) hl hm h
theorem at_pred {α : Type} {xs : List α} {n : Int} (h0 : 1 ≤ n) (h1 : n ≤ (xs.length : Int)) : ∃ v, xs[(n - 1).toNat]? = some v ∧ atI xs (n - 1) = some v := by
  obtain ⟨v, a, b⟩ := at_some (xs := xs) (r := n - 1) (by omega) (by omega)
  exact ⟨v, b, a⟩
/-- over the keys of a locked dict whose keys are numbers -/
theorem z_for_keysI {α : Type} {ks : List α} {kf : α → Int} {vf : α → V} {d : Addr} {o : Obj} {g : TG} {t : TS} {nx : L2.St → Hp → Prop} {rt : VK} {σ : L2.St} {H : Hp} (Pv : Nat → L2.St → Hp → Prop) (h0 : Pv 0 σ H) (hl : ∀ i σ H, i ≤ ks.length → Pv i σ H → H d = some (.frz o (.dK (ks.map fun x => ((Sum.inl (kf x) : Key), vf x)))))
    (hs : ∀ (N : L2.St → Hp → Prop) i x σ H, ks[i]? = some x → Pv i σ H → (∀ σ' H', Pv (i + 1) σ' H' → N σ' H') → g (.int (kf x)) σ H fun σ2 H2 => t ⟨N, rt, nx, N⟩ σ2 H2) (hd : ∀ σ H, Pv ks.length σ H → nx σ H) :
    ∃ W : Nat → Nat → L2.St → Hp → Prop, (∃ m, W 0 m σ H) ∧ ∀ i m σ H, W i m σ H →
      ((Itk d o (ks.map fun x => ((Sum.inl (kf x) : Key), vf x))).stop i H ∧ nx σ H) ∨ ((Itk d o (ks.map fun x => ((Sum.inl (kf x) : Key), vf x))).go i H ∧ ∃ N : L2.St → Hp → Prop, (∀ σ' H', N σ' H' → ∃ m', m' < m ∧ W (i + 1) m' σ' H') ∧ ∀ x H', (Itk d o (ks.map fun x => ((Sum.inl (kf x) : Key), vf x))).yld i H x H' → g x σ H' fun σ2 H2 => t ⟨N, rt, nx, N⟩ σ2 H2) := by
  refine z_for_keys Pv h0 (fun i σ H hi p => hl i σ H (by rwa [List.length_map] at hi) p) (fun N i k v σ H hx p q => ?_) (fun σ H p => hd σ H (by rwa [List.length_map] at p))
  rw [List.getElem?_map, Option.map_eq_some_iff] at hx
  obtain ⟨x, hx, e⟩ := hx
  cases e
  exact hs N i x σ H hx p q
theorem z_lc_keysI {α : Type} {ks : List α} {kf : α → Int} {vf : α → V} {d : Addr} {o : Obj} {g : TG} {tt : TT} {te : TE} {vs : List Nat} {D : Addr} {Qd : Hp → Prop} {σ : L2.St} {H : Hp} (Pv : Nat → List V → Hp → Prop) (nD : H D = none) (h0 : ∀ H', Ext [] H H' → Pv 0 [] H') (hl : ∀ i acc H, i ≤ ks.length → Pv i acc H → H d = some (.frz o (.dK (ks.map fun x => ((Sum.inl (kf x) : Key), vf x)))))
    (hs : ∀ (Nx : Hp → Prop) i x acc H, ks[i]? = some x → Pv i acc H → H D = some (.lst acc) → (∀ acc' H', Pv (i + 1) acc' H' → H' D = some (.lst acc') → Nx H') → g (.int (kf x)) (wipe σ vs) H fun σ2 H2 => wipe σ2 vs = wipe σ vs ∧ tt σ2 H2 fun b H3 =>
      if b = true then te σ2 H3 fun y H4 => ∃ acc, H4 D = some (.lst acc) ∧ acc.length < sizeLine ∧ Nx (upd H4 D (.lst (acc ++ [y]))) else Nx H3) (hd : ∀ acc H, Pv ks.length acc H → H D = some (.lst acc) → Qd H) :
    ∃ W : Nat → Nat → Hp → Prop, (∃ m, W 0 m (upd H D (.lst []))) ∧ ∀ i m H, W i m H →
      ((Itk d o (ks.map fun x => ((Sum.inl (kf x) : Key), vf x))).stop i H ∧ Qd H) ∨ ((Itk d o (ks.map fun x => ((Sum.inl (kf x) : Key), vf x))).go i H ∧ ∃ Nx : Hp → Prop, (∀ H', Nx H' → ∃ m', m' < m ∧ W (i + 1) m' H') ∧ ∀ x H', (Itk d o (ks.map fun x => ((Sum.inl (kf x) : Key), vf x))).yld i H x H' → g x (wipe σ vs) H' fun σ2 H2 => wipe σ2 vs = wipe σ vs ∧ tt σ2 H2 fun b H3 =>
        if b = true then te σ2 H3 fun y H4 => ∃ acc, H4 D = some (.lst acc) ∧ acc.length < sizeLine ∧ Nx (upd H4 D (.lst (acc ++ [y]))) else Nx H3) := by
  refine z_lc_keys Pv nD h0 (fun i acc H hi p => hl i acc H (by rwa [List.length_map] at hi) p) (fun N i k v acc H hx p hD q => ?_) (fun acc H p => hd acc H (by rwa [List.length_map] at p))
  rw [List.getElem?_map, Option.map_eq_some_iff] at hx
  obtain ⟨x, hx, e⟩ := hx
  cases e
  exact hs N i x acc H hx p hD q
theorem z_dc_keysI {α : Type} {ks : List α} {kf : α → Int} {vf : α → V} {d : Addr} {o : Obj} {g : TG} {tt : TT} {tk tv : TE} {vs : List Nat} {D : Addr} {Qd : Hp → Prop} {σ : L2.St} {H : Hp} (Pv : Nat → List (Key × V) → Hp → Prop) (nD : H D = none) (h0 : ∀ H', Ext [] H H' → Pv 0 [] H') (hl : ∀ i acc H, i ≤ ks.length → Pv i acc H → H d = some (.frz o (.dK (ks.map fun x => ((Sum.inl (kf x) : Key), vf x)))))
    (hs : ∀ (Nx : Hp → Prop) i x acc H, ks[i]? = some x → Pv i acc H → H D = some (.dK acc) → (∀ acc' H', Pv (i + 1) acc' H' → H' D = some (.dK acc') → Nx H') → g (.int (kf x)) (wipe σ vs) H fun σ2 H2 => wipe σ2 vs = wipe σ vs ∧ tt σ2 H2 fun b H3 =>
      if b = true then tk σ2 H3 fun y H4 => tv σ2 H4 fun z H5 => ∃ kvs k, y = kV k ∧ H5 D = some (.dK kvs) ∧ kvs.length < sizeLine ∧ Nx (upd H5 D (.dK (putK kvs k z))) else Nx H3) (hd : ∀ acc H, Pv ks.length acc H → H D = some (.dK acc) → Qd H) :
    ∃ W : Nat → Nat → Hp → Prop, (∃ m, W 0 m (upd H D (.dK []))) ∧ ∀ i m H, W i m H →
      ((Itk d o (ks.map fun x => ((Sum.inl (kf x) : Key), vf x))).stop i H ∧ Qd H) ∨ ((Itk d o (ks.map fun x => ((Sum.inl (kf x) : Key), vf x))).go i H ∧ ∃ Nx : Hp → Prop, (∀ H', Nx H' → ∃ m', m' < m ∧ W (i + 1) m' H') ∧ ∀ x H', (Itk d o (ks.map fun x => ((Sum.inl (kf x) : Key), vf x))).yld i H x H' → g x (wipe σ vs) H' fun σ2 H2 => wipe σ2 vs = wipe σ vs ∧ tt σ2 H2 fun b H3 =>
        if b = true then tk σ2 H3 fun y H4 => tv σ2 H4 fun z H5 => ∃ kvs k, y = kV k ∧ H5 D = some (.dK kvs) ∧ kvs.length < sizeLine ∧ Nx (upd H5 D (.dK (putK kvs k z))) else Nx H3) := by
  refine z_dc_keysK Pv nD h0 (fun i acc H hi p => hl i acc H (by rwa [List.length_map] at hi) p) (fun N i k v acc H hx p hD q => ?_) (fun acc H p => hd acc H (by rwa [List.length_map] at p))
  rw [List.getElem?_map, Option.map_eq_some_iff] at hx
  obtain ⟨x, hx, e⟩ := hx
  cases e
  exact hs N i x acc H hx p hD q
/-- over the keys of a locked dict whose keys are texts -/
theorem z_for_keysS {α : Type} {ks : List α} {kf : α → Str} {vf : α → V} {d : Addr} {o : Obj} {g : TG} {t : TS} {nx : L2.St → Hp → Prop} {rt : VK} {σ : L2.St} {H : Hp} (Pv : Nat → L2.St → Hp → Prop) (h0 : Pv 0 σ H) (hl : ∀ i σ H, i ≤ ks.length → Pv i σ H → H d = some (.frz o (.dK (ks.map fun x => ((Sum.inr (kf x) : Key), vf x)))))
    (hs : ∀ (N : L2.St → Hp → Prop) i x σ H, ks[i]? = some x → Pv i σ H → (∀ σ' H', Pv (i + 1) σ' H' → N σ' H') → g (.str (kf x)) σ H fun σ2 H2 => t ⟨N, rt, nx, N⟩ σ2 H2) (hd : ∀ σ H, Pv ks.length σ H → nx σ H) :
    ∃ W : Nat → Nat → L2.St → Hp → Prop, (∃ m, W 0 m σ H) ∧ ∀ i m σ H, W i m σ H →
      ((Itk d o (ks.map fun x => ((Sum.inr (kf x) : Key), vf x))).stop i H ∧ nx σ H) ∨ ((Itk d o (ks.map fun x => ((Sum.inr (kf x) : Key), vf x))).go i H ∧ ∃ N : L2.St → Hp → Prop, (∀ σ' H', N σ' H' → ∃ m', m' < m ∧ W (i + 1) m' σ' H') ∧ ∀ x H', (Itk d o (ks.map fun x => ((Sum.inr (kf x) : Key), vf x))).yld i H x H' → g x σ H' fun σ2 H2 => t ⟨N, rt, nx, N⟩ σ2 H2) := by
  refine z_for_keys Pv h0 (fun i σ H hi p => hl i σ H (by rwa [List.length_map] at hi) p) (fun N i k v σ H hx p q => ?_) (fun σ H p => hd σ H (by rwa [List.length_map] at p))
  rw [List.getElem?_map, Option.map_eq_some_iff] at hx
  obtain ⟨x, hx, e⟩ := hx
  cases e
  exact hs N i x σ H hx p q
theorem z_lc_keysS {α : Type} {ks : List α} {kf : α → Str} {vf : α → V} {d : Addr} {o : Obj} {g : TG} {tt : TT} {te : TE} {vs : List Nat} {D : Addr} {Qd : Hp → Prop} {σ : L2.St} {H : Hp} (Pv : Nat → List V → Hp → Prop) (nD : H D = none) (h0 : ∀ H', Ext [] H H' → Pv 0 [] H') (hl : ∀ i acc H, i ≤ ks.length → Pv i acc H → H d = some (.frz o (.dK (ks.map fun x => ((Sum.inr (kf x) : Key), vf x)))))
    (hs : ∀ (Nx : Hp → Prop) i x acc H, ks[i]? = some x → Pv i acc H → H D = some (.lst acc) → (∀ acc' H', Pv (i + 1) acc' H' → H' D = some (.lst acc') → Nx H') → g (.str (kf x)) (wipe σ vs) H fun σ2 H2 => wipe σ2 vs = wipe σ vs ∧ tt σ2 H2 fun b H3 =>
      if b = true then te σ2 H3 fun y H4 => ∃ acc, H4 D = some (.lst acc) ∧ acc.length < sizeLine ∧ Nx (upd H4 D (.lst (acc ++ [y]))) else Nx H3) (hd : ∀ acc H, Pv ks.length acc H → H D = some (.lst acc) → Qd H) :
    ∃ W : Nat → Nat → Hp → Prop, (∃ m, W 0 m (upd H D (.lst []))) ∧ ∀ i m H, W i m H →
      ((Itk d o (ks.map fun x => ((Sum.inr (kf x) : Key), vf x))).stop i H ∧ Qd H) ∨ ((Itk d o (ks.map fun x => ((Sum.inr (kf x) : Key), vf x))).go i H ∧ ∃ Nx : Hp → Prop, (∀ H', Nx H' → ∃ m', m' < m ∧ W (i + 1) m' H') ∧ ∀ x H', (Itk d o (ks.map fun x => ((Sum.inr (kf x) : Key), vf x))).yld i H x H' → g x (wipe σ vs) H' fun σ2 H2 => wipe σ2 vs = wipe σ vs ∧ tt σ2 H2 fun b H3 =>
        if b = true then te σ2 H3 fun y H4 => ∃ acc, H4 D = some (.lst acc) ∧ acc.length < sizeLine ∧ Nx (upd H4 D (.lst (acc ++ [y]))) else Nx H3) := by
  refine z_lc_keys Pv nD h0 (fun i acc H hi p => hl i acc H (by rwa [List.length_map] at hi) p) (fun N i k v acc H hx p hD q => ?_) (fun acc H p => hd acc H (by rwa [List.length_map] at p))
  rw [List.getElem?_map, Option.map_eq_some_iff] at hx
  obtain ⟨x, hx, e⟩ := hx
  cases e
  exact hs N i x acc H hx p hD q
theorem z_dc_keysS {α : Type} {ks : List α} {kf : α → Str} {vf : α → V} {d : Addr} {o : Obj} {g : TG} {tt : TT} {tk tv : TE} {vs : List Nat} {D : Addr} {Qd : Hp → Prop} {σ : L2.St} {H : Hp} (Pv : Nat → List (Key × V) → Hp → Prop) (nD : H D = none) (h0 : ∀ H', Ext [] H H' → Pv 0 [] H') (hl : ∀ i acc H, i ≤ ks.length → Pv i acc H → H d = some (.frz o (.dK (ks.map fun x => ((Sum.inr (kf x) : Key), vf x)))))
    (hs : ∀ (Nx : Hp → Prop) i x acc H, ks[i]? = some x → Pv i acc H → H D = some (.dK acc) → (∀ acc' H', Pv (i + 1) acc' H' → H' D = some (.dK acc') → Nx H') → g (.str (kf x)) (wipe σ vs) H fun σ2 H2 => wipe σ2 vs = wipe σ vs ∧ tt σ2 H2 fun b H3 =>
      if b = true then tk σ2 H3 fun y H4 => tv σ2 H4 fun z H5 => ∃ kvs k, y = kV k ∧ H5 D = some (.dK kvs) ∧ kvs.length < sizeLine ∧ Nx (upd H5 D (.dK (putK kvs k z))) else Nx H3) (hd : ∀ acc H, Pv ks.length acc H → H D = some (.dK acc) → Qd H) :
    ∃ W : Nat → Nat → Hp → Prop, (∃ m, W 0 m (upd H D (.dK []))) ∧ ∀ i m H, W i m H →
      ((Itk d o (ks.map fun x => ((Sum.inr (kf x) : Key), vf x))).stop i H ∧ Qd H) ∨ ((Itk d o (ks.map fun x => ((Sum.inr (kf x) : Key), vf x))).go i H ∧ ∃ Nx : Hp → Prop, (∀ H', Nx H' → ∃ m', m' < m ∧ W (i + 1) m' H') ∧ ∀ x H', (Itk d o (ks.map fun x => ((Sum.inr (kf x) : Key), vf x))).yld i H x H' → g x (wipe σ vs) H' fun σ2 H2 => wipe σ2 vs = wipe σ vs ∧ tt σ2 H2 fun b H3 =>
        if b = true then tk σ2 H3 fun y H4 => tv σ2 H4 fun z H5 => ∃ kvs k, y = kV k ∧ H5 D = some (.dK kvs) ∧ kvs.length < sizeLine ∧ Nx (upd H5 D (.dK (putK kvs k z))) else Nx H3) := by
  refine z_dc_keysK Pv nD h0 (fun i acc H hi p => hl i acc H (by rwa [List.length_map] at hi) p) (fun N i k v acc H hx p hD q => ?_) (fun acc H p => hd acc H (by rwa [List.length_map] at p))
  rw [List.getElem?_map, Option.map_eq_some_iff] at hx
  obtain ⟨x, hx, e⟩ := hx
  cases e
  exact hs N i x acc H hx p hD q
theorem w_notT {K : PySem.W.Frag} {ta : TE} {σ : L2.St} {H : Hp} {Q : VK} (h : ta σ H fun x H1 => ∃ b, TruV K x H1 b ∧ Q (.bl (!b)) H1) : tNotT K ta σ H Q := h
theorem unlock_is {d : Addr} {u : HO} {od : Obj} {H H0 H1 : Hp} {M : List Addr} (L : Lk d u od H0 H1) (e : Ext M H1 H) : ∃ H', upd H d u = H' ∧ Ext M H0 H' ∧ ∀ b o, H b = some o → b ≠ d → H' b = some o := by
  refine ⟨_, rfl, ?_, fun b o h n => by rw [upd_ne n]; exact h⟩
  have e' := e
  rw [L.eq] at e'
  exact Ext.lock L.was L.ni e'
theorem len_upto {ks : List Int} {N : Nat} (h : ks.Nodup) (r : ∀ n ∈ ks, 1 ≤ n ∧ n ≤ (N : Int)) : ks.length ≤ N := by
  have := nodup_len (m := (List.range N).map fun (i : Nat) => ((i : Int) + 1)) h fun n m => by
    obtain ⟨a, b⟩ := r n m
    exact List.mem_map.mpr ⟨(n - 1).toNat, List.mem_range.mpr (by omega), by omega⟩
  rwa [List.length_map, List.length_range] at this
theorem w_disp {trs : List (TE × TE)} {σ : L2.St} {H : Hp} {QV : VK} (k : ∀ p H', Ext [] H H' → H p = none → H' p = some (.dK []) → tPairs trs σ H' fun ps H2 => H2 p = some (.dK []) ∧ ∃ kvs : List (Key × V), ps = kvs.map (fun kv => (kV kv.1, kv.2)) ∧ kvs.length ≤ 15 ∧ QV (.ref p) (upd H2 p (.dK (mergeK [] kvs)))) : tDisp trs σ H QV :=
  fun p np => k p _ (Ext.new np) np upd_same
/-! ### lists that grow otherwise -/
def zExtend : V → List V → Hp → VK → Prop := fun x vs H Q => ∃ l b xs zs, x = .ref l ∧ vs = [.ref b] ∧ H l = some (.lst xs) ∧ H b = some (.lst zs) ∧ xs.length + zs.length ≤ sizeLine ∧ Chg l (.lst (xs ++ zs)) H (Q .non)
theorem zmt_extend {X : Cx} : MtR X "list.extend" zExtend := mt_extend
def zInsert : V → List V → Hp → VK → Prop := fun x vs H Q => ∃ (l : Addr) (xs : List V) (i : Int) (y : V), x = .ref l ∧ vs = [.int i, y] ∧ H l = some (.lst xs) ∧ xs.length < sizeLine ∧ 0 ≤ i ∧ i < 2 ^ 63 ∧ Chg l (.lst (xs.take i.toNat ++ [y] ++ xs.drop i.toNat)) H (Q .non)
theorem zmt_insert {X : Cx} : MtR X "list.insert" zInsert := mt_insert
theorem w_dget2 {td ty tx : TE} {σ : L2.St} {H : Hp} {Q : VK} (h : td σ H fun x H1 => ∃ a, x = .ref a ∧ IsD H1 a ∧ ty σ H1 fun y H2 => tx σ H2 fun z H3 => ∃ o, DGet H3 a y o ∧ Q (o.getD z) H3) : tDGet2 td ty tx σ H Q := h
theorem min_if {i j : Int} : (if j < i then j else i) = min i j := by split <;> omega
theorem max_if {i j : Int} : (if j > i then j else i) = max i j := by split <;> omega
theorem Ext.cut {M N : List Addr} {H H1 H2 : Hp} (a : Ext M H H1) (b : Ext N H1 H2) (s : ∀ x ∈ N, x ∈ M ∨ H x = none) : Ext M H H2 :=
  ⟨fun x o h n => b.keep x o (a.keep x o h n) fun m => (s x m).elim n fun z => (by rw [z] at h; cases h), fun x o h i => b.imm x o (a.imm x o h i) i, fun x o h => (a.live x o h).elim fun o' h' => b.live x o' h'⟩
end Zk

set_option Elab.async false
set_option linter.all false
set_option maxRecDepth 100000
namespace Zk
open PySem
/-! ### codes of texts: counting with 94 signs -/
def fc : Nat → Nat
  | 0 => 0
  | n + 1 => fc n * 94 + 1
theorem fc_succ : ∀ n, fc (n + 1) = fc n + 94 ^ n
  | 0 => rfl
  | n + 1 => by
    have h := fc_succ n
    have e : fc (n + 2) = fc (n + 1) * 94 + 1 := rfl
    have e2 : fc (n + 1) = fc n * 94 + 1 := rfl
    rw [e, h, Nat.add_mul, Nat.pow_succ]
    have : fc n * 94 + 1 = fc (n + 1) := rfl
    rw [h] at this
    omega
theorem fc_lt {m n : Nat} (h : m < n) : fc m < fc n := by
  induction n with
  | zero => omega
  | succ n ih =>
    have e : fc (n + 1) = fc n * 94 + 1 := rfl
    rcases Nat.lt_or_ge m n with q | q
    · have := ih q; omega
    · have : m = n := by omega
      subst this; omega
theorem fc_le {m n : Nat} (h : m ≤ n) : fc m ≤ fc n := by
  rcases Nat.lt_or_ge m n with q | q
  · exact Nat.le_of_lt (fc_lt q)
  · have : m = n := by omega
    subst this; exact Nat.le_refl _
def ix94 (c : Nat) : Nat := alph.cps.toList.idxOf c
def sg94 (r : Nat) : Nat := (alph.cps.toList[r % 94]?).getD 0
theorem alph_len : alph.cps.toList.length = 94 := by decide +kernel
theorem alph_nd : alph.cps.toList.Nodup := by decide +kernel
theorem ix_lt {c : Nat} (h : c ∈ alph.cps.toList) : ix94 c < 94 := by
  have := List.idxOf_lt_length_of_mem h
  rw [alph_len] at this
  exact this
theorem sg_ix {c r : Nat} (h : c ∈ alph.cps.toList) (e : r % 94 = ix94 c) : sg94 r = c := by
  unfold sg94
  rw [e]
  unfold ix94
  have l := List.idxOf_lt_length_of_mem h
  rw [List.getElem?_eq_getElem l, List.getElem_idxOf l]; rfl
def codeL : List Nat → Nat → Nat
  | [], a => a
  | c :: l, a => codeL l (a * 94 + ix94 c)
theorem codeL_snoc : ∀ (l : List Nat) (c a : Nat), codeL (l ++ [c]) a = codeL l a * 94 + ix94 c
  | [], _, _ => rfl
  | d :: l, c, a => codeL_snoc l c (a * 94 + ix94 d)
theorem codeL_lt : ∀ (l : List Nat), Al l → codeL l 0 < 94 ^ l.length := by
  intro l
  have key : ∀ (n : Nat) (l : List Nat), l.length = n → Al l → codeL l 0 < 94 ^ n := by
    intro n
    induction n with
    | zero =>
      intro l e _
      have : l = [] := List.eq_nil_of_length_eq_zero e
      subst this
      show 0 < 1
      decide
    | succ n ih =>
      intro l e h
      obtain ⟨l', c, rfl⟩ : ∃ l' c, l = l' ++ [c] := by
        have hn : l ≠ [] := fun z => by rw [z] at e; cases e
        exact ⟨l.dropLast, l.getLast hn, (List.dropLast_concat_getLast hn).symm⟩
      rw [List.length_append] at e
      have e' : l'.length = n := by simpa using e
      have := ih l' e' fun d m => h d (List.mem_append.mpr (.inl m))
      have hc := ix_lt (h c (List.mem_append.mpr (.inr List.mem_cons_self)))
      rw [codeL_snoc, Nat.pow_succ]
      omega
  exact fun h => key _ l rfl h
/-- the signs of a rest, last first -/
def digs : Nat → Nat → List Nat
  | 0, _ => []
  | n + 1, r => sg94 r :: digs n (r / 94)
theorem digs_snoc : ∀ (n r : Nat), digs (n + 1) r = digs n r ++ [sg94 (r / 94 ^ n)]
  | 0, r => by simp [digs]
  | n + 1, r => by
    have e : digs (n + 2) r = sg94 r :: digs (n + 1) (r / 94) := rfl
    rw [e, digs_snoc n (r / 94)]
    have e2 : digs (n + 1) r = sg94 r :: digs n (r / 94) := rfl
    rw [e2, Nat.div_div_eq_div_mul, ← Nat.pow_succ']
    rfl
theorem digs_code : ∀ (l : List Nat), Al l → digs l.length (codeL l 0) = l.reverse := by
  intro l
  have key : ∀ (n : Nat) (l : List Nat), l.length = n → Al l → digs n (codeL l 0) = l.reverse := by
    intro n
    induction n with
    | zero =>
      intro l e _
      have : l = [] := List.eq_nil_of_length_eq_zero e
      subst this
      rfl
    | succ n ih =>
      intro l e h
      obtain ⟨l', c, rfl⟩ : ∃ l' c, l = l' ++ [c] := by
        have hn : l ≠ [] := fun z => by rw [z] at e; cases e
        exact ⟨l.dropLast, l.getLast hn, (List.dropLast_concat_getLast hn).symm⟩
      rw [List.length_append] at e
      have e' : l'.length = n := by simpa using e
      have hc := h c (List.mem_append.mpr (.inr List.mem_cons_self))
      have hi := ix_lt hc
      rw [codeL_snoc, List.reverse_append]
      show sg94 _ :: digs n _ = [c].reverse ++ l'.reverse
      have e1 : (codeL l' 0 * 94 + ix94 c) / 94 = codeL l' 0 := by omega
      rw [e1, ih l' e' fun d m => h d (List.mem_append.mpr (.inl m)), sg_ix hc (by omega)]
      rfl
  exact fun h => key _ l rfl h
def codeT (l : List Nat) : Nat := fc l.length + codeL l 0
theorem codeT_at {l : List Nat} (h : Al l) : fc l.length ≤ codeT l ∧ codeT l < fc (l.length + 1) := by
  have := codeL_lt l h
  rw [fc_succ]
  unfold codeT
  omega
theorem fc21 : (fc 21 : Int) = 2932256630791119505061064402082674519051 := by decide +kernel
/-! ### values that are sealed -/
inductive Vl where
  | i (n : Int)
  | t (s : Str)
  | f (b : Bool)
def Vl.Ok : Vl → Prop
  | .i n => -1000000000 ≤ n ∧ n ≤ 1000000000
  | .t s => s.length ≤ 20 ∧ Al s.cps.toList
  | .f _ => True
def Vl.kind : Vl → Str
  | .i _ => Str.ofString "int"
  | .t _ => Str.ofString "text"
  | .f _ => Str.ofString "flag"
def Vl.code : Vl → Int
  | .i n => n + 1000000000
  | .t s => (codeT s.cps.toList : Nat)
  | .f b => if b then 1 else 0
def Vl.size : Vl → Int
  | .i _ => 2000000001
  | .t _ => 2932256630791119505061064402082674519051
  | .f _ => 2
theorem Vl.size_pos : ∀ x : Vl, 0 < x.size
  | .i _ => by show (0 : Int) < 2000000001; decide
  | .t _ => by show (0 : Int) < 2932256630791119505061064402082674519051; decide
  | .f _ => by show (0 : Int) < 2; decide
theorem Vl.code_in : ∀ {x : Vl}, x.Ok → 0 ≤ x.code ∧ x.code < x.size
  | .i n, h => by
    have h1 : -1000000000 ≤ n ∧ n ≤ 1000000000 := h
    show 0 ≤ n + 1000000000 ∧ n + 1000000000 < 2000000001
    omega
  | .t s, h => by
    obtain ⟨h1, h2⟩ : s.length ≤ 20 ∧ Al s.cps.toList := h
    have := (codeT_at h2).2
    have l : fc (s.cps.toList.length + 1) ≤ fc 21 := fc_le (by
      have : s.cps.toList.length = s.length := Array.length_toList
      omega)
    have e := fc21
    refine ⟨Int.natCast_nonneg _, ?_⟩
    show ((codeT s.cps.toList : Nat) : Int) < 2932256630791119505061064402082674519051
    rw [← e]
    omega
  | .f b, _ => by cases b <;> decide
/-- what is opened is what was sealed -/
theorem Vl.back {x : Vl} (h : x.Ok) (s : Int) : (((x.code + s) % x.size) - s % x.size) % x.size = x.code := by
  have p := x.size_pos
  obtain ⟨a, b⟩ := Vl.code_in h
  have e : ((x.code + s) % x.size - s % x.size) % x.size = ((x.code + s) - s) % x.size := by
    rw [Int.sub_emod ((x.code + s) % x.size), Int.emod_emod_of_dvd _ (Int.dvd_refl _), Int.emod_emod_of_dvd _ (Int.dvd_refl _), ← Int.sub_emod]
  rw [e, Int.add_sub_cancel]
  exact Int.emod_eq_of_lt a b
end Zk

set_option Elab.async false
set_option linter.all false
namespace Zk
open PySem PySem.Spec L2
open PyProof.Rows hiding St

/-! ### texts in order -/
theorem strlt_of {a b : Str} (h : ltCps b.cps.toList a.cps.toList = false) (n : a ≠ b) : a.cps.toList < b.cps.toList := by
  rw [ltCps_eq] at h
  have h1 : ¬ b.cps.toList < a.cps.toList := fun z => by rw [decide_eq_true z] at h; cases h
  have h2 : a.cps.toList ≤ b.cps.toList := List.not_lt.mp h1
  by_cases z : a.cps.toList < b.cps.toList
  · exact z
  · have h3 : b.cps.toList ≤ a.cps.toList := List.not_lt.mp z
    have h4 := List.le_antisymm h2 h3
    exact absurd (by
      cases a; cases b
      simp only [Str.mk.injEq]
      exact Array.toList_inj.mp h4) n
theorem rising_pw : ∀ (x : Str) (r : List Str), risingS x r = true → (x :: r).Nodup → (x :: r).Pairwise (fun a b => a.cps.toList < b.cps.toList)
  | x, [], _, _ => List.pairwise_singleton _ _
  | x, y :: r, h, hn => by
    have h : (!ltCps y.cps.toList x.cps.toList && risingS y r) = true := h
    rw [Bool.and_eq_true] at h
    obtain ⟨hx, hn2⟩ := List.nodup_cons.mp hn
    have ih := rising_pw y r h.2 hn2
    have xy : x.cps.toList < y.cps.toList := strlt_of (by simpa using h.1) fun e => hx (e ▸ List.mem_cons_self)
    refine List.pairwise_cons.mpr ⟨fun z hz => ?_, ih⟩
    rcases List.mem_cons.mp hz with hz | hz
    · rw [hz]; exact xy
    · exact List.lt_trans xy ((List.pairwise_cons.mp ih).1 z hz)
theorem sorted_pw {l : List Str} (h : sortedS l = true) (hn : l.Nodup) : l.Pairwise (fun a b => a.cps.toList < b.cps.toList) := by
  cases l with
  | nil => exact .nil
  | cons x r => exact rising_pw x r h hn

/-! ### sums of all groups -/
def sumsF (acc : List Int) (ws : List Int) : List Int := ws.foldl (fun a w => a ++ a.map (· + w)) acc
def grpF (acc : List (List Str)) (ns : List Str) : List (List Str) := ns.foldl (fun a n => a ++ a.map (· ++ [n])) acc
theorem sumsF_snoc (acc ws : List Int) (w : Int) : sumsF acc (ws ++ [w]) = sumsF acc ws ++ (sumsF acc ws).map (· + w) := by
  unfold sumsF; rw [List.foldl_append]; rfl
theorem grpF_snoc (acc : List (List Str)) (ns : List Str) (n : Str) : grpF acc (ns ++ [n]) = grpF acc ns ++ (grpF acc ns).map (· ++ [n]) := by
  unfold grpF; rw [List.foldl_append]; rfl
theorem sumsF_len (ws : List Int) : ∀ acc : List Int, (sumsF acc ws).length = acc.length * 2 ^ ws.length := by
  induction ws with
  | nil => intro acc; show acc.length = acc.length * 1; omega
  | cons w r ih =>
    intro acc
    show (sumsF (acc ++ acc.map (· + w)) r).length = _
    rw [ih, List.length_append, List.length_map, List.length_cons, Nat.pow_succ, ← Nat.mul_two, Nat.mul_assoc, Nat.mul_comm 2]
theorem grpF_len (ns : List Str) : ∀ acc : List (List Str), (grpF acc ns).length = acc.length * 2 ^ ns.length := by
  induction ns with
  | nil => intro acc; show acc.length = acc.length * 1; omega
  | cons w r ih =>
    intro acc
    show (grpF (acc ++ acc.map (· ++ [w])) r).length = _
    rw [ih, List.length_append, List.length_map, List.length_cons, Nat.pow_succ, ← Nat.mul_two, Nat.mul_assoc, Nat.mul_comm 2]
theorem pow7 {n : Nat} (h : n ≤ 7) : 2 ^ n ≤ 128 := Nat.pow_le_pow_right (by decide) h
/-- the sums of the groups are the sums -/
theorem sums_grp (f : Str → Int) (ns : List Str) : ∀ acc : List (List Str), sumsF (acc.map fun g => (g.map f).sum) (ns.map f) = (grpF acc ns).map fun g => (g.map f).sum := by
  induction ns with
  | nil => intro acc; rfl
  | cons n r ih =>
    intro acc
    show sumsF (acc.map (fun g => (g.map f).sum) ++ (acc.map fun g => (g.map f).sum).map (· + f n)) (r.map f) = (grpF (acc ++ acc.map (· ++ [n])) r).map _
    rw [← ih, List.map_append, List.map_map, List.map_map]
    congr 2
    apply List.map_congr_left
    intro g _
    show (g.map f).sum + f n = ((g ++ [n]).map f).sum
    rw [List.map_append, List.sum_append]
    simp
def Sub : List Int → Int → Prop
  | [], t => t = 0
  | w :: ws, t => Sub ws t ∨ Sub ws (t - w)
theorem mem_sumsF (s : Int) : ∀ (ws acc : List Int), s ∈ sumsF acc ws ↔ ∃ a ∈ acc, Sub ws (s - a)
  | [], acc => by
    show s ∈ acc ↔ ∃ a ∈ acc, s - a = 0
    constructor
    · intro h; exact ⟨s, h, by omega⟩
    · rintro ⟨a, h, e⟩
      have : s = a := by omega
      rw [this]; exact h
  | w :: ws, acc => by
    show s ∈ sumsF (acc ++ acc.map (· + w)) ws ↔ _
    rw [mem_sumsF s ws]
    constructor
    · rintro ⟨a, h, q⟩
      rcases List.mem_append.mp h with h | h
      · exact ⟨a, h, .inl q⟩
      · obtain ⟨b, hb, rfl⟩ := List.mem_map.mp h
        exact ⟨b, hb, .inr (by rw [show s - b - w = s - (b + w) by omega]; exact q)⟩
    · rintro ⟨a, h, q | q⟩
      · exact ⟨a, List.mem_append_left _ h, q⟩
      · exact ⟨a + w, List.mem_append_right _ (List.mem_map.mpr ⟨a, h, rfl⟩), by rw [show s - (a + w) = s - a - w by omega]; exact q⟩
theorem sub_perm {ws ws' : List Int} (h : ws.Perm ws') : ∀ t, Sub ws t ↔ Sub ws' t := by
  induction h with
  | nil => intro t; exact Iff.rfl
  | cons x _ ih => intro t; show (Sub _ t ∨ Sub _ (t - x)) ↔ (Sub _ t ∨ Sub _ (t - x)); rw [ih, ih]
  | swap x y l =>
    intro t
    show ((Sub l t ∨ Sub l (t - x)) ∨ (Sub l (t - y) ∨ Sub l (t - y - x))) ↔ ((Sub l t ∨ Sub l (t - y)) ∨ (Sub l (t - x) ∨ Sub l (t - x - y)))
    rw [show t - y - x = t - x - y by omega]
    constructor
    · rintro ((h | h) | (h | h))
      · exact .inl (.inl h)
      · exact .inr (.inl h)
      · exact .inl (.inr h)
      · exact .inr (.inr h)
    · rintro ((h | h) | (h | h))
      · exact .inl (.inl h)
      · exact .inr (.inl h)
      · exact .inl (.inr h)
      · exact .inr (.inr h)
  | trans _ _ ih1 ih2 => intro t; rw [ih1, ih2]
theorem sums_perm {ws ws' : List Int} (h : ws.Perm ws') (s : Int) : s ∈ sumsF [0] ws ↔ s ∈ sumsF [0] ws' := by
  rw [mem_sumsF, mem_sumsF]
  constructor
  · rintro ⟨a, ha, q⟩; exact ⟨a, ha, (sub_perm h _).mp q⟩
  · rintro ⟨a, ha, q⟩; exact ⟨a, ha, (sub_perm h _).mpr q⟩
theorem perm_sum {ws ws' : List Int} (h : ws.Perm ws') : ws.sum = ws'.sum := by
  induction h with
  | nil => rfl
  | cons x _ ih => rw [List.sum_cons, List.sum_cons, ih]
  | swap x y l => rw [List.sum_cons, List.sum_cons, List.sum_cons, List.sum_cons]; omega
  | trans _ _ a b => rw [a, b]
theorem grp_sub : ∀ (ns : List Str) (acc : List (List Str)) (g : List Str), g ∈ grpF acc ns → ∃ a ∈ acc, ∃ l, l.Sublist ns ∧ g = a ++ l
  | [], acc, g, h => ⟨g, h, [], .slnil, by simp⟩
  | n :: r, acc, g, h => by
    obtain ⟨a, ha, l, hl, e⟩ := grp_sub r (acc ++ acc.map (· ++ [n])) g h
    rcases List.mem_append.mp ha with ha | ha
    · exact ⟨a, ha, l, hl.cons n, e⟩
    · obtain ⟨b, hb, rfl⟩ := List.mem_map.mp ha
      exact ⟨b, hb, n :: l, hl.cons_cons n, by rw [e]; simp⟩
theorem grp_sublist {ns g : List Str} (h : g ∈ grpF [[]] ns) : g.Sublist ns := by
  obtain ⟨a, ha, l, hl, e⟩ := grp_sub ns [[]] g h
  rw [List.mem_singleton.mp ha] at e
  rw [e]; exact hl
/-- what is left of the names -/
def restOf (ns g : List Str) : List Str := ns.filter fun n => !decide (n ∈ g)
theorem sub_filter : ∀ {ns g : List Str}, g.Sublist ns → ns.Nodup → ns.filter (fun n => decide (n ∈ g)) = g
  | _, _, .slnil, _ => rfl
  | _, g, .cons (l₂ := ns) a h, hn => by
    obtain ⟨h1, h2⟩ := List.nodup_cons.mp hn
    have ha : ¬ a ∈ g := fun z => h1 (h.subset z)
    rw [List.filter_cons, if_neg (by simp [ha])]
    exact sub_filter h h2
  | _, _, .cons_cons (l₁ := g) (l₂ := ns) a h, hn => by
    obtain ⟨h1, h2⟩ := List.nodup_cons.mp hn
    rw [List.filter_cons, if_pos (by simp)]
    congr 1
    have e : ns.filter (fun n => decide (n ∈ a :: g)) = ns.filter (fun n => decide (n ∈ g)) := by
      apply List.filter_congr
      intro n hn'
      have : n ≠ a := fun z => h1 (z ▸ hn')
      simp [this]
    rw [e]
    exact sub_filter h h2
theorem sum_split (f : Str → Int) (p : Str → Bool) : ∀ l : List Str, ((l.filter p).map f).sum + ((l.filter fun n => !p n).map f).sum = (l.map f).sum
  | [] => rfl
  | a :: l => by
    have ih := sum_split f p l
    rw [List.filter_cons, List.filter_cons, List.map_cons, List.sum_cons, ← ih]
    by_cases h : p a = true
    · rw [if_pos h, if_neg (by simp [h]), List.map_cons, List.sum_cons]; omega
    · rw [if_neg h, if_pos (by simpa using h), List.map_cons, List.sum_cons]; omega
theorem rest_sum (f : Str → Int) {ns g : List Str} (h : g ∈ grpF [[]] ns) (hn : ns.Nodup) : ((restOf ns g).map f).sum = (ns.map f).sum - (g.map f).sum := by
  have e := sum_split f (fun n => decide (n ∈ g)) ns
  rw [sub_filter (grp_sublist h) hn] at e
  unfold restOf
  omega
/-- two groups that lie apart: by groups, by sums -/
theorem apart_iff (f : Str → Int) {ns : List Str} {ws : List Int} (hn : ns.Nodup) (hp : (ns.map f).Perm ws) (o1 o2 : Int) :
    (∃ s ∈ sumsF [0] ws, o1 ≤ s ∧ o2 ≤ ws.sum - s) ↔ ∃ g ∈ grpF [[]] ns, o1 ≤ (g.map f).sum ∧ o2 ≤ ((restOf ns g).map f).sum := by
  have hs : (ns.map f).sum = ws.sum := perm_sum hp
  have he : sumsF [0] (ns.map f) = (grpF [[]] ns).map fun g => (g.map f).sum := sums_grp f ns [[]]
  constructor
  · rintro ⟨s, h, q1, q2⟩
    have h2 := (sums_perm hp s).mpr h
    rw [he] at h2
    obtain ⟨g, hg, rfl⟩ := List.mem_map.mp h2
    exact ⟨g, hg, q1, by rw [rest_sum f hg hn, hs]; exact q2⟩
  · rintro ⟨g, hg, q1, q2⟩
    refine ⟨(g.map f).sum, (sums_perm hp _).mp ?_, q1, by rw [rest_sum f hg hn, hs] at q2; exact q2⟩
    rw [he]
    exact List.mem_map.mpr ⟨g, hg, rfl⟩
/-- a name's weight -/
def wtOf (ts : List (Str × Int)) (n : Str) : Int := ((ts.find? fun t => decide (t.1 = n)).map (·.2)).getD 0
def kvW (ts : List (Str × Int)) : List (Key × V) := ts.map fun t => (Sum.inr t.1, V.int t.2)
theorem wt_val : ∀ {ts : List (Str × Int)} {n : Str}, n ∈ ts.map (·.1) → valV (kvW ts) (Sum.inr n : Key) = some (.int (wtOf ts n))
  | [], n, h => nomatch h
  | t :: ts, n, h => by
    by_cases e : t.1 = n
    · have e' : (Sum.inr t.1 : Key) = Sum.inr n := congrArg Sum.inr e
      unfold kvW wtOf
      rw [List.map_cons, List.find?_cons]
      simp only [e, decide_true]
      exact valV_pos (p := ((Sum.inr n : Key), V.int t.2)) rfl
    · have e' : ¬ (Sum.inr t.1 : Key) = Sum.inr n := fun z => e (Sum.inr.inj z)
      have ih := wt_val (ts := ts) (n := n) (by
        rcases List.mem_cons.mp h with h | h
        · exact absurd h.symm e
        · exact h)
      unfold kvW wtOf at ih ⊢
      rw [List.map_cons, List.find?_cons]
      simp only [e, decide_false]
      rw [← ih]
      exact valV_neg (p := ((Sum.inr t.1 : Key), V.int t.2)) e'
theorem kvs_names (ts : List (Str × Int)) : (kvW ts).map (·.1) = (ts.map (·.1)).map Sum.inr := by
  unfold kvW; rw [List.map_map, List.map_map]; rfl
theorem wt_map : ∀ {ts : List (Str × Int)}, (ts.map (·.1)).Nodup → (ts.map (·.1)).map (wtOf ts) = ts.map (·.2)
  | [], _ => rfl
  | t :: ts, h => by
    obtain ⟨h1, h2⟩ := List.nodup_cons.mp h
    have ih := wt_map h2
    rw [List.map_cons, List.map_cons, List.map_cons]
    congr 1
    · unfold wtOf; rw [List.find?_cons]; simp
    · rw [← ih]
      apply List.map_congr_left
      intro n hn
      have : ¬ t.1 = n := fun z => h1 (by show t.1 ∈ _; rw [z]; exact hn)
      unfold wtOf
      rw [List.find?_cons]
      simp [this]
end Zk

set_option Elab.async false
set_option linter.all false
set_option maxRecDepth 100000
set_option maxHeartbeats 4000000
namespace Zk
open PySem PySem.Spec L2
open PyProof.Rows hiding St
/-! ### data that do not change, written ones too -/
theorem SqT.ext {K : PySem.W.Frag} {M : List Addr} {H H' : Hp} {a : Addr} {xs : List V} (e : Ext M H H') (h : SqT K H a xs) : SqT K H' a xs := by
  rcases h with (h | ⟨o, h⟩) | h
  · exact .inl (.inl (e.tup h))
  · exact .inl (.inr ⟨o, e.imm _ _ h trivial⟩)
  · exact .inr h
mutual
inductive Jm (K : PySem.W.Frag) (H : Hp) : V → PyData → Prop
  | non : Jm K H .non .none
  | bl (b : Bool) : Jm K H (.bl b) (.bool b)
  | int (i : Int) : Jm K H (.int i) (.int i)
  | str (x : Str) : Jm K H (.str x) (.str x)
  | tup {a : Addr} {xs : List V} {ds : List PyData} : SqT K H a xs → xs.length ≤ 1000 → JmAll K H xs ds → Jm K H (.ref a) (.tuple ds)
inductive JmAll (K : PySem.W.Frag) (H : Hp) : List V → List PyData → Prop
  | nil : JmAll K H [] []
  | cons {v : V} {vs : List V} {d : PyData} {ds : List PyData} : Jm K H v d → JmAll K H vs ds → JmAll K H (v :: vs) (d :: ds)
end
mutual
theorem Jm.go {K : PySem.W.Frag} {H H' : Hp} (e : ∀ a xs, SqT K H a xs → SqT K H' a xs) : ∀ (d : PyData) (v : V), Jm K H v d → Jm K H' v d
  | .none, _, .non => .non
  | .bool _, _, .bl b => .bl b
  | .int _, _, .int i => .int i
  | .str _, _, .str x => .str x
  | .tuple ds, _, .tup h l k => .tup (e _ _ h) l (JmAll.go e ds _ k)
theorem JmAll.go {K : PySem.W.Frag} {H H' : Hp} (e : ∀ a xs, SqT K H a xs → SqT K H' a xs) : ∀ (ds : List PyData) (vs : List V), JmAll K H vs ds → JmAll K H' vs ds
  | [], _, .nil => .nil
  | d :: ds, _, .cons h k => .cons (Jm.go e d _ h) (JmAll.go e ds _ k)
end
theorem Jm.ext {K : PySem.W.Frag} {M : List Addr} {H H' : Hp} {v : V} {d : PyData} (h : Jm K H v d) (e : Ext M H H') : Jm K H' v d := Jm.go (fun _ _ q => SqT.ext e q) d v h
theorem JmAll.ext {K : PySem.W.Frag} {M : List Addr} {H H' : Hp} {v : List V} {d : List PyData} (h : JmAll K H v d) (e : Ext M H H') : JmAll K H' v d := JmAll.go (fun _ _ q => SqT.ext e q) d v h
theorem JmAll.len {K : PySem.W.Frag} {H : Hp} : ∀ {vs : List V} {ds : List PyData}, JmAll K H vs ds → vs.length = ds.length
  | _, _, .nil => rfl
  | _, _, .cons _ k => congrArg (· + 1) k.len
theorem JmAll.at {K : PySem.W.Frag} {H : Hp} : ∀ {vs : List V} {ds : List PyData} {i : Nat} {d : PyData}, JmAll K H vs ds → ds[i]? = some d → ∃ v, vs[i]? = some v ∧ Jm K H v d
  | _, _, 0, _, .cons h _, e => by cases e; exact ⟨_, rfl, h⟩
  | _, _, i + 1, _, .cons _ k, e => JmAll.at (i := i) k e
theorem JmAll.snoc {K : PySem.W.Frag} {H : Hp} {v : V} {d : PyData} (h : Jm K H v d) : ∀ {vs : List V} {ds : List PyData}, JmAll K H vs ds → JmAll K H (vs ++ [v]) (ds ++ [d])
  | _, _, .nil => .cons h .nil
  | _, _, .cons g k => .cons g (JmAll.snoc h k)
theorem JmAll.app {K : PySem.W.Frag} {H : Hp} : ∀ {vs us : List V} {ds es : List PyData}, JmAll K H vs ds → JmAll K H us es → JmAll K H (vs ++ us) (ds ++ es)
  | _, _, _, _, .nil, h => h
  | _, _, _, _, .cons g k, h => .cons g (JmAll.app k h)
theorem JmAll.take {K : PySem.W.Frag} {H : Hp} : ∀ {vs : List V} {ds : List PyData} (n : Nat), JmAll K H vs ds → JmAll K H (vs.take n) (ds.take n)
  | _, _, 0, _ => by rw [List.take_zero, List.take_zero]; exact .nil
  | _, _, _ + 1, .nil => .nil
  | _, _, n + 1, .cons g k => .cons g (JmAll.take n k)
theorem JmAll.drop {K : PySem.W.Frag} {H : Hp} : ∀ {vs : List V} {ds : List PyData} (n : Nat), JmAll K H vs ds → JmAll K H (vs.drop n) (ds.drop n)
  | _, _, 0, h => h
  | _, _, _ + 1, .nil => .nil
  | _, _, n + 1, .cons g k => JmAll.drop n k
theorem Jm.of {K : PySem.W.Frag} {H : Hp} : ∀ (d : PyData) (v : V), Im H v d → Jm K H v d := by
  have key : ∀ n, ∀ (d : PyData) (v : V), sizeOf d < n → Im H v d → Jm K H v d := by
    intro n
    induction n with
    | zero => intro d v h; omega
    | succ n ih =>
      intro d v hn h
      cases h with
      | non => exact .non
      | bl b => exact .bl b
      | int i => exact .int i
      | str x => exact .str x
      | @tup a xs ds ha l k =>
        refine .tup (sqt ha) l ?_
        have hn' : ∀ d ∈ ds, sizeOf d < n := fun d m => by
          have := List.sizeOf_lt_of_mem m
          have e : sizeOf (PyData.tuple ds) = 1 + sizeOf ds := by simp
          omega
        clear ha l hn
        induction ds generalizing xs with
        | nil => cases k; exact .nil
        | cons d ds ihd =>
          cases k with
          | cons g k => exact .cons (ih _ _ (hn' d List.mem_cons_self) g) (ihd k fun d m => hn' d (List.mem_cons_of_mem _ m))
  exact fun d v => key _ d v (Nat.lt_succ_self _)
theorem Jm.tupE {K : PySem.W.Frag} {H : Hp} {v : V} {ds : List PyData} (h : Jm K H v (.tuple ds)) : ∃ a xs, v = .ref a ∧ SqT K H a xs ∧ JmAll K H xs ds := by
  cases h with
  | tup h _ k => exact ⟨_, _, rfl, h, k⟩
/-- the same: data, lists of such, tuples of such -/
def Sj (K : PySem.W.Frag) : Nat → Hp → V → V → Prop
  | 0, _, _, _ => False
  | n + 1, H, a, b => (∃ d, d.depth ≤ n ∧ Jm K H a d ∧ Jm K H b d) ∨ (∃ p q xs ys, a = .ref p ∧ b = .ref q ∧ H p = some (.lst xs) ∧ H q = some (.lst ys) ∧ xs.length ≤ 100000 ∧ Paired (Sj K n H) xs ys) ∨
    ∃ p q xs ys, a = .ref p ∧ b = .ref q ∧ H p = some (.tup xs) ∧ H q = some (.tup ys) ∧ xs.length ≤ 1000 ∧ Paired (Sj K n H) xs ys
theorem Sj.jm {K : PySem.W.Frag} {n : Nat} {H : Hp} {a b : V} {d : PyData} (l : d.depth < n) (h : Jm K H a d) (k : Jm K H b d) : Sj K n H a b := by
  cases n with
  | zero => omega
  | succ n => exact .inl ⟨d, by omega, h, k⟩
theorem Sj.ext {K : PySem.W.Frag} {H H' : Hp} (e : Ext [] H H') : ∀ {n : Nat} {a b : V}, Sj K n H a b → Sj K n H' a b
  | 0, _, _, h => h
  | n + 1, a, b, h => by
    rcases h with ⟨d, l, i, j⟩ | ⟨p, q, xs, ys, rfl, rfl, hp, hq, lz, w⟩ | ⟨p, q, xs, ys, rfl, rfl, hp, hq, lz, w⟩
    · exact .inl ⟨d, l, i.ext e, j.ext e⟩
    · exact .inr (.inl ⟨p, q, xs, ys, rfl, rfl, e.keep _ _ hp List.not_mem_nil, e.keep _ _ hq List.not_mem_nil, lz, Paired.mapP w fun _ _ z => Sj.ext e z⟩)
    · exact .inr (.inr ⟨p, q, xs, ys, rfl, rfl, e.tup hp, e.tup hq, lz, Paired.mapP w fun _ _ z => Sj.ext e z⟩)
theorem w_eqO {H : Hp} {Q : VK} {a b : Option Int} (q : Q (.bl (decide (a = b))) H) : rEq (match a with | none => V.non | some t => V.int t) (match b with | none => V.non | some t => V.int t) H Q := by
  cases a <;> cases b
  · exact ⟨rfl, by simpa using q⟩
  · exact ⟨rfl, by simpa using q⟩
  · exact ⟨rfl, by simpa using q⟩
  · refine ⟨rfl, ?_⟩
    simpa using q
theorem w_iRng3 {tl : TA} {σ : L2.St} {H : Hp} {R : It → Hp → Prop} (h : tl σ H fun vs H1 => ∃ (i j c : Int) (n : Nat), vs = [.int i, .int j, .int c] ∧ RgC i j c n ∧ R (Itc i c n) H1) : iRng3 tl σ H R := h
theorem z_for_rangeC {σ : L2.St} {H : Hp} {t : TS} {nx : L2.St → Hp → Prop} {rt : VK} {lo c : Int} {n : Nat} {g : TG} (Pv : Nat → L2.St → Hp → Prop) (h0 : Pv 0 σ H)
    (hs : ∀ (N : L2.St → Hp → Prop) i σ H, i < n → Pv i σ H → (∀ σ' H', Pv (i + 1) σ' H' → N σ' H') → g (.int (lo + (i : Nat) * c)) σ H fun σ2 H2 => t ⟨N, rt, nx, N⟩ σ2 H2) (hd : ∀ σ H, Pv n σ H → nx σ H) :
    ∃ W : Nat → Nat → L2.St → Hp → Prop, (∃ m, W 0 m σ H) ∧ ∀ i m σ H, W i m σ H →
      ((Itc lo c n).stop i H ∧ nx σ H) ∨ ((Itc lo c n).go i H ∧ ∃ N : L2.St → Hp → Prop, (∀ σ' H', N σ' H' → ∃ m', m' < m ∧ W (i + 1) m' σ' H') ∧ ∀ x H', (Itc lo c n).yld i H x H' → g x σ H' fun σ2 H2 => t ⟨N, rt, nx, N⟩ σ2 H2) :=
  for_rangeC (D := ⟨nx, rt, nx, nx⟩) Pv h0 (fun i σ H hx p => hs (Pv (i + 1)) i σ H hx p fun _ _ q => q) hd
theorem w_neO {H : Hp} {Q : VK} {a b : Option Int} (q : Q (.bl (!decide (a = b))) H) : rNe (match a with | none => V.non | some t => V.int t) (match b with | none => V.non | some t => V.int t) H Q := by
  cases a <;> cases b
  · exact ⟨rfl, by simpa using q⟩
  · exact ⟨rfl, by simpa using q⟩
  · exact ⟨rfl, by simpa using q⟩
  · refine ⟨rfl, ?_⟩
    simpa using q
theorem z_dc_listK {xs : List V} {a : Addr} {g : TG} {tk tv : TE} {tt : TT} {vs : List Nat} {D : Addr} {Qd : Hp → Prop} {σ : L2.St} {H : Hp} {K : PySem.W.Frag} (Pv : Nat → List (Key × V) → Hp → Prop) (nD : H D = none) (h0 : ∀ H', Ext [] H H' → Pv 0 [] H') (hl : ∀ i acc H, i ≤ xs.length → Pv i acc H → SqL K H a xs)
    (hs : ∀ (Nx : Hp → Prop) i x acc H, xs[i]? = some x → Pv i acc H → H D = some (.dK acc) → (∀ acc' H', Pv (i + 1) acc' H' → H' D = some (.dK acc') → Nx H') → g x (wipe σ vs) H fun σ2 H2 => wipe σ2 vs = wipe σ vs ∧ tt σ2 H2 fun b H3 =>
      if b = true then tk σ2 H3 fun y H4 => tv σ2 H4 fun z H5 => ∃ kvs k, y = kV k ∧ H5 D = some (.dK kvs) ∧ kvs.length < sizeLine ∧ Nx (upd H5 D (.dK (putK kvs k z))) else Nx H3) (hd : ∀ acc H, Pv xs.length acc H → H D = some (.dK acc) → Qd H) :
    ∃ W : Nat → Nat → Hp → Prop, (∃ m, W 0 m (upd H D (.dK []))) ∧ ∀ i m H, W i m H →
      ((Itl K a).stop i H ∧ Qd H) ∨ ((Itl K a).go i H ∧ ∃ Nx : Hp → Prop, (∀ H', Nx H' → ∃ m', m' < m ∧ W (i + 1) m' H') ∧ ∀ x H', (Itl K a).yld i H x H' → g x (wipe σ vs) H' fun σ2 H2 => wipe σ2 vs = wipe σ vs ∧ tt σ2 H2 fun b H3 =>
        if b = true then tk σ2 H3 fun y H4 => tv σ2 H4 fun z H5 => ∃ kvs k, y = kV k ∧ H5 D = some (.dK kvs) ∧ kvs.length < sizeLine ∧ Nx (upd H5 D (.dK (putK kvs k z))) else Nx H3) := by
  refine ⟨fun i m H => m = xs.length - i ∧ i ≤ xs.length ∧ ∃ acc, Pv i acc H ∧ H D = some (.dK acc), ⟨_, rfl, Nat.zero_le _, [], h0 _ (Ext.new nD), upd_same⟩, ?_⟩
  rintro i m' H ⟨rfl, hi, acc, p, hD⟩
  have sq := hl i acc H hi p
  rcases Nat.lt_or_ge i xs.length with hlt | hge
  · refine .inr ⟨⟨xs, xs[i], sq, List.getElem?_eq_getElem hlt⟩, (fun H => ∃ acc, Pv (i + 1) acc H ∧ H D = some (.dK acc)), fun H' p' => ⟨xs.length - (i + 1), by omega, rfl, hlt, p'⟩, fun x H' y => ?_⟩
    obtain ⟨e, y⟩ := y
    subst e
    exact hs _ i x acc _ (y xs sq) p hD fun acc' H' p' h' => ⟨acc', p', h'⟩
  · have e : i = xs.length := by omega
    subst e
    exact .inl ⟨⟨xs, sq, Nat.le_refl _⟩, hd acc H p hD⟩
theorem pe_never {X : Cx} {e : Expr} : PE X e (fun _ _ _ => False) := ⟨fun _ _ _ _ _ _ h => h.elim⟩
theorem w_par {i j : Nat} {ta : TA} {D : Ends} {σ : L2.St} {H : Hp} (h : ta σ H fun vs H1 => ∃ v w, vs = [v, w] ∧ D.nx ((σ.set i (some v)).set j (some w)) H1) : tPar i j ta D σ H := h
end Zk

set_option Elab.async false
set_option linter.all false
set_option maxRecDepth 100000
set_option maxHeartbeats 4000000
/-! ### t[lo:hi], the whole of it: t itself -/
namespace HT
open PySem PyProof.Rows
section
variable {prog : Program} {w : World} {A : Around} {E : Value → Shared → Prop} {s : Shared}
theorem getItem_tuple_whole {t sl : Addr} {items : Array Value} {vl vu : Value} {lo hi : Option Int} {Q : Value → Shared → Prop} (ht : IsTup s.heap t items) (hs : s.heap.IsSliceOf sl vl vu .none) (pl : IsPart vl lo) (pu : IsPart vu hi)
    (hw : sIx items.size 0 lo = 0 ∧ sIx items.size items.size hi = items.size) (h : Q (.ref t) s) : wpAny (model prog w) A (getItem (.ref t) (.ref sl)) Q E s := by
  obtain ⟨os, hos, hcs, hds⟩ := id hs
  have hTs : s.TypeIs (.ref sl) "slice" := ⟨os, hos, hcs⟩
  unfold getItem
  try with_reducible refine wpAny_holding ?_
  first | refine wpAny_bind (wpAny_pure ?_) | skip
  refine wpAny_bind (wpAny_sequenceKey ht.typeIs (by decide) ?_)
  refine wpAny_bind (wpAny_callSpecial?_slot (name := Str.ofString "__getitem__") ht.typeIs PyProof.Rows.slot_tuple_getitem
    (wpAny_call_entry PyProof.Rows.slot_tuple_getitem ht.typeIs entry_tuple_getitem ?_ (args_tuple_getitem _ _)))
  show wpAny _ _ (Builtin.Tuple.tupleItemsOf (.ref t) >>= _) _ _ s
  refine wpAny_bind (tupleItemsOf_ ht ?_)
  refine wpAny_bind (wpAny_typeOf hTs ?_)
  rw [if_pos (by decide)]
  refine wpAny_bind (sliceApplied_gen hs pl pu ?_)
  have hyes : (((sIx items.size 0 lo : Nat) : Int) == 0 && (1 : Int) == 1 && (sIx items.size items.size hi - sIx items.size 0 lo) == items.size) = true := by
    rw [hw.1, hw.2]; simp
  show wpAny _ _ (if (((sIx items.size 0 lo : Nat) : Int) == 0 && (1 : Int) == 1 && (sIx items.size items.size hi - sIx items.size 0 lo) == items.size) = true then _ else _) _ _ s
  rw [if_pos hyes]
  refine wpAny_bind ?_
  unfold Builtin.Tuple.tupleIsExact
  refine wpAny_bind (wpAny_typeOf ht.typeIs (wpAny_pure ?_))
  rw [if_pos (by decide)]
  first
    | exact wpAny_bind (wpAny_pure (wpAny_pure ⟨_, rfl, wpAny_pure h⟩))
    | exact wpAny_bind (wpAny_rule (wpAny_pure ⟨_, rfl, wpAny_pure h⟩))
    | exact (wpAny_pure ⟨_, rfl, wpAny_pure h⟩)
end
end HT
namespace L2
open PySem PySem.Spec PyProof.Rows
variable {X : Cx}
/-- t[lo:hi], all of it or not -/
def rSlTW (K : PySem.W.Frag) : V → Option Int → Option Int → Hp → VK → Prop := fun x lo hi H Q => ∃ a xs, x = .ref a ∧ SqT K H a xs ∧
  ((HT.sIx xs.length 0 lo = 0 ∧ HT.sIx xs.length xs.length hi = xs.length) ∧ Q (.ref a) H ∨ ¬ (HT.sIx xs.length 0 lo = 0 ∧ HT.sIx xs.length xs.length hi = xs.length) ∧ ∀ p, H p = none → Q (.ref p) (upd H p (.tup (cutV xs lo hi))))
theorem sl_tupw : SlR X (rSlTW X.K) := by
  intro pins s σ H x v vl vu lo hi sl Q I rx hs pl pu h
  obtain ⟨a, xs, rfl, hx, ⟨hw, q⟩ | ⟨hw, q⟩⟩ := h
  · cases rx
    obtain ⟨its, r, ht, hz⟩ := I.tuple hx
    have hlen : its.toArray.size = xs.length := by rw [List.size_toArray]; exact r.length.symm
    refine ⟨"tuple", _, PyProof.Rows.slot_tuple_getitem.lookup, ht.typeIs, ?_⟩
    refine HT.getItem_tuple_whole ht hs pl pu (by rw [hlen]; exact hw) ?_
    exact ⟨.ref a, H, I, rfl, q⟩
  · exact sl_tup pins s σ H _ v vl vu lo hi sl Q I rx hs pl pu ⟨a, xs, rfl, hx, hw, q⟩
end L2
namespace Zk
open PySem PySem.Spec L2
variable {X : Cx} {K : PySem.W.Frag} {σ : L2.St} {H : Hp} {Q : VK} {a : Addr}
/-- the first c of a tuple -/
theorem w_slTop {xs : List V} {c : Nat} (h : SqT K H a xs) (k : ∀ r H', Ext [] H H' → SqT K H' r (xs.take c) → Q (.ref r) H') : rSlTW K (.ref a) none (some (c : Int)) H Q := by
  refine ⟨a, xs, rfl, h, ?_⟩
  rw [HT.sIx_none, HT.sIx_nat]
  by_cases l : xs.length ≤ c
  · refine .inl ⟨⟨rfl, Nat.min_eq_right l⟩, k a H .refl ?_⟩
    rw [List.take_of_length_le l]; exact h
  · refine .inr ⟨fun z => l (by omega), fun p np => ?_⟩
    refine k p _ (Ext.new np) (sqt ?_)
    rw [upd_same]
    unfold cutV
    rw [HT.sIx_none, HT.sIx_nat, List.drop_zero, Nat.sub_zero, Nat.min_eq_left (by omega)]
theorem w_slTmid {xs : List V} {b c : Nat} (h : SqT K H a xs) (b0 : 0 < b) (bl : b < xs.length) (cl : c ≤ xs.length) (k : ∀ r H', Ext [] H H' → H r = none → SqT K H' r ((xs.drop b).take (c - b)) → Q (.ref r) H') : rSlTW K (.ref a) (some (b : Int)) (some (c : Int)) H Q := by
  refine ⟨a, xs, rfl, h, .inr ⟨fun z => ?_, fun p np => ?_⟩⟩
  · rw [HT.sIx_nat] at z; omega
  · refine k p _ (Ext.new np) np (sqt ?_)
    rw [upd_same]
    unfold cutV
    rw [HT.sIx_nat, HT.sIx_nat, Nat.min_eq_left (by omega), Nat.min_eq_left (by omega)]
end Zk

set_option Elab.async false
set_option linter.all false
set_option maxRecDepth 100000
set_option maxHeartbeats 4000000
namespace L2
open PySem PySem.Spec PyProof.Rows
/-! ### the layer that tells an exception's context: try, calls in except suites -/
inductive HdsN (X : Cx) : List ExceptHandler → List Cl3 → Prop
  | nil : HdsN X [] []
  | bare {x : Str} {c : Value} {ts : Addr → Value → Option Addr → TS} {st : Stmt} {su : List Stmt} {p1 p2 : Pos} {hds : List ExceptHandler} {l : List Cl3} (hc : Names X x c)
      (hsu : ∀ (a : Addr) (oe : Obj) (cls : Value) (d : Option Addr) (pn : List (Addr × Obj)), L2N.Zn cls d oe → (∃ vs, oe.data = .fields vs) → PSs (X.suite a ((a, oe) :: pn)) (st :: su) (ts a cls d)) (r : HdsN X hds l) :
      HdsN X (.ExceptHandler (some (.Name x p1)) none (st :: su) p2 :: hds) ((c, none, ts) :: l)
  | named {x n : Str} {c : Value} {i : Nat} {ts : Addr → Value → Option Addr → TS} {st : Stmt} {su : List Stmt} {p1 p2 : Pos} {hds : List ExceptHandler} {l : List Cl3} (hi : X.N[i]? = some n) (hl : X.env.kindOf n = some .local) (hc : Names X x c)
      (hsu : ∀ (a : Addr) (oe : Obj) (cls : Value) (d : Option Addr) (pn : List (Addr × Obj)), L2N.Zn cls d oe → (∃ vs, oe.data = .fields vs) → PSs (X.suite a ((a, oe) :: pn)) (st :: su) (ts a cls d)) (r : HdsN X hds l) :
      HdsN X (.ExceptHandler (some (.Name x p1)) (some n) (st :: su) p2 :: hds) ((c, some i, ts) :: l)
section
variable {X : Cx} {bd : List Stmt} {hd0 : ExceptHandler} {hds : List ExceptHandler} {l : List Cl3} {pos : Pos} {tb : WX → TS} {Wout : WX}
theorem ps_try_allN (hs : X.stack = X.env :: X.outer) (hf : X.env.frame = some X.env.locals) (hN : X.N.Nodup) (tk : L2N.Takes X Wout)
    (hb : ∀ (W : WX) (pn : List (Addr × Obj)) (xe : Value → Shared → Prop), L2N.Takes (X.tr pn xe) W → PassesOwn (model X.prog X.w) X.A X.env xe → PSs (X.tr pn xe) bd (tb W))
    (hh : HdsN X (hd0 :: hds) l) : PS X (.Try bd (hd0 :: hds) [] [] pos) (fun D σ H => tb (wAll X.K Wout D l) D σ H) := by
  refine ⟨fun pins s σ H D I h => ?_⟩
  have okX := I.ok
  have frX : X.A.frames = some (X.env :: X.outer) := by rw [okX.frames, hs]
  refine wpAny_Try_except ?_
  refine wpAny_mono ((hb (wAll X.K Wout D l) (X.pn ++ pins) (fun u1 t1 => wpAny (model X.prog X.w) X.A (noteFrame u1 X.env) (fun _ t2 => wpAny (model X.prog X.w) X.A (setFlight u1 none) (fun _ t3 =>
    wpAny (model X.prog X.w) X.A (handleBy u1 X.env (hd0 :: hds)) (SP X pins D) X.xe t3) X.xe t2) X.xe t1) (fun u s' xx => ?_) PassesOwn.looking).run [] s σ H D (I.toTry _) h) (fun fl s1 got => ?_) (fun _ _ z => z)
  · obtain ⟨a, B, sI, pins', σ', H', cls, d, rfl, Jt, nb, up, sky, na, os, ag, wsh⟩ := xx
    have J0 : Inv X pins σ' H' sI := Jt.ofTry okX
    have sky2 : Sky B (X.env :: X.outer) a (L2N.Zn cls d) X.env.locals s'.heap := by rw [← hs]; exact sky
    show wpAny (model X.prog X.w) X.A (noteFrame (.ref a) X.env) _ _ _
    refine L2N.Sky.land L2N.Zn.steady frX hf sky2 fun hp3 w3 up3 => ?_
    have I3 : Inv X pins σ' H' { s' with heap := hp3 } := J0.landed nb w3.1 (up.trans up3) os ag
    obtain ⟨ob3, fv3, at3, zc3, da3⟩ := w3.there
    have noFrame : ∀ {hh : Heap} {oo : Obj} {ff : Array Value}, hh.FunFrames B (X.env :: X.outer) → hh.get? a = some oo → oo.data = .fields ff → a ∉ frs (X.env :: X.outer) := fun {hh oo ff} fr e1 e2 hm => by
      obtain ⟨_, o2, e3, nf⟩ := fr.mem hm
      rw [e1] at e3; cases e3
      exact nf _ e2
    have nfr3 := noFrame w3.2.2.1 at3 da3
    have neL : a ≠ X.env.locals := fun z => nfr3 (List.mem_filterMap.mpr ⟨X.env, List.mem_cons_self, by rw [hf, z]⟩)
    have neF : a ∉ X.fs := fun hm => by
      obtain ⟨ev, hv, q⟩ := List.mem_filterMap.mp hm
      exact nfr3 (List.mem_filterMap.mpr ⟨ev, List.mem_cons_of_mem _ hv, q⟩)
    have Su3 := I3.suite at3 da3 na neL neF
    have look : PySem.W.Looks (model X.prog X.w) hp3 (typeOf (.ref a)) cls := fun A Q E s k q => wpAny_typeOf_ref (k _ _ at3) (by rw [zc3.1]; exact q)
    have asks : ∀ {x : Str} {c : Value} {np : Pos} {Q : Value → Shared → Prop} {E : Value → Shared → Prop}, Names X x c → Q c { s' with heap := hp3 } → wpAny (model X.prog X.w) (X.A.mark (some (.ref a))) (eval (.Name x np) X.env) Q E { s' with heap := hp3 } := fun {x c np Q E} hc q => by
      obtain ⟨hg, hdbg, hm | ⟨hm, hv, hnn⟩⟩ := hc
      · exact ld_glob (X := X.suite a ((a, ob3) :: (X.pn ++ pins))) Su3 hg hm q hdbg
      · exact ld_blt (X := X.suite a ((a, ob3) :: (X.pn ++ pins))) Su3 hg hm hv q hnn hdbg
    have walk : ∀ {hs2 : List ExceptHandler} {l2 : List Cl3}, HdsN X hs2 l2 → wAll X.K Wout D l2 cls d σ' H' →
        wpAny (model X.prog X.w) X.A (handleBy (.ref a) X.env hs2) (SP X pins D) X.xe { s' with heap := hp3 } := by
      intro hs2 l2 hk
      induction hk with
      | nil =>
        intro w
        refine wpAny_handleBy_nil ?_
        obtain ⟨_, _, _, ob, fv, T, oT, _, hat, _, hda, h1, _⟩ := id w3
        unfold PySem.passOn
        refine wpAny_bind (wpAny_field hat hda h1 ?_)
        rw [if_neg (show ¬ ((Value.ref T == Value.none) = true) from by simp)]
        have leave : wpAny (model X.prog X.w) X.A (setFlight (.ref a) X.env.frame) (fun _ s4 => wpAny (model X.prog X.w) X.A (throw (.ref a) : Sem Flow) (SP X pins D) X.xe s4) X.xe { s' with heap := hp3 } := by
          rw [hf]
          refine HandSPX.setFlight_upZ w3 fun hp4 w4 up4 => wpAny_throw (tk _ _ ?_)
          exact ⟨a, B, sI, pins, σ', H', cls, d, rfl, J0, nb, (up.trans up3).trans up4, .inr (.inr (by rw [hs]; exact w4)), na, os, ag, w⟩
        first
          | exact wpAny_bind (wpAny_pure (wpAny_bind leave))
          | exact wpAny_bind leave
      | @bare x c ts st su p1 p2 hds2 l2 hc hsu r ih =>
        intro w
        obtain ⟨b, hb1, yes, no⟩ := w
        refine wpAny_handleBy_cons (codeAny_handlers_test ?_) (by intro q; cases q)
        refine asks hc ((PySem.W.exm_one (M := model X.prog X.w) (I3.kIn) look hb1).here ?_)
        cases b with
        | true =>
          refine codeAny_handlers_suite ?_
          refine HandSPX.lands_againZ w3 fun hp4 w4 up4 => ?_
          have I4 : Inv X pins σ' H' { s' with heap := hp4 } := J0.landed nb w4.1 ((up.trans up3).trans up4) os ag
          obtain ⟨ob4, fv4, at4, zc4, da4⟩ := w4.there
          have Su4 := I4.suite at4 da4 na neL neF
          refine wpAny_mono ((hsu a ob4 cls d (X.pn ++ pins) zc4 ⟨_, da4⟩).run [] _ _ H' _ Su4 (yes rfl a na)) (fun fl s6 got => ?_) (fun _ _ z => False.elim z)
          cases fl with
          | next =>
            obtain ⟨σ6, H6, Su6, q6⟩ := got
            exact ⟨_, _, Su6.unsuite okX, q6⟩
          | brk =>
            obtain ⟨σ6, H6, Su6, q6⟩ := got
            exact ⟨_, _, Su6.unsuite okX, q6⟩
          | cont =>
            obtain ⟨σ6, H6, Su6, q6⟩ := got
            exact ⟨_, _, Su6.unsuite okX, q6⟩
          | ret u =>
            obtain ⟨v6, σ6, H6, Su6, r6, q6⟩ := got
            exact ⟨_, _, _, Su6.unsuite okX, r6, q6⟩
        | false =>
          show wpAny _ X.A (handleBy (.ref a) X.env hds2) _ _ _
          exact ih (no rfl)
      | @named x n c i ts st su p1 p2 hds2 l2 hi hl hc hsu r ih =>
        intro w
        obtain ⟨b, hb1, yes, no⟩ := w
        refine wpAny_handleBy_cons (codeAny_handlers_test ?_) (by intro q; cases q)
        refine asks hc ((PySem.W.exm_one (M := model X.prog X.w) (I3.kIn) look hb1).here ?_)
        cases b with
        | true =>
          refine codeAny_handlers_suite_as ?_
          refine HandSPX.lands_againZ w3 fun hp4 w4 up4 => ?_
          have I4 : Inv X pins σ' H' { s' with heap := hp4 } := J0.landed nb w4.1 ((up.trans up3).trans up4) os ag
          obtain ⟨ob4, fv4, at4, zc4, da4⟩ := w4.there
          have Su4 := I4.suite at4 da4 na neL neF
          have hloc : Loc X.env.scope n := .inl hl
          refine store_ok (X := X.suite a ((a, ob4) :: (X.pn ++ pins))) (v := .ref a) Su4 hN hi hloc rfl (fun s5 Su5 => ?_) (.inr hl)
          refine wpAny_mono ((hsu a ob4 cls d (X.pn ++ pins) zc4 ⟨_, da4⟩).run [] s5 _ H' _ Su5 (yes rfl a na)) (fun fl s6 got => ?_) (fun _ _ z => False.elim z)
          have out : ∀ {σ6 : St} {H6 : Hp} {Q : Shared → Prop}, Inv (X.suite a ((a, ob4) :: (X.pn ++ pins))) [] σ6 H6 s6 → (∀ s7, Inv X pins (σ6.set i none) H6 s7 → Q s7) →
              wpAny (model X.prog X.w) X.A (do bindName X.env n .none; unbindBehindTheSuite X.env n p2) (fun _ s7 => Q s7) X.xe s6 := fun {σ6 H6 Q} Su6 hq => gone_ok (Su6.unsuite okX) hN hi hl hq
          cases fl with
          | next =>
            obtain ⟨σ6, H6, Su6, q6⟩ := got
            exact out Su6 fun s7 J7 => ⟨_, _, J7, q6⟩
          | brk =>
            obtain ⟨σ6, H6, Su6, q6⟩ := got
            exact out Su6 fun s7 J7 => ⟨_, _, J7, q6⟩
          | cont =>
            obtain ⟨σ6, H6, Su6, q6⟩ := got
            exact out Su6 fun s7 J7 => ⟨_, _, J7, q6⟩
          | ret u =>
            obtain ⟨v6, σ6, H6, Su6, r6, q6⟩ := got
            exact out Su6 fun s7 J7 => ⟨_, _, _, J7, r6, q6⟩
        | false =>
          show wpAny _ X.A (handleBy (.ref a) X.env hds2) _ _ _
          exact ih (no rfl)
    exact walk hh wsh
  · cases fl with
    | next =>
      obtain ⟨σ2, H2, J2, q⟩ := got
      exact wpAny_execs_nil ⟨σ2, H2, J2.ofTry okX, q⟩
    | brk =>
      obtain ⟨σ2, H2, J2, q⟩ := got
      exact ⟨σ2, H2, J2.ofTry okX, q⟩
    | cont =>
      obtain ⟨σ2, H2, J2, q⟩ := got
      exact ⟨σ2, H2, J2.ofTry okX, q⟩
    | ret u =>
      obtain ⟨v, σ2, H2, J2, rv, q⟩ := got
      exact ⟨v, σ2, H2, J2.ofTry okX, rv, q⟩
end
theorem ps_try_allKN {X : Cx} {K : PySem.W.Frag} {bd : List Stmt} {hd0 : ExceptHandler} {hds : List ExceptHandler} {l : List Cl3} {pos : Pos} {tb : WX → TS} {Wout : WX} (hK : X.K = K) (hs : X.stack = X.env :: X.outer) (hf : X.env.frame = some X.env.locals) (hN : X.N.Nodup) (tk : L2N.Takes X Wout)
    (hb : ∀ (W : WX) (pn : List (Addr × Obj)) (xe : Value → Shared → Prop), L2N.Takes (X.tr pn xe) W → PassesOwn (model X.prog X.w) X.A X.env xe → PSs (X.tr pn xe) bd (tb W))
    (hh : HdsN X (hd0 :: hds) l) : PS X (.Try bd (hd0 :: hds) [] [] pos) (fun D σ H => tb (wAll K Wout D l) D σ H) := by
  subst hK
  exact ps_try_allN hs hf hN tk hb hh
/-- what is raised while a dict is walked: the dict is free again -/
theorem takes_unlkN {X : Cx} {W : WX} (tk : L2N.Takes X W) : L2N.Takes X (fun cls d σ H => W cls d σ H ∨ ∃ (d0 : Addr) (od : Obj) (u : HO), H d0 = some (.frz od u) ∧ (∀ o' u', X.H_0 d0 ≠ some (.frz o' u')) ∧ W cls d σ (upd H d0 u)) := by
  rintro u s' ⟨a, B, sI, pins, σ, H, cls, d, e, I, nb, up, sky, na, os, ag, w | ⟨d0, od, u0, h0, hn, w⟩⟩
  · exact tk u s' ⟨a, B, sI, pins, σ, H, cls, d, e, I, nb, up, sky, na, os, ag, w⟩
  · refine tk u s' ⟨a, B, sI, pins, σ, _, cls, d, e, I.unlock h0 hn, nb, up, sky, ?_, os, ag, w⟩
    rw [upd_ne (fun z => by rw [z, h0] at na; cases na)]
    exact na
theorem takesNoN {X : Cx} : L2N.Takes X (fun _ _ _ _ => False) := fun _ _ ⟨_, _, _, _, _, _, _, _, _, _, _, _, _, _, _, _, w⟩ => w.elim
/-- the suite's exception has no context: calls may be made -/
theorem hot_of {X : Cx} {a : Addr} {oe : Obj} {cls : Value} {d : Option Addr} {pn : List (Addr × Obj)} (hz : L2N.Zn cls d oe) (hf : ∃ vs, oe.data = .fields vs) : L2H.HotC (X.suite a ((a, oe) :: pn)) := by
  obtain ⟨vs, e⟩ := hf
  exact ⟨(a, oe), ⟨rfl, vs, e, hz.2.2 vs e⟩, List.mem_cons_self⟩
theorem roomM {k : Nat} {A : Around} {v : Option Value} (r : Room k A) : L2H.RoomH k (A.mark v) := ⟨r.dp, r.un⟩
theorem passH {X : Cx} {E : XK} : ∀ σ : L2.St, PassesAt CX0 X σ E := fun _ _ _ _ _ _ _ h => h.elim
theorem hu_ofH {k : Nat} {A : Around} (r : L2H.RoomH k A) : A.units + 1 < cLine := by have := r.un; omega
theorem Fun.okN {P : Program} {w : World} {K : PySem.W.Frag} {mg : Str → Option Value} {base : Heap} {x qual : Str} {st : Stmt} {f : Addr} {fd : FuncData} {N ps : List Str} {k : Nat} {sp : Sp} (F : Fun K x qual st f fd) (S : FnScope N ps (defScope st)) (ln : ∀ vs H Q E, sp vs H Q E → vs.length = ps.length)
    (bd : ∀ (cdv : Value) (A : Around) (outer : List Env) (s : Shared) (H : Hp) (vs : List V) (Q : VK) (E : XK), Room k (A.deeper (envOfC qual (defScope st) s.heap.objs.size f cdv)) → sp vs H Q E →
      ∃ t, PSs (cxOf (L2N.CX P w) P w K mg base N qual (defScope st) f cdv A outer s H E) (defBody st) t ∧ t { nx := fun _ H' => Q .non H', rt := Q } (start N vs) H) : FnOk P w K mg base (L2N.CX P w) (k + 1) f fd ps sp := by
  obtain ⟨_, _, _, _, _, _, _, _, _, rfl, lk, cd⟩ := F.ex
  exact fn_of lk cd S ln fun A outer s H vs Q E r h => bd _ A outer s H vs Q E r h
theorem Fun.okH {P : Program} {w : World} {K : PySem.W.Frag} {mg : Str → Option Value} {base : Heap} {x qual : Str} {st : Stmt} {f : Addr} {fd : FuncData} {N ps : List Str} {k : Nat} {sp : Sp} (F : Fun K x qual st f fd) (S : FnScope N ps (defScope st)) (ln : ∀ vs H Q E, sp vs H Q E → vs.length = ps.length)
    (bd : ∀ (cdv : Value) (A : Around) (outer : List Env) (s : Shared) (H : Hp) (vs : List V) (Q : VK) (E : XK) (p : Addr × Obj), L2H.Hot1 A p → L2H.RoomH k (A.deeper (envOfC qual (defScope st) s.heap.objs.size f cdv)) → sp vs H Q E →
      ∃ t, PSs (L2H.cxH CX0 P w K mg base N qual (defScope st) f cdv A outer s H E p) (defBody st) t ∧ t { nx := fun _ H' => Q .non H', rt := Q } (start N vs) H) : L2H.FnH P w K mg base CX0 (k + 1) f fd ps sp := by
  obtain ⟨_, _, _, _, _, _, _, _, _, rfl, lk, cd⟩ := F.ex
  exact L2H.fn_ofH lk cd S ln fun A outer s H vs Q E p hp r h => bd _ A outer s H vs Q E p hp r h
end L2
namespace Zk
open PySem PySem.Spec L2
open PyProof.Rows hiding St
theorem passXN {X : Cx} : Passes (L2N.CX X.prog X.w) X (fun _ _ _ => False) := fun _ _ _ _ _ _ _ z => by
  obtain ⟨_, _, _, _, _, _, _, _, _, _, _, _, e⟩ := z
  exact e.elim
end Zk

set_option Elab.async false
set_option linter.all false
set_option maxRecDepth 100000
set_option maxHeartbeats 4000000
namespace L2
open PySem PySem.Spec PyProof.Rows
/-! ### tuples of ints compared by > -/
def rGtT (K : PySem.W.Frag) : R2 := fun x y H Q => ∃ (a b : Addr) (ns ms : List Int), x = .ref a ∧ y = .ref b ∧ SqT K H a (ns.map V.int) ∧ SqT K H b (ms.map V.int) ∧
  Q (.bl (Ob.lexAt (fun j => decide (ns.getD j 0 = ms.getD j 0)) (fun j => decide (ns.getD j 0 > ms.getD j 0)) (decide (ns.length > ms.length)) 0 (min ns.length ms.length))) H
theorem op_gtT {X : Cx} (hu : X.A.units < cLine) : OpR X (compareOp .Gt) (rGtT X.K) := by
  intro pins s σ H x y v u Q I rx ry h
  obtain ⟨a, b, ns, ms, rfl, rfl, ha, hb, q⟩ := h
  cases rx
  cases ry
  obtain ⟨its, r1, p1, _⟩ := I.tuple ha
  obtain ⟨its2, r2, p2, _⟩ := I.tuple hb
  have i1 : IntsAre its ns := Vals.ints r1
  have i2 : IntsAre its2 ms := Vals.ints r2
  have e1 : its.toArray.size = ns.length := by rw [List.size_toArray]; exact i1.length
  have e2 : its2.toArray.size = ms.length := by rw [List.size_toArray]; exact i2.length
  have at1 : ∀ j (h1 : j < its.toArray.size), ∃ t, its.toArray[j] = .int (ns.getD j 0) t := fun j h1 => PyProof.Rows.IntsAre.int_at i1 _ _ (by simp at h1; simp [h1])
  have at2 : ∀ j (h1 : j < its2.toArray.size), ∃ t, its2.toArray[j] = .int (ms.getD j 0) t := fun j h1 => PyProof.Rows.IntsAre.int_at i2 _ _ (by simp at h1; simp [h1])
  have R := Ob.RcOp.tuples_gt (A := X.A) (s := s) (e := fun j => decide (ns.getD j 0 = ms.getD j 0)) (r := fun j => decide (ns.getD j 0 > ms.getD j 0)) p1 p2 hu (fun j h1 h2 => by
    obtain ⟨t, et⟩ := at1 j h1
    obtain ⟨t', et'⟩ := at2 j h2
    rw [et, et']
    have z : (ns.getD j 0 == ms.getD j 0) = decide (ns.getD j 0 = ms.getD j 0) := by
      by_cases q : ns.getD j 0 = ms.getD j 0
      · rw [decide_eq_true q]; exact beq_iff_eq.mpr q
      · rw [decide_eq_false q]; exact beq_eq_false_iff_ne.mpr q
    rw [← z]
    exact SeqAt.EqAt.int_int _ _ _ _) (fun j h1 h2 _ => by
    obtain ⟨t, et⟩ := at1 j h1
    obtain ⟨t', et'⟩ := at2 j h2
    rw [et, et']
    exact Ob.RcOp.gt_int _ _ _ _)
  rw [e1, e2] at R
  have z : wpAny (model X.prog X.w) X.A (compareOp .Gt (.ref a) (.ref b)) (EP X pins σ Q) X.xe s := R X.prog X.w X.xe (EP X pins σ Q) ⟨.bl _, H, I, rfl, q⟩
  exact z
end L2
namespace Zk
open PySem PySem.Spec L2
theorem w_min2 {H : Hp} {Q : VK} {i j : Int} (q : Q (.int (if j < i then j else i)) H) : ∃ i' j', [V.int i, V.int j] = [V.int i', V.int j'] ∧ Q (.int (if j' < i' then j' else i')) H := ⟨i, j, rfl, q⟩
theorem w_extend {H : Hp} {Q : VK} {l b : Addr} {xs zs : List V} (h : H l = some (.lst xs)) (g : H b = some (.lst zs)) (c : xs.length + zs.length ≤ sizeLine) (q : Chg l (.lst (xs ++ zs)) H (Q .non)) : zExtend (.ref l) [.ref b] H Q := ⟨l, b, xs, zs, rfl, rfl, h, g, c, q⟩
/-- the same data in two rows -/
theorem JmAll.sj {K : PySem.W.Frag} {H : Hp} {n : Nat} : ∀ {vs us : List V} {ds : List PyData}, JmAll K H vs ds → JmAll K H us ds → (∀ d ∈ ds, d.depth < n) → Paired (Sj K n H) vs us
  | _, _, _, .nil, .nil, _ => .nil
  | _, _, _, .cons h k, .cons h' k', m => .cons (Sj.jm (m _ List.mem_cons_self) h h') (JmAll.sj k k' fun d hd => m d (List.mem_cons_of_mem _ hd))
theorem JmAll.one {K : PySem.W.Frag} {H : Hp} : ∀ {vs : List V} {ds : List PyData} {i : Nat} {v : V}, JmAll K H vs ds → vs[i]? = some v → ∃ d, ds[i]? = some d ∧ Jm K H v d
  | _, _, 0, _, .cons h _, e => by cases e; exact ⟨_, rfl, h⟩
  | _, _, i + 1, _, .cons _ k, e => JmAll.one (i := i) k e
theorem Jm.tupL {K : PySem.W.Frag} {H : Hp} {v : V} {ds : List PyData} (h : Jm K H v (.tuple ds)) : ∃ a xs, v = .ref a ∧ SqT K H a xs ∧ xs.length ≤ 1000 ∧ JmAll K H xs ds := by
  cases h with
  | tup h l k => exact ⟨_, _, rfl, h, l, k⟩
/-- a list of data -/
def KnAt (K : PySem.W.Frag) (H : Hp) (a : Addr) (ks : List PyData) : Prop := ∃ vs, H a = some (.lst vs) ∧ JmAll K H vs ks
theorem KnAt.ext {K : PySem.W.Frag} {M : List Addr} {H H' : Hp} {a : Addr} {ks : List PyData} (h : KnAt K H a ks) (e : Ext M H H') (n : a ∉ M) : KnAt K H' a ks := by
  obtain ⟨vs, h1, h2⟩ := h
  exact ⟨vs, e.keep _ _ h1 n, h2.ext e⟩
end Zk
namespace Zk
open PySem PySem.Spec L2
theorem w_listU {K : PySem.W.Frag} {H : Hp} {Q : VK} {a : Addr} {ys : List V} (h : SqT K H a ys) (q : Alc (.lst ys) H Q) : cListL K [.ref a] H Q := ⟨a, ys, rfl, .inr h, q⟩
end Zk

set_option Elab.async false
set_option linter.all false
set_option maxRecDepth 100000
set_option maxHeartbeats 4000000
namespace L2
open PySem PySem.Spec PyProof.Rows
/-! ### a method without arguments, called in an except suite; an object that may refuse to be made, made within a try -/
section
variable {X : Cx} {CX : CXT} {k n : Nat} {f C : Addr} {fd : FuncData} {ps ks : List Str} {sp : Sp} {E : St → XK} {x m : Str} {p pos apos : Pos} {e o : Expr} {es : List Expr} {kws : List Keyword} {ta : TE} {t tk : TA} {g : List Value → List Value → List Value} {gV : List V → List V → List V}
theorem pe_methH0 {pl : Sem Bool} (he : PE X o ta) (c : Cls X.K C) (hm : Meth X.K C m f) (F : L2H.FnH X.prog X.w X.K X.mg X.base CX k f fd ps sp) (hr : L2H.RoomH k X.A) (hc : L2H.HotC X) (hb : Binds X.K fd ps []) (hx : ∀ σ, PassesAt CX X σ (E σ))
    (ht : eval (.Call (.Attribute o m apos) [] [] pos) X.env = (do
      let ov ← eval o X.env
      standAt apos.atName
      let (f, first) ← holding [ov] (getMethod ov m pl)
      callWith pos f first (backTo pos (starEach [] X.env)) (backToKw pos (keywordEach [] X.env))) := by rfl) :
    PE X (.Call (.Attribute o m apos) [] [] pos) (L2H.tMethH C m sp E ta tNil) := by
  refine ⟨fun pins s σ H Q I h => ?_⟩
  refine PySem.W.methodCall_KW (pl := pl) (thn (he.run pins s σ H _ I h) fun u s1 ⟨x, H1, I1, rx, a, dx, fs, ex, ea, l, q⟩ => ?_) ht
  subst ex
  obtain rfl : u = Value.ref a := rx
  refine getmeth_ok I1 ea c hm l ?_
  exact PySem.W.callWith_K0 (first := [.ref a]) I1.kIn hm.kp (L2H.run_fnH (us := [.ref a]) (vs := [.ref a]) F hr hc hb (hx σ) I1 (.cons rfl .nil) q)
/-- C(.., k = v, ..), which may raise -/
def tMakeKT (C : Addr) (n m : Nat) (sp : Sp) (gV : List V → List V → List V) (E : St → XK) (t tk : TA) : TE := fun σ H Q => t σ H fun vs H1 => tk σ H1 fun zs H2 => vs.length = n ∧ zs.length = m ∧ ∀ x dx, H2 x = none → H2 dx = none → dx ≠ x →
  sp (gV (.ref x :: vs) zs) (upd (upd H2 dx (.own x)) x (.ins C dx [])) (fun v H3 => v = .non ∧ Q (.ref x) H3) (E σ)
theorem run_makeKT {pins : List (Addr × Obj)} {σ : St} {H : Hp} {s : Shared} {Q : VK} {us ws : List Value} {vs zs : List V} (M : Mk X.K C f) (F : FnOk X.prog X.w X.K X.mg X.base CX k f fd ps sp) (hr : Room (k + 1) X.A) (hb : KBn X.K fd ps (n + 1) ks g gV) (hx : PassesAt CX X σ (E σ))
    (I : Inv X pins σ H s) (r : Vals vs us) (rz : Vals zs ws) (l1 : vs.length = n) (l2 : zs.length = ks.length)
    (h : ∀ x dx, H x = none → H dx = none → dx ≠ x → sp (gV (.ref x :: vs) zs) (upd (upd H dx (.own x)) x (.ins C dx [])) (fun v H2 => v = .non ∧ Q (.ref x) H2) (E σ)) :
    wpAny (model X.prog X.w) X.A (call (.ref C) us (ks.zip ws)) (EP X pins σ Q) X.xe s := by
  have hq := h (s.heap.objs.size + 1) s.heap.objs.size (I.hok.fresh (Nat.le_succ _)) (I.hok.fresh (Nat.le_refl _)) (Nat.ne_of_lt (Nat.lt_succ_self _))
  have I2 := Inv.made (C := C) I
  have r1 : Vals (V.ref (s.heap.objs.size + 1) :: vs) (Value.ref (s.heap.objs.size + 1) :: us) := .cons rfl r
  have r2 := hb.rel r1 rz
  have n1 : (Value.ref (s.heap.objs.size + 1) :: us).length = n + 1 := by
    rw [List.length_cons, ← r.length, l1]
  refine wpAny_call (make_map (f := f) I.kIn M.makes M.init (beq_iff_eq.mp M.fn) (codeAny_mono (F.run _ X.stack _ _ ⟨Value.ref (s.heap.objs.size + 1) :: us, ks.zip ws⟩ (g (Value.ref (s.heap.objs.size + 1) :: us) ws) _ _ (E σ) (hr.make C us (ks.zip ws))
    (I2.env0.make C us (ks.zip ws)) (hb.to _ (Value.ref (s.heap.objs.size + 1) :: us) ws I2.kIn n1 (rz.length.symm.trans l2)) r2 hq) fun r s' hq' => ?_))
  cases r with
  | error e => exact hx pins _ _ e s' I2 hq'
  | ok fl =>
    cases fl with
    | ret u =>
      obtain ⟨v, H', I3, rv, ev, q3⟩ := I2.after hq'
      subst ev
      exact ⟨rv, ⟨V.ref (s.heap.objs.size + 1), H', I3, rfl, q3⟩⟩
    | next => exact False.elim hq'
    | brk => exact False.elim hq'
    | cont => exact False.elim hq'
theorem pe_makeKT (M : Mk X.K C f) (F : FnOk X.prog X.w X.K X.mg X.base CX k f fd ps sp) (hr : Room (k + 1) X.A) (hg : Gl X x) (hm : X.mg x = some (.ref C)) (hb : KBn X.K fd ps (n + 1) ks g gV) (hx : ∀ σ, PassesAt CX X σ (E σ)) (ha : PA X (e :: es) t) (hkw : PK X kws tk)
    (hall : (backToKw pos (keywordEach kws X.env)).all (·.1.isSome) = true := by rfl) (hks : (backToKw pos (keywordEach kws X.env)).filterMap (·.1) = ks := by rfl) (hdb : (x == ("__debug__" : Str)) = false := by decide)
    (he : starEach (e :: es) X.env = (false, eval e X.env) :: starEach es X.env := by rfl) (hpl : ((backTo pos (starEach (e :: es) X.env)).any (·.1) || (backToKw pos (keywordEach kws X.env)).any (·.1.isNone)) = false := by rfl) :
    PE X (.Call (.Name x p) (e :: es) kws pos) (tMakeKT C n ks.length sp gV E t tk) := by
  refine ⟨fun pins s σ H Q I h => ?_⟩
  refine wpAny_Call_Name_kw (ld_glob I hg hm ?_ hdb)
  refine PySem.W.callWith_KW (h₀ := X.base) I.ok.mod.kin M.kp hall (thn (ha.run pos pins s σ H _ I h) fun us s1 ⟨vs, H1, I1, r, q⟩ => ?_) hpl he
  refine thn (hkw.run pos pins s1 σ H1 _ I1 q) fun ws s2 ⟨zs, H2, I2, rz, l1, l2, q2⟩ => ⟨I2.kIn, ?_⟩
  rw [hks]
  exact run_makeKT M F hr hb (hx σ) I2 r rz l1 l2 q2
end
end L2
namespace Zk
open PySem PySem.Spec L2
open PyProof.Rows hiding St
/-- for i, x in enumerate(list) -/
theorem z_for_enumL {xs : List V} {a : Addr} {K : PySem.W.Frag} {t : TS} {nx : L2.St → Hp → Prop} {rt : VK} {σ : L2.St} {H : Hp} {g : TG} (Pv : Nat → L2.St → Hp → Prop) (h0 : Pv 0 σ H) (hl : ∀ i σ H, i ≤ xs.length → Pv i σ H → SqL K H a xs)
    (hs : ∀ (N : L2.St → Hp → Prop) i x σ H, xs[i]? = some x → Pv i σ H → (∀ σ' H', Pv (i + 1) σ' H' → N σ' H') → ∀ T H', Ext [] H H' → H T = none → H' T = some (.tup [.int (i : Nat), x]) → g (.ref T) σ H' fun σ2 H2 => t ⟨N, rt, nx, N⟩ σ2 H2) (hd : ∀ σ H, Pv xs.length σ H → nx σ H) :
    ∃ W : Nat → Nat → L2.St → Hp → Prop, (∃ m, W 0 m σ H) ∧ ∀ i m σ H, W i m σ H →
      ((Ite K a).stop i H ∧ nx σ H) ∨ ((Ite K a).go i H ∧ ∃ N : L2.St → Hp → Prop, (∀ σ' H', N σ' H' → ∃ m', m' < m ∧ W (i + 1) m' σ' H') ∧ ∀ x H', (Ite K a).yld i H x H' → g x σ H' fun σ2 H2 => t ⟨N, rt, nx, N⟩ σ2 H2) := by
  refine ⟨fun i m σ H => m = xs.length - i ∧ i ≤ xs.length ∧ Pv i σ H, ⟨_, rfl, Nat.zero_le _, h0⟩, ?_⟩
  rintro i m σ H ⟨rfl, hi, p⟩
  by_cases hlt : i < xs.length
  · have hx : xs[i]? = some xs[i] := List.getElem?_eq_getElem hlt
    refine .inr ⟨⟨xs, _, hl i σ H hi p, hx⟩, Pv (i + 1), fun σ' H' p' => ⟨xs.length - (i + 1), by omega, rfl, hlt, p'⟩, fun v H' y => ?_⟩
    obtain ⟨T, x, rfl, nT, rfl, hx'⟩ := y
    have e := hx' xs (hl i σ H hi p)
    exact hs (Pv (i + 1)) i x σ H e p (fun _ _ q => q) T _ (Ext.new nT) nT upd_same
  · have e : i = xs.length := by omega
    subst e
    exact .inl ⟨⟨xs, hl _ σ H hi p, Nat.le_refl _⟩, hd σ H p⟩
end Zk

set_option Elab.async false
set_option linter.all false
set_option maxRecDepth 100000
set_option maxHeartbeats 4000000
/-! what runs while an exception is handled: a list walked, a dict's keys collected and sorted, a list comprehension -/
namespace HotX
open PySem PySem.Spec PySem.Calls PyProof.Rows
section
variable {prog : Program} {w : World} {A : Around} {E : Value → Shared → Prop} {s : Shared}
theorem pyNext_list_end_hot {it l x1 : Addr} {i : Nat} {items} {Q : Option Value → Shared → Prop} (hot : HotAt A x1 s.heap) (ne : x1 ≠ it)
    (hit : s.heap.IsListIter it l i) (hl : s.heap.IsList l items) (hx : items[i]? = none)
    (hQ : ∀ h', Heap.ExtBut it s.heap h' → Q none { s with heap := h' }) : wpAny (model prog w) A (pyNext (.ref it)) Q E s := by
  obtain ⟨o, ho, hc, hd⟩ := id hit
  obtain ⟨ol, hol, _, nl, hdl⟩ := hl
  obtain ⟨hh, o1, vs1, h1, d1, c1⟩ := hot
  unfold pyNext
  refine wpAny_bind (wpAny_attempt (wpAny_callSpecial?_slot (name := Str.ofString "__next__") hit.typeIs slot_listiter_next
    (wpAny_call_entry slot_listiter_next hit.typeIs entry_listiter_next ?_ (args_listiter_next _))))
  show wpAny _ _ (field (.ref it) 0 >>= _) _ _ s
  refine wpAny_bind (wpAny_field ho hd (x := .ref l) rfl ?_)
  show wpAny _ _ (if (Value.ref l == Value.none) = true then _ else _) _ _ s
  rw [if_neg (show ¬ ((Value.ref l == Value.none) = true) from Bool.false_ne_true)]
  show wpAny _ _ (field (.ref it) 1 >>= _) _ _ s
  refine wpAny_bind (wpAny_field ho hd (x := .int i 0) rfl ?_)
  show wpAny _ _ (seqItems? (.ref l) >>= _) _ _ s
  refine wpAny_bind (wpAny_seqItems hol hdl ?_)
  simp only [Int.toNat_natCast, hx]
  refine wpAny_bind (wpAny_rule (wpAny_bind (wpAny_setField ho hd (by simp) ?_)))
  have h2 := (Heap.get?_update_other s.heap (Obj.mapFields (·.setIfInBounds 0 .none)) (Ne.symm ne)).trans h1
  show wpAny _ _ (newExc (.type "StopIteration") [] >>= _) _ _ _
  refine wpAny_bind ?_
  simp only [newExc, newTuple]
  refine wpAny_bind (wpAny_newObj_type ?_ (by size_fits))
  refine wpAny_bind (m := firstArgMember _ _) (wpAny_of_eq (a := Value.none) (by first | rfl | (simp only [firstArgMember]; rfl)) ?_)
  refine wpAny_newObj_type ?_ (by size_fits)
  refine raiseNew_hot ⟨hh, o1, vs1, Heap.get?_push_of_some _ (Heap.get?_push_of_some _ h2), d1, c1⟩ (Nat.ne_of_lt (Heap.lt_size (Heap.get?_push_of_some _ h2))) (Heap.get?_push_size _ rfl) rfl (by first | (simp; done) | (simp; omega) | (simp only [Array.size_append]; simp; omega)) ?_
  refine wpAny_bind (wpAny_isInstance (T := "StopIteration") (b := true) ⟨_, Heap.get?_update_self _ (Heap.get?_push_size _ rfl) rfl, rfl⟩ isSubtype_stop ?_)
  refine wpAny_pure (hQ _ fun b u hb e => ?_)
  have e2 := (Heap.SameBut.update s.heap it (Obj.mapFields (·.setIfInBounds 0 .none))).extBut b u hb e
  rw [Heap.get?_update_other _ _ (Nat.ne_of_gt (Heap.lt_size (Heap.get?_push_of_some _ e2)))]
  exact Heap.get?_push_of_some _ (Heap.get?_push_of_some _ e2)
theorem pyNext_dict_end_hot {K : Type} [DecidableEq K] {knd : KeyKind prog w K} {it d x1 : Addr} {i ep : Nat} {kvs : List (K × Value)} {Q : Option Value → Shared → Prop} (hot : HotAt A x1 s.heap) (ne : x1 ≠ it) (hit : s.heap.IsKeyIter it d i kvs.length ep)
    (hm : s.heap.DictAt knd d kvs ep) (hx : kvs[i]? = none)
    (hQ : ∀ h', Heap.ExtBut it s.heap h' → Q none { s with heap := h' }) : wpAny (model prog w) A (pyNext (.ref it)) Q E s := by
  obtain ⟨o, ho, hc, hd⟩ := id hit
  obtain ⟨od, es, hod, hcd, hdd, hk, hp, hn⟩ := id hm
  obtain ⟨hh, o1, vs1, h1, d1, c1⟩ := hot
  unfold pyNext
  refine wpAny_bind (wpAny_attempt (wpAny_callSpecial?_slot (name := Str.ofString "__next__") hit.typeIs F.slot_dict_keyiterator_next
    (wpAny_call_entry F.slot_dict_keyiterator_next hit.typeIs F.entry_dict_keyiterator_next ?_ (F.args_dict_keyiterator_next_1 _))))
  refine wpAny_bind (wpAny_pure ?_)
  refine wpAny_bind ?_
  refine wpAny_bind ?_
  first | refine wpAny_bind (wpAny_typeNameOfWhole_keyiter hit.typeIs (wpAny_pure ?_)) | refine wpAny_bind (wpAny_typeNameOf_keyiter hit.typeIs (wpAny_pure ?_))
  refine wpAny_bind (wpAny_fieldsOf ho hd ?_)
  have hown : Builtin.Dict_items.ownsTuple "dict_keyiterator" = false := by decide
  simp only [hown, Bool.false_eq_true, if_false]
  show wpAny _ _ (if (Value.ref d == Value.none) = true then _ else _) _ _ s
  rw [if_neg (show ¬ ((Value.ref d == Value.none) = true) from Bool.false_ne_true)]
  refine wpAny_bind (wpAny_pure ?_)
  refine wpAny_bind (wpAny_dictEntries hod hdd ?_)
  have hsz : es.size = kvs.length := by rw [← hp.length]; simp
  rw [if_neg (by rw [hsz]; simp)]
  refine wpAny_bind (wpAny_pure ?_)
  refine wpAny_bind (wpAny_dictEpoch hod hdd ?_)
  rw [if_neg (by simp)]
  refine wpAny_pure ?_
  have hge : es.size ≤ i := by rw [hsz]; simpa using hx
  simp only [show ¬ ((i : Int) < 0) from by omega, if_false, Int.toNat_natCast, Array.getElem?_eq_none hge]
  refine wpAny_bind ?_
  first | refine wpAny_bind (wpAny_typeNameOfWhole_keyiter hit.typeIs (wpAny_pure ?_)) | refine wpAny_bind (wpAny_typeNameOf_keyiter hit.typeIs (wpAny_pure ?_))
  show wpAny _ _ (setField (.ref it) 0 .none >>= _) _ _ s
  refine wpAny_bind (wpAny_setField ho hd (by simp) ?_)
  have h2 := (Heap.get?_update_other s.heap (Obj.mapFields (·.setIfInBounds 0 .none)) (Ne.symm ne)).trans h1
  show wpAny _ _ (newExc (.type "StopIteration") [] >>= _) _ _ _
  refine wpAny_bind ?_
  simp only [newExc, newTuple]
  refine wpAny_bind (wpAny_newObj_type ?_ (by size_fits))
  refine wpAny_bind (m := firstArgMember _ _) (wpAny_of_eq (a := Value.none) (by first | rfl | (simp only [firstArgMember]; rfl)) ?_)
  refine wpAny_newObj_type ?_ (by size_fits)
  refine raiseNew_hot ⟨hh, o1, vs1, Heap.get?_push_of_some _ (Heap.get?_push_of_some _ h2), d1, c1⟩ (Nat.ne_of_lt (Heap.lt_size (Heap.get?_push_of_some _ h2))) (Heap.get?_push_size _ rfl) rfl (by first | (simp; done) | (simp; omega) | (simp only [Array.size_append]; simp; omega)) ?_
  refine wpAny_bind (wpAny_isInstance (T := "StopIteration") (b := true) ⟨_, Heap.get?_update_self _ (Heap.get?_push_size _ rfl) rfl, rfl⟩ isSubtype_stop ?_)
  refine wpAny_pure (hQ _ fun b u hb e => ?_)
  have e2 := (Heap.SameBut.update s.heap it (Obj.mapFields (·.setIfInBounds 0 .none))).extBut b u hb e
  rw [Heap.get?_update_other _ _ (Nat.ne_of_gt (Heap.lt_size (Heap.get?_push_of_some _ e2)))]
  exact Heap.get?_push_of_some _ (Heap.get?_push_of_some _ e2)
end
end HotX
namespace PySem.W
open PySem PySem.Calls PyProof.Rows PyProof.V PySem.Spec HotX
section
variable {prog : Program} {w : World} {A : Around} {E : Value → Shared → Prop} {s : Shared} {K : Type} [DecidableEq K] {knd : KeyKind prog w K} {d x1 : Addr} {kvs : List (K × Value)} {ep : Nat}
theorem hot_keeps {h h' : Heap} (hot : HotAt A x1 h) (k : ∀ o, h.get? x1 = some o → h'.get? x1 = some o) : HotAt A x1 h' := by
  obtain ⟨hh, o, vs, h1, d, c⟩ := hot
  exact ⟨hh, o, vs, k o h1, d, c⟩
theorem walks_keysH (I d : Addr) (hne : d ≠ I) (hx : x1 ≠ I) (kvs : List (K × Value)) (ep : Nat) :
    Walks prog w A I [I, d, x1] [I] kvs.length (fun i v => ∃ k x, kvs[i]? = some (k, x) ∧ knd.is k v = true) (fun i h => h.IsKeyIter I d i kvs.length ep ∧ h.DictAt knd d kvs ep ∧ HotAt A x1 h) where
  sub := fun b hb => by simp at hb; simp [hb]
  frame := fun _ _ _ st hk => ⟨st.1.at fun o e => hk I (by simp) o e, st.2.1.at' fun o e => hk d (by simp) o e, hot_keeps st.2.2 fun o e => hk x1 (by simp) o e⟩
  item := fun i s Q E hi st hQ => by
    obtain ⟨⟨k, x⟩, hx2⟩ : ∃ p, kvs[i]? = some p := ⟨kvs[i], by simp [hi]⟩
    refine wpAny_pyNext_dict_item st.1 st.2.1 hx2 fun key h' hkey hit' hs' => ?_
    exact hQ key h' s.toks ⟨k, x, hx2, hkey⟩ ⟨hit', st.2.1.extBut hs'.extBut hne, hot_keeps st.2.2 fun o e => hs'.extBut x1 o hx e⟩ fun b o hb e => hs'.extBut b o (fun h => hb (by simp [h])) e
  done := fun s Q E st hQ => pyNext_dict_end_hot st.2.2 hx st.1 st.2.1 (by simp) fun h' he' => hQ h' s.toks fun b o hb e => he' b o (fun h => hb (by simp [h])) e
  self := fun _ _ _ _ st hQ => wpAny_pyIter_keyiter st.1 hQ
theorem extend_keysH {R : Result → Shared → Prop} (lo : (d == sysModules) = false) (hm : s.heap.DictAt knd d kvs ep) (hot : HotAt A x1 s.heap) (S : Addr) (hSd : S ≠ d) (hSx : S ≠ x1) (res : Value) (c₀ : Nat) (hS : s.heap.get? S = some { cls := .type "list", data := .seq #[] c₀ })
    (hR : ∀ h' tk acc' c', (∀ b o, b ≠ S → s.heap.get? b = some o → h'.get? b = some o) → h'.get? S = some { cls := .type "list", dict := none, data := .seq acc' c', slots := #[] } → ItemsOf (fun i v => ∃ k x, kvs[i]? = some (k, x) ∧ knd.is k v = true) acc' kvs.length → R (.ok (.ret res)) { s with heap := h', toks := tk }) (hn : kvs.length ≤ sizeLine) :
    wpAny (model prog w) A.in1 (Builtin.List.listExtendWith (.ref S) (.ref d) res)
      (fun fin s' => match fin with | .done f => R (.ok f) s' | .again c' => c'.quiet = true ∧ codeAny (model prog w) A c' R s') (fun e s' => R (.error e) s') s := by
  have hSI : S ≠ s.heap.objs.size := Nat.ne_of_lt (Heap.lt_size hS)
  obtain ⟨hh0, ox, vx, hx0, hx1, hx2⟩ := id hot
  have hxI : x1 ≠ s.heap.objs.size := Nat.ne_of_lt (Heap.lt_size hx0)
  have hSf : S ∉ [s.heap.objs.size, d, x1] := by simp only [List.mem_cons, List.not_mem_nil, or_false, not_or]; exact ⟨hSI, hSd, hSx⟩
  have W : Walks prog w A.in1 s.heap.objs.size [s.heap.objs.size, d, x1] [s.heap.objs.size] kvs.length (fun i v => ∃ k x, kvs[i]? = some (k, x) ∧ knd.is k v = true) (fun i h => h.IsKeyIter s.heap.objs.size d i kvs.length ep ∧ h.DictAt knd d kvs ep ∧ HotAt A.in1 x1 h) := walks_keysH s.heap.objs.size d (Nat.ne_of_lt hm.lt_size) hxI kvs ep
  have key : ∀ (h : Heap) (c₁ tk : Nat), (h.IsKeyIter s.heap.objs.size d 0 kvs.length ep ∧ h.DictAt knd d kvs ep ∧ HotAt A.in1 x1 h) → (∀ b o, b ≠ S → s.heap.get? b = some o → h.get? b = some o) →
      h.get? S = some { cls := .type "list", data := .seq #[] c₁ } → codeAny (model prog w) A (.builtin "list.extend.loop" ⟨[.ref S, .ref s.heap.objs.size, res], []⟩) R { s with heap := h, toks := tk } := by
    intro h c₁ tk hst hk hS₁
    refine codeAny_extend_loopS W.toS hn S hSf res kvs.length 0 _ #[] c₁ rfl (Nat.zero_le _) hst hS₁ (ItemsOf.nil _) fun s' acc' c' hm' hS' hacc => ?_
    rw [Moved.eq_with hm']
    refine hR s'.heap s'.toks acc' c' (fun b o hb e => hm'.heap b o (fun hmem => ?_) (hk b o hb e)) hS' hacc
    rcases List.mem_cons.mp hmem with e' | hmem
    · exact hb e'
    · exact absurd (Heap.lt_size e) (by rw [List.mem_singleton.mp hmem]; exact Nat.lt_irrefl _)
  unfold Builtin.List.listExtendWith
  refine wpAny_bind (wpAny_typeOf (T := "dict") hm.dictOf.typeIs ?_)
  have h1 : Builtin.List.listSameRef (.ref S) (.ref d) = false := by simp [Builtin.List.listSameRef, hSd]
  have n1 : (Value.type "dict" == Value.type "list") = false := by decide
  have n2 : (Value.type "dict" == Value.type "tuple") = false := by decide
  simp only [h1, n1, n2, Bool.or_false, Bool.false_eq_true, if_false]
  refine wpAny_bind (wpAny_pyIter_dict lo hm ?_)
  have st : (s.heap.push { cls := .type "dict_keyiterator", data := .fields #[.ref d, .int 0 0, .int kvs.length 0, .int ep 0] }).IsKeyIter s.heap.objs.size d 0 kvs.length ep ∧ (s.heap.push { cls := .type "dict_keyiterator", data := .fields #[.ref d, .int 0 0, .int kvs.length 0, .int ep 0] }).DictAt knd d kvs ep ∧ HotAt A.in1 x1 (s.heap.push { cls := .type "dict_keyiterator", data := .fields #[.ref d, .int 0 0, .int kvs.length 0, .int ep 0] }) :=
    ⟨⟨_, Heap.get?_push_size _ rfl, rfl, rfl⟩, hm.push _, hot_keeps hot fun o e => Heap.get?_push_of_some _ e⟩
  have hS₁ := Heap.get?_push_of_some { cls := .type "dict_keyiterator", data := .fields #[.ref d, .int 0 0, .int kvs.length 0, .int ep 0] } hS
  have hk0 : ∀ b o, s.heap.get? b = some o → (s.heap.push { cls := .type "dict_keyiterator", data := .fields #[.ref d, .int 0 0, .int kvs.length 0, .int ep 0] }).get? b = some o := fun b o e => Heap.get?_push_of_some _ e
  generalize s.heap.push { cls := .type "dict_keyiterator", data := .fields #[.ref d, .int 0 0, .int kvs.length 0, .int ep 0] } = hp at st hS₁ hk0 ⊢
  refine wpAny_bind (wpAny_holding (kdl_hint_dict st.2.1.dictOf.typeIs ?_))
  refine wpAny_ite_split (fun _ => ?_) (fun _ => wpAny_pure ⟨plainId_quiet PySem.F.plain_extend_loop _, key _ c₀ _ st (fun b o _ e => hk0 b o e) hS₁⟩)
  refine wpAny_bind (wpAny_rule ?_)
  refine wpAny_bind ?_
  show wpAny _ _ (updateSeq S (·.push .none) >>= fun _ => updateSeq S (·.pop)) _ _ _
  refine wpAny_bind (wpAny_updateSeq hS₁ rfl ?_)
  have hS₂ := Heap.get?_update_self (Obj.mapSeq (·.push Value.none)) hS₁ rfl
  refine wpAny_updateSeq (hz := by seq_fits) hS₂ rfl ?_
  have hS₃ := Heap.get?_update_self (Obj.mapSeq (·.pop)) hS₂ rfl
  refine wpAny_pure ⟨plainId_quiet PySem.F.plain_extend_loop _, key _ _ _ ?_ (fun b o hb e => ?_) hS₃⟩
  · refine W.frame 0 _ _ st fun b hb o e => ?_
    have hbS : b ≠ S := fun h => hSf (h ▸ hb)
    exact (Heap.get?_update_other _ _ (Ne.symm hbS)).trans ((Heap.get?_update_other _ _ (Ne.symm hbS)).trans e)
  · exact (Heap.get?_update_other _ _ (Ne.symm hb)).trans ((Heap.get?_update_other _ _ (Ne.symm hb)).trans (hk0 b o e))
theorem collect_keysH {R : List Value → Shared → Prop} (lo : (d == sysModules) = false) (hm : s.heap.DictAt knd d kvs ep) (hot : HotAt A x1 s.heap) (hn : kvs.length ≤ sizeLine)
    (h : ∀ (h' : Heap) (tk : Nat) (acc : Array Value), (∀ b o, s.heap.get? b = some o → h'.get? b = some o) → ItemsOf (fun i v => ∃ k x, kvs[i]? = some (k, x) ∧ knd.is k v = true) acc kvs.length → R acc.toList { s with heap := h', toks := tk }) :
    wpAny (model prog w) A (collect (.ref d)) R E s := by
  obtain ⟨hh0, ox, vx, hx0, hx1, hx2⟩ := id hot
  unfold collect
  refine wpAny_bind (wpAny_runValue (codeAny_builtin entry_proto_collect' ?_))
  rw [Around.under_plainId PySem.F.plain_proto_collect _]
  show wpAny _ A.in1 (newList [] >>= fun l => again (.builtin "list.__iadd__" ⟨[l, .ref d], []⟩)) _ _ s
  refine wpAny_bind (wpAny_newObj_type ?_)
  refine wpAny_pure ⟨plainId_quiet PySem.F.plain_list_iadd _, codeAny_builtin entry_list_iadd' ?_⟩
  rw [Around.under_plainId PySem.F.plain_list_iadd _]
  have hS₁ : (s.heap.push { cls := .type "list", data := .seq ([] : List Value).toArray }).get? s.heap.objs.size = some { cls := .type "list", data := .seq #[] } := Heap.get?_push_size _ rfl
  show wpAny _ A.in1 (Builtin.List.listExtendWith (.ref s.heap.objs.size) (.ref d) (.ref s.heap.objs.size)) _ _ _
  have key := extend_keysH (A := A) (s := { s with heap := s.heap.push { cls := .type "list", data := .seq ([] : List Value).toArray } })
    (R := fun (q : Result) (s' : Shared) => ∃ (h' : Heap) (tk : Nat) (acc' : Array Value) (c' : Nat), q = .ok (.ret (.ref s.heap.objs.size)) ∧ s' = { s with heap := h', toks := tk } ∧
      (∀ b o, s.heap.get? b = some o → h'.get? b = some o) ∧ h'.get? s.heap.objs.size = some { cls := .type "list", dict := none, data := .seq acc' c', slots := #[] } ∧ ItemsOf (fun i v => ∃ k x, kvs[i]? = some (k, x) ∧ knd.is k v = true) acc' kvs.length)
    lo (hm.push _) (hot_keeps hot fun o e => Heap.get?_push_of_some _ e) s.heap.objs.size (Nat.ne_of_gt hm.lt_size) (Nat.ne_of_gt (Heap.lt_size hx0)) (.ref s.heap.objs.size) 0 hS₁
    (fun h' tk acc' c' hk hS' hacc => ⟨h', tk, acc', c', rfl, rfl, fun b o e => hk b o (Nat.ne_of_lt (Heap.lt_size e)) (Heap.get?_push_of_some _ e), hS', hacc⟩) hn
  refine wpAny_mono key (fun fin s' x => ?_) fun e s' x => ?_
  · cases fin with
    | done f =>
      obtain ⟨h', tk, acc', c', e, rfl, hk, hS', hacc⟩ := x
      cases e
      show wpAny _ A (load s.heap.objs.size >>= _) _ _ _
      refine wpAny_bind (wpAny_load hS' ?_)
      exact wpAny_pure (h h' tk acc' hk hacc)
    | again c₁ =>
      refine ⟨x.1, codeAny_mono x.2 fun q s₂ y => ?_⟩
      obtain ⟨h', tk, acc', c', rfl, rfl, hk, hS', hacc⟩ := y
      show wpAny _ A (load s.heap.objs.size >>= _) _ _ _
      refine wpAny_bind (wpAny_load hS' ?_)
      exact wpAny_pure (h h' tk acc' hk hacc)
  · obtain ⟨_, _, _, _, e', _⟩ := x
    cases e'
end
end PySem.W
namespace L2
open PySem PySem.Spec PyProof.Rows HotX
section
variable {X : Cx}
/-- sorted(d) of a dict with fewer than 64 keys, all texts, while an exception is handled -/
theorem call_sortedDH (hc : L2H.HotC X) : CallR X (.builtin "sorted") (fun xs H Q => ∃ (a : Addr) (kvs : List (Key × V)) (ks : List Str), xs = [.ref a] ∧ Rd H a (.dK kvs) ∧ kvs.map (·.1) = ks.map Sum.inr ∧ ks.length < 64 ∧
    ∀ ys p, ys.Perm ks → sortedS ys = true → H p = none → Q (.ref p) (upd H p (.lst (ys.map V.str)))) := by
  intro pins s σ H xs us Q I r q
  obtain ⟨x1, hot⟩ := hc.at I
  obtain ⟨a, kvs, ks, ex, hd, hks, h64, q⟩ := q
  subst ex
  obtain ⟨u, eu, rx⟩ := vals1 r
  subst eu
  cases rx
  obtain ⟨z, lo, vs, rel, dd⟩ := dk_rd I.hok hd
  obtain ⟨ep, hat⟩ := dd.dictAt
  have hkeys : vs.map (·.1) = ks.map Sum.inr := rel.keys.symm.trans hks
  have hl : vs.length = ks.length := by
    have e := congrArg List.length hkeys
    rw [List.length_map, List.length_map] at e
    exact e
  have h16 : vs.length ≤ sizeLine := by rw [hl, sizeLine_eq]; omega
  refine Calls.call_function_entry PyProof.Rows.kind_sorted PyProof.Rows.plain_sorted PyProof.Rows.entry_sorted (PyProof.Rows.args_sorted1 _) ?_
  unfold Builtin.«sorted»
  refine wpAny_bind (m := checkCount "sorted" 1 1 _) (wpAny_pure ?_)
  refine wpAny_bind (PySem.W.collect_keysH (A := X.A.in1) (knd := mixKind X.prog X.w) (kvs := vs) (ep := ep) lo hat hot h16 fun h' tk acc hk hacc => ?_)
  have hal : acc.toList.length = ks.length := by rw [Array.length_toList, hacc.1, hl]
  have hS : StrsAre acc.toList ks := strs_at hal fun j v e => by
    obtain ⟨k, x, e1, e2⟩ := hacc.2 j v (by rw [← Array.getElem?_toList]; exact e)
    have e3 : (vs.map (·.1))[j]? = some k := by rw [List.getElem?_map, e1]; all_goals rfl
    rw [hkeys, List.getElem?_map] at e3
    cases e4 : ks[j]? with
    | none => rw [e4] at e3; cases e3
    | some y =>
      rw [e4] at e3
      have e5 : Sum.inr y = k := Option.some.inj e3
      subst e5
      obtain ⟨t, ev⟩ := Value.isStrOf_shape (x := y) (v := v) e2
      exact ⟨y, t, rfl, ev⟩
  have I1 : Inv X pins σ H { s with heap := h', toks := tk } := I.kept hk
  refine wpAny_bind (wpAny_newList ?_ (by rw [hal, sizeLine_eq]; omega))
  have hoL : (h'.push (seqObj "list" acc.toList.toArray 0)).get? h'.objs.size = some (seqObj "list" acc.toList.toArray 0) := Heap.get?_push_size _ rfl
  show wpAny _ _ _ _ _ { s with heap := h'.push (seqObj "list" acc.toList.toArray 0), toks := tk }
  refine wpAny_bind (wpAny_holding (wpAny_call_entry PyProof.Rows.slot_list_sort ⟨_, hoL, rfl⟩ PyProof.Rows.entry_list_sort
    (list_sort_treeK strKind_oneLt (s := { s with heap := h'.push (seqObj "list" acc.toList.toArray 0), toks := tk }) hoL hS.keysOf (fun v₁ v₂ rest e => keyKind_strs (by rw [← e]; exact hS)) (by rw [hal]; exact h64) fun st' hp hs => ⟨_, rfl, ?_⟩)
    (PyProof.Rows.args_list_sort _)))
  obtain ⟨ys, g1, g2, g3⟩ := sorted_out_str hS hp hs
  obtain ⟨e', he'⟩ := PyProof.Rows.sortedHeap_at (vs := acc.toList) (out := (arrOf st').map (·.2)) hoL
  have hlen : (ys.map V.str).length ≤ sizeLine := by
    rw [List.length_map, g2.length_eq]
    exact Nat.le_trans (Nat.le_of_lt h64) (by decide)
  refine wpAny_pure ⟨_, rfl, .ref h'.objs.size, upd H h'.objs.size (.lst (ys.map V.str)), I1.laid (t' := tk) (fun b u e => ?_) (Nat.le_refl _)
    (show ObjOk X.prog X.w _ _ _ (.lst (ys.map V.str)) from ⟨hlen, ((arrOf st').map (·.2)).toList, e', vals_of_strs g1, by rw [Array.toArray_toList]; exact he'⟩), rfl, q ys _ g2 g3 (I1.hok.fresh (Nat.le_refl _))⟩
  have hb : b < h'.objs.size := Heap.lt_size e
  rw [PyProof.Rows.sortedHeap_old (Nat.ne_of_lt hb) (by rw [size_push']; exact Nat.lt_succ_of_lt hb)]
  exact Heap.get?_push_of_some _ e
end
end L2
namespace Zk
open PySem PySem.Spec L2
open PyProof.Rows hiding St
theorem zc_sortDH {X : Cx} (hc : L2H.HotC X) : CallR X (.builtin "sorted") cSortD := by
  intro pins s σ H xs us Q I r h
  obtain ⟨a, kvs, ks, e, h1, h2, h3, q⟩ := h
  exact call_sortedDH hc pins s σ H xs us Q I r ⟨a, kvs, ks, e, h1, h2, h3, fun ys p hp hs np => q ys hp hs p np⟩
end Zk
namespace L2
open PySem PySem.Spec PyProof.Rows HotX L2H
/-! ### a list, walked while an exception is handled -/
theorem turn_listH {P : Program} {w : World} {K : PySem.W.Frag} {tg : Expr} (a it : Addr) : L2H.TurnH P w K tg (Itl K a) [it] it (fun i h => h.IsListIter it a i) where
  mem := by simp
  obj := (turn_list (P := P) (w := w) (K := K) (tg := tg) a it).obj
  keep := (turn_list (P := P) (w := w) (K := K) (tg := tg) a it).keep
  item := by
    intro X hP hw hK hc i pins s σ H E I hf st hg
    subst hP hw hK
    obtain ⟨xs, x, hq, hx⟩ := hg
    obtain ⟨its, rv, p, hz⟩ := I.list hq
    obtain ⟨u, hu, ru⟩ := rv.get hx
    obtain ⟨f0, f1, f2, f3, f4, f5⟩ := hf it (by simp)
    refine wpAny_pyNext_list_item st p.isList (x := u) (by simpa using hu) fun h' st' sb => ?_
    have I1 : Inv X pins σ H { s with heap := h' } := I.turned (t' := s.toks) (fun b o hb e => (sb.2 b hb).trans e) f0 f1 f3 f4 f5
    obtain ⟨o, e, c, d⟩ := id st'
    exact ⟨u, rfl, go_of (s := { s with heap := h' }) e c d (by decide) ⟨x, H, I1, ru, ⟨rfl, fun ys hy => by rw [I.list_inj hy hq]; exact hx⟩, st', fun b hb => (hf b hb).1⟩⟩
  done := by
    intro X hP hw hK hc i pins s σ H E I hf st hg
    subst hP hw hK
    obtain ⟨p0, hot1, hp0⟩ := id hc
    obtain ⟨xs, hq, hx⟩ := hg
    obtain ⟨its, rv, p, hz⟩ := I.list hq
    obtain ⟨f0, f1, f2, f3, f4, f5⟩ := hf it (by simp)
    have hl := rv.length
    obtain ⟨hh, vs, hd, hv⟩ := hot1
    have P1 := I.pin p0 (List.mem_append_left _ hp0)
    exact pyNext_list_end_hot (x1 := p0.1) ⟨hh, p0.2, vs, P1.1, hd, hv⟩ (f5 p0 (List.mem_append_left _ hp0)) st p.isList (by simp; omega) fun h' eb => ⟨rfl, I.turned (t' := s.toks) (fun b o hb e => eb b o hb e) f0 f1 f3 f4 f5⟩
  self := fun _ _ _ _ _ st h => wpAny_pyIter_listiter st h
section
variable {X : Cx} {tg : Expr}
theorem pi_listH {l : Expr} {tl : TE} (hl : PE X l tl) : L2H.PIH X tg l (iList X.K tl) := by
  refine ⟨fun pins s σ H R I h => ?_⟩
  refine thn (hl.run pins s σ H _ I h) fun v s1 ⟨x, H1, I1, r1, q1⟩ => ?_
  obtain ⟨a, e, ⟨xs, hq⟩, q⟩ := q1
  subst e
  cases r1
  obtain ⟨its, rv, p, hz⟩ := I1.list hq
  refine wpAny_pyIter_list p.isList ?_
  refine ⟨s1.heap.objs.size, [s1.heap.objs.size], _, _, H1, rfl, I1.kept (t' := s1.toks) fun b o e => Heap.get?_push_of_some _ e, turn_listH a _, ⟨_, Heap.get?_push_size _ rfl, rfl, rfl⟩, fun b hb => ?_, q⟩
  have e : b = s1.heap.objs.size := by simpa using hb
  subst e
  exact I1.fpOk (Nat.le_refl _) (I1.hok.fresh (Nat.le_refl _))
end
/-! ### a list comprehension while an exception is handled: the exception stays pinned in the block -/
abbrev blkH (X : Cx) (s : Shared) (H : Hp) (scope : Scope) (cenv : Env) (fp : List Addr) (p : Addr × Obj) : Cx := { X.blk s H scope cenv fp with pn := [p] }
section
variable {X : Cx} {pins : List (Addr × Obj)} {σ : St} {H : Hp} {s : Shared}
theorem block_startH {scope : Scope} {own : List (Str × Nat)} {fp : List Addr} (I : Inv X pins σ H s) (ok : BlkOk X.N X.env.scope scope own) (hN : X.N.Nodup) (hfp : ∀ b ∈ fp, FpOk X pins H b ∧ b < s.heap.objs.size) (p : Addr × Obj) (hp : L2H.PinOk X.stack H s p) :
    Inv (blkH X s H scope (compEnvC scope (cellsFrom (s.heap.objs.size + 1) scope.names (cloFrom X.env.cells scope.names [])) s.heap.objs.size X.env) fp p) [] (wipe σ (own.map (·.2))) H { s with heap := pushCells (s.heap.push { cls := .type "dict", data := .dict #[] }) scope.names } := by
  have J := block_start I ok hN hfp
  have o := J.ok
  refine ⟨⟨o.mod, o.kind, o.glob, o.blt, o.above, o.inj, o.has, o.cab, o.hd, o.frames, o.stk, o.exf, o.bs, o.bsz, o.noex, o.exfs, o.funs, o.frf⟩, J.os, J.bare, J.base, J.loc, J.cell, J.free, J.freeC, fun q hq => ?_, J.hok, J.len⟩
  have e : q = p := by simpa using (show q ∈ [p] ++ ([] : List (Addr × Obj)) from hq)
  rw [e]
  refine ⟨pushCells_keeps _ _ _ _ (Heap.get?_push_of_some _ hp.get), hp.free, ?_, hp.nofs, hp.nocell⟩
  exact Nat.ne_of_lt (Heap.lt_size hp.get)
end
section
variable {X : Cx}
theorem lc_coreH {pins : List (Addr × Obj)} {s : Shared} {σ : St} {H : Hp} {Q : VK} {elt tg iter : Expr} {ifs : List Expr} {scope : Scope} {own : List (Str × Nat)} {pos pos' : Pos} {wi : TI} {g : TG} {tt : TT} {te : TE} {use : Option (Value → Sem Unit)} {Qf : Value → Shared → Prop}
    (hot : L2H.HotC X) (hN : X.N.Nodup) (I : Inv X pins σ H s) (hi : L2H.PIH X tg iter wi) (ok : BlkOk X.N X.env.scope scope own)
    (hg : ∀ (s : Shared) (H : Hp) (C : Addr) (cl : List (Str × Addr)) (fp : List Addr) (p : Addr × Obj), PG (blkH X s H scope (compEnvC scope cl C X.env) fp p) tg g) (ht : ∀ (s : Shared) (H : Hp) (C : Addr) (cl : List (Str × Addr)) (fp : List Addr) (p : Addr × Obj), PTs (blkH X s H scope (compEnvC scope cl C X.env) fp p) ifs tt)
    (he : ∀ (s : Shared) (H : Hp) (C : Addr) (cl : List (Str × Addr)) (fp : List Addr) (p : Addr × Obj), PE (blkH X s H scope (compEnvC scope cl C X.env) fp p) elt te) (hs : ∀ x, foldedSetIterable iter X.env x = pure x)
    (h : tLc wi g tt te (own.map (·.2)) σ H Q)
    (hRR : ∀ D C s' m H', Inv X pins σ H' s' → Q (.ref D) H' → s'.heap.Ns C m → FpOk X pins H' C → compPost (model X.prog X.w) X.A X.xe use Qf (.ref D) C (.ok .next) s') :
    wpAny (model X.prog X.w) X.A (comprehension (.ListComp elt [⟨tg, iter, ifs, 0⟩] scope pos) scope X.env pos' (newList []) false (eval iter X.env) use) Qf X.xe s := by
  have hfree : ∀ y ∈ scope.names, y.2 = .free → ∃ c, X.env.cells.lookup y.1 = some c := fun y hy e => by
    rcases ok.free y hy e with k | k
    · exact I.ok.has _ (.inl k)
    · exact I.ok.has _ (.inr k)
  refine wpAny_comprehension_free (use := use) rfl hs (closure_ok hfree) ok.kind (fun y hy e => by rw [ok.uniq y hy, e])
    (thn (hi.run pins s σ H _ I h) fun xv s1 hx => thn hx fun itv s2 h2 => ?_)
  obtain ⟨it, fp, tn, J, H2, e, I2, T, st2, f2, q⟩ := h2
  subst e
  refine wpAny_newObj_type (newEnv_comp ?_) (by show 0 ≤ sizeLine; decide)
  generalize hD : s2.heap.objs.size = D
  have hDn : H2 D = none := I2.hok.fresh (Nat.le_of_eq hD)
  obtain ⟨W, ⟨m0, w0⟩, turn⟩ := q D hDn
  -- the new list
  generalize hs3 : ({ s2 with heap := s2.heap.push { cls := .type "list", data := .seq ([] : List Value).toArray } } : Shared) = s3
  have I3 : Inv X pins σ (upd H2 D (.lst [])) s3 := by
    rw [← hs3]
    refine I2.laid (t' := s2.toks) (fun b o e => Heap.get?_push_of_some _ e) (Nat.le_of_eq hD) ⟨Nat.zero_le _, [], 0, .nil, ?_⟩
    rw [← hD]
    exact Heap.get?_push_size _ rfl
  have h3 : s3.heap = s2.heap.push { cls := .type "list", data := .seq ([] : List Value).toArray } := by rw [← hs3]
  have sz : ∀ b ∈ fp, b < s2.heap.objs.size := fun b hb => by
    obtain ⟨o, e, _⟩ := T.obj _ _ st2 b hb
    exact Heap.lt_size e
  have f3 : ∀ b ∈ fp, FpOk X pins (upd H2 D (.lst [])) b ∧ b < s3.heap.objs.size := fun b hb => by
    have hlt := sz b hb
    refine ⟨⟨?_, (f2 b hb).2⟩, by rw [h3, Heap.size_push]; exact Nat.lt_succ_of_lt hlt⟩
    rw [upd_ne (by rw [← hD]; exact Nat.ne_of_lt hlt)]
    exact (f2 b hb).1
  have st3 : tn 0 s3.heap := T.keep _ _ _ st2 fun b _ o e => by rw [h3]; exact Heap.get?_push_of_some _ e
  obtain ⟨p0, hot1, hp0⟩ := hot
  have P3 := I3.pin p0 (List.mem_append_left _ hp0)
  have I4 := block_startH I3 ok hN f3 p0 ⟨P3.1, P3.2.1, fun hm => (List.mem_cons.mp (I3.stkSub p0.1 hm)).elim P3.2.2.1 P3.2.2.2.1, P3.2.2.2.2⟩
  have pg := hg s3 (upd H2 D (.lst [])) s3.heap.objs.size (cellsFrom (s3.heap.objs.size + 1) scope.names (cloFrom X.env.cells scope.names [])) fp p0
  have pt := ht s3 (upd H2 D (.lst [])) s3.heap.objs.size (cellsFrom (s3.heap.objs.size + 1) scope.names (cloFrom X.env.cells scope.names [])) fp p0
  have pe := he s3 (upd H2 D (.lst [])) s3.heap.objs.size (cellsFrom (s3.heap.objs.size + 1) scope.names (cloFrom X.env.cells scope.names [])) fp p0
  show codeAny _ _ (.compStart (.ListComp elt [⟨tg, iter, ifs, 0⟩] scope pos) 0 (.ref it) (.ref D) (compEnvC scope (cellsFrom (s3.heap.objs.size + 1) scope.names (cloFrom X.env.cells scope.names [])) s3.heap.objs.size X.env)) (compPost (model X.prog X.w) X.A X.xe use Qf (.ref D) s3.heap.objs.size) { s3 with heap := pushCells (s3.heap.push { cls := .type "dict", data := .dict #[] }) scope.names }
  have nfp : ∀ b ∈ fp, (upd H2 D (.lst [])) b = none := fun b hb => (f3 b hb).1.1
  generalize hce : compEnvC scope (cellsFrom (s3.heap.objs.size + 1) scope.names (cloFrom X.env.cells scope.names [])) s3.heap.objs.size X.env = ce at I4 pg pt pe ⊢
  have cL : ce.locals = s3.heap.objs.size := by subst hce; rfl
  generalize hH3 : upd H2 D (.lst []) = H3 at I3 I4 pg pt pe w0 nfp f3
  generalize hs4 : ({ s3 with heap := pushCells (s3.heap.push { cls := .type "dict", data := .dict #[] }) scope.names } : Shared) = s4 at I4 ⊢
  have st4 : tn 0 s4.heap := T.keep _ _ _ st3 fun b _ o e => by rw [← hs4]; exact pushCells_keeps _ _ _ _ (Heap.get?_push_of_some _ e)
  have stat : ∀ {σ' : St} {H' : Hp} {s' : Shared}, Inv (blkH X s3 H3 scope ce fp p0) [] σ' H' s' → (∀ b ∈ fp, H' b = none) → ∀ b ∈ fp, FpOk (blkH X s3 H3 scope ce fp p0) [] H' b := fun {σ' H' s'} I' hn b hb =>
    ⟨hn b hb, (I'.ok.exf b hb).1, I'.ok.exfs b hb, .inl hb, fun x c e => (I'.ok.exf b hb).2 x c e, fun p hp => by
      have e : p = p0 := by simpa using (show p ∈ [p0] ++ ([] : List (Addr × Obj)) from hp)
      rw [e]
      exact (f3 b hb).1.2.2.2.2.2 p0 (List.mem_append_left _ hp0)⟩
  have loop : codeAny (model X.prog X.w) X.A (.compLoop (.ListComp elt [⟨tg, iter, ifs, 0⟩] scope pos) 0 (.ref it) (.ref D) ce) (compPost (model X.prog X.w) X.A X.xe use Qf (.ref D) s3.heap.objs.size) s4 := by
    refine compLoop_any (fun n s' => ∃ i H', Inv (blkH X s3 H3 scope ce fp p0) [] (wipe σ (own.map (·.2))) H' s' ∧ tn i s'.heap ∧ (∀ b ∈ fp, H' b = none) ∧ W i n H') ?_ m0 ⟨0, H3, I4, st4, nfp, w0⟩
    rintro n s5 ⟨i, H5, I5, st5, n5, w5⟩
    rcases turn i n H5 w5 with ⟨stop, qq⟩ | ⟨go, Nx, hNx, step⟩
    · have td := T.done (blkH X s3 H3 scope ce fp p0) rfl rfl rfl ⟨p0, hot1, List.mem_cons_self⟩ i [] s5 _ H5 (fun _ _ => False) I5 (stat I5 n5) st5 stop
      refine thnF td fun r s6 ⟨hr, I6⟩ => ?_
      subst hr
      -- back in the def's context
      have I7 : Inv X pins σ H5 s6 := I3.call' (ch := fp) I6.os I6.base I6.hok I6.bare fun b hb => ⟨(f3 b hb).1.2.2.2.1, (f3 b hb).1.2.1, (f3 b hb).1.2.2.2.2.1, (f3 b hb).1.2.2.2.2.2⟩
      have nC : H5 s3.heap.objs.size = none := by
        have z : H5 ce.locals = none := I6.free
        rw [cL] at z
        exact z
      obtain ⟨m, hn, _⟩ := I6.loc
      have hn : s6.heap.Ns ce.locals m := hn
      rw [cL] at hn
      exact hRR D s3.heap.objs.size s6 m H5 I7 qq hn (I3.fpOk (Nat.le_refl _) nC)
    · have ti := T.item (blkH X s3 H3 scope ce fp p0) rfl rfl rfl ⟨p0, hot1, List.mem_cons_self⟩ i [] s5 _ H5 (fun _ _ => False) I5 (stat I5 n5) st5 go
      refine thnF ti fun r s6 ⟨u, hr, h6⟩ => ?_
      subst hr
      refine thnF h6 fun _ s7 ⟨x, H7, I7, r7, y7, st7, n7⟩ => ?_
      have I7' := I7.pinned (stat I7 n7) (T.obj _ _ st7)
      refine thnF (pg.run _ s7 _ H7 x u _ I7' r7 (step x H7 y7)) fun _ s8 ⟨σ8, H8, I8, hw8, q8⟩ => ?_
      refine thnF (pt.run _ s8 σ8 H8 _ I8 q8) fun b s9 ⟨H9, I9, q9⟩ => ?_
      -- the turn's end
      have fin : ∀ {s' : Shared} {H' : Hp}, Inv (blkH X s3 H3 scope ce fp p0) ([] ++ pinsAt fp s7.heap) σ8 H' s' → Nx H' → ∃ m, m < n ∧ ∃ i H', Inv (blkH X s3 H3 scope ce fp p0) [] (wipe σ (own.map (·.2))) H' s' ∧ tn i s'.heap ∧ (∀ b ∈ fp, H' b = none) ∧ W i m H' := fun {s' H'} I' nx => by
        obtain ⟨m', hm, w'⟩ := hNx H' nx
        have pin' : ∀ b ∈ fp, ∀ o, s7.heap.get? b = some o → s'.heap.get? b = some o ∧ H' b = none := fun b hb o e =>
          let z := I'.pin (b, o) (List.mem_append_right _ (List.mem_append_right _ (mem_pinsAt hb e)))
          ⟨z.1, z.2.1⟩
        have hl : (wipe σ (own.map (·.2))).length = σ8.length := by rw [← hw8, wipe_length]
        refine ⟨m', hm, i + 1, H', (I'.unpinned (pins := [])).weak hl (fun j v e => ?_), T.keep _ _ _ st7 fun b hb o e => (pin' b hb o e).1, fun b hb => ?_, w'⟩
        · rw [← hw8] at e
          exact (wipe_some e).1
        · obtain ⟨o, e, _⟩ := T.obj _ _ st7 b hb
          exact (pin' b hb o e).2
      cases b with
      | false =>
        simp only [Bool.false_eq_true, if_false] at q9 ⊢
        exact fin I9 q9
      | true =>
        simp only [if_true] at q9 ⊢
        refine thnF (pe.run _ s9 σ8 H9 _ I9 q9) fun z s10 ⟨yv, H10, I10, r10, acc, hD10, hz10, nx⟩ => ?_
        exact app_ok (X := blkH X s3 H3 scope ce fp p0) I10 hD10 hz10 r10 fun s11 I11 => fin I11 nx
  exact codeAny_compStart_list loop (T.self X.A 0 _ _ _ st4 loop)
theorem pe_lcH {elt tg iter : Expr} {ifs : List Expr} {scope : Scope} {own : List (Str × Nat)} {pos : Pos} {wi : TI} {g : TG} {tt : TT} {te : TE} (hot : L2H.HotC X) (hN : X.N.Nodup) (hi : L2H.PIH X tg iter wi) (ok : BlkOk X.N X.env.scope scope own)
    (hg : ∀ (s : Shared) (H : Hp) (C : Addr) (cl : List (Str × Addr)) (fp : List Addr) (p : Addr × Obj), PG (blkH X s H scope (compEnvC scope cl C X.env) fp p) tg g) (ht : ∀ (s : Shared) (H : Hp) (C : Addr) (cl : List (Str × Addr)) (fp : List Addr) (p : Addr × Obj), PTs (blkH X s H scope (compEnvC scope cl C X.env) fp p) ifs tt)
    (he : ∀ (s : Shared) (H : Hp) (C : Addr) (cl : List (Str × Addr)) (fp : List Addr) (p : Addr × Obj), PE (blkH X s H scope (compEnvC scope cl C X.env) fp p) elt te) (hs : ∀ x, foldedSetIterable iter X.env x = pure x := by intro _; rfl) :
    PE X (.ListComp elt [⟨tg, iter, ifs, 0⟩] scope pos) (tLc wi g tt te (own.map (·.2))) := by
  refine ⟨fun pins s σ H Q I h => ?_⟩
  rw [eval_ListComp]
  refine lc_coreH hot hN I hi ok hg ht he hs h fun D C s' m H' I' q hn f => ⟨m, hn, fun h'' sb => ?_⟩
  obtain ⟨f0, f1, f2, f3, f4, f5⟩ := f
  exact ⟨.ref D, H', I'.turned (t' := s'.toks) (fun b o hb e => (sb.2 b hb).trans e) f0 f1 f3 f4 f5, rfl, q⟩
theorem ps_setLcH {i : Nat} {y : Str} {py : Pos} {elt tg iter : Expr} {ifs : List Expr} {scope : Scope} {own : List (Str × Nat)} {pos spos : Pos} {wi : TI} {g : TG} {tt : TT} {te : TE} (hot : L2H.HotC X) (hN : X.N.Nodup) (hy : X.N[i]? = some y) (hyl : X.env.scope.names.lookup y = some .local)
    (hsw : swapsWith (.ListComp elt [⟨tg, iter, ifs, 0⟩] scope pos) (some (.Name y py)) spos.line X.env = pure true) (hi : L2H.PIH X tg iter wi) (ok : BlkOk X.N X.env.scope scope own)
    (hg : ∀ (s : Shared) (H : Hp) (C : Addr) (cl : List (Str × Addr)) (fp : List Addr) (p : Addr × Obj), PG (blkH X s H scope (compEnvC scope cl C X.env) fp p) tg g) (ht : ∀ (s : Shared) (H : Hp) (C : Addr) (cl : List (Str × Addr)) (fp : List Addr) (p : Addr × Obj), PTs (blkH X s H scope (compEnvC scope cl C X.env) fp p) ifs tt)
    (he : ∀ (s : Shared) (H : Hp) (C : Addr) (cl : List (Str × Addr)) (fp : List Addr) (p : Addr × Obj), PE (blkH X s H scope (compEnvC scope cl C X.env) fp p) elt te) (hs : ∀ x, foldedSetIterable iter X.env x = pure x := by intro _; rfl) :
    PS X (.Assign [.Name y py] (.ListComp elt [⟨tg, iter, ifs, 0⟩] scope pos) spos) (tAsg (tLc wi g tt te (own.map (·.2))) (gName i)) := by
  refine ⟨fun pins s σ H D I h => ?_⟩
  rw [exec_Assign_Name_used _ _ _ _ hsw]
  refine wpAny_bind (wpAny_standAt (wpAny_bind ?_))
  show wpAny _ X.A (do let _ ← comprehension (.ListComp elt [⟨tg, iter, ifs, 0⟩] scope pos) scope X.env (firstIterPos [⟨tg, iter, ifs, 0⟩] pos) (newList []) false (eval iter X.env) (some (assign (.Name y py) X.env))) _ _ s
  have h : tLc wi g tt te (own.map (·.2)) σ H (fun x H1 => gName i x σ H1 D.nx) := h
  refine wpAny_bind (thn (lc_coreH (Qf := fun _ s' => SP X pins D .next s') hot hN I hi ok hg ht he hs h fun L C s' m H' I' q hn f => ?_) fun _ s' hq => wpAny_pure (wpAny_pure hq))
  show wpAny _ _ (assign (.Name y py) X.env (.ref L)) _ _ _
  refine wpAny_assign_Name (store_ok2 (v := V.ref L) I' hN hy (.inl hyl) rfl (fun s2 I2 ⟨a, sb, ha⟩ => ?_) (.inr hyl))
  obtain ⟨f0, f1, f2, f3, f4, f5⟩ := f
  have haC : C ≠ a := by
    rcases ha with z | z
    · rw [z]; exact f1
    · exact fun e => f4 y a z e.symm
  refine ⟨m, hn.sameBut sb haC, fun h3 sb3 => ?_⟩
  exact ⟨_, H', I2.turned (t' := s2.toks) (fun b o hb e => (sb3.2 b hb).trans e) f0 f1 f3 f4 f5, q⟩
end
end L2
namespace L2
open PySem PySem.Spec PyProof.Rows
/-! ### a try whose body may call while an exception is handled; defs that raise there -/
section
variable {X : Cx} {bd : List Stmt} {hd0 : ExceptHandler} {hds : List ExceptHandler} {l : List Cl3} {pos : Pos} {tb : WX → TS} {Wout : WX}
theorem ps_try_allH (hs : X.stack = X.env :: X.outer) (hf : X.env.frame = some X.env.locals) (hN : X.N.Nodup) (tk : Takes X Wout)
    (hb : ∀ (W : WX) (pn : List (Addr × Obj)) (xe : Value → Shared → Prop), (∀ q ∈ X.pn, q ∈ pn) → Takes (X.tr pn xe) W → PassesOwn (model X.prog X.w) X.A X.env xe → PSs (X.tr pn xe) bd (tb W))
    (hh : HdsZ X (hd0 :: hds) l) : PS X (.Try bd (hd0 :: hds) [] [] pos) (fun D σ H => tb (wAll X.K Wout D l) D σ H) := by
  refine ⟨fun pins s σ H D I h => ?_⟩
  have okX := I.ok
  have frX : X.A.frames = some (X.env :: X.outer) := by rw [okX.frames, hs]
  refine wpAny_Try_except ?_
  refine wpAny_mono ((hb (wAll X.K Wout D l) (X.pn ++ pins) (fun u1 t1 => wpAny (model X.prog X.w) X.A (noteFrame u1 X.env) (fun _ t2 => wpAny (model X.prog X.w) X.A (setFlight u1 none) (fun _ t3 =>
    wpAny (model X.prog X.w) X.A (handleBy u1 X.env (hd0 :: hds)) (SP X pins D) X.xe t3) X.xe t2) X.xe t1) (fun q hq => List.mem_append_left _ hq) (fun u s' xx => ?_) PassesOwn.looking).run [] s σ H D (I.toTry _) h) (fun fl s1 got => ?_) (fun _ _ z => z)
  · obtain ⟨a, B, sI, pins', σ', H', cls, d, rfl, Jt, nb, up, sky, na, os, ag, wsh⟩ := xx
    have J0 : Inv X pins σ' H' sI := Jt.ofTry okX
    have sky2 : Sky B (X.env :: X.outer) a (Zc cls d) X.env.locals s'.heap := by rw [← hs]; exact sky
    show wpAny (model X.prog X.w) X.A (noteFrame (.ref a) X.env) _ _ _
    refine Sky.land Zc.steady frX hf sky2 fun hp3 w3 up3 => ?_
    have I3 : Inv X pins σ' H' { s' with heap := hp3 } := J0.landed nb w3.1 (up.trans up3) os ag
    obtain ⟨ob3, fv3, at3, zc3, da3⟩ := w3.there
    have noFrame : ∀ {hh : Heap} {oo : Obj} {ff : Array Value}, hh.FunFrames B (X.env :: X.outer) → hh.get? a = some oo → oo.data = .fields ff → a ∉ frs (X.env :: X.outer) := fun {hh oo ff} fr e1 e2 hm => by
      obtain ⟨_, o2, e3, nf⟩ := fr.mem hm
      rw [e1] at e3; cases e3
      exact nf _ e2
    have nfr3 := noFrame w3.2.2.1 at3 da3
    have neL : a ≠ X.env.locals := fun z => nfr3 (List.mem_filterMap.mpr ⟨X.env, List.mem_cons_self, by rw [hf, z]⟩)
    have neF : a ∉ X.fs := fun hm => by
      obtain ⟨ev, hv, q⟩ := List.mem_filterMap.mp hm
      exact nfr3 (List.mem_filterMap.mpr ⟨ev, List.mem_cons_of_mem _ hv, q⟩)
    have Su3 := I3.suite at3 da3 na neL neF
    have look : PySem.W.Looks (model X.prog X.w) hp3 (typeOf (.ref a)) cls := fun A Q E s k q => wpAny_typeOf_ref (k _ _ at3) (by rw [zc3.1]; exact q)
    have asks : ∀ {x : Str} {c : Value} {np : Pos} {Q : Value → Shared → Prop} {E : Value → Shared → Prop}, Names X x c → Q c { s' with heap := hp3 } → wpAny (model X.prog X.w) (X.A.mark (some (.ref a))) (eval (.Name x np) X.env) Q E { s' with heap := hp3 } := fun {x c np Q E} hc q => by
      obtain ⟨hg, hdbg, hm | ⟨hm, hv, hnn⟩⟩ := hc
      · exact ld_glob (X := X.suite a ((a, ob3) :: (X.pn ++ pins))) Su3 hg hm q hdbg
      · exact ld_blt (X := X.suite a ((a, ob3) :: (X.pn ++ pins))) Su3 hg hm hv q hnn hdbg
    have walk : ∀ {hs2 : List ExceptHandler} {l2 : List Cl3}, HdsZ X hs2 l2 → wAll X.K Wout D l2 cls d σ' H' →
        wpAny (model X.prog X.w) X.A (handleBy (.ref a) X.env hs2) (SP X pins D) X.xe { s' with heap := hp3 } := by
      intro hs2 l2 hk
      induction hk with
      | nil =>
        intro w
        refine wpAny_handleBy_nil ?_
        obtain ⟨_, _, _, ob, fv, T, oT, _, hat, _, hda, h1, _⟩ := id w3
        unfold PySem.passOn
        refine wpAny_bind (wpAny_field hat hda h1 ?_)
        rw [if_neg (show ¬ ((Value.ref T == Value.none) = true) from by simp)]
        have leave : wpAny (model X.prog X.w) X.A (setFlight (.ref a) X.env.frame) (fun _ s4 => wpAny (model X.prog X.w) X.A (throw (.ref a) : Sem Flow) (SP X pins D) X.xe s4) X.xe { s' with heap := hp3 } := by
          rw [hf]
          refine HandSPX.setFlight_upZ w3 fun hp4 w4 up4 => wpAny_throw (tk _ _ ?_)
          exact ⟨a, B, sI, pins, σ', H', cls, d, rfl, J0, nb, (up.trans up3).trans up4, .inr (.inr (by rw [hs]; exact w4)), na, os, ag, w⟩
        first
          | exact wpAny_bind (wpAny_pure (wpAny_bind leave))
          | exact wpAny_bind leave
      | @bare x c ts st su p1 p2 hds2 l2 hc hsu r ih =>
        intro w
        obtain ⟨b, hb1, yes, no⟩ := w
        refine wpAny_handleBy_cons (codeAny_handlers_test ?_) (by intro q; cases q)
        refine asks hc ((PySem.W.exm_one (M := model X.prog X.w) (I3.kIn) look hb1).here ?_)
        cases b with
        | true =>
          refine codeAny_handlers_suite ?_
          refine HandSPX.lands_againZ w3 fun hp4 w4 up4 => ?_
          have I4 : Inv X pins σ' H' { s' with heap := hp4 } := J0.landed nb w4.1 ((up.trans up3).trans up4) os ag
          obtain ⟨ob4, fv4, at4, zc4, da4⟩ := w4.there
          have Su4 := I4.suite at4 da4 na neL neF
          refine wpAny_mono ((hsu a ob4 cls d (X.pn ++ pins) zc4 ⟨_, da4⟩).run [] _ _ H' _ Su4 (yes rfl a na)) (fun fl s6 got => ?_) (fun _ _ z => False.elim z)
          cases fl with
          | next =>
            obtain ⟨σ6, H6, Su6, q6⟩ := got
            exact ⟨_, _, Su6.unsuite okX, q6⟩
          | brk =>
            obtain ⟨σ6, H6, Su6, q6⟩ := got
            exact ⟨_, _, Su6.unsuite okX, q6⟩
          | cont =>
            obtain ⟨σ6, H6, Su6, q6⟩ := got
            exact ⟨_, _, Su6.unsuite okX, q6⟩
          | ret u =>
            obtain ⟨v6, σ6, H6, Su6, r6, q6⟩ := got
            exact ⟨_, _, _, Su6.unsuite okX, r6, q6⟩
        | false =>
          show wpAny _ X.A (handleBy (.ref a) X.env hds2) _ _ _
          exact ih (no rfl)
      | @named x n c i ts st su p1 p2 hds2 l2 hi hl hc hsu r ih =>
        intro w
        obtain ⟨b, hb1, yes, no⟩ := w
        refine wpAny_handleBy_cons (codeAny_handlers_test ?_) (by intro q; cases q)
        refine asks hc ((PySem.W.exm_one (M := model X.prog X.w) (I3.kIn) look hb1).here ?_)
        cases b with
        | true =>
          refine codeAny_handlers_suite_as ?_
          refine HandSPX.lands_againZ w3 fun hp4 w4 up4 => ?_
          have I4 : Inv X pins σ' H' { s' with heap := hp4 } := J0.landed nb w4.1 ((up.trans up3).trans up4) os ag
          obtain ⟨ob4, fv4, at4, zc4, da4⟩ := w4.there
          have Su4 := I4.suite at4 da4 na neL neF
          have hloc : Loc X.env.scope n := .inl hl
          refine store_ok (X := X.suite a ((a, ob4) :: (X.pn ++ pins))) (v := .ref a) Su4 hN hi hloc rfl (fun s5 Su5 => ?_) (.inr hl)
          refine wpAny_mono ((hsu a ob4 cls d (X.pn ++ pins) zc4 ⟨_, da4⟩).run [] s5 _ H' _ Su5 (yes rfl a na)) (fun fl s6 got => ?_) (fun _ _ z => False.elim z)
          have out : ∀ {σ6 : St} {H6 : Hp} {Q : Shared → Prop}, Inv (X.suite a ((a, ob4) :: (X.pn ++ pins))) [] σ6 H6 s6 → (∀ s7, Inv X pins (σ6.set i none) H6 s7 → Q s7) →
              wpAny (model X.prog X.w) X.A (do bindName X.env n .none; unbindBehindTheSuite X.env n p2) (fun _ s7 => Q s7) X.xe s6 := fun {σ6 H6 Q} Su6 hq => gone_ok (Su6.unsuite okX) hN hi hl hq
          cases fl with
          | next =>
            obtain ⟨σ6, H6, Su6, q6⟩ := got
            exact out Su6 fun s7 J7 => ⟨_, _, J7, q6⟩
          | brk =>
            obtain ⟨σ6, H6, Su6, q6⟩ := got
            exact out Su6 fun s7 J7 => ⟨_, _, J7, q6⟩
          | cont =>
            obtain ⟨σ6, H6, Su6, q6⟩ := got
            exact out Su6 fun s7 J7 => ⟨_, _, J7, q6⟩
          | ret u =>
            obtain ⟨v6, σ6, H6, Su6, r6, q6⟩ := got
            exact out Su6 fun s7 J7 => ⟨_, _, _, J7, r6, q6⟩
        | false =>
          show wpAny _ X.A (handleBy (.ref a) X.env hds2) _ _ _
          exact ih (no rfl)
    exact walk hh wsh
  · cases fl with
    | next =>
      obtain ⟨σ2, H2, J2, q⟩ := got
      exact wpAny_execs_nil ⟨σ2, H2, J2.ofTry okX, q⟩
    | brk =>
      obtain ⟨σ2, H2, J2, q⟩ := got
      exact ⟨σ2, H2, J2.ofTry okX, q⟩
    | cont =>
      obtain ⟨σ2, H2, J2, q⟩ := got
      exact ⟨σ2, H2, J2.ofTry okX, q⟩
    | ret u =>
      obtain ⟨v, σ2, H2, J2, rv, q⟩ := got
      exact ⟨v, σ2, H2, J2.ofTry okX, rv, q⟩
end
theorem ps_try_allKH {X : Cx} {K : PySem.W.Frag} {bd : List Stmt} {hd0 : ExceptHandler} {hds : List ExceptHandler} {l : List Cl3} {pos : Pos} {tb : WX → TS} {Wout : WX} (hK : X.K = K) (hs : X.stack = X.env :: X.outer) (hf : X.env.frame = some X.env.locals) (hN : X.N.Nodup) (tk : Takes X Wout) (hc : L2H.HotC X)
    (hb : ∀ (W : WX) (pn : List (Addr × Obj)) (xe : Value → Shared → Prop), L2H.HotC (X.tr pn xe) → Takes (X.tr pn xe) W → PassesOwn (model X.prog X.w) X.A X.env xe → PSs (X.tr pn xe) bd (tb W))
    (hh : HdsZ X (hd0 :: hds) l) : PS X (.Try bd (hd0 :: hds) [] [] pos) (fun D σ H => tb (wAll K Wout D l) D σ H) := by
  subst hK
  obtain ⟨p, h1, hp⟩ := hc
  exact ps_try_allH hs hf hN tk (fun W pn xe sub tk2 po => hb W pn xe ⟨p, h1, sub p hp⟩ tk2 po) hh
/-- X(), for the layer that tells the context -/
theorem pmk_own0N {X : Cx} {C : Addr} {bmB : List Value} {B newId initId : String} {x : Str} {p pos : Pos} (F : ExcBaseFacts B newId initId bmB) (q : PySem.W.excIn X.K C bmB newId = true) (gC : X.mg x = some (.ref C)) (kC : PySem.W.keepIn X.K (.ref C) = true) (r : Raises X (.ref C)) (hg : Gl X x)
    (hdb : (x == ("__debug__" : Str)) = false := by decide) : L2N.PMk X (.Call (.Name x p) [] [] pos) (fun _ H Q => Q (.ref C) none H) := by
  intro pins s σ H Q I h
  refine wpAny_Call_Name_kw (ld_glob I hg gC ?_ hdb)
  refine PySem.W.callWith_K0 I.kIn kC ?_
  obtain ⟨bm, N, nm, qn, bs, hdct, sn, sub, ab, col, dd, k0, k1, k2, k3, k5, mN, hC, hN, hni, T⟩ := exc_obj I.kIn q
  obtain ⟨hp1, g1, d1, tk1, os1⟩ := s
  exact wpAny_call_exc_subT F T hC hN hni (fun h' e hm => L2N.mk_of I hm r h (I.hok.gone hm.new)) (Nat.zero_le _)
theorem Fun.okHX {P : Program} {w : World} {K : PySem.W.Frag} {mg : Str → Option Value} {base : Heap} {x qual : Str} {st : Stmt} {f : Addr} {fd : FuncData} {N ps : List Str} {k : Nat} {sp : Sp} (F : Fun K x qual st f fd) (S : FnScope N ps (defScope st)) (ln : ∀ vs H Q E, sp vs H Q E → vs.length = ps.length)
    (bd : ∀ (cdv : Value) (A : Around) (outer : List Env) (s : Shared) (H : Hp) (vs : List V) (Q : VK) (E : XK) (p : Addr × Obj), L2H.Hot1 A p → L2H.RoomH k (A.deeper (envOfC qual (defScope st) s.heap.objs.size f cdv)) → sp vs H Q E →
      ∃ t, PSs (L2H.cxH (L2.CX P w) P w K mg base N qual (defScope st) f cdv A outer s H E p) (defBody st) t ∧ t { nx := fun _ H' => Q .non H', rt := Q } (start N vs) H) : L2H.FnH P w K mg base (L2.CX P w) (k + 1) f fd ps sp := by
  obtain ⟨_, _, _, _, _, _, _, _, _, rfl, lk, cd⟩ := F.ex
  exact L2H.fn_ofH lk cd S ln fun A outer s H vs Q E p hp r h => bd _ A outer s H vs Q E p hp r h
/-- rules that a block's readings need, by K -/
theorem pi_listHK {X : Cx} {K : PySem.W.Frag} {tg l : Expr} {tl : TE} (h : X.K = K) (hl : PE X l tl) : L2H.PIH X tg l (iList K tl) := h ▸ pi_listH hl
end L2

set_option Elab.async false
set_option linter.all false
set_option maxRecDepth 100000
set_option maxHeartbeats 4000000
namespace PySem
namespace ZEX
open PySem.W PySem.Calls PyProof.Rows PySem.HandSPX
section
variable {prog : Program} {w : World} {A : Around} {E : Value → Shared → Prop} {h : Heap} {g : Array GenState} {d : Drawn} {t : Nat} {os : OsState}
variable {nm q : Str} {C N : Addr} {bs bm : List Value} {hdct : Bool} {sn : List Str} {sub : List Value} {ab : Bool} {col : Option Bool} {dd : Option Addr} {k0 k1 k2 k3 k5 : Option Value}
/-- ValueError.__init__, bound to e at u, called -/
theorem call_bv {u e t0 : Addr} {rest : List Value} {Q : Value → Shared → Prop}
    (hC : h.get? C = some (excClassObj nm q C N bs bm hdct sn sub ab col dd k0 k1 k2 k3 k5 "ValueError.__new__")) (he : h.get? e = some (excO C t0)) (hu : h.get? u = some (kxs_mw "ValueError.__init__" e)) (hrest : rest.length ≤ sizeLine)
    (hq : ∀ h' t1, (∀ b o, b ≠ e → h.get? b = some o → h'.get? b = some o) → h'.get? e = some (excO C t1) → Q .none ⟨h', g, d, t, os⟩) :
    wpAny (model prog w) A (call (.ref u) rest) Q E ⟨h, g, d, t, os⟩ := by
  refine wpAny_call (codeAny_of_tree ?_)
  show wpAny _ A.in1 (callAny (.ref u) ⟨rest, []⟩) _ _ _
  simp only [callAny]
  refine wpAny_bind (wpAny_load hu ?_)
  simp only [kxs_mw, show (Value.type "method-wrapper" == Value.type "method" || Value.type "method-wrapper" == Value.type "builtin_function_or_method" || Value.type "method-wrapper" == Value.type "method-wrapper") = true by decide, if_true]
  refine KFB.if_so (by decide) ?_
  refine wpAny_bind (check_bound_init F.excBase_ValueError.toExcCallFacts hC he rfl ?_)
  refine wpAny_bind (wpAny_pure (wpAny_pure ?_))
  refine ⟨plainId_quiet F.excBase_ValueError.init.plain _, codeAny_builtin F.excBase_ValueError.initEntry ?_⟩
  exact exc_init_tree (cls := .ref C) (t0 := t0) (dv := none) (c2 := .none) (c3 := .none) (b4 := .bool false) he hrest fun h' k e' _ => hq h' _ k e'
end
end ZEX
end PySem
namespace L2
open PySem PySem.Spec PyProof.Rows
/-- isinstance(e, c), e the exception that the suite holds, its dict at dd -/
def rIsED (K : PySem.W.Frag) (D a dd : Addr) : List V → Hp → VK → Prop := fun xs H Q => ∃ (c : V) (cv : Value) (b : Bool) (fs : List (Str × V)), xs = [.ref a, c] ∧ (∀ u, RelV c u → u = cv) ∧ H dd = some (.xd fs) ∧ PySem.W.kitOne K (.ref D) cv = some b ∧ Q (.bl b) H
theorem call_isED {X : Cx} {a D dd : Addr} {oe : Obj} {pn : List (Addr × Obj)} (C : ExcC X.K D) (hz : Zc (.ref D) (some dd) oe) (hf : ∃ vs, oe.data = .fields vs) : CallR (X.suite a ((a, oe) :: pn)) (.builtin "isinstance") (rIsED X.K D a dd) := by
  intro pins s σ H xs us Q I r h
  obtain ⟨c, cv, b, fs, rfl, hcv, hd, e, q⟩ := h
  obtain ⟨u, w, rfl, rx, rt⟩ : ∃ u w, us = [u, w] ∧ RelV (.ref a) u ∧ RelV c w := by
    cases r with
    | cons rx rr => cases rr with
      | cons rt rr => cases rr; exact ⟨_, _, rfl, rx, rt⟩
  obtain rfl : u = Value.ref a := rx
  obtain rfl := hcv _ rt
  obtain ⟨hget, _⟩ := I.pin (a, oe) (List.mem_append.mpr (.inl List.mem_cons_self))
  obtain ⟨vs, hv⟩ := hf
  obtain ⟨mA, hns, _⟩ := (show ObjOk X.prog X.w H s.heap dd (.xd fs) from I.hok dd _ hd)
  obtain ⟨od, ho, _⟩ := lookIn_ns hns
  have J : PySem.W.InstAt s.heap a oe D (some od) := ⟨hget, hz.1, by unfold PySem.W.notCls; rw [hv] <;> rfl, by rw [hz.2]; exact ho⟩
  have hcl : (PySem.W.clsIn X.K D).isSome = true := by
    obtain ⟨cd, hc, _⟩ := PySem.W.any_some C.hd
    rw [hc]; rfl
  exact PySem.W.kia_one (PySem.W.kitx_exc hcl C.hg C.hk C.hs C.ha C.hn C.ht C.hm) I.kIn J e (fun z => nomatch z) fun tk => ⟨.bl b, H, I.kept (t' := tk) fun _ _ z => z, rfl, q⟩
/-- .. whatever class and dict the suite has been told -/
def rIsEE (K : PySem.W.Frag) (a : Addr) (cls : Value) (d : Option Addr) : List V → Hp → VK → Prop := fun xs H Q => ∃ (D dd : Addr), cls = .ref D ∧ d = some dd ∧ ExcC K D ∧ rIsED K D a dd xs H Q
theorem call_isEE {X : Cx} {a : Addr} {cls : Value} {d : Option Addr} {oe : Obj} {pn : List (Addr × Obj)} (hz : Zc cls d oe) (hf : ∃ vs, oe.data = .fields vs) : CallR (X.suite a ((a, oe) :: pn)) (.builtin "isinstance") (rIsEE X.K a cls d) := by
  intro pins s σ H xs us Q I r h
  obtain ⟨D, dd, rfl, rfl, C, h⟩ := h
  exact call_isED C hz hf pins s σ H xs us Q I r h
end L2

set_option Elab.async false
set_option linter.all false
set_option maxRecDepth 100000
set_option maxHeartbeats 4000000
/-! The head by one kernel run, with facts of classes, methods, own errors. -/
namespace ZH
open PySem PySem.Spec PyProof.Rows L2 He
/-- the heap's first objects -/
def asZ (_ : Addr → Option Obj) (n : Nat) : List Addr := List.range n
/-- a def without defaults -/
theorem fun_of {K : PySem.W.Frag} {x q : Str} {st : Stmt} {f : Addr} {fd : FuncData} (F : FunD K x q (defArgs st) (defBody st) (defScope st) [] [] f fd) : L2.Fun K x q st f fd := by
  obtain ⟨oc, od, dV, kV, doc, pm, an, cdv, ct, osl, rfl, lk, hcd, hD, hK⟩ := F.ex
  rcases hD with ⟨_, rfl⟩ | ⟨e, _⟩
  · exact ⟨⟨oc, od, kV, doc, pm, an, cdv, ct, osl, rfl, lk, hcd⟩, F.kp⟩
  · exact absurd rfl e
/-- a keyword-only default that is an object -/
def kwAt (f : Str × Option Str) (x : Str) (K : PySem.W.Frag) : Addr := match K.lookup (fAd K f) with
  | some ⟨_, _, .func fd, _⟩ => (match fd.kwdefaults with
    | .ref D => (match PySem.W.nsIn K D x with
      | some (some (.ref a)) => a
      | _ => 0)
    | _ => 0)
  | _ => 0
def emptyB (K : PySem.W.Frag) (a : Addr) : Bool := match K.lookup a with
  | some ⟨.type c, _, .seq its _, _⟩ => decide (c = "tuple") && its.isEmpty
  | _ => false
theorem emptyB_ok {K : PySem.W.Frag} {a : Addr} (h : emptyB K a = true) (H : Hp) : SqT K H a [] := by
  unfold emptyB at h
  cases q : K.lookup a with
  | none => rw [q] at h; cases h
  | some o =>
    obtain ⟨oc, od, dt, osl⟩ := o
    rw [q] at h
    cases oc with
    | type c =>
      cases dt with
      | seq its n =>
        obtain ⟨h1, h2⟩ := ba (show (decide (c = "tuple") && its.isEmpty) = true from h)
        have e2 : its = #[] := Array.isEmpty_iff.mp h2
        subst e2
        exact .inr ⟨_, _, _, q, congrArg Value.type (of_decide_eq_true h1), rfl, Nat.zero_le _, .nil⟩
      | _ => cases h
    | _ => cases dt <;> cases h
/-! ### own errors -/
abbrev ExV : Type := Option (Str × Str × Arguments × FuncBody × Scope × Addr × List Str × Value × Value × Addr)
def iAd (K : PySem.W.Frag) (x : Str) : Addr := ma K (ga K x) "__init__"
def exObs (K : PySem.W.Frag) (x : Str) : ExV := match K.lookup (iAd K x) with
  | some ⟨_, _, .func fd, _⟩ => some (fd.name, fd.qualname, fd.params, fd.body, fd.scope, fd.globals, fd.closure.map (·.1), fd.defaults, fd.kwdefaults, fd.builtins)
  | _ => none
structure ExD where
  nm : Str
  fld : Str
  q : Str
  A : Arguments
  B : List Stmt
  S : Scope
def ExD.val (d : ExD) : ExV := some ("__init__", d.q, d.A, .stmts d.B, d.S, mainGlobals, ["__class__"], .none, .none, builtinsNs)
def isEC (K : PySem.W.Frag) (C : Addr) : Bool := match K.lookup C with
  | some ⟨.type "type", _, .cls cd, sl⟩ => (match cd.mro, sl.toList with
    | .ref C' :: bm, [_, _, _, _, some (.builtin n), _] => C' == C && n == "ValueError.__new__" && !cd.hasDel && (cd.hasDict && PySem.HandSPX.refsVE bm)
    | _, _ => false)
  | _ => false
theorem isEC_ok {K : PySem.W.Frag} {C : Addr} (q : isEC K C = true) : ∃ nm qn N bs bm sn sub ab col dd k0 k1 k2 k3 k5, K.lookup C = some (excClassObj nm qn C N bs bm true sn sub ab col dd k0 k1 k2 k3 k5 "ValueError.__new__") ∧ PySem.HandSPX.refsVE bm = true := by
  unfold isEC at q
  split at q
  · rename_i dd cd sl ho
    split at q
    · rename_i C' bm k0 k1 k2 k3 n k5 hm hs
      simp only [Bool.and_eq_true, beq_iff_eq, Bool.not_eq_true'] at q
      obtain ⟨⟨⟨rfl, rfl⟩, hdel⟩, hdd, ht⟩ := q
      obtain ⟨nm, bs, mro, ns, qn, hd, sn, sub, ab, col, del⟩ := cd
      dsimp only at hm hdel hdd
      subst hm hdel hdd
      have hsl : sl = #[k0, k1, k2, k3, some (.builtin "ValueError.__new__"), k5] := by
        obtain ⟨l⟩ := sl
        simp only at hs
        rw [hs]
      subst hsl
      exact ⟨nm, qn, ns, bs, bm, sn, sub, ab, col, dd, k0, k1, k2, k3, k5, ho, ht⟩
    · cases q
  · cases q
def fnB (K : PySem.W.Frag) (file : Str) (d : ExD) : Bool := match K.lookup (iAd K d.nm) with
  | some ⟨_, _, .func fd, _⟩ => (match fd.closure, fd.code with
    | [(_, cc)], .ref cda => PySem.W.codeIn K (.ref cda) d.q && ((match K.lookup cc with
        | some ⟨_, _, .cell (some (.ref C')), _⟩ => C' == ga K d.nm
        | _ => false) && (match K.lookup cda with
        | some ⟨_, _, .fields vs, _⟩ => (match vs[2]? with
          | some (Value.str z _) => file == z
          | _ => false)
        | _ => false))
    | _, _ => false)
  | _ => false
theorem fnB_ok {K : PySem.W.Frag} {file : Str} {d : ExD} (e : exObs K d.nm = d.val) (h : fnB K file d = true) :
    ∃ (oc : Value) (od : Option Addr) (doc pm : Value) (an : Option Addr) (cda : Addr) (ct : Value) (osl : Array (Option Value)) (cc : Addr) (cl : Value) (cld : Option Addr) (csl : Array (Option Value)) (vs : Array Value) (ccl : Value) (cdd : Option Addr) (ccs : Array (Option Value)) (fl : Str) (tf : Tok),
      K.lookup (iAd K d.nm) = some ⟨oc, od, .func (PySem.W.ksFn "__init__" d.q d.A d.B d.S .none .none doc pm an (.ref cda) ct cc), osl⟩ ∧ PySem.W.codeIn K (.ref cda) d.q = true ∧
      K.lookup cc = some ⟨cl, cld, .cell (some (.ref (ga K d.nm))), csl⟩ ∧ K.lookup cda = some ⟨ccl, cdd, .fields vs, ccs⟩ ∧ vs[2]? = some (.str fl tf) ∧ (file == fl) = true := by
  unfold exObs ExD.val at e
  unfold fnB at h
  cases q : K.lookup (iAd K d.nm) with
  | none => rw [q] at h; cases h
  | some o =>
    obtain ⟨oc, od, dt, osl⟩ := o
    rw [q] at h e
    cases dt with
    | func fd =>
      obtain ⟨n1, n2, n3, n4, n5, n6, n7, n8, n9, n10, n11, n12, n13, n14, n15⟩ := fd
      have e2 : (some (n1, n2, n3, n4, n5, n6, n7.map (·.1), n8, n9, n15) : ExV) = (some ("__init__", d.q, d.A, FuncBody.stmts d.B, d.S, mainGlobals, ["__class__"], Value.none, Value.none, builtinsNs) : ExV) := e
      simp only [Option.some.injEq, Prod.mk.injEq] at e2
      obtain ⟨h1, h2, h3, h4, h5, h6, h7, h8, h9, h10⟩ := e2
      subst h1 h2 h3 h4 h5 h6 h8 h9 h10
      cases n7 with
      | nil => cases h7
      | cons p r =>
        obtain ⟨c1, cc⟩ := p
        cases r with
        | cons p2 r2 => simp at h7
        | nil =>
          have h7 : c1 = "__class__" := by simpa using h7
          subst h7
          cases n13 with
          | ref cda =>
            obtain ⟨g1, g2⟩ := ba (show (PySem.W.codeIn K (.ref cda) d.q && ((match K.lookup cc with
              | some ⟨_, _, .cell (some (.ref C')), _⟩ => C' == ga K d.nm
              | _ => false) && (match K.lookup cda with
              | some ⟨_, _, .fields vs, _⟩ => (match vs[2]? with
                | some (Value.str z _) => file == z
                | _ => false)
              | _ => false))) = true from h)
            obtain ⟨g3, g4⟩ := ba g2
            split at g3
            · rename_i cl cld C' csl hc
              have ec : C' = ga K d.nm := beq_iff_eq.mp g3
              subst ec
              split at g4
              · rename_i ccl cdd vs ccs hd
                split at g4
                · rename_i z tf hv
                  exact ⟨oc, od, n10, n11, n12, cda, n14, osl, cc, cl, cld, csl, vs, ccl, cdd, ccs, z, tf, rfl, g1, hc, hd, hv, g4⟩
                · cases g4
              · cases g4
            · cases g3
          | _ => cases h
    | _ => cases h
def so (a : Option Bool) : Bool := decide (a = some true)
def ExD.ok (K : PySem.W.Frag) (file : Str) (d : ExD) : Bool :=
  [eqO (PySem.W.findIn K (.ref (ga K d.nm)) "__setattr__") (some (some (.builtin "object.__setattr__"))), eqO (PySem.W.findIn K (.ref (ga K d.nm)) d.fld) (some none), eqO (PySem.W.findIn K (.ref (ga K d.nm)) "__init__") (some (some (.ref (iAd K d.nm)))),
    decide (PySem.W.typeIn K (.ref (iAd K d.nm)) = some (.type "function")), PySem.W.keepIn K (.ref (ga K d.nm)), so (PySem.W.subIn K (.ref (ga K d.nm)) (.type "BaseException")), so (PySem.W.subIn K (.ref (ga K d.nm)) (.type "ValueError")), decide (PySem.W.typeIn K (.ref (ga K d.nm)) = some (.type "type")),
    so (PySem.W.mroIn K (ga K d.nm) (.ref (ga K d.nm))), eqO (PySem.W.ks_superIn K (ga K d.nm) (ga K d.nm) "__init__") (some (some (.builtin "ValueError.__init__"))), PySem.W.hasDictIn K (ga K d.nm),
    eqO (PySem.W.findIn K (.ref (ga K d.nm)) "__getattribute__") (some (some (.builtin "BaseException.__getattribute__"))), eqO (PySem.W.findIn K (.ref (ga K d.nm)) "__getattr__") (some none), eqO (PySem.W.findIn K (.ref (ga K d.nm)) "__class__") (some (some (.builtin "object.__class__"))),
    so (PySem.W.mroIn K (ga K d.nm) (.type "object")), so (PySem.W.exmOne K (.ref (ga K d.nm)) (.ref (ga K d.nm))), isEC K (ga K d.nm), fnB K file d].all id
structure ExF (K : PySem.W.Frag) (file : Str) (d : ExD) : Prop where
  sa : PySem.W.findIn K (.ref (ga K d.nm)) "__setattr__" = some (some (.builtin "object.__setattr__"))
  noN : PySem.W.findIn K (.ref (ga K d.nm)) d.fld = some none
  iC : PySem.W.findIn K (.ref (ga K d.nm)) "__init__" = some (some (.ref (iAd K d.nm)))
  tC : PySem.W.typeIn K (.ref (iAd K d.nm)) = some (.type "function")
  kC : PySem.W.keepIn K (.ref (ga K d.nm)) = true
  exC : PySem.W.subIn K (.ref (ga K d.nm)) (.type "BaseException") = some true
  veC : PySem.W.subIn K (.ref (ga K d.nm)) (.type "ValueError") = some true
  tyC : PySem.W.typeIn K (.ref (ga K d.nm)) = some (.type "type")
  mro : PySem.W.mroIn K (ga K d.nm) (.ref (ga K d.nm)) = some true
  sup : PySem.W.ks_superIn K (ga K d.nm) (ga K d.nm) "__init__" = some (some (.builtin "ValueError.__init__"))
  hd : PySem.W.hasDictIn K (ga K d.nm) = true
  gg : PySem.W.findIn K (.ref (ga K d.nm)) "__getattribute__" = some (some (.builtin "BaseException.__getattribute__"))
  gk : PySem.W.findIn K (.ref (ga K d.nm)) "__getattr__" = some none
  gc : PySem.W.findIn K (.ref (ga K d.nm)) "__class__" = some (some (.builtin "object.__class__"))
  mo : PySem.W.mroIn K (ga K d.nm) (.type "object") = some true
  te : PySem.W.exmOne K (.ref (ga K d.nm)) (.ref (ga K d.nm)) = some true
  cls : ∃ nm qn N bs bm sn sub ab col dd k0 k1 k2 k3 k5, K.lookup (ga K d.nm) = some (excClassObj nm qn (ga K d.nm) N bs bm true sn sub ab col dd k0 k1 k2 k3 k5 "ValueError.__new__") ∧ PySem.HandSPX.refsVE bm = true
  fn : ∃ (oc : Value) (od : Option Addr) (doc pm : Value) (an : Option Addr) (cda : Addr) (ct : Value) (osl : Array (Option Value)) (cc : Addr) (cl : Value) (cld : Option Addr) (csl : Array (Option Value)) (vs : Array Value) (ccl : Value) (cdd : Option Addr) (ccs : Array (Option Value)) (fl : Str) (tf : Tok),
      K.lookup (iAd K d.nm) = some ⟨oc, od, .func (PySem.W.ksFn "__init__" d.q d.A d.B d.S .none .none doc pm an (.ref cda) ct cc), osl⟩ ∧ PySem.W.codeIn K (.ref cda) d.q = true ∧
      K.lookup cc = some ⟨cl, cld, .cell (some (.ref (ga K d.nm))), csl⟩ ∧ K.lookup cda = some ⟨ccl, cdd, .fields vs, ccs⟩ ∧ vs[2]? = some (.str fl tf) ∧ (file == fl) = true
theorem ex_ok {K : PySem.W.Frag} {file : Str} {d : ExD} (e : exObs K d.nm = d.val) (h : d.ok K file = true) : ExF K file d := by
  have c := List.all_eq_true.mp h
  have g : ∀ (i : Nat) {b : Bool}, ([eqO (PySem.W.findIn K (.ref (ga K d.nm)) "__setattr__") (some (some (.builtin "object.__setattr__"))), eqO (PySem.W.findIn K (.ref (ga K d.nm)) d.fld) (some none), eqO (PySem.W.findIn K (.ref (ga K d.nm)) "__init__") (some (some (.ref (iAd K d.nm)))),
    decide (PySem.W.typeIn K (.ref (iAd K d.nm)) = some (.type "function")), PySem.W.keepIn K (.ref (ga K d.nm)), so (PySem.W.subIn K (.ref (ga K d.nm)) (.type "BaseException")), so (PySem.W.subIn K (.ref (ga K d.nm)) (.type "ValueError")), decide (PySem.W.typeIn K (.ref (ga K d.nm)) = some (.type "type")),
    so (PySem.W.mroIn K (ga K d.nm) (.ref (ga K d.nm))), eqO (PySem.W.ks_superIn K (ga K d.nm) (ga K d.nm) "__init__") (some (some (.builtin "ValueError.__init__"))), PySem.W.hasDictIn K (ga K d.nm),
    eqO (PySem.W.findIn K (.ref (ga K d.nm)) "__getattribute__") (some (some (.builtin "BaseException.__getattribute__"))), eqO (PySem.W.findIn K (.ref (ga K d.nm)) "__getattr__") (some none), eqO (PySem.W.findIn K (.ref (ga K d.nm)) "__class__") (some (some (.builtin "object.__class__"))),
    so (PySem.W.mroIn K (ga K d.nm) (.type "object")), so (PySem.W.exmOne K (.ref (ga K d.nm)) (.ref (ga K d.nm))), isEC K (ga K d.nm), fnB K file d] : List Bool)[i]? = some b → b = true := fun i b hi => c b (List.mem_of_getElem? hi)
  exact ⟨eqO_ok (g 0 rfl), eqO_ok (g 1 rfl), eqO_ok (g 2 rfl), of_decide_eq_true (g 3 rfl), g 4 rfl, of_decide_eq_true (g 5 rfl), of_decide_eq_true (g 6 rfl), of_decide_eq_true (g 7 rfl), of_decide_eq_true (g 8 rfl), eqO_ok (g 9 rfl), g 10 rfl, eqO_ok (g 11 rfl), eqO_ok (g 12 rfl), eqO_ok (g 13 rfl), of_decide_eq_true (g 14 rfl), of_decide_eq_true (g 15 rfl), isEC_ok (g 16 rfl), fnB_ok e (g 17 rfl)⟩
theorem ExF.xfc {K : PySem.W.Frag} {file : Str} {d : ExD} (e : ExF K file d) : XfC K (ga K d.nm) := ⟨e.gg, e.gk, e.exC, e.hd⟩
/-! ### the Hook -/
abbrev AlZ : Type := AlD × Bool × List ExV
abbrev Xtr : Type := List (PySem.W.Frag → Bool)
def stat (K : PySem.W.Frag) : Bool := eqO (PySem.W.nsIn K cStatics "thirdparty.any") (some none) && (eqO (PySem.W.specialIn K (.builtin "object.__class__") "__get__") (some (some (.builtin "getset_descriptor.__get__"))) && decide (PySem.W.takesIn K (.builtin "object.__class__") = some true))
def obsZ (fa : List Fa) (fn : List DefD) (ex : List ExD) (xt : Xtr) (file : Str) (K : PySem.W.Frag) : AlZ := (obsD fa fn K, stat K && ((ex.all fun d => d.ok K file) && xt.all fun f => f K), ex.map fun d => exObs K d.nm)
def valZ (fn : List DefD) (ex : List ExD) : AlZ := (valD fn, true, ex.map ExD.val)
def SaysZ (fa : List Fa) (fn : List DefD) (ex : List ExD) (xt : Xtr) (file : Str) (K : PySem.W.Frag) : Prop := obsZ fa fn ex xt file K = valZ fn ex
def obsZG (n : Nat) (fa : List Fa) (fn : List DefD) (ex : List ExD) (xt : Xtr) (file : Str) (g : Addr → Option Obj) : AlZ := obsZ fa fn ex xt file (frG g (asZ g n))
def hookZ (n : Nat) (fa : List Fa) (fn : List DefD) (ex : List ExD) (xt : Xtr) (file : Str) : PySem.W.Hook where
  α := AlZ
  obs := fun s => obsZG n fa fn ex xt file s.heap.get?
  val := fun _ => valZ fn ex
  says := fun _ h => ∃ K : PySem.W.Frag, K.In h ∧ SaysZ fa fn ex xt file K
  of := fun _ _ e => ⟨_, frG_in, e⟩
  keeps := fun _ _ _ ⟨K, hK, c⟩ k => ⟨K, PySem.W.Frag.In.keeps hK k, c⟩
theorem obsZG_eq {n : Nat} {fa : List Fa} {fn : List DefD} {ex : List ExD} {xt : Xtr} {file : Str} {g : Addr → Option Obj} {s : Shared} (h : ∀ a, g a = s.heap.get? a) : obsZG n fa fn ex xt file g = (hookZ n fa fn ex xt file).obs s := by
  have e : g = s.heap.get? := funext h
  rw [e] <;> rfl
section
variable {fa : List Fa} {fn : List DefD} {ex : List ExD} {xt : Xtr} {file : Str} {K : PySem.W.Frag}
theorem SaysZ.d (c : SaysZ fa fn ex xt file K) : SaysD fa fn K := congrArg (fun z : AlZ => z.1) c
theorem SaysZ.b (c : SaysZ fa fn ex xt file K) : stat K = true ∧ (∀ d ∈ ex, d.ok K file = true) ∧ ∀ f ∈ xt, f K = true := by
  have e : (stat K && ((ex.all fun d => d.ok K file) && xt.all fun f => f K)) = true := congrArg (fun z : AlZ => z.2.1) c
  obtain ⟨e1, e⟩ := ba e
  obtain ⟨e2, e3⟩ := ba e
  exact ⟨e1, List.all_eq_true.mp e2, List.all_eq_true.mp e3⟩
theorem SaysZ.exf (c : SaysZ fa fn ex xt file K) (i : Nat) {d : ExD} (h : ex[i]? = some d := by rfl) : ExF K file d := by
  have e : ex.map (fun d => exObs K d.nm) = ex.map ExD.val := congrArg (fun z : AlZ => z.2.2) c
  have e2 : (ex.map fun d => exObs K d.nm)[i]? = (ex.map ExD.val)[i]? := by rw [e]
  rw [List.getElem?_map, List.getElem?_map, h] at e2
  exact ex_ok (Option.some.inj e2) (c.b.2.1 d (List.mem_of_getElem? h))
theorem SaysZ.xtr (c : SaysZ fa fn ex xt file K) (i : Nat) {f : PySem.W.Frag → Bool} (h : xt[i]? = some f := by rfl) : f K = true := c.b.2.2 f (List.mem_of_getElem? h)
theorem SaysZ.op (c : SaysZ fa fn ex xt file K) : PySem.W.nsIn K cStatics "thirdparty.any" = some none := eqO_ok (ba c.b.1).1
theorem SaysZ.y6 (c : SaysZ fa fn ex xt file K) : PySem.W.specialIn K (.builtin "object.__class__") "__get__" = some (some (.builtin "getset_descriptor.__get__")) := eqO_ok (ba (ba c.b.1).2).1
theorem SaysZ.y7 (c : SaysZ fa fn ex xt file K) : PySem.W.takesIn K (.builtin "object.__class__") = some true := of_decide_eq_true (ba (ba c.b.1).2).2
theorem ExF.exc (e : ExF K file d) (c : SaysZ fa fn ex xt file K) : ExcC K (ga K d.nm) := ⟨e.gg, e.gk, e.exC, e.hd, e.gc, c.y6, c.y7, e.mo⟩
end
end ZH

set_option Elab.async false
set_option linter.all false
set_option maxRecDepth 100000
set_option maxHeartbeats 4000000
namespace PySem
namespace ZEX
open PySem.W PySem.Calls PyProof.Rows PySem.HandSPX
/-! ### NameTaken(slot) -/
def NameTaken_mA : Arguments := { posonlyargs := [], args := [{ arg := "self", annotation := none, pos := ⟨9, 17, 9, 21⟩ }, { arg := "name", annotation := none, pos := ⟨9, 23, 9, 27⟩ }], vararg := none, kwonlyargs := [], kw_defaults := [], kwarg := none, defaults := [] }
def NameTaken_mMsg : Str := PySem.Str.ofString "the name is in use"
def NameTaken_mB : List Stmt :=
  [.Expr (.Call (.Attribute (.Call (.Name "super" ⟨10, 8, 10, 13⟩) [] [] ⟨10, 8, 10, 15⟩) "__init__" ⟨10, 8, 10, 24⟩) [.Constant (.str NameTaken_mMsg) 0 ⟨10, 25, 10, 45⟩] [] ⟨10, 8, 10, 46⟩) ⟨10, 8, 10, 46⟩, .Assign [.Attribute (.Name "self" ⟨11, 8, 11, 12⟩) "name" ⟨11, 8, 11, 17⟩] (.Name "name" ⟨11, 20, 11, 24⟩) ⟨11, 8, 11, 24⟩]
def NameTaken_mS : Scope := { kind := .function, names := [(PySem.Str.ofString "self", .local), (PySem.Str.ofString "name", .local), (PySem.Str.ofString "__class__", .free), (PySem.Str.ofString "super", .globalImplicit)], isGenerator := false, isCoroutine := false, more := [] }
structure NameTakenTxt (prog : Program) (K : Frag) (mg : Str → Option Value) (C fI : Addr) : Prop where
  gC : mg "NameTaken" = some (.ref C)
  cls : ∃ nm q N bs bm sn sub ab col dd k0 k1 k2 k3 k5, K.lookup C = some (excClassObj nm q C N bs bm true sn sub ab col dd k0 k1 k2 k3 k5 "ValueError.__new__") ∧ refsVE bm = true
  sa : findIn K (.ref C) "__setattr__" = some (some (.builtin "object.__setattr__"))
  noN : findIn K (.ref C) "name" = some none
  iC : findIn K (.ref C) "__init__" = some (some (.ref fI))
  tC : typeIn K (.ref fI) = some (.type "function")
  kC : keepIn K (.ref C) = true
  exC : subIn K (.ref C) (.type "BaseException") = some true
  veC : subIn K (.ref C) (.type "ValueError") = some true
  tyC : typeIn K (.ref C) = some (.type "type")
  mro : mroIn K C (.ref C) = some true
  sup : ks_superIn K C C "__init__" = some (some (.builtin "ValueError.__init__"))
  op : nsIn K cStatics "thirdparty.any" = some none
  noS : mg "super" = none
  top : (prog.main.scope.names.lookup ("super" : Str)).isSome = false
  fn : ∃ (oc : Value) (od : Option Addr) (doc pm : Value) (an : Option Addr) (cda : Addr) (ct : Value) (osl : Array (Option Value)) (cc : Addr) (cl : Value) (cld : Option Addr) (csl : Array (Option Value)) (vs : Array Value) (ccl : Value) (cdd : Option Addr) (ccs : Array (Option Value)) (file : Str) (tf : Tok),
    K.lookup fI = some ⟨oc, od, .func (ksFn "__init__" "NameTaken.__init__" NameTaken_mA NameTaken_mB NameTaken_mS .none .none doc pm an (.ref cda) ct cc), osl⟩ ∧ codeIn K (.ref cda) "NameTaken.__init__" = true ∧
    K.lookup cc = some ⟨cl, cld, .cell (some (.ref C)), csl⟩ ∧ K.lookup cda = some ⟨ccl, cdd, .fields vs, ccs⟩ ∧ vs[2]? = some (.str file tf) ∧ ((prog.main.file : Str) == file) = true
/-- what __init__ leaves of a fresh exception at x -/
structure NameTakenEnd (h h' : Heap) (x C dx t1 : Addr) (v : Value) : Prop where
  keep : ∀ b o, b ≠ x → h.get? b = some o → h'.get? b = some o
  obj : h'.get? x = some { cls := .ref C, dict := some dx, data := .fields #[.ref t1, .none, .none, .none, .bool false, .none] }
  dbig : h.objs.size ≤ dx
  dne : dx ≠ x
  ns : h'.Ns1 dx (fun y => if y = "name" then some v else none)
section
variable {prog : Program} {w : World} {A : Around} {E : Value → Shared → Prop} {R : Result → Shared → Prop} {s : Shared} {K : Frag} {mg mb : Str → Option Value} {C fI : Addr}
theorem NameTaken_init (T : NameTakenTxt prog K mg C fI) {x t0 : Addr} {v : Value} (X : K.In s.heap) (hlim : s.heap.NoLimit) (G : s.heap.Ns mainGlobals mg) (Bl : s.heap.Ns builtinsNs mb) (hb : mb "super" = bootBuiltins "super") (hx : s.heap.get? x = some (excO C t0)) (hnx : K.lookup x = none) (hroom : A.depth < recursionLimit)
    (hq : ∀ h' tk dx t1, NameTakenEnd s.heap h' x C dx t1 v → R (.ok (.ret .none)) { s with heap := h', toks := tk }) :
    codeAny (model prog w) A (.call (.ref fI) ⟨[.ref x, v], []⟩) R s := by
  obtain ⟨oc, od, doc, pm, an, cda, ct, osl, cc, cl, cld, csl, vs, ccl, cdd, ccs, file, tf, ho, hcd, hcell, hcode, hvs, hfile⟩ := T.fn
  obtain ⟨nm, q, N, bs, bm, sn, sub, ab, col, dd, k0, k1, k2, k3, k5, hC, hbm⟩ := T.cls
  have hcl : clsIn K C = some { name := nm, bases := bs, mro := .ref C :: bm, ns := N, qualname := q, hasDict := true, slotNames := sn, subclasses := sub, abstract := ab, collection := col, hasDel := false } := by unfold clsIn; rw [hC] <;> rfl
  refine ks_codeAny_call_defAt (fd := ksFn "__init__" "NameTaken.__init__" NameTaken_mA NameTaken_mB NameTaken_mS .none .none doc pm an (.ref cda) ct cc) (body := NameTaken_mB) (binds := [("self", .ref x), ("name", v)]) hroom (X _ _ ho) rfl hlim (codeRec_of X hcd) rfl (BindsTo.of_eq (by first | rfl | with_unfolding_all rfl)) (by show ∀ x ∈ NameTaken_mS.names, x.2 ≠ .cell; decide) (by show ∀ y ∈ [(Str.ofString "self", Value.ref x), (Str.ofString "name", v)], NameTaken_mS.names.lookup y.1 = some .local; intro y m; simp only [List.mem_cons, List.not_mem_nil, or_false] at m; rcases m with rfl | rfl <;> rfl) (fun h₁ hns k => ?_)
  have X1 : K.In h₁ := X.keeps k
  have hx1 := k _ _ hx
  refine ks_wpAt_execs_cons (ks_wpAt_Expr_any (ks_wpAt_MethodCall ?_))
  refine ks_wpAt_super_base rfl rfl (by decide) rfl (X1 _ _ ho) rfl rfl rfl (X1 _ _ hcode) rfl hvs hfile T.top ?_
  refine ks_loadName_global rfl rfl (loadGlobal_builtin (mg := mg) (mb := mb) (G.keeps k) T.noS (Bl.keeps k) (hb.trans (show bootBuiltins "super" = some (.type "super") by rfl)) ⟨rfl, ?_⟩)
  refine wpAny_loadName_free rfl rfl rfl ⟨_, X1 _ _ hcell, rfl⟩ ?_
  refine wpAny_loadName_local rfl rfl hns (show (_ : Option Value) = some (.ref x) from rfl) ?_
  refine ks_wpAny_isType_cls (X1 _ _ hC) rfl ⟨rfl, ?_⟩
  refine ks_wpAny_call_super (X1 _ _ hC) rfl hx1 rfl (fun c e => nomatch e) (looks_mroIn X1 T.mro) (fun h2 hso k2 => ?_)
  have X2 : K.In h2 := X1.keeps k2
  have hx2 := k2 _ _ hx1
  have I2 : InstAt h2 x (excO C t0) C none := ⟨hx2, rfl, rfl, trivial⟩
  have hI : Looks (model prog w) h2 (isInstance (.ref x) (.type "ValueError")) true := I2.type.andThen (looks_subIn X2 T.veC)
  have hxC : x ≠ C := ks_ne X2 I2 hcl
  have hm := T.sup
  unfold ks_superIn at hm
  rw [hcl] at hm
  refine kxs_getMethod kxs_ValueError hso (looks_opaque X2 T.op) (l₀ := .ref C :: bm) (fun A Q E s k q => wpAny_bind ((looks_clsIn X2 hcl) A _ E s k (wpAny_pure q))) rfl X2 hm hI hxC (by decide) ?_
  have hu3 : (h2.push (kxs_mw "ValueError.__init__" x)).get? h2.objs.size = some (kxs_mw "ValueError.__init__" x) := Heap.get?_push_at rfl rfl
  have k3 : ∀ b o, h2.get? b = some o → (h2.push (kxs_mw "ValueError.__init__" x)).get? b = some o := fun b o e => Heap.get?_push_of_some _ e
  have k03 : ∀ b o, s.heap.get? b = some o → (h2.push (kxs_mw "ValueError.__init__" x)).get? b = some o := fun b o e => k3 _ _ (k2 _ _ (k _ _ e))
  refine kxs_callWith (i := "ValueError.__init__") (x := x) rfl ?_
  refine evalArgs_plain (spliced_cons (wpAny_Constant_str (k := 0) (pos := ⟨10, 25, 10, 45⟩) (spliced_nil ⟨hu3, ?_⟩)))
  refine call_bv (k03 _ _ (X _ _ hC)) (k3 _ _ hx2) hu3 (by show 1 ≤ sizeLine; rw [sizeLine_eq]; decide) (fun h4 t1 k4 hx4 => ?_)
  have hxL : s.heap.objs.size ≠ x := Nat.ne_of_gt (Heap.lt_size hx)
  have X4 : K.In h4 := fun a o e => k4 a o (fun z => by rw [z, hnx] at e; cases e) (k3 _ _ (X2 _ _ e))
  have hns4 : h4.Ns s.heap.objs.size (fun y => [(Str.ofString "self", Value.ref x), (Str.ofString "name", v)].reverse.lookup y) := by
    obtain ⟨oL, es, ep, hL, r⟩ := hns
    exact ⟨oL, es, ep, k4 _ _ hxL (k3 _ _ (k2 _ _ hL)), r⟩
  refine wpAt_of_wpAny (wpAny_execs_cons (plainObj_wpAny_Assign_Attribute ?_))
  refine wpAny_Name (wpAny_loadName_local rfl rfl hns4 (show (_ : Option Value) = some v from rfl) ?_) (by decide)
  refine wpAny_Name (wpAny_loadName_local rfl rfl hns4 (show (_ : Option Value) = some (.ref x) from rfl) ?_) (by decide)
  refine set_plain X4 (ox := excO C t1) (od := none) ⟨hx4, rfl, rfl, trivial⟩ T.sa ?_
  refine exc_osa X4 hx4 hcl (show refsVE (.ref C :: bm) = true from hbm) rfl T.noN (fun h5 tk5 dx k5 dn dne hx5 hn5 => ?_)
  show wpAny _ _ (execs _ _) _ _ _
  have keep : ∀ b o, b ≠ x → s.heap.get? b = some o → h5.get? b = some o := fun b o hb e => k5 b o hb (k4 b o hb (k03 b o e))
  have big : s.heap.objs.size ≤ dx := by
    obtain ⟨oL, _, _, hL, _⟩ := hns4
    exact Nat.le_of_lt (Nat.lt_of_lt_of_le (Heap.lt_size hL) dn)
  exact wpAny_execs_nil (hq h5 tk5 dx t1 ⟨keep, hx5, big, dne, hn5⟩)
/-- a made NameTaken -/
structure NameTakenMade (h h' : Heap) (e C d : Addr) (v : Value) : Prop where
  keep : ∀ b o, h.get? b = some o → h'.get? b = some o
  new : h.objs.size ≤ e
  obj : ∃ oe vs, h'.get? e = some oe ∧ oe.cls = .ref C ∧ oe.dict = some d ∧ oe.data = .fields vs ∧ vs[1]? = some .none ∧ vs[2]? = some .none ∧ 4 < vs.size
  dbig : h.objs.size ≤ d
  dne : d ≠ e
  ns : h'.Ns1 d (fun y => if y = "name" then some v else none)
theorem NameTaken_made (T : NameTakenTxt prog K mg C fI) {v : Value} (X : K.In s.heap) (hlim : s.heap.NoLimit) (G : s.heap.Ns mainGlobals mg) (Bl : s.heap.Ns builtinsNs mb) (hb : mb "super" = bootBuiltins "super") (hroom : A.depth + 1 < recursionLimit)
    (hq : ∀ h' tk e d, NameTakenMade s.heap h' e C d v → R (.ok (.ret (.ref e))) { s with heap := h', toks := tk }) :
    codeAny (model prog w) A (.call (.ref C) ⟨[v], []⟩) R s := by
  obtain ⟨nm, q, N, bs, bm, sn, sub, ab, col, dd, k0, k1, k2, k3, k5, hC, hbm⟩ := T.cls
  obtain ⟨hp, g, dr, tk, os⟩ := s
  have k : ∀ b o, hp.get? b = some o → ((hp.push (kdv_tup [v])).push (excO C hp.objs.size)).get? b = some o := fun b o e => Heap.get?_push_of_some _ (Heap.get?_push_of_some _ e)
  have hget : ((hp.push (kdv_tup [v])).push (excO C hp.objs.size)).get? (hp.objs.size + 1) = some (excO C hp.objs.size) := by heap_get
  have hnx : K.lookup (hp.objs.size + 1) = none := by
    cases e : K.lookup (hp.objs.size + 1) with
    | none => rfl
    | some o =>
      have z : hp.get? (hp.objs.size + 1) = some o := X _ _ e
      exact absurd (Nat.lt_of_succ_lt (Heap.lt_size z)) (Nat.lt_irrefl _)
  refine call_own F.excBase_ValueError (fun X => refsVE_contains X bm hbm) (X _ _ hC) (looks_findIn X T.iC) (fun self => bind_fn X self T.tC) (by show 1 ≤ sizeLine; rw [sizeLine_eq]; decide) ?_
  refine NameTaken_init (s := ⟨(hp.push (kdv_tup [v])).push (excO C hp.objs.size), g, dr, tk, os⟩) T (X.keeps k) (hlim.keeps k) (G.keeps k) (Bl.keeps k) hb hget hnx ?_ fun h' tk' dx t1 ⟨k', hx, dn, dne, hns⟩ => ?_
  · show A.depth + 1 < recursionLimit
    exact hroom
  · have old : ∀ b o, hp.get? b = some o → h'.get? b = some o := fun b o e => k' b o (Nat.ne_of_lt (Nat.lt_succ_of_lt (Heap.lt_size e))) (k b o e)
    have z : hp.objs.size + 1 + 1 ≤ dx := by
      first
        | (simpa only [Heap.size_push] using dn)
        | exact dn
        | (have q := dn; rw [Heap.size_push, Heap.size_push] at q; exact q)
    exact ⟨rfl, hq h' tk' (hp.objs.size + 1) dx ⟨old, Nat.le_succ _, ⟨_, _, hx, rfl, rfl, rfl, rfl, rfl, by show (4 : Nat) < 6; decide⟩, Nat.le_trans (Nat.le_trans (Nat.le_succ _) (Nat.le_succ _)) z, dne, hns⟩⟩
end
end ZEX
end PySem
namespace L2
open PySem PySem.Spec PyProof.Rows
theorem relO_NameTaken {v : V} {v' : Value} (r : RelV v v') (f : Str) : RelO (List.lookup f [(("name" : Str), v)]) (if f = "name" then some v' else none) := by
  by_cases hw : f = "name"
  · subst hw
    rw [if_pos rfl]
    have q : List.lookup ("name" : Str) [(("name" : Str), v)] = some v := by simp [List.lookup]
    rw [q]
    exact r
  · rw [if_neg hw]
    have qw : (f == ("name" : Str)) = false := by simpa using hw
    have q2 : List.lookup f [(("name" : Str), v)] = none := by simp [List.lookup, qw]
    rw [q2]
    trivial
section
variable {X : Cx} {C fI : Addr}
/-- NameTaken(e) -/
def tMkNameTaken (C : Addr) (ta : TA) : St → Hp → XK → Prop := fun σ H Q => ta σ H fun vs H1 => ∃ v, vs = [v] ∧ ∀ d, H1 d = none → Q (.ref C) (some d) (upd H1 d (.xd [(("name" : Str), v)]))
theorem pmk_NameTaken {a : Expr} {ta : TA} {p pos : Pos} {k : Nat} (T : PySem.ZEX.NameTakenTxt X.prog X.K X.mg C fI) (hr : Room k X.A) (ha : PA X [a] ta) (hg : Gl X "NameTaken" := by rfl)
    (he : starEach (a :: []) X.env = (false, eval a X.env) :: starEach [] X.env := by rfl) (hpl : (backTo pos (starEach [] X.env)).any (·.1) = false := by rfl) :
    PMk X (.Call (.Name "NameTaken" p) [a] [] pos) (tMkNameTaken C ta) := by
  intro pins s σ H Q I h
  refine wpAny_Call_Name_kw (ld_glob I hg T.gC ?_)
  refine PySem.W.callWith_K (h₀ := X.base) I.ok.mod.kin T.kC (thn (ha.run pos pins s σ H _ I h) fun us s1 hh => ?_) he hpl
  obtain ⟨vs, H1, I1, r1, v, ev, q1⟩ := hh
  subst ev
  refine ⟨I1.kIn, ?_⟩
  cases r1 with
  | cons rv rn =>
    rename_i v' us'
    cases rn
    show wpAny _ _ (call (.ref C) [v']) _ _ _
    have hlim := I1.nolimit
    obtain ⟨mb, h1, h2⟩ := I1.mod.blt
    have hG := I1.mod.glob.keeps I1.bk
    have hB := h1.keeps I1.bk
    obtain ⟨hp, g, dr, tk, os⟩ := s1
    refine wpAny_call (PySem.ZEX.NameTaken_made T I1.kIn hlim hG hB (h2 _ (by decide)) (by have := hr.dp; omega) fun h' tk' e d M => ?_)
    show MkP X pins σ Q (.ref e) ⟨h', g, dr, tk', os⟩
    obtain ⟨oe, fv, hoe, hc, hd, hdat, h1, _⟩ := M.obj
    have hns := M.ns
    obtain ⟨G', g1, g2⟩ := restrict h' fun b => decide (b ≠ e)
    have gk : ∀ b, b ≠ e → G'.get? b = h'.get? b := fun b hb => g1 b (decide_eq_true hb)
    have ge : G'.get? e = none := g2 e (by simp)
    have old : ∀ b o, hp.get? b = some o → G'.get? b = some o := fun b o q => (gk b (Nat.ne_of_lt (Nat.lt_of_lt_of_le (Heap.lt_size q) M.new))).trans (M.keep b o q)
    have ob : ObjOk X.prog X.w (upd H1 d (.xd [(("name" : Str), v)])) G' d (.xd [(("name" : Str), v)]) :=
      ⟨_, hns.at (fun o q => (gk d M.dne).trans q), fun f => relO_NameTaken rv f⟩
    have J : Inv X pins σ (upd H1 d (.xd [(("name" : Str), v)])) ⟨G', g, dr, tk', os⟩ := I1.laid (t' := tk') old M.dbig ob
    refine ⟨e, oe, fv, ⟨G', g, dr, tk', os⟩, _, .ref C, some d, rfl, J, fun b o q => ?_, ge, hoe, ⟨hc, hd⟩, hdat, h1, ?_, rfl, I1.bare, raises_own T.exC T.tyC, q1 d (I1.hok.fresh M.dbig)⟩
    · by_cases hb : b = e
      · have q' : G'.get? b = some o := q
        rw [hb, ge] at q'; cases q'
      · exact (gk b hb).symm.trans q
    · rw [upd_ne (Ne.symm M.dne)]
      exact I1.hok.fresh M.new
end
end L2
namespace L2
open PySem PySem.Spec PyProof.Rows
section
variable {X : Cx} {C fI : Addr}
theorem pmk5_NameTaken {a : Expr} {ta : TA} {p pos : Pos} {k : Nat} (T : PySem.ZEX.NameTakenTxt X.prog X.K X.mg C fI) (hr : L2H.RoomH k X.A) (ha : PA X [a] ta) (hg : Gl X "NameTaken" := by rfl)
    (he : starEach (a :: []) X.env = (false, eval a X.env) :: starEach [] X.env := by rfl) (hpl : (backTo pos (starEach [] X.env)).any (·.1) = false := by rfl) :
    L2H.PMk5 X (.Call (.Name "NameTaken" p) [a] [] pos) (tMkNameTaken C ta) := by
  intro pins s σ H Q I h
  refine wpAny_Call_Name_kw (ld_glob I hg T.gC ?_)
  refine PySem.W.callWith_K (h₀ := X.base) I.ok.mod.kin T.kC (thn (ha.run pos pins s σ H _ I h) fun us s1 hh => ?_) he hpl
  obtain ⟨vs, H1, I1, r1, v, ev, q1⟩ := hh
  subst ev
  refine ⟨I1.kIn, ?_⟩
  cases r1 with
  | cons rv rn =>
    rename_i v' us'
    cases rn
    show wpAny _ _ (call (.ref C) [v']) _ _ _
    have hlim := I1.nolimit
    obtain ⟨mb, h1, h2⟩ := I1.mod.blt
    have hG := I1.mod.glob.keeps I1.bk
    have hB := h1.keeps I1.bk
    obtain ⟨hp, g, dr, tk, os⟩ := s1
    refine wpAny_call (PySem.ZEX.NameTaken_made T I1.kIn hlim hG hB (h2 _ (by decide)) (by have := hr.dp; omega) fun h' tk' e d M => ?_)
    show L2N.MkP X pins σ Q (.ref e) ⟨h', g, dr, tk', os⟩ ∧ L2H.Six (.ref e) ⟨h', g, dr, tk', os⟩
    obtain ⟨oe, fv, hoe, hc, hd, hdat, h1, h2x, h5x⟩ := M.obj
    have hns := M.ns
    obtain ⟨G', g1, g2⟩ := restrict h' fun b => decide (b ≠ e)
    have gk : ∀ b, b ≠ e → G'.get? b = h'.get? b := fun b hb => g1 b (decide_eq_true hb)
    have ge : G'.get? e = none := g2 e (by simp)
    have old : ∀ b o, hp.get? b = some o → G'.get? b = some o := fun b o q => (gk b (Nat.ne_of_lt (Nat.lt_of_lt_of_le (Heap.lt_size q) M.new))).trans (M.keep b o q)
    have ob : ObjOk X.prog X.w (upd H1 d (.xd [(("name" : Str), v)])) G' d (.xd [(("name" : Str), v)]) :=
      ⟨_, hns.at (fun o q => (gk d M.dne).trans q), fun f => relO_NameTaken rv f⟩
    have J : Inv X pins σ (upd H1 d (.xd [(("name" : Str), v)])) ⟨G', g, dr, tk', os⟩ := I1.laid (t' := tk') old M.dbig ob
    refine ⟨⟨e, oe, fv, ⟨G', g, dr, tk', os⟩, _, .ref C, some d, rfl, J, fun b o q => ?_, ge, hoe, ⟨hc, hd, fun vs z => by rw [hdat] at z; cases z; exact h2x⟩, hdat, h1, ?_, rfl, I1.bare, raises_own T.exC T.tyC, q1 d (I1.hok.fresh M.dbig)⟩, fun a2 o2 v2 ea hg2 hd2 => ?_⟩
    · by_cases hb : b = e
      · have q' : G'.get? b = some o := q
        rw [hb, ge] at q'; cases q'
      · exact (gk b hb).symm.trans q
    · rw [upd_ne (Ne.symm M.dne)]
      exact I1.hok.fresh M.new
    · cases ea
      have hg2' : h'.get? e = some o2 := hg2
      rw [hoe] at hg2'
      cases hg2'
      rw [hdat] at hd2
      cases hd2
      exact h5x
theorem pmkN_NameTaken {a : Expr} {ta : TA} {p pos : Pos} {k : Nat} (T : PySem.ZEX.NameTakenTxt X.prog X.K X.mg C fI) (hr : Room k X.A) (ha : PA X [a] ta) (hg : Gl X "NameTaken" := by rfl)
    (he : starEach (a :: []) X.env = (false, eval a X.env) :: starEach [] X.env := by rfl) (hpl : (backTo pos (starEach [] X.env)).any (·.1) = false := by rfl) :
    L2N.PMk X (.Call (.Name "NameTaken" p) [a] [] pos) (tMkNameTaken C ta) := (pmk5_NameTaken T (L2H.roomH_of hr) ha hg he hpl).pmk
end
end L2
namespace PySem
namespace ZEX
open PySem.W PySem.Calls PyProof.Rows PySem.HandSPX
/-! ### NoHolder(slot) -/
def NoHolder_mA : Arguments := { posonlyargs := [], args := [{ arg := "self", annotation := none, pos := ⟨14, 17, 14, 21⟩ }, { arg := "name", annotation := none, pos := ⟨14, 23, 14, 27⟩ }], vararg := none, kwonlyargs := [], kw_defaults := [], kwarg := none, defaults := [] }
def NoHolder_mMsg : Str := PySem.Str.ofString "there is no such holder"
def NoHolder_mB : List Stmt :=
  [.Expr (.Call (.Attribute (.Call (.Name "super" ⟨15, 8, 15, 13⟩) [] [] ⟨15, 8, 15, 15⟩) "__init__" ⟨15, 8, 15, 24⟩) [.Constant (.str NoHolder_mMsg) 0 ⟨15, 25, 15, 50⟩] [] ⟨15, 8, 15, 51⟩) ⟨15, 8, 15, 51⟩, .Assign [.Attribute (.Name "self" ⟨16, 8, 16, 12⟩) "name" ⟨16, 8, 16, 17⟩] (.Name "name" ⟨16, 20, 16, 24⟩) ⟨16, 8, 16, 24⟩]
def NoHolder_mS : Scope := { kind := .function, names := [(PySem.Str.ofString "self", .local), (PySem.Str.ofString "name", .local), (PySem.Str.ofString "__class__", .free), (PySem.Str.ofString "super", .globalImplicit)], isGenerator := false, isCoroutine := false, more := [] }
structure NoHolderTxt (prog : Program) (K : Frag) (mg : Str → Option Value) (C fI : Addr) : Prop where
  gC : mg "NoHolder" = some (.ref C)
  cls : ∃ nm q N bs bm sn sub ab col dd k0 k1 k2 k3 k5, K.lookup C = some (excClassObj nm q C N bs bm true sn sub ab col dd k0 k1 k2 k3 k5 "ValueError.__new__") ∧ refsVE bm = true
  sa : findIn K (.ref C) "__setattr__" = some (some (.builtin "object.__setattr__"))
  noN : findIn K (.ref C) "name" = some none
  iC : findIn K (.ref C) "__init__" = some (some (.ref fI))
  tC : typeIn K (.ref fI) = some (.type "function")
  kC : keepIn K (.ref C) = true
  exC : subIn K (.ref C) (.type "BaseException") = some true
  veC : subIn K (.ref C) (.type "ValueError") = some true
  tyC : typeIn K (.ref C) = some (.type "type")
  mro : mroIn K C (.ref C) = some true
  sup : ks_superIn K C C "__init__" = some (some (.builtin "ValueError.__init__"))
  op : nsIn K cStatics "thirdparty.any" = some none
  noS : mg "super" = none
  top : (prog.main.scope.names.lookup ("super" : Str)).isSome = false
  fn : ∃ (oc : Value) (od : Option Addr) (doc pm : Value) (an : Option Addr) (cda : Addr) (ct : Value) (osl : Array (Option Value)) (cc : Addr) (cl : Value) (cld : Option Addr) (csl : Array (Option Value)) (vs : Array Value) (ccl : Value) (cdd : Option Addr) (ccs : Array (Option Value)) (file : Str) (tf : Tok),
    K.lookup fI = some ⟨oc, od, .func (ksFn "__init__" "NoHolder.__init__" NoHolder_mA NoHolder_mB NoHolder_mS .none .none doc pm an (.ref cda) ct cc), osl⟩ ∧ codeIn K (.ref cda) "NoHolder.__init__" = true ∧
    K.lookup cc = some ⟨cl, cld, .cell (some (.ref C)), csl⟩ ∧ K.lookup cda = some ⟨ccl, cdd, .fields vs, ccs⟩ ∧ vs[2]? = some (.str file tf) ∧ ((prog.main.file : Str) == file) = true
/-- what __init__ leaves of a fresh exception at x -/
structure NoHolderEnd (h h' : Heap) (x C dx t1 : Addr) (v : Value) : Prop where
  keep : ∀ b o, b ≠ x → h.get? b = some o → h'.get? b = some o
  obj : h'.get? x = some { cls := .ref C, dict := some dx, data := .fields #[.ref t1, .none, .none, .none, .bool false, .none] }
  dbig : h.objs.size ≤ dx
  dne : dx ≠ x
  ns : h'.Ns1 dx (fun y => if y = "name" then some v else none)
section
variable {prog : Program} {w : World} {A : Around} {E : Value → Shared → Prop} {R : Result → Shared → Prop} {s : Shared} {K : Frag} {mg mb : Str → Option Value} {C fI : Addr}
theorem NoHolder_init (T : NoHolderTxt prog K mg C fI) {x t0 : Addr} {v : Value} (X : K.In s.heap) (hlim : s.heap.NoLimit) (G : s.heap.Ns mainGlobals mg) (Bl : s.heap.Ns builtinsNs mb) (hb : mb "super" = bootBuiltins "super") (hx : s.heap.get? x = some (excO C t0)) (hnx : K.lookup x = none) (hroom : A.depth < recursionLimit)
    (hq : ∀ h' tk dx t1, NoHolderEnd s.heap h' x C dx t1 v → R (.ok (.ret .none)) { s with heap := h', toks := tk }) :
    codeAny (model prog w) A (.call (.ref fI) ⟨[.ref x, v], []⟩) R s := by
  obtain ⟨oc, od, doc, pm, an, cda, ct, osl, cc, cl, cld, csl, vs, ccl, cdd, ccs, file, tf, ho, hcd, hcell, hcode, hvs, hfile⟩ := T.fn
  obtain ⟨nm, q, N, bs, bm, sn, sub, ab, col, dd, k0, k1, k2, k3, k5, hC, hbm⟩ := T.cls
  have hcl : clsIn K C = some { name := nm, bases := bs, mro := .ref C :: bm, ns := N, qualname := q, hasDict := true, slotNames := sn, subclasses := sub, abstract := ab, collection := col, hasDel := false } := by unfold clsIn; rw [hC] <;> rfl
  refine ks_codeAny_call_defAt (fd := ksFn "__init__" "NoHolder.__init__" NoHolder_mA NoHolder_mB NoHolder_mS .none .none doc pm an (.ref cda) ct cc) (body := NoHolder_mB) (binds := [("self", .ref x), ("name", v)]) hroom (X _ _ ho) rfl hlim (codeRec_of X hcd) rfl (BindsTo.of_eq (by first | rfl | with_unfolding_all rfl)) (by show ∀ x ∈ NoHolder_mS.names, x.2 ≠ .cell; decide) (by show ∀ y ∈ [(Str.ofString "self", Value.ref x), (Str.ofString "name", v)], NoHolder_mS.names.lookup y.1 = some .local; intro y m; simp only [List.mem_cons, List.not_mem_nil, or_false] at m; rcases m with rfl | rfl <;> rfl) (fun h₁ hns k => ?_)
  have X1 : K.In h₁ := X.keeps k
  have hx1 := k _ _ hx
  refine ks_wpAt_execs_cons (ks_wpAt_Expr_any (ks_wpAt_MethodCall ?_))
  refine ks_wpAt_super_base rfl rfl (by decide) rfl (X1 _ _ ho) rfl rfl rfl (X1 _ _ hcode) rfl hvs hfile T.top ?_
  refine ks_loadName_global rfl rfl (loadGlobal_builtin (mg := mg) (mb := mb) (G.keeps k) T.noS (Bl.keeps k) (hb.trans (show bootBuiltins "super" = some (.type "super") by rfl)) ⟨rfl, ?_⟩)
  refine wpAny_loadName_free rfl rfl rfl ⟨_, X1 _ _ hcell, rfl⟩ ?_
  refine wpAny_loadName_local rfl rfl hns (show (_ : Option Value) = some (.ref x) from rfl) ?_
  refine ks_wpAny_isType_cls (X1 _ _ hC) rfl ⟨rfl, ?_⟩
  refine ks_wpAny_call_super (X1 _ _ hC) rfl hx1 rfl (fun c e => nomatch e) (looks_mroIn X1 T.mro) (fun h2 hso k2 => ?_)
  have X2 : K.In h2 := X1.keeps k2
  have hx2 := k2 _ _ hx1
  have I2 : InstAt h2 x (excO C t0) C none := ⟨hx2, rfl, rfl, trivial⟩
  have hI : Looks (model prog w) h2 (isInstance (.ref x) (.type "ValueError")) true := I2.type.andThen (looks_subIn X2 T.veC)
  have hxC : x ≠ C := ks_ne X2 I2 hcl
  have hm := T.sup
  unfold ks_superIn at hm
  rw [hcl] at hm
  refine kxs_getMethod kxs_ValueError hso (looks_opaque X2 T.op) (l₀ := .ref C :: bm) (fun A Q E s k q => wpAny_bind ((looks_clsIn X2 hcl) A _ E s k (wpAny_pure q))) rfl X2 hm hI hxC (by decide) ?_
  have hu3 : (h2.push (kxs_mw "ValueError.__init__" x)).get? h2.objs.size = some (kxs_mw "ValueError.__init__" x) := Heap.get?_push_at rfl rfl
  have k3 : ∀ b o, h2.get? b = some o → (h2.push (kxs_mw "ValueError.__init__" x)).get? b = some o := fun b o e => Heap.get?_push_of_some _ e
  have k03 : ∀ b o, s.heap.get? b = some o → (h2.push (kxs_mw "ValueError.__init__" x)).get? b = some o := fun b o e => k3 _ _ (k2 _ _ (k _ _ e))
  refine kxs_callWith (i := "ValueError.__init__") (x := x) rfl ?_
  refine evalArgs_plain (spliced_cons (wpAny_Constant_str (k := 0) (pos := ⟨15, 25, 15, 50⟩) (spliced_nil ⟨hu3, ?_⟩)))
  refine call_bv (k03 _ _ (X _ _ hC)) (k3 _ _ hx2) hu3 (by show 1 ≤ sizeLine; rw [sizeLine_eq]; decide) (fun h4 t1 k4 hx4 => ?_)
  have hxL : s.heap.objs.size ≠ x := Nat.ne_of_gt (Heap.lt_size hx)
  have X4 : K.In h4 := fun a o e => k4 a o (fun z => by rw [z, hnx] at e; cases e) (k3 _ _ (X2 _ _ e))
  have hns4 : h4.Ns s.heap.objs.size (fun y => [(Str.ofString "self", Value.ref x), (Str.ofString "name", v)].reverse.lookup y) := by
    obtain ⟨oL, es, ep, hL, r⟩ := hns
    exact ⟨oL, es, ep, k4 _ _ hxL (k3 _ _ (k2 _ _ hL)), r⟩
  refine wpAt_of_wpAny (wpAny_execs_cons (plainObj_wpAny_Assign_Attribute ?_))
  refine wpAny_Name (wpAny_loadName_local rfl rfl hns4 (show (_ : Option Value) = some v from rfl) ?_) (by decide)
  refine wpAny_Name (wpAny_loadName_local rfl rfl hns4 (show (_ : Option Value) = some (.ref x) from rfl) ?_) (by decide)
  refine set_plain X4 (ox := excO C t1) (od := none) ⟨hx4, rfl, rfl, trivial⟩ T.sa ?_
  refine exc_osa X4 hx4 hcl (show refsVE (.ref C :: bm) = true from hbm) rfl T.noN (fun h5 tk5 dx k5 dn dne hx5 hn5 => ?_)
  show wpAny _ _ (execs _ _) _ _ _
  have keep : ∀ b o, b ≠ x → s.heap.get? b = some o → h5.get? b = some o := fun b o hb e => k5 b o hb (k4 b o hb (k03 b o e))
  have big : s.heap.objs.size ≤ dx := by
    obtain ⟨oL, _, _, hL, _⟩ := hns4
    exact Nat.le_of_lt (Nat.lt_of_lt_of_le (Heap.lt_size hL) dn)
  exact wpAny_execs_nil (hq h5 tk5 dx t1 ⟨keep, hx5, big, dne, hn5⟩)
/-- a made NoHolder -/
structure NoHolderMade (h h' : Heap) (e C d : Addr) (v : Value) : Prop where
  keep : ∀ b o, h.get? b = some o → h'.get? b = some o
  new : h.objs.size ≤ e
  obj : ∃ oe vs, h'.get? e = some oe ∧ oe.cls = .ref C ∧ oe.dict = some d ∧ oe.data = .fields vs ∧ vs[1]? = some .none ∧ vs[2]? = some .none ∧ 4 < vs.size
  dbig : h.objs.size ≤ d
  dne : d ≠ e
  ns : h'.Ns1 d (fun y => if y = "name" then some v else none)
theorem NoHolder_made (T : NoHolderTxt prog K mg C fI) {v : Value} (X : K.In s.heap) (hlim : s.heap.NoLimit) (G : s.heap.Ns mainGlobals mg) (Bl : s.heap.Ns builtinsNs mb) (hb : mb "super" = bootBuiltins "super") (hroom : A.depth + 1 < recursionLimit)
    (hq : ∀ h' tk e d, NoHolderMade s.heap h' e C d v → R (.ok (.ret (.ref e))) { s with heap := h', toks := tk }) :
    codeAny (model prog w) A (.call (.ref C) ⟨[v], []⟩) R s := by
  obtain ⟨nm, q, N, bs, bm, sn, sub, ab, col, dd, k0, k1, k2, k3, k5, hC, hbm⟩ := T.cls
  obtain ⟨hp, g, dr, tk, os⟩ := s
  have k : ∀ b o, hp.get? b = some o → ((hp.push (kdv_tup [v])).push (excO C hp.objs.size)).get? b = some o := fun b o e => Heap.get?_push_of_some _ (Heap.get?_push_of_some _ e)
  have hget : ((hp.push (kdv_tup [v])).push (excO C hp.objs.size)).get? (hp.objs.size + 1) = some (excO C hp.objs.size) := by heap_get
  have hnx : K.lookup (hp.objs.size + 1) = none := by
    cases e : K.lookup (hp.objs.size + 1) with
    | none => rfl
    | some o =>
      have z : hp.get? (hp.objs.size + 1) = some o := X _ _ e
      exact absurd (Nat.lt_of_succ_lt (Heap.lt_size z)) (Nat.lt_irrefl _)
  refine call_own F.excBase_ValueError (fun X => refsVE_contains X bm hbm) (X _ _ hC) (looks_findIn X T.iC) (fun self => bind_fn X self T.tC) (by show 1 ≤ sizeLine; rw [sizeLine_eq]; decide) ?_
  refine NoHolder_init (s := ⟨(hp.push (kdv_tup [v])).push (excO C hp.objs.size), g, dr, tk, os⟩) T (X.keeps k) (hlim.keeps k) (G.keeps k) (Bl.keeps k) hb hget hnx ?_ fun h' tk' dx t1 ⟨k', hx, dn, dne, hns⟩ => ?_
  · show A.depth + 1 < recursionLimit
    exact hroom
  · have old : ∀ b o, hp.get? b = some o → h'.get? b = some o := fun b o e => k' b o (Nat.ne_of_lt (Nat.lt_succ_of_lt (Heap.lt_size e))) (k b o e)
    have z : hp.objs.size + 1 + 1 ≤ dx := by
      first
        | (simpa only [Heap.size_push] using dn)
        | exact dn
        | (have q := dn; rw [Heap.size_push, Heap.size_push] at q; exact q)
    exact ⟨rfl, hq h' tk' (hp.objs.size + 1) dx ⟨old, Nat.le_succ _, ⟨_, _, hx, rfl, rfl, rfl, rfl, rfl, by show (4 : Nat) < 6; decide⟩, Nat.le_trans (Nat.le_trans (Nat.le_succ _) (Nat.le_succ _)) z, dne, hns⟩⟩
end
end ZEX
end PySem
namespace L2
open PySem PySem.Spec PyProof.Rows
theorem relO_NoHolder {v : V} {v' : Value} (r : RelV v v') (f : Str) : RelO (List.lookup f [(("name" : Str), v)]) (if f = "name" then some v' else none) := by
  by_cases hw : f = "name"
  · subst hw
    rw [if_pos rfl]
    have q : List.lookup ("name" : Str) [(("name" : Str), v)] = some v := by simp [List.lookup]
    rw [q]
    exact r
  · rw [if_neg hw]
    have qw : (f == ("name" : Str)) = false := by simpa using hw
    have q2 : List.lookup f [(("name" : Str), v)] = none := by simp [List.lookup, qw]
    rw [q2]
    trivial
section
variable {X : Cx} {C fI : Addr}
/-- NoHolder(e) -/
def tMkNoHolder (C : Addr) (ta : TA) : St → Hp → XK → Prop := fun σ H Q => ta σ H fun vs H1 => ∃ v, vs = [v] ∧ ∀ d, H1 d = none → Q (.ref C) (some d) (upd H1 d (.xd [(("name" : Str), v)]))
theorem pmk_NoHolder {a : Expr} {ta : TA} {p pos : Pos} {k : Nat} (T : PySem.ZEX.NoHolderTxt X.prog X.K X.mg C fI) (hr : Room k X.A) (ha : PA X [a] ta) (hg : Gl X "NoHolder" := by rfl)
    (he : starEach (a :: []) X.env = (false, eval a X.env) :: starEach [] X.env := by rfl) (hpl : (backTo pos (starEach [] X.env)).any (·.1) = false := by rfl) :
    PMk X (.Call (.Name "NoHolder" p) [a] [] pos) (tMkNoHolder C ta) := by
  intro pins s σ H Q I h
  refine wpAny_Call_Name_kw (ld_glob I hg T.gC ?_)
  refine PySem.W.callWith_K (h₀ := X.base) I.ok.mod.kin T.kC (thn (ha.run pos pins s σ H _ I h) fun us s1 hh => ?_) he hpl
  obtain ⟨vs, H1, I1, r1, v, ev, q1⟩ := hh
  subst ev
  refine ⟨I1.kIn, ?_⟩
  cases r1 with
  | cons rv rn =>
    rename_i v' us'
    cases rn
    show wpAny _ _ (call (.ref C) [v']) _ _ _
    have hlim := I1.nolimit
    obtain ⟨mb, h1, h2⟩ := I1.mod.blt
    have hG := I1.mod.glob.keeps I1.bk
    have hB := h1.keeps I1.bk
    obtain ⟨hp, g, dr, tk, os⟩ := s1
    refine wpAny_call (PySem.ZEX.NoHolder_made T I1.kIn hlim hG hB (h2 _ (by decide)) (by have := hr.dp; omega) fun h' tk' e d M => ?_)
    show MkP X pins σ Q (.ref e) ⟨h', g, dr, tk', os⟩
    obtain ⟨oe, fv, hoe, hc, hd, hdat, h1, _⟩ := M.obj
    have hns := M.ns
    obtain ⟨G', g1, g2⟩ := restrict h' fun b => decide (b ≠ e)
    have gk : ∀ b, b ≠ e → G'.get? b = h'.get? b := fun b hb => g1 b (decide_eq_true hb)
    have ge : G'.get? e = none := g2 e (by simp)
    have old : ∀ b o, hp.get? b = some o → G'.get? b = some o := fun b o q => (gk b (Nat.ne_of_lt (Nat.lt_of_lt_of_le (Heap.lt_size q) M.new))).trans (M.keep b o q)
    have ob : ObjOk X.prog X.w (upd H1 d (.xd [(("name" : Str), v)])) G' d (.xd [(("name" : Str), v)]) :=
      ⟨_, hns.at (fun o q => (gk d M.dne).trans q), fun f => relO_NoHolder rv f⟩
    have J : Inv X pins σ (upd H1 d (.xd [(("name" : Str), v)])) ⟨G', g, dr, tk', os⟩ := I1.laid (t' := tk') old M.dbig ob
    refine ⟨e, oe, fv, ⟨G', g, dr, tk', os⟩, _, .ref C, some d, rfl, J, fun b o q => ?_, ge, hoe, ⟨hc, hd⟩, hdat, h1, ?_, rfl, I1.bare, raises_own T.exC T.tyC, q1 d (I1.hok.fresh M.dbig)⟩
    · by_cases hb : b = e
      · have q' : G'.get? b = some o := q
        rw [hb, ge] at q'; cases q'
      · exact (gk b hb).symm.trans q
    · rw [upd_ne (Ne.symm M.dne)]
      exact I1.hok.fresh M.new
end
end L2
namespace L2
open PySem PySem.Spec PyProof.Rows
section
variable {X : Cx} {C fI : Addr}
theorem pmk5_NoHolder {a : Expr} {ta : TA} {p pos : Pos} {k : Nat} (T : PySem.ZEX.NoHolderTxt X.prog X.K X.mg C fI) (hr : L2H.RoomH k X.A) (ha : PA X [a] ta) (hg : Gl X "NoHolder" := by rfl)
    (he : starEach (a :: []) X.env = (false, eval a X.env) :: starEach [] X.env := by rfl) (hpl : (backTo pos (starEach [] X.env)).any (·.1) = false := by rfl) :
    L2H.PMk5 X (.Call (.Name "NoHolder" p) [a] [] pos) (tMkNoHolder C ta) := by
  intro pins s σ H Q I h
  refine wpAny_Call_Name_kw (ld_glob I hg T.gC ?_)
  refine PySem.W.callWith_K (h₀ := X.base) I.ok.mod.kin T.kC (thn (ha.run pos pins s σ H _ I h) fun us s1 hh => ?_) he hpl
  obtain ⟨vs, H1, I1, r1, v, ev, q1⟩ := hh
  subst ev
  refine ⟨I1.kIn, ?_⟩
  cases r1 with
  | cons rv rn =>
    rename_i v' us'
    cases rn
    show wpAny _ _ (call (.ref C) [v']) _ _ _
    have hlim := I1.nolimit
    obtain ⟨mb, h1, h2⟩ := I1.mod.blt
    have hG := I1.mod.glob.keeps I1.bk
    have hB := h1.keeps I1.bk
    obtain ⟨hp, g, dr, tk, os⟩ := s1
    refine wpAny_call (PySem.ZEX.NoHolder_made T I1.kIn hlim hG hB (h2 _ (by decide)) (by have := hr.dp; omega) fun h' tk' e d M => ?_)
    show L2N.MkP X pins σ Q (.ref e) ⟨h', g, dr, tk', os⟩ ∧ L2H.Six (.ref e) ⟨h', g, dr, tk', os⟩
    obtain ⟨oe, fv, hoe, hc, hd, hdat, h1, h2x, h5x⟩ := M.obj
    have hns := M.ns
    obtain ⟨G', g1, g2⟩ := restrict h' fun b => decide (b ≠ e)
    have gk : ∀ b, b ≠ e → G'.get? b = h'.get? b := fun b hb => g1 b (decide_eq_true hb)
    have ge : G'.get? e = none := g2 e (by simp)
    have old : ∀ b o, hp.get? b = some o → G'.get? b = some o := fun b o q => (gk b (Nat.ne_of_lt (Nat.lt_of_lt_of_le (Heap.lt_size q) M.new))).trans (M.keep b o q)
    have ob : ObjOk X.prog X.w (upd H1 d (.xd [(("name" : Str), v)])) G' d (.xd [(("name" : Str), v)]) :=
      ⟨_, hns.at (fun o q => (gk d M.dne).trans q), fun f => relO_NoHolder rv f⟩
    have J : Inv X pins σ (upd H1 d (.xd [(("name" : Str), v)])) ⟨G', g, dr, tk', os⟩ := I1.laid (t' := tk') old M.dbig ob
    refine ⟨⟨e, oe, fv, ⟨G', g, dr, tk', os⟩, _, .ref C, some d, rfl, J, fun b o q => ?_, ge, hoe, ⟨hc, hd, fun vs z => by rw [hdat] at z; cases z; exact h2x⟩, hdat, h1, ?_, rfl, I1.bare, raises_own T.exC T.tyC, q1 d (I1.hok.fresh M.dbig)⟩, fun a2 o2 v2 ea hg2 hd2 => ?_⟩
    · by_cases hb : b = e
      · have q' : G'.get? b = some o := q
        rw [hb, ge] at q'; cases q'
      · exact (gk b hb).symm.trans q
    · rw [upd_ne (Ne.symm M.dne)]
      exact I1.hok.fresh M.new
    · cases ea
      have hg2' : h'.get? e = some o2 := hg2
      rw [hoe] at hg2'
      cases hg2'
      rw [hdat] at hd2
      cases hd2
      exact h5x
theorem pmkN_NoHolder {a : Expr} {ta : TA} {p pos : Pos} {k : Nat} (T : PySem.ZEX.NoHolderTxt X.prog X.K X.mg C fI) (hr : Room k X.A) (ha : PA X [a] ta) (hg : Gl X "NoHolder" := by rfl)
    (he : starEach (a :: []) X.env = (false, eval a X.env) :: starEach [] X.env := by rfl) (hpl : (backTo pos (starEach [] X.env)).any (·.1) = false := by rfl) :
    L2N.PMk X (.Call (.Name "NoHolder" p) [a] [] pos) (tMkNoHolder C ta) := (pmk5_NoHolder T (L2H.roomH_of hr) ha hg he hpl).pmk
end
end L2
namespace PySem
namespace ZEX
open PySem.W PySem.Calls PyProof.Rows PySem.HandSPX
/-! ### LastHolder(slot) -/
def LastHolder_mA : Arguments := { posonlyargs := [], args := [{ arg := "self", annotation := none, pos := ⟨21, 17, 21, 21⟩ }, { arg := "name", annotation := none, pos := ⟨21, 23, 21, 27⟩ }], vararg := none, kwonlyargs := [], kw_defaults := [], kwarg := none, defaults := [] }
def LastHolder_mMsg : Str := PySem.Str.ofString "the holder alone has a pad that is not forgotten"
def LastHolder_mB : List Stmt :=
  [.Expr (.Call (.Attribute (.Call (.Name "super" ⟨22, 8, 22, 13⟩) [] [] ⟨22, 8, 22, 15⟩) "__init__" ⟨22, 8, 22, 24⟩) [.Constant (.str LastHolder_mMsg) 0 ⟨22, 25, 22, 75⟩] [] ⟨22, 8, 22, 76⟩) ⟨22, 8, 22, 76⟩, .Assign [.Attribute (.Name "self" ⟨23, 8, 23, 12⟩) "name" ⟨23, 8, 23, 17⟩] (.Name "name" ⟨23, 20, 23, 24⟩) ⟨23, 8, 23, 24⟩]
def LastHolder_mS : Scope := { kind := .function, names := [(PySem.Str.ofString "self", .local), (PySem.Str.ofString "name", .local), (PySem.Str.ofString "__class__", .free), (PySem.Str.ofString "super", .globalImplicit)], isGenerator := false, isCoroutine := false, more := [] }
structure LastHolderTxt (prog : Program) (K : Frag) (mg : Str → Option Value) (C fI : Addr) : Prop where
  gC : mg "LastHolder" = some (.ref C)
  cls : ∃ nm q N bs bm sn sub ab col dd k0 k1 k2 k3 k5, K.lookup C = some (excClassObj nm q C N bs bm true sn sub ab col dd k0 k1 k2 k3 k5 "ValueError.__new__") ∧ refsVE bm = true
  sa : findIn K (.ref C) "__setattr__" = some (some (.builtin "object.__setattr__"))
  noN : findIn K (.ref C) "name" = some none
  iC : findIn K (.ref C) "__init__" = some (some (.ref fI))
  tC : typeIn K (.ref fI) = some (.type "function")
  kC : keepIn K (.ref C) = true
  exC : subIn K (.ref C) (.type "BaseException") = some true
  veC : subIn K (.ref C) (.type "ValueError") = some true
  tyC : typeIn K (.ref C) = some (.type "type")
  mro : mroIn K C (.ref C) = some true
  sup : ks_superIn K C C "__init__" = some (some (.builtin "ValueError.__init__"))
  op : nsIn K cStatics "thirdparty.any" = some none
  noS : mg "super" = none
  top : (prog.main.scope.names.lookup ("super" : Str)).isSome = false
  fn : ∃ (oc : Value) (od : Option Addr) (doc pm : Value) (an : Option Addr) (cda : Addr) (ct : Value) (osl : Array (Option Value)) (cc : Addr) (cl : Value) (cld : Option Addr) (csl : Array (Option Value)) (vs : Array Value) (ccl : Value) (cdd : Option Addr) (ccs : Array (Option Value)) (file : Str) (tf : Tok),
    K.lookup fI = some ⟨oc, od, .func (ksFn "__init__" "LastHolder.__init__" LastHolder_mA LastHolder_mB LastHolder_mS .none .none doc pm an (.ref cda) ct cc), osl⟩ ∧ codeIn K (.ref cda) "LastHolder.__init__" = true ∧
    K.lookup cc = some ⟨cl, cld, .cell (some (.ref C)), csl⟩ ∧ K.lookup cda = some ⟨ccl, cdd, .fields vs, ccs⟩ ∧ vs[2]? = some (.str file tf) ∧ ((prog.main.file : Str) == file) = true
/-- what __init__ leaves of a fresh exception at x -/
structure LastHolderEnd (h h' : Heap) (x C dx t1 : Addr) (v : Value) : Prop where
  keep : ∀ b o, b ≠ x → h.get? b = some o → h'.get? b = some o
  obj : h'.get? x = some { cls := .ref C, dict := some dx, data := .fields #[.ref t1, .none, .none, .none, .bool false, .none] }
  dbig : h.objs.size ≤ dx
  dne : dx ≠ x
  ns : h'.Ns1 dx (fun y => if y = "name" then some v else none)
section
variable {prog : Program} {w : World} {A : Around} {E : Value → Shared → Prop} {R : Result → Shared → Prop} {s : Shared} {K : Frag} {mg mb : Str → Option Value} {C fI : Addr}
theorem LastHolder_init (T : LastHolderTxt prog K mg C fI) {x t0 : Addr} {v : Value} (X : K.In s.heap) (hlim : s.heap.NoLimit) (G : s.heap.Ns mainGlobals mg) (Bl : s.heap.Ns builtinsNs mb) (hb : mb "super" = bootBuiltins "super") (hx : s.heap.get? x = some (excO C t0)) (hnx : K.lookup x = none) (hroom : A.depth < recursionLimit)
    (hq : ∀ h' tk dx t1, LastHolderEnd s.heap h' x C dx t1 v → R (.ok (.ret .none)) { s with heap := h', toks := tk }) :
    codeAny (model prog w) A (.call (.ref fI) ⟨[.ref x, v], []⟩) R s := by
  obtain ⟨oc, od, doc, pm, an, cda, ct, osl, cc, cl, cld, csl, vs, ccl, cdd, ccs, file, tf, ho, hcd, hcell, hcode, hvs, hfile⟩ := T.fn
  obtain ⟨nm, q, N, bs, bm, sn, sub, ab, col, dd, k0, k1, k2, k3, k5, hC, hbm⟩ := T.cls
  have hcl : clsIn K C = some { name := nm, bases := bs, mro := .ref C :: bm, ns := N, qualname := q, hasDict := true, slotNames := sn, subclasses := sub, abstract := ab, collection := col, hasDel := false } := by unfold clsIn; rw [hC] <;> rfl
  refine ks_codeAny_call_defAt (fd := ksFn "__init__" "LastHolder.__init__" LastHolder_mA LastHolder_mB LastHolder_mS .none .none doc pm an (.ref cda) ct cc) (body := LastHolder_mB) (binds := [("self", .ref x), ("name", v)]) hroom (X _ _ ho) rfl hlim (codeRec_of X hcd) rfl (BindsTo.of_eq (by first | rfl | with_unfolding_all rfl)) (by show ∀ x ∈ LastHolder_mS.names, x.2 ≠ .cell; decide) (by show ∀ y ∈ [(Str.ofString "self", Value.ref x), (Str.ofString "name", v)], LastHolder_mS.names.lookup y.1 = some .local; intro y m; simp only [List.mem_cons, List.not_mem_nil, or_false] at m; rcases m with rfl | rfl <;> rfl) (fun h₁ hns k => ?_)
  have X1 : K.In h₁ := X.keeps k
  have hx1 := k _ _ hx
  refine ks_wpAt_execs_cons (ks_wpAt_Expr_any (ks_wpAt_MethodCall ?_))
  refine ks_wpAt_super_base rfl rfl (by decide) rfl (X1 _ _ ho) rfl rfl rfl (X1 _ _ hcode) rfl hvs hfile T.top ?_
  refine ks_loadName_global rfl rfl (loadGlobal_builtin (mg := mg) (mb := mb) (G.keeps k) T.noS (Bl.keeps k) (hb.trans (show bootBuiltins "super" = some (.type "super") by rfl)) ⟨rfl, ?_⟩)
  refine wpAny_loadName_free rfl rfl rfl ⟨_, X1 _ _ hcell, rfl⟩ ?_
  refine wpAny_loadName_local rfl rfl hns (show (_ : Option Value) = some (.ref x) from rfl) ?_
  refine ks_wpAny_isType_cls (X1 _ _ hC) rfl ⟨rfl, ?_⟩
  refine ks_wpAny_call_super (X1 _ _ hC) rfl hx1 rfl (fun c e => nomatch e) (looks_mroIn X1 T.mro) (fun h2 hso k2 => ?_)
  have X2 : K.In h2 := X1.keeps k2
  have hx2 := k2 _ _ hx1
  have I2 : InstAt h2 x (excO C t0) C none := ⟨hx2, rfl, rfl, trivial⟩
  have hI : Looks (model prog w) h2 (isInstance (.ref x) (.type "ValueError")) true := I2.type.andThen (looks_subIn X2 T.veC)
  have hxC : x ≠ C := ks_ne X2 I2 hcl
  have hm := T.sup
  unfold ks_superIn at hm
  rw [hcl] at hm
  refine kxs_getMethod kxs_ValueError hso (looks_opaque X2 T.op) (l₀ := .ref C :: bm) (fun A Q E s k q => wpAny_bind ((looks_clsIn X2 hcl) A _ E s k (wpAny_pure q))) rfl X2 hm hI hxC (by decide) ?_
  have hu3 : (h2.push (kxs_mw "ValueError.__init__" x)).get? h2.objs.size = some (kxs_mw "ValueError.__init__" x) := Heap.get?_push_at rfl rfl
  have k3 : ∀ b o, h2.get? b = some o → (h2.push (kxs_mw "ValueError.__init__" x)).get? b = some o := fun b o e => Heap.get?_push_of_some _ e
  have k03 : ∀ b o, s.heap.get? b = some o → (h2.push (kxs_mw "ValueError.__init__" x)).get? b = some o := fun b o e => k3 _ _ (k2 _ _ (k _ _ e))
  refine kxs_callWith (i := "ValueError.__init__") (x := x) rfl ?_
  refine evalArgs_plain (spliced_cons (wpAny_Constant_str (k := 0) (pos := ⟨22, 25, 22, 75⟩) (spliced_nil ⟨hu3, ?_⟩)))
  refine call_bv (k03 _ _ (X _ _ hC)) (k3 _ _ hx2) hu3 (by show 1 ≤ sizeLine; rw [sizeLine_eq]; decide) (fun h4 t1 k4 hx4 => ?_)
  have hxL : s.heap.objs.size ≠ x := Nat.ne_of_gt (Heap.lt_size hx)
  have X4 : K.In h4 := fun a o e => k4 a o (fun z => by rw [z, hnx] at e; cases e) (k3 _ _ (X2 _ _ e))
  have hns4 : h4.Ns s.heap.objs.size (fun y => [(Str.ofString "self", Value.ref x), (Str.ofString "name", v)].reverse.lookup y) := by
    obtain ⟨oL, es, ep, hL, r⟩ := hns
    exact ⟨oL, es, ep, k4 _ _ hxL (k3 _ _ (k2 _ _ hL)), r⟩
  refine wpAt_of_wpAny (wpAny_execs_cons (plainObj_wpAny_Assign_Attribute ?_))
  refine wpAny_Name (wpAny_loadName_local rfl rfl hns4 (show (_ : Option Value) = some v from rfl) ?_) (by decide)
  refine wpAny_Name (wpAny_loadName_local rfl rfl hns4 (show (_ : Option Value) = some (.ref x) from rfl) ?_) (by decide)
  refine set_plain X4 (ox := excO C t1) (od := none) ⟨hx4, rfl, rfl, trivial⟩ T.sa ?_
  refine exc_osa X4 hx4 hcl (show refsVE (.ref C :: bm) = true from hbm) rfl T.noN (fun h5 tk5 dx k5 dn dne hx5 hn5 => ?_)
  show wpAny _ _ (execs _ _) _ _ _
  have keep : ∀ b o, b ≠ x → s.heap.get? b = some o → h5.get? b = some o := fun b o hb e => k5 b o hb (k4 b o hb (k03 b o e))
  have big : s.heap.objs.size ≤ dx := by
    obtain ⟨oL, _, _, hL, _⟩ := hns4
    exact Nat.le_of_lt (Nat.lt_of_lt_of_le (Heap.lt_size hL) dn)
  exact wpAny_execs_nil (hq h5 tk5 dx t1 ⟨keep, hx5, big, dne, hn5⟩)
/-- a made LastHolder -/
structure LastHolderMade (h h' : Heap) (e C d : Addr) (v : Value) : Prop where
  keep : ∀ b o, h.get? b = some o → h'.get? b = some o
  new : h.objs.size ≤ e
  obj : ∃ oe vs, h'.get? e = some oe ∧ oe.cls = .ref C ∧ oe.dict = some d ∧ oe.data = .fields vs ∧ vs[1]? = some .none ∧ vs[2]? = some .none ∧ 4 < vs.size
  dbig : h.objs.size ≤ d
  dne : d ≠ e
  ns : h'.Ns1 d (fun y => if y = "name" then some v else none)
theorem LastHolder_made (T : LastHolderTxt prog K mg C fI) {v : Value} (X : K.In s.heap) (hlim : s.heap.NoLimit) (G : s.heap.Ns mainGlobals mg) (Bl : s.heap.Ns builtinsNs mb) (hb : mb "super" = bootBuiltins "super") (hroom : A.depth + 1 < recursionLimit)
    (hq : ∀ h' tk e d, LastHolderMade s.heap h' e C d v → R (.ok (.ret (.ref e))) { s with heap := h', toks := tk }) :
    codeAny (model prog w) A (.call (.ref C) ⟨[v], []⟩) R s := by
  obtain ⟨nm, q, N, bs, bm, sn, sub, ab, col, dd, k0, k1, k2, k3, k5, hC, hbm⟩ := T.cls
  obtain ⟨hp, g, dr, tk, os⟩ := s
  have k : ∀ b o, hp.get? b = some o → ((hp.push (kdv_tup [v])).push (excO C hp.objs.size)).get? b = some o := fun b o e => Heap.get?_push_of_some _ (Heap.get?_push_of_some _ e)
  have hget : ((hp.push (kdv_tup [v])).push (excO C hp.objs.size)).get? (hp.objs.size + 1) = some (excO C hp.objs.size) := by heap_get
  have hnx : K.lookup (hp.objs.size + 1) = none := by
    cases e : K.lookup (hp.objs.size + 1) with
    | none => rfl
    | some o =>
      have z : hp.get? (hp.objs.size + 1) = some o := X _ _ e
      exact absurd (Nat.lt_of_succ_lt (Heap.lt_size z)) (Nat.lt_irrefl _)
  refine call_own F.excBase_ValueError (fun X => refsVE_contains X bm hbm) (X _ _ hC) (looks_findIn X T.iC) (fun self => bind_fn X self T.tC) (by show 1 ≤ sizeLine; rw [sizeLine_eq]; decide) ?_
  refine LastHolder_init (s := ⟨(hp.push (kdv_tup [v])).push (excO C hp.objs.size), g, dr, tk, os⟩) T (X.keeps k) (hlim.keeps k) (G.keeps k) (Bl.keeps k) hb hget hnx ?_ fun h' tk' dx t1 ⟨k', hx, dn, dne, hns⟩ => ?_
  · show A.depth + 1 < recursionLimit
    exact hroom
  · have old : ∀ b o, hp.get? b = some o → h'.get? b = some o := fun b o e => k' b o (Nat.ne_of_lt (Nat.lt_succ_of_lt (Heap.lt_size e))) (k b o e)
    have z : hp.objs.size + 1 + 1 ≤ dx := by
      first
        | (simpa only [Heap.size_push] using dn)
        | exact dn
        | (have q := dn; rw [Heap.size_push, Heap.size_push] at q; exact q)
    exact ⟨rfl, hq h' tk' (hp.objs.size + 1) dx ⟨old, Nat.le_succ _, ⟨_, _, hx, rfl, rfl, rfl, rfl, rfl, by show (4 : Nat) < 6; decide⟩, Nat.le_trans (Nat.le_trans (Nat.le_succ _) (Nat.le_succ _)) z, dne, hns⟩⟩
end
end ZEX
end PySem
namespace L2
open PySem PySem.Spec PyProof.Rows
theorem relO_LastHolder {v : V} {v' : Value} (r : RelV v v') (f : Str) : RelO (List.lookup f [(("name" : Str), v)]) (if f = "name" then some v' else none) := by
  by_cases hw : f = "name"
  · subst hw
    rw [if_pos rfl]
    have q : List.lookup ("name" : Str) [(("name" : Str), v)] = some v := by simp [List.lookup]
    rw [q]
    exact r
  · rw [if_neg hw]
    have qw : (f == ("name" : Str)) = false := by simpa using hw
    have q2 : List.lookup f [(("name" : Str), v)] = none := by simp [List.lookup, qw]
    rw [q2]
    trivial
section
variable {X : Cx} {C fI : Addr}
/-- LastHolder(e) -/
def tMkLastHolder (C : Addr) (ta : TA) : St → Hp → XK → Prop := fun σ H Q => ta σ H fun vs H1 => ∃ v, vs = [v] ∧ ∀ d, H1 d = none → Q (.ref C) (some d) (upd H1 d (.xd [(("name" : Str), v)]))
theorem pmk_LastHolder {a : Expr} {ta : TA} {p pos : Pos} {k : Nat} (T : PySem.ZEX.LastHolderTxt X.prog X.K X.mg C fI) (hr : Room k X.A) (ha : PA X [a] ta) (hg : Gl X "LastHolder" := by rfl)
    (he : starEach (a :: []) X.env = (false, eval a X.env) :: starEach [] X.env := by rfl) (hpl : (backTo pos (starEach [] X.env)).any (·.1) = false := by rfl) :
    PMk X (.Call (.Name "LastHolder" p) [a] [] pos) (tMkLastHolder C ta) := by
  intro pins s σ H Q I h
  refine wpAny_Call_Name_kw (ld_glob I hg T.gC ?_)
  refine PySem.W.callWith_K (h₀ := X.base) I.ok.mod.kin T.kC (thn (ha.run pos pins s σ H _ I h) fun us s1 hh => ?_) he hpl
  obtain ⟨vs, H1, I1, r1, v, ev, q1⟩ := hh
  subst ev
  refine ⟨I1.kIn, ?_⟩
  cases r1 with
  | cons rv rn =>
    rename_i v' us'
    cases rn
    show wpAny _ _ (call (.ref C) [v']) _ _ _
    have hlim := I1.nolimit
    obtain ⟨mb, h1, h2⟩ := I1.mod.blt
    have hG := I1.mod.glob.keeps I1.bk
    have hB := h1.keeps I1.bk
    obtain ⟨hp, g, dr, tk, os⟩ := s1
    refine wpAny_call (PySem.ZEX.LastHolder_made T I1.kIn hlim hG hB (h2 _ (by decide)) (by have := hr.dp; omega) fun h' tk' e d M => ?_)
    show MkP X pins σ Q (.ref e) ⟨h', g, dr, tk', os⟩
    obtain ⟨oe, fv, hoe, hc, hd, hdat, h1, _⟩ := M.obj
    have hns := M.ns
    obtain ⟨G', g1, g2⟩ := restrict h' fun b => decide (b ≠ e)
    have gk : ∀ b, b ≠ e → G'.get? b = h'.get? b := fun b hb => g1 b (decide_eq_true hb)
    have ge : G'.get? e = none := g2 e (by simp)
    have old : ∀ b o, hp.get? b = some o → G'.get? b = some o := fun b o q => (gk b (Nat.ne_of_lt (Nat.lt_of_lt_of_le (Heap.lt_size q) M.new))).trans (M.keep b o q)
    have ob : ObjOk X.prog X.w (upd H1 d (.xd [(("name" : Str), v)])) G' d (.xd [(("name" : Str), v)]) :=
      ⟨_, hns.at (fun o q => (gk d M.dne).trans q), fun f => relO_LastHolder rv f⟩
    have J : Inv X pins σ (upd H1 d (.xd [(("name" : Str), v)])) ⟨G', g, dr, tk', os⟩ := I1.laid (t' := tk') old M.dbig ob
    refine ⟨e, oe, fv, ⟨G', g, dr, tk', os⟩, _, .ref C, some d, rfl, J, fun b o q => ?_, ge, hoe, ⟨hc, hd⟩, hdat, h1, ?_, rfl, I1.bare, raises_own T.exC T.tyC, q1 d (I1.hok.fresh M.dbig)⟩
    · by_cases hb : b = e
      · have q' : G'.get? b = some o := q
        rw [hb, ge] at q'; cases q'
      · exact (gk b hb).symm.trans q
    · rw [upd_ne (Ne.symm M.dne)]
      exact I1.hok.fresh M.new
end
end L2
namespace L2
open PySem PySem.Spec PyProof.Rows
section
variable {X : Cx} {C fI : Addr}
theorem pmk5_LastHolder {a : Expr} {ta : TA} {p pos : Pos} {k : Nat} (T : PySem.ZEX.LastHolderTxt X.prog X.K X.mg C fI) (hr : L2H.RoomH k X.A) (ha : PA X [a] ta) (hg : Gl X "LastHolder" := by rfl)
    (he : starEach (a :: []) X.env = (false, eval a X.env) :: starEach [] X.env := by rfl) (hpl : (backTo pos (starEach [] X.env)).any (·.1) = false := by rfl) :
    L2H.PMk5 X (.Call (.Name "LastHolder" p) [a] [] pos) (tMkLastHolder C ta) := by
  intro pins s σ H Q I h
  refine wpAny_Call_Name_kw (ld_glob I hg T.gC ?_)
  refine PySem.W.callWith_K (h₀ := X.base) I.ok.mod.kin T.kC (thn (ha.run pos pins s σ H _ I h) fun us s1 hh => ?_) he hpl
  obtain ⟨vs, H1, I1, r1, v, ev, q1⟩ := hh
  subst ev
  refine ⟨I1.kIn, ?_⟩
  cases r1 with
  | cons rv rn =>
    rename_i v' us'
    cases rn
    show wpAny _ _ (call (.ref C) [v']) _ _ _
    have hlim := I1.nolimit
    obtain ⟨mb, h1, h2⟩ := I1.mod.blt
    have hG := I1.mod.glob.keeps I1.bk
    have hB := h1.keeps I1.bk
    obtain ⟨hp, g, dr, tk, os⟩ := s1
    refine wpAny_call (PySem.ZEX.LastHolder_made T I1.kIn hlim hG hB (h2 _ (by decide)) (by have := hr.dp; omega) fun h' tk' e d M => ?_)
    show L2N.MkP X pins σ Q (.ref e) ⟨h', g, dr, tk', os⟩ ∧ L2H.Six (.ref e) ⟨h', g, dr, tk', os⟩
    obtain ⟨oe, fv, hoe, hc, hd, hdat, h1, h2x, h5x⟩ := M.obj
    have hns := M.ns
    obtain ⟨G', g1, g2⟩ := restrict h' fun b => decide (b ≠ e)
    have gk : ∀ b, b ≠ e → G'.get? b = h'.get? b := fun b hb => g1 b (decide_eq_true hb)
    have ge : G'.get? e = none := g2 e (by simp)
    have old : ∀ b o, hp.get? b = some o → G'.get? b = some o := fun b o q => (gk b (Nat.ne_of_lt (Nat.lt_of_lt_of_le (Heap.lt_size q) M.new))).trans (M.keep b o q)
    have ob : ObjOk X.prog X.w (upd H1 d (.xd [(("name" : Str), v)])) G' d (.xd [(("name" : Str), v)]) :=
      ⟨_, hns.at (fun o q => (gk d M.dne).trans q), fun f => relO_LastHolder rv f⟩
    have J : Inv X pins σ (upd H1 d (.xd [(("name" : Str), v)])) ⟨G', g, dr, tk', os⟩ := I1.laid (t' := tk') old M.dbig ob
    refine ⟨⟨e, oe, fv, ⟨G', g, dr, tk', os⟩, _, .ref C, some d, rfl, J, fun b o q => ?_, ge, hoe, ⟨hc, hd, fun vs z => by rw [hdat] at z; cases z; exact h2x⟩, hdat, h1, ?_, rfl, I1.bare, raises_own T.exC T.tyC, q1 d (I1.hok.fresh M.dbig)⟩, fun a2 o2 v2 ea hg2 hd2 => ?_⟩
    · by_cases hb : b = e
      · have q' : G'.get? b = some o := q
        rw [hb, ge] at q'; cases q'
      · exact (gk b hb).symm.trans q
    · rw [upd_ne (Ne.symm M.dne)]
      exact I1.hok.fresh M.new
    · cases ea
      have hg2' : h'.get? e = some o2 := hg2
      rw [hoe] at hg2'
      cases hg2'
      rw [hdat] at hd2
      cases hd2
      exact h5x
theorem pmkN_LastHolder {a : Expr} {ta : TA} {p pos : Pos} {k : Nat} (T : PySem.ZEX.LastHolderTxt X.prog X.K X.mg C fI) (hr : Room k X.A) (ha : PA X [a] ta) (hg : Gl X "LastHolder" := by rfl)
    (he : starEach (a :: []) X.env = (false, eval a X.env) :: starEach [] X.env := by rfl) (hpl : (backTo pos (starEach [] X.env)).any (·.1) = false := by rfl) :
    L2N.PMk X (.Call (.Name "LastHolder" p) [a] [] pos) (tMkLastHolder C ta) := (pmk5_LastHolder T (L2H.roomH_of hr) ha hg he hpl).pmk
end
end L2

set_option Elab.async false
set_option linter.all false
set_option maxRecDepth 100000
set_option maxHeartbeats 8000000
namespace Law
open PySem PySem.Spec L2 Zk
open PyProof.Rows hiding St
local macro_rules | `(tactic| walk_at "ne") => `(tactic| first
  | assumption
  | exact Ne.symm (by assumption)
  | (refine ne_of_none (H := ?zg) (o := ?zo) ?zh ?zn; (case zn => assumption); (case zh => walk_at "hold"))
  | (refine Ne.symm (ne_of_none (H := ?zg) (o := ?zo) ?zh ?zn); (case zn => assumption); (case zh => walk_at "hold")))
local macro_rules | `(tactic| walk_at "nm") => `(tactic| first
  | exact List.not_mem_nil
  | (refine nm1 ?_; walk_at "ne")
  | (refine nm2 ?_ ?_ <;> walk_at "ne")
  | assumption)
local macro_rules | `(tactic| walk_at "hold") => `(tactic| first
  | assumption
  | (refine Ext.get (M := ?em) (H := ?eg) ?ek ?eh ?en; (case ek => assumption); (case eh => walk_at "hold"); (case en => first | exact Or.inr trivial | (refine Or.inl ?_; walk_at "nm")))
  | (refine sql ?_; walk_at "hold")
  | (refine sqt ?_; walk_at "hold")
  | (refine Scr.ext (M := ?em) (H := ?eg) ?ek ?eh; (case ek => assumption); (case eh => walk_at "hold"))
  | (refine Scr.sql ?_; walk_at "hold"))
local macro_rules | `(tactic| walk_at "go1") => `(tactic| first
  | (with_reducible refine w_seq ?_)
  | (with_reducible refine w_asg ?_)
  | (with_reducible refine w_gname ?_)
  | (with_reducible refine w_op ?_)
  | ((with_reducible refine w_var (v := ?zw) ?zv ?_); (case zv => exact rfl))
  | (with_reducible refine w_c ?_)
  | (with_reducible refine w_I0 ?_)
  | (with_reducible refine w_test ?_)
  | (with_reducible refine w_bl ?_)
  | (with_reducible refine w_eqI ?_)
  | (with_reducible refine w_neI ?_)
  | (with_reducible refine w_cb ?_)
  | (with_reducible refine w_cons ?_)
  | (with_reducible refine w_nil ?_)
  | (with_reducible refine w_int ?_)
  | (with_reducible refine w_call ?_)
  | (with_reducible refine w_ret ?_)
  | ((with_reducible refine w_I ?zc ?_); (case zc => first | exact Or.inr ⟨by decide, by decide⟩ | exact Or.inl ⟨by decide, by decide⟩ | (show (0 : Int) < _; first | decide | omega) | exact ⟨by decide, by decide⟩ | (show CPow _ _; exact ⟨by decide, by decide, by decide⟩) | (refine wide_mul (a := 200) (b := 200) ?_ ?_ (by decide) (by decide) (by decide) <;> omega)))
  | ((with_reducible refine w_ixL (xs := ?zx) (v := ?zw) ?zh ?ze ?_); (case zh => walk_at "hold"); (case ze => first | exact rfl | assumption))
  | ((with_reducible refine w_ixT (xs := ?zx) (v := ?zw) ?zh ?ze ?_); (case zh => walk_at "hold"); (case ze => first | exact rfl | assumption))
  | ((with_reducible refine w_lenL (xs := ?zx) ?zh ?_); (case zh => walk_at "hold"))
  | ((with_reducible refine w_lenT (xs := ?zx) ?zh ?_); (case zh => walk_at "hold"))
  | ((with_reducible refine w_lenD (kvs := ?zx) ?zh ?_); (case zh => walk_at "hold"))
  | (with_reducible refine w_gsub ?_)
  | ((with_reducible refine w_setL (xs := ?zx) (j := ?zj) ?zh ?ze ?_); (case zh => walk_at "hold"); (case ze => first | exact rfl | assumption))
  | (with_reducible refine w_and ?_)
  | (with_reducible refine w_or ?_)
  | (with_reducible refine w_not ?_)
  | (with_reducible refine w_tB ?_)
  | (with_reducible refine w_andV ?_)
  | (with_reducible refine w_orV ?_)
  | (with_reducible refine w_notV ?_)
  | (with_reducible refine w_next ?_)
  | (with_reducible refine w_drop ?_)
  | (with_reducible refine w_retN ?_)
  | (with_reducible refine w_tup ?_)
  | (with_reducible refine w_lst ?_)
  | (with_reducible refine w_un ?_)
  | (with_reducible refine w_rU ?_)
  | (with_reducible refine w_eqS ?_)
  | (with_reducible refine w_neS ?_)
  | (with_reducible refine w_isN ?_)
  | (with_reducible refine w_isNt ?_)
  | (with_reducible refine w_isB ?_)
  | (with_reducible refine w_ltS ?_)
  | (with_reducible refine w_dnewK ?_)
  | (with_reducible refine w_dnewT ?_)
  | (with_reducible refine w_break ?_)
  | (with_reducible refine w_cont ?_)
  | (with_reducible refine w_dget ?_)
  | (with_reducible refine w_chain ?_)
  | (with_reducible refine w_notT ?_)
  | (with_reducible refine w_din ?_)
  | (with_reducible refine w_dnotin ?_)
  | (with_reducible refine w_yes ?_)
  | (with_reducible refine w_m1 ?_)
  | (with_reducible refine w_gcons ?_)
  | (with_reducible refine w_gnil ?_)
  | (with_reducible refine w_sdput ?_)
  | ((with_reducible refine w_gtup (xs := ?zx) ?zh ?zl ?_); (case zh => walk_at "hold"); (case zl => exact rfl))
  | (with_reducible refine w_bm ?_)
  | (with_reducible refine w_bm0 ?_)
  | ((with_reducible refine w_tyL (xs := ?zx) ?zh ?_); (case zh => walk_at "hold"))
  | (with_reducible refine w_lc ?_)
  | (with_reducible refine w_for ?_)
  | (with_reducible refine w_str ?_)
  | (with_reducible refine w_iList ?_)
  | (with_reducible refine w_iTup ?_)
  | (with_reducible refine w_iRng1 ?_)
  | (with_reducible refine w_iRng2 ?_)
  | (with_reducible refine w_iStr ?_)
  | (with_reducible refine iteT ?_)
  | (with_reducible refine iteF ?_)
  | (with_reducible refine iteNF ?_)
  | (with_reducible refine iteNT ?_))
local macro_rules | `(tactic| walk_at "isi") => `(tactic| first
  | (refine w_isi (k := true) (.ty _) (.base (.int _)) (kit_ty (by decide +kernel)) ?_)
  | (refine w_isi (k := false) (.ty _) (.base (.int _)) (kit_ty (by decide +kernel)) ?_)
  | (refine w_isi (k := true) (.ty _) (.base (.str _)) (kit_ty (by decide +kernel)) ?_)
  | (refine w_isi (k := false) (.ty _) (.base (.str _)) (kit_ty (by decide +kernel)) ?_)
  | (refine w_isi (k := true) (.ty _) (by assumption) (kit_ty (by decide +kernel)) ?_)
  | (refine w_isi (k := false) (.ty _) (by assumption) (kit_ty (by decide +kernel)) ?_))
local macro_rules | `(tactic| walk_at "run") => `(tactic| repeat (first | walk_at "go1" | walk_at "if" | walk_at "ife" | (refine w_bl ?_) | (refine w_f rfl ?_) | (refine w_t rfl ?_) | walk_at "isi"))
local macro_rules | `(tactic| walk_at "go") => `(tactic| repeat walk_at "go1")
local macro_rules | `(tactic| walk_at "goa") => `(tactic| repeat (first
  | ((with_reducible refine w_modA ?zc ?_); (case zc => first | decide | omega); (intro r r0 r1))
  | walk_at "go1"))
local macro_rules | `(tactic| walk_at "if") => `(tactic| ((with_reducible refine w_ifS ?_); walk_at "go"))
local macro_rules | `(tactic| walk_at "ife") => `(tactic| ((with_reducible refine w_if ?_); walk_at "go"))
def topS (i : Nat) : Stmt := PySem.Challenge.pw_storelife_k56_whole_other_worlds_of_a_va.main.body.getD i (.Pass ⟨0, 0, 0, 0⟩)
abbrev s_size_of : Stmt := topS 13
theorem sc_size_of : FnScope ["kind"] ["kind"] (defScope s_size_of) := ⟨rfl, rfl, rfl, by decide +kernel, rfl, by decide +kernel, by decide +kernel⟩
abbrev s_first_code : Stmt := topS 14
theorem sc_first_code : FnScope ["length", "code", "_"] ["length"] (defScope s_first_code) := ⟨rfl, rfl, rfl, by decide +kernel, rfl, by decide +kernel, by decide +kernel⟩
abbrev s_code_of : Stmt := topS 15
theorem sc_code_of : FnScope ["kind", "value", "code", "char"] ["kind", "value"] (defScope s_code_of) := ⟨rfl, rfl, rfl, by decide +kernel, rfl, by decide +kernel, by decide +kernel⟩
abbrev s_text_of : Stmt := topS 16
theorem sc_text_of : FnScope ["code", "length", "rest", "chars", "_"] ["code"] (defScope s_text_of) := ⟨rfl, rfl, rfl, by decide +kernel, rfl, by decide +kernel, by decide +kernel⟩
abbrev s_value_of : Stmt := topS 17
theorem sc_value_of : FnScope ["kind", "code"] ["kind", "code"] (defScope s_value_of) := ⟨rfl, rfl, rfl, by decide +kernel, rfl, by decide +kernel, by decide +kernel⟩
abbrev s_sealed : Stmt := topS 18
theorem sc_sealed : FnScope ["kind", "number", "value", "pad"] ["kind", "number", "value", "pad"] (defScope s_sealed) := ⟨rfl, rfl, rfl, by decide +kernel, rfl, by decide +kernel, by decide +kernel⟩
abbrev s_opened : Stmt := topS 19
theorem sc_opened : FnScope ["cell", "pad", "kind"] ["cell", "pad"] (defScope s_opened) := ⟨rfl, rfl, rfl, by decide +kernel, rfl, by decide +kernel, by decide +kernel⟩
abbrev s_Vault___init__ : Stmt := inClass (topS 21) 0
theorem sc_Vault___init__ : FnScope ["self", "holders", "name"] ["self", "holders"] (defScope s_Vault___init__) := ⟨rfl, rfl, rfl, by decide +kernel, rfl, by decide +kernel, by decide +kernel⟩
abbrev s_Vault_known : Stmt := inClass (topS 21) 1
theorem sc_Vault_known : FnScope ["self", "name"] ["self", "name"] (defScope s_Vault_known) := ⟨rfl, rfl, rfl, by decide +kernel, rfl, by decide +kernel, by decide +kernel⟩
abbrev s_Vault_up_names : Stmt := inClass (topS 21) 2
theorem sc_Vault_up_names : FnScope ["self", "name"] ["self"] (defScope s_Vault_up_names) := ⟨rfl, rfl, rfl, by decide +kernel, rfl, by decide +kernel, by decide +kernel⟩
abbrev s_Vault_seal : Stmt := inClass (topS 21) 3
theorem sc_Vault_seal : FnScope ["self", "person", "kind", "value", "pad", "names", "number", "name"] ["self", "person", "kind", "value", "pad"] (defScope s_Vault_seal) := ⟨rfl, rfl, rfl, by decide +kernel, rfl, by decide +kernel, by decide +kernel⟩
abbrev s_Vault_unseal : Stmt := inClass (topS 21) 4
theorem sc_Vault_unseal : FnScope ["self", "cell", "name"] ["self", "cell"] (defScope s_Vault_unseal) := ⟨rfl, rfl, rfl, by decide +kernel, rfl, by decide +kernel, by decide +kernel⟩
abbrev s_Vault_shred : Stmt := inClass (topS 21) 5
theorem sc_Vault_shred : FnScope ["self", "name", "kept", "number"] ["self", "name"] (defScope s_Vault_shred) := ⟨rfl, rfl, rfl, by decide +kernel, rfl, by decide +kernel, by decide +kernel⟩
abbrev s_Vault_forget : Stmt := inClass (topS 21) 6
theorem sc_Vault_forget : FnScope ["self", "person", "k", "name"] ["self", "person"] (defScope s_Vault_forget) := ⟨rfl, rfl, rfl, by decide +kernel, rfl, by decide +kernel, by decide +kernel⟩
abbrev s_Vault_has_trace : Stmt := inClass (topS 21) 7
theorem sc_Vault_has_trace : FnScope ["self", "name", "person", "number"] ["self", "name", "person"] (defScope s_Vault_has_trace) := ⟨rfl, rfl, rfl, by decide +kernel, rfl, by decide +kernel, by decide +kernel⟩
abbrev s_Vault_traces : Stmt := inClass (topS 21) 8
theorem sc_Vault_traces : FnScope ["self", "person", "name"] ["self", "person"] (defScope s_Vault_traces) := ⟨rfl, rfl, rfl, by decide +kernel, rfl, by decide +kernel, by decide +kernel⟩
abbrev s_Vault_gone : Stmt := inClass (topS 21) 9
theorem sc_Vault_gone : FnScope ["self", "person", "k"] ["self", "person"] (defScope s_Vault_gone) := ⟨rfl, rfl, rfl, by decide +kernel, rfl, by decide +kernel, by decide +kernel⟩
abbrev s_Vault_holders : Stmt := inClass (topS 21) 10
theorem sc_Vault_holders : FnScope ["self"] ["self"] (defScope s_Vault_holders) := ⟨rfl, rfl, rfl, by decide +kernel, rfl, by decide +kernel, by decide +kernel⟩
abbrev s_Vault_down : Stmt := inClass (topS 21) 12
theorem sc_Vault_down : FnScope ["self", "name"] ["self", "name"] (defScope s_Vault_down) := ⟨rfl, rfl, rfl, by decide +kernel, rfl, by decide +kernel, by decide +kernel⟩
abbrev s_Vault_up : Stmt := inClass (topS 21) 13
theorem sc_Vault_up : FnScope ["self", "name"] ["self", "name"] (defScope s_Vault_up) := ⟨rfl, rfl, rfl, by decide +kernel, rfl, by decide +kernel, by decide +kernel⟩
abbrev s_Vault_heal : Stmt := inClass (topS 21) 14
theorem sc_Vault_heal : FnScope ["self", "names", "source", "number", "name"] ["self"] (defScope s_Vault_heal) := ⟨rfl, rfl, rfl, by decide +kernel, rfl, by decide +kernel, by decide +kernel⟩
abbrev s_Vault_store : Stmt := inClass (topS 21) 15
theorem sc_Vault_store : FnScope ["self", "name", "new"] ["self", "name", "new"] (defScope s_Vault_store) := ⟨rfl, rfl, rfl, by decide +kernel, rfl, by decide +kernel, by decide +kernel⟩
abbrev s_Vault_destroy : Stmt := inClass (topS 21) 16
theorem sc_Vault_destroy : FnScope ["self", "name", "number", "others", "other"] ["self", "name"] (defScope s_Vault_destroy) := ⟨rfl, rfl, rfl, by decide +kernel, rfl, by decide +kernel, by decide +kernel⟩
abbrev s_Vault_holder_values : Stmt := inClass (topS 21) 20
theorem sc_Vault_holder_values : FnScope ["self", "name", "kept", "number"] ["self", "name"] (defScope s_Vault_holder_values) := ⟨rfl, rfl, rfl, by decide +kernel, rfl, by decide +kernel, by decide +kernel⟩
abbrev s_Vault_vault_values : Stmt := inClass (topS 21) 21
theorem sc_Vault_vault_values : FnScope ["self", "count", "k"] ["self"] (defScope s_Vault_vault_values) := ⟨rfl, rfl, rfl, by decide +kernel, rfl, by decide +kernel, by decide +kernel⟩
abbrev s_law_mixed : Stmt := topS 23
theorem sc_law_mixed : FnScope ["number", "place", "first", "second", "third"] ["number", "place"] (defScope s_law_mixed) := ⟨rfl, rfl, rfl, by decide +kernel, rfl, by decide +kernel, by decide +kernel⟩
abbrev s_law_rest : Stmt := topS 24
theorem sc_law_rest : FnScope ["script", "place", "fills", "number"] ["script", "place", "fills"] (defScope s_law_rest) := ⟨rfl, rfl, rfl, by decide +kernel, rfl, by decide +kernel, by decide +kernel⟩
abbrev s_law_draw : Stmt := topS 25
theorem sc_law_draw : FnScope ["pool", "limit", "value"] ["pool", "limit"] (defScope s_law_draw) := ⟨rfl, rfl, rfl, by decide +kernel, rfl, by decide +kernel, by decide +kernel⟩
abbrev s_law_pick : Stmt := topS 26
theorem sc_law_pick : FnScope ["pool", "options"] ["pool", "options"] (defScope s_law_pick) := ⟨rfl, rfl, rfl, by decide +kernel, rfl, by decide +kernel, by decide +kernel⟩
abbrev s_law_text : Stmt := topS 27
theorem sc_law_text : FnScope ["pool", "size", "chars", "k"] ["pool", "size"] (defScope s_law_text) := ⟨rfl, rfl, rfl, by decide +kernel, rfl, by decide +kernel, by decide +kernel⟩
abbrev s_law_value : Stmt := topS 28
theorem sc_law_value : FnScope ["pool", "kind", "way"] ["pool", "kind"] (defScope s_law_value) := ⟨rfl, rfl, rfl, by decide +kernel, rfl, by decide +kernel, by decide +kernel⟩
abbrev s_law_code : Stmt := topS 29
theorem sc_law_code : FnScope ["kind", "value", "chars", "code", "k"] ["kind", "value"] (defScope s_law_code) := ⟨rfl, rfl, rfl, by decide +kernel, rfl, by decide +kernel, by decide +kernel⟩
abbrev s_law_size : Stmt := topS 30
theorem sc_law_size : FnScope ["kind"] ["kind"] (defScope s_law_size) := ⟨rfl, rfl, rfl, by decide +kernel, rfl, by decide +kernel, by decide +kernel⟩
abbrev s_law_same : Stmt := topS 31
theorem sc_law_same : FnScope ["actual", "due", "key", "k"] ["actual", "due"] (defScope s_law_same) := ⟨rfl, rfl, rfl, by decide +kernel, rfl, by decide +kernel, by decide +kernel⟩
abbrev s_law_pool : Stmt := topS 32
theorem sc_law_pool : FnScope ["script"] ["script"] (defScope s_law_pool) := ⟨rfl, rfl, rfl, by decide +kernel, rfl, by decide +kernel, by decide +kernel⟩
abbrev s_law_next : Stmt := topS 33
theorem sc_law_next : FnScope ["pool"] ["pool"] (defScope s_law_next) := ⟨rfl, rfl, rfl, by decide +kernel, rfl, by decide +kernel, by decide +kernel⟩
abbrev s_law_told : Stmt := topS 34
theorem sc_law_told : FnScope ["vault", "word", "name", "rest", "e"] ["vault", "word", "name", "rest"] (defScope s_law_told) := ⟨rfl, rfl, rfl, by decide +kernel, rfl, by decide +kernel, by decide +kernel⟩
abbrev s_law_seal_both : Stmt := topS 35
theorem sc_law_seal_both : FnScope ["pool", "one", "two", "cells", "person", "other", "kind", "value", "unlike", "secret", "there", "cell"] ["pool", "one", "two", "cells", "person", "other"] (defScope s_law_seal_both) := ⟨rfl, rfl, rfl, by decide +kernel, rfl, by decide +kernel, by decide +kernel⟩
abbrev s_law_open : Stmt := topS 36
theorem sc_law_open : FnScope ["vault", "cell"] ["vault", "cell"] (defScope s_law_open) := ⟨rfl, rfl, rfl, by decide +kernel, rfl, by decide +kernel, by decide +kernel⟩
abbrev s_law_alike : Stmt := topS 37
theorem sc_law_alike : FnScope ["one", "two", "cells", "person", "past", "cell", "first", "second", "left", "name"] ["one", "two", "cells", "person", "past"] (defScope s_law_alike) := ⟨rfl, rfl, rfl, by decide +kernel, rfl, by decide +kernel, by decide +kernel⟩
abbrev s_law : Stmt := topS 38
theorem sc_law : FnScope ["script", "pool", "one", "two", "cells", "person", "border", "deed", "way", "name", "whose", "word", "rest", "told", "cell"] ["script"] (defScope s_law) := ⟨rfl, rfl, rfl, by decide +kernel, rfl, by decide +kernel, by decide +kernel⟩
structure Txt (K : PySem.W.Frag) (mg : Str → Option Value) where
  f_size_of : Addr
  d_size_of : FuncData
  F_size_of : L2.Fun K "size_of" "size_of" s_size_of f_size_of d_size_of
  g_size_of : mg "size_of" = some (.ref f_size_of)
  k_size_of : Binds K d_size_of ["kind"] []
  f_first_code : Addr
  d_first_code : FuncData
  F_first_code : L2.Fun K "first_code" "first_code" s_first_code f_first_code d_first_code
  g_first_code : mg "first_code" = some (.ref f_first_code)
  k_first_code : Binds K d_first_code ["length"] []
  f_code_of : Addr
  d_code_of : FuncData
  F_code_of : L2.Fun K "code_of" "code_of" s_code_of f_code_of d_code_of
  g_code_of : mg "code_of" = some (.ref f_code_of)
  k_code_of : Binds K d_code_of ["kind", "value"] []
  f_text_of : Addr
  d_text_of : FuncData
  F_text_of : L2.Fun K "text_of" "text_of" s_text_of f_text_of d_text_of
  g_text_of : mg "text_of" = some (.ref f_text_of)
  k_text_of : Binds K d_text_of ["code"] []
  f_value_of : Addr
  d_value_of : FuncData
  F_value_of : L2.Fun K "value_of" "value_of" s_value_of f_value_of d_value_of
  g_value_of : mg "value_of" = some (.ref f_value_of)
  k_value_of : Binds K d_value_of ["kind", "code"] []
  f_sealed : Addr
  d_sealed : FuncData
  F_sealed : L2.Fun K "sealed" "sealed" s_sealed f_sealed d_sealed
  g_sealed : mg "sealed" = some (.ref f_sealed)
  k_sealed : Binds K d_sealed ["kind", "number", "value", "pad"] []
  f_opened : Addr
  d_opened : FuncData
  F_opened : L2.Fun K "opened" "opened" s_opened f_opened d_opened
  g_opened : mg "opened" = some (.ref f_opened)
  k_opened : Binds K d_opened ["cell", "pad"] []
  f_Vault___init__ : Addr
  d_Vault___init__ : FuncData
  F_Vault___init__ : L2.Fun K "__init__" "Vault.__init__" s_Vault___init__ f_Vault___init__ d_Vault___init__
  k_Vault___init__ : Binds K d_Vault___init__ ["self", "holders"] []
  f_Vault_known : Addr
  d_Vault_known : FuncData
  F_Vault_known : L2.Fun K "known" "Vault.known" s_Vault_known f_Vault_known d_Vault_known
  k_Vault_known : Binds K d_Vault_known ["self", "name"] []
  f_Vault_up_names : Addr
  d_Vault_up_names : FuncData
  F_Vault_up_names : L2.Fun K "up_names" "Vault.up_names" s_Vault_up_names f_Vault_up_names d_Vault_up_names
  k_Vault_up_names : Binds K d_Vault_up_names ["self"] []
  f_Vault_seal : Addr
  d_Vault_seal : FuncData
  F_Vault_seal : L2.Fun K "seal" "Vault.seal" s_Vault_seal f_Vault_seal d_Vault_seal
  k_Vault_seal : Binds K d_Vault_seal ["self", "person", "kind", "value", "pad"] []
  f_Vault_unseal : Addr
  d_Vault_unseal : FuncData
  F_Vault_unseal : L2.Fun K "unseal" "Vault.unseal" s_Vault_unseal f_Vault_unseal d_Vault_unseal
  k_Vault_unseal : Binds K d_Vault_unseal ["self", "cell"] []
  f_Vault_shred : Addr
  d_Vault_shred : FuncData
  F_Vault_shred : L2.Fun K "shred" "Vault.shred" s_Vault_shred f_Vault_shred d_Vault_shred
  k_Vault_shred : Binds K d_Vault_shred ["self", "name"] []
  f_Vault_forget : Addr
  d_Vault_forget : FuncData
  F_Vault_forget : L2.Fun K "forget" "Vault.forget" s_Vault_forget f_Vault_forget d_Vault_forget
  k_Vault_forget : Binds K d_Vault_forget ["self", "person"] []
  f_Vault_has_trace : Addr
  d_Vault_has_trace : FuncData
  F_Vault_has_trace : L2.Fun K "has_trace" "Vault.has_trace" s_Vault_has_trace f_Vault_has_trace d_Vault_has_trace
  k_Vault_has_trace : Binds K d_Vault_has_trace ["self", "name", "person"] []
  f_Vault_traces : Addr
  d_Vault_traces : FuncData
  F_Vault_traces : L2.Fun K "traces" "Vault.traces" s_Vault_traces f_Vault_traces d_Vault_traces
  k_Vault_traces : Binds K d_Vault_traces ["self", "person"] []
  f_Vault_gone : Addr
  d_Vault_gone : FuncData
  F_Vault_gone : L2.Fun K "gone" "Vault.gone" s_Vault_gone f_Vault_gone d_Vault_gone
  k_Vault_gone : Binds K d_Vault_gone ["self", "person"] []
  f_Vault_holders : Addr
  d_Vault_holders : FuncData
  F_Vault_holders : L2.Fun K "holders" "Vault.holders" s_Vault_holders f_Vault_holders d_Vault_holders
  k_Vault_holders : Binds K d_Vault_holders ["self"] []
  f_Vault_down : Addr
  d_Vault_down : FuncData
  F_Vault_down : L2.Fun K "down" "Vault.down" s_Vault_down f_Vault_down d_Vault_down
  k_Vault_down : Binds K d_Vault_down ["self", "name"] []
  f_Vault_up : Addr
  d_Vault_up : FuncData
  F_Vault_up : L2.Fun K "up" "Vault.up" s_Vault_up f_Vault_up d_Vault_up
  k_Vault_up : Binds K d_Vault_up ["self", "name"] []
  f_Vault_heal : Addr
  d_Vault_heal : FuncData
  F_Vault_heal : L2.Fun K "heal" "Vault.heal" s_Vault_heal f_Vault_heal d_Vault_heal
  k_Vault_heal : Binds K d_Vault_heal ["self"] []
  f_Vault_store : Addr
  d_Vault_store : FuncData
  F_Vault_store : L2.Fun K "store" "Vault.store" s_Vault_store f_Vault_store d_Vault_store
  k_Vault_store : Binds K d_Vault_store ["self", "name", "new"] []
  f_Vault_destroy : Addr
  d_Vault_destroy : FuncData
  F_Vault_destroy : L2.Fun K "destroy" "Vault.destroy" s_Vault_destroy f_Vault_destroy d_Vault_destroy
  k_Vault_destroy : Binds K d_Vault_destroy ["self", "name"] []
  f_Vault_holder_values : Addr
  d_Vault_holder_values : FuncData
  F_Vault_holder_values : L2.Fun K "holder_values" "Vault.holder_values" s_Vault_holder_values f_Vault_holder_values d_Vault_holder_values
  k_Vault_holder_values : Binds K d_Vault_holder_values ["self", "name"] []
  f_Vault_vault_values : Addr
  d_Vault_vault_values : FuncData
  F_Vault_vault_values : L2.Fun K "vault_values" "Vault.vault_values" s_Vault_vault_values f_Vault_vault_values d_Vault_vault_values
  k_Vault_vault_values : Binds K d_Vault_vault_values ["self"] []
  f__law_mixed : Addr
  d__law_mixed : FuncData
  F__law_mixed : L2.Fun K "_law_mixed" "_law_mixed" s_law_mixed f__law_mixed d__law_mixed
  g__law_mixed : mg "_law_mixed" = some (.ref f__law_mixed)
  k__law_mixed : Binds K d__law_mixed ["number", "place"] []
  f__law_rest : Addr
  d__law_rest : FuncData
  F__law_rest : L2.Fun K "_law_rest" "_law_rest" s_law_rest f__law_rest d__law_rest
  g__law_rest : mg "_law_rest" = some (.ref f__law_rest)
  k__law_rest : Binds K d__law_rest ["script", "place", "fills"] []
  f__law_draw : Addr
  d__law_draw : FuncData
  F__law_draw : L2.Fun K "_law_draw" "_law_draw" s_law_draw f__law_draw d__law_draw
  g__law_draw : mg "_law_draw" = some (.ref f__law_draw)
  k__law_draw : Binds K d__law_draw ["pool", "limit"] []
  f__law_pick : Addr
  d__law_pick : FuncData
  F__law_pick : L2.Fun K "_law_pick" "_law_pick" s_law_pick f__law_pick d__law_pick
  g__law_pick : mg "_law_pick" = some (.ref f__law_pick)
  k__law_pick : Binds K d__law_pick ["pool", "options"] []
  f__law_text : Addr
  d__law_text : FuncData
  F__law_text : L2.Fun K "_law_text" "_law_text" s_law_text f__law_text d__law_text
  g__law_text : mg "_law_text" = some (.ref f__law_text)
  k__law_text : Binds K d__law_text ["pool", "size"] []
  f__law_value : Addr
  d__law_value : FuncData
  F__law_value : L2.Fun K "_law_value" "_law_value" s_law_value f__law_value d__law_value
  g__law_value : mg "_law_value" = some (.ref f__law_value)
  k__law_value : Binds K d__law_value ["pool", "kind"] []
  f__law_code : Addr
  d__law_code : FuncData
  F__law_code : L2.Fun K "_law_code" "_law_code" s_law_code f__law_code d__law_code
  g__law_code : mg "_law_code" = some (.ref f__law_code)
  k__law_code : Binds K d__law_code ["kind", "value"] []
  f__law_size : Addr
  d__law_size : FuncData
  F__law_size : L2.Fun K "_law_size" "_law_size" s_law_size f__law_size d__law_size
  g__law_size : mg "_law_size" = some (.ref f__law_size)
  k__law_size : Binds K d__law_size ["kind"] []
  f__law_same : Addr
  d__law_same : FuncData
  F__law_same : L2.Fun K "_law_same" "_law_same" s_law_same f__law_same d__law_same
  g__law_same : mg "_law_same" = some (.ref f__law_same)
  k__law_same : Binds K d__law_same ["actual", "due"] []
  f__law_pool : Addr
  d__law_pool : FuncData
  F__law_pool : L2.Fun K "_law_pool" "_law_pool" s_law_pool f__law_pool d__law_pool
  g__law_pool : mg "_law_pool" = some (.ref f__law_pool)
  k__law_pool : Binds K d__law_pool ["script"] []
  f__law_next : Addr
  d__law_next : FuncData
  F__law_next : L2.Fun K "_law_next" "_law_next" s_law_next f__law_next d__law_next
  g__law_next : mg "_law_next" = some (.ref f__law_next)
  k__law_next : Binds K d__law_next ["pool"] []
  f__law_told : Addr
  d__law_told : FuncData
  F__law_told : L2.Fun K "_law_told" "_law_told" s_law_told f__law_told d__law_told
  g__law_told : mg "_law_told" = some (.ref f__law_told)
  k__law_told : Binds K d__law_told ["vault", "word", "name", "rest"] []
  f__law_seal_both : Addr
  d__law_seal_both : FuncData
  F__law_seal_both : L2.Fun K "_law_seal_both" "_law_seal_both" s_law_seal_both f__law_seal_both d__law_seal_both
  g__law_seal_both : mg "_law_seal_both" = some (.ref f__law_seal_both)
  k__law_seal_both : Binds K d__law_seal_both ["pool", "one", "two", "cells", "person", "other"] []
  f__law_open : Addr
  d__law_open : FuncData
  F__law_open : L2.Fun K "_law_open" "_law_open" s_law_open f__law_open d__law_open
  g__law_open : mg "_law_open" = some (.ref f__law_open)
  k__law_open : Binds K d__law_open ["vault", "cell"] []
  f__law_alike : Addr
  d__law_alike : FuncData
  F__law_alike : L2.Fun K "_law_alike" "_law_alike" s_law_alike f__law_alike d__law_alike
  g__law_alike : mg "_law_alike" = some (.ref f__law_alike)
  k__law_alike : Binds K d__law_alike ["one", "two", "cells", "person", "past"] []
  f_law : Addr
  d_law : FuncData
  F_law : L2.Fun K "law" "law" s_law f_law d_law
  g_law : mg "law" = some (.ref f_law)
  k_law : Binds K d_law ["script"] []
  C_Vault : Addr
  c_Vault : Cls K C_Vault
  g_Vault : mg "Vault" = some (.ref C_Vault)
  mk_Vault : Mk K C_Vault f_Vault___init__
  na_Vault_pads : NoAttr K C_Vault "pads"
  na_Vault_ups : NoAttr K C_Vault "ups"
  na_Vault_persons : NoAttr K C_Vault "persons"
  na_Vault_gone_numbers : NoAttr K C_Vault "gone_numbers"
  m_Vault___init__ : Meth K C_Vault "__init__" f_Vault___init__
  m_Vault_known : Meth K C_Vault "known" f_Vault_known
  m_Vault_up_names : Meth K C_Vault "up_names" f_Vault_up_names
  m_Vault_seal : Meth K C_Vault "seal" f_Vault_seal
  m_Vault_unseal : Meth K C_Vault "unseal" f_Vault_unseal
  m_Vault_shred : Meth K C_Vault "shred" f_Vault_shred
  m_Vault_forget : Meth K C_Vault "forget" f_Vault_forget
  m_Vault_has_trace : Meth K C_Vault "has_trace" f_Vault_has_trace
  m_Vault_traces : Meth K C_Vault "traces" f_Vault_traces
  m_Vault_gone : Meth K C_Vault "gone" f_Vault_gone
  m_Vault_holders : Meth K C_Vault "holders" f_Vault_holders
  m_Vault_down : Meth K C_Vault "down" f_Vault_down
  m_Vault_up : Meth K C_Vault "up" f_Vault_up
  m_Vault_heal : Meth K C_Vault "heal" f_Vault_heal
  m_Vault_store : Meth K C_Vault "store" f_Vault_store
  m_Vault_destroy : Meth K C_Vault "destroy" f_Vault_destroy
  m_Vault_holder_values : Meth K C_Vault "holder_values" f_Vault_holder_values
  m_Vault_vault_values : Meth K C_Vault "vault_values" f_Vault_vault_values
  b_bool : mg "bool" = none
  b_dict : mg "dict" = none
  b_int : mg "int" = none
  b_isinstance : mg "isinstance" = none
  b_len : mg "len" = none
  b_list : mg "list" = none
  b_range : mg "range" = none
  b_reversed : mg "reversed" = none
  b_sorted : mg "sorted" = none
  b_str : mg "str" = none
  b_tuple : mg "tuple" = none
  t_ALPHABET : Tok
  g_ALPHABET : mg "ALPHABET" = some (.str (Str.ofString " !\"#$&'()*+,-./0123456789:;<=>?@ABCDEFGHIJKLMNOPQRSTUVWXYZ[\\]^_`abcdefghijklmnopqrstuvwxyz{|}~") t_ALPHABET)
  r_ALPHABET : RelV (.str (Zk.alph)) (.str (Str.ofString " !\"#$&'()*+,-./0123456789:;<=>?@ABCDEFGHIJKLMNOPQRSTUVWXYZ[\\]^_`abcdefghijklmnopqrstuvwxyz{|}~") t_ALPHABET)
  t_INT_MOST : Tok
  g_INT_MOST : mg "INT_MOST" = some (.int (1000000000) t_INT_MOST)
  r_INT_MOST : RelV (.int (1000000000)) (.int (1000000000) t_INT_MOST)
  t_TEXT_MOST : Tok
  g_TEXT_MOST : mg "TEXT_MOST" = some (.int (20) t_TEXT_MOST)
  r_TEXT_MOST : RelV (.int (20)) (.int (20) t_TEXT_MOST)
  t_INT_SIZE : Tok
  g_INT_SIZE : mg "INT_SIZE" = some (.int (2000000001) t_INT_SIZE)
  r_INT_SIZE : RelV (.int (2000000001)) (.int (2000000001) t_INT_SIZE)
  t_TEXT_SIZE : Tok
  g_TEXT_SIZE : mg "TEXT_SIZE" = some (.int (2932256630791119505061064402082674519051) t_TEXT_SIZE)
  r_TEXT_SIZE : RelV (.int (2932256630791119505061064402082674519051)) (.int (2932256630791119505061064402082674519051) t_TEXT_SIZE)
def fs_Vault (v0 v1 v2 v3 : V) : List (Str × V) := [("pads", v0), ("ups", v1), ("persons", v2), ("gone_numbers", v3)]
theorem lk_Vault_pads {v0 v1 v2 v3 : V} : (fs_Vault v0 v1 v2 v3).lookup ("pads" : Str) = some v0 := lk_same
theorem pf_Vault_pads {v0 v1 v2 v3 y : V} : L2.putF "pads" y (fs_Vault v0 v1 v2 v3) = fs_Vault y v1 v2 v3 := by
  unfold fs_Vault
  rw [pf_same]
theorem lk_Vault_ups {v0 v1 v2 v3 : V} : (fs_Vault v0 v1 v2 v3).lookup ("ups" : Str) = some v1 := (lk_other (by decide +kernel)).trans (lk_same)
theorem pf_Vault_ups {v0 v1 v2 v3 y : V} : L2.putF "ups" y (fs_Vault v0 v1 v2 v3) = fs_Vault v0 y v2 v3 := by
  unfold fs_Vault
  rw [pf_other (by decide +kernel)]
  rw [pf_same]
theorem lk_Vault_persons {v0 v1 v2 v3 : V} : (fs_Vault v0 v1 v2 v3).lookup ("persons" : Str) = some v2 := (lk_other (by decide +kernel)).trans ((lk_other (by decide +kernel)).trans (lk_same))
theorem pf_Vault_persons {v0 v1 v2 v3 y : V} : L2.putF "persons" y (fs_Vault v0 v1 v2 v3) = fs_Vault v0 v1 y v3 := by
  unfold fs_Vault
  rw [pf_other (by decide +kernel)]
  rw [pf_other (by decide +kernel)]
  rw [pf_same]
theorem lk_Vault_gone_numbers {v0 v1 v2 v3 : V} : (fs_Vault v0 v1 v2 v3).lookup ("gone_numbers" : Str) = some v3 := (lk_other (by decide +kernel)).trans ((lk_other (by decide +kernel)).trans ((lk_other (by decide +kernel)).trans (lk_same)))
theorem pf_Vault_gone_numbers {v0 v1 v2 v3 y : V} : L2.putF "gone_numbers" y (fs_Vault v0 v1 v2 v3) = fs_Vault v0 v1 v2 y := by
  unfold fs_Vault
  rw [pf_other (by decide +kernel)]
  rw [pf_other (by decide +kernel)]
  rw [pf_other (by decide +kernel)]
  rw [pf_same]
theorem pi_Vault_pads { y : V} : L2.putF "pads" y ([] : List (Str × V)) = ([("pads", y)] : List (Str × V)) := by
  rfl
theorem pi_Vault_ups {v0 y : V} : L2.putF "ups" y ([("pads", v0)] : List (Str × V)) = ([("pads", v0), ("ups", y)] : List (Str × V)) := by
  rw [pf_other (by decide +kernel)]
  rfl
theorem pi_Vault_persons {v0 v1 y : V} : L2.putF "persons" y ([("pads", v0), ("ups", v1)] : List (Str × V)) = ([("pads", v0), ("ups", v1), ("persons", y)] : List (Str × V)) := by
  rw [pf_other (by decide +kernel)]
  rw [pf_other (by decide +kernel)]
  rfl
theorem pi_Vault_gone_numbers {v0 v1 v2 y : V} : L2.putF "gone_numbers" y ([("pads", v0), ("ups", v1), ("persons", v2)] : List (Str × V)) = ([("pads", v0), ("ups", v1), ("persons", v2), ("gone_numbers", y)] : List (Str × V)) := by
  rw [pf_other (by decide +kernel)]
  rw [pf_other (by decide +kernel)]
  rw [pf_other (by decide +kernel)]
  rfl
theorem no_Vault___init__ {v0 v1 v2 v3 : V} : (fs_Vault v0 v1 v2 v3).lookup ("__init__" : Str) = none := (lk_other (by decide +kernel)).trans ((lk_other (by decide +kernel)).trans ((lk_other (by decide +kernel)).trans ((lk_other (by decide +kernel)).trans (rfl))))
theorem no_Vault_known {v0 v1 v2 v3 : V} : (fs_Vault v0 v1 v2 v3).lookup ("known" : Str) = none := (lk_other (by decide +kernel)).trans ((lk_other (by decide +kernel)).trans ((lk_other (by decide +kernel)).trans ((lk_other (by decide +kernel)).trans (rfl))))
theorem no_Vault_up_names {v0 v1 v2 v3 : V} : (fs_Vault v0 v1 v2 v3).lookup ("up_names" : Str) = none := (lk_other (by decide +kernel)).trans ((lk_other (by decide +kernel)).trans ((lk_other (by decide +kernel)).trans ((lk_other (by decide +kernel)).trans (rfl))))
theorem no_Vault_seal {v0 v1 v2 v3 : V} : (fs_Vault v0 v1 v2 v3).lookup ("seal" : Str) = none := (lk_other (by decide +kernel)).trans ((lk_other (by decide +kernel)).trans ((lk_other (by decide +kernel)).trans ((lk_other (by decide +kernel)).trans (rfl))))
theorem no_Vault_unseal {v0 v1 v2 v3 : V} : (fs_Vault v0 v1 v2 v3).lookup ("unseal" : Str) = none := (lk_other (by decide +kernel)).trans ((lk_other (by decide +kernel)).trans ((lk_other (by decide +kernel)).trans ((lk_other (by decide +kernel)).trans (rfl))))
theorem no_Vault_shred {v0 v1 v2 v3 : V} : (fs_Vault v0 v1 v2 v3).lookup ("shred" : Str) = none := (lk_other (by decide +kernel)).trans ((lk_other (by decide +kernel)).trans ((lk_other (by decide +kernel)).trans ((lk_other (by decide +kernel)).trans (rfl))))
theorem no_Vault_forget {v0 v1 v2 v3 : V} : (fs_Vault v0 v1 v2 v3).lookup ("forget" : Str) = none := (lk_other (by decide +kernel)).trans ((lk_other (by decide +kernel)).trans ((lk_other (by decide +kernel)).trans ((lk_other (by decide +kernel)).trans (rfl))))
theorem no_Vault_has_trace {v0 v1 v2 v3 : V} : (fs_Vault v0 v1 v2 v3).lookup ("has_trace" : Str) = none := (lk_other (by decide +kernel)).trans ((lk_other (by decide +kernel)).trans ((lk_other (by decide +kernel)).trans ((lk_other (by decide +kernel)).trans (rfl))))
theorem no_Vault_traces {v0 v1 v2 v3 : V} : (fs_Vault v0 v1 v2 v3).lookup ("traces" : Str) = none := (lk_other (by decide +kernel)).trans ((lk_other (by decide +kernel)).trans ((lk_other (by decide +kernel)).trans ((lk_other (by decide +kernel)).trans (rfl))))
theorem no_Vault_gone {v0 v1 v2 v3 : V} : (fs_Vault v0 v1 v2 v3).lookup ("gone" : Str) = none := (lk_other (by decide +kernel)).trans ((lk_other (by decide +kernel)).trans ((lk_other (by decide +kernel)).trans ((lk_other (by decide +kernel)).trans (rfl))))
theorem no_Vault_holders {v0 v1 v2 v3 : V} : (fs_Vault v0 v1 v2 v3).lookup ("holders" : Str) = none := (lk_other (by decide +kernel)).trans ((lk_other (by decide +kernel)).trans ((lk_other (by decide +kernel)).trans ((lk_other (by decide +kernel)).trans (rfl))))
theorem no_Vault_down {v0 v1 v2 v3 : V} : (fs_Vault v0 v1 v2 v3).lookup ("down" : Str) = none := (lk_other (by decide +kernel)).trans ((lk_other (by decide +kernel)).trans ((lk_other (by decide +kernel)).trans ((lk_other (by decide +kernel)).trans (rfl))))
theorem no_Vault_up {v0 v1 v2 v3 : V} : (fs_Vault v0 v1 v2 v3).lookup ("up" : Str) = none := (lk_other (by decide +kernel)).trans ((lk_other (by decide +kernel)).trans ((lk_other (by decide +kernel)).trans ((lk_other (by decide +kernel)).trans (rfl))))
theorem no_Vault_heal {v0 v1 v2 v3 : V} : (fs_Vault v0 v1 v2 v3).lookup ("heal" : Str) = none := (lk_other (by decide +kernel)).trans ((lk_other (by decide +kernel)).trans ((lk_other (by decide +kernel)).trans ((lk_other (by decide +kernel)).trans (rfl))))
theorem no_Vault_store {v0 v1 v2 v3 : V} : (fs_Vault v0 v1 v2 v3).lookup ("store" : Str) = none := (lk_other (by decide +kernel)).trans ((lk_other (by decide +kernel)).trans ((lk_other (by decide +kernel)).trans ((lk_other (by decide +kernel)).trans (rfl))))
theorem no_Vault_destroy {v0 v1 v2 v3 : V} : (fs_Vault v0 v1 v2 v3).lookup ("destroy" : Str) = none := (lk_other (by decide +kernel)).trans ((lk_other (by decide +kernel)).trans ((lk_other (by decide +kernel)).trans ((lk_other (by decide +kernel)).trans (rfl))))
theorem no_Vault_holder_values {v0 v1 v2 v3 : V} : (fs_Vault v0 v1 v2 v3).lookup ("holder_values" : Str) = none := (lk_other (by decide +kernel)).trans ((lk_other (by decide +kernel)).trans ((lk_other (by decide +kernel)).trans ((lk_other (by decide +kernel)).trans (rfl))))
theorem no_Vault_vault_values {v0 v1 v2 v3 : V} : (fs_Vault v0 v1 v2 v3).lookup ("vault_values" : Str) = none := (lk_other (by decide +kernel)).trans ((lk_other (by decide +kernel)).trans ((lk_other (by decide +kernel)).trans ((lk_other (by decide +kernel)).trans (rfl))))
local macro_rules | `(tactic| walk_at "go1") => do let c := Lean.mkIdent `T.c_Vault; let n := Lean.mkIdent `T.na_Vault_pads; `(tactic| ((refine ⟨_, _, ?fx, fs_Vault ?f0 ?f1 ?f2 ?f3, _, rfl, ?zh, $c, $n, lk_Vault_pads, ?_⟩); (case zh => walk_at "hold")))
local macro_rules | `(tactic| walk_at "go1") => do let c := Lean.mkIdent `T.c_Vault; let n := Lean.mkIdent `T.na_Vault_ups; `(tactic| ((refine ⟨_, _, ?fx, fs_Vault ?f0 ?f1 ?f2 ?f3, _, rfl, ?zh, $c, $n, lk_Vault_ups, ?_⟩); (case zh => walk_at "hold")))
local macro_rules | `(tactic| walk_at "go1") => do let c := Lean.mkIdent `T.c_Vault; let n := Lean.mkIdent `T.na_Vault_persons; `(tactic| ((refine ⟨_, _, ?fx, fs_Vault ?f0 ?f1 ?f2 ?f3, _, rfl, ?zh, $c, $n, lk_Vault_persons, ?_⟩); (case zh => walk_at "hold")))
local macro_rules | `(tactic| walk_at "go1") => do let c := Lean.mkIdent `T.c_Vault; let n := Lean.mkIdent `T.na_Vault_gone_numbers; `(tactic| ((refine ⟨_, _, ?fx, fs_Vault ?f0 ?f1 ?f2 ?f3, _, rfl, ?zh, $c, $n, lk_Vault_gone_numbers, ?_⟩); (case zh => walk_at "hold")))
local macro_rules | `(tactic| walk_at "go1") => `(tactic| first | (with_reducible refine w_tfld ?_) | (with_reducible refine w_tsfld ?_) | (with_reducible refine w_tmeth ?_) | (with_reducible refine w_tmethT ?_) | (with_reducible refine w_tmake ?_) | (with_reducible refine w_slice ?_) | (with_reducible refine w_noPart ?_) | (with_reducible refine w_part ?_) | (with_reducible refine w_max2 ?_))
structure Errs (P : Program) (K : PySem.W.Frag) (mg : Str → Option Value) where
  C_StoreError : Addr
  g_StoreError : mg "StoreError" = some (.ref C_StoreError)
  C_NameTaken : Addr
  g_NameTaken : mg "NameTaken" = some (.ref C_NameTaken)
  C_NoHolder : Addr
  g_NoHolder : mg "NoHolder" = some (.ref C_NoHolder)
  C_HoldersDown : Addr
  g_HoldersDown : mg "HoldersDown" = some (.ref C_HoldersDown)
  C_LastHolder : Addr
  g_LastHolder : mg "LastHolder" = some (.ref C_LastHolder)
  C_Vault : Addr
  g_Vault : mg "Vault" = some (.ref C_Vault)
  I_NameTaken : Addr
  E_NameTaken : PySem.ZEX.NameTakenTxt P K mg C_NameTaken I_NameTaken
  x_NameTaken : XfC K C_NameTaken
  i_NameTaken : ExcC K C_NameTaken
  t_NameTaken : PySem.W.exmOne K (.ref C_NameTaken) (.ref C_NameTaken) = some true
  I_NoHolder : Addr
  E_NoHolder : PySem.ZEX.NoHolderTxt P K mg C_NoHolder I_NoHolder
  x_NoHolder : XfC K C_NoHolder
  i_NoHolder : ExcC K C_NoHolder
  t_NoHolder : PySem.W.exmOne K (.ref C_NoHolder) (.ref C_NoHolder) = some true
  I_LastHolder : Addr
  E_LastHolder : PySem.ZEX.LastHolderTxt P K mg C_LastHolder I_LastHolder
  x_LastHolder : XfC K C_LastHolder
  i_LastHolder : ExcC K C_LastHolder
  t_LastHolder : PySem.W.exmOne K (.ref C_LastHolder) (.ref C_LastHolder) = some true
  q_HoldersDown : PySem.W.excIn K C_HoldersDown [.type "ValueError", .type "Exception", .type "BaseException", .type "object"] "ValueError.__new__" = true
  k_HoldersDown : PySem.W.keepIn K (.ref C_HoldersDown) = true
  s_HoldersDown : PySem.W.subIn K (.ref C_HoldersDown) (.type "BaseException") = some true
  y_HoldersDown : PySem.W.typeIn K (.ref C_HoldersDown) = some (.type "type")
  m_HoldersDown_HoldersDown : PySem.W.exmOne K (.ref C_HoldersDown) (.ref C_HoldersDown) = some true
  n_NoHolder_HoldersDown : PySem.W.exmOne K (.ref C_NoHolder) (.ref C_HoldersDown) = some false
  n_NameTaken_HoldersDown : PySem.W.exmOne K (.ref C_NameTaken) (.ref C_HoldersDown) = some false
  n_LastHolder_HoldersDown : PySem.W.exmOne K (.ref C_LastHolder) (.ref C_HoldersDown) = some false
  n_NameTaken_NoHolder : PySem.W.exmOne K (.ref C_NameTaken) (.ref C_NoHolder) = some false
  n_LastHolder_NoHolder : PySem.W.exmOne K (.ref C_LastHolder) (.ref C_NoHolder) = some false
  n_LastHolder_NameTaken : PySem.W.exmOne K (.ref C_LastHolder) (.ref C_NameTaken) = some false
def looseZ0 : List PySem.Str := ["_wall", "StoreError", "NameTaken", "NoHolder", "HoldersDown", "LastHolder", "ALPHABET", "INT_MOST", "TEXT_MOST", "INT_SIZE", "TEXT_SIZE", "size_of", "first_code", "code_of", "text_of", "value_of", "sealed", "opened", "Vault", "_law_mixed", "_law_rest", "_law_draw", "_law_pick", "_law_text", "_law_value", "_law_code", "_law_size", "_law_same", "_law_pool", "_law_next"]
def looseZ1 : List PySem.Str := ["_law_told", "_law_seal_both", "_law_open", "_law_alike"]
def looseZ : List PySem.Str := looseZ0 ++ looseZ1
def fnsZ0 : List He.DefD := [⟨("size_of", none), "size_of", "size_of", defArgs s_size_of, defBody s_size_of, defScope s_size_of, [], []⟩, ⟨("first_code", none), "first_code", "first_code", defArgs s_first_code, defBody s_first_code, defScope s_first_code, [], []⟩, ⟨("code_of", none), "code_of", "code_of", defArgs s_code_of, defBody s_code_of, defScope s_code_of, [], []⟩, ⟨("text_of", none), "text_of", "text_of", defArgs s_text_of, defBody s_text_of, defScope s_text_of, [], []⟩, ⟨("value_of", none), "value_of", "value_of", defArgs s_value_of, defBody s_value_of, defScope s_value_of, [], []⟩, ⟨("sealed", none), "sealed", "sealed", defArgs s_sealed, defBody s_sealed, defScope s_sealed, [], []⟩, ⟨("opened", none), "opened", "opened", defArgs s_opened, defBody s_opened, defScope s_opened, [], []⟩, ⟨("Vault", some "__init__"), "__init__", "Vault.__init__", defArgs s_Vault___init__, defBody s_Vault___init__, defScope s_Vault___init__, [], []⟩, ⟨("Vault", some "known"), "known", "Vault.known", defArgs s_Vault_known, defBody s_Vault_known, defScope s_Vault_known, [], []⟩, ⟨("Vault", some "up_names"), "up_names", "Vault.up_names", defArgs s_Vault_up_names, defBody s_Vault_up_names, defScope s_Vault_up_names, [], []⟩, ⟨("Vault", some "seal"), "seal", "Vault.seal", defArgs s_Vault_seal, defBody s_Vault_seal, defScope s_Vault_seal, [], []⟩, ⟨("Vault", some "unseal"), "unseal", "Vault.unseal", defArgs s_Vault_unseal, defBody s_Vault_unseal, defScope s_Vault_unseal, [], []⟩, ⟨("Vault", some "shred"), "shred", "Vault.shred", defArgs s_Vault_shred, defBody s_Vault_shred, defScope s_Vault_shred, [], []⟩, ⟨("Vault", some "forget"), "forget", "Vault.forget", defArgs s_Vault_forget, defBody s_Vault_forget, defScope s_Vault_forget, [], []⟩, ⟨("Vault", some "has_trace"), "has_trace", "Vault.has_trace", defArgs s_Vault_has_trace, defBody s_Vault_has_trace, defScope s_Vault_has_trace, [], []⟩, ⟨("Vault", some "traces"), "traces", "Vault.traces", defArgs s_Vault_traces, defBody s_Vault_traces, defScope s_Vault_traces, [], []⟩, ⟨("Vault", some "gone"), "gone", "Vault.gone", defArgs s_Vault_gone, defBody s_Vault_gone, defScope s_Vault_gone, [], []⟩, ⟨("Vault", some "holders"), "holders", "Vault.holders", defArgs s_Vault_holders, defBody s_Vault_holders, defScope s_Vault_holders, [], []⟩, ⟨("Vault", some "down"), "down", "Vault.down", defArgs s_Vault_down, defBody s_Vault_down, defScope s_Vault_down, [], []⟩, ⟨("Vault", some "up"), "up", "Vault.up", defArgs s_Vault_up, defBody s_Vault_up, defScope s_Vault_up, [], []⟩, ⟨("Vault", some "heal"), "heal", "Vault.heal", defArgs s_Vault_heal, defBody s_Vault_heal, defScope s_Vault_heal, [], []⟩, ⟨("Vault", some "store"), "store", "Vault.store", defArgs s_Vault_store, defBody s_Vault_store, defScope s_Vault_store, [], []⟩, ⟨("Vault", some "destroy"), "destroy", "Vault.destroy", defArgs s_Vault_destroy, defBody s_Vault_destroy, defScope s_Vault_destroy, [], []⟩, ⟨("Vault", some "holder_values"), "holder_values", "Vault.holder_values", defArgs s_Vault_holder_values, defBody s_Vault_holder_values, defScope s_Vault_holder_values, [], []⟩, ⟨("Vault", some "vault_values"), "vault_values", "Vault.vault_values", defArgs s_Vault_vault_values, defBody s_Vault_vault_values, defScope s_Vault_vault_values, [], []⟩, ⟨("_law_mixed", none), "_law_mixed", "_law_mixed", defArgs s_law_mixed, defBody s_law_mixed, defScope s_law_mixed, [], []⟩, ⟨("_law_rest", none), "_law_rest", "_law_rest", defArgs s_law_rest, defBody s_law_rest, defScope s_law_rest, [], []⟩, ⟨("_law_draw", none), "_law_draw", "_law_draw", defArgs s_law_draw, defBody s_law_draw, defScope s_law_draw, [], []⟩, ⟨("_law_pick", none), "_law_pick", "_law_pick", defArgs s_law_pick, defBody s_law_pick, defScope s_law_pick, [], []⟩, ⟨("_law_text", none), "_law_text", "_law_text", defArgs s_law_text, defBody s_law_text, defScope s_law_text, [], []⟩]
def fnsZ1 : List He.DefD := [⟨("_law_value", none), "_law_value", "_law_value", defArgs s_law_value, defBody s_law_value, defScope s_law_value, [], []⟩, ⟨("_law_code", none), "_law_code", "_law_code", defArgs s_law_code, defBody s_law_code, defScope s_law_code, [], []⟩, ⟨("_law_size", none), "_law_size", "_law_size", defArgs s_law_size, defBody s_law_size, defScope s_law_size, [], []⟩, ⟨("_law_same", none), "_law_same", "_law_same", defArgs s_law_same, defBody s_law_same, defScope s_law_same, [], []⟩, ⟨("_law_pool", none), "_law_pool", "_law_pool", defArgs s_law_pool, defBody s_law_pool, defScope s_law_pool, [], []⟩, ⟨("_law_next", none), "_law_next", "_law_next", defArgs s_law_next, defBody s_law_next, defScope s_law_next, [], []⟩, ⟨("_law_told", none), "_law_told", "_law_told", defArgs s_law_told, defBody s_law_told, defScope s_law_told, [], []⟩, ⟨("_law_seal_both", none), "_law_seal_both", "_law_seal_both", defArgs s_law_seal_both, defBody s_law_seal_both, defScope s_law_seal_both, [], []⟩, ⟨("_law_open", none), "_law_open", "_law_open", defArgs s_law_open, defBody s_law_open, defScope s_law_open, [], []⟩, ⟨("_law_alike", none), "_law_alike", "_law_alike", defArgs s_law_alike, defBody s_law_alike, defScope s_law_alike, [], []⟩, ⟨("law", none), "law", "law", defArgs s_law, defBody s_law, defScope s_law, [], []⟩]
def fnsZ : List He.DefD := fnsZ0 ++ fnsZ1
def fasZ0 : List He.Fa := [.glo "size_of", .glo "first_code", .glo "code_of", .glo "text_of", .glo "value_of", .glo "sealed", .glo "opened", .glo "_law_mixed", .glo "_law_rest", .glo "_law_draw", .glo "_law_pick", .glo "_law_text", .glo "_law_value", .glo "_law_code", .glo "_law_size", .glo "_law_same", .glo "_law_pool", .glo "_law_next", .glo "_law_told", .glo "_law_seal_both", .glo "_law_open", .glo "_law_alike", .glo "law", .cls "Vault", .glo "Vault", .mkr "Vault", .noat "Vault" "pads", .noat "Vault" "ups", .noat "Vault" "persons", .noat "Vault" "gone_numbers"]
def fasZ1 : List He.Fa := [.meth "Vault" "__init__", .meth "Vault" "known", .meth "Vault" "up_names", .meth "Vault" "seal", .meth "Vault" "unseal", .meth "Vault" "shred", .meth "Vault" "forget", .meth "Vault" "has_trace", .meth "Vault" "traces", .meth "Vault" "gone", .meth "Vault" "holders", .meth "Vault" "down", .meth "Vault" "up", .meth "Vault" "heal", .meth "Vault" "store", .meth "Vault" "destroy", .meth "Vault" "holder_values", .meth "Vault" "vault_values", .free "bool", .free "dict", .free "int", .free "isinstance", .free "len", .free "list", .free "range", .free "reversed", .free "sorted", .free "str", .free "tuple", .str "ALPHABET" (Str.ofString " !\"#$&'()*+,-./0123456789:;<=>?@ABCDEFGHIJKLMNOPQRSTUVWXYZ[\\]^_`abcdefghijklmnopqrstuvwxyz{|}~")]
def fasZ2 : List He.Fa := [.int "INT_MOST" (1000000000), .int "TEXT_MOST" (20), .int "INT_SIZE" (2000000001), .int "TEXT_SIZE" (2932256630791119505061064402082674519051), .glo "StoreError", .glo "NameTaken", .glo "NoHolder", .glo "HoldersDown", .glo "LastHolder", .free "super", .exc "HoldersDown", .exm "HoldersDown" "HoldersDown" true, .exm "NoHolder" "HoldersDown" false, .exm "NameTaken" "HoldersDown" false, .exm "LastHolder" "HoldersDown" false, .exm "NameTaken" "NoHolder" false, .exm "LastHolder" "NoHolder" false, .exm "LastHolder" "NameTaken" false]
def fasZ : List He.Fa := fasZ0 ++ fasZ1 ++ fasZ2
def exsZ : List ZH.ExD := [⟨"NameTaken", "name", "NameTaken.__init__", PySem.ZEX.NameTaken_mA, PySem.ZEX.NameTaken_mB, PySem.ZEX.NameTaken_mS⟩, ⟨"NoHolder", "name", "NoHolder.__init__", PySem.ZEX.NoHolder_mA, PySem.ZEX.NoHolder_mB, PySem.ZEX.NoHolder_mS⟩, ⟨"LastHolder", "name", "LastHolder.__init__", PySem.ZEX.LastHolder_mA, PySem.ZEX.LastHolder_mB, PySem.ZEX.LastHolder_mS⟩]
def xtrZ : ZH.Xtr := []
abbrev fileZ : Str := PySem.Challenge.pw_storelife_k56_whole_other_worlds_of_a_va.main.file
abbrev hkZ : PySem.W.Hook := ZH.hookZ 2000 fasZ fnsZ exsZ xtrZ fileZ
def obZ (s : PySem.W.SharedT) : ZH.AlZ := ZH.obsZG 2000 fasZ fnsZ exsZ xtrZ fileZ (HandSHeadRun.getT s)
theorem ob_eqZ (s : PySem.W.SharedT) : obZ s = hkZ.obs s.abs := ZH.obsZG_eq (HandSHeadRun.getT_eq s)
set_option maxHeartbeats 0 in
theorem runZ (w : World) : HandSHeadRun.RunEq (PySem.W.OpenLaw.row PySem.Challenge.rw_storelife_k56_whole_other_worlds_of_a_va) (PySem.W.view (PySem.W.OpenLaw.row PySem.Challenge.rw_storelife_k56_whole_other_worlds_of_a_va).prog [38]) hkZ obZ 20000 looseZ w := by
  intro os
  kernel_rfl
section
variable {P : Program} {w : World} {K : PySem.W.Frag} {mg : Str → Option Value} {base : Heap}

/-! ### the drawn numbers -/
def sp_law_mixed (K : PySem.W.Frag) : Sp := sp2 fun a b H Q => ∃ n p, a = .int n ∧ b = .int p ∧ ∀ v : Int, 0 ≤ v → Q (.int v) H
theorem ok_law_mixed (T : Txt K mg) : FnOk P w K mg base CX0 1 T.f__law_mixed T.d__law_mixed ["number", "place"] (sp_law_mixed K) := by
  refine T.F__law_mixed.ok sc_law_mixed len2 (fun cdv A outer s H vs Q E hr h => ?_)
  have nd := sc_law_mixed.nd
  have hu := hu_of hr
  obtain ⟨_, _, rfl, n, p, rfl, rfl, k⟩ := h
  refine ⟨_,
      (pss_cons (ps_set (i := 2) nd rfl (Or.inl rfl) (pe_op op_mod (pe_callTy zc_int (by rfl) T.b_int (by decide +kernel) (pa_cons (pe_op op_add (pe_op op_add (pe_op op_mul (pv 0) pe_int) (pe_op op_mul (pv 1) pe_int)) pe_int) pa_nil)) pe_int)) 
      (pss_cons (ps_set (i := 3) nd rfl (Or.inl rfl) (pe_op op_mod (pe_callTy zc_int (by rfl) T.b_int (by decide +kernel) (pa_cons (pe_op op_add (pe_op op_add (pe_op op_mulW (pv 2) (pv 2)) (pe_op op_mul pe_int (pv 2))) (pv 1)) pa_nil)) pe_int)) 
      (pss_cons (ps_set (i := 4) nd rfl (Or.inl rfl) (pe_op op_mod (pe_callTy zc_int (by rfl) T.b_int (by decide +kernel) (pa_cons (pe_op op_add (pe_op op_mulW (pv 3) (pv 3)) (pv 2)) pa_nil)) pe_int)) 
      (pss_one (ps_ret (pe_op op_add (pe_op op_mulW (pv 3) pe_int) (pv 4))))))), ?_⟩
  change (_ : TS) _ [some _, some _, none, none, none] _
  try dsimp only [cxOf, Cx.nox, Cx.wish]
  walk_at "goa"
  refine k _ ?_
  omega
def sp_law_rest (K : PySem.W.Frag) : Sp := sp3 fun a b c H Q => ∃ (sc : Addr) (ns : List Int) (p f : Int), a = .ref sc ∧ b = .int p ∧ c = .int f ∧ Scr K H sc (ns.map V.int) ∧ ∀ v : Int, 0 ≤ v → Q (.int v) H
theorem ok_law_rest (T : Txt K mg) : FnOk P w K mg base CX0 2 T.f__law_rest T.d__law_rest ["script", "place", "fills"] (sp_law_rest K) := by
  refine T.F__law_rest.ok sc_law_rest len3 (fun cdv A outer s H vs Q E hr h => ?_)
  have nd := sc_law_rest.nd
  have hu := hu_of hr
  obtain ⟨_, _, _, rfl, sc, ns, p, f, rfl, rfl, rfl, hS, k⟩ := h
  refine ⟨_,
      (pss_cons (ps_set (i := 3) nd rfl (Or.inl rfl) pe_int) 
      (pss_cons (ps_if (pt_cmpR op_gt (pe_callB zc_len (by rfl) T.b_len (by decide +kernel) (pa_cons (pv 0) pa_nil)) pe_int (nomark _)) 
        (pss_one (ps_set (i := 3) nd rfl (Or.inl rfl) (pe_callTy zc_int (by rfl) T.b_int (by decide +kernel) (pa_cons (pe_ix ix_list (pv 0) (pe_op op_mod (pe_callTy zc_int (by rfl) T.b_int (by decide +kernel) (pa_cons (pv 1) pa_nil)) (pe_callB zc_len (by rfl) T.b_len (by decide +kernel) (pa_cons (pv 0) pa_nil))) (fun _ _ => rfl)) pa_nil)))) pss_nil) 
      (pss_cons (ps_if (pt_cmpR op_lt (pv 3) pe_int (nomark _)) 
        (pss_one (ps_set (i := 3) nd rfl (Or.inl rfl) (pe_op op_sub pe_int (pe_op op_mul pe_int (pv 3))))) pss_nil) 
      (pss_cons (ps_if (PW.pt (pw_and (pt_cmpR op_eq (pv 2) pe_int (nomark _)) (pw_and (pt_cmpR op_lt (pv 1) (pe_callB zc_len (by rfl) T.b_len (by decide +kernel) (pa_cons (pv 0) pa_nil)) (nomark _)) (pw_and1 (pt_cmpR op_ge (pv 3) (pe_op op_pow pe_int pe_int) (nomark _)))))) 
        (pss_one (ps_ret (pe_op op_sub (pv 3) (pe_op op_pow pe_int pe_int)))) pss_nil) 
      (pss_one (ps_ret (pe_call (ok_law_mixed T) (hr.mono (by decide)) (by rfl) T.g__law_mixed T.F__law_mixed.kp T.k__law_mixed .nil pass0 (pa_cons (pe_op op_add (pv 3) (pe_op op_mul (pv 2) pe_int)) (pa_cons (pv 1) pa_nil))))))))), ?_⟩
  change (_ : TS) _ [some _, some _, some _, none] _
  try dsimp only [cxOf, Cx.nox, Cx.wish]
  have hS2 := hS.sql
  walk_at "go"
  refine w_cut (fun σ' H' => H = H' ∧ ∃ n : Int, σ' = [some (V.ref sc), some (V.int p), some (V.int f), some (V.int n)]) ?_ fun nx hn => ?_
  · rintro _ _ ⟨rfl, n, rfl⟩
    walk_at "go"
    refine w_cut (fun σ' H' => H = H' ∧ ∃ n : Int, 0 ≤ n ∧ σ' = [some (V.ref sc), some (V.int p), some (V.int f), some (V.int n)]) ?_ fun nx hn => ?_
    · rintro _ _ ⟨rfl, n, n0, rfl⟩
      walk_at "go"
      refine w_cut (fun σ' H' => H = H' ∧ σ' = [some (V.ref sc), some (V.int p), some (V.int f), some (V.int n)]) ?_ fun nx hn => ?_
      · rintro _ _ ⟨rfl, rfl⟩
        walk_at "go"
        exact w_sp2 ⟨_, _, rfl, rfl, k⟩
      · walk_at "if"
        refine w_d (fun h => ?_) fun h => ?_ <;> walk_at "go"
        · refine w_d (fun h => ?_) fun h => ?_ <;> walk_at "go"
          · refine w_d (fun h => ?_) fun h => ?_ <;> walk_at "go"
            · exact k _ (by omega)
            · exact hn _ _ ⟨rfl, rfl⟩
          · exact hn _ _ ⟨rfl, rfl⟩
        · exact hn _ _ ⟨rfl, rfl⟩
    · walk_at "if"
      refine w_d (fun h => ?_) fun h => ?_ <;> walk_at "go"
      · exact hn _ _ ⟨rfl, _, by omega, rfl⟩
      · exact hn _ _ ⟨rfl, _, by omega, rfl⟩
  · walk_at "if"
    refine w_d (fun h => ?_) fun h => ?_
    · walk_at "goa"
      rename_i r r0 r1
      rw [List.length_map] at r1
      obtain ⟨z, _, hz⟩ := at_map (f := V.int) r0 r1
      refine w_ixL hS2 hz ?_
      walk_at "go"
      exact hn _ _ ⟨rfl, _, rfl⟩
    · walk_at "go"
      exact hn _ _ ⟨rfl, _, rfl⟩
/-- the pool: the script, a place, what is left of the number, how often it was filled -/
def PoolAt (K : PySem.W.Frag) (H : Hp) (p : Addr) : Prop := ∃ (sc : Addr) (ns : List Int) (pl re fi : Int), H p = some (.lst [.ref sc, .int pl, .int re, .int fi]) ∧ Scr K H sc (ns.map V.int) ∧ 0 ≤ re
theorem PoolAt.ext {M : List Addr} {H H' : Hp} {p : Addr} (e : Ext M H H') (h : PoolAt K H p) (n : p ∉ M) : PoolAt K H' p := by
  obtain ⟨sc, ns, pl, re, fi, h1, h2, h3⟩ := h
  exact ⟨sc, ns, pl, re, fi, e.keep _ _ h1 n, h2.ext e, h3⟩
theorem PoolAt.ne {H : Hp} {p q : Addr} (h : PoolAt K H p) (n : H q = none) : p ≠ q := by
  obtain ⟨sc, ns, pl, re, fi, h1, h2, h3⟩ := h
  exact ne_of_none h1 n
def sp_law_pool (K : PySem.W.Frag) : Sp := sp1 fun a H Q => ∃ (sc : Addr) (ns : List Int), a = .ref sc ∧ Scr K H sc (ns.map V.int) ∧ ∀ p H', Ext [] H H' → H p = none → PoolAt K H' p → Q (.ref p) H'
theorem ok_law_pool (T : Txt K mg) : FnOk P w K mg base CX0 3 T.f__law_pool T.d__law_pool ["script"] (sp_law_pool K) := by
  refine T.F__law_pool.ok sc_law_pool len1 (fun cdv A outer s H vs Q E hr h => ?_)
  have nd := sc_law_pool.nd
  have hu := hu_of hr
  obtain ⟨_, rfl, sc, ns, rfl, hS, k⟩ := h
  refine ⟨_,
      (pss_one (ps_ret (pe_lstZ (pa_cons (pv 0) (pa_cons pe_int (pa_cons (pe_call (ok_law_rest T) (hr.mono (by decide)) (by rfl) T.g__law_rest T.F__law_rest.kp T.k__law_rest .nil pass0 (pa_cons (pv 0) (pa_cons pe_int (pa_cons pe_int pa_nil)))) (pa_cons pe_int pa_nil))))))), ?_⟩
  change (_ : TS) _ [some _] _
  try dsimp only [cxOf, Cx.nox, Cx.wish]
  walk_at "go"
  refine w_sp3 ⟨_, _, _, _, rfl, rfl, rfl, hS, fun v v0 => ?_⟩
  walk_at "go"
  refine ⟨sz (by show 4 ≤ _; decide), w_alc fun p H1 e1 n1 h1 => ?_⟩
  exact k p H1 e1 n1 ⟨sc, ns, _, _, _, h1, hS.ext e1, v0⟩
def sp_law_draw (K : PySem.W.Frag) : Sp := sp2 fun a b H Q => ∃ (p : Addr) (l : Int), a = .ref p ∧ b = .int l ∧ PoolAt K H p ∧ 0 < l ∧ l < 2 ^ 200 ∧ ∀ v H', 0 ≤ v → v < l → Ext [p] H H' → PoolAt K H' p → Q (.int v) H'
theorem ok_law_draw (T : Txt K mg) : FnOk P w K mg base CX0 3 T.f__law_draw T.d__law_draw ["pool", "limit"] (sp_law_draw K) := by
  refine T.F__law_draw.ok sc_law_draw len2 (fun cdv A outer s H vs Q E hr h => ?_)
  have nd := sc_law_draw.nd
  have hu := hu_of hr
  obtain ⟨_, _, rfl, p, l, rfl, rfl, hP, l0, l1, k⟩ := h
  refine ⟨_,
      (pss_cons (ps_if (pt_cmpR op_le (pe_ix ix_list (pv 0) pe_int (fun _ _ => rfl)) pe_int (nomark _)) 
        (pss_cons (ps_asg (pe_op op_add (pe_ix ix_list (pv 0) pe_int (fun _ _ => rfl)) pe_int) (pg_sub (pv 0) pe_int zset_list)) 
        (pss_one (ps_asg (pe_call (ok_law_rest T) (hr.mono (by decide)) (by rfl) T.g__law_rest T.F__law_rest.kp T.k__law_rest .nil pass0 (pa_cons (pe_ix ix_list (pv 0) pe_int (fun _ _ => rfl)) (pa_cons (pe_ix ix_list (pv 0) pe_int (fun _ _ => rfl)) (pa_cons (pe_ix ix_list (pv 0) pe_int (fun _ _ => rfl)) pa_nil)))) (pg_sub (pv 0) pe_int zset_list)))) pss_nil) 
      (pss_cons (ps_set (i := 2) nd rfl (Or.inl rfl) (pe_op op_mod (pe_callTy zc_int (by rfl) T.b_int (by decide +kernel) (pa_cons (pe_ix ix_list (pv 0) pe_int (fun _ _ => rfl)) pa_nil)) (pv 1))) 
      (pss_cons (ps_asg (pe_op op_fdivW (pe_callTy zc_int (by rfl) T.b_int (by decide +kernel) (pa_cons (pe_ix ix_list (pv 0) pe_int (fun _ _ => rfl)) pa_nil)) (pv 1)) (pg_sub (pv 0) pe_int zset_list)) 
      (pss_one (ps_ret (pv 2)))))), ?_⟩
  change (_ : TS) _ [some _, some _, none] _
  try dsimp only [cxOf, Cx.nox, Cx.wish]
  walk_at "go"
  refine w_cut (fun σ' H' => Ext [p] H H' ∧ PoolAt K H' p ∧ σ' = [some (V.ref p), some (V.int l), none]) ?_ fun nx hn => ?_
  · rintro _ H1 ⟨e1, ⟨sc, ns, pl, re, fi, h1, h2, h3⟩, rfl⟩
    walk_at "goa"
    rename_i r r0 r1
    refine w_I (wide_div (b := 200) l0 (by omega) (by decide) (by decide)) ?_
    walk_at "go"
    refine w_chg h1 (fun z => z) fun H2 e2 h4 => ?_
    walk_at "go"
    exact k r H2 r0 r1 (e1.trans e2) ⟨sc, ns, _, _, _, h4, h2.ext e2, Int.ediv_nonneg h3 (by omega)⟩
  · obtain ⟨sc, ns, pl, re, fi, h1, h2, h3⟩ := id hP
    walk_at "if"
    refine w_d (fun h => ?_) fun h => ?_ <;> walk_at "go"
    · refine w_chg h1 (fun z => z) fun H2 e2 h4 => ?_
      change H2 p = some (.lst [.ref sc, .int pl, .int re, .int (fi + 1)]) at h4
      walk_at "go"
      refine w_sp3 ⟨_, _, _, _, rfl, rfl, rfl, h2.ext e2, fun v v0 => ?_⟩
      walk_at "go"
      refine w_chg h4 (fun z => z) fun H3 e3 h5 => ?_
      exact hn _ _ ⟨e2.trans e3, ⟨sc, ns, _, _, _, h5, (h2.ext e2).ext e3, v0⟩, rfl⟩
    · exact hn _ _ ⟨Ext.refl, hP, rfl⟩
theorem w_draw {H : Hp} {p : Addr} {l : Int} {Q : VK} {E : XK} (hP : PoolAt K H p) (l0 : 0 < l) (l1 : l < 2 ^ 200) (k : ∀ v H', 0 ≤ v → v < l → Ext [p] H H' → PoolAt K H' p → Q (.int v) H') :
    sp_law_draw K ([.ref p, .int l] ++ []) H Q E := ⟨_, _, rfl, p, l, rfl, rfl, hP, l0, l1, k⟩

/-! ### the next cell of the script; a drawn item -/
def sp_law_next (K : PySem.W.Frag) : Sp := sp1 fun a H Q => ∃ p, a = .ref p ∧ PoolAt K H p ∧ ∀ H', Ext [p] H H' → PoolAt K H' p → Q .non H'
theorem ok_law_next (T : Txt K mg) : FnOk P w K mg base CX0 3 T.f__law_next T.d__law_next ["pool"] (sp_law_next K) := by
  refine T.F__law_next.ok sc_law_next len1 (fun cdv A outer s H vs Q E hr h => ?_)
  have nd := sc_law_next.nd
  have hu := hu_of hr
  obtain ⟨_, rfl, p, rfl, ⟨sc, ns, pl, re, fi, h1, h2, h3⟩, k⟩ := h
  refine ⟨_,
      (pss_cons (ps_asg (pe_op op_add (pe_ix ix_list (pv 0) pe_int (fun _ _ => rfl)) pe_int) (pg_sub (pv 0) pe_int zset_list)) 
      (pss_cons (ps_asg (pe_call (ok_law_rest T) (hr.mono (by decide)) (by rfl) T.g__law_rest T.F__law_rest.kp T.k__law_rest .nil pass0 (pa_cons (pe_ix ix_list (pv 0) pe_int (fun _ _ => rfl)) (pa_cons (pe_ix ix_list (pv 0) pe_int (fun _ _ => rfl)) (pa_cons pe_int pa_nil)))) (pg_sub (pv 0) pe_int zset_list)) 
      (pss_one (ps_asg pe_int (pg_sub (pv 0) pe_int zset_list))))), ?_⟩
  change (_ : TS) _ [some _] _
  try dsimp only [cxOf, Cx.nox, Cx.wish]
  walk_at "go"
  refine w_chg h1 (fun z => z) fun H1 e1 g1 => ?_
  change H1 p = some (.lst [.ref sc, .int (pl + 1), .int re, .int fi]) at g1
  walk_at "go"
  refine w_sp3 ⟨_, _, _, _, rfl, rfl, rfl, h2.ext e1, fun v v0 => ?_⟩
  walk_at "go"
  refine w_chg g1 (fun z => z) fun H2 e2 g2 => ?_
  change H2 p = some (.lst [.ref sc, .int (pl + 1), .int v, .int fi]) at g2
  walk_at "go"
  refine w_chg g2 (fun z => z) fun H3 e3 g3 => ?_
  exact k _ ((e1.trans e2).trans e3) ⟨sc, ns, _, _, _, g3, ((h2.ext e1).ext e2).ext e3, v0⟩
theorem w_next_ {H : Hp} {p : Addr} {Q : VK} {E : XK} (hP : PoolAt K H p) (k : ∀ H', Ext [p] H H' → PoolAt K H' p → Q .non H') : sp_law_next K ([.ref p] ++ []) H Q E := ⟨_, rfl, p, rfl, hP, k⟩
def sp_law_pick (K : PySem.W.Frag) : Sp := sp2 fun a b H Q => ∃ (p o : Addr) (xs : List V), a = .ref p ∧ b = .ref o ∧ PoolAt K H p ∧ H o = some (.lst xs) ∧ o ≠ p ∧ 0 < xs.length ∧ xs.length ≤ 1000 ∧ ∀ v H', v ∈ xs → Ext [p] H H' → PoolAt K H' p → Q v H'
theorem ok_law_pick (T : Txt K mg) : FnOk P w K mg base CX0 4 T.f__law_pick T.d__law_pick ["pool", "options"] (sp_law_pick K) := by
  refine T.F__law_pick.ok sc_law_pick len2 (fun cdv A outer s H vs Q E hr h => ?_)
  have nd := sc_law_pick.nd
  have hu := hu_of hr
  obtain ⟨_, _, rfl, p, o, xs, rfl, rfl, hP, ho, n, l0, l1, k⟩ := h
  refine ⟨_,
      (pss_one (ps_ret (pe_ix ix_list (pv 1) (pe_call (ok_law_draw T) (hr.mono (by decide)) (by rfl) T.g__law_draw T.F__law_draw.kp T.k__law_draw .nil pass0 (pa_cons (pv 0) (pa_cons (pe_callB zc_len (by rfl) T.b_len (by decide +kernel) (pa_cons (pv 1) pa_nil)) pa_nil))) (fun _ _ => rfl)))), ?_⟩
  change (_ : TS) _ [some _, some _] _
  try dsimp only [cxOf, Cx.nox, Cx.wish]
  walk_at "go"
  refine w_draw hP (by omega) (by omega) fun r H1 r0 r1 e1 hP1 => ?_
  obtain ⟨v, hv, hm⟩ := at_some r0 r1
  refine w_ixL (sql (e1.keep _ _ ho (nm1 n))) hv ?_
  exact k v H1 (List.mem_of_getElem? hm) e1 hP1
theorem w_pick {H : Hp} {p o : Addr} {xs : List V} {Q : VK} {E : XK} (hP : PoolAt K H p) (ho : H o = some (.lst xs)) (n : o ≠ p) (l0 : 0 < xs.length) (l1 : xs.length ≤ 1000) (k : ∀ v H', v ∈ xs → Ext [p] H H' → PoolAt K H' p → Q v H') :
    sp_law_pick K ([.ref p, .ref o] ++ []) H Q E := ⟨_, _, rfl, p, o, xs, rfl, rfl, hP, ho, n, l0, l1, k⟩

/-! ### pads -/
theorem alph_occ : ∀ c ∈ alph.cps.toList, ∃ r, Builtin.Str.occurrences alph ⟨#[c]⟩ 0 alph.length 1 = ix94 c :: r := by
  have h : ∀ c ∈ alph.cps.toList, (Builtin.Str.occurrences alph ⟨#[c]⟩ 0 alph.length 1).head? = some (ix94 c) := by decide +kernel
  intro c m
  have := h c m
  cases e : Builtin.Str.occurrences alph ⟨#[c]⟩ 0 alph.length 1 with
  | nil => rw [e] at this; cases this
  | cons a r => rw [e] at this; cases this; exact ⟨r, rfl⟩
theorem sg_at (q : Nat) : alph.cps.toList[q % 94]? = some (sg94 q) := by
  have l : q % 94 < alph.cps.toList.length := by rw [alph_len]; exact Nat.mod_lt _ (by decide)
  unfold sg94
  rw [List.getElem?_eq_getElem l]; rfl
theorem digs_len : ∀ (n r : Nat), (digs n r).length = n
  | 0, _ => rfl
  | n + 1, r => congrArg (· + 1) (digs_len n (r / 94))
theorem one_len : ∀ l : List Nat, ((l.map fun d => (⟨#[d]⟩ : Str)).map (·.length)).sum = l.length
  | [] => rfl
  | x :: r => by
    rw [List.map_cons, List.map_cons, List.sum_cons, one_len r]
    show 1 + r.length = r.length + 1
    omega
theorem join_one' (l : List Nat) : (Txt.join (Str.ofString "") (l.map fun d => (⟨#[d]⟩ : Str))).cps.toList = l := by
  show (Builtin.Str.glued (Str.ofString "") _).cps.toList = l
  rw [StrLaws.glued_eq_join]
  induction l with
  | nil => simp [Str.join, Str.empty]
  | cons x r ih =>
    cases r with
    | nil => rfl
    | cons y r =>
      have e : Str.join (Str.ofString "") ((x :: y :: r).map fun d => (⟨#[d]⟩ : Str)) = (⟨#[x]⟩ : Str) ++ Str.ofString "" ++ Str.join (Str.ofString "") ((y :: r).map fun d => (⟨#[d]⟩ : Str)) := rfl
      rw [e, app_tl, app_tl, ih, show (Str.ofString "").cps.toList = [] from by decide]; rfl
theorem join_one (s : Str) : Txt.join (Str.ofString "") (s.cps.toList.map fun d => (⟨#[d]⟩ : Str)) = s := by
  have := join_one' s.cps.toList
  obtain ⟨a⟩ := s
  generalize Txt.join (Str.ofString "") _ = z at this
  obtain ⟨b⟩ := z
  have e : b = a := Array.toList_inj.mp this
  rw [e]
theorem alph_sz : alph.length ≤ sizeLine := sz (by decide +kernel)
theorem ki_i {n : Int} : decide ((Vl.i n).kind = Str.ofString "int") = true := (by decide +kernel : decide (Str.ofString "int" = Str.ofString "int") = true)
theorem kf_i {b : Bool} : decide ((Vl.f b).kind = Str.ofString "int") = false := (by decide +kernel : decide (Str.ofString "flag" = Str.ofString "int") = false)
theorem kf_f {b : Bool} : decide ((Vl.f b).kind = Str.ofString "flag") = true := (by decide +kernel : decide (Str.ofString "flag" = Str.ofString "flag") = true)
theorem kt_i {z : Str} : decide ((Vl.t z).kind = Str.ofString "int") = false := (by decide +kernel : decide (Str.ofString "text" = Str.ofString "int") = false)
theorem kt_f {z : Str} : decide ((Vl.t z).kind = Str.ofString "flag") = false := (by decide +kernel : decide (Str.ofString "text" = Str.ofString "flag") = false)
def sp_size_of (K : PySem.W.Frag) : Sp := sp1 fun a H Q => ∃ x : Vl, a = .str x.kind ∧ Q (.int x.size) H
theorem ok_size_of (T : Txt K mg) : FnOk P w K mg base CX0 1 T.f_size_of T.d_size_of ["kind"] (sp_size_of K) := by
  refine T.F_size_of.ok sc_size_of len1 (fun cdv A outer s H vs Q E hr h => ?_)
  have nd := sc_size_of.nd
  have hu := hu_of hr
  obtain ⟨_, rfl, x, rfl, k⟩ := h
  refine ⟨_,
      (pss_cons (ps_if (pt_cmpR op_eq (pv 0) pe_str (nomark _)) 
        (pss_one (ps_ret (pe_glob rfl T.g_INT_SIZE T.r_INT_SIZE))) pss_nil) 
      (pss_cons (ps_if (pt_cmpR op_eq (pv 0) pe_str (nomark _)) 
        (pss_one (ps_ret pe_int)) pss_nil) 
      (pss_one (ps_ret (pe_glob rfl T.g_TEXT_SIZE T.r_TEXT_SIZE))))), ?_⟩
  change (_ : TS) _ [some _] _
  try dsimp only [cxOf, Cx.nox, Cx.wish]
  cases x with
  | i n =>
    walk_at "go"; walk_at "if"
    refine w_t ki_i ?_
    walk_at "go"
    exact k
  | f b =>
    walk_at "go"; walk_at "if"
    refine w_f kf_i ?_
    walk_at "go"; walk_at "if"
    refine w_t kf_f ?_
    walk_at "go"
    exact k
  | t s =>
    walk_at "go"; walk_at "if"
    refine w_f kt_i ?_
    walk_at "go"; walk_at "if"
    refine w_f kt_f ?_
    walk_at "go"
    exact k
def sp_first_code (K : PySem.W.Frag) : Sp := sp1 fun a H Q => ∃ n : Nat, a = .int n ∧ n ≤ 100 ∧ Q (.int (fc n : Nat)) H
theorem ok_first_code (T : Txt K mg) : FnOk P w K mg base CX0 1 T.f_first_code T.d_first_code ["length"] (sp_first_code K) := by
  refine T.F_first_code.ok sc_first_code len1 (fun cdv A outer s H vs Q E hr h => ?_)
  have nd := sc_first_code.nd
  have hu := hu_of hr
  obtain ⟨_, rfl, n, rfl, n1, k⟩ := h
  refine ⟨_,
      (pss_cons (ps_set (i := 1) nd rfl (Or.inl rfl) pe_int) 
      (pss_cons (ps_for PassesOwn.never rfl (pi_range1 (by rfl) T.b_range (pa_cons (pv 0) pa_nil)) (pg_name (i := 2) nd rfl (Or.inl rfl)) 
        (pss_one (ps_set (i := 1) nd rfl (Or.inl rfl) (pe_op op_add (pe_op op_mul (pv 1) pe_int) pe_int)))) 
      (pss_one (ps_ret (pv 1))))), ?_⟩
  change (_ : TS) _ [some _, none, none] _
  try dsimp only [cxOf, Cx.nox, Cx.wish]
  walk_at "go"
  refine ⟨_, rfl, by omega, by omega, z_for_range (lo := 0) (n := n) (fun i σ' H' => H = H' ∧ ∃ u, σ' = [some (.int n), some (.int (fc i : Nat)), u]) ⟨rfl, _, rfl⟩ ?_ ?_⟩
  · rintro N i σ' _ hi ⟨rfl, u, rfl⟩ hN
    walk_at "go"
    refine hN _ _ ⟨rfl, some (.int (0 + i)), ?_⟩
    rw [show ((fc i : Nat) : Int) * 94 + 1 = ((fc (i + 1) : Nat) : Int) from by show _ = ((fc i * 94 + 1 : Nat) : Int); omega]
    rfl
  · rintro σ' _ ⟨rfl, u, rfl⟩
    walk_at "go"
    exact k
theorem w_first {H : Hp} {n : Nat} {Q : VK} {E : XK} (n1 : n ≤ 100) (k : Q (.int (fc n : Nat)) H) : sp_first_code K ([.int n] ++ []) H Q E := ⟨_, rfl, n, rfl, n1, k⟩
def _root_.Zk.Vl.v : Vl → V
  | .i n => .int n
  | .t s => .str s
  | .f b => .bl b
theorem codeL_app : ∀ (l m : List Nat) (a : Nat), codeL (l ++ m) a = codeL m (codeL l a)
  | [], _, _ => rfl
  | c :: l, m, a => codeL_app l m _
def sp_code_of (K : PySem.W.Frag) : Sp := sp2 fun a b H Q => ∃ x : Vl, a = .str x.kind ∧ b = x.v ∧ x.Ok ∧ Q (.int x.code) H
theorem ok_code_of (T : Txt K mg) : FnOk P w K mg base CX0 2 T.f_code_of T.d_code_of ["kind", "value"] (sp_code_of K) := by
  refine T.F_code_of.ok sc_code_of len2 (fun cdv A outer s H vs Q E hr h => ?_)
  have nd := sc_code_of.nd
  have hu := hu_of hr
  obtain ⟨_, _, rfl, x, rfl, rfl, hx, k⟩ := h
  refine ⟨_,
      (pss_cons (ps_if (pt_cmpR op_eq (pv 0) pe_str (nomark _)) 
        (pss_one (ps_ret (pe_op op_add (pv 1) (pe_glob rfl T.g_INT_MOST T.r_INT_MOST)))) pss_nil) 
      (pss_cons (ps_if (pt_cmpR op_eq (pv 0) pe_str (nomark _)) 
        (pss_one (ps_ret (pe_ifExp (pt_val (pv 1)) pe_int pe_int))) pss_nil) 
      (pss_cons (ps_set (i := 2) nd rfl (Or.inl rfl) pe_int) 
      (pss_cons (ps_for PassesOwn.never rfl (pi_str (pv 1)) (pg_name (i := 3) nd rfl (Or.inl rfl)) 
        (pss_one (ps_set (i := 2) nd rfl (Or.inl rfl) (pe_op op_add (pe_op op_mul (pv 2) pe_int) (pe_bm PySem.F.plainAttrs_str PySem.F.slot_str_index PySem.F.type_str_index mt_sindex (pe_glob rfl T.g_ALPHABET T.r_ALPHABET) (pa_cons (pv 3) pa_nil)))))) 
      (pss_one (ps_ret (pe_op op_add (pe_call (ok_first_code T) (hr.mono (by decide)) (by rfl) T.g_first_code T.F_first_code.kp T.k_first_code .nil pass0 (pa_cons (pe_callB zc_len (by rfl) T.b_len (by decide +kernel) (pa_cons (pv 1) pa_nil)) pa_nil)) (pv 2)))))))), ?_⟩
  change (_ : TS) _ [some _, some _, none, none] _
  try dsimp only [cxOf, Cx.nox, Cx.wish]
  cases x with
  | i n =>
    dsimp only [Vl.v]
    walk_at "go"; walk_at "if"
    refine w_t ki_i ?_
    walk_at "go"
    exact k
  | f b =>
    dsimp only [Vl.v]
    walk_at "go"; walk_at "if"
    refine w_f kf_i ?_
    walk_at "go"; walk_at "if"
    refine w_t kf_f ?_
    walk_at "go"; walk_at "ife"
    cases b <;> walk_at "go" <;> exact k
  | t s =>
    obtain ⟨s1, s2⟩ := hx
    dsimp only [Vl.v]
    walk_at "go"; walk_at "if"
    refine w_f kt_i ?_
    walk_at "go"; walk_at "if"
    refine w_f kt_f ?_
    walk_at "go"
    refine ⟨_, rfl, ?_⟩
    refine z_for_str (fun i σ' H' => H = H' ∧ ∃ u, σ' = [some (.str (Vl.t s).kind), some (.str s), some (.int (codeL (s.cps.toList.take i) 0 : Nat)), u]) ⟨rfl, _, rfl⟩ ?_ ?_
    · rintro N i c σ' _ hc ⟨rfl, u, rfl⟩ hN
      have hm : c ∈ s.cps.toList := by
        rw [← Array.getElem?_toList] at hc
        exact List.mem_of_getElem? hc
      obtain ⟨r, hr'⟩ := alph_occ c (s2 c hm)
      walk_at "go"
      refine ⟨rfl, ?_⟩
      walk_at "go"
      refine ⟨alph, ⟨#[c]⟩, _, r, rfl, rfl, hr', ?_⟩
      walk_at "go"
      refine hN _ _ ⟨rfl, some (.str ⟨#[c]⟩), ?_⟩
      have e : s.cps.toList.take (i + 1) = s.cps.toList.take i ++ [c] := by
        rw [← Array.getElem?_toList] at hc
        rw [List.take_add_one, hc]; rfl
      rw [e, codeL_snoc]
      rw [show ((codeL (s.cps.toList.take i) 0 * 94 + ix94 c : Nat) : Int) = ((codeL (s.cps.toList.take i) 0 : Nat) : Int) * 94 + (ix94 c : Nat) from by omega]
      rfl
    · rintro σ' _ ⟨rfl, u, rfl⟩
      have e : s.cps.toList.take s.cps.size = s.cps.toList := List.take_of_length_le (by rw [Array.length_toList]; exact Nat.le_refl _)
      rw [e]
      walk_at "go"
      refine w_lenS (sz (by omega)) ?_
      walk_at "go"
      refine w_first (by omega) ?_
      walk_at "go"
      have e2 : ((fc s.length : Nat) : Int) + (codeL s.cps.toList 0 : Nat) = (Vl.t s).code := by
        have : s.cps.toList.length = s.length := Array.length_toList
        show _ = (((fc s.cps.toList.length + codeL s.cps.toList 0 : Nat)) : Int)
        rw [this]; omega
      rw [e2]
      exact k
def sp_text_of (K : PySem.W.Frag) : Sp := sp1 fun a H Q => ∃ s : Str, a = .int (codeT s.cps.toList : Nat) ∧ s.length ≤ 20 ∧ Al s.cps.toList ∧ ∀ H', Ext [] H H' → Q (.str s) H'
theorem ok_text_of (T : Txt K mg) : FnOk P w K mg base CX0 2 T.f_text_of T.d_text_of ["code"] (sp_text_of K) := by
  refine T.F_text_of.ok sc_text_of len1 (fun cdv A outer s H vs Q E hr h => ?_)
  have nd := sc_text_of.nd
  have hu := hu_of hr
  obtain ⟨_, rfl, s, rfl, s1, s2, k⟩ := h
  refine ⟨_,
      (pss_cons (ps_set (i := 1) nd rfl (Or.inl rfl) pe_int) 
      (pss_cons (ps_while PassesOwn.never (PW.pt (pw_and (pt_cmpR op_lt (pv 1) (pe_glob rfl T.g_TEXT_MOST T.r_TEXT_MOST) (nomark _)) (pw_and1 (pt_cmpR op_le (pe_call (ok_first_code T) (hr.mono (by decide)) (by rfl) T.g_first_code T.F_first_code.kp T.k_first_code .nil pass0 (pa_cons (pe_op op_add (pv 1) pe_int) pa_nil)) (pv 0) (nomark _))))) 
        (pss_one (ps_set (i := 1) nd rfl (Or.inl rfl) (pe_op op_add (pv 1) pe_int)))) 
      (pss_cons (ps_set (i := 2) nd rfl (Or.inl rfl) (pe_op op_sub (pv 0) (pe_call (ok_first_code T) (hr.mono (by decide)) (by rfl) T.g_first_code T.F_first_code.kp T.k_first_code .nil pass0 (pa_cons (pv 1) pa_nil)))) 
      (pss_cons (ps_set (i := 3) nd rfl (Or.inl rfl) (pe_lstZ pa_nil)) 
      (pss_cons (ps_for PassesOwn.never rfl (pi_range1 (by rfl) T.b_range (pa_cons (pv 1) pa_nil)) (pg_name (i := 4) nd rfl (Or.inl rfl)) 
        (pss_cons (ps_expr (pe_bm PySem.F.plainAttrs_list PySem.F.slot_list_append PySem.F.type_list_append zmt_append (pv 3) (pa_cons (pe_ix ix_str (pe_glob rfl T.g_ALPHABET T.r_ALPHABET) (pe_op op_mod (pv 2) pe_int) (fun _ _ => rfl)) pa_nil))) 
        (pss_one (ps_set (i := 2) nd rfl (Or.inl rfl) (pe_op op_fdivW (pv 2) pe_int))))) 
      (pss_one (ps_ret (pe_joinRev rfl pe_str (by rfl) T.b_reversed (pv 3))))))))), ?_⟩
  change (_ : TS) _ [some _, none, none, none, none] _
  try dsimp only [cxOf, Cx.nox, Cx.wish]
  have no_ : ∀ {x : Addr}, x ∉ ([] : List Addr) := List.not_mem_nil
  have hl : s.cps.toList.length = s.length := Array.length_toList
  obtain ⟨lo, up⟩ := codeT_at s2
  rw [hl] at lo up
  generalize hc : codeT s.cps.toList = c at lo up ⊢
  walk_at "go"
  refine z_while (m0 := 20) (fun m σ' H' => H = H' ∧ ∃ l : Nat, m = 20 - l ∧ l ≤ s.length ∧ σ' = [some (.int (c : Nat)), some (.int (l : Nat)), none, none, none]) (fun σ' H' => H = H' ∧ σ' = [some (.int (c : Nat)), some (.int (s.length : Nat)), none, none, none]) ⟨rfl, 0, rfl, Nat.zero_le _, rfl⟩ ?_ ?_
  · rintro σ' _ ⟨rfl, rfl⟩
    walk_at "go"
    refine w_first (by omega) ?_
    walk_at "go"
    obtain ⟨r, hr'⟩ : ∃ r : Nat, (c : Int) - (fc s.length : Nat) = r := ⟨c - fc s.length, by omega⟩
    have er : r = codeL s.cps.toList 0 := by
      have : codeT s.cps.toList = fc s.length + codeL s.cps.toList 0 := by unfold codeT; rw [hl]
      omega
    rw [hr']
    refine ⟨Nat.zero_le _, w_alc fun L H1 e1 n1 h1 => ?_⟩
    walk_at "go"
    refine ⟨_, rfl, by omega, by omega, z_for_range (lo := 0) (n := s.length) (fun i σ' H' => Ext [] H H' ∧ ∃ u, σ' = [some (.int (c : Nat)), some (.int (s.length : Nat)), some (.int (r / 94 ^ i : Nat)), some (.ref L), u] ∧ H' L = some (.lst ((digs i r).map fun d => V.str ⟨#[d]⟩))) ⟨e1, _, by rw [Nat.pow_zero, Nat.div_one]; rfl, h1⟩ ?_ ?_⟩
    · rintro N i σ' H2 hi ⟨e2, u, rfl, hL⟩ hN
      walk_at "go"
      have ht : atI alph.cps.toList (((r / 94 ^ i : Nat) : Int) % 94) = some (sg94 (r / 94 ^ i)) := by
        rw [show ((r / 94 ^ i : Nat) : Int) % 94 = ((r / 94 ^ i % 94 : Nat) : Int) from by omega]
        exact atI_nat (sg_at _)
      refine w_ixS alph_sz ht ?_
      walk_at "go"
      have hL' := hL
      refine w_append hL (szl (by rw [List.length_map, digs_len]; omega)) (w_chg hL (fun z => z) fun H3 e3 g3 => ?_)
      walk_at "go"
      refine hN _ _ ⟨e2.dropq e3 n1, some (.int (0 + i)), ?_, ?_⟩
      · rw [show ((r / 94 ^ i : Nat) : Int) / 94 = ((r / 94 ^ (i + 1) : Nat) : Int) from by rw [Nat.pow_succ, ← Nat.div_div_eq_div_mul]; omega]
        rfl
      · rw [g3, digs_snoc, List.map_append]; rfl
    · rintro σ' H2 ⟨e2, u, rfl, hL⟩
      rw [er, ← hl, digs_code _ s2] at hL
      refine w_joinRev ?_
      walk_at "go"
      have em : (s.cps.toList.reverse.map fun d => V.str ⟨#[d]⟩) = (s.cps.toList.reverse.map fun d => (⟨#[d]⟩ : Str)).map V.str := by rw [List.map_map]; rfl
      rw [em] at hL
      refine ⟨_, L, _, rfl, rfl, sql hL, ?_, ?_⟩
      · rw [one_len, List.length_map, List.length_reverse, hl, show (Str.ofString "").length = 0 from by decide]; omega
      · rw [← List.map_reverse, List.reverse_reverse, join_one]
        exact k _ e2
  · rintro nx hn m σ' _ ⟨rfl, l, rfl, ll, rfl⟩
    walk_at "go"
    by_cases h20 : (l : Int) < 20
    · rw [decide_eq_true h20]
      walk_at "go"
      rw [show (l : Int) + 1 = ((l + 1 : Nat) : Int) from by omega]
      refine w_first (by omega) ?_
      walk_at "go"
      refine w_d (fun h => ?_) fun h => ?_
      · refine ⟨fun σ' H' => ∃ m', m' < 20 - l ∧ (H = H' ∧ ∃ l : Nat, m' = 20 - l ∧ l ≤ s.length ∧ σ' = [some (.int (c : Nat)), some (.int (l : Nat)), none, none, none]), fun _ _ z => z, ?_⟩
        walk_at "go"
        refine ⟨20 - (l + 1), by omega, rfl, l + 1, rfl, ?_, rfl⟩
        have : fc (l + 1) < fc (s.length + 1) := by omega
        by_cases q : l + 1 ≤ s.length
        · exact q
        · have := fc_le (show s.length + 1 ≤ l + 1 by omega)
          omega
      · walk_at "go"
        have : l = s.length := by
          by_cases q : l < s.length
          · have := fc_le (show l + 1 ≤ s.length by omega)
            omega
          · omega
        rw [this]
        exact hn _ _ ⟨rfl, rfl⟩
    · rw [decide_eq_false h20]
      walk_at "go"
      have : l = s.length := by omega
      rw [this]
      exact hn _ _ ⟨rfl, rfl⟩
theorem w_codeof {H : Hp} {x : Vl} {Q : VK} {E : XK} (h : x.Ok) (k : Q (.int x.code) H) : sp_code_of K ([.str x.kind, x.v] ++ []) H Q E := ⟨_, _, rfl, x, rfl, rfl, h, k⟩
def sp_value_of (K : PySem.W.Frag) : Sp := sp2 fun a b H Q => ∃ x : Vl, a = .str x.kind ∧ b = .int x.code ∧ x.Ok ∧ ∀ H', Ext [] H H' → Q x.v H'
theorem ok_value_of (T : Txt K mg) : FnOk P w K mg base CX0 3 T.f_value_of T.d_value_of ["kind", "code"] (sp_value_of K) := by
  refine T.F_value_of.ok sc_value_of len2 (fun cdv A outer s H vs Q E hr h => ?_)
  have nd := sc_value_of.nd
  have hu := hu_of hr
  obtain ⟨_, _, rfl, x, rfl, rfl, hx, k⟩ := h
  refine ⟨_,
      (pss_cons (ps_if (pt_cmpR op_eq (pv 0) pe_str (nomark _)) 
        (pss_one (ps_ret (pe_op op_sub (pv 1) (pe_glob rfl T.g_INT_MOST T.r_INT_MOST)))) pss_nil) 
      (pss_cons (ps_if (pt_cmpR op_eq (pv 0) pe_str (nomark _)) 
        (pss_one (ps_ret (pe_cmpR op_eq (pv 1) pe_int (nomark _)))) pss_nil) 
      (pss_one (ps_ret (pe_call (ok_text_of T) (hr.mono (by decide)) (by rfl) T.g_text_of T.F_text_of.kp T.k_text_of .nil pass0 (pa_cons (pv 1) pa_nil)))))), ?_⟩
  change (_ : TS) _ [some _, some _] _
  try dsimp only [cxOf, Cx.nox, Cx.wish]
  cases x with
  | i n =>
    walk_at "go"; walk_at "if"
    refine w_t ki_i ?_
    walk_at "go"
    rw [show (Vl.i n).code - 1000000000 = n from by show n + 1000000000 - 1000000000 = n; omega]
    exact k _ Ext.refl
  | f b =>
    walk_at "go"; walk_at "if"
    refine w_f kf_i ?_
    walk_at "go"; walk_at "if"
    refine w_t kf_f ?_
    walk_at "go"
    rw [show decide ((Vl.f b).code = 1) = b from by cases b <;> rfl]
    exact k _ Ext.refl
  | t s =>
    obtain ⟨s1, s2⟩ := hx
    walk_at "go"; walk_at "if"
    refine w_f kt_i ?_
    walk_at "go"; walk_at "if"
    refine w_f kt_f ?_
    walk_at "go"
    exact ⟨_, rfl, s, rfl, s1, s2, fun H' e => k H' e⟩
def sp_sealed (K : PySem.W.Frag) : Sp := sp4 fun a b c d H Q => ∃ (x : Vl) (n s : Int), a = .str x.kind ∧ b = .int n ∧ c = x.v ∧ d = .int s ∧ x.Ok ∧ ∀ t H', Ext [] H H' → H t = none → H' t = some (.tup [.str (Str.ofString "sealed"), .str x.kind, .int n, .int ((x.code + s) % x.size)]) → Q (.ref t) H'
theorem ok_sealed (T : Txt K mg) : FnOk P w K mg base CX0 3 T.f_sealed T.d_sealed ["kind", "number", "value", "pad"] (sp_sealed K) := by
  refine T.F_sealed.ok sc_sealed len4 (fun cdv A outer s H vs Q E hr h => ?_)
  have nd := sc_sealed.nd
  have hu := hu_of hr
  obtain ⟨_, _, _, _, rfl, x, n, s, rfl, rfl, rfl, rfl, hx, k⟩ := h
  refine ⟨_,
      (pss_one (ps_ret (pe_tupZ (pa_cons pe_str (pa_cons (pv 0) (pa_cons (pv 1) (pa_cons (pe_op op_mod (pe_op op_add (pe_call (ok_code_of T) (hr.mono (by decide)) (by rfl) T.g_code_of T.F_code_of.kp T.k_code_of .nil pass0 (pa_cons (pv 0) (pa_cons (pv 2) pa_nil))) (pv 3)) (pe_call (ok_size_of T) (hr.mono (by decide)) (by rfl) T.g_size_of T.F_size_of.kp T.k_size_of .nil pass0 (pa_cons (pv 0) pa_nil))) pa_nil))))))), ?_⟩
  change (_ : TS) _ [some _, some _, some _, some _] _
  try dsimp only [cxOf, Cx.nox, Cx.wish]
  walk_at "go"
  refine w_codeof hx ?_
  walk_at "go"
  refine ⟨_, rfl, x, rfl, ?_⟩
  walk_at "go"
  refine w_I x.size_pos ?_
  walk_at "go"
  exact ⟨sz (by show 4 ≤ _; decide), w_alc fun t H1 e1 n1 h1 => k t H1 e1 n1 h1⟩
def sp_opened (K : PySem.W.Frag) : Sp := sp2 fun a b H Q => ∃ (t : Addr) (x : Vl) (w : V) (n s : Int), a = .ref t ∧ b = .int (s % x.size) ∧ H t = some (.tup [w, .str x.kind, .int n, .int ((x.code + s) % x.size)]) ∧ x.Ok ∧ ∀ H', Ext [] H H' → Q x.v H'
theorem ok_opened (T : Txt K mg) : FnOk P w K mg base CX0 4 T.f_opened T.d_opened ["cell", "pad"] (sp_opened K) := by
  refine T.F_opened.ok sc_opened len2 (fun cdv A outer s H vs Q E hr h => ?_)
  have nd := sc_opened.nd
  have hu := hu_of hr
  obtain ⟨_, _, rfl, t, x, w', n, s, rfl, rfl, ht, hx, k⟩ := h
  refine ⟨_,
      (pss_cons (ps_set (i := 2) nd rfl (Or.inl rfl) (pe_ix ix_tup (pv 0) pe_int (fun _ _ => rfl))) 
      (pss_one (ps_ret (pe_call (ok_value_of T) (hr.mono (by decide)) (by rfl) T.g_value_of T.F_value_of.kp T.k_value_of .nil pass0 (pa_cons (pv 2) (pa_cons (pe_op op_mod (pe_op op_sub (pe_ix ix_tup (pv 0) pe_int (fun _ _ => rfl)) (pv 1)) (pe_call (ok_size_of T) (hr.mono (by decide)) (by rfl) T.g_size_of T.F_size_of.kp T.k_size_of .nil pass0 (pa_cons (pv 2) pa_nil))) pa_nil)))))), ?_⟩
  change (_ : TS) _ [some _, some _, none] _
  try dsimp only [cxOf, Cx.nox, Cx.wish]
  walk_at "go"
  refine ⟨_, rfl, x, rfl, ?_⟩
  walk_at "go"
  refine w_I x.size_pos ?_
  rw [Vl.back hx s]
  walk_at "go"
  exact ⟨_, _, rfl, x, rfl, rfl, hx, k⟩

/-! ### drawn texts and values -/
def sgx : Str := Str.ofString " !\"#$&'()*+,-./0123456789:;<=>?@ABCDEFGHIJKLMNOPQRSTUVWXYZ[\\]^_`" ++ Str.ofString "abcdefghijklmnopqrstuvwxyz{|}~"
theorem sgx_is : sgx = alph := by decide +kernel
theorem sgx_at {r : Int} (h0 : 0 ≤ r) (h1 : r < 94) : ∃ c, atI sgx.cps.toList r = some c ∧ c ∈ alph.cps.toList := by
  rw [sgx_is]
  have := alph_len
  obtain ⟨c, hc, hm⟩ := at_some (xs := alph.cps.toList) (r := r) h0 (by omega)
  exact ⟨c, hc, List.mem_of_getElem? hm⟩
theorem al_join : ∀ {ys : List Str}, (∀ y ∈ ys, Al y.cps.toList) → Al (Txt.join (Str.ofString "") ys).cps.toList := by
  intro ys h
  show Al (Builtin.Str.glued (Str.ofString "") ys).cps.toList
  rw [StrLaws.glued_eq_join]
  induction ys with
  | nil => intro c hc; simp [Str.join, Str.empty] at hc
  | cons x r ih =>
    cases r with
    | nil => exact h x List.mem_cons_self
    | cons y r =>
      intro c hc
      have e : Str.join (Str.ofString "") (x :: y :: r) = x ++ Str.ofString "" ++ Str.join (Str.ofString "") (y :: r) := rfl
      rw [e, app_tl, app_tl, List.mem_append, List.mem_append] at hc
      rcases hc with (hc | hc) | hc
      · exact h x List.mem_cons_self c hc
      · rw [show (Str.ofString "").cps.toList = [] from by decide] at hc; cases hc
      · exact ih (fun z m => h z (List.mem_cons_of_mem _ m)) c hc
def sp_law_text (K : PySem.W.Frag) : Sp := sp2 fun a b H Q => ∃ (p : Addr) (n : Int), a = .ref p ∧ b = .int n ∧ PoolAt K H p ∧ 0 ≤ n ∧ n ≤ 20 ∧ ∀ (z : Str) H', (z.length : Int) = n → Al z.cps.toList → Ext [p] H H' → PoolAt K H' p → Q (.str z) H'
theorem ok_law_text (T : Txt K mg) : FnOk P w K mg base CX0 4 T.f__law_text T.d__law_text ["pool", "size"] (sp_law_text K) := by
  refine T.F__law_text.ok sc_law_text len2 (fun cdv A outer s H vs Q E hr h => ?_)
  have nd := sc_law_text.nd
  have hu := hu_of hr
  obtain ⟨_, _, rfl, p, n, rfl, rfl, hP, n0, n1, k⟩ := h
  refine ⟨_,
      (pss_cons (ps_set (i := 2) nd rfl (Or.inr rfl) pe_str) 
      (pss_cons (ps_set (i := 2) nd rfl (Or.inr rfl) (pe_op zop_addS (pv 2) pe_str)) 
      (pss_one (ps_ret (zpe_join pe_str (pe_lc (own := [("k", 3)]) rfl nd (pi_range1 (by rfl) T.b_range (pa_cons (pv 1) pa_nil)) (blkOk_by (own := [("k", 3)]) (N := ["pool", "size", "chars", "k"]) (sc := defScope s_law_text) (by decide +kernel)) (fun _ _ _ _ _ => (pg_name (i := 3) nd rfl (Or.inl rfl))) (fun _ _ _ _ _ => pts_nil) (fun _ _ _ _ _ => (pe_ix ix_str (pv 2) (pe_call (ok_law_draw T) (hr.mono (by decide)) (by rfl) T.g__law_draw T.F__law_draw.kp T.k__law_draw .nil pass0 (pa_cons (pv 0) (pa_cons pe_int pa_nil))) (fun _ _ => rfl))))))))), ?_⟩
  change (_ : TS) _ [some _, some _, none, none] _
  try dsimp only [cxOf, Cx.nox, Cx.wish]
  walk_at "go"
  refine w_addS (sz (by decide +kernel)) ?_
  walk_at "go"
  refine ⟨_, rfl, by omega, by omega, fun D nD => ?_⟩
  have nDp : D ≠ p := (hP.ne nD).symm
  refine z_lc_range (lo := 0) (fun i acc H' => Ext [p] H H' ∧ PoolAt K H' p ∧ ∃ ss : List Str, acc = ss.map V.str ∧ ss.length = i ∧ (ss.map (·.length)).sum = i ∧ ∀ y ∈ ss, Al y.cps.toList) nD (fun H' e => ⟨e.up, hP.ext e List.not_mem_nil, [], rfl, rfl, rfl, fun _ m => nomatch m⟩) ?_ ?_
  · rintro Nx i acc H4 hi ⟨e4, P4, ss, rfl, hl, hs, hg⟩ hD hN
    walk_at "go"
    refine ⟨rfl, ?_⟩
    walk_at "go"
    refine w_draw P4 (by decide) (by decide) fun u H5 d0 d1 e5 P5 => ?_
    walk_at "go"
    obtain ⟨c', hc', c2⟩ := sgx_at d0 (by omega)
    refine w_ixS (sz (by decide +kernel)) hc' ?_
    refine w_app (e5.keep _ _ hD (nm1 nDp)) (szl (by rw [List.length_map]; omega)) fun H6 e6 hD6 => ?_
    refine hN _ _ ⟨(e4.trans e5).dropq e6 nD, P5.ext e6 (nm1 nDp.symm), ss ++ [⟨#[c']⟩], by rw [List.map_append]; rfl, by rw [List.length_append, hl]; rfl, ?_, fun y m => ?_⟩ hD6
    · rw [List.map_append, List.sum_append, hs]
      rfl
    · rcases List.mem_append.mp m with m | m
      · exact hg y m
      · rw [List.mem_singleton.mp m]
        intro d hd
        have : d = c' := by simpa using hd
        rw [this]; exact c2
  · rintro acc H4 ⟨e4, P4, ss, rfl, hl, hs, hg⟩ hD
    refine w_join (ys := ss) (sql hD) (by rw [hs, hl, show (Str.ofString "").length = 0 from by decide]; omega) ?_
    exact k _ _ (by rw [str_len_join (by decide), hs]; omega) (al_join hg) e4 P4
theorem w_text {H : Hp} {p : Addr} {n : Int} {Q : VK} {E : XK} (hP : PoolAt K H p) (n0 : 0 ≤ n) (n1 : n ≤ 20) (k : ∀ (z : Str) H', (z.length : Int) = n → Al z.cps.toList → Ext [p] H H' → PoolAt K H' p → Q (.str z) H') : sp_law_text K ([.ref p, .int n] ++ []) H Q E := ⟨_, _, rfl, p, n, rfl, rfl, hP, n0, n1, k⟩
def kInt : Str := Str.ofString "int"
def sp_law_value (K : PySem.W.Frag) : Sp := sp2 fun a b H Q => ∃ (p : Addr) (kd : Str), a = .ref p ∧ b = .str kd ∧ kd ∈ [Str.ofString "int", Str.ofString "text", Str.ofString "flag"] ∧ PoolAt K H p ∧ ∀ (x : Vl) H', x.Ok → x.kind = kd → Ext [p] H H' → PoolAt K H' p → Q x.v H'
theorem ok_law_value (T : Txt K mg) : FnOk P w K mg base CX0 5 T.f__law_value T.d__law_value ["pool", "kind"] (sp_law_value K) := by
  refine T.F__law_value.ok sc_law_value len2 (fun cdv A outer s H vs Q E hr h => ?_)
  have nd := sc_law_value.nd
  have hu := hu_of hr
  obtain ⟨_, _, rfl, p, kd, rfl, rfl, hk, hP, k⟩ := h
  refine ⟨_,
      (pss_cons (ps_set (i := 2) nd rfl (Or.inl rfl) (pe_call (ok_law_draw T) (hr.mono (by decide)) (by rfl) T.g__law_draw T.F__law_draw.kp T.k__law_draw .nil pass0 (pa_cons (pv 0) (pa_cons pe_int pa_nil)))) 
      (pss_cons (ps_if (pt_cmpR op_eq (pv 1) pe_str (nomark _)) 
        (pss_one (ps_ret (pe_cmpR op_lt (pv 2) pe_int (nomark _)))) pss_nil) 
      (pss_cons (ps_if (pt_cmpR op_eq (pv 1) pe_str (nomark _)) 
        (pss_one (ps_ret (pe_ifExp (pt_cmpR op_lt (pv 2) pe_int (nomark _)) (pe_call (ok_law_text T) (hr.mono (by decide)) (by rfl) T.g__law_text T.F__law_text.kp T.k__law_text .nil pass0 (pa_cons (pv 0) (pa_cons (pe_call (ok_law_pick T) (hr.mono (by decide)) (by rfl) T.g__law_pick T.F__law_pick.kp T.k__law_pick .nil pass0 (pa_cons (pv 0) (pa_cons (pe_lstZ (pa_cons pe_int (pa_cons pe_int (pa_cons pe_int (pa_cons pe_int (pa_cons pe_int (pa_cons pe_int pa_nil))))))) pa_nil))) pa_nil))) (pe_call (ok_law_pick T) (hr.mono (by decide)) (by rfl) T.g__law_pick T.F__law_pick.kp T.k__law_pick .nil pass0 (pa_cons (pv 0) (pa_cons (pe_lstZ (pa_cons pe_str (pa_cons pe_str (pa_cons pe_str (pa_cons pe_str pa_nil))))) pa_nil)))))) pss_nil) 
      (pss_cons (ps_if (pt_cmpR op_lt (pv 2) pe_int (nomark _)) 
        (pss_one (ps_ret (pe_op op_sub (pe_call (ok_law_draw T) (hr.mono (by decide)) (by rfl) T.g__law_draw T.F__law_draw.kp T.k__law_draw .nil pass0 (pa_cons (pv 0) (pa_cons pe_int pa_nil))) pe_int))) pss_nil) 
      (pss_cons (ps_if (pt_cmpR op_lt (pv 2) pe_int (nomark _)) 
        (pss_one (ps_ret (pe_op op_sub (pe_call (ok_law_draw T) (hr.mono (by decide)) (by rfl) T.g__law_draw T.F__law_draw.kp T.k__law_draw .nil pass0 (pa_cons (pv 0) (pa_cons pe_int pa_nil))) pe_int))) pss_nil) 
      (pss_one (ps_ret (pe_op op_mulW (pe_op op_sub pe_int (pe_call (ok_law_draw T) (hr.mono (by decide)) (by rfl) T.g__law_draw T.F__law_draw.kp T.k__law_draw .nil pass0 (pa_cons (pv 0) (pa_cons pe_int pa_nil)))) (pe_op op_sub pe_int (pe_op op_mul pe_int (pe_call (ok_law_draw T) (hr.mono (by decide)) (by rfl) T.g__law_draw T.F__law_draw.kp T.k__law_draw .nil pass0 (pa_cons (pv 0) (pa_cons pe_int pa_nil))))))))))))), ?_⟩
  change (_ : TS) _ [some _, some _, none] _
  try dsimp only [cxOf, Cx.nox, Cx.wish]
  walk_at "go"
  refine w_draw hP (by decide) (by decide) fun w' H1 w0 w1 e1 P1 => ?_
  simp only [List.mem_cons, List.not_mem_nil, or_false] at hk
  rcases hk with rfl | rfl | rfl
  · walk_at "go"; walk_at "if"
    refine w_f (by decide +kernel) ?_
    walk_at "go"; walk_at "if"
    refine w_f (by decide +kernel) ?_
    walk_at "go"; walk_at "if"
    refine w_d (fun h => ?_) fun h => ?_
    · walk_at "go"
      refine w_draw P1 (by decide) (by decide) fun u H2 d0 d1 e2 P2 => ?_
      walk_at "go"
      exact k (.i (u - 2)) H2 ⟨by omega, by omega⟩ rfl (e1.trans e2) P2
    · walk_at "go"; walk_at "if"
      refine w_d (fun h => ?_) fun h => ?_
      · walk_at "go"
        refine w_draw P1 (by decide) (by decide) fun u H2 d0 d1 e2 P2 => ?_
        walk_at "go"
        exact k (.i (u - 1000000000)) H2 ⟨by omega, by omega⟩ rfl (e1.trans e2) P2
      · walk_at "go"
        refine w_draw P1 (by decide) (by decide) fun u H2 d0 d1 e2 P2 => ?_
        walk_at "go"
        refine w_draw P2 (by decide) (by decide) fun v H3 f0 f1 e3 P3 => ?_
        walk_at "go"
        refine k (.i _) H3 ?_ rfl ((e1.trans e2).trans e3) P3
        show -1000000000 ≤ (1000000000 - u) * (1 - 2 * v) ∧ (1000000000 - u) * (1 - 2 * v) ≤ 1000000000
        obtain rfl | rfl : v = 0 ∨ v = 1 := by omega
        · omega
        · omega
  · walk_at "go"; walk_at "if"
    refine w_f (by decide +kernel) ?_
    walk_at "go"; walk_at "if"
    refine w_t (by decide +kernel) ?_
    walk_at "go"; walk_at "ife"
    refine w_d (fun h => ?_) fun h => ?_
    · walk_at "go"
      refine ⟨sz (by show 6 ≤ _; decide), w_alc fun o2 H5 e5 n5 h5 => ?_⟩
      walk_at "go"
      refine w_pick (P1.ext e5 List.not_mem_nil) h5 (P1.ne n5).symm (by decide) (by decide) fun v H6 hv e6 P6 => ?_
      obtain ⟨n, rfl, n0, n1⟩ : ∃ n : Int, v = .int n ∧ 0 ≤ n ∧ n ≤ 20 := by
        simp only [List.mem_cons, List.not_mem_nil, or_false] at hv
        rcases hv with rfl | rfl | rfl | rfl | rfl | rfl <;> exact ⟨_, rfl, by decide, by decide⟩
      walk_at "go"
      refine w_text P6 n0 n1 fun z H7 lz az e7 P7 => ?_
      walk_at "go"
      exact k (.t z) H7 ⟨by omega, az⟩ rfl ((e1.trans (e5.up.trans e6)).trans e7) P7
    · walk_at "go"
      refine ⟨sz (by show 4 ≤ _; decide), w_alc fun o2 H5 e5 n5 h5 => ?_⟩
      walk_at "go"
      refine w_pick (P1.ext e5 List.not_mem_nil) h5 (P1.ne n5).symm (by decide) (by decide) fun v H6 hv e6 P6 => ?_
      obtain ⟨z, rfl, l, a⟩ : ∃ z : Str, v = .str z ∧ z.length ≤ 20 ∧ Al z.cps.toList := by
        simp only [List.mem_cons, List.not_mem_nil, or_false] at hv
        rcases hv with rfl | rfl | rfl | rfl <;> exact ⟨_, rfl, by decide, by unfold Al; decide +kernel⟩
      exact k (.t z) H6 ⟨l, a⟩ rfl (e1.trans (e5.up.trans e6)) P6
  · walk_at "go"; walk_at "if"
    refine w_t (by decide +kernel) ?_
    walk_at "go"
    exact k (.f _) H1 trivial rfl e1 P1

/-! ### the vault: holders, their dicts, the lists of persons and of what is gone -/
structure Hl where
  nm : Str
  ad : Addr
structure Vs where
  p : Addr
  u : Addr
  q : Addr
  g : Addr
  hs : List Hl
  up : Str → Bool
  ks : Str → List Int
  pn : List Int
  gn : List Bool
  P : Int → Int
def dN (P : Int → Int) (ks : List Int) : HO := .dK (ks.map fun n => ((Sum.inl n : Key), V.int (P n)))
def dPd (hs : List Hl) : HO := .dK (hs.map fun h => ((Sum.inr h.nm : Key), V.ref h.ad))
def dUp (up : Str → Bool) (hs : List Hl) : HO := .dK (hs.map fun h => ((Sum.inr h.nm : Key), V.bl (up h.nm)))
def Vs.ads (v : Vs) : List Addr := v.hs.map (·.ad)
def Vs.names (v : Vs) : List Str := v.hs.map (·.nm)
def Vs.F (v : Vs) (j : Addr) : List Addr := j :: v.p :: v.u :: v.q :: v.g :: v.ads
structure VAt (C : Addr) (H : Hp) (j : Addr) (v : Vs) : Prop where
  ob : ∃ dx, H j = some (.ins C dx (fs_Vault (.ref v.p) (.ref v.u) (.ref v.q) (.ref v.g)))
  hp : H v.p = some (dPd v.hs)
  hu : H v.u = some (dUp v.up v.hs)
  hq : H v.q = some (.lst (v.pn.map V.int))
  hg : H v.g = some (.lst (v.gn.map V.bl))
  hd : ∀ h ∈ v.hs, H h.ad = some (dN v.P (v.ks h.nm))
  nd : (v.F j).Nodup
structure VOk (v : Vs) : Prop where
  nn : v.names.Nodup
  lg : v.gn.length = v.pn.length
  kr : ∀ a ∈ v.names, ∀ n ∈ v.ks a, 1 ≤ n ∧ n ≤ (v.pn.length : Int)
  kn : ∀ a ∈ v.names, (v.ks a).Nodup
  sz : v.hs.length < 64 ∧ v.pn.length ≤ 1000
structure Sepd (j : Addr) (v : Vs) : Prop where
  jp : j ≠ v.p
  ju : j ≠ v.u
  jq : j ≠ v.q
  jg : j ≠ v.g
  pu : v.p ≠ v.u
  pq : v.p ≠ v.q
  pg : v.p ≠ v.g
  uq : v.u ≠ v.q
  ug : v.u ≠ v.g
  qg : v.q ≠ v.g
  hj : ∀ h ∈ v.hs, h.ad ≠ j
  hp : ∀ h ∈ v.hs, h.ad ≠ v.p
  hu : ∀ h ∈ v.hs, h.ad ≠ v.u
  hq : ∀ h ∈ v.hs, h.ad ≠ v.q
  hg : ∀ h ∈ v.hs, h.ad ≠ v.g
  hh : v.ads.Nodup
theorem VAt.sep {C : Addr} {H : Hp} {j : Addr} {v : Vs} (w : VAt C H j v) : Sepd j v := by
  have h := w.nd
  unfold Vs.F at h
  simp only [List.nodup_cons, List.mem_cons, not_or] at h
  obtain ⟨⟨a1, a2, a3, a4, a5⟩, ⟨b1, b2, b3, b4⟩, ⟨c1, c2, c3⟩, ⟨d1, d2⟩, e1, e2⟩ := h
  have mm : ∀ x ∈ v.hs, x.ad ∈ v.ads := fun x m => List.mem_map.mpr ⟨x, m, rfl⟩
  exact ⟨a1, a2, a3, a4, b1, b2, b3, c1, c2, d1, fun x m e => a5 (e ▸ mm x m), fun x m e => b4 (e ▸ mm x m), fun x m e => c3 (e ▸ mm x m), fun x m e => d2 (e ▸ mm x m), fun x m e => e1 (e ▸ mm x m), e2⟩
theorem VAt.ext {C : Addr} {M : List Addr} {H H' : Hp} {j : Addr} {v : Vs} (w : VAt C H j v) (e : Ext M H H') (d : ∀ a ∈ v.F j, a ∉ M) : VAt C H' j v := by
  have m : ∀ {a : Addr}, a ∈ v.F j → a ∉ M := fun h => d _ h
  unfold Vs.F at m
  exact ⟨w.ob.imp fun _ h => e.keep _ _ h (m (by simp)), e.keep _ _ w.hp (m (by simp)), e.keep _ _ w.hu (m (by simp)), e.keep _ _ w.hq (m (by simp)), e.keep _ _ w.hg (m (by simp)),
    fun h hm => e.keep _ _ (w.hd h hm) (m (by simp [Vs.ads]; exact Or.inr (Or.inr (Or.inr (Or.inr (Or.inr ⟨h, hm, rfl⟩)))))), w.nd⟩
theorem VAt.ext0 {C : Addr} {H H' : Hp} {j : Addr} {v : Vs} (w : VAt C H j v) (e : Ext [] H H') : VAt C H' j v := w.ext e fun _ _ => List.not_mem_nil
theorem VAt.live {C : Addr} {H : Hp} {j : Addr} {v : Vs} (w : VAt C H j v) : ∀ a ∈ v.F j, ∃ o, H a = some o := by
  intro a m
  unfold Vs.F Vs.ads at m
  simp only [List.mem_cons, List.mem_map] at m
  rcases m with rfl | rfl | rfl | rfl | rfl | ⟨x, hx, rfl⟩
  · exact w.ob.elim fun _ h => ⟨_, h⟩
  · exact ⟨_, w.hp⟩
  · exact ⟨_, w.hu⟩
  · exact ⟨_, w.hq⟩
  · exact ⟨_, w.hg⟩
  · exact ⟨_, w.hd x hx⟩
theorem VAt.out {C : Addr} {H : Hp} {j : Addr} {v : Vs} (w : VAt C H j v) {a : Addr} (n : H a = none) : a ∉ v.F j := fun m => by
  obtain ⟨o, e⟩ := w.live a m
  rw [n] at e; cases e
/-! dicts of holders, dicts of numbers -/
theorem valN {f : Hl → V} (hs : List Hl) (n : Str) : valV (hs.map fun h => ((Sum.inr h.nm : Key), f h)) (Sum.inr n) = (hs.find? fun h => decide (h.nm = n)).map f := by
  induction hs with
  | nil => rfl
  | cons h r ih =>
    by_cases e : h.nm = n
    · rw [List.map_cons, valV_pos (by rw [e]), List.find?_cons_of_pos (by simpa using e)]; rfl
    · rw [List.map_cons, valV_neg (by intro z; exact e (Sum.inr.inj z)), List.find?_cons_of_neg (by simpa using e), ih]
theorem putN {f : Hl → V} {hs : List Hl} {n : Str} (m : n ∈ hs.map (·.nm)) (y : V) : putK (hs.map fun h => ((Sum.inr h.nm : Key), f h)) (Sum.inr n) y = hs.map fun h => ((Sum.inr h.nm : Key), if h.nm = n then y else f h) := by
  unfold putK
  rw [if_pos]
  · rw [List.map_map]
    refine List.map_congr_left fun h _ => ?_
    show (if (Sum.inr h.nm : Key) = Sum.inr n then _ else _) = _
    by_cases e : h.nm = n
    · rw [if_pos (by rw [e]), if_pos e]
    · rw [if_neg (by intro z; exact e (Sum.inr.inj z)), if_neg e]
  · obtain ⟨h, hm, e⟩ := List.mem_map.mp m
    exact List.any_eq_true.mpr ⟨_, List.mem_map.mpr ⟨h, hm, rfl⟩, by simp [e]⟩
theorem valI {P : Int → Int} (ks : List Int) (n : Int) : valV (ks.map fun n => ((Sum.inl n : Key), V.int (P n))) (Sum.inl n) = if n ∈ ks then some (V.int (P n)) else none := by
  induction ks with
  | nil => rfl
  | cons k r ih =>
    by_cases e : k = n
    · rw [List.map_cons, valV_pos (by rw [e]), if_pos (by rw [e]; exact List.mem_cons_self), e]
    · rw [List.map_cons, valV_neg (by intro z; exact e (Sum.inl.inj z)), ih]
      by_cases m : n ∈ r
      · rw [if_pos m, if_pos (List.mem_cons_of_mem _ m)]
      · rw [if_neg m, if_neg (by rw [List.mem_cons, not_or]; exact ⟨fun z => e z.symm, m⟩)]
/-- a number put into a dict of numbers whose pads are those of P -/
def addN (ks : List Int) (n : Int) : List Int := if n ∈ ks then ks else ks ++ [n]
theorem putI {P : Int → Int} (ks : List Int) (n : Int) : putK (ks.map fun n => ((Sum.inl n : Key), V.int (P n))) (Sum.inl n) (.int (P n)) = (addN ks n).map fun n => ((Sum.inl n : Key), V.int (P n)) := by
  unfold putK addN
  by_cases m : n ∈ ks
  · rw [if_pos, if_pos m, List.map_map]
    · refine List.map_congr_left fun k _ => ?_
      show (if (Sum.inl k : Key) = Sum.inl n then _ else _) = _
      by_cases e : k = n
      · rw [if_pos (by rw [e]), e]
      · rw [if_neg (by intro z; exact e (Sum.inl.inj z))]
    · exact List.any_eq_true.mpr ⟨_, List.mem_map.mpr ⟨n, m, rfl⟩, by simp⟩
  · rw [if_neg, if_neg m, List.map_append]
    · rfl
    · intro z
      obtain ⟨x, hx, e⟩ := List.any_eq_true.mp z
      obtain ⟨k, hk, rfl⟩ := List.mem_map.mp hx
      exact m (by have := Sum.inl.inj (of_decide_eq_true e); rw [← this]; exact hk)
theorem mem_addN {ks : List Int} {n k : Int} : k ∈ addN ks n ↔ k = n ∨ k ∈ ks := by
  unfold addN
  by_cases m : n ∈ ks
  · rw [if_pos m]; exact ⟨.inr, fun h => h.elim (fun e => e ▸ m) id⟩
  · rw [if_neg m, List.mem_append, List.mem_singleton]; exact Or.comm
theorem nodup_addN {ks : List Int} (h : ks.Nodup) (n : Int) : (addN ks n).Nodup := by
  unfold addN
  by_cases m : n ∈ ks
  · rw [if_pos m]; exact h
  · rw [if_neg m]
    exact List.nodup_append.mpr ⟨h, List.pairwise_singleton _ _, fun x hx y hy e => m (by rw [List.mem_singleton] at hy; rw [← hy, ← e]; exact hx)⟩
def hOf (hs : List Hl) (n : Str) : Option Hl := hs.find? fun h => decide (h.nm = n)
theorem hOf_some {hs : List Hl} {n : Str} {h : Hl} (e : hOf hs n = some h) : h ∈ hs ∧ h.nm = n := ⟨List.mem_of_find?_eq_some e, by simpa using List.find?_some e⟩
theorem hOf_none {hs : List Hl} {n : Str} : hOf hs n = none ↔ n ∉ hs.map (·.nm) := by
  unfold hOf
  rw [List.find?_eq_none]
  constructor
  · intro h m
    obtain ⟨x, hx, e⟩ := List.mem_map.mp m
    exact h x hx (by simpa using e)
  · intro h x hx e
    exact h (List.mem_map.mpr ⟨x, hx, by simpa using e⟩)
theorem hOf_mem {hs : List Hl} {n : Str} (m : n ∈ hs.map (·.nm)) : ∃ h, hOf hs n = some h := by
  cases e : hOf hs n with
  | none => exact absurd m (hOf_none.mp e)
  | some h => exact ⟨h, rfl⟩
theorem hOf_self {hs : List Hl} (nd : (hs.map (·.nm)).Nodup) {h : Hl} (m : h ∈ hs) : hOf hs h.nm = some h := by
  induction hs with
  | nil => cases m
  | cons x r ih =>
    rw [List.map_cons, List.nodup_cons] at nd
    unfold hOf
    rcases List.mem_cons.mp m with rfl | m
    · rw [List.find?_cons_of_pos (by simp)]
    · rw [List.find?_cons_of_neg (by simp; intro e; exact nd.1 (e ▸ List.mem_map.mpr ⟨h, m, rfl⟩))]
      exact ih nd.2 m
section
variable {H : Hp} {a : Addr}
theorem w_dgI {kvs : List (Key × V)} {z : Int} {v : V} {P : V → Prop} (h : Rd H a (.dK kvs)) (e : valV kvs (Sum.inl z : Key) = some v) (q : P v) : ∃ b u, V.ref a = .ref b ∧ DGet H b (.int z) (some u) ∧ P u := ⟨a, v, rfl, .inl ⟨kvs, Sum.inl z, h, rfl, e.symm⟩, q⟩
theorem w_diI {kvs : List (Key × V)} {z : Int} {P : Option V → Prop} (h : Rd H a (.dK kvs)) (q : P (valV kvs (Sum.inl z : Key))) : ∃ b o, V.ref a = .ref b ∧ DGet H b (.int z) o ∧ P o := ⟨a, _, rfl, .inl ⟨kvs, Sum.inl z, h, rfl, rfl⟩, q⟩
theorem w_dpI {kvs : List (Key × V)} {z : Int} {v : V} {N : Hp → Prop} (h : H a = some (.dK kvs)) (l : kvs.length < sizeLine) (k : ∀ H', Ext [a] H H' → H' a = some (.dK (putK kvs (Sum.inl z) v)) → N H') : ∃ b H4, V.ref a = .ref b ∧ DPut H b (.int z) v H4 ∧ N H4 :=
  ⟨a, _, rfl, DPut.k (k := Sum.inl z) h l, k _ (Ext.mut h (fun z => z) (List.mem_singleton.mpr rfl)) upd_same⟩
theorem w_dgP {hs : List Hl} {n : Str} {h : Hl} {Q : V → Prop} (w : H a = some (dPd hs)) (e : hOf hs n = some h) (q : Q (.ref h.ad)) : ∃ b u, V.ref a = .ref b ∧ DGet H b (.str n) (some u) ∧ Q u := w_dgetR (.inl w) (by rw [valN]; unfold hOf at e; rw [e]; rfl) q
theorem w_dgU {hs : List Hl} {up : Str → Bool} {n : Str} {h : Hl} {Q : V → Prop} (w : H a = some (dUp up hs)) (e : hOf hs n = some h) (q : Q (.bl (up h.nm))) : ∃ b u, V.ref a = .ref b ∧ DGet H b (.str n) (some u) ∧ Q u := w_dgetR (.inl w) (by rw [valN]; unfold hOf at e; rw [e]; rfl) q
theorem w_diP {hs : List Hl} {n : Str} {Q : Option V → Prop} (w : H a = some (dPd hs)) (q : Q ((hOf hs n).map fun h => V.ref h.ad)) : ∃ b o, V.ref a = .ref b ∧ DGet H b (.str n) o ∧ Q o := ⟨a, _, rfl, .inl ⟨_, Sum.inr n, .inl w, rfl, rfl⟩, by rw [valN]; exact q⟩
theorem w_diN {P : Int → Int} {ks : List Int} {n : Int} {Q : Option V → Prop} (w : Rd H a (dN P ks)) (q : Q (if n ∈ ks then some (V.int (P n)) else none)) : ∃ b o, V.ref a = .ref b ∧ DGet H b (.int n) o ∧ Q o := ⟨a, _, rfl, .inl ⟨_, Sum.inl n, w, rfl, rfl⟩, by rw [valI]; exact q⟩
theorem w_dgN {P : Int → Int} {ks : List Int} {n : Int} {Q : V → Prop} (w : Rd H a (dN P ks)) (m : n ∈ ks) (q : Q (.int (P n))) : ∃ b u, V.ref a = .ref b ∧ DGet H b (.int n) (some u) ∧ Q u := w_dgI w (by rw [valI, if_pos m]) q
end
def Raised (f : Str) (C : Addr) (H : Hp) (v : V) (E : XK) : Prop := ∀ dd H', Ext [] H H' → H' dd = some (.xd [(f, v)]) → E (.ref C) (some dd) H'
/-! the methods -/
def sp1X (P : V → Hp → VK → XK → Prop) : Sp := fun vs H Q E => ∃ a, vs = [a] ∧ P a H Q E
def sp2X (P : V → V → Hp → VK → XK → Prop) : Sp := fun vs H Q E => ∃ a b, vs = [a, b] ∧ P a b H Q E
def sp3X (P : V → V → V → Hp → VK → XK → Prop) : Sp := fun vs H Q E => ∃ a b c, vs = [a, b, c] ∧ P a b c H Q E
def sp5X (P : V → V → V → V → V → Hp → VK → XK → Prop) : Sp := fun vs H Q E => ∃ a b c d e, vs = [a, b, c, d, e] ∧ P a b c d e H Q E
theorem len1X {P : V → Hp → VK → XK → Prop} {x : Str} : ∀ vs H Q E, sp1X P vs H Q E → vs.length = [x].length := fun _ _ _ _ ⟨_, e, _⟩ => e ▸ rfl
theorem len2X {P : V → V → Hp → VK → XK → Prop} {x y : Str} : ∀ vs H Q E, sp2X P vs H Q E → vs.length = [x, y].length := fun _ _ _ _ ⟨_, _, e, _⟩ => e ▸ rfl
theorem len3X {P : V → V → V → Hp → VK → XK → Prop} {x y z : Str} : ∀ vs H Q E, sp3X P vs H Q E → vs.length = [x, y, z].length := fun _ _ _ _ ⟨_, _, _, e, _⟩ => e ▸ rfl
theorem len5X {P : V → V → V → V → V → Hp → VK → XK → Prop} {x y z u w : Str} : ∀ vs H Q E, sp5X P vs H Q E → vs.length = [x, y, z, u, w].length := fun _ _ _ _ ⟨_, _, _, _, _, e, _⟩ => e ▸ rfl
theorem w_mkNoH {C : Addr} {ta : TA} {σ : L2.St} {H : Hp} {Q : XK} (h : ta σ H fun vs H1 => ∃ v, vs = [v] ∧ ∀ d, H1 d = none → Q (.ref C) (some d) (upd H1 d (.xd [(("name" : Str), v)]))) : tMkNoHolder C ta σ H Q := h
theorem w_mkNT {C : Addr} {ta : TA} {σ : L2.St} {H : Hp} {Q : XK} (h : ta σ H fun vs H1 => ∃ v, vs = [v] ∧ ∀ d, H1 d = none → Q (.ref C) (some d) (upd H1 d (.xd [(("name" : Str), v)]))) : tMkNameTaken C ta σ H Q := h
theorem w_mkLH {C : Addr} {ta : TA} {σ : L2.St} {H : Hp} {Q : XK} (h : ta σ H fun vs H1 => ∃ v, vs = [v] ∧ ∀ d, H1 d = none → Q (.ref C) (some d) (upd H1 d (.xd [(("name" : Str), v)]))) : tMkLastHolder C ta σ H Q := h
def sNam : Str := Str.ofString "name"
def sp_Vault_known (C CE : Addr) (K : PySem.W.Frag) : Sp := sp2X fun a b H Q E => ∃ (j : Addr) (v : Vs) (n : Str), a = .ref j ∧ b = .str n ∧ VAt C H j v ∧ (n ∉ v.names → Raised sNam CE H (.str n) E) ∧ (n ∈ v.names → Q .non H)
theorem ok_Vault_known (T : Txt K mg) (TE : Errs P K mg) : FnOk P w K mg base (L2N.CX P w) 2 T.f_Vault_known T.d_Vault_known ["self", "name"] (sp_Vault_known T.C_Vault TE.C_NoHolder K) := by
  refine T.F_Vault_known.okN sc_Vault_known len2X (fun cdv A outer s H vs Q E hr h => ?_)
  have nd := sc_Vault_known.nd
  have hu := hu_of hr
  obtain ⟨_, _, rfl, j, v, n, rfl, rfl, hv, kx, k⟩ := h
  refine ⟨_,
      (pss_one (ps_if (pt_cmp (pc_dnotin hu (pv 1) (pe_fld (pv 0) rfl))) 
        (pss_one (L2N.ps_raise rfl (L2N.takes_of rfl rfl rfl rfl) (pmkN_NoHolder TE.E_NoHolder hr (pa_cons (pv 1) pa_nil)))) pss_nil)), ?_⟩
  change (_ : TS) _ [some _, some _] _
  try dsimp only [cxOf, Cx.nox, Cx.wish]
  obtain ⟨dx, h1⟩ := hv.ob
  have h2 := hv.hp
  walk_at "go"; walk_at "if"
  refine w_diP h2 ?_
  cases e : hOf v.hs n with
  | none =>
    refine w_bl (w_t rfl ?_)
    refine w_mkNoH ?_
    walk_at "go"
    exact ⟨_, rfl, fun dd ndd => kx (hOf_none.mp e) dd _ (Ext.new ndd) upd_same⟩
  | some h =>
    refine w_bl (w_f rfl ?_)
    walk_at "go"
    obtain ⟨hm, rfl⟩ := hOf_some e
    exact k (List.mem_map.mpr ⟨h, hm, rfl⟩)
theorem w_known {C CE : Addr} {H : Hp} {j : Addr} {v : Vs} {n : Str} {Q : VK} {E : XK} (hv : VAt C H j v) (kx : n ∉ v.names → Raised sNam CE H (.str n) E) (k : n ∈ v.names → Q .non H) : sp_Vault_known C CE K [.ref j, .str n] H Q E := ⟨_, _, rfl, j, v, n, rfl, rfl, hv, kx, k⟩
def upN (v : Vs) (ys : List Str) : Prop := ys.Nodup ∧ ∀ n, n ∈ ys ↔ n ∈ v.names ∧ v.up n = true
theorem names_small {v : Vs} (ok : VOk v) {ys : List Str} (h : ys.Nodup) (s : ∀ n ∈ ys, n ∈ v.names) : ys.length < 64 := by
  have := nodup_len h s
  have l : v.names.length = v.hs.length := List.length_map _
  have := ok.sz.1
  omega
def sp_Vault_up_names (C : Addr) (K : PySem.W.Frag) : Sp := sp1 fun a H Q => ∃ (j : Addr) (v : Vs), a = .ref j ∧ VAt C H j v ∧ VOk v ∧ ∀ r H' (ys : List Str), Ext [] H H' → H r = none → H' r = some (.lst (ys.map V.str)) → upN v ys → Q (.ref r) H'
theorem ok_Vault_up_names (T : Txt K mg) : FnOk P w K mg base CX0 1 T.f_Vault_up_names T.d_Vault_up_names ["self"] (sp_Vault_up_names T.C_Vault K) := by
  refine T.F_Vault_up_names.ok sc_Vault_up_names len1 (fun cdv A outer s H vs Q E hr h => ?_)
  have nd := sc_Vault_up_names.nd
  have hu := hu_of hr
  obtain ⟨_, rfl, j, v, rfl, hv, ok, k⟩ := h
  refine ⟨_,
      (pss_one (ps_ret (pe_lc (own := [("name", 1)]) rfl nd (pi_list (pe_callB (zc_sortD rfl) (by rfl) T.b_sorted (by decide +kernel) (pa_cons (pe_fld (pv 0) rfl) pa_nil))) (blkOk_by (own := [("name", 1)]) (N := ["self", "name"]) (sc := defScope s_Vault_up_names) (by decide +kernel)) (fun _ _ _ _ _ => (pg_name (i := 1) nd rfl (Or.inl rfl))) (fun _ _ _ _ _ => (pts_one (pt_val (pe_dget hu (pe_fldK (K := K) rfl (pv 0)) (pv 1) (fun _ _ => rfl))))) (fun _ _ _ _ _ => (pv 1))))), ?_⟩
  change (_ : TS) _ [some _, none] _
  try dsimp only [cxOf, Cx.nox, Cx.wish]
  obtain ⟨dx, h1⟩ := hv.ob
  have h2 := hv.hp
  have no_ : ∀ {x : Addr}, x ∉ ([] : List Addr) := List.not_mem_nil
  walk_at "go"
  refine w_sortD (ks := v.names) h2 (by rw [List.map_map]; unfold Vs.names; rw [List.map_map]; rfl) (by unfold Vs.names; rw [List.length_map]; exact ok.sz.1) fun ys pm so => w_alc fun L H1 e1 n1 hL => ?_
  have ynd : ys.Nodup := pm.nodup_iff.mpr ok.nn
  walk_at "go"
  refine ⟨_, rfl, ⟨_, sql hL⟩, fun D nD => ?_⟩
  refine z_lc_list (xs := ys.map V.str) (fun i acc H' => Ext [] H1 H' ∧ acc = ((ys.take i).filter fun n => v.up n).map V.str) nD (fun H' e => ⟨e, rfl⟩) (fun i acc H' _ ⟨e, _⟩ => sql (e.keep _ _ hL no_)) ?_ ?_
  · rintro Nx i x acc H2 hx ⟨e2, rfl⟩ hD hN
    rw [List.getElem?_map, Option.map_eq_some_iff] at hx
    obtain ⟨n, hn, rfl⟩ := hx
    have hm : n ∈ v.names := pm.mem_iff.mp (List.mem_of_getElem? hn)
    obtain ⟨h, eh⟩ := hOf_mem (hs := v.hs) hm
    obtain ⟨hm2, rfl⟩ := hOf_some eh
    have e02 := e1.trans e2
    have h12 := e02.keep _ _ h1 no_
    have hu2 := e02.keep _ _ hv.hu no_
    walk_at "go"
    refine ⟨rfl, ?_⟩
    walk_at "go"
    refine w_dgU hu2 eh ?_
    have tk : (ys.take (i + 1)).filter (fun n => v.up n) = (ys.take i).filter (fun n => v.up n) ++ if v.up h.nm then [h.nm] else [] := by
      rw [List.take_add_one, hn, List.filter_append]
      congr 1
      show List.filter _ [h.nm] = _
      rw [List.filter_cons]
      cases v.up h.nm <;> rfl
    walk_at "go"
    refine w_b (fun hup => ?_) fun hup => ?_
    · walk_at "go"
      refine w_app hD (szl ?_) fun H3 e3 hD3 => hN _ _ ⟨e2.dropq e3 nD, ?_⟩ hD3
      · rw [List.length_map]
        have a1 := List.length_filter_le (fun n => v.up n) (ys.take i)
        have a2 : (ys.take i).length ≤ ys.length := by rw [List.length_take]; exact Nat.min_le_right _ _
        have := names_small ok ynd fun n m => pm.mem_iff.mp m
        omega
      · rw [tk, hup, if_pos rfl, List.map_append]; rfl
    · refine hN _ _ ⟨e2, ?_⟩ hD
      rw [tk, hup, if_neg (by decide), List.append_nil]
  · rintro acc H2 ⟨e2, rfl⟩ hD
    rw [List.length_map, List.take_length] at hD
    refine k D H2 _ (e1.trans e2) (e1.free nD) hD ⟨ynd.filter _, fun n => ?_⟩
    rw [List.mem_filter]
    exact and_congr_left fun _ => pm.mem_iff
theorem w_upn {C : Addr} {H : Hp} {j : Addr} {v : Vs} {Q : VK} {E : XK} (hv : VAt C H j v) (ok : VOk v) (k : ∀ r H' (ys : List Str), Ext [] H H' → H r = none → H' r = some (.lst (ys.map V.str)) → upN v ys → Q (.ref r) H') : sp_Vault_up_names C K ([.ref j] ++ []) H Q E := ⟨_, rfl, j, v, rfl, hv, ok, k⟩
def sp_Vault_holders (C : Addr) (K : PySem.W.Frag) : Sp := sp1 fun a H Q => ∃ (j : Addr) (v : Vs), a = .ref j ∧ VAt C H j v ∧ VOk v ∧ ∀ r H' (ys : List Str), Ext [] H H' → H r = none → H' r = some (.lst (ys.map V.str)) → ys.Pairwise StrLt → (∀ n, n ∈ ys ↔ n ∈ v.names) → ys.length < 64 → Q (.ref r) H'
theorem ok_Vault_holders (T : Txt K mg) : FnOk P w K mg base CX0 1 T.f_Vault_holders T.d_Vault_holders ["self"] (sp_Vault_holders T.C_Vault K) := by
  refine T.F_Vault_holders.ok sc_Vault_holders len1 (fun cdv A outer s H vs Q E hr h => ?_)
  have nd := sc_Vault_holders.nd
  have hu := hu_of hr
  obtain ⟨_, rfl, j, v, rfl, hv, ok, k⟩ := h
  refine ⟨_,
      (pss_one (ps_ret (pe_callB (zc_sortD rfl) (by rfl) T.b_sorted (by decide +kernel) (pa_cons (pe_fld (pv 0) rfl) pa_nil)))), ?_⟩
  change (_ : TS) _ [some _] _
  try dsimp only [cxOf, Cx.nox, Cx.wish]
  obtain ⟨dx, h1⟩ := hv.ob
  have h2 := hv.hp
  walk_at "go"
  refine w_sortD (ks := v.names) h2 (by rw [List.map_map]; unfold Vs.names; rw [List.map_map]; rfl) (by unfold Vs.names; rw [List.length_map]; exact ok.sz.1) fun ys pm so => w_alc fun L H1 e1 n1 hL => ?_
  have ynd : ys.Nodup := pm.nodup_iff.mpr ok.nn
  exact k L H1 ys e1 n1 hL (sorted_pw so ynd) (fun n => pm.mem_iff) (names_small ok ynd fun n m => pm.mem_iff.mp m)
theorem w_holders {C : Addr} {H : Hp} {j : Addr} {v : Vs} {Q : VK} {E : XK} (hv : VAt C H j v) (ok : VOk v) (k : ∀ r H' (ys : List Str), Ext [] H H' → H r = none → H' r = some (.lst (ys.map V.str)) → ys.Pairwise StrLt → (∀ n, n ∈ ys ↔ n ∈ v.names) → ys.length < 64 → Q (.ref r) H') :
    sp_Vault_holders C K ([.ref j] ++ []) H Q E := ⟨_, rfl, j, v, rfl, hv, ok, k⟩
/-! what is gone, whose numbers they are -/
def gnA (v : Vs) (n : Int) : Bool := (v.gn[(n - 1).toNat]?).getD false
def pnA (v : Vs) (n : Int) : Int := (v.pn[(n - 1).toNat]?).getD 0
theorem at_gn {v : Vs} (ok : VOk v) {n : Int} (h0 : 1 ≤ n) (h1 : n ≤ (v.pn.length : Int)) : atI (v.gn.map V.bl) (n - 1) = some (.bl (gnA v n)) := by
  obtain ⟨x, a, b⟩ := at_pred (xs := v.gn) h0 (by rw [ok.lg]; exact h1)
  obtain ⟨y, c, d⟩ := at_pred (xs := v.gn.map V.bl) h0 (by rw [List.length_map, ok.lg]; exact h1)
  unfold gnA
  rw [d, a]
  rw [List.getElem?_map, a] at c
  exact c.symm
theorem at_pn {v : Vs} {n : Int} (h0 : 1 ≤ n) (h1 : n ≤ (v.pn.length : Int)) : atI (v.pn.map V.int) (n - 1) = some (.int (pnA v n)) := by
  obtain ⟨x, a, b⟩ := at_pred (xs := v.pn) h0 h1
  obtain ⟨y, c, d⟩ := at_pred (xs := v.pn.map V.int) h0 (by rw [List.length_map]; exact h1)
  unfold pnA
  rw [d, a]
  rw [List.getElem?_map, a] at c
  exact c.symm
def trOf (v : Vs) (ks : List Int) (pe : Int) : Bool := ks.any fun n => gnA v n && decide (pnA v n = pe)
def trN (v : Vs) (n : Str) (pe : Int) : Bool := trOf v (v.ks n) pe
def sp_Vault_has_trace (C : Addr) (K : PySem.W.Frag) : Sp := sp3 fun a b c H Q => ∃ (j : Addr) (v : Vs) (n : Str) (pe : Int), a = .ref j ∧ b = .str n ∧ c = .int pe ∧ VAt C H j v ∧ VOk v ∧ n ∈ v.names ∧ ∀ H', Ext [] H H' → Q (.bl (trN v n pe)) H'
theorem ok_Vault_has_trace (T : Txt K mg) : FnOk P w K mg base CX0 1 T.f_Vault_has_trace T.d_Vault_has_trace ["self", "name", "person"] (sp_Vault_has_trace T.C_Vault K) := by
  refine T.F_Vault_has_trace.ok sc_Vault_has_trace len3 (fun cdv A outer s H vs Q E hr h => ?_)
  have nd := sc_Vault_has_trace.nd
  have hu := hu_of hr
  obtain ⟨_, _, _, rfl, j, v, n, pe, rfl, rfl, rfl, hv, ok, hn, k⟩ := h
  refine ⟨_,
      (pss_cons (ps_lock (ps_for PassesOwn.never rfl (pi_keys (pe_dget hu (pe_fld (pv 0) rfl) (pv 1) (fun _ _ => rfl))) (pg_name (i := 3) nd rfl (Or.inl rfl)) 
        (pss_one (ps_if (PW.pt (pw_and (pt_val (pe_ix ix_list (pe_fld (pv 0) rfl) (pe_op op_sub (pv 3) pe_int) (fun _ _ => rfl))) (pw_and1 (pt_cmpR op_eq (pe_ix ix_list (pe_fld (pv 0) rfl) (pe_op op_sub (pv 3) pe_int) (fun _ _ => rfl)) (pv 2) (nomark _))))) 
          (pss_one (ps_ret pe_bl)) pss_nil)))) 
      (pss_one (ps_ret pe_bl))), ?_⟩
  change (_ : TS) _ [some _, some _, some _, none] _
  try dsimp only [cxOf, Cx.nox, Cx.wish]
  obtain ⟨dx, h1⟩ := hv.ob
  have no_ : ∀ {x : Addr}, x ∉ ([] : List Addr) := List.not_mem_nil
  obtain ⟨h, eh⟩ := hOf_mem (hs := v.hs) hn
  obtain ⟨hm, rfl⟩ := hOf_some eh
  have sp := hv.sep
  have k : ∀ H', Ext [] H H' → Q (.bl (trOf v (v.ks h.nm) pe)) H' := k
  walk_at "go"
  refine w_lock (hv.hd h hm) trivial (fun z => z) fun od H2 L => ?_
  have h12 := L.keep h1 (sp.hj h hm).symm
  have h22 := L.keep hv.hp (sp.hp h hm).symm
  have hq2 := L.keep hv.hq (sp.hq h hm).symm
  have hg2 := L.keep hv.hg (sp.hg h hm).symm
  walk_at "go"
  refine w_iKeys ?_
  walk_at "go"
  refine w_dgP h22 eh ?_
  refine ⟨h.ad, od, rfl, .inl ⟨_, L.at, ?_⟩⟩
  refine z_for_keysI (kf := fun n => n) (fun i σ' H' => H2 = H' ∧ (trOf v ((v.ks h.nm).take i) pe = false) ∧ ∃ u, σ' = [some (.ref j), some (.str h.nm), some (.int pe), u]) ⟨rfl, rfl, _, rfl⟩ (fun i σ' H' _ ⟨e, _⟩ => e ▸ L.at) ?_ ?_
  · rintro N i m σ' _ hm2 ⟨rfl, tf, u, rfl⟩ hN
    obtain ⟨r0, r1⟩ := ok.kr h.nm hn m (List.mem_of_getElem? hm2)
    have tk : trOf v ((v.ks h.nm).take (i + 1)) pe = (gnA v m && decide (pnA v m = pe)) := by
      unfold trOf at tf ⊢
      rw [List.take_add_one, hm2, List.any_append, tf, Bool.false_or]
      show (_ || false) = _
      rw [Bool.or_false]
    walk_at "go"; walk_at "if"
    refine w_ixL (sql hg2) (at_gn ok r0 r1) ?_
    walk_at "go"
    have done : ∀ {b : Bool}, b = trOf v (v.ks h.nm) pe → H2 h.ad = some (.frz od (dN v.P (v.ks h.nm))) ∧ Q (.bl b) (upd H2 h.ad (dN v.P (v.ks h.nm))) := fun {b} e => w_unlock L (Ext.refl (M := [])) fun H3 e3 _ => e ▸ k H3 e3
    refine w_b (fun c1 => ?_) fun c1 => ?_
    · walk_at "go"
      refine w_ixL (sql hq2) (at_pn r0 r1) ?_
      walk_at "go"
      refine w_d (fun c2 => ?_) fun c2 => ?_
      · walk_at "go"
        refine done ?_
        unfold trOf
        exact (List.any_eq_true.mpr ⟨m, List.mem_of_getElem? hm2, by simp [c1, c2]⟩).symm
      · walk_at "go"
        exact hN _ _ ⟨rfl, by rw [tk, c1]; simp [c2], _, rfl⟩
    · exact hN _ _ ⟨rfl, by rw [tk, c1]; rfl, _, rfl⟩
  · rintro σ' _ ⟨rfl, tf, u, rfl⟩
    rw [List.take_length] at tf
    refine w_unlock L (Ext.refl (M := [])) fun H3 e3 _ => ?_
    walk_at "go"
    rw [← tf]
    exact k H3 e3
theorem w_trace {C : Addr} {H : Hp} {j : Addr} {v : Vs} {n : Str} {pe : Int} {Q : VK} {E : XK} (hv : VAt C H j v) (ok : VOk v) (hn : n ∈ v.names) (k : ∀ H', Ext [] H H' → Q (.bl (trN v n pe)) H') : sp_Vault_has_trace C K ([.ref j, .str n, .int pe] ++ []) H Q E := ⟨_, _, _, rfl, j, v, n, pe, rfl, rfl, rfl, hv, ok, hn, k⟩
def sp_Vault_traces (C : Addr) (K : PySem.W.Frag) : Sp := sp2 fun a b H Q => ∃ (j : Addr) (v : Vs) (pe : Int), a = .ref j ∧ b = .int pe ∧ VAt C H j v ∧ VOk v ∧ ∀ r H' (ys : List Str), Ext [] H H' → H r = none → H' r = some (.lst (ys.map V.str)) → ys.Pairwise StrLt → (∀ n, n ∈ ys ↔ n ∈ v.names ∧ trN v n pe = true) → ys.length < 64 → Q (.ref r) H'
theorem ok_Vault_traces (T : Txt K mg) : FnOk P w K mg base CX0 2 T.f_Vault_traces T.d_Vault_traces ["self", "person"] (sp_Vault_traces T.C_Vault K) := by
  refine T.F_Vault_traces.ok sc_Vault_traces len2 (fun cdv A outer s H vs Q E hr h => ?_)
  have nd := sc_Vault_traces.nd
  have hu := hu_of hr
  obtain ⟨_, _, rfl, j, v, pe, rfl, rfl, hv, ok, k⟩ := h
  refine ⟨_,
      (pss_one (ps_ret (pe_lc (own := [("name", 2)]) rfl nd (pi_list (pe_callB (zc_sortD rfl) (by rfl) T.b_sorted (by decide +kernel) (pa_cons (pe_fld (pv 0) rfl) pa_nil))) (blkOk_by (own := [("name", 2)]) (N := ["self", "person", "name"]) (sc := defScope s_Vault_traces) (by decide +kernel)) (fun _ _ _ _ _ => (pg_name (i := 2) nd rfl (Or.inl rfl))) (fun _ _ _ _ _ => (pts_one (pt_val (pe_meth (pv 0) T.c_Vault T.m_Vault_has_trace (ok_Vault_has_trace T) (hr.mono (by decide)) T.k_Vault_has_trace .nil pass0 (pa_cons (pv 2) (pa_cons (pv 1) pa_nil)))))) (fun _ _ _ _ _ => (pv 2))))), ?_⟩
  change (_ : TS) _ [some _, some _, none] _
  try dsimp only [cxOf, Cx.nox, Cx.wish]
  obtain ⟨dx, h1⟩ := hv.ob
  have h2 := hv.hp
  have no_ : ∀ {x : Addr}, x ∉ ([] : List Addr) := List.not_mem_nil
  walk_at "go"
  refine w_sortD (ks := v.names) h2 (by rw [List.map_map]; unfold Vs.names; rw [List.map_map]; rfl) (by unfold Vs.names; rw [List.length_map]; exact ok.sz.1) fun ys pm so => w_alc fun L H1 e1 n1 hL => ?_
  have ynd : ys.Nodup := pm.nodup_iff.mpr ok.nn
  have l64 := names_small ok ynd fun n m => pm.mem_iff.mp m
  walk_at "go"
  refine ⟨_, rfl, ⟨_, sql hL⟩, fun D nD => ?_⟩
  refine z_lc_list (xs := ys.map V.str) (fun i acc H' => Ext [] H1 H' ∧ acc = ((ys.take i).filter fun n => trN v n pe).map V.str) nD (fun H' e => ⟨e, rfl⟩) (fun i acc H' _ ⟨e, _⟩ => sql (e.keep _ _ hL no_)) ?_ ?_
  · rintro Nx i x acc H2 hx ⟨e2, rfl⟩ hD hN
    rw [List.getElem?_map, Option.map_eq_some_iff] at hx
    obtain ⟨n, hn, rfl⟩ := hx
    have hm : n ∈ v.names := pm.mem_iff.mp (List.mem_of_getElem? hn)
    have e02 := e1.trans e2
    have h12 := e02.keep _ _ h1 no_
    have tk : (ys.take (i + 1)).filter (fun n => trN v n pe) = (ys.take i).filter (fun n => trN v n pe) ++ if trN v n pe then [n] else [] := by
      rw [List.take_add_one, hn, List.filter_append]
      congr 1
      show List.filter _ [n] = _
      rw [List.filter_cons]
      cases trN v n pe <;> rfl
    walk_at "go"
    refine ⟨rfl, ?_⟩
    walk_at "go"
    refine w_meth h12 no_Vault_has_trace ?_
    walk_at "go"
    refine w_trace (hv.ext0 e02) ok hm fun H3 e3 => ?_
    have hD3 := e3.keep _ _ hD no_
    refine w_bl ?_
    refine w_b (fun hup => ?_) fun hup => ?_
    · walk_at "go"
      refine w_app hD3 (szl ?_) fun H4 e4 hD4 => hN _ _ ⟨(e2.trans e3).dropq e4 nD, ?_⟩ hD4
      · rw [List.length_map]
        have a1 := List.length_filter_le (fun n => trN v n pe) (ys.take i)
        have a2 : (ys.take i).length ≤ ys.length := by rw [List.length_take]; exact Nat.min_le_right _ _
        omega
      · rw [tk, hup, if_pos rfl, List.map_append]; rfl
    · refine hN _ _ ⟨e2.trans e3, ?_⟩ hD3
      rw [tk, hup, if_neg (by decide), List.append_nil]
  · rintro acc H2 ⟨e2, rfl⟩ hD
    rw [List.length_map, List.take_length] at hD
    refine k D H2 _ (e1.trans e2) (e1.free nD) hD ((sorted_pw so ynd).filter _) (fun n => ?_) ?_
    · rw [List.mem_filter]
      exact and_congr_left fun _ => pm.mem_iff
    · exact Nat.lt_of_le_of_lt (List.length_filter_le _ _) l64
theorem w_traces {C : Addr} {H : Hp} {j : Addr} {v : Vs} {pe : Int} {Q : VK} {E : XK} (hv : VAt C H j v) (ok : VOk v) (k : ∀ r H' (ys : List Str), Ext [] H H' → H r = none → H' r = some (.lst (ys.map V.str)) → ys.Pairwise StrLt → (∀ n, n ∈ ys ↔ n ∈ v.names ∧ trN v n pe = true) → ys.length < 64 → Q (.ref r) H') :
    sp_Vault_traces C K ([.ref j, .int pe] ++ []) H Q E := ⟨_, _, rfl, j, v, pe, rfl, rfl, hv, ok, k⟩

/-! what changes the vault -/
theorem Sepd.nd {j : Addr} {v : Vs} (s : Sepd j v) : (v.F j).Nodup := by
  have mm : ∀ {a : Addr}, (∀ h ∈ v.hs, h.ad ≠ a) → a ∉ v.ads := fun w m => by
    obtain ⟨h, hm, e⟩ := List.mem_map.mp m
    exact w h hm e
  unfold Vs.F
  simp only [List.nodup_cons, List.mem_cons, not_or]
  exact ⟨⟨s.jp, s.ju, s.jq, s.jg, mm s.hj⟩, ⟨s.pu, s.pq, s.pg, mm s.hp⟩, ⟨s.uq, s.ug, mm s.hu⟩, ⟨s.qg, mm s.hq⟩, mm s.hg, s.hh⟩
theorem VAt.setG {C : Addr} {H H' : Hp} {j : Addr} {v : Vs} (w : VAt C H j v) {gn : List Bool} (e : Ext [v.g] H H') (h : H' v.g = some (.lst (gn.map V.bl))) : VAt C H' j { v with gn := gn } := by
  have s := w.sep
  exact ⟨w.ob.imp fun _ h => e.keep _ _ h (nm1 s.jg), e.keep _ _ w.hp (nm1 s.pg), e.keep _ _ w.hu (nm1 s.ug), e.keep _ _ w.hq (nm1 s.qg), h, fun x m => e.keep _ _ (w.hd x m) (nm1 (s.hg x m)), w.nd⟩
theorem VAt.setQ {C : Addr} {H H' : Hp} {j : Addr} {v : Vs} (w : VAt C H j v) {pn : List Int} (e : Ext [v.q] H H') (h : H' v.q = some (.lst (pn.map V.int))) : VAt C H' j { v with pn := pn } := by
  have s := w.sep
  exact ⟨w.ob.imp fun _ h => e.keep _ _ h (nm1 s.jq), e.keep _ _ w.hp (nm1 s.pq), e.keep _ _ w.hu (nm1 s.uq), h, e.keep _ _ w.hg (nm1 s.qg.symm), fun x m => e.keep _ _ (w.hd x m) (nm1 (s.hq x m)), w.nd⟩
theorem VAt.setU {C : Addr} {H H' : Hp} {j : Addr} {v : Vs} (w : VAt C H j v) {up : Str → Bool} (e : Ext [v.u] H H') (h : H' v.u = some (dUp up v.hs)) : VAt C H' j { v with up := up } := by
  have s := w.sep
  exact ⟨w.ob.imp fun _ h => e.keep _ _ h (nm1 s.ju), e.keep _ _ w.hp (nm1 s.pu), h, e.keep _ _ w.hq (nm1 s.uq.symm), e.keep _ _ w.hg (nm1 s.ug.symm), fun x m => e.keep _ _ (w.hd x m) (nm1 (s.hu x m)), w.nd⟩
theorem VAt.reP {C : Addr} {H : Hp} {j : Addr} {v : Vs} (w : VAt C H j v) {P : Int → Int} (h : ∀ x ∈ v.hs, ∀ n ∈ v.ks x.nm, v.P n = P n) : VAt C H j { v with P := P } := by
  refine ⟨w.ob, w.hp, w.hu, w.hq, w.hg, fun x m => ?_, w.nd⟩
  have := w.hd x m
  unfold dN at this ⊢
  rw [this, List.map_congr_left fun n hn => by rw [h x m n hn]]
def setF {β : Type} (f : Str → β) (n : Str) (y : β) : Str → β := fun m => if m = n then y else f m
theorem setF_at {β : Type} {f : Str → β} {n : Str} {y : β} : setF f n y n = y := if_pos rfl
theorem setF_ne {β : Type} {f : Str → β} {n m : Str} {y : β} (h : m ≠ n) : setF f n y m = f m := if_neg h
theorem ad_ne {v : Vs} (ok : VOk v) {j : Addr} (s : Sepd j v) {x y : Hl} (hx : x ∈ v.hs) (hy : y ∈ v.hs) (n : x.nm ≠ y.nm) : x.ad ≠ y.ad := by
  intro e
  have s2 := s.hh
  unfold Vs.ads at s2
  generalize v.hs = hs at hx hy s2
  induction hs with
  | nil => cases hx
  | cons z r ih =>
    rw [List.map_cons, List.nodup_cons] at s2
    rcases List.mem_cons.mp hx with ex | hx'
    · rcases List.mem_cons.mp hy with ey | hy'
      · exact n (by rw [ex, ey])
      · exact s2.1 (List.mem_map.mpr ⟨y, hy', by rw [← e, ex]⟩)
    · rcases List.mem_cons.mp hy with ey | hy'
      · exact s2.1 (List.mem_map.mpr ⟨x, hx', by rw [e, ey]⟩)
      · exact ih hx' hy' s2.2
theorem VAt.setK {C : Addr} {H H' : Hp} {j : Addr} {v : Vs} (w : VAt C H j v) (ok : VOk v) {h : Hl} (m : h ∈ v.hs) {ks : List Int} (e : Ext [h.ad] H H') (g : H' h.ad = some (dN v.P ks)) : VAt C H' j { v with ks := setF v.ks h.nm ks } := by
  have s := w.sep
  refine ⟨w.ob.imp fun _ z => e.keep _ _ z (nm1 (s.hj h m).symm), e.keep _ _ w.hp (nm1 (s.hp h m).symm), e.keep _ _ w.hu (nm1 (s.hu h m).symm), e.keep _ _ w.hq (nm1 (s.hq h m).symm), e.keep _ _ w.hg (nm1 (s.hg h m).symm), fun x mx => ?_, w.nd⟩
  show H' x.ad = some (dN v.P (setF v.ks h.nm ks x.nm))
  by_cases z : x.nm = h.nm
  · have := hOf_self ok.nn mx
    rw [z, hOf_self ok.nn m] at this
    cases this
    rw [setF_at]; exact g
  · rw [setF_ne z]
    exact e.keep _ _ (w.hd x mx) (nm1 (ad_ne ok s mx m z))
def reAd (hs : List Hl) (n : Str) (D : Addr) : List Hl := hs.map fun h => { h with ad := if h.nm = n then D else h.ad }
theorem reAd_nm (hs : List Hl) (n : Str) (D : Addr) : (reAd hs n D).map (·.nm) = hs.map (·.nm) := by unfold reAd; rw [List.map_map]; rfl
theorem putP {hs : List Hl} {n : Str} (m : n ∈ hs.map (·.nm)) (D : Addr) : putK (hs.map fun h => ((Sum.inr h.nm : Key), V.ref h.ad)) (Sum.inr n) (V.ref D) = (reAd hs n D).map fun h => ((Sum.inr h.nm : Key), V.ref h.ad) := by
  rw [putN m]
  unfold reAd
  rw [List.map_map]
  refine List.map_congr_left fun h _ => ?_
  show ((Sum.inr h.nm : Key), if h.nm = n then V.ref D else V.ref h.ad) = ((Sum.inr h.nm : Key), V.ref (if h.nm = n then D else h.ad))
  split <;> rfl
theorem putU {hs : List Hl} {up : Str → Bool} {n : Str} (m : n ∈ hs.map (·.nm)) (b : Bool) : putK (hs.map fun h => ((Sum.inr h.nm : Key), V.bl (up h.nm))) (Sum.inr n) (V.bl b) = hs.map fun h => ((Sum.inr h.nm : Key), V.bl (setF up n b h.nm)) := by
  rw [putN m]
  refine List.map_congr_left fun h _ => ?_
  show ((Sum.inr h.nm : Key), if h.nm = n then V.bl b else V.bl (up h.nm)) = ((Sum.inr h.nm : Key), V.bl (if h.nm = n then b else up h.nm))
  split <;> rfl
theorem reAd_nd {hs : List Hl} {n : Str} {D : Addr} (h1 : (hs.map (·.nm)).Nodup) (h2 : (hs.map (·.ad)).Nodup) (h3 : D ∉ hs.map (·.ad)) : ((reAd hs n D).map (·.ad)).Nodup := by
  induction hs with
  | nil => exact .nil
  | cons z r ih =>
    rw [List.map_cons, List.nodup_cons] at h1 h2
    rw [List.map_cons, List.mem_cons, not_or] at h3
    show ((if z.nm = n then D else z.ad) :: (reAd r n D).map (·.ad)).Nodup
    refine List.nodup_cons.mpr ⟨fun m => ?_, ih h1.2 h2.2 h3.2⟩
    unfold reAd at m
    rw [List.map_map] at m
    obtain ⟨y, hy, e⟩ := List.mem_map.mp m
    have e : (if y.nm = n then D else y.ad) = if z.nm = n then D else z.ad := e
    by_cases a : y.nm = n
    · rw [if_pos a] at e
      by_cases b : z.nm = n
      · exact h1.1 (by rw [b, ← a]; exact List.mem_map.mpr ⟨y, hy, rfl⟩)
      · rw [if_neg b] at e; exact h3.1 e
    · rw [if_neg a] at e
      by_cases b : z.nm = n
      · rw [if_pos b] at e
        exact h3.2 (by rw [← e]; exact List.mem_map.mpr ⟨y, hy, rfl⟩)
      · rw [if_neg b] at e
        exact h2.1 (by rw [← e]; exact List.mem_map.mpr ⟨y, hy, rfl⟩)
/-- a holder gets another dict -/
theorem VAt.reD {C : Addr} {H H' : Hp} {j D : Addr} {v : Vs} (w : VAt C H j v) (ok : VOk v) {n : Str} {ks : List Int} (nD : D ∉ v.F j) (hD : H D = some (dN v.P ks)) (e : Ext [v.p] H H') (g : H' v.p = some (dPd (reAd v.hs n D))) : VAt C H' j { v with hs := reAd v.hs n D, ks := setF v.ks n ks } := by
  have s := w.sep
  unfold Vs.F at nD
  simp only [List.mem_cons, not_or] at nD
  obtain ⟨n1, n2, n3, n4, n5, n6⟩ := nD
  have mm : ∀ {a : Addr}, a ≠ D → (∀ h ∈ v.hs, h.ad ≠ a) → ∀ h ∈ reAd v.hs n D, h.ad ≠ a := fun na w h m => by
    obtain ⟨y, hy, e⟩ := List.mem_map.mp m
    subst e
    show (if y.nm = n then D else y.ad) ≠ _
    split
    · exact na.symm
    · exact w y hy
  have s' : Sepd j { v with hs := reAd v.hs n D, ks := setF v.ks n ks } := ⟨s.jp, s.ju, s.jq, s.jg, s.pu, s.pq, s.pg, s.uq, s.ug, s.qg, mm (Ne.symm n1) s.hj, mm (Ne.symm n2) s.hp, mm (Ne.symm n3) s.hu, mm (Ne.symm n4) s.hq, mm (Ne.symm n5) s.hg, reAd_nd ok.nn s.hh n6⟩
  have eu : dUp v.up (reAd v.hs n D) = dUp v.up v.hs := by unfold dUp reAd; rw [List.map_map]; rfl
  refine ⟨w.ob.imp fun _ z => e.keep _ _ z (nm1 s.jp), g, (by show H' v.u = some (dUp v.up (reAd v.hs n D)); rw [eu]; exact e.keep _ _ w.hu (nm1 s.pu.symm)), e.keep _ _ w.hq (nm1 s.pq.symm), e.keep _ _ w.hg (nm1 s.pg.symm), fun x m => ?_, s'.nd⟩
  obtain ⟨y, hy, ey⟩ := List.mem_map.mp m
  subst ey
  show H' (if y.nm = n then D else y.ad) = some (dN v.P (setF v.ks n ks y.nm))
  by_cases z : y.nm = n
  · rw [if_pos z, z, setF_at]; exact e.keep _ _ hD (nm1 n2)
  · rw [if_neg z, setF_ne z]; exact e.keep _ _ (w.hd y hy) (nm1 (s.hp y hy))
def gdA (v : Vs) (pe : Int) : Prop := (∀ n : Int, 1 ≤ n → n ≤ (v.pn.length : Int) → pnA v n = pe → gnA v n = true) ∧ ∀ n ∈ v.names, trN v n pe = false
def sp_Vault_gone (C : Addr) (K : PySem.W.Frag) : Sp := sp2 fun a b H Q => ∃ (j : Addr) (v : Vs) (pe : Int), a = .ref j ∧ b = .int pe ∧ VAt C H j v ∧ VOk v ∧ ∀ r H', Ext [] H H' → (r = true ↔ gdA v pe) → Q (.bl r) H'
theorem ok_Vault_gone (T : Txt K mg) : FnOk P w K mg base CX0 3 T.f_Vault_gone T.d_Vault_gone ["self", "person"] (sp_Vault_gone T.C_Vault K) := by
  refine T.F_Vault_gone.ok sc_Vault_gone len2 (fun cdv A outer s H vs Q E hr h => ?_)
  have nd := sc_Vault_gone.nd
  have hu := hu_of hr
  obtain ⟨_, _, rfl, j, v, pe, rfl, rfl, hv, ok, k⟩ := h
  refine ⟨_,
      (pss_cons (ps_for PassesOwn.never rfl (pi_range1 (by rfl) T.b_range (pa_cons (pe_callB zc_len (by rfl) T.b_len (by decide +kernel) (pa_cons (pe_fld (pv 0) rfl) pa_nil)) pa_nil)) (pg_name (i := 2) nd rfl (Or.inl rfl)) 
        (pss_one (ps_if (PW.pt (pw_and (pt_cmpR op_eq (pe_ix ix_list (pe_fld (pv 0) rfl) (pv 2) (fun _ _ => rfl)) (pv 1) (nomark _)) (pw_and1 (pt_not (pt_val (pe_ix ix_list (pe_fld (pv 0) rfl) (pv 2) (fun _ _ => rfl))))))) 
          (pss_one (ps_ret pe_bl)) pss_nil))) 
      (pss_one (ps_ret (pe_notT (pe_meth (pv 0) T.c_Vault T.m_Vault_traces (ok_Vault_traces T) (hr.mono (by decide)) T.k_Vault_traces .nil pass0 (pa_cons (pv 1) pa_nil)))))), ?_⟩
  change (_ : TS) _ [some _, some _, none] _
  try dsimp only [cxOf, Cx.nox, Cx.wish]
  obtain ⟨dx, h1⟩ := hv.ob
  have hq2 := hv.hq
  have hg2 := hv.hg
  walk_at "go"
  refine ⟨_, rfl, by omega, by have := ok.sz.2; rw [List.length_map]; omega, ?_⟩
  rw [Int.toNat_natCast, List.length_map]
  refine z_for_range (lo := 0) (fun i σ' H' => H = H' ∧ (∀ n : Int, 1 ≤ n → n ≤ i → pnA v n = pe → gnA v n = true) ∧ ∃ u, σ' = [some (.ref j), some (.int pe), u]) ⟨rfl, fun n _ _ => by omega, _, rfl⟩ ?_ ?_
  · rintro N i σ' _ hi ⟨rfl, al, u, rfl⟩ hN
    have e1 : (0 + (i : Int)) = ((i : Int) + 1) - 1 := by omega
    have a1 := at_pn (v := v) (n := (i : Int) + 1) (by omega) (by omega)
    have a2 := at_gn ok (n := (i : Int) + 1) (by omega) (by omega)
    have step : (pnA v ((i : Int) + 1) = pe → gnA v ((i : Int) + 1) = true) → ∀ n : Int, 1 ≤ n → n ≤ ((i + 1 : Nat) : Int) → pnA v n = pe → gnA v n = true := fun w n n0 n1 => by
      by_cases z : n ≤ (i : Int)
      · exact al n n0 z
      · have : n = (i : Int) + 1 := by omega
        rw [this]; exact w
    walk_at "go"; walk_at "if"
    rw [e1]
    refine w_ixL (sql hq2) a1 ?_
    walk_at "go"
    refine w_d (fun c1 => ?_) fun c1 => ?_
    · walk_at "go"
      refine w_nb (fun c2 => ?_) fun c2 => ?_
      · walk_at "go"
        exact k false _ Ext.refl ⟨fun z => (nomatch z), fun z => by rw [z.1 _ (by omega) (by omega) c1] at c2; cases c2⟩
      · walk_at "go"
        exact hN _ _ ⟨rfl, step fun _ => c2, _, rfl⟩
    · walk_at "go"
      exact hN _ _ ⟨rfl, step fun z => absurd z c1, _, rfl⟩
  · rintro σ' _ ⟨rfl, al, u, rfl⟩
    walk_at "go"
    first | (refine w_notT ?_; walk_at "go") | skip
    refine w_meth h1 no_Vault_traces ?_
    walk_at "go"
    refine w_traces hv ok fun r H2 ys e2 nr hr sr mr lr => ?_
    have sr2 : ∀ b, b = decide (ys ≠ []) → Q (.bl (!b)) H2 := fun b eb => k _ _ e2 (by
      rw [eb]
      unfold gdA
      refine Iff.intro ?_ ?_
      · intro z
        have : ys = [] := by simpa using z
        subst this
        refine And.intro al fun n m => ?_
        · cases t : trN v n pe with
          | false => rfl
          | true => exact absurd ((mr n).mpr ⟨m, t⟩) List.not_mem_nil
      · rintro ⟨_, z⟩
        cases ys with
        | nil => rfl
        | cons y r =>
          obtain ⟨y1, y2⟩ := (mr y).mp List.mem_cons_self
          rw [z y y1] at y2; cases y2)
    refine ⟨_, .inl ⟨_, sql hr, rfl⟩, sr2 _ ?_⟩
    cases ys <;> rfl
theorem w_gone {C : Addr} {H : Hp} {j : Addr} {v : Vs} {pe : Int} {Q : VK} {E : XK} (hv : VAt C H j v) (ok : VOk v) (k : ∀ r H', Ext [] H H' → (r = true ↔ gdA v pe) → Q (.bl r) H') : sp_Vault_gone C K ([.ref j, .int pe] ++ []) H Q E := ⟨_, _, rfl, j, v, pe, rfl, rfl, hv, ok, k⟩
/-! a holder down; what is gone is dropped -/
def sp_Vault_down (C CE : Addr) (K : PySem.W.Frag) : Sp := sp2X fun a b H Q E => ∃ (j : Addr) (v : Vs) (n : Str), a = .ref j ∧ b = .str n ∧ VAt C H j v ∧ VOk v ∧ (n ∉ v.names → Raised sNam CE H (.str n) E) ∧ (n ∈ v.names → ∀ H', Ext (v.F j) H H' → VAt C H' j { v with up := setF v.up n false } → Q .non H')
theorem ok_Vault_down (T : Txt K mg) (TE : Errs P K mg) : FnOk P w K mg base (L2N.CX P w) 3 T.f_Vault_down T.d_Vault_down ["self", "name"] (sp_Vault_down T.C_Vault TE.C_NoHolder K) := by
  refine T.F_Vault_down.okN sc_Vault_down len2X (fun cdv A outer s H vs Q E hr h => ?_)
  have nd := sc_Vault_down.nd
  have hu := hu_of hr
  obtain ⟨_, _, rfl, j, v, n, rfl, rfl, hv, ok, kx, k⟩ := h
  refine ⟨_,
      (pss_cons (ps_expr (pe_methT (pv 0) T.c_Vault T.m_Vault_known (ok_Vault_known T TE) (hr.mono (by decide)) T.k_Vault_known (fun σ => L2N.passAt (L2N.takes_of rfl rfl rfl rfl) σ) (pa_cons (pv 1) pa_nil))) 
      (pss_one (ps_dput hu (pe_fld (pv 0) rfl) (pv 1) pe_bl rfl))), ?_⟩
  change (_ : TS) _ [some _, some _] _
  try dsimp only [cxOf, Cx.nox, Cx.wish]
  obtain ⟨dx, h1⟩ := hv.ob
  walk_at "go"
  refine w_meth h1 no_Vault_known ?_
  walk_at "go"
  refine w_known hv kx fun hn => ?_
  have k := k hn
  have hu := hv.hu
  walk_at "go"
  refine w_dputS hu (szl (by rw [List.length_map]; have := ok.sz.1; omega)) fun H1 e1 g1 => ?_
  rw [putU hn] at g1
  walk_at "go"
  exact k H1 (e1.mono fun a m => by rw [List.mem_singleton.mp m]; unfold Vs.F; simp) (hv.setU e1 g1)
def shrK (v : Vs) (n : Str) : List Int := (v.ks n).filter fun m => !gnA v m
def sp_Vault_shred (C : Addr) (K : PySem.W.Frag) : Sp := sp2 fun a b H Q => ∃ (j : Addr) (v : Vs) (n : Str), a = .ref j ∧ b = .str n ∧ VAt C H j v ∧ VOk v ∧ n ∈ v.names ∧ ∀ D H', Ext (v.F j) H H' → H D = none → VAt C H' j { v with hs := reAd v.hs n D, ks := setF v.ks n (shrK v n) } → Q .non H'
theorem ok_Vault_shred (T : Txt K mg) : FnOk P w K mg base CX0 1 T.f_Vault_shred T.d_Vault_shred ["self", "name"] (sp_Vault_shred T.C_Vault K) := by
  refine T.F_Vault_shred.ok sc_Vault_shred len2 (fun cdv A outer s H vs Q E hr h => ?_)
  have nd := sc_Vault_shred.nd
  have hu := hu_of hr
  obtain ⟨_, _, rfl, j, v, n, rfl, rfl, hv, ok, hn, k⟩ := h
  refine ⟨_,
      (pss_cons (ps_set (i := 2) nd rfl (Or.inr rfl) (pe_dget hu (pe_fld (pv 0) rfl) (pv 1) (fun _ _ => rfl))) 
      (pss_one (ps_dput hu (pe_fld (pv 0) rfl) (pv 1) (pe_lock (pe_dc (own := [("number", 3)]) rfl nd (pi_keys (pv 2)) (blkOk_by (own := [("number", 3)]) (N := ["self", "name", "kept", "number"]) (sc := defScope s_Vault_shred) (by decide +kernel)) (fun _ _ _ _ _ => (pg_name (i := 3) nd rfl (Or.inl rfl))) (fun _ _ _ _ _ => (pts_one (pt_not (pt_val (pe_ix (ix_listK (K := K) rfl) (pe_fldK (K := K) rfl (pv 0)) (pe_op op_sub (pv 3) pe_int) (fun _ _ => rfl)))))) (fun _ _ _ _ _ => (pv 3)) (fun _ _ _ _ _ => (pe_dget hu (pv 2) (pv 3) (fun _ _ => rfl))))) rfl))), ?_⟩
  change (_ : TS) _ [some _, some _, none, none] _
  try dsimp only [cxOf, Cx.nox, Cx.wish]
  obtain ⟨dx, h1⟩ := hv.ob
  have no_ : ∀ {x : Addr}, x ∉ ([] : List Addr) := List.not_mem_nil
  obtain ⟨h, eh⟩ := hOf_mem (hs := v.hs) hn
  obtain ⟨hm, rfl⟩ := hOf_some eh
  have sp := hv.sep
  have hp := hv.hp
  walk_at "go"
  refine w_dgP hp eh ?_
  walk_at "go"
  refine w_lockE (hv.hd h hm) trivial (fun z => z) fun od H2 L => ?_
  have h12 := L.keep h1 (sp.hj h hm).symm
  have hg2 := L.keep hv.hg (sp.hg h hm).symm
  refine w_dcK (w_iKeys ?_)
  walk_at "go"
  refine ⟨h.ad, od, rfl, .inl ⟨_, L.at, fun D nD => ?_⟩⟩
  have nDh : D ≠ h.ad := (ne_of_none L.at nD).symm
  refine z_dc_keysI (kf := fun n => n) (fun i acc H' => Ext [] H2 H' ∧ acc = ((((v.ks h.nm).take i).filter fun m => !gnA v m).map fun n => ((Sum.inl n : Key), V.int (v.P n)))) nD (fun H' e => ⟨e, rfl⟩) (fun i acc H' _ ⟨e, _⟩ => e.imm _ _ L.at trivial) ?_ ?_
  · rintro Nx i m acc H3 hi ⟨e3, rfl⟩ hD hN
    obtain ⟨r0, r1⟩ := ok.kr h.nm hn m (List.mem_of_getElem? hi)
    have h13 := e3.keep _ _ h12 no_
    have hg3 := e3.keep _ _ hg2 no_
    have tk : ((v.ks h.nm).take (i + 1)).filter (fun m => !gnA v m) = ((v.ks h.nm).take i).filter (fun m => !gnA v m) ++ if gnA v m then [] else [m] := by
      rw [List.take_add_one, hi, List.filter_append]
      congr 1
      show List.filter _ [m] = _
      rw [List.filter_cons]
      cases gnA v m <;> rfl
    walk_at "go"
    refine ⟨rfl, ?_⟩
    walk_at "go"
    refine w_ixL (sql hg3) (at_gn ok r0 r1) ?_
    walk_at "go"
    refine w_nb (fun c => ?_) fun c => ?_
    · walk_at "go"
      refine w_dgN (.inr ⟨od, e3.imm _ _ L.at trivial⟩) (List.mem_of_getElem? hi) ?_
      refine w_dcpI hD (szl ?_) fun H4 e4 hD4 => hN _ _ ⟨e3.dropq e4 nD, ?_⟩ hD4
      · rw [List.length_map]
        have a1 := List.length_filter_le (fun m => !gnA v m) ((v.ks h.nm).take i)
        have a2 : ((v.ks h.nm).take i).length ≤ (v.ks h.nm).length := by rw [List.length_take]; exact Nat.min_le_right _ _
        have a3 := len_upto (ok.kn h.nm hn) (ok.kr h.nm hn)
        have a4 := ok.sz.2
        omega
      · rw [putI, tk, c]
        refine congrArg _ ?_
        unfold addN
        rw [if_neg fun z => ?_]; rfl
        have z := (List.mem_filter.mp z).1
        have nd := ok.kn h.nm hn
        rw [← List.take_append_drop (i + 1) (v.ks h.nm), List.take_add_one, hi] at nd
        exact (List.nodup_append.mp (List.nodup_append.mp nd).1).2.2 m z m (by simp) rfl
    · refine hN _ _ ⟨e3, ?_⟩ hD
      rw [tk, c, if_pos rfl, List.append_nil]
  · rintro acc H3 ⟨e3, rfl⟩ hD
    rw [List.take_length] at hD
    refine ⟨e3.imm _ _ L.at trivial, ?_⟩
    obtain ⟨H4, q4, e4, kp⟩ := unlock_is L e3
    rw [q4]
    have h14 := e4.keep _ _ h1 no_
    have hp4 := e4.keep _ _ hp no_
    have nDH := L.free nD
    have hD4 := kp D _ hD nDh
    walk_at "go"
    refine w_dputS hp4 (szl (by rw [List.length_map]; have := ok.sz.1; omega)) fun H5 e5 g5 => ?_
    rw [putP hn] at g5
    refine k D H5 (e4.up.trans (e5.mono fun a m => by rw [List.mem_singleton.mp m]; unfold Vs.F; simp)) nDH ((hv.ext0 e4).reD ok (hv.out nDH) hD4 e5 g5)
theorem w_shred {C : Addr} {H : Hp} {j : Addr} {v : Vs} {n : Str} {Q : VK} {E : XK} (hv : VAt C H j v) (ok : VOk v) (hn : n ∈ v.names) (k : ∀ D H', Ext (v.F j) H H' → H D = none → VAt C H' j { v with hs := reAd v.hs n D, ks := setF v.ks n (shrK v n) } → Q .non H') : sp_Vault_shred C K ([.ref j, .str n] ++ []) H Q E := ⟨_, _, rfl, j, v, n, rfl, rfl, hv, ok, hn, k⟩

/-! the vault goes from one state to another -/
structure Stp (C : Addr) (H H' : Hp) (j : Addr) (v v' : Vs) : Prop where
  ext : Ext (v.F j) H H'
  at' : VAt C H' j v'
  fr : ∀ a ∈ v'.F j, a ∈ v.F j ∨ H a = none
theorem Stp.refl {C : Addr} {H : Hp} {j : Addr} {v : Vs} (h : VAt C H j v) : Stp C H H j v v := ⟨Ext.refl, h, fun _ m => .inl m⟩
theorem Stp.trans {C : Addr} {H H1 H2 : Hp} {j : Addr} {v v1 v2 : Vs} (a : Stp C H H1 j v v1) (b : Stp C H1 H2 j v1 v2) : Stp C H H2 j v v2 :=
  ⟨a.ext.cut b.ext a.fr, b.at', fun x m => (b.fr x m).elim (a.fr x) fun n => .inr (a.ext.free n)⟩
theorem Stp.ext0 {C : Addr} {H H1 H2 : Hp} {j : Addr} {v v1 : Vs} (a : Stp C H H1 j v v1) (e : Ext [] H1 H2) : Stp C H H2 j v v1 := ⟨a.ext.trans e.up, a.at'.ext0 e, a.fr⟩
theorem Stp.pre {C : Addr} {H H1 H2 : Hp} {j : Addr} {v v1 : Vs} (e : Ext [] H H1) (a : Stp C H1 H2 j v v1) : Stp C H H2 j v v1 := ⟨e.up.trans a.ext, a.at', fun x m => (a.fr x m).elim .inl fun n => .inr (e.free n)⟩
theorem F_same {v v' : Vs} {j : Addr} (h1 : v'.p = v.p) (h2 : v'.u = v.u) (h3 : v'.q = v.q) (h4 : v'.g = v.g) (h5 : v'.hs = v.hs) : v'.F j = v.F j := by unfold Vs.F Vs.ads; rw [h1, h2, h3, h4, h5]
theorem F_reAd {v v' : Vs} {j D : Addr} {n : Str} {H : Hp} (h1 : v'.p = v.p) (h2 : v'.u = v.u) (h3 : v'.q = v.q) (h4 : v'.g = v.g) (h5 : v'.hs = reAd v.hs n D) (nD : H D = none) : ∀ a ∈ v'.F j, a ∈ v.F j ∨ H a = none := by
  intro a m
  unfold Vs.F Vs.ads at m ⊢
  rw [h1, h2, h3, h4, h5] at m
  simp only [List.mem_cons] at m ⊢
  rcases m with m | m | m | m | m | m
  · exact .inl (.inl m)
  · exact .inl (.inr (.inl m))
  · exact .inl (.inr (.inr (.inl m)))
  · exact .inl (.inr (.inr (.inr (.inl m))))
  · exact .inl (.inr (.inr (.inr (.inr (.inl m)))))
  · unfold reAd at m
    rw [List.map_map] at m
    obtain ⟨y, hy, e⟩ := List.mem_map.mp m
    have e : (if y.nm = n then D else y.ad) = a := e
    by_cases z : y.nm = n
    · rw [if_pos z] at e; exact .inr (e ▸ nD)
    · rw [if_neg z] at e; exact .inl (.inr (.inr (.inr (.inr (.inr (List.mem_map.mpr ⟨y, hy, e⟩))))))
theorem VOk.re {v v' : Vs} (ok : VOk v) (h1 : v'.names = v.names) (h2 : v'.gn.length = v.gn.length) (h3 : v'.pn.length = v.pn.length) (h4 : ∀ a ∈ v.names, (v'.ks a).Nodup ∧ ∀ n ∈ v'.ks a, 1 ≤ n ∧ n ≤ (v.pn.length : Int)) : VOk v' := by
  refine ⟨h1 ▸ ok.nn, by rw [h2, h3]; exact ok.lg, fun a m n hn => ?_, fun a m => (h4 a (h1 ▸ m)).1, ?_, by rw [h3]; exact ok.sz.2⟩
  · rw [h3]; exact (h4 a (h1 ▸ m)).2 n hn
  · have := congrArg List.length h1
    unfold Vs.names at this
    rw [List.length_map, List.length_map] at this
    rw [this]; exact ok.sz.1
theorem shr_ok {v : Vs} (ok : VOk v) {n : Str} (D : Addr) : VOk { v with hs := reAd v.hs n D, ks := setF v.ks n (shrK v n) } := by
  refine ok.re (reAd_nm _ _ _) rfl rfl fun a m => ?_
  show (setF v.ks n (shrK v n) a).Nodup ∧ ∀ x ∈ setF v.ks n (shrK v n) a, _
  by_cases z : a = n
  · subst z
    rw [setF_at]
    exact ⟨(ok.kn a m).filter _, fun x hx => ok.kr a m x (List.mem_filter.mp hx).1⟩
  · rw [setF_ne z]
    exact ⟨ok.kn a m, ok.kr a m⟩
def sp_Vault_up (C CE : Addr) (K : PySem.W.Frag) : Sp := sp2X fun a b H Q E => ∃ (j : Addr) (v : Vs) (n : Str), a = .ref j ∧ b = .str n ∧ VAt C H j v ∧ VOk v ∧ (n ∉ v.names → Raised sNam CE H (.str n) E) ∧
  (n ∈ v.names → ∀ v' H', Stp C H H' j v v' → VOk v' → v'.names = v.names → v'.up = setF v.up n true → v'.ks = setF v.ks n (shrK v n) → v'.pn = v.pn → v'.gn = v.gn → v'.P = v.P → Q .non H')
theorem ok_Vault_up (T : Txt K mg) (TE : Errs P K mg) : FnOk P w K mg base (L2N.CX P w) 3 T.f_Vault_up T.d_Vault_up ["self", "name"] (sp_Vault_up T.C_Vault TE.C_NoHolder K) := by
  refine T.F_Vault_up.okN sc_Vault_up len2X (fun cdv A outer s H vs Q E hr h => ?_)
  have nd := sc_Vault_up.nd
  have hu := hu_of hr
  obtain ⟨_, _, rfl, j, v, n, rfl, rfl, hv, ok, kx, k⟩ := h
  refine ⟨_,
      (pss_cons (ps_expr (pe_methT (pv 0) T.c_Vault T.m_Vault_known (ok_Vault_known T TE) (hr.mono (by decide)) T.k_Vault_known (fun σ => L2N.passAt (L2N.takes_of rfl rfl rfl rfl) σ) (pa_cons (pv 1) pa_nil))) 
      (pss_cons (ps_dput hu (pe_fld (pv 0) rfl) (pv 1) pe_bl rfl) 
      (pss_one (ps_expr (pe_meth (pv 0) T.c_Vault T.m_Vault_shred (ok_Vault_shred T) (hr.mono (by decide)) T.k_Vault_shred .nil pass0 (pa_cons (pv 1) pa_nil)))))), ?_⟩
  change (_ : TS) _ [some _, some _] _
  try dsimp only [cxOf, Cx.nox, Cx.wish]
  obtain ⟨dx, h1⟩ := hv.ob
  walk_at "go"
  refine w_meth h1 no_Vault_known ?_
  walk_at "go"
  refine w_known hv kx fun hn => ?_
  have k := k hn
  have hu := hv.hu
  walk_at "go"
  refine w_dputS hu (szl (by rw [List.length_map]; have := ok.sz.1; omega)) fun H1 e1 g1 => ?_
  rw [putU hn] at g1
  have v1 := hv.setU e1 g1
  obtain ⟨dx1, h11⟩ := v1.ob
  have ok1 : VOk { v with up := setF v.up n true } := ⟨ok.nn, ok.lg, ok.kr, ok.kn, ok.sz⟩
  walk_at "go"
  refine w_meth h11 no_Vault_shred ?_
  walk_at "go"
  refine w_shred v1 ok1 hn fun D H2 e2 nD v2 => ?_
  walk_at "go"
  have e01 : Ext (v.F j) H H1 := e1.mono fun a m => by rw [List.mem_singleton.mp m]; unfold Vs.F; simp
  exact k _ H2 ⟨e01.trans e2, v2, F_reAd rfl rfl rfl rfl rfl (e01.free nD)⟩ (shr_ok ok1 D) (reAd_nm _ _ _) rfl rfl rfl rfl rfl
/-! a person is forgotten -/
def fgG (v : Vs) (pe : Int) : List Bool := List.zipWith (fun p g => if p = pe then true else g) v.pn v.gn
theorem fgG_at {v : Vs} (ok : VOk v) (pe : Int) (k : Nat) : (fgG v pe)[k]? = if v.pn[k]? = some pe then some true else v.gn[k]? := by
  unfold fgG
  rw [List.getElem?_zipWith]
  by_cases h : k < v.pn.length
  · have h2 : k < v.gn.length := by rw [ok.lg]; exact h
    rw [List.getElem?_eq_getElem h, List.getElem?_eq_getElem h2]
    by_cases z : v.pn[k] = pe
    · simp [z]
    · simp [z]
  · have h2 : ¬ k < v.gn.length := by rw [ok.lg]; exact h
    rw [List.getElem?_eq_none (by omega), List.getElem?_eq_none (by omega)]
    simp
theorem fgG_len {v : Vs} (ok : VOk v) (pe : Int) : (fgG v pe).length = v.gn.length := by unfold fgG; rw [List.length_zipWith, ok.lg]; exact Nat.min_self _
def sp_Vault_forget (C : Addr) (K : PySem.W.Frag) : Sp := sp2 fun a b H Q => ∃ (j : Addr) (v : Vs) (pe : Int), a = .ref j ∧ b = .int pe ∧ VAt C H j v ∧ VOk v ∧
  ∀ v' H' r (ys : List Str), Stp C H H' j v v' → VOk v' → v'.names = v.names → v'.up = v.up → (∀ n ∈ v.names, v'.ks n = if v.up n = true then shrK { v with gn := fgG v pe } n else v.ks n) → v'.pn = v.pn → v'.gn = fgG v pe → v'.P = v.P →
    H r = none → H' r = some (.lst (ys.map V.str)) → ys.Pairwise StrLt → (∀ n, n ∈ ys ↔ n ∈ v'.names ∧ trN v' n pe = true) → Q (.ref r) H'
theorem ok_Vault_forget (T : Txt K mg) : FnOk P w K mg base CX0 3 T.f_Vault_forget T.d_Vault_forget ["self", "person"] (sp_Vault_forget T.C_Vault K) := by
  refine T.F_Vault_forget.ok sc_Vault_forget len2 (fun cdv A outer s H vs Q E hr h => ?_)
  have nd := sc_Vault_forget.nd
  have hu := hu_of hr
  obtain ⟨_, _, rfl, j, v, pe, rfl, rfl, hv, ok, k⟩ := h
  refine ⟨_,
      (pss_cons (ps_for PassesOwn.never rfl (pi_range1 (by rfl) T.b_range (pa_cons (pe_callB zc_len (by rfl) T.b_len (by decide +kernel) (pa_cons (pe_fld (pv 0) rfl) pa_nil)) pa_nil)) (pg_name (i := 2) nd rfl (Or.inl rfl)) 
        (pss_one (ps_if (pt_cmpR op_eq (pe_ix ix_list (pe_fld (pv 0) rfl) (pv 2) (fun _ _ => rfl)) (pv 1) (nomark _)) 
          (pss_one (ps_asg pe_bl (pg_sub (pe_fld (pv 0) rfl) (pv 2) zset_list))) pss_nil))) 
      (pss_cons (ps_for PassesOwn.never rfl (pi_list (pe_meth0 (pv 0) T.c_Vault T.m_Vault_up_names (ok_Vault_up_names T) (hr.mono (by decide)) T.k_Vault_up_names .nil pass0)) (pg_name (i := 3) nd rfl (Or.inl rfl)) 
        (pss_one (ps_expr (pe_meth (pv 0) T.c_Vault T.m_Vault_shred (ok_Vault_shred T) (hr.mono (by decide)) T.k_Vault_shred .nil pass0 (pa_cons (pv 3) pa_nil))))) 
      (pss_one (ps_ret (pe_meth (pv 0) T.c_Vault T.m_Vault_traces (ok_Vault_traces T) (hr.mono (by decide)) T.k_Vault_traces .nil pass0 (pa_cons (pv 1) pa_nil)))))), ?_⟩
  change (_ : TS) _ [some _, some _, none, none] _
  try dsimp only [cxOf, Cx.nox, Cx.wish]
  obtain ⟨dx, h1⟩ := hv.ob
  have hq2 := hv.hq
  have sp := hv.sep
  have l1 := ok.sz.2
  walk_at "go"
  refine ⟨_, rfl, by omega, by rw [List.length_map]; omega, ?_⟩
  rw [Int.toNat_natCast, List.length_map]
  refine z_for_range (lo := 0) (fun i σ' H' => ∃ g : List Bool, VAt T.C_Vault H' j { v with gn := g } ∧ Ext [v.g] H H' ∧ g.length = v.gn.length ∧ (∀ k : Nat, g[k]? = if k < i ∧ v.pn[k]? = some pe then some true else v.gn[k]?) ∧ ∃ u, σ' = [some (.ref j), some (.int pe), u, none]) ⟨v.gn, hv, Ext.refl, rfl, fun k => by rw [if_neg (by omega)], _, rfl⟩ ?_ ?_
  · rintro N i σ' H1 hi ⟨g, v1, e1, gl, ga, u, rfl⟩ hN
    obtain ⟨dx1, h11⟩ := v1.ob
    have hq1 := v1.hq
    have hg1 := v1.hg
    have ix : atI (v.pn.map V.int) (0 + (i : Int)) = some (.int (v.pn[i])) := at_nat0 (by rw [List.getElem?_map, List.getElem?_eq_getElem hi]; rfl)
    walk_at "go"; walk_at "if"
    refine w_d (fun c => ?_) fun c => ?_
    · walk_at "go"
      have ex : ixN (g.map V.bl).length (0 + (i : Int)) = some i := by
        rw [List.length_map]
        unfold ixN
        rw [if_pos (by omega), Int.zero_add, if_pos (by rw [gl, ok.lg]; omega)]
        rfl
      refine ⟨_, _, _, i, rfl, rfl, hg1, ex, w_chg hg1 (fun z => z) fun H2 e2 g2 => ?_⟩
      have ee : (g.map V.bl).set i (V.bl true) = (g.set i true).map V.bl := List.map_set.symm
      rw [ee] at g2
      refine hN _ _ ⟨g.set i true, v1.setG e2 g2, e1.trans e2, by rw [List.length_set]; exact gl, fun k => ?_, _, rfl⟩
      rw [List.getElem?_set]
      by_cases z : i = k
      · subst z
        rw [if_pos rfl, if_pos (by rw [gl, ok.lg]; exact hi), if_pos ⟨by omega, by rw [List.getElem?_eq_getElem hi, c]⟩]
      · rw [if_neg z, ga]
        by_cases y : k < i ∧ v.pn[k]? = some pe
        · rw [if_pos y, if_pos ⟨by omega, y.2⟩]
        · rw [if_neg y, if_neg fun w => y ⟨by omega, w.2⟩]
    · walk_at "go"
      refine hN _ _ ⟨g, v1, e1, gl, fun k => ?_, _, rfl⟩
      rw [ga]
      by_cases y : k < i ∧ v.pn[k]? = some pe
      · rw [if_pos y, if_pos ⟨by omega, y.2⟩]
      · rw [if_neg y, if_neg fun w => y ⟨?_, w.2⟩]
        by_cases z : k = i
        · subst z
          have := w.2
          rw [List.getElem?_eq_getElem hi] at this
          exact absurd (Option.some.inj this) c
        · omega
  · rintro σ' H1 ⟨g, v1, e1, gl, ga, u, rfl⟩
    have eg : g = fgG v pe := List.ext_getElem? fun k => by
      rw [ga, fgG_at ok]
      by_cases z : v.pn[k]? = some pe
      · have hk : k < v.pn.length := by
          rcases Nat.lt_or_ge k v.pn.length with y | y
          · exact y
          · rw [List.getElem?_eq_none y] at z; cases z
        rw [if_pos z, if_pos ⟨hk, z⟩]
      · rw [if_neg z, if_neg fun w => z w.2]
    subst eg
    have ok1 : VOk { v with gn := fgG v pe } := ⟨ok.nn, (fgG_len ok pe).trans ok.lg, ok.kr, ok.kn, ok.sz⟩
    have s1 : Stp T.C_Vault H H1 j v { v with gn := fgG v pe } := ⟨e1.mono fun a m => by rw [List.mem_singleton.mp m]; unfold Vs.F; simp, v1, fun a m => .inl m⟩
    obtain ⟨dx1, h11⟩ := v1.ob
    walk_at "go"
    refine w_meth h11 no_Vault_up_names ?_
    walk_at "go"
    refine w_upn v1 ok1 fun L H2 ys e2 nL hL uy => ?_
    have nLF : L ∉ ({ v with gn := fgG v pe } : Vs).F j := v1.out nL
    refine ⟨_, rfl, ⟨_, sql hL⟩, ?_⟩
    refine z_for_list (xs := ys.map V.str) (fun i σ' H' => ∃ v', Stp T.C_Vault H H' j v v' ∧ Stp T.C_Vault H2 H' j { v with gn := fgG v pe } v' ∧ VOk v' ∧ v'.names = v.names ∧ v'.up = v.up ∧ v'.pn = v.pn ∧ v'.gn = fgG v pe ∧ v'.P = v.P ∧ (∀ n, v'.ks n = if n ∈ ys.take i then shrK { v with gn := fgG v pe } n else v.ks n) ∧ ∃ u w, σ' = [some (.ref j), some (.int pe), u, w])
      ⟨_, s1.ext0 e2, Stp.refl (v1.ext0 e2), ok1, rfl, rfl, rfl, rfl, rfl, fun n => by rw [List.take_zero, if_neg List.not_mem_nil], _, _, rfl⟩ (fun i σ' H' _ ⟨v', _, s2, _⟩ => sql (s2.ext.keep _ _ hL nLF)) ?_ ?_
    · rintro N i x σ' H3 hx ⟨v', s3, s2, ok', n1, n2, n3, n4, n5, n6, u, w', rfl⟩ hN
      rw [List.getElem?_map, Option.map_eq_some_iff] at hx
      obtain ⟨n, hn, rfl⟩ := hx
      have hm : n ∈ v'.names := n1 ▸ ((uy.2 n).mp (List.mem_of_getElem? hn)).1
      obtain ⟨dx3, h13⟩ := s3.at'.ob
      have nn : n ∉ ys.take i := fun z => by
        have nd := uy.1
        rw [← List.take_append_drop (i + 1) ys, List.take_add_one, hn] at nd
        exact (List.nodup_append.mp (List.nodup_append.mp nd).1).2.2 n z n (by simp) rfl
      walk_at "go"
      refine w_meth h13 no_Vault_shred ?_
      walk_at "go"
      refine w_shred s3.at' ok' hm fun D H4 e4 nD v4 => ?_
      have st : Stp T.C_Vault H3 H4 j v' _ := ⟨e4, v4, F_reAd rfl rfl rfl rfl rfl nD⟩
      walk_at "go"
      refine hN _ _ ⟨_, s3.trans st, s2.trans st, shr_ok ok' D, (reAd_nm _ _ _).trans n1, n2, n3, n4, n5, fun m => ?_, _, _, rfl⟩
      show setF v'.ks n (shrK v' n) m = _
      have sh : shrK v' n = shrK { v with gn := fgG v pe } n := by
        unfold shrK
        rw [n6, if_neg nn]
        refine congrArg (fun f => List.filter f (v.ks n)) (funext fun y => ?_)
        unfold gnA
        rw [n4]
      by_cases z : m = n
      · subst z
        rw [setF_at, sh, if_pos (by rw [List.take_add_one, hn]; simp)]
      · rw [setF_ne z, n6]
        have : m ∈ ys.take (i + 1) ↔ m ∈ ys.take i := by
          rw [List.take_add_one, hn, List.mem_append]
          simp [z]
        by_cases y : m ∈ ys.take i
        · rw [if_pos y, if_pos (this.mpr y)]
        · rw [if_neg y, if_neg fun w => y (this.mp w)]
    · rintro σ' H3 ⟨v', s3, s2, ok', n1, n2, n3, n4, n5, n6, u, w', rfl⟩
      rw [List.length_map, List.take_length] at n6
      obtain ⟨dx3, h13⟩ := s3.at'.ob
      walk_at "go"
      refine w_meth h13 no_Vault_traces ?_
      walk_at "go"
      refine w_traces s3.at' ok' fun r H4 zs e4 nr hr sr mr lr => ?_
      refine k v' H4 r zs (s3.ext0 e4) ok' n1 n2 (fun n m => ?_) n3 n4 n5 (s3.ext.free nr) hr sr mr
      rw [n6]
      by_cases y : n ∈ ys
      · rw [if_pos y, if_pos ((uy.2 n).mp y).2]
      · rw [if_neg y, if_neg fun w => y ((uy.2 n).mpr ⟨m, w⟩)]
theorem w_forget {C : Addr} {H : Hp} {j : Addr} {v : Vs} {pe : Int} {Q : VK} {E : XK} (hv : VAt C H j v) (ok : VOk v)
    (k : ∀ v' H' r (ys : List Str), Stp C H H' j v v' → VOk v' → v'.names = v.names → v'.up = v.up → (∀ n ∈ v.names, v'.ks n = if v.up n = true then shrK { v with gn := fgG v pe } n else v.ks n) → v'.pn = v.pn → v'.gn = fgG v pe → v'.P = v.P →
    H r = none → H' r = some (.lst (ys.map V.str)) → ys.Pairwise StrLt → (∀ n, n ∈ ys ↔ n ∈ v'.names ∧ trN v' n pe = true) → Q (.ref r) H') : sp_Vault_forget C K ([.ref j, .int pe] ++ []) H Q E := ⟨_, _, rfl, j, v, pe, rfl, rfl, hv, ok, k⟩
/-! every holder that is up gets the pads of the others -/
def HU (v : Vs) (m : Int) : Prop := ∃ s ∈ v.names, v.up s = true ∧ m ∈ v.ks s
structure HI (v : Vs) (K : Str → List Int) : Prop where
  nd : ∀ n ∈ v.names, (K n).Nodup
  lo : ∀ n ∈ v.names, ∀ m ∈ v.ks n, m ∈ K n
  hi : ∀ n ∈ v.names, ∀ m ∈ K n, m ∈ v.ks n ∨ v.up n = true ∧ HU v m
theorem HI.step {v : Vs} {K : Str → List Int} (h : HI v K) {n : Str} {m : Int} (u : v.up n = true) (hu : HU v m) : HI v (setF K n (addN (K n) m)) := by
  refine ⟨fun a ha => ?_, fun a ha x hx => ?_, fun a ha x hx => ?_⟩
  · by_cases z : a = n
    · subst z; rw [setF_at]; exact nodup_addN (h.nd a ha) m
    · rw [setF_ne z]; exact h.nd a ha
  · by_cases z : a = n
    · subst z; rw [setF_at]; exact mem_addN.mpr (.inr (h.lo a ha x hx))
    · rw [setF_ne z]; exact h.lo a ha x hx
  · by_cases z : a = n
    · subst z
      rw [setF_at] at hx
      rcases mem_addN.mp hx with e | hx
      · rw [e]; exact .inr ⟨u, hu⟩
      · exact h.hi a ha x hx
    · rw [setF_ne z] at hx; exact h.hi a ha x hx
theorem grow {K : Str → List Int} {n a : Str} {m x : Int} (h : x ∈ K a) : x ∈ setF K n (addN (K n) m) a := by
  by_cases z : a = n
  · subst z; rw [setF_at]; exact mem_addN.mpr (.inr h)
  · rw [setF_ne z]; exact h
theorem HI.ok {v : Vs} {K : Str → List Int} (h : HI v K) (ok : VOk v) : VOk { v with ks := K } := by
  refine ok.re rfl rfl rfl fun a ha => ⟨h.nd a ha, fun x hx => ?_⟩
  rcases h.hi a ha x hx with m | ⟨_, s, hs, _, m⟩
  · exact ok.kr a ha x m
  · exact ok.kr s hs x m
def sp_Vault_heal (C : Addr) (K : PySem.W.Frag) : Sp := sp1 fun a H Q => ∃ (j : Addr) (v : Vs), a = .ref j ∧ VAt C H j v ∧ VOk v ∧ v.pn.length < 64 ∧
  ∀ (Kn : Str → List Int) H', Ext (v.F j) H H' → VAt C H' j { v with ks := Kn } → HI v Kn → (∀ n ∈ v.names, v.up n = true → ∀ m, HU v m → m ∈ Kn n) → Q .non H'
theorem ok_Vault_heal (T : Txt K mg) : FnOk P w K mg base CX0 2 T.f_Vault_heal T.d_Vault_heal ["self"] (sp_Vault_heal T.C_Vault K) := by
  refine T.F_Vault_heal.ok sc_Vault_heal len1 (fun cdv A outer s H vs Q E hr h => ?_)
  have nd := sc_Vault_heal.nd
  have hu := hu_of hr
  obtain ⟨_, rfl, j, v, rfl, hv, ok, l64, k⟩ := h
  refine ⟨_,
      (pss_cons (ps_set (i := 1) nd rfl (Or.inl rfl) (pe_meth0 (pv 0) T.c_Vault T.m_Vault_up_names (ok_Vault_up_names T) (hr.mono (by decide)) T.k_Vault_up_names .nil pass0)) 
      (pss_one (ps_for PassesOwn.never rfl (pi_list (pv 1)) (pg_name (i := 2) nd rfl (Or.inl rfl)) 
        (pss_one (ps_for PassesOwn.never rfl (pi_list (pe_callB (call_sortedDI rfl) (by rfl) T.b_sorted (by decide +kernel) (pa_cons (pe_dget hu (pe_fld (pv 0) rfl) (pv 2) (fun _ _ => rfl)) pa_nil))) (pg_name (i := 3) nd rfl (Or.inl rfl)) 
          (pss_one (ps_for PassesOwn.never rfl (pi_list (pv 1)) (pg_name (i := 4) nd rfl (Or.inl rfl)) 
            (pss_one (ps_dput hu (pe_dget hu (pe_fld (pv 0) rfl) (pv 4) (fun _ _ => rfl)) (pv 3) (pe_dget hu (pe_dget hu (pe_fld (pv 0) rfl) (pv 2) (fun _ _ => rfl)) (pv 3) (fun _ _ => rfl)) rfl))))))))), ?_⟩
  change (_ : TS) _ [some _, none, none, none, none] _
  try dsimp only [cxOf, Cx.nox, Cx.wish]
  obtain ⟨dx, h1⟩ := hv.ob
  have no_ : ∀ {x : Addr}, x ∉ ([] : List Addr) := List.not_mem_nil
  walk_at "go"
  refine w_meth h1 no_Vault_up_names ?_
  walk_at "go"
  refine w_upn hv ok fun L H1 ys e1 nL hL uy => ?_
  have nLF : L ∉ v.F j := hv.out nL
  have v1 := hv.ext0 e1
  walk_at "go"
  refine ⟨_, rfl, ⟨_, sql hL⟩, ?_⟩
  refine z_for_list (xs := ys.map V.str) (fun i σ' H' => ∃ Kn, VAt T.C_Vault H' j { v with ks := Kn } ∧ Ext (v.F j) H1 H' ∧ HI v Kn ∧ (∀ s ∈ ys.take i, ∀ n ∈ ys, ∀ m ∈ v.ks s, m ∈ Kn n) ∧ ∃ a b c, σ' = [some (.ref j), some (.ref L), a, b, c])
    ⟨v.ks, v1, Ext.refl, ⟨ok.kn, fun _ _ _ h => h, fun _ _ _ h => .inl h⟩, (fun s m => by rw [List.take_zero] at m; cases m), _, _, _, rfl⟩ (fun i σ' H' _ ⟨Kn, _, e, _⟩ => sql (e.keep _ _ hL nLF)) ?_ ?_
  · rintro N i x σ' H2 hx ⟨Kn, v2, e2, hi2, pr2, a, b, c, rfl⟩ hN
    rw [List.getElem?_map, Option.map_eq_some_iff] at hx
    obtain ⟨s, hs, rfl⟩ := hx
    have sy := List.mem_of_getElem? hs
    obtain ⟨sm, su⟩ := (uy.2 s).mp sy
    obtain ⟨hS, ehS⟩ := hOf_mem (hs := v.hs) sm
    obtain ⟨hSm, rfl⟩ := hOf_some ehS
    obtain ⟨dx2, h12⟩ := v2.ob
    have hp2 := v2.hp
    have hd2 := v2.hd hS hSm
    walk_at "go"
    refine w_dgP hp2 ehS ?_
    refine ⟨_, _, Kn hS.nm, rfl, .inl hd2, by rw [List.map_map]; rfl, Nat.lt_of_le_of_lt (len_upto ((hi2.ok ok).kn hS.nm sm) ((hi2.ok ok).kr hS.nm sm)) l64, fun zs Z zp zw nZ => ?_⟩
    have vz := v2.ext0 (Ext.new (o := .lst (zs.map V.int)) nZ)
    have hZ : (upd H2 Z (.lst (zs.map V.int))) Z = some (.lst (zs.map V.int)) := upd_same
    have ez : Ext [] H2 (upd H2 Z (.lst (zs.map V.int))) := Ext.new nZ
    have nZF : Z ∉ v.F j := v2.out nZ
    generalize upd H2 Z (.lst (zs.map V.int)) = H3 at vz hZ ez ⊢
    refine ⟨_, rfl, ⟨_, sql hZ⟩, ?_⟩
    have zm : ∀ m ∈ zs, m ∈ Kn hS.nm := fun m hm => zp.mem_iff.mp hm
    have zU : ∀ m ∈ zs, HU v m := fun m hm => (hi2.hi hS.nm sm m (zm m hm)).elim (fun q => ⟨hS.nm, sm, su, q⟩) fun q => q.2
    refine z_for_list (xs := zs.map V.int) (fun i' σ' H' => ∃ Kn', VAt T.C_Vault H' j { v with ks := Kn' } ∧ Ext (v.F j) H3 H' ∧ HI v Kn' ∧ (∀ n, ∀ m ∈ Kn n, m ∈ Kn' n) ∧ (∀ m ∈ zs.take i', ∀ n ∈ ys, m ∈ Kn' n) ∧ ∃ b c, σ' = [some (.ref j), some (.ref L), some (.str hS.nm), b, c])
      ⟨Kn, vz, Ext.refl, hi2, fun _ _ h => h, (fun s m => by rw [List.take_zero] at m; cases m), _, _, rfl⟩ (fun i σ' H' _ ⟨_, _, e, _⟩ => sql (e.keep _ _ hZ nZF)) ?_ ?_
    · rintro N' i' x σ' H4 hx ⟨Kn4, v4, e4, hi4, mo4, pr4, b4, c4, rfl⟩ hN'
      rw [List.getElem?_map, Option.map_eq_some_iff] at hx
      obtain ⟨m, hm, rfl⟩ := hx
      have mz := List.mem_of_getElem? hm
      have hL4 := (e2.trans (ez.up.trans e4)).keep _ _ hL nLF
      walk_at "go"
      refine ⟨_, rfl, ⟨_, sql hL4⟩, ?_⟩
      refine z_for_list (xs := ys.map V.str) (fun l σ' H' => ∃ Kn', VAt T.C_Vault H' j { v with ks := Kn' } ∧ Ext (v.F j) H4 H' ∧ HI v Kn' ∧ (∀ n, ∀ m ∈ Kn4 n, m ∈ Kn' n) ∧ (∀ n ∈ ys.take l, m ∈ Kn' n) ∧ ∃ c, σ' = [some (.ref j), some (.ref L), some (.str hS.nm), some (.int m), c])
        ⟨Kn4, v4, Ext.refl, hi4, fun _ _ h => h, (fun s m => by rw [List.take_zero] at m; cases m), _, rfl⟩ (fun i σ' H' _ ⟨_, _, e, _⟩ => sql (e.keep _ _ hL4 nLF)) ?_ ?_
      · rintro N5 l x σ' H5 hx ⟨Kn5, v5, e5, hi5, mo5, pr5, c5, rfl⟩ hN5
        rw [List.getElem?_map, Option.map_eq_some_iff] at hx
        obtain ⟨n, hn, rfl⟩ := hx
        obtain ⟨nm, nu⟩ := (uy.2 n).mp (List.mem_of_getElem? hn)
        obtain ⟨hT, ehT⟩ := hOf_mem (hs := v.hs) nm
        obtain ⟨hTm, rfl⟩ := hOf_some ehT
        obtain ⟨dx5, h15⟩ := v5.ob
        have hp5 := v5.hp
        have hs5 := v5.hd hS hSm
        have ht5 := v5.hd hT hTm
        have ok5 := hi5.ok ok
        walk_at "go"
        refine w_dgP hp5 ehS ?_
        walk_at "go"
        refine w_dgN (.inl hs5) (mo5 _ _ (mo4 _ _ (zm m mz))) ?_
        walk_at "go"
        refine w_dgP hp5 ehT ?_
        walk_at "go"
        refine w_dpI ht5 (szl (by
          rw [List.length_map]
          have := len_upto (ok5.kn hT.nm nm) (ok5.kr hT.nm nm)
          have l64' : ({ v with ks := Kn5 } : Vs).pn.length < 64 := l64
          omega)) fun H6 e6 g6 => ?_
        rw [putI] at g6
        refine hN5 _ _ ⟨_, v5.setK ok5 hTm e6 g6, e5.trans (e6.mono fun a m => by rw [List.mem_singleton.mp m]; unfold Vs.F Vs.ads; simp; exact Or.inr (Or.inr (Or.inr (Or.inr (Or.inr ⟨hT, hTm, rfl⟩))))), hi5.step nu (zU m mz), fun n x hx => grow (mo5 n x hx), fun n hn' => ?_, _, rfl⟩
        rw [List.take_add_one, hn, List.mem_append] at hn'
        rcases hn' with q | q
        · exact grow (pr5 n q)
        · have : n = hT.nm := by simpa using q
          subst this
          show m ∈ setF Kn5 hT.nm _ hT.nm
          rw [setF_at]
          exact mem_addN.mpr (.inl rfl)
      · rintro σ' H5 ⟨Kn5, v5, e5, hi5, mo5, pr5, c5, rfl⟩
        rw [List.length_map, List.take_length] at pr5
        refine hN' _ _ ⟨Kn5, v5, e4.trans e5, hi5, fun n x hx => mo5 n x (mo4 n x hx), fun x hx n hn => ?_, _, _, rfl⟩
        rw [List.take_add_one, hm, List.mem_append] at hx
        rcases hx with q | q
        · exact mo5 n x (pr4 x q n hn)
        · have : x = m := by simpa using q
          subst this
          exact pr5 n hn
    · rintro σ' H4 ⟨Kn4, v4, e4, hi4, mo4, pr4, b4, c4, rfl⟩
      rw [List.length_map, List.take_length] at pr4
      refine hN _ _ ⟨Kn4, v4, e2.trans (ez.up.trans e4), hi4, fun x hx n hn m hm => ?_, _, _, _, rfl⟩
      rw [List.take_add_one, hs, List.mem_append] at hx
      rcases hx with q | q
      · exact mo4 n m (pr2 x q n hn m hm)
      · have : x = hS.nm := by simpa using q
        subst this
        exact pr4 m (zp.mem_iff.mpr (hi2.lo _ sm m hm)) n hn
  · rintro σ' H2 ⟨Kn, v2, e2, hi2, pr2, a, b, c, rfl⟩
    rw [List.length_map, List.take_length] at pr2
    walk_at "go"
    exact k Kn H2 (e1.up.trans e2) v2 hi2 fun n hn un m ⟨s, hs, us, hm⟩ => pr2 s ((uy.2 s).mpr ⟨hs, us⟩) n ((uy.2 n).mpr ⟨hn, un⟩) m hm

/-! a copy of a holder -/
theorem hOf_no {hs : List Hl} {n : Str} (h : n ∉ hs.map (·.nm)) : hOf hs n = none := hOf_none.mpr h
def sp_Vault_store (C CE CT : Addr) (K : PySem.W.Frag) : Sp := sp3X fun a b c H Q E => ∃ (j : Addr) (v : Vs) (n m : Str), a = .ref j ∧ b = .str n ∧ c = .str m ∧ VAt C H j v ∧ VOk v ∧ (n ∉ v.names → Raised sNam CE H (.str n) E) ∧
  (n ∈ v.names → m ∈ v.names → Raised sNam CT H (.str m) E) ∧
  (n ∈ v.names → m ∉ v.names → ∀ v' H', Stp C H H' j v v' → v'.names = v.names ++ [m] → v'.up = setF v.up m false → v'.ks = setF v.ks m (v.ks n) → v'.pn = v.pn → v'.gn = v.gn → v'.P = v.P → Q .non H')
theorem ok_Vault_store (T : Txt K mg) (TE : Errs P K mg) : FnOk P w K mg base (L2N.CX P w) 3 T.f_Vault_store T.d_Vault_store ["self", "name", "new"] (sp_Vault_store T.C_Vault TE.C_NoHolder TE.C_NameTaken K) := by
  refine T.F_Vault_store.okN sc_Vault_store len3X (fun cdv A outer s H vs Q E hr h => ?_)
  have nd := sc_Vault_store.nd
  have hu := hu_of hr
  obtain ⟨_, _, _, rfl, j, v, n, m, rfl, rfl, rfl, hv, ok, kx, ky, k⟩ := h
  refine ⟨_,
      (pss_cons (ps_expr (pe_methT (pv 0) T.c_Vault T.m_Vault_known (ok_Vault_known T TE) (hr.mono (by decide)) T.k_Vault_known (fun σ => L2N.passAt (L2N.takes_of rfl rfl rfl rfl) σ) (pa_cons (pv 1) pa_nil))) 
      (pss_cons (ps_if (pt_cmp (pc_din hu (pv 2) (pe_fld (pv 0) rfl))) 
        (pss_one (L2N.ps_raise rfl (L2N.takes_of rfl rfl rfl rfl) (pmkN_NameTaken TE.E_NameTaken hr (pa_cons (pv 2) pa_nil)))) pss_nil) 
      (pss_cons (ps_dput hu (pe_fld (pv 0) rfl) (pv 2) (pe_callTy zc_dictD (by rfl) T.b_dict (by decide +kernel) (pa_cons (pe_dget hu (pe_fld (pv 0) rfl) (pv 1) (fun _ _ => rfl)) pa_nil)) rfl) 
      (pss_one (ps_dput hu (pe_fld (pv 0) rfl) (pv 2) pe_bl rfl))))), ?_⟩
  change (_ : TS) _ [some _, some _, some _] _
  try dsimp only [cxOf, Cx.nox, Cx.wish]
  obtain ⟨dx, h1⟩ := hv.ob
  have no_ : ∀ {x : Addr}, x ∉ ([] : List Addr) := List.not_mem_nil
  have sp := hv.sep
  have hp := hv.hp
  have hu := hv.hu
  walk_at "go"
  refine w_meth h1 no_Vault_known ?_
  walk_at "go"
  refine w_known hv kx fun hn => ?_
  have k := k hn
  obtain ⟨h, eh⟩ := hOf_mem (hs := v.hs) hn
  obtain ⟨hm, rfl⟩ := hOf_some eh
  refine w_cut (fun σ' H' => H = H' ∧ m ∉ v.names ∧ σ' = [some (.ref j), some (.str h.nm), some (.str m)]) ?_ fun nx hN => ?_
  · rintro _ _ ⟨rfl, nm, rfl⟩
    have k := k nm
    walk_at "go"
    refine w_dgP hp eh ?_
    refine ⟨_, _, rfl, .inl (hv.hd h hm), w_alc fun D H1 e1 nD hD => ?_⟩
    have nDF := hv.out nD
    have v1 := hv.ext0 e1
    have h11 := e1.keep _ _ h1 no_
    have hp1 := e1.keep _ _ hp no_
    walk_at "go"
    refine w_dputS hp1 (szl (by rw [List.length_map]; have := ok.sz.1; omega)) fun H2 e2 g2 => ?_
    rw [putK_new _ (by rw [valN]; have := hOf_no nm; unfold hOf at this; rw [this]; rfl)] at g2
    have h12 := e2.keep _ _ h11 (nm1 sp.jp)
    have hu2 := e2.keep _ _ (e1.keep _ _ hu no_) (nm1 sp.pu.symm)
    walk_at "go"
    refine w_dputS hu2 (szl (by rw [List.length_map]; have := ok.sz.1; omega)) fun H3 e3 g3 => ?_
    rw [putK_new _ (by rw [valN]; have := hOf_no nm; unfold hOf at this; rw [this]; rfl)] at g3
    walk_at "go"
    let v' : Vs := { v with hs := v.hs ++ [⟨m, D⟩], up := setF v.up m false, ks := setF v.ks m (v.ks h.nm) }
    unfold Vs.F at nDF
    simp only [List.mem_cons, not_or] at nDF
    obtain ⟨a1, a2, a3, a4, a5, a6⟩ := nDF
    have mm : ∀ {a : Addr}, a ≠ D → (∀ h ∈ v.hs, h.ad ≠ a) → ∀ h ∈ v'.hs, h.ad ≠ a := fun na w x hx => by
      rcases List.mem_append.mp hx with hx | hx
      · exact w x hx
      · rw [List.mem_singleton.mp hx]; exact na.symm
    have sv : Sepd j v' := ⟨sp.jp, sp.ju, sp.jq, sp.jg, sp.pu, sp.pq, sp.pg, sp.uq, sp.ug, sp.qg, mm (Ne.symm a1) sp.hj, mm (Ne.symm a2) sp.hp, mm (Ne.symm a3) sp.hu, mm (Ne.symm a4) sp.hq, mm (Ne.symm a5) sp.hg, by
      show ((v.hs ++ [(⟨m, D⟩ : Hl)]).map (·.ad)).Nodup
      rw [List.map_append]
      exact List.nodup_append.mpr ⟨sp.hh, List.pairwise_singleton _ _, fun x hx y hy e => a6 (by rw [List.map_singleton, List.mem_singleton] at hy; have hy : y = D := hy; rw [← hy, ← e]; exact hx)⟩⟩
    have nne : ∀ x ∈ v.hs, x.nm ≠ m := fun x hx e => nm (e ▸ List.mem_map.mpr ⟨x, hx, rfl⟩)
    have e13 : ∀ {a : Addr} {o : HO}, H1 a = some o → a ≠ v.p → a ≠ v.u → H3 a = some o := fun h n1 n2 => e3.keep _ _ (e2.keep _ _ h (nm1 n1)) (nm1 n2)
    have vA : VAt T.C_Vault H3 j v' := by
      refine ⟨⟨dx, e13 h11 sp.jp sp.ju⟩, ?_, ?_, e13 v1.hq sp.pq.symm sp.uq.symm, e13 v1.hg sp.pg.symm sp.ug.symm, fun x hx => ?_, sv.nd⟩
      · rw [e3.keep _ _ g2 (nm1 sp.pu)]
        show some (HO.dK _) = some (HO.dK _)
        rw [show v'.hs = v.hs ++ [(⟨m, D⟩ : Hl)] from rfl, List.map_append]; rfl
      · rw [show H3 v'.u = H3 v.u from rfl, g3]
        show some (HO.dK _) = some (HO.dK _)
        rw [show v'.hs = v.hs ++ [(⟨m, D⟩ : Hl)] from rfl, List.map_append]
        refine congrArg (fun l => some (HO.dK l)) ?_
        refine congr (congrArg _ (List.map_congr_left fun x hx => ?_)) ?_
        · show _ = ((Sum.inr x.nm : Key), V.bl (setF v.up m false x.nm))
          rw [setF_ne (nne x hx)]
        · show _ = [((Sum.inr m : Key), V.bl (setF v.up m false m))]
          rw [setF_at]
      · rcases List.mem_append.mp hx with hx | hx
        · show H3 x.ad = some (dN v.P (setF v.ks m (v.ks h.nm) x.nm))
          rw [setF_ne (nne x hx)]
          exact e13 (v1.hd x hx) (sp.hp x hx) (sp.hu x hx)
        · rw [List.mem_singleton.mp hx]
          show H3 D = some (dN v.P (setF v.ks m (v.ks h.nm) m))
          rw [setF_at]
          exact e13 hD a2 a3
    have eF : Ext (v.F j) H H3 := (e1.up.trans (e2.mono fun a m => by rw [List.mem_singleton.mp m]; unfold Vs.F; simp)).trans (e3.mono fun a m => by rw [List.mem_singleton.mp m]; unfold Vs.F; simp)
    refine k v' H3 ⟨eF, vA, fun a ha => ?_⟩ (by show (v.hs ++ [(⟨m, D⟩ : Hl)]).map (·.nm) = _; rw [List.map_append]; rfl) rfl rfl rfl rfl rfl
    unfold Vs.F Vs.ads at ha ⊢
    rw [show v'.hs = v.hs ++ [(⟨m, D⟩ : Hl)] from rfl, List.map_append] at ha
    simp only [List.mem_cons, List.mem_append] at ha ⊢
    rcases ha with z | z | z | z | z | z | z
    · exact .inl (.inl z)
    · exact .inl (.inr (.inl z))
    · exact .inl (.inr (.inr (.inl z)))
    · exact .inl (.inr (.inr (.inr (.inl z))))
    · exact .inl (.inr (.inr (.inr (.inr (.inl z)))))
    · exact .inl (.inr (.inr (.inr (.inr (.inr z)))))
    · have : a = D := by simpa using z
      rw [this]; exact .inr nD
  · walk_at "if"
    refine w_diP hp ?_
    cases e : hOf v.hs m with
    | some h2 =>
      obtain ⟨hm2, em⟩ := hOf_some e
      refine w_bl (w_t rfl ?_)
      walk_at "go"
      refine w_mkNT ?_
      walk_at "go"
      exact ⟨_, rfl, fun dd ndd => ky hn (List.mem_map.mpr ⟨h2, hm2, em⟩) dd _ (Ext.new ndd) upd_same⟩
    | none =>
      refine w_bl (w_f rfl ?_)
      walk_at "go"
      exact hN _ _ ⟨rfl, hOf_none.mp e, rfl⟩
/-! a holder is destroyed -/
def onlyN (v : Vs) (n : Str) (m : Int) : Prop := gnA v m = false ∧ ∀ o ∈ v.names, o ≠ n → m ∉ v.ks o
def sp_Vault_destroy (C CE CL : Addr) (K : PySem.W.Frag) : Sp := sp2X fun a b H Q E => ∃ (j : Addr) (v : Vs) (n : Str), a = .ref j ∧ b = .str n ∧ VAt C H j v ∧ VOk v ∧ (n ∉ v.names → Raised sNam CE H (.str n) E) ∧
  (n ∈ v.names → (∃ m ∈ v.ks n, onlyN v n m) → Raised sNam CL H (.str n) E) ∧
  (n ∈ v.names → (∀ m ∈ v.ks n, ¬ onlyN v n m) → ∀ v' H', Stp C H H' j v v' → v'.names = v.names.filter (fun o => decide (o ≠ n)) → v'.up = v.up → v'.ks = v.ks → v'.pn = v.pn → v'.gn = v.gn → v'.P = v.P → Q .non H')
theorem ok_Vault_destroy (T : Txt K mg) (TE : Errs P K mg) : FnOk P w K mg base (L2N.CX P w) 3 T.f_Vault_destroy T.d_Vault_destroy ["self", "name"] (sp_Vault_destroy T.C_Vault TE.C_NoHolder TE.C_LastHolder K) := by
  refine T.F_Vault_destroy.okN sc_Vault_destroy len2X (fun cdv A outer s H vs Q E hr h => ?_)
  have nd := sc_Vault_destroy.nd
  have hu := hu_of hr
  obtain ⟨_, _, rfl, j, v, n, rfl, rfl, hv, ok, kx, ky, k⟩ := h
  refine ⟨_,
      (pss_cons (ps_expr (pe_methT (pv 0) T.c_Vault T.m_Vault_known (ok_Vault_known T TE) (hr.mono (by decide)) T.k_Vault_known (fun σ => L2N.passAt (L2N.takes_of rfl rfl rfl rfl) σ) (pa_cons (pv 1) pa_nil))) 
      (pss_cons (ps_lock (ps_for (passes_of rfl) rfl (pi_keys (pe_dget hu (pe_fld (pv 0) rfl) (pv 1) (fun _ _ => rfl))) (pg_name (i := 2) nd rfl (Or.inr rfl)) 
        (pss_cons (ps_lock (ps_setLc (i := 3) (own := [("other", 4)]) rfl nd rfl rfl (sw_true rfl rfl rfl (by decide +kernel)) (pi_keys (pe_fld (pv 0) rfl)) (blkOk_by (own := [("other", 4)]) (N := ["self", "name", "number", "others", "other"]) (sc := defScope s_Vault_destroy) (by decide +kernel)) (fun _ _ _ _ _ => (pg_name (i := 4) nd rfl (Or.inl rfl))) (fun _ _ _ _ _ => (pts_one (PW.pt (pw_and (pt_cmpR op_ne (pv 4) (pv 1) (nomark _)) (pw_and1 (pt_cmp (pc_din hu (pv 2) (pe_dget hu (pe_fldK (K := K) rfl (pv 0)) (pv 4) (fun _ _ => rfl))))))))) (fun _ _ _ _ _ => (pv 4)))) 
        (pss_one (ps_if (PW.pt (pw_and (pt_not (pt_val (pe_ix ix_list (pe_fld (pv 0) rfl) (pe_op op_sub (pv 2) pe_int) (fun _ _ => rfl)))) (pw_and1 (pt_not (pt_truth (pv 3) (by intro _; rfl)))))) 
          (pss_one (L2N.ps_raise rfl (takes_unlkN (L2N.takes_of rfl rfl rfl rfl)) (pmkN_LastHolder TE.E_LastHolder hr (pa_cons (pv 1) pa_nil)))) pss_nil))))) 
      (pss_cons (ps_ddel (pe_fld (pv 0) rfl) (pv 1)) 
      (pss_one (ps_ddel (pe_fld (pv 0) rfl) (pv 1)))))), ?_⟩
  change (_ : TS) _ [some _, some _, none, none, none] _
  try dsimp only [cxOf, Cx.nox, Cx.wish]
  obtain ⟨dx, h1⟩ := hv.ob
  have no_ : ∀ {x : Addr}, x ∉ ([] : List Addr) := List.not_mem_nil
  have sp := hv.sep
  have hp := hv.hp
  have hu := hv.hu
  walk_at "go"
  refine w_meth h1 no_Vault_known ?_
  walk_at "go"
  refine w_known hv kx fun hn => ?_
  have ky := ky hn
  have k := k hn
  obtain ⟨h, eh⟩ := hOf_mem (hs := v.hs) hn
  obtain ⟨hm, rfl⟩ := hOf_some eh
  refine w_lock (hv.hd h hm) trivial (fun z => z) fun od H2 L => ?_
  have h12 := L.keep h1 (sp.hj h hm).symm
  have hp2 := L.keep hp (sp.hp h hm).symm
  have hg2 := L.keep hv.hg (sp.hg h hm).symm
  have hd2 : ∀ x ∈ v.hs, Rd H2 x.ad (dN v.P (v.ks x.nm)) := fun x hx => by
    by_cases z : x.ad = h.ad
    · have : x.nm = h.nm := by
        by_cases y : x.nm = h.nm
        · exact y
        · exact absurd z (ad_ne ok sp hx hm y)
      rw [z, this]; exact .inr ⟨od, L.at⟩
    · exact .inl (L.keep (hv.hd x hx) z)
  walk_at "go"
  refine w_iKeys ?_
  walk_at "go"
  refine w_dgP hp2 eh ?_
  refine ⟨h.ad, od, rfl, .inl ⟨_, L.at, ?_⟩⟩
  refine z_for_keysI (kf := fun n => n) (fun i σ' H' => Ext [] H2 H' ∧ (∀ m ∈ (v.ks h.nm).take i, ¬ onlyN v h.nm m) ∧ ∃ a b c, σ' = [some (.ref j), some (.str h.nm), a, b, c]) ⟨Ext.refl, (fun m z => by rw [List.take_zero] at z; cases z), _, _, _, rfl⟩ (fun i σ' H' _ ⟨e, _⟩ => e.imm _ _ L.at trivial) ?_ ?_
  · rintro N i m σ' H3 hi ⟨e3, al, a, b, c, rfl⟩ hN
    have mk := List.mem_of_getElem? hi
    obtain ⟨r0, r1⟩ := ok.kr h.nm hn m mk
    have h13 := e3.keep _ _ h12 no_
    have hp3 := e3.keep _ _ hp2 no_
    have rd3 : ∀ x ∈ v.hs, Rd H3 x.ad (dN v.P (v.ks x.nm)) := fun x hx => (hd2 x hx).elim (fun z => .inl (e3.keep _ _ z no_)) fun ⟨o, z⟩ => .inr ⟨o, e3.imm _ _ z trivial⟩
    walk_at "go"
    refine w_lock hp3 trivial (fun z => z) fun op H4 Lp => ?_
    have h14 := Lp.keep h13 sp.jp
    have rd4 : ∀ x ∈ v.hs, Rd H4 x.ad (dN v.P (v.ks x.nm)) := fun x hx => (rd3 x hx).elim (fun z => .inl (Lp.keep z (sp.hp x hx))) fun ⟨o, z⟩ => .inr ⟨o, Lp.frz z⟩
    walk_at "go"
    refine w_iKeys ?_
    walk_at "go"
    refine ⟨v.p, op, rfl, .inl ⟨_, Lp.at, fun D nD => ?_⟩⟩
    refine z_lc_keysS (kf := fun h : Hl => h.nm) (fun i acc H' => Ext [] H4 H' ∧ acc = ((v.hs.take i).filter fun x => decide (x.nm ≠ h.nm) && decide (m ∈ v.ks x.nm)).map fun x => V.str x.nm) nD (fun H' e => ⟨e, rfl⟩) (fun i acc H' _ ⟨e, _⟩ => e.imm _ _ Lp.at trivial) ?_ ?_
    · rintro Nx i' x acc H5 hx ⟨e5, rfl⟩ hD hN5
      have xm := List.mem_of_getElem? hx
      have h15 := e5.keep _ _ h14 no_
      have rd5 : Rd H5 x.ad (dN v.P (v.ks x.nm)) := (rd4 x xm).elim (fun z => .inl (e5.keep _ _ z no_)) fun ⟨o, z⟩ => .inr ⟨o, e5.imm _ _ z trivial⟩
      have small : ((v.hs.take i').filter fun x => decide (x.nm ≠ h.nm) && decide (m ∈ v.ks x.nm)).length < 1000000 := by
        have a1 := List.length_filter_le (fun x : Hl => decide (x.nm ≠ h.nm) && decide (m ∈ v.ks x.nm)) (v.hs.take i')
        have a2 : (v.hs.take i').length ≤ v.hs.length := by rw [List.length_take]; exact Nat.min_le_right _ _
        have a4 := ok.sz.1
        omega
      have no5 : (decide (x.nm ≠ h.nm) && decide (m ∈ v.ks x.nm)) = false → Nx H5 := fun q => hN5 _ _ ⟨e5, by
        rw [List.take_add_one, hx, List.filter_append]
        show _ = List.map _ (_ ++ List.filter _ [x])
        rw [List.filter_cons_of_neg (by rw [q]; decide), List.filter_nil, List.append_nil]⟩ hD
      walk_at "go"
      refine ⟨rfl, ?_⟩
      walk_at "go"
      refine w_nd (fun c1 => ?_) fun c1 => ?_
      · walk_at "go"
        refine w_dgetR (v := .ref x.ad) (.inr ⟨op, e5.imm _ _ Lp.at trivial⟩) (by rw [valN]; have := hOf_self ok.nn xm; unfold hOf at this; rw [this]; rfl) ?_
        refine w_diN rd5 ?_
        by_cases c2 : m ∈ v.ks x.nm
        · rw [if_pos c2]
          refine w_bl (w_t rfl ?_)
          walk_at "go"
          refine w_app hD (szl (by rw [List.length_map]; exact small)) fun H6 e6 hD6 => hN5 _ _ ⟨e5.dropq e6 nD, ?_⟩ hD6
          rw [List.take_add_one, hx, List.filter_append]
          show _ = List.map _ (_ ++ List.filter _ [x])
          rw [List.filter_cons_of_pos (by simp [c1, c2]), List.map_append]; rfl
        · rw [if_neg c2]
          refine w_bl (w_f rfl ?_)
          exact no5 (by simp [c2])
      · exact no5 (by simp [c1])
    · rintro acc H5 ⟨e5, rfl⟩ hD
      rw [List.take_length] at hD
      refine ⟨e5.imm _ _ Lp.at trivial, ?_⟩
      obtain ⟨H6, q6, e6, kp6⟩ := unlock_is Lp e5
      have npD : D ≠ v.p := (ne_of_none Lp.at nD).symm
      have hD6 := kp6 D _ hD npD
      have e36 : Ext [] H2 H6 := e3.trans e6
      have hg6 := e36.keep _ _ hg2 no_
      have h16 := e36.keep _ _ h12 no_
      rw [q6]
      walk_at "go"; walk_at "if"
      refine w_ixL (sql hg6) (at_gn ok r0 r1) ?_
      walk_at "go"
      have next : ¬ onlyN v h.nm m → N [some (.ref j), some (.str h.nm), some (.int m), some (.ref D), c] H6 := fun q => hN _ _ ⟨e36, fun x hx => by
        rw [List.take_add_one, hi, List.mem_append] at hx
        rcases hx with y | y
        · exact al x y
        · have : x = m := by simpa using y
          rw [this]; exact q, _, _, _, rfl⟩
      refine w_nb (fun c1 => ?_) fun c1 => ?_
      · walk_at "go"
        refine ⟨_, .inl ⟨_, sql hD6, rfl⟩, ?_⟩
        by_cases emp : (v.hs.filter fun x => decide (x.nm ≠ h.nm) && decide (m ∈ v.ks x.nm)) = []
        · rw [emp]
          refine w_t rfl ?_
          refine w_mkLH ?_
          walk_at "go"
          refine ⟨_, rfl, fun dd ndd => .inr ⟨h.ad, od, dN v.P (v.ks h.nm), ?_, ?_, ?_⟩⟩
          · rw [upd_ne (ne_of_none (e36.imm _ _ L.at trivial) ndd)]; exact e36.imm _ _ L.at trivial
          · intro o' u' z
            have y := hv.hd h hm
            unfold dN at y
            rw [z] at y
            cases y
          · obtain ⟨H7, q7, e7, kp7⟩ := unlock_is L (e36.trans (Ext.new (o := .xd [(sNam, .str h.nm)]) ndd))
            have nda : dd ≠ h.ad := (ne_of_none (e36.imm _ _ L.at trivial) ndd).symm
            have h7 := kp7 dd _ upd_same nda
            have only : onlyN v h.nm m := ⟨c1, fun o ho no z => by
              obtain ⟨x, hx, rfl⟩ := List.mem_map.mp ho
              exact List.filter_eq_nil_iff.mp emp x hx (by simp [no, z])⟩
            have w := ky ⟨m, mk, only⟩ dd H7 e7 h7
            rw [← q7] at w
            exact w
        · refine w_f (by
            cases q : (v.hs.filter fun x => decide (x.nm ≠ h.nm) && decide (m ∈ v.ks x.nm)) with
            | nil => exact absurd q emp
            | cons x r => rfl) ?_
          walk_at "go"
          refine next fun q => emp (List.filter_eq_nil_iff.mpr fun x hx z => ?_)
          simp at z
          exact q.2 x.nm (List.mem_map.mpr ⟨x, hx, rfl⟩) z.1 z.2
      · walk_at "go"
        exact next fun q => by rw [q.1] at c1; cases c1
  · rintro σ' H3 ⟨e3, al, a, b, c, rfl⟩
    rw [List.take_length] at al
    have k := k al
    refine ⟨e3.imm _ _ L.at trivial, ?_⟩
    obtain ⟨H4, q4, e4, kp⟩ := unlock_is L e3
    rw [q4]
    have v4 := hv.ext0 e4
    have h14 := e4.keep _ _ h1 no_
    have hp4 := e4.keep _ _ hp no_
    have hu4 := e4.keep _ _ hu no_
    have drp : ∀ f : Hl → V, dropK (v.hs.map fun h => ((Sum.inr h.nm : Key), f h)) (Sum.inr h.nm) = (v.hs.filter fun x => decide (x.nm ≠ h.nm)).map fun h => ((Sum.inr h.nm : Key), f h) := fun f => by
      unfold dropK
      rw [List.filter_map]
      refine congrArg _ (congrArg (fun p => List.filter p v.hs) (funext fun x => ?_))
      show decide ((Sum.inr x.nm : Key) ≠ Sum.inr h.nm) = _
      by_cases z : x.nm = h.nm
      · rw [z]; simp
      · simp [z]
    have isS : ∀ f : Hl → V, (valV (v.hs.map fun h => ((Sum.inr h.nm : Key), f h)) (Sum.inr h.nm)).isSome = true := fun f => by
      rw [valN]
      unfold hOf at eh
      rw [eh]; rfl
    walk_at "go"
    refine w_tddelK ?_
    walk_at "go"
    refine w_ddelS hp4 (isS _) fun H5 e5 g5 => ?_
    rw [drp] at g5
    have h15 := e5.keep _ _ h14 (nm1 sp.jp)
    have hu5 := e5.keep _ _ hu4 (nm1 sp.pu.symm)
    walk_at "go"
    refine w_tddelK ?_
    walk_at "go"
    refine w_ddelS hu5 (isS _) fun H6 e6 g6 => ?_
    rw [drp] at g6
    have e46 : ∀ {a : Addr} {o : HO}, H4 a = some o → a ≠ v.p → a ≠ v.u → H6 a = some o := fun h n1 n2 => e6.keep _ _ (e5.keep _ _ h (nm1 n1)) (nm1 n2)
    have sub : ∀ x ∈ (v.hs.filter fun x => decide (x.nm ≠ h.nm)), x ∈ v.hs := fun x hx => (List.mem_filter.mp hx).1
    have sv : Sepd j { v with hs := v.hs.filter fun x => decide (x.nm ≠ h.nm) } := ⟨sp.jp, sp.ju, sp.jq, sp.jg, sp.pu, sp.pq, sp.pg, sp.uq, sp.ug, sp.qg, fun x hx => sp.hj x (sub x hx), fun x hx => sp.hp x (sub x hx), fun x hx => sp.hu x (sub x hx), fun x hx => sp.hq x (sub x hx), fun x hx => sp.hg x (sub x hx), by
      have := sp.hh
      unfold Vs.ads at this ⊢
      exact this.sublist (List.Sublist.map _ List.filter_sublist)⟩
    have eF : Ext (v.F j) H H6 := (e4.up.trans (e5.mono fun a m => by rw [List.mem_singleton.mp m]; unfold Vs.F; simp)).trans (e6.mono fun a m => by rw [List.mem_singleton.mp m]; unfold Vs.F; simp)
    refine k { v with hs := v.hs.filter fun x => decide (x.nm ≠ h.nm) } H6 ⟨eF, ⟨⟨dx, e46 h14 sp.jp sp.ju⟩, e6.keep _ _ g5 (nm1 sp.pu), g6, e46 v4.hq sp.pq.symm sp.uq.symm, e46 v4.hg sp.pg.symm sp.ug.symm, fun x hx => e46 (v4.hd x (sub x hx)) (sp.hp x (sub x hx)) (sp.hu x (sub x hx)), sv.nd⟩, fun a ha => .inl ?_⟩ ?_ rfl rfl rfl rfl rfl
    · unfold Vs.F Vs.ads at ha ⊢
      simp only [List.mem_cons] at ha ⊢
      rcases ha with z | z | z | z | z | z
      · exact .inl z
      · exact .inr (.inl z)
      · exact .inr (.inr (.inl z))
      · exact .inr (.inr (.inr (.inl z)))
      · exact .inr (.inr (.inr (.inr (.inl z))))
      · obtain ⟨y, hy, e⟩ := List.mem_map.mp z
        exact .inr (.inr (.inr (.inr (.inr (List.mem_map.mpr ⟨y, sub y hy, e⟩)))))
    · show (v.hs.filter fun x => decide (x.nm ≠ h.nm)).map (·.nm) = (v.hs.map (·.nm)).filter fun o => decide (o ≠ h.nm)
      rw [List.filter_map]; rfl
/-! a value is sealed -/
def selK (v : Vs) (n : Str) : List Int := if v.up n = true then v.ks n ++ [(v.pn.length : Int) + 1] else v.ks n
def sp_Vault_seal (C CD : Addr) (K : PySem.W.Frag) : Sp := sp5X fun a b c d e H Q E => ∃ (j : Addr) (v : Vs) (pe : Int) (x : Vl) (s : Int), a = .ref j ∧ b = .int pe ∧ c = .str x.kind ∧ d = x.v ∧ e = .int s ∧ x.Ok ∧ VAt C H j v ∧ VOk v ∧ v.pn.length < 1000 ∧
  ((∀ n ∈ v.names, v.up n = false) → ∀ H', Ext [] H H' → E (.ref CD) none H') ∧
  (∀ v' H' t, Stp C H H' j v v' → v'.names = v.names → v'.up = v.up → (∀ n ∈ v.names, v'.ks n = selK v n) → v'.pn = v.pn ++ [pe] → v'.gn = v.gn ++ [false] → (v'.P = fun m => if m = (v.pn.length : Int) + 1 then s % x.size else v.P m) → (∃ n ∈ v.names, v.up n = true) → H t = none →
    H' t = some (.tup [.str (Str.ofString "sealed"), .str x.kind, .int ((v.pn.length : Int) + 1), .int ((x.code + s) % x.size)]) → Q (.ref t) H')
theorem ok_Vault_seal (T : Txt K mg) (TE : Errs P K mg) : FnOk P w K mg base (L2N.CX P w) 4 T.f_Vault_seal T.d_Vault_seal ["self", "person", "kind", "value", "pad"] (sp_Vault_seal T.C_Vault TE.C_HoldersDown K) := by
  refine T.F_Vault_seal.okN sc_Vault_seal len5X (fun cdv A outer s H vs Q E hr h => ?_)
  have nd := sc_Vault_seal.nd
  have hu := hu_of hr
  obtain ⟨_, _, _, _, _, rfl, j, v, pe, x, s', rfl, rfl, rfl, rfl, rfl, hx, hv, ok, l1, kx, k⟩ := h
  refine ⟨_,
      (pss_cons (ps_set (i := 5) nd rfl (Or.inl rfl) (pe_meth0 (pv 0) T.c_Vault T.m_Vault_up_names (ok_Vault_up_names T) (hr.mono (by decide)) T.k_Vault_up_names .nil pass0)) 
      (pss_cons (ps_if (pt_not (pt_truth (pv 5) (by intro _; rfl))) 
        (pss_one (L2N.ps_raise rfl (L2N.takes_of rfl rfl rfl rfl) (pmk_own0N PySem.F.excBase_ValueError TE.q_HoldersDown TE.g_HoldersDown TE.k_HoldersDown (raises_own TE.s_HoldersDown TE.y_HoldersDown) rfl))) pss_nil) 
      (pss_cons (ps_expr (pe_bm PySem.F.plainAttrs_list PySem.F.slot_list_append PySem.F.type_list_append zmt_append (pe_fld (pv 0) rfl) (pa_cons (pv 1) pa_nil))) 
      (pss_cons (ps_expr (pe_bm PySem.F.plainAttrs_list PySem.F.slot_list_append PySem.F.type_list_append zmt_append (pe_fld (pv 0) rfl) (pa_cons pe_bl pa_nil))) 
      (pss_cons (ps_set (i := 6) nd rfl (Or.inl rfl) (pe_callB zc_len (by rfl) T.b_len (by decide +kernel) (pa_cons (pe_fld (pv 0) rfl) pa_nil))) 
      (pss_cons (ps_for (passes_of rfl) rfl (pi_list (pv 5)) (pg_name (i := 7) nd rfl (Or.inl rfl)) 
        (pss_one (ps_dput hu (pe_dget hu (pe_fld (pv 0) rfl) (pv 7) (fun _ _ => rfl)) (pv 6) (pe_op op_mod (pv 4) (pe_call (ok_size_of T) (hr.mono (by decide)) (by rfl) T.g_size_of T.F_size_of.kp T.k_size_of .nil pass0 (pa_cons (pv 2) pa_nil))) rfl))) 
      (pss_one (ps_ret (pe_call (ok_sealed T) (hr.mono (by decide)) (by rfl) T.g_sealed T.F_sealed.kp T.k_sealed .nil pass0 (pa_cons (pv 2) (pa_cons (pv 6) (pa_cons (pv 3) (pa_cons (pv 4) pa_nil))))))))))))), ?_⟩
  change (_ : TS) _ [some _, some _, some _, some _, some _, none, none, none] _
  try dsimp only [cxOf, Cx.nox, Cx.wish]
  obtain ⟨dx, h1⟩ := hv.ob
  have no_ : ∀ {x : Addr}, x ∉ ([] : List Addr) := List.not_mem_nil
  have sp := hv.sep
  walk_at "go"
  refine w_meth h1 no_Vault_up_names ?_
  walk_at "go"
  refine w_upn hv ok fun L H1 ys e1 nL hL uy => ?_
  have v1 := hv.ext0 e1
  have h11 := e1.keep _ _ h1 no_
  walk_at "go"
  refine w_cut (fun σ' H' => H1 = H' ∧ ys ≠ [] ∧ σ' = [some (.ref j), some (.int pe), some (.str x.kind), some x.v, some (.int s'), some (.ref L), none, none]) ?_ fun nx hN => ?_
  · rintro _ _ ⟨rfl, ney, rfl⟩
    have nLF := hv.out nL
    have hq1 := v1.hq
    walk_at "go"
    refine w_append hq1 (szl (by rw [List.length_map]; omega)) (w_chg hq1 (fun z => z) fun H2 e2 g2 => ?_)
    have g2' : H2 v.q = some (.lst ((v.pn ++ [pe]).map V.int)) := by rw [List.map_append]; exact g2
    have v2 := v1.setQ e2 g2'
    have h12 := e2.keep _ _ h11 (nm1 sp.jq)
    have hg2 := v2.hg
    walk_at "go"
    refine w_append hg2 (szl (by rw [List.length_map]; have := ok.lg; show v.gn.length < _; omega)) (w_chg hg2 (fun z => z) fun H3 e3 g3 => ?_)
    have g3' : H3 v.g = some (.lst ((v.gn ++ [false]).map V.bl)) := by rw [List.map_append]; exact g3
    have v3 := v2.setG e3 g3'
    have h13 := e3.keep _ _ h12 (nm1 sp.jg)
    have hq3 := v3.hq
    walk_at "go"
    have eN : ((List.map V.int (v.pn ++ [pe])).length : Int) = (v.pn.length : Int) + 1 := by rw [List.length_map, List.length_append]; rfl
    have sz3 : ({ v with pn := v.pn ++ [pe], gn := v.gn ++ [false] } : Vs).pn.length = v.pn.length + 1 := by show (v.pn ++ [pe]).length = _; rw [List.length_append]; rfl
    have nw : ∀ n ∈ v.names, ∀ m ∈ v.ks n, m ≠ (v.pn.length : Int) + 1 := fun n hn m hm => by
      have := (ok.kr n hn m hm).2
      omega
    let P' : Int → Int := fun m => if m = (v.pn.length : Int) + 1 then s' % x.size else v.P m
    have v4 := v3.reP (P := P') fun y hy n hn => by
      show v.P n = if n = (v.pn.length : Int) + 1 then s' % x.size else v.P n
      rw [if_neg (nw y.nm (List.mem_map.mpr ⟨y, hy, rfl⟩) n hn)]
    let v0 : Vs := { v with pn := v.pn ++ [pe], gn := v.gn ++ [false], P := P' }
    have v4 : VAt T.C_Vault H3 j v0 := v4
    have okK : ∀ Kn : Str → List Int, (∀ n ∈ v.names, Kn n = v.ks n ∨ Kn n = v.ks n ++ [(v.pn.length : Int) + 1]) → VOk { v0 with ks := Kn } := fun Kn hK => by
      refine ⟨ok.nn, ?_, fun a m n hn => ?_, fun a m => ?_, ok.sz.1, ?_⟩
      · show (v.gn ++ [false]).length = (v.pn ++ [pe]).length
        rw [List.length_append, List.length_append, ok.lg]; rfl
      · have hn : n ∈ Kn a := hn
        show 1 ≤ n ∧ n ≤ ((v.pn ++ [pe]).length : Int)
        rw [List.length_append]
        show 1 ≤ n ∧ n ≤ ((v.pn.length + 1 : Nat) : Int)
        rcases hK a m with e | e
        · rw [e] at hn
          have := ok.kr a m n hn
          omega
        · rw [e, List.mem_append] at hn
          rcases hn with q | q
          · have := ok.kr a m n q
            omega
          · have : n = (v.pn.length : Int) + 1 := by simpa using q
            omega
      · show (Kn a).Nodup
        rcases hK a m with e | e
        · rw [e]; exact ok.kn a m
        · rw [e]
          exact List.nodup_append.mpr ⟨ok.kn a m, List.pairwise_singleton _ _, fun y hy z hz e => nw a m y hy (by rw [e]; simpa using hz)⟩
      · show (v.pn ++ [pe]).length ≤ 1000
        rw [List.length_append]
        show v.pn.length + 1 ≤ 1000
        omega
    have e13 : Ext (v.F j) H1 H3 := (e2.mono fun a m => by rw [List.mem_singleton.mp m]; unfold Vs.F; simp).trans (e3.mono fun a m => by rw [List.mem_singleton.mp m]; unfold Vs.F; simp)
    have hL3 := e13.keep _ _ hL nLF
    refine ⟨_, rfl, ⟨_, sql hL3⟩, ?_⟩
    refine z_for_list (xs := ys.map V.str) (fun i σ' H' => ∃ Kn, VAt T.C_Vault H' j { v0 with ks := Kn } ∧ Ext (v.F j) H3 H' ∧ (∀ n, Kn n = if n ∈ ys.take i then v.ks n ++ [(v.pn.length : Int) + 1] else v.ks n) ∧ ∃ w, σ' = [some (.ref j), some (.int pe), some (.str x.kind), some x.v, some (.int s'), some (.ref L), some (.int ((v.pn.length : Int) + 1)), w])
      ⟨v.ks, v4, Ext.refl, (fun n => by rw [List.take_zero, if_neg List.not_mem_nil]), none, ?_⟩ (fun i σ' H' _ ⟨_, _, e, _⟩ => sql (e.keep _ _ hL3 nLF)) ?_ ?_
    · rw [← eN, List.length_map]; rfl
    · rintro N i y σ' H4 hy ⟨Kn, v5, e4, hK, w', rfl⟩ hN'
      rw [List.getElem?_map, Option.map_eq_some_iff] at hy
      obtain ⟨n, hn, rfl⟩ := hy
      obtain ⟨nm, nu⟩ := (uy.2 n).mp (List.mem_of_getElem? hn)
      obtain ⟨hT, ehT⟩ := hOf_mem (hs := v.hs) nm
      obtain ⟨hTm, rfl⟩ := hOf_some ehT
      obtain ⟨dx5, h15⟩ := v5.ob
      have hp5 := v5.hp
      have ht5 := v5.hd hT hTm
      have ok5 := okK Kn fun n _ => by rw [hK]; by_cases z : n ∈ ys.take i
                                       · rw [if_pos z]; exact .inr rfl
                                       · rw [if_neg z]; exact .inl rfl
      have nn : hT.nm ∉ ys.take i := fun z => by
        have nd := uy.1
        rw [← List.take_append_drop (i + 1) ys, List.take_add_one, hn] at nd
        exact (List.nodup_append.mp (List.nodup_append.mp nd).1).2.2 _ z hT.nm (by simp) rfl
      walk_at "go"
      refine ⟨_, rfl, x, rfl, ?_⟩
      walk_at "go"
      refine w_I x.size_pos ?_
      walk_at "go"
      refine w_dgP hp5 ehT ?_
      walk_at "go"
      have hPN : s' % x.size = P' ((v.pn.length : Int) + 1) := by show _ = if _ then _ else _; rw [if_pos rfl]
      rw [hPN]
      refine w_dpI ht5 (szl (by
        rw [List.length_map]
        have := len_upto (ok5.kn hT.nm nm) (ok5.kr hT.nm nm)
        have := ok5.sz.2
        omega)) fun H6 e6 g6 => ?_
      rw [putI] at g6
      have ad : addN (Kn hT.nm) ((v.pn.length : Int) + 1) = v.ks hT.nm ++ [(v.pn.length : Int) + 1] := by
        rw [hK, if_neg nn]
        unfold addN
        rw [if_neg fun z => nw hT.nm nm _ z rfl]
      refine hN' _ _ ⟨_, v5.setK ok5 hTm e6 g6, e4.trans (e6.mono fun a m => by rw [List.mem_singleton.mp m]; unfold Vs.F Vs.ads; simp; exact Or.inr (Or.inr (Or.inr (Or.inr (Or.inr ⟨hT, hTm, rfl⟩))))), fun n => ?_, _, rfl⟩
      have : n ∈ ys.take (i + 1) ↔ n ∈ ys.take i ∨ n = hT.nm := by
        rw [List.take_add_one, hn, List.mem_append]
        simp
      show setF Kn hT.nm _ n = _
      by_cases z : n = hT.nm
      · subst z
        rw [setF_at, if_pos (this.mpr (.inr rfl))]
        exact ad
      · rw [setF_ne z, hK]
        by_cases y : n ∈ ys.take i
        · rw [if_pos y, if_pos (this.mpr (.inl y))]
        · rw [if_neg y, if_neg fun w => (this.mp w).elim y z]
    · rintro σ' H4 ⟨Kn, v5, e4, hK, w', rfl⟩
      rw [List.length_map, List.take_length] at hK
      walk_at "go"
      refine ⟨_, _, _, _, rfl, x, _, s', rfl, rfl, rfl, rfl, hx, fun t H5 e5 nt ht => ?_⟩
      have eA : Ext (v.F j) H H4 := e1.up.trans (e13.trans e4)
      refine k { v0 with ks := Kn } H5 t ⟨eA.trans e5.up, v5.ext0 e5, fun a m => .inl m⟩ rfl rfl (fun n hn => ?_) rfl rfl rfl ?_ (eA.free nt) ht
      · show Kn n = selK v n
        unfold selK
        rw [hK]
        by_cases q : v.up n = true
        · rw [if_pos q, if_pos ((uy.2 n).mpr ⟨hn, q⟩)]
        · rw [if_neg q, if_neg fun z => q ((uy.2 n).mp z).2]
      · cases ys with
        | nil => exact absurd rfl ney
        | cons y r =>
          obtain ⟨a, b⟩ := (uy.2 y).mp List.mem_cons_self
          exact ⟨y, a, b⟩
  · walk_at "if"
    refine ⟨_, .inl ⟨_, sql hL, rfl⟩, ?_⟩
    cases ys with
    | nil =>
      refine w_t rfl ?_
      exact kx (fun n m => by
        cases q : v.up n with
        | false => rfl
        | true => exact absurd ((uy.2 n).mpr ⟨m, q⟩) List.not_mem_nil) H1 e1
    | cons y r =>
      refine w_f rfl ?_
      walk_at "go"
      exact hN _ _ ⟨rfl, fun z => (nomatch z), rfl⟩

/-! a holder's file, and what is read out of it -/
theorem w_seal {C CD : Addr} {H : Hp} {j : Addr} {v : Vs} {pe : Int} {x : Vl} {s : Int} {Q : VK} {E : XK} (hx : x.Ok) (hv : VAt C H j v) (ok : VOk v) (l : v.pn.length < 1000) (kx : (∀ n ∈ v.names, v.up n = false) → ∀ H', Ext [] H H' → E (.ref CD) none H')
    (k : ∀ v' H' t, Stp C H H' j v v' → v'.names = v.names → v'.up = v.up → (∀ n ∈ v.names, v'.ks n = selK v n) → v'.pn = v.pn ++ [pe] → v'.gn = v.gn ++ [false] → (v'.P = fun m => if m = (v.pn.length : Int) + 1 then s % x.size else v.P m) → (∃ n ∈ v.names, v.up n = true) → H t = none →
      H' t = some (.tup [.str (Str.ofString "sealed"), .str x.kind, .int ((v.pn.length : Int) + 1), .int ((x.code + s) % x.size)]) → Q (.ref t) H') : sp_Vault_seal C CD K [.ref j, .int pe, .str x.kind, x.v, .int s] H Q E := ⟨_, _, _, _, _, rfl, j, v, pe, x, s, rfl, rfl, rfl, rfl, rfl, hx, hv, ok, l, kx, k⟩
theorem w_down {C CE : Addr} {H : Hp} {j : Addr} {v : Vs} {n : Str} {Q : VK} {E : XK} (hv : VAt C H j v) (ok : VOk v) (kx : n ∉ v.names → Raised sNam CE H (.str n) E) (k : n ∈ v.names → ∀ H', Ext (v.F j) H H' → VAt C H' j { v with up := setF v.up n false } → Q .non H') : sp_Vault_down C CE K [.ref j, .str n] H Q E := ⟨_, _, rfl, j, v, n, rfl, rfl, hv, ok, kx, k⟩
theorem w_up {C CE : Addr} {H : Hp} {j : Addr} {v : Vs} {n : Str} {Q : VK} {E : XK} (hv : VAt C H j v) (ok : VOk v) (kx : n ∉ v.names → Raised sNam CE H (.str n) E)
    (k : n ∈ v.names → ∀ v' H', Stp C H H' j v v' → VOk v' → v'.names = v.names → v'.up = setF v.up n true → v'.ks = setF v.ks n (shrK v n) → v'.pn = v.pn → v'.gn = v.gn → v'.P = v.P → Q .non H') : sp_Vault_up C CE K [.ref j, .str n] H Q E := ⟨_, _, rfl, j, v, n, rfl, rfl, hv, ok, kx, k⟩
theorem w_heal {C : Addr} {H : Hp} {j : Addr} {v : Vs} {Q : VK} {E : XK} (hv : VAt C H j v) (ok : VOk v) (l : v.pn.length < 64) (k : ∀ (Kn : Str → List Int) H', Ext (v.F j) H H' → VAt C H' j { v with ks := Kn } → HI v Kn → (∀ n ∈ v.names, v.up n = true → ∀ m, HU v m → m ∈ Kn n) → Q .non H') : sp_Vault_heal C K ([.ref j] ++ []) H Q E := ⟨_, rfl, j, v, rfl, hv, ok, l, k⟩
theorem w_store {C CE CT : Addr} {H : Hp} {j : Addr} {v : Vs} {n m : Str} {Q : VK} {E : XK} (hv : VAt C H j v) (ok : VOk v) (kx : n ∉ v.names → Raised sNam CE H (.str n) E) (ky : n ∈ v.names → m ∈ v.names → Raised sNam CT H (.str m) E)
    (k : n ∈ v.names → m ∉ v.names → ∀ v' H', Stp C H H' j v v' → v'.names = v.names ++ [m] → v'.up = setF v.up m false → v'.ks = setF v.ks m (v.ks n) → v'.pn = v.pn → v'.gn = v.gn → v'.P = v.P → Q .non H') : sp_Vault_store C CE CT K [.ref j, .str n, .str m] H Q E := ⟨_, _, _, rfl, j, v, n, m, rfl, rfl, rfl, hv, ok, kx, ky, k⟩
theorem w_destroy {C CE CL : Addr} {H : Hp} {j : Addr} {v : Vs} {n : Str} {Q : VK} {E : XK} (hv : VAt C H j v) (ok : VOk v) (kx : n ∉ v.names → Raised sNam CE H (.str n) E) (ky : n ∈ v.names → (∃ m ∈ v.ks n, onlyN v n m) → Raised sNam CL H (.str n) E)
    (k : n ∈ v.names → (∀ m ∈ v.ks n, ¬ onlyN v n m) → ∀ v' H', Stp C H H' j v v' → v'.names = v.names.filter (fun o => decide (o ≠ n)) → v'.up = v.up → v'.ks = v.ks → v'.pn = v.pn → v'.gn = v.gn → v'.P = v.P → Q .non H') : sp_Vault_destroy C CE CL K [.ref j, .str n] H Q E := ⟨_, _, rfl, j, v, n, rfl, rfl, hv, ok, kx, ky, k⟩
def sPad : Str := Str.ofString "pad"
def HvAt (H : Hp) (P : Int → Int) (r : Addr) (n : Str) (b : Bool) (ns : List Int) : Prop := ∃ t0 ts, H r = some (.lst (.ref t0 :: ts.map V.ref)) ∧ H t0 = some (.tup [.str (Str.ofString "holder"), .str n, .bl b]) ∧ Paired (fun (t : Addr) m => H t = some (.tup [.str sPad, .int m, .int (P m)])) ts ns
theorem HvAt.ext {H H' : Hp} {P : Int → Int} {r : Addr} {n : Str} {b : Bool} {ns : List Int} {M : List Addr} (h : HvAt H P r n b ns) (e : Ext M H H') (m : r ∉ M) : HvAt H' P r n b ns := by
  obtain ⟨t0, ts, a, c, d⟩ := h
  exact ⟨t0, ts, e.keep _ _ a m, e.tup c, Paired.mapP d fun _ _ q => e.tup q⟩
def sp_Vault_holder_values (C CE : Addr) (K : PySem.W.Frag) : Sp := sp2X fun a b H Q E => ∃ (j : Addr) (v : Vs) (n : Str), a = .ref j ∧ b = .str n ∧ VAt C H j v ∧ VOk v ∧ (n ∉ v.names → Raised sNam CE H (.str n) E) ∧
  (n ∈ v.names → (v.ks n).length < 64 ∧ ∀ r H' ns, Ext [] H H' → H r = none → HvAt H' v.P r n (v.up n) ns → ns.Perm (v.ks n) → ns.Pairwise (· ≤ ·) → Q (.ref r) H')
theorem ok_Vault_holder_values (T : Txt K mg) (TE : Errs P K mg) : FnOk P w K mg base (L2N.CX P w) 3 T.f_Vault_holder_values T.d_Vault_holder_values ["self", "name"] (sp_Vault_holder_values T.C_Vault TE.C_NoHolder K) := by
  refine T.F_Vault_holder_values.okN sc_Vault_holder_values len2X (fun cdv A outer s H vs Q E hr h => ?_)
  have nd := sc_Vault_holder_values.nd
  have hu := hu_of hr
  obtain ⟨_, _, rfl, j, v, n, rfl, rfl, hv, ok, kx, k⟩ := h
  refine ⟨_,
      (pss_cons (ps_expr (pe_methT (pv 0) T.c_Vault T.m_Vault_known (ok_Vault_known T TE) (hr.mono (by decide)) T.k_Vault_known (fun σ => L2N.passAt (L2N.takes_of rfl rfl rfl rfl) σ) (pa_cons (pv 1) pa_nil))) 
      (pss_cons (ps_set (i := 2) nd rfl (Or.inr rfl) (pe_dget hu (pe_fld (pv 0) rfl) (pv 1) (fun _ _ => rfl))) 
      (pss_one (ps_ret (pe_op zop_cat (pe_lstZ (pa_cons (pe_tupZ (pa_cons pe_str (pa_cons (pv 1) (pa_cons (pe_dget hu (pe_fld (pv 0) rfl) (pv 1) (fun _ _ => rfl)) pa_nil)))) pa_nil)) (pe_lc (own := [("number", 3)]) rfl nd (pi_list (pe_callB (call_sortedDI rfl) (by rfl) T.b_sorted (by decide +kernel) (pa_cons (pv 2) pa_nil))) (blkOk_by (own := [("number", 3)]) (N := ["self", "name", "kept", "number"]) (sc := defScope s_Vault_holder_values) (by decide +kernel)) (fun _ _ _ _ _ => (pg_name (i := 3) nd rfl (Or.inl rfl))) (fun _ _ _ _ _ => pts_nil) (fun _ _ _ _ _ => (pe_tupZ (pa_cons pe_str (pa_cons (pv 3) (pa_cons (pe_dget hu (pv 2) (pv 3) (fun _ _ => rfl)) pa_nil))))))))))), ?_⟩
  change (_ : TS) _ [some _, some _, none, none] _
  try dsimp only [cxOf, Cx.nox, Cx.wish]
  obtain ⟨dx, h1⟩ := hv.ob
  have no_ : ∀ {x : Addr}, x ∉ ([] : List Addr) := List.not_mem_nil
  have hp := hv.hp
  walk_at "go"
  refine w_meth h1 no_Vault_known ?_
  walk_at "go"
  refine w_known hv kx fun hn => ?_
  obtain ⟨l64, k⟩ := k hn
  obtain ⟨h, eh⟩ := hOf_mem (hs := v.hs) hn
  obtain ⟨hm, rfl⟩ := hOf_some eh
  have hu := hv.hu
  walk_at "go"
  refine w_dgP hp eh ?_
  walk_at "go"
  refine w_dgU hu eh ?_
  walk_at "go"
  refine ⟨sz (by show 3 ≤ _; decide), w_alc fun t0 H1 e1 n1 g1 => ?_⟩
  walk_at "go"
  refine ⟨sz (by show 1 ≤ _; decide), w_alc fun l0 H2 e2 n2 g2 => ?_⟩
  have hd2 := (e1.trans e2).keep _ _ (hv.hd h hm) no_
  walk_at "go"
  refine ⟨_, _, v.ks h.nm, rfl, .inl hd2, by rw [List.map_map]; rfl, l64, fun zs Z zp zw nZ => ?_⟩
  have hZ : (upd H2 Z (.lst (zs.map V.int))) Z = some (.lst (zs.map V.int)) := upd_same
  have ez : Ext [] H2 (upd H2 Z (.lst (zs.map V.int))) := Ext.new nZ
  generalize upd H2 Z (.lst (zs.map V.int)) = H3 at hZ ez ⊢
  have zl : zs.length < 64 := by rw [zp.length_eq]; exact l64
  refine ⟨_, rfl, ⟨_, sql hZ⟩, fun D nD => ?_⟩
  refine z_lc_list (xs := zs.map V.int) (fun i acc H' => Ext [] H3 H' ∧ ∃ ts, acc = ts.map V.ref ∧ Paired (fun (t : Addr) m => H' t = some (.tup [.str sPad, .int m, .int (v.P m)])) ts (zs.take i)) nD (fun H' e => ⟨e, [], rfl, .nil⟩) (fun i acc H' _ ⟨e, _⟩ => sql (e.keep _ _ hZ no_)) ?_ ?_
  · rintro Nx i x acc H4 hx ⟨e4, ts, rfl, pr⟩ hD hN
    rw [List.getElem?_map, Option.map_eq_some_iff] at hx
    obtain ⟨m, hm', rfl⟩ := hx
    have hd4 := (ez.trans e4).keep _ _ hd2 no_
    have lt := paired_len pr
    rw [List.length_take] at lt
    walk_at "go"
    refine ⟨rfl, ?_⟩
    walk_at "go"
    refine w_dgN (.inl hd4) (zp.mem_iff.mp (List.mem_of_getElem? hm')) ?_
    walk_at "go"
    refine ⟨sz (by show 3 ≤ _; decide), w_alc fun t H5 e5 n5 g5 => ?_⟩
    have hD5 := e5.keep _ _ hD no_
    refine w_app hD5 (szl (by rw [List.length_map]; omega)) fun H6 e6 hD6 => hN _ _ ⟨(e4.trans e5).dropq e6 nD, ts ++ [t], by rw [List.map_append]; rfl, ?_⟩ hD6
    rw [List.take_add_one, hm']
    exact paired_snoc (R := fun (t : Addr) m => H6 t = some (.tup [.str sPad, .int m, .int (v.P m)])) (e6.tup g5) (Paired.mapP pr fun _ _ q => e6.tup (e5.tup q))
  · rintro acc H4 ⟨e4, ts, rfl, pr⟩ hD
    rw [List.length_map, List.take_length] at pr
    have l4 := (ez.trans e4).keep _ _ g2 no_
    have lt := paired_len pr
    refine ⟨_, _, _, _, rfl, rfl, l4, hD, sz (by rw [List.length_map]; show 1 + ts.length ≤ _; omega), w_alc fun r H5 e5 n5 g5 => ?_⟩
    exact k r H5 zs ((e1.trans e2).trans ((ez.trans e4).trans e5)) (e1.free (e2.free (ez.free (e4.free n5)))) ⟨t0, ts, g5, (e2.trans ((ez.trans e4).trans e5)).tup g1, Paired.mapP pr fun _ _ q => e5.tup q⟩ zp zw
theorem w_hvals {C CE : Addr} {H : Hp} {j : Addr} {v : Vs} {n : Str} {Q : VK} {E : XK} (hv : VAt C H j v) (ok : VOk v) (kx : n ∉ v.names → Raised sNam CE H (.str n) E) (k : n ∈ v.names → (v.ks n).length < 64 ∧ ∀ r H' ns, Ext [] H H' → H r = none → HvAt H' v.P r n (v.up n) ns → ns.Perm (v.ks n) → ns.Pairwise (· ≤ ·) → Q (.ref r) H') :
    sp_Vault_holder_values C CE K [.ref j, .str n] H Q E := ⟨_, _, rfl, j, v, n, rfl, rfl, hv, ok, kx, k⟩
theorem cut_take {xs : List V} {c : Nat} : cutV xs none (some (c : Int)) = xs.take c := by
  unfold cutV
  rw [HT.sIx_none, HT.sIx_nat, List.drop_zero, Nat.sub_zero]
  by_cases h : c ≤ xs.length
  · rw [Nat.min_eq_left h]
  · rw [Nat.min_eq_right (by omega), List.take_of_length_le (Nat.le_refl _), List.take_of_length_le (by omega)]
theorem cut_drop {xs : List V} {c : Nat} (h : c ≤ xs.length) : cutV xs (some (c : Int)) none = xs.drop c := by
  unfold cutV
  rw [HT.sIx_none, HT.sIx_nat, Nat.min_eq_left h]
  exact List.take_of_length_le (by rw [List.length_drop]; exact Nat.le_refl _)
def sp_read_out (K : PySem.W.Frag) : Sp := sp2 fun a b H Q => ∃ (r c : Addr) (P : Int → Int) (n : Str) (u : Bool) (ns : List Int) (x : Vl) (w : V) (m s : Int), a = .ref r ∧ b = .ref c ∧ HvAt H P r n u ns ∧ H c = some (.tup [w, .str x.kind, .int m, .int ((x.code + s) % x.size)]) ∧ x.Ok ∧
  (m ∈ ns → P m = s % x.size) ∧ (m ∈ ns → ∀ H', Ext [] H H' → Q x.v H') ∧ (m ∉ ns → ∀ H', Ext [] H H' → Q .non H')
/-! a new vault -/
def sp_Vault___init__ (C : Addr) (K : PySem.W.Frag) : Sp := sp2 fun a b H Q => ∃ (j dx l : Addr) (ns : List Str), a = .ref j ∧ b = .ref l ∧ H j = some (.ins C dx []) ∧ H l = some (.lst (ns.map V.str)) ∧ ns.Nodup ∧ ns.length < 64 ∧
  ∀ v' H', Ext [j] H H' → VAt C H' j v' → VOk v' → v'.names = ns → (∀ n ∈ ns, v'.ks n = []) → v'.pn = [] → v'.gn = [] → (∀ n ∈ ns, v'.up n = true) → (∀ a ∈ v'.F j, a = j ∨ H a = none) → Q .non H'
theorem ok_Vault___init__ (T : Txt K mg) : FnOk P w K mg base CX0 1 T.f_Vault___init__ T.d_Vault___init__ ["self", "holders"] (sp_Vault___init__ T.C_Vault K) := by
  refine T.F_Vault___init__.ok sc_Vault___init__ len2 (fun cdv A outer s H vs Q E hr h => ?_)
  have nd := sc_Vault___init__.nd
  have hu := hu_of hr
  obtain ⟨_, _, rfl, j, dx, l, ns, rfl, rfl, h1, hl, nd', sz', k⟩ := h
  refine ⟨_,
      (pss_cons (ps_fld (pv 0) pe_dnewKZ rfl) 
      (pss_cons (ps_fld (pv 0) pe_dnewKZ rfl) 
      (pss_cons (ps_for PassesOwn.never rfl (pi_list (pv 1)) (pg_name (i := 2) nd rfl (Or.inl rfl)) 
        (pss_cons (ps_dput hu (pe_fld (pv 0) rfl) (pv 2) pe_dnewKZ rfl) 
        (pss_one (ps_dput hu (pe_fld (pv 0) rfl) (pv 2) pe_bl rfl)))) 
      (pss_cons (ps_fld (pv 0) (pe_lstZ pa_nil) rfl) 
      (pss_one (ps_fld (pv 0) (pe_lstZ pa_nil) rfl)))))), ?_⟩
  change (_ : TS) _ [some _, some _, none] _
  try dsimp only [cxOf, Cx.nox, Cx.wish]
  have njl : l ≠ j := fun z => by rw [z, h1] at hl; cases hl
  walk_at "go"
  refine w_alc fun p H1 e1 np g1 => ?_
  have h11 := e1.keep _ _ h1 List.not_mem_nil
  have npj : p ≠ j := (ne_of_none h1 np).symm
  walk_at "go"
  refine w_sfld h11 T.c_Vault T.na_Vault_pads (by show 0 < _; decide) pi_Vault_pads fun H2 e2 h2 => ?_
  have g2 := e2.keep _ _ g1 (nm1 npj)
  walk_at "go"
  refine w_alc fun u H3 e3 nu g3 => ?_
  have h3 := e3.keep _ _ h2 List.not_mem_nil
  have g23 := e3.keep _ _ g2 List.not_mem_nil
  have nuj : u ≠ j := (ne_of_none h2 nu).symm
  have nup : u ≠ p := (ne_of_none g2 nu).symm
  walk_at "go"
  refine w_sfld h3 T.c_Vault T.na_Vault_ups (by show 1 < _; decide) pi_Vault_ups fun H4 e4 h4 => ?_
  have g4 := e4.keep _ _ g23 (nm1 npj)
  have u4 := e4.keep _ _ g3 (nm1 nuj)
  have e04 : Ext [j] H H4 := (((e1.up.trans e2).trans e3.up).trans e4)
  have hl4 := e04.keep _ _ hl (nm1 njl)
  walk_at "go"
  have nu0 : H u = none := e1.free (e2.free nu)
  have npl : l ≠ p := ne_of_none hl np
  have nul : l ≠ u := ne_of_none hl nu0
  refine ⟨_, rfl, ⟨_, sql hl4⟩, ?_⟩
  refine z_for_list (xs := ns.map V.str) (fun i σ' H' => ∃ hs : List Hl, Ext [p, u] H4 H' ∧ H' p = some (dPd hs) ∧ H' u = some (dUp (fun _ => true) hs) ∧ hs.map (·.nm) = ns.take i ∧ (∀ h ∈ hs, H' h.ad = some (dN (fun _ => 0) []) ∧ H4 h.ad = none) ∧ (hs.map (·.ad)).Nodup ∧ ∃ w, σ' = [some (.ref j), some (.ref l), w])
    ⟨[], Ext.refl, g4, u4, by rw [List.take_zero]; rfl, (fun _ m => nomatch m), List.nodup_nil, _, rfl⟩ (fun i σ' H' _ ⟨hs, e, _⟩ => sql (e.keep _ _ hl4 (nm2 npl nul))) ?_ ?_
  · rintro N i y σ' H5 hy ⟨hs, e5, p5, u5, nm5, d5, nd5, w', rfl⟩ hN
    rw [List.getElem?_map, Option.map_eq_some_iff] at hy
    obtain ⟨n, hn, rfl⟩ := hy
    have h5 := e5.keep _ _ h4 (nm2 npj.symm nuj.symm)
    have nn : n ∉ hs.map (·.nm) := fun z => by
      rw [nm5] at z
      have nd := nd'
      rw [← List.take_append_drop (i + 1) ns, List.take_add_one, hn] at nd
      exact (List.nodup_append.mp (List.nodup_append.mp nd).1).2.2 n z n (by simp) rfl
    have small : hs.length < 64 := by
      have := congrArg List.length nm5
      rw [List.length_map, List.length_take] at this
      omega
    walk_at "go"
    refine w_alc fun D H6 e6 nD gD => ?_
    have h6 := e6.keep _ _ h5 List.not_mem_nil
    have p6 := e6.keep _ _ p5 List.not_mem_nil
    have u6 := e6.keep _ _ u5 List.not_mem_nil
    walk_at "go"
    refine ⟨_, _, _, _, _, rfl, h6, T.c_Vault, T.na_Vault_pads, lk_same, ?_⟩
    walk_at "go"
    refine w_dputS p6 (szl (by rw [List.length_map]; omega)) fun H7 e7 p7 => ?_
    rw [putK_new _ (by rw [valN]; have := hOf_none.mpr nn; unfold hOf at this; rw [this]; rfl)] at p7
    have h7 := e7.keep _ _ h6 (nm1 npj.symm)
    have u7 := e7.keep _ _ u6 (nm1 nup)
    walk_at "go"
    refine ⟨_, _, _, _, _, rfl, h7, T.c_Vault, T.na_Vault_ups, (lk_other (by decide +kernel)).trans lk_same, ?_⟩
    walk_at "go"
    refine w_dputS u7 (szl (by rw [List.length_map]; omega)) fun H8 e8 u8 => ?_
    rw [putK_new _ (by rw [valN]; have := hOf_none.mpr nn; unfold hOf at this; rw [this]; rfl)] at u8
    have nDp : D ≠ p := (ne_of_none p5 nD).symm
    have nDu : D ≠ u := (ne_of_none u5 nD).symm
    have e58 : Ext [p, u] H5 H8 := (e6.up.trans (e7.mono fun a m => by rw [List.mem_singleton.mp m]; exact List.mem_cons_self)).trans (e8.mono fun a m => List.mem_cons_of_mem _ m)
    have dd : ∀ {a : Addr} {o : HO}, H6 a = some o → a ≠ p → a ≠ u → H8 a = some o := fun h n1 n2 => e8.keep _ _ (e7.keep _ _ h (nm1 n1)) (nm1 n2)
    refine hN _ _ ⟨hs ++ [⟨n, D⟩], e5.trans e58, ?_, ?_, ?_, ?_, ?_, _, rfl⟩
    · rw [e8.keep _ _ p7 (nm1 nup.symm)]
      unfold dPd
      rw [List.map_append]; rfl
    · rw [u8]
      unfold dUp
      rw [List.map_append]; rfl
    · rw [List.map_append, nm5, List.take_add_one, hn]; rfl
    · intro x hx
      rcases List.mem_append.mp hx with hx | hx
      · obtain ⟨a, b⟩ := d5 x hx
        have n1 : x.ad ≠ p := fun z => by rw [z, g4] at b; cases b
        have n2 : x.ad ≠ u := fun z => by rw [z, u4] at b; cases b
        exact ⟨dd (e6.keep _ _ a List.not_mem_nil) n1 n2, b⟩
      · rw [List.mem_singleton.mp hx]
        exact ⟨dd gD nDp nDu, e5.free nD⟩
    · rw [List.map_append]
      refine List.nodup_append.mpr ⟨nd5, List.pairwise_singleton _ _, fun a ha b hb e => ?_⟩
      obtain ⟨x, hx, ex⟩ := List.mem_map.mp ha
      have hb : b = D := by simpa using hb
      have := (d5 x hx).1
      rw [ex, e, hb, nD] at this
      cases this
  · rintro σ' H5 ⟨hs, e5, p5, u5, nm5, d5, nd5, w', rfl⟩
    rw [List.length_map, List.take_length] at nm5
    have h5 := e5.keep _ _ h4 (nm2 npj.symm nuj.symm)
    walk_at "go"
    refine ⟨Nat.zero_le _, w_alc fun q H6 e6 nq g6 => ?_⟩
    have h6 := e6.keep _ _ h5 List.not_mem_nil
    have nqj : q ≠ j := (ne_of_none h5 nq).symm
    walk_at "go"
    refine w_sfld h6 T.c_Vault T.na_Vault_persons (by show 2 < _; decide) pi_Vault_persons fun H7 e7 h7 => ?_
    have g7 := e7.keep _ _ g6 (nm1 nqj)
    walk_at "go"
    refine ⟨Nat.zero_le _, w_alc fun g H8 e8 ng g8 => ?_⟩
    have h8 := e8.keep _ _ h7 List.not_mem_nil
    have ngj : g ≠ j := (ne_of_none h7 ng).symm
    have ngq : g ≠ q := (ne_of_none g7 ng).symm
    walk_at "go"
    refine w_sfld h8 T.c_Vault T.na_Vault_gone_numbers (by show 3 < _; decide) pi_Vault_gone_numbers fun H9 e9 h9 => ?_
    have e59 : Ext [j] H5 H9 := ((e6.up.trans e7).trans e8.up).trans e9
    have q9 := e9.keep _ _ (e8.keep _ _ g7 List.not_mem_nil) (nm1 nqj)
    have g9 := e9.keep _ _ g8 (nm1 ngj)
    have nqp : q ≠ p := (ne_of_none p5 nq).symm
    have nqu : q ≠ u := (ne_of_none u5 nq).symm
    have ng5 : H5 g = none := e6.free (e7.free ng)
    have ngp : g ≠ p := (ne_of_none p5 ng5).symm
    have ngu : g ≠ u := (ne_of_none u5 ng5).symm
    let v' : Vs := ⟨p, u, q, g, hs, fun _ => true, fun _ => [], [], [], fun _ => 0⟩
    have sv : Sepd j v' := ⟨npj.symm, nuj.symm, nqj.symm, ngj.symm, nup.symm, nqp.symm, ngp.symm, nqu.symm, ngu.symm, ngq.symm,
      (fun x hx z => by have := (d5 x hx).2; rw [z, h4] at this; cases this), (fun x hx z => by have := (d5 x hx).2; rw [z, g4] at this; cases this), (fun x hx z => by have := (d5 x hx).2; rw [z, u4] at this; cases this),
      (fun x hx z => by have := (d5 x hx).1; rw [z, nq] at this; cases this), (fun x hx z => by have := (d5 x hx).1; rw [z, ng5] at this; cases this), nd5⟩
    have vA : VAt T.C_Vault H9 j v' := ⟨⟨dx, h9⟩, e59.keep _ _ p5 (nm1 npj), e59.keep _ _ u5 (nm1 nuj), q9, g9, fun x hx => e59.keep _ _ (d5 x hx).1 (nm1 (sv.hj x hx)), sv.nd⟩
    have lh : hs.length = ns.length := by rw [← nm5, List.length_map]
    walk_at "go"
    have e05 : Ext [j] H H5 := e04.cut e5 fun x m => by
      rcases List.mem_cons.mp m with m | m
      · rw [m]; exact .inr np
      · rw [List.mem_singleton.mp m]; exact .inr nu0
    refine k v' H9 (e05.trans e59) vA ⟨by show (hs.map (·.nm)).Nodup; rw [nm5]; exact nd', rfl, (fun _ _ _ m => nomatch m), (fun _ _ => List.nodup_nil), by show hs.length < 64; omega, by show 0 ≤ 1000; decide⟩ nm5 (fun _ _ => rfl) rfl rfl (fun _ _ => rfl) fun a m => ?_
    unfold Vs.F Vs.ads at m
    simp only [List.mem_cons] at m
    rcases m with z | z | z | z | z | z
    · exact .inl z
    · exact .inr (by rw [z]; exact np)
    · exact .inr (by rw [z]; exact nu0)
    · exact .inr (by rw [z]; exact e05.free nq)
    · exact .inr (by rw [z]; exact e05.free ng5)
    · obtain ⟨x, hx, ex⟩ := List.mem_map.mp z
      exact .inr (by rw [← ex]; exact e04.free (d5 x hx).2)

theorem w_ixQ {H : Hp} {Q : VK} {a : Addr} {v : V} {xs : List V} {j : Int} (h : SqL K H a xs ∨ SqT K H a xs) (e : atI xs j = some v) (q : Q v H) : rIx K (.ref a) (.int j) H Q :=
  h.elim (fun h => .inl ⟨a, xs, j, v, rfl, rfl, h, e, q⟩) fun h => .inr (.inl ⟨a, xs, j, v, rfl, rfl, h, e, q⟩)
/-! ### _law_same of what is the same -/
def sp_same (n : Nat) (K : PySem.W.Frag) : Sp := sp2 fun a b H Q => Sl n H a b ∧ ∀ H', Ext [] H H' → Q (.bl true) H'
theorem ok_same_no (T : Txt K mg) : FnOk P w K mg base CX0 0 T.f__law_same T.d__law_same ["actual", "due"] (sp_same 0 K) :=
  ⟨fun _ _ _ _ h => by obtain ⟨_, _, rfl, _⟩ := h; rfl, fun _ _ _ _ _ _ _ _ _ _ _ _ _ h => by obtain ⟨_, _, _, h, _⟩ := h; exact h.elim⟩
theorem step_same (T : Txt K mg)  (n l : Nat) (ih : FnOk P w K mg base CX0 l T.f__law_same T.d__law_same ["actual", "due"] (sp_same n K)) : FnOk P w K mg base CX0 (l+1) T.f__law_same T.d__law_same ["actual", "due"] (sp_same (n+1) K) := by
  refine T.F__law_same.ok sc_law_same len2 (fun cdv A outer s H vs Q E hr h => ?_)
  have nd := sc_law_same.nd
  have hu := hu_of hr
  obtain ⟨a, b, rfl, h, k⟩ := h
  refine ⟨_,
      (pss_cons (ps_if (pt_cmpR zop_isN (pv 1) pe_non (nomark _)) 
        (pss_one (ps_ret (pe_cmpR zop_isN (pv 0) pe_non (nomark _)))) pss_nil) 
      (pss_cons (ps_if (pt_cmpR zop_isB (pv 1) pe_bl (nomark _)) 
        (pss_one (ps_ret (pe_cmpR zop_isB (pv 0) pe_bl (nomark _)))) pss_nil) 
      (pss_cons (ps_if (pt_cmpR zop_isB (pv 1) pe_bl (nomark _)) 
        (pss_one (ps_ret (pe_cmpR zop_isB (pv 0) pe_bl (nomark _)))) pss_nil) 
      (pss_cons (ps_if (pt_val (pe_callB call_isi (by rfl) T.b_isinstance (by decide +kernel) (pa_cons (pv 1) (pa_cons (pe_bltn (v := .ty "int") (by rfl) T.b_int (by decide +kernel) rfl) pa_nil)))) 
        (pss_one (ps_ret (pe_and (pe_callB call_isi (by rfl) T.b_isinstance (by decide +kernel) (pa_cons (pv 0) (pa_cons (pe_bltn (v := .ty "int") (by rfl) T.b_int (by decide +kernel) rfl) pa_nil))) (pe_and (pe_not (pe_callB call_isi (by rfl) T.b_isinstance (by decide +kernel) (pa_cons (pv 0) (pa_cons (pe_bltn (v := .ty "bool") (by rfl) T.b_bool (by decide +kernel) rfl) pa_nil)))) (pe_one (pe_cmpR op_eq (pv 0) (pv 1) (nomark _))))))) pss_nil) 
      (pss_cons (ps_if (pt_val (pe_callB call_isi (by rfl) T.b_isinstance (by decide +kernel) (pa_cons (pv 1) (pa_cons (pe_bltn (v := .ty "str") (by rfl) T.b_str (by decide +kernel) rfl) pa_nil)))) 
        (pss_one (ps_ret (pe_and (pe_callB call_isi (by rfl) T.b_isinstance (by decide +kernel) (pa_cons (pv 0) (pa_cons (pe_bltn (v := .ty "str") (by rfl) T.b_str (by decide +kernel) rfl) pa_nil))) (pe_one (pe_cmpR op_eq (pv 0) (pv 1) (nomark _)))))) pss_nil) 
      (pss_cons (ps_if (pt_val (pe_callB call_isi (by rfl) T.b_isinstance (by decide +kernel) (pa_cons (pv 1) (pa_cons (pe_bltn (v := .ty "dict") (by rfl) T.b_dict (by decide +kernel) rfl) pa_nil)))) 
        (pss_cons (ps_if (PW.pt (pw_or (pt_not (pt_val (pe_callB call_isi (by rfl) T.b_isinstance (by decide +kernel) (pa_cons (pv 0) (pa_cons (pe_bltn (v := .ty "dict") (by rfl) T.b_dict (by decide +kernel) rfl) pa_nil))))) (pw_or1 (pt_cmpR op_ne (pe_callB zc_lenX (by rfl) T.b_len (by decide +kernel) (pa_cons (pv 0) pa_nil)) (pe_callB zc_lenX (by rfl) T.b_len (by decide +kernel) (pa_cons (pv 1) pa_nil)) (nomark _))))) 
          (pss_one (ps_ret pe_bl)) pss_nil) 
        (pss_cons (ps_lock (ps_for PassesOwn.never rfl (pi_keys (pv 1)) (pg_name (i := 2) nd rfl (Or.inl rfl)) 
          (pss_one (ps_if (PW.pt (pw_or (pt_cmp (pc_dnotin hu (pv 2) (pv 0))) (pw_or1 (pt_not (pt_val (pe_call ih (hr.mono (by omega)) (by rfl) T.g__law_same T.F__law_same.kp T.k__law_same .nil pass0 (pa_cons (pe_dget hu (pv 0) (pv 2) (fun _ _ => rfl)) (pa_cons (pe_dget hu (pv 1) (pv 2) (fun _ _ => rfl)) pa_nil)))))))) 
            (pss_one (ps_ret pe_bl)) pss_nil)))) 
        (pss_one (ps_ret pe_bl)))) pss_nil) 
      (pss_cons (ps_if (PW.pt (pw_or (pt_cmpR op_ne (pe_callB call_isi (by rfl) T.b_isinstance (by decide +kernel) (pa_cons (pv 0) (pa_cons (pe_bltn (v := .ty "tuple") (by rfl) T.b_tuple (by decide +kernel) rfl) pa_nil))) (pe_callB call_isi (by rfl) T.b_isinstance (by decide +kernel) (pa_cons (pv 1) (pa_cons (pe_bltn (v := .ty "tuple") (by rfl) T.b_tuple (by decide +kernel) rfl) pa_nil))) (nomark _)) (pw_or1 (pt_cmpR op_ne (pe_callB call_isi (by rfl) T.b_isinstance (by decide +kernel) (pa_cons (pv 0) (pa_cons (pe_bltn (v := .ty "list") (by rfl) T.b_list (by decide +kernel) rfl) pa_nil))) (pe_callB call_isi (by rfl) T.b_isinstance (by decide +kernel) (pa_cons (pv 1) (pa_cons (pe_bltn (v := .ty "list") (by rfl) T.b_list (by decide +kernel) rfl) pa_nil))) (nomark _))))) 
        (pss_one (ps_ret pe_bl)) pss_nil) 
      (pss_cons (ps_if (pt_cmpR op_ne (pe_callB zc_lenX (by rfl) T.b_len (by decide +kernel) (pa_cons (pv 0) pa_nil)) (pe_callB zc_lenX (by rfl) T.b_len (by decide +kernel) (pa_cons (pv 1) pa_nil)) (nomark _)) 
        (pss_one (ps_ret pe_bl)) pss_nil) 
      (pss_cons (ps_for PassesOwn.never rfl (pi_range1 (by rfl) T.b_range (pa_cons (pe_callB zc_lenX (by rfl) T.b_len (by decide +kernel) (pa_cons (pv 1) pa_nil)) pa_nil)) (pg_name (i := 3) nd rfl (Or.inl rfl)) 
        (pss_one (ps_if (pt_not (pt_val (pe_call ih (hr.mono (by omega)) (by rfl) T.g__law_same T.F__law_same.kp T.k__law_same .nil pass0 (pa_cons (pe_ix ix_seq (pv 0) (pv 3) (fun _ _ => rfl)) (pa_cons (pe_ix ix_seq (pv 1) (pv 3) (fun _ _ => rfl)) pa_nil))))) 
          (pss_one (ps_ret pe_bl)) pss_nil))) 
      (pss_one (ps_ret pe_bl))))))))))), ?_⟩
  change (_ : TS) _ [some _, some _, none, none] _
  try dsimp only [cxOf, Cx.nox, Cx.wish]
  rcases h with ⟨d, ld, i, j⟩ | ⟨p, q, xs, ys, rfl, rfl, hp, hq, lz, hw⟩
  · cases i with
    | non =>
      cases j
      walk_at "go"; walk_at "if"
      refine w_t rfl ?_
      walk_at "go"
      exact k _ Ext.refl
    | bl z =>
      cases j
      walk_at "go"; walk_at "if"
      refine w_f rfl ?_
      cases z with
      | true =>
        walk_at "go"; walk_at "if"
        refine w_t rfl ?_
        walk_at "go"
        exact k _ Ext.refl
      | false =>
        walk_at "go"; walk_at "if"
        refine w_f rfl ?_
        walk_at "go"; walk_at "if"
        refine w_t rfl ?_
        walk_at "go"
        exact k _ Ext.refl
    | int z =>
      cases j
      walk_at "go"; walk_at "if"
      refine w_f rfl ?_; walk_at "go"; walk_at "if"; refine w_f rfl ?_; walk_at "go"; walk_at "if"; refine w_f rfl ?_; walk_at "go"; walk_at "if"
      refine w_isi (k := true) (.ty _) (.base (.int _)) (kit_ty (by decide +kernel)) ?_
      walk_at "go"
      refine w_isi (k := true) (.ty _) (.base (.int _)) (kit_ty (by decide +kernel)) ?_
      refine w_bl ?_
      walk_at "go"
      refine w_isi (k := false) (.ty _) (.base (.int _)) (kit_ty (by decide +kernel)) ?_
      refine w_bl ?_
      walk_at "go"
      rw [decide_eq_true rfl]
      exact k _ Ext.refl
    | str z =>
      cases j
      walk_at "go"; walk_at "if"
      refine w_f rfl ?_; walk_at "go"; walk_at "if"; refine w_f rfl ?_; walk_at "go"; walk_at "if"; refine w_f rfl ?_; walk_at "go"; walk_at "if"
      refine w_isi (k := false) (.ty _) (.base (.str _)) (kit_ty (by decide +kernel)) ?_
      walk_at "go"; walk_at "if"
      refine w_isi (k := true) (.ty _) (.base (.str _)) (kit_ty (by decide +kernel)) ?_
      walk_at "go"
      refine w_isi (k := true) (.ty _) (.base (.str _)) (kit_ty (by decide +kernel)) ?_
      refine w_bl ?_
      walk_at "go"
      rw [decide_eq_true rfl]
      exact k _ Ext.refl
    | @tup p xs ds ha lz wa =>
      cases j with
      | @tup q ys _ hb lz2 wb =>
        have la := wa.len
        have lb := wb.len
        have ta := TyX.base (K := K) (.tup ha)
        have tb := TyX.base (K := K) (.tup hb)
        walk_at "go"; walk_at "if"
        refine w_f rfl ?_; walk_at "go"; walk_at "if"; refine w_f rfl ?_; walk_at "go"; walk_at "if"; refine w_f rfl ?_; walk_at "go"; walk_at "if"
        refine w_isi (k := false) (.ty _) tb (kit_ty (by decide +kernel)) ?_
        walk_at "go"; walk_at "if"
        refine w_isi (k := false) (.ty _) tb (kit_ty (by decide +kernel)) ?_
        walk_at "go"; walk_at "if"
        refine w_isi (k := false) (.ty _) tb (kit_ty (by decide +kernel)) ?_
        walk_at "go"; walk_at "if"
        refine w_isi (k := true) (.ty _) ta (kit_ty (by decide +kernel)) ?_
        walk_at "go"
        refine w_isi (k := true) (.ty _) tb (kit_ty (by decide +kernel)) ?_
        refine w_ne rfl ?_
        walk_at "go"
        refine w_f (by simp) ?_
        walk_at "go"
        refine w_isi (k := false) (.ty _) ta (kit_ty (by decide +kernel)) ?_
        walk_at "go"
        refine w_isi (k := false) (.ty _) tb (kit_ty (by decide +kernel)) ?_
        refine w_ne rfl ?_
        walk_at "go"
        refine w_f (by simp) ?_
        walk_at "go"; walk_at "if"
        refine w_lenX (.inr (sqt ha)) ?_
        walk_at "go"
        refine w_lenX (.inr (sqt hb)) ?_
        walk_at "go"
        refine w_f (by rw [la, lb]; simp) ?_
        walk_at "go"
        refine w_lenX (.inr (sqt hb)) ?_
        walk_at "go"
        refine ⟨_, rfl, by omega, by omega, ?_⟩
        rw [Int.toNat_natCast]
        refine z_for_range (fun i σ' H' => Ext [] H H' ∧ ∃ u v, σ' = [some (.ref p), some (.ref q), u, v]) ⟨Ext.refl, _, _, rfl⟩ ?_ ?_
        · rintro N i σ' H1 hi ⟨e1, u, v, rfl⟩ hN
          walk_at "go"; walk_at "if"
          obtain ⟨d, hd⟩ : ∃ d, ds[i]? = some d := ⟨_, List.getElem?_eq_getElem (by omega)⟩
          obtain ⟨x, hx, ix⟩ := wa.at hd
          obtain ⟨y, hy, iy⟩ := wb.at hd
          refine w_ixQ (.inr (sqt (e1.tup ha))) (at_nat0 hx) ?_
          walk_at "go"
          refine w_ixQ (.inr (sqt (e1.tup hb))) (at_nat0 hy) ?_
          walk_at "go"
          have dm := dAll_mem (List.mem_of_getElem? hd)
          rw [d_tup] at ld
          refine w_sp2 ⟨Sl.im (d := d) (by omega) (ix.ext e1) (iy.ext e1), fun H2 e2 => ?_⟩
          walk_at "go"
          exact hN _ _ ⟨e1.trans e2, _, _, rfl⟩
        · rintro σ' H1 ⟨e1, u, v, rfl⟩
          walk_at "go"
          exact k _ e1
  · have ta := TyX.base (K := K) (.lst hp)
    have tb := TyX.base (K := K) (.lst hq)
    have la := paired_len hw
    have lb : ys.length = ys.length := rfl
    walk_at "go"; walk_at "if"
    refine w_f rfl ?_; walk_at "go"; walk_at "if"; refine w_f rfl ?_; walk_at "go"; walk_at "if"; refine w_f rfl ?_; walk_at "go"; walk_at "if"
    refine w_isi (k := false) (.ty _) tb (kit_ty (by decide +kernel)) ?_
    walk_at "go"; walk_at "if"
    refine w_isi (k := false) (.ty _) tb (kit_ty (by decide +kernel)) ?_
    walk_at "go"; walk_at "if"
    refine w_isi (k := false) (.ty _) tb (kit_ty (by decide +kernel)) ?_
    walk_at "go"; walk_at "if"
    refine w_isi (k := false) (.ty _) ta (kit_ty (by decide +kernel)) ?_
    walk_at "go"
    refine w_isi (k := false) (.ty _) tb (kit_ty (by decide +kernel)) ?_
    refine w_ne rfl ?_
    walk_at "go"
    refine w_f (by simp) ?_
    walk_at "go"
    refine w_isi (k := true) (.ty _) ta (kit_ty (by decide +kernel)) ?_
    walk_at "go"
    refine w_isi (k := true) (.ty _) tb (kit_ty (by decide +kernel)) ?_
    refine w_ne rfl ?_
    walk_at "go"
    refine w_f (by simp) ?_
    walk_at "go"; walk_at "if"
    refine w_lenX (.inl (sql hp)) ?_
    walk_at "go"
    refine w_lenX (.inl (sql hq)) ?_
    walk_at "go"
    refine w_f (by rw [la, lb]; simp) ?_
    walk_at "go"
    refine w_lenX (.inl (sql hq)) ?_
    walk_at "go"
    refine ⟨_, rfl, by omega, by omega, ?_⟩
    rw [Int.toNat_natCast]
    refine z_for_range (fun i σ' H' => Ext [] H H' ∧ ∃ u v, σ' = [some (.ref p), some (.ref q), u, v]) ⟨Ext.refl, _, _, rfl⟩ ?_ ?_
    · rintro N i σ' H1 hi ⟨e1, u, v, rfl⟩ hN
      walk_at "go"; walk_at "if"
      obtain ⟨x, hx⟩ : ∃ d, xs[i]? = some d := ⟨_, List.getElem?_eq_getElem (by omega)⟩
      obtain ⟨y, hy, hs⟩ := paired_at hw hx
      refine w_ixQ (.inl (sql (e1.keep _ _ hp List.not_mem_nil))) (at_nat0 hx) ?_
      walk_at "go"
      refine w_ixQ (.inl (sql (e1.keep _ _ hq List.not_mem_nil))) (at_nat0 hy) ?_
      walk_at "go"
      refine w_sp2 ⟨hs.ext e1, fun H2 e2 => ?_⟩
      walk_at "go"
      exact hN _ _ ⟨e1.trans e2, _, _, rfl⟩
    · rintro σ' H1 ⟨e1, u, v, rfl⟩
      walk_at "go"
      exact k _ e1

def sp_law_same (K : PySem.W.Frag) : Sp := sp_same 4 K
theorem ok_law_same (T : Txt K mg) : FnOk P w K mg base CX0 4 T.f__law_same T.d__law_same ["actual", "due"] (sp_law_same K) := step_same T 3 3 (step_same T 2 2 (step_same T 1 1 (step_same T 0 0 (ok_same_no T))))
theorem w_same {H : Hp} {a b : V} {Q : VK} {E : XK} (h : Sl 4 H a b) (k : ∀ H', Ext [] H H' → Q (.bl true) H') : sp_law_same K ([a, b] ++ []) H Q E := ⟨_, _, rfl, h, k⟩

/-! a value is unsealed -/
def sp_Vault_unseal (C CD : Addr) (K : PySem.W.Frag) : Sp := sp2X fun a b H Q E => ∃ (j c : Addr) (v : Vs) (x : Vl) (w : V) (m s : Int), a = .ref j ∧ b = .ref c ∧ VAt C H j v ∧ VOk v ∧ H c = some (.tup [w, .str x.kind, .int m, .int ((x.code + s) % x.size)]) ∧ x.Ok ∧ 1 ≤ m ∧ m ≤ (v.pn.length : Int) ∧ v.P m = s % x.size ∧
  (gnA v m = true → ∀ H', Ext [] H H' → Q .non H') ∧
  (gnA v m = false → (∃ n ∈ v.names, v.up n = true ∧ m ∈ v.ks n) → ∀ H', Ext [] H H' → Q x.v H') ∧
  (gnA v m = false → (∀ n ∈ v.names, v.up n = true → m ∉ v.ks n) → ∀ H', Ext [] H H' → E (.ref CD) none H')
theorem ok_Vault_unseal (T : Txt K mg) (TE : Errs P K mg) : FnOk P w K mg base (L2N.CX P w) 5 T.f_Vault_unseal T.d_Vault_unseal ["self", "cell"] (sp_Vault_unseal T.C_Vault TE.C_HoldersDown K) := by
  refine T.F_Vault_unseal.okN sc_Vault_unseal len2X (fun cdv A outer s H vs Q E hr h => ?_)
  have nd := sc_Vault_unseal.nd
  have hu := hu_of hr
  obtain ⟨_, _, rfl, j, c, v, x, w', m, s', rfl, rfl, hv, ok, hc, hx, m0, m1, hP, k1, k2, k3⟩ := h
  refine ⟨_,
      (pss_cons (ps_if (pt_val (pe_ix ix_list (pe_fld (pv 0) rfl) (pe_op op_sub (pe_ix ix_tup (pv 1) pe_int (fun _ _ => rfl)) pe_int) (fun _ _ => rfl))) 
        (pss_one (ps_ret pe_non)) pss_nil) 
      (pss_cons (ps_for (passes_of rfl) rfl (pi_list (pe_meth0 (pv 0) T.c_Vault T.m_Vault_up_names (ok_Vault_up_names T) (hr.mono (by decide)) T.k_Vault_up_names .nil pass0)) (pg_name (i := 2) nd rfl (Or.inl rfl)) 
        (pss_one (ps_if (pt_cmp (pc_din hu (pe_ix ix_tup (pv 1) pe_int (fun _ _ => rfl)) (pe_dget hu (pe_fld (pv 0) rfl) (pv 2) (fun _ _ => rfl)))) 
          (pss_one (ps_ret (pe_call (ok_opened T) (hr.mono (by decide)) (by rfl) T.g_opened T.F_opened.kp T.k_opened .nil pass0 (pa_cons (pv 1) (pa_cons (pe_dget hu (pe_dget hu (pe_fld (pv 0) rfl) (pv 2) (fun _ _ => rfl)) (pe_ix ix_tup (pv 1) pe_int (fun _ _ => rfl)) (fun _ _ => rfl)) pa_nil))))) pss_nil))) 
      (pss_one (L2N.ps_raise rfl (L2N.takes_of rfl rfl rfl rfl) (pmk_own0N PySem.F.excBase_ValueError TE.q_HoldersDown TE.g_HoldersDown TE.k_HoldersDown (raises_own TE.s_HoldersDown TE.y_HoldersDown) rfl))))), ?_⟩
  change (_ : TS) _ [some _, some _, none] _
  try dsimp only [cxOf, Cx.nox, Cx.wish]
  obtain ⟨dx, h1⟩ := hv.ob
  have no_ : ∀ {x : Addr}, x ∉ ([] : List Addr) := List.not_mem_nil
  have hg := hv.hg
  walk_at "go"
  refine w_cut (fun σ' H' => H = H' ∧ gnA v m = false ∧ σ' = [some (.ref j), some (.ref c), none]) ?_ fun nx hN => ?_
  · rintro _ _ ⟨rfl, gf, rfl⟩
    have k2 := k2 gf
    have k3 := k3 gf
    walk_at "go"
    refine w_meth h1 no_Vault_up_names ?_
    walk_at "go"
    refine w_upn hv ok fun L H1 ys e1 nL hL uy => ?_
    have v1 := hv.ext0 e1
    have hc1 := e1.tup hc
    have h11 := e1.keep _ _ h1 no_
    have hp1 := v1.hp
    refine ⟨_, rfl, ⟨_, sql hL⟩, ?_⟩
    refine z_for_list (xs := ys.map V.str) (fun i σ' H' => H1 = H' ∧ (∀ n ∈ ys.take i, m ∉ v.ks n) ∧ ∃ u, σ' = [some (.ref j), some (.ref c), u]) ⟨rfl, (fun n z => by rw [List.take_zero] at z; cases z), _, rfl⟩ (fun i σ' H' _ ⟨e, _⟩ => e ▸ sql hL) ?_ ?_
    · rintro N i y σ' _ hy ⟨rfl, al, u, rfl⟩ hN
      rw [List.getElem?_map, Option.map_eq_some_iff] at hy
      obtain ⟨n, hn, rfl⟩ := hy
      obtain ⟨nm, nu⟩ := (uy.2 n).mp (List.mem_of_getElem? hn)
      obtain ⟨h, eh⟩ := hOf_mem (hs := v.hs) nm
      obtain ⟨hm, rfl⟩ := hOf_some eh
      have hd1 := v1.hd h hm
      walk_at "go"; walk_at "if"
      refine w_dgP hp1 eh ?_
      refine w_diN (.inl hd1) ?_
      by_cases c2 : m ∈ v.ks h.nm
      · rw [if_pos c2]
        refine w_bl (w_t rfl ?_)
        walk_at "go"
        refine w_dgP hp1 eh ?_
        walk_at "go"
        refine w_dgN (.inl hd1) c2 ?_
        walk_at "go"
        rw [hP]
        exact ⟨_, _, rfl, c, x, w', _, s', rfl, rfl, hc1, hx, fun H2 e2 => k2 ⟨h.nm, nm, nu, c2⟩ H2 (e1.trans e2)⟩
      · rw [if_neg c2]
        refine w_bl (w_f rfl ?_)
        walk_at "go"
        refine hN _ _ ⟨rfl, fun n hn' => ?_, _, rfl⟩
        rw [List.take_add_one, hn, List.mem_append] at hn'
        rcases hn' with q | q
        · exact al n q
        · have : n = h.nm := by simpa using q
          rw [this]; exact c2
    · rintro σ' _ ⟨rfl, al, u, rfl⟩
      rw [List.length_map, List.take_length] at al
      exact k3 (fun n hn un => al n ((uy.2 n).mpr ⟨hn, un⟩)) _ e1
  · walk_at "if"
    refine w_ixL (sql hg) (at_gn ok m0 m1) ?_
    walk_at "go"
    refine w_b (fun c1 => ?_) fun c1 => ?_
    · walk_at "go"
      exact k1 c1 _ Ext.refl
    · walk_at "go"
      exact hN _ _ ⟨rfl, c1, rfl⟩
theorem w_unseal {C CD : Addr} {H : Hp} {j c : Addr} {v : Vs} {x : Vl} {w : V} {m s : Int} {Q : VK} {E : XK} (hv : VAt C H j v) (ok : VOk v) (hc : H c = some (.tup [w, .str x.kind, .int m, .int ((x.code + s) % x.size)])) (hx : x.Ok) (m0 : 1 ≤ m) (m1 : m ≤ (v.pn.length : Int)) (hP : v.P m = s % x.size)
    (k1 : gnA v m = true → ∀ H', Ext [] H H' → Q .non H') (k2 : gnA v m = false → (∃ n ∈ v.names, v.up n = true ∧ m ∈ v.ks n) → ∀ H', Ext [] H H' → Q x.v H') (k3 : gnA v m = false → (∀ n ∈ v.names, v.up n = true → m ∉ v.ks n) → ∀ H', Ext [] H H' → E (.ref CD) none H') :
    sp_Vault_unseal C CD K [.ref j, .ref c] H Q E := ⟨_, _, rfl, j, c, v, x, w, m, s, rfl, rfl, hv, ok, hc, hx, m0, m1, hP, k1, k2, k3⟩
/-! the vault's file -/
def vvD (v : Vs) (k : Nat) : PyData := .tuple [.str (Str.ofString "number"), .int ((k : Int) + 1), .int (pnA v ((k : Int) + 1)), .bool (gnA v ((k : Int) + 1))]
def sp_Vault_vault_values (C : Addr) (K : PySem.W.Frag) : Sp := sp1 fun a H Q => ∃ (j : Addr) (v : Vs), a = .ref j ∧ VAt C H j v ∧ VOk v ∧ ∀ r H' vs, Ext [] H H' → H r = none → H' r = some (.lst vs) → ImAll H' vs ((List.range v.pn.length).map (vvD v)) → Q (.ref r) H'
theorem ok_Vault_vault_values (T : Txt K mg) : FnOk P w K mg base CX0 1 T.f_Vault_vault_values T.d_Vault_vault_values ["self"] (sp_Vault_vault_values T.C_Vault K) := by
  refine T.F_Vault_vault_values.ok sc_Vault_vault_values len1 (fun cdv A outer s H vs Q E hr h => ?_)
  have nd := sc_Vault_vault_values.nd
  have hu := hu_of hr
  obtain ⟨_, rfl, j, v, rfl, hv, ok, k⟩ := h
  refine ⟨_,
      (pss_cons (ps_set (i := 1) nd rfl (Or.inl rfl) (pe_callB zc_len (by rfl) T.b_len (by decide +kernel) (pa_cons (pe_fld (pv 0) rfl) pa_nil))) 
      (pss_one (ps_ret (pe_lc (own := [("k", 2)]) rfl nd (pi_range1 (by rfl) T.b_range (pa_cons (pv 1) pa_nil)) (blkOk_by (own := [("k", 2)]) (N := ["self", "count", "k"]) (sc := defScope s_Vault_vault_values) (by decide +kernel)) (fun _ _ _ _ _ => (pg_name (i := 2) nd rfl (Or.inl rfl))) (fun _ _ _ _ _ => pts_nil) (fun _ _ _ _ _ => (pe_tupZ (pa_cons pe_str (pa_cons (pe_op op_add (pv 2) pe_int) (pa_cons (pe_ix (ix_listK (K := K) rfl) (pe_fldK (K := K) rfl (pv 0)) (pv 2) (fun _ _ => rfl)) (pa_cons (pe_ix (ix_listK (K := K) rfl) (pe_fldK (K := K) rfl (pv 0)) (pv 2) (fun _ _ => rfl)) pa_nil)))))))))), ?_⟩
  change (_ : TS) _ [some _, none, none] _
  try dsimp only [cxOf, Cx.nox, Cx.wish]
  obtain ⟨dx, h1⟩ := hv.ob
  have no_ : ∀ {x : Addr}, x ∉ ([] : List Addr) := List.not_mem_nil
  have hq := hv.hq
  have hg := hv.hg
  walk_at "go"
  refine ⟨_, rfl, by omega, by have := ok.sz.2; rw [List.length_map]; omega, fun D nD => ?_⟩
  rw [Int.toNat_natCast, List.length_map]
  refine z_lc_range (lo := 0) (fun i acc H' => Ext [] H H' ∧ acc.length = i ∧ ImAll H' acc ((List.range i).map (vvD v))) nD (fun H' e => ⟨e, rfl, .nil⟩) ?_ ?_
  · rintro Nx i acc H1 hi ⟨e1, la, im⟩ hD hN
    have h11 := e1.keep _ _ h1 no_
    have hq1 := e1.keep _ _ hq no_
    have hg1 := e1.keep _ _ hg no_
    have e0 : (0 + (i : Int)) = ((i : Int) + 1) - 1 := by omega
    have a1 := at_pn (v := v) (n := (i : Int) + 1) (by omega) (by omega)
    have a2 := at_gn ok (n := (i : Int) + 1) (by omega) (by omega)
    have l1 := ok.sz.2
    rw [← e0] at a1 a2
    walk_at "go"
    refine ⟨rfl, ?_⟩
    walk_at "go"
    refine ⟨sz (by show 4 ≤ _; decide), w_alc fun t H2 e2 n2 g2 => ?_⟩
    refine w_app (e2.keep _ _ hD no_) (szl (by omega)) fun H3 e3 hD3 => hN _ _ ⟨(e1.trans e2).dropq e3 nD, by rw [List.length_append, la]; rfl, ?_⟩ hD3
    rw [List.range_succ, List.map_append]
    refine ImAll.snoc ?_ ((im.ext e2).ext e3)
    rw [Int.zero_add] at g2
    exact .tup (e3.tup g2) (by show 4 ≤ 1000; decide) (.cons (.str _) (.cons (.int _) (.cons (.int _) (.cons (.bl _) .nil))))
  · rintro acc H1 ⟨e1, la, im⟩ hD
    exact k D H1 acc e1 nD hD im
theorem w_vvals {C : Addr} {H : Hp} {j : Addr} {v : Vs} {Q : VK} {E : XK} (hv : VAt C H j v) (ok : VOk v) (k : ∀ r H' vs, Ext [] H H' → H r = none → H' r = some (.lst vs) → ImAll H' vs ((List.range v.pn.length).map (vvD v)) → Q (.ref r) H') : sp_Vault_vault_values C K ([.ref j] ++ []) H Q E := ⟨_, rfl, j, v, rfl, hv, ok, k⟩

/-! ### codes and sizes -/
def sp_law_code (K : PySem.W.Frag) : Sp := sp2 fun a b H Q => ∃ x : Vl, a = .str x.kind ∧ b = x.v ∧ x.Ok ∧ Q (.int x.code) H
theorem ok_law_code (T : Txt K mg) : FnOk P w K mg base CX0 1 T.f__law_code T.d__law_code ["kind", "value"] (sp_law_code K) := by
  refine T.F__law_code.ok sc_law_code len2 (fun cdv A outer s H vs Q E hr h => ?_)
  have nd := sc_law_code.nd
  have hu := hu_of hr
  obtain ⟨_, _, rfl, x, rfl, rfl, hx, k⟩ := h
  refine ⟨_,
      (pss_cons (ps_if (pt_cmpR op_eq (pv 0) pe_str (nomark _)) 
        (pss_one (ps_ret (pe_op op_add (pv 1) pe_int))) pss_nil) 
      (pss_cons (ps_if (pt_cmpR op_eq (pv 0) pe_str (nomark _)) 
        (pss_one (ps_ret (pe_ifExp (pt_val (pv 1)) pe_int pe_int))) pss_nil) 
      (pss_cons (ps_set (i := 2) nd rfl (Or.inl rfl) pe_str) 
      (pss_cons (ps_set (i := 2) nd rfl (Or.inl rfl) (pe_op zop_addS (pv 2) pe_str)) 
      (pss_cons (ps_set (i := 3) nd rfl (Or.inl rfl) pe_int) 
      (pss_cons (ps_for PassesOwn.never rfl (pi_range1 (by rfl) T.b_range (pa_cons (pe_callB zc_len (by rfl) T.b_len (by decide +kernel) (pa_cons (pv 1) pa_nil)) pa_nil)) (pg_name (i := 4) nd rfl (Or.inl rfl)) 
        (pss_one (ps_set (i := 3) nd rfl (Or.inl rfl) (pe_op op_add (pe_op op_add (pe_op op_mul (pv 3) pe_int) (pe_bm PySem.F.plainAttrs_str PySem.F.slot_str_find PySem.F.type_str_find mt_find (pv 2) (pa_cons (pe_ix ix_str (pv 1) (pv 4) (fun _ _ => rfl)) pa_nil))) pe_int)))) 
      (pss_one (ps_ret (pv 3))))))))), ?_⟩
  change (_ : TS) _ [some _, some _, none, none, none] _
  try dsimp only [cxOf, Cx.nox, Cx.wish]
  cases x with
  | i n =>
    dsimp only [Vl.v]
    walk_at "go"; walk_at "if"
    refine w_t ki_i ?_
    walk_at "go"
    exact k
  | f b =>
    dsimp only [Vl.v]
    walk_at "go"; walk_at "if"
    refine w_f kf_i ?_
    walk_at "go"; walk_at "if"
    refine w_t kf_f ?_
    walk_at "go"; walk_at "ife"
    cases b <;> walk_at "go" <;> exact k
  | t s =>
    obtain ⟨s1, s2⟩ := hx
    dsimp only [Vl.v]
    have sl : s.cps.toList.length = s.length := Array.length_toList
    walk_at "go"; walk_at "if"
    refine w_f kt_i ?_
    walk_at "go"; walk_at "if"
    refine w_f kt_f ?_
    walk_at "go"
    refine w_addS (sz (by decide +kernel)) ?_
    walk_at "go"
    refine w_lenS (sz (by omega)) ?_
    walk_at "go"
    refine ⟨_, rfl, by omega, by omega, ?_⟩
    rw [Int.toNat_natCast]
    refine z_for_range (lo := 0) (fun i σ' H' => H = H' ∧ ∃ u, σ' = [some (.str (Vl.t s).kind), some (.str s), some (.str sgx), some (.int ((fc i + codeL (s.cps.toList.take i) 0 : Nat))), u]) ⟨rfl, _, rfl⟩ ?_ ?_
    · rintro N i σ' _ hi ⟨rfl, u, rfl⟩ hN
      have hi2 : i < s.cps.toList.length := by omega
      have hc := List.getElem?_eq_getElem hi2
      have hm := List.getElem_mem hi2
      generalize s.cps.toList[i] = c at hc hm
      obtain ⟨r, hr'⟩ := alph_occ c (s2 c hm)
      walk_at "go"
      refine ⟨rfl, ?_⟩
      walk_at "go"
      refine w_ixS (sz (by omega)) (at_nat0 hc) ?_
      walk_at "go"
      have ef : Txt.find sgx ⟨#[c]⟩ = (ix94 c : Int) := by rw [sgx_is]; unfold Txt.find; rw [hr']
      refine ⟨sgx, ⟨#[c]⟩, rfl, rfl, ?_⟩
      rw [ef]
      walk_at "go"
      have e : s.cps.toList.take (i + 1) = s.cps.toList.take i ++ [c] := by rw [List.take_add_one, hc]; rfl
      refine hN _ _ ⟨rfl, some (.int (0 + i)), ?_⟩
      rw [e, codeL_snoc]
      rw [show ((fc (i + 1) + (codeL (s.cps.toList.take i) 0 * 94 + ix94 c) : Nat) : Int) = ((fc i + codeL (s.cps.toList.take i) 0 : Nat) : Int) * 94 + (ix94 c : Int) + 1 from by
        rw [show fc (i + 1) = fc i * 94 + 1 from rfl]; omega]
      rfl
    · rintro σ' _ ⟨rfl, u, rfl⟩
      have e : s.cps.toList.take s.length = s.cps.toList := List.take_of_length_le (by omega)
      rw [e]
      walk_at "go"
      have e2 : ((fc s.length + codeL s.cps.toList 0 : Nat) : Int) = (Vl.t s).code := by
        show _ = (((fc s.cps.toList.length + codeL s.cps.toList 0 : Nat)) : Int)
        rw [sl]
      rw [e2]
      exact k
def sp_law_size (K : PySem.W.Frag) : Sp := sp1 fun a H Q => ∃ x : Vl, a = .str x.kind ∧ ∀ H', Ext [] H H' → Q (.int x.size) H'
theorem ok_law_size (T : Txt K mg) : FnOk P w K mg base CX0 1 T.f__law_size T.d__law_size ["kind"] (sp_law_size K) := by
  refine T.F__law_size.ok sc_law_size len1 (fun cdv A outer s H vs Q E hr h => ?_)
  have nd := sc_law_size.nd
  have hu := hu_of hr
  obtain ⟨_, rfl, x, rfl, k⟩ := h
  refine ⟨_,
      (pss_one (ps_ret (pe_dget hu (pe_disp (pps_cons pe_str pe_int (pps_cons pe_str pe_int (pps_cons pe_str (pe_op op_fdivW (pe_op op_sub (pe_op op_pow pe_int pe_int) pe_int) pe_int) pps_nil))) (by rfl) (by rfl) (fun z => by cases z) (by decide)) (pv 0) (fun _ _ => rfl)))), ?_⟩
  change (_ : TS) _ [some _] _
  try dsimp only [cxOf, Cx.nox, Cx.wish]
  walk_at "go"
  refine w_disp fun p H1 e1 np h1 => ?_
  refine w_pcons ?_
  walk_at "go"
  refine w_pcons ?_
  walk_at "go"
  refine w_pcons ?_
  walk_at "go"
  have h1' := h1
  refine w_pnil ⟨h1, [(Sum.inr (Str.ofString "int"), .int 2000000001), (Sum.inr (Str.ofString "flag"), .int 2), (Sum.inr (Str.ofString "text"), .int ((94 ^ Int.toNat 21 - 1) / 93))], rfl, by show 3 ≤ 15; decide, ?_⟩
  have e : mergeK ([] : List (Key × V)) [(Sum.inr (Str.ofString "int"), .int 2000000001), (Sum.inr (Str.ofString "flag"), .int 2), (Sum.inr (Str.ofString "text"), .int ((94 ^ Int.toNat 21 - 1) / 93))] = [(Sum.inr (Str.ofString "int"), .int 2000000001), (Sum.inr (Str.ofString "flag"), .int 2), (Sum.inr (Str.ofString "text"), .int 2932256630791119505061064402082674519051)] := by decide +kernel
  rw [e]
  have e2 := Ext.mut (M := [p]) (o := .dK [(Sum.inr (Str.ofString "int"), .int 2000000001), (Sum.inr (Str.ofString "flag"), .int 2), (Sum.inr (Str.ofString "text"), .int 2932256630791119505061064402082674519051)]) h1 (fun z => z) (List.mem_singleton.mpr rfl)
  have g2 : (upd H1 p (.dK [(Sum.inr (Str.ofString "int"), .int 2000000001), (Sum.inr (Str.ofString "flag"), .int 2), (Sum.inr (Str.ofString "text"), .int 2932256630791119505061064402082674519051)])) p = _ := upd_same
  generalize upd H1 p _ = H2 at e2 g2 ⊢
  walk_at "go"
  have k := k H2 (e1.dropq e2 np)
  cases x with
  | i n => exact w_dgetS g2 (show valV ([(Sum.inr (Str.ofString "int"), V.int 2000000001), (Sum.inr (Str.ofString "flag"), V.int 2), (Sum.inr (Str.ofString "text"), V.int 2932256630791119505061064402082674519051)] : List (Key × V)) (Sum.inr (Str.ofString "int")) = some (V.int 2000000001) by decide +kernel) k
  | f b => exact w_dgetS g2 (show valV ([(Sum.inr (Str.ofString "int"), V.int 2000000001), (Sum.inr (Str.ofString "flag"), V.int 2), (Sum.inr (Str.ofString "text"), V.int 2932256630791119505061064402082674519051)] : List (Key × V)) (Sum.inr (Str.ofString "flag")) = some (V.int 2) by decide +kernel) k
  | t s => exact w_dgetS g2 (show valV ([(Sum.inr (Str.ofString "int"), V.int 2000000001), (Sum.inr (Str.ofString "flag"), V.int 2), (Sum.inr (Str.ofString "text"), V.int 2932256630791119505061064402082674519051)] : List (Key × V)) (Sum.inr (Str.ofString "text")) = some (V.int 2932256630791119505061064402082674519051) by decide +kernel) k
/-! ### what is told of a deed -/
inductive Out where
  | non
  | ls (ys : List Str)
  | rf (ws : List Str)
def OutAt (H : Hp) (o : V) : Out → Prop
  | .non => o = .non
  | .ls ys => ∃ a, o = .ref a ∧ H a = some (.lst (ys.map V.str)) ∧ ys.length ≤ 100
  | .rf ws => ∃ a, o = .ref a ∧ H a = some (.tup (ws.map V.str)) ∧ ws.length ≤ 3
inductive Wd where
  | down
  | up
  | heal
  | store (r : Str)
  | destroy
  | forget (p : Int)
def Wd.wd : Wd → Str
  | .down => Str.ofString "down"
  | .up => Str.ofString "up"
  | .heal => Str.ofString "heal"
  | .store _ => Str.ofString "store"
  | .destroy => Str.ofString "destroy"
  | .forget _ => Str.ofString "forget"
def Wd.r (v : V) : Wd → Prop
  | .store r => v = .str r
  | .forget p => v = .int p
  | _ => True
def rfs (w n : Str) : Out := .rf [Str.ofString "refused", w, n]
structure Sam (v v' : Vs) : Prop where
  nm : v'.names = v.names
  up : v'.up = v.up
  ks : v'.ks = v.ks
  pn : v'.pn = v.pn
  gn : v'.gn = v.gn
  P : v'.P = v.P
theorem Sam.refl {v : Vs} : Sam v v := ⟨rfl, rfl, rfl, rfl, rfl, rfl⟩
/-- one deed of the vault, and what is told -/
def TR (v v' : Vs) (n : Str) : Wd → Out → Prop
  | .down, O => n ∉ v.names ∧ Sam v v' ∧ O = rfs (Str.ofString "none") n ∨ n ∈ v.names ∧ O = .non ∧ v'.names = v.names ∧ v'.up = setF v.up n false ∧ v'.ks = v.ks ∧ v'.pn = v.pn ∧ v'.gn = v.gn ∧ v'.P = v.P
  | .up, O => n ∉ v.names ∧ Sam v v' ∧ O = rfs (Str.ofString "none") n ∨ n ∈ v.names ∧ O = .non ∧ v'.names = v.names ∧ v'.up = setF v.up n true ∧ v'.ks = setF v.ks n (shrK v n) ∧ v'.pn = v.pn ∧ v'.gn = v.gn ∧ v'.P = v.P
  | .heal, O => O = .non ∧ v'.names = v.names ∧ v'.up = v.up ∧ (∀ n ∈ v.names, ∀ m, m ∈ v'.ks n ↔ m ∈ v.ks n ∨ v.up n = true ∧ HU v m) ∧ v'.pn = v.pn ∧ v'.gn = v.gn ∧ v'.P = v.P
  | .store m, O => n ∉ v.names ∧ Sam v v' ∧ O = rfs (Str.ofString "none") n ∨ n ∈ v.names ∧ m ∈ v.names ∧ Sam v v' ∧ O = rfs (Str.ofString "taken") m ∨
    n ∈ v.names ∧ m ∉ v.names ∧ O = .non ∧ v'.names = v.names ++ [m] ∧ v'.up = setF v.up m false ∧ v'.ks = setF v.ks m (v.ks n) ∧ v'.pn = v.pn ∧ v'.gn = v.gn ∧ v'.P = v.P
  | .destroy, O => n ∉ v.names ∧ Sam v v' ∧ O = rfs (Str.ofString "none") n ∨ n ∈ v.names ∧ (∃ m ∈ v.ks n, onlyN v n m) ∧ Sam v v' ∧ O = rfs (Str.ofString "last") n ∨
    n ∈ v.names ∧ (∀ m ∈ v.ks n, ¬ onlyN v n m) ∧ O = .non ∧ v'.names = v.names.filter (fun o => decide (o ≠ n)) ∧ v'.up = v.up ∧ v'.ks = v.ks ∧ v'.pn = v.pn ∧ v'.gn = v.gn ∧ v'.P = v.P
  | .forget pe, O => v'.names = v.names ∧ v'.up = v.up ∧ (∀ n ∈ v.names, v'.ks n = if v.up n = true then shrK { v with gn := fgG v pe } n else v.ks n) ∧ v'.pn = v.pn ∧ v'.gn = fgG v pe ∧ v'.P = v.P ∧
    ∃ ys, O = .ls ys ∧ ys.Pairwise StrLt ∧ ∀ n, n ∈ ys ↔ n ∈ v'.names ∧ trN v' n pe = true
def sp_law_told (C : Addr) (K : PySem.W.Frag) : Sp := sp4 fun a b c d H Q => ∃ (j : Addr) (v : Vs) (n : Str) (W : Wd), a = .ref j ∧ b = .str W.wd ∧ c = .str n ∧ W.r d ∧ VAt C H j v ∧ VOk v ∧ v.names.length < 60 ∧ v.pn.length < 64 ∧
  ∀ v' H' o O, Stp C H H' j v v' → VOk v' → TR v v' n W O → OutAt H' o O → (∀ a, o = .ref a → H a = none) → Q o H'
theorem w_xf {a C dd : Addr} {n : Str} {te : TE} {σ : L2.St} {H : Hp} {Q : VK} (h : te σ H fun x H1 => x = .ref a ∧ (.ref C : Value) = .ref C ∧ ∃ (d2 : Addr) (fs : List (Str × V)) (v : V), some dd = some d2 ∧ H1 d2 = some (.xd fs) ∧ fs.lookup n = some v ∧ Q v H1) : tXf a (.ref C) (some dd) C n te σ H Q := h
theorem ok_law_told (T : Txt K mg) (TE : Errs P K mg) : FnOk P w K mg base CX0 4 T.f__law_told T.d__law_told ["vault", "word", "name", "rest"] (sp_law_told T.C_Vault K) := by
  refine T.F__law_told.ok sc_law_told len4 (fun cdv A outer s H vs Q E hr h => ?_)
  have nd := sc_law_told.nd
  have hu := hu_of hr
  obtain ⟨_, _, _, d, rfl, j, v, n, W, rfl, rfl, rfl, hd, hv, ok, n60, l64, k⟩ := h
  refine ⟨_,
      (pss_one (ps_try_allN (Wout := fun _ _ _ _ => False) rfl rfl nd takesNoN (fun W pn xe tk po => 
        (pss_cons (ps_if (pt_cmpR op_eq (pv 1) pe_str (nomark _)) 
          (pss_one (ps_ret (pe_methT (pv 0) T.c_Vault T.m_Vault_down (ok_Vault_down T TE) (hr.mono (by decide)) T.k_Vault_down (fun σ => L2N.passAt tk σ) (pa_cons (pv 2) pa_nil)))) pss_nil) 
        (pss_cons (ps_if (pt_cmpR op_eq (pv 1) pe_str (nomark _)) 
          (pss_one (ps_ret (pe_methT (pv 0) T.c_Vault T.m_Vault_up (ok_Vault_up T TE) (hr.mono (by decide)) T.k_Vault_up (fun σ => L2N.passAt tk σ) (pa_cons (pv 2) pa_nil)))) pss_nil) 
        (pss_cons (ps_if (pt_cmpR op_eq (pv 1) pe_str (nomark _)) 
          (pss_one (ps_ret (pe_meth0 (pv 0) T.c_Vault T.m_Vault_heal (ok_Vault_heal T) (hr.mono (by decide)) T.k_Vault_heal .nil pass0))) pss_nil) 
        (pss_cons (ps_if (pt_cmpR op_eq (pv 1) pe_str (nomark _)) 
          (pss_one (ps_ret (pe_methT (pv 0) T.c_Vault T.m_Vault_store (ok_Vault_store T TE) (hr.mono (by decide)) T.k_Vault_store (fun σ => L2N.passAt tk σ) (pa_cons (pv 2) (pa_cons (pv 3) pa_nil))))) pss_nil) 
        (pss_cons (ps_if (pt_cmpR op_eq (pv 1) pe_str (nomark _)) 
          (pss_one (ps_ret (pe_methT (pv 0) T.c_Vault T.m_Vault_destroy (ok_Vault_destroy T TE) (hr.mono (by decide)) T.k_Vault_destroy (fun σ => L2N.passAt tk σ) (pa_cons (pv 2) pa_nil)))) pss_nil) 
        (pss_one (ps_ret (pe_meth (pv 0) T.c_Vault T.m_Vault_forget (ok_Vault_forget T) (hr.mono (by decide)) T.k_Vault_forget .nil pass0 (pa_cons (pv 3) pa_nil)))))))))) (HdsN.bare ⟨rfl, by decide, Or.inl TE.g_HoldersDown⟩ (fun a oe cls d pn hz hf => 
        (pss_one (ps_ret (pe_tupZ (pa_cons pe_str (pa_cons pe_str pa_nil)))))) (HdsN.named (i := 4) rfl rfl ⟨rfl, by decide, Or.inl TE.g_NoHolder⟩ (fun a oe cls d pn hz hf => 
        (pss_one (ps_ret (pe_tupZ (pa_cons pe_str (pa_cons pe_str (pa_cons (pe_xf TE.x_NoHolder TE.E_NoHolder.noN hz.zc hf (pv 4)) pa_nil))))))) (HdsN.named (i := 4) rfl rfl ⟨rfl, by decide, Or.inl TE.g_NameTaken⟩ (fun a oe cls d pn hz hf => 
        (pss_one (ps_ret (pe_tupZ (pa_cons pe_str (pa_cons pe_str (pa_cons (pe_xf TE.x_NameTaken TE.E_NameTaken.noN hz.zc hf (pv 4)) pa_nil))))))) (HdsN.named (i := 4) rfl rfl ⟨rfl, by decide, Or.inl TE.g_LastHolder⟩ (fun a oe cls d pn hz hf => 
        (pss_one (ps_ret (pe_tupZ (pa_cons pe_str (pa_cons pe_str (pa_cons (pe_xf TE.x_LastHolder TE.E_LastHolder.noN hz.zc hf (pv 4)) pa_nil))))))) HdsN.nil)))))), ?_⟩
  change (_ : TS) _ [some _, some _, some _, some _, none] _
  try dsimp only [cxOf, Cx.nox, Cx.wish]
  obtain ⟨dx, h1⟩ := hv.ob
  have no_ : ∀ {x : Addr}, x ∉ ([] : List Addr) := List.not_mem_nil
  have fin : ∀ {w m : Str} {H1 H2 : Hp} {t : Addr}, Ext [] H H1 → Ext [] H1 H2 → H1 t = none → H2 t = some (.tup [.str (Str.ofString "refused"), .str w, .str m]) → TR v v n W (rfs w m) → Q (.ref t) H2 := fun e1 e2 nt g tr =>
    k v _ _ _ ((Stp.refl hv).ext0 (e1.trans e2)) ok tr ⟨_, rfl, g, by show 3 ≤ 3; decide⟩ fun a z => by cases z; exact e1.free nt
  cases W with
  | down =>
    walk_at "go"; walk_at "if"
    refine w_t (by decide +kernel) ?_
    walk_at "go"
    refine w_meth h1 no_Vault_down ?_
    walk_at "go"
    refine w_down hv ok (fun hn dd H1 e1 g1 => ?_) fun hn H1 e1 v1 => ?_
    · refine ⟨false, TE.n_NoHolder_HoldersDown, fun z => (nomatch z), fun _ => ⟨true, TE.t_NoHolder, fun _ a na => ?_, fun z => (nomatch z)⟩⟩
      dsimp only [behindAs]
      walk_at "go"
      refine w_xf ?_
      walk_at "go"
      refine ⟨rfl, rfl, dd, _, _, rfl, g1, lk_same, ?_⟩
      walk_at "go"
      exact ⟨sz (by show 3 ≤ _; decide), w_alc fun t H2 e2 nt g2 => fin e1 e2 nt g2 (.inl ⟨hn, .refl, rfl⟩)⟩
    · exact k _ H1 _ _ ⟨e1, v1, fun a m => .inl m⟩ ⟨ok.nn, ok.lg, ok.kr, ok.kn, ok.sz⟩ (.inr ⟨hn, rfl, rfl, rfl, rfl, rfl, rfl, rfl⟩) rfl (fun a z => (nomatch z))
  | up =>
    walk_at "go"; walk_at "if"
    refine w_f (by decide +kernel) ?_
    walk_at "go"; walk_at "if"
    refine w_t (by decide +kernel) ?_
    walk_at "go"
    refine w_meth h1 no_Vault_up ?_
    walk_at "go"
    refine w_up hv ok (fun hn dd H1 e1 g1 => ?_) fun hn v' H1 st ok' n1 n2 n3 n4 n5 n6 => ?_
    · refine ⟨false, TE.n_NoHolder_HoldersDown, fun z => (nomatch z), fun _ => ⟨true, TE.t_NoHolder, fun _ a na => ?_, fun z => (nomatch z)⟩⟩
      dsimp only [behindAs]
      walk_at "go"
      refine w_xf ?_
      walk_at "go"
      refine ⟨rfl, rfl, dd, _, _, rfl, g1, lk_same, ?_⟩
      walk_at "go"
      exact ⟨sz (by show 3 ≤ _; decide), w_alc fun t H2 e2 nt g2 => fin e1 e2 nt g2 (.inl ⟨hn, .refl, rfl⟩)⟩
    · exact k _ H1 _ _ st ok' (.inr ⟨hn, rfl, n1, n2, n3, n4, n5, n6⟩) rfl (fun a z => (nomatch z))
  | heal =>
    walk_at "go"; walk_at "if"
    refine w_f (by decide +kernel) ?_
    walk_at "go"; walk_at "if"
    refine w_f (by decide +kernel) ?_
    walk_at "go"; walk_at "if"
    refine w_t (by decide +kernel) ?_
    walk_at "go"
    refine w_meth h1 no_Vault_heal ?_
    walk_at "go"
    refine w_heal hv ok l64 fun Kn H1 e1 v1 hi hc => ?_
    refine k _ H1 _ _ ⟨e1, v1, fun a m => .inl m⟩ (hi.ok ok) ⟨rfl, rfl, rfl, fun n hn m => ⟨hi.hi n hn m, fun z => ?_⟩, rfl, rfl, rfl⟩ rfl (fun a z => (nomatch z))
    rcases z with z | ⟨z, u⟩
    · exact hi.lo n hn m z
    · exact hc n hn z m u
  | store r =>
    obtain rfl : d = .str r := hd
    walk_at "go"; walk_at "if"
    refine w_f (show decide (Str.ofString "store" = Str.ofString "down") = false by decide +kernel) ?_
    walk_at "go"; walk_at "if"
    refine w_f (show decide (Str.ofString "store" = Str.ofString "up") = false by decide +kernel) ?_
    walk_at "go"; walk_at "if"
    refine w_f (show decide (Str.ofString "store" = Str.ofString "heal") = false by decide +kernel) ?_
    walk_at "go"; walk_at "if"
    refine w_t (show decide (Str.ofString "store" = Str.ofString "store") = true by decide +kernel) ?_
    walk_at "go"
    refine w_meth h1 no_Vault_store ?_
    walk_at "go"
    refine w_store hv ok (fun hn dd H1 e1 g1 => ?_) (fun hn hm dd H1 e1 g1 => ?_) fun hn hm v' H1 st n1 n2 n3 n4 n5 n6 => ?_
    · refine ⟨false, TE.n_NoHolder_HoldersDown, fun z => (nomatch z), fun _ => ⟨true, TE.t_NoHolder, fun _ a na => ?_, fun z => (nomatch z)⟩⟩
      dsimp only [behindAs]
      walk_at "go"
      refine w_xf ?_
      walk_at "go"
      refine ⟨rfl, rfl, dd, _, _, rfl, g1, lk_same, ?_⟩
      walk_at "go"
      exact ⟨sz (by show 3 ≤ _; decide), w_alc fun t H2 e2 nt g2 => fin e1 e2 nt g2 (.inl ⟨hn, .refl, rfl⟩)⟩
    · refine ⟨false, TE.n_NameTaken_HoldersDown, fun z => (nomatch z), fun _ => ⟨false, TE.n_NameTaken_NoHolder, fun z => (nomatch z), fun _ => ⟨true, TE.t_NameTaken, fun _ a na => ?_, fun z => (nomatch z)⟩⟩⟩
      dsimp only [behindAs]
      walk_at "go"
      refine w_xf ?_
      walk_at "go"
      refine ⟨rfl, rfl, dd, _, _, rfl, g1, lk_same, ?_⟩
      walk_at "go"
      exact ⟨sz (by show 3 ≤ _; decide), w_alc fun t H2 e2 nt g2 => fin e1 e2 nt g2 (.inr (.inl ⟨hn, hm, .refl, rfl⟩))⟩
    · have nd' : v'.names.Nodup := by
        rw [n1]
        exact List.nodup_append.mpr ⟨ok.nn, List.pairwise_singleton _ _, fun a ha b hb e => hm (by rw [List.mem_singleton] at hb; rw [← hb, ← e]; exact ha)⟩
      have kk : ∀ a ∈ v'.names, ∃ b ∈ v.names, v'.ks a = v.ks b := fun a ha => by
        rw [n3]
        by_cases z : a = r
        · subst z; rw [setF_at]; exact ⟨n, hn, rfl⟩
        · rw [setF_ne z]
          rw [n1] at ha
          rcases List.mem_append.mp ha with q | q
          · exact ⟨a, q, rfl⟩
          · exact absurd (List.mem_singleton.mp q) z
      have ok' : VOk v' := by
        refine ⟨nd', by rw [n4, n5]; exact ok.lg, fun a ha y hy => ?_, fun a ha => ?_, ?_, by rw [n4]; exact ok.sz.2⟩
        · obtain ⟨b, hb, e⟩ := kk a ha
          rw [e] at hy
          rw [n4]; exact ok.kr b hb y hy
        · obtain ⟨b, hb, e⟩ := kk a ha
          rw [e]; exact ok.kn b hb
        · have := congrArg List.length n1
          rw [List.length_append] at this
          have l2 : v'.names.length = v'.hs.length := List.length_map _
          have l3 : [r].length = 1 := rfl
          omega
      exact k _ H1 _ _ st ok' (.inr (.inr ⟨hn, hm, rfl, n1, n2, n3, n4, n5, n6⟩)) rfl (fun a z => (nomatch z))
  | destroy =>
    walk_at "go"; walk_at "if"
    refine w_f (by decide +kernel) ?_
    walk_at "go"; walk_at "if"
    refine w_f (by decide +kernel) ?_
    walk_at "go"; walk_at "if"
    refine w_f (by decide +kernel) ?_
    walk_at "go"; walk_at "if"
    refine w_f (by decide +kernel) ?_
    walk_at "go"; walk_at "if"
    refine w_t (by decide +kernel) ?_
    walk_at "go"
    refine w_meth h1 no_Vault_destroy ?_
    walk_at "go"
    refine w_destroy hv ok (fun hn dd H1 e1 g1 => ?_) (fun hn hm dd H1 e1 g1 => ?_) fun hn hm v' H1 st n1 n2 n3 n4 n5 n6 => ?_
    · refine ⟨false, TE.n_NoHolder_HoldersDown, fun z => (nomatch z), fun _ => ⟨true, TE.t_NoHolder, fun _ a na => ?_, fun z => (nomatch z)⟩⟩
      dsimp only [behindAs]
      walk_at "go"
      refine w_xf ?_
      walk_at "go"
      refine ⟨rfl, rfl, dd, _, _, rfl, g1, lk_same, ?_⟩
      walk_at "go"
      exact ⟨sz (by show 3 ≤ _; decide), w_alc fun t H2 e2 nt g2 => fin e1 e2 nt g2 (.inl ⟨hn, .refl, rfl⟩)⟩
    · refine ⟨false, TE.n_LastHolder_HoldersDown, fun z => (nomatch z), fun _ => ⟨false, TE.n_LastHolder_NoHolder, fun z => (nomatch z), fun _ => ⟨false, TE.n_LastHolder_NameTaken, fun z => (nomatch z), fun _ => ⟨true, TE.t_LastHolder, fun _ a na => ?_, fun z => (nomatch z)⟩⟩⟩⟩
      dsimp only [behindAs]
      walk_at "go"
      refine w_xf ?_
      walk_at "go"
      refine ⟨rfl, rfl, dd, _, _, rfl, g1, lk_same, ?_⟩
      walk_at "go"
      exact ⟨sz (by show 3 ≤ _; decide), w_alc fun t H2 e2 nt g2 => fin e1 e2 nt g2 (.inr (.inl ⟨hn, hm, .refl, rfl⟩))⟩
    · have sub : ∀ a ∈ v'.names, a ∈ v.names := fun a m => by rw [n1] at m; exact (List.mem_filter.mp m).1
      have ok' : VOk v' := by
        refine ⟨by rw [n1]; exact ok.nn.filter _, by rw [n4, n5]; exact ok.lg, fun a ha y hy => ?_, fun a ha => ?_, ?_, by rw [n4]; exact ok.sz.2⟩
        · rw [n3] at hy
          rw [n4]; exact ok.kr a (sub a ha) y hy
        · rw [n3]; exact ok.kn a (sub a ha)
        · have := congrArg List.length n1
          have l2 := List.length_filter_le (fun o => decide (o ≠ n)) v.names
          have l3 : v'.names.length = v'.hs.length := List.length_map _
          omega
      exact k _ H1 _ _ st ok' (.inr (.inr ⟨hn, hm, rfl, n1, n2, n3, n4, n5, n6⟩)) rfl (fun a z => (nomatch z))
  | forget pe =>
    obtain rfl : d = .int pe := hd
    walk_at "go"; walk_at "if"
    refine w_f (show decide (Str.ofString "forget" = Str.ofString "down") = false by decide +kernel) ?_
    walk_at "go"; walk_at "if"
    refine w_f (show decide (Str.ofString "forget" = Str.ofString "up") = false by decide +kernel) ?_
    walk_at "go"; walk_at "if"
    refine w_f (show decide (Str.ofString "forget" = Str.ofString "heal") = false by decide +kernel) ?_
    walk_at "go"; walk_at "if"
    refine w_f (show decide (Str.ofString "forget" = Str.ofString "store") = false by decide +kernel) ?_
    walk_at "go"; walk_at "if"
    refine w_f (show decide (Str.ofString "forget" = Str.ofString "destroy") = false by decide +kernel) ?_
    walk_at "go"
    refine w_meth h1 no_Vault_forget ?_
    walk_at "go"
    refine w_forget hv ok fun v' H1 r ys st ok' n1 n2 n3 n4 n5 n6 nr hr sr mr => ?_
    have ys64 : ys.length < 64 := names_small ok' (sr.imp fun {a b} h e => by rw [e] at h; exact List.lt_irrefl _ h) fun n m => ((mr n).mp m).1
    exact k v' H1 _ _ st ok' ⟨n1, n2, n3, n4, n5, n6, ys, rfl, sr, mr⟩ ⟨r, rfl, hr, by omega⟩ fun a z => by cases z; exact nr

/-! ### two vaults that are alike -/
structure SimV (v1 v2 : Vs) : Prop where
  nm : v2.names = v1.names
  up : ∀ n ∈ v1.names, v2.up n = v1.up n
  ks : ∀ n ∈ v1.names, ∀ m, m ∈ v2.ks n ↔ m ∈ v1.ks n
  pn : v2.pn = v1.pn
  gn : v2.gn = v1.gn
theorem SimV.gnA {v1 v2 : Vs} (s : SimV v1 v2) (m : Int) : gnA v2 m = gnA v1 m := by unfold Law.gnA; rw [s.gn]
theorem SimV.pnA {v1 v2 : Vs} (s : SimV v1 v2) (m : Int) : pnA v2 m = pnA v1 m := by unfold Law.pnA; rw [s.pn]
theorem any_set {l m : List Int} {f : Int → Bool} (h : ∀ x, x ∈ l ↔ x ∈ m) : l.any f = m.any f := by
  cases a : m.any f with
  | true =>
    obtain ⟨x, hx, e⟩ := List.any_eq_true.mp a
    exact List.any_eq_true.mpr ⟨x, (h x).mpr hx, e⟩
  | false =>
    rw [List.any_eq_false] at a ⊢
    exact fun x hx => a x ((h x).mp hx)
theorem SimV.trN {v1 v2 : Vs} (s : SimV v1 v2) {n : Str} (hn : n ∈ v1.names) (pe : Int) : trN v2 n pe = trN v1 n pe := by
  unfold Law.trN trOf
  rw [any_set (s.ks n hn)]
  congr 1
  funext m
  rw [s.gnA, s.pnA]
theorem SimV.gd {v1 v2 : Vs} (s : SimV v1 v2) (pe : Int) : gdA v2 pe ↔ gdA v1 pe := by
  unfold gdA
  rw [s.pn, s.nm]
  refine and_congr (forall_congr' fun n => forall_congr' fun _ => forall_congr' fun _ => ?_) (forall_congr' fun n => ?_)
  · rw [s.pnA, s.gnA]
  · exact ⟨fun h hn => (s.trN hn pe) ▸ h hn, fun h hn => (s.trN hn pe).symm ▸ h hn⟩
theorem SimV.only {v1 v2 : Vs} (s : SimV v1 v2) (n : Str) (m : Int) : onlyN v2 n m ↔ onlyN v1 n m := by
  unfold onlyN
  rw [s.gnA, s.nm]
  refine and_congr Iff.rfl (forall_congr' fun o => ⟨fun h ho => ?_, fun h ho => ?_⟩)
  · rw [← s.ks o ho]; exact h ho
  · rw [s.ks o ho]; exact h ho
theorem SimV.shr {v1 v2 : Vs} (s : SimV v1 v2) {n : Str} (hn : n ∈ v1.names) (m : Int) : m ∈ shrK v2 n ↔ m ∈ shrK v1 n := by
  unfold shrK
  rw [List.mem_filter, List.mem_filter, s.ks n hn, s.gnA]
theorem SimV.re {v1 v2 v1' v2' : Vs} (s : SimV v1 v2) (n1 : v1'.names = v1.names) (n2 : v2'.names = v2.names) (u1 : v1'.up = v1.up) (u2 : v2'.up = v2.up) (k : ∀ n ∈ v1.names, ∀ m, m ∈ v2'.ks n ↔ m ∈ v1'.ks n) (p1 : v1'.pn = v1.pn) (p2 : v2'.pn = v2.pn) (g : v2'.gn = v1'.gn) : SimV v1' v2' :=
  ⟨by rw [n1, n2, s.nm], fun n hn => by rw [u1, u2]; exact s.up n (n1 ▸ hn), fun n hn => k n (n1 ▸ hn), by rw [p1, p2, s.pn], g⟩
theorem Sam.sim {v1 v2 v1' v2' : Vs} (s : SimV v1 v2) (a : Sam v1 v1') (b : Sam v2 v2') : SimV v1' v2' :=
  s.re a.nm b.nm a.up b.up (fun n hn m => by rw [a.ks, b.ks]; exact s.ks n hn m) a.pn b.pn (by rw [a.gn, b.gn, s.gn])
theorem HU.sim {v1 v2 : Vs} (s : SimV v1 v2) (m : Int) : HU v2 m ↔ HU v1 m := by
  unfold HU
  rw [s.nm]
  exact ⟨fun ⟨n, hn, u, k⟩ => ⟨n, hn, s.up n hn ▸ u, (s.ks n hn m).mp k⟩, fun ⟨n, hn, u, k⟩ => ⟨n, hn, (s.up n hn).symm ▸ u, (s.ks n hn m).mpr k⟩⟩
theorem TR.PP {v v' : Vs} {n : Str} {W : Wd} {O : Out} (h : TR v v' n W O) : v'.P = v.P := by
  cases W with
  | down => rcases h with ⟨_, s, _⟩ | ⟨_, _, _, _, _, _, _, p⟩; exact s.P; exact p
  | up => rcases h with ⟨_, s, _⟩ | ⟨_, _, _, _, _, _, _, p⟩; exact s.P; exact p
  | heal => exact h.2.2.2.2.2.2
  | store m => rcases h with ⟨_, s, _⟩ | ⟨_, _, s, _⟩ | ⟨_, _, _, _, _, _, _, _, p⟩; exact s.P; exact s.P; exact p
  | destroy => rcases h with ⟨_, s, _⟩ | ⟨_, _, s, _⟩ | ⟨_, _, _, _, _, _, _, _, p⟩; exact s.P; exact s.P; exact p
  | forget pe => exact h.2.2.2.2.2.1
theorem TR.pn {v v' : Vs} {n : Str} {W : Wd} {O : Out} (h : TR v v' n W O) : v'.pn = v.pn := by
  cases W with
  | down => rcases h with ⟨_, s, _⟩ | ⟨_, _, _, _, _, p, _, _⟩; exact s.pn; exact p
  | up => rcases h with ⟨_, s, _⟩ | ⟨_, _, _, _, _, p, _, _⟩; exact s.pn; exact p
  | heal => exact h.2.2.2.2.1
  | store m => rcases h with ⟨_, s, _⟩ | ⟨_, _, s, _⟩ | ⟨_, _, _, _, _, _, p, _, _⟩; exact s.pn; exact s.pn; exact p
  | destroy => rcases h with ⟨_, s, _⟩ | ⟨_, _, s, _⟩ | ⟨_, _, _, _, _, _, p, _, _⟩; exact s.pn; exact s.pn; exact p
  | forget pe => exact h.2.2.2.1
def Wd.fg (pe : Int) : Wd → Bool
  | .forget p => decide (pe = p)
  | _ => false
theorem TR.gn {v v' : Vs} {n : Str} {W : Wd} {O : Out} (h : TR v v' n W O) : v'.gn = v.gn ∧ (∀ pe, W.fg pe = false) ∨ ∃ pe, W = .forget pe ∧ v'.gn = fgG v pe := by
  cases W with
  | down => rcases h with ⟨_, s, _⟩ | ⟨_, _, _, _, _, _, p, _⟩; exact .inl ⟨s.gn, fun _ => rfl⟩; exact .inl ⟨p, fun _ => rfl⟩
  | up => rcases h with ⟨_, s, _⟩ | ⟨_, _, _, _, _, _, p, _⟩; exact .inl ⟨s.gn, fun _ => rfl⟩; exact .inl ⟨p, fun _ => rfl⟩
  | heal => exact .inl ⟨h.2.2.2.2.2.1, fun _ => rfl⟩
  | store m => rcases h with ⟨_, s, _⟩ | ⟨_, _, s, _⟩ | ⟨_, _, _, _, _, _, _, p, _⟩; exact .inl ⟨s.gn, fun _ => rfl⟩; exact .inl ⟨s.gn, fun _ => rfl⟩; exact .inl ⟨p, fun _ => rfl⟩
  | destroy => rcases h with ⟨_, s, _⟩ | ⟨_, _, s, _⟩ | ⟨_, _, _, _, _, _, _, p, _⟩; exact .inl ⟨s.gn, fun _ => rfl⟩; exact .inl ⟨s.gn, fun _ => rfl⟩; exact .inl ⟨p, fun _ => rfl⟩
  | forget pe => exact .inr ⟨pe, rfl, h.2.2.2.2.1⟩
theorem TR.nm {v v' : Vs} {n : Str} {W : Wd} {O : Out} (h : TR v v' n W O) : ∀ a ∈ v'.names, a ∈ v.names ∨ W = .store a := by
  cases W with
  | down => rcases h with ⟨_, s, _⟩ | ⟨_, _, p, _⟩; exact fun a m => .inl (s.nm ▸ m); exact fun a m => .inl (p ▸ m)
  | up => rcases h with ⟨_, s, _⟩ | ⟨_, _, p, _⟩; exact fun a m => .inl (s.nm ▸ m); exact fun a m => .inl (p ▸ m)
  | heal => exact fun a m => .inl (h.2.1 ▸ m)
  | store r =>
    rcases h with ⟨_, s, _⟩ | ⟨_, _, s, _⟩ | ⟨_, _, _, p, _⟩
    · exact fun a m => .inl (s.nm ▸ m)
    · exact fun a m => .inl (s.nm ▸ m)
    · intro a m
      rw [p] at m
      rcases List.mem_append.mp m with m | m
      · exact .inl m
      · rw [List.mem_singleton.mp m]; exact .inr rfl
  | destroy =>
    rcases h with ⟨_, s, _⟩ | ⟨_, _, s, _⟩ | ⟨_, _, _, p, _⟩
    · exact fun a m => .inl (s.nm ▸ m)
    · exact fun a m => .inl (s.nm ▸ m)
    · exact fun a m => .inl (by rw [p] at m; exact (List.mem_filter.mp m).1)
  | forget pe => exact fun a m => .inl (h.1 ▸ m)
theorem TR.sim {v1 v2 v1' v2' : Vs} {n : Str} {W : Wd} {O1 O2 : Out} (s : SimV v1 v2) (ok : VOk v1) (h1 : TR v1 v1' n W O1) (h2 : TR v2 v2' n W O2) : O2 = O1 ∧ SimV v1' v2' := by
  have nmI : ∀ a : Str, a ∈ v2.names ↔ a ∈ v1.names := fun a => by rw [s.nm]
  cases W with
  | down =>
    rcases h1 with ⟨a1, b1, rfl⟩ | ⟨a1, rfl, c1, d1, e1, f1, g1, _⟩ <;> rcases h2 with ⟨a2, b2, rfl⟩ | ⟨a2, rfl, c2, d2, e2, f2, g2, _⟩
    · exact ⟨rfl, b1.sim s b2⟩
    · exact absurd ((nmI n).mp a2) a1
    · exact absurd ((nmI n).mpr a1) a2
    · refine ⟨rfl, ⟨by rw [c1, c2, s.nm], fun m hm => ?_, fun m hm x => by rw [e1, e2]; exact s.ks m (c1 ▸ hm) x, by rw [f1, f2, s.pn], by rw [g1, g2, s.gn]⟩⟩
      rw [d1, d2]
      by_cases z : m = n
      · subst z; rw [setF_at, setF_at]
      · rw [setF_ne z, setF_ne z]; exact s.up m (c1 ▸ hm)
  | up =>
    rcases h1 with ⟨a1, b1, rfl⟩ | ⟨a1, rfl, c1, d1, e1, f1, g1, _⟩ <;> rcases h2 with ⟨a2, b2, rfl⟩ | ⟨a2, rfl, c2, d2, e2, f2, g2, _⟩
    · exact ⟨rfl, b1.sim s b2⟩
    · exact absurd ((nmI n).mp a2) a1
    · exact absurd ((nmI n).mpr a1) a2
    · refine ⟨rfl, ⟨by rw [c1, c2, s.nm], fun m hm => ?_, fun m hm x => ?_, by rw [f1, f2, s.pn], by rw [g1, g2, s.gn]⟩⟩
      · rw [d1, d2]
        by_cases z : m = n
        · subst z; rw [setF_at, setF_at]
        · rw [setF_ne z, setF_ne z]; exact s.up m (c1 ▸ hm)
      · rw [e1, e2]
        by_cases z : m = n
        · subst z; rw [setF_at, setF_at]; exact s.shr a1 x
        · rw [setF_ne z, setF_ne z]; exact s.ks m (c1 ▸ hm) x
  | heal =>
    obtain ⟨rfl, c1, d1, e1, f1, g1, _⟩ := h1
    obtain ⟨rfl, c2, d2, e2, f2, g2, _⟩ := h2
    refine ⟨rfl, s.re c1 c2 d1 d2 (fun m hm x => ?_) f1 f2 (by rw [g1, g2, s.gn])⟩
    rw [e1 m hm, e2 m (by rw [s.nm]; exact hm), s.ks m hm, s.up m hm, HU.sim s]
  | store r =>
    rcases h1 with ⟨a1, b1, rfl⟩ | ⟨a1, q1, b1, rfl⟩ | ⟨a1, q1, rfl, c1, d1, e1, f1, g1, _⟩ <;> rcases h2 with ⟨a2, b2, rfl⟩ | ⟨a2, q2, b2, rfl⟩ | ⟨a2, q2, rfl, c2, d2, e2, f2, g2, _⟩
    · exact ⟨rfl, b1.sim s b2⟩
    · exact absurd ((nmI n).mp a2) a1
    · exact absurd ((nmI n).mp a2) a1
    · exact absurd ((nmI n).mpr a1) a2
    · exact ⟨rfl, b1.sim s b2⟩
    · exact absurd ((nmI r).mpr q1) q2
    · exact absurd ((nmI n).mpr a1) a2
    · exact absurd ((nmI r).mp q2) q1
    · refine ⟨rfl, ⟨by rw [c1, c2, s.nm], fun m hm => ?_, fun m hm x => ?_, by rw [f1, f2, s.pn], by rw [g1, g2, s.gn]⟩⟩
      · rw [d1, d2]
        by_cases z : m = r
        · subst z; rw [setF_at, setF_at]
        · rw [setF_ne z, setF_ne z]
          rw [c1] at hm
          rcases List.mem_append.mp hm with q | q
          · exact s.up m q
          · exact absurd (List.mem_singleton.mp q) z
      · rw [e1, e2]
        by_cases z : m = r
        · subst z; rw [setF_at, setF_at]; exact s.ks n a1 x
        · rw [setF_ne z, setF_ne z]
          rw [c1] at hm
          rcases List.mem_append.mp hm with q | q
          · exact s.ks m q x
          · exact absurd (List.mem_singleton.mp q) z
  | destroy =>
    have ex : n ∈ v1.names → ((∃ m ∈ v2.ks n, onlyN v2 n m) ↔ ∃ m ∈ v1.ks n, onlyN v1 n m) := fun hn => ⟨fun ⟨m, a, b⟩ => ⟨m, (s.ks n hn m).mp a, (s.only n m).mp b⟩, fun ⟨m, a, b⟩ => ⟨m, (s.ks n hn m).mpr a, (s.only n m).mpr b⟩⟩
    rcases h1 with ⟨a1, b1, rfl⟩ | ⟨a1, q1, b1, rfl⟩ | ⟨a1, q1, rfl, c1, d1, e1, f1, g1, _⟩ <;> rcases h2 with ⟨a2, b2, rfl⟩ | ⟨a2, q2, b2, rfl⟩ | ⟨a2, q2, rfl, c2, d2, e2, f2, g2, _⟩
    · exact ⟨rfl, b1.sim s b2⟩
    · exact absurd ((nmI n).mp a2) a1
    · exact absurd ((nmI n).mp a2) a1
    · exact absurd ((nmI n).mpr a1) a2
    · exact ⟨rfl, b1.sim s b2⟩
    · obtain ⟨m, x, y⟩ := (ex a1).mpr q1
      exact absurd y (q2 m x)
    · exact absurd ((nmI n).mpr a1) a2
    · obtain ⟨m, x, y⟩ := (ex a1).mp q2
      exact absurd y (q1 m x)
    · have sub : ∀ a ∈ v1'.names, a ∈ v1.names := fun a m => by rw [c1] at m; exact (List.mem_filter.mp m).1
      exact ⟨rfl, ⟨by rw [c1, c2, s.nm], fun m hm => by rw [d1, d2]; exact s.up m (sub m hm), fun m hm x => by rw [e1, e2]; exact s.ks m (sub m hm) x, by rw [f1, f2, s.pn], by rw [g1, g2, s.gn]⟩⟩
  | forget pe =>
    obtain ⟨c1, d1, e1, f1, g1, _, ys1, rfl, p1, m1⟩ := h1
    obtain ⟨c2, d2, e2, f2, g2, _, ys2, rfl, p2, m2⟩ := h2
    have gg : fgG v2 pe = fgG v1 pe := by unfold fgG; rw [s.pn, s.gn]
    have sim : SimV v1' v2' := s.re c1 c2 d1 d2 (fun m hm x => by
      rw [e1 m hm, e2 m (by rw [s.nm]; exact hm), s.up m hm]
      have key : x ∈ shrK { v2 with gn := fgG v2 pe } m ↔ x ∈ shrK { v1 with gn := fgG v1 pe } m := by
        unfold shrK
        rw [List.mem_filter, List.mem_filter]
        refine and_congr (s.ks m hm x) ?_
        unfold Law.gnA
        show (!((fgG v2 pe)[_]?).getD false) = true ↔ (!((fgG v1 pe)[_]?).getD false) = true
        rw [gg]
      cases v1.up m with
      | true => exact key
      | false => exact s.ks m hm x) f1 f2 (by rw [g1, g2, gg])
    refine ⟨?_, sim⟩
    rw [str_srt_eq p2 p1 fun x => by
      rw [m1, m2, sim.nm]
      exact and_congr_right fun hx => by rw [sim.trN hx]]

/-! ### seal, called while an exception is handled: no holder is up -/
theorem w_mH {C : Addr} {m : Str} {sp : Sp} {E : L2.St → XK} {ta : TE} {t : TA} {σ : L2.St} {H : Hp} {Q : VK} (h : ta σ H fun x H1 => ∃ a dx fs, x = .ref a ∧ H1 a = some (.ins C dx fs) ∧ fs.lookup m = none ∧ t σ H1 fun vs H2 => sp (x :: vs) H2 Q (E σ)) : L2H.tMethH C m sp E ta t σ H Q := h
theorem okH_Vault_up_names (T : Txt K mg) : L2H.FnH P w K mg base CX0 1 T.f_Vault_up_names T.d_Vault_up_names ["self"] (sp_Vault_up_names T.C_Vault K) := by
  refine T.F_Vault_up_names.okH sc_Vault_up_names len1 (fun cdv A outer s H vs Q E p hp hr h => ?_)
  have nd := sc_Vault_up_names.nd
  have hu := hu_ofH hr
  obtain ⟨_, rfl, j, v, rfl, hv, ok, k⟩ := h
  refine ⟨_,
      (pss_one (ps_ret (pe_lcH (own := [("name", 1)]) ⟨p, hp, List.mem_cons_self⟩ nd (pi_listHK (K := K) rfl (pe_callB (zc_sortDH ⟨p, hp, List.mem_cons_self⟩) (by rfl) T.b_sorted (by decide +kernel) (pa_cons (pe_fld (pv 0) rfl) pa_nil))) (blkOk_by (own := [("name", 1)]) (N := ["self", "name"]) (sc := defScope s_Vault_up_names) (by decide +kernel)) (fun _ _ _ _ _ _ => (pg_name (i := 1) nd rfl (Or.inl rfl))) (fun _ _ _ _ _ _ => (pts_one (pt_val (pe_dget hu (pe_fldK (K := K) rfl (pv 0)) (pv 1) (fun _ _ => rfl))))) (fun _ _ _ _ _ _ => (pv 1))))), ?_⟩
  change (_ : TS) _ [some _, none] _
  try dsimp only [L2H.cxH, cxOf, Cx.nox, Cx.wish]
  obtain ⟨dx, h1⟩ := hv.ob
  have h2 := hv.hp
  have no_ : ∀ {x : Addr}, x ∉ ([] : List Addr) := List.not_mem_nil
  walk_at "go"
  refine w_sortD (ks := v.names) h2 (by rw [List.map_map]; unfold Vs.names; rw [List.map_map]; rfl) (by unfold Vs.names; rw [List.length_map]; exact ok.sz.1) fun ys pm so => w_alc fun L H1 e1 n1 hL => ?_
  have ynd : ys.Nodup := pm.nodup_iff.mpr ok.nn
  walk_at "go"
  refine ⟨_, rfl, ⟨_, sql hL⟩, fun D nD => ?_⟩
  refine z_lc_list (xs := ys.map V.str) (fun i acc H' => Ext [] H1 H' ∧ acc = ((ys.take i).filter fun n => v.up n).map V.str) nD (fun H' e => ⟨e, rfl⟩) (fun i acc H' _ ⟨e, _⟩ => sql (e.keep _ _ hL no_)) ?_ ?_
  · rintro Nx i x acc H2 hx ⟨e2, rfl⟩ hD hN
    rw [List.getElem?_map, Option.map_eq_some_iff] at hx
    obtain ⟨n, hn, rfl⟩ := hx
    have hm : n ∈ v.names := pm.mem_iff.mp (List.mem_of_getElem? hn)
    obtain ⟨h, eh⟩ := hOf_mem (hs := v.hs) hm
    obtain ⟨hm2, rfl⟩ := hOf_some eh
    have e02 := e1.trans e2
    have h12 := e02.keep _ _ h1 no_
    have hu2 := e02.keep _ _ hv.hu no_
    walk_at "go"
    refine ⟨rfl, ?_⟩
    walk_at "go"
    refine w_dgU hu2 eh ?_
    have tk : (ys.take (i + 1)).filter (fun n => v.up n) = (ys.take i).filter (fun n => v.up n) ++ if v.up h.nm then [h.nm] else [] := by
      rw [List.take_add_one, hn, List.filter_append]
      congr 1
      show List.filter _ [h.nm] = _
      rw [List.filter_cons]
      cases v.up h.nm <;> rfl
    walk_at "go"
    refine w_b (fun hup => ?_) fun hup => ?_
    · walk_at "go"
      refine w_app hD (szl ?_) fun H3 e3 hD3 => hN _ _ ⟨e2.dropq e3 nD, ?_⟩ hD3
      · rw [List.length_map]
        have a1 := List.length_filter_le (fun n => v.up n) (ys.take i)
        have a2 : (ys.take i).length ≤ ys.length := by rw [List.length_take]; exact Nat.min_le_right _ _
        have := names_small ok ynd fun n m => pm.mem_iff.mp m
        omega
      · rw [tk, hup, if_pos rfl, List.map_append]; rfl
    · refine hN _ _ ⟨e2, ?_⟩ hD
      rw [tk, hup, if_neg (by decide), List.append_nil]
  · rintro acc H2 ⟨e2, rfl⟩ hD
    rw [List.length_map, List.take_length] at hD
    refine k D H2 _ (e1.trans e2) (e1.free nD) hD ⟨ynd.filter _, fun n => ?_⟩
    rw [List.mem_filter]
    exact and_congr_left fun _ => pm.mem_iff
def spH_Vault_seal (C CD : Addr) (K : PySem.W.Frag) : Sp := sp5X fun a b c d e H Q E => ∃ (j : Addr) (v : Vs), a = .ref j ∧ VAt C H j v ∧ VOk v ∧ (∀ n ∈ v.names, v.up n = false) ∧ ∀ H', Ext [] H H' → E (.ref CD) none H'
theorem okH_Vault_seal (T : Txt K mg) (TE : Errs P K mg) : L2H.FnH P w K mg base (L2.CX P w) 4 T.f_Vault_seal T.d_Vault_seal ["self", "person", "kind", "value", "pad"] (spH_Vault_seal T.C_Vault TE.C_HoldersDown K) := by
  refine T.F_Vault_seal.okHX sc_Vault_seal len5X (fun cdv A outer s H vs Q E p hp hr h => ?_)
  have nd := sc_Vault_seal.nd
  have hu := hu_ofH hr
  obtain ⟨_, pe, kd, x, s', rfl, j, v, rfl, hv, ok, dn, kx⟩ := h
  refine ⟨_,
      (pss_cons (ps_set (i := 5) nd rfl (Or.inl rfl) (pe_methH0 (E := fun _ => E0) (pv 0) T.c_Vault T.m_Vault_up_names (okH_Vault_up_names T) (hr.mono (by first | decide | omega)) ⟨p, hp, List.mem_cons_self⟩ T.k_Vault_up_names passH)) 
      (pss_cons (ps_if (pt_not (pt_truth (pv 5) (by intro _; rfl))) 
        (pss_one (L2H.ps_raiseH ⟨p, hp, List.mem_cons_self⟩ (takes_of rfl rfl rfl rfl) (pmk_own0N PySem.F.excBase_ValueError TE.q_HoldersDown TE.g_HoldersDown TE.k_HoldersDown (raises_own TE.s_HoldersDown TE.y_HoldersDown) rfl))) pss_nil) 
      (pss_cons (ps_expr (pe_bm PySem.F.plainAttrs_list PySem.F.slot_list_append PySem.F.type_list_append zmt_append (pe_fld (pv 0) rfl) (pa_cons (pv 1) pa_nil))) 
      (pss_cons (ps_expr (pe_bm PySem.F.plainAttrs_list PySem.F.slot_list_append PySem.F.type_list_append zmt_append (pe_fld (pv 0) rfl) (pa_cons pe_bl pa_nil))) 
      (pss_cons (ps_set (i := 6) nd rfl (Or.inl rfl) (pe_callB zc_len (by rfl) T.b_len (by decide +kernel) (pa_cons (pe_fld (pv 0) rfl) pa_nil))) 
      (pss_cons ps_never 
      (pss_one (ps_ret pe_never)))))))), ?_⟩
  change (_ : TS) _ [some _, some _, some _, some _, some _, none, none, none] _
  try dsimp only [L2H.cxH, cxOf, Cx.nox, Cx.wish]
  obtain ⟨dx, h1⟩ := hv.ob
  walk_at "go"
  refine w_mH ?_
  walk_at "go"
  refine w_meth h1 no_Vault_up_names ?_
  walk_at "go"
  refine w_upn hv ok fun L H1 ys e1 nL hL uy => ?_
  have nil : ys = [] := by
    cases ys with
    | nil => rfl
    | cons y ys =>
      obtain ⟨a, b⟩ := (uy.2 y).mp List.mem_cons_self
      rw [dn y a] at b; cases b
  subst nil
  walk_at "go"; walk_at "if"
  refine ⟨_, .inl ⟨_, sql hL, rfl⟩, ?_⟩
  refine w_t rfl ?_
  exact kx H1 e1
theorem w_sealH {C CD : Addr} {H : Hp} {j : Addr} {v : Vs} {pe kd x s : V} {Q : VK} {E : XK} (hv : VAt C H j v) (ok : VOk v) (dn : ∀ n ∈ v.names, v.up n = false) (kx : ∀ H', Ext [] H H' → E (.ref CD) none H') : spH_Vault_seal C CD K [.ref j, pe, kd, x, s] H Q E := ⟨_, _, _, _, _, rfl, j, v, rfl, hv, ok, dn, kx⟩

/-! ### the law's state: a pool, two vaults, the cells -/
structure Cq where
  ad : Addr
  t : Addr
  x : Vl
  y : Vl
  s : Int
  s2 : Int
  pe : Int
  fl : Bool
  ot : Bool
def cqV (c : Cq) : List V := [.ref c.t, c.x.v, c.y.v, .int c.pe, .bl c.fl, .bl c.ot]
structure CqOk (c : Cq) : Prop where
  xo : c.x.Ok
  yo : c.y.Ok
  kd : c.y.kind = c.x.kind
  cd : (c.y.code + c.s2) % c.y.size = (c.x.code + c.s) % c.x.size
  eq : c.ot = false → c.y = c.x ∧ c.s2 % c.y.size = c.s % c.x.size
def CqAt (H : Hp) (i : Nat) (c : Cq) : Prop := H c.ad = some (.lst (cqV c)) ∧ H c.t = some (.tup [.str (Str.ofString "sealed"), .str c.x.kind, .int ((i : Int) + 1), .int ((c.x.code + c.s) % c.x.size)]) ∧ CqOk c
theorem cq_tup {H H' : Hp} {M : List Addr} {i : Nat} {e : Cq} (h : CqAt H i e) (x : Ext M H H') (n : e.ad ∉ M) : CqAt H' i e := ⟨x.keep _ _ h.1 n, x.tup h.2.1, h.2.2⟩
def four : List Str := [Str.ofString "v", Str.ofString "w", Str.ofString "x", Str.ofString "y"]
structure LM (C : Addr) (K : PySem.W.Frag) (H : Hp) (p j1 j2 c : Addr) (v1 v2 : Vs) (cs : List Cq) : Prop where
  po : PoolAt K H p
  va : VAt C H j1 v1
  vb : VAt C H j2 v2
  oa : VOk v1
  ob : VOk v2
  ci : H c = some (.lst (cs.map fun e => V.ref e.ad))
  ce : ∀ (i : Nat) (e : Cq), cs[i]? = some e → CqAt H i e
  s1 : p ∉ v1.F j1 ∧ c ∉ v1.F j1 ∧ ∀ e ∈ cs, e.ad ∉ v1.F j1
  s2 : p ∉ v2.F j2 ∧ c ∉ v2.F j2 ∧ ∀ e ∈ cs, e.ad ∉ v2.F j2
  ap : ∀ a ∈ v1.F j1, a ∉ v2.F j2
  pc : p ≠ c ∧ ∀ e ∈ cs, e.ad ≠ p ∧ e.ad ≠ c
  nd : (cs.map (·.ad)).Nodup
structure LG (v1 v2 : Vs) (cs : List Cq) (per : Int) : Prop where
  si : SimV v1 v2
  pn : v1.pn = cs.map (·.pe)
  gn : v1.gn = cs.map (·.fl)
  p1 : ∀ (i : Nat) (e : Cq), cs[i]? = some e → v1.P ((i : Int) + 1) = e.s % e.x.size
  p2 : ∀ (i : Nat) (e : Cq), cs[i]? = some e → v2.P ((i : Int) + 1) = e.s2 % e.y.size
  ot : ∀ e ∈ cs, e.ot = true → e.pe = per
  fr : ∀ n ∈ v1.names, n ∈ four
theorem LM.ext0 {C : Addr} {H H' : Hp} {p j1 j2 c : Addr} {v1 v2 : Vs} {cs : List Cq} (h : LM C K H p j1 j2 c v1 v2 cs) (e : Ext [] H H') : LM C K H' p j1 j2 c v1 v2 cs :=
  have no_ : ∀ {x : Addr}, x ∉ ([] : List Addr) := List.not_mem_nil
  ⟨h.po.ext e no_, h.va.ext0 e, h.vb.ext0 e, h.oa, h.ob, e.keep _ _ h.ci no_, fun i x hx => cq_tup (h.ce i x hx) e no_, h.s1, h.s2, h.ap, h.pc, h.nd⟩
theorem LM.pool {C : Addr} {H H' : Hp} {p j1 j2 c : Addr} {v1 v2 : Vs} {cs : List Cq} (h : LM C K H p j1 j2 c v1 v2 cs) (e : Ext [p] H H') (q : PoolAt K H' p) : LM C K H' p j1 j2 c v1 v2 cs :=
  ⟨q, h.va.ext e fun a m z => h.s1.1 ((List.mem_singleton.mp z) ▸ m), h.vb.ext e fun a m z => h.s2.1 ((List.mem_singleton.mp z) ▸ m), h.oa, h.ob, e.keep _ _ h.ci (nm1 h.pc.1.symm), fun i x hx => cq_tup (h.ce i x hx) e (nm1 (h.pc.2 x (List.mem_of_getElem? hx)).1), h.s1, h.s2, h.ap, h.pc, h.nd⟩
theorem LM.one {C : Addr} {H H' : Hp} {p j1 j2 c : Addr} {v1 v2 v1' : Vs} {cs : List Cq} (h : LM C K H p j1 j2 c v1 v2 cs) (st : Stp C H H' j1 v1 v1') (ok : VOk v1') : LM C K H' p j1 j2 c v1' v2 cs := by
  obtain ⟨sc, ns, pl, re, fi, hp, _⟩ := id h.po
  have lv : ∀ {a : Addr} {o : HO}, H a = some o → a ∉ v1.F j1 → a ∉ v1'.F j1 := fun z n m => (st.fr _ m).elim n fun y => by rw [z] at y; cases y
  exact ⟨h.po.ext st.ext h.s1.1, st.at', h.vb.ext st.ext fun a m z => h.ap a z m, ok, h.ob, st.ext.keep _ _ h.ci h.s1.2.1, fun i x hx => cq_tup (h.ce i x hx) st.ext (h.s1.2.2 x (List.mem_of_getElem? hx)),
    ⟨lv hp h.s1.1, lv h.ci h.s1.2.1, fun e m => by obtain ⟨i, hi⟩ := List.getElem?_of_mem m; exact lv (h.ce i e hi).1 (h.s1.2.2 e m)⟩, h.s2,
    fun a m z => (st.fr a m).elim (fun q => h.ap a q z) fun y => (by obtain ⟨o, q⟩ := h.vb.live a z; rw [y] at q; cases q), h.pc, h.nd⟩
theorem LM.two {C : Addr} {H H' : Hp} {p j1 j2 c : Addr} {v1 v2 v2' : Vs} {cs : List Cq} (h : LM C K H p j1 j2 c v1 v2 cs) (st : Stp C H H' j2 v2 v2') (ok : VOk v2') : LM C K H' p j1 j2 c v1 v2' cs := by
  obtain ⟨sc, ns, pl, re, fi, hp, _⟩ := id h.po
  have lv : ∀ {a : Addr} {o : HO}, H a = some o → a ∉ v2.F j2 → a ∉ v2'.F j2 := fun z n m => (st.fr _ m).elim n fun y => by rw [z] at y; cases y
  exact ⟨h.po.ext st.ext h.s2.1, h.va.ext st.ext fun a m z => h.ap a m z, st.at', h.oa, ok, st.ext.keep _ _ h.ci h.s2.2.1, fun i x hx => cq_tup (h.ce i x hx) st.ext (h.s2.2.2 x (List.mem_of_getElem? hx)), h.s1,
    ⟨lv hp h.s2.1, lv h.ci h.s2.2.1, fun e m => by obtain ⟨i, hi⟩ := List.getElem?_of_mem m; exact lv (h.ce i e hi).1 (h.s2.2.2 e m)⟩,
    fun a m z => (st.fr a z).elim (fun q => h.ap a m q) fun y => (by obtain ⟨o, q⟩ := h.va.live a m; rw [y] at q; cases q), h.pc, h.nd⟩
theorem at_snoc {α : Type} {cs : List α} {e y : α} {i : Nat} (hy : (cs ++ [e])[i]? = some y) : cs[i]? = some y ∧ i < cs.length ∨ i = cs.length ∧ y = e := by
  by_cases z : i < cs.length
  · rw [List.getElem?_append_left z] at hy
    exact .inl ⟨hy, z⟩
  · rw [List.getElem?_append_right (by omega)] at hy
    have z2 : i = cs.length := by
      have := (List.getElem?_eq_some_iff.mp hy).1
      simp at this
      omega
    subst z2
    rw [Nat.sub_self] at hy
    cases hy
    exact .inr ⟨rfl, rfl⟩
theorem LM.snoc {C : Addr} {H H' : Hp} {p j1 j2 c : Addr} {v1 v2 : Vs} {cs : List Cq} (h : LM C K H p j1 j2 c v1 v2 cs) {e : Cq} (x : Ext [c] H H') (g : H' c = some (.lst ((cs ++ [e]).map fun e => V.ref e.ad))) (he : CqAt H cs.length e) (nF : e.ad ∉ v1.F j1) (nG : e.ad ∉ v2.F j2) (np : e.ad ≠ p) (nc : e.ad ≠ c) (nn : e.ad ∉ cs.map (·.ad)) : LM C K H' p j1 j2 c v1 v2 (cs ++ [e]) := by
  refine ⟨h.po.ext x (nm1 h.pc.1), h.va.ext x fun a m z => h.s1.2.1 ((List.mem_singleton.mp z) ▸ m), h.vb.ext x fun a m z => h.s2.2.1 ((List.mem_singleton.mp z) ▸ m), h.oa, h.ob, g, fun i y hy => ?_, ⟨h.s1.1, h.s1.2.1, fun y m => ?_⟩, ⟨h.s2.1, h.s2.2.1, fun y m => ?_⟩, h.ap, ⟨h.pc.1, fun y m => ?_⟩, ?_⟩
  · rcases at_snoc hy with ⟨hy, l⟩ | ⟨rfl, rfl⟩
    · exact cq_tup (h.ce i y hy) x (nm1 (h.pc.2 y (List.mem_of_getElem? hy)).2)
    · exact cq_tup he x (nm1 nc)
  · rcases List.mem_append.mp m with m | m
    · exact h.s1.2.2 y m
    · rw [List.mem_singleton.mp m]; exact nF
  · rcases List.mem_append.mp m with m | m
    · exact h.s2.2.2 y m
    · rw [List.mem_singleton.mp m]; exact nG
  · rcases List.mem_append.mp m with m | m
    · exact h.pc.2 y m
    · rw [List.mem_singleton.mp m]; exact ⟨np, nc⟩
  · rw [List.map_append]
    exact List.nodup_append.mpr ⟨h.nd, List.pairwise_singleton _ _, fun a ha b hb q => nn (by
      have hb : b = e.ad := by simpa using hb
      rw [← hb, ← q]; exact ha)⟩
theorem set_same {α : Type} {l : List α} {i : Nat} {a : α} (h : l[i]? = some a) : l.set i a = l := List.ext_getElem? fun k => by
  rw [List.getElem?_set]
  by_cases z : i = k
  · subst z
    rw [if_pos rfl, if_pos (List.getElem?_eq_some_iff.mp h).1, h]
  · rw [if_neg z]
theorem LM.mark {C : Addr} {H H' : Hp} {p j1 j2 c : Addr} {v1 v2 : Vs} {cs : List Cq} (h : LM C K H p j1 j2 c v1 v2 cs) {i : Nat} {e : Cq} (hi : cs[i]? = some e) {b : Bool} (x : Ext [e.ad] H H') (g : H' e.ad = some (.lst (cqV { e with fl := b }))) : LM C K H' p j1 j2 c v1 v2 (cs.set i { e with fl := b }) := by
  have me := List.mem_of_getElem? hi
  have li := (List.getElem?_eq_some_iff.mp hi).1
  have ads : (cs.set i { e with fl := b }).map (·.ad) = cs.map (·.ad) := by
    rw [List.map_set]
    exact set_same (by rw [List.getElem?_map, hi]; rfl)
  have sub : ∀ y ∈ cs.set i { e with fl := b }, ∃ z ∈ cs, z.ad = y.ad := fun y m => by
    have : y.ad ∈ (cs.set i { e with fl := b }).map (·.ad) := List.mem_map.mpr ⟨y, m, rfl⟩
    rw [ads] at this
    obtain ⟨z, hz, q⟩ := List.mem_map.mp this
    exact ⟨z, hz, q⟩
  refine ⟨h.po.ext x (nm1 (h.pc.2 e me).1.symm), h.va.ext x fun a m z => h.s1.2.2 e me ((List.mem_singleton.mp z) ▸ m), h.vb.ext x fun a m z => h.s2.2.2 e me ((List.mem_singleton.mp z) ▸ m), h.oa, h.ob, ?_, fun k y hy => ?_,
    ⟨h.s1.1, h.s1.2.1, fun y m => ?_⟩, ⟨h.s2.1, h.s2.2.1, fun y m => ?_⟩, h.ap, ⟨h.pc.1, fun y m => ?_⟩, ads ▸ h.nd⟩
  · rw [x.keep _ _ h.ci (nm1 (h.pc.2 e me).2.symm)]
    have := congrArg (List.map V.ref) ads
    rw [List.map_map, List.map_map] at this
    exact congrArg (fun l => some (HO.lst l)) this.symm
  · rw [List.getElem?_set] at hy
    by_cases z : i = k
    · subst z
      rw [if_pos rfl, if_pos li] at hy
      cases hy
      obtain ⟨a, b, o⟩ := h.ce i e hi
      exact ⟨g, x.tup b, ⟨o.xo, o.yo, o.kd, o.cd, o.eq⟩⟩
    · rw [if_neg z] at hy
      refine cq_tup (h.ce k y hy) x (nm1 fun q => z ?_)
      have a1 : (cs.map (·.ad))[i]? = some e.ad := by rw [List.getElem?_map, hi]; rfl
      have a2 : (cs.map (·.ad))[k]? = some e.ad := by rw [List.getElem?_map, hy]; exact congrArg some q
      exact (List.getElem?_inj (by rw [List.length_map]; exact li) h.nd).mp (a1.trans a2.symm)
  · obtain ⟨z, hz, q⟩ := sub y m
    rw [← q]; exact h.s1.2.2 z hz
  · obtain ⟨z, hz, q⟩ := sub y m
    rw [← q]; exact h.s2.2.2 z hz
  · obtain ⟨z, hz, q⟩ := sub y m
    rw [← q]; exact h.pc.2 z hz
theorem LG.len {v1 v2 : Vs} {cs : List Cq} {per : Int} (h : LG v1 v2 cs per) : v1.pn.length = cs.length := by rw [h.pn, List.length_map]
theorem LG.gnA {v1 v2 : Vs} {cs : List Cq} {per : Int} (h : LG v1 v2 cs per) {i : Nat} {e : Cq} (hi : cs[i]? = some e) : gnA v1 ((i : Int) + 1) = e.fl := by
  unfold Law.gnA
  rw [h.gn, show (((i : Int) + 1) - 1).toNat = i from by omega, List.getElem?_map, hi]; rfl
theorem LG.pnA {v1 v2 : Vs} {cs : List Cq} {per : Int} (h : LG v1 v2 cs per) {i : Nat} {e : Cq} (hi : cs[i]? = some e) : pnA v1 ((i : Int) + 1) = e.pe := by
  unfold Law.pnA
  rw [h.pn, show (((i : Int) + 1) - 1).toNat = i from by omega, List.getElem?_map, hi]; rfl
theorem sel_ok {v v' : Vs} (ok : VOk v) {pe : Int} (l : v.pn.length < 1000) (n1 : v'.names = v.names) (n3 : ∀ n ∈ v.names, v'.ks n = selK v n) (n4 : v'.pn = v.pn ++ [pe]) (n5 : v'.gn = v.gn ++ [false]) : VOk v' := by
  refine ⟨n1 ▸ ok.nn, by rw [n4, n5, List.length_append, List.length_append, ok.lg]; rfl, fun a m z hz => ?_, fun a m => ?_, ?_, ?_⟩
  · rw [n1] at m
    rw [n3 a m] at hz
    rw [n4, List.length_append]
    show 1 ≤ z ∧ z ≤ ((v.pn.length + 1 : Nat) : Int)
    unfold selK at hz
    split at hz
    · rcases List.mem_append.mp hz with q | q
      · have := ok.kr a m z q
        omega
      · have : z = (v.pn.length : Int) + 1 := by simpa using q
        omega
    · have := ok.kr a m z hz
      omega
  · rw [n1] at m
    rw [n3 a m]
    unfold selK
    split
    · exact List.nodup_append.mpr ⟨ok.kn a m, List.pairwise_singleton _ _, fun y hy z hz e => by
        have := (ok.kr a m y hy).2
        have : z = (v.pn.length : Int) + 1 := by simpa using hz
        omega⟩
    · exact ok.kn a m
  · have := congrArg List.length n1
    unfold Vs.names at this
    rw [List.length_map, List.length_map] at this
    rw [this]; exact ok.sz.1
  · rw [n4, List.length_append]
    show v.pn.length + 1 ≤ 1000
    omega
theorem LG.seal {v1 v2 v1' v2' : Vs} {cs : List Cq} {per : Int} (h : LG v1 v2 cs per) {e : Cq} (hf : e.fl = false) (ho : e.ot = true → e.pe = per)
    (a1 : v1'.names = v1.names) (a2 : v1'.up = v1.up) (a3 : ∀ n ∈ v1.names, v1'.ks n = selK v1 n) (a4 : v1'.pn = v1.pn ++ [e.pe]) (a5 : v1'.gn = v1.gn ++ [false]) (a6 : v1'.P = fun m => if m = (v1.pn.length : Int) + 1 then e.s % e.x.size else v1.P m)
    (b1 : v2'.names = v2.names) (b2 : v2'.up = v2.up) (b3 : ∀ n ∈ v2.names, v2'.ks n = selK v2 n) (b4 : v2'.pn = v2.pn ++ [e.pe]) (b5 : v2'.gn = v2.gn ++ [false]) (b6 : v2'.P = fun m => if m = (v2.pn.length : Int) + 1 then e.s2 % e.y.size else v2.P m) : LG v1' v2' (cs ++ [e]) per := by
  have l2 : v2.pn.length = cs.length := by rw [h.si.pn]; exact h.len
  refine ⟨⟨by rw [a1, b1, h.si.nm], fun n hn => by rw [a2, b2]; exact h.si.up n (a1 ▸ hn), fun n hn m => ?_, by rw [a4, b4, h.si.pn], by rw [a5, b5, h.si.gn]⟩, by rw [a4, h.pn, List.map_append]; rfl, by rw [a5, h.gn, List.map_append, List.map_singleton, hf], fun i y hy => ?_, fun i y hy => ?_, fun y m => ?_, fun n hn => h.fr n (a1 ▸ hn)⟩
  · rw [a1] at hn
    rw [a3 n hn, b3 n (by rw [h.si.nm]; exact hn)]
    unfold selK
    rw [h.si.up n hn, h.si.pn]
    split
    · rw [List.mem_append, List.mem_append, h.si.ks n hn]
    · exact h.si.ks n hn m
  · rw [a6]
    rcases at_snoc hy with ⟨hy, l⟩ | ⟨rfl, rfl⟩
    · show (if (i : Int) + 1 = (v1.pn.length : Int) + 1 then _ else _) = _
      rw [if_neg (by rw [h.len]; omega)]
      exact h.p1 i y hy
    · show (if (cs.length : Int) + 1 = (v1.pn.length : Int) + 1 then _ else _) = _
      rw [if_pos (by rw [h.len])]
  · rw [b6]
    rcases at_snoc hy with ⟨hy, l⟩ | ⟨rfl, rfl⟩
    · show (if (i : Int) + 1 = (v2.pn.length : Int) + 1 then _ else _) = _
      rw [if_neg (by rw [l2]; omega)]
      exact h.p2 i y hy
    · show (if (cs.length : Int) + 1 = (v2.pn.length : Int) + 1 then _ else _) = _
      rw [if_pos (by rw [l2])]
  · rcases List.mem_append.mp m with m | m
    · exact h.ot y m
    · rw [List.mem_singleton.mp m]; exact ho
/-! ### a value for each world -/
theorem vl_kind {x y : Vl} (h : x.kind = y.kind) : x.size = y.size := by
  cases x <;> cases y <;> first | rfl | exact absurd h (by show ¬ Str.ofString _ = Str.ofString _; decide +kernel)
theorem im_vl {H : Hp} (x : Vl) : ∃ d : PyData, d.depth = 0 ∧ Im H x.v d := by
  cases x with
  | i n => exact ⟨.int n, rfl, .int n⟩
  | t s => exact ⟨.str s, rfl, .str s⟩
  | f b => exact ⟨.bool b, rfl, .bl b⟩
def sp_law_seal_both (C : Addr) (K : PySem.W.Frag) : Sp := fun vs H Q _ => ∃ (p j1 j2 c : Addr) (v1 v2 : Vs) (cs : List Cq) (per pe : Int) (o : Bool), vs = [.ref p, .ref j1, .ref j2, .ref c, .int pe, .bl o] ∧ LM C K H p j1 j2 c v1 v2 cs ∧ LG v1 v2 cs per ∧ cs.length < 60 ∧ (o = true → pe = per) ∧
  ∀ v1' v2' cs' H', LM C K H' p j1 j2 c v1' v2' cs' → LG v1' v2' cs' per → cs'.length ≤ cs.length + 1 → Q (.bl true) H'
theorem len6S {C : Addr} {x1 x2 x3 x4 x5 x6 : Str} : ∀ vs H Q E, sp_law_seal_both C K vs H Q E → vs.length = [x1, x2, x3, x4, x5, x6].length := fun _ _ _ _ ⟨_, _, _, _, _, _, _, _, _, _, e, _⟩ => e ▸ rfl
theorem w_code56 {H : Hp} {x : Vl} {Q : VK} {E : XK} (hx : x.Ok) (k : Q (.int x.code) H) : sp_law_code K ([.str x.kind, x.v] ++ []) H Q E := ⟨_, _, rfl, x, rfl, rfl, hx, k⟩
theorem w_size56 {H : Hp} {x : Vl} {Q : VK} {E : XK} (k : ∀ H', Ext [] H H' → Q (.int x.size) H') : sp_law_size K ([.str x.kind] ++ []) H Q E := ⟨_, rfl, x, rfl, k⟩
theorem ok_law_seal_both (T : Txt K mg) (TE : Errs P K mg) : FnOk P w K mg base CX0 6 T.f__law_seal_both T.d__law_seal_both ["pool", "one", "two", "cells", "person", "other"] (sp_law_seal_both T.C_Vault K) := by
  refine T.F__law_seal_both.ok sc_law_seal_both len6S (fun cdv A outer s H vs Q E hr h => ?_)
  have nd := sc_law_seal_both.nd
  have hu := hu_of hr
  obtain ⟨p, j1, j2, c, v1, v2, cs, per, pe, o, rfl, hM, hG, l60, ho, k⟩ := h
  refine ⟨_,
      (pss_cons (ps_set (i := 6) nd rfl (Or.inl rfl) (pe_call (ok_law_pick T) (hr.mono (by decide)) (by rfl) T.g__law_pick T.F__law_pick.kp T.k__law_pick .nil pass0 (pa_cons (pv 0) (pa_cons (pe_lstZ (pa_cons pe_str (pa_cons pe_str (pa_cons pe_str pa_nil)))) pa_nil)))) 
      (pss_cons (ps_set (i := 7) nd rfl (Or.inl rfl) (pe_call (ok_law_value T) (hr.mono (by decide)) (by rfl) T.g__law_value T.F__law_value.kp T.k__law_value .nil pass0 (pa_cons (pv 0) (pa_cons (pv 6) pa_nil)))) 
      (pss_cons (ps_set (i := 8) nd rfl (Or.inl rfl) (pe_ifExp (pt_val (pv 5)) (pe_call (ok_law_value T) (hr.mono (by decide)) (by rfl) T.g__law_value T.F__law_value.kp T.k__law_value .nil pass0 (pa_cons (pv 0) (pa_cons (pv 6) pa_nil))) (pv 7))) 
      (pss_cons (ps_set (i := 9) nd rfl (Or.inl rfl) (pe_call (ok_law_draw T) (hr.mono (by decide)) (by rfl) T.g__law_draw T.F__law_draw.kp T.k__law_draw .nil pass0 (pa_cons (pv 0) (pa_cons (pe_op op_pow pe_int pe_int) pa_nil)))) 
      (pss_cons (ps_set (i := 10) nd rfl (Or.inl rfl) (pe_op op_mod (pe_callTy zc_int (by rfl) T.b_int (by decide +kernel) (pa_cons (pe_op op_sub (pe_op op_add (pv 9) (pe_call (ok_law_code T) (hr.mono (by decide)) (by rfl) T.g__law_code T.F__law_code.kp T.k__law_code .nil pass0 (pa_cons (pv 6) (pa_cons (pv 7) pa_nil)))) (pe_call (ok_law_code T) (hr.mono (by decide)) (by rfl) T.g__law_code T.F__law_code.kp T.k__law_code .nil pass0 (pa_cons (pv 6) (pa_cons (pv 8) pa_nil)))) pa_nil)) (pe_call (ok_law_size T) (hr.mono (by decide)) (by rfl) T.g__law_size T.F__law_size.kp T.k__law_size .nil pass0 (pa_cons (pv 6) pa_nil)))) 
      (pss_cons (ps_try_allN (Wout := fun _ _ _ _ => False) rfl rfl nd takesNoN (fun W pn xe tk po => 
        (pss_one (ps_set (i := 11) nd rfl (Or.inl rfl) (pe_methT (pv 1) T.c_Vault T.m_Vault_seal (ok_Vault_seal T TE) (hr.mono (by decide)) T.k_Vault_seal (fun σ => L2N.passAt tk σ) (pa_cons (pv 4) (pa_cons (pv 6) (pa_cons (pv 7) (pa_cons (pv 9) pa_nil)))))))) (HdsN.bare ⟨rfl, by decide, Or.inl TE.g_HoldersDown⟩ (fun a oe cls d pn hz hf => 
        (pss_cons (ps_try_allKH (K := K) (Wout := fun _ _ _ _ => False) rfl rfl rfl nd takesNo (hot_of hz hf) (fun W pn xe hotB tk po => 
          (pss_one (ps_expr (L2H.pe_methH (pv 2) T.c_Vault T.m_Vault_seal (okH_Vault_seal T TE) (roomM (hr.mono (by first | decide | omega))) hotB T.k_Vault_seal (fun σ => passAt tk σ) (pa_cons (pv 4) (pa_cons (pv 6) (pa_cons (pv 8) (pa_cons (pv 10) pa_nil)))))))) (HdsZ.bare ⟨rfl, by decide, Or.inl TE.g_HoldersDown⟩ (fun a oe cls d pn hy hg => 
          (pss_one (ps_ret pe_bl))) HdsZ.nil)) 
        (pss_one (ps_ret pe_bl)))) HdsN.nil)) 
      (pss_cons (ps_expr (pe_bm PySem.F.plainAttrs_list PySem.F.slot_list_append PySem.F.type_list_append zmt_append (pv 3) (pa_cons (pe_lstZ (pa_cons (pv 11) (pa_cons (pv 7) (pa_cons (pv 8) (pa_cons (pv 4) (pa_cons pe_bl (pa_cons (pv 5) pa_nil))))))) pa_nil))) 
      (pss_one (ps_ret (pe_call (ok_law_same T) (hr.mono (by decide)) (by rfl) T.g__law_same T.F__law_same.kp T.k__law_same .nil pass0 (pa_cons (pe_meth (pv 2) T.c_Vault T.m_Vault_seal (ok_Vault_seal T TE) (hr.mono (by decide)) T.k_Vault_seal .nil passXN (pa_cons (pv 4) (pa_cons (pv 6) (pa_cons (pv 8) (pa_cons (pv 10) pa_nil))))) (pa_cons (pv 11) pa_nil)))))))))))), ?_⟩
  change (_ : TS) _ [some _, some _, some _, some _, some _, some _, none, none, none, none, none, none] _
  try dsimp only [cxOf, Cx.nox, Cx.wish]
  have no_ : ∀ {x : Addr}, x ∉ ([] : List Addr) := List.not_mem_nil
  have lp := hG.len
  have lp2 : v2.pn.length = cs.length := by rw [hG.si.pn]; exact lp
  walk_at "go"
  refine ⟨sz (by show 3 ≤ _; decide), w_alc fun o5 H5 e5 n5 h5 => ?_⟩
  have L5 := hM.ext0 e5
  walk_at "go"
  refine w_pick L5.po h5 (hM.po.ne n5).symm (by decide) (by decide) fun kv H6 hkv e6 P6 => ?_
  have L6 := L5.pool e6 P6
  obtain ⟨kd, rfl, hkd⟩ : ∃ n : Str, kv = .str n ∧ n ∈ [Str.ofString "int", Str.ofString "text", Str.ofString "flag"] := by
    simp only [List.mem_cons, List.not_mem_nil, or_false] at hkv
    rcases hkv with rfl | rfl | rfl <;> exact ⟨_, rfl, by simp⟩
  walk_at "go"
  refine ⟨_, _, rfl, p, kd, rfl, rfl, hkd, L6.po, fun x H7 hx xk e7 P7 => ?_⟩
  have L7 := L6.pool e7 P7
  subst xk
  walk_at "go"
  refine w_cutE (fun v H' => ∃ y : Vl, v = y.v ∧ LM T.C_Vault K H' p j1 j2 c v1 v2 cs ∧ y.Ok ∧ y.kind = x.kind ∧ (o = false → y = x)) ?_ fun Q' hQ => ?_
  · rintro _ H8 ⟨y, rfl, L8, hy, yk, yx⟩
    walk_at "go"
    refine w_draw L8.po (by decide) (by decide) fun s H9 d0 d1 e9 P9 => ?_
    have L9 := L8.pool e9 P9
    walk_at "go"
    refine w_code56 hx ?_
    walk_at "go"
    rw [← yk]
    refine w_code56 hy ?_
    rw [yk]
    walk_at "go"
    refine w_size56 fun H10 e10 => ?_
    have L10 := L9.ext0 e10
    refine w_I x.size_pos ?_
    have thE : ∃ th, (s + x.code - y.code) % x.size = th := ⟨_, rfl⟩
    obtain ⟨th, thE⟩ := thE
    rw [thE]
    have ks := vl_kind yk
    obtain ⟨dx10, h110⟩ := L10.va.ob
    have l1000 : v1.pn.length < 1000 := by omega
    have l2000 : v2.pn.length < 1000 := by omega
    walk_at "go"
    refine w_meth h110 no_Vault_seal ?_
    walk_at "go"
    refine w_seal hx L10.va L10.oa l1000 (fun dn H11 e11 => ?_) fun v1' H11 t st n1 n2 n3 n4 n5 n6 ex1 nt ht => ?_
    · have L11 := L10.ext0 e11
      refine ⟨true, TE.m_HoldersDown_HoldersDown, fun _ a na => ?_, fun z => nomatch z⟩
      dsimp only
      obtain ⟨dx11, h211⟩ := L11.vb.ob
      walk_at "go"
      refine w_mH ?_
      walk_at "go"
      refine w_meth h211 no_Vault_seal ?_
      walk_at "go"
      refine w_sealH L11.vb L11.ob (fun n hn => ?_) fun H12 e12 => ?_
      · have hn1 : n ∈ v1.names := hG.si.nm ▸ hn
        rw [hG.si.up n hn1]; exact dn n hn1
      · refine ⟨true, TE.m_HoldersDown_HoldersDown, fun _ a2 na2 => ?_, fun z => nomatch z⟩
        dsimp only
        walk_at "go"
        exact k v1 v2 cs H12 (L11.ext0 e12) hG (by omega)
    · have ok1 := sel_ok L10.oa l1000 n1 n3 n4 n5
      have L11 := L10.one st ok1
      walk_at "go"
      refine w_tyL (sql L11.ci) ?_
      walk_at "go"
      refine ⟨sz (by show 6 ≤ 1000000; decide), w_alc fun ad H12 e12 nad had => ?_⟩
      have L12 := L11.ext0 e12
      walk_at "go"
      refine w_append L12.ci (szl (by rw [List.length_map]; omega)) (w_chg L12.ci (fun z => z) fun H13 e13 g13 => ?_)
      have eqs : o = false → y = x ∧ th % y.size = s % x.size := fun z => by
        have yE := yx z
        refine ⟨yE, ?_⟩
        rw [← thE, yE, Int.emod_emod_of_dvd _ (Int.dvd_refl _)]
        congr 1; omega
      have cdE : (y.code + th) % y.size = (x.code + s) % x.size := by
        rw [← thE, ks, Int.add_emod, Int.emod_emod_of_dvd _ (Int.dvd_refl _), ← Int.add_emod]
        congr 1; omega
      have nn : ad ∉ cs.map (·.ad) := fun m => by
        obtain ⟨e, he, q⟩ := List.mem_map.mp m
        obtain ⟨i, hi⟩ := List.getElem?_of_mem he
        have := (L11.ce i e hi).1
        rw [q, nad] at this; cases this
      have g13' : H13 c = some (.lst ((cs ++ [(⟨ad, t, x, y, s, th, pe, false, o⟩ : Cq)]).map fun e => V.ref e.ad)) := by
        rw [g13, List.map_append]; rfl
      have ht12 := e12.tup ht
      rw [lp] at ht12
      have L13 := L12.snoc (e := ⟨ad, t, x, y, s, th, pe, false, o⟩) e13 g13' ⟨had, ht12, ⟨hx, hy, yk, cdE, eqs⟩⟩ (L11.va.out nad) (L11.vb.out nad) (L11.po.ne nad).symm (ne_of_none L11.ci nad).symm nn
      have ht13 := e13.tup (e12.tup ht)
      obtain ⟨dx13, h213⟩ := L13.vb.ob
      walk_at "go"
      refine w_meth h213 no_Vault_seal ?_
      walk_at "go"
      rw [← yk]
      refine w_seal hy L13.vb L13.ob l2000 (fun dn => ?_) fun v2' H14 t2 st2 m1 m2 m3 m4 m5 m6 ex2 nt2 ht2 => ?_
      · obtain ⟨n, hn, up⟩ := ex1
        have := dn n (by rw [hG.si.nm]; exact hn)
        rw [hG.si.up n hn, up] at this
        cases this
      · have ok2 := sel_ok L13.ob l2000 m1 m3 m4 m5
        have L14 := L13.two st2 ok2
        have ht14 := st2.ext.tup ht13
        have G14 := hG.seal (e := ⟨ad, t, x, y, s, th, pe, false, o⟩) rfl ho n1 n2 n3 n4 n5 n6 m1 m2 m3 m4 m5 m6
        rw [hG.si.pn, cdE, yk] at ht2
        walk_at "go"
        refine w_same (Sl.im (d := .tuple [.str (Str.ofString "sealed"), .str x.kind, .int ((v1.pn.length : Int) + 1), .int ((x.code + s) % x.size)]) (by simp [PyData.depth, PyData.depthAll]) (.tup ht2 (by show 4 ≤ 1000; decide) (.cons (.str _) (.cons (.str _) (.cons (.int _) (.cons (.int _) .nil))))) (.tup ht14 (by show 4 ≤ 1000; decide) (.cons (.str _) (.cons (.str _) (.cons (.int _) (.cons (.int _) .nil)))))) fun H15 e15 => ?_
        exact k v1' v2' _ H15 (L14.ext0 e15) G14 (by rw [List.length_append]; exact Nat.le_refl _)
  · walk_at "go"; walk_at "ife"
    refine w_b (fun c1 => ?_) fun c1 => ?_
    · walk_at "go"
      refine ⟨_, _, rfl, p, x.kind, rfl, rfl, hkd, L7.po, fun y H8 hy yk e8 P8 => ?_⟩
      exact hQ _ _ ⟨y, rfl, L7.pool e8 P8, hy, yk, fun z => by rw [c1] at z; cases z⟩
    · walk_at "go"
      exact hQ _ _ ⟨x, rfl, L7, hx, rfl, fun _ => rfl⟩

/-! ### a cell is opened -/
def sp_law_open (C : Addr) (K : PySem.W.Frag) : Sp := sp2 fun a b H Q => ∃ (j c : Addr) (v : Vs) (x : Vl) (w : V) (m s : Int), a = .ref j ∧ b = .ref c ∧ VAt C H j v ∧ VOk v ∧ H c = some (.tup [w, .str x.kind, .int m, .int ((x.code + s) % x.size)]) ∧ x.Ok ∧ 1 ≤ m ∧ m ≤ (v.pn.length : Int) ∧ v.P m = s % x.size ∧
  (gnA v m = true → ∀ r H', Ext [] H H' → H' r = some (.tup [.non]) → Q (.ref r) H') ∧
  (gnA v m = false → (∃ n ∈ v.names, v.up n = true ∧ m ∈ v.ks n) → ∀ r H', Ext [] H H' → H' r = some (.tup [x.v]) → Q (.ref r) H') ∧
  (gnA v m = false → (∀ n ∈ v.names, v.up n = true → m ∉ v.ks n) → ∀ H', Ext [] H H' → Q .non H')
theorem ok_law_open (T : Txt K mg) (TE : Errs P K mg) : FnOk P w K mg base CX0 6 T.f__law_open T.d__law_open ["vault", "cell"] (sp_law_open T.C_Vault K) := by
  refine T.F__law_open.ok sc_law_open len2 (fun cdv A outer s H vs Q E hr h => ?_)
  have nd := sc_law_open.nd
  have hu := hu_of hr
  obtain ⟨_, _, rfl, j, c, v, x, w', m, s', rfl, rfl, hv, ok, hc, hx, m0, m1, hP, k1, k2, k3⟩ := h
  refine ⟨_,
      (pss_one (ps_try_allN (Wout := fun _ _ _ _ => False) rfl rfl nd takesNoN (fun W pn xe tk po => 
        (pss_one (ps_ret (pe_tupZ (pa_cons (pe_methT (pv 0) T.c_Vault T.m_Vault_unseal (ok_Vault_unseal T TE) (hr.mono (by decide)) T.k_Vault_unseal (fun σ => L2N.passAt tk σ) (pa_cons (pv 1) pa_nil)) pa_nil))))) (HdsN.bare ⟨rfl, by decide, Or.inl TE.g_HoldersDown⟩ (fun a oe cls d pn hz hf => 
        (pss_one (ps_ret pe_non))) HdsN.nil))), ?_⟩
  change (_ : TS) _ [some _, some _] _
  try dsimp only [cxOf, Cx.nox, Cx.wish]
  obtain ⟨dx, h1⟩ := hv.ob
  walk_at "go"
  refine w_meth h1 no_Vault_unseal ?_
  walk_at "go"
  refine w_unseal hv ok hc hx m0 m1 hP (fun g H1 e1 => ?_) (fun g ex H1 e1 => ?_) fun g no H1 e1 => ?_
  · walk_at "go"
    refine ⟨sz (by show 1 ≤ 1000000; decide), w_alc fun r H2 e2 n2 g2 => ?_⟩
    exact k1 g r H2 (e1.trans e2) g2
  · walk_at "go"
    refine ⟨sz (by show 1 ≤ 1000000; decide), w_alc fun r H2 e2 n2 g2 => ?_⟩
    exact k2 g ex r H2 (e1.trans e2) g2
  · refine ⟨true, TE.m_HoldersDown_HoldersDown, fun _ a na => ?_, fun z => nomatch z⟩
    dsimp only
    walk_at "go"
    exact k3 g no H1 e1
/-- what the law is told of a cell in a world: nothing, or a tuple -/
def OpAt (H : Hp) (g : Bool) (x : Vl) (o : V) : Prop := ∃ r, o = .ref r ∧ H r = some (.tup [if g = true then .non else x.v])
theorem w_lopen {C : Addr} {H : Hp} {j c : Addr} {v : Vs} {x : Vl} {w : V} {m s : Int} {Q : VK} {E : XK} (hv : VAt C H j v) (ok : VOk v) (hc : H c = some (.tup [w, .str x.kind, .int m, .int ((x.code + s) % x.size)])) (hx : x.Ok) (m0 : 1 ≤ m) (m1 : m ≤ (v.pn.length : Int)) (hP : v.P m = s % x.size)
  (k : ∀ o H', Ext [] H H' → (gnA v m = true ∨ HU v m) ∧ OpAt H' (gnA v m) x o ∨ (gnA v m = false ∧ ¬ HU v m) ∧ o = .non → Q o H') : sp_law_open C K ([.ref j, .ref c] ++ []) H Q E :=
  ⟨_, _, rfl, j, c, v, x, w, m, s, rfl, rfl, hv, ok, hc, hx, m0, m1, hP, fun g r H' e h => k _ _ e (.inl ⟨.inl g, r, rfl, by rw [g]; exact h⟩), fun g ex r H' e h => k _ _ e (.inl ⟨.inr ex, r, rfl, by rw [g]; exact h⟩), fun g no H' e => k _ _ e (.inr ⟨⟨g, fun ⟨n, hn, u, q⟩ => no n hn u q⟩, rfl⟩)⟩
theorem sl_all {H : Hp} {n : Nat} : ∀ {xs ys : List V} {ds : List PyData}, ImAll H xs ds → ImAll H ys ds → (∀ d ∈ ds, d.depth ≤ n) → Paired (Sl (n + 1) H) xs ys
  | _, _, _, .nil, .nil, _ => .nil
  | _, _, _, .cons a s, .cons b t, h => .cons (.inl ⟨_, h _ List.mem_cons_self, a, b⟩) (sl_all s t fun d m => h d (List.mem_cons_of_mem _ m))
theorem imAll_len {H : Hp} : ∀ {xs : List V} {ds : List PyData}, ImAll H xs ds → xs.length = ds.length
  | _, _, .nil => rfl
  | _, _, .cons _ t => by rw [List.length_cons, List.length_cons, imAll_len t]
theorem sl_lst {H : Hp} {a b : Addr} {xs ys : List V} {ds : List PyData} (ha : H a = some (.lst xs)) (hb : H b = some (.lst ys)) (ia : ImAll H xs ds) (ib : ImAll H ys ds) (dp : ∀ d ∈ ds, d.depth ≤ 2) (l : ds.length ≤ 1000) : Sl 4 H (.ref a) (.ref b) :=
  .inr ⟨a, b, xs, ys, rfl, rfl, ha, hb, by rw [imAll_len ia]; exact l, sl_all ia ib dp⟩
theorem im_strs {H : Hp} : ∀ (ys : List Str), ImAll H (ys.map V.str) (ys.map PyData.str)
  | [] => .nil
  | y :: ys => .cons (.str y) (im_strs ys)
theorem sl_strs {H : Hp} {a b : Addr} {ys : List Str} (ha : H a = some (.lst (ys.map V.str))) (hb : H b = some (.lst (ys.map V.str))) (l : ys.length ≤ 1000) : Sl 4 H (.ref a) (.ref b) :=
  sl_lst ha hb (im_strs ys) (im_strs ys) (fun d m => by obtain ⟨y, _, rfl⟩ := List.mem_map.mp m; simp [PyData.depth]) (by rw [List.length_map]; exact l)
theorem im_fl (fl : Bool) (x : Vl) : ∃ d : PyData, d.depth = 0 ∧ ∀ H, Im H (if fl = true then .non else x.v) d := by
  cases fl with
  | true => exact ⟨.none, rfl, fun _ => .non⟩
  | false =>
    cases x with
    | i n => exact ⟨.int n, rfl, fun _ => .int n⟩
    | t s => exact ⟨.str s, rfl, fun _ => .str s⟩
    | f b => exact ⟨.bool b, rfl, fun _ => .bl b⟩
theorem sl_one {H : Hp} {a b : Addr} {fl : Bool} {x : Vl} (ha : H a = some (.tup [if fl = true then .non else x.v])) (hb : H b = some (.tup [if fl = true then .non else x.v])) : Sl 4 H (.ref a) (.ref b) := by
  obtain ⟨d, dd, im⟩ := im_fl fl x
  exact Sl.im (d := .tuple [d]) (by simp [PyData.depth, PyData.depthAll, dd]) (.tup ha (by show 1 ≤ 1000; decide) (.cons (im H) .nil)) (.tup hb (by show 1 ≤ 1000; decide) (.cons (im H) .nil))
theorem int_srt_eq : ∀ {l m : List Int}, l.Pairwise (· < ·) → m.Pairwise (· < ·) → (∀ x, x ∈ l ↔ x ∈ m) → l = m
  | [], [], _, _, _ => rfl
  | [], y :: m, _, _, h => absurd ((h y).mpr List.mem_cons_self) List.not_mem_nil
  | x :: l, [], _, _, h => absurd ((h x).mp List.mem_cons_self) List.not_mem_nil
  | x :: l, y :: m, a, b, h => by
    obtain ⟨a1, a2⟩ := List.pairwise_cons.mp a
    obtain ⟨b1, b2⟩ := List.pairwise_cons.mp b
    have e : x = y := by
      rcases List.mem_cons.mp ((h x).mp List.mem_cons_self) with q | q
      · exact q
      · rcases List.mem_cons.mp ((h y).mpr List.mem_cons_self) with r | r
        · exact r.symm
        · have := a1 y r
          have := b1 x q
          omega
    subst e
    rw [int_srt_eq a2 b2 fun z => ⟨fun q => by
      rcases List.mem_cons.mp ((h z).mp (List.mem_cons_of_mem _ q)) with r | r
      · have := a1 z q
        omega
      · exact r, fun q => by
      rcases List.mem_cons.mp ((h z).mpr (List.mem_cons_of_mem _ q)) with r | r
      · have := b1 z q
        omega
      · exact r⟩]
theorem pw_lt {l : List Int} (n : l.Nodup) (p : l.Pairwise (· ≤ ·)) : l.Pairwise (· < ·) := (List.pairwise_and_iff.mpr ⟨p, n⟩).imp fun ⟨a, b⟩ => by omega
theorem im_pads {H : Hp} {P P2 : Int → Int} : ∀ {ts : List Addr} {ns : List Int}, Paired (fun (t : Addr) m => H t = some (.tup [.str sPad, .int m, .int (P2 m)])) ts ns → (∀ m ∈ ns, P2 m = P m) → ImAll H (ts.map V.ref) (ns.map fun m => PyData.tuple [.str sPad, .int m, .int (P m)])
  | _, _, .nil, _ => .nil
  | _, _, .cons a s, h => .cons (by rw [h _ List.mem_cons_self] at a; exact .tup a (by show 3 ≤ 1000; decide) (.cons (.str _) (.cons (.int _) (.cons (.int _) .nil)))) (im_pads s fun m q => h m (List.mem_cons_of_mem _ q))
theorem sl_hv {H : Hp} {a b : Addr} {P P2 : Int → Int} {n : Str} {u : Bool} {ns : List Int} (ha : HvAt H P a n u ns) (hb : HvAt H P2 b n u ns) (e : ∀ m ∈ ns, P m = P2 m) (l : ns.length < 64) : Sl 4 H (.ref a) (.ref b) := by
  obtain ⟨t0, ts, a1, a2, a3⟩ := ha
  obtain ⟨u0, us, b1, b2, b3⟩ := hb
  have dp : ∀ d ∈ PyData.tuple [.str (Str.ofString "holder"), .str n, .bool u] :: ns.map fun m => PyData.tuple [.str sPad, .int m, .int (P2 m)], d.depth ≤ 2 := fun d m => by
    rcases List.mem_cons.mp m with rfl | m
    · simp [PyData.depth, PyData.depthAll]
    · obtain ⟨i, _, rfl⟩ := List.mem_map.mp m
      simp [PyData.depth, PyData.depthAll]
  exact sl_lst a1 b1 (.cons (.tup a2 (by show 3 ≤ 1000; decide) (.cons (.str _) (.cons (.str _) (.cons (.bl _) .nil)))) (im_pads a3 e)) (.cons (.tup b2 (by show 3 ≤ 1000; decide) (.cons (.str _) (.cons (.str _) (.cons (.bl _) .nil)))) (im_pads b3 fun _ _ => rfl)) dp (by rw [List.length_cons, List.length_map]; omega)
theorem LG.pads {v1 v2 : Vs} {cs : List Cq} {per : Int} (h : LG v1 v2 cs per) (ok : VOk v1) (eo : ∀ e ∈ cs, CqOk e) (al : ∀ e ∈ cs, e.ot = true → e.fl = true) {n : Str} (hn : n ∈ v1.names) (nt : trN v1 n per = false) : ∀ m ∈ v1.ks n, v2.P m = v1.P m := fun m hm => by
  obtain ⟨m0, m1⟩ := ok.kr n hn m hm
  rw [h.len] at m1
  have li : (m - 1).toNat < cs.length := by omega
  have he : cs[(m - 1).toNat]? = some cs[(m - 1).toNat] := List.getElem?_eq_getElem li
  have me := List.mem_of_getElem? he
  have q : (((m - 1).toNat : Nat) : Int) + 1 = m := by omega
  have a1 := h.p1 _ _ he
  have a2 := h.p2 _ _ he
  have g := h.gnA he
  have p := h.pnA he
  rw [q] at a1 a2 g p
  have nt' : ¬ trN v1 n per = true := by rw [nt]; decide
  by_cases z : (cs[(m - 1).toNat]).ot = true
  · refine absurd ?_ nt'
    unfold trN
    refine List.any_eq_true.mpr ⟨m, hm, ?_⟩
    rw [g, p, al _ me z, h.ot _ me z]
    simp
  · have z : (cs[(m - 1).toNat]).ot = false := by simpa using z
    obtain ⟨y, s⟩ := (eo _ me).eq z
    rw [a1, a2, s]
/-! ### the two vaults tell the same -/
def sp_law_alike (C : Addr) (K : PySem.W.Frag) : Sp := fun vs H Q _ => ∃ (p j1 j2 c pr : Addr) (v1 v2 : Vs) (cs : List Cq) (per : Int) (zs : List Str), vs = [.ref j1, .ref j2, .ref c, .int per, .ref pr] ∧ LM C K H p j1 j2 c v1 v2 cs ∧ LG v1 v2 cs per ∧ cs.length < 64 ∧ H pr = some (.lst (zs.map V.str)) ∧ zs.length < 64 ∧ (∀ n, n ∈ zs ↔ n ∈ v1.names ∧ trN v1 n per = true) ∧
  ∀ H', Ext [] H H' → Q (.bl true) H'
theorem len5S {C : Addr} {x1 x2 x3 x4 x5 : Str} : ∀ vs H Q E, sp_law_alike C K vs H Q E → vs.length = [x1, x2, x3, x4, x5].length := fun _ _ _ _ ⟨_, _, _, _, _, _, _, _, _, _, e, _⟩ => e ▸ rfl
theorem ok_law_alike (T : Txt K mg) (TE : Errs P K mg) : FnOk P w K mg base CX0 7 T.f__law_alike T.d__law_alike ["one", "two", "cells", "person", "past"] (sp_law_alike T.C_Vault K) := by
  refine T.F__law_alike.ok sc_law_alike len5S (fun cdv A outer s H vs Q E hr h => ?_)
  have nd := sc_law_alike.nd
  have hu := hu_of hr
  obtain ⟨p, j1, j2, c, pr, v1, v2, cs, per, zs, rfl, hM, hG, l64, hpr, lz, zm, k⟩ := h
  refine ⟨_,
      (pss_cons (ps_if (PW.pt (pw_or (pt_not (pt_val (pe_call (ok_law_same T) (hr.mono (by decide)) (by rfl) T.g__law_same T.F__law_same.kp T.k__law_same .nil pass0 (pa_cons (pe_meth0 (pv 1) T.c_Vault T.m_Vault_vault_values (ok_Vault_vault_values T) (hr.mono (by decide)) T.k_Vault_vault_values .nil pass0) (pa_cons (pe_meth0 (pv 0) T.c_Vault T.m_Vault_vault_values (ok_Vault_vault_values T) (hr.mono (by decide)) T.k_Vault_vault_values .nil pass0) pa_nil))))) (pw_or1 (pt_not (pt_val (pe_call (ok_law_same T) (hr.mono (by decide)) (by rfl) T.g__law_same T.F__law_same.kp T.k__law_same .nil pass0 (pa_cons (pe_meth0 (pv 1) T.c_Vault T.m_Vault_holders (ok_Vault_holders T) (hr.mono (by decide)) T.k_Vault_holders .nil pass0) (pa_cons (pe_meth0 (pv 0) T.c_Vault T.m_Vault_holders (ok_Vault_holders T) (hr.mono (by decide)) T.k_Vault_holders .nil pass0) pa_nil)))))))) 
        (pss_one (ps_ret pe_bl)) pss_nil) 
      (pss_cons (ps_if (PW.pt (pw_or (pt_not (pt_val (pe_call (ok_law_same T) (hr.mono (by decide)) (by rfl) T.g__law_same T.F__law_same.kp T.k__law_same .nil pass0 (pa_cons (pe_meth (pv 1) T.c_Vault T.m_Vault_traces (ok_Vault_traces T) (hr.mono (by decide)) T.k_Vault_traces .nil pass0 (pa_cons (pv 3) pa_nil)) (pa_cons (pe_meth (pv 0) T.c_Vault T.m_Vault_traces (ok_Vault_traces T) (hr.mono (by decide)) T.k_Vault_traces .nil pass0 (pa_cons (pv 3) pa_nil)) pa_nil))))) (pw_or1 (pt_not (pt_val (pe_call (ok_law_same T) (hr.mono (by decide)) (by rfl) T.g__law_same T.F__law_same.kp T.k__law_same .nil pass0 (pa_cons (pe_meth (pv 1) T.c_Vault T.m_Vault_gone (ok_Vault_gone T) (hr.mono (by decide)) T.k_Vault_gone .nil pass0 (pa_cons (pv 3) pa_nil)) (pa_cons (pe_meth (pv 0) T.c_Vault T.m_Vault_gone (ok_Vault_gone T) (hr.mono (by decide)) T.k_Vault_gone .nil pass0 (pa_cons (pv 3) pa_nil)) pa_nil)))))))) 
        (pss_one (ps_ret pe_bl)) pss_nil) 
      (pss_cons (ps_for PassesOwn.never rfl (pi_list (pv 2)) (pg_name (i := 5) nd rfl (Or.inl rfl)) 
        (pss_cons (ps_set (i := 6) nd rfl (Or.inl rfl) (pe_call (ok_law_open T TE) (hr.mono (by decide)) (by rfl) T.g__law_open T.F__law_open.kp T.k__law_open .nil pass0 (pa_cons (pv 0) (pa_cons (pe_ix ix_list (pv 5) pe_int (fun _ _ => rfl)) pa_nil)))) 
        (pss_cons (ps_set (i := 7) nd rfl (Or.inl rfl) (pe_call (ok_law_open T TE) (hr.mono (by decide)) (by rfl) T.g__law_open T.F__law_open.kp T.k__law_open .nil pass0 (pa_cons (pv 1) (pa_cons (pe_ix ix_list (pv 5) pe_int (fun _ _ => rfl)) pa_nil)))) 
        (pss_cons (ps_if (pt_cmpR op_ne (pe_cmpR zop_isN (pv 6) pe_non (nomark _)) (pe_cmpR zop_isN (pv 7) pe_non (nomark _)) (nomark _)) 
          (pss_one (ps_ret pe_bl)) pss_nil) 
        (pss_cons (ps_if (PW.pt (pw_and (pt_cmpR zop_notN (pv 6) pe_non (nomark _)) (pw_and1 (pt_not (pt_val (pe_call (ok_law_same T) (hr.mono (by decide)) (by rfl) T.g__law_same T.F__law_same.kp T.k__law_same .nil pass0 (pa_cons (pv 6) (pa_cons (pe_tupZ (pa_cons (pe_ifExp (pt_val (pe_ix ix_list (pv 5) pe_int (fun _ _ => rfl))) pe_non (pe_ix ix_list (pv 5) pe_int (fun _ _ => rfl))) pa_nil)) pa_nil)))))))) 
          (pss_one (ps_ret pe_bl)) pss_nil) 
        (pss_one (ps_if (PW.pt (pw_and (pt_cmpR zop_notN (pv 7) pe_non (nomark _)) (pw_and1 (pt_not (pt_val (pe_call (ok_law_same T) (hr.mono (by decide)) (by rfl) T.g__law_same T.F__law_same.kp T.k__law_same .nil pass0 (pa_cons (pv 7) (pa_cons (pe_tupZ (pa_cons (pe_ifExp (pt_val (pe_ix ix_list (pv 5) pe_int (fun _ _ => rfl))) pe_non (pe_ix ix_list (pv 5) pe_int (fun _ _ => rfl))) pa_nil)) pa_nil)))))))) 
          (pss_one (ps_ret pe_bl)) pss_nil))))))) 
      (pss_cons (ps_setLc (i := 8) (own := [("cell", 5)]) rfl nd rfl rfl (sw_true rfl rfl rfl (by decide +kernel)) (pi_list (pv 2)) (blkOk_by (own := [("cell", 5)]) (N := ["one", "two", "cells", "person", "past", "cell", "first", "second", "left", "name"]) (sc := defScope s_law_alike) (by decide +kernel)) (fun _ _ _ _ _ => (pg_name (i := 5) nd rfl (Or.inl rfl))) (fun _ _ _ _ _ => (pts_one (PW.pt (pw_and (pt_val (pe_ix (ix_listK (K := K) rfl) (pv 5) pe_int (fun _ _ => rfl))) (pw_and1 (pt_not (pt_val (pe_ix (ix_listK (K := K) rfl) (pv 5) pe_int (fun _ _ => rfl))))))))) (fun _ _ _ _ _ => (pv 5))) 
      (pss_cons (ps_if (pt_cmpR op_eq (pe_callB zc_len (by rfl) T.b_len (by decide +kernel) (pa_cons (pv 8) pa_nil)) pe_int (nomark _)) 
        (pss_one (ps_for PassesOwn.never rfl (pi_list (pe_meth0 (pv 0) T.c_Vault T.m_Vault_holders (ok_Vault_holders T) (hr.mono (by decide)) T.k_Vault_holders .nil pass0)) (pg_name (i := 9) nd rfl (Or.inl rfl)) 
          (pss_one (ps_if (PW.pt (pw_and (pt_cmpR op_notIn_seq (pv 9) (pv 4) (by rfl)) (pw_and1 (pt_not (pt_val (pe_call (ok_law_same T) (hr.mono (by decide)) (by rfl) T.g__law_same T.F__law_same.kp T.k__law_same .nil pass0 (pa_cons (pe_meth (pv 1) T.c_Vault T.m_Vault_holder_values (ok_Vault_holder_values T TE) (hr.mono (by decide)) T.k_Vault_holder_values .nil passXN (pa_cons (pv 9) pa_nil)) (pa_cons (pe_meth (pv 0) T.c_Vault T.m_Vault_holder_values (ok_Vault_holder_values T TE) (hr.mono (by decide)) T.k_Vault_holder_values .nil passXN (pa_cons (pv 9) pa_nil)) pa_nil)))))))) 
            (pss_one (ps_ret pe_bl)) pss_nil)))) pss_nil) 
      (pss_one (ps_ret pe_bl))))))), ?_⟩
  change (_ : TS) _ [some _, some _, some _, some _, some _, none, none, none, none, none] _
  try dsimp only [cxOf, Cx.nox, Cx.wish]
  have no_ : ∀ {x : Addr}, x ∉ ([] : List Addr) := List.not_mem_nil
  have lp := hG.len
  have lp2 : v2.pn.length = cs.length := by rw [hG.si.pn]; exact lp
  obtain ⟨dxb, hb1⟩ := hM.vb.ob
  walk_at "go"
  refine w_cut (fun σ' H' => Ext [] H H' ∧ σ' = [some (.ref j1), some (.ref j2), some (.ref c), some (.int per), some (.ref pr), none, none, none, none, none]) ?_ fun nx hNx => ?_
  · rintro _ H1 ⟨e1, rfl⟩
    have L1 := hM.ext0 e1
    walk_at "go"
    refine w_cut (fun σ' H' => Ext [] H H' ∧ σ' = [some (.ref j1), some (.ref j2), some (.ref c), some (.int per), some (.ref pr), none, none, none, none, none]) ?_ fun nx2 hNx2 => ?_
    · rintro _ H2 ⟨e2, rfl⟩
      have L2 := hM.ext0 e2
      walk_at "go"
      refine ⟨_, rfl, ⟨_, sql L2.ci⟩, ?_⟩
      refine z_for_list (xs := cs.map fun e => V.ref e.ad) (fun i σ' H' => Ext [] H2 H' ∧ ∃ w1 w2 w3, σ' = [some (.ref j1), some (.ref j2), some (.ref c), some (.int per), some (.ref pr), w1, w2, w3, none, none]) ⟨Ext.refl, _, _, _, rfl⟩ (fun i σ' H' _ ⟨e, _⟩ => sql (e.keep _ _ L2.ci no_)) ?_ ?_
      · rintro Nx i x σ' H3 hx ⟨e3, w1, w2, w3, rfl⟩ hN
        rw [List.getElem?_map, Option.map_eq_some_iff] at hx
        obtain ⟨e, he, rfl⟩ := hx
        have li := (List.getElem?_eq_some_iff.mp he).1
        have L3 := L2.ext0 e3
        obtain ⟨had, ht, eok⟩ := L3.ce i e he
        have hty : H3 e.t = some (.tup [.str (Str.ofString "sealed"), .str e.y.kind, .int ((i : Int) + 1), .int ((e.y.code + e.s2) % e.y.size)]) := by rw [eok.kd, eok.cd]; exact ht
        have gE := hG.gnA he
        walk_at "go"
        refine w_lopen L3.va L3.oa ht eok.xo (by omega) (by omega) (hG.p1 i e he) fun o1 H4 e4 alt1 => ?_
        have L4 := L3.ext0 e4
        have had4 := e4.keep _ _ had no_
        walk_at "go"
        refine w_lopen L4.vb L4.ob (e4.tup hty) eok.yo (by omega) (by omega) (hG.p2 i e he) fun o2 H5 e5 alt2 => ?_
        rw [hG.si.gnA, HU.sim hG.si] at alt2
        rw [gE] at alt1 alt2
        have had5 := e5.keep _ _ had4 no_
        obtain ⟨fl, hfl⟩ : ∃ b, e.fl = b := ⟨_, rfl⟩
        have had5' : H5 e.ad = some (.lst [.ref e.t, e.x.v, e.y.v, .int e.pe, .bl fl, .bl e.ot]) := by rw [had5, ← hfl]; rfl
        rw [hfl] at alt1 alt2
        clear had5
        rcases alt1 with ⟨_, r1, rfl, h1⟩ | ⟨⟨gf, nu⟩, rfl⟩ <;> rcases alt2 with ⟨q2, r2, rfl, h2⟩ | ⟨⟨gf2, nu2⟩, rfl⟩
        · have h15 := e5.tup h1
          walk_at "go"; walk_at "if"
          refine w_ne rfl ?_
          refine w_bl (w_f (by simp) ?_)
          walk_at "go"; walk_at "if"
          refine w_t rfl ?_
          walk_at "go"
          refine w_cutE (fun v H' => H5 = H' ∧ v = if fl = true then .non else e.x.v) ?_ fun Q' hQ => ?_
          · rintro _ _ ⟨rfl, rfl⟩
            walk_at "go"
            refine ⟨sz (by show 1 ≤ 1000000; decide), w_alc fun t6 H6 e6 n6 g6 => ?_⟩
            walk_at "go"
            refine w_same (sl_one (e6.tup h15) g6) fun H7 e7 => ?_
            have h27 := e7.tup (e6.tup h2)
            have had7 := e7.keep _ _ (e6.keep _ _ had5' no_) no_
            walk_at "go"; walk_at "if"
            refine w_t rfl ?_
            walk_at "go"
            refine w_cutE (fun v H' => H7 = H' ∧ v = if fl = true then .non else e.y.v) ?_ fun Q2 hQ2 => ?_
            · rintro _ _ ⟨rfl, rfl⟩
              walk_at "go"
              refine ⟨sz (by show 1 ≤ 1000000; decide), w_alc fun t8 H8 e8 n8 g8 => ?_⟩
              walk_at "go"
              refine w_same (sl_one (e8.tup h27) g8) fun H9 e9 => ?_
              walk_at "go"
              exact hN _ _ ⟨(((((e3.trans e4).trans e5).trans e6).trans e7).trans e8).trans e9, _, _, _, rfl⟩
            · walk_at "ife"
              cases fl with
              | true =>
                refine w_t rfl ?_
                walk_at "go"
                exact hQ2 _ _ ⟨rfl, rfl⟩
              | false =>
                refine w_f rfl ?_
                walk_at "go"
                exact hQ2 _ _ ⟨rfl, rfl⟩
          · walk_at "ife"
            cases fl with
            | true =>
              refine w_t rfl ?_
              walk_at "go"
              exact hQ _ _ ⟨rfl, rfl⟩
            | false =>
              refine w_f rfl ?_
              walk_at "go"
              exact hQ _ _ ⟨rfl, rfl⟩
        · rename_i q1
          rcases q1 with q1 | q1
          · rw [gf2] at q1; cases q1
          · exact absurd q1 nu2
        · rcases q2 with q2 | q2
          · rw [gf] at q2; cases q2
          · exact absurd q2 nu
        · walk_at "go"; walk_at "if"
          refine w_ne rfl ?_
          refine w_bl (w_f (by simp) ?_)
          walk_at "go"; walk_at "if"
          refine w_f rfl ?_
          walk_at "go"; walk_at "if"
          refine w_f rfl ?_
          walk_at "go"
          exact hN _ _ ⟨(e3.trans e4).trans e5, _, _, _, rfl⟩
      · rintro σ' H3 ⟨e3, w1, w2, w3, rfl⟩
        have L3 := L2.ext0 e3
        walk_at "go"
        refine ⟨_, rfl, ⟨_, sql L3.ci⟩, fun D nD => ?_⟩
        refine z_lc_list (xs := cs.map fun e => V.ref e.ad) (fun i acc H' => Ext [] H3 H' ∧ acc.length ≤ i ∧ (acc.length = 0 → ∀ e ∈ cs.take i, e.ot = true → e.fl = true)) nD (fun H' e => ⟨e, Nat.le_refl _, fun _ _ z => by rw [List.take_zero] at z; cases z⟩) (fun i acc H' _ ⟨e, _⟩ => sql (e.keep _ _ L3.ci no_)) ?_ ?_
        · rintro Nx i x acc H4 hx ⟨e4, al, an⟩ hD hN
          rw [List.getElem?_map, Option.map_eq_some_iff] at hx
          obtain ⟨e, he, rfl⟩ := hx
          have li := (List.getElem?_eq_some_iff.mp he).1
          have L4 := L3.ext0 e4
          obtain ⟨had, _, _⟩ := L4.ce i e he
          have had' : H4 e.ad = some (.lst [.ref e.t, e.x.v, e.y.v, .int e.pe, .bl e.fl, .bl e.ot]) := had
          have skip : (e.ot = true → e.fl = true) → Nx H4 := fun q => hN _ _ ⟨e4, by omega, fun z y hy => by
            rw [List.take_add_one, he] at hy
            rcases List.mem_append.mp hy with hy | hy
            · exact an z y hy
            · rw [List.mem_singleton.mp hy]; exact q⟩ hD
          walk_at "go"
          refine ⟨rfl, ?_⟩
          walk_at "go"
          obtain ⟨ot, hot⟩ : ∃ b, e.ot = b := ⟨_, rfl⟩
          rw [hot]
          cases ot with
          | false =>
            refine w_f rfl ?_
            walk_at "go"
            exact skip fun z => absurd (hot.symm.trans z) (by decide)
          | true =>
            refine w_t rfl ?_
            walk_at "go"
            obtain ⟨fl, hfl⟩ : ∃ b, e.fl = b := ⟨_, rfl⟩
            rw [hfl] at had' ⊢
            cases fl with
            | true =>
              walk_at "go"
              exact skip fun _ => hfl
            | false =>
              walk_at "go"
              refine w_app hD (szl (by omega)) fun H5 e5 hD5 => hN _ _ ⟨e4.dropq e5 nD, by rw [List.length_append]; show acc.length + 1 ≤ i + 1; omega, fun z => ?_⟩ hD5
              rw [List.length_append] at z
              exact absurd z (by show acc.length + 1 ≠ 0; omega)
        rintro acc H4 ⟨e4, al, an⟩ hD
        rw [List.length_map, List.take_length] at an
        have L4 := L3.ext0 e4
        walk_at "go"; walk_at "if"
        refine w_d (fun c1 => ?_) fun c1 => ?_
        · have all : ∀ e ∈ cs, e.ot = true → e.fl = true := an (by omega)
          obtain ⟨dxa4, ha4⟩ := L4.va.ob
          walk_at "go"
          refine w_meth ha4 no_Vault_holders ?_
          walk_at "go"
          refine w_holders L4.va L4.oa fun r5 H5 ys5 e5 n5 g5 so5 m5 l5 => ?_
          have L5 := L4.ext0 e5
          refine ⟨_, rfl, ⟨_, sql g5⟩, ?_⟩
          refine z_for_list (xs := ys5.map V.str) (fun i σ' H' => Ext [] H5 H' ∧ ∃ w, σ' = [some (.ref j1), some (.ref j2), some (.ref c), some (.int per), some (.ref pr), w1, w2, w3, some (.ref D), w]) ⟨Ext.refl, _, rfl⟩ (fun i σ' H' _ ⟨e, _⟩ => sql (e.keep _ _ g5 no_)) ?_ ?_
          · rintro Nx i x σ' H6 hx ⟨e6, w, rfl⟩ hN
            rw [List.getElem?_map, Option.map_eq_some_iff] at hx
            obtain ⟨n, hn, rfl⟩ := hx
            have hn1 := (m5 n).mp (List.mem_of_getElem? hn)
            have L6 := L5.ext0 e6
            have hp6 : H6 pr = some (.lst (zs.map V.str)) := ((((e2.trans e3).trans e4).trans e5).trans e6).keep _ _ hpr no_
            walk_at "go"; walk_at "if"
            refine w_ninS (.inl (sql hp6)) ⟨_, rfl, ?_⟩
            obtain ⟨b, hb⟩ : ∃ b, decide (n ∈ zs) = b := ⟨_, rfl⟩
            rw [hb]
            cases b with
            | true =>
              refine w_f rfl ?_
              refine w_f rfl ?_
              walk_at "go"
              exact hN _ _ ⟨e6, _, rfl⟩
            | false =>
              have nz : n ∉ zs := of_decide_eq_false hb
              have nt : trN v1 n per = false := by
                cases z : trN v1 n per with
                | false => rfl
                | true => exact absurd ((zm n).mpr ⟨hn1, z⟩) nz
              refine w_t rfl ?_
              obtain ⟨dxb6, hb6⟩ := L6.vb.ob
              walk_at "go"
              refine w_meth hb6 no_Vault_holder_values ?_
              walk_at "go"
              have hn2 : n ∈ v2.names := by rw [hG.si.nm]; exact hn1
              refine w_hvals L6.vb L6.ob (fun z => absurd hn2 z) fun _ => ⟨?_, fun r7 H7 ns7 e7 n7 h7 pm7 pw7 => ?_⟩
              · have := len_upto (hM.ob.kn n hn2) (hM.ob.kr n hn2)
                omega
              have L7 := L6.ext0 e7
              obtain ⟨dxa7, ha7⟩ := L7.va.ob
              walk_at "go"
              refine w_meth ha7 no_Vault_holder_values ?_
              walk_at "go"
              refine w_hvals L7.va L7.oa (fun z => absurd hn1 z) fun _ => ⟨?_, fun r8 H8 ns8 e8 n8 h8 pm8 pw8 => ?_⟩
              · have := len_upto (hM.oa.kn n hn1) (hM.oa.kr n hn1)
                omega
              have ns : ns7 = ns8 := int_srt_eq (pw_lt (pm7.symm.nodup (hM.ob.kn n hn2)) pw7) (pw_lt (pm8.symm.nodup (hM.oa.kn n hn1)) pw8) fun x => by rw [pm7.mem_iff, pm8.mem_iff]; exact hG.si.ks n hn1 x
              subst ns
              have h78 := h7.ext e8 no_
              rw [hG.si.up n hn1] at h78
              walk_at "go"
              refine w_same (sl_hv h78 h8 (fun m hm => hG.pads hM.oa (fun e he => by obtain ⟨i, hi⟩ := List.getElem?_of_mem he; exact (hM.ce i e hi).2.2) all hn1 nt m (pm8.mem_iff.mp hm)) (by rw [pm8.length_eq]; have := len_upto (hM.oa.kn n hn1) (hM.oa.kr n hn1); omega)) fun H9 e9 => ?_
              walk_at "go"
              exact hN _ _ ⟨((e6.trans e7).trans e8).trans e9, _, rfl⟩
          · rintro σ' H6 ⟨e6, w, rfl⟩
            walk_at "go"
            exact k _ ((((e2.trans e3).trans e4).trans e5).trans e6)
        · walk_at "go"
          exact k _ ((e2.trans e3).trans e4)
    · have L1 := hM.ext0 e1
      obtain ⟨dxb1, hb11⟩ := L1.vb.ob
      walk_at "if"
      refine w_meth hb11 no_Vault_traces ?_
      walk_at "go"
      refine w_traces L1.vb L1.ob fun r2 H2 ys2 e2 n2 g2 so2 m2 l2 => ?_
      have L2 := L1.ext0 e2
      obtain ⟨dxa2, ha2⟩ := L2.va.ob
      walk_at "go"
      refine w_meth ha2 no_Vault_traces ?_
      walk_at "go"
      refine w_traces L2.va L2.oa fun r3 H3 ys3 e3 n3 g3 so3 m3 l3 => ?_
      have ey : ys2 = ys3 := str_srt_eq so2 so3 fun n => by
        rw [m2, m3, hG.si.nm]
        exact and_congr_right fun hn => by rw [hG.si.trN hn]
      rw [ey] at g2
      walk_at "go"
      refine w_same (sl_strs (e3.keep _ _ g2 no_) g3 (by omega)) fun H4 e4 => ?_
      have L4 := (L2.ext0 e3).ext0 e4
      obtain ⟨dxb4, hb4⟩ := L4.vb.ob
      walk_at "go"
      refine w_meth hb4 no_Vault_gone ?_
      walk_at "go"
      refine w_gone L4.vb L4.ob fun b5 H5 e5 q5 => ?_
      have L5 := L4.ext0 e5
      obtain ⟨dxa5, ha5⟩ := L5.va.ob
      walk_at "go"
      refine w_meth ha5 no_Vault_gone ?_
      walk_at "go"
      refine w_gone L5.va L5.oa fun b6 H6 e6 q6 => ?_
      have eb : b5 = b6 := by
        have := q5.trans ((hG.si.gd per).trans q6.symm)
        cases b5 <;> cases b6 <;> simp_all
      subst eb
      walk_at "go"
      refine w_same (Sl.im (d := .bool b5) (by show 0 < 4; decide) (.bl _) (.bl _)) fun H7 e7 => ?_
      walk_at "go"
      exact hNx2 _ _ ⟨((((e1.trans e2).trans e3).trans e4).trans e5).trans (e6.trans e7), rfl⟩
  · walk_at "if"
    refine w_meth hb1 no_Vault_vault_values ?_
    walk_at "go"
    refine w_vvals hM.vb hM.ob fun r1 H1 xs1 e1 n1 g1 i1 => ?_
    have L1 := hM.ext0 e1
    obtain ⟨dxa, ha1⟩ := L1.va.ob
    walk_at "go"
    refine w_meth ha1 no_Vault_vault_values ?_
    walk_at "go"
    refine w_vvals L1.va L1.oa fun r2 H2 xs2 e2 n2 g2 i2 => ?_
    have vvE : (List.range v2.pn.length).map (vvD v2) = (List.range v1.pn.length).map (vvD v1) := by
      rw [hG.si.pn]
      exact List.map_congr_left fun i _ => by unfold vvD; rw [hG.si.pnA, hG.si.gnA]
    rw [vvE] at i1
    walk_at "go"
    refine w_same (sl_lst (e2.keep _ _ g1 no_) g2 (i1.ext e2) i2 (fun d m => by
      obtain ⟨i, _, rfl⟩ := List.mem_map.mp m
      simp [vvD, PyData.depth, PyData.depthAll]) (by rw [List.length_map, List.length_range]; omega)) fun H3 e3 => ?_
    have L3 := (L1.ext0 e2).ext0 e3
    obtain ⟨dx3, hb3⟩ := L3.vb.ob
    walk_at "go"
    refine w_meth hb3 no_Vault_holders ?_
    walk_at "go"
    refine w_holders L3.vb L3.ob fun r4 H4 ys4 e4 n4 g4 so4 m4 l4 => ?_
    have L4 := L3.ext0 e4
    obtain ⟨dx4, ha4⟩ := L4.va.ob
    walk_at "go"
    refine w_meth ha4 no_Vault_holders ?_
    walk_at "go"
    refine w_holders L4.va L4.oa fun r5 H5 ys5 e5 n5 g5 so5 m5 l5 => ?_
    have ey : ys4 = ys5 := str_srt_eq so4 so5 fun n => (m4 n).trans (by rw [hG.si.nm]; exact (m5 n).symm)
    rw [ey] at g4
    walk_at "go"
    refine w_same (sl_strs (e5.keep _ _ g4 no_) g5 (by omega)) fun H6 e6 => ?_
    walk_at "go"
    exact hNx _ _ ⟨((((e1.trans e2).trans e3).trans e4).trans e5).trans e6, rfl⟩

/-! ### the law -/
def mkd (W : Wd) (e : Cq) : Cq := { e with fl := e.fl || W.fg e.pe }
def mkI (W : Wd) (cs : List Cq) (i : Nat) : List Cq := (cs.take i).map (mkd W) ++ cs.drop i
theorem mkI_0 {W : Wd} {cs : List Cq} : mkI W cs 0 = cs := rfl
theorem mkI_len {W : Wd} {cs : List Cq} : mkI W cs cs.length = cs.map (mkd W) := by
  unfold mkI
  rw [List.take_length, List.drop_length, List.append_nil]
theorem mkI_at {W : Wd} {cs : List Cq} {i : Nat} {e : Cq} (h : cs[i]? = some e) : (mkI W cs i)[i]? = some e := by
  have li := (List.getElem?_eq_some_iff.mp h).1
  unfold mkI
  rw [List.getElem?_append_right (by rw [List.length_map, List.length_take]; omega), List.length_map, List.length_take, List.getElem?_drop, show i + (i - min i cs.length) = i from by omega, h]
theorem mkI_set {W : Wd} {cs : List Cq} {i : Nat} {e : Cq} (h : cs[i]? = some e) : (mkI W cs i).set i (mkd W e) = mkI W cs (i + 1) := by
  have li := (List.getElem?_eq_some_iff.mp h).1
  have d : cs.drop i = e :: cs.drop (i + 1) := by
    rw [List.drop_eq_getElem_cons li]
    congr 1
    have := List.getElem?_eq_getElem li
    rw [h] at this
    exact (Option.some.inj this).symm
  unfold mkI
  rw [List.set_append, if_neg (by rw [List.length_map, List.length_take]; omega), List.length_map, List.length_take, show i - min i cs.length = 0 from by omega, d, List.take_add_one, h]
  simp
theorem mkI_ad {W : Wd} {cs : List Cq} {i : Nat} : (mkI W cs i).map (fun e => V.ref e.ad) = cs.map fun e => V.ref e.ad := by
  unfold mkI
  rw [List.map_append, List.map_map]
  show (cs.take i).map (fun e => V.ref e.ad) ++ _ = _
  rw [← List.map_append, List.take_append_drop]
theorem zip_fl (q : Int) : ∀ cs : List Cq, List.zipWith (fun p g => if p = q then true else g) (cs.map (·.pe)) (cs.map (·.fl)) = cs.map fun e => e.fl || decide (e.pe = q)
  | [] => rfl
  | e :: cs => by
    rw [List.map_cons, List.map_cons, List.map_cons, List.zipWith_cons_cons, zip_fl q cs]
    congr 1
    by_cases z : e.pe = q <;> simp [z]
theorem fgG_map {v : Vs} {cs : List Cq} (p : v.pn = cs.map (·.pe)) (g : v.gn = cs.map (·.fl)) (q : Int) : fgG v q = cs.map fun e => e.fl || decide (e.pe = q) := by
  unfold fgG
  rw [p, g, zip_fl]
theorem LG.deed {v1 v2 v1' v2' : Vs} {cs : List Cq} {per : Int} {n : Str} {W : Wd} {O1 O2 : Out} (h : LG v1 v2 cs per) (ok : VOk v1) (hs : ∀ r, W = .store r → r ∈ four) (h1 : TR v1 v1' n W O1) (h2 : TR v2 v2' n W O2) : LG v1' v2' (cs.map (mkd W)) per := by
  refine ⟨(TR.sim h.si ok h1 h2).2, ?_, ?_, fun i e he => ?_, fun i e he => ?_, fun e he => ?_, fun a m => ?_⟩
  · rw [h1.pn, h.pn, List.map_map]; rfl
  · rcases h1.gn with ⟨g, z⟩ | ⟨q, rfl, g⟩
    · rw [g, h.gn, List.map_map]
      refine List.map_congr_left fun e _ => ?_
      show e.fl = (e.fl || W.fg e.pe)
      rw [z, Bool.or_false]
    · rw [g, fgG_map h.pn h.gn, List.map_map]; rfl
  · rw [List.getElem?_map, Option.map_eq_some_iff] at he
    obtain ⟨y, hy, rfl⟩ := he
    rw [h1.PP]; exact h.p1 i y hy
  · rw [List.getElem?_map, Option.map_eq_some_iff] at he
    obtain ⟨y, hy, rfl⟩ := he
    rw [h2.PP]; exact h.p2 i y hy
  · obtain ⟨y, hy, rfl⟩ := List.mem_map.mp he
    exact h.ot y hy
  · rcases h1.nm a m with q | q
    · exact h.fr a q
    · exact hs a q
theorem nodup_len56 {l m : List Str} (h : l.Nodup) (s : ∀ x ∈ l, x ∈ m) : l.length ≤ m.length := by
  induction l generalizing m with
  | nil => exact Nat.zero_le _
  | cons a l ih =>
    obtain ⟨na, nl⟩ := List.nodup_cons.mp h
    have am := s a List.mem_cons_self
    have := ih (m := m.erase a) nl fun x hx => (List.mem_erase_of_ne fun z => na (by rw [← z]; exact hx)).mpr (s x (List.mem_cons_of_mem _ hx))
    rw [List.length_erase_of_mem am] at this
    have := List.length_pos_of_mem am
    rw [List.length_cons]
    omega
theorem w_told {C : Addr} {H : Hp} {j : Addr} {v : Vs} {n : Str} {W : Wd} {d : V} {Q : VK} {E : XK} (hd : W.r d) (hv : VAt C H j v) (ok : VOk v) (l : v.names.length < 60) (l2 : v.pn.length < 64) (k : ∀ v' H' o O, Stp C H H' j v v' → VOk v' → TR v v' n W O → OutAt H' o O → (∀ a, o = .ref a → H a = none) → Q o H') : sp_law_told C K ([.ref j, .str W.wd, .str n, d] ++ []) H Q E := ⟨_, _, _, _, rfl, j, v, n, W, rfl, rfl, rfl, hd, hv, ok, l, l2, k⟩
theorem OutAt.ext {M : List Addr} {H H' : Hp} {o : V} {O : Out} (h : OutAt H o O) (e : Ext M H H') (n : ∀ a, o = .ref a → a ∉ M) : OutAt H' o O := by
  cases O with
  | non => exact h
  | ls ys => obtain ⟨a, q, g, l⟩ := h; exact ⟨a, q, e.keep _ _ g (n a q), l⟩
  | rf ws => obtain ⟨a, q, g, l⟩ := h; exact ⟨a, q, e.tup g, l⟩
theorem sl_out {H : Hp} {o1 o2 : V} {O : Out} (a : OutAt H o1 O) (b : OutAt H o2 O) : Sl 4 H o1 o2 := by
  cases O with
  | non => obtain rfl := a; obtain rfl := b; exact Sl.im (d := .none) (by show 0 < 4; decide) .non .non
  | ls ys => obtain ⟨r, rfl, g, l⟩ := a; obtain ⟨r2, rfl, g2, _⟩ := b; exact sl_strs g g2 (by omega)
  | rf ws =>
    obtain ⟨r, rfl, g, l⟩ := a
    obtain ⟨r2, rfl, g2, _⟩ := b
    refine Sl.im (d := .tuple (ws.map PyData.str)) ?_ (.tup g (by rw [List.length_map]; omega) (im_strs ws)) (.tup g2 (by rw [List.length_map]; omega) (im_strs ws))
    have : ∀ l : List Str, PyData.depthAll (l.map PyData.str) ≤ 1 := fun l => by
      induction l with
      | nil => simp [PyData.depthAll]
      | cons x l ih => simp [PyData.depthAll, PyData.depth]; simpa using ih
    have := this ws
    simp only [PyData.depth]
    omega
def sp_law (K : PySem.W.Frag) : Sp := sp1 fun a H Q => ∃ (sc : Addr) (ns : List Int), a = .ref sc ∧ Scr K H sc (ns.map V.int) ∧ ns.length ≤ 63 ∧ ∀ H', Q (.bl true) H'
theorem start_law {H : Hp} {a : Addr} {ns : List Int} (hO : Only H) (hl : ns.length ≤ 63) (hS : SqL K H a (ns.map V.int)) : sp_law K [.ref a] H (fun v _ => v = .bl true) (fun _ _ _ => False) :=
  ⟨_, rfl, a, ns, rfl, Scr.of hO hS, hl, fun _ => rfl⟩
def two : List Str := [Str.ofString "v", Str.ofString "w"]
theorem two_nd : two.Nodup := by decide +kernel
theorem two_four : ∀ n ∈ two, n ∈ four := by decide +kernel
theorem w_seal2 {C : Addr} {H : Hp} {p j1 j2 c : Addr} {v1 v2 : Vs} {cs : List Cq} {per pe : Int} {o : Bool} {Q : VK} {E : XK} (hM : LM C K H p j1 j2 c v1 v2 cs) (hG : LG v1 v2 cs per) (l : cs.length < 60) (ho : o = true → pe = per) (k : ∀ v1' v2' cs' H', LM C K H' p j1 j2 c v1' v2' cs' → LG v1' v2' cs' per → cs'.length ≤ cs.length + 1 → Q (.bl true) H') : sp_law_seal_both C K ([.ref p, .ref j1, .ref j2, .ref c, .int pe, .bl o] ++ []) H Q E := ⟨_, _, _, _, _, _, _, _, _, _, rfl, hM, hG, l, ho, k⟩
theorem w_alike {C : Addr} {H : Hp} {p j1 j2 c pr : Addr} {v1 v2 : Vs} {cs : List Cq} {per : Int} {zs : List Str} {Q : VK} {E : XK} (hM : LM C K H p j1 j2 c v1 v2 cs) (hG : LG v1 v2 cs per) (l : cs.length < 64) (hp : H pr = some (.lst (zs.map V.str))) (lz : zs.length < 64) (zm : ∀ n, n ∈ zs ↔ n ∈ v1.names ∧ trN v1 n per = true) (k : ∀ H', Ext [] H H' → Q (.bl true) H') : sp_law_alike C K ([.ref j1, .ref j2, .ref c, .int per, .ref pr] ++ []) H Q E := ⟨_, _, _, _, _, _, _, _, _, _, rfl, hM, hG, l, hp, lz, zm, k⟩
theorem ok_law (T : Txt K mg) (TE : Errs P K mg) : FnOk P w K mg base CX0 8 T.f_law T.d_law ["script"] (sp_law K) := by
  refine T.F_law.ok sc_law len1 (fun cdv A outer s H vs Q E hr h => ?_)
  have nd := sc_law.nd
  have hu := hu_of hr
  obtain ⟨_, rfl, sc, ns, rfl, hS, l63, k⟩ := h
  refine ⟨_,
      (pss_cons (ps_set (i := 1) nd rfl (Or.inl rfl) (pe_call (ok_law_pool T) (hr.mono (by decide)) (by rfl) T.g__law_pool T.F__law_pool.kp T.k__law_pool .nil pass0 (pa_cons (pv 0) pa_nil))) 
      (pss_cons (ps_set (i := 2) nd rfl (Or.inl rfl) (pe_make T.mk_Vault (ok_Vault___init__ T) (hr.mono (by decide)) (by rfl) T.g_Vault T.k_Vault___init__ .nil pass0 (pa_cons (pe_lstZ (pa_cons pe_str (pa_cons pe_str pa_nil))) pa_nil))) 
      (pss_cons (ps_set (i := 3) nd rfl (Or.inl rfl) (pe_make T.mk_Vault (ok_Vault___init__ T) (hr.mono (by decide)) (by rfl) T.g_Vault T.k_Vault___init__ .nil pass0 (pa_cons (pe_lstZ (pa_cons pe_str (pa_cons pe_str pa_nil))) pa_nil))) 
      (pss_cons (ps_set (i := 4) nd rfl (Or.inl rfl) (pe_lstZ pa_nil)) 
      (pss_cons (ps_set (i := 5) nd rfl (Or.inl rfl) (pe_op op_add pe_int (pe_call (ok_law_draw T) (hr.mono (by decide)) (by rfl) T.g__law_draw T.F__law_draw.kp T.k__law_draw .nil pass0 (pa_cons (pv 1) (pa_cons pe_int pa_nil))))) 
      (pss_cons (ps_set (i := 6) nd rfl (Or.inl rfl) (pe_call (ok_law_draw T) (hr.mono (by decide)) (by rfl) T.g__law_draw T.F__law_draw.kp T.k__law_draw .nil pass0 (pa_cons (pv 1) (pa_cons pe_int pa_nil)))) 
      (pss_cons (ps_for PassesOwn.never rfl (pi_range1 (by rfl) T.b_range (pa_cons (pe_op op_add pe_int (pe_call (ok_law_draw T) (hr.mono (by decide)) (by rfl) T.g__law_draw T.F__law_draw.kp T.k__law_draw .nil pass0 (pa_cons (pv 1) (pa_cons pe_int pa_nil)))) pa_nil)) (pg_name (i := 7) nd rfl (Or.inl rfl)) 
        (pss_cons (ps_expr (pe_call (ok_law_next T) (hr.mono (by decide)) (by rfl) T.g__law_next T.F__law_next.kp T.k__law_next .nil pass0 (pa_cons (pv 1) pa_nil))) 
        (pss_cons (ps_set (i := 8) nd rfl (Or.inl rfl) (pe_call (ok_law_draw T) (hr.mono (by decide)) (by rfl) T.g__law_draw T.F__law_draw.kp T.k__law_draw .nil pass0 (pa_cons (pv 1) (pa_cons pe_int pa_nil)))) 
        (pss_cons (ps_set (i := 9) nd rfl (Or.inl rfl) (pe_call (ok_law_pick T) (hr.mono (by decide)) (by rfl) T.g__law_pick T.F__law_pick.kp T.k__law_pick .nil pass0 (pa_cons (pv 1) (pa_cons (pe_lstZ (pa_cons pe_str (pa_cons pe_str (pa_cons pe_str (pa_cons pe_str pa_nil))))) pa_nil)))) 
        (pss_cons (ps_if (pt_cmpR op_lt (pv 8) pe_int (nomark _)) 
          (pss_cons (ps_set (i := 10) nd rfl (Or.inl rfl) (pe_call (ok_law_pick T) (hr.mono (by decide)) (by rfl) T.g__law_pick T.F__law_pick.kp T.k__law_pick .nil pass0 (pa_cons (pv 1) (pa_cons (pe_lstZ (pa_cons (pv 5) (pa_cons pe_int (pa_cons pe_int (pa_cons pe_int pa_nil))))) pa_nil)))) 
          (pss_one (ps_if (pt_not (pt_val (pe_call (ok_law_seal_both T TE) (hr.mono (by decide)) (by rfl) T.g__law_seal_both T.F__law_seal_both.kp T.k__law_seal_both .nil pass0 (pa_cons (pv 1) (pa_cons (pv 2) (pa_cons (pv 3) (pa_cons (pv 4) (pa_cons (pv 10) (pa_cons (pe_and (pe_cmpR op_eq (pv 10) (pv 5) (nomark _)) (pe_one (pe_cmpR op_lt (pv 7) (pv 6) (nomark _)))) pa_nil))))))))) 
            (pss_one (ps_ret pe_bl)) pss_nil))) 
          (pss_cons (ps_set (i := 11) nd rfl (Or.inl rfl) (pe_call (ok_law_pick T) (hr.mono (by decide)) (by rfl) T.g__law_pick T.F__law_pick.kp T.k__law_pick .nil pass0 (pa_cons (pv 1) (pa_cons (pe_lstZ (pa_cons pe_str (pa_cons pe_str (pa_cons pe_str (pa_cons pe_str (pa_cons pe_str (pa_cons pe_str (pa_cons pe_str (pa_cons pe_str pa_nil))))))))) pa_nil)))) 
          (pss_cons (ps_set (i := 12) nd rfl (Or.inl rfl) (pe_ifExp (pt_cmpR op_eq (pv 11) pe_str (nomark _)) (pe_call (ok_law_pick T) (hr.mono (by decide)) (by rfl) T.g__law_pick T.F__law_pick.kp T.k__law_pick .nil pass0 (pa_cons (pv 1) (pa_cons (pe_lstZ (pa_cons pe_str (pa_cons pe_str pa_nil))) pa_nil))) (pe_call (ok_law_pick T) (hr.mono (by decide)) (by rfl) T.g__law_pick T.F__law_pick.kp T.k__law_pick .nil pass0 (pa_cons (pv 1) (pa_cons (pe_lstZ (pa_cons (pv 5) (pa_cons pe_int (pa_cons pe_int (pa_cons pe_int pa_nil))))) pa_nil))))) 
          (pss_cons (ps_set (i := 13) nd rfl (Or.inl rfl) (pe_call (ok_law_told T TE) (hr.mono (by decide)) (by rfl) T.g__law_told T.F__law_told.kp T.k__law_told .nil pass0 (pa_cons (pv 2) (pa_cons (pv 11) (pa_cons (pv 9) (pa_cons (pv 12) pa_nil)))))) 
          (pss_cons (ps_if (pt_not (pt_val (pe_call (ok_law_same T) (hr.mono (by decide)) (by rfl) T.g__law_same T.F__law_same.kp T.k__law_same .nil pass0 (pa_cons (pe_call (ok_law_told T TE) (hr.mono (by decide)) (by rfl) T.g__law_told T.F__law_told.kp T.k__law_told .nil pass0 (pa_cons (pv 3) (pa_cons (pv 11) (pa_cons (pv 9) (pa_cons (pv 12) pa_nil))))) (pa_cons (pv 13) pa_nil))))) 
            (pss_one (ps_ret pe_bl)) pss_nil) 
          (pss_one (ps_for PassesOwn.never rfl (pi_list (pv 4)) (pg_name (i := 14) nd rfl (Or.inl rfl)) 
            (pss_one (ps_asg (pe_or (pe_ix ix_list (pv 14) pe_int (fun _ _ => rfl)) (pe_one (pe_and (pe_cmpR op_eq (pv 11) pe_str (nomark _)) (pe_one (pe_cmpR op_eq (pe_ix ix_list (pv 14) pe_int (fun _ _ => rfl)) (pv 12) (nomark _)))))) (pg_sub (pv 14) pe_int zset_list)))))))))) 
        (pss_one (ps_if (pt_not (pt_val (pe_call (ok_law_alike T TE) (hr.mono (by decide)) (by rfl) T.g__law_alike T.F__law_alike.kp T.k__law_alike .nil pass0 (pa_cons (pv 2) (pa_cons (pv 3) (pa_cons (pv 4) (pa_cons (pv 5) (pa_cons (pe_meth (pv 2) T.c_Vault T.m_Vault_traces (ok_Vault_traces T) (hr.mono (by decide)) T.k_Vault_traces .nil pass0 (pa_cons (pv 5) pa_nil)) pa_nil)))))))) 
          (pss_one (ps_ret pe_bl)) pss_nil))))))) 
      (pss_one (ps_ret pe_bl))))))))), ?_⟩
  change (_ : TS) _ [some _, none, none, none, none, none, none, none, none, none, none, none, none, none, none] _
  try dsimp only [cxOf, Cx.nox, Cx.wish]
  have no_ : ∀ {x : Addr}, x ∉ ([] : List Addr) := List.not_mem_nil
  walk_at "go"
  refine ⟨_, rfl, sc, ns, rfl, hS, fun p H1 e1 n1 P1 => ?_⟩
  walk_at "go"
  refine ⟨sz (by show 2 ≤ _; decide), w_alc fun o H2 e2 n2 g2 => ?_⟩
  have P2 := P1.ext e2 no_
  walk_at "go"
  intro j dx nj ndx nej
  have eo := make_ext (C := T.C_Vault) nj ndx nej
  have hj : (upd (upd H2 dx (.own j)) j (.ins T.C_Vault dx [])) j = some (.ins T.C_Vault dx []) := upd_same
  generalize upd (upd H2 dx (.own j)) j (.ins T.C_Vault dx []) = H3 at eo hj ⊢
  have P3 := P2.ext eo no_
  have g3 := eo.keep _ _ g2 no_
  refine ⟨_, _, rfl, j, dx, o, two, rfl, rfl, hj, g3, two_nd, (by show 2 < 64; decide), fun v1 H4 e4 v4 ok n1 k1 p1 gn1 u1 fr => ⟨rfl, ?_⟩⟩
  obtain ⟨sc', ns', pl, re, fi, hp2, _⟩ := id P2
  have npj : p ≠ j := ne_of_none hp2 nj
  have P4 := P3.ext e4 (nm1 npj)
  obtain ⟨sc4, ns4, pl4, re4, fi4, hp3, _⟩ := id P3
  have pF : p ∉ v1.F j := fun m => (fr p m).elim npj fun z => by rw [hp3] at z; cases z
  walk_at "go"
  refine ⟨sz (by show 2 ≤ _; decide), w_alc fun o2 H5 e5 n5 g5 => ?_⟩
  have P5 := P4.ext e5 no_
  have v5 := v4.ext0 e5
  walk_at "go"
  intro j2 dx2 nj2 ndx2 nej2
  have eo2 := make_ext (C := T.C_Vault) nj2 ndx2 nej2
  have hj2 : (upd (upd H5 dx2 (.own j2)) j2 (.ins T.C_Vault dx2 [])) j2 = some (.ins T.C_Vault dx2 []) := upd_same
  generalize upd (upd H5 dx2 (.own j2)) j2 (.ins T.C_Vault dx2 []) = H6 at eo2 hj2 ⊢
  have P6 := P5.ext eo2 no_
  have v6 := v5.ext0 eo2
  have g6 := eo2.keep _ _ g5 no_
  refine ⟨_, _, rfl, j2, dx2, o2, two, rfl, rfl, hj2, g6, two_nd, (by show 2 < 64; decide), fun v2 H7 e7 v7 ok2 n2' k2 p2 gn2 u2 fr2 => ⟨rfl, ?_⟩⟩
  have nF2 := v5.out nj2
  have v17 : VAt T.C_Vault H7 j v1 := v6.ext e7 fun a m => nm1 fun z => nF2 (z ▸ m)
  have npj2 : p ≠ j2 := P5.ne nj2
  have P7 := P6.ext e7 (nm1 npj2)
  have pF2 : p ∉ v2.F j2 := fun m => (fr2 p m).elim npj2 fun z => by
    obtain ⟨_, _, _, _, _, hp6, _⟩ := id P6
    rw [hp6] at z; cases z
  have ap : ∀ a ∈ v1.F j, a ∉ v2.F j2 := fun a m m2 => (fr2 a m2).elim (fun z => nF2 (z ▸ m)) fun z => by
    obtain ⟨o, q⟩ := v6.live a m
    rw [z] at q; cases q
  walk_at "go"
  refine ⟨Nat.zero_le _, w_alc fun c H8 e8 n8 g8 => ?_⟩
  have L8 : LM T.C_Vault K H8 p j j2 c v1 v2 [] := ⟨P7.ext e8 no_, v17.ext0 e8, v7.ext0 e8, ok, ok2, g8, (fun i e h => by simp at h), ⟨pF, v17.out n8, fun e m => nomatch m⟩, ⟨pF2, v7.out n8, fun e m => nomatch m⟩, ap, ⟨P7.ne n8, fun e m => nomatch m⟩, List.nodup_nil⟩
  walk_at "go"
  refine w_draw L8.po (by decide) (by decide) fun per H9 r0 r1 e9 P9 => ?_
  have L9 := L8.pool e9 P9
  walk_at "go"
  refine w_draw L9.po (by decide) (by decide) fun bo H10 q0 q1 e10 P10 => ?_
  have L10 := L9.pool e10 P10
  walk_at "go"
  refine w_draw L10.po (by decide) (by decide) fun m H11 m0 m1 e11 P11 => ?_
  have L11 := L10.pool e11 P11
  have G0 : LG v1 v2 [] (1 + per) := by
    refine ⟨⟨by rw [n2', n1], ?_, ?_, by rw [p2, p1], by rw [gn2, gn1]⟩, p1, gn1, (fun i e h => by simp at h), (fun i e h => by simp at h), (fun e m => nomatch m), fun n m => two_four n (n1 ▸ m)⟩
    · exact fun n hn => by rw [u2 n (n1 ▸ hn), u1 n (n1 ▸ hn)]
    · exact fun n hn m => by rw [k2 n (n1 ▸ hn), k1 n (n1 ▸ hn)]
  walk_at "go"
  refine ⟨_, rfl, by omega, by omega, ?_⟩
  refine z_for_range (lo := 0) (fun i σ' H' => ∃ v1 v2 cs, LM T.C_Vault K H' p j j2 c v1 v2 cs ∧ LG v1 v2 cs (1 + per) ∧ cs.length ≤ i ∧ ∃ a1 a2 a3 a4 a5 a6 a7 a8, σ' = [some (.ref sc), some (.ref p), some (.ref j), some (.ref j2), some (.ref c), some (.int (1 + per)), some (.int bo), a1, a2, a3, a4, a5, a6, a7, a8]) ⟨v1, v2, [], L11, G0, Nat.le_refl _, _, _, _, _, _, _, _, _, rfl⟩ ?_ ?_
  · rintro N i σ' H12 hi ⟨v1, v2, cs, L12, G12, lc, a1, a2, a3, a4, a5, a6, a7, a8, rfl⟩ hN
    have hi : i < (12 + m).toNat := hi
    walk_at "go"
    refine w_next_ L12.po fun H13 e13 P13 => ?_
    have L13 := L12.pool e13 P13
    walk_at "go"
    refine w_draw L13.po (by decide) (by decide) fun way H14 w0 w1 e14 P14 => ?_
    have L14 := L13.pool e14 P14
    walk_at "go"
    refine ⟨sz (by show 4 ≤ _; decide), w_alc fun o15 H15 e15 n15 g15 => ?_⟩
    have L15 := L14.ext0 e15
    walk_at "go"
    refine w_pick L15.po g15 (L14.po.ne n15).symm (by decide) (by decide) fun nv H16 hnv e16 P16 => ?_
    have L16 := L15.pool e16 P16
    obtain ⟨n, rfl, n4⟩ : ∃ n : Str, nv = .str n ∧ n ∈ four := by
      simp only [List.mem_cons, List.not_mem_nil, or_false] at hnv
      rcases hnv with rfl | rfl | rfl | rfl <;> exact ⟨_, rfl, by unfold four; simp⟩
    walk_at "go"
    refine w_cut (fun σ' H' => ∃ v1 v2 cs, LM T.C_Vault K H' p j j2 c v1 v2 cs ∧ LG v1 v2 cs (1 + per) ∧ cs.length ≤ i + 1 ∧ ∃ a1 a2 a3 a4 a5 a6 a7 a8, σ' = [some (.ref sc), some (.ref p), some (.ref j), some (.ref j2), some (.ref c), some (.int (1 + per)), some (.int bo), a1, a2, a3, a4, a5, a6, a7, a8]) ?_ fun nx hNx => ?_
    · rintro _ H17 ⟨v1, v2, cs, L17, G17, lc, a1, a2, a3, a4, a5, a6, a7, a8, rfl⟩
      obtain ⟨dx17, h17⟩ := L17.va.ob
      walk_at "if"
      walk_at "go"
      refine w_meth h17 no_Vault_traces ?_
      walk_at "go"
      refine w_traces L17.va L17.oa fun r18 H18 ys e18 n18 g18 so18 m18 l18 => ?_
      walk_at "go"
      refine w_alike (L17.ext0 e18) G17 (by omega) g18 l18 m18 fun H19 e19 => ?_
      walk_at "go"
      exact hN _ _ ⟨v1, v2, cs, (L17.ext0 e18).ext0 e19, G17, lc, _, _, _, _, _, _, _, _, rfl⟩
    · walk_at "if"
      refine w_d (fun c1 => ?_) fun c1 => ?_
      · walk_at "go"
        refine ⟨sz (by show 4 ≤ _; decide), w_alc fun o17 H17 e17 n17 g17 => ?_⟩
        have L17 := L16.ext0 e17
        walk_at "go"
        refine w_pick L17.po g17 (L16.po.ne n17).symm (by show 0 < 4; decide) (by show 4 ≤ 1000; decide) fun qv H18 hqv e18 P18 => ?_
        have L18 := L17.pool e18 P18
        obtain ⟨q, rfl⟩ : ∃ q : Int, qv = .int q := by
          simp only [List.mem_cons, List.not_mem_nil, or_false] at hqv
          rcases hqv with rfl | rfl | rfl | rfl <;> exact ⟨_, rfl⟩
        walk_at "go"; walk_at "if"
        refine w_d (fun c3 => ?_) fun c3 => ?_
        · walk_at "go"
          refine w_seal2 L18 G12 (by omega) (fun _ => c3) fun v1' v2' cs' H19 L19 G19 lc' => ?_
          walk_at "go"
          exact hNx _ _ ⟨v1', v2', cs', L19, G19, by omega, _, _, _, _, _, _, _, _, rfl⟩
        · walk_at "go"
          refine w_seal2 L18 G12 (by omega) (fun z => absurd z (by decide)) fun v1' v2' cs' H19 L19 G19 lc' => ?_
          walk_at "go"
          exact hNx _ _ ⟨v1', v2', cs', L19, G19, by omega, _, _, _, _, _, _, _, _, rfl⟩
      · walk_at "go"
        refine ⟨sz (by show 8 ≤ _; decide), w_alc fun o17 H17 e17 n17 g17 => ?_⟩
        have L17 := L16.ext0 e17
        walk_at "go"
        refine w_pick L17.po g17 (L16.po.ne n17).symm (by decide) (by decide) fun wv H18 hwv e18 P18 => ?_
        have L18 := L17.pool e18 P18
        have ws : ∀ p : Int, wv = .str (Str.ofString "store") ∨ ∃ W : Wd, wv = .str W.wd ∧ (.str W.wd : V) ≠ .str (Str.ofString "store") ∧ W.r (.int p) ∧ ∀ r, W ≠ .store r := fun p => by
          simp only [List.mem_cons, List.not_mem_nil, or_false] at hwv
          rcases hwv with rfl | rfl | rfl | rfl | rfl | rfl | rfl | rfl
          · exact .inr ⟨.down, rfl, by decide +kernel, trivial, fun _ => nofun⟩
          · exact .inr ⟨.up, rfl, by decide +kernel, trivial, fun _ => nofun⟩
          · exact .inr ⟨.up, rfl, by decide +kernel, trivial, fun _ => nofun⟩
          · exact .inr ⟨.heal, rfl, by decide +kernel, trivial, fun _ => nofun⟩
          · exact .inl rfl
          · exact .inr ⟨.destroy, rfl, by decide +kernel, trivial, fun _ => nofun⟩
          · exact .inr ⟨.forget p, rfl, by show (V.str (Str.ofString "forget")) ≠ _; decide +kernel, rfl, fun _ => nofun⟩
          · exact .inr ⟨.forget p, rfl, by show (V.str (Str.ofString "forget")) ≠ _; decide +kernel, rfl, fun _ => nofun⟩
        obtain ⟨wd, rfl⟩ : ∃ wd : Str, wv = .str wd := by
          rcases ws 0 with rfl | ⟨W, rfl, _⟩ <;> exact ⟨_, rfl⟩
        walk_at "go"
        refine w_cutE (fun v H' => ∃ W : Wd, wd = W.wd ∧ W.r v ∧ (∀ r, W = .store r → r ∈ four) ∧ LM T.C_Vault K H' p j j2 c v1 v2 cs) ?_ fun Q' hQ => ?_
        · rintro rv H19 ⟨W, rfl, hr, hs, L19⟩
          have nl : v1.names.length ≤ four.length := nodup_len56 L19.oa.nn G12.fr
          have nl4 : v1.names.length ≤ 4 := nl
          have lp := G12.len
          have lp2 : v2.pn.length = cs.length := by rw [G12.si.pn]; exact lp
          walk_at "go"
          refine w_told hr L19.va L19.oa (by omega) (by omega) fun v1' H20 o1 O1 st1 ok1 tr1 out1 fr1 => ?_
          have L20 := L19.one st1 ok1
          walk_at "go"; walk_at "if"
          refine w_told hr L20.vb L20.ob (by rw [G12.si.nm]; omega) (by omega) fun v2' H21 o2 O2 st2 ok2 tr2 out2 fr2 => ?_
          have L21 := L20.two st2 ok2
          have eO : O2 = O1 := (TR.sim G12.si L19.oa tr1 tr2).1
          walk_at "go"
          refine w_same (sl_out (eO ▸ out2) (out1.ext st2.ext fun a q => L19.vb.out (fr1 a q))) fun H22 e22 => ?_
          have L22 := L21.ext0 e22
          walk_at "go"
          refine ⟨_, rfl, ⟨_, sql L22.ci⟩, ?_⟩
          refine z_for_list (xs := cs.map fun e => V.ref e.ad) (fun k σ' H' => LM T.C_Vault K H' p j j2 c v1' v2' (mkI W cs k) ∧ ∃ a6 a8, σ' = [some (.ref sc), some (.ref p), some (.ref j), some (.ref j2), some (.ref c), some (.int (1 + per)), some (.int bo), some (.int (0 + i)), some (.int way), some (.str n), a6, some (.str W.wd), some rv, some o1, a8]) ⟨L22, _, _, rfl⟩ (fun k σ' H' _ ⟨L, _⟩ => sql (by have := L.ci; rw [mkI_ad] at this; exact this)) ?_ ?_
          · rintro Nx kk x σ' H23 hx ⟨L23, a6, a8, rfl⟩ hN2
            rw [List.getElem?_map, Option.map_eq_some_iff] at hx
            obtain ⟨e, he, rfl⟩ := hx
            obtain ⟨had, _, _⟩ := L23.ce kk e (mkI_at he)
            have had' : H23 e.ad = some (.lst [.ref e.t, e.x.v, e.y.v, .int e.pe, .bl e.fl, .bl e.ot]) := had
            have fin : ∀ b, b = (e.fl || W.fg e.pe) → ∀ a6, Chg e.ad (.lst [.ref e.t, e.x.v, e.y.v, .int e.pe, .bl b, .bl e.ot]) H23 (fun H' => Nx [some (.ref sc), some (.ref p), some (.ref j), some (.ref j2), some (.ref c), some (.int (1 + per)), some (.int bo), some (.int (0 + i)), some (.int way), some (.str n), a6, some (.str W.wd), some rv, some o1, some (.ref e.ad)] H') := fun b hb a6 => by
              refine w_chg had' (fun z => z) fun H24 e24 g24 => hN2 _ _ ⟨?_, _, _, rfl⟩
              have := L23.mark (mkI_at he) (b := b) e24 g24
              rw [hb] at this
              have q := mkI_set (W := W) he
              unfold mkd at q
              rw [q] at this
              exact this
            walk_at "go"
            obtain ⟨fl, hfl⟩ : ∃ b, e.fl = b := ⟨_, rfl⟩
            rw [hfl] at fin ⊢
            cases fl with
            | true =>
              refine w_t rfl ?_
              walk_at "go"
              exact fin true rfl a6
            | false =>
              refine w_f rfl ?_
              walk_at "go"
              cases W with
              | forget q =>
                obtain rfl := hr
                refine w_t (by show decide (Str.ofString "forget" = Str.ofString "forget") = true; exact decide_eq_true rfl) ?_
                walk_at "go"
                exact fin (decide (e.pe = q)) (Bool.false_or _).symm a6
              | _ =>
                refine w_f (by first | exact (by decide +kernel : decide (Str.ofString "store" = Str.ofString "forget") = false) | (dsimp only [Wd.wd]; decide +kernel)) ?_
                walk_at "go"
                exact fin false rfl a6
          · rintro σ' H23 ⟨L23, a6, a8, rfl⟩
            rw [List.length_map, mkI_len] at L23
            walk_at "go"
            exact hNx _ _ ⟨v1', v2', cs.map (mkd W), L23, G12.deed L19.oa hs tr1 tr2, by rw [List.length_map]; omega, _, _, _, _, _, _, _, _, rfl⟩
        · walk_at "ife"
          refine w_d (fun c2 => ?_) fun c2 => ?_
          · walk_at "go"
            refine ⟨sz (by show 2 ≤ _; decide), w_alc fun o19 H19 e19 n19 g19 => ?_⟩
            have L19 := L18.ext0 e19
            walk_at "go"
            refine w_pick L19.po g19 (L18.po.ne n19).symm (by decide) (by decide) fun rv H20 hrv e20 P20 => ?_
            obtain ⟨r, rfl, r4⟩ : ∃ r : Str, rv = .str r ∧ r ∈ four := by
              simp only [List.mem_cons, List.not_mem_nil, or_false] at hrv
              rcases hrv with rfl | rfl <;> exact ⟨_, rfl, by unfold four; simp⟩
            exact hQ _ _ ⟨.store r, c2, rfl, fun r' z => by cases z; exact r4, L19.pool e20 P20⟩
          · walk_at "go"
            refine ⟨sz (by show 4 ≤ _; decide), w_alc fun o19 H19 e19 n19 g19 => ?_⟩
            have L19 := L18.ext0 e19
            walk_at "go"
            refine w_pick L19.po g19 (L18.po.ne n19).symm (by show 0 < 4; decide) (by show 4 ≤ 1000; decide) fun rv H20 hrv e20 P20 => ?_
            obtain ⟨q, rfl⟩ : ∃ q : Int, rv = .int q := by
              simp only [List.mem_cons, List.not_mem_nil, or_false] at hrv
              rcases hrv with rfl | rfl | rfl | rfl <;> exact ⟨_, rfl⟩
            rcases ws q with z | ⟨W, z, nz, hr, ns⟩
            · cases z; exact absurd rfl c2
            · cases z
              exact hQ _ _ ⟨W, rfl, hr, fun r z => absurd z (ns r), L19.pool e20 P20⟩
  · rintro σ' H12 ⟨v1, v2, cs, L12, G12, lc, a1, a2, a3, a4, a5, a6, a7, a8, rfl⟩
    walk_at "go"
    exact k _

end
theorem all_mkZ {w : World} {K : PySem.W.Frag} {h : Heap} {mg : Str → Option Value} {fa : Addr} (X : K.In h) (G : h.Ns mainGlobals mg) (hfa : mg "law" = some (.ref fa)) (c : ZH.SaysZ fasZ fnsZ exsZ xtrZ fileZ K)
    : ∃ fd : FuncData, (∀ (s : Shared) (v : Value), BindsTo s fd ⟨[v], []⟩ [("script", v)]) ∧ ∀ base : Heap, K.In base → base.Ns mainGlobals mg → FnOk (PySem.Challenge.rw_storelife_k56_whole_other_worlds_of_a_va).prog w K mg base CX0 8 fa fd ["script"] (sp_law K) := by
  have e := hfa.symm.trans (He.glo_ok X G (c.d.fact 22 rfl))
  cases e
  obtain ⟨d_size_of, FD_size_of⟩ := c.d.def_ 0 (d := ⟨("size_of", none), "size_of", "size_of", defArgs s_size_of, defBody s_size_of, defScope s_size_of, [], []⟩) rfl
  have F_size_of : L2.Fun K "size_of" "size_of" s_size_of (He.fAd K ("size_of", none)) d_size_of := ZH.fun_of FD_size_of
  have b_size_of := F_size_of.binds (ps := ["kind"]) fun _ _ _ _ _ _ us hl => match us, hl with | [_], _ => rfl
  obtain ⟨d_first_code, FD_first_code⟩ := c.d.def_ 1 (d := ⟨("first_code", none), "first_code", "first_code", defArgs s_first_code, defBody s_first_code, defScope s_first_code, [], []⟩) rfl
  have F_first_code : L2.Fun K "first_code" "first_code" s_first_code (He.fAd K ("first_code", none)) d_first_code := ZH.fun_of FD_first_code
  have b_first_code := F_first_code.binds (ps := ["length"]) fun _ _ _ _ _ _ us hl => match us, hl with | [_], _ => rfl
  obtain ⟨d_code_of, FD_code_of⟩ := c.d.def_ 2 (d := ⟨("code_of", none), "code_of", "code_of", defArgs s_code_of, defBody s_code_of, defScope s_code_of, [], []⟩) rfl
  have F_code_of : L2.Fun K "code_of" "code_of" s_code_of (He.fAd K ("code_of", none)) d_code_of := ZH.fun_of FD_code_of
  have b_code_of := F_code_of.binds (ps := ["kind", "value"]) fun _ _ _ _ _ _ us hl => match us, hl with | [_, _], _ => rfl
  obtain ⟨d_text_of, FD_text_of⟩ := c.d.def_ 3 (d := ⟨("text_of", none), "text_of", "text_of", defArgs s_text_of, defBody s_text_of, defScope s_text_of, [], []⟩) rfl
  have F_text_of : L2.Fun K "text_of" "text_of" s_text_of (He.fAd K ("text_of", none)) d_text_of := ZH.fun_of FD_text_of
  have b_text_of := F_text_of.binds (ps := ["code"]) fun _ _ _ _ _ _ us hl => match us, hl with | [_], _ => rfl
  obtain ⟨d_value_of, FD_value_of⟩ := c.d.def_ 4 (d := ⟨("value_of", none), "value_of", "value_of", defArgs s_value_of, defBody s_value_of, defScope s_value_of, [], []⟩) rfl
  have F_value_of : L2.Fun K "value_of" "value_of" s_value_of (He.fAd K ("value_of", none)) d_value_of := ZH.fun_of FD_value_of
  have b_value_of := F_value_of.binds (ps := ["kind", "code"]) fun _ _ _ _ _ _ us hl => match us, hl with | [_, _], _ => rfl
  obtain ⟨d_sealed, FD_sealed⟩ := c.d.def_ 5 (d := ⟨("sealed", none), "sealed", "sealed", defArgs s_sealed, defBody s_sealed, defScope s_sealed, [], []⟩) rfl
  have F_sealed : L2.Fun K "sealed" "sealed" s_sealed (He.fAd K ("sealed", none)) d_sealed := ZH.fun_of FD_sealed
  have b_sealed := F_sealed.binds (ps := ["kind", "number", "value", "pad"]) fun _ _ _ _ _ _ us hl => match us, hl with | [_, _, _, _], _ => rfl
  obtain ⟨d_opened, FD_opened⟩ := c.d.def_ 6 (d := ⟨("opened", none), "opened", "opened", defArgs s_opened, defBody s_opened, defScope s_opened, [], []⟩) rfl
  have F_opened : L2.Fun K "opened" "opened" s_opened (He.fAd K ("opened", none)) d_opened := ZH.fun_of FD_opened
  have b_opened := F_opened.binds (ps := ["cell", "pad"]) fun _ _ _ _ _ _ us hl => match us, hl with | [_, _], _ => rfl
  obtain ⟨d_Vault___init__, FD_Vault___init__⟩ := c.d.def_ 7 (d := ⟨("Vault", some "__init__"), "__init__", "Vault.__init__", defArgs s_Vault___init__, defBody s_Vault___init__, defScope s_Vault___init__, [], []⟩) rfl
  have F_Vault___init__ : L2.Fun K "__init__" "Vault.__init__" s_Vault___init__ (He.fAd K ("Vault", some "__init__")) d_Vault___init__ := ZH.fun_of FD_Vault___init__
  have b_Vault___init__ := F_Vault___init__.binds (ps := ["self", "holders"]) fun _ _ _ _ _ _ us hl => match us, hl with | [_, _], _ => rfl
  obtain ⟨d_Vault_known, FD_Vault_known⟩ := c.d.def_ 8 (d := ⟨("Vault", some "known"), "known", "Vault.known", defArgs s_Vault_known, defBody s_Vault_known, defScope s_Vault_known, [], []⟩) rfl
  have F_Vault_known : L2.Fun K "known" "Vault.known" s_Vault_known (He.fAd K ("Vault", some "known")) d_Vault_known := ZH.fun_of FD_Vault_known
  have b_Vault_known := F_Vault_known.binds (ps := ["self", "name"]) fun _ _ _ _ _ _ us hl => match us, hl with | [_, _], _ => rfl
  obtain ⟨d_Vault_up_names, FD_Vault_up_names⟩ := c.d.def_ 9 (d := ⟨("Vault", some "up_names"), "up_names", "Vault.up_names", defArgs s_Vault_up_names, defBody s_Vault_up_names, defScope s_Vault_up_names, [], []⟩) rfl
  have F_Vault_up_names : L2.Fun K "up_names" "Vault.up_names" s_Vault_up_names (He.fAd K ("Vault", some "up_names")) d_Vault_up_names := ZH.fun_of FD_Vault_up_names
  have b_Vault_up_names := F_Vault_up_names.binds (ps := ["self"]) fun _ _ _ _ _ _ us hl => match us, hl with | [_], _ => rfl
  obtain ⟨d_Vault_seal, FD_Vault_seal⟩ := c.d.def_ 10 (d := ⟨("Vault", some "seal"), "seal", "Vault.seal", defArgs s_Vault_seal, defBody s_Vault_seal, defScope s_Vault_seal, [], []⟩) rfl
  have F_Vault_seal : L2.Fun K "seal" "Vault.seal" s_Vault_seal (He.fAd K ("Vault", some "seal")) d_Vault_seal := ZH.fun_of FD_Vault_seal
  have b_Vault_seal := F_Vault_seal.binds (ps := ["self", "person", "kind", "value", "pad"]) fun _ _ _ _ _ _ us hl => match us, hl with | [_, _, _, _, _], _ => rfl
  obtain ⟨d_Vault_unseal, FD_Vault_unseal⟩ := c.d.def_ 11 (d := ⟨("Vault", some "unseal"), "unseal", "Vault.unseal", defArgs s_Vault_unseal, defBody s_Vault_unseal, defScope s_Vault_unseal, [], []⟩) rfl
  have F_Vault_unseal : L2.Fun K "unseal" "Vault.unseal" s_Vault_unseal (He.fAd K ("Vault", some "unseal")) d_Vault_unseal := ZH.fun_of FD_Vault_unseal
  have b_Vault_unseal := F_Vault_unseal.binds (ps := ["self", "cell"]) fun _ _ _ _ _ _ us hl => match us, hl with | [_, _], _ => rfl
  obtain ⟨d_Vault_shred, FD_Vault_shred⟩ := c.d.def_ 12 (d := ⟨("Vault", some "shred"), "shred", "Vault.shred", defArgs s_Vault_shred, defBody s_Vault_shred, defScope s_Vault_shred, [], []⟩) rfl
  have F_Vault_shred : L2.Fun K "shred" "Vault.shred" s_Vault_shred (He.fAd K ("Vault", some "shred")) d_Vault_shred := ZH.fun_of FD_Vault_shred
  have b_Vault_shred := F_Vault_shred.binds (ps := ["self", "name"]) fun _ _ _ _ _ _ us hl => match us, hl with | [_, _], _ => rfl
  obtain ⟨d_Vault_forget, FD_Vault_forget⟩ := c.d.def_ 13 (d := ⟨("Vault", some "forget"), "forget", "Vault.forget", defArgs s_Vault_forget, defBody s_Vault_forget, defScope s_Vault_forget, [], []⟩) rfl
  have F_Vault_forget : L2.Fun K "forget" "Vault.forget" s_Vault_forget (He.fAd K ("Vault", some "forget")) d_Vault_forget := ZH.fun_of FD_Vault_forget
  have b_Vault_forget := F_Vault_forget.binds (ps := ["self", "person"]) fun _ _ _ _ _ _ us hl => match us, hl with | [_, _], _ => rfl
  obtain ⟨d_Vault_has_trace, FD_Vault_has_trace⟩ := c.d.def_ 14 (d := ⟨("Vault", some "has_trace"), "has_trace", "Vault.has_trace", defArgs s_Vault_has_trace, defBody s_Vault_has_trace, defScope s_Vault_has_trace, [], []⟩) rfl
  have F_Vault_has_trace : L2.Fun K "has_trace" "Vault.has_trace" s_Vault_has_trace (He.fAd K ("Vault", some "has_trace")) d_Vault_has_trace := ZH.fun_of FD_Vault_has_trace
  have b_Vault_has_trace := F_Vault_has_trace.binds (ps := ["self", "name", "person"]) fun _ _ _ _ _ _ us hl => match us, hl with | [_, _, _], _ => rfl
  obtain ⟨d_Vault_traces, FD_Vault_traces⟩ := c.d.def_ 15 (d := ⟨("Vault", some "traces"), "traces", "Vault.traces", defArgs s_Vault_traces, defBody s_Vault_traces, defScope s_Vault_traces, [], []⟩) rfl
  have F_Vault_traces : L2.Fun K "traces" "Vault.traces" s_Vault_traces (He.fAd K ("Vault", some "traces")) d_Vault_traces := ZH.fun_of FD_Vault_traces
  have b_Vault_traces := F_Vault_traces.binds (ps := ["self", "person"]) fun _ _ _ _ _ _ us hl => match us, hl with | [_, _], _ => rfl
  obtain ⟨d_Vault_gone, FD_Vault_gone⟩ := c.d.def_ 16 (d := ⟨("Vault", some "gone"), "gone", "Vault.gone", defArgs s_Vault_gone, defBody s_Vault_gone, defScope s_Vault_gone, [], []⟩) rfl
  have F_Vault_gone : L2.Fun K "gone" "Vault.gone" s_Vault_gone (He.fAd K ("Vault", some "gone")) d_Vault_gone := ZH.fun_of FD_Vault_gone
  have b_Vault_gone := F_Vault_gone.binds (ps := ["self", "person"]) fun _ _ _ _ _ _ us hl => match us, hl with | [_, _], _ => rfl
  obtain ⟨d_Vault_holders, FD_Vault_holders⟩ := c.d.def_ 17 (d := ⟨("Vault", some "holders"), "holders", "Vault.holders", defArgs s_Vault_holders, defBody s_Vault_holders, defScope s_Vault_holders, [], []⟩) rfl
  have F_Vault_holders : L2.Fun K "holders" "Vault.holders" s_Vault_holders (He.fAd K ("Vault", some "holders")) d_Vault_holders := ZH.fun_of FD_Vault_holders
  have b_Vault_holders := F_Vault_holders.binds (ps := ["self"]) fun _ _ _ _ _ _ us hl => match us, hl with | [_], _ => rfl
  obtain ⟨d_Vault_down, FD_Vault_down⟩ := c.d.def_ 18 (d := ⟨("Vault", some "down"), "down", "Vault.down", defArgs s_Vault_down, defBody s_Vault_down, defScope s_Vault_down, [], []⟩) rfl
  have F_Vault_down : L2.Fun K "down" "Vault.down" s_Vault_down (He.fAd K ("Vault", some "down")) d_Vault_down := ZH.fun_of FD_Vault_down
  have b_Vault_down := F_Vault_down.binds (ps := ["self", "name"]) fun _ _ _ _ _ _ us hl => match us, hl with | [_, _], _ => rfl
  obtain ⟨d_Vault_up, FD_Vault_up⟩ := c.d.def_ 19 (d := ⟨("Vault", some "up"), "up", "Vault.up", defArgs s_Vault_up, defBody s_Vault_up, defScope s_Vault_up, [], []⟩) rfl
  have F_Vault_up : L2.Fun K "up" "Vault.up" s_Vault_up (He.fAd K ("Vault", some "up")) d_Vault_up := ZH.fun_of FD_Vault_up
  have b_Vault_up := F_Vault_up.binds (ps := ["self", "name"]) fun _ _ _ _ _ _ us hl => match us, hl with | [_, _], _ => rfl
  obtain ⟨d_Vault_heal, FD_Vault_heal⟩ := c.d.def_ 20 (d := ⟨("Vault", some "heal"), "heal", "Vault.heal", defArgs s_Vault_heal, defBody s_Vault_heal, defScope s_Vault_heal, [], []⟩) rfl
  have F_Vault_heal : L2.Fun K "heal" "Vault.heal" s_Vault_heal (He.fAd K ("Vault", some "heal")) d_Vault_heal := ZH.fun_of FD_Vault_heal
  have b_Vault_heal := F_Vault_heal.binds (ps := ["self"]) fun _ _ _ _ _ _ us hl => match us, hl with | [_], _ => rfl
  obtain ⟨d_Vault_store, FD_Vault_store⟩ := c.d.def_ 21 (d := ⟨("Vault", some "store"), "store", "Vault.store", defArgs s_Vault_store, defBody s_Vault_store, defScope s_Vault_store, [], []⟩) rfl
  have F_Vault_store : L2.Fun K "store" "Vault.store" s_Vault_store (He.fAd K ("Vault", some "store")) d_Vault_store := ZH.fun_of FD_Vault_store
  have b_Vault_store := F_Vault_store.binds (ps := ["self", "name", "new"]) fun _ _ _ _ _ _ us hl => match us, hl with | [_, _, _], _ => rfl
  obtain ⟨d_Vault_destroy, FD_Vault_destroy⟩ := c.d.def_ 22 (d := ⟨("Vault", some "destroy"), "destroy", "Vault.destroy", defArgs s_Vault_destroy, defBody s_Vault_destroy, defScope s_Vault_destroy, [], []⟩) rfl
  have F_Vault_destroy : L2.Fun K "destroy" "Vault.destroy" s_Vault_destroy (He.fAd K ("Vault", some "destroy")) d_Vault_destroy := ZH.fun_of FD_Vault_destroy
  have b_Vault_destroy := F_Vault_destroy.binds (ps := ["self", "name"]) fun _ _ _ _ _ _ us hl => match us, hl with | [_, _], _ => rfl
  obtain ⟨d_Vault_holder_values, FD_Vault_holder_values⟩ := c.d.def_ 23 (d := ⟨("Vault", some "holder_values"), "holder_values", "Vault.holder_values", defArgs s_Vault_holder_values, defBody s_Vault_holder_values, defScope s_Vault_holder_values, [], []⟩) rfl
  have F_Vault_holder_values : L2.Fun K "holder_values" "Vault.holder_values" s_Vault_holder_values (He.fAd K ("Vault", some "holder_values")) d_Vault_holder_values := ZH.fun_of FD_Vault_holder_values
  have b_Vault_holder_values := F_Vault_holder_values.binds (ps := ["self", "name"]) fun _ _ _ _ _ _ us hl => match us, hl with | [_, _], _ => rfl
  obtain ⟨d_Vault_vault_values, FD_Vault_vault_values⟩ := c.d.def_ 24 (d := ⟨("Vault", some "vault_values"), "vault_values", "Vault.vault_values", defArgs s_Vault_vault_values, defBody s_Vault_vault_values, defScope s_Vault_vault_values, [], []⟩) rfl
  have F_Vault_vault_values : L2.Fun K "vault_values" "Vault.vault_values" s_Vault_vault_values (He.fAd K ("Vault", some "vault_values")) d_Vault_vault_values := ZH.fun_of FD_Vault_vault_values
  have b_Vault_vault_values := F_Vault_vault_values.binds (ps := ["self"]) fun _ _ _ _ _ _ us hl => match us, hl with | [_], _ => rfl
  obtain ⟨d_law_mixed, FD_law_mixed⟩ := c.d.def_ 25 (d := ⟨("_law_mixed", none), "_law_mixed", "_law_mixed", defArgs s_law_mixed, defBody s_law_mixed, defScope s_law_mixed, [], []⟩) rfl
  have F_law_mixed : L2.Fun K "_law_mixed" "_law_mixed" s_law_mixed (He.fAd K ("_law_mixed", none)) d_law_mixed := ZH.fun_of FD_law_mixed
  have b_law_mixed := F_law_mixed.binds (ps := ["number", "place"]) fun _ _ _ _ _ _ us hl => match us, hl with | [_, _], _ => rfl
  obtain ⟨d_law_rest, FD_law_rest⟩ := c.d.def_ 26 (d := ⟨("_law_rest", none), "_law_rest", "_law_rest", defArgs s_law_rest, defBody s_law_rest, defScope s_law_rest, [], []⟩) rfl
  have F_law_rest : L2.Fun K "_law_rest" "_law_rest" s_law_rest (He.fAd K ("_law_rest", none)) d_law_rest := ZH.fun_of FD_law_rest
  have b_law_rest := F_law_rest.binds (ps := ["script", "place", "fills"]) fun _ _ _ _ _ _ us hl => match us, hl with | [_, _, _], _ => rfl
  obtain ⟨d_law_draw, FD_law_draw⟩ := c.d.def_ 27 (d := ⟨("_law_draw", none), "_law_draw", "_law_draw", defArgs s_law_draw, defBody s_law_draw, defScope s_law_draw, [], []⟩) rfl
  have F_law_draw : L2.Fun K "_law_draw" "_law_draw" s_law_draw (He.fAd K ("_law_draw", none)) d_law_draw := ZH.fun_of FD_law_draw
  have b_law_draw := F_law_draw.binds (ps := ["pool", "limit"]) fun _ _ _ _ _ _ us hl => match us, hl with | [_, _], _ => rfl
  obtain ⟨d_law_pick, FD_law_pick⟩ := c.d.def_ 28 (d := ⟨("_law_pick", none), "_law_pick", "_law_pick", defArgs s_law_pick, defBody s_law_pick, defScope s_law_pick, [], []⟩) rfl
  have F_law_pick : L2.Fun K "_law_pick" "_law_pick" s_law_pick (He.fAd K ("_law_pick", none)) d_law_pick := ZH.fun_of FD_law_pick
  have b_law_pick := F_law_pick.binds (ps := ["pool", "options"]) fun _ _ _ _ _ _ us hl => match us, hl with | [_, _], _ => rfl
  obtain ⟨d_law_text, FD_law_text⟩ := c.d.def_ 29 (d := ⟨("_law_text", none), "_law_text", "_law_text", defArgs s_law_text, defBody s_law_text, defScope s_law_text, [], []⟩) rfl
  have F_law_text : L2.Fun K "_law_text" "_law_text" s_law_text (He.fAd K ("_law_text", none)) d_law_text := ZH.fun_of FD_law_text
  have b_law_text := F_law_text.binds (ps := ["pool", "size"]) fun _ _ _ _ _ _ us hl => match us, hl with | [_, _], _ => rfl
  obtain ⟨d_law_value, FD_law_value⟩ := c.d.def_ 30 (d := ⟨("_law_value", none), "_law_value", "_law_value", defArgs s_law_value, defBody s_law_value, defScope s_law_value, [], []⟩) rfl
  have F_law_value : L2.Fun K "_law_value" "_law_value" s_law_value (He.fAd K ("_law_value", none)) d_law_value := ZH.fun_of FD_law_value
  have b_law_value := F_law_value.binds (ps := ["pool", "kind"]) fun _ _ _ _ _ _ us hl => match us, hl with | [_, _], _ => rfl
  obtain ⟨d_law_code, FD_law_code⟩ := c.d.def_ 31 (d := ⟨("_law_code", none), "_law_code", "_law_code", defArgs s_law_code, defBody s_law_code, defScope s_law_code, [], []⟩) rfl
  have F_law_code : L2.Fun K "_law_code" "_law_code" s_law_code (He.fAd K ("_law_code", none)) d_law_code := ZH.fun_of FD_law_code
  have b_law_code := F_law_code.binds (ps := ["kind", "value"]) fun _ _ _ _ _ _ us hl => match us, hl with | [_, _], _ => rfl
  obtain ⟨d_law_size, FD_law_size⟩ := c.d.def_ 32 (d := ⟨("_law_size", none), "_law_size", "_law_size", defArgs s_law_size, defBody s_law_size, defScope s_law_size, [], []⟩) rfl
  have F_law_size : L2.Fun K "_law_size" "_law_size" s_law_size (He.fAd K ("_law_size", none)) d_law_size := ZH.fun_of FD_law_size
  have b_law_size := F_law_size.binds (ps := ["kind"]) fun _ _ _ _ _ _ us hl => match us, hl with | [_], _ => rfl
  obtain ⟨d_law_same, FD_law_same⟩ := c.d.def_ 33 (d := ⟨("_law_same", none), "_law_same", "_law_same", defArgs s_law_same, defBody s_law_same, defScope s_law_same, [], []⟩) rfl
  have F_law_same : L2.Fun K "_law_same" "_law_same" s_law_same (He.fAd K ("_law_same", none)) d_law_same := ZH.fun_of FD_law_same
  have b_law_same := F_law_same.binds (ps := ["actual", "due"]) fun _ _ _ _ _ _ us hl => match us, hl with | [_, _], _ => rfl
  obtain ⟨d_law_pool, FD_law_pool⟩ := c.d.def_ 34 (d := ⟨("_law_pool", none), "_law_pool", "_law_pool", defArgs s_law_pool, defBody s_law_pool, defScope s_law_pool, [], []⟩) rfl
  have F_law_pool : L2.Fun K "_law_pool" "_law_pool" s_law_pool (He.fAd K ("_law_pool", none)) d_law_pool := ZH.fun_of FD_law_pool
  have b_law_pool := F_law_pool.binds (ps := ["script"]) fun _ _ _ _ _ _ us hl => match us, hl with | [_], _ => rfl
  obtain ⟨d_law_next, FD_law_next⟩ := c.d.def_ 35 (d := ⟨("_law_next", none), "_law_next", "_law_next", defArgs s_law_next, defBody s_law_next, defScope s_law_next, [], []⟩) rfl
  have F_law_next : L2.Fun K "_law_next" "_law_next" s_law_next (He.fAd K ("_law_next", none)) d_law_next := ZH.fun_of FD_law_next
  have b_law_next := F_law_next.binds (ps := ["pool"]) fun _ _ _ _ _ _ us hl => match us, hl with | [_], _ => rfl
  obtain ⟨d_law_told, FD_law_told⟩ := c.d.def_ 36 (d := ⟨("_law_told", none), "_law_told", "_law_told", defArgs s_law_told, defBody s_law_told, defScope s_law_told, [], []⟩) rfl
  have F_law_told : L2.Fun K "_law_told" "_law_told" s_law_told (He.fAd K ("_law_told", none)) d_law_told := ZH.fun_of FD_law_told
  have b_law_told := F_law_told.binds (ps := ["vault", "word", "name", "rest"]) fun _ _ _ _ _ _ us hl => match us, hl with | [_, _, _, _], _ => rfl
  obtain ⟨d_law_seal_both, FD_law_seal_both⟩ := c.d.def_ 37 (d := ⟨("_law_seal_both", none), "_law_seal_both", "_law_seal_both", defArgs s_law_seal_both, defBody s_law_seal_both, defScope s_law_seal_both, [], []⟩) rfl
  have F_law_seal_both : L2.Fun K "_law_seal_both" "_law_seal_both" s_law_seal_both (He.fAd K ("_law_seal_both", none)) d_law_seal_both := ZH.fun_of FD_law_seal_both
  have b_law_seal_both := F_law_seal_both.binds (ps := ["pool", "one", "two", "cells", "person", "other"]) fun _ _ _ _ _ _ us hl => match us, hl with | [_, _, _, _, _, _], _ => rfl
  obtain ⟨d_law_open, FD_law_open⟩ := c.d.def_ 38 (d := ⟨("_law_open", none), "_law_open", "_law_open", defArgs s_law_open, defBody s_law_open, defScope s_law_open, [], []⟩) rfl
  have F_law_open : L2.Fun K "_law_open" "_law_open" s_law_open (He.fAd K ("_law_open", none)) d_law_open := ZH.fun_of FD_law_open
  have b_law_open := F_law_open.binds (ps := ["vault", "cell"]) fun _ _ _ _ _ _ us hl => match us, hl with | [_, _], _ => rfl
  obtain ⟨d_law_alike, FD_law_alike⟩ := c.d.def_ 39 (d := ⟨("_law_alike", none), "_law_alike", "_law_alike", defArgs s_law_alike, defBody s_law_alike, defScope s_law_alike, [], []⟩) rfl
  have F_law_alike : L2.Fun K "_law_alike" "_law_alike" s_law_alike (He.fAd K ("_law_alike", none)) d_law_alike := ZH.fun_of FD_law_alike
  have b_law_alike := F_law_alike.binds (ps := ["one", "two", "cells", "person", "past"]) fun _ _ _ _ _ _ us hl => match us, hl with | [_, _, _, _, _], _ => rfl
  obtain ⟨d_law, FD_law⟩ := c.d.def_ 40 (d := ⟨("law", none), "law", "law", defArgs s_law, defBody s_law, defScope s_law, [], []⟩) rfl
  have F_law : L2.Fun K "law" "law" s_law (He.fAd K ("law", none)) d_law := ZH.fun_of FD_law
  have b_law := F_law.binds (ps := ["script"]) fun _ _ _ _ _ _ us hl => match us, hl with | [_], _ => rfl
  obtain ⟨t_ALPHABET, g_ALPHABET⟩ := He.str_ok X G (c.d.fact 59 rfl)
  obtain ⟨t_INT_MOST, g_INT_MOST⟩ := He.int_ok X G (c.d.fact 60 rfl)
  obtain ⟨t_TEXT_MOST, g_TEXT_MOST⟩ := He.int_ok X G (c.d.fact 61 rfl)
  obtain ⟨t_INT_SIZE, g_INT_SIZE⟩ := He.int_ok X G (c.d.fact 62 rfl)
  obtain ⟨t_TEXT_SIZE, g_TEXT_SIZE⟩ := He.int_ok X G (c.d.fact 63 rfl)
  have e_NameTaken := c.exf 0 (d := ⟨"NameTaken", "name", "NameTaken.__init__", PySem.ZEX.NameTaken_mA, PySem.ZEX.NameTaken_mB, PySem.ZEX.NameTaken_mS⟩) rfl
  have e_NoHolder := c.exf 1 (d := ⟨"NoHolder", "name", "NoHolder.__init__", PySem.ZEX.NoHolder_mA, PySem.ZEX.NoHolder_mB, PySem.ZEX.NoHolder_mS⟩) rfl
  have e_LastHolder := c.exf 2 (d := ⟨"LastHolder", "name", "LastHolder.__init__", PySem.ZEX.LastHolder_mA, PySem.ZEX.LastHolder_mB, PySem.ZEX.LastHolder_mS⟩) rfl
  obtain ⟨q_HoldersDown, k_HoldersDown, s_HoldersDown, y_HoldersDown⟩ := He.exc_ok (c.d.fact 70 rfl)
  let T : Txt K mg := {
    f_size_of := He.fAd K ("size_of", none), d_size_of := d_size_of, F_size_of := F_size_of, g_size_of := (He.glo_ok X G (c.d.fact 0 rfl)), k_size_of := b_size_of,
    f_first_code := He.fAd K ("first_code", none), d_first_code := d_first_code, F_first_code := F_first_code, g_first_code := (He.glo_ok X G (c.d.fact 1 rfl)), k_first_code := b_first_code,
    f_code_of := He.fAd K ("code_of", none), d_code_of := d_code_of, F_code_of := F_code_of, g_code_of := (He.glo_ok X G (c.d.fact 2 rfl)), k_code_of := b_code_of,
    f_text_of := He.fAd K ("text_of", none), d_text_of := d_text_of, F_text_of := F_text_of, g_text_of := (He.glo_ok X G (c.d.fact 3 rfl)), k_text_of := b_text_of,
    f_value_of := He.fAd K ("value_of", none), d_value_of := d_value_of, F_value_of := F_value_of, g_value_of := (He.glo_ok X G (c.d.fact 4 rfl)), k_value_of := b_value_of,
    f_sealed := He.fAd K ("sealed", none), d_sealed := d_sealed, F_sealed := F_sealed, g_sealed := (He.glo_ok X G (c.d.fact 5 rfl)), k_sealed := b_sealed,
    f_opened := He.fAd K ("opened", none), d_opened := d_opened, F_opened := F_opened, g_opened := (He.glo_ok X G (c.d.fact 6 rfl)), k_opened := b_opened,
    f_Vault___init__ := He.fAd K ("Vault", some "__init__"), d_Vault___init__ := d_Vault___init__, F_Vault___init__ := F_Vault___init__, k_Vault___init__ := b_Vault___init__,
    f_Vault_known := He.fAd K ("Vault", some "known"), d_Vault_known := d_Vault_known, F_Vault_known := F_Vault_known, k_Vault_known := b_Vault_known,
    f_Vault_up_names := He.fAd K ("Vault", some "up_names"), d_Vault_up_names := d_Vault_up_names, F_Vault_up_names := F_Vault_up_names, k_Vault_up_names := b_Vault_up_names,
    f_Vault_seal := He.fAd K ("Vault", some "seal"), d_Vault_seal := d_Vault_seal, F_Vault_seal := F_Vault_seal, k_Vault_seal := b_Vault_seal,
    f_Vault_unseal := He.fAd K ("Vault", some "unseal"), d_Vault_unseal := d_Vault_unseal, F_Vault_unseal := F_Vault_unseal, k_Vault_unseal := b_Vault_unseal,
    f_Vault_shred := He.fAd K ("Vault", some "shred"), d_Vault_shred := d_Vault_shred, F_Vault_shred := F_Vault_shred, k_Vault_shred := b_Vault_shred,
    f_Vault_forget := He.fAd K ("Vault", some "forget"), d_Vault_forget := d_Vault_forget, F_Vault_forget := F_Vault_forget, k_Vault_forget := b_Vault_forget,
    f_Vault_has_trace := He.fAd K ("Vault", some "has_trace"), d_Vault_has_trace := d_Vault_has_trace, F_Vault_has_trace := F_Vault_has_trace, k_Vault_has_trace := b_Vault_has_trace,
    f_Vault_traces := He.fAd K ("Vault", some "traces"), d_Vault_traces := d_Vault_traces, F_Vault_traces := F_Vault_traces, k_Vault_traces := b_Vault_traces,
    f_Vault_gone := He.fAd K ("Vault", some "gone"), d_Vault_gone := d_Vault_gone, F_Vault_gone := F_Vault_gone, k_Vault_gone := b_Vault_gone,
    f_Vault_holders := He.fAd K ("Vault", some "holders"), d_Vault_holders := d_Vault_holders, F_Vault_holders := F_Vault_holders, k_Vault_holders := b_Vault_holders,
    f_Vault_down := He.fAd K ("Vault", some "down"), d_Vault_down := d_Vault_down, F_Vault_down := F_Vault_down, k_Vault_down := b_Vault_down,
    f_Vault_up := He.fAd K ("Vault", some "up"), d_Vault_up := d_Vault_up, F_Vault_up := F_Vault_up, k_Vault_up := b_Vault_up,
    f_Vault_heal := He.fAd K ("Vault", some "heal"), d_Vault_heal := d_Vault_heal, F_Vault_heal := F_Vault_heal, k_Vault_heal := b_Vault_heal,
    f_Vault_store := He.fAd K ("Vault", some "store"), d_Vault_store := d_Vault_store, F_Vault_store := F_Vault_store, k_Vault_store := b_Vault_store,
    f_Vault_destroy := He.fAd K ("Vault", some "destroy"), d_Vault_destroy := d_Vault_destroy, F_Vault_destroy := F_Vault_destroy, k_Vault_destroy := b_Vault_destroy,
    f_Vault_holder_values := He.fAd K ("Vault", some "holder_values"), d_Vault_holder_values := d_Vault_holder_values, F_Vault_holder_values := F_Vault_holder_values, k_Vault_holder_values := b_Vault_holder_values,
    f_Vault_vault_values := He.fAd K ("Vault", some "vault_values"), d_Vault_vault_values := d_Vault_vault_values, F_Vault_vault_values := F_Vault_vault_values, k_Vault_vault_values := b_Vault_vault_values,
    f__law_mixed := He.fAd K ("_law_mixed", none), d__law_mixed := d_law_mixed, F__law_mixed := F_law_mixed, g__law_mixed := (He.glo_ok X G (c.d.fact 7 rfl)), k__law_mixed := b_law_mixed,
    f__law_rest := He.fAd K ("_law_rest", none), d__law_rest := d_law_rest, F__law_rest := F_law_rest, g__law_rest := (He.glo_ok X G (c.d.fact 8 rfl)), k__law_rest := b_law_rest,
    f__law_draw := He.fAd K ("_law_draw", none), d__law_draw := d_law_draw, F__law_draw := F_law_draw, g__law_draw := (He.glo_ok X G (c.d.fact 9 rfl)), k__law_draw := b_law_draw,
    f__law_pick := He.fAd K ("_law_pick", none), d__law_pick := d_law_pick, F__law_pick := F_law_pick, g__law_pick := (He.glo_ok X G (c.d.fact 10 rfl)), k__law_pick := b_law_pick,
    f__law_text := He.fAd K ("_law_text", none), d__law_text := d_law_text, F__law_text := F_law_text, g__law_text := (He.glo_ok X G (c.d.fact 11 rfl)), k__law_text := b_law_text,
    f__law_value := He.fAd K ("_law_value", none), d__law_value := d_law_value, F__law_value := F_law_value, g__law_value := (He.glo_ok X G (c.d.fact 12 rfl)), k__law_value := b_law_value,
    f__law_code := He.fAd K ("_law_code", none), d__law_code := d_law_code, F__law_code := F_law_code, g__law_code := (He.glo_ok X G (c.d.fact 13 rfl)), k__law_code := b_law_code,
    f__law_size := He.fAd K ("_law_size", none), d__law_size := d_law_size, F__law_size := F_law_size, g__law_size := (He.glo_ok X G (c.d.fact 14 rfl)), k__law_size := b_law_size,
    f__law_same := He.fAd K ("_law_same", none), d__law_same := d_law_same, F__law_same := F_law_same, g__law_same := (He.glo_ok X G (c.d.fact 15 rfl)), k__law_same := b_law_same,
    f__law_pool := He.fAd K ("_law_pool", none), d__law_pool := d_law_pool, F__law_pool := F_law_pool, g__law_pool := (He.glo_ok X G (c.d.fact 16 rfl)), k__law_pool := b_law_pool,
    f__law_next := He.fAd K ("_law_next", none), d__law_next := d_law_next, F__law_next := F_law_next, g__law_next := (He.glo_ok X G (c.d.fact 17 rfl)), k__law_next := b_law_next,
    f__law_told := He.fAd K ("_law_told", none), d__law_told := d_law_told, F__law_told := F_law_told, g__law_told := (He.glo_ok X G (c.d.fact 18 rfl)), k__law_told := b_law_told,
    f__law_seal_both := He.fAd K ("_law_seal_both", none), d__law_seal_both := d_law_seal_both, F__law_seal_both := F_law_seal_both, g__law_seal_both := (He.glo_ok X G (c.d.fact 19 rfl)), k__law_seal_both := b_law_seal_both,
    f__law_open := He.fAd K ("_law_open", none), d__law_open := d_law_open, F__law_open := F_law_open, g__law_open := (He.glo_ok X G (c.d.fact 20 rfl)), k__law_open := b_law_open,
    f__law_alike := He.fAd K ("_law_alike", none), d__law_alike := d_law_alike, F__law_alike := F_law_alike, g__law_alike := (He.glo_ok X G (c.d.fact 21 rfl)), k__law_alike := b_law_alike,
    f_law := He.fAd K ("law", none), d_law := d_law, F_law := F_law, g_law := (He.glo_ok X G (c.d.fact 22 rfl)), k_law := b_law,
    C_Vault := He.ga K "Vault", c_Vault := He.cls_ok (c.d.fact 23 rfl), g_Vault := (He.glo_ok X G (c.d.fact 24 rfl)), mk_Vault := He.mkr_ok (c.d.fact 25 rfl),
    na_Vault_pads := He.noat_ok (c.d.fact 26 rfl),
    na_Vault_ups := He.noat_ok (c.d.fact 27 rfl),
    na_Vault_persons := He.noat_ok (c.d.fact 28 rfl),
    na_Vault_gone_numbers := He.noat_ok (c.d.fact 29 rfl),
    m_Vault___init__ := He.meth_ok (c.d.fact 30 rfl),
    m_Vault_known := He.meth_ok (c.d.fact 31 rfl),
    m_Vault_up_names := He.meth_ok (c.d.fact 32 rfl),
    m_Vault_seal := He.meth_ok (c.d.fact 33 rfl),
    m_Vault_unseal := He.meth_ok (c.d.fact 34 rfl),
    m_Vault_shred := He.meth_ok (c.d.fact 35 rfl),
    m_Vault_forget := He.meth_ok (c.d.fact 36 rfl),
    m_Vault_has_trace := He.meth_ok (c.d.fact 37 rfl),
    m_Vault_traces := He.meth_ok (c.d.fact 38 rfl),
    m_Vault_gone := He.meth_ok (c.d.fact 39 rfl),
    m_Vault_holders := He.meth_ok (c.d.fact 40 rfl),
    m_Vault_down := He.meth_ok (c.d.fact 41 rfl),
    m_Vault_up := He.meth_ok (c.d.fact 42 rfl),
    m_Vault_heal := He.meth_ok (c.d.fact 43 rfl),
    m_Vault_store := He.meth_ok (c.d.fact 44 rfl),
    m_Vault_destroy := He.meth_ok (c.d.fact 45 rfl),
    m_Vault_holder_values := He.meth_ok (c.d.fact 46 rfl),
    m_Vault_vault_values := He.meth_ok (c.d.fact 47 rfl),
    b_bool := (He.free_ok X G (c.d.fact 48 rfl)),
    b_dict := (He.free_ok X G (c.d.fact 49 rfl)),
    b_int := (He.free_ok X G (c.d.fact 50 rfl)),
    b_isinstance := (He.free_ok X G (c.d.fact 51 rfl)),
    b_len := (He.free_ok X G (c.d.fact 52 rfl)),
    b_list := (He.free_ok X G (c.d.fact 53 rfl)),
    b_range := (He.free_ok X G (c.d.fact 54 rfl)),
    b_reversed := (He.free_ok X G (c.d.fact 55 rfl)),
    b_sorted := (He.free_ok X G (c.d.fact 56 rfl)),
    b_str := (He.free_ok X G (c.d.fact 57 rfl)),
    b_tuple := (He.free_ok X G (c.d.fact 58 rfl)),
    t_ALPHABET := t_ALPHABET, g_ALPHABET := g_ALPHABET, r_ALPHABET := ⟨_, rfl⟩,
    t_INT_MOST := t_INT_MOST, g_INT_MOST := g_INT_MOST, r_INT_MOST := ⟨_, rfl⟩,
    t_TEXT_MOST := t_TEXT_MOST, g_TEXT_MOST := g_TEXT_MOST, r_TEXT_MOST := ⟨_, rfl⟩,
    t_INT_SIZE := t_INT_SIZE, g_INT_SIZE := g_INT_SIZE, r_INT_SIZE := ⟨_, rfl⟩,
    t_TEXT_SIZE := t_TEXT_SIZE, g_TEXT_SIZE := g_TEXT_SIZE, r_TEXT_SIZE := ⟨_, rfl⟩ }
  let TE : Errs (PySem.Challenge.rw_storelife_k56_whole_other_worlds_of_a_va).prog K mg := {
    C_StoreError := He.ga K "StoreError", g_StoreError := (He.glo_ok X G (c.d.fact 64 rfl)),
    C_NameTaken := He.ga K "NameTaken", g_NameTaken := (He.glo_ok X G (c.d.fact 65 rfl)),
    C_NoHolder := He.ga K "NoHolder", g_NoHolder := (He.glo_ok X G (c.d.fact 66 rfl)),
    C_HoldersDown := He.ga K "HoldersDown", g_HoldersDown := (He.glo_ok X G (c.d.fact 67 rfl)),
    C_LastHolder := He.ga K "LastHolder", g_LastHolder := (He.glo_ok X G (c.d.fact 68 rfl)),
    C_Vault := He.ga K "Vault", g_Vault := (He.glo_ok X G (c.d.fact 24 rfl)),
    I_NameTaken := ZH.iAd K "NameTaken", E_NameTaken := { gC := (He.glo_ok X G (c.d.fact 65 rfl)), cls := e_NameTaken.cls, sa := e_NameTaken.sa, noN := e_NameTaken.noN, iC := e_NameTaken.iC, tC := e_NameTaken.tC, kC := e_NameTaken.kC, exC := e_NameTaken.exC, veC := e_NameTaken.veC, tyC := e_NameTaken.tyC, mro := e_NameTaken.mro, sup := e_NameTaken.sup, op := c.op, noS := (He.free_ok X G (c.d.fact 69 rfl)), top := by first | rfl | decide +kernel, fn := e_NameTaken.fn }, x_NameTaken := e_NameTaken.xfc, i_NameTaken := e_NameTaken.exc c, t_NameTaken := e_NameTaken.te,
    I_NoHolder := ZH.iAd K "NoHolder", E_NoHolder := { gC := (He.glo_ok X G (c.d.fact 66 rfl)), cls := e_NoHolder.cls, sa := e_NoHolder.sa, noN := e_NoHolder.noN, iC := e_NoHolder.iC, tC := e_NoHolder.tC, kC := e_NoHolder.kC, exC := e_NoHolder.exC, veC := e_NoHolder.veC, tyC := e_NoHolder.tyC, mro := e_NoHolder.mro, sup := e_NoHolder.sup, op := c.op, noS := (He.free_ok X G (c.d.fact 69 rfl)), top := by first | rfl | decide +kernel, fn := e_NoHolder.fn }, x_NoHolder := e_NoHolder.xfc, i_NoHolder := e_NoHolder.exc c, t_NoHolder := e_NoHolder.te,
    I_LastHolder := ZH.iAd K "LastHolder", E_LastHolder := { gC := (He.glo_ok X G (c.d.fact 68 rfl)), cls := e_LastHolder.cls, sa := e_LastHolder.sa, noN := e_LastHolder.noN, iC := e_LastHolder.iC, tC := e_LastHolder.tC, kC := e_LastHolder.kC, exC := e_LastHolder.exC, veC := e_LastHolder.veC, tyC := e_LastHolder.tyC, mro := e_LastHolder.mro, sup := e_LastHolder.sup, op := c.op, noS := (He.free_ok X G (c.d.fact 69 rfl)), top := by first | rfl | decide +kernel, fn := e_LastHolder.fn }, x_LastHolder := e_LastHolder.xfc, i_LastHolder := e_LastHolder.exc c, t_LastHolder := e_LastHolder.te,
    q_HoldersDown := q_HoldersDown, k_HoldersDown := k_HoldersDown, s_HoldersDown := s_HoldersDown, y_HoldersDown := y_HoldersDown,
    m_HoldersDown_HoldersDown := (He.exm_ok (c.d.fact 71 rfl)),
    n_NoHolder_HoldersDown := (He.exm_ok (c.d.fact 72 rfl)),
    n_NameTaken_HoldersDown := (He.exm_ok (c.d.fact 73 rfl)),
    n_LastHolder_HoldersDown := (He.exm_ok (c.d.fact 74 rfl)),
    n_NameTaken_NoHolder := (He.exm_ok (c.d.fact 75 rfl)),
    n_LastHolder_NoHolder := (He.exm_ok (c.d.fact 76 rfl)),
    n_LastHolder_NameTaken := (He.exm_ok (c.d.fact 77 rfl)) }
  have ba_law := FunD.bindsA (ps := ["script"]) FD_law fun _ _ _ _ _ _ us hl => match us, hl with | [_], _ => rfl
  exact ⟨_, fun s v => ba_law s [v] rfl, fun base _ _ => ok_law T TE⟩
end Law
open PySem PySem.W PySem.Calls PyProof.Rows
set_option maxRecDepth 100000 in
set_option maxHeartbeats 0 in
theorem PySem.Challenge.cw_storelife_k56_whole_other_worlds_of_a_va_holds : PySem.Challenge.rw_storelife_k56_whole_other_worlds_of_a_va.Holds := by
  w_on; o_law
  refine HandSHeadRun.head_any (r := OpenLaw.row PySem.Challenge.rw_storelife_k56_whole_other_worlds_of_a_va) (q := view (OpenLaw.row PySem.Challenge.rw_storelife_k56_whole_other_worlds_of_a_va).prog [38]) (H := Law.hkZ) (ob := Law.obZ) (M := 20000) (loose := Law.looseZ) (d := HandSHeadRun.topDef (OpenLaw.row PySem.Challenge.rw_storelife_k56_whole_other_worlds_of_a_va).prog 38) (kwd := []) Law.ob_eqZ
    (by kernel_rfl) (fun s => by kernel_rfl) Law.runZ (by kernel_rfl) (by kernel_rfl) (by kernel_rfl) (by rfl) (by first | assumption | decide +kernel) (by decide +kernel) ⟨rfl, rfl, rfl, rfl, rfl, by decide +kernel⟩ ?hw ?hc
  case hw => w_witness2
  case hc =>
    refine L2.walk_ofE (l := PySem.Challenge.rw_storelife_k56_whole_other_worlds_of_a_va) (n := 63) (k := 8) (x := "script") (CX := L2.CX0) rfl (by decide) (by kernel_rfl) ⟨rfl, by decide, by decide⟩ ?F (fun _ _ _ _ z => z)
    intro w mg fa h Y G hmg0
    obtain ⟨K, KX, c⟩ := Y
    have hmg : mg ("law" : PySem.Str) = some (.ref fa) := by
      have e : (HandSHeadRun.topDef (OpenLaw.row PySem.Challenge.rw_storelife_k56_whole_other_worlds_of_a_va).prog 38).name = ("law" : PySem.Str) := by kernel_rfl
      rw [← e]
      exact hmg0
    obtain ⟨fd, hb, hF⟩ := Law.all_mkZ (w := w) KX G hmg c
    exact ⟨K, fd, Law.sp_law K, KX, hb, fun H a ns hl hO hS => Law.start_law hO hl hS, hF⟩

