import PyProof.Rows.All
import Wide.All
import OpenK.AllK
import Wide.FinOn
import HandS.ForMost
import HandS.More
import HandS.TupAny
import HandS.Wide
import HandS.IsInst
import HandS.Style
import KE.KxIndex
import HandS.SortRule
import HandS.Conv
import HandS.Finally
import HandS.Deep
import HandS.DictComp
import KE.KDictCopyH
import HandS.TupLen
import KE.DataMinMax
import KE.SortData
import HandS.Text
import HandS.Steps
import HandS.ForExc
import HandS.TryMany
import KE.DataCmp
import PyProof.DictTable
import KE.KExcSuper
import HandS.ExcField
import HandS.ExcIs
import KE.KExcIs
import PySem.Challenge.RW_storelife_k27_journal_by_a_plain_list
set_option Elab.async false
set_option linter.all false
set_option maxRecDepth 100000
namespace Zk
open PySem PySem.Spec L2
open PyProof.Rows hiding St

/-! ### heaps that grow -/
def Imm : HO → Prop
  | .tup _ => True
  | .frz _ _ => True
  | _ => False
/-- everything but the objects at M stands as it stood -/
structure Ext (M : List Addr) (H H' : Hp) : Prop where
  keep : ∀ a o, H a = some o → a ∉ M → H' a = some o
  imm : ∀ a o, H a = some o → Imm o → H' a = some o
  live : ∀ a o, H a = some o → ∃ o', H' a = some o'
theorem Ext.refl {M : List Addr} {H : Hp} : Ext M H H := ⟨fun _ _ h _ => h, fun _ _ h _ => h, fun _ o h => ⟨o, h⟩⟩
theorem Ext.trans {M : List Addr} {H H1 H2 : Hp} (a : Ext M H H1) (b : Ext M H1 H2) : Ext M H H2 :=
  ⟨fun x o h n => b.keep x o (a.keep x o h n) n, fun x o h i => b.imm x o (a.imm x o h i) i, fun x o h => (a.live x o h).elim fun o' h' => b.live x o' h'⟩
theorem Ext.mono {M N : List Addr} {H H' : Hp} (a : Ext M H H') (s : ∀ x ∈ M, x ∈ N) : Ext N H H' :=
  ⟨fun x o h n => a.keep x o h fun z => n (s x z), a.imm, a.live⟩
theorem Ext.up {M : List Addr} {H H' : Hp} (a : Ext [] H H') : Ext M H H' := a.mono fun _ z => nomatch z
theorem Ext.free {M : List Addr} {H H' : Hp} (e : Ext M H H') {l : Addr} (h : H' l = none) : H l = none := by
  cases q : H l with
  | none => rfl
  | some o =>
    obtain ⟨o', q'⟩ := e.live l o q
    rw [h] at q'
    cases q'
/-- what changes at an address that was free at the start is no change -/
theorem Ext.drop {M : List Addr} {H H1 H2 : Hp} {p : Addr} (a : Ext M H H1) (b : Ext (p :: M) H1 H2) (np : H p = none) : Ext M H H2 :=
  ⟨fun x o h n => b.keep x o (a.keep x o h n) fun z => by
      rcases List.mem_cons.mp z with z | z
      · subst z; rw [np] at h; cases h
      · exact n z, fun x o h i => b.imm x o (a.imm x o h i) i, fun x o h => (a.live x o h).elim fun o' h' => b.live x o' h'⟩
theorem Ext.new {H : Hp} {p : Addr} {o : HO} (h : H p = none) : Ext [] H (upd H p o) :=
  ⟨fun a u e _ => by rw [upd_ne (ne_of_none e h)]; exact e, fun a u e _ => by rw [upd_ne (ne_of_none e h)]; exact e, fun a u e => ⟨u, by rw [upd_ne (ne_of_none e h)]; exact e⟩⟩
theorem Ext.mut {M : List Addr} {H : Hp} {p : Addr} {o u : HO} (h : H p = some u) (hm : ¬ Imm u) (hp : p ∈ M) : Ext M H (upd H p o) := by
  refine ⟨fun a x e n => ?_, fun a x e i => ?_, fun a x e => ?_⟩
  · have : a ≠ p := fun z => n (z ▸ hp)
    rw [upd_ne this]; exact e
  · have : a ≠ p := fun z => by subst z; rw [h] at e; cases e; exact hm i
    rw [upd_ne this]; exact e
  · by_cases z : a = p
    · subst z; exact ⟨o, upd_same⟩
    · exact ⟨x, by rw [upd_ne z]; exact e⟩
theorem Ext.tup {M : List Addr} {H H' : Hp} (e : Ext M H H') {a : Addr} {xs : List V} (h : H a = some (.tup xs)) : H' a = some (.tup xs) := e.imm a _ h trivial
theorem Ext.at {M : List Addr} {H H' : Hp} (e : Ext M H H') {a : Addr} {o : HO} (h : H a = some o) (n : a ∉ M) : H' a = some o := e.keep a o h n
/-- the dict at d is locked while it is walked -/
theorem Ext.lock {M : List Addr} {H H' : Hp} {d : Addr} {u : HO} {od : Obj} (h : H d = some u) (hm : ¬ Imm u) (e : Ext M (upd H d (.frz od u)) H') : Ext M H (upd H' d u) := by
  refine ⟨fun a x q n => ?_, fun a x q i => ?_, fun a x q => ?_⟩
  · by_cases z : a = d
    · subst z; rw [upd_same]; rw [h] at q; exact q
    · rw [upd_ne z]; exact e.keep a x (by rw [upd_ne z]; exact q) n
  · by_cases z : a = d
    · subst z; rw [upd_same]; rw [h] at q; exact q
    · rw [upd_ne z]; exact e.imm a x (by rw [upd_ne z]; exact q) i
  · by_cases z : a = d
    · subst z; exact ⟨u, upd_same⟩
    · obtain ⟨o', q'⟩ := e.live a x (by rw [upd_ne z]; exact q)
      exact ⟨o', by rw [upd_ne z]; exact q'⟩

/-! ### an object is laid, an object is changed, with the heap behind it a letter -/
def Alc (o : HO) (H : Hp) (Q : VK) : Prop := ∀ p, H p = none → Q (.ref p) (upd H p o)
theorem w_alc {o : HO} {H : Hp} {Q : VK} (h : ∀ p H', Ext [] H H' → H p = none → H' p = some o → Q (.ref p) H') : Alc o H Q := fun p np => h p _ (Ext.new np) np upd_same
def Chg (p : Addr) (o : HO) (H : Hp) (Q : Hp → Prop) : Prop := Q (upd H p o)
theorem w_chg {p : Addr} {o u : HO} {H : Hp} {Q : Hp → Prop} (hp : H p = some u) (hm : ¬ Imm u) (h : ∀ H', Ext [p] H H' → H' p = some o → Q H') : Chg p o H Q :=
  h _ (Ext.mut hp hm (List.mem_singleton.mpr rfl)) upd_same

/-! ### lists and tuples to be read -/
theorem sql {K : PySem.W.Frag} {H : Hp} {a : Addr} {xs : List V} (h : H a = some (.lst xs)) : SqL K H a xs := .inl (.inl h)
theorem sqt {K : PySem.W.Frag} {H : Hp} {a : Addr} {xs : List V} (h : H a = some (.tup xs)) : SqT K H a xs := .inl (.inl h)
/-- the script: locked, or of the written part -/
def Scr (K : PySem.W.Frag) (H : Hp) (a : Addr) (xs : List V) : Prop := (∃ o, H a = some (.frz o (.lst xs))) ∨ (∀ H', SqL K H' a xs)
theorem Scr.ext {K : PySem.W.Frag} {M : List Addr} {H H' : Hp} {a : Addr} {xs : List V} (e : Ext M H H') (h : Scr K H a xs) : Scr K H' a xs := by
  rcases h with ⟨o, h⟩ | h
  · exact .inl ⟨o, e.imm _ _ h trivial⟩
  · exact .inr h
theorem Scr.sql {K : PySem.W.Frag} {H : Hp} {a : Addr} {xs : List V} (h : Scr K H a xs) : SqL K H a xs := by
  rcases h with ⟨o, h⟩ | h
  · exact .inl (.inr ⟨o, h⟩)
  · exact h H
theorem Scr.of {K : PySem.W.Frag} {H : Hp} {a : Addr} {xs : List V} (hO : Only H) (h : SqL K H a xs) : Scr K H a xs := by
  rcases h with (h | ⟨o, h⟩) | h
  · rcases hO a with z | ⟨o, ys, z⟩
    · rw [h] at z; cases z
    · rw [h] at z; cases z
  · exact .inl ⟨o, h⟩
  · exact .inr fun H' => .inr h
theorem sz {n : Nat} (h : n ≤ 1000000) : n ≤ sizeLine := Nat.le_trans h (by decide)
theorem szl {n : Nat} (h : n < 1000000) : n < sizeLine := Nat.lt_of_lt_of_le h (by decide)

/-! ### readings, by name -/
def zTup (t : TA) : TE := fun σ H Q => t σ H fun xs H1 => xs.length ≤ sizeLine ∧ Alc (.tup xs) H1 Q
def zLst (t : TA) : TE := fun σ H Q => t σ H fun xs H1 => xs.length ≤ sizeLine ∧ Alc (.lst xs) H1 Q
def zDNewK : TE := fun _ H Q => Alc (.dK []) H Q
def zDNewT : TE := fun _ H Q => Alc (.dT []) H Q
def rLtS : R2 := fun x y H Q => ∃ i j, x = .str i ∧ y = .str j ∧ Q (.bl (decide (i.cps.toList < j.cps.toList))) H
def rAddSt : R2 := fun x y H Q => ∃ i j, x = .str i ∧ y = .str j ∧ i.length + j.length ≤ sizeLine ∧ Q (.str (i ++ j)) H
def rMulSt : R2 := fun x y H Q => ∃ i j, x = .str i ∧ y = .int j ∧ i.length ≤ 16 ∧ (-(2 ^ 63 : Int) ≤ j ∧ j ≤ 1048576) ∧ Q (.str (Txt.mul i j)) H
def rIsNn : R2 := fun x y H Q => y = .non ∧ Q (.bl (decide (x = .non))) H
def rIsNt : R2 := fun x y H Q => y = .non ∧ Q (.bl (!decide (x = .non))) H
def rIsBv : R2 := fun x y H Q => ∃ b, y = .bl b ∧ Q (.bl (decide (x = .bl b))) H
def rIsNtBv : R2 := fun x y H Q => ∃ b, y = .bl b ∧ Q (.bl (!decide (x = .bl b))) H
def zCat : R2 := fun x y H Q => ∃ l b xs zs, x = .ref l ∧ y = .ref b ∧ H l = some (.lst xs) ∧ H b = some (.lst zs) ∧ xs.length + zs.length ≤ sizeLine ∧ Alc (.lst (xs ++ zs)) H Q
def zCatA (K : PySem.W.Frag) : R2 := fun x y H Q => ∃ a b xs ys, x = .ref a ∧ y = .ref b ∧ SqT K H a xs ∧ SqT K H b ys ∧ xs.length + ys.length ≤ sizeLine ∧
  (xs = [] → Q (.ref b) H) ∧ (xs ≠ [] → ys = [] → Q (.ref a) H) ∧ (xs ≠ [] → ys ≠ [] → Alc (.tup (xs ++ ys)) H Q)
def zSetL : V → V → V → Hp → (Hp → Prop) → Prop := fun o i v H Q => ∃ p xs k j, o = .ref p ∧ i = .int k ∧ H p = some (.lst xs) ∧ ixN xs.length k = some j ∧ Chg p (.lst (xs.set j v)) H Q
def zAppend : V → List V → Hp → VK → Prop := fun x vs H Q => ∃ l xs y, x = .ref l ∧ vs = [y] ∧ H l = some (.lst xs) ∧ xs.length < sizeLine ∧ Chg l (.lst (xs ++ [y])) H (Q .non)
def rJoin (K : PySem.W.Frag) : V → List V → Hp → VK → Prop := fun x xs H Q => ∃ a p, ∃ ys : List Str, x = .str a ∧ xs = [.ref p] ∧ (SqL K H p (ys.map V.str) ∨ SqT K H p (ys.map V.str)) ∧
    (ys.map (·.length)).sum + ys.length * a.length ≤ 16777216 ∧ Q (.str (Txt.join a ys)) H
/-! calls of built-ins -/
abbrev RC := List V → Hp → VK → Prop
def cInt : RC := fun xs H Q => (∃ i, xs = [.int i] ∧ Q (.int i) H) ∨ ∃ k, xs = [.bl k] ∧ Q (.int (if k then 1 else 0)) H
def cTup (K : PySem.W.Frag) : RC := fun xs H Q => ∃ p ys, xs = [.ref p] ∧ ((SqL K H p ys ∧ Alc (.tup ys) H Q) ∨ (SqT K H p ys ∧ Q (.ref p) H))
def cLen (K : PySem.W.Frag) : RC := fun xs H Q => ∃ x n, xs = [x] ∧ LenV K x H n ∧ Q (.int n) H
def cLenD : RC := fun xs H Q => ∃ a kvs, xs = [V.ref a] ∧ H a = some (.dK kvs) ∧ Q (.int kvs.length) H
def cDictD : RC := fun xs H Q => ∃ (a : Addr) (kvs : List (Key × V)), xs = [.ref a] ∧ Rd H a (.dK kvs) ∧ Alc (.dK kvs) H Q
def cSortD : RC := fun xs H Q => ∃ (a : Addr) (kvs : List (Key × V)) (ks : List Str), xs = [.ref a] ∧ Rd H a (.dK kvs) ∧ kvs.map (·.1) = ks.map Sum.inr ∧ ks.length < 64 ∧
    ∀ ys, ys.Perm ks → sortedS ys = true → Alc (.lst (ys.map V.str)) H Q
section
variable {X : Cx} {es : List Expr} {t : TA} {pos : Pos}
theorem pe_tupZ {x1} (h : PA X es t) : PE X (.Tuple es x1 pos) (zTup t) := pe_tup h
theorem pe_lstZ (h : PA X es t) : PE X (.List es pos) (zLst t) := pe_lst h
theorem pe_dnewKZ : PE X (.Dict [] [] pos) zDNewK := pe_dnewK
theorem pe_dnewTZ : PE X (.Dict [] [] pos) zDNewT := pe_dnewT
theorem zpe_join {o e : Expr} {to te : TE} {apos : Pos} (ho : PE X o to) (he : PE X e te) (hs : starEach [e] X.env = [(false, eval e X.env)] := by rfl) (hbase : attributeBase o "join" X.env (eval o X.env) = eval o X.env := by rfl) (hline : (apos.endLine == pos.line) = true := by rfl) :
    PE X (.Call (.Attribute o "join" apos) [e] [] pos) (tM1 (rJoin X.K) to te) := pe_join ho he hs hbase hline
theorem zop_ltS : OpR X (compareOp .Lt) rLtS := op_lt_str
theorem zop_addS : OpR X (binaryOp .Add) rAddSt := op_add_str
theorem zop_isN : OpR X (compareOp .Is) rIsNn := op_isN
theorem zop_notN : OpR X (compareOp .IsNot) rIsNt := op_notN
theorem plain_bool {x : V} {v : Value} {b : Bool} (r : RelV x v) : plainIs v (.bool b) = true := by
  cases x with
  | non => cases (show v = _ from r); rfl
  | bl c => cases (show v = _ from r); rfl
  | int i => obtain ⟨t, e⟩ := (show ∃ t, v = _ from r); subst e; rfl
  | str i => obtain ⟨t, e⟩ := (show ∃ t, v = _ from r); subst e; rfl
  | byt i => obtain ⟨t, e⟩ := (show ∃ t, v = _ from r); subst e; rfl
  | flt i => obtain ⟨t, e⟩ := (show ∃ t, v = _ from r); subst e; rfl
  | ref a => cases (show v = _ from r); rfl
  | ty n => cases (show v = _ from r); rfl
theorem rel_bool {x : V} {v : Value} {b : Bool} (r : RelV x v) : (v = .bool b) ↔ x = .bl b := by
  constructor
  · intro z
    subst z
    cases x with
    | bl c => cases (show Value.bool b = Value.bool c from r); rfl
    | non => cases (show Value.bool b = _ from r)
    | int i => obtain ⟨t, e⟩ := (show ∃ t, Value.bool b = _ from r); cases e
    | str i => obtain ⟨t, e⟩ := (show ∃ t, Value.bool b = _ from r); cases e
    | byt i => obtain ⟨t, e⟩ := (show ∃ t, Value.bool b = _ from r); cases e
    | flt i => obtain ⟨t, e⟩ := (show ∃ t, Value.bool b = _ from r); cases e
    | ref a => cases (show Value.bool b = _ from r)
    | ty n => cases (show Value.bool b = _ from r)
  · intro z
    subst z
    exact r
theorem zop_isB : OpR X (compareOp .Is) rIsBv := by
  intro pins s σ H x y v u Q I rx ry h
  obtain ⟨b, rfl, q⟩ := h
  cases (show u = Value.bool b from ry)
  by_cases e : x = .bl b
  · have e2 := (rel_bool (b := b) rx).mpr e
    subst e2
    exact wpAny_is_self rfl ⟨.bl true, H, I, rfl, by rw [decide_eq_true e] at q; exact q⟩
  · exact wpAny_is_other (plain_bool rx) (fun z => e ((rel_bool rx).mp z)) ⟨.bl false, H, I, rfl, by rw [decide_eq_false e] at q; exact q⟩
theorem zop_isNotB : OpR X (compareOp .IsNot) rIsNtBv := by
  intro pins s σ H x y v u Q I rx ry h
  obtain ⟨b, rfl, q⟩ := h
  cases (show u = Value.bool b from ry)
  by_cases e : x = .bl b
  · have e2 := (rel_bool (b := b) rx).mpr e
    subst e2
    exact wpAny_isNot_self rfl ⟨.bl false, H, I, rfl, by rw [decide_eq_true e] at q; exact q⟩
  · exact wpAny_isNot_other (plain_bool rx) (fun z => e ((rel_bool rx).mp z)) ⟨.bl true, H, I, rfl, by rw [decide_eq_false e] at q; exact q⟩
theorem zop_mulS : OpR X (binaryOp .Mult) rMulSt := by
  intro pins s σ H x y v u Q I rx ry h
  obtain ⟨i, j, rfl, rfl, hi, hj, q⟩ := h
  obtain ⟨t, rfl⟩ := rx
  obtain ⟨t', rfl⟩ := ry
  exact PySem.W.KXi.mul rfl hi hj.1 hj.2 fun t' tk _ _ => ⟨.str (Txt.mul i j), H, I.tok _, ⟨_, rfl⟩, q⟩
theorem zop_cat : OpR X (binaryOp .Add) zCat := op_cat
theorem zop_catA : OpR X (binaryOp .Add) (zCatA X.K) := op_catA
theorem zset_list : PSet X zSetL := set_list
theorem zmt_append : MtR X "list.append" zAppend := mt_append
theorem zop_catAK {K : PySem.W.Frag} (h : X.K = K) : OpR X (binaryOp .Add) (zCatA K) := h ▸ zop_catA
theorem op_in_seqK {K : PySem.W.Frag} (h : X.K = K) : OpR X (compareOp .In) (rIn K false) := h ▸ op_in_seq
theorem op_notIn_seqK {K : PySem.W.Frag} (h : X.K = K) : OpR X (compareOp .NotIn) (rIn K true) := h ▸ op_notIn_seq
theorem ix_listK {K : PySem.W.Frag} (h : X.K = K) : IxR X (rIxL K) := h ▸ ix_list
theorem ix_tupK {K : PySem.W.Frag} (h : X.K = K) : IxR X (rIxT K) := h ▸ ix_tup
theorem zc_lenK {K : PySem.W.Frag} (h : X.K = K) : CallR X (.builtin "len") (cLen K) := h ▸ call_len
theorem cr_sumK {K : PySem.W.Frag} (hc : X.calm = true) (h : X.K = K) : CallR X (.builtin "sum") (rSum K) := h ▸ cr_sum hc
theorem zc_int : CallR X (.type "int") cInt := call_int1
theorem zc_tup : CallR X (.type "tuple") (cTup X.K) := call_tuple_of
theorem zc_len : CallR X (.builtin "len") (cLen X.K) := call_len
theorem zc_lenD : CallR X (.builtin "len") cLenD := call_lenD
theorem zc_dictD : CallR X (.type "dict") cDictD := call_dictD
theorem zc_sortD (hc : X.calm = true) : CallR X (.builtin "sorted") cSortD := by
  intro pins s σ H xs us Q I r h
  obtain ⟨a, kvs, ks, e, h1, h2, h3, q⟩ := h
  exact call_sortedD hc pins s σ H xs us Q I r ⟨a, kvs, ks, e, h1, h2, h3, fun ys p hp hs np => q ys hp hs p np⟩
end
end Zk

set_option Elab.async false
set_option linter.all false
set_option maxRecDepth 100000
namespace Zk
open PySem PySem.Spec L2
open PyProof.Rows hiding St

theorem nm1 {a p : Addr} (h : a ≠ p) : a ∉ [p] := fun z => h (List.mem_singleton.mp z)
theorem nm2 {a p q : Addr} (h : a ≠ p) (g : a ≠ q) : a ∉ [p, q] := fun z => by
  rcases List.mem_cons.mp z with z | z
  · exact h z
  · exact g (List.mem_singleton.mp z)
theorem Ext.get {M : List Addr} {H H' : Hp} (e : Ext M H H') {a : Addr} {o : HO} (h : H a = some o) (n : a ∉ M ∨ Imm o) : H' a = some o :=
  n.elim (e.keep a o h) (e.imm a o h)

theorem at_some {α : Type} {xs : List α} {r : Int} (h0 : 0 ≤ r) (h1 : r < (xs.length : Int)) : ∃ v, atI xs r = some v ∧ xs[r.toNat]? = some v := by
  have hl : r.toNat < xs.length := by omega
  refine ⟨xs[r.toNat], ?_, List.getElem?_eq_getElem hl⟩
  have h := atI_nat (xs := xs) (j := r.toNat) (List.getElem?_eq_getElem hl)
  rw [Int.toNat_of_nonneg h0] at h
  exact h
theorem at_map {α : Type} {f : α → V} {xs : List α} {r : Int} (h0 : 0 ≤ r) (h1 : r < (xs.length : Int)) : ∃ v, v ∈ xs ∧ atI (xs.map f) r = some (f v) := by
  obtain ⟨v, h, g⟩ := at_some (xs := xs.map f) h0 (by rw [List.length_map]; exact h1)
  rw [List.getElem?_map, Option.map_eq_some_iff] at g
  obtain ⟨y, hy, e⟩ := g
  subst e
  exact ⟨y, List.mem_of_getElem? hy, h⟩

theorem str_app_inj {z : Str} {c d : Nat} (h : z ++ (⟨#[c]⟩ : Str) = z ++ (⟨#[d]⟩ : Str)) : c = d := by
  have h1 : z.cps ++ #[c] = z.cps ++ #[d] := congrArg Str.cps h
  have h2 := congrArg Array.toList h1
  simp at h2
  exact h2
theorem str_len_append (a b : Str) : (a ++ b).length = a.length + b.length := Array.size_append
theorem str_len_join {sep : Str} (h0 : sep.length = 0) : ∀ ys : List Str, (Txt.join sep ys).length = (ys.map (·.length)).sum := by
  intro ys
  show (Builtin.Str.glued sep ys).length = _
  rw [StrLaws.glued_eq_join]
  induction ys with
  | nil => rfl
  | cons x r ih =>
    cases r with
    | nil => simp [Str.join]
    | cons y r =>
      show (x ++ sep ++ Str.join sep (y :: r)).length = _
      rw [str_len_append, str_len_append, ih, h0]
      simp
theorem str_len_mul {x : Str} {n : Int} (h : 0 ≤ n) : (Txt.mul x n).length = x.length * n.toNat := by
  have e := PyProof.Rows.len_mul x n
  rw [if_neg (by simp; omega)] at e
  have : (x.length : Int) * n = ((x.length * n.toNat : Nat) : Int) := by
    rw [Int.natCast_mul, Int.toNat_of_nonneg h]
  omega
theorem nodup_len {α : Type} [DecidableEq α] : ∀ {l m : List α}, l.Nodup → (∀ x ∈ l, x ∈ m) → l.length ≤ m.length
  | [], m, _, _ => Nat.zero_le _
  | x :: l, m, hn, hs => by
    obtain ⟨h1, h2⟩ := List.nodup_cons.mp hn
    have hx := hs x List.mem_cons_self
    have ih := nodup_len (l := l) (m := m.erase x) h2 fun y hy => by
      have ne : y ≠ x := fun z => h1 (z ▸ hy)
      exact (List.mem_erase_of_ne ne).mpr (hs y (List.mem_cons_of_mem _ hy))
    rw [List.length_erase_of_mem hx] at ih
    have : 0 < m.length := List.length_pos_of_mem hx
    show l.length + 1 ≤ m.length
    omega

theorem paired_snoc {α β : Type} {R : α → β → Prop} {x : α} {y : β} (r : R x y) : ∀ {xs : List α} {ys : List β}, Paired R xs ys → Paired R (xs ++ [x]) (ys ++ [y])
  | _, _, .nil => .cons r .nil
  | _, _, .cons h t => .cons h (paired_snoc r t)
theorem paired_at {α β : Type} {R : α → β → Prop} : ∀ {xs : List α} {ys : List β} {i : Nat} {x : α}, Paired R xs ys → xs[i]? = some x → ∃ y, ys[i]? = some y ∧ R x y
  | _, _, _, _, .nil, e => by simp at e
  | _, _, 0, _, .cons r _, e => by simp at e; subst e; exact ⟨_, rfl, r⟩
  | _, _, i + 1, x, .cons _ t, e => by
    obtain ⟨y, h1, h2⟩ := paired_at (i := i) (x := x) t (by simpa using e)
    exact ⟨y, by simpa using h1, h2⟩
theorem paired_len {α β : Type} {R : α → β → Prop} : ∀ {xs : List α} {ys : List β}, Paired R xs ys → xs.length = ys.length
  | _, _, .nil => rfl
  | _, _, .cons _ t => congrArg (· + 1) (paired_len t)
theorem at_nat0 {α : Type} {xs : List α} {i : Nat} {v : α} (h : xs[i]? = some v) : atI xs (0 + (i : Int)) = some v := by
  rw [Int.zero_add]
  exact atI_nat h
theorem get_snoc {α : Type} {xs : List α} {x : α} {i : Nat} (h : xs.length = i) : (xs ++ [x])[i]? = some x := by
  subst h
  simp
theorem Ext.dropq {M : List Addr} {H H1 H2 : Hp} {p : Addr} (a : Ext M H H1) (b : Ext [p] H1 H2) (np : H p = none) : Ext M H H2 :=
  a.drop (p := p) (b.mono fun _ z => List.mem_cons.mpr (.inl (List.mem_singleton.mp z))) np

/-! ### promises by the number of arguments -/
def sp0 (P : Hp → VK → Prop) : Sp := fun vs H Q _ => vs = [] ∧ P H Q
def sp1 (P : V → Hp → VK → Prop) : Sp := fun vs H Q _ => ∃ a, vs = [a] ∧ P a H Q
def sp2 (P : V → V → Hp → VK → Prop) : Sp := fun vs H Q _ => ∃ a b, vs = [a, b] ∧ P a b H Q
def sp3 (P : V → V → V → Hp → VK → Prop) : Sp := fun vs H Q _ => ∃ a b c, vs = [a, b, c] ∧ P a b c H Q
def sp4 (P : V → V → V → V → Hp → VK → Prop) : Sp := fun vs H Q _ => ∃ a b c d, vs = [a, b, c, d] ∧ P a b c d H Q
theorem w_sp1 {P : V → Hp → VK → Prop} {a H Q E} (h : P a H Q) : sp1 P ([a] ++ []) H Q E := ⟨a, rfl, h⟩
theorem w_sp2 {P : V → V → Hp → VK → Prop} {a b H Q E} (h : P a b H Q) : sp2 P ([a, b] ++ []) H Q E := ⟨a, b, rfl, h⟩
theorem w_sp3 {P : V → V → V → Hp → VK → Prop} {a b c H Q E} (h : P a b c H Q) : sp3 P ([a, b, c] ++ []) H Q E := ⟨a, b, c, rfl, h⟩
theorem w_sp4 {P : V → V → V → V → Hp → VK → Prop} {a b c d H Q E} (h : P a b c d H Q) : sp4 P ([a, b, c, d] ++ []) H Q E := ⟨a, b, c, d, rfl, h⟩
theorem len1 {P : V → Hp → VK → Prop} {x : Str} : ∀ vs H Q E, sp1 P vs H Q E → vs.length = [x].length := fun _ _ _ _ ⟨_, e, _⟩ => e ▸ rfl
theorem len2 {P : V → V → Hp → VK → Prop} {x y : Str} : ∀ vs H Q E, sp2 P vs H Q E → vs.length = [x, y].length := fun _ _ _ _ ⟨_, _, e, _⟩ => e ▸ rfl
theorem len3 {P : V → V → V → Hp → VK → Prop} {x y z : Str} : ∀ vs H Q E, sp3 P vs H Q E → vs.length = [x, y, z].length := fun _ _ _ _ ⟨_, _, _, e, _⟩ => e ▸ rfl
theorem len4 {P : V → V → V → V → Hp → VK → Prop} {x y z u : Str} : ∀ vs H Q E, sp4 P vs H Q E → vs.length = [x, y, z, u].length := fun _ _ _ _ ⟨_, _, _, _, e, _⟩ => e ▸ rfl

/-! ### one step of a reading -/
section
variable {σ : St} {H : Hp} {Q : VK} {QB : Bool → Hp → Prop} {QL : List V → Hp → Prop} {v x y : V} {ta tb tc te : TE} {tt tu : TT} {tl : TA} {t u : TS} {r : R2} {K : PySem.W.Frag} {i : Nat} {nx bk ct : St → Hp → Prop} {rt : VK} {a b : Addr}
theorem w_var (h : σ[i]? = some (some v)) (q : Q v H) : tVar i σ H Q := ⟨v, h, q⟩
theorem w_c (q : Q v H) : tC v σ H Q := q
theorem w_op (h : ta σ H fun x H1 => tb σ H1 fun y H2 => r x y H2 Q) : tOp r ta tb σ H Q := h
theorem w_un {r : V → Hp → VK → Prop} (h : ta σ H fun x H1 => r x H1 Q) : tUn r ta σ H Q := h
theorem w_rU {g : Int → V} {j : Int} (q : Q (g j) H) : rU g (.int j) H Q := ⟨j, rfl, q⟩
theorem w_I0 {g : Int → Int → V} {i j : Int} (q : Q (g i j) H) : rI0 g (.int i) (.int j) H Q := ⟨i, j, rfl, rfl, q⟩
theorem w_I {C : Int → Int → Prop} {g : Int → Int → V} {i j : Int} (c : C i j) (q : Q (g i j) H) : rI C g (.int i) (.int j) H Q := ⟨i, j, rfl, rfl, c, q⟩
theorem w_modA {i j : Int} (c : 0 < j) (q : ∀ r, 0 ≤ r → r < j → Q (.int r) H) : rI (fun _ j => 0 < j) (fun i j => .int (i % j)) (.int i) (.int j) H Q := ⟨i, j, rfl, rfl, c, q _ (Int.emod_nonneg i (by omega)) (Int.emod_lt_of_pos i c)⟩
theorem w_eq (c : scal x y = true) (q : Q (.bl (decide (x = y))) H) : rEq x y H Q := ⟨c, q⟩
theorem w_ne (c : scal x y = true) (q : Q (.bl (!decide (x = y))) H) : rNe x y H Q := ⟨c, q⟩
theorem w_eqI {i j : Int} (q : Q (.bl (decide (i = j))) H) : rEq (.int i) (.int j) H Q := ⟨rfl, by rw [show decide (V.int i = V.int j) = decide (i = j) by simp]; exact q⟩
theorem w_neI {i j : Int} (q : Q (.bl (!decide (i = j))) H) : rNe (.int i) (.int j) H Q := ⟨rfl, by rw [show decide (V.int i = V.int j) = decide (i = j) by simp]; exact q⟩
theorem w_eqS {i j : Str} (q : Q (.bl (decide (i = j))) H) : rEq (.str i) (.str j) H Q := ⟨rfl, by rw [show decide (V.str i = V.str j) = decide (i = j) by simp]; exact q⟩
theorem w_neS {i j : Str} (q : Q (.bl (!decide (i = j))) H) : rNe (.str i) (.str j) H Q := ⟨rfl, by rw [show decide (V.str i = V.str j) = decide (i = j) by simp]; exact q⟩
theorem w_isN (q : Q (.bl (decide (x = .non))) H) : rIsNn x .non H Q := ⟨rfl, q⟩
theorem w_isNt (q : Q (.bl (!decide (x = .non))) H) : rIsNt x .non H Q := ⟨rfl, q⟩
theorem w_isB {c : Bool} (q : Q (.bl (decide (x = .bl c))) H) : rIsBv x (.bl c) H Q := ⟨c, rfl, q⟩
theorem w_isNtB {c : Bool} (q : Q (.bl (!decide (x = .bl c))) H) : rIsNtBv x (.bl c) H Q := ⟨c, rfl, q⟩
theorem w_ltS {i j : Str} (q : Q (.bl (decide (i.cps.toList < j.cps.toList))) H) : rLtS (.str i) (.str j) H Q := ⟨i, j, rfl, rfl, q⟩
theorem w_addS {i j : Str} (c : i.length + j.length ≤ sizeLine) (q : Q (.str (i ++ j)) H) : rAddSt (.str i) (.str j) H Q := ⟨i, j, rfl, rfl, c, q⟩
theorem w_mulS {i : Str} {j : Int} (c : i.length ≤ 16) (d : -(2 ^ 63 : Int) ≤ j ∧ j ≤ 1048576) (q : Q (.str (Txt.mul i j)) H) : rMulSt (.str i) (.int j) H Q := ⟨i, j, rfl, rfl, c, d, q⟩
theorem w_ixL {xs : List V} {j : Int} (h : SqL K H a xs) (e : atI xs j = some v) (q : Q v H) : rIxL K (.ref a) (.int j) H Q := ⟨a, xs, j, v, rfl, rfl, h, e, q⟩
theorem w_ixT {xs : List V} {j : Int} (h : SqT K H a xs) (e : atI xs j = some v) (q : Q v H) : rIxT K (.ref a) (.int j) H Q := ⟨a, xs, j, v, rfl, rfl, h, e, q⟩
theorem w_ixS {z : Str} {j : Int} {c : Nat} (h : z.length ≤ sizeLine) (e : atI z.cps.toList j = some c) (q : Q (.str ⟨#[c]⟩) H) : rIxS (.str z) (.int j) H Q := ⟨z, j, c, rfl, rfl, h, e, q⟩
theorem w_inL {neg : Bool} {xs : List V} (h : SqL K H a xs) (f : flatV x = true) (g : xs.all flatV = true) (q : Q (.bl (if neg then !inV x xs else inV x xs)) H) : rIn K neg x (.ref a) H Q := ⟨a, xs, rfl, .inl h, f, g, q⟩
theorem w_inT {neg : Bool} {xs : List V} (h : SqT K H a xs) (f : flatV x = true) (g : xs.all flatV = true) (q : Q (.bl (if neg then !inV x xs else inV x xs)) H) : rIn K neg x (.ref a) H Q := ⟨a, xs, rfl, .inr h, f, g, q⟩
theorem w_cat {xs zs : List V} (h : H a = some (.lst xs)) (g : H b = some (.lst zs)) (c : xs.length + zs.length ≤ sizeLine) (q : Alc (.lst (xs ++ zs)) H Q) : zCat (.ref a) (.ref b) H Q := ⟨a, b, xs, zs, rfl, rfl, h, g, c, q⟩
theorem w_setL {xs : List V} {k : Int} {j : Nat} {Q : Hp → Prop} (h : H a = some (.lst xs)) (e : ixN xs.length k = some j) (q : Chg a (.lst (xs.set j v)) H Q) : zSetL (.ref a) (.int k) v H Q := ⟨a, xs, k, j, rfl, rfl, h, e, q⟩
theorem w_append {xs : List V} (h : H a = some (.lst xs)) (c : xs.length < sizeLine) (q : Chg a (.lst (xs ++ [y])) H (Q .non)) : zAppend (.ref a) [y] H Q := ⟨a, xs, y, rfl, rfl, h, c, q⟩
theorem w_m1 {r : V → List V → Hp → VK → Prop} (h : ta σ H fun x H1 => (∃ a, x = .str a) ∧ tb σ H1 fun y H2 => r x [y] H2 Q) : tM1 r ta tb σ H Q := h
theorem w_str {s : Str} {R : Prop} (h : R) : (∃ a, V.str s = .str a) ∧ R := ⟨⟨s, rfl⟩, h⟩
theorem w_join {s : Str} {ys : List Str} (h : SqL K H a (ys.map V.str)) (c : (ys.map (·.length)).sum + ys.length * s.length ≤ 16777216) (q : Q (.str (Txt.join s ys)) H) : rJoin K (.str s) [.ref a] H Q := ⟨s, a, ys, rfl, rfl, .inl h, c, q⟩
theorem inV_str {z : Str} {ns : List Str} : inV (.str z) (ns.map V.str) = decide (z ∈ ns) := by
  unfold inV
  induction ns with
  | nil => rfl
  | cons a r ih =>
    rw [List.map_cons, List.any_cons, ih]
    show (a == z || decide (z ∈ r)) = _
    by_cases h : a = z
    · subst h; simp
    · have h2 : ¬ z = a := fun e => h e.symm
      simp [h, h2]
theorem flat_str : ∀ ns : List Str, (ns.map V.str).all flatV = true
  | [] => rfl
  | _ :: r => by rw [List.map_cons, List.all_cons, flat_str r]; rfl
theorem w_inS {z : Str} {ns : List Str} (h : SqL K H a (ns.map V.str) ∨ SqT K H a (ns.map V.str)) (q : Q (.bl (decide (z ∈ ns))) H) : rIn K false (.str z) (.ref a) H Q :=
  ⟨a, _, rfl, h, rfl, flat_str ns, by rw [if_neg Bool.false_ne_true, inV_str]; exact q⟩
theorem w_ninS {z : Str} {ns : List Str} (h : SqL K H a (ns.map V.str) ∨ SqT K H a (ns.map V.str)) (q : Q (.bl (!decide (z ∈ ns))) H) : rIn K true (.str z) (.ref a) H Q :=
  ⟨a, _, rfl, h, rfl, flat_str ns, by rw [if_pos rfl, inV_str]; exact q⟩
theorem w_bm {T : String} {r : V → List V → Hp → VK → Prop} (h : ta σ H fun x H1 => tyV K T x H1 ∧ tl σ H1 fun xs H2 => r x xs H2 Q) : tBM K T r ta tl σ H Q := h
theorem w_bm0 {T : String} {r : V → List V → Hp → VK → Prop} (h : ta σ H fun x H1 => tyV K T x H1 ∧ r x [] H1 Q) : tBM0 K T r ta σ H Q := h
theorem w_tyL {xs : List V} {R : Prop} (h : SqL K H a xs) (q : R) : tyV K "list" (.ref a) H ∧ R := ⟨.inl ⟨rfl, xs, h⟩, q⟩
/-! tests -/
theorem w_test (h : te σ H fun x H1 => ∃ k, x = .bl k ∧ QB k H1) : tTest te σ H QB := h
theorem w_tB (h : te σ H fun x H1 => ∃ k, x = .bl k ∧ QB k H1) : tB te σ H QB := h
theorem w_bl {k : Bool} {P : Bool → Prop} (q : P k) : ∃ c, V.bl k = .bl c ∧ P c := ⟨k, rfl, q⟩
theorem w_and (h : tt σ H fun c H1 => if c = true then tu σ H1 QB else QB false H1) : tAnd tt tu σ H QB := h
theorem w_or (h : tt σ H fun c H1 => if c = true then QB true H1 else tu σ H1 QB) : tOr tt tu σ H QB := h
theorem w_not (h : tt σ H fun c H1 => QB (!c) H1) : tNot tt σ H QB := h
theorem w_andV (h : ta σ H fun x H1 => ∃ c, x = .bl c ∧ if c = true then tb σ H1 Q else Q (.bl false) H1) : tAndV ta tb σ H Q := h
theorem w_orV (h : ta σ H fun x H1 => ∃ c, x = .bl c ∧ if c = true then Q (.bl true) H1 else tb σ H1 Q) : tOrV ta tb σ H Q := h
theorem w_notV (h : ta σ H fun x H1 => ∃ c, x = .bl c ∧ Q (.bl (!c)) H1) : tNotV ta σ H Q := h
theorem w_if (h : tt σ H fun c H1 => if c = true then ta σ H1 Q else tb σ H1 Q) : tIf tt ta tb σ H Q := h
theorem w_yes (q : QB true H) : tYes σ H QB := q
/-! arguments, displays, calls -/
theorem w_nil (q : QL [] H) : tNil σ H QL := q
theorem w_cons (h : te σ H fun x H1 => tl σ H1 fun xs H2 => QL (x :: xs) H2) : tCons te tl σ H QL := h
theorem w_tup (h : tl σ H fun xs H1 => xs.length ≤ sizeLine ∧ Alc (.tup xs) H1 Q) : zTup tl σ H Q := h
theorem w_lst (h : tl σ H fun xs H1 => xs.length ≤ sizeLine ∧ Alc (.lst xs) H1 Q) : zLst tl σ H Q := h
theorem w_dnewK (h : Alc (.dK []) H Q) : zDNewK σ H Q := h
theorem w_dnewT (h : Alc (.dT []) H Q) : zDNewT σ H Q := h
theorem w_cb {r : RC} (h : tl σ H fun vs H1 => r vs H1 Q) : tCB r tl σ H Q := h
theorem w_call {sp : Sp} {dvs : List V} {E : XK} (h : tl σ H fun vs H1 => sp (vs ++ dvs) H1 Q E) : tCall sp dvs E tl σ H Q := h
theorem w_int {j : Int} (q : Q (.int j) H) : cInt [.int j] H Q := .inl ⟨j, rfl, q⟩
theorem w_lenL {xs : List V} (h : SqL K H a xs) (q : Q (.int (xs.length : Int)) H) : cLen K [.ref a] H Q := ⟨_, _, rfl, .inl ⟨xs, h, rfl⟩, q⟩
theorem w_lenT {xs : List V} (h : SqT K H a xs) (q : Q (.int (xs.length : Int)) H) : cLen K [.ref a] H Q := ⟨_, _, rfl, .inr ⟨xs, h, rfl⟩, q⟩
theorem w_lenD {kvs : List (Key × V)} (h : H a = some (.dK kvs)) (q : Q (.int (kvs.length : Int)) H) : cLenD [.ref a] H Q := ⟨_, _, rfl, h, q⟩
theorem w_tupL {xs : List V} (h : SqL K H a xs) (q : Alc (.tup xs) H Q) : cTup K [.ref a] H Q := ⟨a, xs, rfl, .inl ⟨h, q⟩⟩
theorem w_dictD {kvs : List (Key × V)} (h : H a = some (.dK kvs)) (q : Alc (.dK kvs) H Q) : cDictD [.ref a] H Q := ⟨a, kvs, rfl, .inl h, q⟩
theorem w_sum {ns : List Int} (h : SqL K H a (ns.map V.int)) (q : Q (.int ns.sum) H) : rSum K [.ref a] H Q := ⟨a, ns, rfl, h, q⟩
theorem w_isi {c : V} {t w : Value} {k : Bool} (cl : ClsV c w) (ty : TyX K H x t) (e : PySem.W.kitOne K t w = some k) (q : Q (.bl k) H) : rIsi K [x, c] H Q := ⟨x, c, t, w, k, rfl, cl, ty, e, q⟩
theorem w_dget (h : ta σ H fun x H1 => tb σ H1 fun y H2 => ∃ a v, x = .ref a ∧ DGet H2 a y (some v) ∧ Q v H2) : tDGet ta tb σ H Q := h
theorem w_dgetS {kvs : List (Key × V)} {z : Str} {P : V → Prop} (h : H a = some (.dK kvs)) (e : valV kvs (Sum.inr z : Key) = some v) (q : P v) : ∃ b u, V.ref a = .ref b ∧ DGet H b (.str z) (some u) ∧ P u := ⟨a, v, rfl, by rw [← e]; exact DGet.k (k := Sum.inr z) h, q⟩
theorem w_din (h : ta σ H fun y H1 => tb σ H1 fun x H2 => ∃ a o, x = .ref a ∧ DGet H2 a y o ∧ Q (.bl o.isSome) H2) : tDIn ta tb σ H Q := h
theorem w_dnotin (h : ta σ H fun y H1 => tb σ H1 fun x H2 => ∃ a o, x = .ref a ∧ DGet H2 a y o ∧ Q (.bl (!o.isSome)) H2) : tDNotIn ta tb σ H Q := h
/-! statements -/
theorem w_seq (h : t ⟨u ⟨nx, rt, bk, ct⟩, rt, bk, ct⟩ σ H) : tSeq t u ⟨nx, rt, bk, ct⟩ σ H := h
theorem w_next (q : nx σ H) : tNext ⟨nx, rt, bk, ct⟩ σ H := q
theorem w_break (q : bk σ H) : tBreak ⟨nx, rt, bk, ct⟩ σ H := q
theorem w_cont (q : ct σ H) : tCont ⟨nx, rt, bk, ct⟩ σ H := q
theorem w_asg {g : TG} (h : te σ H fun x H1 => g x σ H1 nx) : tAsg te g ⟨nx, rt, bk, ct⟩ σ H := h
theorem w_gname {N : St → Hp → Prop} (q : N (σ.set i (some v)) H) : gName i v σ H N := q
theorem w_gsub {N : St → Hp → Prop} {s : TSet} (h : ta σ H fun o H1 => tb σ H1 fun i H2 => s o i v H2 fun H3 => N σ H3) : gSub ta tb s v σ H N := h
theorem w_drop (h : te σ H fun _ H1 => nx σ H1) : tDrop te ⟨nx, rt, bk, ct⟩ σ H := h
theorem w_ret (h : te σ H rt) : tRet te ⟨nx, rt, bk, ct⟩ σ H := h
theorem w_retN (h : rt .non H) : tRetN ⟨nx, rt, bk, ct⟩ σ H := h
theorem w_ifS (h : tt σ H fun b H1 => if b = true then t ⟨nx, rt, bk, ct⟩ σ H1 else u ⟨nx, rt, bk, ct⟩ σ H1) : tIfS tt t u ⟨nx, rt, bk, ct⟩ σ H := h
theorem w_cut (P : St → Hp → Prop) (h : ∀ σ' H', P σ' H' → nx σ' H') (g : ∀ nx', (∀ σ' H', P σ' H' → nx' σ' H') → tIfS tt t u ⟨nx', rt, bk, ct⟩ σ H) : tIfS tt t u ⟨nx, rt, bk, ct⟩ σ H := g nx h
theorem w_cutA {g : TG} (P : St → Hp → Prop) (h : ∀ σ' H', P σ' H' → nx σ' H') (k : ∀ nx', (∀ σ' H', P σ' H' → nx' σ' H') → tAsg te g ⟨nx', rt, bk, ct⟩ σ H) : tAsg te g ⟨nx, rt, bk, ct⟩ σ H := k nx h
theorem w_cutE (P : V → Hp → Prop) (h : ∀ v H', P v H' → Q v H') (k : ∀ Q' : VK, (∀ v H', P v H' → Q' v H') → tIf tt ta tb σ H Q') : tIf tt ta tb σ H Q := k Q h
theorem w_d {c A B : Prop} [Decidable c] (h1 : c → A) (h2 : ¬ c → B) : if decide c = true then A else B := ite2 (fun h => h1 (of_decide_eq_true h)) fun h => h2 fun z => h (decide_eq_true z)
theorem w_nd {c A B : Prop} [Decidable c] (h1 : ¬ c → A) (h2 : c → B) : if (!decide c) = true then A else B := ite2 (fun h => h1 fun z => by rw [decide_eq_true z] at h; cases h) fun h => h2 (by
  by_cases z : c
  · exact z
  · rw [decide_eq_false z] at h; exact absurd rfl h)
theorem w_b {c : Bool} {A B : Prop} (h1 : c = true → A) (h2 : c = false → B) : if c = true then A else B := by cases c with | true => exact iteT (h1 rfl) | false => exact iteF (h2 rfl)
theorem w_nb {c : Bool} {A B : Prop} (h1 : c = false → A) (h2 : c = true → B) : if (!c) = true then A else B := by cases c with | true => exact iteF (h2 rfl) | false => exact iteT (h1 rfl)
theorem w_for {wi : TI} {g : TG} (h : wi σ H fun J H1 => ∃ W : Nat → Nat → St → Hp → Prop, (∃ m, W 0 m σ H1) ∧ ∀ i m σ H, W i m σ H →
  (J.stop i H ∧ nx σ H) ∨ (J.go i H ∧ ∃ N : St → Hp → Prop, (∀ σ' H', N σ' H' → ∃ m', m' < m ∧ W (i + 1) m' σ' H') ∧ ∀ x H', J.yld i H x H' → g x σ H' fun σ2 H2 => t ⟨N, rt, nx, N⟩ σ2 H2)) : tFor wi g t ⟨nx, rt, bk, ct⟩ σ H := h
theorem w_iList {R : It → Hp → Prop} (h : te σ H fun x H1 => ∃ a, x = .ref a ∧ (∃ xs, SqL K H1 a xs) ∧ R (Itl K a) H1) : iList K te σ H R := h
theorem w_iTup {R : It → Hp → Prop} (h : te σ H fun x H1 => ∃ a, x = .ref a ∧ (∃ xs, SqT K H1 a xs) ∧ R (Itt K a) H1) : iTup K te σ H R := h
theorem w_iRng1 {R : It → Hp → Prop} (h : tl σ H fun vs H1 => ∃ j : Int, vs = [.int j] ∧ -(2 ^ 62) ≤ j ∧ j < 2 ^ 62 ∧ R (Itr 0 j.toNat) H1) : iRng1 tl σ H R := h
theorem w_iRng2 {R : It → Hp → Prop} (h : tl σ H fun vs H1 => ∃ i j : Int, vs = [.int i, .int j] ∧ (-(2 ^ 62) ≤ i ∧ i < 2 ^ 62 ∧ -(2 ^ 62) ≤ j ∧ j < 2 ^ 62) ∧ R (Itr i (j - i).toNat) H1) : iRng2 tl σ H R := h
theorem w_iStr {R : It → Hp → Prop} (h : te σ H fun v H1 => ∃ x, v = .str x ∧ R (Its x) H1) : iStr te σ H R := h
theorem iteNF {A B : Prop} (h : A) : if (!false) = true then A else B := iteT h
theorem iteNT {A B : Prop} (h : B) : if (!true) = true then A else B := iteF h
theorem w_f {c : Bool} {A B : Prop} (h : c = false) (q : B) : if c = true then A else B := by rw [h]; exact iteF q
theorem w_t {c : Bool} {A B : Prop} (h : c = true) (q : A) : if c = true then A else B := by rw [h]; exact iteT q
theorem w_gtup {n : Nat} {g : TGs} {xs : List V} {N : St → Hp → Prop} (h : SqT K H a xs) (l : xs.length = n) (q : g xs σ H N) : gTup K n g (.ref a) σ H N := ⟨a, xs, rfl, h, l, q⟩
theorem w_gcons {g : TG} {gs : TGs} {r : List V} {N : St → Hp → Prop} (q : g v σ H fun σ' H' => gs r σ' H' N) : gCons g gs (v :: r) σ H N := ⟨v, r, rfl, q⟩
theorem w_gnil {N : St → Hp → Prop} (q : N σ H) : gNil [] σ H N := ⟨rfl, q⟩
theorem w_sdput (h : te σ H fun v H1 => ta σ H1 fun x H2 => tb σ H2 fun y H3 => ∃ a H4, x = .ref a ∧ DPut H3 a y v H4 ∧ nx σ H4) : sDPut ta tb te ⟨nx, rt, bk, ct⟩ σ H := h
theorem w_dputS {kvs : List (Key × V)} {z : Str} {N : Hp → Prop} (h : H a = some (.dK kvs)) (l : kvs.length < sizeLine) (k : ∀ H', Ext [a] H H' → H' a = some (.dK (putK kvs (Sum.inr z) v)) → N H') : ∃ b H4, V.ref a = .ref b ∧ DPut H b (.str z) v H4 ∧ N H4 :=
  ⟨a, _, rfl, DPut.k (k := Sum.inr z) h l, k _ (Ext.mut h (fun z => z) (List.mem_singleton.mpr rfl)) upd_same⟩
theorem w_sortD {kvs : List (Key × V)} {ks : List Str} (h : H a = some (.dK kvs)) (e : kvs.map (·.1) = ks.map Sum.inr) (l : ks.length < 64) (q : ∀ ys, ys.Perm ks → sortedS ys = true → Alc (.lst (ys.map V.str)) H Q) : cSortD [.ref a] H Q := ⟨a, kvs, ks, rfl, .inl h, e, l, q⟩
/-! a dict is locked while it is walked -/
structure Lk (d : Addr) (u : HO) (od : Obj) (H H1 : Hp) : Prop where
  was : H d = some u
  ni : ¬ Imm u
  eq : H1 = upd H d (.frz od u)
theorem Lk.at {d : Addr} {u : HO} {od : Obj} {H H1 : Hp} (L : Lk d u od H H1) : H1 d = some (.frz od u) := by rw [L.eq]; exact upd_same
theorem Lk.keep {d : Addr} {u : HO} {od : Obj} {H H1 : Hp} (L : Lk d u od H H1) {b : Addr} {o : HO} (h : H b = some o) (n : b ≠ d) : H1 b = some o := by rw [L.eq, upd_ne n]; exact h
theorem Lk.tup {d : Addr} {u : HO} {od : Obj} {H H1 : Hp} (L : Lk d u od H H1) {b : Addr} {xs : List V} (h : H b = some (.tup xs)) : H1 b = some (.tup xs) :=
  L.keep h fun z => L.ni (by subst z; have := L.was; rw [h] at this; cases this; trivial)
theorem Lk.frz {d : Addr} {u : HO} {od : Obj} {H H1 : Hp} (L : Lk d u od H H1) {b : Addr} {o : Obj} {x : HO} (h : H b = some (.frz o x)) : H1 b = some (.frz o x) :=
  L.keep h fun z => L.ni (by subst z; have := L.was; rw [h] at this; cases this; trivial)
theorem Lk.free {d : Addr} {u : HO} {od : Obj} {H H1 : Hp} (L : Lk d u od H H1) {b : Addr} (h : H1 b = none) : H b = none := by
  rw [L.eq] at h
  by_cases z : b = d
  · subst z; rw [upd_same] at h; cases h
  · rw [upd_ne z] at h; exact h
theorem Lk.scr {d : Addr} {u : HO} {od : Obj} {H H1 : Hp} (L : Lk d u od H H1) {b : Addr} {xs : List V} (h : Scr K H b xs) : Scr K H1 b xs := by
  rcases h with ⟨o, h⟩ | h
  · exact .inl ⟨o, L.frz h⟩
  · exact .inr h
theorem w_lock {d : Addr} {u : HO} (h : H d = some u) (m : Mut (some u)) (ni : ¬ Imm u) (k : ∀ od H1, Lk d u od H H1 → t ⟨fun σ' H' => H' d = some (.frz od u) ∧ nx σ' (upd H' d u), fun v H' => H' d = some (.frz od u) ∧ rt v (upd H' d u), fun σ' H' => H' d = some (.frz od u) ∧ bk σ' (upd H' d u), fun σ' H' => H' d = some (.frz od u) ∧ ct σ' (upd H' d u)⟩ σ H1) :
    tLock t ⟨nx, rt, bk, ct⟩ σ H := ⟨d, u, h, m, fun od => k od _ ⟨h, ni, rfl⟩⟩
theorem w_lockE {d : Addr} {u : HO} (h : H d = some u) (m : Mut (some u)) (ni : ¬ Imm u) (k : ∀ od H1, Lk d u od H H1 → te σ H1 fun v H' => H' d = some (.frz od u) ∧ Q v (upd H' d u)) : tLockE te σ H Q := ⟨d, u, h, m, fun od => k od _ ⟨h, ni, rfl⟩⟩
theorem w_unlock {d : Addr} {u : HO} {od : Obj} {H0 H1 : Hp} {M : List Addr} {N : Hp → Prop} (L : Lk d u od H0 H1) (e : Ext M H1 H) (k : ∀ H', Ext M H0 H' → (∀ b o, H b = some o → b ≠ d → H' b = some o) → N H') : H d = some (.frz od u) ∧ N (upd H d u) := by
  refine ⟨e.imm _ _ L.at trivial, k _ ?_ fun b o h n => by rw [upd_ne n]; exact h⟩
  have e' := e
  rw [L.eq] at e'
  exact Ext.lock L.was L.ni e'
theorem w_iKeys {R : It → Hp → Prop} (h : te σ H fun x H1 => ∃ d o, x = .ref d ∧ ((∃ kvs, H1 d = some (.frz o (.dK kvs)) ∧ R (Itk d o kvs) H1) ∨ ∃ kvs, H1 d = some (.frz o (.dT kvs)) ∧ R (Itkt d o kvs) H1)) : iKeys te σ H R := h
theorem w_keysK {kvs : List (Key × V)} {o : Obj} {R : It → Hp → Prop} (h : H a = some (.frz o (.dK kvs))) (q : R (Itk a o kvs) H) : ∃ d o, V.ref a = .ref d ∧ ((∃ kvs, H d = some (.frz o (.dK kvs)) ∧ R (Itk d o kvs) H) ∨ ∃ kvs, H d = some (.frz o (.dT kvs)) ∧ R (Itkt d o kvs) H) := ⟨a, o, rfl, .inl ⟨kvs, h, q⟩⟩
theorem w_keysV {kvs : List (Key × V)} {o : Obj} {R : It → Hp → Prop} (e : σ[i]? = some (some (.ref a))) (h : H a = some (.frz o (.dK kvs))) (q : R (Itk a o kvs) H) : iKeys (tVar i) σ H R := ⟨.ref a, e, a, o, rfl, .inl ⟨kvs, h, q⟩⟩
theorem w_dgetR {kvs : List (Key × V)} {z : Str} {P : V → Prop} (h : Rd H a (.dK kvs)) (e : valV kvs (Sum.inr z : Key) = some v) (q : P v) : ∃ b u, V.ref a = .ref b ∧ DGet H b (.str z) (some u) ∧ P u := ⟨a, v, rfl, .inl ⟨kvs, Sum.inr z, h, rfl, e.symm⟩, q⟩
theorem w_dinS {kvs : List (Key × V)} {z : Str} {P : Option V → Prop} (h : Rd H a (.dK kvs)) (q : P (valV kvs (Sum.inr z : Key))) : ∃ b o, V.ref a = .ref b ∧ DGet H b (.str z) o ∧ P o := ⟨a, _, rfl, .inl ⟨kvs, Sum.inr z, h, rfl, rfl⟩, q⟩
/-! loops by an invariant; what a turn is to reach is a letter -/
theorem z_for_list {xs : List V} {g : TG} (Pv : Nat → St → Hp → Prop) (h0 : Pv 0 σ H) (hl : ∀ i σ H, i ≤ xs.length → Pv i σ H → SqL K H a xs)
    (hs : ∀ (N : St → Hp → Prop) i x σ H, xs[i]? = some x → Pv i σ H → (∀ σ' H', Pv (i + 1) σ' H' → N σ' H') → g x σ H fun σ2 H2 => t ⟨N, rt, nx, N⟩ σ2 H2) (hd : ∀ σ H, Pv xs.length σ H → nx σ H) :
    ∃ W : Nat → Nat → St → Hp → Prop, (∃ m, W 0 m σ H) ∧ ∀ i m σ H, W i m σ H →
      ((Itl K a).stop i H ∧ nx σ H) ∨ ((Itl K a).go i H ∧ ∃ N : St → Hp → Prop, (∀ σ' H', N σ' H' → ∃ m', m' < m ∧ W (i + 1) m' σ' H') ∧ ∀ x H', (Itl K a).yld i H x H' → g x σ H' fun σ2 H2 => t ⟨N, rt, nx, N⟩ σ2 H2) :=
  for_list (D := ⟨nx, rt, nx, nx⟩) Pv h0 hl (fun i x σ H hx p => hs (Pv (i + 1)) i x σ H hx p fun _ _ q => q) hd
theorem z_for_tup {xs : List V} {g : TG} (Pv : Nat → St → Hp → Prop) (h0 : Pv 0 σ H) (hl : ∀ i σ H, i ≤ xs.length → Pv i σ H → SqT K H a xs)
    (hs : ∀ (N : St → Hp → Prop) i x σ H, xs[i]? = some x → Pv i σ H → (∀ σ' H', Pv (i + 1) σ' H' → N σ' H') → g x σ H fun σ2 H2 => t ⟨N, rt, nx, N⟩ σ2 H2) (hd : ∀ σ H, Pv xs.length σ H → nx σ H) :
    ∃ W : Nat → Nat → St → Hp → Prop, (∃ m, W 0 m σ H) ∧ ∀ i m σ H, W i m σ H →
      ((Itt K a).stop i H ∧ nx σ H) ∨ ((Itt K a).go i H ∧ ∃ N : St → Hp → Prop, (∀ σ' H', N σ' H' → ∃ m', m' < m ∧ W (i + 1) m' σ' H') ∧ ∀ x H', (Itt K a).yld i H x H' → g x σ H' fun σ2 H2 => t ⟨N, rt, nx, N⟩ σ2 H2) :=
  for_tup (D := ⟨nx, rt, nx, nx⟩) Pv h0 hl (fun i x σ H hx p => hs (Pv (i + 1)) i x σ H hx p fun _ _ q => q) hd
theorem z_for_range {lo : Int} {n : Nat} {g : TG} (Pv : Nat → St → Hp → Prop) (h0 : Pv 0 σ H)
    (hs : ∀ (N : St → Hp → Prop) i σ H, i < n → Pv i σ H → (∀ σ' H', Pv (i + 1) σ' H' → N σ' H') → g (.int (lo + i)) σ H fun σ2 H2 => t ⟨N, rt, nx, N⟩ σ2 H2) (hd : ∀ σ H, Pv n σ H → nx σ H) :
    ∃ W : Nat → Nat → St → Hp → Prop, (∃ m, W 0 m σ H) ∧ ∀ i m σ H, W i m σ H →
      ((Itr lo n).stop i H ∧ nx σ H) ∨ ((Itr lo n).go i H ∧ ∃ N : St → Hp → Prop, (∀ σ' H', N σ' H' → ∃ m', m' < m ∧ W (i + 1) m' σ' H') ∧ ∀ x H', (Itr lo n).yld i H x H' → g x σ H' fun σ2 H2 => t ⟨N, rt, nx, N⟩ σ2 H2) :=
  for_range (D := ⟨nx, rt, nx, nx⟩) Pv h0 (fun i σ H hx p => hs (Pv (i + 1)) i σ H hx p fun _ _ q => q) hd
theorem z_for_str {z : Str} {g : TG} (Pv : Nat → St → Hp → Prop) (h0 : Pv 0 σ H)
    (hs : ∀ (N : St → Hp → Prop) i c σ H, z.cps[i]? = some c → Pv i σ H → (∀ σ' H', Pv (i + 1) σ' H' → N σ' H') → g (.str ⟨#[c]⟩) σ H fun σ2 H2 => t ⟨N, rt, nx, N⟩ σ2 H2) (hd : ∀ σ H, Pv z.cps.size σ H → nx σ H) :
    ∃ W : Nat → Nat → St → Hp → Prop, (∃ m, W 0 m σ H) ∧ ∀ i m σ H, W i m σ H →
      ((Its z).stop i H ∧ nx σ H) ∨ ((Its z).go i H ∧ ∃ N : St → Hp → Prop, (∀ σ' H', N σ' H' → ∃ m', m' < m ∧ W (i + 1) m' σ' H') ∧ ∀ x H', (Its z).yld i H x H' → g x σ H' fun σ2 H2 => t ⟨N, rt, nx, N⟩ σ2 H2) := by
  refine ⟨fun i m σ H => m = z.cps.size - i ∧ i ≤ z.cps.size ∧ Pv i σ H, ⟨_, rfl, Nat.zero_le _, h0⟩, ?_⟩
  rintro i m σ H ⟨rfl, hi, p⟩
  by_cases hlt : i < z.cps.size
  · refine .inr ⟨hlt, Pv (i + 1), fun σ' H' p' => ⟨z.cps.size - (i + 1), by omega, rfl, hlt, p'⟩, fun x H' y => ?_⟩
    obtain ⟨e, c, hc, rfl⟩ := y
    subst e
    exact hs (Pv (i + 1)) i c σ _ hc p fun _ _ q => q
  · have e : i = z.cps.size := by omega
    subst e
    exact .inl ⟨Nat.le_refl _, hd σ H p⟩
/-- over the keys of a locked dict -/
theorem z_for_keys {kvs : List (Key × V)} {d : Addr} {o : Obj} {g : TG} (Pv : Nat → St → Hp → Prop) (h0 : Pv 0 σ H) (hl : ∀ i σ H, i ≤ kvs.length → Pv i σ H → H d = some (.frz o (.dK kvs)))
    (hs : ∀ (N : St → Hp → Prop) i k v σ H, kvs[i]? = some (k, v) → Pv i σ H → (∀ σ' H', Pv (i + 1) σ' H' → N σ' H') → g (kV k) σ H fun σ2 H2 => t ⟨N, rt, nx, N⟩ σ2 H2) (hd : ∀ σ H, Pv kvs.length σ H → nx σ H) :
    ∃ W : Nat → Nat → St → Hp → Prop, (∃ m, W 0 m σ H) ∧ ∀ i m σ H, W i m σ H →
      ((Itk d o kvs).stop i H ∧ nx σ H) ∨ ((Itk d o kvs).go i H ∧ ∃ N : St → Hp → Prop, (∀ σ' H', N σ' H' → ∃ m', m' < m ∧ W (i + 1) m' σ' H') ∧ ∀ x H', (Itk d o kvs).yld i H x H' → g x σ H' fun σ2 H2 => t ⟨N, rt, nx, N⟩ σ2 H2) := by
  refine ⟨fun i m σ H => m = kvs.length - i ∧ i ≤ kvs.length ∧ Pv i σ H, ⟨_, rfl, Nat.zero_le _, h0⟩, ?_⟩
  rintro i m σ H ⟨rfl, hi, p⟩
  by_cases hlt : i < kvs.length
  · refine .inr ⟨⟨hl i σ H hi p, hlt⟩, Pv (i + 1), fun σ' H' p' => ⟨kvs.length - (i + 1), by omega, rfl, hlt, p'⟩, fun x H' y => ?_⟩
    obtain ⟨e, k, v, hk, rfl⟩ := y
    subst e
    exact hs (Pv (i + 1)) i k v σ _ hk p fun _ _ q => q
  · have e : i = kvs.length := by omega
    subst e
    exact .inl ⟨⟨hl _ σ H hi p, Nat.le_refl _⟩, hd σ H p⟩
/-! comprehensions -/
theorem w_lc {wi : TI} {g : TG} {vs : List Nat} (h : wi σ H fun J H1 => ∀ D, H1 D = none → ∃ W : Nat → Nat → Hp → Prop, (∃ m, W 0 m (upd H1 D (.lst []))) ∧ ∀ i m H, W i m H →
  (J.stop i H ∧ Q (.ref D) H) ∨ (J.go i H ∧ ∃ Nx : Hp → Prop, (∀ H', Nx H' → ∃ m', m' < m ∧ W (i + 1) m' H') ∧ ∀ x H', J.yld i H x H' → g x (wipe σ vs) H' fun σ2 H2 => wipe σ2 vs = wipe σ vs ∧ tt σ2 H2 fun b H3 =>
    if b = true then te σ2 H3 fun y H4 => ∃ acc, H4 D = some (.lst acc) ∧ acc.length < sizeLine ∧ Nx (upd H4 D (.lst (acc ++ [y]))) else Nx H3)) : tLc wi g tt te vs σ H Q := h
theorem w_app {Nx : Hp → Prop} {acc : List V} {D : Addr} (hD : H D = some (.lst acc)) (c : acc.length < sizeLine) (k : ∀ H', Ext [D] H H' → H' D = some (.lst (acc ++ [y])) → Nx H') :
    ∃ acc, H D = some (.lst acc) ∧ acc.length < sizeLine ∧ Nx (upd H D (.lst (acc ++ [y]))) := ⟨acc, hD, c, k _ (Ext.mut hD (fun z => z) (List.mem_singleton.mpr rfl)) upd_same⟩
theorem z_lc_list {xs : List V} {g : TG} {vs : List Nat} {D : Addr} {Qd : Hp → Prop} (Pv : Nat → List V → Hp → Prop) (nD : H D = none) (h0 : ∀ H', Ext [] H H' → Pv 0 [] H') (hl : ∀ i acc H, i ≤ xs.length → Pv i acc H → SqL K H a xs)
    (hs : ∀ (Nx : Hp → Prop) i x acc H, xs[i]? = some x → Pv i acc H → H D = some (.lst acc) → (∀ acc' H', Pv (i + 1) acc' H' → H' D = some (.lst acc') → Nx H') → g x (wipe σ vs) H fun σ2 H2 => wipe σ2 vs = wipe σ vs ∧ tt σ2 H2 fun b H3 =>
      if b = true then te σ2 H3 fun y H4 => ∃ acc, H4 D = some (.lst acc) ∧ acc.length < sizeLine ∧ Nx (upd H4 D (.lst (acc ++ [y]))) else Nx H3) (hd : ∀ acc H, Pv xs.length acc H → H D = some (.lst acc) → Qd H) :
    ∃ W : Nat → Nat → Hp → Prop, (∃ m, W 0 m (upd H D (.lst []))) ∧ ∀ i m H, W i m H →
      ((Itl K a).stop i H ∧ Qd H) ∨ ((Itl K a).go i H ∧ ∃ Nx : Hp → Prop, (∀ H', Nx H' → ∃ m', m' < m ∧ W (i + 1) m' H') ∧ ∀ x H', (Itl K a).yld i H x H' → g x (wipe σ vs) H' fun σ2 H2 => wipe σ2 vs = wipe σ vs ∧ tt σ2 H2 fun b H3 =>
        if b = true then te σ2 H3 fun y H4 => ∃ acc, H4 D = some (.lst acc) ∧ acc.length < sizeLine ∧ Nx (upd H4 D (.lst (acc ++ [y]))) else Nx H3) :=
  lc_list (fun i H => ∃ acc, Pv i acc H ∧ H D = some (.lst acc)) ⟨[], h0 _ (Ext.new nD), upd_same⟩ (fun i H hi ⟨acc, p, _⟩ => hl i acc H hi p)
    (fun i x H hx ⟨acc, p, hD⟩ => hs _ i x acc H hx p hD fun acc' H' p' h' => ⟨acc', p', h'⟩) fun H ⟨acc, p, hD⟩ => hd acc H p hD
theorem z_lc_tup {xs : List V} {g : TG} {vs : List Nat} {D : Addr} {Qd : Hp → Prop} (Pv : Nat → List V → Hp → Prop) (nD : H D = none) (h0 : ∀ H', Ext [] H H' → Pv 0 [] H') (hl : ∀ i acc H, i ≤ xs.length → Pv i acc H → SqT K H a xs)
    (hs : ∀ (Nx : Hp → Prop) i x acc H, xs[i]? = some x → Pv i acc H → H D = some (.lst acc) → (∀ acc' H', Pv (i + 1) acc' H' → H' D = some (.lst acc') → Nx H') → g x (wipe σ vs) H fun σ2 H2 => wipe σ2 vs = wipe σ vs ∧ tt σ2 H2 fun b H3 =>
      if b = true then te σ2 H3 fun y H4 => ∃ acc, H4 D = some (.lst acc) ∧ acc.length < sizeLine ∧ Nx (upd H4 D (.lst (acc ++ [y]))) else Nx H3) (hd : ∀ acc H, Pv xs.length acc H → H D = some (.lst acc) → Qd H) :
    ∃ W : Nat → Nat → Hp → Prop, (∃ m, W 0 m (upd H D (.lst []))) ∧ ∀ i m H, W i m H →
      ((Itt K a).stop i H ∧ Qd H) ∨ ((Itt K a).go i H ∧ ∃ Nx : Hp → Prop, (∀ H', Nx H' → ∃ m', m' < m ∧ W (i + 1) m' H') ∧ ∀ x H', (Itt K a).yld i H x H' → g x (wipe σ vs) H' fun σ2 H2 => wipe σ2 vs = wipe σ vs ∧ tt σ2 H2 fun b H3 =>
        if b = true then te σ2 H3 fun y H4 => ∃ acc, H4 D = some (.lst acc) ∧ acc.length < sizeLine ∧ Nx (upd H4 D (.lst (acc ++ [y]))) else Nx H3) :=
  lc_tup (fun i H => ∃ acc, Pv i acc H ∧ H D = some (.lst acc)) ⟨[], h0 _ (Ext.new nD), upd_same⟩ (fun i H hi ⟨acc, p, _⟩ => hl i acc H hi p)
    (fun i x H hx ⟨acc, p, hD⟩ => hs _ i x acc H hx p hD fun acc' H' p' h' => ⟨acc', p', h'⟩) fun H ⟨acc, p, hD⟩ => hd acc H p hD
theorem z_lc_range {lo : Int} {n : Nat} {g : TG} {vs : List Nat} {D : Addr} {Qd : Hp → Prop} (Pv : Nat → List V → Hp → Prop) (nD : H D = none) (h0 : ∀ H', Ext [] H H' → Pv 0 [] H')
    (hs : ∀ (Nx : Hp → Prop) i acc H, i < n → Pv i acc H → H D = some (.lst acc) → (∀ acc' H', Pv (i + 1) acc' H' → H' D = some (.lst acc') → Nx H') → g (.int (lo + i)) (wipe σ vs) H fun σ2 H2 => wipe σ2 vs = wipe σ vs ∧ tt σ2 H2 fun b H3 =>
      if b = true then te σ2 H3 fun y H4 => ∃ acc, H4 D = some (.lst acc) ∧ acc.length < sizeLine ∧ Nx (upd H4 D (.lst (acc ++ [y]))) else Nx H3) (hd : ∀ acc H, Pv n acc H → H D = some (.lst acc) → Qd H) :
    ∃ W : Nat → Nat → Hp → Prop, (∃ m, W 0 m (upd H D (.lst []))) ∧ ∀ i m H, W i m H →
      ((Itr lo n).stop i H ∧ Qd H) ∨ ((Itr lo n).go i H ∧ ∃ Nx : Hp → Prop, (∀ H', Nx H' → ∃ m', m' < m ∧ W (i + 1) m' H') ∧ ∀ x H', (Itr lo n).yld i H x H' → g x (wipe σ vs) H' fun σ2 H2 => wipe σ2 vs = wipe σ vs ∧ tt σ2 H2 fun b H3 =>
        if b = true then te σ2 H3 fun y H4 => ∃ acc, H4 D = some (.lst acc) ∧ acc.length < sizeLine ∧ Nx (upd H4 D (.lst (acc ++ [y]))) else Nx H3) :=
  lc_range (fun i H => ∃ acc, Pv i acc H ∧ H D = some (.lst acc)) ⟨[], h0 _ (Ext.new nD), upd_same⟩
    (fun i H hx ⟨acc, p, hD⟩ => hs _ i acc H hx p hD fun acc' H' p' h' => ⟨acc', p', h'⟩) fun H ⟨acc, p, hD⟩ => hd acc H p hD
theorem z_lc_keys {kvs : List (Key × V)} {d : Addr} {o : Obj} {g : TG} {vs : List Nat} {D : Addr} {Qd : Hp → Prop} (Pv : Nat → List V → Hp → Prop) (nD : H D = none) (h0 : ∀ H', Ext [] H H' → Pv 0 [] H') (hl : ∀ i acc H, i ≤ kvs.length → Pv i acc H → H d = some (.frz o (.dK kvs)))
    (hs : ∀ (Nx : Hp → Prop) i k v acc H, kvs[i]? = some (k, v) → Pv i acc H → H D = some (.lst acc) → (∀ acc' H', Pv (i + 1) acc' H' → H' D = some (.lst acc') → Nx H') → g (kV k) (wipe σ vs) H fun σ2 H2 => wipe σ2 vs = wipe σ vs ∧ tt σ2 H2 fun b H3 =>
      if b = true then te σ2 H3 fun y H4 => ∃ acc, H4 D = some (.lst acc) ∧ acc.length < sizeLine ∧ Nx (upd H4 D (.lst (acc ++ [y]))) else Nx H3) (hd : ∀ acc H, Pv kvs.length acc H → H D = some (.lst acc) → Qd H) :
    ∃ W : Nat → Nat → Hp → Prop, (∃ m, W 0 m (upd H D (.lst []))) ∧ ∀ i m H, W i m H →
      ((Itk d o kvs).stop i H ∧ Qd H) ∨ ((Itk d o kvs).go i H ∧ ∃ Nx : Hp → Prop, (∀ H', Nx H' → ∃ m', m' < m ∧ W (i + 1) m' H') ∧ ∀ x H', (Itk d o kvs).yld i H x H' → g x (wipe σ vs) H' fun σ2 H2 => wipe σ2 vs = wipe σ vs ∧ tt σ2 H2 fun b H3 =>
        if b = true then te σ2 H3 fun y H4 => ∃ acc, H4 D = some (.lst acc) ∧ acc.length < sizeLine ∧ Nx (upd H4 D (.lst (acc ++ [y]))) else Nx H3) := by
  refine ⟨fun i m H => m = kvs.length - i ∧ i ≤ kvs.length ∧ ∃ acc, Pv i acc H ∧ H D = some (.lst acc), ⟨_, rfl, Nat.zero_le _, [], h0 _ (Ext.new nD), upd_same⟩, ?_⟩
  rintro i m H ⟨rfl, hi, acc, p, hD⟩
  by_cases hlt : i < kvs.length
  · refine .inr ⟨⟨hl i acc H hi p, hlt⟩, (fun H => ∃ acc, Pv (i + 1) acc H ∧ H D = some (.lst acc)), fun H' p' => ⟨kvs.length - (i + 1), by omega, rfl, hlt, p'⟩, fun x H' y => ?_⟩
    obtain ⟨e, k, v, hk, rfl⟩ := y
    subst e
    exact hs _ i k v acc _ hk p hD fun acc' H' p' h' => ⟨acc', p', h'⟩
  · have e : i = kvs.length := by omega
    subst e
    exact .inl ⟨⟨hl _ acc H hi p, Nat.le_refl _⟩, hd acc H p hD⟩
end
end Zk

set_option Elab.async false
set_option linter.all false
set_option maxRecDepth 100000
set_option maxHeartbeats 4000000
namespace Zk
open PySem PySem.Spec L2
open PyProof.Rows hiding St

/-! ### slots: a text and two ints; their order -/
abbrev Slot := Str × Int × Int
def sVs (s : Slot) : List V := [.str s.1, .int s.2.1, .int s.2.2]
def sKey (s : Slot) : List Key := [Sum.inr s.1, Sum.inl s.2.1, Sum.inl s.2.2]
theorem sKey_vs (s : Slot) : (sKey s).map kV = sVs s := rfl
theorem sKey_inj {s t : Slot} (h : sKey s = sKey t) : s = t := by
  unfold sKey at h
  injection h with h1 h2
  injection h2 with h2 h3
  injection h3 with h3 _
  obtain ⟨a, b, c⟩ := s
  obtain ⟨a', b', c'⟩ := t
  simp only [Sum.inr.injEq, Sum.inl.injEq] at h1 h2 h3
  subst h1 h2 h3
  rfl
theorem sVs_inj {s t : Slot} (h : sVs s = sVs t) : s = t := by
  obtain ⟨a, b, c⟩ := s
  obtain ⟨a', b', c'⟩ := t
  unfold sVs at h
  simp only [List.cons.injEq, V.str.injEq, V.int.injEq] at h
  obtain ⟨h1, h2, h3, _⟩ := h
  subst h1 h2 h3
  rfl
def sLt (p q : Slot) : Bool := if p.1 = q.1 then (if p.2.1 = q.2.1 then decide (p.2.2 < q.2.2) else decide (p.2.1 < q.2.1)) else decide (p.1.cps.toList < q.1.cps.toList)
theorem str_tri (a b : Str) : a.cps.toList < b.cps.toList ∨ a = b ∨ b.cps.toList < a.cps.toList := by
  by_cases h : a.cps.toList < b.cps.toList
  · exact .inl h
  · by_cases h2 : b.cps.toList < a.cps.toList
    · exact .inr (.inr h2)
    · refine .inr (.inl ?_)
      have := List.le_antisymm (List.not_lt.mp h2) (List.not_lt.mp h)
      cases a; cases b
      simp only [Str.mk.injEq]
      exact Array.toList_inj.mp this
def SLt (p q : Slot) : Prop := p.1.cps.toList < q.1.cps.toList ∨ (p.1 = q.1 ∧ (p.2.1 < q.2.1 ∨ (p.2.1 = q.2.1 ∧ p.2.2 < q.2.2)))
theorem sLt_iff {p q : Slot} : sLt p q = true ↔ SLt p q := by
  unfold sLt SLt
  by_cases e : p.1 = q.1
  · rw [if_pos e]
    have no : ¬ p.1.cps.toList < q.1.cps.toList := by rw [e]; exact List.lt_irrefl _
    by_cases e2 : p.2.1 = q.2.1
    · rw [if_pos e2, decide_eq_true_eq]
      constructor
      · intro h; exact .inr ⟨e, .inr ⟨e2, h⟩⟩
      · rintro (h | ⟨_, h | h⟩)
        · exact absurd h no
        · omega
        · exact h.2
    · rw [if_neg e2, decide_eq_true_eq]
      constructor
      · intro h; exact .inr ⟨e, .inl h⟩
      · rintro (h | ⟨_, h | h⟩)
        · exact absurd h no
        · exact h
        · exact absurd h.1 e2
  · rw [if_neg e, decide_eq_true_eq]
    constructor
    · intro h; exact .inl h
    · rintro (h | h)
      · exact h
      · exact absurd h.1 e
theorem SLt.tri (p q : Slot) : SLt p q ∨ p = q ∨ SLt q p := by
  obtain ⟨a, b, c⟩ := p
  obtain ⟨a', b', c'⟩ := q
  unfold SLt
  rcases str_tri a a' with h | h | h
  · exact .inl (.inl h)
  · subst h
    rcases Int.lt_trichotomy b b' with h | h | h
    · exact .inl (.inr ⟨rfl, .inl h⟩)
    · subst h
      rcases Int.lt_trichotomy c c' with h | h | h
      · exact .inl (.inr ⟨rfl, .inr ⟨rfl, h⟩⟩)
      · subst h; exact .inr (.inl rfl)
      · exact .inr (.inr (.inr ⟨rfl, .inr ⟨rfl, h⟩⟩))
    · exact .inr (.inr (.inr ⟨rfl, .inl h⟩))
  · exact .inr (.inr (.inl h))
theorem SLt.trans {p q r : Slot} (h1 : SLt p q) (h2 : SLt q r) : SLt p r := by
  unfold SLt at *
  rcases h1 with h1 | ⟨e1, h1⟩ <;> rcases h2 with h2 | ⟨e2, h2⟩
  · exact .inl (List.lt_trans h1 h2)
  · exact .inl (by rw [← e2]; exact h1)
  · exact .inl (by rw [e1]; exact h2)
  · exact .inr ⟨e1.trans e2, by omega⟩
theorem SLt.irr {p : Slot} (h : SLt p p) : False := by
  unfold SLt at h
  rcases h with h | ⟨_, h⟩
  · exact List.lt_irrefl _ h
  · omega
theorem sLt_no {p q : Slot} : sLt p q = false ↔ ¬ SLt p q := by rw [← sLt_iff]; simp
theorem sLt_swo {α : Type} (k : α → Slot) : SrtO.Swo fun v u => sLt (k v) (k u) := by
  refine ⟨fun x y h => sLt_no.mpr fun z => (SLt.trans (sLt_iff.mp h) z).irr, fun x y z h1 h2 => sLt_no.mpr fun q => ?_⟩
  have a := sLt_no.mp h1
  have b := sLt_no.mp h2
  rcases SLt.tri (k x) (k y) with c | c | c
  · exact b (SLt.trans q c)
  · rw [← c] at b; exact b q
  · exact a c
/-! ### sorting lists of slots, of any length -/
section
variable {prog : Program} {w : World} {A : Around} {E : Value → Shared → Prop} {s : Shared}
def IsSlotV (h : Heap) (v : Value) (z : Slot) : Prop := ∃ (a : Addr) (o : Obj) (t u r : Tok) (n : Nat), v = .ref a ∧ h.get? a = some o ∧ o.cls = .type "tuple" ∧ o.data = .seq #[.str z.1 t, .int z.2.1 u, .int z.2.2 r] n
theorem IsSlotV.stays {h h' : Heap} {v : Value} {z : Slot} (p : IsSlotV h v z) (k : ∀ b o, h.get? b = some o → o.cls = .type "tuple" → h'.get? b = some o) : IsSlotV h' v z := by
  obtain ⟨a, o, t, u, r, n, e, ho, hc, hd⟩ := p
  exact ⟨a, o, t, u, r, n, e, k _ _ ho hc, hc, hd⟩
theorem slot_cmp {vs : List Value} {k : Value → Slot} (hp : ∀ v ∈ vs, IsSlotV s.heap v (k v)) : SrtO.Cmp prog w A s (tuples' true) (fun p => p.1 ∈ vs) (SrtO.lt2 fun v u => sLt (k v) (k u)) := by
  intro p q hm hm'
  have g1 := hp _ hm
  have g2 := hp _ hm'
  show wpAny (model prog w) A (keyLt' (tuples' true) p.1 q.1) (fun r s' => s' = s ∧ r = sLt (k p.1) (k q.1)) (fun _ _ => False) s
  generalize k p.1 = x at g1 ⊢
  generalize k q.1 = y at g2 ⊢
  obtain ⟨x1, x2, x3⟩ := x
  obtain ⟨y1, y2, y3⟩ := y
  obtain ⟨a, o, t, u, r, n, e, ho, hc, hd⟩ := g1
  obtain ⟨a', o', t', u', r', n', e', ho', hc', hd'⟩ := g2
  rw [e, e']
  refine PySem.W.kat_lt ho hd ho' hd' ?_
  show PySem.W.KatLex prog w A true (decide (3 < 3)) _ [(.str x1 t, .str y1 t'), (.int x2 u, .int y2 u'), (.int x3 r, .int y3 r')] 0 s
  refine PySem.W.kat_cons (wpAny_eqBool_str ?_)
  refine PySem.W.kat_go (fun e1 => ?_) (fun e1 => ?_)
  · have ex : x1 = y1 := by simpa using e1
    refine PySem.W.kat_yes (PySem.W.kat_cons (wpAny_eqBool_int ?_))
    refine PySem.W.kat_go (fun e2 => ?_) (fun e2 => ?_)
    · have ey : x2 = y2 := by simpa using e2
      refine PySem.W.kat_yes (PySem.W.kat_cons (wpAny_eqBool_int ?_))
      refine PySem.W.kat_go (fun e3 => ?_) (fun e3 => ?_)
      · have ez : x3 = y3 := by simpa using e3
        refine PySem.W.kat_yes (PySem.W.kat_nil ⟨rfl, ?_⟩)
        show false = sLt (x1, x2, x3) (y1, y2, y3)
        unfold sLt
        rw [if_pos ex, if_pos ey, ez]
        exact (decide_eq_false (Int.lt_irrefl _)).symm
      · refine PySem.W.kat_no (PySem.W.kat_one _ _ (lt_int ?_))
        refine (show s = s ∧ decide (x3 < y3) = sLt (x1, x2, x3) (y1, y2, y3) from ⟨rfl, ?_⟩)
        unfold sLt
        rw [if_pos ex, if_pos ey]
    · have ey : ¬ x2 = y2 := by simpa using e2
      refine PySem.W.kat_no (PySem.W.kat_one _ _ (lt_int ?_))
      refine (show s = s ∧ decide (x2 < y2) = sLt (x1, x2, x3) (y1, y2, y3) from ⟨rfl, ?_⟩)
      unfold sLt
      rw [if_pos ex, if_neg ey]
  · have ex : ¬ x1 = y1 := by simpa using e1
    refine PySem.W.kat_no (oneLt_str ?_)
    refine (show s = s ∧ decide (x1.cps.toList < y1.cps.toList) = sLt (x1, x2, x3) (y1, y2, y3) from ⟨rfl, ?_⟩)
    unfold sLt
    rw [if_neg ex]
theorem slot_firsts {h : Heap} : ∀ {vs : List Value}, (∀ v ∈ vs, ∃ z, IsSlotV h v z) → ∃ fs : List Value, PySem.W.KatTups h vs fs ∧ fs.length = vs.length ∧ ∀ f ∈ fs, ∃ x t, f = Value.str x t
  | [], _ => ⟨[], PySem.W.KatTups.nil, rfl, fun _ z => nomatch z⟩
  | v :: vs, hp => by
    obtain ⟨fs, k, hl, hi⟩ := slot_firsts (vs := vs) fun u m => hp u (List.mem_cons_of_mem _ m)
    obtain ⟨z, a, o, t, u, r, n, rfl, ho, hc, hd⟩ := hp v List.mem_cons_self
    refine ⟨.str z.1 t :: fs, PySem.W.KatTups.cons ho hc hd rfl k, congrArg (· + 1) hl, fun f m => ?_⟩
    rcases List.mem_cons.mp m with m | m
    · exact ⟨_, _, m⟩
    · exact hi f m
theorem slots_able {a : Addr} {vs : List Value} {k : Value → Slot} (h0 : 0 < vs.length) (hp : ∀ v ∈ vs, IsSlotV s.heap v (k v)) (ha : ∀ o, s.heap.get? a = some o → o.cls ≠ .type "tuple") : SrtO.SortableO prog w A s a vs fun v u => sLt (k v) (k u) := by
  intro h' keep
  have g : ∀ v ∈ vs, IsSlotV h' v (k v) := fun v m => (hp v m).stays fun b o e c => keep b o (fun z => ha o (z ▸ e) c) e
  obtain ⟨fs, k1, hl, hi⟩ := slot_firsts fun v m => ⟨_, g v m⟩
  refine ⟨tuples' true, fun Q E q => ?_, slot_cmp g⟩
  refine PySem.W.kat_kind (T := .type "str") k1 (by omega) (fun f m => ?_) (by rfl) ?_
  · obtain ⟨x, t, rfl⟩ := hi f m
    exact PySem.W.Looks.now
  · rw [show (Value.type "str" != Value.type "tuple") = true by decide +kernel]
    exact q
theorem sorted_slots {l : Addr} {vs : List Value} {k : Value → Slot} {Q : Value → Shared → Prop} (hl : s.heap.IsList l vs.toArray) (hz : vs.length ≤ sizeLine) (hp : ∀ v ∈ vs, IsSlotV s.heap v (k v))
    (h : ∀ (h' : Heap) (d : Addr) (out : List Value), SrtO.Srtd (fun v u => sLt (k v) (k u)) out → out.Perm vs → (∀ b o, s.heap.get? b = some o → h'.get? b = some o) → s.heap.objs.size ≤ d → (∃ n, h'.get? d = some (seqObj "list" out.toArray n)) → Q (.ref d) { s with heap := h' }) :
    wpAny (model prog w) A (call (.builtin "sorted") [.ref l]) Q E s := by
  refine SrtO.sorted_ord (sLt_swo k) hl hz (fun h2 g a ha kk => ?_) fun out hs hb => h _ _ out hs hb.perm (fun b o e => sortedAll_old e) (Nat.le_succ _) (sortedAll_at s.heap vs out.toArray)
  refine slots_able (s := { s with heap := g }) (by omega) (fun v m => (hp v m).stays fun b o e _ => (kk b o e).2) fun o e c => ?_
  rw [ha] at e
  cases e
  exact absurd (Value.type.inj c) (by decide)
end
/-- the slot whose tuple stands at a -/
def slotAt (H : Hp) (a : Addr) : Slot := match H a with
  | some (.tup [.str z, .int n, .int k]) => (z, n, k)
  | _ => (Str.empty, 0, 0)
theorem slotAt_eq {H : Hp} {a : Addr} {s : Slot} (h : H a = some (.tup (sVs s))) : slotAt H a = s := by
  unfold slotAt
  rw [h]
  rfl
/-- addresses and the slots whose tuples stand there -/
def SlotsAt (H : Hp) (as : List Addr) (ss : List Slot) : Prop := Paired (fun (a : Addr) (s : Slot) => H a = some (.tup (sVs s))) as ss
theorem SlotsAt.ext {M : List Addr} {H H' : Hp} {as : List Addr} {ss : List Slot} (h : SlotsAt H as ss) (e : Ext M H H') : SlotsAt H' as ss := Paired.mapP h fun _ _ q => e.tup q
theorem SlotsAt.map {H : Hp} : ∀ {as : List Addr} {ss : List Slot}, SlotsAt H as ss → ss = as.map (slotAt H)
  | _, _, .nil => rfl
  | _, _, .cons h t => by rw [List.map_cons, slotAt_eq h, ← SlotsAt.map t]
theorem SlotsAt.mem {H : Hp} : ∀ {as : List Addr} {ss : List Slot}, SlotsAt H as ss → ∀ a ∈ as, H a = some (.tup (sVs (slotAt H a)))
  | _, _, .nil, a, h => nomatch h
  | _, _, .cons h t, a, m => by
    rcases List.mem_cons.mp m with m | m
    · rw [m, slotAt_eq h]; exact h
    · exact SlotsAt.mem t a m
theorem SlotsAt.of {H : Hp} : ∀ {as : List Addr}, (∀ a ∈ as, H a = some (.tup (sVs (slotAt H a)))) → SlotsAt H as (as.map (slotAt H))
  | [], _ => .nil
  | a :: as, h => .cons (h a List.mem_cons_self) (SlotsAt.of fun b m => h b (List.mem_cons_of_mem _ m))
theorem refs_list : ∀ {us : List Value}, (∀ u ∈ us, ∃ a, u = Value.ref a) → ∃ bs : List Addr, us = bs.map Value.ref
  | [], _ => ⟨[], rfl⟩
  | u :: us, h => by
    obtain ⟨bs, e⟩ := refs_list fun v m => h v (List.mem_cons_of_mem _ m)
    obtain ⟨a, ea⟩ := h u List.mem_cons_self
    exact ⟨a :: bs, by rw [ea, e]; rfl⟩
theorem vals_refs : ∀ bs : List Addr, Vals (bs.map V.ref) (bs.map Value.ref)
  | [] => .nil
  | _ :: r => .cons rfl (vals_refs r)
theorem perm_of_map {as bs : List Addr} (h : (as.map Value.ref).Perm (bs.map Value.ref)) : as.Perm bs := by
  have e := h.map fun v => match v with | Value.ref a => a | _ => 0
  rw [List.map_map, List.map_map] at e
  have id1 : ∀ l : List Addr, l.map ((fun v => match v with | Value.ref a => a | _ => 0) ∘ Value.ref) = l := fun l => by
    induction l with
    | nil => rfl
    | cons a r ih => rw [List.map_cons, ih]; rfl
  rw [id1, id1] at e
  exact e
/-- sorted(a list of slots) -/
def cSortSl (K : PySem.W.Frag) : RC := fun vs H Q => ∃ (a : Addr) (as : List Addr) (ss : List Slot), vs = [V.ref a] ∧ SqL K H a (as.map V.ref) ∧ SlotsAt H as ss ∧
  ∀ (bs : List Addr) (ts : List Slot), SlotsAt H bs ts → ts.Perm ss → ts.Pairwise (fun x y => sLt y x = false) → Alc (.lst (bs.map V.ref)) H Q
section
variable {X : Cx}
theorem zc_sortSl : CallR X (.builtin "sorted") (cSortSl X.K) := by
  intro pins s σ H vs us Q I r h
  obtain ⟨a, as, ss, rfl, hs, hx, q⟩ := h
  obtain ⟨its, rv, hl, hz⟩ := I.list hs
  obtain ⟨u, rfl, ru⟩ := vals1 r
  obtain rfl : u = Value.ref a := ru
  obtain ⟨e1, e2⟩ := refs_back rv fun x m => by
    obtain ⟨t, _, e⟩ := List.mem_map.mp m
    exact ⟨t, e.symm⟩
  let k : Value → Slot := fun v => match v with | .ref b => slotAt H b | _ => (Str.empty, 0, 0)
  have hm : ∀ b : Addr, Value.ref b ∈ its → b ∈ as := fun b m => by
    have h1 : V.ref b ∈ as.map V.ref := by rw [e1]; exact List.mem_map.mpr ⟨_, m, rfl⟩
    obtain ⟨c, hc, e⟩ := List.mem_map.mp h1
    cases e
    exact hc
  refine sorted_slots (k := k) hl.isList (by rw [← rv.length]; exact hz) (fun v hv => ?_) fun h' d out h1 h2 kp hd hn => ?_
  · obtain ⟨t, rfl⟩ := e2 v hv
    have ht := SlotsAt.mem hx t (hm t hv)
    obtain ⟨_, its2, r2, o, ho, hc, n, hd⟩ := I.hok _ _ ht
    cases r2 with
    | cons ra r2 => cases r2 with
      | cons rb r2 => cases r2 with
        | cons rc r2 =>
          cases r2
          obtain ⟨t1, rfl⟩ := ra
          obtain ⟨t2, rfl⟩ := rb
          obtain ⟨t3, rfl⟩ := rc
          exact ⟨t, o, t1, t2, t3, n, rfl, ho, hc, hd⟩
  · have h3 : ∀ u ∈ out, ∃ a, u = Value.ref a := fun u hu => e2 u (h2.mem_iff.mp hu)
    obtain ⟨n, hn⟩ := hn
    obtain ⟨bs, hb⟩ := refs_list h3
    subst hb
    obtain ⟨cs, hcs⟩ := refs_list e2
    subst hcs
    have hac : as = cs := by
      rw [List.map_map] at e1
      refine List.map_inj_right (f := V.ref) (fun x y h => V.ref.inj h) |>.mp (e1.trans ?_)
      rfl
    subst hac
    have hp : bs.Perm as := perm_of_map h2
    have hbm : ∀ b ∈ bs, H b = some (.tup (sVs (slotAt H b))) := fun b m => SlotsAt.mem hx b (hp.mem_iff.mp m)
    have hq := q bs (bs.map (slotAt H)) (SlotsAt.of hbm) (by rw [SlotsAt.map hx]; exact hp.map _) (by
      rw [List.pairwise_map]
      have h1' := List.pairwise_map.mp h1
      exact h1')
    refine ⟨.ref d, upd H d (.lst (bs.map V.ref)), I.laid (t' := s.toks) kp hd ⟨?_, _, n, vals_refs bs, hn⟩, rfl, hq d (I.hok.fresh hd)⟩
    rw [List.length_map, hp.length_eq]
    rw [List.length_map] at hz
    exact hz
end

/-! ### d.clear() of a dict with tuple keys -/
def rClearT : V → List V → Hp → VK → Prop := fun x vs H Q => ∃ (a : Addr) (kvs : List (List Key × V)), x = .ref a ∧ vs = [] ∧ H a = some (.dT kvs) ∧ Chg a (.dT []) H (Q .non)
theorem zmt_clearT {X : Cx} : MtR X "dict.clear" rClearT := by
  intro pins s σ H x vs v us Q I rx rv h
  obtain ⟨a, kvs, rfl, rfl, e, q⟩ := h
  obtain rfl : v = Value.ref a := rx
  obtain rfl := rv.zero
  obtain ⟨z, hd, xs, rel, o, es, ep, ho, hx, hdat, he, hn⟩ := I.hok _ _ e
  have raw : s.heap.DictRaw a es ep := ⟨o, ho, hx, hdat⟩
  have hz : es.size ≤ sizeLine := by
    have h1 : es.toList.length = xs.length := by rw [he, List.length_map]
    have h2 := Paired.length rel
    rw [Array.length_toList] at h1
    omega
  refine call_meetsIn PySem.F.slot_dict_clear raw.typeIs PySem.F.entry_dict_clear (PySem.F.args_dict_clear_1 _) (meets_dict_clear_raw a) ⟨es, ep, raw, hz, fun h' r' hs => ?_⟩
  obtain ⟨o', ho', hx', hd'⟩ := r'
  refine ⟨.non, _, d_write (t' := s.toks) I (by rw [e]; exact True.intro) hs ⟨o', ho'⟩ ?_, rfl, q⟩
  exact ⟨Nat.zero_le _, hd, [], .nil, o', _, _, ho', hx', hd', rfl, List.nodup_nil⟩

/-! ### {slot: e for slot in ..}: a dict comprehension whose keys are tuples -/
section
variable {X : Cx} {pins : List (Addr × Obj)} {σ : St} {H : Hp} {s : Shared}
theorem dictSet_tup {E : Value → Shared → Prop} {D b : Addr} {kvs : List (List Key × V)} {k : List Key} {v : V} {r : Value} {Q : Unit → Shared → Prop} (hu : X.A.units + 1 < cLine) (I : L2.Inv X pins σ H s) (hD : H D = some (.dT kvs)) (hb : H b = some (.tup (k.map kV))) (hz : kvs.length < sizeLine)
    (rv : RelV v r) (h : ∀ s', L2.Inv X pins σ (upd H D (.dT (putK kvs k v))) s' → Q () s') : wpAny (model X.prog X.w) X.A (dictSet D (.ref b) r) Q E s := by
  obtain ⟨z, hd, xs, rel, dd⟩ := dt_of I.hok hD
  have hxl : xs.length ≤ sizeLine := by
    have := Paired.length rel
    omega
  have hl : (putK kvs k v).length ≤ sizeLine := by
    have := length_putK kvs k v
    omega
  refine wpAny_dictSet_heap (hsz := hxl) (show X.A.units < cLine from Nat.lt_of_succ_lt hu) (key_of I.hok hb) dd fun h' dd' hs => h _ ?_
  obtain ⟨q, es, ep, hq, a2, a3, a4, _, a5⟩ := dd'
  refine d_write I (by rw [hD]; exact True.intro) hs ⟨q, hq⟩ ⟨hl, hd, _, (rel.put k hb rv).keeps fun c ys ec => ?_, q, es, ep, hq, a2, a3, a4, a5⟩
  rw [upd_ne (ne_of ec hD (fun z => by cases z))]
  exact ec
/-- D: the new dict; W, Nx as in a list comprehension's reading -/
def zDcT (wi : TI) (g : TG) (tt : TT) (tk tv : TE) (vs : List Nat) : TE := fun σ H Q => wi σ H fun J H1 => ∀ D, H1 D = none → ∃ W : Nat → Nat → Hp → Prop, (∃ m, W 0 m (upd H1 D (.dT []))) ∧
  ∀ i m H, W i m H → (J.stop i H ∧ Q (.ref D) H) ∨ (J.go i H ∧ ∃ Nx : Hp → Prop, (∀ H', Nx H' → ∃ m', m' < m ∧ W (i + 1) m' H') ∧
    ∀ x H', J.yld i H x H' → g x (wipe σ vs) H' fun σ2 H2 => wipe σ2 vs = wipe σ vs ∧ tt σ2 H2 fun b H3 =>
      if b = true then tk σ2 H3 fun y H4 => tv σ2 H4 fun z H5 => ∃ kvs k q, y = .ref q ∧ H5 q = some (.tup (k.map kV)) ∧ H5 D = some (.dT kvs) ∧ kvs.length < sizeLine ∧ Nx (upd H5 D (.dT (putK kvs k z))) else Nx H3)
abbrev AllB (X : Cx) (scope : Scope) (G : Cx → Prop) : Prop := ∀ (s : Shared) (H : Hp) (C : Addr) (cl : List (Str × Addr)) (fp : List Addr), G (X.blk s H scope (compEnvC scope cl C X.env) fp)
theorem zdc_run {Q : VK} {kx vx tg iter : Expr} {ifs : List Expr} {scope : Scope} {own : List (Str × Nat)} {pos pos' : Pos} {wi : TI} {g : TG} {tt : TT} {tk tv : TE} {use : Option (Value → Sem Unit)} {Qf : Value → Shared → Prop}
    (hu : X.A.units + 1 < cLine) (hc : X.calm = true) (hN : X.N.Nodup) (I : L2.Inv X pins σ H s) (hi : PI X tg iter wi) (ok : BlkOk X.N X.env.scope scope own)
    (hg : AllB X scope fun Y => PG Y tg g) (ht : AllB X scope fun Y => PTs Y ifs tt) (hk : AllB X scope fun Y => PE Y kx tk) (he : AllB X scope fun Y => PE Y vx tv) (hs : ∀ x, foldedSetIterable iter X.env x = pure x)
    (h : zDcT wi g tt tk tv (own.map (·.2)) σ H Q)
    (fin : ∀ D C s' m H', L2.Inv X pins σ H' s' → Q (.ref D) H' → s'.heap.Ns C m → FpOk X pins H' C → compPost (model X.prog X.w) X.A X.xe use Qf (.ref D) C (.ok .next) s') :
    wpAny (model X.prog X.w) X.A (comprehension (.DictComp kx vx [⟨tg, iter, ifs, 0⟩] scope pos) scope X.env pos' newDict false (eval iter X.env) use) Qf X.xe s := by
  have cells : ∀ y ∈ scope.names, y.2 = .free → ∃ c, X.env.cells.lookup y.1 = some c := fun y m e => I.ok.has _ ((ok.free y m e).elim .inl .inr)
  refine wpAny_comprehension_free (use := use) rfl hs (closure_ok cells) ok.kind (fun y m e => (ok.uniq y m).trans (congrArg some e)) (thn (hi.run pins s σ H _ I h) fun xv s1 hx => thn hx fun itv s2 h2 => ?_)
  obtain ⟨it, fp, tn, J, H2, rfl, I2, T, st2, f2, q⟩ := h2
  refine wpAny_newObj_type (newEnv_comp ?_)
  generalize eD : s2.heap.objs.size = D
  obtain ⟨W, ⟨m0, w0⟩, turn⟩ := q D (I2.hok.fresh (Nat.le_of_eq eD))
  generalize e3 : ({ s2 with heap := s2.heap.push { cls := .type "dict", data := .dict #[] } } : Shared) = s3
  have hp3 : s3.heap = s2.heap.push { cls := .type "dict", data := .dict #[] } := by rw [← e3]
  have I3 : L2.Inv X pins σ (upd H2 D (.dT [])) s3 := by
    rw [← e3, ← eD]
    exact I2.laid (t' := s2.toks) (fun b o e => Heap.get?_push_of_some _ e) (Nat.le_refl _) (dt_empty s2.heap I2.big)
  have old : ∀ b ∈ fp, b < s2.heap.objs.size := fun b m => (T.obj _ _ st2 b m).elim fun o x => Heap.lt_size x.1
  have f3 : ∀ b ∈ fp, FpOk X pins (upd H2 D (.dT [])) b ∧ b < s3.heap.objs.size := fun b m => by
    have lt := old b m
    refine ⟨⟨?_, (f2 b m).2⟩, ?_⟩
    · rw [upd_ne (fun z => absurd lt (by rw [eD, z]; exact Nat.lt_irrefl D))]
      exact (f2 b m).1
    · rw [hp3, Heap.size_push]
      exact Nat.lt_succ_of_lt lt
  have st3 : tn 0 s3.heap := T.keep _ _ _ st2 fun b _ o e => by rw [hp3]; exact Heap.get?_push_of_some _ e
  have I4 := block_start I3 ok hN f3
  generalize ecl : cellsFrom (s3.heap.objs.size + 1) scope.names (cloFrom X.env.cells scope.names []) = cl at I4
  have pg := hg s3 (upd H2 D (.dT [])) s3.heap.objs.size cl fp
  have pt := ht s3 (upd H2 D (.dT [])) s3.heap.objs.size cl fp
  have pk := hk s3 (upd H2 D (.dT [])) s3.heap.objs.size cl fp
  have pe := he s3 (upd H2 D (.dT [])) s3.heap.objs.size cl fp
  have gone : ∀ b ∈ fp, (upd H2 D (.dT [])) b = none := fun b m => (f3 b m).1.1
  show codeAny _ _ (.compStart (.DictComp kx vx [⟨tg, iter, ifs, 0⟩] scope pos) 0 (.ref it) (.ref D) (compEnvC scope cl s3.heap.objs.size X.env)) (compPost (model X.prog X.w) X.A X.xe use Qf (.ref D) s3.heap.objs.size) { s3 with heap := pushCells (s3.heap.push { cls := .type "dict", data := .dict #[] }) scope.names }
  generalize ece : compEnvC scope cl s3.heap.objs.size X.env = ce at I4 pg pt pk pe ⊢
  have loc : ce.locals = s3.heap.objs.size := by rw [← ece]; rfl
  generalize eH : upd H2 D (.dT []) = H3 at I3 I4 pg pt pk pe w0 gone f3
  generalize e4 : ({ s3 with heap := pushCells (s3.heap.push { cls := .type "dict", data := .dict #[] }) scope.names } : Shared) = s4 at I4 ⊢
  have st4 : tn 0 s4.heap := T.keep _ _ _ st3 fun b _ o e => by rw [← e4]; exact pushCells_keeps _ _ _ _ (Heap.get?_push_of_some _ e)
  let Y : Cx := X.blk s3 H3 scope ce fp
  have mine : ∀ {σ' : L2.St} {H' : Hp} {s' : Shared}, L2.Inv Y [] σ' H' s' → (∀ b ∈ fp, H' b = none) → ∀ b ∈ fp, FpOk Y [] H' b := fun {_ H' _} J' n b m =>
    ⟨n b m, (J'.ok.exf b m).1, J'.ok.exfs b m, .inl m, (J'.ok.exf b m).2, fun p hp => nomatch (show p ∈ ([] : List (Addr × Obj)) from hp)⟩
  have run : codeAny (model X.prog X.w) X.A (.compLoop (.DictComp kx vx [⟨tg, iter, ifs, 0⟩] scope pos) 0 (.ref it) (.ref D) ce) (compPost (model X.prog X.w) X.A X.xe use Qf (.ref D) s3.heap.objs.size) s4 := by
    refine compLoop_anyD (fun n s' => ∃ i H', L2.Inv Y [] (wipe σ (own.map (·.2))) H' s' ∧ tn i s'.heap ∧ (∀ b ∈ fp, H' b = none) ∧ W i n H') (fun n s5 => ?_) m0 ⟨0, H3, I4, st4, gone, w0⟩
    rintro ⟨i, H5, I5, st5, n5, w5⟩
    rcases turn i n H5 w5 with ⟨stop, qq⟩ | ⟨go, Nx, hNx, step⟩
    · refine thnF (T.done Y rfl rfl rfl hc i [] s5 _ H5 (fun _ _ => False) I5 (mine I5 n5) st5 stop) fun r s6 ⟨hr, I6⟩ => ?_
      subst hr
      have back : L2.Inv X pins σ H5 s6 := I3.call' (ch := fp) I6.os I6.base I6.hok I6.bare fun b m =>
        let ⟨_, x1, _, x3, x4, x5⟩ := (f3 b m).1
        ⟨x3, x1, x4, x5⟩
      have nC : H5 s3.heap.objs.size = none := loc ▸ (show H5 ce.locals = none from I6.free)
      obtain ⟨m, ns, _⟩ := I6.loc
      exact fin D s3.heap.objs.size s6 m H5 back qq (loc ▸ (show s6.heap.Ns ce.locals m from ns)) (I3.fpOk (Nat.le_refl _) nC)
    · refine thnF (T.item Y rfl rfl rfl hc i [] s5 _ H5 (fun _ _ => False) I5 (mine I5 n5) st5 go) fun r s6 ⟨u, hr, h6⟩ => ?_
      subst hr
      refine thnF h6 fun _ s7 ⟨x, H7, I7, r7, y7, st7, n7⟩ => ?_
      refine thnF (pg.run _ s7 _ H7 x u _ (I7.pinned (mine I7 n7) (T.obj _ _ st7)) r7 (step x H7 y7)) fun _ s8 ⟨σ8, H8, I8, hw8, q8⟩ => ?_
      refine thnF (pt.run _ s8 σ8 H8 _ I8 q8) fun b s9 ⟨H9, I9, q9⟩ => ?_
      have over : ∀ {s' : Shared} {H' : Hp}, L2.Inv Y ([] ++ pinsAt fp s7.heap) σ8 H' s' → Nx H' → ∃ m, m < n ∧ ∃ i H', L2.Inv Y [] (wipe σ (own.map (·.2))) H' s' ∧ tn i s'.heap ∧ (∀ b ∈ fp, H' b = none) ∧ W i m H' := fun {s' H'} J' nx => by
        obtain ⟨m', lt, w'⟩ := hNx H' nx
        have pn : ∀ b ∈ fp, ∀ o, s7.heap.get? b = some o → s'.heap.get? b = some o ∧ H' b = none := fun b m o e =>
          let z := J'.pin (b, o) (List.mem_append_right _ (List.mem_append_right _ (mem_pinsAt m e)))
          ⟨z.1, z.2.1⟩
        refine ⟨m', lt, i + 1, H', (J'.unpinned (pins := [])).weak (by rw [← hw8, wipe_length]) (fun j v e => ?_), T.keep _ _ _ st7 fun b m o e => (pn b m o e).1, fun b m => ?_, w'⟩
        · rw [← hw8] at e
          exact (wipe_some e).1
        · obtain ⟨o, e, _⟩ := T.obj _ _ st7 b m
          exact (pn b m o e).2
      cases b with
      | false =>
        simp only [Bool.false_eq_true, if_false] at q9 ⊢
        exact over I9 q9
      | true =>
        simp only [if_true] at q9 ⊢
        refine thnF (pk.run _ s9 σ8 H9 _ I9 q9) fun z1 s10 ⟨yk, H10, I10, r10, q10⟩ => ?_
        refine thnF (pe.run _ s10 σ8 H10 _ I10 q10) fun z2 s11 ⟨yv, H11, I11, r11, kvs, k, b2, ek, hb2, hD, hz, nx⟩ => ?_
        subst ek
        obtain rfl : z1 = Value.ref b2 := r10
        exact dictSet_tup (X := Y) hu I11 hD hb2 hz r11 fun s12 I12 => over I12 nx
  exact codeAny_compStart_dict run (T.self X.A 0 _ _ _ st4 run)
theorem zpe_dcT {kx vx tg iter : Expr} {ifs : List Expr} {scope : Scope} {own : List (Str × Nat)} {pos : Pos} {wi : TI} {g : TG} {tt : TT} {tk tv : TE} (hu : X.A.units + 1 < cLine) (hc : X.calm = true) (hN : X.N.Nodup) (hi : PI X tg iter wi) (ok : BlkOk X.N X.env.scope scope own)
    (hg : AllB X scope fun Y => PG Y tg g) (ht : AllB X scope fun Y => PTs Y ifs tt) (hk : AllB X scope fun Y => PE Y kx tk) (he : AllB X scope fun Y => PE Y vx tv) (hs : ∀ x, foldedSetIterable iter X.env x = pure x := by intro _; rfl) :
    PE X (.DictComp kx vx [⟨tg, iter, ifs, 0⟩] scope pos) (zDcT wi g tt tk tv (own.map (·.2))) := by
  refine ⟨fun pins s σ H Q I h => ?_⟩
  rw [arm_eval_DictComp]
  refine zdc_run hu hc hN I hi ok hg ht hk he hs h fun D C s' m H' I' q ns f => ⟨m, ns, fun h2 sb => ?_⟩
  obtain ⟨y0, y1, _, y3, y4, y5⟩ := f
  exact ⟨.ref D, H', I'.turned (t' := s'.toks) (fun b o hb e => (sb.2 b hb).trans e) y0 y1 y3 y4 y5, rfl, q⟩
end
end Zk

set_option Elab.async false
set_option linter.all false
set_option maxRecDepth 100000
set_option maxHeartbeats 4000000
namespace Zk
open PySem PySem.Spec L2
open PyProof.Rows hiding St

/-! ### data that do not change: flat ones and tuples of such -/
mutual
inductive Im (H : Hp) : V → PyData → Prop
  | non : Im H .non .none
  | bl (b : Bool) : Im H (.bl b) (.bool b)
  | int (i : Int) : Im H (.int i) (.int i)
  | str (x : Str) : Im H (.str x) (.str x)
  | tup {a : Addr} {xs : List V} {ds : List PyData} : H a = some (.tup xs) → xs.length ≤ 1000 → ImAll H xs ds → Im H (.ref a) (.tuple ds)
inductive ImAll (H : Hp) : List V → List PyData → Prop
  | nil : ImAll H [] []
  | cons {v : V} {vs : List V} {d : PyData} {ds : List PyData} : Im H v d → ImAll H vs ds → ImAll H (v :: vs) (d :: ds)
end
mutual
theorem Im.go {H H' : Hp} (e : ∀ a xs, H a = some (.tup xs) → H' a = some (.tup xs)) : ∀ (d : PyData) (v : V), Im H v d → Im H' v d
  | .none, _, .non => .non
  | .bool _, _, .bl b => .bl b
  | .int _, _, .int i => .int i
  | .str _, _, .str x => .str x
  | .tuple ds, _, .tup h l k => .tup (e _ _ h) l (ImAll.go e ds _ k)
theorem ImAll.go {H H' : Hp} (e : ∀ a xs, H a = some (.tup xs) → H' a = some (.tup xs)) : ∀ (ds : List PyData) (vs : List V), ImAll H vs ds → ImAll H' vs ds
  | [], _, .nil => .nil
  | d :: ds, _, .cons h k => .cons (Im.go e d _ h) (ImAll.go e ds _ k)
end
theorem Im.ext {M : List Addr} {H H' : Hp} {v : V} {d : PyData} (h : Im H v d) (e : Ext M H H') : Im H' v d := Im.go (fun _ _ q => e.tup q) d v h
theorem ImAll.ext {M : List Addr} {H H' : Hp} {v : List V} {d : List PyData} (h : ImAll H v d) (e : Ext M H H') : ImAll H' v d := ImAll.go (fun _ _ q => e.tup q) d v h
theorem Im.lk {p : Addr} {u : HO} {od : Obj} {H H' : Hp} {v : V} {d : PyData} (h : Im H v d) (e : Lk p u od H H') : Im H' v d := Im.go (fun _ _ q => e.tup q) d v h
mutual
theorem Im.dp {K : PySem.W.Frag} {H : Hp} : ∀ (d : PyData) (v : V), Im H v d → Dp K H v d
  | .none, _, .non => .non
  | .bool _, _, .bl b => .bl b
  | .int _, _, .int i => .int i
  | .str _, _, .str x => .str x
  | .tuple ds, _, .tup h _ k => .tup (sqt h) (ImAll.dp ds _ k)
theorem ImAll.dp {K : PySem.W.Frag} {H : Hp} : ∀ (ds : List PyData) (vs : List V), ImAll H vs ds → DpAll K H vs ds
  | [], _, .nil => .nil
  | d :: ds, _, .cons h k => .cons (Im.dp d _ h) (ImAll.dp ds _ k)
end
theorem ImAll.len {H : Hp} : ∀ {vs : List V} {ds : List PyData}, ImAll H vs ds → vs.length = ds.length
  | _, _, .nil => rfl
  | _, _, .cons _ k => congrArg (· + 1) k.len
theorem ImAll.at {H : Hp} : ∀ {vs : List V} {ds : List PyData} {i : Nat} {d : PyData}, ImAll H vs ds → ds[i]? = some d → ∃ v, vs[i]? = some v ∧ Im H v d
  | _, _, 0, _, .cons h _, e => by cases e; exact ⟨_, rfl, h⟩
  | _, _, i + 1, _, .cons _ k, e => ImAll.at (i := i) k e
theorem ImAll.at' {H : Hp} : ∀ {vs : List V} {ds : List PyData} {i : Nat} {v : V}, ImAll H vs ds → vs[i]? = some v → ∃ d, ds[i]? = some d ∧ Im H v d
  | _, _, 0, _, .cons h _, e => by cases e; exact ⟨_, rfl, h⟩
  | _, _, i + 1, _, .cons _ k, e => ImAll.at' (i := i) k e
theorem ImAll.snoc {H : Hp} {v : V} {d : PyData} (h : Im H v d) : ∀ {vs : List V} {ds : List PyData}, ImAll H vs ds → ImAll H (vs ++ [v]) (ds ++ [d])
  | _, _, .nil => .cons h .nil
  | _, _, .cons g k => .cons g (ImAll.snoc h k)
theorem Im.tupE {H : Hp} {v : V} {ds : List PyData} (h : Im H v (.tuple ds)) : ∃ a xs, v = .ref a ∧ H a = some (.tup xs) ∧ ImAll H xs ds := by
  cases h with
  | tup h _ k => exact ⟨_, _, rfl, h, k⟩
/-- an equation of data -/
theorem w_eqD {K : PySem.W.Frag} {H : Hp} {Q : VK} {x y : V} {d e : PyData} (hx : Im H x d) (hy : Im H y e) (sd : SeqAt.shaped d = true) (se : SeqAt.shaped e = true) (q : Q (.bl (PyData.eqv d e)) H) : rEqD K x y H Q := ⟨d, e, hx.dp, hy.dp, sd, se, q⟩
theorem w_neD {K : PySem.W.Frag} {H : Hp} {Q : VK} {x y : V} {d e : PyData} (hx : Im H x d) (hy : Im H y e) (sd : SeqAt.shaped d = true) (se : SeqAt.shaped e = true) (q : Q (.bl (!PyData.eqv d e)) H) : rNeD K x y H Q := ⟨d, e, hx.dp, hy.dp, sd, se, q⟩

/-! ### dicts whose keys are slots, read as functions -/
def ORel (H : Hp) : Option V → Option PyData → Prop
  | none, none => True
  | some v, some d => Im H v d
  | _, _ => False
theorem ORel.ext {M : List Addr} {H H' : Hp} {x : Option V} {y : Option PyData} (h : ORel H x y) (e : Ext M H H') : ORel H' x y := by
  cases x <;> cases y
  · exact h
  · exact h
  · exact h
  · exact Im.ext h e
theorem ORel.lk {p : Addr} {u : HO} {od : Obj} {H H' : Hp} {x : Option V} {y : Option PyData} (h : ORel H x y) (e : Lk p u od H H') : ORel H' x y := by
  cases x <;> cases y
  · exact h
  · exact h
  · exact h
  · exact Im.lk h e
theorem ORel.some {H : Hp} {x : Option V} {d : PyData} (h : ORel H x (Option.some d)) : ∃ v, x = Option.some v ∧ Im H v d := by
  cases x with
  | none => exact h.elim
  | some v => exact ⟨v, rfl, h⟩
theorem ORel.none {H : Hp} {x : Option V} (h : ORel H x Option.none) : x = Option.none := by
  cases x with
  | none => rfl
  | some v => exact h.elim
theorem ORel.iss {H : Hp} {x : Option V} {y : Option PyData} (h : ORel H x y) : x.isSome = y.isSome := by
  cases x <;> cases y <;> first | rfl | exact h.elim
abbrev Fd := Slot → Option PyData
structure DMk (U : List Slot) (H : Hp) (kvs : List (List Key × V)) (ks : List Slot) (f : Fd) : Prop where
  keys : kvs.map (·.1) = ks.map sKey
  nd : ks.Nodup
  sub : ∀ s ∈ ks, s ∈ U
  val : ∀ s, ORel H (valV kvs (sKey s)) (f s)
theorem DMk.ext {U : List Slot} {M : List Addr} {H H' : Hp} {kvs : List (List Key × V)} {ks : List Slot} {f : Fd} (h : DMk U H kvs ks f) (e : Ext M H H') : DMk U H' kvs ks f := ⟨h.keys, h.nd, h.sub, fun s => (h.val s).ext e⟩
theorem DMk.lk {U : List Slot} {p : Addr} {u : HO} {od : Obj} {H H' : Hp} {kvs : List (List Key × V)} {ks : List Slot} {f : Fd} (h : DMk U H kvs ks f) (e : Lk p u od H H') : DMk U H' kvs ks f := ⟨h.keys, h.nd, h.sub, fun s => (h.val s).lk e⟩
theorem val_mem {kvs : List (List Key × V)} {k : List Key} : (valV kvs k).isSome = true ↔ k ∈ kvs.map (·.1) := by
  rw [← valV_any, List.any_eq_true]
  constructor
  · rintro ⟨p, hp, e⟩
    exact List.mem_map.mpr ⟨p, hp, of_decide_eq_true e⟩
  · intro h
    obtain ⟨p, hp, e⟩ := List.mem_map.mp h
    exact ⟨p, hp, decide_eq_true e⟩
theorem DMk.mem {U : List Slot} {H : Hp} {kvs : List (List Key × V)} {ks : List Slot} {f : Fd} (h : DMk U H kvs ks f) {s : Slot} : s ∈ ks ↔ (f s).isSome = true := by
  rw [← (h.val s).iss, val_mem, h.keys, List.mem_map]
  constructor
  · intro m; exact ⟨s, m, rfl⟩
  · rintro ⟨t, m, e⟩; rw [← sKey_inj e]; exact m
theorem DMk.len {U : List Slot} {H : Hp} {kvs : List (List Key × V)} {ks : List Slot} {f : Fd} (h : DMk U H kvs ks f) : kvs.length = ks.length := by
  have := congrArg List.length h.keys
  rwa [List.length_map, List.length_map] at this
theorem DMk.small {U : List Slot} {H : Hp} {kvs : List (List Key × V)} {ks : List Slot} {f : Fd} (h : DMk U H kvs ks f) (hU : U.length ≤ 1000) : kvs.length ≤ 1000 := by
  rw [h.len]; exact Nat.le_trans (nodup_len h.nd h.sub) hU
theorem DMk.at {U : List Slot} {H : Hp} {kvs : List (List Key × V)} {ks : List Slot} {f : Fd} (h : DMk U H kvs ks f) {i : Nat} {k : List Key} {v : V} (e : kvs[i]? = some (k, v)) : ∃ s d, ks[i]? = some s ∧ k = sKey s ∧ f s = some d ∧ valV kvs k = some v ∧ Im H v d := by
  have e1 : (kvs.map (·.1))[i]? = some k := by rw [List.getElem?_map, e]; rfl
  rw [h.keys, List.getElem?_map] at e1
  cases q : ks[i]? with
  | none => rw [q] at e1; cases e1
  | some s =>
    rw [q] at e1
    have e2 : sKey s = k := Option.some.inj e1
    have m : s ∈ ks := List.mem_of_getElem? q
    have m2 := h.mem.mp m
    obtain ⟨d, hd⟩ := Option.isSome_iff_exists.mp m2
    have o := h.val s
    rw [hd, e2] at o
    obtain ⟨v', hv, im⟩ := o.some
    have nk : (kvs.map (·.1)).Nodup := by
      rw [h.keys]
      exact List.pairwise_map.mpr (h.nd.imp fun hn e => hn (sKey_inj e))
    have hv2 : valV kvs k = some v := by
      clear hv im o hd m2 m e2 q e1 h
      induction kvs generalizing i with
      | nil => simp at e
      | cons p r ih =>
        cases i with
        | zero =>
          have : p = (k, v) := Option.some.inj e
          subst this
          exact valV_pos rfl
        | succ i =>
          have e' : r[i]? = some (k, v) := e
          have km : k ∈ r.map (·.1) := List.mem_map.mpr ⟨_, List.mem_of_getElem? e', rfl⟩
          rw [List.map_cons, List.nodup_cons] at nk
          rw [valV_neg (fun z => nk.1 (z ▸ km))]
          exact ih e' nk.2
    rw [hv] at hv2
    cases hv2
    exact ⟨s, d, rfl, e2.symm, hd, hv, im⟩
/-- a dict of slots in use; one that may be locked -/
def DM (U : List Slot) (H : Hp) (p : Addr) (f : Fd) : Prop := ∃ kvs ks, H p = some (.dT kvs) ∧ DMk U H kvs ks f
def DR (U : List Slot) (H : Hp) (p : Addr) (f : Fd) : Prop := ∃ kvs ks, Rd H p (.dT kvs) ∧ DMk U H kvs ks f
theorem DM.dr {U : List Slot} {H : Hp} {p : Addr} {f : Fd} : DM U H p f → DR U H p f := fun ⟨kvs, ks, h, k⟩ => ⟨kvs, ks, .inl h, k⟩
theorem DM.ext {U : List Slot} {M : List Addr} {H H' : Hp} {p : Addr} {f : Fd} (h : DM U H p f) (e : Ext M H H') (n : p ∉ M) : DM U H' p f := by
  obtain ⟨kvs, ks, h, k⟩ := h
  exact ⟨kvs, ks, e.keep _ _ h n, k.ext e⟩
theorem DR.ext {U : List Slot} {M : List Addr} {H H' : Hp} {p : Addr} {f : Fd} (h : DR U H p f) (e : Ext M H H') (n : p ∉ M) : DR U H' p f := by
  obtain ⟨kvs, ks, h, k⟩ := h
  rcases h with h | ⟨o, h⟩
  · exact ⟨kvs, ks, .inl (e.keep _ _ h n), k.ext e⟩
  · exact ⟨kvs, ks, .inr ⟨o, e.imm _ _ h trivial⟩, k.ext e⟩
theorem DR.lk {U : List Slot} {H H' : Hp} {p q : Addr} {u : HO} {od : Obj} {f : Fd} (h : DR U H p f) (e : Lk q u od H H') : DR U H' p f := by
  obtain ⟨kvs, ks, h, k⟩ := h
  rcases h with h | ⟨o, h⟩
  · by_cases z : p = q
    · subst z
      have := e.was
      rw [h] at this
      cases this
      exact ⟨kvs, ks, .inr ⟨od, e.at⟩, k.lk e⟩
    · exact ⟨kvs, ks, .inl (e.keep h z), k.lk e⟩
  · exact ⟨kvs, ks, .inr ⟨o, e.frz h⟩, k.lk e⟩
theorem DM.lk {U : List Slot} {H H' : Hp} {p q : Addr} {u : HO} {od : Obj} {f : Fd} (h : DM U H p f) (e : Lk q u od H H') (n : p ≠ q) : DM U H' p f := by
  obtain ⟨kvs, ks, h, k⟩ := h
  exact ⟨kvs, ks, e.keep h n, k.lk e⟩
theorem DM.ne {U : List Slot} {H : Hp} {p q : Addr} {f : Fd} (h : DM U H p f) (n : H q = none) : p ≠ q := by
  obtain ⟨kvs, ks, h, k⟩ := h
  exact ne_of_none h n
theorem DR.ne {U : List Slot} {H : Hp} {p q : Addr} {f : Fd} (h : DR U H p f) (n : H q = none) : p ≠ q := by
  obtain ⟨kvs, ks, h, k⟩ := h
  rcases h with h | ⟨o, h⟩ <;> exact ne_of_none h n
theorem DM.nil {U : List Slot} {H : Hp} {p : Addr} (h : H p = some (.dT [])) : DM U H p fun _ => none := ⟨[], [], h, ⟨rfl, List.nodup_nil, fun _ m => (nomatch m), fun _ => trivial⟩⟩
theorem DM.congr {U : List Slot} {H : Hp} {p : Addr} {f g : Fd} (h : DM U H p f) (e : ∀ s, f s = g s) : DM U H p g := by rw [← funext e]; exact h
theorem DM.fsub {U : List Slot} {H : Hp} {p : Addr} {f : Fd} (h : DM U H p f) {s : Slot} (e : (f s).isSome = true) : s ∈ U := by
  obtain ⟨kvs, ks, h, k⟩ := h
  exact k.sub _ (k.mem.mpr e)
theorem DR.fsub {U : List Slot} {H : Hp} {p : Addr} {f : Fd} (h : DR U H p f) {s : Slot} (e : (f s).isSome = true) : s ∈ U := by
  obtain ⟨kvs, ks, h, k⟩ := h
  exact k.sub _ (k.mem.mpr e)
def putF (f : Fd) (s : Slot) (d : PyData) : Fd := fun t => if t = s then some d else f t
theorem DMk.put {U : List Slot} {H : Hp} {kvs : List (List Key × V)} {ks : List Slot} {f : Fd} (h : DMk U H kvs ks f) {s : Slot} (m : s ∈ U) {v : V} {d : PyData} (i : Im H v d) : ∃ ks', DMk U H (putK kvs (sKey s) v) ks' (putF f s d) := by
  have hv : ∀ t, ORel H (valV (putK kvs (sKey s) v) (sKey t)) (putF f s d t) := fun t => by
    rw [valV_put]
    unfold putF
    by_cases e : t = s
    · subst e; rw [if_pos rfl, if_pos rfl]; exact i
    · rw [if_neg e, if_neg (fun z => e (sKey_inj z))]; exact h.val t
  by_cases hs : s ∈ ks
  · refine ⟨ks, ?_, h.nd, h.sub, hv⟩
    have : (kvs.any fun kv => decide (kv.1 = sKey s)) = true := by
      rw [valV_any, val_mem, h.keys]; exact List.mem_map.mpr ⟨s, hs, rfl⟩
    unfold putK
    rw [this, if_pos rfl, List.map_map, ← h.keys]
    refine List.map_congr_left fun p _ => ?_
    show (if p.1 = sKey s then (p.1, v) else p).1 = p.1
    by_cases z : p.1 = sKey s
    · rw [if_pos z]
    · rw [if_neg z]
  · have no : valV kvs (sKey s) = none := by
      have := fun z => hs (h.mem.mpr z)
      rw [← (h.val s).iss] at this
      exact Option.not_isSome_iff_eq_none.mp this
    refine ⟨ks ++ [s], ?_, ?_, fun t mt => ?_, hv⟩
    · rw [putK_new v no, List.map_append, List.map_append, h.keys]; rfl
    · rw [List.nodup_append]
      refine ⟨h.nd, List.nodup_cons.mpr ⟨fun z => (nomatch z), List.nodup_nil⟩, fun a ha b hb e => ?_⟩
      subst e
      rw [List.mem_singleton.mp hb] at ha
      exact hs ha
    · rcases List.mem_append.mp mt with z | z
      · exact h.sub t z
      · rw [List.mem_singleton.mp z]; exact m
/-! readings of such dicts -/
section
variable {U : List Slot} {K : PySem.W.Frag} {σ : St} {H : Hp} {Q : VK} {a b p q : Addr} {f g : Fd} {s : Slot} {v : V}
theorem dgetT {kvs : List (List Key × V)} (h : Rd H a (.dT kvs)) (eb : H b = some (.tup (sVs s))) : DGet H a (.ref b) (valV kvs (sKey s)) := .inr ⟨kvs, sKey s, b, h, rfl, eb, rfl⟩
theorem w_dgetT {d : PyData} {P : V → Prop} (h : DR U H a f) (eb : H b = some (.tup (sVs s))) (e : f s = some d) (k : ∀ v, Im H v d → P v) : ∃ c v, V.ref a = .ref c ∧ DGet H c (.ref b) (some v) ∧ P v := by
  obtain ⟨kvs, ks, h, m⟩ := h
  have o := m.val s
  rw [e] at o
  obtain ⟨v, hv, i⟩ := o.some
  exact ⟨a, v, rfl, hv ▸ dgetT h eb, k v i⟩
theorem w_dinT {P : Option V → Prop} (h : DR U H a f) (eb : H b = some (.tup (sVs s))) (k : ∀ o, o.isSome = (f s).isSome → P o) : ∃ c o, V.ref a = .ref c ∧ DGet H c (.ref b) o ∧ P o := by
  obtain ⟨kvs, ks, h, m⟩ := h
  exact ⟨a, _, rfl, dgetT h eb, k _ (m.val s).iss⟩
theorem w_get1 {te : TE} {ty : TE} (h : te σ H fun x H1 => ∃ a, x = .ref a ∧ IsD H1 a ∧ ty σ H1 fun y H2 => ∃ o, DGet H2 a y o ∧ Q (o.getD .non) H2) : tDGet1 te ty σ H Q := h
theorem w_isD {P : Addr → Prop} (h : DR U H a f) (k : P a) : ∃ c, V.ref a = .ref c ∧ IsD H c ∧ P c := by
  obtain ⟨kvs, ks, h, m⟩ := h
  exact ⟨a, rfl, .inr ⟨kvs, h⟩, k⟩
theorem w_get1T {P : Option V → Prop} (h : DR U H a f) (eb : H b = some (.tup (sVs s))) (k : ∀ o, Im H (o.getD .non) ((f s).getD .none) → P o) : ∃ o, DGet H a (.ref b) o ∧ P o := by
  obtain ⟨kvs, ks, h, m⟩ := h
  refine ⟨_, dgetT h eb, k _ ?_⟩
  have o := m.val s
  revert o
  cases valV kvs (sKey s) <;> cases f s <;> intro o
  · exact .non
  · exact o.elim
  · exact o.elim
  · exact o
theorem w_dputT {N : Hp → Prop} {d : PyData} (hU : U.length ≤ 1000) (h : DM U H a f) (eb : H b = some (.tup (sVs s))) (m : s ∈ U) (i : Im H v d) (k : ∀ H', Ext [a] H H' → DM U H' a (putF f s d) → N H') :
    ∃ c H4, V.ref a = .ref c ∧ DPut H c (.ref b) v H4 ∧ N H4 := by
  obtain ⟨kvs, ks, h, w⟩ := h
  have eb' : H b = some (.tup ((sKey s).map kV)) := eb
  have e : Ext [a] H (upd H a (.dT (putK kvs (sKey s) v))) := Ext.mut h (fun z => z) (List.mem_singleton.mpr rfl)
  refine ⟨a, _, rfl, DPut.t (k := sKey s) h eb' (szl (Nat.lt_of_le_of_lt (w.small hU) (by decide))), k _ e ?_⟩
  obtain ⟨ks', w'⟩ := w.put m i
  exact ⟨_, ks', upd_same, w'.ext e⟩
/-- len of a list, a tuple, a dict with tuple keys -/
def cLenX (K : PySem.W.Frag) : RC := fun xs H Q => cLen K xs H Q ∨ ∃ p kvs, xs = [V.ref p] ∧ H p = some (.dT kvs) ∧ Q (.int kvs.length) H
theorem zc_lenX {X : Cx} : CallR X (.builtin "len") (cLenX X.K) := by
  intro pins s σ H vs us Q I r h
  rcases h with h | ⟨p, kvs, e, hp, q⟩
  · exact zc_len pins s σ H vs us Q I r h
  · exact call_len_dT pins s σ H vs us Q I r ⟨p, kvs, e, hp, q⟩
/-- list(d), d a dict of slots -/
def cListT : RC := fun xs H Q => ∃ d kvs, xs = [V.ref d] ∧ Rd H d (.dT kvs) ∧ ∀ bs, IsKeys H kvs bs → Alc (.lst (bs.map V.ref)) H Q
theorem zc_listT {X : Cx} (hc : X.calm = true) : CallR X (.type "list") cListT := by
  intro pins s σ H vs us Q I r h
  obtain ⟨d, kvs, e, hd, q⟩ := h
  exact call_list_dT hc pins s σ H vs us Q I r ⟨d, kvs, e, hd, fun p bs np ib => q bs ib p np⟩
theorem DMk.slots {kvs : List (List Key × V)} {ks : List Slot} {bs : List Addr} (m : DMk U H kvs ks f) (i : IsKeys H kvs bs) : SlotsAt H bs ks := by
  have e := m.keys
  clear m
  unfold IsKeys at i
  unfold SlotsAt
  induction i generalizing ks with
  | nil => cases ks with
    | nil => exact .nil
    | cons s r => cases e
  | cons h t ih => cases ks with
    | nil => cases e
    | cons s r =>
      injection e with e1 e2
      refine .cons ?_ (ih e2)
      show _ = some (HO.tup (sVs s))
      rw [h]
      have e1' : _ = sKey s := e1
      rw [← sKey_vs, ← e1']
theorem w_listT {P : V → Hp → Prop} (h : DR U H a f) (k : ∀ p bs ks H', Ext [] H H' → H p = none → H' p = some (.lst (bs.map V.ref)) → SlotsAt H' bs ks → ks.Nodup → (∀ s, s ∈ ks ↔ (f s).isSome = true) → ks.length ≤ U.length → P (.ref p) H') : cListT [.ref a] H P := by
  obtain ⟨kvs, ks, h, m⟩ := h
  refine ⟨a, kvs, rfl, h, fun bs ib => w_alc fun p H' e n hp => ?_⟩
  exact k p bs ks H' e n hp ((m.slots ib).ext e) m.nd (fun s => m.mem) (nodup_len m.nd m.sub)
/-- sorted(d), d a dict of slots; the dict is not changed by it -/
def cSortT (K : PySem.W.Frag) : RC := fun vs H Q => cSortSl K vs H Q ∨ ∃ (d : Addr) (kvs : List (List Key × V)) (ks : List Slot), vs = [V.ref d] ∧ Rd H d (.dT kvs) ∧ kvs.map (·.1) = ks.map sKey ∧
  ∀ (bs : List Addr) (ts : List Slot), SlotsAt H bs ts → ts.Perm ks → ts.Pairwise (fun x y => sLt y x = false) → Alc (.lst (bs.map V.ref)) H Q
theorem SlotsAt.vals {X : Cx} {pins : List (Addr × Obj)} {s : Shared} (I : L2.Inv X pins σ H s) {as : List Addr} {ss : List Slot} (hx : SlotsAt H as ss) {h' : Heap} (kp : ∀ b o, s.heap.get? b = some o → h'.get? b = some o) :
    ∀ v ∈ as.map Value.ref, IsSlotV h' v (match v with | .ref b => slotAt H b | _ => (Str.empty, 0, 0)) := by
  intro v hv
  obtain ⟨t, ht, rfl⟩ := List.mem_map.mp hv
  obtain ⟨_, its2, r2, o, ho, hc, n, hd⟩ := I.hok _ _ (SlotsAt.mem hx t ht)
  cases r2 with
  | cons ra r2 => cases r2 with
    | cons rb r2 => cases r2 with
      | cons rc r2 =>
        cases r2
        obtain ⟨t1, rfl⟩ := ra
        obtain ⟨t2, rfl⟩ := rb
        obtain ⟨t3, rfl⟩ := rc
        exact ⟨t, o, t1, t2, t3, n, rfl, kp _ _ ho, hc, hd⟩
theorem zc_sortT {X : Cx} (hc : X.calm = true) : CallR X (.builtin "sorted") (cSortT X.K) := by
  intro pins s σ H vs us Q I r h
  rcases h with h | ⟨d, kvs, ks, rfl, hd, hk, q⟩
  · exact zc_sortSl pins s σ H vs us Q I r h
  obtain ⟨u, rfl, rx⟩ := r.one
  cases rx
  obtain ⟨z, hs, ys, pr, o, es, ep, ho, hx, hdt, he, hn⟩ := (show ObjOk X.prog X.w H s.heap d (.dT kvs) from hd.ok I.hok)
  have l1 : es.size = ys.length := size_of_entries he
  have l2 : kvs.length = ys.length := Paired.length pr
  refine Calls.call_function_entry PyProof.Rows.kind_sorted PyProof.Rows.plain_sorted PyProof.Rows.entry_sorted (PyProof.Rows.args_sorted1 _) ?_
  unfold Builtin.«sorted»
  refine wpAny_bind (m := checkCount "sorted" 1 1 _) (wpAny_pure ?_)
  refine wpAny_bind (PySem.W.kdu_collect (A := X.A.in1) (kdl_raw hs hx hdt) (I.ok.hd hc) ho (by omega) fun h' tk acc' kp it => ?_)
  have ea : acc'.toList = ys.map fun x => Value.ref x.2.1 := by
    have hl : acc'.toList.length = ys.length := by rw [Array.length_toList, it.1]; exact l1
    apply List.ext_getElem?
    intro j
    rw [List.getElem?_map]
    cases hj : acc'.toList[j]? with
    | none =>
      have h1 := List.getElem?_eq_none_iff.mp hj
      rw [List.getElem?_eq_none (by omega)]
      all_goals rfl
    | some v =>
      obtain ⟨en, hen, hv⟩ := it.2 j v (by rw [← Array.getElem?_toList]; exact hj)
      have qe := entry_at he j
      rw [hen] at qe
      cases hb : ys[j]? with
      | none =>
        rw [hb] at qe
        exact nomatch (show some en = none from qe)
      | some b =>
        rw [hb] at qe
        have e2 : en = entryOfKey (tupleKind (mixKind X.prog X.w)) b := Option.some.inj qe
        rw [hv, e2]
        all_goals rfl
  have eb : acc'.toList = (ys.map fun x => x.2.1).map Value.ref := by rw [ea, List.map_map]; all_goals rfl
  have ik := isKeys_of pr
  generalize (ys.map fun x => x.2.1) = as at eb ik
  have hx2 : SlotsAt H as ks := by
    have e := hk
    clear q hd hx pr l2 ho he hn z hk
    unfold IsKeys at ik
    unfold SlotsAt
    clear eb ea
    induction ik generalizing ks with
    | nil => cases ks with
      | nil => exact .nil
      | cons s r => cases e
    | cons h t ih => cases ks with
      | nil => cases e
      | cons s r =>
        injection e with e1 e2
        refine .cons ?_ (ih (ks := r) e2)
        show _ = some (HO.tup (sVs s))
        rw [h]
        have e1' : _ = sKey s := e1
        rw [← sKey_vs, ← e1']
  have lz : (as.map Value.ref).length ≤ sizeLine := by
    rw [← eb, Array.length_toList, it.1, l1]; omega
  have I1 : L2.Inv X pins σ H { s with heap := h', toks := tk } := I.kept kp
  rw [eb]
  refine wpAny_bind (wpAny_newList ?_ lz)
  have hoL : (h'.push (seqObj "list" (as.map Value.ref).toArray 0)).get? h'.objs.size = some (seqObj "list" (as.map Value.ref).toArray 0) := Heap.get?_push_size _ rfl
  show wpAny _ _ _ _ _ { s with heap := h'.push (seqObj "list" (as.map Value.ref).toArray 0), toks := tk }
  let k : Value → Slot := fun v => match v with | .ref b => slotAt H b | _ => (Str.empty, 0, 0)
  refine wpAny_bind (wpAny_holding (wpAny_call_entry PyProof.Rows.slot_list_sort ⟨_, hoL, rfl⟩ PyProof.Rows.entry_list_sort
    (SrtO.list_sort_ord (s := { s with heap := h'.push (seqObj "list" (as.map Value.ref).toArray 0), toks := tk }) (sLt_swo k) hoL lz (fun h2 => slots_able (by omega) (SlotsAt.vals I hx2 fun b o e => Heap.get?_push_of_some _ (kp b o e)) fun o e c => ?_) fun out h1 hb => ⟨_, rfl, ?_⟩) (PyProof.Rows.args_list_sort _)))
  · rw [hoL] at e
    cases e
    exact absurd (Value.type.inj c) (by decide)
  have h2 := hb.perm
  obtain ⟨e', he'⟩ := PyProof.Rows.sortedHeap_at (vs := as.map Value.ref) (out := out.toArray) hoL
  obtain ⟨bs, hbs⟩ := refs_list (us := out) fun u hu => by
    obtain ⟨t, _, e⟩ := List.mem_map.mp (h2.mem_iff.mp hu)
    exact ⟨t, e.symm⟩
  subst hbs
  have hp : bs.Perm as := perm_of_map h2
  have hbm : ∀ b ∈ bs, H b = some (.tup (sVs (slotAt H b))) := fun b m => SlotsAt.mem hx2 b (hp.mem_iff.mp m)
  have hq := q bs (bs.map (slotAt H)) (SlotsAt.of hbm) (by rw [SlotsAt.map hx2]; exact hp.map _) (by
    rw [List.pairwise_map]
    exact List.pairwise_map.mp h1)
  refine wpAny_pure ⟨_, rfl, .ref h'.objs.size, upd H h'.objs.size (.lst (bs.map V.ref)), I1.laid (t' := tk) (fun b u e => ?_) (Nat.le_refl _)
    (show ObjOk X.prog X.w _ _ _ (.lst (bs.map V.ref)) from ⟨?_, bs.map Value.ref, e', vals_refs bs, he'⟩), rfl, hq _ (I1.hok.fresh (Nat.le_refl _))⟩
  · have hb : b < h'.objs.size := Heap.lt_size e
    rw [PyProof.Rows.sortedHeap_old (Nat.ne_of_lt hb) (by rw [size_push']; exact Nat.lt_succ_of_lt hb)]
    exact Heap.get?_push_of_some _ e
  · rw [List.length_map, hp.length_eq]
    rw [List.length_map] at lz
    exact lz
end
end Zk

set_option Elab.async false
set_option linter.all false
set_option maxRecDepth 100000
set_option maxHeartbeats 4000000
namespace Zk
open PySem PySem.Spec L2
open PyProof.Rows hiding St

theorem depthAll_mem {d : PyData} : ∀ {ds : List PyData}, d ∈ ds → d.depth ≤ PyData.depthAll ds
  | x :: xs, h => by
    rw [PyData.depthAll]
    rcases List.mem_cons.mp h with h | h
    · rw [h]; exact Nat.le_max_left _ _
    · exact Nat.le_trans (depthAll_mem h) (Nat.le_max_right _ _)
theorem depth_tup (ds : List PyData) : (PyData.tuple ds).depth = PyData.depthAll ds + 1 := by rw [PyData.depth]
/-- two that are told to be the same: data of the same form, lists of such, dicts of slots that are the same functions -/
def Sm (U : List Slot) : Nat → Hp → V → V → Prop
  | 0, _, _, _ => False
  | n + 1, H, a, b => (∃ d, d.depth ≤ n ∧ Im H a d ∧ Im H b d) ∨ (∃ p q xs ys, a = .ref p ∧ b = .ref q ∧ H p = some (.lst xs) ∧ H q = some (.lst ys) ∧ xs.length ≤ 1000 ∧ Paired (Sm U n H) xs ys) ∨
    (3 ≤ n ∧ U.length ≤ 1000 ∧ ∃ p q f, a = .ref p ∧ b = .ref q ∧ DM U H p f ∧ DM U H q f ∧ ∀ s d, f s = some d → d.depth < n)
theorem Sm.im {U : List Slot} {n : Nat} {H : Hp} {a b : V} {d : PyData} (l : d.depth < n) (h : Im H a d) (k : Im H b d) : Sm U n H a b := by
  cases n with
  | zero => omega
  | succ n => exact .inl ⟨d, by omega, h, k⟩
theorem Sm.ext {U : List Slot} {H H' : Hp} (e : Ext [] H H') : ∀ {n : Nat} {a b : V}, Sm U n H a b → Sm U n H' a b
  | 0, _, _, h => h
  | n + 1, a, b, h => by
    rcases h with ⟨d, l, i, j⟩ | ⟨p, q, xs, ys, rfl, rfl, hp, hq, lz, w⟩ | ⟨l, hU, p, q, f, rfl, rfl, hp, hq, w⟩
    · exact .inl ⟨d, l, i.ext e, j.ext e⟩
    · exact .inr (.inl ⟨p, q, xs, ys, rfl, rfl, e.keep _ _ hp List.not_mem_nil, e.keep _ _ hq List.not_mem_nil, lz, Paired.mapP w fun _ _ z => Sm.ext e z⟩)
    · exact .inr (.inr ⟨l, hU, p, q, f, rfl, rfl, hp.ext e List.not_mem_nil, hq.ext e List.not_mem_nil, w⟩)
theorem sle_anti {x y : Slot} (h : sLt y x = false) (k : sLt x y = false) : x = y := by
  rcases SLt.tri x y with z | z | z
  · exact absurd z (sLt_no.mp k)
  · exact z
  · exact absurd z (sLt_no.mp h)
theorem sorted_uniq : ∀ {xs ys : List Slot}, xs.Perm ys → xs.Pairwise (fun x y => sLt y x = false) → ys.Pairwise (fun x y => sLt y x = false) → xs = ys
  | [], ys, p, _, _ => (List.nil_perm.mp p).symm
  | x :: xs, [], p, _, _ => absurd (List.perm_nil.mp p) (fun z => nomatch z)
  | x :: xs, y :: ys, p, h, k => by
    obtain ⟨h1, h2⟩ := List.pairwise_cons.mp h
    obtain ⟨k1, k2⟩ := List.pairwise_cons.mp k
    have e : x = y := by
      have m1 : x ∈ y :: ys := p.mem_iff.mp List.mem_cons_self
      have m2 : y ∈ x :: xs := p.mem_iff.mpr List.mem_cons_self
      rcases List.mem_cons.mp m1 with m1 | m1
      · exact m1
      · rcases List.mem_cons.mp m2 with m2 | m2
        · exact m2.symm
        · exact sle_anti (h1 y m2) (k1 x m1)
    subst e
    rw [sorted_uniq ((List.perm_cons x).mp p) h2 k2]
theorem DMk.perm {U : List Slot} {H H' : Hp} {kvs kvs' : List (List Key × V)} {ks ks' : List Slot} {f : Fd} (h : DMk U H kvs ks f) (h' : DMk U H' kvs' ks' f) : ks.Perm ks' :=
  (List.perm_ext_iff_of_nodup h.nd h'.nd).mpr fun s => by rw [h.mem, h'.mem]
/-- the items of a slot's tuple -/
def sD (s : Slot) : PyData := .tuple [.str s.1, .int s.2.1, .int s.2.2]
theorem sD_depth (s : Slot) : (sD s).depth = 1 := by simp [sD, PyData.depth, PyData.depthAll]
theorem im_slot {H : Hp} {b : Addr} {s : Slot} (h : H b = some (.tup (sVs s))) : Im H (.ref b) (sD s) := .tup h (show 3 ≤ 1000 by decide) (.cons (.str _) (.cons (.int _) (.cons (.int _) .nil)))
theorem sm_slots {U : List Slot} {n : Nat} {H : Hp} (hn : 2 ≤ n) : ∀ {as bs : List Addr} {ss : List Slot}, SlotsAt H as ss → SlotsAt H bs ss → Paired (Sm U n H) (as.map V.ref) (bs.map V.ref)
  | _, _, _, .nil, .nil => .nil
  | _, _, _, .cons h t, .cons k u => .cons (Sm.im (d := sD _) (by rw [sD_depth]; omega) (im_slot h) (im_slot k)) (sm_slots hn t u)

theorem SlotsAt.app {H : Hp} {as bs : List Addr} {ss ts : List Slot} (h : SlotsAt H as ss) (k : SlotsAt H bs ts) : SlotsAt H (as ++ bs) (ss ++ ts) := by
  unfold SlotsAt at *
  induction h with
  | nil => exact k
  | cons h t ih => exact .cons h ih
theorem SlotsAt.snoc {H : Hp} {as : List Addr} {b : Addr} {ss : List Slot} {s : Slot} (h : SlotsAt H as ss) (k : H b = some (.tup (sVs s))) : SlotsAt H (as ++ [b]) (ss ++ [s]) := h.app (.cons k .nil)
theorem SlotsAt.len {H : Hp} {as : List Addr} {ss : List Slot} (h : SlotsAt H as ss) : as.length = ss.length := paired_len h
theorem SlotsAt.get {H : Hp} {as : List Addr} {ss : List Slot} (h : SlotsAt H as ss) {i : Nat} {v : V} (e : (as.map V.ref)[i]? = some v) : ∃ a s, v = .ref a ∧ as[i]? = some a ∧ ss[i]? = some s ∧ H a = some (.tup (sVs s)) := by
  rw [List.getElem?_map] at e
  cases q : as[i]? with
  | none => rw [q] at e; cases e
  | some a =>
    rw [q] at e
    obtain ⟨s, hs, hh⟩ := paired_at h q
    exact ⟨a, s, (Option.some.inj e).symm, rfl, hs, hh⟩
/-! ### walks over the keys of a dict of slots -/
section
variable {K : PySem.W.Frag} {σ : St} {H : Hp} {Q : VK} {a b : Addr} {rt : VK} {nx : St → Hp → Prop} {t : TS} {tt : TT} {te : TE} {U : List Slot} {f : Fd}
theorem w_keysT {kvs : List (List Key × V)} {o : Obj} {R : It → Hp → Prop} {i : Nat} (e : σ[i]? = some (some (.ref a))) (h : H a = some (.frz o (.dT kvs))) (q : R (Itkt a o kvs) H) : iKeys (tVar i) σ H R := ⟨.ref a, e, a, o, rfl, .inr ⟨kvs, h, q⟩⟩
theorem w_keysKT {kvs : List (List Key × V)} {o : Obj} {R : It → Hp → Prop} (h : H a = some (.frz o (.dT kvs))) (q : R (Itkt a o kvs) H) : ∃ d o, V.ref a = .ref d ∧ ((∃ kvs, H d = some (.frz o (.dK kvs)) ∧ R (Itk d o kvs) H) ∨ ∃ kvs, H d = some (.frz o (.dT kvs)) ∧ R (Itkt d o kvs) H) := ⟨a, o, rfl, .inr ⟨kvs, h, q⟩⟩
theorem z_for_keysT {kvs : List (List Key × V)} {ks : List Slot} {H0 : Hp} (m : DMk U H0 kvs ks f) {d : Addr} {o : Obj} {g : TG} (Pv : Nat → St → Hp → Prop) (h0 : Pv 0 σ H) (hl : ∀ i σ H, i ≤ ks.length → Pv i σ H → H d = some (.frz o (.dT kvs)))
    (hs : ∀ (N : St → Hp → Prop) i s e b σ H, ks[i]? = some s → f s = some e → H b = some (.tup (sVs s)) → Pv i σ H → (∀ σ' H', Pv (i + 1) σ' H' → N σ' H') → g (.ref b) σ H fun σ2 H2 => t ⟨N, rt, nx, N⟩ σ2 H2) (hd : ∀ σ H, Pv ks.length σ H → nx σ H) :
    ∃ W : Nat → Nat → St → Hp → Prop, (∃ m, W 0 m σ H) ∧ ∀ i m σ H, W i m σ H →
      ((Itkt d o kvs).stop i H ∧ nx σ H) ∨ ((Itkt d o kvs).go i H ∧ ∃ N : St → Hp → Prop, (∀ σ' H', N σ' H' → ∃ m', m' < m ∧ W (i + 1) m' σ' H') ∧ ∀ x H', (Itkt d o kvs).yld i H x H' → g x σ H' fun σ2 H2 => t ⟨N, rt, nx, N⟩ σ2 H2) := by
  rw [← m.len] at hl hd
  refine ⟨fun i m σ H => m = kvs.length - i ∧ i ≤ kvs.length ∧ Pv i σ H, ⟨_, rfl, Nat.zero_le _, h0⟩, ?_⟩
  rintro i m' σ H ⟨rfl, hi, p⟩
  by_cases hlt : i < kvs.length
  · refine .inr ⟨⟨hl i σ H hi p, hlt⟩, Pv (i + 1), fun σ' H' p' => ⟨kvs.length - (i + 1), by omega, rfl, hlt, p'⟩, fun x H' y => ?_⟩
    obtain ⟨e, k, v, q, hk, rfl, hq⟩ := y
    subst e
    obtain ⟨s, d', hs', ek, hf, _, _⟩ := m.at hk
    subst ek
    exact hs (Pv (i + 1)) i s d' q σ _ hs' hf hq p fun _ _ q => q
  · have e : i = kvs.length := by omega
    subst e
    exact .inl ⟨⟨hl _ σ H hi p, Nat.le_refl _⟩, hd σ H p⟩
theorem z_lc_keysT {kvs : List (List Key × V)} {ks : List Slot} {H0 : Hp} (m : DMk U H0 kvs ks f) {d : Addr} {o : Obj} {g : TG} {vs : List Nat} {D : Addr} {Qd : Hp → Prop} (Pv : Nat → List V → Hp → Prop) (nD : H D = none) (h0 : ∀ H', Ext [] H H' → Pv 0 [] H') (hl : ∀ i acc H, i ≤ ks.length → Pv i acc H → H d = some (.frz o (.dT kvs)))
    (hs : ∀ (Nx : Hp → Prop) i s e b acc H, ks[i]? = some s → f s = some e → H b = some (.tup (sVs s)) → Pv i acc H → H D = some (.lst acc) → (∀ acc' H', Pv (i + 1) acc' H' → H' D = some (.lst acc') → Nx H') → g (.ref b) (wipe σ vs) H fun σ2 H2 => wipe σ2 vs = wipe σ vs ∧ tt σ2 H2 fun b H3 =>
      if b = true then te σ2 H3 fun y H4 => ∃ acc, H4 D = some (.lst acc) ∧ acc.length < sizeLine ∧ Nx (upd H4 D (.lst (acc ++ [y]))) else Nx H3) (hd : ∀ acc H, Pv ks.length acc H → H D = some (.lst acc) → Qd H) :
    ∃ W : Nat → Nat → Hp → Prop, (∃ m, W 0 m (upd H D (.lst []))) ∧ ∀ i m H, W i m H →
      ((Itkt d o kvs).stop i H ∧ Qd H) ∨ ((Itkt d o kvs).go i H ∧ ∃ Nx : Hp → Prop, (∀ H', Nx H' → ∃ m', m' < m ∧ W (i + 1) m' H') ∧ ∀ x H', (Itkt d o kvs).yld i H x H' → g x (wipe σ vs) H' fun σ2 H2 => wipe σ2 vs = wipe σ vs ∧ tt σ2 H2 fun b H3 =>
        if b = true then te σ2 H3 fun y H4 => ∃ acc, H4 D = some (.lst acc) ∧ acc.length < sizeLine ∧ Nx (upd H4 D (.lst (acc ++ [y]))) else Nx H3) := by
  rw [← m.len] at hl hd
  refine ⟨fun i m H => m = kvs.length - i ∧ i ≤ kvs.length ∧ ∃ acc, Pv i acc H ∧ H D = some (.lst acc), ⟨_, rfl, Nat.zero_le _, [], h0 _ (Ext.new nD), upd_same⟩, ?_⟩
  rintro i m' H ⟨rfl, hi, acc, p, hD⟩
  by_cases hlt : i < kvs.length
  · refine .inr ⟨⟨hl i acc H hi p, hlt⟩, (fun H => ∃ acc, Pv (i + 1) acc H ∧ H D = some (.lst acc)), fun H' p' => ⟨kvs.length - (i + 1), by omega, rfl, hlt, p'⟩, fun x H' y => ?_⟩
    obtain ⟨e, k, v, q, hk, rfl, hq⟩ := y
    subst e
    obtain ⟨s, d', hs', ek, hf, _, _⟩ := m.at hk
    subst ek
    exact hs _ i s d' q acc _ hs' hf hq p hD fun acc' H' p' h' => ⟨acc', p', h'⟩
  · have e : i = kvs.length := by omega
    subst e
    exact .inl ⟨⟨hl _ acc H hi p, Nat.le_refl _⟩, hd acc H p hD⟩
/-- .. and a dict is made of them -/
theorem w_dc {wi : TI} {g : TG} {tk tv : TE} {vs : List Nat} (h : wi σ H fun J H1 => ∀ D, H1 D = none → ∃ W : Nat → Nat → Hp → Prop, (∃ m, W 0 m (upd H1 D (.dT []))) ∧
  ∀ i m H, W i m H → (J.stop i H ∧ Q (.ref D) H) ∨ (J.go i H ∧ ∃ Nx : Hp → Prop, (∀ H', Nx H' → ∃ m', m' < m ∧ W (i + 1) m' H') ∧
    ∀ x H', J.yld i H x H' → g x (wipe σ vs) H' fun σ2 H2 => wipe σ2 vs = wipe σ vs ∧ tt σ2 H2 fun b H3 =>
      if b = true then tk σ2 H3 fun y H4 => tv σ2 H4 fun z H5 => ∃ kvs k q, y = .ref q ∧ H5 q = some (.tup (k.map kV)) ∧ H5 D = some (.dT kvs) ∧ kvs.length < sizeLine ∧ Nx (upd H5 D (.dT (putK kvs k z))) else Nx H3)) : zDcT wi g tt tk tv vs σ H Q := h
theorem w_dcput {D q : Addr} {v : V} {N : Hp → Prop} {s : Slot} {d : PyData} (hU : U.length ≤ 1000) (h : DM U H D f) (eb : H q = some (.tup (sVs s))) (m : s ∈ U) (i : Im H v d) (k : ∀ H', Ext [D] H H' → DM U H' D (putF f s d) → N H') :
    ∃ kvs k c, V.ref q = .ref c ∧ H c = some (.tup (k.map kV)) ∧ H D = some (.dT kvs) ∧ kvs.length < sizeLine ∧ N (upd H D (.dT (putK kvs k v))) := by
  obtain ⟨kvs, ks, h, w⟩ := h
  have e : Ext [D] H (upd H D (.dT (putK kvs (sKey s) v))) := Ext.mut h (fun z => z) (List.mem_singleton.mpr rfl)
  refine ⟨kvs, sKey s, q, rfl, eb, h, szl (Nat.lt_of_le_of_lt (w.small hU) (by decide)), k _ e ?_⟩
  obtain ⟨ks', w'⟩ := w.put m i
  exact ⟨_, ks', upd_same, w'.ext e⟩
theorem z_dc_keysT {kvs : List (List Key × V)} {ks : List Slot} {H0 : Hp} (m : DMk U H0 kvs ks f) {d : Addr} {o : Obj} {g : TG} {tk tv : TE} {vs : List Nat} {D : Addr} {Qd : Hp → Prop} (Pv : Nat → Hp → Prop) (h0 : ∀ H', Ext [] H H' → H' D = some (.dT []) → Pv 0 H') (nD : H D = none) (hl : ∀ i H, i ≤ ks.length → Pv i H → H d = some (.frz o (.dT kvs)))
    (hs : ∀ (Nx : Hp → Prop) i s e b H, ks[i]? = some s → f s = some e → H b = some (.tup (sVs s)) → Pv i H → (∀ H', Pv (i + 1) H' → Nx H') → g (.ref b) (wipe σ vs) H fun σ2 H2 => wipe σ2 vs = wipe σ vs ∧ tt σ2 H2 fun b H3 =>
      if b = true then tk σ2 H3 fun y H4 => tv σ2 H4 fun z H5 => ∃ kvs k q, y = .ref q ∧ H5 q = some (.tup (k.map kV)) ∧ H5 D = some (.dT kvs) ∧ kvs.length < sizeLine ∧ Nx (upd H5 D (.dT (putK kvs k z))) else Nx H3) (hd : ∀ H, Pv ks.length H → Qd H) :
    ∃ W : Nat → Nat → Hp → Prop, (∃ m, W 0 m (upd H D (.dT []))) ∧ ∀ i m H, W i m H →
      ((Itkt d o kvs).stop i H ∧ Qd H) ∨ ((Itkt d o kvs).go i H ∧ ∃ Nx : Hp → Prop, (∀ H', Nx H' → ∃ m', m' < m ∧ W (i + 1) m' H') ∧ ∀ x H', (Itkt d o kvs).yld i H x H' → g x (wipe σ vs) H' fun σ2 H2 => wipe σ2 vs = wipe σ vs ∧ tt σ2 H2 fun b H3 =>
        if b = true then tk σ2 H3 fun y H4 => tv σ2 H4 fun z H5 => ∃ kvs k q, y = .ref q ∧ H5 q = some (.tup (k.map kV)) ∧ H5 D = some (.dT kvs) ∧ kvs.length < sizeLine ∧ Nx (upd H5 D (.dT (putK kvs k z))) else Nx H3) := by
  rw [← m.len] at hl hd
  refine ⟨fun i m H => m = kvs.length - i ∧ i ≤ kvs.length ∧ Pv i H, ⟨_, rfl, Nat.zero_le _, h0 _ (Ext.new nD) upd_same⟩, ?_⟩
  rintro i m' H ⟨rfl, hi, p⟩
  by_cases hlt : i < kvs.length
  · refine .inr ⟨⟨hl i H hi p, hlt⟩, Pv (i + 1), fun H' p' => ⟨kvs.length - (i + 1), by omega, rfl, hlt, p'⟩, fun x H' y => ?_⟩
    obtain ⟨e, k, v, q, hk, rfl, hq⟩ := y
    subst e
    obtain ⟨s, d', hs', ek, hf, _, _⟩ := m.at hk
    subst ek
    exact hs (Pv (i + 1)) i s d' q _ hs' hf hq p fun _ q => q
  · have e : i = kvs.length := by omega
    subst e
    exact .inl ⟨⟨hl _ H hi p, Nat.le_refl _⟩, hd H p⟩
theorem w_sortT {P : V → Hp → Prop} (h : DR U H a f) (k : ∀ p bs ts H', Ext [] H H' → H p = none → H' p = some (.lst (bs.map V.ref)) → SlotsAt H' bs ts → ts.Nodup → (∀ s, s ∈ ts ↔ (f s).isSome = true) → ts.length ≤ U.length → ts.Pairwise (fun x y => sLt y x = false) → P (.ref p) H') : cSortT K [.ref a] H P := by
  obtain ⟨kvs, ks, h, m⟩ := h
  refine .inr ⟨a, kvs, ks, rfl, h, m.keys, fun bs ts hb hp hs => w_alc fun p H' e n hh => ?_⟩
  exact k p bs ts H' e n hh (hb.ext e) (hp.nodup_iff.mpr m.nd) (fun s => by rw [hp.mem_iff]; exact m.mem) (by rw [hp.length_eq]; exact nodup_len m.nd m.sub) hs
theorem w_sortSl {P : V → Hp → Prop} {as : List Addr} {ss : List Slot} (h : SqL K H a (as.map V.ref)) (hx : SlotsAt H as ss) (k : ∀ p bs ts H', Ext [] H H' → H p = none → H' p = some (.lst (bs.map V.ref)) → SlotsAt H' bs ts → ts.Perm ss → ts.Pairwise (fun x y => sLt y x = false) → P (.ref p) H') : cSortT K [.ref a] H P :=
  .inl ⟨a, as, ss, rfl, h, hx, fun bs ts hb hp hs => w_alc fun p H' e n hh => k p bs ts H' e n hh (hb.ext e) hp hs⟩
theorem w_lenX {xs : List V} (h : SqL K H a xs ∨ SqT K H a xs) (q : Q (.int (xs.length : Int)) H) : cLenX K [.ref a] H Q := .inl ⟨_, _, rfl, h.elim (fun h => .inl ⟨xs, h, rfl⟩) (fun h => .inr ⟨xs, h, rfl⟩), q⟩
theorem w_lenXT {kvs : List (List Key × V)} (h : H a = some (.dT kvs)) (q : Q (.int (kvs.length : Int)) H) : cLenX K [.ref a] H Q := .inr ⟨a, kvs, rfl, h, q⟩
theorem w_ixA {v : V} {xs : List V} {j : Int} (h : SqL K H a xs ∨ SqT K H a xs) (e : atI xs j = some v) (q : Q v H) : rIx K (.ref a) (.int j) H Q :=
  h.elim (fun h => .inl ⟨a, xs, j, v, rfl, rfl, h, e, q⟩) fun h => .inr (.inl ⟨a, xs, j, v, rfl, rfl, h, e, q⟩)
theorem w_clearT {kvs : List (List Key × V)} {Q : VK} (h : H a = some (.dT kvs)) (k : ∀ H', Ext [a] H H' → Q .non H') : rClearT (.ref a) [] H Q := ⟨a, kvs, rfl, rfl, h, w_chg h (fun z => z) fun H' e _ => k H' e⟩
end
end Zk

set_option Elab.async false
set_option linter.all false
set_option maxRecDepth 100000
set_option maxHeartbeats 4000000
namespace Zk
open PySem PySem.Spec L2
open PyProof.Rows hiding St

/-! ### texts of plain signs -/
def Sg (z : Str) : Prop := ∀ c ∈ z.cps.toList, c < 128
theorem Sg.ok {z : Str} (h : Sg z) : PyData.strOk z = true := by
  unfold PyData.strOk
  rw [Array.all_eq_true']
  intro c hc
  have := h c (by simpa using hc)
  simp only [decide_eq_true_eq]
  omega
theorem Sg.app {a b : Str} (ha : Sg a) (hb : Sg b) : Sg (a ++ b) := fun c hc => by
  have e : (a ++ b).cps.toList = a.cps.toList ++ b.cps.toList := by
    show (a.cps ++ b.cps).toList = _
    simp
  rw [e, List.mem_append] at hc
  exact hc.elim (ha c) (hb c)
theorem Sg.one {c : Nat} (h : c < 128) : Sg ⟨#[c]⟩ := fun d hd => by
  have : d = c := by simpa using hd
  omega
theorem Sg.empty : Sg Str.empty := fun c hc => by simp [Str.empty] at hc
theorem Sg.join {sep : Str} (h0 : Sg sep) : ∀ {ys : List Str}, (∀ y ∈ ys, Sg y) → Sg (Txt.join sep ys) := by
  intro ys h
  show Sg (Builtin.Str.glued sep ys)
  rw [StrLaws.glued_eq_join]
  induction ys with
  | nil => exact Sg.empty
  | cons x r ih =>
    cases r with
    | nil => exact h x List.mem_cons_self
    | cons y r => exact ((h x List.mem_cons_self).app h0).app (ih fun z m => h z (List.mem_cons_of_mem _ m))
theorem Sg.mul {x : Str} (h : Sg x) (n : Int) : Sg (Txt.mul x n) := by
  unfold Txt.mul
  split
  · exact Sg.empty
  · split
    · exact h
    · have g : ∀ (k : Nat) (acc : Array Nat), (∀ c ∈ acc.toList, c < 128) → ∀ c ∈ ((List.replicate k x.cps).foldl (· ++ ·) acc).toList, c < 128 := by
        intro k
        induction k with
        | zero => intro acc ha; exact ha
        | succ k ih =>
          intro acc ha
          rw [List.replicate_succ, List.foldl_cons]
          refine ih _ fun c hc => ?_
          rw [Array.toList_append, List.mem_append] at hc
          exact hc.elim (ha c) (h c)
      exact g _ _ fun c hc => by simp at hc

/-! ### contents of slots -/
def Cell : Nat → PyData → Prop
  | 0, d => d = .none ∨ ∃ n, d = .int n
  | 1, d => d = .none ∨ ∃ z, Sg z ∧ d = .str z
  | 2, d => d = .none ∨ ∃ b, d = .bool b
  | 3, d => d = .none ∨ ∃ n m, d = .tuple [.str "sealed", .str "int", .int n, .int m]
  | _, _ => False
def Cells : Nat → List PyData → Prop
  | _, [] => True
  | i, d :: ds => Cell i d ∧ Cells (i + 1) ds
def Cont (d : PyData) : Prop := (∃ a b cs, Cells 0 cs ∧ d = .tuple [.str "row", .int a, .int b, .tuple cs]) ∨ (∃ n, d = .tuple [.str "closed", .int n]) ∨ ∃ a b k c, d = .tuple [.str "shelf", .int a, .int b, .bool k, .int c]
theorem Cell.eqv : ∀ {i : Nat} {d e : PyData}, Cell i d → Cell i e → (PyData.eqv d e = true ↔ d = e)
  | 0, d, e, h, k => by
    rcases h with rfl | ⟨n, rfl⟩ <;> rcases k with rfl | ⟨m, rfl⟩ <;> simp [PyData.eqv]
  | 1, d, e, h, k => by
    rcases h with rfl | ⟨n, _, rfl⟩ <;> rcases k with rfl | ⟨m, _, rfl⟩ <;> simp [PyData.eqv]
  | 2, d, e, h, k => by
    rcases h with rfl | ⟨n, rfl⟩ <;> rcases k with rfl | ⟨m, rfl⟩ <;> simp [PyData.eqv]
  | 3, d, e, h, k => by
    rcases h with rfl | ⟨n, m, rfl⟩ <;> rcases k with rfl | ⟨n', m', rfl⟩ <;> simp [PyData.eqv, PyData.eqvAll]
  | _ + 4, d, e, h, k => h.elim
theorem Cells.eqv : ∀ {i : Nat} {ds es : List PyData}, Cells i ds → Cells i es → (PyData.eqvAll ds es = true ↔ ds = es)
  | _, [], [], _, _ => by simp [PyData.eqvAll]
  | _, [], _ :: _, _, _ => by simp [PyData.eqvAll]
  | _, _ :: _, [], _, _ => by simp [PyData.eqvAll]
  | i, d :: ds, e :: es, h, k => by
    rw [PyData.eqvAll, Bool.and_eq_true, Cell.eqv h.1 k.1, Cells.eqv h.2 k.2, List.cons.injEq]
theorem Cont.eqv {d e : PyData} (h : Cont d) (k : Cont e) : PyData.eqv d e = true ↔ d = e := by
  rcases h with ⟨a, b, cs, hc, rfl⟩ | ⟨n, rfl⟩ | ⟨a, b, f, c, rfl⟩ <;> rcases k with ⟨a', b', cs', hc', rfl⟩ | ⟨n', rfl⟩ | ⟨a', b', f', c', rfl⟩
  · simp only [PyData.eqv, PyData.eqvAll, Bool.and_eq_true, Cells.eqv hc hc']
    simp
  all_goals simp [PyData.eqv, PyData.eqvAll]
theorem Cell.lay : ∀ {i : Nat} {d : PyData}, Cell i d → d.canLay0 = true ∧ d.depth ≤ 1
  | 0, d, h => by
    rcases h with rfl | ⟨n, rfl⟩ <;> simp [PyData.canLay0, PyData.depth]
  | 1, d, h => by
    rcases h with rfl | ⟨n, hn, rfl⟩
    · simp [PyData.canLay0, PyData.depth]
    · have := hn.ok
      simp [PyData.canLay0, PyData.depth]
      exact this
  | 2, d, h => by
    rcases h with rfl | ⟨n, rfl⟩ <;> simp [PyData.canLay0, PyData.depth]
  | 3, d, h => by
    rcases h with rfl | ⟨n, m, rfl⟩
    · simp [PyData.canLay0, PyData.depth]
    · simp [PyData.canLay0, PyData.canLayAll0, PyData.depth, PyData.depthAll]
      decide +kernel
  | _ + 4, d, h => h.elim
theorem Cells.lay : ∀ {i : Nat} {ds : List PyData}, Cells i ds → PyData.canLayAll0 ds = true ∧ PyData.depthAll ds ≤ 1
  | _, [], _ => by simp [PyData.canLayAll0, PyData.depthAll]
  | i, d :: ds, h => by
    obtain ⟨a1, a2⟩ := Cell.lay h.1
    obtain ⟨b1, b2⟩ := Cells.lay h.2
    rw [PyData.canLayAll0, PyData.depthAll, a1, b1]
    exact ⟨rfl, Nat.max_le.mpr ⟨a2, b2⟩⟩
theorem Cont.lay {d : PyData} (h : Cont d) : d.canLay0 = true ∧ d.depth ≤ 3 := by
  rcases h with ⟨a, b, cs, hc, rfl⟩ | ⟨n, rfl⟩ | ⟨a, b, f, c, rfl⟩
  · obtain ⟨b1, b2⟩ := Cells.lay hc
    simp only [PyData.canLay0, PyData.canLayAll0, PyData.depth, PyData.depthAll, b1]
    refine ⟨by decide +kernel, ?_⟩
    omega
  · simp [PyData.canLay0, PyData.canLayAll0, PyData.depth, PyData.depthAll]; decide +kernel
  · simp [PyData.canLay0, PyData.canLayAll0, PyData.depth, PyData.depthAll]; decide +kernel
/-- what a slot holds, None where it holds nothing -/
def oD (x : Option PyData) : PyData := x.getD .none
def OCt (x : Option PyData) : Prop := ∀ d, x = some d → Cont d
theorem Cont.ne_none {d : PyData} (h : Cont d) : d ≠ .none := by
  rcases h with ⟨a, b, cs, hc, rfl⟩ | ⟨n, rfl⟩ | ⟨a, b, f, c, rfl⟩ <;> exact fun z => nomatch z
theorem OCt.eqv {x y : Option PyData} (h : OCt x) (k : OCt y) : PyData.eqv (oD x) (oD y) = true ↔ x = y := by
  cases x with
  | none => cases y with
    | none => simp [oD, PyData.eqv]
    | some e =>
      have := k e rfl
      rcases this with ⟨a, b, cs, hc, rfl⟩ | ⟨n, rfl⟩ | ⟨a, b, f, c, rfl⟩ <;> simp [oD, PyData.eqv]
  | some d => cases y with
    | none =>
      have := h d rfl
      rcases this with ⟨a, b, cs, hc, rfl⟩ | ⟨n, rfl⟩ | ⟨a, b, f, c, rfl⟩ <;> simp [oD, PyData.eqv]
    | some e =>
      show PyData.eqv d e = true ↔ _
      rw [Cont.eqv (h d rfl) (k e rfl), Option.some.injEq]
theorem OCt.shaped {x : Option PyData} (h : OCt x) : SeqAt.shaped (oD x) = true := by
  unfold SeqAt.shaped
  cases x with
  | none => simp [oD, PyData.canLay0, PyData.depth]
  | some d =>
    obtain ⟨a, b⟩ := (h d rfl).lay
    show (d.canLay0 && decide (d.depth ≤ 64)) = true
    rw [a, decide_eq_true (by omega)]; rfl
theorem OCt.depth {x : Option PyData} (h : OCt x) : (oD x).depth ≤ 3 := by
  cases x with
  | none => simp [oD, PyData.depth]
  | some d => exact (h d rfl).lay.2
theorem OCt.non {x : Option PyData} (h : OCt x) {H : Hp} {v : V} (i : Im H v (oD x)) : v = .non ↔ x = none := by
  cases x with
  | none => cases i; simp
  | some d =>
    refine ⟨fun z => ?_, fun z => nomatch z⟩
    subst z
    have := (h d rfl).ne_none
    change Im H .non d at i
    cases i
    exact absurd rfl this
theorem OCt.inj {x y : Option PyData} (h : OCt x) (k : OCt y) (e : oD x = oD y) : x = y := by
  cases x with
  | none => cases y with
    | none => rfl
    | some e' => exact absurd e.symm (k e' rfl).ne_none
  | some d => cases y with
    | none => exact absurd e (h d rfl).ne_none
    | some e' => exact congrArg some e
/-! ### differences -/
open Classical in
noncomputable def btw (x y : Option PyData) : Option PyData := if x = y then none else some (.tuple [oD x, oD y])
theorem btw_eq {x y : Option PyData} (h : x = y) : btw x y = none := if_pos h
theorem btw_ne {x y : Option PyData} (h : x ≠ y) : btw x y = some (.tuple [oD x, oD y]) := if_neg h
theorem btw_none {x y : Option PyData} (h : btw x y = none) : x = y := Classical.byContradiction fun z => by rw [btw_ne z] at h; cases h
theorem btw_some {x y : Option PyData} {d : PyData} (h : btw x y = some d) : x ≠ y ∧ d = .tuple [oD x, oD y] := by
  by_cases z : x = y
  · rw [btw_eq z] at h; cases h
  · rw [btw_ne z] at h; exact ⟨z, (Option.some.inj h).symm⟩
noncomputable def btwF (f g : Fd) : Fd := fun s => btw (f s) (g s)
def Stt (f : Fd) : Prop := ∀ s, OCt (f s)
theorem btw_depth {x y : Option PyData} {d : PyData} (h : OCt x) (k : OCt y) (e : btw x y = some d) : d.depth ≤ 4 := by
  obtain ⟨_, rfl⟩ := btw_some e
  have a := h.depth
  have b := k.depth
  simp only [PyData.depth, PyData.depthAll]
  omega
theorem stt_none : Stt fun _ => none := fun _ _ h => nomatch h
theorem stt_put {f : Fd} {s : Slot} {d : PyData} (h : Stt f) (c : Cont d) : Stt (putF f s d) := fun t e q => by
  unfold putF at q
  by_cases z : t = s
  · rw [if_pos z] at q; cases q; exact c
  · rw [if_neg z] at q; exact h t e q
/-- what of F is worked out for the slots of l -/
def resF (l : List Slot) (F : Fd) : Fd := fun s => if s ∈ l then F s else none
theorem resF_nil {F : Fd} : resF [] F = fun _ => none := by funext s; exact if_neg (fun z => nomatch z)
theorem resF_put {l : List Slot} {F : Fd} {s : Slot} {d : PyData} (h : F s = some d) : putF (resF l F) s d = resF (l ++ [s]) F := by
  funext t
  unfold putF resF
  by_cases e : t = s
  · subst e
    rw [if_pos rfl, if_pos (List.mem_append.mpr (.inr (List.mem_singleton.mpr rfl))), h]
  · rw [if_neg e]
    by_cases m : t ∈ l
    · rw [if_pos m, if_pos (List.mem_append.mpr (.inl m))]
    · rw [if_neg m, if_neg (fun z => (List.mem_append.mp z).elim m fun q => e (List.mem_singleton.mp q))]
theorem resF_skip {l : List Slot} {F : Fd} {s : Slot} (h : F s = none) : resF (l ++ [s]) F = resF l F := by
  funext t
  unfold resF
  by_cases e : t = s
  · subst e
    rw [h, ite_self, ite_self]
  · by_cases m : t ∈ l
    · rw [if_pos m, if_pos (List.mem_append.mpr (.inl m))]
    · rw [if_neg m, if_neg (fun z => (List.mem_append.mp z).elim m fun q => e (List.mem_singleton.mp q))]
theorem resF_all {l : List Slot} {F : Fd} (h : ∀ s, s ∉ l → F s = none) : resF l F = F := by
  funext s
  unfold resF
  by_cases m : s ∈ l
  · rw [if_pos m]
  · rw [if_neg m, h s m]
theorem take_snoc {α : Type} {l : List α} {i : Nat} {x : α} (h : l[i]? = some x) : l.take (i + 1) = l.take i ++ [x] := by rw [List.take_add_one, h]; rfl
theorem room65 {k : Nat} {A : Around} (r : Room k A) : A.units + 65 < cLine := by have := r.un; omega
end Zk

set_option Elab.async false
set_option linter.all false
set_option maxRecDepth 100000
set_option maxHeartbeats 4000000
namespace Zk
open PySem PySem.Spec L2
open PyProof.Rows hiding St

/-! ### min of a list of slots -/
theorem slots_dp' {K : PySem.W.Frag} {H : Hp} {as : List Addr} {ss : List Slot} (h : SlotsAt H as ss) : DpAll K H (as.map V.ref) (ss.map sD) := by
  unfold SlotsAt at h
  induction h with
  | nil => exact .nil
  | cons h t ih => exact .cons (im_slot h).dp ih
theorem sD_inj {s t : Slot} (h : sD s = sD t) : s = t := by
  obtain ⟨a, b, c⟩ := s
  obtain ⟨a', b', c'⟩ := t
  simp [sD] at h
  obtain ⟨h1, h2, h3⟩ := h
  subst h1 h2 h3
  rfl
theorem sD_alike (s t : Slot) : PySem.W.alike (sD s) (sD t) = true := by simp [sD, PySem.W.alike, PySem.W.alikeAll]
theorem sD_lt (s t : Slot) : PySem.W.dataLt (sD s) (sD t) = sLt s t := by
  unfold sD
  rw [PySem.W.dataLt_tuple, PySem.W.dataLt_cons (by simp [PySem.W.alike]), PySem.W.dataLt_cons (by simp [PySem.W.alike]), PySem.W.dataLt_cons (by simp [PySem.W.alike])]
  rw [PySem.W.dataLt_str, PySem.W.dataLt_int, PySem.W.dataLt_int]
  have e1 : (PyData.eqv (.str s.1) (.str t.1) = true) ↔ s.1 = t.1 := by simp [PyData.eqv]
  have e2 : (PyData.eqv (.int s.2.1) (.int t.2.1) = true) ↔ s.2.1 = t.2.1 := by simp [PyData.eqv]
  have e3 : (PyData.eqv (.int s.2.2) (.int t.2.2) = true) ↔ s.2.2 = t.2.2 := by simp [PyData.eqv]
  unfold sLt
  by_cases h1 : s.1 = t.1
  · rw [if_pos (e1.mpr h1), if_pos h1]
    by_cases h2 : s.2.1 = t.2.1
    · rw [if_pos (e2.mpr h2), if_pos h2]
      by_cases h3 : s.2.2 = t.2.2
      · rw [if_pos (e3.mpr h3), h3, decide_eq_false (Int.lt_irrefl _)]
        rfl
      · rw [if_neg (fun z => h3 (e3.mp z))]
    · rw [if_neg (fun z => h2 (e2.mp z)), if_neg h2]
  · rw [if_neg (fun z => h1 (e1.mp z)), if_neg h1]
theorem minD_slots : ∀ (ss : List Slot) (s : Slot), ∃ m, m ∈ s :: ss ∧ PySem.W.minD (sD s) (ss.map sD) = sD m ∧ ∀ t ∈ s :: ss, sLt t m = false
  | [], s => ⟨s, List.mem_cons_self, rfl, fun t ht => by
      rw [List.mem_singleton.mp ht]
      exact sLt_no.mpr fun z => z.irr⟩
  | x :: ss, s => by
    have step : PySem.W.minD (sD s) ((x :: ss).map sD) = PySem.W.minD (sD (if sLt x s = true then x else s)) (ss.map sD) := by
      unfold PySem.W.minD
      rw [List.map_cons, List.foldl_cons, sD_lt]
      by_cases h : sLt x s = true
      · rw [if_pos h, if_pos h]
      · rw [if_neg h, if_neg h]
    rw [step]
    by_cases h : sLt x s = true
    · rw [if_pos h]
      obtain ⟨m, hm, e, hl⟩ := minD_slots ss x
      refine ⟨m, List.mem_cons_of_mem _ hm, e, fun t ht => ?_⟩
      rcases List.mem_cons.mp ht with rfl | ht
      · refine sLt_no.mpr fun z => ?_
        have a := sLt_no.mp (hl x List.mem_cons_self)
        exact a (SLt.trans (sLt_iff.mp h) z)
      · exact hl t ht
    · rw [if_neg h]
      obtain ⟨m, hm, e, hl⟩ := minD_slots ss s
      refine ⟨m, ?_, e, fun t ht => ?_⟩
      · rcases List.mem_cons.mp hm with rfl | hm
        · exact List.mem_cons_self
        · exact List.mem_cons_of_mem _ (List.mem_cons_of_mem _ hm)
      · rcases List.mem_cons.mp ht with rfl | ht
        · exact hl t List.mem_cons_self
        · rcases List.mem_cons.mp ht with rfl | ht
          · have a := sLt_no.mp (hl s List.mem_cons_self)
            have b : ¬ SLt t s := fun z => h (sLt_iff.mpr z)
            refine sLt_no.mpr fun z => ?_
            rcases SLt.tri s m with c | c | c
            · exact a c
            · rw [← c] at z; exact b z
            · exact b (SLt.trans z c)
          · exact hl t (List.mem_cons_of_mem _ ht)
def cMinSl (K : PySem.W.Frag) : RC := fun vs H Q => ∃ (a : Addr) (as : List Addr) (ss : List Slot), vs = [V.ref a] ∧ SqL K H a (as.map V.ref) ∧ SlotsAt H as ss ∧ 0 < ss.length ∧
  ∀ (b : Addr) (m : Slot), H b = some (.tup (sVs m)) → m ∈ ss → (∀ s ∈ ss, sLt s m = false) → Q (.ref b) H
theorem zc_minSl {X : Cx} (hc : X.calm = true) (hu : X.A.units + 64 < cLine) : CallR X (.builtin "min") (cMinSl X.K) := by
  intro pins s σ H vs us Q I r h
  obtain ⟨a, as, ss, rfl, hs, hx, hp, q⟩ := h
  obtain ⟨its, rv, hl, hz⟩ := I.list hs
  obtain ⟨u, rfl, ru⟩ := vals1 r
  obtain rfl : u = Value.ref a := ru
  obtain ⟨ads, hr⟩ := Dp.readsAll I (ss.map sD) (as.map V.ref) its (slots_dp' hx) rv
  cases ss with
  | nil => exact absurd hp (Nat.lt_irrefl 0)
  | cons s0 rest =>
    have dp : PyData.depthAll ((s0 :: rest).map sD) ≤ 1 := by
      have : ∀ l : List Slot, PyData.depthAll (l.map sD) ≤ 1 := by
        intro l
        induction l with
        | nil => simp [PyData.depthAll]
        | cons x l ih => rw [List.map_cons, PyData.depthAll, sD_depth]; exact Nat.max_le.mpr ⟨Nat.le_refl _, ih⟩
      exact this _
    refine PySem.W.min_list_data (x := sD s0) (xs := rest.map sD) (I.ok.hd hc) hl.isList hr ⟨?_, ?_⟩ (by have := dp; rw [List.map_cons] at this; omega) fun i v h' tk bs hv hv2 kp => ?_
    · intro x hx y hy
      rw [← List.map_cons] at hx hy
      obtain ⟨s, _, rfl⟩ := List.mem_map.mp hx
      obtain ⟨t, _, rfl⟩ := List.mem_map.mp hy
      exact sD_alike s t
    · intro x hx
      rw [← List.map_cons] at hx
      obtain ⟨s, _, rfl⟩ := List.mem_map.mp hx
      exact fun z => nomatch z
    · obtain ⟨m, hm, e, hl⟩ := minD_slots rest s0
      rw [e] at hv2
      have hv' : its[i]? = some v := by simpa using hv
      have li : i < as.length := by
        obtain ⟨l, _⟩ := List.getElem?_eq_some_iff.mp hv'
        have := rv.length
        rw [List.length_map] at this
        omega
      have ha : as[i]? = some as[i] := List.getElem?_eq_getElem li
      obtain ⟨t, ht, hb⟩ := paired_at hx ha
      obtain ⟨u, hu2, ru2⟩ := rv.get (x := V.ref as[i]) (by rw [List.getElem?_map, ha]; rfl)
      rw [hv'] at hu2
      cases hu2
      obtain rfl : v = Value.ref as[i] := ru2
      obtain ⟨bs2, r2⟩ := Dp.reads I (sD t) (.ref as[i]) (.ref as[i]) (im_slot hb).dp rfl
      have em := sD_inj (PySem.W.alike_unique _ _ _ _ _ (sD_alike m t) hv2 (PySem.W.reads_keeps kp r2))
      subst em
      exact ⟨.ref as[i], H, I.kept kp, rfl, q _ _ hb hm hl⟩
end Zk

set_option Elab.async false
set_option linter.all false
set_option maxRecDepth 100000
set_option maxHeartbeats 4000000
namespace Zk
open PySem PySem.Spec L2
open PyProof.Rows hiding St

/-! ### values and kinds -/
inductive Val where
  | fl (b : Bool)
  | nm (n : Int)
  | tx (z : Str)
inductive Kd where
  | F
  | I
  | T
def kS : Kd → Str
  | .F => Str.ofString "flag"
  | .I => Str.ofString "int"
  | .T => Str.ofString "text"
def vV : Val → V
  | .fl b => .bl b
  | .nm n => .int n
  | .tx z => .str z
def vD : Val → PyData
  | .fl b => .bool b
  | .nm n => .int n
  | .tx z => .str z
theorem vV_inj : ∀ {a b : Val}, vV a = vV b → a = b
  | .fl a, .fl b, h => by injection h with h; rw [h]
  | .nm a, .nm b, h => by injection h with h; rw [h]
  | .tx a, .tx b, h => by injection h with h; rw [h]
  | .fl _, .nm _, h => nomatch h
  | .fl _, .tx _, h => nomatch h
  | .nm _, .fl _, h => nomatch h
  | .nm _, .tx _, h => nomatch h
  | .tx _, .fl _, h => nomatch h
  | .tx _, .nm _, h => nomatch h
theorem im_val {H : Hp} : ∀ v : Val, Im H (vV v) (vD v)
  | .fl b => .bl b
  | .nm n => .int n
  | .tx z => .str z
def alph : Str := Str.ofString " !\"#$&'()*+,-./0123456789:;<=>?@ABCDEFGHIJKLMNOPQRSTUVWXYZ[\\]^_`abcdefghijklmnopqrstuvwxyz{|}~"
/-- its signs are of the alphabet -/
def Al (l : List Nat) : Prop := ∀ c ∈ l, c ∈ alph.cps.toList
/-- the values of a kind -/
def VOk : Kd → Val → Prop
  | .F, .fl _ => True
  | .I, .nm n => -1000000000 ≤ n ∧ n ≤ 1000000000
  | .T, .tx z => z.length ≤ 20 ∧ Al z.cps.toList
  | _, _ => False
theorem vok_scal : ∀ {k : Kd} {a b : Val}, VOk k a → VOk k b → scal (vV a) (vV b) = true
  | .F, .fl _, .fl _, _, _ => rfl
  | .I, .nm _, .nm _, _, _ => rfl
  | .T, .tx _, .tx _, _, _ => rfl
  | .F, .nm _, _, h, _ => h.elim
  | .F, .tx _, _, h, _ => h.elim
  | .I, .fl _, _, h, _ => h.elim
  | .I, .tx _, _, h, _ => h.elim
  | .T, .fl _, _, h, _ => h.elim
  | .T, .nm _, _, h, _ => h.elim
  | .F, .fl _, .nm _, _, h => h.elim
  | .F, .fl _, .tx _, _, h => h.elim
  | .I, .nm _, .fl _, _, h => h.elim
  | .I, .nm _, .tx _, _, h => h.elim
  | .T, .tx _, .fl _, _, h => h.elim
  | .T, .tx _, .nm _, _, h => h.elim
theorem vok_I {v : Val} (h : VOk .I v) : ∃ n, v = .nm n ∧ -1000000000 ≤ n ∧ n ≤ 1000000000 := by
  cases v with
  | nm n => exact ⟨n, rfl, h⟩
  | fl _ => exact h.elim
  | tx _ => exact h.elim
theorem vok_T {v : Val} (h : VOk .T v) : ∃ z, v = .tx z ∧ z.length ≤ 20 ∧ Al z.cps.toList := by
  cases v with
  | tx z => exact ⟨z, rfl, h⟩
  | fl _ => exact h.elim
  | nm _ => exact h.elim
/-! ### conversions -/
inductive Cv where
  | aff (a b : Int)
  | una (a b : Int)
  | pre (p : Str)
  | unp (p : Str)
  | rcd (k l : Kd) (ps : List (Val × Val))
def prD3 (p : Val × Val) : PyData := .tuple [vD p.1, vD p.2]
def cD : Cv → PyData
  | .aff a b => .tuple [.str (Str.ofString "affine"), .int a, .int b]
  | .una a b => .tuple [.str (Str.ofString "unaffine"), .int a, .int b]
  | .pre p => .tuple [.str (Str.ofString "prefix"), .str p]
  | .unp p => .tuple [.str (Str.ofString "unprefix"), .str p]
  | .rcd k l ps => .tuple [.str (Str.ofString "recode"), .str (kS k), .str (kS l), .tuple (ps.map prD3)]
def k1 : Cv → Kd
  | .aff _ _ => .I
  | .una _ _ => .I
  | .pre _ => .T
  | .unp _ => .T
  | .rcd k _ _ => k
def k2 : Cv → Kd
  | .aff _ _ => .I
  | .una _ _ => .I
  | .pre _ => .T
  | .unp _ => .T
  | .rcd _ l _ => l
def COk : Cv → Prop
  | .aff a b => a ≠ 0 ∧ -1000 ≤ a ∧ a ≤ 1000 ∧ -1000000 ≤ b ∧ b ≤ 1000000
  | .una a b => a ≠ 0 ∧ -1000 ≤ a ∧ a ≤ 1000 ∧ -1000000 ≤ b ∧ b ≤ 1000000
  | .pre p => 1 ≤ p.length ∧ p.length ≤ 6 ∧ Al p.cps.toList
  | .unp p => 1 ≤ p.length ∧ p.length ≤ 6 ∧ Al p.cps.toList
  | .rcd k l ps => ps.length ≤ 8 ∧ (∀ p ∈ ps, VOk k p.1 ∧ VOk l p.2) ∧ (ps.map (·.1)).Nodup ∧ (ps.map (·.2)).Nodup
def cI : Cv → Cv
  | .aff a b => .una a b
  | .una a b => .aff a b
  | .pre p => .unp p
  | .unp p => .pre p
  | .rcd k l ps => .rcd l k (ps.map fun p => (p.2, p.1))
theorem cI_ok : ∀ {c : Cv}, COk c → COk (cI c)
  | .aff _ _, h => h
  | .una _ _, h => h
  | .pre _, h => h
  | .unp _, h => h
  | .rcd k l ps, ⟨h1, h2, h3, h4⟩ => by
    refine ⟨by rw [List.length_map]; exact h1, fun p m => ?_, ?_, ?_⟩
    · obtain ⟨q, hq, rfl⟩ := List.mem_map.mp m
      exact ⟨(h2 q hq).2, (h2 q hq).1⟩
    · rw [List.map_map]; exact h4
    · rw [List.map_map]; exact h3
theorem cI_k1 : ∀ c : Cv, k1 (cI c) = k2 c
  | .aff _ _ => rfl
  | .una _ _ => rfl
  | .pre _ => rfl
  | .unp _ => rfl
  | .rcd _ _ _ => rfl
theorem cI_k2 : ∀ c : Cv, k2 (cI c) = k1 c
  | .aff _ _ => rfl
  | .una _ _ => rfl
  | .pre _ => rfl
  | .unp _ => rfl
  | .rcd _ _ _ => rfl
open Classical in
noncomputable def look : List (Val × Val) → Val → Option Val
  | [], _ => none
  | p :: ps, v => if p.1 = v then some p.2 else look ps v
def rng (n : Int) : Option Val := if -1000000000 ≤ n ∧ n ≤ 1000000000 then some (.nm n) else none
/-- z begins with p -/
def beg (z p : Str) : Bool := decide (z.cps.toList.take p.length = p.cps.toList)
def cut (z : Str) (n : Nat) : Str := ⟨(z.cps.toList.drop n).toArray⟩
def aB (a : Int) : Int := if a < 0 then -a else a
noncomputable def cvt : Cv → Val → Option Val
  | .aff a b, .nm n => rng (a * n + b)
  | .una a b, .nm n => if (n - b) % aB a = 0 then rng ((n - b).fdiv a) else none
  | .pre p, .tx z => if (p ++ z).length ≤ 20 then some (.tx (p ++ z)) else none
  | .unp p, .tx z => if beg z p = true then some (.tx (cut z p.length)) else none
  | .rcd _ _ ps, v => look ps v
  | _, _ => none
theorem rng_ok {n : Int} {r : Val} (h : rng n = some r) : r = .nm n ∧ -1000000000 ≤ n ∧ n ≤ 1000000000 := by
  unfold rng at h
  split at h
  · rename_i c; exact ⟨(Option.some.inj h).symm, c⟩
  · cases h
theorem look_mem : ∀ {ps : List (Val × Val)} {v r : Val}, look ps v = some r → (v, r) ∈ ps
  | p :: ps, v, r, h => by
    unfold look at h
    by_cases e : p.1 = v
    · rw [if_pos e] at h
      cases h
      rw [← e]
      exact List.mem_cons_self
    · rw [if_neg e] at h
      exact List.mem_cons_of_mem _ (look_mem h)
theorem look_at : ∀ {ps : List (Val × Val)} {v r : Val}, (ps.map (·.1)).Nodup → (v, r) ∈ ps → look ps v = some r
  | p :: ps, v, r, nd, m => by
    unfold look
    rw [List.map_cons, List.nodup_cons] at nd
    rcases List.mem_cons.mp m with m | m
    · rw [← m, if_pos rfl]
    · rw [if_neg (fun e => nd.1 (List.mem_map.mpr ⟨_, m, e.symm⟩))]
      exact look_at nd.2 m
theorem app_tl (a b : Str) : (a ++ b).cps.toList = a.cps.toList ++ b.cps.toList := by
  show (a.cps ++ b.cps).toList = _
  simp
theorem len_tl (a : Str) : a.cps.toList.length = a.length := by
  show a.cps.toList.length = a.cps.size
  rw [Array.length_toList]
theorem str_tl {a b : Str} (h : a.cps.toList = b.cps.toList) : a = b := by
  cases a; cases b
  simp only [Str.mk.injEq]
  exact Array.toList_inj.mp h
theorem beg_app (p z : Str) : beg (p ++ z) p = true := by
  unfold beg
  rw [app_tl, ← len_tl p, List.take_left, decide_eq_true rfl]
theorem cut_app (p z : Str) : cut (p ++ z) p.length = z := by
  refine str_tl ?_
  show ((p ++ z).cps.toList.drop p.length) = _
  rw [app_tl, ← len_tl p, List.drop_left]
theorem beg_cut {z p : Str} (h : beg z p = true) : p ++ cut z p.length = z := by
  refine str_tl ?_
  rw [app_tl, ← of_decide_eq_true h]
  exact List.take_append_drop _ _
theorem cvt_ok {c : Cv} {v r : Val} (hc : COk c) (hv : VOk (k1 c) v) (h : cvt c v = some r) : VOk (k2 c) r := by
  cases c with
  | aff a b =>
    obtain ⟨n, rfl, _⟩ := vok_I hv
    obtain ⟨rfl, x⟩ := rng_ok h
    exact x
  | una a b =>
    obtain ⟨n, rfl, _⟩ := vok_I hv
    change (if _ then _ else _) = _ at h
    split at h
    · obtain ⟨rfl, x⟩ := rng_ok h
      exact x
    · cases h
  | pre p =>
    obtain ⟨z, rfl, l, al⟩ := vok_T hv
    change (if _ then _ else _) = _ at h
    split at h
    · rename_i lz
      cases h
      exact ⟨lz, fun x m => by rw [app_tl, List.mem_append] at m; exact m.elim (hc.2.2 x) (al x)⟩
    · cases h
  | unp p =>
    obtain ⟨z, rfl, l, al⟩ := vok_T hv
    change (if _ then _ else _) = _ at h
    split at h
    · cases h
      refine ⟨?_, fun x m => al x (List.mem_of_mem_drop m)⟩
      rw [← len_tl]
      show (z.cps.toList.drop p.length).length ≤ 20
      rw [List.length_drop, len_tl]; omega
    · cases h
  | rcd k l ps => exact (hc.2.1 _ (look_mem h)).2
theorem abs_mod {a n : Int} (h : n % aB a = 0) : ∃ q, n = a * q := by
  unfold aB at h
  split at h
  · obtain ⟨q, e⟩ := Int.dvd_of_emod_eq_zero h
    exact ⟨-q, by rw [e, Int.neg_mul, Int.mul_neg]⟩
  · obtain ⟨q, e⟩ := Int.dvd_of_emod_eq_zero h
    exact ⟨q, e⟩
theorem mul_mod (a q : Int) : (a * q) % aB a = 0 := by
  unfold aB
  split
  · rw [show a * q = -a * (-q) by rw [Int.neg_mul_neg]]; exact Int.mul_emod_right _ _
  · exact Int.mul_emod_right _ _
theorem cvt_back {c : Cv} {v r : Val} (hc : COk c) (hv : VOk (k1 c) v) (h : cvt c v = some r) : cvt (cI c) r = some v := by
  cases c with
  | aff a b =>
    obtain ⟨n, rfl, n0, n1⟩ := vok_I hv
    obtain ⟨rfl, x⟩ := rng_ok h
    show (if (a * n + b - b) % _ = 0 then rng ((a * n + b - b).fdiv a) else none) = _
    rw [Int.add_sub_cancel, if_pos (mul_mod a n), Int.mul_fdiv_cancel_left _ hc.1]
    exact if_pos ⟨n0, n1⟩
  | una a b =>
    obtain ⟨n, rfl, n0, n1⟩ := vok_I hv
    change (if _ then _ else _) = _ at h
    split at h
    · rename_i d
      obtain ⟨rfl, x⟩ := rng_ok h
      obtain ⟨q, e⟩ := abs_mod d
      show rng (a * (n - b).fdiv a + b) = _
      rw [e, Int.mul_fdiv_cancel_left _ hc.1, ← e, Int.sub_add_cancel]
      exact if_pos ⟨n0, n1⟩
    · cases h
  | pre p =>
    obtain ⟨z, rfl, l, al⟩ := vok_T hv
    change (if _ then _ else _) = _ at h
    split at h
    · cases h
      show (if beg (p ++ z) p = true then some (Val.tx (cut (p ++ z) p.length)) else none) = _
      rw [if_pos (beg_app p z), cut_app]
    · cases h
  | unp p =>
    obtain ⟨z, rfl, l, al⟩ := vok_T hv
    change (if _ then _ else _) = _ at h
    split at h
    · rename_i b
      cases h
      show (if (p ++ cut z p.length).length ≤ 20 then some (Val.tx (p ++ cut z p.length)) else none) = _
      rw [beg_cut b, if_pos l]
    · cases h
  | rcd k l ps =>
    refine look_at ?_ ?_
    · rw [List.map_map]; exact hc.2.2.2
    · exact List.mem_map.mpr ⟨_, look_mem h, rfl⟩
/-! ### lists of conversions -/
noncomputable def thr : List Cv → Val → Option Val
  | [], v => some v
  | c :: cs, v => (cvt c v).bind (thr cs)
def Chn : Kd → List Cv → Kd → Prop
  | k, [], l => k = l
  | k, c :: cs, l => COk c ∧ k1 c = k ∧ Chn (k2 c) cs l
theorem thr_app : ∀ (cs ds : List Cv) (v : Val), thr (cs ++ ds) v = (thr cs v).bind (thr ds)
  | [], _, _ => rfl
  | c :: cs, ds, v => by
    show (cvt c v).bind (thr (cs ++ ds)) = ((cvt c v).bind (thr cs)).bind (thr ds)
    cases cvt c v with
    | none => rfl
    | some r => exact thr_app cs ds r
theorem chn_app : ∀ {cs ds : List Cv} {k l m : Kd}, Chn k cs l → Chn l ds m → Chn k (cs ++ ds) m
  | [], _, _, _, _, h, g => by cases h; exact g
  | _ :: _, _, _, _, _, h, g => ⟨h.1, h.2.1, chn_app h.2.2 g⟩
theorem chn_back : ∀ {cs : List Cv} {k l : Kd}, Chn k cs l → Chn l (cs.reverse.map cI) k
  | [], _, _, h => h.symm
  | c :: cs, k, l, h => by
    rw [List.reverse_cons, List.map_append]
    refine chn_app (chn_back h.2.2) ⟨cI_ok h.1, cI_k1 c, ?_⟩
    exact (cI_k2 c).trans h.2.1
theorem thr_ok : ∀ {cs : List Cv} {k l : Kd} {v r : Val}, Chn k cs l → VOk k v → thr cs v = some r → VOk l r
  | [], _, _, _, _, h, hv, e => by cases h; cases e; exact hv
  | c :: cs, k, l, v, r, h, hv, e => by
    change (cvt c v).bind (thr cs) = some r at e
    have hv' : VOk (k1 c) v := h.2.1 ▸ hv
    cases q : cvt c v with
    | none => rw [q] at e; cases e
    | some u =>
      rw [q] at e
      exact thr_ok h.2.2 (cvt_ok h.1 hv' q) e
theorem thr_back : ∀ {cs : List Cv} {k l : Kd} {v r : Val}, Chn k cs l → VOk k v → thr cs v = some r → thr (cs.reverse.map cI) r = some v
  | [], _, _, _, _, h, hv, e => by cases h; cases e; rfl
  | c :: cs, k, l, v, r, h, hv, e => by
    change (cvt c v).bind (thr cs) = some r at e
    have hv' : VOk (k1 c) v := h.2.1 ▸ hv
    cases q : cvt c v with
    | none => rw [q] at e; cases e
    | some u =>
      rw [q] at e
      rw [List.reverse_cons, List.map_append, thr_app, thr_back h.2.2 (cvt_ok h.1 hv' q) e]
      show (cvt (cI c) u).bind (thr []) = _
      rw [cvt_back h.1 hv' q]
      rfl
end Zk

set_option Elab.async false
set_option linter.all false
set_option maxRecDepth 100000
set_option maxHeartbeats 4000000
namespace Zk
open PySem PySem.Spec L2
open PyProof.Rows hiding St

def rStarts : V → List V → Hp → VK → Prop := fun x xs H Q => ∃ a b, x = .str a ∧ xs = [.str b] ∧ Q (.bl (Txt.startswith a b)) H
def cAbs : RC := fun xs H Q => ∃ i, xs = [.int i] ∧ Q (.int (if i < 0 then -i else i)) H
def cListL (K : PySem.W.Frag) : RC := fun xs H Q => ∃ p ys, xs = [.ref p] ∧ (SqL K H p ys ∨ SqT K H p ys) ∧ Alc (.lst ys) H Q
section
variable {X : Cx}
theorem zmt_starts : MtR X "str.startswith" rStarts := mt_startswith
theorem zc_abs : CallR X (.builtin "abs") cAbs := call_abs
theorem zc_list : CallR X (.type "list") (cListL X.K) := call_list_of
theorem zop_notInS : OpR X (compareOp .NotIn) rNotInS := op_notInS
theorem pg_tupK {K : PySem.W.Frag} {es : List Expr} {k : Nat} {t : TGs} {n : Nat} {pos : Pos} (e : X.K = K) (hc : X.calm = true) (h : PGs X es t)
    (hn : (assignEach es X.env).length = n := by rfl) (hst : (assignEach es X.env).findIdx? (·.1) = none := by rfl) : PG X (.Tuple es k pos) (gTup K n t) := e ▸ pg_tup hc h hn hst
end
section
variable {K : PySem.W.Frag} {σ : St} {H : Hp} {Q : VK} {a : Addr} {v x y : V} {te ta tb tc : TE} {rt : VK} {nx : St → Hp → Prop} {t : TS} {tt : TT}
theorem w_starts {p z : Str} (q : Q (.bl (Txt.startswith z p)) H) : rStarts (.str z) [.str p] H Q := ⟨z, p, rfl, rfl, q⟩
theorem w_abs {i : Int} (q : Q (.int (aB i)) H) : cAbs [.int i] H Q := ⟨i, rfl, q⟩
theorem w_listL {ys : List V} (h : SqL K H a ys) (q : Alc (.lst ys) H Q) : cListL K [.ref a] H Q := ⟨a, ys, rfl, .inl h, q⟩
theorem w_lenS {z : Str} (h : z.length ≤ sizeLine) (q : Q (.int (z.length : Int)) H) : cLen K [.str z] H Q := ⟨.str z, z.length, rfl, ⟨h, rfl⟩, q⟩
theorem w_slice {r : V → Option Int → Option Int → Hp → VK → Prop} {tl th : TO} (h : te σ H fun x H1 => tl σ H1 fun l H2 => th σ H2 fun u H3 => r x l u H3 Q) : L2.tSl r te tl th σ H Q := h
theorem w_noPart {P : Option Int → Hp → Prop} (q : P none H) : tNoPart σ H P := q
theorem w_slS {z : Str} {lo hi : Option Int} (l : z.length ≤ sizeLine) (q : Q (.str (cutS z lo hi)) H) : rSlS (.str z) lo hi H Q := ⟨z, rfl, l, q⟩
theorem w_chain {r r' : R2} (h : ta σ H fun x H1 => tb σ H1 fun y H2 => r x y H2 fun z H3 => ∃ k, z = .bl k ∧ (if k = true then tc σ H3 fun w' H4 => r' y w' H4 Q else Q (.bl false) H3)) : tChain r r' ta tb tc σ H Q := h
theorem w_notInC {c : Nat} {z : Str} (q : Q (.bl (!decide (c ∈ z.cps.toList))) H) : rNotInS (.str ⟨#[c]⟩) (.str z) H Q := ⟨c, z, rfl, rfl, q⟩
theorem aB_pos {i : Int} (h : i ≠ 0) : 0 < aB i := by unfold aB; split <;> omega
theorem starts_beg (z p : Str) : Txt.startswith z p = beg z p := by
  have e : Txt.startswith z p = (decide (0 + p.length ≤ z.length) && Builtin.Str.subAt z p 0) := rfl
  rw [e, StrLaws.subAt_eq, List.drop_zero]
  unfold beg
  by_cases h : z.cps.toList.take p.length = p.cps.toList
  · have l : p.length ≤ z.length := by
      have := congrArg List.length h
      rw [List.length_take, len_tl, len_tl] at this
      omega
    rw [decide_eq_true h, decide_eq_true (by omega), h]
    simp
  · rw [decide_eq_false h]
    have : (z.cps.toList.take p.length == p.cps.toList) = false := by simpa using h
    rw [this, Bool.and_false]
theorem cutS_tl (z : Str) (lo hi : Option Int) : (cutS z lo hi).cps.toList = (z.cps.toList.drop (HT.sIx z.length 0 lo)).take (HT.sIx z.length z.length hi - HT.sIx z.length 0 lo) := rfl
theorem cutS_from (z : Str) (n : Nat) : cutS z (some (n : Int)) none = cut z n := by
  refine str_tl ?_
  rw [cutS_tl]
  show _ = z.cps.toList.drop n
  rw [HT.sIx_nat, HT.sIx_none, ← len_tl]
  by_cases h : n ≤ z.cps.toList.length
  · rw [Nat.min_eq_left h]
    refine List.take_of_length_le ?_
    rw [List.length_drop]
    exact Nat.le_refl _
  · rw [Nat.min_eq_right (by omega), List.drop_eq_nil_of_le (Nat.le_refl _), List.drop_eq_nil_of_le (by omega), List.take_nil]
theorem cutS_to_eq (z p : Str) : decide (cutS z none (some (p.length : Int)) = p) = beg z p := by
  have e : (cutS z none (some (p.length : Int))).cps.toList = z.cps.toList.take p.length := by
    rw [cutS_tl, HT.sIx_nat, HT.sIx_none, List.drop_zero, Nat.sub_zero, ← len_tl z, List.take_eq_take_iff]
    omega
  unfold beg
  rw [← e]
  by_cases h : cutS z none (some (p.length : Int)) = p
  · rw [decide_eq_true h, decide_eq_true (by rw [h])]
  · rw [decide_eq_false h, decide_eq_false (fun q => h (str_tl q))]
theorem cutS_al {z : Str} {lo hi : Option Int} (h : Al z.cps.toList) : Al (cutS z lo hi).cps.toList := fun c m => by
  rw [cutS_tl] at m
  exact h c (List.mem_of_mem_drop (List.mem_of_mem_take m))
theorem cutS_to_len (z : Str) (n : Int) (h : 0 ≤ n) : (cutS z none (some n)).length ≤ n.toNat := by
  rw [← len_tl, cutS_tl, List.length_take, HT.sIx_none]
  obtain ⟨k, rfl⟩ := Int.eq_ofNat_of_zero_le h
  have : HT.sIx z.length z.length (some (k : Int)) = min k z.length := HT.sIx_nat _ _ _
  rw [this]
  have : ((k : Int)).toNat = k := by omega
  rw [this]
  omega
/-! reversed walks over a list -/
theorem w_iRev {tl : TA} {R : It → Hp → Prop} (h : tl σ H fun vs H1 => ∃ a xs, vs = [V.ref a] ∧ SqL K H1 a xs ∧ R (Itv K a xs.length) H1) : iRev K tl σ H R := h
theorem z_for_rev {xs : List V} {g : TG} (Pv : Nat → St → Hp → Prop) (h0 : Pv 0 σ H) (hl : ∀ i σ H, i ≤ xs.length → Pv i σ H → SqL K H a xs)
    (hs : ∀ (N : St → Hp → Prop) i x σ H, xs.reverse[i]? = some x → Pv i σ H → (∀ σ' H', Pv (i + 1) σ' H' → N σ' H') → g x σ H fun σ2 H2 => t ⟨N, rt, nx, N⟩ σ2 H2) (hd : ∀ σ H, Pv xs.length σ H → nx σ H) :
    ∃ W : Nat → Nat → St → Hp → Prop, (∃ m, W 0 m σ H) ∧ ∀ i m σ H, W i m σ H →
      ((Itv K a xs.length).stop i H ∧ nx σ H) ∨ ((Itv K a xs.length).go i H ∧ ∃ N : St → Hp → Prop, (∀ σ' H', N σ' H' → ∃ m', m' < m ∧ W (i + 1) m' σ' H') ∧ ∀ x H', (Itv K a xs.length).yld i H x H' → g x σ H' fun σ2 H2 => t ⟨N, rt, nx, N⟩ σ2 H2) := by
  refine ⟨fun i m σ H => m = xs.length - i ∧ i ≤ xs.length ∧ Pv i σ H, ⟨_, rfl, Nat.zero_le _, h0⟩, ?_⟩
  rintro i m σ H ⟨rfl, hi, p⟩
  by_cases hlt : i < xs.length
  · have hx : xs[xs.length - 1 - i]? = some xs[xs.length - 1 - i] := List.getElem?_eq_getElem (by omega)
    refine .inr ⟨⟨hlt, xs, _, hl i σ H hi p, hx⟩, Pv (i + 1), fun σ' H' p' => ⟨xs.length - (i + 1), by omega, rfl, hlt, p'⟩, fun x H' y => ?_⟩
    obtain ⟨e, hy⟩ := y
    subst e
    have h1 := hy xs (hl i σ _ hi p)
    exact hs (Pv (i + 1)) i x σ _ (by rw [List.getElem?_reverse hlt]; exact h1) p fun _ _ q => q
  · have e : i = xs.length := by omega
    subst e
    exact .inl ⟨Nat.le_refl _, hd σ H p⟩
theorem z_lc_rev {xs : List V} {g : TG} {vs : List Nat} {D : Addr} {Qd : Hp → Prop} (Pv : Nat → List V → Hp → Prop) (nD : H D = none) (h0 : ∀ H', Ext [] H H' → Pv 0 [] H') (hl : ∀ i acc H, i ≤ xs.length → Pv i acc H → SqL K H a xs)
    (hs : ∀ (Nx : Hp → Prop) i x acc H, xs.reverse[i]? = some x → Pv i acc H → H D = some (.lst acc) → (∀ acc' H', Pv (i + 1) acc' H' → H' D = some (.lst acc') → Nx H') → g x (wipe σ vs) H fun σ2 H2 => wipe σ2 vs = wipe σ vs ∧ tt σ2 H2 fun b H3 =>
      if b = true then te σ2 H3 fun y H4 => ∃ acc, H4 D = some (.lst acc) ∧ acc.length < sizeLine ∧ Nx (upd H4 D (.lst (acc ++ [y]))) else Nx H3) (hd : ∀ acc H, Pv xs.length acc H → H D = some (.lst acc) → Qd H) :
    ∃ W : Nat → Nat → Hp → Prop, (∃ m, W 0 m (upd H D (.lst []))) ∧ ∀ i m H, W i m H →
      ((Itv K a xs.length).stop i H ∧ Qd H) ∨ ((Itv K a xs.length).go i H ∧ ∃ Nx : Hp → Prop, (∀ H', Nx H' → ∃ m', m' < m ∧ W (i + 1) m' H') ∧ ∀ x H', (Itv K a xs.length).yld i H x H' → g x (wipe σ vs) H' fun σ2 H2 => wipe σ2 vs = wipe σ vs ∧ tt σ2 H2 fun b H3 =>
        if b = true then te σ2 H3 fun y H4 => ∃ acc, H4 D = some (.lst acc) ∧ acc.length < sizeLine ∧ Nx (upd H4 D (.lst (acc ++ [y]))) else Nx H3) := by
  refine ⟨fun i m H => m = xs.length - i ∧ i ≤ xs.length ∧ ∃ acc, Pv i acc H ∧ H D = some (.lst acc), ⟨_, rfl, Nat.zero_le _, [], h0 _ (Ext.new nD), upd_same⟩, ?_⟩
  rintro i m H ⟨rfl, hi, acc, p, hD⟩
  by_cases hlt : i < xs.length
  · have hx : xs[xs.length - 1 - i]? = some xs[xs.length - 1 - i] := List.getElem?_eq_getElem (by omega)
    refine .inr ⟨⟨hlt, xs, _, hl i acc H hi p, hx⟩, (fun H => ∃ acc, Pv (i + 1) acc H ∧ H D = some (.lst acc)), fun H' p' => ⟨xs.length - (i + 1), by omega, rfl, hlt, p'⟩, fun x H' y => ?_⟩
    obtain ⟨e, hy⟩ := y
    subst e
    have h1 := hy xs (hl i acc _ hi p)
    exact hs _ i x acc _ (by rw [List.getElem?_reverse hlt]; exact h1) p hD fun acc' H' p' h' => ⟨acc', p', h'⟩
  · have e : i = xs.length := by omega
    subst e
    exact .inl ⟨Nat.le_refl _, hd acc H p hD⟩
/-! what is told the same: data of one form, lists of such -/
def Sl : Nat → Hp → V → V → Prop
  | 0, _, _, _ => False
  | n + 1, H, a, b => (∃ d, d.depth ≤ n ∧ Im H a d ∧ Im H b d) ∨ (∃ p q xs ys, a = .ref p ∧ b = .ref q ∧ H p = some (.lst xs) ∧ H q = some (.lst ys) ∧ xs.length ≤ 1000 ∧ Paired (Sl n H) xs ys)
theorem dAll_mem {d : PyData} : ∀ {ds : List PyData}, d ∈ ds → d.depth ≤ PyData.depthAll ds
  | x :: xs, h => by
    rw [PyData.depthAll]
    rcases List.mem_cons.mp h with h | h
    · rw [h]; exact Nat.le_max_left _ _
    · exact Nat.le_trans (dAll_mem h) (Nat.le_max_right _ _)
theorem d_tup (ds : List PyData) : (PyData.tuple ds).depth = PyData.depthAll ds + 1 := by rw [PyData.depth]
theorem Sl.im {n : Nat} {H : Hp} {a b : V} {d : PyData} (l : d.depth < n) (h : Im H a d) (k : Im H b d) : Sl n H a b := by
  cases n with
  | zero => omega
  | succ n => exact .inl ⟨d, by omega, h, k⟩
theorem Sl.ext {H H' : Hp} (e : Ext [] H H') : ∀ {n : Nat} {a b : V}, Sl n H a b → Sl n H' a b
  | 0, _, _, h => h
  | n + 1, a, b, h => by
    rcases h with ⟨d, l, i, j⟩ | ⟨p, q, xs, ys, rfl, rfl, hp, hq, lz, w⟩
    · exact .inl ⟨d, l, i.ext e, j.ext e⟩
    · exact .inr ⟨p, q, xs, ys, rfl, rfl, e.keep _ _ hp List.not_mem_nil, e.keep _ _ hq List.not_mem_nil, lz, Paired.mapP w fun _ _ z => Sl.ext e z⟩
theorem im_at0 {H : Hp} {a : Addr} {xs : List V} {ds : List PyData} (h : H a = some (.tup xs)) (i : Im H (.ref a) (.tuple ds)) : ImAll H xs ds := by
  cases i with
  | tup h' _ k => rw [h] at h'; cases h'; exact k
end
end Zk

set_option Elab.async false
set_option linter.all false
set_option maxRecDepth 100000
set_option maxHeartbeats 4000000
namespace L2
open PySem PySem.Spec PyProof.Rows
/-! ### several except clauses, each with a name or without -/
abbrev Cl3 := Value × Option Nat × (Addr → Value → Option Addr → TS)
def behindAs (D : Ends) (i : Nat) : Ends := { nx := fun σ' H' => D.nx (σ'.set i none) H', rt := D.rt, bk := fun σ' H' => D.bk (σ'.set i none) H', ct := fun σ' H' => D.ct (σ'.set i none) H' }
def wAll (K : PySem.W.Frag) (Wout : WX) (D : Ends) : List Cl3 → WX
  | [] => Wout
  | (c, none, ts) :: r => fun cls d σ H => ∃ b, PySem.W.exmOne K cls c = some b ∧ (b = true → ∀ a, H a = none → ts a cls d D σ H) ∧ (b = false → wAll K Wout D r cls d σ H)
  | (c, some i, ts) :: r => fun cls d σ H => ∃ b, PySem.W.exmOne K cls c = some b ∧ (b = true → ∀ a, H a = none → ts a cls d (behindAs D i) (σ.set i (some (.ref a))) H) ∧ (b = false → wAll K Wout D r cls d σ H)
inductive HdsZ (X : Cx) : List ExceptHandler → List Cl3 → Prop
  | nil : HdsZ X [] []
  | bare {x : Str} {c : Value} {ts : Addr → Value → Option Addr → TS} {st : Stmt} {su : List Stmt} {p1 p2 : Pos} {hds : List ExceptHandler} {l : List Cl3} (hc : Names X x c)
      (hsu : ∀ (a : Addr) (oe : Obj) (cls : Value) (d : Option Addr) (pn : List (Addr × Obj)), Zc cls d oe → (∃ vs, oe.data = .fields vs) → PSs (X.suite a ((a, oe) :: pn)) (st :: su) (ts a cls d)) (r : HdsZ X hds l) :
      HdsZ X (.ExceptHandler (some (.Name x p1)) none (st :: su) p2 :: hds) ((c, none, ts) :: l)
  | named {x n : Str} {c : Value} {i : Nat} {ts : Addr → Value → Option Addr → TS} {st : Stmt} {su : List Stmt} {p1 p2 : Pos} {hds : List ExceptHandler} {l : List Cl3} (hi : X.N[i]? = some n) (hl : X.env.kindOf n = some .local) (hc : Names X x c)
      (hsu : ∀ (a : Addr) (oe : Obj) (cls : Value) (d : Option Addr) (pn : List (Addr × Obj)), Zc cls d oe → (∃ vs, oe.data = .fields vs) → PSs (X.suite a ((a, oe) :: pn)) (st :: su) (ts a cls d)) (r : HdsZ X hds l) :
      HdsZ X (.ExceptHandler (some (.Name x p1)) (some n) (st :: su) p2 :: hds) ((c, some i, ts) :: l)
section
variable {X : Cx} {bd : List Stmt} {hd0 : ExceptHandler} {hds : List ExceptHandler} {l : List Cl3} {pos : Pos} {tb : WX → TS} {Wout : WX}
theorem ps_try_all (hs : X.stack = X.env :: X.outer) (hf : X.env.frame = some X.env.locals) (hN : X.N.Nodup) (tk : Takes X Wout)
    (hb : ∀ (W : WX) (pn : List (Addr × Obj)) (xe : Value → Shared → Prop), Takes (X.tr pn xe) W → PassesOwn (model X.prog X.w) X.A X.env xe → PSs (X.tr pn xe) bd (tb W))
    (hh : HdsZ X (hd0 :: hds) l) : PS X (.Try bd (hd0 :: hds) [] [] pos) (fun D σ H => tb (wAll X.K Wout D l) D σ H) := by
  refine ⟨fun pins s σ H D I h => ?_⟩
  have okX := I.ok
  have frX : X.A.frames = some (X.env :: X.outer) := by rw [okX.frames, hs]
  refine wpAny_Try_except ?_
  refine wpAny_mono ((hb (wAll X.K Wout D l) (X.pn ++ pins) (fun u1 t1 => wpAny (model X.prog X.w) X.A (noteFrame u1 X.env) (fun _ t2 => wpAny (model X.prog X.w) X.A (setFlight u1 none) (fun _ t3 =>
    wpAny (model X.prog X.w) X.A (handleBy u1 X.env (hd0 :: hds)) (SP X pins D) X.xe t3) X.xe t2) X.xe t1) (fun u s' xx => ?_) PassesOwn.looking).run [] s σ H D (I.toTry _) h) (fun fl s1 got => ?_) (fun _ _ z => z)
  · obtain ⟨a, B, sI, pins', σ', H', cls, d, rfl, Jt, nb, up, sky, na, os, ag, wsh⟩ := xx
    have J0 : Inv X pins σ' H' sI := Jt.ofTry okX
    have sky2 : Sky B (X.env :: X.outer) a (Zc cls d) X.env.locals s'.heap := by rw [← hs]; exact sky
    show wpAny (model X.prog X.w) X.A (noteFrame (.ref a) X.env) _ _ _
    refine Sky.land Zc.steady frX hf sky2 fun hp3 w3 up3 => ?_
    have I3 : Inv X pins σ' H' { s' with heap := hp3 } := J0.landed nb w3.1 (up.trans up3) os ag
    obtain ⟨ob3, fv3, at3, zc3, da3⟩ := w3.there
    have noFrame : ∀ {hh : Heap} {oo : Obj} {ff : Array Value}, hh.FunFrames B (X.env :: X.outer) → hh.get? a = some oo → oo.data = .fields ff → a ∉ frs (X.env :: X.outer) := fun {hh oo ff} fr e1 e2 hm => by
      obtain ⟨_, o2, e3, nf⟩ := fr.mem hm
      rw [e1] at e3; cases e3
      exact nf _ e2
    have nfr3 := noFrame w3.2.2.1 at3 da3
    have neL : a ≠ X.env.locals := fun z => nfr3 (List.mem_filterMap.mpr ⟨X.env, List.mem_cons_self, by rw [hf, z]⟩)
    have neF : a ∉ X.fs := fun hm => by
      obtain ⟨ev, hv, q⟩ := List.mem_filterMap.mp hm
      exact nfr3 (List.mem_filterMap.mpr ⟨ev, List.mem_cons_of_mem _ hv, q⟩)
    have Su3 := I3.suite at3 da3 na neL neF
    have look : PySem.W.Looks (model X.prog X.w) hp3 (typeOf (.ref a)) cls := fun A Q E s k q => wpAny_typeOf_ref (k _ _ at3) (by rw [zc3.1]; exact q)
    have asks : ∀ {x : Str} {c : Value} {np : Pos} {Q : Value → Shared → Prop} {E : Value → Shared → Prop}, Names X x c → Q c { s' with heap := hp3 } → wpAny (model X.prog X.w) (X.A.mark (some (.ref a))) (eval (.Name x np) X.env) Q E { s' with heap := hp3 } := fun {x c np Q E} hc q => by
      obtain ⟨hg, hdbg, hm | ⟨hm, hv, hnn⟩⟩ := hc
      · exact ld_glob (X := X.suite a ((a, ob3) :: (X.pn ++ pins))) Su3 hg hm q hdbg
      · exact ld_blt (X := X.suite a ((a, ob3) :: (X.pn ++ pins))) Su3 hg hm hv q hnn hdbg
    have walk : ∀ {hs2 : List ExceptHandler} {l2 : List Cl3}, HdsZ X hs2 l2 → wAll X.K Wout D l2 cls d σ' H' →
        wpAny (model X.prog X.w) X.A (handleBy (.ref a) X.env hs2) (SP X pins D) X.xe { s' with heap := hp3 } := by
      intro hs2 l2 hk
      induction hk with
      | nil =>
        intro w
        refine wpAny_handleBy_nil ?_
        obtain ⟨_, _, _, ob, fv, T, oT, _, hat, _, hda, h1, _⟩ := id w3
        unfold PySem.passOn
        refine wpAny_bind (wpAny_field hat hda h1 ?_)
        rw [if_neg (show ¬ ((Value.ref T == Value.none) = true) from by simp)]
        have leave : wpAny (model X.prog X.w) X.A (setFlight (.ref a) X.env.frame) (fun _ s4 => wpAny (model X.prog X.w) X.A (throw (.ref a) : Sem Flow) (SP X pins D) X.xe s4) X.xe { s' with heap := hp3 } := by
          rw [hf]
          refine HandSPX.setFlight_upZ w3 fun hp4 w4 up4 => wpAny_throw (tk _ _ ?_)
          exact ⟨a, B, sI, pins, σ', H', cls, d, rfl, J0, nb, (up.trans up3).trans up4, .inr (.inr (by rw [hs]; exact w4)), na, os, ag, w⟩
        first
          | exact wpAny_bind (wpAny_pure (wpAny_bind leave))
          | exact wpAny_bind leave
      | @bare x c ts st su p1 p2 hds2 l2 hc hsu r ih =>
        intro w
        obtain ⟨b, hb1, yes, no⟩ := w
        refine wpAny_handleBy_cons (codeAny_handlers_test ?_) (by intro q; cases q)
        refine asks hc ((PySem.W.exm_one (M := model X.prog X.w) (I3.kIn) look hb1).here ?_)
        cases b with
        | true =>
          refine codeAny_handlers_suite ?_
          refine HandSPX.lands_againZ w3 fun hp4 w4 up4 => ?_
          have I4 : Inv X pins σ' H' { s' with heap := hp4 } := J0.landed nb w4.1 ((up.trans up3).trans up4) os ag
          obtain ⟨ob4, fv4, at4, zc4, da4⟩ := w4.there
          have Su4 := I4.suite at4 da4 na neL neF
          refine wpAny_mono ((hsu a ob4 cls d (X.pn ++ pins) zc4 ⟨_, da4⟩).run [] _ _ H' _ Su4 (yes rfl a na)) (fun fl s6 got => ?_) (fun _ _ z => False.elim z)
          cases fl with
          | next =>
            obtain ⟨σ6, H6, Su6, q6⟩ := got
            exact ⟨_, _, Su6.unsuite okX, q6⟩
          | brk =>
            obtain ⟨σ6, H6, Su6, q6⟩ := got
            exact ⟨_, _, Su6.unsuite okX, q6⟩
          | cont =>
            obtain ⟨σ6, H6, Su6, q6⟩ := got
            exact ⟨_, _, Su6.unsuite okX, q6⟩
          | ret u =>
            obtain ⟨v6, σ6, H6, Su6, r6, q6⟩ := got
            exact ⟨_, _, _, Su6.unsuite okX, r6, q6⟩
        | false =>
          show wpAny _ X.A (handleBy (.ref a) X.env hds2) _ _ _
          exact ih (no rfl)
      | @named x n c i ts st su p1 p2 hds2 l2 hi hl hc hsu r ih =>
        intro w
        obtain ⟨b, hb1, yes, no⟩ := w
        refine wpAny_handleBy_cons (codeAny_handlers_test ?_) (by intro q; cases q)
        refine asks hc ((PySem.W.exm_one (M := model X.prog X.w) (I3.kIn) look hb1).here ?_)
        cases b with
        | true =>
          refine codeAny_handlers_suite_as ?_
          refine HandSPX.lands_againZ w3 fun hp4 w4 up4 => ?_
          have I4 : Inv X pins σ' H' { s' with heap := hp4 } := J0.landed nb w4.1 ((up.trans up3).trans up4) os ag
          obtain ⟨ob4, fv4, at4, zc4, da4⟩ := w4.there
          have Su4 := I4.suite at4 da4 na neL neF
          have hloc : Loc X.env.scope n := .inl hl
          refine store_ok (X := X.suite a ((a, ob4) :: (X.pn ++ pins))) (v := .ref a) Su4 hN hi hloc rfl (fun s5 Su5 => ?_) (.inr hl)
          refine wpAny_mono ((hsu a ob4 cls d (X.pn ++ pins) zc4 ⟨_, da4⟩).run [] s5 _ H' _ Su5 (yes rfl a na)) (fun fl s6 got => ?_) (fun _ _ z => False.elim z)
          have out : ∀ {σ6 : St} {H6 : Hp} {Q : Shared → Prop}, Inv (X.suite a ((a, ob4) :: (X.pn ++ pins))) [] σ6 H6 s6 → (∀ s7, Inv X pins (σ6.set i none) H6 s7 → Q s7) →
              wpAny (model X.prog X.w) X.A (do bindName X.env n .none; unbindBehindTheSuite X.env n p2) (fun _ s7 => Q s7) X.xe s6 := fun {σ6 H6 Q} Su6 hq => gone_ok (Su6.unsuite okX) hN hi hl hq
          cases fl with
          | next =>
            obtain ⟨σ6, H6, Su6, q6⟩ := got
            exact out Su6 fun s7 J7 => ⟨_, _, J7, q6⟩
          | brk =>
            obtain ⟨σ6, H6, Su6, q6⟩ := got
            exact out Su6 fun s7 J7 => ⟨_, _, J7, q6⟩
          | cont =>
            obtain ⟨σ6, H6, Su6, q6⟩ := got
            exact out Su6 fun s7 J7 => ⟨_, _, J7, q6⟩
          | ret u =>
            obtain ⟨v6, σ6, H6, Su6, r6, q6⟩ := got
            exact out Su6 fun s7 J7 => ⟨_, _, _, J7, r6, q6⟩
        | false =>
          show wpAny _ X.A (handleBy (.ref a) X.env hds2) _ _ _
          exact ih (no rfl)
    exact walk hh wsh
  · cases fl with
    | next =>
      obtain ⟨σ2, H2, J2, q⟩ := got
      exact wpAny_execs_nil ⟨σ2, H2, J2.ofTry okX, q⟩
    | brk =>
      obtain ⟨σ2, H2, J2, q⟩ := got
      exact ⟨σ2, H2, J2.ofTry okX, q⟩
    | cont =>
      obtain ⟨σ2, H2, J2, q⟩ := got
      exact ⟨σ2, H2, J2.ofTry okX, q⟩
    | ret u =>
      obtain ⟨v, σ2, H2, J2, rv, q⟩ := got
      exact ⟨v, σ2, H2, J2.ofTry okX, rv, q⟩
end
theorem takesNo {X : Cx} : Takes X (fun _ _ _ _ => False) := takes_none5
/-! ### a method that may raise, called within a try; one that is called where it does not raise -/
def tMethT (C : Addr) (m : Str) (sp : Sp) (E : St → XK) (ta : TE) (t : TA) : TE := fun σ H Q => ta σ H fun x H1 => ∃ a dx fs, x = .ref a ∧ H1 a = some (.ins C dx fs) ∧ fs.lookup m = none ∧ t σ H1 fun vs H2 => sp (x :: vs) H2 Q (E σ)
section
variable {X : Cx} {CX : CXT} {k : Nat} {f C : Addr} {fd : FuncData} {ps : List Str} {sp : Sp} {E : St → XK} {m : Str} {pos apos : Pos} {e o : Expr} {es : List Expr} {ta : TE} {t : TA}
theorem pe_methT {pl : Sem Bool} (he : PE X o ta) (c : Cls X.K C) (hm : Meth X.K C m f) (F : FnOk X.prog X.w X.K X.mg X.base CX k f fd ps sp) (hr : Room k X.A) (hb : Binds X.K fd ps []) (hx : ∀ σ, PassesAt CX X σ (E σ)) (ha : PA X (e :: es) t)
    (h1 : starEach (e :: es) X.env = (false, eval e X.env) :: starEach es X.env := by rfl) (h2 : (backTo pos (starEach es X.env)).any (·.1) = false := by rfl)
    (h3 : eval (.Call (.Attribute o m apos) (e :: es) [] pos) X.env = (do
      let w ← eval o X.env
      standAt apos.atName
      let (g, args) ← holding [w] (getMethod w m pl)
      callWith pos g args (backTo pos (starEach (e :: es) X.env)) (backToKw pos (keywordEach [] X.env))) := by rfl) :
    PE X (.Call (.Attribute o m apos) (e :: es) [] pos) (tMethT C m sp E ta t) := by
  refine ⟨fun pins s σ H Q I h => PySem.W.methodCall_KW (pl := pl) (thn (he.run pins s σ H _ I h) fun u s1 hh => ?_) h3⟩
  obtain ⟨x, H1, I1, rx, a, dx, fs, ex, ea, ml, q⟩ := hh
  subst ex
  obtain rfl : u = Value.ref a := rx
  refine getmeth_ok I1 ea c hm ml (PySem.W.callWith_K (first := [.ref a]) (h₀ := X.base) I.ok.mod.kin hm.kp (thn (ha.run pos pins s1 σ H1 _ I1 q) fun us s2 z => ?_) h1 h2)
  obtain ⟨vs, H2, I2, r, q2⟩ := z
  exact ⟨I2.kIn, run_fnS (us := .ref a :: us) (vs := .ref a :: vs) F hr hb (hx σ) I2 (.cons rfl r) q2⟩
end
/-- no way out that is ever taken -/
theorem passF {X : Cx} {CX : CXT} (h : ∀ st H s e s', ¬ CX st H s (fun _ _ _ => False) e s') : Passes CX X (fun _ _ _ => False) := fun _ _ _ _ _ _ _ z => (h _ _ _ _ _ z).elim
end L2
namespace Zk
open PySem PySem.Spec L2
open PyProof.Rows hiding St
theorem passX {X : Cx} : Passes (L2.CX X.prog X.w) X (fun _ _ _ => False) := fun _ _ _ _ _ _ _ z => by
  obtain ⟨_, _, _, _, _, _, _, _, _, _, _, _, e⟩ := z
  exact e.elim
/-! ### data compared -/
def rGtD (K : PySem.W.Frag) : R2 := fun x y H Q => ∃ d e, Dp K H x d ∧ Dp K H y e ∧ PySem.W.alike d e = true ∧ d ≠ .none ∧ min d.depth e.depth ≤ 64 ∧ Q (.bl (PySem.W.dataLt e d)) H
theorem op_gtD {X : Cx} {K : PySem.W.Frag} (hK : X.K = K) (hu : X.A.units + 64 < cLine) : OpR X (compareOp .Gt) (rGtD K) := by
  subst hK
  intro pins s σ H x y v u Q I rx ry h
  obtain ⟨d, e, hd, he, al, nn, dp, q⟩ := h
  obtain ⟨as, r1⟩ := Dp.reads I d x v hd rx
  obtain ⟨bs, r2⟩ := Dp.reads I e y u he ry
  exact PySem.W.gt_data r1 r2 al nn (Nat.lt_of_le_of_lt (Nat.add_le_add_left dp _) hu) ⟨.bl _, H, I, rfl, q⟩
theorem pe_fldK {X : Cx} {e : Expr} {f : Str} {pos : Pos} {ta : TE} {K : PySem.W.Frag} (hK : X.K = K) (he : PE X e ta) (hb : attributeBase e f X.env (eval e X.env) = eval e X.env := by rfl) : PE X (.Attribute e f pos) (tFld K ta f) := by
  subst hK
  exact pe_fld he hb
/-! ### objects: reading a field, storing one, calling a method, making one -/
section
variable {K : PySem.W.Frag} {σ : L2.St} {H : Hp} {Q : VK} {a C dx : Addr} {fs : List (Str × V)} {f m : Str} {v y : V} {ta tv : TE} {t : TA} {nx bk ct : L2.St → Hp → Prop} {rt : VK} {sp : Sp} {dvs : List V} {E : XK}
theorem w_tfld (h : ta σ H fun x H1 => ∃ a C dx fs v, x = .ref a ∧ H1 a = some (.ins C dx fs) ∧ Cls K C ∧ NoAttr K C f ∧ fs.lookup f = some v ∧ Q v H1) : tFld K ta f σ H Q := h
theorem w_fld (h : H a = some (.ins C dx fs)) (c : Cls K C) (n : NoAttr K C f) (l : fs.lookup f = some v) (q : Q v H) : ∃ a' C dx fs v, V.ref a = .ref a' ∧ H a' = some (.ins C dx fs) ∧ Cls K C ∧ NoAttr K C f ∧ fs.lookup f = some v ∧ Q v H := ⟨a, C, dx, fs, v, rfl, h, c, n, l, q⟩
theorem w_tsfld (h : tv σ H fun y H1 => ta σ H1 fun x H2 => ∃ a C dx fs, x = .ref a ∧ H2 a = some (.ins C dx fs) ∧ Cls K C ∧ NoAttr K C f ∧ fs.length < 1000 ∧ nx σ (upd H2 a (.ins C dx (L2.putF f y fs)))) : sFld K ta tv f ⟨nx, rt, bk, ct⟩ σ H := h
theorem w_sfld {gs : List (Str × V)} {N : Hp → Prop} (h : H a = some (.ins C dx fs)) (c : Cls K C) (n : NoAttr K C f) (l : fs.length < 1000) (e : L2.putF f y fs = gs) (k : ∀ H', Ext [a] H H' → H' a = some (.ins C dx gs) → N H') :
    ∃ a' C dx fs, V.ref a = .ref a' ∧ H a' = some (.ins C dx fs) ∧ Cls K C ∧ NoAttr K C f ∧ fs.length < 1000 ∧ N (upd H a' (.ins C dx (L2.putF f y fs))) :=
  ⟨a, C, dx, fs, rfl, h, c, n, l, by rw [e]; exact k _ (Ext.mut h (fun z => z) (List.mem_singleton.mpr rfl)) upd_same⟩
theorem w_tmeth (h : ta σ H fun x H1 => ∃ a dx fs, x = .ref a ∧ H1 a = some (.ins C dx fs) ∧ fs.lookup m = none ∧ t σ H1 fun vs H2 => sp (x :: (vs ++ dvs)) H2 Q E) : tMeth C m sp dvs E ta t σ H Q := h
theorem w_tmethT {ET : L2.St → XK} (h : ta σ H fun x H1 => ∃ a dx fs, x = .ref a ∧ H1 a = some (.ins C dx fs) ∧ fs.lookup m = none ∧ t σ H1 fun vs H2 => sp (x :: vs) H2 Q (ET σ)) : tMethT C m sp ET ta t σ H Q := h
theorem w_meth {P : Prop} (h : H a = some (.ins C dx fs)) (l : fs.lookup m = none) (k : P) : ∃ a' dx fs, V.ref a = .ref a' ∧ H a' = some (.ins C dx fs) ∧ fs.lookup m = none ∧ P := ⟨a, dx, fs, rfl, h, l, k⟩
theorem w_tmake (h : t σ H fun vs H1 => ∀ x dx, H1 x = none → H1 dx = none → dx ≠ x → sp (.ref x :: (vs ++ dvs)) (upd (upd H1 dx (.own x)) x (.ins C dx [])) (fun v H2 => v = .non ∧ Q (.ref x) H2) E) : tMake C sp dvs E t σ H Q := h
/-- a fresh instance -/
theorem make_ext {x dx : Addr} (nx : H x = none) (nd : H dx = none) (ne : dx ≠ x) : Ext [] H (upd (upd H dx (.own x)) x (.ins C dx [])) :=
  (Ext.new nd).trans (Ext.new (by rw [upd_ne (Ne.symm ne)]; exact nx))
end
/-- the fields by name -/
theorem lk_same {f : Str} {v : V} {r : List (Str × V)} : List.lookup f ((f, v) :: r) = some v := by simp [List.lookup]
theorem lk_other {f g : Str} {v : V} {r : List (Str × V)} (h : (f == g) = false) : List.lookup f ((g, v) :: r) = List.lookup f r := by simp [List.lookup, h]
theorem pf_same {f : Str} {v w : V} {r : List (Str × V)} : L2.putF f v ((f, w) :: r) = (f, v) :: r := by unfold L2.putF; rw [if_pos rfl]
theorem pf_other {f g : Str} {v w : V} {r : List (Str × V)} (h : (g == f) = false) : L2.putF f v ((g, w) :: r) = (g, w) :: L2.putF f v r := by
  show (if g = f then _ else _) = _
  rw [if_neg (fun e => by rw [e] at h; simp at h)]
theorem pf_nil {f : Str} {v : V} : L2.putF f v [] = [(f, v)] := rfl
end Zk

set_option Elab.async false
set_option linter.all false
set_option maxRecDepth 100000
set_option maxHeartbeats 4000000
namespace Zk
open PySem PySem.Spec L2
open PyProof.Rows hiding St
/-! ### {(a, b): c, ..}: a display whose keys are tuples -/
section
variable {X : Cx} {pins : List (Addr × Obj)} {σ : L2.St} {s : Shared}
def putAll (qs : List (List Key × Addr × V)) (acc : List (List Key × V)) : List (List Key × V) := qs.foldl (fun acc q => putK acc q.1 q.2.2) acc
theorem upd_twice {H : Hp} {p : Addr} {a b : HO} : upd (upd H p a) p b = upd H p b := by
  funext x
  by_cases z : x = p
  · subst z; rw [upd_same, upd_same]
  · rw [upd_ne z, upd_ne z, upd_ne z]
theorem storeAllT {E : Value → Shared → Prop} {D : Addr} (hu : X.A.units + 1 < cLine) : ∀ (qs : List (List Key × Addr × V)) (ws : List (Value × Value)) (acc : List (List Key × V)) (H : Hp) (s : Shared) (Q : PUnit → Shared → Prop),
    L2.Inv X pins σ (upd H D (.dT acc)) s → VV (qs.map fun q => (V.ref q.2.1, q.2.2)) ws → (∀ q ∈ qs, q.2.1 ≠ D ∧ H q.2.1 = some (.tup (q.1.map kV))) → acc.length + qs.length < sizeLine →
    (∀ s', L2.Inv X pins σ (upd H D (.dT (putAll qs acc))) s' → Q PUnit.unit s') →
    wpAny (model X.prog X.w) X.A (forIn ws PUnit.unit fun (x : Value × Value) (_ : PUnit) => (do dictSet D x.1 x.2; pure (ForInStep.yield PUnit.unit) : Sem (ForInStep PUnit))) Q E s
  | [], ws, acc, H, s, Q, I, r, _, _, hQ => by
    cases r
    rw [List.forIn_nil]
    exact wpAny_pure (hQ s I)
  | q :: qs, ws, acc, H, s, Q, I, r, hk, hz, hQ => by
    rw [List.map_cons] at r
    rw [List.length_cons] at hz
    cases r with
    | @cons a b as bs h t =>
      obtain ⟨b1, b2⟩ := b
      obtain rfl : b1 = Value.ref q.2.1 := h.1
      obtain ⟨n1, n2⟩ := hk q List.mem_cons_self
      rw [List.forIn_cons]
      refine wpAny_bind (wpAny_bind (dictSet_tup hu I upd_same (by rw [upd_ne n1]; exact n2) (by omega) h.2 fun s1 I1 => wpAny_pure ?_))
      rw [upd_twice] at I1
      have l := length_putK acc q.1 (V.ref q.2.1, q.2.2).2
      exact storeAllT hu qs bs _ H s1 Q I1 t (fun x m => hk x (List.mem_cons_of_mem _ m)) (by omega) hQ
def tDispT (trs : List (TE × TE)) : TE := fun σ H Q => ∀ p, H p = none → tPairs trs σ (upd H p (.dT [])) fun ps H2 => H2 p = some (.dT []) ∧ ∃ qs : List (List Key × Addr × V), ps = qs.map (fun q => (V.ref q.2.1, q.2.2)) ∧
  (∀ q ∈ qs, H2 q.2.1 = some (.tup (q.1.map kV))) ∧ Q (.ref p) (upd H2 p (.dT (putAll qs [])))
theorem pe_dispT {pos : Pos} {keys : List (Option Expr)} {values : List Expr} {trs : List (TE × TE)} (hu : X.A.units + 1 < cLine) (h : PPs X pos keys values trs) (hall : keys.all (·.isSome) = true) (hl : keys.length = values.length) (h0 : keys ≠ [])
    (h15 : keys.length ≤ 15) : PE X (.Dict keys values pos) (tDispT trs) := by
  refine ⟨fun pins s σ H Q I q => ?_⟩
  have hn := I.hok.fresh (Nat.le_refl s.heap.objs.size)
  have I1 := I.laid (a := s.heap.objs.size) (o := .dT []) (h' := s.heap.push { cls := .type "dict", data := .dict #[] }) (t' := s.toks) (fun _ _ q => Heap.get?_push_of_some _ q) (Nat.le_refl _) (dt_empty s.heap I.big)
  have ln := pairTrees_length keys values X.env pos hall hl
  have ne : pairTrees keys values X.env pos ≠ [] := fun z => by
    rw [z] at ln
    exact h0 (List.length_eq_zero_iff.mp ln.symm)
  rw [arm_eval_Dict, zip_pairTrees keys values X.env pos hall hl, dictDisplay_pairs _ ne (by omega)]
  refine wpAny_bind (wpAny_standAt (wpAny_bind ?_))
  unfold subDict
  refine wpAny_bind (wpAny_alloc (wpAny_bind (wpAny_holding ?_)))
  rw [if_pos (by rw [ln]; exact h15)]
  refine wpAny_bind (wpAny_mono (wpAny_evalPairs_len (h.run pins _ σ _ _ I1 (q _ hn))) (fun ws s2 h2 => ?_) fun _ _ e => e)
  obtain ⟨hv, ps, H2, I2, rel, e, qs, ep, hk, q2⟩ := h2
  subst ep
  have lq : qs.length = ws.length := by have := paired_len rel; rwa [List.length_map] at this
  have I3 : L2.Inv X pins σ (upd H2 s.heap.objs.size (.dT [])) s2 := by
    have : upd H2 s.heap.objs.size (.dT []) = H2 := by
      funext x
      by_cases z : x = s.heap.objs.size
      · rw [z, upd_same, e]
      · rw [upd_ne z]
    rw [this]; exact I2
  refine wpAny_holding (wpAny_bind (storeAllT hu qs ws [] H2 s2 _ I3 rel (fun x m => ⟨fun z => ?_, hk x m⟩) ?_ fun s3 I4 => wpAny_pure (wpAny_pure (wpAny_pure ⟨.ref s.heap.objs.size, _, I4, rfl, q2⟩))))
  · have := hk x m
    rw [z, e] at this; cases this
  · rw [sizeLine_eq, lq, hv, ln, List.length_nil]; omega
end
section
variable {H : Hp} {Q : VK} {σ : L2.St} {te : TE}
theorem w_part {P : Option Int → Hp → Prop} (h : te σ H fun x H1 => ∃ j : Int, x = .int j ∧ P (some j) H1) : tPart te σ H P := h
theorem w_slL {K : PySem.W.Frag} {a : Addr} {xs : List V} {lo hi : Option Int} (h : SqL K H a xs) (q : Alc (.lst (cutV xs lo hi)) H Q) : rSlL K (.ref a) lo hi H Q := ⟨a, xs, rfl, h, q⟩
theorem w_max2 {i j : Int} (q : Q (.int (if j > i then j else i)) H) : ∃ i' j', [V.int i, V.int j] = [V.int i', V.int j'] ∧ Q (.int (if j' > i' then j' else i')) H := ⟨i, j, rfl, q⟩
theorem w_gtS {K : PySem.W.Frag} {a b : Addr} {s t : Slot} (ha : H a = some (.tup (sVs s))) (hb : H b = some (.tup (sVs t))) (q : Q (.bl (sLt t s)) H) : rGtD K (.ref a) (.ref b) H Q := by
  refine ⟨sD s, sD t, (im_slot ha).dp, (im_slot hb).dp, sD_alike _ _, (fun z => nomatch z), ?_, ?_⟩
  · rw [sD_depth, sD_depth]; decide
  · rw [sD_lt]; exact q
theorem SlotsAt.take {H : Hp} {as : List Addr} {ss : List Slot} (h : SlotsAt H as ss) (n : Nat) : SlotsAt H (as.take n) (ss.take n) := by
  unfold SlotsAt at *
  induction h generalizing n with
  | nil => rw [List.take_nil, List.take_nil]; exact .nil
  | cons h t ih => cases n with
    | zero => exact .nil
    | succ n => exact .cons h (ih n)
end
section
variable {H : Hp} {Q : List (V × V) → Hp → Prop} {tk tv : TE} {σ : L2.St} {r : List (TE × TE)}
theorem w_pnil (q : Q [] H) : tPairs [] σ H Q := q
theorem w_pcons (h : tk σ H fun x H1 => tv σ H1 fun y H2 => tPairs r σ H2 fun ps H3 => Q ((x, y) :: ps) H3) : tPairs ((tk, tv) :: r) σ H Q := h
theorem w_dispT {trs : List (TE × TE)} {QV : VK} (k : ∀ p H', Ext [] H H' → H p = none → H' p = some (.dT []) → tPairs trs σ H' fun ps H2 => H2 p = some (.dT []) ∧ ∃ qs : List (List Key × Addr × V), ps = qs.map (fun q => (V.ref q.2.1, q.2.2)) ∧
  (∀ q ∈ qs, H2 q.2.1 = some (.tup (q.1.map kV))) ∧ QV (.ref p) (upd H2 p (.dT (putAll qs [])))) : tDispT trs σ H QV := fun p np => k p _ (Ext.new np) np upd_same
end
/-! ### a dict made of a list, of a tuple -/
theorem z_dc_list {xs : List V} {a : Addr} {g : TG} {tk tv : TE} {tt : TT} {vs : List Nat} {D : Addr} {Qd : Hp → Prop} {σ : L2.St} {H : Hp} {K : PySem.W.Frag} (Pv : Nat → Hp → Prop) (h0 : ∀ H', Ext [] H H' → H' D = some (.dT []) → Pv 0 H') (nD : H D = none) (hl : ∀ i H, i ≤ xs.length → Pv i H → SqL K H a xs)
    (hs : ∀ (Nx : Hp → Prop) i x H, xs[i]? = some x → Pv i H → (∀ H', Pv (i + 1) H' → Nx H') → g x (wipe σ vs) H fun σ2 H2 => wipe σ2 vs = wipe σ vs ∧ tt σ2 H2 fun b H3 =>
      if b = true then tk σ2 H3 fun y H4 => tv σ2 H4 fun z H5 => ∃ kvs k q, y = .ref q ∧ H5 q = some (.tup (k.map kV)) ∧ H5 D = some (.dT kvs) ∧ kvs.length < sizeLine ∧ Nx (upd H5 D (.dT (putK kvs k z))) else Nx H3) (hd : ∀ H, Pv xs.length H → Qd H) :
    ∃ W : Nat → Nat → Hp → Prop, (∃ m, W 0 m (upd H D (.dT []))) ∧ ∀ i m H, W i m H →
      ((Itl K a).stop i H ∧ Qd H) ∨ ((Itl K a).go i H ∧ ∃ Nx : Hp → Prop, (∀ H', Nx H' → ∃ m', m' < m ∧ W (i + 1) m' H') ∧ ∀ x H', (Itl K a).yld i H x H' → g x (wipe σ vs) H' fun σ2 H2 => wipe σ2 vs = wipe σ vs ∧ tt σ2 H2 fun b H3 =>
        if b = true then tk σ2 H3 fun y H4 => tv σ2 H4 fun z H5 => ∃ kvs k q, y = .ref q ∧ H5 q = some (.tup (k.map kV)) ∧ H5 D = some (.dT kvs) ∧ kvs.length < sizeLine ∧ Nx (upd H5 D (.dT (putK kvs k z))) else Nx H3) := by
  refine ⟨fun i m H => m = xs.length - i ∧ i ≤ xs.length ∧ Pv i H, ⟨_, rfl, Nat.zero_le _, h0 _ (Ext.new nD) upd_same⟩, ?_⟩
  rintro i m' H ⟨rfl, hi, p⟩
  have sq := hl i H hi p
  rcases Nat.lt_or_ge i xs.length with hlt | hge
  · refine .inr ⟨⟨xs, xs[i], sq, List.getElem?_eq_getElem hlt⟩, Pv (i + 1), fun H' p' => ⟨xs.length - (i + 1), by omega, rfl, hlt, p'⟩, fun x H' y => ?_⟩
    obtain ⟨e, y⟩ := y
    subst e
    exact hs (Pv (i + 1)) i x _ (y xs sq) p fun _ q => q
  · have e : i = xs.length := by omega
    subst e
    exact .inl ⟨⟨xs, sq, Nat.le_refl _⟩, hd H p⟩
theorem z_dc_tup {xs : List V} {a : Addr} {g : TG} {tk tv : TE} {tt : TT} {vs : List Nat} {D : Addr} {Qd : Hp → Prop} {σ : L2.St} {H : Hp} {K : PySem.W.Frag} (Pv : Nat → Hp → Prop) (h0 : ∀ H', Ext [] H H' → H' D = some (.dT []) → Pv 0 H') (nD : H D = none) (hl : ∀ i H, i ≤ xs.length → Pv i H → SqT K H a xs)
    (hs : ∀ (Nx : Hp → Prop) i x H, xs[i]? = some x → Pv i H → (∀ H', Pv (i + 1) H' → Nx H') → g x (wipe σ vs) H fun σ2 H2 => wipe σ2 vs = wipe σ vs ∧ tt σ2 H2 fun b H3 =>
      if b = true then tk σ2 H3 fun y H4 => tv σ2 H4 fun z H5 => ∃ kvs k q, y = .ref q ∧ H5 q = some (.tup (k.map kV)) ∧ H5 D = some (.dT kvs) ∧ kvs.length < sizeLine ∧ Nx (upd H5 D (.dT (putK kvs k z))) else Nx H3) (hd : ∀ H, Pv xs.length H → Qd H) :
    ∃ W : Nat → Nat → Hp → Prop, (∃ m, W 0 m (upd H D (.dT []))) ∧ ∀ i m H, W i m H →
      ((Itt K a).stop i H ∧ Qd H) ∨ ((Itt K a).go i H ∧ ∃ Nx : Hp → Prop, (∀ H', Nx H' → ∃ m', m' < m ∧ W (i + 1) m' H') ∧ ∀ x H', (Itt K a).yld i H x H' → g x (wipe σ vs) H' fun σ2 H2 => wipe σ2 vs = wipe σ vs ∧ tt σ2 H2 fun b H3 =>
        if b = true then tk σ2 H3 fun y H4 => tv σ2 H4 fun z H5 => ∃ kvs k q, y = .ref q ∧ H5 q = some (.tup (k.map kV)) ∧ H5 D = some (.dT kvs) ∧ kvs.length < sizeLine ∧ Nx (upd H5 D (.dT (putK kvs k z))) else Nx H3) := by
  refine ⟨fun i m H => m = xs.length - i ∧ i ≤ xs.length ∧ Pv i H, ⟨_, rfl, Nat.zero_le _, h0 _ (Ext.new nD) upd_same⟩, ?_⟩
  rintro i m' H ⟨rfl, hi, p⟩
  have sq := hl i H hi p
  rcases Nat.lt_or_ge i xs.length with hlt | hge
  · refine .inr ⟨⟨xs, xs[i], sq, List.getElem?_eq_getElem hlt⟩, Pv (i + 1), fun H' p' => ⟨xs.length - (i + 1), by omega, rfl, hlt, p'⟩, fun x H' y => ?_⟩
    obtain ⟨e, y⟩ := y
    subst e
    exact hs (Pv (i + 1)) i x _ (y xs sq) p fun _ q => q
  · have e : i = xs.length := by omega
    subst e
    exact .inl ⟨⟨xs, sq, Nat.le_refl _⟩, hd H p⟩
end Zk

set_option Elab.async false
set_option linter.all false
set_option maxRecDepth 100000
set_option maxHeartbeats 4000000
namespace Zk
open PySem PySem.Spec L2
open PyProof.Rows hiding St
/-! ### del d[k], k a tuple -/
theorem kt_drop {H : Hp} {kvs : List (List Key × V)} {xs : List (List Key × Addr × Value)} (r : KT H kvs xs) (k : List Key) : KT H (dropK kvs k) (withoutH xs k) := by
  unfold KT at r ⊢
  unfold dropK withoutH
  induction r with
  | nil => exact .nil
  | @cons p q ps qs h t ih =>
    have e : p.1 = q.1 := h.1
    by_cases z : q.1 = k
    · rw [List.filter_cons_of_neg (by rw [e, z]; simp), List.filter_cons_of_neg (by rw [z]; simp)]
      exact ih
    · rw [List.filter_cons_of_pos (by rw [e]; simpa using z), List.filter_cons_of_pos (by simpa using z)]
      exact .cons h ih
section
variable {X : Cx} {pins : List (Addr × Obj)} {σ : L2.St} {H : Hp} {s : Shared} {A : Around} {E : Value → Shared → Prop}
theorem d_delT {a b : Addr} {kvs : List (List Key × V)} {k : List Key} {v : V} {Q : Unit → Shared → Prop} (hu : A.units + 1 < cLine) (I : L2.Inv X pins σ H s) (e : H a = some (.dT kvs)) (eb : H b = some (.tup (k.map kV))) (l : valV kvs k = some v)
    (h : ∀ s', L2.Inv X pins σ (upd H a (.dT (dropK kvs k))) s' → Q () s') : wpAny (model X.prog X.w) A (delItem (.ref a) (.ref b)) Q E s := by
  obtain ⟨z, hd, xs, rel, dd⟩ := dt_of I.hok e
  obtain ⟨w', hw, _⟩ := RelO.some_of (v := v) (o := (atKey xs k).map (·.2)) (by rw [← l]; exact rel.val k)
  obtain ⟨p, hp, _⟩ := Option.map_eq_some_iff.mp hw
  have lx : xs.length ≤ sizeLine := by
    have := Paired.length rel
    omega
  refine wpAny_delItem_heap (hsz := lx) (tupleKind_room_in1 hu) (key_of I.hok eb) hd dd hp fun h' dd' hs => h _ ?_
  obtain ⟨q, es, ep, hq, a2, a3, a4, _, a5⟩ := dd'
  refine d_write I (by rw [e]; exact True.intro) hs ⟨q, hq⟩ ⟨Nat.le_trans (dropK_le kvs k) z, hd, _, (kt_drop rel k).keeps fun c ys ec => ?_, q, es, ep, hq, a2, a3, a4, a5⟩
  rw [upd_ne (ne_of ec e (fun z => by cases z))]
  exact ec
def sDDelT (td ty : TE) : TS := fun D σ H => td σ H fun x H1 => ty σ H1 fun y H2 => ∃ a b kvs k v, x = .ref a ∧ H2 a = some (.dT kvs) ∧ y = .ref b ∧ H2 b = some (.tup (k.map kV)) ∧ valV kvs k = some v ∧ D.nx σ (upd H2 a (.dT (dropK kvs k)))
theorem ps_ddelT {o i : Expr} {pos tpos : Pos} {td ty : TE} (hu : X.A.units + 1 < cLine) (ho : PE X o td) (hi : PE X i ty) : PS X (.Delete [.Subscript o i tpos] pos) (sDDelT td ty) := by
  refine ⟨fun pins s σ H D I h => wpAny_Delete (wpAny_deleteEach_cons (wpAny_delete_Subscript (thn (ho.run pins s σ H _ I h) fun u s1 g1 => ?_)))⟩
  obtain ⟨x, H1, I1, rx, q1⟩ := g1
  refine thn (hi.run pins s1 σ H1 _ I1 q1) fun iv s2 g2 => ?_
  obtain ⟨y, H2, I2, ry, a, b, kvs, k, v, ex, e, ey, eb, l, q2⟩ := g2
  subst ex ey
  obtain rfl : u = Value.ref a := rx
  obtain rfl : iv = Value.ref b := ry
  exact d_delT hu I2 e eb l fun s3 I3 => wpAny_deleteEach_nil ⟨σ, _, I3, q2⟩
end
def delF (f : Fd) (s : Slot) : Fd := fun t => if t = s then none else f t
theorem DMk.drop {U : List Slot} {H : Hp} {kvs : List (List Key × V)} {ks : List Slot} {f : Fd} (h : DMk U H kvs ks f) (s : Slot) : DMk U H (dropK kvs (sKey s)) (ks.filter fun t => decide (t ≠ s)) (delF f s) := by
  refine ⟨?_, h.nd.filter _, fun t m => h.sub t (List.mem_filter.mp m).1, fun t => ?_⟩
  · have e := h.keys
    clear h
    unfold dropK
    induction kvs generalizing ks with
    | nil => cases ks with
      | nil => rfl
      | cons t r => cases e
    | cons p r ih => cases ks with
      | nil => cases e
      | cons t ts =>
        injection e with e1 e2
        have e1 : p.1 = sKey t := e1
        have i := ih e2
        by_cases z : t = s
        · rw [List.filter_cons_of_neg (by rw [e1, z]; simp), List.filter_cons_of_neg (by rw [z]; simp)]
          exact i
        · have z' : ¬ p.1 = sKey s := fun y => z (sKey_inj (e1.symm.trans y))
          rw [List.filter_cons_of_pos (by simpa using z'), List.filter_cons_of_pos (by simpa using z), List.map_cons, List.map_cons, i, e1]
  · have e : valV (dropK kvs (sKey s)) (sKey t) = if t = s then none else valV kvs (sKey t) := by
      unfold dropK
      by_cases z : t = s
      · rw [if_pos z, z]
        have : ¬ (valV (kvs.filter fun kv => decide (kv.1 ≠ sKey s)) (sKey s)).isSome = true := fun y => by
          rw [val_mem, List.mem_map] at y
          obtain ⟨p, hp, e⟩ := y
          have := (List.mem_filter.mp hp).2
          simp [e] at this
        exact Option.not_isSome_iff_eq_none.mp this
      · rw [if_neg z]
        have z' : sKey t ≠ sKey s := fun y => z (sKey_inj y)
        clear h
        induction kvs with
        | nil => rfl
        | cons p r ih =>
          by_cases y : p.1 = sKey s
          · rw [List.filter_cons_of_neg (by simpa using y), ih, valV_neg (fun w => z' (w.symm.trans y))]
          · rw [List.filter_cons_of_pos (by simpa using y)]
            by_cases w : p.1 = sKey t
            · rw [valV_pos w, valV_pos w]
            · rw [valV_neg w, valV_neg w, ih]
    rw [e]
    unfold delF
    by_cases z : t = s
    · rw [if_pos z, if_pos z]; trivial
    · rw [if_neg z, if_neg z]; exact h.val t
theorem w_tddel {td ty : TE} {nx bk ct : L2.St → Hp → Prop} {rt : VK} {σ : L2.St} {H : Hp} (h : td σ H fun x H1 => ty σ H1 fun y H2 => ∃ a b kvs k v, x = .ref a ∧ H2 a = some (.dT kvs) ∧ y = .ref b ∧ H2 b = some (.tup (k.map kV)) ∧ valV kvs k = some v ∧ nx σ (upd H2 a (.dT (dropK kvs k)))) : sDDelT td ty ⟨nx, rt, bk, ct⟩ σ H := h
theorem w_ddelT {U : List Slot} {H : Hp} {a b : Addr} {f : Fd} {s : Slot} {N : Hp → Prop} (h : DM U H a f) (eb : H b = some (.tup (sVs s))) (hs : (f s).isSome = true) (k : ∀ H', Ext [a] H H' → DM U H' a (delF f s) → N H') :
    ∃ a' b' kvs k v, V.ref a = .ref a' ∧ H a' = some (.dT kvs) ∧ V.ref b = .ref b' ∧ H b' = some (.tup (k.map kV)) ∧ valV kvs k = some v ∧ N (upd H a' (.dT (dropK kvs k))) := by
  obtain ⟨kvs, ks, h, w⟩ := h
  have o := (w.val s).iss
  rw [hs] at o
  obtain ⟨v, hv⟩ := Option.isSome_iff_exists.mp o
  have e : Ext [a] H (upd H a (.dT (dropK kvs (sKey s)))) := Ext.mut h (fun z => z) (List.mem_singleton.mpr rfl)
  exact ⟨a, b, kvs, sKey s, v, rfl, h, rfl, eb, hv, k _ e ⟨_, _, upd_same, (w.drop s).ext e⟩⟩
/-- as Sm; tuples of such too -/
def Sq (U : List Slot) : Nat → Hp → V → V → Prop
  | 0, _, _, _ => False
  | n + 1, H, a, b => (∃ d, d.depth ≤ n ∧ Im H a d ∧ Im H b d) ∨ (∃ p q xs ys, a = .ref p ∧ b = .ref q ∧ H p = some (.lst xs) ∧ H q = some (.lst ys) ∧ xs.length ≤ 1000 ∧ Paired (Sq U n H) xs ys) ∨
    (3 ≤ n ∧ U.length ≤ 1000 ∧ ∃ p q f, a = .ref p ∧ b = .ref q ∧ DM U H p f ∧ DM U H q f ∧ ∀ s d, f s = some d → d.depth < n) ∨
    ∃ p q xs ys, a = .ref p ∧ b = .ref q ∧ H p = some (.tup xs) ∧ H q = some (.tup ys) ∧ xs.length ≤ 1000 ∧ Paired (Sq U n H) xs ys
theorem Sq.im {U : List Slot} {n : Nat} {H : Hp} {a b : V} {d : PyData} (l : d.depth < n) (h : Im H a d) (k : Im H b d) : Sq U n H a b := by
  cases n with
  | zero => omega
  | succ n => exact .inl ⟨d, by omega, h, k⟩
theorem Sq.ext {U : List Slot} {H H' : Hp} (e : Ext [] H H') : ∀ {n : Nat} {a b : V}, Sq U n H a b → Sq U n H' a b
  | 0, _, _, h => h
  | n + 1, a, b, h => by
    rcases h with ⟨d, l, i, j⟩ | ⟨p, q, xs, ys, rfl, rfl, hp, hq, lz, w⟩ | ⟨l, hU, p, q, f, rfl, rfl, hp, hq, w⟩ | ⟨p, q, xs, ys, rfl, rfl, hp, hq, lz, w⟩
    · exact .inl ⟨d, l, i.ext e, j.ext e⟩
    · exact .inr (.inl ⟨p, q, xs, ys, rfl, rfl, e.keep _ _ hp List.not_mem_nil, e.keep _ _ hq List.not_mem_nil, lz, Paired.mapP w fun _ _ z => Sq.ext e z⟩)
    · exact .inr (.inr (.inl ⟨l, hU, p, q, f, rfl, rfl, hp.ext e List.not_mem_nil, hq.ext e List.not_mem_nil, w⟩))
    · exact .inr (.inr (.inr ⟨p, q, xs, ys, rfl, rfl, e.tup hp, e.tup hq, lz, Paired.mapP w fun _ _ z => Sq.ext e z⟩))
theorem sq_slots {U : List Slot} {n : Nat} {H : Hp} (hn : 2 ≤ n) : ∀ {as bs : List Addr} {ss : List Slot}, SlotsAt H as ss → SlotsAt H bs ss → Paired (Sq U n H) (as.map V.ref) (bs.map V.ref)
  | _, _, _, .nil, .nil => .nil
  | _, _, _, .cons h t, .cons k u => .cons (Sq.im (d := sD _) (by rw [sD_depth]; omega) (im_slot h) (im_slot k)) (sq_slots hn t u)
/-! ### {s: d[s] for s in d}: a dict of slots copied -/
theorem dm_unlkZ {U : List Slot} {H0 H1 H3 H4 : Hp} {M : List Addr} {d D : Addr} {u : HO} {od : Obj} {f : Fd} (L : Lk d u od H0 H1) (e : Ext M H1 H3) (kp : ∀ b o, H3 b = some o → b ≠ d → H4 b = some o) (n : D ≠ d) (h : DM U H3 D f) : DM U H4 D f := by
  obtain ⟨kv3, ks3, h3, m3⟩ := h
  refine ⟨kv3, ks3, kp D _ h3 n, m3.keys, m3.nd, m3.sub, fun s => ?_⟩
  have v3 := m3.val s
  revert v3
  cases valV kv3 (sKey s) <;> cases f s <;> intro v3
  · exact v3
  · exact v3
  · exact v3
  · refine Im.go (fun a xs h => kp a _ h fun z => ?_) _ _ v3
    subst z
    have := e.imm _ _ L.at trivial
    rw [h] at this; cases this
theorem w_dcopyI {U : List Slot} {H H2 : Hp} {p : Addr} {f : Fd} {Q : VK} {σ : L2.St} {te te2 : TE} {i : Nat} {vs : List Nat} {kvs : List (List Key × V)} {ks : List Slot} {od : Obj} (hU : U.length ≤ 1000) (hp : H p = some (.dT kvs)) (mp : DMk U H kvs ks f) (L : Lk p (.dT kvs) od H H2)
    (h1 : ∀ u od H1 (R : VK), Lk p u od H H1 → R (.ref p) H1 → te σ H1 R)
    (h2 : ∀ u od H1 D H2 b (R : VK), Lk p u od H H1 → H1 D = none → Ext [D] H1 H2 → R (.ref p) H2 → te2 ((wipe σ vs).set i (some (.ref b))) H2 R)
    (hw : ∀ b, wipe ((wipe σ vs).set i (some (.ref b))) vs = wipe σ vs) (hi : ∀ b, ((wipe σ vs).set i (some (.ref b)))[i]? = some (some (.ref b)))
    (k : ∀ r H', Ext [] H H' → H r = none → DM U H' r f → Q (.ref r) H') : zDcT (iKeys te) (gName i) tYes (tVar i) (tDGet te2 (tVar i)) vs σ H2 (fun v H' => H' p = some (.frz od (.dT kvs)) ∧ Q v (upd H' p (.dT kvs))) := by
  refine w_dc (w_iKeys (h1 _ _ _ _ L ⟨p, od, rfl, .inr ⟨kvs, L.at, fun D nD => ?_⟩⟩))
  have f2 := (show DM U H p f from ⟨kvs, ks, hp, mp⟩).dr.lk L
  refine z_dc_keysT mp (fun i H' => Ext [] H2 H' ∧ DM U H' D (resF (ks.take i) f)) (fun H' e h => ⟨e, by rw [List.take_zero, resF_nil]; exact DM.nil h⟩) nD (fun i H' _ ⟨e, _⟩ => e.imm _ _ L.at trivial) ?_ ?_
  · rintro Nx j s c b H3 hsj hc hb ⟨e3, hD⟩ hN
    have f3 := f2.ext e3 List.not_mem_nil
    refine ⟨hw b, ?_⟩
    show tYes _ _ _
    refine w_yes ?_
    rw [if_pos rfl]
    refine ⟨_, hi b, ?_⟩
    refine h2 _ _ _ D _ b _ L nD e3.up ?_
    refine ⟨_, hi b, ?_⟩
    refine w_dgetT f3 hb hc fun v iv => ?_
    refine w_dcput hU hD hb (mp.sub _ (List.mem_of_getElem? hsj)) iv fun H5 e5 h5 => ?_
    refine hN _ ⟨e3.dropq e5 nD, ?_⟩
    rw [resF_put (F := f) hc] at h5
    rw [take_snoc hsj]; exact h5
  · rintro H3 ⟨e3, hD⟩
    have npD := (ne_of_none L.at nD).symm
    rw [List.take_length, resF_all fun s ns => Option.not_isSome_iff_eq_none.mp fun z => ns (mp.mem.mpr z)] at hD
    exact w_unlock L e3 fun H4 e4 kp => k D H4 e4 (L.free nD) (dm_unlkZ L e3 kp npD hD)
theorem w_dcopy {U : List Slot} {H : Hp} {p : Addr} {f : Fd} {Q : VK} {σ : L2.St} {te te2 : TE} {i : Nat} {vs : List Nat} (hU : U.length ≤ 1000) (hf : DM U H p f)
    (h1 : ∀ u od H1 (R : VK), Lk p u od H H1 → R (.ref p) H1 → te σ H1 R)
    (h2 : ∀ u od H1 D H2 b (R : VK), Lk p u od H H1 → H1 D = none → Ext [D] H1 H2 → R (.ref p) H2 → te2 ((wipe σ vs).set i (some (.ref b))) H2 R)
    (hw : ∀ b, wipe ((wipe σ vs).set i (some (.ref b))) vs = wipe σ vs) (hi : ∀ b, ((wipe σ vs).set i (some (.ref b)))[i]? = some (some (.ref b)))
    (k : ∀ r H', Ext [] H H' → H r = none → DM U H' r f → Q (.ref r) H') : tLockE (zDcT (iKeys te) (gName i) tYes (tVar i) (tDGet te2 (tVar i)) vs) σ H Q := by
  obtain ⟨kvs, ks, hp, mp⟩ := id hf
  exact w_lockE hp trivial (fun z => z) fun od H2 L => w_dcopyI hU hp mp L h1 h2 hw hi k
theorem w_dcopyS {U : List Slot} {H : Hp} {p : Addr} {f : Fd} {σ : L2.St} {te te2 : TE} {i y : Nat} {vs : List Nat} {nx bk ct : L2.St → Hp → Prop} {rt : VK} (hU : U.length ≤ 1000) (hf : DM U H p f)
    (h1 : ∀ u od H1 (R : VK), Lk p u od H H1 → R (.ref p) H1 → te σ H1 R)
    (h2 : ∀ u od H1 D H2 b (R : VK), Lk p u od H H1 → H1 D = none → Ext [D] H1 H2 → R (.ref p) H2 → te2 ((wipe σ vs).set i (some (.ref b))) H2 R)
    (hw : ∀ b, wipe ((wipe σ vs).set i (some (.ref b))) vs = wipe σ vs) (hi : ∀ b, ((wipe σ vs).set i (some (.ref b)))[i]? = some (some (.ref b)))
    (k : ∀ r H', Ext [] H H' → H r = none → DM U H' r f → nx (σ.set y (some (.ref r))) H') : tLock (tAsg (zDcT (iKeys te) (gName i) tYes (tVar i) (tDGet te2 (tVar i)) vs) (gName y)) ⟨nx, rt, bk, ct⟩ σ H := by
  obtain ⟨kvs, ks, hp, mp⟩ := id hf
  exact w_lock hp trivial (fun z => z) fun od H2 L => w_dcopyI (Q := fun v H' => nx (σ.set y (some v)) H') hU hp mp L h1 h2 hw hi k
/-! ### name = {..: .. for ..}, the name a local -/
section
variable {X : Cx}
theorem sw_trueD {kx vx : Expr} {gs : List Comprehension} {scope : Scope} {pos py : Pos} {y : Str} {l : Nat} {env : Env} (h1 : env.scope.kind = .function) (h2 : env.scope.names.lookup y = some .local) (h3 : (py.line == pos.line) = true)
    (h4 : (scope.names.any fun (n, k) => n == y && (k == .local || k == .cell)) = false) : swapsWith (.DictComp kx vx gs scope pos) (some (.Name y py)) l env = pure true := by
  have e1 : env.kindOf y = some .local := h2
  have e2 : env.blockKind = .function := by unfold Env.blockKind; rw [h1]; rfl
  unfold swapsWith
  simp only [e2, e1, h4, Expr.pos, h3]
  rfl
theorem zps_setDc {i : Nat} {y : Str} {py : Pos} {kx vx tg iter : Expr} {ifs : List Expr} {scope : Scope} {own : List (Str × Nat)} {pos spos : Pos} {wi : TI} {g : TG} {tt : TT} {tk tv : TE} (hu : X.A.units + 1 < cLine) (hc : X.calm = true) (hN : X.N.Nodup) (hy : X.N[i]? = some y) (hyl : X.env.scope.names.lookup y = some .local)
    (hsw : swapsWith (.DictComp kx vx [⟨tg, iter, ifs, 0⟩] scope pos) (some (.Name y py)) spos.line X.env = pure true) (hi : PI X tg iter wi) (ok : BlkOk X.N X.env.scope scope own)
    (hg : AllB X scope fun Y => PG Y tg g) (ht : AllB X scope fun Y => PTs Y ifs tt) (hk : AllB X scope fun Y => PE Y kx tk) (he : AllB X scope fun Y => PE Y vx tv) (hs : ∀ x, foldedSetIterable iter X.env x = pure x := by intro _; rfl) :
    PS X (.Assign [.Name y py] (.DictComp kx vx [⟨tg, iter, ifs, 0⟩] scope pos) spos) (tAsg (zDcT wi g tt tk tv (own.map (·.2))) (gName i)) := by
  refine ⟨fun pins s σ H D I h => ?_⟩
  rw [exec_Assign_Name_used _ _ _ _ hsw]
  refine wpAny_bind (wpAny_standAt (wpAny_bind ?_))
  show wpAny _ X.A (do let _ ← comprehension (.DictComp kx vx [⟨tg, iter, ifs, 0⟩] scope pos) scope X.env (firstIterPos [⟨tg, iter, ifs, 0⟩] pos) newDict false (eval iter X.env) (some (assign (.Name y py) X.env))) _ _ s
  have h' : zDcT wi g tt tk tv (own.map (·.2)) σ H (fun x H1 => gName i x σ H1 D.nx) := h
  refine wpAny_bind (thn (zdc_run (Qf := fun _ s' => SP X pins D .next s') hu hc hN I hi ok hg ht hk he hs h' fun L C s' m H' I' q hn f => ?_) fun _ s' hq => wpAny_pure (wpAny_pure hq))
  show wpAny _ _ (assign (.Name y py) X.env (.ref L)) _ _ _
  refine wpAny_assign_Name (store_ok2 (v := V.ref L) I' hN hy (.inl hyl) rfl (fun s2 I2 z => ?_) (.inr hyl))
  obtain ⟨a, sb, ha⟩ := z
  obtain ⟨f0, f1, f2, f3, f4, f5⟩ := f
  have neC : C ≠ a := by
    rcases ha with w | w
    · rw [w]; exact f1
    · exact fun e => f4 y a w e.symm
  exact ⟨m, hn.sameBut sb neC, fun h3 sb3 => ⟨_, H', I2.turned (t' := s2.toks) (fun b o hb e => (sb3.2 b hb).trans e) f0 f1 f3 f4 f5, q⟩⟩
end
end Zk

set_option Elab.async false
set_option linter.all false
set_option maxRecDepth 100000
set_option maxHeartbeats 4000000
namespace PySem
namespace ZEX
open PySem.W PySem.Calls PyProof.Rows PySem.HandSPX
section
variable {prog : Program} {w : World} {A : Around} {E : Value → Shared → Prop} {h : Heap} {g : Array GenState} {d : Drawn} {t : Nat} {os : OsState}
variable {nm q : Str} {C N : Addr} {bs bm : List Value} {hdct : Bool} {sn : List Str} {sub : List Value} {ab : Bool} {col : Option Bool} {dd : Option Addr} {k0 k1 k2 k3 k5 : Option Value}
/-- ValueError.__init__, bound to e at u, called -/
theorem call_bv {u e t0 : Addr} {rest : List Value} {Q : Value → Shared → Prop}
    (hC : h.get? C = some (excClassObj nm q C N bs bm hdct sn sub ab col dd k0 k1 k2 k3 k5 "ValueError.__new__")) (he : h.get? e = some (excO C t0)) (hu : h.get? u = some (kxs_mw "ValueError.__init__" e)) (hrest : rest.length ≤ sizeLine)
    (hq : ∀ h' t1, (∀ b o, b ≠ e → h.get? b = some o → h'.get? b = some o) → h'.get? e = some (excO C t1) → Q .none ⟨h', g, d, t, os⟩) :
    wpAny (model prog w) A (call (.ref u) rest) Q E ⟨h, g, d, t, os⟩ := by
  refine wpAny_call (codeAny_of_tree ?_)
  show wpAny _ A.in1 (callAny (.ref u) ⟨rest, []⟩) _ _ _
  simp only [callAny]
  refine wpAny_bind (wpAny_load hu ?_)
  simp only [kxs_mw, show (Value.type "method-wrapper" == Value.type "method" || Value.type "method-wrapper" == Value.type "builtin_function_or_method" || Value.type "method-wrapper" == Value.type "method-wrapper") = true by decide, if_true]
  refine KFB.if_so (by decide) ?_
  refine wpAny_bind (check_bound_init F.excBase_ValueError.toExcCallFacts hC he rfl ?_)
  refine wpAny_bind (wpAny_pure (wpAny_pure ?_))
  refine ⟨plainId_quiet F.excBase_ValueError.init.plain _, codeAny_builtin F.excBase_ValueError.initEntry ?_⟩
  exact exc_init_tree (cls := .ref C) (t0 := t0) (dv := none) (c2 := .none) (c3 := .none) (b4 := .bool false) he hrest fun h' k e' _ => hq h' _ k e'
end
end ZEX
end PySem
namespace L2
open PySem PySem.Spec PyProof.Rows
/-- isinstance(e, c), e the exception that the suite holds, its dict at dd -/
def rIsED (K : PySem.W.Frag) (D a dd : Addr) : List V → Hp → VK → Prop := fun xs H Q => ∃ (c : V) (cv : Value) (b : Bool) (fs : List (Str × V)), xs = [.ref a, c] ∧ (∀ u, RelV c u → u = cv) ∧ H dd = some (.xd fs) ∧ PySem.W.kitOne K (.ref D) cv = some b ∧ Q (.bl b) H
theorem call_isED {X : Cx} {a D dd : Addr} {oe : Obj} {pn : List (Addr × Obj)} (C : ExcC X.K D) (hz : Zc (.ref D) (some dd) oe) (hf : ∃ vs, oe.data = .fields vs) : CallR (X.suite a ((a, oe) :: pn)) (.builtin "isinstance") (rIsED X.K D a dd) := by
  intro pins s σ H xs us Q I r h
  obtain ⟨c, cv, b, fs, rfl, hcv, hd, e, q⟩ := h
  obtain ⟨u, w, rfl, rx, rt⟩ : ∃ u w, us = [u, w] ∧ RelV (.ref a) u ∧ RelV c w := by
    cases r with
    | cons rx rr => cases rr with
      | cons rt rr => cases rr; exact ⟨_, _, rfl, rx, rt⟩
  obtain rfl : u = Value.ref a := rx
  obtain rfl := hcv _ rt
  obtain ⟨hget, _⟩ := I.pin (a, oe) (List.mem_append.mpr (.inl List.mem_cons_self))
  obtain ⟨vs, hv⟩ := hf
  obtain ⟨mA, hns, _⟩ := (show ObjOk X.prog X.w H s.heap dd (.xd fs) from I.hok dd _ hd)
  obtain ⟨od, ho, _⟩ := lookIn_ns hns
  have J : PySem.W.InstAt s.heap a oe D (some od) := ⟨hget, hz.1, by unfold PySem.W.notCls; rw [hv] <;> rfl, by rw [hz.2]; exact ho⟩
  have hcl : (PySem.W.clsIn X.K D).isSome = true := by
    obtain ⟨cd, hc, _⟩ := PySem.W.any_some C.hd
    rw [hc]; rfl
  exact PySem.W.kia_one (PySem.W.kitx_exc hcl C.hg C.hk C.hs C.ha C.hn C.ht C.hm) I.kIn J e (fun z => nomatch z) fun tk => ⟨.bl b, H, I.kept (t' := tk) fun _ _ z => z, rfl, q⟩
/-- .. whatever class and dict the suite has been told -/
def rIsEE (K : PySem.W.Frag) (a : Addr) (cls : Value) (d : Option Addr) : List V → Hp → VK → Prop := fun xs H Q => ∃ (D dd : Addr), cls = .ref D ∧ d = some dd ∧ ExcC K D ∧ rIsED K D a dd xs H Q
theorem call_isEE {X : Cx} {a : Addr} {cls : Value} {d : Option Addr} {oe : Obj} {pn : List (Addr × Obj)} (hz : Zc cls d oe) (hf : ∃ vs, oe.data = .fields vs) : CallR (X.suite a ((a, oe) :: pn)) (.builtin "isinstance") (rIsEE X.K a cls d) := by
  intro pins s σ H xs us Q I r h
  obtain ⟨D, dd, rfl, rfl, C, h⟩ := h
  exact call_isED C hz hf pins s σ H xs us Q I r h
end L2

set_option Elab.async false
set_option linter.all false
set_option maxRecDepth 100000
set_option maxHeartbeats 4000000
namespace PySem
namespace ZEX
open PySem.W PySem.Calls PyProof.Rows PySem.HandSPX
/-! ### Mismatch(slot) -/
def Mismatch_mA : Arguments := { posonlyargs := [], args := [{ arg := "self", annotation := none, pos := ⟨6, 17, 6, 21⟩ }, { arg := "slot", annotation := none, pos := ⟨6, 23, 6, 27⟩ }], vararg := none, kwonlyargs := [], kw_defaults := [], kwarg := none, defaults := [] }
def Mismatch_mMsg : Str := PySem.Str.ofString "a slot does not hold what the difference expects"
def Mismatch_mB : List Stmt :=
  [.Expr (.Call (.Attribute (.Call (.Name "super" ⟨7, 8, 7, 13⟩) [] [] ⟨7, 8, 7, 15⟩) "__init__" ⟨7, 8, 7, 24⟩) [.Constant (.str Mismatch_mMsg) 0 ⟨7, 25, 7, 75⟩] [] ⟨7, 8, 7, 76⟩) ⟨7, 8, 7, 76⟩, .Assign [.Attribute (.Name "self" ⟨8, 8, 8, 12⟩) "slot" ⟨8, 8, 8, 17⟩] (.Name "slot" ⟨8, 20, 8, 24⟩) ⟨8, 8, 8, 24⟩]
def Mismatch_mS : Scope := { kind := .function, names := [(PySem.Str.ofString "self", .local), (PySem.Str.ofString "slot", .local), (PySem.Str.ofString "__class__", .free), (PySem.Str.ofString "super", .globalImplicit)], isGenerator := false, isCoroutine := false, more := [] }
structure MismatchTxt (prog : Program) (K : Frag) (mg : Str → Option Value) (C fI : Addr) : Prop where
  gC : mg "Mismatch" = some (.ref C)
  cls : ∃ nm q N bs bm sn sub ab col dd k0 k1 k2 k3 k5, K.lookup C = some (excClassObj nm q C N bs bm true sn sub ab col dd k0 k1 k2 k3 k5 "ValueError.__new__") ∧ refsVE bm = true
  sa : findIn K (.ref C) "__setattr__" = some (some (.builtin "object.__setattr__"))
  noN : findIn K (.ref C) "slot" = some none
  iC : findIn K (.ref C) "__init__" = some (some (.ref fI))
  tC : typeIn K (.ref fI) = some (.type "function")
  kC : keepIn K (.ref C) = true
  exC : subIn K (.ref C) (.type "BaseException") = some true
  veC : subIn K (.ref C) (.type "ValueError") = some true
  tyC : typeIn K (.ref C) = some (.type "type")
  mro : mroIn K C (.ref C) = some true
  sup : ks_superIn K C C "__init__" = some (some (.builtin "ValueError.__init__"))
  op : nsIn K cStatics "thirdparty.any" = some none
  noS : mg "super" = none
  top : (prog.main.scope.names.lookup ("super" : Str)).isSome = false
  fn : ∃ (oc : Value) (od : Option Addr) (doc pm : Value) (an : Option Addr) (cda : Addr) (ct : Value) (osl : Array (Option Value)) (cc : Addr) (cl : Value) (cld : Option Addr) (csl : Array (Option Value)) (vs : Array Value) (ccl : Value) (cdd : Option Addr) (ccs : Array (Option Value)) (file : Str) (tf : Tok),
    K.lookup fI = some ⟨oc, od, .func (ksFn "__init__" "Mismatch.__init__" Mismatch_mA Mismatch_mB Mismatch_mS .none .none doc pm an (.ref cda) ct cc), osl⟩ ∧ codeIn K (.ref cda) "Mismatch.__init__" = true ∧
    K.lookup cc = some ⟨cl, cld, .cell (some (.ref C)), csl⟩ ∧ K.lookup cda = some ⟨ccl, cdd, .fields vs, ccs⟩ ∧ vs[2]? = some (.str file tf) ∧ ((prog.main.file : Str) == file) = true
/-- what __init__ leaves of a fresh exception at x -/
structure MismatchEnd (h h' : Heap) (x C dx t1 : Addr) (v : Value) : Prop where
  keep : ∀ b o, b ≠ x → h.get? b = some o → h'.get? b = some o
  obj : h'.get? x = some { cls := .ref C, dict := some dx, data := .fields #[.ref t1, .none, .none, .none, .bool false, .none] }
  dbig : h.objs.size ≤ dx
  dne : dx ≠ x
  ns : h'.Ns1 dx (fun y => if y = "slot" then some v else none)
section
variable {prog : Program} {w : World} {A : Around} {E : Value → Shared → Prop} {R : Result → Shared → Prop} {s : Shared} {K : Frag} {mg mb : Str → Option Value} {C fI : Addr}
theorem Mismatch_init (T : MismatchTxt prog K mg C fI) {x t0 : Addr} {v : Value} (X : K.In s.heap) (hlim : s.heap.NoLimit) (G : s.heap.Ns mainGlobals mg) (Bl : s.heap.Ns builtinsNs mb) (hb : mb "super" = bootBuiltins "super") (hx : s.heap.get? x = some (excO C t0)) (hnx : K.lookup x = none) (hroom : A.depth < recursionLimit)
    (hq : ∀ h' tk dx t1, MismatchEnd s.heap h' x C dx t1 v → R (.ok (.ret .none)) { s with heap := h', toks := tk }) :
    codeAny (model prog w) A (.call (.ref fI) ⟨[.ref x, v], []⟩) R s := by
  obtain ⟨oc, od, doc, pm, an, cda, ct, osl, cc, cl, cld, csl, vs, ccl, cdd, ccs, file, tf, ho, hcd, hcell, hcode, hvs, hfile⟩ := T.fn
  obtain ⟨nm, q, N, bs, bm, sn, sub, ab, col, dd, k0, k1, k2, k3, k5, hC, hbm⟩ := T.cls
  have hcl : clsIn K C = some { name := nm, bases := bs, mro := .ref C :: bm, ns := N, qualname := q, hasDict := true, slotNames := sn, subclasses := sub, abstract := ab, collection := col, hasDel := false } := by unfold clsIn; rw [hC] <;> rfl
  refine ks_codeAny_call_defAt (fd := ksFn "__init__" "Mismatch.__init__" Mismatch_mA Mismatch_mB Mismatch_mS .none .none doc pm an (.ref cda) ct cc) (body := Mismatch_mB) (binds := [("self", .ref x), ("slot", v)]) hroom (X _ _ ho) rfl hlim (codeRec_of X hcd) rfl (BindsTo.of_eq (by first | rfl | with_unfolding_all rfl)) (by show ∀ x ∈ Mismatch_mS.names, x.2 ≠ .cell; decide) (by show ∀ y ∈ [(Str.ofString "self", Value.ref x), (Str.ofString "slot", v)], Mismatch_mS.names.lookup y.1 = some .local; intro y m; simp only [List.mem_cons, List.not_mem_nil, or_false] at m; rcases m with rfl | rfl <;> rfl) (fun h₁ hns k => ?_)
  have X1 : K.In h₁ := X.keeps k
  have hx1 := k _ _ hx
  refine ks_wpAt_execs_cons (ks_wpAt_Expr_any (ks_wpAt_MethodCall ?_))
  refine ks_wpAt_super_base rfl rfl (by decide) rfl (X1 _ _ ho) rfl rfl rfl (X1 _ _ hcode) rfl hvs hfile T.top ?_
  refine ks_loadName_global rfl rfl (loadGlobal_builtin (mg := mg) (mb := mb) (G.keeps k) T.noS (Bl.keeps k) (hb.trans (show bootBuiltins "super" = some (.type "super") by rfl)) ⟨rfl, ?_⟩)
  refine wpAny_loadName_free rfl rfl rfl ⟨_, X1 _ _ hcell, rfl⟩ ?_
  refine wpAny_loadName_local rfl rfl hns (show (_ : Option Value) = some (.ref x) from rfl) ?_
  refine ks_wpAny_isType_cls (X1 _ _ hC) rfl ⟨rfl, ?_⟩
  refine ks_wpAny_call_super (X1 _ _ hC) rfl hx1 rfl (fun c e => nomatch e) (looks_mroIn X1 T.mro) (fun h2 hso k2 => ?_)
  have X2 : K.In h2 := X1.keeps k2
  have hx2 := k2 _ _ hx1
  have I2 : InstAt h2 x (excO C t0) C none := ⟨hx2, rfl, rfl, trivial⟩
  have hI : Looks (model prog w) h2 (isInstance (.ref x) (.type "ValueError")) true := I2.type.andThen (looks_subIn X2 T.veC)
  have hxC : x ≠ C := ks_ne X2 I2 hcl
  have hm := T.sup
  unfold ks_superIn at hm
  rw [hcl] at hm
  refine kxs_getMethod kxs_ValueError hso (looks_opaque X2 T.op) (l₀ := .ref C :: bm) (fun A Q E s k q => wpAny_bind ((looks_clsIn X2 hcl) A _ E s k (wpAny_pure q))) rfl X2 hm hI hxC (by decide) ?_
  have hu3 : (h2.push (kxs_mw "ValueError.__init__" x)).get? h2.objs.size = some (kxs_mw "ValueError.__init__" x) := Heap.get?_push_at rfl rfl
  have k3 : ∀ b o, h2.get? b = some o → (h2.push (kxs_mw "ValueError.__init__" x)).get? b = some o := fun b o e => Heap.get?_push_of_some _ e
  have k03 : ∀ b o, s.heap.get? b = some o → (h2.push (kxs_mw "ValueError.__init__" x)).get? b = some o := fun b o e => k3 _ _ (k2 _ _ (k _ _ e))
  refine kxs_callWith (i := "ValueError.__init__") (x := x) rfl ?_
  refine evalArgs_plain (spliced_cons (wpAny_Constant_str (k := 0) (pos := ⟨7, 25, 7, 75⟩) (spliced_nil ⟨hu3, ?_⟩)))
  refine call_bv (k03 _ _ (X _ _ hC)) (k3 _ _ hx2) hu3 (by show 1 ≤ sizeLine; rw [sizeLine_eq]; decide) (fun h4 t1 k4 hx4 => ?_)
  have hxL : s.heap.objs.size ≠ x := Nat.ne_of_gt (Heap.lt_size hx)
  have X4 : K.In h4 := fun a o e => k4 a o (fun z => by rw [z, hnx] at e; cases e) (k3 _ _ (X2 _ _ e))
  have hns4 : h4.Ns s.heap.objs.size (fun y => [(Str.ofString "self", Value.ref x), (Str.ofString "slot", v)].reverse.lookup y) := by
    obtain ⟨oL, es, ep, hL, r⟩ := hns
    exact ⟨oL, es, ep, k4 _ _ hxL (k3 _ _ (k2 _ _ hL)), r⟩
  refine wpAt_of_wpAny (wpAny_execs_cons (plainObj_wpAny_Assign_Attribute ?_))
  refine wpAny_Name (wpAny_loadName_local rfl rfl hns4 (show (_ : Option Value) = some v from rfl) ?_) (by decide)
  refine wpAny_Name (wpAny_loadName_local rfl rfl hns4 (show (_ : Option Value) = some (.ref x) from rfl) ?_) (by decide)
  refine set_plain X4 (ox := excO C t1) (od := none) ⟨hx4, rfl, rfl, trivial⟩ T.sa ?_
  refine exc_osa X4 hx4 hcl (show refsVE (.ref C :: bm) = true from hbm) rfl T.noN (fun h5 tk5 dx k5 dn dne hx5 hn5 => ?_)
  show wpAny _ _ (execs _ _) _ _ _
  have keep : ∀ b o, b ≠ x → s.heap.get? b = some o → h5.get? b = some o := fun b o hb e => k5 b o hb (k4 b o hb (k03 b o e))
  have big : s.heap.objs.size ≤ dx := by
    obtain ⟨oL, _, _, hL, _⟩ := hns4
    exact Nat.le_of_lt (Nat.lt_of_lt_of_le (Heap.lt_size hL) dn)
  exact wpAny_execs_nil (hq h5 tk5 dx t1 ⟨keep, hx5, big, dne, hn5⟩)
/-- a made Mismatch -/
structure MismatchMade (h h' : Heap) (e C d : Addr) (v : Value) : Prop where
  keep : ∀ b o, h.get? b = some o → h'.get? b = some o
  new : h.objs.size ≤ e
  obj : ∃ oe vs, h'.get? e = some oe ∧ oe.cls = .ref C ∧ oe.dict = some d ∧ oe.data = .fields vs ∧ vs[1]? = some .none
  dbig : h.objs.size ≤ d
  dne : d ≠ e
  ns : h'.Ns1 d (fun y => if y = "slot" then some v else none)
theorem Mismatch_made (T : MismatchTxt prog K mg C fI) {v : Value} (X : K.In s.heap) (hlim : s.heap.NoLimit) (G : s.heap.Ns mainGlobals mg) (Bl : s.heap.Ns builtinsNs mb) (hb : mb "super" = bootBuiltins "super") (hroom : A.depth + 1 < recursionLimit)
    (hq : ∀ h' tk e d, MismatchMade s.heap h' e C d v → R (.ok (.ret (.ref e))) { s with heap := h', toks := tk }) :
    codeAny (model prog w) A (.call (.ref C) ⟨[v], []⟩) R s := by
  obtain ⟨nm, q, N, bs, bm, sn, sub, ab, col, dd, k0, k1, k2, k3, k5, hC, hbm⟩ := T.cls
  obtain ⟨hp, g, dr, tk, os⟩ := s
  have k : ∀ b o, hp.get? b = some o → ((hp.push (kdv_tup [v])).push (excO C hp.objs.size)).get? b = some o := fun b o e => Heap.get?_push_of_some _ (Heap.get?_push_of_some _ e)
  have hget : ((hp.push (kdv_tup [v])).push (excO C hp.objs.size)).get? (hp.objs.size + 1) = some (excO C hp.objs.size) := by heap_get
  have hnx : K.lookup (hp.objs.size + 1) = none := by
    cases e : K.lookup (hp.objs.size + 1) with
    | none => rfl
    | some o =>
      have z : hp.get? (hp.objs.size + 1) = some o := X _ _ e
      exact absurd (Nat.lt_of_succ_lt (Heap.lt_size z)) (Nat.lt_irrefl _)
  refine call_own F.excBase_ValueError (fun X => refsVE_contains X bm hbm) (X _ _ hC) (looks_findIn X T.iC) (fun self => bind_fn X self T.tC) (by show 1 ≤ sizeLine; rw [sizeLine_eq]; decide) ?_
  refine Mismatch_init (s := ⟨(hp.push (kdv_tup [v])).push (excO C hp.objs.size), g, dr, tk, os⟩) T (X.keeps k) (hlim.keeps k) (G.keeps k) (Bl.keeps k) hb hget hnx ?_ fun h' tk' dx t1 ⟨k', hx, dn, dne, hns⟩ => ?_
  · show A.depth + 1 < recursionLimit
    exact hroom
  · have old : ∀ b o, hp.get? b = some o → h'.get? b = some o := fun b o e => k' b o (Nat.ne_of_lt (Nat.lt_succ_of_lt (Heap.lt_size e))) (k b o e)
    have z : hp.objs.size + 1 + 1 ≤ dx := by
      first
        | (simpa only [Heap.size_push] using dn)
        | exact dn
        | (have q := dn; rw [Heap.size_push, Heap.size_push] at q; exact q)
    exact ⟨rfl, hq h' tk' (hp.objs.size + 1) dx ⟨old, Nat.le_succ _, ⟨_, _, hx, rfl, rfl, rfl, rfl⟩, Nat.le_trans (Nat.le_trans (Nat.le_succ _) (Nat.le_succ _)) z, dne, hns⟩⟩
end
end ZEX
end PySem
namespace L2
open PySem PySem.Spec PyProof.Rows
theorem relO_Mismatch {v : V} {v' : Value} (r : RelV v v') (f : Str) : RelO (List.lookup f [(("slot" : Str), v)]) (if f = "slot" then some v' else none) := by
  by_cases hw : f = "slot"
  · subst hw
    rw [if_pos rfl]
    have q : List.lookup ("slot" : Str) [(("slot" : Str), v)] = some v := by simp [List.lookup]
    rw [q]
    exact r
  · rw [if_neg hw]
    have qw : (f == ("slot" : Str)) = false := by simpa using hw
    have q2 : List.lookup f [(("slot" : Str), v)] = none := by simp [List.lookup, qw]
    rw [q2]
    trivial
section
variable {X : Cx} {C fI : Addr}
/-- Mismatch(e) -/
def tMkMismatch (C : Addr) (ta : TA) : St → Hp → XK → Prop := fun σ H Q => ta σ H fun vs H1 => ∃ v, vs = [v] ∧ ∀ d, H1 d = none → Q (.ref C) (some d) (upd H1 d (.xd [(("slot" : Str), v)]))
theorem pmk_Mismatch {a : Expr} {ta : TA} {p pos : Pos} {k : Nat} (T : PySem.ZEX.MismatchTxt X.prog X.K X.mg C fI) (hr : Room k X.A) (ha : PA X [a] ta) (hg : Gl X "Mismatch" := by rfl)
    (he : starEach (a :: []) X.env = (false, eval a X.env) :: starEach [] X.env := by rfl) (hpl : (backTo pos (starEach [] X.env)).any (·.1) = false := by rfl) :
    PMk X (.Call (.Name "Mismatch" p) [a] [] pos) (tMkMismatch C ta) := by
  intro pins s σ H Q I h
  refine wpAny_Call_Name_kw (ld_glob I hg T.gC ?_)
  refine PySem.W.callWith_K (h₀ := X.base) I.ok.mod.kin T.kC (thn (ha.run pos pins s σ H _ I h) fun us s1 hh => ?_) he hpl
  obtain ⟨vs, H1, I1, r1, v, ev, q1⟩ := hh
  subst ev
  refine ⟨I1.kIn, ?_⟩
  cases r1 with
  | cons rv rn =>
    rename_i v' us'
    cases rn
    show wpAny _ _ (call (.ref C) [v']) _ _ _
    have hlim := I1.nolimit
    obtain ⟨mb, h1, h2⟩ := I1.mod.blt
    have hG := I1.mod.glob.keeps I1.bk
    have hB := h1.keeps I1.bk
    obtain ⟨hp, g, dr, tk, os⟩ := s1
    refine wpAny_call (PySem.ZEX.Mismatch_made T I1.kIn hlim hG hB (h2 _ (by decide)) (by have := hr.dp; omega) fun h' tk' e d M => ?_)
    show MkP X pins σ Q (.ref e) ⟨h', g, dr, tk', os⟩
    obtain ⟨oe, fv, hoe, hc, hd, hdat, h1⟩ := M.obj
    have hns := M.ns
    obtain ⟨G', g1, g2⟩ := restrict h' fun b => decide (b ≠ e)
    have gk : ∀ b, b ≠ e → G'.get? b = h'.get? b := fun b hb => g1 b (decide_eq_true hb)
    have ge : G'.get? e = none := g2 e (by simp)
    have old : ∀ b o, hp.get? b = some o → G'.get? b = some o := fun b o q => (gk b (Nat.ne_of_lt (Nat.lt_of_lt_of_le (Heap.lt_size q) M.new))).trans (M.keep b o q)
    have ob : ObjOk X.prog X.w (upd H1 d (.xd [(("slot" : Str), v)])) G' d (.xd [(("slot" : Str), v)]) :=
      ⟨_, hns.at (fun o q => (gk d M.dne).trans q), fun f => relO_Mismatch rv f⟩
    have J : Inv X pins σ (upd H1 d (.xd [(("slot" : Str), v)])) ⟨G', g, dr, tk', os⟩ := I1.laid (t' := tk') old M.dbig ob
    refine ⟨e, oe, fv, ⟨G', g, dr, tk', os⟩, _, .ref C, some d, rfl, J, fun b o q => ?_, ge, hoe, ⟨hc, hd⟩, hdat, h1, ?_, rfl, I1.bare, raises_own T.exC T.tyC, q1 d (I1.hok.fresh M.dbig)⟩
    · by_cases hb : b = e
      · have q' : G'.get? b = some o := q
        rw [hb, ge] at q'; cases q'
      · exact (gk b hb).symm.trans q
    · rw [upd_ne (Ne.symm M.dne)]
      exact I1.hok.fresh M.new
end
end L2
namespace PySem
namespace ZEX
open PySem.W PySem.Calls PyProof.Rows PySem.HandSPX
/-! ### NoMoment(slot) -/
def NoMoment_mA : Arguments := { posonlyargs := [], args := [{ arg := "self", annotation := none, pos := ⟨11, 17, 11, 21⟩ }, { arg := "position", annotation := none, pos := ⟨11, 23, 11, 31⟩ }], vararg := none, kwonlyargs := [], kw_defaults := [], kwarg := none, defaults := [] }
def NoMoment_mMsg : Str := PySem.Str.ofString "the position or moment is not there"
def NoMoment_mB : List Stmt :=
  [.Expr (.Call (.Attribute (.Call (.Name "super" ⟨12, 8, 12, 13⟩) [] [] ⟨12, 8, 12, 15⟩) "__init__" ⟨12, 8, 12, 24⟩) [.Constant (.str NoMoment_mMsg) 0 ⟨12, 25, 12, 62⟩] [] ⟨12, 8, 12, 63⟩) ⟨12, 8, 12, 63⟩, .Assign [.Attribute (.Name "self" ⟨13, 8, 13, 12⟩) "position" ⟨13, 8, 13, 21⟩] (.Name "position" ⟨13, 24, 13, 32⟩) ⟨13, 8, 13, 32⟩]
def NoMoment_mS : Scope := { kind := .function, names := [(PySem.Str.ofString "self", .local), (PySem.Str.ofString "position", .local), (PySem.Str.ofString "__class__", .free), (PySem.Str.ofString "super", .globalImplicit)], isGenerator := false, isCoroutine := false, more := [] }
structure NoMomentTxt (prog : Program) (K : Frag) (mg : Str → Option Value) (C fI : Addr) : Prop where
  gC : mg "NoMoment" = some (.ref C)
  cls : ∃ nm q N bs bm sn sub ab col dd k0 k1 k2 k3 k5, K.lookup C = some (excClassObj nm q C N bs bm true sn sub ab col dd k0 k1 k2 k3 k5 "ValueError.__new__") ∧ refsVE bm = true
  sa : findIn K (.ref C) "__setattr__" = some (some (.builtin "object.__setattr__"))
  noN : findIn K (.ref C) "position" = some none
  iC : findIn K (.ref C) "__init__" = some (some (.ref fI))
  tC : typeIn K (.ref fI) = some (.type "function")
  kC : keepIn K (.ref C) = true
  exC : subIn K (.ref C) (.type "BaseException") = some true
  veC : subIn K (.ref C) (.type "ValueError") = some true
  tyC : typeIn K (.ref C) = some (.type "type")
  mro : mroIn K C (.ref C) = some true
  sup : ks_superIn K C C "__init__" = some (some (.builtin "ValueError.__init__"))
  op : nsIn K cStatics "thirdparty.any" = some none
  noS : mg "super" = none
  top : (prog.main.scope.names.lookup ("super" : Str)).isSome = false
  fn : ∃ (oc : Value) (od : Option Addr) (doc pm : Value) (an : Option Addr) (cda : Addr) (ct : Value) (osl : Array (Option Value)) (cc : Addr) (cl : Value) (cld : Option Addr) (csl : Array (Option Value)) (vs : Array Value) (ccl : Value) (cdd : Option Addr) (ccs : Array (Option Value)) (file : Str) (tf : Tok),
    K.lookup fI = some ⟨oc, od, .func (ksFn "__init__" "NoMoment.__init__" NoMoment_mA NoMoment_mB NoMoment_mS .none .none doc pm an (.ref cda) ct cc), osl⟩ ∧ codeIn K (.ref cda) "NoMoment.__init__" = true ∧
    K.lookup cc = some ⟨cl, cld, .cell (some (.ref C)), csl⟩ ∧ K.lookup cda = some ⟨ccl, cdd, .fields vs, ccs⟩ ∧ vs[2]? = some (.str file tf) ∧ ((prog.main.file : Str) == file) = true
/-- what __init__ leaves of a fresh exception at x -/
structure NoMomentEnd (h h' : Heap) (x C dx t1 : Addr) (v : Value) : Prop where
  keep : ∀ b o, b ≠ x → h.get? b = some o → h'.get? b = some o
  obj : h'.get? x = some { cls := .ref C, dict := some dx, data := .fields #[.ref t1, .none, .none, .none, .bool false, .none] }
  dbig : h.objs.size ≤ dx
  dne : dx ≠ x
  ns : h'.Ns1 dx (fun y => if y = "position" then some v else none)
section
variable {prog : Program} {w : World} {A : Around} {E : Value → Shared → Prop} {R : Result → Shared → Prop} {s : Shared} {K : Frag} {mg mb : Str → Option Value} {C fI : Addr}
theorem NoMoment_init (T : NoMomentTxt prog K mg C fI) {x t0 : Addr} {v : Value} (X : K.In s.heap) (hlim : s.heap.NoLimit) (G : s.heap.Ns mainGlobals mg) (Bl : s.heap.Ns builtinsNs mb) (hb : mb "super" = bootBuiltins "super") (hx : s.heap.get? x = some (excO C t0)) (hnx : K.lookup x = none) (hroom : A.depth < recursionLimit)
    (hq : ∀ h' tk dx t1, NoMomentEnd s.heap h' x C dx t1 v → R (.ok (.ret .none)) { s with heap := h', toks := tk }) :
    codeAny (model prog w) A (.call (.ref fI) ⟨[.ref x, v], []⟩) R s := by
  obtain ⟨oc, od, doc, pm, an, cda, ct, osl, cc, cl, cld, csl, vs, ccl, cdd, ccs, file, tf, ho, hcd, hcell, hcode, hvs, hfile⟩ := T.fn
  obtain ⟨nm, q, N, bs, bm, sn, sub, ab, col, dd, k0, k1, k2, k3, k5, hC, hbm⟩ := T.cls
  have hcl : clsIn K C = some { name := nm, bases := bs, mro := .ref C :: bm, ns := N, qualname := q, hasDict := true, slotNames := sn, subclasses := sub, abstract := ab, collection := col, hasDel := false } := by unfold clsIn; rw [hC] <;> rfl
  refine ks_codeAny_call_defAt (fd := ksFn "__init__" "NoMoment.__init__" NoMoment_mA NoMoment_mB NoMoment_mS .none .none doc pm an (.ref cda) ct cc) (body := NoMoment_mB) (binds := [("self", .ref x), ("position", v)]) hroom (X _ _ ho) rfl hlim (codeRec_of X hcd) rfl (BindsTo.of_eq (by first | rfl | with_unfolding_all rfl)) (by show ∀ x ∈ NoMoment_mS.names, x.2 ≠ .cell; decide) (by show ∀ y ∈ [(Str.ofString "self", Value.ref x), (Str.ofString "position", v)], NoMoment_mS.names.lookup y.1 = some .local; intro y m; simp only [List.mem_cons, List.not_mem_nil, or_false] at m; rcases m with rfl | rfl <;> rfl) (fun h₁ hns k => ?_)
  have X1 : K.In h₁ := X.keeps k
  have hx1 := k _ _ hx
  refine ks_wpAt_execs_cons (ks_wpAt_Expr_any (ks_wpAt_MethodCall ?_))
  refine ks_wpAt_super_base rfl rfl (by decide) rfl (X1 _ _ ho) rfl rfl rfl (X1 _ _ hcode) rfl hvs hfile T.top ?_
  refine ks_loadName_global rfl rfl (loadGlobal_builtin (mg := mg) (mb := mb) (G.keeps k) T.noS (Bl.keeps k) (hb.trans (show bootBuiltins "super" = some (.type "super") by rfl)) ⟨rfl, ?_⟩)
  refine wpAny_loadName_free rfl rfl rfl ⟨_, X1 _ _ hcell, rfl⟩ ?_
  refine wpAny_loadName_local rfl rfl hns (show (_ : Option Value) = some (.ref x) from rfl) ?_
  refine ks_wpAny_isType_cls (X1 _ _ hC) rfl ⟨rfl, ?_⟩
  refine ks_wpAny_call_super (X1 _ _ hC) rfl hx1 rfl (fun c e => nomatch e) (looks_mroIn X1 T.mro) (fun h2 hso k2 => ?_)
  have X2 : K.In h2 := X1.keeps k2
  have hx2 := k2 _ _ hx1
  have I2 : InstAt h2 x (excO C t0) C none := ⟨hx2, rfl, rfl, trivial⟩
  have hI : Looks (model prog w) h2 (isInstance (.ref x) (.type "ValueError")) true := I2.type.andThen (looks_subIn X2 T.veC)
  have hxC : x ≠ C := ks_ne X2 I2 hcl
  have hm := T.sup
  unfold ks_superIn at hm
  rw [hcl] at hm
  refine kxs_getMethod kxs_ValueError hso (looks_opaque X2 T.op) (l₀ := .ref C :: bm) (fun A Q E s k q => wpAny_bind ((looks_clsIn X2 hcl) A _ E s k (wpAny_pure q))) rfl X2 hm hI hxC (by decide) ?_
  have hu3 : (h2.push (kxs_mw "ValueError.__init__" x)).get? h2.objs.size = some (kxs_mw "ValueError.__init__" x) := Heap.get?_push_at rfl rfl
  have k3 : ∀ b o, h2.get? b = some o → (h2.push (kxs_mw "ValueError.__init__" x)).get? b = some o := fun b o e => Heap.get?_push_of_some _ e
  have k03 : ∀ b o, s.heap.get? b = some o → (h2.push (kxs_mw "ValueError.__init__" x)).get? b = some o := fun b o e => k3 _ _ (k2 _ _ (k _ _ e))
  refine kxs_callWith (i := "ValueError.__init__") (x := x) rfl ?_
  refine evalArgs_plain (spliced_cons (wpAny_Constant_str (k := 0) (pos := ⟨12, 25, 12, 62⟩) (spliced_nil ⟨hu3, ?_⟩)))
  refine call_bv (k03 _ _ (X _ _ hC)) (k3 _ _ hx2) hu3 (by show 1 ≤ sizeLine; rw [sizeLine_eq]; decide) (fun h4 t1 k4 hx4 => ?_)
  have hxL : s.heap.objs.size ≠ x := Nat.ne_of_gt (Heap.lt_size hx)
  have X4 : K.In h4 := fun a o e => k4 a o (fun z => by rw [z, hnx] at e; cases e) (k3 _ _ (X2 _ _ e))
  have hns4 : h4.Ns s.heap.objs.size (fun y => [(Str.ofString "self", Value.ref x), (Str.ofString "position", v)].reverse.lookup y) := by
    obtain ⟨oL, es, ep, hL, r⟩ := hns
    exact ⟨oL, es, ep, k4 _ _ hxL (k3 _ _ (k2 _ _ hL)), r⟩
  refine wpAt_of_wpAny (wpAny_execs_cons (plainObj_wpAny_Assign_Attribute ?_))
  refine wpAny_Name (wpAny_loadName_local rfl rfl hns4 (show (_ : Option Value) = some v from rfl) ?_) (by decide)
  refine wpAny_Name (wpAny_loadName_local rfl rfl hns4 (show (_ : Option Value) = some (.ref x) from rfl) ?_) (by decide)
  refine set_plain X4 (ox := excO C t1) (od := none) ⟨hx4, rfl, rfl, trivial⟩ T.sa ?_
  refine exc_osa X4 hx4 hcl (show refsVE (.ref C :: bm) = true from hbm) rfl T.noN (fun h5 tk5 dx k5 dn dne hx5 hn5 => ?_)
  show wpAny _ _ (execs _ _) _ _ _
  have keep : ∀ b o, b ≠ x → s.heap.get? b = some o → h5.get? b = some o := fun b o hb e => k5 b o hb (k4 b o hb (k03 b o e))
  have big : s.heap.objs.size ≤ dx := by
    obtain ⟨oL, _, _, hL, _⟩ := hns4
    exact Nat.le_of_lt (Nat.lt_of_lt_of_le (Heap.lt_size hL) dn)
  exact wpAny_execs_nil (hq h5 tk5 dx t1 ⟨keep, hx5, big, dne, hn5⟩)
/-- a made NoMoment -/
structure NoMomentMade (h h' : Heap) (e C d : Addr) (v : Value) : Prop where
  keep : ∀ b o, h.get? b = some o → h'.get? b = some o
  new : h.objs.size ≤ e
  obj : ∃ oe vs, h'.get? e = some oe ∧ oe.cls = .ref C ∧ oe.dict = some d ∧ oe.data = .fields vs ∧ vs[1]? = some .none
  dbig : h.objs.size ≤ d
  dne : d ≠ e
  ns : h'.Ns1 d (fun y => if y = "position" then some v else none)
theorem NoMoment_made (T : NoMomentTxt prog K mg C fI) {v : Value} (X : K.In s.heap) (hlim : s.heap.NoLimit) (G : s.heap.Ns mainGlobals mg) (Bl : s.heap.Ns builtinsNs mb) (hb : mb "super" = bootBuiltins "super") (hroom : A.depth + 1 < recursionLimit)
    (hq : ∀ h' tk e d, NoMomentMade s.heap h' e C d v → R (.ok (.ret (.ref e))) { s with heap := h', toks := tk }) :
    codeAny (model prog w) A (.call (.ref C) ⟨[v], []⟩) R s := by
  obtain ⟨nm, q, N, bs, bm, sn, sub, ab, col, dd, k0, k1, k2, k3, k5, hC, hbm⟩ := T.cls
  obtain ⟨hp, g, dr, tk, os⟩ := s
  have k : ∀ b o, hp.get? b = some o → ((hp.push (kdv_tup [v])).push (excO C hp.objs.size)).get? b = some o := fun b o e => Heap.get?_push_of_some _ (Heap.get?_push_of_some _ e)
  have hget : ((hp.push (kdv_tup [v])).push (excO C hp.objs.size)).get? (hp.objs.size + 1) = some (excO C hp.objs.size) := by heap_get
  have hnx : K.lookup (hp.objs.size + 1) = none := by
    cases e : K.lookup (hp.objs.size + 1) with
    | none => rfl
    | some o =>
      have z : hp.get? (hp.objs.size + 1) = some o := X _ _ e
      exact absurd (Nat.lt_of_succ_lt (Heap.lt_size z)) (Nat.lt_irrefl _)
  refine call_own F.excBase_ValueError (fun X => refsVE_contains X bm hbm) (X _ _ hC) (looks_findIn X T.iC) (fun self => bind_fn X self T.tC) (by show 1 ≤ sizeLine; rw [sizeLine_eq]; decide) ?_
  refine NoMoment_init (s := ⟨(hp.push (kdv_tup [v])).push (excO C hp.objs.size), g, dr, tk, os⟩) T (X.keeps k) (hlim.keeps k) (G.keeps k) (Bl.keeps k) hb hget hnx ?_ fun h' tk' dx t1 ⟨k', hx, dn, dne, hns⟩ => ?_
  · show A.depth + 1 < recursionLimit
    exact hroom
  · have old : ∀ b o, hp.get? b = some o → h'.get? b = some o := fun b o e => k' b o (Nat.ne_of_lt (Nat.lt_succ_of_lt (Heap.lt_size e))) (k b o e)
    have z : hp.objs.size + 1 + 1 ≤ dx := by
      first
        | (simpa only [Heap.size_push] using dn)
        | exact dn
        | (have q := dn; rw [Heap.size_push, Heap.size_push] at q; exact q)
    exact ⟨rfl, hq h' tk' (hp.objs.size + 1) dx ⟨old, Nat.le_succ _, ⟨_, _, hx, rfl, rfl, rfl, rfl⟩, Nat.le_trans (Nat.le_trans (Nat.le_succ _) (Nat.le_succ _)) z, dne, hns⟩⟩
end
end ZEX
end PySem
namespace L2
open PySem PySem.Spec PyProof.Rows
theorem relO_NoMoment {v : V} {v' : Value} (r : RelV v v') (f : Str) : RelO (List.lookup f [(("position" : Str), v)]) (if f = "position" then some v' else none) := by
  by_cases hw : f = "position"
  · subst hw
    rw [if_pos rfl]
    have q : List.lookup ("position" : Str) [(("position" : Str), v)] = some v := by simp [List.lookup]
    rw [q]
    exact r
  · rw [if_neg hw]
    have qw : (f == ("position" : Str)) = false := by simpa using hw
    have q2 : List.lookup f [(("position" : Str), v)] = none := by simp [List.lookup, qw]
    rw [q2]
    trivial
section
variable {X : Cx} {C fI : Addr}
/-- NoMoment(e) -/
def tMkNoMoment (C : Addr) (ta : TA) : St → Hp → XK → Prop := fun σ H Q => ta σ H fun vs H1 => ∃ v, vs = [v] ∧ ∀ d, H1 d = none → Q (.ref C) (some d) (upd H1 d (.xd [(("position" : Str), v)]))
theorem pmk_NoMoment {a : Expr} {ta : TA} {p pos : Pos} {k : Nat} (T : PySem.ZEX.NoMomentTxt X.prog X.K X.mg C fI) (hr : Room k X.A) (ha : PA X [a] ta) (hg : Gl X "NoMoment" := by rfl)
    (he : starEach (a :: []) X.env = (false, eval a X.env) :: starEach [] X.env := by rfl) (hpl : (backTo pos (starEach [] X.env)).any (·.1) = false := by rfl) :
    PMk X (.Call (.Name "NoMoment" p) [a] [] pos) (tMkNoMoment C ta) := by
  intro pins s σ H Q I h
  refine wpAny_Call_Name_kw (ld_glob I hg T.gC ?_)
  refine PySem.W.callWith_K (h₀ := X.base) I.ok.mod.kin T.kC (thn (ha.run pos pins s σ H _ I h) fun us s1 hh => ?_) he hpl
  obtain ⟨vs, H1, I1, r1, v, ev, q1⟩ := hh
  subst ev
  refine ⟨I1.kIn, ?_⟩
  cases r1 with
  | cons rv rn =>
    rename_i v' us'
    cases rn
    show wpAny _ _ (call (.ref C) [v']) _ _ _
    have hlim := I1.nolimit
    obtain ⟨mb, h1, h2⟩ := I1.mod.blt
    have hG := I1.mod.glob.keeps I1.bk
    have hB := h1.keeps I1.bk
    obtain ⟨hp, g, dr, tk, os⟩ := s1
    refine wpAny_call (PySem.ZEX.NoMoment_made T I1.kIn hlim hG hB (h2 _ (by decide)) (by have := hr.dp; omega) fun h' tk' e d M => ?_)
    show MkP X pins σ Q (.ref e) ⟨h', g, dr, tk', os⟩
    obtain ⟨oe, fv, hoe, hc, hd, hdat, h1⟩ := M.obj
    have hns := M.ns
    obtain ⟨G', g1, g2⟩ := restrict h' fun b => decide (b ≠ e)
    have gk : ∀ b, b ≠ e → G'.get? b = h'.get? b := fun b hb => g1 b (decide_eq_true hb)
    have ge : G'.get? e = none := g2 e (by simp)
    have old : ∀ b o, hp.get? b = some o → G'.get? b = some o := fun b o q => (gk b (Nat.ne_of_lt (Nat.lt_of_lt_of_le (Heap.lt_size q) M.new))).trans (M.keep b o q)
    have ob : ObjOk X.prog X.w (upd H1 d (.xd [(("position" : Str), v)])) G' d (.xd [(("position" : Str), v)]) :=
      ⟨_, hns.at (fun o q => (gk d M.dne).trans q), fun f => relO_NoMoment rv f⟩
    have J : Inv X pins σ (upd H1 d (.xd [(("position" : Str), v)])) ⟨G', g, dr, tk', os⟩ := I1.laid (t' := tk') old M.dbig ob
    refine ⟨e, oe, fv, ⟨G', g, dr, tk', os⟩, _, .ref C, some d, rfl, J, fun b o q => ?_, ge, hoe, ⟨hc, hd⟩, hdat, h1, ?_, rfl, I1.bare, raises_own T.exC T.tyC, q1 d (I1.hok.fresh M.dbig)⟩
    · by_cases hb : b = e
      · have q' : G'.get? b = some o := q
        rw [hb, ge] at q'; cases q'
      · exact (gk b hb).symm.trans q
    · rw [upd_ne (Ne.symm M.dne)]
      exact I1.hok.fresh M.new
end
end L2
namespace PySem
namespace ZEX
open PySem.W PySem.Calls PyProof.Rows PySem.HandSPX
/-! ### StampBack(slot) -/
def StampBack_mA : Arguments := { posonlyargs := [], args := [{ arg := "self", annotation := none, pos := ⟨16, 17, 16, 21⟩ }, { arg := "stamp", annotation := none, pos := ⟨16, 23, 16, 28⟩ }], vararg := none, kwonlyargs := [], kw_defaults := [], kwarg := none, defaults := [] }
def StampBack_mMsg : Str := PySem.Str.ofString "the stamp is below an earlier one"
def StampBack_mB : List Stmt :=
  [.Expr (.Call (.Attribute (.Call (.Name "super" ⟨17, 8, 17, 13⟩) [] [] ⟨17, 8, 17, 15⟩) "__init__" ⟨17, 8, 17, 24⟩) [.Constant (.str StampBack_mMsg) 0 ⟨17, 25, 17, 60⟩] [] ⟨17, 8, 17, 61⟩) ⟨17, 8, 17, 61⟩, .Assign [.Attribute (.Name "self" ⟨18, 8, 18, 12⟩) "stamp" ⟨18, 8, 18, 18⟩] (.Name "stamp" ⟨18, 21, 18, 26⟩) ⟨18, 8, 18, 26⟩]
def StampBack_mS : Scope := { kind := .function, names := [(PySem.Str.ofString "self", .local), (PySem.Str.ofString "stamp", .local), (PySem.Str.ofString "__class__", .free), (PySem.Str.ofString "super", .globalImplicit)], isGenerator := false, isCoroutine := false, more := [] }
structure StampBackTxt (prog : Program) (K : Frag) (mg : Str → Option Value) (C fI : Addr) : Prop where
  gC : mg "StampBack" = some (.ref C)
  cls : ∃ nm q N bs bm sn sub ab col dd k0 k1 k2 k3 k5, K.lookup C = some (excClassObj nm q C N bs bm true sn sub ab col dd k0 k1 k2 k3 k5 "ValueError.__new__") ∧ refsVE bm = true
  sa : findIn K (.ref C) "__setattr__" = some (some (.builtin "object.__setattr__"))
  noN : findIn K (.ref C) "stamp" = some none
  iC : findIn K (.ref C) "__init__" = some (some (.ref fI))
  tC : typeIn K (.ref fI) = some (.type "function")
  kC : keepIn K (.ref C) = true
  exC : subIn K (.ref C) (.type "BaseException") = some true
  veC : subIn K (.ref C) (.type "ValueError") = some true
  tyC : typeIn K (.ref C) = some (.type "type")
  mro : mroIn K C (.ref C) = some true
  sup : ks_superIn K C C "__init__" = some (some (.builtin "ValueError.__init__"))
  op : nsIn K cStatics "thirdparty.any" = some none
  noS : mg "super" = none
  top : (prog.main.scope.names.lookup ("super" : Str)).isSome = false
  fn : ∃ (oc : Value) (od : Option Addr) (doc pm : Value) (an : Option Addr) (cda : Addr) (ct : Value) (osl : Array (Option Value)) (cc : Addr) (cl : Value) (cld : Option Addr) (csl : Array (Option Value)) (vs : Array Value) (ccl : Value) (cdd : Option Addr) (ccs : Array (Option Value)) (file : Str) (tf : Tok),
    K.lookup fI = some ⟨oc, od, .func (ksFn "__init__" "StampBack.__init__" StampBack_mA StampBack_mB StampBack_mS .none .none doc pm an (.ref cda) ct cc), osl⟩ ∧ codeIn K (.ref cda) "StampBack.__init__" = true ∧
    K.lookup cc = some ⟨cl, cld, .cell (some (.ref C)), csl⟩ ∧ K.lookup cda = some ⟨ccl, cdd, .fields vs, ccs⟩ ∧ vs[2]? = some (.str file tf) ∧ ((prog.main.file : Str) == file) = true
/-- what __init__ leaves of a fresh exception at x -/
structure StampBackEnd (h h' : Heap) (x C dx t1 : Addr) (v : Value) : Prop where
  keep : ∀ b o, b ≠ x → h.get? b = some o → h'.get? b = some o
  obj : h'.get? x = some { cls := .ref C, dict := some dx, data := .fields #[.ref t1, .none, .none, .none, .bool false, .none] }
  dbig : h.objs.size ≤ dx
  dne : dx ≠ x
  ns : h'.Ns1 dx (fun y => if y = "stamp" then some v else none)
section
variable {prog : Program} {w : World} {A : Around} {E : Value → Shared → Prop} {R : Result → Shared → Prop} {s : Shared} {K : Frag} {mg mb : Str → Option Value} {C fI : Addr}
theorem StampBack_init (T : StampBackTxt prog K mg C fI) {x t0 : Addr} {v : Value} (X : K.In s.heap) (hlim : s.heap.NoLimit) (G : s.heap.Ns mainGlobals mg) (Bl : s.heap.Ns builtinsNs mb) (hb : mb "super" = bootBuiltins "super") (hx : s.heap.get? x = some (excO C t0)) (hnx : K.lookup x = none) (hroom : A.depth < recursionLimit)
    (hq : ∀ h' tk dx t1, StampBackEnd s.heap h' x C dx t1 v → R (.ok (.ret .none)) { s with heap := h', toks := tk }) :
    codeAny (model prog w) A (.call (.ref fI) ⟨[.ref x, v], []⟩) R s := by
  obtain ⟨oc, od, doc, pm, an, cda, ct, osl, cc, cl, cld, csl, vs, ccl, cdd, ccs, file, tf, ho, hcd, hcell, hcode, hvs, hfile⟩ := T.fn
  obtain ⟨nm, q, N, bs, bm, sn, sub, ab, col, dd, k0, k1, k2, k3, k5, hC, hbm⟩ := T.cls
  have hcl : clsIn K C = some { name := nm, bases := bs, mro := .ref C :: bm, ns := N, qualname := q, hasDict := true, slotNames := sn, subclasses := sub, abstract := ab, collection := col, hasDel := false } := by unfold clsIn; rw [hC] <;> rfl
  refine ks_codeAny_call_defAt (fd := ksFn "__init__" "StampBack.__init__" StampBack_mA StampBack_mB StampBack_mS .none .none doc pm an (.ref cda) ct cc) (body := StampBack_mB) (binds := [("self", .ref x), ("stamp", v)]) hroom (X _ _ ho) rfl hlim (codeRec_of X hcd) rfl (BindsTo.of_eq (by first | rfl | with_unfolding_all rfl)) (by show ∀ x ∈ StampBack_mS.names, x.2 ≠ .cell; decide) (by show ∀ y ∈ [(Str.ofString "self", Value.ref x), (Str.ofString "stamp", v)], StampBack_mS.names.lookup y.1 = some .local; intro y m; simp only [List.mem_cons, List.not_mem_nil, or_false] at m; rcases m with rfl | rfl <;> rfl) (fun h₁ hns k => ?_)
  have X1 : K.In h₁ := X.keeps k
  have hx1 := k _ _ hx
  refine ks_wpAt_execs_cons (ks_wpAt_Expr_any (ks_wpAt_MethodCall ?_))
  refine ks_wpAt_super_base rfl rfl (by decide) rfl (X1 _ _ ho) rfl rfl rfl (X1 _ _ hcode) rfl hvs hfile T.top ?_
  refine ks_loadName_global rfl rfl (loadGlobal_builtin (mg := mg) (mb := mb) (G.keeps k) T.noS (Bl.keeps k) (hb.trans (show bootBuiltins "super" = some (.type "super") by rfl)) ⟨rfl, ?_⟩)
  refine wpAny_loadName_free rfl rfl rfl ⟨_, X1 _ _ hcell, rfl⟩ ?_
  refine wpAny_loadName_local rfl rfl hns (show (_ : Option Value) = some (.ref x) from rfl) ?_
  refine ks_wpAny_isType_cls (X1 _ _ hC) rfl ⟨rfl, ?_⟩
  refine ks_wpAny_call_super (X1 _ _ hC) rfl hx1 rfl (fun c e => nomatch e) (looks_mroIn X1 T.mro) (fun h2 hso k2 => ?_)
  have X2 : K.In h2 := X1.keeps k2
  have hx2 := k2 _ _ hx1
  have I2 : InstAt h2 x (excO C t0) C none := ⟨hx2, rfl, rfl, trivial⟩
  have hI : Looks (model prog w) h2 (isInstance (.ref x) (.type "ValueError")) true := I2.type.andThen (looks_subIn X2 T.veC)
  have hxC : x ≠ C := ks_ne X2 I2 hcl
  have hm := T.sup
  unfold ks_superIn at hm
  rw [hcl] at hm
  refine kxs_getMethod kxs_ValueError hso (looks_opaque X2 T.op) (l₀ := .ref C :: bm) (fun A Q E s k q => wpAny_bind ((looks_clsIn X2 hcl) A _ E s k (wpAny_pure q))) rfl X2 hm hI hxC (by decide) ?_
  have hu3 : (h2.push (kxs_mw "ValueError.__init__" x)).get? h2.objs.size = some (kxs_mw "ValueError.__init__" x) := Heap.get?_push_at rfl rfl
  have k3 : ∀ b o, h2.get? b = some o → (h2.push (kxs_mw "ValueError.__init__" x)).get? b = some o := fun b o e => Heap.get?_push_of_some _ e
  have k03 : ∀ b o, s.heap.get? b = some o → (h2.push (kxs_mw "ValueError.__init__" x)).get? b = some o := fun b o e => k3 _ _ (k2 _ _ (k _ _ e))
  refine kxs_callWith (i := "ValueError.__init__") (x := x) rfl ?_
  refine evalArgs_plain (spliced_cons (wpAny_Constant_str (k := 0) (pos := ⟨17, 25, 17, 60⟩) (spliced_nil ⟨hu3, ?_⟩)))
  refine call_bv (k03 _ _ (X _ _ hC)) (k3 _ _ hx2) hu3 (by show 1 ≤ sizeLine; rw [sizeLine_eq]; decide) (fun h4 t1 k4 hx4 => ?_)
  have hxL : s.heap.objs.size ≠ x := Nat.ne_of_gt (Heap.lt_size hx)
  have X4 : K.In h4 := fun a o e => k4 a o (fun z => by rw [z, hnx] at e; cases e) (k3 _ _ (X2 _ _ e))
  have hns4 : h4.Ns s.heap.objs.size (fun y => [(Str.ofString "self", Value.ref x), (Str.ofString "stamp", v)].reverse.lookup y) := by
    obtain ⟨oL, es, ep, hL, r⟩ := hns
    exact ⟨oL, es, ep, k4 _ _ hxL (k3 _ _ (k2 _ _ hL)), r⟩
  refine wpAt_of_wpAny (wpAny_execs_cons (plainObj_wpAny_Assign_Attribute ?_))
  refine wpAny_Name (wpAny_loadName_local rfl rfl hns4 (show (_ : Option Value) = some v from rfl) ?_) (by decide)
  refine wpAny_Name (wpAny_loadName_local rfl rfl hns4 (show (_ : Option Value) = some (.ref x) from rfl) ?_) (by decide)
  refine set_plain X4 (ox := excO C t1) (od := none) ⟨hx4, rfl, rfl, trivial⟩ T.sa ?_
  refine exc_osa X4 hx4 hcl (show refsVE (.ref C :: bm) = true from hbm) rfl T.noN (fun h5 tk5 dx k5 dn dne hx5 hn5 => ?_)
  show wpAny _ _ (execs _ _) _ _ _
  have keep : ∀ b o, b ≠ x → s.heap.get? b = some o → h5.get? b = some o := fun b o hb e => k5 b o hb (k4 b o hb (k03 b o e))
  have big : s.heap.objs.size ≤ dx := by
    obtain ⟨oL, _, _, hL, _⟩ := hns4
    exact Nat.le_of_lt (Nat.lt_of_lt_of_le (Heap.lt_size hL) dn)
  exact wpAny_execs_nil (hq h5 tk5 dx t1 ⟨keep, hx5, big, dne, hn5⟩)
/-- a made StampBack -/
structure StampBackMade (h h' : Heap) (e C d : Addr) (v : Value) : Prop where
  keep : ∀ b o, h.get? b = some o → h'.get? b = some o
  new : h.objs.size ≤ e
  obj : ∃ oe vs, h'.get? e = some oe ∧ oe.cls = .ref C ∧ oe.dict = some d ∧ oe.data = .fields vs ∧ vs[1]? = some .none
  dbig : h.objs.size ≤ d
  dne : d ≠ e
  ns : h'.Ns1 d (fun y => if y = "stamp" then some v else none)
theorem StampBack_made (T : StampBackTxt prog K mg C fI) {v : Value} (X : K.In s.heap) (hlim : s.heap.NoLimit) (G : s.heap.Ns mainGlobals mg) (Bl : s.heap.Ns builtinsNs mb) (hb : mb "super" = bootBuiltins "super") (hroom : A.depth + 1 < recursionLimit)
    (hq : ∀ h' tk e d, StampBackMade s.heap h' e C d v → R (.ok (.ret (.ref e))) { s with heap := h', toks := tk }) :
    codeAny (model prog w) A (.call (.ref C) ⟨[v], []⟩) R s := by
  obtain ⟨nm, q, N, bs, bm, sn, sub, ab, col, dd, k0, k1, k2, k3, k5, hC, hbm⟩ := T.cls
  obtain ⟨hp, g, dr, tk, os⟩ := s
  have k : ∀ b o, hp.get? b = some o → ((hp.push (kdv_tup [v])).push (excO C hp.objs.size)).get? b = some o := fun b o e => Heap.get?_push_of_some _ (Heap.get?_push_of_some _ e)
  have hget : ((hp.push (kdv_tup [v])).push (excO C hp.objs.size)).get? (hp.objs.size + 1) = some (excO C hp.objs.size) := by heap_get
  have hnx : K.lookup (hp.objs.size + 1) = none := by
    cases e : K.lookup (hp.objs.size + 1) with
    | none => rfl
    | some o =>
      have z : hp.get? (hp.objs.size + 1) = some o := X _ _ e
      exact absurd (Nat.lt_of_succ_lt (Heap.lt_size z)) (Nat.lt_irrefl _)
  refine call_own F.excBase_ValueError (fun X => refsVE_contains X bm hbm) (X _ _ hC) (looks_findIn X T.iC) (fun self => bind_fn X self T.tC) (by show 1 ≤ sizeLine; rw [sizeLine_eq]; decide) ?_
  refine StampBack_init (s := ⟨(hp.push (kdv_tup [v])).push (excO C hp.objs.size), g, dr, tk, os⟩) T (X.keeps k) (hlim.keeps k) (G.keeps k) (Bl.keeps k) hb hget hnx ?_ fun h' tk' dx t1 ⟨k', hx, dn, dne, hns⟩ => ?_
  · show A.depth + 1 < recursionLimit
    exact hroom
  · have old : ∀ b o, hp.get? b = some o → h'.get? b = some o := fun b o e => k' b o (Nat.ne_of_lt (Nat.lt_succ_of_lt (Heap.lt_size e))) (k b o e)
    have z : hp.objs.size + 1 + 1 ≤ dx := by
      first
        | (simpa only [Heap.size_push] using dn)
        | exact dn
        | (have q := dn; rw [Heap.size_push, Heap.size_push] at q; exact q)
    exact ⟨rfl, hq h' tk' (hp.objs.size + 1) dx ⟨old, Nat.le_succ _, ⟨_, _, hx, rfl, rfl, rfl, rfl⟩, Nat.le_trans (Nat.le_trans (Nat.le_succ _) (Nat.le_succ _)) z, dne, hns⟩⟩
end
end ZEX
end PySem
namespace L2
open PySem PySem.Spec PyProof.Rows
theorem relO_StampBack {v : V} {v' : Value} (r : RelV v v') (f : Str) : RelO (List.lookup f [(("stamp" : Str), v)]) (if f = "stamp" then some v' else none) := by
  by_cases hw : f = "stamp"
  · subst hw
    rw [if_pos rfl]
    have q : List.lookup ("stamp" : Str) [(("stamp" : Str), v)] = some v := by simp [List.lookup]
    rw [q]
    exact r
  · rw [if_neg hw]
    have qw : (f == ("stamp" : Str)) = false := by simpa using hw
    have q2 : List.lookup f [(("stamp" : Str), v)] = none := by simp [List.lookup, qw]
    rw [q2]
    trivial
section
variable {X : Cx} {C fI : Addr}
/-- StampBack(e) -/
def tMkStampBack (C : Addr) (ta : TA) : St → Hp → XK → Prop := fun σ H Q => ta σ H fun vs H1 => ∃ v, vs = [v] ∧ ∀ d, H1 d = none → Q (.ref C) (some d) (upd H1 d (.xd [(("stamp" : Str), v)]))
theorem pmk_StampBack {a : Expr} {ta : TA} {p pos : Pos} {k : Nat} (T : PySem.ZEX.StampBackTxt X.prog X.K X.mg C fI) (hr : Room k X.A) (ha : PA X [a] ta) (hg : Gl X "StampBack" := by rfl)
    (he : starEach (a :: []) X.env = (false, eval a X.env) :: starEach [] X.env := by rfl) (hpl : (backTo pos (starEach [] X.env)).any (·.1) = false := by rfl) :
    PMk X (.Call (.Name "StampBack" p) [a] [] pos) (tMkStampBack C ta) := by
  intro pins s σ H Q I h
  refine wpAny_Call_Name_kw (ld_glob I hg T.gC ?_)
  refine PySem.W.callWith_K (h₀ := X.base) I.ok.mod.kin T.kC (thn (ha.run pos pins s σ H _ I h) fun us s1 hh => ?_) he hpl
  obtain ⟨vs, H1, I1, r1, v, ev, q1⟩ := hh
  subst ev
  refine ⟨I1.kIn, ?_⟩
  cases r1 with
  | cons rv rn =>
    rename_i v' us'
    cases rn
    show wpAny _ _ (call (.ref C) [v']) _ _ _
    have hlim := I1.nolimit
    obtain ⟨mb, h1, h2⟩ := I1.mod.blt
    have hG := I1.mod.glob.keeps I1.bk
    have hB := h1.keeps I1.bk
    obtain ⟨hp, g, dr, tk, os⟩ := s1
    refine wpAny_call (PySem.ZEX.StampBack_made T I1.kIn hlim hG hB (h2 _ (by decide)) (by have := hr.dp; omega) fun h' tk' e d M => ?_)
    show MkP X pins σ Q (.ref e) ⟨h', g, dr, tk', os⟩
    obtain ⟨oe, fv, hoe, hc, hd, hdat, h1⟩ := M.obj
    have hns := M.ns
    obtain ⟨G', g1, g2⟩ := restrict h' fun b => decide (b ≠ e)
    have gk : ∀ b, b ≠ e → G'.get? b = h'.get? b := fun b hb => g1 b (decide_eq_true hb)
    have ge : G'.get? e = none := g2 e (by simp)
    have old : ∀ b o, hp.get? b = some o → G'.get? b = some o := fun b o q => (gk b (Nat.ne_of_lt (Nat.lt_of_lt_of_le (Heap.lt_size q) M.new))).trans (M.keep b o q)
    have ob : ObjOk X.prog X.w (upd H1 d (.xd [(("stamp" : Str), v)])) G' d (.xd [(("stamp" : Str), v)]) :=
      ⟨_, hns.at (fun o q => (gk d M.dne).trans q), fun f => relO_StampBack rv f⟩
    have J : Inv X pins σ (upd H1 d (.xd [(("stamp" : Str), v)])) ⟨G', g, dr, tk', os⟩ := I1.laid (t' := tk') old M.dbig ob
    refine ⟨e, oe, fv, ⟨G', g, dr, tk', os⟩, _, .ref C, some d, rfl, J, fun b o q => ?_, ge, hoe, ⟨hc, hd⟩, hdat, h1, ?_, rfl, I1.bare, raises_own T.exC T.tyC, q1 d (I1.hok.fresh M.dbig)⟩
    · by_cases hb : b = e
      · have q' : G'.get? b = some o := q
        rw [hb, ge] at q'; cases q'
      · exact (gk b hb).symm.trans q
    · rw [upd_ne (Ne.symm M.dne)]
      exact I1.hok.fresh M.new
end
end L2

set_option Elab.async false
set_option linter.all false
set_option maxRecDepth 100000
set_option maxHeartbeats 8000000
namespace Law
open PySem PySem.Spec L2 Zk
open PyProof.Rows hiding St
local macro_rules | `(tactic| walk_at "ne") => `(tactic| first
  | assumption
  | exact Ne.symm (by assumption)
  | (refine ne_of_none (H := ?zg) (o := ?zo) ?zh ?zn; (case zn => assumption); (case zh => walk_at "hold"))
  | (refine Ne.symm (ne_of_none (H := ?zg) (o := ?zo) ?zh ?zn); (case zn => assumption); (case zh => walk_at "hold")))
local macro_rules | `(tactic| walk_at "nm") => `(tactic| first
  | exact List.not_mem_nil
  | (refine nm1 ?_; walk_at "ne")
  | (refine nm2 ?_ ?_ <;> walk_at "ne")
  | assumption)
local macro_rules | `(tactic| walk_at "hold") => `(tactic| first
  | assumption
  | (refine Ext.get (M := ?em) (H := ?eg) ?ek ?eh ?en; (case ek => assumption); (case eh => walk_at "hold"); (case en => first | exact Or.inr trivial | (refine Or.inl ?_; walk_at "nm")))
  | (refine sql ?_; walk_at "hold")
  | (refine sqt ?_; walk_at "hold")
  | (refine Scr.ext (M := ?em) (H := ?eg) ?ek ?eh; (case ek => assumption); (case eh => walk_at "hold"))
  | (refine Scr.sql ?_; walk_at "hold"))
local macro_rules | `(tactic| walk_at "go1") => `(tactic| first
  | (with_reducible refine w_seq ?_)
  | (with_reducible refine w_asg ?_)
  | (with_reducible refine w_gname ?_)
  | (with_reducible refine w_op ?_)
  | ((with_reducible refine w_var (v := ?zw) ?zv ?_); (case zv => exact rfl))
  | (with_reducible refine w_c ?_)
  | (with_reducible refine w_I0 ?_)
  | (with_reducible refine w_test ?_)
  | (with_reducible refine w_bl ?_)
  | (with_reducible refine w_eqI ?_)
  | (with_reducible refine w_neI ?_)
  | (with_reducible refine w_cb ?_)
  | (with_reducible refine w_cons ?_)
  | (with_reducible refine w_nil ?_)
  | (with_reducible refine w_int ?_)
  | (with_reducible refine w_call ?_)
  | (with_reducible refine w_ret ?_)
  | ((with_reducible refine w_I ?zc ?_); (case zc => first | exact Or.inr ⟨by decide, by decide⟩ | exact Or.inl ⟨by decide, by decide⟩ | (show (0 : Int) < _; first | decide | omega) | exact ⟨by decide, by decide⟩ | (show CPow _ _; exact ⟨by decide, by decide, by decide⟩) | (refine wide_mul (a := 200) (b := 200) ?_ ?_ (by decide) (by decide) (by decide) <;> omega)))
  | ((with_reducible refine w_ixL (xs := ?zx) (v := ?zw) ?zh ?ze ?_); (case zh => walk_at "hold"); (case ze => first | exact rfl | assumption))
  | ((with_reducible refine w_ixT (xs := ?zx) (v := ?zw) ?zh ?ze ?_); (case zh => walk_at "hold"); (case ze => first | exact rfl | assumption))
  | ((with_reducible refine w_lenL (xs := ?zx) ?zh ?_); (case zh => walk_at "hold"))
  | ((with_reducible refine w_lenT (xs := ?zx) ?zh ?_); (case zh => walk_at "hold"))
  | ((with_reducible refine w_lenD (kvs := ?zx) ?zh ?_); (case zh => walk_at "hold"))
  | (with_reducible refine w_gsub ?_)
  | ((with_reducible refine w_setL (xs := ?zx) (j := ?zj) ?zh ?ze ?_); (case zh => walk_at "hold"); (case ze => first | exact rfl | assumption))
  | (with_reducible refine w_and ?_)
  | (with_reducible refine w_or ?_)
  | (with_reducible refine w_not ?_)
  | (with_reducible refine w_tB ?_)
  | (with_reducible refine w_andV ?_)
  | (with_reducible refine w_orV ?_)
  | (with_reducible refine w_notV ?_)
  | (with_reducible refine w_next ?_)
  | (with_reducible refine w_drop ?_)
  | (with_reducible refine w_retN ?_)
  | (with_reducible refine w_tup ?_)
  | (with_reducible refine w_lst ?_)
  | (with_reducible refine w_un ?_)
  | (with_reducible refine w_rU ?_)
  | (with_reducible refine w_eqS ?_)
  | (with_reducible refine w_neS ?_)
  | (with_reducible refine w_isN ?_)
  | (with_reducible refine w_isNt ?_)
  | (with_reducible refine w_isB ?_)
  | (with_reducible refine w_ltS ?_)
  | (with_reducible refine w_dnewK ?_)
  | (with_reducible refine w_dnewT ?_)
  | (with_reducible refine w_break ?_)
  | (with_reducible refine w_cont ?_)
  | (with_reducible refine w_dget ?_)
  | (with_reducible refine w_din ?_)
  | (with_reducible refine w_dnotin ?_)
  | (with_reducible refine w_yes ?_)
  | (with_reducible refine w_m1 ?_)
  | (with_reducible refine w_gcons ?_)
  | (with_reducible refine w_gnil ?_)
  | (with_reducible refine w_sdput ?_)
  | ((with_reducible refine w_gtup (xs := ?zx) ?zh ?zl ?_); (case zh => walk_at "hold"); (case zl => exact rfl))
  | (with_reducible refine w_bm ?_)
  | (with_reducible refine w_bm0 ?_)
  | ((with_reducible refine w_tyL (xs := ?zx) ?zh ?_); (case zh => walk_at "hold"))
  | (with_reducible refine w_lc ?_)
  | (with_reducible refine w_for ?_)
  | (with_reducible refine w_str ?_)
  | (with_reducible refine w_iList ?_)
  | (with_reducible refine w_iTup ?_)
  | (with_reducible refine w_iRng1 ?_)
  | (with_reducible refine w_iRng2 ?_)
  | (with_reducible refine w_iStr ?_)
  | (with_reducible refine iteT ?_)
  | (with_reducible refine iteF ?_)
  | (with_reducible refine iteNF ?_)
  | (with_reducible refine iteNT ?_))
local macro_rules | `(tactic| walk_at "go") => `(tactic| repeat walk_at "go1")
local macro_rules | `(tactic| walk_at "goa") => `(tactic| repeat (first
  | ((with_reducible refine w_modA ?zc ?_); (case zc => first | decide | omega); (intro r r0 r1))
  | walk_at "go1"))
local macro_rules | `(tactic| walk_at "if") => `(tactic| ((with_reducible refine w_ifS ?_); walk_at "go"))
local macro_rules | `(tactic| walk_at "ife") => `(tactic| ((with_reducible refine w_if ?_); walk_at "go"))
def topS (i : Nat) : Stmt := PySem.Challenge.pw_storelife_k27_journal_by_a_plain_list.main.body.getD i (.Pass ⟨0, 0, 0, 0⟩)
abbrev s_slots_of_both : Stmt := topS 6
theorem sc_slots_of_both : FnScope ["one", "other", "slot"] ["one", "other"] (defScope s_slots_of_both) := ⟨rfl, rfl, rfl, by decide +kernel, rfl, by decide +kernel, by decide +kernel⟩
abbrev s_between : Stmt := topS 7
theorem sc_between : FnScope ["before", "after", "found", "slot", "pair"] ["before", "after"] (defScope s_between) := ⟨rfl, rfl, rfl, by decide +kernel, rfl, by decide +kernel, by decide +kernel⟩
abbrev s_applied : Stmt := topS 8
theorem sc_applied : FnScope ["slots", "difference", "slot", "found", "held"] ["slots", "difference"] (defScope s_applied) := ⟨rfl, rfl, rfl, by decide +kernel, rfl, by decide +kernel, by decide +kernel⟩
abbrev s_Journal___init__ : Stmt := inClass (topS 10) 0
theorem sc_Journal___init__ : FnScope ["self", "position", "stamp", "slots", "slot"] ["self", "position", "stamp", "slots"] (defScope s_Journal___init__) := ⟨rfl, rfl, rfl, by decide +kernel, rfl, by decide +kernel, by decide +kernel⟩
abbrev s_Journal_add_record : Stmt := inClass (topS 10) 1
theorem sc_Journal_add_record : FnScope ["self", "stamp", "difference", "slot"] ["self", "stamp", "difference"] (defScope s_Journal_add_record) := ⟨rfl, rfl, rfl, by decide +kernel, rfl, by decide +kernel, by decide +kernel⟩
abbrev s_Journal_start_position : Stmt := inClass (topS 10) 2
theorem sc_Journal_start_position : FnScope ["self"] ["self"] (defScope s_Journal_start_position) := ⟨rfl, rfl, rfl, by decide +kernel, rfl, by decide +kernel, by decide +kernel⟩
abbrev s_Journal_end_position : Stmt := inClass (topS 10) 3
theorem sc_Journal_end_position : FnScope ["self"] ["self"] (defScope s_Journal_end_position) := ⟨rfl, rfl, rfl, by decide +kernel, rfl, by decide +kernel, by decide +kernel⟩
abbrev s_Journal_need_position : Stmt := inClass (topS 10) 4
theorem sc_Journal_need_position : FnScope ["self", "position"] ["self", "position"] (defScope s_Journal_need_position) := ⟨rfl, rfl, rfl, by decide +kernel, rfl, by decide +kernel, by decide +kernel⟩
abbrev s_Journal_slots_at : Stmt := inClass (topS 10) 5
theorem sc_Journal_slots_at : FnScope ["self", "position", "slot", "found", "step"] ["self", "position"] (defScope s_Journal_slots_at) := ⟨rfl, rfl, rfl, by decide +kernel, rfl, by decide +kernel, by decide +kernel⟩
abbrev s_Journal_record : Stmt := inClass (topS 10) 6
theorem sc_Journal_record : FnScope ["self", "position", "step", "slot"] ["self", "position"] (defScope s_Journal_record) := ⟨rfl, rfl, rfl, by decide +kernel, rfl, by decide +kernel, by decide +kernel⟩
abbrev s_Journal_difference_between : Stmt := inClass (topS 10) 7
theorem sc_Journal_difference_between : FnScope ["self", "one", "other"] ["self", "one", "other"] (defScope s_Journal_difference_between) := ⟨rfl, rfl, rfl, by decide +kernel, rfl, by decide +kernel, by decide +kernel⟩
abbrev s_Journal_position_at : Stmt := inClass (topS 10) 8
theorem sc_Journal_position_at : FnScope ["self", "stamp", "found", "at"] ["self", "stamp"] (defScope s_Journal_position_at) := ⟨rfl, rfl, rfl, by decide +kernel, rfl, by decide +kernel, by decide +kernel⟩
abbrev s_Journal_cut : Stmt := inClass (topS 10) 9
theorem sc_Journal_cut : FnScope ["self", "position", "gone"] ["self", "position"] (defScope s_Journal_cut) := ⟨rfl, rfl, rfl, by decide +kernel, rfl, by decide +kernel, by decide +kernel⟩
abbrev s_law_mixed : Stmt := topS 12
theorem sc_law_mixed : FnScope ["number", "place", "first", "second", "third"] ["number", "place"] (defScope s_law_mixed) := ⟨rfl, rfl, rfl, by decide +kernel, rfl, by decide +kernel, by decide +kernel⟩
abbrev s_law_rest : Stmt := topS 13
theorem sc_law_rest : FnScope ["script", "place", "fills", "number"] ["script", "place", "fills"] (defScope s_law_rest) := ⟨rfl, rfl, rfl, by decide +kernel, rfl, by decide +kernel, by decide +kernel⟩
abbrev s_law_pool : Stmt := topS 14
theorem sc_law_pool : FnScope ["script"] ["script"] (defScope s_law_pool) := ⟨rfl, rfl, rfl, by decide +kernel, rfl, by decide +kernel, by decide +kernel⟩
abbrev s_law_next : Stmt := topS 15
theorem sc_law_next : FnScope ["pool"] ["pool"] (defScope s_law_next) := ⟨rfl, rfl, rfl, by decide +kernel, rfl, by decide +kernel, by decide +kernel⟩
abbrev s_law_draw : Stmt := topS 16
theorem sc_law_draw : FnScope ["pool", "limit", "value"] ["pool", "limit"] (defScope s_law_draw) := ⟨rfl, rfl, rfl, by decide +kernel, rfl, by decide +kernel, by decide +kernel⟩
abbrev s_law_pick : Stmt := topS 17
theorem sc_law_pick : FnScope ["pool", "options"] ["pool", "options"] (defScope s_law_pick) := ⟨rfl, rfl, rfl, by decide +kernel, rfl, by decide +kernel, by decide +kernel⟩
abbrev s_law_same : Stmt := topS 18
theorem sc_law_same : FnScope ["one", "other", "key", "k"] ["one", "other"] (defScope s_law_same) := ⟨rfl, rfl, rfl, by decide +kernel, rfl, by decide +kernel, by decide +kernel⟩
abbrev s_law_name : Stmt := topS 19
theorem sc_law_name : FnScope ["pool", "signs", "first", "k"] ["pool"] (defScope s_law_name) := ⟨rfl, rfl, rfl, by decide +kernel, rfl, by decide +kernel, by decide +kernel⟩
abbrev s_law_cells : Stmt := topS 20
theorem sc_law_cells : FnScope ["pool", "cells", "k"] ["pool"] (defScope s_law_cells) := ⟨rfl, rfl, rfl, by decide +kernel, rfl, by decide +kernel, by decide +kernel⟩
abbrev s_law_content : Stmt := topS 21
theorem sc_law_content : FnScope ["pool", "slot"] ["pool", "slot"] (defScope s_law_content) := ⟨rfl, rfl, rfl, by decide +kernel, rfl, by decide +kernel, by decide +kernel⟩
abbrev s_law_universe : Stmt := topS 22
theorem sc_law_universe : FnScope ["pool", "many", "k", "names", "found", "slot"] ["pool", "many"] (defScope s_law_universe) := ⟨rfl, rfl, rfl, by decide +kernel, rfl, by decide +kernel, by decide +kernel⟩
abbrev s_law_copy : Stmt := topS 23
theorem sc_law_copy : FnScope ["row", "found", "key"] ["row"] (defScope s_law_copy) := ⟨rfl, rfl, rfl, by decide +kernel, rfl, by decide +kernel, by decide +kernel⟩
abbrev s_law_without : Stmt := topS 24
theorem sc_law_without : FnScope ["row", "gone", "found", "key"] ["row", "gone"] (defScope s_law_without) := ⟨rfl, rfl, rfl, by decide +kernel, rfl, by decide +kernel, by decide +kernel⟩
abbrev s_law_moved : Stmt := topS 25
theorem sc_law_moved : FnScope ["pool", "slots", "state", "most", "found", "k", "slot"] ["pool", "slots", "state", "most"] (defScope s_law_moved) := ⟨rfl, rfl, rfl, by decide +kernel, rfl, by decide +kernel, by decide +kernel⟩
abbrev s_law_between : Stmt := topS 26
theorem sc_law_between : FnScope ["one", "other", "found", "slot"] ["one", "other"] (defScope s_law_between) := ⟨rfl, rfl, rfl, by decide +kernel, rfl, by decide +kernel, by decide +kernel⟩
abbrev s_law_applied : Stmt := topS 27
theorem sc_law_applied : FnScope ["slots", "difference", "wrong", "found", "slot"] ["slots", "difference"] (defScope s_law_applied) := ⟨rfl, rfl, rfl, by decide +kernel, rfl, by decide +kernel, by decide +kernel⟩
abbrev s_law_told : Stmt := topS 28
theorem sc_law_told : FnScope ["journal", "question", "e"] ["journal", "question"] (defScope s_law_told) := ⟨rfl, rfl, rfl, by decide +kernel, rfl, by decide +kernel, by decide +kernel⟩
abbrev s_law_due : Stmt := topS 29
theorem sc_law_due : FnScope ["model", "question", "first", "states", "last", "found", "here", "position"] ["model", "question"] (defScope s_law_due) := ⟨rfl, rfl, rfl, by decide +kernel, rfl, by decide +kernel, by decide +kernel⟩
abbrev s_law_settle : Stmt := topS 30
theorem sc_law_settle : FnScope ["model", "question", "after"] ["model", "question"] (defScope s_law_settle) := ⟨rfl, rfl, rfl, by decide +kernel, rfl, by decide +kernel, by decide +kernel⟩
abbrev s_law_position_at : Stmt := topS 31
theorem sc_law_position_at : FnScope ["model", "stamp", "found", "k"] ["model", "stamp"] (defScope s_law_position_at) := ⟨rfl, rfl, rfl, by decide +kernel, rfl, by decide +kernel, by decide +kernel⟩
abbrev s_law_question : Stmt := topS 32
theorem sc_law_question : FnScope ["pool", "slots", "model", "long", "choice", "span", "one", "state", "stamp"] ["pool", "slots", "model", "long"] (defScope s_law_question) := ⟨rfl, rfl, rfl, by decide +kernel, rfl, by decide +kernel, by decide +kernel⟩
abbrev s_law_agrees : Stmt := topS 33
theorem sc_law_agrees : FnScope ["journal", "model", "stamp", "last", "position", "question"] ["journal", "model", "stamp"] (defScope s_law_agrees) := ⟨rfl, rfl, rfl, by decide +kernel, rfl, by decide +kernel, by decide +kernel⟩
abbrev s_law : Stmt := topS 34
theorem sc_law : FnScope ["script", "pool", "slots", "state", "model", "journal", "begin_at", "side", "many", "long", "k", "question", "due", "told", "thing", "kept"] ["script"] (defScope s_law) := ⟨rfl, rfl, rfl, by decide +kernel, rfl, by decide +kernel, by decide +kernel⟩
structure Txt (K : PySem.W.Frag) (mg : Str → Option Value) where
  f_slots_of_both : Addr
  d_slots_of_both : FuncData
  F_slots_of_both : L2.Fun K "slots_of_both" "slots_of_both" s_slots_of_both f_slots_of_both d_slots_of_both
  g_slots_of_both : mg "slots_of_both" = some (.ref f_slots_of_both)
  k_slots_of_both : Binds K d_slots_of_both ["one", "other"] []
  f_between : Addr
  d_between : FuncData
  F_between : L2.Fun K "between" "between" s_between f_between d_between
  g_between : mg "between" = some (.ref f_between)
  k_between : Binds K d_between ["before", "after"] []
  f_applied : Addr
  d_applied : FuncData
  F_applied : L2.Fun K "applied" "applied" s_applied f_applied d_applied
  g_applied : mg "applied" = some (.ref f_applied)
  k_applied : Binds K d_applied ["slots", "difference"] []
  f_Journal___init__ : Addr
  d_Journal___init__ : FuncData
  F_Journal___init__ : L2.Fun K "__init__" "Journal.__init__" s_Journal___init__ f_Journal___init__ d_Journal___init__
  k_Journal___init__ : Binds K d_Journal___init__ ["self", "position", "stamp", "slots"] []
  f_Journal_add_record : Addr
  d_Journal_add_record : FuncData
  F_Journal_add_record : L2.Fun K "add_record" "Journal.add_record" s_Journal_add_record f_Journal_add_record d_Journal_add_record
  k_Journal_add_record : Binds K d_Journal_add_record ["self", "stamp", "difference"] []
  f_Journal_start_position : Addr
  d_Journal_start_position : FuncData
  F_Journal_start_position : L2.Fun K "start_position" "Journal.start_position" s_Journal_start_position f_Journal_start_position d_Journal_start_position
  k_Journal_start_position : Binds K d_Journal_start_position ["self"] []
  f_Journal_end_position : Addr
  d_Journal_end_position : FuncData
  F_Journal_end_position : L2.Fun K "end_position" "Journal.end_position" s_Journal_end_position f_Journal_end_position d_Journal_end_position
  k_Journal_end_position : Binds K d_Journal_end_position ["self"] []
  f_Journal_need_position : Addr
  d_Journal_need_position : FuncData
  F_Journal_need_position : L2.Fun K "need_position" "Journal.need_position" s_Journal_need_position f_Journal_need_position d_Journal_need_position
  k_Journal_need_position : Binds K d_Journal_need_position ["self", "position"] []
  f_Journal_slots_at : Addr
  d_Journal_slots_at : FuncData
  F_Journal_slots_at : L2.Fun K "slots_at" "Journal.slots_at" s_Journal_slots_at f_Journal_slots_at d_Journal_slots_at
  k_Journal_slots_at : Binds K d_Journal_slots_at ["self", "position"] []
  f_Journal_record : Addr
  d_Journal_record : FuncData
  F_Journal_record : L2.Fun K "record" "Journal.record" s_Journal_record f_Journal_record d_Journal_record
  k_Journal_record : Binds K d_Journal_record ["self", "position"] []
  f_Journal_difference_between : Addr
  d_Journal_difference_between : FuncData
  F_Journal_difference_between : L2.Fun K "difference_between" "Journal.difference_between" s_Journal_difference_between f_Journal_difference_between d_Journal_difference_between
  k_Journal_difference_between : Binds K d_Journal_difference_between ["self", "one", "other"] []
  f_Journal_position_at : Addr
  d_Journal_position_at : FuncData
  F_Journal_position_at : L2.Fun K "position_at" "Journal.position_at" s_Journal_position_at f_Journal_position_at d_Journal_position_at
  k_Journal_position_at : Binds K d_Journal_position_at ["self", "stamp"] []
  f_Journal_cut : Addr
  d_Journal_cut : FuncData
  F_Journal_cut : L2.Fun K "cut" "Journal.cut" s_Journal_cut f_Journal_cut d_Journal_cut
  k_Journal_cut : Binds K d_Journal_cut ["self", "position"] []
  f__law_mixed : Addr
  d__law_mixed : FuncData
  F__law_mixed : L2.Fun K "_law_mixed" "_law_mixed" s_law_mixed f__law_mixed d__law_mixed
  g__law_mixed : mg "_law_mixed" = some (.ref f__law_mixed)
  k__law_mixed : Binds K d__law_mixed ["number", "place"] []
  f__law_rest : Addr
  d__law_rest : FuncData
  F__law_rest : L2.Fun K "_law_rest" "_law_rest" s_law_rest f__law_rest d__law_rest
  g__law_rest : mg "_law_rest" = some (.ref f__law_rest)
  k__law_rest : Binds K d__law_rest ["script", "place", "fills"] []
  f__law_pool : Addr
  d__law_pool : FuncData
  F__law_pool : L2.Fun K "_law_pool" "_law_pool" s_law_pool f__law_pool d__law_pool
  g__law_pool : mg "_law_pool" = some (.ref f__law_pool)
  k__law_pool : Binds K d__law_pool ["script"] []
  f__law_next : Addr
  d__law_next : FuncData
  F__law_next : L2.Fun K "_law_next" "_law_next" s_law_next f__law_next d__law_next
  g__law_next : mg "_law_next" = some (.ref f__law_next)
  k__law_next : Binds K d__law_next ["pool"] []
  f__law_draw : Addr
  d__law_draw : FuncData
  F__law_draw : L2.Fun K "_law_draw" "_law_draw" s_law_draw f__law_draw d__law_draw
  g__law_draw : mg "_law_draw" = some (.ref f__law_draw)
  k__law_draw : Binds K d__law_draw ["pool", "limit"] []
  f__law_pick : Addr
  d__law_pick : FuncData
  F__law_pick : L2.Fun K "_law_pick" "_law_pick" s_law_pick f__law_pick d__law_pick
  g__law_pick : mg "_law_pick" = some (.ref f__law_pick)
  k__law_pick : Binds K d__law_pick ["pool", "options"] []
  f__law_same : Addr
  d__law_same : FuncData
  F__law_same : L2.Fun K "_law_same" "_law_same" s_law_same f__law_same d__law_same
  g__law_same : mg "_law_same" = some (.ref f__law_same)
  k__law_same : Binds K d__law_same ["one", "other"] []
  f__law_name : Addr
  d__law_name : FuncData
  F__law_name : L2.Fun K "_law_name" "_law_name" s_law_name f__law_name d__law_name
  g__law_name : mg "_law_name" = some (.ref f__law_name)
  k__law_name : Binds K d__law_name ["pool"] []
  f__law_cells : Addr
  d__law_cells : FuncData
  F__law_cells : L2.Fun K "_law_cells" "_law_cells" s_law_cells f__law_cells d__law_cells
  g__law_cells : mg "_law_cells" = some (.ref f__law_cells)
  k__law_cells : Binds K d__law_cells ["pool"] []
  f__law_content : Addr
  d__law_content : FuncData
  F__law_content : L2.Fun K "_law_content" "_law_content" s_law_content f__law_content d__law_content
  g__law_content : mg "_law_content" = some (.ref f__law_content)
  k__law_content : Binds K d__law_content ["pool", "slot"] []
  f__law_universe : Addr
  d__law_universe : FuncData
  F__law_universe : L2.Fun K "_law_universe" "_law_universe" s_law_universe f__law_universe d__law_universe
  g__law_universe : mg "_law_universe" = some (.ref f__law_universe)
  k__law_universe : Binds K d__law_universe ["pool", "many"] []
  f__law_copy : Addr
  d__law_copy : FuncData
  F__law_copy : L2.Fun K "_law_copy" "_law_copy" s_law_copy f__law_copy d__law_copy
  g__law_copy : mg "_law_copy" = some (.ref f__law_copy)
  k__law_copy : Binds K d__law_copy ["row"] []
  f__law_without : Addr
  d__law_without : FuncData
  F__law_without : L2.Fun K "_law_without" "_law_without" s_law_without f__law_without d__law_without
  g__law_without : mg "_law_without" = some (.ref f__law_without)
  k__law_without : Binds K d__law_without ["row", "gone"] []
  f__law_moved : Addr
  d__law_moved : FuncData
  F__law_moved : L2.Fun K "_law_moved" "_law_moved" s_law_moved f__law_moved d__law_moved
  g__law_moved : mg "_law_moved" = some (.ref f__law_moved)
  k__law_moved : Binds K d__law_moved ["pool", "slots", "state", "most"] []
  f__law_between : Addr
  d__law_between : FuncData
  F__law_between : L2.Fun K "_law_between" "_law_between" s_law_between f__law_between d__law_between
  g__law_between : mg "_law_between" = some (.ref f__law_between)
  k__law_between : Binds K d__law_between ["one", "other"] []
  f__law_applied : Addr
  d__law_applied : FuncData
  F__law_applied : L2.Fun K "_law_applied" "_law_applied" s_law_applied f__law_applied d__law_applied
  g__law_applied : mg "_law_applied" = some (.ref f__law_applied)
  k__law_applied : Binds K d__law_applied ["slots", "difference"] []
  f__law_told : Addr
  d__law_told : FuncData
  F__law_told : L2.Fun K "_law_told" "_law_told" s_law_told f__law_told d__law_told
  g__law_told : mg "_law_told" = some (.ref f__law_told)
  k__law_told : Binds K d__law_told ["journal", "question"] []
  f__law_due : Addr
  d__law_due : FuncData
  F__law_due : L2.Fun K "_law_due" "_law_due" s_law_due f__law_due d__law_due
  g__law_due : mg "_law_due" = some (.ref f__law_due)
  k__law_due : Binds K d__law_due ["model", "question"] []
  f__law_settle : Addr
  d__law_settle : FuncData
  F__law_settle : L2.Fun K "_law_settle" "_law_settle" s_law_settle f__law_settle d__law_settle
  g__law_settle : mg "_law_settle" = some (.ref f__law_settle)
  k__law_settle : Binds K d__law_settle ["model", "question"] []
  f__law_position_at : Addr
  d__law_position_at : FuncData
  F__law_position_at : L2.Fun K "_law_position_at" "_law_position_at" s_law_position_at f__law_position_at d__law_position_at
  g__law_position_at : mg "_law_position_at" = some (.ref f__law_position_at)
  k__law_position_at : Binds K d__law_position_at ["model", "stamp"] []
  f__law_question : Addr
  d__law_question : FuncData
  F__law_question : L2.Fun K "_law_question" "_law_question" s_law_question f__law_question d__law_question
  g__law_question : mg "_law_question" = some (.ref f__law_question)
  k__law_question : Binds K d__law_question ["pool", "slots", "model", "long"] []
  f__law_agrees : Addr
  d__law_agrees : FuncData
  F__law_agrees : L2.Fun K "_law_agrees" "_law_agrees" s_law_agrees f__law_agrees d__law_agrees
  g__law_agrees : mg "_law_agrees" = some (.ref f__law_agrees)
  k__law_agrees : Binds K d__law_agrees ["journal", "model", "stamp"] []
  f_law : Addr
  d_law : FuncData
  F_law : L2.Fun K "law" "law" s_law f_law d_law
  g_law : mg "law" = some (.ref f_law)
  k_law : Binds K d_law ["script"] []
  C_Journal : Addr
  c_Journal : Cls K C_Journal
  g_Journal : mg "Journal" = some (.ref C_Journal)
  mk_Journal : Mk K C_Journal f_Journal___init__
  na_Journal_begin : NoAttr K C_Journal "begin"
  na_Journal_stamps : NoAttr K C_Journal "stamps"
  na_Journal_first_slots : NoAttr K C_Journal "first_slots"
  na_Journal_last_slots : NoAttr K C_Journal "last_slots"
  na_Journal_steps : NoAttr K C_Journal "steps"
  m_Journal___init__ : Meth K C_Journal "__init__" f_Journal___init__
  m_Journal_add_record : Meth K C_Journal "add_record" f_Journal_add_record
  m_Journal_start_position : Meth K C_Journal "start_position" f_Journal_start_position
  m_Journal_end_position : Meth K C_Journal "end_position" f_Journal_end_position
  m_Journal_need_position : Meth K C_Journal "need_position" f_Journal_need_position
  m_Journal_slots_at : Meth K C_Journal "slots_at" f_Journal_slots_at
  m_Journal_record : Meth K C_Journal "record" f_Journal_record
  m_Journal_difference_between : Meth K C_Journal "difference_between" f_Journal_difference_between
  m_Journal_position_at : Meth K C_Journal "position_at" f_Journal_position_at
  m_Journal_cut : Meth K C_Journal "cut" f_Journal_cut
  b_bool : mg "bool" = none
  b_dict : mg "dict" = none
  b_int : mg "int" = none
  b_isinstance : mg "isinstance" = none
  b_len : mg "len" = none
  b_list : mg "list" = none
  b_max : mg "max" = none
  b_min : mg "min" = none
  b_range : mg "range" = none
  b_sorted : mg "sorted" = none
  b_str : mg "str" = none
  b_tuple : mg "tuple" = none
def fs_Journal (v0 v1 v2 v3 v4 : V) : List (Str × V) := [("begin", v0), ("stamps", v1), ("first_slots", v2), ("last_slots", v3), ("steps", v4)]
theorem lk_Journal_begin {v0 v1 v2 v3 v4 : V} : (fs_Journal v0 v1 v2 v3 v4).lookup ("begin" : Str) = some v0 := lk_same
theorem pf_Journal_begin {v0 v1 v2 v3 v4 y : V} : L2.putF "begin" y (fs_Journal v0 v1 v2 v3 v4) = fs_Journal y v1 v2 v3 v4 := by
  unfold fs_Journal
  rw [pf_same]
theorem lk_Journal_stamps {v0 v1 v2 v3 v4 : V} : (fs_Journal v0 v1 v2 v3 v4).lookup ("stamps" : Str) = some v1 := (lk_other (by decide +kernel)).trans (lk_same)
theorem pf_Journal_stamps {v0 v1 v2 v3 v4 y : V} : L2.putF "stamps" y (fs_Journal v0 v1 v2 v3 v4) = fs_Journal v0 y v2 v3 v4 := by
  unfold fs_Journal
  rw [pf_other (by decide +kernel)]
  rw [pf_same]
theorem lk_Journal_first_slots {v0 v1 v2 v3 v4 : V} : (fs_Journal v0 v1 v2 v3 v4).lookup ("first_slots" : Str) = some v2 := (lk_other (by decide +kernel)).trans ((lk_other (by decide +kernel)).trans (lk_same))
theorem pf_Journal_first_slots {v0 v1 v2 v3 v4 y : V} : L2.putF "first_slots" y (fs_Journal v0 v1 v2 v3 v4) = fs_Journal v0 v1 y v3 v4 := by
  unfold fs_Journal
  rw [pf_other (by decide +kernel)]
  rw [pf_other (by decide +kernel)]
  rw [pf_same]
theorem lk_Journal_last_slots {v0 v1 v2 v3 v4 : V} : (fs_Journal v0 v1 v2 v3 v4).lookup ("last_slots" : Str) = some v3 := (lk_other (by decide +kernel)).trans ((lk_other (by decide +kernel)).trans ((lk_other (by decide +kernel)).trans (lk_same)))
theorem pf_Journal_last_slots {v0 v1 v2 v3 v4 y : V} : L2.putF "last_slots" y (fs_Journal v0 v1 v2 v3 v4) = fs_Journal v0 v1 v2 y v4 := by
  unfold fs_Journal
  rw [pf_other (by decide +kernel)]
  rw [pf_other (by decide +kernel)]
  rw [pf_other (by decide +kernel)]
  rw [pf_same]
theorem lk_Journal_steps {v0 v1 v2 v3 v4 : V} : (fs_Journal v0 v1 v2 v3 v4).lookup ("steps" : Str) = some v4 := (lk_other (by decide +kernel)).trans ((lk_other (by decide +kernel)).trans ((lk_other (by decide +kernel)).trans ((lk_other (by decide +kernel)).trans (lk_same))))
theorem pf_Journal_steps {v0 v1 v2 v3 v4 y : V} : L2.putF "steps" y (fs_Journal v0 v1 v2 v3 v4) = fs_Journal v0 v1 v2 v3 y := by
  unfold fs_Journal
  rw [pf_other (by decide +kernel)]
  rw [pf_other (by decide +kernel)]
  rw [pf_other (by decide +kernel)]
  rw [pf_other (by decide +kernel)]
  rw [pf_same]
theorem pi_Journal_begin { y : V} : L2.putF "begin" y ([] : List (Str × V)) = ([("begin", y)] : List (Str × V)) := by
  rfl
theorem pi_Journal_stamps {v0 y : V} : L2.putF "stamps" y ([("begin", v0)] : List (Str × V)) = ([("begin", v0), ("stamps", y)] : List (Str × V)) := by
  rw [pf_other (by decide +kernel)]
  rfl
theorem pi_Journal_first_slots {v0 v1 y : V} : L2.putF "first_slots" y ([("begin", v0), ("stamps", v1)] : List (Str × V)) = ([("begin", v0), ("stamps", v1), ("first_slots", y)] : List (Str × V)) := by
  rw [pf_other (by decide +kernel)]
  rw [pf_other (by decide +kernel)]
  rfl
theorem pi_Journal_last_slots {v0 v1 v2 y : V} : L2.putF "last_slots" y ([("begin", v0), ("stamps", v1), ("first_slots", v2)] : List (Str × V)) = ([("begin", v0), ("stamps", v1), ("first_slots", v2), ("last_slots", y)] : List (Str × V)) := by
  rw [pf_other (by decide +kernel)]
  rw [pf_other (by decide +kernel)]
  rw [pf_other (by decide +kernel)]
  rfl
theorem pi_Journal_steps {v0 v1 v2 v3 y : V} : L2.putF "steps" y ([("begin", v0), ("stamps", v1), ("first_slots", v2), ("last_slots", v3)] : List (Str × V)) = ([("begin", v0), ("stamps", v1), ("first_slots", v2), ("last_slots", v3), ("steps", y)] : List (Str × V)) := by
  rw [pf_other (by decide +kernel)]
  rw [pf_other (by decide +kernel)]
  rw [pf_other (by decide +kernel)]
  rw [pf_other (by decide +kernel)]
  rfl
theorem no_Journal___init__ {v0 v1 v2 v3 v4 : V} : (fs_Journal v0 v1 v2 v3 v4).lookup ("__init__" : Str) = none := (lk_other (by decide +kernel)).trans ((lk_other (by decide +kernel)).trans ((lk_other (by decide +kernel)).trans ((lk_other (by decide +kernel)).trans ((lk_other (by decide +kernel)).trans (rfl)))))
theorem no_Journal_add_record {v0 v1 v2 v3 v4 : V} : (fs_Journal v0 v1 v2 v3 v4).lookup ("add_record" : Str) = none := (lk_other (by decide +kernel)).trans ((lk_other (by decide +kernel)).trans ((lk_other (by decide +kernel)).trans ((lk_other (by decide +kernel)).trans ((lk_other (by decide +kernel)).trans (rfl)))))
theorem no_Journal_start_position {v0 v1 v2 v3 v4 : V} : (fs_Journal v0 v1 v2 v3 v4).lookup ("start_position" : Str) = none := (lk_other (by decide +kernel)).trans ((lk_other (by decide +kernel)).trans ((lk_other (by decide +kernel)).trans ((lk_other (by decide +kernel)).trans ((lk_other (by decide +kernel)).trans (rfl)))))
theorem no_Journal_end_position {v0 v1 v2 v3 v4 : V} : (fs_Journal v0 v1 v2 v3 v4).lookup ("end_position" : Str) = none := (lk_other (by decide +kernel)).trans ((lk_other (by decide +kernel)).trans ((lk_other (by decide +kernel)).trans ((lk_other (by decide +kernel)).trans ((lk_other (by decide +kernel)).trans (rfl)))))
theorem no_Journal_need_position {v0 v1 v2 v3 v4 : V} : (fs_Journal v0 v1 v2 v3 v4).lookup ("need_position" : Str) = none := (lk_other (by decide +kernel)).trans ((lk_other (by decide +kernel)).trans ((lk_other (by decide +kernel)).trans ((lk_other (by decide +kernel)).trans ((lk_other (by decide +kernel)).trans (rfl)))))
theorem no_Journal_slots_at {v0 v1 v2 v3 v4 : V} : (fs_Journal v0 v1 v2 v3 v4).lookup ("slots_at" : Str) = none := (lk_other (by decide +kernel)).trans ((lk_other (by decide +kernel)).trans ((lk_other (by decide +kernel)).trans ((lk_other (by decide +kernel)).trans ((lk_other (by decide +kernel)).trans (rfl)))))
theorem no_Journal_record {v0 v1 v2 v3 v4 : V} : (fs_Journal v0 v1 v2 v3 v4).lookup ("record" : Str) = none := (lk_other (by decide +kernel)).trans ((lk_other (by decide +kernel)).trans ((lk_other (by decide +kernel)).trans ((lk_other (by decide +kernel)).trans ((lk_other (by decide +kernel)).trans (rfl)))))
theorem no_Journal_difference_between {v0 v1 v2 v3 v4 : V} : (fs_Journal v0 v1 v2 v3 v4).lookup ("difference_between" : Str) = none := (lk_other (by decide +kernel)).trans ((lk_other (by decide +kernel)).trans ((lk_other (by decide +kernel)).trans ((lk_other (by decide +kernel)).trans ((lk_other (by decide +kernel)).trans (rfl)))))
theorem no_Journal_position_at {v0 v1 v2 v3 v4 : V} : (fs_Journal v0 v1 v2 v3 v4).lookup ("position_at" : Str) = none := (lk_other (by decide +kernel)).trans ((lk_other (by decide +kernel)).trans ((lk_other (by decide +kernel)).trans ((lk_other (by decide +kernel)).trans ((lk_other (by decide +kernel)).trans (rfl)))))
theorem no_Journal_cut {v0 v1 v2 v3 v4 : V} : (fs_Journal v0 v1 v2 v3 v4).lookup ("cut" : Str) = none := (lk_other (by decide +kernel)).trans ((lk_other (by decide +kernel)).trans ((lk_other (by decide +kernel)).trans ((lk_other (by decide +kernel)).trans ((lk_other (by decide +kernel)).trans (rfl)))))
local macro_rules | `(tactic| walk_at "go1") => do let c := Lean.mkIdent `T.c_Journal; let n := Lean.mkIdent `T.na_Journal_begin; `(tactic| ((refine ⟨_, _, ?fx, fs_Journal ?f0 ?f1 ?f2 ?f3 ?f4, _, rfl, ?zh, $c, $n, lk_Journal_begin, ?_⟩); (case zh => walk_at "hold")))
local macro_rules | `(tactic| walk_at "go1") => do let c := Lean.mkIdent `T.c_Journal; let n := Lean.mkIdent `T.na_Journal_stamps; `(tactic| ((refine ⟨_, _, ?fx, fs_Journal ?f0 ?f1 ?f2 ?f3 ?f4, _, rfl, ?zh, $c, $n, lk_Journal_stamps, ?_⟩); (case zh => walk_at "hold")))
local macro_rules | `(tactic| walk_at "go1") => do let c := Lean.mkIdent `T.c_Journal; let n := Lean.mkIdent `T.na_Journal_first_slots; `(tactic| ((refine ⟨_, _, ?fx, fs_Journal ?f0 ?f1 ?f2 ?f3 ?f4, _, rfl, ?zh, $c, $n, lk_Journal_first_slots, ?_⟩); (case zh => walk_at "hold")))
local macro_rules | `(tactic| walk_at "go1") => do let c := Lean.mkIdent `T.c_Journal; let n := Lean.mkIdent `T.na_Journal_last_slots; `(tactic| ((refine ⟨_, _, ?fx, fs_Journal ?f0 ?f1 ?f2 ?f3 ?f4, _, rfl, ?zh, $c, $n, lk_Journal_last_slots, ?_⟩); (case zh => walk_at "hold")))
local macro_rules | `(tactic| walk_at "go1") => do let c := Lean.mkIdent `T.c_Journal; let n := Lean.mkIdent `T.na_Journal_steps; `(tactic| ((refine ⟨_, _, ?fx, fs_Journal ?f0 ?f1 ?f2 ?f3 ?f4, _, rfl, ?zh, $c, $n, lk_Journal_steps, ?_⟩); (case zh => walk_at "hold")))
local macro_rules | `(tactic| walk_at "go1") => `(tactic| first | (with_reducible refine w_tfld ?_) | (with_reducible refine w_tsfld ?_) | (with_reducible refine w_tmeth ?_) | (with_reducible refine w_tmethT ?_) | (with_reducible refine w_tmake ?_) | (with_reducible refine w_slice ?_) | (with_reducible refine w_noPart ?_) | (with_reducible refine w_part ?_) | (with_reducible refine w_max2 ?_))
structure Errs (P : Program) (K : PySem.W.Frag) (mg : Str → Option Value) where
  C_StoreError : Addr
  g_StoreError : mg "StoreError" = some (.ref C_StoreError)
  C_Mismatch : Addr
  g_Mismatch : mg "Mismatch" = some (.ref C_Mismatch)
  C_NoMoment : Addr
  g_NoMoment : mg "NoMoment" = some (.ref C_NoMoment)
  C_StampBack : Addr
  g_StampBack : mg "StampBack" = some (.ref C_StampBack)
  C_Journal : Addr
  g_Journal : mg "Journal" = some (.ref C_Journal)
  I_Mismatch : Addr
  E_Mismatch : PySem.ZEX.MismatchTxt P K mg C_Mismatch I_Mismatch
  x_Mismatch : XfC K C_Mismatch
  i_Mismatch : ExcC K C_Mismatch
  t_Mismatch : PySem.W.exmOne K (.ref C_Mismatch) (.ref C_Mismatch) = some true
  I_NoMoment : Addr
  E_NoMoment : PySem.ZEX.NoMomentTxt P K mg C_NoMoment I_NoMoment
  x_NoMoment : XfC K C_NoMoment
  i_NoMoment : ExcC K C_NoMoment
  t_NoMoment : PySem.W.exmOne K (.ref C_NoMoment) (.ref C_NoMoment) = some true
  I_StampBack : Addr
  E_StampBack : PySem.ZEX.StampBackTxt P K mg C_StampBack I_StampBack
  x_StampBack : XfC K C_StampBack
  i_StampBack : ExcC K C_StampBack
  t_StampBack : PySem.W.exmOne K (.ref C_StampBack) (.ref C_StampBack) = some true
  n_Mismatch_NoMoment : PySem.W.exmOne K (.ref C_Mismatch) (.ref C_NoMoment) = some false
  n_StampBack_NoMoment : PySem.W.exmOne K (.ref C_StampBack) (.ref C_NoMoment) = some false
  n_StampBack_Mismatch : PySem.W.exmOne K (.ref C_StampBack) (.ref C_Mismatch) = some false
  k_s1 : PySem.W.kitOne K (.ref C_NoMoment) (.ref C_StoreError) = some true
  k_s2 : PySem.W.kitOne K (.ref C_NoMoment) (.ref C_Mismatch) = some false
  k_s3 : PySem.W.kitOne K (.ref C_Mismatch) (.ref C_StoreError) = some true
  k_s4 : PySem.W.kitOne K (.ref C_StampBack) (.ref C_StoreError) = some true
section
variable {P : Program} {w : World} {K : PySem.W.Frag} {mg : Str → Option Value} {base : Heap}

/-! ### the drawn numbers -/
def sp_law_mixed (K : PySem.W.Frag) : Sp := sp2 fun a b H Q => ∃ n p, a = .int n ∧ b = .int p ∧ ∀ v : Int, 0 ≤ v → Q (.int v) H
theorem ok_law_mixed (T : Txt K mg) : FnOk P w K mg base CX0 1 T.f__law_mixed T.d__law_mixed ["number", "place"] (sp_law_mixed K) := by
  refine T.F__law_mixed.ok sc_law_mixed len2 (fun cdv A outer s H vs Q E hr h => ?_)
  have nd := sc_law_mixed.nd
  have hu := hu_of hr
  obtain ⟨_, _, rfl, n, p, rfl, rfl, k⟩ := h
  refine ⟨_,
      (pss_cons (ps_set (i := 2) nd rfl (Or.inl rfl) (pe_op op_mod (pe_callTy zc_int (by rfl) T.b_int (by decide +kernel) (pa_cons (pe_op op_add (pe_op op_add (pe_op op_mul (pv 0) pe_int) (pe_op op_mul (pv 1) pe_int)) pe_int) pa_nil)) pe_int)) 
      (pss_cons (ps_set (i := 3) nd rfl (Or.inl rfl) (pe_op op_mod (pe_callTy zc_int (by rfl) T.b_int (by decide +kernel) (pa_cons (pe_op op_add (pe_op op_add (pe_op op_mulW (pv 2) (pv 2)) (pe_op op_mul pe_int (pv 2))) (pv 1)) pa_nil)) pe_int)) 
      (pss_cons (ps_set (i := 4) nd rfl (Or.inl rfl) (pe_op op_mod (pe_callTy zc_int (by rfl) T.b_int (by decide +kernel) (pa_cons (pe_op op_add (pe_op op_mulW (pv 3) (pv 3)) (pv 2)) pa_nil)) pe_int)) 
      (pss_one (ps_ret (pe_op op_add (pe_op op_mulW (pv 3) pe_int) (pv 4))))))), ?_⟩
  change (_ : TS) _ [some _, some _, none, none, none] _
  try dsimp only [cxOf, Cx.nox, Cx.wish]
  walk_at "goa"
  refine k _ ?_
  omega
def sp_law_rest (K : PySem.W.Frag) : Sp := sp3 fun a b c H Q => ∃ (sc : Addr) (ns : List Int) (p f : Int), a = .ref sc ∧ b = .int p ∧ c = .int f ∧ Scr K H sc (ns.map V.int) ∧ ∀ v : Int, 0 ≤ v → Q (.int v) H
theorem ok_law_rest (T : Txt K mg) : FnOk P w K mg base CX0 2 T.f__law_rest T.d__law_rest ["script", "place", "fills"] (sp_law_rest K) := by
  refine T.F__law_rest.ok sc_law_rest len3 (fun cdv A outer s H vs Q E hr h => ?_)
  have nd := sc_law_rest.nd
  have hu := hu_of hr
  obtain ⟨_, _, _, rfl, sc, ns, p, f, rfl, rfl, rfl, hS, k⟩ := h
  refine ⟨_,
      (pss_cons (ps_set (i := 3) nd rfl (Or.inl rfl) pe_int) 
      (pss_cons (ps_if (pt_cmpR op_gt (pe_callB zc_len (by rfl) T.b_len (by decide +kernel) (pa_cons (pv 0) pa_nil)) pe_int (nomark _)) 
        (pss_one (ps_set (i := 3) nd rfl (Or.inl rfl) (pe_callTy zc_int (by rfl) T.b_int (by decide +kernel) (pa_cons (pe_ix ix_list (pv 0) (pe_op op_mod (pe_callTy zc_int (by rfl) T.b_int (by decide +kernel) (pa_cons (pv 1) pa_nil)) (pe_callB zc_len (by rfl) T.b_len (by decide +kernel) (pa_cons (pv 0) pa_nil))) (fun _ _ => rfl)) pa_nil)))) pss_nil) 
      (pss_cons (ps_if (pt_cmpR op_lt (pv 3) pe_int (nomark _)) 
        (pss_one (ps_set (i := 3) nd rfl (Or.inl rfl) (pe_op op_sub pe_int (pe_op op_mul pe_int (pv 3))))) pss_nil) 
      (pss_cons (ps_if (PW.pt (pw_and (pt_cmpR op_eq (pv 2) pe_int (nomark _)) (pw_and (pt_cmpR op_lt (pv 1) (pe_callB zc_len (by rfl) T.b_len (by decide +kernel) (pa_cons (pv 0) pa_nil)) (nomark _)) (pw_and1 (pt_cmpR op_ge (pv 3) (pe_op op_pow pe_int pe_int) (nomark _)))))) 
        (pss_one (ps_ret (pe_op op_sub (pv 3) (pe_op op_pow pe_int pe_int)))) pss_nil) 
      (pss_one (ps_ret (pe_call (ok_law_mixed T) (hr.mono (by decide)) (by rfl) T.g__law_mixed T.F__law_mixed.kp T.k__law_mixed .nil pass0 (pa_cons (pe_op op_add (pv 3) (pe_op op_mul (pv 2) pe_int)) (pa_cons (pv 1) pa_nil))))))))), ?_⟩
  change (_ : TS) _ [some _, some _, some _, none] _
  try dsimp only [cxOf, Cx.nox, Cx.wish]
  have hS2 := hS.sql
  walk_at "go"
  refine w_cut (fun σ' H' => H = H' ∧ ∃ n : Int, σ' = [some (V.ref sc), some (V.int p), some (V.int f), some (V.int n)]) ?_ fun nx hn => ?_
  · rintro _ _ ⟨rfl, n, rfl⟩
    walk_at "go"
    refine w_cut (fun σ' H' => H = H' ∧ ∃ n : Int, 0 ≤ n ∧ σ' = [some (V.ref sc), some (V.int p), some (V.int f), some (V.int n)]) ?_ fun nx hn => ?_
    · rintro _ _ ⟨rfl, n, n0, rfl⟩
      walk_at "go"
      refine w_cut (fun σ' H' => H = H' ∧ σ' = [some (V.ref sc), some (V.int p), some (V.int f), some (V.int n)]) ?_ fun nx hn => ?_
      · rintro _ _ ⟨rfl, rfl⟩
        walk_at "go"
        exact w_sp2 ⟨_, _, rfl, rfl, k⟩
      · walk_at "if"
        refine w_d (fun h => ?_) fun h => ?_ <;> walk_at "go"
        · refine w_d (fun h => ?_) fun h => ?_ <;> walk_at "go"
          · refine w_d (fun h => ?_) fun h => ?_ <;> walk_at "go"
            · exact k _ (by omega)
            · exact hn _ _ ⟨rfl, rfl⟩
          · exact hn _ _ ⟨rfl, rfl⟩
        · exact hn _ _ ⟨rfl, rfl⟩
    · walk_at "if"
      refine w_d (fun h => ?_) fun h => ?_ <;> walk_at "go"
      · exact hn _ _ ⟨rfl, _, by omega, rfl⟩
      · exact hn _ _ ⟨rfl, _, by omega, rfl⟩
  · walk_at "if"
    refine w_d (fun h => ?_) fun h => ?_
    · walk_at "goa"
      rename_i r r0 r1
      rw [List.length_map] at r1
      obtain ⟨z, _, hz⟩ := at_map (f := V.int) r0 r1
      refine w_ixL hS2 hz ?_
      walk_at "go"
      exact hn _ _ ⟨rfl, _, rfl⟩
    · walk_at "go"
      exact hn _ _ ⟨rfl, _, rfl⟩
/-- the pool: the script, a place, what is left of the number, how often it was filled -/
def PoolAt (K : PySem.W.Frag) (H : Hp) (p : Addr) : Prop := ∃ (sc : Addr) (ns : List Int) (pl re fi : Int), H p = some (.lst [.ref sc, .int pl, .int re, .int fi]) ∧ Scr K H sc (ns.map V.int) ∧ 0 ≤ re
theorem PoolAt.ext {M : List Addr} {H H' : Hp} {p : Addr} (e : Ext M H H') (h : PoolAt K H p) (n : p ∉ M) : PoolAt K H' p := by
  obtain ⟨sc, ns, pl, re, fi, h1, h2, h3⟩ := h
  exact ⟨sc, ns, pl, re, fi, e.keep _ _ h1 n, h2.ext e, h3⟩
theorem PoolAt.ne {H : Hp} {p q : Addr} (h : PoolAt K H p) (n : H q = none) : p ≠ q := by
  obtain ⟨sc, ns, pl, re, fi, h1, h2, h3⟩ := h
  exact ne_of_none h1 n
def sp_law_pool (K : PySem.W.Frag) : Sp := sp1 fun a H Q => ∃ (sc : Addr) (ns : List Int), a = .ref sc ∧ Scr K H sc (ns.map V.int) ∧ ∀ p H', Ext [] H H' → H p = none → PoolAt K H' p → Q (.ref p) H'
theorem ok_law_pool (T : Txt K mg) : FnOk P w K mg base CX0 3 T.f__law_pool T.d__law_pool ["script"] (sp_law_pool K) := by
  refine T.F__law_pool.ok sc_law_pool len1 (fun cdv A outer s H vs Q E hr h => ?_)
  have nd := sc_law_pool.nd
  have hu := hu_of hr
  obtain ⟨_, rfl, sc, ns, rfl, hS, k⟩ := h
  refine ⟨_,
      (pss_one (ps_ret (pe_lstZ (pa_cons (pv 0) (pa_cons pe_int (pa_cons (pe_call (ok_law_rest T) (hr.mono (by decide)) (by rfl) T.g__law_rest T.F__law_rest.kp T.k__law_rest .nil pass0 (pa_cons (pv 0) (pa_cons pe_int (pa_cons pe_int pa_nil)))) (pa_cons pe_int pa_nil))))))), ?_⟩
  change (_ : TS) _ [some _] _
  try dsimp only [cxOf, Cx.nox, Cx.wish]
  walk_at "go"
  refine w_sp3 ⟨_, _, _, _, rfl, rfl, rfl, hS, fun v v0 => ?_⟩
  walk_at "go"
  refine ⟨sz (by show 4 ≤ _; decide), w_alc fun p H1 e1 n1 h1 => ?_⟩
  exact k p H1 e1 n1 ⟨sc, ns, _, _, _, h1, hS.ext e1, v0⟩
def sp_law_draw (K : PySem.W.Frag) : Sp := sp2 fun a b H Q => ∃ (p : Addr) (l : Int), a = .ref p ∧ b = .int l ∧ PoolAt K H p ∧ 0 < l ∧ l < 2 ^ 200 ∧ ∀ v H', 0 ≤ v → v < l → Ext [p] H H' → PoolAt K H' p → Q (.int v) H'
theorem ok_law_draw (T : Txt K mg) : FnOk P w K mg base CX0 3 T.f__law_draw T.d__law_draw ["pool", "limit"] (sp_law_draw K) := by
  refine T.F__law_draw.ok sc_law_draw len2 (fun cdv A outer s H vs Q E hr h => ?_)
  have nd := sc_law_draw.nd
  have hu := hu_of hr
  obtain ⟨_, _, rfl, p, l, rfl, rfl, hP, l0, l1, k⟩ := h
  refine ⟨_,
      (pss_cons (ps_if (pt_cmpR op_le (pe_ix ix_list (pv 0) pe_int (fun _ _ => rfl)) pe_int (nomark _)) 
        (pss_cons (ps_asg (pe_op op_add (pe_ix ix_list (pv 0) pe_int (fun _ _ => rfl)) pe_int) (pg_sub (pv 0) pe_int zset_list)) 
        (pss_one (ps_asg (pe_call (ok_law_rest T) (hr.mono (by decide)) (by rfl) T.g__law_rest T.F__law_rest.kp T.k__law_rest .nil pass0 (pa_cons (pe_ix ix_list (pv 0) pe_int (fun _ _ => rfl)) (pa_cons (pe_ix ix_list (pv 0) pe_int (fun _ _ => rfl)) (pa_cons (pe_ix ix_list (pv 0) pe_int (fun _ _ => rfl)) pa_nil)))) (pg_sub (pv 0) pe_int zset_list)))) pss_nil) 
      (pss_cons (ps_set (i := 2) nd rfl (Or.inl rfl) (pe_op op_mod (pe_callTy zc_int (by rfl) T.b_int (by decide +kernel) (pa_cons (pe_ix ix_list (pv 0) pe_int (fun _ _ => rfl)) pa_nil)) (pv 1))) 
      (pss_cons (ps_asg (pe_op op_fdivW (pe_callTy zc_int (by rfl) T.b_int (by decide +kernel) (pa_cons (pe_ix ix_list (pv 0) pe_int (fun _ _ => rfl)) pa_nil)) (pv 1)) (pg_sub (pv 0) pe_int zset_list)) 
      (pss_one (ps_ret (pv 2)))))), ?_⟩
  change (_ : TS) _ [some _, some _, none] _
  try dsimp only [cxOf, Cx.nox, Cx.wish]
  walk_at "go"
  refine w_cut (fun σ' H' => Ext [p] H H' ∧ PoolAt K H' p ∧ σ' = [some (V.ref p), some (V.int l), none]) ?_ fun nx hn => ?_
  · rintro _ H1 ⟨e1, ⟨sc, ns, pl, re, fi, h1, h2, h3⟩, rfl⟩
    walk_at "goa"
    rename_i r r0 r1
    refine w_I (wide_div (b := 200) l0 (by omega) (by decide) (by decide)) ?_
    walk_at "go"
    refine w_chg h1 (fun z => z) fun H2 e2 h4 => ?_
    walk_at "go"
    exact k r H2 r0 r1 (e1.trans e2) ⟨sc, ns, _, _, _, h4, h2.ext e2, Int.ediv_nonneg h3 (by omega)⟩
  · obtain ⟨sc, ns, pl, re, fi, h1, h2, h3⟩ := id hP
    walk_at "if"
    refine w_d (fun h => ?_) fun h => ?_ <;> walk_at "go"
    · refine w_chg h1 (fun z => z) fun H2 e2 h4 => ?_
      change H2 p = some (.lst [.ref sc, .int pl, .int re, .int (fi + 1)]) at h4
      walk_at "go"
      refine w_sp3 ⟨_, _, _, _, rfl, rfl, rfl, h2.ext e2, fun v v0 => ?_⟩
      walk_at "go"
      refine w_chg h4 (fun z => z) fun H3 e3 h5 => ?_
      exact hn _ _ ⟨e2.trans e3, ⟨sc, ns, _, _, _, h5, (h2.ext e2).ext e3, v0⟩, rfl⟩
    · exact hn _ _ ⟨Ext.refl, hP, rfl⟩
theorem w_draw {H : Hp} {p : Addr} {l : Int} {Q : VK} {E : XK} (hP : PoolAt K H p) (l0 : 0 < l) (l1 : l < 2 ^ 200) (k : ∀ v H', 0 ≤ v → v < l → Ext [p] H H' → PoolAt K H' p → Q (.int v) H') :
    sp_law_draw K ([.ref p, .int l] ++ []) H Q E := ⟨_, _, rfl, p, l, rfl, rfl, hP, l0, l1, k⟩

/-! ### the next cell of the script; a drawn item -/
def sp_law_next (K : PySem.W.Frag) : Sp := sp1 fun a H Q => ∃ p, a = .ref p ∧ PoolAt K H p ∧ ∀ H', Ext [p] H H' → PoolAt K H' p → Q .non H'
theorem ok_law_next (T : Txt K mg) : FnOk P w K mg base CX0 3 T.f__law_next T.d__law_next ["pool"] (sp_law_next K) := by
  refine T.F__law_next.ok sc_law_next len1 (fun cdv A outer s H vs Q E hr h => ?_)
  have nd := sc_law_next.nd
  have hu := hu_of hr
  obtain ⟨_, rfl, p, rfl, ⟨sc, ns, pl, re, fi, h1, h2, h3⟩, k⟩ := h
  refine ⟨_,
      (pss_cons (ps_asg (pe_op op_add (pe_ix ix_list (pv 0) pe_int (fun _ _ => rfl)) pe_int) (pg_sub (pv 0) pe_int zset_list)) 
      (pss_cons (ps_asg (pe_call (ok_law_rest T) (hr.mono (by decide)) (by rfl) T.g__law_rest T.F__law_rest.kp T.k__law_rest .nil pass0 (pa_cons (pe_ix ix_list (pv 0) pe_int (fun _ _ => rfl)) (pa_cons (pe_ix ix_list (pv 0) pe_int (fun _ _ => rfl)) (pa_cons pe_int pa_nil)))) (pg_sub (pv 0) pe_int zset_list)) 
      (pss_one (ps_asg pe_int (pg_sub (pv 0) pe_int zset_list))))), ?_⟩
  change (_ : TS) _ [some _] _
  try dsimp only [cxOf, Cx.nox, Cx.wish]
  walk_at "go"
  refine w_chg h1 (fun z => z) fun H1 e1 g1 => ?_
  change H1 p = some (.lst [.ref sc, .int (pl + 1), .int re, .int fi]) at g1
  walk_at "go"
  refine w_sp3 ⟨_, _, _, _, rfl, rfl, rfl, h2.ext e1, fun v v0 => ?_⟩
  walk_at "go"
  refine w_chg g1 (fun z => z) fun H2 e2 g2 => ?_
  change H2 p = some (.lst [.ref sc, .int (pl + 1), .int v, .int fi]) at g2
  walk_at "go"
  refine w_chg g2 (fun z => z) fun H3 e3 g3 => ?_
  exact k _ ((e1.trans e2).trans e3) ⟨sc, ns, _, _, _, g3, ((h2.ext e1).ext e2).ext e3, v0⟩
theorem w_next_ {H : Hp} {p : Addr} {Q : VK} {E : XK} (hP : PoolAt K H p) (k : ∀ H', Ext [p] H H' → PoolAt K H' p → Q .non H') : sp_law_next K ([.ref p] ++ []) H Q E := ⟨_, rfl, p, rfl, hP, k⟩
def sp_law_pick (K : PySem.W.Frag) : Sp := sp2 fun a b H Q => ∃ (p o : Addr) (xs : List V), a = .ref p ∧ b = .ref o ∧ PoolAt K H p ∧ H o = some (.lst xs) ∧ o ≠ p ∧ 0 < xs.length ∧ xs.length ≤ 1000 ∧ ∀ v H', v ∈ xs → Ext [p] H H' → PoolAt K H' p → Q v H'
theorem ok_law_pick (T : Txt K mg) : FnOk P w K mg base CX0 4 T.f__law_pick T.d__law_pick ["pool", "options"] (sp_law_pick K) := by
  refine T.F__law_pick.ok sc_law_pick len2 (fun cdv A outer s H vs Q E hr h => ?_)
  have nd := sc_law_pick.nd
  have hu := hu_of hr
  obtain ⟨_, _, rfl, p, o, xs, rfl, rfl, hP, ho, n, l0, l1, k⟩ := h
  refine ⟨_,
      (pss_one (ps_ret (pe_ix ix_list (pv 1) (pe_call (ok_law_draw T) (hr.mono (by decide)) (by rfl) T.g__law_draw T.F__law_draw.kp T.k__law_draw .nil pass0 (pa_cons (pv 0) (pa_cons (pe_callB zc_len (by rfl) T.b_len (by decide +kernel) (pa_cons (pv 1) pa_nil)) pa_nil))) (fun _ _ => rfl)))), ?_⟩
  change (_ : TS) _ [some _, some _] _
  try dsimp only [cxOf, Cx.nox, Cx.wish]
  walk_at "go"
  refine w_draw hP (by omega) (by omega) fun r H1 r0 r1 e1 hP1 => ?_
  obtain ⟨v, hv, hm⟩ := at_some r0 r1
  refine w_ixL (sql (e1.keep _ _ ho (nm1 n))) hv ?_
  exact k v H1 (List.mem_of_getElem? hm) e1 hP1
theorem w_pick {H : Hp} {p o : Addr} {xs : List V} {Q : VK} {E : XK} (hP : PoolAt K H p) (ho : H o = some (.lst xs)) (n : o ≠ p) (l0 : 0 < xs.length) (l1 : xs.length ≤ 1000) (k : ∀ v H', v ∈ xs → Ext [p] H H' → PoolAt K H' p → Q v H') :
    sp_law_pick K ([.ref p, .ref o] ++ []) H Q E := ⟨_, _, rfl, p, o, xs, rfl, rfl, hP, ho, n, l0, l1, k⟩

/-! ### _law_same of what is the same -/
def sp_same (n : Nat) (K : PySem.W.Frag) : Sp := sp2 fun a b H Q => (∃ U, Sq U n H a b) ∧ ∀ H', Ext [] H H' → Q (.bl true) H'
theorem ok_same_no (T : Txt K mg) : FnOk P w K mg base CX0 0 T.f__law_same T.d__law_same ["one", "other"] (sp_same 0 K) :=
  ⟨fun _ _ _ _ h => by obtain ⟨_, _, rfl, _⟩ := h; rfl, fun _ _ _ _ _ _ _ _ _ _ _ _ _ h => by obtain ⟨_, _, _, ⟨_, h⟩, _⟩ := h; exact h.elim⟩
theorem step_same (T : Txt K mg)  (n l : Nat) (ih : FnOk P w K mg base CX0 l T.f__law_same T.d__law_same ["one", "other"] (sp_same n K)) : FnOk P w K mg base CX0 (l+1) T.f__law_same T.d__law_same ["one", "other"] (sp_same (n+1) K) := by
  refine T.F__law_same.ok sc_law_same len2 (fun cdv A outer s H vs Q E hr h => ?_)
  have nd := sc_law_same.nd
  have hu := hu_of hr
  obtain ⟨a, b, rfl, ⟨U, h⟩, k⟩ := h
  refine ⟨_,
      (pss_cons (ps_if (pt_cmpR zop_isN (pv 0) pe_non (nomark _)) 
        (pss_one (ps_ret (pe_cmpR zop_isN (pv 1) pe_non (nomark _)))) pss_nil) 
      (pss_cons (ps_if (PW.pt (pw_or (pt_val (pe_callB call_isi (by rfl) T.b_isinstance (by decide +kernel) (pa_cons (pv 0) (pa_cons (pe_bltn (v := .ty "bool") (by rfl) T.b_bool (by decide +kernel) rfl) pa_nil)))) (pw_or1 (pt_val (pe_callB call_isi (by rfl) T.b_isinstance (by decide +kernel) (pa_cons (pv 1) (pa_cons (pe_bltn (v := .ty "bool") (by rfl) T.b_bool (by decide +kernel) rfl) pa_nil))))))) 
        (pss_one (ps_ret (pe_and (pe_callB call_isi (by rfl) T.b_isinstance (by decide +kernel) (pa_cons (pv 0) (pa_cons (pe_bltn (v := .ty "bool") (by rfl) T.b_bool (by decide +kernel) rfl) pa_nil))) (pe_and (pe_callB call_isi (by rfl) T.b_isinstance (by decide +kernel) (pa_cons (pv 1) (pa_cons (pe_bltn (v := .ty "bool") (by rfl) T.b_bool (by decide +kernel) rfl) pa_nil))) (pe_one (pe_cmpR op_eq (pv 0) (pv 1) (nomark _))))))) pss_nil) 
      (pss_cons (ps_if (pt_val (pe_callB call_isi (by rfl) T.b_isinstance (by decide +kernel) (pa_cons (pv 0) (pa_cons (pe_bltn (v := .ty "int") (by rfl) T.b_int (by decide +kernel) rfl) pa_nil)))) 
        (pss_one (ps_ret (pe_and (pe_callB call_isi (by rfl) T.b_isinstance (by decide +kernel) (pa_cons (pv 1) (pa_cons (pe_bltn (v := .ty "int") (by rfl) T.b_int (by decide +kernel) rfl) pa_nil))) (pe_one (pe_cmpR op_eq (pv 0) (pv 1) (nomark _)))))) pss_nil) 
      (pss_cons (ps_if (pt_val (pe_callB call_isi (by rfl) T.b_isinstance (by decide +kernel) (pa_cons (pv 0) (pa_cons (pe_bltn (v := .ty "str") (by rfl) T.b_str (by decide +kernel) rfl) pa_nil)))) 
        (pss_one (ps_ret (pe_and (pe_callB call_isi (by rfl) T.b_isinstance (by decide +kernel) (pa_cons (pv 1) (pa_cons (pe_bltn (v := .ty "str") (by rfl) T.b_str (by decide +kernel) rfl) pa_nil))) (pe_one (pe_cmpR op_eq (pv 0) (pv 1) (nomark _)))))) pss_nil) 
      (pss_cons (ps_if (pt_val (pe_callB call_isi (by rfl) T.b_isinstance (by decide +kernel) (pa_cons (pv 0) (pa_cons (pe_bltn (v := .ty "dict") (by rfl) T.b_dict (by decide +kernel) rfl) pa_nil)))) 
        (pss_cons (ps_if (PW.pt (pw_or (pt_not (pt_val (pe_callB call_isi (by rfl) T.b_isinstance (by decide +kernel) (pa_cons (pv 1) (pa_cons (pe_bltn (v := .ty "dict") (by rfl) T.b_dict (by decide +kernel) rfl) pa_nil))))) (pw_or1 (pt_cmpR op_ne (pe_callB zc_lenX (by rfl) T.b_len (by decide +kernel) (pa_cons (pv 0) pa_nil)) (pe_callB zc_lenX (by rfl) T.b_len (by decide +kernel) (pa_cons (pv 1) pa_nil)) (nomark _))))) 
          (pss_one (ps_ret pe_bl)) pss_nil) 
        (pss_cons (ps_lock (ps_for PassesOwn.never rfl (pi_keys (pv 0)) (pg_name (i := 2) nd rfl (Or.inl rfl)) 
          (pss_one (ps_if (PW.pt (pw_or (pt_cmp (pc_dnotin hu (pv 2) (pv 1))) (pw_or1 (pt_not (pt_val (pe_call ih (hr.mono (by omega)) (by rfl) T.g__law_same T.F__law_same.kp T.k__law_same .nil pass0 (pa_cons (pe_dget hu (pv 0) (pv 2) (fun _ _ => rfl)) (pa_cons (pe_dget hu (pv 1) (pv 2) (fun _ _ => rfl)) pa_nil)))))))) 
            (pss_one (ps_ret pe_bl)) pss_nil)))) 
        (pss_one (ps_ret (pe_call ih (hr.mono (by omega)) (by rfl) T.g__law_same T.F__law_same.kp T.k__law_same .nil pass0 (pa_cons (pe_callB (zc_sortT rfl) (by rfl) T.b_sorted (by decide +kernel) (pa_cons (pv 0) pa_nil)) (pa_cons (pe_callB (zc_sortT rfl) (by rfl) T.b_sorted (by decide +kernel) (pa_cons (pv 1) pa_nil)) pa_nil))))))) pss_nil) 
      (pss_cons (ps_if (PW.pt (pw_and (pt_val (pe_callB call_isi (by rfl) T.b_isinstance (by decide +kernel) (pa_cons (pv 0) (pa_cons (pe_bltn (v := .ty "tuple") (by rfl) T.b_tuple (by decide +kernel) rfl) pa_nil)))) (pw_and1 (pt_not (pt_val (pe_callB call_isi (by rfl) T.b_isinstance (by decide +kernel) (pa_cons (pv 1) (pa_cons (pe_bltn (v := .ty "tuple") (by rfl) T.b_tuple (by decide +kernel) rfl) pa_nil)))))))) 
        (pss_one (ps_ret pe_bl)) pss_nil) 
      (pss_cons (ps_if (PW.pt (pw_and (pt_val (pe_callB call_isi (by rfl) T.b_isinstance (by decide +kernel) (pa_cons (pv 0) (pa_cons (pe_bltn (v := .ty "list") (by rfl) T.b_list (by decide +kernel) rfl) pa_nil)))) (pw_and1 (pt_not (pt_val (pe_callB call_isi (by rfl) T.b_isinstance (by decide +kernel) (pa_cons (pv 1) (pa_cons (pe_bltn (v := .ty "list") (by rfl) T.b_list (by decide +kernel) rfl) pa_nil)))))))) 
        (pss_one (ps_ret pe_bl)) pss_nil) 
      (pss_cons (ps_if (pt_cmpR op_ne (pe_callB zc_lenX (by rfl) T.b_len (by decide +kernel) (pa_cons (pv 0) pa_nil)) (pe_callB zc_lenX (by rfl) T.b_len (by decide +kernel) (pa_cons (pv 1) pa_nil)) (nomark _)) 
        (pss_one (ps_ret pe_bl)) pss_nil) 
      (pss_cons (ps_for PassesOwn.never rfl (pi_range1 (by rfl) T.b_range (pa_cons (pe_callB zc_lenX (by rfl) T.b_len (by decide +kernel) (pa_cons (pv 0) pa_nil)) pa_nil)) (pg_name (i := 3) nd rfl (Or.inl rfl)) 
        (pss_one (ps_if (pt_not (pt_val (pe_call ih (hr.mono (by omega)) (by rfl) T.g__law_same T.F__law_same.kp T.k__law_same .nil pass0 (pa_cons (pe_ix ix_seq (pv 0) (pv 3) (fun _ _ => rfl)) (pa_cons (pe_ix ix_seq (pv 1) (pv 3) (fun _ _ => rfl)) pa_nil))))) 
          (pss_one (ps_ret pe_bl)) pss_nil))) 
      (pss_one (ps_ret pe_bl))))))))))), ?_⟩
  change (_ : TS) _ [some _, some _, none, none] _
  try dsimp only [cxOf, Cx.nox, Cx.wish]
  rcases h with ⟨d, ld, i, j⟩ | ⟨p, q, xs, ys, rfl, rfl, hp, hq, lz, hw⟩ | ⟨l3, hU, p, q, f, rfl, rfl, hp, hq, hw⟩ | ⟨p, q, xs, ys, rfl, rfl, hp, hq, lz, hw⟩
  · cases i with
    | non =>
      cases j
      walk_at "go"; walk_at "if"
      refine w_t rfl ?_
      walk_at "go"
      exact k _ Ext.refl
    | bl z =>
      cases j
      walk_at "go"; walk_at "if"
      refine w_f rfl ?_; walk_at "go"; walk_at "if"
      refine w_isi (k := true) (.ty _) (.base (.bl _)) (kit_ty (by decide +kernel)) ?_
      walk_at "go"
      refine w_isi (k := true) (.ty _) (.base (.bl _)) (kit_ty (by decide +kernel)) ?_
      refine w_bl ?_
      walk_at "go"
      refine w_isi (k := true) (.ty _) (.base (.bl _)) (kit_ty (by decide +kernel)) ?_
      refine w_bl ?_
      walk_at "go"
      refine w_eq rfl ?_
      rw [decide_eq_true rfl]
      exact k _ Ext.refl
    | int z =>
      cases j
      walk_at "go"; walk_at "if"
      refine w_f rfl ?_; walk_at "go"; walk_at "if"
      refine w_isi (k := false) (.ty _) (.base (.int _)) (kit_ty (by decide +kernel)) ?_
      walk_at "go"
      refine w_isi (k := false) (.ty _) (.base (.int _)) (kit_ty (by decide +kernel)) ?_
      walk_at "go"; walk_at "if"
      refine w_isi (k := true) (.ty _) (.base (.int _)) (kit_ty (by decide +kernel)) ?_
      walk_at "go"
      refine w_isi (k := true) (.ty _) (.base (.int _)) (kit_ty (by decide +kernel)) ?_
      refine w_bl ?_
      walk_at "go"
      rw [decide_eq_true rfl]
      exact k _ Ext.refl
    | str z =>
      cases j
      walk_at "go"; walk_at "if"
      refine w_f rfl ?_; walk_at "go"; walk_at "if"
      refine w_isi (k := false) (.ty _) (.base (.str _)) (kit_ty (by decide +kernel)) ?_
      walk_at "go"
      refine w_isi (k := false) (.ty _) (.base (.str _)) (kit_ty (by decide +kernel)) ?_
      walk_at "go"; walk_at "if"
      refine w_isi (k := false) (.ty _) (.base (.str _)) (kit_ty (by decide +kernel)) ?_
      walk_at "go"; walk_at "if"
      refine w_isi (k := true) (.ty _) (.base (.str _)) (kit_ty (by decide +kernel)) ?_
      walk_at "go"
      refine w_isi (k := true) (.ty _) (.base (.str _)) (kit_ty (by decide +kernel)) ?_
      refine w_bl ?_
      walk_at "go"
      rw [decide_eq_true rfl]
      exact k _ Ext.refl
    | @tup p xs ds ha lz wa =>
      cases j with
      | @tup q ys _ hb _ wb =>
        have la := wa.len
        have lb := wb.len
        have ta := TyX.base (K := K) (.tup ha)
        have tb := TyX.base (K := K) (.tup hb)
        walk_at "go"; walk_at "if"
        refine w_f rfl ?_; walk_at "go"; walk_at "if"
        refine w_isi (k := false) (.ty _) ta (kit_ty (by decide +kernel)) ?_
        walk_at "go"
        refine w_isi (k := false) (.ty _) tb (kit_ty (by decide +kernel)) ?_
        walk_at "go"; walk_at "if"
        refine w_isi (k := false) (.ty _) ta (kit_ty (by decide +kernel)) ?_
        walk_at "go"; walk_at "if"
        refine w_isi (k := false) (.ty _) ta (kit_ty (by decide +kernel)) ?_
        walk_at "go"; walk_at "if"
        refine w_isi (k := false) (.ty _) ta (kit_ty (by decide +kernel)) ?_
        walk_at "go"; walk_at "if"
        refine w_isi (k := true) (.ty _) ta (kit_ty (by decide +kernel)) ?_
        walk_at "go"
        refine w_isi (k := true) (.ty _) tb (kit_ty (by decide +kernel)) ?_
        walk_at "go"; walk_at "if"
        refine w_isi (k := false) (.ty _) ta (kit_ty (by decide +kernel)) ?_
        walk_at "go"; walk_at "if"
        refine w_lenX (.inr (sqt ha)) ?_
        walk_at "go"
        refine w_lenX (.inr (sqt hb)) ?_
        walk_at "go"
        refine w_f (by rw [la, lb]; simp) ?_
        walk_at "go"
        refine w_lenX (.inr (sqt ha)) ?_
        refine w_nil ?_
        refine ⟨_, rfl, by omega, by omega, ?_⟩
        rw [Int.toNat_natCast]
        refine z_for_range (fun i σ' H' => Ext [] H H' ∧ ∃ v, σ' = [some (.ref p), some (.ref q), none, v]) ⟨Ext.refl, _, rfl⟩ ?_ ?_
        · rintro N i σ' H1 hi ⟨e1, v, rfl⟩ hN
          walk_at "go"; walk_at "if"
          obtain ⟨d, hd⟩ : ∃ d, ds[i]? = some d := ⟨_, List.getElem?_eq_getElem (by omega)⟩
          obtain ⟨x, hx, ix⟩ := wa.at hd
          obtain ⟨y, hy, iy⟩ := wb.at hd
          refine w_ixA (.inr (sqt (e1.tup ha))) (at_nat0 hx) ?_
          walk_at "go"
          refine w_ixA (.inr (sqt (e1.tup hb))) (at_nat0 hy) ?_
          walk_at "go"
          have dm := depthAll_mem (List.mem_of_getElem? hd)
          rw [depth_tup] at ld
          refine w_sp2 ⟨⟨U, Sq.im (d := d) (by omega) (ix.ext e1) (iy.ext e1)⟩, fun H2 e2 => ?_⟩
          walk_at "go"
          exact hN _ _ ⟨e1.trans e2, _, rfl⟩
        · rintro σ' H1 ⟨e1, v, rfl⟩
          walk_at "go"
          exact k _ e1
  · have ta := TyX.base (K := K) (.lst hp)
    have tb := TyX.base (K := K) (.lst hq)
    have la := paired_len hw
    walk_at "go"; walk_at "if"
    refine w_f rfl ?_; walk_at "go"; walk_at "if"
    refine w_isi (k := false) (.ty _) ta (kit_ty (by decide +kernel)) ?_
    walk_at "go"
    refine w_isi (k := false) (.ty _) tb (kit_ty (by decide +kernel)) ?_
    walk_at "go"; walk_at "if"
    refine w_isi (k := false) (.ty _) ta (kit_ty (by decide +kernel)) ?_
    walk_at "go"; walk_at "if"
    refine w_isi (k := false) (.ty _) ta (kit_ty (by decide +kernel)) ?_
    walk_at "go"; walk_at "if"
    refine w_isi (k := false) (.ty _) ta (kit_ty (by decide +kernel)) ?_
    walk_at "go"; walk_at "if"
    refine w_isi (k := false) (.ty _) ta (kit_ty (by decide +kernel)) ?_
    walk_at "go"; walk_at "if"
    refine w_isi (k := true) (.ty _) ta (kit_ty (by decide +kernel)) ?_
    walk_at "go"
    refine w_isi (k := true) (.ty _) tb (kit_ty (by decide +kernel)) ?_
    walk_at "go"; walk_at "if"
    refine w_lenX (.inl (sql hp)) ?_
    walk_at "go"
    refine w_lenX (.inl (sql hq)) ?_
    walk_at "go"
    refine w_f (by rw [la]; simp) ?_
    walk_at "go"
    refine w_lenX (.inl (sql hp)) ?_
    refine w_nil ?_
    refine ⟨_, rfl, by omega, by omega, ?_⟩
    rw [Int.toNat_natCast]
    refine z_for_range (fun i σ' H' => Ext [] H H' ∧ ∃ v, σ' = [some (.ref p), some (.ref q), none, v]) ⟨Ext.refl, _, rfl⟩ ?_ ?_
    · rintro N i σ' H1 hi ⟨e1, v, rfl⟩ hN
      walk_at "go"; walk_at "if"
      obtain ⟨x, hx⟩ : ∃ d, xs[i]? = some d := ⟨_, List.getElem?_eq_getElem (by omega)⟩
      obtain ⟨y, hy, hs⟩ := paired_at hw hx
      refine w_ixA (.inl (sql (e1.keep _ _ hp List.not_mem_nil))) (at_nat0 hx) ?_
      walk_at "go"
      refine w_ixA (.inl (sql (e1.keep _ _ hq List.not_mem_nil))) (at_nat0 hy) ?_
      walk_at "go"
      refine w_sp2 ⟨⟨U, hs.ext e1⟩, fun H2 e2 => ?_⟩
      walk_at "go"
      exact hN _ _ ⟨e1.trans e2, _, rfl⟩
    · rintro σ' H1 ⟨e1, v, rfl⟩
      walk_at "go"
      exact k _ e1
  · obtain ⟨kvs, ks, hp, mp⟩ := hp
    obtain ⟨kvs', ks', hq, mq⟩ := hq
    have ta := TyX.base (K := K) (.dT hp)
    have tb := TyX.base (K := K) (.dT hq)
    walk_at "go"; walk_at "if"
    refine w_f rfl ?_; walk_at "go"; walk_at "if"
    refine w_isi (k := false) (.ty _) ta (kit_ty (by decide +kernel)) ?_
    walk_at "go"
    refine w_isi (k := false) (.ty _) tb (kit_ty (by decide +kernel)) ?_
    walk_at "go"; walk_at "if"
    refine w_isi (k := false) (.ty _) ta (kit_ty (by decide +kernel)) ?_
    walk_at "go"; walk_at "if"
    refine w_isi (k := false) (.ty _) ta (kit_ty (by decide +kernel)) ?_
    walk_at "go"; walk_at "if"
    refine w_isi (k := true) (.ty _) ta (kit_ty (by decide +kernel)) ?_
    walk_at "go"; walk_at "if"
    refine w_isi (k := true) (.ty _) tb (kit_ty (by decide +kernel)) ?_
    walk_at "go"
    refine w_lenXT hp ?_
    walk_at "go"
    refine w_lenXT hq ?_
    walk_at "go"
    have lk : kvs.length = kvs'.length := by rw [mp.len, mq.len]; exact (mp.perm mq).length_eq
    refine w_f (by rw [lk]; simp) ?_
    walk_at "go"
    refine w_lock hp trivial (fun z => z) fun od H1 L => ?_
    walk_at "go"
    refine w_keysT rfl L.at ?_
    have dp1 : DR U H1 p f := DR.lk ⟨kvs, ks, .inl hp, mp⟩ L
    have dq1 : DR U H1 q f := DR.lk ⟨kvs', ks', .inl hq, mq⟩ L
    refine z_for_keysT mp (fun i σ' H' => Ext [] H1 H' ∧ ∃ v, σ' = [some (.ref p), some (.ref q), v, none]) ⟨Ext.refl, _, rfl⟩ (fun i σ' H' _ ⟨e, _⟩ => e.imm _ _ L.at trivial) ?_ ?_
    · rintro N i sl d b σ' H2 hi hf hb ⟨e2, v, rfl⟩ hN
      have dp2 := dp1.ext e2 List.not_mem_nil
      have dq2 := dq1.ext e2 List.not_mem_nil
      walk_at "go"; walk_at "if"
      refine w_dinT dq2 hb fun o ho => ?_
      rw [ho, hf]
      walk_at "go"
      refine w_f rfl ?_
      walk_at "go"
      refine w_dgetT dp2 hb hf fun x ix => ?_
      walk_at "go"
      refine w_dgetT dq2 hb hf fun y iy => ?_
      walk_at "go"
      refine w_sp2 ⟨⟨U, Sq.im (d := d) (hw _ _ hf) ix iy⟩, fun H3 e3 => ?_⟩
      walk_at "go"
      exact hN _ _ ⟨e2.trans e3, _, rfl⟩
    · rintro σ' H2 ⟨e2, v, rfl⟩
      refine w_unlock L e2 fun H3 e3 _ => ?_
      walk_at "go"
      have dp3 : DR U H3 p f := (DM.dr ⟨kvs, ks, hp, mp⟩).ext e3 List.not_mem_nil
      have dq3 : DR U H3 q f := (DM.dr ⟨kvs', ks', hq, mq⟩).ext e3 List.not_mem_nil
      refine w_sortT dp3 fun p1 bs1 ts1 H4 e4 n4 h4 s4 nd4 m4 z4 o4 => ?_
      walk_at "go"
      refine w_sortT (dq3.ext e4 List.not_mem_nil) fun p2 bs2 ts2 H5 e5 n5 h5 s5 nd5 m5 z5 o5 => ?_
      have et : ts1 = ts2 := sorted_uniq ((List.perm_ext_iff_of_nodup nd4 nd5).mpr fun s => by rw [m4, m5]) o4 o5
      subst et
      walk_at "go"
      refine w_sp2 ⟨⟨U, ?_⟩, fun H6 e6 => k _ (((e3.trans e4).trans e5).trans e6)⟩
      have s4' := s4.ext e5
      have lb : (bs1.map V.ref).length ≤ 1000 := by
        rw [List.length_map, paired_len s4]; omega
      cases n with
      | zero => omega
      | succ n => exact .inr (.inl ⟨p1, p2, _, _, rfl, rfl, e5.keep _ _ h4 List.not_mem_nil, h5, lb, sq_slots (by omega) s4' s5⟩)
  · have ta := TyX.base (K := K) (.tup hp)
    have tb := TyX.base (K := K) (.tup hq)
    have la := paired_len hw
    walk_at "go"; walk_at "if"
    refine w_f rfl ?_; walk_at "go"; walk_at "if"
    refine w_isi (k := false) (.ty _) ta (kit_ty (by decide +kernel)) ?_
    walk_at "go"
    refine w_isi (k := false) (.ty _) tb (kit_ty (by decide +kernel)) ?_
    walk_at "go"; walk_at "if"
    refine w_isi (k := false) (.ty _) ta (kit_ty (by decide +kernel)) ?_
    walk_at "go"; walk_at "if"
    refine w_isi (k := false) (.ty _) ta (kit_ty (by decide +kernel)) ?_
    walk_at "go"; walk_at "if"
    refine w_isi (k := false) (.ty _) ta (kit_ty (by decide +kernel)) ?_
    walk_at "go"; walk_at "if"
    refine w_isi (k := true) (.ty _) ta (kit_ty (by decide +kernel)) ?_
    walk_at "go"
    refine w_isi (k := true) (.ty _) tb (kit_ty (by decide +kernel)) ?_
    walk_at "go"; walk_at "if"
    refine w_isi (k := false) (.ty _) ta (kit_ty (by decide +kernel)) ?_
    walk_at "go"; walk_at "if"
    refine w_lenX (.inr (sqt hp)) ?_
    walk_at "go"
    refine w_lenX (.inr (sqt hq)) ?_
    walk_at "go"
    refine w_f (by rw [la]; simp) ?_
    walk_at "go"
    refine w_lenX (.inr (sqt hp)) ?_
    refine w_nil ?_
    refine ⟨_, rfl, by omega, by omega, ?_⟩
    rw [Int.toNat_natCast]
    refine z_for_range (fun i σ' H' => Ext [] H H' ∧ ∃ v, σ' = [some (.ref p), some (.ref q), none, v]) ⟨Ext.refl, _, rfl⟩ ?_ ?_
    · rintro N i σ' H1 hi ⟨e1, v, rfl⟩ hN
      walk_at "go"; walk_at "if"
      obtain ⟨x, hx⟩ : ∃ d, xs[i]? = some d := ⟨_, List.getElem?_eq_getElem (by omega)⟩
      obtain ⟨y, hy, hs⟩ := paired_at hw hx
      refine w_ixA (.inr (sqt (e1.tup hp))) (at_nat0 hx) ?_
      walk_at "go"
      refine w_ixA (.inr (sqt (e1.tup hq))) (at_nat0 hy) ?_
      walk_at "go"
      refine w_sp2 ⟨⟨U, hs.ext e1⟩, fun H2 e2 => ?_⟩
      walk_at "go"
      exact hN _ _ ⟨e1.trans e2, _, rfl⟩
    · rintro σ' H1 ⟨e1, v, rfl⟩
      walk_at "go"
      exact k _ e1

def sp_law_same (K : PySem.W.Frag) : Sp := sp_same 8 K
theorem ok_law_same (T : Txt K mg) : FnOk P w K mg base CX0 8 T.f__law_same T.d__law_same ["one", "other"] (sp_law_same K) :=
  step_same T 7 7 (step_same T 6 6 (step_same T 5 5 (step_same T 4 4 (step_same T 3 3 (step_same T 2 2 (step_same T 1 1 (step_same T 0 0 (ok_same_no T))))))))
theorem w_same {H : Hp} {U : List Zk.Slot} {a b : V} {Q : VK} {E : XK} (h : Sq U 8 H a b) (k : ∀ H', Ext [] H H' → Q (.bl true) H') : sp_law_same K ([a, b] ++ []) H Q E := ⟨_, _, rfl, ⟨U, h⟩, k⟩

theorem dm_unlk {U : List Zk.Slot} {H0 H1 H3 H4 : Hp} {M : List Addr} {d D : Addr} {u : HO} {od : Obj} {f : Fd} (L : Lk d u od H0 H1) (e : Ext M H1 H3) (kp : ∀ b o, H3 b = some o → b ≠ d → H4 b = some o) (n : D ≠ d) (h : DM U H3 D f) : DM U H4 D f := by
  obtain ⟨kv3, ks3, h3, m3⟩ := h
  refine ⟨kv3, ks3, kp D _ h3 n, m3.keys, m3.nd, m3.sub, fun s => ?_⟩
  have v3 := m3.val s
  revert v3
  cases valV kv3 (sKey s) <;> cases f s <;> intro v3
  · exact v3
  · exact v3
  · exact v3
  · refine Im.go (fun a xs h => kp a _ h fun z => ?_) _ _ v3
    subst z
    have := e.imm _ _ L.at trivial
    rw [h] at this; cases this
/-! ### copies -/
def sp_law_copy (K : PySem.W.Frag) : Sp := sp1 fun a H Q => ∃ (U : List Zk.Slot) (p : Addr) (f : Fd), a = .ref p ∧ U.length ≤ 1000 ∧ DM U H p f ∧ ∀ r H', Ext [] H H' → H r = none → DM U H' r f → Q (.ref r) H'
theorem ok_law_copy (T : Txt K mg) : FnOk P w K mg base CX0 1 T.f__law_copy T.d__law_copy ["row"] (sp_law_copy K) := by
  refine T.F__law_copy.ok sc_law_copy len1 (fun cdv A outer s H vs Q E hr h => ?_)
  have nd := sc_law_copy.nd
  have hu := hu_of hr
  obtain ⟨_, rfl, U, p, f, rfl, hU, hf, k⟩ := h
  refine ⟨_,
      (pss_cons (ps_set (i := 1) nd rfl (Or.inl rfl) pe_dnewTZ) 
      (pss_cons (ps_lock (ps_for PassesOwn.never rfl (pi_keys (pv 0)) (pg_name (i := 2) nd rfl (Or.inl rfl)) 
        (pss_one (ps_dput hu (pv 1) (pv 2) (pe_dget hu (pv 0) (pv 2) (fun _ _ => rfl)) rfl)))) 
      (pss_one (ps_ret (pv 1))))), ?_⟩
  change (_ : TS) _ [some _, none, none] _
  try dsimp only [cxOf, Cx.nox, Cx.wish]
  walk_at "go"
  refine w_alc fun D H1 e1 n1 h1 => ?_
  have hf1 := hf.ext e1 List.not_mem_nil
  obtain ⟨kvs, ks, hp, mp⟩ := id hf1
  walk_at "go"
  refine w_lock hp trivial (fun z => z) fun od H2 L => ?_
  walk_at "go"
  have npD : D ≠ p := (hf.ne n1).symm
  refine w_keysT rfl L.at ?_
  have f2 := hf1.dr.lk L
  have h2 := L.keep h1 npD
  refine z_for_keysT mp (fun i σ' H' => Ext [D] H2 H' ∧ DM U H' D (resF (ks.take i) f) ∧ ∃ u, σ' = [some (.ref p), some (.ref D), u]) ⟨Ext.refl, by rw [List.take_zero, resF_nil]; exact DM.nil h2, _, rfl⟩ (fun i σ' H' _ ⟨e, _⟩ => e.imm _ _ L.at trivial) ?_ ?_
  · rintro N i s d b σ' H3 hi hd hb ⟨e3, hD, u, rfl⟩ hN
    have f3 := f2.ext e3 (nm1 npD.symm)
    walk_at "go"
    refine w_dgetT f3 hb hd fun v iv => ?_
    walk_at "go"
    refine w_dputT hU hD hb (mp.sub _ (List.mem_of_getElem? hi)) iv fun H5 e5 h5 => ?_
    refine hN _ _ ⟨e3.trans e5, ?_, _, rfl⟩
    rw [resF_put (F := f) hd] at h5
    rw [take_snoc hi]; exact h5
  · rintro σ' H3 ⟨e3, hD, u, rfl⟩
    rw [List.take_length, resF_all fun s ns => Option.not_isSome_iff_eq_none.mp fun z => ns (mp.mem.mpr z)] at hD
    refine w_unlock L e3 fun H4 e4 kp => ?_
    walk_at "go"
    exact k D H4 (e1.dropq e4 n1) n1 (dm_unlk L e3 kp npD hD)
theorem w_copy {H : Hp} {U : List Zk.Slot} {p : Addr} {f : Fd} {Q : VK} {E : XK} (hU : U.length ≤ 1000) (hf : DM U H p f)
    (k : ∀ r H', Ext [] H H' → H r = none → DM U H' r f → Q (.ref r) H') : sp_law_copy K ([.ref p] ++ []) H Q E := ⟨_, rfl, U, p, f, rfl, hU, hf, k⟩
/-- slots whose texts are plain -/
def Pln (U : List Zk.Slot) : Prop := U.length ≤ 1000 ∧ ∀ s ∈ U, Sg s.1
theorem sD_shaped {s : Zk.Slot} (h : Sg s.1) : SeqAt.shaped (sD s) = true := by
  unfold SeqAt.shaped
  rw [sD_depth]
  have := h.ok
  simp [sD, PyData.canLay0, PyData.canLayAll0]
  exact this
def sp_law_without (K : PySem.W.Frag) : Sp := sp2 fun a b H Q => ∃ (U : List Zk.Slot) (p q : Addr) (f : Fd) (s : Zk.Slot), a = .ref p ∧ b = .ref q ∧ Pln U ∧ s ∈ U ∧ H q = some (.tup (sVs s)) ∧ DM U H p f ∧ Stt f ∧ ∀ r f' H', Ext [] H H' → H r = none → DM U H' r f' → Stt f' → Q (.ref r) H'
theorem ok_law_without (T : Txt K mg) : FnOk P w K mg base CX0 1 T.f__law_without T.d__law_without ["row", "gone"] (sp_law_without K) := by
  refine T.F__law_without.ok sc_law_without len2 (fun cdv A outer s H vs Q E hr h => ?_)
  have nd := sc_law_without.nd
  have hu := hu_of hr
  obtain ⟨_, _, rfl, U, p, q, f, s0, rfl, rfl, ⟨hU, hS⟩, m0, hq, hf, sf, k⟩ := h
  refine ⟨_,
      (pss_cons (ps_set (i := 2) nd rfl (Or.inl rfl) pe_dnewTZ) 
      (pss_cons (ps_lock (ps_for PassesOwn.never rfl (pi_keys (pv 0)) (pg_name (i := 3) nd rfl (Or.inl rfl)) 
        (pss_one (ps_if (pt_cmpR (op_neD hr.units) (pv 3) (pv 1) (nomark _)) 
          (pss_one (ps_dput hu (pv 2) (pv 3) (pe_dget hu (pv 0) (pv 3) (fun _ _ => rfl)) rfl)) pss_nil)))) 
      (pss_one (ps_ret (pv 2))))), ?_⟩
  change (_ : TS) _ [some _, some _, none, none] _
  try dsimp only [cxOf, Cx.nox, Cx.wish]
  walk_at "go"
  refine w_alc fun D H1 e1 n1 h1 => ?_
  have hf1 := hf.ext e1 List.not_mem_nil
  obtain ⟨kvs, ks, hp, mp⟩ := id hf1
  walk_at "go"
  refine w_lock hp trivial (fun z => z) fun od H2 L => ?_
  walk_at "go"
  have npD : D ≠ p := (hf.ne n1).symm
  refine w_keysT rfl L.at ?_
  have f2 := hf1.dr.lk L
  have h2 := L.keep h1 npD
  have hq2 := L.tup (e1.tup hq)
  refine z_for_keysT mp (fun i σ' H' => Ext [D] H2 H' ∧ (∃ f', DM U H' D f' ∧ Stt f') ∧ ∃ u, σ' = [some (.ref p), some (.ref q), some (.ref D), u]) ⟨Ext.refl, ⟨_, DM.nil h2, stt_none⟩, _, rfl⟩ (fun i σ' H' _ ⟨e, _⟩ => e.imm _ _ L.at trivial) ?_ ?_
  · rintro N i s d b σ' H3 hi hd hb ⟨e3, ⟨f', hD, st⟩, u, rfl⟩ hN
    have f3 := f2.ext e3 (nm1 npD.symm)
    have sU := mp.sub _ (List.mem_of_getElem? hi)
    walk_at "go"; walk_at "if"
    refine w_neD (im_slot hb) (im_slot (e3.tup hq2)) (sD_shaped (hS _ sU)) (sD_shaped (hS _ m0)) ?_
    refine w_bl ?_
    refine w_nb (fun z => ?_) fun z => ?_
    · walk_at "go"
      refine w_dgetT f3 hb hd fun v iv => ?_
      walk_at "go"
      refine w_dputT hU hD hb sU iv fun H5 e5 h5 => ?_
      exact hN _ _ ⟨e3.trans e5, ⟨_, h5, stt_put st (sf s d hd)⟩, _, rfl⟩
    · walk_at "go"
      exact hN _ _ ⟨e3, ⟨_, hD, st⟩, _, rfl⟩
  · rintro σ' H3 ⟨e3, ⟨f', hD, st⟩, u, rfl⟩
    refine w_unlock L e3 fun H4 e4 kp => ?_
    walk_at "go"
    exact k D f' H4 (e1.dropq e4 n1) n1 (dm_unlk L e3 kp npD hD) st

theorem resF_memx {l : List Zk.Slot} {F : Fd} {s : Zk.Slot} (h : s ∈ l) : resF (l ++ [s]) F = resF l F := by
  funext t
  unfold resF
  by_cases e : t = s
  · subst e
    rw [if_pos h, if_pos (List.mem_append.mpr (.inl h))]
  · by_cases m : t ∈ l
    · rw [if_pos m, if_pos (List.mem_append.mpr (.inl m))]
    · rw [if_neg m, if_neg (fun z => (List.mem_append.mp z).elim m fun q => e (List.mem_singleton.mp q))]
/-! ### the difference of two states -/
def sp_law_between (K : PySem.W.Frag) : Sp := sp2 fun a b H Q => ∃ (U : List Zk.Slot) (p q : Addr) (f g : Fd), a = .ref p ∧ b = .ref q ∧ U.length ≤ 1000 ∧ DM U H p f ∧ DM U H q g ∧ Stt f ∧ Stt g ∧ ∀ r H', Ext [] H H' → H r = none → DM U H' r (btwF f g) → Q (.ref r) H'
theorem ok_law_between (T : Txt K mg) : FnOk P w K mg base CX0 1 T.f__law_between T.d__law_between ["one", "other"] (sp_law_between K) := by
  refine T.F__law_between.ok sc_law_between len2 (fun cdv A outer s H vs Q E hr h => ?_)
  have nd := sc_law_between.nd
  have hu := hu_of hr
  obtain ⟨_, _, rfl, U, p, q, f, g, rfl, rfl, hU, hf, hg, sf, sg, k⟩ := h
  refine ⟨_,
      (pss_cons (ps_set (i := 2) nd rfl (Or.inl rfl) pe_dnewTZ) 
      (pss_cons (ps_lock (ps_for PassesOwn.never rfl (pi_keys (pv 0)) (pg_name (i := 3) nd rfl (Or.inl rfl)) 
        (pss_one (ps_if (PW.pt (pw_or (pt_cmp (pc_dnotin hu (pv 3) (pv 1))) (pw_or1 (pt_cmpR (op_neD hr.units) (pe_dget hu (pv 0) (pv 3) (fun _ _ => rfl)) (pe_dget hu (pv 1) (pv 3) (fun _ _ => rfl)) (nomark _))))) 
          (pss_one (ps_dput hu (pv 2) (pv 3) (pe_tupZ (pa_cons (pe_dget hu (pv 0) (pv 3) (fun _ _ => rfl)) (pa_cons (pe_ifExp (pt_cmp (pc_din hu (pv 3) (pv 1))) (pe_dget hu (pv 1) (pv 3) (fun _ _ => rfl)) pe_non) pa_nil))) rfl)) pss_nil)))) 
      (pss_cons (ps_lock (ps_for PassesOwn.never rfl (pi_keys (pv 1)) (pg_name (i := 3) nd rfl (Or.inl rfl)) 
        (pss_one (ps_if (pt_cmp (pc_dnotin hu (pv 3) (pv 0))) 
          (pss_one (ps_dput hu (pv 2) (pv 3) (pe_tupZ (pa_cons pe_non (pa_cons (pe_dget hu (pv 1) (pv 3) (fun _ _ => rfl)) pa_nil))) rfl)) pss_nil)))) 
      (pss_one (ps_ret (pv 2)))))), ?_⟩
  change (_ : TS) _ [some _, some _, none, none] _
  try dsimp only [cxOf, Cx.nox, Cx.wish]
  walk_at "go"
  refine w_alc fun D H1 e1 n1 h1 => ?_
  have hf1 := hf.ext e1 List.not_mem_nil
  have hg1 := hg.ext e1 List.not_mem_nil
  obtain ⟨kvs, ks, hp, mp⟩ := id hf1
  walk_at "go"
  refine w_lock hp trivial (fun z => z) fun od H2 L => ?_
  walk_at "go"
  have npD : D ≠ p := (hf.ne n1).symm
  have nqD : D ≠ q := (hg.ne n1).symm
  refine w_keysT rfl L.at ?_
  have f2 := hf1.dr.lk L
  have g2 := hg1.dr.lk L
  have h2 := L.keep h1 npD
  refine z_for_keysT mp (fun i σ' H' => Ext [D] H2 H' ∧ DM U H' D (resF (ks.take i) (btwF f g)) ∧ ∃ u, σ' = [some (.ref p), some (.ref q), some (.ref D), u]) ⟨Ext.refl, by rw [List.take_zero, resF_nil]; exact DM.nil h2, _, rfl⟩ (fun i σ' H' _ ⟨e, _⟩ => e.imm _ _ L.at trivial) ?_ ?_
  · rintro N i s d b σ' H3 hi hd hb ⟨e3, hD, u, rfl⟩ hN
    have f3 := f2.ext e3 (nm1 npD.symm)
    have g3 := g2.ext e3 (nm1 nqD.symm)
    have sU := mp.sub _ (List.mem_of_getElem? hi)
    have odf : oD (f s) = d := by rw [hd]; rfl
    walk_at "go"; walk_at "if"
    refine w_dinT g3 hb fun o ho => ?_
    rw [ho]
    refine w_bl ?_
    cases hgs : g s with
    | none =>
      have im0 : ∀ {H5 : Hp} {x : V} {t : Addr}, Im H5 x d → H5 t = some (.tup [x, .non]) → Im H5 (.ref t) (.tuple [oD (f s), oD (g s)]) := fun i h => .tup h (show 2 ≤ 1000 by decide) (.cons (by rw [odf]; exact i) (.cons (by rw [hgs]; exact .non) .nil))
      have ne : f s ≠ g s := by rw [hd, hgs]; exact fun z => nomatch z
      refine w_nb (fun z => ?_) (fun z => by cases z)
      walk_at "go"
      refine w_dgetT f3 hb hd fun v iv => ?_
      walk_at "go"; walk_at "ife"
      refine w_dinT g3 hb fun o ho => ?_
      rw [ho, hgs]
      refine w_bl ?_
      refine w_f rfl ?_
      walk_at "go"
      refine ⟨sz (by show 2 ≤ _; decide), w_alc fun t H4 e4 n4 h4 => ?_⟩
      walk_at "go"
      refine w_dputT hU (hD.ext e4 List.not_mem_nil) (e4.tup hb) sU (im0 (iv.ext e4) h4) fun H5 e5 h5 => ?_
      refine hN _ _ ⟨(e3.trans e4.up).trans e5, ?_, _, rfl⟩
      rw [resF_put (F := btwF f g) (btw_ne ne)] at h5
      rw [take_snoc hi]; exact h5
    | some c =>
      have odg : oD (g s) = c := by rw [hgs]; rfl
      refine w_nb (fun z => by cases z) (fun z => ?_)
      walk_at "go"
      refine w_dgetT f3 hb hd fun v iv => ?_
      walk_at "go"
      refine w_dgetT g3 hb hgs fun v' iv' => ?_
      have s1 := (sf s).shaped
      have s2 := (sg s).shaped
      rw [odf] at s1
      rw [odg] at s2
      refine w_neD iv iv' s1 s2 ?_
      refine w_bl ?_
      have hq := (sf s).eqv (sg s)
      rw [odf, odg] at hq
      refine w_nb (fun z => ?_) fun z => ?_
      · have ne : f s ≠ g s := fun y => Bool.noConfusion ((hq.mpr y).symm.trans z)
        walk_at "go"
        refine w_dgetT f3 hb hd fun v iv => ?_
        walk_at "go"; walk_at "ife"
        refine w_dinT g3 hb fun o ho => ?_
        rw [ho, hgs]
        refine w_bl ?_
        refine w_t rfl ?_
        walk_at "go"
        refine w_dgetT g3 hb hgs fun v' iv' => ?_
        walk_at "go"
        refine ⟨sz (by show 2 ≤ _; decide), w_alc fun t H4 e4 n4 h4 => ?_⟩
        walk_at "go"
        have im : Im H4 (.ref t) (.tuple [oD (f s), oD (g s)]) := .tup h4 (show 2 ≤ 1000 by decide) (.cons (by rw [odf]; exact iv.ext e4) (.cons (by rw [odg]; exact iv'.ext e4) .nil))
        refine w_dputT hU (hD.ext e4 List.not_mem_nil) (e4.tup hb) sU im fun H5 e5 h5 => ?_
        refine hN _ _ ⟨(e3.trans e4.up).trans e5, ?_, _, rfl⟩
        rw [resF_put (F := btwF f g) (btw_ne ne)] at h5
        rw [take_snoc hi]; exact h5
      · walk_at "go"
        refine hN _ _ ⟨e3, ?_, _, rfl⟩
        rw [take_snoc hi, resF_skip (F := btwF f g) (btw_eq (hq.mp z))]
        exact hD
  · rintro σ' H3 ⟨e3, hD, u, rfl⟩
    rw [List.take_length] at hD
    refine w_unlock L e3 fun H4 e4 kp => ?_
    have D4 := dm_unlk L e3 kp npD hD
    have f4 := hf1.ext e4 (nm1 npD.symm)
    have g4 := hg1.ext e4 (nm1 nqD.symm)
    obtain ⟨kvs', ks', hq, mq⟩ := id g4
    walk_at "go"
    refine w_lock hq trivial (fun z => z) fun od' H5 L' => ?_
    walk_at "go"
    refine w_keysT rfl L'.at ?_
    have f5 := f4.dr.lk L'
    have g5 := g4.dr.lk L'
    have D5 := D4.lk L' nqD
    refine z_for_keysT mq (fun i σ' H' => Ext [D] H5 H' ∧ DM U H' D (resF (ks ++ ks'.take i) (btwF f g)) ∧ ∃ u, σ' = [some (.ref p), some (.ref q), some (.ref D), u]) ⟨Ext.refl, by rw [List.take_zero, List.append_nil]; exact D5, _, rfl⟩ (fun i σ' H' _ ⟨e, _⟩ => e.imm _ _ L'.at trivial) ?_ ?_
    · rintro N i s d b σ' H6 hi hd hb ⟨e6, hD6, u, rfl⟩ hN
      have f6 := f5.ext e6 (nm1 npD.symm)
      have g6 := g5.ext e6 (nm1 nqD.symm)
      have sU := mq.sub _ (List.mem_of_getElem? hi)
      walk_at "go"; walk_at "if"
      refine w_dinT f6 hb fun o ho => ?_
      rw [ho]
      refine w_bl ?_
      refine w_nb (fun z => ?_) fun z => ?_
      · have fs : f s = none := Option.not_isSome_iff_eq_none.mp (by rw [z]; exact fun y => nomatch y)
        have ne : f s ≠ g s := by rw [fs, hd]; exact fun z => nomatch z
        walk_at "go"
        refine w_dgetT g6 hb hd fun v iv => ?_
        walk_at "go"
        refine ⟨sz (by show 2 ≤ _; decide), w_alc fun t H7 e7 n7 h7 => ?_⟩
        walk_at "go"
        have im : Im H7 (.ref t) (.tuple [oD (f s), oD (g s)]) := .tup h7 (show 2 ≤ 1000 by decide) (.cons (by rw [fs]; exact .non) (.cons (by rw [hd]; exact iv.ext e7) .nil))
        refine w_dputT hU (hD6.ext e7 List.not_mem_nil) (e7.tup hb) sU im fun H8 e8 h8 => ?_
        refine hN _ _ ⟨(e6.trans e7.up).trans e8, ?_, _, rfl⟩
        rw [resF_put (F := btwF f g) (btw_ne ne)] at h8
        rw [take_snoc hi, ← List.append_assoc]; exact h8
      · walk_at "go"
        refine hN _ _ ⟨e6, ?_, _, rfl⟩
        rw [take_snoc hi, ← List.append_assoc, resF_memx (List.mem_append.mpr (.inl (mp.mem.mpr z)))]
        exact hD6
    · rintro σ' H6 ⟨e6, hD6, u, rfl⟩
      rw [List.take_length, resF_all fun s ns => ?_] at hD6
      · refine w_unlock L' e6 fun H7 e7 kp' => ?_
        walk_at "go"
        exact k D H7 ((e1.dropq e4 n1).dropq e7 n1) n1 (dm_unlk L' e6 kp' nqD hD6)
      · refine btw_eq ?_
        have a : ¬ (f s).isSome = true := fun z => ns (List.mem_append.mpr (.inl (mp.mem.mpr z)))
        have b : ¬ (g s).isSome = true := fun z => ns (List.mem_append.mpr (.inr (mq.mem.mpr z)))
        rw [Option.not_isSome_iff_eq_none.mp a, Option.not_isSome_iff_eq_none.mp b]
theorem w_lbetween {H : Hp} {U : List Zk.Slot} {p q : Addr} {f g : Fd} {Q : VK} {E : XK} (hU : U.length ≤ 1000) (hf : DM U H p f) (hg : DM U H q g) (sf : Stt f) (sg : Stt g)
    (k : ∀ r H', Ext [] H H' → H r = none → DM U H' r (btwF f g) → Q (.ref r) H') : sp_law_between K ([.ref p, .ref q] ++ []) H Q E := ⟨_, _, rfl, U, p, q, f, g, rfl, rfl, hU, hf, hg, sf, sg, k⟩

/-! ### names -/
def sgn : Str := Str.ofString "abcdefghijklmnopqrstuvwxyz0123456789"
theorem sgn_len : sgn.cps.toList.length = 36 := by decide +kernel
theorem sgn_ok : ∀ c ∈ sgn.cps.toList, c < 128 := by decide +kernel
theorem sgn_at {r : Int} (h0 : 0 ≤ r) (h1 : r < 36) : ∃ c, atI sgn.cps.toList r = some c ∧ c < 128 := by
  obtain ⟨c, hc, hm⟩ := at_some (xs := sgn.cps.toList) (r := r) h0 (by rw [sgn_len]; exact h1)
  exact ⟨c, hc, sgn_ok c (List.mem_of_getElem? hm)⟩
def sp_law_name (K : PySem.W.Frag) : Sp := sp1 fun a H Q => ∃ (p : Addr), a = .ref p ∧ PoolAt K H p ∧ ∀ (z : Str) H', z.length ≤ 12 → Sg z → Ext [p] H H' → PoolAt K H' p → Q (.str z) H'
theorem ok_law_name (T : Txt K mg) : FnOk P w K mg base CX0 5 T.f__law_name T.d__law_name ["pool"] (sp_law_name K) := by
  refine T.F__law_name.ok sc_law_name len1 (fun cdv A outer s H vs Q E hr h => ?_)
  have nd := sc_law_name.nd
  have hu := hu_of hr
  obtain ⟨_, rfl, p, rfl, hP, k⟩ := h
  refine ⟨_,
      (pss_cons (ps_set (i := 1) nd rfl (Or.inr rfl) pe_str) 
      (pss_cons (ps_set (i := 2) nd rfl (Or.inl rfl) (pe_ix ix_str (pv 1) (pe_call (ok_law_draw T) (hr.mono (by decide)) (by rfl) T.g__law_draw T.F__law_draw.kp T.k__law_draw .nil pass0 (pa_cons (pv 0) (pa_cons pe_int pa_nil))) (fun _ _ => rfl))) 
      (pss_one (ps_ret (pe_op zop_addS (pv 2) (zpe_join pe_str (pe_lc (own := [("k", 3)]) rfl nd (pi_range1 (by rfl) T.b_range (pa_cons (pe_call (ok_law_pick T) (hr.mono (by decide)) (by rfl) T.g__law_pick T.F__law_pick.kp T.k__law_pick .nil pass0 (pa_cons (pv 0) (pa_cons (pe_lstZ (pa_cons pe_int (pa_cons pe_int (pa_cons pe_int (pa_cons pe_int (pa_cons pe_int (pa_cons pe_int pa_nil))))))) pa_nil))) pa_nil)) (blkOk_by (own := [("k", 3)]) (N := ["pool", "signs", "first", "k"]) (sc := defScope s_law_name) (by decide +kernel)) (fun _ _ _ _ _ => (pg_name (i := 3) nd rfl (Or.inl rfl))) (fun _ _ _ _ _ => pts_nil) (fun _ _ _ _ _ => (pe_ix ix_str (pv 1) (pe_call (ok_law_draw T) (hr.mono (by decide)) (by rfl) T.g__law_draw T.F__law_draw.kp T.k__law_draw .nil pass0 (pa_cons (pv 0) (pa_cons pe_int pa_nil))) (fun _ _ => rfl)))))))))), ?_⟩
  change (_ : TS) _ [some _, none, none, none] _
  try dsimp only [cxOf, Cx.nox, Cx.wish]
  walk_at "go"
  refine w_draw hP (by decide) (by decide) fun d H1 a0 a1 e1 P1 => ?_
  obtain ⟨c, hc, c1⟩ := sgn_at a0 (by omega)
  refine w_ixS (sz (by decide +kernel)) hc ?_
  walk_at "go"
  refine ⟨sz (by show 6 ≤ _; decide), w_alc fun o H2 e2 n2 h2 => ?_⟩
  walk_at "go"
  have P2 := P1.ext e2 List.not_mem_nil
  refine w_pick P2 h2 (P1.ne n2).symm (by decide) (by decide) fun v H3 hv e3 P3 => ?_
  obtain ⟨n, rfl, n0, n1⟩ : ∃ n : Int, v = .int n ∧ 0 ≤ n ∧ n ≤ 11 := by
    simp only [List.mem_cons, List.not_mem_nil, or_false] at hv
    rcases hv with rfl | rfl | rfl | rfl | rfl | rfl <;> exact ⟨_, rfl, by decide, by decide⟩
  walk_at "go"
  have e03 : Ext [p] H H3 := (e1.trans e2.up).trans e3
  refine ⟨_, rfl, by omega, by omega, fun D nD => ?_⟩
  refine z_lc_range (lo := 0) (fun i acc H' => Ext [p] H3 H' ∧ PoolAt K H' p ∧ ∃ ss : List Str, acc = ss.map V.str ∧ ss.length = i ∧ (ss.map (·.length)).sum = i ∧ ∀ y ∈ ss, Sg y) nD (fun H' e => ⟨e.up, P3.ext e List.not_mem_nil, [], rfl, rfl, rfl, fun _ m => nomatch m⟩) ?_ ?_
  · rintro Nx i acc H4 hi ⟨e4, P4, ss, rfl, hl, hs, hg⟩ hD hN
    walk_at "go"
    refine ⟨rfl, ?_⟩
    walk_at "go"
    refine w_draw P4 (by decide) (by decide) fun u H5 d0 d1 e5 P5 => ?_
    walk_at "go"
    obtain ⟨c', hc', c2⟩ := sgn_at d0 (by omega)
    refine w_ixS (sz (by decide +kernel)) hc' ?_
    have nDp : D ≠ p := (P3.ne nD).symm
    refine w_app (e5.keep _ _ hD (nm1 nDp)) (szl (by rw [List.length_map]; omega)) fun H6 e6 hD6 => ?_
    refine hN _ _ ⟨(e4.trans e5).dropq e6 nD, P5.ext e6 (nm1 nDp.symm), ss ++ [⟨#[c']⟩], by rw [List.map_append]; rfl, by rw [List.length_append, hl]; rfl, ?_, fun y m => ?_⟩ hD6
    · rw [List.map_append, List.sum_append, hs]
      rfl
    · rcases List.mem_append.mp m with m | m
      · exact hg y m
      · rw [List.mem_singleton.mp m]; exact Sg.one c2
  · rintro acc H4 ⟨e4, P4, ss, rfl, hl, hs, hg⟩ hD
    refine w_join (ys := ss) (sql hD) (by rw [hs, hl, show (Str.ofString "").length = 0 from by decide]; omega) ?_
    have l3 : (Txt.join (Str.ofString "") ss).length = n.toNat := by
      rw [str_len_join (by decide), hs]
    have l2 : (⟨#[c]⟩ : Str).length = 1 := rfl
    refine w_addS (sz (by omega)) ?_
    exact k _ _ (by rw [str_len_append]; omega) ((Sg.one c1).app (Sg.join Sg.empty hg)) (e03.trans e4) P4
theorem w_name {H : Hp} {p : Addr} {Q : VK} {E : XK} (hP : PoolAt K H p) (k : ∀ (z : Str) H', z.length ≤ 12 → Sg z → Ext [p] H H' → PoolAt K H' p → Q (.str z) H') : sp_law_name K ([.ref p] ++ []) H Q E := ⟨_, rfl, p, rfl, hP, k⟩
/-! ### cells -/
theorem cells_snoc {d : PyData} : ∀ {i : Nat} {ds : List PyData}, Cells i ds → Cell (i + ds.length) d → Cells i (ds ++ [d])
  | i, [], _, h => ⟨h, trivial⟩
  | i, x :: ds, h, k => ⟨h.1, cells_snoc h.2 (by rw [show i + 1 + ds.length = i + (x :: ds).length from by rw [List.length_cons]; omega]; exact k)⟩
theorem cell_non : ∀ {i : Nat}, i < 4 → Cell i .none
  | 0, _ => .inl rfl
  | 1, _ => .inl rfl
  | 2, _ => .inl rfl
  | 3, _ => .inl rfl
  | _ + 4, h => by omega
theorem cell_of {H : Hp} {n a b : Int} {z : Str} {k : Bool} {t : Addr} (hz : Sg z) (ht : H t = some (.tup [.str (Str.ofString "sealed"), .str (Str.ofString "int"), .int a, .int b])) : ∀ {i : Nat}, i < 4 → ∃ v d, ([.int n, .str z] ++ [.bl k, .ref t] : List V)[i]? = some v ∧ Cell i d ∧ Im H v d
  | 0, _ => ⟨_, _, rfl, .inr ⟨n, rfl⟩, .int n⟩
  | 1, _ => ⟨_, _, rfl, .inr ⟨z, hz, rfl⟩, .str z⟩
  | 2, _ => ⟨_, _, rfl, .inr ⟨k, rfl⟩, .bl k⟩
  | 3, _ => ⟨_, _, rfl, .inr ⟨a, b, rfl⟩, .tup ht (show 4 ≤ 1000 by decide) (.cons (.str _) (.cons (.str _) (.cons (.int _) (.cons (.int _) .nil))))⟩
  | _ + 4, h => by omega
def sp_law_cells (K : PySem.W.Frag) : Sp := sp1 fun a H Q => ∃ (p : Addr), a = .ref p ∧ PoolAt K H p ∧ ∀ q xs ds H', Ext [p] H H' → PoolAt K H' p → H' q = some (.tup xs) → xs.length ≤ 4 → ImAll H' xs ds → Cells 0 ds → Q (.ref q) H'
theorem ok_law_cells (T : Txt K mg) : FnOk P w K mg base CX0 6 T.f__law_cells T.d__law_cells ["pool"] (sp_law_cells K) := by
  refine T.F__law_cells.ok sc_law_cells len1 (fun cdv A outer s H vs Q E hr h => ?_)
  have nd := sc_law_cells.nd
  have hu := hu_of hr
  obtain ⟨_, rfl, p, rfl, hP, k⟩ := h
  refine ⟨_,
      (pss_cons (ps_set (i := 1) nd rfl (Or.inr rfl) (pe_lstZ (pa_cons (pe_op op_sub (pe_call (ok_law_draw T) (hr.mono (by decide)) (by rfl) T.g__law_draw T.F__law_draw.kp T.k__law_draw .nil pass0 (pa_cons (pv 0) (pa_cons (pe_op op_add (pe_op op_mul pe_int (pe_op op_pow pe_int pe_int)) pe_int) pa_nil))) (pe_op op_pow pe_int pe_int)) (pa_cons (pe_op zop_addS (pe_op zop_mulS pe_str (pe_call (ok_law_draw T) (hr.mono (by decide)) (by rfl) T.g__law_draw T.F__law_draw.kp T.k__law_draw .nil pass0 (pa_cons (pv 0) (pa_cons pe_int pa_nil)))) (pe_call (ok_law_name T) (hr.mono (by decide)) (by rfl) T.g__law_name T.F__law_name.kp T.k__law_name .nil pass0 (pa_cons (pv 0) pa_nil))) pa_nil)))) 
      (pss_cons (ps_set (i := 1) nd rfl (Or.inr rfl) (pe_op zop_cat (pv 1) (pe_lstZ (pa_cons (pe_cmpR op_eq (pe_call (ok_law_draw T) (hr.mono (by decide)) (by rfl) T.g__law_draw T.F__law_draw.kp T.k__law_draw .nil pass0 (pa_cons (pv 0) (pa_cons pe_int pa_nil))) pe_int (nomark _)) (pa_cons (pe_tupZ (pa_cons pe_str (pa_cons pe_str (pa_cons (pe_op op_add pe_int (pe_call (ok_law_draw T) (hr.mono (by decide)) (by rfl) T.g__law_draw T.F__law_draw.kp T.k__law_draw .nil pass0 (pa_cons (pv 0) (pa_cons pe_int pa_nil)))) (pa_cons (pe_call (ok_law_draw T) (hr.mono (by decide)) (by rfl) T.g__law_draw T.F__law_draw.kp T.k__law_draw .nil pass0 (pa_cons (pv 0) (pa_cons (pe_op op_mul pe_int (pe_op op_pow pe_int pe_int)) pa_nil))) pa_nil))))) pa_nil))))) 
      (pss_one (ps_ret (pe_callTy zc_tup (by rfl) T.b_tuple (by decide +kernel) (pa_cons (pe_lc (own := [("k", 2)]) rfl nd (pi_range1 (by rfl) T.b_range (pa_cons (pe_call (ok_law_draw T) (hr.mono (by decide)) (by rfl) T.g__law_draw T.F__law_draw.kp T.k__law_draw .nil pass0 (pa_cons (pv 0) (pa_cons pe_int pa_nil))) pa_nil)) (blkOk_by (own := [("k", 2)]) (N := ["pool", "cells", "k"]) (sc := defScope s_law_cells) (by decide +kernel)) (fun _ _ _ _ _ => (pg_name (i := 2) nd rfl (Or.inl rfl))) (fun _ _ _ _ _ => pts_nil) (fun _ _ _ _ _ => (pe_ifExp (pt_cmpR op_gt (pe_call (ok_law_draw T) (hr.mono (by decide)) (by rfl) T.g__law_draw T.F__law_draw.kp T.k__law_draw .nil pass0 (pa_cons (pv 0) (pa_cons pe_int pa_nil))) pe_int (nomark _)) (pe_ix (ix_listK (K := K) rfl) (pv 1) (pv 2) (fun _ _ => rfl)) pe_non))) pa_nil)))))), ?_⟩
  change (_ : TS) _ [some _, none, none] _
  try dsimp only [cxOf, Cx.nox, Cx.wish]
  walk_at "go"
  refine w_draw hP (by decide) (by decide) fun d H1 a0 a1 e1 P1 => ?_
  walk_at "go"
  refine w_draw P1 (by decide) (by decide) fun x H2 b0 b1 e2 P2 => ?_
  walk_at "go"
  refine w_mulS (by decide) (by omega) ?_
  walk_at "go"
  refine w_name P2 fun z H3 zl zg e3 P3 => ?_
  have lx : (Txt.mul (Str.ofString "x") x).length = x.toNat := by
    rw [str_len_mul b0, show (Str.ofString "x").length = 1 from by decide, Nat.one_mul]
  refine w_addS (sz (by omega)) ?_
  have sg : Sg (Txt.mul (Str.ofString "x") x ++ z) := (Sg.mul (fun c hc => by
    have : ∀ c ∈ (Str.ofString "x").cps.toList, c < 128 := by decide
    exact this c hc) x).app zg
  generalize Txt.mul (Str.ofString "x") x ++ z = zz at sg ⊢
  walk_at "go"
  refine ⟨sz (by show 2 ≤ _; decide), w_alc fun q1 H4 e4 n4 h4 => ?_⟩
  walk_at "go"
  refine w_draw (P3.ext e4 List.not_mem_nil) (by decide) (by decide) fun y H5 c0 c1 e5 P5 => ?_
  walk_at "go"
  refine w_draw P5 (by decide) (by decide) fun u H6 f0 f1 e6 P6 => ?_
  walk_at "go"
  refine w_draw P6 (by decide) (by decide) fun v H7 g0 g1 e7 P7 => ?_
  walk_at "go"
  refine ⟨sz (by show 4 ≤ _; decide), w_alc fun t H8 e8 n8 h8 => ?_⟩
  walk_at "go"
  refine ⟨sz (by show 2 ≤ _; decide), w_alc fun q2 H9 e9 n9 h9 => ?_⟩
  have nq1 : q1 ≠ p := (P3.ne n4).symm
  have h4' := e9.keep _ _ (e8.keep _ _ (e7.keep _ _ (e6.keep _ _ (e5.keep _ _ h4 (nm1 nq1)) (nm1 nq1)) (nm1 nq1)) List.not_mem_nil) List.not_mem_nil
  have P9 := (P7.ext e8 List.not_mem_nil).ext e9 List.not_mem_nil
  refine w_cat h4' h9 (sz (by show 2 + 2 ≤ _; decide)) (w_alc fun q3 HA eA nA hA => ?_)
  walk_at "go"
  have PA := P9.ext eA List.not_mem_nil
  have hT := eA.tup (e9.tup h8)
  have eHA : Ext [p] H HA := ((((((((e1.trans e2).trans e3).trans e4.up).trans e5).trans e6).trans e7).trans e8.up).trans e9.up).trans eA.up
  refine w_draw PA (by decide) (by decide) fun n HB m0 m1 eB PB => ?_
  walk_at "go"
  have nq3 : q3 ≠ p := (P9.ne nA).symm
  have hB := eB.keep _ _ hA (nm1 nq3)
  refine ⟨_, rfl, by omega, by omega, fun D nD => ?_⟩
  have nDp : D ≠ p := (PB.ne nD).symm
  refine z_lc_range (lo := 0) (fun i acc H' => Ext [p] HB H' ∧ PoolAt K H' p ∧ ∃ ds, ImAll H' acc ds ∧ Cells 0 ds ∧ ds.length = i) nD (fun H' e => ⟨e.up, PB.ext e List.not_mem_nil, [], .nil, trivial, rfl⟩) ?_ ?_
  · rintro Nx i acc HC hi ⟨eC, PC, ds, hia, hcs, hl⟩ hD hN
    walk_at "go"
    refine ⟨rfl, ?_⟩
    walk_at "go"
    refine w_cutE (fun v H' => Ext [p] HC H' ∧ PoolAt K H' p ∧ ∃ d, Cell i d ∧ Im H' v d) ?_ fun Q' hQ => ?_
    · rintro v HE ⟨eE, PE, d, hc, im⟩
      refine w_app (eE.keep _ _ hD (nm1 nDp)) (szl (by rw [hia.len]; omega)) fun HF eF hF => ?_
      exact hN _ _ ⟨(eC.trans eE).dropq eF nD, PE.ext eF (nm1 nDp.symm), ds ++ [d], ImAll.snoc (im.ext eF) ((hia.ext eE).ext eF), cells_snoc hcs (by rw [hl, Nat.zero_add]; exact hc), by rw [List.length_append, hl]; rfl⟩ hF
    · walk_at "ife"
      refine w_draw PC (by decide) (by decide) fun w HE w0 w1 eE PE => ?_
      walk_at "go"
      refine w_d (fun h => ?_) fun h => ?_
      · walk_at "go"
        obtain ⟨v, d, hv, hc, im⟩ := cell_of (n := d - 10 ^ 9) (z := zz) (k := decide (y = 1)) sg hT (i := i) (by omega)
        refine w_ixL (sql (eE.keep _ _ (eC.keep _ _ hB (nm1 nq3)) (nm1 nq3))) (at_nat0 hv) ?_
        exact hQ _ _ ⟨eE, PE, d, hc, ((im.ext eB).ext eC).ext eE⟩
      · walk_at "go"
        exact hQ _ _ ⟨eE, PE, _, cell_non (by omega), .non⟩
  · rintro acc HC ⟨eC, PC, ds, hia, hcs, hl⟩ hD
    walk_at "go"
    refine w_tupL (sql hD) (w_alc fun q HE eE nE hE => ?_)
    refine k q acc ds HE (((eHA.trans eB).trans eC).trans eE.up) (PC.ext eE List.not_mem_nil) hE (by rw [hia.len]; omega) (hia.ext eE) hcs
theorem w_cells {H : Hp} {p : Addr} {Q : VK} {E : XK} (hP : PoolAt K H p) (k : ∀ q xs ds H', Ext [p] H H' → PoolAt K H' p → H' q = some (.tup xs) → xs.length ≤ 4 → ImAll H' xs ds → Cells 0 ds → Q (.ref q) H') : sp_law_cells K ([.ref p] ++ []) H Q E := ⟨_, rfl, p, rfl, hP, k⟩

/-! ### contents -/
def sp_law_content (K : PySem.W.Frag) : Sp := sp2 fun a b H Q => ∃ (p q : Addr) (s : Zk.Slot), a = .ref p ∧ b = .ref q ∧ PoolAt K H p ∧ H q = some (.tup (sVs s)) ∧ ∀ v d H', Ext [p] H H' → PoolAt K H' p → Im H' v d → Cont d → Q v H'
theorem ok_law_content (T : Txt K mg) : FnOk P w K mg base CX0 7 T.f__law_content T.d__law_content ["pool", "slot"] (sp_law_content K) := by
  refine T.F__law_content.ok sc_law_content len2 (fun cdv A outer s H vs Q E hr h => ?_)
  have nd := sc_law_content.nd
  have hu := hu_of hr
  obtain ⟨_, _, rfl, p, q, s, rfl, rfl, hP, hq, k⟩ := h
  refine ⟨_,
      (pss_cons (ps_if (pt_cmpR op_gt (pe_ix ix_tup (pv 1) pe_int (fun _ _ => rfl)) pe_int (nomark _)) 
        (pss_one (ps_ret (pe_tupZ (pa_cons pe_str (pa_cons (pe_call (ok_law_draw T) (hr.mono (by decide)) (by rfl) T.g__law_draw T.F__law_draw.kp T.k__law_draw .nil pass0 (pa_cons (pv 0) (pa_cons pe_int pa_nil))) (pa_cons (pe_call (ok_law_pick T) (hr.mono (by decide)) (by rfl) T.g__law_pick T.F__law_pick.kp T.k__law_pick .nil pass0 (pa_cons (pv 0) (pa_cons (pe_lstZ (pa_cons pe_int (pa_cons pe_int (pa_cons pe_int (pa_cons (pe_op op_pow pe_int pe_int) pa_nil))))) pa_nil))) (pa_cons (pe_call (ok_law_cells T) (hr.mono (by decide)) (by rfl) T.g__law_cells T.F__law_cells.kp T.k__law_cells .nil pass0 (pa_cons (pv 0) pa_nil)) pa_nil))))))) pss_nil) 
      (pss_cons (ps_if (pt_cmpR op_eq (pe_call (ok_law_draw T) (hr.mono (by decide)) (by rfl) T.g__law_draw T.F__law_draw.kp T.k__law_draw .nil pass0 (pa_cons (pv 0) (pa_cons pe_int pa_nil))) pe_int (nomark _)) 
        (pss_one (ps_ret (pe_tupZ (pa_cons pe_str (pa_cons (pe_op op_add pe_int (pe_call (ok_law_draw T) (hr.mono (by decide)) (by rfl) T.g__law_draw T.F__law_draw.kp T.k__law_draw .nil pass0 (pa_cons (pv 0) (pa_cons pe_int pa_nil)))) pa_nil))))) pss_nil) 
      (pss_one (ps_ret (pe_tupZ (pa_cons pe_str (pa_cons (pe_call (ok_law_draw T) (hr.mono (by decide)) (by rfl) T.g__law_draw T.F__law_draw.kp T.k__law_draw .nil pass0 (pa_cons (pv 0) (pa_cons pe_int pa_nil))) (pa_cons (pe_op op_add pe_int (pe_call (ok_law_draw T) (hr.mono (by decide)) (by rfl) T.g__law_draw T.F__law_draw.kp T.k__law_draw .nil pass0 (pa_cons (pv 0) (pa_cons pe_int pa_nil)))) (pa_cons (pe_cmpR op_eq (pe_call (ok_law_draw T) (hr.mono (by decide)) (by rfl) T.g__law_draw T.F__law_draw.kp T.k__law_draw .nil pass0 (pa_cons (pv 0) (pa_cons pe_int pa_nil))) pe_int (nomark _)) (pa_cons (pe_op op_add pe_int (pe_call (ok_law_draw T) (hr.mono (by decide)) (by rfl) T.g__law_draw T.F__law_draw.kp T.k__law_draw .nil pass0 (pa_cons (pv 0) (pa_cons pe_int pa_nil)))) pa_nil)))))))))), ?_⟩
  change (_ : TS) _ [some _, some _] _
  try dsimp only [cxOf, Cx.nox, Cx.wish]
  walk_at "go"
  refine w_cut (fun σ' H' => H = H' ∧ σ' = [some (.ref p), some (.ref q)]) ?_ fun nx hn => ?_
  · rintro _ _ ⟨rfl, rfl⟩
    walk_at "go"
    refine w_cut (fun σ' H' => Ext [p] H H' ∧ PoolAt K H' p ∧ σ' = [some (.ref p), some (.ref q)]) ?_ fun nx hn => ?_
    · rintro _ H1 ⟨e1, P1, rfl⟩
      walk_at "go"
      refine w_draw P1 (by decide) (by decide) fun a H2 a0 a1 e2 P2 => ?_
      walk_at "go"
      refine w_draw P2 (by decide) (by decide) fun b H3 b0 b1 e3 P3 => ?_
      walk_at "go"
      refine w_draw P3 (by decide) (by decide) fun c H4 c0 c1 e4 P4 => ?_
      walk_at "go"
      refine w_draw P4 (by decide) (by decide) fun d H5 d0 d1 e5 P5 => ?_
      walk_at "go"
      refine ⟨sz (by show 5 ≤ _; decide), w_alc fun t H6 e6 n6 h6 => ?_⟩
      exact k _ _ _ (((((e1.trans e2).trans e3).trans e4).trans e5).trans e6.up) (P5.ext e6 List.not_mem_nil) (.tup h6 (show 5 ≤ 1000 by decide) (.cons (.str _) (.cons (.int _) (.cons (.int _) (.cons (.bl _) (.cons (.int _) .nil)))))) (.inr (.inr ⟨_, _, _, _, rfl⟩))
    · walk_at "if"
      refine w_draw hP (by decide) (by decide) fun a H2 a0 a1 e2 P2 => ?_
      walk_at "go"
      refine w_d (fun h => ?_) fun h => ?_ <;> walk_at "go"
      · refine w_draw P2 (by decide) (by decide) fun b H3 b0 b1 e3 P3 => ?_
        walk_at "go"
        refine ⟨sz (by show 2 ≤ _; decide), w_alc fun t H6 e6 n6 h6 => ?_⟩
        exact k _ _ _ ((e2.trans e3).trans e6.up) (P3.ext e6 List.not_mem_nil) (.tup h6 (show 2 ≤ 1000 by decide) (.cons (.str _) (.cons (.int _) .nil))) (.inr (.inl ⟨_, rfl⟩))
      · exact hn _ _ ⟨e2, P2, rfl⟩
  · walk_at "if"
    refine w_d (fun h => ?_) fun h => ?_ <;> walk_at "go"
    · refine w_draw hP (by decide) (by decide) fun a H2 a0 a1 e2 P2 => ?_
      walk_at "go"
      refine ⟨sz (by show 4 ≤ _; decide), w_alc fun o H3 e3 n3 h3 => ?_⟩
      walk_at "go"
      refine w_pick (P2.ext e3 List.not_mem_nil) h3 (P2.ne n3).symm (by decide) (by decide) fun v H4 hv e4 P4 => ?_
      obtain ⟨n, rfl⟩ : ∃ n : Int, v = .int n := by
        simp only [List.mem_cons, List.not_mem_nil, or_false] at hv
        rcases hv with rfl | rfl | rfl | rfl <;> exact ⟨_, rfl⟩
      walk_at "go"
      refine w_cells P4 fun t xs ds H5 e5 P5 h5 lz ia hc => ?_
      walk_at "go"
      refine ⟨sz (by show 4 ≤ _; decide), w_alc fun t2 H6 e6 n6 h6 => ?_⟩
      exact k _ _ _ ((((e2.trans e3.up).trans e4).trans e5).trans e6.up) (P5.ext e6 List.not_mem_nil) (.tup h6 (show 4 ≤ 1000 by decide) (.cons (.str _) (.cons (.int _) (.cons (.int _) (.cons (.tup (e6.tup h5) (by omega) (ia.ext e6)) .nil))))) (.inl ⟨_, _, _, hc, rfl⟩)
    · exact hn _ _ ⟨rfl, rfl⟩
theorem w_content {H : Hp} {p q : Addr} {s : Zk.Slot} {Q : VK} {E : XK} (hP : PoolAt K H p) (hq : H q = some (.tup (sVs s))) (k : ∀ v d H', Ext [p] H H' → PoolAt K H' p → Im H' v d → Cont d → Q v H') : sp_law_content K ([.ref p, .ref q] ++ []) H Q E := ⟨_, _, rfl, p, q, s, rfl, rfl, hP, hq, k⟩

/-! ### the slots that are drawn from -/
theorem slots_dp {H : Hp} {as : List Addr} {ss : List Zk.Slot} (h : SlotsAt H as ss) : DpAll K H (as.map V.ref) (ss.map sD) := by
  unfold SlotsAt at h
  induction h with
  | nil => exact .nil
  | cons h t ih => exact .cons (im_slot h).dp ih
theorem slots_shaped : ∀ {ss : List Zk.Slot}, (∀ s ∈ ss, Sg s.1) → PyData.canLayAll0 (ss.map sD) = true ∧ PyData.depthAll (ss.map sD) ≤ 1
  | [], _ => by simp [PyData.canLayAll0, PyData.depthAll]
  | s :: ss, h => by
    obtain ⟨a, b⟩ := slots_shaped fun t m => h t (List.mem_cons_of_mem _ m)
    have c := SeqAt.canLay_of_shaped (sD_shaped (h s List.mem_cons_self))
    rw [List.map_cons, PyData.canLayAll0, PyData.depthAll, a, c, sD_depth]
    exact ⟨rfl, Nat.max_le.mpr ⟨Nat.le_refl _, b⟩⟩
theorem slots_shaped' {ss : List Zk.Slot} (h : ∀ s ∈ ss, Sg s.1) : SeqAt.shaped (.list (ss.map sD)) = true := by
  obtain ⟨a, b⟩ := slots_shaped h
  unfold SeqAt.shaped
  rw [PyData.canLay0, PyData.depth, a, decide_eq_true (by omega)]
  rfl
def sp_law_universe (K : PySem.W.Frag) : Sp := sp2 fun a b H Q => ∃ (p : Addr) (mn : Int), a = .ref p ∧ b = .int mn ∧ 1 ≤ mn ∧ mn ≤ 100 ∧ PoolAt K H p ∧
  ∀ o bs ss H', Ext [p] H H' → PoolAt K H' p → H o = none → H' o = some (.lst (bs.map V.ref)) → SlotsAt H' bs ss → 1 ≤ ss.length → ss.length ≤ 101 → (∀ s ∈ ss, Sg s.1) → o ≠ p → Q (.ref o) H'
theorem ok_law_universe (T : Txt K mg) : FnOk P w K mg base CX0 6 T.f__law_universe T.d__law_universe ["pool", "many"] (sp_law_universe K) := by
  refine T.F__law_universe.ok sc_law_universe len2 (fun cdv A outer s H vs Q E hr h => ?_)
  have nd := sc_law_universe.nd
  have hu := hu_of hr
  obtain ⟨_, _, rfl, p, mn, rfl, rfl, mn1, mn2, hP, k⟩ := h
  refine ⟨_,
      (pss_cons (ps_setLc (i := 3) (own := [("k", 2)]) rfl nd rfl rfl (sw_true rfl rfl rfl (by decide +kernel)) (pi_range1 (by rfl) T.b_range (pa_cons (pe_op op_add pe_int (pe_call (ok_law_draw T) (hr.mono (by decide)) (by rfl) T.g__law_draw T.F__law_draw.kp T.k__law_draw .nil pass0 (pa_cons (pv 0) (pa_cons pe_int pa_nil)))) pa_nil)) (blkOk_by (own := [("k", 2)]) (N := ["pool", "many", "k", "names", "found", "slot"]) (sc := defScope s_law_universe) (by decide +kernel)) (fun _ _ _ _ _ => (pg_name (i := 2) nd rfl (Or.inl rfl))) (fun _ _ _ _ _ => pts_nil) (fun _ _ _ _ _ => (pe_call (ok_law_name T) (hr.mono (by decide)) (by rfl) T.g__law_name T.F__law_name.kp T.k__law_name .nil pass0 (pa_cons (pv 0) pa_nil)))) 
      (pss_cons (ps_set (i := 4) nd rfl (Or.inl rfl) (pe_lstZ pa_nil)) 
      (pss_cons (ps_for PassesOwn.never rfl (pi_range1 (by rfl) T.b_range (pa_cons (pe_op op_add pe_int (pe_call (ok_law_draw T) (hr.mono (by decide)) (by rfl) T.g__law_draw T.F__law_draw.kp T.k__law_draw .nil pass0 (pa_cons (pv 0) (pa_cons (pv 1) pa_nil)))) pa_nil)) (pg_name (i := 2) nd rfl (Or.inl rfl)) 
        (pss_cons (ps_set (i := 5) nd rfl (Or.inl rfl) (pe_tupZ (pa_cons (pe_call (ok_law_pick T) (hr.mono (by decide)) (by rfl) T.g__law_pick T.F__law_pick.kp T.k__law_pick .nil pass0 (pa_cons (pv 0) (pa_cons (pv 3) pa_nil))) (pa_cons (pe_op op_add pe_int (pe_call (ok_law_draw T) (hr.mono (by decide)) (by rfl) T.g__law_draw T.F__law_draw.kp T.k__law_draw .nil pass0 (pa_cons (pv 0) (pa_cons pe_int pa_nil)))) (pa_cons (pe_op op_add pe_int (pe_call (ok_law_draw T) (hr.mono (by decide)) (by rfl) T.g__law_draw T.F__law_draw.kp T.k__law_draw .nil pass0 (pa_cons (pv 0) (pa_cons (pe_op op_pow pe_int pe_int) pa_nil)))) pa_nil))))) 
        (pss_cons (ps_if (pt_cmpR op_eq (pe_call (ok_law_draw T) (hr.mono (by decide)) (by rfl) T.g__law_draw T.F__law_draw.kp T.k__law_draw .nil pass0 (pa_cons (pv 0) (pa_cons pe_int pa_nil))) pe_int (nomark _)) 
          (pss_one (ps_set (i := 5) nd rfl (Or.inl rfl) (pe_tupZ (pa_cons (pe_ix ix_tup (pv 5) pe_int (fun _ _ => rfl)) (pa_cons pe_int (pa_cons pe_int pa_nil)))))) pss_nil) 
        (pss_one (ps_if (pt_cmpR (op_notInD (room65 hr)) (pv 5) (pv 4) (by rfl)) 
          (pss_one (ps_expr (pe_bm PySem.F.plainAttrs_list PySem.F.slot_list_append PySem.F.type_list_append zmt_append (pv 4) (pa_cons (pv 5) pa_nil)))) pss_nil))))) 
      (pss_one (ps_ret (pv 4)))))), ?_⟩
  change (_ : TS) _ [some _, some _, none, none, none, none] _
  try dsimp only [cxOf, Cx.nox, Cx.wish]
  walk_at "go"
  refine w_draw hP (by decide) (by decide) fun n H1 n0 n1 e1 P1 => ?_
  walk_at "go"
  refine ⟨_, rfl, by omega, by omega, fun D nD => ?_⟩
  have nDp : D ≠ p := (P1.ne nD).symm
  refine z_lc_range (lo := 0) (fun i acc H' => Ext [p] H1 H' ∧ PoolAt K H' p ∧ ∃ ns : List Str, acc = ns.map V.str ∧ ns.length = i ∧ ∀ y ∈ ns, Sg y) nD (fun H' e => ⟨e.up, P1.ext e List.not_mem_nil, [], rfl, rfl, fun _ m => nomatch m⟩) ?_ ?_
  · rintro Nx i acc H2 hi ⟨e2, P2, ns, rfl, hl, hg⟩ hD hN
    walk_at "go"
    refine ⟨rfl, ?_⟩
    walk_at "go"
    refine w_name P2 fun z H3 zl zg e3 P3 => ?_
    refine w_app (e3.keep _ _ hD (nm1 nDp)) (szl (by rw [List.length_map]; omega)) fun H4 e4 h4 => ?_
    refine hN _ _ ⟨(e2.trans e3).dropq e4 nD, P3.ext e4 (nm1 nDp.symm), ns ++ [z], by rw [List.map_append]; rfl, by rw [List.length_append, hl]; rfl, fun y m => ?_⟩ h4
    rcases List.mem_append.mp m with m | m
    · exact hg y m
    · rw [List.mem_singleton.mp m]; exact zg
  · rintro acc H2 ⟨e2, P2, ns, rfl, hl, hg⟩ hD
    walk_at "go"
    refine ⟨Nat.zero_le _, w_alc fun o H3 e3 n3 h3 => ?_⟩
    walk_at "go"
    have P3 := P2.ext e3 List.not_mem_nil
    have nop : o ≠ p := (P2.ne n3).symm
    have nDo : D ≠ o := ne_of_none hD n3
    have hD3 := e3.keep _ _ hD List.not_mem_nil
    refine w_draw P3 (by omega) (by omega) fun m H4 m0 m1 e4 P4 => ?_
    walk_at "go"
    have nD0 : H D = none := e1.free nD
    have no0 : H o = none := (e1.trans e2).free n3
    have e04 : Ext [p] H H4 := ((e1.trans e2).trans e3.up).trans e4
    have hD4 := e4.keep _ _ hD3 (nm1 nDp)
    have h4 := e4.keep _ _ h3 (nm1 nop)
    refine ⟨_, rfl, by omega, by omega, z_for_range (lo := 0) (fun i σ' H' => ∃ (bs : List Addr) (ss : List Zk.Slot) (u v : Option V), σ' = [some (.ref p), some (.int mn), u, some (.ref D), some (.ref o), v] ∧ Ext [p] H H' ∧ PoolAt K H' p ∧
      H' D = some (.lst (ns.map V.str)) ∧ H' o = some (.lst (bs.map V.ref)) ∧ SlotsAt H' bs ss ∧ ss.length ≤ i ∧ (0 < i → 1 ≤ ss.length) ∧ ∀ s ∈ ss, Sg s.1) ⟨[], [], _, _, rfl, e04, P4, hD4, h4, .nil, Nat.zero_le _, fun h => by omega, fun _ m => nomatch m⟩ ?_ ?_⟩
    · rintro N i σ' H5 hi ⟨bs, ss, u, v, rfl, e5, P5, hD5, h5, hss, hl5, hl6, hsg⟩ hN
      walk_at "go"
      refine w_pick P5 hD5 nDp (by rw [List.length_map, hl]; omega) (by rw [List.length_map, hl]; omega) fun v H6 hv e6 P6 => ?_
      obtain ⟨z, hz, rfl⟩ := List.mem_map.mp hv
      have zg := hg z hz
      walk_at "go"
      refine w_draw P6 (by decide) (by decide) fun a H7 a0 a1 e7 P7 => ?_
      walk_at "go"
      refine w_draw P7 (by decide) (by decide) fun b H8 b0 b1 e8 P8 => ?_
      walk_at "go"
      refine ⟨sz (by show 3 ≤ _; decide), w_alc fun t H9 e9 n9 h9 => ?_⟩
      walk_at "go"
      have P9 := P8.ext e9 List.not_mem_nil
      have e59 : Ext [p] H5 H9 := ((e6.trans e7).trans e8).trans e9.up
      refine w_cut (fun σ' H' => Ext [p] H5 H' ∧ PoolAt K H' p ∧ ∃ (t : Addr) (s : Zk.Slot) (u : Option V), σ' = [some (.ref p), some (.int mn), u, some (.ref D), some (.ref o), some (.ref t)] ∧ H' t = some (.tup (sVs s)) ∧ Sg s.1) ?_ fun nx hn => ?_
      · rintro _ HA ⟨eA, PA, t, s, u, rfl, ht, sg⟩
        have hA := eA.keep _ _ h5 (nm1 nop)
        have hDA := eA.keep _ _ hD5 (nm1 nDp)
        have sA := hss.ext eA
        walk_at "go"; walk_at "if"
        refine ⟨sD s, ss.map sD, (im_slot ht).dp, .lst (sql hA) (slots_dp sA), sD_shaped sg, slots_shaped' hsg, ?_⟩
        refine w_bl ?_
        refine w_nb (fun z => ?_) fun z => ?_
        · walk_at "go"
          refine w_append hA (szl (by rw [List.length_map, hss.len]; omega)) ?_
          refine w_chg hA (fun z => z) fun HB eB hB => ?_
          walk_at "go"
          rw [← List.map_singleton (f := V.ref), ← List.map_append] at hB
          refine hN _ _ ⟨bs ++ [t], ss ++ [s], _, _, rfl, (e5.trans eA).dropq eB no0, PA.ext eB (nm1 nop.symm), eB.keep _ _ hDA (nm1 nDo), hB, (sA.ext eB).snoc (eB.tup ht), by rw [List.length_append]; exact Nat.succ_le_succ hl5, fun _ => by rw [List.length_append]; exact Nat.le_add_left _ _, fun y m => ?_⟩
          rcases List.mem_append.mp m with m | m
          · exact hsg y m
          · rw [List.mem_singleton.mp m]; exact sg
        · walk_at "go"
          refine hN _ _ ⟨bs, ss, _, _, rfl, e5.trans eA, PA, hDA, hA, sA, Nat.le_succ_of_le hl5, fun _ => ?_, hsg⟩
          cases ss with
          | nil => cases z
          | cons s r => exact Nat.succ_le_succ (Nat.zero_le _)
      · walk_at "if"
        refine w_draw P9 (by decide) (by decide) fun w HA w0 w1 eA PA => ?_
        walk_at "go"
        refine w_d (fun h => ?_) fun h => ?_
        · have hA := eA.tup h9
          walk_at "go"
          refine ⟨sz (by show 3 ≤ _; decide), w_alc fun t' HB eB nB hB => ?_⟩
          walk_at "go"
          exact hn _ _ ⟨(e59.trans eA).trans eB.up, PA.ext eB List.not_mem_nil, t', (z, 0, 0), _, rfl, hB, zg⟩
        · walk_at "go"
          exact hn _ _ ⟨e59.trans eA, PA, t, (z, 1 + a, 1 + b), _, rfl, eA.tup h9, zg⟩
    · rintro σ' H5 ⟨bs, ss, u, v, rfl, e5, P5, hD5, h5, hss, hl5, hl6, hsg⟩
      walk_at "go"
      exact k o bs ss H5 e5 P5 no0 h5 hss (hl6 (by omega)) (by omega) hsg nop
theorem w_universe {H : Hp} {p : Addr} {mn : Int} {Q : VK} {E : XK} (mn1 : 1 ≤ mn) (mn2 : mn ≤ 100) (hP : PoolAt K H p) (k : ∀ o bs ss H', Ext [p] H H' → PoolAt K H' p → H o = none → H' o = some (.lst (bs.map V.ref)) → SlotsAt H' bs ss → 1 ≤ ss.length → ss.length ≤ 101 → (∀ s ∈ ss, Sg s.1) → o ≠ p → Q (.ref o) H') :
    sp_law_universe K ([.ref p, .int mn] ++ []) H Q E := ⟨_, _, rfl, p, mn, rfl, rfl, mn1, mn2, hP, k⟩

theorem pd_ne {U : List Zk.Slot} {H : Hp} {p d : Addr} {f : Fd} (hP : PoolAt K H p) (h : DM U H d f) : d ≠ p := by
  obtain ⟨sc, ns, pl, re, fi, h1, _⟩ := hP
  obtain ⟨kvs, ks, h2, _⟩ := h
  intro z
  subst z
  rw [h1] at h2
  cases h2
theorem ld_ne {U : List Zk.Slot} {H : Hp} {q d : Addr} {xs : List V} {f : Fd} (hq : H q = some (.lst xs)) (h : DM U H d f) : d ≠ q := by
  obtain ⟨kvs, ks, h2, _⟩ := h
  intro z
  subst z
  rw [hq] at h2
  cases h2
theorem w_tyT {H : Hp} {a : Addr} {kvs : List (List Key × V)} {R : Prop} (h : H a = some (.dT kvs)) (q : R) : tyV K "dict" (.ref a) H ∧ R := ⟨.inr (.inr (.inl ⟨rfl, .inr ⟨kvs, h⟩⟩)), q⟩
theorem w_clearD {U : List Zk.Slot} {H : Hp} {a : Addr} {f : Fd} {Q : VK} (h : DM U H a f) (k : ∀ H', Ext [a] H H' → Q .non H') : tyV K "dict" (.ref a) H ∧ rClearT (.ref a) [] H Q := by
  obtain ⟨kvs, ks, h, _⟩ := h
  exact w_tyT h (w_clearT h k)
/-! ### a state moved on -/
def sp_law_moved (K : PySem.W.Frag) : Sp := sp4 fun a b c d H Q => ∃ (U : List Zk.Slot) (p o q : Addr) (bs : List Addr) (ss : List Zk.Slot) (f : Fd) (mo : Int), a = .ref p ∧ b = .ref o ∧ c = .ref q ∧ d = .int mo ∧ 0 ≤ mo ∧ mo ≤ 100 ∧ Pln U ∧ PoolAt K H p ∧ H o = some (.lst (bs.map V.ref)) ∧ o ≠ p ∧ SlotsAt H bs ss ∧ 1 ≤ ss.length ∧ ss.length ≤ 200 ∧ (∀ s ∈ ss, s ∈ U) ∧ DM U H q f ∧ Stt f ∧
  ∀ r f' H', Ext [p] H H' → PoolAt K H' p → H r = none → DM U H' r f' → Stt f' → Q (.ref r) H'
theorem ok_law_moved (T : Txt K mg) : FnOk P w K mg base CX0 8 T.f__law_moved T.d__law_moved ["pool", "slots", "state", "most"] (sp_law_moved K) := by
  refine T.F__law_moved.ok sc_law_moved len4 (fun cdv A outer s H vs Q E hr h => ?_)
  have nd := sc_law_moved.nd
  have hu := hu_of hr
  obtain ⟨_, _, _, _, rfl, U, p, o, q, bs, ss, f, mo, rfl, rfl, rfl, rfl, mo0, mo1, hU, hP, ho, nop, hss, l1, l8, hsU, hf, sf, k⟩ := h
  refine ⟨_,
      (pss_cons (ps_set (i := 4) nd rfl (Or.inl rfl) (pe_call (ok_law_copy T) (hr.mono (by decide)) (by rfl) T.g__law_copy T.F__law_copy.kp T.k__law_copy .nil pass0 (pa_cons (pv 2) pa_nil))) 
      (pss_cons (ps_for PassesOwn.never rfl (pi_range1 (by rfl) T.b_range (pa_cons (pe_call (ok_law_draw T) (hr.mono (by decide)) (by rfl) T.g__law_draw T.F__law_draw.kp T.k__law_draw .nil pass0 (pa_cons (pv 0) (pa_cons (pe_op op_add (pv 3) pe_int) pa_nil))) pa_nil)) (pg_name (i := 5) nd rfl (Or.inl rfl)) 
        (pss_cons (ps_set (i := 6) nd rfl (Or.inl rfl) (pe_call (ok_law_pick T) (hr.mono (by decide)) (by rfl) T.g__law_pick T.F__law_pick.kp T.k__law_pick .nil pass0 (pa_cons (pv 0) (pa_cons (pv 1) pa_nil)))) 
        (pss_one (ps_if (PW.pt (pw_and (pt_cmp (pc_din hu (pv 6) (pv 4))) (pw_and1 (pt_cmpR op_eq (pe_call (ok_law_draw T) (hr.mono (by decide)) (by rfl) T.g__law_draw T.F__law_draw.kp T.k__law_draw .nil pass0 (pa_cons (pv 0) (pa_cons pe_int pa_nil))) pe_int (nomark _))))) 
          (pss_one (ps_set (i := 4) nd rfl (Or.inl rfl) (pe_call (ok_law_without T) (hr.mono (by decide)) (by rfl) T.g__law_without T.F__law_without.kp T.k__law_without .nil pass0 (pa_cons (pv 4) (pa_cons (pv 6) pa_nil))))) 
          (pss_one (ps_dput hu (pv 4) (pv 6) (pe_call (ok_law_content T) (hr.mono (by decide)) (by rfl) T.g__law_content T.F__law_content.kp T.k__law_content .nil pass0 (pa_cons (pv 0) (pa_cons (pv 6) pa_nil))) rfl)))))) 
      (pss_one (ps_ret (pv 4))))), ?_⟩
  change (_ : TS) _ [some _, some _, some _, some _, none, none, none] _
  try dsimp only [cxOf, Cx.nox, Cx.wish]
  walk_at "go"
  refine w_sp1 ⟨U, q, f, rfl, hU.1, hf, fun D H1 e1 n1 h1 => ?_⟩
  walk_at "go"
  have P1 := hP.ext e1 List.not_mem_nil
  refine w_draw P1 (by omega) (by omega) fun n H2 n0 n1' e2 P2 => ?_
  walk_at "go"
  have nDp : D ≠ p := pd_ne P1 h1
  refine ⟨_, rfl, by omega, by omega, z_for_range (lo := 0) (fun i σ' H' => Ext [p] H H' ∧ PoolAt K H' p ∧ ∃ (D : Addr) (f' : Fd) (u v : Option V), σ' = [some (.ref p), some (.ref o), some (.ref q), some (.int mo), some (.ref D), u, v] ∧ H D = none ∧ DM U H' D f' ∧ Stt f')
    ⟨e1.up.trans e2, P2, D, f, _, _, rfl, n1, h1.ext e2 (nm1 nDp), sf⟩ ?_ ?_⟩
  · rintro N i σ' H3 hi ⟨e3, P3, D, f', u, v, rfl, nD, hD, sf'⟩ hN
    have ho3 := e3.keep _ _ ho (nm1 nop)
    have hs3 := hss.ext e3
    have nDp := pd_ne P3 hD
    walk_at "go"
    refine w_pick P3 ho3 nop (by rw [List.length_map, hss.len]; omega) (by rw [List.length_map, hss.len]; omega) fun v H4 hv e4 P4 => ?_
    obtain ⟨j, hj⟩ := List.mem_iff_getElem?.mp hv
    obtain ⟨b, s, rfl, hb, hs, hb3⟩ := hs3.get hj
    have sU := hsU s (List.mem_of_getElem? hs)
    have hb4 := e4.tup hb3
    have D4 := hD.ext e4 (nm1 nDp)
    walk_at "go"; walk_at "if"
    have other : ∀ {H5 : Hp}, Ext [p] H4 H5 → PoolAt K H5 p → ∀ v d H6, Ext [p] H5 H6 → PoolAt K H6 p → Im H6 v d → Cont d → ∀ H7, Ext [D] H6 H7 → DM U H7 D (putF f' s d) → Ext [p] H H7 ∧ PoolAt K H7 p ∧ H D = none ∧ DM U H7 D (putF f' s d) ∧ Stt (putF f' s d) := fun e5 P5 v d H6 e6 P6 im co H7 e7 h7 =>
      ⟨(((e3.trans e4).trans e5).trans e6).dropq e7 nD, P6.ext e7 (nm1 nDp.symm), nD, h7, stt_put sf' co⟩
    refine w_dinT D4.dr hb4 fun o' ho' => ?_
    rw [ho']
    refine w_bl ?_
    refine w_b (fun z => ?_) fun z => ?_
    · walk_at "go"
      refine w_draw P4 (by decide) (by decide) fun w H5 w0 w1 e5 P5 => ?_
      walk_at "go"
      have D5 := D4.ext e5 (nm1 nDp)
      have hb5 := e5.tup hb4
      refine w_d (fun h => ?_) fun h => ?_
      · walk_at "go"
        refine w_sp2 ⟨U, D, b, f', s, rfl, rfl, hU, sU, hb5, D5, sf', fun r f2 H6 e6 n6 h6 st6 => ?_⟩
        walk_at "go"
        exact hN _ _ ⟨((e3.trans e4).trans e5).trans e6.up, P5.ext e6 List.not_mem_nil, r, f2, _, _, rfl, ((e3.trans e4).trans e5).free n6, h6, st6⟩
      · walk_at "go"
        refine w_content P5 hb5 fun v d H6 e6 P6 im co => ?_
        walk_at "go"
        refine w_dputT hU.1 (D5.ext e6 (nm1 nDp)) (e6.tup hb5) sU im fun H7 e7 h7 => ?_
        obtain ⟨a1, a2, a3, a4, a5⟩ := other e5 P5 v d H6 e6 P6 im co H7 e7 h7
        exact hN _ _ ⟨a1, a2, D, _, _, _, rfl, a3, a4, a5⟩
    · walk_at "go"
      refine w_content P4 hb4 fun v d H6 e6 P6 im co => ?_
      walk_at "go"
      refine w_dputT hU.1 (D4.ext e6 (nm1 nDp)) (e6.tup hb4) sU im fun H7 e7 h7 => ?_
      obtain ⟨a1, a2, a3, a4, a5⟩ := other Ext.refl P4 v d H6 e6 P6 im co H7 e7 h7
      exact hN _ _ ⟨a1, a2, D, _, _, _, rfl, a3, a4, a5⟩
  · rintro σ' H3 ⟨e3, P3, D, f', u, v, rfl, nD, hD, sf'⟩
    walk_at "go"
    exact k D f' H3 e3 P3 nD hD sf'
theorem w_moved {H : Hp} {U : List Zk.Slot} {p o q : Addr} {bs : List Addr} {ss : List Zk.Slot} {f : Fd} {mo : Int} {Q : VK} {E : XK} (m0 : 0 ≤ mo) (m1 : mo ≤ 100) (hU : Pln U) (hP : PoolAt K H p) (ho : H o = some (.lst (bs.map V.ref))) (nop : o ≠ p) (hss : SlotsAt H bs ss) (l1 : 1 ≤ ss.length) (l8 : ss.length ≤ 200) (hsU : ∀ s ∈ ss, s ∈ U) (hf : DM U H q f) (sf : Stt f)
    (k : ∀ r f' H', Ext [p] H H' → PoolAt K H' p → H r = none → DM U H' r f' → Stt f' → Q (.ref r) H') : sp_law_moved K ([.ref p, .ref o, .ref q, .int mo] ++ []) H Q E :=
  ⟨_, _, _, _, rfl, U, p, o, q, bs, ss, f, mo, rfl, rfl, rfl, rfl, m0, m1, hU, hP, ho, nop, hss, l1, l8, hsU, hf, sf, k⟩

/-! ### the slots of two dicts -/
def sp_slots_of_both (K : PySem.W.Frag) : Sp := sp2 fun a b H Q => ∃ (U : List Zk.Slot) (p q : Addr) (f g : Fd), a = .ref p ∧ b = .ref q ∧ U.length ≤ 1000 ∧ DM U H p f ∧ DM U H q g ∧
  ∀ r bs ts H', Ext [] H H' → H r = none → H' r = some (.lst (bs.map V.ref)) → SlotsAt H' bs ts → (∀ s, s ∈ ts ↔ (f s).isSome = true ∨ (g s).isSome = true) → Q (.ref r) H'
theorem ok_slots_of_both (T : Txt K mg) : FnOk P w K mg base CX0 1 T.f_slots_of_both T.d_slots_of_both ["one", "other"] (sp_slots_of_both K) := by
  refine T.F_slots_of_both.ok sc_slots_of_both len2 (fun cdv A outer s H vs Q E hr h => ?_)
  have nd := sc_slots_of_both.nd
  have hu := hu_of hr
  obtain ⟨_, _, rfl, U, p, q, f, g, rfl, rfl, hU, hf, hg, k⟩ := h
  refine ⟨_,
      (pss_one (ps_ret (pe_callB (zc_sortT rfl) (by rfl) T.b_sorted (by decide +kernel) (pa_cons (pe_op zop_cat (pe_callTy (zc_listT rfl) (by rfl) T.b_list (by decide +kernel) (pa_cons (pv 0) pa_nil)) (pe_lock (pe_lc (own := [("slot", 2)]) rfl nd (pi_keys (pv 1)) (blkOk_by (own := [("slot", 2)]) (N := ["one", "other", "slot"]) (sc := defScope s_slots_of_both) (by decide +kernel)) (fun _ _ _ _ _ => (pg_name (i := 2) nd rfl (Or.inl rfl))) (fun _ _ _ _ _ => (pts_one (pt_cmp (pc_dnotin hu (pv 2) (pv 0))))) (fun _ _ _ _ _ => (pv 2))))) pa_nil)))), ?_⟩
  change (_ : TS) _ [some _, some _, none] _
  try dsimp only [cxOf, Cx.nox, Cx.wish]
  walk_at "go"
  refine w_listT hf.dr fun r1 bs1 ks1 H1 e1 n1 h1 s1 nd1 m1 z1 => ?_
  obtain ⟨kvs, ks, hq, mq⟩ := hg.ext e1 List.not_mem_nil
  have f1 := hf.ext e1 List.not_mem_nil
  refine w_lockE hq trivial (fun z => z) fun od H2 L => ?_
  walk_at "go"
  refine w_keysT rfl L.at fun D nD => ?_
  have f2 := f1.dr.lk L
  refine z_lc_keysT mq (fun i acc H' => Ext [] H2 H' ∧ ∃ bs ss, acc = bs.map V.ref ∧ SlotsAt H' bs ss ∧ ss.length ≤ i ∧ ∀ s, s ∈ ss ↔ (f s).isSome = false ∧ s ∈ ks.take i) nD (fun H' e => ⟨e, [], [], rfl, .nil, Nat.le_refl _, fun s => by simp⟩) (fun i acc H' _ ⟨e, _⟩ => e.imm _ _ L.at trivial) ?_ ?_
  · rintro Nx i sl d b acc H3 hi hgs hb ⟨e3, bs, ss, rfl, hss, lss, hm⟩ hD hN
    walk_at "go"
    refine ⟨rfl, ?_⟩
    walk_at "go"
    refine w_dinT (f2.ext e3 List.not_mem_nil) hb fun o ho => ?_
    rw [ho]
    refine w_bl ?_
    have tk : ks.take (i + 1) = ks.take i ++ [sl] := by rw [List.take_add_one, hi]; rfl
    refine w_nb (fun z => ?_) fun z => ?_
    · walk_at "go"
      have lz : (bs.map V.ref).length < sizeLine := by
        have := mq.small hU
        rw [mq.len] at this
        obtain ⟨j1, _⟩ := List.getElem?_eq_some_iff.mp hi
        rw [List.length_map, paired_len hss]
        exact szl (by omega)
      refine w_app hD lz fun H4 e4 h4 => ?_
      rw [← List.map_singleton (f := V.ref), ← List.map_append] at h4
      refine hN _ _ ⟨e3.dropq e4 nD, bs ++ [b], ss ++ [sl], rfl, (hss.ext e4).snoc (e4.tup hb), ?_, fun s => ?_⟩ h4
      · rw [List.length_append]; exact Nat.succ_le_succ lss
      · rw [tk, List.mem_append, List.mem_append, hm s, List.mem_singleton]
        constructor
        · rintro (⟨a, b⟩ | rfl)
          · exact ⟨a, .inl b⟩
          · exact ⟨z, .inr rfl⟩
        · rintro ⟨a, b | rfl⟩
          · exact .inl ⟨a, b⟩
          · exact .inr rfl
    · refine hN _ _ ⟨e3, bs, ss, rfl, hss, Nat.le_succ_of_le lss, fun s => ?_⟩ hD
      rw [tk, List.mem_append, hm s, List.mem_singleton]
      constructor
      · rintro ⟨a, b⟩; exact ⟨a, .inl b⟩
      · rintro ⟨a, b | rfl⟩
        · exact ⟨a, b⟩
        · rw [z] at a; cases a
  · rintro acc H3 ⟨e3, bs, ss, rfl, hss, lss, hm⟩ hD
    have nqD := ne_of_none L.at nD
    refine w_unlock (N := fun H' => zCat (.ref r1) (.ref D) H' fun x H1 => tNil [some (V.ref p), some (V.ref q), none] H1 fun xs H2 => cSortT K (x :: xs) H2 Q) L e3 fun H4 e4 kp => ?_
    walk_at "go"
    have h4 := kp D _ hD nqD.symm
    have hr1 := e4.keep _ _ h1 List.not_mem_nil
    have hs4 : SlotsAt H4 bs ss := by
      refine Paired.mapP hss fun a s h => kp a _ h fun z => ?_
      subst z
      have := e3.imm _ _ L.at trivial
      rw [h] at this; cases this
    have l1 : bs1.length ≤ 1000 := by rw [paired_len s1]; omega
    have l2 : bs.length ≤ 1000 := by
      have := mq.small hU
      rw [mq.len] at this
      rw [paired_len hss]; omega
    refine w_cat hr1 h4 (sz (by rw [List.length_map, List.length_map]; omega)) (w_alc fun r2 H5 e5 n5 h5 => ?_)
    walk_at "go"
    rw [← List.map_append] at h5
    have hall : SlotsAt H5 (bs1 ++ bs) (ks1 ++ ss) := ((s1.ext e4).ext e5).app (hs4.ext e5)
    refine w_sortSl (sql h5) hall fun r3 bs3 ts H6 e6 n6 h6 s6 p6 o6 => ?_
    refine k r3 bs3 ts H6 (((e1.trans e4).trans e5).trans e6) ((e1.trans e4).free (e5.free n6)) h6 s6 fun s => ?_
    rw [p6.mem_iff, List.mem_append, m1, hm, List.take_length, mq.mem]
    cases (f s).isSome <;> cases (g s).isSome <;> simp

theorem w_slots {H : Hp} {U : List Zk.Slot} {p q : Addr} {f g : Fd} {Q : VK} {E : XK} (hU : U.length ≤ 1000) (hf : DM U H p f) (hg : DM U H q g)
    (k : ∀ r bs ts H', Ext [] H H' → H r = none → H' r = some (.lst (bs.map V.ref)) → SlotsAt H' bs ts → (∀ s, s ∈ ts ↔ (f s).isSome = true ∨ (g s).isSome = true) → Q (.ref r) H') : sp_slots_of_both K ([.ref p, .ref q] ++ []) H Q E :=
  ⟨_, _, rfl, U, p, q, f, g, rfl, rfl, hU, hf, hg, k⟩
theorem im_pair {H : Hp} {v : V} {x y : PyData} (h : Im H v (.tuple [x, y])) : ∃ a u w, v = .ref a ∧ H a = some (.tup [u, w]) ∧ Im H u x ∧ Im H w y := by
  obtain ⟨a, xs, rfl, ha, wa⟩ := h.tupE
  cases wa with
  | cons h1 k1 => cases k1 with
    | cons h2 k2 => cases k2; exact ⟨a, _, _, rfl, ha, h1, h2⟩
/-! ### any difference: two different contents for each of its slots -/
abbrev Df := Zk.Slot → Option (Option PyData × Option PyData)
def dF (D : Df) : Fd := fun s => (D s).map fun p => .tuple [oD p.1, oD p.2]
def DOk (D : Df) : Prop := ∀ s p, D s = some p → OCt p.1 ∧ OCt p.2 ∧ p.1 ≠ p.2
theorem dF_some {D : Df} {s : Zk.Slot} {d : PyData} (h : dF D s = some d) : ∃ p, D s = some p ∧ d = .tuple [oD p.1, oD p.2] := by
  unfold dF at h
  obtain ⟨p, hp, e⟩ := Option.map_eq_some_iff.mp h
  exact ⟨p, hp, e.symm⟩
theorem dF_is {D : Df} {s : Zk.Slot} : (dF D s).isSome = (D s).isSome := by unfold dF; rw [Option.isSome_map]
theorem dF_at {D : Df} {s : Zk.Slot} {p : Option PyData × Option PyData} (h : D s = some p) : dF D s = some (.tuple [oD p.1, oD p.2]) := by unfold dF; rw [h]; rfl
def wrA (f : Fd) (D : Df) (s : Zk.Slot) : Prop := ∃ p, D s = some p ∧ f s ≠ p.1
def appF (f : Fd) (D : Df) : Fd := fun s => match D s with | some p => p.2 | none => f s
theorem w_mk {C : Addr} {ta : TA} {σ : L2.St} {H : Hp} {Q : XK} (h : ta σ H fun vs H1 => ∃ v, vs = [v] ∧ ∀ d, H1 d = none → Q (.ref C) (some d) (upd H1 d (.xd [(("slot" : Str), v)]))) : tMkMismatch C ta σ H Q := h
def sp2X (P : V → V → Hp → VK → XK → Prop) : Sp := fun vs H Q E => ∃ a b, vs = [a, b] ∧ P a b H Q E
theorem len2X {P : V → V → Hp → VK → XK → Prop} {x y : Str} : ∀ vs H Q E, sp2X P vs H Q E → vs.length = [x, y].length := fun _ _ _ _ ⟨_, _, e, _⟩ => e ▸ rfl
/-- an exception in the air: its slot is m -/
def Air (C : Addr) (H : Hp) (m : Zk.Slot) (E : XK) : Prop := ∀ dd b H', Ext [] H H' → H' dd = some (.xd [("slot", .ref b)]) → H' b = some (.tup (sVs m)) → E (.ref C) (some dd) H'
def Least (W : Zk.Slot → Prop) (m : Zk.Slot) : Prop := W m ∧ ∀ s, W s → sLt s m = false
def sp_applied (C : Addr) (K : PySem.W.Frag) : Sp := sp2X fun a b H Q E => ∃ (U : List Zk.Slot) (p q : Addr) (f : Fd) (D : Df), a = .ref p ∧ b = .ref q ∧ U.length ≤ 1000 ∧ DM U H p f ∧ DM U H q (dF D) ∧ Stt f ∧ DOk D ∧
  (∀ r H', (∀ s, ¬ wrA f D s) → Ext [] H H' → H r = none → DM U H' r (appF f D) → Q (.ref r) H') ∧ ∀ m, Least (wrA f D) m → Air C H m E
theorem ok_applied (T : Txt K mg) (TE : Errs P K mg) : FnOk P w K mg base (L2.CX P w) 2 T.f_applied T.d_applied ["slots", "difference"] (sp_applied TE.C_Mismatch K) := by
  refine T.F_applied.okX sc_applied len2X (fun cdv A outer s H vs Q E hr h => ?_)
  have nd := sc_applied.nd
  have hu := hu_of hr
  obtain ⟨_, _, rfl, U, p, q, f, D, rfl, rfl, hU, hf, hg, sf, sD', k, kx⟩ := h
  refine ⟨_,
      (pss_cons (ps_for (passes_of rfl) rfl (pi_list (pe_callB (zc_sortT rfl) (by rfl) T.b_sorted (by decide +kernel) (pa_cons (pv 1) pa_nil))) (pg_name (i := 2) nd rfl (Or.inl rfl)) 
        (pss_one (ps_if (pt_cmpR (op_neD hr.units) (pe_dget1 hu (pv 0) (pv 2) ⟨rfl, rfl, rfl, rfl⟩) (pe_ix ix_tup (pe_dget hu (pv 1) (pv 2) (fun _ _ => rfl)) pe_int (fun _ _ => rfl)) (nomark _)) 
          (pss_one (ps_raise rfl (takes_of rfl rfl rfl rfl) (pmk_Mismatch TE.E_Mismatch hr (pa_cons (pv 2) pa_nil)))) pss_nil))) 
      (pss_cons (ps_set (i := 3) nd rfl (Or.inl rfl) pe_dnewTZ) 
      (pss_cons (ps_for (passes_of rfl) rfl (pi_list (pe_call (ok_slots_of_both T) (hr.mono (by decide)) (by rfl) T.g_slots_of_both T.F_slots_of_both.kp T.k_slots_of_both .nil pass0 (pa_cons (pv 0) (pa_cons (pv 1) pa_nil)))) (pg_name (i := 2) nd rfl (Or.inl rfl)) 
        (pss_cons (ps_set (i := 4) nd rfl (Or.inl rfl) (pe_ifExp (pt_cmp (pc_din hu (pv 2) (pv 1))) (pe_ix ix_tup (pe_dget hu (pv 1) (pv 2) (fun _ _ => rfl)) pe_int (fun _ _ => rfl)) (pe_dget hu (pv 0) (pv 2) (fun _ _ => rfl)))) 
        (pss_one (ps_if (pt_cmpR zop_notN (pv 4) pe_non (nomark _)) 
          (pss_one (ps_dput hu (pv 3) (pv 2) (pv 4) rfl)) pss_nil)))) 
      (pss_one (ps_ret (pv 3)))))), ?_⟩
  change (_ : TS) _ [some _, some _, none, none, none] _
  try dsimp only [cxOf, Cx.nox, Cx.wish]
  walk_at "go"
  refine w_sortT hg.dr fun r0 bs0 ts0 H1 e1 n1 h1 s1 nd1 m1 z1 o1 => ?_
  refine ⟨r0, rfl, ⟨_, sql h1⟩, ?_⟩
  have f1 := hf.ext e1 List.not_mem_nil
  have g1 := hg.ext e1 List.not_mem_nil
  refine z_for_list (xs := bs0.map V.ref) (fun i σ' H' => Ext [] H1 H' ∧ (∀ s ∈ ts0.take i, ¬ wrA f D s) ∧ ∃ u, σ' = [some (.ref p), some (.ref q), u, none, none]) ⟨Ext.refl, fun _ m => (by simp at m), _, rfl⟩ (fun i σ' H' _ ⟨e, _⟩ => sql (e.keep _ _ h1 List.not_mem_nil)) ?_ ?_
  · rintro N i x σ' H3 hx ⟨e3, hok, u, rfl⟩ hN
    obtain ⟨b, s, rfl, hb, hs, hb2⟩ := s1.get hx
    have hb3 := e3.tup hb2
    have f3 := f1.ext e3 List.not_mem_nil
    have g3 := g1.ext e3 List.not_mem_nil
    obtain ⟨d, hd⟩ := Option.isSome_iff_exists.mp ((m1 s).mp (List.mem_of_getElem? hs))
    obtain ⟨pr, hp, rfl⟩ := dF_some hd
    obtain ⟨o1', o2', _⟩ := sD' s pr hp
    walk_at "go"; walk_at "if"
    refine w_get1 ?_
    walk_at "go"
    refine w_isD f3.dr ?_
    walk_at "go"
    refine w_get1T f3.dr hb3 fun oo i1 => ?_
    walk_at "go"
    refine w_dgetT g3.dr hb3 hd fun v iv => ?_
    obtain ⟨a, y, z, rfl, ha, iy, iz⟩ := im_pair iv
    walk_at "go"
    refine w_neD i1 iy (sf s).shaped o1'.shaped ?_
    refine w_bl ?_
    refine w_nb (fun z => ?_) fun z => ?_
    · have ne : f s ≠ pr.1 := fun q => Bool.noConfusion ((((sf s).eqv o1').mpr q).symm.trans z)
      walk_at "go"
      refine w_mk ?_
      walk_at "go"
      refine ⟨_, rfl, fun dd ndd => ?_⟩
      refine kx s ⟨⟨pr, hp, ne⟩, fun t ht => ?_⟩ dd b _ ((e1.trans e3).trans (Ext.new ndd)) upd_same ((Ext.new ndd).tup hb3)
      have tm : t ∈ ts0 := (m1 t).mpr (by
        obtain ⟨p', hp', _⟩ := ht
        rw [dF_is, hp']; rfl)
      obtain ⟨j, hj⟩ := List.mem_iff_getElem?.mp tm
      rcases Nat.lt_trichotomy j i with c | c | c
      · exact absurd ht (hok t (by
          rw [List.mem_iff_getElem?]
          exact ⟨j, by rw [List.getElem?_take, if_pos c]; exact hj⟩))
      · subst c
        rw [hs] at hj
        cases hj
        exact sLt_no.mpr fun z => z.irr
      · obtain ⟨l1, e1'⟩ := List.getElem?_eq_some_iff.mp hs
        obtain ⟨l2, e2'⟩ := List.getElem?_eq_some_iff.mp hj
        have := List.pairwise_iff_getElem.mp o1 i j l1 l2 c
        rw [e1', e2'] at this
        exact this
    · have eq : f s = pr.1 := ((sf s).eqv o1').mp z
      walk_at "go"
      refine hN _ _ ⟨e3, fun t m => ?_, _, rfl⟩
      rw [take_snoc hs] at m
      rcases List.mem_append.mp m with m | m
      · exact hok t m
      · rw [List.mem_singleton.mp m]
        rintro ⟨p', hp', hn⟩
        rw [hp] at hp'
        cases hp'
        exact hn eq
  · rintro σ' H2 ⟨e2, hok, u, rfl⟩
    rw [List.length_map, s1.len, List.take_length] at hok
    have ok : ∀ s, ¬ wrA f D s := fun s hw => by
      obtain ⟨p', hp', hn⟩ := id hw
      exact hok s ((m1 s).mpr (by rw [dF_is, hp']; rfl)) hw
    have f2 := f1.ext e2 List.not_mem_nil
    have g2 := g1.ext e2 List.not_mem_nil
    walk_at "go"
    refine w_alc fun F H3 e3 n3 h3 => ?_
    walk_at "go"
    refine w_slots hU (f2.ext e3 List.not_mem_nil) (g2.ext e3 List.not_mem_nil) fun r bs ts H4 e4 n4 h4 s4 m4 => ?_
    refine ⟨r, rfl, ⟨_, sql h4⟩, ?_⟩
    have f4 := (f2.ext e3 List.not_mem_nil).ext e4 List.not_mem_nil
    have g4 := (g2.ext e3 List.not_mem_nil).ext e4 List.not_mem_nil
    have d4 := e4.keep _ _ h3 List.not_mem_nil
    have nrF : r ≠ F := fun z => by subst z; rw [h3] at n4; cases n4
    have sg : Stt (appF f D) := fun s d h => by
      unfold appF at h
      cases hD : D s with
      | none => rw [hD] at h; exact sf s d h
      | some p' => rw [hD] at h; exact (sD' s p' hD).2.1 d h
    refine z_for_list (xs := bs.map V.ref) (fun i σ' H' => Ext [F] H4 H' ∧ DM U H' F (resF (ts.take i) (appF f D)) ∧ ∃ u v, σ' = [some (.ref p), some (.ref q), u, some (.ref F), v]) ⟨Ext.refl, by rw [List.take_zero, resF_nil]; exact DM.nil d4, _, _, rfl⟩ (fun i σ' H' _ ⟨e, _⟩ => sql (e.keep _ _ h4 (nm1 nrF))) ?_ ?_
    · rintro N i x σ' H5 hx ⟨e5, hD, u, v, rfl⟩ hN
      obtain ⟨b, s, rfl, hb, hs, hb2⟩ := s4.get hx
      have hb3 := e5.tup hb2
      have f5 := f4.ext e5 (nm1 (f2.ne n3))
      have g5 := g4.ext e5 (nm1 (g2.ne n3))
      have sm := (m4 s).mp (List.mem_of_getElem? hs)
      have sU : s ∈ U := by
        rcases sm with z | z
        · exact hf.fsub z
        · exact hg.fsub z
      walk_at "go"
      refine w_cutE (fun v' H' => H5 = H' ∧ Im H5 v' (oD (appF f D s))) ?_ fun Q' hQ => ?_
      · rintro v' _ ⟨rfl, iv⟩
        walk_at "go"; walk_at "if"
        cases eg : appF f D s with
        | none =>
          have : v' = .non := ((sg s).non iv).mpr eg
          subst this
          refine w_f rfl ?_
          walk_at "go"
          refine hN _ _ ⟨e5, ?_, _, _, rfl⟩
          rw [take_snoc hs, resF_skip (F := appF f D) eg]
          exact hD
        | some d =>
          have : v' ≠ .non := fun z => by have := ((sg s).non iv).mp z; rw [eg] at this; cases this
          refine w_t (by rw [decide_eq_false this]; rfl) ?_
          rw [eg] at iv
          walk_at "go"
          refine w_dputT hU hD hb3 sU iv fun H6 e6 h6 => ?_
          refine hN _ _ ⟨e5.trans e6, ?_, _, _, rfl⟩
          change DM U H6 F (putF (resF (ts.take i) (appF f D)) s d) at h6
          rw [resF_put (F := appF f D) eg] at h6
          rw [take_snoc hs]; exact h6
      · walk_at "ife"
        refine w_dinT g5.dr hb3 fun o ho => ?_
        rw [ho, dF_is]
        refine w_bl ?_
        cases hp : D s with
        | none =>
          refine w_f rfl ?_
          have fs : (f s).isSome = true := by
            rcases sm with z | z
            · exact z
            · rw [dF_is, hp] at z; cases z
          obtain ⟨d, hfd⟩ := Option.isSome_iff_exists.mp fs
          walk_at "go"
          refine w_dgetT f5.dr hb3 hfd fun v iv => ?_
          refine hQ _ _ ⟨rfl, ?_⟩
          unfold appF; rw [hp, hfd]; exact iv
        | some pr =>
          refine w_t rfl ?_
          walk_at "go"
          refine w_dgetT g5.dr hb3 (dF_at hp) fun v iv => ?_
          obtain ⟨a, y, z, rfl, ha, iy, iz⟩ := im_pair iv
          walk_at "go"
          refine hQ _ _ ⟨rfl, ?_⟩
          unfold appF; rw [hp]; exact iz
    · rintro σ' H5 ⟨e5, hD, u, v, rfl⟩
      walk_at "go"
      rw [List.length_map, s4.len, List.take_length, resF_all fun s ns => ?_] at hD
      · have n0 := (e1.trans e2).free n3
        exact k F H5 ok ((((e1.trans e2).trans e3).trans e4).dropq e5 n0) n0 hD
      · have a : ¬ (f s).isSome = true := fun z => ns ((m4 s).mpr (.inl z))
        have b : ¬ (dF D s).isSome = true := fun z => ns ((m4 s).mpr (.inr z))
        rw [dF_is] at b
        unfold appF
        rw [Option.not_isSome_iff_eq_none.mp b]
        exact Option.not_isSome_iff_eq_none.mp a

def sp_between (K : PySem.W.Frag) : Sp := sp2 fun a b H Q => ∃ (U : List Zk.Slot) (p q : Addr) (f g : Fd), a = .ref p ∧ b = .ref q ∧ U.length ≤ 1000 ∧ DM U H p f ∧ DM U H q g ∧ Stt f ∧ Stt g ∧ ∀ r H', Ext [] H H' → H r = none → DM U H' r (btwF f g) → Q (.ref r) H'
theorem ok_between (T : Txt K mg) : FnOk P w K mg base CX0 2 T.f_between T.d_between ["before", "after"] (sp_between K) := by
  refine T.F_between.ok sc_between len2 (fun cdv A outer s H vs Q E hr h => ?_)
  have nd := sc_between.nd
  have hu := hu_of hr
  obtain ⟨_, _, rfl, U, p, q, f, g, rfl, rfl, hU, hf, hg, sf, sg, k⟩ := h
  refine ⟨_,
      (pss_cons (ps_set (i := 2) nd rfl (Or.inl rfl) pe_dnewTZ) 
      (pss_cons (ps_for PassesOwn.never rfl (pi_list (pe_call (ok_slots_of_both T) (hr.mono (by decide)) (by rfl) T.g_slots_of_both T.F_slots_of_both.kp T.k_slots_of_both .nil pass0 (pa_cons (pv 0) (pa_cons (pv 1) pa_nil)))) (pg_name (i := 3) nd rfl (Or.inl rfl)) 
        (pss_cons (ps_set (i := 4) nd rfl (Or.inl rfl) (pe_tupZ (pa_cons (pe_dget1 hu (pv 0) (pv 3) ⟨rfl, rfl, rfl, rfl⟩) (pa_cons (pe_dget1 hu (pv 1) (pv 3) ⟨rfl, rfl, rfl, rfl⟩) pa_nil)))) 
        (pss_one (ps_if (pt_cmpR (op_neD hr.units) (pe_ix ix_tup (pv 4) pe_int (fun _ _ => rfl)) (pe_ix ix_tup (pv 4) pe_int (fun _ _ => rfl)) (nomark _)) 
          (pss_one (ps_dput hu (pv 2) (pv 3) (pv 4) rfl)) pss_nil)))) 
      (pss_one (ps_ret (pv 2))))), ?_⟩
  change (_ : TS) _ [some _, some _, none, none, none] _
  try dsimp only [cxOf, Cx.nox, Cx.wish]
  walk_at "go"
  refine w_alc fun D H1 e1 n1 h1 => ?_
  walk_at "go"
  refine w_slots hU (hf.ext e1 List.not_mem_nil) (hg.ext e1 List.not_mem_nil) fun r bs ts H2 e2 n2 h2 s2 m2 => ?_
  refine ⟨r, rfl, ⟨_, sql h2⟩, ?_⟩
  have f2 := (hf.ext e1 List.not_mem_nil).ext e2 List.not_mem_nil
  have g2 := (hg.ext e1 List.not_mem_nil).ext e2 List.not_mem_nil
  have npD := f2.dr
  have d2 := e2.keep _ _ h1 List.not_mem_nil
  have nrD : r ≠ D := fun z => by subst z; rw [h1] at n2; cases n2
  refine z_for_list (xs := bs.map V.ref) (fun i σ' H' => Ext [D] H2 H' ∧ DM U H' D (resF (ts.take i) (btwF f g)) ∧ ∃ u v, σ' = [some (.ref p), some (.ref q), some (.ref D), u, v]) ⟨Ext.refl, by rw [List.take_zero, resF_nil]; exact DM.nil d2, _, _, rfl⟩ (fun i σ' H' _ ⟨e, _⟩ => sql (e.keep _ _ h2 (nm1 nrD))) ?_ ?_
  · rintro N i x σ' H3 hx ⟨e3, hD, u, v, rfl⟩ hN
    obtain ⟨b, s, rfl, hb, hs, hb2⟩ := s2.get hx
    have hb3 := e3.tup hb2
    have f3 := f2.ext e3 (nm1 (hf.ne n1))
    have g3 := g2.ext e3 (nm1 (hg.ne n1))
    walk_at "go"
    refine w_get1 ?_
    walk_at "go"
    refine w_isD f3.dr ?_
    walk_at "go"
    refine w_get1T f3.dr hb3 fun o1 i1 => ?_
    walk_at "go"
    refine w_get1 ?_
    walk_at "go"
    refine w_isD g3.dr ?_
    walk_at "go"
    refine w_get1T g3.dr hb3 fun o2 i2 => ?_
    generalize o1.getD .non = x at i1 ⊢
    generalize o2.getD .non = y at i2 ⊢
    walk_at "go"
    refine ⟨sz (by show 2 ≤ _; decide), w_alc fun t H4 e4 n4 h4 => ?_⟩
    walk_at "go"; walk_at "if"
    have sU : s ∈ U := by
      rcases (m2 s).mp (List.mem_of_getElem? hs) with z | z
      · exact hf.fsub z
      · exact hg.fsub z
    refine w_neD (i1.ext e4) (i2.ext e4) (sf s).shaped (sg s).shaped ?_
    refine w_bl ?_
    have e34 : Ext [D] H2 H4 := e3.trans e4.up
    refine w_nb (fun z => ?_) fun z => ?_
    · have ne : f s ≠ g s := fun q => Bool.noConfusion ((((sf s).eqv (sg s)).mpr q).symm.trans z)
      have im : Im H4 (.ref t) (.tuple [oD (f s), oD (g s)]) := .tup h4 (show 2 ≤ 1000 by decide) (.cons (i1.ext e4) (.cons (i2.ext e4) .nil))
      walk_at "go"
      refine w_dputT hU (hD.ext e4 List.not_mem_nil) (e4.tup hb3) sU im fun H5 e5 h5 => ?_
      refine hN _ _ ⟨e34.trans e5, ?_, _, _, rfl⟩
      rw [resF_put (F := btwF f g) (btw_ne ne)] at h5
      rw [take_snoc hs]; exact h5
    · have eq : f s = g s := ((sf s).eqv (sg s)).mp z
      walk_at "go"
      refine hN _ _ ⟨e34, ?_, _, _, rfl⟩
      rw [take_snoc hs, resF_skip (F := btwF f g) (btw_eq eq)]
      exact hD.ext e4 List.not_mem_nil
  · rintro σ' H3 ⟨e3, hD, u, v, rfl⟩
    walk_at "go"
    rw [List.length_map, s2.len, List.take_length, resF_all fun s ns => ?_] at hD
    · exact k D H3 ((e1.trans e2).dropq e3 n1) n1 hD
    · refine btw_eq ?_
      have a : ¬ (f s).isSome = true := fun z => ns ((m2 s).mpr (.inl z))
      have b : ¬ (g s).isSome = true := fun z => ns ((m2 s).mpr (.inr z))
      rw [Option.not_isSome_iff_eq_none.mp a, Option.not_isSome_iff_eq_none.mp b]
theorem w_between {H : Hp} {U : List Zk.Slot} {p q : Addr} {f g : Fd} {Q : VK} {E : XK} (hU : U.length ≤ 1000) (hf : DM U H p f) (hg : DM U H q g) (sf : Stt f) (sg : Stt g)
    (k : ∀ r H', Ext [] H H' → H r = none → DM U H' r (btwF f g) → Q (.ref r) H') : sp_between K ([.ref p, .ref q] ++ []) H Q E := ⟨_, _, rfl, U, p, q, f, g, rfl, rfl, hU, hf, hg, sf, sg, k⟩
theorem eqv_refl_o {x : Option PyData} (h : OCt x) : PyData.eqv (oD x) (oD x) = true := (h.eqv h).mpr rfl

def sMis : Str := Str.ofString "mismatch"
def MisAt (H : Hp) (o : Addr) (m : Zk.Slot) : Prop := ∃ b, H o = some (.lst [.str sMis, .ref b]) ∧ H b = some (.tup (sVs m))

/-! ### the law's own application -/
theorem slotsD_nil {ss : List Zk.Slot} : (PyData.eqv (.list (ss.map sD)) (.list [])) = decide (ss = []) := by
  cases ss with
  | nil => simp [PyData.eqv, PyData.eqvAll]
  | cons s r => simp [PyData.eqv, PyData.eqvAll]
theorem shaped_nil : SeqAt.shaped (.list []) = true := by
  unfold SeqAt.shaped
  simp [PyData.canLay0, PyData.canLayAll0, PyData.depth, PyData.depthAll]
def sp_law_applied (K : PySem.W.Frag) : Sp := sp2 fun a b H Q => ∃ (U : List Zk.Slot) (p q : Addr) (f : Fd) (D : Df), a = .ref p ∧ b = .ref q ∧ Pln U ∧ DM U H p f ∧ DM U H q (dF D) ∧ Stt f ∧ DOk D ∧
  (∀ r o H', (∀ s, ¬ wrA f D s) → Ext [] H H' → H r = none → H o = none → H' o = some (.lst [.ref r]) → DM U H' r (appF f D) → Q (.ref o) H') ∧ ∀ m o H', Least (wrA f D) m → Ext [] H H' → H o = none → MisAt H' o m → Q (.ref o) H'
theorem ok_law_applied (T : Txt K mg) : FnOk P w K mg base CX0 1 T.f__law_applied T.d__law_applied ["slots", "difference"] (sp_law_applied K) := by
  refine T.F__law_applied.ok sc_law_applied len2 (fun cdv A outer s H vs Q E hr h => ?_)
  have nd := sc_law_applied.nd
  have hu := hu_of hr
  obtain ⟨_, _, rfl, U, p, q, f, D, rfl, rfl, ⟨hU, hS⟩, hf, hg, sf, oD', k, kx⟩ := h
  refine ⟨_,
      (pss_cons (ps_set (i := 2) nd rfl (Or.inl rfl) (pe_lstZ pa_nil)) 
      (pss_cons (ps_set (i := 3) nd rfl (Or.inl rfl) pe_dnewTZ) 
      (pss_cons (ps_lock (ps_for PassesOwn.never rfl (pi_keys (pv 0)) (pg_name (i := 4) nd rfl (Or.inl rfl)) 
        (pss_one (ps_if (pt_cmp (pc_dnotin hu (pv 4) (pv 1))) 
          (pss_one (ps_dput hu (pv 3) (pv 4) (pe_dget hu (pv 0) (pv 4) (fun _ _ => rfl)) rfl)) pss_nil)))) 
      (pss_cons (ps_lock (ps_for PassesOwn.never rfl (pi_keys (pv 1)) (pg_name (i := 4) nd rfl (Or.inl rfl)) 
        (pss_cons (ps_if (pt_cmpR (op_neD hr.units) (pe_ix ix_tup (pe_dget hu (pv 1) (pv 4) (fun _ _ => rfl)) pe_int (fun _ _ => rfl)) (pe_ifExp (pt_cmp (pc_din hu (pv 4) (pv 0))) (pe_dget hu (pv 0) (pv 4) (fun _ _ => rfl)) pe_non) (nomark _)) 
          (pss_one (ps_expr (pe_bm PySem.F.plainAttrs_list PySem.F.slot_list_append PySem.F.type_list_append zmt_append (pv 2) (pa_cons (pv 4) pa_nil)))) pss_nil) 
        (pss_one (ps_if (pt_cmpR zop_notN (pe_ix ix_tup (pe_dget hu (pv 1) (pv 4) (fun _ _ => rfl)) pe_int (fun _ _ => rfl)) pe_non (nomark _)) 
          (pss_one (ps_dput hu (pv 3) (pv 4) (pe_ix ix_tup (pe_dget hu (pv 1) (pv 4) (fun _ _ => rfl)) pe_int (fun _ _ => rfl)) rfl)) pss_nil))))) 
      (pss_cons (ps_if (pt_cmpR (op_neD hr.units) (pv 2) (pe_lstZ pa_nil) (nomark _)) 
        (pss_one (ps_ret (pe_lstZ (pa_cons pe_str (pa_cons (pe_callB (zc_minSl rfl hr.units) (by rfl) T.b_min (by decide +kernel) (pa_cons (pv 2) pa_nil)) pa_nil))))) pss_nil) 
      (pss_one (ps_ret (pe_lstZ (pa_cons (pv 3) pa_nil))))))))), ?_⟩
  change (_ : TS) _ [some _, some _, none, none, none] _
  try dsimp only [cxOf, Cx.nox, Cx.wish]
  walk_at "go"
  refine ⟨Nat.zero_le _, w_alc fun W H1 e1 n1 h1 => ?_⟩
  walk_at "go"
  refine w_alc fun F H2 e2 n2 h2 => ?_
  have e02 := e1.trans e2
  have hf2 := hf.ext e02 List.not_mem_nil
  have hg2 := hg.ext e02 List.not_mem_nil
  have nF0 : H F = none := e1.free n2
  have nWF : W ≠ F := ne_of_none h1 n2
  have hW2 := e2.keep _ _ h1 List.not_mem_nil
  obtain ⟨kvs, ks, hp, mp⟩ := id hf2
  walk_at "go"
  refine w_lock hp trivial (fun z => z) fun od H3 L => ?_
  walk_at "go"
  have npF : F ≠ p := (hf.ne nF0).symm
  have nqF : F ≠ q := (hg.ne nF0).symm
  have npW : W ≠ p := (hf.ne n1).symm
  have nqW : W ≠ q := (hg.ne n1).symm
  refine w_keysT rfl L.at ?_
  have f3 := hf2.dr.lk L
  have g3 := hg2.dr.lk L
  have h3 := L.keep h2 npF
  have hW3 := L.keep hW2 npW
  let F1 : Fd := fun s => if (D s).isSome = true then none else f s
  refine z_for_keysT mp (fun i σ' H' => Ext [F] H3 H' ∧ DM U H' F (resF (ks.take i) F1) ∧ ∃ u, σ' = [some (.ref p), some (.ref q), some (.ref W), some (.ref F), u]) ⟨Ext.refl, by rw [List.take_zero, resF_nil]; exact DM.nil h3, _, rfl⟩ (fun i σ' H' _ ⟨e, _⟩ => e.imm _ _ L.at trivial) ?_ ?_
  · rintro N i s d b σ' H4 hi hd hb ⟨e4, hD, u, rfl⟩ hN
    have f4 := f3.ext e4 (nm1 npF.symm)
    have g4 := g3.ext e4 (nm1 nqF.symm)
    have sU := mp.sub _ (List.mem_of_getElem? hi)
    walk_at "go"; walk_at "if"
    refine w_dinT g4 hb fun o ho => ?_
    rw [ho, dF_is]
    refine w_bl ?_
    refine w_nb (fun z => ?_) fun z => ?_
    · walk_at "go"
      refine w_dgetT f4 hb hd fun v iv => ?_
      walk_at "go"
      refine w_dputT hU hD hb sU iv fun H5 e5 h5 => ?_
      refine hN _ _ ⟨e4.trans e5, ?_, _, rfl⟩
      rw [resF_put (F := F1) (show F1 s = some d from (if_neg (by rw [z]; exact fun y => nomatch y)).trans hd)] at h5
      rw [take_snoc hi]; exact h5
    · walk_at "go"
      refine hN _ _ ⟨e4, ?_, _, rfl⟩
      rw [take_snoc hi, resF_skip (F := F1) (show F1 s = none from if_pos z)]
      exact hD
  · rintro σ' H4 ⟨e4, hD, u, rfl⟩
    rw [List.take_length, resF_all fun s ns => ?_] at hD
    · refine w_unlock L e4 fun H5 e5 kp => ?_
      have D5 := dm_unlk L e4 kp npF hD
      have hW4 := e4.keep _ _ hW3 (nm1 nWF)
      have hW5 := kp W _ hW4 npW
      have f5 := hf2.ext e5 (nm1 npF.symm)
      have g5 := hg2.ext e5 (nm1 nqF.symm)
      obtain ⟨kvs', ks', hq, mq⟩ := id g5
      walk_at "go"
      refine w_lock hq trivial (fun z => z) fun od' H6 L' => ?_
      walk_at "go"
      refine w_keysT rfl L'.at ?_
      have f6 := f5.dr.lk L'
      have g6 := g5.dr.lk L'
      have D6 := D5.lk L' nqF
      have hW6 := L'.keep hW5 nqW
      let G : Nat → Fd := fun i s => if (D s).isSome = true ∧ s ∉ ks'.take i then none else appF f D s
      have G0 : F1 = G 0 := by
        funext s
        show (if (D s).isSome = true then none else f s) = if (D s).isSome = true ∧ s ∉ ks'.take 0 then none else appF f D s
        by_cases z : (D s).isSome = true
        · rw [if_pos z, if_pos ⟨z, by simp⟩]
        · rw [if_neg z, if_neg (fun y => z y.1)]
          unfold appF; rw [Option.not_isSome_iff_eq_none.mp z]
      rw [G0] at D6
      have two : ∀ {a : Addr}, a ≠ F → a ≠ W → a ∉ [F, W] := fun x y => nm2 x y
      refine z_for_keysT mq (fun i σ' H' => Ext [F, W] H6 H' ∧ DM U H' F (G i) ∧ (∃ bs ss, H' W = some (.lst (bs.map V.ref)) ∧ SlotsAt H' bs ss ∧ ss.length ≤ i ∧ ∀ s, s ∈ ss ↔ s ∈ ks'.take i ∧ wrA f D s) ∧ ∃ u, σ' = [some (.ref p), some (.ref q), some (.ref W), some (.ref F), u])
        ⟨Ext.refl, D6, ⟨[], [], hW6, .nil, Nat.le_refl _, fun s => by simp⟩, _, rfl⟩ (fun i σ' H' _ ⟨e, _⟩ => e.imm _ _ L'.at trivial) ?_ ?_
      · rintro N i s d b σ' H7 hi hd hb ⟨e7, hD7, ⟨bs, ss, hW7, hss, ls, hm⟩, u, rfl⟩ hN
        have f7 := f6.ext e7 (two npF.symm npW.symm)
        have g7 := g6.ext e7 (two nqF.symm nqW.symm)
        obtain ⟨pr, hpr, rfl⟩ := dF_some hd
        obtain ⟨oc1, oc2, _⟩ := oD' s pr hpr
        have sU := mq.sub _ (List.mem_of_getElem? hi)
        walk_at "go"
        refine w_cut (fun σ' H' => Ext [F, W] H7 H' ∧ DM U H' F (G i) ∧ (∃ bs ss, H' W = some (.lst (bs.map V.ref)) ∧ SlotsAt H' bs ss ∧ ss.length ≤ i + 1 ∧ ∀ s, s ∈ ss ↔ s ∈ ks'.take (i + 1) ∧ wrA f D s) ∧ σ' = [some (.ref p), some (.ref q), some (.ref W), some (.ref F), some (.ref b)]) ?_ fun nx hn => ?_
        · rintro _ H8 ⟨e8, hD8, hw8, rfl⟩
          have g8 := g7.ext e8 (two nqF.symm nqW.symm)
          have hb8 := e8.tup hb
          have tk := take_snoc hi
          walk_at "go"; walk_at "if"
          refine w_dgetT g8 hb8 hd fun v iv => ?_
          obtain ⟨a, y, z, rfl, ha, iy, iz⟩ := im_pair iv
          walk_at "go"
          cases h2 : pr.2 with
          | none =>
            have zn : z = .non := (oc2.non iz).mpr h2
            subst zn
            refine w_f rfl ?_
            walk_at "go"
            refine hN _ _ ⟨e7.trans e8, ?_, hw8, _, rfl⟩
            have ge : G (i + 1) = G i := by
              funext t
              show (if (D t).isSome = true ∧ t ∉ ks'.take (i + 1) then none else appF f D t) = if (D t).isSome = true ∧ t ∉ ks'.take i then none else appF f D t
              by_cases e : t = s
              · subst e
                have ap : appF f D t = none := by unfold appF; rw [hpr]; exact h2
                rw [ap, ite_self, ite_self]
              · rw [tk]
                simp only [List.mem_append, List.mem_singleton, e, or_false]
            rw [ge]; exact hD8
          | some c =>
            have zn : z ≠ .non := fun q => by have := (oc2.non iz).mp q; rw [h2] at this; cases this
            refine w_t (by rw [decide_eq_false zn]; rfl) ?_
            walk_at "go"
            refine w_dgetT g8 hb8 hd fun v iv => ?_
            obtain ⟨a2, y2, z2, rfl, ha2, iy2, iz2⟩ := im_pair iv
            walk_at "go"
            rw [h2] at iz2
            refine w_dputT hU hD8 hb8 sU iz2 fun H9 e9 h9 => ?_
            obtain ⟨bs, ss, hW8, hss, ls, hm⟩ := hw8
            refine hN _ _ ⟨(e7.trans e8).trans (e9.mono fun x m => by rw [List.mem_singleton.mp m]; exact List.mem_cons_self), ?_, ⟨bs, ss, e9.keep _ _ hW8 (nm1 nWF), hss.ext e9, ls, hm⟩, _, rfl⟩
            have ge : G (i + 1) = putF (G i) s (oD (some c)) := by
              funext t
              show (if (D t).isSome = true ∧ t ∉ ks'.take (i + 1) then none else appF f D t) = if t = s then some (oD (some c)) else if (D t).isSome = true ∧ t ∉ ks'.take i then none else appF f D t
              by_cases e : t = s
              · subst e
                rw [if_pos rfl, if_neg (fun y => y.2 (by rw [tk]; simp))]
                unfold appF; rw [hpr]; exact h2
              · rw [if_neg e, tk]
                simp only [List.mem_append, List.mem_singleton, e, or_false]
            rw [ge]; exact h9
        · walk_at "if"
          refine w_dgetT g7 hb hd fun v iv => ?_
          obtain ⟨a, y, z, rfl, ha, iy, iz⟩ := im_pair iv
          walk_at "go"
          refine w_cutE (fun v' H' => H7 = H' ∧ Im H7 v' (oD (f s))) ?_ fun Q' hQ => ?_
          · rintro v' _ ⟨rfl, i2⟩
            refine w_neD iy i2 oc1.shaped (sf s).shaped ?_
            refine w_bl ?_
            have tk := take_snoc hi
            refine w_nb (fun z => ?_) fun z => ?_
            · have ne : f s ≠ pr.1 := fun q => Bool.noConfusion (((oc1.eqv (sf s)).mpr q.symm).symm.trans z)
              walk_at "go"
              refine w_append hW7 (szl (by have := mq.small hU; rw [mq.len] at this; obtain ⟨l, _⟩ := List.getElem?_eq_some_iff.mp hi; rw [List.length_map, hss.len]; omega)) ?_
              refine w_chg hW7 (fun z => z) fun H8 e8 h8 => ?_
              rw [← List.map_singleton (f := V.ref), ← List.map_append] at h8
              refine hn _ _ ⟨e8.mono fun x m => by rw [List.mem_singleton.mp m]; exact List.mem_cons_of_mem _ List.mem_cons_self, hD7.ext e8 (nm1 nWF.symm), ⟨bs ++ [b], ss ++ [s], h8, (hss.ext e8).snoc (e8.tup hb), by rw [List.length_append]; exact Nat.succ_le_succ ls, fun t => ?_⟩, rfl⟩
              rw [tk, List.mem_append, List.mem_append, hm t, List.mem_singleton]
              constructor
              · rintro (⟨x, y⟩ | rfl)
                · exact ⟨.inl x, y⟩
                · exact ⟨.inr rfl, pr, hpr, ne⟩
              · rintro ⟨x | rfl, y⟩
                · exact .inl ⟨x, y⟩
                · exact .inr rfl
            · have eq : pr.1 = f s := (oc1.eqv (sf s)).mp z
              walk_at "go"
              refine hn _ _ ⟨Ext.refl, hD7, ⟨bs, ss, hW7, hss, Nat.le_succ_of_le ls, fun t => ?_⟩, rfl⟩
              rw [tk, List.mem_append, hm t, List.mem_singleton]
              constructor
              · rintro ⟨x, y⟩; exact ⟨.inl x, y⟩
              · rintro ⟨x | rfl, y⟩
                · exact ⟨x, y⟩
                · obtain ⟨p', hp', hn'⟩ := y
                  rw [hpr] at hp'
                  cases hp'
                  exact absurd eq.symm hn'
          · walk_at "ife"
            refine w_dinT f7 hb fun o ho => ?_
            rw [ho]
            refine w_bl ?_
            cases hfs : f s with
            | none =>
              refine w_f rfl ?_
              walk_at "go"
              exact hQ _ _ ⟨rfl, by rw [hfs]; exact .non⟩
            | some c =>
              refine w_t rfl ?_
              walk_at "go"
              refine w_dgetT f7 hb hfs fun v iv => ?_
              exact hQ _ _ ⟨rfl, by rw [hfs]; exact iv⟩
      · rintro σ' H7 ⟨e7, hD7, ⟨bs, ss, hW7, hss, ls, hm⟩, u, rfl⟩
        have GE : G ks'.length = appF f D := by
          funext s
          show (if (D s).isSome = true ∧ s ∉ ks'.take ks'.length then none else appF f D s) = appF f D s
          rw [List.take_length, if_neg fun y => y.2 (mq.mem.mpr (by rw [dF_is]; exact y.1))]
        rw [GE] at hD7
        refine w_unlock L' e7 fun H8 e8 kp' => ?_
        have D8 := dm_unlk L' e7 kp' nqF hD7
        have hW8 := kp' W _ hW7 nqW
        have hs8 : SlotsAt H8 bs ss := Paired.mapP hss fun a s h => kp' a _ h fun z => by
          subst z
          have := e7.imm _ _ L'.at trivial
          rw [h] at this; cases this
        have e08 : Ext [] H H8 := Ext.dropq Ext.refl (Ext.drop (M := [W]) (e02.dropq e5 nF0).up e8 nF0) n1
        have hmU : ∀ s ∈ ss, Sg s.1 := fun s m => hS s (mq.sub _ (List.mem_of_mem_take ((hm s).mp m).1))
        walk_at "go"; walk_at "if"
        refine ⟨Nat.zero_le _, w_alc fun Z H9 e9 n9 h9 => ?_⟩
        have hW9 := e9.keep _ _ hW8 List.not_mem_nil
        have hs9 := hs8.ext e9
        refine ⟨.list (ss.map sD), .list [], .lst (sql hW9) (slots_dp' hs9), .lst (sql h9) .nil, slots_shaped' hmU, shaped_nil, ?_⟩
        rw [slotsD_nil]
        refine w_bl ?_
        refine w_nd (fun z => ?_) fun z => ?_
        · walk_at "go"
          refine ⟨W, bs, ss, rfl, sql hW9, hs9, List.length_pos_iff.mpr z, fun b m hb hmm hl => ?_⟩
          walk_at "go"
          refine ⟨sz (by show 2 ≤ _; decide), w_alc fun o HA eA nA hA => ?_⟩
          refine kx m o HA ⟨((hm m).mp hmm).2, fun t ht => hl t ((hm t).mpr ⟨?_, ht⟩)⟩ ((e08.trans e9).trans eA) ((e08.trans e9).free nA) ⟨b, hA, eA.tup hb⟩
          obtain ⟨p', hp', _⟩ := ht
          rw [List.take_length]
          exact mq.mem.mpr (by rw [dF_is, hp']; rfl)
        · walk_at "go"
          refine ⟨sz (by show 1 ≤ _; decide), w_alc fun o HA eA nA hA => ?_⟩
          refine k F o HA (fun s hs => ?_) ((e08.trans e9).trans eA) nF0 ((e08.trans e9).free nA) hA ((D8.ext e9 List.not_mem_nil).ext eA List.not_mem_nil)
          have : s ∈ ss := (hm s).mpr ⟨by
            obtain ⟨p', hp', _⟩ := hs
            rw [List.take_length]
            exact mq.mem.mpr (by rw [dF_is, hp']; rfl), hs⟩
          rw [z] at this
          cases this
    · show (if (D s).isSome = true then none else f s) = none
      rw [show f s = none from Option.not_isSome_iff_eq_none.mp fun z => ns (mp.mem.mpr z), ite_self]

/-! ### the journal: what it holds -/
structure Jr where
  b : Int
  n : Nat
  st : List Int
  g : Nat → Fd
  D : Nat → Df
structure JOk (J : Jr) : Prop where
  ls : J.st.length = J.n + 1
  sg : ∀ k, Stt (J.g k)
  sd : ∀ k, DOk (J.D k)
  ok : ∀ k, k < J.n → ∀ s, ¬ wrA (J.g k) (J.D k) s
  step : ∀ k, k < J.n → J.g (k + 1) = appF (J.g k) (J.D k)
theorem appF_stt {f : Fd} {D : Df} (h : Stt f) (k : DOk D) : Stt (appF f D) := fun s d e => by
  unfold appF at e
  cases hD : D s with
  | none => rw [hD] at e; exact h s d e
  | some p => rw [hD] at e; exact (k s p hD).2.1 d e
/-- a step is the difference of its states -/
theorem step_btw {f : Fd} {D : Df} (h : ∀ s, ¬ wrA f D s) (k : DOk D) : dF D = btwF f (appF f D) := by
  funext s
  show dF D s = btw (f s) (appF f D s)
  unfold dF appF
  cases hD : D s with
  | none => exact (btw_eq rfl).symm
  | some p =>
    have e : f s = p.1 := Classical.byContradiction fun z => h s ⟨p, hD, z⟩
    show some _ = btw (f s) p.2
    rw [e, btw_ne (k s p hD).2.2]
def Jr.add (J : Jr) (x : Int) (Dn : Df) : Jr := { b := J.b, n := J.n + 1, st := J.st ++ [x], g := fun k => if k ≤ J.n then J.g k else appF (J.g J.n) Dn, D := fun k => if k < J.n then J.D k else Dn }
def Jr.cut (J : Jr) (c : Nat) : Jr := { b := J.b + c, n := J.n - c, st := J.st.drop c, g := fun k => J.g (c + k), D := fun k => J.D (c + k) }
theorem JOk.add {J : Jr} (h : JOk J) (x : Int) {Dn : Df} (k : DOk Dn) (w : ∀ s, ¬ wrA (J.g J.n) Dn s) : JOk (J.add x Dn) := by
  refine ⟨by show (J.st ++ [x]).length = J.n + 1 + 1; rw [List.length_append, h.ls]; rfl, fun i => ?_, fun i => ?_, fun i hi s => ?_, fun i hi => ?_⟩
  · show Stt (if i ≤ J.n then _ else _)
    by_cases z : i ≤ J.n
    · rw [if_pos z]; exact h.sg i
    · rw [if_neg z]; exact appF_stt (h.sg _) k
  · show DOk (if i < J.n then _ else _)
    by_cases z : i < J.n
    · rw [if_pos z]; exact h.sd i
    · rw [if_neg z]; exact k
  · have hi' : i < J.n + 1 := hi
    show ¬ wrA (if i ≤ J.n then _ else _) (if i < J.n then _ else _) s
    rw [if_pos (by omega)]
    by_cases z : i < J.n
    · rw [if_pos z]; exact h.ok i z s
    · have : i = J.n := by omega
      rw [if_neg z, this]; exact w s
  · have hi' : i < J.n + 1 := hi
    show (if i + 1 ≤ J.n then _ else _) = appF (if i ≤ J.n then _ else _) (if i < J.n then _ else _)
    rw [if_pos (show i ≤ J.n by omega)]
    by_cases z : i < J.n
    · rw [if_pos (show i + 1 ≤ J.n by omega), if_pos z]; exact h.step i z
    · have : i = J.n := by omega
      rw [if_neg (show ¬ i + 1 ≤ J.n by omega), if_neg z, this]
theorem JOk.cut {J : Jr} (h : JOk J) {c : Nat} (l : c ≤ J.n) : JOk (J.cut c) := by
  refine ⟨by show (J.st.drop c).length = J.n - c + 1; rw [List.length_drop, h.ls]; omega, fun i => h.sg _, fun i => h.sd _, fun i hi s => h.ok (c + i) (by have : i < J.n - c := hi; omega) s, fun i hi => ?_⟩
  have hi' : i < J.n - c := hi
  exact h.step (c + i) (by omega)
theorem at_int {xs : List V} {k : Nat} {j : Int} {v : V} (h : xs[k]? = some v) (e : j = k) : atI xs j = some v := by subst e; exact atI_nat h
def sp3X (P : V → V → V → Hp → VK → XK → Prop) : Sp := fun vs H Q E => ∃ a b c, vs = [a, b, c] ∧ P a b c H Q E
theorem len3X {P : V → V → V → Hp → VK → XK → Prop} {x y z : Str} : ∀ vs H Q E, sp3X P vs H Q E → vs.length = [x, y, z].length := fun _ _ _ _ ⟨_, _, _, e, _⟩ => e ▸ rfl
/-- the journal J stands at j, its stamps at sl, its steps at pl; F: its dicts -/
structure JAtF (C : Addr) (U : List Zk.Slot) (H : Hp) (j sl pl : Addr) (J : Jr) (F : List Addr) : Prop where
  ob : ∃ dx f l, H j = some (.ins C dx (fs_Journal (.int J.b) (.ref sl) (.ref f) (.ref l) (.ref pl))) ∧ (DM U H f (J.g 0) ∧ f ∈ F) ∧ DM U H l (J.g J.n) ∧ l ∈ F
  hs : H sl = some (.lst (J.st.map V.int))
  ne : sl ≠ pl
  lv : ∀ a ∈ F, ∃ o, H a = some o
  hp : ∃ as : List Addr, H pl = some (.lst (as.map V.ref)) ∧ as.length = J.n ∧ ∀ k, k < J.n → ∃ a, (as.map V.ref)[k]? = some (.ref a) ∧ DM U H a (dF (J.D k)) ∧ a ∈ F
def JAt (C : Addr) (U : List Zk.Slot) (H : Hp) (j sl pl : Addr) (J : Jr) : Prop := ∃ F, JAtF C U H j sl pl J F
theorem JAtF.at {C : Addr} {U : List Zk.Slot} {H : Hp} {j sl pl : Addr} {J : Jr} {F : List Addr} (h : JAtF C U H j sl pl J F) : JAt C U H j sl pl J := ⟨F, h⟩
theorem JAt.ob {C : Addr} {U : List Zk.Slot} {H : Hp} {j sl pl : Addr} {J : Jr} (h : JAt C U H j sl pl J) : ∃ dx f l, H j = some (.ins C dx (fs_Journal (.int J.b) (.ref sl) (.ref f) (.ref l) (.ref pl))) ∧ DM U H f (J.g 0) ∧ DM U H l (J.g J.n) := by
  obtain ⟨F, ⟨dx, f, l, h1, ⟨h2, _⟩, h3, _⟩, _, _, _⟩ := h
  exact ⟨dx, f, l, h1, h2, h3⟩
theorem JAt.hs {C : Addr} {U : List Zk.Slot} {H : Hp} {j sl pl : Addr} {J : Jr} (h : JAt C U H j sl pl J) : H sl = some (.lst (J.st.map V.int)) := h.elim fun _ z => z.hs
theorem JAt.ne {C : Addr} {U : List Zk.Slot} {H : Hp} {j sl pl : Addr} {J : Jr} (h : JAt C U H j sl pl J) : sl ≠ pl := h.elim fun _ z => z.ne
theorem JAt.hp {C : Addr} {U : List Zk.Slot} {H : Hp} {j sl pl : Addr} {J : Jr} (h : JAt C U H j sl pl J) : ∃ as : List Addr, H pl = some (.lst (as.map V.ref)) ∧ as.length = J.n ∧ ∀ k, k < J.n → ∃ a, (as.map V.ref)[k]? = some (.ref a) ∧ DM U H a (dF (J.D k)) := by
  obtain ⟨F, _, _, _, _, as, h1, h2, h3⟩ := h
  exact ⟨as, h1, h2, fun k l => (h3 k l).elim fun a z => ⟨a, z.1, z.2.1⟩⟩
theorem dm_lv {U : List Zk.Slot} {H : Hp} {a : Addr} {f : Fd} (h : DM U H a f) : ∃ o, H a = some o := by
  obtain ⟨kvs, ks, h, _⟩ := h
  exact ⟨_, h⟩
theorem dm_nl {U : List Zk.Slot} {H : Hp} {a : Addr} {f : Fd} {M : List Addr} (h : DM U H a f) (l : ∀ x ∈ M, ∀ kvs, H x ≠ some (.dT kvs)) : a ∉ M := fun m => by
  obtain ⟨kvs, ks, h, _⟩ := h
  exact l a m kvs h
theorem JAtF.extG {C : Addr} {U : List Zk.Slot} {H H' : Hp} {j sl pl : Addr} {J : Jr} {M F : List Addr} (h : JAtF C U H j sl pl J F) (e : Ext M H H') (n : ∀ x ∈ M, x ≠ j ∧ x ≠ sl ∧ x ≠ pl) (l : ∀ a f, DM U H a f → a ∈ F → a ∉ M) : JAtF C U H' j sl pl J F := by
  obtain ⟨⟨dx, f, la, h1, ⟨h2, m2⟩, h3, m3⟩, hs, ne, lv, as, h4, h5, h6⟩ := h
  refine ⟨⟨dx, f, la, e.keep _ _ h1 (fun m => (n j m).1 rfl), ⟨h2.ext e (l _ _ h2 m2), m2⟩, h3.ext e (l _ _ h3 m3), m3⟩, e.keep _ _ hs (fun m => (n sl m).2.1 rfl), ne, (fun a m => (lv a m).elim fun o z => e.live a o z), as, e.keep _ _ h4 (fun m => (n pl m).2.2 rfl), h5, fun k hk => ?_⟩
  obtain ⟨a, z1, z2, z3⟩ := h6 k hk
  exact ⟨a, z1, z2.ext e (l _ _ z2 z3), z3⟩
theorem JAtF.extF {C : Addr} {U : List Zk.Slot} {H H' : Hp} {j sl pl : Addr} {J : Jr} {M F : List Addr} (h : JAtF C U H j sl pl J F) (e : Ext M H H') (n : ∀ x ∈ M, x ≠ j ∧ x ≠ sl ∧ x ≠ pl) (l : ∀ x ∈ M, x ∉ F) : JAtF C U H' j sl pl J F := h.extG e n fun a _ _ m z => l a z m
theorem JAtF.ext {C : Addr} {U : List Zk.Slot} {H H' : Hp} {j sl pl : Addr} {J : Jr} {M F : List Addr} (h : JAtF C U H j sl pl J F) (e : Ext M H H') (n : ∀ x ∈ M, x ≠ j ∧ x ≠ sl ∧ x ≠ pl) (l : ∀ x ∈ M, ∀ kvs, H x ≠ some (.dT kvs)) : JAtF C U H' j sl pl J F := h.extG e n fun _ _ d _ => dm_nl d l
theorem JAtF.ext0 {C : Addr} {U : List Zk.Slot} {H H' : Hp} {j sl pl : Addr} {J : Jr} {F : List Addr} (h : JAtF C U H j sl pl J F) (e : Ext [] H H') : JAtF C U H' j sl pl J F := h.ext e (fun _ m => nomatch m) fun _ m => nomatch m
theorem JAt.ext {C : Addr} {U : List Zk.Slot} {H H' : Hp} {j sl pl : Addr} {J : Jr} {M : List Addr} (h : JAt C U H j sl pl J) (e : Ext M H H') (n : ∀ x ∈ M, x ≠ j ∧ x ≠ sl ∧ x ≠ pl) (l : ∀ x ∈ M, ∀ kvs, H x ≠ some (.dT kvs)) : JAt C U H' j sl pl J := h.elim fun F z => ⟨F, z.ext e n l⟩
theorem JAt.ext0 {C : Addr} {U : List Zk.Slot} {H H' : Hp} {j sl pl : Addr} {J : Jr} (h : JAt C U H j sl pl J) (e : Ext [] H H') : JAt C U H' j sl pl J := h.ext e (fun _ m => nomatch m) fun _ m => nomatch m
theorem JAt.apart {C : Addr} {U : List Zk.Slot} {H : Hp} {j sl pl : Addr} {J : Jr} (h : JAt C U H j sl pl J) : j ≠ sl ∧ j ≠ pl := by
  obtain ⟨dx, f, la, h1, h2, h3⟩ := h.ob
  obtain ⟨as, h4, _⟩ := h.hp
  exact ⟨ne_of h1 h.hs (fun z => nomatch z), ne_of h1 h4 (fun z => nomatch z)⟩
def AirN (f : Str) (C : Addr) (H : Hp) (v : V) (E : XK) : Prop := ∀ dd H', Ext [] H H' → H' dd = some (.xd [(f, v)]) → E (.ref C) (some dd) H'
theorem AirN.ext {f : Str} {C : Addr} {H H' : Hp} {v : V} {E : XK} (h : AirN f C H v E) (e : Ext [] H H') : AirN f C H' v E := fun dd H2 e2 h2 => h dd H2 (e.trans e2) h2
def sPos : Str := Str.ofString "position"
def sStp : Str := Str.ofString "stamp"
theorem w_mkN {C : Addr} {ta : TA} {σ : L2.St} {H : Hp} {Q : XK} (h : ta σ H fun vs H1 => ∃ v, vs = [v] ∧ ∀ d, H1 d = none → Q (.ref C) (some d) (upd H1 d (.xd [(("position" : Str), v)]))) : tMkNoMoment C ta σ H Q := h
theorem w_mkS {C : Addr} {ta : TA} {σ : L2.St} {H : Hp} {Q : XK} (h : ta σ H fun vs H1 => ∃ v, vs = [v] ∧ ∀ d, H1 d = none → Q (.ref C) (some d) (upd H1 d (.xd [(("stamp" : Str), v)]))) : tMkStampBack C ta σ H Q := h
def sp_Journal___init__ (C : Addr) (K : PySem.W.Frag) : Sp := sp4 fun a b c e H Q => ∃ (U : List Zk.Slot) (j dx q : Addr) (n x : Int) (f : Fd), a = .ref j ∧ b = .int n ∧ c = .int x ∧ e = .ref q ∧ H j = some (.ins C dx []) ∧ U.length ≤ 1000 ∧ DM U H q f ∧
  ∀ sl pl F H', Ext [j] H H' → H sl = none → H pl = none → JAtF C U H' j sl pl { b := n, n := 0, st := [x], g := fun _ => f, D := fun _ _ => none } F → (∀ a ∈ F, H a = none) → Q .non H'
theorem ok_Journal___init__ (T : Txt K mg) : FnOk P w K mg base CX0 1 T.f_Journal___init__ T.d_Journal___init__ ["self", "position", "stamp", "slots"] (sp_Journal___init__ T.C_Journal K) := by
  refine T.F_Journal___init__.ok sc_Journal___init__ len4 (fun cdv A outer s H vs Q E hr h => ?_)
  have nd := sc_Journal___init__.nd
  have hu := hu_of hr
  obtain ⟨_, _, _, _, rfl, U, j, dx, q, n, x, f, rfl, rfl, rfl, rfl, h0, hU, hf, k⟩ := h
  refine ⟨_,
      (pss_cons (ps_fld (pv 0) (pv 1) rfl) 
      (pss_cons (ps_fld (pv 0) (pe_lstZ (pa_cons (pv 2) pa_nil)) rfl) 
      (pss_cons (ps_fld (pv 0) (pe_lock (zpe_dcT (own := [("slot", 4)]) hu rfl nd (pi_keys (pv 3)) (blkOk_by (own := [("slot", 4)]) (N := ["self", "position", "stamp", "slots", "slot"]) (sc := defScope s_Journal___init__) (by decide +kernel)) (fun _ _ _ _ _ => (pg_name (i := 4) nd rfl (Or.inl rfl))) (fun _ _ _ _ _ => pts_nil) (fun _ _ _ _ _ => (pv 4)) (fun _ _ _ _ _ => (pe_dget hu (pv 3) (pv 4) (fun _ _ => rfl))))) rfl) 
      (pss_cons (ps_fld (pv 0) (pe_lock (zpe_dcT (own := [("slot", 4)]) hu rfl nd (pi_keys (pv 3)) (blkOk_by (own := [("slot", 4)]) (N := ["self", "position", "stamp", "slots", "slot"]) (sc := defScope s_Journal___init__) (by decide +kernel)) (fun _ _ _ _ _ => (pg_name (i := 4) nd rfl (Or.inl rfl))) (fun _ _ _ _ _ => pts_nil) (fun _ _ _ _ _ => (pv 4)) (fun _ _ _ _ _ => (pe_dget hu (pv 3) (pv 4) (fun _ _ => rfl))))) rfl) 
      (pss_one (ps_fld (pv 0) (pe_lstZ pa_nil) rfl)))))), ?_⟩
  change (_ : TS) _ [some _, some _, some _, some _, none] _
  try dsimp only [cxOf, Cx.nox, Cx.wish]
  walk_at "go"
  refine w_sfld h0 T.c_Journal T.na_Journal_begin (Nat.le_of_ble_eq_true rfl) pi_Journal_begin fun H1 e1 h1 => ?_
  have nqj : q ≠ j := fun z => by
    obtain ⟨kv, ks, h, _⟩ := hf
    rw [z, h0] at h; cases h
  walk_at "go"
  refine ⟨sz (by show 1 ≤ _; decide), w_alc fun sl H2 e2 n2 h2 => ?_⟩
  walk_at "go"
  refine w_sfld (e2.keep _ _ h1 List.not_mem_nil) T.c_Journal T.na_Journal_stamps (Nat.le_of_ble_eq_true rfl) pi_Journal_stamps fun H3 e3 h3 => ?_
  have e13 : Ext [j] H H3 := (e1.trans e2.up).trans e3
  have f3 := hf.ext e13 (nm1 nqj)
  have nslj : sl ≠ j := (ne_of_none h1 n2).symm
  have hsl3 := e3.keep _ _ h2 (nm1 nslj)
  walk_at "go"
  refine w_dcopy hU f3 (fun u od H1 R L q => ⟨_, rfl, q⟩) (fun u od H1 D H2 b R L nD e q => ⟨_, rfl, q⟩) (fun _ => rfl) (fun _ => rfl) fun r1 H4 e4 nr1 d1 => ?_
  walk_at "go"
  have h4 := e4.keep _ _ h3 List.not_mem_nil
  refine w_sfld h4 T.c_Journal T.na_Journal_first_slots (Nat.le_of_ble_eq_true rfl) pi_Journal_first_slots fun H5 e5 h5 => ?_
  have f5 := (f3.ext e4 List.not_mem_nil).ext e5 (nm1 nqj)
  have nr1j : r1 ≠ j := (ne_of_none h3 nr1).symm
  have d5 := d1.ext e5 (nm1 nr1j)
  walk_at "go"
  refine w_dcopy hU f5 (fun u od H1 R L q => ⟨_, rfl, q⟩) (fun u od H1 D H2 b R L nD e q => ⟨_, rfl, q⟩) (fun _ => rfl) (fun _ => rfl) fun r2 H6 e6 nr2 d2 => ?_
  walk_at "go"
  refine w_sfld (e6.keep _ _ h5 List.not_mem_nil) T.c_Journal T.na_Journal_last_slots (Nat.le_of_ble_eq_true rfl) pi_Journal_last_slots fun H7 e7 h7 => ?_
  have nr2j : r2 ≠ j := (ne_of_none h5 nr2).symm
  have d7 := (d5.ext e6 List.not_mem_nil).ext e7 (nm1 nr1j)
  have d7' := d2.ext e7 (nm1 nr2j)
  walk_at "go"
  refine ⟨Nat.zero_le _, w_alc fun pl H8 e8 n8 h8 => ?_⟩
  walk_at "go"
  refine w_sfld (e8.keep _ _ h7 List.not_mem_nil) T.c_Journal T.na_Journal_steps (Nat.le_of_ble_eq_true rfl) pi_Journal_steps fun H9 e9 h9 => ?_
  have nplj : pl ≠ j := (ne_of_none h7 n8).symm
  have e37 : Ext [j] H3 H7 := ((e4.up.trans e5).trans e6.up).trans e7
  have e17 : Ext [j] H H7 := e13.trans e37
  have e79 : Ext [j] H7 H9 := e8.up.trans e9
  refine k sl pl [r1, r2] H9 (e17.trans e79) (e1.free n2) (e17.free n8) ⟨⟨dx, r1, r2, h9, ⟨d7.ext e79 (nm1 nr1j), List.mem_cons_self⟩, d7'.ext e79 (nm1 nr2j), List.mem_cons_of_mem _ List.mem_cons_self⟩, e79.keep _ _ (e37.keep _ _ hsl3 (nm1 nslj)) (nm1 nslj), ne_of_none (e37.keep _ _ hsl3 (nm1 nslj)) n8, (fun a m => by
    rcases List.mem_cons.mp m with m | m
    · rw [m]; exact dm_lv (d7.ext e79 (nm1 nr1j))
    · rw [List.mem_singleton.mp m]; exact dm_lv (d7'.ext e79 (nm1 nr2j))), [], e9.keep _ _ h8 (nm1 nplj), rfl, fun k h => absurd h (Nat.not_lt_zero _)⟩ fun a m => ?_
  rcases List.mem_cons.mp m with m | m
  · rw [m]; exact e13.free nr1
  · rw [List.mem_singleton.mp m]; exact (e13.trans (e4.up.trans e5)).free nr2
def sp_Journal_start_position (C : Addr) (K : PySem.W.Frag) : Sp := sp1 fun a H Q => ∃ U j sl pl J, a = .ref j ∧ JAt C U H j sl pl J ∧ Q (.int J.b) H
theorem ok_Journal_start_position (T : Txt K mg) : FnOk P w K mg base CX0 1 T.f_Journal_start_position T.d_Journal_start_position ["self"] (sp_Journal_start_position T.C_Journal K) := by
  refine T.F_Journal_start_position.ok sc_Journal_start_position len1 (fun cdv A outer s H vs Q E hr h => ?_)
  have nd := sc_Journal_start_position.nd
  have hu := hu_of hr
  obtain ⟨_, rfl, U, j, sl, pl, J, rfl, hJ, k⟩ := h
  obtain ⟨dx, f, la, h1, _, _⟩ := hJ.ob
  refine ⟨_,
      (pss_one (ps_ret (pe_fld (pv 0) rfl))), ?_⟩
  change (_ : TS) _ [some _] _
  try dsimp only [cxOf, Cx.nox, Cx.wish]
  walk_at "go"
  exact k
def sp_Journal_end_position (C : Addr) (K : PySem.W.Frag) : Sp := sp1 fun a H Q => ∃ U j sl pl J, a = .ref j ∧ JAt C U H j sl pl J ∧ Q (.int (J.b + J.n)) H
theorem ok_Journal_end_position (T : Txt K mg) : FnOk P w K mg base CX0 1 T.f_Journal_end_position T.d_Journal_end_position ["self"] (sp_Journal_end_position T.C_Journal K) := by
  refine T.F_Journal_end_position.ok sc_Journal_end_position len1 (fun cdv A outer s H vs Q E hr h => ?_)
  have nd := sc_Journal_end_position.nd
  have hu := hu_of hr
  obtain ⟨_, rfl, U, j, sl, pl, J, rfl, hJ, k⟩ := h
  obtain ⟨dx, f, la, h1, _, _⟩ := hJ.ob
  obtain ⟨as, h4, h5, _⟩ := hJ.hp
  refine ⟨_,
      (pss_one (ps_ret (pe_op op_add (pe_fld (pv 0) rfl) (pe_callB zc_len (by rfl) T.b_len (by decide +kernel) (pa_cons (pe_fld (pv 0) rfl) pa_nil))))), ?_⟩
  change (_ : TS) _ [some _] _
  try dsimp only [cxOf, Cx.nox, Cx.wish]
  walk_at "go"
  rw [List.length_map, h5]
  exact k
theorem w_endp {C : Addr} {H : Hp} {U : List Zk.Slot} {j sl pl : Addr} {J : Jr} {Q : VK} {E : XK} (h : JAt C U H j sl pl J) (k : Q (.int (J.b + J.n)) H) : sp_Journal_end_position C K (.ref j :: ([] ++ [])) H Q E := ⟨_, rfl, U, j, sl, pl, J, rfl, h, k⟩
def sp_Journal_need_position (C CN : Addr) (K : PySem.W.Frag) : Sp := sp2X fun a b H Q E => ∃ U j sl pl J, ∃ pos : Int, a = .ref j ∧ b = .int pos ∧ JAt C U H j sl pl J ∧ (¬ (J.b ≤ pos ∧ pos ≤ J.b + J.n) → AirN sPos CN H (.int pos) E) ∧ (J.b ≤ pos ∧ pos ≤ J.b + J.n → Q .non H)
theorem ok_Journal_need_position (T : Txt K mg) (TE : Errs P K mg) : FnOk P w K mg base (L2.CX P w) 2 T.f_Journal_need_position T.d_Journal_need_position ["self", "position"] (sp_Journal_need_position T.C_Journal TE.C_NoMoment K) := by
  refine T.F_Journal_need_position.okX sc_Journal_need_position len2X (fun cdv A outer s H vs Q E hr h => ?_)
  have nd := sc_Journal_need_position.nd
  have hu := hu_of hr
  obtain ⟨_, _, rfl, U, j, sl, pl, J, pos, rfl, rfl, hJ, kx, k⟩ := h
  refine ⟨_,
      (pss_one (ps_if (pt_not (pt_chain op_le op_le (pe_fld (pv 0) rfl) (pv 1) (pe_meth0 (pv 0) T.c_Journal T.m_Journal_end_position (ok_Journal_end_position T) (hr.mono (by decide)) T.k_Journal_end_position .nil pass0))) 
        (pss_one (ps_raise rfl (takes_of rfl rfl rfl rfl) (pmk_NoMoment TE.E_NoMoment hr (pa_cons (pv 1) pa_nil)))) pss_nil)), ?_⟩
  change (_ : TS) _ [some _, some _] _
  try dsimp only [cxOf, Cx.nox, Cx.wish]
  obtain ⟨dx, f, la, h1, _, _⟩ := hJ.ob
  walk_at "go"; walk_at "if"
  refine w_chain ?_
  walk_at "go"
  refine w_d (fun h => ?_) fun h => ?_
  · walk_at "go"
    refine w_meth h1 no_Journal_end_position ?_
    walk_at "go"
    refine w_endp hJ ?_
    walk_at "go"
    by_cases h' : pos ≤ J.b + J.n
    · refine w_f (by simp [h']) ?_
      walk_at "go"
      exact k ⟨h, h'⟩
    · refine w_t (by simp [h']) ?_
      walk_at "go"
      refine w_mkN ?_
      walk_at "go"
      exact ⟨_, rfl, fun dd ndd => kx (fun z => h' z.2) dd _ (Ext.new ndd) upd_same⟩
  · walk_at "go"
    refine w_mkN ?_
    walk_at "go"
    exact ⟨_, rfl, fun dd ndd => kx (fun z => h z.1) dd _ (Ext.new ndd) upd_same⟩
def inJ (J : Jr) (pos : Int) : Prop := J.b ≤ pos ∧ pos ≤ J.b + J.n
theorem w_need {C CN : Addr} {H : Hp} {U : List Zk.Slot} {j sl pl : Addr} {J : Jr} {pos : Int} {Q : VK} {E : XK} (h : JAt C U H j sl pl J) (kx : ¬ inJ J pos → AirN sPos CN H (.int pos) E) (k : inJ J pos → Q .non H) : sp_Journal_need_position C CN K (.ref j :: [.int pos]) H Q E := ⟨_, _, rfl, U, j, sl, pl, J, pos, rfl, rfl, h, kx, k⟩
theorem cutV_take {xs : List V} {c : Nat} : cutV xs none (some (c : Int)) = xs.take c := by
  unfold cutV
  rw [HT.sIx_none, HT.sIx_nat, List.drop_zero, Nat.sub_zero]
  by_cases h : c ≤ xs.length
  · rw [Nat.min_eq_left h]
  · rw [Nat.min_eq_right (by omega), List.take_of_length_le (Nat.le_refl _), List.take_of_length_le (by omega)]
theorem cutV_drop {xs : List V} {c : Nat} (h : c ≤ xs.length) : cutV xs (some (c : Int)) none = xs.drop c := by
  unfold cutV
  rw [HT.sIx_none, HT.sIx_nat, Nat.min_eq_left h]
  exact List.take_of_length_le (by rw [List.length_drop]; exact Nat.le_refl _)
def ovr (l : List Zk.Slot) (f tk : Fd) : Fd := fun s => if s ∈ l then f s else tk s
theorem ovr_nil {f tk : Fd} : ovr [] f tk = tk := by funext s; exact if_neg (fun z => nomatch z)
theorem ovr_put {l : List Zk.Slot} {f tk : Fd} {s : Zk.Slot} {d : PyData} (h : f s = some d) : Zk.putF (ovr l f tk) s d = ovr (l ++ [s]) f tk := by
  funext t
  unfold Zk.putF ovr
  by_cases e : t = s
  · subst e
    rw [if_pos rfl, if_pos (List.mem_append.mpr (.inr (List.mem_singleton.mpr rfl))), h]
  · rw [if_neg e]
    by_cases m : t ∈ l
    · rw [if_pos m, if_pos (List.mem_append.mpr (.inl m))]
    · rw [if_neg m, if_neg (fun z => (List.mem_append.mp z).elim m fun q => e (List.mem_singleton.mp q))]
theorem ovr_del {l : List Zk.Slot} {f tk : Fd} {s : Zk.Slot} (h : f s = none) : delF (ovr l f tk) s = ovr (l ++ [s]) f tk := by
  funext t
  unfold delF ovr
  by_cases e : t = s
  · subst e
    rw [if_pos rfl, if_pos (List.mem_append.mpr (.inr (List.mem_singleton.mpr rfl))), h]
  · rw [if_neg e]
    by_cases m : t ∈ l
    · rw [if_pos m, if_pos (List.mem_append.mpr (.inl m))]
    · rw [if_neg m, if_neg (fun z => (List.mem_append.mp z).elim m fun q => e (List.mem_singleton.mp q))]
theorem nodup_at {l : List Zk.Slot} (h : l.Nodup) {j : Nat} {s : Zk.Slot} (e : l[j]? = some s) : s ∉ l.take j := fun m => by
  obtain ⟨i, hi, e2⟩ := List.getElem_of_mem m
  rw [List.length_take] at hi
  rw [List.getElem_take] at e2
  obtain ⟨lj, e3⟩ := List.getElem?_eq_some_iff.mp e
  have := List.pairwise_iff_getElem.mp h i j (by omega) lj (by omega)
  exact this (e2.trans e3.symm)
def sp_Journal_slots_at (C CN : Addr) (K : PySem.W.Frag) : Sp := sp2X fun a b H Q E => ∃ U j sl pl J, ∃ pos : Int, a = .ref j ∧ b = .int pos ∧ U.length ≤ 1000 ∧ JAt C U H j sl pl J ∧ JOk J ∧ (¬ inJ J pos → AirN sPos CN H (.int pos) E) ∧ ∀ k : Nat, pos = J.b + k → k ≤ J.n → ∀ r H', Ext [] H H' → H r = none → DM U H' r (J.g k) → Q (.ref r) H'
theorem ok_Journal_slots_at (T : Txt K mg) (TE : Errs P K mg) : FnOk P w K mg base (L2.CX P w) 3 T.f_Journal_slots_at T.d_Journal_slots_at ["self", "position"] (sp_Journal_slots_at T.C_Journal TE.C_NoMoment K) := by
  refine T.F_Journal_slots_at.okX sc_Journal_slots_at len2X (fun cdv A outer s H vs Q E hr h => ?_)
  have nd := sc_Journal_slots_at.nd
  have hu := hu_of hr
  obtain ⟨_, _, rfl, U, j, sl, pl, J, pos, rfl, rfl, hU, hJ, ok, kx, k⟩ := h
  refine ⟨_,
      (pss_cons (ps_expr (pe_methT (pv 0) T.c_Journal T.m_Journal_need_position (ok_Journal_need_position T TE) (hr.mono (by decide)) T.k_Journal_need_position (fun σ => passAt (takes_of rfl rfl rfl rfl) σ) (pa_cons (pv 1) pa_nil))) 
      (pss_cons (ps_if (pt_cmpR op_eq (pv 1) (pe_meth0 (pv 0) T.c_Journal T.m_Journal_end_position (ok_Journal_end_position T) (hr.mono (by decide)) T.k_Journal_end_position .nil pass0) (nomark _)) 
        (pss_one (ps_ret (pe_lock (zpe_dcT (own := [("slot", 2)]) hu rfl nd (pi_keys (pe_fld (pv 0) rfl)) (blkOk_by (own := [("slot", 2)]) (N := ["self", "position", "slot", "found", "step"]) (sc := defScope s_Journal_slots_at) (by decide +kernel)) (fun _ _ _ _ _ => (pg_name (i := 2) nd rfl (Or.inl rfl))) (fun _ _ _ _ _ => pts_nil) (fun _ _ _ _ _ => (pv 2)) (fun _ _ _ _ _ => (pe_dget hu (pe_fldK (K := K) rfl (pv 0)) (pv 2) (fun _ _ => rfl))))))) pss_nil) 
      (pss_cons (ps_lock (zps_setDc (i := 3) (own := [("slot", 2)]) hu rfl nd rfl rfl (sw_trueD rfl rfl rfl (by decide +kernel)) (pi_keys (pe_fld (pv 0) rfl)) (blkOk_by (own := [("slot", 2)]) (N := ["self", "position", "slot", "found", "step"]) (sc := defScope s_Journal_slots_at) (by decide +kernel)) (fun _ _ _ _ _ => (pg_name (i := 2) nd rfl (Or.inl rfl))) (fun _ _ _ _ _ => pts_nil) (fun _ _ _ _ _ => (pv 2)) (fun _ _ _ _ _ => (pe_dget hu (pe_fldK (K := K) rfl (pv 0)) (pv 2) (fun _ _ => rfl))))) 
      (pss_cons (ps_for (passes_of rfl) rfl (pi_list (pe_slice sl_list (pe_fld (pv 0) rfl) po_none (po_some (pe_op op_sub (pv 1) (pe_fld (pv 0) rfl))))) (pg_name (i := 4) nd rfl (Or.inl rfl)) 
        (pss_one (ps_lock (ps_for (passes_of rfl) rfl (pi_keys (pv 4)) (pg_name (i := 2) nd rfl (Or.inl rfl)) 
          (pss_one (ps_if (pt_cmpR zop_isN (pe_ix ix_tup (pe_dget hu (pv 4) (pv 2) (fun _ _ => rfl)) pe_int (fun _ _ => rfl)) pe_non (nomark _)) 
            (pss_one (ps_ddelT hu (pv 3) (pv 2))) 
            (pss_one (ps_dput hu (pv 3) (pv 2) (pe_ix ix_tup (pe_dget hu (pv 4) (pv 2) (fun _ _ => rfl)) pe_int (fun _ _ => rfl)) rfl)))))))) 
      (pss_one (ps_ret (pv 3))))))), ?_⟩
  change (_ : TS) _ [some _, some _, none, none, none] _
  try dsimp only [cxOf, Cx.nox, Cx.wish]
  obtain ⟨dx, f, la, h1, hf, hl⟩ := id hJ.ob
  obtain ⟨as, h4, h5, h6⟩ := id hJ.hp
  have no_ : ∀ {x : Addr}, x ∉ ([] : List Addr) := List.not_mem_nil
  walk_at "go"
  refine w_meth h1 no_Journal_need_position ?_
  walk_at "go"
  refine w_need hJ kx fun hin => ?_
  obtain ⟨c, ec⟩ : ∃ c : Nat, pos = J.b + c := ⟨(pos - J.b).toNat, by have := hin.1; omega⟩
  have cn : c ≤ J.n := by have := hin.2; omega
  have k := k c ec cn
  walk_at "go"; walk_at "if"
  refine w_meth h1 no_Journal_end_position ?_
  walk_at "go"
  refine w_endp hJ ?_
  walk_at "go"
  refine w_d (fun h => ?_) fun h => ?_
  · have e : c = J.n := by omega
    subst e
    walk_at "go"
    refine w_dcopy hU hl (fun u od H1 R L q => ?_) (fun u od H1 D H2 b R L nD e q => ?_) (fun _ => rfl) (fun _ => rfl) fun r H' e nr hr => k r H' e nr hr
    · have hj1 := L.keep h1 (fun z => by rw [z] at h1; obtain ⟨kv, ks, h, _⟩ := hl; rw [h1] at h; cases h)
      exact ⟨_, rfl, j, _, dx, _, _, rfl, hj1, T.c_Journal, T.na_Journal_last_slots, lk_Journal_last_slots, q⟩
    · have hj1 := L.keep h1 (fun z => by rw [z] at h1; obtain ⟨kv, ks, h, _⟩ := hl; rw [h1] at h; cases h)
      have hj2 := e.keep _ _ hj1 (nm1 (ne_of_none hj1 nD))
      exact ⟨_, rfl, j, _, dx, _, _, rfl, hj2, T.c_Journal, T.na_Journal_last_slots, lk_Journal_last_slots, q⟩
  · walk_at "go"
    refine w_dcopyS hU hf (fun u od H1 R L q => ?_) (fun u od H1 D H2 b R L nD e q => ?_) (fun _ => rfl) (fun _ => rfl) fun F H2 e2 nF hF => ?_
    · have hj1 := L.keep h1 (fun z => by rw [z] at h1; obtain ⟨kv, ks, h, _⟩ := hf; rw [h1] at h; cases h)
      exact ⟨_, rfl, j, _, dx, _, _, rfl, hj1, T.c_Journal, T.na_Journal_first_slots, lk_Journal_first_slots, q⟩
    · have hj1 := L.keep h1 (fun z => by rw [z] at h1; obtain ⟨kv, ks, h, _⟩ := hf; rw [h1] at h; cases h)
      have hj2 := e.keep _ _ hj1 (nm1 (ne_of_none hj1 nD))
      exact ⟨_, rfl, j, _, dx, _, _, rfl, hj2, T.c_Journal, T.na_Journal_first_slots, lk_Journal_first_slots, q⟩
    have h12 := e2.keep _ _ h1 no_
    have h42 := e2.keep _ _ h4 no_
    walk_at "go"
    refine ⟨_, rfl, w_slL (sql h42) (w_alc fun P H3 e3 n3 h3 => ?_)⟩
    rw [show pos - J.b = (c : Int) by omega, cutV_take, ← List.map_take] at h3
    walk_at "go"
    have e03 := e2.trans e3
    have F3 := hF.ext e3 no_
    have nPF : P ≠ F := by
      obtain ⟨kv, ks, h, _⟩ := F3
      exact ne_of h3 h (fun z => nomatch z)
    refine ⟨P, rfl, ⟨_, sql h3⟩, ?_⟩
    refine z_for_list (xs := (as.take c).map V.ref) (fun i σ' H' => Ext [F] H3 H' ∧ DM U H' F (J.g i) ∧ ∃ u v, σ' = [some (.ref j), some (.int pos), u, some (.ref F), v]) ⟨Ext.refl, F3, _, _, rfl⟩ (fun i σ' H' _ ⟨e, _⟩ => sql (e.keep _ _ h3 (nm1 nPF))) ?_ ?_
    · rintro N i x σ' H4 hx ⟨e4, hD, u, v, rfl⟩ hN
      have hic : i < c := by
        obtain ⟨l, _⟩ := List.getElem?_eq_some_iff.mp hx
        rw [List.length_map, List.length_take] at l; omega
      obtain ⟨a, ha, da⟩ := h6 i (by omega)
      rw [List.map_take, List.getElem?_take, if_pos hic, ha] at hx
      cases hx
      have naF : a ≠ F := da.ne nF
      have a4 := (da.ext e03 no_).ext e4 (nm1 naF)
      obtain ⟨kva, ksa, hpa, mpa⟩ := id a4
      walk_at "go"
      refine w_lock hpa trivial (fun z => z) fun od' H6 L' => ?_
      walk_at "go"
      refine w_keysT rfl L'.at ?_
      have a6 := a4.dr.lk L'
      have D6 := hD.lk L' naF.symm
      have okI := ok.ok i (by omega)
      have stp := ok.step i (by omega)
      refine z_for_keysT mpa (fun jj σ' H' => Ext [F] H6 H' ∧ DM U H' F (ovr (ksa.take jj) (appF (J.g i) (J.D i)) (J.g i)) ∧ ∃ u, σ' = [some (.ref j), some (.int pos), u, some (.ref F), some (.ref a)]) ⟨Ext.refl, by rw [List.take_zero, ovr_nil]; exact D6, _, rfl⟩ (fun jj σ' H' _ ⟨e, _⟩ => e.imm _ _ L'.at trivial) ?_ ?_
      · rintro N' jj s cc b σ' H7 hsj hc hb ⟨e7, hD7, u, rfl⟩ hN'
        have a7 := a6.ext e7 (nm1 naF)
        obtain ⟨pr, hpr, rfl⟩ := dF_some hc
        obtain ⟨oc1, oc2, ocn⟩ := ok.sd i s pr hpr
        have eg : J.g i s = pr.1 := Classical.byContradiction fun z => okI s ⟨pr, hpr, z⟩
        have ea : appF (J.g i) (J.D i) s = pr.2 := by unfold appF; rw [hpr]
        have sU := mpa.sub _ (List.mem_of_getElem? hsj)
        walk_at "go"; walk_at "if"
        refine w_dgetT a7 hb hc fun v iv => ?_
        obtain ⟨a', y', z', rfl, ha', iy', iz'⟩ := im_pair iv
        walk_at "go"
        cases h2 : pr.2 with
        | none =>
          have zn : z' = .non := (oc2.non iz').mpr h2
          subst zn
          refine w_t rfl ?_
          walk_at "go"
          refine w_tddel ?_
          walk_at "go"
          refine w_ddelT hD7 hb ?_ fun H8 e8 h8 => ?_
          · show (if s ∈ ksa.take jj then _ else J.g i s).isSome = true
            rw [if_neg (nodup_at mpa.nd hsj), eg]
            cases h1' : pr.1 with
            | none => rw [h1', h2] at ocn; exact absurd rfl ocn
            | some d => rfl
          · refine hN' _ _ ⟨e7.trans e8, ?_, _, rfl⟩
            rw [ovr_del (ea.trans h2)] at h8
            rw [take_snoc hsj]; exact h8
        | some d =>
          have zn : z' ≠ .non := fun y => by
            have := (oc2.non iz').mp y
            rw [h2] at this; cases this
          refine w_f (by rw [decide_eq_false zn]) ?_
          walk_at "go"
          refine w_dgetT a7 hb hc fun v iv => ?_
          obtain ⟨a2, y2, z2, rfl, ha2, iy2, iz2⟩ := im_pair iv
          rw [h2] at iz2
          walk_at "go"
          refine w_dputT hU hD7 hb sU iz2 fun H8 e8 h8 => ?_
          refine hN' _ _ ⟨e7.trans e8, ?_, _, rfl⟩
          rw [take_snoc hsj]
          have := ovr_put (l := ksa.take jj) (tk := J.g i) (ea.trans h2)
          change DM U H8 F (Zk.putF _ s d) at h8
          rwa [this] at h8
      · rintro σ' H7 ⟨e7, hD7, u, rfl⟩
        have eo : ovr (ksa.take ksa.length) (appF (J.g i) (J.D i)) (J.g i) = J.g (i + 1) := by
          rw [List.take_length, stp]
          funext s
          show (if s ∈ ksa then appF (J.g i) (J.D i) s else J.g i s) = appF (J.g i) (J.D i) s
          by_cases m : s ∈ ksa
          · rw [if_pos m]
          · rw [if_neg m]
            have : J.D i s = none := Option.not_isSome_iff_eq_none.mp fun z => m (mpa.mem.mpr (by rw [dF_is]; exact z))
            unfold appF; rw [this]
        rw [eo] at hD7
        refine w_unlock L' e7 fun H8 e8 kp' => ?_
        exact hN _ _ ⟨e4.trans e8, dm_unlk L' e7 kp' naF.symm hD7, _, _, rfl⟩
    · rintro σ' H4 ⟨e4, hD, u, v, rfl⟩
      rw [List.length_map, List.length_take, h5, Nat.min_eq_left cn] at hD
      walk_at "go"
      exact k F H4 (e03.dropq e4 nF) nF hD
theorem w_jslots {C CN : Addr} {H : Hp} {U : List Zk.Slot} {j sl pl : Addr} {J : Jr} {pos : Int} {Q : VK} {E : XK} (hU : U.length ≤ 1000) (h : JAt C U H j sl pl J) (ok : JOk J) (kx : ¬ inJ J pos → AirN sPos CN H (.int pos) E) (k : ∀ k : Nat, pos = J.b + k → k ≤ J.n → ∀ r H', Ext [] H H' → H r = none → DM U H' r (J.g k) → Q (.ref r) H') :
    sp_Journal_slots_at C CN K (.ref j :: [.int pos]) H Q E := ⟨_, _, rfl, U, j, sl, pl, J, pos, rfl, rfl, hU, h, ok, kx, k⟩
theorem inJ_at {J : Jr} {pos : Int} (h : inJ J pos) : ∃ c : Nat, pos = J.b + c ∧ c ≤ J.n := ⟨(pos - J.b).toNat, by have := h.1; omega, by have := h.1; have := h.2; omega⟩
def sp_Journal_record (C CN : Addr) (K : PySem.W.Frag) : Sp := sp2X fun a b H Q E => ∃ U j sl pl J, ∃ pos : Int, a = .ref j ∧ b = .int pos ∧ U.length ≤ 1000 ∧ JAt C U H j sl pl J ∧ JOk J ∧ (¬ (J.b < pos ∧ pos ≤ J.b + J.n) → AirN sPos CN H (.int pos) E) ∧
  ∀ (k : Nat) x, pos = J.b + k + 1 → k < J.n → J.st[k + 1]? = some x → ∀ t r H', Ext [] H H' → H t = none → H r = none → H' t = some (.tup [.int x, .ref r]) → DM U H' r (dF (J.D k)) → Q (.ref t) H'
theorem ok_Journal_record (T : Txt K mg) (TE : Errs P K mg) : FnOk P w K mg base (L2.CX P w) 2 T.f_Journal_record T.d_Journal_record ["self", "position"] (sp_Journal_record T.C_Journal TE.C_NoMoment K) := by
  refine T.F_Journal_record.okX sc_Journal_record len2X (fun cdv A outer s H vs Q E hr h => ?_)
  have nd := sc_Journal_record.nd
  have hu := hu_of hr
  obtain ⟨_, _, rfl, U, j, sl, pl, J, pos, rfl, rfl, hU, hJ, ok, kx, k⟩ := h
  refine ⟨_,
      (pss_cons (ps_if (pt_not (pt_chain op_lt op_le (pe_fld (pv 0) rfl) (pv 1) (pe_meth0 (pv 0) T.c_Journal T.m_Journal_end_position (ok_Journal_end_position T) (hr.mono (by decide)) T.k_Journal_end_position .nil pass0))) 
        (pss_one (ps_raise rfl (takes_of rfl rfl rfl rfl) (pmk_NoMoment TE.E_NoMoment hr (pa_cons (pv 1) pa_nil)))) pss_nil) 
      (pss_cons (ps_set (i := 2) nd rfl (Or.inr rfl) (pe_ix ix_list (pe_fld (pv 0) rfl) (pe_op op_sub (pe_op op_sub (pv 1) (pe_fld (pv 0) rfl)) pe_int) (fun _ _ => rfl))) 
      (pss_one (ps_ret (pe_tupZ (pa_cons (pe_ix ix_list (pe_fld (pv 0) rfl) (pe_op op_sub (pv 1) (pe_fld (pv 0) rfl)) (fun _ _ => rfl)) (pa_cons (pe_lock (zpe_dcT (own := [("slot", 3)]) hu rfl nd (pi_keys (pv 2)) (blkOk_by (own := [("slot", 3)]) (N := ["self", "position", "step", "slot"]) (sc := defScope s_Journal_record) (by decide +kernel)) (fun _ _ _ _ _ => (pg_name (i := 3) nd rfl (Or.inl rfl))) (fun _ _ _ _ _ => pts_nil) (fun _ _ _ _ _ => (pv 3)) (fun _ _ _ _ _ => (pe_dget hu (pv 2) (pv 3) (fun _ _ => rfl))))) pa_nil))))))), ?_⟩
  change (_ : TS) _ [some _, some _, none, none] _
  try dsimp only [cxOf, Cx.nox, Cx.wish]
  obtain ⟨dx, f, la, h1, hf, hl⟩ := id hJ.ob
  obtain ⟨as, h4, h5, h6⟩ := id hJ.hp
  have hs := hJ.hs
  walk_at "go"; walk_at "if"
  refine w_chain ?_
  walk_at "go"
  refine w_d (fun h => ?_) fun h => ?_
  · walk_at "go"
    refine w_meth h1 no_Journal_end_position ?_
    walk_at "go"
    refine w_endp hJ ?_
    walk_at "go"
    by_cases h' : pos ≤ J.b + J.n
    · refine w_f (by simp [h']) ?_
      obtain ⟨c, ec⟩ : ∃ c : Nat, pos = J.b + c + 1 := ⟨(pos - J.b - 1).toNat, by omega⟩
      have cn : c < J.n := by omega
      obtain ⟨a, ha, da⟩ := h6 c cn
      have lst : c + 1 < J.st.length := by rw [ok.ls]; omega
      have hx : J.st[c + 1]? = some J.st[c + 1] := List.getElem?_eq_getElem lst
      have hxv : (J.st.map V.int)[c + 1]? = some (.int J.st[c + 1]) := by rw [List.getElem?_map, hx]; rfl
      walk_at "go"
      refine w_ixL (sql h4) (at_int ha (by omega)) ?_
      walk_at "go"
      refine w_ixL (sql hs) (at_int hxv (by omega)) ?_
      walk_at "go"
      refine w_dcopy hU da (fun u od H1 R L q => ⟨_, rfl, q⟩) (fun u od H1 D H2 b R L nD e q => ⟨_, rfl, q⟩) (fun _ => rfl) (fun _ => rfl) fun r H2 e2 nr hr => ?_
      walk_at "go"
      refine ⟨sz (by show 2 ≤ _; decide), w_alc fun t H3 e3 n3 h3 => ?_⟩
      exact k c _ ec cn hx t r H3 (e2.trans e3) (e2.free n3) nr h3 (hr.ext e3 List.not_mem_nil)
    · refine w_t (by simp [h']) ?_
      walk_at "go"
      refine w_mkN ?_
      walk_at "go"
      exact ⟨_, rfl, fun dd ndd => kx (fun z => h' z.2) dd _ (Ext.new ndd) upd_same⟩
  · walk_at "go"
    refine w_mkN ?_
    walk_at "go"
    exact ⟨_, rfl, fun dd ndd => kx (fun z => h z.1) dd _ (Ext.new ndd) upd_same⟩
def sp_Journal_difference_between (C CN : Addr) (K : PySem.W.Frag) : Sp := sp3X fun a b c H Q E => ∃ U j sl pl J, ∃ x y : Int, a = .ref j ∧ b = .int x ∧ c = .int y ∧ U.length ≤ 1000 ∧ JAt C U H j sl pl J ∧ JOk J ∧ (¬ inJ J x → AirN sPos CN H (.int x) E) ∧ (inJ J x → ¬ inJ J y → AirN sPos CN H (.int y) E) ∧
  ∀ k l : Nat, x = J.b + k → k ≤ J.n → y = J.b + l → l ≤ J.n → ∀ r H', Ext [] H H' → H r = none → DM U H' r (btwF (J.g k) (J.g l)) → Q (.ref r) H'
theorem ok_Journal_difference_between (T : Txt K mg) (TE : Errs P K mg) : FnOk P w K mg base (L2.CX P w) 4 T.f_Journal_difference_between T.d_Journal_difference_between ["self", "one", "other"] (sp_Journal_difference_between T.C_Journal TE.C_NoMoment K) := by
  refine T.F_Journal_difference_between.okX sc_Journal_difference_between len3X (fun cdv A outer s H vs Q E hr h => ?_)
  have nd := sc_Journal_difference_between.nd
  have hu := hu_of hr
  obtain ⟨_, _, _, rfl, U, j, sl, pl, J, x, y, rfl, rfl, rfl, hU, hJ, ok, kx, ky, k⟩ := h
  refine ⟨_,
      (pss_cons (ps_expr (pe_methT (pv 0) T.c_Journal T.m_Journal_need_position (ok_Journal_need_position T TE) (hr.mono (by decide)) T.k_Journal_need_position (fun σ => passAt (takes_of rfl rfl rfl rfl) σ) (pa_cons (pv 1) pa_nil))) 
      (pss_cons (ps_expr (pe_methT (pv 0) T.c_Journal T.m_Journal_need_position (ok_Journal_need_position T TE) (hr.mono (by decide)) T.k_Journal_need_position (fun σ => passAt (takes_of rfl rfl rfl rfl) σ) (pa_cons (pv 2) pa_nil))) 
      (pss_one (ps_ret (pe_call (ok_between T) (hr.mono (by decide)) (by rfl) T.g_between T.F_between.kp T.k_between .nil pass0 (pa_cons (pe_methT (pv 0) T.c_Journal T.m_Journal_slots_at (ok_Journal_slots_at T TE) (hr.mono (by decide)) T.k_Journal_slots_at (fun σ => passAt (takes_of rfl rfl rfl rfl) σ) (pa_cons (pv 1) pa_nil)) (pa_cons (pe_methT (pv 0) T.c_Journal T.m_Journal_slots_at (ok_Journal_slots_at T TE) (hr.mono (by decide)) T.k_Journal_slots_at (fun σ => passAt (takes_of rfl rfl rfl rfl) σ) (pa_cons (pv 2) pa_nil)) pa_nil))))))), ?_⟩
  change (_ : TS) _ [some _, some _, some _] _
  try dsimp only [cxOf, Cx.nox, Cx.wish]
  obtain ⟨dx, f, la, h1, hf, hl⟩ := id hJ.ob
  have no_ : ∀ {x : Addr}, x ∉ ([] : List Addr) := List.not_mem_nil
  walk_at "go"
  refine w_meth h1 no_Journal_need_position ?_
  walk_at "go"
  refine w_need hJ kx fun hx => ?_
  walk_at "go"
  refine w_meth h1 no_Journal_need_position ?_
  walk_at "go"
  refine w_need hJ (ky hx) fun hy => ?_
  walk_at "go"
  refine w_meth h1 no_Journal_slots_at ?_
  walk_at "go"
  refine w_jslots hU hJ ok (fun z => absurd hx z) fun c1 ec1 cn1 r1 H1 e1 nr1 d1 => ?_
  walk_at "go"
  have hJ1 := hJ.ext0 e1
  refine w_meth (e1.keep _ _ h1 no_) no_Journal_slots_at ?_
  walk_at "go"
  refine w_jslots hU hJ1 ok (fun z => absurd hy z) fun c2 ec2 cn2 r2 H2 e2 nr2 d2 => ?_
  walk_at "go"
  refine ⟨_, _, rfl, U, r1, r2, J.g c1, J.g c2, rfl, rfl, hU, d1.ext e2 no_, d2, ok.sg _, ok.sg _, fun r H3 e3 nr h3 => ?_⟩
  exact k c1 c2 ec1 cn1 ec2 cn2 r H3 ((e1.trans e2).trans e3) ((e1.trans e2).free nr) h3
/-- the last position whose stamp is not above x, of the first i -/
def pAt (b x : Int) (st : List Int) : Nat → V
  | 0 => .non
  | i + 1 => if (st[i]?).getD 0 ≤ x then .int (b + i) else pAt b x st i
def sp_Journal_position_at (C : Addr) (K : PySem.W.Frag) : Sp := sp2 fun a b H Q => ∃ U j sl pl J, ∃ x : Int, a = .ref j ∧ b = .int x ∧ JAt C U H j sl pl J ∧ J.st.length ≤ 1000 ∧ Q (pAt J.b x J.st J.st.length) H
theorem ok_Journal_position_at (T : Txt K mg) : FnOk P w K mg base CX0 1 T.f_Journal_position_at T.d_Journal_position_at ["self", "stamp"] (sp_Journal_position_at T.C_Journal K) := by
  refine T.F_Journal_position_at.ok sc_Journal_position_at len2 (fun cdv A outer s H vs Q E hr h => ?_)
  have nd := sc_Journal_position_at.nd
  have hu := hu_of hr
  obtain ⟨_, _, rfl, U, j, sl, pl, J, x, rfl, rfl, hJ, l1, k⟩ := h
  refine ⟨_,
      (pss_cons (ps_set (i := 2) nd rfl (Or.inl rfl) pe_non) 
      (pss_cons (ps_for PassesOwn.never rfl (pi_range1 (by rfl) T.b_range (pa_cons (pe_callB zc_len (by rfl) T.b_len (by decide +kernel) (pa_cons (pe_fld (pv 0) rfl) pa_nil)) pa_nil)) (pg_name (i := 3) nd rfl (Or.inl rfl)) 
        (pss_one (ps_if (pt_cmpR op_le (pe_ix ix_list (pe_fld (pv 0) rfl) (pv 3) (fun _ _ => rfl)) (pv 1) (nomark _)) 
          (pss_one (ps_set (i := 2) nd rfl (Or.inl rfl) (pe_op op_add (pe_fld (pv 0) rfl) (pv 3)))) pss_nil))) 
      (pss_one (ps_ret (pv 2))))), ?_⟩
  change (_ : TS) _ [some _, some _, none, none] _
  try dsimp only [cxOf, Cx.nox, Cx.wish]
  obtain ⟨dx, f, la, h1, hf, hl⟩ := id hJ.ob
  have hs := hJ.hs
  walk_at "go"
  refine ⟨_, rfl, by rw [List.length_map]; omega, by rw [List.length_map]; omega, ?_⟩
  rw [Int.toNat_natCast, List.length_map]
  refine z_for_range (lo := 0) (fun i σ' H' => H = H' ∧ ∃ u, σ' = [some (.ref j), some (.int x), some (pAt J.b x J.st i), u]) ⟨rfl, _, rfl⟩ ?_ ?_
  · rintro N i σ' _ hi ⟨rfl, u, rfl⟩ hN
    have hx : J.st[i]? = some J.st[i] := List.getElem?_eq_getElem hi
    have hxv : (J.st.map V.int)[i]? = some (.int J.st[i]) := by rw [List.getElem?_map, hx]; rfl
    walk_at "go"; walk_at "if"
    refine w_ixL (sql hs) (at_int hxv (by omega)) ?_
    walk_at "go"
    have e : pAt J.b x J.st (i + 1) = if J.st[i] ≤ x then .int (J.b + i) else pAt J.b x J.st i := by
      show (if (J.st[i]?).getD 0 ≤ x then _ else _) = _
      rw [hx]; rfl
    refine w_d (fun h => ?_) fun h => ?_
    · walk_at "go"
      refine hN _ _ ⟨rfl, some (.int (0 + i)), ?_⟩
      rw [e, if_pos h, Int.zero_add]; rfl
    · walk_at "go"
      refine hN _ _ ⟨rfl, some (.int (0 + i)), ?_⟩
      rw [e, if_neg h]; rfl
  · rintro σ' _ ⟨rfl, u, rfl⟩
    walk_at "go"
    exact k
def sp_Journal_cut (C CN : Addr) (K : PySem.W.Frag) : Sp := sp2X fun a b H Q E => ∃ U j sl pl J, ∃ pos : Int, a = .ref j ∧ b = .int pos ∧ U.length ≤ 1000 ∧ (∃ F, JAtF C U H j sl pl J F ∧ JOk J ∧ (¬ inJ J pos → AirN sPos CN H (.int pos) E) ∧
  ∀ c : Nat, pos = J.b + c → c ≤ J.n → ∀ sl' pl' F' H', Ext [j] H H' → H sl' = none → H pl' = none → JAtF C U H' j sl' pl' (J.cut c) F' → (∀ a ∈ F', a ∈ F ∨ H a = none) → Q .non H')
theorem ok_Journal_cut (T : Txt K mg) (TE : Errs P K mg) : FnOk P w K mg base (L2.CX P w) 4 T.f_Journal_cut T.d_Journal_cut ["self", "position"] (sp_Journal_cut T.C_Journal TE.C_NoMoment K) := by
  refine T.F_Journal_cut.okX sc_Journal_cut len2X (fun cdv A outer s H vs Q E hr h => ?_)
  have nd := sc_Journal_cut.nd
  have hu := hu_of hr
  obtain ⟨_, _, rfl, U, j, sl, pl, J, pos, rfl, rfl, hU, F, hJF, ok, kx, k⟩ := h
  refine ⟨_,
      (pss_cons (ps_fld (pv 0) (pe_methT (pv 0) T.c_Journal T.m_Journal_slots_at (ok_Journal_slots_at T TE) (hr.mono (by decide)) T.k_Journal_slots_at (fun σ => passAt (takes_of rfl rfl rfl rfl) σ) (pa_cons (pv 1) pa_nil)) rfl) 
      (pss_cons (ps_set (i := 2) nd rfl (Or.inl rfl) (pe_op op_sub (pv 1) (pe_fld (pv 0) rfl))) 
      (pss_cons (ps_fld (pv 0) (pe_slice sl_list (pe_fld (pv 0) rfl) (po_some (pv 2)) po_none) rfl) 
      (pss_cons (ps_fld (pv 0) (pe_slice sl_list (pe_fld (pv 0) rfl) (po_some (pv 2)) po_none) rfl) 
      (pss_one (ps_fld (pv 0) (pv 1) rfl)))))), ?_⟩
  change (_ : TS) _ [some _, some _, none] _
  try dsimp only [cxOf, Cx.nox, Cx.wish]
  have hJ := hJF.at
  obtain ⟨dx, f, la, h1, ⟨hf, mf⟩, hl, ml⟩ := id hJF.ob
  obtain ⟨as, h4, h5, h6⟩ := id hJF.hp
  have hs := hJ.hs
  obtain ⟨njs, njp⟩ := hJ.apart
  have no_ : ∀ {x : Addr}, x ∉ ([] : List Addr) := List.not_mem_nil
  have ndj : ∀ {a : Addr} {f : Fd}, DM U H a f → a ≠ j := fun h z => by
    obtain ⟨kv, ks, h, _⟩ := h
    rw [z, h1] at h; cases h
  walk_at "go"
  refine w_meth h1 no_Journal_slots_at ?_
  walk_at "go"
  refine w_jslots hU hJ ok kx fun c ec cn r H1 e1 nr hr => ?_
  have nrj : r ≠ j := (ne_of_none h1 nr).symm
  have h11 := e1.keep _ _ h1 no_
  walk_at "go"
  refine w_sfld h11 T.c_Journal T.na_Journal_first_slots (Nat.le_of_ble_eq_true rfl) pf_Journal_first_slots fun H2 e2 h2 => ?_
  walk_at "go"
  have e02 : Ext [j] H H2 := e1.up.trans e2
  have hs2 := e02.keep _ _ hs (nm1 njs.symm)
  have h42 := e02.keep _ _ h4 (nm1 njp.symm)
  have hpc : pos - J.b = (c : Int) := by omega
  refine ⟨_, rfl, ?_⟩
  walk_at "go"
  refine w_slL (sql hs2) (w_alc fun sl' H3 e3 n3 h3 => ?_)
  rw [hpc, cutV_drop (by rw [List.length_map, ok.ls]; omega), ← List.map_drop] at h3
  have nsj : sl' ≠ j := (ne_of_none h2 n3).symm
  walk_at "go"
  refine w_sfld (e3.keep _ _ h2 no_) T.c_Journal T.na_Journal_stamps (Nat.le_of_ble_eq_true rfl) pf_Journal_stamps fun H4 e4 g4 => ?_
  walk_at "go"
  have e24 : Ext [j] H2 H4 := e3.up.trans e4
  have h44 := e24.keep _ _ h42 (nm1 njp.symm)
  refine ⟨_, rfl, ?_⟩
  walk_at "go"
  refine w_slL (sql h44) (w_alc fun pl' H5 e5 n5 g5 => ?_)
  rw [hpc, cutV_drop (by rw [List.length_map, h5]; exact cn), ← List.map_drop] at g5
  have npj : pl' ≠ j := (ne_of_none g4 n5).symm
  walk_at "go"
  refine w_sfld (e5.keep _ _ g4 no_) T.c_Journal T.na_Journal_steps (Nat.le_of_ble_eq_true rfl) pf_Journal_steps fun H6 e6 g6 => ?_
  walk_at "go"
  refine w_sfld g6 T.c_Journal T.na_Journal_begin (Nat.le_of_ble_eq_true rfl) pf_Journal_begin fun H7 e7 g7 => ?_
  have e47 : Ext [j] H4 H7 := (e5.up.trans e6).trans e7
  have e27 : Ext [j] H2 H7 := e24.trans e47
  have e07 : Ext [j] H H7 := e02.trans e27
  have ebc : J.b + (c : Int) = pos := ec.symm
  refine k c ec cn sl' pl' (r :: F) H7 e07 (e02.free n3) ((e02.trans e24).free n5) ⟨⟨dx, r, la, ?_, ⟨?_, List.mem_cons_self⟩, ?_, List.mem_cons_of_mem _ ml⟩, ?_, ne_of_none (e4.keep _ _ h3 (nm1 nsj)) n5, (fun a m => by
    rcases List.mem_cons.mp m with m | m
    · rw [m]; exact dm_lv ((hr.ext e2 (nm1 nrj)).ext e27 (nm1 nrj))
    · exact (hJF.lv a m).elim fun o z => e07.live a o z), as.drop c, ?_, ?_, fun i hi => ?_⟩ fun a m => ?_
  · show H7 j = some (.ins _ _ (fs_Journal (.int (J.b + c)) _ _ _ _))
    rw [ebc]; exact g7
  · exact (hr.ext e2 (nm1 nrj)).ext e27 (nm1 nrj)
  · show DM U H7 la (J.g (c + (J.n - c)))
    rw [show c + (J.n - c) = J.n by omega]
    exact hl.ext e07 (nm1 (ndj hl))
  · exact (e4.trans e47).keep _ _ h3 (nm1 nsj)
  · exact (e6.trans e7).keep _ _ g5 (nm1 npj)
  · rw [List.length_drop, h5]; rfl
  · have hi' : i < J.n - c := hi
    obtain ⟨a, ha, da, ma⟩ := h6 (c + i) (by omega)
    refine ⟨a, ?_, da.ext e07 (nm1 (ndj da)), List.mem_cons_of_mem _ ma⟩
    rw [List.map_drop, List.getElem?_drop]; exact ha
  · rcases List.mem_cons.mp m with m | m
    · exact .inr (by rw [m]; exact nr)
    · exact .inl m

/-! ### a record is added -/
theorem at_last {xs : List V} {k : Nat} {v : V} (h : xs[k]? = some v) (l : xs.length = k + 1) : atI xs (-1) = some v := by
  have hk : k < xs.length := by omega
  have ne : xs ≠ [] := List.ne_nil_of_length_pos (by omega)
  have e := List.dropLast_concat_getLast ne
  have e2 : xs.getLast ne = v := by
    rw [List.getLast_eq_getElem]
    have : xs.length - 1 = k := by omega
    rw [List.getElem?_eq_getElem hk] at h
    cases h
    congr 1
  rw [← e, e2]
  exact atI_last _ _
def lastSt (J : Jr) : Int := (J.st[J.n]?).getD 0
theorem lastSt_at {J : Jr} (ok : JOk J) : J.st[J.n]? = some (lastSt J) := by
  have l : J.n < J.st.length := by rw [ok.ls]; omega
  unfold lastSt
  rw [List.getElem?_eq_getElem l]; rfl
theorem w_callS {sp : Sp} {E : L2.St → XK} {tl : TA} {σ : L2.St} {H : Hp} {Q : VK} (h : tl σ H fun vs H1 => sp vs H1 Q (E σ)) : tCallS sp E tl σ H Q := h
theorem Jr.add_g0 (J : Jr) (x : Int) (Dn : Df) : (J.add x Dn).g 0 = J.g 0 := by
  show (if 0 ≤ J.n then J.g 0 else appF (J.g J.n) Dn) = J.g 0
  exact if_pos (Nat.zero_le _)
theorem Jr.add_gl (J : Jr) (x : Int) (Dn : Df) : (J.add x Dn).g (J.n + 1) = appF (J.g J.n) Dn := by
  show (if J.n + 1 ≤ J.n then J.g (J.n + 1) else appF (J.g J.n) Dn) = appF (J.g J.n) Dn
  exact if_neg (by omega)
def sp_Journal_add_record (C CM CS : Addr) (K : PySem.W.Frag) : Sp := sp3X fun a b c H Q E => ∃ U j sl pl J, ∃ (x : Int) (q : Addr) (Dn : Df), a = .ref j ∧ b = .int x ∧ c = .ref q ∧ U.length ≤ 1000 ∧ ∃ F, JAtF C U H j sl pl J F ∧ JOk J ∧ J.n ≤ 500 ∧ DM U H q (dF Dn) ∧ DOk Dn ∧
  (x < lastSt J → AirN sStp CS H (.int x) E) ∧ (¬ x < lastSt J → ∀ m, Least (wrA (J.g J.n) Dn) m → Air CM H m E) ∧ (¬ x < lastSt J → (∀ s, ¬ wrA (J.g J.n) Dn s) → ∀ F' H', Ext [j, sl, pl] H H' → JAtF C U H' j sl pl (J.add x Dn) F' → (∀ a ∈ F', a ∈ F ∨ H a = none) → Q (.int (J.b + J.n + 1)) H')
theorem ok_Journal_add_record (T : Txt K mg) (TE : Errs P K mg) : FnOk P w K mg base (L2.CX P w) 3 T.f_Journal_add_record T.d_Journal_add_record ["self", "stamp", "difference"] (sp_Journal_add_record T.C_Journal TE.C_Mismatch TE.C_StampBack K) := by
  refine T.F_Journal_add_record.okX sc_Journal_add_record len3X (fun cdv A outer s H vs Q E hr h => ?_)
  have nd := sc_Journal_add_record.nd
  have hu := hu_of hr
  obtain ⟨_, _, _, rfl, U, j, sl, pl, J, x, q, Dn, rfl, rfl, rfl, hU, F, hJF, ok, n5, hq, od, kx, km, k⟩ := h
  refine ⟨_,
      (pss_cons (ps_if (pt_cmpR op_lt (pv 1) (pe_ix ix_list (pe_fld (pv 0) rfl) (pe_un un_neg pe_int) (fun _ _ => rfl)) (nomark _)) 
        (pss_one (ps_raise rfl (takes_of rfl rfl rfl rfl) (pmk_StampBack TE.E_StampBack hr (pa_cons (pv 1) pa_nil)))) pss_nil) 
      (pss_cons (ps_fld (pv 0) (pe_callS (ok_applied T TE) (hr.mono (by decide)) (by rfl) T.g_applied T.F_applied.kp T.k_applied (fun σ => passAt (takes_of rfl rfl rfl rfl) σ) (pa_cons (pe_fld (pv 0) rfl) (pa_cons (pv 2) pa_nil))) rfl) 
      (pss_cons (ps_expr (pe_bm PySem.F.plainAttrs_list PySem.F.slot_list_append PySem.F.type_list_append zmt_append (pe_fld (pv 0) rfl) (pa_cons (pv 1) pa_nil))) 
      (pss_cons (ps_expr (pe_bm PySem.F.plainAttrs_list PySem.F.slot_list_append PySem.F.type_list_append zmt_append (pe_fld (pv 0) rfl) (pa_cons (pe_lock (zpe_dcT (own := [("slot", 3)]) hu rfl nd (pi_keys (pv 2)) (blkOk_by (own := [("slot", 3)]) (N := ["self", "stamp", "difference", "slot"]) (sc := defScope s_Journal_add_record) (by decide +kernel)) (fun _ _ _ _ _ => (pg_name (i := 3) nd rfl (Or.inl rfl))) (fun _ _ _ _ _ => pts_nil) (fun _ _ _ _ _ => (pv 3)) (fun _ _ _ _ _ => (pe_dget hu (pv 2) (pv 3) (fun _ _ => rfl))))) pa_nil))) 
      (pss_one (ps_ret (pe_meth0 (pv 0) T.c_Journal T.m_Journal_end_position (ok_Journal_end_position T) (hr.mono (by decide)) T.k_Journal_end_position .nil pass0))))))), ?_⟩
  change (_ : TS) _ [some _, some _, some _, none] _
  try dsimp only [cxOf, Cx.nox, Cx.wish]
  have hJ := hJF.at
  obtain ⟨dx, f, la, h1, ⟨hf, mf⟩, hl, ml⟩ := id hJF.ob
  obtain ⟨as, h4, h5, h6⟩ := id hJF.hp
  have hs := hJ.hs
  obtain ⟨njs, njp⟩ := hJ.apart
  have no_ : ∀ {x : Addr}, x ∉ ([] : List Addr) := List.not_mem_nil
  have nsp := hJ.ne
  have hxv : (J.st.map V.int)[J.n]? = some (.int (lastSt J)) := by rw [List.getElem?_map, lastSt_at ok]; rfl
  walk_at "go"
  refine w_cut (fun σ' H' => H = H' ∧ ¬ x < lastSt J ∧ σ' = [some (.ref j), some (.int x), some (.ref q), none]) ?_ fun nx hn => ?_
  · rintro _ _ ⟨rfl, hx, rfl⟩
    have km := km hx
    have k := k hx
    walk_at "go"
    refine w_callS ?_
    walk_at "go"
    refine ⟨_, _, rfl, U, la, q, J.g J.n, Dn, rfl, rfl, hU, hl, hq, ok.sg _, od, fun r H1 okw e1 nr hr => ?_, fun m hm => ?_⟩
    · have k := k okw
      have nrj : r ≠ j := (ne_of_none h1 nr).symm
      walk_at "go"
      refine w_sfld (e1.keep _ _ h1 no_) T.c_Journal T.na_Journal_last_slots (Nat.le_of_ble_eq_true rfl) pf_Journal_last_slots fun H2 e2 h2 => ?_
      have e02 : Ext [j] H H2 := e1.up.trans e2
      have hs2 := e02.keep _ _ hs (nm1 njs.symm)
      have h42 := e02.keep _ _ h4 (nm1 njp.symm)
      walk_at "go"
      refine w_append hs2 (szl (by rw [List.length_map, ok.ls]; omega)) ?_
      refine w_chg hs2 (fun z => z) fun H3 e3 h3 => ?_
      have h23 := e3.keep _ _ h2 (nm1 njs)
      have h43 := e3.keep _ _ h42 (nm1 nsp.symm)
      rw [← List.map_singleton (f := V.int), ← List.map_append] at h3
      have ndl : ∀ {a : Addr} {f : Fd} {H' : Hp} {p : Addr} {xs : List V}, DM U H' a f → H' p = some (.lst xs) → a ≠ p := fun h hp => by
        obtain ⟨kv, ks, h, _⟩ := h
        exact ne_of h hp (fun z => nomatch z)
      have ndj : ∀ {a : Addr} {f : Fd}, DM U H a f → a ≠ j := fun h z => by
        obtain ⟨kv, ks, h, _⟩ := h
        rw [z, h1] at h; cases h
      have q2 := hq.ext e02 (nm1 (ndj hq))
      have q3 := q2.ext e3 (nm1 (ndl q2 hs2))
      walk_at "go"
      refine w_dcopy hU q3 (fun u od H1 R L q => ⟨_, rfl, q⟩) (fun u od H1 D H2 b R L nD e q => ⟨_, rfl, q⟩) (fun _ => rfl) (fun _ => rfl) fun s H4 e4 ns hs4 => ?_
      have h44 := e4.keep _ _ h43 no_
      walk_at "go"
      refine w_append h44 (szl (by rw [List.length_map, h5]; omega)) ?_
      refine w_chg h44 (fun z => z) fun H5 e5 g5 => ?_
      rw [← List.map_singleton (f := V.ref), ← List.map_append] at g5
      have h25 := e5.keep _ _ (e4.keep _ _ h23 no_) (nm1 njp)
      have h35 := e5.keep _ _ (e4.keep _ _ h3 no_) (nm1 nsp)
      have e25 : Ext [sl, pl] H2 H5 := ((e3.mono fun x m => by rw [List.mem_singleton.mp m]; exact List.mem_cons_self).trans e4.up).trans (e5.mono fun x m => List.mem_cons_of_mem _ m)
      have e05 : Ext [j, sl, pl] H H5 := (e02.mono fun x m => by rw [List.mem_singleton.mp m]; exact List.mem_cons_self).trans (e25.mono fun x m => List.mem_cons_of_mem _ m)
      have dm5 : ∀ {a : Addr} {f : Fd}, DM U H a f → DM U H5 a f := fun h => h.ext e05 fun m => by
        rcases List.mem_cons.mp m with m | m
        · exact ndj h m
        · rcases List.mem_cons.mp m with m | m
          · exact ndl h hs m
          · exact ndl h h4 (List.mem_singleton.mp m)
      have hJ5 : JAtF T.C_Journal U H5 j sl pl (J.add x Dn) (r :: s :: F) := by
        refine ⟨⟨dx, f, r, h25, ⟨?_, List.mem_cons_of_mem _ (List.mem_cons_of_mem _ mf)⟩, ?_, List.mem_cons_self⟩, h35, nsp, (fun a m => by
          rcases List.mem_cons.mp m with m | m
          · rw [m]; exact (dm_lv hr).elim fun o z => (e2.live r o z).elim fun o' z' => e25.live r o' z'
          · rcases List.mem_cons.mp m with m | m
            · rw [m]; exact (dm_lv hs4).elim fun o z => e5.live s o z
            · exact (hJF.lv a m).elim fun o z => e05.live a o z), as ++ [s], g5, by rw [List.length_append, h5]; rfl, fun i hi => ?_⟩
        · rw [J.add_g0]; exact dm5 hf
        · show DM U H5 r ((J.add x Dn).g (J.n + 1))
          rw [J.add_gl]
          have r2 := hr.ext e2 (nm1 nrj)
          exact r2.ext e25 (nm2 (ndl r2 hs2) (ndl r2 h42))
        · have hi' : i < J.n + 1 := hi
          show ∃ a, _ ∧ DM U H5 a (dF (if i < J.n then J.D i else Dn)) ∧ a ∈ r :: s :: F
          by_cases z : i < J.n
          · obtain ⟨a, ha, da, ma⟩ := h6 i z
            rw [if_pos z]
            exact ⟨a, by rw [List.map_append, List.getElem?_append_left (by rw [List.length_map, h5]; exact z)]; exact ha, dm5 da, List.mem_cons_of_mem _ (List.mem_cons_of_mem _ ma)⟩
          · have e : i = J.n := by omega
            rw [if_neg z, e]
            exact ⟨s, by rw [List.map_append]; exact get_snoc (by rw [List.length_map]; exact h5), hs4.ext e5 (nm1 (ndl hs4 h44)), List.mem_cons_of_mem _ List.mem_cons_self⟩
      walk_at "go"
      refine w_meth h25 no_Journal_end_position ?_
      walk_at "go"
      refine w_endp hJ5.at ?_
      have e : (J.b : Int) + ((J.n + 1 : Nat) : Int) = J.b + J.n + 1 := by omega
      show Q (.int (J.b + ((J.n + 1 : Nat) : Int))) H5
      rw [e]
      refine k _ H5 e05 hJ5 fun a m => ?_
      rcases List.mem_cons.mp m with m | m
      · exact .inr (by rw [m]; exact nr)
      · rcases List.mem_cons.mp m with m | m
        · refine .inr ?_
          rw [m]
          exact e02.free (e3.free ns)
        · exact .inl m
    · exact km m hm
  · walk_at "if"
    refine w_ixL (sql hs) (at_last hxv (by rw [List.length_map, ok.ls])) ?_
    walk_at "go"
    refine w_d (fun h => ?_) fun h => ?_
    · walk_at "go"
      refine w_mkS ?_
      walk_at "go"
      exact ⟨_, rfl, fun dd ndd => kx h dd _ (Ext.new ndd) upd_same⟩
    · walk_at "go"
      exact hn _ _ ⟨rfl, h, rfl⟩

/-! ### the model: a list of states with their stamps -/
structure MoAtF (U : List Zk.Slot) (H : Hp) (mo ml : Addr) (J : Jr) (F : List Addr) : Prop where
  ob : H mo = some (.lst [.int J.b, .ref ml])
  ne : mo ≠ ml
  lv : ∀ a ∈ F, ∃ o, H a = some o
  st : ∃ ts : List Addr, H ml = some (.lst (ts.map V.ref)) ∧ ts.length = J.n + 1 ∧ ∀ k, k < J.n + 1 → ∃ t d x, (ts.map V.ref)[k]? = some (.ref t) ∧ H t = some (.tup [.int x, .ref d]) ∧ J.st[k]? = some x ∧ DM U H d (J.g k) ∧ d ∈ F
def MoAt (U : List Zk.Slot) (H : Hp) (mo ml : Addr) (J : Jr) : Prop := ∃ F, MoAtF U H mo ml J F
theorem MoAt.ob {U : List Zk.Slot} {H : Hp} {mo ml : Addr} {J : Jr} (h : MoAt U H mo ml J) : H mo = some (.lst [.int J.b, .ref ml]) := h.elim fun _ z => z.ob
theorem MoAt.ne {U : List Zk.Slot} {H : Hp} {mo ml : Addr} {J : Jr} (h : MoAt U H mo ml J) : mo ≠ ml := h.elim fun _ z => z.ne
theorem MoAt.at {U : List Zk.Slot} {H : Hp} {mo ml : Addr} {J : Jr} (h : MoAt U H mo ml J) : ∃ ts : List Addr, H ml = some (.lst (ts.map V.ref)) ∧ ts.length = J.n + 1 ∧ ∀ k, k < J.n + 1 → ∃ t d x, (ts.map V.ref)[k]? = some (.ref t) ∧ H t = some (.tup [.int x, .ref d]) ∧ J.st[k]? = some x ∧ DM U H d (J.g k) := by
  obtain ⟨F, _, _, _, ts, h1, h2, h3⟩ := h
  refine ⟨ts, h1, h2, fun k l => ?_⟩
  obtain ⟨t, d, x, a1, a2, a3, a4, _⟩ := h3 k l
  exact ⟨t, d, x, a1, a2, a3, a4⟩
theorem MoAtF.extG {U : List Zk.Slot} {H H' : Hp} {mo ml : Addr} {J : Jr} {M F : List Addr} (h : MoAtF U H mo ml J F) (e : Ext M H H') (n : ∀ x ∈ M, x ≠ mo ∧ x ≠ ml) (l : ∀ a f, DM U H a f → a ∈ F → a ∉ M) : MoAtF U H' mo ml J F := by
  obtain ⟨ob, ne, lv, ts, h1, h2, h3⟩ := h
  refine ⟨e.keep _ _ ob (fun m => (n mo m).1 rfl), ne, (fun a m => (lv a m).elim fun o z => e.live a o z), ts, e.keep _ _ h1 (fun m => (n ml m).2 rfl), h2, fun k hk => ?_⟩
  obtain ⟨t, d, x, a1, a2, a3, a4, a5⟩ := h3 k hk
  exact ⟨t, d, x, a1, e.tup a2, a3, a4.ext e (l _ _ a4 a5), a5⟩
theorem MoAtF.extF {U : List Zk.Slot} {H H' : Hp} {mo ml : Addr} {J : Jr} {M F : List Addr} (h : MoAtF U H mo ml J F) (e : Ext M H H') (n : ∀ x ∈ M, x ≠ mo ∧ x ≠ ml) (l : ∀ x ∈ M, x ∉ F) : MoAtF U H' mo ml J F := h.extG e n fun a _ _ m z => l a z m
theorem MoAtF.ext {U : List Zk.Slot} {H H' : Hp} {mo ml : Addr} {J : Jr} {M F : List Addr} (h : MoAtF U H mo ml J F) (e : Ext M H H') (n : ∀ x ∈ M, x ≠ mo ∧ x ≠ ml) (l : ∀ x ∈ M, ∀ kvs, H x ≠ some (.dT kvs)) : MoAtF U H' mo ml J F := h.extG e n fun _ _ d _ => dm_nl d l
theorem MoAtF.ext0 {U : List Zk.Slot} {H H' : Hp} {mo ml : Addr} {J : Jr} {F : List Addr} (h : MoAtF U H mo ml J F) (e : Ext [] H H') : MoAtF U H' mo ml J F := h.ext e (fun _ m => nomatch m) fun _ m => nomatch m
theorem MoAt.ext {U : List Zk.Slot} {H H' : Hp} {mo ml : Addr} {J : Jr} {M : List Addr} (h : MoAt U H mo ml J) (e : Ext M H H') (n : ∀ x ∈ M, x ≠ mo ∧ x ≠ ml) (l : ∀ x ∈ M, ∀ kvs, H x ≠ some (.dT kvs)) : MoAt U H' mo ml J := h.elim fun F z => ⟨F, z.ext e n l⟩
theorem MoAt.ext0 {U : List Zk.Slot} {H H' : Hp} {mo ml : Addr} {J : Jr} (h : MoAt U H mo ml J) (e : Ext [] H H') : MoAt U H' mo ml J := h.ext e (fun _ m => nomatch m) fun _ m => nomatch m
/-! ### questions and their answers -/
inductive Qn where
  | add (x : Int) (D : Df)
  | recd (p : Int)
  | slots (p : Int)
  | cut (p : Int)
  | btw (a b : Int)
def sAdd : Str := Str.ofString "add"
def sRec : Str := Str.ofString "record"
def sSlo : Str := Str.ofString "slots"
def sCut : Str := Str.ofString "cut"
def sBtw : Str := Str.ofString "between"
def sMom : Str := Str.ofString "moment"
def sSta : Str := Str.ofString "stamp"
def QAt (U : List Zk.Slot) (H : Hp) (q : Addr) : Qn → Prop
  | .add x D => ∃ d, H q = some (.tup [.str sAdd, .int x, .ref d]) ∧ DM U H d (dF D) ∧ DOk D
  | .recd p => H q = some (.tup [.str sRec, .int p])
  | .slots p => H q = some (.tup [.str sSlo, .int p])
  | .cut p => H q = some (.tup [.str sCut, .int p])
  | .btw a b => H q = some (.tup [.str sBtw, .int a, .int b])
theorem QAt.ext {U : List Zk.Slot} {H H' : Hp} {q : Addr} {M : List Addr} (e : Ext M H H') (l : ∀ x ∈ M, ∀ kvs, H x ≠ some (.dT kvs)) : ∀ {Q : Qn}, QAt U H q Q → QAt U H' q Q
  | .add x D, ⟨d, h, k, o⟩ => ⟨d, e.tup h, k.ext e (dm_nl k l), o⟩
  | .recd _, h => e.tup h
  | .slots _, h => e.tup h
  | .cut _, h => e.tup h
  | .btw _ _, h => e.tup h
def Ans (U : List Zk.Slot) (J : Jr) (H : Hp) (o : Addr) : Qn → Prop
  | .add x D => x < lastSt J ∧ H o = some (.lst [.str sSta, .int x]) ∨ ¬ x < lastSt J ∧ (∃ m, Least (wrA (J.g J.n) D) m ∧ MisAt H o m) ∨ ¬ x < lastSt J ∧ (∀ s, ¬ wrA (J.g J.n) D s) ∧ H o = some (.lst [.int (J.b + J.n + 1)])
  | .recd p => ¬ (J.b < p ∧ p ≤ J.b + J.n) ∧ H o = some (.lst [.str sMom, .int p]) ∨ ∃ k x t r, p = J.b + (k : Nat) + 1 ∧ k < J.n ∧ J.st[k + 1]? = some x ∧ H o = some (.lst [.ref t]) ∧ H t = some (.tup [.int x, .ref r]) ∧ DM U H r (btwF (J.g k) (J.g (k + 1)))
  | .slots p => ¬ inJ J p ∧ H o = some (.lst [.str sMom, .int p]) ∨ ∃ k r, p = J.b + (k : Nat) ∧ k ≤ J.n ∧ H o = some (.lst [.ref r]) ∧ DM U H r (J.g k)
  | .cut p => ¬ inJ J p ∧ H o = some (.lst [.str sMom, .int p]) ∨ inJ J p ∧ H o = some (.lst [.non])
  | .btw a b => ¬ inJ J a ∧ H o = some (.lst [.str sMom, .int a]) ∨ inJ J a ∧ ¬ inJ J b ∧ H o = some (.lst [.str sMom, .int b]) ∨ ∃ k l r, a = J.b + (k : Nat) ∧ k ≤ J.n ∧ b = J.b + (l : Nat) ∧ l ≤ J.n ∧ H o = some (.lst [.ref r]) ∧ DM U H r (btwF (J.g k) (J.g l))
theorem Ans.extM {U : List Zk.Slot} {J : Jr} {H H' : Hp} {o : Addr} {M : List Addr} (e : Ext M H H') (n : o ∉ M) (hM : ∀ x ∈ M, ∀ kvs, H x ≠ some (.dT kvs)) : ∀ {Q : Qn}, Ans U J H o Q → Ans U J H' o Q := by
  intro Q h
  cases Q with
  | add x D =>
    rcases h with ⟨a, h⟩ | ⟨a, m, l, b, h, h'⟩ | ⟨a, b, h⟩
    · exact .inl ⟨a, e.keep _ _ h n⟩
    · exact .inr (.inl ⟨a, m, l, b, e.keep _ _ h n, e.tup h'⟩)
    · exact .inr (.inr ⟨a, b, e.keep _ _ h n⟩)
  | recd p =>
    rcases h with ⟨a, h⟩ | ⟨k, x, t, r, a, b, c, h, h', d⟩
    · exact .inl ⟨a, e.keep _ _ h n⟩
    · exact .inr ⟨k, x, t, r, a, b, c, e.keep _ _ h n, e.tup h', d.ext e (dm_nl d hM)⟩
  | slots p =>
    rcases h with ⟨a, h⟩ | ⟨k, r, a, b, h, d⟩
    · exact .inl ⟨a, e.keep _ _ h n⟩
    · exact .inr ⟨k, r, a, b, e.keep _ _ h n, d.ext e (dm_nl d hM)⟩
  | cut p =>
    rcases h with ⟨a, h⟩ | ⟨a, h⟩
    · exact .inl ⟨a, e.keep _ _ h n⟩
    · exact .inr ⟨a, e.keep _ _ h n⟩
  | btw a b =>
    rcases h with ⟨a, h⟩ | ⟨a, b, h⟩ | ⟨k, l, r, a, b, c, d, h, w⟩
    · exact .inl ⟨a, e.keep _ _ h n⟩
    · exact .inr (.inl ⟨a, b, e.keep _ _ h n⟩)
    · exact .inr (.inr ⟨k, l, r, a, b, c, d, e.keep _ _ h n, w.ext e (dm_nl w hM)⟩)
theorem Ans.ext {U : List Zk.Slot} {J : Jr} {H H' : Hp} {o : Addr} {Q : Qn} (h : Ans U J H o Q) (e : Ext [] H H') : Ans U J H' o Q := Ans.extM e List.not_mem_nil (fun _ m => nomatch m) h
theorem sle_uniq {W : Zk.Slot → Prop} {m n : Zk.Slot} (h : Least W m) (k : Least W n) : m = n := sle_anti (h.2 n k.1) (k.2 m h.1)
theorem sq_flat {U : List Zk.Slot} {H : Hp} {n : Nat} {o o' : Addr} {xs ys : List V} {ds : List PyData} (h : H o = some (.lst xs)) (k : H o' = some (.lst ys)) (i : ImAll H xs ds) (j : ImAll H ys ds) (l : ds.length ≤ 1000) (dp : ∀ d ∈ ds, d.depth < n) : Sq U (n + 1) H (.ref o) (.ref o') := by
  refine .inr (.inl ⟨o, o', xs, ys, rfl, rfl, h, k, by rw [i.len]; exact l, ?_⟩)
  have go : ∀ (ds : List PyData) (xs ys : List V), ImAll H xs ds → ImAll H ys ds → (∀ d ∈ ds, d.depth < n) → Paired (Sq U n H) xs ys := by
    intro ds
    induction ds with
    | nil => intro xs ys i j _; cases i; cases j; exact .nil
    | cons d ds ih =>
      intro xs ys i j dp
      cases i with
      | cons h1 k1 => cases j with
        | cons h2 k2 => exact .cons (Sq.im (dp d List.mem_cons_self) h1 h2) (ih _ _ k1 k2 fun d m => dp d (List.mem_cons_of_mem _ m))
  exact go ds xs ys i j dp
theorem sq_dict {U : List Zk.Slot} {n : Nat} {H : Hp} {a b : Addr} {f : Fd} (hU : U.length ≤ 1000) (hn : 4 ≤ n) (ha : DM U H a f) (hb : DM U H b f) (dp : ∀ s d, f s = some d → d.depth < n) : Sq U (n + 1) H (.ref a) (.ref b) :=
  .inr (.inr (.inl ⟨by omega, hU, a, b, f, rfl, rfl, ha, hb, dp⟩))
theorem dp_btw {f g : Fd} (sf : Stt f) (sg : Stt g) : ∀ s d, btwF f g s = some d → d.depth < 5 := fun s d e => Nat.lt_succ_of_le (btw_depth (sf s) (sg s) e)
theorem dp_up {f : Fd} {m n : Nat} (h : ∀ s d, f s = some d → d.depth < m) (l : m ≤ n) : ∀ s d, f s = some d → d.depth < n := fun s d e => Nat.lt_of_lt_of_le (h s d e) l
theorem dp_st4 {f : Fd} (sf : Stt f) : ∀ s d, f s = some d → d.depth < 4 := fun s d e => Nat.lt_succ_of_le ((sf s d e).lay.2)
theorem dp2 (x y : PyData) (h : x.depth = 0) (k : y.depth = 0) : ∀ d ∈ [x, y], d.depth < 7 := fun d m => by
  simp only [List.mem_cons, List.not_mem_nil, or_false] at m
  rcases m with rfl | rfl
  · rw [h]; decide
  · rw [k]; decide
theorem dp1 (x : PyData) (h : x.depth = 0) : ∀ d ∈ [x], d.depth < 7 := fun d m => by rw [List.mem_singleton.mp m, h]; decide
theorem sq_one {U : List Zk.Slot} {n : Nat} {H : Hp} {o o' : Addr} {v w : V} (h : H o = some (.lst [v])) (k : H o' = some (.lst [w])) (s : Sq U n H v w) : Sq U (n + 1) H (.ref o) (.ref o') := .inr (.inl ⟨o, o', _, _, rfl, rfl, h, k, Nat.le_of_ble_eq_true rfl, .cons s .nil⟩)
theorem Ans.same {U : List Zk.Slot} {J : Jr} {H : Hp} {o o' : Addr} (hU : U.length ≤ 1000) (ok : JOk J) : ∀ {Q : Qn}, Ans U J H o Q → Ans U J H o' Q → Sq U 8 H (.ref o) (.ref o') := by
  have mom : ∀ {o o' : Addr} {z : Str} {n : Int}, H o = some (.lst [.str z, .int n]) → H o' = some (.lst [.str z, .int n]) → Sq U 8 H (.ref o) (.ref o') := fun {o o' z n} h k =>
    sq_flat (ds := [.str z, .int n]) h k (.cons (.str _) (.cons (.int _) .nil)) (.cons (.str _) (.cons (.int _) .nil)) (by show 2 ≤ 1000; decide) (dp2 _ _ (by simp [PyData.depth]) (by simp [PyData.depth]))
  intro Q h k
  cases Q with
  | add x D =>
    rcases h with ⟨a, h⟩ | ⟨a, m, l, b, h, h'⟩ | ⟨a, b, h⟩ <;> rcases k with ⟨c, k⟩ | ⟨c, m', l', b', k, k'⟩ | ⟨c, d, k⟩
    · exact mom h k
    · exact absurd a c
    · exact absurd a c
    · exact absurd c a
    · have e := sle_uniq l l'
      subst e
      refine sq_flat (ds := [.str sMis, sD m]) h k (.cons (.str _) (.cons (im_slot h') .nil)) (.cons (.str _) (.cons (im_slot k') .nil)) (by show 2 ≤ 1000; decide) fun d hd => ?_
      simp only [List.mem_cons, List.not_mem_nil, or_false] at hd
      rcases hd with rfl | rfl
      · simp [PyData.depth]
      · rw [sD_depth]; decide
    · exact absurd l.1 (d m)
    · exact absurd c a
    · exact absurd l'.1 (b m')
    · exact sq_flat (ds := [.int _]) h k (.cons (.int _) .nil) (.cons (.int _) .nil) (by show 1 ≤ 1000; decide) (dp1 _ (by simp [PyData.depth]))
  | recd p =>
    rcases h with ⟨a, h⟩ | ⟨c, x, t, r, a, b, hx, h, h', d⟩ <;> rcases k with ⟨a', k⟩ | ⟨c', x', t', r', a', b', hx', k, k', d'⟩
    · exact mom h k
    · exact absurd ⟨by omega, by omega⟩ a
    · exact absurd ⟨by omega, by omega⟩ a'
    · have ec : c = c' := by omega
      subst ec
      rw [hx] at hx'
      cases hx'
      refine sq_one h k (.inr (.inr (.inr ⟨t, t', _, _, rfl, rfl, h', k', Nat.le_of_ble_eq_true rfl, .cons (Sq.im (d := .int x) (by simp [PyData.depth]) (.int _) (.int _)) (.cons (sq_dict hU (by decide) d d' (dp_btw (ok.sg _) (ok.sg _))) .nil)⟩)))
  | slots p =>
    rcases h with ⟨a, h⟩ | ⟨c, r, a, b, h, d⟩ <;> rcases k with ⟨a', k⟩ | ⟨c', r', a', b', k, d'⟩
    · exact mom h k
    · exact absurd ⟨by omega, by omega⟩ a
    · exact absurd ⟨by omega, by omega⟩ a'
    · have ec : c = c' := by omega
      subst ec
      exact sq_one h k (sq_dict hU (by decide) d d' (dp_up (dp_st4 (ok.sg _)) (by decide)))
  | cut p =>
    rcases h with ⟨a, h⟩ | ⟨a, h⟩ <;> rcases k with ⟨a', k⟩ | ⟨a', k⟩
    · exact mom h k
    · exact absurd a' a
    · exact absurd a a'
    · exact sq_flat (ds := [.none]) h k (.cons .non .nil) (.cons .non .nil) (by show 1 ≤ 1000; decide) (dp1 _ (by simp [PyData.depth]))
  | btw x y =>
    rcases h with ⟨a, h⟩ | ⟨a, b, h⟩ | ⟨c, l, r, a1, a2, a3, a4, h, d⟩ <;> rcases k with ⟨a', k⟩ | ⟨a', b', k⟩ | ⟨c', l', r', b1, b2, b3, b4, k, d'⟩
    · exact mom h k
    · exact absurd a' a
    · exact absurd ⟨by omega, by omega⟩ a
    · exact absurd a a'
    · exact mom h k
    · exact absurd ⟨by omega, by omega⟩ b
    · exact absurd ⟨by omega, by omega⟩ a'
    · exact absurd ⟨by omega, by omega⟩ b'
    · have e1 : c = c' := by omega
      have e2 : l = l' := by omega
      subst e1 e2
      exact sq_one h k (sq_dict hU (by decide) d d' (dp_up (dp_btw (ok.sg _) (ok.sg _)) (by decide)))

theorem w_slT {a : Addr} {H : Hp} {Q : VK} {xs : List V} {lo hi : Option Int} (h : SqT K H a xs) (n : ¬ (HT.sIx xs.length 0 lo = 0 ∧ HT.sIx xs.length xs.length hi = xs.length)) (q : Alc (.tup (cutV xs lo hi)) H Q) : rSlT K (.ref a) lo hi H Q := ⟨a, xs, rfl, h, n, q⟩
theorem w_lapp {H : Hp} {U : List Zk.Slot} {p q : Addr} {f : Fd} {D : Df} {Q : VK} {E : XK} (hU : Pln U) (hf : DM U H p f) (hg : DM U H q (dF D)) (sf : Stt f) (oD' : DOk D)
    (k : ∀ o H', Ext [] H H' → H o = none → ((∀ s, ¬ wrA f D s) ∧ (∃ r, H' o = some (.lst [.ref r]) ∧ DM U H' r (appF f D) ∧ H r = none) ∨ ∃ m, Least (wrA f D) m ∧ MisAt H' o m) → Q (.ref o) H') : sp_law_applied K ([.ref p, .ref q] ++ []) H Q E :=
  ⟨_, _, rfl, U, p, q, f, D, rfl, rfl, hU, hf, hg, sf, oD', fun r o H' n e nr no h h2 => k o H' e no (.inl ⟨n, r, h, h2, nr⟩), fun m o H' l e no h => k o H' e no (.inr ⟨m, l, h⟩)⟩
/-- the positions that a question names first of all -/
def qps : Qn → List Int
  | .slots p => [p]
  | .cut p => [p]
  | .btw a b => [a, b]
  | _ => []
def qnm : Qn → Str
  | .slots _ => sSlo
  | .cut _ => sCut
  | .btw _ _ => sBtw
  | .add _ _ => sAdd
  | .recd _ => sRec
def isO : Qn → Prop
  | .slots _ => True
  | .cut _ => True
  | .btw _ _ => True
  | _ => False
theorem q_tup {U : List Zk.Slot} {H : Hp} {q : Addr} : ∀ {Q : Qn}, isO Q → QAt U H q Q → H q = some (.tup (.str (qnm Q) :: (qps Q).map V.int))
  | .slots _, _, h => h
  | .cut _, _, h => h
  | .btw _ _, _, h => h
theorem ans_out {U : List Zk.Slot} {J : Jr} {H : Hp} {o : Addr} {i : Nat} {x : Int} : ∀ {Q : Qn}, isO Q → (qps Q)[i]? = some x → (∀ k y, k < i → (qps Q)[k]? = some y → inJ J y) → ¬ inJ J x → H o = some (.lst [.str sMom, .int x]) → Ans U J H o Q := by
  intro Q hQ hx hb hn ho
  cases Q with
  | add _ _ => exact hQ.elim
  | recd _ => exact hQ.elim
  | slots p =>
    cases i with
    | zero => cases hx; exact .inl ⟨hn, ho⟩
    | succ i => simp [qps] at hx
  | cut p =>
    cases i with
    | zero => cases hx; exact .inl ⟨hn, ho⟩
    | succ i => simp [qps] at hx
  | btw a b =>
    cases i with
    | zero => cases hx; exact .inl ⟨hn, ho⟩
    | succ i => cases i with
      | zero => cases hx; exact .inr (.inl ⟨hb 0 a (by decide) rfl, hn, ho⟩)
      | succ i => simp [qps] at hx
def sp_law_due (K : PySem.W.Frag) : Sp := sp2 fun a b H Q => ∃ (U : List Zk.Slot) (mo ml q : Addr) (J : Jr) (X : Qn), a = .ref mo ∧ b = .ref q ∧ Pln U ∧ MoAt U H mo ml J ∧ JOk J ∧ QAt U H q X ∧ ∀ o H', Ext [] H H' → H o = none → Ans U J H' o X → Q (.ref o) H'
theorem ok_law_due (T : Txt K mg) : FnOk P w K mg base CX0 2 T.f__law_due T.d__law_due ["model", "question"] (sp_law_due K) := by
  refine T.F__law_due.ok sc_law_due len2 (fun cdv A outer s H vs Q E hr h => ?_)
  have nd := sc_law_due.nd
  have hu := hu_of hr
  obtain ⟨_, _, rfl, U, mo, ml, q, J, X, rfl, rfl, hU, hM, ok, hq, k⟩ := h
  refine ⟨_,
      (pss_cons (ps_set (i := 2) nd rfl (Or.inl rfl) (pe_ix ix_list (pv 0) pe_int (fun _ _ => rfl))) 
      (pss_cons (ps_set (i := 3) nd rfl (Or.inl rfl) (pe_ix ix_list (pv 0) pe_int (fun _ _ => rfl))) 
      (pss_cons (ps_set (i := 4) nd rfl (Or.inl rfl) (pe_op op_sub (pe_op op_add (pv 2) (pe_callB zc_len (by rfl) T.b_len (by decide +kernel) (pa_cons (pv 3) pa_nil))) pe_int)) 
      (pss_cons (ps_if (pt_cmpR op_eq (pe_ix ix_tup (pv 1) pe_int (fun _ _ => rfl)) pe_str (nomark _)) 
        (pss_cons (ps_if (pt_cmpR op_lt (pe_ix ix_tup (pv 1) pe_int (fun _ _ => rfl)) (pe_ix ix_tup (pe_ix ix_list (pv 3) (pe_un un_neg pe_int) (fun _ _ => rfl)) pe_int (fun _ _ => rfl)) (nomark _)) 
          (pss_one (ps_ret (pe_lstZ (pa_cons pe_str (pa_cons (pe_ix ix_tup (pv 1) pe_int (fun _ _ => rfl)) pa_nil))))) pss_nil) 
        (pss_cons (ps_set (i := 5) nd rfl (Or.inl rfl) (pe_call (ok_law_applied T) (hr.mono (by decide)) (by rfl) T.g__law_applied T.F__law_applied.kp T.k__law_applied .nil pass0 (pa_cons (pe_ix ix_tup (pe_ix ix_list (pv 3) (pe_un un_neg pe_int) (fun _ _ => rfl)) pe_int (fun _ _ => rfl)) (pa_cons (pe_ix ix_tup (pv 1) pe_int (fun _ _ => rfl)) pa_nil)))) 
        (pss_cons (ps_if (pt_cmpR op_eq (pe_callB zc_len (by rfl) T.b_len (by decide +kernel) (pa_cons (pv 5) pa_nil)) pe_int (nomark _)) 
          (pss_one (ps_ret (pv 5))) pss_nil) 
        (pss_one (ps_ret (pe_lstZ (pa_cons (pe_op op_add (pv 4) pe_int) pa_nil))))))) pss_nil) 
      (pss_cons (ps_if (pt_cmpR op_eq (pe_ix ix_tup (pv 1) pe_int (fun _ _ => rfl)) pe_str (nomark _)) 
        (pss_cons (ps_if (pt_not (pt_chain op_lt op_le (pv 2) (pe_ix ix_tup (pv 1) pe_int (fun _ _ => rfl)) (pv 4))) 
          (pss_one (ps_ret (pe_lstZ (pa_cons pe_str (pa_cons (pe_ix ix_tup (pv 1) pe_int (fun _ _ => rfl)) pa_nil))))) pss_nil) 
        (pss_cons (ps_set (i := 6) nd rfl (Or.inl rfl) (pe_ix ix_list (pv 3) (pe_op op_sub (pe_ix ix_tup (pv 1) pe_int (fun _ _ => rfl)) (pv 2)) (fun _ _ => rfl))) 
        (pss_one (ps_ret (pe_lstZ (pa_cons (pe_tupZ (pa_cons (pe_ix ix_tup (pv 6) pe_int (fun _ _ => rfl)) (pa_cons (pe_call (ok_law_between T) (hr.mono (by decide)) (by rfl) T.g__law_between T.F__law_between.kp T.k__law_between .nil pass0 (pa_cons (pe_ix ix_tup (pe_ix ix_list (pv 3) (pe_op op_sub (pe_op op_sub (pe_ix ix_tup (pv 1) pe_int (fun _ _ => rfl)) (pv 2)) pe_int) (fun _ _ => rfl)) pe_int (fun _ _ => rfl)) (pa_cons (pe_ix ix_tup (pv 6) pe_int (fun _ _ => rfl)) pa_nil))) pa_nil))) pa_nil)))))) pss_nil) 
      (pss_cons (ps_for PassesOwn.never rfl (pi_tup (pe_slice sl_tup (pv 1) (po_some pe_int) po_none)) (pg_name (i := 7) nd rfl (Or.inl rfl)) 
        (pss_one (ps_if (pt_not (pt_chain op_le op_le (pv 2) (pv 7) (pv 4))) 
          (pss_one (ps_ret (pe_lstZ (pa_cons pe_str (pa_cons (pv 7) pa_nil))))) pss_nil))) 
      (pss_cons (ps_if (pt_cmpR op_eq (pe_ix ix_tup (pv 1) pe_int (fun _ _ => rfl)) pe_str (nomark _)) 
        (pss_one (ps_ret (pe_lstZ (pa_cons (pe_ix ix_tup (pe_ix ix_list (pv 3) (pe_op op_sub (pe_ix ix_tup (pv 1) pe_int (fun _ _ => rfl)) (pv 2)) (fun _ _ => rfl)) pe_int (fun _ _ => rfl)) pa_nil)))) pss_nil) 
      (pss_cons (ps_if (pt_cmpR op_eq (pe_ix ix_tup (pv 1) pe_int (fun _ _ => rfl)) pe_str (nomark _)) 
        (pss_one (ps_ret (pe_lstZ (pa_cons pe_non pa_nil)))) pss_nil) 
      (pss_one (ps_ret (pe_lstZ (pa_cons (pe_call (ok_law_between T) (hr.mono (by decide)) (by rfl) T.g__law_between T.F__law_between.kp T.k__law_between .nil pass0 (pa_cons (pe_ix ix_tup (pe_ix ix_list (pv 3) (pe_op op_sub (pe_ix ix_tup (pv 1) pe_int (fun _ _ => rfl)) (pv 2)) (fun _ _ => rfl)) pe_int (fun _ _ => rfl)) (pa_cons (pe_ix ix_tup (pe_ix ix_list (pv 3) (pe_op op_sub (pe_ix ix_tup (pv 1) pe_int (fun _ _ => rfl)) (pv 2)) (fun _ _ => rfl)) pe_int (fun _ _ => rfl)) pa_nil))) pa_nil)))))))))))), ?_⟩
  change (_ : TS) _ [some _, some _, none, none, none, none, none, none] _
  try dsimp only [cxOf, Cx.nox, Cx.wish]
  have no_ : ∀ {x : Addr}, x ∉ ([] : List Addr) := List.not_mem_nil
  have hmo := hM.ob
  obtain ⟨ts, hml, lts, hst⟩ := hM.at
  walk_at "go"
  have elen : ((ts.map V.ref).length : Int) = J.n + 1 := by rw [List.length_map, lts]; omega
  rw [elen]
  refine w_cut (fun σ' H' => H = H' ∧ (∀ x D, X ≠ .add x D) ∧ σ' = [some (.ref mo), some (.ref q), some (.int J.b), some (.ref ml), some (.int (J.b + (J.n + 1) - 1)), none, none, none]) ?_ fun nx hn => ?_
  · rintro _ _ ⟨rfl, hNA, rfl⟩
    walk_at "go"
    refine w_cut (fun σ' H' => H = H' ∧ isO X ∧ σ' = [some (.ref mo), some (.ref q), some (.int J.b), some (.ref ml), some (.int (J.b + (J.n + 1) - 1)), none, none, none]) ?_ fun nx hn => ?_
    · rintro _ _ ⟨rfl, hO, rfl⟩
      have htq := q_tup hO hq
      walk_at "go"
      have lq : (qps X).length ≤ 2 ∧ 0 < (qps X).length := by cases X <;> first | exact hO.elim | (show 1 ≤ 2 ∧ 0 < 1; decide) | (show 2 ≤ 2 ∧ 0 < 2; decide)
      refine ⟨_, rfl, ?_⟩
      walk_at "go"
      refine w_slT (sqt htq) ?_ (w_alc fun P H1 e1 n1 h1 => ?_)
      · rintro ⟨z, _⟩
        rw [show (1 : Int) = ((1 : Nat) : Int) from rfl, HT.sIx_nat, List.length_cons] at z
        omega
      rw [show (1 : Int) = ((1 : Nat) : Int) from rfl, cutV_drop (by rw [List.length_cons]; omega), List.drop_succ_cons, List.drop_zero] at h1
      refine ⟨P, rfl, ⟨_, sqt h1⟩, ?_⟩
      have hM1 := hM.ext0 e1
      have htq1 := e1.tup htq
      have hml1 := e1.keep _ _ hml no_
      refine z_for_tup (xs := (qps X).map V.int) (fun i σ' H' => H1 = H' ∧ (∀ k y, k < i → (qps X)[k]? = some y → inJ J y) ∧ ∃ u, σ' = [some (.ref mo), some (.ref q), some (.int J.b), some (.ref ml), some (.int (J.b + (J.n + 1) - 1)), none, none, u]) ⟨rfl, fun k y h => absurd h (Nat.not_lt_zero _), _, rfl⟩ (fun i σ' H' _ ⟨e, _⟩ => e ▸ sqt h1) ?_ ?_
      · rintro N i v σ' _ hx ⟨rfl, hb, u, rfl⟩ hN
        rw [List.getElem?_map, Option.map_eq_some_iff] at hx
        obtain ⟨x, hx', rfl⟩ := hx
        have fail : ¬ inJ J x → ∀ o H', Ext [] H1 H' → H1 o = none → H' o = some (.lst [.str sMom, .int x]) → Q (.ref o) H' := fun hn o H' e no ho => k o H' (e1.trans e) (e1.free no) (ans_out hO hx' hb hn ho)
        walk_at "go"; walk_at "if"
        refine w_chain ?_
        walk_at "go"
        refine w_d (fun h => ?_) fun h => ?_
        · walk_at "go"
          by_cases h' : x ≤ J.b + ((J.n : Int) + 1) - 1
          · refine w_f (by simp [h']) ?_
            walk_at "go"
            refine hN _ _ ⟨rfl, fun c y hc hy => ?_, _, rfl⟩
            by_cases e : c = i
            · subst e
              rw [hx'] at hy
              cases hy
              exact ⟨h, by omega⟩
            · exact hb c y (by omega) hy
          · refine w_t (by simp [h']) ?_
            walk_at "go"
            refine ⟨sz (by show 2 ≤ _; decide), w_alc fun o H2 e2 n2 h2 => ?_⟩
            exact fail (fun z => h' (by have := z.2; omega)) o H2 e2 n2 h2
        · walk_at "go"
          refine ⟨sz (by show 2 ≤ _; decide), w_alc fun o H2 e2 n2 h2 => ?_⟩
          exact fail (fun z => h z.1) o H2 e2 n2 h2
      · rintro σ' _ ⟨rfl, hb, u, rfl⟩
        rw [List.length_map] at hb
        have at1 : ∀ {x : Int} {i : Nat}, (qps X)[i]? = some x → ∃ c : Nat, x = J.b + c ∧ c ≤ J.n := fun {x i} h => inJ_at (hb i x (List.getElem?_eq_some_iff.mp h).1 h)
        cases X with
        | add _ _ => exact hO.elim
        | recd _ => exact hO.elim
        | slots x =>
          change H1 q = some (.tup [.str sSlo, .int x]) at htq1
          obtain ⟨c, ec, cn⟩ := at1 (x := x) (i := 0) rfl
          obtain ⟨t, d, y, a1, a2, a3, a4⟩ := hst c (by omega)
          have a2' := e1.tup a2
          walk_at "go"; walk_at "if"
          refine w_t (by decide +kernel) ?_
          walk_at "go"
          refine w_ixL (sql hml1) (at_int a1 (by omega)) ?_
          walk_at "go"
          refine ⟨sz (by show 1 ≤ _; decide), w_alc fun o H2 e2 n2 h2 => ?_⟩
          exact k o H2 (e1.trans e2) (e1.free n2) (.inr ⟨c, d, ec, cn, h2, a4.ext (e1.trans e2) no_⟩)
        | cut x =>
          change H1 q = some (.tup [.str sCut, .int x]) at htq1
          walk_at "go"; walk_at "if"
          refine w_f (by decide +kernel) ?_
          walk_at "go"; walk_at "if"
          refine w_t (by decide +kernel) ?_
          walk_at "go"
          refine ⟨sz (by show 1 ≤ _; decide), w_alc fun o H2 e2 n2 h2 => ?_⟩
          exact k o H2 (e1.trans e2) (e1.free n2) (.inr ⟨hb 0 x (Nat.zero_lt_one) rfl, h2⟩)
        | btw x z =>
          change H1 q = some (.tup [.str sBtw, .int x, .int z]) at htq1
          obtain ⟨c, ec, cn⟩ := at1 (x := x) (i := 0) rfl
          obtain ⟨l, el, ln⟩ := at1 (x := z) (i := 1) rfl
          obtain ⟨t, d, y, a1, a2, a3, a4⟩ := hst c (by omega)
          obtain ⟨t', d', y', b1, b2, b3, b4⟩ := hst l (by omega)
          have a2' := e1.tup a2
          have b2' := e1.tup b2
          walk_at "go"; walk_at "if"
          refine w_f (by decide +kernel) ?_
          walk_at "go"; walk_at "if"
          refine w_f (by decide +kernel) ?_
          walk_at "go"
          refine w_ixL (sql hml1) (at_int a1 (by omega)) ?_
          walk_at "go"
          refine w_ixL (sql hml1) (at_int b1 (by omega)) ?_
          walk_at "go"
          refine w_lbetween hU.1 (a4.ext e1 no_) (b4.ext e1 no_) (ok.sg _) (ok.sg _) fun r H2 e2 nr hr => ?_
          walk_at "go"
          refine ⟨sz (by show 1 ≤ _; decide), w_alc fun o H3 e3 n3 h3 => ?_⟩
          exact k o H3 ((e1.trans e2).trans e3) ((e1.trans e2).free n3) (.inr (.inr ⟨c, l, r, ec, cn, el, ln, h3, hr.ext e3 no_⟩))
    · walk_at "if"
      cases X with
      | add x D => exact absurd rfl (hNA x D)
      | recd x =>
        have htq : H q = some (.tup [.str sRec, .int x]) := hq
        walk_at "go"
        refine w_t (by decide +kernel) ?_
        have mom : ¬ (J.b < x ∧ x ≤ J.b + J.n) → ∀ o H', Ext [] H H' → H o = none → H' o = some (.lst [.str sMom, .int x]) → Q (.ref o) H' := fun hn o H' e no ho => k o H' e no (.inl ⟨hn, ho⟩)
        walk_at "go"; walk_at "if"
        refine w_chain ?_
        walk_at "go"
        refine w_d (fun h => ?_) fun h => ?_
        · walk_at "go"
          by_cases h' : x ≤ J.b + ((J.n : Int) + 1) - 1
          · refine w_f (by simp [h']) ?_
            obtain ⟨c, ec⟩ : ∃ c : Nat, x = J.b + c + 1 := ⟨(x - J.b - 1).toNat, by omega⟩
            have cn : c < J.n := by omega
            obtain ⟨t, d, y, a1, a2, a3, a4⟩ := hst c (by omega)
            obtain ⟨t', d', y', b1, b2, b3, b4⟩ := hst (c + 1) (by omega)
            walk_at "go"
            refine w_ixL (sql hml) (at_int b1 (by omega)) ?_
            walk_at "go"
            refine w_ixL (sql hml) (at_int a1 (by omega)) ?_
            walk_at "go"
            refine w_lbetween hU.1 a4 b4 (ok.sg _) (ok.sg _) fun r H2 e2 nr hr => ?_
            walk_at "go"
            refine ⟨sz (by show 2 ≤ _; decide), w_alc fun o2 H3 e3 n3 h3 => ?_⟩
            walk_at "go"
            refine ⟨sz (by show 1 ≤ _; decide), w_alc fun o H4 e4 n4 h4 => ?_⟩
            exact k o H4 ((e2.trans e3).trans e4) ((e2.trans e3).free n4) (.inr ⟨c, y', o2, r, ec, cn, b3, h4, e4.tup h3, (hr.ext e3 no_).ext e4 no_⟩)
          · refine w_t (by simp [h']) ?_
            walk_at "go"
            refine ⟨sz (by show 2 ≤ _; decide), w_alc fun o H2 e2 n2 h2 => ?_⟩
            exact mom (fun z => h' (by omega)) o H2 e2 n2 h2
        · walk_at "go"
          refine ⟨sz (by show 2 ≤ _; decide), w_alc fun o H2 e2 n2 h2 => ?_⟩
          exact mom (fun z => h z.1) o H2 e2 n2 h2
      | slots x =>
        have htq : H q = some (.tup [.str sSlo, .int x]) := hq
        walk_at "go"
        refine w_f (by decide +kernel) ?_
        walk_at "go"
        exact hn _ _ ⟨rfl, trivial, rfl⟩
      | cut x =>
        have htq : H q = some (.tup [.str sCut, .int x]) := hq
        walk_at "go"
        refine w_f (by decide +kernel) ?_
        walk_at "go"
        exact hn _ _ ⟨rfl, trivial, rfl⟩
      | btw x z =>
        have htq : H q = some (.tup [.str sBtw, .int x, .int z]) := hq
        walk_at "go"
        refine w_f (by decide +kernel) ?_
        walk_at "go"
        exact hn _ _ ⟨rfl, trivial, rfl⟩
  · walk_at "if"
    cases X with
    | add x D =>
      obtain ⟨dq, htq, hdq, od⟩ := hq
      obtain ⟨t, d, y, a1, a2, a3, a4⟩ := hst J.n (by omega)
      have ey : y = lastSt J := by rw [lastSt_at ok] at a3; cases a3; rfl
      subst ey
      walk_at "go"
      refine w_t (by decide +kernel) ?_
      walk_at "go"; walk_at "if"
      refine w_ixL (sql hml) (at_last a1 (by rw [List.length_map, lts])) ?_
      walk_at "go"
      refine w_d (fun h => ?_) fun h => ?_
      · walk_at "go"
        refine ⟨sz (by show 2 ≤ _; decide), w_alc fun o H2 e2 n2 h2 => ?_⟩
        exact k o H2 e2 n2 (.inl ⟨h, h2⟩)
      · walk_at "go"
        refine w_ixL (sql hml) (at_last a1 (by rw [List.length_map, lts])) ?_
        walk_at "go"
        refine w_lapp hU a4 hdq (ok.sg _) od fun o H2 e2 no hres => ?_
        walk_at "go"; walk_at "if"
        rcases hres with ⟨hw, r, ho, hr, nr⟩ | ⟨m, lm, b, ho, hb⟩
        · refine w_lenL (sql ho) ?_
          walk_at "go"
          refine w_f (by simp) ?_
          walk_at "go"
          refine ⟨sz (by show 1 ≤ _; decide), w_alc fun o3 H3 e3 n3 h3 => ?_⟩
          refine k o3 H3 (e2.trans e3) (e2.free n3) (.inr (.inr ⟨h, hw, ?_⟩))
          rw [h3]
          have : J.b + ((J.n : Int) + 1) - 1 + 1 = J.b + J.n + 1 := by omega
          rw [this]
        · refine w_lenL (sql ho) ?_
          walk_at "go"
          refine w_t (by simp) ?_
          walk_at "go"
          exact k o H2 e2 no (.inr (.inl ⟨h, m, lm, b, ho, hb⟩))
    | recd x =>
      have htq : H q = some (.tup [.str sRec, .int x]) := hq
      walk_at "go"
      refine w_f (by decide +kernel) ?_
      walk_at "go"
      exact hn _ _ ⟨rfl, fun _ _ z => (nomatch z), rfl⟩
    | slots x =>
      have htq : H q = some (.tup [.str sSlo, .int x]) := hq
      walk_at "go"
      refine w_f (by decide +kernel) ?_
      walk_at "go"
      exact hn _ _ ⟨rfl, fun _ _ z => (nomatch z), rfl⟩
    | cut x =>
      have htq : H q = some (.tup [.str sCut, .int x]) := hq
      walk_at "go"
      refine w_f (by decide +kernel) ?_
      walk_at "go"
      exact hn _ _ ⟨rfl, fun _ _ z => (nomatch z), rfl⟩
    | btw x z =>
      have htq : H q = some (.tup [.str sBtw, .int x, .int z]) := hq
      walk_at "go"
      refine w_f (by decide +kernel) ?_
      walk_at "go"
      exact hn _ _ ⟨rfl, fun _ _ z => (nomatch z), rfl⟩
theorem w_due {H : Hp} {U : List Zk.Slot} {mo ml q : Addr} {J : Jr} {X : Qn} {Q : VK} {E : XK} (hU : Pln U) (hM : MoAt U H mo ml J) (ok : JOk J) (hq : QAt U H q X) (k : ∀ o H', Ext [] H H' → H o = none → Ans U J H' o X → Q (.ref o) H') : sp_law_due K ([.ref mo, .ref q] ++ []) H Q E :=
  ⟨_, _, rfl, U, mo, ml, q, J, X, rfl, rfl, hU, hM, ok, hq, k⟩

/-! ### what is told -/
theorem w_isEE {C a dd : Addr} {c : V} {cv : Value} {b : Bool} {fs : List (Str × V)} {H : Hp} {Q : VK} (i : ExcC K C) (r : ∀ u, RelV c u → u = cv) (h : H dd = some (.xd fs)) (k : PySem.W.kitOne K (.ref C) cv = some b) (q : Q (.bl b) H) : rIsEE K a (.ref C) (some dd) [.ref a, c] H Q :=
  ⟨C, dd, rfl, rfl, i, c, cv, b, fs, rfl, r, h, k, q⟩
theorem w_xf {a C dd : Addr} {n : Str} {te : TE} {σ : L2.St} {H : Hp} {Q : VK} (h : te σ H fun x H1 => x = .ref a ∧ (.ref C : Value) = .ref C ∧ ∃ (d2 : Addr) (fs : List (Str × V)) (v : V), some dd = some d2 ∧ H1 d2 = some (.xd fs) ∧ fs.lookup n = some v ∧ Q v H1) : tXf a (.ref C) (some dd) C n te σ H Q := h
def After (J : Jr) : Qn → Jr → Prop
  | .add x D, J' => (x < lastSt J ∨ ∃ s, wrA (J.g J.n) D s) ∧ J' = J ∨ ¬ x < lastSt J ∧ (∀ s, ¬ wrA (J.g J.n) D s) ∧ J' = J.add x D
  | .cut p, J' => ¬ inJ J p ∧ J' = J ∨ ∃ c : Nat, p = J.b + c ∧ c ≤ J.n ∧ J' = J.cut c
  | _, J' => J' = J
def Fresh (H H' : Hp) (o : Addr) : Prop := (∀ r kvs, H' o = some (.lst [.ref r]) → H' r = some (.dT kvs) → H r = none) ∧ ∀ t x r, H' o = some (.lst [.ref t]) → H' t = some (.tup [.int x, .ref r]) → H r = none
theorem fresh2 {H H' : Hp} {o : Addr} {v w : V} (h : H' o = some (.lst [v, w])) : Fresh H H' o := ⟨(fun r kvs k _ => by rw [h] at k; cases k), fun t x r k _ => by rw [h] at k; cases k⟩
theorem fresh1 {H H' : Hp} {o : Addr} {v : V} (h : H' o = some (.lst [v])) (n : ∀ r, v ≠ .ref r) : Fresh H H' o := ⟨(fun r kvs k _ => by rw [h] at k; cases k; exact absurd rfl (n r)), fun t x r k _ => by rw [h] at k; cases k; exact absurd rfl (n t)⟩
theorem freshD {H H' : Hp} {o r : Addr} {kvs : List (List Key × V)} (h : H' o = some (.lst [.ref r])) (d : H' r = some (.dT kvs)) (n : H r = none) : Fresh H H' o := ⟨(fun r' kvs k _ => by rw [h] at k; cases k; exact n), fun t x r' k l => by rw [h] at k; cases k; rw [d] at l; cases l⟩
theorem freshT {H H' : Hp} {o t r : Addr} {x : Int} (h : H' o = some (.lst [.ref t])) (d : H' t = some (.tup [.int x, .ref r])) (n : H r = none) : Fresh H H' o := ⟨(fun r' kvs k l => by rw [h] at k; cases k; rw [d] at l; cases l), fun t x r' k l => by rw [h] at k; cases k; rw [d] at l; cases l; exact n⟩
def isR : Qn → Prop
  | .slots _ => True
  | .recd _ => True
  | .btw _ _ => True
  | _ => False
def sp_law_told (CI : Addr) (K : PySem.W.Frag) : Sp := sp2 fun a b H Q => ∃ (U : List Zk.Slot) (j sl pl q : Addr) (J : Jr) (X : Qn), a = .ref j ∧ b = .ref q ∧ U.length ≤ 1000 ∧ ∃ F, JAtF CI U H j sl pl J F ∧ JOk J ∧ J.n ≤ 500 ∧ QAt U H q X ∧
  ∀ o sl' pl' J' F' H', Ext [j, sl, pl] H H' → JAtF CI U H' j sl' pl' J' F' → (∀ a ∈ F', a ∈ F ∨ H a = none) → After J X J' → (sl' = sl ∧ pl' = pl ∨ H sl' = none ∧ H pl' = none) → H o = none → Ans U J H' o X → Fresh H H' o → (isR X → Ext [] H H' ∧ sl' = sl ∧ pl' = pl ∧ F' = F) → Q (.ref o) H'
theorem ok_law_told (T : Txt K mg) (TE : Errs P K mg) : FnOk P w K mg base CX0 5 T.f__law_told T.d__law_told ["journal", "question"] (sp_law_told T.C_Journal K) := by
  refine T.F__law_told.ok sc_law_told len2 (fun cdv A outer s H vs Q E hr h => ?_)
  have nd := sc_law_told.nd
  have hu := hu_of hr
  obtain ⟨_, _, rfl, U, j, sl, pl, q, J, X, rfl, rfl, hU, F, hJF, ok, n5, hq, k⟩ := h
  refine ⟨_,
      (pss_one (ps_try_all (Wout := fun _ _ _ _ => False) rfl rfl nd takesNo (fun W pn xe tk _ => 
        (pss_cons (ps_if (pt_cmpR op_eq (pe_ix (ix_tupK (K := K) rfl) (pv 1) pe_int (fun _ _ => rfl)) pe_str (nomark _)) 
          (pss_one (ps_ret (pe_lstZ (pa_cons (pe_methT (pv 0) T.c_Journal T.m_Journal_slots_at (ok_Journal_slots_at T TE) (hr.mono (by decide)) T.k_Journal_slots_at (fun σ => passAt tk σ) (pa_cons (pe_ix (ix_tupK (K := K) rfl) (pv 1) pe_int (fun _ _ => rfl)) pa_nil)) pa_nil)))) pss_nil) 
        (pss_cons (ps_if (pt_cmpR op_eq (pe_ix (ix_tupK (K := K) rfl) (pv 1) pe_int (fun _ _ => rfl)) pe_str (nomark _)) 
          (pss_one (ps_ret (pe_lstZ (pa_cons (pe_methT (pv 0) T.c_Journal T.m_Journal_record (ok_Journal_record T TE) (hr.mono (by decide)) T.k_Journal_record (fun σ => passAt tk σ) (pa_cons (pe_ix (ix_tupK (K := K) rfl) (pv 1) pe_int (fun _ _ => rfl)) pa_nil)) pa_nil)))) pss_nil) 
        (pss_cons (ps_if (pt_cmpR op_eq (pe_ix (ix_tupK (K := K) rfl) (pv 1) pe_int (fun _ _ => rfl)) pe_str (nomark _)) 
          (pss_one (ps_ret (pe_lstZ (pa_cons (pe_methT (pv 0) T.c_Journal T.m_Journal_difference_between (ok_Journal_difference_between T TE) (hr.mono (by decide)) T.k_Journal_difference_between (fun σ => passAt tk σ) (pa_cons (pe_ix (ix_tupK (K := K) rfl) (pv 1) pe_int (fun _ _ => rfl)) (pa_cons (pe_ix (ix_tupK (K := K) rfl) (pv 1) pe_int (fun _ _ => rfl)) pa_nil))) pa_nil)))) pss_nil) 
        (pss_cons (ps_if (pt_cmpR op_eq (pe_ix (ix_tupK (K := K) rfl) (pv 1) pe_int (fun _ _ => rfl)) pe_str (nomark _)) 
          (pss_one (ps_ret (pe_lstZ (pa_cons (pe_methT (pv 0) T.c_Journal T.m_Journal_cut (ok_Journal_cut T TE) (hr.mono (by decide)) T.k_Journal_cut (fun σ => passAt tk σ) (pa_cons (pe_ix (ix_tupK (K := K) rfl) (pv 1) pe_int (fun _ _ => rfl)) pa_nil)) pa_nil)))) pss_nil) 
        (pss_one (ps_ret (pe_lstZ (pa_cons (pe_methT (pv 0) T.c_Journal T.m_Journal_add_record (ok_Journal_add_record T TE) (hr.mono (by decide)) T.k_Journal_add_record (fun σ => passAt tk σ) (pa_cons (pe_ix (ix_tupK (K := K) rfl) (pv 1) pe_int (fun _ _ => rfl)) (pa_cons (pe_ix (ix_tupK (K := K) rfl) (pv 1) pe_int (fun _ _ => rfl)) pa_nil))) pa_nil))))))))) (HdsZ.named (i := 2) rfl rfl ⟨rfl, by decide, Or.inl TE.g_NoMoment⟩ (fun a oe cls d pn hz hf => 
        (pss_one (ps_ret (pe_lstZ (pa_cons (pe_ifExp (PW.pt (pw_and (pt_val (pe_callB (call_isEE hz hf) (by rfl) T.b_isinstance (by decide +kernel) (pa_cons (pv 2) (pa_cons (pe_glob (v := .ref TE.C_StoreError) rfl TE.g_StoreError rfl) pa_nil)))) (pw_and1 (pt_not (pt_val (pe_callB (call_isEE hz hf) (by rfl) T.b_isinstance (by decide +kernel) (pa_cons (pv 2) (pa_cons (pe_glob (v := .ref TE.C_Mismatch) rfl TE.g_Mismatch rfl) pa_nil)))))))) pe_str pe_str) (pa_cons (pe_xf TE.x_NoMoment TE.E_NoMoment.noN hz hf (pv 2)) pa_nil)))))) (HdsZ.named (i := 2) rfl rfl ⟨rfl, by decide, Or.inl TE.g_Mismatch⟩ (fun a oe cls d pn hz hf => 
        (pss_one (ps_ret (pe_lstZ (pa_cons (pe_ifExp (pt_val (pe_callB (call_isEE hz hf) (by rfl) T.b_isinstance (by decide +kernel) (pa_cons (pv 2) (pa_cons (pe_glob (v := .ref TE.C_StoreError) rfl TE.g_StoreError rfl) pa_nil)))) pe_str pe_str) (pa_cons (pe_xf TE.x_Mismatch TE.E_Mismatch.noN hz hf (pv 2)) pa_nil)))))) (HdsZ.named (i := 2) rfl rfl ⟨rfl, by decide, Or.inl TE.g_StampBack⟩ (fun a oe cls d pn hz hf => 
        (pss_one (ps_ret (pe_lstZ (pa_cons (pe_ifExp (pt_val (pe_callB (call_isEE hz hf) (by rfl) T.b_isinstance (by decide +kernel) (pa_cons (pv 2) (pa_cons (pe_glob (v := .ref TE.C_StoreError) rfl TE.g_StoreError rfl) pa_nil)))) pe_str pe_str) (pa_cons (pe_xf TE.x_StampBack TE.E_StampBack.noN hz hf (pv 2)) pa_nil)))))) HdsZ.nil))))), ?_⟩
  change (_ : TS) _ [some _, some _, none] _
  try dsimp only [cxOf, Cx.nox, Cx.wish]
  have hJ := hJF.at
  have no_ : ∀ {x : Addr}, x ∉ ([] : List Addr) := List.not_mem_nil
  obtain ⟨dx, f, la, hj, hf, hl⟩ := id hJ.ob
  have same0 : After J X J → ∀ o H', Ext [] H H' → H o = none → Ans U J H' o X → Fresh H H' o → Q (.ref o) H' := fun af o H' e no an fr => k o sl pl J F H' e.up (hJF.ext0 e) (fun a m => .inl m) af (.inl ⟨rfl, rfl⟩) no an fr fun _ => ⟨e, rfl, rfl, rfl⟩
  cases X with
  | slots x =>
    have htq : H q = some (.tup [.str sSlo, .int x]) := hq
    have same_ := same0 rfl
    walk_at "go"; walk_at "if"
    refine w_t (by decide +kernel) ?_
    walk_at "go"
    refine w_meth hj no_Journal_slots_at ?_
    walk_at "go"
    refine w_jslots hU hJ ok (fun hn => ?_) fun c ec cn r H1 e1 nr hr => ?_
    · -- out
      intro dd H1 e1 h1
      refine ⟨true, TE.t_NoMoment, fun _ a na => ?_, fun z => nomatch z⟩
      dsimp only [behindAs]
      walk_at "go"; walk_at "ife"
      refine w_isEE TE.i_NoMoment (fun u r => r) h1 TE.k_s1 ?_
      walk_at "go"
      refine w_isEE TE.i_NoMoment (fun u r => r) h1 TE.k_s2 ?_
      walk_at "go"
      refine w_xf ?_
      walk_at "go"
      refine ⟨rfl, rfl, dd, _, _, rfl, h1, lk_same, ?_⟩
      walk_at "go"
      refine ⟨sz (by show 2 ≤ _; decide), w_alc fun o H2 e2 n2 h2 => ?_⟩
      exact same_ o H2 (e1.trans e2) (e1.free n2) (.inl ⟨hn, h2⟩) (fresh2 h2)
    · walk_at "go"
      refine ⟨sz (by show 1 ≤ _; decide), w_alc fun o H2 e2 n2 h2 => ?_⟩
      have hr2 := hr.ext e2 no_
      obtain ⟨kvs, ks, hk, _⟩ := id hr2
      exact same_ o H2 (e1.trans e2) (e1.free n2) (.inr ⟨c, r, ec, cn, h2, hr2⟩) (freshD h2 hk nr)
  | recd x =>
    have htq : H q = some (.tup [.str sRec, .int x]) := hq
    have same_ := same0 rfl
    walk_at "go"; walk_at "if"
    refine w_f (by decide +kernel) ?_
    walk_at "go"; walk_at "if"
    refine w_t (by decide +kernel) ?_
    walk_at "go"
    refine w_meth hj no_Journal_record ?_
    walk_at "go"
    refine ⟨_, _, rfl, U, j, sl, pl, J, x, rfl, rfl, hU, hJ, ok, fun hn => ?_, fun c y ec cn hy t r H1 e1 nt nr ht hr => ?_⟩
    · -- out
      intro dd H1 e1 h1
      refine ⟨true, TE.t_NoMoment, fun _ a na => ?_, fun z => nomatch z⟩
      dsimp only [behindAs]
      walk_at "go"; walk_at "ife"
      refine w_isEE TE.i_NoMoment (fun u r => r) h1 TE.k_s1 ?_
      walk_at "go"
      refine w_isEE TE.i_NoMoment (fun u r => r) h1 TE.k_s2 ?_
      walk_at "go"
      refine w_xf ?_
      walk_at "go"
      refine ⟨rfl, rfl, dd, _, _, rfl, h1, lk_same, ?_⟩
      walk_at "go"
      refine ⟨sz (by show 2 ≤ _; decide), w_alc fun o H2 e2 n2 h2 => ?_⟩
      exact same_ o H2 (e1.trans e2) (e1.free n2) (.inl ⟨hn, h2⟩) (fresh2 h2)
    · walk_at "go"
      refine ⟨sz (by show 1 ≤ _; decide), w_alc fun o H2 e2 n2 h2 => ?_⟩
      refine same_ o H2 (e1.trans e2) (e1.free n2) (.inr ⟨c, y, t, r, ec, cn, hy, h2, e2.tup ht, ?_⟩) (freshT h2 (e2.tup ht) nr)
      rw [ok.step c cn, ← step_btw (ok.ok c cn) (ok.sd c)]
      exact hr.ext e2 no_
  | btw x z =>
    have htq : H q = some (.tup [.str sBtw, .int x, .int z]) := hq
    have same_ := same0 rfl
    walk_at "go"; walk_at "if"
    refine w_f (by decide +kernel) ?_
    walk_at "go"; walk_at "if"
    refine w_f (by decide +kernel) ?_
    walk_at "go"; walk_at "if"
    refine w_t (by decide +kernel) ?_
    walk_at "go"
    refine w_meth hj no_Journal_difference_between ?_
    walk_at "go"
    refine ⟨_, _, _, rfl, U, j, sl, pl, J, x, z, rfl, rfl, rfl, hU, hJ, ok, fun hn => ?_, fun hx hn => ?_, fun c l ec cn el ln r H1 e1 nr hr => ?_⟩
    · -- out
      intro dd H1 e1 h1
      refine ⟨true, TE.t_NoMoment, fun _ a na => ?_, fun z => nomatch z⟩
      dsimp only [behindAs]
      walk_at "go"; walk_at "ife"
      refine w_isEE TE.i_NoMoment (fun u r => r) h1 TE.k_s1 ?_
      walk_at "go"
      refine w_isEE TE.i_NoMoment (fun u r => r) h1 TE.k_s2 ?_
      walk_at "go"
      refine w_xf ?_
      walk_at "go"
      refine ⟨rfl, rfl, dd, _, _, rfl, h1, lk_same, ?_⟩
      walk_at "go"
      refine ⟨sz (by show 2 ≤ _; decide), w_alc fun o H2 e2 n2 h2 => ?_⟩
      exact same_ o H2 (e1.trans e2) (e1.free n2) (.inl ⟨hn, h2⟩) (fresh2 h2)
    · -- out
      intro dd H1 e1 h1
      refine ⟨true, TE.t_NoMoment, fun _ a na => ?_, fun z => nomatch z⟩
      dsimp only [behindAs]
      walk_at "go"; walk_at "ife"
      refine w_isEE TE.i_NoMoment (fun u r => r) h1 TE.k_s1 ?_
      walk_at "go"
      refine w_isEE TE.i_NoMoment (fun u r => r) h1 TE.k_s2 ?_
      walk_at "go"
      refine w_xf ?_
      walk_at "go"
      refine ⟨rfl, rfl, dd, _, _, rfl, h1, lk_same, ?_⟩
      walk_at "go"
      refine ⟨sz (by show 2 ≤ _; decide), w_alc fun o H2 e2 n2 h2 => ?_⟩
      exact same_ o H2 (e1.trans e2) (e1.free n2) (.inr (.inl ⟨hx, hn, h2⟩)) (fresh2 h2)
    · walk_at "go"
      refine ⟨sz (by show 1 ≤ _; decide), w_alc fun o H2 e2 n2 h2 => ?_⟩
      have hr2 := hr.ext e2 no_
      obtain ⟨kvs, ks, hk, _⟩ := id hr2
      exact same_ o H2 (e1.trans e2) (e1.free n2) (.inr (.inr ⟨c, l, r, ec, cn, el, ln, h2, hr2⟩)) (freshD h2 hk nr)
  | cut x =>
    have htq : H q = some (.tup [.str sCut, .int x]) := hq
    walk_at "go"; walk_at "if"
    refine w_f (by decide +kernel) ?_
    walk_at "go"; walk_at "if"
    refine w_f (by decide +kernel) ?_
    walk_at "go"; walk_at "if"
    refine w_f (by decide +kernel) ?_
    walk_at "go"; walk_at "if"
    refine w_t (by decide +kernel) ?_
    walk_at "go"
    refine w_meth hj no_Journal_cut ?_
    walk_at "go"
    refine ⟨_, _, rfl, U, j, sl, pl, J, x, rfl, rfl, hU, F, hJF, ok, fun hn => ?_, fun c ec cn sl' pl' F' H1 e1 ns np hJ1 hF => ?_⟩
    · have same_ := same0 (.inl ⟨hn, rfl⟩)
      intro dd H1 e1 h1
      refine ⟨true, TE.t_NoMoment, fun _ a na => ?_, fun z => nomatch z⟩
      dsimp only [behindAs]
      walk_at "go"; walk_at "ife"
      refine w_isEE TE.i_NoMoment (fun u r => r) h1 TE.k_s1 ?_
      walk_at "go"
      refine w_isEE TE.i_NoMoment (fun u r => r) h1 TE.k_s2 ?_
      walk_at "go"
      refine w_xf ?_
      walk_at "go"
      refine ⟨rfl, rfl, dd, _, _, rfl, h1, lk_same, ?_⟩
      walk_at "go"
      refine ⟨sz (by show 2 ≤ _; decide), w_alc fun o H2 e2 n2 h2 => ?_⟩
      exact same_ o H2 (e1.trans e2) (e1.free n2) (.inl ⟨hn, h2⟩) (fresh2 h2)
    · walk_at "go"
      refine ⟨sz (by show 1 ≤ _; decide), w_alc fun o H2 e2 n2 h2 => ?_⟩
      exact k o sl' pl' _ F' H2 ((e1.trans e2.up).mono fun x m => by rw [List.mem_singleton.mp m]; exact List.mem_cons_self) (hJ1.ext0 e2) hF (.inr ⟨c, ec, cn, rfl⟩) (.inr ⟨ns, np⟩) (e1.free n2) (.inr ⟨⟨by omega, by omega⟩, h2⟩) (fresh1 h2 fun r z => nomatch z) fun z => z.elim
  | add x D =>
    obtain ⟨dq, htq, hdq, od⟩ := hq
    walk_at "go"; walk_at "if"
    refine w_f (by decide +kernel) ?_
    walk_at "go"; walk_at "if"
    refine w_f (by decide +kernel) ?_
    walk_at "go"; walk_at "if"
    refine w_f (by decide +kernel) ?_
    walk_at "go"; walk_at "if"
    refine w_f (by decide +kernel) ?_
    walk_at "go"
    refine w_meth hj no_Journal_add_record ?_
    walk_at "go"
    refine ⟨_, _, _, rfl, U, j, sl, pl, J, x, dq, D, rfl, rfl, rfl, hU, F, hJF, ok, n5, hdq, od, fun hx => ?_, fun hx m hm => ?_, fun hx hw F' H1 e1 hJ1 hF => ?_⟩
    · intro dd H1 e1 h1
      refine ⟨false, TE.n_StampBack_NoMoment, (fun z => nomatch z), fun _ => ⟨false, TE.n_StampBack_Mismatch, (fun z => nomatch z), fun _ => ⟨true, TE.t_StampBack, fun _ a na => ?_, fun z => nomatch z⟩⟩⟩
      dsimp only [behindAs]
      walk_at "go"; walk_at "ife"
      refine w_isEE TE.i_StampBack (fun u r => r) h1 TE.k_s4 ?_
      walk_at "go"
      refine w_xf ?_
      walk_at "go"
      refine ⟨rfl, rfl, dd, _, _, rfl, h1, lk_same, ?_⟩
      walk_at "go"
      refine ⟨sz (by show 2 ≤ _; decide), w_alc fun o H2 e2 n2 h2 => ?_⟩
      exact same0 (.inl ⟨.inl hx, rfl⟩) o H2 (e1.trans e2) (e1.free n2) (.inl ⟨hx, h2⟩) (fresh2 h2)
    · intro dd b H1 e1 h1 hb
      refine ⟨false, TE.n_Mismatch_NoMoment, (fun z => nomatch z), fun _ => ⟨true, TE.t_Mismatch, fun _ a na => ?_, fun z => nomatch z⟩⟩
      dsimp only [behindAs]
      walk_at "go"; walk_at "ife"
      refine w_isEE TE.i_Mismatch (fun u r => r) h1 TE.k_s3 ?_
      walk_at "go"
      refine w_xf ?_
      walk_at "go"
      refine ⟨rfl, rfl, dd, _, _, rfl, h1, lk_same, ?_⟩
      walk_at "go"
      refine ⟨sz (by show 2 ≤ _; decide), w_alc fun o H2 e2 n2 h2 => ?_⟩
      exact same0 (.inl ⟨.inr ⟨m, hm.1⟩, rfl⟩) o H2 (e1.trans e2) (e1.free n2) (.inr (.inl ⟨hx, m, hm, b, h2, e2.tup hb⟩)) (fresh2 h2)
    · walk_at "go"
      refine ⟨sz (by show 1 ≤ _; decide), w_alc fun o H2 e2 n2 h2 => ?_⟩
      exact k o sl pl _ F' H2 (e1.trans e2.up) (hJ1.ext0 e2) hF (.inr ⟨hx, hw, rfl⟩) (.inl ⟨rfl, rfl⟩) (e1.free n2) (.inr (.inr ⟨hx, hw, h2⟩)) (fresh1 h2 fun r z => nomatch z) fun z => z.elim
theorem w_told {CI : Addr} {H : Hp} {U : List Zk.Slot} {j sl pl q : Addr} {J : Jr} {X : Qn} {F : List Addr} {Q : VK} {E : XK} (hU : U.length ≤ 1000) (hJ : JAtF CI U H j sl pl J F) (ok : JOk J) (n5 : J.n ≤ 500) (hq : QAt U H q X)
    (k : ∀ o sl' pl' J' F' H', Ext [j, sl, pl] H H' → JAtF CI U H' j sl' pl' J' F' → (∀ a ∈ F', a ∈ F ∨ H a = none) → After J X J' → (sl' = sl ∧ pl' = pl ∨ H sl' = none ∧ H pl' = none) → H o = none → Ans U J H' o X → Fresh H H' o → (isR X → Ext [] H H' ∧ sl' = sl ∧ pl' = pl ∧ F' = F) → Q (.ref o) H') : sp_law_told CI K ([.ref j, .ref q] ++ []) H Q E :=
  ⟨_, _, rfl, U, j, sl, pl, q, J, X, rfl, rfl, hU, F, hJ, ok, n5, hq, k⟩

/-! ### the model goes on -/
def Suc (J : Jr) : Qn → Jr → Prop
  | .add x D, J' => ¬ x < lastSt J ∧ (∀ s, ¬ wrA (J.g J.n) D s) ∧ J' = J.add x D
  | .cut p, J' => ∃ c : Nat, p = J.b + c ∧ c ≤ J.n ∧ J' = J.cut c
  | _, J' => J' = J
def sp_law_settle (K : PySem.W.Frag) : Sp := sp2 fun a b H Q => ∃ (U : List Zk.Slot) (mo ml q : Addr) (J J' : Jr) (X : Qn), a = .ref mo ∧ b = .ref q ∧ Pln U ∧ ∃ F, MoAtF U H mo ml J F ∧ JOk J ∧ J.n ≤ 500 ∧ QAt U H q X ∧ Suc J X J' ∧ ∀ ml' F' H', Ext [mo] H H' → (ml' = ml ∨ H ml' = none) → MoAtF U H' mo ml' J' F' → (∀ a ∈ F', a ∈ F ∨ H a = none) → Q .non H'
theorem ok_law_settle (T : Txt K mg) : FnOk P w K mg base CX0 2 T.f__law_settle T.d__law_settle ["model", "question"] (sp_law_settle K) := by
  refine T.F__law_settle.ok sc_law_settle len2 (fun cdv A outer s H vs Q E hr h => ?_)
  have nd := sc_law_settle.nd
  have hu := hu_of hr
  obtain ⟨_, _, rfl, U, mo, ml, q, J, J', X, rfl, rfl, hU, F, hM, ok, n5, hq, hs, k⟩ := h
  refine ⟨_,
      (pss_cons (ps_if (pt_cmpR op_eq (pe_ix ix_tup (pv 1) pe_int (fun _ _ => rfl)) pe_str (nomark _)) 
        (pss_cons (ps_set (i := 2) nd rfl (Or.inl rfl) (pe_ix ix_list (pe_call (ok_law_applied T) (hr.mono (by decide)) (by rfl) T.g__law_applied T.F__law_applied.kp T.k__law_applied .nil pass0 (pa_cons (pe_ix ix_tup (pe_ix ix_list (pe_ix ix_list (pv 0) pe_int (fun _ _ => rfl)) (pe_un un_neg pe_int) (fun _ _ => rfl)) pe_int (fun _ _ => rfl)) (pa_cons (pe_ix ix_tup (pv 1) pe_int (fun _ _ => rfl)) pa_nil))) pe_int (fun _ _ => rfl))) 
        (pss_one (ps_asg (pe_op zop_cat (pe_ix ix_list (pv 0) pe_int (fun _ _ => rfl)) (pe_lstZ (pa_cons (pe_tupZ (pa_cons (pe_ix ix_tup (pv 1) pe_int (fun _ _ => rfl)) (pa_cons (pv 2) pa_nil))) pa_nil))) (pg_sub (pv 0) pe_int zset_list)))) pss_nil) 
      (pss_one (ps_if (pt_cmpR op_eq (pe_ix ix_tup (pv 1) pe_int (fun _ _ => rfl)) pe_str (nomark _)) 
        (pss_cons (ps_asg (pe_slice sl_list (pe_ix ix_list (pv 0) pe_int (fun _ _ => rfl)) (po_some (pe_op op_sub (pe_ix ix_tup (pv 1) pe_int (fun _ _ => rfl)) (pe_ix ix_list (pv 0) pe_int (fun _ _ => rfl)))) po_none) (pg_sub (pv 0) pe_int zset_list)) 
        (pss_one (ps_asg (pe_ix ix_tup (pv 1) pe_int (fun _ _ => rfl)) (pg_sub (pv 0) pe_int zset_list)))) pss_nil))), ?_⟩
  change (_ : TS) _ [some _, some _, none] _
  try dsimp only [cxOf, Cx.nox, Cx.wish]
  have no_ : ∀ {x : Addr}, x ∉ ([] : List Addr) := List.not_mem_nil
  have hmo := hM.ob
  have nml := hM.ne
  obtain ⟨ts, hml, lts, hst⟩ := hM.st
  have ndm : ∀ {a : Addr} {f : Fd}, DM U H a f → a ≠ mo := fun h z => by
    obtain ⟨kv, ks, h, _⟩ := h
    rw [z, hmo] at h; cases h
  cases X with
  | add x D =>
    obtain ⟨dq, htq, hdq, od⟩ := hq
    obtain ⟨hx, hw, rfl⟩ := hs
    obtain ⟨t, d, y, a1, a2, a3, a4, a5⟩ := hst J.n (by omega)
    walk_at "go"; walk_at "if"
    refine w_t (by decide +kernel) ?_
    walk_at "go"
    refine w_ixL (sql hml) (at_last a1 (by rw [List.length_map, lts])) ?_
    walk_at "go"
    refine w_lapp hU a4 hdq (ok.sg _) od fun o H2 e2 no hres => ?_
    rcases hres with ⟨_, r, ho, hr, nr⟩ | ⟨m, lm, _⟩
    · have hml2 := e2.keep _ _ hml no_
      have hmo2 := e2.keep _ _ hmo no_
      have htq2 := e2.tup htq
      walk_at "go"
      refine ⟨sz (by show 2 ≤ _; decide), w_alc fun t2 H3 e3 n3 h3 => ?_⟩
      walk_at "go"
      refine ⟨sz (by show 1 ≤ _; decide), w_alc fun l1 H4 e4 n4 h4 => ?_⟩
      have e24 := e3.trans e4
      refine w_cat (e24.keep _ _ hml2 no_) h4 (by rw [List.length_map, lts]; exact sz (by show J.n + 1 + 1 ≤ 1000000; omega)) (w_alc fun l2 H5 e5 n5' h5 => ?_)
      rw [← List.map_singleton (f := V.ref), ← List.map_append] at h5
      have e05 := (e2.trans e24).trans e5
      have hmo5 := e05.keep _ _ hmo no_
      walk_at "go"
      refine w_chg hmo5 (fun z => z) fun H6 e6 h6 => ?_
      change H6 mo = some (.lst [.int J.b, .ref l2]) at h6
      have nl2 : l2 ≠ mo := (ne_of_none (e4.keep _ _ (e3.keep _ _ hmo2 no_) no_) n5').symm
      have htq6 : H6 q = some (.tup [.str sAdd, .int x, .ref dq]) := e6.tup (e05.tup htq)
      walk_at "go"; walk_at "if"
      refine w_f (by decide +kernel) ?_
      walk_at "go"
      have e06 : Ext [mo] H H6 := e05.up.trans e6
      refine k l2 (r :: F) H6 e06 (.inr ((e2.trans e24).free n5')) ⟨h6, nl2.symm, (fun a m => by
        rcases List.mem_cons.mp m with m | m
        · rw [m]; exact (dm_lv hr).elim fun o z => ((e24.trans e5).live r o z).elim fun o' z' => e6.live r o' z'
        · exact (hM.lv a m).elim fun o z => e06.live a o z), ts ++ [t2], e6.keep _ _ h5 (nm1 nl2), by rw [List.length_append, lts]; rfl, fun i hi => ?_⟩ fun a m => (List.mem_cons.mp m).elim (fun z => .inr (by rw [z]; exact nr)) .inl
      have hi' : i < J.n + 1 + 1 := hi
      by_cases z : i < J.n + 1
      · obtain ⟨t', d', y', b1, b2, b3, b4, b5⟩ := hst i z
        refine ⟨t', d', y', by rw [List.map_append, List.getElem?_append_left (by rw [List.length_map, lts]; exact z)]; exact b1, e06.tup b2, ?_, ?_, List.mem_cons_of_mem _ b5⟩
        · show (J.st ++ [x])[i]? = some y'
          rw [List.getElem?_append_left (by rw [ok.ls]; exact z)]; exact b3
        · show DM U H6 d' (if i ≤ J.n then J.g i else appF (J.g J.n) D)
          rw [if_pos (by omega)]
          exact b4.ext e06 (nm1 (ndm b4))
      · have ei : i = J.n + 1 := by omega
        subst ei
        have hr2 : r ≠ mo := fun z => by
          obtain ⟨kv, ks, h, _⟩ := hr
          rw [z, hmo2] at h; cases h
        refine ⟨t2, r, x, by rw [List.map_append]; exact get_snoc (by rw [List.length_map]; exact lts), e6.tup (e5.tup (e4.tup h3)), ?_, ?_, List.mem_cons_self⟩
        · show (J.st ++ [x])[J.n + 1]? = some x
          exact get_snoc ok.ls
        · show DM U H6 r ((J.add x D).g (J.n + 1))
          rw [J.add_gl]
          exact (hr.ext (e24.trans e5) no_).ext e6 (nm1 hr2)
    · exact absurd lm.1 (hw m)
  | cut x =>
    have htq : H q = some (.tup [.str sCut, .int x]) := hq
    obtain ⟨c, ec, cn, rfl⟩ := hs
    walk_at "go"; walk_at "if"
    refine w_f (by decide +kernel) ?_
    walk_at "go"; walk_at "if"
    refine w_t (by decide +kernel) ?_
    walk_at "go"
    refine ⟨_, rfl, ?_⟩
    walk_at "go"
    refine w_slL (sql hml) (w_alc fun l2 H2 e2 n2 h2 => ?_)
    rw [show x - J.b = (c : Int) by omega, cutV_drop (by rw [List.length_map, lts]; omega), ← List.map_drop] at h2
    have hmo2 := e2.keep _ _ hmo no_
    have nl2 : l2 ≠ mo := (ne_of_none hmo n2).symm
    walk_at "go"
    refine w_chg hmo2 (fun z => z) fun H3 e3 h3 => ?_
    change H3 mo = some (.lst [.int J.b, .ref l2]) at h3
    have htq3 : H3 q = some (.tup [.str sCut, .int x]) := e3.tup (e2.tup htq)
    walk_at "go"
    refine w_chg h3 (fun z => z) fun H4 e4 h4 => ?_
    change H4 mo = some (.lst [.int x, .ref l2]) at h4
    have e24 : Ext [mo] H2 H4 := e3.trans e4
    have e04 : Ext [mo] H H4 := e2.up.trans e24
    refine k l2 F H4 e04 (.inr n2) ⟨?_, nl2.symm, (fun a m => (hM.lv a m).elim fun o z => e04.live a o z), ts.drop c, e24.keep _ _ h2 (nm1 nl2), ?_, fun i hi => ?_⟩ fun a m => .inl m
    · show H4 mo = some (.lst [.int (J.b + c), .ref l2])
      rw [← ec]; exact h4
    · rw [List.length_drop, lts]
      show J.n + 1 - c = J.n - c + 1
      omega
    · have hi' : i < J.n - c + 1 := hi
      obtain ⟨t', d', y', b1, b2, b3, b4, b5⟩ := hst (c + i) (by omega)
      refine ⟨t', d', y', by rw [List.map_drop, List.getElem?_drop]; exact b1, e04.tup b2, ?_, b4.ext e04 (nm1 (ndm b4)), b5⟩
      show (J.st.drop c)[i]? = some y'
      rw [List.getElem?_drop]; exact b3
  | slots x =>
    have htq : H q = some (.tup [.str sSlo, .int x]) := hq
    cases hs
    walk_at "go"; walk_at "if"
    refine w_f (by decide +kernel) ?_
    walk_at "go"; walk_at "if"
    refine w_f (by decide +kernel) ?_
    walk_at "go"
    exact k ml F H Ext.refl (.inl rfl) hM fun a m => .inl m
  | recd x =>
    have htq : H q = some (.tup [.str sRec, .int x]) := hq
    cases hs
    walk_at "go"; walk_at "if"
    refine w_f (by decide +kernel) ?_
    walk_at "go"; walk_at "if"
    refine w_f (by decide +kernel) ?_
    walk_at "go"
    exact k ml F H Ext.refl (.inl rfl) hM fun a m => .inl m
  | btw x z =>
    have htq : H q = some (.tup [.str sBtw, .int x, .int z]) := hq
    cases hs
    walk_at "go"; walk_at "if"
    refine w_f (by decide +kernel) ?_
    walk_at "go"; walk_at "if"
    refine w_f (by decide +kernel) ?_
    walk_at "go"
    exact k ml F H Ext.refl (.inl rfl) hM fun a m => .inl m
theorem w_settle {H : Hp} {U : List Zk.Slot} {mo ml q : Addr} {J J' : Jr} {X : Qn} {F : List Addr} {Q : VK} {E : XK} (hU : Pln U) (hM : MoAtF U H mo ml J F) (ok : JOk J) (n5 : J.n ≤ 500) (hq : QAt U H q X) (hs : Suc J X J') (k : ∀ ml' F' H', Ext [mo] H H' → (ml' = ml ∨ H ml' = none) → MoAtF U H' mo ml' J' F' → (∀ a ∈ F', a ∈ F ∨ H a = none) → Q .non H') : sp_law_settle K ([.ref mo, .ref q] ++ []) H Q E :=
  ⟨_, _, rfl, U, mo, ml, q, J, J', X, rfl, rfl, hU, F, hM, ok, n5, hq, hs, k⟩
def sp_law_position_at (K : PySem.W.Frag) : Sp := sp2 fun a b H Q => ∃ (U : List Zk.Slot) (mo ml : Addr) (J : Jr) (x : Int), a = .ref mo ∧ b = .int x ∧ MoAt U H mo ml J ∧ JOk J ∧ J.n ≤ 500 ∧ Q (pAt J.b x J.st J.st.length) H
theorem ok_law_position_at (T : Txt K mg) : FnOk P w K mg base CX0 1 T.f__law_position_at T.d__law_position_at ["model", "stamp"] (sp_law_position_at K) := by
  refine T.F__law_position_at.ok sc_law_position_at len2 (fun cdv A outer s H vs Q E hr h => ?_)
  have nd := sc_law_position_at.nd
  have hu := hu_of hr
  obtain ⟨_, _, rfl, U, mo, ml, J, x, rfl, rfl, hM, ok, n5, k⟩ := h
  refine ⟨_,
      (pss_cons (ps_set (i := 2) nd rfl (Or.inl rfl) pe_non) 
      (pss_cons (ps_for PassesOwn.never rfl (pi_range1 (by rfl) T.b_range (pa_cons (pe_callB zc_len (by rfl) T.b_len (by decide +kernel) (pa_cons (pe_ix ix_list (pv 0) pe_int (fun _ _ => rfl)) pa_nil)) pa_nil)) (pg_name (i := 3) nd rfl (Or.inl rfl)) 
        (pss_one (ps_if (pt_cmpR op_le (pe_ix ix_tup (pe_ix ix_list (pe_ix ix_list (pv 0) pe_int (fun _ _ => rfl)) (pv 3) (fun _ _ => rfl)) pe_int (fun _ _ => rfl)) (pv 1) (nomark _)) 
          (pss_one (ps_set (i := 2) nd rfl (Or.inl rfl) (pe_op op_add (pe_ix ix_list (pv 0) pe_int (fun _ _ => rfl)) (pv 3)))) pss_nil))) 
      (pss_one (ps_ret (pv 2))))), ?_⟩
  change (_ : TS) _ [some _, some _, none, none] _
  try dsimp only [cxOf, Cx.nox, Cx.wish]
  have hmo := hM.ob
  obtain ⟨ts, hml, lts, hst⟩ := hM.at
  walk_at "go"
  refine ⟨_, rfl, by rw [List.length_map]; omega, by rw [List.length_map]; omega, ?_⟩
  rw [Int.toNat_natCast, List.length_map, lts]
  rw [ok.ls] at k
  refine z_for_range (lo := 0) (fun i σ' H' => H = H' ∧ ∃ u, σ' = [some (.ref mo), some (.int x), some (pAt J.b x J.st i), u]) ⟨rfl, _, rfl⟩ ?_ ?_
  · rintro N i σ' _ hi ⟨rfl, u, rfl⟩ hN
    obtain ⟨t', d', y', b1, b2, b3, b4⟩ := hst i hi
    walk_at "go"; walk_at "if"
    refine w_ixL (sql hml) (at_int b1 (by omega)) ?_
    walk_at "go"
    have e : pAt J.b x J.st (i + 1) = if y' ≤ x then .int (J.b + i) else pAt J.b x J.st i := by
      show (if (J.st[i]?).getD 0 ≤ x then _ else _) = _
      rw [b3]; rfl
    refine w_d (fun h => ?_) fun h => ?_
    · walk_at "go"
      refine hN _ _ ⟨rfl, some (.int (0 + i)), ?_⟩
      rw [e, if_pos h, Int.zero_add]; rfl
    · walk_at "go"
      refine hN _ _ ⟨rfl, some (.int (0 + i)), ?_⟩
      rw [e, if_neg h]; rfl
  · rintro σ' _ ⟨rfl, u, rfl⟩
    walk_at "go"
    exact k
theorem pAt_im {H : Hp} {b x : Int} {st : List Int} : ∀ i, ∃ d : PyData, d.depth = 0 ∧ Im H (pAt b x st i) d
  | 0 => ⟨.none, by simp [PyData.depth], .non⟩
  | i + 1 => by
    unfold pAt
    by_cases h : (st[i]?).getD 0 ≤ x
    · rw [if_pos h]; exact ⟨.int _, by simp [PyData.depth], .int _⟩
    · rw [if_neg h]; exact pAt_im i

/-! ### a question that is drawn -/
open Classical in
noncomputable def dBt (f g : Fd) : Df := fun s => if f s = g s then none else some (f s, g s)
theorem dF_bt (f g : Fd) : dF (dBt f g) = btwF f g := by
  funext s
  show dF (dBt f g) s = btw (f s) (g s)
  unfold dF dBt
  by_cases h : f s = g s
  · rw [if_pos h, btw_eq h]; rfl
  · rw [if_neg h, btw_ne h]; rfl
theorem bt_ok {f g : Fd} (sf : Stt f) (sg : Stt g) : DOk (dBt f g) := fun s p h => by
  unfold dBt at h
  by_cases e : f s = g s
  · rw [if_pos e] at h; cases h
  · rw [if_neg e] at h; cases h; exact ⟨sf s, sg s, e⟩
def sp_law_question (K : PySem.W.Frag) : Sp := sp4 fun a b c e H Q => ∃ (U : List Zk.Slot) (p o mo ml : Addr) (bs : List Addr) (ss : List Zk.Slot) (lg : Bool) (J : Jr), a = .ref p ∧ b = .ref o ∧ c = .ref mo ∧ e = .bl lg ∧ Pln U ∧ PoolAt K H p ∧ H o = some (.lst (bs.map V.ref)) ∧ o ≠ p ∧ SlotsAt H bs ss ∧ 1 ≤ ss.length ∧ ss.length ≤ 200 ∧ (∀ s ∈ ss, s ∈ U) ∧
  MoAt U H mo ml J ∧ JOk J ∧ J.n ≤ 500 ∧ mo ≠ p ∧ ml ≠ p ∧ ∀ q X H', Ext [p] H H' → PoolAt K H' p → H q = none → QAt U H' q X → (∀ x z d, H' q = some (.tup [.str z, .int x, .ref d]) → H d = none) → (∀ x D, X = .add x D → 0 ≤ x ∧ (x ≤ lastSt J + 1000 ∨ x ≤ 0)) → Q (.ref q) H'
theorem ok_law_question (T : Txt K mg) : FnOk P w K mg base CX0 9 T.f__law_question T.d__law_question ["pool", "slots", "model", "long"] (sp_law_question K) := by
  refine T.F__law_question.ok sc_law_question len4 (fun cdv A outer s H vs Q E hr h => ?_)
  have nd := sc_law_question.nd
  have hu := hu_of hr
  obtain ⟨_, _, _, _, rfl, U, p, o, mo, ml, bs, ss, lg, J, rfl, rfl, rfl, rfl, hU, hP, ho, nop, hss, l1, l8, hsU, hM, ok, n5, nmo, nml, k⟩ := h
  refine ⟨_,
      (pss_cons (ps_set (i := 4) nd rfl (Or.inl rfl) (pe_call (ok_law_draw T) (hr.mono (by decide)) (by rfl) T.g__law_draw T.F__law_draw.kp T.k__law_draw .nil pass0 (pa_cons (pv 0) (pa_cons pe_int pa_nil)))) 
      (pss_cons (ps_if (PW.pt (pw_and (pt_val (pv 3)) (pw_and1 (PW.pt (pw_or (pt_cmpR op_eq (pv 4) pe_int (nomark _)) (pw_or1 (pt_cmpR op_eq (pv 4) pe_int (nomark _)))))))) 
        (pss_one (ps_set (i := 4) nd rfl (Or.inl rfl) pe_int)) pss_nil) 
      (pss_cons (ps_set (i := 5) nd rfl (Or.inl rfl) (pe_op op_add (pe_callB zc_len (by rfl) T.b_len (by decide +kernel) (pa_cons (pe_ix ix_list (pv 2) pe_int (fun _ _ => rfl)) pa_nil)) pe_int)) 
      (pss_cons (ps_set (i := 6) nd rfl (Or.inl rfl) (pe_callB (call_max2 rfl) (by rfl) T.b_max (by decide +kernel) (pa_cons pe_int (pa_cons (pe_op op_add (pe_op op_sub (pe_ix ix_list (pv 2) pe_int (fun _ _ => rfl)) pe_int) (pe_call (ok_law_draw T) (hr.mono (by decide)) (by rfl) T.g__law_draw T.F__law_draw.kp T.k__law_draw .nil pass0 (pa_cons (pv 0) (pa_cons (pv 5) pa_nil)))) pa_nil)))) 
      (pss_cons (ps_if (pt_cmpR op_lt (pv 4) pe_int (nomark _)) 
        (pss_cons (ps_set (i := 7) nd rfl (Or.inl rfl) (pe_ix ix_tup (pe_ix ix_list (pe_ix ix_list (pv 2) pe_int (fun _ _ => rfl)) (pe_un un_neg pe_int) (fun _ _ => rfl)) pe_int (fun _ _ => rfl))) 
        (pss_cons (ps_set (i := 8) nd rfl (Or.inl rfl) (pe_callB (call_max2 rfl) (by rfl) T.b_max (by decide +kernel) (pa_cons pe_int (pa_cons (pe_op op_add (pe_ix ix_tup (pe_ix ix_list (pe_ix ix_list (pv 2) pe_int (fun _ _ => rfl)) (pe_un un_neg pe_int) (fun _ _ => rfl)) pe_int (fun _ _ => rfl)) (pe_call (ok_law_pick T) (hr.mono (by decide)) (by rfl) T.g__law_pick T.F__law_pick.kp T.k__law_pick .nil pass0 (pa_cons (pv 0) (pa_cons (pe_lstZ (pa_cons pe_int (pa_cons pe_int (pa_cons pe_int (pa_cons pe_int (pa_cons pe_int (pa_cons (pe_un un_neg pe_int) pa_nil))))))) pa_nil)))) pa_nil)))) 
        (pss_cons (ps_if (pt_cmpR op_eq (pv 4) pe_int (nomark _)) 
          (pss_one (ps_set (i := 7) nd rfl (Or.inl rfl) (pe_call (ok_law_moved T) (hr.mono (by decide)) (by rfl) T.g__law_moved T.F__law_moved.kp T.k__law_moved .nil pass0 (pa_cons (pv 0) (pa_cons (pv 1) (pa_cons pe_dnewTZ (pa_cons pe_int pa_nil))))))) pss_nil) 
        (pss_one (ps_ret (pe_tupZ (pa_cons pe_str (pa_cons (pv 8) (pa_cons (pe_call (ok_law_between T) (hr.mono (by decide)) (by rfl) T.g__law_between T.F__law_between.kp T.k__law_between .nil pass0 (pa_cons (pv 7) (pa_cons (pe_call (ok_law_moved T) (hr.mono (by decide)) (by rfl) T.g__law_moved T.F__law_moved.kp T.k__law_moved .nil pass0 (pa_cons (pv 0) (pa_cons (pv 1) (pa_cons (pv 7) (pa_cons pe_int pa_nil))))) pa_nil))) pa_nil))))))))) pss_nil) 
      (pss_cons (ps_if (pt_cmpR op_eq (pv 4) pe_int (nomark _)) 
        (pss_one (ps_ret (pe_tupZ (pa_cons pe_str (pa_cons (pv 6) pa_nil))))) pss_nil) 
      (pss_cons (ps_if (pt_cmpR op_eq (pv 4) pe_int (nomark _)) 
        (pss_one (ps_ret (pe_tupZ (pa_cons pe_str (pa_cons (pv 6) pa_nil))))) pss_nil) 
      (pss_cons (ps_if (pt_cmpR op_eq (pv 4) pe_int (nomark _)) 
        (pss_one (ps_ret (pe_tupZ (pa_cons pe_str (pa_cons (pv 6) pa_nil))))) pss_nil) 
      (pss_one (ps_ret (pe_tupZ (pa_cons pe_str (pa_cons (pv 6) (pa_cons (pe_callB (call_max2 rfl) (by rfl) T.b_max (by decide +kernel) (pa_cons pe_int (pa_cons (pe_op op_add (pe_op op_sub (pe_ix ix_list (pv 2) pe_int (fun _ _ => rfl)) pe_int) (pe_call (ok_law_draw T) (hr.mono (by decide)) (by rfl) T.g__law_draw T.F__law_draw.kp T.k__law_draw .nil pass0 (pa_cons (pv 0) (pa_cons (pv 5) pa_nil)))) pa_nil))) pa_nil)))))))))))))), ?_⟩
  change (_ : TS) _ [some _, some _, some _, some _, none, none, none, none, none] _
  try dsimp only [cxOf, Cx.nox, Cx.wish]
  have no_ : ∀ {x : Addr}, x ∉ ([] : List Addr) := List.not_mem_nil
  have pl_ : ∀ {H' : Hp}, PoolAt K H' p → ∀ x ∈ [p], ∀ kvs, H' x ≠ some (.dT kvs) := fun hP x m kvs h => by
    obtain ⟨sc, ns, pl, re, fi, h1, _⟩ := hP
    rw [List.mem_singleton.mp m, h1] at h; cases h
  have mp_ : ∀ x ∈ [p], x ≠ mo ∧ x ≠ ml := fun x m => by rw [List.mem_singleton.mp m]; exact ⟨nmo.symm, nml.symm⟩
  walk_at "go"
  refine w_draw hP (by decide) (by decide) fun c0 H1 c1 c2 e1 P1 => ?_
  have M1 := hM.ext e1 mp_ (pl_ hP)
  walk_at "go"
  refine w_cut (fun σ' H' => H1 = H' ∧ ∃ c : Int, 0 ≤ c ∧ c < 9 ∧ σ' = [some (.ref p), some (.ref o), some (.ref mo), some (.bl lg), some (.int c), none, none, none, none]) ?_ fun nx hn => ?_
  · rintro _ _ ⟨rfl, c, c3, c4, rfl⟩
    have hmo1 := M1.ob
    obtain ⟨ts, hml1, lts, hst⟩ := M1.at
    walk_at "go"
    rw [List.length_map, lts]
    refine w_draw P1 (by omega) (by omega) fun y H2 y1 y2 e2 P2 => ?_
    walk_at "go"
    refine ⟨0, _, rfl, ?_⟩
    have M2 := M1.ext e2 mp_ (pl_ P1)
    have hmo2 := M2.ob
    obtain ⟨ts2, hml2, lts2, hst2⟩ := M2.at
    have e02 : Ext [p] H H2 := e1.trans e2
    have ho2 := e02.keep _ _ ho (nm1 nop)
    have hs2 := hss.ext e02
    generalize hone : (if (J.b - 1 + y : Int) > 0 then (J.b - 1 + y : Int) else 0) = one
    walk_at "go"
    try rw [hone]
    refine w_cut (fun σ' H' => H2 = H' ∧ ∃ sp : Int, 0 < sp ∧ sp ≤ 600 ∧ σ' = [some (.ref p), some (.ref o), some (.ref mo), some (.bl lg), some (.int c), some (.int sp), some (.int one), none, none]) ?_ fun nx hn => ?_
    · rintro _ _ ⟨rfl, sp, sp1, sp2, rfl⟩
      have tup2 : ∀ {z : Str} {X : Qn} {t : Addr} {H' : Hp}, (∀ x D, X ≠ .add x D) → Ext [] H2 H' → H2 t = none → H' t = some (.tup [.str z, .int one]) → (QAt U H' t X) → Q (.ref t) H' := fun {z X t H'} na e n h hq =>
        k t X H' (e02.trans e.up) (P2.ext e no_) (e02.free n) hq (fun x z' d h' => by rw [h] at h'; cases h') fun x D z => absurd z (na x D)
      walk_at "go"; walk_at "if"
      refine w_d (fun h => ?_) fun h => ?_
      · walk_at "go"
        refine ⟨sz (by show 2 ≤ _; decide), w_alc fun t H3 e3 n3 h3 => ?_⟩
        exact tup2 (X := .cut one) (fun _ _ z => nomatch z) e3 n3 h3 h3
      · walk_at "go"; walk_at "if"
        refine w_d (fun h => ?_) fun h => ?_
        · walk_at "go"
          refine ⟨sz (by show 2 ≤ _; decide), w_alc fun t H3 e3 n3 h3 => ?_⟩
          exact tup2 (X := .recd one) (fun _ _ z => nomatch z) e3 n3 h3 h3
        · walk_at "go"; walk_at "if"
          refine w_d (fun h => ?_) fun h => ?_
          · walk_at "go"
            refine ⟨sz (by show 2 ≤ _; decide), w_alc fun t H3 e3 n3 h3 => ?_⟩
            exact tup2 (X := .slots one) (fun _ _ z => nomatch z) e3 n3 h3 h3
          · walk_at "go"
            refine w_draw P2 (by omega) (by omega) fun w H3 w0 w1 e3 P3 => ?_
            walk_at "go"
            refine ⟨0, _, rfl, ?_⟩
            generalize (if (J.b - 1 + w : Int) > 0 then (J.b - 1 + w : Int) else 0) = two
            walk_at "go"
            refine ⟨sz (by show 3 ≤ _; decide), w_alc fun t H4 e4 n4 h4 => ?_⟩
            refine k t (.btw one two) H4 ((e02.trans e3).trans e4.up) (P3.ext e4 no_) ((e02.trans e3).free n4) h4 (fun x z' d h' => by rw [h4] at h'; cases h') (fun x D z => nomatch z)
    · obtain ⟨t, d, x, a1, a2, a3, a4⟩ := hst2 J.n (by omega)
      walk_at "if"
      refine w_d (fun h => ?_) fun h => ?_
      · walk_at "go"
        refine w_ixL (sql hml2) (at_last a1 (by rw [List.length_map, lts2])) ?_
        walk_at "go"
        refine w_ixL (sql hml2) (at_last a1 (by rw [List.length_map, lts2])) ?_
        walk_at "go"
        refine ⟨sz (by show 6 ≤ _; decide), w_alc fun o3 H3 e3 n3 h3 => ?_⟩
        walk_at "go"
        have P3 := P2.ext e3 no_
        refine w_pick P3 h3 (P2.ne n3).symm (by decide) (by decide) fun v H4 hv e4 P4 => ?_
        obtain ⟨w, rfl, wb⟩ : ∃ n : Int, v = .int n ∧ n ≤ 1000 := by
          simp only [List.mem_cons, List.not_mem_nil, or_false] at hv
          rcases hv with rfl | rfl | rfl | rfl | rfl | rfl <;> exact ⟨_, rfl, by decide⟩
        walk_at "go"
        refine ⟨0, _, rfl, ?_⟩
        have ex : x = lastSt J := by rw [lastSt_at ok] at a3; cases a3; rfl
        have hstp : 0 ≤ (if (x + w : Int) > 0 then (x + w : Int) else 0) ∧ ((if (x + w : Int) > 0 then (x + w : Int) else 0) ≤ lastSt J + 1000 ∨ (if (x + w : Int) > 0 then (x + w : Int) else 0) ≤ 0) := by
          by_cases z : (x + w : Int) > 0
          · rw [if_pos z]; exact ⟨by omega, .inl (by omega)⟩
          · rw [if_neg z]; exact ⟨by omega, .inr (by omega)⟩
        generalize (if (x + w : Int) > 0 then (x + w : Int) else 0) = stp at hstp ⊢
        walk_at "go"
        have e24 : Ext [p] H2 H4 := e3.up.trans e4
        have e04 : Ext [p] H H4 := e02.trans e24
        have hd4 := (a4.ext e3 no_).ext e4 (nm1 (pd_ne P3 (a4.ext e3 no_)))
        have ho4 := e04.keep _ _ ho (nm1 nop)
        have hs4 := hss.ext e04
        refine w_cut (fun σ' H' => Ext [p] H4 H' ∧ PoolAt K H' p ∧ ∃ u st f, σ' = [some (.ref p), some (.ref o), some (.ref mo), some (.bl lg), some (.int c), u, some (.int one), some (.ref st), some (.int stp)] ∧ DM U H' st f ∧ Stt f) ?_ fun nx hn => ?_
        · rintro _ H5 ⟨e5, P5, u, st, f, rfl, hf, sf⟩
          have e05 := e04.trans e5
          walk_at "go"
          refine w_moved (by decide) (by decide) hU P5 (e05.keep _ _ ho (nm1 nop)) nop (hss.ext e05) l1 l8 hsU hf sf fun r g H6 e6 P6 nr hr sr => ?_
          walk_at "go"
          refine w_lbetween hU.1 (hf.ext e6 (nm1 (pd_ne P5 hf))) hr sf sr fun dq H7 e7 ndq hdq => ?_
          walk_at "go"
          refine ⟨sz (by show 3 ≤ _; decide), w_alc fun t' H8 e8 n8 h8 => ?_⟩
          have e06 := e05.trans e6
          have e07 : Ext [p] H H7 := e06.trans e7.up
          refine k t' (.add stp (dBt f g)) H8 (e07.trans e8.up) ((P6.ext e7 no_).ext e8 no_) (e07.free n8) ⟨dq, h8, ?_, bt_ok sf sr⟩ (fun x' z' d' h' => ?_) (fun x' D' z => by cases z; exact hstp)
          · rw [dF_bt]; exact hdq.ext e8 no_
          · rw [h8] at h'
            cases h'
            exact e06.free ndq
        · walk_at "if"
          refine w_d (fun h => ?_) fun h => ?_
          · walk_at "go"
            refine w_alc fun Z H5 e5 n5' h5 => ?_
            walk_at "go"
            have e05 : Ext [p] H H5 := e04.trans e5.up
            refine w_moved (by decide) (by decide) hU (P4.ext e5 no_) (e05.keep _ _ ho (nm1 nop)) nop (hss.ext e05) l1 l8 hsU (DM.nil h5) stt_none fun r g H6 e6 P6 nr hr sr => ?_
            exact hn _ _ ⟨e5.up.trans e6, P6, _, r, g, rfl, hr, sr⟩
          · walk_at "go"
            exact hn _ _ ⟨Ext.refl, P4, _, d, _, rfl, hd4, ok.sg _⟩
      · walk_at "go"
        exact hn _ _ ⟨rfl, _, by omega, by omega, rfl⟩
  · walk_at "if"
    cases lg with
    | false =>
      refine w_f rfl ?_
      walk_at "go"
      exact hn _ _ ⟨rfl, c0, c1, c2, rfl⟩
    | true =>
      refine w_t rfl ?_
      walk_at "go"
      refine w_d (fun h => ?_) fun h => ?_
      · walk_at "go"
        exact hn _ _ ⟨rfl, 1, by decide, by decide, rfl⟩
      · walk_at "go"
        refine w_d (fun h => ?_) fun h => ?_
        · walk_at "go"
          exact hn _ _ ⟨rfl, 1, by decide, by decide, rfl⟩
        · walk_at "go"
          exact hn _ _ ⟨rfl, c0, c1, c2, rfl⟩

/-! ### both agree -/
theorem w_question {H : Hp} {U : List Zk.Slot} {p o mo ml : Addr} {bs : List Addr} {ss : List Zk.Slot} {lg : Bool} {J : Jr} {Q : VK} {E : XK} (hU : Pln U) (hP : PoolAt K H p) (ho : H o = some (.lst (bs.map V.ref))) (nop : o ≠ p) (hss : SlotsAt H bs ss) (l1 : 1 ≤ ss.length) (l8 : ss.length ≤ 200) (hsU : ∀ s ∈ ss, s ∈ U)
    (hM : MoAt U H mo ml J) (ok : JOk J) (n5 : J.n ≤ 500) (nmo : mo ≠ p) (nml : ml ≠ p) (k : ∀ q X H', Ext [p] H H' → PoolAt K H' p → H q = none → QAt U H' q X → (∀ x z d, H' q = some (.tup [.str z, .int x, .ref d]) → H d = none) → (∀ x D, X = .add x D → 0 ≤ x ∧ (x ≤ lastSt J + 1000 ∨ x ≤ 0)) → Q (.ref q) H') : sp_law_question K ([.ref p, .ref o, .ref mo, .bl lg] ++ []) H Q E :=
  ⟨_, _, _, _, rfl, U, p, o, mo, ml, bs, ss, lg, J, rfl, rfl, rfl, rfl, hU, hP, ho, nop, hss, l1, l8, hsU, hM, ok, n5, nmo, nml, k⟩
def sp_law_agrees (CI : Addr) (K : PySem.W.Frag) : Sp := sp3 fun a b c H Q => ∃ (U : List Zk.Slot) (j sl pl mo ml : Addr) (J : Jr) (x : Int), a = .ref j ∧ b = .ref mo ∧ c = .int x ∧ Pln U ∧ JAt CI U H j sl pl J ∧ MoAt U H mo ml J ∧ JOk J ∧ J.n ≤ 500 ∧ ∀ H', Ext [] H H' → Q (.bl true) H'
theorem ok_law_agrees (T : Txt K mg) (TE : Errs P K mg) : FnOk P w K mg base CX0 9 T.f__law_agrees T.d__law_agrees ["journal", "model", "stamp"] (sp_law_agrees T.C_Journal K) := by
  refine T.F__law_agrees.ok sc_law_agrees len3 (fun cdv A outer s H vs Q E hr h => ?_)
  have nd := sc_law_agrees.nd
  have hu := hu_of hr
  obtain ⟨_, _, _, rfl, U, j, sl, pl, mo, ml, J, x, rfl, rfl, rfl, hU, hJ, hM, ok, n5, k⟩ := h
  refine ⟨_,
      (pss_cons (ps_set (i := 3) nd rfl (Or.inl rfl) (pe_op op_sub (pe_op op_add (pe_ix ix_list (pv 1) pe_int (fun _ _ => rfl)) (pe_callB zc_len (by rfl) T.b_len (by decide +kernel) (pa_cons (pe_ix ix_list (pv 1) pe_int (fun _ _ => rfl)) pa_nil))) pe_int)) 
      (pss_cons (ps_if (pt_not (pt_val (pe_call (ok_law_same T) (hr.mono (by decide)) (by rfl) T.g__law_same T.F__law_same.kp T.k__law_same .nil pass0 (pa_cons (pe_lstZ (pa_cons (pe_ix ix_list (pv 1) pe_int (fun _ _ => rfl)) (pa_cons (pv 3) pa_nil))) (pa_cons (pe_lstZ (pa_cons (pe_meth0 (pv 0) T.c_Journal T.m_Journal_start_position (ok_Journal_start_position T) (hr.mono (by decide)) T.k_Journal_start_position .nil pass0) (pa_cons (pe_meth0 (pv 0) T.c_Journal T.m_Journal_end_position (ok_Journal_end_position T) (hr.mono (by decide)) T.k_Journal_end_position .nil pass0) pa_nil))) pa_nil))))) 
        (pss_one (ps_ret pe_bl)) pss_nil) 
      (pss_cons (ps_if (pt_not (pt_val (pe_call (ok_law_same T) (hr.mono (by decide)) (by rfl) T.g__law_same T.F__law_same.kp T.k__law_same .nil pass0 (pa_cons (pe_call (ok_law_position_at T) (hr.mono (by decide)) (by rfl) T.g__law_position_at T.F__law_position_at.kp T.k__law_position_at .nil pass0 (pa_cons (pv 1) (pa_cons (pv 2) pa_nil))) (pa_cons (pe_meth (pv 0) T.c_Journal T.m_Journal_position_at (ok_Journal_position_at T) (hr.mono (by decide)) T.k_Journal_position_at .nil pass0 (pa_cons (pv 2) pa_nil)) pa_nil))))) 
        (pss_one (ps_ret pe_bl)) pss_nil) 
      (pss_cons (ps_for PassesOwn.never rfl (pi_list (pe_lstZ (pa_cons (pe_callB (call_max2 rfl) (by rfl) T.b_max (by decide +kernel) (pa_cons pe_int (pa_cons (pe_op op_sub (pe_ix ix_list (pv 1) pe_int (fun _ _ => rfl)) pe_int) pa_nil))) (pa_cons (pe_ix ix_list (pv 1) pe_int (fun _ _ => rfl)) (pa_cons (pv 3) (pa_cons (pe_op op_add (pv 3) pe_int) pa_nil)))))) (pg_name (i := 4) nd rfl (Or.inl rfl)) 
        (pss_one (ps_for PassesOwn.never rfl (pi_list (pe_lstZ (pa_cons (pe_tupZ (pa_cons pe_str (pa_cons (pv 4) pa_nil))) (pa_cons (pe_tupZ (pa_cons pe_str (pa_cons (pv 4) pa_nil))) (pa_cons (pe_tupZ (pa_cons pe_str (pa_cons (pv 3) (pa_cons (pv 4) pa_nil)))) pa_nil))))) (pg_name (i := 5) nd rfl (Or.inl rfl)) 
          (pss_one (ps_if (pt_not (pt_val (pe_call (ok_law_same T) (hr.mono (by decide)) (by rfl) T.g__law_same T.F__law_same.kp T.k__law_same .nil pass0 (pa_cons (pe_call (ok_law_due T) (hr.mono (by decide)) (by rfl) T.g__law_due T.F__law_due.kp T.k__law_due .nil pass0 (pa_cons (pv 1) (pa_cons (pv 5) pa_nil))) (pa_cons (pe_call (ok_law_told T TE) (hr.mono (by decide)) (by rfl) T.g__law_told T.F__law_told.kp T.k__law_told .nil pass0 (pa_cons (pv 0) (pa_cons (pv 5) pa_nil))) pa_nil))))) 
            (pss_one (ps_ret pe_bl)) pss_nil))))) 
      (pss_one (ps_ret pe_bl)))))), ?_⟩
  change (_ : TS) _ [some _, some _, some _, none, none, none] _
  try dsimp only [cxOf, Cx.nox, Cx.wish]
  have no_ : ∀ {x : Addr}, x ∉ ([] : List Addr) := List.not_mem_nil
  obtain ⟨dx, f, la, hj, hf, hl⟩ := id hJ.ob
  have hmo := hM.ob
  obtain ⟨ts, hml, lts, hst⟩ := hM.at
  have elen : J.b + ((ts.map V.ref).length : Int) - 1 = J.b + J.n := by rw [List.length_map, lts]; omega
  walk_at "go"
  rw [elen]
  walk_at "if"
  refine ⟨sz (by show 2 ≤ _; decide), w_alc fun o1 H1 e1 n1 h1 => ?_⟩
  have hj1 := e1.keep _ _ hj no_
  have J1 := hJ.ext0 e1
  walk_at "go"
  refine w_meth hj1 no_Journal_start_position ?_
  walk_at "go"
  refine ⟨_, rfl, U, j, sl, pl, J, rfl, J1, ?_⟩
  walk_at "go"
  refine w_meth hj1 no_Journal_end_position ?_
  walk_at "go"
  refine w_endp J1 ?_
  walk_at "go"
  refine ⟨sz (by show 2 ≤ _; decide), w_alc fun o2 H2 e2 n2 h2 => ?_⟩
  walk_at "go"
  refine w_same (U := U) (sq_flat (ds := [.int J.b, .int (J.b + J.n)]) (e2.keep _ _ h1 no_) h2 (.cons (.int _) (.cons (.int _) .nil)) (.cons (.int _) (.cons (.int _) .nil)) (by show 2 ≤ 1000; decide) (dp2 _ _ (by simp [PyData.depth]) (by simp [PyData.depth]))) fun H3 e3 => ?_
  have e03 := (e1.trans e2).trans e3
  have J3 := hJ.ext0 e03
  have M3 := hM.ext0 e03
  have hj3 := e03.keep _ _ hj no_
  walk_at "go"; walk_at "if"
  refine ⟨_, _, rfl, U, mo, ml, J, x, rfl, rfl, M3, ok, n5, ?_⟩
  walk_at "go"
  refine w_meth hj3 no_Journal_position_at ?_
  walk_at "go"
  refine ⟨_, _, rfl, U, j, sl, pl, J, x, rfl, rfl, J3, by rw [ok.ls]; omega, ?_⟩
  walk_at "go"
  obtain ⟨pd, pd0, pi⟩ := pAt_im (H := H3) (b := J.b) (x := x) (st := J.st) J.st.length
  refine w_same (U := U) (Sq.im (d := pd) (by rw [pd0]; decide) pi pi) fun H4 e4 => ?_
  have e04 := e03.trans e4
  have hmo4 := e04.keep _ _ hmo no_
  walk_at "go"
  refine ⟨0, _, rfl, ?_⟩
  generalize (if (J.b - 1 : Int) > 0 then (J.b - 1 : Int) else 0) = m0
  walk_at "go"
  refine ⟨sz (by show 4 ≤ _; decide), w_alc fun P H5 e5 n5' h5 => ?_⟩
  have e05 := e04.trans e5
  refine ⟨P, rfl, ⟨_, sql h5⟩, ?_⟩
  refine z_for_list (xs := [.int m0, .int J.b, .int (J.b + J.n), .int (J.b + J.n + 1)]) (fun i σ' H' => Ext [] H5 H' ∧ ∃ u v, σ' = [some (.ref j), some (.ref mo), some (.int x), some (.int (J.b + J.n)), u, v]) ⟨Ext.refl, _, _, rfl⟩ (fun i σ' H' _ ⟨e, _⟩ => sql (e.keep _ _ h5 no_)) ?_ ?_
  · rintro N i v σ' H6 hx ⟨e6, u, w, rfl⟩ hN
    obtain ⟨y, rfl⟩ : ∃ y : Int, v = .int y := by
      have m := List.mem_of_getElem? hx
      simp only [List.mem_cons, List.not_mem_nil, or_false] at m
      rcases m with rfl | rfl | rfl | rfl <;> exact ⟨_, rfl⟩
    walk_at "go"
    refine ⟨sz (by show 2 ≤ _; decide), w_alc fun t1 H7 e7 n7 h7 => ?_⟩
    walk_at "go"
    refine ⟨sz (by show 2 ≤ _; decide), w_alc fun t2 H8 e8 n8 h8 => ?_⟩
    walk_at "go"
    refine ⟨sz (by show 3 ≤ _; decide), w_alc fun t3 H9 e9 n9 h9 => ?_⟩
    walk_at "go"
    refine ⟨sz (by show 3 ≤ _; decide), w_alc fun L HA eA nA hA => ?_⟩
    have e6A := ((e7.trans e8).trans e9).trans eA
    have q1 : QAt U HA t1 (.slots y) := eA.tup (e9.tup (e8.tup h7))
    have q2 : QAt U HA t2 (.recd y) := eA.tup (e9.tup h8)
    have q3 : QAt U HA t3 (.btw (J.b + J.n) y) := eA.tup h9
    refine ⟨L, rfl, ⟨_, sql hA⟩, ?_⟩
    refine z_for_list (xs := [.ref t1, .ref t2, .ref t3]) (fun i σ' H' => Ext [] HA H' ∧ ∃ v, σ' = [some (.ref j), some (.ref mo), some (.int x), some (.int (J.b + J.n)), some (.int y), v]) ⟨Ext.refl, _, rfl⟩ (fun i σ' H' _ ⟨e, _⟩ => sql (e.keep _ _ hA no_)) ?_ ?_
    · rintro N' i' v σ' HB hx' ⟨eB, w', rfl⟩ hN'
      obtain ⟨t, X, rfl, hq, hR⟩ : ∃ t X, v = .ref t ∧ QAt U HA t X ∧ isR X := by
        have m := List.mem_of_getElem? hx'
        simp only [List.mem_cons, List.not_mem_nil, or_false] at m
        rcases m with rfl | rfl | rfl
        · exact ⟨t1, _, rfl, q1, trivial⟩
        · exact ⟨t2, _, rfl, q2, trivial⟩
        · exact ⟨t3, _, rfl, q3, trivial⟩
      have e0B := ((e05.trans e6).trans e6A).trans eB
      have qB := hq.ext eB fun _ m => nomatch m
      walk_at "go"; walk_at "if"
      refine w_due hU (hM.ext0 e0B) ok qB fun o HC eC nC aC => ?_
      walk_at "go"
      obtain ⟨FJ, hJF⟩ := hJ.ext0 (e0B.trans eC)
      refine w_told hU.1 hJF ok n5 (qB.ext eC fun _ m => nomatch m) fun o' sl' pl' J' F' HD _ _ _ _ _ nD aD _ hro => ?_
      obtain ⟨eD, _⟩ := hro hR
      walk_at "go"
      refine w_same ((aC.ext eD).same hU.1 ok aD) fun HE eE => ?_
      walk_at "go"
      exact hN' _ _ ⟨((eB.trans eC).trans eD).trans eE, _, rfl⟩
    · rintro σ' HB ⟨eB, w', rfl⟩
      exact hN _ _ ⟨(e6.trans e6A).trans eB, _, _, rfl⟩
  · rintro σ' H6 ⟨e6, u, w, rfl⟩
    walk_at "go"
    exact k H6 (e05.trans e6)
theorem w_agrees {CI : Addr} {H : Hp} {U : List Zk.Slot} {j sl pl mo ml : Addr} {J : Jr} {x : Int} {Q : VK} {E : XK} (hU : Pln U) (hJ : JAt CI U H j sl pl J) (hM : MoAt U H mo ml J) (ok : JOk J) (n5 : J.n ≤ 500) (k : ∀ H', Ext [] H H' → Q (.bl true) H') : sp_law_agrees CI K ([.ref j, .ref mo, .int x] ++ []) H Q E :=
  ⟨_, _, _, rfl, U, j, sl, pl, mo, ml, J, x, rfl, rfl, rfl, hU, hJ, hM, ok, n5, k⟩

/-! ### what is cleared behind a question -/
def Thing (H : Hp) (clr : List Addr) (v : V) : Prop := (∃ a, a ∈ clr ∧ v = .ref a) ∨ (∃ t ys, v = .ref t ∧ H t = some (.tup ys)) ∨ (∃ z, v = .str z) ∨ (∃ n, v = .int n) ∨ v = .non
theorem items_q {U : List Zk.Slot} {H : Hp} {q : Addr} : ∀ {X : Qn}, QAt U H q X → ∃ (qs : List V) (clr : List Addr), H q = some (.tup qs) ∧ qs.length ≤ 3 ∧ (∀ v ∈ qs, Thing H clr v) ∧ ∀ a ∈ clr, (∃ kvs, H a = some (.dT kvs)) ∧ (∃ z x, H q = some (.tup [.str z, .int x, .ref a])) ∧ ¬ isR X := by
  intro X h
  have two : ∀ (z : Str) (n : Int), ∀ v ∈ ([.str z, .int n] : List V), Thing H [] v := fun z n v m => by
    simp only [List.mem_cons, List.not_mem_nil, or_false] at m
    rcases m with rfl | rfl
    · exact .inr (.inr (.inl ⟨_, rfl⟩))
    · exact .inr (.inr (.inr (.inl ⟨_, rfl⟩)))
  cases X with
  | add x D =>
    obtain ⟨d, h, ⟨kvs, ks, hd, _⟩, _⟩ := h
    refine ⟨_, [d], h, Nat.le_refl _, fun v m => ?_, fun a m => ?_⟩
    · simp only [List.mem_cons, List.not_mem_nil, or_false] at m
      rcases m with rfl | rfl | rfl
      · exact .inr (.inr (.inl ⟨_, rfl⟩))
      · exact .inr (.inr (.inr (.inl ⟨_, rfl⟩)))
      · exact .inl ⟨d, List.mem_cons_self, rfl⟩
    · rw [List.mem_singleton.mp m]
      exact ⟨⟨kvs, hd⟩, ⟨_, _, h⟩, fun z => z⟩
  | recd p => exact ⟨_, [], h, by show 2 ≤ 3; decide, two _ _, fun _ m => nomatch m⟩
  | slots p => exact ⟨_, [], h, by show 2 ≤ 3; decide, two _ _, fun _ m => nomatch m⟩
  | cut p => exact ⟨_, [], h, by show 2 ≤ 3; decide, two _ _, fun _ m => nomatch m⟩
  | btw a b =>
    refine ⟨_, [], h, Nat.le_refl _, fun v m => ?_, fun _ m => nomatch m⟩
    simp only [List.mem_cons, List.not_mem_nil, or_false] at m
    rcases m with rfl | rfl | rfl
    · exact .inr (.inr (.inl ⟨_, rfl⟩))
    · exact .inr (.inr (.inr (.inl ⟨_, rfl⟩)))
    · exact .inr (.inr (.inr (.inl ⟨_, rfl⟩)))
theorem items_o {U : List Zk.Slot} {J : Jr} {H : Hp} {o : Addr} : ∀ {X : Qn}, Ans U J H o X → ∃ (ts : List V) (clr : List Addr), H o = some (.lst ts) ∧ ts.length ≤ 2 ∧ (∀ v ∈ ts, Thing H clr v) ∧ ∀ a ∈ clr, (∃ kvs, H a = some (.dT kvs)) ∧ H o = some (.lst [.ref a]) ∧ isR X := by
  intro X h
  have two : ∀ (z : Str) (n : Int), ∀ v ∈ ([.str z, .int n] : List V), Thing H [] v := fun z n v m => by
    simp only [List.mem_cons, List.not_mem_nil, or_false] at m
    rcases m with rfl | rfl
    · exact .inr (.inr (.inl ⟨_, rfl⟩))
    · exact .inr (.inr (.inr (.inl ⟨_, rfl⟩)))
  have one : ∀ (r : Addr), ∀ v ∈ ([.ref r] : List V), Thing H [r] v := fun r v m => by rw [List.mem_singleton.mp m]; exact .inl ⟨r, List.mem_cons_self, rfl⟩
  have dic : ∀ {r : Addr} {f : Fd}, DM U H r f → H o = some (.lst [.ref r]) → isR X → ∀ a ∈ [r], (∃ kvs, H a = some (.dT kvs)) ∧ H o = some (.lst [.ref a]) ∧ isR X := fun {r f} d h i a m => by
    obtain ⟨kvs, ks, hd, _⟩ := d
    rw [List.mem_singleton.mp m]
    exact ⟨⟨kvs, hd⟩, h, i⟩
  cases X with
  | add x D =>
    rcases h with ⟨a, h⟩ | ⟨a, m, l, b, h, h'⟩ | ⟨a, b, h⟩
    · exact ⟨_, [], h, Nat.le_refl _, two _ _, fun _ m => nomatch m⟩
    · refine ⟨_, [], h, Nat.le_refl _, fun v m => ?_, fun _ m => nomatch m⟩
      simp only [List.mem_cons, List.not_mem_nil, or_false] at m
      rcases m with rfl | rfl
      · exact .inr (.inr (.inl ⟨_, rfl⟩))
      · exact .inr (.inl ⟨b, _, rfl, h'⟩)
    · exact ⟨_, [], h, by show 1 ≤ 2; decide, fun v m => by rw [List.mem_singleton.mp m]; exact .inr (.inr (.inr (.inl ⟨_, rfl⟩))), fun _ m => nomatch m⟩
  | recd p =>
    rcases h with ⟨a, h⟩ | ⟨k, x, t, r, a, b, c, h, h', d⟩
    · exact ⟨_, [], h, Nat.le_refl _, two _ _, fun _ m => nomatch m⟩
    · exact ⟨_, [], h, by show 1 ≤ 2; decide, fun v m => by rw [List.mem_singleton.mp m]; exact .inr (.inl ⟨t, _, rfl, h'⟩), fun _ m => nomatch m⟩
  | slots p =>
    rcases h with ⟨a, h⟩ | ⟨k, r, a, b, h, d⟩
    · exact ⟨_, [], h, Nat.le_refl _, two _ _, fun _ m => nomatch m⟩
    · exact ⟨_, [r], h, by show 1 ≤ 2; decide, one r, dic d h trivial⟩
  | cut p =>
    rcases h with ⟨a, h⟩ | ⟨a, h⟩
    · exact ⟨_, [], h, Nat.le_refl _, two _ _, fun _ m => nomatch m⟩
    · exact ⟨_, [], h, by show 1 ≤ 2; decide, fun v m => by rw [List.mem_singleton.mp m]; exact .inr (.inr (.inr (.inr rfl))), fun _ m => nomatch m⟩
  | btw a b =>
    rcases h with ⟨a, h⟩ | ⟨a, b, h⟩ | ⟨k, l, r, a, b, c, d, h, w⟩
    · exact ⟨_, [], h, Nat.le_refl _, two _ _, fun _ m => nomatch m⟩
    · exact ⟨_, [], h, Nat.le_refl _, two _ _, fun _ m => nomatch m⟩
    · exact ⟨_, [r], h, by show 1 ≤ 2; decide, one r, dic w h trivial⟩
theorem ans_suc {U : List Zk.Slot} {J J' : Jr} {H : Hp} {o : Addr} : ∀ {X : Qn}, Ans U J H o X → After J X J' → (∃ v, H o = some (.lst [v]) ∧ Suc J X J') ∨ ∃ v w, H o = some (.lst [v, w]) ∧ J' = J := by
  intro X h af
  cases X with
  | add x D =>
    rcases af with ⟨a1, a2⟩ | ⟨a1, a2, a3⟩
    · rcases h with ⟨a, h⟩ | ⟨a, m, l, b, h, h'⟩ | ⟨a, b, h⟩
      · exact .inr ⟨_, _, h, a2⟩
      · exact .inr ⟨_, _, h, a2⟩
      · rcases a1 with a1 | ⟨s, a1⟩
        · exact absurd a1 a
        · exact absurd a1 (b s)
    · rcases h with ⟨a, h⟩ | ⟨a, m, l, b, h, h'⟩ | ⟨a, b, h⟩
      · exact absurd a a1
      · exact absurd l.1 (a2 m)
      · exact .inl ⟨_, h, a1, a2, a3⟩
  | recd p =>
    cases af
    rcases h with ⟨a, h⟩ | ⟨k, x, t, r, a, b, c, h, h', d⟩
    · exact .inr ⟨_, _, h, rfl⟩
    · exact .inl ⟨_, h, rfl⟩
  | slots p =>
    cases af
    rcases h with ⟨a, h⟩ | ⟨k, r, a, b, h, d⟩
    · exact .inr ⟨_, _, h, rfl⟩
    · exact .inl ⟨_, h, rfl⟩
  | cut p =>
    rcases af with ⟨a1, a2⟩ | ⟨c, a1, a2, a3⟩
    · rcases h with ⟨a, h⟩ | ⟨a, h⟩
      · exact .inr ⟨_, _, h, a2⟩
      · exact absurd a a1
    · rcases h with ⟨a, h⟩ | ⟨a, h⟩
      · exact absurd ⟨by omega, by omega⟩ a
      · exact .inl ⟨_, h, c, a1, a2, a3⟩
  | btw a b =>
    cases af
    rcases h with ⟨a, h⟩ | ⟨a, b, h⟩ | ⟨k, l, r, a, b, c, d, h, w⟩
    · exact .inr ⟨_, _, h, rfl⟩
    · exact .inr ⟨_, _, h, rfl⟩
    · exact .inl ⟨_, h, rfl⟩
theorem lastSt_cut {J : Jr} {c : Nat} (l : c ≤ J.n) : lastSt (J.cut c) = lastSt J := by
  show ((J.st.drop c)[J.n - c]?).getD 0 = (J.st[J.n]?).getD 0
  rw [List.getElem?_drop, show c + (J.n - c) = J.n by omega]
theorem lastSt_add {J : Jr} (ok : JOk J) (x : Int) (D : Df) : lastSt (J.add x D) = x := by
  show ((J.st ++ [x])[J.n + 1]?).getD 0 = x
  rw [get_snoc ok.ls]; rfl
theorem suc_ok {J J' : Jr} (ok : JOk J) : ∀ {X : Qn}, After J X J' → (∀ x D, X = .add x D → DOk D) → JOk J' ∧ J'.n ≤ J.n + 1 := by
  intro X af hd
  cases X with
  | add x D =>
    rcases af with ⟨_, rfl⟩ | ⟨a1, a2, rfl⟩
    · exact ⟨ok, Nat.le_succ _⟩
    · exact ⟨ok.add x (hd x D rfl) a2, Nat.le_refl _⟩
  | cut p =>
    rcases af with ⟨_, rfl⟩ | ⟨c, a1, a2, rfl⟩
    · exact ⟨ok, Nat.le_succ _⟩
    · exact ⟨ok.cut a2, by show J.n - c ≤ J.n + 1; omega⟩
  | recd p => cases af; exact ⟨ok, Nat.le_succ _⟩
  | slots p => cases af; exact ⟨ok, Nat.le_succ _⟩
  | btw a b => cases af; exact ⟨ok, Nat.le_succ _⟩
theorem suc_st {J J' : Jr} (ok : JOk J) {B : Int} (h0 : 0 ≤ lastSt J) (h1 : lastSt J ≤ B) : ∀ {X : Qn}, After J X J' → (∀ x D, X = .add x D → 0 ≤ x ∧ (x ≤ lastSt J + 1000 ∨ x ≤ 0)) → 0 ≤ lastSt J' ∧ lastSt J' ≤ B + 1000 := by
  intro X af hd
  cases X with
  | add x D =>
    rcases af with ⟨_, rfl⟩ | ⟨a1, a2, rfl⟩
    · exact ⟨h0, by omega⟩
    · rw [lastSt_add ok]
      obtain ⟨b1, b2⟩ := hd x D rfl
      exact ⟨b1, by omega⟩
  | cut p =>
    rcases af with ⟨_, rfl⟩ | ⟨c, a1, a2, rfl⟩
    · exact ⟨h0, by omega⟩
    · rw [lastSt_cut a2]; exact ⟨h0, by omega⟩
  | recd p => cases af; exact ⟨h0, by omega⟩
  | slots p => cases af; exact ⟨h0, by omega⟩
  | btw a b => cases af; exact ⟨h0, by omega⟩
theorem q_ok {U : List Zk.Slot} {H : Hp} {q : Addr} {X : Qn} (h : QAt U H q X) : ∀ x D, X = .add x D → DOk D := fun x D e => by
  subst e
  obtain ⟨_, _, _, o⟩ := h
  exact o

/-! ### the law -/
theorem _root_.Zk.Ext.more {M N : List Addr} {H0 H1 H2 : Hp} (a : Ext M H0 H1) (b : Ext N H1 H2) (f : ∀ x ∈ N, x ∈ M ∨ H0 x = none) : Ext M H0 H2 :=
  ⟨fun x o h n => b.keep x o (a.keep x o h n) fun z => (f x z).elim n fun y => (by rw [h] at y; cases y), fun x o h i => b.imm x o (a.imm x o h i) i, fun x o h => (a.live x o h).elim fun o' h' => b.live x o' h'⟩
theorem w_clearX {H : Hp} {a : Addr} {kvs : List (List Key × V)} {Q : VK} (h : H a = some (.dT kvs)) (k : ∀ H', Ext [a] H H' → H' a = some (.dT []) → Q .non H') : tyV K "dict" (.ref a) H ∧ rClearT (.ref a) [] H Q :=
  w_tyT h ⟨a, kvs, rfl, rfl, h, w_chg h (fun z => z) k⟩
theorem pool_of {H : Hp} {p : Addr} (h : PoolAt K H p) : ∃ xs, H p = some (.lst xs) := by
  obtain ⟨sc, ns, pl, re, fi, h1, _⟩ := h
  exact ⟨_, h1⟩
theorem pool_nd {H : Hp} {p : Addr} (h : PoolAt K H p) : ∀ x ∈ [p], ∀ kvs, H x ≠ some (.dT kvs) := fun x m kvs z => by
  obtain ⟨xs, h⟩ := pool_of h
  rw [List.mem_singleton.mp m, h] at z; cases z
/-- what stands apart in the whole -/
structure Ap (p j sl pl mo ml : Addr) : Prop where
  jp : j ≠ p
  jm : j ≠ mo
  jl : j ≠ ml
  sp : sl ≠ p
  pp : pl ≠ p
  mp : mo ≠ p
  lp : ml ≠ p
  ms : mo ≠ sl
  mq : mo ≠ pl
  ls : ml ≠ sl
  lq : ml ≠ pl
/-- journal, model and pool at a turn's start -/
structure Tn (CJ : Addr) (U : List Zk.Slot) (K : PySem.W.Frag) (H : Hp) (p j sl pl mo ml : Addr) (J : Jr) (FJ FM : List Addr) : Prop where
  po : PoolAt K H p
  ja : JAtF CJ U H j sl pl J FJ
  ma : MoAtF U H mo ml J FM
  ok : JOk J
  ap : Ap p j sl pl mo ml
theorem Tn.pool {CJ : Addr} {U : List Zk.Slot} {K : PySem.W.Frag} {H H' : Hp} {p j sl pl mo ml : Addr} {J : Jr} {FJ FM : List Addr} (h : Tn CJ U K H p j sl pl mo ml J FJ FM) (e : Ext [p] H H') (hP : PoolAt K H' p) : Tn CJ U K H' p j sl pl mo ml J FJ FM := by
  have A := h.ap
  exact ⟨hP, h.ja.ext e (fun x m => by rw [List.mem_singleton.mp m]; exact ⟨A.jp.symm, A.sp.symm, A.pp.symm⟩) (pool_nd h.po), h.ma.ext e (fun x m => by rw [List.mem_singleton.mp m]; exact ⟨A.mp.symm, A.lp.symm⟩) (pool_nd h.po), h.ok, h.ap⟩
theorem Tn.ext0 {CJ : Addr} {U : List Zk.Slot} {K : PySem.W.Frag} {H H' : Hp} {p j sl pl mo ml : Addr} {J : Jr} {FJ FM : List Addr} (h : Tn CJ U K H p j sl pl mo ml J FJ FM) (e : Ext [] H H') : Tn CJ U K H' p j sl pl mo ml J FJ FM := h.pool e.up (h.po.ext e List.not_mem_nil)
theorem jlist {CJ : Addr} {U : List Zk.Slot} {H : Hp} {j sl pl : Addr} {J : Jr} {F : List Addr} (h : JAtF CJ U H j sl pl J F) : (∃ dx fs, H j = some (.ins CJ dx fs)) ∧ (∃ xs, H sl = some (.lst xs)) ∧ ∃ xs, H pl = some (.lst xs) := by
  obtain ⟨⟨dx, f, l, h1, _⟩, h2, _, _, as, h3, _⟩ := h
  exact ⟨⟨dx, _, h1⟩, ⟨_, h2⟩, _, h3⟩
theorem mlist {U : List Zk.Slot} {H : Hp} {mo ml : Addr} {J : Jr} {F : List Addr} (h : MoAtF U H mo ml J F) : (∃ xs, H mo = some (.lst xs)) ∧ ∃ xs, H ml = some (.lst xs) := by
  obtain ⟨h1, _, _, ts, h2, _⟩ := h
  exact ⟨⟨_, h1⟩, _, h2⟩
/-- changes at dicts that are not theirs -/
theorem Tn.dicts {CJ : Addr} {U : List Zk.Slot} {K : PySem.W.Frag} {H H' : Hp} {p j sl pl mo ml : Addr} {J : Jr} {FJ FM M : List Addr} (h : Tn CJ U K H p j sl pl mo ml J FJ FM) (e : Ext M H H') (d : ∀ x ∈ M, ∃ kvs, H x = some (.dT kvs)) (nj : ∀ x ∈ M, x ∉ FJ) (nm : ∀ x ∈ M, x ∉ FM) : Tn CJ U K H' p j sl pl mo ml J FJ FM := by
  have A := h.ap
  obtain ⟨⟨dx, fs, j1⟩, ⟨xs, j2⟩, ys, j3⟩ := jlist h.ja
  obtain ⟨⟨zs, m1⟩, ws, m2⟩ := mlist h.ma
  obtain ⟨ps, p1⟩ := pool_of h.po
  have nd : ∀ {a : Addr} {ob : HO}, H a = some ob → (∀ kvs, ob ≠ .dT kvs) → ∀ x ∈ M, x ≠ a := fun {a ob} ha hn x m z => by
    obtain ⟨kvs, hx⟩ := d x m
    rw [z, ha] at hx
    cases hx
    exact hn _ rfl
  exact ⟨h.po.ext e fun m => nd p1 (fun _ z => nomatch z) p m rfl, h.ja.extF e (fun x m => ⟨nd j1 (fun _ z => nomatch z) x m, nd j2 (fun _ z => nomatch z) x m, nd j3 (fun _ z => nomatch z) x m⟩) nj,
    h.ma.extF e (fun x m => ⟨nd m1 (fun _ z => nomatch z) x m, nd m2 (fun _ z => nomatch z) x m⟩) nm, h.ok, h.ap⟩
def sp_law (K : PySem.W.Frag) : Sp := sp1 fun a H Q => ∃ (sc : Addr) (ns : List Int), a = .ref sc ∧ Scr K H sc (ns.map V.int) ∧ ∀ H', Q (.bl true) H'
theorem start_law {H : Hp} {a : Addr} {ns : List Int} (hO : Only H) (hl : ns.length ≤ 63) (hS : SqL K H a (ns.map V.int)) : sp_law K [.ref a] H (fun v _ => v = .bl true) (fun _ _ _ => False) :=
  ⟨_, rfl, a, ns, rfl, Scr.of hO hS, fun _ => rfl⟩
/-! ### the side journal -/
def sa : Zk.Slot := (Str.ofString "a", 0, 0)
def cl (n : Int) : PyData := .tuple [.str (Str.ofString "closed"), .int n]
def sideU : List Zk.Slot := [sa]
def f1 : Fd := Zk.putF (fun _ => none) sa (cl 1)
def D1 : Df := fun s => if s = sa then some (some (cl 1), some (cl 2)) else none
theorem cl_ok (n : Int) : Cont (cl n) := .inr (.inl ⟨n, rfl⟩)
theorem oc_some {d : PyData} (h : Cont d) : OCt (some d) := fun e z => by cases z; exact h
theorem f1_stt : Stt f1 := stt_put stt_none (cl_ok 1)
theorem D1_ok : DOk D1 := fun s p h => by
  unfold D1 at h
  by_cases e : s = sa
  · rw [if_pos e] at h
    cases h
    exact ⟨oc_some (cl_ok 1), oc_some (cl_ok 2), fun z => by
      have : cl 1 = cl 2 := Option.some.inj z
      unfold cl at this
      simp at this⟩
  · rw [if_neg e] at h; cases h
theorem f1_at (s : Zk.Slot) : f1 s = if s = sa then some (cl 1) else none := by
  unfold f1 Zk.putF
  rfl
theorem D1_wr : ∀ s, ¬ wrA f1 D1 s := fun s ⟨p, h, n⟩ => by
  unfold D1 at h
  by_cases e : s = sa
  · rw [if_pos e] at h
    cases h
    apply n
    rw [f1_at, if_pos e]
  · rw [if_neg e] at h; cases h
def f2 : Fd := Zk.putF (fun _ => none) sa (cl 2)
theorem f2_is : appF f1 D1 = f2 := by
  funext s
  unfold appF D1 f2 Zk.putF
  by_cases e : s = sa
  · rw [if_pos e, if_pos e]
  · rw [if_neg e, if_neg e]
    show f1 s = none
    rw [f1_at, if_neg e]
theorem f2_stt : Stt f2 := stt_put stt_none (cl_ok 2)
theorem dF1 : dF D1 = Zk.putF (fun _ => none) sa (.tuple [cl 1, cl 2]) := by
  funext s
  unfold dF D1 Zk.putF
  by_cases e : s = sa
  · rw [if_pos e, if_pos e]; rfl
  · rw [if_neg e, if_neg e]; rfl
theorem side_pln : sideU.length ≤ 1000 := by decide
theorem one_dm {H : Hp} {p b : Addr} {v : V} {d : PyData} (i : Im H v d) : ∀ H', Ext [p] H H' → H' p = some (.dT (putAll [(sKey sa, b, v)] [])) → DM sideU H' p (Zk.putF (fun _ => none) sa d) := fun H' e h => by
  have w0 : DMk sideU H' [] [] (fun _ => none) := ⟨rfl, List.nodup_nil, fun _ m => (nomatch m), fun _ => trivial⟩
  obtain ⟨k1, w1⟩ := w0.put (s := sa) List.mem_cons_self (i.ext e)
  exact ⟨_, k1, h, w1⟩
def sideJ (b : Int) : Jr := ({ b := b, n := 0, st := [0], g := fun _ => f1, D := fun _ _ => none } : Jr).add 5 D1
theorem side0_ok (b x : Int) (f : Fd) (sf : Stt f) : JOk { b := b, n := 0, st := [x], g := fun _ => f, D := fun _ _ => none } := ⟨rfl, fun _ => sf, fun _ _ _ h => (nomatch h), fun _ h => absurd h (Nat.not_lt_zero _), fun _ h => absurd h (Nat.not_lt_zero _)⟩
theorem side_ok (b : Int) : JOk (sideJ b) := (side0_ok b 0 f1 f1_stt).add 5 D1_ok D1_wr
theorem side_g (b : Int) : (sideJ b).g 1 = f2 := ((Jr.add_gl _ _ _).trans f2_is)
theorem side_p (b : Int) : pAt (sideJ b).b 4 (sideJ b).st (sideJ b).st.length = .int (b + (0 : Nat)) := by
  show pAt b 4 [0, 5] 2 = _
  unfold pAt
  rw [if_neg (by decide)]
  unfold pAt
  rw [if_pos (by decide)]

theorem ok_law (T : Txt K mg) (TE : Errs P K mg) : FnOk P w K mg base CX0 10 T.f_law T.d_law ["script"] (sp_law K) := by
  refine T.F_law.ok sc_law len1 (fun cdv A outer s H vs Q E hr h => ?_)
  have nd := sc_law.nd
  have hu := hu_of hr
  obtain ⟨_, rfl, sc, ns, rfl, hS0, k⟩ := h
  refine ⟨_,
      (pss_cons (ps_set (i := 1) nd rfl (Or.inl rfl) (pe_call (ok_law_pool T) (hr.mono (by decide)) (by rfl) T.g__law_pool T.F__law_pool.kp T.k__law_pool .nil pass0 (pa_cons (pv 0) pa_nil))) 
      (pss_cons (ps_set (i := 2) nd rfl (Or.inl rfl) (pe_call (ok_law_universe T) (hr.mono (by decide)) (by rfl) T.g__law_universe T.F__law_universe.kp T.k__law_universe .nil pass0 (pa_cons (pv 1) (pa_cons pe_int pa_nil)))) 
      (pss_cons (ps_set (i := 3) nd rfl (Or.inl rfl) (pe_call (ok_law_moved T) (hr.mono (by decide)) (by rfl) T.g__law_moved T.F__law_moved.kp T.k__law_moved .nil pass0 (pa_cons (pv 1) (pa_cons (pv 2) (pa_cons pe_dnewTZ (pa_cons pe_int pa_nil)))))) 
      (pss_cons (ps_set (i := 4) nd rfl (Or.inl rfl) (pe_lstZ (pa_cons (pe_call (ok_law_pick T) (hr.mono (by decide)) (by rfl) T.g__law_pick T.F__law_pick.kp T.k__law_pick .nil pass0 (pa_cons (pv 1) (pa_cons (pe_lstZ (pa_cons pe_int (pa_cons pe_int (pa_cons pe_int (pa_cons pe_int (pa_cons (pe_op op_pow pe_int pe_int) pa_nil)))))) pa_nil))) (pa_cons (pe_lstZ (pa_cons (pe_tupZ (pa_cons (pe_call (ok_law_draw T) (hr.mono (by decide)) (by rfl) T.g__law_draw T.F__law_draw.kp T.k__law_draw .nil pass0 (pa_cons (pv 1) (pa_cons pe_int pa_nil))) (pa_cons (pe_call (ok_law_copy T) (hr.mono (by decide)) (by rfl) T.g__law_copy T.F__law_copy.kp T.k__law_copy .nil pass0 (pa_cons (pv 3) pa_nil)) pa_nil))) pa_nil)) pa_nil)))) 
      (pss_cons (ps_set (i := 5) nd rfl (Or.inl rfl) (pe_make T.mk_Journal (ok_Journal___init__ T) (hr.mono (by decide)) (by rfl) T.g_Journal T.k_Journal___init__ .nil pass0 (pa_cons (pe_ix ix_list (pv 4) pe_int (fun _ _ => rfl)) (pa_cons (pe_ix ix_tup (pe_ix ix_list (pe_ix ix_list (pv 4) pe_int (fun _ _ => rfl)) pe_int (fun _ _ => rfl)) pe_int (fun _ _ => rfl)) (pa_cons (pv 3) pa_nil))))) 
      (pss_cons (ps_expr (pe_bm0 PySem.F.plainAttrs_dict PySem.F.slot_dict_clear PySem.F.type_dict_clear zmt_clearT (pv 3))) 
      (pss_cons (ps_set (i := 6) nd rfl (Or.inl rfl) (pe_op op_add (pe_ix ix_list (pv 4) pe_int (fun _ _ => rfl)) pe_int)) 
      (pss_cons (ps_set (i := 7) nd rfl (Or.inl rfl) (pe_make T.mk_Journal (ok_Journal___init__ T) (hr.mono (by decide)) (by rfl) T.g_Journal T.k_Journal___init__ .nil pass0 (pa_cons (pv 6) (pa_cons pe_int (pa_cons (pe_dispT hu (pps_cons (pe_tupZ (pa_cons pe_str (pa_cons pe_int (pa_cons pe_int pa_nil)))) (pe_tupZ (pa_cons pe_str (pa_cons pe_int pa_nil))) pps_nil) (by rfl) (by rfl) (fun z => by cases z) (by decide)) pa_nil))))) 
      (pss_cons (ps_expr (pe_meth (pv 7) T.c_Journal T.m_Journal_add_record (ok_Journal_add_record T TE) (hr.mono (by decide)) T.k_Journal_add_record .nil passX (pa_cons pe_int (pa_cons (pe_dispT hu (pps_cons (pe_tupZ (pa_cons pe_str (pa_cons pe_int (pa_cons pe_int pa_nil)))) (pe_tupZ (pa_cons (pe_tupZ (pa_cons pe_str (pa_cons pe_int pa_nil))) (pa_cons (pe_tupZ (pa_cons pe_str (pa_cons pe_int pa_nil))) pa_nil))) pps_nil) (by rfl) (by rfl) (fun z => by cases z) (by decide)) pa_nil)))) 
      (pss_cons (ps_set (i := 8) nd rfl (Or.inl rfl) (pe_op op_add pe_int (pe_call (ok_law_draw T) (hr.mono (by decide)) (by rfl) T.g__law_draw T.F__law_draw.kp T.k__law_draw .nil pass0 (pa_cons (pv 1) (pa_cons pe_int pa_nil))))) 
      (pss_cons (ps_set (i := 9) nd rfl (Or.inl rfl) (pe_cmpR op_eq (pe_call (ok_law_draw T) (hr.mono (by decide)) (by rfl) T.g__law_draw T.F__law_draw.kp T.k__law_draw .nil pass0 (pa_cons (pv 1) (pa_cons pe_int pa_nil))) pe_int (nomark _))) 
      (pss_cons (ps_if (pt_val (pv 9)) 
        (pss_one (ps_set (i := 8) nd rfl (Or.inl rfl) pe_int)) pss_nil) 
      (pss_cons (ps_for PassesOwn.never rfl (pi_range1 (by rfl) T.b_range (pa_cons (pv 8) pa_nil)) (pg_name (i := 10) nd rfl (Or.inl rfl)) 
        (pss_cons (ps_expr (pe_call (ok_law_next T) (hr.mono (by decide)) (by rfl) T.g__law_next T.F__law_next.kp T.k__law_next .nil pass0 (pa_cons (pv 1) pa_nil))) 
        (pss_cons (ps_set (i := 11) nd rfl (Or.inl rfl) (pe_call (ok_law_question T) (hr.mono (by decide)) (by rfl) T.g__law_question T.F__law_question.kp T.k__law_question .nil pass0 (pa_cons (pv 1) (pa_cons (pv 2) (pa_cons (pv 4) (pa_cons (pv 9) pa_nil)))))) 
        (pss_cons (ps_set (i := 12) nd rfl (Or.inl rfl) (pe_call (ok_law_due T) (hr.mono (by decide)) (by rfl) T.g__law_due T.F__law_due.kp T.k__law_due .nil pass0 (pa_cons (pv 4) (pa_cons (pv 11) pa_nil)))) 
        (pss_cons (ps_set (i := 13) nd rfl (Or.inl rfl) (pe_call (ok_law_told T TE) (hr.mono (by decide)) (by rfl) T.g__law_told T.F__law_told.kp T.k__law_told .nil pass0 (pa_cons (pv 5) (pa_cons (pv 11) pa_nil)))) 
        (pss_cons (ps_if (pt_not (pt_val (pe_call (ok_law_same T) (hr.mono (by decide)) (by rfl) T.g__law_same T.F__law_same.kp T.k__law_same .nil pass0 (pa_cons (pv 12) (pa_cons (pv 13) pa_nil))))) 
          (pss_one (ps_ret pe_bl)) pss_nil) 
        (pss_cons (ps_if (pt_cmpR op_eq (pe_callB zc_len (by rfl) T.b_len (by decide +kernel) (pa_cons (pv 12) pa_nil)) pe_int (nomark _)) 
          (pss_one (ps_expr (pe_call (ok_law_settle T) (hr.mono (by decide)) (by rfl) T.g__law_settle T.F__law_settle.kp T.k__law_settle .nil pass0 (pa_cons (pv 4) (pa_cons (pv 11) pa_nil))))) pss_nil) 
        (pss_cons (ps_for PassesOwn.never rfl (pi_list (pe_op zop_cat (pe_callTy zc_list (by rfl) T.b_list (by decide +kernel) (pa_cons (pv 11) pa_nil)) (pv 13))) (pg_name (i := 14) nd rfl (Or.inl rfl)) 
          (pss_one (ps_if (pt_val (pe_callB call_isi (by rfl) T.b_isinstance (by decide +kernel) (pa_cons (pv 14) (pa_cons (pe_bltn (v := .ty "dict") (by rfl) T.b_dict (by decide +kernel) rfl) pa_nil)))) 
            (pss_one (ps_expr (pe_bm0 PySem.F.plainAttrs_dict PySem.F.slot_dict_clear PySem.F.type_dict_clear zmt_clearT (pv 14)))) pss_nil))) 
        (pss_cons (ps_if (PW.pt (pw_and (pt_cmpR op_eq (pe_ix ix_tup (pv 11) pe_int (fun _ _ => rfl)) pe_str (nomark _)) (pw_and1 (pt_cmpR op_eq (pe_callB zc_len (by rfl) T.b_len (by decide +kernel) (pa_cons (pv 13) pa_nil)) pe_int (nomark _))))) 
          (pss_one (ps_expr (pe_bm0 PySem.F.plainAttrs_dict PySem.F.slot_dict_clear PySem.F.type_dict_clear zmt_clearT (pe_ix ix_tup (pe_ix ix_list (pv 13) pe_int (fun _ _ => rfl)) pe_int (fun _ _ => rfl))))) pss_nil) 
        (pss_one (ps_if (PW.pt (pw_or (pt_not (pt_val (pv 9))) (pw_or1 (pt_cmpR op_eq (pe_op op_mod (pe_callTy zc_int (by rfl) T.b_int (by decide +kernel) (pa_cons (pv 10) pa_nil)) pe_int) pe_int (nomark _))))) 
          (pss_one (ps_if (pt_not (pt_val (pe_call (ok_law_agrees T TE) (hr.mono (by decide)) (by rfl) T.g__law_agrees T.F__law_agrees.kp T.k__law_agrees .nil pass0 (pa_cons (pv 5) (pa_cons (pv 4) (pa_cons (pe_call (ok_law_draw T) (hr.mono (by decide)) (by rfl) T.g__law_draw T.F__law_draw.kp T.k__law_draw .nil pass0 (pa_cons (pv 1) (pa_cons (pe_op op_add (pe_ix ix_tup (pe_ix ix_list (pe_ix ix_list (pv 4) pe_int (fun _ _ => rfl)) (pe_un un_neg pe_int) (fun _ _ => rfl)) pe_int (fun _ _ => rfl)) pe_int) pa_nil))) pa_nil)))))) 
            (pss_one (ps_ret pe_bl)) pss_nil)) pss_nil))))))))))) 
      (pss_cons (ps_set (i := 15) nd rfl (Or.inl rfl) (pe_lstZ (pa_cons (pe_meth0 (pv 7) T.c_Journal T.m_Journal_start_position (ok_Journal_start_position T) (hr.mono (by decide)) T.k_Journal_start_position .nil pass0) (pa_cons (pe_meth0 (pv 7) T.c_Journal T.m_Journal_end_position (ok_Journal_end_position T) (hr.mono (by decide)) T.k_Journal_end_position .nil pass0) (pa_cons (pe_meth (pv 7) T.c_Journal T.m_Journal_slots_at (ok_Journal_slots_at T TE) (hr.mono (by decide)) T.k_Journal_slots_at .nil passX (pa_cons (pe_op op_add (pv 6) pe_int) pa_nil)) (pa_cons (pe_meth (pv 7) T.c_Journal T.m_Journal_position_at (ok_Journal_position_at T) (hr.mono (by decide)) T.k_Journal_position_at .nil pass0 (pa_cons pe_int pa_nil)) pa_nil)))))) 
      (pss_cons (ps_if (pt_not (pt_val (pe_call (ok_law_same T) (hr.mono (by decide)) (by rfl) T.g__law_same T.F__law_same.kp T.k__law_same .nil pass0 (pa_cons (pe_lstZ (pa_cons (pv 6) (pa_cons (pe_op op_add (pv 6) pe_int) (pa_cons (pe_dispT hu (pps_cons (pe_tupZ (pa_cons pe_str (pa_cons pe_int (pa_cons pe_int pa_nil)))) (pe_tupZ (pa_cons pe_str (pa_cons pe_int pa_nil))) pps_nil) (by rfl) (by rfl) (fun z => by cases z) (by decide)) (pa_cons (pv 6) pa_nil))))) (pa_cons (pv 15) pa_nil))))) 
        (pss_one (ps_ret pe_bl)) pss_nil) 
      (pss_one (ps_ret (pe_call (ok_law_agrees T TE) (hr.mono (by decide)) (by rfl) T.g__law_agrees T.F__law_agrees.kp T.k__law_agrees .nil pass0 (pa_cons (pv 5) (pa_cons (pv 4) (pa_cons (pe_call (ok_law_draw T) (hr.mono (by decide)) (by rfl) T.g__law_draw T.F__law_draw.kp T.k__law_draw .nil pass0 (pa_cons (pv 1) (pa_cons (pe_op op_add (pe_ix ix_tup (pe_ix ix_list (pe_ix ix_list (pv 4) pe_int (fun _ _ => rfl)) (pe_un un_neg pe_int) (fun _ _ => rfl)) pe_int (fun _ _ => rfl)) pe_int) pa_nil))) pa_nil))))))))))))))))))))), ?_⟩
  change (_ : TS) _ [some _, none, none, none, none, none, none, none, none, none, none, none, none, none, none, none] _
  try dsimp only [cxOf, Cx.nox, Cx.wish]
  have no_ : ∀ {x : Addr}, x ∉ ([] : List Addr) := List.not_mem_nil
  walk_at "go"
  refine w_sp1 ⟨sc, ns, rfl, hS0, fun p H1 e1 n1 P1 => ?_⟩
  walk_at "go"
  refine w_universe (by decide) (by decide) P1 fun o bs ss H2 e2 P2 no h2 hss l1 l8 hsg nop => ?_
  have hU : Pln ss := ⟨by omega, hsg⟩
  have hsU : ∀ s ∈ ss, s ∈ ss := fun s m => m
  walk_at "go"
  refine w_alc fun Z H3 e3 n3 h3 => ?_
  walk_at "go"
  have P3 := P2.ext e3 no_
  have ho3 := e3.keep _ _ h2 no_
  have hs3 := hss.ext e3
  refine w_moved (by decide) (by decide) hU P3 ho3 nop hs3 l1 (by omega) hsU (DM.nil h3) stt_none fun S f H4 e4 P4 nS hf sf => ?_
  walk_at "go"
  refine ⟨sz (by show 5 ≤ _; decide), w_alc fun o2 H5 e5 n5 h5 => ?_⟩
  walk_at "go"
  refine w_pick (P4.ext e5 no_) h5 (P4.ne n5).symm (by decide) (by decide) fun v H6 hv e6 P6 => ?_
  obtain ⟨b, rfl⟩ : ∃ n : Int, v = .int n := by
    simp only [List.mem_cons, List.not_mem_nil, or_false] at hv
    rcases hv with rfl | rfl | rfl | rfl | rfl <;> exact ⟨_, rfl⟩
  walk_at "go"
  refine w_draw P6 (by decide) (by decide) fun x H7 x0 x1 e7 P7 => ?_
  have e47 : Ext [p] H4 H7 := (e5.up.trans e6).trans e7
  have hS7 := hf.ext e47 (nm1 (pd_ne P4 hf))
  walk_at "go"
  refine w_copy hU.1 hS7 fun C0 H8 e8 nC0 hC0 => ?_
  walk_at "go"
  refine ⟨sz (by show 2 ≤ _; decide), w_alc fun t H9 e9 n9 h9 => ?_⟩
  walk_at "go"
  refine ⟨sz (by show 1 ≤ _; decide), w_alc fun ml HA eA nA hA => ?_⟩
  walk_at "go"
  refine ⟨sz (by show 2 ≤ _; decide), w_alc fun mo HB eB nB hB => ?_⟩
  have e7B : Ext [] H7 HB := ((e8.trans e9).trans eA).trans eB
  have hmlB := eB.keep _ _ hA no_
  have htB := eB.tup (eA.tup h9)
  have hSB := hS7.ext e7B no_
  have hCB := ((hC0.ext e9 no_).ext eA no_).ext eB no_
  have PB := P7.ext e7B no_
  have nml : ml ≠ mo := ne_of_none hA nB
  have nmlp : ml ≠ p := (P7.ne ((e8.trans e9).free nA)).symm
  have nmop : mo ≠ p := (P7.ne (((e8.trans e9).trans eA).free nB)).symm
  have e2B : Ext [p] H2 HB := ((e3.up.trans e4).trans e47).trans e7B.up
  have hoB := e2B.keep _ _ h2 (nm1 nop)
  walk_at "go"
  intro j dx nj nd1 ne1
  have eC := make_ext (C := T.C_Journal) nj nd1 ne1
  have hC : (upd (upd HB dx (.own j)) j (.ins T.C_Journal dx [])) j = some (.ins T.C_Journal dx []) := upd_same
  generalize upd (upd HB dx (.own j)) j (.ins T.C_Journal dx []) = HC at eC hC ⊢
  refine ⟨_, _, _, _, rfl, ss, j, dx, S, b, x, f, rfl, rfl, rfl, rfl, hC, hU.1, hSB.ext eC no_, fun sl0 pl0 FJ0 HD eD nsl npl hJD hFJ => ⟨rfl, ?_⟩⟩
  have eBD : Ext [] HB HD := eC.more eD fun y m => .inr (by rw [List.mem_singleton.mp m]; exact nj)
  have liveBC : ∀ {a : Addr} {ob : HO}, HB a = some ob → HC a ≠ none := fun h z => by have := eC.free z; rw [h] at this; cases this
  have nslB : HB sl0 = none := eC.free nsl
  have nplB : HB pl0 = none := eC.free npl
  have hm0 : MoAtF ss HD mo ml { b := b, n := 0, st := [x], g := fun _ => f, D := fun _ _ => none } [C0] :=
    ⟨eBD.keep _ _ hB no_, nml.symm, (fun a m => by rw [List.mem_singleton.mp m]; exact dm_lv (hCB.ext eBD no_)), [t], eBD.keep _ _ hmlB no_, rfl, fun i hi => by
      have : i = 0 := Nat.lt_one_iff.mp hi
      subst this
      exact ⟨t, C0, x, rfl, eBD.tup htB, rfl, hCB.ext eBD no_, List.mem_cons_self⟩⟩
  have okD := side0_ok b x f sf
  obtain ⟨⟨dxj, fsj, jD⟩, _, _⟩ := jlist hJD
  obtain ⟨xsp, pB⟩ := pool_of PB
  have T0 : Tn T.C_Journal ss K HD p j sl0 pl0 mo ml { b := b, n := 0, st := [x], g := fun _ => f, D := fun _ _ => none } FJ0 [C0] := by
    refine ⟨PB.ext eBD no_, hJD, hm0, okD, ⟨(ne_of_none pB nj).symm, (ne_of_none hB nj).symm, (ne_of_none hmlB nj).symm, (ne_of_none pB nslB).symm, (ne_of_none pB nplB).symm, nmop, nmlp, ne_of_none hB nslB, ne_of_none hB nplB, ne_of_none hmlB nslB, ne_of_none hmlB nplB⟩⟩
  have hSD : DM ss HD S f := (hSB.ext eC no_).ext eD (nm1 (fun z => by obtain ⟨kv, ks, h, _⟩ := hSB.ext eC no_; rw [z, hC] at h; cases h))
  have nSF : S ∉ FJ0 := fun m => by
    obtain ⟨kv, ks, h, _⟩ := hSB.ext eC no_
    rw [hFJ S m] at h; cases h
  have nSC : S ∉ [C0] := fun m => by
    obtain ⟨kv, ks, h, _⟩ := hS7
    rw [List.mem_singleton.mp m, nC0] at h; cases h
  obtain ⟨kvS, ksS, hSk, _⟩ := id hSD
  walk_at "go"
  refine w_clearX hSk fun HE eE hSE => ?_
  have T1 := T0.dicts eE (fun x m => by rw [List.mem_singleton.mp m]; exact ⟨_, hSk⟩) (fun x m => by rw [List.mem_singleton.mp m]; exact nSF) (fun x m => by rw [List.mem_singleton.mp m]; exact nSC)
  have nSo : o ≠ S := fun z => by
    obtain ⟨kv, ks, h, _⟩ := hSB
    rw [← z, hoB] at h; cases h
  have hoE := eE.keep _ _ (eBD.keep _ _ hoB no_) (nm1 nSo)
  have hmoE := T1.ma.ob
  walk_at "go"
  refine w_dispT fun Z1 HF eF nZ hZ => ?_
  refine w_pcons ?_
  walk_at "go"
  refine ⟨sz (by show 3 ≤ _; decide), w_alc fun b1 HG eG nG hG => ?_⟩
  walk_at "go"
  refine ⟨sz (by show 2 ≤ _; decide), w_alc fun c1 HI eI nI hI => ?_⟩
  refine w_pnil ?_
  have hZI : HI Z1 = some (.dT []) := eI.keep _ _ (eG.keep _ _ hZ no_) no_
  refine ⟨hZI, [(sKey sa, b1, .ref c1)], rfl, ?_, ?_⟩
  · intro y my
    rw [List.mem_singleton.mp my]
    exact eI.tup hG
  have i1 : Im HI (.ref c1) (cl 1) := .tup hI (show 2 ≤ 1000 by decide) (.cons (.str _) (.cons (.int _) .nil))
  have eJ : Ext [Z1] HI (upd HI Z1 (.dT (putAll [(sKey sa, b1, .ref c1)] []))) := Ext.mut hZI (fun z => z) (List.mem_singleton.mpr rfl)
  have hZJ := one_dm (b := b1) i1 _ eJ upd_same
  generalize upd HI Z1 (.dT (putAll [(sKey sa, b1, .ref c1)] [])) = HJ at eJ hZJ ⊢
  have eEJ : Ext [] HE HJ := ((eF.trans eG).trans eI).more eJ fun x m => .inr (by rw [List.mem_singleton.mp m]; exact nZ)
  walk_at "go"
  intro sd dxs nsd nd2 ne2
  have eK := make_ext (C := T.C_Journal) nsd nd2 ne2
  have hK : (upd (upd HJ dxs (.own sd)) sd (.ins T.C_Journal dxs [])) sd = some (.ins T.C_Journal dxs []) := upd_same
  generalize upd (upd HJ dxs (.own sd)) sd (.ins T.C_Journal dxs []) = HK at eK hK ⊢
  refine ⟨_, _, _, _, rfl, sideU, sd, dxs, Z1, b + 1, 0, f1, rfl, rfl, rfl, rfl, hK, side_pln, hZJ.ext eK no_, fun sl1 pl1 FS0 HL eL nsl1 npl1 hSL hFS => ⟨rfl, ?_⟩⟩
  have eJL : Ext [] HJ HL := eK.more eL fun x m => .inr (by rw [List.mem_singleton.mp m]; exact nsd)
  obtain ⟨dxL, fL, lL, hsdL, _⟩ := hSL.ob
  walk_at "go"
  refine w_meth hsdL no_Journal_add_record ?_
  walk_at "go"
  refine w_dispT fun Z2 HM eM nZ2 hZ2 => ?_
  refine w_pcons ?_
  walk_at "go"
  refine ⟨sz (by show 3 ≤ _; decide), w_alc fun b2 HN eN nN hN => ?_⟩
  walk_at "go"
  refine ⟨sz (by show 2 ≤ _; decide), w_alc fun c2 HX eO nO hO => ?_⟩
  walk_at "go"
  refine ⟨sz (by show 2 ≤ _; decide), w_alc fun c3 HP eP nP hP => ?_⟩
  walk_at "go"
  refine ⟨sz (by show 2 ≤ _; decide), w_alc fun c4 HQ eQ nQ hQ => ?_⟩
  refine w_pnil ?_
  have hZQ : HQ Z2 = some (.dT []) := eQ.keep _ _ (eP.keep _ _ (eO.keep _ _ (eN.keep _ _ hZ2 no_) no_) no_) no_
  refine ⟨hZQ, [(sKey sa, b2, .ref c4)], rfl, ?_, ?_⟩
  · intro y my
    rw [List.mem_singleton.mp my]
    exact eQ.tup (eP.tup (eO.tup hN))
  have i2 : Im HQ (.ref c2) (cl 1) := .tup (eQ.tup (eP.tup hO)) (show 2 ≤ 1000 by decide) (.cons (.str _) (.cons (.int _) .nil))
  have i3 : Im HQ (.ref c3) (cl 2) := .tup (eQ.tup hP) (show 2 ≤ 1000 by decide) (.cons (.str _) (.cons (.int _) .nil))
  have i4 : Im HQ (.ref c4) (.tuple [cl 1, cl 2]) := .tup hQ (show 2 ≤ 1000 by decide) (.cons i2 (.cons i3 .nil))
  have eR : Ext [Z2] HQ (upd HQ Z2 (.dT (putAll [(sKey sa, b2, .ref c4)] []))) := Ext.mut hZQ (fun z => z) (List.mem_singleton.mpr rfl)
  have hZR := one_dm (b := b2) i4 _ eR upd_same
  rw [← dF1] at hZR
  generalize upd HQ Z2 (.dT (putAll [(sKey sa, b2, .ref c4)] [])) = HR at eR hZR ⊢
  have eLR : Ext [] HL HR := ((((eM.trans eN).trans eO).trans eP).trans eQ).more eR fun x m => .inr (by rw [List.mem_singleton.mp m]; exact nZ2)
  walk_at "go"
  refine ⟨_, _, _, rfl, sideU, sd, sl1, pl1, _, 5, Z2, D1, rfl, rfl, rfl, side_pln, FS0, hSL.ext0 eLR, side0_ok (b + 1) 0 f1 f1_stt, Nat.zero_le _, hZR, D1_ok, (fun h => absurd (show (5 : Int) < 0 from h) (by decide)), (fun _ m l => absurd l.1 (D1_wr m)), fun _ _ FS HS eS hSS nFS => ?_⟩
  have hSS' : JAtF T.C_Journal sideU HS sd sl1 pl1 (sideJ (b + 1)) FS := hSS
  walk_at "go"
  have eES : Ext [] HE HS := ((eEJ.trans eJL).trans eLR).more eS fun x m => .inr (by
    rcases List.mem_cons.mp m with m | m
    · rw [m]; exact eEJ.free nsd
    · rcases List.mem_cons.mp m with m | m
      · rw [m]; exact eEJ.free (eK.free nsl1)
      · rw [List.mem_singleton.mp m]; exact eEJ.free (eK.free npl1))
  have TS := T1.ext0 eES
  refine w_draw TS.po (by decide) (by decide) fun y HT y0 y1 eT PT => ?_
  have TT := TS.pool eT PT
  walk_at "go"
  refine w_draw TT.po (by decide) (by decide) fun z HU z0 z1 eU PU => ?_
  have TU := TT.pool eU PU
  walk_at "go"
  refine w_cut (fun σ' H' => HU = H' ∧ ∃ (mn : Nat) (lg : Bool), mn ≤ 130 ∧ σ' = [some (.ref sc), some (.ref p), some (.ref o), some (.ref S), some (.ref mo), some (.ref j), some (.int (b + 1)), some (.ref sd), some (.int mn), some (.bl lg), none, none, none, none, none, none]) ?_ fun nx hn => ?_
  · rintro _ _ ⟨rfl, mn, lg, hmn, rfl⟩
    walk_at "go"
    have nP : ∀ {u : Addr} {ob : HO}, HE u = some ob → u ≠ sd ∧ u ≠ sl1 ∧ u ≠ pl1 := fun {u ob} h => ⟨ne_of_none h (eEJ.free nsd), ne_of_none h (eEJ.free (eK.free nsl1)), ne_of_none h (eEJ.free (eK.free npl1))⟩
    have eSU : Ext [p] HS HU := eT.trans eU
    have hssE := (((hss.ext e2B).ext eBD).ext eE).ext eES
    have nomo : o ≠ mo := fun z => by
      rw [z, hB] at hoB
      cases bs with
      | nil => simp at hoB
      | cons a as => simp at hoB
    have hoM : o ∉ [p, j, sl0, pl0, mo] := fun m => by
      simp only [List.mem_cons, List.not_mem_nil, or_false] at m
      rcases m with m | m | m | m | m
      · exact nop m
      · rw [m, nj] at hoB; cases hoB
      · rw [m, nslB] at hoB; cases hoB
      · rw [m, nplB] at hoB; cases hoB
      · exact nomo m
    have hbase : ∀ x ∈ [p, j, sl0, pl0, mo], ∃ ob, HE x = some ob ∧ ∀ kvs, ob ≠ .dT kvs := by
      obtain ⟨xs1, q1⟩ := pool_of T1.po
      obtain ⟨⟨dx2, fs2, q2⟩, ⟨xs3, q3⟩, xs4, q4⟩ := jlist T1.ja
      obtain ⟨⟨xs5, q5⟩, _⟩ := mlist T1.ma
      intro x m
      simp only [List.mem_cons, List.not_mem_nil, or_false] at m
      rcases m with rfl | rfl | rfl | rfl | rfl
      · exact ⟨_, q1, fun _ z => nomatch z⟩
      · exact ⟨_, q2, fun _ z => nomatch z⟩
      · exact ⟨_, q3, fun _ z => nomatch z⟩
      · exact ⟨_, q4, fun _ z => nomatch z⟩
      · exact ⟨_, q5, fun _ z => nomatch z⟩
    have ask : ∀ {H' : Hp} {sl pl ml : Addr} {J : Jr} {FJ FM : List Addr}, Tn T.C_Journal ss K H' p j sl pl mo ml J FJ FM → ∃ ts : List Addr, H' ml = some (.lst (ts.map V.ref)) ∧ ts.length = J.n + 1 ∧ ∃ t d, (ts.map V.ref)[J.n]? = some (.ref t) ∧ H' t = some (.tup [.int (lastSt J), .ref d]) := fun {H' sl pl ml J FJ FM} hT => by
      obtain ⟨ts, q1, q2, q3⟩ := MoAt.at ⟨FM, hT.ma⟩
      obtain ⟨t, d, y, a1, a2, a3, a4⟩ := q3 J.n (by omega)
      have ey : y = lastSt J := by rw [lastSt_at hT.ok] at a3; cases a3; rfl
      subst ey
      exact ⟨ts, q1, q2, t, d, a1, a2⟩
    refine ⟨_, rfl, by omega, by omega, z_for_range (lo := 0) (n := mn) (fun i σ' H' => ∃ (sl pl ml : Addr) (J : Jr) (FJ FM : List Addr) (u10 u11 u12 u13 u14 : Option V),
      σ' = [some (.ref sc), some (.ref p), some (.ref o), some (.ref S), some (.ref mo), some (.ref j), some (.int (b + 1)), some (.ref sd), some (.int mn), some (.bl lg), u10, u11, u12, u13, u14, none] ∧ Ext [p, j, sl0, pl0, mo] HS H' ∧ Tn T.C_Journal ss K H' p j sl pl mo ml J FJ FM ∧ J.n ≤ i ∧ (0 ≤ lastSt J ∧ lastSt J ≤ 1000 + 1000 * i) ∧ (sl = sl0 ∨ HS sl = none) ∧ (pl = pl0 ∨ HS pl = none))
      ⟨sl0, pl0, ml, _, FJ0, [C0], _, _, _, _, _, rfl, eSU.mono (fun x m => by rw [List.mem_singleton.mp m]; exact List.mem_cons_self), TU, Nat.zero_le _, ⟨?_, ?_⟩, .inl rfl, .inl rfl⟩ ?_ ?_⟩
    · show (0 : Int) ≤ x
      exact x0
    · show x ≤ 1000 + 1000 * ((0 : Nat) : Int)
      omega
    · rintro N i σ' Ha hi ⟨sl, pl, ml, J, FJ, FM, u10, u11, u12, u13, u14, rfl, E1, Ta, Jn, ⟨s0, s1⟩, osl, opl⟩ hN
      walk_at "go"
      refine w_next_ Ta.po fun Hb eb Pb => ?_
      have Tb := Ta.pool eb Pb
      walk_at "go"
      have E1b : Ext [p, j, sl0, pl0, mo] HS Hb := E1.trans (eb.mono (fun x m => by rw [List.mem_singleton.mp m]; exact List.mem_cons_self))
      have A := Ta.ap
      have hob := E1b.keep _ _ (eES.keep _ _ hoE no_) hoM
      have hssb := hssE.ext E1b
      walk_at "go"
      refine w_question hU Pb hob nop hssb l1 (by omega) hsU ⟨_, Tb.ma⟩ Tb.ok (by omega) A.mp A.lp fun q X Hc ec Pc nq hq hfr hst => ?_
      have Tc := Tb.pool ec Pc
      walk_at "go"
      refine w_due hU ⟨_, Tc.ma⟩ Tc.ok hq fun od Hd ed nod aD => ?_
      have Td := Tc.ext0 ed
      have hqd := hq.ext ed (fun _ m => nomatch m)
      walk_at "go"
      refine w_told hU.1 Td.ja Td.ok (by omega) hqd fun ot sl' pl' J' FJ' He ee hJe hFJ' af own' not_ aT frT hR => ?_
      obtain ⟨⟨dxc, fsc, jc1⟩, ⟨xsc, jc2⟩, ysc, jc3⟩ := jlist Tc.ja
      obtain ⟨⟨zsc, mc1⟩, wsc, mc2⟩ := mlist Tc.ma
      obtain ⟨psc, pc1⟩ := pool_of Tc.po
      have jd1 := ed.keep _ _ jc1 no_
      have jd2 := ed.keep _ _ jc2 no_
      have jd3 := ed.keep _ _ jc3 no_
      have md1 := ed.keep _ _ mc1 no_
      have md2 := ed.keep _ _ mc2 no_
      have pd1 := ed.keep _ _ pc1 no_
      have jnd : ∀ x ∈ [j, sl, pl], ∀ kvs, Hd x ≠ some (.dT kvs) := fun x m kvs z => by
        simp only [List.mem_cons, List.not_mem_nil, or_false] at m
        rcases m with rfl | rfl | rfl
        · rw [jd1] at z; cases z
        · rw [jd2] at z; cases z
        · rw [jd3] at z; cases z
      have nodj : od ∉ [j, sl, pl] := fun m => by
        simp only [List.mem_cons, List.not_mem_nil, or_false] at m
        rcases m with rfl | rfl | rfl
        · rw [jc1] at nod; cases nod
        · rw [jc2] at nod; cases nod
        · rw [jc3] at nod; cases nod
      have Pe := Td.po.ext ee (fun m => by
        simp only [List.mem_cons, List.not_mem_nil, or_false] at m
        rcases m with m | m | m
        · exact A.jp m.symm
        · exact A.sp m.symm
        · exact A.pp m.symm)
      have Me : MoAtF ss He mo ml J FM := Td.ma.ext ee (fun x m => by
        simp only [List.mem_cons, List.not_mem_nil, or_false] at m
        rcases m with rfl | rfl | rfl
        · exact ⟨A.jm, A.jl⟩
        · exact ⟨A.ms.symm, A.ls.symm⟩
        · exact ⟨A.mq.symm, A.lq.symm⟩) jnd
      have A1 : Ap p j sl' pl' mo ml := by
        rcases own' with ⟨rfl, rfl⟩ | ⟨w1, w2⟩
        · exact A
        · exact ⟨A.jp, A.jm, A.jl, (ne_of_none pd1 w1).symm, (ne_of_none pd1 w2).symm, A.mp, A.lp, ne_of_none md1 w1, ne_of_none md1 w2, ne_of_none md2 w1, ne_of_none md2 w2⟩
      have qe := hqd.ext ee jnd
      walk_at "go"; walk_at "if"
      refine w_same (U := ss) ((Ans.extM ee nodj jnd aD).same hU.1 Td.ok aT) fun Hf ef => ?_
      walk_at "go"
      have aDf := (Ans.extM ee nodj jnd aD).ext ef
      have Mf := Me.ext0 ef
      have qf := qe.ext ef (fun _ m => nomatch m)
      have Jf := hJe.ext0 ef
      obtain ⟨⟨dxf, fsf, jf1⟩, ⟨xsf, jf2⟩, ysf, jf3⟩ := jlist Jf
      have pf1 := (pool_of (Pe.ext ef no_))
      refine w_cut (fun σ' H' => σ' = [some (.ref sc), some (.ref p), some (.ref o), some (.ref S), some (.ref mo), some (.ref j), some (.int (b + 1)), some (.ref sd), some (.int mn), some (.bl lg), some (.int (0 + i)), some (.ref q), some (.ref od), some (.ref ot), u14, none] ∧ ∃ ml' FM', Ext [mo] Hf H' ∧ MoAtF ss H' mo ml' J' FM' ∧ (ml' = ml ∨ Hf ml' = none) ∧ ∀ a ∈ FM', a ∈ FM ∨ Hf a = none) ?_ fun nx hn => ?_
      · rintro _ Hg ⟨rfl, ml', FM', eg, hMg, oml, nFM⟩
        have A2 : Ap p j sl' pl' mo ml' := by
          rcases oml with rfl | w
          · exact A1
          · obtain ⟨xsp, pf1⟩ := pf1
            exact ⟨A1.jp, A1.jm, ne_of_none jf1 w, A1.sp, A1.pp, A1.mp, (ne_of_none pf1 w).symm, A1.ms, A1.mq, (ne_of_none jf2 w).symm, (ne_of_none jf3 w).symm⟩
        have sok := suc_ok Td.ok af (q_ok hq)
        have sst := suc_st Td.ok s0 s1 af hst
        have Tg : Tn T.C_Journal ss K Hg p j sl' pl' mo ml' J' FJ' FM' := ⟨(Pe.ext ef no_).ext eg (nm1 A1.mp.symm), Jf.ext eg (fun x m => by rw [List.mem_singleton.mp m]; exact ⟨A1.jm.symm, A1.ms, A1.mq⟩) (fun x m kvs z => by rw [List.mem_singleton.mp m, Mf.ob] at z; cases z), hMg, sok.1, A2⟩
        have E1c := E1b.trans (ec.mono (fun x m => by rw [List.mem_singleton.mp m]; exact List.mem_cons_self))
        have E1d := E1c.trans ed.up
        have E1e : Ext [p, j, sl0, pl0, mo] HS He := E1d.more ee fun x m => by
          simp only [List.mem_cons, List.not_mem_nil, or_false] at m ⊢
          rcases m with rfl | rfl | rfl
          · exact .inl (.inr (.inl rfl))
          · exact osl.imp (fun z => .inr (.inr (.inl z))) id
          · exact opl.imp (fun z => .inr (.inr (.inr (.inl z)))) id
        have E1g : Ext [p, j, sl0, pl0, mo] HS Hg := (E1e.trans ef.up).more eg fun x m => .inl (by rw [List.mem_singleton.mp m]; simp)
        obtain ⟨qs, clrq, hqc, lqs, thq, hcq⟩ := items_q hq
        obtain ⟨ts, clro, hoe, lts, tho, hco⟩ := items_o aT
        have nmot : mo ≠ ot := ne_of_none md1 not_
        have hqg : Hg q = some (.tup qs) := eg.tup (ef.tup (ee.tup (ed.tup hqc)))
        have hog : Hg ot = some (.lst ts) := eg.keep _ _ (ef.keep _ _ hoe no_) (nm1 nmot.symm)
        have kd : ∀ {a : Addr} {kvs : List (List Key × V)}, He a = some (.dT kvs) → Hf a = some (.dT kvs) ∧ Hg a = some (.dT kvs) := fun {a kvs} h => by
          have hf := ef.keep _ _ h no_
          exact ⟨hf, eg.keep _ _ hf (nm1 (ne_of hf Mf.ob (fun z => nomatch z)))⟩
        have hcl : ∀ a ∈ clrq ++ clro, HS a = none ∧ (∃ kvs, Hg a = some (.dT kvs)) ∧ a ∉ FJ' ∧ a ∉ FM' := fun a m => by
          rcases List.mem_append.mp m with m | m
          · obtain ⟨⟨kvs, h⟩, ⟨z', x', hz⟩, nr⟩ := hcq a m
            have hb := hfr x' z' a hz
            have hd := ed.keep _ _ h no_
            have he := ee.keep _ _ hd (fun m => jnd a m kvs hd)
            obtain ⟨hf, hg⟩ := kd he
            refine ⟨E1b.free hb, ⟨_, hg⟩, fun w => ?_, fun w => ?_⟩
            · rcases hFJ' a w with w | w
              · obtain ⟨ob, w⟩ := Tb.ja.lv a w
                rw [hb] at w; cases w
              · rw [hd] at w; cases w
            · rcases nFM a w with w | w
              · obtain ⟨ob, w⟩ := Tb.ma.lv a w
                rw [hb] at w; cases w
              · rw [hf] at w; cases w
          · obtain ⟨⟨kvs, h⟩, ho1, ir⟩ := hco a m
            have hd := frT.1 a kvs ho1 h
            obtain ⟨hf, hg⟩ := kd h
            refine ⟨E1d.free hd, ⟨_, hg⟩, fun w => ?_, fun w => ?_⟩
            · rw [(hR ir).2.2.2] at w
              obtain ⟨ob, w⟩ := Td.ja.lv a w
              rw [hd] at w; cases w
            · rcases nFM a w with w | w
              · obtain ⟨ob, w⟩ := Td.ma.lv a w
                rw [hd] at w; cases w
              · rw [hf] at w; cases w
        walk_at "go"
        refine ⟨q, qs, rfl, .inr (sqt hqg), w_alc fun L Hh eh nL hL => ?_⟩
        walk_at "go"
        refine w_cat hL (eh.keep _ _ hog no_) (sz (by omega)) (w_alc fun X2 Hi ei nX hX => ?_)
        walk_at "go"
        have egi := eh.trans ei
        have hci : ∀ a ∈ clrq ++ clro, ∃ kvs, Hi a = some (.dT kvs) := fun a m => by
          obtain ⟨_, ⟨kvs, h⟩, _⟩ := hcl a m
          exact ⟨kvs, egi.keep _ _ h no_⟩
        have nXc : X2 ∉ clrq ++ clro := fun m => by
          obtain ⟨kvs, h⟩ := hci X2 m
          rw [hX] at h; cases h
        have hti : ∀ v ∈ qs ++ ts, Thing Hi (clrq ++ clro) v := fun v m => by
          rcases List.mem_append.mp m with m | m
          · rcases thq v m with ⟨a, ma, h⟩ | ⟨t, ys, h1, h2⟩ | h
            · exact .inl ⟨a, List.mem_append.mpr (.inl ma), h⟩
            · exact .inr (.inl ⟨t, ys, h1, egi.tup (eg.tup (ef.tup (ee.tup (ed.tup h2))))⟩)
            · exact .inr (.inr h)
          · rcases tho v m with ⟨a, ma, h⟩ | ⟨t, ys, h1, h2⟩ | h
            · exact .inl ⟨a, List.mem_append.mpr (.inr ma), h⟩
            · exact .inr (.inl ⟨t, ys, h1, egi.tup (eg.tup (ef.tup h2))⟩)
            · exact .inr (.inr h)
        refine ⟨X2, rfl, ⟨_, sql hX⟩, ?_⟩
        refine z_for_list (xs := qs ++ ts) (fun jj σ' H' => Ext (clrq ++ clro) Hi H' ∧ (∀ a ∈ clrq ++ clro, ∃ kvs, H' a = some (.dT kvs)) ∧ ∃ u14, σ' = [some (.ref sc), some (.ref p), some (.ref o), some (.ref S), some (.ref mo), some (.ref j), some (.int (b + 1)), some (.ref sd), some (.int mn), some (.bl lg), some (.int (0 + i)), some (.ref q), some (.ref od), some (.ref ot), u14, none])
          ⟨Ext.refl, hci, _, rfl⟩ (fun jj σ' H' _ ⟨e, _⟩ => sql (e.keep _ _ hX nXc)) ?_ ?_
        · rintro N' jj v σ' Hs hx ⟨es, hcs', u14', rfl⟩ hN'
          rcases hti v (List.mem_of_getElem? hx) with ⟨c, mc, rfl⟩ | ⟨t, ys, rfl, ht⟩ | ⟨w, rfl⟩ | ⟨w, rfl⟩ | rfl
          · obtain ⟨kvs, hc⟩ := hcs' c mc
            walk_at "go"; walk_at "if"
            refine w_isi (k := true) (.ty _) (TyX.base (.dT hc)) (kit_ty (by decide +kernel)) ?_
            walk_at "go"
            refine w_clearX hc fun Ht et ht => ?_
            refine hN' _ _ ⟨es.trans (et.mono fun x m => by rw [List.mem_singleton.mp m]; exact mc), fun a ma => ?_, _, rfl⟩
            by_cases e : a = c
            · exact ⟨[], by rw [e]; exact ht⟩
            · obtain ⟨kvs', h'⟩ := hcs' a ma
              exact ⟨kvs', et.keep _ _ h' (nm1 e)⟩
          · walk_at "go"; walk_at "if"
            refine w_isi (k := false) (.ty _) (.base (.tup (es.tup ht))) (kit_ty (by decide +kernel)) ?_
            walk_at "go"
            exact hN' _ _ ⟨es, hcs', _, rfl⟩
          · walk_at "go"; walk_at "if"
            refine w_isi (k := false) (.ty _) (.base (.str _)) (kit_ty (by decide +kernel)) ?_
            walk_at "go"
            exact hN' _ _ ⟨es, hcs', _, rfl⟩
          · walk_at "go"; walk_at "if"
            refine w_isi (k := false) (.ty _) (.base (.int _)) (kit_ty (by decide +kernel)) ?_
            walk_at "go"
            exact hN' _ _ ⟨es, hcs', _, rfl⟩
          · walk_at "go"; walk_at "if"
            refine w_isi (k := false) (.ty _) (.base .non) (kit_ty (by decide +kernel)) ?_
            walk_at "go"
            exact hN' _ _ ⟨es, hcs', _, rfl⟩
        · rintro σ' Hs ⟨es, hcs', u14', rfl⟩
          have Ts := (Tg.ext0 egi).dicts es hci (fun a m => (hcl a m).2.2.1) (fun a m => (hcl a m).2.2.2)
          have E1s : Ext [p, j, sl0, pl0, mo] HS Hs := (E1g.trans egi.up).more es fun a m => .inr (hcl a m).1
          have hqs : Hs q = some (.tup qs) := es.tup (egi.tup hqg)
          have notc : ot ∉ clrq ++ clro := fun m => by
            obtain ⟨kvs, h⟩ := hci ot m
            rw [egi.keep _ _ hog no_] at h; cases h
          have hos : Hs ot = some (.lst ts) := es.keep _ _ (egi.keep _ _ hog no_) notc
          walk_at "go"
          refine w_cut (fun σ' H' => σ' = [some (.ref sc), some (.ref p), some (.ref o), some (.ref S), some (.ref mo), some (.ref j), some (.int (b + 1)), some (.ref sd), some (.int mn), some (.bl lg), some (.int (0 + i)), some (.ref q), some (.ref od), some (.ref ot), u14', none] ∧ Ext [p, j, sl0, pl0, mo] HS H' ∧ Tn T.C_Journal ss K H' p j sl' pl' mo ml' J' FJ' FM') ?_ fun nx hn => ?_
          · rintro _ Ht ⟨rfl, E1t, Tt⟩
            have hmot := Tt.ma.ob
            obtain ⟨ts2, hml, lts2, t2, d2, a1, a2⟩ := ask Tt
            obtain ⟨sst0, sst1⟩ := sst
            have fin : ∀ H', Ext [p] Ht H' → Tn T.C_Journal ss K H' p j sl' pl' mo ml' J' FJ' FM' → ∃ (sl pl ml : Addr) (J : Jr) (FJ FM : List Addr) (u10 u11 u12 u13 u14 : Option V),
      [some (.ref sc), some (.ref p), some (.ref o), some (.ref S), some (.ref mo), some (.ref j), some (.int (b + 1)), some (.ref sd), some (.int mn), some (.bl lg), some (.int (0 + i)), some (.ref q), some (.ref od), some (.ref ot), u14', none] = [some (.ref sc), some (.ref p), some (.ref o), some (.ref S), some (.ref mo), some (.ref j), some (.int (b + 1)), some (.ref sd), some (.int mn), some (.bl lg), u10, u11, u12, u13, u14, none] ∧ Ext [p, j, sl0, pl0, mo] HS H' ∧ Tn T.C_Journal ss K H' p j sl pl mo ml J FJ FM ∧ J.n ≤ i + 1 ∧ (0 ≤ lastSt J ∧ lastSt J ≤ 1000 + 1000 * ((i + 1 : Nat) : Int)) ∧ (sl = sl0 ∨ HS sl = none) ∧ (pl = pl0 ∨ HS pl = none) := fun H' e t => by
              refine ⟨sl', pl', ml', J', FJ', FM', _, _, _, _, _, rfl, E1t.trans (e.mono fun x m => by rw [List.mem_singleton.mp m]; exact List.mem_cons_self), t, by have := sok.2; omega, ⟨sst0, by omega⟩, ?_, ?_⟩
              · rcases own' with ⟨z, _⟩ | ⟨z, _⟩
                · rw [z]; exact osl
                · exact .inr (E1d.free z)
              · rcases own' with ⟨_, z⟩ | ⟨_, z⟩
                · rw [z]; exact opl
                · exact .inr (E1d.free z)
            have J5 : J'.n ≤ 500 := by have := sok.2; omega
            walk_at "if"
            cases lg with
            | false =>
              walk_at "go"
              walk_at "if"
              refine w_ixL (sql hml) (at_last a1 (by rw [List.length_map, lts2])) ?_
              walk_at "go"
              refine w_draw Tt.po (by omega) (Int.lt_trans (show _ < (1000000 : Int) by omega) (by decide)) fun w Hu w0 w1 eu Pu => ?_
              have Tu := Tt.pool eu Pu
              walk_at "go"
              refine w_agrees hU Tu.ja.at ⟨_, Tu.ma⟩ Tu.ok (by omega) fun Hv ev => ?_
              walk_at "go"
              exact hN _ _ (fin Hv (eu.trans ev.up) (Tu.ext0 ev))
            | true =>
              walk_at "go"
              refine w_d (fun h => ?_) fun h => ?_
              · walk_at "go"; walk_at "if"
                refine w_ixL (sql hml) (at_last a1 (by rw [List.length_map, lts2])) ?_
                walk_at "go"
                refine w_draw Tt.po (by omega) (Int.lt_trans (show _ < (1000000 : Int) by omega) (by decide)) fun w Hu w0 w1 eu Pu => ?_
                have Tu := Tt.pool eu Pu
                walk_at "go"
                refine w_agrees hU Tu.ja.at ⟨_, Tu.ma⟩ Tu.ok (by omega) fun Hv ev => ?_
                walk_at "go"
                exact hN _ _ (fin Hv (eu.trans ev.up) (Tu.ext0 ev))
              · walk_at "go"
                exact hN _ _ (fin Ht Ext.refl Tt)
          · have skip : nx [some (.ref sc), some (.ref p), some (.ref o), some (.ref S), some (.ref mo), some (.ref j), some (.int (b + 1)), some (.ref sd), some (.int mn), some (.bl lg), some (.int (0 + i)), some (.ref q), some (.ref od), some (.ref ot), u14', none] Hs := hn _ _ ⟨rfl, E1s, Ts⟩
            cases X with
            | recd x' =>
              have hq0 : Hc q = some (.tup [.str sRec, .int x']) := hq
              have hqx := es.tup (egi.tup (eg.tup (ef.tup (ee.tup (ed.tup hq0)))))
              walk_at "if"
              refine w_t (by decide +kernel) ?_
              walk_at "go"
              rcases id aT with ⟨_, h⟩ | ⟨k', x2, t, r, _, _, _, h, h', d⟩
              · rw [hoe] at h
                cases h
                refine w_f (by simp) ?_
                walk_at "go"
                exact skip
              · have hrd := frT.2 t x2 r h h'
                rw [hoe] at h
                cases h
                have hts : Hs t = some (.tup [.int x2, .ref r]) := es.tup (egi.tup (eg.tup (ef.tup h')))
                obtain ⟨kvr, ksr, hr, _⟩ := id d
                obtain ⟨hrf, hrg⟩ := kd hr
                obtain ⟨kvs', hrs⟩ : ∃ kvs, Hs r = some (.dT kvs) := by
                  by_cases m : r ∈ clrq ++ clro
                  · exact hcs' r m
                  · exact ⟨_, es.keep _ _ (egi.keep _ _ hrg no_) m⟩
                refine w_t (by simp) ?_
                walk_at "go"
                refine w_clearX hrs fun Ht et ht => ?_
                walk_at "go"
                refine hn _ _ ⟨rfl, E1s.more et fun a m => .inr (by rw [List.mem_singleton.mp m]; exact E1d.free hrd), Ts.dicts et (fun a m => by rw [List.mem_singleton.mp m]; exact ⟨_, hrs⟩) (fun a m w => ?_) fun a m w => ?_⟩
                · rw [List.mem_singleton.mp m, (hR trivial).2.2.2] at w
                  obtain ⟨ob, w⟩ := Td.ja.lv r w
                  rw [hrd] at w; cases w
                · rw [List.mem_singleton.mp m] at w
                  rcases nFM r w with w | w
                  · obtain ⟨ob, w⟩ := Td.ma.lv r w
                    rw [hrd] at w; cases w
                  · rw [hrf] at w; cases w
            | add x' D' =>
              obtain ⟨dq, hq0, _⟩ := id hq
              have hqx := es.tup (egi.tup (eg.tup (ef.tup (ee.tup (ed.tup hq0)))))
              walk_at "if"
              refine w_f (by decide +kernel) ?_
              walk_at "go"
              exact skip
            | slots x' =>
              have hq0 : Hc q = some (.tup [.str sSlo, .int x']) := hq
              have hqx := es.tup (egi.tup (eg.tup (ef.tup (ee.tup (ed.tup hq0)))))
              walk_at "if"
              refine w_f (by decide +kernel) ?_
              walk_at "go"
              exact skip
            | cut x' =>
              have hq0 : Hc q = some (.tup [.str sCut, .int x']) := hq
              have hqx := es.tup (egi.tup (eg.tup (ef.tup (ee.tup (ed.tup hq0)))))
              walk_at "if"
              refine w_f (by decide +kernel) ?_
              walk_at "go"
              exact skip
            | btw x' z' =>
              have hq0 : Hc q = some (.tup [.str sBtw, .int x', .int z']) := hq
              have hqx := es.tup (egi.tup (eg.tup (ef.tup (ee.tup (ed.tup hq0)))))
              walk_at "if"
              refine w_f (by decide +kernel) ?_
              walk_at "go"
              exact skip
      · walk_at "if"
        rcases ans_suc aDf af with ⟨v, hv, su⟩ | ⟨v, w, hv, eJ⟩
        · refine w_lenL (sql hv) ?_
          walk_at "go"
          refine w_t (by simp) ?_
          walk_at "go"
          refine w_settle hU Mf Td.ok (by omega) qf su fun ml' FM' Hg eg oml hMg nFM => ?_
          walk_at "go"
          exact hn _ _ ⟨rfl, ml', FM', eg, hMg, oml, nFM⟩
        · refine w_lenL (sql hv) ?_
          walk_at "go"
          refine w_f (by simp) ?_
          walk_at "go"
          exact hn _ _ ⟨rfl, ml, FM, Ext.refl, eJ ▸ Mf, .inl rfl, fun a m => .inl m⟩
    · rintro σ' Ha ⟨sl, pl, ml, J, FJ, FM, u10, u11, u12, u13, u14, rfl, E1, Ta, Jn, ⟨s0, s1⟩, osl, opl⟩
      have hSa : JAtF T.C_Journal sideU Ha sd sl1 pl1 (sideJ (b + 1)) FS := hSS'.ext E1 (fun x m => (hbase x m).elim fun ob z => nP z.1) fun x m kvs z => by
        obtain ⟨ob, h, n⟩ := hbase x m
        rw [eES.keep _ _ h no_] at z
        cases z
        exact n _ rfl
      obtain ⟨dxa, fa, la, hsda, _⟩ := hSa.at.ob
      walk_at "go"
      refine w_meth hsda no_Journal_start_position ?_
      walk_at "go"
      refine ⟨_, rfl, sideU, sd, sl1, pl1, sideJ (b + 1), rfl, hSa.at, ?_⟩
      walk_at "go"
      refine w_meth hsda no_Journal_end_position ?_
      walk_at "go"
      refine w_endp hSa.at ?_
      walk_at "go"
      refine w_meth hsda no_Journal_slots_at ?_
      walk_at "go"
      refine w_jslots side_pln hSa.at (side_ok _) (fun h => absurd (show inJ (sideJ (b + 1)) (b + 1 + 1) from ⟨by show b + 1 ≤ b + 1 + 1; omega, by show b + 1 + 1 ≤ b + 1 + ((0 + 1 : Nat) : Int); omega⟩) h) fun kk ek kl r Hb eb nr hr => ?_
      have ekk : kk = 1 := by
        have : b + 1 + 1 = b + 1 + (kk : Int) := ek
        omega
      subst ekk
      rw [side_g] at hr
      have hSb := hSa.ext0 eb
      walk_at "go"
      refine w_meth (eb.keep _ _ hsda no_) no_Journal_position_at ?_
      walk_at "go"
      refine ⟨_, _, rfl, sideU, sd, sl1, pl1, sideJ (b + 1), 4, rfl, rfl, hSb.at, by rw [(side_ok _).ls]; exact Nat.le_of_ble_eq_true rfl, ?_⟩
      rw [side_p]
      walk_at "go"
      refine ⟨sz (by show 4 ≤ _; decide), w_alc fun kp Hc ec nk hk => ?_⟩
      walk_at "go"; walk_at "if"
      refine w_dispT fun Z3 Hd ed nZ3 hZ3 => ?_
      refine w_pcons ?_
      walk_at "go"
      refine ⟨sz (by show 3 ≤ _; decide), w_alc fun b3 He ee nb3 hb3 => ?_⟩
      walk_at "go"
      refine ⟨sz (by show 2 ≤ _; decide), w_alc fun c5 Hf ef nc5 hc5 => ?_⟩
      refine w_pnil ?_
      have hZf : Hf Z3 = some (.dT []) := ef.keep _ _ (ee.keep _ _ hZ3 no_) no_
      refine ⟨hZf, [(sKey sa, b3, .ref c5)], rfl, ?_, ?_⟩
      · intro y my
        rw [List.mem_singleton.mp my]
        exact ef.tup hb3
      have i5 : Im Hf (.ref c5) (cl 2) := .tup hc5 (show 2 ≤ 1000 by decide) (.cons (.str _) (.cons (.int _) .nil))
      have eg : Ext [Z3] Hf (upd Hf Z3 (.dT (putAll [(sKey sa, b3, .ref c5)] []))) := Ext.mut hZf (fun z => z) (List.mem_singleton.mpr rfl)
      have hZg := one_dm (b := b3) i5 _ eg upd_same
      generalize upd Hf Z3 (.dT (putAll [(sKey sa, b3, .ref c5)] [])) = Hg at eg hZg ⊢
      have ecg : Ext [] Hc Hg := ((ed.trans ee).trans ef).more eg fun x m => .inr (by rw [List.mem_singleton.mp m]; exact nZ3)
      walk_at "go"
      refine ⟨sz (by show 4 ≤ _; decide), w_alc fun wt Hh eh nw hw => ?_⟩
      have ecH := ecg.trans eh
      walk_at "go"
      have sqi : ∀ (n : Int), Sq sideU 7 Hh (.int n) (.int n) := fun n => Sq.im (d := .int n) (by simp [PyData.depth]) (.int _) (.int _)
      refine w_same (U := sideU) (.inr (.inl ⟨wt, kp, _, _, rfl, rfl, hw, ecH.keep _ _ hk no_, Nat.le_of_ble_eq_true rfl, .cons (sqi _) (.cons (sqi _) (.cons (sq_dict side_pln (by decide) (hZg.ext eh no_) ((hr.ext ec no_).ext ecH no_) (dp_up (dp_st4 f2_stt) (by decide))) (.cons ?_ .nil)))⟩)) fun Hi ei => ?_
      · rw [show b + 1 + ((0 : Nat) : Int) = b + 1 by omega]
        exact sqi _
      have eai := ((eb.trans ec).trans ecH).trans ei
      have Ti := Ta.ext0 eai
      have hmoi := Ti.ma.ob
      obtain ⟨ts, hml, lts, t, d, a1, a2⟩ := ask Ti
      walk_at "go"
      refine w_ixL (sql hml) (at_last a1 (by rw [List.length_map, lts])) ?_
      walk_at "go"
      refine w_draw Ti.po (by omega) (Int.lt_trans (show _ < (1000000 : Int) by omega) (by decide)) fun w Hj w0 w1 ej Pj => ?_
      have Tj := Ti.pool ej Pj
      walk_at "go"
      refine w_agrees hU Tj.ja.at ⟨_, Tj.ma⟩ Tj.ok (by omega) fun Hk ek => ?_
      exact k _
  · walk_at "if"
    refine w_d (fun h => ?_) fun h => ?_
    · walk_at "go"
      exact hn _ _ ⟨rfl, 130, decide (z = 5), Nat.le_refl _, rfl⟩
    · walk_at "go"
      obtain ⟨mn, emn⟩ : ∃ mn : Nat, 2 + y = mn := ⟨(2 + y).toNat, by omega⟩
      rw [emn]
      exact hn _ _ ⟨rfl, mn, decide (z = 5), by omega, rfl⟩
end
theorem all_mk {l : PySem.W.OpenLaw} {w : World} {K : PySem.W.Frag} {h : Heap} {mg : Str → Option Value} {fa : Addr} (X : K.In h) (G : h.Ns mainGlobals mg) (hfa : mg "law" = some (.ref fa))
    {f_slots_of_both : Addr} {od_slots_of_both an_slots_of_both : Option Addr} {sl_slots_of_both : Array (Option Value)} {oc_slots_of_both kV_slots_of_both dc_slots_of_both pm_slots_of_both cd_slots_of_both ct_slots_of_both : Value} {f_between : Addr} {od_between an_between : Option Addr} {sl_between : Array (Option Value)} {oc_between kV_between dc_between pm_between cd_between ct_between : Value} {f_applied : Addr} {od_applied an_applied : Option Addr} {sl_applied : Array (Option Value)} {oc_applied kV_applied dc_applied pm_applied cd_applied ct_applied : Value} {f_Journal___init__ : Addr} {od_Journal___init__ an_Journal___init__ : Option Addr} {sl_Journal___init__ : Array (Option Value)} {oc_Journal___init__ kV_Journal___init__ dc_Journal___init__ pm_Journal___init__ cd_Journal___init__ ct_Journal___init__ : Value} {f_Journal_add_record : Addr} {od_Journal_add_record an_Journal_add_record : Option Addr} {sl_Journal_add_record : Array (Option Value)} {oc_Journal_add_record kV_Journal_add_record dc_Journal_add_record pm_Journal_add_record cd_Journal_add_record ct_Journal_add_record : Value} {f_Journal_start_position : Addr} {od_Journal_start_position an_Journal_start_position : Option Addr} {sl_Journal_start_position : Array (Option Value)} {oc_Journal_start_position kV_Journal_start_position dc_Journal_start_position pm_Journal_start_position cd_Journal_start_position ct_Journal_start_position : Value} {f_Journal_end_position : Addr} {od_Journal_end_position an_Journal_end_position : Option Addr} {sl_Journal_end_position : Array (Option Value)} {oc_Journal_end_position kV_Journal_end_position dc_Journal_end_position pm_Journal_end_position cd_Journal_end_position ct_Journal_end_position : Value} {f_Journal_need_position : Addr} {od_Journal_need_position an_Journal_need_position : Option Addr} {sl_Journal_need_position : Array (Option Value)} {oc_Journal_need_position kV_Journal_need_position dc_Journal_need_position pm_Journal_need_position cd_Journal_need_position ct_Journal_need_position : Value} {f_Journal_slots_at : Addr} {od_Journal_slots_at an_Journal_slots_at : Option Addr} {sl_Journal_slots_at : Array (Option Value)} {oc_Journal_slots_at kV_Journal_slots_at dc_Journal_slots_at pm_Journal_slots_at cd_Journal_slots_at ct_Journal_slots_at : Value} {f_Journal_record : Addr} {od_Journal_record an_Journal_record : Option Addr} {sl_Journal_record : Array (Option Value)} {oc_Journal_record kV_Journal_record dc_Journal_record pm_Journal_record cd_Journal_record ct_Journal_record : Value} {f_Journal_difference_between : Addr} {od_Journal_difference_between an_Journal_difference_between : Option Addr} {sl_Journal_difference_between : Array (Option Value)} {oc_Journal_difference_between kV_Journal_difference_between dc_Journal_difference_between pm_Journal_difference_between cd_Journal_difference_between ct_Journal_difference_between : Value} {f_Journal_position_at : Addr} {od_Journal_position_at an_Journal_position_at : Option Addr} {sl_Journal_position_at : Array (Option Value)} {oc_Journal_position_at kV_Journal_position_at dc_Journal_position_at pm_Journal_position_at cd_Journal_position_at ct_Journal_position_at : Value} {f_Journal_cut : Addr} {od_Journal_cut an_Journal_cut : Option Addr} {sl_Journal_cut : Array (Option Value)} {oc_Journal_cut kV_Journal_cut dc_Journal_cut pm_Journal_cut cd_Journal_cut ct_Journal_cut : Value} {f_law_mixed : Addr} {od_law_mixed an_law_mixed : Option Addr} {sl_law_mixed : Array (Option Value)} {oc_law_mixed kV_law_mixed dc_law_mixed pm_law_mixed cd_law_mixed ct_law_mixed : Value} {f_law_rest : Addr} {od_law_rest an_law_rest : Option Addr} {sl_law_rest : Array (Option Value)} {oc_law_rest kV_law_rest dc_law_rest pm_law_rest cd_law_rest ct_law_rest : Value} {f_law_pool : Addr} {od_law_pool an_law_pool : Option Addr} {sl_law_pool : Array (Option Value)} {oc_law_pool kV_law_pool dc_law_pool pm_law_pool cd_law_pool ct_law_pool : Value} {f_law_next : Addr} {od_law_next an_law_next : Option Addr} {sl_law_next : Array (Option Value)} {oc_law_next kV_law_next dc_law_next pm_law_next cd_law_next ct_law_next : Value} {f_law_draw : Addr} {od_law_draw an_law_draw : Option Addr} {sl_law_draw : Array (Option Value)} {oc_law_draw kV_law_draw dc_law_draw pm_law_draw cd_law_draw ct_law_draw : Value} {f_law_pick : Addr} {od_law_pick an_law_pick : Option Addr} {sl_law_pick : Array (Option Value)} {oc_law_pick kV_law_pick dc_law_pick pm_law_pick cd_law_pick ct_law_pick : Value} {f_law_same : Addr} {od_law_same an_law_same : Option Addr} {sl_law_same : Array (Option Value)} {oc_law_same kV_law_same dc_law_same pm_law_same cd_law_same ct_law_same : Value} {f_law_name : Addr} {od_law_name an_law_name : Option Addr} {sl_law_name : Array (Option Value)} {oc_law_name kV_law_name dc_law_name pm_law_name cd_law_name ct_law_name : Value} {f_law_cells : Addr} {od_law_cells an_law_cells : Option Addr} {sl_law_cells : Array (Option Value)} {oc_law_cells kV_law_cells dc_law_cells pm_law_cells cd_law_cells ct_law_cells : Value} {f_law_content : Addr} {od_law_content an_law_content : Option Addr} {sl_law_content : Array (Option Value)} {oc_law_content kV_law_content dc_law_content pm_law_content cd_law_content ct_law_content : Value} {f_law_universe : Addr} {od_law_universe an_law_universe : Option Addr} {sl_law_universe : Array (Option Value)} {oc_law_universe kV_law_universe dc_law_universe pm_law_universe cd_law_universe ct_law_universe : Value} {f_law_copy : Addr} {od_law_copy an_law_copy : Option Addr} {sl_law_copy : Array (Option Value)} {oc_law_copy kV_law_copy dc_law_copy pm_law_copy cd_law_copy ct_law_copy : Value} {f_law_without : Addr} {od_law_without an_law_without : Option Addr} {sl_law_without : Array (Option Value)} {oc_law_without kV_law_without dc_law_without pm_law_without cd_law_without ct_law_without : Value} {f_law_moved : Addr} {od_law_moved an_law_moved : Option Addr} {sl_law_moved : Array (Option Value)} {oc_law_moved kV_law_moved dc_law_moved pm_law_moved cd_law_moved ct_law_moved : Value} {f_law_between : Addr} {od_law_between an_law_between : Option Addr} {sl_law_between : Array (Option Value)} {oc_law_between kV_law_between dc_law_between pm_law_between cd_law_between ct_law_between : Value} {f_law_applied : Addr} {od_law_applied an_law_applied : Option Addr} {sl_law_applied : Array (Option Value)} {oc_law_applied kV_law_applied dc_law_applied pm_law_applied cd_law_applied ct_law_applied : Value} {f_law_told : Addr} {od_law_told an_law_told : Option Addr} {sl_law_told : Array (Option Value)} {oc_law_told kV_law_told dc_law_told pm_law_told cd_law_told ct_law_told : Value} {f_law_due : Addr} {od_law_due an_law_due : Option Addr} {sl_law_due : Array (Option Value)} {oc_law_due kV_law_due dc_law_due pm_law_due cd_law_due ct_law_due : Value} {f_law_settle : Addr} {od_law_settle an_law_settle : Option Addr} {sl_law_settle : Array (Option Value)} {oc_law_settle kV_law_settle dc_law_settle pm_law_settle cd_law_settle ct_law_settle : Value} {f_law_position_at : Addr} {od_law_position_at an_law_position_at : Option Addr} {sl_law_position_at : Array (Option Value)} {oc_law_position_at kV_law_position_at dc_law_position_at pm_law_position_at cd_law_position_at ct_law_position_at : Value} {f_law_question : Addr} {od_law_question an_law_question : Option Addr} {sl_law_question : Array (Option Value)} {oc_law_question kV_law_question dc_law_question pm_law_question cd_law_question ct_law_question : Value} {f_law_agrees : Addr} {od_law_agrees an_law_agrees : Option Addr} {sl_law_agrees : Array (Option Value)} {oc_law_agrees kV_law_agrees dc_law_agrees pm_law_agrees cd_law_agrees ct_law_agrees : Value} {f_law : Addr} {od_law an_law : Option Addr} {sl_law : Array (Option Value)} {oc_law kV_law dc_law pm_law cd_law ct_law : Value} {CC_Journal : Addr} {C_StoreError : Addr} {C_Mismatch : Addr} {C_NoMoment : Addr} {C_StampBack : Addr} {C_Journal : Addr} {I_Mismatch : Addr} {nm_Mismatch q_Mismatch : Str} {N_Mismatch : Addr} {bs_Mismatch bm_Mismatch : List Value} {sn_Mismatch : List Str} {sub_Mismatch : List Value} {ab_Mismatch : Bool} {col_Mismatch : Option Bool} {dd_Mismatch : Option Addr} {m0_Mismatch m1_Mismatch m2_Mismatch m3_Mismatch m5_Mismatch : Option Value} {oc_Mismatch : Value} {od_Mismatch : Option Addr} {dc_Mismatch pm_Mismatch : Value} {an_Mismatch : Option Addr} {cda_Mismatch : Addr} {ct_Mismatch : Value} {osl_Mismatch : Array (Option Value)} {cc_Mismatch : Addr} {cl_Mismatch : Value} {cld_Mismatch : Option Addr} {csl_Mismatch : Array (Option Value)} {vs_Mismatch : Array Value} {ccl_Mismatch : Value} {cdd_Mismatch : Option Addr} {ccs_Mismatch : Array (Option Value)} {file_Mismatch : Str} {tf_Mismatch : Tok} {I_NoMoment : Addr} {nm_NoMoment q_NoMoment : Str} {N_NoMoment : Addr} {bs_NoMoment bm_NoMoment : List Value} {sn_NoMoment : List Str} {sub_NoMoment : List Value} {ab_NoMoment : Bool} {col_NoMoment : Option Bool} {dd_NoMoment : Option Addr} {m0_NoMoment m1_NoMoment m2_NoMoment m3_NoMoment m5_NoMoment : Option Value} {oc_NoMoment : Value} {od_NoMoment : Option Addr} {dc_NoMoment pm_NoMoment : Value} {an_NoMoment : Option Addr} {cda_NoMoment : Addr} {ct_NoMoment : Value} {osl_NoMoment : Array (Option Value)} {cc_NoMoment : Addr} {cl_NoMoment : Value} {cld_NoMoment : Option Addr} {csl_NoMoment : Array (Option Value)} {vs_NoMoment : Array Value} {ccl_NoMoment : Value} {cdd_NoMoment : Option Addr} {ccs_NoMoment : Array (Option Value)} {file_NoMoment : Str} {tf_NoMoment : Tok} {I_StampBack : Addr} {nm_StampBack q_StampBack : Str} {N_StampBack : Addr} {bs_StampBack bm_StampBack : List Value} {sn_StampBack : List Str} {sub_StampBack : List Value} {ab_StampBack : Bool} {col_StampBack : Option Bool} {dd_StampBack : Option Addr} {m0_StampBack m1_StampBack m2_StampBack m3_StampBack m5_StampBack : Option Value} {oc_StampBack : Value} {od_StampBack : Option Addr} {dc_StampBack pm_StampBack : Value} {an_StampBack : Option Addr} {cda_StampBack : Addr} {ct_StampBack : Value} {osl_StampBack : Array (Option Value)} {cc_StampBack : Addr} {cl_StampBack : Value} {cld_StampBack : Option Addr} {csl_StampBack : Array (Option Value)} {vs_StampBack : Array Value} {ccl_StampBack : Value} {cdd_StampBack : Option Addr} {ccs_StampBack : Array (Option Value)} {file_StampBack : Str} {tf_StampBack : Tok} 
    (a_slots_of_both : PySem.W.nsIn K mainGlobals "slots_of_both" = some (some (.ref f_slots_of_both)))
    (l_slots_of_both : K.lookup f_slots_of_both = some ⟨oc_slots_of_both, od_slots_of_both, .func (PySem.W.fnOf "slots_of_both" "slots_of_both" (defArgs s_slots_of_both) (defBody s_slots_of_both) (defScope s_slots_of_both) .none kV_slots_of_both dc_slots_of_both pm_slots_of_both an_slots_of_both cd_slots_of_both ct_slots_of_both), sl_slots_of_both⟩)
    (c_slots_of_both : PySem.W.codeIn K cd_slots_of_both "slots_of_both" = true)
    (k_slots_of_both : PySem.W.keepIn K (.ref f_slots_of_both) = true)
    (a_between : PySem.W.nsIn K mainGlobals "between" = some (some (.ref f_between)))
    (l_between : K.lookup f_between = some ⟨oc_between, od_between, .func (PySem.W.fnOf "between" "between" (defArgs s_between) (defBody s_between) (defScope s_between) .none kV_between dc_between pm_between an_between cd_between ct_between), sl_between⟩)
    (c_between : PySem.W.codeIn K cd_between "between" = true)
    (k_between : PySem.W.keepIn K (.ref f_between) = true)
    (a_applied : PySem.W.nsIn K mainGlobals "applied" = some (some (.ref f_applied)))
    (l_applied : K.lookup f_applied = some ⟨oc_applied, od_applied, .func (PySem.W.fnOf "applied" "applied" (defArgs s_applied) (defBody s_applied) (defScope s_applied) .none kV_applied dc_applied pm_applied an_applied cd_applied ct_applied), sl_applied⟩)
    (c_applied : PySem.W.codeIn K cd_applied "applied" = true)
    (k_applied : PySem.W.keepIn K (.ref f_applied) = true)
    (ca_Journal : PySem.W.nsIn K mainGlobals "Journal" = some (some (.ref CC_Journal)))
    (pg_Journal : PySem.W.plainGet K CC_Journal Str.empty = true)
    (hd_Journal : PySem.W.hasDictIn K CC_Journal = true)
    (po_Journal : PySem.W.plainOver K CC_Journal = true)
    (sa_Journal : PySem.W.findIn K (.ref CC_Journal) "__setattr__" = some (some (.builtin "object.__setattr__")))
    (mk_Journal : PySem.W.makesIn K CC_Journal = true)
    (kc_Journal : PySem.W.keepIn K (.ref CC_Journal) = true)
    (na_begin_Journal : PySem.W.findIn K (.ref CC_Journal) "begin" = some none)
    (na_stamps_Journal : PySem.W.findIn K (.ref CC_Journal) "stamps" = some none)
    (na_first_slots_Journal : PySem.W.findIn K (.ref CC_Journal) "first_slots" = some none)
    (na_last_slots_Journal : PySem.W.findIn K (.ref CC_Journal) "last_slots" = some none)
    (na_steps_Journal : PySem.W.findIn K (.ref CC_Journal) "steps" = some none)
    (a_Journal___init__ : PySem.W.findIn K (.ref CC_Journal) "__init__" = some (some (.ref f_Journal___init__)))
    (i_Journal___init__ : PySem.W.isFn K (.ref f_Journal___init__) = true)
    (l_Journal___init__ : K.lookup f_Journal___init__ = some ⟨oc_Journal___init__, od_Journal___init__, .func (PySem.W.fnOf "__init__" "Journal.__init__" (defArgs s_Journal___init__) (defBody s_Journal___init__) (defScope s_Journal___init__) .none kV_Journal___init__ dc_Journal___init__ pm_Journal___init__ an_Journal___init__ cd_Journal___init__ ct_Journal___init__), sl_Journal___init__⟩)
    (c_Journal___init__ : PySem.W.codeIn K cd_Journal___init__ "Journal.__init__" = true)
    (k_Journal___init__ : PySem.W.keepIn K (.ref f_Journal___init__) = true)
    (a_Journal_add_record : PySem.W.findIn K (.ref CC_Journal) "add_record" = some (some (.ref f_Journal_add_record)))
    (i_Journal_add_record : PySem.W.isFn K (.ref f_Journal_add_record) = true)
    (l_Journal_add_record : K.lookup f_Journal_add_record = some ⟨oc_Journal_add_record, od_Journal_add_record, .func (PySem.W.fnOf "add_record" "Journal.add_record" (defArgs s_Journal_add_record) (defBody s_Journal_add_record) (defScope s_Journal_add_record) .none kV_Journal_add_record dc_Journal_add_record pm_Journal_add_record an_Journal_add_record cd_Journal_add_record ct_Journal_add_record), sl_Journal_add_record⟩)
    (c_Journal_add_record : PySem.W.codeIn K cd_Journal_add_record "Journal.add_record" = true)
    (k_Journal_add_record : PySem.W.keepIn K (.ref f_Journal_add_record) = true)
    (a_Journal_start_position : PySem.W.findIn K (.ref CC_Journal) "start_position" = some (some (.ref f_Journal_start_position)))
    (i_Journal_start_position : PySem.W.isFn K (.ref f_Journal_start_position) = true)
    (l_Journal_start_position : K.lookup f_Journal_start_position = some ⟨oc_Journal_start_position, od_Journal_start_position, .func (PySem.W.fnOf "start_position" "Journal.start_position" (defArgs s_Journal_start_position) (defBody s_Journal_start_position) (defScope s_Journal_start_position) .none kV_Journal_start_position dc_Journal_start_position pm_Journal_start_position an_Journal_start_position cd_Journal_start_position ct_Journal_start_position), sl_Journal_start_position⟩)
    (c_Journal_start_position : PySem.W.codeIn K cd_Journal_start_position "Journal.start_position" = true)
    (k_Journal_start_position : PySem.W.keepIn K (.ref f_Journal_start_position) = true)
    (a_Journal_end_position : PySem.W.findIn K (.ref CC_Journal) "end_position" = some (some (.ref f_Journal_end_position)))
    (i_Journal_end_position : PySem.W.isFn K (.ref f_Journal_end_position) = true)
    (l_Journal_end_position : K.lookup f_Journal_end_position = some ⟨oc_Journal_end_position, od_Journal_end_position, .func (PySem.W.fnOf "end_position" "Journal.end_position" (defArgs s_Journal_end_position) (defBody s_Journal_end_position) (defScope s_Journal_end_position) .none kV_Journal_end_position dc_Journal_end_position pm_Journal_end_position an_Journal_end_position cd_Journal_end_position ct_Journal_end_position), sl_Journal_end_position⟩)
    (c_Journal_end_position : PySem.W.codeIn K cd_Journal_end_position "Journal.end_position" = true)
    (k_Journal_end_position : PySem.W.keepIn K (.ref f_Journal_end_position) = true)
    (a_Journal_need_position : PySem.W.findIn K (.ref CC_Journal) "need_position" = some (some (.ref f_Journal_need_position)))
    (i_Journal_need_position : PySem.W.isFn K (.ref f_Journal_need_position) = true)
    (l_Journal_need_position : K.lookup f_Journal_need_position = some ⟨oc_Journal_need_position, od_Journal_need_position, .func (PySem.W.fnOf "need_position" "Journal.need_position" (defArgs s_Journal_need_position) (defBody s_Journal_need_position) (defScope s_Journal_need_position) .none kV_Journal_need_position dc_Journal_need_position pm_Journal_need_position an_Journal_need_position cd_Journal_need_position ct_Journal_need_position), sl_Journal_need_position⟩)
    (c_Journal_need_position : PySem.W.codeIn K cd_Journal_need_position "Journal.need_position" = true)
    (k_Journal_need_position : PySem.W.keepIn K (.ref f_Journal_need_position) = true)
    (a_Journal_slots_at : PySem.W.findIn K (.ref CC_Journal) "slots_at" = some (some (.ref f_Journal_slots_at)))
    (i_Journal_slots_at : PySem.W.isFn K (.ref f_Journal_slots_at) = true)
    (l_Journal_slots_at : K.lookup f_Journal_slots_at = some ⟨oc_Journal_slots_at, od_Journal_slots_at, .func (PySem.W.fnOf "slots_at" "Journal.slots_at" (defArgs s_Journal_slots_at) (defBody s_Journal_slots_at) (defScope s_Journal_slots_at) .none kV_Journal_slots_at dc_Journal_slots_at pm_Journal_slots_at an_Journal_slots_at cd_Journal_slots_at ct_Journal_slots_at), sl_Journal_slots_at⟩)
    (c_Journal_slots_at : PySem.W.codeIn K cd_Journal_slots_at "Journal.slots_at" = true)
    (k_Journal_slots_at : PySem.W.keepIn K (.ref f_Journal_slots_at) = true)
    (a_Journal_record : PySem.W.findIn K (.ref CC_Journal) "record" = some (some (.ref f_Journal_record)))
    (i_Journal_record : PySem.W.isFn K (.ref f_Journal_record) = true)
    (l_Journal_record : K.lookup f_Journal_record = some ⟨oc_Journal_record, od_Journal_record, .func (PySem.W.fnOf "record" "Journal.record" (defArgs s_Journal_record) (defBody s_Journal_record) (defScope s_Journal_record) .none kV_Journal_record dc_Journal_record pm_Journal_record an_Journal_record cd_Journal_record ct_Journal_record), sl_Journal_record⟩)
    (c_Journal_record : PySem.W.codeIn K cd_Journal_record "Journal.record" = true)
    (k_Journal_record : PySem.W.keepIn K (.ref f_Journal_record) = true)
    (a_Journal_difference_between : PySem.W.findIn K (.ref CC_Journal) "difference_between" = some (some (.ref f_Journal_difference_between)))
    (i_Journal_difference_between : PySem.W.isFn K (.ref f_Journal_difference_between) = true)
    (l_Journal_difference_between : K.lookup f_Journal_difference_between = some ⟨oc_Journal_difference_between, od_Journal_difference_between, .func (PySem.W.fnOf "difference_between" "Journal.difference_between" (defArgs s_Journal_difference_between) (defBody s_Journal_difference_between) (defScope s_Journal_difference_between) .none kV_Journal_difference_between dc_Journal_difference_between pm_Journal_difference_between an_Journal_difference_between cd_Journal_difference_between ct_Journal_difference_between), sl_Journal_difference_between⟩)
    (c_Journal_difference_between : PySem.W.codeIn K cd_Journal_difference_between "Journal.difference_between" = true)
    (k_Journal_difference_between : PySem.W.keepIn K (.ref f_Journal_difference_between) = true)
    (a_Journal_position_at : PySem.W.findIn K (.ref CC_Journal) "position_at" = some (some (.ref f_Journal_position_at)))
    (i_Journal_position_at : PySem.W.isFn K (.ref f_Journal_position_at) = true)
    (l_Journal_position_at : K.lookup f_Journal_position_at = some ⟨oc_Journal_position_at, od_Journal_position_at, .func (PySem.W.fnOf "position_at" "Journal.position_at" (defArgs s_Journal_position_at) (defBody s_Journal_position_at) (defScope s_Journal_position_at) .none kV_Journal_position_at dc_Journal_position_at pm_Journal_position_at an_Journal_position_at cd_Journal_position_at ct_Journal_position_at), sl_Journal_position_at⟩)
    (c_Journal_position_at : PySem.W.codeIn K cd_Journal_position_at "Journal.position_at" = true)
    (k_Journal_position_at : PySem.W.keepIn K (.ref f_Journal_position_at) = true)
    (a_Journal_cut : PySem.W.findIn K (.ref CC_Journal) "cut" = some (some (.ref f_Journal_cut)))
    (i_Journal_cut : PySem.W.isFn K (.ref f_Journal_cut) = true)
    (l_Journal_cut : K.lookup f_Journal_cut = some ⟨oc_Journal_cut, od_Journal_cut, .func (PySem.W.fnOf "cut" "Journal.cut" (defArgs s_Journal_cut) (defBody s_Journal_cut) (defScope s_Journal_cut) .none kV_Journal_cut dc_Journal_cut pm_Journal_cut an_Journal_cut cd_Journal_cut ct_Journal_cut), sl_Journal_cut⟩)
    (c_Journal_cut : PySem.W.codeIn K cd_Journal_cut "Journal.cut" = true)
    (k_Journal_cut : PySem.W.keepIn K (.ref f_Journal_cut) = true)
    (a_law_mixed : PySem.W.nsIn K mainGlobals "_law_mixed" = some (some (.ref f_law_mixed)))
    (l_law_mixed : K.lookup f_law_mixed = some ⟨oc_law_mixed, od_law_mixed, .func (PySem.W.fnOf "_law_mixed" "_law_mixed" (defArgs s_law_mixed) (defBody s_law_mixed) (defScope s_law_mixed) .none kV_law_mixed dc_law_mixed pm_law_mixed an_law_mixed cd_law_mixed ct_law_mixed), sl_law_mixed⟩)
    (c_law_mixed : PySem.W.codeIn K cd_law_mixed "_law_mixed" = true)
    (k_law_mixed : PySem.W.keepIn K (.ref f_law_mixed) = true)
    (a_law_rest : PySem.W.nsIn K mainGlobals "_law_rest" = some (some (.ref f_law_rest)))
    (l_law_rest : K.lookup f_law_rest = some ⟨oc_law_rest, od_law_rest, .func (PySem.W.fnOf "_law_rest" "_law_rest" (defArgs s_law_rest) (defBody s_law_rest) (defScope s_law_rest) .none kV_law_rest dc_law_rest pm_law_rest an_law_rest cd_law_rest ct_law_rest), sl_law_rest⟩)
    (c_law_rest : PySem.W.codeIn K cd_law_rest "_law_rest" = true)
    (k_law_rest : PySem.W.keepIn K (.ref f_law_rest) = true)
    (a_law_pool : PySem.W.nsIn K mainGlobals "_law_pool" = some (some (.ref f_law_pool)))
    (l_law_pool : K.lookup f_law_pool = some ⟨oc_law_pool, od_law_pool, .func (PySem.W.fnOf "_law_pool" "_law_pool" (defArgs s_law_pool) (defBody s_law_pool) (defScope s_law_pool) .none kV_law_pool dc_law_pool pm_law_pool an_law_pool cd_law_pool ct_law_pool), sl_law_pool⟩)
    (c_law_pool : PySem.W.codeIn K cd_law_pool "_law_pool" = true)
    (k_law_pool : PySem.W.keepIn K (.ref f_law_pool) = true)
    (a_law_next : PySem.W.nsIn K mainGlobals "_law_next" = some (some (.ref f_law_next)))
    (l_law_next : K.lookup f_law_next = some ⟨oc_law_next, od_law_next, .func (PySem.W.fnOf "_law_next" "_law_next" (defArgs s_law_next) (defBody s_law_next) (defScope s_law_next) .none kV_law_next dc_law_next pm_law_next an_law_next cd_law_next ct_law_next), sl_law_next⟩)
    (c_law_next : PySem.W.codeIn K cd_law_next "_law_next" = true)
    (k_law_next : PySem.W.keepIn K (.ref f_law_next) = true)
    (a_law_draw : PySem.W.nsIn K mainGlobals "_law_draw" = some (some (.ref f_law_draw)))
    (l_law_draw : K.lookup f_law_draw = some ⟨oc_law_draw, od_law_draw, .func (PySem.W.fnOf "_law_draw" "_law_draw" (defArgs s_law_draw) (defBody s_law_draw) (defScope s_law_draw) .none kV_law_draw dc_law_draw pm_law_draw an_law_draw cd_law_draw ct_law_draw), sl_law_draw⟩)
    (c_law_draw : PySem.W.codeIn K cd_law_draw "_law_draw" = true)
    (k_law_draw : PySem.W.keepIn K (.ref f_law_draw) = true)
    (a_law_pick : PySem.W.nsIn K mainGlobals "_law_pick" = some (some (.ref f_law_pick)))
    (l_law_pick : K.lookup f_law_pick = some ⟨oc_law_pick, od_law_pick, .func (PySem.W.fnOf "_law_pick" "_law_pick" (defArgs s_law_pick) (defBody s_law_pick) (defScope s_law_pick) .none kV_law_pick dc_law_pick pm_law_pick an_law_pick cd_law_pick ct_law_pick), sl_law_pick⟩)
    (c_law_pick : PySem.W.codeIn K cd_law_pick "_law_pick" = true)
    (k_law_pick : PySem.W.keepIn K (.ref f_law_pick) = true)
    (a_law_same : PySem.W.nsIn K mainGlobals "_law_same" = some (some (.ref f_law_same)))
    (l_law_same : K.lookup f_law_same = some ⟨oc_law_same, od_law_same, .func (PySem.W.fnOf "_law_same" "_law_same" (defArgs s_law_same) (defBody s_law_same) (defScope s_law_same) .none kV_law_same dc_law_same pm_law_same an_law_same cd_law_same ct_law_same), sl_law_same⟩)
    (c_law_same : PySem.W.codeIn K cd_law_same "_law_same" = true)
    (k_law_same : PySem.W.keepIn K (.ref f_law_same) = true)
    (a_law_name : PySem.W.nsIn K mainGlobals "_law_name" = some (some (.ref f_law_name)))
    (l_law_name : K.lookup f_law_name = some ⟨oc_law_name, od_law_name, .func (PySem.W.fnOf "_law_name" "_law_name" (defArgs s_law_name) (defBody s_law_name) (defScope s_law_name) .none kV_law_name dc_law_name pm_law_name an_law_name cd_law_name ct_law_name), sl_law_name⟩)
    (c_law_name : PySem.W.codeIn K cd_law_name "_law_name" = true)
    (k_law_name : PySem.W.keepIn K (.ref f_law_name) = true)
    (a_law_cells : PySem.W.nsIn K mainGlobals "_law_cells" = some (some (.ref f_law_cells)))
    (l_law_cells : K.lookup f_law_cells = some ⟨oc_law_cells, od_law_cells, .func (PySem.W.fnOf "_law_cells" "_law_cells" (defArgs s_law_cells) (defBody s_law_cells) (defScope s_law_cells) .none kV_law_cells dc_law_cells pm_law_cells an_law_cells cd_law_cells ct_law_cells), sl_law_cells⟩)
    (c_law_cells : PySem.W.codeIn K cd_law_cells "_law_cells" = true)
    (k_law_cells : PySem.W.keepIn K (.ref f_law_cells) = true)
    (a_law_content : PySem.W.nsIn K mainGlobals "_law_content" = some (some (.ref f_law_content)))
    (l_law_content : K.lookup f_law_content = some ⟨oc_law_content, od_law_content, .func (PySem.W.fnOf "_law_content" "_law_content" (defArgs s_law_content) (defBody s_law_content) (defScope s_law_content) .none kV_law_content dc_law_content pm_law_content an_law_content cd_law_content ct_law_content), sl_law_content⟩)
    (c_law_content : PySem.W.codeIn K cd_law_content "_law_content" = true)
    (k_law_content : PySem.W.keepIn K (.ref f_law_content) = true)
    (a_law_universe : PySem.W.nsIn K mainGlobals "_law_universe" = some (some (.ref f_law_universe)))
    (l_law_universe : K.lookup f_law_universe = some ⟨oc_law_universe, od_law_universe, .func (PySem.W.fnOf "_law_universe" "_law_universe" (defArgs s_law_universe) (defBody s_law_universe) (defScope s_law_universe) .none kV_law_universe dc_law_universe pm_law_universe an_law_universe cd_law_universe ct_law_universe), sl_law_universe⟩)
    (c_law_universe : PySem.W.codeIn K cd_law_universe "_law_universe" = true)
    (k_law_universe : PySem.W.keepIn K (.ref f_law_universe) = true)
    (a_law_copy : PySem.W.nsIn K mainGlobals "_law_copy" = some (some (.ref f_law_copy)))
    (l_law_copy : K.lookup f_law_copy = some ⟨oc_law_copy, od_law_copy, .func (PySem.W.fnOf "_law_copy" "_law_copy" (defArgs s_law_copy) (defBody s_law_copy) (defScope s_law_copy) .none kV_law_copy dc_law_copy pm_law_copy an_law_copy cd_law_copy ct_law_copy), sl_law_copy⟩)
    (c_law_copy : PySem.W.codeIn K cd_law_copy "_law_copy" = true)
    (k_law_copy : PySem.W.keepIn K (.ref f_law_copy) = true)
    (a_law_without : PySem.W.nsIn K mainGlobals "_law_without" = some (some (.ref f_law_without)))
    (l_law_without : K.lookup f_law_without = some ⟨oc_law_without, od_law_without, .func (PySem.W.fnOf "_law_without" "_law_without" (defArgs s_law_without) (defBody s_law_without) (defScope s_law_without) .none kV_law_without dc_law_without pm_law_without an_law_without cd_law_without ct_law_without), sl_law_without⟩)
    (c_law_without : PySem.W.codeIn K cd_law_without "_law_without" = true)
    (k_law_without : PySem.W.keepIn K (.ref f_law_without) = true)
    (a_law_moved : PySem.W.nsIn K mainGlobals "_law_moved" = some (some (.ref f_law_moved)))
    (l_law_moved : K.lookup f_law_moved = some ⟨oc_law_moved, od_law_moved, .func (PySem.W.fnOf "_law_moved" "_law_moved" (defArgs s_law_moved) (defBody s_law_moved) (defScope s_law_moved) .none kV_law_moved dc_law_moved pm_law_moved an_law_moved cd_law_moved ct_law_moved), sl_law_moved⟩)
    (c_law_moved : PySem.W.codeIn K cd_law_moved "_law_moved" = true)
    (k_law_moved : PySem.W.keepIn K (.ref f_law_moved) = true)
    (a_law_between : PySem.W.nsIn K mainGlobals "_law_between" = some (some (.ref f_law_between)))
    (l_law_between : K.lookup f_law_between = some ⟨oc_law_between, od_law_between, .func (PySem.W.fnOf "_law_between" "_law_between" (defArgs s_law_between) (defBody s_law_between) (defScope s_law_between) .none kV_law_between dc_law_between pm_law_between an_law_between cd_law_between ct_law_between), sl_law_between⟩)
    (c_law_between : PySem.W.codeIn K cd_law_between "_law_between" = true)
    (k_law_between : PySem.W.keepIn K (.ref f_law_between) = true)
    (a_law_applied : PySem.W.nsIn K mainGlobals "_law_applied" = some (some (.ref f_law_applied)))
    (l_law_applied : K.lookup f_law_applied = some ⟨oc_law_applied, od_law_applied, .func (PySem.W.fnOf "_law_applied" "_law_applied" (defArgs s_law_applied) (defBody s_law_applied) (defScope s_law_applied) .none kV_law_applied dc_law_applied pm_law_applied an_law_applied cd_law_applied ct_law_applied), sl_law_applied⟩)
    (c_law_applied : PySem.W.codeIn K cd_law_applied "_law_applied" = true)
    (k_law_applied : PySem.W.keepIn K (.ref f_law_applied) = true)
    (a_law_told : PySem.W.nsIn K mainGlobals "_law_told" = some (some (.ref f_law_told)))
    (l_law_told : K.lookup f_law_told = some ⟨oc_law_told, od_law_told, .func (PySem.W.fnOf "_law_told" "_law_told" (defArgs s_law_told) (defBody s_law_told) (defScope s_law_told) .none kV_law_told dc_law_told pm_law_told an_law_told cd_law_told ct_law_told), sl_law_told⟩)
    (c_law_told : PySem.W.codeIn K cd_law_told "_law_told" = true)
    (k_law_told : PySem.W.keepIn K (.ref f_law_told) = true)
    (a_law_due : PySem.W.nsIn K mainGlobals "_law_due" = some (some (.ref f_law_due)))
    (l_law_due : K.lookup f_law_due = some ⟨oc_law_due, od_law_due, .func (PySem.W.fnOf "_law_due" "_law_due" (defArgs s_law_due) (defBody s_law_due) (defScope s_law_due) .none kV_law_due dc_law_due pm_law_due an_law_due cd_law_due ct_law_due), sl_law_due⟩)
    (c_law_due : PySem.W.codeIn K cd_law_due "_law_due" = true)
    (k_law_due : PySem.W.keepIn K (.ref f_law_due) = true)
    (a_law_settle : PySem.W.nsIn K mainGlobals "_law_settle" = some (some (.ref f_law_settle)))
    (l_law_settle : K.lookup f_law_settle = some ⟨oc_law_settle, od_law_settle, .func (PySem.W.fnOf "_law_settle" "_law_settle" (defArgs s_law_settle) (defBody s_law_settle) (defScope s_law_settle) .none kV_law_settle dc_law_settle pm_law_settle an_law_settle cd_law_settle ct_law_settle), sl_law_settle⟩)
    (c_law_settle : PySem.W.codeIn K cd_law_settle "_law_settle" = true)
    (k_law_settle : PySem.W.keepIn K (.ref f_law_settle) = true)
    (a_law_position_at : PySem.W.nsIn K mainGlobals "_law_position_at" = some (some (.ref f_law_position_at)))
    (l_law_position_at : K.lookup f_law_position_at = some ⟨oc_law_position_at, od_law_position_at, .func (PySem.W.fnOf "_law_position_at" "_law_position_at" (defArgs s_law_position_at) (defBody s_law_position_at) (defScope s_law_position_at) .none kV_law_position_at dc_law_position_at pm_law_position_at an_law_position_at cd_law_position_at ct_law_position_at), sl_law_position_at⟩)
    (c_law_position_at : PySem.W.codeIn K cd_law_position_at "_law_position_at" = true)
    (k_law_position_at : PySem.W.keepIn K (.ref f_law_position_at) = true)
    (a_law_question : PySem.W.nsIn K mainGlobals "_law_question" = some (some (.ref f_law_question)))
    (l_law_question : K.lookup f_law_question = some ⟨oc_law_question, od_law_question, .func (PySem.W.fnOf "_law_question" "_law_question" (defArgs s_law_question) (defBody s_law_question) (defScope s_law_question) .none kV_law_question dc_law_question pm_law_question an_law_question cd_law_question ct_law_question), sl_law_question⟩)
    (c_law_question : PySem.W.codeIn K cd_law_question "_law_question" = true)
    (k_law_question : PySem.W.keepIn K (.ref f_law_question) = true)
    (a_law_agrees : PySem.W.nsIn K mainGlobals "_law_agrees" = some (some (.ref f_law_agrees)))
    (l_law_agrees : K.lookup f_law_agrees = some ⟨oc_law_agrees, od_law_agrees, .func (PySem.W.fnOf "_law_agrees" "_law_agrees" (defArgs s_law_agrees) (defBody s_law_agrees) (defScope s_law_agrees) .none kV_law_agrees dc_law_agrees pm_law_agrees an_law_agrees cd_law_agrees ct_law_agrees), sl_law_agrees⟩)
    (c_law_agrees : PySem.W.codeIn K cd_law_agrees "_law_agrees" = true)
    (k_law_agrees : PySem.W.keepIn K (.ref f_law_agrees) = true)
    (a_law : PySem.W.nsIn K mainGlobals "law" = some (some (.ref f_law)))
    (l_law : K.lookup f_law = some ⟨oc_law, od_law, .func (PySem.W.fnOf "law" "law" (defArgs s_law) (defBody s_law) (defScope s_law) .none kV_law dc_law pm_law an_law cd_law ct_law), sl_law⟩)
    (c_law : PySem.W.codeIn K cd_law "law" = true)
    (k_law : PySem.W.keepIn K (.ref f_law) = true)
    (z_bool : PySem.W.nsIn K mainGlobals "bool" = some none)
    (z_dict : PySem.W.nsIn K mainGlobals "dict" = some none)
    (z_int : PySem.W.nsIn K mainGlobals "int" = some none)
    (z_isinstance : PySem.W.nsIn K mainGlobals "isinstance" = some none)
    (z_len : PySem.W.nsIn K mainGlobals "len" = some none)
    (z_list : PySem.W.nsIn K mainGlobals "list" = some none)
    (z_max : PySem.W.nsIn K mainGlobals "max" = some none)
    (z_min : PySem.W.nsIn K mainGlobals "min" = some none)
    (z_range : PySem.W.nsIn K mainGlobals "range" = some none)
    (z_sorted : PySem.W.nsIn K mainGlobals "sorted" = some none)
    (z_str : PySem.W.nsIn K mainGlobals "str" = some none)
    (z_tuple : PySem.W.nsIn K mainGlobals "tuple" = some none)
    (a_StoreError : PySem.W.nsIn K mainGlobals "StoreError" = some (some (.ref C_StoreError)))
    (a_Mismatch : PySem.W.nsIn K mainGlobals "Mismatch" = some (some (.ref C_Mismatch)))
    (a_NoMoment : PySem.W.nsIn K mainGlobals "NoMoment" = some (some (.ref C_NoMoment)))
    (a_StampBack : PySem.W.nsIn K mainGlobals "StampBack" = some (some (.ref C_StampBack)))
    (a_Journal : PySem.W.nsIn K mainGlobals "Journal" = some (some (.ref C_Journal)))
    (z_super : PySem.W.nsIn K mainGlobals "super" = some none)
    (xp : (l.prog.main.scope.names.lookup ("super" : Str)).isSome = false)
    (xo : PySem.W.nsIn K cStatics "thirdparty.any" = some none)
    (y6 : PySem.W.specialIn K (.builtin "object.__class__") "__get__" = some (some (.builtin "getset_descriptor.__get__")))
    (y7 : PySem.W.takesIn K (.builtin "object.__class__") = some true)
    (xl_Mismatch : K.lookup C_Mismatch = some (PySem.excClassObj nm_Mismatch q_Mismatch C_Mismatch N_Mismatch bs_Mismatch bm_Mismatch true sn_Mismatch sub_Mismatch ab_Mismatch col_Mismatch dd_Mismatch m0_Mismatch m1_Mismatch m2_Mismatch m3_Mismatch m5_Mismatch "ValueError.__new__"))
    (xr_Mismatch : PySem.HandSPX.refsVE bm_Mismatch = true)
    (xs_Mismatch : PySem.W.findIn K (.ref C_Mismatch) "__setattr__" = some (some (.builtin "object.__setattr__")))
    (xn_Mismatch : PySem.W.findIn K (.ref C_Mismatch) "slot" = some none)
    (xi_Mismatch : PySem.W.findIn K (.ref C_Mismatch) "__init__" = some (some (.ref I_Mismatch)))
    (xt_Mismatch : PySem.W.typeIn K (.ref I_Mismatch) = some (.type "function"))
    (xk_Mismatch : PySem.W.keepIn K (.ref C_Mismatch) = true)
    (xe_Mismatch : PySem.W.subIn K (.ref C_Mismatch) (.type "BaseException") = some true)
    (xv_Mismatch : PySem.W.subIn K (.ref C_Mismatch) (.type "ValueError") = some true)
    (xy_Mismatch : PySem.W.typeIn K (.ref C_Mismatch) = some (.type "type"))
    (xm_Mismatch : PySem.W.mroIn K C_Mismatch (.ref C_Mismatch) = some true)
    (xu_Mismatch : PySem.W.ks_superIn K C_Mismatch C_Mismatch "__init__" = some (some (.builtin "ValueError.__init__")))
    (xf_Mismatch : K.lookup I_Mismatch = some ⟨oc_Mismatch, od_Mismatch, .func (PySem.W.ksFn "__init__" "Mismatch.__init__" PySem.ZEX.Mismatch_mA PySem.ZEX.Mismatch_mB PySem.ZEX.Mismatch_mS .none .none dc_Mismatch pm_Mismatch an_Mismatch (.ref cda_Mismatch) ct_Mismatch cc_Mismatch), osl_Mismatch⟩)
    (xc_Mismatch : PySem.W.codeIn K (.ref cda_Mismatch) "Mismatch.__init__" = true)
    (xd_Mismatch : K.lookup cc_Mismatch = some ⟨cl_Mismatch, cld_Mismatch, .cell (some (.ref C_Mismatch)), csl_Mismatch⟩)
    (xg_Mismatch : K.lookup cda_Mismatch = some ⟨ccl_Mismatch, cdd_Mismatch, .fields vs_Mismatch, ccs_Mismatch⟩)
    (xh_Mismatch : vs_Mismatch[2]? = some (.str file_Mismatch tf_Mismatch))
    (xj_Mismatch : ((l.prog.main.file : Str) == file_Mismatch) = true)
    (xq_Mismatch : PySem.W.hasDictIn K C_Mismatch = true)
    (y1_Mismatch : PySem.W.findIn K (.ref C_Mismatch) "__getattribute__" = some (some (.builtin "BaseException.__getattribute__")))
    (y2_Mismatch : PySem.W.findIn K (.ref C_Mismatch) "__getattr__" = some none)
    (y5_Mismatch : PySem.W.findIn K (.ref C_Mismatch) "__class__" = some (some (.builtin "object.__class__")))
    (y8_Mismatch : PySem.W.mroIn K C_Mismatch (.type "object") = some true)
    (y9_Mismatch : PySem.W.subIn K (.ref C_Mismatch) (.ref C_Mismatch) = some true)
    (xl_NoMoment : K.lookup C_NoMoment = some (PySem.excClassObj nm_NoMoment q_NoMoment C_NoMoment N_NoMoment bs_NoMoment bm_NoMoment true sn_NoMoment sub_NoMoment ab_NoMoment col_NoMoment dd_NoMoment m0_NoMoment m1_NoMoment m2_NoMoment m3_NoMoment m5_NoMoment "ValueError.__new__"))
    (xr_NoMoment : PySem.HandSPX.refsVE bm_NoMoment = true)
    (xs_NoMoment : PySem.W.findIn K (.ref C_NoMoment) "__setattr__" = some (some (.builtin "object.__setattr__")))
    (xn_NoMoment : PySem.W.findIn K (.ref C_NoMoment) "position" = some none)
    (xi_NoMoment : PySem.W.findIn K (.ref C_NoMoment) "__init__" = some (some (.ref I_NoMoment)))
    (xt_NoMoment : PySem.W.typeIn K (.ref I_NoMoment) = some (.type "function"))
    (xk_NoMoment : PySem.W.keepIn K (.ref C_NoMoment) = true)
    (xe_NoMoment : PySem.W.subIn K (.ref C_NoMoment) (.type "BaseException") = some true)
    (xv_NoMoment : PySem.W.subIn K (.ref C_NoMoment) (.type "ValueError") = some true)
    (xy_NoMoment : PySem.W.typeIn K (.ref C_NoMoment) = some (.type "type"))
    (xm_NoMoment : PySem.W.mroIn K C_NoMoment (.ref C_NoMoment) = some true)
    (xu_NoMoment : PySem.W.ks_superIn K C_NoMoment C_NoMoment "__init__" = some (some (.builtin "ValueError.__init__")))
    (xf_NoMoment : K.lookup I_NoMoment = some ⟨oc_NoMoment, od_NoMoment, .func (PySem.W.ksFn "__init__" "NoMoment.__init__" PySem.ZEX.NoMoment_mA PySem.ZEX.NoMoment_mB PySem.ZEX.NoMoment_mS .none .none dc_NoMoment pm_NoMoment an_NoMoment (.ref cda_NoMoment) ct_NoMoment cc_NoMoment), osl_NoMoment⟩)
    (xc_NoMoment : PySem.W.codeIn K (.ref cda_NoMoment) "NoMoment.__init__" = true)
    (xd_NoMoment : K.lookup cc_NoMoment = some ⟨cl_NoMoment, cld_NoMoment, .cell (some (.ref C_NoMoment)), csl_NoMoment⟩)
    (xg_NoMoment : K.lookup cda_NoMoment = some ⟨ccl_NoMoment, cdd_NoMoment, .fields vs_NoMoment, ccs_NoMoment⟩)
    (xh_NoMoment : vs_NoMoment[2]? = some (.str file_NoMoment tf_NoMoment))
    (xj_NoMoment : ((l.prog.main.file : Str) == file_NoMoment) = true)
    (xq_NoMoment : PySem.W.hasDictIn K C_NoMoment = true)
    (y1_NoMoment : PySem.W.findIn K (.ref C_NoMoment) "__getattribute__" = some (some (.builtin "BaseException.__getattribute__")))
    (y2_NoMoment : PySem.W.findIn K (.ref C_NoMoment) "__getattr__" = some none)
    (y5_NoMoment : PySem.W.findIn K (.ref C_NoMoment) "__class__" = some (some (.builtin "object.__class__")))
    (y8_NoMoment : PySem.W.mroIn K C_NoMoment (.type "object") = some true)
    (y9_NoMoment : PySem.W.subIn K (.ref C_NoMoment) (.ref C_NoMoment) = some true)
    (xl_StampBack : K.lookup C_StampBack = some (PySem.excClassObj nm_StampBack q_StampBack C_StampBack N_StampBack bs_StampBack bm_StampBack true sn_StampBack sub_StampBack ab_StampBack col_StampBack dd_StampBack m0_StampBack m1_StampBack m2_StampBack m3_StampBack m5_StampBack "ValueError.__new__"))
    (xr_StampBack : PySem.HandSPX.refsVE bm_StampBack = true)
    (xs_StampBack : PySem.W.findIn K (.ref C_StampBack) "__setattr__" = some (some (.builtin "object.__setattr__")))
    (xn_StampBack : PySem.W.findIn K (.ref C_StampBack) "stamp" = some none)
    (xi_StampBack : PySem.W.findIn K (.ref C_StampBack) "__init__" = some (some (.ref I_StampBack)))
    (xt_StampBack : PySem.W.typeIn K (.ref I_StampBack) = some (.type "function"))
    (xk_StampBack : PySem.W.keepIn K (.ref C_StampBack) = true)
    (xe_StampBack : PySem.W.subIn K (.ref C_StampBack) (.type "BaseException") = some true)
    (xv_StampBack : PySem.W.subIn K (.ref C_StampBack) (.type "ValueError") = some true)
    (xy_StampBack : PySem.W.typeIn K (.ref C_StampBack) = some (.type "type"))
    (xm_StampBack : PySem.W.mroIn K C_StampBack (.ref C_StampBack) = some true)
    (xu_StampBack : PySem.W.ks_superIn K C_StampBack C_StampBack "__init__" = some (some (.builtin "ValueError.__init__")))
    (xf_StampBack : K.lookup I_StampBack = some ⟨oc_StampBack, od_StampBack, .func (PySem.W.ksFn "__init__" "StampBack.__init__" PySem.ZEX.StampBack_mA PySem.ZEX.StampBack_mB PySem.ZEX.StampBack_mS .none .none dc_StampBack pm_StampBack an_StampBack (.ref cda_StampBack) ct_StampBack cc_StampBack), osl_StampBack⟩)
    (xc_StampBack : PySem.W.codeIn K (.ref cda_StampBack) "StampBack.__init__" = true)
    (xd_StampBack : K.lookup cc_StampBack = some ⟨cl_StampBack, cld_StampBack, .cell (some (.ref C_StampBack)), csl_StampBack⟩)
    (xg_StampBack : K.lookup cda_StampBack = some ⟨ccl_StampBack, cdd_StampBack, .fields vs_StampBack, ccs_StampBack⟩)
    (xh_StampBack : vs_StampBack[2]? = some (.str file_StampBack tf_StampBack))
    (xj_StampBack : ((l.prog.main.file : Str) == file_StampBack) = true)
    (xq_StampBack : PySem.W.hasDictIn K C_StampBack = true)
    (y1_StampBack : PySem.W.findIn K (.ref C_StampBack) "__getattribute__" = some (some (.builtin "BaseException.__getattribute__")))
    (y2_StampBack : PySem.W.findIn K (.ref C_StampBack) "__getattr__" = some none)
    (y5_StampBack : PySem.W.findIn K (.ref C_StampBack) "__class__" = some (some (.builtin "object.__class__")))
    (y8_StampBack : PySem.W.mroIn K C_StampBack (.type "object") = some true)
    (y9_StampBack : PySem.W.subIn K (.ref C_StampBack) (.ref C_StampBack) = some true)
    (v_Mismatch_NoMoment : PySem.W.subIn K (.ref C_Mismatch) (.ref C_NoMoment) = some false)
    (v_StampBack_NoMoment : PySem.W.subIn K (.ref C_StampBack) (.ref C_NoMoment) = some false)
    (v_StampBack_Mismatch : PySem.W.subIn K (.ref C_StampBack) (.ref C_Mismatch) = some false)
    (w0 : PySem.W.kitOne K (.ref C_NoMoment) (.ref C_StoreError) = some true)
    (w1 : PySem.W.kitOne K (.ref C_NoMoment) (.ref C_Mismatch) = some false)
    (w2 : PySem.W.kitOne K (.ref C_Mismatch) (.ref C_StoreError) = some true)
    (w3 : PySem.W.kitOne K (.ref C_StampBack) (.ref C_StoreError) = some true)
    : ∃ fd : FuncData, (∀ (s : Shared) (v : Value), BindsTo s fd ⟨[v], []⟩ [("script", v)]) ∧ ∀ base : Heap, K.In base → base.Ns mainGlobals mg → FnOk l.prog w K mg base CX0 10 fa fd ["script"] (sp_law K) := by
  have e := hfa.symm.trans (PySem.W.mg_of X G a_law)
  cases e
  have F_slots_of_both := fun_mk (st := s_slots_of_both) l_slots_of_both c_slots_of_both k_slots_of_both
  have b_slots_of_both := F_slots_of_both.binds (ps := ["one", "other"]) fun _ _ _ _ _ _ us hl => match us, hl with | [_, _], _ => rfl
  have F_between := fun_mk (st := s_between) l_between c_between k_between
  have b_between := F_between.binds (ps := ["before", "after"]) fun _ _ _ _ _ _ us hl => match us, hl with | [_, _], _ => rfl
  have F_applied := fun_mk (st := s_applied) l_applied c_applied k_applied
  have b_applied := F_applied.binds (ps := ["slots", "difference"]) fun _ _ _ _ _ _ us hl => match us, hl with | [_, _], _ => rfl
  have F_Journal___init__ := fun_mk (st := s_Journal___init__) l_Journal___init__ c_Journal___init__ k_Journal___init__
  have b_Journal___init__ := F_Journal___init__.binds (ps := ["self", "position", "stamp", "slots"]) fun _ _ _ _ _ _ us hl => match us, hl with | [_, _, _, _], _ => rfl
  have F_Journal_add_record := fun_mk (st := s_Journal_add_record) l_Journal_add_record c_Journal_add_record k_Journal_add_record
  have b_Journal_add_record := F_Journal_add_record.binds (ps := ["self", "stamp", "difference"]) fun _ _ _ _ _ _ us hl => match us, hl with | [_, _, _], _ => rfl
  have F_Journal_start_position := fun_mk (st := s_Journal_start_position) l_Journal_start_position c_Journal_start_position k_Journal_start_position
  have b_Journal_start_position := F_Journal_start_position.binds (ps := ["self"]) fun _ _ _ _ _ _ us hl => match us, hl with | [_], _ => rfl
  have F_Journal_end_position := fun_mk (st := s_Journal_end_position) l_Journal_end_position c_Journal_end_position k_Journal_end_position
  have b_Journal_end_position := F_Journal_end_position.binds (ps := ["self"]) fun _ _ _ _ _ _ us hl => match us, hl with | [_], _ => rfl
  have F_Journal_need_position := fun_mk (st := s_Journal_need_position) l_Journal_need_position c_Journal_need_position k_Journal_need_position
  have b_Journal_need_position := F_Journal_need_position.binds (ps := ["self", "position"]) fun _ _ _ _ _ _ us hl => match us, hl with | [_, _], _ => rfl
  have F_Journal_slots_at := fun_mk (st := s_Journal_slots_at) l_Journal_slots_at c_Journal_slots_at k_Journal_slots_at
  have b_Journal_slots_at := F_Journal_slots_at.binds (ps := ["self", "position"]) fun _ _ _ _ _ _ us hl => match us, hl with | [_, _], _ => rfl
  have F_Journal_record := fun_mk (st := s_Journal_record) l_Journal_record c_Journal_record k_Journal_record
  have b_Journal_record := F_Journal_record.binds (ps := ["self", "position"]) fun _ _ _ _ _ _ us hl => match us, hl with | [_, _], _ => rfl
  have F_Journal_difference_between := fun_mk (st := s_Journal_difference_between) l_Journal_difference_between c_Journal_difference_between k_Journal_difference_between
  have b_Journal_difference_between := F_Journal_difference_between.binds (ps := ["self", "one", "other"]) fun _ _ _ _ _ _ us hl => match us, hl with | [_, _, _], _ => rfl
  have F_Journal_position_at := fun_mk (st := s_Journal_position_at) l_Journal_position_at c_Journal_position_at k_Journal_position_at
  have b_Journal_position_at := F_Journal_position_at.binds (ps := ["self", "stamp"]) fun _ _ _ _ _ _ us hl => match us, hl with | [_, _], _ => rfl
  have F_Journal_cut := fun_mk (st := s_Journal_cut) l_Journal_cut c_Journal_cut k_Journal_cut
  have b_Journal_cut := F_Journal_cut.binds (ps := ["self", "position"]) fun _ _ _ _ _ _ us hl => match us, hl with | [_, _], _ => rfl
  have F_law_mixed := fun_mk (st := s_law_mixed) l_law_mixed c_law_mixed k_law_mixed
  have b_law_mixed := F_law_mixed.binds (ps := ["number", "place"]) fun _ _ _ _ _ _ us hl => match us, hl with | [_, _], _ => rfl
  have F_law_rest := fun_mk (st := s_law_rest) l_law_rest c_law_rest k_law_rest
  have b_law_rest := F_law_rest.binds (ps := ["script", "place", "fills"]) fun _ _ _ _ _ _ us hl => match us, hl with | [_, _, _], _ => rfl
  have F_law_pool := fun_mk (st := s_law_pool) l_law_pool c_law_pool k_law_pool
  have b_law_pool := F_law_pool.binds (ps := ["script"]) fun _ _ _ _ _ _ us hl => match us, hl with | [_], _ => rfl
  have F_law_next := fun_mk (st := s_law_next) l_law_next c_law_next k_law_next
  have b_law_next := F_law_next.binds (ps := ["pool"]) fun _ _ _ _ _ _ us hl => match us, hl with | [_], _ => rfl
  have F_law_draw := fun_mk (st := s_law_draw) l_law_draw c_law_draw k_law_draw
  have b_law_draw := F_law_draw.binds (ps := ["pool", "limit"]) fun _ _ _ _ _ _ us hl => match us, hl with | [_, _], _ => rfl
  have F_law_pick := fun_mk (st := s_law_pick) l_law_pick c_law_pick k_law_pick
  have b_law_pick := F_law_pick.binds (ps := ["pool", "options"]) fun _ _ _ _ _ _ us hl => match us, hl with | [_, _], _ => rfl
  have F_law_same := fun_mk (st := s_law_same) l_law_same c_law_same k_law_same
  have b_law_same := F_law_same.binds (ps := ["one", "other"]) fun _ _ _ _ _ _ us hl => match us, hl with | [_, _], _ => rfl
  have F_law_name := fun_mk (st := s_law_name) l_law_name c_law_name k_law_name
  have b_law_name := F_law_name.binds (ps := ["pool"]) fun _ _ _ _ _ _ us hl => match us, hl with | [_], _ => rfl
  have F_law_cells := fun_mk (st := s_law_cells) l_law_cells c_law_cells k_law_cells
  have b_law_cells := F_law_cells.binds (ps := ["pool"]) fun _ _ _ _ _ _ us hl => match us, hl with | [_], _ => rfl
  have F_law_content := fun_mk (st := s_law_content) l_law_content c_law_content k_law_content
  have b_law_content := F_law_content.binds (ps := ["pool", "slot"]) fun _ _ _ _ _ _ us hl => match us, hl with | [_, _], _ => rfl
  have F_law_universe := fun_mk (st := s_law_universe) l_law_universe c_law_universe k_law_universe
  have b_law_universe := F_law_universe.binds (ps := ["pool", "many"]) fun _ _ _ _ _ _ us hl => match us, hl with | [_, _], _ => rfl
  have F_law_copy := fun_mk (st := s_law_copy) l_law_copy c_law_copy k_law_copy
  have b_law_copy := F_law_copy.binds (ps := ["row"]) fun _ _ _ _ _ _ us hl => match us, hl with | [_], _ => rfl
  have F_law_without := fun_mk (st := s_law_without) l_law_without c_law_without k_law_without
  have b_law_without := F_law_without.binds (ps := ["row", "gone"]) fun _ _ _ _ _ _ us hl => match us, hl with | [_, _], _ => rfl
  have F_law_moved := fun_mk (st := s_law_moved) l_law_moved c_law_moved k_law_moved
  have b_law_moved := F_law_moved.binds (ps := ["pool", "slots", "state", "most"]) fun _ _ _ _ _ _ us hl => match us, hl with | [_, _, _, _], _ => rfl
  have F_law_between := fun_mk (st := s_law_between) l_law_between c_law_between k_law_between
  have b_law_between := F_law_between.binds (ps := ["one", "other"]) fun _ _ _ _ _ _ us hl => match us, hl with | [_, _], _ => rfl
  have F_law_applied := fun_mk (st := s_law_applied) l_law_applied c_law_applied k_law_applied
  have b_law_applied := F_law_applied.binds (ps := ["slots", "difference"]) fun _ _ _ _ _ _ us hl => match us, hl with | [_, _], _ => rfl
  have F_law_told := fun_mk (st := s_law_told) l_law_told c_law_told k_law_told
  have b_law_told := F_law_told.binds (ps := ["journal", "question"]) fun _ _ _ _ _ _ us hl => match us, hl with | [_, _], _ => rfl
  have F_law_due := fun_mk (st := s_law_due) l_law_due c_law_due k_law_due
  have b_law_due := F_law_due.binds (ps := ["model", "question"]) fun _ _ _ _ _ _ us hl => match us, hl with | [_, _], _ => rfl
  have F_law_settle := fun_mk (st := s_law_settle) l_law_settle c_law_settle k_law_settle
  have b_law_settle := F_law_settle.binds (ps := ["model", "question"]) fun _ _ _ _ _ _ us hl => match us, hl with | [_, _], _ => rfl
  have F_law_position_at := fun_mk (st := s_law_position_at) l_law_position_at c_law_position_at k_law_position_at
  have b_law_position_at := F_law_position_at.binds (ps := ["model", "stamp"]) fun _ _ _ _ _ _ us hl => match us, hl with | [_, _], _ => rfl
  have F_law_question := fun_mk (st := s_law_question) l_law_question c_law_question k_law_question
  have b_law_question := F_law_question.binds (ps := ["pool", "slots", "model", "long"]) fun _ _ _ _ _ _ us hl => match us, hl with | [_, _, _, _], _ => rfl
  have F_law_agrees := fun_mk (st := s_law_agrees) l_law_agrees c_law_agrees k_law_agrees
  have b_law_agrees := F_law_agrees.binds (ps := ["journal", "model", "stamp"]) fun _ _ _ _ _ _ us hl => match us, hl with | [_, _, _], _ => rfl
  have F_law := fun_mk (st := s_law) l_law c_law k_law
  have b_law := F_law.binds (ps := ["script"]) fun _ _ _ _ _ _ us hl => match us, hl with | [_], _ => rfl
  let T : Txt K mg := {
    f_slots_of_both := f_slots_of_both, d_slots_of_both := _, F_slots_of_both := F_slots_of_both, g_slots_of_both := PySem.W.mg_of X G a_slots_of_both, k_slots_of_both := b_slots_of_both,
    f_between := f_between, d_between := _, F_between := F_between, g_between := PySem.W.mg_of X G a_between, k_between := b_between,
    f_applied := f_applied, d_applied := _, F_applied := F_applied, g_applied := PySem.W.mg_of X G a_applied, k_applied := b_applied,
    f_Journal___init__ := f_Journal___init__, d_Journal___init__ := _, F_Journal___init__ := F_Journal___init__, k_Journal___init__ := b_Journal___init__,
    f_Journal_add_record := f_Journal_add_record, d_Journal_add_record := _, F_Journal_add_record := F_Journal_add_record, k_Journal_add_record := b_Journal_add_record,
    f_Journal_start_position := f_Journal_start_position, d_Journal_start_position := _, F_Journal_start_position := F_Journal_start_position, k_Journal_start_position := b_Journal_start_position,
    f_Journal_end_position := f_Journal_end_position, d_Journal_end_position := _, F_Journal_end_position := F_Journal_end_position, k_Journal_end_position := b_Journal_end_position,
    f_Journal_need_position := f_Journal_need_position, d_Journal_need_position := _, F_Journal_need_position := F_Journal_need_position, k_Journal_need_position := b_Journal_need_position,
    f_Journal_slots_at := f_Journal_slots_at, d_Journal_slots_at := _, F_Journal_slots_at := F_Journal_slots_at, k_Journal_slots_at := b_Journal_slots_at,
    f_Journal_record := f_Journal_record, d_Journal_record := _, F_Journal_record := F_Journal_record, k_Journal_record := b_Journal_record,
    f_Journal_difference_between := f_Journal_difference_between, d_Journal_difference_between := _, F_Journal_difference_between := F_Journal_difference_between, k_Journal_difference_between := b_Journal_difference_between,
    f_Journal_position_at := f_Journal_position_at, d_Journal_position_at := _, F_Journal_position_at := F_Journal_position_at, k_Journal_position_at := b_Journal_position_at,
    f_Journal_cut := f_Journal_cut, d_Journal_cut := _, F_Journal_cut := F_Journal_cut, k_Journal_cut := b_Journal_cut,
    f__law_mixed := f_law_mixed, d__law_mixed := _, F__law_mixed := F_law_mixed, g__law_mixed := PySem.W.mg_of X G a_law_mixed, k__law_mixed := b_law_mixed,
    f__law_rest := f_law_rest, d__law_rest := _, F__law_rest := F_law_rest, g__law_rest := PySem.W.mg_of X G a_law_rest, k__law_rest := b_law_rest,
    f__law_pool := f_law_pool, d__law_pool := _, F__law_pool := F_law_pool, g__law_pool := PySem.W.mg_of X G a_law_pool, k__law_pool := b_law_pool,
    f__law_next := f_law_next, d__law_next := _, F__law_next := F_law_next, g__law_next := PySem.W.mg_of X G a_law_next, k__law_next := b_law_next,
    f__law_draw := f_law_draw, d__law_draw := _, F__law_draw := F_law_draw, g__law_draw := PySem.W.mg_of X G a_law_draw, k__law_draw := b_law_draw,
    f__law_pick := f_law_pick, d__law_pick := _, F__law_pick := F_law_pick, g__law_pick := PySem.W.mg_of X G a_law_pick, k__law_pick := b_law_pick,
    f__law_same := f_law_same, d__law_same := _, F__law_same := F_law_same, g__law_same := PySem.W.mg_of X G a_law_same, k__law_same := b_law_same,
    f__law_name := f_law_name, d__law_name := _, F__law_name := F_law_name, g__law_name := PySem.W.mg_of X G a_law_name, k__law_name := b_law_name,
    f__law_cells := f_law_cells, d__law_cells := _, F__law_cells := F_law_cells, g__law_cells := PySem.W.mg_of X G a_law_cells, k__law_cells := b_law_cells,
    f__law_content := f_law_content, d__law_content := _, F__law_content := F_law_content, g__law_content := PySem.W.mg_of X G a_law_content, k__law_content := b_law_content,
    f__law_universe := f_law_universe, d__law_universe := _, F__law_universe := F_law_universe, g__law_universe := PySem.W.mg_of X G a_law_universe, k__law_universe := b_law_universe,
    f__law_copy := f_law_copy, d__law_copy := _, F__law_copy := F_law_copy, g__law_copy := PySem.W.mg_of X G a_law_copy, k__law_copy := b_law_copy,
    f__law_without := f_law_without, d__law_without := _, F__law_without := F_law_without, g__law_without := PySem.W.mg_of X G a_law_without, k__law_without := b_law_without,
    f__law_moved := f_law_moved, d__law_moved := _, F__law_moved := F_law_moved, g__law_moved := PySem.W.mg_of X G a_law_moved, k__law_moved := b_law_moved,
    f__law_between := f_law_between, d__law_between := _, F__law_between := F_law_between, g__law_between := PySem.W.mg_of X G a_law_between, k__law_between := b_law_between,
    f__law_applied := f_law_applied, d__law_applied := _, F__law_applied := F_law_applied, g__law_applied := PySem.W.mg_of X G a_law_applied, k__law_applied := b_law_applied,
    f__law_told := f_law_told, d__law_told := _, F__law_told := F_law_told, g__law_told := PySem.W.mg_of X G a_law_told, k__law_told := b_law_told,
    f__law_due := f_law_due, d__law_due := _, F__law_due := F_law_due, g__law_due := PySem.W.mg_of X G a_law_due, k__law_due := b_law_due,
    f__law_settle := f_law_settle, d__law_settle := _, F__law_settle := F_law_settle, g__law_settle := PySem.W.mg_of X G a_law_settle, k__law_settle := b_law_settle,
    f__law_position_at := f_law_position_at, d__law_position_at := _, F__law_position_at := F_law_position_at, g__law_position_at := PySem.W.mg_of X G a_law_position_at, k__law_position_at := b_law_position_at,
    f__law_question := f_law_question, d__law_question := _, F__law_question := F_law_question, g__law_question := PySem.W.mg_of X G a_law_question, k__law_question := b_law_question,
    f__law_agrees := f_law_agrees, d__law_agrees := _, F__law_agrees := F_law_agrees, g__law_agrees := PySem.W.mg_of X G a_law_agrees, k__law_agrees := b_law_agrees,
    f_law := _, d_law := _, F_law := F_law, g_law := PySem.W.mg_of X G a_law, k_law := b_law,
    C_Journal := CC_Journal, c_Journal := ⟨pg_Journal, hd_Journal, po_Journal, sa_Journal⟩, g_Journal := PySem.W.mg_of X G ca_Journal, mk_Journal := ⟨mk_Journal, a_Journal___init__, i_Journal___init__, kc_Journal⟩,
    na_Journal_begin := na_begin_Journal,
    na_Journal_stamps := na_stamps_Journal,
    na_Journal_first_slots := na_first_slots_Journal,
    na_Journal_last_slots := na_last_slots_Journal,
    na_Journal_steps := na_steps_Journal,
    m_Journal___init__ := ⟨a_Journal___init__, i_Journal___init__, k_Journal___init__⟩,
    m_Journal_add_record := ⟨a_Journal_add_record, i_Journal_add_record, k_Journal_add_record⟩,
    m_Journal_start_position := ⟨a_Journal_start_position, i_Journal_start_position, k_Journal_start_position⟩,
    m_Journal_end_position := ⟨a_Journal_end_position, i_Journal_end_position, k_Journal_end_position⟩,
    m_Journal_need_position := ⟨a_Journal_need_position, i_Journal_need_position, k_Journal_need_position⟩,
    m_Journal_slots_at := ⟨a_Journal_slots_at, i_Journal_slots_at, k_Journal_slots_at⟩,
    m_Journal_record := ⟨a_Journal_record, i_Journal_record, k_Journal_record⟩,
    m_Journal_difference_between := ⟨a_Journal_difference_between, i_Journal_difference_between, k_Journal_difference_between⟩,
    m_Journal_position_at := ⟨a_Journal_position_at, i_Journal_position_at, k_Journal_position_at⟩,
    m_Journal_cut := ⟨a_Journal_cut, i_Journal_cut, k_Journal_cut⟩,
    b_bool := PySem.W.mg_none_of X G z_bool,
    b_dict := PySem.W.mg_none_of X G z_dict,
    b_int := PySem.W.mg_none_of X G z_int,
    b_isinstance := PySem.W.mg_none_of X G z_isinstance,
    b_len := PySem.W.mg_none_of X G z_len,
    b_list := PySem.W.mg_none_of X G z_list,
    b_max := PySem.W.mg_none_of X G z_max,
    b_min := PySem.W.mg_none_of X G z_min,
    b_range := PySem.W.mg_none_of X G z_range,
    b_sorted := PySem.W.mg_none_of X G z_sorted,
    b_str := PySem.W.mg_none_of X G z_str,
    b_tuple := PySem.W.mg_none_of X G z_tuple }
  let TE : Errs l.prog K mg := {
    C_StoreError := C_StoreError, g_StoreError := PySem.W.mg_of X G a_StoreError,
    C_Mismatch := C_Mismatch, g_Mismatch := PySem.W.mg_of X G a_Mismatch,
    C_NoMoment := C_NoMoment, g_NoMoment := PySem.W.mg_of X G a_NoMoment,
    C_StampBack := C_StampBack, g_StampBack := PySem.W.mg_of X G a_StampBack,
    C_Journal := C_Journal, g_Journal := PySem.W.mg_of X G a_Journal,
    I_Mismatch := I_Mismatch, E_Mismatch := { gC := PySem.W.mg_of X G a_Mismatch, cls := ⟨_, _, _, _, _, _, _, _, _, _, _, _, _, _, _, xl_Mismatch, xr_Mismatch⟩, sa := xs_Mismatch, noN := xn_Mismatch, iC := xi_Mismatch, tC := xt_Mismatch, kC := xk_Mismatch, exC := xe_Mismatch, veC := xv_Mismatch, tyC := xy_Mismatch, mro := xm_Mismatch, sup := xu_Mismatch, op := xo, noS := PySem.W.mg_none_of X G z_super, top := xp, fn := ⟨_, _, _, _, _, _, _, _, _, _, _, _, _, _, _, _, _, _, xf_Mismatch, xc_Mismatch, xd_Mismatch, xg_Mismatch, xh_Mismatch, xj_Mismatch⟩ },
    x_Mismatch := ⟨y1_Mismatch, y2_Mismatch, xe_Mismatch, xq_Mismatch⟩, i_Mismatch := ⟨y1_Mismatch, y2_Mismatch, xe_Mismatch, xq_Mismatch, y5_Mismatch, y6, y7, y8_Mismatch⟩, t_Mismatch := PySem.W.exm_ref xe_Mismatch xq_Mismatch xy_Mismatch y9_Mismatch,
    I_NoMoment := I_NoMoment, E_NoMoment := { gC := PySem.W.mg_of X G a_NoMoment, cls := ⟨_, _, _, _, _, _, _, _, _, _, _, _, _, _, _, xl_NoMoment, xr_NoMoment⟩, sa := xs_NoMoment, noN := xn_NoMoment, iC := xi_NoMoment, tC := xt_NoMoment, kC := xk_NoMoment, exC := xe_NoMoment, veC := xv_NoMoment, tyC := xy_NoMoment, mro := xm_NoMoment, sup := xu_NoMoment, op := xo, noS := PySem.W.mg_none_of X G z_super, top := xp, fn := ⟨_, _, _, _, _, _, _, _, _, _, _, _, _, _, _, _, _, _, xf_NoMoment, xc_NoMoment, xd_NoMoment, xg_NoMoment, xh_NoMoment, xj_NoMoment⟩ },
    x_NoMoment := ⟨y1_NoMoment, y2_NoMoment, xe_NoMoment, xq_NoMoment⟩, i_NoMoment := ⟨y1_NoMoment, y2_NoMoment, xe_NoMoment, xq_NoMoment, y5_NoMoment, y6, y7, y8_NoMoment⟩, t_NoMoment := PySem.W.exm_ref xe_NoMoment xq_NoMoment xy_NoMoment y9_NoMoment,
    I_StampBack := I_StampBack, E_StampBack := { gC := PySem.W.mg_of X G a_StampBack, cls := ⟨_, _, _, _, _, _, _, _, _, _, _, _, _, _, _, xl_StampBack, xr_StampBack⟩, sa := xs_StampBack, noN := xn_StampBack, iC := xi_StampBack, tC := xt_StampBack, kC := xk_StampBack, exC := xe_StampBack, veC := xv_StampBack, tyC := xy_StampBack, mro := xm_StampBack, sup := xu_StampBack, op := xo, noS := PySem.W.mg_none_of X G z_super, top := xp, fn := ⟨_, _, _, _, _, _, _, _, _, _, _, _, _, _, _, _, _, _, xf_StampBack, xc_StampBack, xd_StampBack, xg_StampBack, xh_StampBack, xj_StampBack⟩ },
    x_StampBack := ⟨y1_StampBack, y2_StampBack, xe_StampBack, xq_StampBack⟩, i_StampBack := ⟨y1_StampBack, y2_StampBack, xe_StampBack, xq_StampBack, y5_StampBack, y6, y7, y8_StampBack⟩, t_StampBack := PySem.W.exm_ref xe_StampBack xq_StampBack xy_StampBack y9_StampBack,
    n_Mismatch_NoMoment := PySem.W.exm_ref xe_NoMoment xq_NoMoment xy_NoMoment v_Mismatch_NoMoment,
    n_StampBack_NoMoment := PySem.W.exm_ref xe_NoMoment xq_NoMoment xy_NoMoment v_StampBack_NoMoment,
    n_StampBack_Mismatch := PySem.W.exm_ref xe_Mismatch xq_Mismatch xy_Mismatch v_StampBack_Mismatch,
    k_s1 := w0,
    k_s2 := w1,
    k_s3 := w2,
    k_s4 := w3 }
  exact ⟨_, fun s v => .of_eq rfl, fun base _ _ => ok_law T TE⟩
end Law
open PySem PySem.W PyProof.Rows
set_option maxRecDepth 100000 in
set_option maxHeartbeats 0 in
theorem PySem.Challenge.cw_storelife_k27_journal_by_a_plain_list_holds : PySem.Challenge.rw_storelife_k27_journal_by_a_plain_list.Holds := by
  w_on; o_law; k_head; (case hw => w_witness2)
  k_fill
  refine L2.walk_of (l := PySem.Challenge.rw_storelife_k27_journal_by_a_plain_list) (n := 63) (k := 10) (x := "script") (CX := fun _ => L2.CX0) (sp := fun w => Law.sp_law _) rfl (by decide) rfl ⟨rfl, by decide, by decide⟩ (fun w h Y => PySem.W.kIn_of Y) ?F (fun _ H a ns hl hO hS => Law.start_law hO hl hS) (fun _ _ _ _ _ h => h)
  case F =>
    intro w mg fa h KX G hmg
    refine' Law.all_mk KX G hmg ?a_slots_of_both ?l_slots_of_both ?c_slots_of_both ?k_slots_of_both ?a_between ?l_between ?c_between ?k_between ?a_applied ?l_applied ?c_applied ?k_applied ?ca_Journal ?pg_Journal ?hd_Journal ?po_Journal ?sa_Journal ?mk_Journal ?kc_Journal ?na_begin_Journal ?na_stamps_Journal ?na_first_slots_Journal ?na_last_slots_Journal ?na_steps_Journal ?a_Journal___init__ ?i_Journal___init__ ?l_Journal___init__ ?c_Journal___init__ ?k_Journal___init__ ?a_Journal_add_record ?i_Journal_add_record ?l_Journal_add_record ?c_Journal_add_record ?k_Journal_add_record ?a_Journal_start_position ?i_Journal_start_position ?l_Journal_start_position ?c_Journal_start_position ?k_Journal_start_position ?a_Journal_end_position ?i_Journal_end_position ?l_Journal_end_position ?c_Journal_end_position ?k_Journal_end_position ?a_Journal_need_position ?i_Journal_need_position ?l_Journal_need_position ?c_Journal_need_position ?k_Journal_need_position ?a_Journal_slots_at ?i_Journal_slots_at ?l_Journal_slots_at ?c_Journal_slots_at ?k_Journal_slots_at ?a_Journal_record ?i_Journal_record ?l_Journal_record ?c_Journal_record ?k_Journal_record ?a_Journal_difference_between ?i_Journal_difference_between ?l_Journal_difference_between ?c_Journal_difference_between ?k_Journal_difference_between ?a_Journal_position_at ?i_Journal_position_at ?l_Journal_position_at ?c_Journal_position_at ?k_Journal_position_at ?a_Journal_cut ?i_Journal_cut ?l_Journal_cut ?c_Journal_cut ?k_Journal_cut ?a_law_mixed ?l_law_mixed ?c_law_mixed ?k_law_mixed ?a_law_rest ?l_law_rest ?c_law_rest ?k_law_rest ?a_law_pool ?l_law_pool ?c_law_pool ?k_law_pool ?a_law_next ?l_law_next ?c_law_next ?k_law_next ?a_law_draw ?l_law_draw ?c_law_draw ?k_law_draw ?a_law_pick ?l_law_pick ?c_law_pick ?k_law_pick ?a_law_same ?l_law_same ?c_law_same ?k_law_same ?a_law_name ?l_law_name ?c_law_name ?k_law_name ?a_law_cells ?l_law_cells ?c_law_cells ?k_law_cells ?a_law_content ?l_law_content ?c_law_content ?k_law_content ?a_law_universe ?l_law_universe ?c_law_universe ?k_law_universe ?a_law_copy ?l_law_copy ?c_law_copy ?k_law_copy ?a_law_without ?l_law_without ?c_law_without ?k_law_without ?a_law_moved ?l_law_moved ?c_law_moved ?k_law_moved ?a_law_between ?l_law_between ?c_law_between ?k_law_between ?a_law_applied ?l_law_applied ?c_law_applied ?k_law_applied ?a_law_told ?l_law_told ?c_law_told ?k_law_told ?a_law_due ?l_law_due ?c_law_due ?k_law_due ?a_law_settle ?l_law_settle ?c_law_settle ?k_law_settle ?a_law_position_at ?l_law_position_at ?c_law_position_at ?k_law_position_at ?a_law_question ?l_law_question ?c_law_question ?k_law_question ?a_law_agrees ?l_law_agrees ?c_law_agrees ?k_law_agrees ?a_law ?l_law ?c_law ?k_law ?z_bool ?z_dict ?z_int ?z_isinstance ?z_len ?z_list ?z_max ?z_min ?z_range ?z_sorted ?z_str ?z_tuple ?a_StoreError ?a_Mismatch ?a_NoMoment ?a_StampBack ?a_Journal ?z_super ?xp ?xo ?y6 ?y7 ?xl_Mismatch ?xr_Mismatch ?xs_Mismatch ?xn_Mismatch ?xi_Mismatch ?xt_Mismatch ?xk_Mismatch ?xe_Mismatch ?xv_Mismatch ?xy_Mismatch ?xm_Mismatch ?xu_Mismatch ?xf_Mismatch ?xc_Mismatch ?xd_Mismatch ?xg_Mismatch ?xh_Mismatch ?xj_Mismatch ?xq_Mismatch ?y1_Mismatch ?y2_Mismatch ?y5_Mismatch ?y8_Mismatch ?y9_Mismatch ?xl_NoMoment ?xr_NoMoment ?xs_NoMoment ?xn_NoMoment ?xi_NoMoment ?xt_NoMoment ?xk_NoMoment ?xe_NoMoment ?xv_NoMoment ?xy_NoMoment ?xm_NoMoment ?xu_NoMoment ?xf_NoMoment ?xc_NoMoment ?xd_NoMoment ?xg_NoMoment ?xh_NoMoment ?xj_NoMoment ?xq_NoMoment ?y1_NoMoment ?y2_NoMoment ?y5_NoMoment ?y8_NoMoment ?y9_NoMoment ?xl_StampBack ?xr_StampBack ?xs_StampBack ?xn_StampBack ?xi_StampBack ?xt_StampBack ?xk_StampBack ?xe_StampBack ?xv_StampBack ?xy_StampBack ?xm_StampBack ?xu_StampBack ?xf_StampBack ?xc_StampBack ?xd_StampBack ?xg_StampBack ?xh_StampBack ?xj_StampBack ?xq_StampBack ?y1_StampBack ?y2_StampBack ?y5_StampBack ?y8_StampBack ?y9_StampBack ?v_Mismatch_NoMoment ?v_StampBack_NoMoment ?v_StampBack_Mismatch ?w0 ?w1 ?w2 ?w3
    (case a_slots_of_both => k_is)
    (case l_slots_of_both => k_is)
    (case c_slots_of_both => k_is)
    (case k_slots_of_both => k_is)
    (case a_between => k_is)
    (case l_between => k_is)
    (case c_between => k_is)
    (case k_between => k_is)
    (case a_applied => k_is)
    (case l_applied => k_is)
    (case c_applied => k_is)
    (case k_applied => k_is)
    (case ca_Journal => k_is)
    (case pg_Journal => k_is)
    (case hd_Journal => k_is)
    (case po_Journal => k_is)
    (case sa_Journal => k_is)
    (case mk_Journal => k_is)
    (case kc_Journal => k_is)
    (case na_begin_Journal => k_is)
    (case na_stamps_Journal => k_is)
    (case na_first_slots_Journal => k_is)
    (case na_last_slots_Journal => k_is)
    (case na_steps_Journal => k_is)
    (case a_Journal___init__ => k_is)
    (case i_Journal___init__ => k_is)
    (case l_Journal___init__ => k_is)
    (case c_Journal___init__ => k_is)
    (case k_Journal___init__ => k_is)
    (case a_Journal_add_record => k_is)
    (case i_Journal_add_record => k_is)
    (case l_Journal_add_record => k_is)
    (case c_Journal_add_record => k_is)
    (case k_Journal_add_record => k_is)
    (case a_Journal_start_position => k_is)
    (case i_Journal_start_position => k_is)
    (case l_Journal_start_position => k_is)
    (case c_Journal_start_position => k_is)
    (case k_Journal_start_position => k_is)
    (case a_Journal_end_position => k_is)
    (case i_Journal_end_position => k_is)
    (case l_Journal_end_position => k_is)
    (case c_Journal_end_position => k_is)
    (case k_Journal_end_position => k_is)
    (case a_Journal_need_position => k_is)
    (case i_Journal_need_position => k_is)
    (case l_Journal_need_position => k_is)
    (case c_Journal_need_position => k_is)
    (case k_Journal_need_position => k_is)
    (case a_Journal_slots_at => k_is)
    (case i_Journal_slots_at => k_is)
    (case l_Journal_slots_at => k_is)
    (case c_Journal_slots_at => k_is)
    (case k_Journal_slots_at => k_is)
    (case a_Journal_record => k_is)
    (case i_Journal_record => k_is)
    (case l_Journal_record => k_is)
    (case c_Journal_record => k_is)
    (case k_Journal_record => k_is)
    (case a_Journal_difference_between => k_is)
    (case i_Journal_difference_between => k_is)
    (case l_Journal_difference_between => k_is)
    (case c_Journal_difference_between => k_is)
    (case k_Journal_difference_between => k_is)
    (case a_Journal_position_at => k_is)
    (case i_Journal_position_at => k_is)
    (case l_Journal_position_at => k_is)
    (case c_Journal_position_at => k_is)
    (case k_Journal_position_at => k_is)
    (case a_Journal_cut => k_is)
    (case i_Journal_cut => k_is)
    (case l_Journal_cut => k_is)
    (case c_Journal_cut => k_is)
    (case k_Journal_cut => k_is)
    (case a_law_mixed => k_is)
    (case l_law_mixed => k_is)
    (case c_law_mixed => k_is)
    (case k_law_mixed => k_is)
    (case a_law_rest => k_is)
    (case l_law_rest => k_is)
    (case c_law_rest => k_is)
    (case k_law_rest => k_is)
    (case a_law_pool => k_is)
    (case l_law_pool => k_is)
    (case c_law_pool => k_is)
    (case k_law_pool => k_is)
    (case a_law_next => k_is)
    (case l_law_next => k_is)
    (case c_law_next => k_is)
    (case k_law_next => k_is)
    (case a_law_draw => k_is)
    (case l_law_draw => k_is)
    (case c_law_draw => k_is)
    (case k_law_draw => k_is)
    (case a_law_pick => k_is)
    (case l_law_pick => k_is)
    (case c_law_pick => k_is)
    (case k_law_pick => k_is)
    (case a_law_same => k_is)
    (case l_law_same => k_is)
    (case c_law_same => k_is)
    (case k_law_same => k_is)
    (case a_law_name => k_is)
    (case l_law_name => k_is)
    (case c_law_name => k_is)
    (case k_law_name => k_is)
    (case a_law_cells => k_is)
    (case l_law_cells => k_is)
    (case c_law_cells => k_is)
    (case k_law_cells => k_is)
    (case a_law_content => k_is)
    (case l_law_content => k_is)
    (case c_law_content => k_is)
    (case k_law_content => k_is)
    (case a_law_universe => k_is)
    (case l_law_universe => k_is)
    (case c_law_universe => k_is)
    (case k_law_universe => k_is)
    (case a_law_copy => k_is)
    (case l_law_copy => k_is)
    (case c_law_copy => k_is)
    (case k_law_copy => k_is)
    (case a_law_without => k_is)
    (case l_law_without => k_is)
    (case c_law_without => k_is)
    (case k_law_without => k_is)
    (case a_law_moved => k_is)
    (case l_law_moved => k_is)
    (case c_law_moved => k_is)
    (case k_law_moved => k_is)
    (case a_law_between => k_is)
    (case l_law_between => k_is)
    (case c_law_between => k_is)
    (case k_law_between => k_is)
    (case a_law_applied => k_is)
    (case l_law_applied => k_is)
    (case c_law_applied => k_is)
    (case k_law_applied => k_is)
    (case a_law_told => k_is)
    (case l_law_told => k_is)
    (case c_law_told => k_is)
    (case k_law_told => k_is)
    (case a_law_due => k_is)
    (case l_law_due => k_is)
    (case c_law_due => k_is)
    (case k_law_due => k_is)
    (case a_law_settle => k_is)
    (case l_law_settle => k_is)
    (case c_law_settle => k_is)
    (case k_law_settle => k_is)
    (case a_law_position_at => k_is)
    (case l_law_position_at => k_is)
    (case c_law_position_at => k_is)
    (case k_law_position_at => k_is)
    (case a_law_question => k_is)
    (case l_law_question => k_is)
    (case c_law_question => k_is)
    (case k_law_question => k_is)
    (case a_law_agrees => k_is)
    (case l_law_agrees => k_is)
    (case c_law_agrees => k_is)
    (case k_law_agrees => k_is)
    (case a_law => k_is)
    (case l_law => k_is)
    (case c_law => k_is)
    (case k_law => k_is)
    (case z_bool => k_is)
    (case z_dict => k_is)
    (case z_int => k_is)
    (case z_isinstance => k_is)
    (case z_len => k_is)
    (case z_list => k_is)
    (case z_max => k_is)
    (case z_min => k_is)
    (case z_range => k_is)
    (case z_sorted => k_is)
    (case z_str => k_is)
    (case z_tuple => k_is)
    (case a_StoreError => k_is)
    (case a_Mismatch => k_is)
    (case a_NoMoment => k_is)
    (case a_StampBack => k_is)
    (case a_Journal => k_is)
    (case z_super => k_is)
    (case xp => first | rfl | decide +kernel)
    (case xo => k_is)
    (case y6 => k_is)
    (case y7 => k_is)
    (case xl_Mismatch => k_is)
    (case xr_Mismatch => decide +kernel)
    (case xs_Mismatch => k_is)
    (case xn_Mismatch => k_is)
    (case xi_Mismatch => k_is)
    (case xt_Mismatch => k_is)
    (case xk_Mismatch => k_is)
    (case xe_Mismatch => k_is)
    (case xv_Mismatch => k_is)
    (case xy_Mismatch => k_is)
    (case xm_Mismatch => k_is)
    (case xu_Mismatch => ks_is)
    (case xf_Mismatch => k_is)
    (case xc_Mismatch => k_is)
    (case xd_Mismatch => k_is)
    (case xg_Mismatch => k_is)
    (case xh_Mismatch => rfl)
    (case xj_Mismatch => first | rfl | decide +kernel)
    (case xq_Mismatch => k_is)
    (case y1_Mismatch => k_is)
    (case y2_Mismatch => k_is)
    (case y5_Mismatch => k_is)
    (case y8_Mismatch => k_is)
    (case y9_Mismatch => first | rfl | k_is)
    (case xl_NoMoment => k_is)
    (case xr_NoMoment => decide +kernel)
    (case xs_NoMoment => k_is)
    (case xn_NoMoment => k_is)
    (case xi_NoMoment => k_is)
    (case xt_NoMoment => k_is)
    (case xk_NoMoment => k_is)
    (case xe_NoMoment => k_is)
    (case xv_NoMoment => k_is)
    (case xy_NoMoment => k_is)
    (case xm_NoMoment => k_is)
    (case xu_NoMoment => ks_is)
    (case xf_NoMoment => k_is)
    (case xc_NoMoment => k_is)
    (case xd_NoMoment => k_is)
    (case xg_NoMoment => k_is)
    (case xh_NoMoment => rfl)
    (case xj_NoMoment => first | rfl | decide +kernel)
    (case xq_NoMoment => k_is)
    (case y1_NoMoment => k_is)
    (case y2_NoMoment => k_is)
    (case y5_NoMoment => k_is)
    (case y8_NoMoment => k_is)
    (case y9_NoMoment => first | rfl | k_is)
    (case xl_StampBack => k_is)
    (case xr_StampBack => decide +kernel)
    (case xs_StampBack => k_is)
    (case xn_StampBack => k_is)
    (case xi_StampBack => k_is)
    (case xt_StampBack => k_is)
    (case xk_StampBack => k_is)
    (case xe_StampBack => k_is)
    (case xv_StampBack => k_is)
    (case xy_StampBack => k_is)
    (case xm_StampBack => k_is)
    (case xu_StampBack => ks_is)
    (case xf_StampBack => k_is)
    (case xc_StampBack => k_is)
    (case xd_StampBack => k_is)
    (case xg_StampBack => k_is)
    (case xh_StampBack => rfl)
    (case xj_StampBack => first | rfl | decide +kernel)
    (case xq_StampBack => k_is)
    (case y1_StampBack => k_is)
    (case y2_StampBack => k_is)
    (case y5_StampBack => k_is)
    (case y8_StampBack => k_is)
    (case y9_StampBack => first | rfl | k_is)
    (case v_Mismatch_NoMoment => k_is)
    (case v_StampBack_NoMoment => k_is)
    (case v_StampBack_Mismatch => k_is)
    (case w0 => kit_is)
    (case w1 => kit_is)
    (case w2 => kit_is)
    (case w3 => kit_is)

