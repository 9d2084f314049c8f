import PyProof.Rows.All
import Wide.All
import OpenK.AllK
import Wide.FinOn
import HandS.ForMost
import HandS.More
import HandS.TupAny
import HandS.Wide
import HandS.IsInst
import HandS.Style
import KE.KxIndex
import HandS.SortRule
import HandS.Conv
import HandS.Finally
import HandS.Deep
import HandS.DictComp
import KE.KDictCopyH
import HandS.TupLen
import PySem.Challenge.RW_storelife_k25_differences_are_a_groupoid
set_option Elab.async false
set_option linter.all false
set_option maxRecDepth 100000
namespace Zk
open PySem PySem.Spec L2
open PyProof.Rows hiding St

/-! ### heaps that grow -/
def Imm : HO → Prop
  | .tup _ => True
  | .frz _ _ => True
  | _ => False
/-- everything but the objects at M stands as it stood -/
structure Ext (M : List Addr) (H H' : Hp) : Prop where
  keep : ∀ a o, H a = some o → a ∉ M → H' a = some o
  imm : ∀ a o, H a = some o → Imm o → H' a = some o
  live : ∀ a o, H a = some o → ∃ o', H' a = some o'
theorem Ext.refl {M : List Addr} {H : Hp} : Ext M H H := ⟨fun _ _ h _ => h, fun _ _ h _ => h, fun _ o h => ⟨o, h⟩⟩
theorem Ext.trans {M : List Addr} {H H1 H2 : Hp} (a : Ext M H H1) (b : Ext M H1 H2) : Ext M H H2 :=
  ⟨fun x o h n => b.keep x o (a.keep x o h n) n, fun x o h i => b.imm x o (a.imm x o h i) i, fun x o h => (a.live x o h).elim fun o' h' => b.live x o' h'⟩
theorem Ext.mono {M N : List Addr} {H H' : Hp} (a : Ext M H H') (s : ∀ x ∈ M, x ∈ N) : Ext N H H' :=
  ⟨fun x o h n => a.keep x o h fun z => n (s x z), a.imm, a.live⟩
theorem Ext.up {M : List Addr} {H H' : Hp} (a : Ext [] H H') : Ext M H H' := a.mono fun _ z => nomatch z
theorem Ext.free {M : List Addr} {H H' : Hp} (e : Ext M H H') {l : Addr} (h : H' l = none) : H l = none := by
  cases q : H l with
  | none => rfl
  | some o =>
    obtain ⟨o', q'⟩ := e.live l o q
    rw [h] at q'
    cases q'
/-- what changes at an address that was free at the start is no change -/
theorem Ext.drop {M : List Addr} {H H1 H2 : Hp} {p : Addr} (a : Ext M H H1) (b : Ext (p :: M) H1 H2) (np : H p = none) : Ext M H H2 :=
  ⟨fun x o h n => b.keep x o (a.keep x o h n) fun z => by
      rcases List.mem_cons.mp z with z | z
      · subst z; rw [np] at h; cases h
      · exact n z, fun x o h i => b.imm x o (a.imm x o h i) i, fun x o h => (a.live x o h).elim fun o' h' => b.live x o' h'⟩
theorem Ext.new {H : Hp} {p : Addr} {o : HO} (h : H p = none) : Ext [] H (upd H p o) :=
  ⟨fun a u e _ => by rw [upd_ne (ne_of_none e h)]; exact e, fun a u e _ => by rw [upd_ne (ne_of_none e h)]; exact e, fun a u e => ⟨u, by rw [upd_ne (ne_of_none e h)]; exact e⟩⟩
theorem Ext.mut {M : List Addr} {H : Hp} {p : Addr} {o u : HO} (h : H p = some u) (hm : ¬ Imm u) (hp : p ∈ M) : Ext M H (upd H p o) := by
  refine ⟨fun a x e n => ?_, fun a x e i => ?_, fun a x e => ?_⟩
  · have : a ≠ p := fun z => n (z ▸ hp)
    rw [upd_ne this]; exact e
  · have : a ≠ p := fun z => by subst z; rw [h] at e; cases e; exact hm i
    rw [upd_ne this]; exact e
  · by_cases z : a = p
    · subst z; exact ⟨o, upd_same⟩
    · exact ⟨x, by rw [upd_ne z]; exact e⟩
theorem Ext.tup {M : List Addr} {H H' : Hp} (e : Ext M H H') {a : Addr} {xs : List V} (h : H a = some (.tup xs)) : H' a = some (.tup xs) := e.imm a _ h trivial
theorem Ext.at {M : List Addr} {H H' : Hp} (e : Ext M H H') {a : Addr} {o : HO} (h : H a = some o) (n : a ∉ M) : H' a = some o := e.keep a o h n
/-- the dict at d is locked while it is walked -/
theorem Ext.lock {M : List Addr} {H H' : Hp} {d : Addr} {u : HO} {od : Obj} (h : H d = some u) (hm : ¬ Imm u) (e : Ext M (upd H d (.frz od u)) H') : Ext M H (upd H' d u) := by
  refine ⟨fun a x q n => ?_, fun a x q i => ?_, fun a x q => ?_⟩
  · by_cases z : a = d
    · subst z; rw [upd_same]; rw [h] at q; exact q
    · rw [upd_ne z]; exact e.keep a x (by rw [upd_ne z]; exact q) n
  · by_cases z : a = d
    · subst z; rw [upd_same]; rw [h] at q; exact q
    · rw [upd_ne z]; exact e.imm a x (by rw [upd_ne z]; exact q) i
  · by_cases z : a = d
    · subst z; exact ⟨u, upd_same⟩
    · obtain ⟨o', q'⟩ := e.live a x (by rw [upd_ne z]; exact q)
      exact ⟨o', by rw [upd_ne z]; exact q'⟩

/-! ### an object is laid, an object is changed, with the heap behind it a letter -/
def Alc (o : HO) (H : Hp) (Q : VK) : Prop := ∀ p, H p = none → Q (.ref p) (upd H p o)
theorem w_alc {o : HO} {H : Hp} {Q : VK} (h : ∀ p H', Ext [] H H' → H p = none → H' p = some o → Q (.ref p) H') : Alc o H Q := fun p np => h p _ (Ext.new np) np upd_same
def Chg (p : Addr) (o : HO) (H : Hp) (Q : Hp → Prop) : Prop := Q (upd H p o)
theorem w_chg {p : Addr} {o u : HO} {H : Hp} {Q : Hp → Prop} (hp : H p = some u) (hm : ¬ Imm u) (h : ∀ H', Ext [p] H H' → H' p = some o → Q H') : Chg p o H Q :=
  h _ (Ext.mut hp hm (List.mem_singleton.mpr rfl)) upd_same

/-! ### lists and tuples to be read -/
theorem sql {K : PySem.W.Frag} {H : Hp} {a : Addr} {xs : List V} (h : H a = some (.lst xs)) : SqL K H a xs := .inl (.inl h)
theorem sqt {K : PySem.W.Frag} {H : Hp} {a : Addr} {xs : List V} (h : H a = some (.tup xs)) : SqT K H a xs := .inl (.inl h)
/-- the script: locked, or of the written part -/
def Scr (K : PySem.W.Frag) (H : Hp) (a : Addr) (xs : List V) : Prop := (∃ o, H a = some (.frz o (.lst xs))) ∨ (∀ H', SqL K H' a xs)
theorem Scr.ext {K : PySem.W.Frag} {M : List Addr} {H H' : Hp} {a : Addr} {xs : List V} (e : Ext M H H') (h : Scr K H a xs) : Scr K H' a xs := by
  rcases h with ⟨o, h⟩ | h
  · exact .inl ⟨o, e.imm _ _ h trivial⟩
  · exact .inr h
theorem Scr.sql {K : PySem.W.Frag} {H : Hp} {a : Addr} {xs : List V} (h : Scr K H a xs) : SqL K H a xs := by
  rcases h with ⟨o, h⟩ | h
  · exact .inl (.inr ⟨o, h⟩)
  · exact h H
theorem Scr.of {K : PySem.W.Frag} {H : Hp} {a : Addr} {xs : List V} (hO : Only H) (h : SqL K H a xs) : Scr K H a xs := by
  rcases h with (h | ⟨o, h⟩) | h
  · rcases hO a with z | ⟨o, ys, z⟩
    · rw [h] at z; cases z
    · rw [h] at z; cases z
  · exact .inl ⟨o, h⟩
  · exact .inr fun H' => .inr h
theorem sz {n : Nat} (h : n ≤ 1000000) : n ≤ sizeLine := Nat.le_trans h (by decide)
theorem szl {n : Nat} (h : n < 1000000) : n < sizeLine := Nat.lt_of_lt_of_le h (by decide)

/-! ### readings, by name -/
def zTup (t : TA) : TE := fun σ H Q => t σ H fun xs H1 => xs.length ≤ sizeLine ∧ Alc (.tup xs) H1 Q
def zLst (t : TA) : TE := fun σ H Q => t σ H fun xs H1 => xs.length ≤ sizeLine ∧ Alc (.lst xs) H1 Q
def zDNewK : TE := fun _ H Q => Alc (.dK []) H Q
def zDNewT : TE := fun _ H Q => Alc (.dT []) H Q
def rLtS : R2 := fun x y H Q => ∃ i j, x = .str i ∧ y = .str j ∧ Q (.bl (decide (i.cps.toList < j.cps.toList))) H
def rAddSt : R2 := fun x y H Q => ∃ i j, x = .str i ∧ y = .str j ∧ i.length + j.length ≤ sizeLine ∧ Q (.str (i ++ j)) H
def rMulSt : R2 := fun x y H Q => ∃ i j, x = .str i ∧ y = .int j ∧ i.length ≤ 16 ∧ (-(2 ^ 63 : Int) ≤ j ∧ j ≤ 1048576) ∧ Q (.str (Txt.mul i j)) H
def rIsNn : R2 := fun x y H Q => y = .non ∧ Q (.bl (decide (x = .non))) H
def rIsNt : R2 := fun x y H Q => y = .non ∧ Q (.bl (!decide (x = .non))) H
def rIsBv : R2 := fun x y H Q => ∃ b, y = .bl b ∧ Q (.bl (decide (x = .bl b))) H
def rIsNtBv : R2 := fun x y H Q => ∃ b, y = .bl b ∧ Q (.bl (!decide (x = .bl b))) H
def zCat : R2 := fun x y H Q => ∃ l b xs zs, x = .ref l ∧ y = .ref b ∧ H l = some (.lst xs) ∧ H b = some (.lst zs) ∧ xs.length + zs.length ≤ sizeLine ∧ Alc (.lst (xs ++ zs)) H Q
def zCatA (K : PySem.W.Frag) : R2 := fun x y H Q => ∃ a b xs ys, x = .ref a ∧ y = .ref b ∧ SqT K H a xs ∧ SqT K H b ys ∧ xs.length + ys.length ≤ sizeLine ∧
  (xs = [] → Q (.ref b) H) ∧ (xs ≠ [] → ys = [] → Q (.ref a) H) ∧ (xs ≠ [] → ys ≠ [] → Alc (.tup (xs ++ ys)) H Q)
def zSetL : V → V → V → Hp → (Hp → Prop) → Prop := fun o i v H Q => ∃ p xs k j, o = .ref p ∧ i = .int k ∧ H p = some (.lst xs) ∧ ixN xs.length k = some j ∧ Chg p (.lst (xs.set j v)) H Q
def zAppend : V → List V → Hp → VK → Prop := fun x vs H Q => ∃ l xs y, x = .ref l ∧ vs = [y] ∧ H l = some (.lst xs) ∧ xs.length < sizeLine ∧ Chg l (.lst (xs ++ [y])) H (Q .non)
def rJoin (K : PySem.W.Frag) : V → List V → Hp → VK → Prop := fun x xs H Q => ∃ a p, ∃ ys : List Str, x = .str a ∧ xs = [.ref p] ∧ (SqL K H p (ys.map V.str) ∨ SqT K H p (ys.map V.str)) ∧
    (ys.map (·.length)).sum + ys.length * a.length ≤ 16777216 ∧ Q (.str (Txt.join a ys)) H
/-! calls of built-ins -/
abbrev RC := List V → Hp → VK → Prop
def cInt : RC := fun xs H Q => (∃ i, xs = [.int i] ∧ Q (.int i) H) ∨ ∃ k, xs = [.bl k] ∧ Q (.int (if k then 1 else 0)) H
def cTup (K : PySem.W.Frag) : RC := fun xs H Q => ∃ p ys, xs = [.ref p] ∧ ((SqL K H p ys ∧ Alc (.tup ys) H Q) ∨ (SqT K H p ys ∧ Q (.ref p) H))
def cLen (K : PySem.W.Frag) : RC := fun xs H Q => ∃ x n, xs = [x] ∧ LenV K x H n ∧ Q (.int n) H
def cLenD : RC := fun xs H Q => ∃ a kvs, xs = [V.ref a] ∧ H a = some (.dK kvs) ∧ Q (.int kvs.length) H
def cDictD : RC := fun xs H Q => ∃ (a : Addr) (kvs : List (Key × V)), xs = [.ref a] ∧ Rd H a (.dK kvs) ∧ Alc (.dK kvs) H Q
def cSortD : RC := fun xs H Q => ∃ (a : Addr) (kvs : List (Key × V)) (ks : List Str), xs = [.ref a] ∧ Rd H a (.dK kvs) ∧ kvs.map (·.1) = ks.map Sum.inr ∧ ks.length < 64 ∧
    ∀ ys, ys.Perm ks → sortedS ys = true → Alc (.lst (ys.map V.str)) H Q
section
variable {X : Cx} {es : List Expr} {t : TA} {pos : Pos}
theorem pe_tupZ {x1} (h : PA X es t) : PE X (.Tuple es x1 pos) (zTup t) := pe_tup h
theorem pe_lstZ (h : PA X es t) : PE X (.List es pos) (zLst t) := pe_lst h
theorem pe_dnewKZ : PE X (.Dict [] [] pos) zDNewK := pe_dnewK
theorem pe_dnewTZ : PE X (.Dict [] [] pos) zDNewT := pe_dnewT
theorem zpe_join {o e : Expr} {to te : TE} {apos : Pos} (ho : PE X o to) (he : PE X e te) (hs : starEach [e] X.env = [(false, eval e X.env)] := by rfl) (hbase : attributeBase o "join" X.env (eval o X.env) = eval o X.env := by rfl) (hline : (apos.endLine == pos.line) = true := by rfl) :
    PE X (.Call (.Attribute o "join" apos) [e] [] pos) (tM1 (rJoin X.K) to te) := pe_join ho he hs hbase hline
theorem zop_ltS : OpR X (compareOp .Lt) rLtS := op_lt_str
theorem zop_addS : OpR X (binaryOp .Add) rAddSt := op_add_str
theorem zop_isN : OpR X (compareOp .Is) rIsNn := op_isN
theorem zop_notN : OpR X (compareOp .IsNot) rIsNt := op_notN
theorem plain_bool {x : V} {v : Value} {b : Bool} (r : RelV x v) : plainIs v (.bool b) = true := by
  cases x with
  | non => cases (show v = _ from r); rfl
  | bl c => cases (show v = _ from r); rfl
  | int i => obtain ⟨t, e⟩ := (show ∃ t, v = _ from r); subst e; rfl
  | str i => obtain ⟨t, e⟩ := (show ∃ t, v = _ from r); subst e; rfl
  | byt i => obtain ⟨t, e⟩ := (show ∃ t, v = _ from r); subst e; rfl
  | flt i => obtain ⟨t, e⟩ := (show ∃ t, v = _ from r); subst e; rfl
  | ref a => cases (show v = _ from r); rfl
  | ty n => cases (show v = _ from r); rfl
theorem rel_bool {x : V} {v : Value} {b : Bool} (r : RelV x v) : (v = .bool b) ↔ x = .bl b := by
  constructor
  · intro z
    subst z
    cases x with
    | bl c => cases (show Value.bool b = Value.bool c from r); rfl
    | non => cases (show Value.bool b = _ from r)
    | int i => obtain ⟨t, e⟩ := (show ∃ t, Value.bool b = _ from r); cases e
    | str i => obtain ⟨t, e⟩ := (show ∃ t, Value.bool b = _ from r); cases e
    | byt i => obtain ⟨t, e⟩ := (show ∃ t, Value.bool b = _ from r); cases e
    | flt i => obtain ⟨t, e⟩ := (show ∃ t, Value.bool b = _ from r); cases e
    | ref a => cases (show Value.bool b = _ from r)
    | ty n => cases (show Value.bool b = _ from r)
  · intro z
    subst z
    exact r
theorem zop_isB : OpR X (compareOp .Is) rIsBv := by
  intro pins s σ H x y v u Q I rx ry h
  obtain ⟨b, rfl, q⟩ := h
  cases (show u = Value.bool b from ry)
  by_cases e : x = .bl b
  · have e2 := (rel_bool (b := b) rx).mpr e
    subst e2
    exact wpAny_is_self rfl ⟨.bl true, H, I, rfl, by rw [decide_eq_true e] at q; exact q⟩
  · exact wpAny_is_other (plain_bool rx) (fun z => e ((rel_bool rx).mp z)) ⟨.bl false, H, I, rfl, by rw [decide_eq_false e] at q; exact q⟩
theorem zop_isNotB : OpR X (compareOp .IsNot) rIsNtBv := by
  intro pins s σ H x y v u Q I rx ry h
  obtain ⟨b, rfl, q⟩ := h
  cases (show u = Value.bool b from ry)
  by_cases e : x = .bl b
  · have e2 := (rel_bool (b := b) rx).mpr e
    subst e2
    exact wpAny_isNot_self rfl ⟨.bl false, H, I, rfl, by rw [decide_eq_true e] at q; exact q⟩
  · exact wpAny_isNot_other (plain_bool rx) (fun z => e ((rel_bool rx).mp z)) ⟨.bl true, H, I, rfl, by rw [decide_eq_false e] at q; exact q⟩
theorem zop_mulS : OpR X (binaryOp .Mult) rMulSt := by
  intro pins s σ H x y v u Q I rx ry h
  obtain ⟨i, j, rfl, rfl, hi, hj, q⟩ := h
  obtain ⟨t, rfl⟩ := rx
  obtain ⟨t', rfl⟩ := ry
  exact PySem.W.KXi.mul rfl hi hj.1 hj.2 fun t' tk _ _ => ⟨.str (Txt.mul i j), H, I.tok _, ⟨_, rfl⟩, q⟩
theorem zop_cat : OpR X (binaryOp .Add) zCat := op_cat
theorem zop_catA : OpR X (binaryOp .Add) (zCatA X.K) := op_catA
theorem zset_list : PSet X zSetL := set_list
theorem zmt_append : MtR X "list.append" zAppend := mt_append
theorem zop_catAK {K : PySem.W.Frag} (h : X.K = K) : OpR X (binaryOp .Add) (zCatA K) := h ▸ zop_catA
theorem op_in_seqK {K : PySem.W.Frag} (h : X.K = K) : OpR X (compareOp .In) (rIn K false) := h ▸ op_in_seq
theorem op_notIn_seqK {K : PySem.W.Frag} (h : X.K = K) : OpR X (compareOp .NotIn) (rIn K true) := h ▸ op_notIn_seq
theorem ix_listK {K : PySem.W.Frag} (h : X.K = K) : IxR X (rIxL K) := h ▸ ix_list
theorem ix_tupK {K : PySem.W.Frag} (h : X.K = K) : IxR X (rIxT K) := h ▸ ix_tup
theorem zc_lenK {K : PySem.W.Frag} (h : X.K = K) : CallR X (.builtin "len") (cLen K) := h ▸ call_len
theorem cr_sumK {K : PySem.W.Frag} (hc : X.calm = true) (h : X.K = K) : CallR X (.builtin "sum") (rSum K) := h ▸ cr_sum hc
theorem zc_int : CallR X (.type "int") cInt := call_int1
theorem zc_tup : CallR X (.type "tuple") (cTup X.K) := call_tuple_of
theorem zc_len : CallR X (.builtin "len") (cLen X.K) := call_len
theorem zc_lenD : CallR X (.builtin "len") cLenD := call_lenD
theorem zc_dictD : CallR X (.type "dict") cDictD := call_dictD
theorem zc_sortD (hc : X.calm = true) : CallR X (.builtin "sorted") cSortD := by
  intro pins s σ H xs us Q I r h
  obtain ⟨a, kvs, ks, e, h1, h2, h3, q⟩ := h
  exact call_sortedD hc pins s σ H xs us Q I r ⟨a, kvs, ks, e, h1, h2, h3, fun ys p hp hs np => q ys hp hs p np⟩
end
end Zk

set_option Elab.async false
set_option linter.all false
set_option maxRecDepth 100000
namespace Zk
open PySem PySem.Spec L2
open PyProof.Rows hiding St

theorem nm1 {a p : Addr} (h : a ≠ p) : a ∉ [p] := fun z => h (List.mem_singleton.mp z)
theorem nm2 {a p q : Addr} (h : a ≠ p) (g : a ≠ q) : a ∉ [p, q] := fun z => by
  rcases List.mem_cons.mp z with z | z
  · exact h z
  · exact g (List.mem_singleton.mp z)
theorem Ext.get {M : List Addr} {H H' : Hp} (e : Ext M H H') {a : Addr} {o : HO} (h : H a = some o) (n : a ∉ M ∨ Imm o) : H' a = some o :=
  n.elim (e.keep a o h) (e.imm a o h)

theorem at_some {α : Type} {xs : List α} {r : Int} (h0 : 0 ≤ r) (h1 : r < (xs.length : Int)) : ∃ v, atI xs r = some v ∧ xs[r.toNat]? = some v := by
  have hl : r.toNat < xs.length := by omega
  refine ⟨xs[r.toNat], ?_, List.getElem?_eq_getElem hl⟩
  have h := atI_nat (xs := xs) (j := r.toNat) (List.getElem?_eq_getElem hl)
  rw [Int.toNat_of_nonneg h0] at h
  exact h
theorem at_map {α : Type} {f : α → V} {xs : List α} {r : Int} (h0 : 0 ≤ r) (h1 : r < (xs.length : Int)) : ∃ v, v ∈ xs ∧ atI (xs.map f) r = some (f v) := by
  obtain ⟨v, h, g⟩ := at_some (xs := xs.map f) h0 (by rw [List.length_map]; exact h1)
  rw [List.getElem?_map, Option.map_eq_some_iff] at g
  obtain ⟨y, hy, e⟩ := g
  subst e
  exact ⟨y, List.mem_of_getElem? hy, h⟩

theorem str_app_inj {z : Str} {c d : Nat} (h : z ++ (⟨#[c]⟩ : Str) = z ++ (⟨#[d]⟩ : Str)) : c = d := by
  have h1 : z.cps ++ #[c] = z.cps ++ #[d] := congrArg Str.cps h
  have h2 := congrArg Array.toList h1
  simp at h2
  exact h2
theorem str_len_append (a b : Str) : (a ++ b).length = a.length + b.length := Array.size_append
theorem str_len_join {sep : Str} (h0 : sep.length = 0) : ∀ ys : List Str, (Txt.join sep ys).length = (ys.map (·.length)).sum := by
  intro ys
  show (Builtin.Str.glued sep ys).length = _
  rw [StrLaws.glued_eq_join]
  induction ys with
  | nil => rfl
  | cons x r ih =>
    cases r with
    | nil => simp [Str.join]
    | cons y r =>
      show (x ++ sep ++ Str.join sep (y :: r)).length = _
      rw [str_len_append, str_len_append, ih, h0]
      simp
theorem str_len_mul {x : Str} {n : Int} (h : 0 ≤ n) : (Txt.mul x n).length = x.length * n.toNat := by
  have e := PyProof.Rows.len_mul x n
  rw [if_neg (by simp; omega)] at e
  have : (x.length : Int) * n = ((x.length * n.toNat : Nat) : Int) := by
    rw [Int.natCast_mul, Int.toNat_of_nonneg h]
  omega
theorem nodup_len {α : Type} [DecidableEq α] : ∀ {l m : List α}, l.Nodup → (∀ x ∈ l, x ∈ m) → l.length ≤ m.length
  | [], m, _, _ => Nat.zero_le _
  | x :: l, m, hn, hs => by
    obtain ⟨h1, h2⟩ := List.nodup_cons.mp hn
    have hx := hs x List.mem_cons_self
    have ih := nodup_len (l := l) (m := m.erase x) h2 fun y hy => by
      have ne : y ≠ x := fun z => h1 (z ▸ hy)
      exact (List.mem_erase_of_ne ne).mpr (hs y (List.mem_cons_of_mem _ hy))
    rw [List.length_erase_of_mem hx] at ih
    have : 0 < m.length := List.length_pos_of_mem hx
    show l.length + 1 ≤ m.length
    omega

theorem paired_snoc {α β : Type} {R : α → β → Prop} {x : α} {y : β} (r : R x y) : ∀ {xs : List α} {ys : List β}, Paired R xs ys → Paired R (xs ++ [x]) (ys ++ [y])
  | _, _, .nil => .cons r .nil
  | _, _, .cons h t => .cons h (paired_snoc r t)
theorem paired_at {α β : Type} {R : α → β → Prop} : ∀ {xs : List α} {ys : List β} {i : Nat} {x : α}, Paired R xs ys → xs[i]? = some x → ∃ y, ys[i]? = some y ∧ R x y
  | _, _, _, _, .nil, e => by simp at e
  | _, _, 0, _, .cons r _, e => by simp at e; subst e; exact ⟨_, rfl, r⟩
  | _, _, i + 1, x, .cons _ t, e => by
    obtain ⟨y, h1, h2⟩ := paired_at (i := i) (x := x) t (by simpa using e)
    exact ⟨y, by simpa using h1, h2⟩
theorem paired_len {α β : Type} {R : α → β → Prop} : ∀ {xs : List α} {ys : List β}, Paired R xs ys → xs.length = ys.length
  | _, _, .nil => rfl
  | _, _, .cons _ t => congrArg (· + 1) (paired_len t)
theorem at_nat0 {α : Type} {xs : List α} {i : Nat} {v : α} (h : xs[i]? = some v) : atI xs (0 + (i : Int)) = some v := by
  rw [Int.zero_add]
  exact atI_nat h
theorem get_snoc {α : Type} {xs : List α} {x : α} {i : Nat} (h : xs.length = i) : (xs ++ [x])[i]? = some x := by
  subst h
  simp
theorem Ext.dropq {M : List Addr} {H H1 H2 : Hp} {p : Addr} (a : Ext M H H1) (b : Ext [p] H1 H2) (np : H p = none) : Ext M H H2 :=
  a.drop (p := p) (b.mono fun _ z => List.mem_cons.mpr (.inl (List.mem_singleton.mp z))) np

/-! ### promises by the number of arguments -/
def sp0 (P : Hp → VK → Prop) : Sp := fun vs H Q _ => vs = [] ∧ P H Q
def sp1 (P : V → Hp → VK → Prop) : Sp := fun vs H Q _ => ∃ a, vs = [a] ∧ P a H Q
def sp2 (P : V → V → Hp → VK → Prop) : Sp := fun vs H Q _ => ∃ a b, vs = [a, b] ∧ P a b H Q
def sp3 (P : V → V → V → Hp → VK → Prop) : Sp := fun vs H Q _ => ∃ a b c, vs = [a, b, c] ∧ P a b c H Q
def sp4 (P : V → V → V → V → Hp → VK → Prop) : Sp := fun vs H Q _ => ∃ a b c d, vs = [a, b, c, d] ∧ P a b c d H Q
theorem w_sp1 {P : V → Hp → VK → Prop} {a H Q E} (h : P a H Q) : sp1 P ([a] ++ []) H Q E := ⟨a, rfl, h⟩
theorem w_sp2 {P : V → V → Hp → VK → Prop} {a b H Q E} (h : P a b H Q) : sp2 P ([a, b] ++ []) H Q E := ⟨a, b, rfl, h⟩
theorem w_sp3 {P : V → V → V → Hp → VK → Prop} {a b c H Q E} (h : P a b c H Q) : sp3 P ([a, b, c] ++ []) H Q E := ⟨a, b, c, rfl, h⟩
theorem w_sp4 {P : V → V → V → V → Hp → VK → Prop} {a b c d H Q E} (h : P a b c d H Q) : sp4 P ([a, b, c, d] ++ []) H Q E := ⟨a, b, c, d, rfl, h⟩
theorem len1 {P : V → Hp → VK → Prop} {x : Str} : ∀ vs H Q E, sp1 P vs H Q E → vs.length = [x].length := fun _ _ _ _ ⟨_, e, _⟩ => e ▸ rfl
theorem len2 {P : V → V → Hp → VK → Prop} {x y : Str} : ∀ vs H Q E, sp2 P vs H Q E → vs.length = [x, y].length := fun _ _ _ _ ⟨_, _, e, _⟩ => e ▸ rfl
theorem len3 {P : V → V → V → Hp → VK → Prop} {x y z : Str} : ∀ vs H Q E, sp3 P vs H Q E → vs.length = [x, y, z].length := fun _ _ _ _ ⟨_, _, _, e, _⟩ => e ▸ rfl
theorem len4 {P : V → V → V → V → Hp → VK → Prop} {x y z u : Str} : ∀ vs H Q E, sp4 P vs H Q E → vs.length = [x, y, z, u].length := fun _ _ _ _ ⟨_, _, _, _, e, _⟩ => e ▸ rfl

/-! ### one step of a reading -/
section
variable {σ : St} {H : Hp} {Q : VK} {QB : Bool → Hp → Prop} {QL : List V → Hp → Prop} {v x y : V} {ta tb tc te : TE} {tt tu : TT} {tl : TA} {t u : TS} {r : R2} {K : PySem.W.Frag} {i : Nat} {nx bk ct : St → Hp → Prop} {rt : VK} {a b : Addr}
theorem w_var (h : σ[i]? = some (some v)) (q : Q v H) : tVar i σ H Q := ⟨v, h, q⟩
theorem w_c (q : Q v H) : tC v σ H Q := q
theorem w_op (h : ta σ H fun x H1 => tb σ H1 fun y H2 => r x y H2 Q) : tOp r ta tb σ H Q := h
theorem w_un {r : V → Hp → VK → Prop} (h : ta σ H fun x H1 => r x H1 Q) : tUn r ta σ H Q := h
theorem w_rU {g : Int → V} {j : Int} (q : Q (g j) H) : rU g (.int j) H Q := ⟨j, rfl, q⟩
theorem w_I0 {g : Int → Int → V} {i j : Int} (q : Q (g i j) H) : rI0 g (.int i) (.int j) H Q := ⟨i, j, rfl, rfl, q⟩
theorem w_I {C : Int → Int → Prop} {g : Int → Int → V} {i j : Int} (c : C i j) (q : Q (g i j) H) : rI C g (.int i) (.int j) H Q := ⟨i, j, rfl, rfl, c, q⟩
theorem w_modA {i j : Int} (c : 0 < j) (q : ∀ r, 0 ≤ r → r < j → Q (.int r) H) : rI (fun _ j => 0 < j) (fun i j => .int (i % j)) (.int i) (.int j) H Q := ⟨i, j, rfl, rfl, c, q _ (Int.emod_nonneg i (by omega)) (Int.emod_lt_of_pos i c)⟩
theorem w_eq (c : scal x y = true) (q : Q (.bl (decide (x = y))) H) : rEq x y H Q := ⟨c, q⟩
theorem w_ne (c : scal x y = true) (q : Q (.bl (!decide (x = y))) H) : rNe x y H Q := ⟨c, q⟩
theorem w_eqI {i j : Int} (q : Q (.bl (decide (i = j))) H) : rEq (.int i) (.int j) H Q := ⟨rfl, by rw [show decide (V.int i = V.int j) = decide (i = j) by simp]; exact q⟩
theorem w_neI {i j : Int} (q : Q (.bl (!decide (i = j))) H) : rNe (.int i) (.int j) H Q := ⟨rfl, by rw [show decide (V.int i = V.int j) = decide (i = j) by simp]; exact q⟩
theorem w_eqS {i j : Str} (q : Q (.bl (decide (i = j))) H) : rEq (.str i) (.str j) H Q := ⟨rfl, by rw [show decide (V.str i = V.str j) = decide (i = j) by simp]; exact q⟩
theorem w_neS {i j : Str} (q : Q (.bl (!decide (i = j))) H) : rNe (.str i) (.str j) H Q := ⟨rfl, by rw [show decide (V.str i = V.str j) = decide (i = j) by simp]; exact q⟩
theorem w_isN (q : Q (.bl (decide (x = .non))) H) : rIsNn x .non H Q := ⟨rfl, q⟩
theorem w_isNt (q : Q (.bl (!decide (x = .non))) H) : rIsNt x .non H Q := ⟨rfl, q⟩
theorem w_isB {c : Bool} (q : Q (.bl (decide (x = .bl c))) H) : rIsBv x (.bl c) H Q := ⟨c, rfl, q⟩
theorem w_isNtB {c : Bool} (q : Q (.bl (!decide (x = .bl c))) H) : rIsNtBv x (.bl c) H Q := ⟨c, rfl, q⟩
theorem w_ltS {i j : Str} (q : Q (.bl (decide (i.cps.toList < j.cps.toList))) H) : rLtS (.str i) (.str j) H Q := ⟨i, j, rfl, rfl, q⟩
theorem w_addS {i j : Str} (c : i.length + j.length ≤ sizeLine) (q : Q (.str (i ++ j)) H) : rAddSt (.str i) (.str j) H Q := ⟨i, j, rfl, rfl, c, q⟩
theorem w_mulS {i : Str} {j : Int} (c : i.length ≤ 16) (d : -(2 ^ 63 : Int) ≤ j ∧ j ≤ 1048576) (q : Q (.str (Txt.mul i j)) H) : rMulSt (.str i) (.int j) H Q := ⟨i, j, rfl, rfl, c, d, q⟩
theorem w_ixL {xs : List V} {j : Int} (h : SqL K H a xs) (e : atI xs j = some v) (q : Q v H) : rIxL K (.ref a) (.int j) H Q := ⟨a, xs, j, v, rfl, rfl, h, e, q⟩
theorem w_ixT {xs : List V} {j : Int} (h : SqT K H a xs) (e : atI xs j = some v) (q : Q v H) : rIxT K (.ref a) (.int j) H Q := ⟨a, xs, j, v, rfl, rfl, h, e, q⟩
theorem w_ixS {z : Str} {j : Int} {c : Nat} (h : z.length ≤ sizeLine) (e : atI z.cps.toList j = some c) (q : Q (.str ⟨#[c]⟩) H) : rIxS (.str z) (.int j) H Q := ⟨z, j, c, rfl, rfl, h, e, q⟩
theorem w_inL {neg : Bool} {xs : List V} (h : SqL K H a xs) (f : flatV x = true) (g : xs.all flatV = true) (q : Q (.bl (if neg then !inV x xs else inV x xs)) H) : rIn K neg x (.ref a) H Q := ⟨a, xs, rfl, .inl h, f, g, q⟩
theorem w_inT {neg : Bool} {xs : List V} (h : SqT K H a xs) (f : flatV x = true) (g : xs.all flatV = true) (q : Q (.bl (if neg then !inV x xs else inV x xs)) H) : rIn K neg x (.ref a) H Q := ⟨a, xs, rfl, .inr h, f, g, q⟩
theorem w_cat {xs zs : List V} (h : H a = some (.lst xs)) (g : H b = some (.lst zs)) (c : xs.length + zs.length ≤ sizeLine) (q : Alc (.lst (xs ++ zs)) H Q) : zCat (.ref a) (.ref b) H Q := ⟨a, b, xs, zs, rfl, rfl, h, g, c, q⟩
theorem w_setL {xs : List V} {k : Int} {j : Nat} {Q : Hp → Prop} (h : H a = some (.lst xs)) (e : ixN xs.length k = some j) (q : Chg a (.lst (xs.set j v)) H Q) : zSetL (.ref a) (.int k) v H Q := ⟨a, xs, k, j, rfl, rfl, h, e, q⟩
theorem w_append {xs : List V} (h : H a = some (.lst xs)) (c : xs.length < sizeLine) (q : Chg a (.lst (xs ++ [y])) H (Q .non)) : zAppend (.ref a) [y] H Q := ⟨a, xs, y, rfl, rfl, h, c, q⟩
theorem w_m1 {r : V → List V → Hp → VK → Prop} (h : ta σ H fun x H1 => (∃ a, x = .str a) ∧ tb σ H1 fun y H2 => r x [y] H2 Q) : tM1 r ta tb σ H Q := h
theorem w_str {s : Str} {R : Prop} (h : R) : (∃ a, V.str s = .str a) ∧ R := ⟨⟨s, rfl⟩, h⟩
theorem w_join {s : Str} {ys : List Str} (h : SqL K H a (ys.map V.str)) (c : (ys.map (·.length)).sum + ys.length * s.length ≤ 16777216) (q : Q (.str (Txt.join s ys)) H) : rJoin K (.str s) [.ref a] H Q := ⟨s, a, ys, rfl, rfl, .inl h, c, q⟩
theorem inV_str {z : Str} {ns : List Str} : inV (.str z) (ns.map V.str) = decide (z ∈ ns) := by
  unfold inV
  induction ns with
  | nil => rfl
  | cons a r ih =>
    rw [List.map_cons, List.any_cons, ih]
    show (a == z || decide (z ∈ r)) = _
    by_cases h : a = z
    · subst h; simp
    · have h2 : ¬ z = a := fun e => h e.symm
      simp [h, h2]
theorem flat_str : ∀ ns : List Str, (ns.map V.str).all flatV = true
  | [] => rfl
  | _ :: r => by rw [List.map_cons, List.all_cons, flat_str r]; rfl
theorem w_inS {z : Str} {ns : List Str} (h : SqL K H a (ns.map V.str) ∨ SqT K H a (ns.map V.str)) (q : Q (.bl (decide (z ∈ ns))) H) : rIn K false (.str z) (.ref a) H Q :=
  ⟨a, _, rfl, h, rfl, flat_str ns, by rw [if_neg Bool.false_ne_true, inV_str]; exact q⟩
theorem w_ninS {z : Str} {ns : List Str} (h : SqL K H a (ns.map V.str) ∨ SqT K H a (ns.map V.str)) (q : Q (.bl (!decide (z ∈ ns))) H) : rIn K true (.str z) (.ref a) H Q :=
  ⟨a, _, rfl, h, rfl, flat_str ns, by rw [if_pos rfl, inV_str]; exact q⟩
theorem w_bm {T : String} {r : V → List V → Hp → VK → Prop} (h : ta σ H fun x H1 => tyV K T x H1 ∧ tl σ H1 fun xs H2 => r x xs H2 Q) : tBM K T r ta tl σ H Q := h
theorem w_bm0 {T : String} {r : V → List V → Hp → VK → Prop} (h : ta σ H fun x H1 => tyV K T x H1 ∧ r x [] H1 Q) : tBM0 K T r ta σ H Q := h
theorem w_tyL {xs : List V} {R : Prop} (h : SqL K H a xs) (q : R) : tyV K "list" (.ref a) H ∧ R := ⟨.inl ⟨rfl, xs, h⟩, q⟩
/-! tests -/
theorem w_test (h : te σ H fun x H1 => ∃ k, x = .bl k ∧ QB k H1) : tTest te σ H QB := h
theorem w_tB (h : te σ H fun x H1 => ∃ k, x = .bl k ∧ QB k H1) : tB te σ H QB := h
theorem w_bl {k : Bool} {P : Bool → Prop} (q : P k) : ∃ c, V.bl k = .bl c ∧ P c := ⟨k, rfl, q⟩
theorem w_and (h : tt σ H fun c H1 => if c = true then tu σ H1 QB else QB false H1) : tAnd tt tu σ H QB := h
theorem w_or (h : tt σ H fun c H1 => if c = true then QB true H1 else tu σ H1 QB) : tOr tt tu σ H QB := h
theorem w_not (h : tt σ H fun c H1 => QB (!c) H1) : tNot tt σ H QB := h
theorem w_andV (h : ta σ H fun x H1 => ∃ c, x = .bl c ∧ if c = true then tb σ H1 Q else Q (.bl false) H1) : tAndV ta tb σ H Q := h
theorem w_orV (h : ta σ H fun x H1 => ∃ c, x = .bl c ∧ if c = true then Q (.bl true) H1 else tb σ H1 Q) : tOrV ta tb σ H Q := h
theorem w_notV (h : ta σ H fun x H1 => ∃ c, x = .bl c ∧ Q (.bl (!c)) H1) : tNotV ta σ H Q := h
theorem w_if (h : tt σ H fun c H1 => if c = true then ta σ H1 Q else tb σ H1 Q) : tIf tt ta tb σ H Q := h
theorem w_yes (q : QB true H) : tYes σ H QB := q
/-! arguments, displays, calls -/
theorem w_nil (q : QL [] H) : tNil σ H QL := q
theorem w_cons (h : te σ H fun x H1 => tl σ H1 fun xs H2 => QL (x :: xs) H2) : tCons te tl σ H QL := h
theorem w_tup (h : tl σ H fun xs H1 => xs.length ≤ sizeLine ∧ Alc (.tup xs) H1 Q) : zTup tl σ H Q := h
theorem w_lst (h : tl σ H fun xs H1 => xs.length ≤ sizeLine ∧ Alc (.lst xs) H1 Q) : zLst tl σ H Q := h
theorem w_dnewK (h : Alc (.dK []) H Q) : zDNewK σ H Q := h
theorem w_dnewT (h : Alc (.dT []) H Q) : zDNewT σ H Q := h
theorem w_cb {r : RC} (h : tl σ H fun vs H1 => r vs H1 Q) : tCB r tl σ H Q := h
theorem w_call {sp : Sp} {dvs : List V} {E : XK} (h : tl σ H fun vs H1 => sp (vs ++ dvs) H1 Q E) : tCall sp dvs E tl σ H Q := h
theorem w_int {j : Int} (q : Q (.int j) H) : cInt [.int j] H Q := .inl ⟨j, rfl, q⟩
theorem w_lenL {xs : List V} (h : SqL K H a xs) (q : Q (.int (xs.length : Int)) H) : cLen K [.ref a] H Q := ⟨_, _, rfl, .inl ⟨xs, h, rfl⟩, q⟩
theorem w_lenT {xs : List V} (h : SqT K H a xs) (q : Q (.int (xs.length : Int)) H) : cLen K [.ref a] H Q := ⟨_, _, rfl, .inr ⟨xs, h, rfl⟩, q⟩
theorem w_lenD {kvs : List (Key × V)} (h : H a = some (.dK kvs)) (q : Q (.int (kvs.length : Int)) H) : cLenD [.ref a] H Q := ⟨_, _, rfl, h, q⟩
theorem w_tupL {xs : List V} (h : SqL K H a xs) (q : Alc (.tup xs) H Q) : cTup K [.ref a] H Q := ⟨a, xs, rfl, .inl ⟨h, q⟩⟩
theorem w_dictD {kvs : List (Key × V)} (h : H a = some (.dK kvs)) (q : Alc (.dK kvs) H Q) : cDictD [.ref a] H Q := ⟨a, kvs, rfl, .inl h, q⟩
theorem w_sum {ns : List Int} (h : SqL K H a (ns.map V.int)) (q : Q (.int ns.sum) H) : rSum K [.ref a] H Q := ⟨a, ns, rfl, h, q⟩
theorem w_isi {c : V} {t w : Value} {k : Bool} (cl : ClsV c w) (ty : TyX K H x t) (e : PySem.W.kitOne K t w = some k) (q : Q (.bl k) H) : rIsi K [x, c] H Q := ⟨x, c, t, w, k, rfl, cl, ty, e, q⟩
theorem w_dget (h : ta σ H fun x H1 => tb σ H1 fun y H2 => ∃ a v, x = .ref a ∧ DGet H2 a y (some v) ∧ Q v H2) : tDGet ta tb σ H Q := h
theorem w_dgetS {kvs : List (Key × V)} {z : Str} {P : V → Prop} (h : H a = some (.dK kvs)) (e : valV kvs (Sum.inr z : Key) = some v) (q : P v) : ∃ b u, V.ref a = .ref b ∧ DGet H b (.str z) (some u) ∧ P u := ⟨a, v, rfl, by rw [← e]; exact DGet.k (k := Sum.inr z) h, q⟩
theorem w_din (h : ta σ H fun y H1 => tb σ H1 fun x H2 => ∃ a o, x = .ref a ∧ DGet H2 a y o ∧ Q (.bl o.isSome) H2) : tDIn ta tb σ H Q := h
theorem w_dnotin (h : ta σ H fun y H1 => tb σ H1 fun x H2 => ∃ a o, x = .ref a ∧ DGet H2 a y o ∧ Q (.bl (!o.isSome)) H2) : tDNotIn ta tb σ H Q := h
/-! statements -/
theorem w_seq (h : t ⟨u ⟨nx, rt, bk, ct⟩, rt, bk, ct⟩ σ H) : tSeq t u ⟨nx, rt, bk, ct⟩ σ H := h
theorem w_next (q : nx σ H) : tNext ⟨nx, rt, bk, ct⟩ σ H := q
theorem w_break (q : bk σ H) : tBreak ⟨nx, rt, bk, ct⟩ σ H := q
theorem w_cont (q : ct σ H) : tCont ⟨nx, rt, bk, ct⟩ σ H := q
theorem w_asg {g : TG} (h : te σ H fun x H1 => g x σ H1 nx) : tAsg te g ⟨nx, rt, bk, ct⟩ σ H := h
theorem w_gname {N : St → Hp → Prop} (q : N (σ.set i (some v)) H) : gName i v σ H N := q
theorem w_gsub {N : St → Hp → Prop} {s : TSet} (h : ta σ H fun o H1 => tb σ H1 fun i H2 => s o i v H2 fun H3 => N σ H3) : gSub ta tb s v σ H N := h
theorem w_drop (h : te σ H fun _ H1 => nx σ H1) : tDrop te ⟨nx, rt, bk, ct⟩ σ H := h
theorem w_ret (h : te σ H rt) : tRet te ⟨nx, rt, bk, ct⟩ σ H := h
theorem w_retN (h : rt .non H) : tRetN ⟨nx, rt, bk, ct⟩ σ H := h
theorem w_ifS (h : tt σ H fun b H1 => if b = true then t ⟨nx, rt, bk, ct⟩ σ H1 else u ⟨nx, rt, bk, ct⟩ σ H1) : tIfS tt t u ⟨nx, rt, bk, ct⟩ σ H := h
theorem w_cut (P : St → Hp → Prop) (h : ∀ σ' H', P σ' H' → nx σ' H') (g : ∀ nx', (∀ σ' H', P σ' H' → nx' σ' H') → tIfS tt t u ⟨nx', rt, bk, ct⟩ σ H) : tIfS tt t u ⟨nx, rt, bk, ct⟩ σ H := g nx h
theorem w_cutA {g : TG} (P : St → Hp → Prop) (h : ∀ σ' H', P σ' H' → nx σ' H') (k : ∀ nx', (∀ σ' H', P σ' H' → nx' σ' H') → tAsg te g ⟨nx', rt, bk, ct⟩ σ H) : tAsg te g ⟨nx, rt, bk, ct⟩ σ H := k nx h
theorem w_cutE (P : V → Hp → Prop) (h : ∀ v H', P v H' → Q v H') (k : ∀ Q' : VK, (∀ v H', P v H' → Q' v H') → tIf tt ta tb σ H Q') : tIf tt ta tb σ H Q := k Q h
theorem w_d {c A B : Prop} [Decidable c] (h1 : c → A) (h2 : ¬ c → B) : if decide c = true then A else B := ite2 (fun h => h1 (of_decide_eq_true h)) fun h => h2 fun z => h (decide_eq_true z)
theorem w_nd {c A B : Prop} [Decidable c] (h1 : ¬ c → A) (h2 : c → B) : if (!decide c) = true then A else B := ite2 (fun h => h1 fun z => by rw [decide_eq_true z] at h; cases h) fun h => h2 (by
  by_cases z : c
  · exact z
  · rw [decide_eq_false z] at h; exact absurd rfl h)
theorem w_b {c : Bool} {A B : Prop} (h1 : c = true → A) (h2 : c = false → B) : if c = true then A else B := by cases c with | true => exact iteT (h1 rfl) | false => exact iteF (h2 rfl)
theorem w_nb {c : Bool} {A B : Prop} (h1 : c = false → A) (h2 : c = true → B) : if (!c) = true then A else B := by cases c with | true => exact iteF (h2 rfl) | false => exact iteT (h1 rfl)
theorem w_for {wi : TI} {g : TG} (h : wi σ H fun J H1 => ∃ W : Nat → Nat → St → Hp → Prop, (∃ m, W 0 m σ H1) ∧ ∀ i m σ H, W i m σ H →
  (J.stop i H ∧ nx σ H) ∨ (J.go i H ∧ ∃ N : St → Hp → Prop, (∀ σ' H', N σ' H' → ∃ m', m' < m ∧ W (i + 1) m' σ' H') ∧ ∀ x H', J.yld i H x H' → g x σ H' fun σ2 H2 => t ⟨N, rt, nx, N⟩ σ2 H2)) : tFor wi g t ⟨nx, rt, bk, ct⟩ σ H := h
theorem w_iList {R : It → Hp → Prop} (h : te σ H fun x H1 => ∃ a, x = .ref a ∧ (∃ xs, SqL K H1 a xs) ∧ R (Itl K a) H1) : iList K te σ H R := h
theorem w_iTup {R : It → Hp → Prop} (h : te σ H fun x H1 => ∃ a, x = .ref a ∧ (∃ xs, SqT K H1 a xs) ∧ R (Itt K a) H1) : iTup K te σ H R := h
theorem w_iRng1 {R : It → Hp → Prop} (h : tl σ H fun vs H1 => ∃ j : Int, vs = [.int j] ∧ -(2 ^ 62) ≤ j ∧ j < 2 ^ 62 ∧ R (Itr 0 j.toNat) H1) : iRng1 tl σ H R := h
theorem w_iRng2 {R : It → Hp → Prop} (h : tl σ H fun vs H1 => ∃ i j : Int, vs = [.int i, .int j] ∧ (-(2 ^ 62) ≤ i ∧ i < 2 ^ 62 ∧ -(2 ^ 62) ≤ j ∧ j < 2 ^ 62) ∧ R (Itr i (j - i).toNat) H1) : iRng2 tl σ H R := h
theorem w_iStr {R : It → Hp → Prop} (h : te σ H fun v H1 => ∃ x, v = .str x ∧ R (Its x) H1) : iStr te σ H R := h
theorem iteNF {A B : Prop} (h : A) : if (!false) = true then A else B := iteT h
theorem iteNT {A B : Prop} (h : B) : if (!true) = true then A else B := iteF h
theorem w_f {c : Bool} {A B : Prop} (h : c = false) (q : B) : if c = true then A else B := by rw [h]; exact iteF q
theorem w_t {c : Bool} {A B : Prop} (h : c = true) (q : A) : if c = true then A else B := by rw [h]; exact iteT q
theorem w_gtup {n : Nat} {g : TGs} {xs : List V} {N : St → Hp → Prop} (h : SqT K H a xs) (l : xs.length = n) (q : g xs σ H N) : gTup K n g (.ref a) σ H N := ⟨a, xs, rfl, h, l, q⟩
theorem w_gcons {g : TG} {gs : TGs} {r : List V} {N : St → Hp → Prop} (q : g v σ H fun σ' H' => gs r σ' H' N) : gCons g gs (v :: r) σ H N := ⟨v, r, rfl, q⟩
theorem w_gnil {N : St → Hp → Prop} (q : N σ H) : gNil [] σ H N := ⟨rfl, q⟩
theorem w_sdput (h : te σ H fun v H1 => ta σ H1 fun x H2 => tb σ H2 fun y H3 => ∃ a H4, x = .ref a ∧ DPut H3 a y v H4 ∧ nx σ H4) : sDPut ta tb te ⟨nx, rt, bk, ct⟩ σ H := h
theorem w_dputS {kvs : List (Key × V)} {z : Str} {N : Hp → Prop} (h : H a = some (.dK kvs)) (l : kvs.length < sizeLine) (k : ∀ H', Ext [a] H H' → H' a = some (.dK (putK kvs (Sum.inr z) v)) → N H') : ∃ b H4, V.ref a = .ref b ∧ DPut H b (.str z) v H4 ∧ N H4 :=
  ⟨a, _, rfl, DPut.k (k := Sum.inr z) h l, k _ (Ext.mut h (fun z => z) (List.mem_singleton.mpr rfl)) upd_same⟩
theorem w_sortD {kvs : List (Key × V)} {ks : List Str} (h : H a = some (.dK kvs)) (e : kvs.map (·.1) = ks.map Sum.inr) (l : ks.length < 64) (q : ∀ ys, ys.Perm ks → sortedS ys = true → Alc (.lst (ys.map V.str)) H Q) : cSortD [.ref a] H Q := ⟨a, kvs, ks, rfl, .inl h, e, l, q⟩
/-! a dict is locked while it is walked -/
structure Lk (d : Addr) (u : HO) (od : Obj) (H H1 : Hp) : Prop where
  was : H d = some u
  ni : ¬ Imm u
  eq : H1 = upd H d (.frz od u)
theorem Lk.at {d : Addr} {u : HO} {od : Obj} {H H1 : Hp} (L : Lk d u od H H1) : H1 d = some (.frz od u) := by rw [L.eq]; exact upd_same
theorem Lk.keep {d : Addr} {u : HO} {od : Obj} {H H1 : Hp} (L : Lk d u od H H1) {b : Addr} {o : HO} (h : H b = some o) (n : b ≠ d) : H1 b = some o := by rw [L.eq, upd_ne n]; exact h
theorem Lk.tup {d : Addr} {u : HO} {od : Obj} {H H1 : Hp} (L : Lk d u od H H1) {b : Addr} {xs : List V} (h : H b = some (.tup xs)) : H1 b = some (.tup xs) :=
  L.keep h fun z => L.ni (by subst z; have := L.was; rw [h] at this; cases this; trivial)
theorem Lk.frz {d : Addr} {u : HO} {od : Obj} {H H1 : Hp} (L : Lk d u od H H1) {b : Addr} {o : Obj} {x : HO} (h : H b = some (.frz o x)) : H1 b = some (.frz o x) :=
  L.keep h fun z => L.ni (by subst z; have := L.was; rw [h] at this; cases this; trivial)
theorem Lk.free {d : Addr} {u : HO} {od : Obj} {H H1 : Hp} (L : Lk d u od H H1) {b : Addr} (h : H1 b = none) : H b = none := by
  rw [L.eq] at h
  by_cases z : b = d
  · subst z; rw [upd_same] at h; cases h
  · rw [upd_ne z] at h; exact h
theorem Lk.scr {d : Addr} {u : HO} {od : Obj} {H H1 : Hp} (L : Lk d u od H H1) {b : Addr} {xs : List V} (h : Scr K H b xs) : Scr K H1 b xs := by
  rcases h with ⟨o, h⟩ | h
  · exact .inl ⟨o, L.frz h⟩
  · exact .inr h
theorem w_lock {d : Addr} {u : HO} (h : H d = some u) (m : Mut (some u)) (ni : ¬ Imm u) (k : ∀ od H1, Lk d u od H H1 → t ⟨fun σ' H' => H' d = some (.frz od u) ∧ nx σ' (upd H' d u), fun v H' => H' d = some (.frz od u) ∧ rt v (upd H' d u), fun σ' H' => H' d = some (.frz od u) ∧ bk σ' (upd H' d u), fun σ' H' => H' d = some (.frz od u) ∧ ct σ' (upd H' d u)⟩ σ H1) :
    tLock t ⟨nx, rt, bk, ct⟩ σ H := ⟨d, u, h, m, fun od => k od _ ⟨h, ni, rfl⟩⟩
theorem w_lockE {d : Addr} {u : HO} (h : H d = some u) (m : Mut (some u)) (ni : ¬ Imm u) (k : ∀ od H1, Lk d u od H H1 → te σ H1 fun v H' => H' d = some (.frz od u) ∧ Q v (upd H' d u)) : tLockE te σ H Q := ⟨d, u, h, m, fun od => k od _ ⟨h, ni, rfl⟩⟩
theorem w_unlock {d : Addr} {u : HO} {od : Obj} {H0 H1 : Hp} {M : List Addr} {N : Hp → Prop} (L : Lk d u od H0 H1) (e : Ext M H1 H) (k : ∀ H', Ext M H0 H' → (∀ b o, H b = some o → b ≠ d → H' b = some o) → N H') : H d = some (.frz od u) ∧ N (upd H d u) := by
  refine ⟨e.imm _ _ L.at trivial, k _ ?_ fun b o h n => by rw [upd_ne n]; exact h⟩
  have e' := e
  rw [L.eq] at e'
  exact Ext.lock L.was L.ni e'
theorem w_iKeys {R : It → Hp → Prop} (h : te σ H fun x H1 => ∃ d o, x = .ref d ∧ ((∃ kvs, H1 d = some (.frz o (.dK kvs)) ∧ R (Itk d o kvs) H1) ∨ ∃ kvs, H1 d = some (.frz o (.dT kvs)) ∧ R (Itkt d o kvs) H1)) : iKeys te σ H R := h
theorem w_keysK {kvs : List (Key × V)} {o : Obj} {R : It → Hp → Prop} (h : H a = some (.frz o (.dK kvs))) (q : R (Itk a o kvs) H) : ∃ d o, V.ref a = .ref d ∧ ((∃ kvs, H d = some (.frz o (.dK kvs)) ∧ R (Itk d o kvs) H) ∨ ∃ kvs, H d = some (.frz o (.dT kvs)) ∧ R (Itkt d o kvs) H) := ⟨a, o, rfl, .inl ⟨kvs, h, q⟩⟩
theorem w_keysV {kvs : List (Key × V)} {o : Obj} {R : It → Hp → Prop} (e : σ[i]? = some (some (.ref a))) (h : H a = some (.frz o (.dK kvs))) (q : R (Itk a o kvs) H) : iKeys (tVar i) σ H R := ⟨.ref a, e, a, o, rfl, .inl ⟨kvs, h, q⟩⟩
theorem w_dgetR {kvs : List (Key × V)} {z : Str} {P : V → Prop} (h : Rd H a (.dK kvs)) (e : valV kvs (Sum.inr z : Key) = some v) (q : P v) : ∃ b u, V.ref a = .ref b ∧ DGet H b (.str z) (some u) ∧ P u := ⟨a, v, rfl, .inl ⟨kvs, Sum.inr z, h, rfl, e.symm⟩, q⟩
theorem w_dinS {kvs : List (Key × V)} {z : Str} {P : Option V → Prop} (h : Rd H a (.dK kvs)) (q : P (valV kvs (Sum.inr z : Key))) : ∃ b o, V.ref a = .ref b ∧ DGet H b (.str z) o ∧ P o := ⟨a, _, rfl, .inl ⟨kvs, Sum.inr z, h, rfl, rfl⟩, q⟩
/-! loops by an invariant; what a turn is to reach is a letter -/
theorem z_for_list {xs : List V} {g : TG} (Pv : Nat → St → Hp → Prop) (h0 : Pv 0 σ H) (hl : ∀ i σ H, i ≤ xs.length → Pv i σ H → SqL K H a xs)
    (hs : ∀ (N : St → Hp → Prop) i x σ H, xs[i]? = some x → Pv i σ H → (∀ σ' H', Pv (i + 1) σ' H' → N σ' H') → g x σ H fun σ2 H2 => t ⟨N, rt, nx, N⟩ σ2 H2) (hd : ∀ σ H, Pv xs.length σ H → nx σ H) :
    ∃ W : Nat → Nat → St → Hp → Prop, (∃ m, W 0 m σ H) ∧ ∀ i m σ H, W i m σ H →
      ((Itl K a).stop i H ∧ nx σ H) ∨ ((Itl K a).go i H ∧ ∃ N : St → Hp → Prop, (∀ σ' H', N σ' H' → ∃ m', m' < m ∧ W (i + 1) m' σ' H') ∧ ∀ x H', (Itl K a).yld i H x H' → g x σ H' fun σ2 H2 => t ⟨N, rt, nx, N⟩ σ2 H2) :=
  for_list (D := ⟨nx, rt, nx, nx⟩) Pv h0 hl (fun i x σ H hx p => hs (Pv (i + 1)) i x σ H hx p fun _ _ q => q) hd
theorem z_for_tup {xs : List V} {g : TG} (Pv : Nat → St → Hp → Prop) (h0 : Pv 0 σ H) (hl : ∀ i σ H, i ≤ xs.length → Pv i σ H → SqT K H a xs)
    (hs : ∀ (N : St → Hp → Prop) i x σ H, xs[i]? = some x → Pv i σ H → (∀ σ' H', Pv (i + 1) σ' H' → N σ' H') → g x σ H fun σ2 H2 => t ⟨N, rt, nx, N⟩ σ2 H2) (hd : ∀ σ H, Pv xs.length σ H → nx σ H) :
    ∃ W : Nat → Nat → St → Hp → Prop, (∃ m, W 0 m σ H) ∧ ∀ i m σ H, W i m σ H →
      ((Itt K a).stop i H ∧ nx σ H) ∨ ((Itt K a).go i H ∧ ∃ N : St → Hp → Prop, (∀ σ' H', N σ' H' → ∃ m', m' < m ∧ W (i + 1) m' σ' H') ∧ ∀ x H', (Itt K a).yld i H x H' → g x σ H' fun σ2 H2 => t ⟨N, rt, nx, N⟩ σ2 H2) :=
  for_tup (D := ⟨nx, rt, nx, nx⟩) Pv h0 hl (fun i x σ H hx p => hs (Pv (i + 1)) i x σ H hx p fun _ _ q => q) hd
theorem z_for_range {lo : Int} {n : Nat} {g : TG} (Pv : Nat → St → Hp → Prop) (h0 : Pv 0 σ H)
    (hs : ∀ (N : St → Hp → Prop) i σ H, i < n → Pv i σ H → (∀ σ' H', Pv (i + 1) σ' H' → N σ' H') → g (.int (lo + i)) σ H fun σ2 H2 => t ⟨N, rt, nx, N⟩ σ2 H2) (hd : ∀ σ H, Pv n σ H → nx σ H) :
    ∃ W : Nat → Nat → St → Hp → Prop, (∃ m, W 0 m σ H) ∧ ∀ i m σ H, W i m σ H →
      ((Itr lo n).stop i H ∧ nx σ H) ∨ ((Itr lo n).go i H ∧ ∃ N : St → Hp → Prop, (∀ σ' H', N σ' H' → ∃ m', m' < m ∧ W (i + 1) m' σ' H') ∧ ∀ x H', (Itr lo n).yld i H x H' → g x σ H' fun σ2 H2 => t ⟨N, rt, nx, N⟩ σ2 H2) :=
  for_range (D := ⟨nx, rt, nx, nx⟩) Pv h0 (fun i σ H hx p => hs (Pv (i + 1)) i σ H hx p fun _ _ q => q) hd
theorem z_for_str {z : Str} {g : TG} (Pv : Nat → St → Hp → Prop) (h0 : Pv 0 σ H)
    (hs : ∀ (N : St → Hp → Prop) i c σ H, z.cps[i]? = some c → Pv i σ H → (∀ σ' H', Pv (i + 1) σ' H' → N σ' H') → g (.str ⟨#[c]⟩) σ H fun σ2 H2 => t ⟨N, rt, nx, N⟩ σ2 H2) (hd : ∀ σ H, Pv z.cps.size σ H → nx σ H) :
    ∃ W : Nat → Nat → St → Hp → Prop, (∃ m, W 0 m σ H) ∧ ∀ i m σ H, W i m σ H →
      ((Its z).stop i H ∧ nx σ H) ∨ ((Its z).go i H ∧ ∃ N : St → Hp → Prop, (∀ σ' H', N σ' H' → ∃ m', m' < m ∧ W (i + 1) m' σ' H') ∧ ∀ x H', (Its z).yld i H x H' → g x σ H' fun σ2 H2 => t ⟨N, rt, nx, N⟩ σ2 H2) := by
  refine ⟨fun i m σ H => m = z.cps.size - i ∧ i ≤ z.cps.size ∧ Pv i σ H, ⟨_, rfl, Nat.zero_le _, h0⟩, ?_⟩
  rintro i m σ H ⟨rfl, hi, p⟩
  by_cases hlt : i < z.cps.size
  · refine .inr ⟨hlt, Pv (i + 1), fun σ' H' p' => ⟨z.cps.size - (i + 1), by omega, rfl, hlt, p'⟩, fun x H' y => ?_⟩
    obtain ⟨e, c, hc, rfl⟩ := y
    subst e
    exact hs (Pv (i + 1)) i c σ _ hc p fun _ _ q => q
  · have e : i = z.cps.size := by omega
    subst e
    exact .inl ⟨Nat.le_refl _, hd σ H p⟩
/-- over the keys of a locked dict -/
theorem z_for_keys {kvs : List (Key × V)} {d : Addr} {o : Obj} {g : TG} (Pv : Nat → St → Hp → Prop) (h0 : Pv 0 σ H) (hl : ∀ i σ H, i ≤ kvs.length → Pv i σ H → H d = some (.frz o (.dK kvs)))
    (hs : ∀ (N : St → Hp → Prop) i k v σ H, kvs[i]? = some (k, v) → Pv i σ H → (∀ σ' H', Pv (i + 1) σ' H' → N σ' H') → g (kV k) σ H fun σ2 H2 => t ⟨N, rt, nx, N⟩ σ2 H2) (hd : ∀ σ H, Pv kvs.length σ H → nx σ H) :
    ∃ W : Nat → Nat → St → Hp → Prop, (∃ m, W 0 m σ H) ∧ ∀ i m σ H, W i m σ H →
      ((Itk d o kvs).stop i H ∧ nx σ H) ∨ ((Itk d o kvs).go i H ∧ ∃ N : St → Hp → Prop, (∀ σ' H', N σ' H' → ∃ m', m' < m ∧ W (i + 1) m' σ' H') ∧ ∀ x H', (Itk d o kvs).yld i H x H' → g x σ H' fun σ2 H2 => t ⟨N, rt, nx, N⟩ σ2 H2) := by
  refine ⟨fun i m σ H => m = kvs.length - i ∧ i ≤ kvs.length ∧ Pv i σ H, ⟨_, rfl, Nat.zero_le _, h0⟩, ?_⟩
  rintro i m σ H ⟨rfl, hi, p⟩
  by_cases hlt : i < kvs.length
  · refine .inr ⟨⟨hl i σ H hi p, hlt⟩, Pv (i + 1), fun σ' H' p' => ⟨kvs.length - (i + 1), by omega, rfl, hlt, p'⟩, fun x H' y => ?_⟩
    obtain ⟨e, k, v, hk, rfl⟩ := y
    subst e
    exact hs (Pv (i + 1)) i k v σ _ hk p fun _ _ q => q
  · have e : i = kvs.length := by omega
    subst e
    exact .inl ⟨⟨hl _ σ H hi p, Nat.le_refl _⟩, hd σ H p⟩
/-! comprehensions -/
theorem w_lc {wi : TI} {g : TG} {vs : List Nat} (h : wi σ H fun J H1 => ∀ D, H1 D = none → ∃ W : Nat → Nat → Hp → Prop, (∃ m, W 0 m (upd H1 D (.lst []))) ∧ ∀ i m H, W i m H →
  (J.stop i H ∧ Q (.ref D) H) ∨ (J.go i H ∧ ∃ Nx : Hp → Prop, (∀ H', Nx H' → ∃ m', m' < m ∧ W (i + 1) m' H') ∧ ∀ x H', J.yld i H x H' → g x (wipe σ vs) H' fun σ2 H2 => wipe σ2 vs = wipe σ vs ∧ tt σ2 H2 fun b H3 =>
    if b = true then te σ2 H3 fun y H4 => ∃ acc, H4 D = some (.lst acc) ∧ acc.length < sizeLine ∧ Nx (upd H4 D (.lst (acc ++ [y]))) else Nx H3)) : tLc wi g tt te vs σ H Q := h
theorem w_app {Nx : Hp → Prop} {acc : List V} {D : Addr} (hD : H D = some (.lst acc)) (c : acc.length < sizeLine) (k : ∀ H', Ext [D] H H' → H' D = some (.lst (acc ++ [y])) → Nx H') :
    ∃ acc, H D = some (.lst acc) ∧ acc.length < sizeLine ∧ Nx (upd H D (.lst (acc ++ [y]))) := ⟨acc, hD, c, k _ (Ext.mut hD (fun z => z) (List.mem_singleton.mpr rfl)) upd_same⟩
theorem z_lc_list {xs : List V} {g : TG} {vs : List Nat} {D : Addr} {Qd : Hp → Prop} (Pv : Nat → List V → Hp → Prop) (nD : H D = none) (h0 : ∀ H', Ext [] H H' → Pv 0 [] H') (hl : ∀ i acc H, i ≤ xs.length → Pv i acc H → SqL K H a xs)
    (hs : ∀ (Nx : Hp → Prop) i x acc H, xs[i]? = some x → Pv i acc H → H D = some (.lst acc) → (∀ acc' H', Pv (i + 1) acc' H' → H' D = some (.lst acc') → Nx H') → g x (wipe σ vs) H fun σ2 H2 => wipe σ2 vs = wipe σ vs ∧ tt σ2 H2 fun b H3 =>
      if b = true then te σ2 H3 fun y H4 => ∃ acc, H4 D = some (.lst acc) ∧ acc.length < sizeLine ∧ Nx (upd H4 D (.lst (acc ++ [y]))) else Nx H3) (hd : ∀ acc H, Pv xs.length acc H → H D = some (.lst acc) → Qd H) :
    ∃ W : Nat → Nat → Hp → Prop, (∃ m, W 0 m (upd H D (.lst []))) ∧ ∀ i m H, W i m H →
      ((Itl K a).stop i H ∧ Qd H) ∨ ((Itl K a).go i H ∧ ∃ Nx : Hp → Prop, (∀ H', Nx H' → ∃ m', m' < m ∧ W (i + 1) m' H') ∧ ∀ x H', (Itl K a).yld i H x H' → g x (wipe σ vs) H' fun σ2 H2 => wipe σ2 vs = wipe σ vs ∧ tt σ2 H2 fun b H3 =>
        if b = true then te σ2 H3 fun y H4 => ∃ acc, H4 D = some (.lst acc) ∧ acc.length < sizeLine ∧ Nx (upd H4 D (.lst (acc ++ [y]))) else Nx H3) :=
  lc_list (fun i H => ∃ acc, Pv i acc H ∧ H D = some (.lst acc)) ⟨[], h0 _ (Ext.new nD), upd_same⟩ (fun i H hi ⟨acc, p, _⟩ => hl i acc H hi p)
    (fun i x H hx ⟨acc, p, hD⟩ => hs _ i x acc H hx p hD fun acc' H' p' h' => ⟨acc', p', h'⟩) fun H ⟨acc, p, hD⟩ => hd acc H p hD
theorem z_lc_tup {xs : List V} {g : TG} {vs : List Nat} {D : Addr} {Qd : Hp → Prop} (Pv : Nat → List V → Hp → Prop) (nD : H D = none) (h0 : ∀ H', Ext [] H H' → Pv 0 [] H') (hl : ∀ i acc H, i ≤ xs.length → Pv i acc H → SqT K H a xs)
    (hs : ∀ (Nx : Hp → Prop) i x acc H, xs[i]? = some x → Pv i acc H → H D = some (.lst acc) → (∀ acc' H', Pv (i + 1) acc' H' → H' D = some (.lst acc') → Nx H') → g x (wipe σ vs) H fun σ2 H2 => wipe σ2 vs = wipe σ vs ∧ tt σ2 H2 fun b H3 =>
      if b = true then te σ2 H3 fun y H4 => ∃ acc, H4 D = some (.lst acc) ∧ acc.length < sizeLine ∧ Nx (upd H4 D (.lst (acc ++ [y]))) else Nx H3) (hd : ∀ acc H, Pv xs.length acc H → H D = some (.lst acc) → Qd H) :
    ∃ W : Nat → Nat → Hp → Prop, (∃ m, W 0 m (upd H D (.lst []))) ∧ ∀ i m H, W i m H →
      ((Itt K a).stop i H ∧ Qd H) ∨ ((Itt K a).go i H ∧ ∃ Nx : Hp → Prop, (∀ H', Nx H' → ∃ m', m' < m ∧ W (i + 1) m' H') ∧ ∀ x H', (Itt K a).yld i H x H' → g x (wipe σ vs) H' fun σ2 H2 => wipe σ2 vs = wipe σ vs ∧ tt σ2 H2 fun b H3 =>
        if b = true then te σ2 H3 fun y H4 => ∃ acc, H4 D = some (.lst acc) ∧ acc.length < sizeLine ∧ Nx (upd H4 D (.lst (acc ++ [y]))) else Nx H3) :=
  lc_tup (fun i H => ∃ acc, Pv i acc H ∧ H D = some (.lst acc)) ⟨[], h0 _ (Ext.new nD), upd_same⟩ (fun i H hi ⟨acc, p, _⟩ => hl i acc H hi p)
    (fun i x H hx ⟨acc, p, hD⟩ => hs _ i x acc H hx p hD fun acc' H' p' h' => ⟨acc', p', h'⟩) fun H ⟨acc, p, hD⟩ => hd acc H p hD
theorem z_lc_range {lo : Int} {n : Nat} {g : TG} {vs : List Nat} {D : Addr} {Qd : Hp → Prop} (Pv : Nat → List V → Hp → Prop) (nD : H D = none) (h0 : ∀ H', Ext [] H H' → Pv 0 [] H')
    (hs : ∀ (Nx : Hp → Prop) i acc H, i < n → Pv i acc H → H D = some (.lst acc) → (∀ acc' H', Pv (i + 1) acc' H' → H' D = some (.lst acc') → Nx H') → g (.int (lo + i)) (wipe σ vs) H fun σ2 H2 => wipe σ2 vs = wipe σ vs ∧ tt σ2 H2 fun b H3 =>
      if b = true then te σ2 H3 fun y H4 => ∃ acc, H4 D = some (.lst acc) ∧ acc.length < sizeLine ∧ Nx (upd H4 D (.lst (acc ++ [y]))) else Nx H3) (hd : ∀ acc H, Pv n acc H → H D = some (.lst acc) → Qd H) :
    ∃ W : Nat → Nat → Hp → Prop, (∃ m, W 0 m (upd H D (.lst []))) ∧ ∀ i m H, W i m H →
      ((Itr lo n).stop i H ∧ Qd H) ∨ ((Itr lo n).go i H ∧ ∃ Nx : Hp → Prop, (∀ H', Nx H' → ∃ m', m' < m ∧ W (i + 1) m' H') ∧ ∀ x H', (Itr lo n).yld i H x H' → g x (wipe σ vs) H' fun σ2 H2 => wipe σ2 vs = wipe σ vs ∧ tt σ2 H2 fun b H3 =>
        if b = true then te σ2 H3 fun y H4 => ∃ acc, H4 D = some (.lst acc) ∧ acc.length < sizeLine ∧ Nx (upd H4 D (.lst (acc ++ [y]))) else Nx H3) :=
  lc_range (fun i H => ∃ acc, Pv i acc H ∧ H D = some (.lst acc)) ⟨[], h0 _ (Ext.new nD), upd_same⟩
    (fun i H hx ⟨acc, p, hD⟩ => hs _ i acc H hx p hD fun acc' H' p' h' => ⟨acc', p', h'⟩) fun H ⟨acc, p, hD⟩ => hd acc H p hD
theorem z_lc_keys {kvs : List (Key × V)} {d : Addr} {o : Obj} {g : TG} {vs : List Nat} {D : Addr} {Qd : Hp → Prop} (Pv : Nat → List V → Hp → Prop) (nD : H D = none) (h0 : ∀ H', Ext [] H H' → Pv 0 [] H') (hl : ∀ i acc H, i ≤ kvs.length → Pv i acc H → H d = some (.frz o (.dK kvs)))
    (hs : ∀ (Nx : Hp → Prop) i k v acc H, kvs[i]? = some (k, v) → Pv i acc H → H D = some (.lst acc) → (∀ acc' H', Pv (i + 1) acc' H' → H' D = some (.lst acc') → Nx H') → g (kV k) (wipe σ vs) H fun σ2 H2 => wipe σ2 vs = wipe σ vs ∧ tt σ2 H2 fun b H3 =>
      if b = true then te σ2 H3 fun y H4 => ∃ acc, H4 D = some (.lst acc) ∧ acc.length < sizeLine ∧ Nx (upd H4 D (.lst (acc ++ [y]))) else Nx H3) (hd : ∀ acc H, Pv kvs.length acc H → H D = some (.lst acc) → Qd H) :
    ∃ W : Nat → Nat → Hp → Prop, (∃ m, W 0 m (upd H D (.lst []))) ∧ ∀ i m H, W i m H →
      ((Itk d o kvs).stop i H ∧ Qd H) ∨ ((Itk d o kvs).go i H ∧ ∃ Nx : Hp → Prop, (∀ H', Nx H' → ∃ m', m' < m ∧ W (i + 1) m' H') ∧ ∀ x H', (Itk d o kvs).yld i H x H' → g x (wipe σ vs) H' fun σ2 H2 => wipe σ2 vs = wipe σ vs ∧ tt σ2 H2 fun b H3 =>
        if b = true then te σ2 H3 fun y H4 => ∃ acc, H4 D = some (.lst acc) ∧ acc.length < sizeLine ∧ Nx (upd H4 D (.lst (acc ++ [y]))) else Nx H3) := by
  refine ⟨fun i m H => m = kvs.length - i ∧ i ≤ kvs.length ∧ ∃ acc, Pv i acc H ∧ H D = some (.lst acc), ⟨_, rfl, Nat.zero_le _, [], h0 _ (Ext.new nD), upd_same⟩, ?_⟩
  rintro i m H ⟨rfl, hi, acc, p, hD⟩
  by_cases hlt : i < kvs.length
  · refine .inr ⟨⟨hl i acc H hi p, hlt⟩, (fun H => ∃ acc, Pv (i + 1) acc H ∧ H D = some (.lst acc)), fun H' p' => ⟨kvs.length - (i + 1), by omega, rfl, hlt, p'⟩, fun x H' y => ?_⟩
    obtain ⟨e, k, v, hk, rfl⟩ := y
    subst e
    exact hs _ i k v acc _ hk p hD fun acc' H' p' h' => ⟨acc', p', h'⟩
  · have e : i = kvs.length := by omega
    subst e
    exact .inl ⟨⟨hl _ acc H hi p, Nat.le_refl _⟩, hd acc H p hD⟩
end
end Zk

set_option Elab.async false
set_option linter.all false
set_option maxRecDepth 100000
set_option maxHeartbeats 4000000
namespace Zk
open PySem PySem.Spec L2
open PyProof.Rows hiding St

/-! ### slots: a text and two ints; their order -/
abbrev Slot := Str × Int × Int
def sVs (s : Slot) : List V := [.str s.1, .int s.2.1, .int s.2.2]
def sKey (s : Slot) : List Key := [Sum.inr s.1, Sum.inl s.2.1, Sum.inl s.2.2]
theorem sKey_vs (s : Slot) : (sKey s).map kV = sVs s := rfl
theorem sKey_inj {s t : Slot} (h : sKey s = sKey t) : s = t := by
  unfold sKey at h
  injection h with h1 h2
  injection h2 with h2 h3
  injection h3 with h3 _
  obtain ⟨a, b, c⟩ := s
  obtain ⟨a', b', c'⟩ := t
  simp only [Sum.inr.injEq, Sum.inl.injEq] at h1 h2 h3
  subst h1 h2 h3
  rfl
theorem sVs_inj {s t : Slot} (h : sVs s = sVs t) : s = t := by
  obtain ⟨a, b, c⟩ := s
  obtain ⟨a', b', c'⟩ := t
  unfold sVs at h
  simp only [List.cons.injEq, V.str.injEq, V.int.injEq] at h
  obtain ⟨h1, h2, h3, _⟩ := h
  subst h1 h2 h3
  rfl
def sLt (p q : Slot) : Bool := if p.1 = q.1 then (if p.2.1 = q.2.1 then decide (p.2.2 < q.2.2) else decide (p.2.1 < q.2.1)) else decide (p.1.cps.toList < q.1.cps.toList)
theorem str_tri (a b : Str) : a.cps.toList < b.cps.toList ∨ a = b ∨ b.cps.toList < a.cps.toList := by
  by_cases h : a.cps.toList < b.cps.toList
  · exact .inl h
  · by_cases h2 : b.cps.toList < a.cps.toList
    · exact .inr (.inr h2)
    · refine .inr (.inl ?_)
      have := List.le_antisymm (List.not_lt.mp h2) (List.not_lt.mp h)
      cases a; cases b
      simp only [Str.mk.injEq]
      exact Array.toList_inj.mp this
def SLt (p q : Slot) : Prop := p.1.cps.toList < q.1.cps.toList ∨ (p.1 = q.1 ∧ (p.2.1 < q.2.1 ∨ (p.2.1 = q.2.1 ∧ p.2.2 < q.2.2)))
theorem sLt_iff {p q : Slot} : sLt p q = true ↔ SLt p q := by
  unfold sLt SLt
  by_cases e : p.1 = q.1
  · rw [if_pos e]
    have no : ¬ p.1.cps.toList < q.1.cps.toList := by rw [e]; exact List.lt_irrefl _
    by_cases e2 : p.2.1 = q.2.1
    · rw [if_pos e2, decide_eq_true_eq]
      constructor
      · intro h; exact .inr ⟨e, .inr ⟨e2, h⟩⟩
      · rintro (h | ⟨_, h | h⟩)
        · exact absurd h no
        · omega
        · exact h.2
    · rw [if_neg e2, decide_eq_true_eq]
      constructor
      · intro h; exact .inr ⟨e, .inl h⟩
      · rintro (h | ⟨_, h | h⟩)
        · exact absurd h no
        · exact h
        · exact absurd h.1 e2
  · rw [if_neg e, decide_eq_true_eq]
    constructor
    · intro h; exact .inl h
    · rintro (h | h)
      · exact h
      · exact absurd h.1 e
theorem SLt.tri (p q : Slot) : SLt p q ∨ p = q ∨ SLt q p := by
  obtain ⟨a, b, c⟩ := p
  obtain ⟨a', b', c'⟩ := q
  unfold SLt
  rcases str_tri a a' with h | h | h
  · exact .inl (.inl h)
  · subst h
    rcases Int.lt_trichotomy b b' with h | h | h
    · exact .inl (.inr ⟨rfl, .inl h⟩)
    · subst h
      rcases Int.lt_trichotomy c c' with h | h | h
      · exact .inl (.inr ⟨rfl, .inr ⟨rfl, h⟩⟩)
      · subst h; exact .inr (.inl rfl)
      · exact .inr (.inr (.inr ⟨rfl, .inr ⟨rfl, h⟩⟩))
    · exact .inr (.inr (.inr ⟨rfl, .inl h⟩))
  · exact .inr (.inr (.inl h))
theorem SLt.trans {p q r : Slot} (h1 : SLt p q) (h2 : SLt q r) : SLt p r := by
  unfold SLt at *
  rcases h1 with h1 | ⟨e1, h1⟩ <;> rcases h2 with h2 | ⟨e2, h2⟩
  · exact .inl (List.lt_trans h1 h2)
  · exact .inl (by rw [← e2]; exact h1)
  · exact .inl (by rw [e1]; exact h2)
  · exact .inr ⟨e1.trans e2, by omega⟩
theorem SLt.irr {p : Slot} (h : SLt p p) : False := by
  unfold SLt at h
  rcases h with h | ⟨_, h⟩
  · exact List.lt_irrefl _ h
  · omega
theorem sLt_no {p q : Slot} : sLt p q = false ↔ ¬ SLt p q := by rw [← sLt_iff]; simp
theorem sLt_swo {α : Type} (k : α → Slot) : SrtO.Swo fun v u => sLt (k v) (k u) := by
  refine ⟨fun x y h => sLt_no.mpr fun z => (SLt.trans (sLt_iff.mp h) z).irr, fun x y z h1 h2 => sLt_no.mpr fun q => ?_⟩
  have a := sLt_no.mp h1
  have b := sLt_no.mp h2
  rcases SLt.tri (k x) (k y) with c | c | c
  · exact b (SLt.trans q c)
  · rw [← c] at b; exact b q
  · exact a c
/-! ### sorting lists of slots, of any length -/
section
variable {prog : Program} {w : World} {A : Around} {E : Value → Shared → Prop} {s : Shared}
def IsSlotV (h : Heap) (v : Value) (z : Slot) : Prop := ∃ (a : Addr) (o : Obj) (t u r : Tok) (n : Nat), v = .ref a ∧ h.get? a = some o ∧ o.cls = .type "tuple" ∧ o.data = .seq #[.str z.1 t, .int z.2.1 u, .int z.2.2 r] n
theorem IsSlotV.stays {h h' : Heap} {v : Value} {z : Slot} (p : IsSlotV h v z) (k : ∀ b o, h.get? b = some o → o.cls = .type "tuple" → h'.get? b = some o) : IsSlotV h' v z := by
  obtain ⟨a, o, t, u, r, n, e, ho, hc, hd⟩ := p
  exact ⟨a, o, t, u, r, n, e, k _ _ ho hc, hc, hd⟩
theorem slot_cmp {vs : List Value} {k : Value → Slot} (hp : ∀ v ∈ vs, IsSlotV s.heap v (k v)) : SrtO.Cmp prog w A s (tuples' true) (fun p => p.1 ∈ vs) (SrtO.lt2 fun v u => sLt (k v) (k u)) := by
  intro p q hm hm'
  have g1 := hp _ hm
  have g2 := hp _ hm'
  show wpAny (model prog w) A (keyLt' (tuples' true) p.1 q.1) (fun r s' => s' = s ∧ r = sLt (k p.1) (k q.1)) (fun _ _ => False) s
  generalize k p.1 = x at g1 ⊢
  generalize k q.1 = y at g2 ⊢
  obtain ⟨x1, x2, x3⟩ := x
  obtain ⟨y1, y2, y3⟩ := y
  obtain ⟨a, o, t, u, r, n, e, ho, hc, hd⟩ := g1
  obtain ⟨a', o', t', u', r', n', e', ho', hc', hd'⟩ := g2
  rw [e, e']
  refine PySem.W.kat_lt ho hd ho' hd' ?_
  show PySem.W.KatLex prog w A true (decide (3 < 3)) _ [(.str x1 t, .str y1 t'), (.int x2 u, .int y2 u'), (.int x3 r, .int y3 r')] 0 s
  refine PySem.W.kat_cons (wpAny_eqBool_str ?_)
  refine PySem.W.kat_go (fun e1 => ?_) (fun e1 => ?_)
  · have ex : x1 = y1 := by simpa using e1
    refine PySem.W.kat_yes (PySem.W.kat_cons (wpAny_eqBool_int ?_))
    refine PySem.W.kat_go (fun e2 => ?_) (fun e2 => ?_)
    · have ey : x2 = y2 := by simpa using e2
      refine PySem.W.kat_yes (PySem.W.kat_cons (wpAny_eqBool_int ?_))
      refine PySem.W.kat_go (fun e3 => ?_) (fun e3 => ?_)
      · have ez : x3 = y3 := by simpa using e3
        refine PySem.W.kat_yes (PySem.W.kat_nil ⟨rfl, ?_⟩)
        show false = sLt (x1, x2, x3) (y1, y2, y3)
        unfold sLt
        rw [if_pos ex, if_pos ey, ez]
        exact (decide_eq_false (Int.lt_irrefl _)).symm
      · refine PySem.W.kat_no (PySem.W.kat_one _ _ (lt_int ?_))
        refine (show s = s ∧ decide (x3 < y3) = sLt (x1, x2, x3) (y1, y2, y3) from ⟨rfl, ?_⟩)
        unfold sLt
        rw [if_pos ex, if_pos ey]
    · have ey : ¬ x2 = y2 := by simpa using e2
      refine PySem.W.kat_no (PySem.W.kat_one _ _ (lt_int ?_))
      refine (show s = s ∧ decide (x2 < y2) = sLt (x1, x2, x3) (y1, y2, y3) from ⟨rfl, ?_⟩)
      unfold sLt
      rw [if_pos ex, if_neg ey]
  · have ex : ¬ x1 = y1 := by simpa using e1
    refine PySem.W.kat_no (oneLt_str ?_)
    refine (show s = s ∧ decide (x1.cps.toList < y1.cps.toList) = sLt (x1, x2, x3) (y1, y2, y3) from ⟨rfl, ?_⟩)
    unfold sLt
    rw [if_neg ex]
theorem slot_firsts {h : Heap} : ∀ {vs : List Value}, (∀ v ∈ vs, ∃ z, IsSlotV h v z) → ∃ fs : List Value, PySem.W.KatTups h vs fs ∧ fs.length = vs.length ∧ ∀ f ∈ fs, ∃ x t, f = Value.str x t
  | [], _ => ⟨[], PySem.W.KatTups.nil, rfl, fun _ z => nomatch z⟩
  | v :: vs, hp => by
    obtain ⟨fs, k, hl, hi⟩ := slot_firsts (vs := vs) fun u m => hp u (List.mem_cons_of_mem _ m)
    obtain ⟨z, a, o, t, u, r, n, rfl, ho, hc, hd⟩ := hp v List.mem_cons_self
    refine ⟨.str z.1 t :: fs, PySem.W.KatTups.cons ho hc hd rfl k, congrArg (· + 1) hl, fun f m => ?_⟩
    rcases List.mem_cons.mp m with m | m
    · exact ⟨_, _, m⟩
    · exact hi f m
theorem slots_able {a : Addr} {vs : List Value} {k : Value → Slot} (h0 : 0 < vs.length) (hp : ∀ v ∈ vs, IsSlotV s.heap v (k v)) (ha : ∀ o, s.heap.get? a = some o → o.cls ≠ .type "tuple") : SrtO.SortableO prog w A s a vs fun v u => sLt (k v) (k u) := by
  intro h' keep
  have g : ∀ v ∈ vs, IsSlotV h' v (k v) := fun v m => (hp v m).stays fun b o e c => keep b o (fun z => ha o (z ▸ e) c) e
  obtain ⟨fs, k1, hl, hi⟩ := slot_firsts fun v m => ⟨_, g v m⟩
  refine ⟨tuples' true, fun Q E q => ?_, slot_cmp g⟩
  refine PySem.W.kat_kind (T := .type "str") k1 (by omega) (fun f m => ?_) (by rfl) ?_
  · obtain ⟨x, t, rfl⟩ := hi f m
    exact PySem.W.Looks.now
  · rw [show (Value.type "str" != Value.type "tuple") = true by decide +kernel]
    exact q
theorem sorted_slots {l : Addr} {vs : List Value} {k : Value → Slot} {Q : Value → Shared → Prop} (hl : s.heap.IsList l vs.toArray) (hz : vs.length ≤ sizeLine) (hp : ∀ v ∈ vs, IsSlotV s.heap v (k v))
    (h : ∀ (h' : Heap) (d : Addr) (out : List Value), SrtO.Srtd (fun v u => sLt (k v) (k u)) out → out.Perm vs → (∀ b o, s.heap.get? b = some o → h'.get? b = some o) → s.heap.objs.size ≤ d → (∃ n, h'.get? d = some (seqObj "list" out.toArray n)) → Q (.ref d) { s with heap := h' }) :
    wpAny (model prog w) A (call (.builtin "sorted") [.ref l]) Q E s := by
  refine SrtO.sorted_ord (sLt_swo k) hl hz (fun h2 g a ha kk => ?_) fun out hs hb => h _ _ out hs hb.perm (fun b o e => sortedAll_old e) (Nat.le_succ _) (sortedAll_at s.heap vs out.toArray)
  refine slots_able (s := { s with heap := g }) (by omega) (fun v m => (hp v m).stays fun b o e _ => (kk b o e).2) fun o e c => ?_
  rw [ha] at e
  cases e
  exact absurd (Value.type.inj c) (by decide)
end
/-- the slot whose tuple stands at a -/
def slotAt (H : Hp) (a : Addr) : Slot := match H a with
  | some (.tup [.str z, .int n, .int k]) => (z, n, k)
  | _ => (Str.empty, 0, 0)
theorem slotAt_eq {H : Hp} {a : Addr} {s : Slot} (h : H a = some (.tup (sVs s))) : slotAt H a = s := by
  unfold slotAt
  rw [h]
  rfl
/-- addresses and the slots whose tuples stand there -/
def SlotsAt (H : Hp) (as : List Addr) (ss : List Slot) : Prop := Paired (fun (a : Addr) (s : Slot) => H a = some (.tup (sVs s))) as ss
theorem SlotsAt.ext {M : List Addr} {H H' : Hp} {as : List Addr} {ss : List Slot} (h : SlotsAt H as ss) (e : Ext M H H') : SlotsAt H' as ss := Paired.mapP h fun _ _ q => e.tup q
theorem SlotsAt.map {H : Hp} : ∀ {as : List Addr} {ss : List Slot}, SlotsAt H as ss → ss = as.map (slotAt H)
  | _, _, .nil => rfl
  | _, _, .cons h t => by rw [List.map_cons, slotAt_eq h, ← SlotsAt.map t]
theorem SlotsAt.mem {H : Hp} : ∀ {as : List Addr} {ss : List Slot}, SlotsAt H as ss → ∀ a ∈ as, H a = some (.tup (sVs (slotAt H a)))
  | _, _, .nil, a, h => nomatch h
  | _, _, .cons h t, a, m => by
    rcases List.mem_cons.mp m with m | m
    · rw [m, slotAt_eq h]; exact h
    · exact SlotsAt.mem t a m
theorem SlotsAt.of {H : Hp} : ∀ {as : List Addr}, (∀ a ∈ as, H a = some (.tup (sVs (slotAt H a)))) → SlotsAt H as (as.map (slotAt H))
  | [], _ => .nil
  | a :: as, h => .cons (h a List.mem_cons_self) (SlotsAt.of fun b m => h b (List.mem_cons_of_mem _ m))
theorem refs_list : ∀ {us : List Value}, (∀ u ∈ us, ∃ a, u = Value.ref a) → ∃ bs : List Addr, us = bs.map Value.ref
  | [], _ => ⟨[], rfl⟩
  | u :: us, h => by
    obtain ⟨bs, e⟩ := refs_list fun v m => h v (List.mem_cons_of_mem _ m)
    obtain ⟨a, ea⟩ := h u List.mem_cons_self
    exact ⟨a :: bs, by rw [ea, e]; rfl⟩
theorem vals_refs : ∀ bs : List Addr, Vals (bs.map V.ref) (bs.map Value.ref)
  | [] => .nil
  | _ :: r => .cons rfl (vals_refs r)
theorem perm_of_map {as bs : List Addr} (h : (as.map Value.ref).Perm (bs.map Value.ref)) : as.Perm bs := by
  have e := h.map fun v => match v with | Value.ref a => a | _ => 0
  rw [List.map_map, List.map_map] at e
  have id1 : ∀ l : List Addr, l.map ((fun v => match v with | Value.ref a => a | _ => 0) ∘ Value.ref) = l := fun l => by
    induction l with
    | nil => rfl
    | cons a r ih => rw [List.map_cons, ih]; rfl
  rw [id1, id1] at e
  exact e
/-- sorted(a list of slots) -/
def cSortSl (K : PySem.W.Frag) : RC := fun vs H Q => ∃ (a : Addr) (as : List Addr) (ss : List Slot), vs = [V.ref a] ∧ SqL K H a (as.map V.ref) ∧ SlotsAt H as ss ∧
  ∀ (bs : List Addr) (ts : List Slot), SlotsAt H bs ts → ts.Perm ss → ts.Pairwise (fun x y => sLt y x = false) → Alc (.lst (bs.map V.ref)) H Q
section
variable {X : Cx}
theorem zc_sortSl : CallR X (.builtin "sorted") (cSortSl X.K) := by
  intro pins s σ H vs us Q I r h
  obtain ⟨a, as, ss, rfl, hs, hx, q⟩ := h
  obtain ⟨its, rv, hl, hz⟩ := I.list hs
  obtain ⟨u, rfl, ru⟩ := vals1 r
  obtain rfl : u = Value.ref a := ru
  obtain ⟨e1, e2⟩ := refs_back rv fun x m => by
    obtain ⟨t, _, e⟩ := List.mem_map.mp m
    exact ⟨t, e.symm⟩
  let k : Value → Slot := fun v => match v with | .ref b => slotAt H b | _ => (Str.empty, 0, 0)
  have hm : ∀ b : Addr, Value.ref b ∈ its → b ∈ as := fun b m => by
    have h1 : V.ref b ∈ as.map V.ref := by rw [e1]; exact List.mem_map.mpr ⟨_, m, rfl⟩
    obtain ⟨c, hc, e⟩ := List.mem_map.mp h1
    cases e
    exact hc
  refine sorted_slots (k := k) hl.isList (by rw [← rv.length]; exact hz) (fun v hv => ?_) fun h' d out h1 h2 kp hd hn => ?_
  · obtain ⟨t, rfl⟩ := e2 v hv
    have ht := SlotsAt.mem hx t (hm t hv)
    obtain ⟨_, its2, r2, o, ho, hc, n, hd⟩ := I.hok _ _ ht
    cases r2 with
    | cons ra r2 => cases r2 with
      | cons rb r2 => cases r2 with
        | cons rc r2 =>
          cases r2
          obtain ⟨t1, rfl⟩ := ra
          obtain ⟨t2, rfl⟩ := rb
          obtain ⟨t3, rfl⟩ := rc
          exact ⟨t, o, t1, t2, t3, n, rfl, ho, hc, hd⟩
  · have h3 : ∀ u ∈ out, ∃ a, u = Value.ref a := fun u hu => e2 u (h2.mem_iff.mp hu)
    obtain ⟨n, hn⟩ := hn
    obtain ⟨bs, hb⟩ := refs_list h3
    subst hb
    obtain ⟨cs, hcs⟩ := refs_list e2
    subst hcs
    have hac : as = cs := by
      rw [List.map_map] at e1
      refine List.map_inj_right (f := V.ref) (fun x y h => V.ref.inj h) |>.mp (e1.trans ?_)
      rfl
    subst hac
    have hp : bs.Perm as := perm_of_map h2
    have hbm : ∀ b ∈ bs, H b = some (.tup (sVs (slotAt H b))) := fun b m => SlotsAt.mem hx b (hp.mem_iff.mp m)
    have hq := q bs (bs.map (slotAt H)) (SlotsAt.of hbm) (by rw [SlotsAt.map hx]; exact hp.map _) (by
      rw [List.pairwise_map]
      have h1' := List.pairwise_map.mp h1
      exact h1')
    refine ⟨.ref d, upd H d (.lst (bs.map V.ref)), I.laid (t' := s.toks) kp hd ⟨?_, _, n, vals_refs bs, hn⟩, rfl, hq d (I.hok.fresh hd)⟩
    rw [List.length_map, hp.length_eq]
    rw [List.length_map] at hz
    exact hz
end

/-! ### d.clear() of a dict with tuple keys -/
def rClearT : V → List V → Hp → VK → Prop := fun x vs H Q => ∃ (a : Addr) (kvs : List (List Key × V)), x = .ref a ∧ vs = [] ∧ H a = some (.dT kvs) ∧ Chg a (.dT []) H (Q .non)
theorem zmt_clearT {X : Cx} : MtR X "dict.clear" rClearT := by
  intro pins s σ H x vs v us Q I rx rv h
  obtain ⟨a, kvs, rfl, rfl, e, q⟩ := h
  obtain rfl : v = Value.ref a := rx
  obtain rfl := rv.zero
  obtain ⟨z, hd, xs, rel, o, es, ep, ho, hx, hdat, he, hn⟩ := I.hok _ _ e
  have raw : s.heap.DictRaw a es ep := ⟨o, ho, hx, hdat⟩
  have hz : es.size ≤ sizeLine := by
    have h1 : es.toList.length = xs.length := by rw [he, List.length_map]
    have h2 := Paired.length rel
    rw [Array.length_toList] at h1
    omega
  refine call_meetsIn PySem.F.slot_dict_clear raw.typeIs PySem.F.entry_dict_clear (PySem.F.args_dict_clear_1 _) (meets_dict_clear_raw a) ⟨es, ep, raw, hz, fun h' r' hs => ?_⟩
  obtain ⟨o', ho', hx', hd'⟩ := r'
  refine ⟨.non, _, d_write (t' := s.toks) I (by rw [e]; exact True.intro) hs ⟨o', ho'⟩ ?_, rfl, q⟩
  exact ⟨Nat.zero_le _, hd, [], .nil, o', _, _, ho', hx', hd', rfl, List.nodup_nil⟩

/-! ### {slot: e for slot in ..}: a dict comprehension whose keys are tuples -/
section
variable {X : Cx} {pins : List (Addr × Obj)} {σ : St} {H : Hp} {s : Shared}
theorem dictSet_tup {E : Value → Shared → Prop} {D b : Addr} {kvs : List (List Key × V)} {k : List Key} {v : V} {r : Value} {Q : Unit → Shared → Prop} (hu : X.A.units + 1 < cLine) (I : L2.Inv X pins σ H s) (hD : H D = some (.dT kvs)) (hb : H b = some (.tup (k.map kV))) (hz : kvs.length < sizeLine)
    (rv : RelV v r) (h : ∀ s', L2.Inv X pins σ (upd H D (.dT (putK kvs k v))) s' → Q () s') : wpAny (model X.prog X.w) X.A (dictSet D (.ref b) r) Q E s := by
  obtain ⟨z, hd, xs, rel, dd⟩ := dt_of I.hok hD
  have hxl : xs.length ≤ sizeLine := by
    have := Paired.length rel
    omega
  have hl : (putK kvs k v).length ≤ sizeLine := by
    have := length_putK kvs k v
    omega
  refine wpAny_dictSet_heap (hsz := hxl) (show X.A.units < cLine from Nat.lt_of_succ_lt hu) (key_of I.hok hb) dd fun h' dd' hs => h _ ?_
  obtain ⟨q, es, ep, hq, a2, a3, a4, _, a5⟩ := dd'
  refine d_write I (by rw [hD]; exact True.intro) hs ⟨q, hq⟩ ⟨hl, hd, _, (rel.put k hb rv).keeps fun c ys ec => ?_, q, es, ep, hq, a2, a3, a4, a5⟩
  rw [upd_ne (ne_of ec hD (fun z => by cases z))]
  exact ec
/-- D: the new dict; W, Nx as in a list comprehension's reading -/
def zDcT (wi : TI) (g : TG) (tt : TT) (tk tv : TE) (vs : List Nat) : TE := fun σ H Q => wi σ H fun J H1 => ∀ D, H1 D = none → ∃ W : Nat → Nat → Hp → Prop, (∃ m, W 0 m (upd H1 D (.dT []))) ∧
  ∀ i m H, W i m H → (J.stop i H ∧ Q (.ref D) H) ∨ (J.go i H ∧ ∃ Nx : Hp → Prop, (∀ H', Nx H' → ∃ m', m' < m ∧ W (i + 1) m' H') ∧
    ∀ x H', J.yld i H x H' → g x (wipe σ vs) H' fun σ2 H2 => wipe σ2 vs = wipe σ vs ∧ tt σ2 H2 fun b H3 =>
      if b = true then tk σ2 H3 fun y H4 => tv σ2 H4 fun z H5 => ∃ kvs k q, y = .ref q ∧ H5 q = some (.tup (k.map kV)) ∧ H5 D = some (.dT kvs) ∧ kvs.length < sizeLine ∧ Nx (upd H5 D (.dT (putK kvs k z))) else Nx H3)
abbrev AllB (X : Cx) (scope : Scope) (G : Cx → Prop) : Prop := ∀ (s : Shared) (H : Hp) (C : Addr) (cl : List (Str × Addr)) (fp : List Addr), G (X.blk s H scope (compEnvC scope cl C X.env) fp)
theorem zdc_run {Q : VK} {kx vx tg iter : Expr} {ifs : List Expr} {scope : Scope} {own : List (Str × Nat)} {pos pos' : Pos} {wi : TI} {g : TG} {tt : TT} {tk tv : TE} {use : Option (Value → Sem Unit)} {Qf : Value → Shared → Prop}
    (hu : X.A.units + 1 < cLine) (hc : X.calm = true) (hN : X.N.Nodup) (I : L2.Inv X pins σ H s) (hi : PI X tg iter wi) (ok : BlkOk X.N X.env.scope scope own)
    (hg : AllB X scope fun Y => PG Y tg g) (ht : AllB X scope fun Y => PTs Y ifs tt) (hk : AllB X scope fun Y => PE Y kx tk) (he : AllB X scope fun Y => PE Y vx tv) (hs : ∀ x, foldedSetIterable iter X.env x = pure x)
    (h : zDcT wi g tt tk tv (own.map (·.2)) σ H Q)
    (fin : ∀ D C s' m H', L2.Inv X pins σ H' s' → Q (.ref D) H' → s'.heap.Ns C m → FpOk X pins H' C → compPost (model X.prog X.w) X.A X.xe use Qf (.ref D) C (.ok .next) s') :
    wpAny (model X.prog X.w) X.A (comprehension (.DictComp kx vx [⟨tg, iter, ifs, 0⟩] scope pos) scope X.env pos' newDict false (eval iter X.env) use) Qf X.xe s := by
  have cells : ∀ y ∈ scope.names, y.2 = .free → ∃ c, X.env.cells.lookup y.1 = some c := fun y m e => I.ok.has _ ((ok.free y m e).elim .inl .inr)
  refine wpAny_comprehension_free (use := use) rfl hs (closure_ok cells) ok.kind (fun y m e => (ok.uniq y m).trans (congrArg some e)) (thn (hi.run pins s σ H _ I h) fun xv s1 hx => thn hx fun itv s2 h2 => ?_)
  obtain ⟨it, fp, tn, J, H2, rfl, I2, T, st2, f2, q⟩ := h2
  refine wpAny_newObj_type (newEnv_comp ?_)
  generalize eD : s2.heap.objs.size = D
  obtain ⟨W, ⟨m0, w0⟩, turn⟩ := q D (I2.hok.fresh (Nat.le_of_eq eD))
  generalize e3 : ({ s2 with heap := s2.heap.push { cls := .type "dict", data := .dict #[] } } : Shared) = s3
  have hp3 : s3.heap = s2.heap.push { cls := .type "dict", data := .dict #[] } := by rw [← e3]
  have I3 : L2.Inv X pins σ (upd H2 D (.dT [])) s3 := by
    rw [← e3, ← eD]
    exact I2.laid (t' := s2.toks) (fun b o e => Heap.get?_push_of_some _ e) (Nat.le_refl _) (dt_empty s2.heap I2.big)
  have old : ∀ b ∈ fp, b < s2.heap.objs.size := fun b m => (T.obj _ _ st2 b m).elim fun o x => Heap.lt_size x.1
  have f3 : ∀ b ∈ fp, FpOk X pins (upd H2 D (.dT [])) b ∧ b < s3.heap.objs.size := fun b m => by
    have lt := old b m
    refine ⟨⟨?_, (f2 b m).2⟩, ?_⟩
    · rw [upd_ne (fun z => absurd lt (by rw [eD, z]; exact Nat.lt_irrefl D))]
      exact (f2 b m).1
    · rw [hp3, Heap.size_push]
      exact Nat.lt_succ_of_lt lt
  have st3 : tn 0 s3.heap := T.keep _ _ _ st2 fun b _ o e => by rw [hp3]; exact Heap.get?_push_of_some _ e
  have I4 := block_start I3 ok hN f3
  generalize ecl : cellsFrom (s3.heap.objs.size + 1) scope.names (cloFrom X.env.cells scope.names []) = cl at I4
  have pg := hg s3 (upd H2 D (.dT [])) s3.heap.objs.size cl fp
  have pt := ht s3 (upd H2 D (.dT [])) s3.heap.objs.size cl fp
  have pk := hk s3 (upd H2 D (.dT [])) s3.heap.objs.size cl fp
  have pe := he s3 (upd H2 D (.dT [])) s3.heap.objs.size cl fp
  have gone : ∀ b ∈ fp, (upd H2 D (.dT [])) b = none := fun b m => (f3 b m).1.1
  show codeAny _ _ (.compStart (.DictComp kx vx [⟨tg, iter, ifs, 0⟩] scope pos) 0 (.ref it) (.ref D) (compEnvC scope cl s3.heap.objs.size X.env)) (compPost (model X.prog X.w) X.A X.xe use Qf (.ref D) s3.heap.objs.size) { s3 with heap := pushCells (s3.heap.push { cls := .type "dict", data := .dict #[] }) scope.names }
  generalize ece : compEnvC scope cl s3.heap.objs.size X.env = ce at I4 pg pt pk pe ⊢
  have loc : ce.locals = s3.heap.objs.size := by rw [← ece]; rfl
  generalize eH : upd H2 D (.dT []) = H3 at I3 I4 pg pt pk pe w0 gone f3
  generalize e4 : ({ s3 with heap := pushCells (s3.heap.push { cls := .type "dict", data := .dict #[] }) scope.names } : Shared) = s4 at I4 ⊢
  have st4 : tn 0 s4.heap := T.keep _ _ _ st3 fun b _ o e => by rw [← e4]; exact pushCells_keeps _ _ _ _ (Heap.get?_push_of_some _ e)
  let Y : Cx := X.blk s3 H3 scope ce fp
  have mine : ∀ {σ' : L2.St} {H' : Hp} {s' : Shared}, L2.Inv Y [] σ' H' s' → (∀ b ∈ fp, H' b = none) → ∀ b ∈ fp, FpOk Y [] H' b := fun {_ H' _} J' n b m =>
    ⟨n b m, (J'.ok.exf b m).1, J'.ok.exfs b m, .inl m, (J'.ok.exf b m).2, fun p hp => nomatch (show p ∈ ([] : List (Addr × Obj)) from hp)⟩
  have run : codeAny (model X.prog X.w) X.A (.compLoop (.DictComp kx vx [⟨tg, iter, ifs, 0⟩] scope pos) 0 (.ref it) (.ref D) ce) (compPost (model X.prog X.w) X.A X.xe use Qf (.ref D) s3.heap.objs.size) s4 := by
    refine compLoop_anyD (fun n s' => ∃ i H', L2.Inv Y [] (wipe σ (own.map (·.2))) H' s' ∧ tn i s'.heap ∧ (∀ b ∈ fp, H' b = none) ∧ W i n H') (fun n s5 => ?_) m0 ⟨0, H3, I4, st4, gone, w0⟩
    rintro ⟨i, H5, I5, st5, n5, w5⟩
    rcases turn i n H5 w5 with ⟨stop, qq⟩ | ⟨go, Nx, hNx, step⟩
    · refine thnF (T.done Y rfl rfl rfl hc i [] s5 _ H5 (fun _ _ => False) I5 (mine I5 n5) st5 stop) fun r s6 ⟨hr, I6⟩ => ?_
      subst hr
      have back : L2.Inv X pins σ H5 s6 := I3.call' (ch := fp) I6.os I6.base I6.hok I6.bare fun b m =>
        let ⟨_, x1, _, x3, x4, x5⟩ := (f3 b m).1
        ⟨x3, x1, x4, x5⟩
      have nC : H5 s3.heap.objs.size = none := loc ▸ (show H5 ce.locals = none from I6.free)
      obtain ⟨m, ns, _⟩ := I6.loc
      exact fin D s3.heap.objs.size s6 m H5 back qq (loc ▸ (show s6.heap.Ns ce.locals m from ns)) (I3.fpOk (Nat.le_refl _) nC)
    · refine thnF (T.item Y rfl rfl rfl hc i [] s5 _ H5 (fun _ _ => False) I5 (mine I5 n5) st5 go) fun r s6 ⟨u, hr, h6⟩ => ?_
      subst hr
      refine thnF h6 fun _ s7 ⟨x, H7, I7, r7, y7, st7, n7⟩ => ?_
      refine thnF (pg.run _ s7 _ H7 x u _ (I7.pinned (mine I7 n7) (T.obj _ _ st7)) r7 (step x H7 y7)) fun _ s8 ⟨σ8, H8, I8, hw8, q8⟩ => ?_
      refine thnF (pt.run _ s8 σ8 H8 _ I8 q8) fun b s9 ⟨H9, I9, q9⟩ => ?_
      have over : ∀ {s' : Shared} {H' : Hp}, L2.Inv Y ([] ++ pinsAt fp s7.heap) σ8 H' s' → Nx H' → ∃ m, m < n ∧ ∃ i H', L2.Inv Y [] (wipe σ (own.map (·.2))) H' s' ∧ tn i s'.heap ∧ (∀ b ∈ fp, H' b = none) ∧ W i m H' := fun {s' H'} J' nx => by
        obtain ⟨m', lt, w'⟩ := hNx H' nx
        have pn : ∀ b ∈ fp, ∀ o, s7.heap.get? b = some o → s'.heap.get? b = some o ∧ H' b = none := fun b m o e =>
          let z := J'.pin (b, o) (List.mem_append_right _ (List.mem_append_right _ (mem_pinsAt m e)))
          ⟨z.1, z.2.1⟩
        refine ⟨m', lt, i + 1, H', (J'.unpinned (pins := [])).weak (by rw [← hw8, wipe_length]) (fun j v e => ?_), T.keep _ _ _ st7 fun b m o e => (pn b m o e).1, fun b m => ?_, w'⟩
        · rw [← hw8] at e
          exact (wipe_some e).1
        · obtain ⟨o, e, _⟩ := T.obj _ _ st7 b m
          exact (pn b m o e).2
      cases b with
      | false =>
        simp only [Bool.false_eq_true, if_false] at q9 ⊢
        exact over I9 q9
      | true =>
        simp only [if_true] at q9 ⊢
        refine thnF (pk.run _ s9 σ8 H9 _ I9 q9) fun z1 s10 ⟨yk, H10, I10, r10, q10⟩ => ?_
        refine thnF (pe.run _ s10 σ8 H10 _ I10 q10) fun z2 s11 ⟨yv, H11, I11, r11, kvs, k, b2, ek, hb2, hD, hz, nx⟩ => ?_
        subst ek
        obtain rfl : z1 = Value.ref b2 := r10
        exact dictSet_tup (X := Y) hu I11 hD hb2 hz r11 fun s12 I12 => over I12 nx
  exact codeAny_compStart_dict run (T.self X.A 0 _ _ _ st4 run)
theorem zpe_dcT {kx vx tg iter : Expr} {ifs : List Expr} {scope : Scope} {own : List (Str × Nat)} {pos : Pos} {wi : TI} {g : TG} {tt : TT} {tk tv : TE} (hu : X.A.units + 1 < cLine) (hc : X.calm = true) (hN : X.N.Nodup) (hi : PI X tg iter wi) (ok : BlkOk X.N X.env.scope scope own)
    (hg : AllB X scope fun Y => PG Y tg g) (ht : AllB X scope fun Y => PTs Y ifs tt) (hk : AllB X scope fun Y => PE Y kx tk) (he : AllB X scope fun Y => PE Y vx tv) (hs : ∀ x, foldedSetIterable iter X.env x = pure x := by intro _; rfl) :
    PE X (.DictComp kx vx [⟨tg, iter, ifs, 0⟩] scope pos) (zDcT wi g tt tk tv (own.map (·.2))) := by
  refine ⟨fun pins s σ H Q I h => ?_⟩
  rw [arm_eval_DictComp]
  refine zdc_run hu hc hN I hi ok hg ht hk he hs h fun D C s' m H' I' q ns f => ⟨m, ns, fun h2 sb => ?_⟩
  obtain ⟨y0, y1, _, y3, y4, y5⟩ := f
  exact ⟨.ref D, H', I'.turned (t' := s'.toks) (fun b o hb e => (sb.2 b hb).trans e) y0 y1 y3 y4 y5, rfl, q⟩
end
end Zk

set_option Elab.async false
set_option linter.all false
set_option maxRecDepth 100000
set_option maxHeartbeats 4000000
namespace Zk
open PySem PySem.Spec L2
open PyProof.Rows hiding St

/-! ### data that do not change: flat ones and tuples of such -/
mutual
inductive Im (H : Hp) : V → PyData → Prop
  | non : Im H .non .none
  | bl (b : Bool) : Im H (.bl b) (.bool b)
  | int (i : Int) : Im H (.int i) (.int i)
  | str (x : Str) : Im H (.str x) (.str x)
  | tup {a : Addr} {xs : List V} {ds : List PyData} : H a = some (.tup xs) → xs.length ≤ 1000 → ImAll H xs ds → Im H (.ref a) (.tuple ds)
inductive ImAll (H : Hp) : List V → List PyData → Prop
  | nil : ImAll H [] []
  | cons {v : V} {vs : List V} {d : PyData} {ds : List PyData} : Im H v d → ImAll H vs ds → ImAll H (v :: vs) (d :: ds)
end
mutual
theorem Im.go {H H' : Hp} (e : ∀ a xs, H a = some (.tup xs) → H' a = some (.tup xs)) : ∀ (d : PyData) (v : V), Im H v d → Im H' v d
  | .none, _, .non => .non
  | .bool _, _, .bl b => .bl b
  | .int _, _, .int i => .int i
  | .str _, _, .str x => .str x
  | .tuple ds, _, .tup h l k => .tup (e _ _ h) l (ImAll.go e ds _ k)
theorem ImAll.go {H H' : Hp} (e : ∀ a xs, H a = some (.tup xs) → H' a = some (.tup xs)) : ∀ (ds : List PyData) (vs : List V), ImAll H vs ds → ImAll H' vs ds
  | [], _, .nil => .nil
  | d :: ds, _, .cons h k => .cons (Im.go e d _ h) (ImAll.go e ds _ k)
end
theorem Im.ext {M : List Addr} {H H' : Hp} {v : V} {d : PyData} (h : Im H v d) (e : Ext M H H') : Im H' v d := Im.go (fun _ _ q => e.tup q) d v h
theorem ImAll.ext {M : List Addr} {H H' : Hp} {v : List V} {d : List PyData} (h : ImAll H v d) (e : Ext M H H') : ImAll H' v d := ImAll.go (fun _ _ q => e.tup q) d v h
theorem Im.lk {p : Addr} {u : HO} {od : Obj} {H H' : Hp} {v : V} {d : PyData} (h : Im H v d) (e : Lk p u od H H') : Im H' v d := Im.go (fun _ _ q => e.tup q) d v h
mutual
theorem Im.dp {K : PySem.W.Frag} {H : Hp} : ∀ (d : PyData) (v : V), Im H v d → Dp K H v d
  | .none, _, .non => .non
  | .bool _, _, .bl b => .bl b
  | .int _, _, .int i => .int i
  | .str _, _, .str x => .str x
  | .tuple ds, _, .tup h _ k => .tup (sqt h) (ImAll.dp ds _ k)
theorem ImAll.dp {K : PySem.W.Frag} {H : Hp} : ∀ (ds : List PyData) (vs : List V), ImAll H vs ds → DpAll K H vs ds
  | [], _, .nil => .nil
  | d :: ds, _, .cons h k => .cons (Im.dp d _ h) (ImAll.dp ds _ k)
end
theorem ImAll.len {H : Hp} : ∀ {vs : List V} {ds : List PyData}, ImAll H vs ds → vs.length = ds.length
  | _, _, .nil => rfl
  | _, _, .cons _ k => congrArg (· + 1) k.len
theorem ImAll.at {H : Hp} : ∀ {vs : List V} {ds : List PyData} {i : Nat} {d : PyData}, ImAll H vs ds → ds[i]? = some d → ∃ v, vs[i]? = some v ∧ Im H v d
  | _, _, 0, _, .cons h _, e => by cases e; exact ⟨_, rfl, h⟩
  | _, _, i + 1, _, .cons _ k, e => ImAll.at (i := i) k e
theorem ImAll.at' {H : Hp} : ∀ {vs : List V} {ds : List PyData} {i : Nat} {v : V}, ImAll H vs ds → vs[i]? = some v → ∃ d, ds[i]? = some d ∧ Im H v d
  | _, _, 0, _, .cons h _, e => by cases e; exact ⟨_, rfl, h⟩
  | _, _, i + 1, _, .cons _ k, e => ImAll.at' (i := i) k e
theorem ImAll.snoc {H : Hp} {v : V} {d : PyData} (h : Im H v d) : ∀ {vs : List V} {ds : List PyData}, ImAll H vs ds → ImAll H (vs ++ [v]) (ds ++ [d])
  | _, _, .nil => .cons h .nil
  | _, _, .cons g k => .cons g (ImAll.snoc h k)
theorem Im.tupE {H : Hp} {v : V} {ds : List PyData} (h : Im H v (.tuple ds)) : ∃ a xs, v = .ref a ∧ H a = some (.tup xs) ∧ ImAll H xs ds := by
  cases h with
  | tup h _ k => exact ⟨_, _, rfl, h, k⟩
/-- an equation of data -/
theorem w_eqD {K : PySem.W.Frag} {H : Hp} {Q : VK} {x y : V} {d e : PyData} (hx : Im H x d) (hy : Im H y e) (sd : SeqAt.shaped d = true) (se : SeqAt.shaped e = true) (q : Q (.bl (PyData.eqv d e)) H) : rEqD K x y H Q := ⟨d, e, hx.dp, hy.dp, sd, se, q⟩
theorem w_neD {K : PySem.W.Frag} {H : Hp} {Q : VK} {x y : V} {d e : PyData} (hx : Im H x d) (hy : Im H y e) (sd : SeqAt.shaped d = true) (se : SeqAt.shaped e = true) (q : Q (.bl (!PyData.eqv d e)) H) : rNeD K x y H Q := ⟨d, e, hx.dp, hy.dp, sd, se, q⟩

/-! ### dicts whose keys are slots, read as functions -/
def ORel (H : Hp) : Option V → Option PyData → Prop
  | none, none => True
  | some v, some d => Im H v d
  | _, _ => False
theorem ORel.ext {M : List Addr} {H H' : Hp} {x : Option V} {y : Option PyData} (h : ORel H x y) (e : Ext M H H') : ORel H' x y := by
  cases x <;> cases y
  · exact h
  · exact h
  · exact h
  · exact Im.ext h e
theorem ORel.lk {p : Addr} {u : HO} {od : Obj} {H H' : Hp} {x : Option V} {y : Option PyData} (h : ORel H x y) (e : Lk p u od H H') : ORel H' x y := by
  cases x <;> cases y
  · exact h
  · exact h
  · exact h
  · exact Im.lk h e
theorem ORel.some {H : Hp} {x : Option V} {d : PyData} (h : ORel H x (Option.some d)) : ∃ v, x = Option.some v ∧ Im H v d := by
  cases x with
  | none => exact h.elim
  | some v => exact ⟨v, rfl, h⟩
theorem ORel.none {H : Hp} {x : Option V} (h : ORel H x Option.none) : x = Option.none := by
  cases x with
  | none => rfl
  | some v => exact h.elim
theorem ORel.iss {H : Hp} {x : Option V} {y : Option PyData} (h : ORel H x y) : x.isSome = y.isSome := by
  cases x <;> cases y <;> first | rfl | exact h.elim
abbrev Fd := Slot → Option PyData
structure DMk (U : List Slot) (H : Hp) (kvs : List (List Key × V)) (ks : List Slot) (f : Fd) : Prop where
  keys : kvs.map (·.1) = ks.map sKey
  nd : ks.Nodup
  sub : ∀ s ∈ ks, s ∈ U
  val : ∀ s, ORel H (valV kvs (sKey s)) (f s)
theorem DMk.ext {U : List Slot} {M : List Addr} {H H' : Hp} {kvs : List (List Key × V)} {ks : List Slot} {f : Fd} (h : DMk U H kvs ks f) (e : Ext M H H') : DMk U H' kvs ks f := ⟨h.keys, h.nd, h.sub, fun s => (h.val s).ext e⟩
theorem DMk.lk {U : List Slot} {p : Addr} {u : HO} {od : Obj} {H H' : Hp} {kvs : List (List Key × V)} {ks : List Slot} {f : Fd} (h : DMk U H kvs ks f) (e : Lk p u od H H') : DMk U H' kvs ks f := ⟨h.keys, h.nd, h.sub, fun s => (h.val s).lk e⟩
theorem val_mem {kvs : List (List Key × V)} {k : List Key} : (valV kvs k).isSome = true ↔ k ∈ kvs.map (·.1) := by
  rw [← valV_any, List.any_eq_true]
  constructor
  · rintro ⟨p, hp, e⟩
    exact List.mem_map.mpr ⟨p, hp, of_decide_eq_true e⟩
  · intro h
    obtain ⟨p, hp, e⟩ := List.mem_map.mp h
    exact ⟨p, hp, decide_eq_true e⟩
theorem DMk.mem {U : List Slot} {H : Hp} {kvs : List (List Key × V)} {ks : List Slot} {f : Fd} (h : DMk U H kvs ks f) {s : Slot} : s ∈ ks ↔ (f s).isSome = true := by
  rw [← (h.val s).iss, val_mem, h.keys, List.mem_map]
  constructor
  · intro m; exact ⟨s, m, rfl⟩
  · rintro ⟨t, m, e⟩; rw [← sKey_inj e]; exact m
theorem DMk.len {U : List Slot} {H : Hp} {kvs : List (List Key × V)} {ks : List Slot} {f : Fd} (h : DMk U H kvs ks f) : kvs.length = ks.length := by
  have := congrArg List.length h.keys
  rwa [List.length_map, List.length_map] at this
theorem DMk.small {U : List Slot} {H : Hp} {kvs : List (List Key × V)} {ks : List Slot} {f : Fd} (h : DMk U H kvs ks f) (hU : U.length ≤ 1000) : kvs.length ≤ 1000 := by
  rw [h.len]; exact Nat.le_trans (nodup_len h.nd h.sub) hU
theorem DMk.at {U : List Slot} {H : Hp} {kvs : List (List Key × V)} {ks : List Slot} {f : Fd} (h : DMk U H kvs ks f) {i : Nat} {k : List Key} {v : V} (e : kvs[i]? = some (k, v)) : ∃ s d, ks[i]? = some s ∧ k = sKey s ∧ f s = some d ∧ valV kvs k = some v ∧ Im H v d := by
  have e1 : (kvs.map (·.1))[i]? = some k := by rw [List.getElem?_map, e]; rfl
  rw [h.keys, List.getElem?_map] at e1
  cases q : ks[i]? with
  | none => rw [q] at e1; cases e1
  | some s =>
    rw [q] at e1
    have e2 : sKey s = k := Option.some.inj e1
    have m : s ∈ ks := List.mem_of_getElem? q
    have m2 := h.mem.mp m
    obtain ⟨d, hd⟩ := Option.isSome_iff_exists.mp m2
    have o := h.val s
    rw [hd, e2] at o
    obtain ⟨v', hv, im⟩ := o.some
    have nk : (kvs.map (·.1)).Nodup := by
      rw [h.keys]
      exact List.pairwise_map.mpr (h.nd.imp fun hn e => hn (sKey_inj e))
    have hv2 : valV kvs k = some v := by
      clear hv im o hd m2 m e2 q e1 h
      induction kvs generalizing i with
      | nil => simp at e
      | cons p r ih =>
        cases i with
        | zero =>
          have : p = (k, v) := Option.some.inj e
          subst this
          exact valV_pos rfl
        | succ i =>
          have e' : r[i]? = some (k, v) := e
          have km : k ∈ r.map (·.1) := List.mem_map.mpr ⟨_, List.mem_of_getElem? e', rfl⟩
          rw [List.map_cons, List.nodup_cons] at nk
          rw [valV_neg (fun z => nk.1 (z ▸ km))]
          exact ih e' nk.2
    rw [hv] at hv2
    cases hv2
    exact ⟨s, d, rfl, e2.symm, hd, hv, im⟩
/-- a dict of slots in use; one that may be locked -/
def DM (U : List Slot) (H : Hp) (p : Addr) (f : Fd) : Prop := ∃ kvs ks, H p = some (.dT kvs) ∧ DMk U H kvs ks f
def DR (U : List Slot) (H : Hp) (p : Addr) (f : Fd) : Prop := ∃ kvs ks, Rd H p (.dT kvs) ∧ DMk U H kvs ks f
theorem DM.dr {U : List Slot} {H : Hp} {p : Addr} {f : Fd} : DM U H p f → DR U H p f := fun ⟨kvs, ks, h, k⟩ => ⟨kvs, ks, .inl h, k⟩
theorem DM.ext {U : List Slot} {M : List Addr} {H H' : Hp} {p : Addr} {f : Fd} (h : DM U H p f) (e : Ext M H H') (n : p ∉ M) : DM U H' p f := by
  obtain ⟨kvs, ks, h, k⟩ := h
  exact ⟨kvs, ks, e.keep _ _ h n, k.ext e⟩
theorem DR.ext {U : List Slot} {M : List Addr} {H H' : Hp} {p : Addr} {f : Fd} (h : DR U H p f) (e : Ext M H H') (n : p ∉ M) : DR U H' p f := by
  obtain ⟨kvs, ks, h, k⟩ := h
  rcases h with h | ⟨o, h⟩
  · exact ⟨kvs, ks, .inl (e.keep _ _ h n), k.ext e⟩
  · exact ⟨kvs, ks, .inr ⟨o, e.imm _ _ h trivial⟩, k.ext e⟩
theorem DR.lk {U : List Slot} {H H' : Hp} {p q : Addr} {u : HO} {od : Obj} {f : Fd} (h : DR U H p f) (e : Lk q u od H H') : DR U H' p f := by
  obtain ⟨kvs, ks, h, k⟩ := h
  rcases h with h | ⟨o, h⟩
  · by_cases z : p = q
    · subst z
      have := e.was
      rw [h] at this
      cases this
      exact ⟨kvs, ks, .inr ⟨od, e.at⟩, k.lk e⟩
    · exact ⟨kvs, ks, .inl (e.keep h z), k.lk e⟩
  · exact ⟨kvs, ks, .inr ⟨o, e.frz h⟩, k.lk e⟩
theorem DM.lk {U : List Slot} {H H' : Hp} {p q : Addr} {u : HO} {od : Obj} {f : Fd} (h : DM U H p f) (e : Lk q u od H H') (n : p ≠ q) : DM U H' p f := by
  obtain ⟨kvs, ks, h, k⟩ := h
  exact ⟨kvs, ks, e.keep h n, k.lk e⟩
theorem DM.ne {U : List Slot} {H : Hp} {p q : Addr} {f : Fd} (h : DM U H p f) (n : H q = none) : p ≠ q := by
  obtain ⟨kvs, ks, h, k⟩ := h
  exact ne_of_none h n
theorem DR.ne {U : List Slot} {H : Hp} {p q : Addr} {f : Fd} (h : DR U H p f) (n : H q = none) : p ≠ q := by
  obtain ⟨kvs, ks, h, k⟩ := h
  rcases h with h | ⟨o, h⟩ <;> exact ne_of_none h n
theorem DM.nil {U : List Slot} {H : Hp} {p : Addr} (h : H p = some (.dT [])) : DM U H p fun _ => none := ⟨[], [], h, ⟨rfl, List.nodup_nil, fun _ m => (nomatch m), fun _ => trivial⟩⟩
theorem DM.congr {U : List Slot} {H : Hp} {p : Addr} {f g : Fd} (h : DM U H p f) (e : ∀ s, f s = g s) : DM U H p g := by rw [← funext e]; exact h
theorem DM.fsub {U : List Slot} {H : Hp} {p : Addr} {f : Fd} (h : DM U H p f) {s : Slot} (e : (f s).isSome = true) : s ∈ U := by
  obtain ⟨kvs, ks, h, k⟩ := h
  exact k.sub _ (k.mem.mpr e)
theorem DR.fsub {U : List Slot} {H : Hp} {p : Addr} {f : Fd} (h : DR U H p f) {s : Slot} (e : (f s).isSome = true) : s ∈ U := by
  obtain ⟨kvs, ks, h, k⟩ := h
  exact k.sub _ (k.mem.mpr e)
def putF (f : Fd) (s : Slot) (d : PyData) : Fd := fun t => if t = s then some d else f t
theorem DMk.put {U : List Slot} {H : Hp} {kvs : List (List Key × V)} {ks : List Slot} {f : Fd} (h : DMk U H kvs ks f) {s : Slot} (m : s ∈ U) {v : V} {d : PyData} (i : Im H v d) : ∃ ks', DMk U H (putK kvs (sKey s) v) ks' (putF f s d) := by
  have hv : ∀ t, ORel H (valV (putK kvs (sKey s) v) (sKey t)) (putF f s d t) := fun t => by
    rw [valV_put]
    unfold putF
    by_cases e : t = s
    · subst e; rw [if_pos rfl, if_pos rfl]; exact i
    · rw [if_neg e, if_neg (fun z => e (sKey_inj z))]; exact h.val t
  by_cases hs : s ∈ ks
  · refine ⟨ks, ?_, h.nd, h.sub, hv⟩
    have : (kvs.any fun kv => decide (kv.1 = sKey s)) = true := by
      rw [valV_any, val_mem, h.keys]; exact List.mem_map.mpr ⟨s, hs, rfl⟩
    unfold putK
    rw [this, if_pos rfl, List.map_map, ← h.keys]
    refine List.map_congr_left fun p _ => ?_
    show (if p.1 = sKey s then (p.1, v) else p).1 = p.1
    by_cases z : p.1 = sKey s
    · rw [if_pos z]
    · rw [if_neg z]
  · have no : valV kvs (sKey s) = none := by
      have := fun z => hs (h.mem.mpr z)
      rw [← (h.val s).iss] at this
      exact Option.not_isSome_iff_eq_none.mp this
    refine ⟨ks ++ [s], ?_, ?_, fun t mt => ?_, hv⟩
    · rw [putK_new v no, List.map_append, List.map_append, h.keys]; rfl
    · rw [List.nodup_append]
      refine ⟨h.nd, List.nodup_cons.mpr ⟨fun z => (nomatch z), List.nodup_nil⟩, fun a ha b hb e => ?_⟩
      subst e
      rw [List.mem_singleton.mp hb] at ha
      exact hs ha
    · rcases List.mem_append.mp mt with z | z
      · exact h.sub t z
      · rw [List.mem_singleton.mp z]; exact m
/-! readings of such dicts -/
section
variable {U : List Slot} {K : PySem.W.Frag} {σ : St} {H : Hp} {Q : VK} {a b p q : Addr} {f g : Fd} {s : Slot} {v : V}
theorem dgetT {kvs : List (List Key × V)} (h : Rd H a (.dT kvs)) (eb : H b = some (.tup (sVs s))) : DGet H a (.ref b) (valV kvs (sKey s)) := .inr ⟨kvs, sKey s, b, h, rfl, eb, rfl⟩
theorem w_dgetT {d : PyData} {P : V → Prop} (h : DR U H a f) (eb : H b = some (.tup (sVs s))) (e : f s = some d) (k : ∀ v, Im H v d → P v) : ∃ c v, V.ref a = .ref c ∧ DGet H c (.ref b) (some v) ∧ P v := by
  obtain ⟨kvs, ks, h, m⟩ := h
  have o := m.val s
  rw [e] at o
  obtain ⟨v, hv, i⟩ := o.some
  exact ⟨a, v, rfl, hv ▸ dgetT h eb, k v i⟩
theorem w_dinT {P : Option V → Prop} (h : DR U H a f) (eb : H b = some (.tup (sVs s))) (k : ∀ o, o.isSome = (f s).isSome → P o) : ∃ c o, V.ref a = .ref c ∧ DGet H c (.ref b) o ∧ P o := by
  obtain ⟨kvs, ks, h, m⟩ := h
  exact ⟨a, _, rfl, dgetT h eb, k _ (m.val s).iss⟩
theorem w_get1 {te : TE} {ty : TE} (h : te σ H fun x H1 => ∃ a, x = .ref a ∧ IsD H1 a ∧ ty σ H1 fun y H2 => ∃ o, DGet H2 a y o ∧ Q (o.getD .non) H2) : tDGet1 te ty σ H Q := h
theorem w_isD {P : Addr → Prop} (h : DR U H a f) (k : P a) : ∃ c, V.ref a = .ref c ∧ IsD H c ∧ P c := by
  obtain ⟨kvs, ks, h, m⟩ := h
  exact ⟨a, rfl, .inr ⟨kvs, h⟩, k⟩
theorem w_get1T {P : Option V → Prop} (h : DR U H a f) (eb : H b = some (.tup (sVs s))) (k : ∀ o, Im H (o.getD .non) ((f s).getD .none) → P o) : ∃ o, DGet H a (.ref b) o ∧ P o := by
  obtain ⟨kvs, ks, h, m⟩ := h
  refine ⟨_, dgetT h eb, k _ ?_⟩
  have o := m.val s
  revert o
  cases valV kvs (sKey s) <;> cases f s <;> intro o
  · exact .non
  · exact o.elim
  · exact o.elim
  · exact o
theorem w_dputT {N : Hp → Prop} {d : PyData} (hU : U.length ≤ 1000) (h : DM U H a f) (eb : H b = some (.tup (sVs s))) (m : s ∈ U) (i : Im H v d) (k : ∀ H', Ext [a] H H' → DM U H' a (putF f s d) → N H') :
    ∃ c H4, V.ref a = .ref c ∧ DPut H c (.ref b) v H4 ∧ N H4 := by
  obtain ⟨kvs, ks, h, w⟩ := h
  have eb' : H b = some (.tup ((sKey s).map kV)) := eb
  have e : Ext [a] H (upd H a (.dT (putK kvs (sKey s) v))) := Ext.mut h (fun z => z) (List.mem_singleton.mpr rfl)
  refine ⟨a, _, rfl, DPut.t (k := sKey s) h eb' (szl (Nat.lt_of_le_of_lt (w.small hU) (by decide))), k _ e ?_⟩
  obtain ⟨ks', w'⟩ := w.put m i
  exact ⟨_, ks', upd_same, w'.ext e⟩
/-- len of a list, a tuple, a dict with tuple keys -/
def cLenX (K : PySem.W.Frag) : RC := fun xs H Q => cLen K xs H Q ∨ ∃ p kvs, xs = [V.ref p] ∧ H p = some (.dT kvs) ∧ Q (.int kvs.length) H
theorem zc_lenX {X : Cx} : CallR X (.builtin "len") (cLenX X.K) := by
  intro pins s σ H vs us Q I r h
  rcases h with h | ⟨p, kvs, e, hp, q⟩
  · exact zc_len pins s σ H vs us Q I r h
  · exact call_len_dT pins s σ H vs us Q I r ⟨p, kvs, e, hp, q⟩
/-- list(d), d a dict of slots -/
def cListT : RC := fun xs H Q => ∃ d kvs, xs = [V.ref d] ∧ Rd H d (.dT kvs) ∧ ∀ bs, IsKeys H kvs bs → Alc (.lst (bs.map V.ref)) H Q
theorem zc_listT {X : Cx} (hc : X.calm = true) : CallR X (.type "list") cListT := by
  intro pins s σ H vs us Q I r h
  obtain ⟨d, kvs, e, hd, q⟩ := h
  exact call_list_dT hc pins s σ H vs us Q I r ⟨d, kvs, e, hd, fun p bs np ib => q bs ib p np⟩
theorem DMk.slots {kvs : List (List Key × V)} {ks : List Slot} {bs : List Addr} (m : DMk U H kvs ks f) (i : IsKeys H kvs bs) : SlotsAt H bs ks := by
  have e := m.keys
  clear m
  unfold IsKeys at i
  unfold SlotsAt
  induction i generalizing ks with
  | nil => cases ks with
    | nil => exact .nil
    | cons s r => cases e
  | cons h t ih => cases ks with
    | nil => cases e
    | cons s r =>
      injection e with e1 e2
      refine .cons ?_ (ih e2)
      show _ = some (HO.tup (sVs s))
      rw [h]
      have e1' : _ = sKey s := e1
      rw [← sKey_vs, ← e1']
theorem w_listT {P : V → Hp → Prop} (h : DR U H a f) (k : ∀ p bs ks H', Ext [] H H' → H p = none → H' p = some (.lst (bs.map V.ref)) → SlotsAt H' bs ks → ks.Nodup → (∀ s, s ∈ ks ↔ (f s).isSome = true) → ks.length ≤ U.length → P (.ref p) H') : cListT [.ref a] H P := by
  obtain ⟨kvs, ks, h, m⟩ := h
  refine ⟨a, kvs, rfl, h, fun bs ib => w_alc fun p H' e n hp => ?_⟩
  exact k p bs ks H' e n hp ((m.slots ib).ext e) m.nd (fun s => m.mem) (nodup_len m.nd m.sub)
/-- sorted(d), d a dict of slots; the dict is not changed by it -/
def cSortT (K : PySem.W.Frag) : RC := fun vs H Q => cSortSl K vs H Q ∨ ∃ (d : Addr) (kvs : List (List Key × V)) (ks : List Slot), vs = [V.ref d] ∧ Rd H d (.dT kvs) ∧ kvs.map (·.1) = ks.map sKey ∧
  ∀ (bs : List Addr) (ts : List Slot), SlotsAt H bs ts → ts.Perm ks → ts.Pairwise (fun x y => sLt y x = false) → Alc (.lst (bs.map V.ref)) H Q
theorem SlotsAt.vals {X : Cx} {pins : List (Addr × Obj)} {s : Shared} (I : L2.Inv X pins σ H s) {as : List Addr} {ss : List Slot} (hx : SlotsAt H as ss) {h' : Heap} (kp : ∀ b o, s.heap.get? b = some o → h'.get? b = some o) :
    ∀ v ∈ as.map Value.ref, IsSlotV h' v (match v with | .ref b => slotAt H b | _ => (Str.empty, 0, 0)) := by
  intro v hv
  obtain ⟨t, ht, rfl⟩ := List.mem_map.mp hv
  obtain ⟨_, its2, r2, o, ho, hc, n, hd⟩ := I.hok _ _ (SlotsAt.mem hx t ht)
  cases r2 with
  | cons ra r2 => cases r2 with
    | cons rb r2 => cases r2 with
      | cons rc r2 =>
        cases r2
        obtain ⟨t1, rfl⟩ := ra
        obtain ⟨t2, rfl⟩ := rb
        obtain ⟨t3, rfl⟩ := rc
        exact ⟨t, o, t1, t2, t3, n, rfl, kp _ _ ho, hc, hd⟩
theorem zc_sortT {X : Cx} (hc : X.calm = true) : CallR X (.builtin "sorted") (cSortT X.K) := by
  intro pins s σ H vs us Q I r h
  rcases h with h | ⟨d, kvs, ks, rfl, hd, hk, q⟩
  · exact zc_sortSl pins s σ H vs us Q I r h
  obtain ⟨u, rfl, rx⟩ := r.one
  cases rx
  obtain ⟨z, hs, ys, pr, o, es, ep, ho, hx, hdt, he, hn⟩ := (show ObjOk X.prog X.w H s.heap d (.dT kvs) from hd.ok I.hok)
  have l1 : es.size = ys.length := size_of_entries he
  have l2 : kvs.length = ys.length := Paired.length pr
  refine Calls.call_function_entry PyProof.Rows.kind_sorted PyProof.Rows.plain_sorted PyProof.Rows.entry_sorted (PyProof.Rows.args_sorted1 _) ?_
  unfold Builtin.«sorted»
  refine wpAny_bind (m := checkCount "sorted" 1 1 _) (wpAny_pure ?_)
  refine wpAny_bind (PySem.W.kdu_collect (A := X.A.in1) (kdl_raw hs hx hdt) (I.ok.hd hc) ho (by omega) fun h' tk acc' kp it => ?_)
  have ea : acc'.toList = ys.map fun x => Value.ref x.2.1 := by
    have hl : acc'.toList.length = ys.length := by rw [Array.length_toList, it.1]; exact l1
    apply List.ext_getElem?
    intro j
    rw [List.getElem?_map]
    cases hj : acc'.toList[j]? with
    | none =>
      have h1 := List.getElem?_eq_none_iff.mp hj
      rw [List.getElem?_eq_none (by omega)]
      all_goals rfl
    | some v =>
      obtain ⟨en, hen, hv⟩ := it.2 j v (by rw [← Array.getElem?_toList]; exact hj)
      have qe := entry_at he j
      rw [hen] at qe
      cases hb : ys[j]? with
      | none =>
        rw [hb] at qe
        exact nomatch (show some en = none from qe)
      | some b =>
        rw [hb] at qe
        have e2 : en = entryOfKey (tupleKind (mixKind X.prog X.w)) b := Option.some.inj qe
        rw [hv, e2]
        all_goals rfl
  have eb : acc'.toList = (ys.map fun x => x.2.1).map Value.ref := by rw [ea, List.map_map]; all_goals rfl
  have ik := isKeys_of pr
  generalize (ys.map fun x => x.2.1) = as at eb ik
  have hx2 : SlotsAt H as ks := by
    have e := hk
    clear q hd hx pr l2 ho he hn z hk
    unfold IsKeys at ik
    unfold SlotsAt
    clear eb ea
    induction ik generalizing ks with
    | nil => cases ks with
      | nil => exact .nil
      | cons s r => cases e
    | cons h t ih => cases ks with
      | nil => cases e
      | cons s r =>
        injection e with e1 e2
        refine .cons ?_ (ih (ks := r) e2)
        show _ = some (HO.tup (sVs s))
        rw [h]
        have e1' : _ = sKey s := e1
        rw [← sKey_vs, ← e1']
  have lz : (as.map Value.ref).length ≤ sizeLine := by
    rw [← eb, Array.length_toList, it.1, l1]; omega
  have I1 : L2.Inv X pins σ H { s with heap := h', toks := tk } := I.kept kp
  rw [eb]
  refine wpAny_bind (wpAny_newList ?_ lz)
  have hoL : (h'.push (seqObj "list" (as.map Value.ref).toArray 0)).get? h'.objs.size = some (seqObj "list" (as.map Value.ref).toArray 0) := Heap.get?_push_size _ rfl
  show wpAny _ _ _ _ _ { s with heap := h'.push (seqObj "list" (as.map Value.ref).toArray 0), toks := tk }
  let k : Value → Slot := fun v => match v with | .ref b => slotAt H b | _ => (Str.empty, 0, 0)
  refine wpAny_bind (wpAny_holding (wpAny_call_entry PyProof.Rows.slot_list_sort ⟨_, hoL, rfl⟩ PyProof.Rows.entry_list_sort
    (SrtO.list_sort_ord (s := { s with heap := h'.push (seqObj "list" (as.map Value.ref).toArray 0), toks := tk }) (sLt_swo k) hoL lz (fun h2 => slots_able (by omega) (SlotsAt.vals I hx2 fun b o e => Heap.get?_push_of_some _ (kp b o e)) fun o e c => ?_) fun out h1 hb => ⟨_, rfl, ?_⟩) (PyProof.Rows.args_list_sort _)))
  · rw [hoL] at e
    cases e
    exact absurd (Value.type.inj c) (by decide)
  have h2 := hb.perm
  obtain ⟨e', he'⟩ := PyProof.Rows.sortedHeap_at (vs := as.map Value.ref) (out := out.toArray) hoL
  obtain ⟨bs, hbs⟩ := refs_list (us := out) fun u hu => by
    obtain ⟨t, _, e⟩ := List.mem_map.mp (h2.mem_iff.mp hu)
    exact ⟨t, e.symm⟩
  subst hbs
  have hp : bs.Perm as := perm_of_map h2
  have hbm : ∀ b ∈ bs, H b = some (.tup (sVs (slotAt H b))) := fun b m => SlotsAt.mem hx2 b (hp.mem_iff.mp m)
  have hq := q bs (bs.map (slotAt H)) (SlotsAt.of hbm) (by rw [SlotsAt.map hx2]; exact hp.map _) (by
    rw [List.pairwise_map]
    exact List.pairwise_map.mp h1)
  refine wpAny_pure ⟨_, rfl, .ref h'.objs.size, upd H h'.objs.size (.lst (bs.map V.ref)), I1.laid (t' := tk) (fun b u e => ?_) (Nat.le_refl _)
    (show ObjOk X.prog X.w _ _ _ (.lst (bs.map V.ref)) from ⟨?_, bs.map Value.ref, e', vals_refs bs, he'⟩), rfl, hq _ (I1.hok.fresh (Nat.le_refl _))⟩
  · have hb : b < h'.objs.size := Heap.lt_size e
    rw [PyProof.Rows.sortedHeap_old (Nat.ne_of_lt hb) (by rw [size_push']; exact Nat.lt_succ_of_lt hb)]
    exact Heap.get?_push_of_some _ e
  · rw [List.length_map, hp.length_eq]
    rw [List.length_map] at lz
    exact lz
end
end Zk

set_option Elab.async false
set_option linter.all false
set_option maxRecDepth 100000
set_option maxHeartbeats 4000000
namespace Zk
open PySem PySem.Spec L2
open PyProof.Rows hiding St

theorem depthAll_mem {d : PyData} : ∀ {ds : List PyData}, d ∈ ds → d.depth ≤ PyData.depthAll ds
  | x :: xs, h => by
    rw [PyData.depthAll]
    rcases List.mem_cons.mp h with h | h
    · rw [h]; exact Nat.le_max_left _ _
    · exact Nat.le_trans (depthAll_mem h) (Nat.le_max_right _ _)
theorem depth_tup (ds : List PyData) : (PyData.tuple ds).depth = PyData.depthAll ds + 1 := by rw [PyData.depth]
/-- two that are told to be the same: data of the same form, lists of such, dicts of slots that are the same functions -/
def Sm (U : List Slot) : Nat → Hp → V → V → Prop
  | 0, _, _, _ => False
  | n + 1, H, a, b => (∃ d, d.depth ≤ n ∧ Im H a d ∧ Im H b d) ∨ (∃ p q xs ys, a = .ref p ∧ b = .ref q ∧ H p = some (.lst xs) ∧ H q = some (.lst ys) ∧ xs.length ≤ 1000 ∧ Paired (Sm U n H) xs ys) ∨
    (3 ≤ n ∧ U.length ≤ 1000 ∧ ∃ p q f, a = .ref p ∧ b = .ref q ∧ DM U H p f ∧ DM U H q f ∧ ∀ s d, f s = some d → d.depth < n)
theorem Sm.im {U : List Slot} {n : Nat} {H : Hp} {a b : V} {d : PyData} (l : d.depth < n) (h : Im H a d) (k : Im H b d) : Sm U n H a b := by
  cases n with
  | zero => omega
  | succ n => exact .inl ⟨d, by omega, h, k⟩
theorem Sm.ext {U : List Slot} {H H' : Hp} (e : Ext [] H H') : ∀ {n : Nat} {a b : V}, Sm U n H a b → Sm U n H' a b
  | 0, _, _, h => h
  | n + 1, a, b, h => by
    rcases h with ⟨d, l, i, j⟩ | ⟨p, q, xs, ys, rfl, rfl, hp, hq, lz, w⟩ | ⟨l, hU, p, q, f, rfl, rfl, hp, hq, w⟩
    · exact .inl ⟨d, l, i.ext e, j.ext e⟩
    · exact .inr (.inl ⟨p, q, xs, ys, rfl, rfl, e.keep _ _ hp List.not_mem_nil, e.keep _ _ hq List.not_mem_nil, lz, Paired.mapP w fun _ _ z => Sm.ext e z⟩)
    · exact .inr (.inr ⟨l, hU, p, q, f, rfl, rfl, hp.ext e List.not_mem_nil, hq.ext e List.not_mem_nil, w⟩)
theorem sle_anti {x y : Slot} (h : sLt y x = false) (k : sLt x y = false) : x = y := by
  rcases SLt.tri x y with z | z | z
  · exact absurd z (sLt_no.mp k)
  · exact z
  · exact absurd z (sLt_no.mp h)
theorem sorted_uniq : ∀ {xs ys : List Slot}, xs.Perm ys → xs.Pairwise (fun x y => sLt y x = false) → ys.Pairwise (fun x y => sLt y x = false) → xs = ys
  | [], ys, p, _, _ => (List.nil_perm.mp p).symm
  | x :: xs, [], p, _, _ => absurd (List.perm_nil.mp p) (fun z => nomatch z)
  | x :: xs, y :: ys, p, h, k => by
    obtain ⟨h1, h2⟩ := List.pairwise_cons.mp h
    obtain ⟨k1, k2⟩ := List.pairwise_cons.mp k
    have e : x = y := by
      have m1 : x ∈ y :: ys := p.mem_iff.mp List.mem_cons_self
      have m2 : y ∈ x :: xs := p.mem_iff.mpr List.mem_cons_self
      rcases List.mem_cons.mp m1 with m1 | m1
      · exact m1
      · rcases List.mem_cons.mp m2 with m2 | m2
        · exact m2.symm
        · exact sle_anti (h1 y m2) (k1 x m1)
    subst e
    rw [sorted_uniq ((List.perm_cons x).mp p) h2 k2]
theorem DMk.perm {U : List Slot} {H H' : Hp} {kvs kvs' : List (List Key × V)} {ks ks' : List Slot} {f : Fd} (h : DMk U H kvs ks f) (h' : DMk U H' kvs' ks' f) : ks.Perm ks' :=
  (List.perm_ext_iff_of_nodup h.nd h'.nd).mpr fun s => by rw [h.mem, h'.mem]
/-- the items of a slot's tuple -/
def sD (s : Slot) : PyData := .tuple [.str s.1, .int s.2.1, .int s.2.2]
theorem sD_depth (s : Slot) : (sD s).depth = 1 := by simp [sD, PyData.depth, PyData.depthAll]
theorem im_slot {H : Hp} {b : Addr} {s : Slot} (h : H b = some (.tup (sVs s))) : Im H (.ref b) (sD s) := .tup h (show 3 ≤ 1000 by decide) (.cons (.str _) (.cons (.int _) (.cons (.int _) .nil)))
theorem sm_slots {U : List Slot} {n : Nat} {H : Hp} (hn : 2 ≤ n) : ∀ {as bs : List Addr} {ss : List Slot}, SlotsAt H as ss → SlotsAt H bs ss → Paired (Sm U n H) (as.map V.ref) (bs.map V.ref)
  | _, _, _, .nil, .nil => .nil
  | _, _, _, .cons h t, .cons k u => .cons (Sm.im (d := sD _) (by rw [sD_depth]; omega) (im_slot h) (im_slot k)) (sm_slots hn t u)

theorem SlotsAt.app {H : Hp} {as bs : List Addr} {ss ts : List Slot} (h : SlotsAt H as ss) (k : SlotsAt H bs ts) : SlotsAt H (as ++ bs) (ss ++ ts) := by
  unfold SlotsAt at *
  induction h with
  | nil => exact k
  | cons h t ih => exact .cons h ih
theorem SlotsAt.snoc {H : Hp} {as : List Addr} {b : Addr} {ss : List Slot} {s : Slot} (h : SlotsAt H as ss) (k : H b = some (.tup (sVs s))) : SlotsAt H (as ++ [b]) (ss ++ [s]) := h.app (.cons k .nil)
theorem SlotsAt.len {H : Hp} {as : List Addr} {ss : List Slot} (h : SlotsAt H as ss) : as.length = ss.length := paired_len h
theorem SlotsAt.get {H : Hp} {as : List Addr} {ss : List Slot} (h : SlotsAt H as ss) {i : Nat} {v : V} (e : (as.map V.ref)[i]? = some v) : ∃ a s, v = .ref a ∧ as[i]? = some a ∧ ss[i]? = some s ∧ H a = some (.tup (sVs s)) := by
  rw [List.getElem?_map] at e
  cases q : as[i]? with
  | none => rw [q] at e; cases e
  | some a =>
    rw [q] at e
    obtain ⟨s, hs, hh⟩ := paired_at h q
    exact ⟨a, s, (Option.some.inj e).symm, rfl, hs, hh⟩
/-! ### walks over the keys of a dict of slots -/
section
variable {K : PySem.W.Frag} {σ : St} {H : Hp} {Q : VK} {a b : Addr} {rt : VK} {nx : St → Hp → Prop} {t : TS} {tt : TT} {te : TE} {U : List Slot} {f : Fd}
theorem w_keysT {kvs : List (List Key × V)} {o : Obj} {R : It → Hp → Prop} {i : Nat} (e : σ[i]? = some (some (.ref a))) (h : H a = some (.frz o (.dT kvs))) (q : R (Itkt a o kvs) H) : iKeys (tVar i) σ H R := ⟨.ref a, e, a, o, rfl, .inr ⟨kvs, h, q⟩⟩
theorem w_keysKT {kvs : List (List Key × V)} {o : Obj} {R : It → Hp → Prop} (h : H a = some (.frz o (.dT kvs))) (q : R (Itkt a o kvs) H) : ∃ d o, V.ref a = .ref d ∧ ((∃ kvs, H d = some (.frz o (.dK kvs)) ∧ R (Itk d o kvs) H) ∨ ∃ kvs, H d = some (.frz o (.dT kvs)) ∧ R (Itkt d o kvs) H) := ⟨a, o, rfl, .inr ⟨kvs, h, q⟩⟩
theorem z_for_keysT {kvs : List (List Key × V)} {ks : List Slot} {H0 : Hp} (m : DMk U H0 kvs ks f) {d : Addr} {o : Obj} {g : TG} (Pv : Nat → St → Hp → Prop) (h0 : Pv 0 σ H) (hl : ∀ i σ H, i ≤ ks.length → Pv i σ H → H d = some (.frz o (.dT kvs)))
    (hs : ∀ (N : St → Hp → Prop) i s e b σ H, ks[i]? = some s → f s = some e → H b = some (.tup (sVs s)) → Pv i σ H → (∀ σ' H', Pv (i + 1) σ' H' → N σ' H') → g (.ref b) σ H fun σ2 H2 => t ⟨N, rt, nx, N⟩ σ2 H2) (hd : ∀ σ H, Pv ks.length σ H → nx σ H) :
    ∃ W : Nat → Nat → St → Hp → Prop, (∃ m, W 0 m σ H) ∧ ∀ i m σ H, W i m σ H →
      ((Itkt d o kvs).stop i H ∧ nx σ H) ∨ ((Itkt d o kvs).go i H ∧ ∃ N : St → Hp → Prop, (∀ σ' H', N σ' H' → ∃ m', m' < m ∧ W (i + 1) m' σ' H') ∧ ∀ x H', (Itkt d o kvs).yld i H x H' → g x σ H' fun σ2 H2 => t ⟨N, rt, nx, N⟩ σ2 H2) := by
  rw [← m.len] at hl hd
  refine ⟨fun i m σ H => m = kvs.length - i ∧ i ≤ kvs.length ∧ Pv i σ H, ⟨_, rfl, Nat.zero_le _, h0⟩, ?_⟩
  rintro i m' σ H ⟨rfl, hi, p⟩
  by_cases hlt : i < kvs.length
  · refine .inr ⟨⟨hl i σ H hi p, hlt⟩, Pv (i + 1), fun σ' H' p' => ⟨kvs.length - (i + 1), by omega, rfl, hlt, p'⟩, fun x H' y => ?_⟩
    obtain ⟨e, k, v, q, hk, rfl, hq⟩ := y
    subst e
    obtain ⟨s, d', hs', ek, hf, _, _⟩ := m.at hk
    subst ek
    exact hs (Pv (i + 1)) i s d' q σ _ hs' hf hq p fun _ _ q => q
  · have e : i = kvs.length := by omega
    subst e
    exact .inl ⟨⟨hl _ σ H hi p, Nat.le_refl _⟩, hd σ H p⟩
theorem z_lc_keysT {kvs : List (List Key × V)} {ks : List Slot} {H0 : Hp} (m : DMk U H0 kvs ks f) {d : Addr} {o : Obj} {g : TG} {vs : List Nat} {D : Addr} {Qd : Hp → Prop} (Pv : Nat → List V → Hp → Prop) (nD : H D = none) (h0 : ∀ H', Ext [] H H' → Pv 0 [] H') (hl : ∀ i acc H, i ≤ ks.length → Pv i acc H → H d = some (.frz o (.dT kvs)))
    (hs : ∀ (Nx : Hp → Prop) i s e b acc H, ks[i]? = some s → f s = some e → H b = some (.tup (sVs s)) → Pv i acc H → H D = some (.lst acc) → (∀ acc' H', Pv (i + 1) acc' H' → H' D = some (.lst acc') → Nx H') → g (.ref b) (wipe σ vs) H fun σ2 H2 => wipe σ2 vs = wipe σ vs ∧ tt σ2 H2 fun b H3 =>
      if b = true then te σ2 H3 fun y H4 => ∃ acc, H4 D = some (.lst acc) ∧ acc.length < sizeLine ∧ Nx (upd H4 D (.lst (acc ++ [y]))) else Nx H3) (hd : ∀ acc H, Pv ks.length acc H → H D = some (.lst acc) → Qd H) :
    ∃ W : Nat → Nat → Hp → Prop, (∃ m, W 0 m (upd H D (.lst []))) ∧ ∀ i m H, W i m H →
      ((Itkt d o kvs).stop i H ∧ Qd H) ∨ ((Itkt d o kvs).go i H ∧ ∃ Nx : Hp → Prop, (∀ H', Nx H' → ∃ m', m' < m ∧ W (i + 1) m' H') ∧ ∀ x H', (Itkt d o kvs).yld i H x H' → g x (wipe σ vs) H' fun σ2 H2 => wipe σ2 vs = wipe σ vs ∧ tt σ2 H2 fun b H3 =>
        if b = true then te σ2 H3 fun y H4 => ∃ acc, H4 D = some (.lst acc) ∧ acc.length < sizeLine ∧ Nx (upd H4 D (.lst (acc ++ [y]))) else Nx H3) := by
  rw [← m.len] at hl hd
  refine ⟨fun i m H => m = kvs.length - i ∧ i ≤ kvs.length ∧ ∃ acc, Pv i acc H ∧ H D = some (.lst acc), ⟨_, rfl, Nat.zero_le _, [], h0 _ (Ext.new nD), upd_same⟩, ?_⟩
  rintro i m' H ⟨rfl, hi, acc, p, hD⟩
  by_cases hlt : i < kvs.length
  · refine .inr ⟨⟨hl i acc H hi p, hlt⟩, (fun H => ∃ acc, Pv (i + 1) acc H ∧ H D = some (.lst acc)), fun H' p' => ⟨kvs.length - (i + 1), by omega, rfl, hlt, p'⟩, fun x H' y => ?_⟩
    obtain ⟨e, k, v, q, hk, rfl, hq⟩ := y
    subst e
    obtain ⟨s, d', hs', ek, hf, _, _⟩ := m.at hk
    subst ek
    exact hs _ i s d' q acc _ hs' hf hq p hD fun acc' H' p' h' => ⟨acc', p', h'⟩
  · have e : i = kvs.length := by omega
    subst e
    exact .inl ⟨⟨hl _ acc H hi p, Nat.le_refl _⟩, hd acc H p hD⟩
/-- .. and a dict is made of them -/
theorem w_dc {wi : TI} {g : TG} {tk tv : TE} {vs : List Nat} (h : wi σ H fun J H1 => ∀ D, H1 D = none → ∃ W : Nat → Nat → Hp → Prop, (∃ m, W 0 m (upd H1 D (.dT []))) ∧
  ∀ i m H, W i m H → (J.stop i H ∧ Q (.ref D) H) ∨ (J.go i H ∧ ∃ Nx : Hp → Prop, (∀ H', Nx H' → ∃ m', m' < m ∧ W (i + 1) m' H') ∧
    ∀ x H', J.yld i H x H' → g x (wipe σ vs) H' fun σ2 H2 => wipe σ2 vs = wipe σ vs ∧ tt σ2 H2 fun b H3 =>
      if b = true then tk σ2 H3 fun y H4 => tv σ2 H4 fun z H5 => ∃ kvs k q, y = .ref q ∧ H5 q = some (.tup (k.map kV)) ∧ H5 D = some (.dT kvs) ∧ kvs.length < sizeLine ∧ Nx (upd H5 D (.dT (putK kvs k z))) else Nx H3)) : zDcT wi g tt tk tv vs σ H Q := h
theorem w_dcput {D q : Addr} {v : V} {N : Hp → Prop} {s : Slot} {d : PyData} (hU : U.length ≤ 1000) (h : DM U H D f) (eb : H q = some (.tup (sVs s))) (m : s ∈ U) (i : Im H v d) (k : ∀ H', Ext [D] H H' → DM U H' D (putF f s d) → N H') :
    ∃ kvs k c, V.ref q = .ref c ∧ H c = some (.tup (k.map kV)) ∧ H D = some (.dT kvs) ∧ kvs.length < sizeLine ∧ N (upd H D (.dT (putK kvs k v))) := by
  obtain ⟨kvs, ks, h, w⟩ := h
  have e : Ext [D] H (upd H D (.dT (putK kvs (sKey s) v))) := Ext.mut h (fun z => z) (List.mem_singleton.mpr rfl)
  refine ⟨kvs, sKey s, q, rfl, eb, h, szl (Nat.lt_of_le_of_lt (w.small hU) (by decide)), k _ e ?_⟩
  obtain ⟨ks', w'⟩ := w.put m i
  exact ⟨_, ks', upd_same, w'.ext e⟩
theorem z_dc_keysT {kvs : List (List Key × V)} {ks : List Slot} {H0 : Hp} (m : DMk U H0 kvs ks f) {d : Addr} {o : Obj} {g : TG} {tk tv : TE} {vs : List Nat} {D : Addr} {Qd : Hp → Prop} (Pv : Nat → Hp → Prop) (h0 : ∀ H', Ext [] H H' → H' D = some (.dT []) → Pv 0 H') (nD : H D = none) (hl : ∀ i H, i ≤ ks.length → Pv i H → H d = some (.frz o (.dT kvs)))
    (hs : ∀ (Nx : Hp → Prop) i s e b H, ks[i]? = some s → f s = some e → H b = some (.tup (sVs s)) → Pv i H → (∀ H', Pv (i + 1) H' → Nx H') → g (.ref b) (wipe σ vs) H fun σ2 H2 => wipe σ2 vs = wipe σ vs ∧ tt σ2 H2 fun b H3 =>
      if b = true then tk σ2 H3 fun y H4 => tv σ2 H4 fun z H5 => ∃ kvs k q, y = .ref q ∧ H5 q = some (.tup (k.map kV)) ∧ H5 D = some (.dT kvs) ∧ kvs.length < sizeLine ∧ Nx (upd H5 D (.dT (putK kvs k z))) else Nx H3) (hd : ∀ H, Pv ks.length H → Qd H) :
    ∃ W : Nat → Nat → Hp → Prop, (∃ m, W 0 m (upd H D (.dT []))) ∧ ∀ i m H, W i m H →
      ((Itkt d o kvs).stop i H ∧ Qd H) ∨ ((Itkt d o kvs).go i H ∧ ∃ Nx : Hp → Prop, (∀ H', Nx H' → ∃ m', m' < m ∧ W (i + 1) m' H') ∧ ∀ x H', (Itkt d o kvs).yld i H x H' → g x (wipe σ vs) H' fun σ2 H2 => wipe σ2 vs = wipe σ vs ∧ tt σ2 H2 fun b H3 =>
        if b = true then tk σ2 H3 fun y H4 => tv σ2 H4 fun z H5 => ∃ kvs k q, y = .ref q ∧ H5 q = some (.tup (k.map kV)) ∧ H5 D = some (.dT kvs) ∧ kvs.length < sizeLine ∧ Nx (upd H5 D (.dT (putK kvs k z))) else Nx H3) := by
  rw [← m.len] at hl hd
  refine ⟨fun i m H => m = kvs.length - i ∧ i ≤ kvs.length ∧ Pv i H, ⟨_, rfl, Nat.zero_le _, h0 _ (Ext.new nD) upd_same⟩, ?_⟩
  rintro i m' H ⟨rfl, hi, p⟩
  by_cases hlt : i < kvs.length
  · refine .inr ⟨⟨hl i H hi p, hlt⟩, Pv (i + 1), fun H' p' => ⟨kvs.length - (i + 1), by omega, rfl, hlt, p'⟩, fun x H' y => ?_⟩
    obtain ⟨e, k, v, q, hk, rfl, hq⟩ := y
    subst e
    obtain ⟨s, d', hs', ek, hf, _, _⟩ := m.at hk
    subst ek
    exact hs (Pv (i + 1)) i s d' q _ hs' hf hq p fun _ q => q
  · have e : i = kvs.length := by omega
    subst e
    exact .inl ⟨⟨hl _ H hi p, Nat.le_refl _⟩, hd H p⟩
theorem w_sortT {P : V → Hp → Prop} (h : DR U H a f) (k : ∀ p bs ts H', Ext [] H H' → H p = none → H' p = some (.lst (bs.map V.ref)) → SlotsAt H' bs ts → ts.Nodup → (∀ s, s ∈ ts ↔ (f s).isSome = true) → ts.length ≤ U.length → ts.Pairwise (fun x y => sLt y x = false) → P (.ref p) H') : cSortT K [.ref a] H P := by
  obtain ⟨kvs, ks, h, m⟩ := h
  refine .inr ⟨a, kvs, ks, rfl, h, m.keys, fun bs ts hb hp hs => w_alc fun p H' e n hh => ?_⟩
  exact k p bs ts H' e n hh (hb.ext e) (hp.nodup_iff.mpr m.nd) (fun s => by rw [hp.mem_iff]; exact m.mem) (by rw [hp.length_eq]; exact nodup_len m.nd m.sub) hs
theorem w_sortSl {P : V → Hp → Prop} {as : List Addr} {ss : List Slot} (h : SqL K H a (as.map V.ref)) (hx : SlotsAt H as ss) (k : ∀ p bs ts H', Ext [] H H' → H p = none → H' p = some (.lst (bs.map V.ref)) → SlotsAt H' bs ts → ts.Perm ss → ts.Pairwise (fun x y => sLt y x = false) → P (.ref p) H') : cSortT K [.ref a] H P :=
  .inl ⟨a, as, ss, rfl, h, hx, fun bs ts hb hp hs => w_alc fun p H' e n hh => k p bs ts H' e n hh (hb.ext e) hp hs⟩
theorem w_lenX {xs : List V} (h : SqL K H a xs ∨ SqT K H a xs) (q : Q (.int (xs.length : Int)) H) : cLenX K [.ref a] H Q := .inl ⟨_, _, rfl, h.elim (fun h => .inl ⟨xs, h, rfl⟩) (fun h => .inr ⟨xs, h, rfl⟩), q⟩
theorem w_lenXT {kvs : List (List Key × V)} (h : H a = some (.dT kvs)) (q : Q (.int (kvs.length : Int)) H) : cLenX K [.ref a] H Q := .inr ⟨a, kvs, rfl, h, q⟩
theorem w_ixA {v : V} {xs : List V} {j : Int} (h : SqL K H a xs ∨ SqT K H a xs) (e : atI xs j = some v) (q : Q v H) : rIx K (.ref a) (.int j) H Q :=
  h.elim (fun h => .inl ⟨a, xs, j, v, rfl, rfl, h, e, q⟩) fun h => .inr (.inl ⟨a, xs, j, v, rfl, rfl, h, e, q⟩)
theorem w_clearT {kvs : List (List Key × V)} {Q : VK} (h : H a = some (.dT kvs)) (k : ∀ H', Ext [a] H H' → Q .non H') : rClearT (.ref a) [] H Q := ⟨a, kvs, rfl, rfl, h, w_chg h (fun z => z) fun H' e _ => k H' e⟩
end
end Zk

set_option Elab.async false
set_option linter.all false
set_option maxRecDepth 100000
set_option maxHeartbeats 4000000
namespace Zk
open PySem PySem.Spec L2
open PyProof.Rows hiding St

/-! ### texts of plain signs -/
def Sg (z : Str) : Prop := ∀ c ∈ z.cps.toList, c < 128
theorem Sg.ok {z : Str} (h : Sg z) : PyData.strOk z = true := by
  unfold PyData.strOk
  rw [Array.all_eq_true']
  intro c hc
  have := h c (by simpa using hc)
  simp only [decide_eq_true_eq]
  omega
theorem Sg.app {a b : Str} (ha : Sg a) (hb : Sg b) : Sg (a ++ b) := fun c hc => by
  have e : (a ++ b).cps.toList = a.cps.toList ++ b.cps.toList := by
    show (a.cps ++ b.cps).toList = _
    simp
  rw [e, List.mem_append] at hc
  exact hc.elim (ha c) (hb c)
theorem Sg.one {c : Nat} (h : c < 128) : Sg ⟨#[c]⟩ := fun d hd => by
  have : d = c := by simpa using hd
  omega
theorem Sg.empty : Sg Str.empty := fun c hc => by simp [Str.empty] at hc
theorem Sg.join {sep : Str} (h0 : Sg sep) : ∀ {ys : List Str}, (∀ y ∈ ys, Sg y) → Sg (Txt.join sep ys) := by
  intro ys h
  show Sg (Builtin.Str.glued sep ys)
  rw [StrLaws.glued_eq_join]
  induction ys with
  | nil => exact Sg.empty
  | cons x r ih =>
    cases r with
    | nil => exact h x List.mem_cons_self
    | cons y r => exact ((h x List.mem_cons_self).app h0).app (ih fun z m => h z (List.mem_cons_of_mem _ m))
theorem Sg.mul {x : Str} (h : Sg x) (n : Int) : Sg (Txt.mul x n) := by
  unfold Txt.mul
  split
  · exact Sg.empty
  · split
    · exact h
    · have g : ∀ (k : Nat) (acc : Array Nat), (∀ c ∈ acc.toList, c < 128) → ∀ c ∈ ((List.replicate k x.cps).foldl (· ++ ·) acc).toList, c < 128 := by
        intro k
        induction k with
        | zero => intro acc ha; exact ha
        | succ k ih =>
          intro acc ha
          rw [List.replicate_succ, List.foldl_cons]
          refine ih _ fun c hc => ?_
          rw [Array.toList_append, List.mem_append] at hc
          exact hc.elim (ha c) (h c)
      exact g _ _ fun c hc => by simp at hc

/-! ### contents of slots -/
def Cell : Nat → PyData → Prop
  | 0, d => d = .none ∨ ∃ n, d = .int n
  | 1, d => d = .none ∨ ∃ z, Sg z ∧ d = .str z
  | 2, d => d = .none ∨ ∃ b, d = .bool b
  | 3, d => d = .none ∨ ∃ n m, d = .tuple [.str "sealed", .str "int", .int n, .int m]
  | _, _ => False
def Cells : Nat → List PyData → Prop
  | _, [] => True
  | i, d :: ds => Cell i d ∧ Cells (i + 1) ds
def Cont (d : PyData) : Prop := (∃ a b cs, Cells 0 cs ∧ d = .tuple [.str "row", .int a, .int b, .tuple cs]) ∨ (∃ n, d = .tuple [.str "closed", .int n]) ∨ ∃ a b k c, d = .tuple [.str "shelf", .int a, .int b, .bool k, .int c]
theorem Cell.eqv : ∀ {i : Nat} {d e : PyData}, Cell i d → Cell i e → (PyData.eqv d e = true ↔ d = e)
  | 0, d, e, h, k => by
    rcases h with rfl | ⟨n, rfl⟩ <;> rcases k with rfl | ⟨m, rfl⟩ <;> simp [PyData.eqv]
  | 1, d, e, h, k => by
    rcases h with rfl | ⟨n, _, rfl⟩ <;> rcases k with rfl | ⟨m, _, rfl⟩ <;> simp [PyData.eqv]
  | 2, d, e, h, k => by
    rcases h with rfl | ⟨n, rfl⟩ <;> rcases k with rfl | ⟨m, rfl⟩ <;> simp [PyData.eqv]
  | 3, d, e, h, k => by
    rcases h with rfl | ⟨n, m, rfl⟩ <;> rcases k with rfl | ⟨n', m', rfl⟩ <;> simp [PyData.eqv, PyData.eqvAll]
  | _ + 4, d, e, h, k => h.elim
theorem Cells.eqv : ∀ {i : Nat} {ds es : List PyData}, Cells i ds → Cells i es → (PyData.eqvAll ds es = true ↔ ds = es)
  | _, [], [], _, _ => by simp [PyData.eqvAll]
  | _, [], _ :: _, _, _ => by simp [PyData.eqvAll]
  | _, _ :: _, [], _, _ => by simp [PyData.eqvAll]
  | i, d :: ds, e :: es, h, k => by
    rw [PyData.eqvAll, Bool.and_eq_true, Cell.eqv h.1 k.1, Cells.eqv h.2 k.2, List.cons.injEq]
theorem Cont.eqv {d e : PyData} (h : Cont d) (k : Cont e) : PyData.eqv d e = true ↔ d = e := by
  rcases h with ⟨a, b, cs, hc, rfl⟩ | ⟨n, rfl⟩ | ⟨a, b, f, c, rfl⟩ <;> rcases k with ⟨a', b', cs', hc', rfl⟩ | ⟨n', rfl⟩ | ⟨a', b', f', c', rfl⟩
  · simp only [PyData.eqv, PyData.eqvAll, Bool.and_eq_true, Cells.eqv hc hc']
    simp
  all_goals simp [PyData.eqv, PyData.eqvAll]
theorem Cell.lay : ∀ {i : Nat} {d : PyData}, Cell i d → d.canLay0 = true ∧ d.depth ≤ 1
  | 0, d, h => by
    rcases h with rfl | ⟨n, rfl⟩ <;> simp [PyData.canLay0, PyData.depth]
  | 1, d, h => by
    rcases h with rfl | ⟨n, hn, rfl⟩
    · simp [PyData.canLay0, PyData.depth]
    · have := hn.ok
      simp [PyData.canLay0, PyData.depth]
      exact this
  | 2, d, h => by
    rcases h with rfl | ⟨n, rfl⟩ <;> simp [PyData.canLay0, PyData.depth]
  | 3, d, h => by
    rcases h with rfl | ⟨n, m, rfl⟩
    · simp [PyData.canLay0, PyData.depth]
    · simp [PyData.canLay0, PyData.canLayAll0, PyData.depth, PyData.depthAll]
      decide +kernel
  | _ + 4, d, h => h.elim
theorem Cells.lay : ∀ {i : Nat} {ds : List PyData}, Cells i ds → PyData.canLayAll0 ds = true ∧ PyData.depthAll ds ≤ 1
  | _, [], _ => by simp [PyData.canLayAll0, PyData.depthAll]
  | i, d :: ds, h => by
    obtain ⟨a1, a2⟩ := Cell.lay h.1
    obtain ⟨b1, b2⟩ := Cells.lay h.2
    rw [PyData.canLayAll0, PyData.depthAll, a1, b1]
    exact ⟨rfl, Nat.max_le.mpr ⟨a2, b2⟩⟩
theorem Cont.lay {d : PyData} (h : Cont d) : d.canLay0 = true ∧ d.depth ≤ 3 := by
  rcases h with ⟨a, b, cs, hc, rfl⟩ | ⟨n, rfl⟩ | ⟨a, b, f, c, rfl⟩
  · obtain ⟨b1, b2⟩ := Cells.lay hc
    simp only [PyData.canLay0, PyData.canLayAll0, PyData.depth, PyData.depthAll, b1]
    refine ⟨by decide +kernel, ?_⟩
    omega
  · simp [PyData.canLay0, PyData.canLayAll0, PyData.depth, PyData.depthAll]; decide +kernel
  · simp [PyData.canLay0, PyData.canLayAll0, PyData.depth, PyData.depthAll]; decide +kernel
/-- what a slot holds, None where it holds nothing -/
def oD (x : Option PyData) : PyData := x.getD .none
def OCt (x : Option PyData) : Prop := ∀ d, x = some d → Cont d
theorem Cont.ne_none {d : PyData} (h : Cont d) : d ≠ .none := by
  rcases h with ⟨a, b, cs, hc, rfl⟩ | ⟨n, rfl⟩ | ⟨a, b, f, c, rfl⟩ <;> exact fun z => nomatch z
theorem OCt.eqv {x y : Option PyData} (h : OCt x) (k : OCt y) : PyData.eqv (oD x) (oD y) = true ↔ x = y := by
  cases x with
  | none => cases y with
    | none => simp [oD, PyData.eqv]
    | some e =>
      have := k e rfl
      rcases this with ⟨a, b, cs, hc, rfl⟩ | ⟨n, rfl⟩ | ⟨a, b, f, c, rfl⟩ <;> simp [oD, PyData.eqv]
  | some d => cases y with
    | none =>
      have := h d rfl
      rcases this with ⟨a, b, cs, hc, rfl⟩ | ⟨n, rfl⟩ | ⟨a, b, f, c, rfl⟩ <;> simp [oD, PyData.eqv]
    | some e =>
      show PyData.eqv d e = true ↔ _
      rw [Cont.eqv (h d rfl) (k e rfl), Option.some.injEq]
theorem OCt.shaped {x : Option PyData} (h : OCt x) : SeqAt.shaped (oD x) = true := by
  unfold SeqAt.shaped
  cases x with
  | none => simp [oD, PyData.canLay0, PyData.depth]
  | some d =>
    obtain ⟨a, b⟩ := (h d rfl).lay
    show (d.canLay0 && decide (d.depth ≤ 64)) = true
    rw [a, decide_eq_true (by omega)]; rfl
theorem OCt.depth {x : Option PyData} (h : OCt x) : (oD x).depth ≤ 3 := by
  cases x with
  | none => simp [oD, PyData.depth]
  | some d => exact (h d rfl).lay.2
theorem OCt.non {x : Option PyData} (h : OCt x) {H : Hp} {v : V} (i : Im H v (oD x)) : v = .non ↔ x = none := by
  cases x with
  | none => cases i; simp
  | some d =>
    refine ⟨fun z => ?_, fun z => nomatch z⟩
    subst z
    have := (h d rfl).ne_none
    change Im H .non d at i
    cases i
    exact absurd rfl this
theorem OCt.inj {x y : Option PyData} (h : OCt x) (k : OCt y) (e : oD x = oD y) : x = y := by
  cases x with
  | none => cases y with
    | none => rfl
    | some e' => exact absurd e.symm (k e' rfl).ne_none
  | some d => cases y with
    | none => exact absurd e (h d rfl).ne_none
    | some e' => exact congrArg some e
/-! ### differences -/
open Classical in
noncomputable def btw (x y : Option PyData) : Option PyData := if x = y then none else some (.tuple [oD x, oD y])
theorem btw_eq {x y : Option PyData} (h : x = y) : btw x y = none := if_pos h
theorem btw_ne {x y : Option PyData} (h : x ≠ y) : btw x y = some (.tuple [oD x, oD y]) := if_neg h
theorem btw_none {x y : Option PyData} (h : btw x y = none) : x = y := Classical.byContradiction fun z => by rw [btw_ne z] at h; cases h
theorem btw_some {x y : Option PyData} {d : PyData} (h : btw x y = some d) : x ≠ y ∧ d = .tuple [oD x, oD y] := by
  by_cases z : x = y
  · rw [btw_eq z] at h; cases h
  · rw [btw_ne z] at h; exact ⟨z, (Option.some.inj h).symm⟩
noncomputable def btwF (f g : Fd) : Fd := fun s => btw (f s) (g s)
def Stt (f : Fd) : Prop := ∀ s, OCt (f s)
theorem btw_depth {x y : Option PyData} {d : PyData} (h : OCt x) (k : OCt y) (e : btw x y = some d) : d.depth ≤ 4 := by
  obtain ⟨_, rfl⟩ := btw_some e
  have a := h.depth
  have b := k.depth
  simp only [PyData.depth, PyData.depthAll]
  omega
theorem stt_none : Stt fun _ => none := fun _ _ h => nomatch h
theorem stt_put {f : Fd} {s : Slot} {d : PyData} (h : Stt f) (c : Cont d) : Stt (putF f s d) := fun t e q => by
  unfold putF at q
  by_cases z : t = s
  · rw [if_pos z] at q; cases q; exact c
  · rw [if_neg z] at q; exact h t e q
/-- what of F is worked out for the slots of l -/
def resF (l : List Slot) (F : Fd) : Fd := fun s => if s ∈ l then F s else none
theorem resF_nil {F : Fd} : resF [] F = fun _ => none := by funext s; exact if_neg (fun z => nomatch z)
theorem resF_put {l : List Slot} {F : Fd} {s : Slot} {d : PyData} (h : F s = some d) : putF (resF l F) s d = resF (l ++ [s]) F := by
  funext t
  unfold putF resF
  by_cases e : t = s
  · subst e
    rw [if_pos rfl, if_pos (List.mem_append.mpr (.inr (List.mem_singleton.mpr rfl))), h]
  · rw [if_neg e]
    by_cases m : t ∈ l
    · rw [if_pos m, if_pos (List.mem_append.mpr (.inl m))]
    · rw [if_neg m, if_neg (fun z => (List.mem_append.mp z).elim m fun q => e (List.mem_singleton.mp q))]
theorem resF_skip {l : List Slot} {F : Fd} {s : Slot} (h : F s = none) : resF (l ++ [s]) F = resF l F := by
  funext t
  unfold resF
  by_cases e : t = s
  · subst e
    rw [h, ite_self, ite_self]
  · by_cases m : t ∈ l
    · rw [if_pos m, if_pos (List.mem_append.mpr (.inl m))]
    · rw [if_neg m, if_neg (fun z => (List.mem_append.mp z).elim m fun q => e (List.mem_singleton.mp q))]
theorem resF_all {l : List Slot} {F : Fd} (h : ∀ s, s ∉ l → F s = none) : resF l F = F := by
  funext s
  unfold resF
  by_cases m : s ∈ l
  · rw [if_pos m]
  · rw [if_neg m, h s m]
theorem take_snoc {α : Type} {l : List α} {i : Nat} {x : α} (h : l[i]? = some x) : l.take (i + 1) = l.take i ++ [x] := by rw [List.take_add_one, h]; rfl
theorem room65 {k : Nat} {A : Around} (r : Room k A) : A.units + 65 < cLine := by have := r.un; omega
end Zk

set_option Elab.async false
set_option linter.all false
set_option maxRecDepth 100000
set_option maxHeartbeats 8000000
namespace Law
open PySem PySem.Spec L2 Zk
open PyProof.Rows hiding St
local macro_rules | `(tactic| walk_at "ne") => `(tactic| first
  | assumption
  | exact Ne.symm (by assumption)
  | (refine ne_of_none (H := ?zg) (o := ?zo) ?zh ?zn; (case zn => assumption); (case zh => walk_at "hold"))
  | (refine Ne.symm (ne_of_none (H := ?zg) (o := ?zo) ?zh ?zn); (case zn => assumption); (case zh => walk_at "hold")))
local macro_rules | `(tactic| walk_at "nm") => `(tactic| first
  | exact List.not_mem_nil
  | (refine nm1 ?_; walk_at "ne")
  | (refine nm2 ?_ ?_ <;> walk_at "ne")
  | assumption)
local macro_rules | `(tactic| walk_at "hold") => `(tactic| first
  | assumption
  | (refine Ext.get (M := ?em) (H := ?eg) ?ek ?eh ?en; (case ek => assumption); (case eh => walk_at "hold"); (case en => first | exact Or.inr trivial | (refine Or.inl ?_; walk_at "nm")))
  | (refine sql ?_; walk_at "hold")
  | (refine sqt ?_; walk_at "hold")
  | (refine Scr.ext (M := ?em) (H := ?eg) ?ek ?eh; (case ek => assumption); (case eh => walk_at "hold"))
  | (refine Scr.sql ?_; walk_at "hold"))
local macro_rules | `(tactic| walk_at "go1") => `(tactic| first
  | (with_reducible refine w_seq ?_)
  | (with_reducible refine w_asg ?_)
  | (with_reducible refine w_gname ?_)
  | (with_reducible refine w_op ?_)
  | ((with_reducible refine w_var (v := ?zw) ?zv ?_); (case zv => exact rfl))
  | (with_reducible refine w_c ?_)
  | (with_reducible refine w_I0 ?_)
  | (with_reducible refine w_test ?_)
  | (with_reducible refine w_bl ?_)
  | (with_reducible refine w_eqI ?_)
  | (with_reducible refine w_neI ?_)
  | (with_reducible refine w_cb ?_)
  | (with_reducible refine w_cons ?_)
  | (with_reducible refine w_nil ?_)
  | (with_reducible refine w_int ?_)
  | (with_reducible refine w_call ?_)
  | (with_reducible refine w_ret ?_)
  | ((with_reducible refine w_I ?zc ?_); (case zc => first | exact Or.inr ⟨by decide, by decide⟩ | exact Or.inl ⟨by decide, by decide⟩ | (show (0 : Int) < _; first | decide | omega) | exact ⟨by decide, by decide⟩ | (show CPow _ _; exact ⟨by decide, by decide, by decide⟩) | (refine wide_mul (a := 200) (b := 200) ?_ ?_ (by decide) (by decide) (by decide) <;> omega)))
  | ((with_reducible refine w_ixL (xs := ?zx) (v := ?zw) ?zh ?ze ?_); (case zh => walk_at "hold"); (case ze => first | exact rfl | assumption))
  | ((with_reducible refine w_ixT (xs := ?zx) (v := ?zw) ?zh ?ze ?_); (case zh => walk_at "hold"); (case ze => first | exact rfl | assumption))
  | ((with_reducible refine w_lenL (xs := ?zx) ?zh ?_); (case zh => walk_at "hold"))
  | ((with_reducible refine w_lenT (xs := ?zx) ?zh ?_); (case zh => walk_at "hold"))
  | ((with_reducible refine w_lenD (kvs := ?zx) ?zh ?_); (case zh => walk_at "hold"))
  | (with_reducible refine w_gsub ?_)
  | ((with_reducible refine w_setL (xs := ?zx) (j := ?zj) ?zh ?ze ?_); (case zh => walk_at "hold"); (case ze => first | exact rfl | assumption))
  | (with_reducible refine w_and ?_)
  | (with_reducible refine w_or ?_)
  | (with_reducible refine w_not ?_)
  | (with_reducible refine w_tB ?_)
  | (with_reducible refine w_andV ?_)
  | (with_reducible refine w_orV ?_)
  | (with_reducible refine w_notV ?_)
  | (with_reducible refine w_next ?_)
  | (with_reducible refine w_drop ?_)
  | (with_reducible refine w_retN ?_)
  | (with_reducible refine w_tup ?_)
  | (with_reducible refine w_lst ?_)
  | (with_reducible refine w_un ?_)
  | (with_reducible refine w_rU ?_)
  | (with_reducible refine w_eqS ?_)
  | (with_reducible refine w_neS ?_)
  | (with_reducible refine w_isN ?_)
  | (with_reducible refine w_isNt ?_)
  | (with_reducible refine w_isB ?_)
  | (with_reducible refine w_ltS ?_)
  | (with_reducible refine w_dnewK ?_)
  | (with_reducible refine w_dnewT ?_)
  | (with_reducible refine w_break ?_)
  | (with_reducible refine w_cont ?_)
  | (with_reducible refine w_dget ?_)
  | (with_reducible refine w_din ?_)
  | (with_reducible refine w_dnotin ?_)
  | (with_reducible refine w_yes ?_)
  | (with_reducible refine w_m1 ?_)
  | (with_reducible refine w_gcons ?_)
  | (with_reducible refine w_gnil ?_)
  | (with_reducible refine w_sdput ?_)
  | ((with_reducible refine w_gtup (xs := ?zx) ?zh ?zl ?_); (case zh => walk_at "hold"); (case zl => exact rfl))
  | (with_reducible refine w_bm ?_)
  | (with_reducible refine w_bm0 ?_)
  | ((with_reducible refine w_tyL (xs := ?zx) ?zh ?_); (case zh => walk_at "hold"))
  | (with_reducible refine w_lc ?_)
  | (with_reducible refine w_for ?_)
  | (with_reducible refine w_str ?_)
  | (with_reducible refine w_iList ?_)
  | (with_reducible refine w_iTup ?_)
  | (with_reducible refine w_iRng1 ?_)
  | (with_reducible refine w_iRng2 ?_)
  | (with_reducible refine w_iStr ?_)
  | (with_reducible refine iteT ?_)
  | (with_reducible refine iteF ?_)
  | (with_reducible refine iteNF ?_)
  | (with_reducible refine iteNT ?_))
local macro_rules | `(tactic| walk_at "go") => `(tactic| repeat walk_at "go1")
local macro_rules | `(tactic| walk_at "goa") => `(tactic| repeat (first
  | ((with_reducible refine w_modA ?zc ?_); (case zc => first | decide | omega); (intro r r0 r1))
  | walk_at "go1"))
local macro_rules | `(tactic| walk_at "if") => `(tactic| ((with_reducible refine w_ifS ?_); walk_at "go"))
local macro_rules | `(tactic| walk_at "ife") => `(tactic| ((with_reducible refine w_if ?_); walk_at "go"))
def topS (i : Nat) : Stmt := PySem.Challenge.pw_storelife_k25_differences_are_a_groupoid.main.body.getD i (.Pass ⟨0, 0, 0, 0⟩)
abbrev s_slots_of_both : Stmt := topS 4
theorem sc_slots_of_both : FnScope ["one", "other", "slot"] ["one", "other"] (defScope s_slots_of_both) := ⟨rfl, rfl, rfl, by decide +kernel, rfl, by decide +kernel, by decide +kernel⟩
abbrev s_between : Stmt := topS 5
theorem sc_between : FnScope ["before", "after", "found", "slot", "pair"] ["before", "after"] (defScope s_between) := ⟨rfl, rfl, rfl, by decide +kernel, rfl, by decide +kernel, by decide +kernel⟩
abbrev s_applied : Stmt := topS 6
theorem sc_applied : FnScope ["slots", "difference", "slot", "found", "held"] ["slots", "difference"] (defScope s_applied) := ⟨rfl, rfl, rfl, by decide +kernel, rfl, by decide +kernel, by decide +kernel⟩
abbrev s_composed : Stmt := topS 7
theorem sc_composed : FnScope ["one", "other", "slot", "found", "before", "after"] ["one", "other"] (defScope s_composed) := ⟨rfl, rfl, rfl, by decide +kernel, rfl, by decide +kernel, by decide +kernel⟩
abbrev s_inverted : Stmt := topS 8
theorem sc_inverted : FnScope ["difference", "slot"] ["difference"] (defScope s_inverted) := ⟨rfl, rfl, rfl, by decide +kernel, rfl, by decide +kernel, by decide +kernel⟩
abbrev s_law_mixed : Stmt := topS 10
theorem sc_law_mixed : FnScope ["number", "place", "first", "second", "third"] ["number", "place"] (defScope s_law_mixed) := ⟨rfl, rfl, rfl, by decide +kernel, rfl, by decide +kernel, by decide +kernel⟩
abbrev s_law_rest : Stmt := topS 11
theorem sc_law_rest : FnScope ["script", "place", "fills", "number"] ["script", "place", "fills"] (defScope s_law_rest) := ⟨rfl, rfl, rfl, by decide +kernel, rfl, by decide +kernel, by decide +kernel⟩
abbrev s_law_pool : Stmt := topS 12
theorem sc_law_pool : FnScope ["script"] ["script"] (defScope s_law_pool) := ⟨rfl, rfl, rfl, by decide +kernel, rfl, by decide +kernel, by decide +kernel⟩
abbrev s_law_next : Stmt := topS 13
theorem sc_law_next : FnScope ["pool"] ["pool"] (defScope s_law_next) := ⟨rfl, rfl, rfl, by decide +kernel, rfl, by decide +kernel, by decide +kernel⟩
abbrev s_law_draw : Stmt := topS 14
theorem sc_law_draw : FnScope ["pool", "limit", "value"] ["pool", "limit"] (defScope s_law_draw) := ⟨rfl, rfl, rfl, by decide +kernel, rfl, by decide +kernel, by decide +kernel⟩
abbrev s_law_pick : Stmt := topS 15
theorem sc_law_pick : FnScope ["pool", "options"] ["pool", "options"] (defScope s_law_pick) := ⟨rfl, rfl, rfl, by decide +kernel, rfl, by decide +kernel, by decide +kernel⟩
abbrev s_law_same : Stmt := topS 16
theorem sc_law_same : FnScope ["one", "other", "key", "k"] ["one", "other"] (defScope s_law_same) := ⟨rfl, rfl, rfl, by decide +kernel, rfl, by decide +kernel, by decide +kernel⟩
abbrev s_law_name : Stmt := topS 17
theorem sc_law_name : FnScope ["pool", "signs", "first", "k"] ["pool"] (defScope s_law_name) := ⟨rfl, rfl, rfl, by decide +kernel, rfl, by decide +kernel, by decide +kernel⟩
abbrev s_law_cells : Stmt := topS 18
theorem sc_law_cells : FnScope ["pool", "cells", "k"] ["pool"] (defScope s_law_cells) := ⟨rfl, rfl, rfl, by decide +kernel, rfl, by decide +kernel, by decide +kernel⟩
abbrev s_law_content : Stmt := topS 19
theorem sc_law_content : FnScope ["pool", "slot"] ["pool", "slot"] (defScope s_law_content) := ⟨rfl, rfl, rfl, by decide +kernel, rfl, by decide +kernel, by decide +kernel⟩
abbrev s_law_universe : Stmt := topS 20
theorem sc_law_universe : FnScope ["pool", "many", "k", "names", "found", "slot"] ["pool", "many"] (defScope s_law_universe) := ⟨rfl, rfl, rfl, by decide +kernel, rfl, by decide +kernel, by decide +kernel⟩
abbrev s_law_copy : Stmt := topS 21
theorem sc_law_copy : FnScope ["row", "found", "key"] ["row"] (defScope s_law_copy) := ⟨rfl, rfl, rfl, by decide +kernel, rfl, by decide +kernel, by decide +kernel⟩
abbrev s_law_without : Stmt := topS 22
theorem sc_law_without : FnScope ["row", "gone", "found", "key"] ["row", "gone"] (defScope s_law_without) := ⟨rfl, rfl, rfl, by decide +kernel, rfl, by decide +kernel, by decide +kernel⟩
abbrev s_law_moved : Stmt := topS 23
theorem sc_law_moved : FnScope ["pool", "slots", "state", "most", "found", "k", "slot"] ["pool", "slots", "state", "most"] (defScope s_law_moved) := ⟨rfl, rfl, rfl, by decide +kernel, rfl, by decide +kernel, by decide +kernel⟩
abbrev s_law_between : Stmt := topS 24
theorem sc_law_between : FnScope ["one", "other", "found", "slot"] ["one", "other"] (defScope s_law_between) := ⟨rfl, rfl, rfl, by decide +kernel, rfl, by decide +kernel, by decide +kernel⟩
abbrev s_law_states : Stmt := topS 25
theorem sc_law_states : FnScope ["pool", "slots", "wide", "states", "state", "k", "key"] ["pool"] (defScope s_law_states) := ⟨rfl, rfl, rfl, by decide +kernel, rfl, by decide +kernel, by decide +kernel⟩
abbrev s_law_whole : Stmt := topS 26
theorem sc_law_whole : FnScope ["states", "kept", "k", "steps", "back", "due", "state"] ["states"] (defScope s_law_whole) := ⟨rfl, rfl, rfl, by decide +kernel, rfl, by decide +kernel, by decide +kernel⟩
abbrev s_law : Stmt := topS 27
theorem sc_law : FnScope ["script", "pool", "states", "told", "after"] ["script"] (defScope s_law) := ⟨rfl, rfl, rfl, by decide +kernel, rfl, by decide +kernel, by decide +kernel⟩
structure Txt (K : PySem.W.Frag) (mg : Str → Option Value) where
  f_slots_of_both : Addr
  d_slots_of_both : FuncData
  F_slots_of_both : L2.Fun K "slots_of_both" "slots_of_both" s_slots_of_both f_slots_of_both d_slots_of_both
  g_slots_of_both : mg "slots_of_both" = some (.ref f_slots_of_both)
  k_slots_of_both : Binds K d_slots_of_both ["one", "other"] []
  f_between : Addr
  d_between : FuncData
  F_between : L2.Fun K "between" "between" s_between f_between d_between
  g_between : mg "between" = some (.ref f_between)
  k_between : Binds K d_between ["before", "after"] []
  f_applied : Addr
  d_applied : FuncData
  F_applied : L2.Fun K "applied" "applied" s_applied f_applied d_applied
  g_applied : mg "applied" = some (.ref f_applied)
  k_applied : Binds K d_applied ["slots", "difference"] []
  f_composed : Addr
  d_composed : FuncData
  F_composed : L2.Fun K "composed" "composed" s_composed f_composed d_composed
  g_composed : mg "composed" = some (.ref f_composed)
  k_composed : Binds K d_composed ["one", "other"] []
  f_inverted : Addr
  d_inverted : FuncData
  F_inverted : L2.Fun K "inverted" "inverted" s_inverted f_inverted d_inverted
  g_inverted : mg "inverted" = some (.ref f_inverted)
  k_inverted : Binds K d_inverted ["difference"] []
  f__law_mixed : Addr
  d__law_mixed : FuncData
  F__law_mixed : L2.Fun K "_law_mixed" "_law_mixed" s_law_mixed f__law_mixed d__law_mixed
  g__law_mixed : mg "_law_mixed" = some (.ref f__law_mixed)
  k__law_mixed : Binds K d__law_mixed ["number", "place"] []
  f__law_rest : Addr
  d__law_rest : FuncData
  F__law_rest : L2.Fun K "_law_rest" "_law_rest" s_law_rest f__law_rest d__law_rest
  g__law_rest : mg "_law_rest" = some (.ref f__law_rest)
  k__law_rest : Binds K d__law_rest ["script", "place", "fills"] []
  f__law_pool : Addr
  d__law_pool : FuncData
  F__law_pool : L2.Fun K "_law_pool" "_law_pool" s_law_pool f__law_pool d__law_pool
  g__law_pool : mg "_law_pool" = some (.ref f__law_pool)
  k__law_pool : Binds K d__law_pool ["script"] []
  f__law_next : Addr
  d__law_next : FuncData
  F__law_next : L2.Fun K "_law_next" "_law_next" s_law_next f__law_next d__law_next
  g__law_next : mg "_law_next" = some (.ref f__law_next)
  k__law_next : Binds K d__law_next ["pool"] []
  f__law_draw : Addr
  d__law_draw : FuncData
  F__law_draw : L2.Fun K "_law_draw" "_law_draw" s_law_draw f__law_draw d__law_draw
  g__law_draw : mg "_law_draw" = some (.ref f__law_draw)
  k__law_draw : Binds K d__law_draw ["pool", "limit"] []
  f__law_pick : Addr
  d__law_pick : FuncData
  F__law_pick : L2.Fun K "_law_pick" "_law_pick" s_law_pick f__law_pick d__law_pick
  g__law_pick : mg "_law_pick" = some (.ref f__law_pick)
  k__law_pick : Binds K d__law_pick ["pool", "options"] []
  f__law_same : Addr
  d__law_same : FuncData
  F__law_same : L2.Fun K "_law_same" "_law_same" s_law_same f__law_same d__law_same
  g__law_same : mg "_law_same" = some (.ref f__law_same)
  k__law_same : Binds K d__law_same ["one", "other"] []
  f__law_name : Addr
  d__law_name : FuncData
  F__law_name : L2.Fun K "_law_name" "_law_name" s_law_name f__law_name d__law_name
  g__law_name : mg "_law_name" = some (.ref f__law_name)
  k__law_name : Binds K d__law_name ["pool"] []
  f__law_cells : Addr
  d__law_cells : FuncData
  F__law_cells : L2.Fun K "_law_cells" "_law_cells" s_law_cells f__law_cells d__law_cells
  g__law_cells : mg "_law_cells" = some (.ref f__law_cells)
  k__law_cells : Binds K d__law_cells ["pool"] []
  f__law_content : Addr
  d__law_content : FuncData
  F__law_content : L2.Fun K "_law_content" "_law_content" s_law_content f__law_content d__law_content
  g__law_content : mg "_law_content" = some (.ref f__law_content)
  k__law_content : Binds K d__law_content ["pool", "slot"] []
  f__law_universe : Addr
  d__law_universe : FuncData
  F__law_universe : L2.Fun K "_law_universe" "_law_universe" s_law_universe f__law_universe d__law_universe
  g__law_universe : mg "_law_universe" = some (.ref f__law_universe)
  k__law_universe : Binds K d__law_universe ["pool", "many"] []
  f__law_copy : Addr
  d__law_copy : FuncData
  F__law_copy : L2.Fun K "_law_copy" "_law_copy" s_law_copy f__law_copy d__law_copy
  g__law_copy : mg "_law_copy" = some (.ref f__law_copy)
  k__law_copy : Binds K d__law_copy ["row"] []
  f__law_without : Addr
  d__law_without : FuncData
  F__law_without : L2.Fun K "_law_without" "_law_without" s_law_without f__law_without d__law_without
  g__law_without : mg "_law_without" = some (.ref f__law_without)
  k__law_without : Binds K d__law_without ["row", "gone"] []
  f__law_moved : Addr
  d__law_moved : FuncData
  F__law_moved : L2.Fun K "_law_moved" "_law_moved" s_law_moved f__law_moved d__law_moved
  g__law_moved : mg "_law_moved" = some (.ref f__law_moved)
  k__law_moved : Binds K d__law_moved ["pool", "slots", "state", "most"] []
  f__law_between : Addr
  d__law_between : FuncData
  F__law_between : L2.Fun K "_law_between" "_law_between" s_law_between f__law_between d__law_between
  g__law_between : mg "_law_between" = some (.ref f__law_between)
  k__law_between : Binds K d__law_between ["one", "other"] []
  f__law_states : Addr
  d__law_states : FuncData
  F__law_states : L2.Fun K "_law_states" "_law_states" s_law_states f__law_states d__law_states
  g__law_states : mg "_law_states" = some (.ref f__law_states)
  k__law_states : Binds K d__law_states ["pool"] []
  f__law_whole : Addr
  d__law_whole : FuncData
  F__law_whole : L2.Fun K "_law_whole" "_law_whole" s_law_whole f__law_whole d__law_whole
  g__law_whole : mg "_law_whole" = some (.ref f__law_whole)
  k__law_whole : Binds K d__law_whole ["states"] []
  f_law : Addr
  d_law : FuncData
  F_law : L2.Fun K "law" "law" s_law f_law d_law
  g_law : mg "law" = some (.ref f_law)
  k_law : Binds K d_law ["script"] []
  b_bool : mg "bool" = none
  b_dict : mg "dict" = none
  b_int : mg "int" = none
  b_isinstance : mg "isinstance" = none
  b_len : mg "len" = none
  b_list : mg "list" = none
  b_range : mg "range" = none
  b_sorted : mg "sorted" = none
  b_str : mg "str" = none
  b_tuple : mg "tuple" = none
section
variable {P : Program} {w : World} {K : PySem.W.Frag} {mg : Str → Option Value} {base : Heap}

/-! ### the drawn numbers -/
def sp_law_mixed (K : PySem.W.Frag) : Sp := sp2 fun a b H Q => ∃ n p, a = .int n ∧ b = .int p ∧ ∀ v : Int, 0 ≤ v → Q (.int v) H
theorem ok_law_mixed (T : Txt K mg) : FnOk P w K mg base CX0 1 T.f__law_mixed T.d__law_mixed ["number", "place"] (sp_law_mixed K) := by
  refine T.F__law_mixed.ok sc_law_mixed len2 (fun cdv A outer s H vs Q E hr h => ?_)
  have nd := sc_law_mixed.nd
  have hu := hu_of hr
  obtain ⟨_, _, rfl, n, p, rfl, rfl, k⟩ := h
  refine ⟨_,
      (pss_cons (ps_set (i := 2) nd rfl (Or.inl rfl) (pe_op op_mod (pe_callTy zc_int (by rfl) T.b_int (by decide +kernel) (pa_cons (pe_op op_add (pe_op op_add (pe_op op_mul (pv 0) pe_int) (pe_op op_mul (pv 1) pe_int)) pe_int) pa_nil)) pe_int)) 
      (pss_cons (ps_set (i := 3) nd rfl (Or.inl rfl) (pe_op op_mod (pe_callTy zc_int (by rfl) T.b_int (by decide +kernel) (pa_cons (pe_op op_add (pe_op op_add (pe_op op_mulW (pv 2) (pv 2)) (pe_op op_mul pe_int (pv 2))) (pv 1)) pa_nil)) pe_int)) 
      (pss_cons (ps_set (i := 4) nd rfl (Or.inl rfl) (pe_op op_mod (pe_callTy zc_int (by rfl) T.b_int (by decide +kernel) (pa_cons (pe_op op_add (pe_op op_mulW (pv 3) (pv 3)) (pv 2)) pa_nil)) pe_int)) 
      (pss_one (ps_ret (pe_op op_add (pe_op op_mulW (pv 3) pe_int) (pv 4))))))), ?_⟩
  change (_ : TS) _ [some _, some _, none, none, none] _
  try dsimp only [cxOf, Cx.nox, Cx.wish]
  walk_at "goa"
  refine k _ ?_
  omega
def sp_law_rest (K : PySem.W.Frag) : Sp := sp3 fun a b c H Q => ∃ (sc : Addr) (ns : List Int) (p f : Int), a = .ref sc ∧ b = .int p ∧ c = .int f ∧ Scr K H sc (ns.map V.int) ∧ ∀ v : Int, 0 ≤ v → Q (.int v) H
theorem ok_law_rest (T : Txt K mg) : FnOk P w K mg base CX0 2 T.f__law_rest T.d__law_rest ["script", "place", "fills"] (sp_law_rest K) := by
  refine T.F__law_rest.ok sc_law_rest len3 (fun cdv A outer s H vs Q E hr h => ?_)
  have nd := sc_law_rest.nd
  have hu := hu_of hr
  obtain ⟨_, _, _, rfl, sc, ns, p, f, rfl, rfl, rfl, hS, k⟩ := h
  refine ⟨_,
      (pss_cons (ps_set (i := 3) nd rfl (Or.inl rfl) pe_int) 
      (pss_cons (ps_if (pt_cmpR op_gt (pe_callB zc_len (by rfl) T.b_len (by decide +kernel) (pa_cons (pv 0) pa_nil)) pe_int (nomark _)) 
        (pss_one (ps_set (i := 3) nd rfl (Or.inl rfl) (pe_callTy zc_int (by rfl) T.b_int (by decide +kernel) (pa_cons (pe_ix ix_list (pv 0) (pe_op op_mod (pe_callTy zc_int (by rfl) T.b_int (by decide +kernel) (pa_cons (pv 1) pa_nil)) (pe_callB zc_len (by rfl) T.b_len (by decide +kernel) (pa_cons (pv 0) pa_nil))) (fun _ _ => rfl)) pa_nil)))) pss_nil) 
      (pss_cons (ps_if (pt_cmpR op_lt (pv 3) pe_int (nomark _)) 
        (pss_one (ps_set (i := 3) nd rfl (Or.inl rfl) (pe_op op_sub pe_int (pe_op op_mul pe_int (pv 3))))) pss_nil) 
      (pss_cons (ps_if (PW.pt (pw_and (pt_cmpR op_eq (pv 2) pe_int (nomark _)) (pw_and (pt_cmpR op_lt (pv 1) (pe_callB zc_len (by rfl) T.b_len (by decide +kernel) (pa_cons (pv 0) pa_nil)) (nomark _)) (pw_and1 (pt_cmpR op_ge (pv 3) (pe_op op_pow pe_int pe_int) (nomark _)))))) 
        (pss_one (ps_ret (pe_op op_sub (pv 3) (pe_op op_pow pe_int pe_int)))) pss_nil) 
      (pss_one (ps_ret (pe_call (ok_law_mixed T) (hr.mono (by decide)) (by rfl) T.g__law_mixed T.F__law_mixed.kp T.k__law_mixed .nil pass0 (pa_cons (pe_op op_add (pv 3) (pe_op op_mul (pv 2) pe_int)) (pa_cons (pv 1) pa_nil))))))))), ?_⟩
  change (_ : TS) _ [some _, some _, some _, none] _
  try dsimp only [cxOf, Cx.nox, Cx.wish]
  have hS2 := hS.sql
  walk_at "go"
  refine w_cut (fun σ' H' => H = H' ∧ ∃ n : Int, σ' = [some (V.ref sc), some (V.int p), some (V.int f), some (V.int n)]) ?_ fun nx hn => ?_
  · rintro _ _ ⟨rfl, n, rfl⟩
    walk_at "go"
    refine w_cut (fun σ' H' => H = H' ∧ ∃ n : Int, 0 ≤ n ∧ σ' = [some (V.ref sc), some (V.int p), some (V.int f), some (V.int n)]) ?_ fun nx hn => ?_
    · rintro _ _ ⟨rfl, n, n0, rfl⟩
      walk_at "go"
      refine w_cut (fun σ' H' => H = H' ∧ σ' = [some (V.ref sc), some (V.int p), some (V.int f), some (V.int n)]) ?_ fun nx hn => ?_
      · rintro _ _ ⟨rfl, rfl⟩
        walk_at "go"
        exact w_sp2 ⟨_, _, rfl, rfl, k⟩
      · walk_at "if"
        refine w_d (fun h => ?_) fun h => ?_ <;> walk_at "go"
        · refine w_d (fun h => ?_) fun h => ?_ <;> walk_at "go"
          · refine w_d (fun h => ?_) fun h => ?_ <;> walk_at "go"
            · exact k _ (by omega)
            · exact hn _ _ ⟨rfl, rfl⟩
          · exact hn _ _ ⟨rfl, rfl⟩
        · exact hn _ _ ⟨rfl, rfl⟩
    · walk_at "if"
      refine w_d (fun h => ?_) fun h => ?_ <;> walk_at "go"
      · exact hn _ _ ⟨rfl, _, by omega, rfl⟩
      · exact hn _ _ ⟨rfl, _, by omega, rfl⟩
  · walk_at "if"
    refine w_d (fun h => ?_) fun h => ?_
    · walk_at "goa"
      rename_i r r0 r1
      rw [List.length_map] at r1
      obtain ⟨z, _, hz⟩ := at_map (f := V.int) r0 r1
      refine w_ixL hS2 hz ?_
      walk_at "go"
      exact hn _ _ ⟨rfl, _, rfl⟩
    · walk_at "go"
      exact hn _ _ ⟨rfl, _, rfl⟩
/-- the pool: the script, a place, what is left of the number, how often it was filled -/
def PoolAt (K : PySem.W.Frag) (H : Hp) (p : Addr) : Prop := ∃ (sc : Addr) (ns : List Int) (pl re fi : Int), H p = some (.lst [.ref sc, .int pl, .int re, .int fi]) ∧ Scr K H sc (ns.map V.int) ∧ 0 ≤ re
theorem PoolAt.ext {M : List Addr} {H H' : Hp} {p : Addr} (e : Ext M H H') (h : PoolAt K H p) (n : p ∉ M) : PoolAt K H' p := by
  obtain ⟨sc, ns, pl, re, fi, h1, h2, h3⟩ := h
  exact ⟨sc, ns, pl, re, fi, e.keep _ _ h1 n, h2.ext e, h3⟩
theorem PoolAt.ne {H : Hp} {p q : Addr} (h : PoolAt K H p) (n : H q = none) : p ≠ q := by
  obtain ⟨sc, ns, pl, re, fi, h1, h2, h3⟩ := h
  exact ne_of_none h1 n
def sp_law_pool (K : PySem.W.Frag) : Sp := sp1 fun a H Q => ∃ (sc : Addr) (ns : List Int), a = .ref sc ∧ Scr K H sc (ns.map V.int) ∧ ∀ p H', Ext [] H H' → H p = none → PoolAt K H' p → Q (.ref p) H'
theorem ok_law_pool (T : Txt K mg) : FnOk P w K mg base CX0 3 T.f__law_pool T.d__law_pool ["script"] (sp_law_pool K) := by
  refine T.F__law_pool.ok sc_law_pool len1 (fun cdv A outer s H vs Q E hr h => ?_)
  have nd := sc_law_pool.nd
  have hu := hu_of hr
  obtain ⟨_, rfl, sc, ns, rfl, hS, k⟩ := h
  refine ⟨_,
      (pss_one (ps_ret (pe_lstZ (pa_cons (pv 0) (pa_cons pe_int (pa_cons (pe_call (ok_law_rest T) (hr.mono (by decide)) (by rfl) T.g__law_rest T.F__law_rest.kp T.k__law_rest .nil pass0 (pa_cons (pv 0) (pa_cons pe_int (pa_cons pe_int pa_nil)))) (pa_cons pe_int pa_nil))))))), ?_⟩
  change (_ : TS) _ [some _] _
  try dsimp only [cxOf, Cx.nox, Cx.wish]
  walk_at "go"
  refine w_sp3 ⟨_, _, _, _, rfl, rfl, rfl, hS, fun v v0 => ?_⟩
  walk_at "go"
  refine ⟨sz (by show 4 ≤ _; decide), w_alc fun p H1 e1 n1 h1 => ?_⟩
  exact k p H1 e1 n1 ⟨sc, ns, _, _, _, h1, hS.ext e1, v0⟩
def sp_law_draw (K : PySem.W.Frag) : Sp := sp2 fun a b H Q => ∃ (p : Addr) (l : Int), a = .ref p ∧ b = .int l ∧ PoolAt K H p ∧ 0 < l ∧ l < 2 ^ 200 ∧ ∀ v H', 0 ≤ v → v < l → Ext [p] H H' → PoolAt K H' p → Q (.int v) H'
theorem ok_law_draw (T : Txt K mg) : FnOk P w K mg base CX0 3 T.f__law_draw T.d__law_draw ["pool", "limit"] (sp_law_draw K) := by
  refine T.F__law_draw.ok sc_law_draw len2 (fun cdv A outer s H vs Q E hr h => ?_)
  have nd := sc_law_draw.nd
  have hu := hu_of hr
  obtain ⟨_, _, rfl, p, l, rfl, rfl, hP, l0, l1, k⟩ := h
  refine ⟨_,
      (pss_cons (ps_if (pt_cmpR op_le (pe_ix ix_list (pv 0) pe_int (fun _ _ => rfl)) pe_int (nomark _)) 
        (pss_cons (ps_asg (pe_op op_add (pe_ix ix_list (pv 0) pe_int (fun _ _ => rfl)) pe_int) (pg_sub (pv 0) pe_int zset_list)) 
        (pss_one (ps_asg (pe_call (ok_law_rest T) (hr.mono (by decide)) (by rfl) T.g__law_rest T.F__law_rest.kp T.k__law_rest .nil pass0 (pa_cons (pe_ix ix_list (pv 0) pe_int (fun _ _ => rfl)) (pa_cons (pe_ix ix_list (pv 0) pe_int (fun _ _ => rfl)) (pa_cons (pe_ix ix_list (pv 0) pe_int (fun _ _ => rfl)) pa_nil)))) (pg_sub (pv 0) pe_int zset_list)))) pss_nil) 
      (pss_cons (ps_set (i := 2) nd rfl (Or.inl rfl) (pe_op op_mod (pe_callTy zc_int (by rfl) T.b_int (by decide +kernel) (pa_cons (pe_ix ix_list (pv 0) pe_int (fun _ _ => rfl)) pa_nil)) (pv 1))) 
      (pss_cons (ps_asg (pe_op op_fdivW (pe_callTy zc_int (by rfl) T.b_int (by decide +kernel) (pa_cons (pe_ix ix_list (pv 0) pe_int (fun _ _ => rfl)) pa_nil)) (pv 1)) (pg_sub (pv 0) pe_int zset_list)) 
      (pss_one (ps_ret (pv 2)))))), ?_⟩
  change (_ : TS) _ [some _, some _, none] _
  try dsimp only [cxOf, Cx.nox, Cx.wish]
  walk_at "go"
  refine w_cut (fun σ' H' => Ext [p] H H' ∧ PoolAt K H' p ∧ σ' = [some (V.ref p), some (V.int l), none]) ?_ fun nx hn => ?_
  · rintro _ H1 ⟨e1, ⟨sc, ns, pl, re, fi, h1, h2, h3⟩, rfl⟩
    walk_at "goa"
    rename_i r r0 r1
    refine w_I (wide_div (b := 200) l0 (by omega) (by decide) (by decide)) ?_
    walk_at "go"
    refine w_chg h1 (fun z => z) fun H2 e2 h4 => ?_
    walk_at "go"
    exact k r H2 r0 r1 (e1.trans e2) ⟨sc, ns, _, _, _, h4, h2.ext e2, Int.ediv_nonneg h3 (by omega)⟩
  · obtain ⟨sc, ns, pl, re, fi, h1, h2, h3⟩ := id hP
    walk_at "if"
    refine w_d (fun h => ?_) fun h => ?_ <;> walk_at "go"
    · refine w_chg h1 (fun z => z) fun H2 e2 h4 => ?_
      change H2 p = some (.lst [.ref sc, .int pl, .int re, .int (fi + 1)]) at h4
      walk_at "go"
      refine w_sp3 ⟨_, _, _, _, rfl, rfl, rfl, h2.ext e2, fun v v0 => ?_⟩
      walk_at "go"
      refine w_chg h4 (fun z => z) fun H3 e3 h5 => ?_
      exact hn _ _ ⟨e2.trans e3, ⟨sc, ns, _, _, _, h5, (h2.ext e2).ext e3, v0⟩, rfl⟩
    · exact hn _ _ ⟨Ext.refl, hP, rfl⟩
theorem w_draw {H : Hp} {p : Addr} {l : Int} {Q : VK} {E : XK} (hP : PoolAt K H p) (l0 : 0 < l) (l1 : l < 2 ^ 200) (k : ∀ v H', 0 ≤ v → v < l → Ext [p] H H' → PoolAt K H' p → Q (.int v) H') :
    sp_law_draw K ([.ref p, .int l] ++ []) H Q E := ⟨_, _, rfl, p, l, rfl, rfl, hP, l0, l1, k⟩

/-! ### the next cell of the script; a drawn item -/
def sp_law_next (K : PySem.W.Frag) : Sp := sp1 fun a H Q => ∃ p, a = .ref p ∧ PoolAt K H p ∧ ∀ H', Ext [p] H H' → PoolAt K H' p → Q .non H'
theorem ok_law_next (T : Txt K mg) : FnOk P w K mg base CX0 3 T.f__law_next T.d__law_next ["pool"] (sp_law_next K) := by
  refine T.F__law_next.ok sc_law_next len1 (fun cdv A outer s H vs Q E hr h => ?_)
  have nd := sc_law_next.nd
  have hu := hu_of hr
  obtain ⟨_, rfl, p, rfl, ⟨sc, ns, pl, re, fi, h1, h2, h3⟩, k⟩ := h
  refine ⟨_,
      (pss_cons (ps_asg (pe_op op_add (pe_ix ix_list (pv 0) pe_int (fun _ _ => rfl)) pe_int) (pg_sub (pv 0) pe_int zset_list)) 
      (pss_cons (ps_asg (pe_call (ok_law_rest T) (hr.mono (by decide)) (by rfl) T.g__law_rest T.F__law_rest.kp T.k__law_rest .nil pass0 (pa_cons (pe_ix ix_list (pv 0) pe_int (fun _ _ => rfl)) (pa_cons (pe_ix ix_list (pv 0) pe_int (fun _ _ => rfl)) (pa_cons pe_int pa_nil)))) (pg_sub (pv 0) pe_int zset_list)) 
      (pss_one (ps_asg pe_int (pg_sub (pv 0) pe_int zset_list))))), ?_⟩
  change (_ : TS) _ [some _] _
  try dsimp only [cxOf, Cx.nox, Cx.wish]
  walk_at "go"
  refine w_chg h1 (fun z => z) fun H1 e1 g1 => ?_
  change H1 p = some (.lst [.ref sc, .int (pl + 1), .int re, .int fi]) at g1
  walk_at "go"
  refine w_sp3 ⟨_, _, _, _, rfl, rfl, rfl, h2.ext e1, fun v v0 => ?_⟩
  walk_at "go"
  refine w_chg g1 (fun z => z) fun H2 e2 g2 => ?_
  change H2 p = some (.lst [.ref sc, .int (pl + 1), .int v, .int fi]) at g2
  walk_at "go"
  refine w_chg g2 (fun z => z) fun H3 e3 g3 => ?_
  exact k _ ((e1.trans e2).trans e3) ⟨sc, ns, _, _, _, g3, ((h2.ext e1).ext e2).ext e3, v0⟩
theorem w_next_ {H : Hp} {p : Addr} {Q : VK} {E : XK} (hP : PoolAt K H p) (k : ∀ H', Ext [p] H H' → PoolAt K H' p → Q .non H') : sp_law_next K ([.ref p] ++ []) H Q E := ⟨_, rfl, p, rfl, hP, k⟩
def sp_law_pick (K : PySem.W.Frag) : Sp := sp2 fun a b H Q => ∃ (p o : Addr) (xs : List V), a = .ref p ∧ b = .ref o ∧ PoolAt K H p ∧ H o = some (.lst xs) ∧ o ≠ p ∧ 0 < xs.length ∧ xs.length ≤ 1000 ∧ ∀ v H', v ∈ xs → Ext [p] H H' → PoolAt K H' p → Q v H'
theorem ok_law_pick (T : Txt K mg) : FnOk P w K mg base CX0 4 T.f__law_pick T.d__law_pick ["pool", "options"] (sp_law_pick K) := by
  refine T.F__law_pick.ok sc_law_pick len2 (fun cdv A outer s H vs Q E hr h => ?_)
  have nd := sc_law_pick.nd
  have hu := hu_of hr
  obtain ⟨_, _, rfl, p, o, xs, rfl, rfl, hP, ho, n, l0, l1, k⟩ := h
  refine ⟨_,
      (pss_one (ps_ret (pe_ix ix_list (pv 1) (pe_call (ok_law_draw T) (hr.mono (by decide)) (by rfl) T.g__law_draw T.F__law_draw.kp T.k__law_draw .nil pass0 (pa_cons (pv 0) (pa_cons (pe_callB zc_len (by rfl) T.b_len (by decide +kernel) (pa_cons (pv 1) pa_nil)) pa_nil))) (fun _ _ => rfl)))), ?_⟩
  change (_ : TS) _ [some _, some _] _
  try dsimp only [cxOf, Cx.nox, Cx.wish]
  walk_at "go"
  refine w_draw hP (by omega) (by omega) fun r H1 r0 r1 e1 hP1 => ?_
  obtain ⟨v, hv, hm⟩ := at_some r0 r1
  refine w_ixL (sql (e1.keep _ _ ho (nm1 n))) hv ?_
  exact k v H1 (List.mem_of_getElem? hm) e1 hP1
theorem w_pick {H : Hp} {p o : Addr} {xs : List V} {Q : VK} {E : XK} (hP : PoolAt K H p) (ho : H o = some (.lst xs)) (n : o ≠ p) (l0 : 0 < xs.length) (l1 : xs.length ≤ 1000) (k : ∀ v H', v ∈ xs → Ext [p] H H' → PoolAt K H' p → Q v H') :
    sp_law_pick K ([.ref p, .ref o] ++ []) H Q E := ⟨_, _, rfl, p, o, xs, rfl, rfl, hP, ho, n, l0, l1, k⟩

/-! ### _law_same of what is the same -/
def sp_same (n : Nat) (K : PySem.W.Frag) : Sp := sp2 fun a b H Q => (∃ U, Sm U n H a b) ∧ ∀ H', Ext [] H H' → Q (.bl true) H'
theorem ok_same_no (T : Txt K mg) : FnOk P w K mg base CX0 0 T.f__law_same T.d__law_same ["one", "other"] (sp_same 0 K) :=
  ⟨fun _ _ _ _ h => by obtain ⟨_, _, rfl, _⟩ := h; rfl, fun _ _ _ _ _ _ _ _ _ _ _ _ _ h => by obtain ⟨_, _, _, ⟨_, h⟩, _⟩ := h; exact h.elim⟩
theorem step_same (T : Txt K mg)  (n l : Nat) (ih : FnOk P w K mg base CX0 l T.f__law_same T.d__law_same ["one", "other"] (sp_same n K)) : FnOk P w K mg base CX0 (l+1) T.f__law_same T.d__law_same ["one", "other"] (sp_same (n+1) K) := by
  refine T.F__law_same.ok sc_law_same len2 (fun cdv A outer s H vs Q E hr h => ?_)
  have nd := sc_law_same.nd
  have hu := hu_of hr
  obtain ⟨a, b, rfl, ⟨U, h⟩, k⟩ := h
  refine ⟨_,
      (pss_cons (ps_if (pt_cmpR zop_isN (pv 0) pe_non (nomark _)) 
        (pss_one (ps_ret (pe_cmpR zop_isN (pv 1) pe_non (nomark _)))) pss_nil) 
      (pss_cons (ps_if (PW.pt (pw_or (pt_val (pe_callB call_isi (by rfl) T.b_isinstance (by decide +kernel) (pa_cons (pv 0) (pa_cons (pe_bltn (v := .ty "bool") (by rfl) T.b_bool (by decide +kernel) rfl) pa_nil)))) (pw_or1 (pt_val (pe_callB call_isi (by rfl) T.b_isinstance (by decide +kernel) (pa_cons (pv 1) (pa_cons (pe_bltn (v := .ty "bool") (by rfl) T.b_bool (by decide +kernel) rfl) pa_nil))))))) 
        (pss_one (ps_ret (pe_and (pe_callB call_isi (by rfl) T.b_isinstance (by decide +kernel) (pa_cons (pv 0) (pa_cons (pe_bltn (v := .ty "bool") (by rfl) T.b_bool (by decide +kernel) rfl) pa_nil))) (pe_and (pe_callB call_isi (by rfl) T.b_isinstance (by decide +kernel) (pa_cons (pv 1) (pa_cons (pe_bltn (v := .ty "bool") (by rfl) T.b_bool (by decide +kernel) rfl) pa_nil))) (pe_one (pe_cmpR op_eq (pv 0) (pv 1) (nomark _))))))) pss_nil) 
      (pss_cons (ps_if (pt_val (pe_callB call_isi (by rfl) T.b_isinstance (by decide +kernel) (pa_cons (pv 0) (pa_cons (pe_bltn (v := .ty "int") (by rfl) T.b_int (by decide +kernel) rfl) pa_nil)))) 
        (pss_one (ps_ret (pe_and (pe_callB call_isi (by rfl) T.b_isinstance (by decide +kernel) (pa_cons (pv 1) (pa_cons (pe_bltn (v := .ty "int") (by rfl) T.b_int (by decide +kernel) rfl) pa_nil))) (pe_one (pe_cmpR op_eq (pv 0) (pv 1) (nomark _)))))) pss_nil) 
      (pss_cons (ps_if (pt_val (pe_callB call_isi (by rfl) T.b_isinstance (by decide +kernel) (pa_cons (pv 0) (pa_cons (pe_bltn (v := .ty "str") (by rfl) T.b_str (by decide +kernel) rfl) pa_nil)))) 
        (pss_one (ps_ret (pe_and (pe_callB call_isi (by rfl) T.b_isinstance (by decide +kernel) (pa_cons (pv 1) (pa_cons (pe_bltn (v := .ty "str") (by rfl) T.b_str (by decide +kernel) rfl) pa_nil))) (pe_one (pe_cmpR op_eq (pv 0) (pv 1) (nomark _)))))) pss_nil) 
      (pss_cons (ps_if (pt_val (pe_callB call_isi (by rfl) T.b_isinstance (by decide +kernel) (pa_cons (pv 0) (pa_cons (pe_bltn (v := .ty "dict") (by rfl) T.b_dict (by decide +kernel) rfl) pa_nil)))) 
        (pss_cons (ps_if (PW.pt (pw_or (pt_not (pt_val (pe_callB call_isi (by rfl) T.b_isinstance (by decide +kernel) (pa_cons (pv 1) (pa_cons (pe_bltn (v := .ty "dict") (by rfl) T.b_dict (by decide +kernel) rfl) pa_nil))))) (pw_or1 (pt_cmpR op_ne (pe_callB zc_lenX (by rfl) T.b_len (by decide +kernel) (pa_cons (pv 0) pa_nil)) (pe_callB zc_lenX (by rfl) T.b_len (by decide +kernel) (pa_cons (pv 1) pa_nil)) (nomark _))))) 
          (pss_one (ps_ret pe_bl)) pss_nil) 
        (pss_cons (ps_lock (ps_for PassesOwn.never rfl (pi_keys (pv 0)) (pg_name (i := 2) nd rfl (Or.inl rfl)) 
          (pss_one (ps_if (PW.pt (pw_or (pt_cmp (pc_dnotin hu (pv 2) (pv 1))) (pw_or1 (pt_not (pt_val (pe_call ih (hr.mono (by omega)) (by rfl) T.g__law_same T.F__law_same.kp T.k__law_same .nil pass0 (pa_cons (pe_dget hu (pv 0) (pv 2) (fun _ _ => rfl)) (pa_cons (pe_dget hu (pv 1) (pv 2) (fun _ _ => rfl)) pa_nil)))))))) 
            (pss_one (ps_ret pe_bl)) pss_nil)))) 
        (pss_one (ps_ret (pe_call ih (hr.mono (by omega)) (by rfl) T.g__law_same T.F__law_same.kp T.k__law_same .nil pass0 (pa_cons (pe_callB (zc_sortT rfl) (by rfl) T.b_sorted (by decide +kernel) (pa_cons (pv 0) pa_nil)) (pa_cons (pe_callB (zc_sortT rfl) (by rfl) T.b_sorted (by decide +kernel) (pa_cons (pv 1) pa_nil)) pa_nil))))))) pss_nil) 
      (pss_cons (ps_if (PW.pt (pw_and (pt_val (pe_callB call_isi (by rfl) T.b_isinstance (by decide +kernel) (pa_cons (pv 0) (pa_cons (pe_bltn (v := .ty "tuple") (by rfl) T.b_tuple (by decide +kernel) rfl) pa_nil)))) (pw_and1 (pt_not (pt_val (pe_callB call_isi (by rfl) T.b_isinstance (by decide +kernel) (pa_cons (pv 1) (pa_cons (pe_bltn (v := .ty "tuple") (by rfl) T.b_tuple (by decide +kernel) rfl) pa_nil)))))))) 
        (pss_one (ps_ret pe_bl)) pss_nil) 
      (pss_cons (ps_if (PW.pt (pw_and (pt_val (pe_callB call_isi (by rfl) T.b_isinstance (by decide +kernel) (pa_cons (pv 0) (pa_cons (pe_bltn (v := .ty "list") (by rfl) T.b_list (by decide +kernel) rfl) pa_nil)))) (pw_and1 (pt_not (pt_val (pe_callB call_isi (by rfl) T.b_isinstance (by decide +kernel) (pa_cons (pv 1) (pa_cons (pe_bltn (v := .ty "list") (by rfl) T.b_list (by decide +kernel) rfl) pa_nil)))))))) 
        (pss_one (ps_ret pe_bl)) pss_nil) 
      (pss_cons (ps_if (pt_cmpR op_ne (pe_callB zc_lenX (by rfl) T.b_len (by decide +kernel) (pa_cons (pv 0) pa_nil)) (pe_callB zc_lenX (by rfl) T.b_len (by decide +kernel) (pa_cons (pv 1) pa_nil)) (nomark _)) 
        (pss_one (ps_ret pe_bl)) pss_nil) 
      (pss_cons (ps_for PassesOwn.never rfl (pi_range1 (by rfl) T.b_range (pa_cons (pe_callB zc_lenX (by rfl) T.b_len (by decide +kernel) (pa_cons (pv 0) pa_nil)) pa_nil)) (pg_name (i := 3) nd rfl (Or.inl rfl)) 
        (pss_one (ps_if (pt_not (pt_val (pe_call ih (hr.mono (by omega)) (by rfl) T.g__law_same T.F__law_same.kp T.k__law_same .nil pass0 (pa_cons (pe_ix ix_seq (pv 0) (pv 3) (fun _ _ => rfl)) (pa_cons (pe_ix ix_seq (pv 1) (pv 3) (fun _ _ => rfl)) pa_nil))))) 
          (pss_one (ps_ret pe_bl)) pss_nil))) 
      (pss_one (ps_ret pe_bl))))))))))), ?_⟩
  change (_ : TS) _ [some _, some _, none, none] _
  try dsimp only [cxOf, Cx.nox, Cx.wish]
  rcases h with ⟨d, ld, i, j⟩ | ⟨p, q, xs, ys, rfl, rfl, hp, hq, lz, hw⟩ | ⟨l3, hU, p, q, f, rfl, rfl, hp, hq, hw⟩
  · cases i with
    | non =>
      cases j
      walk_at "go"; walk_at "if"
      refine w_t rfl ?_
      walk_at "go"
      exact k _ Ext.refl
    | bl z =>
      cases j
      walk_at "go"; walk_at "if"
      refine w_f rfl ?_; walk_at "go"; walk_at "if"
      refine w_isi (k := true) (.ty _) (.base (.bl _)) (kit_ty (by decide +kernel)) ?_
      walk_at "go"
      refine w_isi (k := true) (.ty _) (.base (.bl _)) (kit_ty (by decide +kernel)) ?_
      refine w_bl ?_
      walk_at "go"
      refine w_isi (k := true) (.ty _) (.base (.bl _)) (kit_ty (by decide +kernel)) ?_
      refine w_bl ?_
      walk_at "go"
      refine w_eq rfl ?_
      rw [decide_eq_true rfl]
      exact k _ Ext.refl
    | int z =>
      cases j
      walk_at "go"; walk_at "if"
      refine w_f rfl ?_; walk_at "go"; walk_at "if"
      refine w_isi (k := false) (.ty _) (.base (.int _)) (kit_ty (by decide +kernel)) ?_
      walk_at "go"
      refine w_isi (k := false) (.ty _) (.base (.int _)) (kit_ty (by decide +kernel)) ?_
      walk_at "go"; walk_at "if"
      refine w_isi (k := true) (.ty _) (.base (.int _)) (kit_ty (by decide +kernel)) ?_
      walk_at "go"
      refine w_isi (k := true) (.ty _) (.base (.int _)) (kit_ty (by decide +kernel)) ?_
      refine w_bl ?_
      walk_at "go"
      rw [decide_eq_true rfl]
      exact k _ Ext.refl
    | str z =>
      cases j
      walk_at "go"; walk_at "if"
      refine w_f rfl ?_; walk_at "go"; walk_at "if"
      refine w_isi (k := false) (.ty _) (.base (.str _)) (kit_ty (by decide +kernel)) ?_
      walk_at "go"
      refine w_isi (k := false) (.ty _) (.base (.str _)) (kit_ty (by decide +kernel)) ?_
      walk_at "go"; walk_at "if"
      refine w_isi (k := false) (.ty _) (.base (.str _)) (kit_ty (by decide +kernel)) ?_
      walk_at "go"; walk_at "if"
      refine w_isi (k := true) (.ty _) (.base (.str _)) (kit_ty (by decide +kernel)) ?_
      walk_at "go"
      refine w_isi (k := true) (.ty _) (.base (.str _)) (kit_ty (by decide +kernel)) ?_
      refine w_bl ?_
      walk_at "go"
      rw [decide_eq_true rfl]
      exact k _ Ext.refl
    | @tup p xs ds ha lz wa =>
      cases j with
      | @tup q ys _ hb _ wb =>
        have la := wa.len
        have lb := wb.len
        have ta := TyX.base (K := K) (.tup ha)
        have tb := TyX.base (K := K) (.tup hb)
        walk_at "go"; walk_at "if"
        refine w_f rfl ?_; walk_at "go"; walk_at "if"
        refine w_isi (k := false) (.ty _) ta (kit_ty (by decide +kernel)) ?_
        walk_at "go"
        refine w_isi (k := false) (.ty _) tb (kit_ty (by decide +kernel)) ?_
        walk_at "go"; walk_at "if"
        refine w_isi (k := false) (.ty _) ta (kit_ty (by decide +kernel)) ?_
        walk_at "go"; walk_at "if"
        refine w_isi (k := false) (.ty _) ta (kit_ty (by decide +kernel)) ?_
        walk_at "go"; walk_at "if"
        refine w_isi (k := false) (.ty _) ta (kit_ty (by decide +kernel)) ?_
        walk_at "go"; walk_at "if"
        refine w_isi (k := true) (.ty _) ta (kit_ty (by decide +kernel)) ?_
        walk_at "go"
        refine w_isi (k := true) (.ty _) tb (kit_ty (by decide +kernel)) ?_
        walk_at "go"; walk_at "if"
        refine w_isi (k := false) (.ty _) ta (kit_ty (by decide +kernel)) ?_
        walk_at "go"; walk_at "if"
        refine w_lenX (.inr (sqt ha)) ?_
        walk_at "go"
        refine w_lenX (.inr (sqt hb)) ?_
        walk_at "go"
        refine w_f (by rw [la, lb]; simp) ?_
        walk_at "go"
        refine w_lenX (.inr (sqt ha)) ?_
        refine w_nil ?_
        refine ⟨_, rfl, by omega, by omega, ?_⟩
        rw [Int.toNat_natCast]
        refine z_for_range (fun i σ' H' => Ext [] H H' ∧ ∃ v, σ' = [some (.ref p), some (.ref q), none, v]) ⟨Ext.refl, _, rfl⟩ ?_ ?_
        · rintro N i σ' H1 hi ⟨e1, v, rfl⟩ hN
          walk_at "go"; walk_at "if"
          obtain ⟨d, hd⟩ : ∃ d, ds[i]? = some d := ⟨_, List.getElem?_eq_getElem (by omega)⟩
          obtain ⟨x, hx, ix⟩ := wa.at hd
          obtain ⟨y, hy, iy⟩ := wb.at hd
          refine w_ixA (.inr (sqt (e1.tup ha))) (at_nat0 hx) ?_
          walk_at "go"
          refine w_ixA (.inr (sqt (e1.tup hb))) (at_nat0 hy) ?_
          walk_at "go"
          have dm := depthAll_mem (List.mem_of_getElem? hd)
          rw [depth_tup] at ld
          refine w_sp2 ⟨⟨U, Sm.im (d := d) (by omega) (ix.ext e1) (iy.ext e1)⟩, fun H2 e2 => ?_⟩
          walk_at "go"
          exact hN _ _ ⟨e1.trans e2, _, rfl⟩
        · rintro σ' H1 ⟨e1, v, rfl⟩
          walk_at "go"
          exact k _ e1
  · have ta := TyX.base (K := K) (.lst hp)
    have tb := TyX.base (K := K) (.lst hq)
    have la := paired_len hw
    walk_at "go"; walk_at "if"
    refine w_f rfl ?_; walk_at "go"; walk_at "if"
    refine w_isi (k := false) (.ty _) ta (kit_ty (by decide +kernel)) ?_
    walk_at "go"
    refine w_isi (k := false) (.ty _) tb (kit_ty (by decide +kernel)) ?_
    walk_at "go"; walk_at "if"
    refine w_isi (k := false) (.ty _) ta (kit_ty (by decide +kernel)) ?_
    walk_at "go"; walk_at "if"
    refine w_isi (k := false) (.ty _) ta (kit_ty (by decide +kernel)) ?_
    walk_at "go"; walk_at "if"
    refine w_isi (k := false) (.ty _) ta (kit_ty (by decide +kernel)) ?_
    walk_at "go"; walk_at "if"
    refine w_isi (k := false) (.ty _) ta (kit_ty (by decide +kernel)) ?_
    walk_at "go"; walk_at "if"
    refine w_isi (k := true) (.ty _) ta (kit_ty (by decide +kernel)) ?_
    walk_at "go"
    refine w_isi (k := true) (.ty _) tb (kit_ty (by decide +kernel)) ?_
    walk_at "go"; walk_at "if"
    refine w_lenX (.inl (sql hp)) ?_
    walk_at "go"
    refine w_lenX (.inl (sql hq)) ?_
    walk_at "go"
    refine w_f (by rw [la]; simp) ?_
    walk_at "go"
    refine w_lenX (.inl (sql hp)) ?_
    refine w_nil ?_
    refine ⟨_, rfl, by omega, by omega, ?_⟩
    rw [Int.toNat_natCast]
    refine z_for_range (fun i σ' H' => Ext [] H H' ∧ ∃ v, σ' = [some (.ref p), some (.ref q), none, v]) ⟨Ext.refl, _, rfl⟩ ?_ ?_
    · rintro N i σ' H1 hi ⟨e1, v, rfl⟩ hN
      walk_at "go"; walk_at "if"
      obtain ⟨x, hx⟩ : ∃ d, xs[i]? = some d := ⟨_, List.getElem?_eq_getElem (by omega)⟩
      obtain ⟨y, hy, hs⟩ := paired_at hw hx
      refine w_ixA (.inl (sql (e1.keep _ _ hp List.not_mem_nil))) (at_nat0 hx) ?_
      walk_at "go"
      refine w_ixA (.inl (sql (e1.keep _ _ hq List.not_mem_nil))) (at_nat0 hy) ?_
      walk_at "go"
      refine w_sp2 ⟨⟨U, hs.ext e1⟩, fun H2 e2 => ?_⟩
      walk_at "go"
      exact hN _ _ ⟨e1.trans e2, _, rfl⟩
    · rintro σ' H1 ⟨e1, v, rfl⟩
      walk_at "go"
      exact k _ e1
  · obtain ⟨kvs, ks, hp, mp⟩ := hp
    obtain ⟨kvs', ks', hq, mq⟩ := hq
    have ta := TyX.base (K := K) (.dT hp)
    have tb := TyX.base (K := K) (.dT hq)
    walk_at "go"; walk_at "if"
    refine w_f rfl ?_; walk_at "go"; walk_at "if"
    refine w_isi (k := false) (.ty _) ta (kit_ty (by decide +kernel)) ?_
    walk_at "go"
    refine w_isi (k := false) (.ty _) tb (kit_ty (by decide +kernel)) ?_
    walk_at "go"; walk_at "if"
    refine w_isi (k := false) (.ty _) ta (kit_ty (by decide +kernel)) ?_
    walk_at "go"; walk_at "if"
    refine w_isi (k := false) (.ty _) ta (kit_ty (by decide +kernel)) ?_
    walk_at "go"; walk_at "if"
    refine w_isi (k := true) (.ty _) ta (kit_ty (by decide +kernel)) ?_
    walk_at "go"; walk_at "if"
    refine w_isi (k := true) (.ty _) tb (kit_ty (by decide +kernel)) ?_
    walk_at "go"
    refine w_lenXT hp ?_
    walk_at "go"
    refine w_lenXT hq ?_
    walk_at "go"
    have lk : kvs.length = kvs'.length := by rw [mp.len, mq.len]; exact (mp.perm mq).length_eq
    refine w_f (by rw [lk]; simp) ?_
    walk_at "go"
    refine w_lock hp trivial (fun z => z) fun od H1 L => ?_
    walk_at "go"
    refine w_keysT rfl L.at ?_
    have dp1 : DR U H1 p f := DR.lk ⟨kvs, ks, .inl hp, mp⟩ L
    have dq1 : DR U H1 q f := DR.lk ⟨kvs', ks', .inl hq, mq⟩ L
    refine z_for_keysT mp (fun i σ' H' => Ext [] H1 H' ∧ ∃ v, σ' = [some (.ref p), some (.ref q), v, none]) ⟨Ext.refl, _, rfl⟩ (fun i σ' H' _ ⟨e, _⟩ => e.imm _ _ L.at trivial) ?_ ?_
    · rintro N i sl d b σ' H2 hi hf hb ⟨e2, v, rfl⟩ hN
      have dp2 := dp1.ext e2 List.not_mem_nil
      have dq2 := dq1.ext e2 List.not_mem_nil
      walk_at "go"; walk_at "if"
      refine w_dinT dq2 hb fun o ho => ?_
      rw [ho, hf]
      walk_at "go"
      refine w_f rfl ?_
      walk_at "go"
      refine w_dgetT dp2 hb hf fun x ix => ?_
      walk_at "go"
      refine w_dgetT dq2 hb hf fun y iy => ?_
      walk_at "go"
      refine w_sp2 ⟨⟨U, Sm.im (d := d) (hw _ _ hf) ix iy⟩, fun H3 e3 => ?_⟩
      walk_at "go"
      exact hN _ _ ⟨e2.trans e3, _, rfl⟩
    · rintro σ' H2 ⟨e2, v, rfl⟩
      refine w_unlock L e2 fun H3 e3 _ => ?_
      walk_at "go"
      have dp3 : DR U H3 p f := (DM.dr ⟨kvs, ks, hp, mp⟩).ext e3 List.not_mem_nil
      have dq3 : DR U H3 q f := (DM.dr ⟨kvs', ks', hq, mq⟩).ext e3 List.not_mem_nil
      refine w_sortT dp3 fun p1 bs1 ts1 H4 e4 n4 h4 s4 nd4 m4 z4 o4 => ?_
      walk_at "go"
      refine w_sortT (dq3.ext e4 List.not_mem_nil) fun p2 bs2 ts2 H5 e5 n5 h5 s5 nd5 m5 z5 o5 => ?_
      have et : ts1 = ts2 := sorted_uniq ((List.perm_ext_iff_of_nodup nd4 nd5).mpr fun s => by rw [m4, m5]) o4 o5
      subst et
      walk_at "go"
      refine w_sp2 ⟨⟨U, ?_⟩, fun H6 e6 => k _ (((e3.trans e4).trans e5).trans e6)⟩
      have s4' := s4.ext e5
      have lb : (bs1.map V.ref).length ≤ 1000 := by
        rw [List.length_map, paired_len s4]; omega
      cases n with
      | zero => omega
      | succ n => exact .inr (.inl ⟨p1, p2, _, _, rfl, rfl, e5.keep _ _ h4 List.not_mem_nil, h5, lb, sm_slots (by omega) s4' s5⟩)
def sp_law_same (K : PySem.W.Frag) : Sp := sp_same 6 K
theorem ok_law_same (T : Txt K mg) : FnOk P w K mg base CX0 6 T.f__law_same T.d__law_same ["one", "other"] (sp_law_same K) :=
  step_same T 5 5 (step_same T 4 4 (step_same T 3 3 (step_same T 2 2 (step_same T 1 1 (step_same T 0 0 (ok_same_no T))))))
theorem w_same {H : Hp} {U : List Zk.Slot} {a b : V} {Q : VK} {E : XK} (h : Sm U 6 H a b) (k : ∀ H', Ext [] H H' → Q (.bl true) H') : sp_law_same K ([a, b] ++ []) H Q E := ⟨_, _, rfl, ⟨U, h⟩, k⟩

/-! ### the slots of two dicts -/
def sp_slots_of_both (K : PySem.W.Frag) : Sp := sp2 fun a b H Q => ∃ (U : List Zk.Slot) (p q : Addr) (f g : Fd), a = .ref p ∧ b = .ref q ∧ U.length ≤ 1000 ∧ DM U H p f ∧ DM U H q g ∧
  ∀ r bs ts H', Ext [] H H' → H r = none → H' r = some (.lst (bs.map V.ref)) → SlotsAt H' bs ts → (∀ s, s ∈ ts ↔ (f s).isSome = true ∨ (g s).isSome = true) → Q (.ref r) H'
theorem ok_slots_of_both (T : Txt K mg) : FnOk P w K mg base CX0 1 T.f_slots_of_both T.d_slots_of_both ["one", "other"] (sp_slots_of_both K) := by
  refine T.F_slots_of_both.ok sc_slots_of_both len2 (fun cdv A outer s H vs Q E hr h => ?_)
  have nd := sc_slots_of_both.nd
  have hu := hu_of hr
  obtain ⟨_, _, rfl, U, p, q, f, g, rfl, rfl, hU, hf, hg, k⟩ := h
  refine ⟨_,
      (pss_one (ps_ret (pe_callB (zc_sortT rfl) (by rfl) T.b_sorted (by decide +kernel) (pa_cons (pe_op zop_cat (pe_callTy (zc_listT rfl) (by rfl) T.b_list (by decide +kernel) (pa_cons (pv 0) pa_nil)) (pe_lock (pe_lc (own := [("slot", 2)]) rfl nd (pi_keys (pv 1)) (blkOk_by (own := [("slot", 2)]) (N := ["one", "other", "slot"]) (sc := defScope s_slots_of_both) (by decide +kernel)) (fun _ _ _ _ _ => (pg_name (i := 2) nd rfl (Or.inl rfl))) (fun _ _ _ _ _ => (pts_one (pt_cmp (pc_dnotin hu (pv 2) (pv 0))))) (fun _ _ _ _ _ => (pv 2))))) pa_nil)))), ?_⟩
  change (_ : TS) _ [some _, some _, none] _
  try dsimp only [cxOf, Cx.nox, Cx.wish]
  walk_at "go"
  refine w_listT hf.dr fun r1 bs1 ks1 H1 e1 n1 h1 s1 nd1 m1 z1 => ?_
  obtain ⟨kvs, ks, hq, mq⟩ := hg.ext e1 List.not_mem_nil
  have f1 := hf.ext e1 List.not_mem_nil
  refine w_lockE hq trivial (fun z => z) fun od H2 L => ?_
  walk_at "go"
  refine w_keysT rfl L.at fun D nD => ?_
  have f2 := f1.dr.lk L
  refine z_lc_keysT mq (fun i acc H' => Ext [] H2 H' ∧ ∃ bs ss, acc = bs.map V.ref ∧ SlotsAt H' bs ss ∧ ss.length ≤ i ∧ ∀ s, s ∈ ss ↔ (f s).isSome = false ∧ s ∈ ks.take i) nD (fun H' e => ⟨e, [], [], rfl, .nil, Nat.le_refl _, fun s => by simp⟩) (fun i acc H' _ ⟨e, _⟩ => e.imm _ _ L.at trivial) ?_ ?_
  · rintro Nx i sl d b acc H3 hi hgs hb ⟨e3, bs, ss, rfl, hss, lss, hm⟩ hD hN
    walk_at "go"
    refine ⟨rfl, ?_⟩
    walk_at "go"
    refine w_dinT (f2.ext e3 List.not_mem_nil) hb fun o ho => ?_
    rw [ho]
    refine w_bl ?_
    have tk : ks.take (i + 1) = ks.take i ++ [sl] := by rw [List.take_add_one, hi]; rfl
    refine w_nb (fun z => ?_) fun z => ?_
    · walk_at "go"
      have lz : (bs.map V.ref).length < sizeLine := by
        have := mq.small hU
        rw [mq.len] at this
        obtain ⟨j1, _⟩ := List.getElem?_eq_some_iff.mp hi
        rw [List.length_map, paired_len hss]
        exact szl (by omega)
      refine w_app hD lz fun H4 e4 h4 => ?_
      rw [← List.map_singleton (f := V.ref), ← List.map_append] at h4
      refine hN _ _ ⟨e3.dropq e4 nD, bs ++ [b], ss ++ [sl], rfl, (hss.ext e4).snoc (e4.tup hb), ?_, fun s => ?_⟩ h4
      · rw [List.length_append]; exact Nat.succ_le_succ lss
      · rw [tk, List.mem_append, List.mem_append, hm s, List.mem_singleton]
        constructor
        · rintro (⟨a, b⟩ | rfl)
          · exact ⟨a, .inl b⟩
          · exact ⟨z, .inr rfl⟩
        · rintro ⟨a, b | rfl⟩
          · exact .inl ⟨a, b⟩
          · exact .inr rfl
    · refine hN _ _ ⟨e3, bs, ss, rfl, hss, Nat.le_succ_of_le lss, fun s => ?_⟩ hD
      rw [tk, List.mem_append, hm s, List.mem_singleton]
      constructor
      · rintro ⟨a, b⟩; exact ⟨a, .inl b⟩
      · rintro ⟨a, b | rfl⟩
        · exact ⟨a, b⟩
        · rw [z] at a; cases a
  · rintro acc H3 ⟨e3, bs, ss, rfl, hss, lss, hm⟩ hD
    have nqD := ne_of_none L.at nD
    refine w_unlock (N := fun H' => zCat (.ref r1) (.ref D) H' fun x H1 => tNil [some (V.ref p), some (V.ref q), none] H1 fun xs H2 => cSortT K (x :: xs) H2 Q) L e3 fun H4 e4 kp => ?_
    walk_at "go"
    have h4 := kp D _ hD nqD.symm
    have hr1 := e4.keep _ _ h1 List.not_mem_nil
    have hs4 : SlotsAt H4 bs ss := by
      refine Paired.mapP hss fun a s h => kp a _ h fun z => ?_
      subst z
      have := e3.imm _ _ L.at trivial
      rw [h] at this; cases this
    have l1 : bs1.length ≤ 1000 := by rw [paired_len s1]; omega
    have l2 : bs.length ≤ 1000 := by
      have := mq.small hU
      rw [mq.len] at this
      rw [paired_len hss]; omega
    refine w_cat hr1 h4 (sz (by rw [List.length_map, List.length_map]; omega)) (w_alc fun r2 H5 e5 n5 h5 => ?_)
    walk_at "go"
    rw [← List.map_append] at h5
    have hall : SlotsAt H5 (bs1 ++ bs) (ks1 ++ ss) := ((s1.ext e4).ext e5).app (hs4.ext e5)
    refine w_sortSl (sql h5) hall fun r3 bs3 ts H6 e6 n6 h6 s6 p6 o6 => ?_
    refine k r3 bs3 ts H6 (((e1.trans e4).trans e5).trans e6) ((e1.trans e4).free (e5.free n6)) h6 s6 fun s => ?_
    rw [p6.mem_iff, List.mem_append, m1, hm, List.take_length, mq.mem]
    cases (f s).isSome <;> cases (g s).isSome <;> simp

theorem w_slots {H : Hp} {U : List Zk.Slot} {p q : Addr} {f g : Fd} {Q : VK} {E : XK} (hU : U.length ≤ 1000) (hf : DM U H p f) (hg : DM U H q g)
    (k : ∀ r bs ts H', Ext [] H H' → H r = none → H' r = some (.lst (bs.map V.ref)) → SlotsAt H' bs ts → (∀ s, s ∈ ts ↔ (f s).isSome = true ∨ (g s).isSome = true) → Q (.ref r) H') : sp_slots_of_both K ([.ref p, .ref q] ++ []) H Q E :=
  ⟨_, _, rfl, U, p, q, f, g, rfl, rfl, hU, hf, hg, k⟩
/-! ### the difference of two states -/
def sp_between (K : PySem.W.Frag) : Sp := sp2 fun a b H Q => ∃ (U : List Zk.Slot) (p q : Addr) (f g : Fd), a = .ref p ∧ b = .ref q ∧ U.length ≤ 1000 ∧ DM U H p f ∧ DM U H q g ∧ Stt f ∧ Stt g ∧ ∀ r H', Ext [] H H' → H r = none → DM U H' r (btwF f g) → Q (.ref r) H'
theorem ok_between (T : Txt K mg) : FnOk P w K mg base CX0 2 T.f_between T.d_between ["before", "after"] (sp_between K) := by
  refine T.F_between.ok sc_between len2 (fun cdv A outer s H vs Q E hr h => ?_)
  have nd := sc_between.nd
  have hu := hu_of hr
  obtain ⟨_, _, rfl, U, p, q, f, g, rfl, rfl, hU, hf, hg, sf, sg, k⟩ := h
  refine ⟨_,
      (pss_cons (ps_set (i := 2) nd rfl (Or.inl rfl) pe_dnewTZ) 
      (pss_cons (ps_for PassesOwn.never rfl (pi_list (pe_call (ok_slots_of_both T) (hr.mono (by decide)) (by rfl) T.g_slots_of_both T.F_slots_of_both.kp T.k_slots_of_both .nil pass0 (pa_cons (pv 0) (pa_cons (pv 1) pa_nil)))) (pg_name (i := 3) nd rfl (Or.inl rfl)) 
        (pss_cons (ps_set (i := 4) nd rfl (Or.inl rfl) (pe_tupZ (pa_cons (pe_dget1 hu (pv 0) (pv 3) ⟨rfl, rfl, rfl, rfl⟩) (pa_cons (pe_dget1 hu (pv 1) (pv 3) ⟨rfl, rfl, rfl, rfl⟩) pa_nil)))) 
        (pss_one (ps_if (pt_cmpR (op_neD hr.units) (pe_ix ix_tup (pv 4) pe_int (fun _ _ => rfl)) (pe_ix ix_tup (pv 4) pe_int (fun _ _ => rfl)) (nomark _)) 
          (pss_one (ps_dput hu (pv 2) (pv 3) (pv 4) rfl)) pss_nil)))) 
      (pss_one (ps_ret (pv 2))))), ?_⟩
  change (_ : TS) _ [some _, some _, none, none, none] _
  try dsimp only [cxOf, Cx.nox, Cx.wish]
  walk_at "go"
  refine w_alc fun D H1 e1 n1 h1 => ?_
  walk_at "go"
  refine w_slots hU (hf.ext e1 List.not_mem_nil) (hg.ext e1 List.not_mem_nil) fun r bs ts H2 e2 n2 h2 s2 m2 => ?_
  refine ⟨r, rfl, ⟨_, sql h2⟩, ?_⟩
  have f2 := (hf.ext e1 List.not_mem_nil).ext e2 List.not_mem_nil
  have g2 := (hg.ext e1 List.not_mem_nil).ext e2 List.not_mem_nil
  have npD := f2.dr
  have d2 := e2.keep _ _ h1 List.not_mem_nil
  have nrD : r ≠ D := fun z => by subst z; rw [h1] at n2; cases n2
  refine z_for_list (xs := bs.map V.ref) (fun i σ' H' => Ext [D] H2 H' ∧ DM U H' D (resF (ts.take i) (btwF f g)) ∧ ∃ u v, σ' = [some (.ref p), some (.ref q), some (.ref D), u, v]) ⟨Ext.refl, by rw [List.take_zero, resF_nil]; exact DM.nil d2, _, _, rfl⟩ (fun i σ' H' _ ⟨e, _⟩ => sql (e.keep _ _ h2 (nm1 nrD))) ?_ ?_
  · rintro N i x σ' H3 hx ⟨e3, hD, u, v, rfl⟩ hN
    obtain ⟨b, s, rfl, hb, hs, hb2⟩ := s2.get hx
    have hb3 := e3.tup hb2
    have f3 := f2.ext e3 (nm1 (hf.ne n1))
    have g3 := g2.ext e3 (nm1 (hg.ne n1))
    walk_at "go"
    refine w_get1 ?_
    walk_at "go"
    refine w_isD f3.dr ?_
    walk_at "go"
    refine w_get1T f3.dr hb3 fun o1 i1 => ?_
    walk_at "go"
    refine w_get1 ?_
    walk_at "go"
    refine w_isD g3.dr ?_
    walk_at "go"
    refine w_get1T g3.dr hb3 fun o2 i2 => ?_
    generalize o1.getD .non = x at i1 ⊢
    generalize o2.getD .non = y at i2 ⊢
    walk_at "go"
    refine ⟨sz (by show 2 ≤ _; decide), w_alc fun t H4 e4 n4 h4 => ?_⟩
    walk_at "go"; walk_at "if"
    have sU : s ∈ U := by
      rcases (m2 s).mp (List.mem_of_getElem? hs) with z | z
      · exact hf.fsub z
      · exact hg.fsub z
    refine w_neD (i1.ext e4) (i2.ext e4) (sf s).shaped (sg s).shaped ?_
    refine w_bl ?_
    have e34 : Ext [D] H2 H4 := e3.trans e4.up
    refine w_nb (fun z => ?_) fun z => ?_
    · have ne : f s ≠ g s := fun q => Bool.noConfusion ((((sf s).eqv (sg s)).mpr q).symm.trans z)
      have im : Im H4 (.ref t) (.tuple [oD (f s), oD (g s)]) := .tup h4 (show 2 ≤ 1000 by decide) (.cons (i1.ext e4) (.cons (i2.ext e4) .nil))
      walk_at "go"
      refine w_dputT hU (hD.ext e4 List.not_mem_nil) (e4.tup hb3) sU im fun H5 e5 h5 => ?_
      refine hN _ _ ⟨e34.trans e5, ?_, _, _, rfl⟩
      rw [resF_put (F := btwF f g) (btw_ne ne)] at h5
      rw [take_snoc hs]; exact h5
    · have eq : f s = g s := ((sf s).eqv (sg s)).mp z
      walk_at "go"
      refine hN _ _ ⟨e34, ?_, _, _, rfl⟩
      rw [take_snoc hs, resF_skip (F := btwF f g) (btw_eq eq)]
      exact hD.ext e4 List.not_mem_nil
  · rintro σ' H3 ⟨e3, hD, u, v, rfl⟩
    walk_at "go"
    rw [List.length_map, s2.len, List.take_length, resF_all fun s ns => ?_] at hD
    · exact k D H3 ((e1.trans e2).dropq e3 n1) n1 hD
    · refine btw_eq ?_
      have a : ¬ (f s).isSome = true := fun z => ns ((m2 s).mpr (.inl z))
      have b : ¬ (g s).isSome = true := fun z => ns ((m2 s).mpr (.inr z))
      rw [Option.not_isSome_iff_eq_none.mp a, Option.not_isSome_iff_eq_none.mp b]
theorem w_between {H : Hp} {U : List Zk.Slot} {p q : Addr} {f g : Fd} {Q : VK} {E : XK} (hU : U.length ≤ 1000) (hf : DM U H p f) (hg : DM U H q g) (sf : Stt f) (sg : Stt g)
    (k : ∀ r H', Ext [] H H' → H r = none → DM U H' r (btwF f g) → Q (.ref r) H') : sp_between K ([.ref p, .ref q] ++ []) H Q E := ⟨_, _, rfl, U, p, q, f, g, rfl, rfl, hU, hf, hg, sf, sg, k⟩
theorem eqv_refl_o {x : Option PyData} (h : OCt x) : PyData.eqv (oD x) (oD x) = true := (h.eqv h).mpr rfl
theorem im_pair {H : Hp} {v : V} {x y : PyData} (h : Im H v (.tuple [x, y])) : ∃ a u w, v = .ref a ∧ H a = some (.tup [u, w]) ∧ Im H u x ∧ Im H w y := by
  obtain ⟨a, xs, rfl, ha, wa⟩ := h.tupE
  cases wa with
  | cons h1 k1 => cases k1 with
    | cons h2 k2 => cases k2; exact ⟨a, _, _, rfl, ha, h1, h2⟩
/-! ### a difference on a state -/
def sp_applied (K : PySem.W.Frag) : Sp := sp2 fun a b H Q => ∃ (U : List Zk.Slot) (p q : Addr) (f g : Fd), a = .ref p ∧ b = .ref q ∧ U.length ≤ 1000 ∧ DM U H p f ∧ DM U H q (btwF f g) ∧ Stt f ∧ Stt g ∧ ∀ r H', Ext [] H H' → H r = none → DM U H' r g → Q (.ref r) H'
theorem ok_applied (T : Txt K mg) : FnOk P w K mg base CX0 2 T.f_applied T.d_applied ["slots", "difference"] (sp_applied K) := by
  refine T.F_applied.ok sc_applied len2 (fun cdv A outer s H vs Q E hr h => ?_)
  have nd := sc_applied.nd
  have hu := hu_of hr
  obtain ⟨_, _, rfl, U, p, q, f, g, rfl, rfl, hU, hf, hg, sf, sg, k⟩ := h
  refine ⟨_,
      (pss_cons (ps_for PassesOwn.never rfl (pi_list (pe_callB (zc_sortT rfl) (by rfl) T.b_sorted (by decide +kernel) (pa_cons (pv 1) pa_nil))) (pg_name (i := 2) nd rfl (Or.inl rfl)) 
        (pss_one (ps_if (pt_cmpR (op_neD hr.units) (pe_dget1 hu (pv 0) (pv 2) ⟨rfl, rfl, rfl, rfl⟩) (pe_ix ix_tup (pe_dget hu (pv 1) (pv 2) (fun _ _ => rfl)) pe_int (fun _ _ => rfl)) (nomark _)) 
          (pss_one ps_never) pss_nil))) 
      (pss_cons (ps_set (i := 3) nd rfl (Or.inl rfl) pe_dnewTZ) 
      (pss_cons (ps_for PassesOwn.never rfl (pi_list (pe_call (ok_slots_of_both T) (hr.mono (by decide)) (by rfl) T.g_slots_of_both T.F_slots_of_both.kp T.k_slots_of_both .nil pass0 (pa_cons (pv 0) (pa_cons (pv 1) pa_nil)))) (pg_name (i := 2) nd rfl (Or.inl rfl)) 
        (pss_cons (ps_set (i := 4) nd rfl (Or.inl rfl) (pe_ifExp (pt_cmp (pc_din hu (pv 2) (pv 1))) (pe_ix ix_tup (pe_dget hu (pv 1) (pv 2) (fun _ _ => rfl)) pe_int (fun _ _ => rfl)) (pe_dget hu (pv 0) (pv 2) (fun _ _ => rfl)))) 
        (pss_one (ps_if (pt_cmpR zop_notN (pv 4) pe_non (nomark _)) 
          (pss_one (ps_dput hu (pv 3) (pv 2) (pv 4) rfl)) pss_nil)))) 
      (pss_one (ps_ret (pv 3)))))), ?_⟩
  change (_ : TS) _ [some _, some _, none, none, none] _
  try dsimp only [cxOf, Cx.nox, Cx.wish]
  walk_at "go"
  refine w_sortT hg.dr fun r0 bs0 ts0 H1 e1 n1 h1 s1 nd1 m1 z1 o1 => ?_
  refine ⟨r0, rfl, ⟨_, sql h1⟩, ?_⟩
  have f1 := hf.ext e1 List.not_mem_nil
  have g1 := hg.ext e1 List.not_mem_nil
  refine z_for_list (xs := bs0.map V.ref) (fun i σ' H' => Ext [] H1 H' ∧ ∃ u, σ' = [some (.ref p), some (.ref q), u, none, none]) ⟨Ext.refl, _, rfl⟩ (fun i σ' H' _ ⟨e, _⟩ => sql (e.keep _ _ h1 List.not_mem_nil)) ?_ ?_
  · rintro N i x σ' H3 hx ⟨e3, u, rfl⟩ hN
    obtain ⟨b, s, rfl, hb, hs, hb2⟩ := s1.get hx
    have hb3 := e3.tup hb2
    have f3 := f1.ext e3 List.not_mem_nil
    have g3 := g1.ext e3 List.not_mem_nil
    obtain ⟨d, hd⟩ := Option.isSome_iff_exists.mp ((m1 s).mp (List.mem_of_getElem? hs))
    obtain ⟨ne, rfl⟩ := btw_some hd
    walk_at "go"; walk_at "if"
    refine w_get1 ?_
    walk_at "go"
    refine w_isD f3.dr ?_
    walk_at "go"
    refine w_get1T f3.dr hb3 fun o1 i1 => ?_
    walk_at "go"
    refine w_dgetT g3.dr hb3 hd fun v iv => ?_
    obtain ⟨a, y, z, rfl, ha, iy, iz⟩ := im_pair iv
    walk_at "go"
    refine w_neD i1 iy (sf s).shaped (sf s).shaped ?_
    refine w_bl ?_
    refine w_f (by show (!PyData.eqv (oD (f s)) (oD (f s))) = false; rw [eqv_refl_o (sf s)]; rfl) ?_
    walk_at "go"
    exact hN _ _ ⟨e3, _, rfl⟩
  · rintro σ' H2 ⟨e2, u, rfl⟩
    have f2 := f1.ext e2 List.not_mem_nil
    have g2 := g1.ext e2 List.not_mem_nil
    walk_at "go"
    refine w_alc fun D H3 e3 n3 h3 => ?_
    walk_at "go"
    refine w_slots hU (f2.ext e3 List.not_mem_nil) (g2.ext e3 List.not_mem_nil) fun r bs ts H4 e4 n4 h4 s4 m4 => ?_
    refine ⟨r, rfl, ⟨_, sql h4⟩, ?_⟩
    have f4 := (f2.ext e3 List.not_mem_nil).ext e4 List.not_mem_nil
    have g4 := (g2.ext e3 List.not_mem_nil).ext e4 List.not_mem_nil
    have d4 := e4.keep _ _ h3 List.not_mem_nil
    have nrD : r ≠ D := fun z => by subst z; rw [h3] at n4; cases n4
    refine z_for_list (xs := bs.map V.ref) (fun i σ' H' => Ext [D] H4 H' ∧ DM U H' D (resF (ts.take i) g) ∧ ∃ u v, σ' = [some (.ref p), some (.ref q), u, some (.ref D), v]) ⟨Ext.refl, by rw [List.take_zero, resF_nil]; exact DM.nil d4, _, _, rfl⟩ (fun i σ' H' _ ⟨e, _⟩ => sql (e.keep _ _ h4 (nm1 nrD))) ?_ ?_
    · rintro N i x σ' H5 hx ⟨e5, hD, u, v, rfl⟩ hN
      obtain ⟨b, s, rfl, hb, hs, hb2⟩ := s4.get hx
      have hb3 := e5.tup hb2
      have f5 := f4.ext e5 (nm1 (f2.ne n3))
      have g5 := g4.ext e5 (nm1 (g2.ne n3))
      have sU : s ∈ U := by
        rcases (m4 s).mp (List.mem_of_getElem? hs) with z | z
        · exact hf.fsub z
        · exact hg.fsub z
      walk_at "go"
      refine w_cutE (fun v' H' => H5 = H' ∧ Im H5 v' (oD (g s))) ?_ fun Q' hQ => ?_
      · rintro v' _ ⟨rfl, iv⟩
        walk_at "go"; walk_at "if"
        cases eg : g s with
        | none =>
          have : v' = .non := ((sg s).non iv).mpr eg
          subst this
          refine w_f rfl ?_
          walk_at "go"
          refine hN _ _ ⟨e5, ?_, _, _, rfl⟩
          rw [take_snoc hs, resF_skip (F := g) eg]
          exact hD
        | some d =>
          have : v' ≠ .non := fun z => by have := ((sg s).non iv).mp z; rw [eg] at this; cases this
          refine w_t (by rw [decide_eq_false this]; rfl) ?_
          rw [eg] at iv
          walk_at "go"
          refine w_dputT hU hD hb3 sU iv fun H6 e6 h6 => ?_
          refine hN _ _ ⟨e5.trans e6, ?_, _, _, rfl⟩
          change DM U H6 D (putF (resF (ts.take i) g) s d) at h6
          rw [resF_put (F := g) eg] at h6
          rw [take_snoc hs]; exact h6
      · walk_at "ife"
        refine w_dinT g5.dr hb3 fun o ho => ?_
        rw [ho]
        refine w_bl ?_
        cases hd : btwF f g s with
        | none =>
          refine w_f rfl ?_
          have eq := btw_none hd
          have fs : (f s).isSome = true := by
            rcases (m4 s).mp (List.mem_of_getElem? hs) with z | z
            · exact z
            · rw [hd] at z; cases z
          obtain ⟨d, hfd⟩ := Option.isSome_iff_exists.mp fs
          walk_at "go"
          refine w_dgetT f5.dr hb3 hfd fun v iv => ?_
          refine hQ _ _ ⟨rfl, ?_⟩
          rw [← eq, hfd]; exact iv
        | some d =>
          obtain ⟨ne, rfl⟩ := btw_some hd
          refine w_t rfl ?_
          walk_at "go"
          refine w_dgetT g5.dr hb3 hd fun v iv => ?_
          obtain ⟨a, y, z, rfl, ha, iy, iz⟩ := im_pair iv
          walk_at "go"
          exact hQ _ _ ⟨rfl, iz⟩
    · rintro σ' H5 ⟨e5, hD, u, v, rfl⟩
      walk_at "go"
      rw [List.length_map, s4.len, List.take_length, resF_all fun s ns => ?_] at hD
      · have n0 := (e1.trans e2).free n3
        exact k D H5 ((((e1.trans e2).trans e3).trans e4).dropq e5 n0) n0 hD
      · have a : ¬ (f s).isSome = true := fun z => ns ((m4 s).mpr (.inl z))
        have b : ¬ (btwF f g s).isSome = true := fun z => ns ((m4 s).mpr (.inr z))
        have c := btw_none (Option.not_isSome_iff_eq_none.mp b)
        rw [← c]
        exact Option.not_isSome_iff_eq_none.mp a
theorem w_applied {H : Hp} {U : List Zk.Slot} {p q : Addr} {f g : Fd} {Q : VK} {E : XK} (hU : U.length ≤ 1000) (hf : DM U H p f) (hg : DM U H q (btwF f g)) (sf : Stt f) (sg : Stt g)
    (k : ∀ r H', Ext [] H H' → H r = none → DM U H' r g → Q (.ref r) H') : sp_applied K ([.ref p, .ref q] ++ []) H Q E := ⟨_, _, rfl, U, p, q, f, g, rfl, rfl, hU, hf, hg, sf, sg, k⟩
/-! ### one difference behind the other -/
def sp_composed (K : PySem.W.Frag) : Sp := sp2 fun a b H Q => ∃ (U : List Zk.Slot) (p q : Addr) (f g h : Fd), a = .ref p ∧ b = .ref q ∧ U.length ≤ 1000 ∧ DM U H p (btwF f g) ∧ DM U H q (btwF g h) ∧ Stt f ∧ Stt g ∧ Stt h ∧ ∀ r H', Ext [] H H' → H r = none → DM U H' r (btwF f h) → Q (.ref r) H'
theorem ok_composed (T : Txt K mg) : FnOk P w K mg base CX0 2 T.f_composed T.d_composed ["one", "other"] (sp_composed K) := by
  refine T.F_composed.ok sc_composed len2 (fun cdv A outer s H vs Q E hr h => ?_)
  have nd := sc_composed.nd
  have hu := hu_of hr
  obtain ⟨_, _, rfl, U, p, q, f, g, h, rfl, rfl, hU, hf, hg, sf, sg, sh, k⟩ := h
  refine ⟨_,
      (pss_cons (ps_for PassesOwn.never rfl (pi_list (pe_callB (zc_sortT rfl) (by rfl) T.b_sorted (by decide +kernel) (pa_cons (pv 1) pa_nil))) (pg_name (i := 2) nd rfl (Or.inl rfl)) 
        (pss_one (ps_if (PW.pt (pw_and (pt_cmp (pc_din hu (pv 2) (pv 0))) (pw_and1 (pt_cmpR (op_neD hr.units) (pe_ix ix_tup (pe_dget hu (pv 0) (pv 2) (fun _ _ => rfl)) pe_int (fun _ _ => rfl)) (pe_ix ix_tup (pe_dget hu (pv 1) (pv 2) (fun _ _ => rfl)) pe_int (fun _ _ => rfl)) (nomark _))))) 
          (pss_one ps_never) pss_nil))) 
      (pss_cons (ps_set (i := 3) nd rfl (Or.inl rfl) pe_dnewTZ) 
      (pss_cons (ps_for PassesOwn.never rfl (pi_list (pe_call (ok_slots_of_both T) (hr.mono (by decide)) (by rfl) T.g_slots_of_both T.F_slots_of_both.kp T.k_slots_of_both .nil pass0 (pa_cons (pv 0) (pa_cons (pv 1) pa_nil)))) (pg_name (i := 2) nd rfl (Or.inl rfl)) 
        (pss_cons (ps_set (i := 4) nd rfl (Or.inl rfl) (pe_ifExp (pt_cmp (pc_din hu (pv 2) (pv 0))) (pe_ix ix_tup (pe_dget hu (pv 0) (pv 2) (fun _ _ => rfl)) pe_int (fun _ _ => rfl)) (pe_ix ix_tup (pe_dget hu (pv 1) (pv 2) (fun _ _ => rfl)) pe_int (fun _ _ => rfl)))) 
        (pss_cons (ps_set (i := 5) nd rfl (Or.inl rfl) (pe_ifExp (pt_cmp (pc_din hu (pv 2) (pv 1))) (pe_ix ix_tup (pe_dget hu (pv 1) (pv 2) (fun _ _ => rfl)) pe_int (fun _ _ => rfl)) (pe_ix ix_tup (pe_dget hu (pv 0) (pv 2) (fun _ _ => rfl)) pe_int (fun _ _ => rfl)))) 
        (pss_one (ps_if (pt_cmpR (op_neD hr.units) (pv 4) (pv 5) (nomark _)) 
          (pss_one (ps_dput hu (pv 3) (pv 2) (pe_tupZ (pa_cons (pv 4) (pa_cons (pv 5) pa_nil))) rfl)) pss_nil))))) 
      (pss_one (ps_ret (pv 3)))))), ?_⟩
  change (_ : TS) _ [some _, some _, none, none, none, none] _
  try dsimp only [cxOf, Cx.nox, Cx.wish]
  walk_at "go"
  refine w_sortT hg.dr fun r0 bs0 ts0 H1 e1 n1 h1 s1 nd1 m1 z1 o1 => ?_
  refine ⟨r0, rfl, ⟨_, sql h1⟩, ?_⟩
  have f1 := hf.ext e1 List.not_mem_nil
  have g1 := hg.ext e1 List.not_mem_nil
  refine z_for_list (xs := bs0.map V.ref) (fun i σ' H' => Ext [] H1 H' ∧ ∃ u, σ' = [some (.ref p), some (.ref q), u, none, none, none]) ⟨Ext.refl, _, rfl⟩ (fun i σ' H' _ ⟨e, _⟩ => sql (e.keep _ _ h1 List.not_mem_nil)) ?_ ?_
  · rintro N i x σ' H3 hx ⟨e3, u, rfl⟩ hN
    obtain ⟨b, s, rfl, hb, hs, hb2⟩ := s1.get hx
    have hb3 := e3.tup hb2
    have f3 := f1.ext e3 List.not_mem_nil
    have g3 := g1.ext e3 List.not_mem_nil
    obtain ⟨d, hd⟩ := Option.isSome_iff_exists.mp ((m1 s).mp (List.mem_of_getElem? hs))
    obtain ⟨ne, rfl⟩ := btw_some hd
    walk_at "go"; walk_at "if"
    refine w_dinT f3.dr hb3 fun o ho => ?_
    rw [ho]
    refine w_bl ?_
    cases hd1 : btwF f g s with
    | none =>
      refine w_f rfl ?_
      walk_at "go"
      exact hN _ _ ⟨e3, _, rfl⟩
    | some d1 =>
      obtain ⟨ne1, rfl⟩ := btw_some hd1
      refine w_t rfl ?_
      walk_at "go"
      refine w_dgetT f3.dr hb3 hd1 fun v iv => ?_
      obtain ⟨a, y, z, rfl, ha, iy, iz⟩ := im_pair iv
      walk_at "go"
      refine w_dgetT g3.dr hb3 hd fun v' iv' => ?_
      obtain ⟨a', y', z', rfl, ha', iy', iz'⟩ := im_pair iv'
      walk_at "go"
      refine w_neD iz iy' (sg s).shaped (sg s).shaped ?_
      refine w_bl ?_
      refine w_f (by show (!PyData.eqv (oD (g s)) (oD (g s))) = false; rw [eqv_refl_o (sg s)]; rfl) ?_
      walk_at "go"
      exact hN _ _ ⟨e3, _, rfl⟩
  · rintro σ' H2 ⟨e2, u, rfl⟩
    have f2 := f1.ext e2 List.not_mem_nil
    have g2 := g1.ext e2 List.not_mem_nil
    walk_at "go"
    refine w_alc fun D H3 e3 n3 h3 => ?_
    walk_at "go"
    refine w_slots hU (f2.ext e3 List.not_mem_nil) (g2.ext e3 List.not_mem_nil) fun r bs ts H4 e4 n4 h4 s4 m4 => ?_
    refine ⟨r, rfl, ⟨_, sql h4⟩, ?_⟩
    have f4 := (f2.ext e3 List.not_mem_nil).ext e4 List.not_mem_nil
    have g4 := (g2.ext e3 List.not_mem_nil).ext e4 List.not_mem_nil
    have d4 := e4.keep _ _ h3 List.not_mem_nil
    have nrD : r ≠ D := fun z => by subst z; rw [h3] at n4; cases n4
    refine z_for_list (xs := bs.map V.ref) (fun i σ' H' => Ext [D] H4 H' ∧ DM U H' D (resF (ts.take i) (btwF f h)) ∧ ∃ u v v', σ' = [some (.ref p), some (.ref q), u, some (.ref D), v, v']) ⟨Ext.refl, by rw [List.take_zero, resF_nil]; exact DM.nil d4, _, _, _, rfl⟩ (fun i σ' H' _ ⟨e, _⟩ => sql (e.keep _ _ h4 (nm1 nrD))) ?_ ?_
    · rintro N i x σ' H5 hx ⟨e5, hD, u, v, v', rfl⟩ hN
      obtain ⟨b, s, rfl, hb, hs, hb2⟩ := s4.get hx
      have hb3 := e5.tup hb2
      have f5 := f4.ext e5 (nm1 (f2.ne n3))
      have g5 := g4.ext e5 (nm1 (g2.ne n3))
      have sm := (m4 s).mp (List.mem_of_getElem? hs)
      have sU : s ∈ U := by
        rcases sm with z | z
        · exact hf.fsub z
        · exact hg.fsub z
      walk_at "go"
      refine w_cutE (fun v' H' => H5 = H' ∧ Im H5 v' (oD (f s))) ?_ fun Q' hQ => ?_
      · rintro x1 _ ⟨rfl, i1⟩
        walk_at "go"
        refine w_cutE (fun v' H' => H5 = H' ∧ Im H5 v' (oD (h s))) ?_ fun Q' hQ => ?_
        · rintro x2 _ ⟨rfl, i2⟩
          walk_at "go"; walk_at "if"
          refine w_neD i1 i2 (sf s).shaped (sh s).shaped ?_
          refine w_bl ?_
          refine w_nb (fun z => ?_) fun z => ?_
          · have ne : f s ≠ h s := fun q => Bool.noConfusion ((((sf s).eqv (sh s)).mpr q).symm.trans z)
            walk_at "go"
            refine ⟨sz (by show 2 ≤ _; decide), w_alc fun t H6 e6 n6 h6 => ?_⟩
            walk_at "go"
            have im : Im H6 (.ref t) (.tuple [oD (f s), oD (h s)]) := .tup h6 (show 2 ≤ 1000 by decide) (.cons (i1.ext e6) (.cons (i2.ext e6) .nil))
            refine w_dputT hU (hD.ext e6 List.not_mem_nil) (e6.tup hb3) sU im fun H7 e7 h7 => ?_
            refine hN _ _ ⟨(e5.trans e6.up).trans e7, ?_, _, _, _, rfl⟩
            rw [resF_put (F := btwF f h) (btw_ne ne)] at h7
            rw [take_snoc hs]; exact h7
          · have eq : f s = h s := ((sf s).eqv (sh s)).mp z
            walk_at "go"
            refine hN _ _ ⟨e5, ?_, _, _, _, rfl⟩
            rw [take_snoc hs, resF_skip (F := btwF f h) (btw_eq eq)]
            exact hD
        · walk_at "ife"
          refine w_dinT g5.dr hb3 fun o ho => ?_
          rw [ho]
          refine w_bl ?_
          cases hd : btwF g h s with
          | none =>
            refine w_f rfl ?_
            have eq := btw_none hd
            have fs : (btwF f g s).isSome = true := by
              rcases sm with z | z
              · exact z
              · rw [hd] at z; cases z
            obtain ⟨d, hfd⟩ := Option.isSome_iff_exists.mp fs
            obtain ⟨ne, rfl⟩ := btw_some hfd
            walk_at "go"
            refine w_dgetT f5.dr hb3 hfd fun v iv => ?_
            obtain ⟨a, y, z, rfl, ha, iy, iz⟩ := im_pair iv
            walk_at "go"
            refine hQ _ _ ⟨rfl, ?_⟩
            rw [← eq]; exact iz
          | some d =>
            obtain ⟨ne, rfl⟩ := btw_some hd
            refine w_t rfl ?_
            walk_at "go"
            refine w_dgetT g5.dr hb3 hd fun v iv => ?_
            obtain ⟨a, y, z, rfl, ha, iy, iz⟩ := im_pair iv
            walk_at "go"
            exact hQ _ _ ⟨rfl, iz⟩
      · walk_at "ife"
        refine w_dinT f5.dr hb3 fun o ho => ?_
        rw [ho]
        refine w_bl ?_
        cases hd : btwF f g s with
        | none =>
          refine w_f rfl ?_
          have eq := btw_none hd
          have fs : (btwF g h s).isSome = true := by
            rcases sm with z | z
            · rw [hd] at z; cases z
            · exact z
          obtain ⟨d, hfd⟩ := Option.isSome_iff_exists.mp fs
          obtain ⟨ne, rfl⟩ := btw_some hfd
          walk_at "go"
          refine w_dgetT g5.dr hb3 hfd fun v iv => ?_
          obtain ⟨a, y, z, rfl, ha, iy, iz⟩ := im_pair iv
          walk_at "go"
          refine hQ _ _ ⟨rfl, ?_⟩
          rw [eq]; exact iy
        | some d =>
          obtain ⟨ne, rfl⟩ := btw_some hd
          refine w_t rfl ?_
          walk_at "go"
          refine w_dgetT f5.dr hb3 hd fun v iv => ?_
          obtain ⟨a, y, z, rfl, ha, iy, iz⟩ := im_pair iv
          walk_at "go"
          exact hQ _ _ ⟨rfl, iy⟩
    · rintro σ' H5 ⟨e5, hD, u, v, v', rfl⟩
      walk_at "go"
      rw [List.length_map, s4.len, List.take_length, resF_all fun s ns => ?_] at hD
      · have n0 := (e1.trans e2).free n3
        exact k D H5 ((((e1.trans e2).trans e3).trans e4).dropq e5 n0) n0 hD
      · have a : ¬ (btwF f g s).isSome = true := fun z => ns ((m4 s).mpr (.inl z))
        have b : ¬ (btwF g h s).isSome = true := fun z => ns ((m4 s).mpr (.inr z))
        have c := btw_none (Option.not_isSome_iff_eq_none.mp a)
        have d := btw_none (Option.not_isSome_iff_eq_none.mp b)
        exact btw_eq (c.trans d)
theorem w_composed {H : Hp} {U : List Zk.Slot} {p q : Addr} {f g h : Fd} {Q : VK} {E : XK} (hU : U.length ≤ 1000) (hf : DM U H p (btwF f g)) (hg : DM U H q (btwF g h)) (sf : Stt f) (sg : Stt g) (sh : Stt h)
    (k : ∀ r H', Ext [] H H' → H r = none → DM U H' r (btwF f h) → Q (.ref r) H') : sp_composed K ([.ref p, .ref q] ++ []) H Q E := ⟨_, _, rfl, U, p, q, f, g, h, rfl, rfl, hU, hf, hg, sf, sg, sh, k⟩

/-! ### a difference turned around -/
def sp_inverted (K : PySem.W.Frag) : Sp := sp1 fun a H Q => ∃ (U : List Zk.Slot) (p : Addr) (f g : Fd), a = .ref p ∧ U.length ≤ 1000 ∧ DM U H p (btwF f g) ∧ ∀ r H', Ext [] H H' → H r = none → DM U H' r (btwF g f) → Q (.ref r) H'
theorem ok_inverted (T : Txt K mg) : FnOk P w K mg base CX0 1 T.f_inverted T.d_inverted ["difference"] (sp_inverted K) := by
  refine T.F_inverted.ok sc_inverted len1 (fun cdv A outer s H vs Q E hr h => ?_)
  have nd := sc_inverted.nd
  have hu := hu_of hr
  obtain ⟨_, rfl, U, p, f, g, rfl, hU, hf, k⟩ := h
  refine ⟨_,
      (pss_one (ps_ret (pe_lock (zpe_dcT (own := [("slot", 1)]) hu rfl nd (pi_keys (pv 0)) (blkOk_by (own := [("slot", 1)]) (N := ["difference", "slot"]) (sc := defScope s_inverted) (by decide +kernel)) (fun _ _ _ _ _ => (pg_name (i := 1) nd rfl (Or.inl rfl))) (fun _ _ _ _ _ => pts_nil) (fun _ _ _ _ _ => (pv 1)) (fun _ _ _ _ _ => (pe_tupZ (pa_cons (pe_ix (ix_tupK (K := K) rfl) (pe_dget hu (pv 0) (pv 1) (fun _ _ => rfl)) pe_int (fun _ _ => rfl)) (pa_cons (pe_ix (ix_tupK (K := K) rfl) (pe_dget hu (pv 0) (pv 1) (fun _ _ => rfl)) pe_int (fun _ _ => rfl)) pa_nil)))))))), ?_⟩
  change (_ : TS) _ [some _, none] _
  try dsimp only [cxOf, Cx.nox, Cx.wish]
  have hf0 := hf
  obtain ⟨kvs, ks, hp, mp⟩ := hf
  walk_at "go"
  refine w_lockE hp trivial (fun z => z) fun od H2 L => ?_
  refine w_dc ?_
  refine w_keysT rfl L.at fun D nD => ?_
  have f2 := hf0.dr.lk L
  refine z_dc_keysT mp (fun i H' => Ext [] H2 H' ∧ DM U H' D (resF (ks.take i) (btwF g f))) (fun H' e h => ⟨e, by rw [List.take_zero, resF_nil]; exact DM.nil h⟩) nD (fun i H' _ ⟨e, _⟩ => e.imm _ _ L.at trivial) ?_ ?_
  · rintro Nx i s d b H3 hi hd hb ⟨e3, hD⟩ hN
    have f3 := f2.ext e3 List.not_mem_nil
    obtain ⟨ne, rfl⟩ := btw_some hd
    walk_at "go"
    refine ⟨rfl, ?_⟩
    walk_at "go"
    refine w_dgetT f3 hb hd fun v iv => ?_
    obtain ⟨a, y, z, rfl, ha, iy, iz⟩ := im_pair iv
    walk_at "go"
    refine w_dgetT f3 hb hd fun v iv => ?_
    obtain ⟨a', y', z', rfl, ha', iy', iz'⟩ := im_pair iv
    walk_at "go"
    refine ⟨sz (by show 2 ≤ _; decide), w_alc fun t H4 e4 n4 h4 => ?_⟩
    have im : Im H4 (.ref t) (.tuple [oD (g s), oD (f s)]) := .tup h4 (show 2 ≤ 1000 by decide) (.cons (iz.ext e4) (.cons (iy'.ext e4) .nil))
    refine w_dcput hU (hD.ext e4 List.not_mem_nil) (e4.tup hb) (mp.sub _ (List.mem_of_getElem? hi)) im fun H5 e5 h5 => ?_
    refine hN _ ⟨(e3.trans e4).dropq e5 nD, ?_⟩
    rw [resF_put (F := btwF g f) (btw_ne (fun z => ne z.symm))] at h5
    rw [take_snoc hi]; exact h5
  · rintro H3 ⟨e3, hD⟩
    have npD := ne_of_none L.at nD
    rw [List.take_length, resF_all fun s ns => ?_] at hD
    · obtain ⟨kv3, ks3, h3, m3⟩ := hD
      refine w_unlock (N := fun H' => Q (.ref D) H') L e3 fun H4 e4 kp => ?_
      refine k D H4 e4 (L.free nD) ⟨kv3, ks3, kp D _ h3 npD.symm, m3.keys, m3.nd, m3.sub, fun s => ?_⟩
      have v3 := m3.val s
      revert v3
      cases valV kv3 (sKey s) <;> cases btwF g f s <;> intro v3
      · exact v3
      · exact v3
      · exact v3
      · refine Im.go (fun a xs h => kp a _ h fun z => ?_) _ _ v3
        subst z
        have := e3.imm _ _ L.at trivial
        rw [h] at this; cases this
    · refine btw_eq (btw_none ?_).symm
      exact Option.not_isSome_iff_eq_none.mp fun z => ns (mp.mem.mpr z)
theorem w_inverted {H : Hp} {U : List Zk.Slot} {p : Addr} {f g : Fd} {Q : VK} {E : XK} (hU : U.length ≤ 1000) (hf : DM U H p (btwF f g))
    (k : ∀ r H', Ext [] H H' → H r = none → DM U H' r (btwF g f) → Q (.ref r) H') : sp_inverted K ([.ref p] ++ []) H Q E := ⟨_, rfl, U, p, f, g, rfl, hU, hf, k⟩
theorem dm_unlk {U : List Zk.Slot} {H0 H1 H3 H4 : Hp} {M : List Addr} {d D : Addr} {u : HO} {od : Obj} {f : Fd} (L : Lk d u od H0 H1) (e : Ext M H1 H3) (kp : ∀ b o, H3 b = some o → b ≠ d → H4 b = some o) (n : D ≠ d) (h : DM U H3 D f) : DM U H4 D f := by
  obtain ⟨kv3, ks3, h3, m3⟩ := h
  refine ⟨kv3, ks3, kp D _ h3 n, m3.keys, m3.nd, m3.sub, fun s => ?_⟩
  have v3 := m3.val s
  revert v3
  cases valV kv3 (sKey s) <;> cases f s <;> intro v3
  · exact v3
  · exact v3
  · exact v3
  · refine Im.go (fun a xs h => kp a _ h fun z => ?_) _ _ v3
    subst z
    have := e.imm _ _ L.at trivial
    rw [h] at this; cases this
/-! ### copies -/
def sp_law_copy (K : PySem.W.Frag) : Sp := sp1 fun a H Q => ∃ (U : List Zk.Slot) (p : Addr) (f : Fd), a = .ref p ∧ U.length ≤ 1000 ∧ DM U H p f ∧ ∀ r H', Ext [] H H' → H r = none → DM U H' r f → Q (.ref r) H'
theorem ok_law_copy (T : Txt K mg) : FnOk P w K mg base CX0 1 T.f__law_copy T.d__law_copy ["row"] (sp_law_copy K) := by
  refine T.F__law_copy.ok sc_law_copy len1 (fun cdv A outer s H vs Q E hr h => ?_)
  have nd := sc_law_copy.nd
  have hu := hu_of hr
  obtain ⟨_, rfl, U, p, f, rfl, hU, hf, k⟩ := h
  refine ⟨_,
      (pss_cons (ps_set (i := 1) nd rfl (Or.inl rfl) pe_dnewTZ) 
      (pss_cons (ps_lock (ps_for PassesOwn.never rfl (pi_keys (pv 0)) (pg_name (i := 2) nd rfl (Or.inl rfl)) 
        (pss_one (ps_dput hu (pv 1) (pv 2) (pe_dget hu (pv 0) (pv 2) (fun _ _ => rfl)) rfl)))) 
      (pss_one (ps_ret (pv 1))))), ?_⟩
  change (_ : TS) _ [some _, none, none] _
  try dsimp only [cxOf, Cx.nox, Cx.wish]
  walk_at "go"
  refine w_alc fun D H1 e1 n1 h1 => ?_
  have hf1 := hf.ext e1 List.not_mem_nil
  obtain ⟨kvs, ks, hp, mp⟩ := id hf1
  walk_at "go"
  refine w_lock hp trivial (fun z => z) fun od H2 L => ?_
  walk_at "go"
  have npD : D ≠ p := (hf.ne n1).symm
  refine w_keysT rfl L.at ?_
  have f2 := hf1.dr.lk L
  have h2 := L.keep h1 npD
  refine z_for_keysT mp (fun i σ' H' => Ext [D] H2 H' ∧ DM U H' D (resF (ks.take i) f) ∧ ∃ u, σ' = [some (.ref p), some (.ref D), u]) ⟨Ext.refl, by rw [List.take_zero, resF_nil]; exact DM.nil h2, _, rfl⟩ (fun i σ' H' _ ⟨e, _⟩ => e.imm _ _ L.at trivial) ?_ ?_
  · rintro N i s d b σ' H3 hi hd hb ⟨e3, hD, u, rfl⟩ hN
    have f3 := f2.ext e3 (nm1 npD.symm)
    walk_at "go"
    refine w_dgetT f3 hb hd fun v iv => ?_
    walk_at "go"
    refine w_dputT hU hD hb (mp.sub _ (List.mem_of_getElem? hi)) iv fun H5 e5 h5 => ?_
    refine hN _ _ ⟨e3.trans e5, ?_, _, rfl⟩
    rw [resF_put (F := f) hd] at h5
    rw [take_snoc hi]; exact h5
  · rintro σ' H3 ⟨e3, hD, u, rfl⟩
    rw [List.take_length, resF_all fun s ns => Option.not_isSome_iff_eq_none.mp fun z => ns (mp.mem.mpr z)] at hD
    refine w_unlock L e3 fun H4 e4 kp => ?_
    walk_at "go"
    exact k D H4 (e1.dropq e4 n1) n1 (dm_unlk L e3 kp npD hD)
theorem w_copy {H : Hp} {U : List Zk.Slot} {p : Addr} {f : Fd} {Q : VK} {E : XK} (hU : U.length ≤ 1000) (hf : DM U H p f)
    (k : ∀ r H', Ext [] H H' → H r = none → DM U H' r f → Q (.ref r) H') : sp_law_copy K ([.ref p] ++ []) H Q E := ⟨_, rfl, U, p, f, rfl, hU, hf, k⟩
/-- slots whose texts are plain -/
def Pln (U : List Zk.Slot) : Prop := U.length ≤ 1000 ∧ ∀ s ∈ U, Sg s.1
theorem sD_shaped {s : Zk.Slot} (h : Sg s.1) : SeqAt.shaped (sD s) = true := by
  unfold SeqAt.shaped
  rw [sD_depth]
  have := h.ok
  simp [sD, PyData.canLay0, PyData.canLayAll0]
  exact this
def sp_law_without (K : PySem.W.Frag) : Sp := sp2 fun a b H Q => ∃ (U : List Zk.Slot) (p q : Addr) (f : Fd) (s : Zk.Slot), a = .ref p ∧ b = .ref q ∧ Pln U ∧ s ∈ U ∧ H q = some (.tup (sVs s)) ∧ DM U H p f ∧ Stt f ∧ ∀ r f' H', Ext [] H H' → H r = none → DM U H' r f' → Stt f' → Q (.ref r) H'
theorem ok_law_without (T : Txt K mg) : FnOk P w K mg base CX0 1 T.f__law_without T.d__law_without ["row", "gone"] (sp_law_without K) := by
  refine T.F__law_without.ok sc_law_without len2 (fun cdv A outer s H vs Q E hr h => ?_)
  have nd := sc_law_without.nd
  have hu := hu_of hr
  obtain ⟨_, _, rfl, U, p, q, f, s0, rfl, rfl, ⟨hU, hS⟩, m0, hq, hf, sf, k⟩ := h
  refine ⟨_,
      (pss_cons (ps_set (i := 2) nd rfl (Or.inl rfl) pe_dnewTZ) 
      (pss_cons (ps_lock (ps_for PassesOwn.never rfl (pi_keys (pv 0)) (pg_name (i := 3) nd rfl (Or.inl rfl)) 
        (pss_one (ps_if (pt_cmpR (op_neD hr.units) (pv 3) (pv 1) (nomark _)) 
          (pss_one (ps_dput hu (pv 2) (pv 3) (pe_dget hu (pv 0) (pv 3) (fun _ _ => rfl)) rfl)) pss_nil)))) 
      (pss_one (ps_ret (pv 2))))), ?_⟩
  change (_ : TS) _ [some _, some _, none, none] _
  try dsimp only [cxOf, Cx.nox, Cx.wish]
  walk_at "go"
  refine w_alc fun D H1 e1 n1 h1 => ?_
  have hf1 := hf.ext e1 List.not_mem_nil
  obtain ⟨kvs, ks, hp, mp⟩ := id hf1
  walk_at "go"
  refine w_lock hp trivial (fun z => z) fun od H2 L => ?_
  walk_at "go"
  have npD : D ≠ p := (hf.ne n1).symm
  refine w_keysT rfl L.at ?_
  have f2 := hf1.dr.lk L
  have h2 := L.keep h1 npD
  have hq2 := L.tup (e1.tup hq)
  refine z_for_keysT mp (fun i σ' H' => Ext [D] H2 H' ∧ (∃ f', DM U H' D f' ∧ Stt f') ∧ ∃ u, σ' = [some (.ref p), some (.ref q), some (.ref D), u]) ⟨Ext.refl, ⟨_, DM.nil h2, stt_none⟩, _, rfl⟩ (fun i σ' H' _ ⟨e, _⟩ => e.imm _ _ L.at trivial) ?_ ?_
  · rintro N i s d b σ' H3 hi hd hb ⟨e3, ⟨f', hD, st⟩, u, rfl⟩ hN
    have f3 := f2.ext e3 (nm1 npD.symm)
    have sU := mp.sub _ (List.mem_of_getElem? hi)
    walk_at "go"; walk_at "if"
    refine w_neD (im_slot hb) (im_slot (e3.tup hq2)) (sD_shaped (hS _ sU)) (sD_shaped (hS _ m0)) ?_
    refine w_bl ?_
    refine w_nb (fun z => ?_) fun z => ?_
    · walk_at "go"
      refine w_dgetT f3 hb hd fun v iv => ?_
      walk_at "go"
      refine w_dputT hU hD hb sU iv fun H5 e5 h5 => ?_
      exact hN _ _ ⟨e3.trans e5, ⟨_, h5, stt_put st (sf s d hd)⟩, _, rfl⟩
    · walk_at "go"
      exact hN _ _ ⟨e3, ⟨_, hD, st⟩, _, rfl⟩
  · rintro σ' H3 ⟨e3, ⟨f', hD, st⟩, u, rfl⟩
    refine w_unlock L e3 fun H4 e4 kp => ?_
    walk_at "go"
    exact k D f' H4 (e1.dropq e4 n1) n1 (dm_unlk L e3 kp npD hD) st
theorem resF_mem {l : List Zk.Slot} {F : Fd} {s : Zk.Slot} (h : s ∈ l) : resF (l ++ [s]) F = resF l F := by
  funext t
  unfold resF
  by_cases e : t = s
  · subst e
    rw [if_pos h, if_pos (List.mem_append.mpr (.inl h))]
  · by_cases m : t ∈ l
    · rw [if_pos m, if_pos (List.mem_append.mpr (.inl m))]
    · rw [if_neg m, if_neg (fun z => (List.mem_append.mp z).elim m fun q => e (List.mem_singleton.mp q))]
/-! ### the law's own difference -/
def sp_law_between (K : PySem.W.Frag) : Sp := sp_between K
theorem ok_law_between (T : Txt K mg) : FnOk P w K mg base CX0 1 T.f__law_between T.d__law_between ["one", "other"] (sp_law_between K) := by
  refine T.F__law_between.ok sc_law_between len2 (fun cdv A outer s H vs Q E hr h => ?_)
  have nd := sc_law_between.nd
  have hu := hu_of hr
  obtain ⟨_, _, rfl, U, p, q, f, g, rfl, rfl, hU, hf, hg, sf, sg, k⟩ := h
  refine ⟨_,
      (pss_cons (ps_set (i := 2) nd rfl (Or.inl rfl) pe_dnewTZ) 
      (pss_cons (ps_lock (ps_for PassesOwn.never rfl (pi_keys (pv 0)) (pg_name (i := 3) nd rfl (Or.inl rfl)) 
        (pss_one (ps_if (PW.pt (pw_or (pt_cmp (pc_dnotin hu (pv 3) (pv 1))) (pw_or1 (pt_cmpR (op_neD hr.units) (pe_dget hu (pv 0) (pv 3) (fun _ _ => rfl)) (pe_dget hu (pv 1) (pv 3) (fun _ _ => rfl)) (nomark _))))) 
          (pss_one (ps_dput hu (pv 2) (pv 3) (pe_tupZ (pa_cons (pe_dget hu (pv 0) (pv 3) (fun _ _ => rfl)) (pa_cons (pe_ifExp (pt_cmp (pc_din hu (pv 3) (pv 1))) (pe_dget hu (pv 1) (pv 3) (fun _ _ => rfl)) pe_non) pa_nil))) rfl)) pss_nil)))) 
      (pss_cons (ps_lock (ps_for PassesOwn.never rfl (pi_keys (pv 1)) (pg_name (i := 3) nd rfl (Or.inl rfl)) 
        (pss_one (ps_if (pt_cmp (pc_dnotin hu (pv 3) (pv 0))) 
          (pss_one (ps_dput hu (pv 2) (pv 3) (pe_tupZ (pa_cons pe_non (pa_cons (pe_dget hu (pv 1) (pv 3) (fun _ _ => rfl)) pa_nil))) rfl)) pss_nil)))) 
      (pss_one (ps_ret (pv 2)))))), ?_⟩
  change (_ : TS) _ [some _, some _, none, none] _
  try dsimp only [cxOf, Cx.nox, Cx.wish]
  walk_at "go"
  refine w_alc fun D H1 e1 n1 h1 => ?_
  have hf1 := hf.ext e1 List.not_mem_nil
  have hg1 := hg.ext e1 List.not_mem_nil
  obtain ⟨kvs, ks, hp, mp⟩ := id hf1
  walk_at "go"
  refine w_lock hp trivial (fun z => z) fun od H2 L => ?_
  walk_at "go"
  have npD : D ≠ p := (hf.ne n1).symm
  have nqD : D ≠ q := (hg.ne n1).symm
  refine w_keysT rfl L.at ?_
  have f2 := hf1.dr.lk L
  have g2 := hg1.dr.lk L
  have h2 := L.keep h1 npD
  refine z_for_keysT mp (fun i σ' H' => Ext [D] H2 H' ∧ DM U H' D (resF (ks.take i) (btwF f g)) ∧ ∃ u, σ' = [some (.ref p), some (.ref q), some (.ref D), u]) ⟨Ext.refl, by rw [List.take_zero, resF_nil]; exact DM.nil h2, _, rfl⟩ (fun i σ' H' _ ⟨e, _⟩ => e.imm _ _ L.at trivial) ?_ ?_
  · rintro N i s d b σ' H3 hi hd hb ⟨e3, hD, u, rfl⟩ hN
    have f3 := f2.ext e3 (nm1 npD.symm)
    have g3 := g2.ext e3 (nm1 nqD.symm)
    have sU := mp.sub _ (List.mem_of_getElem? hi)
    have odf : oD (f s) = d := by rw [hd]; rfl
    walk_at "go"; walk_at "if"
    refine w_dinT g3 hb fun o ho => ?_
    rw [ho]
    refine w_bl ?_
    cases hgs : g s with
    | none =>
      have im0 : ∀ {H5 : Hp} {x : V} {t : Addr}, Im H5 x d → H5 t = some (.tup [x, .non]) → Im H5 (.ref t) (.tuple [oD (f s), oD (g s)]) := fun i h => .tup h (show 2 ≤ 1000 by decide) (.cons (by rw [odf]; exact i) (.cons (by rw [hgs]; exact .non) .nil))
      have ne : f s ≠ g s := by rw [hd, hgs]; exact fun z => nomatch z
      refine w_nb (fun z => ?_) (fun z => by cases z)
      walk_at "go"
      refine w_dgetT f3 hb hd fun v iv => ?_
      walk_at "go"; walk_at "ife"
      refine w_dinT g3 hb fun o ho => ?_
      rw [ho, hgs]
      refine w_bl ?_
      refine w_f rfl ?_
      walk_at "go"
      refine ⟨sz (by show 2 ≤ _; decide), w_alc fun t H4 e4 n4 h4 => ?_⟩
      walk_at "go"
      refine w_dputT hU (hD.ext e4 List.not_mem_nil) (e4.tup hb) sU (im0 (iv.ext e4) h4) fun H5 e5 h5 => ?_
      refine hN _ _ ⟨(e3.trans e4.up).trans e5, ?_, _, rfl⟩
      rw [resF_put (F := btwF f g) (btw_ne ne)] at h5
      rw [take_snoc hi]; exact h5
    | some c =>
      have odg : oD (g s) = c := by rw [hgs]; rfl
      refine w_nb (fun z => by cases z) (fun z => ?_)
      walk_at "go"
      refine w_dgetT f3 hb hd fun v iv => ?_
      walk_at "go"
      refine w_dgetT g3 hb hgs fun v' iv' => ?_
      have s1 := (sf s).shaped
      have s2 := (sg s).shaped
      rw [odf] at s1
      rw [odg] at s2
      refine w_neD iv iv' s1 s2 ?_
      refine w_bl ?_
      have hq := (sf s).eqv (sg s)
      rw [odf, odg] at hq
      refine w_nb (fun z => ?_) fun z => ?_
      · have ne : f s ≠ g s := fun y => Bool.noConfusion ((hq.mpr y).symm.trans z)
        walk_at "go"
        refine w_dgetT f3 hb hd fun v iv => ?_
        walk_at "go"; walk_at "ife"
        refine w_dinT g3 hb fun o ho => ?_
        rw [ho, hgs]
        refine w_bl ?_
        refine w_t rfl ?_
        walk_at "go"
        refine w_dgetT g3 hb hgs fun v' iv' => ?_
        walk_at "go"
        refine ⟨sz (by show 2 ≤ _; decide), w_alc fun t H4 e4 n4 h4 => ?_⟩
        walk_at "go"
        have im : Im H4 (.ref t) (.tuple [oD (f s), oD (g s)]) := .tup h4 (show 2 ≤ 1000 by decide) (.cons (by rw [odf]; exact iv.ext e4) (.cons (by rw [odg]; exact iv'.ext e4) .nil))
        refine w_dputT hU (hD.ext e4 List.not_mem_nil) (e4.tup hb) sU im fun H5 e5 h5 => ?_
        refine hN _ _ ⟨(e3.trans e4.up).trans e5, ?_, _, rfl⟩
        rw [resF_put (F := btwF f g) (btw_ne ne)] at h5
        rw [take_snoc hi]; exact h5
      · walk_at "go"
        refine hN _ _ ⟨e3, ?_, _, rfl⟩
        rw [take_snoc hi, resF_skip (F := btwF f g) (btw_eq (hq.mp z))]
        exact hD
  · rintro σ' H3 ⟨e3, hD, u, rfl⟩
    rw [List.take_length] at hD
    refine w_unlock L e3 fun H4 e4 kp => ?_
    have D4 := dm_unlk L e3 kp npD hD
    have f4 := hf1.ext e4 (nm1 npD.symm)
    have g4 := hg1.ext e4 (nm1 nqD.symm)
    obtain ⟨kvs', ks', hq, mq⟩ := id g4
    walk_at "go"
    refine w_lock hq trivial (fun z => z) fun od' H5 L' => ?_
    walk_at "go"
    refine w_keysT rfl L'.at ?_
    have f5 := f4.dr.lk L'
    have g5 := g4.dr.lk L'
    have D5 := D4.lk L' nqD
    refine z_for_keysT mq (fun i σ' H' => Ext [D] H5 H' ∧ DM U H' D (resF (ks ++ ks'.take i) (btwF f g)) ∧ ∃ u, σ' = [some (.ref p), some (.ref q), some (.ref D), u]) ⟨Ext.refl, by rw [List.take_zero, List.append_nil]; exact D5, _, rfl⟩ (fun i σ' H' _ ⟨e, _⟩ => e.imm _ _ L'.at trivial) ?_ ?_
    · rintro N i s d b σ' H6 hi hd hb ⟨e6, hD6, u, rfl⟩ hN
      have f6 := f5.ext e6 (nm1 npD.symm)
      have g6 := g5.ext e6 (nm1 nqD.symm)
      have sU := mq.sub _ (List.mem_of_getElem? hi)
      walk_at "go"; walk_at "if"
      refine w_dinT f6 hb fun o ho => ?_
      rw [ho]
      refine w_bl ?_
      refine w_nb (fun z => ?_) fun z => ?_
      · have fs : f s = none := Option.not_isSome_iff_eq_none.mp (by rw [z]; exact fun y => nomatch y)
        have ne : f s ≠ g s := by rw [fs, hd]; exact fun z => nomatch z
        walk_at "go"
        refine w_dgetT g6 hb hd fun v iv => ?_
        walk_at "go"
        refine ⟨sz (by show 2 ≤ _; decide), w_alc fun t H7 e7 n7 h7 => ?_⟩
        walk_at "go"
        have im : Im H7 (.ref t) (.tuple [oD (f s), oD (g s)]) := .tup h7 (show 2 ≤ 1000 by decide) (.cons (by rw [fs]; exact .non) (.cons (by rw [hd]; exact iv.ext e7) .nil))
        refine w_dputT hU (hD6.ext e7 List.not_mem_nil) (e7.tup hb) sU im fun H8 e8 h8 => ?_
        refine hN _ _ ⟨(e6.trans e7.up).trans e8, ?_, _, rfl⟩
        rw [resF_put (F := btwF f g) (btw_ne ne)] at h8
        rw [take_snoc hi, ← List.append_assoc]; exact h8
      · walk_at "go"
        refine hN _ _ ⟨e6, ?_, _, rfl⟩
        rw [take_snoc hi, ← List.append_assoc, resF_mem (List.mem_append.mpr (.inl (mp.mem.mpr z)))]
        exact hD6
    · rintro σ' H6 ⟨e6, hD6, u, rfl⟩
      rw [List.take_length, resF_all fun s ns => ?_] at hD6
      · refine w_unlock L' e6 fun H7 e7 kp' => ?_
        walk_at "go"
        exact k D H7 ((e1.dropq e4 n1).dropq e7 n1) n1 (dm_unlk L' e6 kp' nqD hD6)
      · refine btw_eq ?_
        have a : ¬ (f s).isSome = true := fun z => ns (List.mem_append.mpr (.inl (mp.mem.mpr z)))
        have b : ¬ (g s).isSome = true := fun z => ns (List.mem_append.mpr (.inr (mq.mem.mpr z)))
        rw [Option.not_isSome_iff_eq_none.mp a, Option.not_isSome_iff_eq_none.mp b]
theorem w_lbetween {H : Hp} {U : List Zk.Slot} {p q : Addr} {f g : Fd} {Q : VK} {E : XK} (hU : U.length ≤ 1000) (hf : DM U H p f) (hg : DM U H q g) (sf : Stt f) (sg : Stt g)
    (k : ∀ r H', Ext [] H H' → H r = none → DM U H' r (btwF f g) → Q (.ref r) H') : sp_law_between K ([.ref p, .ref q] ++ []) H Q E := ⟨_, _, rfl, U, p, q, f, g, rfl, rfl, hU, hf, hg, sf, sg, k⟩

/-! ### names -/
def sgn : Str := Str.ofString "abcdefghijklmnopqrstuvwxyz0123456789"
theorem sgn_len : sgn.cps.toList.length = 36 := by decide +kernel
theorem sgn_ok : ∀ c ∈ sgn.cps.toList, c < 128 := by decide +kernel
theorem sgn_at {r : Int} (h0 : 0 ≤ r) (h1 : r < 36) : ∃ c, atI sgn.cps.toList r = some c ∧ c < 128 := by
  obtain ⟨c, hc, hm⟩ := at_some (xs := sgn.cps.toList) (r := r) h0 (by rw [sgn_len]; exact h1)
  exact ⟨c, hc, sgn_ok c (List.mem_of_getElem? hm)⟩
def sp_law_name (K : PySem.W.Frag) : Sp := sp1 fun a H Q => ∃ (p : Addr), a = .ref p ∧ PoolAt K H p ∧ ∀ (z : Str) H', z.length ≤ 12 → Sg z → Ext [p] H H' → PoolAt K H' p → Q (.str z) H'
theorem ok_law_name (T : Txt K mg) : FnOk P w K mg base CX0 5 T.f__law_name T.d__law_name ["pool"] (sp_law_name K) := by
  refine T.F__law_name.ok sc_law_name len1 (fun cdv A outer s H vs Q E hr h => ?_)
  have nd := sc_law_name.nd
  have hu := hu_of hr
  obtain ⟨_, rfl, p, rfl, hP, k⟩ := h
  refine ⟨_,
      (pss_cons (ps_set (i := 1) nd rfl (Or.inr rfl) pe_str) 
      (pss_cons (ps_set (i := 2) nd rfl (Or.inl rfl) (pe_ix ix_str (pv 1) (pe_call (ok_law_draw T) (hr.mono (by decide)) (by rfl) T.g__law_draw T.F__law_draw.kp T.k__law_draw .nil pass0 (pa_cons (pv 0) (pa_cons pe_int pa_nil))) (fun _ _ => rfl))) 
      (pss_one (ps_ret (pe_op zop_addS (pv 2) (zpe_join pe_str (pe_lc (own := [("k", 3)]) rfl nd (pi_range1 (by rfl) T.b_range (pa_cons (pe_call (ok_law_pick T) (hr.mono (by decide)) (by rfl) T.g__law_pick T.F__law_pick.kp T.k__law_pick .nil pass0 (pa_cons (pv 0) (pa_cons (pe_lstZ (pa_cons pe_int (pa_cons pe_int (pa_cons pe_int (pa_cons pe_int (pa_cons pe_int (pa_cons pe_int pa_nil))))))) pa_nil))) pa_nil)) (blkOk_by (own := [("k", 3)]) (N := ["pool", "signs", "first", "k"]) (sc := defScope s_law_name) (by decide +kernel)) (fun _ _ _ _ _ => (pg_name (i := 3) nd rfl (Or.inl rfl))) (fun _ _ _ _ _ => pts_nil) (fun _ _ _ _ _ => (pe_ix ix_str (pv 1) (pe_call (ok_law_draw T) (hr.mono (by decide)) (by rfl) T.g__law_draw T.F__law_draw.kp T.k__law_draw .nil pass0 (pa_cons (pv 0) (pa_cons pe_int pa_nil))) (fun _ _ => rfl)))))))))), ?_⟩
  change (_ : TS) _ [some _, none, none, none] _
  try dsimp only [cxOf, Cx.nox, Cx.wish]
  walk_at "go"
  refine w_draw hP (by decide) (by decide) fun d H1 a0 a1 e1 P1 => ?_
  obtain ⟨c, hc, c1⟩ := sgn_at a0 (by omega)
  refine w_ixS (sz (by decide +kernel)) hc ?_
  walk_at "go"
  refine ⟨sz (by show 6 ≤ _; decide), w_alc fun o H2 e2 n2 h2 => ?_⟩
  walk_at "go"
  have P2 := P1.ext e2 List.not_mem_nil
  refine w_pick P2 h2 (P1.ne n2).symm (by decide) (by decide) fun v H3 hv e3 P3 => ?_
  obtain ⟨n, rfl, n0, n1⟩ : ∃ n : Int, v = .int n ∧ 0 ≤ n ∧ n ≤ 11 := by
    simp only [List.mem_cons, List.not_mem_nil, or_false] at hv
    rcases hv with rfl | rfl | rfl | rfl | rfl | rfl <;> exact ⟨_, rfl, by decide, by decide⟩
  walk_at "go"
  have e03 : Ext [p] H H3 := (e1.trans e2.up).trans e3
  refine ⟨_, rfl, by omega, by omega, fun D nD => ?_⟩
  refine z_lc_range (lo := 0) (fun i acc H' => Ext [p] H3 H' ∧ PoolAt K H' p ∧ ∃ ss : List Str, acc = ss.map V.str ∧ ss.length = i ∧ (ss.map (·.length)).sum = i ∧ ∀ y ∈ ss, Sg y) nD (fun H' e => ⟨e.up, P3.ext e List.not_mem_nil, [], rfl, rfl, rfl, fun _ m => nomatch m⟩) ?_ ?_
  · rintro Nx i acc H4 hi ⟨e4, P4, ss, rfl, hl, hs, hg⟩ hD hN
    walk_at "go"
    refine ⟨rfl, ?_⟩
    walk_at "go"
    refine w_draw P4 (by decide) (by decide) fun u H5 d0 d1 e5 P5 => ?_
    walk_at "go"
    obtain ⟨c', hc', c2⟩ := sgn_at d0 (by omega)
    refine w_ixS (sz (by decide +kernel)) hc' ?_
    have nDp : D ≠ p := (P3.ne nD).symm
    refine w_app (e5.keep _ _ hD (nm1 nDp)) (szl (by rw [List.length_map]; omega)) fun H6 e6 hD6 => ?_
    refine hN _ _ ⟨(e4.trans e5).dropq e6 nD, P5.ext e6 (nm1 nDp.symm), ss ++ [⟨#[c']⟩], by rw [List.map_append]; rfl, by rw [List.length_append, hl]; rfl, ?_, fun y m => ?_⟩ hD6
    · rw [List.map_append, List.sum_append, hs]
      rfl
    · rcases List.mem_append.mp m with m | m
      · exact hg y m
      · rw [List.mem_singleton.mp m]; exact Sg.one c2
  · rintro acc H4 ⟨e4, P4, ss, rfl, hl, hs, hg⟩ hD
    refine w_join (ys := ss) (sql hD) (by rw [hs, hl, show (Str.ofString "").length = 0 from by decide]; omega) ?_
    have l3 : (Txt.join (Str.ofString "") ss).length = n.toNat := by
      rw [str_len_join (by decide), hs]
    have l2 : (⟨#[c]⟩ : Str).length = 1 := rfl
    refine w_addS (sz (by omega)) ?_
    exact k _ _ (by rw [str_len_append]; omega) ((Sg.one c1).app (Sg.join Sg.empty hg)) (e03.trans e4) P4
theorem w_name {H : Hp} {p : Addr} {Q : VK} {E : XK} (hP : PoolAt K H p) (k : ∀ (z : Str) H', z.length ≤ 12 → Sg z → Ext [p] H H' → PoolAt K H' p → Q (.str z) H') : sp_law_name K ([.ref p] ++ []) H Q E := ⟨_, rfl, p, rfl, hP, k⟩
/-! ### cells -/
theorem cells_snoc {d : PyData} : ∀ {i : Nat} {ds : List PyData}, Cells i ds → Cell (i + ds.length) d → Cells i (ds ++ [d])
  | i, [], _, h => ⟨h, trivial⟩
  | i, x :: ds, h, k => ⟨h.1, cells_snoc h.2 (by rw [show i + 1 + ds.length = i + (x :: ds).length from by rw [List.length_cons]; omega]; exact k)⟩
theorem cell_non : ∀ {i : Nat}, i < 4 → Cell i .none
  | 0, _ => .inl rfl
  | 1, _ => .inl rfl
  | 2, _ => .inl rfl
  | 3, _ => .inl rfl
  | _ + 4, h => by omega
theorem cell_of {H : Hp} {n a b : Int} {z : Str} {k : Bool} {t : Addr} (hz : Sg z) (ht : H t = some (.tup [.str (Str.ofString "sealed"), .str (Str.ofString "int"), .int a, .int b])) : ∀ {i : Nat}, i < 4 → ∃ v d, ([.int n, .str z] ++ [.bl k, .ref t] : List V)[i]? = some v ∧ Cell i d ∧ Im H v d
  | 0, _ => ⟨_, _, rfl, .inr ⟨n, rfl⟩, .int n⟩
  | 1, _ => ⟨_, _, rfl, .inr ⟨z, hz, rfl⟩, .str z⟩
  | 2, _ => ⟨_, _, rfl, .inr ⟨k, rfl⟩, .bl k⟩
  | 3, _ => ⟨_, _, rfl, .inr ⟨a, b, rfl⟩, .tup ht (show 4 ≤ 1000 by decide) (.cons (.str _) (.cons (.str _) (.cons (.int _) (.cons (.int _) .nil))))⟩
  | _ + 4, h => by omega
def sp_law_cells (K : PySem.W.Frag) : Sp := sp1 fun a H Q => ∃ (p : Addr), a = .ref p ∧ PoolAt K H p ∧ ∀ q xs ds H', Ext [p] H H' → PoolAt K H' p → H' q = some (.tup xs) → xs.length ≤ 4 → ImAll H' xs ds → Cells 0 ds → Q (.ref q) H'
theorem ok_law_cells (T : Txt K mg) : FnOk P w K mg base CX0 6 T.f__law_cells T.d__law_cells ["pool"] (sp_law_cells K) := by
  refine T.F__law_cells.ok sc_law_cells len1 (fun cdv A outer s H vs Q E hr h => ?_)
  have nd := sc_law_cells.nd
  have hu := hu_of hr
  obtain ⟨_, rfl, p, rfl, hP, k⟩ := h
  refine ⟨_,
      (pss_cons (ps_set (i := 1) nd rfl (Or.inr rfl) (pe_lstZ (pa_cons (pe_op op_sub (pe_call (ok_law_draw T) (hr.mono (by decide)) (by rfl) T.g__law_draw T.F__law_draw.kp T.k__law_draw .nil pass0 (pa_cons (pv 0) (pa_cons (pe_op op_add (pe_op op_mul pe_int (pe_op op_pow pe_int pe_int)) pe_int) pa_nil))) (pe_op op_pow pe_int pe_int)) (pa_cons (pe_op zop_addS (pe_op zop_mulS pe_str (pe_call (ok_law_draw T) (hr.mono (by decide)) (by rfl) T.g__law_draw T.F__law_draw.kp T.k__law_draw .nil pass0 (pa_cons (pv 0) (pa_cons pe_int pa_nil)))) (pe_call (ok_law_name T) (hr.mono (by decide)) (by rfl) T.g__law_name T.F__law_name.kp T.k__law_name .nil pass0 (pa_cons (pv 0) pa_nil))) pa_nil)))) 
      (pss_cons (ps_set (i := 1) nd rfl (Or.inr rfl) (pe_op zop_cat (pv 1) (pe_lstZ (pa_cons (pe_cmpR op_eq (pe_call (ok_law_draw T) (hr.mono (by decide)) (by rfl) T.g__law_draw T.F__law_draw.kp T.k__law_draw .nil pass0 (pa_cons (pv 0) (pa_cons pe_int pa_nil))) pe_int (nomark _)) (pa_cons (pe_tupZ (pa_cons pe_str (pa_cons pe_str (pa_cons (pe_op op_add pe_int (pe_call (ok_law_draw T) (hr.mono (by decide)) (by rfl) T.g__law_draw T.F__law_draw.kp T.k__law_draw .nil pass0 (pa_cons (pv 0) (pa_cons pe_int pa_nil)))) (pa_cons (pe_call (ok_law_draw T) (hr.mono (by decide)) (by rfl) T.g__law_draw T.F__law_draw.kp T.k__law_draw .nil pass0 (pa_cons (pv 0) (pa_cons (pe_op op_mul pe_int (pe_op op_pow pe_int pe_int)) pa_nil))) pa_nil))))) pa_nil))))) 
      (pss_one (ps_ret (pe_callTy zc_tup (by rfl) T.b_tuple (by decide +kernel) (pa_cons (pe_lc (own := [("k", 2)]) rfl nd (pi_range1 (by rfl) T.b_range (pa_cons (pe_call (ok_law_draw T) (hr.mono (by decide)) (by rfl) T.g__law_draw T.F__law_draw.kp T.k__law_draw .nil pass0 (pa_cons (pv 0) (pa_cons pe_int pa_nil))) pa_nil)) (blkOk_by (own := [("k", 2)]) (N := ["pool", "cells", "k"]) (sc := defScope s_law_cells) (by decide +kernel)) (fun _ _ _ _ _ => (pg_name (i := 2) nd rfl (Or.inl rfl))) (fun _ _ _ _ _ => pts_nil) (fun _ _ _ _ _ => (pe_ifExp (pt_cmpR op_gt (pe_call (ok_law_draw T) (hr.mono (by decide)) (by rfl) T.g__law_draw T.F__law_draw.kp T.k__law_draw .nil pass0 (pa_cons (pv 0) (pa_cons pe_int pa_nil))) pe_int (nomark _)) (pe_ix (ix_listK (K := K) rfl) (pv 1) (pv 2) (fun _ _ => rfl)) pe_non))) pa_nil)))))), ?_⟩
  change (_ : TS) _ [some _, none, none] _
  try dsimp only [cxOf, Cx.nox, Cx.wish]
  walk_at "go"
  refine w_draw hP (by decide) (by decide) fun d H1 a0 a1 e1 P1 => ?_
  walk_at "go"
  refine w_draw P1 (by decide) (by decide) fun x H2 b0 b1 e2 P2 => ?_
  walk_at "go"
  refine w_mulS (by decide) (by omega) ?_
  walk_at "go"
  refine w_name P2 fun z H3 zl zg e3 P3 => ?_
  have lx : (Txt.mul (Str.ofString "x") x).length = x.toNat := by
    rw [str_len_mul b0, show (Str.ofString "x").length = 1 from by decide, Nat.one_mul]
  refine w_addS (sz (by omega)) ?_
  have sg : Sg (Txt.mul (Str.ofString "x") x ++ z) := (Sg.mul (fun c hc => by
    have : ∀ c ∈ (Str.ofString "x").cps.toList, c < 128 := by decide
    exact this c hc) x).app zg
  generalize Txt.mul (Str.ofString "x") x ++ z = zz at sg ⊢
  walk_at "go"
  refine ⟨sz (by show 2 ≤ _; decide), w_alc fun q1 H4 e4 n4 h4 => ?_⟩
  walk_at "go"
  refine w_draw (P3.ext e4 List.not_mem_nil) (by decide) (by decide) fun y H5 c0 c1 e5 P5 => ?_
  walk_at "go"
  refine w_draw P5 (by decide) (by decide) fun u H6 f0 f1 e6 P6 => ?_
  walk_at "go"
  refine w_draw P6 (by decide) (by decide) fun v H7 g0 g1 e7 P7 => ?_
  walk_at "go"
  refine ⟨sz (by show 4 ≤ _; decide), w_alc fun t H8 e8 n8 h8 => ?_⟩
  walk_at "go"
  refine ⟨sz (by show 2 ≤ _; decide), w_alc fun q2 H9 e9 n9 h9 => ?_⟩
  have nq1 : q1 ≠ p := (P3.ne n4).symm
  have h4' := e9.keep _ _ (e8.keep _ _ (e7.keep _ _ (e6.keep _ _ (e5.keep _ _ h4 (nm1 nq1)) (nm1 nq1)) (nm1 nq1)) List.not_mem_nil) List.not_mem_nil
  have P9 := (P7.ext e8 List.not_mem_nil).ext e9 List.not_mem_nil
  refine w_cat h4' h9 (sz (by show 2 + 2 ≤ _; decide)) (w_alc fun q3 HA eA nA hA => ?_)
  walk_at "go"
  have PA := P9.ext eA List.not_mem_nil
  have hT := eA.tup (e9.tup h8)
  have eHA : Ext [p] H HA := ((((((((e1.trans e2).trans e3).trans e4.up).trans e5).trans e6).trans e7).trans e8.up).trans e9.up).trans eA.up
  refine w_draw PA (by decide) (by decide) fun n HB m0 m1 eB PB => ?_
  walk_at "go"
  have nq3 : q3 ≠ p := (P9.ne nA).symm
  have hB := eB.keep _ _ hA (nm1 nq3)
  refine ⟨_, rfl, by omega, by omega, fun D nD => ?_⟩
  have nDp : D ≠ p := (PB.ne nD).symm
  refine z_lc_range (lo := 0) (fun i acc H' => Ext [p] HB H' ∧ PoolAt K H' p ∧ ∃ ds, ImAll H' acc ds ∧ Cells 0 ds ∧ ds.length = i) nD (fun H' e => ⟨e.up, PB.ext e List.not_mem_nil, [], .nil, trivial, rfl⟩) ?_ ?_
  · rintro Nx i acc HC hi ⟨eC, PC, ds, hia, hcs, hl⟩ hD hN
    walk_at "go"
    refine ⟨rfl, ?_⟩
    walk_at "go"
    refine w_cutE (fun v H' => Ext [p] HC H' ∧ PoolAt K H' p ∧ ∃ d, Cell i d ∧ Im H' v d) ?_ fun Q' hQ => ?_
    · rintro v HE ⟨eE, PE, d, hc, im⟩
      refine w_app (eE.keep _ _ hD (nm1 nDp)) (szl (by rw [hia.len]; omega)) fun HF eF hF => ?_
      exact hN _ _ ⟨(eC.trans eE).dropq eF nD, PE.ext eF (nm1 nDp.symm), ds ++ [d], ImAll.snoc (im.ext eF) ((hia.ext eE).ext eF), cells_snoc hcs (by rw [hl, Nat.zero_add]; exact hc), by rw [List.length_append, hl]; rfl⟩ hF
    · walk_at "ife"
      refine w_draw PC (by decide) (by decide) fun w HE w0 w1 eE PE => ?_
      walk_at "go"
      refine w_d (fun h => ?_) fun h => ?_
      · walk_at "go"
        obtain ⟨v, d, hv, hc, im⟩ := cell_of (n := d - 10 ^ 9) (z := zz) (k := decide (y = 1)) sg hT (i := i) (by omega)
        refine w_ixL (sql (eE.keep _ _ (eC.keep _ _ hB (nm1 nq3)) (nm1 nq3))) (at_nat0 hv) ?_
        exact hQ _ _ ⟨eE, PE, d, hc, ((im.ext eB).ext eC).ext eE⟩
      · walk_at "go"
        exact hQ _ _ ⟨eE, PE, _, cell_non (by omega), .non⟩
  · rintro acc HC ⟨eC, PC, ds, hia, hcs, hl⟩ hD
    walk_at "go"
    refine w_tupL (sql hD) (w_alc fun q HE eE nE hE => ?_)
    refine k q acc ds HE (((eHA.trans eB).trans eC).trans eE.up) (PC.ext eE List.not_mem_nil) hE (by rw [hia.len]; omega) (hia.ext eE) hcs
theorem w_cells {H : Hp} {p : Addr} {Q : VK} {E : XK} (hP : PoolAt K H p) (k : ∀ q xs ds H', Ext [p] H H' → PoolAt K H' p → H' q = some (.tup xs) → xs.length ≤ 4 → ImAll H' xs ds → Cells 0 ds → Q (.ref q) H') : sp_law_cells K ([.ref p] ++ []) H Q E := ⟨_, rfl, p, rfl, hP, k⟩

/-! ### contents -/
def sp_law_content (K : PySem.W.Frag) : Sp := sp2 fun a b H Q => ∃ (p q : Addr) (s : Zk.Slot), a = .ref p ∧ b = .ref q ∧ PoolAt K H p ∧ H q = some (.tup (sVs s)) ∧ ∀ v d H', Ext [p] H H' → PoolAt K H' p → Im H' v d → Cont d → Q v H'
theorem ok_law_content (T : Txt K mg) : FnOk P w K mg base CX0 7 T.f__law_content T.d__law_content ["pool", "slot"] (sp_law_content K) := by
  refine T.F__law_content.ok sc_law_content len2 (fun cdv A outer s H vs Q E hr h => ?_)
  have nd := sc_law_content.nd
  have hu := hu_of hr
  obtain ⟨_, _, rfl, p, q, s, rfl, rfl, hP, hq, k⟩ := h
  refine ⟨_,
      (pss_cons (ps_if (pt_cmpR op_gt (pe_ix ix_tup (pv 1) pe_int (fun _ _ => rfl)) pe_int (nomark _)) 
        (pss_one (ps_ret (pe_tupZ (pa_cons pe_str (pa_cons (pe_call (ok_law_draw T) (hr.mono (by decide)) (by rfl) T.g__law_draw T.F__law_draw.kp T.k__law_draw .nil pass0 (pa_cons (pv 0) (pa_cons pe_int pa_nil))) (pa_cons (pe_call (ok_law_pick T) (hr.mono (by decide)) (by rfl) T.g__law_pick T.F__law_pick.kp T.k__law_pick .nil pass0 (pa_cons (pv 0) (pa_cons (pe_lstZ (pa_cons pe_int (pa_cons pe_int (pa_cons pe_int (pa_cons (pe_op op_pow pe_int pe_int) pa_nil))))) pa_nil))) (pa_cons (pe_call (ok_law_cells T) (hr.mono (by decide)) (by rfl) T.g__law_cells T.F__law_cells.kp T.k__law_cells .nil pass0 (pa_cons (pv 0) pa_nil)) pa_nil))))))) pss_nil) 
      (pss_cons (ps_if (pt_cmpR op_eq (pe_call (ok_law_draw T) (hr.mono (by decide)) (by rfl) T.g__law_draw T.F__law_draw.kp T.k__law_draw .nil pass0 (pa_cons (pv 0) (pa_cons pe_int pa_nil))) pe_int (nomark _)) 
        (pss_one (ps_ret (pe_tupZ (pa_cons pe_str (pa_cons (pe_op op_add pe_int (pe_call (ok_law_draw T) (hr.mono (by decide)) (by rfl) T.g__law_draw T.F__law_draw.kp T.k__law_draw .nil pass0 (pa_cons (pv 0) (pa_cons pe_int pa_nil)))) pa_nil))))) pss_nil) 
      (pss_one (ps_ret (pe_tupZ (pa_cons pe_str (pa_cons (pe_call (ok_law_draw T) (hr.mono (by decide)) (by rfl) T.g__law_draw T.F__law_draw.kp T.k__law_draw .nil pass0 (pa_cons (pv 0) (pa_cons pe_int pa_nil))) (pa_cons (pe_op op_add pe_int (pe_call (ok_law_draw T) (hr.mono (by decide)) (by rfl) T.g__law_draw T.F__law_draw.kp T.k__law_draw .nil pass0 (pa_cons (pv 0) (pa_cons pe_int pa_nil)))) (pa_cons (pe_cmpR op_eq (pe_call (ok_law_draw T) (hr.mono (by decide)) (by rfl) T.g__law_draw T.F__law_draw.kp T.k__law_draw .nil pass0 (pa_cons (pv 0) (pa_cons pe_int pa_nil))) pe_int (nomark _)) (pa_cons (pe_op op_add pe_int (pe_call (ok_law_draw T) (hr.mono (by decide)) (by rfl) T.g__law_draw T.F__law_draw.kp T.k__law_draw .nil pass0 (pa_cons (pv 0) (pa_cons pe_int pa_nil)))) pa_nil)))))))))), ?_⟩
  change (_ : TS) _ [some _, some _] _
  try dsimp only [cxOf, Cx.nox, Cx.wish]
  walk_at "go"
  refine w_cut (fun σ' H' => H = H' ∧ σ' = [some (.ref p), some (.ref q)]) ?_ fun nx hn => ?_
  · rintro _ _ ⟨rfl, rfl⟩
    walk_at "go"
    refine w_cut (fun σ' H' => Ext [p] H H' ∧ PoolAt K H' p ∧ σ' = [some (.ref p), some (.ref q)]) ?_ fun nx hn => ?_
    · rintro _ H1 ⟨e1, P1, rfl⟩
      walk_at "go"
      refine w_draw P1 (by decide) (by decide) fun a H2 a0 a1 e2 P2 => ?_
      walk_at "go"
      refine w_draw P2 (by decide) (by decide) fun b H3 b0 b1 e3 P3 => ?_
      walk_at "go"
      refine w_draw P3 (by decide) (by decide) fun c H4 c0 c1 e4 P4 => ?_
      walk_at "go"
      refine w_draw P4 (by decide) (by decide) fun d H5 d0 d1 e5 P5 => ?_
      walk_at "go"
      refine ⟨sz (by show 5 ≤ _; decide), w_alc fun t H6 e6 n6 h6 => ?_⟩
      exact k _ _ _ (((((e1.trans e2).trans e3).trans e4).trans e5).trans e6.up) (P5.ext e6 List.not_mem_nil) (.tup h6 (show 5 ≤ 1000 by decide) (.cons (.str _) (.cons (.int _) (.cons (.int _) (.cons (.bl _) (.cons (.int _) .nil)))))) (.inr (.inr ⟨_, _, _, _, rfl⟩))
    · walk_at "if"
      refine w_draw hP (by decide) (by decide) fun a H2 a0 a1 e2 P2 => ?_
      walk_at "go"
      refine w_d (fun h => ?_) fun h => ?_ <;> walk_at "go"
      · refine w_draw P2 (by decide) (by decide) fun b H3 b0 b1 e3 P3 => ?_
        walk_at "go"
        refine ⟨sz (by show 2 ≤ _; decide), w_alc fun t H6 e6 n6 h6 => ?_⟩
        exact k _ _ _ ((e2.trans e3).trans e6.up) (P3.ext e6 List.not_mem_nil) (.tup h6 (show 2 ≤ 1000 by decide) (.cons (.str _) (.cons (.int _) .nil))) (.inr (.inl ⟨_, rfl⟩))
      · exact hn _ _ ⟨e2, P2, rfl⟩
  · walk_at "if"
    refine w_d (fun h => ?_) fun h => ?_ <;> walk_at "go"
    · refine w_draw hP (by decide) (by decide) fun a H2 a0 a1 e2 P2 => ?_
      walk_at "go"
      refine ⟨sz (by show 4 ≤ _; decide), w_alc fun o H3 e3 n3 h3 => ?_⟩
      walk_at "go"
      refine w_pick (P2.ext e3 List.not_mem_nil) h3 (P2.ne n3).symm (by decide) (by decide) fun v H4 hv e4 P4 => ?_
      obtain ⟨n, rfl⟩ : ∃ n : Int, v = .int n := by
        simp only [List.mem_cons, List.not_mem_nil, or_false] at hv
        rcases hv with rfl | rfl | rfl | rfl <;> exact ⟨_, rfl⟩
      walk_at "go"
      refine w_cells P4 fun t xs ds H5 e5 P5 h5 lz ia hc => ?_
      walk_at "go"
      refine ⟨sz (by show 4 ≤ _; decide), w_alc fun t2 H6 e6 n6 h6 => ?_⟩
      exact k _ _ _ ((((e2.trans e3.up).trans e4).trans e5).trans e6.up) (P5.ext e6 List.not_mem_nil) (.tup h6 (show 4 ≤ 1000 by decide) (.cons (.str _) (.cons (.int _) (.cons (.int _) (.cons (.tup (e6.tup h5) (by omega) (ia.ext e6)) .nil))))) (.inl ⟨_, _, _, hc, rfl⟩)
    · exact hn _ _ ⟨rfl, rfl⟩
theorem w_content {H : Hp} {p q : Addr} {s : Zk.Slot} {Q : VK} {E : XK} (hP : PoolAt K H p) (hq : H q = some (.tup (sVs s))) (k : ∀ v d H', Ext [p] H H' → PoolAt K H' p → Im H' v d → Cont d → Q v H') : sp_law_content K ([.ref p, .ref q] ++ []) H Q E := ⟨_, _, rfl, p, q, s, rfl, rfl, hP, hq, k⟩
/-! ### the slots that are drawn from -/
theorem slots_dp {H : Hp} {as : List Addr} {ss : List Zk.Slot} (h : SlotsAt H as ss) : DpAll K H (as.map V.ref) (ss.map sD) := by
  unfold SlotsAt at h
  induction h with
  | nil => exact .nil
  | cons h t ih => exact .cons (im_slot h).dp ih
theorem slots_shaped : ∀ {ss : List Zk.Slot}, (∀ s ∈ ss, Sg s.1) → PyData.canLayAll0 (ss.map sD) = true ∧ PyData.depthAll (ss.map sD) ≤ 1
  | [], _ => by simp [PyData.canLayAll0, PyData.depthAll]
  | s :: ss, h => by
    obtain ⟨a, b⟩ := slots_shaped fun t m => h t (List.mem_cons_of_mem _ m)
    have c := SeqAt.canLay_of_shaped (sD_shaped (h s List.mem_cons_self))
    rw [List.map_cons, PyData.canLayAll0, PyData.depthAll, a, c, sD_depth]
    exact ⟨rfl, Nat.max_le.mpr ⟨Nat.le_refl _, b⟩⟩
theorem slots_shaped' {ss : List Zk.Slot} (h : ∀ s ∈ ss, Sg s.1) : SeqAt.shaped (.list (ss.map sD)) = true := by
  obtain ⟨a, b⟩ := slots_shaped h
  unfold SeqAt.shaped
  rw [PyData.canLay0, PyData.depth, a, decide_eq_true (by omega)]
  rfl
def sp_law_universe (K : PySem.W.Frag) : Sp := sp2 fun a b H Q => ∃ (p : Addr), a = .ref p ∧ b = .int 7 ∧ PoolAt K H p ∧
  ∀ o bs ss H', Ext [p] H H' → PoolAt K H' p → H o = none → H' o = some (.lst (bs.map V.ref)) → SlotsAt H' bs ss → 1 ≤ ss.length → ss.length ≤ 8 → (∀ s ∈ ss, Sg s.1) → o ≠ p → Q (.ref o) H'
theorem ok_law_universe (T : Txt K mg) : FnOk P w K mg base CX0 6 T.f__law_universe T.d__law_universe ["pool", "many"] (sp_law_universe K) := by
  refine T.F__law_universe.ok sc_law_universe len2 (fun cdv A outer s H vs Q E hr h => ?_)
  have nd := sc_law_universe.nd
  have hu := hu_of hr
  obtain ⟨_, _, rfl, p, rfl, rfl, hP, k⟩ := h
  refine ⟨_,
      (pss_cons (ps_setLc (i := 3) (own := [("k", 2)]) rfl nd rfl rfl (sw_true rfl rfl rfl (by decide +kernel)) (pi_range1 (by rfl) T.b_range (pa_cons (pe_op op_add pe_int (pe_call (ok_law_draw T) (hr.mono (by decide)) (by rfl) T.g__law_draw T.F__law_draw.kp T.k__law_draw .nil pass0 (pa_cons (pv 0) (pa_cons pe_int pa_nil)))) pa_nil)) (blkOk_by (own := [("k", 2)]) (N := ["pool", "many", "k", "names", "found", "slot"]) (sc := defScope s_law_universe) (by decide +kernel)) (fun _ _ _ _ _ => (pg_name (i := 2) nd rfl (Or.inl rfl))) (fun _ _ _ _ _ => pts_nil) (fun _ _ _ _ _ => (pe_call (ok_law_name T) (hr.mono (by decide)) (by rfl) T.g__law_name T.F__law_name.kp T.k__law_name .nil pass0 (pa_cons (pv 0) pa_nil)))) 
      (pss_cons (ps_set (i := 4) nd rfl (Or.inl rfl) (pe_lstZ pa_nil)) 
      (pss_cons (ps_for PassesOwn.never rfl (pi_range1 (by rfl) T.b_range (pa_cons (pe_op op_add pe_int (pe_call (ok_law_draw T) (hr.mono (by decide)) (by rfl) T.g__law_draw T.F__law_draw.kp T.k__law_draw .nil pass0 (pa_cons (pv 0) (pa_cons (pv 1) pa_nil)))) pa_nil)) (pg_name (i := 2) nd rfl (Or.inl rfl)) 
        (pss_cons (ps_set (i := 5) nd rfl (Or.inl rfl) (pe_tupZ (pa_cons (pe_call (ok_law_pick T) (hr.mono (by decide)) (by rfl) T.g__law_pick T.F__law_pick.kp T.k__law_pick .nil pass0 (pa_cons (pv 0) (pa_cons (pv 3) pa_nil))) (pa_cons (pe_op op_add pe_int (pe_call (ok_law_draw T) (hr.mono (by decide)) (by rfl) T.g__law_draw T.F__law_draw.kp T.k__law_draw .nil pass0 (pa_cons (pv 0) (pa_cons pe_int pa_nil)))) (pa_cons (pe_op op_add pe_int (pe_call (ok_law_draw T) (hr.mono (by decide)) (by rfl) T.g__law_draw T.F__law_draw.kp T.k__law_draw .nil pass0 (pa_cons (pv 0) (pa_cons (pe_op op_pow pe_int pe_int) pa_nil)))) pa_nil))))) 
        (pss_cons (ps_if (pt_cmpR op_eq (pe_call (ok_law_draw T) (hr.mono (by decide)) (by rfl) T.g__law_draw T.F__law_draw.kp T.k__law_draw .nil pass0 (pa_cons (pv 0) (pa_cons pe_int pa_nil))) pe_int (nomark _)) 
          (pss_one (ps_set (i := 5) nd rfl (Or.inl rfl) (pe_tupZ (pa_cons (pe_ix ix_tup (pv 5) pe_int (fun _ _ => rfl)) (pa_cons pe_int (pa_cons pe_int pa_nil)))))) pss_nil) 
        (pss_one (ps_if (pt_cmpR (op_notInD (room65 hr)) (pv 5) (pv 4) (by rfl)) 
          (pss_one (ps_expr (pe_bm PySem.F.plainAttrs_list PySem.F.slot_list_append PySem.F.type_list_append zmt_append (pv 4) (pa_cons (pv 5) pa_nil)))) pss_nil))))) 
      (pss_one (ps_ret (pv 4)))))), ?_⟩
  change (_ : TS) _ [some _, some _, none, none, none, none] _
  try dsimp only [cxOf, Cx.nox, Cx.wish]
  walk_at "go"
  refine w_draw hP (by decide) (by decide) fun n H1 n0 n1 e1 P1 => ?_
  walk_at "go"
  refine ⟨_, rfl, by omega, by omega, fun D nD => ?_⟩
  have nDp : D ≠ p := (P1.ne nD).symm
  refine z_lc_range (lo := 0) (fun i acc H' => Ext [p] H1 H' ∧ PoolAt K H' p ∧ ∃ ns : List Str, acc = ns.map V.str ∧ ns.length = i ∧ ∀ y ∈ ns, Sg y) nD (fun H' e => ⟨e.up, P1.ext e List.not_mem_nil, [], rfl, rfl, fun _ m => nomatch m⟩) ?_ ?_
  · rintro Nx i acc H2 hi ⟨e2, P2, ns, rfl, hl, hg⟩ hD hN
    walk_at "go"
    refine ⟨rfl, ?_⟩
    walk_at "go"
    refine w_name P2 fun z H3 zl zg e3 P3 => ?_
    refine w_app (e3.keep _ _ hD (nm1 nDp)) (szl (by rw [List.length_map]; omega)) fun H4 e4 h4 => ?_
    refine hN _ _ ⟨(e2.trans e3).dropq e4 nD, P3.ext e4 (nm1 nDp.symm), ns ++ [z], by rw [List.map_append]; rfl, by rw [List.length_append, hl]; rfl, fun y m => ?_⟩ h4
    rcases List.mem_append.mp m with m | m
    · exact hg y m
    · rw [List.mem_singleton.mp m]; exact zg
  · rintro acc H2 ⟨e2, P2, ns, rfl, hl, hg⟩ hD
    walk_at "go"
    refine ⟨Nat.zero_le _, w_alc fun o H3 e3 n3 h3 => ?_⟩
    walk_at "go"
    have P3 := P2.ext e3 List.not_mem_nil
    have nop : o ≠ p := (P2.ne n3).symm
    have nDo : D ≠ o := ne_of_none hD n3
    have hD3 := e3.keep _ _ hD List.not_mem_nil
    refine w_draw P3 (by decide) (by decide) fun m H4 m0 m1 e4 P4 => ?_
    walk_at "go"
    have nD0 : H D = none := e1.free nD
    have no0 : H o = none := (e1.trans e2).free n3
    have e04 : Ext [p] H H4 := ((e1.trans e2).trans e3.up).trans e4
    have hD4 := e4.keep _ _ hD3 (nm1 nDp)
    have h4 := e4.keep _ _ h3 (nm1 nop)
    refine ⟨_, rfl, by omega, by omega, z_for_range (lo := 0) (fun i σ' H' => ∃ (bs : List Addr) (ss : List Zk.Slot) (u v : Option V), σ' = [some (.ref p), some (.int 7), u, some (.ref D), some (.ref o), v] ∧ Ext [p] H H' ∧ PoolAt K H' p ∧
      H' D = some (.lst (ns.map V.str)) ∧ H' o = some (.lst (bs.map V.ref)) ∧ SlotsAt H' bs ss ∧ ss.length ≤ i ∧ (0 < i → 1 ≤ ss.length) ∧ ∀ s ∈ ss, Sg s.1) ⟨[], [], _, _, rfl, e04, P4, hD4, h4, .nil, Nat.zero_le _, fun h => by omega, fun _ m => nomatch m⟩ ?_ ?_⟩
    · rintro N i σ' H5 hi ⟨bs, ss, u, v, rfl, e5, P5, hD5, h5, hss, hl5, hl6, hsg⟩ hN
      walk_at "go"
      refine w_pick P5 hD5 nDp (by rw [List.length_map, hl]; omega) (by rw [List.length_map, hl]; omega) fun v H6 hv e6 P6 => ?_
      obtain ⟨z, hz, rfl⟩ := List.mem_map.mp hv
      have zg := hg z hz
      walk_at "go"
      refine w_draw P6 (by decide) (by decide) fun a H7 a0 a1 e7 P7 => ?_
      walk_at "go"
      refine w_draw P7 (by decide) (by decide) fun b H8 b0 b1 e8 P8 => ?_
      walk_at "go"
      refine ⟨sz (by show 3 ≤ _; decide), w_alc fun t H9 e9 n9 h9 => ?_⟩
      walk_at "go"
      have P9 := P8.ext e9 List.not_mem_nil
      have e59 : Ext [p] H5 H9 := ((e6.trans e7).trans e8).trans e9.up
      refine w_cut (fun σ' H' => Ext [p] H5 H' ∧ PoolAt K H' p ∧ ∃ (t : Addr) (s : Zk.Slot) (u : Option V), σ' = [some (.ref p), some (.int 7), u, some (.ref D), some (.ref o), some (.ref t)] ∧ H' t = some (.tup (sVs s)) ∧ Sg s.1) ?_ fun nx hn => ?_
      · rintro _ HA ⟨eA, PA, t, s, u, rfl, ht, sg⟩
        have hA := eA.keep _ _ h5 (nm1 nop)
        have hDA := eA.keep _ _ hD5 (nm1 nDp)
        have sA := hss.ext eA
        walk_at "go"; walk_at "if"
        refine ⟨sD s, ss.map sD, (im_slot ht).dp, .lst (sql hA) (slots_dp sA), sD_shaped sg, slots_shaped' hsg, ?_⟩
        refine w_bl ?_
        refine w_nb (fun z => ?_) fun z => ?_
        · walk_at "go"
          refine w_append hA (szl (by rw [List.length_map, hss.len]; omega)) ?_
          refine w_chg hA (fun z => z) fun HB eB hB => ?_
          walk_at "go"
          rw [← List.map_singleton (f := V.ref), ← List.map_append] at hB
          refine hN _ _ ⟨bs ++ [t], ss ++ [s], _, _, rfl, (e5.trans eA).dropq eB no0, PA.ext eB (nm1 nop.symm), eB.keep _ _ hDA (nm1 nDo), hB, (sA.ext eB).snoc (eB.tup ht), by rw [List.length_append]; exact Nat.succ_le_succ hl5, fun _ => by rw [List.length_append]; exact Nat.le_add_left _ _, fun y m => ?_⟩
          rcases List.mem_append.mp m with m | m
          · exact hsg y m
          · rw [List.mem_singleton.mp m]; exact sg
        · walk_at "go"
          refine hN _ _ ⟨bs, ss, _, _, rfl, e5.trans eA, PA, hDA, hA, sA, Nat.le_succ_of_le hl5, fun _ => ?_, hsg⟩
          cases ss with
          | nil => cases z
          | cons s r => exact Nat.succ_le_succ (Nat.zero_le _)
      · walk_at "if"
        refine w_draw P9 (by decide) (by decide) fun w HA w0 w1 eA PA => ?_
        walk_at "go"
        refine w_d (fun h => ?_) fun h => ?_
        · have hA := eA.tup h9
          walk_at "go"
          refine ⟨sz (by show 3 ≤ _; decide), w_alc fun t' HB eB nB hB => ?_⟩
          walk_at "go"
          exact hn _ _ ⟨(e59.trans eA).trans eB.up, PA.ext eB List.not_mem_nil, t', (z, 0, 0), _, rfl, hB, zg⟩
        · walk_at "go"
          exact hn _ _ ⟨e59.trans eA, PA, t, (z, 1 + a, 1 + b), _, rfl, eA.tup h9, zg⟩
    · rintro σ' H5 ⟨bs, ss, u, v, rfl, e5, P5, hD5, h5, hss, hl5, hl6, hsg⟩
      walk_at "go"
      exact k o bs ss H5 e5 P5 no0 h5 hss (hl6 (by omega)) (by omega) hsg nop
theorem w_universe {H : Hp} {p : Addr} {Q : VK} {E : XK} (hP : PoolAt K H p) (k : ∀ o bs ss H', Ext [p] H H' → PoolAt K H' p → H o = none → H' o = some (.lst (bs.map V.ref)) → SlotsAt H' bs ss → 1 ≤ ss.length → ss.length ≤ 8 → (∀ s ∈ ss, Sg s.1) → o ≠ p → Q (.ref o) H') :
    sp_law_universe K ([.ref p, .int 7] ++ []) H Q E := ⟨_, _, rfl, p, rfl, rfl, hP, k⟩

theorem pd_ne {U : List Zk.Slot} {H : Hp} {p d : Addr} {f : Fd} (hP : PoolAt K H p) (h : DM U H d f) : d ≠ p := by
  obtain ⟨sc, ns, pl, re, fi, h1, _⟩ := hP
  obtain ⟨kvs, ks, h2, _⟩ := h
  intro z
  subst z
  rw [h1] at h2
  cases h2
theorem ld_ne {U : List Zk.Slot} {H : Hp} {q d : Addr} {xs : List V} {f : Fd} (hq : H q = some (.lst xs)) (h : DM U H d f) : d ≠ q := by
  obtain ⟨kvs, ks, h2, _⟩ := h
  intro z
  subst z
  rw [hq] at h2
  cases h2
theorem w_tyT {H : Hp} {a : Addr} {kvs : List (List Key × V)} {R : Prop} (h : H a = some (.dT kvs)) (q : R) : tyV K "dict" (.ref a) H ∧ R := ⟨.inr (.inr (.inl ⟨rfl, .inr ⟨kvs, h⟩⟩)), q⟩
theorem w_clearD {U : List Zk.Slot} {H : Hp} {a : Addr} {f : Fd} {Q : VK} (h : DM U H a f) (k : ∀ H', Ext [a] H H' → Q .non H') : tyV K "dict" (.ref a) H ∧ rClearT (.ref a) [] H Q := by
  obtain ⟨kvs, ks, h, _⟩ := h
  exact w_tyT h (w_clearT h k)
/-! ### a state moved on -/
def sp_law_moved (K : PySem.W.Frag) : Sp := sp4 fun a b c d H Q => ∃ (U : List Zk.Slot) (p o q : Addr) (bs : List Addr) (ss : List Zk.Slot) (f : Fd), a = .ref p ∧ b = .ref o ∧ c = .ref q ∧ d = .int 6 ∧ Pln U ∧ PoolAt K H p ∧ H o = some (.lst (bs.map V.ref)) ∧ o ≠ p ∧ SlotsAt H bs ss ∧ 1 ≤ ss.length ∧ ss.length ≤ 8 ∧ (∀ s ∈ ss, s ∈ U) ∧ DM U H q f ∧ Stt f ∧
  ∀ r f' H', Ext [p] H H' → PoolAt K H' p → H r = none → DM U H' r f' → Stt f' → Q (.ref r) H'
theorem ok_law_moved (T : Txt K mg) : FnOk P w K mg base CX0 8 T.f__law_moved T.d__law_moved ["pool", "slots", "state", "most"] (sp_law_moved K) := by
  refine T.F__law_moved.ok sc_law_moved len4 (fun cdv A outer s H vs Q E hr h => ?_)
  have nd := sc_law_moved.nd
  have hu := hu_of hr
  obtain ⟨_, _, _, _, rfl, U, p, o, q, bs, ss, f, rfl, rfl, rfl, rfl, hU, hP, ho, nop, hss, l1, l8, hsU, hf, sf, k⟩ := h
  refine ⟨_,
      (pss_cons (ps_set (i := 4) nd rfl (Or.inl rfl) (pe_call (ok_law_copy T) (hr.mono (by decide)) (by rfl) T.g__law_copy T.F__law_copy.kp T.k__law_copy .nil pass0 (pa_cons (pv 2) pa_nil))) 
      (pss_cons (ps_for PassesOwn.never rfl (pi_range1 (by rfl) T.b_range (pa_cons (pe_call (ok_law_draw T) (hr.mono (by decide)) (by rfl) T.g__law_draw T.F__law_draw.kp T.k__law_draw .nil pass0 (pa_cons (pv 0) (pa_cons (pe_op op_add (pv 3) pe_int) pa_nil))) pa_nil)) (pg_name (i := 5) nd rfl (Or.inl rfl)) 
        (pss_cons (ps_set (i := 6) nd rfl (Or.inl rfl) (pe_call (ok_law_pick T) (hr.mono (by decide)) (by rfl) T.g__law_pick T.F__law_pick.kp T.k__law_pick .nil pass0 (pa_cons (pv 0) (pa_cons (pv 1) pa_nil)))) 
        (pss_one (ps_if (PW.pt (pw_and (pt_cmp (pc_din hu (pv 6) (pv 4))) (pw_and1 (pt_cmpR op_eq (pe_call (ok_law_draw T) (hr.mono (by decide)) (by rfl) T.g__law_draw T.F__law_draw.kp T.k__law_draw .nil pass0 (pa_cons (pv 0) (pa_cons pe_int pa_nil))) pe_int (nomark _))))) 
          (pss_one (ps_set (i := 4) nd rfl (Or.inl rfl) (pe_call (ok_law_without T) (hr.mono (by decide)) (by rfl) T.g__law_without T.F__law_without.kp T.k__law_without .nil pass0 (pa_cons (pv 4) (pa_cons (pv 6) pa_nil))))) 
          (pss_one (ps_dput hu (pv 4) (pv 6) (pe_call (ok_law_content T) (hr.mono (by decide)) (by rfl) T.g__law_content T.F__law_content.kp T.k__law_content .nil pass0 (pa_cons (pv 0) (pa_cons (pv 6) pa_nil))) rfl)))))) 
      (pss_one (ps_ret (pv 4))))), ?_⟩
  change (_ : TS) _ [some _, some _, some _, some _, none, none, none] _
  try dsimp only [cxOf, Cx.nox, Cx.wish]
  walk_at "go"
  refine w_sp1 ⟨U, q, f, rfl, hU.1, hf, fun D H1 e1 n1 h1 => ?_⟩
  walk_at "go"
  have P1 := hP.ext e1 List.not_mem_nil
  refine w_draw P1 (by decide) (by decide) fun n H2 n0 n1' e2 P2 => ?_
  walk_at "go"
  have nDp : D ≠ p := pd_ne P1 h1
  refine ⟨_, rfl, by omega, by omega, z_for_range (lo := 0) (fun i σ' H' => Ext [p] H H' ∧ PoolAt K H' p ∧ ∃ (D : Addr) (f' : Fd) (u v : Option V), σ' = [some (.ref p), some (.ref o), some (.ref q), some (.int 6), some (.ref D), u, v] ∧ H D = none ∧ DM U H' D f' ∧ Stt f')
    ⟨e1.up.trans e2, P2, D, f, _, _, rfl, n1, h1.ext e2 (nm1 nDp), sf⟩ ?_ ?_⟩
  · rintro N i σ' H3 hi ⟨e3, P3, D, f', u, v, rfl, nD, hD, sf'⟩ hN
    have ho3 := e3.keep _ _ ho (nm1 nop)
    have hs3 := hss.ext e3
    have nDp := pd_ne P3 hD
    walk_at "go"
    refine w_pick P3 ho3 nop (by rw [List.length_map, hss.len]; omega) (by rw [List.length_map, hss.len]; omega) fun v H4 hv e4 P4 => ?_
    obtain ⟨j, hj⟩ := List.mem_iff_getElem?.mp hv
    obtain ⟨b, s, rfl, hb, hs, hb3⟩ := hs3.get hj
    have sU := hsU s (List.mem_of_getElem? hs)
    have hb4 := e4.tup hb3
    have D4 := hD.ext e4 (nm1 nDp)
    walk_at "go"; walk_at "if"
    have other : ∀ {H5 : Hp}, Ext [p] H4 H5 → PoolAt K H5 p → ∀ v d H6, Ext [p] H5 H6 → PoolAt K H6 p → Im H6 v d → Cont d → ∀ H7, Ext [D] H6 H7 → DM U H7 D (putF f' s d) → Ext [p] H H7 ∧ PoolAt K H7 p ∧ H D = none ∧ DM U H7 D (putF f' s d) ∧ Stt (putF f' s d) := fun e5 P5 v d H6 e6 P6 im co H7 e7 h7 =>
      ⟨(((e3.trans e4).trans e5).trans e6).dropq e7 nD, P6.ext e7 (nm1 nDp.symm), nD, h7, stt_put sf' co⟩
    refine w_dinT D4.dr hb4 fun o' ho' => ?_
    rw [ho']
    refine w_bl ?_
    refine w_b (fun z => ?_) fun z => ?_
    · walk_at "go"
      refine w_draw P4 (by decide) (by decide) fun w H5 w0 w1 e5 P5 => ?_
      walk_at "go"
      have D5 := D4.ext e5 (nm1 nDp)
      have hb5 := e5.tup hb4
      refine w_d (fun h => ?_) fun h => ?_
      · walk_at "go"
        refine w_sp2 ⟨U, D, b, f', s, rfl, rfl, hU, sU, hb5, D5, sf', fun r f2 H6 e6 n6 h6 st6 => ?_⟩
        walk_at "go"
        exact hN _ _ ⟨((e3.trans e4).trans e5).trans e6.up, P5.ext e6 List.not_mem_nil, r, f2, _, _, rfl, ((e3.trans e4).trans e5).free n6, h6, st6⟩
      · walk_at "go"
        refine w_content P5 hb5 fun v d H6 e6 P6 im co => ?_
        walk_at "go"
        refine w_dputT hU.1 (D5.ext e6 (nm1 nDp)) (e6.tup hb5) sU im fun H7 e7 h7 => ?_
        obtain ⟨a1, a2, a3, a4, a5⟩ := other e5 P5 v d H6 e6 P6 im co H7 e7 h7
        exact hN _ _ ⟨a1, a2, D, _, _, _, rfl, a3, a4, a5⟩
    · walk_at "go"
      refine w_content P4 hb4 fun v d H6 e6 P6 im co => ?_
      walk_at "go"
      refine w_dputT hU.1 (D4.ext e6 (nm1 nDp)) (e6.tup hb4) sU im fun H7 e7 h7 => ?_
      obtain ⟨a1, a2, a3, a4, a5⟩ := other Ext.refl P4 v d H6 e6 P6 im co H7 e7 h7
      exact hN _ _ ⟨a1, a2, D, _, _, _, rfl, a3, a4, a5⟩
  · rintro σ' H3 ⟨e3, P3, D, f', u, v, rfl, nD, hD, sf'⟩
    walk_at "go"
    exact k D f' H3 e3 P3 nD hD sf'
theorem w_moved {H : Hp} {U : List Zk.Slot} {p o q : Addr} {bs : List Addr} {ss : List Zk.Slot} {f : Fd} {Q : VK} {E : XK} (hU : Pln U) (hP : PoolAt K H p) (ho : H o = some (.lst (bs.map V.ref))) (nop : o ≠ p) (hss : SlotsAt H bs ss) (l1 : 1 ≤ ss.length) (l8 : ss.length ≤ 8) (hsU : ∀ s ∈ ss, s ∈ U) (hf : DM U H q f) (sf : Stt f)
    (k : ∀ r f' H', Ext [p] H H' → PoolAt K H' p → H r = none → DM U H' r f' → Stt f' → Q (.ref r) H') : sp_law_moved K ([.ref p, .ref o, .ref q, .int 6] ++ []) H Q E :=
  ⟨_, _, _, _, rfl, U, p, o, q, bs, ss, f, rfl, rfl, rfl, rfl, hU, hP, ho, nop, hss, l1, l8, hsU, hf, sf, k⟩
/-! ### four states -/
/-- n dicts in a list, the k-th of which is G k -/
def Ds (U : List Zk.Slot) (H : Hp) (as : List Addr) (n : Nat) (G : Nat → Fd) : Prop := as.length = n ∧ ∀ k, k < n → ∃ a, (as.map V.ref)[k]? = some (.ref a) ∧ DM U H a (G k)
theorem ds_ext {U : List Zk.Slot} {H H' : Hp} {as : List Addr} {n : Nat} {G : Nat → Fd} (h : Ds U H as n G) (e : Ext [] H H') : Ds U H' as n G := ⟨h.1, fun k l => (h.2 k l).elim fun a z => ⟨a, z.1, z.2.ext e List.not_mem_nil⟩⟩
def wideS (j : Int) : Zk.Slot := (Str.ofString "wide", 7, 3 * j + 1)
def wideU : List Zk.Slot := (List.range 40).map fun j => wideS (j : Nat)
theorem wide_mem {j : Nat} (h : j < 40) : wideS j ∈ wideU := List.mem_map.mpr ⟨j, List.mem_range.mpr h, rfl⟩
theorem wide_sg : Sg (Str.ofString "wide") := fun c hc => by
  have : ∀ c ∈ (Str.ofString "wide").cps.toList, c < 128 := by decide
  exact this c hc
theorem pln_wide {ss : List Zk.Slot} (l : ss.length ≤ 8) (h : ∀ s ∈ ss, Sg s.1) : Pln (ss ++ wideU) := by
  refine ⟨?_, fun s m => ?_⟩
  · rw [List.length_append, wideU, List.length_map, List.length_range]; omega
  · rcases List.mem_append.mp m with m | m
    · exact h s m
    · obtain ⟨j, _, e⟩ := List.mem_map.mp m
      rw [← e]; exact wide_sg
def gF (fs : List Fd) (k : Nat) : Fd := (fs[k]?).getD fun _ => none
def sp_law_states (K : PySem.W.Frag) : Sp := sp1 fun a H Q => ∃ (p : Addr), a = .ref p ∧ PoolAt K H p ∧ ∀ q (U : List Zk.Slot) as (fs : List Fd) H', U.length ≤ 1000 → H' q = some (.lst (as.map V.ref)) → Ds U H' as 4 (gF fs) → (∀ k, Stt (gF fs k)) → Q (.ref q) H'
theorem ok_law_states (T : Txt K mg) : FnOk P w K mg base CX0 9 T.f__law_states T.d__law_states ["pool"] (sp_law_states K) := by
  refine T.F__law_states.ok sc_law_states len1 (fun cdv A outer s H vs Q E hr h => ?_)
  have nd := sc_law_states.nd
  have hu := hu_of hr
  obtain ⟨_, rfl, p, rfl, hP, k⟩ := h
  refine ⟨_,
      (pss_cons (ps_set (i := 1) nd rfl (Or.inl rfl) (pe_call (ok_law_universe T) (hr.mono (by decide)) (by rfl) T.g__law_universe T.F__law_universe.kp T.k__law_universe .nil pass0 (pa_cons (pv 0) (pa_cons pe_int pa_nil)))) 
      (pss_cons (ps_set (i := 2) nd rfl (Or.inl rfl) (pe_cmpR op_eq (pe_call (ok_law_draw T) (hr.mono (by decide)) (by rfl) T.g__law_draw T.F__law_draw.kp T.k__law_draw .nil pass0 (pa_cons (pv 0) (pa_cons pe_int pa_nil))) pe_int (nomark _))) 
      (pss_cons (ps_set (i := 3) nd rfl (Or.inl rfl) (pe_lstZ pa_nil)) 
      (pss_cons (ps_set (i := 4) nd rfl (Or.inl rfl) pe_dnewTZ) 
      (pss_cons (ps_for PassesOwn.never rfl (pi_range1 (by rfl) T.b_range (pa_cons pe_int pa_nil)) (pg_name (i := 5) nd rfl (Or.inl rfl)) 
        (pss_cons (ps_expr (pe_call (ok_law_next T) (hr.mono (by decide)) (by rfl) T.g__law_next T.F__law_next.kp T.k__law_next .nil pass0 (pa_cons (pv 0) pa_nil))) 
        (pss_cons (ps_if (pt_cmpR op_eq (pe_call (ok_law_draw T) (hr.mono (by decide)) (by rfl) T.g__law_draw T.F__law_draw.kp T.k__law_draw .nil pass0 (pa_cons (pv 0) (pa_cons pe_int pa_nil))) pe_int (nomark _)) 
          (pss_one (ps_set (i := 4) nd rfl (Or.inl rfl) pe_dnewTZ)) pss_nil) 
        (pss_cons (ps_set (i := 4) nd rfl (Or.inl rfl) (pe_call (ok_law_moved T) (hr.mono (by decide)) (by rfl) T.g__law_moved T.F__law_moved.kp T.k__law_moved .nil pass0 (pa_cons (pv 0) (pa_cons (pv 1) (pa_cons (pv 4) (pa_cons pe_int pa_nil)))))) 
        (pss_cons (ps_if (pt_val (pv 2)) 
          (pss_one (ps_for PassesOwn.never rfl (pi_range1 (by rfl) T.b_range (pa_cons pe_int pa_nil)) (pg_name (i := 6) nd rfl (Or.inl rfl)) 
            (pss_one (ps_dput hu (pv 4) (pe_tupZ (pa_cons pe_str (pa_cons pe_int (pa_cons (pe_op op_add (pe_op op_mul pe_int (pv 6)) pe_int) pa_nil)))) (pe_tupZ (pa_cons pe_str (pa_cons (pv 5) (pa_cons (pv 6) (pa_cons (pe_tupZ (pa_cons (pe_op op_add (pe_op op_add (pe_op op_mul (pv 5) pe_int) (pv 6)) pe_int) pa_nil)) pa_nil))))) rfl)))) pss_nil) 
        (pss_one (ps_expr (pe_bm PySem.F.plainAttrs_list PySem.F.slot_list_append PySem.F.type_list_append zmt_append (pv 3) (pa_cons (pv 4) pa_nil))))))))) 
      (pss_one (ps_ret (pv 3)))))))), ?_⟩
  change (_ : TS) _ [some _, none, none, none, none, none, none] _
  try dsimp only [cxOf, Cx.nox, Cx.wish]
  walk_at "go"
  refine w_universe hP fun o bs ss H1 e1 P1 no h1 hss l1 l8 hsg nop => ?_
  have hU := pln_wide l8 hsg
  have hsU : ∀ s ∈ ss, s ∈ ss ++ wideU := fun s m => List.mem_append.mpr (.inl m)
  have hwU : ∀ j : Nat, j < 40 → wideS j ∈ ss ++ wideU := fun j l => List.mem_append.mpr (.inr (wide_mem l))
  generalize ss ++ wideU = U at hU hsU hwU
  walk_at "go"
  refine w_draw P1 (by decide) (by decide) fun w H2 w0 w1 e2 P2 => ?_
  walk_at "go"
  refine ⟨Nat.zero_le _, w_alc fun q H3 e3 n3 h3 => ?_⟩
  walk_at "go"
  refine w_alc fun S H4 e4 n4 h4 => ?_
  walk_at "go"
  have P4 := (P2.ext e3 List.not_mem_nil).ext e4 List.not_mem_nil
  have nqp : q ≠ p := (P2.ne n3).symm
  have ho4 := e4.keep _ _ (e3.keep _ _ (e2.keep _ _ h1 (nm1 nop)) List.not_mem_nil) List.not_mem_nil
  have hs4 := ((hss.ext e2).ext e3).ext e4
  have h3' := e4.keep _ _ h3 List.not_mem_nil
  have noq : o ≠ q := ne_of_none (e2.keep _ _ h1 (nm1 nop)) n3
  refine ⟨_, rfl, by decide, by decide, z_for_range (lo := 0) (n := 4) (fun i σ' H' => ∃ (S : Addr) (f : Fd) (as : List Addr) (fs : List Fd) (u v : Option V), σ' = [some (.ref p), some (.ref o), some (.bl (decide (w = 1))), some (.ref q), some (.ref S), u, v] ∧ PoolAt K H' p ∧
    H' o = some (.lst (bs.map V.ref)) ∧ SlotsAt H' bs ss ∧ H' q = some (.lst (as.map V.ref)) ∧ as.length = i ∧ fs.length = i ∧ (∀ k, k < i → ∃ a, (as.map V.ref)[k]? = some (.ref a) ∧ DM U H' a (gF fs k)) ∧ (∀ k, Stt (gF fs k)) ∧ DM U H' S f ∧ Stt f)
    ⟨S, _, [], [], _, _, rfl, P4, ho4, hs4, h3', rfl, rfl, fun k l => by omega, fun k => stt_none, DM.nil h4, stt_none⟩ ?_ ?_⟩
  · rintro N i σ' H5 hi ⟨S, f, as, fs, u, v, rfl, P5, ho5, hs5, hq5, la, lf, hds, hst, hS, sS⟩ hN
    walk_at "go"
    refine w_next_ P5 fun H6 e6 P6 => ?_
    walk_at "go"
    refine w_cut (fun σ' H' => Ext [p] H5 H' ∧ PoolAt K H' p ∧ ∃ (S : Addr) (f : Fd) (v : Option V), σ' = [some (.ref p), some (.ref o), some (.bl (decide (w = 1))), some (.ref q), some (.ref S), some (.int (0 + i)), v] ∧ DM U H' S f ∧ Stt f) ?_ fun nx hn => ?_
    · rintro _ H7 ⟨e7, P7, S, f, v, rfl, hS7, sS7⟩
      walk_at "go"
      have ho7 := e7.keep _ _ ho5 (nm1 nop)
      refine w_moved hU P7 ho7 nop (hs5.ext e7) l1 l8 hsU hS7 sS7 fun S' f' H8 e8 P8 n8 h8 s8 => ?_
      walk_at "go"
      have e58 := e7.trans e8
      have hq8 := e58.keep _ _ hq5 (nm1 nqp)
      have ho8 := e58.keep _ _ ho5 (nm1 nop)
      have n5 : H5 S' = none := e7.free n8
      have nS : ∀ {a : Addr} {g : Fd}, DM U H5 a g → a ≠ S' := fun h => h.ne n5
      have nSq : q ≠ S' := ne_of_none hq5 n5
      have nSo : o ≠ S' := ne_of_none ho5 n5
      have nSp : p ≠ S' := P5.ne n5
      refine w_cut (fun σ' H' => Ext [S'] H8 H' ∧ (∃ f, DM U H' S' f ∧ Stt f) ∧ ∃ (v : Option V), σ' = [some (.ref p), some (.ref o), some (.bl (decide (w = 1))), some (.ref q), some (.ref S'), some (.int (0 + i)), v]) ?_ fun nx hn => ?_
      · rintro _ H9 ⟨e9, ⟨f9, h9, s9⟩, v, rfl⟩
        have hq9 := e9.keep _ _ hq8 (nm1 nSq)
        walk_at "go"
        refine w_append hq9 (szl (by rw [List.length_map]; omega)) ?_
        refine w_chg hq9 (fun z => z) fun HA eA hA => ?_
        walk_at "go"
        rw [← List.map_singleton (f := V.ref), ← List.map_append] at hA
        have nqS : S' ≠ q := nSq.symm
        refine hN _ _ ⟨S', f9, as ++ [S'], fs ++ [f9], _, _, rfl, (P8.ext e9 (nm1 nSp)).ext eA (nm1 nqp.symm), eA.keep _ _ (e9.keep _ _ ho8 (nm1 nSo)) (nm1 noq), (((hs5.ext e58).ext e9).ext eA), hA, by rw [List.length_append, la]; rfl, by rw [List.length_append, lf]; rfl, fun k l => ?_, fun k => ?_, h9.ext eA (nm1 nqS), s9⟩
        · by_cases hk : k < i
          · obtain ⟨a, ha, hd⟩ := hds k hk
            refine ⟨a, ?_, ?_⟩
            · rw [List.map_append, List.getElem?_append_left (by rw [List.length_map]; omega)]; exact ha
            · have : gF (fs ++ [f9]) k = gF fs k := by unfold gF; rw [List.getElem?_append_left (by omega)]
              rw [this]
              exact (((hd.ext e58 (nm1 (pd_ne P5 hd))).ext e9 (nm1 (nS hd))).ext eA (nm1 (ld_ne hq5 hd)))
          · have hk' : k = i := by omega
            subst hk'
            refine ⟨S', ?_, ?_⟩
            · rw [List.map_append]; exact get_snoc (by rw [List.length_map]; exact la)
            · have : gF (fs ++ [f9]) k = f9 := by unfold gF; rw [get_snoc lf]; rfl
              rw [this]
              exact h9.ext eA (nm1 nqS)
        · by_cases hk : k < fs.length
          · have : gF (fs ++ [f9]) k = gF fs k := by unfold gF; rw [List.getElem?_append_left hk]
            rw [this]; exact hst k
          · by_cases hk2 : k = fs.length
            · have : gF (fs ++ [f9]) k = f9 := by unfold gF; rw [get_snoc hk2.symm]; rfl
              rw [this]; exact s9
            · have : gF (fs ++ [f9]) k = fun _ => none := by unfold gF; rw [List.getElem?_eq_none (by rw [List.length_append]; simp only [List.length_singleton]; omega)]; rfl
              rw [this]; exact stt_none
      · walk_at "if"
        refine w_d (fun h => ?_) fun h => ?_
        · walk_at "go"
          refine ⟨_, rfl, by decide, by decide, z_for_range (lo := 0) (n := 40) (fun j σ' H' => Ext [S'] H8 H' ∧ (∃ f, DM U H' S' f ∧ Stt f) ∧ ∃ (v : Option V), σ' = [some (.ref p), some (.ref o), some (.bl (decide (w = 1))), some (.ref q), some (.ref S'), some (.int (0 + i)), v]) ⟨Ext.refl, ⟨_, h8, s8⟩, _, rfl⟩ ?_ ?_⟩
          · rintro N' j σ' H9 hj ⟨e9, ⟨f9, h9, s9⟩, v, rfl⟩ hN'
            walk_at "go"
            refine ⟨sz (by show 1 ≤ _; decide), w_alc fun t HA eA nA hA => ?_⟩
            walk_at "go"
            refine ⟨sz (by show 4 ≤ _; decide), w_alc fun t2 HB eB nB hB => ?_⟩
            walk_at "go"
            refine ⟨sz (by show 3 ≤ _; decide), w_alc fun t3 HC eC nC hC => ?_⟩
            have hS9 := ((h9.ext eA List.not_mem_nil).ext eB List.not_mem_nil).ext eC List.not_mem_nil
            have key : HC t3 = some (.tup (sVs (wideS j))) := by
              rw [hC]; unfold sVs wideS; rw [Int.zero_add]
            refine w_dputT (d := .tuple [.str (Str.ofString "row"), .int (0 + i), .int (0 + j), .tuple [.int ((0 + i) * 10 + (0 + j) + 2)]]) hU.1 hS9 key (hwU j hj) (.tup (eC.tup hB) (show 4 ≤ 1000 by decide) (.cons (.str _) (.cons (.int _) (.cons (.int _) (.cons (.tup (eC.tup (eB.tup hA)) (show 1 ≤ 1000 by decide) (.cons (.int _) .nil)) .nil))))) fun HD eD hD => ?_
            exact hN' _ _ ⟨(((e9.trans eA.up).trans eB.up).trans eC.up).trans eD, ⟨_, hD, stt_put s9 (.inl ⟨_, _, [.int ((0 + i) * 10 + (0 + j) + 2)], ⟨.inr ⟨_, rfl⟩, trivial⟩, rfl⟩)⟩, _, rfl⟩
          · rintro σ' H9 ⟨e9, hh, v, rfl⟩
            exact hn _ _ ⟨e9, hh, _, rfl⟩
        · walk_at "go"
          exact hn _ _ ⟨Ext.refl, ⟨_, h8, s8⟩, _, rfl⟩
    · walk_at "if"
      refine w_draw P6 (by decide) (by decide) fun x H7 x0 x1 e7 P7 => ?_
      walk_at "go"
      have hS7 := (hS.ext e6 (nm1 (pd_ne P5 hS))).ext e7 (nm1 (pd_ne P5 hS))
      refine w_d (fun h => ?_) fun h => ?_
      · walk_at "go"
        refine w_alc fun S2 H8 e8 n8 h8 => ?_
        walk_at "go"
        exact hn _ _ ⟨(e6.trans e7).trans e8.up, P7.ext e8 List.not_mem_nil, S2, _, _, rfl, DM.nil h8, stt_none⟩
      · walk_at "go"
        exact hn _ _ ⟨e6.trans e7, P7, S, f, _, rfl, hS7, sS⟩
  · rintro σ' H5 ⟨S, f, as, fs, u, v, rfl, P5, ho5, hs5, hq5, la, lf, hds, hst, hS, sS⟩
    walk_at "go"
    exact k q U as fs H5 hU.1 hq5 ⟨la, hds⟩ hst

theorem paired_of {α β : Type} {R : α → β → Prop} : ∀ {xs : List α} {ys : List β}, xs.length = ys.length → (∀ (i : Nat) (x : α) (y : β), xs[i]? = some x → ys[i]? = some y → R x y) → Paired R xs ys
  | [], [], _, _ => .nil
  | [], _ :: _, h, _ => nomatch h
  | _ :: _, [], h, _ => nomatch h
  | x :: xs, y :: ys, h, k => .cons (k 0 x y rfl rfl) (paired_of (Nat.succ.inj h) fun i a b ha hb => k (i + 1) a b ha hb)
theorem at_nat1 {α : Type} {xs : List α} {i : Nat} {v : α} (h : xs[i + 1]? = some v) : atI xs (0 + (i : Int) + 1) = some v := by
  rw [show (0 + (i : Int) + 1) = ((i + 1 : Nat) : Int) by omega]
  exact atI_nat h
theorem ds_at {U : List Zk.Slot} {H : Hp} {as : List Addr} {n : Nat} {G : Nat → Fd} (h : Ds U H as n G) {k : Nat} (l : k < n) : ∃ a, atI (as.map V.ref) (0 + (k : Int)) = some (.ref a) ∧ DM U H a (G k) :=
  (h.2 k l).elim fun a z => ⟨a, at_nat0 z.1, z.2⟩
theorem ds_at1 {U : List Zk.Slot} {H : Hp} {as : List Addr} {n : Nat} {G : Nat → Fd} (h : Ds U H as n G) {k : Nat} (l : k + 1 < n) : ∃ a, atI (as.map V.ref) (0 + (k : Int) + 1) = some (.ref a) ∧ DM U H a (G (k + 1)) :=
  (h.2 (k + 1) l).elim fun a z => ⟨a, at_nat1 z.1, z.2⟩
theorem ds_nat {U : List Zk.Slot} {H : Hp} {as : List Addr} {n : Nat} {G : Nat → Fd} (h : Ds U H as n G) (k : Nat) (l : k < n) : ∃ a, atI (as.map V.ref) (k : Int) = some (.ref a) ∧ DM U H a (G k) :=
  (h.2 k l).elim fun a z => ⟨a, by have := at_nat0 z.1; rw [Int.zero_add] at this; exact this, z.2⟩
theorem sm_dict {U : List Zk.Slot} {n : Nat} {H : Hp} {a b : Addr} {f : Fd} (hU : U.length ≤ 1000) (hn : 4 ≤ n) (ha : DM U H a f) (hb : DM U H b f) (dp : ∀ s d, f s = some d → d.depth < n) : Sm U (n + 1) H (.ref a) (.ref b) :=
  .inr (.inr ⟨by omega, hU, a, b, f, rfl, rfl, ha, hb, dp⟩)
theorem dp_btw {f g : Fd} (sf : Stt f) (sg : Stt g) : ∀ s d, btwF f g s = some d → d.depth < 5 := fun s d e => Nat.lt_succ_of_le (btw_depth (sf s) (sg s) e)
theorem dp_stt {f : Fd} (sf : Stt f) : ∀ s d, f s = some d → d.depth < 4 := fun s d e => Nat.lt_succ_of_le ((sf s d e).lay.2)
theorem dp_st5 {f : Fd} (sf : Stt f) : ∀ s d, f s = some d → d.depth < 5 := fun s d e => Nat.lt_succ_of_lt (dp_stt sf s d e)
theorem dp_none : ∀ (s : Zk.Slot) (d : PyData), (fun _ => none : Fd) s = some d → d.depth < 5 := fun _ _ e => nomatch e
theorem btw_self (f : Fd) : ∀ s, (fun _ => none : Fd) s = btwF f f s := fun s => (btw_eq rfl).symm
theorem ds_sm {U : List Zk.Slot} {H : Hp} {as bs : List Addr} {n : Nat} {G : Nat → Fd} (hU : U.length ≤ 1000) (ha : Ds U H as n G) (hb : Ds U H bs n G) (hG : ∀ k, Stt (G k)) : Paired (Sm U 5 H) (as.map V.ref) (bs.map V.ref) := by
  refine (paired_of (by rw [List.length_map, List.length_map, ha.1, hb.1]) fun i x y hx hy => ?_)
  have hi : i < n := by
    obtain ⟨l, _⟩ := List.getElem?_eq_some_iff.mp hx
    rw [List.length_map, ha.1] at l; exact l
  obtain ⟨a, ea, da⟩ := ha.2 i hi
  obtain ⟨b, eb, db⟩ := hb.2 i hi
  rw [ea] at hx
  rw [eb] at hy
  cases hx
  cases hy
  exact sm_dict hU (Nat.le_refl _) da db (dp_stt (hG i))
/-! ### the whole law at four states -/
def sp_law_whole (K : PySem.W.Frag) : Sp := sp1 fun a H Q => ∃ (q : Addr) (U : List Zk.Slot) (as : List Addr) (G : Nat → Fd), a = .ref q ∧ U.length ≤ 1000 ∧ H q = some (.lst (as.map V.ref)) ∧ Ds U H as 4 G ∧ (∀ k, Stt (G k)) ∧ ∀ H', Ext [] H H' → Q (.bl true) H'
theorem ok_law_whole (T : Txt K mg) : FnOk P w K mg base CX0 7 T.f__law_whole T.d__law_whole ["states"] (sp_law_whole K) := by
  refine T.F__law_whole.ok sc_law_whole len1 (fun cdv A outer s H vs Q E hr h => ?_)
  have nd := sc_law_whole.nd
  have hu := hu_of hr
  obtain ⟨_, rfl, q, U, as, G, rfl, hU, hq, hds, hst, k⟩ := h
  refine ⟨_,
      (pss_cons (ps_setLc (i := 1) (own := [("state", 6)]) rfl nd rfl rfl (sw_true rfl rfl rfl (by decide +kernel)) (pi_list (pv 0)) (blkOk_by (own := [("state", 6)]) (N := ["states", "kept", "k", "steps", "back", "due", "state"]) (sc := defScope s_law_whole) (by decide +kernel)) (fun _ _ _ _ _ => (pg_name (i := 6) nd rfl (Or.inl rfl))) (fun _ _ _ _ _ => pts_nil) (fun _ _ _ _ _ => (pe_call (ok_law_copy T) (hr.mono (by decide)) (by rfl) T.g__law_copy T.F__law_copy.kp T.k__law_copy .nil pass0 (pa_cons (pv 6) pa_nil)))) 
      (pss_cons (ps_setLc (i := 3) (own := [("k", 2)]) rfl nd rfl rfl (sw_true rfl rfl rfl (by decide +kernel)) (pi_range1 (by rfl) T.b_range (pa_cons pe_int pa_nil)) (blkOk_by (own := [("k", 2)]) (N := ["states", "kept", "k", "steps", "back", "due", "state"]) (sc := defScope s_law_whole) (by decide +kernel)) (fun _ _ _ _ _ => (pg_name (i := 2) nd rfl (Or.inl rfl))) (fun _ _ _ _ _ => pts_nil) (fun _ _ _ _ _ => (pe_call (ok_between T) (hr.mono (by decide)) (by rfl) T.g_between T.F_between.kp T.k_between .nil pass0 (pa_cons (pe_ix (ix_listK (K := K) rfl) (pv 0) (pv 2) (fun _ _ => rfl)) (pa_cons (pe_ix (ix_listK (K := K) rfl) (pv 0) (pe_op op_add (pv 2) pe_int) (fun _ _ => rfl)) pa_nil))))) 
      (pss_cons (ps_for PassesOwn.never rfl (pi_range1 (by rfl) T.b_range (pa_cons pe_int pa_nil)) (pg_name (i := 2) nd rfl (Or.inl rfl)) 
        (pss_cons (ps_if (pt_not (pt_val (pe_call (ok_law_same T) (hr.mono (by decide)) (by rfl) T.g__law_same T.F__law_same.kp T.k__law_same .nil pass0 (pa_cons (pe_call (ok_law_between T) (hr.mono (by decide)) (by rfl) T.g__law_between T.F__law_between.kp T.k__law_between .nil pass0 (pa_cons (pe_ix ix_list (pv 1) (pv 2) (fun _ _ => rfl)) (pa_cons (pe_ix ix_list (pv 1) (pe_op op_add (pv 2) pe_int) (fun _ _ => rfl)) pa_nil))) (pa_cons (pe_ix ix_list (pv 3) (pv 2) (fun _ _ => rfl)) pa_nil))))) 
          (pss_one (ps_ret pe_bl)) pss_nil) 
        (pss_cons (ps_if (pt_not (pt_val (pe_call (ok_law_same T) (hr.mono (by decide)) (by rfl) T.g__law_same T.F__law_same.kp T.k__law_same .nil pass0 (pa_cons (pe_ix ix_list (pv 1) (pe_op op_add (pv 2) pe_int) (fun _ _ => rfl)) (pa_cons (pe_call (ok_applied T) (hr.mono (by decide)) (by rfl) T.g_applied T.F_applied.kp T.k_applied .nil pass0 (pa_cons (pe_ix ix_list (pv 0) (pv 2) (fun _ _ => rfl)) (pa_cons (pe_ix ix_list (pv 3) (pv 2) (fun _ _ => rfl)) pa_nil))) pa_nil))))) 
          (pss_one (ps_ret pe_bl)) pss_nil) 
        (pss_cons (ps_set (i := 4) nd rfl (Or.inl rfl) (pe_call (ok_inverted T) (hr.mono (by decide)) (by rfl) T.g_inverted T.F_inverted.kp T.k_inverted .nil pass0 (pa_cons (pe_ix ix_list (pv 3) (pv 2) (fun _ _ => rfl)) pa_nil))) 
        (pss_cons (ps_if (pt_not (pt_val (pe_call (ok_law_same T) (hr.mono (by decide)) (by rfl) T.g__law_same T.F__law_same.kp T.k__law_same .nil pass0 (pa_cons (pe_call (ok_law_between T) (hr.mono (by decide)) (by rfl) T.g__law_between T.F__law_between.kp T.k__law_between .nil pass0 (pa_cons (pe_ix ix_list (pv 1) (pe_op op_add (pv 2) pe_int) (fun _ _ => rfl)) (pa_cons (pe_ix ix_list (pv 1) (pv 2) (fun _ _ => rfl)) pa_nil))) (pa_cons (pv 4) pa_nil))))) 
          (pss_one (ps_ret pe_bl)) pss_nil) 
        (pss_cons (ps_if (PW.pt (pw_or (pt_not (pt_val (pe_call (ok_law_same T) (hr.mono (by decide)) (by rfl) T.g__law_same T.F__law_same.kp T.k__law_same .nil pass0 (pa_cons pe_dnewTZ (pa_cons (pe_call (ok_composed T) (hr.mono (by decide)) (by rfl) T.g_composed T.F_composed.kp T.k_composed .nil pass0 (pa_cons (pe_ix ix_list (pv 3) (pv 2) (fun _ _ => rfl)) (pa_cons (pv 4) pa_nil))) pa_nil))))) (pw_or1 (pt_not (pt_val (pe_call (ok_law_same T) (hr.mono (by decide)) (by rfl) T.g__law_same T.F__law_same.kp T.k__law_same .nil pass0 (pa_cons pe_dnewTZ (pa_cons (pe_call (ok_composed T) (hr.mono (by decide)) (by rfl) T.g_composed T.F_composed.kp T.k_composed .nil pass0 (pa_cons (pv 4) (pa_cons (pe_ix ix_list (pv 3) (pv 2) (fun _ _ => rfl)) pa_nil))) pa_nil)))))))) 
          (pss_one (ps_ret pe_bl)) pss_nil) 
        (pss_one (ps_expr (pe_bm0 PySem.F.plainAttrs_dict PySem.F.slot_dict_clear PySem.F.type_dict_clear zmt_clearT (pv 4)))))))))) 
      (pss_cons (ps_if (pt_not (pt_val (pe_call (ok_law_same T) (hr.mono (by decide)) (by rfl) T.g__law_same T.F__law_same.kp T.k__law_same .nil pass0 (pa_cons (pe_call (ok_law_between T) (hr.mono (by decide)) (by rfl) T.g__law_between T.F__law_between.kp T.k__law_between .nil pass0 (pa_cons (pe_ix ix_list (pv 1) pe_int (fun _ _ => rfl)) (pa_cons (pe_ix ix_list (pv 1) pe_int (fun _ _ => rfl)) pa_nil))) (pa_cons (pe_call (ok_composed T) (hr.mono (by decide)) (by rfl) T.g_composed T.F_composed.kp T.k_composed .nil pass0 (pa_cons (pe_ix ix_list (pv 3) pe_int (fun _ _ => rfl)) (pa_cons (pe_ix ix_list (pv 3) pe_int (fun _ _ => rfl)) pa_nil))) pa_nil))))) 
        (pss_one (ps_ret pe_bl)) pss_nil) 
      (pss_cons (ps_set (i := 5) nd rfl (Or.inl rfl) (pe_call (ok_law_between T) (hr.mono (by decide)) (by rfl) T.g__law_between T.F__law_between.kp T.k__law_between .nil pass0 (pa_cons (pe_ix ix_list (pv 1) pe_int (fun _ _ => rfl)) (pa_cons (pe_ix ix_list (pv 1) pe_int (fun _ _ => rfl)) pa_nil)))) 
      (pss_cons (ps_if (pt_not (pt_val (pe_call (ok_law_same T) (hr.mono (by decide)) (by rfl) T.g__law_same T.F__law_same.kp T.k__law_same .nil pass0 (pa_cons (pv 5) (pa_cons (pe_call (ok_composed T) (hr.mono (by decide)) (by rfl) T.g_composed T.F_composed.kp T.k_composed .nil pass0 (pa_cons (pe_call (ok_composed T) (hr.mono (by decide)) (by rfl) T.g_composed T.F_composed.kp T.k_composed .nil pass0 (pa_cons (pe_ix ix_list (pv 3) pe_int (fun _ _ => rfl)) (pa_cons (pe_ix ix_list (pv 3) pe_int (fun _ _ => rfl)) pa_nil))) (pa_cons (pe_ix ix_list (pv 3) pe_int (fun _ _ => rfl)) pa_nil))) pa_nil))))) 
        (pss_one (ps_ret pe_bl)) pss_nil) 
      (pss_cons (ps_if (pt_not (pt_val (pe_call (ok_law_same T) (hr.mono (by decide)) (by rfl) T.g__law_same T.F__law_same.kp T.k__law_same .nil pass0 (pa_cons (pv 5) (pa_cons (pe_call (ok_composed T) (hr.mono (by decide)) (by rfl) T.g_composed T.F_composed.kp T.k_composed .nil pass0 (pa_cons (pe_ix ix_list (pv 3) pe_int (fun _ _ => rfl)) (pa_cons (pe_call (ok_composed T) (hr.mono (by decide)) (by rfl) T.g_composed T.F_composed.kp T.k_composed .nil pass0 (pa_cons (pe_ix ix_list (pv 3) pe_int (fun _ _ => rfl)) (pa_cons (pe_ix ix_list (pv 3) pe_int (fun _ _ => rfl)) pa_nil))) pa_nil))) pa_nil))))) 
        (pss_one (ps_ret pe_bl)) pss_nil) 
      (pss_cons (ps_for PassesOwn.never rfl (pi_range1 (by rfl) T.b_range (pa_cons pe_int pa_nil)) (pg_name (i := 2) nd rfl (Or.inl rfl)) 
        (pss_cons (ps_if (pt_not (pt_val (pe_call (ok_law_same T) (hr.mono (by decide)) (by rfl) T.g__law_same T.F__law_same.kp T.k__law_same .nil pass0 (pa_cons (pe_call (ok_law_between T) (hr.mono (by decide)) (by rfl) T.g__law_between T.F__law_between.kp T.k__law_between .nil pass0 (pa_cons (pe_ix ix_list (pv 1) (pv 2) (fun _ _ => rfl)) (pa_cons (pe_ix ix_list (pv 1) (pe_op op_add (pv 2) pe_int) (fun _ _ => rfl)) pa_nil))) (pa_cons (pe_ix ix_list (pv 3) (pv 2) (fun _ _ => rfl)) pa_nil))))) 
          (pss_one (ps_ret pe_bl)) pss_nil) 
        (pss_one (ps_if (PW.pt (pw_or (pt_not (pt_val (pe_call (ok_law_same T) (hr.mono (by decide)) (by rfl) T.g__law_same T.F__law_same.kp T.k__law_same .nil pass0 (pa_cons pe_dnewTZ (pa_cons (pe_call (ok_between T) (hr.mono (by decide)) (by rfl) T.g_between T.F_between.kp T.k_between .nil pass0 (pa_cons (pe_ix ix_list (pv 0) (pv 2) (fun _ _ => rfl)) (pa_cons (pe_ix ix_list (pv 0) (pv 2) (fun _ _ => rfl)) pa_nil))) pa_nil))))) (pw_or1 (pt_not (pt_val (pe_call (ok_law_same T) (hr.mono (by decide)) (by rfl) T.g__law_same T.F__law_same.kp T.k__law_same .nil pass0 (pa_cons (pe_ix ix_list (pv 1) (pv 2) (fun _ _ => rfl)) (pa_cons (pe_call (ok_applied T) (hr.mono (by decide)) (by rfl) T.g_applied T.F_applied.kp T.k_applied .nil pass0 (pa_cons (pe_ix ix_list (pv 0) (pv 2) (fun _ _ => rfl)) (pa_cons pe_dnewTZ pa_nil))) pa_nil)))))))) 
          (pss_one (ps_ret pe_bl)) pss_nil)))) 
      (pss_one (ps_ret (pe_call (ok_law_same T) (hr.mono (by decide)) (by rfl) T.g__law_same T.F__law_same.kp T.k__law_same .nil pass0 (pa_cons (pv 1) (pa_cons (pv 0) pa_nil))))))))))))), ?_⟩
  change (_ : TS) _ [some _, none, none, none, none, none, none] _
  try dsimp only [cxOf, Cx.nox, Cx.wish]
  walk_at "go"
  refine ⟨q, rfl, ⟨_, sql hq⟩, fun D nD => ?_⟩
  have la : (as.map V.ref).length = 4 := by rw [List.length_map]; exact hds.1
  refine z_lc_list (xs := as.map V.ref) (fun i acc H' => Ext [] H H' ∧ ∃ cs, acc = cs.map V.ref ∧ Ds U H' cs i G) nD (fun H' e => ⟨e, [], rfl, rfl, fun k l => by omega⟩) (fun i acc H' _ ⟨e, _⟩ => sql (e.keep _ _ hq List.not_mem_nil)) ?_ ?_
  · rintro Nx i x acc H1 hx ⟨e1, cs, rfl, hcs⟩ hD hN
    have hi : i < 4 := by
      obtain ⟨l, _⟩ := List.getElem?_eq_some_iff.mp hx
      omega
    obtain ⟨a, ha, da⟩ := (ds_ext hds e1).2 i hi
    rw [ha] at hx
    cases hx
    walk_at "go"
    refine ⟨rfl, ?_⟩
    walk_at "go"
    refine w_copy hU da fun c H2 e2 n2 h2 => ?_
    have hD2 := e2.keep _ _ hD List.not_mem_nil
    have nD1 : ∀ {b : Addr} {g : Fd}, DM U H2 b g → b ≠ D := fun h => ld_ne hD2 h
    refine w_app hD2 (szl (by rw [List.length_map, hcs.1]; omega)) fun H3 e3 h3 => ?_
    rw [← List.map_singleton (f := V.ref), ← List.map_append] at h3
    refine hN _ _ ⟨(e1.trans e2).dropq e3 nD, cs ++ [c], rfl, by rw [List.length_append, hcs.1]; rfl, fun k l => ?_⟩ h3
    by_cases hk : k < i
    · obtain ⟨b, hb, db⟩ := (ds_ext hcs e2).2 k hk
      exact ⟨b, by rw [List.map_append, List.getElem?_append_left (by rw [List.length_map, hcs.1]; omega)]; exact hb, db.ext e3 (nm1 (nD1 db))⟩
    · have hk' : k = i := by omega
      subst hk'
      exact ⟨c, by rw [List.map_append]; exact get_snoc (by rw [List.length_map]; exact hcs.1), h2.ext e3 (nm1 (nD1 h2))⟩
  · rintro acc H1 ⟨e1, cs, rfl, hcs⟩ hD
    rw [la] at hcs
    walk_at "go"
    have hq1 := e1.keep _ _ hq List.not_mem_nil
    have hd1 := ds_ext hds e1
    refine ⟨_, rfl, by decide, by decide, fun E nE => ?_⟩
    refine z_lc_range (lo := 0) (n := 3) (fun i acc H' => Ext [] H1 H' ∧ ∃ bs, acc = bs.map V.ref ∧ Ds U H' bs i fun k => btwF (G k) (G (k + 1))) nE (fun H' e => ⟨e, [], rfl, rfl, fun k l => by omega⟩) ?_ ?_
    · rintro Nx i acc H2 hi ⟨e2, bs, rfl, hbs⟩ hE hN
      have hd2 := ds_ext hd1 e2
      have hq2 := e2.keep _ _ hq1 List.not_mem_nil
      obtain ⟨a, ea, da⟩ := ds_at hd2 (k := i) (by omega)
      obtain ⟨b, eb, db⟩ := ds_at1 hd2 (k := i) (by omega)
      walk_at "go"
      refine ⟨rfl, ?_⟩
      walk_at "go"
      refine w_between hU da db (hst _) (hst _) fun c H3 e3 n3 h3 => ?_
      have hE3 := e3.keep _ _ hE List.not_mem_nil
      have nE1 : ∀ {b : Addr} {g : Fd}, DM U H3 b g → b ≠ E := fun h => ld_ne hE3 h
      refine w_app hE3 (szl (by rw [List.length_map, hbs.1]; omega)) fun H4 e4 h4 => ?_
      rw [← List.map_singleton (f := V.ref), ← List.map_append] at h4
      refine hN _ _ ⟨(e2.trans e3).dropq e4 nE, bs ++ [c], rfl, by rw [List.length_append, hbs.1]; rfl, fun k l => ?_⟩ h4
      by_cases hk : k < i
      · obtain ⟨b, hb, db⟩ := (ds_ext hbs e3).2 k hk
        exact ⟨b, by rw [List.map_append, List.getElem?_append_left (by rw [List.length_map, hbs.1]; omega)]; exact hb, db.ext e4 (nm1 (nE1 db))⟩
      · have hk' : k = i := by omega
        subst hk'
        exact ⟨c, by rw [List.map_append]; exact get_snoc (by rw [List.length_map]; exact hbs.1), h3.ext e4 (nm1 (nE1 h3))⟩
    · rintro acc H2 ⟨e2, bs, rfl, hbs⟩ hE
      have hd2 := ds_ext hd1 e2
      have hc2 := ds_ext hcs e2
      have hq2 := e2.keep _ _ hq1 List.not_mem_nil
      have hD2 := e2.keep _ _ hD List.not_mem_nil
      walk_at "go"
      refine ⟨_, rfl, by decide, by decide, z_for_range (lo := 0) (n := 3) (fun i σ' H' => Ext [] H2 H' ∧ ∃ (u v : Option V), σ' = [some (.ref q), some (.ref D), u, some (.ref E), v, none, none]) ⟨Ext.refl, _, _, rfl⟩ ?_ ?_⟩
      · rintro N i σ' H3 hi ⟨e3, u, v, rfl⟩ hN
        have hd3 := ds_ext hd2 e3
        have hc3 := ds_ext hc2 e3
        have hb3 := ds_ext hbs e3
        have hq3 := e3.keep _ _ hq2 List.not_mem_nil
        have hD3 := e3.keep _ _ hD2 List.not_mem_nil
        have hE3 := e3.keep _ _ hE List.not_mem_nil
        obtain ⟨a, ea, da⟩ := ds_at hd3 (k := i) (by omega)
        obtain ⟨c, ec, dc⟩ := ds_at hc3 (k := i) (by omega)
        obtain ⟨c', ec', dc'⟩ := ds_at1 hc3 (k := i) (by omega)
        obtain ⟨b, eb, db⟩ := ds_at hb3 (k := i) (by omega)
        have s0 := hst i
        have s1 := hst (i + 1)
        generalize G i = f at da dc db s0
        generalize G (i + 1) = g at dc' db s1
        walk_at "go"; walk_at "if"
        refine w_lbetween hU dc dc' s0 s1 fun r H4 e4 n4 h4 => ?_
        have hE4 := e4.keep _ _ hE3 List.not_mem_nil
        walk_at "go"
        refine w_same (sm_dict hU (by decide) h4 (db.ext e4 List.not_mem_nil) (dp_btw s0 s1)) fun H5 e5 => ?_
        walk_at "go"; walk_at "if"
        have e35 := e4.trans e5
        refine w_applied hU (da.ext e35 List.not_mem_nil) (db.ext e35 List.not_mem_nil) s0 s1 fun r2 H6 e6 n6 h6 => ?_
        have e36 := e35.trans e6
        walk_at "go"
        refine w_same (sm_dict hU (by decide) (dc'.ext e36 List.not_mem_nil) h6 (dp_st5 s1)) fun H7 e7 => ?_
        have e37 := e36.trans e7
        walk_at "go"
        refine w_inverted hU (db.ext e37 List.not_mem_nil) fun B H8 e8 n8 h8 => ?_
        have e38 := e37.trans e8
        walk_at "go"; walk_at "if"
        refine w_lbetween hU (dc'.ext e38 List.not_mem_nil) (dc.ext e38 List.not_mem_nil) s1 s0 fun r3 H9 e9 n9 h9 => ?_
        have e39 := e38.trans e9
        have b9 := h8.ext e9 List.not_mem_nil
        walk_at "go"
        refine w_same (sm_dict hU (by decide) h9 b9 (dp_btw s1 s0)) fun HA eA => ?_
        have e3A := e39.trans eA
        have bA := b9.ext eA List.not_mem_nil
        walk_at "go"; walk_at "if"
        refine w_alc fun z1 HB eB nB hB => ?_
        have e3B := e3A.trans eB
        have bB := bA.ext eB List.not_mem_nil
        walk_at "go"
        refine w_composed hU (db.ext e3B List.not_mem_nil) bB s0 s1 s0 fun r4 HC eC nC hC => ?_
        have e3C := e3B.trans eC
        have bC := bB.ext eC List.not_mem_nil
        walk_at "go"
        refine w_same (sm_dict hU (by decide) ((DM.nil (U := U) hB).ext eC List.not_mem_nil) (hC.congr fun s => (btw_self f s).symm) dp_none) fun HD eD => ?_
        have e3D := e3C.trans eD
        have bD := bC.ext eD List.not_mem_nil
        walk_at "go"
        refine w_alc fun z2 HE eE nE' hE' => ?_
        have e3E := e3D.trans eE
        have bE := bD.ext eE List.not_mem_nil
        walk_at "go"
        refine w_composed hU bE (db.ext e3E List.not_mem_nil) s1 s0 s1 fun r5 HF eF nF hF => ?_
        have e3F := e3E.trans eF
        have bF := bE.ext eF List.not_mem_nil
        walk_at "go"
        refine w_same (sm_dict hU (by decide) ((DM.nil (U := U) hE').ext eF List.not_mem_nil) (hF.congr fun s => (btw_self g s).symm) dp_none) fun HG eG => ?_
        have bG := bF.ext eG List.not_mem_nil
        walk_at "go"
        refine w_clearD bG fun HH eH => ?_
        exact hN _ _ ⟨(e3.trans (e3F.trans eG)).dropq eH ((e3.trans e37).free n8), _, _, rfl⟩
      · rintro σ' H3 ⟨e3, u, v, rfl⟩
        have hd3 := ds_ext hd2 e3
        have hc3 := ds_ext hc2 e3
        have hb3 := ds_ext hbs e3
        have hq3 := e3.keep _ _ hq2 List.not_mem_nil
        have hD3 := e3.keep _ _ hD2 List.not_mem_nil
        have hE3 := e3.keep _ _ hE List.not_mem_nil
        obtain ⟨c0, ec0, dc0⟩ : ∃ a, atI (cs.map V.ref) 0 = some (.ref a) ∧ DM U H3 a (G 0) := ds_nat hc3 0 (by decide)
        obtain ⟨c2, ec2, dc2⟩ : ∃ a, atI (cs.map V.ref) 2 = some (.ref a) ∧ DM U H3 a (G 2) := ds_nat hc3 2 (by decide)
        obtain ⟨c3, ec3, dc3⟩ : ∃ a, atI (cs.map V.ref) 3 = some (.ref a) ∧ DM U H3 a (G 3) := ds_nat hc3 3 (by decide)
        obtain ⟨b0, eb0, db0⟩ : ∃ a, atI (bs.map V.ref) 0 = some (.ref a) ∧ DM U H3 a (btwF (G 0) (G 1)) := ds_nat hb3 0 (by decide)
        obtain ⟨b1, eb1, db1⟩ : ∃ a, atI (bs.map V.ref) 1 = some (.ref a) ∧ DM U H3 a (btwF (G 1) (G 2)) := ds_nat hb3 1 (by decide)
        obtain ⟨b2, eb2, db2⟩ : ∃ a, atI (bs.map V.ref) 2 = some (.ref a) ∧ DM U H3 a (btwF (G 2) (G 3)) := ds_nat hb3 2 (by decide)
        have s0 := hst 0
        have s1 := hst 1
        have s2 := hst 2
        have s3 := hst 3
        walk_at "go"; walk_at "if"
        refine w_lbetween hU dc0 dc2 s0 s2 fun r H4 e4 n4 h4 => ?_
        walk_at "go"
        refine w_composed hU (db0.ext e4 List.not_mem_nil) (db1.ext e4 List.not_mem_nil) s0 s1 s2 fun r2 H5 e5 n5 h5 => ?_
        walk_at "go"
        refine w_same (sm_dict hU (by decide) (h4.ext e5 List.not_mem_nil) h5 (dp_btw s0 s2)) fun H6 e6 => ?_
        have e36 := (e4.trans e5).trans e6
        walk_at "go"
        refine w_lbetween hU (dc0.ext e36 List.not_mem_nil) (dc3.ext e36 List.not_mem_nil) s0 s3 fun due H7 e7 n7 h7 => ?_
        have e37 := e36.trans e7
        walk_at "go"; walk_at "if"
        refine w_composed hU (db0.ext e37 List.not_mem_nil) (db1.ext e37 List.not_mem_nil) s0 s1 s2 fun r3 H8 e8 n8 h8 => ?_
        have e38 := e37.trans e8
        walk_at "go"
        refine w_composed hU h8 (db2.ext e38 List.not_mem_nil) s0 s2 s3 fun r4 H9 e9 n9 h9 => ?_
        have e39 := e38.trans e9
        walk_at "go"
        refine w_same (sm_dict hU (by decide) (h7.ext (e8.trans e9) List.not_mem_nil) h9 (dp_btw s0 s3)) fun HA eA => ?_
        have e3A := e39.trans eA
        walk_at "go"; walk_at "if"
        refine w_composed hU (db1.ext e3A List.not_mem_nil) (db2.ext e3A List.not_mem_nil) s1 s2 s3 fun r5 HB eB nB hB => ?_
        have e3B := e3A.trans eB
        walk_at "go"
        refine w_composed hU (db0.ext e3B List.not_mem_nil) hB s0 s1 s3 fun r6 HC eC nC hC => ?_
        have e3C := e3B.trans eC
        walk_at "go"
        refine w_same (sm_dict hU (by decide) (h7.ext (((e8.trans e9).trans eA).trans (eB.trans eC)) List.not_mem_nil) hC (dp_btw s0 s3)) fun HD eD => ?_
        have e3D := e3C.trans eD
        walk_at "go"
        clear ec0 ec2 ec3 eb0 eb1 eb2
        have e2D := e3.trans e3D
        refine ⟨_, rfl, by decide, by decide, z_for_range (lo := 0) (n := 3) (fun i σ' H' => Ext [] H2 H' ∧ ∃ (u v w : Option V), σ' = [some (.ref q), some (.ref D), u, some (.ref E), v, w, none]) ⟨e2D, _, _, _, rfl⟩ ?_ ?_⟩
        · clear e3D e3C e3B e3A e39 e38 e37 e36 h4 h5 h7 h8 h9 hB hC hd3 hc3 hb3 hq3 hD3 hE3 dc0 dc2 dc3 db0 db1 db2 s0 s1 s2 s3
          rintro N i σ' J3 hi ⟨f3, u, v, w, rfl⟩ hN
          have hd3 := ds_ext hd2 f3
          have hc3 := ds_ext hc2 f3
          have hb3 := ds_ext hbs f3
          have hq3 := f3.keep _ _ hq2 List.not_mem_nil
          have hD3 := f3.keep _ _ hD2 List.not_mem_nil
          have hE3 := f3.keep _ _ hE List.not_mem_nil
          obtain ⟨a, ea, da⟩ := ds_at hd3 (k := i) (by omega)
          obtain ⟨c, ec, dc⟩ := ds_at hc3 (k := i) (by omega)
          obtain ⟨c', ec', dc'⟩ := ds_at1 hc3 (k := i) (by omega)
          obtain ⟨b, eb, db⟩ := ds_at hb3 (k := i) (by omega)
          have s0 := hst i
          have s1 := hst (i + 1)
          generalize G i = f at da dc db s0
          generalize G (i + 1) = g at dc' db s1
          walk_at "go"; walk_at "if"
          refine w_lbetween hU dc dc' s0 s1 fun r J4 f4 n4 h4 => ?_
          walk_at "go"
          refine w_same (sm_dict hU (by decide) h4 (db.ext f4 List.not_mem_nil) (dp_btw s0 s1)) fun J5 f5 => ?_
          have f35 := f4.trans f5
          walk_at "go"; walk_at "if"
          refine w_alc fun z1 J6 f6 n6 h6 => ?_
          have f36 := f35.trans f6
          walk_at "go"
          refine w_between hU (da.ext f36 List.not_mem_nil) (da.ext f36 List.not_mem_nil) s0 s0 fun r2 J7 f7 n7 h7 => ?_
          have f37 := f36.trans f7
          walk_at "go"
          refine w_same (sm_dict hU (by decide) ((DM.nil (U := U) h6).ext f7 List.not_mem_nil) (h7.congr fun s => (btw_self f s).symm) dp_none) fun J8 f8 => ?_
          have f38 := f37.trans f8
          walk_at "go"
          refine w_alc fun z2 J9 f9 n9 h9 => ?_
          have f39 := f38.trans f9
          walk_at "go"
          refine w_applied hU (da.ext f39 List.not_mem_nil) ((DM.nil (U := U) h9).congr (btw_self f)) s0 s0 fun r3 JA fA nA hA => ?_
          have f3A := f39.trans fA
          walk_at "go"
          refine w_same (sm_dict hU (by decide) (dc.ext f3A List.not_mem_nil) hA (dp_st5 s0)) fun JB fB => ?_
          walk_at "go"
          exact hN _ _ ⟨f3.trans (f3A.trans fB), _, _, _, rfl⟩
        · rintro σ' J3 ⟨f3, u, v, w, rfl⟩
          have hd3 := ds_ext hd2 f3
          have hc3 := ds_ext hc2 f3
          have hq3 := f3.keep _ _ hq2 List.not_mem_nil
          have hD3 := f3.keep _ _ hD2 List.not_mem_nil
          walk_at "go"
          refine w_same (.inr (.inl ⟨D, q, _, _, rfl, rfl, hD3, hq3, by rw [List.length_map, hc3.1]; decide, ds_sm hU hc3 hd3 hst⟩)) fun J4 f4 => ?_
          exact k _ (((e1.trans e2).trans f3).trans f4)
theorem w_whole {H : Hp} {U : List Zk.Slot} {q : Addr} {as : List Addr} {G : Nat → Fd} {Q : VK} {E : XK} (hU : U.length ≤ 1000) (hq : H q = some (.lst (as.map V.ref))) (hds : Ds U H as 4 G) (hst : ∀ k, Stt (G k)) (k : ∀ H', Ext [] H H' → Q (.bl true) H') :
    sp_law_whole K ([.ref q] ++ []) H Q E := ⟨_, rfl, q, U, as, G, rfl, hU, hq, hds, hst, k⟩
/-! ### the law -/
def sp_law (K : PySem.W.Frag) : Sp := sp1 fun a H Q => ∃ (sc : Addr) (ns : List Int), a = .ref sc ∧ Scr K H sc (ns.map V.int) ∧ ∀ H', Q (.bl true) H'
theorem start_law {H : Hp} {a : Addr} {ns : List Int} (hO : Only H) (hl : ns.length ≤ 63) (hS : SqL K H a (ns.map V.int)) : sp_law K [.ref a] H (fun v _ => v = .bl true) (fun _ _ _ => False) :=
  ⟨_, rfl, a, ns, rfl, Scr.of hO hS, fun _ => rfl⟩
theorem ok_law (T : Txt K mg) : FnOk P w K mg base CX0 10 T.f_law T.d_law ["script"] (sp_law K) := by
  refine T.F_law.ok sc_law len1 (fun cdv A outer s H vs Q E hr h => ?_)
  have nd := sc_law.nd
  have hu := hu_of hr
  obtain ⟨_, rfl, sc, ns, rfl, hS, k⟩ := h
  refine ⟨_,
      (pss_cons (ps_set (i := 1) nd rfl (Or.inl rfl) (pe_call (ok_law_pool T) (hr.mono (by decide)) (by rfl) T.g__law_pool T.F__law_pool.kp T.k__law_pool .nil pass0 (pa_cons (pv 0) pa_nil))) 
      (pss_cons (ps_set (i := 2) nd rfl (Or.inl rfl) (pe_call (ok_law_states T) (hr.mono (by decide)) (by rfl) T.g__law_states T.F__law_states.kp T.k__law_states .nil pass0 (pa_cons (pv 1) pa_nil))) 
      (pss_cons (ps_if (pt_not (pt_val (pe_call (ok_law_whole T) (hr.mono (by decide)) (by rfl) T.g__law_whole T.F__law_whole.kp T.k__law_whole .nil pass0 (pa_cons (pv 2) pa_nil)))) 
        (pss_one (ps_ret pe_bl)) pss_nil) 
      (pss_cons (ps_set (i := 3) nd rfl (Or.inl rfl) (pe_call (ok_between T) (hr.mono (by decide)) (by rfl) T.g_between T.F_between.kp T.k_between .nil pass0 (pa_cons (pe_ix ix_list (pv 2) pe_int (fun _ _ => rfl)) (pa_cons (pe_ix ix_list (pv 2) pe_int (fun _ _ => rfl)) pa_nil)))) 
      (pss_cons (ps_expr (pe_bm0 PySem.F.plainAttrs_dict PySem.F.slot_dict_clear PySem.F.type_dict_clear zmt_clearT (pv 3))) 
      (pss_cons (ps_set (i := 4) nd rfl (Or.inl rfl) (pe_call (ok_applied T) (hr.mono (by decide)) (by rfl) T.g_applied T.F_applied.kp T.k_applied .nil pass0 (pa_cons (pe_ix ix_list (pv 2) pe_int (fun _ _ => rfl)) (pa_cons (pe_call (ok_law_between T) (hr.mono (by decide)) (by rfl) T.g__law_between T.F__law_between.kp T.k__law_between .nil pass0 (pa_cons (pe_ix ix_list (pv 2) pe_int (fun _ _ => rfl)) (pa_cons (pe_ix ix_list (pv 2) pe_int (fun _ _ => rfl)) pa_nil))) pa_nil)))) 
      (pss_cons (ps_expr (pe_bm0 PySem.F.plainAttrs_dict PySem.F.slot_dict_clear PySem.F.type_dict_clear zmt_clearT (pv 4))) 
      (pss_one (ps_ret (pe_call (ok_law_whole T) (hr.mono (by decide)) (by rfl) T.g__law_whole T.F__law_whole.kp T.k__law_whole .nil pass0 (pa_cons (pv 2) pa_nil))))))))))), ?_⟩
  change (_ : TS) _ [some _, none, none, none, none] _
  try dsimp only [cxOf, Cx.nox, Cx.wish]
  walk_at "go"
  refine w_sp1 ⟨sc, ns, rfl, hS, fun p H1 e1 n1 P1 => ?_⟩
  walk_at "go"
  refine w_sp1 ⟨p, rfl, P1, fun q U as fs H2 hU hq hds hst => ?_⟩
  generalize gF fs = G at hds hst
  walk_at "go"; walk_at "if"
  refine w_whole hU hq hds hst fun H3 e3 => ?_
  have hq3 := e3.keep _ _ hq List.not_mem_nil
  have hd3 := ds_ext hds e3
  obtain ⟨a0, ea0, da0⟩ : ∃ a, atI (as.map V.ref) 0 = some (.ref a) ∧ DM U H3 a (G 0) := ds_nat hd3 0 (by decide)
  obtain ⟨a1, ea1, da1⟩ : ∃ a, atI (as.map V.ref) 1 = some (.ref a) ∧ DM U H3 a (G 1) := ds_nat hd3 1 (by decide)
  obtain ⟨a2, ea2, da2⟩ : ∃ a, atI (as.map V.ref) 2 = some (.ref a) ∧ DM U H3 a (G 2) := ds_nat hd3 2 (by decide)
  obtain ⟨a3, ea3, da3⟩ : ∃ a, atI (as.map V.ref) 3 = some (.ref a) ∧ DM U H3 a (G 3) := ds_nat hd3 3 (by decide)
  walk_at "go"
  refine w_between hU da0 da3 (hst _) (hst _) fun t H4 e4 n4 h4 => ?_
  walk_at "go"
  refine w_clearD h4 fun H5 e5 => ?_
  have e35 : Ext [] H3 H5 := e4.dropq e5 n4
  walk_at "go"
  refine w_lbetween hU (da1.ext e35 List.not_mem_nil) (da2.ext e35 List.not_mem_nil) (hst _) (hst _) fun r H6 e6 n6 h6 => ?_
  have e36 := e35.trans e6
  walk_at "go"
  refine w_applied hU (da1.ext e36 List.not_mem_nil) h6 (hst _) (hst _) fun r2 H7 e7 n7 h7 => ?_
  walk_at "go"
  refine w_clearD h7 fun H8 e8 => ?_
  have e38 : Ext [] H3 H8 := (e36.trans e7).dropq e8 (e36.free n7)
  walk_at "go"
  exact w_whole hU (e38.keep _ _ hq3 List.not_mem_nil) (ds_ext hd3 e38) hst fun H9 e9 => k _

end
theorem all_mk {l : PySem.W.OpenLaw} {w : World} {K : PySem.W.Frag} {h : Heap} {mg : Str → Option Value} {fa : Addr} (X : K.In h) (G : h.Ns mainGlobals mg) (hfa : mg "law" = some (.ref fa))
    {f_slots_of_both : Addr} {od_slots_of_both an_slots_of_both : Option Addr} {sl_slots_of_both : Array (Option Value)} {oc_slots_of_both kV_slots_of_both dc_slots_of_both pm_slots_of_both cd_slots_of_both ct_slots_of_both : Value} {f_between : Addr} {od_between an_between : Option Addr} {sl_between : Array (Option Value)} {oc_between kV_between dc_between pm_between cd_between ct_between : Value} {f_applied : Addr} {od_applied an_applied : Option Addr} {sl_applied : Array (Option Value)} {oc_applied kV_applied dc_applied pm_applied cd_applied ct_applied : Value} {f_composed : Addr} {od_composed an_composed : Option Addr} {sl_composed : Array (Option Value)} {oc_composed kV_composed dc_composed pm_composed cd_composed ct_composed : Value} {f_inverted : Addr} {od_inverted an_inverted : Option Addr} {sl_inverted : Array (Option Value)} {oc_inverted kV_inverted dc_inverted pm_inverted cd_inverted ct_inverted : Value} {f_law_mixed : Addr} {od_law_mixed an_law_mixed : Option Addr} {sl_law_mixed : Array (Option Value)} {oc_law_mixed kV_law_mixed dc_law_mixed pm_law_mixed cd_law_mixed ct_law_mixed : Value} {f_law_rest : Addr} {od_law_rest an_law_rest : Option Addr} {sl_law_rest : Array (Option Value)} {oc_law_rest kV_law_rest dc_law_rest pm_law_rest cd_law_rest ct_law_rest : Value} {f_law_pool : Addr} {od_law_pool an_law_pool : Option Addr} {sl_law_pool : Array (Option Value)} {oc_law_pool kV_law_pool dc_law_pool pm_law_pool cd_law_pool ct_law_pool : Value} {f_law_next : Addr} {od_law_next an_law_next : Option Addr} {sl_law_next : Array (Option Value)} {oc_law_next kV_law_next dc_law_next pm_law_next cd_law_next ct_law_next : Value} {f_law_draw : Addr} {od_law_draw an_law_draw : Option Addr} {sl_law_draw : Array (Option Value)} {oc_law_draw kV_law_draw dc_law_draw pm_law_draw cd_law_draw ct_law_draw : Value} {f_law_pick : Addr} {od_law_pick an_law_pick : Option Addr} {sl_law_pick : Array (Option Value)} {oc_law_pick kV_law_pick dc_law_pick pm_law_pick cd_law_pick ct_law_pick : Value} {f_law_same : Addr} {od_law_same an_law_same : Option Addr} {sl_law_same : Array (Option Value)} {oc_law_same kV_law_same dc_law_same pm_law_same cd_law_same ct_law_same : Value} {f_law_name : Addr} {od_law_name an_law_name : Option Addr} {sl_law_name : Array (Option Value)} {oc_law_name kV_law_name dc_law_name pm_law_name cd_law_name ct_law_name : Value} {f_law_cells : Addr} {od_law_cells an_law_cells : Option Addr} {sl_law_cells : Array (Option Value)} {oc_law_cells kV_law_cells dc_law_cells pm_law_cells cd_law_cells ct_law_cells : Value} {f_law_content : Addr} {od_law_content an_law_content : Option Addr} {sl_law_content : Array (Option Value)} {oc_law_content kV_law_content dc_law_content pm_law_content cd_law_content ct_law_content : Value} {f_law_universe : Addr} {od_law_universe an_law_universe : Option Addr} {sl_law_universe : Array (Option Value)} {oc_law_universe kV_law_universe dc_law_universe pm_law_universe cd_law_universe ct_law_universe : Value} {f_law_copy : Addr} {od_law_copy an_law_copy : Option Addr} {sl_law_copy : Array (Option Value)} {oc_law_copy kV_law_copy dc_law_copy pm_law_copy cd_law_copy ct_law_copy : Value} {f_law_without : Addr} {od_law_without an_law_without : Option Addr} {sl_law_without : Array (Option Value)} {oc_law_without kV_law_without dc_law_without pm_law_without cd_law_without ct_law_without : Value} {f_law_moved : Addr} {od_law_moved an_law_moved : Option Addr} {sl_law_moved : Array (Option Value)} {oc_law_moved kV_law_moved dc_law_moved pm_law_moved cd_law_moved ct_law_moved : Value} {f_law_between : Addr} {od_law_between an_law_between : Option Addr} {sl_law_between : Array (Option Value)} {oc_law_between kV_law_between dc_law_between pm_law_between cd_law_between ct_law_between : Value} {f_law_states : Addr} {od_law_states an_law_states : Option Addr} {sl_law_states : Array (Option Value)} {oc_law_states kV_law_states dc_law_states pm_law_states cd_law_states ct_law_states : Value} {f_law_whole : Addr} {od_law_whole an_law_whole : Option Addr} {sl_law_whole : Array (Option Value)} {oc_law_whole kV_law_whole dc_law_whole pm_law_whole cd_law_whole ct_law_whole : Value} {f_law : Addr} {od_law an_law : Option Addr} {sl_law : Array (Option Value)} {oc_law kV_law dc_law pm_law cd_law ct_law : Value} 
    (a_slots_of_both : PySem.W.nsIn K mainGlobals "slots_of_both" = some (some (.ref f_slots_of_both)))
    (l_slots_of_both : K.lookup f_slots_of_both = some ⟨oc_slots_of_both, od_slots_of_both, .func (PySem.W.fnOf "slots_of_both" "slots_of_both" (defArgs s_slots_of_both) (defBody s_slots_of_both) (defScope s_slots_of_both) .none kV_slots_of_both dc_slots_of_both pm_slots_of_both an_slots_of_both cd_slots_of_both ct_slots_of_both), sl_slots_of_both⟩)
    (c_slots_of_both : PySem.W.codeIn K cd_slots_of_both "slots_of_both" = true)
    (k_slots_of_both : PySem.W.keepIn K (.ref f_slots_of_both) = true)
    (a_between : PySem.W.nsIn K mainGlobals "between" = some (some (.ref f_between)))
    (l_between : K.lookup f_between = some ⟨oc_between, od_between, .func (PySem.W.fnOf "between" "between" (defArgs s_between) (defBody s_between) (defScope s_between) .none kV_between dc_between pm_between an_between cd_between ct_between), sl_between⟩)
    (c_between : PySem.W.codeIn K cd_between "between" = true)
    (k_between : PySem.W.keepIn K (.ref f_between) = true)
    (a_applied : PySem.W.nsIn K mainGlobals "applied" = some (some (.ref f_applied)))
    (l_applied : K.lookup f_applied = some ⟨oc_applied, od_applied, .func (PySem.W.fnOf "applied" "applied" (defArgs s_applied) (defBody s_applied) (defScope s_applied) .none kV_applied dc_applied pm_applied an_applied cd_applied ct_applied), sl_applied⟩)
    (c_applied : PySem.W.codeIn K cd_applied "applied" = true)
    (k_applied : PySem.W.keepIn K (.ref f_applied) = true)
    (a_composed : PySem.W.nsIn K mainGlobals "composed" = some (some (.ref f_composed)))
    (l_composed : K.lookup f_composed = some ⟨oc_composed, od_composed, .func (PySem.W.fnOf "composed" "composed" (defArgs s_composed) (defBody s_composed) (defScope s_composed) .none kV_composed dc_composed pm_composed an_composed cd_composed ct_composed), sl_composed⟩)
    (c_composed : PySem.W.codeIn K cd_composed "composed" = true)
    (k_composed : PySem.W.keepIn K (.ref f_composed) = true)
    (a_inverted : PySem.W.nsIn K mainGlobals "inverted" = some (some (.ref f_inverted)))
    (l_inverted : K.lookup f_inverted = some ⟨oc_inverted, od_inverted, .func (PySem.W.fnOf "inverted" "inverted" (defArgs s_inverted) (defBody s_inverted) (defScope s_inverted) .none kV_inverted dc_inverted pm_inverted an_inverted cd_inverted ct_inverted), sl_inverted⟩)
    (c_inverted : PySem.W.codeIn K cd_inverted "inverted" = true)
    (k_inverted : PySem.W.keepIn K (.ref f_inverted) = true)
    (a_law_mixed : PySem.W.nsIn K mainGlobals "_law_mixed" = some (some (.ref f_law_mixed)))
    (l_law_mixed : K.lookup f_law_mixed = some ⟨oc_law_mixed, od_law_mixed, .func (PySem.W.fnOf "_law_mixed" "_law_mixed" (defArgs s_law_mixed) (defBody s_law_mixed) (defScope s_law_mixed) .none kV_law_mixed dc_law_mixed pm_law_mixed an_law_mixed cd_law_mixed ct_law_mixed), sl_law_mixed⟩)
    (c_law_mixed : PySem.W.codeIn K cd_law_mixed "_law_mixed" = true)
    (k_law_mixed : PySem.W.keepIn K (.ref f_law_mixed) = true)
    (a_law_rest : PySem.W.nsIn K mainGlobals "_law_rest" = some (some (.ref f_law_rest)))
    (l_law_rest : K.lookup f_law_rest = some ⟨oc_law_rest, od_law_rest, .func (PySem.W.fnOf "_law_rest" "_law_rest" (defArgs s_law_rest) (defBody s_law_rest) (defScope s_law_rest) .none kV_law_rest dc_law_rest pm_law_rest an_law_rest cd_law_rest ct_law_rest), sl_law_rest⟩)
    (c_law_rest : PySem.W.codeIn K cd_law_rest "_law_rest" = true)
    (k_law_rest : PySem.W.keepIn K (.ref f_law_rest) = true)
    (a_law_pool : PySem.W.nsIn K mainGlobals "_law_pool" = some (some (.ref f_law_pool)))
    (l_law_pool : K.lookup f_law_pool = some ⟨oc_law_pool, od_law_pool, .func (PySem.W.fnOf "_law_pool" "_law_pool" (defArgs s_law_pool) (defBody s_law_pool) (defScope s_law_pool) .none kV_law_pool dc_law_pool pm_law_pool an_law_pool cd_law_pool ct_law_pool), sl_law_pool⟩)
    (c_law_pool : PySem.W.codeIn K cd_law_pool "_law_pool" = true)
    (k_law_pool : PySem.W.keepIn K (.ref f_law_pool) = true)
    (a_law_next : PySem.W.nsIn K mainGlobals "_law_next" = some (some (.ref f_law_next)))
    (l_law_next : K.lookup f_law_next = some ⟨oc_law_next, od_law_next, .func (PySem.W.fnOf "_law_next" "_law_next" (defArgs s_law_next) (defBody s_law_next) (defScope s_law_next) .none kV_law_next dc_law_next pm_law_next an_law_next cd_law_next ct_law_next), sl_law_next⟩)
    (c_law_next : PySem.W.codeIn K cd_law_next "_law_next" = true)
    (k_law_next : PySem.W.keepIn K (.ref f_law_next) = true)
    (a_law_draw : PySem.W.nsIn K mainGlobals "_law_draw" = some (some (.ref f_law_draw)))
    (l_law_draw : K.lookup f_law_draw = some ⟨oc_law_draw, od_law_draw, .func (PySem.W.fnOf "_law_draw" "_law_draw" (defArgs s_law_draw) (defBody s_law_draw) (defScope s_law_draw) .none kV_law_draw dc_law_draw pm_law_draw an_law_draw cd_law_draw ct_law_draw), sl_law_draw⟩)
    (c_law_draw : PySem.W.codeIn K cd_law_draw "_law_draw" = true)
    (k_law_draw : PySem.W.keepIn K (.ref f_law_draw) = true)
    (a_law_pick : PySem.W.nsIn K mainGlobals "_law_pick" = some (some (.ref f_law_pick)))
    (l_law_pick : K.lookup f_law_pick = some ⟨oc_law_pick, od_law_pick, .func (PySem.W.fnOf "_law_pick" "_law_pick" (defArgs s_law_pick) (defBody s_law_pick) (defScope s_law_pick) .none kV_law_pick dc_law_pick pm_law_pick an_law_pick cd_law_pick ct_law_pick), sl_law_pick⟩)
    (c_law_pick : PySem.W.codeIn K cd_law_pick "_law_pick" = true)
    (k_law_pick : PySem.W.keepIn K (.ref f_law_pick) = true)
    (a_law_same : PySem.W.nsIn K mainGlobals "_law_same" = some (some (.ref f_law_same)))
    (l_law_same : K.lookup f_law_same = some ⟨oc_law_same, od_law_same, .func (PySem.W.fnOf "_law_same" "_law_same" (defArgs s_law_same) (defBody s_law_same) (defScope s_law_same) .none kV_law_same dc_law_same pm_law_same an_law_same cd_law_same ct_law_same), sl_law_same⟩)
    (c_law_same : PySem.W.codeIn K cd_law_same "_law_same" = true)
    (k_law_same : PySem.W.keepIn K (.ref f_law_same) = true)
    (a_law_name : PySem.W.nsIn K mainGlobals "_law_name" = some (some (.ref f_law_name)))
    (l_law_name : K.lookup f_law_name = some ⟨oc_law_name, od_law_name, .func (PySem.W.fnOf "_law_name" "_law_name" (defArgs s_law_name) (defBody s_law_name) (defScope s_law_name) .none kV_law_name dc_law_name pm_law_name an_law_name cd_law_name ct_law_name), sl_law_name⟩)
    (c_law_name : PySem.W.codeIn K cd_law_name "_law_name" = true)
    (k_law_name : PySem.W.keepIn K (.ref f_law_name) = true)
    (a_law_cells : PySem.W.nsIn K mainGlobals "_law_cells" = some (some (.ref f_law_cells)))
    (l_law_cells : K.lookup f_law_cells = some ⟨oc_law_cells, od_law_cells, .func (PySem.W.fnOf "_law_cells" "_law_cells" (defArgs s_law_cells) (defBody s_law_cells) (defScope s_law_cells) .none kV_law_cells dc_law_cells pm_law_cells an_law_cells cd_law_cells ct_law_cells), sl_law_cells⟩)
    (c_law_cells : PySem.W.codeIn K cd_law_cells "_law_cells" = true)
    (k_law_cells : PySem.W.keepIn K (.ref f_law_cells) = true)
    (a_law_content : PySem.W.nsIn K mainGlobals "_law_content" = some (some (.ref f_law_content)))
    (l_law_content : K.lookup f_law_content = some ⟨oc_law_content, od_law_content, .func (PySem.W.fnOf "_law_content" "_law_content" (defArgs s_law_content) (defBody s_law_content) (defScope s_law_content) .none kV_law_content dc_law_content pm_law_content an_law_content cd_law_content ct_law_content), sl_law_content⟩)
    (c_law_content : PySem.W.codeIn K cd_law_content "_law_content" = true)
    (k_law_content : PySem.W.keepIn K (.ref f_law_content) = true)
    (a_law_universe : PySem.W.nsIn K mainGlobals "_law_universe" = some (some (.ref f_law_universe)))
    (l_law_universe : K.lookup f_law_universe = some ⟨oc_law_universe, od_law_universe, .func (PySem.W.fnOf "_law_universe" "_law_universe" (defArgs s_law_universe) (defBody s_law_universe) (defScope s_law_universe) .none kV_law_universe dc_law_universe pm_law_universe an_law_universe cd_law_universe ct_law_universe), sl_law_universe⟩)
    (c_law_universe : PySem.W.codeIn K cd_law_universe "_law_universe" = true)
    (k_law_universe : PySem.W.keepIn K (.ref f_law_universe) = true)
    (a_law_copy : PySem.W.nsIn K mainGlobals "_law_copy" = some (some (.ref f_law_copy)))
    (l_law_copy : K.lookup f_law_copy = some ⟨oc_law_copy, od_law_copy, .func (PySem.W.fnOf "_law_copy" "_law_copy" (defArgs s_law_copy) (defBody s_law_copy) (defScope s_law_copy) .none kV_law_copy dc_law_copy pm_law_copy an_law_copy cd_law_copy ct_law_copy), sl_law_copy⟩)
    (c_law_copy : PySem.W.codeIn K cd_law_copy "_law_copy" = true)
    (k_law_copy : PySem.W.keepIn K (.ref f_law_copy) = true)
    (a_law_without : PySem.W.nsIn K mainGlobals "_law_without" = some (some (.ref f_law_without)))
    (l_law_without : K.lookup f_law_without = some ⟨oc_law_without, od_law_without, .func (PySem.W.fnOf "_law_without" "_law_without" (defArgs s_law_without) (defBody s_law_without) (defScope s_law_without) .none kV_law_without dc_law_without pm_law_without an_law_without cd_law_without ct_law_without), sl_law_without⟩)
    (c_law_without : PySem.W.codeIn K cd_law_without "_law_without" = true)
    (k_law_without : PySem.W.keepIn K (.ref f_law_without) = true)
    (a_law_moved : PySem.W.nsIn K mainGlobals "_law_moved" = some (some (.ref f_law_moved)))
    (l_law_moved : K.lookup f_law_moved = some ⟨oc_law_moved, od_law_moved, .func (PySem.W.fnOf "_law_moved" "_law_moved" (defArgs s_law_moved) (defBody s_law_moved) (defScope s_law_moved) .none kV_law_moved dc_law_moved pm_law_moved an_law_moved cd_law_moved ct_law_moved), sl_law_moved⟩)
    (c_law_moved : PySem.W.codeIn K cd_law_moved "_law_moved" = true)
    (k_law_moved : PySem.W.keepIn K (.ref f_law_moved) = true)
    (a_law_between : PySem.W.nsIn K mainGlobals "_law_between" = some (some (.ref f_law_between)))
    (l_law_between : K.lookup f_law_between = some ⟨oc_law_between, od_law_between, .func (PySem.W.fnOf "_law_between" "_law_between" (defArgs s_law_between) (defBody s_law_between) (defScope s_law_between) .none kV_law_between dc_law_between pm_law_between an_law_between cd_law_between ct_law_between), sl_law_between⟩)
    (c_law_between : PySem.W.codeIn K cd_law_between "_law_between" = true)
    (k_law_between : PySem.W.keepIn K (.ref f_law_between) = true)
    (a_law_states : PySem.W.nsIn K mainGlobals "_law_states" = some (some (.ref f_law_states)))
    (l_law_states : K.lookup f_law_states = some ⟨oc_law_states, od_law_states, .func (PySem.W.fnOf "_law_states" "_law_states" (defArgs s_law_states) (defBody s_law_states) (defScope s_law_states) .none kV_law_states dc_law_states pm_law_states an_law_states cd_law_states ct_law_states), sl_law_states⟩)
    (c_law_states : PySem.W.codeIn K cd_law_states "_law_states" = true)
    (k_law_states : PySem.W.keepIn K (.ref f_law_states) = true)
    (a_law_whole : PySem.W.nsIn K mainGlobals "_law_whole" = some (some (.ref f_law_whole)))
    (l_law_whole : K.lookup f_law_whole = some ⟨oc_law_whole, od_law_whole, .func (PySem.W.fnOf "_law_whole" "_law_whole" (defArgs s_law_whole) (defBody s_law_whole) (defScope s_law_whole) .none kV_law_whole dc_law_whole pm_law_whole an_law_whole cd_law_whole ct_law_whole), sl_law_whole⟩)
    (c_law_whole : PySem.W.codeIn K cd_law_whole "_law_whole" = true)
    (k_law_whole : PySem.W.keepIn K (.ref f_law_whole) = true)
    (a_law : PySem.W.nsIn K mainGlobals "law" = some (some (.ref f_law)))
    (l_law : K.lookup f_law = some ⟨oc_law, od_law, .func (PySem.W.fnOf "law" "law" (defArgs s_law) (defBody s_law) (defScope s_law) .none kV_law dc_law pm_law an_law cd_law ct_law), sl_law⟩)
    (c_law : PySem.W.codeIn K cd_law "law" = true)
    (k_law : PySem.W.keepIn K (.ref f_law) = true)
    (z_bool : PySem.W.nsIn K mainGlobals "bool" = some none)
    (z_dict : PySem.W.nsIn K mainGlobals "dict" = some none)
    (z_int : PySem.W.nsIn K mainGlobals "int" = some none)
    (z_isinstance : PySem.W.nsIn K mainGlobals "isinstance" = some none)
    (z_len : PySem.W.nsIn K mainGlobals "len" = some none)
    (z_list : PySem.W.nsIn K mainGlobals "list" = some none)
    (z_range : PySem.W.nsIn K mainGlobals "range" = some none)
    (z_sorted : PySem.W.nsIn K mainGlobals "sorted" = some none)
    (z_str : PySem.W.nsIn K mainGlobals "str" = some none)
    (z_tuple : PySem.W.nsIn K mainGlobals "tuple" = some none)
    : ∃ fd : FuncData, (∀ (s : Shared) (v : Value), BindsTo s fd ⟨[v], []⟩ [("script", v)]) ∧ ∀ base : Heap, K.In base → base.Ns mainGlobals mg → FnOk l.prog w K mg base CX0 10 fa fd ["script"] (sp_law K) := by
  have e := hfa.symm.trans (PySem.W.mg_of X G a_law)
  cases e
  have F_slots_of_both := fun_mk (st := s_slots_of_both) l_slots_of_both c_slots_of_both k_slots_of_both
  have b_slots_of_both := F_slots_of_both.binds (ps := ["one", "other"]) fun _ _ _ _ _ _ us hl => match us, hl with | [_, _], _ => rfl
  have F_between := fun_mk (st := s_between) l_between c_between k_between
  have b_between := F_between.binds (ps := ["before", "after"]) fun _ _ _ _ _ _ us hl => match us, hl with | [_, _], _ => rfl
  have F_applied := fun_mk (st := s_applied) l_applied c_applied k_applied
  have b_applied := F_applied.binds (ps := ["slots", "difference"]) fun _ _ _ _ _ _ us hl => match us, hl with | [_, _], _ => rfl
  have F_composed := fun_mk (st := s_composed) l_composed c_composed k_composed
  have b_composed := F_composed.binds (ps := ["one", "other"]) fun _ _ _ _ _ _ us hl => match us, hl with | [_, _], _ => rfl
  have F_inverted := fun_mk (st := s_inverted) l_inverted c_inverted k_inverted
  have b_inverted := F_inverted.binds (ps := ["difference"]) fun _ _ _ _ _ _ us hl => match us, hl with | [_], _ => rfl
  have F_law_mixed := fun_mk (st := s_law_mixed) l_law_mixed c_law_mixed k_law_mixed
  have b_law_mixed := F_law_mixed.binds (ps := ["number", "place"]) fun _ _ _ _ _ _ us hl => match us, hl with | [_, _], _ => rfl
  have F_law_rest := fun_mk (st := s_law_rest) l_law_rest c_law_rest k_law_rest
  have b_law_rest := F_law_rest.binds (ps := ["script", "place", "fills"]) fun _ _ _ _ _ _ us hl => match us, hl with | [_, _, _], _ => rfl
  have F_law_pool := fun_mk (st := s_law_pool) l_law_pool c_law_pool k_law_pool
  have b_law_pool := F_law_pool.binds (ps := ["script"]) fun _ _ _ _ _ _ us hl => match us, hl with | [_], _ => rfl
  have F_law_next := fun_mk (st := s_law_next) l_law_next c_law_next k_law_next
  have b_law_next := F_law_next.binds (ps := ["pool"]) fun _ _ _ _ _ _ us hl => match us, hl with | [_], _ => rfl
  have F_law_draw := fun_mk (st := s_law_draw) l_law_draw c_law_draw k_law_draw
  have b_law_draw := F_law_draw.binds (ps := ["pool", "limit"]) fun _ _ _ _ _ _ us hl => match us, hl with | [_, _], _ => rfl
  have F_law_pick := fun_mk (st := s_law_pick) l_law_pick c_law_pick k_law_pick
  have b_law_pick := F_law_pick.binds (ps := ["pool", "options"]) fun _ _ _ _ _ _ us hl => match us, hl with | [_, _], _ => rfl
  have F_law_same := fun_mk (st := s_law_same) l_law_same c_law_same k_law_same
  have b_law_same := F_law_same.binds (ps := ["one", "other"]) fun _ _ _ _ _ _ us hl => match us, hl with | [_, _], _ => rfl
  have F_law_name := fun_mk (st := s_law_name) l_law_name c_law_name k_law_name
  have b_law_name := F_law_name.binds (ps := ["pool"]) fun _ _ _ _ _ _ us hl => match us, hl with | [_], _ => rfl
  have F_law_cells := fun_mk (st := s_law_cells) l_law_cells c_law_cells k_law_cells
  have b_law_cells := F_law_cells.binds (ps := ["pool"]) fun _ _ _ _ _ _ us hl => match us, hl with | [_], _ => rfl
  have F_law_content := fun_mk (st := s_law_content) l_law_content c_law_content k_law_content
  have b_law_content := F_law_content.binds (ps := ["pool", "slot"]) fun _ _ _ _ _ _ us hl => match us, hl with | [_, _], _ => rfl
  have F_law_universe := fun_mk (st := s_law_universe) l_law_universe c_law_universe k_law_universe
  have b_law_universe := F_law_universe.binds (ps := ["pool", "many"]) fun _ _ _ _ _ _ us hl => match us, hl with | [_, _], _ => rfl
  have F_law_copy := fun_mk (st := s_law_copy) l_law_copy c_law_copy k_law_copy
  have b_law_copy := F_law_copy.binds (ps := ["row"]) fun _ _ _ _ _ _ us hl => match us, hl with | [_], _ => rfl
  have F_law_without := fun_mk (st := s_law_without) l_law_without c_law_without k_law_without
  have b_law_without := F_law_without.binds (ps := ["row", "gone"]) fun _ _ _ _ _ _ us hl => match us, hl with | [_, _], _ => rfl
  have F_law_moved := fun_mk (st := s_law_moved) l_law_moved c_law_moved k_law_moved
  have b_law_moved := F_law_moved.binds (ps := ["pool", "slots", "state", "most"]) fun _ _ _ _ _ _ us hl => match us, hl with | [_, _, _, _], _ => rfl
  have F_law_between := fun_mk (st := s_law_between) l_law_between c_law_between k_law_between
  have b_law_between := F_law_between.binds (ps := ["one", "other"]) fun _ _ _ _ _ _ us hl => match us, hl with | [_, _], _ => rfl
  have F_law_states := fun_mk (st := s_law_states) l_law_states c_law_states k_law_states
  have b_law_states := F_law_states.binds (ps := ["pool"]) fun _ _ _ _ _ _ us hl => match us, hl with | [_], _ => rfl
  have F_law_whole := fun_mk (st := s_law_whole) l_law_whole c_law_whole k_law_whole
  have b_law_whole := F_law_whole.binds (ps := ["states"]) fun _ _ _ _ _ _ us hl => match us, hl with | [_], _ => rfl
  have F_law := fun_mk (st := s_law) l_law c_law k_law
  have b_law := F_law.binds (ps := ["script"]) fun _ _ _ _ _ _ us hl => match us, hl with | [_], _ => rfl
  let T : Txt K mg := {
    f_slots_of_both := f_slots_of_both, d_slots_of_both := _, F_slots_of_both := F_slots_of_both, g_slots_of_both := PySem.W.mg_of X G a_slots_of_both, k_slots_of_both := b_slots_of_both,
    f_between := f_between, d_between := _, F_between := F_between, g_between := PySem.W.mg_of X G a_between, k_between := b_between,
    f_applied := f_applied, d_applied := _, F_applied := F_applied, g_applied := PySem.W.mg_of X G a_applied, k_applied := b_applied,
    f_composed := f_composed, d_composed := _, F_composed := F_composed, g_composed := PySem.W.mg_of X G a_composed, k_composed := b_composed,
    f_inverted := f_inverted, d_inverted := _, F_inverted := F_inverted, g_inverted := PySem.W.mg_of X G a_inverted, k_inverted := b_inverted,
    f__law_mixed := f_law_mixed, d__law_mixed := _, F__law_mixed := F_law_mixed, g__law_mixed := PySem.W.mg_of X G a_law_mixed, k__law_mixed := b_law_mixed,
    f__law_rest := f_law_rest, d__law_rest := _, F__law_rest := F_law_rest, g__law_rest := PySem.W.mg_of X G a_law_rest, k__law_rest := b_law_rest,
    f__law_pool := f_law_pool, d__law_pool := _, F__law_pool := F_law_pool, g__law_pool := PySem.W.mg_of X G a_law_pool, k__law_pool := b_law_pool,
    f__law_next := f_law_next, d__law_next := _, F__law_next := F_law_next, g__law_next := PySem.W.mg_of X G a_law_next, k__law_next := b_law_next,
    f__law_draw := f_law_draw, d__law_draw := _, F__law_draw := F_law_draw, g__law_draw := PySem.W.mg_of X G a_law_draw, k__law_draw := b_law_draw,
    f__law_pick := f_law_pick, d__law_pick := _, F__law_pick := F_law_pick, g__law_pick := PySem.W.mg_of X G a_law_pick, k__law_pick := b_law_pick,
    f__law_same := f_law_same, d__law_same := _, F__law_same := F_law_same, g__law_same := PySem.W.mg_of X G a_law_same, k__law_same := b_law_same,
    f__law_name := f_law_name, d__law_name := _, F__law_name := F_law_name, g__law_name := PySem.W.mg_of X G a_law_name, k__law_name := b_law_name,
    f__law_cells := f_law_cells, d__law_cells := _, F__law_cells := F_law_cells, g__law_cells := PySem.W.mg_of X G a_law_cells, k__law_cells := b_law_cells,
    f__law_content := f_law_content, d__law_content := _, F__law_content := F_law_content, g__law_content := PySem.W.mg_of X G a_law_content, k__law_content := b_law_content,
    f__law_universe := f_law_universe, d__law_universe := _, F__law_universe := F_law_universe, g__law_universe := PySem.W.mg_of X G a_law_universe, k__law_universe := b_law_universe,
    f__law_copy := f_law_copy, d__law_copy := _, F__law_copy := F_law_copy, g__law_copy := PySem.W.mg_of X G a_law_copy, k__law_copy := b_law_copy,
    f__law_without := f_law_without, d__law_without := _, F__law_without := F_law_without, g__law_without := PySem.W.mg_of X G a_law_without, k__law_without := b_law_without,
    f__law_moved := f_law_moved, d__law_moved := _, F__law_moved := F_law_moved, g__law_moved := PySem.W.mg_of X G a_law_moved, k__law_moved := b_law_moved,
    f__law_between := f_law_between, d__law_between := _, F__law_between := F_law_between, g__law_between := PySem.W.mg_of X G a_law_between, k__law_between := b_law_between,
    f__law_states := f_law_states, d__law_states := _, F__law_states := F_law_states, g__law_states := PySem.W.mg_of X G a_law_states, k__law_states := b_law_states,
    f__law_whole := f_law_whole, d__law_whole := _, F__law_whole := F_law_whole, g__law_whole := PySem.W.mg_of X G a_law_whole, k__law_whole := b_law_whole,
    f_law := _, d_law := _, F_law := F_law, g_law := PySem.W.mg_of X G a_law, k_law := b_law,
    b_bool := PySem.W.mg_none_of X G z_bool,
    b_dict := PySem.W.mg_none_of X G z_dict,
    b_int := PySem.W.mg_none_of X G z_int,
    b_isinstance := PySem.W.mg_none_of X G z_isinstance,
    b_len := PySem.W.mg_none_of X G z_len,
    b_list := PySem.W.mg_none_of X G z_list,
    b_range := PySem.W.mg_none_of X G z_range,
    b_sorted := PySem.W.mg_none_of X G z_sorted,
    b_str := PySem.W.mg_none_of X G z_str,
    b_tuple := PySem.W.mg_none_of X G z_tuple }
  exact ⟨_, fun s v => .of_eq rfl, fun base _ _ => ok_law T⟩
end Law
open PySem PySem.W PyProof.Rows
set_option maxRecDepth 100000 in
set_option maxHeartbeats 0 in
theorem PySem.Challenge.cw_storelife_k25_differences_are_a_groupoid_holds : PySem.Challenge.rw_storelife_k25_differences_are_a_groupoid.Holds := by
  w_on; o_law; k_head; (case hw => w_witness2)
  k_fill
  refine L2.walk_of (l := PySem.Challenge.rw_storelife_k25_differences_are_a_groupoid) (n := 63) (k := 10) (x := "script") (CX := fun _ => L2.CX0) (sp := fun w => Law.sp_law _) rfl (by decide) rfl ⟨rfl, by decide, by decide⟩ (fun w h Y => PySem.W.kIn_of Y) ?F (fun _ H a ns hl hO hS => Law.start_law hO hl hS) (fun _ _ _ _ _ h => h)
  case F =>
    intro w mg fa h KX G hmg
    refine' Law.all_mk KX G hmg ?a_slots_of_both ?l_slots_of_both ?c_slots_of_both ?k_slots_of_both ?a_between ?l_between ?c_between ?k_between ?a_applied ?l_applied ?c_applied ?k_applied ?a_composed ?l_composed ?c_composed ?k_composed ?a_inverted ?l_inverted ?c_inverted ?k_inverted ?a_law_mixed ?l_law_mixed ?c_law_mixed ?k_law_mixed ?a_law_rest ?l_law_rest ?c_law_rest ?k_law_rest ?a_law_pool ?l_law_pool ?c_law_pool ?k_law_pool ?a_law_next ?l_law_next ?c_law_next ?k_law_next ?a_law_draw ?l_law_draw ?c_law_draw ?k_law_draw ?a_law_pick ?l_law_pick ?c_law_pick ?k_law_pick ?a_law_same ?l_law_same ?c_law_same ?k_law_same ?a_law_name ?l_law_name ?c_law_name ?k_law_name ?a_law_cells ?l_law_cells ?c_law_cells ?k_law_cells ?a_law_content ?l_law_content ?c_law_content ?k_law_content ?a_law_universe ?l_law_universe ?c_law_universe ?k_law_universe ?a_law_copy ?l_law_copy ?c_law_copy ?k_law_copy ?a_law_without ?l_law_without ?c_law_without ?k_law_without ?a_law_moved ?l_law_moved ?c_law_moved ?k_law_moved ?a_law_between ?l_law_between ?c_law_between ?k_law_between ?a_law_states ?l_law_states ?c_law_states ?k_law_states ?a_law_whole ?l_law_whole ?c_law_whole ?k_law_whole ?a_law ?l_law ?c_law ?k_law ?z_bool ?z_dict ?z_int ?z_isinstance ?z_len ?z_list ?z_range ?z_sorted ?z_str ?z_tuple
    (case a_slots_of_both => k_is)
    (case l_slots_of_both => k_is)
    (case c_slots_of_both => k_is)
    (case k_slots_of_both => k_is)
    (case a_between => k_is)
    (case l_between => k_is)
    (case c_between => k_is)
    (case k_between => k_is)
    (case a_applied => k_is)
    (case l_applied => k_is)
    (case c_applied => k_is)
    (case k_applied => k_is)
    (case a_composed => k_is)
    (case l_composed => k_is)
    (case c_composed => k_is)
    (case k_composed => k_is)
    (case a_inverted => k_is)
    (case l_inverted => k_is)
    (case c_inverted => k_is)
    (case k_inverted => k_is)
    (case a_law_mixed => k_is)
    (case l_law_mixed => k_is)
    (case c_law_mixed => k_is)
    (case k_law_mixed => k_is)
    (case a_law_rest => k_is)
    (case l_law_rest => k_is)
    (case c_law_rest => k_is)
    (case k_law_rest => k_is)
    (case a_law_pool => k_is)
    (case l_law_pool => k_is)
    (case c_law_pool => k_is)
    (case k_law_pool => k_is)
    (case a_law_next => k_is)
    (case l_law_next => k_is)
    (case c_law_next => k_is)
    (case k_law_next => k_is)
    (case a_law_draw => k_is)
    (case l_law_draw => k_is)
    (case c_law_draw => k_is)
    (case k_law_draw => k_is)
    (case a_law_pick => k_is)
    (case l_law_pick => k_is)
    (case c_law_pick => k_is)
    (case k_law_pick => k_is)
    (case a_law_same => k_is)
    (case l_law_same => k_is)
    (case c_law_same => k_is)
    (case k_law_same => k_is)
    (case a_law_name => k_is)
    (case l_law_name => k_is)
    (case c_law_name => k_is)
    (case k_law_name => k_is)
    (case a_law_cells => k_is)
    (case l_law_cells => k_is)
    (case c_law_cells => k_is)
    (case k_law_cells => k_is)
    (case a_law_content => k_is)
    (case l_law_content => k_is)
    (case c_law_content => k_is)
    (case k_law_content => k_is)
    (case a_law_universe => k_is)
    (case l_law_universe => k_is)
    (case c_law_universe => k_is)
    (case k_law_universe => k_is)
    (case a_law_copy => k_is)
    (case l_law_copy => k_is)
    (case c_law_copy => k_is)
    (case k_law_copy => k_is)
    (case a_law_without => k_is)
    (case l_law_without => k_is)
    (case c_law_without => k_is)
    (case k_law_without => k_is)
    (case a_law_moved => k_is)
    (case l_law_moved => k_is)
    (case c_law_moved => k_is)
    (case k_law_moved => k_is)
    (case a_law_between => k_is)
    (case l_law_between => k_is)
    (case c_law_between => k_is)
    (case k_law_between => k_is)
    (case a_law_states => k_is)
    (case l_law_states => k_is)
    (case c_law_states => k_is)
    (case k_law_states => k_is)
    (case a_law_whole => k_is)
    (case l_law_whole => k_is)
    (case c_law_whole => k_is)
    (case k_law_whole => k_is)
    (case a_law => k_is)
    (case l_law => k_is)
    (case c_law => k_is)
    (case k_law => k_is)
    (case z_bool => k_is)
    (case z_dict => k_is)
    (case z_int => k_is)
    (case z_isinstance => k_is)
    (case z_len => k_is)
    (case z_list => k_is)
    (case z_range => k_is)
    (case z_sorted => k_is)
    (case z_str => k_is)
    (case z_tuple => k_is)

