import PyProof.Rows.All
import Wide.All
import OpenK.AllK
import Wide.FinOn
import HandS.ForMost
import HandS.More
import HandS.TupAny
import HandS.Wide
import HandS.IsInst
import HandS.Style
import KE.KxIndex
import PySem.Challenge.RW_storelife_k29_thresholds
set_option Elab.async false
set_option linter.all false
set_option maxRecDepth 100000
namespace Zk
open PySem PySem.Spec L2
open PyProof.Rows hiding St

/-! ### heaps that grow -/
def Imm : HO → Prop
  | .tup _ => True
  | .frz _ _ => True
  | _ => False
/-- everything but the objects at M stands as it stood -/
structure Ext (M : List Addr) (H H' : Hp) : Prop where
  keep : ∀ a o, H a = some o → a ∉ M → H' a = some o
  imm : ∀ a o, H a = some o → Imm o → H' a = some o
  live : ∀ a o, H a = some o → ∃ o', H' a = some o'
theorem Ext.refl {M : List Addr} {H : Hp} : Ext M H H := ⟨fun _ _ h _ => h, fun _ _ h _ => h, fun _ o h => ⟨o, h⟩⟩
theorem Ext.trans {M : List Addr} {H H1 H2 : Hp} (a : Ext M H H1) (b : Ext M H1 H2) : Ext M H H2 :=
  ⟨fun x o h n => b.keep x o (a.keep x o h n) n, fun x o h i => b.imm x o (a.imm x o h i) i, fun x o h => (a.live x o h).elim fun o' h' => b.live x o' h'⟩
theorem Ext.mono {M N : List Addr} {H H' : Hp} (a : Ext M H H') (s : ∀ x ∈ M, x ∈ N) : Ext N H H' :=
  ⟨fun x o h n => a.keep x o h fun z => n (s x z), a.imm, a.live⟩
theorem Ext.up {M : List Addr} {H H' : Hp} (a : Ext [] H H') : Ext M H H' := a.mono fun _ z => nomatch z
theorem Ext.free {M : List Addr} {H H' : Hp} (e : Ext M H H') {l : Addr} (h : H' l = none) : H l = none := by
  cases q : H l with
  | none => rfl
  | some o =>
    obtain ⟨o', q'⟩ := e.live l o q
    rw [h] at q'
    cases q'
/-- what changes at an address that was free at the start is no change -/
theorem Ext.drop {M : List Addr} {H H1 H2 : Hp} {p : Addr} (a : Ext M H H1) (b : Ext (p :: M) H1 H2) (np : H p = none) : Ext M H H2 :=
  ⟨fun x o h n => b.keep x o (a.keep x o h n) fun z => by
      rcases List.mem_cons.mp z with z | z
      · subst z; rw [np] at h; cases h
      · exact n z, fun x o h i => b.imm x o (a.imm x o h i) i, fun x o h => (a.live x o h).elim fun o' h' => b.live x o' h'⟩
theorem Ext.new {H : Hp} {p : Addr} {o : HO} (h : H p = none) : Ext [] H (upd H p o) :=
  ⟨fun a u e _ => by rw [upd_ne (ne_of_none e h)]; exact e, fun a u e _ => by rw [upd_ne (ne_of_none e h)]; exact e, fun a u e => ⟨u, by rw [upd_ne (ne_of_none e h)]; exact e⟩⟩
theorem Ext.mut {M : List Addr} {H : Hp} {p : Addr} {o u : HO} (h : H p = some u) (hm : ¬ Imm u) (hp : p ∈ M) : Ext M H (upd H p o) := by
  refine ⟨fun a x e n => ?_, fun a x e i => ?_, fun a x e => ?_⟩
  · have : a ≠ p := fun z => n (z ▸ hp)
    rw [upd_ne this]; exact e
  · have : a ≠ p := fun z => by subst z; rw [h] at e; cases e; exact hm i
    rw [upd_ne this]; exact e
  · by_cases z : a = p
    · subst z; exact ⟨o, upd_same⟩
    · exact ⟨x, by rw [upd_ne z]; exact e⟩
theorem Ext.tup {M : List Addr} {H H' : Hp} (e : Ext M H H') {a : Addr} {xs : List V} (h : H a = some (.tup xs)) : H' a = some (.tup xs) := e.imm a _ h trivial
theorem Ext.at {M : List Addr} {H H' : Hp} (e : Ext M H H') {a : Addr} {o : HO} (h : H a = some o) (n : a ∉ M) : H' a = some o := e.keep a o h n
/-- the dict at d is locked while it is walked -/
theorem Ext.lock {M : List Addr} {H H' : Hp} {d : Addr} {u : HO} {od : Obj} (h : H d = some u) (hm : ¬ Imm u) (e : Ext M (upd H d (.frz od u)) H') : Ext M H (upd H' d u) := by
  refine ⟨fun a x q n => ?_, fun a x q i => ?_, fun a x q => ?_⟩
  · by_cases z : a = d
    · subst z; rw [upd_same]; rw [h] at q; exact q
    · rw [upd_ne z]; exact e.keep a x (by rw [upd_ne z]; exact q) n
  · by_cases z : a = d
    · subst z; rw [upd_same]; rw [h] at q; exact q
    · rw [upd_ne z]; exact e.imm a x (by rw [upd_ne z]; exact q) i
  · by_cases z : a = d
    · subst z; exact ⟨u, upd_same⟩
    · obtain ⟨o', q'⟩ := e.live a x (by rw [upd_ne z]; exact q)
      exact ⟨o', by rw [upd_ne z]; exact q'⟩

/-! ### an object is laid, an object is changed, with the heap behind it a letter -/
def Alc (o : HO) (H : Hp) (Q : VK) : Prop := ∀ p, H p = none → Q (.ref p) (upd H p o)
theorem w_alc {o : HO} {H : Hp} {Q : VK} (h : ∀ p H', Ext [] H H' → H p = none → H' p = some o → Q (.ref p) H') : Alc o H Q := fun p np => h p _ (Ext.new np) np upd_same
def Chg (p : Addr) (o : HO) (H : Hp) (Q : Hp → Prop) : Prop := Q (upd H p o)
theorem w_chg {p : Addr} {o u : HO} {H : Hp} {Q : Hp → Prop} (hp : H p = some u) (hm : ¬ Imm u) (h : ∀ H', Ext [p] H H' → H' p = some o → Q H') : Chg p o H Q :=
  h _ (Ext.mut hp hm (List.mem_singleton.mpr rfl)) upd_same

/-! ### lists and tuples to be read -/
theorem sql {K : PySem.W.Frag} {H : Hp} {a : Addr} {xs : List V} (h : H a = some (.lst xs)) : SqL K H a xs := .inl (.inl h)
theorem sqt {K : PySem.W.Frag} {H : Hp} {a : Addr} {xs : List V} (h : H a = some (.tup xs)) : SqT K H a xs := .inl (.inl h)
/-- the script: locked, or of the written part -/
def Scr (K : PySem.W.Frag) (H : Hp) (a : Addr) (xs : List V) : Prop := (∃ o, H a = some (.frz o (.lst xs))) ∨ (∀ H', SqL K H' a xs)
theorem Scr.ext {K : PySem.W.Frag} {M : List Addr} {H H' : Hp} {a : Addr} {xs : List V} (e : Ext M H H') (h : Scr K H a xs) : Scr K H' a xs := by
  rcases h with ⟨o, h⟩ | h
  · exact .inl ⟨o, e.imm _ _ h trivial⟩
  · exact .inr h
theorem Scr.sql {K : PySem.W.Frag} {H : Hp} {a : Addr} {xs : List V} (h : Scr K H a xs) : SqL K H a xs := by
  rcases h with ⟨o, h⟩ | h
  · exact .inl (.inr ⟨o, h⟩)
  · exact h H
theorem Scr.of {K : PySem.W.Frag} {H : Hp} {a : Addr} {xs : List V} (hO : Only H) (h : SqL K H a xs) : Scr K H a xs := by
  rcases h with (h | ⟨o, h⟩) | h
  · rcases hO a with z | ⟨o, ys, z⟩
    · rw [h] at z; cases z
    · rw [h] at z; cases z
  · exact .inl ⟨o, h⟩
  · exact .inr fun H' => .inr h
theorem sz {n : Nat} (h : n ≤ 1000000) : n ≤ sizeLine := Nat.le_trans h (by decide)
theorem szl {n : Nat} (h : n < 1000000) : n < sizeLine := Nat.lt_of_lt_of_le h (by decide)

/-! ### readings, by name -/
def zTup (t : TA) : TE := fun σ H Q => t σ H fun xs H1 => xs.length ≤ sizeLine ∧ Alc (.tup xs) H1 Q
def zLst (t : TA) : TE := fun σ H Q => t σ H fun xs H1 => xs.length ≤ sizeLine ∧ Alc (.lst xs) H1 Q
def zDNewK : TE := fun _ H Q => Alc (.dK []) H Q
def zDNewT : TE := fun _ H Q => Alc (.dT []) H Q
def rLtS : R2 := fun x y H Q => ∃ i j, x = .str i ∧ y = .str j ∧ Q (.bl (decide (i.cps.toList < j.cps.toList))) H
def rAddSt : R2 := fun x y H Q => ∃ i j, x = .str i ∧ y = .str j ∧ i.length + j.length ≤ sizeLine ∧ Q (.str (i ++ j)) H
def rMulSt : R2 := fun x y H Q => ∃ i j, x = .str i ∧ y = .int j ∧ i.length ≤ 16 ∧ (-(2 ^ 63 : Int) ≤ j ∧ j ≤ 1048576) ∧ Q (.str (Txt.mul i j)) H
def rIsNn : R2 := fun x y H Q => y = .non ∧ Q (.bl (decide (x = .non))) H
def rIsNt : R2 := fun x y H Q => y = .non ∧ Q (.bl (!decide (x = .non))) H
def rIsBv : R2 := fun x y H Q => ∃ b, y = .bl b ∧ Q (.bl (decide (x = .bl b))) H
def rIsNtBv : R2 := fun x y H Q => ∃ b, y = .bl b ∧ Q (.bl (!decide (x = .bl b))) H
def zCat : R2 := fun x y H Q => ∃ l b xs zs, x = .ref l ∧ y = .ref b ∧ H l = some (.lst xs) ∧ H b = some (.lst zs) ∧ xs.length + zs.length ≤ sizeLine ∧ Alc (.lst (xs ++ zs)) H Q
def zCatA (K : PySem.W.Frag) : R2 := fun x y H Q => ∃ a b xs ys, x = .ref a ∧ y = .ref b ∧ SqT K H a xs ∧ SqT K H b ys ∧ xs.length + ys.length ≤ sizeLine ∧
  (xs = [] → Q (.ref b) H) ∧ (xs ≠ [] → ys = [] → Q (.ref a) H) ∧ (xs ≠ [] → ys ≠ [] → Alc (.tup (xs ++ ys)) H Q)
def zSetL : V → V → V → Hp → (Hp → Prop) → Prop := fun o i v H Q => ∃ p xs k j, o = .ref p ∧ i = .int k ∧ H p = some (.lst xs) ∧ ixN xs.length k = some j ∧ Chg p (.lst (xs.set j v)) H Q
def zAppend : V → List V → Hp → VK → Prop := fun x vs H Q => ∃ l xs y, x = .ref l ∧ vs = [y] ∧ H l = some (.lst xs) ∧ xs.length < sizeLine ∧ Chg l (.lst (xs ++ [y])) H (Q .non)
def rJoin (K : PySem.W.Frag) : V → List V → Hp → VK → Prop := fun x xs H Q => ∃ a p, ∃ ys : List Str, x = .str a ∧ xs = [.ref p] ∧ (SqL K H p (ys.map V.str) ∨ SqT K H p (ys.map V.str)) ∧
    (ys.map (·.length)).sum + ys.length * a.length ≤ 16777216 ∧ Q (.str (Txt.join a ys)) H
/-! calls of built-ins -/
abbrev RC := List V → Hp → VK → Prop
def cInt : RC := fun xs H Q => (∃ i, xs = [.int i] ∧ Q (.int i) H) ∨ ∃ k, xs = [.bl k] ∧ Q (.int (if k then 1 else 0)) H
def cTup (K : PySem.W.Frag) : RC := fun xs H Q => ∃ p ys, xs = [.ref p] ∧ ((SqL K H p ys ∧ Alc (.tup ys) H Q) ∨ (SqT K H p ys ∧ Q (.ref p) H))
def cLen (K : PySem.W.Frag) : RC := fun xs H Q => ∃ x n, xs = [x] ∧ LenV K x H n ∧ Q (.int n) H
def cLenD : RC := fun xs H Q => ∃ a kvs, xs = [V.ref a] ∧ H a = some (.dK kvs) ∧ Q (.int kvs.length) H
def cDictD : RC := fun xs H Q => ∃ (a : Addr) (kvs : List (Key × V)), xs = [.ref a] ∧ Rd H a (.dK kvs) ∧ Alc (.dK kvs) H Q
def cSortD : RC := fun xs H Q => ∃ (a : Addr) (kvs : List (Key × V)) (ks : List Str), xs = [.ref a] ∧ Rd H a (.dK kvs) ∧ kvs.map (·.1) = ks.map Sum.inr ∧ ks.length < 64 ∧
    ∀ ys, ys.Perm ks → sortedS ys = true → Alc (.lst (ys.map V.str)) H Q
section
variable {X : Cx} {es : List Expr} {t : TA} {pos : Pos}
theorem pe_tupZ {x1} (h : PA X es t) : PE X (.Tuple es x1 pos) (zTup t) := pe_tup h
theorem pe_lstZ (h : PA X es t) : PE X (.List es pos) (zLst t) := pe_lst h
theorem pe_dnewKZ : PE X (.Dict [] [] pos) zDNewK := pe_dnewK
theorem pe_dnewTZ : PE X (.Dict [] [] pos) zDNewT := pe_dnewT
theorem zpe_join {o e : Expr} {to te : TE} {apos : Pos} (ho : PE X o to) (he : PE X e te) (hs : starEach [e] X.env = [(false, eval e X.env)] := by rfl) (hbase : attributeBase o "join" X.env (eval o X.env) = eval o X.env := by rfl) (hline : (apos.endLine == pos.line) = true := by rfl) :
    PE X (.Call (.Attribute o "join" apos) [e] [] pos) (tM1 (rJoin X.K) to te) := pe_join ho he hs hbase hline
theorem zop_ltS : OpR X (compareOp .Lt) rLtS := op_lt_str
theorem zop_addS : OpR X (binaryOp .Add) rAddSt := op_add_str
theorem zop_isN : OpR X (compareOp .Is) rIsNn := op_isN
theorem zop_notN : OpR X (compareOp .IsNot) rIsNt := op_notN
theorem plain_bool {x : V} {v : Value} {b : Bool} (r : RelV x v) : plainIs v (.bool b) = true := by
  cases x with
  | non => cases (show v = _ from r); rfl
  | bl c => cases (show v = _ from r); rfl
  | int i => obtain ⟨t, e⟩ := (show ∃ t, v = _ from r); subst e; rfl
  | str i => obtain ⟨t, e⟩ := (show ∃ t, v = _ from r); subst e; rfl
  | byt i => obtain ⟨t, e⟩ := (show ∃ t, v = _ from r); subst e; rfl
  | flt i => obtain ⟨t, e⟩ := (show ∃ t, v = _ from r); subst e; rfl
  | ref a => cases (show v = _ from r); rfl
  | ty n => cases (show v = _ from r); rfl
theorem rel_bool {x : V} {v : Value} {b : Bool} (r : RelV x v) : (v = .bool b) ↔ x = .bl b := by
  constructor
  · intro z
    subst z
    cases x with
    | bl c => cases (show Value.bool b = Value.bool c from r); rfl
    | non => cases (show Value.bool b = _ from r)
    | int i => obtain ⟨t, e⟩ := (show ∃ t, Value.bool b = _ from r); cases e
    | str i => obtain ⟨t, e⟩ := (show ∃ t, Value.bool b = _ from r); cases e
    | byt i => obtain ⟨t, e⟩ := (show ∃ t, Value.bool b = _ from r); cases e
    | flt i => obtain ⟨t, e⟩ := (show ∃ t, Value.bool b = _ from r); cases e
    | ref a => cases (show Value.bool b = _ from r)
    | ty n => cases (show Value.bool b = _ from r)
  · intro z
    subst z
    exact r
theorem zop_isB : OpR X (compareOp .Is) rIsBv := by
  intro pins s σ H x y v u Q I rx ry h
  obtain ⟨b, rfl, q⟩ := h
  cases (show u = Value.bool b from ry)
  by_cases e : x = .bl b
  · have e2 := (rel_bool (b := b) rx).mpr e
    subst e2
    exact wpAny_is_self rfl ⟨.bl true, H, I, rfl, by rw [decide_eq_true e] at q; exact q⟩
  · exact wpAny_is_other (plain_bool rx) (fun z => e ((rel_bool rx).mp z)) ⟨.bl false, H, I, rfl, by rw [decide_eq_false e] at q; exact q⟩
theorem zop_isNotB : OpR X (compareOp .IsNot) rIsNtBv := by
  intro pins s σ H x y v u Q I rx ry h
  obtain ⟨b, rfl, q⟩ := h
  cases (show u = Value.bool b from ry)
  by_cases e : x = .bl b
  · have e2 := (rel_bool (b := b) rx).mpr e
    subst e2
    exact wpAny_isNot_self rfl ⟨.bl false, H, I, rfl, by rw [decide_eq_true e] at q; exact q⟩
  · exact wpAny_isNot_other (plain_bool rx) (fun z => e ((rel_bool rx).mp z)) ⟨.bl true, H, I, rfl, by rw [decide_eq_false e] at q; exact q⟩
theorem zop_mulS : OpR X (binaryOp .Mult) rMulSt := by
  intro pins s σ H x y v u Q I rx ry h
  obtain ⟨i, j, rfl, rfl, hi, hj, q⟩ := h
  obtain ⟨t, rfl⟩ := rx
  obtain ⟨t', rfl⟩ := ry
  exact PySem.W.KXi.mul rfl hi hj.1 hj.2 fun t' tk _ _ => ⟨.str (Txt.mul i j), H, I.tok _, ⟨_, rfl⟩, q⟩
theorem zop_cat : OpR X (binaryOp .Add) zCat := op_cat
theorem zop_catA : OpR X (binaryOp .Add) (zCatA X.K) := op_catA
theorem zset_list : PSet X zSetL := set_list
theorem zmt_append : MtR X "list.append" zAppend := mt_append
theorem zop_catAK {K : PySem.W.Frag} (h : X.K = K) : OpR X (binaryOp .Add) (zCatA K) := h ▸ zop_catA
theorem op_in_seqK {K : PySem.W.Frag} (h : X.K = K) : OpR X (compareOp .In) (rIn K false) := h ▸ op_in_seq
theorem op_notIn_seqK {K : PySem.W.Frag} (h : X.K = K) : OpR X (compareOp .NotIn) (rIn K true) := h ▸ op_notIn_seq
theorem ix_listK {K : PySem.W.Frag} (h : X.K = K) : IxR X (rIxL K) := h ▸ ix_list
theorem ix_tupK {K : PySem.W.Frag} (h : X.K = K) : IxR X (rIxT K) := h ▸ ix_tup
theorem zc_lenK {K : PySem.W.Frag} (h : X.K = K) : CallR X (.builtin "len") (cLen K) := h ▸ call_len
theorem cr_sumK {K : PySem.W.Frag} (hc : X.calm = true) (h : X.K = K) : CallR X (.builtin "sum") (rSum K) := h ▸ cr_sum hc
theorem zc_int : CallR X (.type "int") cInt := call_int1
theorem zc_tup : CallR X (.type "tuple") (cTup X.K) := call_tuple_of
theorem zc_len : CallR X (.builtin "len") (cLen X.K) := call_len
theorem zc_lenD : CallR X (.builtin "len") cLenD := call_lenD
theorem zc_dictD : CallR X (.type "dict") cDictD := call_dictD
theorem zc_sortD (hc : X.calm = true) : CallR X (.builtin "sorted") cSortD := by
  intro pins s σ H xs us Q I r h
  obtain ⟨a, kvs, ks, e, h1, h2, h3, q⟩ := h
  exact call_sortedD hc pins s σ H xs us Q I r ⟨a, kvs, ks, e, h1, h2, h3, fun ys p hp hs np => q ys hp hs p np⟩
end
end Zk

set_option Elab.async false
set_option linter.all false
set_option maxRecDepth 100000
namespace Zk
open PySem PySem.Spec L2
open PyProof.Rows hiding St

theorem nm1 {a p : Addr} (h : a ≠ p) : a ∉ [p] := fun z => h (List.mem_singleton.mp z)
theorem nm2 {a p q : Addr} (h : a ≠ p) (g : a ≠ q) : a ∉ [p, q] := fun z => by
  rcases List.mem_cons.mp z with z | z
  · exact h z
  · exact g (List.mem_singleton.mp z)
theorem Ext.get {M : List Addr} {H H' : Hp} (e : Ext M H H') {a : Addr} {o : HO} (h : H a = some o) (n : a ∉ M ∨ Imm o) : H' a = some o :=
  n.elim (e.keep a o h) (e.imm a o h)

theorem at_some {α : Type} {xs : List α} {r : Int} (h0 : 0 ≤ r) (h1 : r < (xs.length : Int)) : ∃ v, atI xs r = some v ∧ xs[r.toNat]? = some v := by
  have hl : r.toNat < xs.length := by omega
  refine ⟨xs[r.toNat], ?_, List.getElem?_eq_getElem hl⟩
  have h := atI_nat (xs := xs) (j := r.toNat) (List.getElem?_eq_getElem hl)
  rw [Int.toNat_of_nonneg h0] at h
  exact h
theorem at_map {α : Type} {f : α → V} {xs : List α} {r : Int} (h0 : 0 ≤ r) (h1 : r < (xs.length : Int)) : ∃ v, v ∈ xs ∧ atI (xs.map f) r = some (f v) := by
  obtain ⟨v, h, g⟩ := at_some (xs := xs.map f) h0 (by rw [List.length_map]; exact h1)
  rw [List.getElem?_map, Option.map_eq_some_iff] at g
  obtain ⟨y, hy, e⟩ := g
  subst e
  exact ⟨y, List.mem_of_getElem? hy, h⟩

theorem str_app_inj {z : Str} {c d : Nat} (h : z ++ (⟨#[c]⟩ : Str) = z ++ (⟨#[d]⟩ : Str)) : c = d := by
  have h1 : z.cps ++ #[c] = z.cps ++ #[d] := congrArg Str.cps h
  have h2 := congrArg Array.toList h1
  simp at h2
  exact h2
theorem str_len_append (a b : Str) : (a ++ b).length = a.length + b.length := Array.size_append
theorem str_len_join {sep : Str} (h0 : sep.length = 0) : ∀ ys : List Str, (Txt.join sep ys).length = (ys.map (·.length)).sum := by
  intro ys
  show (Builtin.Str.glued sep ys).length = _
  rw [StrLaws.glued_eq_join]
  induction ys with
  | nil => rfl
  | cons x r ih =>
    cases r with
    | nil => simp [Str.join]
    | cons y r =>
      show (x ++ sep ++ Str.join sep (y :: r)).length = _
      rw [str_len_append, str_len_append, ih, h0]
      simp
theorem str_len_mul {x : Str} {n : Int} (h : 0 ≤ n) : (Txt.mul x n).length = x.length * n.toNat := by
  have e := PyProof.Rows.len_mul x n
  rw [if_neg (by simp; omega)] at e
  have : (x.length : Int) * n = ((x.length * n.toNat : Nat) : Int) := by
    rw [Int.natCast_mul, Int.toNat_of_nonneg h]
  omega
theorem nodup_len {α : Type} [DecidableEq α] : ∀ {l m : List α}, l.Nodup → (∀ x ∈ l, x ∈ m) → l.length ≤ m.length
  | [], m, _, _ => Nat.zero_le _
  | x :: l, m, hn, hs => by
    obtain ⟨h1, h2⟩ := List.nodup_cons.mp hn
    have hx := hs x List.mem_cons_self
    have ih := nodup_len (l := l) (m := m.erase x) h2 fun y hy => by
      have ne : y ≠ x := fun z => h1 (z ▸ hy)
      exact (List.mem_erase_of_ne ne).mpr (hs y (List.mem_cons_of_mem _ hy))
    rw [List.length_erase_of_mem hx] at ih
    have : 0 < m.length := List.length_pos_of_mem hx
    show l.length + 1 ≤ m.length
    omega

theorem paired_snoc {α β : Type} {R : α → β → Prop} {x : α} {y : β} (r : R x y) : ∀ {xs : List α} {ys : List β}, Paired R xs ys → Paired R (xs ++ [x]) (ys ++ [y])
  | _, _, .nil => .cons r .nil
  | _, _, .cons h t => .cons h (paired_snoc r t)
theorem paired_at {α β : Type} {R : α → β → Prop} : ∀ {xs : List α} {ys : List β} {i : Nat} {x : α}, Paired R xs ys → xs[i]? = some x → ∃ y, ys[i]? = some y ∧ R x y
  | _, _, _, _, .nil, e => by simp at e
  | _, _, 0, _, .cons r _, e => by simp at e; subst e; exact ⟨_, rfl, r⟩
  | _, _, i + 1, x, .cons _ t, e => by
    obtain ⟨y, h1, h2⟩ := paired_at (i := i) (x := x) t (by simpa using e)
    exact ⟨y, by simpa using h1, h2⟩
theorem paired_len {α β : Type} {R : α → β → Prop} : ∀ {xs : List α} {ys : List β}, Paired R xs ys → xs.length = ys.length
  | _, _, .nil => rfl
  | _, _, .cons _ t => congrArg (· + 1) (paired_len t)
theorem at_nat0 {α : Type} {xs : List α} {i : Nat} {v : α} (h : xs[i]? = some v) : atI xs (0 + (i : Int)) = some v := by
  rw [Int.zero_add]
  exact atI_nat h
theorem get_snoc {α : Type} {xs : List α} {x : α} {i : Nat} (h : xs.length = i) : (xs ++ [x])[i]? = some x := by
  subst h
  simp
theorem Ext.dropq {M : List Addr} {H H1 H2 : Hp} {p : Addr} (a : Ext M H H1) (b : Ext [p] H1 H2) (np : H p = none) : Ext M H H2 :=
  a.drop (p := p) (b.mono fun _ z => List.mem_cons.mpr (.inl (List.mem_singleton.mp z))) np

/-! ### promises by the number of arguments -/
def sp0 (P : Hp → VK → Prop) : Sp := fun vs H Q _ => vs = [] ∧ P H Q
def sp1 (P : V → Hp → VK → Prop) : Sp := fun vs H Q _ => ∃ a, vs = [a] ∧ P a H Q
def sp2 (P : V → V → Hp → VK → Prop) : Sp := fun vs H Q _ => ∃ a b, vs = [a, b] ∧ P a b H Q
def sp3 (P : V → V → V → Hp → VK → Prop) : Sp := fun vs H Q _ => ∃ a b c, vs = [a, b, c] ∧ P a b c H Q
def sp4 (P : V → V → V → V → Hp → VK → Prop) : Sp := fun vs H Q _ => ∃ a b c d, vs = [a, b, c, d] ∧ P a b c d H Q
theorem w_sp1 {P : V → Hp → VK → Prop} {a H Q E} (h : P a H Q) : sp1 P ([a] ++ []) H Q E := ⟨a, rfl, h⟩
theorem w_sp2 {P : V → V → Hp → VK → Prop} {a b H Q E} (h : P a b H Q) : sp2 P ([a, b] ++ []) H Q E := ⟨a, b, rfl, h⟩
theorem w_sp3 {P : V → V → V → Hp → VK → Prop} {a b c H Q E} (h : P a b c H Q) : sp3 P ([a, b, c] ++ []) H Q E := ⟨a, b, c, rfl, h⟩
theorem w_sp4 {P : V → V → V → V → Hp → VK → Prop} {a b c d H Q E} (h : P a b c d H Q) : sp4 P ([a, b, c, d] ++ []) H Q E := ⟨a, b, c, d, rfl, h⟩
theorem len1 {P : V → Hp → VK → Prop} {x : Str} : ∀ vs H Q E, sp1 P vs H Q E → vs.length = [x].length := fun _ _ _ _ ⟨_, e, _⟩ => e ▸ rfl
theorem len2 {P : V → V → Hp → VK → Prop} {x y : Str} : ∀ vs H Q E, sp2 P vs H Q E → vs.length = [x, y].length := fun _ _ _ _ ⟨_, _, e, _⟩ => e ▸ rfl
theorem len3 {P : V → V → V → Hp → VK → Prop} {x y z : Str} : ∀ vs H Q E, sp3 P vs H Q E → vs.length = [x, y, z].length := fun _ _ _ _ ⟨_, _, _, e, _⟩ => e ▸ rfl
theorem len4 {P : V → V → V → V → Hp → VK → Prop} {x y z u : Str} : ∀ vs H Q E, sp4 P vs H Q E → vs.length = [x, y, z, u].length := fun _ _ _ _ ⟨_, _, _, _, e, _⟩ => e ▸ rfl

/-! ### one step of a reading -/
section
variable {σ : St} {H : Hp} {Q : VK} {QB : Bool → Hp → Prop} {QL : List V → Hp → Prop} {v x y : V} {ta tb tc te : TE} {tt tu : TT} {tl : TA} {t u : TS} {r : R2} {K : PySem.W.Frag} {i : Nat} {nx bk ct : St → Hp → Prop} {rt : VK} {a b : Addr}
theorem w_var (h : σ[i]? = some (some v)) (q : Q v H) : tVar i σ H Q := ⟨v, h, q⟩
theorem w_c (q : Q v H) : tC v σ H Q := q
theorem w_op (h : ta σ H fun x H1 => tb σ H1 fun y H2 => r x y H2 Q) : tOp r ta tb σ H Q := h
theorem w_un {r : V → Hp → VK → Prop} (h : ta σ H fun x H1 => r x H1 Q) : tUn r ta σ H Q := h
theorem w_rU {g : Int → V} {j : Int} (q : Q (g j) H) : rU g (.int j) H Q := ⟨j, rfl, q⟩
theorem w_I0 {g : Int → Int → V} {i j : Int} (q : Q (g i j) H) : rI0 g (.int i) (.int j) H Q := ⟨i, j, rfl, rfl, q⟩
theorem w_I {C : Int → Int → Prop} {g : Int → Int → V} {i j : Int} (c : C i j) (q : Q (g i j) H) : rI C g (.int i) (.int j) H Q := ⟨i, j, rfl, rfl, c, q⟩
theorem w_modA {i j : Int} (c : 0 < j) (q : ∀ r, 0 ≤ r → r < j → Q (.int r) H) : rI (fun _ j => 0 < j) (fun i j => .int (i % j)) (.int i) (.int j) H Q := ⟨i, j, rfl, rfl, c, q _ (Int.emod_nonneg i (by omega)) (Int.emod_lt_of_pos i c)⟩
theorem w_eq (c : scal x y = true) (q : Q (.bl (decide (x = y))) H) : rEq x y H Q := ⟨c, q⟩
theorem w_ne (c : scal x y = true) (q : Q (.bl (!decide (x = y))) H) : rNe x y H Q := ⟨c, q⟩
theorem w_eqI {i j : Int} (q : Q (.bl (decide (i = j))) H) : rEq (.int i) (.int j) H Q := ⟨rfl, by rw [show decide (V.int i = V.int j) = decide (i = j) by simp]; exact q⟩
theorem w_neI {i j : Int} (q : Q (.bl (!decide (i = j))) H) : rNe (.int i) (.int j) H Q := ⟨rfl, by rw [show decide (V.int i = V.int j) = decide (i = j) by simp]; exact q⟩
theorem w_eqS {i j : Str} (q : Q (.bl (decide (i = j))) H) : rEq (.str i) (.str j) H Q := ⟨rfl, by rw [show decide (V.str i = V.str j) = decide (i = j) by simp]; exact q⟩
theorem w_neS {i j : Str} (q : Q (.bl (!decide (i = j))) H) : rNe (.str i) (.str j) H Q := ⟨rfl, by rw [show decide (V.str i = V.str j) = decide (i = j) by simp]; exact q⟩
theorem w_isN (q : Q (.bl (decide (x = .non))) H) : rIsNn x .non H Q := ⟨rfl, q⟩
theorem w_isNt (q : Q (.bl (!decide (x = .non))) H) : rIsNt x .non H Q := ⟨rfl, q⟩
theorem w_isB {c : Bool} (q : Q (.bl (decide (x = .bl c))) H) : rIsBv x (.bl c) H Q := ⟨c, rfl, q⟩
theorem w_isNtB {c : Bool} (q : Q (.bl (!decide (x = .bl c))) H) : rIsNtBv x (.bl c) H Q := ⟨c, rfl, q⟩
theorem w_ltS {i j : Str} (q : Q (.bl (decide (i.cps.toList < j.cps.toList))) H) : rLtS (.str i) (.str j) H Q := ⟨i, j, rfl, rfl, q⟩
theorem w_addS {i j : Str} (c : i.length + j.length ≤ sizeLine) (q : Q (.str (i ++ j)) H) : rAddSt (.str i) (.str j) H Q := ⟨i, j, rfl, rfl, c, q⟩
theorem w_mulS {i : Str} {j : Int} (c : i.length ≤ 16) (d : -(2 ^ 63 : Int) ≤ j ∧ j ≤ 1048576) (q : Q (.str (Txt.mul i j)) H) : rMulSt (.str i) (.int j) H Q := ⟨i, j, rfl, rfl, c, d, q⟩
theorem w_ixL {xs : List V} {j : Int} (h : SqL K H a xs) (e : atI xs j = some v) (q : Q v H) : rIxL K (.ref a) (.int j) H Q := ⟨a, xs, j, v, rfl, rfl, h, e, q⟩
theorem w_ixT {xs : List V} {j : Int} (h : SqT K H a xs) (e : atI xs j = some v) (q : Q v H) : rIxT K (.ref a) (.int j) H Q := ⟨a, xs, j, v, rfl, rfl, h, e, q⟩
theorem w_ixS {z : Str} {j : Int} {c : Nat} (h : z.length ≤ sizeLine) (e : atI z.cps.toList j = some c) (q : Q (.str ⟨#[c]⟩) H) : rIxS (.str z) (.int j) H Q := ⟨z, j, c, rfl, rfl, h, e, q⟩
theorem w_inL {neg : Bool} {xs : List V} (h : SqL K H a xs) (f : flatV x = true) (g : xs.all flatV = true) (q : Q (.bl (if neg then !inV x xs else inV x xs)) H) : rIn K neg x (.ref a) H Q := ⟨a, xs, rfl, .inl h, f, g, q⟩
theorem w_inT {neg : Bool} {xs : List V} (h : SqT K H a xs) (f : flatV x = true) (g : xs.all flatV = true) (q : Q (.bl (if neg then !inV x xs else inV x xs)) H) : rIn K neg x (.ref a) H Q := ⟨a, xs, rfl, .inr h, f, g, q⟩
theorem w_cat {xs zs : List V} (h : H a = some (.lst xs)) (g : H b = some (.lst zs)) (c : xs.length + zs.length ≤ sizeLine) (q : Alc (.lst (xs ++ zs)) H Q) : zCat (.ref a) (.ref b) H Q := ⟨a, b, xs, zs, rfl, rfl, h, g, c, q⟩
theorem w_setL {xs : List V} {k : Int} {j : Nat} {Q : Hp → Prop} (h : H a = some (.lst xs)) (e : ixN xs.length k = some j) (q : Chg a (.lst (xs.set j v)) H Q) : zSetL (.ref a) (.int k) v H Q := ⟨a, xs, k, j, rfl, rfl, h, e, q⟩
theorem w_append {xs : List V} (h : H a = some (.lst xs)) (c : xs.length < sizeLine) (q : Chg a (.lst (xs ++ [y])) H (Q .non)) : zAppend (.ref a) [y] H Q := ⟨a, xs, y, rfl, rfl, h, c, q⟩
theorem w_m1 {r : V → List V → Hp → VK → Prop} (h : ta σ H fun x H1 => (∃ a, x = .str a) ∧ tb σ H1 fun y H2 => r x [y] H2 Q) : tM1 r ta tb σ H Q := h
theorem w_str {s : Str} {R : Prop} (h : R) : (∃ a, V.str s = .str a) ∧ R := ⟨⟨s, rfl⟩, h⟩
theorem w_join {s : Str} {ys : List Str} (h : SqL K H a (ys.map V.str)) (c : (ys.map (·.length)).sum + ys.length * s.length ≤ 16777216) (q : Q (.str (Txt.join s ys)) H) : rJoin K (.str s) [.ref a] H Q := ⟨s, a, ys, rfl, rfl, .inl h, c, q⟩
theorem inV_str {z : Str} {ns : List Str} : inV (.str z) (ns.map V.str) = decide (z ∈ ns) := by
  unfold inV
  induction ns with
  | nil => rfl
  | cons a r ih =>
    rw [List.map_cons, List.any_cons, ih]
    show (a == z || decide (z ∈ r)) = _
    by_cases h : a = z
    · subst h; simp
    · have h2 : ¬ z = a := fun e => h e.symm
      simp [h, h2]
theorem flat_str : ∀ ns : List Str, (ns.map V.str).all flatV = true
  | [] => rfl
  | _ :: r => by rw [List.map_cons, List.all_cons, flat_str r]; rfl
theorem w_inS {z : Str} {ns : List Str} (h : SqL K H a (ns.map V.str) ∨ SqT K H a (ns.map V.str)) (q : Q (.bl (decide (z ∈ ns))) H) : rIn K false (.str z) (.ref a) H Q :=
  ⟨a, _, rfl, h, rfl, flat_str ns, by rw [if_neg Bool.false_ne_true, inV_str]; exact q⟩
theorem w_ninS {z : Str} {ns : List Str} (h : SqL K H a (ns.map V.str) ∨ SqT K H a (ns.map V.str)) (q : Q (.bl (!decide (z ∈ ns))) H) : rIn K true (.str z) (.ref a) H Q :=
  ⟨a, _, rfl, h, rfl, flat_str ns, by rw [if_pos rfl, inV_str]; exact q⟩
theorem w_bm {T : String} {r : V → List V → Hp → VK → Prop} (h : ta σ H fun x H1 => tyV K T x H1 ∧ tl σ H1 fun xs H2 => r x xs H2 Q) : tBM K T r ta tl σ H Q := h
theorem w_bm0 {T : String} {r : V → List V → Hp → VK → Prop} (h : ta σ H fun x H1 => tyV K T x H1 ∧ r x [] H1 Q) : tBM0 K T r ta σ H Q := h
theorem w_tyL {xs : List V} {R : Prop} (h : SqL K H a xs) (q : R) : tyV K "list" (.ref a) H ∧ R := ⟨.inl ⟨rfl, xs, h⟩, q⟩
/-! tests -/
theorem w_test (h : te σ H fun x H1 => ∃ k, x = .bl k ∧ QB k H1) : tTest te σ H QB := h
theorem w_tB (h : te σ H fun x H1 => ∃ k, x = .bl k ∧ QB k H1) : tB te σ H QB := h
theorem w_bl {k : Bool} {P : Bool → Prop} (q : P k) : ∃ c, V.bl k = .bl c ∧ P c := ⟨k, rfl, q⟩
theorem w_and (h : tt σ H fun c H1 => if c = true then tu σ H1 QB else QB false H1) : tAnd tt tu σ H QB := h
theorem w_or (h : tt σ H fun c H1 => if c = true then QB true H1 else tu σ H1 QB) : tOr tt tu σ H QB := h
theorem w_not (h : tt σ H fun c H1 => QB (!c) H1) : tNot tt σ H QB := h
theorem w_andV (h : ta σ H fun x H1 => ∃ c, x = .bl c ∧ if c = true then tb σ H1 Q else Q (.bl false) H1) : tAndV ta tb σ H Q := h
theorem w_orV (h : ta σ H fun x H1 => ∃ c, x = .bl c ∧ if c = true then Q (.bl true) H1 else tb σ H1 Q) : tOrV ta tb σ H Q := h
theorem w_notV (h : ta σ H fun x H1 => ∃ c, x = .bl c ∧ Q (.bl (!c)) H1) : tNotV ta σ H Q := h
theorem w_if (h : tt σ H fun c H1 => if c = true then ta σ H1 Q else tb σ H1 Q) : tIf tt ta tb σ H Q := h
theorem w_yes (q : QB true H) : tYes σ H QB := q
/-! arguments, displays, calls -/
theorem w_nil (q : QL [] H) : tNil σ H QL := q
theorem w_cons (h : te σ H fun x H1 => tl σ H1 fun xs H2 => QL (x :: xs) H2) : tCons te tl σ H QL := h
theorem w_tup (h : tl σ H fun xs H1 => xs.length ≤ sizeLine ∧ Alc (.tup xs) H1 Q) : zTup tl σ H Q := h
theorem w_lst (h : tl σ H fun xs H1 => xs.length ≤ sizeLine ∧ Alc (.lst xs) H1 Q) : zLst tl σ H Q := h
theorem w_dnewK (h : Alc (.dK []) H Q) : zDNewK σ H Q := h
theorem w_dnewT (h : Alc (.dT []) H Q) : zDNewT σ H Q := h
theorem w_cb {r : RC} (h : tl σ H fun vs H1 => r vs H1 Q) : tCB r tl σ H Q := h
theorem w_call {sp : Sp} {dvs : List V} {E : XK} (h : tl σ H fun vs H1 => sp (vs ++ dvs) H1 Q E) : tCall sp dvs E tl σ H Q := h
theorem w_int {j : Int} (q : Q (.int j) H) : cInt [.int j] H Q := .inl ⟨j, rfl, q⟩
theorem w_lenL {xs : List V} (h : SqL K H a xs) (q : Q (.int (xs.length : Int)) H) : cLen K [.ref a] H Q := ⟨_, _, rfl, .inl ⟨xs, h, rfl⟩, q⟩
theorem w_lenT {xs : List V} (h : SqT K H a xs) (q : Q (.int (xs.length : Int)) H) : cLen K [.ref a] H Q := ⟨_, _, rfl, .inr ⟨xs, h, rfl⟩, q⟩
theorem w_lenD {kvs : List (Key × V)} (h : H a = some (.dK kvs)) (q : Q (.int (kvs.length : Int)) H) : cLenD [.ref a] H Q := ⟨_, _, rfl, h, q⟩
theorem w_tupL {xs : List V} (h : SqL K H a xs) (q : Alc (.tup xs) H Q) : cTup K [.ref a] H Q := ⟨a, xs, rfl, .inl ⟨h, q⟩⟩
theorem w_dictD {kvs : List (Key × V)} (h : H a = some (.dK kvs)) (q : Alc (.dK kvs) H Q) : cDictD [.ref a] H Q := ⟨a, kvs, rfl, .inl h, q⟩
theorem w_sum {ns : List Int} (h : SqL K H a (ns.map V.int)) (q : Q (.int ns.sum) H) : rSum K [.ref a] H Q := ⟨a, ns, rfl, h, q⟩
theorem w_isi {c : V} {t w : Value} {k : Bool} (cl : ClsV c w) (ty : TyX K H x t) (e : PySem.W.kitOne K t w = some k) (q : Q (.bl k) H) : rIsi K [x, c] H Q := ⟨x, c, t, w, k, rfl, cl, ty, e, q⟩
theorem w_dget (h : ta σ H fun x H1 => tb σ H1 fun y H2 => ∃ a v, x = .ref a ∧ DGet H2 a y (some v) ∧ Q v H2) : tDGet ta tb σ H Q := h
theorem w_dgetS {kvs : List (Key × V)} {z : Str} {P : V → Prop} (h : H a = some (.dK kvs)) (e : valV kvs (Sum.inr z : Key) = some v) (q : P v) : ∃ b u, V.ref a = .ref b ∧ DGet H b (.str z) (some u) ∧ P u := ⟨a, v, rfl, by rw [← e]; exact DGet.k (k := Sum.inr z) h, q⟩
theorem w_din (h : ta σ H fun y H1 => tb σ H1 fun x H2 => ∃ a o, x = .ref a ∧ DGet H2 a y o ∧ Q (.bl o.isSome) H2) : tDIn ta tb σ H Q := h
theorem w_dnotin (h : ta σ H fun y H1 => tb σ H1 fun x H2 => ∃ a o, x = .ref a ∧ DGet H2 a y o ∧ Q (.bl (!o.isSome)) H2) : tDNotIn ta tb σ H Q := h
/-! statements -/
theorem w_seq (h : t ⟨u ⟨nx, rt, bk, ct⟩, rt, bk, ct⟩ σ H) : tSeq t u ⟨nx, rt, bk, ct⟩ σ H := h
theorem w_next (q : nx σ H) : tNext ⟨nx, rt, bk, ct⟩ σ H := q
theorem w_break (q : bk σ H) : tBreak ⟨nx, rt, bk, ct⟩ σ H := q
theorem w_cont (q : ct σ H) : tCont ⟨nx, rt, bk, ct⟩ σ H := q
theorem w_asg {g : TG} (h : te σ H fun x H1 => g x σ H1 nx) : tAsg te g ⟨nx, rt, bk, ct⟩ σ H := h
theorem w_gname {N : St → Hp → Prop} (q : N (σ.set i (some v)) H) : gName i v σ H N := q
theorem w_gsub {N : St → Hp → Prop} {s : TSet} (h : ta σ H fun o H1 => tb σ H1 fun i H2 => s o i v H2 fun H3 => N σ H3) : gSub ta tb s v σ H N := h
theorem w_drop (h : te σ H fun _ H1 => nx σ H1) : tDrop te ⟨nx, rt, bk, ct⟩ σ H := h
theorem w_ret (h : te σ H rt) : tRet te ⟨nx, rt, bk, ct⟩ σ H := h
theorem w_retN (h : rt .non H) : tRetN ⟨nx, rt, bk, ct⟩ σ H := h
theorem w_ifS (h : tt σ H fun b H1 => if b = true then t ⟨nx, rt, bk, ct⟩ σ H1 else u ⟨nx, rt, bk, ct⟩ σ H1) : tIfS tt t u ⟨nx, rt, bk, ct⟩ σ H := h
theorem w_cut (P : St → Hp → Prop) (h : ∀ σ' H', P σ' H' → nx σ' H') (g : ∀ nx', (∀ σ' H', P σ' H' → nx' σ' H') → tIfS tt t u ⟨nx', rt, bk, ct⟩ σ H) : tIfS tt t u ⟨nx, rt, bk, ct⟩ σ H := g nx h
theorem w_cutA {g : TG} (P : St → Hp → Prop) (h : ∀ σ' H', P σ' H' → nx σ' H') (k : ∀ nx', (∀ σ' H', P σ' H' → nx' σ' H') → tAsg te g ⟨nx', rt, bk, ct⟩ σ H) : tAsg te g ⟨nx, rt, bk, ct⟩ σ H := k nx h
theorem w_cutE (P : V → Hp → Prop) (h : ∀ v H', P v H' → Q v H') (k : ∀ Q' : VK, (∀ v H', P v H' → Q' v H') → tIf tt ta tb σ H Q') : tIf tt ta tb σ H Q := k Q h
theorem w_d {c A B : Prop} [Decidable c] (h1 : c → A) (h2 : ¬ c → B) : if decide c = true then A else B := ite2 (fun h => h1 (of_decide_eq_true h)) fun h => h2 fun z => h (decide_eq_true z)
theorem w_nd {c A B : Prop} [Decidable c] (h1 : ¬ c → A) (h2 : c → B) : if (!decide c) = true then A else B := ite2 (fun h => h1 fun z => by rw [decide_eq_true z] at h; cases h) fun h => h2 (by
  by_cases z : c
  · exact z
  · rw [decide_eq_false z] at h; exact absurd rfl h)
theorem w_b {c : Bool} {A B : Prop} (h1 : c = true → A) (h2 : c = false → B) : if c = true then A else B := by cases c with | true => exact iteT (h1 rfl) | false => exact iteF (h2 rfl)
theorem w_nb {c : Bool} {A B : Prop} (h1 : c = false → A) (h2 : c = true → B) : if (!c) = true then A else B := by cases c with | true => exact iteF (h2 rfl) | false => exact iteT (h1 rfl)
theorem w_for {wi : TI} {g : TG} (h : wi σ H fun J H1 => ∃ W : Nat → Nat → St → Hp → Prop, (∃ m, W 0 m σ H1) ∧ ∀ i m σ H, W i m σ H →
  (J.stop i H ∧ nx σ H) ∨ (J.go i H ∧ ∃ N : St → Hp → Prop, (∀ σ' H', N σ' H' → ∃ m', m' < m ∧ W (i + 1) m' σ' H') ∧ ∀ x H', J.yld i H x H' → g x σ H' fun σ2 H2 => t ⟨N, rt, nx, N⟩ σ2 H2)) : tFor wi g t ⟨nx, rt, bk, ct⟩ σ H := h
theorem w_iList {R : It → Hp → Prop} (h : te σ H fun x H1 => ∃ a, x = .ref a ∧ (∃ xs, SqL K H1 a xs) ∧ R (Itl K a) H1) : iList K te σ H R := h
theorem w_iTup {R : It → Hp → Prop} (h : te σ H fun x H1 => ∃ a, x = .ref a ∧ (∃ xs, SqT K H1 a xs) ∧ R (Itt K a) H1) : iTup K te σ H R := h
theorem w_iRng1 {R : It → Hp → Prop} (h : tl σ H fun vs H1 => ∃ j : Int, vs = [.int j] ∧ -(2 ^ 62) ≤ j ∧ j < 2 ^ 62 ∧ R (Itr 0 j.toNat) H1) : iRng1 tl σ H R := h
theorem w_iRng2 {R : It → Hp → Prop} (h : tl σ H fun vs H1 => ∃ i j : Int, vs = [.int i, .int j] ∧ (-(2 ^ 62) ≤ i ∧ i < 2 ^ 62 ∧ -(2 ^ 62) ≤ j ∧ j < 2 ^ 62) ∧ R (Itr i (j - i).toNat) H1) : iRng2 tl σ H R := h
theorem w_iStr {R : It → Hp → Prop} (h : te σ H fun v H1 => ∃ x, v = .str x ∧ R (Its x) H1) : iStr te σ H R := h
theorem iteNF {A B : Prop} (h : A) : if (!false) = true then A else B := iteT h
theorem iteNT {A B : Prop} (h : B) : if (!true) = true then A else B := iteF h
theorem w_f {c : Bool} {A B : Prop} (h : c = false) (q : B) : if c = true then A else B := by rw [h]; exact iteF q
theorem w_t {c : Bool} {A B : Prop} (h : c = true) (q : A) : if c = true then A else B := by rw [h]; exact iteT q
theorem w_gtup {n : Nat} {g : TGs} {xs : List V} {N : St → Hp → Prop} (h : SqT K H a xs) (l : xs.length = n) (q : g xs σ H N) : gTup K n g (.ref a) σ H N := ⟨a, xs, rfl, h, l, q⟩
theorem w_gcons {g : TG} {gs : TGs} {r : List V} {N : St → Hp → Prop} (q : g v σ H fun σ' H' => gs r σ' H' N) : gCons g gs (v :: r) σ H N := ⟨v, r, rfl, q⟩
theorem w_gnil {N : St → Hp → Prop} (q : N σ H) : gNil [] σ H N := ⟨rfl, q⟩
theorem w_sdput (h : te σ H fun v H1 => ta σ H1 fun x H2 => tb σ H2 fun y H3 => ∃ a H4, x = .ref a ∧ DPut H3 a y v H4 ∧ nx σ H4) : sDPut ta tb te ⟨nx, rt, bk, ct⟩ σ H := h
theorem w_dputS {kvs : List (Key × V)} {z : Str} {N : Hp → Prop} (h : H a = some (.dK kvs)) (l : kvs.length < sizeLine) (k : ∀ H', Ext [a] H H' → H' a = some (.dK (putK kvs (Sum.inr z) v)) → N H') : ∃ b H4, V.ref a = .ref b ∧ DPut H b (.str z) v H4 ∧ N H4 :=
  ⟨a, _, rfl, DPut.k (k := Sum.inr z) h l, k _ (Ext.mut h (fun z => z) (List.mem_singleton.mpr rfl)) upd_same⟩
theorem w_sortD {kvs : List (Key × V)} {ks : List Str} (h : H a = some (.dK kvs)) (e : kvs.map (·.1) = ks.map Sum.inr) (l : ks.length < 64) (q : ∀ ys, ys.Perm ks → sortedS ys = true → Alc (.lst (ys.map V.str)) H Q) : cSortD [.ref a] H Q := ⟨a, kvs, ks, rfl, .inl h, e, l, q⟩
/-! a dict is locked while it is walked -/
structure Lk (d : Addr) (u : HO) (od : Obj) (H H1 : Hp) : Prop where
  was : H d = some u
  ni : ¬ Imm u
  eq : H1 = upd H d (.frz od u)
theorem Lk.at {d : Addr} {u : HO} {od : Obj} {H H1 : Hp} (L : Lk d u od H H1) : H1 d = some (.frz od u) := by rw [L.eq]; exact upd_same
theorem Lk.keep {d : Addr} {u : HO} {od : Obj} {H H1 : Hp} (L : Lk d u od H H1) {b : Addr} {o : HO} (h : H b = some o) (n : b ≠ d) : H1 b = some o := by rw [L.eq, upd_ne n]; exact h
theorem Lk.tup {d : Addr} {u : HO} {od : Obj} {H H1 : Hp} (L : Lk d u od H H1) {b : Addr} {xs : List V} (h : H b = some (.tup xs)) : H1 b = some (.tup xs) :=
  L.keep h fun z => L.ni (by subst z; have := L.was; rw [h] at this; cases this; trivial)
theorem Lk.frz {d : Addr} {u : HO} {od : Obj} {H H1 : Hp} (L : Lk d u od H H1) {b : Addr} {o : Obj} {x : HO} (h : H b = some (.frz o x)) : H1 b = some (.frz o x) :=
  L.keep h fun z => L.ni (by subst z; have := L.was; rw [h] at this; cases this; trivial)
theorem Lk.free {d : Addr} {u : HO} {od : Obj} {H H1 : Hp} (L : Lk d u od H H1) {b : Addr} (h : H1 b = none) : H b = none := by
  rw [L.eq] at h
  by_cases z : b = d
  · subst z; rw [upd_same] at h; cases h
  · rw [upd_ne z] at h; exact h
theorem Lk.scr {d : Addr} {u : HO} {od : Obj} {H H1 : Hp} (L : Lk d u od H H1) {b : Addr} {xs : List V} (h : Scr K H b xs) : Scr K H1 b xs := by
  rcases h with ⟨o, h⟩ | h
  · exact .inl ⟨o, L.frz h⟩
  · exact .inr h
theorem w_lock {d : Addr} {u : HO} (h : H d = some u) (m : Mut (some u)) (ni : ¬ Imm u) (k : ∀ od H1, Lk d u od H H1 → t ⟨fun σ' H' => H' d = some (.frz od u) ∧ nx σ' (upd H' d u), fun v H' => H' d = some (.frz od u) ∧ rt v (upd H' d u), fun σ' H' => H' d = some (.frz od u) ∧ bk σ' (upd H' d u), fun σ' H' => H' d = some (.frz od u) ∧ ct σ' (upd H' d u)⟩ σ H1) :
    tLock t ⟨nx, rt, bk, ct⟩ σ H := ⟨d, u, h, m, fun od => k od _ ⟨h, ni, rfl⟩⟩
theorem w_lockE {d : Addr} {u : HO} (h : H d = some u) (m : Mut (some u)) (ni : ¬ Imm u) (k : ∀ od H1, Lk d u od H H1 → te σ H1 fun v H' => H' d = some (.frz od u) ∧ Q v (upd H' d u)) : tLockE te σ H Q := ⟨d, u, h, m, fun od => k od _ ⟨h, ni, rfl⟩⟩
theorem w_unlock {d : Addr} {u : HO} {od : Obj} {H0 H1 : Hp} {M : List Addr} {N : Hp → Prop} (L : Lk d u od H0 H1) (e : Ext M H1 H) (k : ∀ H', Ext M H0 H' → (∀ b o, H b = some o → b ≠ d → H' b = some o) → N H') : H d = some (.frz od u) ∧ N (upd H d u) := by
  refine ⟨e.imm _ _ L.at trivial, k _ ?_ fun b o h n => by rw [upd_ne n]; exact h⟩
  have e' := e
  rw [L.eq] at e'
  exact Ext.lock L.was L.ni e'
theorem w_iKeys {R : It → Hp → Prop} (h : te σ H fun x H1 => ∃ d o, x = .ref d ∧ ((∃ kvs, H1 d = some (.frz o (.dK kvs)) ∧ R (Itk d o kvs) H1) ∨ ∃ kvs, H1 d = some (.frz o (.dT kvs)) ∧ R (Itkt d o kvs) H1)) : iKeys te σ H R := h
theorem w_keysK {kvs : List (Key × V)} {o : Obj} {R : It → Hp → Prop} (h : H a = some (.frz o (.dK kvs))) (q : R (Itk a o kvs) H) : ∃ d o, V.ref a = .ref d ∧ ((∃ kvs, H d = some (.frz o (.dK kvs)) ∧ R (Itk d o kvs) H) ∨ ∃ kvs, H d = some (.frz o (.dT kvs)) ∧ R (Itkt d o kvs) H) := ⟨a, o, rfl, .inl ⟨kvs, h, q⟩⟩
theorem w_keysV {kvs : List (Key × V)} {o : Obj} {R : It → Hp → Prop} (e : σ[i]? = some (some (.ref a))) (h : H a = some (.frz o (.dK kvs))) (q : R (Itk a o kvs) H) : iKeys (tVar i) σ H R := ⟨.ref a, e, a, o, rfl, .inl ⟨kvs, h, q⟩⟩
theorem w_dgetR {kvs : List (Key × V)} {z : Str} {P : V → Prop} (h : Rd H a (.dK kvs)) (e : valV kvs (Sum.inr z : Key) = some v) (q : P v) : ∃ b u, V.ref a = .ref b ∧ DGet H b (.str z) (some u) ∧ P u := ⟨a, v, rfl, .inl ⟨kvs, Sum.inr z, h, rfl, e.symm⟩, q⟩
theorem w_dinS {kvs : List (Key × V)} {z : Str} {P : Option V → Prop} (h : Rd H a (.dK kvs)) (q : P (valV kvs (Sum.inr z : Key))) : ∃ b o, V.ref a = .ref b ∧ DGet H b (.str z) o ∧ P o := ⟨a, _, rfl, .inl ⟨kvs, Sum.inr z, h, rfl, rfl⟩, q⟩
/-! loops by an invariant; what a turn is to reach is a letter -/
theorem z_for_list {xs : List V} {g : TG} (Pv : Nat → St → Hp → Prop) (h0 : Pv 0 σ H) (hl : ∀ i σ H, i ≤ xs.length → Pv i σ H → SqL K H a xs)
    (hs : ∀ (N : St → Hp → Prop) i x σ H, xs[i]? = some x → Pv i σ H → (∀ σ' H', Pv (i + 1) σ' H' → N σ' H') → g x σ H fun σ2 H2 => t ⟨N, rt, nx, N⟩ σ2 H2) (hd : ∀ σ H, Pv xs.length σ H → nx σ H) :
    ∃ W : Nat → Nat → St → Hp → Prop, (∃ m, W 0 m σ H) ∧ ∀ i m σ H, W i m σ H →
      ((Itl K a).stop i H ∧ nx σ H) ∨ ((Itl K a).go i H ∧ ∃ N : St → Hp → Prop, (∀ σ' H', N σ' H' → ∃ m', m' < m ∧ W (i + 1) m' σ' H') ∧ ∀ x H', (Itl K a).yld i H x H' → g x σ H' fun σ2 H2 => t ⟨N, rt, nx, N⟩ σ2 H2) :=
  for_list (D := ⟨nx, rt, nx, nx⟩) Pv h0 hl (fun i x σ H hx p => hs (Pv (i + 1)) i x σ H hx p fun _ _ q => q) hd
theorem z_for_tup {xs : List V} {g : TG} (Pv : Nat → St → Hp → Prop) (h0 : Pv 0 σ H) (hl : ∀ i σ H, i ≤ xs.length → Pv i σ H → SqT K H a xs)
    (hs : ∀ (N : St → Hp → Prop) i x σ H, xs[i]? = some x → Pv i σ H → (∀ σ' H', Pv (i + 1) σ' H' → N σ' H') → g x σ H fun σ2 H2 => t ⟨N, rt, nx, N⟩ σ2 H2) (hd : ∀ σ H, Pv xs.length σ H → nx σ H) :
    ∃ W : Nat → Nat → St → Hp → Prop, (∃ m, W 0 m σ H) ∧ ∀ i m σ H, W i m σ H →
      ((Itt K a).stop i H ∧ nx σ H) ∨ ((Itt K a).go i H ∧ ∃ N : St → Hp → Prop, (∀ σ' H', N σ' H' → ∃ m', m' < m ∧ W (i + 1) m' σ' H') ∧ ∀ x H', (Itt K a).yld i H x H' → g x σ H' fun σ2 H2 => t ⟨N, rt, nx, N⟩ σ2 H2) :=
  for_tup (D := ⟨nx, rt, nx, nx⟩) Pv h0 hl (fun i x σ H hx p => hs (Pv (i + 1)) i x σ H hx p fun _ _ q => q) hd
theorem z_for_range {lo : Int} {n : Nat} {g : TG} (Pv : Nat → St → Hp → Prop) (h0 : Pv 0 σ H)
    (hs : ∀ (N : St → Hp → Prop) i σ H, i < n → Pv i σ H → (∀ σ' H', Pv (i + 1) σ' H' → N σ' H') → g (.int (lo + i)) σ H fun σ2 H2 => t ⟨N, rt, nx, N⟩ σ2 H2) (hd : ∀ σ H, Pv n σ H → nx σ H) :
    ∃ W : Nat → Nat → St → Hp → Prop, (∃ m, W 0 m σ H) ∧ ∀ i m σ H, W i m σ H →
      ((Itr lo n).stop i H ∧ nx σ H) ∨ ((Itr lo n).go i H ∧ ∃ N : St → Hp → Prop, (∀ σ' H', N σ' H' → ∃ m', m' < m ∧ W (i + 1) m' σ' H') ∧ ∀ x H', (Itr lo n).yld i H x H' → g x σ H' fun σ2 H2 => t ⟨N, rt, nx, N⟩ σ2 H2) :=
  for_range (D := ⟨nx, rt, nx, nx⟩) Pv h0 (fun i σ H hx p => hs (Pv (i + 1)) i σ H hx p fun _ _ q => q) hd
theorem z_for_str {z : Str} {g : TG} (Pv : Nat → St → Hp → Prop) (h0 : Pv 0 σ H)
    (hs : ∀ (N : St → Hp → Prop) i c σ H, z.cps[i]? = some c → Pv i σ H → (∀ σ' H', Pv (i + 1) σ' H' → N σ' H') → g (.str ⟨#[c]⟩) σ H fun σ2 H2 => t ⟨N, rt, nx, N⟩ σ2 H2) (hd : ∀ σ H, Pv z.cps.size σ H → nx σ H) :
    ∃ W : Nat → Nat → St → Hp → Prop, (∃ m, W 0 m σ H) ∧ ∀ i m σ H, W i m σ H →
      ((Its z).stop i H ∧ nx σ H) ∨ ((Its z).go i H ∧ ∃ N : St → Hp → Prop, (∀ σ' H', N σ' H' → ∃ m', m' < m ∧ W (i + 1) m' σ' H') ∧ ∀ x H', (Its z).yld i H x H' → g x σ H' fun σ2 H2 => t ⟨N, rt, nx, N⟩ σ2 H2) := by
  refine ⟨fun i m σ H => m = z.cps.size - i ∧ i ≤ z.cps.size ∧ Pv i σ H, ⟨_, rfl, Nat.zero_le _, h0⟩, ?_⟩
  rintro i m σ H ⟨rfl, hi, p⟩
  by_cases hlt : i < z.cps.size
  · refine .inr ⟨hlt, Pv (i + 1), fun σ' H' p' => ⟨z.cps.size - (i + 1), by omega, rfl, hlt, p'⟩, fun x H' y => ?_⟩
    obtain ⟨e, c, hc, rfl⟩ := y
    subst e
    exact hs (Pv (i + 1)) i c σ _ hc p fun _ _ q => q
  · have e : i = z.cps.size := by omega
    subst e
    exact .inl ⟨Nat.le_refl _, hd σ H p⟩
/-- over the keys of a locked dict -/
theorem z_for_keys {kvs : List (Key × V)} {d : Addr} {o : Obj} {g : TG} (Pv : Nat → St → Hp → Prop) (h0 : Pv 0 σ H) (hl : ∀ i σ H, i ≤ kvs.length → Pv i σ H → H d = some (.frz o (.dK kvs)))
    (hs : ∀ (N : St → Hp → Prop) i k v σ H, kvs[i]? = some (k, v) → Pv i σ H → (∀ σ' H', Pv (i + 1) σ' H' → N σ' H') → g (kV k) σ H fun σ2 H2 => t ⟨N, rt, nx, N⟩ σ2 H2) (hd : ∀ σ H, Pv kvs.length σ H → nx σ H) :
    ∃ W : Nat → Nat → St → Hp → Prop, (∃ m, W 0 m σ H) ∧ ∀ i m σ H, W i m σ H →
      ((Itk d o kvs).stop i H ∧ nx σ H) ∨ ((Itk d o kvs).go i H ∧ ∃ N : St → Hp → Prop, (∀ σ' H', N σ' H' → ∃ m', m' < m ∧ W (i + 1) m' σ' H') ∧ ∀ x H', (Itk d o kvs).yld i H x H' → g x σ H' fun σ2 H2 => t ⟨N, rt, nx, N⟩ σ2 H2) := by
  refine ⟨fun i m σ H => m = kvs.length - i ∧ i ≤ kvs.length ∧ Pv i σ H, ⟨_, rfl, Nat.zero_le _, h0⟩, ?_⟩
  rintro i m σ H ⟨rfl, hi, p⟩
  by_cases hlt : i < kvs.length
  · refine .inr ⟨⟨hl i σ H hi p, hlt⟩, Pv (i + 1), fun σ' H' p' => ⟨kvs.length - (i + 1), by omega, rfl, hlt, p'⟩, fun x H' y => ?_⟩
    obtain ⟨e, k, v, hk, rfl⟩ := y
    subst e
    exact hs (Pv (i + 1)) i k v σ _ hk p fun _ _ q => q
  · have e : i = kvs.length := by omega
    subst e
    exact .inl ⟨⟨hl _ σ H hi p, Nat.le_refl _⟩, hd σ H p⟩
/-! comprehensions -/
theorem w_lc {wi : TI} {g : TG} {vs : List Nat} (h : wi σ H fun J H1 => ∀ D, H1 D = none → ∃ W : Nat → Nat → Hp → Prop, (∃ m, W 0 m (upd H1 D (.lst []))) ∧ ∀ i m H, W i m H →
  (J.stop i H ∧ Q (.ref D) H) ∨ (J.go i H ∧ ∃ Nx : Hp → Prop, (∀ H', Nx H' → ∃ m', m' < m ∧ W (i + 1) m' H') ∧ ∀ x H', J.yld i H x H' → g x (wipe σ vs) H' fun σ2 H2 => wipe σ2 vs = wipe σ vs ∧ tt σ2 H2 fun b H3 =>
    if b = true then te σ2 H3 fun y H4 => ∃ acc, H4 D = some (.lst acc) ∧ acc.length < sizeLine ∧ Nx (upd H4 D (.lst (acc ++ [y]))) else Nx H3)) : tLc wi g tt te vs σ H Q := h
theorem w_app {Nx : Hp → Prop} {acc : List V} {D : Addr} (hD : H D = some (.lst acc)) (c : acc.length < sizeLine) (k : ∀ H', Ext [D] H H' → H' D = some (.lst (acc ++ [y])) → Nx H') :
    ∃ acc, H D = some (.lst acc) ∧ acc.length < sizeLine ∧ Nx (upd H D (.lst (acc ++ [y]))) := ⟨acc, hD, c, k _ (Ext.mut hD (fun z => z) (List.mem_singleton.mpr rfl)) upd_same⟩
theorem z_lc_list {xs : List V} {g : TG} {vs : List Nat} {D : Addr} {Qd : Hp → Prop} (Pv : Nat → List V → Hp → Prop) (nD : H D = none) (h0 : ∀ H', Ext [] H H' → Pv 0 [] H') (hl : ∀ i acc H, i ≤ xs.length → Pv i acc H → SqL K H a xs)
    (hs : ∀ (Nx : Hp → Prop) i x acc H, xs[i]? = some x → Pv i acc H → H D = some (.lst acc) → (∀ acc' H', Pv (i + 1) acc' H' → H' D = some (.lst acc') → Nx H') → g x (wipe σ vs) H fun σ2 H2 => wipe σ2 vs = wipe σ vs ∧ tt σ2 H2 fun b H3 =>
      if b = true then te σ2 H3 fun y H4 => ∃ acc, H4 D = some (.lst acc) ∧ acc.length < sizeLine ∧ Nx (upd H4 D (.lst (acc ++ [y]))) else Nx H3) (hd : ∀ acc H, Pv xs.length acc H → H D = some (.lst acc) → Qd H) :
    ∃ W : Nat → Nat → Hp → Prop, (∃ m, W 0 m (upd H D (.lst []))) ∧ ∀ i m H, W i m H →
      ((Itl K a).stop i H ∧ Qd H) ∨ ((Itl K a).go i H ∧ ∃ Nx : Hp → Prop, (∀ H', Nx H' → ∃ m', m' < m ∧ W (i + 1) m' H') ∧ ∀ x H', (Itl K a).yld i H x H' → g x (wipe σ vs) H' fun σ2 H2 => wipe σ2 vs = wipe σ vs ∧ tt σ2 H2 fun b H3 =>
        if b = true then te σ2 H3 fun y H4 => ∃ acc, H4 D = some (.lst acc) ∧ acc.length < sizeLine ∧ Nx (upd H4 D (.lst (acc ++ [y]))) else Nx H3) :=
  lc_list (fun i H => ∃ acc, Pv i acc H ∧ H D = some (.lst acc)) ⟨[], h0 _ (Ext.new nD), upd_same⟩ (fun i H hi ⟨acc, p, _⟩ => hl i acc H hi p)
    (fun i x H hx ⟨acc, p, hD⟩ => hs _ i x acc H hx p hD fun acc' H' p' h' => ⟨acc', p', h'⟩) fun H ⟨acc, p, hD⟩ => hd acc H p hD
theorem z_lc_tup {xs : List V} {g : TG} {vs : List Nat} {D : Addr} {Qd : Hp → Prop} (Pv : Nat → List V → Hp → Prop) (nD : H D = none) (h0 : ∀ H', Ext [] H H' → Pv 0 [] H') (hl : ∀ i acc H, i ≤ xs.length → Pv i acc H → SqT K H a xs)
    (hs : ∀ (Nx : Hp → Prop) i x acc H, xs[i]? = some x → Pv i acc H → H D = some (.lst acc) → (∀ acc' H', Pv (i + 1) acc' H' → H' D = some (.lst acc') → Nx H') → g x (wipe σ vs) H fun σ2 H2 => wipe σ2 vs = wipe σ vs ∧ tt σ2 H2 fun b H3 =>
      if b = true then te σ2 H3 fun y H4 => ∃ acc, H4 D = some (.lst acc) ∧ acc.length < sizeLine ∧ Nx (upd H4 D (.lst (acc ++ [y]))) else Nx H3) (hd : ∀ acc H, Pv xs.length acc H → H D = some (.lst acc) → Qd H) :
    ∃ W : Nat → Nat → Hp → Prop, (∃ m, W 0 m (upd H D (.lst []))) ∧ ∀ i m H, W i m H →
      ((Itt K a).stop i H ∧ Qd H) ∨ ((Itt K a).go i H ∧ ∃ Nx : Hp → Prop, (∀ H', Nx H' → ∃ m', m' < m ∧ W (i + 1) m' H') ∧ ∀ x H', (Itt K a).yld i H x H' → g x (wipe σ vs) H' fun σ2 H2 => wipe σ2 vs = wipe σ vs ∧ tt σ2 H2 fun b H3 =>
        if b = true then te σ2 H3 fun y H4 => ∃ acc, H4 D = some (.lst acc) ∧ acc.length < sizeLine ∧ Nx (upd H4 D (.lst (acc ++ [y]))) else Nx H3) :=
  lc_tup (fun i H => ∃ acc, Pv i acc H ∧ H D = some (.lst acc)) ⟨[], h0 _ (Ext.new nD), upd_same⟩ (fun i H hi ⟨acc, p, _⟩ => hl i acc H hi p)
    (fun i x H hx ⟨acc, p, hD⟩ => hs _ i x acc H hx p hD fun acc' H' p' h' => ⟨acc', p', h'⟩) fun H ⟨acc, p, hD⟩ => hd acc H p hD
theorem z_lc_range {lo : Int} {n : Nat} {g : TG} {vs : List Nat} {D : Addr} {Qd : Hp → Prop} (Pv : Nat → List V → Hp → Prop) (nD : H D = none) (h0 : ∀ H', Ext [] H H' → Pv 0 [] H')
    (hs : ∀ (Nx : Hp → Prop) i acc H, i < n → Pv i acc H → H D = some (.lst acc) → (∀ acc' H', Pv (i + 1) acc' H' → H' D = some (.lst acc') → Nx H') → g (.int (lo + i)) (wipe σ vs) H fun σ2 H2 => wipe σ2 vs = wipe σ vs ∧ tt σ2 H2 fun b H3 =>
      if b = true then te σ2 H3 fun y H4 => ∃ acc, H4 D = some (.lst acc) ∧ acc.length < sizeLine ∧ Nx (upd H4 D (.lst (acc ++ [y]))) else Nx H3) (hd : ∀ acc H, Pv n acc H → H D = some (.lst acc) → Qd H) :
    ∃ W : Nat → Nat → Hp → Prop, (∃ m, W 0 m (upd H D (.lst []))) ∧ ∀ i m H, W i m H →
      ((Itr lo n).stop i H ∧ Qd H) ∨ ((Itr lo n).go i H ∧ ∃ Nx : Hp → Prop, (∀ H', Nx H' → ∃ m', m' < m ∧ W (i + 1) m' H') ∧ ∀ x H', (Itr lo n).yld i H x H' → g x (wipe σ vs) H' fun σ2 H2 => wipe σ2 vs = wipe σ vs ∧ tt σ2 H2 fun b H3 =>
        if b = true then te σ2 H3 fun y H4 => ∃ acc, H4 D = some (.lst acc) ∧ acc.length < sizeLine ∧ Nx (upd H4 D (.lst (acc ++ [y]))) else Nx H3) :=
  lc_range (fun i H => ∃ acc, Pv i acc H ∧ H D = some (.lst acc)) ⟨[], h0 _ (Ext.new nD), upd_same⟩
    (fun i H hx ⟨acc, p, hD⟩ => hs _ i acc H hx p hD fun acc' H' p' h' => ⟨acc', p', h'⟩) fun H ⟨acc, p, hD⟩ => hd acc H p hD
theorem z_lc_keys {kvs : List (Key × V)} {d : Addr} {o : Obj} {g : TG} {vs : List Nat} {D : Addr} {Qd : Hp → Prop} (Pv : Nat → List V → Hp → Prop) (nD : H D = none) (h0 : ∀ H', Ext [] H H' → Pv 0 [] H') (hl : ∀ i acc H, i ≤ kvs.length → Pv i acc H → H d = some (.frz o (.dK kvs)))
    (hs : ∀ (Nx : Hp → Prop) i k v acc H, kvs[i]? = some (k, v) → Pv i acc H → H D = some (.lst acc) → (∀ acc' H', Pv (i + 1) acc' H' → H' D = some (.lst acc') → Nx H') → g (kV k) (wipe σ vs) H fun σ2 H2 => wipe σ2 vs = wipe σ vs ∧ tt σ2 H2 fun b H3 =>
      if b = true then te σ2 H3 fun y H4 => ∃ acc, H4 D = some (.lst acc) ∧ acc.length < sizeLine ∧ Nx (upd H4 D (.lst (acc ++ [y]))) else Nx H3) (hd : ∀ acc H, Pv kvs.length acc H → H D = some (.lst acc) → Qd H) :
    ∃ W : Nat → Nat → Hp → Prop, (∃ m, W 0 m (upd H D (.lst []))) ∧ ∀ i m H, W i m H →
      ((Itk d o kvs).stop i H ∧ Qd H) ∨ ((Itk d o kvs).go i H ∧ ∃ Nx : Hp → Prop, (∀ H', Nx H' → ∃ m', m' < m ∧ W (i + 1) m' H') ∧ ∀ x H', (Itk d o kvs).yld i H x H' → g x (wipe σ vs) H' fun σ2 H2 => wipe σ2 vs = wipe σ vs ∧ tt σ2 H2 fun b H3 =>
        if b = true then te σ2 H3 fun y H4 => ∃ acc, H4 D = some (.lst acc) ∧ acc.length < sizeLine ∧ Nx (upd H4 D (.lst (acc ++ [y]))) else Nx H3) := by
  refine ⟨fun i m H => m = kvs.length - i ∧ i ≤ kvs.length ∧ ∃ acc, Pv i acc H ∧ H D = some (.lst acc), ⟨_, rfl, Nat.zero_le _, [], h0 _ (Ext.new nD), upd_same⟩, ?_⟩
  rintro i m H ⟨rfl, hi, acc, p, hD⟩
  by_cases hlt : i < kvs.length
  · refine .inr ⟨⟨hl i acc H hi p, hlt⟩, (fun H => ∃ acc, Pv (i + 1) acc H ∧ H D = some (.lst acc)), fun H' p' => ⟨kvs.length - (i + 1), by omega, rfl, hlt, p'⟩, fun x H' y => ?_⟩
    obtain ⟨e, k, v, hk, rfl⟩ := y
    subst e
    exact hs _ i k v acc _ hk p hD fun acc' H' p' h' => ⟨acc', p', h'⟩
  · have e : i = kvs.length := by omega
    subst e
    exact .inl ⟨⟨hl _ acc H hi p, Nat.le_refl _⟩, hd acc H p hD⟩
end
end Zk

set_option Elab.async false
set_option linter.all false
namespace Zk
open PySem PySem.Spec L2
open PyProof.Rows hiding St

/-! ### texts in order -/
theorem strlt_of {a b : Str} (h : ltCps b.cps.toList a.cps.toList = false) (n : a ≠ b) : a.cps.toList < b.cps.toList := by
  rw [ltCps_eq] at h
  have h1 : ¬ b.cps.toList < a.cps.toList := fun z => by rw [decide_eq_true z] at h; cases h
  have h2 : a.cps.toList ≤ b.cps.toList := List.not_lt.mp h1
  by_cases z : a.cps.toList < b.cps.toList
  · exact z
  · have h3 : b.cps.toList ≤ a.cps.toList := List.not_lt.mp z
    have h4 := List.le_antisymm h2 h3
    exact absurd (by
      cases a; cases b
      simp only [Str.mk.injEq]
      exact Array.toList_inj.mp h4) n
theorem rising_pw : ∀ (x : Str) (r : List Str), risingS x r = true → (x :: r).Nodup → (x :: r).Pairwise (fun a b => a.cps.toList < b.cps.toList)
  | x, [], _, _ => List.pairwise_singleton _ _
  | x, y :: r, h, hn => by
    have h : (!ltCps y.cps.toList x.cps.toList && risingS y r) = true := h
    rw [Bool.and_eq_true] at h
    obtain ⟨hx, hn2⟩ := List.nodup_cons.mp hn
    have ih := rising_pw y r h.2 hn2
    have xy : x.cps.toList < y.cps.toList := strlt_of (by simpa using h.1) fun e => hx (e ▸ List.mem_cons_self)
    refine List.pairwise_cons.mpr ⟨fun z hz => ?_, ih⟩
    rcases List.mem_cons.mp hz with hz | hz
    · rw [hz]; exact xy
    · exact List.lt_trans xy ((List.pairwise_cons.mp ih).1 z hz)
theorem sorted_pw {l : List Str} (h : sortedS l = true) (hn : l.Nodup) : l.Pairwise (fun a b => a.cps.toList < b.cps.toList) := by
  cases l with
  | nil => exact .nil
  | cons x r => exact rising_pw x r h hn

/-! ### sums of all groups -/
def sumsF (acc : List Int) (ws : List Int) : List Int := ws.foldl (fun a w => a ++ a.map (· + w)) acc
def grpF (acc : List (List Str)) (ns : List Str) : List (List Str) := ns.foldl (fun a n => a ++ a.map (· ++ [n])) acc
theorem sumsF_snoc (acc ws : List Int) (w : Int) : sumsF acc (ws ++ [w]) = sumsF acc ws ++ (sumsF acc ws).map (· + w) := by
  unfold sumsF; rw [List.foldl_append]; rfl
theorem grpF_snoc (acc : List (List Str)) (ns : List Str) (n : Str) : grpF acc (ns ++ [n]) = grpF acc ns ++ (grpF acc ns).map (· ++ [n]) := by
  unfold grpF; rw [List.foldl_append]; rfl
theorem sumsF_len (ws : List Int) : ∀ acc : List Int, (sumsF acc ws).length = acc.length * 2 ^ ws.length := by
  induction ws with
  | nil => intro acc; show acc.length = acc.length * 1; omega
  | cons w r ih =>
    intro acc
    show (sumsF (acc ++ acc.map (· + w)) r).length = _
    rw [ih, List.length_append, List.length_map, List.length_cons, Nat.pow_succ, ← Nat.mul_two, Nat.mul_assoc, Nat.mul_comm 2]
theorem grpF_len (ns : List Str) : ∀ acc : List (List Str), (grpF acc ns).length = acc.length * 2 ^ ns.length := by
  induction ns with
  | nil => intro acc; show acc.length = acc.length * 1; omega
  | cons w r ih =>
    intro acc
    show (grpF (acc ++ acc.map (· ++ [w])) r).length = _
    rw [ih, List.length_append, List.length_map, List.length_cons, Nat.pow_succ, ← Nat.mul_two, Nat.mul_assoc, Nat.mul_comm 2]
theorem pow7 {n : Nat} (h : n ≤ 7) : 2 ^ n ≤ 128 := Nat.pow_le_pow_right (by decide) h
/-- the sums of the groups are the sums -/
theorem sums_grp (f : Str → Int) (ns : List Str) : ∀ acc : List (List Str), sumsF (acc.map fun g => (g.map f).sum) (ns.map f) = (grpF acc ns).map fun g => (g.map f).sum := by
  induction ns with
  | nil => intro acc; rfl
  | cons n r ih =>
    intro acc
    show sumsF (acc.map (fun g => (g.map f).sum) ++ (acc.map fun g => (g.map f).sum).map (· + f n)) (r.map f) = (grpF (acc ++ acc.map (· ++ [n])) r).map _
    rw [← ih, List.map_append, List.map_map, List.map_map]
    congr 2
    apply List.map_congr_left
    intro g _
    show (g.map f).sum + f n = ((g ++ [n]).map f).sum
    rw [List.map_append, List.sum_append]
    simp
def Sub : List Int → Int → Prop
  | [], t => t = 0
  | w :: ws, t => Sub ws t ∨ Sub ws (t - w)
theorem mem_sumsF (s : Int) : ∀ (ws acc : List Int), s ∈ sumsF acc ws ↔ ∃ a ∈ acc, Sub ws (s - a)
  | [], acc => by
    show s ∈ acc ↔ ∃ a ∈ acc, s - a = 0
    constructor
    · intro h; exact ⟨s, h, by omega⟩
    · rintro ⟨a, h, e⟩
      have : s = a := by omega
      rw [this]; exact h
  | w :: ws, acc => by
    show s ∈ sumsF (acc ++ acc.map (· + w)) ws ↔ _
    rw [mem_sumsF s ws]
    constructor
    · rintro ⟨a, h, q⟩
      rcases List.mem_append.mp h with h | h
      · exact ⟨a, h, .inl q⟩
      · obtain ⟨b, hb, rfl⟩ := List.mem_map.mp h
        exact ⟨b, hb, .inr (by rw [show s - b - w = s - (b + w) by omega]; exact q)⟩
    · rintro ⟨a, h, q | q⟩
      · exact ⟨a, List.mem_append_left _ h, q⟩
      · exact ⟨a + w, List.mem_append_right _ (List.mem_map.mpr ⟨a, h, rfl⟩), by rw [show s - (a + w) = s - a - w by omega]; exact q⟩
theorem sub_perm {ws ws' : List Int} (h : ws.Perm ws') : ∀ t, Sub ws t ↔ Sub ws' t := by
  induction h with
  | nil => intro t; exact Iff.rfl
  | cons x _ ih => intro t; show (Sub _ t ∨ Sub _ (t - x)) ↔ (Sub _ t ∨ Sub _ (t - x)); rw [ih, ih]
  | swap x y l =>
    intro t
    show ((Sub l t ∨ Sub l (t - x)) ∨ (Sub l (t - y) ∨ Sub l (t - y - x))) ↔ ((Sub l t ∨ Sub l (t - y)) ∨ (Sub l (t - x) ∨ Sub l (t - x - y)))
    rw [show t - y - x = t - x - y by omega]
    constructor
    · rintro ((h | h) | (h | h))
      · exact .inl (.inl h)
      · exact .inr (.inl h)
      · exact .inl (.inr h)
      · exact .inr (.inr h)
    · rintro ((h | h) | (h | h))
      · exact .inl (.inl h)
      · exact .inr (.inl h)
      · exact .inl (.inr h)
      · exact .inr (.inr h)
  | trans _ _ ih1 ih2 => intro t; rw [ih1, ih2]
theorem sums_perm {ws ws' : List Int} (h : ws.Perm ws') (s : Int) : s ∈ sumsF [0] ws ↔ s ∈ sumsF [0] ws' := by
  rw [mem_sumsF, mem_sumsF]
  constructor
  · rintro ⟨a, ha, q⟩; exact ⟨a, ha, (sub_perm h _).mp q⟩
  · rintro ⟨a, ha, q⟩; exact ⟨a, ha, (sub_perm h _).mpr q⟩
theorem perm_sum {ws ws' : List Int} (h : ws.Perm ws') : ws.sum = ws'.sum := by
  induction h with
  | nil => rfl
  | cons x _ ih => rw [List.sum_cons, List.sum_cons, ih]
  | swap x y l => rw [List.sum_cons, List.sum_cons, List.sum_cons, List.sum_cons]; omega
  | trans _ _ a b => rw [a, b]
theorem grp_sub : ∀ (ns : List Str) (acc : List (List Str)) (g : List Str), g ∈ grpF acc ns → ∃ a ∈ acc, ∃ l, l.Sublist ns ∧ g = a ++ l
  | [], acc, g, h => ⟨g, h, [], .slnil, by simp⟩
  | n :: r, acc, g, h => by
    obtain ⟨a, ha, l, hl, e⟩ := grp_sub r (acc ++ acc.map (· ++ [n])) g h
    rcases List.mem_append.mp ha with ha | ha
    · exact ⟨a, ha, l, hl.cons n, e⟩
    · obtain ⟨b, hb, rfl⟩ := List.mem_map.mp ha
      exact ⟨b, hb, n :: l, hl.cons_cons n, by rw [e]; simp⟩
theorem grp_sublist {ns g : List Str} (h : g ∈ grpF [[]] ns) : g.Sublist ns := by
  obtain ⟨a, ha, l, hl, e⟩ := grp_sub ns [[]] g h
  rw [List.mem_singleton.mp ha] at e
  rw [e]; exact hl
/-- what is left of the names -/
def restOf (ns g : List Str) : List Str := ns.filter fun n => !decide (n ∈ g)
theorem sub_filter : ∀ {ns g : List Str}, g.Sublist ns → ns.Nodup → ns.filter (fun n => decide (n ∈ g)) = g
  | _, _, .slnil, _ => rfl
  | _, g, .cons (l₂ := ns) a h, hn => by
    obtain ⟨h1, h2⟩ := List.nodup_cons.mp hn
    have ha : ¬ a ∈ g := fun z => h1 (h.subset z)
    rw [List.filter_cons, if_neg (by simp [ha])]
    exact sub_filter h h2
  | _, _, .cons_cons (l₁ := g) (l₂ := ns) a h, hn => by
    obtain ⟨h1, h2⟩ := List.nodup_cons.mp hn
    rw [List.filter_cons, if_pos (by simp)]
    congr 1
    have e : ns.filter (fun n => decide (n ∈ a :: g)) = ns.filter (fun n => decide (n ∈ g)) := by
      apply List.filter_congr
      intro n hn'
      have : n ≠ a := fun z => h1 (z ▸ hn')
      simp [this]
    rw [e]
    exact sub_filter h h2
theorem sum_split (f : Str → Int) (p : Str → Bool) : ∀ l : List Str, ((l.filter p).map f).sum + ((l.filter fun n => !p n).map f).sum = (l.map f).sum
  | [] => rfl
  | a :: l => by
    have ih := sum_split f p l
    rw [List.filter_cons, List.filter_cons, List.map_cons, List.sum_cons, ← ih]
    by_cases h : p a = true
    · rw [if_pos h, if_neg (by simp [h]), List.map_cons, List.sum_cons]; omega
    · rw [if_neg h, if_pos (by simpa using h), List.map_cons, List.sum_cons]; omega
theorem rest_sum (f : Str → Int) {ns g : List Str} (h : g ∈ grpF [[]] ns) (hn : ns.Nodup) : ((restOf ns g).map f).sum = (ns.map f).sum - (g.map f).sum := by
  have e := sum_split f (fun n => decide (n ∈ g)) ns
  rw [sub_filter (grp_sublist h) hn] at e
  unfold restOf
  omega
/-- two groups that lie apart: by groups, by sums -/
theorem apart_iff (f : Str → Int) {ns : List Str} {ws : List Int} (hn : ns.Nodup) (hp : (ns.map f).Perm ws) (o1 o2 : Int) :
    (∃ s ∈ sumsF [0] ws, o1 ≤ s ∧ o2 ≤ ws.sum - s) ↔ ∃ g ∈ grpF [[]] ns, o1 ≤ (g.map f).sum ∧ o2 ≤ ((restOf ns g).map f).sum := by
  have hs : (ns.map f).sum = ws.sum := perm_sum hp
  have he : sumsF [0] (ns.map f) = (grpF [[]] ns).map fun g => (g.map f).sum := sums_grp f ns [[]]
  constructor
  · rintro ⟨s, h, q1, q2⟩
    have h2 := (sums_perm hp s).mpr h
    rw [he] at h2
    obtain ⟨g, hg, rfl⟩ := List.mem_map.mp h2
    exact ⟨g, hg, q1, by rw [rest_sum f hg hn, hs]; exact q2⟩
  · rintro ⟨g, hg, q1, q2⟩
    refine ⟨(g.map f).sum, (sums_perm hp _).mp ?_, q1, by rw [rest_sum f hg hn, hs] at q2; exact q2⟩
    rw [he]
    exact List.mem_map.mpr ⟨g, hg, rfl⟩
/-- a name's weight -/
def wtOf (ts : List (Str × Int)) (n : Str) : Int := ((ts.find? fun t => decide (t.1 = n)).map (·.2)).getD 0
def kvW (ts : List (Str × Int)) : List (Key × V) := ts.map fun t => (Sum.inr t.1, V.int t.2)
theorem wt_val : ∀ {ts : List (Str × Int)} {n : Str}, n ∈ ts.map (·.1) → valV (kvW ts) (Sum.inr n : Key) = some (.int (wtOf ts n))
  | [], n, h => nomatch h
  | t :: ts, n, h => by
    by_cases e : t.1 = n
    · have e' : (Sum.inr t.1 : Key) = Sum.inr n := congrArg Sum.inr e
      unfold kvW wtOf
      rw [List.map_cons, List.find?_cons]
      simp only [e, decide_true]
      exact valV_pos (p := ((Sum.inr n : Key), V.int t.2)) rfl
    · have e' : ¬ (Sum.inr t.1 : Key) = Sum.inr n := fun z => e (Sum.inr.inj z)
      have ih := wt_val (ts := ts) (n := n) (by
        rcases List.mem_cons.mp h with h | h
        · exact absurd h.symm e
        · exact h)
      unfold kvW wtOf at ih ⊢
      rw [List.map_cons, List.find?_cons]
      simp only [e, decide_false]
      rw [← ih]
      exact valV_neg (p := ((Sum.inr t.1 : Key), V.int t.2)) e'
theorem kvs_names (ts : List (Str × Int)) : (kvW ts).map (·.1) = (ts.map (·.1)).map Sum.inr := by
  unfold kvW; rw [List.map_map, List.map_map]; rfl
theorem wt_map : ∀ {ts : List (Str × Int)}, (ts.map (·.1)).Nodup → (ts.map (·.1)).map (wtOf ts) = ts.map (·.2)
  | [], _ => rfl
  | t :: ts, h => by
    obtain ⟨h1, h2⟩ := List.nodup_cons.mp h
    have ih := wt_map h2
    rw [List.map_cons, List.map_cons, List.map_cons]
    congr 1
    · unfold wtOf; rw [List.find?_cons]; simp
    · rw [← ih]
      apply List.map_congr_left
      intro n hn
      have : ¬ t.1 = n := fun z => h1 (by show t.1 ∈ _; rw [z]; exact hn)
      unfold wtOf
      rw [List.find?_cons]
      simp [this]
end Zk

set_option Elab.async false
set_option linter.all false
set_option maxRecDepth 100000
set_option maxHeartbeats 8000000
namespace Law
open PySem PySem.Spec L2 Zk
open PyProof.Rows hiding St
local macro_rules | `(tactic| walk_at "ne") => `(tactic| first
  | assumption
  | exact Ne.symm (by assumption)
  | (refine ne_of_none (H := ?zg) (o := ?zo) ?zh ?zn; (case zn => assumption); (case zh => walk_at "hold"))
  | (refine Ne.symm (ne_of_none (H := ?zg) (o := ?zo) ?zh ?zn); (case zn => assumption); (case zh => walk_at "hold")))
local macro_rules | `(tactic| walk_at "nm") => `(tactic| first
  | exact List.not_mem_nil
  | (refine nm1 ?_; walk_at "ne")
  | (refine nm2 ?_ ?_ <;> walk_at "ne")
  | assumption)
local macro_rules | `(tactic| walk_at "hold") => `(tactic| first
  | assumption
  | (refine Ext.get (M := ?em) (H := ?eg) ?ek ?eh ?en; (case ek => assumption); (case eh => walk_at "hold"); (case en => first | exact Or.inr trivial | (refine Or.inl ?_; walk_at "nm")))
  | (refine sql ?_; walk_at "hold")
  | (refine sqt ?_; walk_at "hold")
  | (refine Scr.ext (M := ?em) (H := ?eg) ?ek ?eh; (case ek => assumption); (case eh => walk_at "hold"))
  | (refine Scr.sql ?_; walk_at "hold"))
local macro_rules | `(tactic| walk_at "go1") => `(tactic| first
  | (with_reducible refine w_seq ?_)
  | (with_reducible refine w_asg ?_)
  | (with_reducible refine w_gname ?_)
  | (with_reducible refine w_op ?_)
  | ((with_reducible refine w_var (v := ?zw) ?zv ?_); (case zv => exact rfl))
  | (with_reducible refine w_c ?_)
  | (with_reducible refine w_I0 ?_)
  | (with_reducible refine w_test ?_)
  | (with_reducible refine w_bl ?_)
  | (with_reducible refine w_eqI ?_)
  | (with_reducible refine w_neI ?_)
  | (with_reducible refine w_cb ?_)
  | (with_reducible refine w_cons ?_)
  | (with_reducible refine w_nil ?_)
  | (with_reducible refine w_int ?_)
  | (with_reducible refine w_call ?_)
  | (with_reducible refine w_ret ?_)
  | ((with_reducible refine w_I ?zc ?_); (case zc => first | exact Or.inr ⟨by decide, by decide⟩ | exact Or.inl ⟨by decide, by decide⟩ | (show (0 : Int) < _; first | decide | omega) | exact ⟨by decide, by decide⟩ | (show CPow _ _; exact ⟨by decide, by decide, by decide⟩) | (refine wide_mul (a := 200) (b := 200) ?_ ?_ (by decide) (by decide) (by decide) <;> omega)))
  | ((with_reducible refine w_ixL (xs := ?zx) (v := ?zw) ?zh ?ze ?_); (case zh => walk_at "hold"); (case ze => first | exact rfl | assumption))
  | ((with_reducible refine w_ixT (xs := ?zx) (v := ?zw) ?zh ?ze ?_); (case zh => walk_at "hold"); (case ze => first | exact rfl | assumption))
  | ((with_reducible refine w_lenL (xs := ?zx) ?zh ?_); (case zh => walk_at "hold"))
  | ((with_reducible refine w_lenT (xs := ?zx) ?zh ?_); (case zh => walk_at "hold"))
  | ((with_reducible refine w_lenD (kvs := ?zx) ?zh ?_); (case zh => walk_at "hold"))
  | (with_reducible refine w_gsub ?_)
  | ((with_reducible refine w_setL (xs := ?zx) (j := ?zj) ?zh ?ze ?_); (case zh => walk_at "hold"); (case ze => first | exact rfl | assumption))
  | (with_reducible refine w_and ?_)
  | (with_reducible refine w_or ?_)
  | (with_reducible refine w_not ?_)
  | (with_reducible refine w_tB ?_)
  | (with_reducible refine w_andV ?_)
  | (with_reducible refine w_orV ?_)
  | (with_reducible refine w_notV ?_)
  | (with_reducible refine w_next ?_)
  | (with_reducible refine w_drop ?_)
  | (with_reducible refine w_retN ?_)
  | (with_reducible refine w_tup ?_)
  | (with_reducible refine w_lst ?_)
  | (with_reducible refine w_un ?_)
  | (with_reducible refine w_rU ?_)
  | (with_reducible refine w_eqS ?_)
  | (with_reducible refine w_neS ?_)
  | (with_reducible refine w_isN ?_)
  | (with_reducible refine w_isNt ?_)
  | (with_reducible refine w_isB ?_)
  | (with_reducible refine w_ltS ?_)
  | (with_reducible refine w_dnewK ?_)
  | (with_reducible refine w_dnewT ?_)
  | (with_reducible refine w_break ?_)
  | (with_reducible refine w_cont ?_)
  | (with_reducible refine w_dget ?_)
  | (with_reducible refine w_din ?_)
  | (with_reducible refine w_dnotin ?_)
  | (with_reducible refine w_yes ?_)
  | (with_reducible refine w_m1 ?_)
  | (with_reducible refine w_gcons ?_)
  | (with_reducible refine w_gnil ?_)
  | (with_reducible refine w_sdput ?_)
  | ((with_reducible refine w_gtup (xs := ?zx) ?zh ?zl ?_); (case zh => walk_at "hold"); (case zl => exact rfl))
  | (with_reducible refine w_bm ?_)
  | (with_reducible refine w_bm0 ?_)
  | ((with_reducible refine w_tyL (xs := ?zx) ?zh ?_); (case zh => walk_at "hold"))
  | (with_reducible refine w_lc ?_)
  | (with_reducible refine w_for ?_)
  | (with_reducible refine w_str ?_)
  | (with_reducible refine w_iList ?_)
  | (with_reducible refine w_iTup ?_)
  | (with_reducible refine w_iRng1 ?_)
  | (with_reducible refine w_iRng2 ?_)
  | (with_reducible refine w_iStr ?_)
  | (with_reducible refine iteT ?_)
  | (with_reducible refine iteF ?_)
  | (with_reducible refine iteNF ?_)
  | (with_reducible refine iteNT ?_))
local macro_rules | `(tactic| walk_at "go") => `(tactic| repeat walk_at "go1")
local macro_rules | `(tactic| walk_at "goa") => `(tactic| repeat (first
  | ((with_reducible refine w_modA ?zc ?_); (case zc => first | decide | omega); (intro r r0 r1))
  | walk_at "go1"))
local macro_rules | `(tactic| walk_at "if") => `(tactic| ((with_reducible refine w_ifS ?_); walk_at "go"))
local macro_rules | `(tactic| walk_at "ife") => `(tactic| ((with_reducible refine w_if ?_); walk_at "go"))
def topS (i : Nat) : Stmt := PySem.Challenge.pw_storelife_k29_thresholds.main.body.getD i (.Pass ⟨0, 0, 0, 0⟩)
abbrev s_all_groups : Stmt := topS 1
theorem sc_all_groups : FnScope ["names", "groups", "name", "group"] ["names"] (defScope s_all_groups) := ⟨rfl, rfl, rfl, by decide +kernel, rfl, by decide +kernel, by decide +kernel⟩
abbrev s_weight_of_group : Stmt := topS 2
theorem sc_weight_of_group : FnScope ["weights", "group", "name"] ["weights", "group"] (defScope s_weight_of_group) := ⟨rfl, rfl, rfl, by decide +kernel, rfl, by decide +kernel, by decide +kernel⟩
abbrev s_unsafe_groups : Stmt := topS 3
theorem sc_unsafe_groups : FnScope ["weights", "ack", "vote", "names", "groups", "word", "least", "group", "rest", "name"] ["weights", "ack", "vote"] (defScope s_unsafe_groups) := ⟨rfl, rfl, rfl, by decide +kernel, rfl, by decide +kernel, by decide +kernel⟩
abbrev s_law_mixed : Stmt := topS 5
theorem sc_law_mixed : FnScope ["number", "place", "first", "second", "third"] ["number", "place"] (defScope s_law_mixed) := ⟨rfl, rfl, rfl, by decide +kernel, rfl, by decide +kernel, by decide +kernel⟩
abbrev s_law_rest : Stmt := topS 6
theorem sc_law_rest : FnScope ["script", "place", "fills", "number"] ["script", "place", "fills"] (defScope s_law_rest) := ⟨rfl, rfl, rfl, by decide +kernel, rfl, by decide +kernel, by decide +kernel⟩
abbrev s_law_pool : Stmt := topS 7
theorem sc_law_pool : FnScope ["script"] ["script"] (defScope s_law_pool) := ⟨rfl, rfl, rfl, by decide +kernel, rfl, by decide +kernel, by decide +kernel⟩
abbrev s_law_draw : Stmt := topS 8
theorem sc_law_draw : FnScope ["pool", "limit", "value"] ["pool", "limit"] (defScope s_law_draw) := ⟨rfl, rfl, rfl, by decide +kernel, rfl, by decide +kernel, by decide +kernel⟩
abbrev s_law_same : Stmt := topS 9
theorem sc_law_same : FnScope ["answer", "due", "key", "k"] ["answer", "due"] (defScope s_law_same) := ⟨rfl, rfl, rfl, by decide +kernel, rfl, by decide +kernel, by decide +kernel⟩
abbrev s_law_name : Stmt := topS 10
theorem sc_law_name : FnScope ["pool", "way", "letters", "size", "place"] ["pool"] (defScope s_law_name) := ⟨rfl, rfl, rfl, by decide +kernel, rfl, by decide +kernel, by decide +kernel⟩
abbrev s_law_fresh : Stmt := topS 11
theorem sc_law_fresh : FnScope ["pool", "taken", "name", "letter"] ["pool", "taken"] (defScope s_law_fresh) := ⟨rfl, rfl, rfl, by decide +kernel, rfl, by decide +kernel, by decide +kernel⟩
abbrev s_law_sums : Stmt := topS 12
theorem sc_law_sums : FnScope ["weights", "sums", "weight", "one"] ["weights"] (defScope s_law_sums) := ⟨rfl, rfl, rfl, by decide +kernel, rfl, by decide +kernel, by decide +kernel⟩
abbrev s_law_apart : Stmt := topS 13
theorem sc_law_apart : FnScope ["weights", "one", "other", "whole", "part"] ["weights", "one", "other"] (defScope s_law_apart) := ⟨rfl, rfl, rfl, by decide +kernel, rfl, by decide +kernel, by decide +kernel⟩
abbrev s_law_nodes : Stmt := topS 14
theorem sc_law_nodes : FnScope ["pool", "most", "wide", "count", "names", "nodes", "k", "weight"] ["pool", "most"] (defScope s_law_nodes) := ⟨rfl, rfl, rfl, by decide +kernel, rfl, by decide +kernel, by decide +kernel⟩
abbrev s_law_weight : Stmt := topS 15
theorem sc_law_weight : FnScope ["weights", "group", "name"] ["weights", "group"] (defScope s_law_weight) := ⟨rfl, rfl, rfl, by decide +kernel, rfl, by decide +kernel, by decide +kernel⟩
abbrev s_law_group : Stmt := topS 16
theorem sc_law_group : FnScope ["weights", "group", "k"] ["weights", "group"] (defScope s_law_group) := ⟨rfl, rfl, rfl, by decide +kernel, rfl, by decide +kernel, by decide +kernel⟩
abbrev s_law : Stmt := topS 17
theorem sc_law : FnScope ["script", "pool", "weights", "name", "weight", "software", "parts", "ack", "vote", "lost", "passed", "told", "word", "one", "other"] ["script"] (defScope s_law) := ⟨rfl, rfl, rfl, by decide +kernel, rfl, by decide +kernel, by decide +kernel⟩
structure Txt (K : PySem.W.Frag) (mg : Str → Option Value) where
  f_all_groups : Addr
  d_all_groups : FuncData
  F_all_groups : L2.Fun K "all_groups" "all_groups" s_all_groups f_all_groups d_all_groups
  g_all_groups : mg "all_groups" = some (.ref f_all_groups)
  k_all_groups : Binds K d_all_groups ["names"] []
  f_weight_of_group : Addr
  d_weight_of_group : FuncData
  F_weight_of_group : L2.Fun K "weight_of_group" "weight_of_group" s_weight_of_group f_weight_of_group d_weight_of_group
  g_weight_of_group : mg "weight_of_group" = some (.ref f_weight_of_group)
  k_weight_of_group : Binds K d_weight_of_group ["weights", "group"] []
  f_unsafe_groups : Addr
  d_unsafe_groups : FuncData
  F_unsafe_groups : L2.Fun K "unsafe_groups" "unsafe_groups" s_unsafe_groups f_unsafe_groups d_unsafe_groups
  g_unsafe_groups : mg "unsafe_groups" = some (.ref f_unsafe_groups)
  k_unsafe_groups : Binds K d_unsafe_groups ["weights", "ack", "vote"] []
  f__law_mixed : Addr
  d__law_mixed : FuncData
  F__law_mixed : L2.Fun K "_law_mixed" "_law_mixed" s_law_mixed f__law_mixed d__law_mixed
  g__law_mixed : mg "_law_mixed" = some (.ref f__law_mixed)
  k__law_mixed : Binds K d__law_mixed ["number", "place"] []
  f__law_rest : Addr
  d__law_rest : FuncData
  F__law_rest : L2.Fun K "_law_rest" "_law_rest" s_law_rest f__law_rest d__law_rest
  g__law_rest : mg "_law_rest" = some (.ref f__law_rest)
  k__law_rest : Binds K d__law_rest ["script", "place", "fills"] []
  f__law_pool : Addr
  d__law_pool : FuncData
  F__law_pool : L2.Fun K "_law_pool" "_law_pool" s_law_pool f__law_pool d__law_pool
  g__law_pool : mg "_law_pool" = some (.ref f__law_pool)
  k__law_pool : Binds K d__law_pool ["script"] []
  f__law_draw : Addr
  d__law_draw : FuncData
  F__law_draw : L2.Fun K "_law_draw" "_law_draw" s_law_draw f__law_draw d__law_draw
  g__law_draw : mg "_law_draw" = some (.ref f__law_draw)
  k__law_draw : Binds K d__law_draw ["pool", "limit"] []
  f__law_same : Addr
  d__law_same : FuncData
  F__law_same : L2.Fun K "_law_same" "_law_same" s_law_same f__law_same d__law_same
  g__law_same : mg "_law_same" = some (.ref f__law_same)
  k__law_same : Binds K d__law_same ["answer", "due"] []
  f__law_name : Addr
  d__law_name : FuncData
  F__law_name : L2.Fun K "_law_name" "_law_name" s_law_name f__law_name d__law_name
  g__law_name : mg "_law_name" = some (.ref f__law_name)
  k__law_name : Binds K d__law_name ["pool"] []
  f__law_fresh : Addr
  d__law_fresh : FuncData
  F__law_fresh : L2.Fun K "_law_fresh" "_law_fresh" s_law_fresh f__law_fresh d__law_fresh
  g__law_fresh : mg "_law_fresh" = some (.ref f__law_fresh)
  k__law_fresh : Binds K d__law_fresh ["pool", "taken"] []
  f__law_sums : Addr
  d__law_sums : FuncData
  F__law_sums : L2.Fun K "_law_sums" "_law_sums" s_law_sums f__law_sums d__law_sums
  g__law_sums : mg "_law_sums" = some (.ref f__law_sums)
  k__law_sums : Binds K d__law_sums ["weights"] []
  f__law_apart : Addr
  d__law_apart : FuncData
  F__law_apart : L2.Fun K "_law_apart" "_law_apart" s_law_apart f__law_apart d__law_apart
  g__law_apart : mg "_law_apart" = some (.ref f__law_apart)
  k__law_apart : Binds K d__law_apart ["weights", "one", "other"] []
  f__law_nodes : Addr
  d__law_nodes : FuncData
  F__law_nodes : L2.Fun K "_law_nodes" "_law_nodes" s_law_nodes f__law_nodes d__law_nodes
  g__law_nodes : mg "_law_nodes" = some (.ref f__law_nodes)
  k__law_nodes : Binds K d__law_nodes ["pool", "most"] []
  f__law_weight : Addr
  d__law_weight : FuncData
  F__law_weight : L2.Fun K "_law_weight" "_law_weight" s_law_weight f__law_weight d__law_weight
  g__law_weight : mg "_law_weight" = some (.ref f__law_weight)
  k__law_weight : Binds K d__law_weight ["weights", "group"] []
  f__law_group : Addr
  d__law_group : FuncData
  F__law_group : L2.Fun K "_law_group" "_law_group" s_law_group f__law_group d__law_group
  g__law_group : mg "_law_group" = some (.ref f__law_group)
  k__law_group : Binds K d__law_group ["weights", "group"] []
  f_law : Addr
  d_law : FuncData
  F_law : L2.Fun K "law" "law" s_law f_law d_law
  g_law : mg "law" = some (.ref f_law)
  k_law : Binds K d_law ["script"] []
  b_bool : mg "bool" = none
  b_dict : mg "dict" = none
  b_int : mg "int" = none
  b_isinstance : mg "isinstance" = none
  b_len : mg "len" = none
  b_list : mg "list" = none
  b_range : mg "range" = none
  b_sorted : mg "sorted" = none
  b_str : mg "str" = none
  b_sum : mg "sum" = none
  b_tuple : mg "tuple" = none
section
variable {P : Program} {w : World} {K : PySem.W.Frag} {mg : Str → Option Value} {base : Heap}

/-! ### the drawn numbers -/
def sp_law_mixed (K : PySem.W.Frag) : Sp := sp2 fun a b H Q => ∃ n p, a = .int n ∧ b = .int p ∧ ∀ v : Int, 0 ≤ v → Q (.int v) H
theorem ok_law_mixed (T : Txt K mg) : FnOk P w K mg base CX0 1 T.f__law_mixed T.d__law_mixed ["number", "place"] (sp_law_mixed K) := by
  refine T.F__law_mixed.ok sc_law_mixed len2 (fun cdv A outer s H vs Q E hr h => ?_)
  have nd := sc_law_mixed.nd
  have hu := hu_of hr
  obtain ⟨_, _, rfl, n, p, rfl, rfl, k⟩ := h
  refine ⟨_,
      (pss_cons (ps_set (i := 2) nd rfl (Or.inl rfl) (pe_op op_mod (pe_callTy zc_int (by rfl) T.b_int (by decide +kernel) (pa_cons (pe_op op_add (pe_op op_add (pe_op op_mul (pv 0) pe_int) (pe_op op_mul (pv 1) pe_int)) pe_int) pa_nil)) pe_int)) 
      (pss_cons (ps_set (i := 3) nd rfl (Or.inl rfl) (pe_op op_mod (pe_callTy zc_int (by rfl) T.b_int (by decide +kernel) (pa_cons (pe_op op_add (pe_op op_add (pe_op op_mulW (pv 2) (pv 2)) (pe_op op_mul pe_int (pv 2))) (pv 1)) pa_nil)) pe_int)) 
      (pss_cons (ps_set (i := 4) nd rfl (Or.inl rfl) (pe_op op_mod (pe_callTy zc_int (by rfl) T.b_int (by decide +kernel) (pa_cons (pe_op op_add (pe_op op_mulW (pv 3) (pv 3)) (pv 2)) pa_nil)) pe_int)) 
      (pss_one (ps_ret (pe_op op_add (pe_op op_mulW (pv 3) pe_int) (pv 4))))))), ?_⟩
  change (_ : TS) _ [some _, some _, none, none, none] _
  try dsimp only [cxOf, Cx.nox, Cx.wish]
  walk_at "goa"
  refine k _ ?_
  omega
def sp_law_rest (K : PySem.W.Frag) : Sp := sp3 fun a b c H Q => ∃ (sc : Addr) (ns : List Int) (p f : Int), a = .ref sc ∧ b = .int p ∧ c = .int f ∧ Scr K H sc (ns.map V.int) ∧ ∀ v : Int, 0 ≤ v → Q (.int v) H
theorem ok_law_rest (T : Txt K mg) : FnOk P w K mg base CX0 2 T.f__law_rest T.d__law_rest ["script", "place", "fills"] (sp_law_rest K) := by
  refine T.F__law_rest.ok sc_law_rest len3 (fun cdv A outer s H vs Q E hr h => ?_)
  have nd := sc_law_rest.nd
  have hu := hu_of hr
  obtain ⟨_, _, _, rfl, sc, ns, p, f, rfl, rfl, rfl, hS, k⟩ := h
  refine ⟨_,
      (pss_cons (ps_set (i := 3) nd rfl (Or.inl rfl) pe_int) 
      (pss_cons (ps_if (pt_cmpR op_gt (pe_callB zc_len (by rfl) T.b_len (by decide +kernel) (pa_cons (pv 0) pa_nil)) pe_int (nomark _)) 
        (pss_one (ps_set (i := 3) nd rfl (Or.inl rfl) (pe_callTy zc_int (by rfl) T.b_int (by decide +kernel) (pa_cons (pe_ix ix_list (pv 0) (pe_op op_mod (pe_callTy zc_int (by rfl) T.b_int (by decide +kernel) (pa_cons (pv 1) pa_nil)) (pe_callB zc_len (by rfl) T.b_len (by decide +kernel) (pa_cons (pv 0) pa_nil))) (fun _ _ => rfl)) pa_nil)))) pss_nil) 
      (pss_cons (ps_if (pt_cmpR op_lt (pv 3) pe_int (nomark _)) 
        (pss_one (ps_set (i := 3) nd rfl (Or.inl rfl) (pe_op op_sub pe_int (pe_op op_mul pe_int (pv 3))))) pss_nil) 
      (pss_cons (ps_if (PW.pt (pw_and (pt_cmpR op_eq (pv 2) pe_int (nomark _)) (pw_and (pt_cmpR op_lt (pv 1) (pe_callB zc_len (by rfl) T.b_len (by decide +kernel) (pa_cons (pv 0) pa_nil)) (nomark _)) (pw_and1 (pt_cmpR op_ge (pv 3) (pe_op op_pow pe_int pe_int) (nomark _)))))) 
        (pss_one (ps_ret (pe_op op_sub (pv 3) (pe_op op_pow pe_int pe_int)))) pss_nil) 
      (pss_one (ps_ret (pe_call (ok_law_mixed T) (hr.mono (by decide)) (by rfl) T.g__law_mixed T.F__law_mixed.kp T.k__law_mixed .nil pass0 (pa_cons (pe_op op_add (pv 3) (pe_op op_mul (pv 2) pe_int)) (pa_cons (pv 1) pa_nil))))))))), ?_⟩
  change (_ : TS) _ [some _, some _, some _, none] _
  try dsimp only [cxOf, Cx.nox, Cx.wish]
  have hS2 := hS.sql
  walk_at "go"
  refine w_cut (fun σ' H' => H = H' ∧ ∃ n : Int, σ' = [some (V.ref sc), some (V.int p), some (V.int f), some (V.int n)]) ?_ fun nx hn => ?_
  · rintro _ _ ⟨rfl, n, rfl⟩
    walk_at "go"
    refine w_cut (fun σ' H' => H = H' ∧ ∃ n : Int, 0 ≤ n ∧ σ' = [some (V.ref sc), some (V.int p), some (V.int f), some (V.int n)]) ?_ fun nx hn => ?_
    · rintro _ _ ⟨rfl, n, n0, rfl⟩
      walk_at "go"
      refine w_cut (fun σ' H' => H = H' ∧ σ' = [some (V.ref sc), some (V.int p), some (V.int f), some (V.int n)]) ?_ fun nx hn => ?_
      · rintro _ _ ⟨rfl, rfl⟩
        walk_at "go"
        exact w_sp2 ⟨_, _, rfl, rfl, k⟩
      · walk_at "if"
        refine w_d (fun h => ?_) fun h => ?_ <;> walk_at "go"
        · refine w_d (fun h => ?_) fun h => ?_ <;> walk_at "go"
          · refine w_d (fun h => ?_) fun h => ?_ <;> walk_at "go"
            · exact k _ (by omega)
            · exact hn _ _ ⟨rfl, rfl⟩
          · exact hn _ _ ⟨rfl, rfl⟩
        · exact hn _ _ ⟨rfl, rfl⟩
    · walk_at "if"
      refine w_d (fun h => ?_) fun h => ?_ <;> walk_at "go"
      · exact hn _ _ ⟨rfl, _, by omega, rfl⟩
      · exact hn _ _ ⟨rfl, _, by omega, rfl⟩
  · walk_at "if"
    refine w_d (fun h => ?_) fun h => ?_
    · walk_at "goa"
      rename_i r r0 r1
      rw [List.length_map] at r1
      obtain ⟨z, _, hz⟩ := at_map (f := V.int) r0 r1
      refine w_ixL hS2 hz ?_
      walk_at "go"
      exact hn _ _ ⟨rfl, _, rfl⟩
    · walk_at "go"
      exact hn _ _ ⟨rfl, _, rfl⟩
/-- the pool: the script, a place, what is left of the number, how often it was filled -/
def PoolAt (K : PySem.W.Frag) (H : Hp) (p : Addr) : Prop := ∃ (sc : Addr) (ns : List Int) (pl re fi : Int), H p = some (.lst [.ref sc, .int pl, .int re, .int fi]) ∧ Scr K H sc (ns.map V.int) ∧ 0 ≤ re
theorem PoolAt.ext {M : List Addr} {H H' : Hp} {p : Addr} (e : Ext M H H') (h : PoolAt K H p) (n : p ∉ M) : PoolAt K H' p := by
  obtain ⟨sc, ns, pl, re, fi, h1, h2, h3⟩ := h
  exact ⟨sc, ns, pl, re, fi, e.keep _ _ h1 n, h2.ext e, h3⟩
theorem PoolAt.ne {H : Hp} {p q : Addr} (h : PoolAt K H p) (n : H q = none) : p ≠ q := by
  obtain ⟨sc, ns, pl, re, fi, h1, h2, h3⟩ := h
  exact ne_of_none h1 n
def sp_law_pool (K : PySem.W.Frag) : Sp := sp1 fun a H Q => ∃ (sc : Addr) (ns : List Int), a = .ref sc ∧ Scr K H sc (ns.map V.int) ∧ ∀ p H', Ext [] H H' → H p = none → PoolAt K H' p → Q (.ref p) H'
theorem ok_law_pool (T : Txt K mg) : FnOk P w K mg base CX0 3 T.f__law_pool T.d__law_pool ["script"] (sp_law_pool K) := by
  refine T.F__law_pool.ok sc_law_pool len1 (fun cdv A outer s H vs Q E hr h => ?_)
  have nd := sc_law_pool.nd
  have hu := hu_of hr
  obtain ⟨_, rfl, sc, ns, rfl, hS, k⟩ := h
  refine ⟨_,
      (pss_one (ps_ret (pe_lstZ (pa_cons (pv 0) (pa_cons pe_int (pa_cons (pe_call (ok_law_rest T) (hr.mono (by decide)) (by rfl) T.g__law_rest T.F__law_rest.kp T.k__law_rest .nil pass0 (pa_cons (pv 0) (pa_cons pe_int (pa_cons pe_int pa_nil)))) (pa_cons pe_int pa_nil))))))), ?_⟩
  change (_ : TS) _ [some _] _
  try dsimp only [cxOf, Cx.nox, Cx.wish]
  walk_at "go"
  refine w_sp3 ⟨_, _, _, _, rfl, rfl, rfl, hS, fun v v0 => ?_⟩
  walk_at "go"
  refine ⟨sz (by show 4 ≤ _; decide), w_alc fun p H1 e1 n1 h1 => ?_⟩
  exact k p H1 e1 n1 ⟨sc, ns, _, _, _, h1, hS.ext e1, v0⟩
def sp_law_draw (K : PySem.W.Frag) : Sp := sp2 fun a b H Q => ∃ (p : Addr) (l : Int), a = .ref p ∧ b = .int l ∧ PoolAt K H p ∧ 0 < l ∧ l < 2 ^ 200 ∧ ∀ v H', 0 ≤ v → v < l → Ext [p] H H' → PoolAt K H' p → Q (.int v) H'
theorem ok_law_draw (T : Txt K mg) : FnOk P w K mg base CX0 3 T.f__law_draw T.d__law_draw ["pool", "limit"] (sp_law_draw K) := by
  refine T.F__law_draw.ok sc_law_draw len2 (fun cdv A outer s H vs Q E hr h => ?_)
  have nd := sc_law_draw.nd
  have hu := hu_of hr
  obtain ⟨_, _, rfl, p, l, rfl, rfl, hP, l0, l1, k⟩ := h
  refine ⟨_,
      (pss_cons (ps_if (pt_cmpR op_le (pe_ix ix_list (pv 0) pe_int (fun _ _ => rfl)) pe_int (nomark _)) 
        (pss_cons (ps_asg (pe_op op_add (pe_ix ix_list (pv 0) pe_int (fun _ _ => rfl)) pe_int) (pg_sub (pv 0) pe_int zset_list)) 
        (pss_one (ps_asg (pe_call (ok_law_rest T) (hr.mono (by decide)) (by rfl) T.g__law_rest T.F__law_rest.kp T.k__law_rest .nil pass0 (pa_cons (pe_ix ix_list (pv 0) pe_int (fun _ _ => rfl)) (pa_cons (pe_ix ix_list (pv 0) pe_int (fun _ _ => rfl)) (pa_cons (pe_ix ix_list (pv 0) pe_int (fun _ _ => rfl)) pa_nil)))) (pg_sub (pv 0) pe_int zset_list)))) pss_nil) 
      (pss_cons (ps_set (i := 2) nd rfl (Or.inl rfl) (pe_op op_mod (pe_callTy zc_int (by rfl) T.b_int (by decide +kernel) (pa_cons (pe_ix ix_list (pv 0) pe_int (fun _ _ => rfl)) pa_nil)) (pv 1))) 
      (pss_cons (ps_asg (pe_op op_fdivW (pe_callTy zc_int (by rfl) T.b_int (by decide +kernel) (pa_cons (pe_ix ix_list (pv 0) pe_int (fun _ _ => rfl)) pa_nil)) (pv 1)) (pg_sub (pv 0) pe_int zset_list)) 
      (pss_one (ps_ret (pv 2)))))), ?_⟩
  change (_ : TS) _ [some _, some _, none] _
  try dsimp only [cxOf, Cx.nox, Cx.wish]
  walk_at "go"
  refine w_cut (fun σ' H' => Ext [p] H H' ∧ PoolAt K H' p ∧ σ' = [some (V.ref p), some (V.int l), none]) ?_ fun nx hn => ?_
  · rintro _ H1 ⟨e1, ⟨sc, ns, pl, re, fi, h1, h2, h3⟩, rfl⟩
    walk_at "goa"
    rename_i r r0 r1
    refine w_I (wide_div (b := 200) l0 (by omega) (by decide) (by decide)) ?_
    walk_at "go"
    refine w_chg h1 (fun z => z) fun H2 e2 h4 => ?_
    walk_at "go"
    exact k r H2 r0 r1 (e1.trans e2) ⟨sc, ns, _, _, _, h4, h2.ext e2, Int.ediv_nonneg h3 (by omega)⟩
  · obtain ⟨sc, ns, pl, re, fi, h1, h2, h3⟩ := id hP
    walk_at "if"
    refine w_d (fun h => ?_) fun h => ?_ <;> walk_at "go"
    · refine w_chg h1 (fun z => z) fun H2 e2 h4 => ?_
      change H2 p = some (.lst [.ref sc, .int pl, .int re, .int (fi + 1)]) at h4
      walk_at "go"
      refine w_sp3 ⟨_, _, _, _, rfl, rfl, rfl, h2.ext e2, fun v v0 => ?_⟩
      walk_at "go"
      refine w_chg h4 (fun z => z) fun H3 e3 h5 => ?_
      exact hn _ _ ⟨e2.trans e3, ⟨sc, ns, _, _, _, h5, (h2.ext e2).ext e3, v0⟩, rfl⟩
    · exact hn _ _ ⟨Ext.refl, hP, rfl⟩
theorem w_draw {H : Hp} {p : Addr} {l : Int} {Q : VK} {E : XK} (hP : PoolAt K H p) (l0 : 0 < l) (l1 : l < 2 ^ 200) (k : ∀ v H', 0 ≤ v → v < l → Ext [p] H H' → PoolAt K H' p → Q (.int v) H') :
    sp_law_draw K ([.ref p, .int l] ++ []) H Q E := ⟨_, _, rfl, p, l, rfl, rfl, hP, l0, l1, k⟩

/-! ### names -/
def sp_law_name (K : PySem.W.Frag) : Sp := sp1 fun a H Q => ∃ (p : Addr), a = .ref p ∧ PoolAt K H p ∧ ∀ (z : Str) H', z.length ≤ 12 → Ext [p] H H' → PoolAt K H' p → Q (.str z) H'
theorem ok_law_name (T : Txt K mg) : FnOk P w K mg base CX0 4 T.f__law_name T.d__law_name ["pool"] (sp_law_name K) := by
  refine T.F__law_name.ok sc_law_name len1 (fun cdv A outer s H vs Q E hr h => ?_)
  have nd := sc_law_name.nd
  have hu := hu_of hr
  obtain ⟨_, rfl, p, rfl, hP, k⟩ := h
  refine ⟨_,
      (pss_cons (ps_set (i := 1) nd rfl (Or.inl rfl) (pe_call (ok_law_draw T) (hr.mono (by decide)) (by rfl) T.g__law_draw T.F__law_draw.kp T.k__law_draw .nil pass0 (pa_cons (pv 0) (pa_cons pe_int pa_nil)))) 
      (pss_cons (ps_if (pt_cmpR op_lt (pv 1) pe_int (nomark _)) 
        (pss_one (ps_ret (pe_ix ix_str pe_str (pv 1) (fun _ _ => rfl)))) pss_nil) 
      (pss_cons (ps_set (i := 2) nd rfl (Or.inr rfl) pe_str) 
      (pss_cons (ps_set (i := 3) nd rfl (Or.inl rfl) (pe_op op_add pe_int (pe_call (ok_law_draw T) (hr.mono (by decide)) (by rfl) T.g__law_draw T.F__law_draw.kp T.k__law_draw .nil pass0 (pa_cons (pv 0) (pa_cons pe_int pa_nil))))) 
      (pss_cons (ps_if (pt_cmpR op_eq (pv 1) pe_int (nomark _)) 
        (pss_cons (ps_set (i := 4) nd rfl (Or.inl rfl) (pe_call (ok_law_draw T) (hr.mono (by decide)) (by rfl) T.g__law_draw T.F__law_draw.kp T.k__law_draw .nil pass0 (pa_cons (pv 0) (pa_cons (pv 3) pa_nil)))) 
        (pss_one (ps_ret (pe_op zop_addS (pe_op zop_addS (pe_op zop_mulS pe_str (pv 4)) (pe_ix ix_str pe_str (pe_call (ok_law_draw T) (hr.mono (by decide)) (by rfl) T.g__law_draw T.F__law_draw.kp T.k__law_draw .nil pass0 (pa_cons (pv 0) (pa_cons pe_int pa_nil))) (fun _ _ => rfl))) (pe_op zop_mulS pe_str (pe_op op_sub (pe_op op_sub (pv 3) pe_int) (pv 4))))))) pss_nil) 
      (pss_one (ps_ret (pe_op zop_addS (pe_ix ix_str (pv 2) (pe_call (ok_law_draw T) (hr.mono (by decide)) (by rfl) T.g__law_draw T.F__law_draw.kp T.k__law_draw .nil pass0 (pa_cons (pv 0) (pa_cons pe_int pa_nil))) (fun _ _ => rfl)) (zpe_join pe_str (pe_lc (own := [("place", 4)]) rfl nd (pi_range1 (by rfl) T.b_range (pa_cons (pe_op op_sub (pv 3) pe_int) pa_nil)) (blkOk_by (own := [("place", 4)]) (N := ["pool", "way", "letters", "size", "place"]) (sc := defScope s_law_name) (by decide +kernel)) (fun _ _ _ _ _ => (pg_name (i := 4) nd rfl (Or.inl rfl))) (fun _ _ _ _ _ => pts_nil) (fun _ _ _ _ _ => (pe_ix ix_str (pv 2) (pe_call (ok_law_draw T) (hr.mono (by decide)) (by rfl) T.g__law_draw T.F__law_draw.kp T.k__law_draw .nil pass0 (pa_cons (pv 0) (pa_cons pe_int pa_nil))) (fun _ _ => rfl))))))))))))), ?_⟩
  change (_ : TS) _ [some _, none, none, none, none] _
  try dsimp only [cxOf, Cx.nox, Cx.wish]
  walk_at "go"
  refine w_draw hP (by decide) (by decide) fun way H1 a0 a1 e1 P1 => ?_
  walk_at "go"; walk_at "if"
  refine w_d (fun h => ?_) fun h => ?_ <;> walk_at "go"
  · obtain ⟨c, hc, _⟩ := at_some (xs := (Str.ofString "abcd").cps.toList) (r := way) a0 h
    refine w_ixS (sz (by decide)) hc ?_
    exact k _ _ (by show 1 ≤ 12; decide) e1 P1
  · refine w_draw P1 (by decide) (by decide) fun d H2 b0 b1 e2 P2 => ?_
    walk_at "go"; walk_at "if"
    refine w_d (fun h => ?_) fun h => ?_ <;> walk_at "go"
    · refine w_draw P2 (by omega) (by omega) fun pl H3 c0 c1 e3 P3 => ?_
      walk_at "go"
      refine w_mulS (by decide) (by omega) ?_
      have l1 : (Txt.mul (Str.ofString "m") pl).length = pl.toNat := by
        rw [str_len_mul c0, show (Str.ofString "m").length = 1 from by decide, Nat.one_mul]
      walk_at "go"
      refine w_draw P3 (by decide) (by decide) fun t H4 d0 d1 e4 P4 => ?_
      walk_at "go"
      obtain ⟨c, hc, _⟩ := at_some (xs := (Str.ofString "mno").cps.toList) (r := t) d0 d1
      refine w_ixS (sz (by decide)) hc ?_
      have l2 : (⟨#[c]⟩ : Str).length = 1 := rfl
      walk_at "go"
      refine w_addS (sz (by omega)) ?_
      walk_at "go"
      refine w_mulS (by decide) (by omega) ?_
      have l3 : (Txt.mul (Str.ofString "m") (1 + d - 1 - pl)).length = (1 + d - 1 - pl).toNat := by
        rw [str_len_mul (by omega), show (Str.ofString "m").length = 1 from by decide, Nat.one_mul]
      refine w_addS (sz (by rw [str_len_append]; omega)) ?_
      exact k _ _ (by rw [str_len_append, str_len_append]; omega) (((e1.trans e2).trans e3).trans e4) P4
    · refine w_draw P2 (by decide) (by decide) fun t H3 c0 c1 e3 P3 => ?_
      walk_at "go"
      obtain ⟨c, hc, _⟩ := at_some (xs := (Str.ofString "abcdefghijklmnopqrstuvwxyz0123456789").cps.toList) (r := t) c0 (by
        rw [show (Str.ofString "abcdefghijklmnopqrstuvwxyz0123456789").cps.toList.length = 36 from by decide]; omega)
      refine w_ixS (sz (by decide)) hc ?_
      have l2 : (⟨#[c]⟩ : Str).length = 1 := rfl
      walk_at "go"
      refine ⟨_, rfl, by omega, by omega, fun D nD => ?_⟩
      refine z_lc_range (lo := 0) (fun i acc H' => Ext [p] H3 H' ∧ PoolAt K H' p ∧ ∃ ss : List Str, acc = ss.map V.str ∧ ss.length = i ∧ (ss.map (·.length)).sum = i) nD (fun H' e => ⟨e.up, P3.ext e List.not_mem_nil, [], rfl, rfl, rfl⟩) ?_ ?_
      · rintro Nx i acc H4 hi ⟨e4, P4, ss, rfl, hl, hs⟩ hD hN
        walk_at "go"
        refine ⟨rfl, ?_⟩
        walk_at "go"
        refine w_draw P4 (by decide) (by decide) fun u H5 d0 d1 e5 P5 => ?_
        walk_at "go"
        obtain ⟨c', hc', _⟩ := at_some (xs := (Str.ofString "abcdefghijklmnopqrstuvwxyz0123456789").cps.toList) (r := u) d0 (by
          rw [show (Str.ofString "abcdefghijklmnopqrstuvwxyz0123456789").cps.toList.length = 36 from by decide]; omega)
        refine w_ixS (sz (by decide)) hc' ?_
        have nDp : D ≠ p := (P3.ne nD).symm
        refine w_app (e5.keep _ _ hD (nm1 nDp)) (szl (by rw [List.length_map]; omega)) fun H6 e6 hD6 => ?_
        refine hN _ _ ⟨(e4.trans e5).drop (p := D) (e6.mono fun x z => List.mem_cons.mpr (.inl (List.mem_singleton.mp z))) nD, P5.ext e6 (nm1 nDp.symm), ss ++ [⟨#[c']⟩], by rw [List.map_append]; rfl, by rw [List.length_append, hl]; rfl, ?_⟩ hD6
        rw [List.map_append, List.sum_append, hs]
        rfl
      · rintro acc H4 ⟨e4, P4, ss, rfl, hl, hs⟩ hD
        refine w_join (ys := ss) (sql hD) (by rw [hs, hl, show (Str.ofString "").length = 0 from by decide]; omega) ?_
        have l3 : (Txt.join (Str.ofString "") ss).length = (1 + d - 1).toNat := by
          rw [str_len_join (by decide), hs]
        refine w_addS (sz (by omega)) ?_
        exact k _ _ (by rw [str_len_append]; omega) (((e1.trans e2).trans e3).trans e4) P4

def sp_law_fresh (K : PySem.W.Frag) : Sp := sp2 fun a b H Q => ∃ (p q : Addr) (ns : List Str), a = .ref p ∧ b = .ref q ∧ PoolAt K H p ∧ H q = some (.lst (ns.map V.str)) ∧ q ≠ p ∧ ns.length ≤ 6 ∧
  ∀ (z : Str) H', z ∉ ns → z.length ≤ 13 → Ext [p] H H' → PoolAt K H' p → Q (.str z) H'
def digs : Str := Str.ofString "0123456789"
theorem digs_nodup : digs.cps.toList.Nodup := by decide
theorem digs_len : digs.cps.toList.length = 10 := by decide
theorem fresh_end {z : Str} {ns : List Str} (hl : ns.length ≤ 6) (h : ∀ (j : Nat) (c : Nat), digs.cps[j]? = some c → (z ++ (⟨#[c]⟩ : Str)) ∈ ns) : False := by
  have h1 : (digs.cps.toList.map fun c => z ++ (⟨#[c]⟩ : Str)).Nodup := by
    refine List.Pairwise.map _ (fun a b hab e => hab (str_app_inj e)) digs_nodup
  have h2 := nodup_len h1 (m := ns) fun x hx => by
    obtain ⟨c, hc, rfl⟩ := List.mem_map.mp hx
    obtain ⟨j, hj, e⟩ := List.mem_iff_getElem.mp hc
    refine h j c ?_
    rw [← e]
    simp at hj ⊢
  rw [List.length_map, digs_len] at h2
  omega
theorem ok_law_fresh (T : Txt K mg) : FnOk P w K mg base CX0 5 T.f__law_fresh T.d__law_fresh ["pool", "taken"] (sp_law_fresh K) := by
  refine T.F__law_fresh.ok sc_law_fresh len2 (fun cdv A outer s H vs Q E hr h => ?_)
  have nd := sc_law_fresh.nd
  have hu := hu_of hr
  obtain ⟨_, _, rfl, p, q, ns, rfl, rfl, hP, hq, nqp, hl, k⟩ := h
  refine ⟨_,
      (pss_cons (ps_set (i := 2) nd rfl (Or.inl rfl) (pe_call (ok_law_name T) (hr.mono (by decide)) (by rfl) T.g__law_name T.F__law_name.kp T.k__law_name .nil pass0 (pa_cons (pv 0) pa_nil))) 
      (pss_cons (ps_if (pt_cmpR op_notIn_seq (pv 2) (pv 1) (by rfl)) 
        (pss_one (ps_ret (pv 2))) pss_nil) 
      (pss_cons (ps_for PassesOwn.never rfl (pi_str pe_str) (pg_name (i := 3) nd rfl (Or.inl rfl)) 
        (pss_one (ps_if (pt_cmpR op_notIn_seq (pe_op zop_addS (pv 2) (pv 3)) (pv 1) (by rfl)) 
          (pss_one (ps_ret (pe_op zop_addS (pv 2) (pv 3)))) pss_nil))) 
      (pss_one (ps_ret (pv 2)))))), ?_⟩
  change (_ : TS) _ [some _, some _, none, none] _
  try dsimp only [cxOf, Cx.nox, Cx.wish]
  walk_at "go"
  refine w_sp1 ⟨p, rfl, hP, fun z H1 hz e1 P1 => ?_⟩
  have hq1 := e1.keep _ _ hq (nm1 nqp)
  walk_at "go"; walk_at "if"
  refine w_ninS (ns := ns) (.inl (sql hq1)) ?_
  refine w_bl ?_
  refine w_nd (fun h => ?_) fun h => ?_ <;> walk_at "go"
  · exact k _ _ h (by omega) e1 P1
  · refine ⟨_, rfl, z_for_str (fun i σ' H' => H1 = H' ∧ (∃ v, σ' = [some (V.ref p), some (V.ref q), some (V.str z), v]) ∧ ∀ (j : Nat) c, j < i → digs.cps[j]? = some c → (z ++ (⟨#[c]⟩ : Str)) ∈ ns) ⟨rfl, ⟨_, rfl⟩, fun j c hj => absurd hj (Nat.not_lt_zero _)⟩ ?_ ?_⟩
    · rintro N i c σ' H' hc ⟨rfl, ⟨v, rfl⟩, hj⟩ hN
      walk_at "go"; walk_at "if"
      have hc1 : (⟨#[c]⟩ : Str).length = 1 := rfl
      refine w_addS (sz (by omega)) ?_
      walk_at "go"
      refine w_ninS (ns := ns) (.inl (sql hq1)) ?_
      refine w_bl ?_
      refine w_nd (fun h2 => ?_) fun h2 => ?_ <;> walk_at "go"
      · refine w_addS (sz (by omega)) ?_
        exact k _ _ h2 (by rw [str_len_append]; omega) e1 P1
      · refine hN _ _ ⟨rfl, ⟨_, rfl⟩, fun j c' hj' hc' => ?_⟩
        by_cases e : j < i
        · exact hj j c' e hc'
        · have e2 : j = i := by omega
          subst e2
          have : c' = c := Option.some.inj (hc'.symm.trans hc)
          rw [this]; exact h2
    · rintro σ' H' ⟨rfl, _, hj⟩
      exact (fresh_end hl fun j c hc => hj j c (by
        have := (Array.getElem?_eq_some_iff.mp hc).1
        exact this) hc).elim
def NodesAt (H : Hp) (r : Addr) (ts : List (Str × Int)) : Prop := ∃ as : List Addr, H r = some (.lst (as.map V.ref)) ∧ Paired (fun (a : Addr) (t : Str × Int) => ∃ s, H a = some (.tup [.str t.1, .int t.2, .int s])) as ts
def sp_law_nodes (K : PySem.W.Frag) : Sp := sp2 fun a b H Q => ∃ (p : Addr), a = .ref p ∧ b = .int 7 ∧ PoolAt K H p ∧
  ∀ r H' (ts : List (Str × Int)), 1 ≤ ts.length → ts.length ≤ 7 → (ts.map (·.1)).Nodup → (∀ t ∈ ts, t.1.length ≤ 13 ∧ 1 ≤ t.2 ∧ t.2 ≤ 9) → Ext [p] H H' → PoolAt K H' p → r ≠ p → NodesAt H' r ts → Q (.ref r) H'
theorem ok_law_nodes (T : Txt K mg) : FnOk P w K mg base CX0 6 T.f__law_nodes T.d__law_nodes ["pool", "most"] (sp_law_nodes K) := by
  refine T.F__law_nodes.ok sc_law_nodes len2 (fun cdv A outer s H vs Q E hr h => ?_)
  have nd := sc_law_nodes.nd
  have hu := hu_of hr
  obtain ⟨_, _, rfl, p, rfl, rfl, hP, k⟩ := h
  refine ⟨_,
      (pss_cons (ps_set (i := 2) nd rfl (Or.inl rfl) (pe_cmpR op_eq (pe_call (ok_law_draw T) (hr.mono (by decide)) (by rfl) T.g__law_draw T.F__law_draw.kp T.k__law_draw .nil pass0 (pa_cons (pv 0) (pa_cons pe_int pa_nil))) pe_int (nomark _))) 
      (pss_cons (ps_set (i := 3) nd rfl (Or.inl rfl) (pe_ifExp (PW.pt (pw_and (pt_val (pv 2)) (pw_and1 (pt_cmpR op_eq (pe_call (ok_law_draw T) (hr.mono (by decide)) (by rfl) T.g__law_draw T.F__law_draw.kp T.k__law_draw .nil pass0 (pa_cons (pv 0) (pa_cons pe_int pa_nil))) pe_int (nomark _))))) (pv 1) (pe_op op_add pe_int (pe_call (ok_law_draw T) (hr.mono (by decide)) (by rfl) T.g__law_draw T.F__law_draw.kp T.k__law_draw .nil pass0 (pa_cons (pv 0) (pa_cons (pv 1) pa_nil)))))) 
      (pss_cons (ps_set (i := 4) nd rfl (Or.inl rfl) (pe_lstZ pa_nil)) 
      (pss_cons (ps_set (i := 5) nd rfl (Or.inl rfl) (pe_lstZ pa_nil)) 
      (pss_cons (ps_for PassesOwn.never rfl (pi_range1 (by rfl) T.b_range (pa_cons (pv 3) pa_nil)) (pg_name (i := 6) nd rfl (Or.inl rfl)) 
        (pss_cons (ps_expr (pe_bm PySem.F.plainAttrs_list PySem.F.slot_list_append PySem.F.type_list_append zmt_append (pv 4) (pa_cons (pe_call (ok_law_fresh T) (hr.mono (by decide)) (by rfl) T.g__law_fresh T.F__law_fresh.kp T.k__law_fresh .nil pass0 (pa_cons (pv 0) (pa_cons (pv 4) pa_nil))) pa_nil))) 
        (pss_cons (ps_set (i := 7) nd rfl (Or.inl rfl) (pe_ifExp (PW.pt (pw_or (pt_val (pv 2)) (pw_or1 (pt_cmpR op_eq (pe_call (ok_law_draw T) (hr.mono (by decide)) (by rfl) T.g__law_draw T.F__law_draw.kp T.k__law_draw .nil pass0 (pa_cons (pv 0) (pa_cons pe_int pa_nil))) pe_int (nomark _))))) (pe_op op_add pe_int (pe_call (ok_law_draw T) (hr.mono (by decide)) (by rfl) T.g__law_draw T.F__law_draw.kp T.k__law_draw .nil pass0 (pa_cons (pv 0) (pa_cons pe_int pa_nil)))) pe_int)) 
        (pss_one (ps_expr (pe_bm PySem.F.plainAttrs_list PySem.F.slot_list_append PySem.F.type_list_append zmt_append (pv 5) (pa_cons (pe_tupZ (pa_cons (pe_ix ix_list (pv 4) (pv 6) (fun _ _ => rfl)) (pa_cons (pv 7) (pa_cons (pe_op op_add pe_int (pe_call (ok_law_draw T) (hr.mono (by decide)) (by rfl) T.g__law_draw T.F__law_draw.kp T.k__law_draw .nil pass0 (pa_cons (pv 0) (pa_cons pe_int pa_nil)))) pa_nil)))) pa_nil))))))) 
      (pss_one (ps_ret (pv 5)))))))), ?_⟩
  change (_ : TS) _ [some _, some _, none, none, none, none, none, none] _
  try dsimp only [cxOf, Cx.nox, Cx.wish]
  walk_at "go"
  refine w_draw hP (by decide) (by decide) fun d H1 a0 a1 e1 P1 => ?_
  walk_at "go"
  refine w_cutE (fun v H' => Ext [p] H H' ∧ PoolAt K H' p ∧ ∃ c : Int, 1 ≤ c ∧ c ≤ 7 ∧ v = .int c) ?_ fun Q' hQ => ?_
  · rintro _ H2 ⟨e2, P2, c, c0, c1, rfl⟩
    walk_at "go"
    refine ⟨Nat.zero_le _, w_alc fun q1 H3 e3 n3 h3 => ?_⟩
    walk_at "go"
    refine ⟨Nat.zero_le _, w_alc fun q2 H4 e4 n4 h4 => ?_⟩
    walk_at "go"
    have nq1 : H q1 = none := e2.free n3
    have nq2 : H q2 = none := e2.free (e3.free n4)
    have q1p : q1 ≠ p := (P2.ne n3).symm
    have q2p : q2 ≠ p := ((P2.ext e3 List.not_mem_nil).ne n4).symm
    have q12 : q1 ≠ q2 := ne_of_none h3 n4
    refine ⟨_, rfl, by omega, by omega, z_for_range (lo := 0) (fun i σ' H' => ∃ (ts : List (Str × Int)) (as : List Addr) (v6 v7 : Option V), σ' = [some (V.ref p), some (.int 7), some (.bl (decide (d = 0))), some (.int c), some (.ref q1), some (.ref q2), v6, v7] ∧
      ts.length = i ∧ Ext [p] H H' ∧ PoolAt K H' p ∧ H' q1 = some (.lst ((ts.map (·.1)).map V.str)) ∧ H' q2 = some (.lst (as.map V.ref)) ∧ Paired (fun (a : Addr) (t : Str × Int) => ∃ s, H' a = some (.tup [.str t.1, .int t.2, .int s])) as ts ∧ (ts.map (·.1)).Nodup ∧ (∀ t ∈ ts, t.1.length ≤ 13 ∧ 1 ≤ t.2 ∧ t.2 ≤ 9)) ?_ ?_ ?_⟩
    · exact ⟨[], [], none, none, rfl, rfl, (e2.trans e3.up).trans e4.up, (P2.ext e3 List.not_mem_nil).ext e4 List.not_mem_nil, e4.keep _ _ h3 List.not_mem_nil, h4, .nil, List.nodup_nil, fun _ z => nomatch z⟩
    · rintro N i σ' H5 hi ⟨ts, as, v6, v7, rfl, hl, e5, P5, g1, g2, hp, hnd, hb⟩ hN
      have hi7 : i < 7 := by omega
      walk_at "go"
      refine w_sp2 ⟨p, q1, ts.map (·.1), rfl, rfl, P5, g1, q1p, by rw [List.length_map]; omega, fun z H6 hz hzl e6 P6 => ?_⟩
      have g1' := e6.keep _ _ g1 (nm1 q1p)
      walk_at "go"
      refine w_append g1' (szl (by rw [List.length_map, List.length_map]; omega)) ?_
      refine w_chg g1' (fun z => z) fun H7 e7 g1 => ?_
      have g2 := e7.keep _ _ (e6.keep _ _ g2 (nm1 q2p)) (nm1 q12.symm)
      have P7 := P6.ext e7 (nm1 q1p.symm)
      have E7 := (e5.trans e6).dropq e7 nq1
      walk_at "go"
      refine w_cutE (fun v H' => Ext [p] H7 H' ∧ PoolAt K H' p ∧ ∃ c : Int, 1 ≤ c ∧ c ≤ 9 ∧ v = .int c) ?_ fun Q' hQ => ?_
      · rintro _ H8 ⟨e8, P8, w, w0, w1, rfl⟩
        have g1 := e8.keep _ _ g1 (nm1 q1p)
        have g2 := e8.keep _ _ g2 (nm1 q2p)
        have g1s : H8 q1 = some (.lst ((ts.map (·.1) ++ [z]).map V.str)) := by rw [List.map_append]; exact g1
        walk_at "go"
        refine w_ixL (sql g1s) (at_nat0 (by rw [List.getElem?_map, get_snoc (by rw [List.length_map]; exact hl)]; rfl)) ?_
        walk_at "go"
        refine w_draw P8 (by decide) (by decide) fun s H9 d0 d1 e9 P9 => ?_
        walk_at "go"
        have g1 := e9.keep _ _ g1s (nm1 q1p)
        have g2 := e9.keep _ _ g2 (nm1 q2p)
        refine ⟨by show 3 ≤ sizeLine; decide, w_alc fun tp H10 e10 n10 h10 => ?_⟩
        walk_at "go"
        have g1 := e10.keep _ _ g1 List.not_mem_nil
        have g2 := e10.keep _ _ g2 List.not_mem_nil
        have hal := paired_len hp
        refine w_append g2 (szl (by rw [List.length_map]; omega)) ?_
        refine w_chg g2 (fun z => z) fun H11 e11 g2 => ?_
        have E10 : Ext [p] H H10 := ((E7.trans e8).trans e9).trans e10.up
        have E11 := E10.dropq e11 nq2
        refine hN _ _ ⟨ts ++ [(z, w)], as ++ [tp], _, _, rfl, by rw [List.length_append, hl]; rfl, E11, (P9.ext e10 List.not_mem_nil).ext e11 (nm1 q2p.symm), ?_, ?_, ?_, ?_, ?_⟩
        · rw [List.map_append]
          exact e11.keep _ _ g1 (nm1 q12)
        · rw [List.map_append]
          exact g2
        · refine paired_snoc ⟨_, e11.tup h10⟩ (Paired.mapP hp fun a t ⟨s, h⟩ => ⟨s, e11.tup (e10.tup (e9.tup (e8.tup (e7.tup (e6.tup h)))))⟩)
        · rw [List.map_append]
          exact nd_snoc hnd hz
        · intro t ht
          rcases List.mem_append.mp ht with ht | ht
          · exact hb t ht
          · rw [List.mem_singleton.mp ht]
            exact ⟨hzl, w0, w1⟩
      · walk_at "ife"
        refine w_b (fun h => ?_) fun h => ?_ <;> walk_at "go"
        · refine w_draw P7 (by decide) (by decide) fun d3 H3 c0 c1 e3 P3 => ?_
          walk_at "go"
          exact hQ _ _ ⟨e3, P3, _, by omega, by omega, rfl⟩
        · refine w_draw P7 (by decide) (by decide) fun d3 H3 c0 c1 e3 P3 => ?_
          walk_at "go"
          refine w_d (fun h => ?_) fun h => ?_ <;> walk_at "go"
          · refine w_draw P3 (by decide) (by decide) fun d4 H4 c0 c1 e4 P4 => ?_
            walk_at "go"
            exact hQ _ _ ⟨e3.trans e4, P4, _, by omega, by omega, rfl⟩
          · exact hQ _ _ ⟨e3, P3, _, by omega, by omega, rfl⟩
    · rintro σ' H5 ⟨ts, as, v6, v7, rfl, hl, e5, P5, g1, g2, hp, hnd, hb⟩
      walk_at "go"
      exact k q2 H5 ts (by omega) (by omega) hnd hb e5 P5 q2p ⟨as, g2, hp⟩
  · walk_at "ife"
    refine w_b (fun h => ?_) fun h => ?_ <;> walk_at "go"
    · refine w_draw P1 (by decide) (by decide) fun d2 H2 b0 b1 e2 P2 => ?_
      walk_at "go"
      refine w_d (fun h => ?_) fun h => ?_ <;> walk_at "go"
      · exact hQ _ _ ⟨e1.trans e2, P2, _, by decide, by decide, rfl⟩
      · refine w_draw P2 (by decide) (by decide) fun d3 H3 c0 c1 e3 P3 => ?_
        walk_at "go"
        exact hQ _ _ ⟨(e1.trans e2).trans e3, P3, _, by omega, by omega, rfl⟩
    · refine w_draw P1 (by decide) (by decide) fun d3 H3 c0 c1 e3 P3 => ?_
      walk_at "go"
      exact hQ _ _ ⟨e1.trans e3, P3, _, by omega, by omega, rfl⟩

/-! ### sums, groups -/
def sp_law_sums (K : PySem.W.Frag) : Sp := sp1 fun a H Q => ∃ (q : Addr) (ws : List Int), a = .ref q ∧ H q = some (.lst (ws.map V.int)) ∧ ws.length ≤ 7 ∧ ∀ r H', Ext [] H H' → H' r = some (.lst ((sumsF [0] ws).map V.int)) → Q (.ref r) H'
theorem ok_law_sums (T : Txt K mg) : FnOk P w K mg base CX0 1 T.f__law_sums T.d__law_sums ["weights"] (sp_law_sums K) := by
  refine T.F__law_sums.ok sc_law_sums len1 (fun cdv A outer s H vs Q E hr h => ?_)
  have nd := sc_law_sums.nd
  have hu := hu_of hr
  obtain ⟨_, rfl, q, ws, rfl, hq, hl, k⟩ := h
  refine ⟨_,
      (pss_cons (ps_set (i := 1) nd rfl (Or.inl rfl) (pe_lstZ (pa_cons pe_int pa_nil))) 
      (pss_cons (ps_for PassesOwn.never rfl (pi_list (pv 0)) (pg_name (i := 2) nd rfl (Or.inr rfl)) 
        (pss_one (ps_set (i := 1) nd rfl (Or.inl rfl) (pe_op zop_cat (pv 1) (pe_lc (own := [("one", 3)]) rfl nd (pi_list (pv 1)) (blkOk_by (own := [("one", 3)]) (N := ["weights", "sums", "weight", "one"]) (sc := defScope s_law_sums) (by decide +kernel)) (fun _ _ _ _ _ => (pg_name (i := 3) nd rfl (Or.inl rfl))) (fun _ _ _ _ _ => pts_nil) (fun _ _ _ _ _ => (pe_op op_add (pv 3) (pv 2)))))))) 
      (pss_one (ps_ret (pv 1))))), ?_⟩
  change (_ : TS) _ [some _, none, none, none] _
  try dsimp only [cxOf, Cx.nox, Cx.wish]
  walk_at "go"
  refine ⟨by show 1 ≤ sizeLine; decide, w_alc fun r0 H1 e1 n1 h1 => ?_⟩
  walk_at "go"
  have hq1 := e1.keep _ _ hq List.not_mem_nil
  refine ⟨_, rfl, ⟨_, sql hq1⟩, z_for_list (xs := ws.map V.int) (fun i σ' H' => Ext [] H H' ∧ ∃ (r : Addr) (v : Option V), σ' = [some (V.ref q), some (.ref r), v, none] ∧ H' r = some (.lst ((sumsF [0] (ws.take i)).map V.int))) ?_ ?_ ?_ ?_⟩
  · exact ⟨e1, r0, none, rfl, h1⟩
  · rintro i σ' H' _ ⟨e, _⟩
    exact sql (e.keep _ _ hq List.not_mem_nil)
  · rintro N i x σ' H2 hx ⟨e2, r, v, rfl, hr2⟩ hN
    rw [List.getElem?_map, Option.map_eq_some_iff] at hx
    obtain ⟨w, hw, rfl⟩ := hx
    have hi : i < ws.length := (List.getElem?_eq_some_iff.mp hw).1
    have hS : (sumsF [0] (ws.take i)).length ≤ 128 := by
      rw [sumsF_len, List.length_take]
      have := pow7 (n := min i ws.length) (by omega)
      show 1 * 2 ^ min i ws.length ≤ 128
      omega
    walk_at "go"
    refine ⟨_, rfl, ⟨_, sql hr2⟩, fun D nD => z_lc_list (xs := (sumsF [0] (ws.take i)).map V.int) (fun j acc H' => Ext [] H2 H' ∧ acc = ((sumsF [0] (ws.take i)).take j).map (fun s => V.int (s + w))) nD (fun H' e => ⟨e, rfl⟩) ?_ ?_ ?_⟩
    · rintro j acc H' _ ⟨e, _⟩
      exact sql (e.keep _ _ hr2 List.not_mem_nil)
    · rintro Nx j y acc H3 hy ⟨e3, rfl⟩ hD hNx
      rw [List.getElem?_map, Option.map_eq_some_iff] at hy
      obtain ⟨s, hs, rfl⟩ := hy
      have hj : j < (sumsF [0] (ws.take i)).length := (List.getElem?_eq_some_iff.mp hs).1
      walk_at "go"
      refine ⟨rfl, ?_⟩
      walk_at "go"
      refine w_app hD (szl (by rw [List.length_map, List.length_take]; omega)) fun H4 e4 hD4 => ?_
      refine hNx _ _ ⟨e3.dropq e4 nD, ?_⟩ hD4
      rw [List.take_add_one, hs, List.map_append]
      rfl
    · rintro acc H3 ⟨e3, rfl⟩ hD
      refine w_cat (e3.keep _ _ hr2 List.not_mem_nil) hD (sz (by simp only [List.length_map, List.length_take]; omega)) ?_
      refine w_alc fun r' H4 e4 n4 h4 => ?_
      refine hN _ _ ⟨(e2.trans e3).trans e4, r', _, rfl, ?_⟩
      rw [h4, List.length_map, List.take_length, List.take_add_one, hw, Option.toList_some, sumsF_snoc, List.map_append, List.map_map]
      rfl
  · rintro σ' H2 ⟨e2, r, v, rfl, hr2⟩
    walk_at "go"
    rw [List.length_map, List.take_length] at hr2
    exact k r H2 e2 hr2
def sp_law_apart (K : PySem.W.Frag) : Sp := sp3 fun a b c H Q => ∃ (q : Addr) (ws : List Int) (o1 o2 : Int), a = .ref q ∧ b = .int o1 ∧ c = .int o2 ∧ H q = some (.lst (ws.map V.int)) ∧ ws.length ≤ 7 ∧
  ∀ (t : Bool) H', (t = true ↔ ∃ s ∈ sumsF [0] ws, o1 ≤ s ∧ o2 ≤ ws.sum - s) → Ext [] H H' → Q (.bl t) H'
theorem ok_law_apart (T : Txt K mg) : FnOk P w K mg base CX0 2 T.f__law_apart T.d__law_apart ["weights", "one", "other"] (sp_law_apart K) := by
  refine T.F__law_apart.ok sc_law_apart len3 (fun cdv A outer s H vs Q E hr h => ?_)
  have nd := sc_law_apart.nd
  have hu := hu_of hr
  obtain ⟨_, _, _, rfl, q, ws, o1, o2, rfl, rfl, rfl, hq, hl, k⟩ := h
  refine ⟨_,
      (pss_cons (ps_set (i := 3) nd rfl (Or.inr rfl) (pe_callB (cr_sum rfl) (by rfl) T.b_sum (by decide +kernel) (pa_cons (pv 0) pa_nil))) 
      (pss_one (ps_ret (pe_cmpR op_gt (pe_callB zc_len (by rfl) T.b_len (by decide +kernel) (pa_cons (pe_lc (own := [("part", 4)]) rfl nd (pi_list (pe_call (ok_law_sums T) (hr.mono (by decide)) (by rfl) T.g__law_sums T.F__law_sums.kp T.k__law_sums .nil pass0 (pa_cons (pv 0) pa_nil))) (blkOk_by (own := [("part", 4)]) (N := ["weights", "one", "other", "whole", "part"]) (sc := defScope s_law_apart) (by decide +kernel)) (fun _ _ _ _ _ => (pg_name (i := 4) nd rfl (Or.inl rfl))) (fun _ _ _ _ _ => (pts_one (PW.pt (pw_and (pt_cmpR op_ge (pv 4) (pv 1) (nomark _)) (pw_and1 (pt_cmpR op_ge (pe_op op_sub (pv 3) (pv 4)) (pv 2) (nomark _))))))) (fun _ _ _ _ _ => pe_int)) pa_nil)) pe_int (nomark _))))), ?_⟩
  change (_ : TS) _ [some _, some _, some _, none, none] _
  try dsimp only [cxOf, Cx.nox, Cx.wish]
  walk_at "go"
  refine w_sum (sql hq) ?_
  walk_at "go"
  refine w_sp1 ⟨q, ws, rfl, hq, hl, fun r H1 e1 h1 => ?_⟩
  have hS : (sumsF [0] ws).length ≤ 128 := by
    rw [sumsF_len]
    have := pow7 hl
    show 1 * 2 ^ ws.length ≤ 128
    omega
  refine ⟨_, rfl, ⟨_, sql h1⟩, fun D nD => z_lc_list (xs := (sumsF [0] ws).map V.int) (fun j acc H' => Ext [] H1 H' ∧ acc.length ≤ j ∧ (0 < acc.length ↔ ∃ s ∈ (sumsF [0] ws).take j, o1 ≤ s ∧ o2 ≤ ws.sum - s)) nD (fun H' e => ⟨e, Nat.le_refl _, by simp⟩) ?_ ?_ ?_⟩
  · rintro j acc H' _ ⟨e, _⟩
    exact sql (e.keep _ _ h1 List.not_mem_nil)
  · rintro Nx j y acc H3 hy ⟨e3, hal, hiff⟩ hD hNx
    rw [List.getElem?_map, Option.map_eq_some_iff] at hy
    obtain ⟨s, hs, rfl⟩ := hy
    have hj : j < (sumsF [0] ws).length := (List.getElem?_eq_some_iff.mp hs).1
    have tk : ∀ p : Int → Prop, (∃ x ∈ (sumsF [0] ws).take (j + 1), p x) ↔ (∃ x ∈ (sumsF [0] ws).take j, p x) ∨ p s := by
      intro p
      rw [List.take_add_one, hs]
      constructor
      · rintro ⟨x, hx, px⟩
        rcases List.mem_append.mp hx with hx | hx
        · exact .inl ⟨x, hx, px⟩
        · rw [Option.toList_some, List.mem_singleton] at hx
          subst hx
          exact .inr px
      · rintro (⟨x, hx, px⟩ | px)
        · exact ⟨x, List.mem_append_left _ hx, px⟩
        · exact ⟨s, List.mem_append_right _ (by simp), px⟩
    walk_at "go"
    refine ⟨rfl, ?_⟩
    walk_at "go"
    refine w_d (fun g1 => ?_) fun g1 => ?_ <;> walk_at "go"
    · refine w_d (fun g2 => ?_) fun g2 => ?_ <;> walk_at "go"
      · refine w_app hD (szl (by omega)) fun H4 e4 hD4 => ?_
        refine hNx _ _ ⟨e3.dropq e4 nD, by rw [List.length_append]; show _ + 1 ≤ _; omega, ?_⟩ hD4
        rw [tk]
        exact ⟨fun _ => .inr ⟨g1, g2⟩, fun _ => by rw [List.length_append]; show 0 < _ + 1; omega⟩
      · refine hNx _ _ ⟨e3, by omega, ?_⟩ hD
        rw [tk, hiff]
        exact ⟨.inl, fun z => z.elim id fun z => absurd z.2 g2⟩
    · refine hNx _ _ ⟨e3, by omega, ?_⟩ hD
      rw [tk, hiff]
      exact ⟨.inl, fun z => z.elim id fun z => absurd z.1 g1⟩
  · rintro acc H3 ⟨e3, hal, hiff⟩ hD
    walk_at "go"
    refine k _ _ ?_ (e1.trans e3)
    rw [List.length_map, List.take_length] at hiff
    rw [decide_eq_true_iff, ← hiff]
    omega
/-- the weight of a group by the dict of the weights -/
def sp_weight (K : PySem.W.Frag) : Sp := sp2 fun a b H Q => ∃ (d g : Addr) (ts : List (Str × Int)) (ns : List Str), a = .ref d ∧ b = .ref g ∧ H d = some (.dK (kvW ts)) ∧ H g = some (.tup (ns.map V.str)) ∧ (∀ n ∈ ns, n ∈ ts.map (·.1)) ∧ ns.length ≤ 7 ∧
  ∀ H', Ext [] H H' → Q (.int ((ns.map (wtOf ts)).sum)) H'
theorem ok_law_weight (T : Txt K mg) : FnOk P w K mg base CX0 1 T.f__law_weight T.d__law_weight ["weights", "group"] (sp_weight K) := by
  refine T.F__law_weight.ok sc_law_weight len2 (fun cdv A outer s H vs Q E hr h => ?_)
  have nd := sc_law_weight.nd
  have hu := hu_of hr
  obtain ⟨_, _, rfl, d, g, ts, ns, rfl, rfl, hd, hg, hm, hl, k⟩ := h
  refine ⟨_,
      (pss_one (ps_ret (pe_callB (cr_sum rfl) (by rfl) T.b_sum (by decide +kernel) (pa_cons (pe_lc (own := [("name", 2)]) rfl nd (pi_tup (pv 1)) (blkOk_by (own := [("name", 2)]) (N := ["weights", "group", "name"]) (sc := defScope s_law_weight) (by decide +kernel)) (fun _ _ _ _ _ => (pg_name (i := 2) nd rfl (Or.inl rfl))) (fun _ _ _ _ _ => pts_nil) (fun _ _ _ _ _ => (pe_dget hu (pv 0) (pv 2) (fun _ _ => rfl)))) pa_nil)))), ?_⟩
  change (_ : TS) _ [some _, some _, none] _
  try dsimp only [cxOf, Cx.nox, Cx.wish]
  walk_at "go"
  refine ⟨_, rfl, ⟨_, sqt hg⟩, fun D nD => z_lc_tup (xs := ns.map V.str) (fun j acc H' => Ext [] H H' ∧ acc = ((ns.take j).map (wtOf ts)).map V.int) nD (fun H' e => ⟨e, rfl⟩) ?_ ?_ ?_⟩
  · rintro j acc H' _ ⟨e, _⟩
    exact sqt (e.tup hg)
  · rintro Nx j y acc H3 hy ⟨e3, rfl⟩ hD hNx
    rw [List.getElem?_map, Option.map_eq_some_iff] at hy
    obtain ⟨n, hn, rfl⟩ := hy
    have hj : j < ns.length := (List.getElem?_eq_some_iff.mp hn).1
    walk_at "go"
    refine ⟨rfl, ?_⟩
    walk_at "go"
    refine w_dgetS (e3.keep _ _ hd List.not_mem_nil) (wt_val (hm n (List.mem_of_getElem? hn))) ?_
    refine w_app hD (szl (by simp only [List.length_map, List.length_take]; omega)) fun H4 e4 hD4 => ?_
    refine hNx _ _ ⟨e3.dropq e4 nD, ?_⟩ hD4
    rw [List.take_add_one, hn, List.map_append, List.map_append]
    rfl
  · rintro acc H3 ⟨e3, rfl⟩ hD
    rw [List.length_map, List.take_length] at hD
    refine w_sum (sql hD) ?_
    exact k _ e3
theorem ok_weight_of_group (T : Txt K mg) : FnOk P w K mg base CX0 1 T.f_weight_of_group T.d_weight_of_group ["weights", "group"] (sp_weight K) := by
  refine T.F_weight_of_group.ok sc_weight_of_group len2 (fun cdv A outer s H vs Q E hr h => ?_)
  have nd := sc_weight_of_group.nd
  have hu := hu_of hr
  obtain ⟨_, _, rfl, d, g, ts, ns, rfl, rfl, hd, hg, hm, hl, k⟩ := h
  refine ⟨_,
      (pss_one (ps_ret (pe_callB (cr_sum rfl) (by rfl) T.b_sum (by decide +kernel) (pa_cons (pe_lc (own := [("name", 2)]) rfl nd (pi_tup (pv 1)) (blkOk_by (own := [("name", 2)]) (N := ["weights", "group", "name"]) (sc := defScope s_weight_of_group) (by decide +kernel)) (fun _ _ _ _ _ => (pg_name (i := 2) nd rfl (Or.inl rfl))) (fun _ _ _ _ _ => pts_nil) (fun _ _ _ _ _ => (pe_dget hu (pv 0) (pv 2) (fun _ _ => rfl)))) pa_nil)))), ?_⟩
  change (_ : TS) _ [some _, some _, none] _
  try dsimp only [cxOf, Cx.nox, Cx.wish]
  walk_at "go"
  refine ⟨_, rfl, ⟨_, sqt hg⟩, fun D nD => z_lc_tup (xs := ns.map V.str) (fun j acc H' => Ext [] H H' ∧ acc = ((ns.take j).map (wtOf ts)).map V.int) nD (fun H' e => ⟨e, rfl⟩) ?_ ?_ ?_⟩
  · rintro j acc H' _ ⟨e, _⟩
    exact sqt (e.tup hg)
  · rintro Nx j y acc H3 hy ⟨e3, rfl⟩ hD hNx
    rw [List.getElem?_map, Option.map_eq_some_iff] at hy
    obtain ⟨n, hn, rfl⟩ := hy
    have hj : j < ns.length := (List.getElem?_eq_some_iff.mp hn).1
    walk_at "go"
    refine ⟨rfl, ?_⟩
    walk_at "go"
    refine w_dgetS (e3.keep _ _ hd List.not_mem_nil) (wt_val (hm n (List.mem_of_getElem? hn))) ?_
    refine w_app hD (szl (by simp only [List.length_map, List.length_take]; omega)) fun H4 e4 hD4 => ?_
    refine hNx _ _ ⟨e3.dropq e4 nD, ?_⟩ hD4
    rw [List.take_add_one, hn, List.map_append, List.map_append]
    rfl
  · rintro acc H3 ⟨e3, rfl⟩ hD
    rw [List.length_map, List.take_length] at hD
    refine w_sum (sql hD) ?_
    exact k _ e3
/-- tuples of names at addresses -/
def GrpsAt (H : Hp) (as : List Addr) (gs : List (List Str)) : Prop := Paired (fun (a : Addr) (g : List Str) => H a = some (.tup (g.map V.str))) as gs
theorem GrpsAt.ext {M : List Addr} {H H' : Hp} {as : List Addr} {gs : List (List Str)} (h : GrpsAt H as gs) (e : Ext M H H') : GrpsAt H' as gs := Paired.mapP h fun _ _ q => e.tup q
theorem paired_app {α β : Type} {R : α → β → Prop} : ∀ {xs xs' : List α} {ys ys' : List β}, Paired R xs ys → Paired R xs' ys' → Paired R (xs ++ xs') (ys ++ ys')
  | _, _, _, _, .nil, s => s
  | _, _, _, _, .cons r t, s => .cons r (paired_app t s)
theorem GrpsAt.snoc {H : Hp} {a : Addr} {g : List Str} {as : List Addr} {gs : List (List Str)} (h : H a = some (.tup (g.map V.str))) (k : GrpsAt H as gs) : GrpsAt H (as ++ [a]) (gs ++ [g]) :=
  paired_snoc (R := fun (a : Addr) (g : List Str) => H a = some (.tup (g.map V.str))) h k
theorem GrpsAt.app {H : Hp} {as bs : List Addr} {gs ks : List (List Str)} (h : GrpsAt H as gs) (k : GrpsAt H bs ks) : GrpsAt H (as ++ bs) (gs ++ ks) :=
  paired_app (R := fun (a : Addr) (g : List Str) => H a = some (.tup (g.map V.str))) h k
def sp_all_groups (K : PySem.W.Frag) : Sp := sp1 fun a H Q => ∃ (q : Addr) (ns : List Str), a = .ref q ∧ H q = some (.lst (ns.map V.str)) ∧ ns.length ≤ 7 ∧
  ∀ r H' as, Ext [] H H' → H' r = some (.lst (as.map V.ref)) → GrpsAt H' as (grpF [[]] ns) → Q (.ref r) H'
theorem ok_all_groups (T : Txt K mg) : FnOk P w K mg base CX0 1 T.f_all_groups T.d_all_groups ["names"] (sp_all_groups K) := by
  refine T.F_all_groups.ok sc_all_groups len1 (fun cdv A outer s H vs Q E hr h => ?_)
  have nd := sc_all_groups.nd
  have hu := hu_of hr
  obtain ⟨_, rfl, q, ns, rfl, hq, hl, k⟩ := h
  refine ⟨_,
      (pss_cons (ps_set (i := 1) nd rfl (Or.inl rfl) (pe_lstZ (pa_cons (pe_tupZ pa_nil) pa_nil))) 
      (pss_cons (ps_for PassesOwn.never rfl (pi_list (pv 0)) (pg_name (i := 2) nd rfl (Or.inr rfl)) 
        (pss_one (ps_set (i := 1) nd rfl (Or.inl rfl) (pe_op zop_cat (pv 1) (pe_lc (own := [("group", 3)]) rfl nd (pi_list (pv 1)) (blkOk_by (own := [("group", 3)]) (N := ["names", "groups", "name", "group"]) (sc := defScope s_all_groups) (by decide +kernel)) (fun _ _ _ _ _ => (pg_name (i := 3) nd rfl (Or.inl rfl))) (fun _ _ _ _ _ => pts_nil) (fun _ _ _ _ _ => (pe_op (zop_catAK (K := K) rfl) (pv 3) (pe_tupZ (pa_cons (pv 2) pa_nil))))))))) 
      (pss_one (ps_ret (pv 1))))), ?_⟩
  change (_ : TS) _ [some _, none, none, none] _
  try dsimp only [cxOf, Cx.nox, Cx.wish]
  walk_at "go"
  refine ⟨Nat.zero_le _, w_alc fun t0 H0 e0 n0 h0 => ?_⟩
  walk_at "go"
  refine ⟨by show 1 ≤ sizeLine; decide, w_alc fun r0 H1 e1 n1 h1 => ?_⟩
  walk_at "go"
  have e01 := e0.trans e1
  have hq1 := e01.keep _ _ hq List.not_mem_nil
  refine ⟨_, rfl, ⟨_, sql hq1⟩, z_for_list (xs := ns.map V.str) (fun i σ' H' => Ext [] H H' ∧ ∃ (r : Addr) (v : Option V) (as : List Addr), σ' = [some (V.ref q), some (.ref r), v, none] ∧ H' r = some (.lst (as.map V.ref)) ∧ GrpsAt H' as (grpF [[]] (ns.take i))) ?_ ?_ ?_ ?_⟩
  · exact ⟨e01, r0, none, [t0], rfl, h1, .cons (e1.tup h0) .nil⟩
  · rintro i σ' H' _ ⟨e, _⟩
    exact sql (e.keep _ _ hq List.not_mem_nil)
  · rintro N i x σ' H2 hx ⟨e2, r, v, as, rfl, hr2, hg⟩ hN
    rw [List.getElem?_map, Option.map_eq_some_iff] at hx
    obtain ⟨w, hw, rfl⟩ := hx
    have hi : i < ns.length := (List.getElem?_eq_some_iff.mp hw).1
    have hS : as.length ≤ 128 := by
      rw [paired_len hg, grpF_len, List.length_take]
      have := pow7 (n := min i ns.length) (by omega)
      show 1 * 2 ^ min i ns.length ≤ 128
      omega
    walk_at "go"
    refine ⟨_, rfl, ⟨_, sql hr2⟩, fun D nD => z_lc_list (xs := as.map V.ref) (fun j acc H' => Ext [] H2 H' ∧ ∃ bs : List Addr, acc = bs.map V.ref ∧ GrpsAt H' bs (((grpF [[]] (ns.take i)).take j).map (· ++ [w]))) nD (fun H' e => ⟨e, [], rfl, .nil⟩) ?_ ?_ ?_⟩
    · rintro j acc H' _ ⟨e, _⟩
      exact sql (e.keep _ _ hr2 List.not_mem_nil)
    · rintro Nx j y acc H3 hy ⟨e3, bs, rfl, hb⟩ hD hNx
      rw [List.getElem?_map, Option.map_eq_some_iff] at hy
      obtain ⟨s, hs, rfl⟩ := hy
      have hj : j < as.length := (List.getElem?_eq_some_iff.mp hs).1
      obtain ⟨g, hgj, hsg⟩ := paired_at hg hs
      have hgl : g.length ≤ 7 := by
        have := (grp_sublist (List.mem_of_getElem? hgj)).length_le
        rw [List.length_take] at this
        omega
      have hbl : bs.length ≤ 128 := by
        rw [paired_len hb, List.length_map, List.length_take]
        have := paired_len hg
        omega
      have tk : ((grpF [[]] (ns.take i)).take (j + 1)).map (· ++ [w]) = ((grpF [[]] (ns.take i)).take j).map (· ++ [w]) ++ [g ++ [w]] := by
        rw [List.take_add_one, hgj, List.map_append]; rfl
      walk_at "go"
      refine ⟨rfl, ?_⟩
      walk_at "go"
      refine ⟨by show 1 ≤ sizeLine; decide, w_alc fun t1 H4 e4 n4 h4 => ?_⟩
      have hs4 : H4 s = some (.tup (g.map V.str)) := e4.tup (e3.tup hsg)
      have hD4 := e4.keep _ _ hD List.not_mem_nil
      have fin : ∀ (u : Addr) (H5 : Hp), Ext [] H4 H5 → H5 u = some (.tup ((g ++ [w]).map V.str)) → ∃ acc, H5 D = some (.lst acc) ∧ acc.length < sizeLine ∧ Nx (upd H5 D (.lst (acc ++ [V.ref u]))) := by
        intro u H5 e5 hu5
        refine w_app (e5.keep _ _ hD4 List.not_mem_nil) (szl (by rw [List.length_map]; omega)) fun H6 e6 hD6 => ?_
        refine hNx _ _ ⟨((e3.trans e4).trans e5).dropq e6 nD, bs ++ [u], by rw [List.map_append]; rfl, ?_⟩ hD6
        rw [tk]
        exact GrpsAt.snoc (e6.tup hu5) (((GrpsAt.ext hb e4).ext e5).ext e6)
      refine ⟨s, t1, g.map V.str, [.str w], rfl, rfl, sqt hs4, sqt h4, sz (by rw [List.length_map]; show _ + 1 ≤ _; omega), fun hx => ?_, fun _ hz => (by cases hz), fun hx _ => ?_⟩
      · have hg0 : g = [] := by cases g with | nil => rfl | cons a r => cases hx
        subst hg0
        exact fin t1 H4 Ext.refl h4
      · refine w_alc fun t2 H5 e5 n5 h5 => fin t2 H5 e5 ?_
        rw [h5, List.map_append]; rfl
    · rintro acc H3 ⟨e3, bs, rfl, hb⟩ hD
      have hbl : bs.length ≤ 128 := by
        rw [paired_len hb, List.length_map, List.length_take]
        have := paired_len hg
        omega
      refine w_cat (e3.keep _ _ hr2 List.not_mem_nil) hD (sz (by simp only [List.length_map]; omega)) ?_
      refine w_alc fun r' H4 e4 n4 h4 => ?_
      refine hN _ _ ⟨(e2.trans e3).trans e4, r', _, as ++ bs, rfl, by rw [h4, List.map_append], ?_⟩
      rw [List.take_add_one, hw, Option.toList_some, grpF_snoc]
      rw [List.length_map, paired_len hg, List.take_length] at hb
      exact GrpsAt.app ((GrpsAt.ext hg e3).ext e4) (GrpsAt.ext hb e4)
  · rintro σ' H2 ⟨e2, r, v, as, rfl, hr2, hg⟩
    walk_at "go"
    rw [List.length_map, List.take_length] at hg
    exact k r H2 as e2 hr2 hg

def lostS : Str := Str.ofString "lost"
def splitS : Str := Str.ofString "split"
def sp_unsafe_groups (K : PySem.W.Frag) : Sp := sp3 fun a b c H Q => ∃ (d : Addr) (ts : List (Str × Int)) (ack vote : Int), a = .ref d ∧ b = .int ack ∧ c = .int vote ∧ H d = some (.dK (kvW ts)) ∧ ts.length ≤ 7 ∧ (ts.map (·.1)).Nodup ∧
  ∀ ys : List Str, ys.Perm (ts.map (·.1)) → sortedS ys = true →
    (∀ H', Ext [] H H' → (∀ g ∈ grpF [[]] ys, ¬ (ack ≤ (g.map (wtOf ts)).sum ∧ vote ≤ ((restOf ys g).map (wtOf ts)).sum)) → (∀ g ∈ grpF [[]] ys, ¬ (vote ≤ (g.map (wtOf ts)).sum ∧ vote ≤ ((restOf ys g).map (wtOf ts)).sum)) → Q .non H') ∧
    (∀ (r x y : Addr) (g : List Str) (lo : Bool) H', Ext [] H H' → g ∈ grpF [[]] ys → H' r = some (.tup [.str (if lo = true then lostS else splitS), .ref x, .ref y]) → H' x = some (.tup (g.map V.str)) → H' y = some (.tup ((restOf ys g).map V.str)) →
      (lo = true → ack ≤ (g.map (wtOf ts)).sum) → (lo = false → vote ≤ (g.map (wtOf ts)).sum ∧ ∀ g ∈ grpF [[]] ys, ¬ (ack ≤ (g.map (wtOf ts)).sum ∧ vote ≤ ((restOf ys g).map (wtOf ts)).sum)) → vote ≤ ((restOf ys g).map (wtOf ts)).sum → Q (.ref r) H')
theorem ok_unsafe_groups (T : Txt K mg) : FnOk P w K mg base CX0 2 T.f_unsafe_groups T.d_unsafe_groups ["weights", "ack", "vote"] (sp_unsafe_groups K) := by
  refine T.F_unsafe_groups.ok sc_unsafe_groups len3 (fun cdv A outer s H vs Q E hr h => ?_)
  have nd := sc_unsafe_groups.nd
  have hu := hu_of hr
  obtain ⟨_, _, _, rfl, d, ts, ack, vote, rfl, rfl, rfl, hd, hl, hn, k⟩ := h
  refine ⟨_,
      (pss_cons (ps_set (i := 3) nd rfl (Or.inl rfl) (pe_callB (zc_sortD rfl) (by rfl) T.b_sorted (by decide +kernel) (pa_cons (pv 0) pa_nil))) 
      (pss_cons (ps_set (i := 4) nd rfl (Or.inl rfl) (pe_call (ok_all_groups T) (hr.mono (by decide)) (by rfl) T.g_all_groups T.F_all_groups.kp T.k_all_groups .nil pass0 (pa_cons (pv 3) pa_nil))) 
      (pss_cons (ps_for PassesOwn.never rfl (pi_tup (pe_tupZ (pa_cons (pe_tupZ (pa_cons pe_str (pa_cons (pv 1) pa_nil))) (pa_cons (pe_tupZ (pa_cons pe_str (pa_cons (pv 2) pa_nil))) pa_nil)))) (pg_tup (by rfl) (pgs_cons (pg_name (i := 5) nd rfl (Or.inl rfl)) (pgs_cons (pg_name (i := 6) nd rfl (Or.inl rfl)) pgs_nil))) 
        (pss_one (ps_for PassesOwn.never rfl (pi_list (pv 4)) (pg_name (i := 7) nd rfl (Or.inr rfl)) 
          (pss_cons (ps_set (i := 8) nd rfl (Or.inl rfl) (pe_callTy zc_tup (by rfl) T.b_tuple (by decide +kernel) (pa_cons (pe_lc (own := [("name", 9)]) rfl nd (pi_list (pv 3)) (blkOk_by (own := [("name", 9)]) (N := ["weights", "ack", "vote", "names", "groups", "word", "least", "group", "rest", "name"]) (sc := defScope s_unsafe_groups) (by decide +kernel)) (fun _ _ _ _ _ => (pg_name (i := 9) nd rfl (Or.inl rfl))) (fun _ _ _ _ _ => (pts_one (pt_cmpR (op_notIn_seqK (K := K) rfl) (pv 9) (pv 7) (by rfl)))) (fun _ _ _ _ _ => (pv 9))) pa_nil))) 
          (pss_one (ps_if (PW.pt (pw_and (pt_cmpR op_ge (pe_call (ok_weight_of_group T) (hr.mono (by decide)) (by rfl) T.g_weight_of_group T.F_weight_of_group.kp T.k_weight_of_group .nil pass0 (pa_cons (pv 0) (pa_cons (pv 7) pa_nil))) (pv 6) (nomark _)) (pw_and1 (pt_cmpR op_ge (pe_call (ok_weight_of_group T) (hr.mono (by decide)) (by rfl) T.g_weight_of_group T.F_weight_of_group.kp T.k_weight_of_group .nil pass0 (pa_cons (pv 0) (pa_cons (pv 8) pa_nil))) (pv 2) (nomark _))))) 
            (pss_one (ps_ret (pe_tupZ (pa_cons (pv 5) (pa_cons (pv 7) (pa_cons (pv 8) pa_nil)))))) pss_nil)))))) 
      (pss_one (ps_ret pe_non))))), ?_⟩
  change (_ : TS) _ [some _, some _, some _, none, none, none, none, none, none, none] _
  try dsimp only [cxOf, Cx.nox, Cx.wish]
  walk_at "go"
  refine w_sortD (ks := ts.map (·.1)) hd (kvs_names ts) (by rw [List.length_map]; omega) fun ys hys hso => w_alc fun q H1 e1 n1 h1 => ?_
  obtain ⟨kN, kS⟩ := k ys hys hso
  have hyl : ys.length ≤ 7 := by rw [hys.length_eq, List.length_map]; exact hl
  have hym : ∀ n ∈ ys, n ∈ ts.map (·.1) := fun n hn => hys.mem_iff.mp hn
  walk_at "go"
  refine w_sp1 ⟨q, ys, rfl, h1, hyl, fun r H2 as e2 h2 hg => ?_⟩
  have hal : as.length ≤ 128 := by
    rw [paired_len hg, grpF_len]
    have := pow7 hyl
    show 1 * 2 ^ ys.length ≤ 128
    omega
  walk_at "go"
  refine ⟨by show 2 ≤ sizeLine; decide, w_alc fun t1 H3 e3 n3 h3 => ?_⟩
  walk_at "go"
  refine ⟨by show 2 ≤ sizeLine; decide, w_alc fun t2 H4 e4 n4 h4 => ?_⟩
  walk_at "go"
  refine ⟨by show 2 ≤ sizeLine; decide, w_alc fun t0 H5 e5 n5 h5 => ?_⟩
  have E5 : Ext [] H H5 := (((e1.trans e2).trans e3).trans e4).trans e5
  have h1' := (((e2.trans e3).trans e4).trans e5).keep _ _ h1 List.not_mem_nil
  have h2' := ((e3.trans e4).trans e5).keep _ _ h2 List.not_mem_nil
  have hg' : GrpsAt H5 as (grpF [[]] ys) := ((hg.ext e3).ext e4).ext e5
  have h3' := e5.tup (e4.tup h3)
  have h4' := e5.tup h4
  refine ⟨_, rfl, ⟨_, sqt h5⟩, z_for_tup (xs := [V.ref t1, V.ref t2]) (fun i σ' H' => Ext [] H5 H' ∧ (∃ v5 v6 v7 v8 : Option V, σ' = [some (.ref d), some (.int ack), some (.int vote), some (.ref q), some (.ref r), v5, v6, v7, v8, none]) ∧
    (1 ≤ i → ∀ g ∈ grpF [[]] ys, ¬ (ack ≤ (g.map (wtOf ts)).sum ∧ vote ≤ ((restOf ys g).map (wtOf ts)).sum)) ∧ (2 ≤ i → ∀ g ∈ grpF [[]] ys, ¬ (vote ≤ (g.map (wtOf ts)).sum ∧ vote ≤ ((restOf ys g).map (wtOf ts)).sum))) ?_ ?_ ?_ ?_⟩
  · exact ⟨Ext.refl, ⟨_, _, _, _, rfl⟩, fun z => by omega, fun z => by omega⟩
  · rintro i σ' H' _ ⟨e, _⟩
    exact sqt (e.tup h5)
  · rintro N i x σ' H6 hx ⟨e6, ⟨v5, v6, v7, v8, rfl⟩, hL, hV⟩ hN
    -- one word: its name, its least weight
    obtain ⟨lo, tx, htx, rfl, hlo, fin⟩ : ∃ (lo : Bool) (tx : Addr), H6 tx = some (.tup [.str (if lo = true then lostS else splitS), .int (if lo = true then ack else vote)]) ∧ x = .ref tx ∧
        (lo = false → ∀ g ∈ grpF [[]] ys, ¬ (ack ≤ (g.map (wtOf ts)).sum ∧ vote ≤ ((restOf ys g).map (wtOf ts)).sum)) ∧
        ((∀ g ∈ grpF [[]] ys, ¬ ((if lo = true then ack else vote) ≤ (g.map (wtOf ts)).sum ∧ vote ≤ ((restOf ys g).map (wtOf ts)).sum)) → ∀ σ' H', (∃ v5 v6 v7 v8 : Option V, σ' = [some (.ref d), some (.int ack), some (.int vote), some (.ref q), some (.ref r), v5, v6, v7, v8, none]) → Ext [] H5 H' → N σ' H') := by
      match i, hx with
      | 0, hx => exact ⟨true, t1, e6.tup h3', (Option.some.inj hx).symm, fun z => (by cases z), fun h σ' H' hs he => hN _ _ ⟨he, hs, fun _ => h, fun z => by omega⟩⟩
      | 1, hx => exact ⟨false, t2, e6.tup h4', (Option.some.inj hx).symm, fun _ => hL (Nat.le_refl _), fun h σ' H' hs he => hN _ _ ⟨he, hs, fun _ => hL (Nat.le_refl _), fun _ => h⟩⟩
      | n + 2, hx => exact absurd hx (by simp)
    generalize hle : (if lo = true then ack else vote) = least at htx fin
    generalize hwo : (if lo = true then lostS else splitS) = word at htx
    walk_at "go"
    refine ⟨_, rfl, ⟨_, sql (e6.keep _ _ h2' List.not_mem_nil)⟩, z_for_list (xs := as.map V.ref) (fun j σ' H' => Ext [] H5 H' ∧ (∃ v7 v8 : Option V, σ' = [some (.ref d), some (.int ack), some (.int vote), some (.ref q), some (.ref r), some (.str word), some (.int least), v7, v8, none]) ∧
      ∀ g ∈ (grpF [[]] ys).take j, ¬ (least ≤ (g.map (wtOf ts)).sum ∧ vote ≤ ((restOf ys g).map (wtOf ts)).sum)) ?_ ?_ ?_ ?_⟩
    · exact ⟨e6, ⟨_, _, rfl⟩, fun g hg => nomatch hg⟩
    · rintro j σ' H' _ ⟨e, _⟩
      exact sql (e.keep _ _ h2' List.not_mem_nil)
    · rintro N2 j y σ' H7 hy ⟨e7, ⟨v7, v8, rfl⟩, hno⟩ hN2
      rw [List.getElem?_map, Option.map_eq_some_iff] at hy
      obtain ⟨a, ha, rfl⟩ := hy
      obtain ⟨g, hgj, hag⟩ := paired_at hg' ha
      have hgm := List.mem_of_getElem? hgj
      have hgs := grp_sublist hgm
      have hgl : g.length ≤ 7 := Nat.le_trans hgs.length_le hyl
      have ha7 := e7.tup hag
      have hq7 := e7.keep _ _ h1' List.not_mem_nil
      have hd5 : H5 d = some (.dK (kvW ts)) := E5.keep _ _ hd List.not_mem_nil
      walk_at "go"
      refine ⟨_, rfl, ⟨_, sql hq7⟩, fun D nD => z_lc_list (xs := ys.map V.str) (fun m acc H' => Ext [] H7 H' ∧ acc = (restOf (ys.take m) g).map V.str) nD (fun H' e => ⟨e, rfl⟩) ?_ ?_ ?_⟩
      · rintro m acc H' _ ⟨e, _⟩
        exact sql (e.keep _ _ hq7 List.not_mem_nil)
      · rintro Nx m y acc H8 hy ⟨e8, rfl⟩ hD hNx
        rw [List.getElem?_map, Option.map_eq_some_iff] at hy
        obtain ⟨n, hn, rfl⟩ := hy
        have hm : m < ys.length := (List.getElem?_eq_some_iff.mp hn).1
        have hrl : (restOf (ys.take m) g).length ≤ 7 := by
          have := List.length_filter_le (fun n => !decide (n ∈ g)) (ys.take m)
          rw [List.length_take] at this
          unfold restOf
          omega
        walk_at "go"
        refine ⟨rfl, ?_⟩
        walk_at "go"
        refine w_ninS (ns := g) (.inr (sqt (e8.tup ha7))) ?_
        refine w_bl ?_
        refine w_nd (fun h => ?_) fun h => ?_ <;> walk_at "go"
        · refine w_app hD (szl (by rw [List.length_map]; omega)) fun H9 e9 hD9 => ?_
          refine hNx _ _ ⟨e8.dropq e9 nD, ?_⟩ hD9
          unfold restOf
          rw [List.take_add_one, hn, Option.toList_some, List.filter_append, List.map_append]
          rw [show [n].filter (fun n => !decide (n ∈ g)) = [n] by simp [h]]
          rfl
        · refine hNx _ _ ⟨e8, ?_⟩ hD
          unfold restOf
          rw [List.take_add_one, hn, Option.toList_some, List.filter_append]
          rw [show [n].filter (fun n => !decide (n ∈ g)) = [] by simp [h]]
          rw [List.append_nil]
      · rintro acc H8 ⟨e8, rfl⟩ hD
        rw [List.length_map, List.take_length] at hD
        refine w_tupL (sql hD) (w_alc fun tr H9 e9 n9 h9 => ?_)
        have hrs : ∀ n ∈ restOf ys g, n ∈ ys := fun n hn => (List.mem_filter.mp hn).1
        have hrl : (restOf ys g).length ≤ 7 := Nat.le_trans (List.length_filter_le _ _) hyl
        have E9 : Ext [] H5 H9 := (e7.trans e8).trans e9
        walk_at "go"
        refine w_cut (fun σ' H' => Ext [] H5 H' ∧ (∃ v7 v8 : Option V, σ' = [some (.ref d), some (.int ack), some (.int vote), some (.ref q), some (.ref r), some (.str word), some (.int least), v7, v8, none]) ∧ ¬ (least ≤ (g.map (wtOf ts)).sum ∧ vote ≤ ((restOf ys g).map (wtOf ts)).sum)) ?_ fun nx hnx => ?_
        · rintro σ' H' ⟨e', hs', hno'⟩
          refine hN2 _ _ ⟨e', hs', fun g2 hg2 => ?_⟩
          rw [List.take_add_one, hgj] at hg2
          rcases List.mem_append.mp hg2 with z | z
          · exact hno g2 z
          · rw [Option.toList_some, List.mem_singleton] at z
            subst z
            exact hno'
        · walk_at "if"
          refine w_sp2 ⟨d, a, ts, g, rfl, rfl, E9.keep _ _ hd5 List.not_mem_nil, e9.tup (e8.tup ha7), fun n hn => hym n (hgs.subset hn), hgl, fun H10 e10 => ?_⟩
          walk_at "go"
          refine w_d (fun c1 => ?_) fun c1 => ?_ <;> walk_at "go"
          · refine w_sp2 ⟨d, tr, ts, restOf ys g, rfl, rfl, (E9.trans e10).keep _ _ hd5 List.not_mem_nil, e10.tup h9, fun n hn => hym n (hrs n hn), hrl, fun H11 e11 => ?_⟩
            walk_at "go"
            refine w_d (fun c2 => ?_) fun c2 => ?_ <;> walk_at "go"
            · refine ⟨by show 3 ≤ sizeLine; decide, w_alc fun tf H12 e12 n12 h12 => ?_⟩
              have E12 : Ext [] H H12 := E5.trans (((E9.trans e10).trans e11).trans e12)
              refine kS tf a tr g lo H12 E12 hgm (by rw [hwo]; exact h12) (e12.tup (e11.tup (e10.tup (e9.tup (e8.tup ha7))))) (e12.tup (e11.tup (e10.tup h9))) (fun z => ?_) (fun z => ?_) c2
              · rw [z] at hle; simp only [if_true] at hle; rw [hle]; exact c1
              · refine ⟨?_, hlo z⟩
                rw [z] at hle; simp only [Bool.false_eq_true, if_false] at hle; rw [hle]; exact c1
            · exact hnx _ _ ⟨(E9.trans e10).trans e11, ⟨_, _, rfl⟩, fun z => c2 z.2⟩
          · exact hnx _ _ ⟨E9.trans e10, ⟨_, _, rfl⟩, fun z => c1 z.1⟩
    · rintro σ' H7 ⟨e7, ⟨v7, v8, rfl⟩, hno⟩
      rw [List.length_map, paired_len hg', List.take_length] at hno
      exact fin hno _ _ ⟨_, _, _, _, rfl⟩ e7
  · rintro σ' H' ⟨e, ⟨v5, v6, v7, v8, rfl⟩, hL, hV⟩
    walk_at "go"
    exact kN _ (E5.trans e) (hL (Nat.le_succ 1)) (hV (Nat.le_refl 2))

/-! ### comparing -/
def sp_same_no (K : PySem.W.Frag) : Sp := fun _ _ _ _ => False
theorem ok_same_no (T : Txt K mg) : FnOk P w K mg base CX0 0 T.f__law_same T.d__law_same ["answer", "due"] (sp_same_no K) := ⟨fun _ _ _ _ h => h.elim, fun _ _ _ _ _ _ _ _ _ _ _ _ _ h => h.elim⟩
def sp_same0 (K : PySem.W.Frag) : Sp := sp2 fun a b H Q => ((∃ i, a = .int i ∧ b = .int i) ∨ (∃ z, a = .str z ∧ b = .str z)) ∧ Q (.bl true) H
theorem ok_same0 (T : Txt K mg) : FnOk P w K mg base CX0 1 T.f__law_same T.d__law_same ["answer", "due"] (sp_same0 K) := by
  refine T.F__law_same.ok sc_law_same len2 (fun cdv A outer s H vs Q E hr h => ?_)
  have nd := sc_law_same.nd
  have hu := hu_of hr
  obtain ⟨a, b, rfl, h, k⟩ := h
  refine ⟨_,
      (pss_cons (ps_if (PW.pt (pw_or (pt_cmpR zop_isN (pv 1) pe_non (nomark _)) (pw_or (pt_cmpR zop_isB (pv 1) pe_bl (nomark _)) (pw_or1 (pt_cmpR zop_isB (pv 1) pe_bl (nomark _)))))) 
        (pss_one (ps_ret (pe_or (pe_and (pe_cmpR zop_isN (pv 1) pe_non (nomark _)) (pe_one (pe_cmpR zop_isN (pv 0) pe_non (nomark _)))) (pe_or (pe_and (pe_cmpR zop_isB (pv 1) pe_bl (nomark _)) (pe_one (pe_cmpR zop_isB (pv 0) pe_bl (nomark _)))) (pe_one (pe_and (pe_cmpR zop_isB (pv 1) pe_bl (nomark _)) (pe_one (pe_cmpR zop_isB (pv 0) pe_bl (nomark _))))))))) pss_nil) 
      (pss_cons (ps_if (pt_val (pe_callB call_isi (by rfl) T.b_isinstance (by decide +kernel) (pa_cons (pv 1) (pa_cons (pe_bltn (v := .ty "int") (by rfl) T.b_int (by decide +kernel) rfl) pa_nil)))) 
        (pss_one (ps_ret (pe_and (pe_callB call_isi (by rfl) T.b_isinstance (by decide +kernel) (pa_cons (pv 0) (pa_cons (pe_bltn (v := .ty "int") (by rfl) T.b_int (by decide +kernel) rfl) pa_nil))) (pe_and (pe_not (pe_callB call_isi (by rfl) T.b_isinstance (by decide +kernel) (pa_cons (pv 0) (pa_cons (pe_bltn (v := .ty "bool") (by rfl) T.b_bool (by decide +kernel) rfl) pa_nil)))) (pe_one (pe_cmpR op_eq (pv 0) (pv 1) (nomark _))))))) pss_nil) 
      (pss_cons (ps_if (pt_val (pe_callB call_isi (by rfl) T.b_isinstance (by decide +kernel) (pa_cons (pv 1) (pa_cons (pe_bltn (v := .ty "str") (by rfl) T.b_str (by decide +kernel) rfl) pa_nil)))) 
        (pss_one (ps_ret (pe_and (pe_callB call_isi (by rfl) T.b_isinstance (by decide +kernel) (pa_cons (pv 0) (pa_cons (pe_bltn (v := .ty "str") (by rfl) T.b_str (by decide +kernel) rfl) pa_nil))) (pe_one (pe_cmpR op_eq (pv 0) (pv 1) (nomark _)))))) pss_nil) 
      (pss_cons (ps_if (pt_val (pe_callB call_isi (by rfl) T.b_isinstance (by decide +kernel) (pa_cons (pv 1) (pa_cons (pe_bltn (v := .ty "dict") (by rfl) T.b_dict (by decide +kernel) rfl) pa_nil)))) 
        (pss_cons (ps_if (PW.pt (pw_or (pt_not (pt_val (pe_callB call_isi (by rfl) T.b_isinstance (by decide +kernel) (pa_cons (pv 0) (pa_cons (pe_bltn (v := .ty "dict") (by rfl) T.b_dict (by decide +kernel) rfl) pa_nil))))) (pw_or1 (pt_cmpR op_ne (pe_callB zc_lenD (by rfl) T.b_len (by decide +kernel) (pa_cons (pv 0) pa_nil)) (pe_callB zc_lenD (by rfl) T.b_len (by decide +kernel) (pa_cons (pv 1) pa_nil)) (nomark _))))) 
          (pss_one (ps_ret pe_bl)) pss_nil) 
        (pss_cons (ps_lock (ps_for PassesOwn.never rfl (pi_keys (pv 1)) (pg_name (i := 2) nd rfl (Or.inl rfl)) 
          (pss_one (ps_if (PW.pt (pw_or (pt_cmp (pc_dnotin hu (pv 2) (pv 0))) (pw_or1 (pt_not (pt_val (pe_call (ok_same_no T) (hr.mono (by decide)) (by rfl) T.g__law_same T.F__law_same.kp T.k__law_same .nil pass0 (pa_cons (pe_dget hu (pv 0) (pv 2) (fun _ _ => rfl)) (pa_cons (pe_dget hu (pv 1) (pv 2) (fun _ _ => rfl)) pa_nil)))))))) 
            (pss_one (ps_ret pe_bl)) pss_nil)))) 
        (pss_one (ps_ret pe_bl)))) pss_nil) 
      (pss_cons (ps_if (PW.pt (pw_and (pt_val (pe_callB call_isi (by rfl) T.b_isinstance (by decide +kernel) (pa_cons (pv 1) (pa_cons (pe_bltn (v := .ty "tuple") (by rfl) T.b_tuple (by decide +kernel) rfl) pa_nil)))) (pw_and1 (pt_not (pt_val (pe_callB call_isi (by rfl) T.b_isinstance (by decide +kernel) (pa_cons (pv 0) (pa_cons (pe_bltn (v := .ty "tuple") (by rfl) T.b_tuple (by decide +kernel) rfl) pa_nil)))))))) 
        (pss_one (ps_ret pe_bl)) pss_nil) 
      (pss_cons (ps_if (PW.pt (pw_and (pt_val (pe_callB call_isi (by rfl) T.b_isinstance (by decide +kernel) (pa_cons (pv 1) (pa_cons (pe_bltn (v := .ty "list") (by rfl) T.b_list (by decide +kernel) rfl) pa_nil)))) (pw_and1 (pt_not (pt_val (pe_callB call_isi (by rfl) T.b_isinstance (by decide +kernel) (pa_cons (pv 0) (pa_cons (pe_bltn (v := .ty "list") (by rfl) T.b_list (by decide +kernel) rfl) pa_nil)))))))) 
        (pss_one (ps_ret pe_bl)) pss_nil) 
      (pss_cons (ps_if (pt_cmpR op_ne (pe_callB zc_lenD (by rfl) T.b_len (by decide +kernel) (pa_cons (pv 0) pa_nil)) (pe_callB zc_lenD (by rfl) T.b_len (by decide +kernel) (pa_cons (pv 1) pa_nil)) (nomark _)) 
        (pss_one (ps_ret pe_bl)) pss_nil) 
      (pss_cons (ps_for PassesOwn.never rfl (pi_range1 (by rfl) T.b_range (pa_cons (pe_callB zc_lenD (by rfl) T.b_len (by decide +kernel) (pa_cons (pv 1) pa_nil)) pa_nil)) (pg_name (i := 3) nd rfl (Or.inl rfl)) 
        (pss_one (ps_if (pt_not (pt_val (pe_call (ok_same_no T) (hr.mono (by decide)) (by rfl) T.g__law_same T.F__law_same.kp T.k__law_same .nil pass0 (pa_cons (pe_ix ix_tup (pv 0) (pv 3) (fun _ _ => rfl)) (pa_cons (pe_ix ix_tup (pv 1) (pv 3) (fun _ _ => rfl)) pa_nil))))) 
          (pss_one (ps_ret pe_bl)) pss_nil))) 
      (pss_one (ps_ret pe_bl)))))))))), ?_⟩
  change (_ : TS) _ [some _, some _, none, none] _
  try dsimp only [cxOf, Cx.nox, Cx.wish]
  rcases h with ⟨i, rfl, rfl⟩ | ⟨z, rfl, rfl⟩
  · walk_at "go"; walk_at "if"
    refine w_f rfl ?_; walk_at "go"; refine w_f rfl ?_; walk_at "go"; refine w_f rfl ?_; walk_at "go"; walk_at "if"
    refine w_isi (k := true) (.ty _) (.base (.int _)) (kit_ty (by decide +kernel)) ?_
    walk_at "go"
    refine w_isi (k := true) (.ty _) (.base (.int _)) (kit_ty (by decide +kernel)) ?_
    refine w_bl ?_
    walk_at "go"
    refine w_isi (k := false) (.ty _) (.base (.int _)) (kit_ty (by decide +kernel)) ?_
    refine w_bl ?_
    walk_at "go"
    rw [decide_eq_true rfl]
    exact k
  · walk_at "go"; walk_at "if"
    refine w_f rfl ?_; walk_at "go"; refine w_f rfl ?_; walk_at "go"; refine w_f rfl ?_; walk_at "go"; walk_at "if"
    refine w_isi (k := false) (.ty _) (.base (.str _)) (kit_ty (by decide +kernel)) ?_
    walk_at "go"; walk_at "if"
    refine w_isi (k := true) (.ty _) (.base (.str _)) (kit_ty (by decide +kernel)) ?_
    walk_at "go"
    refine w_isi (k := true) (.ty _) (.base (.str _)) (kit_ty (by decide +kernel)) ?_
    refine w_bl ?_
    walk_at "go"
    rw [decide_eq_true rfl]
    exact k
/-- two dicts with the same pairs -/
def sp_law_same (K : PySem.W.Frag) : Sp := sp2 fun a b H Q => ((∃ z, a = .str z ∧ b = .str z ∧ Q (.bl true) H) ∨ ∃ (p q : Addr) (ts : List (Str × Int)), a = .ref p ∧ b = .ref q ∧ p ≠ q ∧ H p = some (.dK (kvW ts)) ∧ H q = some (.dK (kvW ts)) ∧ ∀ H', Ext [] H H' → Q (.bl true) H')
theorem ok_law_same (T : Txt K mg) : FnOk P w K mg base CX0 2 T.f__law_same T.d__law_same ["answer", "due"] (sp_law_same K) := by
  refine T.F__law_same.ok sc_law_same len2 (fun cdv A outer s H vs Q E hr h => ?_)
  have nd := sc_law_same.nd
  have hu := hu_of hr
  obtain ⟨a, b, rfl, h⟩ := h
  refine ⟨_,
      (pss_cons (ps_if (PW.pt (pw_or (pt_cmpR zop_isN (pv 1) pe_non (nomark _)) (pw_or (pt_cmpR zop_isB (pv 1) pe_bl (nomark _)) (pw_or1 (pt_cmpR zop_isB (pv 1) pe_bl (nomark _)))))) 
        (pss_one (ps_ret (pe_or (pe_and (pe_cmpR zop_isN (pv 1) pe_non (nomark _)) (pe_one (pe_cmpR zop_isN (pv 0) pe_non (nomark _)))) (pe_or (pe_and (pe_cmpR zop_isB (pv 1) pe_bl (nomark _)) (pe_one (pe_cmpR zop_isB (pv 0) pe_bl (nomark _)))) (pe_one (pe_and (pe_cmpR zop_isB (pv 1) pe_bl (nomark _)) (pe_one (pe_cmpR zop_isB (pv 0) pe_bl (nomark _))))))))) pss_nil) 
      (pss_cons (ps_if (pt_val (pe_callB call_isi (by rfl) T.b_isinstance (by decide +kernel) (pa_cons (pv 1) (pa_cons (pe_bltn (v := .ty "int") (by rfl) T.b_int (by decide +kernel) rfl) pa_nil)))) 
        (pss_one (ps_ret (pe_and (pe_callB call_isi (by rfl) T.b_isinstance (by decide +kernel) (pa_cons (pv 0) (pa_cons (pe_bltn (v := .ty "int") (by rfl) T.b_int (by decide +kernel) rfl) pa_nil))) (pe_and (pe_not (pe_callB call_isi (by rfl) T.b_isinstance (by decide +kernel) (pa_cons (pv 0) (pa_cons (pe_bltn (v := .ty "bool") (by rfl) T.b_bool (by decide +kernel) rfl) pa_nil)))) (pe_one (pe_cmpR op_eq (pv 0) (pv 1) (nomark _))))))) pss_nil) 
      (pss_cons (ps_if (pt_val (pe_callB call_isi (by rfl) T.b_isinstance (by decide +kernel) (pa_cons (pv 1) (pa_cons (pe_bltn (v := .ty "str") (by rfl) T.b_str (by decide +kernel) rfl) pa_nil)))) 
        (pss_one (ps_ret (pe_and (pe_callB call_isi (by rfl) T.b_isinstance (by decide +kernel) (pa_cons (pv 0) (pa_cons (pe_bltn (v := .ty "str") (by rfl) T.b_str (by decide +kernel) rfl) pa_nil))) (pe_one (pe_cmpR op_eq (pv 0) (pv 1) (nomark _)))))) pss_nil) 
      (pss_cons (ps_if (pt_val (pe_callB call_isi (by rfl) T.b_isinstance (by decide +kernel) (pa_cons (pv 1) (pa_cons (pe_bltn (v := .ty "dict") (by rfl) T.b_dict (by decide +kernel) rfl) pa_nil)))) 
        (pss_cons (ps_if (PW.pt (pw_or (pt_not (pt_val (pe_callB call_isi (by rfl) T.b_isinstance (by decide +kernel) (pa_cons (pv 0) (pa_cons (pe_bltn (v := .ty "dict") (by rfl) T.b_dict (by decide +kernel) rfl) pa_nil))))) (pw_or1 (pt_cmpR op_ne (pe_callB zc_lenD (by rfl) T.b_len (by decide +kernel) (pa_cons (pv 0) pa_nil)) (pe_callB zc_lenD (by rfl) T.b_len (by decide +kernel) (pa_cons (pv 1) pa_nil)) (nomark _))))) 
          (pss_one (ps_ret pe_bl)) pss_nil) 
        (pss_cons (ps_lock (ps_for PassesOwn.never rfl (pi_keys (pv 1)) (pg_name (i := 2) nd rfl (Or.inl rfl)) 
          (pss_one (ps_if (PW.pt (pw_or (pt_cmp (pc_dnotin hu (pv 2) (pv 0))) (pw_or1 (pt_not (pt_val (pe_call (ok_same0 T) (hr.mono (by decide)) (by rfl) T.g__law_same T.F__law_same.kp T.k__law_same .nil pass0 (pa_cons (pe_dget hu (pv 0) (pv 2) (fun _ _ => rfl)) (pa_cons (pe_dget hu (pv 1) (pv 2) (fun _ _ => rfl)) pa_nil)))))))) 
            (pss_one (ps_ret pe_bl)) pss_nil)))) 
        (pss_one (ps_ret pe_bl)))) pss_nil) 
      (pss_cons (ps_if (PW.pt (pw_and (pt_val (pe_callB call_isi (by rfl) T.b_isinstance (by decide +kernel) (pa_cons (pv 1) (pa_cons (pe_bltn (v := .ty "tuple") (by rfl) T.b_tuple (by decide +kernel) rfl) pa_nil)))) (pw_and1 (pt_not (pt_val (pe_callB call_isi (by rfl) T.b_isinstance (by decide +kernel) (pa_cons (pv 0) (pa_cons (pe_bltn (v := .ty "tuple") (by rfl) T.b_tuple (by decide +kernel) rfl) pa_nil)))))))) 
        (pss_one (ps_ret pe_bl)) pss_nil) 
      (pss_cons (ps_if (PW.pt (pw_and (pt_val (pe_callB call_isi (by rfl) T.b_isinstance (by decide +kernel) (pa_cons (pv 1) (pa_cons (pe_bltn (v := .ty "list") (by rfl) T.b_list (by decide +kernel) rfl) pa_nil)))) (pw_and1 (pt_not (pt_val (pe_callB call_isi (by rfl) T.b_isinstance (by decide +kernel) (pa_cons (pv 0) (pa_cons (pe_bltn (v := .ty "list") (by rfl) T.b_list (by decide +kernel) rfl) pa_nil)))))))) 
        (pss_one (ps_ret pe_bl)) pss_nil) 
      (pss_cons (ps_if (pt_cmpR op_ne (pe_callB zc_lenD (by rfl) T.b_len (by decide +kernel) (pa_cons (pv 0) pa_nil)) (pe_callB zc_lenD (by rfl) T.b_len (by decide +kernel) (pa_cons (pv 1) pa_nil)) (nomark _)) 
        (pss_one (ps_ret pe_bl)) pss_nil) 
      (pss_cons (ps_for PassesOwn.never rfl (pi_range1 (by rfl) T.b_range (pa_cons (pe_callB zc_lenD (by rfl) T.b_len (by decide +kernel) (pa_cons (pv 1) pa_nil)) pa_nil)) (pg_name (i := 3) nd rfl (Or.inl rfl)) 
        (pss_one (ps_if (pt_not (pt_val (pe_call (ok_same0 T) (hr.mono (by decide)) (by rfl) T.g__law_same T.F__law_same.kp T.k__law_same .nil pass0 (pa_cons (pe_ix ix_tup (pv 0) (pv 3) (fun _ _ => rfl)) (pa_cons (pe_ix ix_tup (pv 1) (pv 3) (fun _ _ => rfl)) pa_nil))))) 
          (pss_one (ps_ret pe_bl)) pss_nil))) 
      (pss_one (ps_ret pe_bl)))))))))), ?_⟩
  change (_ : TS) _ [some _, some _, none, none] _
  try dsimp only [cxOf, Cx.nox, Cx.wish]
  rcases h with ⟨z, rfl, rfl, k⟩ | ⟨p, q, ts, rfl, rfl, npq, hp, hq, k⟩
  · walk_at "go"; walk_at "if"
    refine w_f rfl ?_; walk_at "go"; refine w_f rfl ?_; walk_at "go"; refine w_f rfl ?_; walk_at "go"; walk_at "if"
    refine w_isi (k := false) (.ty _) (.base (.str _)) (kit_ty (by decide +kernel)) ?_
    walk_at "go"; walk_at "if"
    refine w_isi (k := true) (.ty _) (.base (.str _)) (kit_ty (by decide +kernel)) ?_
    walk_at "go"
    refine w_isi (k := true) (.ty _) (.base (.str _)) (kit_ty (by decide +kernel)) ?_
    refine w_bl ?_
    walk_at "go"
    rw [decide_eq_true rfl]
    exact k
  · walk_at "go"; walk_at "if"
    refine w_f rfl ?_; walk_at "go"; refine w_f rfl ?_; walk_at "go"; refine w_f rfl ?_; walk_at "go"; walk_at "if"
    refine w_isi (k := false) (.ty _) (.base (.dK hq)) (kit_ty (by decide +kernel)) ?_
    walk_at "go"; walk_at "if"
    refine w_isi (k := false) (.ty _) (.base (.dK hq)) (kit_ty (by decide +kernel)) ?_
    walk_at "go"; walk_at "if"
    refine w_isi (k := true) (.ty _) (.base (.dK hq)) (kit_ty (by decide +kernel)) ?_
    walk_at "go"; walk_at "if"
    refine w_isi (k := true) (.ty _) (.base (.dK hp)) (kit_ty (by decide +kernel)) ?_
    walk_at "go"
    refine w_f (by simp) ?_
    walk_at "go"
    refine w_lock hq trivial (fun z => z) fun od H1 L => ?_
    walk_at "go"
    refine w_keysV rfl L.at ?_
    refine z_for_keys (fun i σ' H' => Ext [] H1 H' ∧ ∃ v, σ' = [some (.ref p), some (.ref q), v, none]) ⟨Ext.refl, _, rfl⟩ (fun i σ' H' _ ⟨e, _⟩ => e.imm _ _ L.at trivial) ?_ ?_
    · rintro N i ky v σ' H2 hk ⟨e2, v', rfl⟩ hN
      unfold kvW at hk
      rw [List.getElem?_map, Option.map_eq_some_iff] at hk
      obtain ⟨t, ht, ek⟩ := hk
      cases ek
      have hm : t.1 ∈ ts.map (·.1) := List.mem_map.mpr ⟨t, List.mem_of_getElem? ht, rfl⟩
      have hp2 : H2 p = some (.dK (kvW ts)) := e2.keep _ _ (L.keep hp npq) List.not_mem_nil
      have hq2 := e2.imm _ _ L.at trivial
      walk_at "go"; walk_at "if"
      refine w_dinS (z := t.1) (.inl hp2) ?_
      rw [wt_val hm]
      walk_at "go"
      refine w_f rfl ?_
      walk_at "go"
      refine w_dgetS (z := t.1) hp2 (wt_val hm) ?_
      walk_at "go"
      refine w_dgetR (z := t.1) (.inr ⟨od, hq2⟩) (wt_val hm) ?_
      walk_at "go"
      refine w_sp2 ⟨.inl ⟨_, rfl, rfl⟩, ?_⟩
      walk_at "go"
      exact hN _ _ ⟨e2, _, rfl⟩
    · rintro σ' H2 ⟨e2, v', rfl⟩
      refine w_unlock L e2 fun H3 e3 _ => ?_
      walk_at "go"
      exact k _ e3
/-! ### a told group -/
def sp_law_group (K : PySem.W.Frag) : Sp := sp2 fun a b H Q => ∃ (d g : Addr) (ts : List (Str × Int)) (ns : List Str), a = .ref d ∧ b = .ref g ∧ H d = some (.dK (kvW ts)) ∧ H g = some (.tup (ns.map V.str)) ∧ (∀ n ∈ ns, n ∈ ts.map (·.1)) ∧ ns.length ≤ 7 ∧ ns.Pairwise (fun a b => a.cps.toList < b.cps.toList) ∧
  ∀ H', Ext [] H H' → Q (.bl true) H'
theorem ok_law_group (T : Txt K mg) : FnOk P w K mg base CX0 1 T.f__law_group T.d__law_group ["weights", "group"] (sp_law_group K) := by
  refine T.F__law_group.ok sc_law_group len2 (fun cdv A outer s H vs Q E hr h => ?_)
  have nd := sc_law_group.nd
  have hu := hu_of hr
  obtain ⟨_, _, rfl, d, g, ts, ns, rfl, rfl, hd, hg, hm, hl, hpw, k⟩ := h
  refine ⟨_,
      (pss_cons (ps_if (pt_not (pt_val (pe_callB call_isi (by rfl) T.b_isinstance (by decide +kernel) (pa_cons (pv 1) (pa_cons (pe_bltn (v := .ty "tuple") (by rfl) T.b_tuple (by decide +kernel) rfl) pa_nil))))) 
        (pss_one (ps_ret pe_bl)) pss_nil) 
      (pss_cons (ps_for PassesOwn.never rfl (pi_range1 (by rfl) T.b_range (pa_cons (pe_callB zc_len (by rfl) T.b_len (by decide +kernel) (pa_cons (pv 1) pa_nil)) pa_nil)) (pg_name (i := 2) nd rfl (Or.inl rfl)) 
        (pss_one (ps_if (PW.pt (pw_or (pt_not (pt_val (pe_callB call_isi (by rfl) T.b_isinstance (by decide +kernel) (pa_cons (pe_ix ix_tup (pv 1) (pv 2) (fun _ _ => rfl)) (pa_cons (pe_bltn (v := .ty "str") (by rfl) T.b_str (by decide +kernel) rfl) pa_nil))))) (pw_or (pt_cmp (pc_dnotin hu (pe_ix ix_tup (pv 1) (pv 2) (fun _ _ => rfl)) (pv 0))) (pw_or1 (PW.pt (pw_and (pt_cmpR op_gt (pv 2) pe_int (nomark _)) (pw_and1 (pt_not (pt_cmpR zop_ltS (pe_ix ix_tup (pv 1) (pe_op op_sub (pv 2) pe_int) (fun _ _ => rfl)) (pe_ix ix_tup (pv 1) (pv 2) (fun _ _ => rfl)) (nomark _)))))))))) 
          (pss_one (ps_ret pe_bl)) pss_nil))) 
      (pss_one (ps_ret pe_bl)))), ?_⟩
  change (_ : TS) _ [some _, some _, none] _
  try dsimp only [cxOf, Cx.nox, Cx.wish]
  walk_at "go"; walk_at "if"
  refine w_isi (k := true) (.ty _) (.base (.tup hg)) (kit_ty (by decide +kernel)) ?_
  walk_at "go"
  refine ⟨_, rfl, by omega, by rw [List.length_map]; omega, z_for_range (lo := 0) (fun i σ' H' => H = H' ∧ ∃ v, σ' = [some (.ref d), some (.ref g), v]) ⟨rfl, _, rfl⟩ ?_ ?_⟩
  · rintro N i σ' H' hi ⟨rfl, v, rfl⟩ hN
    rw [List.length_map] at hi
    have hi : i < ns.length := by omega
    obtain ⟨n, hn⟩ : ∃ n, ns[i]? = some n := ⟨_, List.getElem?_eq_getElem hi⟩
    have hnv : (ns.map V.str)[i]? = some (.str n) := by rw [List.getElem?_map, hn]; rfl
    walk_at "go"; walk_at "if"
    refine w_ixT (sqt hg) (at_nat0 hnv) ?_
    walk_at "go"
    refine w_isi (k := true) (.ty _) (.base (.str _)) (kit_ty (by decide +kernel)) ?_
    walk_at "go"
    refine w_ixT (sqt hg) (at_nat0 hnv) ?_
    walk_at "go"
    refine w_dinS (z := n) (.inl hd) ?_
    rw [wt_val (hm n (List.mem_of_getElem? hn))]
    walk_at "go"
    refine w_f rfl ?_
    walk_at "go"
    refine w_d (fun h0 => ?_) fun h0 => ?_ <;> walk_at "go"
    · obtain ⟨m, hm'⟩ : ∃ m, ns[i - 1]? = some m := ⟨_, List.getElem?_eq_getElem (by omega)⟩
      have hmv : (ns.map V.str)[i - 1]? = some (.str m) := by rw [List.getElem?_map, hm']; rfl
      have e1 : (0 + (i : Int) - 1) = (0 + ((i - 1 : Nat) : Int)) := by omega
      rw [e1]
      refine w_ixT (sqt hg) (at_nat0 hmv) ?_
      walk_at "go"
      refine w_ixT (sqt hg) (at_nat0 hnv) ?_
      walk_at "go"
      have hlt : m.cps.toList < n.cps.toList := by
        obtain ⟨h1, e2⟩ := List.getElem?_eq_some_iff.mp hm'
        obtain ⟨h2, e3⟩ := List.getElem?_eq_some_iff.mp hn
        rw [← e2, ← e3]
        exact List.pairwise_iff_getElem.mp hpw _ _ h1 h2 (by omega)
      refine w_f (by rw [decide_eq_true hlt]; rfl) ?_
      walk_at "go"
      exact hN _ _ ⟨rfl, _, rfl⟩
    · exact hN _ _ ⟨rfl, _, rfl⟩
  · rintro σ' H' ⟨rfl, v, rfl⟩
    walk_at "go"
    exact k _ Ext.refl

/-! ### the law -/
def sp_law (K : PySem.W.Frag) : Sp := sp1 fun a H Q => ∃ (sc : Addr) (ns : List Int), a = .ref sc ∧ Scr K H sc (ns.map V.int) ∧ ns.length ≤ 63 ∧ ∀ H', Q (.bl true) H'
theorem start_law {H : Hp} {a : Addr} {ns : List Int} (hO : Only H) (hl : ns.length ≤ 63) (hS : SqL K H a (ns.map V.int)) : sp_law K [.ref a] H (fun v _ => v = .bl true) (fun _ _ _ => False) :=
  ⟨_, rfl, a, ns, rfl, Scr.of hO hS, hl, fun _ => rfl⟩
theorem put_new {kvs : List (Key × V)} {n : Str} {v : V} (h : (Sum.inr n : Key) ∉ kvs.map (·.1)) : putK kvs (Sum.inr n) v = kvs ++ [(Sum.inr n, v)] := by
  unfold putK
  rw [if_neg]
  intro z
  obtain ⟨p, hp, e⟩ := List.any_eq_true.mp z
  exact h (List.mem_map.mpr ⟨p, hp, of_decide_eq_true e⟩)
theorem sum_bounds : ∀ {ws : List Int}, (∀ w ∈ ws, 1 ≤ w ∧ w ≤ 9) → (ws.length : Int) ≤ ws.sum ∧ ws.sum ≤ 9 * ws.length
  | [], _ => ⟨Int.le_refl _, Int.le_refl _⟩
  | w :: ws, h => by
    obtain ⟨a, b⟩ := sum_bounds (ws := ws) fun x hx => h x (List.mem_cons_of_mem _ hx)
    obtain ⟨c, d⟩ := h w List.mem_cons_self
    rw [List.sum_cons, List.length_cons]
    omega
theorem ok_law (T : Txt K mg) : FnOk P w K mg base CX0 7 T.f_law T.d_law ["script"] (sp_law K) := by
  refine T.F_law.ok sc_law len1 (fun cdv A outer s H vs Q E hr h => ?_)
  have nd := sc_law.nd
  have hu := hu_of hr
  obtain ⟨_, rfl, sc, ns, rfl, hS, hl, k⟩ := h
  refine ⟨_,
      (pss_cons (ps_set (i := 1) nd rfl (Or.inl rfl) (pe_call (ok_law_pool T) (hr.mono (by decide)) (by rfl) T.g__law_pool T.F__law_pool.kp T.k__law_pool .nil pass0 (pa_cons (pv 0) pa_nil))) 
      (pss_cons (ps_set (i := 2) nd rfl (Or.inr rfl) pe_dnewKZ) 
      (pss_cons (ps_for PassesOwn.never rfl (pi_list (pe_call (ok_law_nodes T) (hr.mono (by decide)) (by rfl) T.g__law_nodes T.F__law_nodes.kp T.k__law_nodes .nil pass0 (pa_cons (pv 1) (pa_cons pe_int pa_nil)))) (pg_tup (by rfl) (pgs_cons (pg_name (i := 3) nd rfl (Or.inl rfl)) (pgs_cons (pg_name (i := 4) nd rfl (Or.inl rfl)) (pgs_cons (pg_name (i := 5) nd rfl (Or.inl rfl)) pgs_nil)))) 
        (pss_one (ps_dput hu (pv 2) (pv 3) (pv 4) rfl))) 
      (pss_cons (ps_lock (ps_setLc (i := 6) (own := [("name", 3)]) rfl nd rfl rfl (sw_true rfl rfl rfl (by decide +kernel)) (pi_keys (pv 2)) (blkOk_by (own := [("name", 3)]) (N := ["script", "pool", "weights", "name", "weight", "software", "parts", "ack", "vote", "lost", "passed", "told", "word", "one", "other"]) (sc := defScope s_law) (by decide +kernel)) (fun _ _ _ _ _ => (pg_name (i := 3) nd rfl (Or.inl rfl))) (fun _ _ _ _ _ => pts_nil) (fun _ _ _ _ _ => (pe_dget hu (pv 2) (pv 3) (fun _ _ => rfl))))) 
      (pss_cons (ps_set (i := 7) nd rfl (Or.inl rfl) (pe_op op_add pe_int (pe_call (ok_law_draw T) (hr.mono (by decide)) (by rfl) T.g__law_draw T.F__law_draw.kp T.k__law_draw .nil pass0 (pa_cons (pv 1) (pa_cons (pe_callB (cr_sum rfl) (by rfl) T.b_sum (by decide +kernel) (pa_cons (pv 6) pa_nil)) pa_nil))))) 
      (pss_cons (ps_set (i := 8) nd rfl (Or.inl rfl) (pe_op op_add pe_int (pe_call (ok_law_draw T) (hr.mono (by decide)) (by rfl) T.g__law_draw T.F__law_draw.kp T.k__law_draw .nil pass0 (pa_cons (pv 1) (pa_cons (pe_callB (cr_sum rfl) (by rfl) T.b_sum (by decide +kernel) (pa_cons (pv 6) pa_nil)) pa_nil))))) 
      (pss_cons (ps_set (i := 9) nd rfl (Or.inl rfl) (pe_call (ok_law_apart T) (hr.mono (by decide)) (by rfl) T.g__law_apart T.F__law_apart.kp T.k__law_apart .nil pass0 (pa_cons (pv 6) (pa_cons (pv 7) (pa_cons (pv 8) pa_nil))))) 
      (pss_cons (ps_set (i := 10) nd rfl (Or.inl rfl) (pe_callTy zc_dictD (by rfl) T.b_dict (by decide +kernel) (pa_cons (pv 2) pa_nil))) 
      (pss_cons (ps_set (i := 11) nd rfl (Or.inl rfl) (pe_call (ok_unsafe_groups T) (hr.mono (by decide)) (by rfl) T.g_unsafe_groups T.F_unsafe_groups.kp T.k_unsafe_groups .nil pass0 (pa_cons (pv 10) (pa_cons (pv 7) (pa_cons (pv 8) pa_nil))))) 
      (pss_cons (ps_if (pt_not (pt_val (pe_call (ok_law_same T) (hr.mono (by decide)) (by rfl) T.g__law_same T.F__law_same.kp T.k__law_same .nil pass0 (pa_cons (pv 10) (pa_cons (pv 2) pa_nil))))) 
        (pss_one (ps_ret pe_bl)) pss_nil) 
      (pss_cons (ps_if (PW.pt (pw_and (pt_not (pt_val (pv 9))) (pw_and1 (pt_not (pt_val (pe_call (ok_law_apart T) (hr.mono (by decide)) (by rfl) T.g__law_apart T.F__law_apart.kp T.k__law_apart .nil pass0 (pa_cons (pv 6) (pa_cons (pv 8) (pa_cons (pv 8) pa_nil))))))))) 
        (pss_one (ps_ret (pe_cmpR zop_isN (pv 11) pe_non (nomark _)))) pss_nil) 
      (pss_cons (ps_if (PW.pt (pw_or (pt_not (pt_val (pe_callB call_isi (by rfl) T.b_isinstance (by decide +kernel) (pa_cons (pv 11) (pa_cons (pe_bltn (v := .ty "tuple") (by rfl) T.b_tuple (by decide +kernel) rfl) pa_nil))))) (pw_or (pt_cmpR op_ne (pe_callB zc_len (by rfl) T.b_len (by decide +kernel) (pa_cons (pv 11) pa_nil)) pe_int (nomark _)) (pw_or1 (pt_not (pt_val (pe_call (ok_law_same T) (hr.mono (by decide)) (by rfl) T.g__law_same T.F__law_same.kp T.k__law_same .nil pass0 (pa_cons (pe_ix ix_tup (pv 11) pe_int (fun _ _ => rfl)) (pa_cons (pe_ifExp (pt_val (pv 9)) pe_str pe_str) pa_nil))))))))) 
        (pss_one (ps_ret pe_bl)) pss_nil) 
      (pss_cons (ps_asg (pv 11) (pg_tup (by rfl) (pgs_cons (pg_name (i := 12) nd rfl (Or.inl rfl)) (pgs_cons (pg_name (i := 13) nd rfl (Or.inl rfl)) (pgs_cons (pg_name (i := 14) nd rfl (Or.inr rfl)) pgs_nil))))) 
      (pss_cons (ps_if (PW.pt (pw_or (pt_not (pt_val (pe_call (ok_law_group T) (hr.mono (by decide)) (by rfl) T.g__law_group T.F__law_group.kp T.k__law_group .nil pass0 (pa_cons (pv 2) (pa_cons (pv 13) pa_nil))))) (pw_or1 (pt_not (pt_val (pe_call (ok_law_group T) (hr.mono (by decide)) (by rfl) T.g__law_group T.F__law_group.kp T.k__law_group .nil pass0 (pa_cons (pv 2) (pa_cons (pv 14) pa_nil)))))))) 
        (pss_one (ps_ret pe_bl)) pss_nil) 
      (pss_cons (ps_if (pt_cmpR op_gt (pe_callB zc_len (by rfl) T.b_len (by decide +kernel) (pa_cons (pe_lc (own := [("name", 3)]) rfl nd (pi_tup (pv 13)) (blkOk_by (own := [("name", 3)]) (N := ["script", "pool", "weights", "name", "weight", "software", "parts", "ack", "vote", "lost", "passed", "told", "word", "one", "other"]) (sc := defScope s_law) (by decide +kernel)) (fun _ _ _ _ _ => (pg_name (i := 3) nd rfl (Or.inl rfl))) (fun _ _ _ _ _ => (pts_one (pt_cmpR (op_in_seqK (K := K) rfl) (pv 3) (pv 14) (by rfl)))) (fun _ _ _ _ _ => (pv 3))) pa_nil)) pe_int (nomark _)) 
        (pss_one (ps_ret pe_bl)) pss_nil) 
      (pss_one (ps_ret (pe_and (pe_cmpR op_ge (pe_call (ok_law_weight T) (hr.mono (by decide)) (by rfl) T.g__law_weight T.F__law_weight.kp T.k__law_weight .nil pass0 (pa_cons (pv 2) (pa_cons (pv 13) pa_nil))) (pe_ifExp (pt_val (pv 9)) (pv 7) (pv 8)) (nomark _)) (pe_one (pe_cmpR op_ge (pe_call (ok_law_weight T) (hr.mono (by decide)) (by rfl) T.g__law_weight T.F__law_weight.kp T.k__law_weight .nil pass0 (pa_cons (pv 2) (pa_cons (pv 14) pa_nil))) (pv 8) (nomark _))))))))))))))))))))), ?_⟩
  change (_ : TS) _ [some _, none, none, none, none, none, none, none, none, none, none, none, none, none, none] _
  try dsimp only [cxOf, Cx.nox, Cx.wish]
  walk_at "go"
  refine w_sp1 ⟨sc, ns, rfl, hS, fun p H1 e1 n1 P1 => ?_⟩
  walk_at "go"
  refine w_alc fun d H2 e2 n2 h2 => ?_
  have P2 := P1.ext e2 List.not_mem_nil
  have dp : d ≠ p := (P1.ne n2).symm
  walk_at "go"
  refine w_sp2 ⟨p, rfl, rfl, P2, fun r H3 ts t1 t7 hnd hb e3 P3 rp hN => ?_⟩
  obtain ⟨as, hr, hp⟩ := hN
  have hd3 := e3.keep _ _ h2 (nm1 dp)
  have hal := paired_len hp
  refine ⟨_, rfl, ⟨_, sql hr⟩, z_for_list (xs := as.map V.ref) (fun i σ' H' => Ext [d] H3 H' ∧ (∃ v3 v4 v5 : Option V, σ' = [some (.ref sc), some (.ref p), some (.ref d), v3, v4, v5, none, none, none, none, none, none, none, none, none]) ∧ H' d = some (.dK (kvW (ts.take i)))) ?_ ?_ ?_ ?_⟩
  · exact ⟨Ext.refl, ⟨_, _, _, rfl⟩, hd3⟩
  · rintro i σ' H' _ ⟨e, _⟩
    exact sql (e.keep _ _ hr (nm1 (ne_of hr hd3 (by intro z; cases z))))
  · rintro N i x σ' H4 hx ⟨e4, ⟨v3, v4, v5, rfl⟩, hd4⟩ hN
    rw [List.getElem?_map, Option.map_eq_some_iff] at hx
    obtain ⟨a, ha, rfl⟩ := hx
    obtain ⟨t, ht, s, hat⟩ := paired_at hp ha
    have hi : i < ts.length := (List.getElem?_eq_some_iff.mp ht).1
    have ha4 := e4.tup hat
    walk_at "go"
    refine w_dputS (z := t.1) hd4 (szl (by unfold kvW; rw [List.length_map, List.length_take]; omega)) fun H5 e5 h5 => ?_
    refine hN _ _ ⟨e4.trans e5, ⟨_, _, _, rfl⟩, ?_⟩
    rw [h5, put_new, List.take_add_one, ht, Option.toList_some]
    · unfold kvW; rw [List.map_append]; rfl
    · intro z
      rw [kvs_names] at z
      obtain ⟨n, hn, e⟩ := List.mem_map.mp z
      have e := Sum.inr.inj e
      subst e
      obtain ⟨j, hj, ej⟩ := List.mem_iff_getElem.mp hn
      rw [List.getElem_map, List.getElem_take] at ej
      rw [List.length_map, List.length_take] at hj
      have h1 : (ts.map (·.1))[j]? = some t.1 := by rw [List.getElem?_map, List.getElem?_eq_getElem (by omega), ← ej]; rfl
      have h2 : (ts.map (·.1))[i]? = some t.1 := by rw [List.getElem?_map, ht]; rfl
      have := nd_ix hnd h1 h2
      omega
  · rintro σ' H4 ⟨e4, ⟨v3, v4, v5, rfl⟩, hd4⟩
    rw [List.length_map, hal, List.take_length] at hd4
    have P4 : PoolAt K H4 p := P3.ext e4 (nm1 dp.symm)
    walk_at "go"
    -- parts
    refine w_lock hd4 trivial (fun z => z) fun od HL L => ?_
    walk_at "go"
    refine w_keysV rfl L.at fun D nD => ?_
    refine z_lc_keys (fun i acc H' => Ext [] HL H' ∧ acc = ((ts.take i).map (·.2)).map V.int) nD (fun H' e => ⟨e, rfl⟩) (fun i acc H' _ ⟨e, _⟩ => e.imm _ _ L.at trivial) ?_ ?_
    · rintro Nx i ky v acc H5 hk ⟨e5, rfl⟩ hD hNx
      have hk' := hk
      unfold kvW at hk'
      rw [List.getElem?_map, Option.map_eq_some_iff] at hk'
      obtain ⟨t, ht, ek⟩ := hk'
      cases ek
      have hi : i < ts.length := (List.getElem?_eq_some_iff.mp ht).1
      have hm : t.1 ∈ ts.map (·.1) := List.mem_map.mpr ⟨t, List.mem_of_getElem? ht, rfl⟩
      walk_at "go"
      refine ⟨rfl, ?_⟩
      walk_at "go"
      refine w_dgetR (z := t.1) (.inr ⟨od, e5.imm _ _ L.at trivial⟩) (wt_val hm) ?_
      refine w_app hD (szl (by simp only [List.length_map, List.length_take]; omega)) fun H6 e6 hD6 => ?_
      refine hNx _ _ ⟨e5.dropq e6 nD, ?_⟩ hD6
      have hw : wtOf ts t.1 = t.2 := by
        have h1 : ((ts.map (·.1)).map (wtOf ts))[i]? = some (wtOf ts t.1) := by rw [List.getElem?_map, List.getElem?_map, ht]; rfl
        rw [wt_map hnd, List.getElem?_map, ht] at h1
        exact (Option.some.inj h1).symm
      rw [List.take_add_one, ht, Option.toList_some, List.map_append, List.map_append, hw]
      rfl
    · rintro acc H5 ⟨e5, rfl⟩ hD
      rw [show (kvW ts).length = ts.length by unfold kvW; rw [List.length_map], List.take_length] at hD
      walk_at "go"
      refine w_unlock L e5 fun H6 e6 back => ?_
      have nD4 : H4 D = none := L.free nD
      have dD : D ≠ d := fun z => by rw [z, L.at] at nD; cases nD
      have hD6 := back _ _ hD dD
      have pD : D ≠ p := (P4.ne nD4).symm
      have P6 := P4.ext e6 List.not_mem_nil
      have hd6 := e6.keep _ _ hd4 List.not_mem_nil
      generalize hws : ts.map (·.2) = ws at hD6
      have hwl : ws.length = ts.length := by rw [← hws, List.length_map]
      have hwb : ∀ w ∈ ws, 1 ≤ w ∧ w ≤ 9 := by
        intro w hw
        rw [← hws] at hw
        obtain ⟨t, ht, rfl⟩ := List.mem_map.mp hw
        exact (hb t ht).2
      obtain ⟨s1, s2⟩ := sum_bounds hwb
      walk_at "go"
      refine w_sum (sql hD6) ?_
      walk_at "go"
      refine w_draw P6 (by omega) (by omega) fun a H7 a0 a1 e7 P7 => ?_
      have hD7 := e7.keep _ _ hD6 (nm1 pD)
      walk_at "go"
      refine w_sum (sql hD7) ?_
      walk_at "go"
      refine w_draw P7 (by omega) (by omega) fun b H8 b0 b1 e8 P8 => ?_
      have hD8 := e8.keep _ _ hD7 (nm1 pD)
      have hd8 := e8.keep _ _ (e7.keep _ _ hd6 (nm1 dp)) (nm1 dp)
      walk_at "go"
      generalize 1 + a = ack
      generalize 1 + b = vote
      refine w_sp3 ⟨D, ws, ack, vote, rfl, rfl, rfl, hD8, by omega, fun lb H9 hlb e9 => ?_⟩
      have hD9 := e9.keep _ _ hD8 List.not_mem_nil
      have hd9 := e9.keep _ _ hd8 List.not_mem_nil
      walk_at "go"
      refine w_dictD hd9 (w_alc fun c H10 e10 n10 hc => ?_)
      have hD10 := e10.keep _ _ hD9 List.not_mem_nil
      have hd10 := e10.keep _ _ hd9 List.not_mem_nil
      have cd : c ≠ d := (ne_of_none hd9 n10).symm
      walk_at "go"
      refine w_sp3 ⟨c, ts, ack, vote, rfl, rfl, rfl, hc, t7, hnd, fun ys hys hso => ?_⟩
      have hyn : ys.Nodup := hys.symm.nodup hnd
      have hpw := sorted_pw hso hyn
      have hperm : (ys.map (wtOf ts)).Perm ws := by
        have := hys.map (wtOf ts)
        rw [wt_map hnd, hws] at this
        exact this
      have hyl : ys.length ≤ 7 := by rw [hys.length_eq, List.length_map]; exact t7
      have hap := fun o1 o2 => apart_iff (wtOf ts) hyn hperm o1 o2
      refine ⟨fun H11 e11 hL hV => ?_, fun r2 x y g lo H11 e11 hg hr2 hx hy c1 c2 c3 => ?_⟩
      · -- no two groups lie apart
        have hc11 := e11.keep _ _ hc List.not_mem_nil
        have hd11 := e11.keep _ _ hd10 List.not_mem_nil
        have hD11 := e11.keep _ _ hD10 List.not_mem_nil
        have hl0 : lb = false := by
          cases lb with
          | false => rfl
          | true =>
            obtain ⟨g, hg, q⟩ := (hap ack vote).mp (hlb.mp rfl)
            exact absurd q (hL g hg)
        subst hl0
        walk_at "go"; walk_at "if"
        refine w_sp2 (.inr ⟨c, d, ts, rfl, rfl, cd, hc11, hd11, fun H12 e12 => ?_⟩)
        walk_at "go"; walk_at "if"
        refine w_sp3 ⟨D, ws, vote, vote, rfl, rfl, rfl, e12.keep _ _ hD11 List.not_mem_nil, by omega, fun l2 H13 hl2 e13 => ?_⟩
        have hl0 : l2 = false := by
          cases l2 with
          | false => rfl
          | true =>
            obtain ⟨g, hg, q⟩ := (hap vote vote).mp (hl2.mp rfl)
            exact absurd q (hV g hg)
        subst hl0
        walk_at "go"
        exact k _
      · -- two groups are told
        have hgs := grp_sublist hg
        have hgl : g.length ≤ 7 := Nat.le_trans hgs.length_le hyl
        have hrs : (restOf ys g).Sublist ys := List.filter_sublist
        have hrl : (restOf ys g).length ≤ 7 := Nat.le_trans hrs.length_le hyl
        have hmem : ∀ n ∈ ys, n ∈ ts.map (·.1) := fun n hn => hys.mem_iff.mp hn
        have hlo : lb = lo := by
          cases lo with
          | true => exact hlb.mpr ((hap ack vote).mpr ⟨g, hg, c1 rfl, c3⟩)
          | false =>
            cases lb with
            | false => rfl
            | true =>
              obtain ⟨g', hg', q⟩ := (hap ack vote).mp (hlb.mp rfl)
              exact absurd q ((c2 rfl).2 g' hg')
        subst hlo
        have hc11 := e11.keep _ _ hc List.not_mem_nil
        have hd11 := e11.keep _ _ hd10 List.not_mem_nil
        have hD11 := e11.keep _ _ hD10 List.not_mem_nil
        walk_at "go"; walk_at "if"
        refine w_sp2 (.inr ⟨c, d, ts, rfl, rfl, cd, hc11, hd11, fun H12 e12 => ?_⟩)
        have hr12 := e12.tup hr2
        have hx12 := e12.tup hx
        have hy12 := e12.tup hy
        have hd12 := e12.keep _ _ hd11 List.not_mem_nil
        have hD12 := e12.keep _ _ hD11 List.not_mem_nil
        walk_at "go"
        -- the last part, behind the test of the second kind
        refine w_cut (fun σ' H' => Ext [] H12 H' ∧ σ' = [some (.ref sc), some (.ref p), some (.ref d), v3, v4, v5, some (.ref D), some (.int ack), some (.int vote), some (.bl lb), some (.ref c), some (.ref r2), none, none, none]) ?_ fun nx hnx => ?_
        · rintro _ H13 ⟨e13, rfl⟩
          have hr13 := e13.tup hr12
          walk_at "go"; walk_at "if"
          refine w_isi (k := true) (.ty _) (.base (.tup hr13)) (kit_ty (by decide +kernel)) ?_
          walk_at "go"
          refine w_f rfl ?_
          walk_at "go"
          refine w_cutE (fun v H' => H13 = H' ∧ v = .str (if lb = true then lostS else splitS)) ?_ fun Q' hQ => ?_
          · rintro _ _ ⟨rfl, rfl⟩
            walk_at "go"
            refine w_sp2 (.inl ⟨_, rfl, rfl, ?_⟩)
            walk_at "go"
            walk_at "if"
            refine w_sp2 ⟨d, x, ts, g, rfl, rfl, e13.keep _ _ hd12 List.not_mem_nil, e13.tup hx12, fun n hn => hmem n (hgs.subset hn), hgl, hpw.sublist hgs, fun H14 e14 => ?_⟩
            have e14' := e13.trans e14
            walk_at "go"
            refine w_sp2 ⟨d, y, ts, restOf ys g, rfl, rfl, e14'.keep _ _ hd12 List.not_mem_nil, e14'.tup hy12, fun n hn => hmem n (hrs.subset hn), hrl, hpw.sublist hrs, fun H15 e15 => ?_⟩
            have e15' := e14'.trans e15
            walk_at "go"; walk_at "if"
            refine ⟨_, rfl, ⟨_, sqt (e15'.tup hx12)⟩, fun D2 nD2 => z_lc_tup (xs := g.map V.str) (fun j acc H' => Ext [] H15 H' ∧ acc = []) nD2 (fun H' e => ⟨e, rfl⟩) ?_ ?_ ?_⟩
            · rintro j acc H' _ ⟨e, _⟩
              exact sqt (e.tup (e15'.tup hx12))
            · rintro Nx j yv acc H16 hyv ⟨e16, rfl⟩ hD2 hNx
              rw [List.getElem?_map, Option.map_eq_some_iff] at hyv
              obtain ⟨n, hn, rfl⟩ := hyv
              walk_at "go"
              refine ⟨rfl, ?_⟩
              walk_at "go"
              refine w_inS (ns := restOf ys g) (.inr (sqt (e16.tup (e15'.tup hy12)))) ?_
              refine w_bl ?_
              have hno : ¬ n ∈ restOf ys g := fun z => by
                have := (List.mem_filter.mp z).2
                simp [List.mem_of_getElem? hn] at this
              refine w_f (decide_eq_false hno) ?_
              exact hNx _ _ ⟨e16, rfl⟩ hD2
            · rintro acc H16 ⟨e16, rfl⟩ hD2
              have e16' := e15'.trans e16
              walk_at "go"
              refine w_f rfl ?_
              walk_at "go"
              refine w_sp2 ⟨d, x, ts, g, rfl, rfl, e16'.keep _ _ hd12 List.not_mem_nil, e16'.tup hx12, fun n hn => hmem n (hgs.subset hn), hgl, fun H17 e17 => ?_⟩
              have e17' := e16'.trans e17
              walk_at "go"
              have hgo1 : (if lb = true then ack else vote) ≤ (g.map (wtOf ts)).sum := by
                cases lb with
                | true => exact c1 rfl
                | false => exact (c2 rfl).1
              refine w_cutE (fun v H' => H17 = H' ∧ v = .int (if lb = true then ack else vote)) ?_ fun Q' hQ => ?_
              · rintro _ _ ⟨rfl, rfl⟩
                walk_at "go"
                refine w_t (decide_eq_true hgo1) ?_
                walk_at "go"
                refine w_sp2 ⟨d, y, ts, restOf ys g, rfl, rfl, e17'.keep _ _ hd12 List.not_mem_nil, e17'.tup hy12, fun n hn => hmem n (hrs.subset hn), hrl, fun H18 e18 => ?_⟩
                walk_at "go"
                rw [decide_eq_true c3]
                exact k _
              · walk_at "ife"
                cases lb with
                | true => walk_at "go"; exact hQ _ _ ⟨rfl, rfl⟩
                | false => walk_at "go"; exact hQ _ _ ⟨rfl, rfl⟩
          · walk_at "ife"
            cases lb with
            | true => walk_at "go"; exact hQ _ _ ⟨rfl, rfl⟩
            | false => walk_at "go"; exact hQ _ _ ⟨rfl, rfl⟩
        · walk_at "if"
          cases lb with
          | true => walk_at "go"; exact hnx _ _ ⟨Ext.refl, rfl⟩
          | false =>
            walk_at "go"
            refine w_sp3 ⟨D, ws, vote, vote, rfl, rfl, rfl, hD12, by omega, fun l2 H13 hl2 e13 => ?_⟩
            have hl1 : l2 = true := hl2.mpr ((hap vote vote).mpr ⟨g, hg, (c2 rfl).1, c3⟩)
            subst hl1
            walk_at "go"
            exact hnx _ _ ⟨e13, rfl⟩

end
theorem all_mk {l : PySem.W.OpenLaw} {w : World} {K : PySem.W.Frag} {h : Heap} {mg : Str → Option Value} {fa : Addr} (X : K.In h) (G : h.Ns mainGlobals mg) (hfa : mg "law" = some (.ref fa))
    {f_all_groups : Addr} {od_all_groups an_all_groups : Option Addr} {sl_all_groups : Array (Option Value)} {oc_all_groups kV_all_groups dc_all_groups pm_all_groups cd_all_groups ct_all_groups : Value} {f_weight_of_group : Addr} {od_weight_of_group an_weight_of_group : Option Addr} {sl_weight_of_group : Array (Option Value)} {oc_weight_of_group kV_weight_of_group dc_weight_of_group pm_weight_of_group cd_weight_of_group ct_weight_of_group : Value} {f_unsafe_groups : Addr} {od_unsafe_groups an_unsafe_groups : Option Addr} {sl_unsafe_groups : Array (Option Value)} {oc_unsafe_groups kV_unsafe_groups dc_unsafe_groups pm_unsafe_groups cd_unsafe_groups ct_unsafe_groups : Value} {f_law_mixed : Addr} {od_law_mixed an_law_mixed : Option Addr} {sl_law_mixed : Array (Option Value)} {oc_law_mixed kV_law_mixed dc_law_mixed pm_law_mixed cd_law_mixed ct_law_mixed : Value} {f_law_rest : Addr} {od_law_rest an_law_rest : Option Addr} {sl_law_rest : Array (Option Value)} {oc_law_rest kV_law_rest dc_law_rest pm_law_rest cd_law_rest ct_law_rest : Value} {f_law_pool : Addr} {od_law_pool an_law_pool : Option Addr} {sl_law_pool : Array (Option Value)} {oc_law_pool kV_law_pool dc_law_pool pm_law_pool cd_law_pool ct_law_pool : Value} {f_law_draw : Addr} {od_law_draw an_law_draw : Option Addr} {sl_law_draw : Array (Option Value)} {oc_law_draw kV_law_draw dc_law_draw pm_law_draw cd_law_draw ct_law_draw : Value} {f_law_same : Addr} {od_law_same an_law_same : Option Addr} {sl_law_same : Array (Option Value)} {oc_law_same kV_law_same dc_law_same pm_law_same cd_law_same ct_law_same : Value} {f_law_name : Addr} {od_law_name an_law_name : Option Addr} {sl_law_name : Array (Option Value)} {oc_law_name kV_law_name dc_law_name pm_law_name cd_law_name ct_law_name : Value} {f_law_fresh : Addr} {od_law_fresh an_law_fresh : Option Addr} {sl_law_fresh : Array (Option Value)} {oc_law_fresh kV_law_fresh dc_law_fresh pm_law_fresh cd_law_fresh ct_law_fresh : Value} {f_law_sums : Addr} {od_law_sums an_law_sums : Option Addr} {sl_law_sums : Array (Option Value)} {oc_law_sums kV_law_sums dc_law_sums pm_law_sums cd_law_sums ct_law_sums : Value} {f_law_apart : Addr} {od_law_apart an_law_apart : Option Addr} {sl_law_apart : Array (Option Value)} {oc_law_apart kV_law_apart dc_law_apart pm_law_apart cd_law_apart ct_law_apart : Value} {f_law_nodes : Addr} {od_law_nodes an_law_nodes : Option Addr} {sl_law_nodes : Array (Option Value)} {oc_law_nodes kV_law_nodes dc_law_nodes pm_law_nodes cd_law_nodes ct_law_nodes : Value} {f_law_weight : Addr} {od_law_weight an_law_weight : Option Addr} {sl_law_weight : Array (Option Value)} {oc_law_weight kV_law_weight dc_law_weight pm_law_weight cd_law_weight ct_law_weight : Value} {f_law_group : Addr} {od_law_group an_law_group : Option Addr} {sl_law_group : Array (Option Value)} {oc_law_group kV_law_group dc_law_group pm_law_group cd_law_group ct_law_group : Value} {f_law : Addr} {od_law an_law : Option Addr} {sl_law : Array (Option Value)} {oc_law kV_law dc_law pm_law cd_law ct_law : Value} 
    (a_all_groups : PySem.W.nsIn K mainGlobals "all_groups" = some (some (.ref f_all_groups)))
    (l_all_groups : K.lookup f_all_groups = some ⟨oc_all_groups, od_all_groups, .func (PySem.W.fnOf "all_groups" "all_groups" (defArgs s_all_groups) (defBody s_all_groups) (defScope s_all_groups) .none kV_all_groups dc_all_groups pm_all_groups an_all_groups cd_all_groups ct_all_groups), sl_all_groups⟩)
    (c_all_groups : PySem.W.codeIn K cd_all_groups "all_groups" = true)
    (k_all_groups : PySem.W.keepIn K (.ref f_all_groups) = true)
    (a_weight_of_group : PySem.W.nsIn K mainGlobals "weight_of_group" = some (some (.ref f_weight_of_group)))
    (l_weight_of_group : K.lookup f_weight_of_group = some ⟨oc_weight_of_group, od_weight_of_group, .func (PySem.W.fnOf "weight_of_group" "weight_of_group" (defArgs s_weight_of_group) (defBody s_weight_of_group) (defScope s_weight_of_group) .none kV_weight_of_group dc_weight_of_group pm_weight_of_group an_weight_of_group cd_weight_of_group ct_weight_of_group), sl_weight_of_group⟩)
    (c_weight_of_group : PySem.W.codeIn K cd_weight_of_group "weight_of_group" = true)
    (k_weight_of_group : PySem.W.keepIn K (.ref f_weight_of_group) = true)
    (a_unsafe_groups : PySem.W.nsIn K mainGlobals "unsafe_groups" = some (some (.ref f_unsafe_groups)))
    (l_unsafe_groups : K.lookup f_unsafe_groups = some ⟨oc_unsafe_groups, od_unsafe_groups, .func (PySem.W.fnOf "unsafe_groups" "unsafe_groups" (defArgs s_unsafe_groups) (defBody s_unsafe_groups) (defScope s_unsafe_groups) .none kV_unsafe_groups dc_unsafe_groups pm_unsafe_groups an_unsafe_groups cd_unsafe_groups ct_unsafe_groups), sl_unsafe_groups⟩)
    (c_unsafe_groups : PySem.W.codeIn K cd_unsafe_groups "unsafe_groups" = true)
    (k_unsafe_groups : PySem.W.keepIn K (.ref f_unsafe_groups) = true)
    (a_law_mixed : PySem.W.nsIn K mainGlobals "_law_mixed" = some (some (.ref f_law_mixed)))
    (l_law_mixed : K.lookup f_law_mixed = some ⟨oc_law_mixed, od_law_mixed, .func (PySem.W.fnOf "_law_mixed" "_law_mixed" (defArgs s_law_mixed) (defBody s_law_mixed) (defScope s_law_mixed) .none kV_law_mixed dc_law_mixed pm_law_mixed an_law_mixed cd_law_mixed ct_law_mixed), sl_law_mixed⟩)
    (c_law_mixed : PySem.W.codeIn K cd_law_mixed "_law_mixed" = true)
    (k_law_mixed : PySem.W.keepIn K (.ref f_law_mixed) = true)
    (a_law_rest : PySem.W.nsIn K mainGlobals "_law_rest" = some (some (.ref f_law_rest)))
    (l_law_rest : K.lookup f_law_rest = some ⟨oc_law_rest, od_law_rest, .func (PySem.W.fnOf "_law_rest" "_law_rest" (defArgs s_law_rest) (defBody s_law_rest) (defScope s_law_rest) .none kV_law_rest dc_law_rest pm_law_rest an_law_rest cd_law_rest ct_law_rest), sl_law_rest⟩)
    (c_law_rest : PySem.W.codeIn K cd_law_rest "_law_rest" = true)
    (k_law_rest : PySem.W.keepIn K (.ref f_law_rest) = true)
    (a_law_pool : PySem.W.nsIn K mainGlobals "_law_pool" = some (some (.ref f_law_pool)))
    (l_law_pool : K.lookup f_law_pool = some ⟨oc_law_pool, od_law_pool, .func (PySem.W.fnOf "_law_pool" "_law_pool" (defArgs s_law_pool) (defBody s_law_pool) (defScope s_law_pool) .none kV_law_pool dc_law_pool pm_law_pool an_law_pool cd_law_pool ct_law_pool), sl_law_pool⟩)
    (c_law_pool : PySem.W.codeIn K cd_law_pool "_law_pool" = true)
    (k_law_pool : PySem.W.keepIn K (.ref f_law_pool) = true)
    (a_law_draw : PySem.W.nsIn K mainGlobals "_law_draw" = some (some (.ref f_law_draw)))
    (l_law_draw : K.lookup f_law_draw = some ⟨oc_law_draw, od_law_draw, .func (PySem.W.fnOf "_law_draw" "_law_draw" (defArgs s_law_draw) (defBody s_law_draw) (defScope s_law_draw) .none kV_law_draw dc_law_draw pm_law_draw an_law_draw cd_law_draw ct_law_draw), sl_law_draw⟩)
    (c_law_draw : PySem.W.codeIn K cd_law_draw "_law_draw" = true)
    (k_law_draw : PySem.W.keepIn K (.ref f_law_draw) = true)
    (a_law_same : PySem.W.nsIn K mainGlobals "_law_same" = some (some (.ref f_law_same)))
    (l_law_same : K.lookup f_law_same = some ⟨oc_law_same, od_law_same, .func (PySem.W.fnOf "_law_same" "_law_same" (defArgs s_law_same) (defBody s_law_same) (defScope s_law_same) .none kV_law_same dc_law_same pm_law_same an_law_same cd_law_same ct_law_same), sl_law_same⟩)
    (c_law_same : PySem.W.codeIn K cd_law_same "_law_same" = true)
    (k_law_same : PySem.W.keepIn K (.ref f_law_same) = true)
    (a_law_name : PySem.W.nsIn K mainGlobals "_law_name" = some (some (.ref f_law_name)))
    (l_law_name : K.lookup f_law_name = some ⟨oc_law_name, od_law_name, .func (PySem.W.fnOf "_law_name" "_law_name" (defArgs s_law_name) (defBody s_law_name) (defScope s_law_name) .none kV_law_name dc_law_name pm_law_name an_law_name cd_law_name ct_law_name), sl_law_name⟩)
    (c_law_name : PySem.W.codeIn K cd_law_name "_law_name" = true)
    (k_law_name : PySem.W.keepIn K (.ref f_law_name) = true)
    (a_law_fresh : PySem.W.nsIn K mainGlobals "_law_fresh" = some (some (.ref f_law_fresh)))
    (l_law_fresh : K.lookup f_law_fresh = some ⟨oc_law_fresh, od_law_fresh, .func (PySem.W.fnOf "_law_fresh" "_law_fresh" (defArgs s_law_fresh) (defBody s_law_fresh) (defScope s_law_fresh) .none kV_law_fresh dc_law_fresh pm_law_fresh an_law_fresh cd_law_fresh ct_law_fresh), sl_law_fresh⟩)
    (c_law_fresh : PySem.W.codeIn K cd_law_fresh "_law_fresh" = true)
    (k_law_fresh : PySem.W.keepIn K (.ref f_law_fresh) = true)
    (a_law_sums : PySem.W.nsIn K mainGlobals "_law_sums" = some (some (.ref f_law_sums)))
    (l_law_sums : K.lookup f_law_sums = some ⟨oc_law_sums, od_law_sums, .func (PySem.W.fnOf "_law_sums" "_law_sums" (defArgs s_law_sums) (defBody s_law_sums) (defScope s_law_sums) .none kV_law_sums dc_law_sums pm_law_sums an_law_sums cd_law_sums ct_law_sums), sl_law_sums⟩)
    (c_law_sums : PySem.W.codeIn K cd_law_sums "_law_sums" = true)
    (k_law_sums : PySem.W.keepIn K (.ref f_law_sums) = true)
    (a_law_apart : PySem.W.nsIn K mainGlobals "_law_apart" = some (some (.ref f_law_apart)))
    (l_law_apart : K.lookup f_law_apart = some ⟨oc_law_apart, od_law_apart, .func (PySem.W.fnOf "_law_apart" "_law_apart" (defArgs s_law_apart) (defBody s_law_apart) (defScope s_law_apart) .none kV_law_apart dc_law_apart pm_law_apart an_law_apart cd_law_apart ct_law_apart), sl_law_apart⟩)
    (c_law_apart : PySem.W.codeIn K cd_law_apart "_law_apart" = true)
    (k_law_apart : PySem.W.keepIn K (.ref f_law_apart) = true)
    (a_law_nodes : PySem.W.nsIn K mainGlobals "_law_nodes" = some (some (.ref f_law_nodes)))
    (l_law_nodes : K.lookup f_law_nodes = some ⟨oc_law_nodes, od_law_nodes, .func (PySem.W.fnOf "_law_nodes" "_law_nodes" (defArgs s_law_nodes) (defBody s_law_nodes) (defScope s_law_nodes) .none kV_law_nodes dc_law_nodes pm_law_nodes an_law_nodes cd_law_nodes ct_law_nodes), sl_law_nodes⟩)
    (c_law_nodes : PySem.W.codeIn K cd_law_nodes "_law_nodes" = true)
    (k_law_nodes : PySem.W.keepIn K (.ref f_law_nodes) = true)
    (a_law_weight : PySem.W.nsIn K mainGlobals "_law_weight" = some (some (.ref f_law_weight)))
    (l_law_weight : K.lookup f_law_weight = some ⟨oc_law_weight, od_law_weight, .func (PySem.W.fnOf "_law_weight" "_law_weight" (defArgs s_law_weight) (defBody s_law_weight) (defScope s_law_weight) .none kV_law_weight dc_law_weight pm_law_weight an_law_weight cd_law_weight ct_law_weight), sl_law_weight⟩)
    (c_law_weight : PySem.W.codeIn K cd_law_weight "_law_weight" = true)
    (k_law_weight : PySem.W.keepIn K (.ref f_law_weight) = true)
    (a_law_group : PySem.W.nsIn K mainGlobals "_law_group" = some (some (.ref f_law_group)))
    (l_law_group : K.lookup f_law_group = some ⟨oc_law_group, od_law_group, .func (PySem.W.fnOf "_law_group" "_law_group" (defArgs s_law_group) (defBody s_law_group) (defScope s_law_group) .none kV_law_group dc_law_group pm_law_group an_law_group cd_law_group ct_law_group), sl_law_group⟩)
    (c_law_group : PySem.W.codeIn K cd_law_group "_law_group" = true)
    (k_law_group : PySem.W.keepIn K (.ref f_law_group) = true)
    (a_law : PySem.W.nsIn K mainGlobals "law" = some (some (.ref f_law)))
    (l_law : K.lookup f_law = some ⟨oc_law, od_law, .func (PySem.W.fnOf "law" "law" (defArgs s_law) (defBody s_law) (defScope s_law) .none kV_law dc_law pm_law an_law cd_law ct_law), sl_law⟩)
    (c_law : PySem.W.codeIn K cd_law "law" = true)
    (k_law : PySem.W.keepIn K (.ref f_law) = true)
    (z_bool : PySem.W.nsIn K mainGlobals "bool" = some none)
    (z_dict : PySem.W.nsIn K mainGlobals "dict" = some none)
    (z_int : PySem.W.nsIn K mainGlobals "int" = some none)
    (z_isinstance : PySem.W.nsIn K mainGlobals "isinstance" = some none)
    (z_len : PySem.W.nsIn K mainGlobals "len" = some none)
    (z_list : PySem.W.nsIn K mainGlobals "list" = some none)
    (z_range : PySem.W.nsIn K mainGlobals "range" = some none)
    (z_sorted : PySem.W.nsIn K mainGlobals "sorted" = some none)
    (z_str : PySem.W.nsIn K mainGlobals "str" = some none)
    (z_sum : PySem.W.nsIn K mainGlobals "sum" = some none)
    (z_tuple : PySem.W.nsIn K mainGlobals "tuple" = some none)
    : ∃ fd : FuncData, (∀ (s : Shared) (v : Value), BindsTo s fd ⟨[v], []⟩ [("script", v)]) ∧ ∀ base : Heap, K.In base → base.Ns mainGlobals mg → FnOk l.prog w K mg base CX0 7 fa fd ["script"] (sp_law K) := by
  have e := hfa.symm.trans (PySem.W.mg_of X G a_law)
  cases e
  have F_all_groups := fun_mk (st := s_all_groups) l_all_groups c_all_groups k_all_groups
  have b_all_groups := F_all_groups.binds (ps := ["names"]) fun _ _ _ _ _ _ us hl => match us, hl with | [_], _ => rfl
  have F_weight_of_group := fun_mk (st := s_weight_of_group) l_weight_of_group c_weight_of_group k_weight_of_group
  have b_weight_of_group := F_weight_of_group.binds (ps := ["weights", "group"]) fun _ _ _ _ _ _ us hl => match us, hl with | [_, _], _ => rfl
  have F_unsafe_groups := fun_mk (st := s_unsafe_groups) l_unsafe_groups c_unsafe_groups k_unsafe_groups
  have b_unsafe_groups := F_unsafe_groups.binds (ps := ["weights", "ack", "vote"]) fun _ _ _ _ _ _ us hl => match us, hl with | [_, _, _], _ => rfl
  have F_law_mixed := fun_mk (st := s_law_mixed) l_law_mixed c_law_mixed k_law_mixed
  have b_law_mixed := F_law_mixed.binds (ps := ["number", "place"]) fun _ _ _ _ _ _ us hl => match us, hl with | [_, _], _ => rfl
  have F_law_rest := fun_mk (st := s_law_rest) l_law_rest c_law_rest k_law_rest
  have b_law_rest := F_law_rest.binds (ps := ["script", "place", "fills"]) fun _ _ _ _ _ _ us hl => match us, hl with | [_, _, _], _ => rfl
  have F_law_pool := fun_mk (st := s_law_pool) l_law_pool c_law_pool k_law_pool
  have b_law_pool := F_law_pool.binds (ps := ["script"]) fun _ _ _ _ _ _ us hl => match us, hl with | [_], _ => rfl
  have F_law_draw := fun_mk (st := s_law_draw) l_law_draw c_law_draw k_law_draw
  have b_law_draw := F_law_draw.binds (ps := ["pool", "limit"]) fun _ _ _ _ _ _ us hl => match us, hl with | [_, _], _ => rfl
  have F_law_same := fun_mk (st := s_law_same) l_law_same c_law_same k_law_same
  have b_law_same := F_law_same.binds (ps := ["answer", "due"]) fun _ _ _ _ _ _ us hl => match us, hl with | [_, _], _ => rfl
  have F_law_name := fun_mk (st := s_law_name) l_law_name c_law_name k_law_name
  have b_law_name := F_law_name.binds (ps := ["pool"]) fun _ _ _ _ _ _ us hl => match us, hl with | [_], _ => rfl
  have F_law_fresh := fun_mk (st := s_law_fresh) l_law_fresh c_law_fresh k_law_fresh
  have b_law_fresh := F_law_fresh.binds (ps := ["pool", "taken"]) fun _ _ _ _ _ _ us hl => match us, hl with | [_, _], _ => rfl
  have F_law_sums := fun_mk (st := s_law_sums) l_law_sums c_law_sums k_law_sums
  have b_law_sums := F_law_sums.binds (ps := ["weights"]) fun _ _ _ _ _ _ us hl => match us, hl with | [_], _ => rfl
  have F_law_apart := fun_mk (st := s_law_apart) l_law_apart c_law_apart k_law_apart
  have b_law_apart := F_law_apart.binds (ps := ["weights", "one", "other"]) fun _ _ _ _ _ _ us hl => match us, hl with | [_, _, _], _ => rfl
  have F_law_nodes := fun_mk (st := s_law_nodes) l_law_nodes c_law_nodes k_law_nodes
  have b_law_nodes := F_law_nodes.binds (ps := ["pool", "most"]) fun _ _ _ _ _ _ us hl => match us, hl with | [_, _], _ => rfl
  have F_law_weight := fun_mk (st := s_law_weight) l_law_weight c_law_weight k_law_weight
  have b_law_weight := F_law_weight.binds (ps := ["weights", "group"]) fun _ _ _ _ _ _ us hl => match us, hl with | [_, _], _ => rfl
  have F_law_group := fun_mk (st := s_law_group) l_law_group c_law_group k_law_group
  have b_law_group := F_law_group.binds (ps := ["weights", "group"]) fun _ _ _ _ _ _ us hl => match us, hl with | [_, _], _ => rfl
  have F_law := fun_mk (st := s_law) l_law c_law k_law
  have b_law := F_law.binds (ps := ["script"]) fun _ _ _ _ _ _ us hl => match us, hl with | [_], _ => rfl
  let T : Txt K mg := {
    f_all_groups := f_all_groups, d_all_groups := _, F_all_groups := F_all_groups, g_all_groups := PySem.W.mg_of X G a_all_groups, k_all_groups := b_all_groups,
    f_weight_of_group := f_weight_of_group, d_weight_of_group := _, F_weight_of_group := F_weight_of_group, g_weight_of_group := PySem.W.mg_of X G a_weight_of_group, k_weight_of_group := b_weight_of_group,
    f_unsafe_groups := f_unsafe_groups, d_unsafe_groups := _, F_unsafe_groups := F_unsafe_groups, g_unsafe_groups := PySem.W.mg_of X G a_unsafe_groups, k_unsafe_groups := b_unsafe_groups,
    f__law_mixed := f_law_mixed, d__law_mixed := _, F__law_mixed := F_law_mixed, g__law_mixed := PySem.W.mg_of X G a_law_mixed, k__law_mixed := b_law_mixed,
    f__law_rest := f_law_rest, d__law_rest := _, F__law_rest := F_law_rest, g__law_rest := PySem.W.mg_of X G a_law_rest, k__law_rest := b_law_rest,
    f__law_pool := f_law_pool, d__law_pool := _, F__law_pool := F_law_pool, g__law_pool := PySem.W.mg_of X G a_law_pool, k__law_pool := b_law_pool,
    f__law_draw := f_law_draw, d__law_draw := _, F__law_draw := F_law_draw, g__law_draw := PySem.W.mg_of X G a_law_draw, k__law_draw := b_law_draw,
    f__law_same := f_law_same, d__law_same := _, F__law_same := F_law_same, g__law_same := PySem.W.mg_of X G a_law_same, k__law_same := b_law_same,
    f__law_name := f_law_name, d__law_name := _, F__law_name := F_law_name, g__law_name := PySem.W.mg_of X G a_law_name, k__law_name := b_law_name,
    f__law_fresh := f_law_fresh, d__law_fresh := _, F__law_fresh := F_law_fresh, g__law_fresh := PySem.W.mg_of X G a_law_fresh, k__law_fresh := b_law_fresh,
    f__law_sums := f_law_sums, d__law_sums := _, F__law_sums := F_law_sums, g__law_sums := PySem.W.mg_of X G a_law_sums, k__law_sums := b_law_sums,
    f__law_apart := f_law_apart, d__law_apart := _, F__law_apart := F_law_apart, g__law_apart := PySem.W.mg_of X G a_law_apart, k__law_apart := b_law_apart,
    f__law_nodes := f_law_nodes, d__law_nodes := _, F__law_nodes := F_law_nodes, g__law_nodes := PySem.W.mg_of X G a_law_nodes, k__law_nodes := b_law_nodes,
    f__law_weight := f_law_weight, d__law_weight := _, F__law_weight := F_law_weight, g__law_weight := PySem.W.mg_of X G a_law_weight, k__law_weight := b_law_weight,
    f__law_group := f_law_group, d__law_group := _, F__law_group := F_law_group, g__law_group := PySem.W.mg_of X G a_law_group, k__law_group := b_law_group,
    f_law := _, d_law := _, F_law := F_law, g_law := PySem.W.mg_of X G a_law, k_law := b_law,
    b_bool := PySem.W.mg_none_of X G z_bool,
    b_dict := PySem.W.mg_none_of X G z_dict,
    b_int := PySem.W.mg_none_of X G z_int,
    b_isinstance := PySem.W.mg_none_of X G z_isinstance,
    b_len := PySem.W.mg_none_of X G z_len,
    b_list := PySem.W.mg_none_of X G z_list,
    b_range := PySem.W.mg_none_of X G z_range,
    b_sorted := PySem.W.mg_none_of X G z_sorted,
    b_str := PySem.W.mg_none_of X G z_str,
    b_sum := PySem.W.mg_none_of X G z_sum,
    b_tuple := PySem.W.mg_none_of X G z_tuple }
  exact ⟨_, fun s v => .of_eq rfl, fun base _ _ => ok_law T⟩
end Law
open PySem PySem.W PyProof.Rows
set_option maxRecDepth 100000 in
set_option maxHeartbeats 0 in
theorem PySem.Challenge.cw_storelife_k29_thresholds_holds : PySem.Challenge.rw_storelife_k29_thresholds.Holds := by
  w_on; o_law; k_head; (case hw => w_witness2)
  k_fill
  refine L2.walk_of (l := PySem.Challenge.rw_storelife_k29_thresholds) (n := 63) (k := 7) (x := "script") (CX := fun _ => L2.CX0) (sp := fun w => Law.sp_law _) rfl (by decide) rfl ⟨rfl, by decide, by decide⟩ (fun w h Y => PySem.W.kIn_of Y) ?F (fun _ H a ns hl hO hS => Law.start_law hO hl hS) (fun _ _ _ _ _ h => h)
  case F =>
    intro w mg fa h KX G hmg
    refine' Law.all_mk KX G hmg ?a_all_groups ?l_all_groups ?c_all_groups ?k_all_groups ?a_weight_of_group ?l_weight_of_group ?c_weight_of_group ?k_weight_of_group ?a_unsafe_groups ?l_unsafe_groups ?c_unsafe_groups ?k_unsafe_groups ?a_law_mixed ?l_law_mixed ?c_law_mixed ?k_law_mixed ?a_law_rest ?l_law_rest ?c_law_rest ?k_law_rest ?a_law_pool ?l_law_pool ?c_law_pool ?k_law_pool ?a_law_draw ?l_law_draw ?c_law_draw ?k_law_draw ?a_law_same ?l_law_same ?c_law_same ?k_law_same ?a_law_name ?l_law_name ?c_law_name ?k_law_name ?a_law_fresh ?l_law_fresh ?c_law_fresh ?k_law_fresh ?a_law_sums ?l_law_sums ?c_law_sums ?k_law_sums ?a_law_apart ?l_law_apart ?c_law_apart ?k_law_apart ?a_law_nodes ?l_law_nodes ?c_law_nodes ?k_law_nodes ?a_law_weight ?l_law_weight ?c_law_weight ?k_law_weight ?a_law_group ?l_law_group ?c_law_group ?k_law_group ?a_law ?l_law ?c_law ?k_law ?z_bool ?z_dict ?z_int ?z_isinstance ?z_len ?z_list ?z_range ?z_sorted ?z_str ?z_sum ?z_tuple
    (case a_all_groups => k_is)
    (case l_all_groups => k_is)
    (case c_all_groups => k_is)
    (case k_all_groups => k_is)
    (case a_weight_of_group => k_is)
    (case l_weight_of_group => k_is)
    (case c_weight_of_group => k_is)
    (case k_weight_of_group => k_is)
    (case a_unsafe_groups => k_is)
    (case l_unsafe_groups => k_is)
    (case c_unsafe_groups => k_is)
    (case k_unsafe_groups => k_is)
    (case a_law_mixed => k_is)
    (case l_law_mixed => k_is)
    (case c_law_mixed => k_is)
    (case k_law_mixed => k_is)
    (case a_law_rest => k_is)
    (case l_law_rest => k_is)
    (case c_law_rest => k_is)
    (case k_law_rest => k_is)
    (case a_law_pool => k_is)
    (case l_law_pool => k_is)
    (case c_law_pool => k_is)
    (case k_law_pool => k_is)
    (case a_law_draw => k_is)
    (case l_law_draw => k_is)
    (case c_law_draw => k_is)
    (case k_law_draw => k_is)
    (case a_law_same => k_is)
    (case l_law_same => k_is)
    (case c_law_same => k_is)
    (case k_law_same => k_is)
    (case a_law_name => k_is)
    (case l_law_name => k_is)
    (case c_law_name => k_is)
    (case k_law_name => k_is)
    (case a_law_fresh => k_is)
    (case l_law_fresh => k_is)
    (case c_law_fresh => k_is)
    (case k_law_fresh => k_is)
    (case a_law_sums => k_is)
    (case l_law_sums => k_is)
    (case c_law_sums => k_is)
    (case k_law_sums => k_is)
    (case a_law_apart => k_is)
    (case l_law_apart => k_is)
    (case c_law_apart => k_is)
    (case k_law_apart => k_is)
    (case a_law_nodes => k_is)
    (case l_law_nodes => k_is)
    (case c_law_nodes => k_is)
    (case k_law_nodes => k_is)
    (case a_law_weight => k_is)
    (case l_law_weight => k_is)
    (case c_law_weight => k_is)
    (case k_law_weight => k_is)
    (case a_law_group => k_is)
    (case l_law_group => k_is)
    (case c_law_group => k_is)
    (case k_law_group => k_is)
    (case a_law => k_is)
    (case l_law => k_is)
    (case c_law => k_is)
    (case k_law => k_is)
    (case z_bool => k_is)
    (case z_dict => k_is)
    (case z_int => k_is)
    (case z_isinstance => k_is)
    (case z_len => k_is)
    (case z_list => k_is)
    (case z_range => k_is)
    (case z_sorted => k_is)
    (case z_str => k_is)
    (case z_sum => k_is)
    (case z_tuple => k_is)

