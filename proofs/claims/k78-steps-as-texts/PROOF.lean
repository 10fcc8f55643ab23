import PyProof.Rows.All
import Wide.All
import OpenK.AllK
import Wide.FinOn
import HandS.ForMost
import HandS.ForExc
import HandS.OwnEq
import HandS.Lambda
import HandS.EndTab
import HandS.FStr
import HandS.TryMany
import HandS.ExcField
import HandS.ExcInit
import HandS.ExcInitHot
import HandS.RaiseFrom
import HandS.Strs
import HandS.Star
import HandS.SetFor
import HandS.IsInst
import HandS.Codes
import HandS.Defaults
import HandS.Flow
import HandS.CallLocal
import HandS.Walk
import HandS.SetBool
import HandS.SetKeys
import KE.KStateDown
import HandS.Head0
import HandS.Head1
import HandS.Head2
import HandS.HeadHook1
import HandS.HeadHook2
import HandS.HeadHook3
import HandS.HeadHook4
import PySem.Challenge.RW_searchorders_k78_steps_as_texts
set_option Elab.async false
set_option linter.all false
set_option maxRecDepth 100000
section
/-! k78, part A1: data trees, what stands for them in the heap, steps of knowledge -/
set_option maxHeartbeats 4000000
namespace SO
open PySem PySem.Spec PyProof.Rows L2 LamX

/-- a value of the program, as a tree: an order by its columns; emp: an empty dict -/
inductive D where
  | non | bl (b : Bool) | int (i : Int) | str (x : Str) | lst (xs : List D) | tup (xs : List D) | ord (cs : List Str) | emp

def ordF (l : Addr) : List (Str × V) := [("own_columns", .ref l)]
mutual
/-- v stands for the tree, in H (C: the class Order) -/
def Rp (C : Addr) (H : Hp) : D → V → Prop
  | .non, v => v = .non
  | .bl b, v => v = .bl b
  | .int i, v => v = .int i
  | .str x, v => v = .str x
  | .lst ds, v => ∃ a vs, v = .ref a ∧ H a = some (.lst vs) ∧ RpL C H ds vs
  | .tup ds, v => ∃ a vs, v = .ref a ∧ H a = some (.tup vs) ∧ RpL C H ds vs
  | .ord cs, v => ∃ a dx l, v = .ref a ∧ H a = some (.ins C dx (ordF l)) ∧ H l = some (.lst (cs.map V.str))
  | .emp, v => ∃ a, v = .ref a ∧ H a = some (.dK [])
def RpL (C : Addr) (H : Hp) : List D → List V → Prop
  | [], vs => vs = []
  | d :: ds, vs => ∃ v r, vs = v :: r ∧ Rp C H d v ∧ RpL C H ds r
end

def Sub (K H : Hp) : Prop := ∀ a o, K a = some o → H a = some o
theorem Sub.refl (K : Hp) : Sub K K := fun _ _ h => h
theorem Sub.trans {A B E : Hp} (x : Sub A B) (y : Sub B E) : Sub A E := fun a o h => y a o (x a o h)
theorem Sub.same {A B : Hp} (x : Same A B) : Sub A B := x
theorem Sub.none {A B : Hp} (x : Sub A B) {p : Addr} (h : B p = none) : A p = none := by
  cases e : A p with
  | none => rfl
  | some o => rw [x p o e] at h; cases h
theorem Sub.upd {A B : Hp} (x : Sub A B) (p : Addr) (o : HO) : Sub (upd A p o) (upd B p o) := fun a u h => by
  by_cases e : a = p
  · subst e; rw [upd_same] at h ⊢; exact h
  · rw [upd_ne e] at h ⊢; exact x a u h
theorem Sub.new {A : Hp} {p : Addr} {o : HO} (h : A p = Option.none) : Sub A (L2.upd A p o) := fun a u e => by
  rw [upd_ne (ne_of_none e h)]; exact e

mutual
theorem Rp.mono {C : Addr} {H H' : Hp} (s : Sub H H') : ∀ {d : D} {v : V}, Rp C H d v → Rp C H' d v
  | .non, _, h => h
  | .bl _, _, h => h
  | .int _, _, h => h
  | .str _, _, h => h
  | .lst ds, v, ⟨a, vs, e, h1, h2⟩ => ⟨a, vs, e, s _ _ h1, RpL.mono s h2⟩
  | .tup ds, v, ⟨a, vs, e, h1, h2⟩ => ⟨a, vs, e, s _ _ h1, RpL.mono s h2⟩
  | .ord cs, v, ⟨a, dx, l, e, h1, h2⟩ => ⟨a, dx, l, e, s _ _ h1, s _ _ h2⟩
  | .emp, v, ⟨a, e, h⟩ => ⟨a, e, s _ _ h⟩
theorem RpL.mono {C : Addr} {H H' : Hp} (s : Sub H H') : ∀ {ds : List D} {vs : List V}, RpL C H ds vs → RpL C H' ds vs
  | [], _, h => h
  | d :: ds, vs, ⟨v, r, e, h1, h2⟩ => ⟨v, r, e, Rp.mono s h1, RpL.mono s h2⟩
end
theorem RpL.len {C : Addr} {H : Hp} : ∀ {ds : List D} {vs : List V}, RpL C H ds vs → vs.length = ds.length
  | [], _, h => by rw [show _ = [] from h]; rfl
  | d :: ds, vs, ⟨v, r, e, h1, h2⟩ => by rw [e, List.length_cons, List.length_cons, RpL.len h2]
theorem RpL.get {C : Addr} {H : Hp} : ∀ {ds : List D} {vs : List V} {i : Nat} {d : D}, RpL C H ds vs → ds[i]? = some d → ∃ v, vs[i]? = some v ∧ Rp C H d v
  | [], _, i, d, h, e => by simp at e
  | d :: ds, vs, 0, d', ⟨v, r, e, h1, h2⟩, q => by
    simp at q; subst q; subst e
    exact ⟨v, rfl, h1⟩
  | d :: ds, vs, i + 1, d', ⟨v, r, e, h1, h2⟩, q => by
    subst e
    obtain ⟨u, a, b⟩ := RpL.get (i := i) h2 (by simpa using q)
    exact ⟨u, by simpa using a, b⟩
theorem RpL.get' {C : Addr} {H : Hp} : ∀ {ds : List D} {vs : List V} {i : Nat} {v : V}, RpL C H ds vs → vs[i]? = some v → ∃ d, ds[i]? = some d ∧ Rp C H d v := fun {ds vs i v} h e => by
  have hl := (List.getElem?_eq_some_iff.mp e).1
  rw [h.len] at hl
  obtain ⟨u, a, b⟩ := h.get (List.getElem?_eq_getElem hl)
  rw [e] at a; cases a
  exact ⟨_, List.getElem?_eq_getElem hl, b⟩
theorem RpL.app {C : Addr} {H : Hp} : ∀ {ds es : List D} {vs us : List V}, RpL C H ds vs → RpL C H es us → RpL C H (ds ++ es) (vs ++ us)
  | [], _, _, _, h, k => by rw [show _ = [] from h]; exact k
  | d :: ds, es, vs, us, ⟨v, r, e, h1, h2⟩, k => ⟨v, r ++ us, by rw [e]; rfl, h1, RpL.app h2 k⟩
theorem RpL.one {C : Addr} {H : Hp} {d : D} {v : V} (h : Rp C H d v) : RpL C H [d] [v] := ⟨v, [], rfl, h, rfl⟩
theorem RpL.drop {C : Addr} {H : Hp} : ∀ (n : Nat) {ds : List D} {vs : List V}, RpL C H ds vs → RpL C H (ds.drop n) (vs.drop n)
  | 0, _, _, h => h
  | n + 1, [], vs, h => by rw [show _ = [] from h]; rfl
  | n + 1, d :: ds, vs, ⟨v, r, e, h1, h2⟩ => by rw [e]; exact RpL.drop n h2
theorem RpL.take {C : Addr} {H : Hp} : ∀ (n : Nat) {ds : List D} {vs : List V}, RpL C H ds vs → RpL C H (ds.take n) (vs.take n)
  | 0, _, _, h => rfl
  | n + 1, [], vs, h => by rw [show _ = [] from h]; rfl
  | n + 1, d :: ds, vs, ⟨v, r, e, h1, h2⟩ => by rw [e]; exact ⟨v, _, rfl, h1, RpL.take n h2⟩
theorem RpL.strs {C : Addr} {H : Hp} : ∀ (ss : List Str), RpL C H (ss.map D.str) (ss.map V.str)
  | [] => rfl
  | s :: ss => ⟨_, _, rfl, rfl, RpL.strs ss⟩
theorem RpL.strs_inv {C : Addr} {H : Hp} : ∀ {ss : List Str} {vs : List V}, RpL C H (ss.map D.str) vs → vs = ss.map V.str
  | [], _, h => h
  | s :: ss, _, ⟨v, r, e, h1, h2⟩ => by rw [e, RpL.strs_inv h2, show v = _ from h1]; rfl

/-- what is asked of the tables of code objects: nothing is told | these are kept -/
abbrev TB := Option (List (Addr × Str))
def TbOk (tb : TB) (H : Hp) : Prop := ∀ T, tb = some T → Tabs T H
/-- H, of which K was known, has become H', of which K' is known; what was not known stands (but the tables, where tb tells some) -/
structure Step (tb : TB) (K H K' H' : Hp) : Prop where
  sub : Sub K' H'
  fr : ∀ a o, K a = none → H a = some o → (tb = none ∨ ∀ ps, o ≠ .tbl ps) → H' a = some o ∧ K' a = none
  tab : ∀ T, (tb = none ∨ tb = some T) → Tabs T H → Tabs T H'
section
variable {tb : TB} {K H K' H' K2 H2 : Hp}
theorem Step.ok (a : Step tb K H K' H') (h : TbOk tb H) : TbOk tb H' := fun T e => a.tab T (.inr e) (h T e)
theorem Step.refl (s : Sub K H) : Step tb K H K H := ⟨s, fun a o k h _ => ⟨h, k⟩, fun _ _ t => t⟩
theorem Step.trans (a : Step tb K H K' H') (b : Step tb K' H' K2 H2) : Step tb K H K2 H2 :=
  ⟨b.sub, fun c o k h n => let ⟨x, y⟩ := a.fr c o k h n; b.fr c o y x n, fun T e t => b.tab T e (a.tab T e t)⟩
theorem Step.less (a : Step tb K H K' H') (s : Sub K2 K') : Step tb K H K2 H' :=
  ⟨s.trans a.sub, fun c o k h n => let ⟨x, y⟩ := a.fr c o k h n; ⟨x, s.none y⟩, a.tab⟩
theorem Step.to (a : Step none K H K' H') : Step tb K H K' H' := ⟨a.sub, fun c o k h _ => a.fr c o k h (.inl rfl), fun T _ t => a.tab T (.inl rfl) t⟩
/-- a part of the known is left out -/
theorem Step.part {K0 K1 : Hp} (a : Step tb K0 H K1 H') (s : Sub K0 K) (h : ∀ c o, K0 c = none → K c = some o → (tb = none ∨ ∀ ps, o ≠ .tbl ps) → K2 c = some o ∨ K2 c = none) (h2 : ∀ c o, K2 c = some o → H' c = some o) (h3 : ∀ c, K c = none → K1 c = none → K2 c = none) : Step tb K H K2 H' := by
  refine ⟨h2, fun c o k e n => ?_, a.tab⟩
  obtain ⟨x, y⟩ := a.fr c o (s.none k) e n
  exact ⟨x, h3 c k y⟩
/-- only new things -/
theorem Step.same (s : Sub K H) (e : Same H H') : Step tb K H K H' := ⟨s.trans e, fun a o k h _ => ⟨e a o h, k⟩, fun T _ t => t.ext e⟩
/-- a new thing at p, which is known from now on -/
theorem Step.new {p : Addr} {o : HO} (s : Sub K H) (h : H p = none) : Step tb K H (upd K p o) (upd H p o) :=
  ⟨s.upd p o, fun a u k e _ => ⟨by rw [upd_ne (ne_of_none e h)]; exact e, by rw [upd_ne (ne_of_none e h)]; exact k⟩, fun T _ t => t.ext fun a u e => by rw [upd_ne (ne_of_none e h)]; exact e⟩
/-- what may be written: no table, no code object -/
def Wr : HO → Prop
  | .lst _ => True
  | .dK _ => True
  | .dT _ => True
  | .ins _ _ _ => True
  | _ => False
theorem Tabs.wr {T : List (Addr × Str)} {p : Addr} {o u : HO} (t : Tabs T H) (h : H p = some o) (w : Wr o) : Tabs T (upd H p u) := fun q hq => by
  obtain ⟨ps, h1, h2, h3⟩ := t q hq
  have n1 : q.1 ≠ p := fun e => by rw [e, h] at h1; cases h1; exact w
  refine ⟨ps, by rw [upd_ne n1]; exact h1, h2, fun pos cv hc => ?_⟩
  obtain ⟨c, e1, e2⟩ := h3 pos cv hc
  have nc : c ≠ p := fun e => by
    rw [e, h] at e2
    have e3 := Option.some.inj e2
    unfold CodeO at e3
    rw [e3] at w
    exact w
  exact ⟨c, e1, by rw [upd_ne nc]; exact e2⟩
/-- a known thing is written -/
theorem Step.mut {p : Addr} {o u : HO} (s : Sub K H) (h : K p = some o) (w : Wr o) : Step tb K H (upd K p u) (upd H p u) :=
  ⟨s.upd p u, fun a v k e _ => by
    have n : a ≠ p := fun z => by rw [z, h] at k; cases k
    exact ⟨by rw [upd_ne n]; exact e, by rw [upd_ne n]; exact k⟩, fun T _ t => Tabs.wr t (s p o h) w⟩
end

/-! ### local readings -/
/-- with K known, f comes to some v and K' of which P speaks, whatever else there is -/
def Lo {α : Type} (tb : TB) (f : Hp → (α → Hp → Prop) → Prop) (K : Hp) (P : α → Hp → Prop) : Prop :=
  ∀ H, Sub K H → TbOk tb H → ∀ Q : α → Hp → Prop, (∀ v K' H', P v K' → Step tb K H K' H' → Q v H') → f H Q
section
variable {tb : TB} {α β : Type} {K : Hp} {σ : L2.St}
theorem Lo.mono {f : Hp → (α → Hp → Prop) → Prop} {P P' : α → Hp → Prop} (h : Lo tb f K P) (k : ∀ v K', P v K' → P' v K') : Lo tb f K P' := fun H s t Q q => h H s t Q fun v K' H' p st => q v K' H' (k v K' p) st
theorem Lo.pure {v : α} {P : α → Hp → Prop} (h : P v K) : Lo tb (fun H Q => Q v H) K P := fun H s t Q q => q v K H h (.refl s)
theorem Lo.bind {g : Hp → (β → Hp → Prop) → Prop} {h : β → Hp → (α → Hp → Prop) → Prop} {A : β → Hp → Prop} {P : α → Hp → Prop} (a : Lo tb g K A) (b : ∀ x K1, A x K1 → Lo tb (h x) K1 P) : Lo tb (fun H Q => g H fun x H1 => h x H1 Q) K P :=
  fun H s t Q q => a H s t _ fun x K1 H1 p st => b x K1 p H1 st.sub (st.ok t) Q fun v K' H' p' st' => q v K' H' p' (st.trans st')
/-- the tables don't matter here -/
theorem Lo.to {f : Hp → (α → Hp → Prop) → Prop} {P : α → Hp → Prop} (h : Lo none f K P) : Lo tb f K P := fun H s t Q q => h H s (fun _ e => nomatch e) Q fun v K' H' p st => q v K' H' p st.to
end
end SO
end
section
/-! k78, part A2: the text by places; what the top has written; is_name, is_list, split_words -/
set_option maxHeartbeats 4000000
namespace SO
open PySem PySem.Spec PyProof.Rows L2 LamX

def topS (i : Nat) : Stmt := PySem.Challenge.pw_searchorders_k78_steps_as_texts.main.body.getD i (.Pass ⟨0, 0, 0, 0⟩)
abbrev sIsName : Stmt := topS 14
abbrev sIsList : Stmt := topS 15
abbrev sSplit : Stmt := topS 16
abbrev sChecked : Stmt := topS 19
abbrev sOInit : Stmt := inClass (topS 20) 0
abbrev sOCols : Stmt := inClass (topS 20) 1
abbrev sOEq : Stmt := inClass (topS 20) 5
abbrev sOStr : Stmt := inClass (topS 20) 6
abbrev sORepr : Stmt := inClass (topS 20) 7
abbrev sParseOrder : Stmt := topS 21
abbrev sIsStep : Stmt := topS 26
abbrev sStepText : Stmt := topS 30
abbrev sParseStep : Stmt := topS 31
abbrev sStepsText : Stmt := topS 32
abbrev sParseSteps : Stmt := topS 33
def letters : Str := "abcdefghijklmnopqrstuvwxyz"

/-- what the module's names hold -/
structure Txt (K : PySem.W.Frag) (mg : Str → Option Value) (C : Addr) : Prop where
  isinstance : mg "isinstance" = none
  len : mg "len" = none
  str : mg "str" = none
  list : mg "list" = none
  tuple : mg "tuple" = none
  set : mg "set" = none
  all : mg "all" = none
  range : mg "range" = none
  enumerate : mg "enumerate" = none
  max : mg "max" = none
  min : mg "min" = none
  repr : mg "repr" = none
  LETTERS : ∃ t, mg "LETTERS" = some (.str letters t)
  LONGEST_NAME : ∃ t, mg "LONGEST_NAME" = some (.int 8 t)
  MOST_COLUMNS : ∃ t, mg "MOST_COLUMNS" = some (.int 5 t)
  BUILD : ∃ t, mg "BUILD" = some (.str "build" t)
  RELAY : ∃ t, mg "RELAY" = some (.str "relay" t)
  DROP : ∃ t, mg "DROP" = some (.str "drop" t)
  MOST_STEPS : ∃ t, mg "MOST_STEPS" = some (.int 100 t)
  TOWARDS : ∃ t, mg "TOWARDS" = some (.str " > " t)
  Order : mg "Order" = some (.ref C)
  clO : Cls K C
  nOc : NoAttr K C "own_columns"

theorem ifT {c : Bool} {A B : Prop} (h : c = true) (x : A) : if c = true then A else B := by
  rw [if_pos h]; exact x
theorem ifF {c : Bool} {A B : Prop} (h : c = false) (x : B) : if c = true then A else B := by
  rw [h, if_neg Bool.false_ne_true]; exact x
theorem ifB {c : Bool} {A B : Prop} (x : c = true → A) (y : c = false → B) : if c = true then A else B := by
  cases c with
  | true => exact ifT rfl (x rfl)
  | false => exact ifF rfl (y rfl)
section
variable {X : Cx} {x : Str} {pos : Pos}
/-- a constant of the module -/
theorem pgi {i : Int} (h : ∃ t, X.mg x = some (.int i t)) (hg : Gl X x := by rfl) (hd : (x == ("__debug__" : Str)) = false := by decide) : PE X (.Name x pos) (tC (.int i)) := by
  obtain ⟨t, e⟩ := h
  exact pe_glob hg e ⟨t, rfl⟩ hd
theorem pgs {z : Str} (h : ∃ t, X.mg x = some (.str z t)) (hg : Gl X x := by rfl) (hd : (x == ("__debug__" : Str)) = false := by decide) : PE X (.Name x pos) (tC (.str z)) := by
  obtain ⟨t, e⟩ := h
  exact pe_glob hg e ⟨t, rfl⟩ hd
end
/-- the class of the value's tree -/
def tyD (C : Addr) : D → Value
  | .non => .type "NoneType"
  | .bl _ => .type "bool"
  | .int _ => .type "int"
  | .str _ => .type "str"
  | .lst _ => .type "list"
  | .tup _ => .type "tuple"
  | .ord _ => .ref C
  | .emp => .type "dict"
structure IsC (K : PySem.W.Frag) (C : Addr) : Prop where
  cl : Cls K C
  ha : PySem.W.findIn K (.ref C) "__class__" = some (some (.builtin "object.__class__"))
  hn : PySem.W.specialIn K (.builtin "object.__class__") "__get__" = some (some (.builtin "getset_descriptor.__get__"))
  htk : PySem.W.takesIn K (.builtin "object.__class__") = some true
  hm : PySem.W.mroIn K C (.type "object") = some true
  kstr : PySem.W.kitOne K (.ref C) (.type "str") = some false
  klist : PySem.W.kitOne K (.ref C) (.type "list") = some false
  ktuple : PySem.W.kitOne K (.ref C) (.type "tuple") = some false
  kself : PySem.W.kitOne K (.ref C) (.ref C) = some true
  kty : ∀ n ∈ (["NoneType", "bool", "int", "str", "list", "tuple", "dict"] : List String), PySem.W.kitOne K (.type n) (.ref C) = some false
theorem Rp.ty {K : PySem.W.Frag} {C : Addr} {H : Hp} (I : IsC K C) : ∀ {d : D} {v : V}, Rp C H d v → TyX K H v (tyD C d)
  | .non, _, h => by rw [show _ = _ from h]; exact .base .non
  | .bl _, _, h => by rw [show _ = _ from h]; exact .base (.bl _)
  | .int _, _, h => by rw [show _ = _ from h]; exact .base (.int _)
  | .str _, _, h => by rw [show _ = _ from h]; exact .base (.str _)
  | .lst ds, v, ⟨a, vs, e, h1, h2⟩ => by rw [e]; exact .base (.lst h1)
  | .tup ds, v, ⟨a, vs, e, h1, h2⟩ => by rw [e]; exact .base (.tup h1)
  | .ord cs, v, ⟨a, dx, l, e, h1, h2⟩ => by rw [e]; exact .base (.ins h1 I.cl I.ha I.hn I.htk I.hm)
  | .emp, v, ⟨a, e, h⟩ => by rw [e]; exact .base (.dK h)
def isStr : D → Bool | .str _ => true | _ => false
def isLT : D → Bool | .lst _ => true | .tup _ => true | _ => false
def isTup : D → Bool | .tup _ => true | _ => false
def isOrd : D → Bool | .ord _ => true | _ => false
theorem kit_str {K : PySem.W.Frag} {C : Addr} (I : IsC K C) (d : D) : PySem.W.kitOne K (tyD C d) (.type "str") = some (isStr d) := by
  cases d <;> first | exact I.kstr | exact kit_ty (show kitB _ _ = some false by decide +kernel) | exact kit_ty (show kitB _ _ = some true by decide +kernel)
theorem kit_tup {K : PySem.W.Frag} {C : Addr} (I : IsC K C) (d : D) : PySem.W.kitOne K (tyD C d) (.type "tuple") = some (isTup d) := by
  cases d <;> first | exact I.ktuple | exact kit_ty (show kitB _ _ = some false by decide +kernel) | exact kit_ty (show kitB _ _ = some true by decide +kernel)
theorem kit_list {K : PySem.W.Frag} {C : Addr} (I : IsC K C) (d : D) : PySem.W.kitOne K (tyD C d) (.type "list") = some (match d with | .lst _ => true | _ => false) := by
  cases d <;> first | exact I.klist | exact kit_ty (show kitB _ _ = some false by decide +kernel) | exact kit_ty (show kitB _ _ = some true by decide +kernel)
theorem kit_lt {K : PySem.W.Frag} {C : Addr} (I : IsC K C) (d : D) : PySem.W.kitAny K (tyD C d) [.type "list", .type "tuple"] = some (isLT d) := by
  refine kitAny_cons (kit_list I d) (fun h => kitAny_cons (kit_tup I d) (fun h2 => ?_) fun h2 => ?_) fun h => ?_
  all_goals cases d <;> simp_all [isTup, isLT, PySem.W.kitAny]
theorem kit_ord {K : PySem.W.Frag} {C : Addr} (I : IsC K C) (d : D) : PySem.W.kitOne K (tyD C d) (.ref C) = some (isOrd d) := by
  cases d with
  | ord _ => exact I.kself
  | non => exact I.kty "NoneType" (by simp)
  | bl _ => exact I.kty "bool" (by simp)
  | int _ => exact I.kty "int" (by simp)
  | str _ => exact I.kty "str" (by simp)
  | lst _ => exact I.kty "list" (by simp)
  | tup _ => exact I.kty "tuple" (by simp)
  | emp => exact I.kty "dict" (by simp)
end SO
end
section
/-! k78, part A3: comprehensions of flat things; is_name, is_list, split_words -/
set_option maxHeartbeats 4000000
namespace SO
open PySem PySem.Spec PyProof.Rows L2 LamX

theorem Same.upd' {H H' : Hp} {p : Addr} {o : HO} (e : Same H H') (h : H p = none) : Same H (upd H' p o) := fun a u q => by
  rw [upd_ne (ne_of_none q h)]; exact e a u q
theorem Same.new {H H' : Hp} {p : Addr} {o : HO} (e : Same H H') (h : H' p = none) : Same H (upd H' p o) := Same.upd' e (e.free h)
/-- what a comprehension gives: v i for each i below n that is kept -/
def kept (n : Nat) (kp : Nat → Bool) (v : Nat → V) : List V := ((List.range n).filter kp).map v
theorem kept_succ (n : Nat) (kp : Nat → Bool) (v : Nat → V) : kept (n + 1) kp v = if kp n = true then kept n kp v ++ [v n] else kept n kp v := by
  unfold kept
  rw [List.range_succ, List.filter_append, List.map_append, List.filter_cons]
  split <;> simp
theorem kept_len (n : Nat) (kp : Nat → Bool) (v : Nat → V) : (kept n kp v).length ≤ n := by
  unfold kept
  rw [List.length_map]
  have h := List.length_filter_le kp (List.range n)
  rw [List.length_range] at h
  exact h
theorem kept_all (n : Nat) (v : Nat → V) : kept n (fun _ => true) v = (List.range n).map v := by
  unfold kept
  congr 1
  induction (List.range n) with
  | nil => rfl
  | cons a r ih => rw [List.filter_cons, if_pos rfl, ih]
theorem lc_flat {J : It} {n : Nat} {G : Hp → Prop} {Y : Nat → Hp → V → Hp → Prop} (w : Walk J n G Y) {g : TG} {tt : TT} {te : TE} {vs : List Nat} {σ : L2.St} {H1 : Hp} {D : Addr} {Qd : Hp → Prop} (kp : Nat → Bool) (v : Nat → V) (hn : n < sizeLine) (hD : H1 D = none)
    (hG : ∀ H', Same H1 H' → G H')
    (hs : ∀ i x H H', i < n → Same H1 H → Y i H x H' → g x (wipe σ vs) H' fun σ2 H2 => wipe σ2 vs = wipe σ vs ∧ ∀ (N0 : Hp → Prop) (N1 : V → Hp → Prop), (kp i = false → ∀ H3, Same H H3 → N0 H3) → (kp i = true → ∀ H3, Same H H3 → N1 (v i) H3) →
      tt σ2 H2 fun b H3 => if b = true then te σ2 H3 N1 else N0 H3)
    (mono : ∀ x σ H (N N' : L2.St → Hp → Prop), (∀ σ2 H2, N σ2 H2 → N' σ2 H2) → g x σ H N → g x σ H N')
    (hd : ∀ H', Same H1 H' → H' D = some (.lst (kept n kp v)) → Qd H') :
    ∃ W : Nat → Nat → Hp → Prop, (∃ m, W 0 m (upd H1 D (.lst []))) ∧ ∀ i m H, W i m H →
      (J.stop i H ∧ Qd H) ∨ (J.go i H ∧ ∃ Nx : Hp → Prop, (∀ H', Nx H' → ∃ m', m' < m ∧ W (i + 1) m' H') ∧ ∀ x H', J.yld i H x H' → g x (wipe σ vs) H' fun σ2 H2 => wipe σ2 vs = wipe σ vs ∧ tt σ2 H2 fun b H3 =>
        if b = true then te σ2 H3 fun y H4 => ∃ acc, H4 D = some (.lst acc) ∧ acc.length < sizeLine ∧ Nx (upd H4 D (.lst (acc ++ [y]))) else Nx H3) := by
  refine lc_it w (fun i H => Same H1 H ∧ H D = some (.lst (kept i kp v))) ⟨Same.upd' (Same.refl _) hD, upd_same⟩ (fun i H _ p => hG H p.1) (fun i x H H' hi p y => ?_) fun H p => hd H p.1 p.2
  refine mono _ _ _ _ _ (fun σ2 H2 q => ⟨q.1, q.2 _ _ (fun hk H3 e => ?_) fun hk H3 e => ?_⟩) (hs i x H H' hi p.1 y)
  · refine ⟨p.1.trans e, ?_⟩
    rw [kept_succ, if_neg (by rw [hk]; decide)]
    exact e _ _ p.2
  · refine ⟨kept i kp v, e _ _ p.2, Nat.lt_of_le_of_lt (kept_len i kp v) (by omega), Same.upd' (p.1.trans e) hD, ?_⟩
    rw [kept_succ, if_pos hk]
    exact upd_same
/-- .. all are kept -/
theorem lc_flatY {J : It} {n : Nat} {G : Hp → Prop} {Y : Nat → Hp → V → Hp → Prop} (w : Walk J n G Y) {g : TG} {te : TE} {vs : List Nat} {σ : L2.St} {H1 : Hp} {D : Addr} {Qd : Hp → Prop} (v : Nat → V) (hn : n < sizeLine) (hD : H1 D = none)
    (hG : ∀ H', Same H1 H' → G H')
    (mono : ∀ x σ H (N N' : L2.St → Hp → Prop), (∀ σ2 H2, N σ2 H2 → N' σ2 H2) → g x σ H N → g x σ H N')
    (hs : ∀ i x H H', i < n → Same H1 H → Y i H x H' → g x (wipe σ vs) H' fun σ2 H2 => wipe σ2 vs = wipe σ vs ∧ ∀ N1 : V → Hp → Prop, (∀ H3, Same H H3 → N1 (v i) H3) → te σ2 H2 N1)
    (hd : ∀ H', Same H1 H' → H' D = some (.lst ((List.range n).map v)) → Qd H') :
    ∃ W : Nat → Nat → Hp → Prop, (∃ m, W 0 m (upd H1 D (.lst []))) ∧ ∀ i m H, W i m H →
      (J.stop i H ∧ Qd H) ∨ (J.go i H ∧ ∃ Nx : Hp → Prop, (∀ H', Nx H' → ∃ m', m' < m ∧ W (i + 1) m' H') ∧ ∀ x H', J.yld i H x H' → g x (wipe σ vs) H' fun σ2 H2 => wipe σ2 vs = wipe σ vs ∧ tYes σ2 H2 fun b H3 =>
        if b = true then te σ2 H3 fun y H4 => ∃ acc, H4 D = some (.lst acc) ∧ acc.length < sizeLine ∧ Nx (upd H4 D (.lst (acc ++ [y]))) else Nx H3) := by
  refine lc_flat (tt := tYes) w (fun _ => true) v hn hD hG (fun i x H H' hi e y => ?_) mono fun H' e h => hd H' e (by rw [h, kept_all])
  refine mono _ _ _ _ _ (fun σ2 H2 q => ⟨q.1, fun N0 N1 _ n1 => ?_⟩) (hs i x H H' hi e y)
  show if true = true then te σ2 H2 N1 else N0 H2
  exact ifT rfl (q.2 N1 (n1 rfl))
theorem gName_mono {i : Nat} : ∀ (x : V) (σ : L2.St) (H : Hp) (N N' : L2.St → Hp → Prop), (∀ σ2 H2, N σ2 H2 → N' σ2 H2) → gName i x σ H N → gName i x σ H N' := fun _ _ _ _ _ k h => k _ _ h

theorem range_map {β : Type} (a : Array Nat) (f : Nat → β) : (List.range a.size).map (fun i => f (a[i]?.getD 0)) = a.toList.map f := by
  refine List.ext_getElem (by simp) fun i h1 h2 => ?_
  have h : i < a.size := by simpa using h1
  simp [h]
/-! ### is_name -/
def nameOk (x : Str) : Bool := (decide (0 < x.length) && decide (x.length ≤ 8)) && x.cps.toList.all fun c => decide (c ∈ letters.cps.toList)
def isName : D → Bool
  | .str x => nameOk x
  | _ => false
/-- texts within are not too long -/
def szOk : D → Prop
  | .str x => x.length ≤ 100000
  | _ => True
def spIsName (C : Addr) : Sp := fun vs H Q _ => ∃ v d, vs = [v] ∧ Rp C H d v ∧ szOk d ∧ ∀ H', Same H H' → Q (.bl (isName d)) H'
def spIsList (C : Addr) : Sp := fun vs H Q _ => ∃ v d, vs = [v] ∧ Rp C H d v ∧ ∀ H', Same H H' → Q (.bl (isLT d)) H'
theorem scIsName : FnScope ["value", "letter"] ["value"] (defScope sIsName) := ⟨rfl, rfl, rfl, by decide +kernel, rfl, by decide +kernel, by decide +kernel⟩
section
variable {P : Program} {w : World} {K : PySem.W.Frag} {mg : Str → Option Value} {base : Heap} {C : Addr}
theorem ok_isName {f : Addr} {fd : FuncData} (F : Fun K "is_name" "is_name" sIsName f fd) (T : Txt K mg C) (IC : IsC K C) : FnOk P w K mg base CX0 1 f fd ["value"] (spIsName C) := by
  refine F.ok scIsName (fun vs H Q E h => ?_) (fun cdv A outer s H vs Q E hr h => ?_)
  · obtain ⟨v, d, rfl, _⟩ := h
    rfl
  · obtain ⟨v, d, rfl, hv, hz, k⟩ := h
    refine ⟨_, pss_cons (ps_if (PW.pt (pw_or (pt_not (pt_val (pe_callB call_isi (by rfl) T.isinstance PyProof.Rows.boot_isinstance (pa_cons (pv 0) (pa_cons (pe_bltn (v := .ty "str") (by rfl) T.str (by decide +kernel) rfl) pa_nil)))))
        (pw_or1 (pt_not (pt_chain op_lt op_le pe_int (pe_callB call_len (by rfl) T.len PySem.boot_len (pa_cons (pv 0) pa_nil)) (pgi T.LONGEST_NAME)))))) (pss_one (ps_ret pe_bl)) pss_nil)
      (pss_one (ps_ret (pe_callB (cr_all rfl) (by rfl) T.all PyProof.Rows.boot_all (pa_cons
        (pe_lc (own := [("letter", 1)]) (g := gName 1) (tt := tYes) rfl scIsName.nd (pi_str (pv 0)) (blkOk_by (N := ["value", "letter"]) (sc := defScope sIsName) (by decide +kernel))
          (fun _ _ _ _ _ => pg_name (i := 1) scIsName.nd rfl (Or.inl rfl)) (fun _ _ _ _ _ => pts_nil) (fun _ _ _ _ _ => pe_cmpR op_in_sign (pv 1) (pgs T.LETTERS) (by rfl))) pa_nil)))), ?_⟩
    refine ⟨_, rfl, _, _, _, _, _, rfl, .ty "str", hv.ty IC, kit_str IC d, _, rfl, ?_⟩
    cases hs : isStr d with
    | false =>
      refine ifT rfl (ifT rfl ?_)
      have e : isName d = false := by cases d <;> first | rfl | cases hs
      rw [← e]
      exact k H (Same.refl H)
    | true =>
      obtain ⟨x, rfl⟩ : ∃ x, d = .str x := by cases d <;> first | exact ⟨_, rfl⟩ | cases hs
      obtain rfl : v = .str x := hv
      refine ifF rfl ?_
      have hz' : x.length ≤ sizeLine := Nat.le_trans hz (by decide)
      refine ⟨_, rfl, _, _, rfl, ⟨hz', rfl⟩, _, _, rfl, rfl, _, rfl, ?_⟩
      have no : nameOk x = false → Q (.bl false) H := fun e => by
        have q := k H (Same.refl H)
        rw [show isName (.str x) = false from e] at q
        exact q
      refine ifB (fun c1 => ?_) fun c1 => ⟨_, rfl, ifT rfl (no ?_)⟩
      · refine ⟨_, _, rfl, rfl, _, rfl, ifB (fun c2 => no ?_) fun c2 => ?_⟩
        · have c2 : (!decide ((x.length : Int) ≤ 8)) = true := c2
          have h2 : ¬ x.length ≤ 8 := by
            have q : (8 : Int) < x.length := by simpa using c2
            omega
          simp [nameOk, h2]
        · have c1 : decide ((0 : Int) < (x.length : Int)) = true := c1
          have c2 : (!decide ((x.length : Int) ≤ 8)) = false := c2
          have h1 : 0 < x.length := by simpa using c1
          have h2 : x.length ≤ 8 := by
            have q : (x.length : Int) ≤ 8 := by simpa using c2
            omega
          refine ⟨_, rfl, _, rfl, fun D hD => lc_flatY (walk_str (z := x)) (fun i => .bl (decide ((x.cps[i]?.getD 0) ∈ letters.cps.toList))) (by show x.length < sizeLine; exact Nat.lt_of_le_of_lt h2 (by decide)) hD (fun _ _ => True.intro) gName_mono (fun i y H2 H3 hi e y' => ?_) fun H' e hl => ?_⟩
          · obtain ⟨rfl, c, hc, rfl⟩ := y'
            refine ⟨rfl, fun N1 n1 => ⟨_, rfl, c, _, rfl, rfl, ?_⟩⟩
            have q := n1 H3 (Same.refl _)
            rw [hc] at q
            exact q
          · refine ⟨D, (List.range x.cps.size).map (fun i => decide ((x.cps[i]?.getD 0) ∈ letters.cps.toList)), rfl, .of ?_, ?_⟩
            · rw [hl, List.map_map]; rfl
            · have e2 : ((List.range x.cps.size).map (fun i => decide ((x.cps[i]?.getD 0) ∈ letters.cps.toList))).all id = x.cps.toList.all (fun c => decide (c ∈ letters.cps.toList)) := by
                rw [range_map x.cps (fun c => decide (c ∈ letters.cps.toList)), List.all_map]; rfl
              rw [e2]
              have q := k H' e
              rw [show isName (.str x) = x.cps.toList.all (fun c => decide (c ∈ letters.cps.toList)) by simp [isName, nameOk, h1, h2]] at q
              exact q
      · have c1 : decide ((0 : Int) < (x.length : Int)) = false := c1
        have h1 : ¬ 0 < x.length := by simpa using c1
        simp [nameOk, h1]
end
end SO
end
section
/-! k78, part A4: is_list, split_words, checked_columns -/
set_option maxHeartbeats 4000000
namespace SO
open PySem PySem.Spec PyProof.Rows L2 LamX

theorem scIsList : FnScope ["value"] ["value"] (defScope sIsList) := ⟨rfl, rfl, rfl, by decide +kernel, rfl, by decide +kernel, by decide +kernel⟩
theorem scSplit : FnScope ["text", "separator", "words"] ["text", "separator"] (defScope sSplit) := ⟨rfl, rfl, rfl, by decide +kernel, rfl, by decide +kernel, by decide +kernel⟩
theorem scChecked : FnScope ["columns", "found", "name"] ["columns"] (defScope sChecked) := ⟨rfl, rfl, rfl, by decide +kernel, rfl, by decide +kernel, by decide +kernel⟩
def blank : Str := " "
/-- the words of a text, or none -/
def splitWords (x : Str) : Option (List Str) := if 10 ∈ x.cps.toList then none else if inV (.str "") ((Txt.split x blank).map V.str) then none else some (Txt.split x blank)
def spSplit : Sp := fun vs H Q _ => ∃ x : Str, vs = [.str x, .str blank] ∧ x.length ≤ 100000 ∧ (splitWords x = none → ∀ H', Same H H' → Q .non H') ∧ (∀ ws, splitWords x = some ws → ∀ p H', H p = none → Same H H' → H' p = some (.lst (ws.map V.str)) → Q (.ref p) H')
/-- one to five distinct names -/
def namesOk (cs : List Str) : Prop := 1 ≤ cs.length ∧ cs.length ≤ 5 ∧ (∀ c ∈ cs, nameOk c = true) ∧ cs.Nodup
def spChecked : Sp := fun vs H Q _ => ∃ a cs, vs = [.ref a] ∧ H a = some (.lst (cs.map V.str)) ∧ namesOk cs ∧ ∀ p H', H p = none → Same H H' → H' p = some (.lst (cs.map V.str)) → Q (.ref p) H'
/-- a def of the module, ready to be called -/
def Fk (P : Program) (w : World) (K : PySem.W.Frag) (mg : Str → Option Value) (base : Heap) (CX : CXT) (k : Nat) (x : Str) (ps : List Str) (sp : Sp) : Prop :=
  ∃ f fd ds, FnOk P w K mg base CX k f fd ps sp ∧ mg x = some (.ref f) ∧ PySem.W.keepIn K (.ref f) = true ∧ Binds K fd ps ds ∧ ds = []
section
variable {X : Cx} {k : Nat} {x : Str} {ps : List Str} {sp : Sp} {e : Expr} {es : List Expr} {t : TA} {p pos : Pos}
theorem pcall (F : Fk X.prog X.w X.K X.mg X.base CX0 k x ps sp) (hr : Room k X.A) (ha : PA X (e :: es) t) (hg : Gl X x := by rfl) (hdb : (x == ("__debug__" : Str)) = false := by decide)
    (he : starEach (e :: es) X.env = (false, eval e X.env) :: starEach es X.env := by rfl) (hpl : (backTo pos (starEach es X.env)).any (·.1) = false := by rfl) : PE X (.Call (.Name x p) (e :: es) [] pos) (tCall sp [] E0 t) := by
  obtain ⟨f, fd, ds, G, m, kp, b, rfl⟩ := F
  exact pe_call G hr hg m kp b .nil pass0 ha hdb he hpl
end
section
variable {P : Program} {w : World} {K : PySem.W.Frag} {mg : Str → Option Value} {base : Heap} {C : Addr}
theorem ok_isList {f : Addr} {fd : FuncData} (F : Fun K "is_list" "is_list" sIsList f fd) (T : Txt K mg C) (IC : IsC K C) : FnOk P w K mg base CX0 1 f fd ["value"] (spIsList C) := by
  refine F.ok scIsList (fun vs H Q E h => ?_) (fun cdv A outer s H vs Q E hr h => ?_)
  · obtain ⟨v, d, rfl, _⟩ := h
    rfl
  · obtain ⟨v, d, rfl, hv, k⟩ := h
    refine ⟨_, pss_one (ps_ret (pe_callB call_isiT (by rfl) T.isinstance PyProof.Rows.boot_isinstance (pa_cons (pv 0) (pa_cons
      (pe_tup (pa_cons (pe_bltn (v := .ty "list") (by rfl) T.list (by decide +kernel) rfl) (pa_cons (pe_bltn (v := .ty "tuple") (by rfl) T.tuple (by decide +kernel) rfl) pa_nil))) pa_nil)))), ?_⟩
    refine ⟨_, rfl, (by show 2 ≤ sizeLine; decide), fun p hp => ⟨_, p, _, _, _, _, rfl, upd_same, .cons (.ty _) (.cons (.ty _) .nil), (hv.mono (Sub.new hp)).ty IC, kit_lt IC d, ?_⟩⟩
    exact k _ (Same.upd' (Same.refl _) hp)
theorem ok_split {f : Addr} {fd : FuncData} {kws : List (Str × V)} (F : FunD K "split_words" "split_words" (defArgs sSplit) (defBody sSplit) (defScope sSplit) [] kws f fd) (T : Txt K mg C) : FnOk P w K mg base CX0 1 f fd ["text", "separator"] spSplit := by
  refine F.ok scSplit (fun vs H Q E h => ?_) (fun cdv A outer s H vs Q E hr h => ?_)
  · obtain ⟨x, rfl, _⟩ := h
    rfl
  · obtain ⟨x, rfl, hz, k1, k2⟩ := h
    refine ⟨_, pss_cons (ps_if (PW.pt (pw_or (pt_not (pt_val (pe_callB call_isi (by rfl) T.isinstance PyProof.Rows.boot_isinstance (pa_cons (pv 0) (pa_cons (pe_bltn (v := .ty "str") (by rfl) T.str (by decide +kernel) rfl) pa_nil)))))
        (pw_or1 (pt_cmpR op_in_sign pe_str (pv 0) (by rfl))))) (pss_one (ps_ret pe_non)) pss_nil)
      (pss_cons (ps_set (i := 2) scSplit.nd rfl (Or.inl rfl) (pe_bm PySem.F.plainAttrs_str PySem.F.slot_str_split PySem.F.type_str_split mt_split (pv 0) (pa_cons (pv 1) pa_nil)))
      (pss_one (ps_ret (pe_ifExp (pt_cmpR op_in_seq pe_str (pv 2) (by rfl)) pe_non (pv 2))))), ?_⟩
    refine ⟨_, rfl, _, _, _, _, _, rfl, .ty "str", .base (.str x), kit_ty (show kitB "str" "str" = some true by decide +kernel), _, rfl, ifF rfl ?_⟩
    refine ⟨_, rfl, 10, x, rfl, rfl, _, rfl, ifB (fun c => ?_) fun c => ?_⟩
    · have c' : 10 ∈ x.cps.toList := of_decide_eq_true c
      exact k1 (by unfold splitWords; rw [if_pos c']) H (Same.refl H)
    · have c' : ¬ 10 ∈ x.cps.toList := of_decide_eq_false c
      refine ⟨_, rfl, rfl, _, rfl, x, blank, rfl, rfl, rfl, (by have : sizeLine = 16777216 := sizeLine_eq; omega), fun p hp => ?_⟩
      refine ⟨_, rfl, p, _, rfl, .inl (SqL.of upd_same), rfl, by simp [flatV], ?_⟩
      refine ⟨_, rfl, ifB (fun c2 => ?_) fun c2 => ?_⟩
      · exact k1 (by unfold splitWords; rw [if_neg c', if_pos (show inV _ _ = true from c2)]) _ (Same.upd' (Same.refl _) hp)
      · refine ⟨_, rfl, k2 _ (by unfold splitWords; rw [if_neg c', if_neg (by rw [show inV _ _ = false from c2]; decide)]) p _ hp (Same.upd' (Same.refl _) hp) upd_same⟩
theorem flat_strs (ss : List Str) : (ss.map V.str).all flatV = true := by
  rw [List.all_map, List.all_eq_true]; intro x _; rfl
theorem nodup_no {cs : List Str} (h : cs.Nodup) {i : Nat} {c : Str} (e : cs[i]? = some c) : inV (.str c) ((cs.take i).map V.str) = false := by
  unfold inV
  rw [List.any_eq_false]
  intro y hy
  obtain ⟨z, hz, rfl⟩ := List.mem_map.mp hy
  intro q
  have e2 : z = c := by simpa [eqV] using q
  subst e2
  obtain ⟨j, hj, ej⟩ := List.mem_iff_getElem.mp hz
  rw [List.length_take] at hj
  rw [List.getElem_take] at ej
  have hi := (List.getElem?_eq_some_iff.mp e).1
  have ei := (List.getElem?_eq_some_iff.mp e).2
  have := (List.getElem_inj h).mp (ej.trans ei.symm)
  omega
theorem ok_checked {f : Addr} {fd : FuncData} (F : Fun K "checked_columns" "checked_columns" sChecked f fd) (T : Txt K mg C) (FL : Fk P w K mg base CX0 1 "is_list" ["value"] (spIsList C)) (FN : Fk P w K mg base CX0 1 "is_name" ["value"] (spIsName C)) :
    FnOk P w K mg base CX0 2 f fd ["columns"] spChecked := by
  refine F.ok scChecked (fun vs H Q E h => ?_) (fun cdv A outer s H vs Q E hr h => ?_)
  · obtain ⟨a, cs, rfl, _⟩ := h
    rfl
  · obtain ⟨a, cs, rfl, hs, ⟨n1, n2, n3, n4⟩, k⟩ := h
    refine ⟨_, pss_cons (ps_if (PW.pt (pw_or (pt_not (pt_val (pcall FL hr (pa_cons (pv 0) pa_nil)))) (pw_or1 (pt_not (pt_chain op_le op_le pe_int (pe_callB call_len (by rfl) T.len PySem.boot_len (pa_cons (pv 0) pa_nil)) (pgi T.MOST_COLUMNS)))))) (pss_one ps_never) pss_nil)
      (pss_cons (ps_set (i := 1) scChecked.nd rfl (Or.inl rfl) (pe_lst pa_nil))
      (pss_cons (ps_for PassesOwn.never rfl (pi_list (pv 0)) (pg_name (i := 2) scChecked.nd rfl (Or.inl rfl))
        (pss_cons (ps_if (pt_not (pt_val (pcall FN hr (pa_cons (pv 2) pa_nil)))) (pss_one ps_never) pss_nil)
        (pss_cons (ps_if (pt_cmpR op_in_seq (pv 2) (pv 1) (by rfl)) (pss_one ps_never) pss_nil)
        (pss_one (ps_expr (pe_bm PySem.F.plainAttrs_list PySem.F.slot_list_append PySem.F.type_list_append mt_append (pv 1) (pa_cons (pv 2) pa_nil)))))))
      (pss_one (ps_ret (pv 1))))), ?_⟩
    have hl : ((cs.map V.str).length : Int) = (cs.length : Int) := by rw [List.length_map]
    refine ⟨_, rfl, _, .lst (cs.map SO.D.str), rfl, ⟨a, _, rfl, hs, RpL.strs cs⟩, fun H1 e1 => ⟨_, rfl, ifF rfl ?_⟩⟩
    refine ⟨_, rfl, _, _, rfl, .inl ⟨_, SqL.of (e1 _ _ hs), rfl⟩, _, _, rfl, rfl, _, rfl, ifT (decide_eq_true (by rw [hl]; omega)) ⟨_, _, rfl, rfl, _, rfl, ifF (by rw [decide_eq_true (show ((cs.map V.str).length : Int) ≤ 5 by rw [hl]; omega)]; rfl) ?_⟩⟩
    refine ⟨Nat.zero_le _, fun p hp => ?_⟩
    have hs1 : Same H H1 := e1
    have hpH : H p = none := hs1.free hp
    have na : a ≠ p := ne_of_none (hs1 _ _ hs) hp
    refine ⟨_, rfl, a, rfl, ⟨_, SqL.of (by rw [upd_ne na]; exact hs1 _ _ hs)⟩, for_list (K := K) (a := a) (xs := cs.map V.str) (fun i σ H2 => ∃ nm : Option V, σ = [some (.ref a), some (.ref p), nm] ∧ Same H H2 ∧ H2 p = some (.lst ((cs.take i).map V.str)))
      ⟨none, rfl, Same.upd' hs1 hpH, upd_same⟩ (fun i σ H2 _ ⟨_, _, e2, _⟩ => SqL.of (e2 _ _ hs)) ?_ ?_⟩
    · rintro i y σ H2 hi ⟨nm, rfl, e2, h2⟩
      rw [List.getElem?_map] at hi
      obtain ⟨c, hc, rfl⟩ : ∃ c, cs[i]? = some c ∧ y = V.str c := by
        cases e : cs[i]? with
        | none => rw [e] at hi; cases hi
        | some c => rw [e] at hi; exact ⟨c, rfl, (Option.some.inj hi).symm⟩
      have hok := n3 c (List.mem_of_getElem? hc)
      have hsz : c.length ≤ 8 := by
        unfold nameOk at hok
        simp only [Bool.and_eq_true, decide_eq_true_eq] at hok
        exact hok.1.2
      refine ⟨_, rfl, _, .str c, rfl, rfl, Nat.le_trans hsz (by decide), fun H3 e3 => ⟨_, rfl, ifF (by rw [show isName (.str c) = true from hok]; rfl) ?_⟩⟩
      refine ⟨_, rfl, _, rfl, p, _, rfl, .inl (SqL.of (e3 _ _ h2)), rfl, flat_strs _, _, rfl, ifF (nodup_no n4 hc) ?_⟩
      refine ⟨_, rfl, .inl ⟨rfl, _, SqL.of (e3 _ _ h2)⟩, _, rfl, p, _, _, rfl, rfl, e3 _ _ h2, (by rw [List.length_map, List.length_take]; exact Nat.lt_of_le_of_lt (Nat.min_le_right _ _) (Nat.lt_of_le_of_lt n2 (by decide))), ?_⟩
      refine ⟨_, rfl, Same.upd' (e2.trans e3) hpH, ?_⟩
      rw [upd_same, List.take_add_one, hc, List.map_append]
      rfl
    · rintro σ H2 ⟨nm, rfl, e2, h2⟩
      refine ⟨_, rfl, k p H2 hpH e2 ?_⟩
      rw [h2, List.length_map, List.take_length]
end
end SO
end
section
/-! k78, part A5: the class Order: __init__, columns, __eq__, __str__ -/
set_option maxHeartbeats 4000000
namespace SO
open PySem PySem.Spec PyProof.Rows L2 LamX

theorem Step.grow {tb : TB} {K H K' H' : Hp} (e : Same H H') (h1 : Sub K' H') (h2 : ∀ b o, H b = some o → K b = none → K' b = none) : Step tb K H K' H' :=
  ⟨h1, fun a o k h _ => ⟨e a o h, h2 a o h k⟩, fun T _ t => t.ext e⟩

theorem scOInit : FnScope ["self", "columns"] ["self", "columns"] (defScope sOInit) := ⟨rfl, rfl, rfl, by decide +kernel, rfl, by decide +kernel, by decide +kernel⟩
theorem scOCols : FnScope ["self"] ["self"] (defScope sOCols) := ⟨rfl, rfl, rfl, by decide +kernel, rfl, by decide +kernel, by decide +kernel⟩
theorem scOEq : FnScope ["self", "other"] ["self", "other"] (defScope sOEq) := ⟨rfl, rfl, rfl, by decide +kernel, rfl, by decide +kernel, by decide +kernel⟩
theorem scOStr : FnScope ["self"] ["self"] (defScope sOStr) := ⟨rfl, rfl, rfl, by decide +kernel, rfl, by decide +kernel, by decide +kernel⟩
def spOInit (C : Addr) : Sp := fun vs H Q _ => ∃ x a dx cs, vs = [.ref x, .ref a] ∧ H x = some (.ins C dx []) ∧ H a = some (.lst (cs.map V.str)) ∧ namesOk cs ∧
  ∀ l H', H l = none → H' l = some (.lst (cs.map V.str)) → H' x = some (.ins C dx (ordF l)) → (∀ b o, H b = some o → b ≠ x → H' b = some o) → Q .non H'
def spOCols (C : Addr) : Sp := fun vs H Q _ => ∃ x cs, vs = [.ref x] ∧ Rp C H (.ord cs) (.ref x) ∧ ∀ p H', H p = none → Same H H' → H' p = some (.lst (cs.map V.str)) → Q (.ref p) H'
def spOStr (C : Addr) : Sp := fun vs H Q _ => ∃ x cs, vs = [.ref x] ∧ Rp C H (.ord cs) (.ref x) ∧ namesOk cs ∧ ∀ H', Same H H' → Q (.str (Txt.join blank cs)) H'
/-- two equal orders -/
def EqO (C : Addr) (a b : Addr) (H : Hp) : Prop := ∃ cs, Rp C H (.ord cs) (.ref a) ∧ Rp C H (.ord cs) (.ref b)
theorem ordF_own (l : Addr) : (ordF l).lookup ("own_columns" : Str) = some (.ref l) := by simp [ordF, List.lookup]
theorem ordF_no (l : Addr) {m : Str} (h : ¬ m = "own_columns") : (ordF l).lookup m = none := by
  have e : (m == ("own_columns" : Str)) = false := by simpa using h
  simp [ordF, List.lookup, e]
theorem nameOk_len {c : Str} (h : nameOk c = true) : c.length ≤ 8 := by
  unfold nameOk at h
  simp only [Bool.and_eq_true, decide_eq_true_eq] at h
  exact h.1.2
theorem sum_len : ∀ {cs : List Str}, (∀ c ∈ cs, nameOk c = true) → (cs.map (·.length)).sum ≤ 8 * cs.length
  | [], _ => Nat.le_refl _
  | c :: cs, h => by
    have h1 := nameOk_len (h c (by simp))
    have h2 := sum_len (cs := cs) fun d hd => h d (by simp [hd])
    rw [List.map_cons, List.sum_cons, List.length_cons]
    omega
/-- a method of Order, ready to be called -/
def Mt (P : Program) (w : World) (K : PySem.W.Frag) (mg : Str → Option Value) (base : Heap) (C : Addr) (k : Nat) (m : Str) (ps : List Str) (sp : Sp) : Prop :=
  ∃ f fd ds, FnOk P w K mg base CX0 k f fd ps sp ∧ Meth K C m f ∧ Binds K fd ps ds ∧ ds = []
section
variable {P : Program} {w : World} {K : PySem.W.Frag} {mg : Str → Option Value} {base : Heap} {C : Addr}
theorem ok_oinit {f : Addr} {fd : FuncData} (F : Fun K "__init__" "Order.__init__" sOInit f fd) (T : Txt K mg C) (FC : Fk P w K mg base CX0 2 "checked_columns" ["columns"] spChecked) : FnOk P w K mg base CX0 3 f fd ["self", "columns"] (spOInit C) := by
  refine F.ok scOInit (fun vs H Q E h => ?_) (fun cdv A outer s H vs Q E hr h => ?_)
  · obtain ⟨x, a, dx, cs, rfl, _⟩ := h
    rfl
  · obtain ⟨x, a, dx, cs, rfl, hx, ha, hn, k⟩ := h
    refine ⟨_, pss_one (ps_fld (pv 0) (pcall FC hr (pa_cons (pv 1) pa_nil)) rfl), ?_⟩
    refine ⟨_, rfl, a, cs, rfl, ha, hn, fun l H1 hl e hl1 => ?_⟩
    refine ⟨_, rfl, x, C, dx, [], rfl, e _ _ hx, T.clO, T.nOc, (by show 0 < 1000; decide), ?_⟩
    have nl : l ≠ x := (ne_of_none hx hl).symm
    exact k l _ hl (by rw [upd_ne nl]; exact hl1) upd_same fun b o hb nb => by rw [upd_ne nb]; exact e b o hb
theorem ok_ocols {f : Addr} {fd : FuncData} (F : Fun K "columns" "Order.columns" sOCols f fd) (T : Txt K mg C) : FnOk P w K mg base CX0 1 f fd ["self"] (spOCols C) := by
  refine F.ok scOCols (fun vs H Q E h => ?_) (fun cdv A outer s H vs Q E hr h => ?_)
  · obtain ⟨x, cs, rfl, _⟩ := h
    rfl
  · obtain ⟨x, cs, rfl, ⟨a, dx, l, e, h1, h2⟩, k⟩ := h
    cases e
    refine ⟨_, pss_one (ps_ret (pe_callTy call_list_of (by rfl) T.list (by decide +kernel) (pa_cons (pe_fld (pv 0) rfl) pa_nil))), ?_⟩
    refine ⟨_, rfl, x, C, dx, _, _, rfl, h1, T.clO, T.nOc, ordF_own l, l, _, rfl, .inl (SqL.of h2), fun p hp => k p _ hp (Same.upd' (Same.refl _) hp) upd_same⟩
theorem ok_ostr {f : Addr} {fd : FuncData} (F : Fun K "__str__" "Order.__str__" sOStr f fd) (T : Txt K mg C) : FnOk P w K mg base CX0 1 f fd ["self"] (spOStr C) := by
  refine F.ok scOStr (fun vs H Q E h => ?_) (fun cdv A outer s H vs Q E hr h => ?_)
  · obtain ⟨x, cs, rfl, _⟩ := h
    rfl
  · obtain ⟨x, cs, rfl, ⟨a, dx, l, e, h1, h2⟩, hn, k⟩ := h
    cases e
    refine ⟨_, pss_one (ps_ret (pe_bm PySem.F.plainAttrs_str PySem.F.slot_str_join PySem.F.type_str_join mt_join pe_str (pa_cons (pe_fld (pv 0) rfl) pa_nil))), ?_⟩
    have hs := sum_len hn.2.2.1
    have hn2 := hn.2.1
    refine ⟨rfl, _, rfl, x, C, dx, _, _, rfl, h1, T.clO, T.nOc, ordF_own l, _, l, cs, rfl, rfl, .inl (SqL.of h2), ?_, k _ (Same.refl _)⟩
    have e1 : (" " : Str).length = 1 := rfl
    rw [e1]
    omega
theorem ok_oeq {f f2 : Addr} {fd fd2 : FuncData} (F : Fun K "__eq__" "Order.__eq__" sOEq f fd) (T : Txt K mg C) (IC : IsC K C) (G : FnOk P w K mg base CX0 1 f2 fd2 ["self"] (spOCols C)) (m : Meth K C "columns" f2) (b : Binds K fd2 ["self"] []) :
    FnOk P w K mg base CX0 2 f fd ["self", "other"] (spEq (EqO C)) := by
  refine F.ok scOEq (fun vs H Q E h => ?_) (fun cdv A outer s H vs Q E hr h => ?_)
  · obtain ⟨x, y, rfl, _⟩ := h
    rfl
  · obtain ⟨x, y, rfl, ⟨cs, ⟨a1, dx, l, e1, h1, h2⟩, hy⟩, k⟩ := h
    cases e1
    obtain ⟨a2, dy, l2, e2, h3, h4⟩ := id hy
    cases e2
    refine ⟨_, pss_one (ps_ret (pe_and (pe_callB call_isi (by rfl) T.isinstance PyProof.Rows.boot_isinstance (pa_cons (pv 1) (pa_cons (pe_glob (v := .ref C) (by rfl) T.Order rfl) pa_nil)))
      (pe_one (pe_cmpR (op_eqG (D := DList DFlat) (rcG_list mon_flat eqG_flat) hr) (pe_fld (pv 0) rfl) (pe_meth0 (pv 1) T.clO m G hr b .nil pass0) (nomark _))))), ?_⟩
    refine ⟨_, rfl, _, _, _, _, _, rfl, .own C, hy.ty IC, kit_ord IC (.ord cs), _, rfl, ifT rfl ?_⟩
    refine ⟨_, rfl, x, C, dx, _, _, rfl, h1, T.clO, T.nOc, ordF_own l, _, rfl, y, dy, _, rfl, h3, ordF_no _ (by decide +kernel), y, cs, rfl, hy, fun p H' hp e hpl => ⟨⟨l, p, _, _, rfl, rfl, e _ _ h2, hpl, rfl, ?_⟩, fun H2 e2 => k H2 (Same.trans e e2)⟩⟩
    intro i u v hu hv
    rw [hu] at hv
    cases hv
    rw [List.getElem?_map] at hu
    cases ec : cs[i]? with
    | none => rw [ec] at hu; cases hu
    | some c =>
      rw [ec] at hu
      cases hu
      exact ⟨rfl, rfl, by simp [eqV]⟩
end
end SO
end
section
/-! k78, part A6: things made of new objects alone -/
set_option maxHeartbeats 4000000
namespace SO
open PySem PySem.Spec PyProof.Rows L2 LamX

/-- what stood stands, its content apart -/
def Dom (H H' : Hp) : Prop := ∀ a o, H a = some o → ∃ o', H' a = some o'
theorem Dom.same {H H' : Hp} (e : Same H H') : Dom H H' := fun a o h => ⟨o, e a o h⟩
theorem Dom.refl (H : Hp) : Dom H H := fun a o h => ⟨o, h⟩
theorem Dom.trans {A B E : Hp} (x : Dom A B) (y : Dom B E) : Dom A E := fun a o h => let ⟨o', h'⟩ := x a o h; y a o' h'
theorem Dom.upd {A B : Hp} (x : Dom A B) (p : Addr) (u : HO) : Dom A (L2.upd B p u) := fun a o h => by
  by_cases e : a = p
  · exact ⟨u, by rw [e, upd_same]⟩
  · rw [upd_ne e]; exact x a o h
theorem Dom.free {A B : Hp} (x : Dom A B) {p : Addr} (h : B p = none) : A p = none := by
  cases e : A p with
  | none => rfl
  | some o => obtain ⟨o', h'⟩ := x p o e; rw [h] at h'; cases h'
/-- one or the other -/
def J2 (A B : Hp) : Hp := fun a => match A a with | some o => some o | none => B a
theorem J2.l (A B : Hp) : Sub A (J2 A B) := fun a o h => by unfold J2; rw [h]
theorem J2.sub {A B H : Hp} (x : Sub A H) (y : Sub B H) : Sub (J2 A B) H := fun a o h => by
  unfold J2 at h
  split at h
  · rename_i q
    rw [← h]; exact x _ _ q
  · exact y _ _ h
theorem J2.r {A B H : Hp} (x : Sub A H) (y : Sub B H) : Sub B (J2 A B) := fun a o h => by
  unfold J2
  split
  · rename_i o' q
    have := x _ _ q
    rw [y _ _ h] at this
    rw [this]
  · exact h
theorem J2.some {A B : Hp} {a : Addr} {o : HO} (h : J2 A B a = some o) : A a = Option.some o ∨ B a = Option.some o := by
  unfold J2 at h
  split at h
  · rename_i q; exact .inl (q.trans h)
  · exact .inr h
/-- v stands for the tree in H', made of what is not in H -/
def Nw (C : Addr) (H H' : Hp) (d : D) (v : V) : Prop := ∃ K, Sub K H' ∧ (∀ a o, K a = some o → H a = none) ∧ Rp C K d v
def NwL (C : Addr) (H H' : Hp) (ds : List D) (vs : List V) : Prop := ∃ K, Sub K H' ∧ (∀ a o, K a = some o → H a = none) ∧ RpL C K ds vs
section
variable {C : Addr} {H H1 H2 H' : Hp} {d : D} {ds es : List D} {v : V} {vs us : List V}
theorem Nw.rp (x : Nw C H H' d v) : Rp C H' d v := let ⟨_, s, _, r⟩ := x; r.mono s
theorem NwL.rp (x : NwL C H H' ds vs) : RpL C H' ds vs := let ⟨_, s, _, r⟩ := x; r.mono s
theorem Nw.up (e : Dom H H1) (x : Nw C H1 H' d v) : Nw C H H' d v := let ⟨K, s, n, r⟩ := x; ⟨K, s, fun a o h => e.free (n a o h), r⟩
theorem NwL.up (e : Dom H H1) (x : NwL C H1 H' ds vs) : NwL C H H' ds vs := let ⟨K, s, n, r⟩ := x; ⟨K, s, fun a o h => e.free (n a o h), r⟩
theorem Nw.same (e : Same H1 H2) (x : Nw C H H1 d v) : Nw C H H2 d v := let ⟨K, s, n, r⟩ := x; ⟨K, s.trans e, n, r⟩
theorem NwL.same (e : Same H1 H2) (x : NwL C H H1 ds vs) : NwL C H H2 ds vs := let ⟨K, s, n, r⟩ := x; ⟨K, s.trans e, n, r⟩
/-- what stood in H is written -/
theorem Nw.wr {p : Addr} {o u : HO} (h : H p = some o) (x : Nw C H H' d v) : Nw C H (upd H' p u) d v := let ⟨K, s, n, r⟩ := x; ⟨K, fun a o' q => by
  have ne : a ≠ p := fun e => by have := n a o' q; rw [e, h] at this; cases this
  rw [upd_ne ne]; exact s a o' q, n, r⟩
theorem NwL.wr {p : Addr} {o u : HO} (h : H p = some o) (x : NwL C H H' ds vs) : NwL C H (upd H' p u) ds vs := let ⟨K, s, n, r⟩ := x; ⟨K, fun a o' q => by
  have ne : a ≠ p := fun e => by have := n a o' q; rw [e, h] at this; cases this
  rw [upd_ne ne]; exact s a o' q, n, r⟩
theorem NwL.nil : NwL C H H' [] [] := ⟨fun _ => none, fun _ _ h => (by cases h), fun _ _ h => (by cases h), rfl⟩
theorem NwL.app (x : NwL C H H' ds vs) (y : NwL C H H' es us) : NwL C H H' (ds ++ es) (vs ++ us) := by
  obtain ⟨K, s, n, r⟩ := x
  obtain ⟨K2, s2, n2, r2⟩ := y
  exact ⟨J2 K K2, J2.sub s s2, fun a o h => (J2.some h).elim (n a o) (n2 a o), (r.mono (J2.l K K2)).app (r2.mono (J2.r s s2))⟩
theorem Nw.one (x : Nw C H H' d v) : NwL C H H' [d] [v] := let ⟨K, s, n, r⟩ := x; ⟨K, s, n, .one r⟩
theorem Nw.flat (h : Rp C (fun _ => none) d v) : Nw C H H' d v := ⟨fun _ => none, fun _ _ h => (by cases h), fun _ _ h => (by cases h), h⟩
/-- a new tuple of them -/
theorem NwL.tup {t : Addr} (x : NwL C H H' ds vs) (ht : H' t = none) (hh : H t = none) : Nw C H (upd H' t (.tup vs)) (.tup ds) (.ref t) := by
  obtain ⟨K, s, n, r⟩ := x
  refine ⟨upd K t (.tup vs), s.upd t _, fun a o h => ?_, t, vs, rfl, upd_same, r.mono (Sub.new (s.none ht))⟩
  by_cases e : a = t
  · rw [e]; exact hh
  · rw [upd_ne e] at h; exact n a o h
theorem NwL.lst {t : Addr} (x : NwL C H H' ds vs) (h' : H' t = some (.lst vs)) (hh : H t = none) : Nw C H H' (.lst ds) (.ref t) := by
  obtain ⟨K, s, n, r⟩ := x
  refine ⟨J2 K (upd (fun _ => none) t (.lst vs)), J2.sub s fun a o h => ?_, fun a o h => ?_, t, vs, rfl, ?_, r.mono (J2.l K _)⟩
  · by_cases e : a = t
    · rw [e, upd_same] at h; cases h; rw [e]; exact h'
    · rw [upd_ne e] at h; cases h
  · rcases J2.some h with h | h
    · exact n a o h
    · by_cases e : a = t
      · rw [e]; exact hh
      · rw [upd_ne e] at h; cases h
  · refine J2.r s (B := upd (fun _ => none) t (.lst vs)) (fun a o h => ?_) t _ upd_same
    by_cases e : a = t
    · rw [e, upd_same] at h; cases h; rw [e]; exact h'
    · rw [upd_ne e] at h; cases h
theorem Nw.ord {o dx l : Addr} {cs : List Str} (ho : H' o = some (.ins C dx (ordF l))) (hl : H' l = some (.lst (cs.map V.str))) (no : H o = none) (nl : H l = none) : Nw C H H' (.ord cs) (.ref o) := by
  have ne : o ≠ l := fun e => by rw [e, hl] at ho; cases ho
  refine ⟨upd (upd (fun _ => none) l (.lst (cs.map V.str))) o (.ins C dx (ordF l)), fun a u h => ?_, fun a u h => ?_, o, dx, l, rfl, upd_same, by rw [upd_ne ne.symm, upd_same]⟩
  · by_cases e : a = o
    · rw [e, upd_same] at h; cases h; rw [e]; exact ho
    · rw [upd_ne e] at h
      by_cases e2 : a = l
      · rw [e2, upd_same] at h; cases h; rw [e2]; exact hl
      · rw [upd_ne e2] at h; cases h
  · by_cases e : a = o
    · rw [e]; exact no
    · rw [upd_ne e] at h
      by_cases e2 : a = l
      · rw [e2]; exact nl
      · rw [upd_ne e2] at h; cases h
end
end SO
end
section
/-! Exceptions in flight, with a word Z about their object: its class, its dict, and what its context is -/
set_option maxHeartbeats 4000000
namespace XF
open PySem PySem.Spec PyProof.Rows L2 HotX

/-- a word about the exception's object, over the ground and what is tracked -/
abbrev ZT := Heap → Hp → Value → Option Addr → Obj → Prop
structure ZOk (Z : ZT) : Prop where
  st : ∀ B H c d, PXN.Steady1 (Z B H c d)
  zc : ∀ {B H c d o}, Z B H c d o → Zc c d o
/-- no context -/
def Z0 : ZT := fun _ _ c d => L2N.Zn c d
/-- no context, or one that has none, which stands untracked in the ground -/
def Z1 : ZT := fun B H c d o => Zc c d o ∧ ∃ cx : Value, (∀ vs : Array Value, o.data = .fields vs → vs[2]? = some cx) ∧
  (cx = .none ∨ ∃ (x : Addr) (ox : Obj) (ws : Array Value), cx = .ref x ∧ B.get? x = some ox ∧ H x = none ∧ ox.data = .fields ws ∧ ws[2]? = some .none)
theorem Z0.ok : ZOk Z0 := ⟨fun _ _ _ _ => L2N.Zn.steady, fun h => h.zc⟩
theorem Z1.ok : ZOk Z1 := by
  refine ⟨fun B H c d o v h => ?_, fun h => h.1⟩
  obtain ⟨⟨h1, h2⟩, cx, h3, h4⟩ := h
  refine ⟨⟨PXN.steady_cls o v h1, PXN.steady_dict o v h2⟩, cx, fun vs hv => ?_, h4⟩
  cases hd : o.data with
  | fields ws =>
    have e := Obj.data_mapFields hd (·.setIfInBounds 1 v)
    rw [e] at hv
    cases hv
    exact HotX.set_other (by decide) (h3 ws hd)
  | _ => exact absurd hv (by obtain ⟨c', d', dt, sl⟩ := o; simp only at hd; subst hd; intro z; cases z)
theorem Z0.z1 {B : Heap} {H : Hp} {c : Value} {d : Option Addr} {o : Obj} (h : Z0 B H c d o) : Z1 B H c d o := ⟨h.zc, .none, h.2.2, .inl rfl⟩

/-- in the air of the context X -/
def Air (Z : ZT) (X : Cx) (W : WX) (u : Value) (t : Shared) : Prop :=
  ∃ (a : Addr) (B : Heap) (sI : Shared) (pins : List (Addr × Obj)) (σ : L2.St) (H : Hp) (c : Value) (d : Option Addr), u = .ref a ∧ Inv X pins σ H sI ∧
    (∀ b o, sI.heap.get? b = some o → b ∉ frs X.stack → B.get? b = some o) ∧ sI.heap.UpToSlots t.heap ∧ Sky B X.stack a (Z B H c d) X.env.locals t.heap ∧ H a = none ∧ t.os = sI.os ∧ AllBare t.gens ∧ W c d σ H
/-- X's wish takes them -/
def Tk (Z : ZT) (X : Cx) (W : WX) : Prop := ∀ u t, Air Z X W u t → X.xe u t
/-- what leaves a def -/
def Out (Z : ZT) (P : Program) (w : World) : CXT := fun outer H s E u t =>
  ∃ (a : Addr) (B : Heap) (H' : Hp) (c : Value) (d : Option Addr), u = .ref a ∧ HandSPX.FlyingZ B outer a (Z B H' c d) t.heap ∧ HOk P w H' B ∧ UB (frs outer) H H' s.heap B t.heap ∧ H' a = none ∧ t.os = s.os ∧ AllBare t.gens ∧ E c d H'

theorem traced_imp {h B : Heap} {a : Addr} {Y Y' : Obj → Prop} {fl : Value} (z : ∀ o, Y o → Y' o) (x : HandSPX.TracedZ h B a Y fl) : HandSPX.TracedZ h B a Y' fl := let ⟨oe, vs, T, oT, ts, he, hz, r⟩ := x; ⟨oe, vs, T, oT, ts, he, z _ hz, r⟩
theorem flying_imp {h B : Heap} {l : List Env} {a : Addr} {Y Y' : Obj → Prop} (z : ∀ o, Y o → Y' o) (x : HandSPX.FlyingZ B l a Y h) : HandSPX.FlyingZ B l a Y' h := let ⟨x1, x2, x3, x4⟩ := x; ⟨x1, x2, x3, traced_imp z x4⟩
theorem sky_imp {h B : Heap} {l : List Env} {a L : Addr} {Y Y' : Obj → Prop} (z : ∀ o, Y o → Y' o) (x : Sky B l a Y L h) : Sky B l a Y' L h := by
  rcases x with ⟨h1, h2, h3, oe, vs, h4, h5, h6⟩ | x | ⟨h1, h2, h3, h4⟩
  · exact .inl ⟨h1, h2, h3, oe, vs, h4, z _ h5, h6⟩
  · exact .inr (.inl (flying_imp z x))
  · exact .inr (.inr ⟨h1, h2, h3, traced_imp z h4⟩)
theorem Out.imp {Z Z' : ZT} {P : Program} {w : World} {outer : List Env} {H : Hp} {s t : Shared} {E : XK} {u : Value} (z : ∀ {B H c d o}, Z B H c d o → Z' B H c d o) (x : Out Z P w outer H s E u t) : Out Z' P w outer H s E u t :=
  let ⟨a, B, H', c, d, e, fl, r⟩ := x; ⟨a, B, H', c, d, e, flying_imp (fun _ => z) fl, r⟩
theorem Out.l2 {Z : ZT} (zo : ZOk Z) {P : Program} {w : World} {outer : List Env} {H : Hp} {s t : Shared} {E : XK} {u : Value} (x : Out Z P w outer H s E u t) : L2.CX P w outer H s E u t :=
  let ⟨a, B, H', c, d, e, fl, r⟩ := x; ⟨a, B, H', c, d, e, flying_imp (fun _ h => zo.zc h) fl, r⟩

section
variable {Z : ZT} {X : Cx} {pins : List (Addr × Obj)} {σ : L2.St} {H : Hp} {sI s t : Shared} {B : Heap} {W : WX} {E : XK}
theorem Tk.imp {W' : WX} (k : Tk Z X W) (h : ∀ c d σ H, W' c d σ H → W c d σ H) : Tk Z X W' := fun u t ⟨a, B, sI, pins, σ, H, c, d, e, I, nb, up, sky, na, os, ag, w⟩ => k u t ⟨a, B, sI, pins, σ, H, c, d, e, I, nb, up, sky, na, os, ag, h _ _ _ _ w⟩
/-- those of a word that says less take those of a word that says more -/
theorem Tk.less {Z' : ZT} (k : Tk Z' X W) (z : ∀ {B H c d o}, Z B H c d o → Z' B H c d o) : Tk Z X W := fun u t ⟨a, B, sI, pins, σ, H, c, d, e, I, nb, up, sky, na, os, ag, w⟩ => k u t ⟨a, B, sI, pins, σ, H, c, d, e, I, nb, up, sky_imp (fun _ => z) sky, na, os, ag, w⟩
theorem Tk.l2 (zo : ZOk Z) (k : L2.Takes X W) : Tk Z X W := fun u t ⟨a, B, sI, pins, σ, H, c, d, e, I, nb, up, sky, na, os, ag, w⟩ => k u t ⟨a, B, sI, pins, σ, H, c, d, e, I, nb, up, sky_imp (fun _ h => zo.zc h) sky, na, os, ag, w⟩

/-- a callee's exception -/
theorem Air.called (I : Inv X pins σ H s) (hW : ∀ c d H', E c d H' → W c d σ H') {u : Value} (x : Out Z X.prog X.w X.stack H s E u t) : Air Z X W u t := by
  obtain ⟨a, B, H', c, d, rfl, fl, hok, ub, na, os, ag, hE⟩ := x
  obtain ⟨G, yes, no⟩ := restrict t.heap fun b => (B.get? b).isSome || decide (b ∈ frs X.stack)
  have stays : B.StaysIn t.heap := fl.1
  have fromB : ∀ b o, B.get? b = some o → G.get? b = some o := fun b o e => (yes b (by simp [e])).trans (stays b o e)
  have fromF : ∀ b, b ∈ frs X.stack → G.get? b = t.heap.get? b := fun b hb => yes b (by simp [hb])
  have back : ∀ b o, G.get? b = some o → t.heap.get? b = some o ∧ ((B.get? b).isSome = true ∨ b ∈ frs X.stack) := fun b o e => by
    by_cases q : ((B.get? b).isSome || decide (b ∈ frs X.stack)) = true
    · rw [yes b q] at e
      exact ⟨e, by simpa [Bool.or_eq_true] using q⟩
    · rw [no b (by simpa using q)] at e
      cases e
  refine ⟨a, B, { s with heap := G, gens := t.gens, drawn := t.drawn, toks := t.toks }, pins, σ, H', c, d, rfl, ?_, fun b o e hb => ?_, Heap.UpToSlots.of_keeps fun b o e => (back b o e).1, .inr (.inl fl), na, os, ag, hW _ _ _ hE⟩
  · refine I.call (ch := []) ⟨fun b o e n hb _ => fromB b o (ub.keep b o e n hb), fun b o e n hb _ => ?_, fun b o e n _ => ub.free b o e n, fun b o e _ => ?_, ub.tups, ub.frzs, ub.tbls⟩ (hok.kept fromB) ag (fun _ z => nomatch z)
    · obtain ⟨sl, q⟩ := ub.slot b o e hb
      exact ⟨sl, (fromF b hb).trans q⟩
    · by_cases hb : b ∈ frs X.stack
      · obtain ⟨sl, q⟩ := ub.slot b o e hb
        exact ⟨_, (fromF b hb).trans q⟩
      · obtain ⟨o', q⟩ := ub.there b o e hb
        exact ⟨o', fromB b o' q⟩
  · obtain ⟨e', h⟩ := back b o e
    rcases h with h | h
    · obtain ⟨o', q⟩ := Option.isSome_iff_exists.mp h
      rw [q, ← e', stays b o' q]
    · exact absurd h hb
/-- a new one -/
theorem Air.fresh {a : Addr} {oe : Obj} {vs : Array Value} {c : Value} {d : Option Addr} (I : Inv X pins σ H sI) (k : ∀ b o, sI.heap.get? b = some o → t.heap.get? b = some o) (hne : sI.heap.get? a = none) (he : t.heap.get? a = some oe)
    (hz : ∀ B : Heap, (∀ b o, sI.heap.get? b = some o → b ∉ frs X.stack → B.get? b = some o) → Z B H c d oe) (hd : oe.data = .fields vs) (h1 : vs[1]? = some .none) (na : H a = none) (os : t.os = sI.os) (ag : AllBare t.gens) (w : W c d σ H) : Air Z X W (.ref a) t := by
  have nb : ∀ b o, sI.heap.get? b = some o → b ∉ frs X.stack → (PySem.W.hideAll sI.heap (frs X.stack)).get? b = some o := fun b o e hb => PySem.W.hideAll_get _ e hb
  refine ⟨a, PySem.W.hideAll sI.heap (frs X.stack), sI, pins, σ, H, c, d, rfl, I, nb, Heap.UpToSlots.of_keeps k, .inl ⟨fun b o e => k b o (PySem.W.of_hideAll _ e), ?_, ?_, oe, vs, he, hz _ nb, hd, h1⟩, na, os, ag, w⟩
  · cases q : (PySem.W.hideAll sI.heap (frs X.stack)).get? a with
    | none => rfl
    | some o => rw [PySem.W.of_hideAll _ q] at hne; cases hne
  · exact Heap.FunFrames.of_keeps (fun b o e _ => ⟨o, k b o e, rfl⟩) (funFrames_none I.stack fun b hb => PySem.W.hideAll_none _ hb)
/-- it leaves the def -/
theorem Air.leaves (zo : ZOk Z) (hs : X.stack = X.env :: X.outer) (hf : X.env.frame = some X.env.locals) (hex : X.ex = []) {E₁ : Value → Shared → Prop} (hW : ∀ c d σ H, W c d σ H → E c d H) {u : Value} (x : Air Z X W u t) :
    wpAny (model X.prog X.w) X.A (leaving X.env u) (fun _ t' => Out Z X.prog X.w X.outer X.H_0 X.s_0 E u t') E₁ t := by
  obtain ⟨a, B, sI, pins, σ, H, c, d, rfl, I, nb, up, sky, na, os, ag, w⟩ := x
  have noex : ∀ b, b ∉ X.ex := fun b hb => by rw [hex] at hb; cases hb
  have old : ∀ b o, X.s_0.heap.get? b = some o → b ∉ X.fs → b ∉ frs X.stack := fun b o e hb hm => by
    rcases List.mem_cons.mp (I.stkSub b hm) with z | z
    · have h1 := Heap.lt_size e
      rw [z] at h1
      exact Nat.lt_irrefl _ (Nat.lt_of_lt_of_le h1 I.ok.above)
    · exact hb z
  have end_ : ∀ h', HandSPX.FlyingZ B X.outer a (Z B H c d) h' → t.heap.UpToSlots h' → Out Z X.prog X.w X.outer X.H_0 X.s_0 E (.ref a) { t with heap := h' } := fun h' fl up' => by
    refine ⟨a, B, H, c, d, rfl, fl, I.inGround nb, ⟨fun b o e n hb => nb b o (I.base.keep b o e n hb (noex b)) (old b o e hb), fun b o e hb => ?_, fun b o e n => I.base.free b o e n (noex b), fun b o e hb => ?_, I.base.tups, I.base.frzs, I.base.tbls⟩, na, os.trans I.os, ag, hW _ _ _ _ w⟩
    · obtain ⟨_, o₀, e₀, hnf⟩ := I.ok.funs.mem hb
      rw [e] at e₀; cases e₀
      obtain ⟨sl, e1⟩ := I.base.slot b o e (I.ok.frf b hb) hb (noex b)
      obtain ⟨sl2, e2⟩ := up b _ e1 hnf
      obtain ⟨sl3, e3⟩ := up' b _ e2 hnf
      exact ⟨sl3, e3⟩
    · obtain ⟨o', e1⟩ := I.base.there b o e (noex b)
      exact ⟨o', nb b o' e1 fun hm => old b o e hb hm⟩
  have hfr : X.A.frames = some (X.env :: X.outer) := by rw [I.ok.frames, hs]
  rw [hs] at sky
  rcases sky with ⟨hB, hn, hl, oe, vs, he, hz, hd, h1⟩ | fl | hd
  · exact PXN.leaving_firstZ (zo.st _ _ _ _) hfr hl hf he hB hn hd h1 hz end_
  · exact PXN.leaves_onZ (zo.st _ _ _ _) hfr hf fl end_
  · exact HandSPX.leaves_heldZ hf hd end_
end
end XF
end
section
/-! Exceptions: made, raised, raised while another one is handled whose context has none -/
set_option maxHeartbeats 4000000
namespace XF
open PySem PySem.Spec PyProof.Rows L2 HotX

/-- what is handled: its object; its context is None, or an object whose context is None; neither is a -/
def Hot2 (A : Around) (x a : Addr) (h : Heap) : Prop := A.handled = some (.ref x) ∧ x ≠ a ∧ ∃ (o : Obj) (vs : Array Value) (cx : Value), h.get? x = some o ∧ o.data = .fields vs ∧ vs[2]? = some cx ∧
  (cx = .none ∨ ∃ (y : Addr) (oy : Obj) (ws : Array Value), cx = .ref y ∧ y ≠ a ∧ h.get? y = some oy ∧ oy.data = .fields ws ∧ ws[2]? = some .none)
section
variable {prog : Program} {w : World} {A : Around} {E : Value → Shared → Prop} {s : Shared}
theorem unchain_end {x a z : Addr} {b : Bool} {o : Obj} {vs : Array Value} {R : Result → Shared → Prop} (h1 : s.heap.get? x = some o) (d1 : o.data = .fields vs) (c1 : vs[2]? = some .none) (q : R (.ok (.ret .none)) s) :
    codeAny (model prog w) A (.builtin "proto.unchain" ⟨[.ref a, .ref x, .ref z, .bool b], []⟩) R s := by
  refine codeAny_builtin entry_unchain ?_
  show wpAny _ _ (field (.ref x) 2 >>= _) _ _ s
  refine wpAny_bind (wpAny_field h1 d1 c1 ?_)
  rw [if_pos (show (Value.none == Value.none) = true from rfl)]
  first
  | exact wpAny_bind (wpAny_pure (wpAny_pure q))
  | exact wpAny_pure q
theorem unchain_two {x a : Addr} {R : Result → Shared → Prop} (hot : Hot2 A x a s.heap) (q : R (.ok (.ret .none)) s) :
    codeAny (model prog w) A (.builtin "proto.unchain" ⟨[.ref a, .ref x, .ref x, .bool false], []⟩) R s := by
  obtain ⟨_, hxa, o, vs, cx, h1, d1, c1, hc⟩ := hot
  rcases hc with rfl | ⟨y, oy, ws, rfl, hya, h2, d2, c2⟩
  · exact unchain_end h1 d1 c1 q
  · refine codeAny_builtin entry_unchain ?_
    show wpAny _ _ (field (.ref x) 2 >>= _) _ _ s
    refine wpAny_bind (wpAny_field h1 d1 c1 ?_)
    rw [if_neg (show ¬ (Value.ref y == Value.none) = true from by simp)]
    by_cases hyx : y = x
    · subst hyx
      rw [h1] at h2
      cases h2
      rw [d1] at d2
      cases d2
      rw [c1] at c2
      cases c2
    · rw [if_neg (show ¬ (Value.ref y == Value.ref a) = true from by simp [hya])]
      rw [if_neg (show ¬ (Value.ref y == Value.ref x) = true from by simp [hyx])]
      dsimp only
      rw [if_neg Bool.false_ne_true]
      exact wpAny_bind (wpAny_pure (wpAny_pure ⟨Code.quiet_builtin _ (by decide +kernel), unchain_end h2 d2 c2 q⟩))
theorem raiseNew_two {α : Type} {a x : Addr} {oe : Obj} {vs : Array Value} {Q : α → Shared → Prop} (hot : Hot2 A x a s.heap) (ha : s.heap.get? a = some oe) (da : oe.data = .fields vs) (hi : 2 < vs.size)
    (hE : E (.ref a) { s with heap := s.heap.update a (Obj.mapFields (·.setIfInBounds 2 (.ref x))) }) : wpAny (model prog w) A (raiseNew (.ref a) : Sem α) Q E s := by
  unfold raiseNew
  refine wpAny_bind (wpAny_handled ?_)
  rw [hot.1]
  dsimp only
  rw [if_pos (ref_bne hot.2.1)]
  exact wpAny_bind (wpAny_holding (wpAny_runValue (unchain_two hot (wpAny_bind (chained ha da hi (wpAny_throw hE))))))
/-- «raise x from None» where such a one is handled -/
theorem raise_two {env : Env} {mk c : Sem Value} {Q : Flow → Shared → Prop} (hcs : ∀ (s : Shared) (Q' : Value → Shared → Prop), Q' .none s → wpAny (model prog w) A c Q' E s)
    (h : wpAny (model prog w) A mk (fun v t => ∃ a oe vs cls x, v = .ref a ∧ t.heap.get? a = some oe ∧ oe.cls = cls ∧ oe.data = .fields vs ∧ vs[1]? = some .none ∧ 4 < vs.size ∧ Hot2 A x a t.heap ∧
      PySem.W.Looks (model prog w) t.heap (isSubtype cls (.type "BaseException")) true ∧ PySem.W.Looks (model prog w) (noneFrom t.heap a) (typeOf cls) (.type "type") ∧
      E (.ref a) { t with heap := (noneFrom t.heap a).update a (Obj.mapFields (·.setIfInBounds 2 (.ref x))) }) E s) : wpAny (model prog w) A (raiseStmt env (some mk) (some c)) Q E s := by
  unfold raiseStmt
  dsimp only
  refine wpAny_bind (wpAny_mono h (fun v t ht => ?_) fun _ _ q => q)
  obtain ⟨a, oe, vs, cls, x, rfl, ha, hcls, hd, h1, hi, hot, L1, L3, hE⟩ := ht
  have LT : PySem.W.Looks (model prog w) t.heap (typeOf (.ref a)) cls := fun A Q E s k q => wpAny_typeOf_ref (k _ _ ha) (by rw [hcls]; exact q)
  have LI : PySem.W.Looks (model prog w) t.heap (isInstance (.ref a) (.type "BaseException")) true := LT.andThen L1
  have noType : ∀ {h : Heap} {o : Obj} {vs : Array Value} {Q' : Bool → Shared → Prop}, h.get? a = some o → o.data = .fields vs → Q' false { t with heap := h } → wpAny (model prog w) A (isType (.ref a)) Q' E { t with heap := h } := by
    intro h o vs Q' e dd hq
    simp only [isType, loadHead]
    refine wpAny_bind (wpAny_loadPart e ?_)
    rw [dd]
    exact wpAny_pure hq
  have d3 := Obj.data_mapFields hd (·.setIfInBounds 3 .none)
  have a3 := Heap.get?_update_self (Obj.mapFields (·.setIfInBounds 3 .none)) ha (Obj.isFreed_of_fields d3)
  obtain ⟨a4, d4⟩ := noneFrom_at ha hd
  have n2 : 2 < ((vs.setIfInBounds 3 Value.none).setIfInBounds 4 (Value.bool true)).size := by rw [set_size, set_size]; omega
  have n1 : ((vs.setIfInBounds 3 Value.none).setIfInBounds 4 (Value.bool true))[1]? = some Value.none := set_other (by decide) (set_other (by decide) h1)
  have L4 : PySem.W.Looks (model prog w) (noneFrom t.heap a) (typeOf (.ref a)) cls := fun A Q E s k q => wpAny_typeOf_ref (k _ _ a4) (by rw [Obj.cls_mapFields, Obj.cls_mapFields, hcls]; exact q)
  have hot4 : Hot2 A x a (noneFrom t.heap a) := by
    obtain ⟨q1, q2, o, ws, cx, q3, q4, q5, q6⟩ := hot
    refine ⟨q1, q2, o, ws, cx, by rw [noneFrom_other (Ne.symm q2)]; exact q3, q4, q5, ?_⟩
    rcases q6 with q6 | ⟨y, oy, us, r1, r2, r3, r4⟩
    · exact .inl q6
    · exact .inr ⟨y, oy, us, r1, r2, by rw [noneFrom_other (Ne.symm r2)]; exact r3, r4⟩
  refine wpAny_bind (wpAny_holding (hcs _ _ (wpAny_bind (wpAny_pure ?_))))
  dsimp only
  refine wpAny_bind (wpAny_holding ?_)
  unfold excFromValue isExcClass
  refine wpAny_bind (wpAny_bind (noType ha hd ?_))
  simp only [Bool.false_eq_true, if_false]
  refine wpAny_pure ?_
  simp only [Bool.false_eq_true, if_false]
  refine wpAny_bind (LI.here ?_)
  simp only [if_true]
  refine wpAny_pure ?_
  simp only [beq_self_eq_true, if_true]
  refine wpAny_bind (wpAny_pure (wpAny_bind (wpAny_setField ha hd (by omega) (wpAny_bind (wpAny_setField a3 d3 (by rw [set_size]; exact hi) ?_)))))
  show wpAny _ _ (isType (.ref a) >>= _) _ _ { t with heap := noneFrom t.heap a }
  refine wpAny_bind (noType a4 d4 ?_)
  simp only [Bool.false_eq_true, if_false]
  unfold raisedInstance
  refine wpAny_bind (wpAny_bind (L4.here (wpAny_bind (L3.here ?_))))
  rw [if_pos (beq_self_eq_true _)]
  refine wpAny_pure ?_
  unfold setFlight
  refine wpAny_bind (wpAny_bind (wpAny_field a4 d4 n1 ?_))
  rw [if_neg (by decide)]
  refine wpAny_pure ?_
  exact raiseNew_two hot4 a4 d4 n2 hE
end
end XF
end
section
/-! Exceptions of own classes whose __init__ calls the base's by the base's name; made in any context; raised in a suite -/
set_option maxHeartbeats 4000000
namespace XF
open PySem PySem.Spec PyProof.Rows L2 HotX L2H

/-- what the written part says of an own class that is asked for __init__ -/
structure BaseC (K : PySem.W.Frag) (B : Addr) : Prop where
  rd : PySem.W.readsIn K B (.type "type") = true
  ga : PySem.W.specialIn K (.ref B) "__getattribute__" = some (some (.builtin "type.__getattribute__"))
  at_ : PySem.W.findCls K (.ref B) (.type "type") "__init__" = some (.val (.builtin "ValueError.__init__"))
section
variable {X : Cx} {e : Expr} {es : List Expr} {ta : TA} {x : Str} {p1 p2 pos : Pos} {B : Addr}
/-- Base.__init__(self, ..) -/
theorem pe_binit {pl : Sem Bool} (hg : Gl X x) (hm : X.mg x = some (.ref B)) (b : BaseC X.K B) (ha : PA X (e :: es) ta) (hdb : (x == ("__debug__" : Str)) = false := by decide)
    (hc : eval (.Call (.Attribute (.Name x p1) "__init__" p2) (e :: es) [] pos) X.env = (do
      let ov ← eval (.Name x p1) X.env
      standAt p2.atName
      let (f, first) ← holding [ov] (getMethod ov "__init__" pl)
      callWith pos f first (backTo pos (starEach (e :: es) X.env)) (backToKw pos (keywordEach [] X.env))) := by rfl)
    (he : starEach (e :: es) X.env = (false, eval e X.env) :: starEach es X.env := by rfl) (hpl : (backTo pos (starEach es X.env)).any (·.1) = false := by rfl) :
    PE X (.Call (.Attribute (.Name x p1) "__init__" p2) (e :: es) [] pos) (tVeI X.K ta) := by
  refine ⟨fun pins s σ H Q I h => ?_⟩
  refine PySem.W.methodCall_KW (ld_glob I hg hm ?_ hdb) hc
  refine PySem.W.method_cls I.kIn b.ga (PySem.W.cls_value I.kIn b.rd b.at_ (by decide +kernel) ?_)
  show wpAny _ _ (callWith pos (Value.builtin "ValueError.__init__") [] (backTo pos (starEach (e :: es) X.env)) []) _ _ _
  refine PyProof.Rows.callWith_method1 (thn (ha.run pos pins _ σ H _ (I.tok _) h) fun us s1 ⟨vs, H1, I1, r1, a, C, ws, ev, hl, T, ea, q⟩ => ?_) he hpl
  subst ev
  cases r1 with
  | @cons _ u0 _ ur ra rw' =>
    obtain rfl : u0 = Value.ref a := ra
    have hlen : ur.length ≤ sizeLine := by
      have := Paired.length rw'
      rw [sizeLine_eq]
      omega
    exact oinit_ok T I1 ea hlen fun s' J => ⟨.non, H1, J, rfl, q⟩
end

/-- a def called wherever: a pin stands -/
structure FnA (P : Program) (w : World) (K : PySem.W.Frag) (mg : Str → Option Value) (base : Heap) (CX : CXT) (k : Nat) (f : Addr) (fd : FuncData) (ps : List Str) (sp : Sp) : Prop where
  len : ∀ vs H Q E, sp vs H Q E → vs.length = ps.length
  run : ∀ (A : Around) (outer : List Env) (s : Shared) (H : Hp) (args : Args) (us : List Value) (vs : List V) (Q : VK) (E : XK) (p : Addr × Obj), RoomH k A → PinOk outer H s p → Env0 P w K mg base A outer s H → BindsTo s fd args (ps.zip us) → Vals vs us → sp vs H Q E →
    codeAny (model P w) A (.call (.ref f) args) (CR CX outer P w H s Q E) s
theorem fn_ofA {CX : CXT} {P : Program} {w : World} {K : PySem.W.Frag} {mg : Str → Option Value} {base : Heap} {k : Nat} {f : Addr} {x qual : Str} {st : Stmt} {fd : FuncData} {N ps : List Str} {sp : Sp} (F : Fun K x qual st f fd) (S : FnScope N ps (defScope st)) (len : ∀ vs H Q E, sp vs H Q E → vs.length = ps.length)
    (hbody : ∀ (cdv : Value) (A : Around) (outer : List Env) (s : Shared) (H : Hp) (vs : List V) (Q : VK) (E : XK) (p : Addr × Obj), RoomH k (A.deeper (envOfC qual (defScope st) s.heap.objs.size f cdv)) → sp vs H Q E →
      ∃ t, PSs (cxH CX P w K mg base N qual (defScope st) f cdv A outer s H E p) (defBody st) t ∧ t { nx := fun _ H' => Q .non H', rt := Q } (L2.start N vs) H) : FnA P w K mg base CX (k + 1) f fd ps sp := by
  obtain ⟨oc, od, kV, doc, pm, an, cdv, ct, osl, rfl, lk, hcd⟩ := F.ex
  refine ⟨len, fun A outer s H args us vs Q E p hr hpin e0 hb r hsp => ?_⟩
  have KX : K.In s.heap := e0.mod.kin.keeps fun b o e => (e0.bs b o e).1
  have binds : ∀ y ∈ ps.zip us, (defScope st).names.lookup y.1 = some .local ∨ ((defScope st).names.lookup y.1 = some .cell ∧ ((cellsFrom (s.heap.objs.size + 1) (defScope st).names []).lookup y.1).isSome = true) := fun y hy =>
    (S.par y.1 (List.of_mem_zip hy).1).imp id fun q => ⟨q, PySem.W.cellsFrom_some _ _ _ (.inl q)⟩
  refine codeAny_call_function hr.depth (KX _ _ lk) rfl S.co S.gen rfl (PySem.W.codeRec_of KX hcd) (hb _ _ _ _ (wpAny_newFunctionEnv_cells S.kind binds fun env he s1 x => ?_))
  subst he
  refine ⟨(e0.mod.nolimit.keeps fun b o e => (e0.bs b o e).1).keeps x.toInCall.keep, codeAny_func ?_⟩
  obtain ⟨t, ht, hq⟩ := hbody cdv A outer s H vs Q E p (hr.deeper _) hsp
  refine wpAny_mono (ht.run [] s1 (L2.start N vs) H _ (inv_startH S hpin e0 (len _ _ _ _ hsp) r x) hq) (fun fl s' hs => ?_) fun e s' hs => hs
  cases fl with
  | ret u =>
    obtain ⟨v, σ', H', J, rv, q⟩ := hs
    exact ⟨v, H', J.os, J.bare, J.base, J.hok, rv, q⟩
  | next =>
    obtain ⟨σ', H', J, q⟩ := hs
    exact ⟨.non, H', J.os, J.bare, J.base, J.hok, rfl, q⟩
  | brk => exact (hs.elim fun _ h => h.elim fun _ h => h.2).elim
  | cont => exact (hs.elim fun _ h => h.elim fun _ h => h.2).elim

/-- the __init__ of such a class: self.fld = y -/
def spEI (C : Addr) (fld : Str) : Sp := fun vs H Q _ => ∃ (a : Addr) (y : V), vs = [.ref a, y] ∧ H a = some (exo a C none) ∧
  ∀ dx, H dx = none → dx ≠ a → Q .non (upd (upd H dx (exd dx [(fld, y)])) a (exo a C (some dx)))
/-- X(e): what the class and its __init__ are; the error's own dict d is new -/
def tMkX (C : Addr) (fld : Str) (ta : TA) : L2.St → Hp → XK → Prop := fun σ H Q => ta σ H fun vs H1 => ∃ y, vs = [y] ∧ ∀ d, H1 d = none → Q (.ref C) (some d) (upd H1 d (.xd [(fld, y)]))
/-- an own exception class with such an __init__ -/
structure ExcC (K : PySem.W.Frag) (mg : Str → Option Value) (x : Str) (C fI : Addr) : Prop where
  ox : OexC K C
  iC : PySem.W.findIn K (.ref C) "__init__" = some (some (.ref fI))
  tI : PySem.W.typeIn K (.ref fI) = some (.type "function")
  hm : mg x = some (.ref C)
section
variable {X : Cx} {x fld : Str} {C fI : Addr} {e : Expr} {ta : TA} {p pos : Pos}
theorem upd_del {H : Hp} {a d : Addr} {o o' u v : HO} (hn : H a = none) (hd : d ≠ a) : upd (del (upd (upd (upd H a v) d o') a u) a) d o = upd H d o := by
  funext b
  by_cases hb : b = d
  · rw [hb, upd_same, upd_same]
  · rw [upd_ne hb, upd_ne hb]
    by_cases ha : b = a
    · rw [ha, del_same, hn]
    · rw [del_ne ha, upd_ne ha, upd_ne hb, upd_ne ha]
theorem mk_run (T : ExcC X.K X.mg x C fI) (hg : Gl X x) (ha : PA X [e] ta)
    (hrun : ∀ (pins : List (Addr × Obj)) (σ : L2.St) (s2 : Shared) (H2 : Hp) (a : Addr) (y : V) (u : Value) (Q' : VK), Inv X pins σ H2 s2 → RelV y u → spEI C fld [.ref a, y] H2 Q' C8.E0 →
      codeAny (model X.prog X.w) (X.A.under (.builtin "type.__call__" ⟨[.ref C, u], []⟩)) (.call (.ref fI) ⟨[.ref a, u], []⟩) (CR C8.CX0 X.stack X.prog X.w H2 s2 Q' C8.E0) s2)
    (hdb : (x == ("__debug__" : Str)) = false := by decide) (hst : starEach (e :: []) X.env = (false, eval e X.env) :: starEach [] X.env := by rfl) (hpl : (backTo pos (starEach [] X.env)).any (·.1) = false := by rfl) :
    PMk5 X (.Call (.Name x p) [e] [] pos) (tMkX C fld ta) := by
  intro pins s σ H Q I h
  obtain ⟨nm, q, N, bs, bm, sn, sub, ab, col, dd, k0, k1, k2, k3, k5, hC, hbm⟩ := T.ox.cls
  refine wpAny_Call_Name_kw (ld_glob I hg T.hm ?_ hdb)
  refine PySem.W.callWith_K (h₀ := X.base) I.ok.mod.kin T.ox.kC (thn (ha.run pos pins s σ H _ I h) fun us s1 ⟨vs, H1, I1, r1, y, ev, q1⟩ => ⟨I1.kIn, ?_⟩) hst hpl
  subst ev
  obtain ⟨u, rfl, ru⟩ : ∃ u, us = [u] ∧ RelV y u := by
    cases r1 with
    | cons r rr => cases rr; exact ⟨_, rfl, r⟩
  show wpAny _ _ (call (.ref C) [u]) _ _ _
  obtain ⟨hp, g, dr, tk, os⟩ := s1
  have hsz : hp.objs.size ≤ hp.objs.size + 1 := Nat.le_succ _
  have hn : H1 (hp.objs.size + 1) = none := I1.hok.fresh hsz
  have kk : ∀ b o, hp.get? b = some o → ((hp.push (PySem.W.kdv_tup [u])).push (PySem.HandSPX.excO C hp.objs.size)).get? b = some o := fun b o z => Heap.get?_push_of_some _ (Heap.get?_push_of_some _ z)
  have new : ((hp.push (PySem.W.kdv_tup [u])).push (PySem.HandSPX.excO C hp.objs.size)).get? (hp.objs.size + 1) = some (PySem.HandSPX.excO C hp.objs.size) := by heap_get
  have I2 : Inv X pins σ (upd H1 (hp.objs.size + 1) (exo (hp.objs.size + 1) C none)) ⟨(hp.push (PySem.W.kdv_tup [u])).push (PySem.HandSPX.excO C hp.objs.size), g, dr, tk, os⟩ := I1.laid (t' := tk) kk hsz (exo_ok new)
  refine wpAny_call (PySem.HandSPX.call_own F.excBase_ValueError (fun Y => PySem.HandSPX.refsVE_contains Y bm hbm) (I1.kIn _ _ hC) (PySem.W.looks_findIn I1.kIn T.iC) (fun self => PySem.W.bind_fn I1.kIn self T.tI) (by show 1 ≤ sizeLine; rw [sizeLine_eq]; omega)
    (codeAny_mono (hrun pins σ _ _ (hp.objs.size + 1) y u (fun v H2 => v = .non ∧ ∃ d, H1 d = none ∧ d ≠ hp.objs.size + 1 ∧ H2 = upd (upd (upd H1 (hp.objs.size + 1) (exo (hp.objs.size + 1) C none)) d (exd d [(fld, y)])) (hp.objs.size + 1) (exo (hp.objs.size + 1) C (some d))) I2 ru
      ⟨hp.objs.size + 1, y, rfl, upd_same, fun d hd nd => ⟨rfl, d, by rw [upd_ne nd] at hd; exact hd, nd, rfl⟩⟩) fun r s' hq => ?_))
  cases r with
  | error er => exact (show False from hq).elim
  | ok fl =>
    cases fl with
    | ret v =>
      obtain ⟨v', H2, os2, bare2, un2, hok2, rv, ev, d, hd, nd, eH⟩ := hq
      subst ev
      obtain ⟨h2, g2, d2, t2, os'⟩ := s'
      have ea : H2 (hp.objs.size + 1) = some (exo (hp.objs.size + 1) C (some d)) := by rw [eH, upd_same]
      have ed : H2 d = some (exd d [(fld, y)]) := by rw [eH, upd_ne nd, upd_same]
      obtain ⟨t0, G, J, kG, ge, hoe, na⟩ := mk_end0 (d2 := d2) (t2 := t2) I1 hsz kk un2 hok2 os2 bare2 ea ed hd
      rw [eH, upd_del hn nd] at J na
      refine ⟨rv, ⟨hp.objs.size + 1, _, _, ⟨G, g2, d2, t2, os'⟩, _, .ref C, some d, rfl, J, kG, ge, hoe, ⟨rfl, rfl, fun vs hv => ?_⟩, rfl, rfl, na, rfl, bare2, raises_own T.ox.exC T.ox.tyC, q1 d hd⟩, fun a oe vs ea2 hg2 hd2 => ?_⟩
      · cases hv
        rfl
      · cases ea2
        rw [show h2.get? (hp.objs.size + 1) = some oe from hg2] at hoe
        cases hoe
        cases hd2
        show (4 : Nat) < 6
        decide
    | next => exact (show False from hq).elim
    | brk => exact (show False from hq).elim
    | cont => exact (show False from hq).elim
/-- made where nothing is handled -/
theorem mk_calm {k : Nat} {fd : FuncData} (T : ExcC X.K X.mg x C fI) (F1 : FnOk X.prog X.w X.K X.mg X.base C8.CX0 k fI fd ["self", fld] (spEI C fld)) (hr : Room (k + 1) X.A) (hb : Binds X.K fd ["self", fld] []) (ha : PA X [e] ta) (hg : Gl X x := by rfl)
    (hdb : (x == ("__debug__" : Str)) = false := by decide) (hst : starEach (e :: []) X.env = (false, eval e X.env) :: starEach [] X.env := by rfl) (hpl : (backTo pos (starEach [] X.env)).any (·.1) = false := by rfl) :
    PMk5 X (.Call (.Name x p) [e] [] pos) (tMkX C fld ta) :=
  mk_run T hg ha (fun pins σ s2 H2 a y u Q' I2 ru h => F1.run _ X.stack _ _ ⟨[.ref a, u], []⟩ [.ref a, u] [.ref a, y] Q' C8.E0 (hr.make C [u] []) (I2.env0.make C [u] []) (hb _ [.ref a, u] I2.kIn rfl) (.cons rfl (.cons ru .nil)) h) hdb hst hpl
/-- a pin of the context -/
theorem pin_ok {pins : List (Addr × Obj)} {σ : L2.St} {H : Hp} {s : Shared} {q : Addr × Obj} (I : Inv X pins σ H s) (hq : q ∈ X.pn) : PinOk X.stack H s q :=
  let P1 := I.pin q (List.mem_append_left _ hq)
  ⟨P1.1, P1.2.1, fun hm => (List.mem_cons.mp (I.stkSub q.1 hm)).elim P1.2.2.1 P1.2.2.2.1, P1.2.2.2.2⟩
/-- made where an exception is handled -/
theorem mk_hot {k : Nat} {fd : FuncData} {q : Addr × Obj} (T : ExcC X.K X.mg x C fI) (F1 : FnA X.prog X.w X.K X.mg X.base C8.CX0 k fI fd ["self", fld] (spEI C fld)) (hr : RoomH (k + 1) X.A) (hq : q ∈ X.pn) (hb : Binds X.K fd ["self", fld] []) (ha : PA X [e] ta) (hg : Gl X x := by rfl)
    (hdb : (x == ("__debug__" : Str)) = false := by decide) (hst : starEach (e :: []) X.env = (false, eval e X.env) :: starEach [] X.env := by rfl) (hpl : (backTo pos (starEach [] X.env)).any (·.1) = false := by rfl) :
    PMk5 X (.Call (.Name x p) [e] [] pos) (tMkX C fld ta) :=
  mk_run T hg ha (fun pins σ s2 H2 a y u Q' I2 ru h => F1.run _ X.stack _ _ ⟨[.ref a, u], []⟩ [.ref a, u] [.ref a, y] Q' C8.E0 q (hr.make C [u] []) (pin_ok I2 hq) (I2.env0.make C [u] []) (hb _ [.ref a, u] I2.kIn rfl) (.cons rfl (.cons ru .nil)) h) hdb hst hpl
end
end XF
end
section
/-! Exceptions: raised in a suite (from None); a try whose one clause takes all and whose suite may raise -/
set_option maxHeartbeats 4000000
namespace XF
open PySem PySem.Spec PyProof.Rows L2 HotX L2H

theorem tk_of {Z : ZT} (zo : ZOk Z) {X : Cx} {E : XK} (hs : X.stack = X.env :: X.outer) (hf : X.env.frame = some X.env.locals) (hex : X.ex = []) {E₁ : Value → Shared → Prop}
    (hx : X.xe = fun e t => wpAny (model X.prog X.w) X.A (leaving X.env e) (fun _ t' => Out Z X.prog X.w X.outer X.H_0 X.s_0 E e t') E₁ t) : Tk Z X (fun c d _ H => E c d H) := fun u t x => by
  rw [hx]
  exact Air.leaves (W := fun c d _ H => E c d H) (E := E) zo hs hf hex (fun _ _ _ _ h => h) x
theorem passAt {Z : ZT} {X : Cx} {W : WX} (k : Tk Z X W) (σ : L2.St) : PassesAt (Out Z X.prog X.w) X σ (WE W σ) := fun _ _ _ e t I c => k e t (Air.called I (fun _ _ _ h => h) c)

/-- what a suite bears: the handled exception's object, and its context's, if it has one -/
structure HotS (X : Cx) (q : Addr × Obj) : Prop where
  mem : q ∈ X.pn
  hh : X.A.handled = some (.ref q.1)
  ctx : ∃ vs cx, q.2.data = .fields vs ∧ vs[2]? = some cx ∧ (cx = .none ∨ ∃ r ∈ X.pn, cx = .ref r.1 ∧ ∃ ws, r.2.data = .fields ws ∧ ws[2]? = some .none)
/-- .. and it has none -/
structure HotN (X : Cx) (q : Addr × Obj) : Prop where
  mem : q ∈ X.pn
  hh : X.A.handled = some (.ref q.1)
  ctx : ∃ vs, q.2.data = .fields vs ∧ vs[2]? = some .none
theorem HotN.s {X : Cx} {q : Addr × Obj} (h : HotN X q) : HotS X q := ⟨h.mem, h.hh, let ⟨vs, a, b⟩ := h.ctx; ⟨vs, .none, a, b, .inl rfl⟩⟩
section
variable {X : Cx} {W : WX} {e : Expr} {t : L2.St → Hp → XK → Prop} {j : Nat} {cpos pos : Pos} {q : Addr × Obj}
/-- what «raise .. from None» leaves of the new exception's object -/
theorem raised (hq : HotS X q) (he : PMk5 X e t)
    (fin : ∀ (pins : List (Addr × Obj)) (σ : L2.St) (a : Addr) (sI t1 : Shared) (H' : Hp) (c : Value) (d : Option Addr) (oe : Obj) (vs : Array Value), Inv X pins σ H' sI → (∀ b u, sI.heap.get? b = some u → t1.heap.get? b = some u) → sI.heap.get? a = none → t1.heap.get? a = some oe →
      Zc c d oe → oe.data = .fields vs → vs[1]? = some .none → vs[2]? = some (.ref q.1) → H' a = none → t1.os = sI.os → AllBare t1.gens → W c d σ H' → X.xe (.ref a) t1) :
    PS X (.Raise (some e) (some (.Constant .none j cpos)) pos) (fun _ σ H => t σ H fun c d H' => W c d σ H') := by
  refine ⟨fun pins s σ H D I h => ?_⟩
  show wpAny _ _ (do standAt pos; raiseStmt X.env (some (do let v ← eval e X.env; standAt pos; pure v)) (some (do let v ← eval (.Constant .none j cpos) X.env; standAt pos; pure v))) _ _ _
  refine wpAny_bind (wpAny_standAt (raise_two (fun s2 Q2 q2 => wpAny_bind (Constant_none (wpAny_bind (wpAny_standAt (wpAny_pure q2))))) (wpAny_bind (wpAny_mono (he pins s σ H _ I h) (fun u s1 hu => wpAny_bind (wpAny_standAt (wpAny_pure ?_))) fun _ _ x => x))))
  obtain ⟨⟨a, oe, vs, sI, H', c, d, rfl, J, k, hne, ha, hz, hd, h1, na, os, ag, r, w⟩, h5⟩ := hu
  have hi : 4 < vs.size := h5 a oe vs rfl ha hd
  have kb : ∀ b u, sI.heap.get? b = some u → b ≠ a := fun b u z y => by rw [y, hne] at z; cases z
  have k4 : ∀ b u, sI.heap.get? b = some u → (noneFrom s1.heap a).get? b = some u := fun b u z => by
    rw [noneFrom_other (Ne.symm (kb b u z))]
    exact k b u z
  have pinAt : ∀ r ∈ X.pn, s1.heap.get? r.1 = some r.2 ∧ r.1 ≠ a := fun r hr => let p := (J.pin r (List.mem_append_left _ hr)).1; ⟨k _ _ p, kb _ _ p⟩
  obtain ⟨r1, _⟩ := r (model X.prog X.w) s1.heap (J.kIn.keeps k)
  obtain ⟨_, r2⟩ := r (model X.prog X.w) (noneFrom s1.heap a) (J.kIn.keeps k4)
  obtain ⟨vq, cx, e1, e2, e3⟩ := hq.ctx
  have hot : Hot2 X.A q.1 a s1.heap := by
    refine ⟨hq.hh, (pinAt q hq.mem).2, q.2, vq, cx, (pinAt q hq.mem).1, e1, e2, ?_⟩
    rcases e3 with e3 | ⟨r, hr, er, ws, g1, g2⟩
    · exact .inl e3
    · exact .inr ⟨r.1, r.2, ws, er, (pinAt r hr).2, (pinAt r hr).1, g1, g2⟩
  obtain ⟨ha4, hd4⟩ := noneFrom_at ha hd
  refine ⟨a, oe, vs, c, q.1, rfl, ha, hz.1, hd, h1, hi, hot, r1, r2, fin pins σ a sI _ H' c d _ _ J (fun b u z => ?_) hne (Heap.get?_update_self _ ha4 (Obj.isFreed_of_fields (Obj.data_mapFields hd4 _)))
    ⟨by rw [Obj.cls_mapFields, Obj.cls_mapFields, Obj.cls_mapFields]; exact hz.1, by rw [HandSPX.dict_mapFields, HandSPX.dict_mapFields, HandSPX.dict_mapFields]; exact hz.2.1⟩ (Obj.data_mapFields hd4 _)
    (set_other (by decide) (set_other (by decide) (set_other (by decide) h1))) ?_ na os ag w⟩
  · show ((noneFrom s1.heap a).update a (Obj.mapFields (·.setIfInBounds 2 (.ref q.1)))).get? b = some u
    rw [Heap.get?_update_other _ _ (Ne.symm (kb b u z))]
    exact k4 b u z
  · have n2 : 2 < ((vs.setIfInBounds 3 Value.none).setIfInBounds 4 (Value.bool true)).size := by rw [set_size, set_size]; omega
    show (Array.setIfInBounds ((vs.setIfInBounds 3 Value.none).setIfInBounds 4 (Value.bool true)) 2 (Value.ref q.1))[2]? = _
    rw [Array.getElem?_setIfInBounds, if_pos rfl, if_pos n2]
/-- where the context's own knowledge of contexts is lost -/
theorem ps_raiseS (hq : HotS X q) (tk : L2.Takes X W) (he : PMk5 X e t) : PS X (.Raise (some e) (some (.Constant .none j cpos)) pos) (fun _ σ H => t σ H fun c d H' => W c d σ H') :=
  raised hq he fun pins σ a sI t1 H' c d oe vs J k hne ha hz hd h1 _ na os ag w => tk _ _ (L2.XE.new J k hne ha hz hd h1 na os ag w)
/-- .. where the handled one has no context -/
theorem ps_raiseN (hq : HotN X q) (tk : Tk Z1 X W) (he : PMk5 X e t) : PS X (.Raise (some e) (some (.Constant .none j cpos)) pos) (fun _ σ H => t σ H fun c d H' => W c d σ H') :=
  raised hq.s he fun pins σ a sI t1 H' c d oe vs J k hne ha hz hd h1 h2 na os ag w => tk _ _ (Air.fresh J k hne ha (fun B nb => by
    obtain ⟨vq, e1, e2⟩ := hq.ctx
    have po := pin_ok J hq.mem
    refine ⟨hz, .ref q.1, fun vs' hv => ?_, .inr ⟨q.1, q.2, vq, rfl, nb _ _ po.get po.nofs, po.free, e1, e2⟩⟩
    rw [hd] at hv
    cases hv
    exact h2) hd h1 na os ag w)
end

/-- the pins that the exception's object wants beside it -/
def Beside (B : Heap) (H : Hp) (o : Obj) (ex : List (Addr × Obj)) : Prop := (∀ r ∈ ex, B.get? r.1 = some r.2 ∧ H r.1 = none ∧ ∃ ws, r.2.data = .fields ws) ∧
  ∃ vs cx, o.data = .fields vs ∧ vs[2]? = some cx ∧ (cx = .none ∨ ∃ r ∈ ex, cx = .ref r.1 ∧ ∃ ws, r.2.data = .fields ws ∧ ws[2]? = some .none)
theorem Z1.beside {B : Heap} {H : Hp} {c : Value} {d : Option Addr} {o : Obj} {vs : Array Value} (z : Z1 B H c d o) (hd : o.data = .fields vs) : ∃ ex, Beside B H o ex := by
  obtain ⟨_, cx, h1, h2⟩ := z
  rcases h2 with rfl | ⟨x, ox, ws, rfl, g1, g2, g3, g4⟩
  · exact ⟨[], fun r h => absurd h (by simp), vs, .none, hd, h1 vs hd, .inl rfl⟩
  · refine ⟨[(x, ox)], fun r h => ?_, vs, .ref x, hd, h1 vs hd, .inr ⟨(x, ox), by simp, rfl, ws, g3, g4⟩⟩
    have e : r = (x, ox) := by simpa using h
    subst e
    exact ⟨g1, g2, ws, g3⟩
theorem zb0 {B : Heap} {H : Hp} {c : Value} {d : Option Addr} {o : Obj} {vs : Array Value} (z : Z0 B H c d o) (hd : o.data = .fields vs) : ∃ ex, Beside B H o ex ∧ (Z0 = Z0 → ex = []) :=
  ⟨[], ⟨fun r h => absurd h (by simp), vs, .none, hd, z.2.2 vs hd, .inl rfl⟩, fun _ => rfl⟩
theorem zb1 {B : Heap} {H : Hp} {c : Value} {d : Option Addr} {o : Obj} {vs : Array Value} (z : Z1 B H c d o) (hd : o.data = .fields vs) : ∃ ex, Beside B H o ex ∧ (Z1 = Z0 → ex = []) := by
  by_cases h : Z1 = Z0
  · rw [h] at z
    obtain ⟨ex, b, e⟩ := zb0 z hd
    exact ⟨ex, b, fun _ => e rfl⟩
  · obtain ⟨ex, b⟩ := z.beside hd
    exact ⟨ex, b, fun e => absurd e h⟩
section
variable {X : Cx} {pins : List (Addr × Obj)} {σ : L2.St} {H : Hp} {s : Shared}
theorem into {a : Addr} {ex : List (Addr × Obj)} (I : Inv X pins σ H s) (h : ∀ r ∈ ex, s.heap.get? r.1 = some r.2 ∧ H r.1 = none ∧ r.1 ≠ X.env.locals ∧ r.1 ∉ X.fs ∧ ∀ v, r.2.data ≠ .cell v) : Inv (suiteX X a (ex ++ (X.pn ++ pins))) [] σ H s :=
  suiteX_of ⟨I.ok.suite _ _, I.os, I.bare, I.base, I.loc, I.cell, I.free, I.freeC, fun p hp => by
    rw [List.append_nil] at hp
    exact (List.mem_append.mp hp).elim (h p) (I.pin p), I.hok, I.len⟩
theorem outof {a : Addr} {ex pn' : List (Addr × Obj)} (I : Inv (suiteX X a (ex ++ (X.pn ++ pins))) pn' σ H s) (ok : X.Ok) : Inv X pins σ H s :=
  ⟨ok, I.os, I.bare, I.base, I.loc, I.cell, I.free, I.freeC, fun p hp => I.pin p (List.mem_append_left _ (List.mem_append_right _ hp)), I.hok, I.len⟩
end
/-- how what leaves the try is taken: the same in the suite -/
structure Taken (X : Cx) (OT : Cx → Prop) : Prop where
  here : OT X
  in_ : ∀ (a : Addr) (ex pins : List (Addr × Obj)), X.Ok → OT (suiteX X a (ex ++ (X.pn ++ pins)))
theorem taken_l2 {X : Cx} {W : WX} (tk : L2.Takes X W) : Taken X (fun Y => L2.Takes Y W) := ⟨tk, fun a ex pins ok u t ⟨a2, B2, sI2, pn2, σ2, H2, c2, d2, e2, I2, r⟩ => tk u t ⟨a2, B2, sI2, pins, σ2, H2, c2, d2, e2, outof I2 ok, r⟩⟩
theorem taken_tk {Z : ZT} {X : Cx} {W : WX} (tk : Tk Z X W) : Taken X (fun Y => Tk Z Y W) := ⟨tk, fun a ex pins ok u t ⟨a2, B2, sI2, pn2, σ2, H2, c2, d2, e2, I2, r⟩ => tk u t ⟨a2, B2, sI2, pins, σ2, H2, c2, d2, e2, outof I2 ok, r⟩⟩
/-- the body's wish: the clause takes it -/
def wAll (K : PySem.W.Frag) (cn : Value) (ts : Addr → Value → Option Addr → TS) (D : Ends) : WX := fun c d σ H => PySem.W.exmOne K c cn = some true ∧ ∀ a, H a = none → ts a c d D σ H
section
variable {X : Cx} {x : Str} {cn : Value} {body suite : List Stmt} {b₀ : Stmt} {np pos pos' : Pos} {tb : WX → TS} {ts : Addr → Value → Option Addr → TS} {OT : Cx → Prop} {Z : ZT}
theorem ps_try_all (hs : X.stack = X.env :: X.outer) (hf : X.env.frame = some X.env.locals) (hc : Names X x cn) (hpa : ∀ hd : Option Value, PassesOwnAt (model X.prog X.w) (X.A.mark hd) X.A X.env X.xe) (ot : Taken X OT) (zo : ZOk Z)
    (zb : ∀ {B : Heap} {H : Hp} {c : Value} {d : Option Addr} {o : Obj} {vs : Array Value}, Z B H c d o → o.data = .fields vs → ∃ ex, Beside B H o ex ∧ (Z = Z0 → ex = []))
    (hb : ∀ (W : WX) (pn : List (Addr × Obj)) (xe : Value → Shared → Prop), Tk Z (X.tr pn xe) W → PassesOwn (model X.prog X.w) X.A X.env xe → PSs (X.tr pn xe) body (tb W))
    (hsu : ∀ (a : Addr) (oe : Obj) (c : Value) (d : Option Addr) (pn : List (Addr × Obj)), HotS (suiteX X a pn) (a, oe) → (Z = Z0 → HotN (suiteX X a pn) (a, oe)) → OT (suiteX X a pn) → PSs (suiteX X a pn) (b₀ :: suite) (ts a c d)) :
    PS X (.Try body [.ExceptHandler (some (.Name x np)) none (b₀ :: suite) pos'] [] [] pos) (fun D σ H => tb (wAll X.K cn ts D) D σ H) := by
  refine ⟨fun pins s σ H D I h => ?_⟩
  have ok := I.ok
  have hfr : X.A.frames = some (X.env :: X.outer) := by rw [ok.frames, hs]
  have notFr : ∀ {B h : Heap} {a : Addr} {o : Obj} {vs : Array Value}, h.FunFrames B (X.env :: X.outer) → h.get? a = some o → o.data = .fields vs → a ≠ X.env.locals ∧ a ∉ X.fs := fun {B h a o vs} ff e dd => by
    have nf : a ∉ frs (X.env :: X.outer) := fun hm => by
      obtain ⟨_, o', e', hnf⟩ := ff.mem hm
      rw [e] at e'; cases e'
      exact hnf _ dd
    refine ⟨fun z => nf (List.mem_filterMap.mpr ⟨X.env, List.mem_cons_self, by rw [hf, z]⟩), fun hm => ?_⟩
    obtain ⟨e, he, q⟩ := List.mem_filterMap.mp hm
    exact nf (List.mem_filterMap.mpr ⟨e, List.mem_cons_of_mem _ he, q⟩)
  refine wpAny_Try_except ?_
  refine wpAny_mono ((hb (wAll X.K cn ts D) (X.pn ++ pins) (fun e s₁ => wpAny (model X.prog X.w) X.A (noteFrame e X.env) (fun _ s₂ => wpAny (model X.prog X.w) X.A (setFlight e none) (fun _ s₃ =>
    wpAny (model X.prog X.w) X.A (handleBy e X.env [.ExceptHandler (some (.Name x np)) none (b₀ :: suite) pos']) (SP X pins D) X.xe s₃) X.xe s₂) X.xe s₁) (fun u t xx => ?_) PassesOwn.looking).run [] s σ H D (I.toTry _) h) (fun f s1 hsp => ?_) (fun e s1 he => he)
  · obtain ⟨a, B, sI, pins', σ', H', c, d, rfl, J', nb, up, sky, na, os, ag, hm, hts⟩ := xx
    have J : Inv X pins σ' H' sI := J'.ofTry ok
    have sky' : Sky B (X.env :: X.outer) a (Z B H' c d) X.env.locals t.heap := by rw [← hs]; exact sky
    show wpAny (model X.prog X.w) X.A (noteFrame (.ref a) X.env) _ _ _
    refine L2N.Sky.land (zo.st _ _ _ _) hfr hf sky' fun h3 fl3 up3 => ?_
    have J3 : Inv X pins σ' H' { t with heap := h3 } := J.landed nb fl3.1 (up.trans up3) os ag
    obtain ⟨oe3, vs3, he3, hz3, hd3⟩ := fl3.there
    obtain ⟨nL, nF⟩ := notFr fl3.2.2.1 he3 hd3
    have S3 := J3.suite he3 hd3 na nL nF
    refine wpAny_handleBy_cons (codeAny_handlers_test ?_) (by intro q; cases q)
    have LT : PySem.W.Looks (model X.prog X.w) h3 (typeOf (.ref a)) c := fun A Q E s k q => wpAny_typeOf_ref (k _ _ he3) (by rw [(zo.zc hz3).1]; exact q)
    have LM := PySem.W.exm_one (M := model X.prog X.w) (J3.kIn) LT hm
    have test : ∀ {Q : Value → Shared → Prop} {E : Value → Shared → Prop}, Q cn { t with heap := h3 } → wpAny (model X.prog X.w) (X.A.mark (some (.ref a))) (eval (.Name x np) X.env) Q E { t with heap := h3 } := fun {Q E} q => by
      obtain ⟨hg, hdbg, hm | ⟨hm, hv, hnn⟩⟩ := hc
      · exact ld_glob (X := X.suite a ((a, oe3) :: (X.pn ++ pins))) S3 hg hm q hdbg
      · exact ld_blt (X := X.suite a ((a, oe3) :: (X.pn ++ pins))) S3 hg hm hv q hnn hdbg
    refine test (LM.here ?_)
    refine codeAny_handlers_suite ?_
    refine HandSPX.lands_againZ fl3 fun h4 fl4 up4 => ?_
    have J4 : Inv X pins σ' H' { t with heap := h4 } := J.landed nb fl4.1 ((up.trans up3).trans up4) os ag
    obtain ⟨oe4, vs4, he4, hz4, hd4⟩ := fl4.there
    obtain ⟨ex, ⟨bs1, vs', cx, e1, e2, e3⟩, ez⟩ := zb hz4 hd4
    have S4 : Inv (suiteX X a (((a, oe4) :: ex) ++ (X.pn ++ pins))) [] σ' H' { t with heap := h4 } := into J4 fun r hr => by
      rcases List.mem_cons.mp hr with e | hr
      · rw [e]
        exact ⟨he4, na, nL, nF, fun v z => by rw [hd4] at z; cases z⟩
      · obtain ⟨g1, g2, ws, g3⟩ := bs1 r hr
        have g4 := fl4.1 r.1 r.2 g1
        obtain ⟨n1, n2⟩ := notFr fl4.2.2.1 g4 g3
        exact ⟨g4, g2, n1, n2, fun v z => by rw [g3] at z; cases z⟩
    have hot : HotS (suiteX X a (((a, oe4) :: ex) ++ (X.pn ++ pins))) (a, oe4) := by
      refine ⟨List.mem_append_left _ List.mem_cons_self, rfl, vs', cx, e1, e2, ?_⟩
      rcases e3 with e3 | ⟨r, hr, e4, e5⟩
      · exact .inl e3
      · exact .inr ⟨r, List.mem_append_left _ (List.mem_cons_of_mem _ hr), e4, e5⟩
    have hotN : Z = Z0 → HotN (suiteX X a (((a, oe4) :: ex) ++ (X.pn ++ pins))) (a, oe4) := fun z => by
      refine ⟨List.mem_append_left _ List.mem_cons_self, rfl, vs', e1, ?_⟩
      rcases e3 with e3 | ⟨r, hr, _⟩
      · rw [e2, e3]
      · rw [ez z] at hr
        simp at hr
    refine wpAny_mono ((hsu a oe4 c d _ hot hotN (ot.in_ a _ pins ok)).run [] _ _ H' _ S4 (hts a na)) (fun f s6 hsp => ?_) (fun e6 s6 z => hpa (some (.ref a)) e6 s6 z)
    cases f with
    | next => exact let ⟨σ6, H6, S6, q6⟩ := hsp; ⟨_, _, outof S6 ok, q6⟩
    | brk => exact let ⟨σ6, H6, S6, q6⟩ := hsp; ⟨_, _, outof S6 ok, q6⟩
    | cont => exact let ⟨σ6, H6, S6, q6⟩ := hsp; ⟨_, _, outof S6 ok, q6⟩
    | ret u => exact let ⟨v6, σ6, H6, S6, r6, q6⟩ := hsp; ⟨_, _, _, outof S6 ok, r6, q6⟩
  · cases f with
    | next => exact let ⟨σ', H', J', q⟩ := hsp; wpAny_execs_nil ⟨σ', H', J'.ofTry ok, q⟩
    | brk => exact let ⟨σ', H', J', q⟩ := hsp; ⟨σ', H', J'.ofTry ok, q⟩
    | cont => exact let ⟨σ', H', J', q⟩ := hsp; ⟨σ', H', J'.ofTry ok, q⟩
    | ret u => exact let ⟨v, σ', H', J', r, q⟩ := hsp; ⟨v, σ', H', J'.ofTry ok, r, q⟩
end
end XF
end
section
/-! A list comprehension whose element lets an exception out -/
set_option maxHeartbeats 4000000
namespace XF
open PySem PySem.Spec PyProof.Rows L2 HotX L2H

def postX (M : Model) (A : Around) (E : Value → Shared → Prop) (Q : Value → Shared → Prop) (acc : Value) (ce : Env) (r : Result) (s' : Shared) : Prop :=
  match r with
  | .ok _ => ∃ m, s'.heap.Ns ce.locals m ∧ ∀ h', Heap.SameBut ce.locals s'.heap h' → Q acc { s' with heap := h' }
  | .error x => ∃ m, s'.heap.Ns ce.locals m ∧ ∀ h', Heap.SameBut ce.locals s'.heap h' → wpAny M A (PySem.passOn "comprehension.variables-let-go" x ce : Sem Value) (fun _ _ => False) E { s' with heap := h' }
section
variable {M : Model} {A : Around} {E : Value → Shared → Prop} {s : Shared} {env : Env}
theorem comp_x {e : Expr} {scope : Scope} {pos : Pos} {newAcc first : Sem Value} {g : Comprehension} {gs : List Comprehension} {cl : List (Str × Addr)} {Q : Value → Shared → Prop}
    (hcl : clausesOf e = g :: gs) (hs : ∀ x, foldedSetIterable g.iter env x = pure x) (hclos : closureFor scope env = pure cl)
    (hkind : scope.kind = .function) (hnames : ∀ x ∈ scope.names, x.2 = .local → scope.names.lookup x.1 = some .local)
    (h : wpAny M A first (fun x s₁ => wpAny M A (pyIter x) (fun it s₂ => wpAny M A newAcc (fun acc s₃ =>
      wpAny M A (newFunctionEnv scope env.globals cl [] env.qual none .none (some env)) (fun cenv s₄ =>
        codeAny M A (.compStart e 0 it acc { cenv with scope := relabel scope env }) (postX M A E Q acc { cenv with scope := relabel scope env }) s₄) E s₃) E s₂) E s₁) E s) :
    wpAny M A (comprehension e scope env pos newAcc false first none) Q E s := by
  unfold comprehension
  rw [hclos, hcl]
  refine wpAny_bind (wpAny_mono h (fun x s₁ h₁ => wpAny_bind (wpAny_standAt (wpAny_bind (wpAny_of_eq (hs x) (wpAny_bind (wpAny_holding (wpAny_mono h₁ (fun it s₂ h₂ =>
    wpAny_standIf (wpAny_bind (wpAny_mono h₂ (fun acc s₃ h₃ => wpAny_bind (wpAny_pure (wpAny_bind (wpAny_mono h₃ (fun cenv s₄ h₄ => ?_) fun _ _ h' => h')))) fun _ _ h' => h')))
      fun _ _ h' => h'))))))) fun _ _ h' => h')
  dsimp only
  have hv : ∀ x ∈ (scope.names.filter fun x => (x.2 == .local || x.2 == .cell) && x.1 != (".0" : Str)).reverse, x.2 = .local →
      Env.kindOf { cenv with scope := relabel scope env } x.1 = some .local := fun x hx hl => lookup_relabel_local (hnames x (List.mem_filter.mp (List.mem_reverse.mp hx)).1 hl)
  refine wpAny_holding (wpAny_bind (wpAny_attempt (wpAny_holding (wpAny_run (codeAny_mono h₄ fun r s' hr => ?_)))))
  cases r with
  | ok f =>
    obtain ⟨m, hn, hr⟩ := hr
    exact wpAny_bind (wpAny_holding (wpAny_comp_letGo (cenv := { cenv with scope := relabel scope env }) hkind _ s' m hv hn fun h' m' _ hs' => wpAny_pure (hr h' hs')))
  | error x =>
    obtain ⟨m, hn, hr⟩ := hr
    exact wpAny_bind (wpAny_holding (wpAny_comp_letGo (cenv := { cenv with scope := relabel scope env }) hkind _ s' m hv hn fun h' m' _ hs' => wpAny_mono (hr h' hs') (fun _ _ f => f.elim) fun _ _ y => y))
end

/-- frames kept but for one object that is no frame -/
theorem funFrames_but {h h' base : Heap} {C : Addr} (k : ∀ b o, b ≠ C → h.get? b = some o → h'.get? b = some o) : ∀ {l : List Env}, C ∉ frs l → h.FunFrames base l → h'.FunFrames base l
  | [], _, _ => trivial
  | env :: rest, hC, ⟨hk, ⟨L, o, hf, hn, ho, hd⟩, hr⟩ => by
    have e : frs (env :: rest) = L :: frs rest := by unfold frs; rw [List.filterMap_cons, hf]
    rw [e] at hC
    exact ⟨hk, ⟨L, o, hf, hn, k L o (fun z => hC (by rw [z]; simp)) ho, hd⟩, funFrames_but k (fun z => hC (List.mem_cons_of_mem _ z)) hr⟩
theorem funFrames_less {h base base' : Heap} (k : ∀ b, base.get? b = none → base'.get? b = none) : ∀ {l : List Env}, h.FunFrames base l → h.FunFrames base' l
  | [], _ => trivial
  | env :: rest, ⟨hk, ⟨L, o, hf, hn, ho, hd⟩, hr⟩ => ⟨hk, ⟨L, o, hf, k L hn, ho, hd⟩, funFrames_less k hr⟩
theorem traced_less {h base base' : Heap} {a : Addr} {Y : Obj → Prop} {fl : Value} (k : ∀ b, base.get? b = none → base'.get? b = none) (x : HandSPX.TracedZ h base a Y fl) : HandSPX.TracedZ h base' a Y fl :=
  let ⟨oe, vs, T, oT, ts, h1, h2, h3, h4, h5, h6⟩ := x; ⟨oe, vs, T, oT, ts, h1, h2, h3, h4, k T h5, h6⟩

theorem noteFrame_as {e : Value} {env env' : Env} (h : env.frame = env'.frame) : noteFrame e env = noteFrame e env' := by
  unfold noteFrame PySem.frameOf
  rw [h]
section
variable {X : Cx} {pins : List (Addr × Obj)} {σ : L2.St} {H : Hp} {s t : Shared} {W : WX} {E : XK} {C : Addr} {env : Env}
/-- a callee's exception goes out of a block whose names' dict C is let go -/
theorem block_out {R : Result → Shared → Prop} {u : Value} {m : Str → Option Value} (tk : Tk Z0 X W) (hs : X.stack = X.env :: X.outer) (hf : X.env.frame = some X.env.locals) (hce : env.frame = X.env.frame) (I : Inv X pins σ H s) (f : FpOk X pins H C) (hC : s.heap.Ns C m)
    (hW : ∀ c d H', E c d H' → W c d σ H') (x : Out Z0 X.prog X.w X.stack H s E u t)
    (hR : ∀ t2 : Shared, (∃ m, t2.heap.Ns C m ∧ ∀ h', Heap.SameBut C t2.heap h' → wpAny (model X.prog X.w) X.A (PySem.passOn "comprehension.variables-let-go" u env : Sem Value) (fun _ _ => False) X.xe { t2 with heap := h' }) → R (.error u) t2) :
    wpAny (model X.prog X.w) X.A (noteFrame u env) (fun _ t2 => R (.error u) t2) (fun _ _ => False) t := by
  obtain ⟨a, B, H', c, d, rfl, fl, hok, ub, na, os, ag, hE⟩ := x
  obtain ⟨f0, f1, f2, f3, f4, f5⟩ := f
  have hfr : X.A.frames = some (X.env :: X.outer) := by rw [I.ok.frames, hs]
  obtain ⟨oC, es, ep, hoC, rC⟩ := hC
  have nfC : C ∉ frs X.stack := fun hm => (List.mem_cons.mp (I.stkSub C hm)).elim f1 f2
  have BC : B.get? C = some oC := ub.keep C oC hoC f0 nfC
  have H'C : H' C = none := ub.free C oC hoC f0
  -- the ground without C
  have gB : ∀ b o, B.get? b = some o → b ≠ C → (PySem.W.hideAll B [C]).get? b = some o := fun b o e hb => PySem.W.hideAll_get _ e (by simpa using hb)
  have Bg : ∀ b o, (PySem.W.hideAll B [C]).get? b = some o → B.get? b = some o := fun b o e => PySem.W.of_hideAll _ e
  have gC : (PySem.W.hideAll B [C]).get? C = none := PySem.W.hideAll_none _ (by simp)
  generalize PySem.W.hideAll B [C] = B' at gB Bg gC
  have less : ∀ b, B.get? b = none → B'.get? b = none := fun b e => by
    cases q : B'.get? b with
    | none => rfl
    | some o => rw [Bg b o q] at e; cases e
  obtain ⟨st, an, ff, tr⟩ := fl
  have fl' : HandSPX.FlyingZ B' X.stack a (Z0 B' H' c d) t.heap := ⟨fun b o e => st b o (Bg b o e), less a an, funFrames_less less ff, traced_less less tr⟩
  rw [noteFrame_as hce]
  rw [hs] at fl'
  refine PXN.looks_onZ (Z0.ok.st _ _ _ _) hfr hf fl' fun h1 hd1 up1 => hR _ ?_
  have tC : t.heap.get? C = some oC := st C oC BC
  have dC : ∀ vs, oC.data ≠ .fields vs := fun vs q => by rw [rC.1] at q; cases q
  obtain ⟨slC, c1⟩ := up1 C oC tC dC
  refine ⟨m, ⟨_, es, ep, c1, rC⟩, fun h2 sb => ?_⟩
  obtain ⟨k1, k2, k3, oe, vs, T, oT, ts, he, hz, hd, h1', hnT, hTe, hT, hdT, h3⟩ := hd1
  have aC : a ≠ C := fun e => by rw [e, c1] at he; cases he; exact dC _ hd
  have TC : T ≠ C := fun e => by rw [e, c1] at hT; cases hT; exact dC _ hdT
  have hd2 : HandSPX.HeldZ B' (X.env :: X.outer) a (Z0 B' H' c d) X.env.locals h2 := by
    refine ⟨fun b o e => ?_, k2, funFrames_but (C := C) (fun b o hb e => (sb.2 b hb).trans e) (by rw [← hs]; exact nfC) k3, oe, vs, T, oT, ts, (sb.2 a aC).trans he, hz, hd, h1', hnT, hTe, (sb.2 T TC).trans hT, hdT, h3⟩
    have hb : b ≠ C := fun z => by rw [z, gC] at e; cases e
    exact (sb.2 b hb).trans (k1 b o e)
  unfold PySem.passOn
  have he2 : h2.get? a = some oe := (sb.2 a aC).trans he
  refine wpAny_bind (wpAny_field he2 hd h1' ?_)
  rw [if_neg (show ¬ ((Value.ref T == Value.none) = true) from by simp)]
  refine wpAny_bind ?_
  rw [hce, hf]
  refine HandSPX.setFlight_onZ hd2 fun h3' hd3 up3 => wpAny_throw (tk _ _ ?_)
  -- in the air of X
  obtain ⟨G, yes, no⟩ := restrict t.heap fun b => (B'.get? b).isSome || decide (b ∈ frs X.stack)
  have fromB : ∀ b o, B'.get? b = some o → G.get? b = some o := fun b o e => (yes b (by simp [e])).trans (st b o (Bg b o e))
  have fromF : ∀ b, b ∈ frs X.stack → G.get? b = t.heap.get? b := fun b hb => yes b (by simp [hb])
  have back : ∀ b o, G.get? b = some o → t.heap.get? b = some o ∧ ((B'.get? b).isSome = true ∨ b ∈ frs X.stack) := fun b o e => by
    by_cases q : ((B'.get? b).isSome || decide (b ∈ frs X.stack)) = true
    · rw [yes b q] at e
      exact ⟨e, by simpa [Bool.or_eq_true] using q⟩
    · rw [no b (by simpa using q)] at e
      cases e
  have hokB : HOk X.prog X.w H' B' := fun b o e => (hok b o e).stay (fun b' u hb q => gB b' u q (fun z => by
    rcases hb with hb | hb
    · rw [← hb, z, H'C] at e; cases e
    · rw [z, H'C] at hb; cases hb)) (fun _ q => q) fun _ _ q => q
  refine ⟨a, B', { s with heap := G, gens := t.gens, drawn := t.drawn, toks := t.toks }, pins, σ, H', c, d, rfl, ?_, fun b o e hb => ?_, fun b o e hn => ?_, .inr (.inr (by rw [hs]; exact hd3)), na, os, ag, hW _ _ _ hE⟩
  · refine I.call (ch := [C]) ⟨fun b o e n hb hc => fromB b o (gB b o (ub.keep b o e n hb) (by simpa using hc)), fun b o e n hb _ => ?_, fun b o e n _ => ub.free b o e n, fun b o e hc => ?_, ub.tups, ub.frzs, ub.tbls⟩ (hokB.kept fromB) ag fun b hb => ?_
    · obtain ⟨sl, q⟩ := ub.slot b o e hb
      exact ⟨sl, (fromF b hb).trans q⟩
    · by_cases hb : b ∈ frs X.stack
      · obtain ⟨sl, q⟩ := ub.slot b o e hb
        exact ⟨_, (fromF b hb).trans q⟩
      · obtain ⟨o', q⟩ := ub.there b o e hb
        exact ⟨o', fromB b o' (gB b o' q (by simpa using hc))⟩
    · have e : b = C := by simpa using hb
      rw [e]
      exact ⟨f3, f1, f4, f5⟩
  · obtain ⟨e', h⟩ := back b o e
    rcases h with h | h
    · obtain ⟨o', q⟩ := Option.isSome_iff_exists.mp h
      rw [q, ← e', st b o' (Bg b o' q)]
    · exact absurd h hb
  · obtain ⟨e', h⟩ := back b o e
    have hb : b ≠ C := fun z => by
      rcases h with h | h
      · rw [z, gC] at h; cases h
      · rw [z] at h; exact nfC h
    obtain ⟨sl, q⟩ := up1 b o e' hn
    have q2 : h2.get? b = some { o with slots := sl } := (sb.2 b hb).trans q
    obtain ⟨sl3, q3⟩ := up3 b _ q2 hn
    exact ⟨sl3, q3⟩
/-- the block's context, with a wish -/
abbrev blkX (X : Cx) (s : Shared) (H : Hp) (scope : Scope) (cenv : Env) (fp : List Addr) (xe : Value → Shared → Prop) : Cx := { X with s_0 := s, H_0 := H, env := cenv, outer := X.stack, ex := fp, fn := fun x => scope.names.lookup x == some .cell, pn := [], xe := xe }
theorem to_blkX {s0 : Shared} {H0 : Hp} {scope : Scope} {fp : List Addr} {xe : Value → Shared → Prop} (I : Inv (X.blk s0 H0 scope env fp) pins σ H s) : Inv (blkX X s0 H0 scope env fp xe) pins σ H s := Inv.wish (X := X.blk s0 H0 scope env fp) I xe
theorem of_blkX {s0 : Shared} {H0 : Hp} {scope : Scope} {fp : List Addr} {xe : Value → Shared → Prop} (I : Inv (blkX X s0 H0 scope env fp xe) pins σ H s) : Inv (X.blk s0 H0 scope env fp) pins σ H s := Inv.unwish (X := X.blk s0 H0 scope env fp) (E := xe) I
/-- [elt for target in iter if ..]: the element may let an exception out -/
theorem pe_lcX {elt tg iter : Expr} {ifs : List Expr} {scope : Scope} {own : List (Str × Nat)} {pos : Pos} {wi : TI} {g : TG} {tt : TT} {te : XK → TE} (hc : X.calm = true) (hs : X.stack = X.env :: X.outer) (hf : X.env.frame = some X.env.locals) (tk : Tk Z0 X W) (hN : X.N.Nodup) (hi : PI X tg iter wi) (ok : BlkOk X.N X.env.scope scope own)
    (hg : ∀ (s : Shared) (H : Hp) (C : Addr) (cl : List (Str × Addr)) (fp : List Addr), PG (X.blk s H scope (compEnvC scope cl C X.env) fp) tg g) (ht : ∀ (s : Shared) (H : Hp) (C : Addr) (cl : List (Str × Addr)) (fp : List Addr), PTs (X.blk s H scope (compEnvC scope cl C X.env) fp) ifs tt)
    (he : ∀ (s : Shared) (H : Hp) (C : Addr) (cl : List (Str × Addr)) (fp : List Addr) (xe : Value → Shared → Prop) (E : XK), (∀ σ, PassesAt (Out Z0 X.prog X.w) (blkX X s H scope (compEnvC scope cl C X.env) fp xe) σ E) → PE (blkX X s H scope (compEnvC scope cl C X.env) fp xe) elt (te E)) (hfs : ∀ x, foldedSetIterable iter X.env x = pure x := by intro _; rfl) :
    PE X (.ListComp elt [⟨tg, iter, ifs, 0⟩] scope pos) (fun σ H Q => tLc wi g tt (te fun c d H' => W c d σ H') (own.map (·.2)) σ H Q) := by
  refine ⟨fun pins s σ H Q I h => ?_⟩
  rw [eval_ListComp]
  have hfree : ∀ y ∈ scope.names, y.2 = .free → ∃ c, X.env.cells.lookup y.1 = some c := fun y hy e => by
    rcases ok.free y hy e with k | k
    · exact I.ok.has _ (.inl k)
    · exact I.ok.has _ (.inr k)
  refine comp_x rfl hfs (closure_ok hfree) ok.kind (fun y hy e => by rw [ok.uniq y hy, e])
    (thn (hi.run pins s σ H _ I h) fun xv s1 hx => thn hx fun itv s2 h2 => ?_)
  obtain ⟨it, fp, tn, J, H2, e, I2, T, st2, f2, q⟩ := h2
  subst e
  refine wpAny_newObj_type (newEnv_comp ?_) (by show 0 ≤ sizeLine; decide)
  generalize hD : s2.heap.objs.size = D
  have hDn : H2 D = none := I2.hok.fresh (Nat.le_of_eq hD)
  obtain ⟨V, ⟨m0, w0⟩, turn⟩ := q D hDn
  generalize hs3 : ({ s2 with heap := s2.heap.push { cls := .type "list", data := .seq ([] : List Value).toArray } } : Shared) = s3
  have I3 : Inv X pins σ (upd H2 D (.lst [])) s3 := by
    rw [← hs3]
    refine I2.laid (t' := s2.toks) (fun b o e => Heap.get?_push_of_some _ e) (Nat.le_of_eq hD) ⟨Nat.zero_le _, [], 0, .nil, ?_⟩
    rw [← hD]
    exact Heap.get?_push_size _ rfl
  have h3 : s3.heap = s2.heap.push { cls := .type "list", data := .seq ([] : List Value).toArray } := by rw [← hs3]
  have sz : ∀ b ∈ fp, b < s2.heap.objs.size := fun b hb => by
    obtain ⟨o, e, _⟩ := T.obj _ _ st2 b hb
    exact Heap.lt_size e
  have f3 : ∀ b ∈ fp, FpOk X pins (upd H2 D (.lst [])) b ∧ b < s3.heap.objs.size := fun b hb => by
    have hlt := sz b hb
    refine ⟨⟨?_, (f2 b hb).2⟩, by rw [h3, Heap.size_push]; exact Nat.lt_succ_of_lt hlt⟩
    rw [upd_ne (by rw [← hD]; exact Nat.ne_of_lt hlt)]
    exact (f2 b hb).1
  have st3 : tn 0 s3.heap := T.keep _ _ _ st2 fun b _ o e => by rw [h3]; exact Heap.get?_push_of_some _ e
  have I4 := block_start I3 ok hN f3
  have pg := hg s3 (upd H2 D (.lst [])) s3.heap.objs.size (cellsFrom (s3.heap.objs.size + 1) scope.names (cloFrom X.env.cells scope.names [])) fp
  have pt := ht s3 (upd H2 D (.lst [])) s3.heap.objs.size (cellsFrom (s3.heap.objs.size + 1) scope.names (cloFrom X.env.cells scope.names [])) fp
  have pe := he s3 (upd H2 D (.lst [])) s3.heap.objs.size (cellsFrom (s3.heap.objs.size + 1) scope.names (cloFrom X.env.cells scope.names [])) fp
  show codeAny _ _ (.compStart (.ListComp elt [⟨tg, iter, ifs, 0⟩] scope pos) 0 (.ref it) (.ref D) (compEnvC scope (cellsFrom (s3.heap.objs.size + 1) scope.names (cloFrom X.env.cells scope.names [])) s3.heap.objs.size X.env)) (postX (model X.prog X.w) X.A X.xe (fun v s' => EP X pins σ Q v s') (.ref D) (compEnvC scope (cellsFrom (s3.heap.objs.size + 1) scope.names (cloFrom X.env.cells scope.names [])) s3.heap.objs.size X.env)) { s3 with heap := pushCells (s3.heap.push { cls := .type "dict", data := .dict #[] }) scope.names }
  have nfp : ∀ b ∈ fp, (upd H2 D (.lst [])) b = none := fun b hb => (f3 b hb).1.1
  generalize hce : compEnvC scope (cellsFrom (s3.heap.objs.size + 1) scope.names (cloFrom X.env.cells scope.names [])) s3.heap.objs.size X.env = ce at I4 pg pt pe ⊢
  have cL : ce.locals = s3.heap.objs.size := by subst hce; rfl
  have cF : ce.frame = X.env.frame := by subst hce; rfl
  generalize hH3 : upd H2 D (.lst []) = H3 at I3 I4 pg pt pe w0 nfp f3
  generalize hs4 : ({ s3 with heap := pushCells (s3.heap.push { cls := .type "dict", data := .dict #[] }) scope.names } : Shared) = s4 at I4 ⊢
  have st4 : tn 0 s4.heap := T.keep _ _ _ st3 fun b _ o e => by rw [← hs4]; exact pushCells_keeps _ _ _ _ (Heap.get?_push_of_some _ e)
  have stat : ∀ {σ' : L2.St} {H' : Hp} {s' : Shared}, Inv (X.blk s3 H3 scope ce fp) [] σ' H' s' → (∀ b ∈ fp, H' b = none) → ∀ b ∈ fp, FpOk (X.blk s3 H3 scope ce fp) [] H' b := fun {σ' H' s'} I' hn b hb =>
    ⟨hn b hb, (I'.ok.exf b hb).1, I'.ok.exfs b hb, .inl hb, fun x c e => (I'.ok.exf b hb).2 x c e, fun p hp => absurd (show p ∈ ([] : List (Addr × Obj)) ++ [] from hp) (by simp)⟩
  -- back in the def's context
  have home : ∀ {pn' : List (Addr × Obj)} {σ' : L2.St} {H' : Hp} {s' : Shared}, Inv (X.blk s3 H3 scope ce fp) pn' σ' H' s' → Inv X pins σ H' s' ∧ FpOk X pins H' s3.heap.objs.size ∧ ∃ m, s'.heap.Ns s3.heap.objs.size m := fun {pn' σ' H' s'} I' => by
    have I7 : Inv X pins σ H' s' := I3.call' (ch := fp) I'.os I'.base I'.hok I'.bare fun b hb => ⟨(f3 b hb).1.2.2.2.1, (f3 b hb).1.2.1, (f3 b hb).1.2.2.2.2.1, (f3 b hb).1.2.2.2.2.2⟩
    have nC : H' s3.heap.objs.size = none := by
      have z : H' ce.locals = none := I'.free
      rw [cL] at z
      exact z
    obtain ⟨m, hn, _⟩ := I'.loc
    have hn : s'.heap.Ns ce.locals m := hn
    rw [cL] at hn
    exact ⟨I7, I3.fpOk (Nat.le_refl _) nC, m, hn⟩
  have loop : codeAny (model X.prog X.w) X.A (.compLoop (.ListComp elt [⟨tg, iter, ifs, 0⟩] scope pos) 0 (.ref it) (.ref D) ce) (postX (model X.prog X.w) X.A X.xe (fun v s' => EP X pins σ Q v s') (.ref D) ce) s4 := by
    refine compLoop_any (fun n s' => ∃ i H', Inv (X.blk s3 H3 scope ce fp) [] (wipe σ (own.map (·.2))) H' s' ∧ tn i s'.heap ∧ (∀ b ∈ fp, H' b = none) ∧ V i n H') ?_ m0 ⟨0, H3, I4, st4, nfp, w0⟩
    rintro n s5 ⟨i, H5, I5, st5, n5, w5⟩
    rcases turn i n H5 w5 with ⟨stop, qq⟩ | ⟨go, Nx, hNx, step⟩
    · have td := T.done (X.blk s3 H3 scope ce fp) rfl rfl rfl hc i [] s5 _ H5 (fun _ _ => False) I5 (stat I5 n5) st5 stop
      refine thnF td fun r s6 ⟨hr, I6⟩ => ?_
      subst hr
      obtain ⟨I7, f7, m, hn⟩ := home I6
      refine ⟨m, by rw [cL]; exact hn, fun h'' sb => ?_⟩
      rw [cL] at sb
      obtain ⟨f0, f1, f2, f3, f4, f5⟩ := f7
      exact ⟨.ref D, H5, I7.turned (t' := s6.toks) (fun b o hb e => (sb.2 b hb).trans e) f0 f1 f3 f4 f5, rfl, qq⟩
    · have ti := T.item (X.blk s3 H3 scope ce fp) rfl rfl rfl hc i [] s5 _ H5 (fun _ _ => False) I5 (stat I5 n5) st5 go
      refine thnF ti fun r s6 ⟨u, hr, h6⟩ => ?_
      subst hr
      refine thnF h6 fun _ s7 ⟨x, H7, I7, r7, y7, st7, n7⟩ => ?_
      have I7' := I7.pinned (stat I7 n7) (T.obj _ _ st7)
      refine thnF (pg.run _ s7 _ H7 x u _ I7' r7 (step x H7 y7)) fun _ s8 ⟨σ8, H8, I8, hw8, q8⟩ => ?_
      refine thnF (pt.run _ s8 σ8 H8 _ I8 q8) fun b s9 ⟨H9, I9, q9⟩ => ?_
      have fin : ∀ {s' : Shared} {H' : Hp}, Inv (X.blk s3 H3 scope ce fp) ([] ++ pinsAt fp s7.heap) σ8 H' s' → Nx H' → ∃ m, m < n ∧ ∃ i H', Inv (X.blk s3 H3 scope ce fp) [] (wipe σ (own.map (·.2))) H' s' ∧ tn i s'.heap ∧ (∀ b ∈ fp, H' b = none) ∧ V i m H' := fun {s' H'} I' nx => by
        obtain ⟨m', hm, w'⟩ := hNx H' nx
        have pin' : ∀ b ∈ fp, ∀ o, s7.heap.get? b = some o → s'.heap.get? b = some o ∧ H' b = none := fun b hb o e =>
          let z := I'.pin (b, o) (List.mem_append_right _ (List.mem_append_right _ (mem_pinsAt hb e)))
          ⟨z.1, z.2.1⟩
        have hl : (wipe σ (own.map (·.2))).length = σ8.length := by rw [← hw8, wipe_length]
        refine ⟨m', hm, i + 1, H', (I'.unpinned (pins := [])).weak hl (fun j v e => ?_), T.keep _ _ _ st7 fun b hb o e => (pin' b hb o e).1, fun b hb => ?_, w'⟩
        · rw [← hw8] at e
          exact (wipe_some e).1
        · obtain ⟨o, e, _⟩ := T.obj _ _ st7 b hb
          exact (pin' b hb o e).2
      cases b with
      | false =>
        simp only [Bool.false_eq_true, if_false] at q9 ⊢
        exact fin I9 q9
      | true =>
        simp only [if_true] at q9 ⊢
        -- what the element may let out
        have pe' := pe (fun u t => wpAny (model X.prog X.w) X.A (noteFrame u ce) (fun _ t2 => postX (model X.prog X.w) X.A X.xe (fun v s' => EP X pins σ Q v s') (.ref D) ce (.error u) t2) (fun _ _ => False) t) (fun c d H' => W c d σ H') (fun σx pinsx Hx sx u t Ix cx => by
          obtain ⟨J, fJ, m, hn⟩ := home (of_blkX Ix)
          refine block_out (R := fun r t2 => postX (model X.prog X.w) X.A X.xe (fun v s' => EP X pins σ Q v s') (.ref D) ce r t2) tk hs hf cF J fJ hn (fun _ _ _ h => h) cx fun t2 ⟨m2, hn2, k2⟩ => ?_
          refine ⟨m2, by rw [cL]; exact hn2, fun h' sb => ?_⟩
          rw [cL] at sb
          exact k2 h' sb)
        refine wpAny_mono (pe'.run _ s9 σ8 H9 _ (to_blkX I9) q9) (fun z s10 ⟨yv, H10, I10, r10, acc, hD10, hz10, nx⟩ => ?_) fun u t z => wpAny_mono z (fun _ _ q => q) fun _ _ q => q.elim
        exact app_ok (X := X.blk s3 H3 scope ce fp) (of_blkX I10) hD10 hz10 r10 fun s11 I11 => fin I11 nx
  exact codeAny_compStart_list loop (T.self X.A 0 _ _ _ st4 loop)
end
end XF
end
section
/-! The __init__ of an own exception that calls the base's and keeps one field -/
set_option maxHeartbeats 4000000
namespace XF
open PySem PySem.Spec PyProof.Rows L2 HotX L2H SO

abbrev sEInit (i : Nat) : Stmt := inClass (topS i) 0
theorem scInit6 : FnScope ["self", "value"] ["self", "value"] (defScope (sEInit 6)) := ⟨rfl, rfl, rfl, by decide +kernel, rfl, by decide +kernel, by decide +kernel⟩
theorem scInit9 : FnScope ["self", "value"] ["self", "value"] (defScope (sEInit 9)) := ⟨rfl, rfl, rfl, by decide +kernel, rfl, by decide +kernel, by decide +kernel⟩
theorem scInit10 : FnScope ["self", "index"] ["self", "index"] (defScope (sEInit 10)) := ⟨rfl, rfl, rfl, by decide +kernel, rfl, by decide +kernel, by decide +kernel⟩
theorem spEI_len {C : Addr} {fld : Str} {vs : List V} {H : Hp} {Q : VK} {E : XK} (h : spEI C fld vs H Q E) : vs.length = 2 := by
  obtain ⟨a, y, rfl, _⟩ := h
  rfl
section
variable {P : Program} {w : World} {K : PySem.W.Frag} {mg : Str → Option Value} {base : Heap} {B C f : Addr} {fd : FuncData} {x q : Str}
/-- what the texts need -/
structure EIn (K : PySem.W.Frag) (mg : Str → Option Value) (B C : Addr) (fld : Str) : Prop where
  ox : OexC K C
  nf : PySem.W.findIn K (.ref C) fld = some none
  se : mg "SearchError" = some (.ref B)
  bc : BaseC K B
theorem ok_ei6 (F : Fun K "__init__" q (sEInit 6) f fd) (T : EIn K mg B C "value") : FnOk P w K mg base C8.CX0 1 f fd ["self", "value"] (spEI C "value") := by
  refine F.ok scInit6 (fun vs H Q E h => spEI_len h) (fun cdv A outer s H vs Q E hr h => ?_)
  refine ⟨_, pss_cons (ps_expr (pe_binit (by rfl) T.se T.bc (pa_cons (pv 0) (pa_cons pe_str pa_nil)))) (pss_one (ps_ost (pv 0) (pv 1))), ?_⟩
  obtain ⟨a, y, rfl, ha, k⟩ := h
  refine ⟨_, rfl, a, C, _, rfl, (by show 1 ≤ 1000; decide), T.ox, ha, ?_⟩
  exact ⟨_, rfl, _, rfl, a, C, rfl, T.ox, T.nf, .inl ⟨ha, fun dx hn ne => k dx hn ne⟩⟩
theorem oka_ei6 (F : Fun K "__init__" q (sEInit 6) f fd) (T : EIn K mg B C "value") : FnA P w K mg base C8.CX0 1 f fd ["self", "value"] (spEI C "value") := by
  refine fn_ofA F scInit6 (fun vs H Q E h => spEI_len h) (fun cdv A outer s H vs Q E p hr h => ?_)
  refine ⟨_, pss_cons (ps_expr (pe_binit (by rfl) T.se T.bc (pa_cons (pv 0) (pa_cons pe_str pa_nil)))) (pss_one (ps_ost (pv 0) (pv 1))), ?_⟩
  obtain ⟨a, y, rfl, ha, k⟩ := h
  refine ⟨_, rfl, a, C, _, rfl, (by show 1 ≤ 1000; decide), T.ox, ha, ?_⟩
  exact ⟨_, rfl, _, rfl, a, C, rfl, T.ox, T.nf, .inl ⟨ha, fun dx hn ne => k dx hn ne⟩⟩
theorem ok_ei9 (F : Fun K "__init__" q (sEInit 9) f fd) (T : EIn K mg B C "value") : FnOk P w K mg base C8.CX0 1 f fd ["self", "value"] (spEI C "value") := by
  refine F.ok scInit9 (fun vs H Q E h => spEI_len h) (fun cdv A outer s H vs Q E hr h => ?_)
  refine ⟨_, pss_cons (ps_expr (pe_binit (by rfl) T.se T.bc (pa_cons (pv 0) (pa_cons pe_str pa_nil)))) (pss_one (ps_ost (pv 0) (pv 1))), ?_⟩
  obtain ⟨a, y, rfl, ha, k⟩ := h
  refine ⟨_, rfl, a, C, _, rfl, (by show 1 ≤ 1000; decide), T.ox, ha, ?_⟩
  exact ⟨_, rfl, _, rfl, a, C, rfl, T.ox, T.nf, .inl ⟨ha, fun dx hn ne => k dx hn ne⟩⟩
theorem oka_ei9 (F : Fun K "__init__" q (sEInit 9) f fd) (T : EIn K mg B C "value") : FnA P w K mg base C8.CX0 1 f fd ["self", "value"] (spEI C "value") := by
  refine fn_ofA F scInit9 (fun vs H Q E h => spEI_len h) (fun cdv A outer s H vs Q E p hr h => ?_)
  refine ⟨_, pss_cons (ps_expr (pe_binit (by rfl) T.se T.bc (pa_cons (pv 0) (pa_cons pe_str pa_nil)))) (pss_one (ps_ost (pv 0) (pv 1))), ?_⟩
  obtain ⟨a, y, rfl, ha, k⟩ := h
  refine ⟨_, rfl, a, C, _, rfl, (by show 1 ≤ 1000; decide), T.ox, ha, ?_⟩
  exact ⟨_, rfl, _, rfl, a, C, rfl, T.ox, T.nf, .inl ⟨ha, fun dx hn ne => k dx hn ne⟩⟩
theorem ok_ei10 (F : Fun K "__init__" q (sEInit 10) f fd) (T : EIn K mg B C "index") : FnOk P w K mg base C8.CX0 1 f fd ["self", "index"] (spEI C "index") := by
  refine F.ok scInit10 (fun vs H Q E h => spEI_len h) (fun cdv A outer s H vs Q E hr h => ?_)
  refine ⟨_, pss_cons (ps_expr (pe_binit (by rfl) T.se T.bc (pa_cons (pv 0) (pa_cons pe_str pa_nil)))) (pss_one (ps_ost (pv 0) (pv 1))), ?_⟩
  obtain ⟨a, y, rfl, ha, k⟩ := h
  refine ⟨_, rfl, a, C, _, rfl, (by show 1 ≤ 1000; decide), T.ox, ha, ?_⟩
  exact ⟨_, rfl, _, rfl, a, C, rfl, T.ox, T.nf, .inl ⟨ha, fun dx hn ne => k dx hn ne⟩⟩
theorem oka_ei10 (F : Fun K "__init__" q (sEInit 10) f fd) (T : EIn K mg B C "index") : FnA P w K mg base C8.CX0 1 f fd ["self", "index"] (spEI C "index") := by
  refine fn_ofA F scInit10 (fun vs H Q E h => spEI_len h) (fun cdv A outer s H vs Q E p hr h => ?_)
  refine ⟨_, pss_cons (ps_expr (pe_binit (by rfl) T.se T.bc (pa_cons (pv 0) (pa_cons pe_str pa_nil)))) (pss_one (ps_ost (pv 0) (pv 1))), ?_⟩
  obtain ⟨a, y, rfl, ha, k⟩ := h
  refine ⟨_, rfl, a, C, _, rfl, (by show 1 ≤ 1000; decide), T.ox, ha, ?_⟩
  exact ⟨_, rfl, _, rfl, a, C, rfl, T.ox, T.nf, .inl ⟨ha, fun dx hn ne => k dx hn ne⟩⟩
end
end XF
end
section
/-! Several clauses «except X as n»; what follows the clause that takes it is never looked at -/
set_option maxHeartbeats 4000000
namespace XF
open PySem PySem.Spec PyProof.Rows L2 HotX L2H

/-- the ends behind a clause whose name stands at slot i -/
def offD (D : Ends) (i : Nat) : Ends := { nx := fun σ' H' => D.nx (σ'.set i none) H', rt := D.rt, bk := fun σ' H' => D.bk (σ'.set i none) H', ct := fun σ' H' => D.ct (σ'.set i none) H' }
/-- what the clauses wish, one behind the other; none is left over -/
def wAses (K : PySem.W.Frag) (D : Ends) : List (Value × Nat × (Addr → Value → Option Addr → TS)) → WX
  | [] => fun _ _ _ _ => False
  | (c, i, ts) :: r => fun cls d σ H => ∃ b, PySem.W.exmOne K cls c = some b ∧ (b = true → ∀ a, H a = none → ts a cls d (offD D i) (σ.set i (some (.ref a))) H) ∧ (b = false → wAses K D r cls d σ H)
inductive HdsAs (X : Cx) : List ExceptHandler → List (Value × Nat × (Addr → Value → Option Addr → TS)) → Prop
  | stop (hds : List ExceptHandler) : HdsAs X hds []
  | cons {x n : Str} {c : Value} {i : Nat} {ts : Addr → Value → Option Addr → TS} {b₀ : Stmt} {suite : List Stmt} {np pos' : Pos} {hds : List ExceptHandler} {l : List (Value × Nat × (Addr → Value → Option Addr → TS))} (hc : Names X x c) (hi : X.N[i]? = some n) (hln : X.env.kindOf n = some .local)
      (hsu : ∀ (a : Addr) (oe : Obj) (cls : Value) (d : Option Addr) (pn : List (Addr × Obj)), Zc cls d oe → (∃ vs, oe.data = .fields vs) → PSs (X.suite a ((a, oe) :: pn)) (b₀ :: suite) (ts a cls d)) (r : HdsAs X hds l) :
      HdsAs X (.ExceptHandler (some (.Name x np)) (some n) (b₀ :: suite) pos' :: hds) ((c, i, ts) :: l)
section
variable {X : Cx} {body : List Stmt} {h₀ : ExceptHandler} {hds : List ExceptHandler} {l : List (Value × Nat × (Addr → Value → Option Addr → TS))} {pos : Pos} {tb : WX → TS}
theorem ps_try_ases (hs : X.stack = X.env :: X.outer) (hf : X.env.frame = some X.env.locals) (hN : X.N.Nodup)
    (hb : ∀ (W : WX) (pn : List (Addr × Obj)) (xe : Value → Shared → Prop), L2.Takes (X.tr pn xe) W → PassesOwn (model X.prog X.w) X.A X.env xe → PSs (X.tr pn xe) body (tb W))
    (hh : HdsAs X (h₀ :: hds) l) : PS X (.Try body (h₀ :: hds) [] [] pos) (fun D σ H => tb (wAses X.K D l) D σ H) := by
  refine ⟨fun pins s σ H D I h => ?_⟩
  have ok := I.ok
  have hfr : X.A.frames = some (X.env :: X.outer) := by rw [ok.frames, hs]
  refine wpAny_Try_except ?_
  refine wpAny_mono ((hb (wAses X.K D l) (X.pn ++ pins) (fun e s₁ => wpAny (model X.prog X.w) X.A (noteFrame e X.env) (fun _ s₂ => wpAny (model X.prog X.w) X.A (setFlight e none) (fun _ s₃ =>
    wpAny (model X.prog X.w) X.A (handleBy e X.env (h₀ :: hds)) (SP X pins D) X.xe s₃) X.xe s₂) X.xe s₁) (fun u s' xx => ?_) PassesOwn.looking).run [] s σ H D (I.toTry _) h) (fun f s1 hsp => ?_) (fun e s1 he => he)
  · obtain ⟨a, B, sI, pins', σ', H', cls, d, rfl, J', nb, up, sky, na, os, ag, w⟩ := xx
    have J : Inv X pins σ' H' sI := J'.ofTry ok
    have sky' : Sky B (X.env :: X.outer) a (Zc cls d) X.env.locals s'.heap := by rw [← hs]; exact sky
    show wpAny (model X.prog X.w) X.A (noteFrame (.ref a) X.env) _ _ _
    refine Sky.land Zc.steady hfr hf sky' fun h3 fl3 up3 => ?_
    have J3 : Inv X pins σ' H' { s' with heap := h3 } := J.landed nb fl3.1 (up.trans up3) os ag
    obtain ⟨oe3, vs3, he3, hz3, hd3⟩ := fl3.there
    have nfr : a ∉ frs (X.env :: X.outer) := fun hm => by
      obtain ⟨_, o', e', hnf⟩ := fl3.2.2.1.mem hm
      rw [he3] at e'; cases e'
      exact hnf _ hd3
    have nL : a ≠ X.env.locals := fun z => nfr (List.mem_filterMap.mpr ⟨X.env, List.mem_cons_self, by rw [hf, z]⟩)
    have nF : a ∉ X.fs := fun hm => by
      obtain ⟨e, he, q⟩ := List.mem_filterMap.mp hm
      exact nfr (List.mem_filterMap.mpr ⟨e, List.mem_cons_of_mem _ he, q⟩)
    have S3 := J3.suite he3 hd3 na nL nF
    have go : ∀ {hds' : List ExceptHandler} {l' : List (Value × Nat × (Addr → Value → Option Addr → TS))}, HdsAs X hds' l' → wAses X.K D l' cls d σ' H' →
        wpAny (model X.prog X.w) X.A (handleBy (.ref a) X.env hds') (SP X pins D) X.xe { s' with heap := h3 } := by
      intro hds' l' hk
      induction hk with
      | stop hds => exact fun w => w.elim
      | @cons x n c i ts b₀ suite np pos' hds2 l2 hc hi hln hsu r ih =>
        intro w
        obtain ⟨b, hb1, hyes, hno⟩ := w
        refine wpAny_handleBy_cons (codeAny_handlers_test ?_) (by intro q; cases q)
        have LT : PySem.W.Looks (model X.prog X.w) h3 (typeOf (.ref a)) cls := fun A Q E s k q => wpAny_typeOf_ref (k _ _ he3) (by rw [hz3.1]; exact q)
        have LM := PySem.W.exm_one (M := model X.prog X.w) (J3.kIn) LT hb1
        have test : ∀ {Q : Value → Shared → Prop} {E : Value → Shared → Prop}, Q c { s' with heap := h3 } → wpAny (model X.prog X.w) (X.A.mark (some (.ref a))) (eval (.Name x np) X.env) Q E { s' with heap := h3 } := fun {Q E} q => by
          obtain ⟨hg, hdbg, hm | ⟨hm, hv, hnn⟩⟩ := hc
          · exact ld_glob (X := X.suite a ((a, oe3) :: (X.pn ++ pins))) S3 hg hm q hdbg
          · exact ld_blt (X := X.suite a ((a, oe3) :: (X.pn ++ pins))) S3 hg hm hv q hnn hdbg
        refine test (LM.here ?_)
        cases b with
        | true =>
          refine codeAny_handlers_suite_as ?_
          refine HandSPX.lands_againZ fl3 fun h4 fl4 up4 => ?_
          have J4 : Inv X pins σ' H' { s' with heap := h4 } := J.landed nb fl4.1 ((up.trans up3).trans up4) os ag
          obtain ⟨oe4, vs4, he4, hz4, hd4⟩ := fl4.there
          have S4 := J4.suite he4 hd4 na nL nF
          refine store_ok (X := X.suite a ((a, oe4) :: (X.pn ++ pins))) (v := .ref a) S4 hN hi (.inl hln) rfl (fun s5 S5 => ?_) (.inr hln)
          refine wpAny_mono ((hsu a oe4 cls d (X.pn ++ pins) hz4 ⟨_, hd4⟩).run [] s5 _ H' _ S5 (hyes rfl a na)) (fun f s6 hsp => ?_) (fun _ _ z => False.elim z)
          have end_ : ∀ {σ6 : L2.St} {H6 : Hp} {Q : Shared → Prop}, Inv (X.suite a ((a, oe4) :: (X.pn ++ pins))) [] σ6 H6 s6 → (∀ s7, Inv X pins (σ6.set i none) H6 s7 → Q s7) →
              wpAny (model X.prog X.w) X.A (do bindName X.env n .none; unbindBehindTheSuite X.env n pos') (fun _ s7 => Q s7) X.xe s6 := fun {σ6 H6 Q} S6 hq => gone_ok (S6.unsuite ok) hN hi hln hq
          cases f with
          | next => exact let ⟨σ6, H6, S6, q6⟩ := hsp; end_ S6 fun s7 J7 => ⟨_, _, J7, q6⟩
          | brk => exact let ⟨σ6, H6, S6, q6⟩ := hsp; end_ S6 fun s7 J7 => ⟨_, _, J7, q6⟩
          | cont => exact let ⟨σ6, H6, S6, q6⟩ := hsp; end_ S6 fun s7 J7 => ⟨_, _, J7, q6⟩
          | ret u => exact let ⟨v6, σ6, H6, S6, r6, q6⟩ := hsp; end_ S6 fun s7 J7 => ⟨_, _, _, J7, r6, q6⟩
        | false => exact ih (hno rfl)
    exact go hh w
  · cases f with
    | next => exact let ⟨σ', H', J', q⟩ := hsp; wpAny_execs_nil ⟨σ', H', J'.ofTry ok, q⟩
    | brk => exact let ⟨σ', H', J', q⟩ := hsp; ⟨σ', H', J'.ofTry ok, q⟩
    | cont => exact let ⟨σ', H', J', q⟩ := hsp; ⟨σ', H', J'.ofTry ok, q⟩
    | ret u => exact let ⟨v, σ', H', J', r, q⟩ := hsp; ⟨v, σ', H', J'.ofTry ok, r, q⟩
end
end XF
end
section
/-! Sets of texts: comprehensions, set(list), len -/
set_option maxHeartbeats 4000000
namespace XF
open PySem PySem.Spec PyProof.Rows L2 PpSet

/-- {elt for target in iter if ..}, elt a text or an int: D the new set -/
def tScK (P : Program) (w : World) (wi : TI) (g : TG) (tt : TT) (te : TE) (vs : List Nat) : TE := fun σ H Q => wi σ H fun J H1 => ∀ D, H1 D = none → ∃ W : Nat → Nat → Hp → Prop, (∃ m, W 0 m (upd H1 D (SetK P w D (fun _ => false) 0))) ∧ ∀ i m H, W i m H →
  (J.stop i H ∧ Q (.ref D) H) ∨ (J.go i H ∧ ∃ Nx : Hp → Prop, (∀ H', Nx H' → ∃ m', m' < m ∧ W (i + 1) m' H') ∧ ∀ x H', J.yld i H x H' → g x (wipe σ vs) H' fun σ2 H2 => wipe σ2 vs = wipe σ vs ∧ tt σ2 H2 fun b H3 =>
    if b = true then te σ2 H3 fun y H4 => ∃ (c : Key) (S : Key → Bool) (n : Nat), y = kV c ∧ H4 D = some (SetK P w D S n) ∧ n + 1 < scanBound ∧ Nx (upd H4 D (SetK P w D (fun j => S j || decide (j = c)) (if S c = true then n else n + 1))) else Nx H3)
section
variable {X : Cx}
theorem pe_scK {elt tg iter : Expr} {ifs : List Expr} {scope : Scope} {own : List (PySem.Str × Nat)} {pos : Pos} {wi : TI} {g : TG} {tt : TT} {te : TE} (hc : X.calm = true) (hN : X.N.Nodup) (hi : PI X tg iter wi) (ok : BlkOk X.N X.env.scope scope own)
    (hg : ∀ (s : Shared) (H : Hp) (C : Addr) (cl : List (PySem.Str × Addr)) (fp : List Addr), PG (X.blk s H scope (compEnvC scope cl C X.env) fp) tg g) (ht : ∀ (s : Shared) (H : Hp) (C : Addr) (cl : List (PySem.Str × Addr)) (fp : List Addr), PTs (X.blk s H scope (compEnvC scope cl C X.env) fp) ifs tt)
    (he : ∀ (s : Shared) (H : Hp) (C : Addr) (cl : List (PySem.Str × Addr)) (fp : List Addr), PE (X.blk s H scope (compEnvC scope cl C X.env) fp) elt te) (hfs : ∀ x, foldedSetIterable iter X.env x = pure x := by intro _; rfl) :
    PE X (.SetComp elt [⟨tg, iter, ifs, 0⟩] scope pos) (tScK X.prog X.w wi g tt te (own.map (·.2))) := by
  refine ⟨fun pins s σ H Q I h => ?_⟩
  rw [eval_SetComp]
  have hfree : ∀ y ∈ scope.names, y.2 = .free → ∃ c, X.env.cells.lookup y.1 = some c := fun y hy e => by
    rcases ok.free y hy e with k | k
    · exact I.ok.has _ (.inl k)
    · exact I.ok.has _ (.inr k)
  refine wpAny_comprehension_free (use := none) rfl hfs (closure_ok hfree) ok.kind (fun y hy e => by rw [ok.uniq y hy, e])
    (thn (hi.run pins s σ H _ I h) fun xv s1 hx => thn hx fun itv s2 h2 => ?_)
  obtain ⟨it, fp, tn, J, H2, e, I2, T, st2, f2, q⟩ := h2
  subst e
  refine PpSet.newSet_ok (newEnv_comp ?_)
  generalize hD : s2.heap.objs.size = D
  have hDn : H2 D = none := I2.hok.fresh (Nat.le_of_eq hD)
  obtain ⟨V, ⟨m0, w0⟩, turn⟩ := q D hDn
  generalize hs3 : ({ s2 with heap := s2.heap.push { cls := .type "set", dict := none, data := .set #[] 0 (.fresh 0 0 (!X.w.params.followText "set-order")) } } : Shared) = s3
  have I3 : Inv X pins σ (upd H2 D (SetK X.prog X.w D (fun _ => false) 0)) s3 := by
    rw [← hs3]
    refine I2.laid (t' := s2.toks) (fun b o e => Heap.get?_push_of_some _ e) (Nat.le_of_eq hD) ?_
    rw [← hD]
    exact setK_new ⟨_, #[], 0, _, Heap.get?_push_size _ rfl, ⟨rfl, rfl, rfl⟩, rfl, (fun e he => by simp at he), (fun k => by simp), (by decide), (by rfl), rfl⟩
  have h3 : s3.heap = s2.heap.push { cls := .type "set", dict := none, data := .set #[] 0 (.fresh 0 0 (!X.w.params.followText "set-order")) } := by rw [← hs3]
  have sz : ∀ b ∈ fp, b < s2.heap.objs.size := fun b hb => by
    obtain ⟨o, e, _⟩ := T.obj _ _ st2 b hb
    exact Heap.lt_size e
  have f3 : ∀ b ∈ fp, FpOk X pins (upd H2 D (SetK X.prog X.w D (fun _ => false) 0)) b ∧ b < s3.heap.objs.size := fun b hb => by
    have hlt := sz b hb
    refine ⟨⟨?_, (f2 b hb).2⟩, by rw [h3, Heap.size_push]; exact Nat.lt_succ_of_lt hlt⟩
    rw [upd_ne (by rw [← hD]; exact Nat.ne_of_lt hlt)]
    exact (f2 b hb).1
  have st3 : tn 0 s3.heap := T.keep _ _ _ st2 fun b _ o e => by rw [h3]; exact Heap.get?_push_of_some _ e
  have I4 := block_start I3 ok hN f3
  have pg := hg s3 (upd H2 D (SetK X.prog X.w D (fun _ => false) 0)) s3.heap.objs.size (cellsFrom (s3.heap.objs.size + 1) scope.names (cloFrom X.env.cells scope.names [])) fp
  have pt := ht s3 (upd H2 D (SetK X.prog X.w D (fun _ => false) 0)) s3.heap.objs.size (cellsFrom (s3.heap.objs.size + 1) scope.names (cloFrom X.env.cells scope.names [])) fp
  have pe := he s3 (upd H2 D (SetK X.prog X.w D (fun _ => false) 0)) s3.heap.objs.size (cellsFrom (s3.heap.objs.size + 1) scope.names (cloFrom X.env.cells scope.names [])) fp
  show codeAny _ _ (.compStart (.SetComp elt [⟨tg, iter, ifs, 0⟩] scope pos) 0 (.ref it) (.ref D) (compEnvC scope (cellsFrom (s3.heap.objs.size + 1) scope.names (cloFrom X.env.cells scope.names [])) s3.heap.objs.size X.env)) (compPost (model X.prog X.w) X.A X.xe none (fun v s' => EP X pins σ Q v s') (.ref D) s3.heap.objs.size) { s3 with heap := pushCells (s3.heap.push { cls := .type "dict", data := .dict #[] }) scope.names }
  have nfp : ∀ b ∈ fp, (upd H2 D (SetK X.prog X.w D (fun _ => false) 0)) b = none := fun b hb => (f3 b hb).1.1
  generalize hce : compEnvC scope (cellsFrom (s3.heap.objs.size + 1) scope.names (cloFrom X.env.cells scope.names [])) s3.heap.objs.size X.env = ce at I4 pg pt pe ⊢
  have cL : ce.locals = s3.heap.objs.size := by subst hce; rfl
  have cF : ce.frame = X.env.frame := by subst hce; rfl
  generalize hH3 : upd H2 D (SetK X.prog X.w D (fun _ => false) 0) = H3 at I3 I4 pg pt pe w0 nfp f3
  generalize hs4 : ({ s3 with heap := pushCells (s3.heap.push { cls := .type "dict", data := .dict #[] }) scope.names } : Shared) = s4 at I4 ⊢
  have st4 : tn 0 s4.heap := T.keep _ _ _ st3 fun b _ o e => by rw [← hs4]; exact pushCells_keeps _ _ _ _ (Heap.get?_push_of_some _ e)
  have stat : ∀ {σ' : L2.St} {H' : Hp} {s' : Shared}, Inv (X.blk s3 H3 scope ce fp) [] σ' H' s' → (∀ b ∈ fp, H' b = none) → ∀ b ∈ fp, FpOk (X.blk s3 H3 scope ce fp) [] H' b := fun {σ' H' s'} I' hn b hb =>
    ⟨hn b hb, (I'.ok.exf b hb).1, I'.ok.exfs b hb, .inl hb, fun x c e => (I'.ok.exf b hb).2 x c e, fun p hp => absurd (show p ∈ ([] : List (Addr × Obj)) ++ [] from hp) (by simp)⟩
  -- back in the def's context
  have home : ∀ {pn' : List (Addr × Obj)} {σ' : L2.St} {H' : Hp} {s' : Shared}, Inv (X.blk s3 H3 scope ce fp) pn' σ' H' s' → Inv X pins σ H' s' ∧ FpOk X pins H' s3.heap.objs.size ∧ ∃ m, s'.heap.Ns s3.heap.objs.size m := fun {pn' σ' H' s'} I' => by
    have I7 : Inv X pins σ H' s' := I3.call' (ch := fp) I'.os I'.base I'.hok I'.bare fun b hb => ⟨(f3 b hb).1.2.2.2.1, (f3 b hb).1.2.1, (f3 b hb).1.2.2.2.2.1, (f3 b hb).1.2.2.2.2.2⟩
    have nC : H' s3.heap.objs.size = none := by
      have z : H' ce.locals = none := I'.free
      rw [cL] at z
      exact z
    obtain ⟨m, hn, _⟩ := I'.loc
    have hn : s'.heap.Ns ce.locals m := hn
    rw [cL] at hn
    exact ⟨I7, I3.fpOk (Nat.le_refl _) nC, m, hn⟩
  have loop : codeAny (model X.prog X.w) X.A (.compLoop (.SetComp elt [⟨tg, iter, ifs, 0⟩] scope pos) 0 (.ref it) (.ref D) ce) (compPost (model X.prog X.w) X.A X.xe none (fun v s' => EP X pins σ Q v s') (.ref D) s3.heap.objs.size) s4 := by
    refine PpSet.compLoopS_any (fun n s' => ∃ i H', Inv (X.blk s3 H3 scope ce fp) [] (wipe σ (own.map (·.2))) H' s' ∧ tn i s'.heap ∧ (∀ b ∈ fp, H' b = none) ∧ V i n H') ?_ m0 ⟨0, H3, I4, st4, nfp, w0⟩
    rintro n s5 ⟨i, H5, I5, st5, n5, w5⟩
    rcases turn i n H5 w5 with ⟨stop, qq⟩ | ⟨go, Nx, hNx, step⟩
    · have td := T.done (X.blk s3 H3 scope ce fp) rfl rfl rfl hc i [] s5 _ H5 (fun _ _ => False) I5 (stat I5 n5) st5 stop
      refine thnF td fun r s6 ⟨hr, I6⟩ => ?_
      subst hr
      obtain ⟨I7, f7, m, hn⟩ := home I6
      refine ⟨m, hn, fun h'' sb => ?_⟩
      obtain ⟨f0, f1, f2, f3, f4, f5⟩ := f7
      exact ⟨.ref D, H5, I7.turned (t' := s6.toks) (fun b o hb e => (sb.2 b hb).trans e) f0 f1 f3 f4 f5, rfl, qq⟩
    · have ti := T.item (X.blk s3 H3 scope ce fp) rfl rfl rfl hc i [] s5 _ H5 (fun _ _ => False) I5 (stat I5 n5) st5 go
      refine thnF ti fun r s6 ⟨u, hr, h6⟩ => ?_
      subst hr
      refine thnF h6 fun _ s7 ⟨x, H7, I7, r7, y7, st7, n7⟩ => ?_
      have I7' := I7.pinned (stat I7 n7) (T.obj _ _ st7)
      refine thnF (pg.run _ s7 _ H7 x u _ I7' r7 (step x H7 y7)) fun _ s8 ⟨σ8, H8, I8, hw8, q8⟩ => ?_
      refine thnF (pt.run _ s8 σ8 H8 _ I8 q8) fun b s9 ⟨H9, I9, q9⟩ => ?_
      have fin : ∀ {s' : Shared} {H' : Hp}, Inv (X.blk s3 H3 scope ce fp) ([] ++ pinsAt fp s7.heap) σ8 H' s' → Nx H' → ∃ m, m < n ∧ ∃ i H', Inv (X.blk s3 H3 scope ce fp) [] (wipe σ (own.map (·.2))) H' s' ∧ tn i s'.heap ∧ (∀ b ∈ fp, H' b = none) ∧ V i m H' := fun {s' H'} I' nx => by
        obtain ⟨m', hm, w'⟩ := hNx H' nx
        have pin' : ∀ b ∈ fp, ∀ o, s7.heap.get? b = some o → s'.heap.get? b = some o ∧ H' b = none := fun b hb o e =>
          let z := I'.pin (b, o) (List.mem_append_right _ (List.mem_append_right _ (mem_pinsAt hb e)))
          ⟨z.1, z.2.1⟩
        have hl : (wipe σ (own.map (·.2))).length = σ8.length := by rw [← hw8, wipe_length]
        refine ⟨m', hm, i + 1, H', (I'.unpinned (pins := [])).weak hl (fun j v e => ?_), T.keep _ _ _ st7 fun b hb o e => (pin' b hb o e).1, fun b hb => ?_, w'⟩
        · rw [← hw8] at e
          exact (wipe_some e).1
        · obtain ⟨o, e, _⟩ := T.obj _ _ st7 b hb
          exact (pin' b hb o e).2
      cases b with
      | false =>
        simp only [Bool.false_eq_true, if_false] at q9 ⊢
        exact fin I9 q9
      | true =>
        simp only [if_true] at q9 ⊢
        refine thnF (pe.run _ s9 σ8 H9 _ I9 q9) fun z s10 ⟨yv, H10, I10, r10, kk, S0, n0, ey, hD10, hz10, nx⟩ => ?_
        subst ey
        refine call_set_add (kV_is r10) (key_scan r10) (setK_get (X := X.blk s3 H3 scope ce fp) I10 hD10) hz10 fun h' sb new => ?_
        have hex : ∃ u, h'.get? D = some u := by
          have ⟨o, _, _, _, ho, _⟩ := new
          exact ⟨o, ho⟩
        exact fin (I10.write (e := D) (t' := s10.toks + 1) (by rw [hD10]; trivial) (.inl rfl) (fun b u hb hu => (sb.2 b hb).trans hu) hex (setK_new new)) nx
  exact PpSet.codeAny_compStart_set loop (T.self X.A 0 _ _ _ st4 loop)
end
end XF
end
section
/-! Sets of texts: set(list), len -/
set_option maxHeartbeats 4000000
namespace XF
open PySem PySem.Spec PyProof.Rows L2

theorem snoc_ind {α : Type} {P : List α → Prop} (h0 : P []) (h1 : ∀ xs x, P xs → P (xs ++ [x])) : ∀ xs, P xs := fun xs => by
  have h : ∀ ys : List α, P ys.reverse := fun ys => by
    induction ys with
    | nil => exact h0
    | cons y ys ih => rw [List.reverse_cons]; exact h1 _ _ ih
  have := h xs.reverse
  rwa [List.reverse_reverse] at this
theorem setK_congr {P : Program} {w : World} {h : Heap} {a : Addr} {S S' : Key → Bool} {n n' : Nat} (hS : h.SetOf (mixKind P w) a S n) (e : ∀ k, S k = S' k) (en : n = n') : h.SetOf (mixKind P w) a S' n' := by
  have : S = S' := funext e
  subst this
  subst en
  exact hS
/-- the texts, each once -/
def dd (xs : List Str) : List Str := xs.foldl (fun acc x => if x ∈ acc then acc else acc ++ [x]) []
/-- how many they are -/
def nd (xs : List Str) : Nat := (dd xs).length
def memK (xs : List Str) : Key → Bool := fun k => decide (∃ x ∈ xs, k = .inr x)
theorem dd_app (xs : List Str) (x : Str) : dd (xs ++ [x]) = if x ∈ dd xs then dd xs else dd xs ++ [x] := by
  unfold dd
  rw [List.foldl_append]
  rfl
theorem mem_dd (xs : List Str) : ∀ k, k ∈ dd xs ↔ k ∈ xs := by
  refine snoc_ind (P := fun xs => ∀ k, k ∈ dd xs ↔ k ∈ xs) (fun k => Iff.rfl) (fun xs x ih k => ?_) xs
  · rw [dd_app]
    by_cases h : x ∈ dd xs
    · rw [if_pos h, ih]
      have hx := (ih x).mp h
      simp only [List.mem_append, List.mem_singleton]
      exact ⟨.inl, fun q => q.elim id fun e => e ▸ hx⟩
    · rw [if_neg h]
      simp only [List.mem_append, List.mem_singleton, ih]
theorem nd_le (xs : List Str) : nd xs ≤ xs.length := by
  refine snoc_ind (P := fun xs => nd xs ≤ xs.length) (Nat.le_refl _) (fun xs x ih => ?_) xs
  · unfold nd at ih ⊢
    rw [dd_app, List.length_append]
    split
    · exact Nat.le_succ_of_le ih
    · rw [List.length_append]
      exact Nat.add_le_add_right ih 1
theorem nd_eq (xs : List Str) : nd xs = xs.length ↔ xs.Nodup := by
  refine snoc_ind (P := fun xs => nd xs = xs.length ↔ xs.Nodup) ⟨fun _ => List.nodup_nil, fun _ => rfl⟩ (fun xs x ih => ?_) xs
  · have le := nd_le xs
    have e : nd (xs ++ [x]) = if x ∈ dd xs then nd xs else nd xs + 1 := by
      unfold nd
      rw [dd_app]
      split
      · rfl
      · rw [List.length_append]; rfl
    have nn : (xs ++ [x]).Nodup ↔ xs.Nodup ∧ x ∉ xs := by
      rw [List.nodup_append]
      simp
      intro _
      constructor
      · intro h hm; exact h x hm rfl
      · intro h a ha e; exact h (e ▸ ha)
    rw [e, List.length_append, nn, ← ih, ← mem_dd xs x]
    split
    · rename_i h
      constructor
      · intro q; simp at q; omega
      · intro q; exact absurd h q.2
    · rename_i h
      constructor
      · intro q; simp at q; exact ⟨q, h⟩
      · intro q; rw [q.1]; rfl
theorem nd_lt (xs : List Str) : nd xs < xs.length ↔ ¬ xs.Nodup := by
  rw [← nd_eq]
  have := nd_le xs
  omega
theorem take_s {xs : List Str} {i : Nat} {x : Str} (h : xs[i]? = some x) : xs.take (i + 1) = xs.take i ++ [x] := by
  rw [List.take_add_one, h]; rfl
theorem memK_app (xs : List Str) (x : Str) (k : Key) : memK (xs ++ [x]) k = (memK xs k || decide (k = .inr x)) := by
  unfold memK
  rw [← Bool.decide_or]
  congr 1
  simp only [List.mem_append, List.mem_singleton, eq_iff_iff]
  constructor
  · rintro ⟨y, hy | rfl, e⟩
    · exact .inl ⟨y, hy, e⟩
    · exact .inr e
  · rintro (⟨y, hy, e⟩ | e)
    · exact ⟨y, .inl hy, e⟩
    · exact ⟨x, .inr rfl, e⟩
theorem memK_succ {xs : List Str} {i : Nat} {x : Str} (h : xs[i]? = some x) (k : Key) : memK (xs.take (i + 1)) k = (memK (xs.take i) k || decide (k = .inr x)) := by
  rw [take_s h, memK_app]
theorem nd_app (xs : List Str) (x : Str) : nd (xs ++ [x]) = if memK xs (.inr x) = true then nd xs else nd xs + 1 := by
  have e : memK xs (.inr x) = decide (x ∈ dd xs) := by
    unfold memK
    congr 1
    rw [eq_iff_iff, mem_dd]
    constructor
    · rintro ⟨y, hy, e⟩
      cases e
      exact hy
    · intro h; exact ⟨x, h, rfl⟩
  unfold nd
  rw [dd_app, e]
  by_cases h : x ∈ dd xs
  · simp [h]
  · simp [h]
theorem nd_succ {xs : List Str} {i : Nat} {x : Str} (h : xs[i]? = some x) : nd (xs.take (i + 1)) = if memK (xs.take i) (.inr x) = true then nd (xs.take i) else nd (xs.take i) + 1 := by
  rw [take_s h, nd_app]

section
variable {prog : Program} {w : World} {A : Around} {R : Result → Shared → Prop} {I : Addr} {fp wr : List Addr} {G : Array GenState → Array GenState → Prop} {n : Nat} {P : Nat → Value → Prop} {St : Nat → Shared → Prop}
theorem loopK (W : WalksS prog w A.in1 I fp wr G n P St) (S : Addr) (hSf : S ∉ fp) (xs : List Str) (hsz : xs.length = n) (hn1 : n + 1 < scanBound)
    (hval : ∀ i v, P i v → ∃ t, v = .str (xs.getD i Str.empty) t) :
    ∀ (k i : Nat) (s : Shared), n - i = k → i ≤ n → St i s →
      s.heap.SetOf (mixKind prog w) S (memK (xs.take i)) (nd (xs.take i)) →
      (∀ s', Moved (S :: wr) G s s' → s'.heap.SetOf (mixKind prog w) S (memK (xs.take n)) (nd (xs.take n)) → R (.ok (.ret .none)) s') →
      codeAny (model prog w) A (.builtin "set.update.loop" ⟨[.ref S, .ref I], []⟩) R s := by
  have hSw : S ∉ wr := fun h => hSf (W.sub _ h)
  have hsub : ∀ b ∈ wr, b ∈ S :: wr := fun b hb => List.mem_cons_of_mem _ hb
  intro k
  induction k with
  | zero =>
    intro i s hk hi hst hS hR
    have hin : i = n := by omega
    subst hin
    refine codeAny_builtin PyProof.Rows.F.entry_set_update_loop ?_
    rw [Around.under_plainId PyProof.Rows.F.plain_set_update_loop _]
    show wpAny _ A.in1 (pyNext (.ref I) >>= _) _ _ s
    refine wpAny_bind (W.done s _ _ hst fun s' hm => ?_)
    show wpAny _ A.in1 (ret Value.none) _ _ s'
    exact wpAny_pure (hR s' (hm.mono hsub) (by
      obtain ⟨o, es, ep, t, ho, rest⟩ := hS
      exact ⟨o, es, ep, t, hm.heap S _ hSw ho, rest⟩))
  | succ k ih =>
    intro i s hk hi hst hS hR
    have hlt : i < n := by omega
    have hx : xs[i]? = some (xs.getD i Str.empty) := by rw [List.getD_eq_getElem?_getD, List.getElem?_eq_getElem (by omega)]; rfl
    refine codeAny_builtin PyProof.Rows.F.entry_set_update_loop ?_
    rw [Around.under_plainId PyProof.Rows.F.plain_set_update_loop _]
    show wpAny _ A.in1 (pyNext (.ref I) >>= _) _ _ s
    refine wpAny_bind (W.item i s _ _ hlt hst fun v s' hP hst' hm => ?_)
    obtain ⟨t, rfl⟩ := hval i v hP
    have hS' : s'.heap.SetOf (mixKind prog w) S (memK (xs.take i)) (nd (xs.take i)) := by
      obtain ⟨o, es, ep, tb, ho, rest⟩ := hS
      exact ⟨o, es, ep, tb, hm.heap S _ hSw ho, rest⟩
    show wpAny _ A.in1 (holding [Value.str (xs.getD i Str.empty) t] (setAdd S (.str (xs.getD i Str.empty) t)) >>= _) _ _ s'
    refine wpAny_bind (wpAny_holding ?_)
    unfold setAdd
    refine wpAny_holding ?_
    refine wpAny_bind ((mixKind prog w).pyHash (k := .inr (xs.getD i Str.empty)) (kV_is (k := .inr (xs.getD i Str.empty)) ⟨t, rfl⟩) ?_)
    refine wpAny_setAddHashed_of (knd := mixKind prog w) (s := { s' with toks := s'.toks + 1 }) (k := .inr (xs.getD i Str.empty)) (kV_is (k := .inr (xs.getD i Str.empty)) ⟨t, rfl⟩) rfl hS' (by have := nd_le (xs.take i); rw [List.length_take] at this; omega) fun h' hsb hS2 => ?_
    have hSi : h'.SetOf (mixKind prog w) S (memK (xs.take (i + 1))) (nd (xs.take (i + 1))) := setK_congr hS2 (fun k' => (memK_succ hx k').symm) (nd_succ hx).symm
    refine wpAny_pure ⟨plainId_quiet PyProof.Rows.F.plain_set_update_loop _, ih (i + 1) _ (by omega) hlt (W.frame _ s' _ _ hst' (Nat.le_succ _) fun b hb o e => ?_) hSi fun s'' hm'' hS'' => ?_⟩
    · rw [hsb.2 b (fun h : b = S => hSf (by rw [← h]; exact hb))]; exact e
    · refine hR s'' (Moved.trans W.gtrans ((hm.mono hsub).then_heap (Nat.le_succ _) fun b o hb e => ?_) hm'') hS''
      rw [hsb.2 b (fun h : b = S => hb (by rw [h]; exact List.mem_cons_self))]; exact e
end
section
variable {prog : Program} {w : World} {A : Around} {E : Value → Shared → Prop} {s : Shared}
set_option maxHeartbeats 3200000 in
theorem set_list_texts {l : Addr} {items : Array Value} {xs : List Str} {Q : Value → Shared → Prop}
    (hh : A.handled = none) (hl : s.heap.IsList l items) (hi : PyProof.Rows.StrsAre items.toList xs) (hn1 : xs.length + 1 < scanBound)
    (h : ∀ (h' : Heap) (tk : Nat), h'.SetOf (mixKind prog w) s.heap.objs.size (memK xs) (nd xs) →
      (∀ b o, b < s.heap.objs.size → s.heap.get? b = some o → h'.get? b = some o) → Q (.ref s.heap.objs.size) { s with heap := h', toks := tk }) :
    wpAny (model prog w) A (call (.type "set") [.ref l]) Q E s := by
  obtain ⟨c, tl, hmro⟩ := PySem.F.called_set.mro
  have hmade := PySem.F.called_set.made
  have hsub := PySem.F.called_set.sub
  refine wpAny_call (codeAny_of_tree ?_)
  show wpAny _ _ (callAny (.type "set") _) _ _ _
  refine wpAny_pure ⟨Code.quiet_builtin _ (by decide +kernel), codeAny_builtin PySem.F.entry_type_call ?_⟩
  rw [Around.under_plain (weight_type_call_type "set" [.ref l] []) rfl]
  have h1 := PySem.F.called_set.notType
  have h2 := PySem.F.called_set.canCreate
  have hct := PySem.F.typeCall_set_1 (.ref l)
  repeat (any_goals (first | assumption | wp_step))

  refine codeAny_mono (code_set_new_1 (.ref l) (E := E) (Q₁ := fun obj s₁ => ∃ led : Bool, obj = .ref s.heap.objs.size ∧ s₁ = { s with heap := s.heap.push { cls := .type "set", dict := none, data := .set #[] 0 (.fresh 0 0 led) } }) fun led => ⟨led, rfl, rfl⟩) fun r s₁ hr => ?_
  cases r with
  | error e => exact hr
  | ok fl =>
    cases fl with
    | ret obj =>
      obtain ⟨led, rfl, rfl⟩ := hr
      have hS : (s.heap.push { cls := .type "set", dict := none, data := .set #[] 0 (.fresh 0 0 led) }).get? s.heap.objs.size = some { cls := .type "set", dict := none, data := .set #[] 0 (.fresh 0 0 led) } := Heap.get?_push_size _ rfl
      have hT : Shared.TypeIs { s with heap := s.heap.push { cls := .type "set", dict := none, data := .set #[] 0 (.fresh 0 0 led) } } (.ref s.heap.objs.size) "set" := ⟨_, hS, rfl⟩
      have hli := PySem.F.called_set.init.lookup
      have hbi := PySem.F.called_set.init.bind (.ref s.heap.objs.size)
      repeat (any_goals (first | assumption | wp_step))

      refine codeAny_mono (codeAny_call_builtin (R := wants (fun r s₂ => r = .none ∧ ∃ h' tk, s₂ = { s with heap := h', toks := tk } ∧
          h'.SetOf (mixKind prog w) s.heap.objs.size (memK xs) (nd xs) ∧
          (∀ b o, b < s.heap.objs.size → s.heap.get? b = some o → h'.get? b = some o)) E) PySem.F.called_set.init.plain PySem.F.entry_set_init (check_set_init_1 hT ?_)) fun r₂ s₂ hr₂ => ?_
      · obtain ⟨ol, hol, hcl, nl, hdl⟩ := hl
        obtain ⟨ocls, odict, odata, oslots⟩ := ol
        simp only at hcl hdl
        subst hcl; subst hdl
        have hol' : (s.heap.push { cls := .type "set", dict := none, data := .set #[] 0 (.fresh 0 0 led) }).get? l = some { cls := .type "list", dict := odict, data := .seq items nl, slots := oslots } := Heap.get?_push_of_some _ hol
        have hsls := PySem.F.sub_list_set
        have hslf := PySem.F.sub_list_frozenset
        have hne : (Value.type "list" == Value.type "dict") = false := by decide
        have hl1 : (s.heap.push { cls := .type "set", dict := none, data := .set #[] 0 (.fresh 0 0 led) }).IsList l items := ⟨_, hol', rfl, nl, rfl⟩
        unfold Builtin.«set.__init__» noKeywords Builtin.Frozenset.updateFrom
        generalize hPI : pyIter = PI
        wp_walk
        subst hPI

        refine wpAny_pyIter_list hl1 ?_
        refine wpAny_bind (wpAny_runValue ?_)
        have hlS : l < s.heap.objs.size := Heap.lt_size hol
        have hh3 : A.in1.in1.in1.handled = none := by simp [hh]
        have hneI : l ≠ (s.heap.push { cls := .type "set", dict := none, data := .set #[] 0 (.fresh 0 0 led) }).objs.size := by
          rw [Heap.size_push]; exact Nat.ne_of_lt (Nat.lt_succ_of_lt hlS)
        have hSf : s.heap.objs.size ∉ [(s.heap.push { cls := .type "set", dict := none, data := .set #[] 0 (.fresh 0 0 led) }).objs.size, l] := by
          rw [Heap.size_push]; simp only [List.mem_cons, List.mem_singleton, List.not_mem_nil, or_false, not_or]
          exact ⟨Nat.ne_of_lt (Nat.lt_succ_self _), Nat.ne_of_gt hlS⟩
        have hsz : xs.length = items.size := by rw [← StrsAre.len_eq hi, Array.length_toList]
        have hval : ∀ (i : Nat) (v : Value), items[i]? = some v → ∃ t, v = .str (xs.getD i Str.empty) t := fun i v hv => SS.strs_at hi i v (by rw [Array.getElem?_toList]; exact hv)
        refine loopK ((Walks.list hh3 _ l hneI items).toS) s.heap.objs.size
          hSf xs hsz (by rw [← hsz]; exact hn1) hval (items.size - 0) 0 _ (by omega) (Nat.zero_le _)
          ⟨⟨_, Heap.get?_push_size _ rfl, rfl, rfl⟩, (hl1.push _)⟩ ?hS0 ?hR
        case hS0 =>
          have hget : ((s.heap.push { cls := .type "set", dict := none, data := .set #[] 0 (.fresh 0 0 led) }).push { cls := .type "list_iterator", data := .fields #[.ref l, .int 0 0] }).get? s.heap.objs.size
              = some { cls := .type "set", dict := none, data := .set #[] 0 (.fresh 0 0 led) } := Heap.get?_push_of_some _ hS
          exact ⟨_, #[], 0, _, hget, ⟨rfl, rfl, rfl⟩, rfl, (fun e he => by simp at he), (fun k => by simp [memK]), (by decide), (by rfl), rfl⟩
        case hR =>
          intro s' hm hS'
          obtain ⟨h', g', d', tk', os'⟩ := s'
          have eg : g' = s.gens := hm.gens
          have ed : d' = s.drawn := hm.drawn
          have eo : os' = s.os := hm.os
          subst eg; subst ed; subst eo
          show wpAny _ _ _ _ _ _
          refine wpAny_pure ?_
          show wpAny _ _ (ret Value.none) _ _ _
          refine wpAny_pure ⟨rfl, h', tk', rfl, by rw [← hsz, List.take_length] at hS'; exact hS', fun b o hb e => ?_⟩
          have hb1 : b ≠ s.heap.objs.size := Nat.ne_of_lt hb
          have hb2 : b ≠ (s.heap.push { cls := .type "set", dict := none, data := .set #[] 0 (.fresh 0 0 led) }).objs.size := by
            rw [Heap.size_push]; exact Nat.ne_of_lt (Nat.lt_succ_of_lt hb)
          exact hm.heap b o (by simp only [List.mem_cons, List.mem_singleton, List.not_mem_nil, or_false, not_or]; exact ⟨hb1, hb2⟩) (Heap.get?_push_of_some _ (Heap.get?_push_of_some _ e))

      · cases r₂ with
        | error e => exact hr₂
        | ok fl₂ =>
          cases fl₂ with
          | ret r =>
            obtain ⟨rfl, h', tk, rfl, hS', hk'⟩ := hr₂
            repeat (any_goals (first | assumption | wp_step))
            exact h _ _ hS' hk'
          | _ => exact hr₂.elim
    | _ => exact hr.elim


end
section
variable {X : Cx}
def rSetTx (P : Program) (w : World) (K : PySem.W.Frag) : List V → Hp → VK → Prop := fun xs H Q => ∃ l ss, xs = [.ref l] ∧ SqL K H l (ss.map V.str) ∧ ss.length + 1 < scanBound ∧ ∀ p, H p = none → Q (.ref p) (upd H p (SetK P w p (memK ss) (nd ss)))
theorem cr_setTx (hc : X.calm = true) : CallR X (.type "set") (rSetTx X.prog X.w X.K) := by
  intro pins s σ H xs us Q I r h
  obtain ⟨l, ss, rfl, hq, hn, q⟩ := h
  cases r with
  | cons r1 r2 =>
    cases r2
    cases (show _ = Value.ref l from r1)
    obtain ⟨its, rv, pl, hz⟩ := I.list hq
    refine set_list_texts (I.ok.hd hc) pl.isList (by simpa using strsAre_of rv) hn fun h' tk hS kp => ?_
    have k : ∀ b o, s.heap.get? b = some o → h'.get? b = some o := fun b o e => kp b o (Heap.lt_size e) e
    exact ⟨.ref _, upd H s.heap.objs.size (SetK X.prog X.w s.heap.objs.size (memK ss) (nd ss)), I.laid (t' := tk) k (Nat.le_refl _) (setK_new hS), rfl, q _ (I.hok.fresh (Nat.le_refl _))⟩
/-- len of a set -/
def rLenK (P : Program) (w : World) : List V → Hp → VK → Prop := fun xs H Q => ∃ p S n, xs = [.ref p] ∧ H p = some (SetK P w p S n) ∧ (n : Int) < 2 ^ 63 ∧ Q (.int n) H
theorem cr_lenK : CallR X (.builtin "len") (rLenK X.prog X.w) := by
  intro pins s σ H xs us Q I r h
  obtain ⟨p, S, n, rfl, hp, hn, q⟩ := h
  cases r with
  | cons r1 r2 =>
    cases r2
    cases (show _ = Value.ref p from r1)
    obtain ⟨o, es, ep, t, ho, hex, hd, _, _, _, hf, hen⟩ := setK_get I hp
    exact call_len_set ho hex hd hf (by rw [hen]; exact hn) ⟨.int n, H, I.tok _, ⟨_, by rw [hen]⟩, q⟩
end
end XF
end
section
/-! A set comprehension of the texts of a list -/
set_option maxHeartbeats 4000000
namespace SO
open PySem PySem.Spec PyProof.Rows L2 LamX XF HotX L2H
theorem setK_same {P : Program} {w : World} {D : Addr} {S S' : Key → Bool} {n n' : Nat} (h : ∀ k, S k = S' k) (e : n = n') : SetK P w D S n = SetK P w D S' n' := by
  have : S = S' := funext h
  subst this
  subst e
  rfl
/-- over a list of texts that stands; the element is the text itself -/
theorem sc_texts {P : Program} {w : World} {K : PySem.W.Frag} {a : Addr} {ws : List Str} {i0 : Nat} {σ : L2.St} {H1 : Hp} {D : Addr} {Qd : Hp → Prop} (hl : H1 a = some (.lst (ws.map V.str))) (hn : ws.length + 1 < scanBound) (hD : H1 D = none)
    (hlt : i0 < (wipe σ [i0]).length) (hd : ∀ H', Same H1 H' → H' D = some (SetK P w D (memK ws) (nd ws)) → Qd H') :
    ∃ W : Nat → Nat → Hp → Prop, (∃ m, W 0 m (upd H1 D (SetK P w D (fun _ => false) 0))) ∧ ∀ i m H, W i m H →
      ((Itl K a).stop i H ∧ Qd H) ∨ ((Itl K a).go i H ∧ ∃ Nx : Hp → Prop, (∀ H', Nx H' → ∃ m', m' < m ∧ W (i + 1) m' H') ∧ ∀ x H', (Itl K a).yld i H x H' → gName i0 x (wipe σ [i0]) H' fun σ2 H2 => wipe σ2 [i0] = wipe σ [i0] ∧ tYes σ2 H2 fun b H3 =>
        if b = true then tVar i0 σ2 H3 fun y H4 => ∃ (c : Key) (S : Key → Bool) (n : Nat), y = kV c ∧ H4 D = some (SetK P w D S n) ∧ n + 1 < scanBound ∧ Nx (upd H4 D (SetK P w D (fun j => S j || decide (j = c)) (if S c = true then n else n + 1))) else Nx H3) := by
  have wk := walk_list (K := K) (a := a) (xs := ws.map V.str)
  have hz : (ws.map V.str).length = ws.length := List.length_map ..
  refine ⟨fun i m H => m = ws.length - i ∧ i ≤ ws.length ∧ Same H1 H ∧ H D = some (SetK P w D (memK (ws.take i)) (nd (ws.take i))), ⟨_, rfl, Nat.zero_le _, Same.upd' (Same.refl _) hD, by rw [upd_same]; exact congrArg some (setK_same (fun k => by simp [memK]) rfl)⟩, ?_⟩
  rintro i m H ⟨rfl, hi, e1, h2⟩
  have q : SqL K H a (ws.map V.str) := SqL.of (e1 _ _ hl)
  by_cases hlt' : i < ws.length
  · refine .inr ⟨wk.goes i H (by rw [hz]; exact hlt') q, fun H' => Same H1 H' ∧ H' D = some (SetK P w D (memK (ws.take (i + 1))) (nd (ws.take (i + 1)))), fun H' p' => ⟨ws.length - (i + 1), by omega, rfl, hlt', p'⟩, fun x H' y => ?_⟩
    obtain ⟨rfl, hy⟩ := wk.yields i H x H' (by rw [hz]; exact hlt') q y
    have ew : ws[i]? = some ws[i] := List.getElem?_eq_getElem hlt'
    rw [List.getElem?_map, ew] at hy
    cases hy
    refine ⟨?_, ?_⟩
    · show (( (wipe σ [i0]).set i0 _).set i0 none) = _
      rw [List.set_set]
      show ((σ.set i0 none).set i0 none) = σ.set i0 none
      rw [List.set_set]
    · refine ifT (B := Same H1 H' ∧ H' D = some (SetK P w D (memK (ws.take (i + 1))) (nd (ws.take (i + 1))))) rfl ?_
      refine ⟨V.str ws[i], List.getElem?_set_self hlt, .inr ws[i], _, _, rfl, h2, ?_, Same.upd' e1 hD, ?_⟩
      · have := nd_le (ws.take i)
        rw [List.length_take] at this
        omega
      · rw [upd_same]
        exact congrArg some (setK_same (fun k => (memK_succ ew k).symm) (nd_succ ew).symm)
  · have e : i = ws.length := by omega
    subst e
    rw [List.take_length] at h2
    have st := wk.stops H q
    rw [hz] at st
    exact .inl ⟨st, hd H e1 h2⟩
end SO
end
section
/-! str(order) by the own __str__ -/
set_option maxHeartbeats 4000000
namespace XF
open PySem PySem.Spec PyProof.Rows L2
/-- str(o), o an instance of the class at C, whose __str__ keeps sp -/
def rStrO (C : Addr) (sp : Sp) : List V → Hp → VK → Prop := fun xs H Q => ∃ a dx fs, xs = [.ref a] ∧ H a = some (.ins C dx fs) ∧ sp [.ref a] H (fun v H' => (∃ z, v = .str z) ∧ Q v H') C8.E0
theorem cr_strO {X : Cx} {k : Nat} {C f : Addr} {fd : FuncData} {sp : Sp} (F : FnOk X.prog X.w X.K X.mg X.base C8.CX0 k f fd ["self"] sp) (hs : PySem.W.findIn X.K (.ref C) "__str__" = some (some (.ref f))) (hf : PySem.W.isFn X.K (.ref f) = true) (hb : Binds X.K fd ["self"] [])
    (hr : Room (k + 2) X.A) : CallR X (.type "str") (rStrO C sp) := by
  intro pins s σ H xs us Q I r h
  obtain ⟨a, dx, fs, rfl, ha, hsp⟩ := h
  cases r with
  | cons r1 r2 =>
    cases r2
    cases (show _ = Value.ref a from r1)
    obtain ⟨mA, J, _⟩ := ins_get I.hok ha
    obtain ⟨od, J, _⟩ := J.look
    have hr2 : Room k X.A.in1.in1 := (hr.in1).in1
    refine PySem.W.kso_call hr2.units0 I.kIn J hs hf ?_
    have e0 : Env0 X.prog X.w X.K X.mg X.base X.A.in1.in1 X.stack s H := by
      have e := I.env0
      exact ⟨e.frames, e.mod, e.bs, e.bsz, e.funs, e.frf, e.hok, e.bare⟩
    refine wpAny_call (codeAny_mono (F.run _ X.stack s H ⟨[.ref a], []⟩ [.ref a] [.ref a] _ C8.E0 hr2 e0 (by
      have := hb s [.ref a] I.kIn rfl
      simpa using this) (.cons rfl .nil) hsp) fun r s' hq => ?_)
    cases r with
    | error e => exact (show False from hq).elim
    | ok fl =>
      cases fl with
      | ret w =>
        obtain ⟨z, H', I', rz, ⟨x, ez⟩, q⟩ := I.after hq
        subst ez
        obtain ⟨t, rfl⟩ := rz
        exact ⟨.str x, H', I', ⟨t, rfl⟩, q⟩
      | next => exact False.elim hq
      | brk => exact False.elim hq
      | cont => exact False.elim hq
end XF
end
section
/-! k78, part P1: Order(..), parse_order -/
set_option maxHeartbeats 4000000
namespace SO
open PySem PySem.Spec PyProof.Rows L2 LamX XF HotX L2H

theorem okC {CX : CXT} {P : Program} {w : World} {K : PySem.W.Frag} {mg : Str → Option Value} {base : Heap} {x qual : Str} {st : Stmt} {f : Addr} {fd : FuncData} {N ps : List Str} {k : Nat} {sp : Sp} (F : Fun K x qual st f fd) (S : FnScope N ps (defScope st)) (len : ∀ vs H Q E, sp vs H Q E → vs.length = ps.length)
    (hbody : ∀ (cdv : Value) (A : Around) (outer : List Env) (s : Shared) (H : Hp) (vs : List V) (Q : VK) (E : XK), Room k (A.deeper (envOfC qual (defScope st) s.heap.objs.size f cdv)) → sp vs H Q E →
      ∃ t, PSs (cxOf CX P w K mg base N qual (defScope st) f cdv A outer s H E) (defBody st) t ∧ t { nx := fun _ H' => Q .non H', rt := Q } (L2.start N vs) H) : FnOk P w K mg base CX (k + 1) f fd ps sp := by
  obtain ⟨oc, od, kV, doc, pm, an, cdv, ct, osl, rfl, lk, hcd⟩ := F.ex
  exact fn_of lk hcd S len fun A outer s H vs Q E hr hsp => hbody cdv A outer s H vs Q E hr hsp
/-- an own exception, ready to be made -/
structure Eb (P : Program) (w : World) (K : PySem.W.Frag) (mg : Str → Option Value) (base : Heap) (x fld : Str) (C : Addr) : Prop where
  ex : ∃ f fd, ExcC K mg x C f ∧ FnOk P w K mg base C8.CX0 1 f fd ["self", fld] (spEI C fld) ∧ FnA P w K mg base C8.CX0 1 f fd ["self", fld] (spEI C fld) ∧ Binds K fd ["self", fld] []
section
variable {X : Cx} {k : Nat} {x fld : Str} {C : Addr} {e : Expr} {ta : TA} {p pos : Pos} {W : WX} {q : Addr × Obj} {j : Nat} {cpos rpos : Pos}
/-- raise X(e), nothing handled -/
theorem raise0 (T : Eb X.prog X.w X.K X.mg X.base x fld C) (hc : X.calm = true) (tk : Tk Z0 X W) (hr : Room (k + 2) X.A) (ha : PA X [e] ta) (hg : Gl X x := by rfl)
    (hdb : (x == ("__debug__" : Str)) = false := by decide) (hst : starEach (e :: []) X.env = (false, eval e X.env) :: starEach [] X.env := by rfl) (hpl : (backTo pos (starEach [] X.env)).any (·.1) = false := by rfl) :
    PS X (.Raise (some (.Call (.Name x p) [e] [] pos)) none rpos) (fun _ σ H => tMkX C fld ta σ H fun c d H' => W c d σ H') := by
  obtain ⟨f, fd, E, F, _, b⟩ := T.ex
  exact L2N.ps_raise hc tk (mk_calm E F (hr.mono (by omega)) b ha hg hdb hst hpl).pmk
/-- raise X(e) from None, in a suite -/
theorem raiseS (T : Eb X.prog X.w X.K X.mg X.base x fld C) (hq : HotS X q) (tk : L2.Takes X W) (hr : RoomH (k + 2) X.A) (ha : PA X [e] ta) (hg : Gl X x := by rfl)
    (hdb : (x == ("__debug__" : Str)) = false := by decide) (hst : starEach (e :: []) X.env = (false, eval e X.env) :: starEach [] X.env := by rfl) (hpl : (backTo pos (starEach [] X.env)).any (·.1) = false := by rfl) :
    PS X (.Raise (some (.Call (.Name x p) [e] [] pos)) (some (.Constant .none j cpos)) rpos) (fun _ σ H => tMkX C fld ta σ H fun c d H' => W c d σ H') := by
  obtain ⟨f, fd, E, _, F, b⟩ := T.ex
  exact ps_raiseS hq tk (mk_hot E F (hr.mono (by omega)) hq.mem b ha hg hdb hst hpl)
theorem raiseN (T : Eb X.prog X.w X.K X.mg X.base x fld C) (hq : HotN X q) (tk : Tk Z1 X W) (hr : RoomH (k + 2) X.A) (ha : PA X [e] ta) (hg : Gl X x := by rfl)
    (hdb : (x == ("__debug__" : Str)) = false := by decide) (hst : starEach (e :: []) X.env = (false, eval e X.env) :: starEach [] X.env := by rfl) (hpl : (backTo pos (starEach [] X.env)).any (·.1) = false := by rfl) :
    PS X (.Raise (some (.Call (.Name x p) [e] [] pos)) (some (.Constant .none j cpos)) rpos) (fun _ σ H => tMkX C fld ta σ H fun c d H' => W c d σ H') := by
  obtain ⟨f, fd, E, _, F, b⟩ := T.ex
  exact ps_raiseN hq tk (mk_hot E F (hr.mono (by omega)) hq.mem b ha hg hdb hst hpl)
end

/-! ### parse_order -/
theorem scParseOrder : FnScope ["text", "words", "word"] ["text"] (defScope sParseOrder) := ⟨rfl, rfl, rfl, by decide +kernel, rfl, by decide +kernel, by decide +kernel⟩
/-- the words of an order -/
def okWords (ws : List Str) : Bool := decide (ws.length ≤ 5) && ws.all nameOk && decide ws.Nodup
def pOrder (x : Str) : Option (List Str) := match splitWords x with
  | none => none
  | some ws => if okWords ws then some ws else none
def spParseOrder (C CT : Addr) : Sp := fun vs H Q E => ∃ x : Str, vs = [.str x] ∧ x.length ≤ 100000 ∧
  (∀ cs, pOrder x = some cs → ∀ o H', Same H H' → Nw C H H' (.ord cs) (.ref o) → Q (.ref o) H') ∧
  (pOrder x = none → ∀ d H', H d = none → Same H H' → H' d = some (.xd [("value", .str x)]) → E (.ref CT) (some d) H')
theorem mem_sum_le : ∀ {l : List Nat} {n : Nat}, n ∈ l → n ≤ l.sum
  | a :: l, n, h => by
    rw [List.sum_cons]
    rcases List.mem_cons.mp h with e | h
    · omega
    · have := mem_sum_le h
      omega
theorem split_part {x y z : Str} (hy : 1 ≤ y.length) (h : z ∈ Txt.split x y) : z.length ≤ x.length := by
  have h1 := PyProof.Rows.split_weight x y hy
  have h2 := PyProof.Rows.split_pos x y
  have h3 := mem_sum_le (List.mem_map.mpr ⟨z, h, rfl⟩ : z.length ∈ (Txt.split x y).map (·.length))
  omega
theorem splitWords_eq {x : Str} {ws : List Str} (h : splitWords x = some ws) : ws = Txt.split x blank := by
  unfold splitWords at h
  split at h
  · cases h
  · split at h
    · cases h
    · exact (Option.some.inj h).symm
section
variable {P : Program} {w : World} {K : PySem.W.Frag} {mg : Str → Option Value} {base : Heap} {C CT : Addr}
theorem ok_porder {f : Addr} {fd : FuncData} (F : Fun K "parse_order" "parse_order" sParseOrder f fd) (T : Txt K mg C) (FS : C8.Cal P w K mg base 1 "split_words" spSplit [.str blank]) (FN : Fk P w K mg base CX0 1 "is_name" ["value"] (spIsName C))
    (MO : C8.Mak P w K mg base 3 "Order" C (spOInit C) []) (ET : Eb P w K mg base "InvalidText" "value" CT) : FnOk P w K mg base (Out Z0 P w) 5 f fd ["text"] (spParseOrder C CT) := by
  refine okC F scParseOrder (fun vs H Q E h => ?_) (fun cdv A outer s H vs Q E hr h => ?_)
  · obtain ⟨x, rfl, _⟩ := h
    rfl
  · obtain ⟨x, rfl, hz, k1, k2⟩ := h
    refine ⟨_, pss_cons (ps_set (i := 1) scParseOrder.nd rfl (Or.inl rfl) (C8.pe_c FS hr (by decide) (by rfl) (pa_cons (pv 0) pa_nil)))
      (pss_cons (ps_if (PW.pt (pw_or (pt_cmpR op_isN (pv 1) pe_non (by rfl)) (pw_or (pt_cmpR op_gt (pe_callB call_len (by rfl) T.len PySem.boot_len (pa_cons (pv 1) pa_nil)) (pgi T.MOST_COLUMNS) (nomark _))
          (pw_or1 (pt_not (pt_val (pe_callB (cr_all rfl) (by rfl) T.all PyProof.Rows.boot_all (pa_cons
            (pe_lc (own := [("word", 2)]) (g := gName 2) (tt := tYes) rfl scParseOrder.nd (pi_list (pv 1)) (blkOk_by (N := ["text", "words", "word"]) (sc := defScope sParseOrder) (by decide +kernel))
              (fun _ _ _ _ _ => pg_name (i := 2) scParseOrder.nd rfl (Or.inl rfl)) (fun _ _ _ _ _ => pts_nil) (fun _ _ _ _ _ => pcall FN (hr.mono (by decide)) (pa_cons (pv 2) pa_nil))) pa_nil))))))))
        (pss_one (raise0 (k := 0) ET rfl (tk_of Z0.ok rfl rfl rfl rfl) (hr.mono (by decide)) (pa_cons (pv 0) pa_nil))) pss_nil)
      (pss_cons (ps_if (pt_cmpR op_lt (pe_callB cr_lenK (by rfl) T.len PySem.boot_len (pa_cons
            (pe_scK (own := [("word", 2)]) (g := gName 2) (tt := tYes) rfl scParseOrder.nd (pi_list (pv 1)) (blkOk_by (N := ["text", "words", "word"]) (sc := defScope sParseOrder) (by decide +kernel))
              (fun _ _ _ _ _ => pg_name (i := 2) scParseOrder.nd rfl (Or.inl rfl)) (fun _ _ _ _ _ => pts_nil) (fun _ _ _ _ _ => pv 2)) pa_nil)) (pe_callB call_len (by rfl) T.len PySem.boot_len (pa_cons (pv 1) pa_nil)) (nomark _))
        (pss_one (raise0 (k := 0) ET rfl (tk_of Z0.ok rfl rfl rfl rfl) (hr.mono (by decide)) (pa_cons (pv 0) pa_nil))) pss_nil)
      (pss_one (ps_ret (C8.pe_mk MO hr (by decide) (by rfl) (pa_cons (pv 1) pa_nil)))))), ?_⟩
    refine ⟨_, rfl, x, rfl, hz, fun hn H1 e1 => ?_, fun ws hw p H1 hp e1 h1 => ?_⟩
    · have no : pOrder x = none := by unfold pOrder; rw [hn]
      exact ⟨_, rfl, rfl, _, rfl, ifT rfl (ifT rfl ⟨_, rfl, _, rfl, fun d hd => k2 no d _ (e1.free hd) (Same.upd' e1 (e1.free hd)) upd_same⟩)⟩
    · have hl : (ws.map V.str).length = ws.length := List.length_map ..
      have pO : pOrder x = if okWords ws then some ws else none := by unfold pOrder; rw [hw]
      have bad : okWords ws = false → ∀ H2, Same H H2 → ∀ d, H2 d = none → E (Value.ref CT) (some d) (upd H2 d (.xd [("value", .str x)])) := fun h H2 e2 d hd => k2 (by rw [pO, h]; rfl) d _ (e2.free hd) (Same.upd' e2 (e2.free hd)) upd_same
      refine ⟨_, rfl, rfl, _, rfl, ifF rfl ⟨_, rfl, _, _, rfl, .inl ⟨_, SqL.of h1, rfl⟩, _, _, rfl, rfl, _, rfl, ifB (fun c => ?_) fun c => ?_⟩⟩
      · refine ifT rfl ⟨_, rfl, _, rfl, bad ?_ _ e1⟩
        have c : decide ((5 : Int) < ((ws.map V.str).length : Int)) = true := c
        rw [hl] at c
        have c2 := of_decide_eq_true c
        simp [okWords, show ¬ ws.length ≤ 5 by omega]
      · have c : decide ((5 : Int) < ((ws.map V.str).length : Int)) = false := c
        rw [hl] at c
        have c2 := of_decide_eq_false c
        have l5 : ws.length ≤ 5 := by omega
        refine ⟨_, rfl, p, rfl, ⟨_, SqL.of h1⟩, fun D hD => lc_flatY (walk_list (xs := ws.map V.str)) (fun i => .bl ((ws[i]?.elim false nameOk))) (by rw [hl]; exact Nat.lt_of_le_of_lt l5 (by decide)) hD (fun H2 e2 => SqL.of (e2 _ _ h1)) gName_mono (fun i y H2 H3 hi e y' => ?_) fun H2 e2 h2 => ?_⟩
        · obtain ⟨rfl, hy⟩ := y'
          have hi' : i < ws.length := by rw [hl] at hi; exact hi
          have ew : ws[i]? = some ws[i] := List.getElem?_eq_getElem hi'
          rw [List.getElem?_map, ew] at hy
          cases hy
          refine ⟨rfl, fun N1 n1 => ⟨_, rfl, _, .str ws[i], rfl, rfl, ?_, fun H4 e4 => ?_⟩⟩
          · show ws[i].length ≤ 100000
            have hm : ws[i] ∈ Txt.split x blank := by rw [← splitWords_eq hw]; exact List.getElem_mem hi'
            exact Nat.le_trans (split_part (by decide) hm) hz
          · have q := n1 H4 e4
            rw [ew] at q
            exact q
        · refine ⟨D, ws.map nameOk, rfl, .of ?_, ?_⟩
          · rw [h2, hl]
            congr 2
            refine List.ext_getElem (by simp) fun i a b => ?_
            have hi' : i < ws.length := by simpa using a
            simp [List.getElem?_eq_getElem hi']
          · have ea : (ws.map nameOk).all id = ws.all nameOk := by rw [List.all_map]; rfl
            rw [ea]
            have e3 : Same H H2 := e1.trans e2
            refine ⟨_, rfl, ifB (fun c3 => ?_) fun c3 => ?_⟩
            · exact ⟨_, rfl, _, rfl, bad (by have c3 : (!ws.all nameOk) = true := c3; simp only [Bool.not_eq_true'] at c3; simp [okWords, c3]) H2 e3⟩
            · have c3 : ws.all nameOk = true := by have c3 : (!ws.all nameOk) = false := c3; simpa using c3
              have hp2 : H2 p = some (.lst (ws.map V.str)) := e2 _ _ h1
              refine ⟨_, rfl, p, rfl, ⟨_, SqL.of hp2⟩, fun D2 hD2 => sc_texts (w := w) hp2 (by have : scanBound = 4096 := rfl; omega) hD2 (by show 2 < 3; decide) fun H3 e4 h3 => ?_⟩
              have e5 : Same H H3 := e3.trans e4
              have hp3 : H3 p = some (.lst (ws.map V.str)) := e4 _ _ hp2
              have hnd : nd ws ≤ 5 := Nat.le_trans (nd_le ws) l5
              refine ⟨D2, _, _, rfl, h3, by omega, ?_⟩
              refine ⟨_, rfl, _, _, rfl, .inl ⟨_, SqL.of hp3, rfl⟩, _, _, rfl, rfl, _, rfl, ifB (fun c4 => ?_) fun c4 => ?_⟩
              · have c4 : decide ((nd ws : Int) < ((ws.map V.str).length : Int)) = true := c4
                rw [hl] at c4
                have c5 := of_decide_eq_true c4
                have c6 : ¬ ws.Nodup := (nd_lt ws).mp (by omega)
                exact ⟨_, rfl, _, rfl, bad (by simp [okWords, c6]) H3 e5⟩
              · have c4 : decide ((nd ws : Int) < ((ws.map V.str).length : Int)) = false := c4
                rw [hl] at c4
                have c5 := of_decide_eq_false c4
                have c6 : ws.Nodup := by
                  by_cases h : ws.Nodup
                  · exact h
                  · exact absurd ((nd_lt ws).mpr h) (by omega)
                have ok : okWords ws = true := by simp [okWords, c3, c6, l5]
                have nm : namesOk ws := ⟨by rw [splitWords_eq hw]; exact PyProof.Rows.split_pos x blank, l5, fun c hc => List.all_eq_true.mp c3 c hc, c6⟩
                refine ⟨_, rfl, fun o dx ho hdx ne => ⟨o, p, dx, ws, rfl, upd_same, ?_, nm, fun l H4 hl0 hl4 ho4 k4 => ⟨rfl, k1 ws (by rw [pO, ok]; rfl) o H4 (fun a u ha => ?_) (.ord ho4 hl4 (e5.free ho) ?_)⟩⟩⟩
                · have n1 := ne_of_none hp3 ho
                  have n2 := ne_of_none hp3 hdx
                  rw [upd_ne n1, upd_ne n2]
                  exact hp3
                · have n1 := ne_of_none (e5 _ _ ha) ho
                  have n2 := ne_of_none (e5 _ _ ha) hdx
                  exact k4 a u (by rw [upd_ne n1, upd_ne n2]; exact e5 _ _ ha) n1
                · cases hh : H l with
                  | none => rfl
                  | some u =>
                    have h3 := e5 _ _ hh
                    rw [upd_ne (ne_of_none h3 ho), upd_ne (ne_of_none h3 hdx), h3] at hl0
                    cases hl0
end
end SO
end
section
/-! k78, part P2: is_step, step_text -/
set_option maxHeartbeats 4000000
namespace SO
open PySem PySem.Spec PyProof.Rows L2 LamX XF HotX L2H

theorem scIsStep : FnScope ["value", "order"] ["value"] (defScope sIsStep) := ⟨rfl, rfl, rfl, by decide +kernel, rfl, by decide +kernel, by decide +kernel⟩
def sBuild : Str := "build"
def sDrop : Str := "drop"
def sRelay : Str := "relay"
def isStep : D → Bool
  | .tup (.str x :: ds) => ds.all isOrd && ((decide (ds.length = 1) && (decide (x = sBuild) || decide (x = sDrop))) || (decide (ds.length = 2) && decide (x = sRelay)))
  | _ => false
def spIsStep (C : Addr) : Sp := fun vs H Q _ => ∃ v d, vs = [v] ∧ Rp C H d v ∧ ∀ H', Same H H' → Q (.bl (isStep d)) H'
theorem eqV_str (x y : Str) : eqV (.str x) (.str y) = decide (y = x) := by
  show (x == y) = decide (y = x)
  by_cases h : y = x
  · subst h; simp
  · rw [decide_eq_false h]
    exact beq_eq_false_iff_ne.mpr fun e => h e.symm
theorem in23 (n : Nat) : inV (.int n) [.int 2, .int 3] = (decide (n = 2) || decide (n = 3)) := by
  have h2 : ((2 : Int) == (n : Int)) = decide (n = 2) := by rw [Bool.eq_iff_iff]; simp; omega
  have h3 : ((3 : Int) == (n : Int)) = decide (n = 3) := by rw [Bool.eq_iff_iff]; simp; omega
  simp [inV, eqV, h2, h3]
theorem cut1 (v : V) (vr : List V) : cutV (v :: vr) (some 1) none = vr := by
  have e : HT.sIx (v :: vr).length 0 (some 1) = 1 := by
    have := HT.sIx_nat (v :: vr).length 0 1
    simp at this
    exact this
  unfold cutV
  rw [e, HT.sIx_none]
  simp
theorem whole1 (v : V) (vr : List V) : ¬ (HT.sIx (v :: vr).length 0 (some 1) = 0 ∧ HT.sIx (v :: vr).length (v :: vr).length none = (v :: vr).length) := by
  have e : HT.sIx (v :: vr).length 0 (some 1) = 1 := by
    have := HT.sIx_nat (v :: vr).length 0 1
    simp at this
    exact this
  rw [e]
  exact fun h => absurd h.1 (by decide)
section
variable {P : Program} {w : World} {K : PySem.W.Frag} {mg : Str → Option Value} {base : Heap} {C : Addr}
theorem ok_isStep {f : Addr} {fd : FuncData} (F : Fun K "is_step" "is_step" sIsStep f fd) (T : Txt K mg C) (IC : IsC K C) : FnOk P w K mg base CX0 1 f fd ["value"] (spIsStep C) := by
  refine F.ok scIsStep (fun vs H Q E h => ?_) (fun cdv A outer s H vs Q E hr h => ?_)
  · obtain ⟨v, d, rfl, _⟩ := h
    rfl
  · obtain ⟨v, d, rfl, hv, k⟩ := h
    refine ⟨_, pss_cons (ps_if (PW.pt (pw_or (pt_not (pt_val (pe_callB call_isi (by rfl) T.isinstance PyProof.Rows.boot_isinstance (pa_cons (pv 0) (pa_cons (pe_bltn (v := .ty "tuple") (by rfl) T.tuple (by decide +kernel) rfl) pa_nil)))))
        (pw_or (pt_cmpR op_notIn_seq (pe_callB call_len (by rfl) T.len PySem.boot_len (pa_cons (pv 0) pa_nil)) (pe_tup (pa_cons pe_int (pa_cons pe_int pa_nil))) (by rfl))
          (pw_or1 (pt_not (pt_val (pe_callB call_isi (by rfl) T.isinstance PyProof.Rows.boot_isinstance (pa_cons (pe_ix ix_tup (pv 0) pe_int (fun _ _ => rfl)) (pa_cons (pe_bltn (v := .ty "str") (by rfl) T.str (by decide +kernel) rfl) pa_nil)))))))))
        (pss_one (ps_ret pe_bl)) pss_nil)
      (pss_cons (ps_if (pt_not (pt_val (pe_callB (cr_all rfl) (by rfl) T.all PyProof.Rows.boot_all (pa_cons
            (pe_lc (own := [("order", 1)]) (g := gName 1) (tt := tYes) rfl scIsStep.nd (pi_tup (pe_slice sl_tup (pv 0) (po_some pe_int) po_none)) (blkOk_by (N := ["value", "order"]) (sc := defScope sIsStep) (by decide +kernel))
              (fun _ _ _ _ _ => pg_name (i := 1) scIsStep.nd rfl (Or.inl rfl)) (fun _ _ _ _ _ => pts_nil) (fun _ _ _ _ _ => pe_callB (r := rIsi K) call_isi (by rfl) T.isinstance PyProof.Rows.boot_isinstance (pa_cons (pv 1) (pa_cons (pe_glob (v := .ref C) (by rfl) T.Order rfl) pa_nil)))) pa_nil)))) (pss_one (ps_ret pe_bl)) pss_nil)
      (pss_one (ps_ret (pe_cmpR op_in_seq (pe_ix ix_tup (pv 0) pe_int (fun _ _ => rfl))
        (pe_dget (hu_of hr) (pe_disp (pps_cons pe_int (pe_tup (pa_cons (pgs T.BUILD) (pa_cons (pgs T.DROP) pa_nil))) (pps_cons pe_int (pe_tup (pa_cons (pgs T.RELAY) pa_nil)) pps_nil)) (by rfl) (by rfl) (fun z => by cases z) (by decide))
          (pe_callB call_len (by rfl) T.len PySem.boot_len (pa_cons (pv 0) pa_nil)) (fun _ _ => rfl)) (by rfl))))), ?_⟩
    refine ⟨_, rfl, _, _, _, _, _, rfl, .ty "tuple", hv.ty IC, kit_tup IC d, _, rfl, ?_⟩
    cases hs : isTup d with
    | false =>
      refine ifT rfl (ifT rfl ?_)
      have e : isStep d = false := by cases d <;> first | rfl | cases hs
      rw [← e]
      exact k H (Same.refl H)
    | true =>
      obtain ⟨ds, rfl⟩ : ∃ ds, d = .tup ds := by cases d <;> first | exact ⟨_, rfl⟩ | cases hs
      obtain ⟨a, vs, rfl, ha, hr'⟩ := hv
      have hl := hr'.len
      refine ifF rfl ⟨_, rfl, _, _, rfl, .inr ⟨_, SqT.of ha, rfl⟩, (by show 2 ≤ sizeLine; decide), fun t ht => ⟨t, _, rfl, .inr (SqT.of upd_same), rfl, rfl, _, rfl, ?_⟩⟩
      have e1 : Same H (upd H t (.tup [.int 2, .int 3])) := Same.upd' (Same.refl H) ht
      refine ifB (fun c => ?_) fun c => ?_
      · refine ifT rfl ?_
        have q := k _ e1
        rw [show isStep (.tup ds) = false from ?_] at q
        · exact q
        · have c : (!inV (.int (vs.length : Nat)) [.int 2, .int 3]) = true := c
          rw [in23, hl] at c
          have c2 : ¬ ds.length = 2 ∧ ¬ ds.length = 3 := by simpa using c
          cases ds with
          | nil => rfl
          | cons d0 dr =>
            have c3 : ¬ dr.length = 1 ∧ ¬ dr.length = 2 := by simpa using c2
            cases d0 <;> simp [isStep, c3.1, c3.2]
      · have a1 := e1 _ _ ha
        generalize upd H t (.tup [.int 2, .int 3]) = H1 at e1 a1 ⊢
        have h23 : vs.length = 2 ∨ vs.length = 3 := by
          have c : (!inV (.int (vs.length : Nat)) [.int 2, .int 3]) = false := c
          rw [in23] at c
          by_cases h : vs.length = 2
          · exact .inl h
          · exact .inr (by simpa [h] using c)
        obtain ⟨v0, vr, rfl⟩ : ∃ v0 vr, vs = v0 :: vr := by
          cases vs with
          | nil => simp at h23
          | cons v0 vr => exact ⟨v0, vr, rfl⟩
        obtain ⟨d0, dr, rfl⟩ : ∃ d0 dr, ds = d0 :: dr := by
          cases ds with
          | nil => simp at hl
          | cons v0 vr => exact ⟨v0, vr, rfl⟩
        obtain ⟨v0', vr', e, r0, rr⟩ := hr'
        cases e
        have lr : vr.length = dr.length := rr.len
        have l12 : vr.length = 1 ∨ vr.length = 2 := by simpa using h23
        refine ⟨_, rfl, a, _, _, _, rfl, rfl, SqT.of a1, atI_nat (j := 0) rfl, _, _, _, _, _, rfl, .ty "str", (r0.mono e1).ty IC, kit_str IC d0, _, rfl, ?_⟩
        cases hs0 : isStr d0 with
        | false =>
          have e : isStep (.tup (d0 :: dr)) = false := by cases d0 <;> first | rfl | cases hs0
          refine ifT rfl ?_
          have q := k H1 e1
          rw [e] at q
          exact q
        | true =>
          obtain ⟨x, rfl⟩ : ∃ x, d0 = .str x := by cases d0 <;> first | exact ⟨_, rfl⟩ | cases hs0
          obtain rfl : v0 = .str x := r0
          refine ifF rfl ⟨_, rfl, 1, rfl, a, _, rfl, SqT.of a1, whole1 _ _, fun p hp => ⟨p, rfl, ⟨_, SqT.of upd_same⟩, fun D hD => ?_⟩⟩
          rw [cut1] at hD ⊢
          have hp1 : upd H1 p (.tup vr) p = some (.tup vr) := upd_same
          have e2 : Same H1 (upd H1 p (.tup vr)) := Same.upd' (Same.refl _) hp
          generalize upd H1 p (.tup vr) = H2 at hD hp1 e2 ⊢
          refine lc_flatY (walk_tup (xs := vr)) (fun i => .bl (dr[i]?.elim false isOrd)) (by have : sizeLine = 16777216 := sizeLine_eq; omega) hD (fun H3 e3 => SqT.of (e3 _ _ hp1)) gName_mono (fun i y H3 H4 hi e y' => ?_) fun H3 e3 h3 => ?_
          · obtain ⟨rfl, hy⟩ := y'
            obtain ⟨dd, hd, rd⟩ := rr.get' hy
            refine ⟨rfl, fun N1 n1 => ⟨_, rfl, _, _, _, _, _, rfl, .own C, ((rd.mono e1).mono (e2.trans e)).ty IC, kit_ord IC dd, ?_⟩⟩
            have q := n1 H4 (Same.refl _)
            rw [hd] at q
            exact q
          · have e4 : Same H H3 := (e1.trans e2).trans e3
            refine ⟨D, dr.map isOrd, rfl, .of ?_, ?_⟩
            · rw [h3, lr]
              congr 2
              refine List.ext_getElem (by simp) fun i a b => ?_
              have hi' : i < dr.length := by simpa using a
              simp [List.getElem?_eq_getElem hi']
            · have ea : (dr.map isOrd).all id = dr.all isOrd := by rw [List.all_map]; rfl
              rw [ea]
              refine ⟨_, rfl, ifB (fun c5 => ?_) fun c5 => ?_⟩
              · have c5 : (!dr.all isOrd) = true := c5
                have q := k H3 e4
                rw [show isStep (.tup (.str x :: dr)) = false by simp only [Bool.not_eq_true'] at c5; simp [isStep, c5]] at q
                exact q
              · have c5 : dr.all isOrd = true := by have c5 : (!dr.all isOrd) = false := c5; simpa using c5
                have a3 := e4 _ _ ha
                refine ⟨_, rfl, a, _, _, _, rfl, rfl, SqT.of a3, atI_nat (j := 0) rfl, ?_⟩
                refine fun pd hpd => ⟨(by show 2 ≤ sizeLine; decide), fun t1 ht1 => ⟨(by show 1 ≤ sizeLine; decide), fun t2 ht2 => ?_⟩⟩
                have n1 : t1 ≠ pd := fun e => by rw [e, upd_same] at ht1; cases ht1
                have h31 : H3 t1 = none := by rw [upd_ne n1] at ht1; exact ht1
                have n2 : t2 ≠ t1 := fun e => by rw [e, upd_same] at ht2; cases ht2
                rw [upd_ne n2] at ht2
                have n3 : t2 ≠ pd := fun e => by rw [e, upd_same] at ht2; cases ht2
                have h32 : H3 t2 = none := by rw [upd_ne n3] at ht2; exact ht2
                refine ⟨by rw [upd_ne n3.symm, upd_ne n1.symm, upd_same], [(.inl 2, .ref t1), (.inl 3, .ref t2)], rfl, (by show 2 ≤ 15; decide), ?_⟩
                have e5 : Same H3 (upd (upd (upd (upd H3 pd (.dK [])) t1 (.tup [.str "build", .str "drop"])) t2 (.tup [.str "relay"])) pd (.dK (mergeK [] [(.inl 2, .ref t1), (.inl 3, .ref t2)]))) := fun b u hb => by
                  rw [upd_ne (ne_of_none hb hpd), upd_ne (ne_of_none hb h32), upd_ne (ne_of_none hb h31), upd_ne (ne_of_none hb hpd)]
                  exact hb
                have g1 : (upd (upd (upd (upd H3 pd (.dK [])) t1 (.tup [.str "build", .str "drop"])) t2 (.tup [.str "relay"])) pd (.dK (mergeK [] [(.inl 2, .ref t1), (.inl 3, .ref t2)]))) t1 = some (.tup [.str "build", .str "drop"]) := by
                  rw [upd_ne n1, upd_ne n2.symm, upd_same]
                have g2 : (upd (upd (upd (upd H3 pd (.dK [])) t1 (.tup [.str "build", .str "drop"])) t2 (.tup [.str "relay"])) pd (.dK (mergeK [] [(.inl 2, .ref t1), (.inl 3, .ref t2)]))) t2 = some (.tup [.str "relay"]) := by
                  rw [upd_ne n3, upd_same]
                have g3 : (upd (upd (upd (upd H3 pd (.dK [])) t1 (.tup [.str "build", .str "drop"])) t2 (.tup [.str "relay"])) pd (.dK (mergeK [] [(.inl 2, .ref t1), (.inl 3, .ref t2)]))) pd = some (.dK (mergeK [] [(.inl 2, .ref t1), (.inl 3, .ref t2)])) := upd_same
                generalize (upd (upd (upd (upd H3 pd (.dK [])) t1 (.tup [.str "build", .str "drop"])) t2 (.tup [.str "relay"])) pd (.dK (mergeK [] [(.inl 2, .ref t1), (.inl 3, .ref t2)]))) = H4 at e5 g1 g2 g3 ⊢
                have k4 := k H4 (e4.trans e5)
                refine ⟨_, rfl, _, _, rfl, .inr ⟨_, SqT.of (e5 _ _ a3), rfl⟩, ?_⟩
                rcases l12 with l | l
                · have e6 : ((V.str x :: vr).length : Nat) = 2 := by rw [List.length_cons, l]
                  rw [e6]
                  refine ⟨pd, .ref t1, rfl, DGet.k (k := .inl 2) g3, t1, _, rfl, .inr (SqT.of g1), rfl, rfl, ?_⟩
                  have ld : dr.length = 1 := by omega
                  have q : isStep (.tup (.str x :: dr)) = inV (.str x) [.str "build", .str "drop"] := by
                    show (dr.all isOrd && ((decide (dr.length = 1) && (decide (x = sBuild) || decide (x = sDrop))) || (decide (dr.length = 2) && decide (x = sRelay)))) = (eqV (.str sBuild) (.str x) || (eqV (.str sDrop) (.str x) || false))
                    rw [c5, ld, eqV_str, eqV_str]
                    generalize decide (x = sBuild) = b1
                    generalize decide (x = sDrop) = b2
                    generalize decide (x = sRelay) = b3
                    cases b1 <;> cases b2 <;> cases b3 <;> rfl
                  rw [q] at k4
                  exact k4
                · have e6 : ((V.str x :: vr).length : Nat) = 3 := by rw [List.length_cons, l]
                  rw [e6]
                  refine ⟨pd, .ref t2, rfl, DGet.k (k := .inl 3) g3, t2, _, rfl, .inr (SqT.of g2), rfl, rfl, ?_⟩
                  have ld : dr.length = 2 := by omega
                  have q : isStep (.tup (.str x :: dr)) = inV (.str x) [.str "relay"] := by
                    show (dr.all isOrd && ((decide (dr.length = 1) && (decide (x = sBuild) || decide (x = sDrop))) || (decide (dr.length = 2) && decide (x = sRelay)))) = (eqV (.str sRelay) (.str x) || false)
                    rw [c5, ld, eqV_str]
                    generalize decide (x = sBuild) = b1
                    generalize decide (x = sDrop) = b2
                    generalize decide (x = sRelay) = b3
                    cases b1 <;> cases b2 <;> cases b3 <;> rfl
                  rw [q] at k4
                  exact k4
end
end SO
end
section
/-! k78, part P3: step_text -/
set_option maxHeartbeats 4000000
namespace SO
open PySem PySem.Spec PyProof.Rows L2 LamX XF HotX L2H

theorem scStepText : FnScope ["step", "order"] ["step"] (defScope sStepText) := ⟨rfl, rfl, rfl, by decide +kernel, rfl, by decide +kernel, by decide +kernel⟩
def towards : Str := " > "
def ordText : D → Str
  | .ord cs => Txt.join blank cs
  | _ => Str.empty
def stepText : D → Str
  | .tup (.str x :: ds) => ((Str.empty ++ x) ++ blank) ++ Txt.join towards (ds.map ordText)
  | _ => Str.empty
/-- the orders of a step are orders -/
def stOk : D → Prop
  | .tup ds => ∀ cs, D.ord cs ∈ ds → namesOk cs
  | _ => True
def spStepText (C CS : Addr) : Sp := fun vs H Q E => ∃ v d, vs = [v] ∧ Rp C H d v ∧ stOk d ∧ (isStep d = true → ∀ H', Same H H' → Q (.str (stepText d)) H') ∧
  (isStep d = false → ∀ dd H', H dd = none → Same H H' → H' dd = some (.xd [("value", v)]) → E (.ref CS) (some dd) H')
theorem isStep_inv {d : D} (h : isStep d = true) : ∃ x ds, d = .tup (.str x :: ds) ∧ ds.all isOrd = true ∧ ((ds.length = 1 ∧ (x = sBuild ∨ x = sDrop)) ∨ (ds.length = 2 ∧ x = sRelay)) := by
  cases d with
  | tup ds =>
    cases ds with
    | nil => cases h
    | cons d0 dr =>
      cases d0 with
      | str x =>
        refine ⟨x, dr, rfl, ?_⟩
        have h : (dr.all isOrd && ((decide (dr.length = 1) && (decide (x = sBuild) || decide (x = sDrop))) || (decide (dr.length = 2) && decide (x = sRelay)))) = true := h
        simpa using h
      | _ => cases h
  | _ => cases h
theorem sum_le : ∀ (l : List Str) (n : Nat), (∀ z ∈ l, z.length ≤ n) → (l.map (·.length)).sum ≤ n * l.length
  | [], n, _ => Nat.zero_le _
  | a :: r, n, h => by
    have h1 := h a (by simp)
    have h2 := sum_le r n fun z hz => h z (by simp [hz])
    rw [List.map_cons, List.sum_cons, List.length_cons, Nat.mul_succ]
    omega
theorem ordText_len {cs : List Str} (h : namesOk cs) : (Txt.join blank cs).length ≤ 45 := by
  have h1 := sum_len h.2.2.1
  have h2 := h.2.1
  have h3 : (Txt.join blank cs).length ≤ (cs.map (·.length)).sum + cs.length * blank.length := by rw [TL.join_eq]; exact StrLaws.join_length_le blank cs
  have e1 : blank.length = 1 := rfl
  rw [e1] at h3
  have h4 : (cs.map (·.length)).sum = (List.map (fun x => x.length) cs).sum := rfl
  omega
section
variable {P : Program} {w : World} {K : PySem.W.Frag} {mg : Str → Option Value} {base : Heap} {C CS : Addr}
theorem ok_stepText {f fs : Addr} {fd fds : FuncData} (F : Fun K "step_text" "step_text" sStepText f fd) (T : Txt K mg C) (IC : IsC K C) (FS : Fk P w K mg base CX0 1 "is_step" ["value"] (spIsStep C))
    (G : FnOk P w K mg base C8.CX0 1 fs fds ["self"] (spOStr C)) (hs : PySem.W.findIn K (.ref C) "__str__" = some (some (.ref fs))) (hf : PySem.W.isFn K (.ref fs) = true) (hb : Binds K fds ["self"] [])
    (ET : Eb P w K mg base "InvalidSteps" "value" CS) : FnOk P w K mg base (Out Z0 P w) 4 f fd ["step"] (spStepText C CS) := by
  refine okC F scStepText (fun vs H Q E h => ?_) (fun cdv A outer s H vs Q E hr h => ?_)
  · obtain ⟨v, d, rfl, _⟩ := h
    rfl
  · obtain ⟨v, d, rfl, hv, hk, k1, k2⟩ := h
    refine ⟨_, pss_cons (ps_if (pt_not (pt_val (pcall FS (hr.mono (by decide)) (pa_cons (pv 0) pa_nil)))) (pss_one (raise0 (k := 0) ET rfl (tk_of Z0.ok rfl rfl rfl rfl) (hr.mono (by decide)) (pa_cons (pv 0) pa_nil))) pss_nil)
      (pss_one (ps_ret (pe_joined (.cons (pe_fmt (pe_ix ix_tup (pv 0) pe_int (fun _ _ => rfl))) (.cons pe_str (.cons (pe_fmt
        (pe_bm PySem.F.plainAttrs_str PySem.F.slot_str_join PySem.F.type_str_join mt_join (pgs T.TOWARDS) (pa_cons
          (pe_lc (own := [("order", 1)]) (g := gName 1) (tt := tYes) rfl scStepText.nd (pi_tup (pe_slice sl_tup (pv 0) (po_some pe_int) po_none)) (blkOk_by (N := ["step", "order"]) (sc := defScope sStepText) (by decide +kernel))
              (fun _ _ _ _ _ => pg_name (i := 1) scStepText.nd rfl (Or.inl rfl)) (fun _ _ _ _ _ => pts_nil) (fun _ _ _ _ _ => pe_callTy (cr_strO G hs hf hb (hr.mono (by decide))) (by rfl) T.str (by decide +kernel) (pa_cons (pv 1) pa_nil))) pa_nil))) .nil)))))), ?_⟩
    refine ⟨_, rfl, v, d, rfl, hv, fun H1 e1 => ?_⟩
    refine ⟨_, rfl, ifB (fun c => ?_) fun c => ?_⟩
    · have c2 : isStep d = false := by have c : (!isStep d) = true := c; simpa using c
      exact ⟨_, rfl, _, rfl, fun dd hdd => k2 c2 dd _ (e1.free hdd) (Same.upd' e1 (e1.free hdd)) upd_same⟩
    · have c2 : isStep d = true := by have c : (!isStep d) = false := c; simpa using c
      obtain ⟨x, ds, rfl, ho, hw⟩ := isStep_inv c2
      obtain ⟨a, vs, rfl, ha, v0, vr, rfl, r0, rr⟩ := hv
      obtain rfl : v0 = .str x := r0
      have a1 := e1 _ _ ha
      have hx : x.length ≤ 5 := by
        rcases hw with ⟨_, rfl | rfl⟩ | ⟨_, rfl⟩
        · exact Nat.le_of_eq rfl
        · exact (by decide : 4 ≤ 5)
        · exact Nat.le_of_eq rfl
      have l12 : ds.length ≤ 2 := by rcases hw with ⟨e, _⟩ | ⟨e, _⟩ <;> omega
      have lr : vr.length = ds.length := rr.len
      have big : sizeLine = 16777216 := sizeLine_eq
      refine ⟨_, rfl, a, _, _, _, rfl, rfl, SqT.of a1, atI_nat (j := 0) rfl, .inl ⟨x, rfl, by omega, x, rfl, ?_, blank, rfl, ?_, ?_⟩⟩
      · rw [Str.length_append]
        have e0 : Str.empty.length = 0 := rfl
        omega
      · rw [Str.length_append, Str.length_append]
        have e0 : Str.empty.length = 0 := rfl
        have e2 : blank.length = 1 := rfl
        omega
      · refine ⟨rfl, _, rfl, 1, rfl, a, _, rfl, SqT.of a1, whole1 _ _, fun p hp => ⟨p, rfl, ⟨_, SqT.of upd_same⟩, fun D hD => ?_⟩⟩
        rw [cut1] at hD ⊢
        have hp1 : upd H1 p (.tup vr) p = some (.tup vr) := upd_same
        have e2 : Same H1 (upd H1 p (.tup vr)) := Same.upd' (Same.refl _) hp
        generalize upd H1 p (.tup vr) = H2 at hD hp1 e2 ⊢
        refine lc_flatY (walk_tup (xs := vr)) (fun i => .str (ds[i]?.elim Str.empty ordText)) (by omega) hD (fun H3 e3 => SqT.of (e3 _ _ hp1)) gName_mono (fun i y H3 H4 hi e y' => ?_) fun H3 e3 h3 => ?_
        · obtain ⟨rfl, hy⟩ := y'
          obtain ⟨dd, hd, rd⟩ := rr.get' hy
          have od := List.all_eq_true.mp ho dd (List.mem_of_getElem? hd)
          obtain ⟨cs, rfl⟩ : ∃ cs, dd = .ord cs := by cases dd <;> first | exact ⟨_, rfl⟩ | cases od
          have rd' := (rd.mono e1).mono (e2.trans e)
          obtain ⟨b, dx, l, rfl, g1, g2⟩ := id rd'
          refine ⟨rfl, fun N1 n1 => ⟨_, rfl, b, dx, _, rfl, g1, b, cs, rfl, rd', hk cs (List.mem_cons_of_mem _ (List.mem_of_getElem? hd)), fun H5 e5 => ⟨⟨_, rfl⟩, ?_⟩⟩⟩
          have q := n1 H5 e5
          rw [hd] at q
          exact q
        · have e4 : Same H H3 := (e1.trans e2).trans e3
          have el : (List.range vr.length).map (fun i => V.str (ds[i]?.elim Str.empty ordText)) = (ds.map ordText).map V.str := by
            rw [lr]
            refine List.ext_getElem (by simp) fun i a b => ?_
            have hi' : i < ds.length := by simpa using a
            simp [List.getElem?_eq_getElem hi']
          rw [el] at h3
          have hlen : ∀ z ∈ ds.map ordText, z.length ≤ 45 := fun z hz => by
            obtain ⟨dd, hd, rfl⟩ := List.mem_map.mp hz
            have od := List.all_eq_true.mp ho dd hd
            obtain ⟨cs, rfl⟩ : ∃ cs, dd = .ord cs := by cases dd <;> first | exact ⟨_, rfl⟩ | cases od
            exact ordText_len (hk cs (List.mem_cons_of_mem _ hd))
          have hsum : ((ds.map ordText).map (·.length)).sum ≤ 90 := by
            have : ∀ (l : List Str), (∀ z ∈ l, z.length ≤ 45) → (l.map (·.length)).sum ≤ 45 * l.length := fun l => by
              induction l with
              | nil => intro _; exact Nat.le_refl _
              | cons a r ih =>
                intro h
                have h1 := h a (by simp)
                have h2 := ih fun z hz => h z (by simp [hz])
                rw [List.map_cons, List.sum_cons, List.length_cons]
                omega
            have q := this _ hlen
            rw [List.length_map] at q
            omega
          have hj : (Txt.join towards (ds.map ordText)).length ≤ ((ds.map ordText).map (·.length)).sum + (ds.map ordText).length * towards.length := by rw [TL.join_eq]; exact StrLaws.join_length_le towards (ds.map ordText)
          have e3' : towards.length = 3 := rfl
          rw [List.length_map, e3'] at hj
          refine ⟨_, D, ds.map ordText, rfl, rfl, .inl (SqL.of h3), by show _ + _ * towards.length ≤ _; rw [e3', List.length_map]; omega, ?_⟩
          have hjl : (Txt.join towards (ds.map ordText)).length ≤ 96 := by omega
          refine .inl ⟨_, rfl, by show (Txt.join towards _).length ≤ _; omega, _, rfl, ?_, k1 c2 H3 e4⟩
          show (Str.empty ++ x ++ blank ++ Txt.join towards (ds.map ordText)).length ≤ _
          rw [Str.length_append, Str.length_append, Str.length_append]
          have e0 : Str.empty.length = 0 := rfl
          have e2 : blank.length = 1 := rfl
          omega
end
end SO
end
section
/-! k78, part P4: parse_step -/
set_option maxHeartbeats 4000000
namespace SO
open PySem PySem.Spec PyProof.Rows L2 LamX XF HotX L2H

theorem scParseStep : FnScope ["text", "word", "space", "rest", "parts", "part"] ["text"] (defScope sParseStep) := ⟨rfl, rfl, rfl, by decide +kernel, rfl, by decide +kernel, by decide +kernel⟩
def allOrders : List Str → Option (List (List Str))
  | [] => some []
  | x :: xs => match pOrder x, allOrders xs with
    | some cs, some r => some (cs :: r)
    | _, _ => none
def isWord (x : Str) : Bool := decide (x = sBuild) || decide (x = sDrop) || decide (x = sRelay)
def pStep (x : Str) : Option (Str × List (List Str)) :=
  let p := Txt.partition x blank
  let ps := Txt.split p.2.2 towards
  if isWord p.1 && decide (ps.length = if p.1 = sRelay then 2 else 1) then (allOrders ps).map fun os => (p.1, os) else none
theorem inW (x : Str) : inV (.str x) [.str "build", .str "drop", .str "relay"] = isWord x := by
  show (eqV (.str sBuild) (.str x) || (eqV (.str sDrop) (.str x) || (eqV (.str sRelay) (.str x) || false))) = _
  rw [eqV_str, eqV_str, eqV_str]
  unfold isWord
  cases decide (x = sBuild) <;> cases decide (x = sDrop) <;> cases decide (x = sRelay) <;> rfl
theorem allOrders_app (a b : List Str) : allOrders (a ++ b) = match allOrders a, allOrders b with
    | some x, some y => some (x ++ y)
    | _, _ => none := by
  induction a with
  | nil => simp [allOrders]; cases allOrders b <;> rfl
  | cons z a ih =>
    rw [List.cons_append]
    simp only [allOrders, ih]
    cases pOrder z <;> cases allOrders a <;> cases allOrders b <;> rfl
theorem allOrders_take {ps : List Str} {i : Nat} {z : Str} {os : List (List Str)} {cs : List Str} (h : ps[i]? = some z) (h1 : allOrders (ps.take i) = some os) (h2 : pOrder z = some cs) : allOrders (ps.take (i + 1)) = some (os ++ [cs]) := by
  rw [take_s h, allOrders_app, h1]
  simp [allOrders, h2]
theorem allOrders_bad {ps : List Str} {i : Nat} {z : Str} (h : ps[i]? = some z) (h2 : pOrder z = none) : allOrders ps = none := by
  have e : ps = ps.take i ++ z :: ps.drop (i + 1) := by
    have hi := (List.getElem?_eq_some_iff.mp h)
    obtain ⟨hi, hz⟩ := hi
    rw [← hz, List.getElem_cons_drop, List.take_append_drop]
  rw [e, allOrders_app]
  have : allOrders (z :: ps.drop (i + 1)) = none := by simp [allOrders, h2]
  rw [this]
  cases allOrders (ps.take i) <;> rfl
theorem allOrders_len : ∀ {ps : List Str} {os : List (List Str)}, allOrders ps = some os → os.length = ps.length
  | [], os, h => by cases h; rfl
  | z :: ps, os, h => by
    simp only [allOrders] at h
    cases e1 : pOrder z <;> cases e2 : allOrders ps <;> rw [e1, e2] at h <;> cases h
    rw [List.length_cons, List.length_cons, allOrders_len e2]
def stD (s : Str × List (List Str)) : D := .tup (.str s.1 :: s.2.map D.ord)
def pStepD : D → Option (Str × List (List Str))
  | .str x => pStep x
  | _ => none
def spParseStep (C CT : Addr) : Sp := fun vs H Q E => ∃ v d, vs = [v] ∧ Rp C H d v ∧ szOk d ∧
  (∀ st, pStepD d = some st → ∀ o H', Same H H' → Nw C H H' (stD st) (.ref o) → Q (.ref o) H') ∧
  (pStepD d = none → ∀ dd H', H dd = none → Same H H' → H' dd = some (.xd [("value", v)]) → E (.ref CT) (some dd) H')
def tryB : List Stmt → List Stmt
  | [_, _, _, _, .Try l _ _ _ _] => l
  | _ => []
def tStepTry (K : PySem.W.Frag) (C CT : Addr) (W : WX) : TS := tRet (tTup (tCons (tVar 1) (StX.tStar K (fun σ H Q => tLc (iList K (tVar 4)) (gName 5) tYes (tCallS (spParseOrder C CT) (fun _ => fun c d H' => W c d σ H') (tCons (tVar 5) tNil)) [5] σ H Q) tNil)))
section
variable {P : Program} {w : World} {K : PySem.W.Frag} {mg : Str → Option Value} {base : Heap} {C CT : Addr}
theorem Eb.hm {x fld : Str} (ET : Eb P w K mg base x fld C) : mg x = some (.ref C) := let ⟨_, _, e, _⟩ := ET.ex; e.hm
/-- a def that may raise, ready to be called -/
structure Fx (P : Program) (w : World) (K : PySem.W.Frag) (mg : Str → Option Value) (base : Heap) (CX : CXT) (k : Nat) (x : Str) (ps : List Str) (sp : Sp) : Prop where
  ex : ∃ f fd, FnOk P w K mg base CX k f fd ps sp ∧ mg x = some (.ref f) ∧ PySem.W.keepIn K (.ref f) = true ∧ Binds K fd ps []
theorem xcall {X : Cx} {CX : CXT} {k : Nat} {x : Str} {ps : List Str} {sp : Sp} {e : Expr} {es : List Expr} {t : TA} {p pos : Pos} {E : L2.St → XK} (F : Fx X.prog X.w X.K X.mg X.base CX k x ps sp) (hr : Room k X.A) (hx : ∀ σ, PassesAt CX X σ (E σ)) (ha : PA X (e :: es) t) (hg : Gl X x := by rfl) (hdb : (x == ("__debug__" : Str)) = false := by decide)
    (he : starEach (e :: es) X.env = (false, eval e X.env) :: starEach es X.env := by rfl) (hpl : (backTo pos (starEach es X.env)).any (·.1) = false := by rfl) : PE X (.Call (.Name x p) (e :: es) [] pos) (tCallS sp E t) := by
  obtain ⟨f, fd, G, m, kp, b⟩ := F.ex
  exact pe_callS G hr hg m kp b hx ha hdb he hpl
theorem good_try {W : WX} {Dn : Ends} {σ : L2.St} {H3 : Hp} {q : Addr} {ps : List Str} {wd : Str} (h4 : σ[4]? = some (some (.ref q))) (h1 : σ[1]? = some (some (.str wd))) (h5 : 5 < σ.length) (hq : H3 q = some (.lst (ps.map V.str))) (hn : ps.length ≤ 1000) (hps : ∀ z ∈ ps, z.length ≤ 100000)
    (hbad : allOrders ps = none → ∀ d H', Same H3 H' → W (.ref CT) (some d) σ H') (hgood : ∀ os, allOrders ps = some os → ∀ t H', Same H3 H' → Nw C H3 H' (stD (wd, os)) (.ref t) → Dn.rt (.ref t) H') : tStepTry K C CT W Dn σ H3 := by
  have big : sizeLine = 16777216 := sizeLine_eq
  refine ⟨_, h1, _, h4, q, rfl, ⟨_, SqL.of hq⟩, fun L hL => ?_⟩
  have hb : Dom H3 (upd H3 L (.lst [])) := (Dom.refl H3).upd L _
  refine lc_it (walk_list (xs := ps.map V.str)) (fun i H' => Same H3 H' ∧ Dom (upd H3 L (.lst [])) H' ∧ ∃ os vs, allOrders (ps.take i) = some os ∧ H' L = some (.lst vs) ∧ NwL C (upd H3 L (.lst [])) H' (os.map D.ord) vs) ⟨Same.upd' (Same.refl _) hL, Dom.refl _, [], [], rfl, upd_same, .nil⟩ (fun i H' _ p => SqL.of (p.1 _ _ hq)) (fun i x H H' hi p y => ?_) fun H' p => ?_
  · obtain ⟨rfl, hy⟩ := y
    obtain ⟨e, dm, os, vs, ho, hv, hr⟩ := p
    have hi' : i < ps.length := by rw [List.length_map] at hi; exact hi
    have ew : ps[i]? = some ps[i] := List.getElem?_eq_getElem hi'
    rw [List.getElem?_map, ew] at hy
    cases hy
    refine ⟨?_, ?_⟩
    · show ((σ.set 5 none).set 5 _).set 5 none = σ.set 5 none
      rw [List.set_set, List.set_set]
    · refine ⟨V.str ps[i], ?_, ps[i], rfl, hps _ (List.getElem_mem hi'), fun cs hc o H4 e4 no => ?_, fun hno d H4 hd e4 h4' => hbad (allOrders_bad ew hno) d H4 (e.trans e4)⟩
      · show ((σ.set 5 none).set 5 _)[5]? = _
        rw [List.getElem?_set_self (by rw [List.length_set]; exact h5)]
      · have hl : os.length = (ps.take i).length := allOrders_len ho
        have hl2 := hr.rp.len
        rw [List.length_map] at hl2
        rw [List.length_take] at hl
        refine ⟨vs, e4 _ _ hv, by omega, Same.upd' (e.trans e4) hL, (dm.trans (.same e4)).upd L _, os ++ [cs], vs ++ [V.ref o], allOrders_take ew ho hc, upd_same, ?_⟩
        rw [List.map_append]
        exact ((hr.same e4).app (no.up dm).one).wr upd_same
  · obtain ⟨e, dm, os, vs, ho, hv, hr⟩ := p
    rw [List.length_map, List.take_length] at ho
    have hl : os.length = ps.length := allOrders_len ho
    have hl2 := hr.rp.len
    rw [List.length_map] at hl2
    refine ⟨L, vs, rfl, .inr (SqL.of hv), (by show (vs ++ []).length + 1 ≤ sizeLine; rw [List.append_nil]; omega), fun t ht => hgood os ho t _ (Same.upd' e (e.free ht)) ?_⟩
    have x : NwL C H3 H' (D.str wd :: os.map D.ord) (V.str wd :: (vs ++ [])) := by
      rw [List.append_nil]
      exact (Nw.flat (C := C) (d := .str wd) (v := .str wd) rfl).one.app (hr.up hb)
    exact x.tup ht (e.free ht)
theorem ok_parseStep {f : Addr} {fd : FuncData} (F : Fun K "parse_step" "parse_step" sParseStep f fd) (T : Txt K mg C) (IC : IsC K C) (FO : Fx P w K mg base (Out Z0 P w) 5 "parse_order" ["text"] (spParseOrder C CT))
    (ET : Eb P w K mg base "InvalidText" "value" CT) (xT : PySem.W.exmOne K (.ref CT) (.ref CT) = some true) : FnOk P w K mg base (Out Z1 P w) 6 f fd ["text"] (spParseStep C CT) := by
  refine okC F scParseStep (fun vs H Q E h => ?_) (fun cdv A outer s H vs Q E hr h => ?_)
  · obtain ⟨v, d, rfl, _⟩ := h
    rfl
  · obtain ⟨v, d, rfl, hv, hz, k1, k2⟩ := h
    have tk : Tk Z1 (cxOf (Out Z1 P w) P w K mg base ["text", "word", "space", "rest", "parts", "part"] "parse_step" (defScope sParseStep) f cdv A outer s H E) (fun c d _ H => E c d H) := tk_of Z1.ok rfl rfl rfl rfl
    have tk0 := tk.less (Z' := Z1) (Z := Z0) Z0.z1
    have hb : ∀ (W : WX) (pn : List (Addr × Obj)) (xe : Value → Shared → Prop), Tk Z0 ((cxOf (Out Z1 P w) P w K mg base ["text", "word", "space", "rest", "parts", "part"] "parse_step" (defScope sParseStep) f cdv A outer s H E).tr pn xe) W → PassesOwn (model P w) (cxOf (Out Z1 P w) P w K mg base ["text", "word", "space", "rest", "parts", "part"] "parse_step" (defScope sParseStep) f cdv A outer s H E).A (cxOf (Out Z1 P w) P w K mg base ["text", "word", "space", "rest", "parts", "part"] "parse_step" (defScope sParseStep) f cdv A outer s H E).env xe →
       PSs ((cxOf (Out Z1 P w) P w K mg base ["text", "word", "space", "rest", "parts", "part"] "parse_step" (defScope sParseStep) f cdv A outer s H E).tr pn xe) (tryB (defBody sParseStep)) (tStepTry K C CT W) := fun W pn xe tkb _ => pss_one (ps_ret (pe_tup (pa_cons (pv 1) (StX.pa_star (pe_lcX (te := fun E' => tCallS (spParseOrder C CT) (fun _ => E') (tCons (tVar 5) tNil)) (own := [("part", 5)]) (g := gName 5) (tt := tYes) rfl rfl rfl tkb scParseStep.nd (pi_list (pv 4))
            (blkOk_by (N := ["text", "word", "space", "rest", "parts", "part"]) (sc := defScope sParseStep) (by decide +kernel)) (fun _ _ _ _ _ => pg_name (i := 5) scParseStep.nd rfl (Or.inl rfl)) (fun _ _ _ _ _ => pts_nil)
            (fun _ _ _ _ _ _ _ hx => xcall FO hr hx (pa_cons (pv 5) pa_nil))) pa_nil))))
    refine ⟨_, pss_cons (ps_if (pt_not (pt_val (pe_callB call_isi (by rfl) T.isinstance PyProof.Rows.boot_isinstance (pa_cons (pv 0) (pa_cons (pe_bltn (v := .ty "str") (by rfl) T.str (by decide +kernel) rfl) pa_nil)))))
        (pss_one (raise0 (k := 0) ET rfl tk0 (hr.mono (by decide)) (pa_cons (pv 0) pa_nil))) pss_nil)
      (pss_cons (ps_asg (pe_partition (pv 0) pe_str) (pg_tup rfl (pgs_cons (pg_name (i := 1) scParseStep.nd rfl (Or.inl rfl)) (pgs_cons (pg_name (i := 2) scParseStep.nd rfl (Or.inl rfl)) (pgs_cons (pg_name (i := 3) scParseStep.nd rfl (Or.inl rfl)) pgs_nil)))))
      (pss_cons (ps_set (i := 4) scParseStep.nd rfl (Or.inl rfl) (pe_bm PySem.F.plainAttrs_str PySem.F.slot_str_split PySem.F.type_str_split mt_split (pv 3) (pa_cons (pgs T.TOWARDS) pa_nil)))
      (pss_cons (ps_if (PW.pt (pw_or (pt_cmpR op_notIn_seq (pv 1) (pe_tup (pa_cons (pgs T.BUILD) (pa_cons (pgs T.DROP) (pa_cons (pgs T.RELAY) pa_nil)))) (by rfl))
          (pw_or1 (pt_cmpR op_ne (pe_callB call_len (by rfl) T.len PySem.boot_len (pa_cons (pv 4) pa_nil)) (pe_ifExp (pt_cmpR op_eq (pv 1) (pgs T.RELAY) (nomark _)) pe_int pe_int) (nomark _)))))
        (pss_one (raise0 (k := 0) ET rfl tk0 (hr.mono (by decide)) (pa_cons (pv 0) pa_nil))) pss_nil)
      (pss_one (ps_try_all (Z := Z0) (OT := fun Y => Tk Z1 Y (fun c d _ H => E c d H)) (cn := .ref CT) (tb := tStepTry K C CT) (ts := fun _ _ _ => fun _ σ H1 => tMkX CT "value" (tCons (tVar 0) tNil) σ H1 fun c d H' => E c d H') rfl rfl ⟨by rfl, by decide, .inl ET.hm⟩ (L2H.passesAt_of rfl) (taken_tk tk) Z0.ok zb0
        hb
        (fun a oe c d pn hS hN ot => by exact pss_one (raiseN (k := 0) ET (hN rfl) ot ((roomH_mark hr _).mono (by decide)) (pa_cons (pv 0) pa_nil)))))))), ?_⟩
    refine ⟨_, rfl, _, _, _, _, _, rfl, .ty "str", hv.ty IC, kit_str IC d, _, rfl, ?_⟩
    have bad : pStepD d = none → ∀ H2, Same H H2 → ∀ dd, H2 dd = none → E (Value.ref CT) (some dd) (upd H2 dd (.xd [("value", v)])) := fun h H2 e2 dd hdd => k2 h dd _ (e2.free hdd) (Same.upd' e2 (e2.free hdd)) upd_same
    cases hs : isStr d with
    | false =>
      refine ifT rfl ⟨_, rfl, _, rfl, bad ?_ H (Same.refl H)⟩
      cases d <;> first | rfl | cases hs
    | true =>
      obtain ⟨x, rfl⟩ : ∃ x, d = .str x := by cases d <;> first | exact ⟨_, rfl⟩ | cases hs
      obtain rfl : v = .str x := hv
      have hz' : x.length ≤ 100000 := hz
      have big : sizeLine = 16777216 := sizeLine_eq
      refine ifF rfl ⟨_, rfl, ⟨_, rfl⟩, x, blank, rfl, rfl, rfl, by omega, fun p hp => ⟨p, _, rfl, SqT.of upd_same, rfl, _, _, rfl, _, _, rfl, _, _, rfl, rfl, ?_⟩⟩
      have e1 : Same H (upd H p (.tup [.str (Txt.partition x blank).1, .str (Txt.partition x blank).2.1, .str (Txt.partition x blank).2.2])) := Same.upd' (Same.refl H) hp
      generalize upd H p (.tup [.str (Txt.partition x blank).1, .str (Txt.partition x blank).2.1, .str (Txt.partition x blank).2.2]) = H1 at e1 ⊢
      have hrest : (Txt.partition x blank).2.2.length ≤ x.length := by
        have h := congrArg Str.length (StrLaws.partition_sum x blank)
        rw [Str.length_append, Str.length_append] at h
        omega
      refine ⟨_, rfl, rfl, _, _, rfl, rfl, rfl, by omega, fun q hq => ?_⟩
      have hq1 : upd H1 q (.lst ((Txt.split (Txt.partition x blank).2.2 towards).map V.str)) q = some (.lst ((Txt.split (Txt.partition x blank).2.2 towards).map V.str)) := upd_same
      have e2 : Same H (upd H1 q (.lst ((Txt.split (Txt.partition x blank).2.2 towards).map V.str))) := Same.upd' e1 (e1.free hq)
      show gName 4 _ _ (upd H1 q (.lst ((Txt.split (Txt.partition x blank).2.2 towards).map V.str))) _
      generalize upd H1 q (.lst ((Txt.split (Txt.partition x blank).2.2 towards).map V.str)) = H2 at hq1 e2 ⊢
      have hps : ∀ z ∈ Txt.split (Txt.partition x blank).2.2 towards, z.length ≤ 100000 := fun z hz => Nat.le_trans (split_part (by decide) hz) (by omega)
      have pS : pStep x = if isWord (Txt.partition x blank).1 && decide ((Txt.split (Txt.partition x blank).2.2 towards).length = if (Txt.partition x blank).1 = sRelay then 2 else 1) then (allOrders (Txt.split (Txt.partition x blank).2.2 towards)).map fun os => ((Txt.partition x blank).1, os) else none := rfl
      generalize (Txt.partition x blank).1 = wd at pS ⊢
      generalize (Txt.partition x blank).2.1 = sp
      generalize Txt.split (Txt.partition x blank).2.2 towards = ps at hps pS hq1 ⊢
      refine ⟨_, rfl, (by show 3 ≤ sizeLine; omega), fun t ht => ⟨t, _, rfl, .inr (SqT.of upd_same), rfl, rfl, _, rfl, ?_⟩⟩
      have e3 : Same H (upd H2 t (.tup [.str "build", .str "drop", .str "relay"])) := Same.upd' e2 (e2.free ht)
      have hq2 : upd H2 t (.tup [.str "build", .str "drop", .str "relay"]) q = some (.lst (ps.map V.str)) := by rw [upd_ne (ne_of_none hq1 ht)]; exact hq1
      generalize upd H2 t (.tup [.str "build", .str "drop", .str "relay"]) = H3 at hq2 e3 ⊢
      refine ifB (fun c => ?_) fun c => ?_
      · have c : (!inV (.str wd) [.str "build", .str "drop", .str "relay"]) = true := c
        rw [inW] at c
        have c1 : isWord wd = false := by simpa using c
        exact ifT rfl ⟨_, rfl, _, rfl, bad (by show pStep x = none; rw [pS, c1]; rfl) H3 e3⟩
      · have c : (!inV (.str wd) [.str "build", .str "drop", .str "relay"]) = false := c
        rw [inW] at c
        have c1 : isWord wd = true := by simpa using c
        have hlen : ((ps.map V.str).length : Int) = (ps.length : Int) := by rw [List.length_map]
        have fin : ∀ k : Nat, k = (if wd = sRelay then 2 else 1) → (!decide (V.int (((ps.map V.str).length : Nat) : Int) = V.int (k : Int))) = !decide (ps.length = if wd = sRelay then 2 else 1) := fun k hk => by
          rw [hlen, dec_int, ← hk]
          have h : ((ps.length : Int) == (k : Int)) = decide (ps.length = k) := by
            rw [Bool.eq_iff_iff, beq_iff_eq, decide_eq_true_iff]
            omega
          rw [h]
        have dw : decide (V.str wd = V.str "relay") = decide (wd = sRelay) := by
          rw [Bool.eq_iff_iff, decide_eq_true_iff, decide_eq_true_iff]
          exact ⟨fun e => V.str.inj e, fun e => congrArg V.str e⟩
        have notOk : ∀ k : Nat, k = (if wd = sRelay then 2 else 1) → (!decide (V.int (((ps.map V.str).length : Nat) : Int) = V.int (k : Int))) = true → pStepD (.str x) = none := fun k hk c4 => by
          rw [fin k hk] at c4
          have c5 : decide (ps.length = if wd = sRelay then 2 else 1) = false := by simpa using c4
          show pStep x = none
          rw [pS, c1, c5]
          rfl
        have good : ∀ k : Nat, k = (if wd = sRelay then 2 else 1) → (!decide (V.int (((ps.map V.str).length : Nat) : Int) = V.int (k : Int))) = false → ps.length ≤ 2 ∧ pStep x = (allOrders ps).map fun os => (wd, os) := fun k hk c4 => by
          rw [fin k hk] at c4
          have c5 : decide (ps.length = if wd = sRelay then 2 else 1) = true := by simpa using c4
          refine ⟨?_, by rw [pS, c1, c5]; rfl⟩
          have c6 := of_decide_eq_true c5
          rw [c6]
          split <;> decide
        refine ⟨_, rfl, _, _, rfl, .inl ⟨_, SqL.of hq2, rfl⟩, _, rfl, rfl, _, rfl, ?_⟩
        refine ifB (fun c3 => ?_) fun c3 => ?_
        · have hk : 2 = (if wd = sRelay then 2 else 1) := by
            have c3 : decide (V.str wd = V.str "relay") = true := c3
            rw [dw] at c3
            rw [if_pos (of_decide_eq_true c3)]
          refine ⟨rfl, _, rfl, ifB (fun c4 => ?_) fun c4 => ?_⟩
          · exact ⟨_, rfl, _, rfl, bad (notOk 2 hk c4) H3 e3⟩
          · obtain ⟨l2, pg⟩ := good 2 hk c4
            refine good_try rfl rfl (by show 5 < 6; decide) hq2 (by omega) hps (fun hno dd H4 e4 => ⟨xT, fun a ha => ⟨_, rfl, _, rfl, fun d2 hd2 => bad ?_ H4 (e3.trans e4) d2 hd2⟩⟩) fun os ho t H4 e4 nw => k1 _ ?_ t H4 (e3.trans e4) (nw.up (.same e3))
            · show pStep x = none; rw [pg, hno]; rfl
            · show pStep x = some _; rw [pg, ho]; rfl
        · have hk : 1 = (if wd = sRelay then 2 else 1) := by
            have c3 : decide (V.str wd = V.str "relay") = false := c3
            rw [dw] at c3
            rw [if_neg (of_decide_eq_false c3)]
          refine ⟨rfl, _, rfl, ifB (fun c4 => ?_) fun c4 => ?_⟩
          · exact ⟨_, rfl, _, rfl, bad (notOk 1 hk c4) H3 e3⟩
          · obtain ⟨l2, pg⟩ := good 1 hk c4
            refine good_try rfl rfl (by show 5 < 6; decide) hq2 (by omega) hps (fun hno dd H4 e4 => ⟨xT, fun a ha => ⟨_, rfl, _, rfl, fun d2 hd2 => bad ?_ H4 (e3.trans e4) d2 hd2⟩⟩) fun os ho t H4 e4 nw => k1 _ ?_ t H4 (e3.trans e4) (nw.up (.same e3))
            · show pStep x = none; rw [pg, hno]; rfl
            · show pStep x = some _; rw [pg, ho]; rfl
end
end SO
end
section
/-! k78, part P5: steps_text -/
set_option maxHeartbeats 4000000
namespace SO
open PySem PySem.Spec PyProof.Rows L2 LamX XF HotX L2H

theorem scStepsText : FnScope ["steps", "step"] ["steps"] (defScope sStepsText) := ⟨rfl, rfl, rfl, by decide +kernel, rfl, by decide +kernel, by decide +kernel⟩
def itemsD : D → List D
  | .lst ds => ds
  | .tup ds => ds
  | _ => []
def stepsOk (d : D) : Bool := isLT d && decide ((itemsD d).length ≤ 100) && (itemsD d).all isStep
def nl : Str := "\n"
def stepsText (d : D) : Str := Txt.join nl ((itemsD d).map stepText)
def spStepsText (C CS : Addr) : Sp := fun vs H Q E => ∃ v d, vs = [v] ∧ Rp C H d v ∧ (∀ x ∈ itemsD d, stOk x) ∧ (stepsOk d = true → ∀ H', Same H H' → Q (.str (stepsText d)) H') ∧
  (stepsOk d = false → ∀ dd H', H dd = none → Same H H' → H' dd = some (.xd [("value", v)]) → E (.ref CS) (some dd) H')
theorem passF {Z : ZT} {X : Cx} {P : Program} {w : World} {σ : L2.St} : PassesAt (Out Z P w) X σ (fun _ _ _ => False) := fun _ _ _ _ _ _ c => let ⟨_, _, _, _, _, _, _, _, _, _, _, _, f⟩ := c; f.elim
theorem all_map_id {α : Type} (f : α → Bool) (l : List α) : (l.map f).all id = l.all f := by rw [List.all_map]; rfl
theorem range_get {α β : Type} (l : List α) (f : α → β) (z : β) : (List.range l.length).map (fun i => (l[i]?.elim z f)) = l.map f := by
  refine List.ext_getElem (by simp) fun i a b => ?_
  have hi' : i < l.length := by simpa using a
  simp [List.getElem?_eq_getElem hi']
theorem stepText_len {d : D} (h : isStep d = true) (hk : stOk d) : (stepText d).length ≤ 102 := by
  obtain ⟨x, ds, rfl, ho, hw⟩ := isStep_inv h
  have hx : x.length ≤ 5 := by
    rcases hw with ⟨_, rfl | rfl⟩ | ⟨_, rfl⟩
    · exact Nat.le_of_eq rfl
    · exact (by decide : 4 ≤ 5)
    · exact Nat.le_of_eq rfl
  have l12 : ds.length ≤ 2 := by rcases hw with ⟨e, _⟩ | ⟨e, _⟩ <;> omega
  have hlen : ∀ z ∈ ds.map ordText, z.length ≤ 45 := fun z hz => by
    obtain ⟨dd, hd, rfl⟩ := List.mem_map.mp hz
    have od := List.all_eq_true.mp ho dd hd
    obtain ⟨cs, rfl⟩ : ∃ cs, dd = .ord cs := by cases dd <;> first | exact ⟨_, rfl⟩ | cases od
    exact ordText_len (hk cs (List.mem_cons_of_mem _ hd))
  have hsum := sum_le _ 45 hlen
  have hj : (Txt.join towards (ds.map ordText)).length ≤ ((ds.map ordText).map (·.length)).sum + (ds.map ordText).length * towards.length := by rw [TL.join_eq]; exact StrLaws.join_length_le towards (ds.map ordText)
  have e3' : towards.length = 3 := rfl
  rw [List.length_map, e3'] at hj
  rw [List.length_map] at hsum
  show (((Str.empty ++ x) ++ blank) ++ Txt.join towards (ds.map ordText)).length ≤ 102
  rw [Str.length_append, Str.length_append, Str.length_append]
  have e0 : Str.empty.length = 0 := rfl
  have e2 : blank.length = 1 := rfl
  omega
section
variable {P : Program} {w : World} {K : PySem.W.Frag} {mg : Str → Option Value} {base : Heap} {C CS : Addr}
theorem ok_stepsText {f : Addr} {fd : FuncData} (F : Fun K "steps_text" "steps_text" sStepsText f fd) (T : Txt K mg C) (FL : Fk P w K mg base CX0 1 "is_list" ["value"] (spIsList C)) (FS : Fk P w K mg base CX0 1 "is_step" ["value"] (spIsStep C))
    (FT : Fx P w K mg base (Out Z0 P w) 4 "step_text" ["step"] (spStepText C CS)) (ET : Eb P w K mg base "InvalidSteps" "value" CS) : FnOk P w K mg base (Out Z0 P w) 5 f fd ["steps"] (spStepsText C CS) := by
  refine okC F scStepsText (fun vs H Q E h => ?_) (fun cdv A outer s H vs Q E hr h => ?_)
  · obtain ⟨v, d, rfl, _⟩ := h
    rfl
  · obtain ⟨v, d, rfl, hv, hk, k1, k2⟩ := h
    have bad : stepsOk d = false → ∀ H2, Same H H2 → ∀ dd, H2 dd = none → E (Value.ref CS) (some dd) (upd H2 dd (.xd [("value", v)])) := fun h H2 e2 dd hdd => k2 h dd _ (e2.free hdd) (Same.upd' e2 (e2.free hdd)) upd_same
    have big : sizeLine = 16777216 := sizeLine_eq
    by_cases hlt : isLT d = true
    · by_cases htup : isTup d = true
      · obtain ⟨ds, rfl⟩ : ∃ ds, d = .tup ds := by cases d <;> first | exact ⟨_, rfl⟩ | (exfalso; simp_all [isTup, isLT])
        refine ⟨_, pss_cons (ps_if (PW.pt (pw_or (pt_not (pt_val (pcall FL (hr.mono (by decide)) (pa_cons (pv 0) pa_nil)))) (pw_or (pt_cmpR op_gt (pe_callB call_len (by rfl) T.len PySem.boot_len (pa_cons (pv 0) pa_nil)) (pgi T.MOST_STEPS) (nomark _))
          (pw_or1 (pt_not (pt_val (pe_callB (cr_all rfl) (by rfl) T.all PyProof.Rows.boot_all (pa_cons
            (pe_lc (own := [("step", 1)]) (g := gName 1) (tt := tYes) rfl scStepsText.nd (pi_tup (pv 0)) (blkOk_by (N := ["steps", "step"]) (sc := defScope sStepsText) (by decide +kernel))
              (fun _ _ _ _ _ => pg_name (i := 1) scStepsText.nd rfl (Or.inl rfl)) (fun _ _ _ _ _ => pts_nil) (fun _ _ _ _ _ => pcall FS (hr.mono (by decide)) (pa_cons (pv 1) pa_nil))) pa_nil))))))))
        (pss_one (raise0 (k := 0) ET rfl (tk_of Z0.ok rfl rfl rfl rfl) (hr.mono (by decide)) (pa_cons (pv 0) pa_nil))) pss_nil)
      (pss_one (ps_ret (pe_bm PySem.F.plainAttrs_str PySem.F.slot_str_join PySem.F.type_str_join mt_join pe_str (pa_cons
        (pe_lc (te := tCallS (spStepText C CS) (fun _ _ _ _ => False) (tCons (tVar 1) tNil)) (own := [("step", 1)]) (g := gName 1) (tt := tYes) rfl scStepsText.nd (pi_tup (pv 0)) (blkOk_by (N := ["steps", "step"]) (sc := defScope sStepsText) (by decide +kernel))
              (fun _ _ _ _ _ => pg_name (i := 1) scStepsText.nd rfl (Or.inl rfl)) (fun _ _ _ _ _ => pts_nil) (fun _ _ _ _ _ => xcall FT (hr.mono (by decide)) (fun _ => passF) (pa_cons (pv 1) pa_nil))) pa_nil)))), ?_⟩
        obtain ⟨a, vs, rfl, ha, rr⟩ := id hv
        have lr : vs.length = ds.length := rr.len
        refine ⟨_, rfl, _, _, rfl, hv, fun H1 e1 => ⟨_, rfl, ifF rfl ?_⟩⟩
        have a1 := e1 _ _ ha
        refine ⟨_, rfl, _, _, rfl, .inr ⟨_, SqT.of a1, rfl⟩, _, _, rfl, rfl, _, rfl, ifB (fun c => ?_) fun c => ?_⟩
        · have c : decide ((100 : Int) < (vs.length : Int)) = true := c
          have c2 := of_decide_eq_true c
          refine ifT rfl ⟨_, rfl, _, rfl, bad ?_ H1 e1⟩
          have : ¬ ds.length ≤ 100 := by omega
          simp [stepsOk, itemsD, this]
        · have c : decide ((100 : Int) < (vs.length : Int)) = false := c
          have c2 := of_decide_eq_false c
          have l100 : ds.length ≤ 100 := by omega
          refine ⟨_, rfl, a, rfl, ⟨_, SqT.of a1⟩, fun L hL => lc_flatY (walk_tup (xs := vs)) (fun i => .bl (ds[i]?.elim false isStep)) (by omega) hL (fun H2 e2 => SqT.of (e2 _ _ a1)) gName_mono (fun i y H2 H3 hi e y' => ?_) fun H2 e2 h2 => ?_⟩
          · obtain ⟨rfl, hy⟩ := y'
            obtain ⟨dd, hd, rd⟩ := rr.get' hy
            refine ⟨rfl, fun N1 n1 => ⟨_, rfl, _, dd, rfl, rd.mono (e1.trans e), fun H5 e5 => ?_⟩⟩
            have q := n1 H5 e5
            rw [hd] at q
            exact q
          · have e3 : Same H H2 := e1.trans e2
            refine ⟨L, ds.map isStep, rfl, .of ?_, ?_⟩
            · rw [h2, lr, List.map_map]
              congr 2
              have := range_get ds (fun x => V.bl (isStep x)) (V.bl false)
              rw [show (V.bl ∘ isStep) = fun x => V.bl (isStep x) from rfl, ← this]
              refine List.map_congr_left fun i _ => ?_
              cases ds[i]? <;> rfl
            · rw [all_map_id]
              refine ⟨_, rfl, ifB (fun c5 => ?_) fun c5 => ?_⟩
              · have c5 : (!ds.all isStep) = true := c5
                refine ⟨_, rfl, _, rfl, bad ?_ H2 e3⟩
                simp only [Bool.not_eq_true'] at c5
                simp [stepsOk, itemsD, c5]
              · have c5 : ds.all isStep = true := by have c5 : (!ds.all isStep) = false := c5; simpa using c5
                have ok : stepsOk (.tup ds) = true := by simp [stepsOk, isLT, itemsD, l100, c5]
                have a2 := e3 _ _ ha
                refine ⟨rfl, _, rfl, a, rfl, ⟨_, SqT.of a2⟩, fun L2 hL2 => lc_flatY (walk_tup (xs := vs)) (fun i => .str (ds[i]?.elim Str.empty stepText)) (by omega) hL2 (fun H3 e4 => SqT.of (e4 _ _ a2)) gName_mono (fun i y H3 H4 hi e y' => ?_) fun H3 e4 h3 => ?_⟩
                · obtain ⟨rfl, hy⟩ := y'
                  obtain ⟨dd, hd, rd⟩ := rr.get' hy
                  have is := List.all_eq_true.mp c5 dd (List.mem_of_getElem? hd)
                  refine ⟨rfl, fun N1 n1 => ⟨_, rfl, _, dd, rfl, rd.mono (e3.trans e), hk dd (List.mem_of_getElem? hd), fun _ H5 e5 => ?_, fun no => ?_⟩⟩
                  · have q := n1 H5 e5
                    rw [hd] at q
                    exact q
                  · rw [is] at no; cases no
                · have hl : (List.range vs.length).map (fun i => V.str (ds[i]?.elim Str.empty stepText)) = (ds.map stepText).map V.str := by
                    rw [lr, ← range_get ds stepText Str.empty, List.map_map]
                    rfl
                  rw [hl] at h3
                  have hlen : ∀ z ∈ ds.map stepText, z.length ≤ 102 := fun z hz => by
                    obtain ⟨dd, hd, rfl⟩ := List.mem_map.mp hz
                    exact stepText_len (List.all_eq_true.mp c5 dd hd) (hk dd hd)
                  have hsum := sum_le _ 102 hlen
                  rw [List.length_map] at hsum
                  refine ⟨_, L2, ds.map stepText, rfl, rfl, .inl (SqL.of h3), ?_, k1 ok H3 (e3.trans e4)⟩
                  show _ + _ * nl.length ≤ _
                  have : nl.length = 1 := rfl
                  rw [this, List.length_map]
                  omega
      · obtain ⟨ds, rfl⟩ : ∃ ds, d = .lst ds := by cases d <;> first | exact ⟨_, rfl⟩ | (exfalso; simp_all [isTup, isLT])
        refine ⟨_, pss_cons (ps_if (PW.pt (pw_or (pt_not (pt_val (pcall FL (hr.mono (by decide)) (pa_cons (pv 0) pa_nil)))) (pw_or (pt_cmpR op_gt (pe_callB call_len (by rfl) T.len PySem.boot_len (pa_cons (pv 0) pa_nil)) (pgi T.MOST_STEPS) (nomark _))
          (pw_or1 (pt_not (pt_val (pe_callB (cr_all rfl) (by rfl) T.all PyProof.Rows.boot_all (pa_cons
            (pe_lc (own := [("step", 1)]) (g := gName 1) (tt := tYes) rfl scStepsText.nd (pi_list (pv 0)) (blkOk_by (N := ["steps", "step"]) (sc := defScope sStepsText) (by decide +kernel))
              (fun _ _ _ _ _ => pg_name (i := 1) scStepsText.nd rfl (Or.inl rfl)) (fun _ _ _ _ _ => pts_nil) (fun _ _ _ _ _ => pcall FS (hr.mono (by decide)) (pa_cons (pv 1) pa_nil))) pa_nil))))))))
        (pss_one (raise0 (k := 0) ET rfl (tk_of Z0.ok rfl rfl rfl rfl) (hr.mono (by decide)) (pa_cons (pv 0) pa_nil))) pss_nil)
      (pss_one (ps_ret (pe_bm PySem.F.plainAttrs_str PySem.F.slot_str_join PySem.F.type_str_join mt_join pe_str (pa_cons
        (pe_lc (te := tCallS (spStepText C CS) (fun _ _ _ _ => False) (tCons (tVar 1) tNil)) (own := [("step", 1)]) (g := gName 1) (tt := tYes) rfl scStepsText.nd (pi_list (pv 0)) (blkOk_by (N := ["steps", "step"]) (sc := defScope sStepsText) (by decide +kernel))
              (fun _ _ _ _ _ => pg_name (i := 1) scStepsText.nd rfl (Or.inl rfl)) (fun _ _ _ _ _ => pts_nil) (fun _ _ _ _ _ => xcall FT (hr.mono (by decide)) (fun _ => passF) (pa_cons (pv 1) pa_nil))) pa_nil)))), ?_⟩
        obtain ⟨a, vs, rfl, ha, rr⟩ := id hv
        have lr : vs.length = ds.length := rr.len
        refine ⟨_, rfl, _, _, rfl, hv, fun H1 e1 => ⟨_, rfl, ifF rfl ?_⟩⟩
        have a1 := e1 _ _ ha
        refine ⟨_, rfl, _, _, rfl, .inl ⟨_, SqL.of a1, rfl⟩, _, _, rfl, rfl, _, rfl, ifB (fun c => ?_) fun c => ?_⟩
        · have c : decide ((100 : Int) < (vs.length : Int)) = true := c
          have c2 := of_decide_eq_true c
          refine ifT rfl ⟨_, rfl, _, rfl, bad ?_ H1 e1⟩
          have : ¬ ds.length ≤ 100 := by omega
          simp [stepsOk, itemsD, this]
        · have c : decide ((100 : Int) < (vs.length : Int)) = false := c
          have c2 := of_decide_eq_false c
          have l100 : ds.length ≤ 100 := by omega
          refine ⟨_, rfl, a, rfl, ⟨_, SqL.of a1⟩, fun L hL => lc_flatY (walk_list (xs := vs)) (fun i => .bl (ds[i]?.elim false isStep)) (by omega) hL (fun H2 e2 => SqL.of (e2 _ _ a1)) gName_mono (fun i y H2 H3 hi e y' => ?_) fun H2 e2 h2 => ?_⟩
          · obtain ⟨rfl, hy⟩ := y'
            obtain ⟨dd, hd, rd⟩ := rr.get' hy
            refine ⟨rfl, fun N1 n1 => ⟨_, rfl, _, dd, rfl, rd.mono (e1.trans e), fun H5 e5 => ?_⟩⟩
            have q := n1 H5 e5
            rw [hd] at q
            exact q
          · have e3 : Same H H2 := e1.trans e2
            refine ⟨L, ds.map isStep, rfl, .of ?_, ?_⟩
            · rw [h2, lr, List.map_map]
              congr 2
              have := range_get ds (fun x => V.bl (isStep x)) (V.bl false)
              rw [show (V.bl ∘ isStep) = fun x => V.bl (isStep x) from rfl, ← this]
              refine List.map_congr_left fun i _ => ?_
              cases ds[i]? <;> rfl
            · rw [all_map_id]
              refine ⟨_, rfl, ifB (fun c5 => ?_) fun c5 => ?_⟩
              · have c5 : (!ds.all isStep) = true := c5
                refine ⟨_, rfl, _, rfl, bad ?_ H2 e3⟩
                simp only [Bool.not_eq_true'] at c5
                simp [stepsOk, itemsD, c5]
              · have c5 : ds.all isStep = true := by have c5 : (!ds.all isStep) = false := c5; simpa using c5
                have ok : stepsOk (.lst ds) = true := by simp [stepsOk, isLT, itemsD, l100, c5]
                have a2 := e3 _ _ ha
                refine ⟨rfl, _, rfl, a, rfl, ⟨_, SqL.of a2⟩, fun L2 hL2 => lc_flatY (walk_list (xs := vs)) (fun i => .str (ds[i]?.elim Str.empty stepText)) (by omega) hL2 (fun H3 e4 => SqL.of (e4 _ _ a2)) gName_mono (fun i y H3 H4 hi e y' => ?_) fun H3 e4 h3 => ?_⟩
                · obtain ⟨rfl, hy⟩ := y'
                  obtain ⟨dd, hd, rd⟩ := rr.get' hy
                  have is := List.all_eq_true.mp c5 dd (List.mem_of_getElem? hd)
                  refine ⟨rfl, fun N1 n1 => ⟨_, rfl, _, dd, rfl, rd.mono (e3.trans e), hk dd (List.mem_of_getElem? hd), fun _ H5 e5 => ?_, fun no => ?_⟩⟩
                  · have q := n1 H5 e5
                    rw [hd] at q
                    exact q
                  · rw [is] at no; cases no
                · have hl : (List.range vs.length).map (fun i => V.str (ds[i]?.elim Str.empty stepText)) = (ds.map stepText).map V.str := by
                    rw [lr, ← range_get ds stepText Str.empty, List.map_map]
                    rfl
                  rw [hl] at h3
                  have hlen : ∀ z ∈ ds.map stepText, z.length ≤ 102 := fun z hz => by
                    obtain ⟨dd, hd, rfl⟩ := List.mem_map.mp hz
                    exact stepText_len (List.all_eq_true.mp c5 dd hd) (hk dd hd)
                  have hsum := sum_le _ 102 hlen
                  rw [List.length_map] at hsum
                  refine ⟨_, L2, ds.map stepText, rfl, rfl, .inl (SqL.of h3), ?_, k1 ok H3 (e3.trans e4)⟩
                  show _ + _ * nl.length ≤ _
                  have : nl.length = 1 := rfl
                  rw [this, List.length_map]
                  omega
    · have no : isLT d = false := by simpa using hlt
      refine ⟨_, pss_cons (ps_if (PW.pt (pw_or (pt_not (pt_val (pcall FL (hr.mono (by decide)) (pa_cons (pv 0) pa_nil)))) (pw_or (pt_cmpR op_gt (pe_callB call_len (by rfl) T.len PySem.boot_len (pa_cons (pv 0) pa_nil)) (pgi T.MOST_STEPS) (nomark _))
          (pw_or1 (pt_not (pt_val (pe_callB (cr_all rfl) (by rfl) T.all PyProof.Rows.boot_all (pa_cons
            (pe_lc (own := [("step", 1)]) (g := gName 1) (tt := tYes) rfl scStepsText.nd (pi_list (pv 0)) (blkOk_by (N := ["steps", "step"]) (sc := defScope sStepsText) (by decide +kernel))
              (fun _ _ _ _ _ => pg_name (i := 1) scStepsText.nd rfl (Or.inl rfl)) (fun _ _ _ _ _ => pts_nil) (fun _ _ _ _ _ => pcall FS (hr.mono (by decide)) (pa_cons (pv 1) pa_nil))) pa_nil))))))))
        (pss_one (raise0 (k := 0) ET rfl (tk_of Z0.ok rfl rfl rfl rfl) (hr.mono (by decide)) (pa_cons (pv 0) pa_nil))) pss_nil)
      (pss_one (ps_ret (pe_bm PySem.F.plainAttrs_str PySem.F.slot_str_join PySem.F.type_str_join mt_join pe_str (pa_cons
        (pe_lc (te := tCallS (spStepText C CS) (fun _ _ _ _ => False) (tCons (tVar 1) tNil)) (own := [("step", 1)]) (g := gName 1) (tt := tYes) rfl scStepsText.nd (pi_list (pv 0)) (blkOk_by (N := ["steps", "step"]) (sc := defScope sStepsText) (by decide +kernel))
              (fun _ _ _ _ _ => pg_name (i := 1) scStepsText.nd rfl (Or.inl rfl)) (fun _ _ _ _ _ => pts_nil) (fun _ _ _ _ _ => xcall FT (hr.mono (by decide)) (fun _ => passF) (pa_cons (pv 1) pa_nil))) pa_nil)))), ?_⟩
      refine ⟨_, rfl, _, _, rfl, hv, fun H1 e1 => ⟨_, rfl, ?_⟩⟩
      rw [no]
      refine ifT rfl (ifT rfl ⟨_, rfl, _, rfl, bad ?_ H1 e1⟩)
      simp [stepsOk, no]
end
end SO
end
section
/-! k78, part P6: parse_steps -/
set_option maxHeartbeats 4000000
namespace SO
open PySem PySem.Spec PyProof.Rows L2 LamX XF HotX L2H

theorem scParseSteps : FnScope ["text", "found", "index", "line"] ["text"] (defScope sParseSteps) := ⟨rfl, rfl, rfl, by decide +kernel, rfl, by decide +kernel, by decide +kernel⟩
/-- the steps of the lines, or the line that fails -/
def dueL {α : Type} (rd : Str → Option α) : Nat → List Str → Sum Nat (List α)
  | _, [] => .inr []
  | i, l :: ls => if i = 100 then .inl i else match rd l with
    | none => .inl i
    | some s => match dueL rd (i + 1) ls with
      | .inl k => .inl k
      | .inr r => .inr (s :: r)
def linesOf (x : Str) : List Str := if x = Str.empty then [] else Txt.split x nl
def pSteps (x : Str) : Sum Nat (List (Str × List (List Str))) := dueL pStep 0 (linesOf x)
def allS {α : Type} (rd : Str → Option α) : List Str → Option (List α)
  | [] => some []
  | l :: ls => match rd l, allS rd ls with
    | some s, some r => some (s :: r)
    | _, _ => none
theorem dueL_app {α : Type} {rd : Str → Option α} : ∀ (a b : List Str) (k : Nat) (sts : List α), allS rd a = some sts → k + a.length ≤ 100 → dueL rd k (a ++ b) = match dueL rd (k + a.length) b with
    | .inl j => .inl j
    | .inr r => .inr (sts ++ r)
  | [], b, k, sts, h, hl => by
    cases h
    show dueL rd k b = _
    rw [List.length_nil, Nat.add_zero]
    cases dueL rd k b <;> rfl
  | l :: a, b, k, sts, h, hl => by
    simp only [allS] at h
    cases e1 : rd l with
    | none => rw [e1] at h; cases h
    | some s =>
      cases e2 : allS rd a with
      | none => rw [e1, e2] at h; cases h
      | some r =>
        rw [e1, e2] at h
        cases h
        rw [List.length_cons] at hl
        have ih := dueL_app a b (k + 1) r e2 (by omega)
        rw [List.cons_append, dueL, if_neg (by omega), e1]
        simp only []
        rw [ih, List.length_cons, show k + (a.length + 1) = k + 1 + a.length by omega]
        cases dueL rd (k + 1 + a.length) b <;> rfl
theorem allS_len {α : Type} {rd : Str → Option α} : ∀ {a : List Str} {sts : List α}, allS rd a = some sts → sts.length = a.length
  | [], _, h => by cases h; rfl
  | l :: a, sts, h => by
    simp only [allS] at h
    cases e1 : rd l <;> cases e2 : allS rd a <;> rw [e1, e2] at h <;> cases h
    rw [List.length_cons, List.length_cons, allS_len e2]
theorem allS_app {α : Type} {rd : Str → Option α} (a b : List Str) : allS rd (a ++ b) = match allS rd a, allS rd b with
    | some x, some y => some (x ++ y)
    | _, _ => none := by
  induction a with
  | nil => simp [allS]; cases allS rd b <;> rfl
  | cons z a ih =>
    rw [List.cons_append]
    simp only [allS, ih]
    cases rd z <;> cases allS rd a <;> cases allS rd b <;> rfl
theorem cut_at {ls : List Str} {i : Nat} {z : Str} (h : ls[i]? = some z) : ls = ls.take i ++ z :: ls.drop (i + 1) := by
  obtain ⟨hi, hz⟩ := List.getElem?_eq_some_iff.mp h
  rw [← hz, List.getElem_cons_drop, List.take_append_drop]
theorem due_bad {α : Type} {rd : Str → Option α} {ls : List Str} {i : Nat} {z : Str} {sts : List α} (h : ls[i]? = some z) (ha : allS rd (ls.take i) = some sts) (hi : i ≤ 100) (hb : i = 100 ∨ rd z = none) : dueL rd 0 ls = .inl i := by
  have hl : (ls.take i).length = i := by
    have := (List.getElem?_eq_some_iff.mp h).1
    rw [List.length_take]
    omega
  rw [cut_at h, dueL_app _ _ 0 sts ha (by omega), hl, Nat.zero_add, dueL]
  by_cases e : i = 100
  · rw [if_pos e]
  · rw [if_neg e]
    rcases hb with hb | hb
    · exact absurd hb e
    · rw [hb]
theorem due_ok {α : Type} {rd : Str → Option α} {ls : List Str} {sts : List α} (ha : allS rd ls = some sts) (hi : ls.length ≤ 100) : dueL rd 0 ls = .inr sts := by
  have := dueL_app ls [] 0 sts ha (by omega)
  rw [List.append_nil] at this
  rw [this]
  show Sum.inr (sts ++ []) = _
  rw [List.append_nil]
theorem allS_take {α : Type} {rd : Str → Option α} {ls : List Str} {i : Nat} {z : Str} {sts : List α} {s : α} (h : ls[i]? = some z) (h1 : allS rd (ls.take i) = some sts) (h2 : rd z = some s) : allS rd (ls.take (i + 1)) = some (sts ++ [s]) := by
  rw [take_s h, allS_app, h1]
  simp [allS, h2]
def spParseSteps (C CT CI : Addr) : Sp := fun vs H Q E => ∃ v d, vs = [v] ∧ Rp C H d v ∧ szOk d ∧
  (∀ x sts, d = .str x → pSteps x = .inr sts → ∀ o ws H', H o = none → Same H H' → H' o = some (.lst ws) → NwL C (upd H o (.lst [])) H' (sts.map stD) ws → Q (.ref o) H') ∧
  (∀ x k, d = .str x → pSteps x = .inl k → ∀ dd H', H dd = none → Same H H' → H' dd = some (.xd [("index", .int (k : Nat))]) → E (.ref CI) (some dd) H') ∧
  (isStr d = false → ∀ dd H', H dd = none → Same H H' → H' dd = some (.xd [("value", v)]) → E (.ref CT) (some dd) H')
def tryB6 : List Stmt → List Stmt
  | [_, _, .For _ _ [_, .Try l _ _ _ _] _ _, _] => l
  | _ => []
def tFoundTry (K : PySem.W.Frag) (C CT : Addr) (W : WX) : TS := tDrop (tBM K "list" rAppend (tVar 1) (tCons (tCallS (spParseStep C CT) (fun σ => WE W σ) (tCons (tVar 3) tNil)) tNil))
section
variable {P : Program} {w : World} {K : PySem.W.Frag} {mg : Str → Option Value} {base : Heap} {C CT CI : Addr}
theorem loop6 {Dn Db : Ends} {a fo : Addr} {x : Str} {H0 H1 : Hp} {ls : List Str} {E : XK} (xT : PySem.W.exmOne K (.ref CT) (.ref CT) = some true) (h1 : H1 a = some (.lst (ls.map V.str))) (f1 : H1 fo = some (.lst [])) (e1 : Same H0 H1) (f0 : H0 fo = none) (ne : a ≠ fo) (hls : ∀ z ∈ ls, z.length ≤ 100000) (hll : ls.length ≤ 200000)
    (hline : ∀ k, dueL pStep 0 ls = .inl k → ∀ dd H', H0 dd = none → Same H0 H' → H' dd = some (.xd [("index", .int (k : Nat))]) → E (.ref CI) (some dd) H')
    (hdone : ∀ sts, dueL pStep 0 ls = .inr sts → ∀ ws p q H', Same H0 H' → H' fo = some (.lst ws) → NwL C (upd H0 fo (.lst [])) H' (sts.map stD) ws → Dn.nx [some (.str x), some (.ref fo), p, q] H') (hDb : ∀ N : L2.St → Hp → Prop, True) :
    ∃ W : Nat → Nat → L2.St → Hp → Prop, (∃ m, W 0 m [some (.str x), some (.ref fo), none, none] H1) ∧ ∀ i m σ H, W i m σ H →
      ((Ite K a).stop i H ∧ Dn.nx σ H) ∨ ((Ite K a).go i H ∧ ∃ N : L2.St → Hp → Prop, (∀ σ' H', N σ' H' → ∃ m', m' < m ∧ W (i + 1) m' σ' H') ∧ ∀ v H', (Ite K a).yld i H v H' → gTup K 2 (gCons (gName 2) (gCons (gName 3) gNil)) v σ H' fun σ2 H2 =>
        tSeq (tIfS (tTest (tOp rEq (tVar 2) (tC (.int 100)))) (fun _ σ H => tMkX CI "index" (tCons (tVar 2) tNil) σ H fun c d H' => E c d H') tNext)
          (fun D σ H => tFoundTry K C CT (wAll K (.ref CT) (fun _ _ _ => fun _ σ H1 => tMkX CI "index" (tCons (tVar 2) tNil) σ H1 fun c d H' => E c d H') D) D σ H) { Dn with nx := N, ct := N, bk := Dn.nx } σ2 H2) := by
  have big : sizeLine = 16777216 := sizeLine_eq
  refine for_it (walk_enum (xs := ls.map V.str)) (fun i σ H => ∃ p q, σ = [some (.str x), some (.ref fo), p, q] ∧ Same H0 H ∧ Dom H1 H ∧ H a = some (.lst (ls.map V.str)) ∧ i ≤ 100 ∧ ∃ sts ws, allS pStep (ls.take i) = some sts ∧ H fo = some (.lst ws) ∧ NwL C (upd H0 fo (.lst [])) H (sts.map stD) ws)
    ⟨none, none, rfl, e1, Dom.refl _, h1, Nat.zero_le _, [], [], rfl, f1, .nil⟩ (fun i σ H _ p => let ⟨_, _, _, _, _, h, _⟩ := p; SqL.of h) (fun i v σ H H' hi p y => ?_) fun σ H p => ?_
  · obtain ⟨p, q, rfl, e, dm, ha, i100, sts, ws, hs, hf, hw⟩ := p
    obtain ⟨T, _, y, rfl, hT, rfl, ei, hy⟩ := y
    cases ei
    have hy : (ls.map V.str)[i]? = some y := hy
    have hi' : i < ls.length := by rw [List.length_map] at hi; exact hi
    have ew : ls[i]? = some ls[i] := List.getElem?_eq_getElem hi'
    rw [List.getElem?_map, ew] at hy
    cases hy
    refine ⟨T, _, rfl, SqT.of upd_same, rfl, _, _, rfl, _, _, rfl, rfl, ?_⟩
    have e' : Same H0 (upd H T (.tup [.int (i : Nat), .str ls[i]])) := Same.upd' e (e.free hT)
    have dm' : Dom H1 (upd H T (.tup [.int (i : Nat), .str ls[i]])) := dm.upd T _
    have hf' : upd H T (.tup [.int (i : Nat), .str ls[i]]) fo = some (.lst ws) := by rw [upd_ne (ne_of_none hf hT)]; exact hf
    have ha' : upd H T (.tup [.int (i : Nat), .str ls[i]]) a = some (.lst (ls.map V.str)) := by rw [upd_ne (ne_of_none ha hT)]; exact ha
    have hw' : NwL C (upd H0 fo (.lst [])) (upd H T (.tup [.int (i : Nat), .str ls[i]])) (sts.map stD) ws := hw.same (Same.upd' (Same.refl H) hT)
    generalize upd H T (.tup [.int (i : Nat), .str ls[i]]) = H2 at e' dm' hf' ha' hw' ⊢
    have out : i = 100 ∨ pStep ls[i] = none → ∀ H3, Same H0 H3 → ∀ dd, H3 dd = none → E (.ref CI) (some dd) (upd H3 dd (.xd [("index", .int (i : Nat))])) := fun hb H3 e3 dd hdd => hline i (due_bad ew hs i100 hb) dd _ (e3.free hdd) (Same.upd' e3 (e3.free hdd)) upd_same
    refine ⟨_, rfl, rfl, _, rfl, ifB (fun c => ?_) fun c => ?_⟩
    · have c : decide (V.int (i : Nat) = V.int 100) = true := c
      rw [dec_int] at c
      have c2 : i = 100 := by have := beq_iff_eq.mp c; omega
      exact ⟨_, rfl, _, rfl, fun dd hdd => out (.inl c2) H2 e' dd hdd⟩
    · have c : decide (V.int (i : Nat) = V.int 100) = false := c
      rw [dec_int] at c
      have c2 : i ≠ 100 := fun e => by subst e; simp at c
      refine ⟨_, rfl, .inl ⟨rfl, _, SqL.of hf'⟩, _, rfl, _, .str ls[i], rfl, rfl, hls _ (List.getElem_mem hi'), fun st hst o H4 e4 nw => ?_, fun hno dd H4 hd e4 h4 => ⟨xT, fun b hb => ⟨_, rfl, _, rfl, fun d2 hd2 => out (.inr hno) H4 (e'.trans e4) d2 hd2⟩⟩⟩
      have d0 : Dom (upd H0 fo (.lst [])) H2 := fun b ob h => by
        by_cases eb : b = fo
        · rw [eb]; exact ⟨_, hf'⟩
        · rw [upd_ne eb] at h; exact ⟨_, e' b ob h⟩
      have hl : sts.length = (ls.take i).length := allS_len hs
      have hl2 := hw'.rp.len
      rw [List.length_map] at hl2
      rw [List.length_take] at hl
      refine ⟨fo, ws, .ref o, rfl, rfl, e4 _ _ hf', by omega, _, _, rfl, Same.upd' (e'.trans e4) f0, (dm'.trans (.same e4)).upd fo _, by rw [upd_ne ne]; exact e4 _ _ ha', by omega, sts ++ [st], ws ++ [V.ref o], allS_take ew hs hst, upd_same, ?_⟩
      rw [List.map_append]
      exact ((hw'.same e4).app (nw.up d0).one).wr upd_same
  · obtain ⟨p, q, rfl, e, dm, ha, i100, sts, ws, hs, hf, hw⟩ := p
    rw [List.length_map] at i100 hs
    rw [List.take_length] at hs
    exact hdone sts (due_ok hs i100) ws p q H e hf hw
theorem ok_parseSteps {f : Addr} {fd : FuncData} (F : Fun K "parse_steps" "parse_steps" sParseSteps f fd) (T : Txt K mg C) (IC : IsC K C) (FP : Fx P w K mg base (Out Z1 P w) 6 "parse_step" ["text"] (spParseStep C CT))
    (ET : Eb P w K mg base "InvalidText" "value" CT) (EI : Eb P w K mg base "InvalidLine" "index" CI) (xT : PySem.W.exmOne K (.ref CT) (.ref CT) = some true) : FnOk P w K mg base (L2.CX P w) 7 f fd ["text"] (spParseSteps C CT CI) := by
  refine okC F scParseSteps (fun vs H Q E h => ?_) (fun cdv A outer s H vs Q E hr h => ?_)
  · obtain ⟨v, d, rfl, _⟩ := h
    rfl
  · obtain ⟨v, d, rfl, hv, hz, k1, k2, k3⟩ := h
    have tk : L2.Takes (cxOf (L2.CX P w) P w K mg base ["text", "found", "index", "line"] "parse_steps" (defScope sParseSteps) f cdv A outer s H E) (fun c d _ H => E c d H) := L2.takes_of rfl rfl rfl rfl
    have tk0 := Tk.l2 Z0.ok tk
    have hb : ∀ (W : WX) (pn : List (Addr × Obj)) (xe : Value → Shared → Prop), Tk Z1 ((cxOf (L2.CX P w) P w K mg base ["text", "found", "index", "line"] "parse_steps" (defScope sParseSteps) f cdv A outer s H E).tr pn xe) W → PassesOwn (model P w) (cxOf (L2.CX P w) P w K mg base ["text", "found", "index", "line"] "parse_steps" (defScope sParseSteps) f cdv A outer s H E).A (cxOf (L2.CX P w) P w K mg base ["text", "found", "index", "line"] "parse_steps" (defScope sParseSteps) f cdv A outer s H E).env xe →
       PSs ((cxOf (L2.CX P w) P w K mg base ["text", "found", "index", "line"] "parse_steps" (defScope sParseSteps) f cdv A outer s H E).tr pn xe) (tryB6 (defBody sParseSteps)) (tFoundTry K C CT W) := fun W pn xe tkb _ =>
      pss_one (ps_expr (pe_bm PySem.F.plainAttrs_list PySem.F.slot_list_append PySem.F.type_list_append mt_append (pv 1) (pa_cons (xcall FP hr (fun σ => XF.passAt tkb σ) (pa_cons (pv 3) pa_nil)) pa_nil)))
    refine ⟨_, pss_cons (ps_if (pt_not (pt_val (pe_callB call_isi (by rfl) T.isinstance PyProof.Rows.boot_isinstance (pa_cons (pv 0) (pa_cons (pe_bltn (v := .ty "str") (by rfl) T.str (by decide +kernel) rfl) pa_nil)))))
        (pss_one (raise0 (k := 0) ET rfl tk0 (hr.mono (by decide)) (pa_cons (pv 0) pa_nil))) pss_nil)
      (pss_cons (ps_set (i := 1) scParseSteps.nd rfl (Or.inl rfl) (pe_lst pa_nil))
      (pss_cons (ps_for (passes_of rfl) rfl (pi_enum (by rfl) T.enumerate (pa_cons (pe_ifExp (pt_cmpR op_ne (pv 0) pe_str (nomark _)) (pe_bm PySem.F.plainAttrs_str PySem.F.slot_str_split PySem.F.type_str_split mt_split (pv 0) (pa_cons pe_str pa_nil)) (pe_lst pa_nil)) pa_nil))
          (pg_tup rfl (pgs_cons (pg_name (i := 2) scParseSteps.nd rfl (Or.inl rfl)) (pgs_cons (pg_name (i := 3) scParseSteps.nd rfl (Or.inl rfl)) pgs_nil)))
        (pss_cons (ps_if (pt_cmpR op_eq (pv 2) (pgi T.MOST_STEPS) (nomark _)) (pss_one (raise0 (k := 0) EI rfl tk0 (hr.mono (by decide)) (pa_cons (pv 2) pa_nil))) pss_nil)
        (pss_one (ps_try_all (Z := Z1) (OT := fun Y => L2.Takes Y (fun c d _ H => E c d H)) (cn := .ref CT) (tb := tFoundTry K C CT) (ts := fun _ _ _ => fun _ σ H1 => tMkX CI "index" (tCons (tVar 2) tNil) σ H1 fun c d H' => E c d H') rfl rfl ⟨by rfl, by decide, .inl ET.hm⟩ (L2H.passesAt_of rfl) (taken_l2 tk) Z1.ok zb1
          hb
          (fun a oe c d pn hS hN ot => by exact pss_one (raiseS (k := 0) EI hS ot ((roomH_mark hr _).mono (by decide)) (pa_cons (pv 2) pa_nil)))))))
      (pss_one (ps_ret (pv 1))))), ?_⟩
    refine ⟨_, rfl, _, _, _, _, _, rfl, .ty "str", hv.ty IC, kit_str IC d, _, rfl, ?_⟩
    cases hs : isStr d with
    | false => exact ifT rfl ⟨_, rfl, _, rfl, fun dd hdd => k3 hs dd _ hdd (Same.upd' (Same.refl H) hdd) upd_same⟩
    | true =>
      obtain ⟨x, rfl⟩ : ∃ x, d = .str x := by cases d <;> first | exact ⟨_, rfl⟩ | cases hs
      obtain rfl : v = .str x := hv
      have hz' : x.length ≤ 100000 := hz
      have big : sizeLine = 16777216 := sizeLine_eq
      refine ifF rfl ⟨Nat.zero_le _, fun fo hfo => ?_⟩
      have e1 : Same H (upd H fo (.lst [])) := Same.upd' (Same.refl H) hfo
      have f1 : upd H fo (.lst []) fo = some (.lst []) := upd_same
      refine ⟨_, rfl, rfl, _, rfl, ifB (fun c => ?_) fun c => ?_⟩
      · refine ⟨_, rfl, rfl, _, _, rfl, rfl, rfl, by omega, fun a ha => ⟨a, _, rfl, SqL.of upd_same, ?_⟩⟩
        have dn : decide (V.str x = V.str "") = false := by
          have c : (!decide (V.str x = V.str "")) = true := c
          simpa using c
        have xne : x ≠ Str.empty := fun e => of_decide_eq_false dn (congrArg V.str e)
        have el : linesOf x = Txt.split x nl := by unfold linesOf; rw [if_neg xne]
        have ha0 : H a = none := by
          have := ne_of_none f1 ha
          rw [upd_ne this.symm] at ha
          exact ha
        have hs1 := PyProof.Rows.split_le x nl
        exact loop6 (C := C) (CI := CI) (H0 := H) (Db := { nx := fun _ _ => True, rt := fun _ _ => True }) (Dn := { nx := tRet (tVar 1) { nx := fun _ H' => Q V.non H', rt := Q }, rt := Q }) xT upd_same (by rw [upd_ne (ne_of_none f1 ha)]; exact f1) (Same.upd' e1 ha0) hfo (ne_of_none f1 ha).symm (fun z hz => Nat.le_trans (split_part (by decide) hz) hz')
          (by show (Txt.split x nl).length ≤ _; omega) (fun k hk dd H' hdd e h => k2 x k rfl (by unfold pSteps; rw [el]; exact hk) dd H' hdd e h) (fun sts hst ws p q H' e hf hw => ⟨_, rfl, k1 x sts rfl (by unfold pSteps; rw [el]; exact hst) fo ws H' hfo e hf hw⟩) (fun _ => True.intro)
      · have dn : decide (V.str x = V.str "") = true := by
          have c : (!decide (V.str x = V.str "")) = false := c
          simpa using c
        have xe : x = Str.empty := V.str.inj (of_decide_eq_true dn)
        have el : linesOf x = [] := by unfold linesOf; rw [if_pos xe]
        refine ⟨Nat.zero_le _, fun a ha => ⟨a, [], rfl, SqL.of upd_same, ?_⟩⟩
        have ha0 : H a = none := by
          have := ne_of_none f1 ha
          rw [upd_ne this.symm] at ha
          exact ha
        exact loop6 (C := C) (CI := CI) (ls := []) (H0 := H) (Db := { nx := fun _ _ => True, rt := fun _ _ => True }) (Dn := { nx := tRet (tVar 1) { nx := fun _ H' => Q V.non H', rt := Q }, rt := Q }) xT upd_same (by rw [upd_ne (ne_of_none f1 ha)]; exact f1) (Same.upd' e1 ha0) hfo (ne_of_none f1 ha).symm (fun z hz => absurd hz (by simp))
          (by simp) (fun k hk dd H' hdd e h => k2 x k rfl (by unfold pSteps; rw [el]; exact hk) dd H' hdd e h) (fun sts hst ws p q H' e hf hw => ⟨_, rfl, k1 x sts rfl (by unfold pSteps; rw [el]; exact hst) fo ws H' hfo e hf hw⟩) (fun _ => True.intro)
end
end SO
end
section
/-! k78, part L0: lists of texts and the empty list -/
set_option maxHeartbeats 4000000
namespace SO
open PySem PySem.Spec PyProof.Rows L2 LamX
theorem lay_strs (ss : List Str) (hs : ∀ z ∈ ss, PyData.strOk z = true) : SeqAt.shaped (.list (ss.map PyData.str)) = true := by
  have h : PyData.canLayAll0 (ss.map PyData.str) = true ∧ PyData.depthAll (ss.map PyData.str) = 0 := by
    induction ss with
    | nil => exact ⟨rfl, rfl⟩
    | cons s ss ih =>
      have ih := ih fun z hz => hs z (List.mem_cons_of_mem _ hz)
      have h0 := hs s List.mem_cons_self
      refine ⟨?_, ?_⟩
      · simp [PyData.canLayAll0, PyData.canLay0, ih.1, h0]
      · simp [PyData.depthAll, PyData.depth, ih.2]
  unfold SeqAt.shaped
  simp [PyData.canLay0, PyData.depth, h.1, h.2]
theorem dp_strs {K : PySem.W.Frag} {H : Hp} (ss : List Str) : DpAll K H (ss.map V.str) (ss.map PyData.str) := by
  induction ss with
  | nil => exact .nil
  | cons s ss ih => exact .cons (.str s) ih
/-- a list of texts is not the empty list -/
def rNeNil (K : PySem.W.Frag) : R2 := fun x y H Q => ∃ a b, ∃ ss : List Str, x = .ref a ∧ y = .ref b ∧ SqL K H a (ss.map V.str) ∧ SqL K H b [] ∧ (∀ z ∈ ss, PyData.strOk z = true) ∧ Q (.bl (decide (ss ≠ []))) H
theorem op_neNil {X : Cx} (hu : X.A.units + 64 < cLine) : OpR X (compareOp .NotEq) (rNeNil X.K) := by
  intro pins s σ H x y v u Q I rx ry h
  obtain ⟨a, b, ss, rfl, rfl, ha, hb, hs, q⟩ := h
  refine op_neD hu pins s σ H _ _ v u Q I rx ry ⟨_, _, .lst ha (dp_strs ss), .lst hb .nil, lay_strs ss hs, lay_strs [] (by simp), ?_⟩
  have e : (!PyData.eqv (.list (ss.map PyData.str)) (.list [])) = decide (ss ≠ []) := by
    cases ss <;> simp [PyData.eqv, PyData.eqvAll]
  rw [e]
  exact q
end SO
end
section
/-! k78, part L1: the box of draws -/
set_option maxHeartbeats 4000000
namespace SO
open PySem PySem.Spec PyProof.Rows L2 LamX

abbrev sCell : Stmt := topS 35
abbrev sBox : Stmt := topS 36
abbrev sTake : Stmt := topS 37
theorem scCell : FnScope ["_law_script", "_law_k"] ["_law_script", "_law_k"] (defScope sCell) := ⟨rfl, rfl, rfl, by decide +kernel, rfl, by decide +kernel, by decide +kernel⟩
theorem scBox : FnScope ["_law_cell_here"] ["_law_cell_here"] (defScope sBox) := ⟨rfl, rfl, rfl, by decide +kernel, rfl, by decide +kernel, by decide +kernel⟩
theorem scTake : FnScope ["_law_box_here", "_law_many", "_law_digit", "_law_mixed_here"] ["_law_box_here", "_law_many"] (defScope sTake) := ⟨rfl, rfl, rfl, by decide +kernel, rfl, by decide +kernel, by decide +kernel⟩
/-- the box at b; at most n were drawn of its own row -/
def Bx (H : Hp) (b : Addr) (n : Nat) : Prop := ∃ m s k : Int, H b = some (.lst [.int m, .int s, .int k]) ∧ 0 ≤ m ∧ 0 ≤ s ∧ s < 2147483629 ∧ 0 ≤ k ∧ k ≤ n
/-- all but b stands -/
def SameB (b : Addr) (H H' : Hp) : Prop := ∀ a o, a ≠ b → H a = some o → H' a = some o
theorem SameB.refl (b : Addr) (H : Hp) : SameB b H H := fun _ _ _ h => h
theorem SameB.trans {b : Addr} {A B E : Hp} (x : SameB b A B) (y : SameB b B E) : SameB b A E := fun a o n h => y a o n (x a o n h)
theorem SameB.same {b : Addr} {A B : Hp} (x : Same A B) : SameB b A B := fun a o _ h => x a o h
theorem SameB.upd (b : Addr) (H : Hp) (u : HO) : SameB b H (L2.upd H b u) := fun a o n h => by rw [upd_ne n]; exact h
theorem Bx.more {H : Hp} {b : Addr} {n m : Nat} (x : Bx H b n) (h : n ≤ m) : Bx H b m := let ⟨p, s, k, h1, h2, h3, h4, h5, h6⟩ := x; ⟨p, s, k, h1, h2, h3, h4, h5, by omega⟩
theorem Bx.same {H H' : Hp} {b : Addr} {n : Nat} (x : Bx H b n) (e : Same H H') : Bx H' b n := let ⟨p, s, k, h1, r⟩ := x; ⟨p, s, k, e _ _ h1, r⟩
theorem Bx.has {H : Hp} {b : Addr} {n : Nat} (x : Bx H b n) : ∃ o, H b = some o := let ⟨_, _, _, h, _⟩ := x; ⟨_, h⟩
theorem SameB.dom {b : Addr} {H H' : Hp} {n : Nat} (x : SameB b H H') (y : Bx H' b n) : Dom H H' := fun a o h => by
  by_cases e : a = b
  · rw [e]; exact y.has
  · exact ⟨o, x a o e h⟩
def spCell (K : PySem.W.Frag) : Sp := fun vs H Q _ => ∃ a, ∃ ns : List Int, ∃ k : Nat, vs = [.ref a, .int k] ∧ SqL K H a (ns.map V.int) ∧ k < 1000000 ∧ ∀ c, Q (.int c) H
def spBox : Sp := fun vs H Q _ => ∃ c, vs = [.int c] ∧ ∀ b H', H b = none → Same H H' → Bx H' b 0 → Q (.ref b) H'
def spTake : Sp := fun vs H Q _ => ∃ b, ∃ m : Int, ∃ n : Nat, vs = [.ref b, .int m] ∧ Bx H b n ∧ n ≤ 1000000 ∧ 0 < m ∧ m < 1000000 ∧ ∀ j : Nat, ∀ H', (j : Int) < m → SameB b H H' → Bx H' b (n + 1) → Q (.int j) H'
section
variable {P : Program} {w : World} {K : PySem.W.Frag} {mg : Str → Option Value} {base : Heap} {C : Addr}
theorem ok_cell {f : Addr} {fd : FuncData} (F : Fun K "_law_cell" "_law_cell" sCell f fd) (T : Txt K mg C) : FnOk P w K mg base CX0 1 f fd ["_law_script", "_law_k"] (spCell K) := by
  refine F.ok scCell (fun vs H Q E h => ?_) (fun cdv A outer s H vs Q E hr h => ?_)
  · obtain ⟨a, ns, k, rfl, _⟩ := h
    rfl
  · obtain ⟨a, ns, k, rfl, hs, hk, q⟩ := h
    refine ⟨_, pss_cons (ps_if (pt_cmpR op_lt (pv 1) (pe_callB call_len (by rfl) T.len PySem.boot_len (pa_cons (pv 0) pa_nil)) (nomark _)) (pss_one (ps_ret (pe_ix ix_list (pv 0) (pv 1) (fun _ _ => rfl)))) pss_nil)
      (pss_one (ps_ret (pe_op op_add (pe_op op_mul pe_int (pv 1)) pe_int))), ?_⟩
    refine ⟨_, rfl, _, rfl, _, _, rfl, .inl ⟨_, hs, rfl⟩, _, _, rfl, rfl, _, rfl, ifB (fun c => ?_) fun c => ?_⟩
    · have c : decide ((k : Int) < ((ns.map V.int).length : Int)) = true := c
      have c2 := of_decide_eq_true c
      have hk2 : k < ns.length := by rw [List.length_map] at c2; omega
      exact ⟨_, rfl, _, rfl, a, _, _, .int ns[k], rfl, rfl, hs, atI_nat (by rw [List.getElem?_map, List.getElem?_eq_getElem hk2]; rfl), q _⟩
    · exact ⟨_, rfl, _, _, rfl, rfl, .inl ⟨by decide, by decide⟩, _, _, rfl, rfl, q _⟩
theorem ok_box {f : Addr} {fd : FuncData} (F : Fun K "_law_box" "_law_box" sBox f fd) (T : Txt K mg C) : FnOk P w K mg base CX0 1 f fd ["_law_cell_here"] spBox := by
  refine F.ok scBox (fun vs H Q E h => ?_) (fun cdv A outer s H vs Q E hr h => ?_)
  · obtain ⟨c, rfl, _⟩ := h
    rfl
  · obtain ⟨c, rfl, q⟩ := h
    refine ⟨_, pss_one (ps_ret (pe_lst (pa_cons (pe_callB (call_max2 rfl) (by rfl) T.max PyProof.Rows.boot_max (pa_cons pe_int (pa_cons (pe_op op_sub (pv 0) (pe_op op_pow pe_int pe_int)) pa_nil))) (pa_cons (pe_op op_mod (pv 0) pe_int) (pa_cons pe_int pa_nil))))), ?_⟩
    refine ⟨_, rfl, _, _, rfl, rfl, ⟨by decide, by decide, by decide⟩, _, _, rfl, rfl, _, _, rfl, ?_⟩
    refine ⟨_, rfl, _, _, rfl, rfl, (by show (0 : Int) < 2147483629; decide), (by show 3 ≤ sizeLine; decide), fun b hb => q b _ hb (Same.upd' (Same.refl H) hb) ⟨_, _, _, upd_same, ?_, ?_, ?_, by decide, by decide⟩⟩
    · split <;> omega
    · exact Int.emod_nonneg _ (by decide)
    · exact Int.emod_lt_of_pos _ (by decide)
theorem ok_take {f : Addr} {fd : FuncData} (F : Fun K "_law_take" "_law_take" sTake f fd) (T : Txt K mg C) : FnOk P w K mg base CX0 1 f fd ["_law_box_here", "_law_many"] spTake := by
  refine F.ok scTake (fun vs H Q E h => ?_) (fun cdv A outer s H vs Q E hr h => ?_)
  · obtain ⟨b, m, n, rfl, _⟩ := h
    rfl
  · obtain ⟨b, m, n, rfl, ⟨p, z, k, hb, hp, hz, hz2, hk, hk2⟩, hn, m0, m1, q⟩ := h
    refine ⟨_, pss_cons (ps_if (pt_cmpR op_gt (pe_ix ix_list (pv 0) pe_int (fun _ _ => rfl)) pe_int (nomark _)) (pss_cons (ps_set (i := 2) scTake.nd rfl (Or.inl rfl) (pe_op op_mod (pe_ix ix_list (pv 0) pe_int (fun _ _ => rfl)) (pv 1)))
        (pss_cons (ps_asg (pe_op op_fdiv (pe_ix ix_list (pv 0) pe_int (fun _ _ => rfl)) (pv 1)) (pg_sub (pv 0) pe_int set_list)) (pss_one (ps_ret (pv 2))))) pss_nil)
      (pss_cons (ps_asg (pe_op op_add (pe_ix ix_list (pv 0) pe_int (fun _ _ => rfl)) pe_int) (pg_sub (pv 0) pe_int set_list))
      (pss_cons (ps_set (i := 3) scTake.nd rfl (Or.inl rfl) (pe_op op_mod (pe_op op_pow (pe_op op_add (pe_op op_add (pe_ix ix_list (pv 0) pe_int (fun _ _ => rfl)) (pe_op op_mul pe_int (pe_ix ix_list (pv 0) pe_int (fun _ _ => rfl)))) pe_int) pe_int) pe_int))
      (pss_cons (ps_set (i := 3) scTake.nd rfl (Or.inl rfl) (pe_op op_mod (pe_op op_pow (pe_op op_add (pv 3) (pe_op op_mul pe_int (pe_ix ix_list (pv 0) pe_int (fun _ _ => rfl)))) pe_int) pe_int))
      (pss_one (ps_ret (pe_op op_mod (pe_op op_fdiv (pv 3) pe_int) (pv 1))))))), ?_⟩
    refine ⟨_, rfl, b, _, _, _, rfl, rfl, SqL.of hb, rfl, _, _, rfl, rfl, _, rfl, ifB (fun c => ?_) fun c => ?_⟩
    · refine ⟨_, rfl, b, _, _, _, rfl, rfl, SqL.of hb, rfl, _, rfl, _, _, rfl, rfl, m0, ?_⟩
      refine ⟨_, rfl, b, _, _, _, rfl, rfl, SqL.of hb, rfl, _, rfl, _, _, rfl, rfl, ⟨m0, by omega⟩, ?_⟩
      refine ⟨_, rfl, b, _, _, 0, rfl, rfl, hb, rfl, _, rfl, ?_⟩
      have h1 := Int.emod_nonneg p (show m ≠ 0 by omega)
      have h2 := Int.emod_lt_of_pos p m0
      have e : ((p % m).toNat : Int) = p % m := by omega
      have q' := q (p % m).toNat _ (by omega) (SameB.upd b H _) ⟨_, _, _, upd_same, Int.ediv_nonneg hp (show 0 ≤ m by omega), hz, hz2, hk, by omega⟩
      rw [e] at q'
      exact q'
    · refine ⟨_, rfl, b, _, _, _, rfl, rfl, SqL.of hb, rfl, _, _, rfl, rfl, ?_⟩
      refine ⟨_, rfl, b, _, _, 2, rfl, rfl, hb, rfl, ?_⟩
      have e1 : SameB b H (upd H b (.lst [.int p, .int z, .int (k + 1)])) := SameB.upd b H _
      have hb1 : upd H b (.lst [.int p, .int z, .int (k + 1)]) b = some (.lst [.int p, .int z, .int (k + 1)]) := upd_same
      refine ⟨_, rfl, b, _, _, _, rfl, rfl, SqL.of hb1, rfl, _, rfl, b, _, _, _, rfl, rfl, SqL.of hb1, rfl, _, _, rfl, rfl, .inl ⟨by decide, by decide⟩, _, _, rfl, rfl, _, _, rfl, rfl, _, _, rfl, rfl, ⟨by decide, by decide, ?_⟩, _, _, rfl, rfl, (by show (0 : Int) < 2147483647; decide), ?_⟩
      · show Int.natAbs (z + 15487811 * (k + 1) + 487) < 2 ^ 64
        have h2 : (2 : Nat) ^ 64 = 18446744073709551616 := by decide
        omega
      · have h5 : 0 ≤ (z + 15487811 * (k + 1) + 487) ^ (5 : Int).toNat % 2147483647 := Int.emod_nonneg _ (by decide)
        have h6 : (z + 15487811 * (k + 1) + 487) ^ (5 : Int).toNat % 2147483647 < 2147483647 := Int.emod_lt_of_pos _ (by decide)
        refine ⟨_, rfl, _, rfl, b, _, _, _, rfl, rfl, SqL.of hb1, rfl, _, _, rfl, rfl, .inl ⟨by decide, by decide⟩, _, _, rfl, rfl, _, _, rfl, rfl, ⟨by decide, by decide, ?_⟩, _, _, rfl, rfl, (by show (0 : Int) < 2147483587; decide), ?_⟩
        · show Int.natAbs ((z + 15487811 * (k + 1) + 487) ^ (5 : Int).toNat % 2147483647 + 104723 * (k + 1)) < 2 ^ 64
          have h2 : (2 : Nat) ^ 64 = 18446744073709551616 := by decide
          omega
        · have gy : ∀ y : Int, Q (V.int (y / 16 % m)) (upd H b (.lst [.int p, .int z, .int (k + 1)])) := fun y => by
            have h7 := Int.emod_nonneg (y / 16) (show m ≠ 0 by omega)
            have h8 := Int.emod_lt_of_pos (y / 16) m0
            have e : ((y / 16 % m).toNat : Int) = y / 16 % m := by omega
            have q' := q (y / 16 % m).toNat _ (by omega) e1 ⟨_, _, _, hb1, hp, hz, hz2, by omega, by omega⟩
            rw [e] at q'
            exact q'
          exact ⟨_, rfl, _, _, rfl, rfl, ⟨by decide, by decide⟩, _, rfl, _, _, rfl, rfl, m0, gy _⟩
end
end SO
end
section
/-! k78, part L2: _law_mixed, _law_columns -/
set_option maxHeartbeats 4000000
namespace SO
open PySem PySem.Spec PyProof.Rows L2 LamX

abbrev sMixed : Stmt := topS 38
abbrev sColumns : Stmt := topS 39
theorem scMixed : FnScope ["_law_box_here", "_law_things", "_law_left", "_law_found"] ["_law_box_here", "_law_things"] (defScope sMixed) := ⟨rfl, rfl, rfl, by decide +kernel, rfl, by decide +kernel, by decide +kernel⟩
theorem scColumns : FnScope ["_law_box_here", "_law_words"] ["_law_box_here"] (defScope sColumns) := ⟨rfl, rfl, rfl, by decide +kernel, rfl, by decide +kernel, by decide +kernel⟩
def spMixed : Sp := fun vs H Q _ => ∃ b a, ∃ ss : List Str, ∃ n : Nat, vs = [.ref b, .ref a] ∧ Bx H b n ∧ n + ss.length ≤ 900000 ∧ H a = some (.lst (ss.map V.str)) ∧ ss.length ≤ 100 ∧ (∀ z ∈ ss, PyData.strOk z = true) ∧
  ∀ p, ∀ ws : List Str, ∀ H', H p = none → SameB b H H' → Bx H' b (n + ss.length) → H' p = some (.lst (ws.map V.str)) → ws.Perm ss → Q (.ref p) H'
def spColumns : Sp := fun vs H Q _ => ∃ b, ∃ n : Nat, vs = [.ref b] ∧ Bx H b n ∧ n ≤ 800000 ∧ ∀ p, ∀ cs : List Str, ∀ H', H p = none → SameB b H H' → Bx H' b (n + 11) → H' p = some (.lst (cs.map V.str)) → namesOk cs → Q (.ref p) H'
theorem seqIx {j n : Nat} (h : j < n) : seqIndex? (j : Int) n = some j := by
  have e : (List.range n)[j]? = some j := by simp [h]
  obtain ⟨k, hk, ek, _⟩ := atI_get (atI_nat e)
  have hkn := (List.getElem?_eq_some_iff.mp ek).1
  rw [List.length_range] at hk hkn
  have : k = j := by
    have := (List.getElem?_eq_some_iff.mp ek).2
    rw [List.getElem_range] at this
    exact this
  rw [hk, this]
theorem erase_map {α β : Type} (f : α → β) : ∀ (l : List α) (k : Nat), (l.map f).eraseIdx k = (l.eraseIdx k).map f
  | [], k => by simp
  | a :: l, 0 => by simp
  | a :: l, k + 1 => by simp [erase_map f l k]
section
variable {P : Program} {w : World} {K : PySem.W.Frag} {mg : Str → Option Value} {base : Heap} {C : Addr}
theorem ok_mixed {f : Addr} {fd : FuncData} (F : Fun K "_law_mixed" "_law_mixed" sMixed f fd) (T : Txt K mg C) (FT : Fk P w K mg base CX0 1 "_law_take" ["_law_box_here", "_law_many"] spTake) : FnOk P w K mg base CX0 2 f fd ["_law_box_here", "_law_things"] spMixed := by
  refine F.ok scMixed (fun vs H Q E h => ?_) (fun cdv A outer s H vs Q E hr h => ?_)
  · obtain ⟨b, a, ss, n, rfl, _⟩ := h
    rfl
  · obtain ⟨b, a, ss, n, rfl, hb, hn, ha, hl, hs, q⟩ := h
    have hu : (cxOf CX0 P w K mg base ["_law_box_here", "_law_things", "_law_left", "_law_found"] "_law_mixed" (defScope sMixed) f cdv A outer s H E).nox.A.units + 64 < cLine := hr.units
    refine ⟨_, pss_cons (ps_par (i := 2) (j := 3) (by rfl) scMixed.nd rfl rfl (by decide) rfl rfl (pa_cons (pe_callTy call_list_of (by rfl) T.list (by decide +kernel) (pa_cons (pv 1) pa_nil)) (pa_cons (pe_lst pa_nil) pa_nil)) (by rfl))
      (pss_cons (ps_while PassesOwn.never (pt_cmpR (op_neNil hu) (pv 2) (pe_lst pa_nil) (nomark _))
        (pss_one (ps_expr (pe_bm PySem.F.plainAttrs_list PySem.F.slot_list_append PySem.F.type_list_append mt_append (pv 3) (pa_cons
          (pe_bm PySem.F.plainAttrs_list PySem.F.slot_list_pop PySem.F.type_list_pop mt_popAt (pv 2) (pa_cons (pcall FT hr (pa_cons (pv 0) (pa_cons (pe_callB call_len (by rfl) T.len PySem.boot_len (pa_cons (pv 2) pa_nil)) pa_nil))) pa_nil)) pa_nil)))))
      (pss_one (ps_ret (pv 3)))), ?_⟩
    have big : sizeLine = 16777216 := sizeLine_eq
    have ba : a ≠ b := fun e => by
      obtain ⟨p, z, k, hb1, _⟩ := hb
      rw [e, hb1] at ha
      have h1 := HO.lst.inj (Option.some.inj ha)
      cases ss with
      | nil => cases h1
      | cons x r => cases h1
    refine ⟨_, rfl, a, _, rfl, .inl (SqL.of ha), fun l hll => ⟨Nat.zero_le _, fun g hg => ⟨_, _, rfl, ?_⟩⟩⟩
    have gl : g ≠ l := fun e => by rw [e, upd_same] at hg; cases hg
    rw [upd_ne gl] at hg
    have nlb : l ≠ b := fun e => by obtain ⟨o, h⟩ := hb.has; rw [e, h] at hll; cases hll
    have ngb : g ≠ b := fun e => by obtain ⟨o, h⟩ := hb.has; rw [e, h] at hg; cases hg
    refine while_by (fun σ H' => σ = [some (.ref b), some (.ref a), some (.ref l), some (.ref g)] ∧ SameB b H H' ∧ ∃ ls gs : List Str, H' l = some (.lst (ls.map V.str)) ∧ H' g = some (.lst (gs.map V.str)) ∧ (gs ++ ls).Perm ss ∧ Bx H' b (n + gs.length))
      (fun σ H' => match H' l with | some (.lst xs) => xs.length | _ => 0) ⟨rfl, SameB.same (Same.upd' (Same.upd' (Same.refl H) hll) hg), ss, [], by rw [upd_ne gl.symm, upd_same], upd_same, List.Perm.refl _, ?_⟩ ?_ ?_
    · exact hb.same (Same.upd' (Same.upd' (Same.refl H) hll) hg)
    · rintro σ H1 ⟨rfl, e1, ls, gs, h1, h2, pm, bx⟩
      refine ⟨_, rfl, Nat.zero_le _, fun e he => ⟨l, e, ls, rfl, rfl, SqL.of (by rw [upd_ne (ne_of_none h1 he)]; exact h1), SqL.of upd_same, fun z hz => hs z (pm.subset (List.mem_append_right _ hz)), _, rfl, ?_⟩⟩
      have hlen := pm.length_eq
      rw [List.length_append] at hlen
      have e2 : SameB b H (upd H1 e (.lst [])) := e1.trans (.same (Same.upd' (Same.refl H1) he))
      have h1' : upd H1 e (.lst []) l = some (.lst (ls.map V.str)) := by rw [upd_ne (ne_of_none h1 he)]; exact h1
      have h2' : upd H1 e (.lst []) g = some (.lst (gs.map V.str)) := by rw [upd_ne (ne_of_none h2 he)]; exact h2
      have bx' : Bx (upd H1 e (.lst [])) b (n + gs.length) := bx.same (Same.upd' (Same.refl H1) he)
      have mu : (match H1 l with | some (.lst xs) => xs.length | _ => 0) = ls.length := by rw [h1]; exact List.length_map ..
      rw [mu]
      generalize upd H1 e (.lst []) = H2 at e2 h1' h2' bx' ⊢
      refine ifB (fun c => ?_) fun c => ?_
      · have c2 : ls ≠ [] := of_decide_eq_true c
        have c3 : 0 < ls.length := by cases ls with | nil => exact absurd rfl c2 | cons x r => simp
        refine ⟨_, rfl, .inl ⟨rfl, _, SqL.of h2'⟩, _, rfl, .inl ⟨rfl, _, SqL.of h1'⟩, _, rfl, _, rfl, _, _, rfl, .inl ⟨_, SqL.of h1', rfl⟩, b, _, _, rfl, bx', by omega, ?_, ?_, fun j H3 hj sb bx3 => ?_⟩
        · rw [List.length_map]; omega
        · rw [List.length_map]; omega
        · have hj' : j < ls.length := by rw [List.length_map] at hj; omega
          have ew : (ls.map V.str)[j]? = some (V.str ls[j]) := by rw [List.getElem?_map, List.getElem?_eq_getElem hj']; rfl
          have hk : seqIndex? (j : Int) (ls.map V.str).length = some j := seqIx (by rw [List.length_map]; exact hj')
          have h13 : H3 l = some (.lst (ls.map V.str)) := sb _ _ nlb h1'
          have h23 : H3 g = some (.lst (gs.map V.str)) := sb _ _ ngb h2'
          refine ⟨l, _, _, j, _, rfl, rfl, h13, by omega, by omega, hk, ew, g, _, _, rfl, rfl, by rw [upd_ne gl]; exact h23, by rw [List.length_map]; omega, ⟨rfl, ?_, ls.eraseIdx j, gs ++ [ls[j]], ?_, ?_, ?_, ?_⟩, ?_⟩
          · intro a' o' na ho
            have h3 := sb _ _ na (e2 _ _ na ho)
            have n1 : a' ≠ g := fun e => by rw [e, hg] at ho; cases ho
            have n2 : a' ≠ l := fun e => by rw [e, hll] at ho; cases ho
            rw [upd_ne n1, upd_ne n2]
            exact h3
          · rw [upd_ne gl.symm, upd_same, erase_map]
          · rw [upd_same, List.map_append]; rfl
          · have p1 := erase_perm ls j ls[j] (List.getElem?_eq_getElem hj')
            rw [List.append_assoc]
            exact ((List.Perm.refl gs).append p1).trans pm
          · have nb1 : b ≠ g := ngb.symm
            have nb2 : b ≠ l := nlb.symm
            obtain ⟨p, z, kk, hb3, r⟩ := bx3
            rw [List.length_append, ← Nat.add_assoc]
            exact ⟨p, z, kk, by rw [upd_ne nb1, upd_ne nb2]; exact hb3, r⟩
          · show (match (upd (upd H3 l _) g _) l with | some (.lst xs) => xs.length | _ => 0) < ls.length
            rw [upd_ne gl.symm, upd_same]
            show ((ls.map V.str).eraseIdx j).length < _
            rw [List.length_eraseIdx, List.length_map, if_pos hj']
            omega
      · have c2 : ls = [] := by
          have c : decide (ls ≠ []) = false := c
          simpa using c
        subst c2
        rw [List.append_nil] at pm
        have hlen := pm.length_eq
        exact ⟨_, rfl, q g gs H2 hg e2 (by rw [← hlen]; exact bx') h2' pm⟩
    · rintro σ H1 Q1 Q2 mono ⟨v, hv, h0, h⟩
      refine ⟨v, hv, h0, fun e he => ?_⟩
      obtain ⟨a1, b1, s1, r1, r2, r3, r4, r5, k, r6, r7⟩ := h e he
      exact ⟨a1, b1, s1, r1, r2, r3, r4, r5, k, r6, mono _ _ r7⟩
def wordsC : List Str := ["a", "ab", "b", "city", "age", "zzzzzzzz", "row", "span", "ba", "c"]
theorem wordsC_ok : wordsC.all nameOk = true := by decide +kernel
theorem wordsC_nd : wordsC.Nodup := by decide +kernel
theorem wordsC_so : ∀ z ∈ wordsC, PyData.strOk z = true := by decide +kernel
theorem cutTo (xs : List V) (k : Nat) : cutV xs none (some (k : Int)) = xs.take k := by
  unfold cutV
  rw [HT.sIx_none, HT.sIx_nat, List.drop_zero, Nat.sub_zero]
  by_cases h : k ≤ xs.length
  · rw [Nat.min_eq_left h]
  · rw [Nat.min_eq_right (by omega), List.take_of_length_le (Nat.le_refl _), List.take_of_length_le (by omega)]
theorem ok_columns {f : Addr} {fd : FuncData} (F : Fun K "_law_columns" "_law_columns" sColumns f fd) (FT : Fk P w K mg base CX0 1 "_law_take" ["_law_box_here", "_law_many"] spTake) (FM : Fk P w K mg base CX0 2 "_law_mixed" ["_law_box_here", "_law_things"] spMixed) : FnOk P w K mg base CX0 3 f fd ["_law_box_here"] spColumns := by
  refine F.ok scColumns (fun vs H Q E h => ?_) (fun cdv A outer s H vs Q E hr h => ?_)
  · obtain ⟨b, n, rfl, _⟩ := h
    rfl
  · obtain ⟨b, n, rfl, hb, hn, q⟩ := h
    refine ⟨_, pss_cons (ps_set (i := 1) scColumns.nd rfl (Or.inl rfl) (pe_lst (pa_cons pe_str (pa_cons pe_str (pa_cons pe_str (pa_cons pe_str (pa_cons pe_str (pa_cons pe_str (pa_cons pe_str (pa_cons pe_str (pa_cons pe_str (pa_cons pe_str pa_nil))))))))))))
      (pss_one (ps_ret (pe_slice sl_list (pcall FM hr (pa_cons (pv 0) (pa_cons (pv 1) pa_nil))) po_none (po_some (pe_op op_add pe_int (pcall FT (hr.mono (by decide)) (pa_cons (pv 0) (pa_cons pe_int pa_nil)))))))), ?_⟩
    refine ⟨(by show 10 ≤ sizeLine; rw [sizeLine_eq]; decide), fun a ha => ?_⟩
    have e1 : Same H (upd H a (.lst (wordsC.map V.str))) := Same.upd' (Same.refl H) ha
    refine ⟨_, rfl, _, rfl, b, a, wordsC, n, rfl, hb.same e1, (by show n + 10 ≤ 900000; omega), upd_same, (by decide), wordsC_so, fun p ws H2 hp sb bx h2 pm => ?_⟩
    refine ⟨_, rfl, b, 5, n + 10, rfl, bx, by omega, by decide, by decide, fun j H3 hj sb3 bx3 => ⟨_, _, rfl, rfl, _, rfl, ?_⟩⟩
    have nb : p ≠ b := fun e => by
      obtain ⟨o, h⟩ := hb.has
      rw [e] at hp
      have h9 := hp.symm.trans (e1 _ _ h)
      cases h9
    have h3 : H3 p = some (.lst (ws.map V.str)) := sb3 _ _ nb h2
    refine ⟨p, _, rfl, SqL.of h3, fun r hr3 => ?_⟩
    have hc : cutV (ws.map V.str) none (some (1 + (j : Int))) = (ws.take (1 + j)).map V.str := by
      have := cutTo (ws.map V.str) (1 + j)
      rw [show (1 : Int) + (j : Int) = ((1 + j : Nat) : Int) by omega, this, List.map_take]
    have hl : ws.length = 10 := pm.length_eq
    have sb4 : SameB b H H3 := ((SameB.same e1).trans sb).trans sb3
    refine q r (ws.take (1 + j)) _ ?_ (sb4.trans (.same (Same.upd' (Same.refl H3) hr3))) (bx3.same (Same.upd' (Same.refl H3) hr3)) (by rw [upd_same]; exact congrArg some (congrArg HO.lst hc)) ⟨?_, ?_, ?_, ?_⟩
    · cases hh : H r with
      | none => rfl
      | some o =>
        exfalso
        by_cases e : r = b
        · obtain ⟨o', h'⟩ := bx3.has
          rw [← e, hr3] at h'; cases h'
        · have := sb4 r o e hh
          rw [hr3] at this; cases this
    · rw [List.length_take, hl]; omega
    · rw [List.length_take, hl]; omega
    · intro c hc'
      have := pm.subset (List.mem_of_mem_take hc')
      exact List.all_eq_true.mp wordsC_ok c this
    · exact ((pm.nodup_iff).mpr wordsC_nd).sublist (List.take_sublist _ _)
end
end SO
end
section
/-! k78, part L3: _law_step -/
set_option maxHeartbeats 4000000
namespace SO
open PySem PySem.Spec PyProof.Rows L2 LamX

abbrev sLStep : Stmt := topS 40
theorem scLStep : FnScope ["_law_box_here", "_law_columns_here", "_law_other", "_law_way"] ["_law_box_here"] (defScope sLStep) := ⟨rfl, rfl, rfl, by decide +kernel, rfl, by decide +kernel, by decide +kernel⟩
/-- Order(list): the reading -/
theorem mkO {C p o dx : Addr} {H : Hp} {cs : List Str} {Q : VK} {E : XK} (hp : H p = some (.lst (cs.map V.str))) (nm : namesOk cs) (ho : H o = none) (hdx : H dx = none) (ne : dx ≠ o) (k : ∀ H', Same H H' → Nw C H H' (.ord cs) (.ref o) → Q .non H') :
    spOInit C (.ref o :: ([.ref p] ++ [])) (upd (upd H dx (.own o)) o (.ins C dx [])) Q E := by
  refine ⟨o, p, dx, cs, rfl, upd_same, by rw [upd_ne (ne_of_none hp ho), upd_ne (ne_of_none hp hdx)]; exact hp, nm, fun l H4 hl0 hl4 ho4 k4 => k H4 (fun a u ha => ?_) (.ord ho4 hl4 ho ?_)⟩
  · have n1 := ne_of_none ha ho
    have n2 := ne_of_none ha hdx
    exact k4 a u (by rw [upd_ne n1, upd_ne n2]; exact ha) n1
  · cases hh : H l with
    | none => rfl
    | some u =>
      rw [upd_ne (ne_of_none hh ho), upd_ne (ne_of_none hh hdx), hh] at hl0
      cases hl0
/-- a step that is one -/
def okStep (s : Str × List (List Str)) : Prop := ((s.2.length = 1 ∧ (s.1 = sBuild ∨ s.1 = sDrop)) ∨ (s.2.length = 2 ∧ s.1 = sRelay)) ∧ ∀ cs ∈ s.2, namesOk cs
theorem Nw.sameB {C b : Addr} {H0 H1 H2 : Hp} {d : D} {v : V} {o : HO} (hb : H0 b = some o) (e : SameB b H1 H2) (x : Nw C H0 H1 d v) : Nw C H0 H2 d v := let ⟨K, s, n, r⟩ := x; ⟨K, fun a u h => e a u (fun e' => by have := n a u h; rw [e', hb] at this; cases this) (s a u h), n, r⟩
theorem NwL.sameB {C b : Addr} {H0 H1 H2 : Hp} {d : List D} {v : List V} {o : HO} (hb : H0 b = some o) (e : SameB b H1 H2) (x : NwL C H0 H1 d v) : NwL C H0 H2 d v := let ⟨K, s, n, r⟩ := x; ⟨K, fun a u h => e a u (fun e' => by have := n a u h; rw [e', hb] at this; cases this) (s a u h), n, r⟩
def spLStep (C : Addr) : Sp := fun vs H Q _ => ∃ b, ∃ n : Nat, vs = [.ref b] ∧ Bx H b n ∧ n ≤ 700000 ∧ ∀ p st H', SameB b H H' → Bx H' b (n + 40) → okStep st → Nw C H H' (.tup [stD st, .str (stepText (stD st))]) (.ref p) → Q (.ref p) H'
theorem nameOk_so {c : Str} (h : nameOk c = true) : PyData.strOk c = true := by
  have h2 : c.cps.toList.all (fun c => decide (c ∈ letters.cps.toList)) = true := (Bool.and_eq_true_iff.mp h).2
  unfold PyData.strOk
  rw [← Array.all_toList]
  refine List.all_eq_true.mpr fun x hx => ?_
  have h3 : x ∈ letters.cps.toList := of_decide_eq_true (List.all_eq_true.mp h2 x hx)
  have h4 : letters.cps.toList.all (fun x => decide (x < 0x110000)) = true := by decide +kernel
  exact List.all_eq_true.mp h4 x h3
theorem join1 (s x : Str) : Txt.join s [x] = x := by rw [TL.join_eq]; rfl
theorem join2 (s x y : Str) : Txt.join s [x, y] = x ++ s ++ y := by rw [TL.join_eq]; rfl
theorem app_assoc (x y z : Str) : x ++ y ++ z = x ++ (y ++ z) := TL.ext_tl (by rw [TL.tl_append, TL.tl_append, TL.tl_append, TL.tl_append, List.append_assoc])
theorem text1 (w : Str) (cs : List Str) : stepText (stD (w, [cs])) = ((Str.empty ++ w) ++ blank) ++ Txt.join blank cs := by
  show ((Str.empty ++ w) ++ blank) ++ Txt.join towards [Txt.join blank cs] = _
  rw [join1]
theorem text2 (w : Str) (cs ds : List Str) : stepText (stD (w, [cs, ds])) = (((Str.empty ++ w) ++ blank) ++ Txt.join blank cs ++ towards) ++ Txt.join blank ds := by
  show ((Str.empty ++ w) ++ blank) ++ Txt.join towards [Txt.join blank cs, Txt.join blank ds] = _
  rw [join2]
  exact TL.ext_tl (by simp only [TL.tl_append, List.append_assoc])
theorem lit_build : ((Str.empty ++ sBuild) ++ blank : Str) = "build " := by decide +kernel
theorem lit_drop : ((Str.empty ++ sDrop) ++ blank : Str) = "drop " := by decide +kernel
theorem lit_relay : ((Str.empty ++ sRelay) ++ blank : Str) = "relay " := by decide +kernel
theorem joinB {cs : List Str} (h : namesOk cs) : (cs.map (·.length)).sum + cs.length * blank.length ≤ 16777216 := by
  have h1 := sum_len h.2.2.1
  have h2 := h.2.1
  have e1 : blank.length = 1 := rfl
  have h4 : (cs.map (·.length)).sum = (List.map (fun x => x.length) cs).sum := rfl
  rw [e1]
  omega
section
variable {P : Program} {w : World} {K : PySem.W.Frag} {mg : Str → Option Value} {base : Heap} {C : Addr}
theorem ok_lstep {f : Addr} {fd : FuncData} (F : Fun K "_law_step" "_law_step" sLStep f fd) (FT : Fk P w K mg base CX0 1 "_law_take" ["_law_box_here", "_law_many"] spTake) (FM : Fk P w K mg base CX0 2 "_law_mixed" ["_law_box_here", "_law_things"] spMixed)
    (FC : Fk P w K mg base CX0 3 "_law_columns" ["_law_box_here"] spColumns) (MO : C8.Mak P w K mg base 3 "Order" C (spOInit C) []) : FnOk P w K mg base CX0 5 f fd ["_law_box_here"] (spLStep C) := by
  refine F.ok scLStep (fun vs H Q E h => ?_) (fun cdv A outer s H vs Q E hr h => ?_)
  · obtain ⟨b, n, rfl, _⟩ := h
    rfl
  · obtain ⟨b, n, rfl, hb, hn, q⟩ := h
    refine ⟨_, pss_cons (ps_par (i := 1) (j := 2) (by rfl) scLStep.nd rfl rfl (by decide) rfl rfl (pa_cons (pcall FC (hr.mono (by decide)) (pa_cons (pv 0) pa_nil)) (pa_cons (pcall FC (hr.mono (by decide)) (pa_cons (pv 0) pa_nil)) pa_nil)) (by rfl))
      (pss_cons (ps_set (i := 3) scLStep.nd rfl (Or.inl rfl) (pcall FT (hr.mono (by decide)) (pa_cons (pv 0) (pa_cons pe_int pa_nil))))
      (pss_cons (ps_if (pt_cmpR op_eq (pv 3) pe_int (nomark _)) (pss_one (ps_ret (pe_tup (pa_cons (pe_tup (pa_cons pe_str (pa_cons (C8.pe_mk MO hr (by decide) (by rfl) (pa_cons (pv 1) pa_nil)) pa_nil))) (pa_cons (pe_op op_add_str pe_str (pe_bm PySem.F.plainAttrs_str PySem.F.slot_str_join PySem.F.type_str_join mt_join pe_str (pa_cons (pv 1) pa_nil))) pa_nil))))) pss_nil)
      (pss_cons (ps_if (pt_cmpR op_eq (pv 3) pe_int (nomark _)) (pss_one (ps_ret (pe_tup (pa_cons (pe_tup (pa_cons pe_str (pa_cons (C8.pe_mk MO hr (by decide) (by rfl) (pa_cons (pv 1) pa_nil)) pa_nil))) (pa_cons (pe_op op_add_str pe_str (pe_bm PySem.F.plainAttrs_str PySem.F.slot_str_join PySem.F.type_str_join mt_join pe_str (pa_cons (pv 1) pa_nil))) pa_nil))))) pss_nil)
      (pss_cons (ps_set (i := 2) scLStep.nd rfl (Or.inl rfl) (pe_ifExp (pt_cmpR op_eq (pv 3) pe_int (nomark _)) (pcall FM (hr.mono (by decide)) (pa_cons (pv 0) (pa_cons (pv 1) pa_nil))) (pv 2)))
      (pss_one (ps_ret (pe_tup (pa_cons (pe_tup (pa_cons pe_str (pa_cons (C8.pe_mk MO hr (by decide) (by rfl) (pa_cons (pv 1) pa_nil)) (pa_cons (C8.pe_mk MO hr (by decide) (by rfl) (pa_cons (pv 2) pa_nil)) pa_nil))))
        (pa_cons (pe_op op_add_str (pe_op op_add_str (pe_op op_add_str pe_str (pe_bm PySem.F.plainAttrs_str PySem.F.slot_str_join PySem.F.type_str_join mt_join pe_str (pa_cons (pv 1) pa_nil))) pe_str) (pe_bm PySem.F.plainAttrs_str PySem.F.slot_str_join PySem.F.type_str_join mt_join pe_str (pa_cons (pv 2) pa_nil))) pa_nil))))))))), ?_⟩
    obtain ⟨ob, hob⟩ := hb.has
    have big : sizeLine = 16777216 := sizeLine_eq
    refine ⟨_, rfl, b, n, rfl, hb, by omega, fun p1 c1 H1 hp1 sb1 bx1 h1 n1 => ⟨_, rfl, b, n + 11, rfl, bx1, by omega, fun p2 c2 H2 hp2 sb2 bx2 h2 n2 => ⟨_, _, rfl, ?_⟩⟩⟩
    have nb1 : p1 ≠ b := fun e => by rw [e, hob] at hp1; cases hp1
    have d1 : Dom H H1 := sb1.dom bx1
    have nb2 : p2 ≠ b := fun e => by obtain ⟨o, h⟩ := bx1.has; rw [e, h] at hp2; cases hp2
    have hp2' : H p2 = none := d1.free hp2
    refine ⟨_, rfl, b, 4, n + 11 + 11, rfl, bx2, by omega, by decide, by decide, fun j H3 hj sb3 bx3 => ?_⟩
    have g1 : H3 p1 = some (.lst (c1.map V.str)) := sb3 _ _ nb1 (sb2 _ _ nb1 h1)
    have g2 : H3 p2 = some (.lst (c2.map V.str)) := sb3 _ _ nb2 h2
    have sb : SameB b H H3 := (sb1.trans sb2).trans sb3
    have bx : Bx H3 b (n + 40) := bx3.more (by omega)
    have fresh : ∀ {a : Addr}, H3 a = none → H a = none := fun h => (sb.dom bx).free h
    have one : ∀ (wd : Str) (_ : wd = sBuild ∨ wd = sDrop) (o : Addr) (H4 : Hp), Same H3 H4 → Nw C H3 H4 (.ord c1) (.ref o) → ∀ t, H4 t = none → ∀ u, upd H4 t (.tup [.str wd, .ref o]) u = none →
        Q (.ref u) (upd (upd H4 t (.tup [.str wd, .ref o])) u (.tup [.ref t, .str (stepText (stD (wd, [c1])))])) := fun wd hwd o H4 e4 nw t ht u hu => by
      have e5 : Same H3 (upd H4 t (.tup [.str wd, .ref o])) := Same.upd' e4 (e4.free ht)
      have e6 : Same H3 (upd (upd H4 t (.tup [.str wd, .ref o])) u (.tup [.ref t, .str (stepText (stD (wd, [c1])))])) := Same.upd' e5 (e5.free hu)
      have k1 : NwL C H H4 [D.str wd, .ord c1] [.str wd, .ref o] := (Nw.flat (d := .str wd) rfl).one.app (nw.up (sb.dom bx)).one
      have k2 : Nw C H (upd H4 t (.tup [.str wd, .ref o])) (stD (wd, [c1])) (.ref t) := k1.tup ht (fresh (e4.free ht))
      refine q u (wd, [c1]) _ (sb.trans (.same e6)) (bx.same e6) ⟨.inl ⟨rfl, hwd⟩, fun cs h => by rw [List.mem_singleton] at h; rw [h]; exact n1⟩ ?_
      exact (k2.one.app (Nw.flat (d := .str (stepText (stD (wd, [c1])))) rfl).one).tup hu (fresh (e5.free hu))
    refine ⟨_, rfl, rfl, _, rfl, ifB (fun c => ?_) fun c => ?_⟩
    · refine ⟨_, rfl, fun o dx ho hdx ne => mkO g1 n1 ho hdx ne fun H4 e4 nw => ⟨rfl, (by show 2 ≤ sizeLine; omega), fun t ht => ⟨rfl, _, rfl, _, p1, c1, rfl, rfl, .inl (SqL.of (by rw [upd_ne (ne_of_none (e4 _ _ g1) ht)]; exact e4 _ _ g1)), joinB n1, _, _, rfl, rfl, ?_, (by show 2 ≤ sizeLine; omega), fun u hu => ?_⟩⟩⟩
      · have := ordText_len n1
        show (6 : Nat) + (Txt.join blank c1).length ≤ sizeLine
        omega
      · have := one sBuild (.inl rfl) o H4 e4 nw t ht u hu
        rw [text1, lit_build] at this
        exact this
    · refine ⟨_, rfl, rfl, _, rfl, ifB (fun c' => ?_) fun c' => ?_⟩
      · refine ⟨_, rfl, fun o dx ho hdx ne => mkO g1 n1 ho hdx ne fun H4 e4 nw => ⟨rfl, (by show 2 ≤ sizeLine; omega), fun t ht => ⟨rfl, _, rfl, _, p1, c1, rfl, rfl, .inl (SqL.of (by rw [upd_ne (ne_of_none (e4 _ _ g1) ht)]; exact e4 _ _ g1)), joinB n1, _, _, rfl, rfl, ?_, (by show 2 ≤ sizeLine; omega), fun u hu => ?_⟩⟩⟩
        · have := ordText_len n1
          show (5 : Nat) + (Txt.join blank c1).length ≤ sizeLine
          omega
        · have := one sDrop (.inr rfl) o H4 e4 nw t ht u hu
          rw [text1, lit_drop] at this
          exact this
      · -- relay
        have rel : ∀ (c3 : List Str) (p3 : Addr) (H5 : Hp), SameB b H H5 → Bx H5 b (n + 40) → namesOk c3 → H5 p1 = some (.lst (c1.map V.str)) → H5 p3 = some (.lst (c3.map V.str)) →
            ∀ (o1 : Addr) (H6 : Hp), Same H5 H6 → Nw C H5 H6 (.ord c1) (.ref o1) → ∀ (o2 : Addr) (H7 : Hp), Same H6 H7 → Nw C H6 H7 (.ord c3) (.ref o2) → ∀ t, H7 t = none → ∀ u, upd H7 t (.tup [.str sRelay, .ref o1, .ref o2]) u = none →
            Q (.ref u) (upd (upd H7 t (.tup [.str sRelay, .ref o1, .ref o2])) u (.tup [.ref t, .str (stepText (stD (sRelay, [c1, c3])))])) := fun c3 p3 H5 sb5 bx5 n3 w1 w3 o1 H6 e6 m1 o2 H7 e7 m2 t ht u hu => by
          have e57 : Same H5 H7 := e6.trans e7
          have e5 : Same H5 (upd H7 t (.tup [.str sRelay, .ref o1, .ref o2])) := Same.upd' e57 (e57.free ht)
          have e8 : Same H5 (upd (upd H7 t (.tup [.str sRelay, .ref o1, .ref o2])) u (.tup [.ref t, .str (stepText (stD (sRelay, [c1, c3])))])) := Same.upd' e5 (e5.free hu)
          have d5 := sb5.dom bx5
          have k1 : NwL C H H7 [D.str sRelay, .ord c1, .ord c3] [.str sRelay, .ref o1, .ref o2] := (Nw.flat (d := .str sRelay) rfl).one.app (((m1.up d5).same e7).one.app (m2.up (d5.trans (.same e6))).one)
          have k2 : Nw C H (upd H7 t (.tup [.str sRelay, .ref o1, .ref o2])) (stD (sRelay, [c1, c3])) (.ref t) := k1.tup ht (d5.free (e57.free ht))
          refine q u (sRelay, [c1, c3]) _ (sb5.trans (.same e8)) (bx5.same e8) ⟨.inr ⟨rfl, rfl⟩, fun cs h => ?_⟩ ?_
          · rcases List.mem_cons.mp h with h | h
            · rw [h]; exact n1
            · rw [List.mem_singleton] at h; rw [h]; exact n3
          · exact (k2.one.app (Nw.flat (d := .str (stepText (stD (sRelay, [c1, c3])))) rfl).one).tup hu (d5.free (e5.free hu))
        refine ⟨_, rfl, rfl, _, rfl, ifB (fun c'' => ?_) fun c'' => ?_⟩
        · refine ⟨_, rfl, _, rfl, b, p1, c1, n + 11 + 11 + 1, rfl, bx3, by have := n1.2.1; omega, g1, by have := n1.2.1; omega, fun z hz => nameOk_so (n1.2.2.1 z hz), fun p3 c3 H5 hp3 sb5 bx5 h3 pm => ?_⟩
          have n3 : namesOk c3 := ⟨by rw [pm.length_eq]; exact n1.1, by rw [pm.length_eq]; exact n1.2.1, fun c hc => n1.2.2.1 c (pm.subset hc), pm.nodup_iff.mpr n1.2.2.2⟩
          have g5 : H5 p1 = some (.lst (c1.map V.str)) := sb5 _ _ nb1 g1
          have bx5' : Bx H5 b (n + 40) := bx5.more (by have := n1.2.1; omega)
          refine ⟨_, rfl, fun o dx ho hdx ne => mkO g5 n1 ho hdx ne fun H6 e6 m1 => ⟨rfl, _, rfl, fun o2 dx2 ho2 hdx2 ne2 => mkO (e6 _ _ h3) n3 ho2 hdx2 ne2 fun H7 e7 m2 => ⟨rfl, (by show 3 ≤ sizeLine; omega), fun t ht => ?_⟩⟩⟩
          have l1 := ordText_len n1
          have l3 := ordText_len n3
          have y1 : upd H7 t (.tup [.str sRelay, .ref o, .ref o2]) p1 = some (.lst (c1.map V.str)) := by rw [upd_ne (ne_of_none (e7 _ _ (e6 _ _ g5)) ht)]; exact e7 _ _ (e6 _ _ g5)
          have y3 : upd H7 t (.tup [.str sRelay, .ref o, .ref o2]) p3 = some (.lst (c3.map V.str)) := by rw [upd_ne (ne_of_none (e7 _ _ (e6 _ _ h3)) ht)]; exact e7 _ _ (e6 _ _ h3)
          refine ⟨rfl, _, rfl, _, p1, c1, rfl, rfl, .inl (SqL.of y1), joinB n1, _, _, rfl, rfl, ?_, _, _, rfl, rfl, ?_, rfl, _, rfl, _, p3, c3, rfl, rfl, .inl (SqL.of y3), joinB n3, _, _, rfl, rfl, ?_, (by show 2 ≤ sizeLine; omega), fun u hu => ?_⟩
          · show (6 : Nat) + (Txt.join blank c1).length ≤ sizeLine
            omega
          · show (("relay " : Str) ++ Txt.join blank c1).length + 3 ≤ sizeLine
            rw [Str.length_append]
            show 6 + (Txt.join blank c1).length + 3 ≤ sizeLine
            omega
          · show (("relay " : Str) ++ Txt.join blank c1 ++ (" > " : Str)).length + (Txt.join blank c3).length ≤ sizeLine
            rw [Str.length_append, Str.length_append]
            show 6 + (Txt.join blank c1).length + 3 + (Txt.join blank c3).length ≤ sizeLine
            omega
          · have := rel c3 p3 H5 (sb.trans sb5) bx5' n3 g5 h3 o H6 e6 m1 o2 H7 e7 m2 t ht u hu
            rw [text2, lit_relay] at this
            exact this
        · refine ⟨_, rfl, _, rfl, fun o dx ho hdx ne => mkO g1 n1 ho hdx ne fun H6 e6 m1 => ⟨rfl, _, rfl, fun o2 dx2 ho2 hdx2 ne2 => mkO (e6 _ _ g2) n2 ho2 hdx2 ne2 fun H7 e7 m2 => ⟨rfl, (by show 3 ≤ sizeLine; omega), fun t ht => ?_⟩⟩⟩
          have l1 := ordText_len n1
          have l3 := ordText_len n2
          have y1 : upd H7 t (.tup [.str sRelay, .ref o, .ref o2]) p1 = some (.lst (c1.map V.str)) := by rw [upd_ne (ne_of_none (e7 _ _ (e6 _ _ g1)) ht)]; exact e7 _ _ (e6 _ _ g1)
          have y3 : upd H7 t (.tup [.str sRelay, .ref o, .ref o2]) p2 = some (.lst (c2.map V.str)) := by rw [upd_ne (ne_of_none (e7 _ _ (e6 _ _ g2)) ht)]; exact e7 _ _ (e6 _ _ g2)
          refine ⟨rfl, _, rfl, _, p1, c1, rfl, rfl, .inl (SqL.of y1), joinB n1, _, _, rfl, rfl, ?_, _, _, rfl, rfl, ?_, rfl, _, rfl, _, p2, c2, rfl, rfl, .inl (SqL.of y3), joinB n2, _, _, rfl, rfl, ?_, (by show 2 ≤ sizeLine; omega), fun u hu => ?_⟩
          · show (6 : Nat) + (Txt.join blank c1).length ≤ sizeLine
            omega
          · show (("relay " : Str) ++ Txt.join blank c1).length + 3 ≤ sizeLine
            rw [Str.length_append]
            show 6 + (Txt.join blank c1).length + 3 ≤ sizeLine
            omega
          · show (("relay " : Str) ++ Txt.join blank c1 ++ (" > " : Str)).length + (Txt.join blank c2).length ≤ sizeLine
            rw [Str.length_append, Str.length_append]
            show 6 + (Txt.join blank c1).length + 3 + (Txt.join blank c2).length ≤ sizeLine
            omega
          · have := rel c2 p2 H3 sb bx n2 g1 g2 o H6 e6 m1 o2 H7 e7 m2 t ht u hu
            rw [text2, lit_relay] at this
            exact this
end
end SO
end
section
/-! k78, part L4: list.count of texts; _law_named -/
set_option maxHeartbeats 4000000
namespace SO
open PySem PySem.Spec PyProof.Rows L2 LamX XF

/-- xs.count(y), flat items -/
def rCountV (K : PySem.W.Frag) : V → List V → Hp → VK → Prop := fun x xs H Q => ∃ (a : Addr) (ys : List V) (y : V), x = V.ref a ∧ xs = [y] ∧ SqL K H a ys ∧ flatV y = true ∧ ys.all flatV = true ∧ Q (.int (ys.countP (fun z => eqV z y) : Nat)) H
theorem countU {y : V} : ∀ {ys : List V} {us : List Value}, Vals ys us → ys.all flatV = true → us.countP (eqU y) = ys.countP fun z => eqV z y
  | _, _, .nil, _ => rfl
  | z :: ys, u :: us, .cons r t, f => by
    rw [List.all_cons, Bool.and_eq_true] at f
    rw [List.countP_cons, List.countP_cons, eqU_of r f.1, countU t f.2]
theorem mt_countV {X : Cx} : MtR X "list.count" (rCountV X.K) := by
  intro pins s σ H x xs v us Q I rx rxs h
  obtain ⟨a, ys, y, rfl, rfl, hs, fy, fys, q⟩ := h
  cases rx
  cases rxs with
  | cons ry rt =>
    rename_i uy ut
    cases rt
    obtain ⟨its, rv, ⟨⟨cls, dd, data, sl⟩, n, ho, hc, hdn, hd⟩, hlen⟩ := I.list hs
    simp only at hc hd
    subst hc hd
    refine call_meets PySem.F.slot_list_count ⟨_, ho, rfl⟩ PySem.F.entry_list_count (PySem.F.args_list_count_2 _ _)
      (SeqAt.list_countAt a its.toArray n dd sl uy (eqU y)) ⟨ho, fun u' hu' => mem_eqAt ry fy rv fys u' (by simpa using hu'), ?_⟩
    have ec : its.toArray.toList.countP (eqU y) = ys.countP fun z => eqV z y := countU rv fys
    refine ⟨.int (ys.countP (fun z => eqV z y) : Nat), H, I.tok _, ⟨s.toks, ?_⟩, q⟩
    rw [ec]

abbrev sNamed : Stmt := topS 42
theorem scNamed : FnScope ["_law_words", "_law_letters", "_law_word", "_law_one"] ["_law_words"] (defScope sNamed) := ⟨rfl, rfl, rfl, by decide +kernel, rfl, by decide +kernel, by decide +kernel⟩
def named (ws : List Str) : Bool := decide (1 ≤ ws.length) && okWords ws
def spNamed : Sp := fun vs H Q _ => ∃ a, ∃ ws : List Str, vs = [.ref a] ∧ H a = some (.lst (ws.map V.str)) ∧ (∀ z ∈ ws, PyData.strOk z = true ∧ z.length ≤ 100000) ∧ ∀ H', Same H H' → Q (.bl (named ws)) H'
theorem kept_nil (x : Str) : ((List.range x.cps.size).filter fun i => !decide ((x.cps[i]?.getD 0) ∈ letters.cps.toList)) = [] ↔ x.cps.toList.all (fun c => decide (c ∈ letters.cps.toList)) = true := by
  rw [List.filter_eq_nil_iff, List.all_eq_true]
  constructor
  · intro h c hc
    obtain ⟨i, hi, e⟩ := List.mem_iff_getElem.mp hc
    have hi' : i < x.cps.size := by simpa using hi
    have q := h i (List.mem_range.mpr hi')
    have e2 : x.cps[i]?.getD 0 = c := by
      rw [Array.getElem?_eq_getElem hi', Option.getD_some]
      simpa using e
    rw [e2] at q
    simpa using q
  · intro h i hi
    have hi' : i < x.cps.size := List.mem_range.mp hi
    have q := h x.cps[i] (by simp)
    have e2 : x.cps[i]?.getD 0 = x.cps[i] := by rw [Array.getElem?_eq_getElem hi', Option.getD_some]
    rw [e2]
    simpa using q
theorem sign_so {x : Str} (h : PyData.strOk x = true) (i : Nat) : PyData.strOk ⟨#[x.cps[i]?.getD 0]⟩ = true := by
  unfold PyData.strOk at h ⊢
  cases e : x.cps[i]? with
  | none => simp
  | some c =>
    obtain ⟨hi, he⟩ := Array.getElem?_eq_some_iff.mp e
    have := Array.all_eq_true.mp h i hi
    rw [he] at this
    simpa using this
section
variable {P : Program} {w : World} {K : PySem.W.Frag} {mg : Str → Option Value} {base : Heap} {C : Addr}
theorem ok_named {f : Addr} {fd : FuncData} (F : Fun K "_law_named" "_law_named" sNamed f fd) (T : Txt K mg C) : FnOk P w K mg base CX0 1 f fd ["_law_words"] spNamed := by
  refine F.ok scNamed (fun vs H Q E h => ?_) (fun cdv A outer s H vs Q E hr h => ?_)
  · obtain ⟨a, ws, rfl, _⟩ := h
    rfl
  · obtain ⟨a, ws, rfl, ha, hs, k⟩ := h
    have hu : (cxOf CX0 P w K mg base ["_law_words", "_law_letters", "_law_word", "_law_one"] "_law_named" (defScope sNamed) f cdv A outer s H E).nox.A.units + 64 < cLine := hr.units
    refine ⟨_, pss_cons (ps_if (PW.pt (pw_or (pt_not (pt_chain op_lt op_lt pe_int (pe_callB call_len (by rfl) T.len PySem.boot_len (pa_cons (pv 0) pa_nil)) pe_int)) (pw_or1 (pt_cmpR op_ne
          (pe_callB cr_lenK (by rfl) T.len PySem.boot_len (pa_cons (pe_callTy (cr_setTx rfl) (by rfl) T.set (by decide +kernel) (pa_cons (pv 0) pa_nil)) pa_nil)) (pe_callB call_len (by rfl) T.len PySem.boot_len (pa_cons (pv 0) pa_nil)) (nomark _))))) (pss_one (ps_ret pe_bl)) pss_nil)
      (pss_cons (ps_set (i := 1) scNamed.nd rfl (Or.inr rfl) pe_str)
      (pss_cons (ps_for PassesOwn.never rfl (pi_list (pv 0)) (pg_name (i := 2) scNamed.nd rfl (Or.inl rfl))
        (pss_one (ps_if (PW.pt (pw_or (pt_not (pt_chain op_lt op_lt pe_int (pe_callB call_len (by rfl) T.len PySem.boot_len (pa_cons (pv 2) pa_nil)) pe_int)) (pw_or1 (pt_cmpR (op_neNil hu)
            (pe_lc (own := [("_law_one", 3)]) (g := gName 3) (tt := tTest (tOp (fun x y H Q => ∃ (c : Nat) (z : Str), x = .str ⟨#[c]⟩ ∧ y = .str z ∧ Q (.bl (!decide (c ∈ z.cps.toList))) H) (tVar 3) (tVar 1))) rfl scNamed.nd (pi_str (pv 2)) (blkOk_by (N := ["_law_words", "_law_letters", "_law_word", "_law_one"]) (sc := defScope sNamed) (by decide +kernel))
              (fun _ _ _ _ _ => pg_name (i := 3) scNamed.nd rfl (Or.inl rfl)) (fun _ _ _ _ _ => pts_one (pt_cmpR op_notIn_sign (pv 3) (pv 1) (by rfl))) (fun _ _ _ _ _ => pv 3)) (pe_lst pa_nil) (nomark _))))) (pss_one (ps_ret pe_bl)) pss_nil)))
      (pss_one (ps_ret pe_bl)))), ?_⟩
    have big : sizeLine = 16777216 := sizeLine_eq
    have sb : scanBound = 4096 := rfl
    have hl : ((ws.map V.str).length : Int) = (ws.length : Int) := by rw [List.length_map]
    have no : named ws = false → ∀ H', Same H H' → Q (.bl false) H' := fun e H' e1 => by have := k H' e1; rw [e] at this; exact this
    refine ⟨_, rfl, _, _, rfl, .inl ⟨_, SqL.of ha, rfl⟩, _, _, rfl, rfl, _, rfl, ifB (fun c1 => ?_) fun c1 => ⟨_, rfl, ifT rfl (ifT rfl (no ?_ H (Same.refl H)))⟩⟩
    · have c1 : decide ((0 : Int) < ((ws.map V.str).length : Int)) = true := c1
      have c1 := of_decide_eq_true c1
      rw [hl] at c1
      refine ⟨_, _, rfl, rfl, _, rfl, ifB (fun c2 => ifT rfl (no ?_ H (Same.refl H))) fun c2 => ?_⟩
      · have c2 : (!decide (((ws.map V.str).length : Int) < 6)) = true := c2
        rw [hl] at c2
        have c3 : ¬ ((ws.length : Int) < 6) := by simpa using c2
        have c4 : ¬ ws.length ≤ 5 := by omega
        simp [named, okWords, c4]
      · have c2 : (!decide (((ws.map V.str).length : Int) < 6)) = false := c2
        rw [hl] at c2
        have c3 : ((ws.length : Int) < 6) := by simpa using c2
        have l5 : ws.length ≤ 5 := by omega
        have l1 : 1 ≤ ws.length := by omega
        refine ⟨_, rfl, a, ws, rfl, SqL.of ha, by omega, fun p hp => ⟨p, _, _, rfl, upd_same, by have := nd_le ws; omega, ?_⟩⟩
        have e1 : Same H (upd H p (SetK P w p (memK ws) (nd ws))) := Same.upd' (Same.refl H) hp
        have ha1 := e1 _ _ ha
        refine ⟨_, rfl, _, _, rfl, .inl ⟨_, SqL.of ha1, rfl⟩, rfl, _, rfl, ifB (fun c4 => ?_) fun c4 => ?_⟩
        · have c4 : (!decide (V.int (nd ws : Nat) = V.int ((ws.map V.str).length : Nat))) = true := c4
          have c5 : ¬ nd ws = ws.length := fun e => by rw [e, List.length_map] at c4; simp at c4
          have c6 : ¬ ws.Nodup := fun h => c5 ((nd_eq ws).mpr h)
          exact no (by simp [named, okWords, c6]) _ e1
        · have c4 : (!decide (V.int (nd ws : Nat) = V.int ((ws.map V.str).length : Nat))) = false := c4
          have c5 : nd ws = ws.length := by
            rw [List.length_map] at c4
            have c5 : V.int (nd ws : Nat) = V.int (ws.length : Nat) := by simpa using c4
            have := V.int.inj c5
            omega
          have c6 : ws.Nodup := (nd_eq ws).mp c5
          refine ⟨_, rfl, a, rfl, ⟨_, SqL.of ha1⟩, for_it (walk_list (xs := ws.map V.str)) (fun i σ H' => ∃ p q, σ = [some (.ref a), some (.str letters), p, q] ∧ Same H H' ∧ (ws.take i).all nameOk = true) ⟨none, none, rfl, e1, rfl⟩
            (fun i σ H' _ p => let ⟨_, _, _, e, _⟩ := p; SqL.of (e _ _ ha)) (fun i v σ H2 H3 hi p y => ?_) fun σ H2 p => ?_⟩
          · obtain ⟨p, q, rfl, e2, hall⟩ := p
            obtain ⟨rfl, hy⟩ := y
            have hi' : i < ws.length := by rw [List.length_map] at hi; exact hi
            have ew : ws[i]? = some ws[i] := List.getElem?_eq_getElem hi'
            rw [List.getElem?_map, ew] at hy
            cases hy
            have hz := hs ws[i] (List.getElem_mem hi')
            have bad : nameOk ws[i] = false → named ws = false := fun h => by
              have : ws.all nameOk = false := by
                rw [Bool.eq_false_iff]
                intro h2
                have := List.all_eq_true.mp h2 ws[i] (List.getElem_mem hi')
                rw [h] at this; cases this
              simp [named, okWords, this]
            refine ⟨_, rfl, _, _, rfl, ⟨by show ws[i].length ≤ sizeLine; omega, rfl⟩, _, _, rfl, rfl, _, rfl, ifB (fun d1 => ?_) fun d1 => ⟨_, rfl, ifT rfl (ifT rfl (no (bad ?_) H3 e2))⟩⟩
            · have d1 : decide ((0 : Int) < (ws[i].length : Int)) = true := d1
              have d1 := of_decide_eq_true d1
              refine ⟨_, _, rfl, rfl, _, rfl, ifB (fun d2 => ifT rfl (no (bad ?_) H3 e2)) fun d2 => ?_⟩
              · have d2 : (!decide ((ws[i].length : Int) < 9)) = true := d2
                have d3 : ¬ ((ws[i].length : Int) < 9) := by simpa using d2
                have d4 : ¬ ws[i].length ≤ 8 := by omega
                simp [nameOk, d4]
              · have d2 : (!decide ((ws[i].length : Int) < 9)) = false := d2
                have d3 : ((ws[i].length : Int) < 9) := by simpa using d2
                have d4 : ws[i].length ≤ 8 := by omega
                have d5 : 0 < ws[i].length := by omega
                refine ⟨_, rfl, _, rfl, fun D hD => lc_flat (walk_str (z := ws[i])) (fun j => !decide ((ws[i].cps[j]?.getD 0) ∈ letters.cps.toList)) (fun j => .str ⟨#[ws[i].cps[j]?.getD 0]⟩) (by show ws[i].length < sizeLine; omega) hD (fun _ _ => True.intro) (fun j y H4 H5 hj e y' => ?_) gName_mono fun H4 e4 h4 => ?_⟩
                · obtain ⟨rfl, c, hc, rfl⟩ := y'
                  refine ⟨rfl, fun N0 N1 n0 n1 => ⟨_, rfl, _, rfl, c, letters, rfl, rfl, _, rfl, ?_⟩⟩
                  have ec : ws[i].cps[j]?.getD 0 = c := by rw [hc]; rfl
                  rw [ec] at n0 n1
                  exact ifB (fun t => ⟨_, rfl, n1 t H5 (Same.refl _)⟩) fun t => n0 t H5 (Same.refl _)
                · refine ⟨Nat.zero_le _, fun e he => ⟨D, e, ((List.range ws[i].cps.size).filter fun j => !decide ((ws[i].cps[j]?.getD 0) ∈ letters.cps.toList)).map (fun j => ⟨#[ws[i].cps[j]?.getD 0]⟩), rfl, rfl, SqL.of (by rw [upd_ne (ne_of_none h4 he), h4, List.map_map]; rfl), SqL.of upd_same, fun z hzm => ?_, _, rfl, ifB (fun t => ?_) fun t => ?_⟩⟩
                  · obtain ⟨j, _, rfl⟩ := List.mem_map.mp hzm
                    exact sign_so hz.1 j
                  · have t2 : ¬ _ := of_decide_eq_true t
                    refine no (bad ?_) _ ((e2.trans e4).trans (Same.upd' (Same.refl H4) he))
                    have : ws[i].cps.toList.all (fun c => decide (c ∈ letters.cps.toList)) = false := by
                      rw [Bool.eq_false_iff]
                      intro h2
                      exact t2 (by rw [(kept_nil ws[i]).mpr h2]; rfl)
                    unfold nameOk
                    rw [this, Bool.and_false]
                  · have t2 : ¬¬ _ := of_decide_eq_false t
                    have t3 := Classical.not_not.mp t2
                    have t4 := (kept_nil ws[i]).mp (List.map_eq_nil_iff.mp t3)
                    refine ⟨_, _, rfl, (e2.trans e4).trans (Same.upd' (Same.refl H4) he), ?_⟩
                    have t5 : nameOk ws[i] = true := by unfold nameOk; rw [t4, decide_eq_true d5, decide_eq_true d4]; rfl
                    rw [List.take_add_one, ew, List.all_append, hall]
                    show (true && (nameOk ws[i] && true)) = true
                    rw [t5]; rfl
            · have d1 : decide ((0 : Int) < (ws[i].length : Int)) = false := d1
              have d2 : ¬ ((0 : Int) < (ws[i].length : Int)) := of_decide_eq_false d1
              have d3 : ¬ 0 < ws[i].length := by omega
              simp [nameOk, d3]
          · obtain ⟨p, q, rfl, e2, hall⟩ := p
            rw [List.length_map, List.take_length] at hall
            have := k H2 e2
            rw [show named ws = true by simp [named, okWords, l1, l5, hall, c6]] at this
            exact this
    · have c1 : decide ((0 : Int) < ((ws.map V.str).length : Int)) = false := c1
      have c2 := of_decide_eq_false c1
      rw [hl] at c2
      have c3 : ¬ 1 ≤ ws.length := by omega
      simp [named, c3]
end
end SO
end
section
/-! k78, part L5: _law_read -/
set_option maxHeartbeats 4000000
namespace SO
open PySem PySem.Spec PyProof.Rows L2 LamX XF

abbrev sRead : Stmt := topS 43
theorem scRead : FnScope ["_law_line", "_law_words", "_law_at"] ["_law_line"] (defScope sRead) := ⟨rfl, rfl, rfl, by decide +kernel, rfl, by decide +kernel, by decide +kernel⟩
def gt : Str := ">"
def headS (ws : List Str) : Str := ws.headD Str.empty
/-- how the law reads the words of a line -/
def readW (ws : List Str) : Option (Str × List (List Str)) :=
  if (decide (headS ws = sBuild) || decide (headS ws = sDrop)) && named (ws.drop 1) then some (headS ws, [ws.drop 1])
  else if decide (headS ws = sRelay) && decide (ws.countP (fun z => decide (z = gt)) = 1) then
    if named ((ws.drop 1).take (ws.findIdx (fun z => decide (z = gt)) - 1)) && named (ws.drop (ws.findIdx (fun z => decide (z = gt)) + 1)) then
      some (sRelay, [(ws.drop 1).take (ws.findIdx (fun z => decide (z = gt)) - 1), ws.drop (ws.findIdx (fun z => decide (z = gt)) + 1)])
    else none
  else none
def readL (x : Str) : Option (Str × List (List Str)) := readW (Txt.split x blank)
def spRead (C : Addr) : Sp := fun vs H Q _ => ∃ x : Str, vs = [.str x] ∧ PyData.strOk x = true ∧ x.length ≤ 100000 ∧ (∀ st, readL x = some st → ∀ o H', Same H H' → Nw C H H' (stD st) (.ref o) → Q (.ref o) H') ∧ (readL x = none → ∀ H', Same H H' → Q .non H')
theorem cutFrom (xs : List V) (k : Nat) : cutV xs (some (k : Int)) none = xs.drop k := by
  unfold cutV
  rw [HT.sIx_none, HT.sIx_nat]
  by_cases h : k ≤ xs.length
  · rw [Nat.min_eq_left h, List.take_of_length_le (by rw [List.length_drop]; exact Nat.le_refl _)]
  · rw [Nat.min_eq_right (by omega), List.drop_length, List.drop_of_length_le (by omega), List.take_nil]
theorem cutMid (v : V) (vr : List V) (k : Nat) : cutV (v :: vr) (some 1) (some (k : Int)) = vr.take (k - 1) := by
  have e : HT.sIx (v :: vr).length 0 (some 1) = 1 := by
    have := HT.sIx_nat (v :: vr).length 0 1
    simp at this
    exact this
  unfold cutV
  rw [e, HT.sIx_nat, List.drop_one, List.tail_cons, List.length_cons]
  by_cases h : k ≤ vr.length + 1
  · rw [Nat.min_eq_left h]
  · rw [Nat.min_eq_right (by omega), List.take_of_length_le (by omega), List.take_of_length_le (by omega)]
theorem joinL_mem {c : Nat} {s : List Nat} : ∀ {ls : List (List Nat)} {z : List Nat}, z ∈ ls → c ∈ z → c ∈ TL.joinL s ls
  | [a], z, h, hc => by
    rw [List.mem_singleton] at h
    subst h
    exact hc
  | a :: b :: r, z, h, hc => by
    show c ∈ a ++ (s ++ TL.joinL s (b :: r))
    rcases List.mem_cons.mp h with e | h
    · rw [← e]; exact List.mem_append_left _ hc
    · exact List.mem_append_right _ (List.mem_append_right _ (joinL_mem h hc))
/-- the signs of a part are signs of the text -/
theorem split_mem {x y z : Str} (h : z ∈ Txt.split x y) {c : Nat} (hc : c ∈ z.cps.toList) : c ∈ x.cps.toList := by
  have e := TL.tl_join y (Txt.split x y)
  rw [StrLaws.join_split x y] at e
  show c ∈ TL.tl x
  rw [e]
  exact joinL_mem (List.mem_map.mpr ⟨z, h, rfl⟩) hc
theorem so_iff (x : Str) : PyData.strOk x = true ↔ ∀ c ∈ x.cps.toList, c < 0x110000 := by
  unfold PyData.strOk
  rw [← Array.all_toList, List.all_eq_true]
  exact ⟨fun h c hc => of_decide_eq_true (h c hc), fun h c hc => decide_eq_true (h c hc)⟩
theorem split_so {x y z : Str} (hx : PyData.strOk x = true) (h : z ∈ Txt.split x y) : PyData.strOk z = true := (so_iff z).mpr fun c hc => (so_iff x).mp hx c (split_mem h hc)
theorem named_ok {ws : List Str} (h : named ws = true) : namesOk ws := by
  have h : (decide (1 ≤ ws.length) && (decide (ws.length ≤ 5) && ws.all nameOk && decide ws.Nodup)) = true := h
  simp only [Bool.and_eq_true, decide_eq_true_eq, List.all_eq_true] at h
  exact ⟨h.1, h.2.1.1, h.2.1.2, h.2.2⟩
section
variable {P : Program} {w : World} {K : PySem.W.Frag} {mg : Str → Option Value} {base : Heap} {C : Addr}
theorem ok_read {f : Addr} {fd : FuncData} (F : Fun K "_law_read" "_law_read" sRead f fd) (T : Txt K mg C) (FN : Fk P w K mg base CX0 1 "_law_named" ["_law_words"] spNamed) (MO : C8.Mak P w K mg base 3 "Order" C (spOInit C) []) : FnOk P w K mg base CX0 5 f fd ["_law_line"] (spRead C) := by
  refine F.ok scRead (fun vs H Q E h => ?_) (fun cdv A outer s H vs Q E hr h => ?_)
  · obtain ⟨x, rfl, _⟩ := h
    rfl
  · obtain ⟨x, rfl, hso, hz, k1, k2⟩ := h
    refine ⟨_, pss_cons (ps_set (i := 1) scRead.nd rfl (Or.inl rfl) (pe_bm PySem.F.plainAttrs_str PySem.F.slot_str_split PySem.F.type_str_split mt_split (pv 0) (pa_cons pe_str pa_nil)))
      (C8.pss_cut (ps_if (PW.pt (pw_and (pt_cmpR op_in_seq (pe_ix ix_list (pv 1) pe_int (fun _ _ => rfl)) (pe_tup (pa_cons pe_str (pa_cons pe_str pa_nil))) (by rfl)) (pw_and1 (pt_val (pcall FN (hr.mono (by decide)) (pa_cons (pe_slice sl_list (pv 1) (po_some pe_int) po_none) pa_nil))))))
        (pss_one (ps_ret (pe_tup (pa_cons (pe_ix ix_list (pv 1) pe_int (fun _ _ => rfl)) (pa_cons (C8.pe_mk MO hr (by decide) (by rfl) (pa_cons (pe_slice sl_list (pv 1) (po_some pe_int) po_none) pa_nil)) pa_nil))))) pss_nil)
      (pss_cons (ps_if (PW.pt (pw_and (pt_cmpR op_eq (pe_ix ix_list (pv 1) pe_int (fun _ _ => rfl)) pe_str (nomark _)) (pw_and1 (pt_cmpR op_eq (pe_bm PySem.F.plainAttrs_list PySem.F.slot_list_count PySem.F.type_list_count mt_countV (pv 1) (pa_cons pe_str pa_nil)) pe_int (nomark _)))))
        (pss_cons (ps_set (i := 2) scRead.nd rfl (Or.inl rfl) (pe_bm PySem.F.plainAttrs_list PySem.F.slot_list_index PySem.F.type_list_index mt_index (pv 1) (pa_cons pe_str pa_nil)))
        (pss_one (ps_if (PW.pt (pw_and (pt_val (pcall FN (hr.mono (by decide)) (pa_cons (pe_slice sl_list (pv 1) (po_some pe_int) (po_some (pv 2))) pa_nil))) (pw_and1 (pt_val (pcall FN (hr.mono (by decide)) (pa_cons (pe_slice sl_list (pv 1) (po_some (pe_op op_add (pv 2) pe_int)) po_none) pa_nil))))))
          (pss_one (ps_ret (pe_tup (pa_cons pe_str (pa_cons (C8.pe_mk MO hr (by decide) (by rfl) (pa_cons (pe_slice sl_list (pv 1) (po_some pe_int) (po_some (pv 2))) pa_nil)) (pa_cons (C8.pe_mk MO hr (by decide) (by rfl) (pa_cons (pe_slice sl_list (pv 1) (po_some (pe_op op_add (pv 2) pe_int)) po_none) pa_nil)) pa_nil)))))) pss_nil))) pss_nil)
      (pss_one (ps_ret pe_non)))), ?_⟩
    have big : sizeLine = 16777216 := sizeLine_eq
    refine ⟨_, rfl, rfl, x, blank, rfl, rfl, rfl, by omega, fun p hp => ?_⟩
    have e1 : Same H (upd H p (.lst ((Txt.split x blank).map V.str))) := Same.upd' (Same.refl H) hp
    have h1 : upd H p (.lst ((Txt.split x blank).map V.str)) p = some (.lst ((Txt.split x blank).map V.str)) := upd_same
    show gName 1 _ _ (upd H p (.lst ((Txt.split x blank).map V.str))) _
    generalize upd H p (.lst ((Txt.split x blank).map V.str)) = H1 at e1 h1 ⊢
    have hw : ∀ z ∈ Txt.split x blank, PyData.strOk z = true ∧ z.length ≤ 100000 := fun z h => ⟨split_so hso h, Nat.le_trans (split_part (by decide) h) hz⟩
    have hpos := PyProof.Rows.split_pos x blank
    have hlen : (Txt.split x blank).length ≤ 200000 := by have := PyProof.Rows.split_le x blank; omega
    have rl : readL x = readW (Txt.split x blank) := rfl
    generalize Txt.split x blank = ws at h1 hw hpos hlen rl
    obtain ⟨w0, wr, rfl⟩ : ∃ w0 wr, ws = w0 :: wr := by
      cases ws with
      | nil => simp at hpos
      | cons a b => exact ⟨a, b, rfl⟩
    have h1 : H1 p = some (.lst (V.str w0 :: wr.map V.str)) := h1
    have hb2 : inV (.str w0) [.str "build", .str "drop"] = (decide (w0 = sBuild) || decide (w0 = sDrop)) := by
      show (eqV (.str sBuild) (.str w0) || (eqV (.str sDrop) (.str w0) || false)) = _
      rw [eqV_str, eqV_str, Bool.or_false]
    have two : ((decide (w0 = sBuild) || decide (w0 = sDrop)) && named wr) = false → readL x = if decide (w0 = sRelay) && decide ((w0 :: wr).countP (fun z => decide (z = gt)) = 1) then
        if named (wr.take ((w0 :: wr).findIdx (fun z => decide (z = gt)) - 1)) && named ((w0 :: wr).drop ((w0 :: wr).findIdx (fun z => decide (z = gt)) + 1)) then
          some (sRelay, [wr.take ((w0 :: wr).findIdx (fun z => decide (z = gt)) - 1), (w0 :: wr).drop ((w0 :: wr).findIdx (fun z => decide (z = gt)) + 1)]) else none else none := fun h => by
      rw [rl]
      unfold readW
      rw [show headS (w0 :: wr) = w0 from rfl, show (w0 :: wr).drop 1 = wr from rfl, h]
      rfl
    have dr : decide (V.str w0 = V.str "relay") = decide (w0 = sRelay) := by
      rw [Bool.eq_iff_iff, decide_eq_true_iff, decide_eq_true_iff]
      exact ⟨fun e => V.str.inj e, fun e => congrArg V.str e⟩
    have hcnt : ((w0 :: wr).map V.str).countP (fun z => eqV z (.str ">")) = (w0 :: wr).countP (fun z => decide (z = gt)) := by
      rw [List.countP_map]
      refine congrArg (fun f => List.countP f (w0 :: wr)) (funext fun z => ?_)
      show eqV (.str z) (.str gt) = decide (z = gt)
      rw [eqV_str, Bool.eq_iff_iff, decide_eq_true_iff, decide_eq_true_iff]
      exact eq_comm
    have mid : ∀ k : Nat, cutV (V.str w0 :: wr.map V.str) (some 1) (some (k : Int)) = (wr.take (k - 1)).map V.str := fun k => by rw [cutMid, List.map_take]
    have frm : ∀ k : Nat, cutV (V.str w0 :: wr.map V.str) (some ((k : Int) + 1)) none = ((w0 :: wr).drop (k + 1)).map V.str := fun k => by
      have := cutFrom ((w0 :: wr).map V.str) (k + 1)
      rw [List.map_drop]
      exact this
    have sub1 : ∀ k z, z ∈ wr.take k → PyData.strOk z = true ∧ z.length ≤ 100000 := fun k z hz => hw z (List.mem_cons_of_mem _ (List.mem_of_mem_take hz))
    have sub2 : ∀ k z, z ∈ (w0 :: wr).drop k → PyData.strOk z = true ∧ z.length ≤ 100000 := fun k z hz => hw z (List.mem_of_mem_drop hz)
    refine ⟨fun σ' H' => σ' = [some (.str x), some (.ref p), none] ∧ Same H H' ∧ H' p = some (.lst (V.str w0 :: wr.map V.str)) ∧ ((decide (w0 = sBuild) || decide (w0 = sDrop)) && named wr) = false, ?first, ?rest⟩
    case first =>
     refine ⟨_, rfl, p, _, _, _, rfl, rfl, SqL.of h1, atI_nat (j := 0) rfl, (by show 2 ≤ sizeLine; omega), fun t ht => ⟨t, _, rfl, .inr (SqT.of upd_same), rfl, rfl, _, rfl, ?_⟩⟩
     have e2 : Same H (upd H1 t (.tup [.str "build", .str "drop"])) := Same.upd' e1 (e1.free ht)
     have h2 : upd H1 t (.tup [.str "build", .str "drop"]) p = some (.lst (V.str w0 :: wr.map V.str)) := by rw [upd_ne (ne_of_none h1 ht)]; exact h1
     generalize upd H1 t (.tup [.str "build", .str "drop"]) = H2 at e2 h2 ⊢
     refine ifB (fun c => ?_) fun c => ?_
     · have c : inV (.str w0) [.str "build", .str "drop"] = true := c
       rw [hb2] at c
       refine ⟨_, rfl, 1, rfl, p, _, rfl, SqL.of h2, fun r hr2 => ?_⟩
       rw [cut1]
       refine ⟨r, wr, rfl, upd_same, fun z hz => hw z (List.mem_cons_of_mem _ hz), fun H3 e3 => ⟨_, rfl, ifB (fun d => ?_) fun d => ?_⟩⟩
       · have e4 : Same H H3 := (Same.upd' e2 (e2.free hr2)).trans e3
         have h3 : H3 p = some (.lst (V.str w0 :: wr.map V.str)) := e3 _ _ (by rw [upd_ne (ne_of_none h2 hr2)]; exact h2)
         have nm := named_ok d
         refine ⟨_, rfl, p, _, _, _, rfl, rfl, SqL.of h3, atI_nat (j := 0) rfl, _, rfl, 1, rfl, p, _, rfl, SqL.of h3, fun r2 hr3 => ?_⟩
         rw [cut1]
         refine fun o dx ho hdx ne => mkO upd_same nm ho hdx ne fun H4 e5 nw => ⟨rfl, (by show 2 ≤ sizeLine; omega), fun u hu => ?_⟩
         have e6 : Same H (upd H3 r2 (.lst (wr.map V.str))) := Same.upd' e4 (e4.free hr3)
         have e7 : Same H H4 := e6.trans e5
         have rd : readL x = some (w0, [wr]) := by
           rw [rl]
           unfold readW
           rw [show headS (w0 :: wr) = w0 from rfl, show (w0 :: wr).drop 1 = wr from rfl, c, show named wr = true from d]
           rfl
         refine k1 _ rd u _ (Same.upd' e7 (e7.free hu)) ?_
         exact ((Nw.flat (d := .str w0) rfl).one.app (nw.up (.same e6)).one).tup hu (e7.free hu)
       · exact ⟨rfl, (Same.upd' e2 (e2.free hr2)).trans e3, e3 _ _ (by rw [upd_ne (ne_of_none h2 hr2)]; exact h2), by rw [c, Bool.true_and]; exact d⟩
     · have c : inV (.str w0) [.str "build", .str "drop"] = false := c
       rw [hb2] at c
       exact ⟨rfl, e2, h2, by rw [c, Bool.false_and]⟩
    case rest =>
     rintro σ H2 ⟨rfl, e2, h2, no1⟩
     have rd := two no1
     refine ⟨_, rfl, p, _, _, _, rfl, rfl, SqL.of h2, atI_nat (j := 0) rfl, rfl, _, rfl, ?_⟩
     have fl : (V.str w0 :: wr.map V.str).all flatV = true := flat_strs (w0 :: wr)
     refine ifB (fun c => ?_) fun c => ?_
     · have c : decide (V.str w0 = V.str "relay") = true := c
       rw [dr] at c
       refine ⟨_, rfl, .inl ⟨rfl, _, SqL.of h2⟩, p, _, .str ">", rfl, rfl, SqL.of h2, rfl, fl, rfl, _, rfl, ifB (fun d => ?_) fun d => ?_⟩
       · have d : decide (V.int (((V.str w0 :: wr.map V.str).countP (fun z => eqV z (.str ">")) : Nat) : Int) = V.int 1) = true := d
         have d2 : decide ((w0 :: wr).countP (fun z => decide (z = gt)) = 1) = true := by
           rw [decide_eq_true_iff] at d ⊢
           have d3 := V.int.inj d
           rw [← hcnt]
           have d4 : ((((w0 :: wr).map V.str).countP (fun z => eqV z (.str ">")) : Nat) : Int) = 1 := d3
           omega
         have ex : ∃ z ∈ w0 :: wr, decide (z = gt) = true := by
           have : 0 < (w0 :: wr).countP (fun z => decide (z = gt)) := by rw [of_decide_eq_true d2]; decide
           exact List.countP_pos_iff.mp this
         have jl : (w0 :: wr).findIdx (fun z => decide (z = gt)) < (w0 :: wr).length := List.findIdx_lt_length_of_exists ex
         have jz : (w0 :: wr)[(w0 :: wr).findIdx (fun z => decide (z = gt))]? = some gt := by
           rw [List.getElem?_eq_getElem jl]
           exact congrArg some (of_decide_eq_true (List.findIdx_getElem (w := jl)))
         have jn : ∀ m z, m < (w0 :: wr).findIdx (fun z => decide (z = gt)) → (w0 :: wr)[m]? = some z → z ≠ gt := fun m z hm hz e => by
           have := List.not_of_lt_findIdx hm
           obtain ⟨hl, hzz⟩ := List.getElem?_eq_some_iff.mp hz
           rw [hzz, e] at this
           simp at this
         rw [c, d2] at rd
         generalize (w0 :: wr).findIdx (fun z => decide (z = gt)) = j at jl jz jn rd
         refine ⟨_, rfl, .inl ⟨rfl, _, SqL.of h2⟩, p, _, .str ">", j, .str gt, rfl, rfl, SqL.of h2, rfl, fl, ?_, by rw [eqV_str]; exact decide_eq_true rfl, fun m z' hm hz' => ?_, ?_⟩
         · have : ((w0 :: wr).map V.str)[j]? = some (.str gt) := by rw [List.getElem?_map, jz]; rfl
           exact this
         · have hz'' : ((w0 :: wr).map V.str)[m]? = some z' := hz'
           rw [List.getElem?_map] at hz''
           cases e : (w0 :: wr)[m]? with
           | none => rw [e] at hz''; cases hz''
           | some z =>
             rw [e] at hz''
             cases hz''
             have := jn m z hm e
             show eqV (.str z) (.str gt) = false
             rw [eqV_str]
             exact decide_eq_false fun q => this q.symm
         · refine ⟨_, rfl, 1, rfl, _, rfl, _, rfl, p, _, rfl, SqL.of h2, fun r hr2 => ?_⟩
           rw [mid j]
           refine ⟨r, wr.take (j - 1), rfl, upd_same, sub1 _, fun H3 e3 => ⟨_, rfl, ifB (fun g1 => ?_) fun g1 => ?_⟩⟩
           · have e4 : Same H H3 := (Same.upd' e2 (e2.free hr2)).trans e3
             have h3 : H3 p = some (.lst (V.str w0 :: wr.map V.str)) := e3 _ _ (by rw [upd_ne (ne_of_none h2 hr2)]; exact h2)
             refine ⟨_, rfl, _, rfl, _, _, rfl, rfl, _, rfl, p, _, rfl, SqL.of h3, fun r2 hr3 => ?_⟩
             rw [frm j]
             refine ⟨r2, (w0 :: wr).drop (j + 1), rfl, upd_same, sub2 _, fun H4 e5 => ⟨_, rfl, ifB (fun g2 => ?_) fun g2 => ?_⟩⟩
             · have e6 : Same H H4 := (Same.upd' e4 (e4.free hr3)).trans e5
               have h4 : H4 p = some (.lst (V.str w0 :: wr.map V.str)) := e5 _ _ (by rw [upd_ne (ne_of_none h3 hr3)]; exact h3)
               have rd2 : readL x = some (sRelay, [wr.take (j - 1), (w0 :: wr).drop (j + 1)]) := by
                 rw [rd, show named (wr.take (j - 1)) = true from g1, show named ((w0 :: wr).drop (j + 1)) = true from g2]
                 rfl
               have n1 := named_ok g1
               have n2 := named_ok g2
               refine ⟨_, rfl, 1, rfl, _, rfl, _, rfl, p, _, rfl, SqL.of h4, fun r3 hr4 => ?_⟩
               rw [mid j]
               refine fun o dx ho hdx ne => mkO upd_same n1 ho hdx ne fun H5 e7 nw1 => ⟨rfl, ?_⟩
               have e8 : Same H (upd H4 r3 (.lst ((wr.take (j - 1)).map V.str))) := Same.upd' e6 (e6.free hr4)
               have e9 : Same H H5 := e8.trans e7
               have h5 : H5 p = some (.lst (V.str w0 :: wr.map V.str)) := e7 _ _ (by rw [upd_ne (ne_of_none h4 hr4)]; exact h4)
               refine ⟨_, rfl, _, rfl, _, _, rfl, rfl, _, rfl, p, _, rfl, SqL.of h5, fun r4 hr5 => ?_⟩
               rw [frm j]
               refine fun o2 dx2 ho2 hdx2 ne2 => mkO upd_same n2 ho2 hdx2 ne2 fun H6 e10 nw2 => ⟨rfl, (by show 3 ≤ sizeLine; omega), fun u hu => ?_⟩
               have e11 : Same H (upd H5 r4 (.lst (((w0 :: wr).drop (j + 1)).map V.str))) := Same.upd' e9 (e9.free hr5)
               have e12 : Same H H6 := e11.trans e10
               refine k1 _ rd2 u _ (Same.upd' e12 (e12.free hu)) ?_
               have m1 : Nw C H H6 (.ord (wr.take (j - 1))) (.ref o) := (nw1.up (.same e8)).same ((Same.upd' (Same.refl H5) hr5).trans e10)
               exact ((Nw.flat (d := .str sRelay) rfl).one.app (m1.one.app (nw2.up (.same e11)).one)).tup hu (e12.free hu)
             · refine k2 ?_ H4 ((Same.upd' e4 (e4.free hr3)).trans e5)
               rw [rd, show named ((w0 :: wr).drop (j + 1)) = false from g2, Bool.and_false]
               rfl
           · refine k2 ?_ H3 ((Same.upd' e2 (e2.free hr2)).trans e3)
             rw [rd, show named (wr.take (j - 1)) = false from g1]
             rfl
       · have d : decide (V.int (((V.str w0 :: wr.map V.str).countP (fun z => eqV z (.str ">")) : Nat) : Int) = V.int 1) = false := d
         have d2 : decide ((w0 :: wr).countP (fun z => decide (z = gt)) = 1) = false := by
           rw [decide_eq_false_iff_not] at d ⊢
           intro e
           rw [← hcnt] at e
           exact d (congrArg (fun n : Nat => V.int (n : Int)) e)
         refine k2 ?_ H2 e2
         rw [rd, d2, Bool.and_false]
         rfl
     · have c : decide (V.str w0 = V.str "relay") = false := c
       rw [dr] at c
       refine k2 ?_ H2 e2
       rw [rd, c]
       rfl
end
end SO
end
section
/-! k78, part L6: _law_due -/
set_option maxHeartbeats 4000000
namespace SO
open PySem PySem.Spec PyProof.Rows L2 LamX XF

abbrev sDue : Stmt := topS 45
theorem scDue : FnScope ["_law_text", "_law_found", "_law_index", "_law_line", "_law_step_here"] ["_law_text"] (defScope sDue) := ⟨rfl, rfl, rfl, by decide +kernel, rfl, by decide +kernel, by decide +kernel⟩
def dueD : Sum Nat (List (Str × List (List Str))) → D
  | .inl k => .lst [.str "line", .int (k : Nat)]
  | .inr sts => .lst [.str "told", .lst (sts.map stD)]
def spDue (C : Addr) : Sp := fun vs H Q _ => ∃ x : Str, vs = [.str x] ∧ PyData.strOk x = true ∧ x.length ≤ 100000 ∧ ∀ o H', Same H H' → Nw C H H' (dueD (dueL readL 0 (linesOf x))) (.ref o) → Q (.ref o) H'
section
variable {P : Program} {w : World} {K : PySem.W.Frag} {mg : Str → Option Value} {base : Heap} {C : Addr}
/-- a new list, displayed -/
theorem NwL.disp {C o : Addr} {H H' : Hp} {ds : List D} {vs : List V} (x : NwL C H H' ds vs) (ho : H' o = none) (hh : H o = none) : Nw C H (upd H' o (.lst vs)) (.lst ds) (.ref o) := (x.same (Same.upd' (Same.refl H') ho)).lst upd_same hh
theorem loopDue {Q : VK} {a fo : Addr} {x : Str} {H0 H1 : Hp} {ls : List Str} (h1 : H1 a = some (.lst (ls.map V.str))) (f1 : H1 fo = some (.lst [])) (e1 : Same H0 H1) (f0 : H0 fo = none) (ne : a ≠ fo) (hls : ∀ z ∈ ls, PyData.strOk z = true ∧ z.length ≤ 100000) (hll : ls.length ≤ 200000)
    (hk : ∀ o H', Same H0 H' → Nw C H0 H' (dueD (dueL readL 0 ls)) (.ref o) → Q (.ref o) H') :
    ∃ W : Nat → Nat → L2.St → Hp → Prop, (∃ m, W 0 m [some (.str x), some (.ref fo), none, none, none] H1) ∧ ∀ i m σ H, W i m σ H →
      ((Ite K a).stop i H ∧ tRet (tLst (tCons (tC (.str "told")) (tCons (tVar 1) tNil))) { nx := fun _ H' => Q V.non H', rt := Q } σ H) ∨ ((Ite K a).go i H ∧ ∃ N : L2.St → Hp → Prop, (∀ σ' H', N σ' H' → ∃ m', m' < m ∧ W (i + 1) m' σ' H') ∧ ∀ v H', (Ite K a).yld i H v H' → gTup K 2 (gCons (gName 2) (gCons (gName 3) gNil)) v σ H' fun σ2 H2 =>
        tSeq (tAsg (tCall (spRead C) [] E0 (tCons (tVar 3) tNil)) (gName 4)) (tSeq (tIfS (tOr (tTest (tOp (fun x y H Q => y = V.non ∧ Q (V.bl (decide (x = V.non))) H) (tVar 4) (tC .non))) (tTest (tOp rEq (tVar 2) (tC (.int 100)))))
          (tRet (tLst (tCons (tC (.str "line")) (tCons (tVar 2) tNil)))) tNext) (tDrop (tBM K "list" rAppend (tVar 1) (tCons (tVar 4) tNil))))
          { nx := N, rt := Q, bk := tRet (tLst (tCons (tC (.str "told")) (tCons (tVar 1) tNil))) { nx := fun _ H' => Q V.non H', rt := Q }, ct := N } σ2 H2) := by
  have big : sizeLine = 16777216 := sizeLine_eq
  refine for_it (D := { nx := tRet (tLst (tCons (tC (.str "told")) (tCons (tVar 1) tNil))) { nx := fun _ H' => Q V.non H', rt := Q }, rt := Q }) (walk_enum (xs := ls.map V.str)) (fun i σ H => ∃ p q r, σ = [some (.str x), some (.ref fo), p, q, r] ∧ Same H0 H ∧ Dom H1 H ∧ H a = some (.lst (ls.map V.str)) ∧ i ≤ 100 ∧ ∃ sts ws, allS readL (ls.take i) = some sts ∧ H fo = some (.lst ws) ∧ NwL C (upd H0 fo (.lst [])) H (sts.map stD) ws)
    ⟨none, none, none, rfl, e1, Dom.refl _, h1, Nat.zero_le _, [], [], rfl, f1, .nil⟩ (fun i σ H _ p => let ⟨_, _, _, _, _, _, h, _⟩ := p; SqL.of h) (fun i v σ H H' hi p y => ?_) fun σ H p => ?_
  · obtain ⟨p, q, r, rfl, e, dm, ha, i100, sts, ws, hs, hf, hw⟩ := p
    obtain ⟨T, _, y, rfl, hT, rfl, ei, hy⟩ := y
    cases ei
    have hy : (ls.map V.str)[i]? = some y := hy
    have hi' : i < ls.length := by rw [List.length_map] at hi; exact hi
    have ew : ls[i]? = some ls[i] := List.getElem?_eq_getElem hi'
    rw [List.getElem?_map, ew] at hy
    cases hy
    refine ⟨T, _, rfl, SqT.of upd_same, rfl, _, _, rfl, _, _, rfl, rfl, ?_⟩
    have e' : Same H0 (upd H T (.tup [.int (i : Nat), .str ls[i]])) := Same.upd' e (e.free hT)
    have dm' : Dom H1 (upd H T (.tup [.int (i : Nat), .str ls[i]])) := dm.upd T _
    have hf' : upd H T (.tup [.int (i : Nat), .str ls[i]]) fo = some (.lst ws) := by rw [upd_ne (ne_of_none hf hT)]; exact hf
    have ha' : upd H T (.tup [.int (i : Nat), .str ls[i]]) a = some (.lst (ls.map V.str)) := by rw [upd_ne (ne_of_none ha hT)]; exact ha
    have hw' : NwL C (upd H0 fo (.lst [])) (upd H T (.tup [.int (i : Nat), .str ls[i]])) (sts.map stD) ws := hw.same (Same.upd' (Same.refl H) hT)
    generalize upd H T (.tup [.int (i : Nat), .str ls[i]]) = H2 at e' dm' hf' ha' hw' ⊢
    have hz := hls _ (List.getElem_mem hi')
    have out : i = 100 ∨ readL ls[i] = none → ∀ H3, Same H0 H3 → ∀ o, H3 o = none → Q (.ref o) (upd H3 o (.lst [.str "line", .int (i : Nat)])) := fun hb H3 e3 o ho => by
      refine hk o _ (Same.upd' e3 (e3.free ho)) ?_
      rw [due_bad ew hs i100 hb]
      exact ((Nw.flat (d := .str "line") rfl).one.app (Nw.flat (d := .int (i : Nat)) rfl).one).disp ho (e3.free ho)
    refine ⟨_, rfl, ls[i], rfl, hz.1, hz.2, fun st hst o H4 e4 nw => ?_, fun hno H4 e4 => ?_⟩
    · refine ⟨_, rfl, rfl, _, rfl, ifF rfl ⟨_, rfl, rfl, _, rfl, ifB (fun c => ?_) fun c => ?_⟩⟩
      · have c : decide (V.int (i : Nat) = V.int 100) = true := c
        rw [dec_int] at c
        have c2 : i = 100 := by have := beq_iff_eq.mp c; omega
        exact ⟨_, rfl, (by show 2 ≤ sizeLine; omega), fun o' ho' => out (.inl c2) H4 (e'.trans e4) o' ho'⟩
      · have c : decide (V.int (i : Nat) = V.int 100) = false := c
        rw [dec_int] at c
        have c2 : i ≠ 100 := fun e => by subst e; simp at c
        have d0 : Dom (upd H0 fo (.lst [])) H2 := fun b ob h => by
          by_cases eb : b = fo
          · rw [eb]; exact ⟨_, hf'⟩
          · rw [upd_ne eb] at h; exact ⟨_, e' b ob h⟩
        have hl : sts.length = (ls.take i).length := allS_len hs
        have hl2 := hw'.rp.len
        rw [List.length_map] at hl2
        rw [List.length_take] at hl
        refine ⟨_, rfl, .inl ⟨rfl, _, SqL.of (e4 _ _ hf')⟩, _, rfl, fo, ws, .ref o, rfl, rfl, e4 _ _ hf', by omega, _, _, _, rfl, Same.upd' (e'.trans e4) f0, (dm'.trans (.same e4)).upd fo _, by rw [upd_ne ne]; exact e4 _ _ ha', by omega, sts ++ [st], ws ++ [V.ref o], allS_take ew hs hst, upd_same, ?_⟩
        rw [List.map_append]
        exact ((hw'.same e4).app (nw.up d0).one).wr upd_same
    · exact ⟨_, rfl, rfl, _, rfl, ifT rfl (ifT rfl ⟨_, rfl, (by show 2 ≤ sizeLine; omega), fun o' ho' => out (.inr hno) H4 (e'.trans e4) o' ho'⟩)⟩
  · obtain ⟨p, q, r, rfl, e, dm, ha, i100, sts, ws, hs, hf, hw⟩ := p
    rw [List.length_map] at i100 hs
    rw [List.take_length] at hs
    refine ⟨_, rfl, (by show 2 ≤ sizeLine; omega), fun o ho => hk o _ (Same.upd' e (e.free ho)) ?_⟩
    rw [due_ok hs i100]
    have m := (hw.up ((Dom.refl H0).upd fo _)).lst hf f0
    exact ((Nw.flat (d := .str "told") rfl).one.app m.one).disp ho (e.free ho)
theorem ok_due {f : Addr} {fd : FuncData} (F : Fun K "_law_due" "_law_due" sDue f fd) (T : Txt K mg C) (FR : Fk P w K mg base CX0 5 "_law_read" ["_law_line"] (spRead C)) : FnOk P w K mg base CX0 6 f fd ["_law_text"] (spDue C) := by
  refine F.ok scDue (fun vs H Q E h => ?_) (fun cdv A outer s H vs Q E hr h => ?_)
  · obtain ⟨x, rfl, _⟩ := h
    rfl
  · obtain ⟨x, rfl, hso, hz, k⟩ := h
    refine ⟨_, pss_cons (ps_set (i := 1) scDue.nd rfl (Or.inl rfl) (pe_lst pa_nil))
      (pss_cons (ps_for PassesOwn.never rfl (pi_enum (by rfl) T.enumerate (pa_cons (pe_ifExp (pt_cmpR op_ne (pv 0) pe_str (nomark _)) (pe_bm PySem.F.plainAttrs_str PySem.F.slot_str_split PySem.F.type_str_split mt_split (pv 0) (pa_cons pe_str pa_nil)) (pe_lst pa_nil)) pa_nil))
          (pg_tup rfl (pgs_cons (pg_name (i := 2) scDue.nd rfl (Or.inl rfl)) (pgs_cons (pg_name (i := 3) scDue.nd rfl (Or.inl rfl)) pgs_nil)))
        (pss_cons (ps_set (i := 4) scDue.nd rfl (Or.inl rfl) (pcall FR hr (pa_cons (pv 3) pa_nil)))
        (pss_cons (ps_if (PW.pt (pw_or (pt_cmpR op_isN (pv 4) pe_non (by rfl)) (pw_or1 (pt_cmpR op_eq (pv 2) pe_int (nomark _))))) (pss_one (ps_ret (pe_lst (pa_cons pe_str (pa_cons (pv 2) pa_nil))))) pss_nil)
        (pss_one (ps_expr (pe_bm PySem.F.plainAttrs_list PySem.F.slot_list_append PySem.F.type_list_append mt_append (pv 1) (pa_cons (pv 4) pa_nil)))))))
      (pss_one (ps_ret (pe_lst (pa_cons pe_str (pa_cons (pv 1) pa_nil)))))), ?_⟩
    have big : sizeLine = 16777216 := sizeLine_eq
    refine ⟨Nat.zero_le _, fun fo hfo => ?_⟩
    have e1 : Same H (upd H fo (.lst [])) := Same.upd' (Same.refl H) hfo
    have f1 : upd H fo (.lst []) fo = some (.lst []) := upd_same
    refine ⟨_, rfl, rfl, _, rfl, ifB (fun c => ?_) fun c => ?_⟩
    · refine ⟨_, rfl, rfl, _, _, rfl, rfl, rfl, by omega, fun a ha => ⟨a, _, rfl, SqL.of upd_same, ?_⟩⟩
      have dn : decide (V.str x = V.str "") = false := by
        have c : (!decide (V.str x = V.str "")) = true := c
        simpa using c
      have xne : x ≠ Str.empty := fun e => of_decide_eq_false dn (congrArg V.str e)
      have el : linesOf x = Txt.split x nl := by unfold linesOf; rw [if_neg xne]
      have ha0 : H a = none := by
        have := ne_of_none f1 ha
        rw [upd_ne this.symm] at ha
        exact ha
      have hs1 := PyProof.Rows.split_le x nl
      exact loopDue (C := C) (H0 := H) upd_same (by rw [upd_ne (ne_of_none f1 ha)]; exact f1) (Same.upd' e1 ha0) hfo (ne_of_none f1 ha).symm (fun z h => ⟨split_so hso h, Nat.le_trans (split_part (by decide) h) hz⟩) (by show (Txt.split x nl).length ≤ _; omega) (fun o H' e nw => k o H' e (by rw [el]; exact nw))
    · have dn : decide (V.str x = V.str "") = true := by
        have c : (!decide (V.str x = V.str "")) = false := c
        simpa using c
      have xe : x = Str.empty := V.str.inj (of_decide_eq_true dn)
      have el : linesOf x = [] := by unfold linesOf; rw [if_pos xe]
      refine ⟨Nat.zero_le _, fun a ha => ⟨a, [], rfl, SqL.of upd_same, ?_⟩⟩
      have ha0 : H a = none := by
        have := ne_of_none f1 ha
        rw [upd_ne this.symm] at ha
        exact ha
      exact loopDue (C := C) (ls := []) (H0 := H) upd_same (by rw [upd_ne (ne_of_none f1 ha)]; exact f1) (Same.upd' e1 ha0) hfo (ne_of_none f1 ha).symm (fun z h => absurd h (by simp)) (by simp) (fun o H' e nw => k o H' e (by rw [el]; exact nw))
end
end SO
end
section
/-! k78, part L7: _law_bent -/
set_option maxHeartbeats 4000000
namespace SO
open PySem PySem.Spec PyProof.Rows L2 LamX XF

abbrev sBent : Stmt := topS 44
theorem scBent : FnScope ["_law_box_here", "_law_text", "_law_way", "_law_at", "_law_sign", "_law_words", "_law_some"] ["_law_box_here", "_law_text"] (defScope sBent) := ⟨rfl, rfl, rfl, by decide +kernel, rfl, by decide +kernel, by decide +kernel⟩
/-- the result: no odd sign, not much longer -/
def bentOk (x y : Str) : Prop := PyData.strOk y = true ∧ y.length ≤ 2 * x.length + 10
def spBent : Sp := fun vs H Q _ => ∃ b, ∃ x : Str, ∃ n : Nat, vs = [.ref b, .str x] ∧ Bx H b n ∧ n ≤ 800000 ∧ PyData.strOk x = true ∧ x.length ≤ 40000 ∧ ∀ y H', SameB b H H' → Bx H' b (n + 5) → bentOk x y → Q (.str y) H'
theorem cutS_so {x : Str} (h : PyData.strOk x = true) (lo hi : Option Int) : PyData.strOk (cutS x lo hi) = true := (so_iff _).mpr fun c hc => (so_iff x).mp h c (by
  have hc : c ∈ (x.cps.toList.drop (HT.sIx x.length 0 lo)).take (HT.sIx x.length x.length hi - HT.sIx x.length 0 lo) := by simpa [cutS] using hc
  exact List.mem_of_mem_drop (List.mem_of_mem_take hc))
theorem app_so {x y : Str} (h : PyData.strOk x = true) (h2 : PyData.strOk y = true) : PyData.strOk (x ++ y) = true := (so_iff _).mpr fun c hc => by
  have hc : c ∈ TL.tl (x ++ y) := hc
  rw [TL.tl_append] at hc
  rcases List.mem_append.mp hc with q | q
  · exact (so_iff x).mp h c q
  · exact (so_iff y).mp h2 c q
theorem joinL_of {c : Nat} {s : List Nat} : ∀ {ls : List (List Nat)}, c ∈ TL.joinL s ls → c ∈ s ∨ ∃ z ∈ ls, c ∈ z
  | [], h => absurd h (by simp [TL.joinL])
  | [a], h => .inr ⟨a, by simp, h⟩
  | a :: b :: r, h => by
    have h : c ∈ a ++ (s ++ TL.joinL s (b :: r)) := h
    rcases List.mem_append.mp h with h | h
    · exact .inr ⟨a, by simp, h⟩
    · rcases List.mem_append.mp h with h | h
      · exact .inl h
      · rcases joinL_of h with h | ⟨z, hz, hc⟩
        · exact .inl h
        · exact .inr ⟨z, List.mem_cons_of_mem _ hz, hc⟩
theorem join_so {s : Str} {ws : List Str} (hs : PyData.strOk s = true) (h : ∀ z ∈ ws, PyData.strOk z = true) : PyData.strOk (Txt.join s ws) = true := (so_iff _).mpr fun c hc => by
  have hc : c ∈ TL.tl (Txt.join s ws) := hc
  rw [TL.join_eq, TL.tl_join] at hc
  rcases joinL_of hc with q | ⟨z, hz, q⟩
  · exact (so_iff s).mp hs c q
  · obtain ⟨w, hw, rfl⟩ := List.mem_map.mp hz
    exact (so_iff w).mp (h w hw) c q
theorem cutS_len (x : Str) (lo hi : Option Int) : (cutS x lo hi).length ≤ x.length := by
  show ((x.cps.toList.drop (HT.sIx x.length 0 lo)).take (HT.sIx x.length x.length hi - HT.sIx x.length 0 lo)).toArray.size ≤ x.cps.size
  rw [List.size_toArray, List.length_take, List.length_drop, Array.length_toList]
  omega
def signsC : Str := " \n>aA:=-+z"
theorem signsC_so : ∀ c ∈ signsC.cps.toList, PyData.strOk ⟨#[c]⟩ = true := by decide +kernel
theorem sumJ : ∀ {ws : List Str} {n : Nat}, (ws.map (·.length)).sum + ws.length ≤ n → ∀ z ∈ ws, z.length + 1 ≤ n
  | a :: ws, n, h, z, hz => by
    rw [List.map_cons, List.sum_cons, List.length_cons] at h
    rcases List.mem_cons.mp hz with e | hz
    · rw [e]; omega
    · exact sumJ (n := n) (by omega) z hz
theorem sum_app (a b : List Str) : ((a ++ b).map (·.length)).sum = (a.map (·.length)).sum + (b.map (·.length)).sum := by rw [List.map_append, List.sum_append]
theorem join_le (ys : List Str) : (Txt.join blank ys).length ≤ (ys.map (·.length)).sum + ys.length := by
  have h : (Txt.join blank ys).length ≤ (ys.map (·.length)).sum + ys.length * blank.length := by rw [TL.join_eq]; exact StrLaws.join_length_le blank ys
  have e : blank.length = 1 := rfl
  rw [e] at h
  omega
section
variable {P : Program} {w : World} {K : PySem.W.Frag} {mg : Str → Option Value} {base : Heap} {C : Addr}
theorem ok_bent {f : Addr} {fd : FuncData} (F : Fun K "_law_bent" "_law_bent" sBent f fd) (T : Txt K mg C) (FT : Fk P w K mg base CX0 1 "_law_take" ["_law_box_here", "_law_many"] spTake) : FnOk P w K mg base CX0 2 f fd ["_law_box_here", "_law_text"] spBent := by
  refine F.ok scBent (fun vs H Q E h => ?_) (fun cdv A outer s H vs Q E hr h => ?_)
  · obtain ⟨b, x, n, rfl, _⟩ := h
    rfl
  · obtain ⟨b, x, n, rfl, hb, hn, hso, hz, q⟩ := h
    refine ⟨_, pss_cons (ps_par (i := 2) (j := 3) (by rfl) scBent.nd rfl rfl (by decide) rfl rfl (pa_cons (pcall FT hr (pa_cons (pv 0) (pa_cons pe_int pa_nil))) (pa_cons (pcall FT hr (pa_cons (pv 0) (pa_cons (pe_op op_add (pe_callB call_len (by rfl) T.len PySem.boot_len (pa_cons (pv 1) pa_nil)) pe_int) pa_nil))) pa_nil)) (by rfl))
      (pss_cons (ps_set (i := 4) scBent.nd rfl (Or.inl rfl) (pe_ix ix_str pe_str (pcall FT hr (pa_cons (pv 0) (pa_cons pe_int pa_nil))) (fun _ _ => rfl)))
      (pss_cons (ps_if (pt_cmpR op_eq (pv 2) pe_int (nomark _)) (pss_one (ps_ret (pe_op op_add_str (pe_op op_add_str (pe_slice sl_str (pv 1) po_none (po_some (pv 3))) (pv 4)) (pe_slice sl_str (pv 1) (po_some (pv 3)) po_none)))) pss_nil)
      (pss_cons (ps_if (pt_cmpR op_eq (pv 2) pe_int (nomark _)) (pss_one (ps_ret (pe_op op_add_str (pe_slice sl_str (pv 1) po_none (po_some (pv 3))) (pe_slice sl_str (pv 1) (po_some (pe_op op_add (pv 3) pe_int)) po_none)))) pss_nil)
      (pss_cons (ps_if (pt_cmpR op_eq (pv 2) pe_int (nomark _)) (pss_one (ps_ret (pe_op op_add_str (pe_op op_add_str (pe_slice sl_str (pv 1) po_none (po_some (pv 3))) (pv 4)) (pe_slice sl_str (pv 1) (po_some (pe_op op_add (pv 3) pe_int)) po_none)))) pss_nil)
      (pss_cons (ps_set (i := 5) scBent.nd rfl (Or.inl rfl) (pe_bm PySem.F.plainAttrs_str PySem.F.slot_str_split PySem.F.type_str_split mt_split (pv 1) (pa_cons pe_str pa_nil)))
      (pss_cons (ps_set (i := 3) scBent.nd rfl (Or.inl rfl) (pcall FT hr (pa_cons (pv 0) (pa_cons (pe_callB call_len (by rfl) T.len PySem.boot_len (pa_cons (pv 5) pa_nil)) pa_nil))))
      (pss_cons (ps_if (pt_cmpR op_eq (pv 2) pe_int (nomark _)) (pss_one (ps_ret (pe_bm PySem.F.plainAttrs_str PySem.F.slot_str_join PySem.F.type_str_join mt_join pe_str (pa_cons
          (pe_op op_cat (pe_op op_cat (pe_slice sl_list (pv 5) po_none (po_some (pv 3))) (pe_lst (pa_cons (pe_ix ix_list (pv 5) (pv 3) (fun _ _ => rfl)) pa_nil))) (pe_slice sl_list (pv 5) (po_some (pv 3)) po_none)) pa_nil)))) pss_nil)
      (pss_cons (ps_set (i := 6) scBent.nd rfl (Or.inl rfl) (pe_lst (pa_cons (pe_bm PySem.F.plainAttrs_str PySem.F.slot_str_join PySem.F.type_str_join mt_join pe_str (pa_cons
          (pe_op op_cat (pe_slice sl_list (pv 5) po_none (po_some (pv 3))) (pe_slice sl_list (pv 5) (po_some (pe_op op_add (pv 3) pe_int)) po_none)) pa_nil)) (pa_cons (pe_op op_add_str (pv 1) pe_str) (pa_cons (pe_op op_add_str pe_str (pv 1)) (pa_cons (pv 1) pa_nil))))))
      (pss_one (ps_ret (pe_ifExp (pt_cmpR op_eq (pv 2) pe_int (nomark _)) (pe_ix ix_list (pv 6) (pcall FT hr (pa_cons (pv 0) (pa_cons pe_int pa_nil))) (fun _ _ => rfl)) (pv 1)))))))))))), ?_⟩
    have big : sizeLine = 16777216 := sizeLine_eq
    obtain ⟨ob, hob⟩ := hb.has
    refine ⟨_, rfl, b, 6, n, rfl, hb, by omega, by decide, by decide, fun j1 H1 hj1 sb1 bx1 => ⟨_, rfl, _, rfl, _, _, rfl, ⟨by show x.length ≤ sizeLine; omega, rfl⟩, _, _, rfl, rfl, b, _, n + 1, rfl, bx1, by omega, by omega, by omega, fun j2 H2 hj2 sb2 bx2 => ⟨_, _, rfl, ?_⟩⟩⟩
    refine ⟨_, rfl, b, 10, n + 1 + 1, rfl, bx2, by omega, by decide, by decide, fun j3 H3 hj3 sb3 bx3 => ?_⟩
    have sl : signsC.cps.toList.length = 10 := rfl
    have hj3' : j3 < signsC.cps.toList.length := by rw [sl]; omega
    have hsg := signsC_so _ (List.getElem_mem hj3')
    refine ⟨signsC, _, signsC.cps.toList[j3], rfl, rfl, (by decide), atI_nat (List.getElem?_eq_getElem hj3'), ?_⟩
    generalize signsC.cps.toList[j3] = sg at hsg
    have sb : SameB b H H3 := (sb1.trans sb2).trans sb3
    have c1 : ∀ lo hi, PyData.strOk (cutS x lo hi) = true := cutS_so hso
    have c2 : ∀ lo hi, (cutS x lo hi).length ≤ x.length := cutS_len x
    have sg1 : (⟨#[sg]⟩ : Str).length = 1 := rfl
    have bx : Bx H3 b (n + 5) := bx3.more (by omega)
    have zl : x.length ≤ sizeLine := by omega
    refine ⟨_, rfl, rfl, _, rfl, ifB (fun d => ?_) fun d => ?_⟩
    · refine ⟨_, rfl, _, rfl, _, rfl, x, rfl, zl, _, rfl, _, _, rfl, rfl, ?_, _, rfl, _, rfl, _, rfl, x, rfl, zl, _, _, rfl, rfl, ?_, q _ _ sb bx ⟨app_so (app_so (c1 _ _) hsg) (c1 _ _), ?_⟩⟩
      · have := c2 none (some (j2 : Int)); rw [sg1]; omega
      · have := c2 none (some (j2 : Int)); have := c2 (some (j2 : Int)) none; rw [Str.length_append, sg1]; omega
      · have := c2 none (some (j2 : Int)); have := c2 (some (j2 : Int)) none; rw [Str.length_append, Str.length_append, sg1]; omega
    · refine ⟨_, rfl, rfl, _, rfl, ifB (fun d' => ?_) fun d' => ?_⟩
      · refine ⟨_, rfl, _, rfl, _, rfl, x, rfl, zl, _, rfl, _, rfl, _, _, rfl, rfl, _, rfl, x, rfl, zl, _, _, rfl, rfl, ?_, q _ _ sb bx ⟨app_so (c1 _ _) (c1 _ _), ?_⟩⟩
        · have := c2 none (some (j2 : Int)); have := c2 (some ((j2 : Int) + 1)) none; omega
        · have := c2 none (some (j2 : Int)); have := c2 (some ((j2 : Int) + 1)) none; rw [Str.length_append]; omega
      · refine ⟨_, rfl, rfl, _, rfl, ifB (fun d'' => ?_) fun d'' => ?_⟩
        · refine ⟨_, rfl, _, rfl, _, rfl, x, rfl, zl, _, rfl, _, _, rfl, rfl, ?_, _, rfl, _, rfl, _, _, rfl, rfl, _, rfl, x, rfl, zl, _, _, rfl, rfl, ?_, q _ _ sb bx ⟨app_so (app_so (c1 _ _) hsg) (c1 _ _), ?_⟩⟩
          · have := c2 none (some (j2 : Int)); rw [sg1]; omega
          · have := c2 none (some (j2 : Int)); have := c2 (some ((j2 : Int) + 1)) none; rw [Str.length_append, sg1]; omega
          · have := c2 none (some (j2 : Int)); have := c2 (some ((j2 : Int) + 1)) none; rw [Str.length_append, Str.length_append, sg1]; omega
        · -- words
          refine ⟨_, rfl, rfl, x, blank, rfl, rfl, rfl, by omega, fun p hp => ?_⟩
          have hw : ∀ z ∈ Txt.split x blank, PyData.strOk z = true := fun z h => split_so hso h
          have hwt := PyProof.Rows.split_weight x blank (by decide)
          have hpos := PyProof.Rows.split_pos x blank
          have hnl : blank.length = 1 := rfl
          have sbp : SameB b H (upd H3 p (.lst ((Txt.split x blank).map V.str))) := sb.trans (.same (Same.upd' (Same.refl H3) hp))
          have bxp : Bx (upd H3 p (.lst ((Txt.split x blank).map V.str))) b (n + 3) := bx3.same (Same.upd' (Same.refl H3) hp)
          have npb : p ≠ b := fun e => by obtain ⟨o, h⟩ := bx3.has; rw [e, h] at hp; cases hp
          have hp1 : upd H3 p (.lst ((Txt.split x blank).map V.str)) p = some (.lst ((Txt.split x blank).map V.str)) := upd_same
          show gName 5 _ _ (upd H3 p (.lst ((Txt.split x blank).map V.str))) _
          generalize upd H3 p (.lst ((Txt.split x blank).map V.str)) = H4 at sbp bxp hp1 ⊢
          generalize Txt.split x blank = ws at hw hwt hpos hp1 ⊢
          have hwl : ((ws.map V.str).length : Int) = (ws.length : Int) := by rw [List.length_map]
          refine ⟨_, rfl, _, rfl, _, _, rfl, .inl ⟨_, SqL.of hp1, rfl⟩, b, _, n + 3, rfl, bxp, by omega, by rw [hwl]; omega, by rw [hwl]; omega, fun j4 H5 hj4 sb5 bx5 => ?_⟩
          rw [hwl] at hj4
          have hj4' : j4 < ws.length := by omega
          have hp5 : H5 p = some (.lst (ws.map V.str)) := sb5 _ _ npb hp1
          have sb6 : SameB b H H5 := sbp.trans sb5
          have bx6 : Bx H5 b (n + 5) := bx5.more (by omega)
          refine ⟨_, rfl, rfl, _, rfl, ifB (fun g => ?_) fun g => ?_⟩
          · have t1 : cutV (ws.map V.str) none (some (j4 : Int)) = (ws.take j4).map V.str := by rw [cutTo, List.map_take]
            have t2 : cutV (ws.map V.str) (some (j4 : Int)) none = (ws.drop j4).map V.str := by rw [cutFrom, List.map_drop]
            have ew : (ws.map V.str)[j4]? = some (V.str ws[j4]) := by rw [List.getElem?_map, List.getElem?_eq_getElem hj4']; rfl
            have hall : (ws.map (·.length)).sum = ((ws.take j4).map (·.length)).sum + ((ws.drop j4).map (·.length)).sum := by rw [← sum_app, List.take_append_drop]
            have hone := sumJ (n := x.length + 1) (by omega) ws[j4] (List.getElem_mem hj4')
            have hlt : (ws.take j4).length + (ws.drop j4).length = ws.length := by rw [← List.length_append, List.take_append_drop]
            refine ⟨rfl, _, rfl, _, rfl, _, rfl, p, _, rfl, SqL.of hp5, fun a1 h1 => ?_⟩
            rw [t1]
            have f1 : Same H5 (upd H5 a1 (.lst ((ws.take j4).map V.str))) := Same.upd' (Same.refl _) h1
            refine ⟨_, rfl, _, rfl, p, _, _, _, rfl, rfl, SqL.of (f1 _ _ hp5), atI_nat ew, (by show 1 ≤ sizeLine; omega), fun a2 h2 => ?_⟩
            have f2 : Same H5 (upd (upd H5 a1 (.lst ((ws.take j4).map V.str))) a2 (.lst [.str ws[j4]])) := Same.upd' f1 (f1.free h2)
            have n21 : a2 ≠ a1 := fun e => by rw [e, upd_same] at h2; cases h2
            refine ⟨a1, a2, _, _, rfl, rfl, by rw [upd_ne n21.symm, upd_same], upd_same, by rw [List.length_map]; show (ws.take j4).length + 1 ≤ sizeLine; omega, fun a3 h3 => ?_⟩
            have f3 := Same.upd' (o := .lst ((ws.take j4).map V.str ++ [.str ws[j4]])) f2 (f2.free h3)
            refine ⟨_, rfl, _, rfl, _, rfl, p, _, rfl, SqL.of (f3 _ _ hp5), fun a4 h4 => ?_⟩
            rw [t2]
            have f4 := Same.upd' (o := .lst ((ws.drop j4).map V.str)) f3 (f3.free h4)
            have n43 : a4 ≠ a3 := fun e => by rw [e, upd_same] at h4; cases h4
            refine ⟨a3, a4, _, _, rfl, rfl, by rw [upd_ne n43.symm, upd_same], upd_same, by rw [List.length_append, List.length_map, List.length_map]; show (ws.take j4).length + 1 + (ws.drop j4).length ≤ sizeLine; omega, fun a5 h5 => ?_⟩
            have f5 := Same.upd' (o := .lst ((ws.take j4).map V.str ++ [.str ws[j4]] ++ (ws.drop j4).map V.str)) f4 (f4.free h5)
            have hsum : ((ws.take j4 ++ [ws[j4]] ++ ws.drop j4).map (·.length)).sum = (ws.map (·.length)).sum + ws[j4].length := by
              rw [sum_app, sum_app, hall]
              show _ + (ws[j4].length + 0) + _ = _
              omega
            have hll : (ws.take j4 ++ [ws[j4]] ++ ws.drop j4).length = ws.length + 1 := by
              rw [List.length_append, List.length_append]
              show (ws.take j4).length + 1 + (ws.drop j4).length = _
              omega
            refine ⟨_, a5, ws.take j4 ++ [ws[j4]] ++ ws.drop j4, rfl, rfl, .inl (SqL.of (by rw [upd_same, List.map_append, List.map_append]; rfl)), ?_, q _ _ (sb6.trans (.same f5)) (bx6.same f5) ⟨join_so (by decide +kernel) fun z hz => ?_, ?_⟩⟩
            · show _ + _ * blank.length ≤ _
              rw [hsum, hll, hnl]; omega
            · rcases List.mem_append.mp hz with h | h
              · rcases List.mem_append.mp h with h | h
                · exact hw z (List.mem_of_mem_take h)
                · rw [List.mem_singleton] at h; rw [h]; exact hw _ (List.getElem_mem hj4')
              · exact hw z (List.mem_of_mem_drop h)
            · have := join_le (ws.take j4 ++ [ws[j4]] ++ ws.drop j4)
              rw [hsum, hll] at this
              show (Txt.join blank _).length ≤ _
              omega
          · have t1 : cutV (ws.map V.str) none (some (j4 : Int)) = (ws.take j4).map V.str := by rw [cutTo, List.map_take]
            have t2 : cutV (ws.map V.str) (some ((j4 : Int) + 1)) none = (ws.drop (j4 + 1)).map V.str := by
              have := cutFrom (ws.map V.str) (j4 + 1)
              rw [List.map_drop]
              exact this
            have hall : (ws.map (·.length)).sum = ((ws.take j4).map (·.length)).sum + ((ws.drop j4).map (·.length)).sum := by rw [← sum_app, List.take_append_drop]
            have hlt : (ws.take j4).length + (ws.drop j4).length = ws.length := by rw [← List.length_append, List.take_append_drop]
            have hd : ((ws.drop (j4 + 1)).map (·.length)).sum ≤ ((ws.drop j4).map (·.length)).sum ∧ (ws.drop (j4 + 1)).length ≤ (ws.drop j4).length := by
              rw [List.drop_eq_getElem_cons hj4', List.map_cons, List.sum_cons, List.length_cons]
              omega
            refine ⟨rfl, _, rfl, _, rfl, _, rfl, p, _, rfl, SqL.of hp5, fun a1 h1 => ?_⟩
            rw [t1]
            have f1 : Same H5 (upd H5 a1 (.lst ((ws.take j4).map V.str))) := Same.upd' (Same.refl _) h1
            refine ⟨_, rfl, _, rfl, _, _, rfl, rfl, _, rfl, p, _, rfl, SqL.of (f1 _ _ hp5), fun a2 h2 => ?_⟩
            rw [t2]
            have f2 := Same.upd' (o := .lst ((ws.drop (j4 + 1)).map V.str)) f1 (f1.free h2)
            have n21 : a2 ≠ a1 := fun e => by rw [e, upd_same] at h2; cases h2
            refine ⟨a1, a2, _, _, rfl, rfl, by rw [upd_ne n21.symm, upd_same], upd_same, by rw [List.length_map, List.length_map]; omega, fun a3 h3 => ?_⟩
            have f3 := Same.upd' (o := .lst ((ws.take j4).map V.str ++ (ws.drop (j4 + 1)).map V.str)) f2 (f2.free h3)
            have hsum : ((ws.take j4 ++ ws.drop (j4 + 1)).map (·.length)).sum ≤ (ws.map (·.length)).sum := by
              rw [sum_app, hall]; omega
            have hll : (ws.take j4 ++ ws.drop (j4 + 1)).length ≤ ws.length := by
              rw [List.length_append]; omega
            have hjo := join_le (ws.take j4 ++ ws.drop (j4 + 1))
            have y1 : bentOk x (Txt.join blank (ws.take j4 ++ ws.drop (j4 + 1))) := ⟨join_so (by decide +kernel) fun z hz => (List.mem_append.mp hz).elim (fun h => hw z (List.mem_of_mem_take h)) fun h => hw z (List.mem_of_mem_drop h), by omega⟩
            have y2 : bentOk x (x ++ nl) := ⟨app_so hso (by decide +kernel), by rw [Str.length_append]; have : nl.length = 1 := rfl; omega⟩
            have y3 : bentOk x (nl ++ x) := ⟨app_so (by decide +kernel) hso, by rw [Str.length_append]; have : nl.length = 1 := rfl; omega⟩
            have y4 : bentOk x x := ⟨hso, by omega⟩
            refine ⟨_, a3, ws.take j4 ++ ws.drop (j4 + 1), rfl, rfl, .inl (SqL.of (by rw [upd_same, List.map_append])), ?_, _, rfl, _, _, rfl, rfl, (by show x.length + 1 ≤ sizeLine; omega), _, rfl, _, _, rfl, rfl, (by show 1 + x.length ≤ sizeLine; omega), _, rfl, (by show 4 ≤ sizeLine; omega), fun a4 h4 => ?_⟩
            · show _ + _ * blank.length ≤ _
              rw [hnl]; omega
            have f4 := Same.upd' (o := .lst ([Txt.join blank (ws.take j4 ++ ws.drop (j4 + 1)), x ++ nl, nl ++ x, x].map V.str)) f3 (f3.free h4)
            have h44 : upd (upd (upd (upd H5 a1 (.lst ((ws.take j4).map V.str))) a2 (.lst ((ws.drop (j4 + 1)).map V.str))) a3 (.lst ((ws.take j4).map V.str ++ (ws.drop (j4 + 1)).map V.str))) a4 (.lst ([Txt.join blank (ws.take j4 ++ ws.drop (j4 + 1)), x ++ nl, nl ++ x, x].map V.str)) a4 = some (.lst ([Txt.join blank (ws.take j4 ++ ws.drop (j4 + 1)), x ++ nl, nl ++ x, x].map V.str)) := upd_same
            have sb7 := sb6.trans (SameB.same f4)
            have bx7 := bx5.same f4
            have nb4 : a4 ≠ b := fun e => by obtain ⟨o, h⟩ := bx5.has; rw [e] at h4; have := f3 _ _ h; rw [h4] at this; cases this
            refine ⟨_, rfl, rfl, _, rfl, ifB (fun g2 => ?_) fun g2 => ⟨_, rfl, q _ _ sb7 (bx7.more (by omega)) y4⟩⟩
            refine ⟨_, rfl, _, rfl, b, 4, n + 3 + 1, rfl, bx7, by omega, by decide, by decide, fun j5 H6 hj5 sb8 bx8 => ?_⟩
            have hj5' : j5 < [Txt.join blank (ws.take j4 ++ ws.drop (j4 + 1)), x ++ nl, nl ++ x, x].length := by show j5 < 4; omega
            have ey : ([Txt.join blank (ws.take j4 ++ ws.drop (j4 + 1)), x ++ nl, nl ++ x, x].map V.str)[j5]? = some (V.str ([Txt.join blank (ws.take j4 ++ ws.drop (j4 + 1)), x ++ nl, nl ++ x, x][j5])) := by rw [List.getElem?_map, List.getElem?_eq_getElem hj5']; rfl
            have hy : bentOk x ([Txt.join blank (ws.take j4 ++ ws.drop (j4 + 1)), x ++ nl, nl ++ x, x][j5]) := by
              have hm := List.getElem_mem hj5'
              rcases List.mem_cons.mp hm with e | hm
              · rw [e]; exact y1
              · rcases List.mem_cons.mp hm with e | hm
                · rw [e]; exact y2
                · rcases List.mem_cons.mp hm with e | hm
                  · rw [e]; exact y3
                  · rw [List.mem_singleton] at hm; rw [hm]; exact y4
            exact ⟨a4, _, _, _, rfl, rfl, SqL.of (sb8 _ _ nb4 h44), atI_nat ey, q _ _ (sb7.trans sb8) bx8 hy⟩
end
end SO
end
section
/-! k78, part L8: _law_caught, handed a lambda -/
set_option maxHeartbeats 4000000
namespace SO
open PySem PySem.Spec PyProof.Rows L2 LamX XF

abbrev sCaught : Stmt := topS 41
theorem scCaught : FnScope ["_law_ask", "e"] ["_law_ask"] (defScope sCaught) := ⟨rfl, rfl, rfl, by decide +kernel, rfl, by decide +kernel, by decide +kernel⟩
/-- what stands in the law's except clauses -/
structure CatC (K : PySem.W.Frag) (mg : Str → Option Value) (CT CI CS : Addr) : Prop where
  gT : mg "InvalidText" = some (.ref CT)
  gI : mg "InvalidLine" = some (.ref CI)
  gS : mg "InvalidSteps" = some (.ref CS)
  xT : XfC K CT
  xI : XfC K CI
  xS : XfC K CS
  vT : PySem.W.findIn K (.ref CT) "value" = some none
  vI : PySem.W.findIn K (.ref CI) "index" = some none
  vS : PySem.W.findIn K (.ref CS) "value" = some none
  tt : PySem.W.exmOne K (.ref CT) (.ref CT) = some true
  it : PySem.W.exmOne K (.ref CI) (.ref CT) = some false
  ii : PySem.W.exmOne K (.ref CI) (.ref CI) = some true
  st : PySem.W.exmOne K (.ref CS) (.ref CT) = some false
  si : PySem.W.exmOne K (.ref CS) (.ref CI) = some false
  ss : PySem.W.exmOne K (.ref CS) (.ref CS) = some true
/-- an exception of the class C whose field fld is kept goes to [word, field] -/
def Caught (C : Addr) (fld word : Str) (Q : VK) : XK := fun cls d H => cls = .ref C ∧ ∃ (dd : Addr) (v : V), d = some dd ∧ H dd = some (.xd [(fld, v)]) ∧ ∀ o, H o = none → Q (.ref o) (upd H o (.lst [.str word, v]))
def EchC (CT CI CS : Addr) (Q : VK) : XK := fun cls d H => Caught CT "value" "text" Q cls d H ∨ Caught CI "index" "line" Q cls d H ∨ Caught CS "value" "steps" Q cls d H
/-- what _law_caught makes of what it got -/
def TCaught (CT CI CS : Addr) : (XK → Hp → VK → Prop) → Hp → VK → Prop := fun tl H Q => tl (EchC CT CI CS Q) H fun v H' => [V.str "told", v].length ≤ sizeLine ∧ ∀ o, H' o = none → Q (.ref o) (upd H' o (.lst [.str "told", v]))
theorem gives_caught {X : Cx} {g CT CI CS : Addr} {cdg : Value} {q : Str} (T : CatC X.K X.mg CT CI CS) : GivesTo X ["_law_ask", "e"] "_law_caught" (defScope sCaught) g cdg (defBody sCaught) "_law_ask" q (TCaught CT CI CS) := by
  intro f c' s H Q tl act hc h
  have big : sizeLine = 16777216 := sizeLine_eq
  refine ⟨_, pss_one (ps_try_ases (X := (cxOf C8.CX0 X.prog X.w X.K X.mg X.base ["_law_ask", "e"] "_law_caught" (defScope sCaught) g cdg X.A X.stack s H C8.E0).nox)
    (l := [(.ref CT, 1, fun a cls d => tRet (tLst (tCons (tC (.str "text")) (tCons (tXf a cls d CT "value" (tVar 1)) tNil)))), (.ref CI, 1, fun a cls d => tRet (tLst (tCons (tC (.str "line")) (tCons (tXf a cls d CI "index" (tVar 1)) tNil)))), (.ref CS, 1, fun a cls d => tRet (tLst (tCons (tC (.str "steps")) (tCons (tXf a cls d CS "value" (tVar 1)) tNil))))])
    (tb := fun W D σ H => ∃ Ech : XK, (∀ cls d σ' H', Ech cls d H' → σ'.length = 2 → W cls d σ' H') ∧ σ[0]? = some (some (.ref f)) ∧ H c' = some (CodeO c' q) ∧ tl Ech H fun v H' => [V.str "told", v].length ≤ sizeLine ∧ ∀ o, H' o = none → D.rt (.ref o) (upd H' o (.lst [.str "told", v])))
    rfl rfl scCaught.nd (fun W pn xe tk _ => ?_) (.cons ⟨by rfl, by decide, .inl T.gT⟩ rfl rfl (fun a oe cls d pn hz hf => by exact pss_one (ps_ret (pe_lst (pa_cons pe_str (pa_cons (pe_xf T.xT T.vT hz hf (pv 1)) pa_nil)))))
      (.cons ⟨by rfl, by decide, .inl T.gI⟩ rfl rfl (fun a oe cls d pn hz hf => by exact pss_one (ps_ret (pe_lst (pa_cons pe_str (pa_cons (pe_xf T.xI T.vI hz hf (pv 1)) pa_nil)))))
      (.cons ⟨by rfl, by decide, .inl T.gS⟩ rfl rfl (fun a oe cls d pn hz hf => by exact pss_one (ps_ret (pe_lst (pa_cons pe_str (pa_cons (pe_xf T.xS T.vS hz hf (pv 1)) pa_nil)))))
      (.stop _))))), ?_⟩
  · refine ⟨fun pins s' σ H' D I h' => ?_⟩
    obtain ⟨Ech, hW, h1, h2, h3⟩ := h'
    have tk' : L2.Takes _ (fun c d σ' H' => σ'.length = 2 → W c d σ' H') := fun u s' ⟨a, B, sI, pins, σ, H, c, d, e, I, nb, up, sky, na, os, ag, w⟩ => tk u s' ⟨a, B, sI, pins, σ, H, c, d, e, I, nb, up, sky, na, os, ag, w I.len⟩
    have hp := fun p1 p2 => act (fun c d σ' H' => σ'.length = 2 → W c d σ' H') pn xe Ech p1 p2 tk' hW
    exact PSs.run (t := tRet (tLst (tCons (tC (.str "told")) (tCons (fun σZ HZ Q => σZ[0]? = some (some (.ref f)) ∧ HZ c' = some (CodeO c' q) ∧ tl Ech HZ Q) tNil)))) (by exact pss_one (ps_ret (pe_lst (pa_cons pe_str (pa_cons (hp _ _) pa_nil))))) pins s' σ H' D I ⟨h1, h2, h3⟩
  · refine ⟨EchC CT CI CS Q, fun cls d σ' H' e hl => ?_, rfl, hc, h⟩
    have h1 : ∀ v, (σ'.set 1 v)[1]? = some v := fun v => List.getElem?_set_self (by omega)
    have lk : ∀ (n : Str) (v : V), ([(n, v)] : List (Str × V)).lookup n = some v := fun n v => by simp [List.lookup]
    rcases e with ⟨rfl, dd, v, rfl, hd, k⟩ | ⟨rfl, dd, v, rfl, hd, k⟩ | ⟨rfl, dd, v, rfl, hd, k⟩
    · exact ⟨true, T.tt, fun _ a ha => ⟨_, h1 _, rfl, rfl, dd, _, v, rfl, hd, lk _ _, (by show 2 ≤ sizeLine; omega), fun o ho => k o ho⟩, fun h => nomatch h⟩
    · exact ⟨false, T.it, (fun h => absurd h Bool.false_ne_true), fun _ => ⟨true, T.ii, fun _ a ha => ⟨_, h1 _, rfl, rfl, dd, _, v, rfl, hd, lk _ _, (by show 2 ≤ sizeLine; omega), fun o ho => k o ho⟩, fun h => nomatch h⟩⟩
    · exact ⟨false, T.st, (fun h => absurd h Bool.false_ne_true), fun _ => ⟨false, T.si, (fun h => absurd h Bool.false_ne_true), fun _ => ⟨true, T.ss, fun _ a ha => ⟨_, h1 _, rfl, rfl, dd, _, v, rfl, hd, lk _ _, (by show 2 ≤ sizeLine; omega), fun o ho => k o ho⟩, fun h => nomatch h⟩⟩⟩
end SO
end
section
/-! != of lists and tuples, where every pair is equal by own __eq__ -/
set_option maxHeartbeats 4000000
namespace GN
open PySem PySem.SeqAt GQ
open AutoSeq1 (wpAny_loadPart')
open MeetsSeq MeetsSeq2 MeetsSeq3 SeqRoads2
section
variable {prog : Program} {w : World} {A : Around} {R : Result → Shared → Prop}
theorem ne_loopG (l b : Addr) (N : Nat) (I : Nat → Shared → Prop) (hl : ListI prog w A (fun e s' => R (.error e) s') l b N I)
    (fin : ∀ s, I N s → R (.ok (.ret (.bool false))) s) (k : Nat) :
    ∀ i : Nat, N - i = k → i ≤ N → ∀ s, I i s →
      wpAny (model prog w) A.in1 (Builtin.«list.__eq__.loop» ⟨[.ref l, .ref b, rawInt i, rawInt 3], []⟩) (FinOf prog w A R) (fun e s' => R (.error e) s') s := by
  induction k with
  | zero =>
    intro i hk hi s h
    obtain ⟨items, items2, n, n2, hl1, hb1, hs1, hs2, _⟩ := hl _ _ h
    have hi' : i = N := by omega
    have hR : R (.ok (.ret (.bool false))) s := fin s (hi' ▸ h)
    obtain ⟨hp, g, d, tk, os⟩ := s
    wp_walk using wpAny_loadPart' hl1, wpAny_loadPart' hb1
    have hi1 : items[((i : Nat) : Int).toNat]? = none := by simp; omega
    have hi2 : items2[((i : Nat) : Int).toNat]? = none := by simp; omega
    rw [hi1, hi2]
    wp_walk using wpAny_loadPart' hl1, wpAny_loadPart' hb1
    show R (.ok (.ret (.bool (items.size != items2.size)))) _
    rw [hs1, hs2]
    simpa using hR
  | succ k ih =>
    intro i hk hi s h
    obtain ⟨items, items2, n, n2, hl1, hb1, hs1, hs2, turn⟩ := hl _ _ h
    have hlt : i < items.size := by omega
    have hlt2 : i < items2.size := by omega
    have ht := turn hlt hlt2
    obtain ⟨hp, g, d, tk, os⟩ := s
    wp_walk using wpAny_loadPart' hl1, wpAny_loadPart' hb1
    have hi1 : items[((i : Nat) : Int).toNat]? = some items[i] := by simp [hlt]
    have hi2 : items2[((i : Nat) : Int).toNat]? = some items2[i] := by simp [hlt2]
    have hc : ((i : Int) + 1) = ((i + 1 : Nat) : Int) := by omega
    rw [hi1, hi2]
    refine wpAny_bind (wpAny_mono ht (fun r s2 h2 => ?_) fun _ _ x => x)
    obtain ⟨hr, h2⟩ := h2
    subst hr
    have hrec := ih (i + 1) (by omega) (by omega) s2 h2
    obtain ⟨hp2, g2, d2, tk2, os2⟩ := s2
    wp_walk
    rw [hc]
    exact ⟨plainId_quiet plain_eq_loop _, codeAny_builtin entry_eq_loop (by
      rw [Around.under_plainId plain_eq_loop _]
      exact hrec)⟩

theorem list_neG (l b : Addr) (N : Nat) (I : Nat → Shared → Prop) (hl : ListI prog w A (fun e s' => R (.error e) s') l b N I)
    (fin : ∀ s, I N s → R (.ok (.ret (.bool false))) s) {s : Shared} (h : I 0 s) :
    wpAny (model prog w) A.in1 (Builtin.«list.__ne__» ⟨[.ref l, .ref b], []⟩) (FinOf prog w A R) (fun e s' => R (.error e) s') s := by
  obtain ⟨items, items2, n, n2, hl1, hb1, hs1, hs2, _⟩ := hl _ _ h
  have hrec := ne_loopG (A := A) (R := R) l b N I hl fin _ 0 rfl (Nat.zero_le _) s h
  obtain ⟨hp, g, d, tk, os⟩ := s
  have f3 := AutoSeq1.sub_list_list
  have hne : ¬ (items.size != items2.size) = true := by simp [hs1, hs2]
  wp_walk using wpAny_loadPart' hl1, wpAny_loadPart' hb1
  exact ⟨plainId_quiet plain_eq_loop _, codeAny_builtin entry_eq_loop (by
    rw [Around.under_plainId plain_eq_loop _]
    exact hrec)⟩

theorem tuple_neG (l b : Addr) (items items2 : Array Value) (n n2 : Nat) (dd dd2 : Option Addr) (sl sl2 : Array (Option Value)) (hsz : items.size = items2.size) (I : Nat → Shared → Prop)
    (turn : ∀ i (h1 : i < items.size) (h2 : i < items2.size) s, I i s → wpAny (model prog w) A.in1 (eqBool items[i] items2[i]) (fun r s' => r = true ∧ I (i + 1) s') (fun e s' => R (.error e) s') s)
    (fin : ∀ s, I items.size s → R (.ok (.ret (.bool false))) s) {s : Shared} (hl1 : s.heap.get? l = some { cls := .type "tuple", dict := dd, data := .seq items n, slots := sl }) (hb1 : s.heap.get? b = some { cls := .type "tuple", dict := dd2, data := .seq items2 n2, slots := sl2 }) (h : I 0 s) :
    wpAny (model prog w) A.in1 (Builtin.«tuple.__ne__» ⟨[.ref l, .ref b], []⟩) (FinOf prog w A R) (fun e s' => R (.error e) s') s := by
  have f2 := AutoSeq1.sub_tuple_tuple
  have hZ : (items.toList.zip items2.toList).length = items.size := by simp [hsz]
  have h0 := h
  obtain ⟨hp, g, d, tk, os⟩ := s
  wp_walk using wpAny_loadPart' hl1, wpAny_loadPart' hb1, wpAny_forIn_list _ (fun rest b s' => b.1 = none ∧ ∃ i, rest = (items.toList.zip items2.toList).drop i ∧ i ≤ items.size ∧ I i s') _
  case turn =>
    rintro ⟨y, x⟩ rest b s' ⟨hb', i, hz, hi, hI⟩
    have hlt : i < (items.toList.zip items2.toList).length := by
      rcases Nat.lt_or_ge i (items.toList.zip items2.toList).length with h' | h'
      · exact h'
      · rw [List.drop_of_length_le h'] at hz; cases hz
    have h1 : i < items.size := hZ ▸ hlt
    have h2 : i < items2.size := hsz ▸ h1
    rw [List.drop_eq_getElem_cons hlt] at hz
    injection hz with hyx hrest
    have hy : y = items[i] := by have := congrArg Prod.fst hyx; simpa using this
    have hx : x = items2[i] := by have := congrArg Prod.snd hyx; simpa using this
    subst hy hx
    refine wpAny_bind (wpAny_mono (turn i h1 h2 s' hI) (fun r s2 q2 => ?_) fun _ _ x => x)
    obtain ⟨hr, q2⟩ := q2
    subst hr
    wp_walk
    exact ⟨rfl, i + 1, hrest, h1, q2⟩
  case fin =>
    rintro ⟨b1, b2⟩ s' ⟨hb', i, hz, hi, hI⟩
    simp only at hb'
    subst hb'
    have hge : items.size ≤ i := by
      rcases Nat.lt_or_ge i (items.toList.zip items2.toList).length with h' | h'
      · rw [List.drop_eq_getElem_cons h'] at hz; cases hz
      · exact hZ ▸ h'
    have hi' : i = items.size := by omega
    have hR : R (.ok (.ret (.bool false))) s' := fin s' (hi' ▸ hI)
    wp_walk
    simpa [Builtin.Tuple.tupleCompareSizes, hsz] using hR
  case h =>
    exact ⟨rfl, 0, rfl, Nat.zero_le _, h0⟩
end
section
variable {prog : Program} {w : World} {A : Around} {E : Value → Shared → Prop} {s : Shared}
theorem rn_listG {l b : Addr} {N : Nat} {Q : Value → Shared → Prop} (hu : A.units < cLine) (I : Nat → Shared → Prop) (hl : ListI prog w A E l b N I)
    (fin : ∀ s, I N s → Q (.bool false) s) (h : I 0 s) : wpAny (model prog w) A (richCompare .NotEq (.ref l) (.ref b)) Q E s := by
  obtain ⟨items, items2, n, n2, hl1, hb1, _, _, _⟩ := hl _ _ h
  refine wpAny_richCompare_same_room (op := .NotEq) ⟨_, hl1, rfl⟩ ⟨_, hb1, rfl⟩ F.slot_list_ne (call_here F.slot_list_ne ⟨_, hl1, rfl⟩ F.entry_list_ne (F.args_list_ne_2 _ _) ?_) hu
  exact list_neG (R := wants (fun v s' => v ≠ .notImplemented ∧ Q v s') E) l b N I hl (fun s' q => ⟨(fun x => nomatch x), fin s' q⟩) h

theorem rn_tupG {l b : Addr} {items items2 : Array Value} {Q : Value → Shared → Prop} (hsz : items.size = items2.size) (hu : A.units < cLine) (I : Nat → Shared → Prop)
    (hl : s.heap.IsTuple l items) (hb : s.heap.IsTuple b items2)
    (turn : ∀ i (h1 : i < items.size) (h2 : i < items2.size) s, I i s → wpAny (model prog w) A.in1 (eqBool items[i] items2[i]) (fun r s' => r = true ∧ I (i + 1) s') E s)
    (fin : ∀ s, I items.size s → Q (.bool false) s) (h : I 0 s) : wpAny (model prog w) A (richCompare .NotEq (.ref l) (.ref b)) Q E s := by
  obtain ⟨⟨cls, dd, data, sl⟩, ho, hc, n, hd⟩ := id hl
  obtain ⟨⟨cls2, dd2, data2, sl2⟩, ho2, hc2, n2, hd2⟩ := id hb
  simp only at hc hd hc2 hd2
  subst hc hd hc2 hd2
  refine wpAny_richCompare_same_room (op := .NotEq) ⟨_, ho, rfl⟩ ⟨_, ho2, rfl⟩ F.slot_tuple_ne (call_here F.slot_tuple_ne ⟨_, ho, rfl⟩ F.entry_tuple_ne (F.args_tuple_ne_2 _ _) ?_) hu
  exact tuple_neG (R := wants (fun v s' => v ≠ .notImplemented ∧ Q v s') E) l b items items2 n n2 dd dd2 sl sl2 hsz I turn (fun s' q => ⟨(fun x => nomatch x), fin s' q⟩) ho ho2 h

end
end GN
namespace SO
open PySem PySem.Spec PyProof.Rows L2
/-- x != y gives False, and only makes objects -/
def RnG (X : Cx) (n : Nat) (D : Eqv) : Prop :=
  ∀ (A : Around) (pins : List (Addr × Obj)) (s : Shared) (σ : L2.St) (H : Hp) (x y : V) (u v : Value), L2.Sub X n A → Inv X pins σ H s → RelV x u → RelV y v → D x y H →
    wpAny (model X.prog X.w) A (richCompare .NotEq u v) (fun r s' => r = .bool false ∧ ∃ H', Inv X pins σ H' s' ∧ Ext H H') X.xe s
section
variable {X : Cx} {n : Nat} {D : Eqv}
theorem rnG_list (hD : Mon D) (h : EqG X n D) : RnG X (n + 1) (DList D) := by
  intro A pins s σ H x y u v sb I rx ry d
  obtain ⟨a, b, xs, ys, rfl, rfl, ha, hb, p⟩ := d
  cases rx
  cases ry
  refine GN.rn_listG (N := xs.length) sb.room.units0 (fun _ s' => LoopI X pins σ H s') (fun i s' q => ?_) (fun s' q => ⟨rfl, q⟩) ⟨H, I, Ext.rfl'⟩
  obtain ⟨H1, I1, e1⟩ := id q
  obtain ⟨z, its, k, r, e⟩ := I1.hok a _ (e1 _ _ ha)
  obtain ⟨z2, its2, k2, r2, e2⟩ := I1.hok b _ (e1 _ _ hb)
  refine ⟨its.toArray, its2.toArray, k, k2, e, e2, by rw [List.size_toArray, ← r.length], by rw [List.size_toArray, ← r2.length, ← p.1], fun h1 h2 => ?_⟩
  exact turnG hD h sb p r r2 i h1 h2 s' q
theorem rnG_tup (hD : Mon D) (h : EqG X n D) : RnG X (n + 1) (DTup X.K D) := by
  intro A pins s σ H x y u v sb I rx ry d
  obtain ⟨a, b, xs, ys, rfl, rfl, ha, hb, p⟩ := d
  cases rx
  cases ry
  obtain ⟨its, r, e, z⟩ := I.tuple ha
  obtain ⟨its2, r2, e2, z2⟩ := I.tuple hb
  have hsz : its.toArray.size = its2.toArray.size := by rw [List.size_toArray, List.size_toArray, ← r.length, ← r2.length]; exact p.1
  exact GN.rn_tupG hsz sb.room.units0 (fun _ s' => LoopI X pins σ H s') e e2 (fun i h1 h2 s' q => turnG hD h sb p r r2 i h1 h2 s' q) (fun s' q => ⟨rfl, q⟩) ⟨H, I, Ext.rfl'⟩
/-- x != y as an expression -/
def rNeG (D : Eqv) : R2 := fun x y H Q => D x y H ∧ ∀ H', Ext H H' → Q (.bl false) H'
theorem op_neG (h : RnG X n D) (hr : Room n X.A) : OpR X (compareOp .NotEq) (rNeG D) := by
  intro pins s σ H x y v u Q I rx ry hq
  obtain ⟨d, q⟩ := hq
  show wpAny (model X.prog X.w) X.A (richCompare .NotEq v u) (EP X pins σ Q) X.xe s
  refine wpAny_mono (h X.A pins s σ H x y v u ⟨hr, rfl⟩ I rx ry d) (fun r s' z => ?_) fun _ _ x => x
  obtain ⟨hr', H', I', e⟩ := z
  subst hr'
  exact ⟨.bl false, H', I', rfl, q H' e⟩
end
/-! ### trees that are one another's equal -/
/-- the depth at which an order stands -/
def dep : Nat → D → Prop
  | _, .non => True
  | _, .bl _ => True
  | _, .int _ => True
  | _, .str _ => True
  | 0, .lst _ => False
  | 0, .tup _ => False
  | n + 1, .lst ds => ∀ d ∈ ds, dep n d
  | n + 1, .tup ds => ∀ d ∈ ds, dep n d
  | _, .ord _ => True
  | _, .emp => False
end SO
end
section
/-! == and != of trees with orders -/
set_option maxHeartbeats 4000000
namespace SO
open PySem PySem.Spec PyProof.Rows L2 LamX

def DT (C : Addr) (n : Nat) : Eqv := fun x y H => ∃ d, dep n d ∧ Rp C H d x ∧ Rp C H d y
def DB (C : Addr) : Eqv := fun x y H => DFlat x y H ∨ DIns C (EqO C) x y H
theorem mon_EqO {C : Addr} : ∀ a b H H', Ext H H' → EqO C a b H → EqO C a b H' := fun a b H H' e ⟨cs, h1, h2⟩ => ⟨cs, h1.mono e, h2.mono e⟩
theorem mon_DB {C : Addr} : Mon (DB C) := mon_flat.or (mon_ins mon_EqO)
theorem mon_DT {C : Addr} {n : Nat} : Mon (DT C n) := fun x y H H' e ⟨d, k, h1, h2⟩ => ⟨d, k, h1.mono e, h2.mono e⟩
section
variable {C : Addr} {H : Hp} {K : PySem.W.Frag} {n : Nat}
theorem flat_pair {x : V} (h : flatV x = true) (e : eqV x x = true) : DB C x x H := .inl ⟨h, h, e⟩
theorem rpl_prs : ∀ {ds : List D} {xs ys : List V}, (∀ d ∈ ds, dep n d) → RpL C H ds xs → RpL C H ds ys → Prs (DT C n) xs ys H
  | [], _, _, _, h1, h2 => by rw [show _ = [] from h1, show _ = [] from h2]; exact Prs.nil
  | d :: ds, _, _, k, ⟨v, r, e, h1, h2⟩, ⟨v', r', e', h1', h2'⟩ => by
    rw [e, e']
    exact Prs.cons ⟨d, k d List.mem_cons_self, h1, h1'⟩ (rpl_prs (fun q hq => k q (List.mem_cons_of_mem _ hq)) h2 h2')
theorem ord_pair {cs : List Str} {x y : V} (h1 : Rp C H (.ord cs) x) (h2 : Rp C H (.ord cs) y) : DB C x y H := by
  obtain ⟨a, dx, l, e, h3, h4⟩ := id h1
  obtain ⟨a', dx', l', e', h3', h4'⟩ := id h2
  subst e; subst e'
  exact .inr ⟨a, a', dx, dx', _, _, rfl, rfl, h3, h3', cs, h1, h2⟩
theorem DT0 {x y : V} (h : DT C 0 x y H) : DB C x y H := by
  obtain ⟨d, k, h1, h2⟩ := h
  cases d with
  | non => rw [show x = _ from h1, show y = _ from h2]; exact flat_pair rfl rfl
  | bl b => rw [show x = _ from h1, show y = _ from h2]; exact flat_pair rfl (by simp [eqV])
  | int i => rw [show x = _ from h1, show y = _ from h2]; exact flat_pair rfl (by simp [eqV])
  | str i => rw [show x = _ from h1, show y = _ from h2]; exact flat_pair rfl (by simp [eqV])
  | lst ds => exact k.elim
  | tup ds => exact k.elim
  | ord cs => exact ord_pair h1 h2
  | emp => exact k.elim
theorem DTs {x y : V} (h : DT C (n + 1) x y H) : DB C x y H ∨ (DList (DT C n) x y H ∨ DTup K (DT C n) x y H) := by
  obtain ⟨d, k, h1, h2⟩ := h
  cases d with
  | non => rw [show x = _ from h1, show y = _ from h2]; exact .inl (flat_pair rfl rfl)
  | bl b => rw [show x = _ from h1, show y = _ from h2]; exact .inl (flat_pair rfl (by simp [eqV]))
  | int i => rw [show x = _ from h1, show y = _ from h2]; exact .inl (flat_pair rfl (by simp [eqV]))
  | str i => rw [show x = _ from h1, show y = _ from h2]; exact .inl (flat_pair rfl (by simp [eqV]))
  | lst ds =>
    obtain ⟨a, xs, e, h3, h4⟩ := h1
    obtain ⟨b, ys, e', h3', h4'⟩ := h2
    exact .inr (.inl ⟨a, b, xs, ys, e, e', h3, h3', rpl_prs k h4 h4'⟩)
  | tup ds =>
    obtain ⟨a, xs, e, h3, h4⟩ := h1
    obtain ⟨b, ys, e', h3', h4'⟩ := h2
    exact .inr (.inr ⟨a, b, xs, ys, e, e', .of h3, .of h3', rpl_prs k h4 h4'⟩)
  | ord cs => exact .inl (ord_pair h1 h2)
  | emp => exact k.elim
end
section
variable {X : Cx} {C : Addr}
theorem eqG_DB (h : EqG X 2 (DIns C (EqO C))) : EqG X 2 (DB C) := (eqG_flat.mono (by omega)).or h
theorem eqG_tree (h : EqG X 2 (DIns C (EqO C))) : ∀ n, EqG X (2 + n) (DT C n)
  | 0 => (eqG_DB h).imp fun _ _ _ q => DT0 q
  | n + 1 => by
    have ih := eqG_tree h n
    have hl := eqG_list mon_DT ih
    have ht := eqG_tup mon_DT ih
    exact (((eqG_DB h).mono (by omega)).or (hl.or ht)).imp fun _ _ _ q => DTs q
/-- two lists, two tuples -/
theorem rcG_lst (h : EqG X 2 (DIns C (EqO C))) (n : Nat) : RcG X (3 + n) (DList (DT C n)) := by
  have := rcG_list (mon_DT (C := C) (n := n)) (eqG_tree h n)
  rw [show 3 + n = 2 + n + 1 by omega]; exact this
theorem rnG_lst (h : EqG X 2 (DIns C (EqO C))) (n : Nat) : RnG X (3 + n) (DList (DT C n)) := by
  have := rnG_list (mon_DT (C := C) (n := n)) (eqG_tree h n)
  rw [show 3 + n = 2 + n + 1 by omega]; exact this
theorem rnG_tupl (h : EqG X 2 (DIns C (EqO C))) (n : Nat) : RnG X (3 + n) (DTup X.K (DT C n)) := by
  have := rnG_tup (mon_DT (C := C) (n := n)) (eqG_tree h n)
  rw [show 3 + n = 2 + n + 1 by omega]; exact this
theorem rp_lst {H : Hp} {n : Nat} {ds : List D} {x y : V} (k : ∀ d ∈ ds, dep n d) (h1 : Rp C H (.lst ds) x) (h2 : Rp C H (.lst ds) y) : DList (DT C n) x y H := by
  obtain ⟨a, xs, e, h3, h4⟩ := h1
  obtain ⟨b, ys, e', h3', h4'⟩ := h2
  exact ⟨a, b, xs, ys, e, e', h3, h3', rpl_prs k h4 h4'⟩
theorem rp_tup {K : PySem.W.Frag} {H : Hp} {n : Nat} {ds : List D} {x y : V} (k : ∀ d ∈ ds, dep n d) (h1 : Rp C H (.tup ds) x) (h2 : Rp C H (.tup ds) y) : DTup K (DT C n) x y H := by
  obtain ⟨a, xs, e, h3, h4⟩ := h1
  obtain ⟨b, ys, e', h3', h4'⟩ := h2
  exact ⟨a, b, xs, ys, e, e', .of h3, .of h3', rpl_prs k h4 h4'⟩
end
end SO
end
section
/-! k78, the mathematics: how the program reads a line is how the law reads it -/
set_option maxHeartbeats 4000000
namespace SO
open PySem PySem.Spec PyProof.Rows L2 LamX XF

theorem tlb : TL.tl blank = [32] := rfl
theorem tlt : TL.tl towards = [32, 62, 32] := rfl
theorem split_join_blank {ws : List Str} (hne : ws ≠ []) (h : ∀ p ∈ ws, 32 ∉ TL.tl p) : Txt.split (Txt.join blank ws) blank = ws := TL.split_join (s := 32) (S := []) tlb (by decide +kernel) hne h
theorem join_split_blank (x : Str) : Txt.join blank (Txt.split x blank) = x := by rw [TL.join_eq]; exact StrLaws.join_split x blank
theorem split_no32 (x : Str) : ∀ p ∈ Txt.split x blank, 32 ∉ TL.tl p := StrLaws.split_free x 32
theorem name_sign {c : Str} (h : nameOk c = true) {k : Nat} (hk : k ∉ letters.cps.toList) : k ∉ TL.tl c := fun hm => by
  have h2 : c.cps.toList.all (fun c => decide (c ∈ letters.cps.toList)) = true := (Bool.and_eq_true_iff.mp h).2
  exact hk (of_decide_eq_true (List.all_eq_true.mp h2 k hm))
theorem name_ne {c : Str} (h : nameOk c = true) : c ≠ Str.empty := fun e => by
  rw [e] at h
  revert h
  decide +kernel
theorem ok_words {ws : List Str} (h : okWords ws = true) : ws.length ≤ 5 ∧ (∀ c ∈ ws, nameOk c = true) ∧ ws.Nodup := by
  have h : (decide (ws.length ≤ 5) && ws.all nameOk && decide ws.Nodup) = true := h
  simp only [Bool.and_eq_true, decide_eq_true_eq, List.all_eq_true] at h
  exact ⟨h.1.1, h.1.2, h.2⟩
theorem join_sign {ws : List Str} {k : Nat} (hk : k ≠ 32) (h : ∀ c ∈ ws, k ∉ TL.tl c) : k ∉ TL.tl (Txt.join blank ws) := fun hm => by
  rw [TL.join_eq, TL.tl_join] at hm
  rcases joinL_of hm with q | ⟨z, hz, q⟩
  · rw [tlb, List.mem_singleton] at q; exact hk q
  · obtain ⟨w, hw, rfl⟩ := List.mem_map.mp hz
    exact h w hw q
theorem pOrder_iff (z : Str) (cs : List Str) : pOrder z = some cs ↔ Txt.split z blank = cs ∧ okWords cs = true := by
  unfold pOrder
  constructor
  · intro h
    cases e : splitWords z with
    | none => rw [e] at h; cases h
    | some ws =>
      rw [e] at h
      by_cases o : okWords ws = true
      · simp only [o, if_true] at h
        cases h
        exact ⟨(splitWords_eq e).symm, o⟩
      · simp only [o, if_false] at h
        cases h
  · rintro ⟨rfl, o⟩
    obtain ⟨_, hn, _⟩ := ok_words o
    have n10 : 10 ∉ z.cps.toList := by
      have h := join_sign (k := 10) (by decide) (fun c hc => name_sign (hn c hc) (by decide))
      rw [join_split_blank] at h
      exact h
    have ne : inV (.str "") ((Txt.split z blank).map V.str) = false := by
      unfold inV
      rw [List.any_map, List.any_eq_false]
      intro c hc
      show ¬ eqV (.str c) (.str "") = true
      rw [eqV_str, decide_eq_true_iff]
      exact fun e => name_ne (hn c hc) e.symm
    have e : splitWords z = some (Txt.split z blank) := by
      unfold splitWords
      rw [if_neg n10, if_neg (by rw [ne]; decide)]
    rw [e]
    simp only [o, if_true]
theorem part_blank {x w0 : Str} {R : List Str} (h : Txt.split x blank = w0 :: R) : (Txt.partition x blank).1 = w0 ∧ (Txt.partition x blank).2.2 = if R = [] then Str.empty else Txt.join blank R := by
  have hx := join_split_blank x
  have hf := split_no32 x
  rw [h] at hx hf
  have h0 : 32 ∉ TL.tl w0 := hf w0 (by simp)
  cases R with
  | nil =>
    rw [join1] at hx
    subst hx
    have e := SX.partition_none (a := TL.tl w0) (b := [32]) (by simp) (TL.par_none1 h0)
    rw [SX.S_tl] at e
    have e2 : Txt.partition w0 blank = (w0, SX.S [], SX.S []) := e
    rw [e2, if_pos rfl]
    exact ⟨rfl, rfl⟩
  | cons r R =>
    have ex : TL.tl x = TL.tl w0 ++ ([32] ++ TL.tl (Txt.join blank (r :: R))) := by
      rw [← hx, TL.join_eq, TL.join_eq, TL.tl_join, TL.tl_join, tlb]
      rfl
    have e := SX.partition_some (a := TL.tl x) (b := [32]) (p := TL.tl w0) (q := TL.tl (Txt.join blank (r :: R))) (by simp) (by rw [ex]; exact SX.par_head _ h0)
    rw [SX.S_tl, SX.S_tl, SX.S_tl] at e
    have e2 : Txt.partition x blank = (w0, SX.S [32], Txt.join blank (r :: R)) := e
    rw [e2, if_neg (by simp)]
    exact ⟨rfl, rfl⟩
theorem pre_no {l : List Nat} (h : l[1]? ≠ some 62) : TL.pre [32, 62, 32] l = false := by
  unfold TL.pre
  rw [beq_eq_false_iff_ne]
  intro e
  have e1 : (l.take 3)[1]? = some 62 := by
    have : l.take [32, 62, 32].length = [32, 62, 32] := e
    rw [show [32, 62, 32].length = 3 from rfl] at this
    rw [this]; rfl
  rw [List.getElem?_take_of_lt (by decide)] at e1
  exact h e1
theorem split_one {r : Str} (h : 62 ∉ TL.tl r) : Txt.split r towards = [r] := by
  refine TL.map_tl_inj ?_
  rw [TL.split_spl r towards (by rw [tlt]; simp) (TL.kind_ok (by decide +kernel)), tlt]
  rw [TL.spl_last fun i hi => pre_no fun e => ?_]
  · rfl
  · rw [List.getElem?_drop] at e
    exact h (List.mem_of_getElem? e)
theorem split_two {a b : Str} (ha : 62 ∉ TL.tl a) (hb : 62 ∉ TL.tl b) : Txt.split (a ++ towards ++ b) towards = [a, b] := by
  refine TL.map_tl_inj ?_
  rw [TL.split_spl _ towards (by rw [tlt]; simp) (TL.kind_ok (by decide +kernel)), TL.tl_append, TL.tl_append, tlt, List.append_assoc]
  rw [TL.spl_part (by simp) fun i hi => pre_no fun e => ?_]
  · rw [TL.spl_last fun i hi => pre_no fun e => ?_]
    · rfl
    · rw [List.getElem?_drop] at e
      exact hb (List.mem_of_getElem? e)
  · rw [List.getElem?_drop] at e
    by_cases h : i + 1 < (TL.tl a).length
    · rw [List.getElem?_append_left h] at e
      exact ha (List.mem_of_getElem? e)
    · have hi1 : i + 1 = (TL.tl a).length := by omega
      rw [List.getElem?_append_right (by omega), hi1, Nat.sub_self] at e
      simp at e
theorem join_mid : ∀ {A B : List Str}, A ≠ [] → B ≠ [] → Txt.join blank (A ++ gt :: B) = Txt.join blank A ++ towards ++ Txt.join blank B := fun {A B} ha hb => by
  have key : ∀ A : List Str, A ≠ [] → TL.joinL [32] ((A ++ gt :: B).map TL.tl) = TL.joinL [32] (A.map TL.tl) ++ ([32, 62, 32] ++ TL.joinL [32] (B.map TL.tl)) := fun A => by
    obtain ⟨b, B', rfl⟩ : ∃ b B', B = b :: B' := by
      cases B with
      | nil => exact absurd rfl hb
      | cons b B' => exact ⟨b, B', rfl⟩
    induction A with
    | nil => intro h; exact absurd rfl h
    | cons a A ih =>
      intro _
      cases A with
      | nil => rfl
      | cons a2 A2 =>
        have q := ih (by simp)
        show TL.tl a ++ ([32] ++ TL.joinL [32] ((a2 :: A2 ++ gt :: b :: B').map TL.tl)) = (TL.tl a ++ ([32] ++ TL.joinL [32] ((a2 :: A2).map TL.tl))) ++ _
        rw [q]
        simp only [List.append_assoc]
  refine TL.ext_tl ?_
  rw [TL.tl_append, TL.tl_append, TL.join_eq, TL.join_eq, TL.join_eq, TL.tl_join, TL.tl_join, TL.tl_join, tlb, tlt, key A ha, List.append_assoc]
theorem named_words {ws : List Str} (h : named ws = true) : ws ≠ [] ∧ okWords ws = true := by
  have h : (decide (1 ≤ ws.length) && okWords ws) = true := h
  rw [Bool.and_eq_true, decide_eq_true_iff] at h
  exact ⟨fun e => by rw [e] at h; simp at h, h.2⟩
theorem named_of {ws : List Str} (h0 : ws ≠ []) (h : okWords ws = true) : named ws = true := by
  show (decide (1 ≤ ws.length) && okWords ws) = true
  rw [h, decide_eq_true (by cases ws with | nil => exact absurd rfl h0 | cons a b => simp)]
  rfl
theorem words_no {ws : List Str} (h : okWords ws = true) {k : Nat} (hk : k ∉ letters.cps.toList) : ∀ p ∈ ws, k ∉ TL.tl p := fun p hp => name_sign ((ok_words h).2.1 p hp) hk
theorem split_pos' (x : Str) : Txt.split x blank ≠ [] := fun e => by
  have := PyProof.Rows.split_pos x blank
  rw [e] at this
  simp at this
theorem gt_name {c : Str} (h : nameOk c = true) : c ≠ gt := fun e => by
  rw [e] at h
  revert h
  decide +kernel
theorem order_of {R : List Str} (h0 : R ≠ []) (h : okWords R = true) : pOrder (Txt.join blank R) = some R := (pOrder_iff _ _).mpr ⟨split_join_blank h0 (words_no h (by decide)), h⟩
theorem read_eq (x : Str) : readL x = pStep x := by
  obtain ⟨w0, R, h⟩ : ∃ w0 R, Txt.split x blank = w0 :: R := by
    cases e : Txt.split x blank with
    | nil => exact absurd e (split_pos' x)
    | cons a b => exact ⟨a, b, rfl⟩
  obtain ⟨h1, h2⟩ := part_blank h
  have hf := split_no32 x
  rw [h] at hf
  have hR : ∀ p ∈ R, 32 ∉ TL.tl p := fun p hp => hf p (List.mem_cons_of_mem _ hp)
  have eL : readL x = readW (w0 :: R) := by unfold readL; rw [h]
  have eP : pStep x = if isWord w0 && decide ((Txt.split (if R = [] then Str.empty else Txt.join blank R) towards).length = if w0 = sRelay then 2 else 1) then (allOrders (Txt.split (if R = [] then Str.empty else Txt.join blank R) towards)).map fun os => (w0, os) else none := by
    unfold pStep
    simp only [h1, h2]
  rw [eL, eP]
  have hd : headS (w0 :: R) = w0 := rfl
  have d1 : (w0 :: R).drop 1 = R := rfl
  -- what the rest reads as an order
  have rest : ∀ cs, pOrder (if R = [] then Str.empty else Txt.join blank R) = some cs → R ≠ [] ∧ cs = R ∧ okWords R = true := fun cs hc => by
    obtain ⟨e1, e2⟩ := (pOrder_iff _ _).mp hc
    by_cases r0 : R = []
    · rw [if_pos r0] at e1
      have e3 : Txt.split Str.empty blank = [Str.empty] := by decide +kernel
      rw [e3] at e1
      rw [← e1] at e2
      exact absurd e2 (by decide +kernel)
    · rw [if_neg r0, split_join_blank r0 hR] at e1
      rw [← e1] at e2
      exact ⟨r0, e1.symm, e2⟩
  unfold readW
  rw [hd, d1]
  by_cases hb : w0 = sBuild ∨ w0 = sDrop
  · have hb2 : (decide (w0 = sBuild) || decide (w0 = sDrop)) = true := by simpa using hb
    have nr : w0 ≠ sRelay := by
      rcases hb with rfl | rfl
      · decide +kernel
      · decide +kernel
    have iw : isWord w0 = true := by unfold isWord; rw [hb2]; rfl
    rw [hb2, iw, if_neg nr, Bool.true_and, Bool.true_and]
    by_cases hn : named R = true
    · obtain ⟨r0, ok⟩ := named_words hn
      rw [if_pos hn, if_neg r0]
      have n62 : 62 ∉ TL.tl (Txt.join blank R) := join_sign (by decide) (words_no ok (by decide))
      rw [split_one n62, if_pos (by rfl)]
      show _ = Option.map _ (match pOrder (Txt.join blank R), allOrders [] with | some cs, some r => some (cs :: r) | _, _ => none)
      rw [order_of r0 ok]
      rfl
    · rw [if_neg hn, decide_eq_false nr]
      rw [if_neg (by simp)]
      by_cases hl : decide ((Txt.split (if R = [] then Str.empty else Txt.join blank R) towards).length = 1) = true
      · rw [if_pos hl]
        have hl2 := of_decide_eq_true hl
        obtain ⟨q, hq⟩ : ∃ q, Txt.split (if R = [] then Str.empty else Txt.join blank R) towards = [q] := List.length_eq_one_iff.mp hl2
        have e : Txt.join towards (Txt.split (if R = [] then Str.empty else Txt.join blank R) towards) = (if R = [] then Str.empty else Txt.join blank R) := by rw [TL.join_eq]; exact StrLaws.join_split _ towards
        rw [hq, join1] at e
        rw [hq]
        have no : pOrder q = none := by
          cases hc : pOrder q with
          | none => rfl
          | some cs =>
            rw [e] at hc
            obtain ⟨r0, _, ok⟩ := rest cs hc
            exact absurd (named_of r0 ok) hn
        show none = Option.map _ (match pOrder q, allOrders [] with | some cs, some r => some (cs :: r) | _, _ => none)
        rw [no]
        rfl
      · rw [if_neg hl]
  · have hb2 : (decide (w0 = sBuild) || decide (w0 = sDrop)) = false := by simpa using hb
    rw [hb2, Bool.false_and, if_neg (by decide)]
    by_cases hr : w0 = sRelay
    · have iw : isWord w0 = true := by unfold isWord; rw [hb2, decide_eq_true hr]; rfl
      have w0gt : w0 ≠ gt := by rw [hr]; decide +kernel
      rw [iw, decide_eq_true hr, if_pos hr, Bool.true_and, Bool.true_and]
      by_cases ex : ∃ A B, R = A ++ gt :: B ∧ named A = true ∧ named B = true
      · obtain ⟨A, B, rfl, nA, nB⟩ := ex
        obtain ⟨a0, okA⟩ := named_words nA
        obtain ⟨b0, okB⟩ := named_words nB
        have cA : A.countP (fun z => decide (z = gt)) = 0 := List.countP_eq_zero.mpr fun z hz => by
          rw [decide_eq_true_iff]; exact gt_name ((ok_words okA).2.1 z hz)
        have cB : B.countP (fun z => decide (z = gt)) = 0 := List.countP_eq_zero.mpr fun z hz => by
          rw [decide_eq_true_iff]; exact gt_name ((ok_words okB).2.1 z hz)
        have cnt : (w0 :: (A ++ gt :: B)).countP (fun z => decide (z = gt)) = 1 := by
          rw [List.countP_cons_of_neg (by simpa using w0gt), List.countP_append, List.countP_cons_of_pos (by simp), cA, cB]
        have idx : (w0 :: (A ++ gt :: B)).findIdx (fun z => decide (z = gt)) = A.length + 1 := by
          rw [List.findIdx_cons, decide_eq_false w0gt]
          show (A ++ gt :: B).findIdx _ + 1 = _
          congr 1
          rw [List.findIdx_append, if_neg, List.findIdx_cons, decide_eq_true rfl]
          · show 0 + A.length = _
            omega
          · have : A.findIdx (fun z => decide (z = gt)) = A.length := List.findIdx_eq_length.mpr fun z hz => decide_eq_false (gt_name ((ok_words okA).2.1 z hz))
            omega
        rw [cnt, idx]
        have t1 : (A ++ gt :: B).take (A.length + 1 - 1) = A := by rw [Nat.add_sub_cancel, List.take_left]
        have t2 : (w0 :: (A ++ gt :: B)).drop (A.length + 1 + 1) = B := by
          rw [List.drop_succ_cons, List.drop_append, List.drop_of_length_le (by omega)]
          simp
        rw [t1, t2, nA, nB, if_pos (by rfl)]
        rw [if_pos (show (true && true) = true by rfl)]
        rw [if_neg (show A ++ gt :: B ≠ [] by simp), join_mid a0 b0]
        have nA62 : 62 ∉ TL.tl (Txt.join blank A) := join_sign (by decide) (words_no okA (by decide))
        have nB62 : 62 ∉ TL.tl (Txt.join blank B) := join_sign (by decide) (words_no okB (by decide))
        rw [split_two nA62 nB62, if_pos (by rfl)]
        show _ = Option.map _ (match pOrder (Txt.join blank A), (match pOrder (Txt.join blank B), allOrders [] with | some cs, some r => some (cs :: r) | _, _ => none) with | some cs, some r => some (cs :: r) | _, _ => none)
        rw [order_of a0 okA, order_of b0 okB, hr]
        rfl
      · have lhs : (if decide ((w0 :: R).countP (fun z => decide (z = gt)) = 1) = true then
            if (named (R.take ((w0 :: R).findIdx (fun z => decide (z = gt)) - 1)) && named ((w0 :: R).drop ((w0 :: R).findIdx (fun z => decide (z = gt)) + 1))) = true then
              some (sRelay, [R.take ((w0 :: R).findIdx (fun z => decide (z = gt)) - 1), (w0 :: R).drop ((w0 :: R).findIdx (fun z => decide (z = gt)) + 1)]) else none else none) = none := by
          by_cases hc : decide ((w0 :: R).countP (fun z => decide (z = gt)) = 1) = true
          · rw [if_pos hc]
            by_cases hn : (named (R.take ((w0 :: R).findIdx (fun z => decide (z = gt)) - 1)) && named ((w0 :: R).drop ((w0 :: R).findIdx (fun z => decide (z = gt)) + 1))) = true
            · exfalso
              rw [Bool.and_eq_true] at hn
              have hc2 := of_decide_eq_true hc
              have idx : (w0 :: R).findIdx (fun z => decide (z = gt)) = R.findIdx (fun z => decide (z = gt)) + 1 := by
                rw [List.findIdx_cons, decide_eq_false w0gt]
                rfl
              rw [idx] at hn
              have cR : R.countP (fun z => decide (z = gt)) = 1 := by
                rw [List.countP_cons_of_neg (by simpa using w0gt)] at hc2
                exact hc2
              have exg : ∃ z ∈ R, decide (z = gt) = true := List.countP_pos_iff.mp (by rw [cR]; decide)
              have jl := List.findIdx_lt_length_of_exists exg
              have jz : R[R.findIdx (fun z => decide (z = gt))] = gt := of_decide_eq_true (List.findIdx_getElem (w := jl))
              refine ex ⟨R.take (R.findIdx (fun z => decide (z = gt))), R.drop (R.findIdx (fun z => decide (z = gt)) + 1), ?_, hn.1, hn.2⟩
              have jj : R = R.take (R.findIdx (fun z => decide (z = gt))) ++ R[R.findIdx (fun z => decide (z = gt))] :: R.drop (R.findIdx (fun z => decide (z = gt)) + 1) := by
                rw [List.getElem_cons_drop, List.take_append_drop]
              rw [jz] at jj
              exact jj
            · rw [if_neg hn]
          · rw [if_neg hc]
        rw [lhs]
        by_cases hl : decide ((Txt.split (if R = [] then Str.empty else Txt.join blank R) towards).length = 2) = true
        · rw [if_pos hl]
          have hl2 := of_decide_eq_true hl
          obtain ⟨p1, p2, hp⟩ : ∃ p1 p2, Txt.split (if R = [] then Str.empty else Txt.join blank R) towards = [p1, p2] := by
            generalize Txt.split (if R = [] then Str.empty else Txt.join blank R) towards = l at hl2
            match l, hl2 with
            | [p1, p2], _ => exact ⟨p1, p2, rfl⟩
          have e : Txt.join towards (Txt.split (if R = [] then Str.empty else Txt.join blank R) towards) = (if R = [] then Str.empty else Txt.join blank R) := by rw [TL.join_eq]; exact StrLaws.join_split _ towards
          rw [hp, join2] at e
          rw [hp]
          show none = Option.map _ (match pOrder p1, (match pOrder p2, allOrders [] with | some cs, some r => some (cs :: r) | _, _ => none) with | some cs, some r => some (cs :: r) | _, _ => none)
          cases c1 : pOrder p1 with
          | none => rfl
          | some A =>
            cases c2 : pOrder p2 with
            | none => rfl
            | some B =>
              exfalso
              obtain ⟨sA, okA⟩ := (pOrder_iff _ _).mp c1
              obtain ⟨sB, okB⟩ := (pOrder_iff _ _).mp c2
              have a0 : A ≠ [] := sA ▸ split_pos' p1
              have b0 : B ≠ [] := sB ▸ split_pos' p2
              have j1 := join_split_blank p1
              have j2 := join_split_blank p2
              rw [sA] at j1
              rw [sB] at j2
              have r0 : R ≠ [] := fun r0 => by
                rw [if_pos r0] at e
                have := congrArg Str.length e
                rw [Str.length_append, Str.length_append] at this
                have t3 : towards.length = 3 := rfl
                have t0 : Str.empty.length = 0 := rfl
                omega
              rw [if_neg r0, ← j1, ← j2, ← join_mid a0 b0] at e
              have eR := split_join_blank r0 hR
              rw [← e] at eR
              have eAB : Txt.split (Txt.join blank (A ++ gt :: B)) blank = A ++ gt :: B := split_join_blank (by simp) fun p hp => by
                rcases List.mem_append.mp hp with q | q
                · exact words_no okA (by decide) p q
                · rcases List.mem_cons.mp q with q | q
                  · rw [q]; decide +kernel
                  · exact words_no okB (by decide) p q
              exact ex ⟨A, B, eR.symm.trans eAB, named_of a0 okA, named_of b0 okB⟩
        · rw [if_neg hl]
    · have iw : isWord w0 = false := by unfold isWord; rw [hb2, decide_eq_false hr]; rfl
      rw [iw, decide_eq_false hr]
      rfl
theorem readL_pStep : readL = pStep := funext read_eq
end SO
end
section
/-! k78, the mathematics: the texts of steps are read as the steps -/
set_option maxHeartbeats 4000000
namespace SO
open PySem PySem.Spec PyProof.Rows L2 LamX XF

theorem names_named {cs : List Str} (h : namesOk cs) : named cs = true := by
  obtain ⟨h1, h2, h3, h4⟩ := h
  show (decide (1 ≤ cs.length) && (decide (cs.length ≤ 5) && cs.all nameOk && decide cs.Nodup)) = true
  simp only [Bool.and_eq_true, decide_eq_true_eq, List.all_eq_true]
  exact ⟨h1, ⟨h2, h3⟩, h4⟩
theorem join_cons (w : Str) {cs : List Str} (h : cs ≠ []) : Txt.join blank (w :: cs) = (w ++ blank) ++ Txt.join blank cs := by
  cases cs with
  | nil => exact absurd rfl h
  | cons c r =>
    refine TL.ext_tl ?_
    rw [TL.tl_append, TL.tl_append, TL.join_eq, TL.join_eq, TL.tl_join, TL.tl_join, tlb]
    show TL.tl w ++ ([32] ++ _) = _
    rw [List.append_assoc]
    rfl
theorem emp_app (w : Str) : Str.empty ++ w = w := TL.ext_tl (by rw [TL.tl_append]; rfl)
theorem word_free {w : Str} (h : w = sBuild ∨ w = sDrop ∨ w = sRelay) : 32 ∉ TL.tl w ∧ 10 ∉ TL.tl w := by
  rcases h with rfl | rfl | rfl <;> decide +kernel
theorem pStep_text {st : Str × List (List Str)} (h : okStep st) : pStep (stepText (stD st)) = some st := by
  obtain ⟨hd, hn⟩ := h
  rw [← read_eq]
  unfold readL
  obtain ⟨w, os⟩ := st
  rcases hd with ⟨h1, h2⟩ | ⟨h1, h2⟩
  · have h1 : os.length = 1 := h1
    have h2 : w = sBuild ∨ w = sDrop := h2
    match os, h1 with
    | [cs], _ =>
      have nm := names_named (hn cs List.mem_cons_self)
      obtain ⟨ne, ok⟩ := named_words nm
      have e : stepText (stD (w, [cs])) = Txt.join blank (w :: cs) := by rw [text1, join_cons w ne, emp_app]
      have wf : 32 ∉ TL.tl w := (word_free (h2.elim .inl (fun h => .inr (.inl h)))).1
      rw [e, split_join_blank (by simp) (fun p hp => (List.mem_cons.mp hp).elim (fun e => e ▸ wf) (words_no ok (by decide) p))]
      unfold readW
      have hb2 : (decide (w = sBuild) || decide (w = sDrop)) = true := by simpa using h2
      show (if ((decide (w = sBuild) || decide (w = sDrop)) && named cs) = true then _ else _) = _
      rw [hb2, nm, if_pos (by rfl)]
      rfl
  · have h1 : os.length = 2 := h1
    have h2 : w = sRelay := h2
    subst h2
    match os, h1 with
    | [A, B], _ =>
      have nA := names_named (hn A List.mem_cons_self)
      have nB := names_named (hn B (List.mem_cons_of_mem _ List.mem_cons_self))
      obtain ⟨a0, okA⟩ := named_words nA
      obtain ⟨b0, okB⟩ := named_words nB
      have e : stepText (stD (sRelay, [A, B])) = Txt.join blank (sRelay :: (A ++ gt :: B)) := by
        rw [text2, join_cons sRelay (by simp), emp_app, join_mid a0 b0]
        exact TL.ext_tl (by simp only [TL.tl_append, List.append_assoc])
      rw [e, split_join_blank (by simp) (fun p hp => ?_)]
      · have := read_eq (Txt.join blank (sRelay :: (A ++ gt :: B)))
        have ex : readW (sRelay :: (A ++ gt :: B)) = some (sRelay, [A, B]) := by
          have cA : A.countP (fun z => decide (z = gt)) = 0 := List.countP_eq_zero.mpr fun z hz => by
            rw [decide_eq_true_iff]; exact gt_name ((ok_words okA).2.1 z hz)
          have cB : B.countP (fun z => decide (z = gt)) = 0 := List.countP_eq_zero.mpr fun z hz => by
            rw [decide_eq_true_iff]; exact gt_name ((ok_words okB).2.1 z hz)
          have w0gt : sRelay ≠ gt := by decide +kernel
          have cnt : (sRelay :: (A ++ gt :: B)).countP (fun z => decide (z = gt)) = 1 := by
            rw [List.countP_cons_of_neg (by simpa using w0gt), List.countP_append, List.countP_cons_of_pos (by simp), cA, cB]
          have idx : (sRelay :: (A ++ gt :: B)).findIdx (fun z => decide (z = gt)) = A.length + 1 := by
            rw [List.findIdx_cons, decide_eq_false w0gt]
            show (A ++ gt :: B).findIdx _ + 1 = _
            congr 1
            rw [List.findIdx_append, if_neg, List.findIdx_cons, decide_eq_true rfl]
            · show 0 + A.length = _
              omega
            · have : A.findIdx (fun z => decide (z = gt)) = A.length := List.findIdx_eq_length.mpr fun z hz => decide_eq_false (gt_name ((ok_words okA).2.1 z hz))
              omega
          have t1 : (A ++ gt :: B).take (A.length + 1 - 1) = A := by rw [Nat.add_sub_cancel, List.take_left]
          have t2 : (sRelay :: (A ++ gt :: B)).drop (A.length + 1 + 1) = B := by
            rw [List.drop_succ_cons, List.drop_append, List.drop_of_length_le (by omega)]
            simp
          have hd : headS (sRelay :: (A ++ gt :: B)) = sRelay := rfl
          have d1 : (sRelay :: (A ++ gt :: B)).drop 1 = A ++ gt :: B := rfl
          unfold readW
          rw [hd, d1, cnt, idx, t1, t2, nA, nB]
          rw [show (decide (sRelay = sBuild) || decide (sRelay = sDrop)) = false by decide +kernel]
          rfl
        exact ex
      · rcases List.mem_cons.mp hp with q | q
        · rw [q]; decide +kernel
        · rcases List.mem_append.mp q with q | q
          · exact words_no okA (by decide) p q
          · rcases List.mem_cons.mp q with q | q
            · rw [q]; decide +kernel
            · exact words_no okB (by decide) p q
theorem no_nl {st : Str × List (List Str)} (h : okStep st) : 10 ∉ TL.tl (stepText (stD st)) ∧ stepText (stD st) ≠ Str.empty := by
  obtain ⟨hd, hn⟩ := h
  obtain ⟨w, os⟩ := st
  have wf : 10 ∉ TL.tl w ∧ 10 ∉ TL.tl blank ∧ 10 ∉ TL.tl towards := ⟨by
    rcases hd with ⟨_, h2⟩ | ⟨_, h2⟩
    · exact (word_free (h2.elim .inl (fun h => .inr (.inl h)))).2
    · exact (word_free (.inr (.inr h2))).2, by decide +kernel, by decide +kernel⟩
  have hj : ∀ cs ∈ os, 10 ∉ TL.tl (Txt.join blank cs) := fun cs hc => join_sign (by decide) (words_no (named_words (names_named (hn cs hc))).2 (by decide))
  have e : TL.tl (stepText (stD (w, os))) = TL.tl w ++ ([32] ++ TL.tl (Txt.join towards ((os.map D.ord).map ordText))) := by
    show TL.tl (((Str.empty ++ w) ++ blank) ++ Txt.join towards ((os.map D.ord).map ordText)) = _
    rw [TL.tl_append, TL.tl_append, TL.tl_append, tlb, List.append_assoc]
    rfl
  refine ⟨fun hm => ?_, fun z => ?_⟩
  · rw [e] at hm
    rcases List.mem_append.mp hm with q | q
    · exact wf.1 q
    · rcases List.mem_append.mp q with q | q
      · exact absurd q (by decide)
      · rw [TL.join_eq, TL.tl_join] at q
        rcases joinL_of q with q | ⟨z, hz, q⟩
        · exact wf.2.2 q
        · obtain ⟨t, ht, rfl⟩ := List.mem_map.mp hz
          rw [List.map_map] at ht
          obtain ⟨cs, hc, rfl⟩ := List.mem_map.mp ht
          exact hj cs hc q
  · rw [z] at e
    have h0 : TL.tl Str.empty = [] := rfl
    rw [h0] at e
    have := congrArg List.length e
    simp at this
def linesT (sts : List (Str × List (List Str))) : List Str := sts.map fun st => stepText (stD st)
theorem allS_lines : ∀ {sts : List (Str × List (List Str))}, (∀ st ∈ sts, okStep st) → allS pStep (linesT sts) = some sts
  | [], _ => rfl
  | st :: sts, h => by
    have e : linesT (st :: sts) = stepText (stD st) :: linesT sts := rfl
    rw [e, allS, pStep_text (h st List.mem_cons_self), allS_lines (fun q hq => h q (List.mem_cons_of_mem _ hq))]
theorem lines_of {sts : List (Str × List (List Str))} (h : ∀ st ∈ sts, okStep st) : linesOf (Txt.join nl (linesT sts)) = linesT sts := by
  unfold linesOf
  cases sts with
  | nil => rw [if_pos (by decide +kernel)]; rfl
  | cons st r =>
    have hne : Txt.join nl (linesT (st :: r)) ≠ Str.empty := fun z => by
      have e0 := congrArg TL.tl z
      rw [TL.join_eq, TL.tl_join] at e0
      have h0 : TL.tl Str.empty = [] := rfl
      rw [h0] at e0
      have q := (no_nl (h st List.mem_cons_self)).2
      refine q (TL.ext_tl ?_)
      rw [h0]
      cases r with
      | nil => exact e0
      | cons a b => exact (List.append_eq_nil_iff.mp e0).1
    rw [if_neg hne]
    exact TL.split_join (s := 10) (S := []) rfl (by decide +kernel) (by simp [linesT]) fun p hp => by
      obtain ⟨s, hs, rfl⟩ := List.mem_map.mp hp
      exact (no_nl (h s hs)).1
theorem pSteps_ok {sts : List (Str × List (List Str))} (h : ∀ st ∈ sts, okStep st) (hl : sts.length ≤ 100) : pSteps (Txt.join nl (linesT sts)) = .inr sts := by
  unfold pSteps
  rw [lines_of h]
  exact due_ok (allS_lines h) (by rw [linesT, List.length_map]; exact hl)
theorem pSteps_more {sts : List (Str × List (List Str))} (h : ∀ st ∈ sts, okStep st) (hl : 100 < sts.length) : pSteps (Txt.join nl (linesT sts)) = .inl 100 := by
  unfold pSteps
  rw [lines_of h]
  obtain ⟨z, hz⟩ : ∃ z, (linesT sts)[100]? = some z := ⟨_, List.getElem?_eq_getElem (by rw [linesT, List.length_map]; exact hl)⟩
  have ht : (linesT sts).take 100 = linesT (sts.take 100) := by rw [linesT, linesT, List.map_take]
  exact due_bad hz (by rw [ht]; exact allS_lines (fun q hq => h q (List.mem_of_mem_take hq))) (Nat.le_refl _) (.inl rfl)
end SO
end
section
/-! k78, the mathematics: good steps and steps_text -/
set_option maxHeartbeats 4000000
namespace SO
open PySem PySem.Spec PyProof.Rows L2 LamX XF
theorem stOk_of {st : Str × List (List Str)} (h : okStep st) : stOk (stD st) := by
  obtain ⟨_, hn⟩ := h
  show ∀ cs, D.ord cs ∈ D.str st.1 :: st.2.map D.ord → namesOk cs
  intro cs hc
  rcases List.mem_cons.mp hc with q | q
  · cases q
  · obtain ⟨c, hc', e⟩ := List.mem_map.mp q
    cases e
    exact hn _ hc'
theorem isStep_of {st : Str × List (List Str)} (h : okStep st) : isStep (stD st) = true := by
  obtain ⟨hd, _⟩ := h
  have ha : (st.2.map D.ord).all isOrd = true := by
    rw [List.all_map, List.all_eq_true]
    exact fun _ _ => rfl
  show ((st.2.map D.ord).all isOrd && ((decide ((st.2.map D.ord).length = 1) && (decide (st.1 = sBuild) || decide (st.1 = sDrop))) || (decide ((st.2.map D.ord).length = 2) && decide (st.1 = sRelay)))) = true
  rw [ha, List.length_map]
  rcases hd with ⟨h1, h2 | h2⟩ | ⟨h1, h2⟩ <;> simp [h1, h2]
theorem stepsOk_of {sts : List (Str × List (List Str))} (h : ∀ st ∈ sts, okStep st) (hl : sts.length ≤ 100) : stepsOk (.lst (sts.map stD)) = true := by
  show (true && decide ((sts.map stD).length ≤ 100) && (sts.map stD).all isStep) = true
  rw [List.length_map, decide_eq_true hl, List.all_map]
  simpa using fun a b hb => isStep_of (h (a, b) hb)
theorem stepsOk_tup {sts : List (Str × List (List Str))} (h : ∀ st ∈ sts, okStep st) (hl : sts.length ≤ 100) : stepsOk (.tup (sts.map stD)) = true := stepsOk_of h hl
theorem stepsOk_not {sts : List (Str × List (List Str))} (hl : 100 < sts.length) : stepsOk (.lst (sts.map stD)) = false := by
  show (true && decide ((sts.map stD).length ≤ 100) && (sts.map stD).all isStep) = false
  rw [List.length_map, decide_eq_false (by omega)]
  rfl
theorem stepsText_of (sts : List (Str × List (List Str))) : stepsText (.lst (sts.map stD)) = Txt.join nl (linesT sts) := by
  show Txt.join nl ((sts.map stD).map stepText) = _
  rw [List.map_map]
  rfl
theorem dep_st (st : Str × List (List Str)) (n : Nat) : dep (n + 1) (stD st) := by
  show ∀ d ∈ D.str st.1 :: st.2.map D.ord, dep n d
  intro d hd
  rcases List.mem_cons.mp hd with q | q
  · rw [q]; cases n <;> exact True.intro
  · obtain ⟨c, _, e⟩ := List.mem_map.mp q
    rw [← e]; cases n <;> exact True.intro
theorem dep_sts (sts : List (Str × List (List Str))) (n : Nat) : ∀ d ∈ sts.map stD, dep (n + 1) d := fun d hd => by
  obtain ⟨c, _, e⟩ := List.mem_map.mp hd
  rw [← e]; exact dep_st c n
end SO
end
section
/-! k78, part Q1: _law_caught(lambda: ..), _law_step_told -/
set_option maxHeartbeats 4000000
namespace SO
open PySem PySem.Spec PyProof.Rows L2 LamX XF

/-- a def that makes lambdas: its code object is c -/
structure FunL (K : PySem.W.Frag) (x : Str) (st : Stmt) (f : Addr) (fd : FuncData) (c : Addr) : Prop where
  ex : ∃ (oc : Value) (od : Option Addr) (kV doc pm : Value) (an : Option Addr) (ct : Value) (osl : Array (Option Value)),
    fd = PySem.W.fnOf x x (defArgs st) (defBody st) (defScope st) .none kV doc pm an (.ref c) ct ∧ K.lookup f = some ⟨oc, od, .func fd, osl⟩ ∧ PySem.W.codeIn K (.ref c) x = true
theorem FunL.ok {P : Program} {w : World} {K : PySem.W.Frag} {mg : Str → Option Value} {base : Heap} {x : Str} {st : Stmt} {f c : Addr} {fd : FuncData} {N ps : List Str} {k : Nat} {sp : Sp} (F : FunL K x st f fd c) (S : FnScope N ps (defScope st)) (len : ∀ vs H Q E, sp vs H Q E → vs.length = ps.length)
    (hbody : ∀ (A : Around) (outer : List Env) (s : Shared) (H : Hp) (vs : List V) (Q : VK) (E : XK), Room k (A.deeper (envOfC x (defScope st) s.heap.objs.size f (.ref c))) → sp vs H Q E →
      ∃ t, PSs (cxOf C8.CX0 P w K mg base N x (defScope st) f (.ref c) A outer s H E).nox (defBody st) t ∧ t { nx := fun _ H' => Q .non H', rt := Q } (L2.start N vs) H) : FnOk P w K mg base C8.CX0 (k + 1) f fd ps sp := by
  obtain ⟨oc, od, kV, doc, pm, an, ct, osl, rfl, lk, hcd⟩ := F.ex
  refine fn_of lk hcd S len fun A outer s H vs Q E hr hsp => ?_
  obtain ⟨t, h, q⟩ := hbody A outer s H vs Q E hr hsp
  exact ⟨t, h.nox, q⟩
/-- _law_caught stands -/
structure CKt (K : PySem.W.Frag) (mg : Str → Option Value) : Prop where
  ex : ∃ (g : Addr) (oc : Value) (od : Option Addr) (kV doc pm : Value) (an : Option Addr) (cdv ct : Value) (osl : Array (Option Value)),
    mg "_law_caught" = some (.ref g) ∧ PySem.W.keepIn K (.ref g) = true ∧ K.lookup g = some ⟨oc, od, .func (PySem.W.fnOf "_law_caught" "_law_caught" (defArgs sCaught) (defBody sCaught) (defScope sCaught) .none kV doc pm an cdv ct), osl⟩ ∧ PySem.W.codeIn K cdv "_law_caught" = true ∧
    L2.Binds K (PySem.W.fnOf "_law_caught" "_law_caught" (defArgs sCaught) (defBody sCaught) (defScope sCaught) .none kV doc pm an cdv ct) ["_law_ask"] []
/-- in a lambda's body exceptions of callees go on -/
theorem passLam {Z : ZT} (zo : ZOk Z) {X : Cx} {A : Around} {outer : List Env} {s : Shared} {H : Hp} {E : XK} {scope : Scope} {f c' : Addr} (σ : L2.St) : PassesAt (Out Z X.prog X.w) (lamCx X A outer s H E scope f c') σ E := fun pins H' s' e t I c => by
  have ha : Air Z (lamCx X A outer s H E scope f c') (fun c d _ H => E c d H) e t := Air.called I (fun _ _ _ h => h) c
  exact wpAny_mono (Air.leaves zo rfl rfl rfl (E := E) (E₁ := fun e' s'' => L2.CX X.prog X.w outer H s E e' s'') (fun _ _ _ _ h => h) ha) (fun _ _ h => Out.l2 zo h) fun _ _ h => h
def Z2 : ZT := fun _ _ c d o => Zc c d o
theorem Z2.ok : ZOk Z2 := ⟨fun _ _ _ _ o v h => ⟨PXN.steady_cls o v h.1, PXN.steady_dict o v h.2⟩, fun h => h⟩
theorem Out.ofCX {P : Program} {w : World} {outer : List Env} {H : Hp} {s t : Shared} {E : XK} {u : Value} (x : L2.CX P w outer H s E u t) : Out Z2 P w outer H s E u t :=
  let ⟨a, B, H', c, d, e, fl, r⟩ := x; ⟨a, B, H', c, d, e, flying_imp (fun _ h => h) fl, r⟩
theorem passLamX {X : Cx} {A : Around} {outer : List Env} {s : Shared} {H : Hp} {E : XK} {scope : Scope} {f c' : Addr} (σ : L2.St) : PassesAt (L2.CX X.prog X.w) (lamCx X A outer s H E scope f c') σ E := fun pins H' s' e t I c =>
  passLam Z2.ok σ pins H' s' e t I (Out.ofCX c)
section
variable {X : Cx} {CT CI CS : Addr} {T : List (Addr × Str)} {c P : Addr} {k : Nat} {params : Arguments} {body : Expr} {scope : Scope} {t : XK → TE} {p lpos pos : Pos}
theorem pe_caught (G : CKt X.K X.mg) (CC : CatC X.K X.mg CT CI CS) (TB : TabB X.base X.mg c P) (hcode : X.env.code = .ref c) (hmT : (P, X.env.qual ++ "<lambda>") ∈ T) (hu : ∀ p ∈ T, p.1 = P → p.2 = X.env.qual ++ "<lambda>") (hr : Room (k + 2) X.A) (L : LamS X.env.scope scope) (hdef : defaultsOf params X.env = ([], []))
    (hbind : ∀ (q : Str) (cl : List (Str × Addr)) (pm cv ctv : Value), bindArgs (PySem.W.kla_fn "<lambda>" q params body scope cl pm cv ctv) ⟨[], []⟩ = pure [])
    (hbody : ∀ (A : Around) (outer : List Env) (s : Shared) (H : Hp) (E : XK) (f c' : Addr), Room k (A.deeper (lamEnv X scope s.heap.objs.size f c')) → PE (lamCx X A outer s H E scope f c') body (t E)) (hg : Gl X "_law_caught" := by rfl) :
    PE X (.Call (.Name "_law_caught" p) [.Lambda params body scope lpos] [] pos) (tLam T (TCaught CT CI CS) t) := by
  obtain ⟨g, oc, od, kV, doc, pm, an, cdv, ct, osl, e1, e2, e3, e4, e5⟩ := G.ex
  exact pe_lamcall hg e1 e2 e3 e4 e5 scCaught rfl (.inl rfl) (gives_caught CC) TB hcode hmT hu hr L hdef hbind hbody
end
end SO
end
section
/-! k78, part Q2: what stays where tables of code objects grow; _law_step_told -/
set_option maxHeartbeats 4000000
namespace SO
open PySem PySem.Spec PyProof.Rows L2 LamX XF

/-- without tables -/
def strip (K : Hp) : Hp := fun a => match K a with
  | some (.tbl _) => none
  | x => x
theorem strip_of {K : Hp} {a : Addr} {o : HO} (h : K a = some o) (n : ∀ ps, o ≠ .tbl ps) : strip K a = some o := by
  unfold strip
  rw [h]
  cases o with
  | tbl ps => exact absurd rfl (n ps)
  | _ => rfl
theorem strip_inv {K : Hp} {a : Addr} {o : HO} (h : strip K a = some o) : K a = some o ∧ ∀ ps, o ≠ .tbl ps := by
  unfold strip at h
  cases e : K a with
  | none => rw [e] at h; cases h
  | some u =>
    rw [e] at h
    cases u with
    | tbl ps => cases h
    | _ => cases h; exact ⟨rfl, fun ps z => nomatch z⟩
mutual
theorem Rp.strip {C : Addr} {H : Hp} : ∀ {d : D} {v : V}, Rp C H d v → Rp C (SO.strip H) d v
  | .non, _, h => h
  | .bl _, _, h => h
  | .int _, _, h => h
  | .str _, _, h => h
  | .lst ds, v, ⟨a, vs, e, h1, h2⟩ => ⟨a, vs, e, strip_of h1 (fun _ z => nomatch z), RpL.strip h2⟩
  | .tup ds, v, ⟨a, vs, e, h1, h2⟩ => ⟨a, vs, e, strip_of h1 (fun _ z => nomatch z), RpL.strip h2⟩
  | .ord cs, v, ⟨a, dx, l, e, h1, h2⟩ => ⟨a, dx, l, e, strip_of h1 (fun _ z => nomatch z), strip_of h2 (fun _ z => nomatch z)⟩
  | .emp, v, ⟨a, e, h⟩ => ⟨a, e, strip_of h (fun _ z => nomatch z)⟩
theorem RpL.strip {C : Addr} {H : Hp} : ∀ {ds : List D} {vs : List V}, RpL C H ds vs → RpL C (SO.strip H) ds vs
  | [], _, h => h
  | d :: ds, vs, ⟨v, r, e, h1, h2⟩ => ⟨v, r, e, Rp.strip h1, RpL.strip h2⟩
end
/-- the box alone -/
def Ob (b : Addr) : Hp := fun a => if a = b then some (.lst []) else none
theorem Ob.has (b : Addr) : Ob b b = some (.lst []) := if_pos rfl
theorem Ob.dom {b : Addr} {H : Hp} {n : Nat} (x : Bx H b n) : Dom (Ob b) H := fun a o h => by
  unfold Ob at h
  by_cases e : a = b
  · rw [e]; exact x.has
  · rw [if_neg e] at h; cases h
/-- all but the box b and the tables stay -/
def SameT (b : Addr) (H H' : Hp) : Prop := ∀ a o, a ≠ b → H a = some o → (∀ ps, o ≠ .tbl ps) → H' a = some o
theorem SameT.refl (b : Addr) (H : Hp) : SameT b H H := fun _ _ _ h _ => h
theorem SameT.trans {b : Addr} {A B E : Hp} (x : SameT b A B) (y : SameT b B E) : SameT b A E := fun a o n h t => y a o n (x a o n h t) t
theorem SameT.ofB {b : Addr} {A B : Hp} (x : SameB b A B) : SameT b A B := fun a o n h _ => x a o n h
theorem SameT.ofN {b : Addr} {A B : Hp} (x : ExtN A B) : SameT b A B := fun a o _ h t => x a o h t
theorem SameT.same {b : Addr} {A B : Hp} (x : Same A B) : SameT b A B := fun a o _ h _ => x a o h
theorem Bx.extN {H H' : Hp} {b : Addr} {n : Nat} (x : Bx H b n) (e : ExtN H H') : Bx H' b n := let ⟨p, s, k, h1, r⟩ := x; ⟨p, s, k, e _ _ h1 (fun _ z => nomatch z), r⟩
/-- tables stay where only the box is written -/
theorem Tabs.sameB {T : List (Addr × Str)} {H H' : Hp} {b : Addr} {n : Nat} (t : Tabs T H) (x : Bx H b n) (e : SameB b H H') : Tabs T H' := fun q hq => by
  obtain ⟨m, s, k, hb, _⟩ := x
  obtain ⟨ps, h1, h2, h3⟩ := t q hq
  have n1 : q.1 ≠ b := fun z => by rw [z, hb] at h1; cases h1
  refine ⟨ps, e _ _ n1 h1, h2, fun pos cv hc => ?_⟩
  obtain ⟨c, e1, e2⟩ := h3 pos cv hc
  have nc : c ≠ b := fun z => by
    rw [z, hb] at e2
    have e3 := Option.some.inj e2
    unfold CodeO at e3
    cases e3
  exact ⟨c, e1, e _ _ nc e2⟩
section
variable {C b : Addr} {H H1 H2 : Hp} {d : D} {ds : List D} {v : V} {vs : List V}
theorem Nw.sameT {o : HO} (hb : H b = some o) (e : SameT b H1 H2) (x : Nw C H H1 d v) : Nw C H H2 d v := by
  obtain ⟨K, s, n, r⟩ := x
  refine ⟨strip K, fun a u h => ?_, fun a u h => n a u (strip_inv h).1, r.strip⟩
  obtain ⟨h1, h2⟩ := strip_inv h
  exact e a u (fun z => by have := n a u h1; rw [z, hb] at this; cases this) (s a u h1) h2
theorem NwL.sameT {o : HO} (hb : H b = some o) (e : SameT b H1 H2) (x : NwL C H H1 ds vs) : NwL C H H2 ds vs := by
  obtain ⟨K, s, n, r⟩ := x
  refine ⟨strip K, fun a u h => ?_, fun a u h => n a u (strip_inv h).1, r.strip⟩
  obtain ⟨h1, h2⟩ := strip_inv h
  exact e a u (fun z => by have := n a u h1; rw [z, hb] at this; cases this) (s a u h1) h2
end
abbrev sTold : Stmt := topS 46
theorem scTold : FnScope ["_law_text"] ["_law_text"] (defScope sTold) := ⟨rfl, rfl, rfl, by decide +kernel, rfl, by decide +kernel, by decide +kernel⟩
/-- what is told of a line -/
def toldD (x : Str) : D := match pStep x with
  | some st => .lst [.str "told", stD st]
  | none => .lst [.str "text", .str x]
def spTold (C : Addr) (T : List (Addr × Str)) : Sp := fun vs H Q _ => ∃ x : Str, vs = [.str x] ∧ PyData.strOk x = true ∧ x.length ≤ 100000 ∧ Tabs T H ∧
  ∀ o H1 H', ExtN H H1 → Same H1 H' → Tabs T H' → Nw C H1 H' (toldD x) (.ref o) → Q (.ref o) H'
end SO
end
section
/-! k78, part Q3: _law_step_told -/
set_option maxHeartbeats 4000000
namespace SO
open PySem PySem.Spec PyProof.Rows L2 LamX XF

section
variable {P : Program} {w : World} {K : PySem.W.Frag} {mg : Str → Option Value} {base : Heap} {C CT CI CS : Addr}
/-- a new list [word, value] -/
theorem told_new {H1 H' : Hp} {word : Str} {d : D} {v : V} {o : Addr} (x : Nw C H1 H' d v) (e : Same H1 H') (ho : H' o = none) : Same H1 (upd H' o (.lst [.str word, v])) ∧ Nw C H1 (upd H' o (.lst [.str word, v])) (.lst [.str word, d]) (.ref o) := by
  have e2 : Same H' (upd H' o (.lst [.str word, v])) := Same.upd' (Same.refl H') ho
  refine ⟨e.trans e2, NwL.lst (vs := [.str word, v]) ?_ upd_same ((Dom.same e).free ho)⟩
  exact NwL.app (Nw.one (Nw.flat (d := .str word) rfl)) (Nw.one (x.same e2))
theorem ok_told {f c P0 : Addr} {fd : FuncData} {T : List (Addr × Str)} (F : FunL K "_law_step_told" sTold f fd c) (G : CKt K mg) (CC : CatC K mg CT CI CS) (TB : TabB base mg c P0) (hm : (P0, ("_law_step_told.<locals>.<lambda>" : Str)) ∈ T) (hu : ∀ p ∈ T, p.1 = P0 → p.2 = "_law_step_told.<locals>.<lambda>")
    (FP : Fx P w K mg base (Out Z1 P w) 6 "parse_step" ["text"] (spParseStep C CT)) : FnOk P w K mg base C8.CX0 9 f fd ["_law_text"] (spTold C T) := by
  refine F.ok scTold (fun vs H Q E h => ?_) (fun A outer s H vs Q E hr h => ?_)
  · obtain ⟨x, rfl, _⟩ := h
    rfl
  · obtain ⟨x, rfl, hso, hz, ht, q⟩ := h
    refine ⟨_, pss_one (ps_ret (pe_caught (T := T) (k := 6) (t := fun E => tCallS (spParseStep C CT) (fun _ => E) (tCons (tVar 0) tNil)) G CC TB rfl hm hu hr (lamS_by (sc := defScope sTold) (by decide +kernel)) (by rfl) (fun _ _ _ _ _ => by rfl)
      (fun A outer s H E f c' hr2 => xcall FP hr2 (fun σ => passLam Z1.ok σ) (pa_cons (pv 0) pa_nil)))), ?_⟩
    refine ⟨ht, fun H1 eN t1 => ?_⟩
    refine ⟨_, rfl, _, .str x, rfl, rfl, hz, fun st hst o H' e hn => ⟨by show 2 ≤ sizeLine; have := sizeLine_eq; omega, fun o2 ho2 => ?_⟩, fun hst dd H' hdd e hd => .inl ⟨rfl, dd, _, rfl, hd, fun o2 ho2 => ?_⟩⟩
    · obtain ⟨s2, n2⟩ := told_new (word := "told") hn e ho2
      refine q o2 H1 _ eN s2 (t1.ext s2) ?_
      unfold toldD
      rw [show pStep x = some st from hst]
      exact n2
    · obtain ⟨s2, n2⟩ := told_new (C := C) (word := "text") (Nw.flat (d := .str x) (v := .str x) rfl) e ho2
      refine q o2 H1 _ eN s2 (t1.ext s2) ?_
      unfold toldD
      rw [show pStep x = none from hst]
      exact n2
end
end SO
end
section
/-! repr of trees with own instances: the trees, the loop of a list by an invariant -/
set_option maxHeartbeats 4000000
namespace SO
open PySem PySem.Spec PyProof.Rows L2

/-! ### one tree a value -/
mutual
theorem Rp.uniq {C : Addr} {H : Hp} : ∀ {d e : D} {v : V}, Rp C H d v → Rp C H e v → d = e
  | .non, e, v, h, k => by
    obtain rfl : v = .non := h
    cases e with
    | non => rfl
    | bl c => cases (show V.non = _ from k)
    | int c => cases (show V.non = _ from k)
    | str c => cases (show V.non = _ from k)
    | lst es => obtain ⟨a, vs, z, _⟩ := k; cases z
    | tup es => obtain ⟨a, vs, z, _⟩ := k; cases z
    | ord cs => obtain ⟨a, dx, l, z, _⟩ := k; cases z
    | emp => obtain ⟨a, z, _⟩ := k; cases z
  | .bl b, e, v, h, k => by
    obtain rfl : v = .bl b := h
    cases e with
    | non => cases (show V.bl b = _ from k)
    | bl c => cases (show V.bl b = _ from k); rfl
    | int c => cases (show V.bl b = _ from k)
    | str c => cases (show V.bl b = _ from k)
    | lst es => obtain ⟨a, vs, z, _⟩ := k; cases z
    | tup es => obtain ⟨a, vs, z, _⟩ := k; cases z
    | ord cs => obtain ⟨a, dx, l, z, _⟩ := k; cases z
    | emp => obtain ⟨a, z, _⟩ := k; cases z
  | .int b, e, v, h, k => by
    obtain rfl : v = .int b := h
    cases e with
    | non => cases (show V.int b = _ from k)
    | bl c => cases (show V.int b = _ from k)
    | int c => cases (show V.int b = _ from k); rfl
    | str c => cases (show V.int b = _ from k)
    | lst es => obtain ⟨a, vs, z, _⟩ := k; cases z
    | tup es => obtain ⟨a, vs, z, _⟩ := k; cases z
    | ord cs => obtain ⟨a, dx, l, z, _⟩ := k; cases z
    | emp => obtain ⟨a, z, _⟩ := k; cases z
  | .str b, e, v, h, k => by
    obtain rfl : v = .str b := h
    cases e with
    | non => cases (show V.str b = _ from k)
    | bl c => cases (show V.str b = _ from k)
    | int c => cases (show V.str b = _ from k)
    | str c => cases (show V.str b = _ from k); rfl
    | lst es => obtain ⟨a, vs, z, _⟩ := k; cases z
    | tup es => obtain ⟨a, vs, z, _⟩ := k; cases z
    | ord cs => obtain ⟨a, dx, l, z, _⟩ := k; cases z
    | emp => obtain ⟨a, z, _⟩ := k; cases z
  | .lst ds, e, v, ⟨a, vs, z, h1, h2⟩, k => by
    subst z
    cases e with
    | lst es =>
      obtain ⟨b, us, z, k1, k2⟩ := k
      cases z
      rw [h1] at k1
      cases k1
      rw [RpL.uniq h2 k2]
    | tup es => obtain ⟨b, us, z, k1, _⟩ := k; cases z; rw [h1] at k1; cases k1
    | ord cs => obtain ⟨b, dx, l, z, k1, _⟩ := k; cases z; rw [h1] at k1; cases k1
    | emp => obtain ⟨b, z, k1⟩ := k; cases z; rw [h1] at k1; cases k1
    | non => cases (show V.ref a = _ from k)
    | bl b => cases (show V.ref a = _ from k)
    | int b => cases (show V.ref a = _ from k)
    | str b => cases (show V.ref a = _ from k)
  | .tup ds, e, v, ⟨a, vs, z, h1, h2⟩, k => by
    subst z
    cases e with
    | tup es =>
      obtain ⟨b, us, z, k1, k2⟩ := k
      cases z
      rw [h1] at k1
      cases k1
      rw [RpL.uniq h2 k2]
    | lst es => obtain ⟨b, us, z, k1, _⟩ := k; cases z; rw [h1] at k1; cases k1
    | ord cs => obtain ⟨b, dx, l, z, k1, _⟩ := k; cases z; rw [h1] at k1; cases k1
    | emp => obtain ⟨b, z, k1⟩ := k; cases z; rw [h1] at k1; cases k1
    | non => cases (show V.ref a = _ from k)
    | bl b => cases (show V.ref a = _ from k)
    | int b => cases (show V.ref a = _ from k)
    | str b => cases (show V.ref a = _ from k)
  | .ord cs, e, v, ⟨a, dx, l, z, h1, h2⟩, k => by
    subst z
    cases e with
    | ord es =>
      obtain ⟨b, dx', l', z, k1, k2⟩ := k
      cases z
      rw [h1] at k1
      have z := Option.some.inj k1
      injection z with z1 z2 z3
      have el : l = l' := by simpa [ordF] using z3
      subst el
      rw [h2] at k2
      have z := Option.some.inj k2
      injection z with z
      have : cs = es := List.map_inj_right (fun a b q => V.str.inj q) |>.mp z
      rw [this]
    | lst es => obtain ⟨b, us, z, k1, _⟩ := k; cases z; rw [h1] at k1; cases k1
    | tup es => obtain ⟨b, us, z, k1, _⟩ := k; cases z; rw [h1] at k1; cases k1
    | emp => obtain ⟨b, z, k1⟩ := k; cases z; rw [h1] at k1; cases k1
    | non => cases (show V.ref a = _ from k)
    | bl b => cases (show V.ref a = _ from k)
    | int b => cases (show V.ref a = _ from k)
    | str b => cases (show V.ref a = _ from k)
  | .emp, e, v, ⟨a, z, h1⟩, k => by
    subst z
    cases e with
    | emp => rfl
    | lst es => obtain ⟨b, us, z, k1, _⟩ := k; cases z; rw [h1] at k1; cases k1
    | tup es => obtain ⟨b, us, z, k1, _⟩ := k; cases z; rw [h1] at k1; cases k1
    | ord cs => obtain ⟨b, dx, l, z, k1, _⟩ := k; cases z; rw [h1] at k1; cases k1
    | non => cases (show V.ref a = _ from k)
    | bl b => cases (show V.ref a = _ from k)
    | int b => cases (show V.ref a = _ from k)
    | str b => cases (show V.ref a = _ from k)
theorem RpL.uniq {C : Addr} {H : Hp} : ∀ {ds es : List D} {vs : List V}, RpL C H ds vs → RpL C H es vs → ds = es
  | [], [], _, _, _ => rfl
  | [], e :: es, vs, h, k => by
    obtain rfl : vs = [] := h
    obtain ⟨v, r, z, _⟩ := k
    cases z
  | d :: ds, [], vs, h, k => by
    obtain rfl : vs = [] := k
    obtain ⟨v, r, z, _⟩ := h
    cases z
  | d :: ds, e :: es, vs, ⟨v, r, z, h1, h2⟩, k => by
    subst z
    obtain ⟨v', r', z, k1, k2⟩ := k
    cases z
    rw [Rp.uniq h1 k1, RpL.uniq h2 k2]
end
mutual
def sz : D → Nat
  | .lst ds => 2 + szL ds
  | .tup ds => 2 + szL ds
  | .ord cs => 3 + cs.length
  | _ => 1
def szL : List D → Nat
  | [] => 0
  | d :: ds => sz d + szL ds
end
theorem szL_mem : ∀ {ds : List D} {d : D}, d ∈ ds → sz d ≤ szL ds
  | e :: ds, d, h => by
    show sz d ≤ sz e + szL ds
    rcases List.mem_cons.mp h with q | q
    · rw [q]; omega
    · have := szL_mem q
      omega
theorem szL_strs : ∀ (cs : List Str), szL (cs.map D.str) = cs.length
  | [] => rfl
  | c :: cs => by
    show 1 + szL (cs.map D.str) = cs.length + 1
    rw [szL_strs cs]; omega
/-- what is under repr further out: greater trees -/
def GOk (C : Addr) (H : Hp) (g : List Code) (k : Nat) : Prop := ∀ id v rest kw, Code.builtin id ⟨v :: rest, kw⟩ ∈ g → ∃ b d, v = .ref b ∧ Rp C H d (.ref b) ∧ k < sz d
section
variable {C : Addr} {H H' : Hp} {g : List Code} {k k' : Nat} {d : D} {a : Addr}
theorem GOk.nil : GOk C H [] k := fun _ _ _ _ h => nomatch h
theorem GOk.mono (x : GOk C H g k) (e : Ext H H') (h : k' ≤ k) : GOk C H' g k' := fun id v rest kw hm =>
  let ⟨b, d, h1, h2, h3⟩ := x id v rest kw hm; ⟨b, d, h1, h2.mono e, by omega⟩
theorem GOk.clear (x : GOk C H g k) (r : Rp C H d (.ref a)) (h : sz d ≤ k) : Clear g a := fun id v rest kw hm => by
  obtain ⟨b, d', h1, h2, h3⟩ := x id v rest kw hm
  rw [h1]
  intro z
  cases z
  rw [Rp.uniq h2 r] at h3
  omega
theorem GOk.cons {id : String} {rest : List Value} {kw : List (Str × Value)} (x : GOk C H g k) (r : Rp C H d (.ref a)) (h : k < sz d) : GOk C H (.builtin id ⟨.ref a :: rest, kw⟩ :: g) k := fun id' v rest' kw' hm => by
  rcases List.mem_cons.mp hm with q | q
  · cases q
    exact ⟨a, d, rfl, r, h⟩
  · exact x id' v rest' kw' q
end
/-! ### their texts -/
mutual
def shown : D → Str
  | .non => "None"
  | .bl b => if b then "True" else "False"
  | .int i => toString i
  | .str x => reprText x
  | .lst ds => listText (shownL ds)
  | .tup ds => tupleText (shownL ds)
  | .ord cs => ((Str.empty ++ ("Order(" : Str)) ++ listText (cs.map reprText)) ++ (")" : Str)
  | .emp => "{}"
def shownL : List D → List Str
  | [] => []
  | d :: ds => shown d :: shownL ds
end
theorem shownL_map : ∀ ds : List D, shownL ds = ds.map shown
  | [] => rfl
  | d :: ds => by rw [shownL, shownL_map ds]; rfl
/-- what is shown here: no truth, not too deep -/
def shw : Nat → D → Prop
  | _, .non => True
  | _, .bl _ => False
  | _, .int i => i.natAbs.log2 < 1920
  | _, .str _ => True
  | 0, .lst _ => False
  | 0, .tup _ => False
  | n + 1, .lst ds => ∀ d ∈ ds, shw n d
  | n + 1, .tup ds => ∀ d ∈ ds, shw n d
  | _, .ord _ => True
  | _, .emp => True
/-- the repr of the tree d, within other reprs, below the body X -/
def RepT (X : Cx) (C : Addr) (n : Nat) (d : D) : Prop :=
  ∀ (base : Nat) (A : Around) (g : List Code) (pins : List (Addr × Obj)) (s : Shared) (σ : L2.St) (H : Hp) (v : V) (u : Value), L2.Sub X n A → A.guards = some g → GOk C H g (sz d) → Inv X pins σ H s → Rp C H d v → RelV v u → base + (shown d).length ≤ sizeLine →
    wpAny (model X.prog X.w) A (pyReprUnder base u) (fun r s' => r = shown d ∧ ∃ H', Inv X pins σ H' s' ∧ Ext H H') X.xe s
/-- a text comes, and only things are made -/
def EndT (X : Cx) (pins : List (Addr × Obj)) (σ : L2.St) (H : Hp) (t : Str) : Value → Shared → Prop := fun r s' => (∃ x u, r = .str x u) ∧ (∃ u, r = .str t u) ∧ ∃ H', Inv X pins σ H' s' ∧ Ext H H'
section
variable {X : Cx} {C : Addr} {n m : Nat} {d : D} {ds : List D}
theorem RepT.mono (h : RepT X C n d) (hn : n ≤ m) : RepT X C m d := fun base A g pins s σ H v u sb => h base A g pins s σ H v u (sb.mono hn)
theorem sub_guard {A : Around} {c : Code} (sb : L2.Sub X (n + 1) A) (hf : (A.under c).frames = A.frames) (hd : (A.under c).depth = A.depth + 1) (hu : (A.under c).units = A.units + 1) : L2.Sub X n (A.under c) :=
  ⟨⟨sb.room.hd, by have := sb.room.dp; rw [hd]; omega, by have := sb.room.un; rw [hu]; omega⟩, hf.trans sb.fr⟩
theorem loop_frames {A : Around} {args : Args} : (A.under (.builtin "list.__repr__.loop" args)).frames = A.frames := by
  simp [Around.under, Code.envs, Code.isFrame, pushEnvs]
theorem loop_depth {A : Around} {args : Args} : (A.under (.builtin "list.__repr__.loop" args)).depth = A.depth + 1 := by
  simp [Around.under, Code.weight, Code.frames, Code.isFrame, Code.isCreation, Code.isCaller, isGuard_list_loop]
theorem strVals : ∀ {ts : List Str} {its : List Value}, Vals (ts.map V.str) its → ∃ dn : List (Str × Tok), its = strValues dn ∧ dn.map (·.1) = ts
  | [], its, h => by cases h; exact ⟨[], rfl, rfl⟩
  | t :: ts, its, h => by
    cases h with
    | cons r r2 =>
      obtain ⟨tk, rfl⟩ := r
      obtain ⟨dn, h1, h2⟩ := strVals r2
      exact ⟨(t, tk) :: dn, by rw [h1]; rfl, by rw [List.map_cons, h2]⟩
/-- the loop over a list's items -/
theorem repr_loopI {A : Around} {g : List Code} {pins : List (Addr × Obj)} {σ : L2.St} {H : Hp} {a Pt : Addr} {vs : List V} {base : Nat} (hT : ∀ d ∈ ds, RepT X C n d) (sb : L2.Sub X (n + 1) A) (hg : A.guards = some g) (ha : H a = some (.lst vs)) (rp : RpL C H ds vs) (go : GOk C H g (sz (.lst ds)))
    (hP : H Pt = none) (hz : base + (listText (ds.map shown)).length ≤ sizeLine) (k : Nat) :
    ∀ (i : Nat) (s : Shared) (H1 : Hp), ds.length - i = k → i ≤ ds.length → Inv X pins σ H1 s → Ext H H1 → H1 Pt = some (.lst (((ds.take i).map shown).map V.str)) →
      codeAny (model X.prog X.w) A (.builtin "list.__repr__.loop" ⟨[.ref a, rawInt i, .ref Pt, rawInt ((base + piled ((ds.take i).map shown) : Nat) : Int)], []⟩) (callEnd (EndT X pins σ H (shown (.lst ds))) X.xe) s := by
  have fits : ∀ t ∈ ds.map shown, t.length ≤ sizeLine := fun t ht => by have := listText_mem_le ht; omega
  have pl := piled_le_listText (ds.map shown)
  have two : 2 * ds.length ≤ (listText (ds.map shown)).length := by
    have : ∀ l : List Str, 2 * l.length ≤ piled l := fun l => by
      induction l with
      | nil => exact Nat.zero_le _
      | cons t r ih => rw [piled_cons, List.length_cons]; omega
    have q := this (ds.map shown)
    rw [List.length_map] at q
    omega
  induction k with
  | zero =>
    intro i s H1 hk hi I e hp
    have hin : i = ds.length := by omega
    obtain ⟨z, its, c, r, hl⟩ := I.hok a _ (e _ _ ha)
    obtain ⟨z2, its2, c2, r2, hl2⟩ := I.hok Pt _ hp
    have ln : its.length = ds.length := by rw [← r.length]; exact rp.len
    refine codeAny_builtin F.entry_list_repr_loop ?_
    show wpAny _ _ (Builtin.«list.__repr__.loop» ⟨[.ref a, .int i 0, .ref Pt, .int ((base + piled ((ds.take i).map shown) : Nat) : Int) 0], []⟩) _ _ s
    rw [repr_loop_tree]
    refine wpAny_bind (wpAny_listItems hl rfl ?_)
    have hno : its.toArray[(i : Int).toNat]? = none := by simp [hin, ln]
    simp only [hno]
    unfold reprEnd
    refine wpAny_bind (wpAny_listItems hl2 rfl ?_)
    obtain ⟨dn, e1, e2⟩ := strVals r2
    show wpAny _ _ (do let text ← forIn (its2.toArray.toList.zipIdx) ("[" : Str) reprBody; retStr (text ++ "]")) _ _ s
    rw [show its2.toArray.toList = strValues dn from e1, repr_fold]
    refine wpAny_bind (wpAny_pure ?_)
    rw [e2, hin, List.take_length]
    refine wpAny_bind (wpAny_mkStr (wpAny_pure ?_) (by show (listText (ds.map shown)).length ≤ sizeLine; omega))
    refine ⟨⟨_, _, rfl⟩, ⟨_, by rw [shown, shownL_map]; rfl⟩, H1, I.tok _, e⟩
  | succ k ih =>
    intro i s H1 hk hi I e hp
    have hlt : i < ds.length := by omega
    obtain ⟨z, its, c, r, hl⟩ := I.hok a _ (e _ _ ha)
    obtain ⟨z2, its2, c2, r2, hl2⟩ := I.hok Pt _ hp
    have ln : its.length = ds.length := by rw [← r.length]; exact rp.len
    have ed : ds[i]? = some ds[i] := List.getElem?_eq_getElem hlt
    obtain ⟨x, hx, rx⟩ := (rp.mono e).get ed
    obtain ⟨u, hu, ru⟩ := r.get hx
    have est : (ds.map shown)[i]? = some (shown ds[i]) := by rw [List.getElem?_map, ed]; rfl
    have tk1 : (ds.map shown).take i = (ds.take i).map shown := by rw [List.map_take]
    have tk2 : (ds.map shown).take (i + 1) = (ds.take (i + 1)).map shown := by rw [List.map_take]
    have hp1 := piled_take_succ est
    have hp2 := piled_take_le (ds.map shown) (i + 1)
    rw [tk1, tk2] at hp1
    rw [tk2] at hp2
    have mem : ds[i] ∈ ds := List.getElem_mem hlt
    have ra : Rp C H1 (.lst ds) (.ref a) := ⟨a, vs, rfl, e _ _ ha, rp.mono e⟩
    have small : sz ds[i] < sz (.lst ds) := by
      show sz ds[i] < 2 + szL ds
      have := szL_mem mem
      omega
    refine codeAny_builtin F.entry_list_repr_loop ?_
    show wpAny _ _ (Builtin.«list.__repr__.loop» ⟨[.ref a, .int i 0, .ref Pt, .int ((base + piled ((ds.take i).map shown) : Nat) : Int) 0], []⟩) _ _ s
    rw [repr_loop_tree]
    refine wpAny_bind (wpAny_listItems hl rfl ?_)
    have hso : its.toArray[(i : Int).toNat]? = some u := by simpa using hu
    simp only [hso]
    rw [Int.toNat_natCast]
    refine wpAny_bind (wpAny_holding (wpAny_mono (hT _ mem (base + piled ((ds.take i).map shown) + 1) _ _ pins s σ H1 x u (sub_guard sb loop_frames loop_depth (units_under_list_loop _ _)) (guards_under_guard (isGuard_list_loop _) hg) (((go.mono e (Nat.le_of_lt small)).cons ra small)) I rx ru (by omega)) (fun t s2 q => ?_) fun _ _ x => x))
    obtain ⟨rfl, H2, I2, e2⟩ := q
    refine wpAny_bind (wpAny_mkStr ?_ (fits _ (List.mem_of_getElem? est)))
    refine wpAny_bind ?_
    show wpAny _ _ (updateSeq Pt _) _ _ _
    obtain ⟨z3, its3, c3, r3, hl3⟩ := I2.hok Pt _ (e2 _ _ hp)
    have l3 : its3.length = i := by
      have := r3.length
      rw [List.length_map, List.length_map, List.length_take] at this
      omega
    refine wpAny_updateSeq hl3 rfl (wpAny_pure ⟨F.quiet_list_repr_loop _, ?_⟩) (by rw [List.size_toArray, l3]; omega)
    have c1 : ((i : Int) + 1) = ((i + 1 : Nat) : Int) := by omega
    have c4 : base + piled ((ds.take i).map shown) + ((shown ds[i]).length + 2) = base + piled ((ds.take (i + 1)).map shown) := by omega
    rw [c1, c4]
    have es : ((ds.take (i + 1)).map shown).map V.str = (((ds.take i).map shown).map V.str) ++ [V.str (shown ds[i])] := by
      rw [List.take_add_one, ed, List.map_append, List.map_append]; rfl
    have hz4 : (((ds.take (i + 1)).map shown).map V.str).length ≤ sizeLine := by
      rw [List.length_map, List.length_map, List.length_take]
      omega
    refine ih (i + 1) _ (upd H2 Pt (.lst (((ds.take (i + 1)).map shown).map V.str))) (by omega) hlt (I2.lset (its' := its3 ++ [.str (shown ds[i]) s2.toks]) (t' := s2.toks + 1) (e2 _ _ hp) hl3 (by simp) ?_ hz4) ?_ upd_same
    · rw [es]
      exact r3.append (.cons ⟨_, rfl⟩ .nil)
    · intro b o hb
      have nb : b ≠ Pt := fun z => by rw [z, hP] at hb; cases hb
      rw [upd_ne nb]
      exact e2 _ _ (e _ _ hb)
end
end SO
end
section
/-! repr of trees with own instances: lists, tuples, dicts, orders -/
set_option maxHeartbeats 4000000
namespace SO
open PySem PySem.Spec PyProof.Rows L2

section
variable {X : Cx} {C : Addr} {n m : Nat} {d : D} {ds : List D}
theorem EndT.str {pins : List (Addr × Obj)} {σ : L2.St} {H : Hp} {t : Str} {r : Value} {s' : Shared} (h : EndT X pins σ H t r s') : ∃ x u, r = .str x u ∧ (x = t ∧ ∃ H', Inv X pins σ H' s' ∧ Ext H H') := by
  obtain ⟨_, ⟨u, rfl⟩, q⟩ := h
  exact ⟨t, u, rfl, rfl, q⟩
/-- a list's text, by the head of its repr -/
theorem list_headI {A : Around} {g : List Code} {pins : List (Addr × Obj)} {s : Shared} {σ : L2.St} {H : Hp} {a : Addr} {base : Nat} (hT : ∀ d ∈ ds, RepT X C n d) (sb : L2.Sub X (n + 1) A) (hg : A.guards = some g) (I : Inv X pins σ H s) (ra : Rp C H (.lst ds) (.ref a)) (go : GOk C H g (sz (.lst ds)))
    (hz : base + (shown (.lst ds)).length ≤ sizeLine) :
    wpAny (model X.prog X.w) A.in1 (Builtin.listReprAt base ⟨[.ref a], []⟩)
      (fun fin s' => match fin with | .done f => callEnd (EndT X pins σ H (shown (.lst ds))) X.xe (.ok f) s' | .again c' => c'.quiet = true ∧ codeAny (model X.prog X.w) A c' (callEnd (EndT X pins σ H (shown (.lst ds))) X.xe) s')
      (fun e s' => callEnd (EndT X pins σ H (shown (.lst ds))) X.xe (.error e) s') s := by
  obtain ⟨a', vs, z, ha, rp⟩ := id ra
  cases z
  obtain ⟨z, its, c, r, hl⟩ := I.hok a _ ha
  have ln : its.length = ds.length := by rw [← r.length]; exact rp.len
  have cl : Clear g a := go.clear ra (Nat.le_refl _)
  have es : shown (.lst ds) = listText (ds.map shown) := by rw [shown, shownL_map]
  cases its with
  | nil =>
    have d0 : ds = [] := List.length_eq_zero_iff.mp (by rw [← ln]; rfl)
    subst d0
    refine wpAny_list_repr_empty hl rfl ?_
    exact ⟨⟨_, _, rfl⟩, ⟨_, by rw [es, List.map_nil, listText_nil]⟩, H, I.tok _, Ext.rfl'⟩
  | cons x l =>
    refine wpAny_list_repr_head (A := A.in1) hg (fun v rest kw hm => listSameRef_of_ne (cl _ _ _ _ hm)) hl rfl ?_
    refine wpAny_bind (m := newList []) (wpAny_newObj_type ?_)
    refine wpAny_pure ⟨F.quiet_list_repr_loop _, ?_⟩
    have hf : H s.heap.objs.size = none := I.hok.fresh (Nat.le_refl _)
    have h0 := repr_loopI (pins := pins) (σ := σ) (base := base) hT sb hg ha rp go hf (by rw [← es]; exact hz) ds.length 0
    exact h0 _ (upd H s.heap.objs.size (.lst [])) (by omega) (Nat.zero_le _) (I.lnew (its := []) (t' := s.toks) .nil (Nat.zero_le _)) (Ext.upd hf) upd_same
theorem list_typeI {pins : List (Addr × Obj)} {s : Shared} {σ : L2.St} {H : Hp} {a : Addr} (I : Inv X pins σ H s) (ra : Rp C H (.lst ds) (.ref a)) : s.TypeIs (.ref a) "list" := by
  obtain ⟨a', vs, z, ha, rp⟩ := ra
  cases z
  obtain ⟨z, its, c, r, hl⟩ := I.hok a _ ha
  exact ⟨_, hl, rfl⟩
theorem callI_list {A : Around} {g : List Code} {pins : List (Addr × Obj)} {s : Shared} {σ : L2.St} {H : Hp} {a : Addr} (hT : ∀ d ∈ ds, RepT X C n d) (sb : L2.Sub X (n + 1) A) (hg : A.guards = some g) (I : Inv X pins σ H s) (ra : Rp C H (.lst ds) (.ref a)) (go : GOk C H g (sz (.lst ds)))
    (hz : (shown (.lst ds)).length ≤ sizeLine) : wpAny (model X.prog X.w) A (call (.builtin "list.__repr__") [.ref a]) (EndT X pins σ H (shown (.lst ds))) X.xe s :=
  wpAny_call (codeAny_call_builtin F.slot_list_repr.plain F.entry_list_repr (F.slot_list_repr.check _ _ _ _ _ _ _ _ (list_typeI I ra) (F.args_list_repr_1 _) (list_headI (base := 0) hT sb hg I ra go (by omega))))
theorem repT_lst (hT : ∀ d ∈ ds, RepT X C n d) : RepT X C (n + 1) (.lst ds) := by
  intro base A g pins s σ H v u sb hg go I rv ru hz
  obtain ⟨a, vs, rfl, ha, rp⟩ := id rv
  cases ru
  refine wpAny_pyReprUnder_ref (by omega) (wpAny_pyReprObjUnder_twin (twin := "list.__repr__.under") (list_typeI I rv) F.slot_list_repr.toG rfl (by have := sb.room.un; omega) ?_)
  refine wpAny_mono (call_twin_plain (Q := EndT X pins σ H (shown (.lst ds))) (E := X.xe) F.plain_list_repr_under F.entry_list_repr_under F.check_list_repr_under (list_typeI I rv) F.slot_list_repr.toG (F.args_list_repr_1 _) (list_headI hT sb hg I rv go hz)) (fun r s' h => ?_) fun _ _ h => h
  obtain ⟨x, w, e, q⟩ := h.str
  exact ⟨⟨x, w, e⟩, x, w, e, q⟩
/-! ### a tuple -/
theorem foldI {A : Around} {g : List Code} {pins : List (Addr × Obj)} {σ : L2.St} {H : Hp} (hg : A.guards = some g) (sb : L2.Sub X n A) : ∀ (es : List D) (us : List V) (l : List Value) (acc : Array Str) (k : Nat) (s : Shared) (H1 : Hp) (Q : (Array Str × Nat) → Shared → Prop),
    (∀ d ∈ es, RepT X C n d ∧ ∀ H', Ext H H' → GOk C H' g (sz d)) → Ext H H1 → Inv X pins σ H1 s → RpL C H1 es us → Vals us l → k + piled (es.map shown) ≤ sizeLine →
    (∀ s' H', Inv X pins σ H' s' → Ext H H' → Q ⟨acc ++ (es.map shown).toArray, k + piled (es.map shown)⟩ s') →
    wpAny (model X.prog X.w) A (forIn l (⟨acc, k⟩ : (Array Str × Nat)) tupBody) Q X.xe s
  | [], us, l, acc, k, s, H1, Q, hT, e, I, rp, r, hz, q => by
    obtain rfl : us = [] := rp
    cases r
    simp only [List.forIn_nil]
    exact wpAny_pure (by simpa [piled] using q s H1 I e)
  | d :: es, us, l, acc, k, s, H1, Q, hT, e, I, ⟨v, us', z, rv, rp⟩, r, hz, q => by
    subst z
    cases r with
    | @cons _ y _ ys r0 r1 =>
      rw [List.map_cons, piled_cons] at hz
      rw [List.forIn_cons]
      obtain ⟨h1, h2⟩ := hT d List.mem_cons_self
      refine wpAny_bind (wpAny_bind (wpAny_mono (h1 (k + 1) A g pins s σ H1 v y sb hg (h2 H1 e) I rv r0 (by omega)) (fun t s2 h => ?_) fun _ _ h => h))
      obtain ⟨rfl, H2, I2, e2⟩ := h
      refine wpAny_pure ?_
      refine foldI hg sb es us' ys (acc.push (shown d)) (k + ((shown d).length + 2)) s2 H2 Q (fun d hd => hT d (List.mem_cons_of_mem _ hd)) (e.trans e2) I2 (rp.mono e2) r1 (by omega) fun s' H' I' e' => ?_
      have q1 := q s' H' I' e'
      have en : k + piled ((d :: es).map shown) = k + ((shown d).length + 2) + piled (es.map shown) := by rw [List.map_cons, piled_cons]; omega
      rw [en] at q1
      simpa using q1
theorem tupg_frames {A : Around} {args : Args} : (A.under (.builtin "tuple.__repr__.under" args)).frames = A.frames := by
  simp [Around.under, Code.envs, Code.isFrame, pushEnvs]
theorem tupg_depth {A : Around} {args : Args} : (A.under (.builtin "tuple.__repr__.under" args)).depth = A.depth + 1 := by
  simp [Around.under, Code.weight, Code.frames, Code.isFrame, Code.isCreation, Code.isCaller, isGuard_tuple_repr_under]
theorem repT_tup (hT : ∀ d ∈ ds, RepT X C n d) : RepT X C (n + 1) (.tup ds) := by
  intro base A g pins s σ H v u sb hg go I rv ru hz
  obtain ⟨a, vs, rfl, ha, rp⟩ := id rv
  cases ru
  obtain ⟨its, r, ⟨oa, hl, hc, na, hd⟩, z⟩ := I.tuple (SqT.of ha)
  have ln : its.length = ds.length := by rw [← r.length]; exact rp.len
  have cl : Clear g a := go.clear rv (Nat.le_refl _)
  have es : shown (.tup ds) = tupleText (ds.map shown) := by rw [shown, shownL_map]
  have hz' : base + (tupleText (ds.map shown)).length ≤ sizeLine := by rw [← es]; exact hz
  have pl := piled_le_tupleText (ds.map shown)
  have ty : s.TypeIs (.ref a) "tuple" := ⟨oa, hl, hc⟩
  refine wpAny_pyReprUnder_ref (by omega) (wpAny_pyReprObjUnder_twin (twin := "tuple.__repr__.under") ty F.slot_tuple_repr rfl (by have := sb.room.un; omega) ?_)
  refine wpAny_mono (call_twin_own (Q := EndT X pins σ H (shown (.tup ds))) (E := X.xe) (F.quiet_tuple_repr_under _) F.entry_tuple_repr_under F.check_tuple_repr_under ty F.slot_tuple_repr (F.args_tuple_repr_1 _) ?_) (fun r s' h => ?_) fun _ _ h => h
  · rw [tuple_repr_tree, tupleReprUnderWay_eq]
    refine wpOwn_bind (wpOwn_stackTailAny hg (tupGuardF_off _) (tupGuardF_pos _) ?_)
    have hn : (g.any fun c => tupGuardF (.ref a) (c, default)) = false := by
      rw [List.any_eq_false]
      intro c hcm
      rw [tupGuardF_of_clear cl c hcm]
      exact Bool.false_ne_true
    rw [hn]
    refine wpOwn_of_wpAny ?_
    show wpAny _ _ (tupleReprRest base (.ref a)) _ _ s
    unfold tupleReprRest Builtin.Tuple.tupleItemsOf
    refine wpAny_bind (wpAny_bind (wpAny_seqItems hl hd (wpAny_pure ?_)))
    rw [← Array.forIn_toList]
    refine wpAny_bind (foldI (H := H) (g := .builtin "tuple.__repr__.under" ⟨[.ref a, rawInt base], []⟩ :: g) (guards_under_guard (isGuard_tuple_repr_under _) hg) (sub_guard sb tupg_frames tupg_depth (units_under_tuple_repr_under _ _)) ds vs its _ _ s H _ (fun d hd => ⟨hT d hd, fun H' e => ?_⟩) Ext.rfl' I rp r (by omega) fun s' H' I' e' => ?_)
    · have small : sz d < sz (.tup ds) := by
        show sz d < 2 + szL ds
        have := szL_mem hd
        omega
      exact (go.mono e (Nat.le_of_lt small)).cons (rv.mono e) small
    · refine wpAny_bind (wpAny_mkStr (wpAny_pure ?_) (by simpa [tupleText, ln] using (show (tupleText (ds.map shown)).length ≤ sizeLine by omega)))
      refine ⟨⟨_, _, rfl⟩, ⟨s'.toks, ?_⟩, H', I'.tok _, e'⟩
      rw [es]
      simp [tupleText, ln]
  · obtain ⟨x, w, e, q⟩ := h.str
    exact ⟨⟨x, w, e⟩, x, w, e, q⟩
/-! ### the leaves -/
theorem repT_leaf {t : Str} {hd : shown d = t} (h : ∀ (H : Hp) (pins : List (Addr × Obj)) (s : Shared) (σ : L2.St) (v : V) (u : Value), Inv X pins σ H s → Rp C H d v → RelV v u → t.length ≤ sizeLine → ∃ as, ReprK X.prog X.w as s.heap 0 u t ∧ (∀ b ∈ as, Rp C H d (.ref b))) : RepT X C n d := by
  intro base A g pins s σ H v u sb hg go I rv ru hz
  rw [hd] at hz ⊢
  obtain ⟨as, k, ha⟩ := h H pins s σ v u I rv ru (by omega)
  refine k base hz A g X.xe s _ hg (fun b hb => go.clear (ha b hb) (Nat.le_refl _)) (by have := sb.room.un; omega) (fun _ _ e => e) fun h' tk hk => ?_
  exact ⟨rfl, H, I.kept hk, Ext.rfl'⟩
theorem repT_non : RepT X C n .non := repT_leaf (hd := rfl) fun H pins s σ v u I rv ru hz => by
  obtain rfl : v = .non := rv
  obtain rfl : u = .none := ru
  exact ⟨[], .of_is ReprIs.none _ _ _, (fun _ h => nomatch h)⟩
theorem repT_int {i : Int} (hi : i.natAbs.log2 < 1920) : RepT X C n (.int i) := repT_leaf (hd := rfl) fun H pins s σ v u I rv ru hz => by
  obtain rfl : v = .int i := rv
  obtain ⟨t, rfl⟩ := ru
  exact ⟨[], .of_is (ReprIs.int t hi) _ _ _, (fun _ h => nomatch h)⟩
theorem repT_str {x : Str} : RepT X C n (.str x) := repT_leaf (hd := rfl) fun H pins s σ v u I rv ru hz => by
  obtain rfl : v = .str x := rv
  obtain ⟨t, rfl⟩ := ru
  exact ⟨[], .of_is (ReprIs.str x t hz) _ _ _, (fun _ h => nomatch h)⟩
theorem repT_emp : RepT X C (n + 1) .emp := by
  intro base A g pins s σ H v u sb hg go I rv ru hz
  obtain ⟨a, rfl, ha⟩ := id rv
  cases ru
  obtain ⟨z, y, vs, r, ob, es, ep, e, ex, hdt, _, hes, _⟩ := I.hok a _ ha
  cases r
  have es0 : es.toList = [] := by generalize es.toList = l at hes; cases hes; rfl
  have k : ReprK X.prog X.w [a] s.heap 1 (.ref a) (dictText []) := ReprK.dict (as := []) e ex.1 hdt y (by simp) (by rw [es0]; exact .nil)
  have et : shown .emp = dictText [] := by decide +kernel
  rw [et] at hz ⊢
  refine k base hz A g X.xe s _ hg (fun b hb => by rw [List.mem_singleton.mp hb]; exact go.clear rv (Nat.le_refl _)) (by have := sb.room.un; omega) (fun _ _ e => e) fun h' tk hk => ?_
  exact ⟨rfl, H, I.kept hk, Ext.rfl'⟩
end
end SO
end
section
/-! promises that see what is around (the guards of repr); the own __repr__; repr(tree) -/
set_option maxHeartbeats 4000000
namespace SO
open PySem PySem.Spec PyProof.Rows L2 LamX

/-- a promise that sees what is around the call -/
abbrev SpG := Around → Sp
structure FnG (P : Program) (w : World) (K : PySem.W.Frag) (mg : Str → Option Value) (base : Heap) (CX : CXT) (k : Nat) (f : Addr) (fd : FuncData) (ps : List Str) (sp : SpG) : Prop where
  len : ∀ A vs H Q E, sp A vs H Q E → vs.length = ps.length
  run : ∀ (A : Around) (outer : List Env) (s : Shared) (H : Hp) (args : Args) (us : List Value) (vs : List V) (Q : VK) (E : XK), Room k A → Env0 P w K mg base A outer s H →
    BindsTo s fd args (ps.zip us) → Vals vs us → sp A vs H Q E → codeAny (model P w) A (.call (.ref f) args) (CR CX outer P w H s Q E) s
theorem fnG_of {CX : CXT} {P : Program} {w : World} {K : PySem.W.Frag} {mg : Str → Option Value} {base : Heap} {k : Nat} {f : Addr} {name qual : Str} {params : Arguments} {body : List Stmt} {scope : Scope} {dV kV doc pm cdv ct oc : Value} {an od : Option Addr} {osl : Array (Option Value)} {N ps : List Str} {sp : SpG}
    (lk : K.lookup f = some ⟨oc, od, .func (PySem.W.fnOf name qual params body scope dV kV doc pm an cdv ct), osl⟩) (hcd : PySem.W.codeIn K cdv qual = true) (S : FnScope N ps scope) (len : ∀ A vs H Q E, sp A vs H Q E → vs.length = ps.length)
    (hbody : ∀ (A : Around) (outer : List Env) (s : Shared) (H : Hp) (vs : List V) (Q : VK) (E : XK), Room k (A.deeper (envOfC qual scope s.heap.objs.size f cdv)) → sp A vs H Q E →
      ∃ t, PSs (cxOf CX P w K mg base N qual scope f cdv A outer s H E) body t ∧ t { nx := fun _ H' => Q .non H', rt := Q } (L2.start N vs) H) :
    FnG P w K mg base CX (k + 1) f (PySem.W.fnOf name qual params body scope dV kV doc pm an cdv ct) ps sp := by
  refine ⟨len, fun A outer s H args us vs Q E room e0 hb r hsp => ?_⟩
  have hlen := len _ _ _ _ _ hsp
  have KX : K.In s.heap := e0.mod.kin.keeps fun b o e => (e0.bs b o e).1
  have lim : s.heap.NoLimit := e0.mod.nolimit.keeps fun b o e => (e0.bs b o e).1
  have kinds : ∀ y ∈ ps.zip us, scope.names.lookup y.1 = some .local ∨ (scope.names.lookup y.1 = some .cell ∧ ((cellsFrom (s.heap.objs.size + 1) scope.names []).lookup y.1).isSome = true) := by
    rintro ⟨n, v⟩ hy
    cases S.par n (List.of_mem_zip hy).1 with
    | inl q => exact .inl q
    | inr q => exact .inr ⟨q, PySem.W.cellsFrom_some _ _ _ (.inl q)⟩
  refine codeAny_call_function room.depth (KX _ _ lk) rfl S.co S.gen rfl (PySem.W.codeRec_of KX hcd) (hb _ _ _ _ ?_)
  refine wpAny_newFunctionEnv_cells S.kind kinds fun env he s1 x => ?_
  subst he
  refine ⟨lim.keeps x.toInCall.keep, codeAny_func ?_⟩
  obtain ⟨t, run, goal⟩ := hbody A outer s H vs Q E (room.deeper _) hsp
  have I0 : Inv (cxOf CX P w K mg base N qual scope f cdv A outer s H E) [] (L2.start N vs) H s1 := inv_start S room.hd e0 hlen r x
  refine wpAny_mono (run.run [] s1 (L2.start N vs) H _ I0 goal) (fun fl s' hs => ?_) fun e s' hs => hs
  cases fl with
  | ret u => obtain ⟨v, σ', H', J, rv, q⟩ := hs; exact ⟨v, H', J.os, J.bare, J.base, J.hok, rv, q⟩
  | next => obtain ⟨σ', H', J, q⟩ := hs; exact ⟨.non, H', J.os, J.bare, J.base, J.hok, rfl, q⟩
  | brk => obtain ⟨_, _, _, q⟩ := hs; exact False.elim q
  | cont => obtain ⟨_, _, _, q⟩ := hs; exact False.elim q
theorem funG_ok {CX : CXT} {P : Program} {w : World} {K : PySem.W.Frag} {mg : Str → Option Value} {base : Heap} {x qual : Str} {st : Stmt} {f : Addr} {fd : FuncData} {N ps : List Str} {k : Nat} {sp : SpG} (F : Fun K x qual st f fd) (S : FnScope N ps (defScope st)) (len : ∀ A vs H Q E, sp A vs H Q E → vs.length = ps.length)
    (hbody : ∀ (cdv : Value) (A : Around) (outer : List Env) (s : Shared) (H : Hp) (vs : List V) (Q : VK) (E : XK), Room k (A.deeper (envOfC qual (defScope st) s.heap.objs.size f cdv)) → sp A vs H Q E →
      ∃ t, PSs (cxOf CX P w K mg base N qual (defScope st) f cdv A outer s H E).nox (defBody st) t ∧ t { nx := fun _ H' => Q .non H', rt := Q } (L2.start N vs) H) : FnG P w K mg base CX (k + 1) f fd ps sp := by
  obtain ⟨oc, od, kV, doc, pm, an, cdv, ct, osl, rfl, lk, hcd⟩ := F.ex
  refine fnG_of lk hcd S len fun A outer s H vs Q E hr hsp => ?_
  obtain ⟨t, h, q⟩ := hbody cdv A outer s H vs Q E hr hsp
  exact ⟨t, h.nox, q⟩
section
variable {X : Cx} {C : Addr}
/-- {x!r}, x a list of texts -/
def tFmtL (X : Cx) (C : Addr) (te : TE) : TE := fun σ H Q => te σ H fun x H1 => ∃ (a : Addr) (ys : List Str) (g : List Code), x = .ref a ∧ H1 a = some (.lst (ys.map V.str)) ∧ X.A.guards = some g ∧ GOk C H1 g (2 + ys.length) ∧ (listText (ys.map reprText)).length ≤ sizeLine ∧ ∀ H', Ext H1 H' → Q (.str (listText (ys.map reprText))) H'
theorem shown_strs (ys : List Str) : shown (.lst (ys.map D.str)) = listText (ys.map reprText) := by
  rw [shown, shownL_map, List.map_map]
  rfl
theorem pe_fmtL {e : Expr} {te : TE} {pos : Pos} (hr : Room 1 X.A) (he : PE X e te) : PE X (.FormattedValue e 114 none pos) (tFmtL X C te) := by
  refine ⟨fun pins s σ H Q I h => ?_⟩
  refine wpAny_FormattedValue_repr (thn (he.run pins s σ H _ I h) fun v s1 hv => ?_)
  obtain ⟨x, H1, I1, r1, a, ys, g, rfl, ha, hg, go, hz, q⟩ := hv
  cases r1
  have ra : Rp C H1 (.lst (ys.map D.str)) (.ref a) := ⟨a, _, rfl, ha, RpL.strs ys⟩
  have es : sz (.lst (ys.map D.str)) = 2 + ys.length := by show 2 + szL _ = _; rw [szL_strs]
  have c := callI_list (X := X) (n := 0) (pins := pins) (s := s1) (σ := σ) (H := H1) (a := a) (ds := ys.map D.str) (fun d hd => by obtain ⟨y, _, rfl⟩ := List.mem_map.mp hd; exact repT_str) ⟨hr, rfl⟩ hg I1 ra (by rw [es]; exact go) (by rw [shown_strs]; exact hz)
  refine wpAny_pyReprObj_slot (by have := hr.un; omega) (list_typeI I1 ra) F.slot_list_repr.toG (wpAny_mono c (fun r s2 h2 => ?_) fun _ _ h => h)
  obtain ⟨y, u, rfl, rfl, H2, I2, e2⟩ := h2.str
  rw [shown_strs]
  refine ⟨_, _, rfl, ?_⟩
  exact wpAny_formatField_str ⟨.str (listText (ys.map reprText)), H2, I2.tok _, ⟨_, rfl⟩, q H2 e2⟩ ⟨.str (listText (ys.map reprText)), H2, I2.tok _, ⟨_, rfl⟩, q H2 e2⟩ hz
end
/-! ### Order.__repr__ -/
theorem scORepr : FnScope ["self"] ["self"] (defScope sORepr) := ⟨rfl, rfl, rfl, by decide +kernel, rfl, by decide +kernel, by decide +kernel⟩
def spORepr (C : Addr) : SpG := fun A vs H Q _ => ∃ (g : List Code) (a : Addr) (cs : List Str), vs = [.ref a] ∧ A.guards = some g ∧ GOk C H g (3 + cs.length) ∧ Rp C H (.ord cs) (.ref a) ∧ (shown (.ord cs)).length ≤ sizeLine ∧ ∀ H', Same H H' → Q (.str (shown (.ord cs))) H'
section
variable {P : Program} {w : World} {K : PySem.W.Frag} {mg : Str → Option Value} {base : Heap} {C : Addr}
theorem ok_orepr {f : Addr} {fd : FuncData} (F : Fun K "__repr__" "Order.__repr__" sORepr f fd) (T : Txt K mg C) : FnG P w K mg base C8.CX0 2 f fd ["self"] (spORepr C) := by
  refine funG_ok F scORepr (fun A vs H Q E h => ?_) (fun cdv A outer s H vs Q E hr h => ?_)
  · obtain ⟨g, a, cs, rfl, _⟩ := h
    rfl
  · obtain ⟨g, a, cs, rfl, hg, go, ra, hz, q⟩ := h
    obtain ⟨a', dx, l, z, h1, h2⟩ := id ra
    cases z
    refine ⟨_, pss_one (ps_ret (pe_joined (.cons pe_str (.cons (pe_fmtL (C := C) hr (pe_fld (pv 0) rfl)) (.cons pe_str .nil))))), ?_⟩
    have e : shown (.ord cs) = ((Str.empty ++ ("Order(" : Str)) ++ listText (cs.map reprText)) ++ (")" : Str) := by rw [shown]
    rw [e] at hz q
    have l1 : ((Str.empty ++ ("Order(" : Str)) ++ listText (cs.map reprText)).length ≤ sizeLine := by rw [strLen_append] at hz; omega
    have l2 : (listText (cs.map reprText)).length ≤ sizeLine := by rw [strLen_append] at l1; omega
    refine ⟨_, rfl, by decide, _, rfl, a, C, dx, _, _, rfl, h1, T.clO, T.nOc, ordF_own l, l, cs, g, rfl, h2, hg, go.mono Ext.rfl' (by omega), l2, fun H' e' => ⟨_, rfl, l1, _, rfl, hz, q H' e'⟩⟩
end
/-! ### an order within a tree; repr(tree) -/
section
variable {X : Cx} {C f : Addr} {fd : FuncData} {n : Nat} {d : D} {ds : List D}
theorem repT_ord {cs : List Str} (Fr : FnG X.prog X.w X.K X.mg X.base C8.CX0 n f fd ["self"] (spORepr C)) (hs : PySem.W.findIn X.K (.ref C) "__repr__" = some (some (.ref f))) (hf : PySem.W.isFn X.K (.ref f) = true) (hb : Binds X.K fd ["self"] []) : RepT X C n (.ord cs) := by
  intro base A g pins s σ H v u sb hg go I rv ru hz
  obtain ⟨a, dx, l, rfl, ha, hl⟩ := id rv
  cases ru
  obtain ⟨mA, J, _⟩ := ins_get I.hok ha
  obtain ⟨od, J, _⟩ := J.look
  have KX := I.kIn
  refine wpAny_pyReprUnder_ref (by omega) ?_
  have e0 : Env0 X.prog X.w X.K X.mg X.base A X.stack s H := by
    have e := I.env0
    exact ⟨by rw [sb.fr]; exact e.frames, e.mod, e.bs, e.bsz, e.funs, e.frf, e.hok, e.bare⟩
  have run : wpAny (model X.prog X.w) A (call (.ref f) [.ref a]) (fun r s' => ∃ x u, r = .str x u ∧ (x = shown (.ord cs) ∧ ∃ H', Inv X pins σ H' s' ∧ Ext H H')) X.xe s := by
    refine wpAny_call (codeAny_mono (Fr.run A X.stack s H ⟨[.ref a], []⟩ [.ref a] [.ref a] (fun v H' => v = .str (shown (.ord cs)) ∧ Ext H H') C8.E0 sb.room e0 (by
      have := hb s [.ref a] KX rfl
      simpa using this) (.cons rfl .nil) ⟨g, a, cs, rfl, hg, go, rv, by omega, fun H' e' => ⟨rfl, e'⟩⟩) fun r s' hq => ?_)
    cases r with
    | error e => exact (show False from hq).elim
    | ok fl =>
      cases fl with
      | ret w =>
        obtain ⟨z, H', I', rz, rfl, q⟩ := I.after hq
        obtain ⟨t, rfl⟩ := rz
        exact ⟨_, _, rfl, rfl, H', I', q⟩
      | next => exact False.elim hq
      | brk => exact False.elim hq
      | cont => exact False.elim hq
  unfold pyReprObjUnder pyReprObjBy
  refine wpAny_bind (wpAny_cRoomFor (by have := sb.room.un; omega) ?_)
  refine wpAny_bind (wpAny_bind (J.type.here ((PySem.W.looks_findIn KX hs).here ?_)))
  show wpAny _ _ (if (some (Value.ref f)).isNone = true then _ else _) _ _ _
  rw [if_neg (by simp)]
  have fin : wpAny (model X.prog X.w) A (call (.ref f) ([.ref a] ++ []) >>= fun v => pure (some v)) (fun r s' => ∃ x u, r = some (.str x u) ∧ (x = shown (.ord cs) ∧ ∃ H', Inv X pins σ H' s' ∧ Ext H H')) X.xe s :=
    wpAny_bind (wpAny_mono run (fun v s' h' => wpAny_pure (by obtain ⟨x, u, rfl, q⟩ := h'; exact ⟨x, u, rfl, q⟩)) fun _ _ h' => h')
  refine wpAny_bind (m := callSpecialIfBoundBy? _ (.ref a) (Str.ofString "__repr__")) (wpAny_mono (Q := fun r s' => ∃ x u, r = some (.str x u) ∧ (x = shown (.ord cs) ∧ ∃ H', Inv X pins σ H' s' ∧ Ext H H')) ?_ (fun r s' h => ?_) fun _ _ h => h)
  · simp only [callSpecialIfBoundBy?, bindSpecialIfBound?]
    refine wpAny_holding (wpAny_bind (wpAny_bind (wpAny_bind (J.type.here ((PySem.W.looks_findIn KX hs).here ?_)))))
    refine wpAny_bind (wpAny_askSetting (wpAny_ite ?_))
    split
    · exact wpAny_bind ((PySem.W.bind_fn KX _ (beq_iff_eq.mp hf)).here (wpAny_pure (by exact fin)))
    · exact wpAny_tryCatch (wpAny_bind ((PySem.W.bind_fn KX _ (beq_iff_eq.mp hf)).here (wpAny_pure (by exact fin))))
  · obtain ⟨x, u, rfl, q⟩ := h
    refine wpAny_bind (wpAny_isInstance (T := "str") (b := true) (typeIs_str _ _ _) isSubtype_str_str ?_)
    first
      | exact wpAny_pure ⟨x, u, rfl, q⟩
      | (rw [if_pos rfl]; exact wpAny_pure ⟨x, u, rfl, q⟩)
      | (simp only [if_true]; exact wpAny_pure ⟨x, u, rfl, q⟩)
/-- all trees that are shown here -/
theorem repT_all (ho : ∀ cs, RepT X C n (.ord cs)) (hn : 1 ≤ n) : ∀ (m : Nat) (d : D), shw m d → RepT X C (n + m) d
  | _, .non, _ => repT_non
  | m, .bl _, h => by cases m <;> exact False.elim (show False from h)
  | m, .int i, h => repT_int (by cases m <;> exact h)
  | _, .str _, _ => repT_str
  | _, .ord cs, _ => (ho cs).mono (by omega)
  | m, .emp, _ => by
    have : RepT X C (n + m - 1 + 1) .emp := repT_emp
    rw [show n + m - 1 + 1 = n + m by omega] at this
    exact this
  | 0, .lst _, h => False.elim (show False from h)
  | 0, .tup _, h => False.elim (show False from h)
  | m + 1, .lst ds, h => repT_lst fun d hd => repT_all ho hn m d (h d hd)
  | m + 1, .tup ds, h => repT_tup fun d hd => repT_all ho hn m d (h d hd)
def rReprL (X : Cx) (C : Addr) (m : Nat) : List V → Hp → VK → Prop := fun xs H Q => ∃ (a : Addr) (ds : List D), xs = [.ref a] ∧ Rp C H (.lst ds) (.ref a) ∧ X.A.guards = some [] ∧ (∀ d ∈ ds, shw m d) ∧ (shown (.lst ds)).length ≤ sizeLine ∧ ∀ H', Same H H' → Q (.str (shown (.lst ds))) H'
/-- repr(xs), xs a list -/
theorem call_reprL {m : Nat} (ho : ∀ cs, RepT X C n (.ord cs)) (hn : 1 ≤ n) (hr : Room (n + m + 2) X.A) : CallR X (.builtin "repr") (rReprL X C m) := by
  intro pins s σ H xs us Q I r h
  obtain ⟨a, ds, rfl, ra, hg, hs, hz, q⟩ := h
  cases r with
  | cons r1 r2 =>
    cases r2
    cases (show _ = Value.ref a from r1)
    have sb : L2.Sub X (n + m + 1) X.A.in1 := ⟨hr.in1, rfl⟩
    refine call_repr_slot (by have := hr.un; omega) (list_typeI I ra) F.slot_list_repr.toG (wpAny_mono (callI_list (A := X.A.in1) (n := n + m) (fun d hd => repT_all ho hn m d (hs d hd)) sb hg I ra GOk.nil hz) (fun r s' h => ?_) fun _ _ h => h)
    obtain ⟨x, u, rfl, rfl, H', I', e⟩ := h.str
    exact ⟨_, _, rfl, .str _, H', I', ⟨_, rfl⟩, q H' e⟩
end
end SO
end
section
/-! trees that are shown, how long their texts are; "late" put behind a list -/
set_option maxHeartbeats 4000000
namespace SO
open PySem PySem.Spec PyProof.Rows L2 LamX

/-- what is shown here, orders of names -/
def gd : Nat → D → Prop
  | _, .non => True
  | _, .bl _ => False
  | _, .int i => i.natAbs.log2 < 1920
  | _, .str _ => True
  | 0, .lst _ => False
  | 0, .tup _ => False
  | n + 1, .lst ds => ∀ d ∈ ds, gd n d
  | n + 1, .tup ds => ∀ d ∈ ds, gd n d
  | _, .ord cs => namesOk cs
  | _, .emp => True
theorem gd.shw : ∀ {m : Nat} {d : D}, gd m d → shw m d
  | m, .non, _ => by cases m <;> exact True.intro
  | m, .bl _, h => by cases m <;> exact h
  | m, .int _, h => by cases m <;> exact h
  | m, .str _, _ => by cases m <;> exact True.intro
  | 0, .lst _, h => h
  | 0, .tup _, h => h
  | _ + 1, .lst ds, h => fun d hd => gd.shw (h d hd)
  | _ + 1, .tup ds, h => fun d hd => gd.shw (h d hd)
  | m, .ord _, _ => by cases m <;> exact True.intro
  | m, .emp, _ => by cases m <;> exact True.intro
theorem gd.up : ∀ {m : Nat} {d : D}, gd m d → gd (m + 1) d
  | m, .non, _ => by cases m <;> exact True.intro
  | m, .bl _, h => by cases m <;> exact h
  | m, .int _, h => by cases m <;> exact h
  | m, .str _, _ => by cases m <;> exact True.intro
  | 0, .lst _, h => False.elim h
  | 0, .tup _, h => False.elim h
  | _ + 1, .lst ds, h => fun d hd => gd.up (h d hd)
  | _ + 1, .tup ds, h => fun d hd => gd.up (h d hd)
  | m, .ord _, h => by cases m <;> exact h
  | m, .emp, _ => by cases m <;> exact True.intro
mutual
def wt : D → Nat
  | .lst ds => 2 + wtL ds
  | .tup ds => 3 + wtL ds
  | d => (shown d).length
def wtL : List D → Nat
  | [] => 0
  | d :: ds => (wt d + 2) + wtL ds
end
theorem listText_le (ts : List Str) : (listText ts).length ≤ piled ts + 2 := by
  cases ts with
  | nil => rw [listText_nil]; decide
  | cons t r =>
    have h := textFrom_length_pos r 1 (("[" : Str) ++ (if (0 : Nat) > 0 then ", " else "" : String) ++ t) (Nat.succ_pos 0)
    have e : ((("[" : Str) ++ (if (0 : Nat) > 0 then ", " else "" : String) ++ t)).length = 1 + t.length := by
      rw [strLen_append, strLen_append]; rfl
    have hX : (listText (t :: r)).length = (textFrom 1 (("[" : Str) ++ (if (0 : Nat) > 0 then ", " else "" : String) ++ t) r).length + 1 := by
      show (textFrom 0 "[" (t :: r) ++ "]").length = _
      rw [strLen_append]; rfl
    rw [hX, h, e, piled_cons]
    omega
theorem tupleText_le (ts : List Str) : (tupleText ts).length ≤ piled ts + 3 := by
  unfold tupleText
  rw [strLen_append, strLen_append]
  have e1 : ((("(" : String) : Str)).length = 1 := rfl
  have e3 : (((if ts.length == 1 then ",)" else ")" : String) : Str)).length ≤ 2 := by split <;> decide
  rw [e1]
  by_cases h : ts = []
  · subst h
    have : (Str.join ", " ([] : List Str)).length = 0 := rfl
    omega
  · have := join_length_add ts h
    omega
mutual
theorem wt_le : ∀ d : D, (shown d).length ≤ wt d
  | .non => Nat.le_refl _
  | .bl _ => Nat.le_refl _
  | .int _ => Nat.le_refl _
  | .str _ => Nat.le_refl _
  | .ord _ => Nat.le_refl _
  | .emp => Nat.le_refl _
  | .lst ds => by
    have h := wtL_le ds
    have h2 := listText_le (shownL ds)
    rw [shown, wt]
    omega
  | .tup ds => by
    have h := wtL_le ds
    have h2 := tupleText_le (shownL ds)
    rw [shown, wt]
    omega
theorem wtL_le : ∀ ds : List D, piled (shownL ds) ≤ wtL ds
  | [] => Nat.le_refl _
  | d :: ds => by
    have h1 := wt_le d
    have h2 := wtL_le ds
    rw [shownL, piled_cons, wtL]
    omega
end
theorem wtL_app : ∀ (xs ys : List D), wtL (xs ++ ys) = wtL xs + wtL ys
  | [], ys => by rw [List.nil_append, wtL, Nat.zero_add]
  | x :: xs, ys => by rw [List.cons_append, wtL, wtL, wtL_app xs ys]; omega
/-- no name -/
def nn (d : D) : Prop := ∀ c, nameOk c = true → d ≠ .str c
/-- a list that is no list of names -/
def NN : D → Prop
  | .lst ds => ∃ x ∈ ds, nn x
  | _ => True
section
variable {C : Addr} {H : Hp} {p : Addr} {vs : List V}
def lateV : V := .str "late"
theorem late_wt : wt (.str "late") = 6 := by
  show (reprText "late").length = 6
  decide +kernel
theorem nn_vals {ds : List D} {us : List V} (r : RpL C H ds us) (h : ∃ x ∈ ds, nn x) {cs : List Str} (hn : ∀ c ∈ cs, nameOk c = true) : us ≠ cs.map V.str := fun e => by
  obtain ⟨x, hx, hnn⟩ := h
  subst e
  have e2 : ds = cs.map D.str := RpL.uniq r (RpL.strs cs)
  rw [e2] at hx
  obtain ⟨c, hc, rfl⟩ := List.mem_map.mp hx
  exact hnn c (hn c hc) rfl
/-- behind the list at p stands one more -/
theorem late_tree (hp : H p = some (.lst vs)) (hv : ∀ cs, namesOk cs → vs ≠ cs.map V.str) : ∀ (m : Nat),
    (∀ (d : D) (v : V), gd m d → Rp C H d v → ∃ d', Rp C (upd H p (.lst (vs ++ [lateV]))) d' v ∧ gd m d' ∧ wt d' ≤ 5 * wt d ∧ (nn d → nn d') ∧ (NN d → NN d')) := by
  intro m
  have list : ∀ (k : Nat), (∀ (d : D) (v : V), gd k d → Rp C H d v → ∃ d', Rp C (upd H p (.lst (vs ++ [lateV]))) d' v ∧ gd k d' ∧ wt d' ≤ 5 * wt d ∧ (nn d → nn d') ∧ (NN d → NN d')) →
      ∀ (ds : List D) (us : List V), (∀ d ∈ ds, gd k d) → RpL C H ds us → ∃ ds', RpL C (upd H p (.lst (vs ++ [lateV]))) ds' us ∧ (∀ d ∈ ds', gd k d) ∧ wtL ds' ≤ 5 * wtL ds ∧ ((∃ x ∈ ds, nn x) → ∃ x ∈ ds', nn x) := fun k ih ds => by
    induction ds with
    | nil => exact fun us _ r => ⟨[], r, (fun _ h => absurd h (by simp)), Nat.le_refl _, fun h => h⟩
    | cons d ds ihl =>
      rintro us hg ⟨v, r, rfl, h1, h2⟩
      obtain ⟨d', a1, a2, a3, a4, _⟩ := ih d v (hg d List.mem_cons_self) h1
      obtain ⟨ds', b1, b2, b3, b4⟩ := ihl r (fun x hx => hg x (List.mem_cons_of_mem _ hx)) h2
      refine ⟨d' :: ds', ⟨v, r, rfl, a1, b1⟩, fun x hx => ?_, ?_, ?_⟩
      · rcases List.mem_cons.mp hx with q | q
        · rw [q]; exact a2
        · exact b2 x q
      · rw [wtL, wtL]; omega
      · rintro ⟨x, hx, hn⟩
        rcases List.mem_cons.mp hx with q | q
        · rw [q] at hn; exact ⟨d', List.mem_cons_self, a4 hn⟩
        · obtain ⟨y, hy, hn'⟩ := b4 ⟨x, q, hn⟩
          exact ⟨y, List.mem_cons_of_mem _ hy, hn'⟩
  have flat : ∀ (k : Nat) (d : D) (v : V), gd k d → Rp C (upd H p (.lst (vs ++ [lateV]))) d v → ∃ d', Rp C (upd H p (.lst (vs ++ [lateV]))) d' v ∧ gd k d' ∧ wt d' ≤ 5 * wt d ∧ (nn d → nn d') ∧ (NN d → NN d') := fun k d v g r => ⟨d, r, g, by omega, fun h => h, fun h => h⟩
  induction m with
  | zero =>
    intro d v g r
    cases d with
    | non => exact flat _ _ v g r
    | bl b => exact False.elim g
    | int i => exact flat _ _ v g r
    | str x => exact flat _ _ v g r
    | lst ds => exact False.elim g
    | tup ds => exact False.elim g
    | ord cs =>
      obtain ⟨a, dx, l, rfl, h1, h2⟩ := r
      have n1 : a ≠ p := fun z => by rw [z, hp] at h1; cases h1
      have n2 : l ≠ p := fun z => by
        rw [z, hp] at h2
        have := Option.some.inj h2
        injection this with this
        exact hv cs g this
      exact flat _ _ _ g ⟨a, dx, l, rfl, by rw [upd_ne n1]; exact h1, by rw [upd_ne n2]; exact h2⟩
    | emp =>
      obtain ⟨a, rfl, h1⟩ := r
      have n1 : a ≠ p := fun z => by rw [z, hp] at h1; cases h1
      exact flat _ _ _ g ⟨a, rfl, by rw [upd_ne n1]; exact h1⟩
  | succ k ih =>
    intro d v g r
    cases d with
    | non => exact flat _ _ v g r
    | bl b => exact False.elim g
    | int i => exact flat _ _ v g r
    | str x => exact flat _ _ v g r
    | lst ds =>
      obtain ⟨a, us, rfl, h1, h2⟩ := r
      obtain ⟨ds', b1, b2, b3, b4⟩ := list k ih ds us g h2
      by_cases e : a = p
      · subst e
        rw [hp] at h1
        cases h1
        have lw := late_wt
        refine ⟨.lst (ds' ++ [.str "late"]), ⟨a, _, rfl, upd_same, b1.app (RpL.one (d := .str "late") (v := lateV) rfl)⟩, fun x hx => ?_, ?_, fun _ c _ z => (by cases z), fun h => ?_⟩
        · rcases List.mem_append.mp hx with q | q
          · exact b2 x q
          · rw [List.mem_singleton.mp q]; cases k <;> exact True.intro
        · rw [wt, wt, wtL_app, wtL, wtL]; omega
        · obtain ⟨y, hy, hn⟩ := b4 h
          exact ⟨y, List.mem_append_left _ hy, hn⟩
      · refine ⟨.lst ds', ⟨a, us, rfl, by rw [upd_ne e]; exact h1, b1⟩, b2, by rw [wt, wt]; omega, fun _ c _ z => (by cases z), b4⟩
    | tup ds =>
      obtain ⟨a, us, rfl, h1, h2⟩ := r
      obtain ⟨ds', b1, b2, b3, b4⟩ := list k ih ds us g h2
      have n1 : a ≠ p := fun z => by rw [z, hp] at h1; cases h1
      refine ⟨.tup ds', ⟨a, us, rfl, by rw [upd_ne n1]; exact h1, b1⟩, b2, by rw [wt, wt]; omega, fun _ c _ z => (by cases z), fun _ => True.intro⟩
    | ord cs =>
      obtain ⟨a, dx, l, rfl, h1, h2⟩ := r
      have n1 : a ≠ p := fun z => by rw [z, hp] at h1; cases h1
      have n2 : l ≠ p := fun z => by
        rw [z, hp] at h2
        have := Option.some.inj h2
        injection this with this
        exact hv cs g this
      exact flat _ _ _ g ⟨a, dx, l, rfl, by rw [upd_ne n1]; exact h1, by rw [upd_ne n2]; exact h2⟩
    | emp =>
      obtain ⟨a, rfl, h1⟩ := r
      have n1 : a ≠ p := fun z => by rw [z, hp] at h1; cases h1
      exact flat _ _ _ g ⟨a, rfl, by rw [upd_ne n1]; exact h1⟩
end
end SO
end
section
/-! k78: the odd things of _law_refused_right, as trees -/
set_option maxHeartbeats 4000000
namespace SO
open PySem PySem.Spec PyProof.Rows L2 LamX XF

def thL (o : List Str) : List D := [.non, .str "build a", .int 5, .tup [.str "build"], .tup [.str "build", .ord o, .ord o], .tup [.str "relay", .ord o], .tup [.str "drop", .str "a"], .tup [.str "Build", .ord o], .lst [.str "build", .ord o], .tup [.ord o, .str "build"], .tup [.str "relay", .ord o, .str "a"], .tup [.non, .ord o], .tup []]
def moL (st : Str × List (List Str)) (line : Str) (dt : D) : List D := [.non, .int 5, .emp, .lst [stD st, dt], .lst (List.replicate 101 (stD st)), .str line, .tup [stD st, .lst []]]
def odL : List D := [.non, .int 5, .lst [.str "drop a"], .tup [.str "drop a"], .emp]
theorem rt_len {x : Str} (so : PyData.strOk x = true) : (reprText x).length ≤ 10 * x.length + 2 := StrLaws.reprText_len x fun c hc => by
  have := (so_iff x).mp so c hc
  have e : (16 : Nat) ^ 8 = 4294967296 := by decide
  omega
theorem piled_names : ∀ {cs : List Str}, (∀ c ∈ cs, nameOk c = true) → piled (cs.map reprText) ≤ 84 * cs.length
  | [], _ => Nat.le_refl _
  | c :: cs, h => by
    have h1 := rt_len (nameOk_so (h c List.mem_cons_self))
    have h2 := nameOk_len (h c List.mem_cons_self)
    have h3 := piled_names (cs := cs) fun d hd => h d (List.mem_cons_of_mem _ hd)
    rw [List.map_cons, piled_cons, List.length_cons]
    omega
theorem ord_wt {o : List Str} (h : namesOk o) : wt (.ord o) ≤ 440 := by
  have h1 := piled_names h.2.2.1
  have h2 := h.2.1
  have h3 := listText_le (o.map reprText)
  show (shown (.ord o)).length ≤ 440
  rw [shown, strLen_append, strLen_append, strLen_append]
  have e1 : (Str.empty).length = 0 := rfl
  have e2 : ("Order(" : Str).length = 6 := rfl
  have e3 : (")" : Str).length = 1 := rfl
  omega
theorem str_wt (x : Str) {n : Nat} (h : (reprText x).length = n) : wt (.str x) = n := h
theorem st_wt {st : Str × List (List Str)} (h : okStep st) : wt (stD st) ≤ 1000 := by
  obtain ⟨w, os⟩ := st
  obtain ⟨hd, hn⟩ := h
  have hw : wt (.str w) ≤ 7 := by
    rcases hd with ⟨_, h2 | h2⟩ | ⟨_, h2⟩
    · rw [show w = _ from h2]; exact Nat.le_of_eq (str_wt _ (n := 7) (by decide +kernel))
    · rw [show w = _ from h2]; exact Nat.le_trans (Nat.le_of_eq (str_wt _ (n := 6) (by decide +kernel))) (by decide)
    · rw [show w = _ from h2]; exact Nat.le_of_eq (str_wt _ (n := 7) (by decide +kernel))
  have hl : os.length ≤ 2 := by rcases hd with ⟨h1, _⟩ | ⟨h1, _⟩ <;> (have h1 : os.length = _ := h1; omega)
  have ho : ∀ (l : List (List Str)), (∀ cs ∈ l, namesOk cs) → wtL (l.map D.ord) ≤ 442 * l.length := fun l => by
    induction l with
    | nil => exact fun _ => Nat.le_refl _
    | cons c r ih =>
      intro h
      have h1 := ord_wt (h c List.mem_cons_self)
      have h2 := ih fun d hd => h d (List.mem_cons_of_mem _ hd)
      rw [List.map_cons, wtL, List.length_cons]
      omega
  have := ho os hn
  show wt (.tup (.str w :: os.map D.ord)) ≤ 1000
  rw [wt, wtL]
  omega
theorem gd_str {m : Nat} {x : Str} : gd m (.str x) := by cases m <;> exact True.intro
theorem gd_non {m : Nat} : gd m .non := by cases m <;> exact True.intro
theorem gd_emp {m : Nat} : gd m .emp := by cases m <;> exact True.intro
theorem gd_five {m : Nat} : gd m (.int 5) := by cases m <;> exact (show (5 : Int).natAbs.log2 < 1920 by decide)
theorem gd_ord {m : Nat} {o : List Str} (h : namesOk o) : gd m (.ord o) := by cases m <;> exact h
theorem gd_st {m : Nat} {st : Str × List (List Str)} (h : okStep st) : gd (m + 1) (stD st) := fun d hd => by
  rcases List.mem_cons.mp hd with q | q
  · rw [q]; exact gd_str
  · obtain ⟨cs, hc, rfl⟩ := List.mem_map.mp q
    exact gd_ord (h.2 cs hc)
theorem gd_nil {m : Nat} {p : D → Prop} : ∀ d ∈ ([] : List D), p d := fun _ h => absurd h (by simp)
theorem all1 {p : D → Prop} {a : D} (h : p a) : ∀ d ∈ [a], p d := fun d hd => by rw [List.mem_singleton.mp hd]; exact h
theorem all2 {p : D → Prop} {a b : D} (h : p a) (h2 : p b) : ∀ d ∈ [a, b], p d := fun d hd => by
  rcases List.mem_cons.mp hd with q | q
  · rw [q]; exact h
  · exact all1 h2 d q
theorem all3 {p : D → Prop} {a b c : D} (h : p a) (h2 : p b) (h3 : p c) : ∀ d ∈ [a, b, c], p d := fun d hd => by
  rcases List.mem_cons.mp hd with q | q
  · rw [q]; exact h
  · exact all2 h2 h3 d q
def OkT (d : D) : Prop := isStep d = false ∧ stOk d ∧ gd 2 d ∧ wt d ≤ 2000 ∧ NN d
theorem th_ok {o : List Str} (ho : namesOk o) : ∀ d ∈ thL o, OkT d := by
  have wo := ord_wt ho
  have w7 : wt (.str "build") = 7 := str_wt _ (by decide +kernel)
  have w7' : wt (.str "Build") = 7 := str_wt _ (by decide +kernel)
  have wr : wt (.str "relay") = 7 := str_wt _ (by decide +kernel)
  have wd : wt (.str "drop") = 6 := str_wt _ (by decide +kernel)
  have wa : wt (.str "a") = 3 := str_wt _ (by decide +kernel)
  have wb : wt (.str "build a") = 9 := str_wt _ (by decide +kernel)
  have wn : wt .non = 4 := by decide +kernel
  have so1 : ∀ {ds : List D}, (∀ cs, D.ord cs ∈ ds → cs = o) → stOk (.tup ds) := fun h cs hc => by rw [h cs hc]; exact ho
  have lits : isStep (.tup [.str "build"]) = false ∧ isStep (.tup [.str "build", .ord o, .ord o]) = false ∧ isStep (.tup [.str "relay", .ord o]) = false ∧ isStep (.tup [.str "drop", .str "a"]) = false ∧ isStep (.tup [.str "Build", .ord o]) = false ∧ isStep (.tup [.str "relay", .ord o, .str "a"]) = false := by
    refine ⟨rfl, ?_, ?_, rfl, ?_, rfl⟩
    · show (true && ((decide (2 = 1) && (decide (("build" : Str) = sBuild) || decide (("build" : Str) = sDrop))) || (decide (2 = 2) && decide (("build" : Str) = sRelay)))) = false
      decide +kernel
    · show (true && ((decide (1 = 1) && (decide (("relay" : Str) = sBuild) || decide (("relay" : Str) = sDrop))) || (decide (1 = 2) && decide (("relay" : Str) = sRelay)))) = false
      decide +kernel
    · show (true && ((decide (1 = 1) && (decide (("Build" : Str) = sBuild) || decide (("Build" : Str) = sDrop))) || (decide (1 = 2) && decide (("Build" : Str) = sRelay)))) = false
      decide +kernel
  obtain ⟨i1, i2, i3, i4, i5, i6⟩ := lits
  intro d hd
  unfold thL at hd
  simp only [List.mem_cons, List.not_mem_nil, or_false] at hd
  rcases hd with rfl | rfl | rfl | rfl | rfl | rfl | rfl | rfl | rfl | rfl | rfl | rfl | rfl
  · exact ⟨rfl, True.intro, gd_non, by omega, True.intro⟩
  · exact ⟨rfl, True.intro, gd_str, by omega, True.intro⟩
  · exact ⟨rfl, True.intro, gd_five, by decide +kernel, True.intro⟩
  · exact ⟨i1, so1 (by simp), all1 gd_str, by simp only [wt, wtL] at *; omega, True.intro⟩
  · exact ⟨i2, so1 (by simp), all3 gd_str (gd_ord ho) (gd_ord ho), by simp only [wt, wtL] at *; omega, True.intro⟩
  · exact ⟨i3, so1 (by simp), all2 gd_str (gd_ord ho), by simp only [wt, wtL] at *; omega, True.intro⟩
  · exact ⟨i4, so1 (by simp), all2 gd_str gd_str, by simp only [wt, wtL] at *; omega, True.intro⟩
  · exact ⟨i5, so1 (by simp), all2 gd_str (gd_ord ho), by simp only [wt, wtL] at *; omega, True.intro⟩
  · exact ⟨rfl, True.intro, all2 gd_str (gd_ord ho), by simp only [wt, wtL] at *; omega, .ord o, by simp, fun c _ z => by cases z⟩
  · exact ⟨rfl, so1 (by simp), all2 (gd_ord ho) gd_str, by simp only [wt, wtL] at *; omega, True.intro⟩
  · exact ⟨i6, so1 (by simp), all3 gd_str (gd_ord ho) gd_str, by simp only [wt, wtL] at *; omega, True.intro⟩
  · exact ⟨rfl, so1 (by simp), all2 gd_non (gd_ord ho), by simp only [wt, wtL] at *; omega, True.intro⟩
  · exact ⟨rfl, so1 (by simp), gd_nil (m := 0), by simp only [wt, wtL]; omega, True.intro⟩
def OkM (d : D) : Prop := stepsOk d = false ∧ (∀ x ∈ itemsD d, stOk x) ∧ gd 3 d ∧ wt d ≤ 110000 ∧ NN d
theorem wtL_rep (d : D) : ∀ n : Nat, wtL (List.replicate n d) = n * (wt d + 2)
  | 0 => by rw [List.replicate_zero, wtL, Nat.zero_mul]
  | n + 1 => by rw [List.replicate_succ, wtL, wtL_rep d n, Nat.add_mul, Nat.one_mul]; omega
theorem mo_ok {st : Str × List (List Str)} (hst : okStep st) {dt : D} (hdt : OkT dt) {line : Str} (hl : (reprText line).length ≤ 2000) : ∀ d ∈ moL st line dt, OkM d := by
  obtain ⟨t1, t2, t3, t4, _⟩ := hdt
  have ws := st_wt hst
  have nt : nn (stD st) := fun c _ z => by cases z
  have s0 : stOk (stD st) := stOk_of hst
  have i0 := isStep_of hst
  have wn : wt .non = 4 := by decide +kernel
  intro d hd
  unfold moL at hd
  simp only [List.mem_cons, List.not_mem_nil, or_false] at hd
  rcases hd with rfl | rfl | rfl | rfl | rfl | rfl | rfl
  · exact ⟨rfl, gd_nil (m := 0), gd_non, by omega, True.intro⟩
  · exact ⟨rfl, gd_nil (m := 0), gd_five, by decide +kernel, True.intro⟩
  · exact ⟨rfl, gd_nil (m := 0), gd_emp, by decide +kernel, True.intro⟩
  · refine ⟨?_, all2 s0 t2, all2 (gd_st hst) t3, by simp only [wt, wtL]; omega, stD st, by simp, nt⟩
    show (true && decide (([stD st, dt] : List D).length ≤ 100) && (isStep (stD st) && (isStep dt && true))) = false
    rw [t1, i0]
    rfl
  · refine ⟨?_, fun x hx => ?_, fun x hx => ?_, ?_, stD st, by simp, nt⟩
    · show (true && decide ((List.replicate 101 (stD st)).length ≤ 100) && (List.replicate 101 (stD st)).all isStep) = false
      rw [List.length_replicate]
      rfl
    · rw [List.eq_of_mem_replicate hx]; exact s0
    · rw [List.eq_of_mem_replicate hx]; exact gd_st hst
    · rw [wt, wtL_rep]; omega
  · exact ⟨rfl, gd_nil (m := 0), gd_str, by show (reprText line).length ≤ _; omega, True.intro⟩
  · refine ⟨?_, all2 s0 True.intro, all2 (gd_st hst) (gd_nil (m := 0)), by simp only [wt, wtL]; omega, True.intro⟩
    show (true && decide (([stD st, .lst []] : List D).length ≤ 100) && (isStep (stD st) && (false && true))) = false
    rw [i0]
    rfl
def OkD (d : D) : Prop := isStr d = false ∧ szOk d ∧ pStepD d = none ∧ gd 2 d ∧ wt d ≤ 100 ∧ NN d
theorem od_ok : ∀ d ∈ odL, OkD d := by
  have wa : wt (.str "drop a") = 8 := str_wt _ (by decide +kernel)
  have wn : wt .non = 4 := by decide +kernel
  intro d hd
  unfold odL at hd
  simp only [List.mem_cons, List.not_mem_nil, or_false] at hd
  rcases hd with rfl | rfl | rfl | rfl | rfl
  · exact ⟨rfl, True.intro, rfl, gd_non, by omega, True.intro⟩
  · exact ⟨rfl, True.intro, rfl, gd_five, by decide +kernel, True.intro⟩
  · refine ⟨rfl, True.intro, rfl, all1 gd_str, by simp only [wt, wtL] at *; omega, .str "drop a", by simp, fun c hc z => ?_⟩
    cases z
    revert hc
    decide +kernel
  · exact ⟨rfl, True.intro, rfl, all1 gd_str, by simp only [wt, wtL] at *; omega, True.intro⟩
  · exact ⟨rfl, True.intro, rfl, gd_emp, by decide +kernel, True.intro⟩
/-- what is told and what is due -/
def dFl (dt dm dd : D) : List D := [.lst [.str "steps", dt], .lst [.str "steps", dm], .lst [.str "text", dd], .lst [.str "text", dd]]
theorem dFl_ok {dt dm dd : D} (h1 : gd 3 dt) (h2 : gd 3 dm) (h3 : gd 3 dd) (w : wt dt + wt dm + 2 * wt dd ≤ 14100000) : (∀ d ∈ dFl dt dm dd, shw 5 d) ∧ (shown (.lst (dFl dt dm dd))).length ≤ sizeLine := by
  have big : sizeLine = 16777216 := sizeLine_eq
  refine ⟨fun d hd => ?_, ?_⟩
  · unfold dFl at hd
    simp only [List.mem_cons, List.not_mem_nil, or_false] at hd
    have g : ∀ {x : Str} {y : D}, gd 3 y → gd 4 (.lst [.str x, y]) := fun h => all2 gd_str h
    rcases hd with rfl | rfl | rfl | rfl
    · exact (g h1).up.shw
    · exact (g h2).up.shw
    · exact (g h3).up.shw
    · exact (g h3).up.shw
  · have h := wt_le (.lst (dFl dt dm dd))
    have w7 : wt (.str "steps") = 7 := str_wt _ (by decide +kernel)
    have w6 : wt (.str "text") = 6 := str_wt _ (by decide +kernel)
    have : wt (.lst (dFl dt dm dd)) ≤ 14200000 := by
      unfold dFl
      simp only [wt, wtL] at *
      omega
    omega
theorem dFl_rp {C : Addr} {H : Hp} {dt dm dd : D} {vt vm vd : V} {F a1 a2 a3 a4 : Addr} (hF : H F = some (.lst [.ref a1, .ref a2, .ref a3, .ref a4])) (h1 : H a1 = some (.lst [.str "steps", vt])) (h2 : H a2 = some (.lst [.str "steps", vm])) (h3 : H a3 = some (.lst [.str "text", vd])) (h4 : H a4 = some (.lst [.str "text", vd]))
    (r1 : Rp C H dt vt) (r2 : Rp C H dm vm) (r3 : Rp C H dd vd) : Rp C H (.lst (dFl dt dm dd)) (.ref F) :=
  ⟨F, _, rfl, hF, _, _, rfl, ⟨a1, _, rfl, h1, _, _, rfl, rfl, _, _, rfl, r1, rfl⟩, _, _, rfl, ⟨a2, _, rfl, h2, _, _, rfl, rfl, _, _, rfl, r2, rfl⟩, _, _, rfl, ⟨a3, _, rfl, h3, _, _, rfl, rfl, _, _, rfl, r3, rfl⟩, _, _, rfl, ⟨a4, _, rfl, h4, _, _, rfl, rfl, _, _, rfl, r3, rfl⟩, rfl⟩
theorem Rp.has {C : Addr} {H : Hp} {d : D} {a : Addr} (r : Rp C H d (.ref a)) : ∃ o, H a = some o := by
  cases d with
  | non => cases (show V.ref a = _ from r)
  | bl b => cases (show V.ref a = _ from r)
  | int i => cases (show V.ref a = _ from r)
  | str x => cases (show V.ref a = _ from r)
  | lst ds => obtain ⟨a', vs, z, h, _⟩ := r; cases z; exact ⟨_, h⟩
  | tup ds => obtain ⟨a', vs, z, h, _⟩ := r; cases z; exact ⟨_, h⟩
  | ord cs => obtain ⟨a', dx, l, z, h, _⟩ := r; cases z; exact ⟨_, h⟩
  | emp => obtain ⟨a', z, h⟩ := r; cases z; exact ⟨_, h⟩
theorem Rp.not {C : Addr} {H : Hp} {d : D} {v : V} {q : Addr} (r : Rp C H d v) (h : H q = none) : v ≠ .ref q := fun z => by
  rw [z] at r
  obtain ⟨o, ho⟩ := r.has
  rw [h] at ho
  cases ho
theorem w3_ok {a b c : Nat} (h1 : a ≤ 5 ^ 3 * 2000) (h2 : b ≤ 5 ^ 3 * 110000) (h3 : c ≤ 5 ^ 3 * 100) : a + b + 2 * c ≤ 14100000 := by
  rw [show (5 : Nat) ^ 3 = 125 by decide] at h1 h2 h3
  omega
theorem w0_ok {a b c : Nat} (h1 : a ≤ 2000) (h2 : b ≤ 110000) (h3 : c ≤ 100) : a + b + 2 * c ≤ 14100000 := by omega
theorem wtL_two : ∀ l : List D, 2 * l.length ≤ wtL l
  | [] => Nat.le_refl _
  | a :: r => by
    have := wtL_two r
    rw [wtL, List.length_cons]
    omega
theorem lv_ok {C : Addr} {A : Hp} {ds : List D} {vs : List V} (rl : RpL C A ds vs) (h : wtL ds ≤ 25 * 110000) : vs.length < sizeLine := by
  have big : sizeLine = 16777216 := sizeLine_eq
  have := rl.len
  have := wtL_two ds
  omega
theorem key_ok {i B x : Nat} (hi : i < 3) (w : 2 + x ≤ 5 ^ i * B) (hB : B ≤ 110000) : x ≤ 25 * 110000 := by
  have h5 : 5 ^ i ≤ 25 := Nat.le_trans (Nat.pow_le_pow_right (by decide) (show i ≤ 2 by omega)) (by decide)
  have := Nat.mul_le_mul h5 hB
  omega
theorem lt_of_int {j k : Nat} (h : (j : Int) < (k : Nat)) : j < k := Int.ofNat_lt.mp h
theorem pick3 {P : V → Prop} {a b c x : V} {i : Nat} (h : ([a, b, c] : List V)[i]? = some x) (ha : P a) (hb : P b) (hc : P c) : P x := by
  match i, h with
  | 0, h => cases h; exact ha
  | 1, h => cases h; exact hb
  | 2, h => cases h; exact hc
theorem Nw.emp {C e : Addr} {H H' : Hp} (h' : H' e = some (.dK [])) (hh : H e = none) : Nw C H H' .emp (.ref e) := by
  refine ⟨upd (fun _ => none) e (.dK []), fun a o h => ?_, fun a o h => ?_, e, rfl, upd_same⟩
  · by_cases z : a = e
    · rw [z, upd_same] at h; cases h; rw [z]; exact h'
    · rw [upd_ne z] at h; cases h
  · by_cases z : a = e
    · rw [z]; exact hh
    · rw [upd_ne z] at h; cases h
theorem NwL.rep {C : Addr} {H H' : Hp} {d : D} {v : V} (x : Nw C H H' d v) (n : Nat) : NwL C H H' (List.replicate n d) (List.replicate n v) := by
  obtain ⟨K, s, m, r⟩ := x
  refine ⟨K, s, m, ?_⟩
  induction n with
  | zero => exact rfl
  | succ n ih => exact ⟨v, _, rfl, r, ih⟩
end SO
end
section
/-! k78, part Q4: _law_hundred_right -/
set_option maxHeartbeats 4000000
namespace SO
open PySem PySem.Spec PyProof.Rows L2 LamX XF

abbrev rJn (K : PySem.W.Frag) : V → List V → Hp → VK → Prop := fun x xs H Q => ∃ a p, ∃ ys : List Str, x = .str a ∧ xs = [.ref p] ∧ (SqL K H p (ys.map V.str) ∨ SqT K H p (ys.map V.str)) ∧ (ys.map (·.length)).sum + ys.length * a.length ≤ 16777216 ∧ Q (.str (Txt.join a ys)) H
abbrev sHundred : Stmt := topS 49
abbrev nHundred : List Str := ["_law_box_here", "_law_words", "_law_steps", "_law_lines", "_law_found", "_law_turn", "_law_word"]
theorem scHundred : FnScope nHundred ["_law_box_here"] (defScope sHundred) := ⟨rfl, rfl, rfl, by decide +kernel, rfl, by decide +kernel, by decide +kernel⟩
theorem sum_le8 : ∀ (l : List Str) (k : Nat), (∀ z ∈ l, z.length ≤ k) → (l.map (·.length)).sum ≤ l.length * k
  | [], _, _ => Nat.zero_le _
  | x :: l, k, h => by
    have h1 := h x List.mem_cons_self
    have h2 := sum_le8 l k fun z hz => h z (List.mem_cons_of_mem _ hz)
    rw [List.map_cons, List.sum_cons, List.length_cons, Nat.add_mul]
    omega
theorem namesA : namesOk ["a"] := ⟨by decide, by decide, (fun c hc => by rw [List.mem_singleton] at hc; rw [hc]; decide +kernel), by decide⟩
def spHundred (T : List (Addr × Str)) : Sp := fun vs H Q _ => ∃ b, ∃ n : Nat, vs = [.ref b] ∧ Bx H b n ∧ n ≤ 900000 ∧ Tabs T H ∧
  ∀ H', SameT b H H' → Bx H' b (n + 20) → Tabs T H' → Q (.bl true) H'
section
variable {P : Program} {w : World} {K : PySem.W.Frag} {mg : Str → Option Value} {base : Heap} {C CT CI CS : Addr}
theorem ok_hundred {f c P0 : Addr} {fd : FuncData} {T : List (Addr × Str)} (F : FunL K "_law_hundred_right" sHundred f fd c) (G : CKt K mg) (CC : CatC K mg CT CI CS) (TX : Txt K mg C) (TB : TabB base mg c P0) (hm : (P0, ("_law_hundred_right.<locals>.<lambda>" : Str)) ∈ T) (hu : ∀ p ∈ T, p.1 = P0 → p.2 = "_law_hundred_right.<locals>.<lambda>")
    (FT : Fk P w K mg base C8.CX0 1 "_law_take" ["_law_box_here", "_law_many"] spTake) (MO : C8.Mak P w K mg base 3 "Order" C (spOInit C) [])
    (FS : Fx P w K mg base (Out Z0 P w) 5 "steps_text" ["steps"] (spStepsText C CS)) (FP : Fx P w K mg base (L2.CX P w) 7 "parse_steps" ["text"] (spParseSteps C CT CI)) (EO : ∀ X : Cx, X.prog = P → X.w = w → X.K = K → X.mg = mg → X.base = base → EqG X 2 (DIns C (EqO C))) :
    FnOk P w K mg base C8.CX0 10 f fd ["_law_box_here"] (spHundred T) := by
  refine F.ok scHundred (fun vs H Q E h => ?_) (fun A outer s H vs Q E hr h => ?_)
  · obtain ⟨b, n, rfl, _⟩ := h
    rfl
  · obtain ⟨b, n, rfl, hb, hn, ht, q⟩ := h
    have eo := EO (cxOf C8.CX0 P w K mg base nHundred "_law_hundred_right" (defScope sHundred) f (.ref c) A outer s H E).nox rfl rfl rfl rfl rfl
    refine ⟨_, pss_cons (ps_set (i := 1) scHundred.nd rfl (Or.inl rfl) (pe_op op_rep
          (by exact pe_lc (own := [("_law_turn", 5)]) (g := gName 5) (tt := tYes) rfl scHundred.nd (pi_range1 (by rfl) TX.range (pa_cons pe_int pa_nil)) (blkOk_by (N := nHundred) (sc := defScope sHundred) (by decide +kernel)) (fun _ _ _ _ _ => pg_name (i := 5) scHundred.nd rfl (Or.inl rfl)) (fun _ _ _ _ _ => pts_nil) (fun _ _ _ _ _ => pe_ix (r := rIxL K) ix_list (pe_lst (pa_cons pe_str (pa_cons pe_str pa_nil))) (pcall FT (hr.mono (by decide)) (pa_cons (pv 0) (pa_cons pe_int pa_nil))) (fun _ _ => rfl))) pe_int))
      (pss_cons (ps_set (i := 2) scHundred.nd rfl (Or.inr rfl)
          (pe_lc (own := [("_law_word", 6)]) (g := gName 6) (tt := tYes) rfl scHundred.nd (pi_list (pv 1)) (blkOk_by (N := nHundred) (sc := defScope sHundred) (by decide +kernel))
            (fun _ _ _ _ _ => pg_name (i := 6) scHundred.nd rfl (Or.inl rfl)) (fun _ _ _ _ _ => pts_nil) (fun _ _ _ _ _ => pe_tup (pa_cons (pv 6) (pa_cons (C8.pe_mk MO (hr.mono (show 4 ≤ 9 by decide)) (by decide) (by rfl) (pa_cons (pe_lst (pa_cons pe_str pa_nil)) pa_nil)) pa_nil)))))
      (pss_cons (ps_set (i := 3) scHundred.nd rfl (Or.inr rfl)
          (pe_lc (own := [("_law_word", 6)]) (g := gName 6) (tt := tYes) rfl scHundred.nd (pi_list (pv 1)) (blkOk_by (N := nHundred) (sc := defScope sHundred) (by decide +kernel))
            (fun _ _ _ _ _ => pg_name (i := 6) scHundred.nd rfl (Or.inl rfl)) (fun _ _ _ _ _ => pts_nil) (fun _ _ _ _ _ => pe_op op_add_str (pv 6) pe_str)))
      (pss_cons (ps_if (PW.pt (pw_or (pt_cmpR op_ne (xcall FS (hr.mono (by decide)) (fun _ => passF) (pa_cons (pv 2) pa_nil)) (pe_bm PySem.F.plainAttrs_str PySem.F.slot_str_join PySem.F.type_str_join mt_join pe_str (pa_cons (pv 3) pa_nil)) (nomark _))
            (pw_or1 (pt_cmpR (op_neG (rnG_lst eo 2) (hr.mono (by decide))) (xcall FP (hr.mono (by decide)) (E := fun _ _ _ _ => False) (fun _ => fun _ _ _ _ _ _ c => by exact (let ⟨_, _, _, _, _, _, _, _, _, _, _, _, f⟩ := c; f.elim)) (pa_cons (pe_bm PySem.F.plainAttrs_str PySem.F.slot_str_join PySem.F.type_str_join mt_join pe_str (pa_cons (pv 3) pa_nil)) pa_nil)) (pv 2) (nomark _)))))
          (pss_one (ps_ret pe_bl)) pss_nil)
      (pss_cons (ps_set (i := 4) scHundred.nd rfl (Or.inl rfl) (pe_lst (pa_cons (pe_caught (T := T) (k := 7) (t := fun E => tCallS (spParseSteps C CT CI) (fun _ => E) (tCons (tBM K "str" (rJn K) (tC (.str "\n")) (tCons (tOp rCat (tVar 3) (tLst (tCons (tC (.str "drop a")) tNil))) tNil)) tNil)) G CC TB rfl hm hu (hr.mono (by decide)) (lamS_by (sc := defScope sHundred) (by decide +kernel)) (by rfl) (fun _ _ _ _ _ => by rfl)
          (fun A outer s H E f c' hr2 => xcall FP hr2 (fun σ => passLamX σ) (pa_cons (pe_bm (r := rJn K) PySem.F.plainAttrs_str PySem.F.slot_str_join PySem.F.type_str_join mt_join pe_str (pa_cons (pe_op op_cat (pv 3) (pe_lst (pa_cons pe_str pa_nil))) pa_nil)) pa_nil))) pa_nil)))
      (pss_cons (ps_expr (pe_bm PySem.F.plainAttrs_list PySem.F.slot_list_append PySem.F.type_list_append mt_append (pv 4) (pa_cons (pe_caught (T := T) (k := 5) G CC TB rfl hm hu (hr.mono (by decide)) (lamS_by (sc := defScope sHundred) (by decide +kernel)) (by rfl) (fun _ _ _ _ _ => by rfl)
          (fun A outer s H E f c' hr2 => xcall FS hr2 (fun σ => passLam Z0.ok σ) (pa_cons (pe_op op_cat (pv 2) (pe_slice (r := rSlL K) sl_list (pv 2) po_none (po_some pe_int))) pa_nil))) pa_nil)))
      (pss_one (ps_ret (pe_cmpR (op_eqG (rcG_lst eo 4) (hr.mono (by decide))) (pv 4) (pe_lst (pa_cons (pe_lst (pa_cons pe_str (pa_cons pe_int pa_nil))) (pa_cons (pe_lst (pa_cons pe_str (pa_cons (pe_op op_cat (pv 2) (pe_slice (r := rSlL K) sl_list (pv 2) po_none (po_some pe_int))) pa_nil))) pa_nil))) (nomark _))))))))), ?_⟩
    have big : sizeLine = 16777216 := sizeLine_eq
    obtain ⟨ob, hob⟩ := hb.has
    refine ⟨_, rfl, by decide, by decide, fun L hL => ?_⟩
    refine lc_it (walk_range (lo := 0) (n := 20)) (fun i H' => SameB b H H' ∧ Bx H' b (n + i) ∧ ∃ ws : List Str, ws.length = i ∧ (∀ z ∈ ws, z = sDrop ∨ z = sBuild) ∧ H' L = some (.lst (ws.map V.str))) ⟨.same (Same.upd' (Same.refl H) hL), hb.same (Same.upd' (Same.refl H) hL), [], rfl, (fun z hz => absurd hz (by simp)), upd_same⟩ (fun _ _ _ _ => True.intro) (fun i x H1 H2 hi p y => ?_) fun H1 p => ?_
    · obtain ⟨rfl, rfl⟩ := y
      obtain ⟨sb, bx, ws, hl, hw, hL1⟩ := p
      refine ⟨rfl, (by show 2 ≤ sizeLine; omega), fun e he => ⟨_, rfl, b, 2, n + i, rfl, bx.same (Same.upd' (Same.refl H2) he), by omega, by decide, by decide, fun j H3 hj sb3 bx3 => ?_⟩⟩
      have nbL : L ≠ b := fun z => by rw [z, hob] at hL; cases hL
      have neL : L ≠ e := fun z => by rw [z, he] at hL1; cases hL1
      have nbe : e ≠ b := fun z => by
        obtain ⟨o, ho⟩ := bx.has
        rw [z, ho] at he; cases he
      have h3e : H3 e = some (.lst [.str sDrop, .str sBuild]) := sb3 _ _ nbe upd_same
      have h3L : H3 L = some (.lst (ws.map V.str)) := sb3 _ _ nbL (by rw [upd_ne neL]; exact hL1)
      have sbL : ∀ o, SameB b H (upd H3 L o) := fun o => by
        intro a u na hu
        have nL : a ≠ L := fun z => by rw [z, hL] at hu; cases hu
        rw [upd_ne nL]
        have h2 := sb _ _ na hu
        exact sb3 _ _ na (by rw [upd_ne (ne_of_none h2 he)]; exact h2)
      have bxL : ∀ o, Bx (upd H3 L o) b (n + (i + 1)) := fun o => by
        obtain ⟨p', s', k', h', r'⟩ := bx3
        exact ⟨p', s', k', by rw [upd_ne nbL.symm]; exact h', by rw [← Nat.add_assoc]; exact r'⟩
      have jj : j = 0 ∨ j = 1 := by omega
      rcases jj with rfl | rfl
      · exact ⟨e, _, _, .str sDrop, rfl, rfl, SqL.of h3e, rfl, ws.map V.str, h3L, (by rw [List.length_map]; omega), sbL _, bxL _, ws ++ [sDrop], (by rw [List.length_append, hl]; rfl), (fun z hz => (List.mem_append.mp hz).elim (hw z) fun h => .inl (List.mem_singleton.mp h)), (by rw [upd_same, List.map_append]; rfl)⟩
      · exact ⟨e, _, _, .str sBuild, rfl, rfl, SqL.of h3e, rfl, ws.map V.str, h3L, (by rw [List.length_map]; omega), sbL _, bxL _, ws ++ [sBuild], (by rw [List.length_append, hl]; rfl), (fun z hz => (List.mem_append.mp hz).elim (hw z) fun h => .inr (List.mem_singleton.mp h)), (by rw [upd_same, List.map_append]; rfl)⟩
    · obtain ⟨sb, bx, ws, hl, hw, hL1⟩ := p
      refine ⟨L, 5, _, rfl, rfl, hL1, by decide, by decide, (by rw [List.length_map, hl, big]; decide), fun L2 hL2 => ?_⟩
      have efl : (List.replicate (5 : Int).toNat (ws.map V.str)).flatten = ((List.replicate 5 ws).flatten).map V.str := by simp [List.map_flatten, List.map_replicate]
      rw [efl]
      have vl : ((List.replicate 5 ws).flatten).length = 100 := by simp [hl]
      have vw : ∀ z ∈ (List.replicate 5 ws).flatten, z = sDrop ∨ z = sBuild := fun z hz => by
        obtain ⟨l, h1, h2⟩ := List.mem_flatten.mp hz
        rw [List.eq_of_mem_replicate h1] at h2
        exact hw z h2
      generalize (List.replicate 5 ws).flatten = vs at vl vw ⊢
      have nbL2 : L2 ≠ b := fun z => by
        obtain ⟨o, ho⟩ := bx.has
        rw [z, ho] at hL2; cases hL2
      have sb2 : SameB b H (upd H1 L2 (.lst (vs.map V.str))) := sb.trans (.same (Same.upd' (Same.refl H1) hL2))
      have bx2 : Bx (upd H1 L2 (.lst (vs.map V.str))) b (n + 20) := bx.same (Same.upd' (Same.refl H1) hL2)
      have hv2 : upd H1 L2 (.lst (vs.map V.str)) L2 = some (.lst (vs.map V.str)) := upd_same
      generalize upd H1 L2 (.lst (vs.map V.str)) = Hb at sb2 bx2 hv2 ⊢
      refine ⟨_, rfl, L2, rfl, ⟨_, SqL.of hv2⟩, fun D hD => ?_⟩
      refine lc_it (walk_list (xs := vs.map V.str)) (fun i H' => Same Hb H' ∧ Dom (upd Hb D (.lst [])) H' ∧ ∃ us, H' D = some (.lst us) ∧ NwL C (upd Hb D (.lst [])) H' ((vs.take i).map fun w => stD (w, [["a"]])) us) ⟨Same.upd' (Same.refl _) hD, Dom.refl _, [], upd_same, .nil⟩ (fun i H' _ p => SqL.of (p.1 _ _ hv2)) (fun i x H2 H2' hi p y => ?_) fun H2 p => ?_
      · obtain ⟨rfl, hy⟩ := y
        obtain ⟨e, dm, us, hu, hr'⟩ := p
        have hi' : i < vs.length := by rw [List.length_map] at hi; exact hi
        have ew : vs[i]? = some vs[i] := List.getElem?_eq_getElem hi'
        rw [List.getElem?_map, ew] at hy
        cases hy
        refine ⟨rfl, _, rfl, (by show 1 ≤ sizeLine; omega), fun la hla => fun o dx ho hdx ne => ?_⟩
        have e1 : Same H2' (upd H2' la (.lst [.str "a"])) := Same.upd' (Same.refl H2') hla
        refine mkO (cs := ["a"]) upd_same namesA ho hdx ne fun H4 e4 nw => ⟨rfl, (by show 2 ≤ sizeLine; omega), fun t ht => ?_⟩
        have e5 : Same H2' H4 := e1.trans e4
        have hl2 := hr'.rp.len
        rw [List.length_map, List.length_take] at hl2
        have dm4 : Dom (upd Hb D (.lst [])) H4 := dm.trans (.same e5)
        have k1 : NwL C (upd Hb D (.lst [])) H4 [SO.D.str vs[i], SO.D.ord ["a"]] [.str vs[i], .ref o] := (Nw.flat (d := .str vs[i]) rfl).one.app (nw.up (dm.trans (.same e1))).one
        have k2 : Nw C (upd Hb D (.lst [])) (upd H4 t (.tup [.str vs[i], .ref o])) (stD (vs[i], [["a"]])) (.ref t) := k1.tup ht (dm4.free ht)
        have e6 : Same H2' (upd H4 t (.tup [.str vs[i], .ref o])) := Same.upd' e5 (e5.free ht)
        refine ⟨us, e6 _ _ hu, by omega, Same.upd' (e.trans e6) hD, (dm.trans (.same e6)).upd D _, us ++ [.ref t], upd_same, ?_⟩
        rw [take_s ew, List.map_append]
        exact ((hr'.same e6).app k2.one).wr upd_same
      · obtain ⟨e, dm, us, hu, hr'⟩ := p
        rw [List.length_map, show vs.take vs.length = vs from List.take_length] at hr'
        have hr' := hr'.up ((Dom.refl Hb).upd D _)
        have nD : D ≠ L2 := fun z => by rw [z, hv2] at hD; cases hD
        have sb3 : SameB b H H2 := sb2.trans (.same e)
        have bx3 : Bx H2 b (n + 20) := bx2.same e
        have hv3 : H2 L2 = some (.lst (vs.map V.str)) := e _ _ hv2
        have dD : ∀ {o}, H b = some o → D ≠ b := fun _ z => by
          obtain ⟨o, ho⟩ := bx2.has
          rw [z, ho] at hD; cases hD
        refine ⟨_, rfl, L2, rfl, ⟨_, SqL.of hv3⟩, fun D3 hD3 => ?_⟩
        refine lc_flatY (walk_list (xs := vs.map V.str)) (fun i => V.str ((vs[i]?.getD Str.empty) ++ " a")) (by rw [List.length_map]; omega) hD3 (fun H' e' => SqL.of (e' _ _ hv3)) gName_mono (fun i x H3 H3' hi e3 y => ?_) fun H3 e3 h3 => ?_
        · obtain ⟨rfl, hy⟩ := y
          have hi' : i < vs.length := by rw [List.length_map] at hi; exact hi
          have ew : vs[i]? = some vs[i] := List.getElem?_eq_getElem hi'
          rw [List.getElem?_map, ew] at hy
          cases hy
          refine ⟨rfl, fun N1 k => ⟨_, rfl, _, _, rfl, rfl, ?_, ?_⟩⟩
          · have : vs[i].length ≤ 5 := by
              rcases vw _ (List.getElem_mem hi') with z | z <;> rw [z] <;> decide
            have q2 : (" a" : Str).length = 2 := rfl
            omega
          · have := k _ (Same.refl _)
            rw [ew] at this
            exact this
        · have sb4 : SameB b H H3 := sb3.trans (.same e3)
          have bx4 : Bx H3 b (n + 20) := bx3.same e3
          let sts : List (Str × List (List Str)) := vs.map fun w => (w, [["a"]])
          have hsts : ∀ st ∈ sts, okStep st := fun st hs => by
            obtain ⟨w, hw', rfl⟩ := List.mem_map.mp hs
            refine ⟨.inl ⟨rfl, (vw w hw').symm⟩, fun cs hc => ?_⟩
            rw [List.mem_singleton] at hc
            rw [hc]
            exact namesA
          have hst : (vs.map fun w => stD (w, [["a"]])) = sts.map stD := by simp [sts, List.map_map, Function.comp_def]
          rw [hst] at hr'
          have hls : H3 D3 = some (.lst ((linesT sts).map V.str)) := by
            rw [h3]
            congr 2
            refine List.ext_getElem (by simp [linesT, sts]) fun i h1 h2 => ?_
            have h : i < vs.length := by simpa using h1
            have et : stepText (stD (vs[i], [["a"]])) = vs[i] ++ " a" := by
              rw [text1, join1, emp_app, app_assoc]
              congr 1
            simp [linesT, sts, h, et]
          have hlen : sts.length = 100 := by simp [sts, vl]
          have hDl : Rp C H3 (.lst (sts.map stD)) (.ref D) := ⟨D, us, rfl, e3 _ _ hu, hr'.rp.mono e3⟩
          have hso : ∀ x ∈ sts.map stD, stOk x := fun x hx => by
            obtain ⟨st, hs, rfl⟩ := List.mem_map.mp hx
            exact stOk_of (hsts st hs)
          have hok : stepsOk (.lst (sts.map stD)) = true := stepsOk_of hsts (by omega)
          refine ⟨_, rfl, _, _, rfl, hDl, hso, fun _ H4 e4 => ?_, fun z => absurd z (by rw [hok]; decide)⟩
          rw [stepsText_of]
          have hls4 : H4 D3 = some (.lst ((linesT sts).map V.str)) := e4 _ _ hls
          refine ⟨rfl, _, rfl, _, D3, linesT sts, rfl, rfl, .inl (SqL.of hls4), ?_, ?_⟩
          · have := sum_le8 (linesT sts) 8 (fun z hz => ?_)
            · rw [linesT, List.length_map, hlen] at this
              have l1 : ("\n" : Str).length = 1 := rfl
              rw [l1, linesT, List.length_map, hlen]
              omega
            · obtain ⟨st, hs, rfl⟩ := List.mem_map.mp hz
              obtain ⟨wd, hw', rfl⟩ := List.mem_map.mp hs
              rcases vw wd hw' with z | z <;> rw [z] <;> decide +kernel
          have e34 : Same H2 H4 := e3.trans e4
          refine ⟨rfl, _, rfl, ?_⟩
          have enl : (nl : Str) = "\n" := rfl
          rw [show (!decide (V.str (Txt.join nl (linesT sts)) = V.str (Txt.join "\n" (linesT sts)))) = false from by rw [← enl, decide_eq_true rfl]; rfl]
          have hsum8 : ∀ l : List Str, (∀ z ∈ l, z = sDrop ++ " a" ∨ z = sBuild ++ " a") → (l.map (·.length)).sum ≤ l.length * 8 := fun l hl => sum_le8 l 8 fun z hz => by rcases hl z hz with q | q <;> rw [q] <;> decide +kernel
          have joinLe : ∀ l : List Str, (∀ z ∈ l, z.length ≤ 8) → (l.map (·.length)).sum + l.length * ("\n" : Str).length ≤ l.length * 9 ∧ (Txt.join "\n" l).length ≤ l.length * 9 := fun l hl => by
            have h1 := sum_le8 l 8 hl
            have h2 : (Txt.join "\n" l).length ≤ (l.map (·.length)).sum + l.length * ("\n" : Str).length := by rw [TL.join_eq]; exact StrLaws.join_length_le _ l
            have h3 : ("\n" : Str).length = 1 := rfl
            rw [h3] at h2 ⊢
            omega
          have line8 : ∀ z ∈ linesT sts, z.length ≤ 8 := fun z hz => by
            obtain ⟨st, hs, rfl⟩ := List.mem_map.mp hz
            obtain ⟨wd, hw', rfl⟩ := List.mem_map.mp hs
            rcases vw wd hw' with z | z <;> rw [z] <;> decide +kernel
          have llen : (linesT sts).length = 100 := by rw [linesT, List.length_map, hlen]
          obtain ⟨j1, j2⟩ := joinLe _ line8
          rw [llen] at j1 j2
          have hD4 : H4 D = some (.lst us) := e4 _ _ (e3 _ _ hu)
          have nw4 : NwL C Hb H4 (sts.map stD) us := hr'.same e34
          have sb5 : SameB b H H4 := sb3.trans (.same e34)
          have ul : us.length = 100 := by have := nw4.rp.len; rw [List.length_map, hlen] at this; exact this
          refine ifF rfl ⟨rfl, _, rfl, _, D3, linesT sts, rfl, rfl, .inl (SqL.of hls4), by rw [llen]; omega, ?_⟩
          refine ⟨_, .str (Txt.join "\n" (linesT sts)), rfl, rfl, (by show (Txt.join "\n" (linesT sts)).length ≤ 100000; omega), fun x sts' hx hp o ws5 H5 ho e5 hw5 nw5 => ?_, fun x k hx hp => ?_, fun z => nomatch (show true = false from z)⟩
          · cases hx
            rw [← enl, pSteps_ok hsts (by omega)] at hp
            cases hp
            have rpo : Rp C H5 (.lst (sts.map stD)) (.ref o) := ⟨o, ws5, rfl, hw5, nw5.rp⟩
            have rpD : Rp C H5 (.lst (sts.map stD)) (.ref D) := ⟨D, us, rfl, e5 _ _ hD4, nw4.rp.mono e5⟩
            refine ⟨_, rfl, rp_lst (dep_sts sts 1) rpo rpD, fun H6 e6 => ?_⟩
            refine ⟨_, rfl, ifF rfl ?_⟩
            obtain ⟨Kf, hKf, _, rKf⟩ := nw4
            have rKs : RpL C (strip Kf) (sts.map stD) us := rKf.strip
            let Iv : Hp → Prop := fun H' => SameT b H H' ∧ Bx H' b (n + 20) ∧ H' D = some (.lst us) ∧ H' D3 = some (.lst ((linesT sts).map V.str)) ∧ Sub (strip Kf) H'
            have ivN : ∀ {A B : Hp}, Iv A → ExtN A B → Iv B := fun {A B} h e => ⟨h.1.trans (.ofN e), h.2.1.extN e, e _ _ h.2.2.1 (fun _ z => nomatch z), e _ _ h.2.2.2.1 (fun _ z => nomatch z), fun a o k => e _ _ (h.2.2.2.2 a o k) (strip_inv k).2⟩
            have ivS : ∀ {A B : Hp}, Iv A → Same A B → Iv B := fun {A B} h e => ivN h (fun a o k _ => e a o k)
            have ivM : ∀ {A B : Hp} {p : Addr} {u : HO}, Iv A → A p = none → Iv B → Iv (upd B p u) := fun {A B p u} h hp k => by
              have nb : p ≠ b := fun z => by
                obtain ⟨o, ho⟩ := h.2.1.has
                rw [z, ho] at hp; cases hp
              refine ⟨fun a o na ha nt => ?_, ?_, ?_, ?_, fun a o ha => ?_⟩
              · rw [upd_ne (ne_of_none (h.1 a o na ha nt) hp)]; exact k.1 a o na ha nt
              · obtain ⟨m', s', k', h', r'⟩ := k.2.1
                exact ⟨m', s', k', by rw [upd_ne nb.symm]; exact h', r'⟩
              · rw [upd_ne (ne_of_none h.2.2.1 hp)]; exact k.2.2.1
              · rw [upd_ne (ne_of_none h.2.2.2.1 hp)]; exact k.2.2.2.1
              · rw [upd_ne (ne_of_none (h.2.2.2.2 a o ha) hp)]; exact k.2.2.2.2 a o ha
            have s46 : Same H4 H6 := Same.trans e5 e6
            have iv6 : Iv H6 := ⟨(SameT.ofB sb5).trans (.same s46), (bx4.same e4).same s46, s46 _ _ hD4, s46 _ _ hls4, fun a o k => s46 _ _ (hKf _ _ (strip_inv k).1)⟩
            have t6 : Tabs T H6 := Tabs.sameB ht hb (sb5.trans (.same s46))
            refine ⟨t6, fun H7 eN7 t7 => ?_⟩
            have iv7 := ivN iv6 eN7
            let sd : List (Str × List (List Str)) := [(sDrop, [["a"]])]
            let da : List Str := ["drop a"]
            have linesMore : linesT (sts ++ sd) = linesT sts ++ da := by
              have e0 : linesT sd = da := by
                show [stepText (stD (sDrop, [["a"]]))] = da
                rw [text1, join1, emp_app]
                exact congrArg (fun z => [z]) (by decide +kernel)
              rw [← e0]
              exact List.map_append
            have okMore : ∀ st ∈ sts ++ sd, okStep st := fun st hs => by
              rcases List.mem_append.mp hs with h | h
              · exact hsts st h
              · rw [List.mem_singleton.mp h]
                exact ⟨.inl ⟨rfl, .inr rfl⟩, fun cs hc => by rw [List.mem_singleton.mp hc]; exact namesA⟩
            have more : pSteps (Txt.join "\n" (linesT sts ++ da)) = .inl 100 := by
              rw [← enl, ← linesMore]
              exact pSteps_more okMore (by rw [List.length_append, hlen]; decide)
            have line8m : ∀ z ∈ linesT sts ++ da, z.length ≤ 8 := fun z hz => (List.mem_append.mp hz).elim (line8 z) fun h => by rw [List.mem_singleton.mp h]; decide
            obtain ⟨j3, j4⟩ := joinLe _ line8m
            have ldm : (linesT sts ++ da).length = 101 := by rw [List.length_append, llen]; rfl
            rw [ldm] at j3 j4
            refine ⟨rfl, _, rfl, (by show 1 ≤ sizeLine; omega), fun p hp => ⟨D3, p, _, _, rfl, rfl, (by rw [upd_ne (ne_of_none iv7.2.2.2.1 hp)]; exact iv7.2.2.2.1), upd_same, (by rw [List.length_map, llen]; show 100 + 1 ≤ _; omega), fun p2 hp2 => ?_⟩⟩
            have e8 : Same H7 (upd (upd H7 p (.lst [.str "drop a"])) p2 (.lst (((linesT sts).map V.str) ++ [.str "drop a"]))) := Same.upd' (Same.upd' (Same.refl _) hp) ((Same.upd' (Same.refl H7) hp).free hp2)
            have h8 : (upd (upd H7 p (.lst [.str "drop a"])) p2 (.lst (((linesT sts).map V.str) ++ [.str "drop a"]))) p2 = some (.lst ((linesT sts ++ da).map V.str)) := by rw [upd_same, List.map_append]; rfl
            generalize (upd (upd H7 p (.lst [.str "drop a"])) p2 (.lst (((linesT sts).map V.str) ++ [.str "drop a"]))) = H8 at e8 h8 ⊢
            refine ⟨_, p2, linesT sts ++ da, rfl, rfl, .inl (SqL.of h8), (by rw [ldm]; omega), ?_⟩
            refine ⟨_, .str (Txt.join "\n" (linesT sts ++ da)), rfl, rfl, (by show (Txt.join "\n" (linesT sts ++ da)).length ≤ 100000; omega), fun x sts' hx hp o ws5 H5 ho e5 hw5 nw5 => ?_, fun x k hx hp dd H9 hdd e9 h9 => ?_, fun z => nomatch (show true = false from z)⟩
            · cases hx
              rw [more] at hp
              cases hp
            · cases hx
              rw [more] at hp
              cases hp
              refine .inr (.inl ⟨rfl, dd, _, rfl, h9, fun o1 ho1 => ?_⟩)
              have iv9 : Iv (upd H9 o1 (.lst [.str "line", .int (100 : Nat)])) := ivS (ivS (ivS iv7 e8) e9) (Same.upd' (Same.refl _) ho1)
              have t9 : Tabs T (upd H9 o1 (.lst [.str "line", .int (100 : Nat)])) := ((t7.ext e8).ext e9).ext (Same.upd' (Same.refl _) ho1)
              have o9 : (upd H9 o1 (.lst [.str "line", .int (100 : Nat)])) o1 = some (.lst [.str "line", .int (100 : Nat)]) := upd_same
              generalize (upd H9 o1 (.lst [.str "line", .int (100 : Nat)])) = H10 at iv9 t9 o9 ⊢
              refine ⟨(by show 1 ≤ sizeLine; omega), fun fo hfo => ?_⟩
              have iv11 : Iv (upd H10 fo (.lst [.ref o1])) := ivS iv9 (Same.upd' (Same.refl _) hfo)
              have t11 : Tabs T (upd H10 fo (.lst [.ref o1])) := t9.ext (Same.upd' (Same.refl _) hfo)
              have n1 : o1 ≠ fo := ne_of_none o9 hfo
              have o11 : (upd H10 fo (.lst [.ref o1])) o1 = some (.lst [.str "line", .int (100 : Nat)]) := by rw [upd_ne n1]; exact o9
              have f11 : (upd H10 fo (.lst [.ref o1])) fo = some (.lst [.ref o1]) := upd_same
              generalize (upd H10 fo (.lst [.ref o1])) = H11 at iv11 t11 o11 f11 ⊢
              refine ⟨_, rfl, .inl ⟨rfl, _, SqL.of f11⟩, t11, fun H12 eN12 t12 => ?_⟩
              have iv12 := ivN iv11 eN12
              have o12 := eN12 _ _ o11 (fun _ z => nomatch z)
              have f12 := eN12 _ _ f11 (fun _ z => nomatch z)
              refine ⟨_, rfl, _, rfl, 1, rfl, D, us, rfl, SqL.of iv12.2.2.1, fun p hp => ?_⟩
              have cut : cutV us none (some 1) = us.take 1 := by
                have h1 : HT.sIx us.length us.length (some 1) = 1 := by
                  have := HT.sIx_nat us.length us.length 1
                  rw [ul] at this ⊢
                  simpa using this
                unfold cutV
                rw [HT.sIx_none, h1]
                rfl
              rw [cut]
              have r101 : ∀ {A B : Hp} {a : Addr}, Iv A → Same A B → B a = some (.lst (us ++ us.take 1)) → Rp C B (.lst ((sts ++ sts.take 1).map stD)) (.ref a) := fun {A B a} h e ha => ⟨a, _, rfl, ha, by
                have r1 : RpL C B (sts.map stD) us := rKs.mono (Sub.trans h.2.2.2.2 e)
                rw [List.map_append]
                refine r1.app ?_
                rw [List.map_take]
                exact r1.take 1⟩
              have l101 : (sts ++ sts.take 1).length = 101 := by rw [List.length_append, List.length_take, hlen]; rfl
              refine ⟨D, p, us, us.take 1, rfl, rfl, (by rw [upd_ne (ne_of_none iv12.2.2.1 hp)]; exact iv12.2.2.1), upd_same, (by rw [List.length_take, ul]; show 100 + min 1 100 ≤ _; omega), fun p2 hp2 => ?_⟩
              have e13 : Same H12 (upd (upd H12 p (.lst (us.take 1))) p2 (.lst (us ++ us.take 1))) := Same.upd' (Same.upd' (Same.refl _) hp) ((Same.upd' (Same.refl H12) hp).free hp2)
              have h13 : (upd (upd H12 p (.lst (us.take 1))) p2 (.lst (us ++ us.take 1))) p2 = some (.lst (us ++ us.take 1)) := upd_same
              generalize (upd (upd H12 p (.lst (us.take 1))) p2 (.lst (us ++ us.take 1))) = H13 at e13 h13 ⊢
              refine ⟨_, _, rfl, r101 iv12 e13 h13, fun x hx => ?_, fun z => ?_, fun _ dd H14 hdd e14 h14 => .inr (.inr ⟨rfl, dd, _, rfl, h14, fun o2 ho2 => ?_⟩)⟩
              · obtain ⟨st, hs, rfl⟩ := List.mem_map.mp hx
                rcases List.mem_append.mp hs with h | h
                · exact stOk_of (hsts st h)
                · exact stOk_of (hsts st (List.mem_of_mem_take h))
              · rw [stepsOk_not (by omega)] at z
                cases z
              · have e15 : Same H12 (upd H14 o2 (.lst [.str "steps", .ref p2])) := Same.upd' (e13.trans e14) ((e13.trans e14).free ho2)
                have p15 : (upd H14 o2 (.lst [.str "steps", .ref p2])) p2 = some (.lst (us ++ us.take 1)) := Same.upd' e14 (e14.free ho2) _ _ h13
                have o15 : (upd H14 o2 (.lst [.str "steps", .ref p2])) o2 = some (.lst [.str "steps", .ref p2]) := upd_same
                have n2 : p2 ≠ o2 := ne_of_none (e14 _ _ h13) ho2
                generalize (upd H14 o2 (.lst [.str "steps", .ref p2])) = H15 at e15 p15 o15 ⊢
                have iv15 := ivS iv12 e15
                have t15 := t12.ext e15
                have f15 := e15 _ _ f12
                have o1_15 := e15 _ _ o12
                have nf2 : p2 ≠ fo := fun z => by
                  rw [z, f15] at p15
                  have := Option.some.inj p15
                  injection this with this
                  have := congrArg List.length this
                  simp [ul] at this
                have nf3 : o2 ≠ fo := fun z => by
                  rw [z, f15] at o15
                  cases o15
                refine ⟨fo, _, .ref o2, rfl, rfl, f15, (by show 1 < sizeLine; omega), ?_⟩
                have iv16 : Iv (upd H15 fo (.lst ([.ref o1] ++ [.ref o2]))) := ivM iv9 hfo iv15
                have t16 : Tabs T (upd H15 fo (.lst ([.ref o1] ++ [.ref o2]))) := SO.Tabs.wr t15 f15 True.intro
                have f16 : (upd H15 fo (.lst ([.ref o1] ++ [.ref o2]))) fo = some (.lst [.ref o1, .ref o2]) := upd_same
                have a16 : (upd H15 fo (.lst ([.ref o1] ++ [.ref o2]))) o1 = some (.lst [.str "line", .int (100 : Nat)]) := by rw [upd_ne n1]; exact o1_15
                have b16 : (upd H15 fo (.lst ([.ref o1] ++ [.ref o2]))) o2 = some (.lst [.str "steps", .ref p2]) := by rw [upd_ne nf3]; exact o15
                have c16 : (upd H15 fo (.lst ([.ref o1] ++ [.ref o2]))) p2 = some (.lst (us ++ us.take 1)) := by rw [upd_ne nf2]; exact p15
                generalize (upd H15 fo (.lst ([.ref o1] ++ [.ref o2]))) = H16 at iv16 t16 f16 a16 b16 c16 ⊢
                refine ⟨_, rfl, (by show 2 ≤ sizeLine; omega), fun q1 hq1 => ?_⟩
                have s17 : Same H16 (upd H16 q1 (.lst [.str "line", .int 100])) := Same.upd' (Same.refl _) hq1
                have q17 : (upd H16 q1 (.lst [.str "line", .int 100])) q1 = some (.lst [.str "line", .int (100 : Nat)]) := upd_same
                generalize (upd H16 q1 (.lst [.str "line", .int 100])) = H17 at s17 q17 ⊢
                have iv17 := ivS iv16 s17
                refine ⟨_, rfl, _, rfl, 1, rfl, D, us, rfl, SqL.of iv17.2.2.1, fun q2 hq2 => ?_⟩
                rw [cut]
                refine ⟨D, q2, us, us.take 1, rfl, rfl, (by rw [upd_ne (ne_of_none iv17.2.2.1 hq2)]; exact iv17.2.2.1), upd_same, (by rw [List.length_take, ul]; show 100 + min 1 100 ≤ _; omega), fun q3 hq3 => ?_⟩
                have s18 : Same H17 (upd (upd H17 q2 (.lst (us.take 1))) q3 (.lst (us ++ us.take 1))) := Same.upd' (Same.upd' (Same.refl _) hq2) ((Same.upd' (Same.refl H17) hq2).free hq3)
                have q18 : (upd (upd H17 q2 (.lst (us.take 1))) q3 (.lst (us ++ us.take 1))) q3 = some (.lst (us ++ us.take 1)) := upd_same
                generalize (upd (upd H17 q2 (.lst (us.take 1))) q3 (.lst (us ++ us.take 1))) = H18 at s18 q18 ⊢
                refine ⟨(by show 2 ≤ sizeLine; omega), fun q4 hq4 => ⟨(by show 2 ≤ sizeLine; omega), fun q5 hq5 => ?_⟩⟩
                have s19 : Same H18 (upd H18 q4 (.lst [.str "steps", .ref q3])) := Same.upd' (Same.refl _) hq4
                have q19 : (upd H18 q4 (.lst [.str "steps", .ref q3])) q4 = some (.lst [.str "steps", .ref q3]) := upd_same
                generalize (upd H18 q4 (.lst [.str "steps", .ref q3])) = H19 at s19 q19 hq5 ⊢
                have s20 : Same H19 (upd H19 q5 (.lst [.ref q1, .ref q4])) := Same.upd' (Same.refl _) hq5
                have q20 : (upd H19 q5 (.lst [.ref q1, .ref q4])) q5 = some (.lst [.ref q1, .ref q4]) := upd_same
                generalize (upd H19 q5 (.lst [.ref q1, .ref q4])) = H20 at s20 q20 ⊢
                have t17 : Same H17 H20 := (s18.trans s19).trans s20
                have t16' : Same H16 H20 := s17.trans t17
                let dS : SO.D := .lst ((sts ++ sts.take 1).map stD)
                let dF : List SO.D := [.lst [.str "line", .int (100 : Nat)], .lst [.str "steps", dS]]
                have r1 : Rp C H20 dS (.ref p2) := r101 iv16 t16' (t16' _ _ c16)
                have r2 : Rp C H20 dS (.ref q3) := r101 iv17 t17 ((s19.trans s20) _ _ q18)
                have rA : Rp C H20 (.lst dF) (.ref fo) := ⟨fo, _, rfl, t16' _ _ f16, _, _, rfl, ⟨o1, _, rfl, t16' _ _ a16, _, _, rfl, rfl, _, _, rfl, rfl, rfl⟩, _, _, rfl, ⟨o2, _, rfl, t16' _ _ b16, _, _, rfl, rfl, _, _, rfl, r1, rfl⟩, rfl⟩
                have rB : Rp C H20 (.lst dF) (.ref q5) := ⟨q5, _, rfl, q20, _, _, rfl, ⟨q1, _, rfl, t17 _ _ q17, _, _, rfl, rfl, _, _, rfl, rfl, rfl⟩, _, _, rfl, ⟨q4, _, rfl, s20 _ _ q19, _, _, rfl, rfl, _, _, rfl, r2, rfl⟩, rfl⟩
                refine ⟨rp_lst (fun d hd => ?_) rA rB, fun H21 e21 => ?_⟩
                · rcases List.mem_cons.mp hd with h | h
                  · rw [h]
                    intro d hd
                    rcases List.mem_cons.mp hd with h | h
                    · rw [h]; exact True.intro
                    · rw [List.mem_singleton.mp h]; exact True.intro
                  · rw [List.mem_singleton.mp h]
                    intro d hd
                    rcases List.mem_cons.mp hd with h | h
                    · rw [h]; exact True.intro
                    · rw [List.mem_singleton.mp h]
                      exact dep_sts _ 1
                · have iv21 : Iv H21 := ivS (ivS iv16 t16') e21
                  have t21 : Tabs T H21 := (t16.ext t16').ext e21
                  exact q H21 iv21.1 iv21.2.1 t21
          · cases hx
            rw [← enl, pSteps_ok hsts (by omega)] at hp
            cases hp
end
end SO
end
section
/-! k78, part Q5: _law_right -/
set_option maxHeartbeats 4000000
namespace SO
open PySem PySem.Spec PyProof.Rows L2 LamX XF

abbrev sRight : Stmt := topS 47
abbrev nRight : List Str := ["_law_box_here", "_law_many", "_law_both", "_law_steps", "_law_lines", "_law_lap", "_law_found", "_law_step_here", "_law_line", "_law_bent_here", "_law_due_here"]
theorem scRight : FnScope nRight ["_law_box_here", "_law_many"] (defScope sRight) := ⟨rfl, rfl, rfl, by decide +kernel, rfl, by decide +kernel, by decide +kernel⟩
theorem gTup2_mono {K : PySem.W.Frag} {i j : Nat} : ∀ (x : V) (σ : L2.St) (H : Hp) (N N' : L2.St → Hp → Prop), (∀ σ2 H2, N σ2 H2 → N' σ2 H2) → gTup K 2 (gCons (gName i) (gCons (gName j) gNil)) x σ H N → gTup K 2 (gCons (gName i) (gCons (gName j) gNil)) x σ H N' :=
  fun x σ H N N' k ⟨a, xs, h1, h2, h3, v, r, h4, v2, r2, h5, h6, h7⟩ => ⟨a, xs, h1, h2, h3, v, r, h4, v2, r2, h5, h6, k _ _ h7⟩
/-- a step and its text -/
def lineD (st : Str × List (List Str)) : D := .tup [stD st, .str (stepText (stD st))]
theorem lineD_get {C : Addr} {K : Hp} : ∀ {sts : List (Str × List (List Str))} {bs : List V}, RpL C K (sts.map lineD) bs → ∃ svs : List V, RpL C K (sts.map stD) svs ∧ ∀ (i : Nat) (hi : i < sts.length), ∃ a v, bs[i]? = some (.ref a) ∧ svs[i]? = some v ∧ K a = some (.tup [v, .str (stepText (stD sts[i]))])
  | [], bs, _ => ⟨[], rfl, fun i hi => absurd hi (by simp)⟩
  | st :: sts, bs, ⟨x, r, e, h1, h2⟩ => by
    subst e
    obtain ⟨svs, k1, k2⟩ := lineD_get (sts := sts) h2
    obtain ⟨a, vs, rfl, ha, v, r1, rfl, hv, y, r2, rfl, hy, e0⟩ := h1
    obtain rfl : r2 = [] := e0
    obtain rfl : y = .str (stepText (stD st)) := hy
    refine ⟨v :: svs, ⟨v, svs, rfl, hv, k1⟩, fun i hi => ?_⟩
    cases i with
    | zero => exact ⟨a, v, rfl, rfl, ha⟩
    | succ i =>
      have hi' : i < sts.length := by simpa using hi
      obtain ⟨a', v', q1, q2, q3⟩ := k2 i hi'
      exact ⟨a', v', by simpa using q1, by simpa using q2, by simpa using q3⟩
theorem text_so {st : Str × List (List Str)} (h : okStep st) : PyData.strOk (stepText (stD st)) = true := by
  obtain ⟨hd, hn⟩ := h
  obtain ⟨w, os⟩ := st
  have hw : PyData.strOk w = true := by
    rcases hd with ⟨_, h2 | h2⟩ | ⟨_, h2⟩
    · rw [show w = _ from h2]; decide +kernel
    · rw [show w = _ from h2]; decide +kernel
    · rw [show w = _ from h2]; decide +kernel
  show PyData.strOk (((Str.empty ++ w) ++ blank) ++ Txt.join towards ((os.map D.ord).map ordText)) = true
  refine app_so (app_so (app_so (by decide +kernel) hw) (by decide +kernel)) (join_so (by decide +kernel) fun z hz => ?_)
  rw [List.map_map] at hz
  obtain ⟨cs, hc, rfl⟩ := List.mem_map.mp hz
  exact join_so (by decide +kernel) fun z hz => nameOk_so ((hn cs hc).2.2.1 z hz)
theorem text_len {st : Str × List (List Str)} (h : okStep st) : (stepText (stD st)).length ≤ 102 := stepText_len (isStep_of h) (stOk_of h)
theorem lines_le {sts : List (Str × List (List Str))} (h : ∀ st ∈ sts, okStep st) : ((linesT sts).map (·.length)).sum + (linesT sts).length * ("\n" : Str).length ≤ 103 * sts.length ∧ (Txt.join "\n" (linesT sts)).length ≤ 103 * sts.length := by
  have h1 := sum_le (linesT sts) 102 fun z hz => by
    obtain ⟨st, hs, rfl⟩ := List.mem_map.mp hz
    exact text_len (h st hs)
  have h2 : (Txt.join "\n" (linesT sts)).length ≤ ((linesT sts).map (·.length)).sum + (linesT sts).length * ("\n" : Str).length := by rw [TL.join_eq]; exact StrLaws.join_length_le _ _
  have h3 : ("\n" : Str).length = 1 := rfl
  have h4 : (linesT sts).length = sts.length := List.length_map _
  rw [h3] at h2 ⊢
  rw [h4] at h1 h2 ⊢
  omega
theorem lines_so {sts : List (Str × List (List Str))} (h : ∀ st ∈ sts, okStep st) : PyData.strOk (Txt.join "\n" (linesT sts)) = true := join_so (by decide +kernel) fun z hz => by
  obtain ⟨st, hs, rfl⟩ := List.mem_map.mp hz
  exact text_so (h st hs)
theorem ne_same {x : Str} : (!decide (V.str x = V.str x)) = false := by rw [decide_eq_true rfl]; rfl
theorem Rp.extN {C : Addr} {A B : Hp} {d : D} {v : V} (e : ExtN A B) (h : Rp C A d v) : Rp C B d v := h.strip.mono fun a o k => e a o (strip_inv k).1 (strip_inv k).2
theorem toldD_lst (y : Str) : ∃ ds, toldD y = .lst ds ∧ ∀ d ∈ ds, dep 4 d := by
  unfold toldD
  cases pStep y with
  | some st =>
    refine ⟨_, rfl, fun d hd => ?_⟩
    rcases List.mem_cons.mp hd with h | h
    · rw [h]; exact True.intro
    · rw [List.mem_singleton.mp h]; exact dep_st st 3
  | none =>
    refine ⟨_, rfl, fun d hd => ?_⟩
    rcases List.mem_cons.mp hd with h | h
    · rw [h]; exact True.intro
    · rw [List.mem_singleton.mp h]; exact True.intro
/-- told != due gives False -/
theorem told_tail {C : Addr} {T : List (Addr × Str)} {tR : TS} {D : Ends} {σ : L2.St} {H : Hp} {y : Str} {dp : Addr} (h9 : σ[9]? = some (some (.str y))) (h10 : σ[10]? = some (some (.ref dp))) (so : PyData.strOk y = true) (yl : y.length ≤ 100000) (tb : Tabs T H) (rd : Rp C H (toldD y) (.ref dp))
    (k : ∀ H', ExtN H H' → Tabs T H' → D.nx σ H') : tIfS (tTest (tOp (rNeG (DList (DT C 4))) (tCall (spTold C T) [] C8.E0 (tCons (tVar 9) tNil)) (tVar 10))) tR tNext D σ H := by
  refine ⟨_, h9, y, rfl, so, yl, tb, fun o2 H15 H16 eN e16 t16 nw => ?_⟩
  have e : ExtN H H16 := fun a o h nt => e16 _ _ (eN a o h nt)
  obtain ⟨ds, e0, hd⟩ := toldD_lst y
  have r1 := nw.rp
  have r2 := rd.extN e
  rw [e0] at r1 r2
  exact ⟨_, h10, rp_lst hd r1 r2, fun H17 e17 => ⟨_, rfl, ifF rfl (k H17 (fun a o h nt => e17 _ _ (e a o h nt)) (t16.ext e17))⟩⟩
theorem dueD_lst (y : Str) : ∃ ds, dueD (pSteps y) = .lst ds ∧ ∀ d ∈ ds, dep 5 d := by
  cases pSteps y with
  | inl k =>
    refine ⟨_, rfl, fun d hd => ?_⟩
    rcases List.mem_cons.mp hd with h | h
    · rw [h]; exact True.intro
    · rw [List.mem_singleton.mp h]; exact True.intro
  | inr sts =>
    refine ⟨_, rfl, fun d hd => ?_⟩
    rcases List.mem_cons.mp hd with h | h
    · rw [h]; exact True.intro
    · rw [List.mem_singleton.mp h]; exact dep_sts sts 3
def spRight (T : List (Addr × Str)) : Sp := fun vs H Q _ => ∃ b, ∃ n m : Nat, vs = [.ref b, .int (m : Nat)] ∧ m ≤ 9 ∧ Bx H b n ∧ n ≤ 500000 ∧ Tabs T H ∧
  ∀ H', SameT b H H' → Bx H' b (n + 400) → Tabs T H' → Q (.bl true) H'
section
variable {P : Program} {w : World} {K : PySem.W.Frag} {mg : Str → Option Value} {base : Heap} {C CT CI CS : Addr}
theorem ok_right {f c P0 : Addr} {fd : FuncData} {T : List (Addr × Str)} (F : FunL K "_law_right" sRight f fd c) (G : CKt K mg) (CC : CatC K mg CT CI CS) (TX : Txt K mg C) (TB : TabB base mg c P0) (hm : (P0, ("_law_right.<locals>.<lambda>" : Str)) ∈ T) (hu : ∀ p ∈ T, p.1 = P0 → p.2 = "_law_right.<locals>.<lambda>")
    (FL : Fk P w K mg base C8.CX0 5 "_law_step" ["_law_box_here"] (spLStep C)) (FB : Fk P w K mg base C8.CX0 2 "_law_bent" ["_law_box_here", "_law_text"] spBent) (FR : Fk P w K mg base C8.CX0 5 "_law_read" ["_law_line"] (spRead C)) (FD : Fk P w K mg base C8.CX0 6 "_law_due" ["_law_text"] (spDue C)) (FO : Fk P w K mg base C8.CX0 9 "_law_step_told" ["_law_text"] (spTold C T))
    (FT : Fx P w K mg base (Out Z0 P w) 4 "step_text" ["step"] (spStepText C CS)) (FG : Fx P w K mg base (Out Z1 P w) 6 "parse_step" ["text"] (spParseStep C CT))
    (FS : Fx P w K mg base (Out Z0 P w) 5 "steps_text" ["steps"] (spStepsText C CS)) (FP : Fx P w K mg base (L2.CX P w) 7 "parse_steps" ["text"] (spParseSteps C CT CI)) (EO : ∀ X : Cx, X.prog = P → X.w = w → X.K = K → X.mg = mg → X.base = base → EqG X 2 (DIns C (EqO C))) :
    FnOk P w K mg base C8.CX0 11 f fd ["_law_box_here", "_law_many"] (spRight T) := by
  refine F.ok scRight (fun vs H Q E h => ?_) (fun A outer s H vs Q E hr h => ?_)
  · obtain ⟨b, n, m, rfl, _⟩ := h
    rfl
  · obtain ⟨b, n, m, rfl, hm9, hb, hn, ht, q⟩ := h
    have eo := EO (cxOf C8.CX0 P w K mg base nRight "_law_right" (defScope sRight) f (.ref c) A outer s H E).nox rfl rfl rfl rfl rfl
    refine ⟨_, pss_cons (ps_setLc (i := 2) (own := [("_law_lap", 5)]) (g := gName 5) (tt := tYes) rfl scRight.nd rfl rfl (sw_true rfl rfl rfl (by decide +kernel)) (pi_range1 (by rfl) TX.range (pa_cons (pv 1) pa_nil)) (blkOk_by (N := nRight) (sc := defScope sRight) (by decide +kernel)) (fun _ _ _ _ _ => pg_name (i := 5) scRight.nd rfl (Or.inl rfl)) (fun _ _ _ _ _ => pts_nil) (fun _ _ _ _ _ => pcall FL (hr.mono (by decide)) (pa_cons (pv 0) pa_nil)))
      (pss_cons (ps_par (i := 3) (j := 4) (by rfl) scRight.nd rfl rfl (by decide) rfl rfl (pa_cons
          (pe_lc (own := [("_law_step_here", 7), ("_law_line", 8)]) (g := gTup K 2 (gCons (gName 7) (gCons (gName 8) gNil))) (tt := tYes) rfl scRight.nd (pi_list (pv 2)) (blkOk_by (N := nRight) (sc := defScope sRight) (by decide +kernel)) (fun _ _ _ _ _ => pg_tup rfl (pgs_cons (pg_name (i := 7) scRight.nd rfl (Or.inl rfl)) (pgs_cons (pg_name (i := 8) scRight.nd rfl (Or.inl rfl)) pgs_nil))) (fun _ _ _ _ _ => pts_nil) (fun _ _ _ _ _ => pv 7)) (pa_cons
          (pe_lc (own := [("_law_step_here", 7), ("_law_line", 8)]) (g := gTup K 2 (gCons (gName 7) (gCons (gName 8) gNil))) (tt := tYes) rfl scRight.nd (pi_list (pv 2)) (blkOk_by (N := nRight) (sc := defScope sRight) (by decide +kernel)) (fun _ _ _ _ _ => pg_tup rfl (pgs_cons (pg_name (i := 7) scRight.nd rfl (Or.inl rfl)) (pgs_cons (pg_name (i := 8) scRight.nd rfl (Or.inl rfl)) pgs_nil))) (fun _ _ _ _ _ => pts_nil) (fun _ _ _ _ _ => pv 8)) pa_nil)) (by rfl))
      (pss_cons (ps_if (PW.pt (pw_or (pt_cmpR op_ne (xcall FS (hr.mono (by decide)) (fun _ => passF) (pa_cons (pv 3) pa_nil)) (pe_bm PySem.F.plainAttrs_str PySem.F.slot_str_join PySem.F.type_str_join mt_join pe_str (pa_cons (pv 4) pa_nil)) (nomark _))
            (pw_or1 (pt_cmpR op_ne (xcall FS (hr.mono (by decide)) (fun _ => passF) (pa_cons (pe_callTy call_tuple_of (by rfl) TX.tuple (by decide +kernel) (pa_cons (pv 3) pa_nil)) pa_nil)) (pe_bm PySem.F.plainAttrs_str PySem.F.slot_str_join PySem.F.type_str_join mt_join pe_str (pa_cons (pv 4) pa_nil)) (nomark _)))))
          (pss_one (ps_ret pe_bl)) pss_nil)
      (pss_cons (ps_for PassesOwn.never rfl (pi_range1 (by rfl) TX.range (pa_cons pe_int pa_nil)) (pg_name (i := 5) scRight.nd rfl (Or.inl rfl))
          (pss_cons (ps_set (i := 6) scRight.nd rfl (Or.inl rfl) (xcall FP (hr.mono (by decide)) (E := fun _ _ _ _ => False) (fun _ => fun _ _ _ _ _ _ c => by exact (let ⟨_, _, _, _, _, _, _, _, _, _, _, _, f⟩ := c; f.elim)) (pa_cons (pe_bm PySem.F.plainAttrs_str PySem.F.slot_str_join PySem.F.type_str_join mt_join pe_str (pa_cons (pv 4) pa_nil)) pa_nil)))
          (pss_cons (ps_if (pt_cmpR (op_neG (rnG_lst eo 2) (hr.mono (by decide))) (pv 6) (pv 3) (nomark _)) (pss_one (ps_ret pe_bl)) pss_nil)
          (pss_one (ps_expr (pe_bm PySem.F.plainAttrs_list PySem.F.slot_list_append PySem.F.type_list_append mt_append (pv 6) (pa_cons pe_str pa_nil)))))))
      (pss_cons (ps_for PassesOwn.never rfl (pi_list (pe_slice sl_list (pv 2) po_none (po_some pe_int))) (pg_tup rfl (pgs_cons (pg_name (i := 7) scRight.nd rfl (Or.inl rfl)) (pgs_cons (pg_name (i := 8) scRight.nd rfl (Or.inl rfl)) pgs_nil)))
          (pss_cons (ps_if (PW.pt (pw_or (pt_cmpR op_ne (xcall FT (hr.mono (by decide)) (fun _ => passF) (pa_cons (pv 7) pa_nil)) (pv 8) (nomark _))
              (pw_or1 (pt_cmpR (op_neG (rnG_tupl eo 1) (hr.mono (by decide))) (xcall FG (hr.mono (by decide)) (fun _ => passF) (pa_cons (pv 8) pa_nil)) (pv 7) (nomark _))))) (pss_one (ps_ret pe_bl)) pss_nil)
          (pss_cons (ps_set (i := 9) scRight.nd rfl (Or.inr rfl) (pcall FB (hr.mono (by decide)) (pa_cons (pv 0) (pa_cons (pv 8) pa_nil))))
          (pss_cons (ps_set (i := 10) scRight.nd rfl (Or.inl rfl) (pe_ifExp (pt_cmpR op_isN (pcall FR (hr.mono (by decide)) (pa_cons (pv 9) pa_nil)) pe_non (by rfl)) (pe_lst (pa_cons pe_str (pa_cons (pv 9) pa_nil))) (pe_lst (pa_cons pe_str (pa_cons (pcall FR (hr.mono (by decide)) (pa_cons (pv 9) pa_nil)) pa_nil)))))
          (pss_one (ps_if (pt_cmpR (op_neG (rnG_lst eo 4) (hr.mono (by decide))) (pcall FO (hr.mono (by decide)) (pa_cons (pv 9) pa_nil)) (pv 10) (nomark _)) (pss_one (ps_ret pe_bl)) pss_nil))))))
      (pss_cons (ps_set (i := 9) scRight.nd rfl (Or.inr rfl) (pcall FB (hr.mono (by decide)) (pa_cons (pv 0) (pa_cons (pe_bm PySem.F.plainAttrs_str PySem.F.slot_str_join PySem.F.type_str_join mt_join pe_str (pa_cons (pv 4) pa_nil)) pa_nil))))
      (pss_one (ps_ret (pe_cmpR (op_eqG (rcG_lst eo 5) (hr.mono (by decide))) (pe_caught (T := T) (k := 7) (t := fun E => tCallS (spParseSteps C CT CI) (fun _ => E) (tCons (tVar 9) tNil)) G CC TB rfl hm hu (hr.mono (by decide)) (lamS_by (sc := defScope sRight) (by decide +kernel)) (by rfl) (fun _ _ _ _ _ => by rfl)
          (fun A outer s H E f c' hr2 => xcall FP hr2 (fun σ => passLamX σ) (pa_cons (pv 9) pa_nil))) (pcall FD (hr.mono (by decide)) (pa_cons (pv 9) pa_nil)) (nomark _))))))))), ?_⟩
    have big : sizeLine = 16777216 := sizeLine_eq
    obtain ⟨ob, hob⟩ := hb.has
    refine ⟨_, rfl, (m : Int), rfl, (by omega), (by omega), fun L hL => ?_⟩
    have nbL : L ≠ b := fun z => by rw [z, hob] at hL; cases hL
    have hob0 : (upd H L (.lst [])) b = some ob := by rw [upd_ne nbL.symm]; exact hob
    refine lc_it (walk_range (lo := 0) (n := m)) (fun i H' => SameB b H H' ∧ Bx H' b (n + 40 * i) ∧ ∃ (sts : List (Str × List (List Str))) (bs : List V), sts.length = i ∧ (∀ st ∈ sts, okStep st) ∧ H' L = some (.lst bs) ∧ NwL C (upd H L (.lst [])) H' (sts.map lineD) bs) ⟨.same (Same.upd' (Same.refl H) hL), hb.same (Same.upd' (Same.refl H) hL), [], [], rfl, (fun z hz => absurd hz (by simp)), upd_same, .nil⟩ (fun _ _ _ _ => True.intro) (fun i x H1 H2 hi p y => ?_) fun H1 p => ?_
    · obtain ⟨rfl, rfl⟩ := y
      obtain ⟨sb, bx, sts, bs, hl, hok, hL1, nw⟩ := p
      refine ⟨rfl, _, rfl, b, n + 40 * i, rfl, bx, by omega, fun p st H3 sb3 bx3 ok3 nw3 => ?_⟩
      have lb := nw.rp.len
      rw [List.length_map] at lb
      have d0 : Dom (upd H L (.lst [])) H2 := fun a o h => by
        by_cases e : a = L
        · rw [e]; exact ⟨_, hL1⟩
        · rw [upd_ne e] at h
          by_cases e2 : a = b
          · rw [e2]; exact bx.has
          · exact ⟨_, sb _ _ e2 h⟩
      refine ⟨bs, sb3 _ _ nbL hL1, by omega, fun a u na hu => ?_, ?_, sts ++ [st], bs ++ [.ref p], by rw [List.length_append, hl]; rfl, fun z hz => (List.mem_append.mp hz).elim (hok z) fun h => by rw [List.mem_singleton.mp h]; exact ok3, upd_same, ?_⟩
      · rw [upd_ne (ne_of_none hu hL)]
        exact sb3 _ _ na (sb _ _ na hu)
      · obtain ⟨p', s', k', h', r'⟩ := bx3
        exact ⟨p', s', k', by rw [upd_ne nbL.symm]; exact h', by have := r'; omega⟩
      · rw [List.map_append]
        exact ((nw.sameB hob0 sb3).app (nw3.up d0).one).wr upd_same
    · obtain ⟨sb, bx, sts, bs, hl, hok, hL1, nw⟩ := p
      have ob1 : ∃ o, H1 b = some o := bx.has
      obtain ⟨Kf0, hKf0, fK, rK⟩ := nw
      have rKs : RpL C (strip Kf0) (sts.map lineD) bs := rK.strip
      have sKf : Sub (strip Kf0) H1 := fun a o k => hKf0 _ _ (strip_inv k).1
      have nKb : ∀ a o, strip Kf0 a = some o → a ≠ b := fun a o k z => by
        have := fK a o (strip_inv k).1
        rw [z, hob0] at this
        cases this
      have nKt : ∀ a o, strip Kf0 a = some o → ∀ ps, o ≠ .tbl ps := fun a o k => (strip_inv k).2
      generalize strip Kf0 = Kf at rKs sKf nKb nKt
      clear rK fK hKf0
      obtain ⟨svs, rS, gS⟩ := lineD_get rKs
      have lS := rS.len
      rw [List.length_map] at lS
      have lB := rKs.len
      rw [List.length_map] at lB
      -- the steps
      refine ⟨_, rfl, L, rfl, ⟨_, SqL.of hL1⟩, fun S hS => ?_⟩
      refine lc_flatY (walk_list (xs := bs)) (fun i => (svs[i]?).getD .non) (by omega) hS (fun H' e' => SqL.of (e' _ _ hL1)) gTup2_mono (fun i x H3 H3' hi e3 y => ?_) fun H2 e2 h2 => ?_
      · obtain ⟨rfl, hy⟩ := y
        obtain ⟨a, v, q1, q2, q3⟩ := gS i (by omega)
        have hy : bs[i]? = some x := hy
        rw [q1] at hy
        cases hy
        refine ⟨a, _, rfl, SqT.of (e3 _ _ (sKf _ _ q3)), rfl, _, _, rfl, _, _, rfl, rfl, rfl, fun N1 k => ⟨_, rfl, ?_⟩⟩
        have := k _ (Same.refl _)
        rw [q2] at this
        exact this
      · have eS : (List.range bs.length).map (fun i => (svs[i]?).getD V.non) = svs := by
          refine List.ext_getElem (by simp [lS, lB]) fun i h1 h2 => ?_
          simp [h2]
        rw [eS] at h2
        have hL2 := e2 _ _ hL1
        refine ⟨_, rfl, L, rfl, ⟨_, SqL.of hL2⟩, fun Ln hLn => ?_⟩
        refine lc_flatY (walk_list (xs := bs)) (fun i => .str (((sts.map fun st => stepText (stD st))[i]?).getD Str.empty)) (by omega) hLn (fun H' e' => SqL.of (e' _ _ hL2)) gTup2_mono (fun i x H3 H3' hi e3 y => ?_) fun H3 e3 h3 => ?_
        · obtain ⟨rfl, hy⟩ := y
          obtain ⟨a, v, q1, q2, q3⟩ := gS i (by omega)
          have hy : bs[i]? = some x := hy
          rw [q1] at hy
          cases hy
          refine ⟨a, _, rfl, SqT.of (e3 _ _ (e2 _ _ (sKf _ _ q3))), rfl, _, _, rfl, _, _, rfl, rfl, rfl, fun N1 k => ⟨_, rfl, ?_⟩⟩
          have := k _ (Same.refl _)
          have hi' : i < sts.length := by omega
          rw [List.getElem?_map, List.getElem?_eq_getElem hi'] at this
          exact this
        · have eL : (List.range bs.length).map (fun i => V.str (((sts.map fun st => stepText (stD st))[i]?).getD Str.empty)) = (linesT sts).map V.str := by
            refine List.ext_getElem (by simp [lB, linesT]) fun i h1 h2 => ?_
            have h : i < sts.length := by simpa [linesT] using h2
            simp [linesT, h]
          rw [eL] at h3
          refine ⟨_, _, rfl, ?_⟩
          have e13 : Same H1 H3 := e2.trans e3
          have sb3 : SameB b H H3 := sb.trans (.same e13)
          have bx3 : Bx H3 b (n + 40 * m) := bx.same e13
          have hS3 : H3 S = some (.lst svs) := e3 _ _ h2
          have hB3 : H3 L = some (.lst bs) := e13 _ _ hL1
          have sK3 : Sub Kf H3 := sKf.trans e13
          have hs0 : H S = none := by
            cases hh : H S with
            | none => rfl
            | some u =>
              by_cases e : S = b
              · obtain ⟨o, ho⟩ := ob1; rw [e, ho] at hS; cases hS
              · rw [sb _ _ e hh] at hS; cases hS
          clear e2 e3 hL2 hLn e13 sKf hL1
          let Iv : Nat → Hp → Prop := fun k H' => SameT b H H' ∧ Bx H' b k ∧ H' S = some (.lst svs) ∧ H' Ln = some (.lst ((linesT sts).map V.str)) ∧ H' L = some (.lst bs) ∧ Sub Kf H' ∧ Tabs T H'
          have ivE : ∀ {k : Nat} {A B : Hp}, Iv k A → ExtN A B → Tabs T B → Iv k B := fun {k A B} h e t => ⟨h.1.trans (.ofN e), h.2.1.extN e, e _ _ h.2.2.1 (fun _ z => nomatch z), e _ _ h.2.2.2.1 (fun _ z => nomatch z), e _ _ h.2.2.2.2.1 (fun _ z => nomatch z), fun a o k => e _ _ (h.2.2.2.2.2.1 a o k) (nKt a o k), t⟩
          have ivS : ∀ {k : Nat} {A B : Hp}, Iv k A → Same A B → Iv k B := fun {k A B} h e => ivE h (fun a o k _ => e a o k) (h.2.2.2.2.2.2.ext e)
          have neb : ∀ {k : Nat} {A : Hp} {a : Addr} {xs : List V}, Iv k A → (∀ m' s' k', xs ≠ [.int m', .int s', .int k']) → A a = some (.lst xs) → a ≠ b := fun {k A a xs} h hx ha z => by
            obtain ⟨m', s', k', h', _⟩ := h.2.1
            rw [z, h'] at ha
            injection ha with ha
            injection ha with ha
            exact hx _ _ _ ha.symm
          have nbS : S ≠ b := fun z => by
            obtain ⟨o, ho⟩ := ob1; rw [z, ho] at hS; cases hS
          have nbLn : Ln ≠ b := fun z => by
            have hk := bx3
            obtain ⟨m', s', k', h', _⟩ := hk
            rw [z, h'] at h3
            injection h3 with h3
            injection h3 with h3
            cases sts with
            | nil => cases h3
            | cons st r => cases h3
          have ivB : ∀ {k k' : Nat} {A B : Hp}, Iv k A → SameB b A B → Bx B b k' → Iv k' B := fun {k k' A B} h e bx => ⟨h.1.trans (.ofB e), bx, e _ _ nbS h.2.2.1, e _ _ nbLn h.2.2.2.1, e _ _ nbL h.2.2.2.2.1, fun a o k => e _ _ (nKb a o k) (h.2.2.2.2.2.1 a o k), Tabs.sameB h.2.2.2.2.2.2 h.2.1 e⟩
          have ivM : ∀ {k j : Nat} {A B : Hp} {p : Addr} {o u : HO}, Iv k A → A p = none → Iv j B → B p = some o → Wr o → Iv j (upd B p u) := fun {k j A B p o u} h hp x hB wr => by
            have nb : p ≠ b := fun z => by
              obtain ⟨o, ho⟩ := h.2.1.has
              rw [z, ho] at hp; cases hp
            refine ⟨fun a o na ha nt => ?_, ?_, ?_, ?_, ?_, fun a o ha => ?_, SO.Tabs.wr x.2.2.2.2.2.2 hB wr⟩
            · rw [upd_ne (ne_of_none (h.1 a o na ha nt) hp)]; exact x.1 a o na ha nt
            · obtain ⟨m', s', k', h', r'⟩ := x.2.1
              exact ⟨m', s', k', by rw [upd_ne nb.symm]; exact h', r'⟩
            · rw [upd_ne (ne_of_none h.2.2.1 hp)]; exact x.2.2.1
            · rw [upd_ne (ne_of_none h.2.2.2.1 hp)]; exact x.2.2.2.1
            · rw [upd_ne (ne_of_none h.2.2.2.2.1 hp)]; exact x.2.2.2.2.1
            · rw [upd_ne (ne_of_none (h.2.2.2.2.2.1 a o ha) hp)]; exact x.2.2.2.2.2.1 a o ha
          have rSt : ∀ {k : Nat} {A : Hp}, Iv k A → RpL C A (sts.map stD) svs := fun h => rS.mono h.2.2.2.2.2.1
          have iv3 : Iv (n + 40 * m) H3 := ⟨.ofB sb3, bx3, hS3, h3, hB3, sK3, Tabs.sameB ht hb sb3⟩
          have llen : (linesT sts).length = m := by rw [linesT, List.length_map, hl]
          obtain ⟨j1, j2⟩ := lines_le hok
          have lsum : ((linesT sts).map (·.length)).sum + (linesT sts).length * ("\n" : Str).length ≤ 16777216 := by omega
          have hokS : stepsOk (.lst (sts.map stD)) = true := stepsOk_of hok (by omega)
          have hokT : stepsOk (.tup (sts.map stD)) = true := stepsOk_tup hok (by omega)
          have hso : ∀ x ∈ sts.map stD, stOk x := fun x hx => by
            obtain ⟨st, hs, rfl⟩ := List.mem_map.mp hx
            exact stOk_of (hok st hs)
          refine ⟨_, rfl, _, .lst (sts.map stD), rfl, ⟨S, svs, rfl, hS3, rSt iv3⟩, hso, fun _ H4 e4 => ?_, fun z => nomatch (show true = false from hokS.symm.trans z)⟩
          rw [stepsText_of]
          have iv4 := ivS iv3 e4
          refine ⟨rfl, _, rfl, _, Ln, linesT sts, rfl, rfl, .inl (SqL.of iv4.2.2.2.1), lsum, rfl, _, rfl, ?_⟩
          refine ifF ne_same ?_
          refine ⟨_, rfl, S, svs, rfl, .inl ⟨SqL.of iv4.2.2.1, fun tp htp => ?_⟩⟩
          have iv5 := ivS iv4 (Same.upd' (Same.refl H4) htp (o := .tup svs))
          refine ⟨_, .tup (sts.map stD), rfl, ⟨tp, svs, rfl, upd_same, rSt iv5⟩, hso, fun _ H6 e6 => ?_, fun z => nomatch (show true = false from hokT.symm.trans z)⟩
          rw [show stepsText (.tup (sts.map stD)) = Txt.join nl (linesT sts) from stepsText_of sts]
          have iv6 := ivS iv5 e6
          refine ⟨rfl, _, rfl, _, Ln, linesT sts, rfl, rfl, .inl (SqL.of iv6.2.2.2.1), lsum, rfl, _, rfl, ?_⟩
          refine ifF ne_same ?_
          clear iv3 iv4 iv5 e4 e6 htp
          have el0 : ("\n" : Str) = nl := rfl
          have nli : ∀ {y : Str}, okStep (sBuild, [[y]]) → True := fun _ => True.intro
          -- twice read
          refine ⟨_, rfl, by decide, by decide, for_it (walk_range (lo := 0) (n := 2)) (fun i σ H' => ∃ lap fo, σ = [some (.ref b), some (.int (m : Nat)), some (.ref L), some (.ref S), some (.ref Ln), lap, fo, none, none, none, none] ∧ Iv (n + 40 * m) H') ⟨none, none, rfl, iv6⟩ (fun _ _ _ _ _ => True.intro) (fun i x σ H7 H7' hi p y => ?_) fun σ H7 p => ?_⟩
          · obtain ⟨lap, fo, rfl, iv7⟩ := p
            obtain ⟨rfl, rfl⟩ := y
            refine ⟨rfl, _, rfl, _, Ln, linesT sts, rfl, rfl, .inl (SqL.of iv7.2.2.2.1), lsum, ?_⟩
            refine ⟨_, .str (Txt.join "\n" (linesT sts)), rfl, rfl, (by show (Txt.join "\n" (linesT sts)).length ≤ 100000; omega), fun x sts' hx hp o ws5 H8 ho e8 hw8 nw8 => ?_, fun x k hx hp => ?_, fun z => nomatch (show true = false from z)⟩
            · cases hx
              rw [el0, pSteps_ok hok (by omega)] at hp
              cases hp
              have iv8 := ivS iv7 e8
              refine ⟨_, rfl, _, rfl, rp_lst (dep_sts sts 1) ⟨o, ws5, rfl, hw8, nw8.rp⟩ ⟨S, svs, rfl, iv8.2.2.1, rSt iv8⟩, fun H9 e9 => ⟨_, rfl, ifF rfl ?_⟩⟩
              have iv9 := ivS iv8 e9
              have hw9 := e9 _ _ hw8
              have lw := nw8.rp.len
              rw [List.length_map] at lw
              refine ⟨_, rfl, .inl ⟨rfl, _, SqL.of hw9⟩, o, ws5, _, rfl, rfl, hw9, by omega, some (.int (0 + (i : Nat))), some (.ref o), rfl, ivM iv7 ho iv9 hw9 True.intro⟩
            · cases hx
              rw [el0, pSteps_ok hok (by omega)] at hp
              cases hp
          · obtain ⟨lap, fo, rfl, iv7⟩ := p
            have cut : cutV bs none (some 6) = bs.take 6 := by
              unfold cutV
              rw [HT.sIx_none]
              have := HT.sIx_nat bs.length bs.length 6
              rw [show ((6 : Nat) : Int) = 6 from rfl] at this
              rw [this, List.drop_zero, Nat.sub_zero]
              by_cases h : 6 ≤ bs.length
              · rw [Nat.min_eq_left h]
              · rw [Nat.min_eq_right (by omega), List.take_length, List.take_of_length_le (by omega)]
            refine ⟨_, rfl, 6, rfl, L, bs, rfl, SqL.of iv7.2.2.2.2.1, fun p hp => ?_⟩
            rw [cut]
            have iv8 := ivS iv7 (Same.upd' (Same.refl H7) hp (o := .lst (bs.take 6)))
            have p8 : (upd H7 p (.lst (bs.take 6))) p = some (.lst (bs.take 6)) := upd_same
            have pnb : p ≠ b := fun z => by
              obtain ⟨o, ho⟩ := iv7.2.1.has
              rw [z, ho] at hp; cases hp
            generalize (upd H7 p (.lst (bs.take 6))) = H8 at iv8 p8 ⊢
            refine ⟨p, rfl, ⟨_, SqL.of p8⟩, for_it (walk_list (xs := bs.take 6)) (fun i σ H' => ∃ x5 x6 x7 x8 x9 x10, σ = [some (.ref b), some (.int (m : Nat)), some (.ref L), some (.ref S), some (.ref Ln), x5, x6, x7, x8, x9, x10] ∧ H' p = some (.lst (bs.take 6)) ∧ Iv (n + 40 * m + 5 * i) H') ⟨_, _, _, _, _, _, rfl, p8, iv8⟩ (fun _ _ _ _ h => let ⟨_, _, _, _, _, _, _, h, _⟩ := h; SqL.of h) (fun i x σ H9 H9' hi hq y => ?_) fun σ H9 hq => ?_⟩
            · obtain ⟨x5, x6, x7, x8, x9, x10, rfl, p9, iv9⟩ := hq
              obtain ⟨rfl, hy⟩ := y
              have hi6 : i < 6 ∧ i < sts.length := by rw [List.length_take] at hi; omega
              obtain ⟨hi6, his⟩ := hi6
              obtain ⟨a, v, q1, q2, q3⟩ := gS i his
              have hy : (bs.take 6)[i]? = some x := hy
              rw [List.getElem?_take_of_lt hi6, q1] at hy
              cases hy
              have hst : okStep sts[i] := hok _ (List.getElem_mem his)
              have rvK : Rp C Kf (stD sts[i]) v := by
                obtain ⟨v', w1, w2⟩ := rS.get (i := i) (d := stD sts[i]) (by rw [List.getElem?_map, List.getElem?_eq_getElem his]; rfl)
                rw [q2] at w1
                cases w1
                exact w2
              generalize sts[i] = st at hst q3 rvK ⊢
              have rv : ∀ {k : Nat} {A : Hp}, Iv k A → Rp C A (stD st) v := fun h => rvK.mono h.2.2.2.2.2.1
              have tl := text_len hst
              have is := isStep_of hst
              have h20 : n + 40 * m + 5 * i ≤ 700000 := by omega
              refine ⟨a, _, rfl, SqT.of (iv9.2.2.2.2.2.1 _ _ q3), rfl, _, _, rfl, _, _, rfl, rfl, ?_⟩
              -- step_text, parse_step
              refine ⟨_, rfl, v, stD st, rfl, rv iv9, stOk_of hst, fun _ H10 e10 => ?_, fun z => nomatch (show true = false from is.symm.trans z)⟩
              have iv10 := ivS iv9 e10
              refine ⟨_, rfl, rfl, _, rfl, ifF ne_same ?_⟩
              refine ⟨_, rfl, _, .str (stepText (stD st)), rfl, rfl, (by show (stepText (stD st)).length ≤ 100000; omega), fun st' hst' o H11 e11 nw11 => ?_, fun no => ?_⟩
              · have e0 : pStep (stepText (stD st)) = some st' := hst'
                rw [pStep_text hst] at e0
                cases e0
                have iv11 := ivS iv10 e11
                refine ⟨_, rfl, rp_tup (dep_st st 1) nw11.rp (rv iv11), fun H12 e12 => ⟨_, rfl, ifF rfl ?_⟩⟩
                have iv12 := ivS iv11 e12
                have p12 := e12 _ _ (e11 _ _ (e10 _ _ p9))
                refine ⟨_, rfl, _, rfl, b, _, n + 40 * m + 5 * i, rfl, iv12.2.1, by omega, text_so hst, by omega, fun y H13 sb13 bx13 bok => ?_⟩
                have iv13 := ivB iv12 sb13 bx13
                have p13 := sb13 _ _ pnb p12
                obtain ⟨yso, yl⟩ := bok
                have yl2 : y.length ≤ 100000 := by omega
                -- what is due
                refine ⟨_, rfl, y, rfl, yso, yl2, fun st2 hst2 o2 H14 e14 nw14 => ?_, fun hno H14 e14 => ?_⟩
                · refine ⟨rfl, _, rfl, ifF rfl ?_⟩
                  have iv14 := ivS iv13 e14
                  refine ⟨_, rfl, y, rfl, yso, yl2, fun st3 hst3 o3 H15 e15 nw15 => ?_, fun hno => ?_⟩
                  · refine ⟨(by show 2 ≤ sizeLine; omega), fun dp hdp => ?_⟩
                    have e0 : pStep y = some st3 := by rw [← read_eq]; exact hst3
                    have iv15 := ivS iv14 e15
                    have p15 := e15 _ _ (e14 _ _ p13)
                    have s16 : Same H15 (upd H15 dp (.lst [.str "told", .ref o3])) := Same.upd' (Same.refl _) hdp
                    have q16 : (upd H15 dp (.lst [.str "told", .ref o3])) dp = some (.lst [.str "told", .ref o3]) := upd_same
                    generalize (upd H15 dp (.lst [.str "told", .ref o3])) = H16 at s16 q16 ⊢
                    have iv16 := ivS iv15 s16
                    refine told_tail (dp := dp) (y := y) rfl rfl yso yl2 iv16.2.2.2.2.2.2 ?_ fun H17 e17 t17 => ?_
                    · unfold toldD
                      rw [e0]
                      exact ⟨dp, _, rfl, q16, _, _, rfl, rfl, _, _, rfl, nw15.rp.mono s16, rfl⟩
                    · exact ⟨_, _, _, _, _, _, rfl, e17 _ _ (s16 _ _ p15) (fun _ z => nomatch z), ivE iv16 e17 t17⟩
                  · rw [hst2] at hno
                    cases hno
                · refine ⟨rfl, _, rfl, ifT rfl ?_⟩
                  have iv14 := ivS iv13 e14
                  have e0 : pStep y = none := by rw [← read_eq]; exact hno
                  refine ⟨_, rfl, (by show 2 ≤ sizeLine; omega), fun dp hdp => ?_⟩
                  have p15 := e14 _ _ p13
                  have s16 : Same H14 (upd H14 dp (.lst [.str "text", .str y])) := Same.upd' (Same.refl _) hdp
                  have q16 : (upd H14 dp (.lst [.str "text", .str y])) dp = some (.lst [.str "text", .str y]) := upd_same
                  generalize (upd H14 dp (.lst [.str "text", .str y])) = H16 at s16 q16 ⊢
                  have iv16 := ivS iv14 s16
                  refine told_tail (dp := dp) (y := y) rfl rfl yso yl2 iv16.2.2.2.2.2.2 ?_ fun H17 e17 t17 => ?_
                  · unfold toldD
                    rw [e0]
                    exact ⟨dp, _, rfl, q16, _, _, rfl, rfl, _, _, rfl, rfl, rfl⟩
                  · exact ⟨_, _, _, _, _, _, rfl, e17 _ _ (s16 _ _ p15) (fun _ z => nomatch z), ivE iv16 e17 t17⟩
              · rw [show pStepD (.str (stepText (stD st))) = some st from pStep_text hst] at no
                cases no
            · obtain ⟨x5, x6, x7, x8, x9, x10, rfl, p9, iv9⟩ := hq
              have l6 : (bs.take 6).length ≤ 6 := by rw [List.length_take]; omega
              refine ⟨_, rfl, rfl, _, rfl, _, Ln, linesT sts, rfl, rfl, .inl (SqL.of iv9.2.2.2.1), lsum, b, _, n + 40 * m + 5 * (bs.take 6).length, rfl, iv9.2.1, by omega, lines_so hok, by omega, fun y H10 sb10 bx10 bok => ?_⟩
              have iv10 := ivB iv9 sb10 bx10
              obtain ⟨yso, yl⟩ := bok
              have yl2 : y.length ≤ 100000 := by omega
              refine ⟨iv10.2.2.2.2.2.2, fun H11 eN11 t11 => ?_⟩
              have iv11 := ivE iv10 eN11 t11
              have rest : ∀ (o : Addr) (H12 : Hp), Same H11 H12 → Rp C H12 (dueD (pSteps y)) (.ref o) → ∃ v, [some (V.ref b), some (.int (m : Nat)), some (.ref L), some (.ref S), some (.ref Ln), x5, x6, x7, x8, some (.str y), x10][9]? = some (some v) ∧ spDue C [v] H12 (fun y H2 => rEqG (DList (DT C 5)) (V.ref o) y H2 Q) C8.E0 := fun o H12 e12 r12 => by
                have iv12 := ivS iv11 e12
                refine ⟨_, rfl, y, rfl, yso, yl2, fun o2 H13 e13 nw13 => ?_⟩
                have r2 := nw13.rp
                rw [readL_pStep] at r2
                have r2 : Rp C H13 (dueD (pSteps y)) (.ref o2) := r2
                have r1 := r12.mono e13
                obtain ⟨ds, e0, hd⟩ := dueD_lst y
                rw [e0] at r1 r2
                refine ⟨rp_lst hd r1 r2, fun H14 e14 => ?_⟩
                have iv14 := ivS (ivS iv12 e13) e14
                exact q H14 iv14.1 (iv14.2.1.more (by omega)) iv14.2.2.2.2.2.2
              refine ⟨_, rfl, _, .str y, rfl, rfl, yl2, fun x sts' hx hp o ws5 H12 ho e12 hw12 nw12 => ⟨(by show 2 ≤ sizeLine; omega), fun o1 ho1 => ?_⟩, fun x k hx hp dd H12 hdd e12 h12 => .inr (.inl ⟨rfl, dd, _, rfl, h12, fun o1 ho1 => ?_⟩), fun z => nomatch (show true = false from z)⟩
              · cases hx
                have s : Same H12 (upd H12 o1 (.lst [.str "told", .ref o])) := Same.upd' (Same.refl _) ho1
                refine rest o1 _ (Same.trans e12 s) ?_
                rw [hp]
                exact ⟨o1, _, rfl, upd_same, _, _, rfl, rfl, _, _, rfl, ⟨o, ws5, rfl, s _ _ hw12, nw12.rp.mono s⟩, rfl⟩
              · cases hx
                have s : Same H12 (upd H12 o1 (.lst [.str "line", .int (k : Nat)])) := Same.upd' (Same.refl _) ho1
                refine rest o1 _ (Same.trans e12 s) ?_
                rw [hp]
                exact ⟨o1, _, rfl, upd_same, _, _, rfl, rfl, _, _, rfl, rfl, rfl⟩
end
end SO
end
section
/-! k78, part Q6: _law_refused_right -/
set_option maxHeartbeats 4000000
namespace SO
open PySem PySem.Spec PyProof.Rows L2 LamX XF

abbrev sRefused : Stmt := topS 48
abbrev nRefused : List Str := ["_law_box_here", "_law_step_here", "_law_line", "_law_order", "_law_some", "_law_thing", "_law_more", "_law_found", "_law_odd", "_law_due_here", "_law_good", "_law_one"]
theorem scRefused : FnScope nRefused ["_law_box_here"] (defScope sRefused) := ⟨rfl, rfl, rfl, by decide +kernel, rfl, by decide +kernel, by decide +kernel⟩
theorem FunL.okG {P : Program} {w : World} {K : PySem.W.Frag} {mg : Str → Option Value} {base : Heap} {x : Str} {st : Stmt} {f c : Addr} {fd : FuncData} {N ps : List Str} {k : Nat} {sp : SpG} (F : FunL K x st f fd c) (S : FnScope N ps (defScope st)) (len : ∀ A vs H Q E, sp A vs H Q E → vs.length = ps.length)
    (hbody : ∀ (A : Around) (outer : List Env) (s : Shared) (H : Hp) (vs : List V) (Q : VK) (E : XK), Room k (A.deeper (envOfC x (defScope st) s.heap.objs.size f (.ref c))) → sp A vs H Q E →
      ∃ t, PSs (cxOf C8.CX0 P w K mg base N x (defScope st) f (.ref c) A outer s H E).nox (defBody st) t ∧ t { nx := fun _ H' => Q .non H', rt := Q } (L2.start N vs) H) : FnG P w K mg base C8.CX0 (k + 1) f fd ps sp := by
  obtain ⟨oc, od, kV, doc, pm, an, ct, osl, rfl, lk, hcd⟩ := F.ex
  refine fnG_of lk hcd S len fun A outer s H vs Q E hr hsp => ?_
  obtain ⟨t, h, q⟩ := hbody A outer s H vs Q E hr hsp
  exact ⟨t, h.nox, q⟩
def spRefused (T : List (Addr × Str)) : SpG := fun A vs H Q _ => ∃ b, ∃ n : Nat, vs = [.ref b] ∧ A.guards = some [] ∧ Bx H b n ∧ n ≤ 600000 ∧ Tabs T H ∧
  ∀ H', SameT b H H' → Bx H' b (n + 50) → Tabs T H' → Q (.bl true) H'
section
variable {P : Program} {w : World} {K : PySem.W.Frag} {mg : Str → Option Value} {base : Heap} {C CT CI CS : Addr}
theorem ok_refused {f c P0 : Addr} {fd : FuncData} {T : List (Addr × Str)} (F : FunL K "_law_refused_right" sRefused f fd c) (G : CKt K mg) (CC : CatC K mg CT CI CS) (TX : Txt K mg C) (IC : IsC K C) (TB : TabB base mg c P0) (hm : (P0, ("_law_refused_right.<locals>.<lambda>" : Str)) ∈ T) (hu : ∀ p ∈ T, p.1 = P0 → p.2 = "_law_refused_right.<locals>.<lambda>")
    (FL : Fk P w K mg base C8.CX0 5 "_law_step" ["_law_box_here"] (spLStep C)) (FK : Fk P w K mg base C8.CX0 1 "_law_take" ["_law_box_here", "_law_many"] spTake)
    (FT : Fx P w K mg base (Out Z0 P w) 4 "step_text" ["step"] (spStepText C CS)) (FG : Fx P w K mg base (Out Z1 P w) 6 "parse_step" ["text"] (spParseStep C CT))
    (FS : Fx P w K mg base (Out Z0 P w) 5 "steps_text" ["steps"] (spStepsText C CS)) (FP : Fx P w K mg base (L2.CX P w) 7 "parse_steps" ["text"] (spParseSteps C CT CI))
    (RO : ∀ X : Cx, X.prog = P → X.w = w → X.K = K → X.mg = mg → X.base = base → ∀ cs, RepT X C 2 (.ord cs)) :
    FnG P w K mg base C8.CX0 11 f fd ["_law_box_here"] (spRefused T) := by
  refine F.okG scRefused (fun A vs H Q E h => ?_) (fun A outer s H vs Q E hr h => ?_)
  · obtain ⟨b, n, rfl, _⟩ := h
    rfl
  · obtain ⟨b, n, rfl, hg, hb, hn, ht, q⟩ := h
    have ro := RO (cxOf C8.CX0 P w K mg base nRefused "_law_refused_right" (defScope sRefused) f (.ref c) A outer s H E).nox rfl rfl rfl rfl rfl
    have cr := call_reprL (m := 5) ro (by decide) (hr.mono (show 9 ≤ 10 by decide))
    refine ⟨_, pss_cons (ps_asg (pcall FL (hr.mono (by decide)) (pa_cons (pv 0) pa_nil)) (pg_tup rfl (pgs_cons (pg_name (i := 1) scRefused.nd rfl (Or.inl rfl)) (pgs_cons (pg_name (i := 2) scRefused.nd rfl (Or.inl rfl)) pgs_nil))))
      (pss_cons (ps_set (i := 3) scRefused.nd rfl (Or.inl rfl) (pe_ix ix_tup (pv 1) pe_int (fun _ _ => rfl)))
      (pss_cons (ps_set (i := 4) scRefused.nd rfl (Or.inl rfl) (pe_lst (pa_cons pe_non (pa_cons pe_str (pa_cons pe_int (pa_cons (pe_tup (pa_cons pe_str pa_nil)) (pa_cons (pe_tup (pa_cons pe_str (pa_cons (pv 3) (pa_cons (pv 3) pa_nil)))) (pa_cons (pe_tup (pa_cons pe_str (pa_cons (pv 3) pa_nil)))
          (pa_cons (pe_tup (pa_cons pe_str (pa_cons pe_str pa_nil))) (pa_cons (pe_tup (pa_cons pe_str (pa_cons (pv 3) pa_nil))) (pa_cons (pe_lst (pa_cons pe_str (pa_cons (pv 3) pa_nil))) (pa_cons (pe_tup (pa_cons (pv 3) (pa_cons pe_str pa_nil))) (pa_cons (pe_tup (pa_cons pe_str (pa_cons (pv 3) (pa_cons pe_str pa_nil))))
          (pa_cons (pe_tup (pa_cons pe_non (pa_cons (pv 3) pa_nil))) (pa_cons (pe_tup pa_nil) pa_nil)))))))))))))))
      (pss_cons (ps_set (i := 5) scRefused.nd rfl (Or.inr rfl) (pe_ix ix_list (pv 4) (pcall FK (hr.mono (by decide)) (pa_cons (pv 0) (pa_cons pe_int pa_nil))) (fun _ _ => rfl)))
      (pss_cons (ps_set (i := 6) scRefused.nd rfl (Or.inr rfl) (pe_ix ix_list (pe_lst (pa_cons pe_non (pa_cons pe_int (pa_cons pe_dnewK (pa_cons (pe_lst (pa_cons (pv 1) (pa_cons (pv 5) pa_nil))) (pa_cons (pe_op op_rep (pe_lst (pa_cons (pv 1) pa_nil)) pe_int) (pa_cons (pv 2) (pa_cons (pe_tup (pa_cons (pv 1) (pa_cons (pe_lst pa_nil) pa_nil))) pa_nil))))))))
          (pcall FK (hr.mono (by decide)) (pa_cons (pv 0) (pa_cons pe_int pa_nil))) (fun _ _ => rfl)))
      (pss_cons (ps_set (i := 7) scRefused.nd rfl (Or.inl rfl) (pe_lst (pa_cons (pe_caught (T := T) (k := 7) (t := fun E => tCallS (spStepText C CS) (fun _ => E) (tCons (tVar 5) tNil)) G CC TB rfl hm hu (hr.mono (by decide)) (lamS_by (sc := defScope sRefused) (by decide +kernel)) (by rfl) (fun _ _ _ _ _ => by rfl)
          (fun A outer s H E f c' hr2 => xcall FT (hr2.mono (by decide)) (fun σ => passLam Z0.ok σ) (pa_cons (pv 5) pa_nil))) pa_nil)))
      (pss_cons (ps_expr (pe_bm PySem.F.plainAttrs_list PySem.F.slot_list_append PySem.F.type_list_append mt_append (pv 7) (pa_cons (pe_caught (T := T) (k := 7) (t := fun E => tCallS (spStepsText C CS) (fun _ => E) (tCons (tVar 6) tNil)) G CC TB rfl hm hu (hr.mono (by decide)) (lamS_by (sc := defScope sRefused) (by decide +kernel)) (by rfl) (fun _ _ _ _ _ => by rfl)
          (fun A outer s H E f c' hr2 => xcall FS (hr2.mono (by decide)) (fun σ => passLam Z0.ok σ) (pa_cons (pv 6) pa_nil))) pa_nil)))
      (pss_cons (ps_set (i := 8) scRefused.nd rfl (Or.inr rfl) (pe_ix ix_list (pe_lst (pa_cons pe_non (pa_cons pe_int (pa_cons (pe_lst (pa_cons pe_str pa_nil)) (pa_cons (pe_tup (pa_cons pe_str pa_nil)) (pa_cons pe_dnewK pa_nil)))))) (pcall FK (hr.mono (by decide)) (pa_cons (pv 0) (pa_cons pe_int pa_nil))) (fun _ _ => rfl)))
      (pss_cons (ps_expr (pe_bm PySem.F.plainAttrs_list PySem.F.slot_list_append PySem.F.type_list_append mt_append (pv 7) (pa_cons (pe_caught (T := T) (k := 7) (t := fun E => tCallS (spParseStep C CT) (fun _ => E) (tCons (tVar 8) tNil)) G CC TB rfl hm hu (hr.mono (by decide)) (lamS_by (sc := defScope sRefused) (by decide +kernel)) (by rfl) (fun _ _ _ _ _ => by rfl)
          (fun A outer s H E f c' hr2 => xcall FG (hr2.mono (by decide)) (fun σ => passLam Z1.ok σ) (pa_cons (pv 8) pa_nil))) pa_nil)))
      (pss_cons (ps_expr (pe_bm PySem.F.plainAttrs_list PySem.F.slot_list_append PySem.F.type_list_append mt_append (pv 7) (pa_cons (pe_caught (T := T) (k := 7) (t := fun E => tCallS (spParseSteps C CT CI) (fun _ => E) (tCons (tVar 8) tNil)) G CC TB rfl hm hu (hr.mono (by decide)) (lamS_by (sc := defScope sRefused) (by decide +kernel)) (by rfl) (fun _ _ _ _ _ => by rfl)
          (fun A outer s H E f c' hr2 => xcall FP (hr2.mono (by decide)) (fun σ => passLamX σ) (pa_cons (pv 8) pa_nil))) pa_nil)))
      (pss_cons (ps_set (i := 9) scRefused.nd rfl (Or.inl rfl) (pe_lst (pa_cons (pe_lst (pa_cons pe_str (pa_cons (pv 5) pa_nil))) (pa_cons (pe_lst (pa_cons pe_str (pa_cons (pv 6) pa_nil))) (pa_cons (pe_lst (pa_cons pe_str (pa_cons (pv 8) pa_nil))) (pa_cons (pe_lst (pa_cons pe_str (pa_cons (pv 8) pa_nil))) pa_nil))))))
      (pss_cons (ps_set (i := 10) scRefused.nd rfl (Or.inl rfl) (pe_cmpR op_eq (pe_callB cr (by rfl) TX.repr (by decide +kernel) (pa_cons (pv 7) pa_nil)) (pe_callB cr (by rfl) TX.repr (by decide +kernel) (pa_cons (pv 9) pa_nil)) (nomark _)))
      (pss_cons (ps_for PassesOwn.never rfl (pi_list (pe_lst (pa_cons (pv 5) (pa_cons (pv 6) (pa_cons (pv 8) pa_nil))))) (pg_name (i := 11) scRefused.nd rfl (Or.inl rfl))
          (pss_one (ps_if (pt_val (pe_callB call_isi (by rfl) TX.isinstance PyProof.Rows.boot_isinstance (pa_cons (pv 11) (pa_cons (pe_bltn (v := .ty "list") (by rfl) TX.list (by decide +kernel) rfl) pa_nil))))
            (pss_one (ps_expr (pe_bm PySem.F.plainAttrs_list PySem.F.slot_list_append PySem.F.type_list_append mt_append (pv 11) (pa_cons pe_str pa_nil)))) pss_nil)))
      (pss_one (ps_ret (pe_and (pv 10) (pe_one (pe_cmpR op_eq (pe_callB cr (by rfl) TX.repr (by decide +kernel) (pa_cons (pv 7) pa_nil)) (pe_callB cr (by rfl) TX.repr (by decide +kernel) (pa_cons (pv 9) pa_nil)) (nomark _)))))))))))))))))), ?_⟩
    have zk : ∀ k : Nat, k ≤ 1000 → k ≤ sizeLine := fun k h => by have := sizeLine_eq; omega
    have b40 : n + 40 ≤ 1000000 := by omega
    have b41 : n + 40 + 1 ≤ 1000000 := by omega
    have b42 : n + 40 + 1 + 1 ≤ 1000000 := by omega
    have b50 : n + 40 + 1 + 1 + 1 ≤ n + 50 := by omega
    obtain ⟨ob, hob, hobt⟩ : ∃ ob, H b = some ob ∧ ∀ ps, ob ≠ .tbl ps := by obtain ⟨m', s', k', h', _⟩ := hb; exact ⟨_, h', fun _ z => nomatch z⟩
    let Hs : Hp := strip H
    have hobs : Hs b = some ob := strip_of hob hobt
    let Iv : Nat → Hp → Prop := fun k A => SameT b H A ∧ Bx A b k ∧ Tabs T A
    have ivE : ∀ {k : Nat} {A B : Hp}, Iv k A → ExtN A B → Tabs T B → Iv k B := fun h e t => ⟨h.1.trans (.ofN e), h.2.1.extN e, t⟩
    have ivS : ∀ {k : Nat} {A B : Hp}, Iv k A → Same A B → Iv k B := fun h e => ⟨h.1.trans (.same e), h.2.1.same e, h.2.2.ext e⟩
    have ivB : ∀ {k k2 : Nat} {A B : Hp}, Iv k A → SameB b A B → Bx B b k2 → Iv k2 B := fun h e x => ⟨h.1.trans (.ofB e), x, Tabs.sameB h.2.2 h.2.1 e⟩
    have domS : ∀ {k : Nat} {A : Hp}, Iv k A → Dom Hs A := fun {k A} h a o ha => by
      obtain ⟨h1, h2⟩ := strip_inv ha
      by_cases z : a = b
      · rw [z]; exact h.2.1.has
      · exact ⟨o, h.1 a o z h1 h2⟩
    have ivN : ∀ {k : Nat} {A : Hp} {a : Addr}, Iv k A → A a = none → a ≠ b := fun {k A a} h ha z => by
      obtain ⟨o, ho⟩ := h.2.1.has
      rw [z, ho] at ha; cases ha
    refine ⟨_, rfl, b, n, rfl, hb, by omega, fun p st G0 sb0 bx0 hst nw0 => ?_⟩
    have iv : Iv (n + 40) G0 := ⟨.ofB sb0, bx0, Tabs.sameB ht hb sb0⟩
    obtain ⟨K0, s0, n0, p', xs0, z0, hp0, sv, r1, rfl, rsv, y0, r2, rfl, hy0, e0⟩ := nw0
    cases z0
    obtain rfl : r2 = [] := e0
    obtain rfl : y0 = .str (stepText (stD st)) := hy0
    have n0s : ∀ a o, K0 a = some o → Hs a = none := fun a o h => by
      cases z : Hs a with
      | none => rfl
      | some u => have := n0 a o h; rw [(strip_inv z).1] at this; cases this
    have kS : Nw C Hs G0 (stD st) sv := ⟨K0, s0, n0s, rsv⟩
    obtain ⟨o, os, est⟩ : ∃ o os, st.2 = o :: os := by
      rcases hst.1 with ⟨h1, _⟩ | ⟨h1, _⟩
      · cases e : st.2 with | nil => rw [e] at h1; cases h1 | cons a r => exact ⟨a, r, rfl⟩
      · cases e : st.2 with | nil => rw [e] at h1; cases h1 | cons a r => exact ⟨a, r, rfl⟩
    have ho : namesOk o := hst.2 o (by rw [est]; exact List.mem_cons_self)
    have rsv' : Rp C K0 (.tup (.str st.1 :: .ord o :: os.map D.ord)) sv := by have := rsv; unfold stD at this; rw [est] at this; exact this
    obtain ⟨sa, svs, rfl, hsa, w0, r3, rfl, hw0, vo, r4, rfl, ro, _⟩ := rsv'
    have kO : Nw C Hs G0 (.ord o) vo := ⟨K0, s0, n0s, ro⟩
    have q_sa := s0 _ _ hsa
    have n_sa : sa ≠ b := fun z => by have := n0s _ _ hsa; rw [z, hobs] at this; cases this
    refine ⟨p, _, rfl, SqT.of (s0 _ _ hp0), rfl, _, _, rfl, _, _, rfl, rfl, ?_⟩
    have tl := text_len hst
    have okt := th_ok ho
    refine ⟨_, rfl, sa, _, _, vo, rfl, rfl, SqT.of q_sa, atI_nat (j := 1) rfl, ?_⟩
    refine ⟨(zk 1 (by decide)), fun p3 h_p3 => ?_⟩
    have f_p3 : Hs p3 = none := (domS iv).free h_p3
    have n_p3 : p3 ≠ b := ivN iv h_p3
    have s_p3 : Same G0 (upd G0 p3 (.tup [.str "build"])) := Same.upd' (Same.refl _) h_p3
    have q_p3 : (upd G0 p3 (.tup [.str "build"])) p3 = some (.tup [.str "build"]) := upd_same
    have k_p3 : Nw C Hs (upd G0 p3 (.tup [.str "build"])) (.tup [.str "build"]) (.ref p3) := NwL.tup ((Nw.flat (d := .str "build") rfl).one) h_p3 f_p3
    generalize (upd G0 p3 (.tup [.str "build"])) = G1 at s_p3 q_p3 k_p3 ⊢
    have q_sa := s_p3 _ _ q_sa
    have kS := kS.same s_p3
    have kO := kO.same s_p3
    have iv := ivS iv s_p3
    refine ⟨_, rfl, _, rfl, (zk 3 (by decide)), fun p4 h_p4 => ?_⟩
    have f_p4 : Hs p4 = none := (domS iv).free h_p4
    have n_p4 : p4 ≠ b := ivN iv h_p4
    have s_p4 : Same G1 (upd G1 p4 (.tup [.str "build", vo, vo])) := Same.upd' (Same.refl _) h_p4
    have q_p4 : (upd G1 p4 (.tup [.str "build", vo, vo])) p4 = some (.tup [.str "build", vo, vo]) := upd_same
    have k_p4 : Nw C Hs (upd G1 p4 (.tup [.str "build", vo, vo])) (.tup [.str "build", .ord o, .ord o]) (.ref p4) := NwL.tup ((Nw.flat (d := .str "build") rfl).one.app (kO.one.app (kO.one))) h_p4 f_p4
    generalize (upd G1 p4 (.tup [.str "build", vo, vo])) = G2 at s_p4 q_p4 k_p4 ⊢
    have q_sa := s_p4 _ _ q_sa
    have q_p3 := s_p4 _ _ q_p3
    have kS := kS.same s_p4
    have kO := kO.same s_p4
    have k_p3 := k_p3.same s_p4
    have iv := ivS iv s_p4
    refine ⟨_, rfl, (zk 2 (by decide)), fun p5 h_p5 => ?_⟩
    have f_p5 : Hs p5 = none := (domS iv).free h_p5
    have n_p5 : p5 ≠ b := ivN iv h_p5
    have s_p5 : Same G2 (upd G2 p5 (.tup [.str "relay", vo])) := Same.upd' (Same.refl _) h_p5
    have q_p5 : (upd G2 p5 (.tup [.str "relay", vo])) p5 = some (.tup [.str "relay", vo]) := upd_same
    have k_p5 : Nw C Hs (upd G2 p5 (.tup [.str "relay", vo])) (.tup [.str "relay", .ord o]) (.ref p5) := NwL.tup ((Nw.flat (d := .str "relay") rfl).one.app (kO.one)) h_p5 f_p5
    generalize (upd G2 p5 (.tup [.str "relay", vo])) = G3 at s_p5 q_p5 k_p5 ⊢
    have q_sa := s_p5 _ _ q_sa
    have q_p3 := s_p5 _ _ q_p3
    have q_p4 := s_p5 _ _ q_p4
    have kS := kS.same s_p5
    have kO := kO.same s_p5
    have k_p3 := k_p3.same s_p5
    have k_p4 := k_p4.same s_p5
    have iv := ivS iv s_p5
    refine ⟨(zk 2 (by decide)), fun p6 h_p6 => ?_⟩
    have f_p6 : Hs p6 = none := (domS iv).free h_p6
    have n_p6 : p6 ≠ b := ivN iv h_p6
    have s_p6 : Same G3 (upd G3 p6 (.tup [.str "drop", .str "a"])) := Same.upd' (Same.refl _) h_p6
    have q_p6 : (upd G3 p6 (.tup [.str "drop", .str "a"])) p6 = some (.tup [.str "drop", .str "a"]) := upd_same
    have k_p6 : Nw C Hs (upd G3 p6 (.tup [.str "drop", .str "a"])) (.tup [.str "drop", .str "a"]) (.ref p6) := NwL.tup ((Nw.flat (d := .str "drop") rfl).one.app ((Nw.flat (d := .str "a") rfl).one)) h_p6 f_p6
    generalize (upd G3 p6 (.tup [.str "drop", .str "a"])) = G4 at s_p6 q_p6 k_p6 ⊢
    have q_sa := s_p6 _ _ q_sa
    have q_p3 := s_p6 _ _ q_p3
    have q_p4 := s_p6 _ _ q_p4
    have q_p5 := s_p6 _ _ q_p5
    have kS := kS.same s_p6
    have kO := kO.same s_p6
    have k_p3 := k_p3.same s_p6
    have k_p4 := k_p4.same s_p6
    have k_p5 := k_p5.same s_p6
    have iv := ivS iv s_p6
    refine ⟨_, rfl, (zk 2 (by decide)), fun p7 h_p7 => ?_⟩
    have f_p7 : Hs p7 = none := (domS iv).free h_p7
    have n_p7 : p7 ≠ b := ivN iv h_p7
    have s_p7 : Same G4 (upd G4 p7 (.tup [.str "Build", vo])) := Same.upd' (Same.refl _) h_p7
    have q_p7 : (upd G4 p7 (.tup [.str "Build", vo])) p7 = some (.tup [.str "Build", vo]) := upd_same
    have k_p7 : Nw C Hs (upd G4 p7 (.tup [.str "Build", vo])) (.tup [.str "Build", .ord o]) (.ref p7) := NwL.tup ((Nw.flat (d := .str "Build") rfl).one.app (kO.one)) h_p7 f_p7
    generalize (upd G4 p7 (.tup [.str "Build", vo])) = G5 at s_p7 q_p7 k_p7 ⊢
    have q_sa := s_p7 _ _ q_sa
    have q_p3 := s_p7 _ _ q_p3
    have q_p4 := s_p7 _ _ q_p4
    have q_p5 := s_p7 _ _ q_p5
    have q_p6 := s_p7 _ _ q_p6
    have kS := kS.same s_p7
    have kO := kO.same s_p7
    have k_p3 := k_p3.same s_p7
    have k_p4 := k_p4.same s_p7
    have k_p5 := k_p5.same s_p7
    have k_p6 := k_p6.same s_p7
    have iv := ivS iv s_p7
    refine ⟨_, rfl, (zk 2 (by decide)), fun p8 h_p8 => ?_⟩
    have f_p8 : Hs p8 = none := (domS iv).free h_p8
    have n_p8 : p8 ≠ b := ivN iv h_p8
    have s_p8 : Same G5 (upd G5 p8 (.lst [.str "build", vo])) := Same.upd' (Same.refl _) h_p8
    have q_p8 : (upd G5 p8 (.lst [.str "build", vo])) p8 = some (.lst [.str "build", vo]) := upd_same
    have k_p8 : Nw C Hs (upd G5 p8 (.lst [.str "build", vo])) (.lst [.str "build", .ord o]) (.ref p8) := NwL.disp ((Nw.flat (d := .str "build") rfl).one.app (kO.one)) h_p8 f_p8
    generalize (upd G5 p8 (.lst [.str "build", vo])) = G6 at s_p8 q_p8 k_p8 ⊢
    have q_sa := s_p8 _ _ q_sa
    have q_p3 := s_p8 _ _ q_p3
    have q_p4 := s_p8 _ _ q_p4
    have q_p5 := s_p8 _ _ q_p5
    have q_p6 := s_p8 _ _ q_p6
    have q_p7 := s_p8 _ _ q_p7
    have kS := kS.same s_p8
    have kO := kO.same s_p8
    have k_p3 := k_p3.same s_p8
    have k_p4 := k_p4.same s_p8
    have k_p5 := k_p5.same s_p8
    have k_p6 := k_p6.same s_p8
    have k_p7 := k_p7.same s_p8
    have iv := ivS iv s_p8
    refine ⟨_, rfl, (zk 2 (by decide)), fun p9 h_p9 => ?_⟩
    have f_p9 : Hs p9 = none := (domS iv).free h_p9
    have n_p9 : p9 ≠ b := ivN iv h_p9
    have s_p9 : Same G6 (upd G6 p9 (.tup [vo, .str "build"])) := Same.upd' (Same.refl _) h_p9
    have q_p9 : (upd G6 p9 (.tup [vo, .str "build"])) p9 = some (.tup [vo, .str "build"]) := upd_same
    have k_p9 : Nw C Hs (upd G6 p9 (.tup [vo, .str "build"])) (.tup [.ord o, .str "build"]) (.ref p9) := NwL.tup (kO.one.app ((Nw.flat (d := .str "build") rfl).one)) h_p9 f_p9
    generalize (upd G6 p9 (.tup [vo, .str "build"])) = G7 at s_p9 q_p9 k_p9 ⊢
    have q_sa := s_p9 _ _ q_sa
    have q_p3 := s_p9 _ _ q_p3
    have q_p4 := s_p9 _ _ q_p4
    have q_p5 := s_p9 _ _ q_p5
    have q_p6 := s_p9 _ _ q_p6
    have q_p7 := s_p9 _ _ q_p7
    have q_p8 := s_p9 _ _ q_p8
    have kS := kS.same s_p9
    have kO := kO.same s_p9
    have k_p3 := k_p3.same s_p9
    have k_p4 := k_p4.same s_p9
    have k_p5 := k_p5.same s_p9
    have k_p6 := k_p6.same s_p9
    have k_p7 := k_p7.same s_p9
    have k_p8 := k_p8.same s_p9
    have iv := ivS iv s_p9
    refine ⟨_, rfl, (zk 3 (by decide)), fun p10 h_p10 => ?_⟩
    have f_p10 : Hs p10 = none := (domS iv).free h_p10
    have n_p10 : p10 ≠ b := ivN iv h_p10
    have s_p10 : Same G7 (upd G7 p10 (.tup [.str "relay", vo, .str "a"])) := Same.upd' (Same.refl _) h_p10
    have q_p10 : (upd G7 p10 (.tup [.str "relay", vo, .str "a"])) p10 = some (.tup [.str "relay", vo, .str "a"]) := upd_same
    have k_p10 : Nw C Hs (upd G7 p10 (.tup [.str "relay", vo, .str "a"])) (.tup [.str "relay", .ord o, .str "a"]) (.ref p10) := NwL.tup ((Nw.flat (d := .str "relay") rfl).one.app (kO.one.app ((Nw.flat (d := .str "a") rfl).one))) h_p10 f_p10
    generalize (upd G7 p10 (.tup [.str "relay", vo, .str "a"])) = G8 at s_p10 q_p10 k_p10 ⊢
    have q_sa := s_p10 _ _ q_sa
    have q_p3 := s_p10 _ _ q_p3
    have q_p4 := s_p10 _ _ q_p4
    have q_p5 := s_p10 _ _ q_p5
    have q_p6 := s_p10 _ _ q_p6
    have q_p7 := s_p10 _ _ q_p7
    have q_p8 := s_p10 _ _ q_p8
    have q_p9 := s_p10 _ _ q_p9
    have kS := kS.same s_p10
    have kO := kO.same s_p10
    have k_p3 := k_p3.same s_p10
    have k_p4 := k_p4.same s_p10
    have k_p5 := k_p5.same s_p10
    have k_p6 := k_p6.same s_p10
    have k_p7 := k_p7.same s_p10
    have k_p8 := k_p8.same s_p10
    have k_p9 := k_p9.same s_p10
    have iv := ivS iv s_p10
    refine ⟨_, rfl, (zk 2 (by decide)), fun p11 h_p11 => ?_⟩
    have f_p11 : Hs p11 = none := (domS iv).free h_p11
    have n_p11 : p11 ≠ b := ivN iv h_p11
    have s_p11 : Same G8 (upd G8 p11 (.tup [.non, vo])) := Same.upd' (Same.refl _) h_p11
    have q_p11 : (upd G8 p11 (.tup [.non, vo])) p11 = some (.tup [.non, vo]) := upd_same
    have k_p11 : Nw C Hs (upd G8 p11 (.tup [.non, vo])) (.tup [.non, .ord o]) (.ref p11) := NwL.tup ((Nw.flat (d := .non) rfl).one.app (kO.one)) h_p11 f_p11
    generalize (upd G8 p11 (.tup [.non, vo])) = G9 at s_p11 q_p11 k_p11 ⊢
    have q_sa := s_p11 _ _ q_sa
    have q_p3 := s_p11 _ _ q_p3
    have q_p4 := s_p11 _ _ q_p4
    have q_p5 := s_p11 _ _ q_p5
    have q_p6 := s_p11 _ _ q_p6
    have q_p7 := s_p11 _ _ q_p7
    have q_p8 := s_p11 _ _ q_p8
    have q_p9 := s_p11 _ _ q_p9
    have q_p10 := s_p11 _ _ q_p10
    have kS := kS.same s_p11
    have kO := kO.same s_p11
    have k_p3 := k_p3.same s_p11
    have k_p4 := k_p4.same s_p11
    have k_p5 := k_p5.same s_p11
    have k_p6 := k_p6.same s_p11
    have k_p7 := k_p7.same s_p11
    have k_p8 := k_p8.same s_p11
    have k_p9 := k_p9.same s_p11
    have k_p10 := k_p10.same s_p11
    have iv := ivS iv s_p11
    refine ⟨Nat.zero_le _, fun p12 h_p12 => ?_⟩
    have f_p12 : Hs p12 = none := (domS iv).free h_p12
    have n_p12 : p12 ≠ b := ivN iv h_p12
    have s_p12 : Same G9 (upd G9 p12 (.tup [])) := Same.upd' (Same.refl _) h_p12
    have q_p12 : (upd G9 p12 (.tup [])) p12 = some (.tup []) := upd_same
    have k_p12 : Nw C Hs (upd G9 p12 (.tup [])) (.tup []) (.ref p12) := NwL.tup (NwL.nil) h_p12 f_p12
    generalize (upd G9 p12 (.tup [])) = G10 at s_p12 q_p12 k_p12 ⊢
    have q_sa := s_p12 _ _ q_sa
    have q_p3 := s_p12 _ _ q_p3
    have q_p4 := s_p12 _ _ q_p4
    have q_p5 := s_p12 _ _ q_p5
    have q_p6 := s_p12 _ _ q_p6
    have q_p7 := s_p12 _ _ q_p7
    have q_p8 := s_p12 _ _ q_p8
    have q_p9 := s_p12 _ _ q_p9
    have q_p10 := s_p12 _ _ q_p10
    have q_p11 := s_p12 _ _ q_p11
    have kS := kS.same s_p12
    have kO := kO.same s_p12
    have k_p3 := k_p3.same s_p12
    have k_p4 := k_p4.same s_p12
    have k_p5 := k_p5.same s_p12
    have k_p6 := k_p6.same s_p12
    have k_p7 := k_p7.same s_p12
    have k_p8 := k_p8.same s_p12
    have k_p9 := k_p9.same s_p12
    have k_p10 := k_p10.same s_p12
    have k_p11 := k_p11.same s_p12
    have iv := ivS iv s_p12
    have kth : NwL C Hs G10 (thL o) [.non, .str "build a", .int 5, .ref p3, .ref p4, .ref p5, .ref p6, .ref p7, .ref p8, .ref p9, .ref p10, .ref p11, .ref p12] := (Nw.flat (d := .non) rfl).one.app ((Nw.flat (d := .str "build a") rfl).one.app ((Nw.flat (d := .int 5) rfl).one.app (k_p3.one.app (k_p4.one.app (k_p5.one.app (k_p6.one.app (k_p7.one.app (k_p8.one.app (k_p9.one.app (k_p10.one.app (k_p11.one.app (k_p12.one))))))))))))
    refine ⟨(zk 13 (by decide)), fun Ls h_Ls => ?_⟩
    have f_Ls : Hs Ls = none := (domS iv).free h_Ls
    have n_Ls : Ls ≠ b := ivN iv h_Ls
    have s_Ls : Same G10 (upd G10 Ls (.lst [.non, .str "build a", .int 5, .ref p3, .ref p4, .ref p5, .ref p6, .ref p7, .ref p8, .ref p9, .ref p10, .ref p11, .ref p12])) := Same.upd' (Same.refl _) h_Ls
    have q_Ls : (upd G10 Ls (.lst [.non, .str "build a", .int 5, .ref p3, .ref p4, .ref p5, .ref p6, .ref p7, .ref p8, .ref p9, .ref p10, .ref p11, .ref p12])) Ls = some (.lst [.non, .str "build a", .int 5, .ref p3, .ref p4, .ref p5, .ref p6, .ref p7, .ref p8, .ref p9, .ref p10, .ref p11, .ref p12]) := upd_same
    generalize (upd G10 Ls (.lst [.non, .str "build a", .int 5, .ref p3, .ref p4, .ref p5, .ref p6, .ref p7, .ref p8, .ref p9, .ref p10, .ref p11, .ref p12])) = G11 at s_Ls q_Ls ⊢
    have q_sa := s_Ls _ _ q_sa
    have kS := kS.same s_Ls
    have kO := kO.same s_Ls
    have iv := ivS iv s_Ls
    have kth := kth.same s_Ls
    refine ⟨_, rfl, _, rfl, b, 13, n + 40, rfl, iv.2.1, b40, by decide, by decide, fun j1 G12 hj1 sb1 bx1 => ?_⟩
    have q_sa := sb1 _ _ n_sa q_sa
    have q_Ls := sb1 _ _ n_Ls q_Ls
    have kS := Nw.sameB hobs sb1 kS
    have kO := Nw.sameB hobs sb1 kO
    have iv := ivB iv sb1 bx1
    have kth := NwL.sameB hobs sb1 kth
    obtain ⟨vt, hjt⟩ : ∃ v, ([.non, .str "build a", .int 5, .ref p3, .ref p4, .ref p5, .ref p6, .ref p7, .ref p8, .ref p9, .ref p10, .ref p11, .ref p12] : List V)[j1]? = some v := ⟨_, List.getElem?_eq_getElem (lt_of_int (k := 13) hj1)⟩
    obtain ⟨dt, edt, kT⟩ : ∃ d, (thL o)[j1]? = some d ∧ Nw C Hs G12 d vt := by
      obtain ⟨K, s, m, r⟩ := kth
      obtain ⟨d, e, r'⟩ := r.get' hjt
      exact ⟨d, e, K, s, m, r'⟩
    have tok := okt dt (List.mem_of_getElem? edt)
    refine ⟨Ls, _, _, vt, rfl, rfl, SqL.of q_Ls, atI_nat hjt, ?_⟩
    clear edt hjt kth q_Ls
    have rl : (reprText (stepText (stD st))).length ≤ 2000 := by have := rt_len (text_so hst); omega
    have okm := mo_ok hst tok rl
    intro e1 h_e1
    have f_e1 : Hs e1 = none := (domS iv).free h_e1
    have n_e1 : e1 ≠ b := ivN iv h_e1
    have s_e1 : Same G12 (upd G12 e1 (.dK [])) := Same.upd' (Same.refl _) h_e1
    have q_e1 : (upd G12 e1 (.dK [])) e1 = some (.dK []) := upd_same
    have k_e1 : Nw C Hs (upd G12 e1 (.dK [])) (.emp) (.ref e1) := Nw.emp upd_same f_e1
    generalize (upd G12 e1 (.dK [])) = G13 at s_e1 q_e1 k_e1 ⊢
    have q_sa := s_e1 _ _ q_sa
    have kS := kS.same s_e1
    have kO := kO.same s_e1
    have kT := kT.same s_e1
    have iv := ivS iv s_e1
    refine ⟨_, rfl, _, rfl, (zk 2 (by decide)), fun l1 h_l1 => ?_⟩
    have f_l1 : Hs l1 = none := (domS iv).free h_l1
    have n_l1 : l1 ≠ b := ivN iv h_l1
    have s_l1 : Same G13 (upd G13 l1 (.lst [.ref sa, vt])) := Same.upd' (Same.refl _) h_l1
    have q_l1 : (upd G13 l1 (.lst [.ref sa, vt])) l1 = some (.lst [.ref sa, vt]) := upd_same
    have k_l1 : Nw C Hs (upd G13 l1 (.lst [.ref sa, vt])) (.lst [stD st, dt]) (.ref l1) := NwL.disp (kS.one.app (kT.one)) h_l1 f_l1
    generalize (upd G13 l1 (.lst [.ref sa, vt])) = G14 at s_l1 q_l1 k_l1 ⊢
    have q_sa := s_l1 _ _ q_sa
    have q_e1 := s_l1 _ _ q_e1
    have kS := kS.same s_l1
    have kO := kO.same s_l1
    have kT := kT.same s_l1
    have k_e1 := k_e1.same s_l1
    have iv := ivS iv s_l1
    refine ⟨_, rfl, (zk 1 (by decide)), fun l0 h_l0 => ?_⟩
    have f_l0 : Hs l0 = none := (domS iv).free h_l0
    have n_l0 : l0 ≠ b := ivN iv h_l0
    have s_l0 : Same G14 (upd G14 l0 (.lst [.ref sa])) := Same.upd' (Same.refl _) h_l0
    have q_l0 : (upd G14 l0 (.lst [.ref sa])) l0 = some (.lst [.ref sa]) := upd_same
    generalize (upd G14 l0 (.lst [.ref sa])) = G15 at s_l0 q_l0 ⊢
    have q_sa := s_l0 _ _ q_sa
    have q_e1 := s_l0 _ _ q_e1
    have q_l1 := s_l0 _ _ q_l1
    have kS := kS.same s_l0
    have kO := kO.same s_l0
    have kT := kT.same s_l0
    have k_e1 := k_e1.same s_l0
    have k_l1 := k_l1.same s_l0
    have iv := ivS iv s_l0
    refine ⟨l0, 101, _, rfl, rfl, q_l0, by decide, by decide, (zk 101 (by decide)), fun l2 h_l2 => ?_⟩
    rw [show (List.replicate (101 : Int).toNat [V.ref sa]).flatten = List.replicate 101 (V.ref sa) from by simp]
    have f_l2 : Hs l2 = none := (domS iv).free h_l2
    have n_l2 : l2 ≠ b := ivN iv h_l2
    have s_l2 : Same G15 (upd G15 l2 (.lst (List.replicate 101 (.ref sa)))) := Same.upd' (Same.refl _) h_l2
    have q_l2 : (upd G15 l2 (.lst (List.replicate 101 (.ref sa)))) l2 = some (.lst (List.replicate 101 (.ref sa))) := upd_same
    have k_l2 : Nw C Hs (upd G15 l2 (.lst (List.replicate 101 (.ref sa)))) (.lst (List.replicate 101 (stD st))) (.ref l2) := NwL.disp ((NwL.rep kS 101)) h_l2 f_l2
    generalize (upd G15 l2 (.lst (List.replicate 101 (.ref sa)))) = G16 at s_l2 q_l2 k_l2 ⊢
    have q_sa := s_l2 _ _ q_sa
    have q_e1 := s_l2 _ _ q_e1
    have q_l1 := s_l2 _ _ q_l1
    have q_l0 := s_l2 _ _ q_l0
    have kS := kS.same s_l2
    have kO := kO.same s_l2
    have kT := kT.same s_l2
    have k_e1 := k_e1.same s_l2
    have k_l1 := k_l1.same s_l2
    have iv := ivS iv s_l2
    refine ⟨_, rfl, _, rfl, Nat.zero_le _, fun l3 h_l3 => ?_⟩
    have f_l3 : Hs l3 = none := (domS iv).free h_l3
    have n_l3 : l3 ≠ b := ivN iv h_l3
    have s_l3 : Same G16 (upd G16 l3 (.lst [])) := Same.upd' (Same.refl _) h_l3
    have q_l3 : (upd G16 l3 (.lst [])) l3 = some (.lst []) := upd_same
    have k_l3 : Nw C Hs (upd G16 l3 (.lst [])) (.lst []) (.ref l3) := NwL.disp (NwL.nil) h_l3 f_l3
    generalize (upd G16 l3 (.lst [])) = G17 at s_l3 q_l3 k_l3 ⊢
    have q_sa := s_l3 _ _ q_sa
    have q_e1 := s_l3 _ _ q_e1
    have q_l1 := s_l3 _ _ q_l1
    have q_l0 := s_l3 _ _ q_l0
    have q_l2 := s_l3 _ _ q_l2
    have kS := kS.same s_l3
    have kO := kO.same s_l3
    have kT := kT.same s_l3
    have k_e1 := k_e1.same s_l3
    have k_l1 := k_l1.same s_l3
    have k_l2 := k_l2.same s_l3
    have iv := ivS iv s_l3
    refine ⟨(zk 2 (by decide)), fun t1 h_t1 => ?_⟩
    have f_t1 : Hs t1 = none := (domS iv).free h_t1
    have n_t1 : t1 ≠ b := ivN iv h_t1
    have s_t1 : Same G17 (upd G17 t1 (.tup [.ref sa, .ref l3])) := Same.upd' (Same.refl _) h_t1
    have q_t1 : (upd G17 t1 (.tup [.ref sa, .ref l3])) t1 = some (.tup [.ref sa, .ref l3]) := upd_same
    have k_t1 : Nw C Hs (upd G17 t1 (.tup [.ref sa, .ref l3])) (.tup [stD st, .lst []]) (.ref t1) := NwL.tup (kS.one.app (k_l3.one)) h_t1 f_t1
    generalize (upd G17 t1 (.tup [.ref sa, .ref l3])) = G18 at s_t1 q_t1 k_t1 ⊢
    have q_sa := s_t1 _ _ q_sa
    have q_e1 := s_t1 _ _ q_e1
    have q_l1 := s_t1 _ _ q_l1
    have q_l0 := s_t1 _ _ q_l0
    have q_l2 := s_t1 _ _ q_l2
    have q_l3 := s_t1 _ _ q_l3
    have kS := kS.same s_t1
    have kO := kO.same s_t1
    have kT := kT.same s_t1
    have k_e1 := k_e1.same s_t1
    have k_l1 := k_l1.same s_t1
    have k_l2 := k_l2.same s_t1
    have k_l3 := k_l3.same s_t1
    have iv := ivS iv s_t1
    have kmo : NwL C Hs G18 (moL st (stepText (stD st)) dt) [.non, .int 5, .ref e1, .ref l1, .ref l2, .str (stepText (stD st)), .ref t1] := (Nw.flat (d := .non) rfl).one.app ((Nw.flat (d := .int 5) rfl).one.app (k_e1.one.app (k_l1.one.app (k_l2.one.app ((Nw.flat (d := .str (stepText (stD st))) rfl).one.app (k_t1.one))))))
    refine ⟨(zk 7 (by decide)), fun Lm h_Lm => ?_⟩
    have f_Lm : Hs Lm = none := (domS iv).free h_Lm
    have n_Lm : Lm ≠ b := ivN iv h_Lm
    have s_Lm : Same G18 (upd G18 Lm (.lst [.non, .int 5, .ref e1, .ref l1, .ref l2, .str (stepText (stD st)), .ref t1])) := Same.upd' (Same.refl _) h_Lm
    have q_Lm : (upd G18 Lm (.lst [.non, .int 5, .ref e1, .ref l1, .ref l2, .str (stepText (stD st)), .ref t1])) Lm = some (.lst [.non, .int 5, .ref e1, .ref l1, .ref l2, .str (stepText (stD st)), .ref t1]) := upd_same
    generalize (upd G18 Lm (.lst [.non, .int 5, .ref e1, .ref l1, .ref l2, .str (stepText (stD st)), .ref t1])) = G19 at s_Lm q_Lm ⊢
    have q_sa := s_Lm _ _ q_sa
    have kS := kS.same s_Lm
    have kO := kO.same s_Lm
    have kT := kT.same s_Lm
    have iv := ivS iv s_Lm
    have kmo := kmo.same s_Lm
    refine ⟨_, rfl, b, 7, n + 40 + 1, rfl, iv.2.1, b41, by decide, by decide, fun j2 G20 hj2 sb2 bx2 => ?_⟩
    have q_sa := sb2 _ _ n_sa q_sa
    have q_Lm := sb2 _ _ n_Lm q_Lm
    have kS := Nw.sameB hobs sb2 kS
    have kO := Nw.sameB hobs sb2 kO
    have kT := Nw.sameB hobs sb2 kT
    have iv := ivB iv sb2 bx2
    have kmo := NwL.sameB hobs sb2 kmo
    obtain ⟨vm, hjm⟩ : ∃ v, ([.non, .int 5, .ref e1, .ref l1, .ref l2, .str (stepText (stD st)), .ref t1] : List V)[j2]? = some v := ⟨_, List.getElem?_eq_getElem (lt_of_int (k := 7) hj2)⟩
    obtain ⟨dm, edm, kM⟩ : ∃ d, (moL st (stepText (stD st)) dt)[j2]? = some d ∧ Nw C Hs G20 d vm := by
      obtain ⟨K, s, m, r⟩ := kmo
      obtain ⟨d, e, r'⟩ := r.get' hjm
      exact ⟨d, e, K, s, m, r'⟩
    have mok := okm dm (List.mem_of_getElem? edm)
    refine ⟨Lm, _, _, vm, rfl, rfl, SqL.of q_Lm, atI_nat hjm, ?_⟩
    clear edm hjm kmo q_Lm okm okt
    obtain ⟨K1, s_K1, n_K1, rK1⟩ : ∃ K1, Sub K1 G20 ∧ (∀ a o, K1 a = some o → Hs a = none ∧ ∀ ps, o ≠ .tbl ps) ∧ RpL C K1 [dt, dm] [vt, vm] := by
      obtain ⟨K, s, m, r⟩ := kT.one.app kM.one
      exact ⟨strip K, fun a u h => s a u (strip_inv h).1, fun a u h => ⟨m a u (strip_inv h).1, (strip_inv h).2⟩, r.strip⟩
    have b_K1 : ∀ a o, K1 a = some o → a ≠ b := fun a o h z => by have := (n_K1 a o h).1; rw [z, hobs] at this; cases this
    have t_K1 : ∀ a o, K1 a = some o → ∀ ps, o ≠ .tbl ps := fun a o h => (n_K1 a o h).2
    have rT : ∀ {A : Hp}, Sub K1 A → Rp C A dt vt := fun s => by obtain ⟨v, r, z, h, _⟩ := rK1.mono s; cases z; exact h
    have rM : ∀ {A : Hp}, Sub K1 A → Rp C A dm vm := fun s => by obtain ⟨v, r, z, _, v2, r2, z2, h, _⟩ := rK1.mono s; cases z; cases z2; exact h
    clear kT kM
    have ivM : ∀ {k : Nat} {A : Hp} {a : Addr} {u v : HO}, Iv k A → Hs a = none → a ≠ b → A a = some u → Wr u → Iv k (upd A a v) := fun {k A a u v} h hf nb ha wr => by
      refine ⟨fun c o nc hc nt => ?_, ?_, SO.Tabs.wr h.2.2 ha wr⟩
      · have : c ≠ a := fun z => by have e : Hs c = some o := strip_of hc nt; rw [← z, e] at hf; cases hf
        rw [upd_ne this]; exact h.1 c o nc hc nt
      · obtain ⟨m', s', k', h', r'⟩ := h.2.1
        exact ⟨m', s', k', by rw [upd_ne nb.symm]; exact h', r'⟩
    refine ⟨iv.2.2, fun G21 eN tN => ?_⟩
    have s_K1 := fun a o h => eN a o (s_K1 a o h) (t_K1 a o h)
    have iv := ivE iv eN tN
    refine ⟨_, rfl, vt, dt, rfl, rT s_K1, tok.2.1, (fun z => nomatch (show false = true from tok.1.symm.trans z)), fun _ dd G22 hdd e6 h6 => .inr (.inr ⟨rfl, dd, vt, rfl, h6, fun o1 h_o1 => ?_⟩)⟩
    have s_K1 := fun a o h => e6 a o (s_K1 a o h)
    have iv := ivS iv e6
    clear hdd h6 e6 eN tN
    have nt_o1 : vt ≠ .ref o1 := Rp.not (rT s_K1) h_o1
    have nm_o1 : vm ≠ .ref o1 := Rp.not (rM s_K1) h_o1
    have f_o1 : Hs o1 = none := (domS iv).free h_o1
    have n_o1 : o1 ≠ b := ivN iv h_o1
    have s_o1 : Same G22 (upd G22 o1 (.lst [.str "steps", vt])) := Same.upd' (Same.refl _) h_o1
    have q_o1 : (upd G22 o1 (.lst [.str "steps", vt])) o1 = some (.lst [.str "steps", vt]) := upd_same
    generalize (upd G22 o1 (.lst [.str "steps", vt])) = G23 at s_o1 q_o1 ⊢
    have s_K1 := fun a o h => s_o1 a o (s_K1 a o h)
    have iv := ivS iv s_o1
    refine ⟨(zk 1 (by decide)), fun F h_F => ?_⟩
    have ne_o1_F : o1 ≠ F := ne_of_none q_o1 h_F
    have ne_K1_F : ∀ a o, K1 a = some o → a ≠ F := fun a o h => ne_of_none (s_K1 a o h) h_F
    have nt_F : vt ≠ .ref F := Rp.not (rT s_K1) h_F
    have nm_F : vm ≠ .ref F := Rp.not (rM s_K1) h_F
    have f_F : Hs F = none := (domS iv).free h_F
    have n_F : F ≠ b := ivN iv h_F
    have s_F : Same G23 (upd G23 F (.lst [.ref o1])) := Same.upd' (Same.refl _) h_F
    have q_F : (upd G23 F (.lst [.ref o1])) F = some (.lst [.ref o1]) := upd_same
    generalize (upd G23 F (.lst [.ref o1])) = G24 at s_F q_F ⊢
    have q_o1 := s_F _ _ q_o1
    have s_K1 := fun a o h => s_F a o (s_K1 a o h)
    have iv := ivS iv s_F
    refine ⟨_, rfl, .inl ⟨rfl, _, SqL.of q_F⟩, iv.2.2, fun G25 eN tN => ?_⟩
    have q_o1 := eN _ _ q_o1 (fun _ z => nomatch z)
    have q_F := eN _ _ q_F (fun _ z => nomatch z)
    have s_K1 := fun a o h => eN a o (s_K1 a o h) (t_K1 a o h)
    have iv := ivE iv eN tN
    refine ⟨_, rfl, vm, dm, rfl, rM s_K1, mok.2.1, (fun z => nomatch (show false = true from mok.1.symm.trans z)), fun _ dd G26 hdd e7 h7 => .inr (.inr ⟨rfl, dd, vm, rfl, h7, fun o2 h_o2 => ?_⟩)⟩
    have q_o1 := e7 _ _ q_o1
    have q_F := e7 _ _ q_F
    have s_K1 := fun a o h => e7 a o (s_K1 a o h)
    have iv := ivS iv e7
    clear hdd h7 e7 eN tN
    have ne_o2_F : o2 ≠ F := (ne_of_none q_F h_o2).symm
    have nt_o2 : vt ≠ .ref o2 := Rp.not (rT s_K1) h_o2
    have nm_o2 : vm ≠ .ref o2 := Rp.not (rM s_K1) h_o2
    have f_o2 : Hs o2 = none := (domS iv).free h_o2
    have n_o2 : o2 ≠ b := ivN iv h_o2
    have s_o2 : Same G26 (upd G26 o2 (.lst [.str "steps", vm])) := Same.upd' (Same.refl _) h_o2
    have q_o2 : (upd G26 o2 (.lst [.str "steps", vm])) o2 = some (.lst [.str "steps", vm]) := upd_same
    generalize (upd G26 o2 (.lst [.str "steps", vm])) = G27 at s_o2 q_o2 ⊢
    have q_o1 := s_o2 _ _ q_o1
    have q_F := s_o2 _ _ q_F
    have s_K1 := fun a o h => s_o2 a o (s_K1 a o h)
    have iv := ivS iv s_o2
    refine ⟨F, _, .ref o2, rfl, rfl, q_F, (zk 2 (by decide)), ?_⟩
    have q_o1 : (upd G27 F (.lst ([.ref o1] ++ [.ref o2]))) o1 = _ := (upd_ne ne_o1_F).trans q_o1
    have q_o2 : (upd G27 F (.lst ([.ref o1] ++ [.ref o2]))) o2 = _ := (upd_ne ne_o2_F).trans q_o2
    have iv : Iv _ (upd G27 F (.lst ([.ref o1] ++ [.ref o2]))) := ivM iv f_F n_F q_F True.intro
    have s_K1 : Sub K1 (upd G27 F (.lst ([.ref o1] ++ [.ref o2]))) := fun a o h => (upd_ne (ne_K1_F a o h)).trans (s_K1 a o h)
    have q_F : (upd G27 F (.lst ([.ref o1] ++ [.ref o2]))) F = some (.lst ([.ref o1] ++ [.ref o2])) := upd_same
    generalize (upd G27 F (.lst ([.ref o1] ++ [.ref o2]))) = G28 at q_o1 q_F q_o2 iv s_K1 ⊢
    have q_F : G28 F = some (.lst [.ref o1, .ref o2]) := q_F
    have ivAb := iv
    have qA_o1 := q_o1
    have qA_o2 := q_o2
    have qA_F := q_F
    obtain ⟨obA, hobA⟩ := iv.2.1.has
    refine ⟨(zk 1 (by decide)), fun l4 h_l4 => ?_⟩
    have g_l4 : G28 l4 = none := h_l4
    have n_l4 : l4 ≠ b := ivN iv h_l4
    have s_l4 : Same G28 (upd G28 l4 (.lst [.str "drop a"])) := Same.upd' (Same.refl _) h_l4
    have q_l4 : (upd G28 l4 (.lst [.str "drop a"])) l4 = some (.lst [.str "drop a"]) := upd_same
    have k_l4 : Nw C G28 (upd G28 l4 (.lst [.str "drop a"])) (.lst [.str "drop a"]) (.ref l4) := NwL.disp ((Nw.flat (d := .str "drop a") rfl).one) h_l4 g_l4
    generalize (upd G28 l4 (.lst [.str "drop a"])) = G29 at s_l4 q_l4 k_l4 ⊢
    have q_o1 := s_l4 _ _ q_o1
    have q_F := s_l4 _ _ q_F
    have q_o2 := s_l4 _ _ q_o2
    have s_K1 := fun a o h => s_l4 a o (s_K1 a o h)
    have iv := ivS iv s_l4
    have sA := s_l4
    refine ⟨(zk 1 (by decide)), fun t4 h_t4 => ?_⟩
    have g_t4 : G28 t4 = none := sA.free h_t4
    have n_t4 : t4 ≠ b := ivN iv h_t4
    have s_t4 : Same G29 (upd G29 t4 (.tup [.str "drop a"])) := Same.upd' (Same.refl _) h_t4
    have q_t4 : (upd G29 t4 (.tup [.str "drop a"])) t4 = some (.tup [.str "drop a"]) := upd_same
    have k_t4 : Nw C G28 (upd G29 t4 (.tup [.str "drop a"])) (.tup [.str "drop a"]) (.ref t4) := NwL.tup ((Nw.flat (d := .str "drop a") rfl).one) h_t4 g_t4
    generalize (upd G29 t4 (.tup [.str "drop a"])) = G30 at s_t4 q_t4 k_t4 ⊢
    have q_o1 := s_t4 _ _ q_o1
    have q_F := s_t4 _ _ q_F
    have q_o2 := s_t4 _ _ q_o2
    have s_K1 := fun a o h => s_t4 a o (s_K1 a o h)
    have k_l4 := k_l4.same s_t4
    have iv := ivS iv s_t4
    have sA := sA.trans s_t4
    intro e4 h_e4
    have g_e4 : G28 e4 = none := sA.free h_e4
    have n_e4 : e4 ≠ b := ivN iv h_e4
    have s_e4 : Same G30 (upd G30 e4 (.dK [])) := Same.upd' (Same.refl _) h_e4
    have q_e4 : (upd G30 e4 (.dK [])) e4 = some (.dK []) := upd_same
    have k_e4 : Nw C G28 (upd G30 e4 (.dK [])) (.emp) (.ref e4) := Nw.emp upd_same g_e4
    generalize (upd G30 e4 (.dK [])) = G31 at s_e4 q_e4 k_e4 ⊢
    have q_o1 := s_e4 _ _ q_o1
    have q_F := s_e4 _ _ q_F
    have q_o2 := s_e4 _ _ q_o2
    have s_K1 := fun a o h => s_e4 a o (s_K1 a o h)
    have k_l4 := k_l4.same s_e4
    have k_t4 := k_t4.same s_e4
    have iv := ivS iv s_e4
    have sA := sA.trans s_e4
    have kod : NwL C G28 G31 odL [.non, .int 5, .ref l4, .ref t4, .ref e4] := (Nw.flat (d := .non) rfl).one.app ((Nw.flat (d := .int 5) rfl).one.app (k_l4.one.app (k_t4.one.app (k_e4.one))))
    refine ⟨(zk 5 (by decide)), fun Lo h_Lo => ?_⟩
    have f_Lo : Hs Lo = none := (domS iv).free h_Lo
    have n_Lo : Lo ≠ b := ivN iv h_Lo
    have s_Lo : Same G31 (upd G31 Lo (.lst [.non, .int 5, .ref l4, .ref t4, .ref e4])) := Same.upd' (Same.refl _) h_Lo
    have q_Lo : (upd G31 Lo (.lst [.non, .int 5, .ref l4, .ref t4, .ref e4])) Lo = some (.lst [.non, .int 5, .ref l4, .ref t4, .ref e4]) := upd_same
    generalize (upd G31 Lo (.lst [.non, .int 5, .ref l4, .ref t4, .ref e4])) = G32 at s_Lo q_Lo ⊢
    have q_o1 := s_Lo _ _ q_o1
    have q_F := s_Lo _ _ q_F
    have q_o2 := s_Lo _ _ q_o2
    have s_K1 := fun a o h => s_Lo a o (s_K1 a o h)
    have iv := ivS iv s_Lo
    have kod := kod.same s_Lo
    refine ⟨_, rfl, b, 5, n + 40 + 1 + 1, rfl, iv.2.1, b42, by decide, by decide, fun j3 G33 hj3 sb3 bx3 => ?_⟩
    have q_o1 := sb3 _ _ n_o1 q_o1
    have q_F := sb3 _ _ n_F q_F
    have q_o2 := sb3 _ _ n_o2 q_o2
    have q_Lo := sb3 _ _ n_Lo q_Lo
    have s_K1 := fun a o h => sb3 a o (b_K1 a o h) (s_K1 a o h)
    have iv := ivB iv sb3 bx3
    have kod := NwL.sameB hobA sb3 kod
    obtain ⟨vd, hjo⟩ : ∃ v, ([.non, .int 5, .ref l4, .ref t4, .ref e4] : List V)[j3]? = some v := ⟨_, List.getElem?_eq_getElem (lt_of_int (k := 5) hj3)⟩
    obtain ⟨dd, edd, K2, s_K2, n_K2, rK2⟩ : ∃ d, odL[j3]? = some d ∧ ∃ K2, Sub K2 G33 ∧ (∀ a o, K2 a = some o → G28 a = none ∧ ∀ ps, o ≠ .tbl ps) ∧ Rp C K2 d vd := by
      obtain ⟨K, s, m, r⟩ := kod
      obtain ⟨d, e, r'⟩ := r.get' hjo
      exact ⟨d, e, strip K, fun a u h => s a u (strip_inv h).1, fun a u h => ⟨m a u (strip_inv h).1, (strip_inv h).2⟩, r'.strip⟩
    have dok := od_ok dd (List.mem_of_getElem? edd)
    refine ⟨Lo, _, _, vd, rfl, rfl, SqL.of q_Lo, atI_nat hjo, ?_⟩
    clear edd hjo kod q_Lo
    have b_K2 : ∀ a o, K2 a = some o → a ≠ b := fun a o h z => by have := (n_K2 a o h).1; rw [z, hobA] at this; cases this
    have t_K2 : ∀ a o, K2 a = some o → ∀ ps, o ≠ .tbl ps := fun a o h => (n_K2 a o h).2
    have rD : ∀ {A : Hp}, Sub K2 A → Rp C A dd vd := fun s => rK2.mono s
    have ne_K2_F : ∀ a o, K2 a = some o → a ≠ F := fun a o h z => by have := (n_K2 a o h).1; rw [z, qA_F] at this; cases this
    have no_o1 : vd ≠ .ref o1 := fun z => by
      obtain ⟨u, hu⟩ := Rp.has (z ▸ rK2)
      have := (n_K2 _ _ hu).1; rw [qA_o1] at this; cases this
    have no_o2 : vd ≠ .ref o2 := fun z => by
      obtain ⟨u, hu⟩ := Rp.has (z ▸ rK2)
      have := (n_K2 _ _ hu).1; rw [qA_o2] at this; cases this
    have no_F : vd ≠ .ref F := fun z => by
      obtain ⟨u, hu⟩ := Rp.has (z ▸ rK2)
      have := (n_K2 _ _ hu).1; rw [qA_F] at this; cases this
    refine ⟨_, rfl, .inl ⟨rfl, _, SqL.of q_F⟩, iv.2.2, fun G34 eN tN => ?_⟩
    have q_o1 := eN _ _ q_o1 (fun _ z => nomatch z)
    have q_F := eN _ _ q_F (fun _ z => nomatch z)
    have q_o2 := eN _ _ q_o2 (fun _ z => nomatch z)
    have s_K1 := fun a o h => eN a o (s_K1 a o h) (t_K1 a o h)
    have s_K2 := fun a o h => eN a o (s_K2 a o h) (t_K2 a o h)
    have iv := ivE iv eN tN
    refine ⟨_, rfl, vd, dd, rfl, rD s_K2, dok.2.1, (fun _ z => nomatch (show none = some _ from dok.2.2.1.symm.trans z)), fun _ ddd G35 hdd e9 h9 => .inl ⟨rfl, ddd, vd, rfl, h9, fun o3 h_o3 => ?_⟩⟩
    have q_o1 := e9 _ _ q_o1
    have q_F := e9 _ _ q_F
    have q_o2 := e9 _ _ q_o2
    have s_K1 := fun a o h => e9 a o (s_K1 a o h)
    have s_K2 := fun a o h => e9 a o (s_K2 a o h)
    have iv := ivS iv e9
    clear hdd h9 e9 eN tN
    have ne_o3_F : o3 ≠ F := (ne_of_none q_F h_o3).symm
    have nt_o3 : vt ≠ .ref o3 := Rp.not (rT s_K1) h_o3
    have nm_o3 : vm ≠ .ref o3 := Rp.not (rM s_K1) h_o3
    have no_o3 : vd ≠ .ref o3 := Rp.not (rD s_K2) h_o3
    have f_o3 : Hs o3 = none := (domS iv).free h_o3
    have n_o3 : o3 ≠ b := ivN iv h_o3
    have s_o3 : Same G35 (upd G35 o3 (.lst [.str "text", vd])) := Same.upd' (Same.refl _) h_o3
    have q_o3 : (upd G35 o3 (.lst [.str "text", vd])) o3 = some (.lst [.str "text", vd]) := upd_same
    generalize (upd G35 o3 (.lst [.str "text", vd])) = G36 at s_o3 q_o3 ⊢
    have q_o1 := s_o3 _ _ q_o1
    have q_F := s_o3 _ _ q_F
    have q_o2 := s_o3 _ _ q_o2
    have s_K1 := fun a o h => s_o3 a o (s_K1 a o h)
    have s_K2 := fun a o h => s_o3 a o (s_K2 a o h)
    have iv := ivS iv s_o3
    refine ⟨F, _, .ref o3, rfl, rfl, q_F, (zk 3 (by decide)), ?_⟩
    have q_o1 : (upd G36 F (.lst ([.ref o1, .ref o2] ++ [.ref o3]))) o1 = _ := (upd_ne ne_o1_F).trans q_o1
    have q_o2 : (upd G36 F (.lst ([.ref o1, .ref o2] ++ [.ref o3]))) o2 = _ := (upd_ne ne_o2_F).trans q_o2
    have q_o3 : (upd G36 F (.lst ([.ref o1, .ref o2] ++ [.ref o3]))) o3 = _ := (upd_ne ne_o3_F).trans q_o3
    have iv : Iv _ (upd G36 F (.lst ([.ref o1, .ref o2] ++ [.ref o3]))) := ivM iv f_F n_F q_F True.intro
    have s_K1 : Sub K1 (upd G36 F (.lst ([.ref o1, .ref o2] ++ [.ref o3]))) := fun a o h => (upd_ne (ne_K1_F a o h)).trans (s_K1 a o h)
    have s_K2 : Sub K2 (upd G36 F (.lst ([.ref o1, .ref o2] ++ [.ref o3]))) := fun a o h => (upd_ne (ne_K2_F a o h)).trans (s_K2 a o h)
    have q_F : (upd G36 F (.lst ([.ref o1, .ref o2] ++ [.ref o3]))) F = some (.lst ([.ref o1, .ref o2] ++ [.ref o3])) := upd_same
    generalize (upd G36 F (.lst ([.ref o1, .ref o2] ++ [.ref o3]))) = G37 at q_o1 q_F q_o2 q_o3 iv s_K1 s_K2 ⊢
    have q_F : G37 F = some (.lst [.ref o1, .ref o2, .ref o3]) := q_F
    refine ⟨_, rfl, .inl ⟨rfl, _, SqL.of q_F⟩, iv.2.2, fun G38 eN tN => ?_⟩
    have q_o1 := eN _ _ q_o1 (fun _ z => nomatch z)
    have q_F := eN _ _ q_F (fun _ z => nomatch z)
    have q_o2 := eN _ _ q_o2 (fun _ z => nomatch z)
    have q_o3 := eN _ _ q_o3 (fun _ z => nomatch z)
    have s_K1 := fun a o h => eN a o (s_K1 a o h) (t_K1 a o h)
    have s_K2 := fun a o h => eN a o (s_K2 a o h) (t_K2 a o h)
    have iv := ivE iv eN tN
    refine ⟨_, rfl, vd, dd, rfl, rD s_K2, dok.2.1, (fun x sts hx => by have := dok.1; rw [hx] at this; cases this), (fun x k hx => by have := dok.1; rw [hx] at this; cases this), fun _ ddd G39 hdd e9 h9 => .inl ⟨rfl, ddd, vd, rfl, h9, fun o4 h_o4 => ?_⟩⟩
    have q_o1 := e9 _ _ q_o1
    have q_F := e9 _ _ q_F
    have q_o2 := e9 _ _ q_o2
    have q_o3 := e9 _ _ q_o3
    have s_K1 := fun a o h => e9 a o (s_K1 a o h)
    have s_K2 := fun a o h => e9 a o (s_K2 a o h)
    have iv := ivS iv e9
    clear hdd h9 e9 eN tN
    have ne_o4_F : o4 ≠ F := (ne_of_none q_F h_o4).symm
    have nt_o4 : vt ≠ .ref o4 := Rp.not (rT s_K1) h_o4
    have nm_o4 : vm ≠ .ref o4 := Rp.not (rM s_K1) h_o4
    have no_o4 : vd ≠ .ref o4 := Rp.not (rD s_K2) h_o4
    have f_o4 : Hs o4 = none := (domS iv).free h_o4
    have n_o4 : o4 ≠ b := ivN iv h_o4
    have s_o4 : Same G39 (upd G39 o4 (.lst [.str "text", vd])) := Same.upd' (Same.refl _) h_o4
    have q_o4 : (upd G39 o4 (.lst [.str "text", vd])) o4 = some (.lst [.str "text", vd]) := upd_same
    generalize (upd G39 o4 (.lst [.str "text", vd])) = G40 at s_o4 q_o4 ⊢
    have q_o1 := s_o4 _ _ q_o1
    have q_F := s_o4 _ _ q_F
    have q_o2 := s_o4 _ _ q_o2
    have q_o3 := s_o4 _ _ q_o3
    have s_K1 := fun a o h => s_o4 a o (s_K1 a o h)
    have s_K2 := fun a o h => s_o4 a o (s_K2 a o h)
    have iv := ivS iv s_o4
    refine ⟨F, _, .ref o4, rfl, rfl, q_F, (zk 4 (by decide)), ?_⟩
    have q_o1 : (upd G40 F (.lst ([.ref o1, .ref o2, .ref o3] ++ [.ref o4]))) o1 = _ := (upd_ne ne_o1_F).trans q_o1
    have q_o2 : (upd G40 F (.lst ([.ref o1, .ref o2, .ref o3] ++ [.ref o4]))) o2 = _ := (upd_ne ne_o2_F).trans q_o2
    have q_o3 : (upd G40 F (.lst ([.ref o1, .ref o2, .ref o3] ++ [.ref o4]))) o3 = _ := (upd_ne ne_o3_F).trans q_o3
    have q_o4 : (upd G40 F (.lst ([.ref o1, .ref o2, .ref o3] ++ [.ref o4]))) o4 = _ := (upd_ne ne_o4_F).trans q_o4
    have iv : Iv _ (upd G40 F (.lst ([.ref o1, .ref o2, .ref o3] ++ [.ref o4]))) := ivM iv f_F n_F q_F True.intro
    have s_K1 : Sub K1 (upd G40 F (.lst ([.ref o1, .ref o2, .ref o3] ++ [.ref o4]))) := fun a o h => (upd_ne (ne_K1_F a o h)).trans (s_K1 a o h)
    have s_K2 : Sub K2 (upd G40 F (.lst ([.ref o1, .ref o2, .ref o3] ++ [.ref o4]))) := fun a o h => (upd_ne (ne_K2_F a o h)).trans (s_K2 a o h)
    have q_F : (upd G40 F (.lst ([.ref o1, .ref o2, .ref o3] ++ [.ref o4]))) F = some (.lst ([.ref o1, .ref o2, .ref o3] ++ [.ref o4])) := upd_same
    generalize (upd G40 F (.lst ([.ref o1, .ref o2, .ref o3] ++ [.ref o4]))) = G41 at q_o1 q_F q_o2 q_o3 q_o4 iv s_K1 s_K2 ⊢
    have q_F : G41 F = some (.lst [.ref o1, .ref o2, .ref o3, .ref o4]) := q_F
    refine ⟨_, rfl, (zk 2 (by decide)), fun q1 h_q1 => ?_⟩
    have nt_q1 : vt ≠ .ref q1 := Rp.not (rT s_K1) h_q1
    have nm_q1 : vm ≠ .ref q1 := Rp.not (rM s_K1) h_q1
    have no_q1 : vd ≠ .ref q1 := Rp.not (rD s_K2) h_q1
    have f_q1 : Hs q1 = none := (domS iv).free h_q1
    have n_q1 : q1 ≠ b := ivN iv h_q1
    have s_q1 : Same G41 (upd G41 q1 (.lst [.str "steps", vt])) := Same.upd' (Same.refl _) h_q1
    have q_q1 : (upd G41 q1 (.lst [.str "steps", vt])) q1 = some (.lst [.str "steps", vt]) := upd_same
    generalize (upd G41 q1 (.lst [.str "steps", vt])) = G42 at s_q1 q_q1 ⊢
    have q_o1 := s_q1 _ _ q_o1
    have q_F := s_q1 _ _ q_F
    have q_o2 := s_q1 _ _ q_o2
    have q_o3 := s_q1 _ _ q_o3
    have q_o4 := s_q1 _ _ q_o4
    have s_K1 := fun a o h => s_q1 a o (s_K1 a o h)
    have s_K2 := fun a o h => s_q1 a o (s_K2 a o h)
    have iv := ivS iv s_q1
    refine ⟨_, rfl, (zk 2 (by decide)), fun q2 h_q2 => ?_⟩
    have nt_q2 : vt ≠ .ref q2 := Rp.not (rT s_K1) h_q2
    have nm_q2 : vm ≠ .ref q2 := Rp.not (rM s_K1) h_q2
    have no_q2 : vd ≠ .ref q2 := Rp.not (rD s_K2) h_q2
    have f_q2 : Hs q2 = none := (domS iv).free h_q2
    have n_q2 : q2 ≠ b := ivN iv h_q2
    have s_q2 : Same G42 (upd G42 q2 (.lst [.str "steps", vm])) := Same.upd' (Same.refl _) h_q2
    have q_q2 : (upd G42 q2 (.lst [.str "steps", vm])) q2 = some (.lst [.str "steps", vm]) := upd_same
    generalize (upd G42 q2 (.lst [.str "steps", vm])) = G43 at s_q2 q_q2 ⊢
    have q_o1 := s_q2 _ _ q_o1
    have q_F := s_q2 _ _ q_F
    have q_o2 := s_q2 _ _ q_o2
    have q_o3 := s_q2 _ _ q_o3
    have q_o4 := s_q2 _ _ q_o4
    have q_q1 := s_q2 _ _ q_q1
    have s_K1 := fun a o h => s_q2 a o (s_K1 a o h)
    have s_K2 := fun a o h => s_q2 a o (s_K2 a o h)
    have iv := ivS iv s_q2
    refine ⟨_, rfl, (zk 2 (by decide)), fun q3 h_q3 => ?_⟩
    have nt_q3 : vt ≠ .ref q3 := Rp.not (rT s_K1) h_q3
    have nm_q3 : vm ≠ .ref q3 := Rp.not (rM s_K1) h_q3
    have no_q3 : vd ≠ .ref q3 := Rp.not (rD s_K2) h_q3
    have f_q3 : Hs q3 = none := (domS iv).free h_q3
    have n_q3 : q3 ≠ b := ivN iv h_q3
    have s_q3 : Same G43 (upd G43 q3 (.lst [.str "text", vd])) := Same.upd' (Same.refl _) h_q3
    have q_q3 : (upd G43 q3 (.lst [.str "text", vd])) q3 = some (.lst [.str "text", vd]) := upd_same
    generalize (upd G43 q3 (.lst [.str "text", vd])) = G44 at s_q3 q_q3 ⊢
    have q_o1 := s_q3 _ _ q_o1
    have q_F := s_q3 _ _ q_F
    have q_o2 := s_q3 _ _ q_o2
    have q_o3 := s_q3 _ _ q_o3
    have q_o4 := s_q3 _ _ q_o4
    have q_q1 := s_q3 _ _ q_q1
    have q_q2 := s_q3 _ _ q_q2
    have s_K1 := fun a o h => s_q3 a o (s_K1 a o h)
    have s_K2 := fun a o h => s_q3 a o (s_K2 a o h)
    have iv := ivS iv s_q3
    refine ⟨_, rfl, (zk 2 (by decide)), fun q4 h_q4 => ?_⟩
    have nt_q4 : vt ≠ .ref q4 := Rp.not (rT s_K1) h_q4
    have nm_q4 : vm ≠ .ref q4 := Rp.not (rM s_K1) h_q4
    have no_q4 : vd ≠ .ref q4 := Rp.not (rD s_K2) h_q4
    have f_q4 : Hs q4 = none := (domS iv).free h_q4
    have n_q4 : q4 ≠ b := ivN iv h_q4
    have s_q4 : Same G44 (upd G44 q4 (.lst [.str "text", vd])) := Same.upd' (Same.refl _) h_q4
    have q_q4 : (upd G44 q4 (.lst [.str "text", vd])) q4 = some (.lst [.str "text", vd]) := upd_same
    generalize (upd G44 q4 (.lst [.str "text", vd])) = G45 at s_q4 q_q4 ⊢
    have q_o1 := s_q4 _ _ q_o1
    have q_F := s_q4 _ _ q_F
    have q_o2 := s_q4 _ _ q_o2
    have q_o3 := s_q4 _ _ q_o3
    have q_o4 := s_q4 _ _ q_o4
    have q_q1 := s_q4 _ _ q_q1
    have q_q2 := s_q4 _ _ q_q2
    have q_q3 := s_q4 _ _ q_q3
    have s_K1 := fun a o h => s_q4 a o (s_K1 a o h)
    have s_K2 := fun a o h => s_q4 a o (s_K2 a o h)
    have iv := ivS iv s_q4
    refine ⟨(zk 4 (by decide)), fun Du h_Du => ?_⟩
    have nt_Du : vt ≠ .ref Du := Rp.not (rT s_K1) h_Du
    have nm_Du : vm ≠ .ref Du := Rp.not (rM s_K1) h_Du
    have no_Du : vd ≠ .ref Du := Rp.not (rD s_K2) h_Du
    have f_Du : Hs Du = none := (domS iv).free h_Du
    have n_Du : Du ≠ b := ivN iv h_Du
    have s_Du : Same G45 (upd G45 Du (.lst [.ref q1, .ref q2, .ref q3, .ref q4])) := Same.upd' (Same.refl _) h_Du
    have q_Du : (upd G45 Du (.lst [.ref q1, .ref q2, .ref q3, .ref q4])) Du = some (.lst [.ref q1, .ref q2, .ref q3, .ref q4]) := upd_same
    generalize (upd G45 Du (.lst [.ref q1, .ref q2, .ref q3, .ref q4])) = G46 at s_Du q_Du ⊢
    have q_o1 := s_Du _ _ q_o1
    have q_F := s_Du _ _ q_F
    have q_o2 := s_Du _ _ q_o2
    have q_o3 := s_Du _ _ q_o3
    have q_o4 := s_Du _ _ q_o4
    have q_q1 := s_Du _ _ q_q1
    have q_q2 := s_Du _ _ q_q2
    have q_q3 := s_Du _ _ q_q3
    have q_q4 := s_Du _ _ q_q4
    have s_K1 := fun a o h => s_Du a o (s_K1 a o h)
    have s_K2 := fun a o h => s_Du a o (s_K2 a o h)
    have iv := ivS iv s_Du
    obtain ⟨sh, ln⟩ := dFl_ok (dt := dt) (dm := dm) (dd := dd) tok.2.2.1.up mok.2.2.1 dok.2.2.2.1.up (w0_ok tok.2.2.2.1 mok.2.2.2.1 dok.2.2.2.2.1)
    refine ⟨_, rfl, F, _, rfl, dFl_rp q_F q_o1 q_o2 q_o3 q_o4 (rT s_K1) (rM s_K1) (rD s_K2), hg, sh, ln, fun G47 eR => ?_⟩
    have q_o1 := eR _ _ q_o1
    have q_F := eR _ _ q_F
    have q_o2 := eR _ _ q_o2
    have q_o3 := eR _ _ q_o3
    have q_o4 := eR _ _ q_o4
    have q_q1 := eR _ _ q_q1
    have q_q2 := eR _ _ q_q2
    have q_q3 := eR _ _ q_q3
    have q_q4 := eR _ _ q_q4
    have q_Du := eR _ _ q_Du
    have s_K1 := fun a o h => eR a o (s_K1 a o h)
    have s_K2 := fun a o h => eR a o (s_K2 a o h)
    have iv := ivS iv eR
    clear eR
    refine ⟨_, rfl, Du, _, rfl, dFl_rp q_Du q_q1 q_q2 q_q3 q_q4 (rT s_K1) (rM s_K1) (rD s_K2), hg, sh, ln, fun G48 eR => ?_⟩
    have q_o1 := eR _ _ q_o1
    have q_F := eR _ _ q_F
    have q_o2 := eR _ _ q_o2
    have q_o3 := eR _ _ q_o3
    have q_o4 := eR _ _ q_o4
    have q_q1 := eR _ _ q_q1
    have q_q2 := eR _ _ q_q2
    have q_q3 := eR _ _ q_q3
    have q_q4 := eR _ _ q_q4
    have q_Du := eR _ _ q_Du
    have s_K1 := fun a o h => eR a o (s_K1 a o h)
    have s_K2 := fun a o h => eR a o (s_K2 a o h)
    have iv := ivS iv eR
    clear eR
    refine ⟨rfl, ?_⟩
    rw [show decide (V.str (shown (.lst (dFl dt dm dd))) = V.str (shown (.lst (dFl dt dm dd)))) = true from decide_eq_true rfl]
    refine ⟨_, rfl, _, rfl, _, rfl, (zk 3 (by decide)), fun Lq h_Lq => ?_⟩
    have nt_Lq : vt ≠ .ref Lq := Rp.not (rT s_K1) h_Lq
    have nm_Lq : vm ≠ .ref Lq := Rp.not (rM s_K1) h_Lq
    have no_Lq : vd ≠ .ref Lq := Rp.not (rD s_K2) h_Lq
    have f_Lq : Hs Lq = none := (domS iv).free h_Lq
    have n_Lq : Lq ≠ b := ivN iv h_Lq
    have s_Lq : Same G48 (upd G48 Lq (.lst [vt, vm, vd])) := Same.upd' (Same.refl _) h_Lq
    have q_Lq : (upd G48 Lq (.lst [vt, vm, vd])) Lq = some (.lst [vt, vm, vd]) := upd_same
    generalize (upd G48 Lq (.lst [vt, vm, vd])) = G49 at s_Lq q_Lq ⊢
    have q_o1 := s_Lq _ _ q_o1
    have q_F := s_Lq _ _ q_F
    have q_o2 := s_Lq _ _ q_o2
    have q_o3 := s_Lq _ _ q_o3
    have q_o4 := s_Lq _ _ q_o4
    have q_q1 := s_Lq _ _ q_q1
    have q_q2 := s_Lq _ _ q_q2
    have q_q3 := s_Lq _ _ q_q3
    have q_q4 := s_Lq _ _ q_q4
    have q_Du := s_Lq _ _ q_Du
    have s_K1 := fun a o h => s_Lq a o (s_K1 a o h)
    have s_K2 := fun a o h => s_Lq a o (s_K2 a o h)
    have iv := ivS iv s_Lq
    let Ob : Hp → Prop := fun A => A Lq = some (.lst [vt, vm, vd]) ∧ A F = some (.lst [.ref o1, .ref o2, .ref o3, .ref o4]) ∧ A Du = some (.lst [.ref q1, .ref q2, .ref q3, .ref q4]) ∧ A o1 = some (.lst [.str "steps", vt]) ∧ A o2 = some (.lst [.str "steps", vm]) ∧ A o3 = some (.lst [.str "text", vd]) ∧ A o4 = some (.lst [.str "text", vd]) ∧ A q1 = some (.lst [.str "steps", vt]) ∧ A q2 = some (.lst [.str "steps", vm]) ∧ A q3 = some (.lst [.str "text", vd]) ∧ A q4 = some (.lst [.str "text", vd])
    let Tr : Nat → Hp → Prop := fun i A => ∃ dt dm dd, Rp C A dt vt ∧ Rp C A dm vm ∧ Rp C A dd vd ∧ gd 3 dt ∧ gd 3 dm ∧ gd 3 dd ∧ NN dt ∧ NN dm ∧ NN dd ∧ wt dt ≤ 5 ^ i * 2000 ∧ wt dm ≤ 5 ^ i * 110000 ∧ wt dd ≤ 5 ^ i * 100
    let Pz : Addr → Prop := fun a => Hs a = none ∧ a ≠ b ∧ a ≠ Lq ∧ a ≠ F ∧ a ≠ Du ∧ a ≠ o1 ∧ a ≠ o2 ∧ a ≠ o3 ∧ a ≠ o4 ∧ a ≠ q1 ∧ a ≠ q2 ∧ a ≠ q3 ∧ a ≠ q4
    have pzT : ∀ a, vt = .ref a → Pz a := fun a z => by
      obtain ⟨u, hu⟩ := Rp.has (z ▸ rT (Sub.refl K1))
      exact ⟨(n_K1 _ _ hu).1, b_K1 _ _ hu, fun e => nt_Lq (e ▸ z), fun e => nt_F (e ▸ z), fun e => nt_Du (e ▸ z), fun e => nt_o1 (e ▸ z), fun e => nt_o2 (e ▸ z), fun e => nt_o3 (e ▸ z), fun e => nt_o4 (e ▸ z), fun e => nt_q1 (e ▸ z), fun e => nt_q2 (e ▸ z), fun e => nt_q3 (e ▸ z), fun e => nt_q4 (e ▸ z)⟩
    have pzM : ∀ a, vm = .ref a → Pz a := fun a z => by
      obtain ⟨u, hu⟩ := Rp.has (z ▸ rM (Sub.refl K1))
      exact ⟨(n_K1 _ _ hu).1, b_K1 _ _ hu, fun e => nm_Lq (e ▸ z), fun e => nm_F (e ▸ z), fun e => nm_Du (e ▸ z), fun e => nm_o1 (e ▸ z), fun e => nm_o2 (e ▸ z), fun e => nm_o3 (e ▸ z), fun e => nm_o4 (e ▸ z), fun e => nm_q1 (e ▸ z), fun e => nm_q2 (e ▸ z), fun e => nm_q3 (e ▸ z), fun e => nm_q4 (e ▸ z)⟩
    have pzD : ∀ a, vd = .ref a → Pz a := fun a z => by
      obtain ⟨u, hu⟩ := Rp.has (z ▸ rK2)
      exact ⟨(domS ivAb).free (n_K2 _ _ hu).1, b_K2 _ _ hu, fun e => no_Lq (e ▸ z), fun e => no_F (e ▸ z), fun e => no_Du (e ▸ z), fun e => no_o1 (e ▸ z), fun e => no_o2 (e ▸ z), fun e => no_o3 (e ▸ z), fun e => no_o4 (e ▸ z), fun e => no_q1 (e ▸ z), fun e => no_q2 (e ▸ z), fun e => no_q3 (e ▸ z), fun e => no_q4 (e ▸ z)⟩
    have obM : ∀ {A : Hp} {a : Addr} {u : HO}, Ob A → Pz a → Ob (upd A a u) := fun {A a u} h z => by
      obtain ⟨h0, h1, h2, h3, h4, h5, h6, h7, h8, h9, h10⟩ := h
      obtain ⟨_, _, z0, z1, z2, z3, z4, z5, z6, z7, z8, z9, z10⟩ := z
      exact ⟨(upd_ne z0.symm).trans h0, (upd_ne z1.symm).trans h1, (upd_ne z2.symm).trans h2, (upd_ne z3.symm).trans h3, (upd_ne z4.symm).trans h4, (upd_ne z5.symm).trans h5, (upd_ne z6.symm).trans h6, (upd_ne z7.symm).trans h7, (upd_ne z8.symm).trans h8, (upd_ne z9.symm).trans h9, (upd_ne z10.symm).trans h10⟩
    have obS : ∀ {A B : Hp}, Ob A → Same A B → Ob B := fun {A B} h e => by
      obtain ⟨h0, h1, h2, h3, h4, h5, h6, h7, h8, h9, h10⟩ := h
      exact ⟨e _ _ h0, e _ _ h1, e _ _ h2, e _ _ h3, e _ _ h4, e _ _ h5, e _ _ h6, e _ _ h7, e _ _ h8, e _ _ h9, e _ _ h10⟩
    have trM : ∀ {i : Nat} {A : Hp} {a : Addr} {vs : List V} {ds : List D}, Tr i A → A a = some (.lst vs) → RpL C A ds vs → NN (.lst ds) → Tr (i + 1) (upd A a (.lst (vs ++ [lateV]))) := fun {i A a vs ds} h ha r hn => by
      obtain ⟨d1, d2, d3, r1, r2, r3, g1, g2, g3, m1, m2, m3, w1, w2, w3⟩ := h
      have lt := late_tree (C := C) ha (fun cs hc => nn_vals r hn hc.2.2.1) 3
      obtain ⟨e1, x1, x2, x3, _, x5⟩ := lt d1 vt g1 r1
      obtain ⟨e2, y1, y2, y3, _, y5⟩ := lt d2 vm g2 r2
      obtain ⟨e3, u1, u2, u3, _, u5⟩ := lt d3 vd g3 r3
      have hp : 5 ^ (i + 1) = 5 * 5 ^ i := (Nat.pow_succ ..).trans (Nat.mul_comm ..)
      refine ⟨e1, e2, e3, x1, y1, u1, x2, y2, u2, x5 m1, y5 m2, u5 m3, ?_, ?_, ?_⟩
      all_goals rw [hp, Nat.mul_assoc]
      · exact Nat.le_trans x3 (Nat.mul_le_mul_left 5 w1)
      · exact Nat.le_trans y3 (Nat.mul_le_mul_left 5 w2)
      · exact Nat.le_trans u3 (Nat.mul_le_mul_left 5 w3)
    have trS : ∀ {i : Nat} {A : Hp}, Tr i A → Tr (i + 1) A := fun {i A} h => by
      obtain ⟨d1, d2, d3, r1, r2, r3, g1, g2, g3, m1, m2, m3, w1, w2, w3⟩ := h
      have hle : 5 ^ i ≤ 5 ^ (i + 1) := Nat.pow_le_pow_right (by decide) (Nat.le_succ i)
      exact ⟨d1, d2, d3, r1, r2, r3, g1, g2, g3, m1, m2, m3, Nat.le_trans w1 (Nat.mul_le_mul_right _ hle), Nat.le_trans w2 (Nat.mul_le_mul_right _ hle), Nat.le_trans w3 (Nat.mul_le_mul_right _ hle)⟩
    have trE : ∀ {i : Nat} {A B : Hp}, Tr i A → Same A B → Tr i B := fun {i A B} h e => by
      obtain ⟨d1, d2, d3, r1, r2, r3, r⟩ := h
      exact ⟨d1, d2, d3, r1.mono e, r2.mono e, r3.mono e, r⟩
    have tr0 : Tr 0 G49 := ⟨dt, dm, dd, rT s_K1, rM s_K1, rD s_K2, tok.2.2.1.up, mok.2.2.1, dok.2.2.2.1.up, tok.2.2.2.2, mok.2.2.2.2, dok.2.2.2.2.2, by have := tok.2.2.2.1; simpa using this, by have := mok.2.2.2.1; simpa using this, by have := dok.2.2.2.2.1; simpa using this⟩
    have ob0 : Ob G49 := ⟨q_Lq, q_F, q_Du, q_o1, q_o2, q_o3, q_o4, q_q1, q_q2, q_q3, q_q4⟩
    refine ⟨Lq, rfl, ⟨_, SqL.of q_Lq⟩, for_it (walk_list (xs := [vt, vm, vd])) (fun i σ A => ∃ x11, σ = [some (.ref b), some (.ref sa), some (.str (stepText (stD st))), some vo, some (.ref Ls), some vt, some vm, some (.ref F), some vd, some (.ref Du), some (.bl true), x11] ∧ Iv (n + 40 + 1 + 1 + 1) A ∧ Ob A ∧ Tr i A) ⟨none, rfl, iv, ob0, tr0⟩ (fun _ _ _ _ h => let ⟨_, _, _, h, _⟩ := h; SqL.of h.1) (fun i x σ A0 A hi hq y => ?_) fun σ A hq => ?_⟩
    · obtain ⟨x11, rfl, ivA, obA, trA⟩ := hq
      obtain ⟨rfl, hy⟩ := y
      have hy : ([vt, vm, vd] : List V)[i]? = some x := hy
      obtain ⟨d, rd, nd, pzx⟩ : ∃ d, Rp C A d x ∧ NN d ∧ ∀ a, x = .ref a → Pz a := by
        obtain ⟨d1, d2, d3, r1, r2, r3, g1, g2, g3, m1, m2, m3, _⟩ := trA
        exact pick3 (P := fun z => ∃ d, Rp C A d z ∧ NN d ∧ ∀ a, z = .ref a → Pz a) hy ⟨d1, r1, m1, pzT⟩ ⟨d2, r2, m2, pzM⟩ ⟨d3, r3, m3, pzD⟩
      refine ⟨_, rfl, _, _, _, _, _, rfl, .ty "list", rd.ty IC, kit_list IC d, _, rfl, ?_⟩
      cases d with
      | lst ds =>
        obtain ⟨a, vs, rfl, ha, rl⟩ := rd
        have pz := pzx a rfl
        have rx : Rp C A (.lst ds) (.ref a) := ⟨a, vs, rfl, ha, rl⟩
        have key : ∀ (d0 : D) (v0 : V) (B : Nat), Rp C A d0 v0 → v0 = .ref a → wt d0 ≤ 5 ^ i * B → B ≤ 110000 → wtL ds ≤ 25 * 110000 := fun d0 v0 B r0 z w0 hB => by
          subst z
          rw [Rp.uniq r0 rx, wt] at w0
          exact key_ok hi w0 hB
        have lv : vs.length < sizeLine := lv_ok rl (by
          obtain ⟨d1, d2, d3, r1, r2, r3, g1, g2, g3, m1, m2, m3, w1, w2, w3⟩ := trA
          exact pick3 (P := fun z => z = .ref a → wtL ds ≤ 25 * 110000) hy (fun z => key d1 vt 2000 r1 z w1 (of_decide_eq_true rfl)) (fun z => key d2 vm 110000 r2 z w2 (Nat.le_refl _)) (fun z => key d3 vd 100 r3 z w3 (of_decide_eq_true rfl)) rfl)
        refine ifT rfl ⟨_, rfl, .inl ⟨rfl, _, SqL.of ha⟩, a, vs, _, rfl, rfl, ha, lv, _, rfl, ?_, obM obA pz, trM trA ha rl nd⟩
        exact ivM ivA pz.1 pz.2.1 ha True.intro
      | non => exact ifF rfl ⟨_, rfl, ivA, obA, trS trA⟩
      | bl _ => exact ifF rfl ⟨_, rfl, ivA, obA, trS trA⟩
      | int _ => exact ifF rfl ⟨_, rfl, ivA, obA, trS trA⟩
      | str _ => exact ifF rfl ⟨_, rfl, ivA, obA, trS trA⟩
      | tup _ => exact ifF rfl ⟨_, rfl, ivA, obA, trS trA⟩
      | ord _ => exact ifF rfl ⟨_, rfl, ivA, obA, trS trA⟩
      | emp => exact ifF rfl ⟨_, rfl, ivA, obA, trS trA⟩
    · obtain ⟨x11, rfl, ivA, obA, trA⟩ := hq
      have trA : Tr 3 A := trA
      refine ⟨_, rfl, true, rfl, ifT rfl ?_⟩
      obtain ⟨d1, d2, d3, r1, r2, r3, g1, g2, g3, m1, m2, m3, w1, w2, w3⟩ := trA
      obtain ⟨sh2, ln2⟩ := dFl_ok (dt := d1) (dm := d2) (dd := d3) g1 g2 g3 (w3_ok w1 w2 w3)
      obtain ⟨h_Lq, h_F, h_Du, h_o1, h_o2, h_o3, h_o4, h_q1, h_q2, h_q3, h_q4⟩ := id obA
      refine ⟨_, rfl, F, _, rfl, dFl_rp h_F h_o1 h_o2 h_o3 h_o4 r1 r2 r3, hg, sh2, ln2, fun B eB => ?_⟩
      obtain ⟨h_Lq, h_F, h_Du, h_o1, h_o2, h_o3, h_o4, h_q1, h_q2, h_q3, h_q4⟩ := obS obA eB
      refine ⟨_, rfl, Du, _, rfl, dFl_rp h_Du h_q1 h_q2 h_q3 h_q4 (r1.mono eB) (r2.mono eB) (r3.mono eB), hg, sh2, ln2, fun B2 eB2 => ?_⟩
      refine ⟨rfl, ?_⟩
      have e : decide (V.str (shown (.lst (dFl d1 d2 d3))) = V.str (shown (.lst (dFl d1 d2 d3)))) = true := decide_eq_true rfl
      rw [e]
      have ivB := ivS (ivS ivA eB) eB2
      exact q B2 ivB.1 (ivB.2.1.more b50) ivB.2.2

end
end SO
end
section
/-! k78, part Q7: law -/
set_option maxHeartbeats 4000000
namespace SO
open PySem PySem.Spec PyProof.Rows L2 LamX XF

/-- f(e, ..), f's promise sees what is around -/
theorem pe_callG {X : Cx} {k : Nat} {f : Addr} {fd : FuncData} {ps : List Str} {sp : SpG} {x : Str} {p pos : Pos} {e : Expr} {es : List Expr} {t : TA} (F : FnG X.prog X.w X.K X.mg X.base C8.CX0 k f fd ps sp) (hr : Room k X.A) (hm : X.mg x = some (.ref f)) (hk : PySem.W.keepIn X.K (.ref f) = true) (hb : Binds X.K fd ps [])
    (ha : PA X (e :: es) t) (hg : Gl X x := by rfl) (hdb : (x == ("__debug__" : Str)) = false := by decide) (he : starEach (e :: es) X.env = (false, eval e X.env) :: starEach es X.env := by rfl) (hpl : (backTo pos (starEach es X.env)).any (·.1) = false := by rfl) :
    PE X (.Call (.Name x p) (e :: es) [] pos) (fun σ H Q => t σ H fun vs H1 => sp X.A vs H1 Q C8.E0) := by
  refine ⟨fun pins s σ H Q I h => wpAny_Call_Name_kw (ld_glob I hg hm ?_ hdb)⟩
  refine PySem.W.callWith_K (h₀ := X.base) I.ok.mod.kin hk (thn (ha.run pos pins s σ H _ I h) fun us s1 ⟨vs, H1, I1, r, q⟩ => ⟨I1.kIn, ?_⟩) he hpl
  have hl : us.length = ps.length := by rw [← r.length]; exact F.len _ _ _ _ _ q
  have hb1 : BindsTo s1 fd ⟨us, []⟩ (ps.zip us) := by
    have := hb s1 us I1.kIn (by rw [List.append_nil]; exact hl)
    rwa [List.append_nil] at this
  show wpAny _ _ (call (.ref f) ([] ++ us)) _ _ _
  rw [List.nil_append]
  refine wpAny_call (codeAny_mono (F.run X.A X.stack s1 H1 ⟨us, []⟩ us vs Q C8.E0 hr I1.env0 hb1 r q) fun r s' hq => ?_)
  cases r with
  | error e => exact (show False from hq).elim
  | ok fl =>
    cases fl with
    | ret u => exact I1.after hq
    | next => exact False.elim hq
    | brk => exact False.elim hq
    | cont => exact False.elim hq
theorem sqL_sameT {K : PySem.W.Frag} {H H' : Hp} {a b : Addr} {xs : List V} (h : SqL K H a xs) (e : SameT b H H') (hb : H b = none ∨ a ≠ b) : SqL K H' a xs := by
  rcases h with (h | ⟨o, h⟩) | h
  · exact .inl (.inl (e _ _ (hb.elim (fun z q => by rw [q, z] at h; cases h) id) h (fun _ z => nomatch z)))
  · exact .inl (.inr ⟨o, e _ _ (hb.elim (fun z q => by rw [q, z] at h; cases h) id) h (fun _ z => nomatch z)⟩)
  · exact .inr h
abbrev sLaw : Stmt := topS 50
theorem scLaw : FnScope ["_law_script", "_law_k", "_law_box_here", "_law_turn"] ["_law_script"] (defScope sLaw) := ⟨rfl, rfl, rfl, by decide +kernel, rfl, by decide +kernel, by decide +kernel⟩
def spLaw (K : PySem.W.Frag) (T : List (Addr × Str)) : SpG := fun A vs H Q _ => ∃ (a : Addr) (ns : List Int), vs = [.ref a] ∧ A.guards = some [] ∧ SqL K H a (ns.map V.int) ∧ ns.length ≤ 63 ∧ Tabs T H ∧ ∀ H', Q (.bl true) H'
section
variable {P : Program} {w : World} {K : PySem.W.Frag} {mg : Str → Option Value} {base : Heap} {C CT CI CS : Addr}
theorem ok_law {f : Addr} {fd : FuncData} {T : List (Addr × Str)} (F : Fun K "law" "law" sLaw f fd) (TX : Txt K mg C) {fr : Addr} {fdr : FuncData}
    (FC : Fk P w K mg base C8.CX0 1 "_law_cell" ["_law_script", "_law_k"] (spCell K)) (FB : Fk P w K mg base C8.CX0 1 "_law_box" ["_law_cell_here"] spBox) (FK : Fk P w K mg base C8.CX0 1 "_law_take" ["_law_box_here", "_law_many"] spTake)
    (FR : Fk P w K mg base C8.CX0 11 "_law_right" ["_law_box_here", "_law_many"] (spRight T)) (FH : Fk P w K mg base C8.CX0 10 "_law_hundred_right" ["_law_box_here"] (spHundred T))
    (FF : FnG P w K mg base C8.CX0 11 fr fdr ["_law_box_here"] (spRefused T)) (mF : mg "_law_refused_right" = some (.ref fr)) (kF : PySem.W.keepIn K (.ref fr) = true) (bF : Binds K fdr ["_law_box_here"] []) :
    FnG P w K mg base C8.CX0 12 f fd ["_law_script"] (spLaw K T) := by
  refine funG_ok F scLaw (fun A vs H Q E h => ?_) (fun cdv A outer s H vs Q E hr h => ?_)
  · obtain ⟨a, ns, rfl, _⟩ := h
    rfl
  · obtain ⟨a, ns, rfl, hg, hs, hl, ht, q⟩ := h
    refine ⟨_, pss_cons (ps_for PassesOwn.never rfl (pi_range1 (by rfl) TX.range (pa_cons (pe_callB (call_max2 rfl) (by rfl) TX.max PyProof.Rows.boot_max (pa_cons pe_int (pa_cons (pe_callB (call_min2 rfl) (by rfl) TX.min PyProof.Rows.boot_min (pa_cons pe_int (pa_cons (pe_callB call_len (by rfl) TX.len PySem.boot_len (pa_cons (pv 0) pa_nil)) pa_nil))) pa_nil))) pa_nil)) (pg_name (i := 1) scLaw.nd rfl (Or.inl rfl))
          (pss_cons (ps_set (i := 2) scLaw.nd rfl (Or.inl rfl) (pcall FB (hr.mono (by decide)) (pa_cons (pcall FC (hr.mono (by decide)) (pa_cons (pv 0) (pa_cons (pv 1) pa_nil))) pa_nil)))
          (pss_cons (ps_for PassesOwn.never rfl (pi_range1 (by rfl) TX.range (pa_cons pe_int pa_nil)) (pg_name (i := 3) scLaw.nd rfl (Or.inl rfl))
            (pss_one (ps_if (PW.pt (pw_or (pt_not (pt_val (pcall FR (hr.mono (by decide)) (pa_cons (pv 2) (pa_cons (pcall FK (hr.mono (by decide)) (pa_cons (pv 2) (pa_cons pe_int pa_nil))) pa_nil))))) (pw_or1 (pt_not (pt_val (pe_callG FF (hr.mono (by decide)) mF kF bF (pa_cons (pv 2) pa_nil))))))) (pss_one (ps_ret pe_bl)) pss_nil)))
          (pss_one (ps_if (pt_not (pt_val (pcall FH (hr.mono (by decide)) (pa_cons (pv 2) pa_nil)))) (pss_one (ps_ret pe_bl)) pss_nil)))))
      (pss_one (ps_ret pe_bl)), ?_⟩
    obtain ⟨N, hN, h5⟩ : ∃ N : Nat, (if (if ((ns.map V.int).length : Int) < 5 then ((ns.map V.int).length : Int) else 5) > 2 then (if ((ns.map V.int).length : Int) < 5 then ((ns.map V.int).length : Int) else 5) else 2) = (N : Int) ∧ N ≤ 5 := by
      refine ⟨(if (if ((ns.map V.int).length : Int) < 5 then ((ns.map V.int).length : Int) else 5) > 2 then (if ((ns.map V.int).length : Int) < 5 then ((ns.map V.int).length : Int) else 5) else 2).toNat, ?_, ?_⟩
      · repeat' split
        all_goals omega
      · repeat' split
        all_goals omega
    refine ⟨_, rfl, _, _, rfl, .inl ⟨_, hs, rfl⟩, _, _, rfl, _, _, rfl, ?_⟩
    rw [hN]
    refine ⟨(N : Int), rfl, (by omega), (by omega), for_it (walk_range (lo := 0) (n := N)) (fun i σ H' => ∃ x1 x2 x3, σ = [some (.ref a), x1, x2, x3] ∧ SqL K H' a (ns.map V.int) ∧ Tabs T H') ⟨none, none, none, rfl, hs, ht⟩ (fun _ _ _ _ _ => True.intro) (fun i x σ H1 H1' hi hp y => ?_) fun σ H1 hp => ?_⟩
    · obtain ⟨x1, x2, x3, rfl, hs1, ht1⟩ := hp
      obtain ⟨rfl, rfl⟩ := y
      have zi : (0 : Int) + (i : Nat) = (i : Nat) := by omega
      show gName 1 (V.int ((0 : Int) + (i : Nat))) _ _ _
      rw [zi]
      refine ⟨_, rfl, _, rfl, a, ns, i, rfl, hs1, by omega, fun c => ⟨c, rfl, fun b H2 hb0 e2 bx2 => ?_⟩⟩
      have hs2 : SqL K H2 a (ns.map V.int) := hs1.ext e2
      have ht2 : Tabs T H2 := ht1.ext e2
      have fresh : ∀ {H' : Hp}, SameT b H2 H' → SqL K H' a (ns.map V.int) := fun e => sqL_sameT (b := b) hs1 (fun a' o na ho nt => e a' o na (e2 _ _ ho) nt) (.inl hb0)
      refine ⟨_, rfl, by decide, by decide, for_it (walk_range (lo := 0) (n := 3)) (fun j σ H' => ∃ x3, σ = [some (.ref a), some (.int (i : Nat)), some (.ref b), x3] ∧ SameT b H2 H' ∧ Bx H' b (j * 500) ∧ Tabs T H') ⟨x3, rfl, SameT.refl _ _, bx2.more (by omega), ht2⟩ (fun _ _ _ _ _ => True.intro) (fun j x σ H3 H3' hj hq y => ?_) fun σ H3 hq => ?_⟩
      · obtain ⟨x3, rfl, sb3, bx3, t3⟩ := hq
        obtain ⟨rfl, rfl⟩ := y
        refine ⟨_, rfl, _, rfl, b, 10, j * 500, rfl, bx3, by omega, by decide, by decide, fun m H4 hm sb4 bx4 => ?_⟩
        have t4 := Tabs.sameB t3 bx3 sb4
        refine ⟨b, j * 500 + 1, m, rfl, by omega, bx4, by omega, t4, fun H5 sb5 bx5 t5 => ⟨_, rfl, ifF rfl ?_⟩⟩
        refine ⟨_, rfl, b, j * 500 + 1 + 400, rfl, hg, bx5, by omega, t5, fun H6 sb6 bx6 t6 => ⟨_, rfl, ifF rfl ?_⟩⟩
        exact ⟨_, rfl, ((sb3.trans (.ofB sb4)).trans sb5).trans sb6, bx6.more (by omega), t6⟩
      · obtain ⟨x3, rfl, sb3, bx3, t3⟩ := hq
        refine ⟨_, rfl, b, 3 * 500, rfl, bx3, by omega, t3, fun H4 sb4 bx4 t4 => ⟨_, rfl, ifF rfl ?_⟩⟩
        exact ⟨_, _, _, rfl, fresh (sb3.trans sb4), t4⟩
    · obtain ⟨x1, x2, x3, rfl, hs1, ht1⟩ := hp
      exact q H1
end
end SO
end
section
/-! k78, the end: a law whose promise sees what is around -/
set_option maxHeartbeats 4000000
namespace SO
open PySem PySem.Spec PyProof.Rows L2 LamX XF

/-- what the tracked heap is at the law's call: the tables, the script where the top did not write it -/
def startH (K : PySem.W.Frag) (tb : List Addr) (a : Addr) (vs : List Value) (ns : List Int) : Hp := fun b =>
  if b ∈ tb then some (.tbl #[]) else if b = a ∧ (K.lookup a).isNone = true then some (.frz { cls := .type "list", data := .seq vs.toArray } (.lst (ns.map V.int))) else none
theorem startH_some {K : PySem.W.Frag} {tb : List Addr} {a b : Addr} {vs : List Value} {ns : List Int} {u : HO} (h : startH K tb a vs ns b = some u) :
    (b ∈ tb ∧ u = .tbl #[]) ∨ (b = a ∧ K.lookup a = none ∧ u = .frz { cls := .type "list", data := .seq vs.toArray } (.lst (ns.map V.int))) := by
  unfold startH at h
  split at h
  · rename_i z; cases h; exact .inl ⟨z, rfl⟩
  · split at h
    · rename_i z; cases h; exact .inr ⟨z.1, Option.isNone_iff_eq_none.mp z.2, rfl⟩
    · cases h
theorem callG {P : Program} {w : World} {K : PySem.W.Frag} {mg mb : Str → Option Value} {k : Nat} {fa a : Addr} {cs : List (Addr × Addr)} {fd : FuncData} {x : Str} {sp : SpG} {s₁ : Shared} {vs : List Value} {ns : List Int}
    (KX : K.In s₁.heap) (hns : s₁.heap.Ns mainGlobals mg) (hb : s₁.heap.Ns builtinsNs mb) (hbb : ∀ x : Str, x ≠ "__name__" → mb x = bootBuiltins x) (hlim : s₁.heap.NoLimit) (hg : s₁.gens = #[])
    (hT : ∀ p ∈ cs, s₁.heap.get? p.2 = some { cls := .none, data := .fields #[] }) (nT : ∀ p ∈ cs, K.lookup p.2 = none) (hC : ∀ p ∈ cs, PySem.W.CodeHd s₁.heap p.1 p.2)
    (hbm : ∃ (bm : Addr) (ob : Obj), mg "__builtins__" = some (.ref bm) ∧ bm ≠ builtinsNs ∧ s₁.heap.get? bm = some ob ∧ ob.cls = .type "module" ∧ ob.dict = some builtinsNs ∧ ob.data = .plain)
    (ha : s₁.heap.get? a = some { cls := .type "list", data := .seq vs.toArray }) (hi : IntsAre vs ns) (hl : ns.length ≤ sizeLine) (hr : Room k callerA)
    (F : ∀ base : Heap, K.In base → base.Ns mainGlobals mg → (∀ p ∈ cs, TabB base mg p.1 p.2) → FnG P w K mg base C8.CX0 k fa fd [x] sp) (hbind : ∀ (s : Shared) (u : Value), BindsTo s fd ⟨[u], []⟩ [(x, u)])
    (hsp : ∀ H : Hp, (∀ p ∈ cs, H p.2 = some (.tbl #[])) → SqL K H a (ns.map V.int) → sp callerA [.ref a] H (fun v _ => v = .bl true) fun _ _ _ => False) :
    codeAny (model P w) callerA (.call (.ref fa) ⟨[.ref a], []⟩) (fun r s' => r = .ok (.ret (.bool true)) ∧ OldK s₁.heap s'.heap ∧ s'.os = s₁.os ∧ AllBare s'.gens) s₁ := by
  have intv := vals_ints hi
  have lv : vs.length = ns.length := hi.length
  have hz : vs.toArray.size ≤ sizeLine := by rw [List.size_toArray, lv]; exact hl
  generalize etb : cs.map (·.2) = tb
  have inT : ∀ b ∈ tb, ∃ p ∈ cs, p.2 = b := fun b hb => by
    rw [← etb] at hb
    obtain ⟨p, hp, e⟩ := List.mem_map.mp hb
    exact ⟨p, hp, e⟩
  have memT : ∀ p ∈ cs, p.2 ∈ tb := fun p hp => by rw [← etb]; exact List.mem_map_of_mem hp
  have objT : ∀ b ∈ tb, s₁.heap.get? b = some { cls := .none, data := .fields #[] } := fun b hb => by
    obtain ⟨p, hp, rfl⟩ := inT b hb
    exact hT p hp
  have aT : a ∉ tb := fun z => by
    have q := objT a z
    rw [ha] at q
    exact nomatch (congrArg Obj.data (Option.some.inj q))
  generalize eH : startH K tb a vs ns = H
  have hsome : ∀ {b u}, H b = some u → (b ∈ tb ∧ u = .tbl #[]) ∨ (b = a ∧ K.lookup a = none ∧ u = .frz { cls := .type "list", data := .seq vs.toArray } (.lst (ns.map V.int))) := fun h => startH_some (eH ▸ h)
  have Htab : ∀ b ∈ tb, H b = some (.tbl #[]) := fun b hb => by rw [← eH]; exact if_pos hb
  have ok : HOk P w H s₁.heap := fun b u h => by
    rcases hsome h with ⟨h1, rfl⟩ | ⟨rfl, _, rfl⟩
    · exact objT b h1
    · exact ⟨ha, by rw [List.length_map]; exact hl, vs, _, intv, ha⟩
  -- what is neither a table nor the script stands untracked
  have free : ∀ {b : Addr} {o : Obj}, s₁.heap.get? b = some o → (∀ ws n, o.data ≠ .seq ws n) → o.data ≠ .fields #[] → H b = none := fun {b o} e h1 h2 => by
    cases q : H b with
    | none => rfl
    | some u =>
      exfalso
      rcases hsome q with ⟨z, _⟩ | ⟨z, _⟩
      · rw [objT b z] at e; cases e; exact h2 rfl
      · rw [z, ha] at e; cases e; exact h1 _ _ rfl
  have freeD : ∀ {b : Addr} {o : Obj} {es : Array DictEntry} {ep : Nat}, s₁.heap.get? b = some o → o.data = .dict es ep → H b = none := fun e d => free e (fun ws n z => by rw [d] at z; cases z) (fun z => by rw [d] at z; cases z)
  generalize eB : hidT s₁.heap H = base
  have toB : ∀ {b : Addr} {o : Obj}, s₁.heap.get? b = some o → H b = none → base.get? b = some o := fun e n => by rw [← eB]; exact hidT_get e n
  have ofB : ∀ {b : Addr} {o : Obj}, base.get? b = some o → s₁.heap.get? b = some o ∧ H b = none := fun e => of_hidT (eB ▸ e)
  have nsB : ∀ {b : Addr} {m : Str → Option Value}, s₁.heap.Ns b m → base.Ns b m := fun ⟨o, es, ep, e, d, r⟩ => ⟨o, es, ep, toB e (freeD e d), d, r⟩
  have KB : K.In base := fun b o e => toB (KX b o e) (by
    cases q : H b with
    | none => rfl
    | some u =>
      rcases hsome q with ⟨z, _⟩ | ⟨z, y, _⟩
      · obtain ⟨p, hp, rfl⟩ := inT b z
        rw [nT p hp] at e; cases e
      · rw [z, y] at e; cases e)
  have MB : L2.Mod K mg base := ⟨KB, nsB hns, ⟨mb, nsB hb, hbb⟩, let ⟨mc, h1, h2⟩ := hlim; ⟨mc, nsB h1, h2⟩⟩
  have TB : ∀ p ∈ cs, TabB base mg p.1 p.2 := fun p hp => by
    have hTp := hT p hp
    refine ⟨?_, ?_, fun z => ?_⟩
    · obtain ⟨o, us, file, tf, flags, tg, inF, text, tt, e1, r1, r2, r3, r⟩ := hC p hp
      refine ⟨o, us, file, tf, flags, tg, inF, text, tt, toB e1 (free e1 (fun ws n z => by rw [r2] at z; cases z) fun z => ?_), r1, r2, r3, r⟩
      rw [r2] at z; cases z; simp at r3
    · obtain ⟨bm, ob, b1, b2, b3, b4, b5, b6⟩ := hbm
      refine ⟨bm, ob, b1, b2, fun q => ?_, fun q => ?_, toB b3 (free b3 (fun ws n z => by rw [b6] at z; cases z) fun z => by rw [b6] at z; cases z), b4, b5, b6⟩
      · obtain ⟨o, es, ep, e, hd, _⟩ := hns
        rw [q, e] at b3; cases b3
        rw [hd] at b6; cases b6
      · rw [q, hTp] at b3; cases b3
        cases b6
    · obtain ⟨o, es, ep, e, hd, _⟩ := hns
      rw [z, hTp] at e; cases e
      cases hd
  have e0 : Env0 P w K mg base callerA [] s₁ H := ⟨rfl, MB, fun b o e => ofB e, by rw [← eB]; exact Nat.le_of_eq (hidT_size _ _), trivial, fun b hb => absurd (show b ∈ ([] : List Addr) from hb) (by simp), ok, .of_eq hg⟩
  have sq : SqL K H a (ns.map V.int) := by
    cases hk : K.lookup a with
    | some o =>
      have e := KX a o hk
      rw [ha] at e
      cases e
      exact .inr ⟨_, vs.toArray, _, hk, rfl, rfl, rfl, hz, by simpa using intv⟩
    | none =>
      refine .inl (.inr ⟨{ cls := .type "list", data := .seq vs.toArray }, ?_⟩)
      rw [← eH]
      unfold startH
      rw [if_neg aT, if_pos ⟨rfl, by rw [hk]; rfl⟩]
  refine codeAny_mono ((F base KB (nsB hns) TB).run callerA [] s₁ H ⟨[.ref a], []⟩ [.ref a] [.ref a] _ _ hr e0 (hbind s₁ (.ref a)) (.cons rfl .nil) (hsp H (fun p hp => Htab _ (memT p hp)) sq)) fun r s' h => ?_
  cases r with
  | error e => exact (show False from h).elim
  | ok fl =>
    cases fl with
    | next => exact False.elim h
    | brk => exact False.elim h
    | cont => exact False.elim h
    | ret u =>
      obtain ⟨v, H', os, bare, un, ok', r', q⟩ := h
      have q' : v = .bl true := q
      subst q'
      obtain rfl : u = Value.bool true := r'
      have keeps : ∀ b o, b ∉ tb → s₁.heap.get? b = some o → s'.heap.get? b = some o := fun b o nb e => by
        cases y : H b with
        | none => exact un.keep b o e y (fun z => absurd (show b ∈ ([] : List Addr) from z) (by simp)) (by simp)
        | some u =>
          rcases hsome y with ⟨z, _⟩ | ⟨rfl, _, rfl⟩
          · exact absurd z nb
          · obtain ⟨e2, _⟩ := ok' _ _ (un.frzs _ _ _ y)
            rw [ha] at e
            cases e
            exact e2
      have grown : ∀ b ∈ tb, ∃ more : Array Value, s'.heap.get? b = some { cls := .none, data := .fields more } := fun b hb => by
        obtain ⟨more, z⟩ := un.tbls b #[] (Htab b hb)
        exact ⟨_, ok' b _ z⟩
      refine ⟨rfl, ⟨fun b o e => ?_, fun b o e => ?_⟩, os, bare⟩
      · by_cases hb : b ∈ tb
        · obtain ⟨p, hp, rfl⟩ := inT b hb
          obtain ⟨more, hm⟩ := grown _ hb
          rw [hT p hp] at e
          cases e
          exact .inr (.inl ⟨((hC p hp).tab (hT p hp)).isCodeTable, rfl, #[], more, rfl, by rw [Array.empty_append]; exact hm⟩)
        · exact .inl (keeps b o hb e)
      · by_cases hb : b ∈ tb
        · obtain ⟨more, hm⟩ := grown b hb
          exact ⟨_, hm⟩
        · exact ⟨o, keeps b o hb e⟩
theorem walkG {l : PySem.W.OpenLaw} {n k : Nat} {q : Program} {loose : List Str} {XP : (Str → Option Value) → Heap → Prop} {YP : World → Heap → Prop} {d : DefRec} {x : Str} (hn : l.most = some n) (hn2 : n ≤ sizeLine) (hdf : d.params.defaults = []) (hr : Room k callerA)
    (F : ∀ (w : World) (mg : Str → Option Value) (fa : Addr) (h : Heap), YP w h → h.Ns mainGlobals mg → mg d.name = some (.ref fa) → ∃ (K : PySem.W.Frag) (fd : FuncData) (cs : List (Addr × Addr)) (sp : SpG), K.In h ∧ (∀ p ∈ cs, h.get? p.2 = some { cls := .none, data := .fields #[] }) ∧ (∀ p ∈ cs, K.lookup p.2 = none) ∧
      (∀ p ∈ cs, PySem.W.CodeHd h p.1 p.2) ∧ (∀ (s : Shared) (u : Value), BindsTo s fd ⟨[u], []⟩ [(x, u)]) ∧
      (∀ (H : Hp) (a : Addr) (ns : List Int), ns.length ≤ n → (∀ p ∈ cs, H p.2 = some (.tbl #[])) → SqL K H a (ns.map V.int) → sp callerA [.ref a] H (fun v _ => v = .bl true) fun _ _ _ => False) ∧
      ∀ base : Heap, K.In base → base.Ns mainGlobals mg → (∀ p ∈ cs, TabB base mg p.1 p.2) → FnG l.prog w K mg base C8.CX0 k fa fd [x] sp) :
    PySem.W.WalkO q loose XP YP l.row.toRowW d [] (fun f vs => PySem.call f vs) := by
  refine Att.attach_callB hn hdf fun w s₀ s₁ mg mb fa o pm cd doc a vs ns G Y ho hd hcd hmg hobj hints hlen hbits hg => ?_
  obtain ⟨K, fd, cs, sp, KX, hT, nT, hC, hb, hsp, hF⟩ := F w mg fa _ Y G.T.g hmg
  exact callG KX G.T.g G.T.b G.T.builtins G.T.nolimit hg hT nT hC G.T.bmain hobj hints (Nat.le_trans hlen hn2) hr hF hb (fun H h1 h2 => hsp H a ns hlen h1 h2)
end SO
end
section
/-! k78, the head: facts by names, one kernel run -/
set_option maxHeartbeats 0
namespace SO
open PySem PySem.Spec PyProof.Rows L2 LamX XF
namespace HD
/-- an own exception class that keeps one field -/
def oexB (K : PySem.W.Frag) (C : Addr) : Bool := match K.lookup C with
  | some ⟨.type "type", _, .cls cd, sl⟩ => (match cd.mro, sl.toList with
    | .ref C' :: bm, [_, _, _, _, some (.builtin n), _] => C' == C && (n == "ValueError.__new__" && (!cd.hasDel && (PySem.HandSPX.refsVE bm && cd.hasDict)))
    | _, _ => false)
  | _ => false
theorem oexB_ok {K : PySem.W.Frag} {C : Addr} (q : oexB K C = true) : ∃ nm q N bs bm sn sub ab col dd k0 k1 k2 k3 k5, K.lookup C = some (excClassObj nm q C N bs bm true sn sub ab col dd k0 k1 k2 k3 k5 "ValueError.__new__") ∧ PySem.HandSPX.refsVE bm = true := by
  unfold oexB at q
  split at q
  · rename_i dd cd sl ho
    split at q
    · rename_i C' bm k0 k1 k2 k3 n k5 hm hs
      simp only [Bool.and_eq_true, beq_iff_eq, Bool.not_eq_true'] at q
      obtain ⟨rfl, rfl, hdel, ht, hdc⟩ := q
      obtain ⟨nm, bs, mro, ns, qn, hd, sn, sub, ab, col, del⟩ := cd
      dsimp only at hm hdel hdc
      subst hm hdel hdc
      have hsl : sl = #[k0, k1, k2, k3, some (.builtin "ValueError.__new__"), k5] := by
        obtain ⟨l⟩ := sl
        simp only at hs
        rw [hs]
      subst hsl
      exact ⟨nm, qn, ns, bs, bm, sn, sub, ab, col, dd, k0, k1, k2, k3, k5, ho, ht⟩
    · cases q
  · cases q
def excB (K : PySem.W.Frag) (x : Str) : Bool := oexB K (He.ga K x) && (He.eqO (PySem.W.findIn K (.ref (He.ga K x)) "__setattr__") (some (some (.builtin "object.__setattr__"))) && (decide (PySem.W.subIn K (.ref (He.ga K x)) (.type "BaseException") = some true) && (decide (PySem.W.typeIn K (.ref (He.ga K x)) = some (.type "type")) &&
  (PySem.W.keepIn K (.ref (He.ga K x)) && (xfB K (He.ga K x) && (He.eqO (PySem.W.findIn K (.ref (He.ga K x)) "__init__") (some (some (.ref (He.ma K (He.ga K x) "__init__")))) && decide (PySem.W.typeIn K (.ref (He.ma K (He.ga K x) "__init__")) = some (.type "function"))))))))
theorem excB_ok {K : PySem.W.Frag} {x : Str} (q : excB K x = true) : OexC K (He.ga K x) ∧ XfC K (He.ga K x) ∧ PySem.W.findIn K (.ref (He.ga K x)) "__init__" = some (some (.ref (He.ma K (He.ga K x) "__init__"))) ∧ PySem.W.typeIn K (.ref (He.ma K (He.ga K x) "__init__")) = some (.type "function") := by
  obtain ⟨h1, q⟩ := He.ba q
  obtain ⟨h2, q⟩ := He.ba q
  obtain ⟨h3, q⟩ := He.ba q
  obtain ⟨h4, q⟩ := He.ba q
  obtain ⟨h5, q⟩ := He.ba q
  obtain ⟨h6, q⟩ := He.ba q
  obtain ⟨h7, h8⟩ := He.ba q
  exact ⟨⟨oexB_ok h1, He.eqO_ok h2, of_decide_eq_true h3, of_decide_eq_true h4, h5⟩, xfB_ok h6, He.eqO_ok h7, of_decide_eq_true h8⟩
def baseB (K : PySem.W.Frag) (x : Str) : Bool := PySem.W.readsIn K (He.ga K x) (.type "type") && (He.eqO (PySem.W.specialIn K (.ref (He.ga K x)) "__getattribute__") (some (some (.builtin "type.__getattribute__"))) && (match PySem.W.findCls K (.ref (He.ga K x)) (.type "type") "__init__" with
  | some (.val (.builtin n)) => decide (n = "ValueError.__init__")
  | _ => false))
theorem baseB_ok {K : PySem.W.Frag} {x : Str} (q : baseB K x = true) : BaseC K (He.ga K x) := by
  obtain ⟨h1, q⟩ := He.ba q
  obtain ⟨h2, h3⟩ := He.ba q
  refine ⟨h1, He.eqO_ok h2, ?_⟩
  split at h3
  · rename_i n e
    rw [e, of_decide_eq_true h3]
  · cases h3
abbrev dfn (p : Str × Option Str) (x q : Str) (st : Stmt) (kw : List (Str × He.Dv)) : He.DefD := ⟨p, x, q, defArgs st, defBody st, defScope st, [], kw⟩
def fn : List He.DefD := [
  dfn ("is_name", none) "is_name" "is_name" (topS 14) [],
  dfn ("is_list", none) "is_list" "is_list" (topS 15) [],
  dfn ("split_words", none) "split_words" "split_words" (topS 16) [("separator", .str " ")],
  dfn ("checked_columns", none) "checked_columns" "checked_columns" (topS 19) [],
  dfn ("parse_order", none) "parse_order" "parse_order" (topS 21) [],
  dfn ("is_step", none) "is_step" "is_step" (topS 26) [],
  dfn ("step_text", none) "step_text" "step_text" (topS 30) [],
  dfn ("parse_step", none) "parse_step" "parse_step" (topS 31) [],
  dfn ("steps_text", none) "steps_text" "steps_text" (topS 32) [],
  dfn ("parse_steps", none) "parse_steps" "parse_steps" (topS 33) [],
  dfn ("_law_cell", none) "_law_cell" "_law_cell" (topS 35) [],
  dfn ("_law_box", none) "_law_box" "_law_box" (topS 36) [],
  dfn ("_law_take", none) "_law_take" "_law_take" (topS 37) [],
  dfn ("_law_mixed", none) "_law_mixed" "_law_mixed" (topS 38) [],
  dfn ("_law_columns", none) "_law_columns" "_law_columns" (topS 39) [],
  dfn ("_law_step", none) "_law_step" "_law_step" (topS 40) [],
  dfn ("_law_caught", none) "_law_caught" "_law_caught" (topS 41) [],
  dfn ("_law_named", none) "_law_named" "_law_named" (topS 42) [],
  dfn ("_law_read", none) "_law_read" "_law_read" (topS 43) [],
  dfn ("_law_bent", none) "_law_bent" "_law_bent" (topS 44) [],
  dfn ("_law_due", none) "_law_due" "_law_due" (topS 45) [],
  dfn ("_law_step_told", none) "_law_step_told" "_law_step_told" (topS 46) [],
  dfn ("_law_right", none) "_law_right" "_law_right" (topS 47) [],
  dfn ("_law_refused_right", none) "_law_refused_right" "_law_refused_right" (topS 48) [],
  dfn ("_law_hundred_right", none) "_law_hundred_right" "_law_hundred_right" (topS 49) [],
  dfn ("law", none) "law" "law" (topS 50) [],
  dfn ("Order", some "__init__") "__init__" "Order.__init__" (inClass (topS 20) 0) [],
  dfn ("Order", some "columns") "columns" "Order.columns" (inClass (topS 20) 1) [],
  dfn ("Order", some "__eq__") "__eq__" "Order.__eq__" (inClass (topS 20) 5) [],
  dfn ("Order", some "__str__") "__str__" "Order.__str__" (inClass (topS 20) 6) [],
  dfn ("Order", some "__repr__") "__repr__" "Order.__repr__" (inClass (topS 20) 7) [],
  dfn ("InvalidText", some "__init__") "__init__" "InvalidText.__init__" (inClass (topS 6) 0) [],
  dfn ("InvalidSteps", some "__init__") "__init__" "InvalidSteps.__init__" (inClass (topS 9) 0) [],
  dfn ("InvalidLine", some "__init__") "__init__" "InvalidLine.__init__" (inClass (topS 10) 0) []]
def fa : List He.Fa := [
  .free "isinstance",
  .free "len",
  .free "str",
  .free "list",
  .free "tuple",
  .free "set",
  .free "all",
  .free "range",
  .free "enumerate",
  .free "max",
  .free "min",
  .free "repr",
  .str "LETTERS" letters,
  .int "LONGEST_NAME" 8,
  .int "MOST_COLUMNS" 5,
  .str "BUILD" "build",
  .str "RELAY" "relay",
  .str "DROP" "drop",
  .int "MOST_STEPS" 100,
  .str "TOWARDS" " > ",
  .glo "Order",
  .glo "SearchError",
  .glo "InvalidText",
  .glo "InvalidSteps",
  .glo "InvalidLine",
  .glo "is_name",
  .glo "is_list",
  .glo "split_words",
  .glo "checked_columns",
  .glo "parse_order",
  .glo "is_step",
  .glo "step_text",
  .glo "parse_step",
  .glo "steps_text",
  .glo "parse_steps",
  .glo "_law_cell",
  .glo "_law_box",
  .glo "_law_take",
  .glo "_law_mixed",
  .glo "_law_columns",
  .glo "_law_step",
  .glo "_law_caught",
  .glo "_law_named",
  .glo "_law_read",
  .glo "_law_bent",
  .glo "_law_due",
  .glo "_law_step_told",
  .glo "_law_right",
  .glo "_law_refused_right",
  .glo "_law_hundred_right",
  .glo "law",
  .cls "Order",
  .noat "Order" "own_columns",
  .mkr "Order",
  .meth "Order" "columns",
  .meth "Order" "__eq__",
  .meth "Order" "__str__",
  .meth "Order" "__repr__",
  .exm "InvalidText" "InvalidText" true,
  .exm "InvalidLine" "InvalidText" false,
  .exm "InvalidLine" "InvalidLine" true,
  .exm "InvalidSteps" "InvalidText" false,
  .exm "InvalidSteps" "InvalidLine" false,
  .exm "InvalidSteps" "InvalidSteps" true,
  .noat "InvalidText" "value",
  .noat "InvalidLine" "index",
  .noat "InvalidSteps" "value"]
def exL (K : PySem.W.Frag) : List Bool := [
  He.eqO (PySem.W.findIn K (.ref (He.ga K "Order")) "__class__") (some (some (.builtin "object.__class__"))),
  He.eqO (PySem.W.specialIn K (.builtin "object.__class__") "__get__") (some (some (.builtin "getset_descriptor.__get__"))),
  decide (PySem.W.takesIn K (.builtin "object.__class__") = some true),
  decide (PySem.W.mroIn K (He.ga K "Order") (.type "object") = some true),
  decide (PySem.W.kitOne K (.ref (He.ga K "Order")) (.type "str") = some false),
  decide (PySem.W.kitOne K (.ref (He.ga K "Order")) (.type "list") = some false),
  decide (PySem.W.kitOne K (.ref (He.ga K "Order")) (.type "tuple") = some false),
  decide (PySem.W.kitOne K (.ref (He.ga K "Order")) (.ref (He.ga K "Order")) = some true),
  decide (PySem.W.kitOne K (.type "NoneType") (.ref (He.ga K "Order")) = some false),
  decide (PySem.W.kitOne K (.type "bool") (.ref (He.ga K "Order")) = some false),
  decide (PySem.W.kitOne K (.type "int") (.ref (He.ga K "Order")) = some false),
  decide (PySem.W.kitOne K (.type "str") (.ref (He.ga K "Order")) = some false),
  decide (PySem.W.kitOne K (.type "list") (.ref (He.ga K "Order")) = some false),
  decide (PySem.W.kitOne K (.type "tuple") (.ref (He.ga K "Order")) = some false),
  decide (PySem.W.kitOne K (.type "dict") (.ref (He.ga K "Order")) = some false),
  excB K "InvalidText",
  excB K "InvalidLine",
  excB K "InvalidSteps",
  baseB K "SearchError",
  !decide (He.tabOf K (He.codeOf K ("_law_step_told", none)) = He.tabOf K (He.codeOf K ("_law_right", none))),
  !decide (He.tabOf K (He.codeOf K ("_law_step_told", none)) = He.tabOf K (He.codeOf K ("_law_refused_right", none))),
  !decide (He.tabOf K (He.codeOf K ("_law_step_told", none)) = He.tabOf K (He.codeOf K ("_law_hundred_right", none))),
  !decide (He.tabOf K (He.codeOf K ("_law_right", none)) = He.tabOf K (He.codeOf K ("_law_refused_right", none))),
  !decide (He.tabOf K (He.codeOf K ("_law_right", none)) = He.tabOf K (He.codeOf K ("_law_hundred_right", none))),
  !decide (He.tabOf K (He.codeOf K ("_law_refused_right", none)) = He.tabOf K (He.codeOf K ("_law_hundred_right", none)))]
def tf : List He.Defn := [("_law_step_told", none), ("_law_right", none), ("_law_refused_right", none), ("_law_hundred_right", none)]
abbrev frK (g : Addr → Option Obj) : PySem.W.Frag := He.frT g (PySem.cStatics :: He.asD g 4)
abbrev Al : Type := He.AlD × Bool
def obs (g : Addr → Option Obj) : Al := (He.obsD fa fn (frK g), (exL (frK g)).all id && He.tabsB g tf (frK g))
def val : Al := (He.valD fn, true)
def hk : PySem.W.Hook where
  α := Al
  obs := fun s => obs s.heap.get?
  val := fun _ => val
  says := fun _ h => ∃ g : Addr → Option Obj, (∀ a o, g a = some o → h.get? a = some o) ∧ obs g = val
  of := fun _ s e => ⟨s.heap.get?, fun _ _ h => h, e⟩
  keeps := fun _ _ _ ⟨g, hg, e⟩ k => ⟨g, fun a o h => k _ _ (hg a o h), e⟩
abbrev R : PySem.W.OpenRow := PySem.W.OpenLaw.row PySem.Challenge.rw_searchorders_k78_steps_as_texts
def ob (s : PySem.W.SharedT) : Al := obs (HandSHeadRun.getT s)
theorem ob_eq (s : PySem.W.SharedT) : ob s = hk.obs s.abs := by
  have e : HandSHeadRun.getT s = s.abs.heap.get? := funext (HandSHeadRun.getT_eq s)
  show obs (HandSHeadRun.getT s) = obs s.abs.heap.get?
  rw [e]
def loose : List Str := (["_wall", "SearchError", "MissingError", "StateError", "InvalidName", "InvalidText", "InvalidColumns", "DuplicateName", "InvalidSteps", "InvalidLine", "LETTERS", "LONGEST_NAME", "is_name", "is_list", "split_words", "MOST_COLUMNS", "checked_columns", "Order", "parse_order", "BUILD", "RELAY", "DROP"] : List Str) ++ (["is_step", "MOST_STEPS", "TOWARDS", "step_text", "parse_step", "steps_text", "parse_steps", "_law_cell", "_law_box", "_law_take", "_law_mixed", "_law_columns", "_law_step", "_law_caught", "_law_named", "_law_read", "_law_bent", "_law_due", "_law_step_told", "_law_right", "_law_refused_right", "_law_hundred_right"] : List Str)
theorem run (w : World) : HandSHeadRun.RunEq R (PySem.W.view R.prog [50]) hk ob 4000 loose w := by
  intro os
  kernel_rfl
end HD
end SO
end
section
/-! k78: all joined -/
set_option maxHeartbeats 8000000
namespace SO
open PySem PySem.Spec PyProof.Rows L2 LamX XF
theorem funOf {K : PySem.W.Frag} {x qual : Str} {st : Stmt} {kws : List (Str × V)} {f : Addr} {fd : FuncData} (F : FunD K x qual (defArgs st) (defBody st) (defScope st) [] kws f fd) : L2.Fun K x qual st f fd := by
  obtain ⟨oc, od, dV, kV, doc, pm, an, cdv, ct, osl, rfl, lk, hcd, hD, _⟩ := F.ex
  rcases hD with ⟨_, rfl⟩ | ⟨e, _⟩
  · exact ⟨⟨oc, od, kV, doc, pm, an, cdv, ct, osl, rfl, lk, hcd⟩, F.kp⟩
  · exact absurd rfl e
theorem funLOf {K : PySem.W.Frag} {x : Str} {st : Stmt} {kws : List (Str × V)} {fd : FuncData} (F : FunD K x x (defArgs st) (defBody st) (defScope st) [] kws (He.fAd K (x, none)) fd) : FunL K x st (He.fAd K (x, none)) fd (He.codeOf K (x, none)) := by
  obtain ⟨oc, od, dV, kV, doc, pm, an, cdv, ct, osl, rfl, lk, hcd, hD, _⟩ := F.ex
  rcases hD with ⟨_, rfl⟩ | ⟨e, _⟩
  · obtain ⟨c, rfl⟩ := He.codeIn_ref hcd
    have e := He.codeOf_eq lk (c := c) rfl
    refine ⟨oc, od, kV, doc, pm, an, ct, osl, ?_, lk, ?_⟩
    · rw [e]
    · rw [e]; exact hcd
  · exact absurd rfl e
namespace HD
theorem ex_at {K : PySem.W.Frag} (h : (exL K).all id = true) (i : Nat) {b : Bool} (e : (exL K)[i]? = some b) : b = true := List.all_eq_true.mp h b (List.mem_of_getElem? e)
/-- the whole law -/
theorem all_ok {P : Program} {w : World} {h : Heap} {mg : Str → Option Value} {f : Addr} {g : Addr → Option Obj} (hgh : ∀ a o, g a = some o → h.get? a = some o) (G : h.Ns mainGlobals mg) (hfa : mg "law" = some (.ref f)) (e : obs g = val) :
    ∃ (K : PySem.W.Frag) (fd : FuncData) (cs : List (Addr × Addr)) (sp : SpG), K.In h ∧ (∀ p ∈ cs, h.get? p.2 = some { cls := .none, data := .fields #[] }) ∧ (∀ p ∈ cs, K.lookup p.2 = none) ∧ (∀ p ∈ cs, PySem.W.CodeHd h p.1 p.2) ∧ (∀ (s : Shared) (u : Value), BindsTo s fd ⟨[u], []⟩ [("_law_script", u)]) ∧
      (∀ (H : Hp) (a : Addr) (ns : List Int), ns.length ≤ 63 → (∀ p ∈ cs, H p.2 = some (.tbl #[])) → SqL K H a (ns.map V.int) → sp callerA [.ref a] H (fun v _ => v = .bl true) fun _ _ _ => False) ∧
      ∀ base : Heap, K.In base → base.Ns mainGlobals mg → (∀ p ∈ cs, TabB base mg p.1 p.2) → FnG P w K mg base C8.CX0 12 f fd ["_law_script"] sp := by
  have e1 : He.SaysD fa fn (frK g) := congrArg (fun z : Al => z.1) e
  have e2 : ((exL (frK g)).all id && He.tabsB g tf (frK g)) = true := congrArg (fun z : Al => z.2) e
  obtain ⟨ex, tb⟩ := He.ba e2
  have KX : (frK g).In h := fun a o q => hgh _ _ (He.frT_mem q).1
  have tabF : ∀ p ∈ tf, PySem.W.codeHdIn (frK g) (He.cT (frK g) p).1 (He.cT (frK g) p).2 = true ∧ g (He.cT (frK g) p).2 = some { cls := .none, data := .fields #[] } ∧ (frK g).lookup (He.cT (frK g) p).2 = none := fun p hp => by
    obtain ⟨h3, h4⟩ := He.ba (List.all_eq_true.mp tb p hp)
    cases q : g (He.cT (frK g) p).2 with
    | none => rw [q] at h4; cases h4
    | some o =>
      rw [q] at h4
      refine ⟨h3, by rw [He.emptyTab_eq h4], He.frT_none q h4⟩
  generalize eK : frK g = K at e1 ex tabF KX
  clear e2 tb
  obtain ⟨fd_is_name, D_is_name⟩ := e1.def_ 0 (d := dfn ("is_name", none) "is_name" "is_name" (topS 14) []) rfl
  have D_is_name : FunD K "is_name" "is_name" (defArgs (topS 14)) (defBody (topS 14)) (defScope (topS 14)) [] [] (He.fAd K ("is_name", none)) fd_is_name := D_is_name
  have F_is_name : L2.Fun K "is_name" "is_name" (topS 14) (He.fAd K ("is_name", none)) fd_is_name := funOf D_is_name
  obtain ⟨fd_is_list, D_is_list⟩ := e1.def_ 1 (d := dfn ("is_list", none) "is_list" "is_list" (topS 15) []) rfl
  have D_is_list : FunD K "is_list" "is_list" (defArgs (topS 15)) (defBody (topS 15)) (defScope (topS 15)) [] [] (He.fAd K ("is_list", none)) fd_is_list := D_is_list
  have F_is_list : L2.Fun K "is_list" "is_list" (topS 15) (He.fAd K ("is_list", none)) fd_is_list := funOf D_is_list
  obtain ⟨fd_split_words, D_split_words⟩ := e1.def_ 2 (d := dfn ("split_words", none) "split_words" "split_words" (topS 16) [("separator", .str " ")]) rfl
  have D_split_words : FunD K "split_words" "split_words" (defArgs (topS 16)) (defBody (topS 16)) (defScope (topS 16)) [] [("separator", V.str " ")] (He.fAd K ("split_words", none)) fd_split_words := D_split_words
  obtain ⟨fd_checked_columns, D_checked_columns⟩ := e1.def_ 3 (d := dfn ("checked_columns", none) "checked_columns" "checked_columns" (topS 19) []) rfl
  have D_checked_columns : FunD K "checked_columns" "checked_columns" (defArgs (topS 19)) (defBody (topS 19)) (defScope (topS 19)) [] [] (He.fAd K ("checked_columns", none)) fd_checked_columns := D_checked_columns
  have F_checked_columns : L2.Fun K "checked_columns" "checked_columns" (topS 19) (He.fAd K ("checked_columns", none)) fd_checked_columns := funOf D_checked_columns
  obtain ⟨fd_parse_order, D_parse_order⟩ := e1.def_ 4 (d := dfn ("parse_order", none) "parse_order" "parse_order" (topS 21) []) rfl
  have D_parse_order : FunD K "parse_order" "parse_order" (defArgs (topS 21)) (defBody (topS 21)) (defScope (topS 21)) [] [] (He.fAd K ("parse_order", none)) fd_parse_order := D_parse_order
  have F_parse_order : L2.Fun K "parse_order" "parse_order" (topS 21) (He.fAd K ("parse_order", none)) fd_parse_order := funOf D_parse_order
  obtain ⟨fd_is_step, D_is_step⟩ := e1.def_ 5 (d := dfn ("is_step", none) "is_step" "is_step" (topS 26) []) rfl
  have D_is_step : FunD K "is_step" "is_step" (defArgs (topS 26)) (defBody (topS 26)) (defScope (topS 26)) [] [] (He.fAd K ("is_step", none)) fd_is_step := D_is_step
  have F_is_step : L2.Fun K "is_step" "is_step" (topS 26) (He.fAd K ("is_step", none)) fd_is_step := funOf D_is_step
  obtain ⟨fd_step_text, D_step_text⟩ := e1.def_ 6 (d := dfn ("step_text", none) "step_text" "step_text" (topS 30) []) rfl
  have D_step_text : FunD K "step_text" "step_text" (defArgs (topS 30)) (defBody (topS 30)) (defScope (topS 30)) [] [] (He.fAd K ("step_text", none)) fd_step_text := D_step_text
  have F_step_text : L2.Fun K "step_text" "step_text" (topS 30) (He.fAd K ("step_text", none)) fd_step_text := funOf D_step_text
  obtain ⟨fd_parse_step, D_parse_step⟩ := e1.def_ 7 (d := dfn ("parse_step", none) "parse_step" "parse_step" (topS 31) []) rfl
  have D_parse_step : FunD K "parse_step" "parse_step" (defArgs (topS 31)) (defBody (topS 31)) (defScope (topS 31)) [] [] (He.fAd K ("parse_step", none)) fd_parse_step := D_parse_step
  have F_parse_step : L2.Fun K "parse_step" "parse_step" (topS 31) (He.fAd K ("parse_step", none)) fd_parse_step := funOf D_parse_step
  obtain ⟨fd_steps_text, D_steps_text⟩ := e1.def_ 8 (d := dfn ("steps_text", none) "steps_text" "steps_text" (topS 32) []) rfl
  have D_steps_text : FunD K "steps_text" "steps_text" (defArgs (topS 32)) (defBody (topS 32)) (defScope (topS 32)) [] [] (He.fAd K ("steps_text", none)) fd_steps_text := D_steps_text
  have F_steps_text : L2.Fun K "steps_text" "steps_text" (topS 32) (He.fAd K ("steps_text", none)) fd_steps_text := funOf D_steps_text
  obtain ⟨fd_parse_steps, D_parse_steps⟩ := e1.def_ 9 (d := dfn ("parse_steps", none) "parse_steps" "parse_steps" (topS 33) []) rfl
  have D_parse_steps : FunD K "parse_steps" "parse_steps" (defArgs (topS 33)) (defBody (topS 33)) (defScope (topS 33)) [] [] (He.fAd K ("parse_steps", none)) fd_parse_steps := D_parse_steps
  have F_parse_steps : L2.Fun K "parse_steps" "parse_steps" (topS 33) (He.fAd K ("parse_steps", none)) fd_parse_steps := funOf D_parse_steps
  obtain ⟨fd__law_cell, D__law_cell⟩ := e1.def_ 10 (d := dfn ("_law_cell", none) "_law_cell" "_law_cell" (topS 35) []) rfl
  have D__law_cell : FunD K "_law_cell" "_law_cell" (defArgs (topS 35)) (defBody (topS 35)) (defScope (topS 35)) [] [] (He.fAd K ("_law_cell", none)) fd__law_cell := D__law_cell
  have F__law_cell : L2.Fun K "_law_cell" "_law_cell" (topS 35) (He.fAd K ("_law_cell", none)) fd__law_cell := funOf D__law_cell
  obtain ⟨fd__law_box, D__law_box⟩ := e1.def_ 11 (d := dfn ("_law_box", none) "_law_box" "_law_box" (topS 36) []) rfl
  have D__law_box : FunD K "_law_box" "_law_box" (defArgs (topS 36)) (defBody (topS 36)) (defScope (topS 36)) [] [] (He.fAd K ("_law_box", none)) fd__law_box := D__law_box
  have F__law_box : L2.Fun K "_law_box" "_law_box" (topS 36) (He.fAd K ("_law_box", none)) fd__law_box := funOf D__law_box
  obtain ⟨fd__law_take, D__law_take⟩ := e1.def_ 12 (d := dfn ("_law_take", none) "_law_take" "_law_take" (topS 37) []) rfl
  have D__law_take : FunD K "_law_take" "_law_take" (defArgs (topS 37)) (defBody (topS 37)) (defScope (topS 37)) [] [] (He.fAd K ("_law_take", none)) fd__law_take := D__law_take
  have F__law_take : L2.Fun K "_law_take" "_law_take" (topS 37) (He.fAd K ("_law_take", none)) fd__law_take := funOf D__law_take
  obtain ⟨fd__law_mixed, D__law_mixed⟩ := e1.def_ 13 (d := dfn ("_law_mixed", none) "_law_mixed" "_law_mixed" (topS 38) []) rfl
  have D__law_mixed : FunD K "_law_mixed" "_law_mixed" (defArgs (topS 38)) (defBody (topS 38)) (defScope (topS 38)) [] [] (He.fAd K ("_law_mixed", none)) fd__law_mixed := D__law_mixed
  have F__law_mixed : L2.Fun K "_law_mixed" "_law_mixed" (topS 38) (He.fAd K ("_law_mixed", none)) fd__law_mixed := funOf D__law_mixed
  obtain ⟨fd__law_columns, D__law_columns⟩ := e1.def_ 14 (d := dfn ("_law_columns", none) "_law_columns" "_law_columns" (topS 39) []) rfl
  have D__law_columns : FunD K "_law_columns" "_law_columns" (defArgs (topS 39)) (defBody (topS 39)) (defScope (topS 39)) [] [] (He.fAd K ("_law_columns", none)) fd__law_columns := D__law_columns
  have F__law_columns : L2.Fun K "_law_columns" "_law_columns" (topS 39) (He.fAd K ("_law_columns", none)) fd__law_columns := funOf D__law_columns
  obtain ⟨fd__law_step, D__law_step⟩ := e1.def_ 15 (d := dfn ("_law_step", none) "_law_step" "_law_step" (topS 40) []) rfl
  have D__law_step : FunD K "_law_step" "_law_step" (defArgs (topS 40)) (defBody (topS 40)) (defScope (topS 40)) [] [] (He.fAd K ("_law_step", none)) fd__law_step := D__law_step
  have F__law_step : L2.Fun K "_law_step" "_law_step" (topS 40) (He.fAd K ("_law_step", none)) fd__law_step := funOf D__law_step
  obtain ⟨fd__law_caught, D__law_caught⟩ := e1.def_ 16 (d := dfn ("_law_caught", none) "_law_caught" "_law_caught" (topS 41) []) rfl
  have D__law_caught : FunD K "_law_caught" "_law_caught" (defArgs (topS 41)) (defBody (topS 41)) (defScope (topS 41)) [] [] (He.fAd K ("_law_caught", none)) fd__law_caught := D__law_caught
  have F__law_caught : L2.Fun K "_law_caught" "_law_caught" (topS 41) (He.fAd K ("_law_caught", none)) fd__law_caught := funOf D__law_caught
  obtain ⟨fd__law_named, D__law_named⟩ := e1.def_ 17 (d := dfn ("_law_named", none) "_law_named" "_law_named" (topS 42) []) rfl
  have D__law_named : FunD K "_law_named" "_law_named" (defArgs (topS 42)) (defBody (topS 42)) (defScope (topS 42)) [] [] (He.fAd K ("_law_named", none)) fd__law_named := D__law_named
  have F__law_named : L2.Fun K "_law_named" "_law_named" (topS 42) (He.fAd K ("_law_named", none)) fd__law_named := funOf D__law_named
  obtain ⟨fd__law_read, D__law_read⟩ := e1.def_ 18 (d := dfn ("_law_read", none) "_law_read" "_law_read" (topS 43) []) rfl
  have D__law_read : FunD K "_law_read" "_law_read" (defArgs (topS 43)) (defBody (topS 43)) (defScope (topS 43)) [] [] (He.fAd K ("_law_read", none)) fd__law_read := D__law_read
  have F__law_read : L2.Fun K "_law_read" "_law_read" (topS 43) (He.fAd K ("_law_read", none)) fd__law_read := funOf D__law_read
  obtain ⟨fd__law_bent, D__law_bent⟩ := e1.def_ 19 (d := dfn ("_law_bent", none) "_law_bent" "_law_bent" (topS 44) []) rfl
  have D__law_bent : FunD K "_law_bent" "_law_bent" (defArgs (topS 44)) (defBody (topS 44)) (defScope (topS 44)) [] [] (He.fAd K ("_law_bent", none)) fd__law_bent := D__law_bent
  have F__law_bent : L2.Fun K "_law_bent" "_law_bent" (topS 44) (He.fAd K ("_law_bent", none)) fd__law_bent := funOf D__law_bent
  obtain ⟨fd__law_due, D__law_due⟩ := e1.def_ 20 (d := dfn ("_law_due", none) "_law_due" "_law_due" (topS 45) []) rfl
  have D__law_due : FunD K "_law_due" "_law_due" (defArgs (topS 45)) (defBody (topS 45)) (defScope (topS 45)) [] [] (He.fAd K ("_law_due", none)) fd__law_due := D__law_due
  have F__law_due : L2.Fun K "_law_due" "_law_due" (topS 45) (He.fAd K ("_law_due", none)) fd__law_due := funOf D__law_due
  obtain ⟨fd__law_step_told, D__law_step_told⟩ := e1.def_ 21 (d := dfn ("_law_step_told", none) "_law_step_told" "_law_step_told" (topS 46) []) rfl
  have D__law_step_told : FunD K "_law_step_told" "_law_step_told" (defArgs (topS 46)) (defBody (topS 46)) (defScope (topS 46)) [] [] (He.fAd K ("_law_step_told", none)) fd__law_step_told := D__law_step_told
  have F__law_step_told : L2.Fun K "_law_step_told" "_law_step_told" (topS 46) (He.fAd K ("_law_step_told", none)) fd__law_step_told := funOf D__law_step_told
  obtain ⟨fd__law_right, D__law_right⟩ := e1.def_ 22 (d := dfn ("_law_right", none) "_law_right" "_law_right" (topS 47) []) rfl
  have D__law_right : FunD K "_law_right" "_law_right" (defArgs (topS 47)) (defBody (topS 47)) (defScope (topS 47)) [] [] (He.fAd K ("_law_right", none)) fd__law_right := D__law_right
  have F__law_right : L2.Fun K "_law_right" "_law_right" (topS 47) (He.fAd K ("_law_right", none)) fd__law_right := funOf D__law_right
  obtain ⟨fd__law_refused_right, D__law_refused_right⟩ := e1.def_ 23 (d := dfn ("_law_refused_right", none) "_law_refused_right" "_law_refused_right" (topS 48) []) rfl
  have D__law_refused_right : FunD K "_law_refused_right" "_law_refused_right" (defArgs (topS 48)) (defBody (topS 48)) (defScope (topS 48)) [] [] (He.fAd K ("_law_refused_right", none)) fd__law_refused_right := D__law_refused_right
  have F__law_refused_right : L2.Fun K "_law_refused_right" "_law_refused_right" (topS 48) (He.fAd K ("_law_refused_right", none)) fd__law_refused_right := funOf D__law_refused_right
  obtain ⟨fd__law_hundred_right, D__law_hundred_right⟩ := e1.def_ 24 (d := dfn ("_law_hundred_right", none) "_law_hundred_right" "_law_hundred_right" (topS 49) []) rfl
  have D__law_hundred_right : FunD K "_law_hundred_right" "_law_hundred_right" (defArgs (topS 49)) (defBody (topS 49)) (defScope (topS 49)) [] [] (He.fAd K ("_law_hundred_right", none)) fd__law_hundred_right := D__law_hundred_right
  have F__law_hundred_right : L2.Fun K "_law_hundred_right" "_law_hundred_right" (topS 49) (He.fAd K ("_law_hundred_right", none)) fd__law_hundred_right := funOf D__law_hundred_right
  obtain ⟨fd_law, D_law⟩ := e1.def_ 25 (d := dfn ("law", none) "law" "law" (topS 50) []) rfl
  have D_law : FunD K "law" "law" (defArgs (topS 50)) (defBody (topS 50)) (defScope (topS 50)) [] [] (He.fAd K ("law", none)) fd_law := D_law
  have F_law : L2.Fun K "law" "law" (topS 50) (He.fAd K ("law", none)) fd_law := funOf D_law
  obtain ⟨fd_Order___init__, D_Order___init__⟩ := e1.def_ 26 (d := dfn ("Order", some "__init__") "__init__" "Order.__init__" (inClass (topS 20) 0) []) rfl
  have D_Order___init__ : FunD K "__init__" "Order.__init__" (defArgs (inClass (topS 20) 0)) (defBody (inClass (topS 20) 0)) (defScope (inClass (topS 20) 0)) [] [] (He.fAd K ("Order", some "__init__")) fd_Order___init__ := D_Order___init__
  have F_Order___init__ : L2.Fun K "__init__" "Order.__init__" (inClass (topS 20) 0) (He.fAd K ("Order", some "__init__")) fd_Order___init__ := funOf D_Order___init__
  obtain ⟨fd_Order_columns, D_Order_columns⟩ := e1.def_ 27 (d := dfn ("Order", some "columns") "columns" "Order.columns" (inClass (topS 20) 1) []) rfl
  have D_Order_columns : FunD K "columns" "Order.columns" (defArgs (inClass (topS 20) 1)) (defBody (inClass (topS 20) 1)) (defScope (inClass (topS 20) 1)) [] [] (He.fAd K ("Order", some "columns")) fd_Order_columns := D_Order_columns
  have F_Order_columns : L2.Fun K "columns" "Order.columns" (inClass (topS 20) 1) (He.fAd K ("Order", some "columns")) fd_Order_columns := funOf D_Order_columns
  obtain ⟨fd_Order___eq__, D_Order___eq__⟩ := e1.def_ 28 (d := dfn ("Order", some "__eq__") "__eq__" "Order.__eq__" (inClass (topS 20) 5) []) rfl
  have D_Order___eq__ : FunD K "__eq__" "Order.__eq__" (defArgs (inClass (topS 20) 5)) (defBody (inClass (topS 20) 5)) (defScope (inClass (topS 20) 5)) [] [] (He.fAd K ("Order", some "__eq__")) fd_Order___eq__ := D_Order___eq__
  have F_Order___eq__ : L2.Fun K "__eq__" "Order.__eq__" (inClass (topS 20) 5) (He.fAd K ("Order", some "__eq__")) fd_Order___eq__ := funOf D_Order___eq__
  obtain ⟨fd_Order___str__, D_Order___str__⟩ := e1.def_ 29 (d := dfn ("Order", some "__str__") "__str__" "Order.__str__" (inClass (topS 20) 6) []) rfl
  have D_Order___str__ : FunD K "__str__" "Order.__str__" (defArgs (inClass (topS 20) 6)) (defBody (inClass (topS 20) 6)) (defScope (inClass (topS 20) 6)) [] [] (He.fAd K ("Order", some "__str__")) fd_Order___str__ := D_Order___str__
  have F_Order___str__ : L2.Fun K "__str__" "Order.__str__" (inClass (topS 20) 6) (He.fAd K ("Order", some "__str__")) fd_Order___str__ := funOf D_Order___str__
  obtain ⟨fd_Order___repr__, D_Order___repr__⟩ := e1.def_ 30 (d := dfn ("Order", some "__repr__") "__repr__" "Order.__repr__" (inClass (topS 20) 7) []) rfl
  have D_Order___repr__ : FunD K "__repr__" "Order.__repr__" (defArgs (inClass (topS 20) 7)) (defBody (inClass (topS 20) 7)) (defScope (inClass (topS 20) 7)) [] [] (He.fAd K ("Order", some "__repr__")) fd_Order___repr__ := D_Order___repr__
  have F_Order___repr__ : L2.Fun K "__repr__" "Order.__repr__" (inClass (topS 20) 7) (He.fAd K ("Order", some "__repr__")) fd_Order___repr__ := funOf D_Order___repr__
  obtain ⟨fd_InvalidText___init__, D_InvalidText___init__⟩ := e1.def_ 31 (d := dfn ("InvalidText", some "__init__") "__init__" "InvalidText.__init__" (inClass (topS 6) 0) []) rfl
  have D_InvalidText___init__ : FunD K "__init__" "InvalidText.__init__" (defArgs (inClass (topS 6) 0)) (defBody (inClass (topS 6) 0)) (defScope (inClass (topS 6) 0)) [] [] (He.fAd K ("InvalidText", some "__init__")) fd_InvalidText___init__ := D_InvalidText___init__
  have F_InvalidText___init__ : L2.Fun K "__init__" "InvalidText.__init__" (inClass (topS 6) 0) (He.fAd K ("InvalidText", some "__init__")) fd_InvalidText___init__ := funOf D_InvalidText___init__
  obtain ⟨fd_InvalidSteps___init__, D_InvalidSteps___init__⟩ := e1.def_ 32 (d := dfn ("InvalidSteps", some "__init__") "__init__" "InvalidSteps.__init__" (inClass (topS 9) 0) []) rfl
  have D_InvalidSteps___init__ : FunD K "__init__" "InvalidSteps.__init__" (defArgs (inClass (topS 9) 0)) (defBody (inClass (topS 9) 0)) (defScope (inClass (topS 9) 0)) [] [] (He.fAd K ("InvalidSteps", some "__init__")) fd_InvalidSteps___init__ := D_InvalidSteps___init__
  have F_InvalidSteps___init__ : L2.Fun K "__init__" "InvalidSteps.__init__" (inClass (topS 9) 0) (He.fAd K ("InvalidSteps", some "__init__")) fd_InvalidSteps___init__ := funOf D_InvalidSteps___init__
  obtain ⟨fd_InvalidLine___init__, D_InvalidLine___init__⟩ := e1.def_ 33 (d := dfn ("InvalidLine", some "__init__") "__init__" "InvalidLine.__init__" (inClass (topS 10) 0) []) rfl
  have D_InvalidLine___init__ : FunD K "__init__" "InvalidLine.__init__" (defArgs (inClass (topS 10) 0)) (defBody (inClass (topS 10) 0)) (defScope (inClass (topS 10) 0)) [] [] (He.fAd K ("InvalidLine", some "__init__")) fd_InvalidLine___init__ := D_InvalidLine___init__
  have F_InvalidLine___init__ : L2.Fun K "__init__" "InvalidLine.__init__" (inClass (topS 10) 0) (He.fAd K ("InvalidLine", some "__init__")) fd_InvalidLine___init__ := funOf D_InvalidLine___init__
  have m_Order : mg "Order" = some (.ref (He.ga K "Order")) := He.glo_ok KX G (e1.fact 20 (f := .glo "Order") rfl)
  have m_SearchError : mg "SearchError" = some (.ref (He.ga K "SearchError")) := He.glo_ok KX G (e1.fact 21 (f := .glo "SearchError") rfl)
  have m_InvalidText : mg "InvalidText" = some (.ref (He.ga K "InvalidText")) := He.glo_ok KX G (e1.fact 22 (f := .glo "InvalidText") rfl)
  have m_InvalidSteps : mg "InvalidSteps" = some (.ref (He.ga K "InvalidSteps")) := He.glo_ok KX G (e1.fact 23 (f := .glo "InvalidSteps") rfl)
  have m_InvalidLine : mg "InvalidLine" = some (.ref (He.ga K "InvalidLine")) := He.glo_ok KX G (e1.fact 24 (f := .glo "InvalidLine") rfl)
  have m_is_name : mg "is_name" = some (.ref (He.ga K "is_name")) := He.glo_ok KX G (e1.fact 25 (f := .glo "is_name") rfl)
  have m_is_list : mg "is_list" = some (.ref (He.ga K "is_list")) := He.glo_ok KX G (e1.fact 26 (f := .glo "is_list") rfl)
  have m_split_words : mg "split_words" = some (.ref (He.ga K "split_words")) := He.glo_ok KX G (e1.fact 27 (f := .glo "split_words") rfl)
  have m_checked_columns : mg "checked_columns" = some (.ref (He.ga K "checked_columns")) := He.glo_ok KX G (e1.fact 28 (f := .glo "checked_columns") rfl)
  have m_parse_order : mg "parse_order" = some (.ref (He.ga K "parse_order")) := He.glo_ok KX G (e1.fact 29 (f := .glo "parse_order") rfl)
  have m_is_step : mg "is_step" = some (.ref (He.ga K "is_step")) := He.glo_ok KX G (e1.fact 30 (f := .glo "is_step") rfl)
  have m_step_text : mg "step_text" = some (.ref (He.ga K "step_text")) := He.glo_ok KX G (e1.fact 31 (f := .glo "step_text") rfl)
  have m_parse_step : mg "parse_step" = some (.ref (He.ga K "parse_step")) := He.glo_ok KX G (e1.fact 32 (f := .glo "parse_step") rfl)
  have m_steps_text : mg "steps_text" = some (.ref (He.ga K "steps_text")) := He.glo_ok KX G (e1.fact 33 (f := .glo "steps_text") rfl)
  have m_parse_steps : mg "parse_steps" = some (.ref (He.ga K "parse_steps")) := He.glo_ok KX G (e1.fact 34 (f := .glo "parse_steps") rfl)
  have m__law_cell : mg "_law_cell" = some (.ref (He.ga K "_law_cell")) := He.glo_ok KX G (e1.fact 35 (f := .glo "_law_cell") rfl)
  have m__law_box : mg "_law_box" = some (.ref (He.ga K "_law_box")) := He.glo_ok KX G (e1.fact 36 (f := .glo "_law_box") rfl)
  have m__law_take : mg "_law_take" = some (.ref (He.ga K "_law_take")) := He.glo_ok KX G (e1.fact 37 (f := .glo "_law_take") rfl)
  have m__law_mixed : mg "_law_mixed" = some (.ref (He.ga K "_law_mixed")) := He.glo_ok KX G (e1.fact 38 (f := .glo "_law_mixed") rfl)
  have m__law_columns : mg "_law_columns" = some (.ref (He.ga K "_law_columns")) := He.glo_ok KX G (e1.fact 39 (f := .glo "_law_columns") rfl)
  have m__law_step : mg "_law_step" = some (.ref (He.ga K "_law_step")) := He.glo_ok KX G (e1.fact 40 (f := .glo "_law_step") rfl)
  have m__law_caught : mg "_law_caught" = some (.ref (He.ga K "_law_caught")) := He.glo_ok KX G (e1.fact 41 (f := .glo "_law_caught") rfl)
  have m__law_named : mg "_law_named" = some (.ref (He.ga K "_law_named")) := He.glo_ok KX G (e1.fact 42 (f := .glo "_law_named") rfl)
  have m__law_read : mg "_law_read" = some (.ref (He.ga K "_law_read")) := He.glo_ok KX G (e1.fact 43 (f := .glo "_law_read") rfl)
  have m__law_bent : mg "_law_bent" = some (.ref (He.ga K "_law_bent")) := He.glo_ok KX G (e1.fact 44 (f := .glo "_law_bent") rfl)
  have m__law_due : mg "_law_due" = some (.ref (He.ga K "_law_due")) := He.glo_ok KX G (e1.fact 45 (f := .glo "_law_due") rfl)
  have m__law_step_told : mg "_law_step_told" = some (.ref (He.ga K "_law_step_told")) := He.glo_ok KX G (e1.fact 46 (f := .glo "_law_step_told") rfl)
  have m__law_right : mg "_law_right" = some (.ref (He.ga K "_law_right")) := He.glo_ok KX G (e1.fact 47 (f := .glo "_law_right") rfl)
  have m__law_refused_right : mg "_law_refused_right" = some (.ref (He.ga K "_law_refused_right")) := He.glo_ok KX G (e1.fact 48 (f := .glo "_law_refused_right") rfl)
  have m__law_hundred_right : mg "_law_hundred_right" = some (.ref (He.ga K "_law_hundred_right")) := He.glo_ok KX G (e1.fact 49 (f := .glo "_law_hundred_right") rfl)
  have m_law : mg "law" = some (.ref (He.ga K "law")) := He.glo_ok KX G (e1.fact 50 (f := .glo "law") rfl)
  have ef : f = He.ga K "law" := by
    have := hfa.symm.trans m_law
    injection this with this
    injection this
  subst ef
  have hClsO : Cls K (He.ga K "Order") := He.cls_ok (e1.fact 51 (f := .cls "Order") rfl)
  have TX : Txt K mg (He.ga K "Order") := { isinstance := He.free_ok KX G (e1.fact 0 (f := .free "isinstance") rfl), len := He.free_ok KX G (e1.fact 1 (f := .free "len") rfl), str := He.free_ok KX G (e1.fact 2 (f := .free "str") rfl), list := He.free_ok KX G (e1.fact 3 (f := .free "list") rfl), tuple := He.free_ok KX G (e1.fact 4 (f := .free "tuple") rfl), set := He.free_ok KX G (e1.fact 5 (f := .free "set") rfl), all := He.free_ok KX G (e1.fact 6 (f := .free "all") rfl), range := He.free_ok KX G (e1.fact 7 (f := .free "range") rfl), enumerate := He.free_ok KX G (e1.fact 8 (f := .free "enumerate") rfl), max := He.free_ok KX G (e1.fact 9 (f := .free "max") rfl), min := He.free_ok KX G (e1.fact 10 (f := .free "min") rfl), repr := He.free_ok KX G (e1.fact 11 (f := .free "repr") rfl), LETTERS := He.str_ok KX G (e1.fact 12 (f := .str "LETTERS" letters) rfl), LONGEST_NAME := He.int_ok KX G (e1.fact 13 (f := .int "LONGEST_NAME" 8) rfl), MOST_COLUMNS := He.int_ok KX G (e1.fact 14 (f := .int "MOST_COLUMNS" 5) rfl), BUILD := He.str_ok KX G (e1.fact 15 (f := .str "BUILD" "build") rfl), RELAY := He.str_ok KX G (e1.fact 16 (f := .str "RELAY" "relay") rfl), DROP := He.str_ok KX G (e1.fact 17 (f := .str "DROP" "drop") rfl), MOST_STEPS := He.int_ok KX G (e1.fact 18 (f := .int "MOST_STEPS" 100) rfl), TOWARDS := He.str_ok KX G (e1.fact 19 (f := .str "TOWARDS" " > ") rfl), Order := m_Order, clO := hClsO, nOc := He.noat_ok (e1.fact 52 (f := .noat "Order" "own_columns") rfl) }
  have kty : ∀ n ∈ (["NoneType", "bool", "int", "str", "list", "tuple", "dict"] : List String), PySem.W.kitOne K (.type n) (.ref (He.ga K "Order")) = some false := fun n hn => by
    simp only [List.mem_cons, List.not_mem_nil, or_false] at hn
    rcases hn with rfl | rfl | rfl | rfl | rfl | rfl | rfl
    · exact of_decide_eq_true (ex_at ex 8 rfl)
    · exact of_decide_eq_true (ex_at ex 9 rfl)
    · exact of_decide_eq_true (ex_at ex 10 rfl)
    · exact of_decide_eq_true (ex_at ex 11 rfl)
    · exact of_decide_eq_true (ex_at ex 12 rfl)
    · exact of_decide_eq_true (ex_at ex 13 rfl)
    · exact of_decide_eq_true (ex_at ex 14 rfl)
  have IC : IsC K (He.ga K "Order") := { cl := hClsO, ha := He.eqO_ok (ex_at ex 0 rfl), hn := He.eqO_ok (ex_at ex 1 rfl), htk := of_decide_eq_true (ex_at ex 2 rfl), hm := of_decide_eq_true (ex_at ex 3 rfl), kstr := of_decide_eq_true (ex_at ex 4 rfl), klist := of_decide_eq_true (ex_at ex 5 rfl), ktuple := of_decide_eq_true (ex_at ex 6 rfl), kself := of_decide_eq_true (ex_at ex 7 rfl), kty := kty }
  obtain ⟨oxT, xfT, iT, tT⟩ := excB_ok (K := K) (x := "InvalidText") (ex_at ex 15 rfl)
  obtain ⟨oxI, xfI, iI, tI⟩ := excB_ok (K := K) (x := "InvalidLine") (ex_at ex 16 rfl)
  obtain ⟨oxS, xfS, iS, tS⟩ := excB_ok (K := K) (x := "InvalidSteps") (ex_at ex 17 rfl)
  have bc : BaseC K (He.ga K "SearchError") := baseB_ok (ex_at ex 18 rfl)
  have nT := He.noat_ok (e1.fact 64 (f := .noat "InvalidText" "value") rfl)
  have nI := He.noat_ok (e1.fact 65 (f := .noat "InvalidLine" "index") rfl)
  have nS := He.noat_ok (e1.fact 66 (f := .noat "InvalidSteps" "value") rfl)
  have xTT := He.exm_ok (e1.fact 58 (f := .exm "InvalidText" "InvalidText" true) rfl)
  have CC : CatC K mg (He.ga K "InvalidText") (He.ga K "InvalidLine") (He.ga K "InvalidSteps") := { gT := m_InvalidText, gI := m_InvalidLine, gS := m_InvalidSteps, xT := xfT, xI := xfI, xS := xfS, vT := nT, vI := nI, vS := nS, tt := xTT, it := He.exm_ok (e1.fact 59 (f := .exm "InvalidLine" "InvalidText" false) rfl), ii := He.exm_ok (e1.fact 60 (f := .exm "InvalidLine" "InvalidLine" true) rfl), st := He.exm_ok (e1.fact 61 (f := .exm "InvalidSteps" "InvalidText" false) rfl), si := He.exm_ok (e1.fact 62 (f := .exm "InvalidSteps" "InvalidLine" false) rfl), ss := He.exm_ok (e1.fact 63 (f := .exm "InvalidSteps" "InvalidSteps" true) rfl) }
  have b_is_name : Binds K fd_is_name ["value"] [] := FunD.bindsN D_is_name fun _ _ _ _ _ _ us hl => match us, hl with | [_], _ => rfl
  have b_is_list : Binds K fd_is_list ["value"] [] := FunD.bindsN D_is_list fun _ _ _ _ _ _ us hl => match us, hl with | [_], _ => rfl
  have b_checked_columns : Binds K fd_checked_columns ["columns"] [] := FunD.bindsN D_checked_columns fun _ _ _ _ _ _ us hl => match us, hl with | [_], _ => rfl
  have b_parse_order : Binds K fd_parse_order ["text"] [] := FunD.bindsN D_parse_order fun _ _ _ _ _ _ us hl => match us, hl with | [_], _ => rfl
  have b_is_step : Binds K fd_is_step ["value"] [] := FunD.bindsN D_is_step fun _ _ _ _ _ _ us hl => match us, hl with | [_], _ => rfl
  have b_step_text : Binds K fd_step_text ["step"] [] := FunD.bindsN D_step_text fun _ _ _ _ _ _ us hl => match us, hl with | [_], _ => rfl
  have b_parse_step : Binds K fd_parse_step ["text"] [] := FunD.bindsN D_parse_step fun _ _ _ _ _ _ us hl => match us, hl with | [_], _ => rfl
  have b_steps_text : Binds K fd_steps_text ["steps"] [] := FunD.bindsN D_steps_text fun _ _ _ _ _ _ us hl => match us, hl with | [_], _ => rfl
  have b_parse_steps : Binds K fd_parse_steps ["text"] [] := FunD.bindsN D_parse_steps fun _ _ _ _ _ _ us hl => match us, hl with | [_], _ => rfl
  have b__law_cell : Binds K fd__law_cell ["_law_script", "_law_k"] [] := FunD.bindsN D__law_cell fun _ _ _ _ _ _ us hl => match us, hl with | [_, _], _ => rfl
  have b__law_box : Binds K fd__law_box ["_law_cell_here"] [] := FunD.bindsN D__law_box fun _ _ _ _ _ _ us hl => match us, hl with | [_], _ => rfl
  have b__law_take : Binds K fd__law_take ["_law_box_here", "_law_many"] [] := FunD.bindsN D__law_take fun _ _ _ _ _ _ us hl => match us, hl with | [_, _], _ => rfl
  have b__law_mixed : Binds K fd__law_mixed ["_law_box_here", "_law_things"] [] := FunD.bindsN D__law_mixed fun _ _ _ _ _ _ us hl => match us, hl with | [_, _], _ => rfl
  have b__law_columns : Binds K fd__law_columns ["_law_box_here"] [] := FunD.bindsN D__law_columns fun _ _ _ _ _ _ us hl => match us, hl with | [_], _ => rfl
  have b__law_step : Binds K fd__law_step ["_law_box_here"] [] := FunD.bindsN D__law_step fun _ _ _ _ _ _ us hl => match us, hl with | [_], _ => rfl
  have b__law_caught : Binds K fd__law_caught ["_law_ask"] [] := FunD.bindsN D__law_caught fun _ _ _ _ _ _ us hl => match us, hl with | [_], _ => rfl
  have b__law_named : Binds K fd__law_named ["_law_words"] [] := FunD.bindsN D__law_named fun _ _ _ _ _ _ us hl => match us, hl with | [_], _ => rfl
  have b__law_read : Binds K fd__law_read ["_law_line"] [] := FunD.bindsN D__law_read fun _ _ _ _ _ _ us hl => match us, hl with | [_], _ => rfl
  have b__law_bent : Binds K fd__law_bent ["_law_box_here", "_law_text"] [] := FunD.bindsN D__law_bent fun _ _ _ _ _ _ us hl => match us, hl with | [_, _], _ => rfl
  have b__law_due : Binds K fd__law_due ["_law_text"] [] := FunD.bindsN D__law_due fun _ _ _ _ _ _ us hl => match us, hl with | [_], _ => rfl
  have b__law_step_told : Binds K fd__law_step_told ["_law_text"] [] := FunD.bindsN D__law_step_told fun _ _ _ _ _ _ us hl => match us, hl with | [_], _ => rfl
  have b__law_right : Binds K fd__law_right ["_law_box_here", "_law_many"] [] := FunD.bindsN D__law_right fun _ _ _ _ _ _ us hl => match us, hl with | [_, _], _ => rfl
  have b__law_refused_right : Binds K fd__law_refused_right ["_law_box_here"] [] := FunD.bindsN D__law_refused_right fun _ _ _ _ _ _ us hl => match us, hl with | [_], _ => rfl
  have b__law_hundred_right : Binds K fd__law_hundred_right ["_law_box_here"] [] := FunD.bindsN D__law_hundred_right fun _ _ _ _ _ _ us hl => match us, hl with | [_], _ => rfl
  have b_law : Binds K fd_law ["_law_script"] [] := FunD.bindsN D_law fun _ _ _ _ _ _ us hl => match us, hl with | [_], _ => rfl
  have b_Order___init__ : Binds K fd_Order___init__ ["self", "columns"] [] := FunD.bindsN D_Order___init__ fun _ _ _ _ _ _ us hl => match us, hl with | [_, _], _ => rfl
  have b_Order_columns : Binds K fd_Order_columns ["self"] [] := FunD.bindsN D_Order_columns fun _ _ _ _ _ _ us hl => match us, hl with | [_], _ => rfl
  have b_Order___eq__ : Binds K fd_Order___eq__ ["self", "other"] [] := FunD.bindsN D_Order___eq__ fun _ _ _ _ _ _ us hl => match us, hl with | [_, _], _ => rfl
  have b_Order___str__ : Binds K fd_Order___str__ ["self"] [] := FunD.bindsN D_Order___str__ fun _ _ _ _ _ _ us hl => match us, hl with | [_], _ => rfl
  have b_Order___repr__ : Binds K fd_Order___repr__ ["self"] [] := FunD.bindsN D_Order___repr__ fun _ _ _ _ _ _ us hl => match us, hl with | [_], _ => rfl
  have b_InvalidText___init__ : Binds K fd_InvalidText___init__ ["self", "value"] [] := FunD.bindsN D_InvalidText___init__ fun _ _ _ _ _ _ us hl => match us, hl with | [_, _], _ => rfl
  have b_InvalidSteps___init__ : Binds K fd_InvalidSteps___init__ ["self", "value"] [] := FunD.bindsN D_InvalidSteps___init__ fun _ _ _ _ _ _ us hl => match us, hl with | [_, _], _ => rfl
  have b_InvalidLine___init__ : Binds K fd_InvalidLine___init__ ["self", "index"] [] := FunD.bindsN D_InvalidLine___init__ fun _ _ _ _ _ _ us hl => match us, hl with | [_, _], _ => rfl
  have kw : ∃ ds, Vals [V.str " "] ds ∧ Binds K fd_split_words ["text", "separator"] ds := FunD.binds0 D_split_words 1 (by intro z; cases z) rfl fun D doc pm an cdv ct us ks hl hk => match us, ks, hl, hk with | [_], [_], _, _ => ⟨_, _, _, _, _, _, rfl, rfl, rfl⟩
  obtain ⟨dsw, vsw, bsw⟩ := kw
  have mK := He.mkr_ok (e1.fact 53 (f := .mkr "Order") rfl)
  have M_columns := He.meth_ok (e1.fact 54 (f := .meth "Order" "columns") rfl)
  have M___eq__ := He.meth_ok (e1.fact 55 (f := .meth "Order" "__eq__") rfl)
  have M___str__ := He.meth_ok (e1.fact 56 (f := .meth "Order" "__str__") rfl)
  have M___repr__ := He.meth_ok (e1.fact 57 (f := .meth "Order" "__repr__") rfl)
  have CK : CKt K mg := by
    obtain ⟨oc, od, kV, doc, pm, an, cdv, ct, osl, e9, lk, hcd⟩ := F__law_caught.ex
    have b9 := b__law_caught
    rw [e9] at b9 lk
    exact ⟨_, oc, od, kV, doc, pm, an, cdv, ct, osl, m__law_caught, D__law_caught.kp, lk, hcd, b9⟩
  let T : List (Addr × Str) := [(He.tabOf K (He.codeOf K ("_law_step_told", none)), ("_law_step_told.<locals>.<lambda>" : Str)), (He.tabOf K (He.codeOf K ("_law_right", none)), ("_law_right.<locals>.<lambda>" : Str)), (He.tabOf K (He.codeOf K ("_law_refused_right", none)), ("_law_refused_right.<locals>.<lambda>" : Str)), (He.tabOf K (He.codeOf K ("_law_hundred_right", none)), ("_law_hundred_right.<locals>.<lambda>" : Str))]
  refine ⟨K, fd_law, tf.map (He.cT K), spLaw K T, KX, fun p hp => ?_, fun p hp => ?_, fun p hp => ?_, fun s u => FunD.bindsA (ps := ["_law_script"]) D_law (fun _ _ _ _ _ _ us hl => match us, hl with | [_], _ => rfl) s [u] rfl, fun H a ns hl ht hs => ?_, fun base KB GB TB => ?_⟩
  · obtain ⟨q, hq, rfl⟩ := List.mem_map.mp hp; exact hgh _ _ (tabF q hq).2.1
  · obtain ⟨q, hq, rfl⟩ := List.mem_map.mp hp; exact (tabF q hq).2.2
  · obtain ⟨q, hq, rfl⟩ := List.mem_map.mp hp; exact PySem.W.codeHd_of_K KX (tabF q hq).1
  · refine ⟨a, ns, rfl, rfl, hs, hl, fun p hp => ?_, fun _ => rfl⟩
    simp only [T, List.mem_cons, List.not_mem_nil, or_false] at hp
    rcases hp with rfl | rfl | rfl | rfl
    · exact TabS.nil (ht (He.cT K ("_law_step_told", none)) (List.mem_map_of_mem (by simp [tf])))
    · exact TabS.nil (ht (He.cT K ("_law_right", none)) (List.mem_map_of_mem (by simp [tf])))
    · exact TabS.nil (ht (He.cT K ("_law_refused_right", none)) (List.mem_map_of_mem (by simp [tf])))
    · exact TabS.nil (ht (He.cT K ("_law_hundred_right", none)) (List.mem_map_of_mem (by simp [tf])))
  · have fkm : ∀ {x : Str} {k : Nat} {ps : List Str} {sp : Sp} {fd : FuncData}, FnOk P w K mg base C8.CX0 k (He.ga K x) fd ps sp → mg x = some (.ref (He.ga K x)) → PySem.W.keepIn K (.ref (He.ga K x)) = true → Binds K fd ps [] → Fk P w K mg base C8.CX0 k x ps sp := fun F m kp b => ⟨_, _, _, F, m, kp, b, rfl⟩
    have fxm : ∀ {CX : CXT} {x : Str} {k : Nat} {ps : List Str} {sp : Sp} {fd : FuncData}, FnOk P w K mg base CX k (He.ga K x) fd ps sp → mg x = some (.ref (He.ga K x)) → PySem.W.keepIn K (.ref (He.ga K x)) = true → Binds K fd ps [] → Fx P w K mg base CX k x ps sp := fun F m kp b => ⟨⟨_, _, F, m, kp, b⟩⟩
    have eiT : EIn K mg (He.ga K "SearchError") (He.ga K "InvalidText") "value" := ⟨oxT, nT, m_SearchError, bc⟩
    have eiI : EIn K mg (He.ga K "SearchError") (He.ga K "InvalidLine") "index" := ⟨oxI, nI, m_SearchError, bc⟩
    have eiS : EIn K mg (He.ga K "SearchError") (He.ga K "InvalidSteps") "value" := ⟨oxS, nS, m_SearchError, bc⟩
    have ET : Eb P w K mg base "InvalidText" "value" (He.ga K "InvalidText") := ⟨_, _, ⟨oxT, iT, tT, m_InvalidText⟩, ok_ei6 F_InvalidText___init__ eiT, oka_ei6 F_InvalidText___init__ eiT, b_InvalidText___init__⟩
    have ES : Eb P w K mg base "InvalidSteps" "value" (He.ga K "InvalidSteps") := ⟨_, _, ⟨oxS, iS, tS, m_InvalidSteps⟩, ok_ei9 F_InvalidSteps___init__ eiS, oka_ei9 F_InvalidSteps___init__ eiS, b_InvalidSteps___init__⟩
    have EI : Eb P w K mg base "InvalidLine" "index" (He.ga K "InvalidLine") := ⟨_, _, ⟨oxI, iI, tI, m_InvalidLine⟩, ok_ei10 F_InvalidLine___init__ eiI, oka_ei10 F_InvalidLine___init__ eiI, b_InvalidLine___init__⟩
    have K_is_name := fkm (ok_isName F_is_name TX IC) m_is_name D_is_name.kp b_is_name
    have K_is_list := fkm (ok_isList F_is_list TX IC) m_is_list D_is_list.kp b_is_list
    have SW : C8.Cal P w K mg base 1 "split_words" spSplit [.str blank] := ⟨⟨_, _, _, dsw, ok_split D_split_words TX, m_split_words, D_split_words.kp, bsw, vsw⟩⟩
    have K_checked_columns := fkm (ok_checked F_checked_columns TX K_is_list K_is_name) m_checked_columns D_checked_columns.kp b_checked_columns
    have MO : C8.Mak P w K mg base 3 "Order" (He.ga K "Order") (spOInit (He.ga K "Order")) [] := ⟨⟨_, _, _, [], mK, ok_oinit F_Order___init__ TX K_checked_columns, m_Order, b_Order___init__, .nil⟩⟩
    have oc := ok_ocols (P := P) (w := w) (base := base) F_Order_columns TX
    have os := ok_ostr (P := P) (w := w) (base := base) F_Order___str__ TX
    have oe := ok_oeq (P := P) (w := w) (base := base) F_Order___eq__ TX IC oc M_columns b_Order_columns
    have orp := ok_orepr (P := P) (w := w) (base := base) F_Order___repr__ TX
    have EO : ∀ X : Cx, X.prog = P → X.w = w → X.K = K → X.mg = mg → X.base = base → EqG X 2 (DIns (He.ga K "Order") (EqO (He.ga K "Order"))) := fun X h1 h2 h3 h4 h5 => by
      subst h1 h2 h3 h4 h5
      exact eqG_ins (E := C8.E0) oe M___eq__.at_ M___eq__.fn b_Order___eq__ pass0
    have RO : ∀ X : Cx, X.prog = P → X.w = w → X.K = K → X.mg = mg → X.base = base → ∀ cs, RepT X (He.ga K "Order") 2 (.ord cs) := fun X h1 h2 h3 h4 h5 cs => by
      subst h1 h2 h3 h4 h5
      exact repT_ord orp M___repr__.at_ M___repr__.fn b_Order___repr__
    have K_parse_order := fxm (ok_porder F_parse_order TX SW K_is_name MO ET) m_parse_order D_parse_order.kp b_parse_order
    have K_is_step := fkm (ok_isStep F_is_step TX IC) m_is_step D_is_step.kp b_is_step
    have K_step_text := fxm (ok_stepText F_step_text TX IC K_is_step os M___str__.at_ M___str__.fn b_Order___str__ ES) m_step_text D_step_text.kp b_step_text
    have K_parse_step := fxm (ok_parseStep F_parse_step TX IC K_parse_order ET xTT) m_parse_step D_parse_step.kp b_parse_step
    have K_steps_text := fxm (ok_stepsText F_steps_text TX K_is_list K_is_step K_step_text ES) m_steps_text D_steps_text.kp b_steps_text
    have K_parse_steps := fxm (ok_parseSteps F_parse_steps TX IC K_parse_step ET EI xTT) m_parse_steps D_parse_steps.kp b_parse_steps
    have K__law_cell := fkm (ok_cell F__law_cell TX) m__law_cell D__law_cell.kp b__law_cell
    have K__law_box := fkm (ok_box F__law_box TX) m__law_box D__law_box.kp b__law_box
    have K__law_take := fkm (ok_take F__law_take TX) m__law_take D__law_take.kp b__law_take
    have K__law_mixed := fkm (ok_mixed F__law_mixed TX K__law_take) m__law_mixed D__law_mixed.kp b__law_mixed
    have K__law_columns := fkm (ok_columns F__law_columns K__law_take K__law_mixed) m__law_columns D__law_columns.kp b__law_columns
    have K__law_step := fkm (ok_lstep F__law_step K__law_take K__law_mixed K__law_columns MO) m__law_step D__law_step.kp b__law_step
    have K__law_named := fkm (ok_named F__law_named TX) m__law_named D__law_named.kp b__law_named
    have K__law_read := fkm (ok_read F__law_read TX K__law_named MO) m__law_read D__law_read.kp b__law_read
    have K__law_bent := fkm (ok_bent F__law_bent TX K__law_take) m__law_bent D__law_bent.kp b__law_bent
    have K__law_due := fkm (ok_due F__law_due TX K__law_read) m__law_due D__law_due.kp b__law_due
    have TB__law_step_told := TB (He.cT K ("_law_step_told", none)) (List.mem_map_of_mem (by simp [tf]))
    have tm__law_step_told : (He.tabOf K (He.codeOf K ("_law_step_told", none)), ("_law_step_told.<locals>.<lambda>" : Str)) ∈ T := by simp [T]
    have TB__law_right := TB (He.cT K ("_law_right", none)) (List.mem_map_of_mem (by simp [tf]))
    have tm__law_right : (He.tabOf K (He.codeOf K ("_law_right", none)), ("_law_right.<locals>.<lambda>" : Str)) ∈ T := by simp [T]
    have TB__law_refused_right := TB (He.cT K ("_law_refused_right", none)) (List.mem_map_of_mem (by simp [tf]))
    have tm__law_refused_right : (He.tabOf K (He.codeOf K ("_law_refused_right", none)), ("_law_refused_right.<locals>.<lambda>" : Str)) ∈ T := by simp [T]
    have TB__law_hundred_right := TB (He.cT K ("_law_hundred_right", none)) (List.mem_map_of_mem (by simp [tf]))
    have tm__law_hundred_right : (He.tabOf K (He.codeOf K ("_law_hundred_right", none)), ("_law_hundred_right.<locals>.<lambda>" : Str)) ∈ T := by simp [T]
    have ne_0 : He.tabOf K (He.codeOf K ("_law_step_told", none)) ≠ He.tabOf K (He.codeOf K ("_law_right", none)) := by
      have := ex_at ex 19 rfl
      simpa using this
    have ne_1 : He.tabOf K (He.codeOf K ("_law_step_told", none)) ≠ He.tabOf K (He.codeOf K ("_law_refused_right", none)) := by
      have := ex_at ex 20 rfl
      simpa using this
    have ne_2 : He.tabOf K (He.codeOf K ("_law_step_told", none)) ≠ He.tabOf K (He.codeOf K ("_law_hundred_right", none)) := by
      have := ex_at ex 21 rfl
      simpa using this
    have ne_3 : He.tabOf K (He.codeOf K ("_law_right", none)) ≠ He.tabOf K (He.codeOf K ("_law_refused_right", none)) := by
      have := ex_at ex 22 rfl
      simpa using this
    have ne_4 : He.tabOf K (He.codeOf K ("_law_right", none)) ≠ He.tabOf K (He.codeOf K ("_law_hundred_right", none)) := by
      have := ex_at ex 23 rfl
      simpa using this
    have ne_5 : He.tabOf K (He.codeOf K ("_law_refused_right", none)) ≠ He.tabOf K (He.codeOf K ("_law_hundred_right", none)) := by
      have := ex_at ex 24 rfl
      simpa using this
    have tu__law_step_told : ∀ p ∈ T, p.1 = He.tabOf K (He.codeOf K ("_law_step_told", none)) → p.2 = "_law_step_told.<locals>.<lambda>" := fun p hp => by
      simp only [T, List.mem_cons, List.not_mem_nil, or_false] at hp
      rcases hp with rfl | rfl | rfl | rfl
      · intro _; rfl
      · intro z; exact absurd z ne_0.symm
      · intro z; exact absurd z ne_1.symm
      · intro z; exact absurd z ne_2.symm
    have tu__law_right : ∀ p ∈ T, p.1 = He.tabOf K (He.codeOf K ("_law_right", none)) → p.2 = "_law_right.<locals>.<lambda>" := fun p hp => by
      simp only [T, List.mem_cons, List.not_mem_nil, or_false] at hp
      rcases hp with rfl | rfl | rfl | rfl
      · intro z; exact absurd z ne_0
      · intro _; rfl
      · intro z; exact absurd z ne_3.symm
      · intro z; exact absurd z ne_4.symm
    have tu__law_refused_right : ∀ p ∈ T, p.1 = He.tabOf K (He.codeOf K ("_law_refused_right", none)) → p.2 = "_law_refused_right.<locals>.<lambda>" := fun p hp => by
      simp only [T, List.mem_cons, List.not_mem_nil, or_false] at hp
      rcases hp with rfl | rfl | rfl | rfl
      · intro z; exact absurd z ne_1
      · intro z; exact absurd z ne_3
      · intro _; rfl
      · intro z; exact absurd z ne_5.symm
    have tu__law_hundred_right : ∀ p ∈ T, p.1 = He.tabOf K (He.codeOf K ("_law_hundred_right", none)) → p.2 = "_law_hundred_right.<locals>.<lambda>" := fun p hp => by
      simp only [T, List.mem_cons, List.not_mem_nil, or_false] at hp
      rcases hp with rfl | rfl | rfl | rfl
      · intro z; exact absurd z ne_2
      · intro z; exact absurd z ne_4
      · intro z; exact absurd z ne_5
      · intro _; rfl
    have K__law_step_told := fkm (ok_told (funLOf D__law_step_told) CK CC TB__law_step_told tm__law_step_told tu__law_step_told K_parse_step) m__law_step_told D__law_step_told.kp b__law_step_told
    have K__law_right := fkm (ok_right (funLOf D__law_right) CK CC TX TB__law_right tm__law_right tu__law_right K__law_step K__law_bent K__law_read K__law_due K__law_step_told K_step_text K_parse_step K_steps_text K_parse_steps EO) m__law_right D__law_right.kp b__law_right
    have K__law_hundred_right := fkm (ok_hundred (funLOf D__law_hundred_right) CK CC TX TB__law_hundred_right tm__law_hundred_right tu__law_hundred_right K__law_take MO K_steps_text K_parse_steps EO) m__law_hundred_right D__law_hundred_right.kp b__law_hundred_right
    have RF := ok_refused (P := P) (w := w) (funLOf D__law_refused_right) CK CC TX IC TB__law_refused_right tm__law_refused_right tu__law_refused_right K__law_step K__law_take K_step_text K_parse_step K_steps_text K_parse_steps RO
    exact ok_law F_law TX K__law_cell K__law_box K__law_take K__law_right K__law_hundred_right RF m__law_refused_right D__law_refused_right.kp b__law_refused_right
end HD
end SO
open PySem PySem.W PySem.Calls PyProof.Rows
set_option maxHeartbeats 0 in
theorem PySem.Challenge.cw_searchorders_k78_steps_as_texts_holds : PySem.Challenge.rw_searchorders_k78_steps_as_texts.Holds := by
  w_on; o_law
  refine HandSHeadRun.head_any (r := OpenLaw.row PySem.Challenge.rw_searchorders_k78_steps_as_texts) (q := view (OpenLaw.row PySem.Challenge.rw_searchorders_k78_steps_as_texts).prog [50]) (H := SO.HD.hk) (ob := SO.HD.ob) (M := 4000) (loose := SO.HD.loose)
    (d := HandSHeadRun.topDef (OpenLaw.row PySem.Challenge.rw_searchorders_k78_steps_as_texts).prog 50) (kwd := []) SO.HD.ob_eq (by kernel_rfl) (fun s => by kernel_rfl) SO.HD.run (by kernel_rfl) (by kernel_rfl) (by kernel_rfl) (by rfl) (by first | assumption | decide +kernel) (by decide +kernel) ⟨rfl, rfl, rfl, rfl, rfl, by decide +kernel⟩ ?hw ?hc
  case hw => w_witness2
  case hc =>
    refine SO.walkG (l := PySem.Challenge.rw_searchorders_k78_steps_as_texts) (n := 63) (k := 12) (x := "_law_script") rfl (by decide) (by kernel_rfl) ⟨rfl, by decide, by decide⟩ ?F
    intro w mg fa h Y G hmg0
    obtain ⟨g, hg, e⟩ := Y
    have hmg : mg ("law" : PySem.Str) = some (.ref fa) := by
      have e : (HandSHeadRun.topDef (OpenLaw.row PySem.Challenge.rw_searchorders_k78_steps_as_texts).prog 50).name = ("law" : PySem.Str) := by kernel_rfl
      rw [← e]
      exact hmg0
    exact SO.HD.all_ok hg G hmg e
end
