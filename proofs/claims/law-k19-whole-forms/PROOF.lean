import PyProof.Rows.All
import Wide.All
import OpenK.AllK
import Wide.FinOn
import KE.KStateDown
import KE.SortKeyHeap
import HandS.ForMost
import HandS.Defaults
import HandS.Deep
import HandS.IsInst
import HandS.TupAny
import HandS.Wide
import HandS.More
import HandS.Conv
import HandS.NoneIn
import HandS.SortKw
import HandS.Lambda
import HandS.HeadHook4
import HandS.Head0
import HandS.Head1
import HandS.Head2
import HandS.HeadEnd
import HandS.HeadHook1
import HandS.HeadHook2
import HandS.HeadHook3
import KE.KDictPairs
import PyProof.StrBlock2
import PyProof.ReprRoads
import HandS.DictTup
import KE.SortData
import KE.GoesZip
import KE.GoesMore
import KE.GoesEnumKw
import HandS.Iter
import HandS.ListEq
import HandS.Walk
import KE.KIntText
import KE.SortKeyed
import PyProof.FitsInt
import HandS.EndTab
import Lean
import PySem.Challenge.RW_leapwork_k19_whole_forms_and_worths
set_option Elab.async false
set_option linter.all false
set_option maxRecDepth 100000
/-! Part A: the text by places; terms as data; how data lie in the abstract heap. -/
namespace Lw
open PySem PySem.Spec L2 PyProof.Rows
/-! ### the text -/
def top (i : Nat) : Stmt := PySem.Challenge.pw_leapwork_k19_whole_forms_and_worths.main.body.getD i (.Pass ⟨0, 0, 0, 0⟩)
abbrev mth (i j : Nat) : Stmt := inClass (top i) j
/-- a def of the top, without defaults -/
abbrev FnP (K : PySem.W.Frag) (x : Str) (i : Nat) (f : Addr) (fd : FuncData) : Prop := FunD K x x (defArgs (top i)) (defBody (top i)) (defScope (top i)) [] [] f fd
/-- a method -/
abbrev FnM (K : PySem.W.Frag) (x q : Str) (i j : Nat) (dvs : List V) (kws : List (Str × V)) (f : Addr) (fd : FuncData) : Prop := FunD K x q (defArgs (mth i j)) (defBody (mth i j)) (defScope (mth i j)) dvs kws f fd

/-! ### heaps -/
theorem same_upd {H : Hp} {p : Addr} {o : HO} (h : H p = none) : Same H (upd H p o) := fun b x e => by
  rw [upd_ne (ne_of_none e h)]
  exact e
/-- all but the pen (and tables of code) stands as it stood -/
def Kp (p : Addr) (H H' : Hp) : Prop := ∀ b o, H b = some o → b ≠ p → (∀ ps, o ≠ .tbl ps) → H' b = some o
theorem Kp.refl (p : Addr) (H : Hp) : Kp p H H := fun _ _ e _ _ => e
theorem Kp.trans {p : Addr} {H H1 H2 : Hp} (a : Kp p H H1) (b : Kp p H1 H2) : Kp p H H2 := fun c o e n t => b c o (a c o e n t) n t
theorem Kp.of {p : Addr} {H H' : Hp} (s : Same H H') : Kp p H H' := fun b o e _ _ => s b o e
/-- tuples stand -/
def KT (H H' : Hp) : Prop := ∀ b xs, H b = some (.tup xs) → H' b = some (.tup xs)
theorem KT.refl (H : Hp) : KT H H := fun _ _ e => e
theorem KT.trans {H H1 H2 : Hp} (a : KT H H1) (b : KT H1 H2) : KT H H2 := fun c o e => b c o (a c o e)
theorem KT.of {H H' : Hp} (s : Same H H') : KT H H' := fun b o e => s b _ e
theorem KT.new {H : Hp} {p : Addr} {o : HO} (h : H p = none) : KT H (upd H p o) := KT.of (same_upd h)
theorem KT.set {H : Hp} {p : Addr} {o u : HO} (h : H p = some u) (n : ∀ xs, u ≠ .tup xs) : KT H (upd H p o) := fun b xs e => by
  have hb : b ≠ p := fun z => by
    rw [z, h] at e
    exact n xs (Option.some.inj e)
  rw [upd_ne hb]
  exact e

/-! ### data without lists -/
mutual
inductive DR (H : Hp) : V → PyData → Prop
  | non : DR H .non .none
  | bl (b : Bool) : DR H (.bl b) (.bool b)
  | int (i : Int) : DR H (.int i) (.int i)
  | str (x : Str) : DR H (.str x) (.str x)
  | tup {a : Addr} {xs : List V} {ds : List PyData} : H a = some (.tup xs) → DRs H xs ds → DR H (.ref a) (.tuple ds)
inductive DRs (H : Hp) : List V → List PyData → Prop
  | nil : DRs H [] []
  | cons {v : V} {vs : List V} {d : PyData} {ds : List PyData} : DR H v d → DRs H vs ds → DRs H (v :: vs) (d :: ds)
end
section
variable {H H' : Hp}
mutual
theorem DR.keep (k : KT H H') : ∀ (d : PyData) (v : V), DR H v d → DR H' v d
  | .none, _, h => by cases h; exact .non
  | .bool b, _, h => by cases h; exact .bl b
  | .int i, _, h => by cases h; exact .int i
  | .str x, _, h => by cases h; exact .str x
  | .list _, _, h => by cases h
  | .tuple ds, _, h => by
    cases h with
    | tup ha hd => exact .tup (k _ _ ha) (DRs.keep k ds _ hd)
  | .dict _, _, h => by cases h
theorem DRs.keep (k : KT H H') : ∀ (ds : List PyData) (vs : List V), DRs H vs ds → DRs H' vs ds
  | [], _, h => by cases h; exact .nil
  | d :: ds, _, h => by
    cases h with
    | cons h1 h2 => exact .cons (DR.keep k d _ h1) (DRs.keep k ds _ h2)
end
theorem DR.kt {v : V} {d : PyData} (h : DR H v d) (k : KT H H') : DR H' v d := DR.keep k d v h
theorem DRs.kt {vs : List V} {ds : List PyData} (h : DRs H vs ds) (k : KT H H') : DRs H' vs ds := DRs.keep k ds vs h
mutual
theorem DR.dp (K : PySem.W.Frag) : ∀ (d : PyData) (v : V), DR H v d → Dp K H v d
  | .none, _, h => by cases h; exact .non
  | .bool b, _, h => by cases h; exact .bl b
  | .int i, _, h => by cases h; exact .int i
  | .str x, _, h => by cases h; exact .str x
  | .list _, _, h => by cases h
  | .tuple ds, _, h => by
    cases h with
    | tup ha hd => exact .tup (SqT.of ha) (DRs.dp K ds _ hd)
  | .dict _, _, h => by cases h
theorem DRs.dp (K : PySem.W.Frag) : ∀ (ds : List PyData) (vs : List V), DRs H vs ds → DpAll K H vs ds
  | [], _, h => by cases h; exact .nil
  | d :: ds, _, h => by
    cases h with
    | cons h1 h2 => exact .cons (DR.dp K d _ h1) (DRs.dp K ds _ h2)
end
theorem DR.tup_inv {v : V} {ds : List PyData} (h : DR H v (.tuple ds)) : ∃ a xs, v = .ref a ∧ H a = some (.tup xs) ∧ DRs H xs ds := by
  cases h with
  | tup ha hd => exact ⟨_, _, rfl, ha, hd⟩
theorem DR.int_inv {v : V} {i : Int} (h : DR H v (.int i)) : v = .int i := by cases h; rfl
theorem DR.str_inv {v : V} {x : Str} (h : DR H v (.str x)) : v = .str x := by cases h; rfl
theorem DRs.nil_inv {vs : List V} (h : DRs H vs []) : vs = [] := by cases h; rfl
theorem DRs.cons_inv {vs : List V} {d : PyData} {ds : List PyData} (h : DRs H vs (d :: ds)) : ∃ v r, vs = v :: r ∧ DR H v d ∧ DRs H r ds := by
  cases h with
  | cons h1 h2 => exact ⟨_, _, rfl, h1, h2⟩
theorem DRs.length : ∀ {vs : List V} {ds : List PyData}, DRs H vs ds → vs.length = ds.length
  | _, _, .nil => rfl
  | _, _, .cons _ t => congrArg (· + 1) (DRs.length t)
theorem DRs.append : ∀ {vs ws : List V} {ds es : List PyData}, DRs H vs ds → DRs H ws es → DRs H (vs ++ ws) (ds ++ es)
  | _, _, _, _, .nil, s => s
  | _, _, _, _, .cons r t, s => .cons r (DRs.append t s)
theorem DRs.get : ∀ {vs : List V} {ds : List PyData} {i : Nat} {d : PyData}, DRs H vs ds → ds[i]? = some d → ∃ v, vs[i]? = some v ∧ DR H v d
  | _, _, _, _, .nil, e => by simp at e
  | _, _, 0, d, .cons r _, e => by
    simp at e
    subst e
    exact ⟨_, rfl, r⟩
  | _, _, i + 1, d, .cons _ t, e => by
    obtain ⟨v, h1, h2⟩ := DRs.get (i := i) (d := d) t (by simpa using e)
    exact ⟨v, by simpa using h1, h2⟩
theorem DRs.getV : ∀ {vs : List V} {ds : List PyData} {i : Nat} {v : V}, DRs H vs ds → vs[i]? = some v → ∃ d, ds[i]? = some d ∧ DR H v d
  | _, _, _, _, .nil, e => by simp at e
  | _, _, 0, d, .cons r _, e => by
    simp at e
    subst e
    exact ⟨_, rfl, r⟩
  | _, _, i + 1, d, .cons _ t, e => by
    obtain ⟨v, h1, h2⟩ := DRs.getV (i := i) (v := d) t (by simpa using e)
    exact ⟨v, by simpa using h1, h2⟩
/-- a new tuple of data -/
theorem DR.new {p : Addr} {xs : List V} {ds : List PyData} (n : H p = none) (h : DRs H xs ds) : DR (upd H p (.tup xs)) (.ref p) (.tuple ds) :=
  .tup upd_same (h.kt (KT.new n))
end

/-! ### terms, row terms -/
inductive Tm where
  | num (n : Int) | name (l : Key) | add (t u : Tm) | mul (n : Int) (t : Tm) | read (r t : Tm) | size (r : Tm) | div (t : Tm) (k : Int) | mod (t : Tm) (k : Int)
  | row (l : Key) | wth (r t u : Tm) | room (t : Tm)
  deriving Inhabited
def kd : Key → PyData
  | .inl i => .int i
  | .inr x => .str x
theorem DR.key {H : Hp} {v : V} {l : Key} (h : DR H v (kd l)) : v = kV l := by
  cases l with
  | inl i => exact h.int_inv
  | inr x => exact h.str_inv
theorem DR.ofKey {H : Hp} (l : Key) : DR H (kV l) (kd l) := by
  cases l with
  | inl i => exact .int i
  | inr x => exact .str x
/-- a term as Python's data -/
def Tm.d : Tm → PyData
  | .num n => .tuple [.str "num", .int n]
  | .name l => .tuple [.str "name", kd l]
  | .add t u => .tuple [.str "add", t.d, u.d]
  | .mul n t => .tuple [.str "mul", .int n, t.d]
  | .read r t => .tuple [.str "read", r.d, t.d]
  | .size r => .tuple [.str "size", r.d]
  | .div t k => .tuple [.str "div", t.d, .int k]
  | .mod t k => .tuple [.str "mod", t.d, .int k]
  | .row l => .tuple [.str "row", kd l]
  | .wth r t u => .tuple [.str "with", r.d, t.d, u.d]
  | .room t => .tuple [.str "room", t.d]
/-- it lies there -/
abbrev TR (H : Hp) (v : V) (t : Tm) : Prop := DR H v t.d
/-- well sorted (false: a term, true: a row term), its letters among ns and rs -/
def Ok (ns rs : List Key) : Bool → Tm → Prop
  | false, .num _ => True
  | false, .name l => l ∈ ns
  | false, .add t u => Ok ns rs false t ∧ Ok ns rs false u
  | false, .mul _ t => Ok ns rs false t
  | false, .read r t => Ok ns rs true r ∧ Ok ns rs false t
  | false, .size r => Ok ns rs true r
  | false, .div t k => Ok ns rs false t ∧ 1 ≤ k ∧ k ≤ 1000000000
  | false, .mod t k => Ok ns rs false t ∧ 1 ≤ k ∧ k ≤ 1000000000
  | true, .row l => l ∈ rs
  | true, .wth r t u => Ok ns rs true r ∧ Ok ns rs false t ∧ Ok ns rs false u
  | true, .room t => Ok ns rs false t
  | _, _ => False
/-- the levels that gather, inner_form, the worth and put_in of it may want -/
def Tm.lev : Tm → Nat
  | .num _ => 1
  | .name _ => 3
  | .add t u => max t.lev u.lev + 1
  | .mul _ t => t.lev + 1
  | .read r t => max r.lev t.lev + 4
  | .size r => r.lev + 4
  | .div t _ => t.lev + 4
  | .mod t _ => t.lev + 4
  | .row _ => 1
  | .wth r t u => max r.lev (max t.lev u.lev) + 2
  | .room t => t.lev + 2
theorem Tm.lev_pos (t : Tm) : 1 ≤ t.lev := by cases t <;> simp [Tm.lev]
/-- letters put in -/
def Tm.put (l : Key) (s : Tm) : Tm → Tm
  | .num n => .num n
  | .name m => if m = l then s else .name m
  | .add t u => .add (Tm.put l s t) (Tm.put l s u)
  | .mul n t => .mul n (Tm.put l s t)
  | .read r t => .read (Tm.put l s r) (Tm.put l s t)
  | .size r => .size (Tm.put l s r)
  | .div t k => .div (Tm.put l s t) k
  | .mod t k => .mod (Tm.put l s t) k
  | .row m => if m = l then s else .row m
  | .wth r t u => .wth (Tm.put l s r) (Tm.put l s t) (Tm.put l s u)
  | .room t => .room (Tm.put l s t)
/-! ### what stands at the top -/
def formsTab : List (Str × Str × Str) := [("num", "term", "n"), ("name", "term", "x"), ("add", "term", "tt"), ("mul", "term", "nt"), ("read", "term", "rt"), ("size", "term", "r"), ("div", "term", "tk"), ("mod", "term", "tk"), ("notion", "term", "ab"), ("row", "row", "y"), ("with", "row", "rtt"), ("room", "row", "t"), ("le", "plain", "tt"), ("eq", "plain", "tt"), ("not", "plain", "p"), ("and", "plain", "pp"), ("or", "plain", "pp"), ("all", "all", "ttp")]
def defsA : List (Str × Nat) := [("inner_form", 2), ("form_of", 3), ("put_pair", 4), ("gather", 5), ("pairs_left", 6), ("sum_of", 7), ("line_between", 10), ("line_of", 11), ("is_whole", 14), ("sort_of", 15)]
def defsB : List (Str × Nat) := [("kinds_of", 16), ("parts_of", 17), ("put_in", 20), ("firm", 27), ("made_row", 30), ("number_at", 31), ("worth_of", 33), ("looked", 34), ("truth_of", 35), ("_law_spread", 37)]
def defsC : List (Str × Nat) := [("_law_open", 38), ("_law_take", 39), ("_law_same", 40), ("_law_s_names", 41), ("_law_s_number", 42), ("_law_s_weight", 43), ("_law_s_sum", 44), ("_law_s_row", 45), ("_law_s_entry", 46), ("_law_s_pool", 47)]
def defsE : List (Str × Nat) := [("_law_s_form", 48), ("_law_s_spelt", 49), ("_law_s_leaves", 50), ("_law_s_tree", 51), ("_law_s_table", 52), ("_law_s_read", 53), ("_law_s_size", 54), ("_law_s_worth", 55), ("_law_s_added", 57), ("_law_s_is_so", 58)]
def defsF : List (Str × Nat) := [("_law_s_all_so", 59), ("law", 60)]
def defsL : List (Str × Nat) := defsA ++ (defsB ++ (defsC ++ (defsE ++ defsF)))
def freeL : List Str := ["len", "int", "min", "max", "sum", "list", "range", "dict", "tuple", "sorted", "repr", "isinstance", "str", "bool", "zip", "enumerate"]
end Lw
/-! Part H9: the head: what is looked at, its run. -/
namespace Lw
open PySem L2
def dG (q : Str × Nat) : He.DefD := ⟨(q.1, none), q.1, q.1, defArgs (top q.2), defBody (top q.2), defScope (top q.2), [], []⟩
def dM (C x q : Str) (i j : Nat) (dfl : List He.Dv) (kwd : List (Str × He.Dv)) : He.DefD := ⟨(C, some x), x, q, defArgs (mth i j), defBody (mth i j), defScope (mth i j), dfl, kwd⟩
def mthL : List He.DefD := [dM "Look" "letter_at" "Look.letter_at" 32 2 [] [("of_row", .bl false)], dM "Look" "reckon" "Look.reckon" 32 3 [.non] [], dM "Look" "reckon_number" "Look.reckon_number" 32 4 [] [], dM "Look" "reckon_row" "Look.reckon_row" 32 5 [] [], dM "Look" "is_so" "Look.is_so" 32 9 [] [],
  dM "Look" "__init__" "Look.__init__" 32 0 [] [], dM "Line" "__init__" "Line.__init__" 9 0 [] []]
def fnL : List He.DefD := mthL ++ defsL.map dG
def faA : List He.Fa := [.int "MOST_LOOK" 400, .int "FLOORS" 10, .cls "Line", .mkr "Line", .noat "Line" "kind", .noat "Line" "pairs", .noat "Line" "number", .cls "Look", .mkr "Look", .noat "Look" "notions", .noat "Look" "firm", .noat "Look" "count", .noat "Look" "first"]
def faB : List He.Fa := [.meth "Look" "letter_at", .meth "Look" "reckon", .meth "Look" "reckon_number", .meth "Look" "reckon_row", .meth "Look" "is_so", .glo "ROW_WORDS", .glo "FORMS", .glo "Line", .glo "Look"]
def faL : List He.Fa := faA ++ (faB ++ (defsL.map (fun q => .glo q.1) ++ freeL.map .free))
def tsL : List He.Tab := [((fun K => He.ga K "FORMS"), formsTab.map (·.1))]
def tfL : List He.Defn := [("form_of", none)]
/-- at a stands this tuple -/
def tupAt (K : PySem.W.Frag) (a : Addr) (vs : List V) : Bool := match K.lookup a with
  | some o => decide (o.cls = .type "tuple") && (match o.data with
    | .seq its _ => decide (its.size ≤ sizeLine) && He.relAll vs its.toList
    | _ => false)
  | none => false
def formAt (K : PySem.W.Frag) (q : Str × Str × Str) : Bool := match PySem.W.nsIn K (He.ga K "FORMS") q.1 with
  | some (some (.ref a)) => tupAt K a [.str q.2.1, .str q.2.2]
  | _ => false
def exL (K : PySem.W.Frag) : Bool := tupAt K (He.ga K "ROW_WORDS") [.str "row", .str "with", .str "room"] && formsTab.all (formAt K)
abbrev RwO : PySem.W.OpenRow := PySem.W.OpenLaw.row PySem.Challenge.rw_leapwork_k19_whole_forms_and_worths
abbrev hkL : PySem.W.Hook := He.hookX 5 faL fnL tsL tfL exL
def obL (s : PySem.W.SharedT) : He.AlX := He.obsX 5 faL fnL tsL tfL exL (HandSHeadRun.getT s)
theorem obL_eq (s : PySem.W.SharedT) : obL s = hkL.obs s.abs := He.obsX_eq (HandSHeadRun.getT_eq s)
def looseA : List Str := ["ROW_WORDS", "inner_form", "form_of", "put_pair", "gather", "pairs_left", "sum_of", "Line", "line_between", "line_of", "FORMS", "is_whole", "sort_of", "kinds_of", "parts_of", "gather_notions", "notion_terms", "put_in", "FLOORS", "kind_of", "takes", "own_term", "stands", "firm", "MOST_LOOK", "made_row", "number_at", "Look", "worth_of", "looked"]
def looseB : List Str := ["truth_of", "_law_spread", "_law_open", "_law_take", "_law_same", "_law_s_names", "_law_s_number", "_law_s_weight", "_law_s_sum", "_law_s_row", "_law_s_entry", "_law_s_pool", "_law_s_form", "_law_s_spelt", "_law_s_leaves", "_law_s_tree", "_law_s_table", "_law_s_read", "_law_s_size", "_law_s_worth", "_law_s_mark", "_law_s_added", "_law_s_is_so", "_law_s_all_so"]
def looseL : List Str := looseA ++ looseB
open HandSHeadRun PySem.W
set_option maxHeartbeats 0 in
theorem runF (w : World) : HandSHeadRun.RunEq RwO (PySem.W.view RwO.prog [60]) hkL obL 4000 looseL (w.withFollow "special-get-raises" false) := by
  intro os
  kernel_rfl
set_option maxHeartbeats 0 in
theorem runT (w : World) : HandSHeadRun.RunEq RwO (PySem.W.view RwO.prog [60]) hkL obL 4000 looseL (w.withFollow "special-get-raises" true) := by
  intro os
  kernel_rfl
theorem runL (w : World) : HandSHeadRun.RunEq RwO (PySem.W.view RwO.prog [60]) hkL obL 4000 looseL w :=
  PySem.W.byRow2 "special-get-raises" (P := fun w => HandSHeadRun.RunEq RwO (PySem.W.view RwO.prog [60]) hkL obL 4000 looseL w) runF runT w
end Lw
/-! Part G: promises of defs that ask for an empty row of guards (repr looks at it). -/
namespace Lw
open PySem PySem.Spec L2 PyProof.Rows
/-- a promise kept wherever no repr is under way -/
structure FnG (P : Program) (w : World) (K : PySem.W.Frag) (mg : Str → Option Value) (base : Heap) (k : Nat) (f : Addr) (fd : FuncData) (ps : List Str) (sp : Sp) : Prop where
  len : ∀ vs H Q E, sp vs H Q E → vs.length = ps.length
  run : ∀ (A : Around) (out : List Env) (s : Shared) (H : Hp) (args : Args) (us : List Value) (vs : List V) (Q : VK) (E : XK), A.guards = some [] → Room k A → Env0 P w K mg base A out s H →
    BindsTo s fd args (ps.zip us) → Vals vs us → sp vs H Q E → codeAny (model P w) A (.call (.ref f) args) (CR CX0 out P w H s Q E) s
section
variable {P : Program} {w : World} {K : PySem.W.Frag} {mg : Str → Option Value} {base : Heap} {j k : Nat} {f : Addr} {fd : FuncData} {ps : List Str} {sp sp' : Sp}
theorem FnG.of (F : FnOk P w K mg base CX0 k f fd ps sp) : FnG P w K mg base k f fd ps sp :=
  ⟨F.len, fun A out s H args us vs Q E _ hr => F.run A out s H args us vs Q E hr⟩
theorem FnG.mono (F : FnG P w K mg base j f fd ps sp) (h : j ≤ k) : FnG P w K mg base k f fd ps sp :=
  ⟨F.len, fun A out s H args us vs Q E hg hr => F.run A out s H args us vs Q E hg (hr.mono h)⟩
theorem FnG.imp (F : FnG P w K mg base k f fd ps sp) (h : ∀ vs H Q E, sp' vs H Q E → sp vs H Q E) : FnG P w K mg base k f fd ps sp' :=
  ⟨fun vs H Q E q => F.len vs H Q E (h _ _ _ _ q), fun A out s H args us vs Q E hg hr he hb hv hs => F.run A out s H args us vs Q E hg hr he hb hv (h _ _ _ _ hs)⟩
/-- the rule for a def: its body may take the guards for empty -/
theorem okG {x qual : Str} {params : Arguments} {body : List Stmt} {scope : Scope} {dvs : List V} {kws : List (Str × V)} {N : List Str} (F : FunD K x qual params body scope dvs kws f fd) (S : FnScope N ps scope)
    (len : ∀ vs H Q E, sp vs H Q E → vs.length = ps.length)
    (hb : ∀ (cdv : Value) (A : Around) (out : List Env) (s : Shared) (H : Hp) (vs : List V) (Q : VK) (E : XK), A.guards = some [] → (∃ oc od dV kV doc pm an ct osl, K.lookup f = some ⟨oc, od, .func (PySem.W.fnOf x qual params body scope dV kV doc pm an cdv ct), osl⟩) →
      Room k (A.deeper (envOfC qual scope s.heap.objs.size f cdv)) → sp vs H Q E →
      ∃ t, PSs (cxOf CX0 P w K mg base N qual scope f cdv A out s H E).nox body t ∧ t { nx := fun _ H' => Q .non H', rt := Q } (start N vs) H) : FnG P w K mg base (k + 1) f fd ps sp := by
  obtain ⟨oc, od, dV, kV, doc, pm, an, cdv, ct, osl, rfl, lk, hcd, _, _⟩ := F.ex
  refine ⟨len, fun A out s H args us vs Q E hg hr he hbd hv hs => ?_⟩
  refine LamX.run_ofS lk hcd S hr he hbd hv (len _ _ _ _ hs) fun hr' => ?_
  obtain ⟨t, h1, h2⟩ := hb cdv A out s H vs Q E hg ⟨_, _, _, _, _, _, _, _, _, lk⟩ hr' hs
  exact ⟨t, h1.nox, h2⟩
end
section
variable {X : Cx} {k : Nat} {f : Addr} {fd : FuncData} {ps : List Str} {sp : Sp} {E : XK} {x : Str} {p pos : Pos} {e : Expr} {es : List Expr} {t : TA}
theorem run_g {pins : List (Addr × Obj)} {σ : L2.St} {H : Hp} {s : Shared} {Q : VK} {us : List Value} {vs : List V} (F : FnG X.prog X.w X.K X.mg X.base k f fd ps sp) (hg : X.A.guards = some []) (hr : Room k X.A) (hb : Binds X.K fd ps [])
    (I : Inv X pins σ H s) (r : Vals vs us) (h : sp vs H Q E0) : wpAny (model X.prog X.w) X.A (call (.ref f) us) (EP X pins σ Q) X.xe s := by
  have hl : (us ++ []).length = ps.length := by
    rw [List.append_nil, ← r.length]
    exact F.len _ _ _ _ h
  have hbt := hb s us I.kIn hl
  rw [List.append_nil] at hbt
  refine wpAny_call (codeAny_mono (F.run X.A X.stack s H ⟨us, []⟩ us vs Q E0 hg hr I.env0 hbt r h) fun o s' hq => ?_)
  cases o with
  | error e => exact False.elim hq
  | ok fl =>
    cases fl with
    | ret u => exact I.after hq
    | next => exact False.elim hq
    | brk => exact False.elim hq
    | cont => exact False.elim hq
/-- f(e, ..) of such a def -/
theorem pe_callG (F : FnG X.prog X.w X.K X.mg X.base k f fd ps sp) (gd : X.A.guards = some []) (hr : Room k X.A) (hg : Gl X x) (hm : X.mg x = some (.ref f)) (hk : PySem.W.keepIn X.K (.ref f) = true) (hb : Binds X.K fd ps [])
    (ha : PA X (e :: es) t) (hdb : (x == ("__debug__" : Str)) = false := by decide) (he : starEach (e :: es) X.env = (false, eval e X.env) :: starEach es X.env := by rfl)
    (hpl : (backTo pos (starEach es X.env)).any (·.1) = false := by rfl) : PE X (.Call (.Name x p) (e :: es) [] pos) (fun σ H Q => t σ H fun vs H1 => sp vs H1 Q E0) :=
  ⟨fun pins s σ H Q I h => wpAny_Call_Name_kw (ld_glob I hg hm (PySem.W.callWith_K (h₀ := X.base) I.ok.mod.kin hk
    (thn (ha.run pos pins s σ H _ I h) fun us s1 ⟨vs, H1, I1, r, q⟩ => ⟨I1.kIn, run_g F gd hr hb I1 r q⟩) he hpl) hdb)⟩
end
end Lw
/-! Part R: rules for constructs that the layer lacks. -/
namespace Lw
open PySem PySem.Spec L2 PyProof.Rows
section
variable {X : Cx}
/-! ### a tuple of which the object is known (its own dict: none) -/
def PlainT (o : Obj) (xs : List V) : Prop := ∃ (its : List Value) (n : Nat), o = { cls := .type "tuple", data := .seq its.toArray n } ∧ Vals xs its
/-- tuple(l), l a list: a new plain tuple -/
def rTupF (K : PySem.W.Frag) : List V → Hp → VK → Prop := fun vs H Q => ∃ p ys, vs = [.ref p] ∧ SqL K H p ys ∧ ∀ l o, H l = none → PlainT o ys → Q (.ref l) (upd H l (.frz o (.tup ys)))
theorem call_tupF : CallR X (.type "tuple") (rTupF X.K) := by
  rintro pins s σ H xs us Q I r ⟨p, ys, rfl, hq, q⟩
  obtain ⟨u, rfl, rx⟩ := vals1 r
  cases rx
  obtain ⟨its, rv, pl, hz⟩ := I.list hq
  have hl := rv.length
  refine call_tuple_list pl.isList (fun h' kp => ?_) (by simp only [List.size_toArray] <;> omega)
  have I1 : Inv X pins σ H { s with heap := h' } := I.kept (t' := s.toks) kp
  refine ⟨.ref h'.objs.size, _, I1.laid (t' := s.toks) (a := h'.objs.size) (o := .frz { cls := .type "tuple", data := .seq its.toArray } (.tup ys)) (fun b o e => Heap.get?_push_of_some _ e) (Nat.le_refl _) ?_, rfl, q _ _ (I1.hok.fresh (Nat.le_refl _)) ⟨its, _, rfl, rv⟩⟩
  exact ⟨Heap.get?_push_size _ rfl, hz, its, rv, IsTup.new _ _⟩
/-- a display of a tuple: a new plain one -/
def tTupF (t : TA) : TE := fun σ H Q => t σ H fun xs H1 => xs.length ≤ sizeLine ∧ ∀ p o, H1 p = none → PlainT o xs → Q (.ref p) (upd H1 p (.frz o (.tup xs)))
theorem pe_tupF {es : List Expr} {t : TA} {k : Nat} {pos : Pos} (h : PA X es t) : PE X (.Tuple es k pos) (tTupF t) := by
  refine ⟨fun pins s σ H Q I hq => wpAny_Tuple_spliced (thn (h.run pos pins s σ H _ I hq) fun us s1 ⟨xs, H1, I1, r, z, q⟩ => ⟨by rw [← r.length]; exact z, ?_⟩)⟩
  refine ⟨.ref s1.heap.objs.size, _, I1.laid (t' := s1.toks) (o := .frz { cls := .type "tuple", data := .seq us.toArray } (.tup xs)) (fun b o e => Heap.get?_push_of_some _ e) (Nat.le_refl _) ?_, rfl, q _ _ (I1.hok.fresh (Nat.le_refl _)) ⟨us, _, rfl, r⟩⟩
  exact ⟨Heap.get?_push_size _ rfl, z, us, r, IsTup.new _ _⟩

/-! ### t += u of tuples -/
theorem no_iadd_tup : typeLookup (.type "tuple") (dunderI "add") = pure none := by first | rfl | kernel_rfl | (exact am_miss_of_fast (by decide +kernel))
def rIcat : TIp := fun x y H Q => ∃ a b xs ys, x = .ref a ∧ y = .ref b ∧ H a = some (.tup xs) ∧ H b = some (.tup ys) ∧ xs ≠ [] ∧ ys ≠ [] ∧ xs.length + ys.length ≤ sizeLine ∧ ∀ p, H p = none → Q (.ref p) (upd H p (.tup (xs ++ ys)))
theorem ip_catT : PIp X .Add rIcat := by
  rintro pins s σ H x y v u Q I rx ry ⟨a, b, xs, ys, rfl, rfl, ha, hb, hx, hy, hz, q⟩
  cases rx
  cases ry
  obtain ⟨its, r1, p1, _⟩ := I.tuple (SqT.of ha)
  obtain ⟨its2, r2, p2, _⟩ := I.tuple (SqT.of hb)
  obtain ⟨⟨cls, dd, data, sl⟩, ho, hc, n, hd⟩ := id p1
  obtain ⟨⟨cls2, dd2, data2, sl2⟩, ho2, hc2, n2, hd2⟩ := id p2
  simp only at hc hd hc2 hd2
  subst hc hd hc2 hd2
  have l1 := r1.length
  have l2 := r2.length
  have n1 : its ≠ [] := fun z => hx (by rw [z] at l1; exact List.length_eq_zero_iff.mp l1)
  have n2' : its2 ≠ [] := fun z => hy (by rw [z] at l2; exact List.length_eq_zero_iff.mp l2)
  have ea : its.toArray ++ its2.toArray = (its ++ its2).toArray := by simp
  refine wpAny_inplaceOp_concat ⟨_, ho, rfl⟩ ⟨_, ho2, rfl⟩ no_iadd_tup noFill_tuple_add seq_tuple_add (call_meets PySem.F.slot_tuple_add ⟨_, ho, rfl⟩ PySem.F.entry_tuple_add (PySem.F.args_tuple_add_2 _ _)
    (tuple_addW2 a b its.toArray its2.toArray n n2 dd dd2 sl sl2 (by simpa using n1) (by simpa using n2') (by rw [List.size_toArray, List.size_toArray]; omega)) ⟨ho, ho2, ?_⟩)
  rw [ea]
  refine ⟨.ref s.heap.objs.size, _, I.laid (t' := s.toks) (o := .tup (xs ++ ys)) (fun b ob q => Heap.get?_push_of_some _ q) (Nat.le_refl _) ?_, rfl, q _ (I.hok.fresh (Nat.le_refl _))⟩
  exact ⟨by rw [List.length_append]; exact hz, _, r1.append r2, IsTup.new _ _⟩

/-! ### a text so often (none or once) -/
theorem op_strTimes : OpR X (binaryOp .Mult) (fun x y H Q => ∃ z i, x = .str z ∧ y = .int i ∧ (i = 0 ∨ i = 1) ∧ Q (.str (if i = 1 then z else Str.empty)) H) := by
  rintro pins s σ H x y v u Q I rx ry ⟨z, i, rfl, rfl, hi, q⟩
  obtain ⟨t, rfl⟩ := rx
  obtain ⟨t', rfl⟩ := ry
  have ok : MulOk z i := by
    rcases hi with rfl | rfl
    · exact ⟨by decide, fun h => absurd (by decide : (0 : Int) < 1) h, fun h => absurd (by decide : (0 : Int) < 1) h⟩
    · exact ⟨by decide, fun _ h => by simp at h, fun _ h => by simp at h⟩
  refine SB.mul ok fun t2 k => ⟨.str _, H, I.tok k, ⟨t2, rfl⟩, ?_⟩
  have e : Txt.mul z i = (if i = 1 then z else Str.empty) := by
    rcases hi with rfl | rfl
    · rfl
    · rfl
  rw [e]
  exact q

/-! ### repr of tuples of data -/
mutual
theorem DR.nodict {H : Hp} : ∀ (d : PyData) (v : V), DR H v d → d.hasDict = false
  | .none, _, _ => by simp only [PyData.hasDict]
  | .bool _, _, _ => by simp only [PyData.hasDict]
  | .int _, _, _ => by simp only [PyData.hasDict]
  | .str _, _, _ => by simp only [PyData.hasDict]
  | .list _, _, h => by cases h
  | .tuple ds, _, h => by
    cases h with
    | tup _ hd =>
      simp only [PyData.hasDict]
      exact DRs.nodict ds _ hd
  | .dict _, _, h => by cases h
theorem DRs.nodict {H : Hp} : ∀ (ds : List PyData) (vs : List V), DRs H vs ds → PyData.hasDictAll ds = false
  | [], _, _ => by simp only [PyData.hasDictAll]
  | d :: ds, _, h => by
    cases h with
    | cons h1 h2 => simp only [PyData.hasDictAll, DR.nodict d _ h1, DRs.nodict ds _ h2, Bool.or_self]
end
def rRepr : List V → Hp → VK → Prop := fun vs H Q => ∃ v ds, vs = [v] ∧ DR H v (.tuple ds) ∧ (PyData.tuple ds).showable = true ∧ (PyData.tuple ds).depth ≤ 60 ∧ (PyData.tuple ds).shown.length ≤ sizeLine ∧ Q (.str (PyData.tuple ds).shown) H
theorem call_reprT (gd : X.A.guards = some []) (hu : X.A.units + 64 < cLine) : CallR X (.builtin "repr") rRepr := by
  rintro pins s σ H xs us Q I r ⟨v, ds, rfl, hd, hs, hdp, hz, q⟩
  obtain ⟨u, rfl, rx⟩ := vals1 r
  obtain ⟨as, rd⟩ := Dp.reads I (.tuple ds) v u (hd.dp X.K) rx
  obtain ⟨a, ys, rfl, _, _⟩ := hd.tup_inv
  cases rx
  refine repr_of_reads' rd hs (PyData.noDict_hsm (DR.nodict _ _ hd)) gd (by omega) (fun _ _ e => e) (fun h' u tk kp => ?_) hz
  exact ⟨.str _, H, I.kept (t' := tk) kp, ⟨u, rfl⟩, q⟩
end
end Lw
/-! Part B: defs by name; the pen; things of the law's own. -/
namespace Lw
open PySem PySem.Spec L2 PyProof.Rows
/-! ### a def that stands under its name, a promise that is kept under a name -/
def Df (K : PySem.W.Frag) (mg : Str → Option Value) (x : Str) (i : Nat) : Prop := ∃ f fd, FnP K x i f fd ∧ mg x = some (.ref f)
/-- at f stands this def -/
def FdAt (K : PySem.W.Frag) (f : Addr) (fd : FuncData) : Prop := ∃ oc od osl, K.lookup f = some ⟨oc, od, .func fd, osl⟩
theorem FdAt.same {K : PySem.W.Frag} {f : Addr} {fd fd' : FuncData} (h : FdAt K f fd) (h' : FdAt K f fd') : fd = fd' := by
  obtain ⟨_, _, _, e⟩ := h
  obtain ⟨_, _, _, e'⟩ := h'
  rw [e] at e'
  injection e' with e'
  injection e' with _ _ e' _
  injection e'
theorem fdAt_of {K : PySem.W.Frag} {x : Str} {i : Nat} {f : Addr} {fd : FuncData} (F : FnP K x i f fd) : FdAt K f fd := by
  obtain ⟨oc, od, dV, kV, doc, pm, an, cdv, ct, osl, e, lk, _⟩ := F.ex
  exact ⟨_, _, _, lk⟩
structure Gv (P : Program) (w : World) (K : PySem.W.Frag) (mg : Str → Option Value) (base : Heap) (k : Nat) (x : Str) (ps : List Str) (sp : Sp) : Prop where
  ex : ∃ f fd, FnOk P w K mg base CX0 k f fd ps sp ∧ mg x = some (.ref f) ∧ PySem.W.keepIn K (.ref f) = true ∧ L2.Binds K fd ps [] ∧ FdAt K f fd
structure Gg (P : Program) (w : World) (K : PySem.W.Frag) (mg : Str → Option Value) (base : Heap) (k : Nat) (x : Str) (ps : List Str) (sp : Sp) : Prop where
  ex : ∃ f fd, FnG P w K mg base k f fd ps sp ∧ mg x = some (.ref f) ∧ PySem.W.keepIn K (.ref f) = true ∧ L2.Binds K fd ps [] ∧ FdAt K f fd
section
variable {P : Program} {w : World} {K : PySem.W.Frag} {mg : Str → Option Value} {base : Heap} {j k : Nat} {x : Str} {i : Nat} {N ps : List Str} {sp sp' : Sp}
theorem Gv.mono (G : Gv P w K mg base j x ps sp) (h : j ≤ k) : Gv P w K mg base k x ps sp := by
  obtain ⟨f, fd, F, r⟩ := G.ex
  exact ⟨f, fd, F.mono h, r⟩
theorem Gv.imp (G : Gv P w K mg base k x ps sp) (h : ∀ vs H Q E, sp' vs H Q E → sp vs H Q E) : Gv P w K mg base k x ps sp' := by
  obtain ⟨f, fd, F, r⟩ := G.ex
  exact ⟨f, fd, ⟨fun vs H Q E q => F.len vs H Q E (h _ _ _ _ q), fun A out s H args us vs Q E hr he hb hv hs => F.run A out s H args us vs Q E hr he hb hv (h _ _ _ _ hs)⟩, r⟩
theorem Gg.of (G : Gv P w K mg base k x ps sp) : Gg P w K mg base k x ps sp := by
  obtain ⟨f, fd, F, r⟩ := G.ex
  exact ⟨f, fd, .of F, r⟩
theorem Gg.mono (G : Gg P w K mg base j x ps sp) (h : j ≤ k) : Gg P w K mg base k x ps sp := by
  obtain ⟨f, fd, F, r⟩ := G.ex
  exact ⟨f, fd, F.mono h, r⟩
theorem Gg.imp (G : Gg P w K mg base k x ps sp) (h : ∀ vs H Q E, sp' vs H Q E → sp vs H Q E) : Gg P w K mg base k x ps sp' := by
  obtain ⟨f, fd, F, r⟩ := G.ex
  exact ⟨f, fd, F.imp h, r⟩
/-- how the written arguments come to the parameters -/
abbrev BindT (x : Str) (i : Nat) (ps : List Str) : Prop := ∀ (kV doc pm : Value) (an : Option Addr) (cdv ct : Value) (us : List Value), us.length = ps.length →
  bindArgs (PySem.W.fnOf x x (defArgs (top i)) (defBody (top i)) (defScope (top i)) .none kV doc pm an cdv ct) ⟨us, []⟩ = pure (ps.zip us)
/-- the rule of a def -/
theorem okV (D : Df K mg x i) (S : FnScope N ps (defScope (top i))) (hb : BindT x i ps) (len : ∀ vs H Q E, sp vs H Q E → vs.length = ps.length)
    (h : ∀ (f : Addr) (cdv : Value) (A : Around) (out : List Env) (s : Shared) (H : Hp) (vs : List V) (Q : VK) (E : XK), Room k (A.deeper (envOfC x (defScope (top i)) s.heap.objs.size f cdv)) → sp vs H Q E →
      ∃ t, PSs (cxOf CX0 P w K mg base N x (defScope (top i)) f cdv A out s H E).nox (defBody (top i)) t ∧ t { nx := fun _ H' => Q .non H', rt := Q } (start N vs) H) : Gv P w K mg base (k + 1) x ps sp := by
  obtain ⟨f, fd, F, m⟩ := D
  exact ⟨f, fd, F.ok S len (fun cdv A out s H vs Q E hr hs => by
    obtain ⟨t, h1, h2⟩ := h f cdv A out s H vs Q E hr hs
    exact ⟨t, h1.nox, h2⟩), m, F.kp, F.bindsN hb, fdAt_of F⟩
/-- the rule of a def of which the body may take the guards for empty -/
theorem okGg (D : Df K mg x i) (S : FnScope N ps (defScope (top i))) (hb : BindT x i ps) (len : ∀ vs H Q E, sp vs H Q E → vs.length = ps.length)
    (h : ∀ (f : Addr) (cdv : Value) (A : Around) (out : List Env) (s : Shared) (H : Hp) (vs : List V) (Q : VK) (E : XK), A.guards = some [] → Room k (A.deeper (envOfC x (defScope (top i)) s.heap.objs.size f cdv)) → sp vs H Q E →
      ∃ t, PSs (cxOf CX0 P w K mg base N x (defScope (top i)) f cdv A out s H E).nox (defBody (top i)) t ∧ t { nx := fun _ H' => Q .non H', rt := Q } (start N vs) H) : Gg P w K mg base (k + 1) x ps sp := by
  obtain ⟨f, fd, F, m⟩ := D
  exact ⟨f, fd, okG F S len (fun cdv A out s H vs Q E hg _ hr hs => h f cdv A out s H vs Q E hg hr hs), m, F.kp, F.bindsN hb, fdAt_of F⟩
/-- a promise of which nothing can be asked is kept (where no calls are left) -/
theorem Gv.never (D : Df K mg x i) (hb : BindT x i ps) (h : ∀ vs H Q E, ¬ sp vs H Q E) : Gv P w K mg base k x ps sp := by
  obtain ⟨f, fd, F, m⟩ := D
  exact ⟨f, fd, ⟨fun vs H Q E q => (h _ _ _ _ q).elim, fun A out s H args us vs Q E hr he hb hv hs => (h _ _ _ _ hs).elim⟩, m, F.kp, F.bindsN hb, fdAt_of F⟩
theorem Gg.never (D : Df K mg x i) (hb : BindT x i ps) (h : ∀ vs H Q E, ¬ sp vs H Q E) : Gg P w K mg base k x ps sp := Gg.of (Gv.never D hb h)
/-- promises of many kinds, each where C -/
theorem Gv.fam {ι : Type} {C : ι → Prop} {spA : ι → Sp} {sp0 : Sp} (G0 : Gv P w K mg base k x ps sp0) (h : ∀ a, C a → Gv P w K mg base k x ps (spA a)) : Gv P w K mg base k x ps (fun vs H Q E => ∃ a, C a ∧ spA a vs H Q E) := by
  obtain ⟨f, fd, F, m, kp, b, lk⟩ := G0.ex
  refine ⟨f, fd, ⟨fun vs H Q E q => ?_, fun A out s H args us vs Q E hr he hb hv hs => ?_⟩, m, kp, b, lk⟩
  · obtain ⟨a, c, q⟩ := q
    obtain ⟨_, _, F', _⟩ := (h a c).ex
    exact F'.len vs H Q E q
  · obtain ⟨a, c, q⟩ := hs
    obtain ⟨f', fd', F', m', _, _, lk'⟩ := (h a c).ex
    rw [m] at m'
    cases m'
    cases lk.same lk'
    exact F'.run A out s H args us vs Q E hr he hb hv q
theorem Gg.fam {ι : Type} {C : ι → Prop} {spA : ι → Sp} {sp0 : Sp} (G0 : Gg P w K mg base k x ps sp0) (h : ∀ a, C a → Gg P w K mg base k x ps (spA a)) : Gg P w K mg base k x ps (fun vs H Q E => ∃ a, C a ∧ spA a vs H Q E) := by
  obtain ⟨f, fd, F, m, kp, b, lk⟩ := G0.ex
  refine ⟨f, fd, ⟨fun vs H Q E q => ?_, fun A out s H args us vs Q E hg hr he hb hv hs => ?_⟩, m, kp, b, lk⟩
  · obtain ⟨a, c, q⟩ := q
    obtain ⟨_, _, F', _⟩ := (h a c).ex
    exact F'.len vs H Q E q
  · obtain ⟨a, c, q⟩ := hs
    obtain ⟨f', fd', F', m', _, _, lk'⟩ := (h a c).ex
    rw [m] at m'
    cases m'
    cases lk.same lk'
    exact F'.run A out s H args us vs Q E hg hr he hb hv q
end
section
variable {X : Cx} {k : Nat} {x : Str} {ps : List Str} {sp : Sp} {p pos : Pos} {e : Expr} {es : List Expr} {t : TA}
/-- x(e, ..) -/
theorem pe_v {E : XK} (G : Gv X.prog X.w X.K X.mg X.base k x ps sp) (hr : Room k X.A) (hg : Gl X x) (ha : PA X (e :: es) t) (hdb : (x == ("__debug__" : Str)) = false := by decide) (he : starEach (e :: es) X.env = (false, eval e X.env) :: starEach es X.env := by rfl)
    (hpl : (backTo pos (starEach es X.env)).any (·.1) = false := by rfl) : PE X (.Call (.Name x p) (e :: es) [] pos) (fun σ H Q => t σ H fun vs H1 => sp vs H1 Q E) := by
  obtain ⟨f, fd, F, m, kp, b, _⟩ := G.ex
  have h := pe_call (E := E) (pos := pos) (p := p) F hr hg m kp b .nil pass0 ha hdb he hpl
  exact ⟨fun pins s σ H Q I q => h.run pins s σ H Q I (by
    show t σ H fun vs H1 => sp (vs ++ []) H1 Q E
    simpa only [List.append_nil] using q)⟩
theorem pe_g (G : Gg X.prog X.w X.K X.mg X.base k x ps sp) (gd : X.A.guards = some []) (hr : Room k X.A) (hg : Gl X x) (ha : PA X (e :: es) t) (hdb : (x == ("__debug__" : Str)) = false := by decide) (he : starEach (e :: es) X.env = (false, eval e X.env) :: starEach es X.env := by rfl)
    (hpl : (backTo pos (starEach es X.env)).any (·.1) = false := by rfl) : PE X (.Call (.Name x p) (e :: es) [] pos) (fun σ H Q => t σ H fun vs H1 => sp vs H1 Q E0) := by
  obtain ⟨f, fd, F, m, kp, b, _⟩ := G.ex
  exact pe_callG F gd hr hg m kp b ha hdb he hpl
end

/-! ### a reading that says less -/
section
variable {X : Cx}
theorem lessE {e : Expr} {t t' : TE} (h : PE X e t) (i : ∀ σ H Q, t' σ H Q → t σ H Q) : PE X e t' := ⟨fun pins s σ H Q I q => h.run pins s σ H Q I (i _ _ _ q)⟩
theorem lessS {b : List Stmt} {t t' : TS} (h : PSs X b t) (i : ∀ D σ H, t' D σ H → t D σ H) : PSs X b t' := ⟨fun pins s σ H D I q => h.run pins s σ H D I (i _ _ _ q)⟩
theorem less1 {b : Stmt} {t t' : TS} (h : PS X b t) (i : ∀ D σ H, t' D σ H → t D σ H) : PS X b t' := ⟨fun pins s σ H D I q => h.run pins s σ H D I (i _ _ _ q)⟩
end

/-! ### the pen -/
/-- at p a pen that may be drawn from r times more -/
def Pen (H : Hp) (p : Addr) (r : Nat) : Prop := ∃ (c : Addr) (at_ : Nat) (x : Int) (ns : List Int), H p = some (.lst [.ref c, .int at_, .int x]) ∧ c ≠ p ∧ H c = some (.lst (ns.map .int)) ∧ ns.length ≤ 12 ∧ at_ + r ≤ 536870912
theorem Pen.le {H : Hp} {p : Addr} {r q : Nat} (h : Pen H p r) (hq : q ≤ r) : Pen H p q := by
  obtain ⟨c, a, x, ns, h1, h2, h3, h4, h5⟩ := h
  exact ⟨c, a, x, ns, h1, h2, h3, h4, by omega⟩
theorem Pen.same {H H' : Hp} {p : Addr} {r : Nat} (h : Pen H p r) (s : Same H H') : Pen H' p r := by
  obtain ⟨c, a, x, ns, h1, h2, h3, h4, h5⟩ := h
  exact ⟨c, a, x, ns, s _ _ h1, h2, s _ _ h3, h4, h5⟩
theorem Pen.ne {H : Hp} {p b : Addr} {r : Nat} (h : Pen H p r) (hb : H b = none) : b ≠ p := by
  obtain ⟨c, a, x, ns, h1, _⟩ := h
  intro z
  rw [z, h1] at hb
  cases hb
/-- all but the pen stands, the pen's cells are the same list -/
structure Kq (p : Addr) (H H' : Hp) : Prop where
  st : ∀ b o, H b = some o → b ≠ p → H' b = some o
  pn : ∀ c a x, H p = some (.lst [.ref c, a, x]) → ∃ a' x', H' p = some (.lst [.ref c, a', x'])
theorem Kq.refl (p : Addr) (H : Hp) : Kq p H H := ⟨fun _ _ e _ => e, fun _ a x e => ⟨a, x, e⟩⟩
theorem Kq.trans {p : Addr} {H H1 H2 : Hp} (a : Kq p H H1) (b : Kq p H1 H2) : Kq p H H2 := ⟨fun c o e n => b.st c o (a.st c o e n) n, fun c u x e => let ⟨u', x', e'⟩ := a.pn c u x e; b.pn c u' x' e'⟩
theorem Kq.of {p : Addr} {H H' : Hp} (s : Same H H') : Kq p H H' := ⟨fun b o e _ => s b o e, fun _ a x e => ⟨a, x, s _ _ e⟩⟩
theorem Kq.new {p a : Addr} {H H' : Hp} {o : HO} (k : Kq p H H') (h : H' a = none) : Kq p H (upd H' a o) := k.trans (.of (same_upd h))
/-- what was made since may be written -/
theorem Kq.set {p a : Addr} {H H' : Hp} {o : HO} (k : Kq p H H') (h : H a = none) : Kq p H (upd H' a o) := ⟨fun b u e n => by
  rw [upd_ne (ne_of_none e h)]
  exact k.st b u e n, fun c u x e => by
  rw [upd_ne (ne_of_none e h)]
  exact k.pn c u x e⟩
theorem Kq.kt {p : Addr} {H H' : Hp} (k : Kq p H H') {r : Nat} (h : Pen H p r) : KT H H' := fun b xs e => k.st b _ e fun z => by
  obtain ⟨c, a, x, ns, h1, _⟩ := h
  rw [z, h1] at e
  cases e
/-- the pen stands where a list made since is written -/
theorem Kq.pen {p a : Addr} {H H' : Hp} {o : HO} {r r' : Nat} (k : Kq p H H') (h0 : Pen H p r') (h : Pen H' p r) (ha : H a = none) : Pen (upd H' a o) p r := by
  obtain ⟨c, at_, x, ns, h1, h2, h3, h4, h5⟩ := h
  obtain ⟨c0, a0, x0, ns0, g1, g2, g3, g4, g5⟩ := h0
  obtain ⟨a', x', e⟩ := k.pn _ _ _ g1
  rw [h1] at e
  cases e
  refine ⟨_, at_, x, ns, by rw [upd_ne (ne_of_none g1 ha)]; exact h1, h2, by rw [upd_ne (ne_of_none g3 ha)]; exact h3, h4, h5⟩
theorem Kq.tab {p P : Addr} {q : Str} {H H' : Hp} (k : Kq p H H') {r : Nat} (h : Pen H p r) (t : LamX.TabS H P q) : LamX.TabS H' P q := by
  obtain ⟨c, a, x, ns, h1, _⟩ := h
  obtain ⟨ps, t1, t2, t3⟩ := t
  have hp : ∀ b o, H b = some o → (∀ xs, o ≠ .lst xs) → b ≠ p := fun b o e n z => by
    rw [z, h1] at e
    exact n _ (Option.some.inj e).symm
  refine ⟨ps, k.st _ _ t1 (hp _ _ t1 fun xs z => by cases z), t2, fun pos cv hc => ?_⟩
  obtain ⟨c, e1, e2⟩ := t3 pos cv hc
  exact ⟨c, e1, k.st _ _ e2 (hp _ _ e2 fun xs z => by unfold LamX.CodeO at z; cases z)⟩

/-! ### sums, row things, entries of the law's pool -/
inductive Th where
  | nam (l : Key) | sum (ps : List (Nat × Int)) (n : Int)
  | row (l : Key) | wth (r s t : Th) | room (s : Th)
  | read (r s : Th) | size (r : Th) | div (s : Th) (k : Int) | mod (s : Th) (k : Int)
  deriving Inhabited
def pairD (q : Nat × Int) : PyData := .tuple [.int q.1, .int q.2]
/-- it lies there (lists apart from the pen) -/
def ThR (p : Addr) (H : Hp) : V → Th → Prop
  | v, .nam l => DR H v (.tuple [.str "name", kd l])
  | v, .row l => DR H v (.tuple [.str "row", kd l])
  | v, .sum ps n => ∃ a b xs, v = .ref a ∧ H a = some (.tup [.str "sum", .ref b, .int n]) ∧ b ≠ p ∧ H b = some (.lst xs) ∧ DRs H xs (ps.map pairD)
  | v, .wth r s t => ∃ a x y z, v = .ref a ∧ H a = some (.tup [.str "with", x, y, z]) ∧ ThR p H x r ∧ ThR p H y s ∧ ThR p H z t
  | v, .room s => ∃ a x, v = .ref a ∧ H a = some (.tup [.str "room", x]) ∧ ThR p H x s
  | v, .read r s => ∃ a x y, v = .ref a ∧ H a = some (.tup [.str "read", x, y]) ∧ ThR p H x r ∧ ThR p H y s
  | v, .size r => ∃ a x, v = .ref a ∧ H a = some (.tup [.str "size", x]) ∧ ThR p H x r
  | v, .div s k => ∃ a x, v = .ref a ∧ H a = some (.tup [.str "div", x, .int k]) ∧ ThR p H x s
  | v, .mod s k => ∃ a x, v = .ref a ∧ H a = some (.tup [.str "mod", x, .int k]) ∧ ThR p H x s
/-- tuples stand, and lists but the pen -/
def KL (p : Addr) (H H' : Hp) : Prop := KT H H' ∧ ∀ b xs, H b = some (.lst xs) → b ≠ p → H' b = some (.lst xs)
theorem ThR.keep {p : Addr} {H H' : Hp} (k : KL p H H') : ∀ (th : Th) (v : V), ThR p H v th → ThR p H' v th
  | .nam l, v, h => DR.kt h k.1
  | .row l, v, h => DR.kt h k.1
  | .sum ps n, v, ⟨a, b, xs, e, h1, h2, h3, h4⟩ => ⟨a, b, xs, e, k.1 _ _ h1, h2, k.2 _ _ h3 h2, h4.kt k.1⟩
  | .wth r s t, v, ⟨a, x, y, z, e, h, h1, h2, h3⟩ => ⟨a, x, y, z, e, k.1 _ _ h, ThR.keep k r x h1, ThR.keep k s y h2, ThR.keep k t z h3⟩
  | .room s, v, ⟨a, x, e, h, h1⟩ => ⟨a, x, e, k.1 _ _ h, ThR.keep k s x h1⟩
  | .read r s, v, ⟨a, x, y, e, h, h1, h2⟩ => ⟨a, x, y, e, k.1 _ _ h, ThR.keep k r x h1, ThR.keep k s y h2⟩
  | .size r, v, ⟨a, x, e, h, h1⟩ => ⟨a, x, e, k.1 _ _ h, ThR.keep k r x h1⟩
  | .div s n, v, ⟨a, x, e, h, h1⟩ => ⟨a, x, e, k.1 _ _ h, ThR.keep k s x h1⟩
  | .mod s n, v, ⟨a, x, e, h, h1⟩ => ⟨a, x, e, k.1 _ _ h, ThR.keep k s x h1⟩
theorem Kq.kl {p : Addr} {H H' : Hp} (k : Kq p H H') {r : Nat} (h : Pen H p r) : KL p H H' := ⟨k.kt h, fun b xs e n => k.st b _ e n⟩
theorem KL.of {p : Addr} {H H' : Hp} (s : Same H H') : KL p H H' := ⟨KT.of s, fun b xs e _ => s _ _ e⟩
end Lw
/-! Part D: dict(t) of a plain tuple of pairs. -/
namespace Lw
open PySem PySem.Spec L2 PyProof.Rows
def prD (q : Int × Int) : PyData := .tuple [.int q.1, .int q.2]
def kvI (ps : List (Int × Int)) : List (Key × V) := ps.map fun q => (Sum.inl q.1, V.int q.2)
section
variable {X : Cx}
theorem pairs_laid {pins : List (Addr × Obj)} {σ : L2.St} {H : Hp} {s : Shared} (I : Inv X pins σ H s) : ∀ {ps : List (Int × Int)} {xs : List V} {its : List Value}, DRs H xs (ps.map prD) → Vals xs its →
    ∃ (Ts : List Addr) (psv : List (Value × Value)), its = Ts.map Value.ref ∧ Ts.length = ps.length ∧ psv.length = ps.length ∧ KV (kvI ps) ((ps.map fun q => (Sum.inl q.1 : Key)).zip (psv.map (·.2))) ∧
      (∀ (j : Nat) (k v : Value), psv[j]? = some (k, v) → ∃ T, Ts[j]? = some T ∧ PairAt s.heap T k v ∧ ∃ q, ps[j]? = some q ∧ keyIs (Sum.inl q.1) k = true)
  | [], xs, its, h, r => by
    cases h
    cases r
    exact ⟨[], [], rfl, rfl, rfl, .nil, fun j k v e => by simp at e⟩
  | q :: ps, xs, its, h, r => by
    cases h with
    | cons h1 h2 =>
      cases r with
      | cons r1 r2 =>
        obtain ⟨Ts, psv, e1, e2, e3, e4, e5⟩ := pairs_laid I h2 r2
        obtain ⟨a, ys, rfl, ha, hy⟩ := h1.tup_inv
        obtain ⟨y1, t1, rfl, g1, hy⟩ := hy.cons_inv
        obtain ⟨y2, t2, rfl, g2, hy⟩ := hy.cons_inv
        cases hy
        cases g1.int_inv
        cases g2.int_inv
        cases r1
        obtain ⟨its2, rv, ht, _⟩ := I.tuple (SqT.of ha)
        obtain ⟨u, y, ei, ru, ry⟩ := vals2 rv
        subst ei
        refine ⟨a :: Ts, (u, y) :: psv, by rw [List.map_cons, e1], by rw [List.length_cons, List.length_cons, e2], by rw [List.length_cons, List.length_cons, e3], .cons ⟨rfl, ry⟩ e4, fun j k v e => ?_⟩
        cases j with
        | zero =>
          have e' : (u, y) = (k, v) := Option.some.inj e
          cases e'
          exact ⟨a, rfl, .inl ht, q, rfl, kV_is (P := X.prog) (w := X.w) (k := Sum.inl q.1) ru⟩
        | succ j => exact e5 j k v (by simpa using e)
/-- dict(t) -/
theorem call_dictTup (hcalm : X.calm = true) : CallR X (.type "dict") (fun xs H Q => ∃ (a : Addr) (o : Obj) (ys : List V) (ps : List (Int × Int)), xs = [.ref a] ∧ H a = some (.frz o (.tup ys)) ∧ PlainT o ys ∧ DRs H ys (ps.map prD) ∧
    ∀ p, H p = none → Q (.ref p) (upd H p (.dK (mergeK [] (kvI ps))))) := by
  rintro pins s σ H xs us Q I r ⟨a, o, ys, ps, rfl, ha, ⟨its, n, rfl, rv⟩, hd, q⟩
  obtain ⟨u, rfl, rx⟩ := vals1 r
  cases rx
  obtain ⟨ho, hz, _⟩ := I.hok a _ ha
  obtain ⟨Ts, psv, e1, e2, e3, e4, e5⟩ := pairs_laid I hd rv
  have hlen : ys.length = ps.length := by rw [hd.length, List.length_map]
  have hk : ((ps.map fun q => (Sum.inl q.1 : Key)).zip (psv.map (·.2))).length = psv.length := by
    rw [List.length_zip, List.length_map, List.length_map, e3, Nat.min_self]
  refine _root_.PySem.call_dict_pairs (knd := mixKind X.prog X.w) (kvs := (ps.map fun q => (Sum.inl q.1 : Key)).zip (psv.map (·.2))) (PairArg.tuple a its.toArray (fun j => (Ts[j]?).getD 0) psv) (I.ok.hd hcalm) ⟨⟨_, n, ho, rfl, rfl, rfl⟩, ?_, fun j k v e => ?_⟩ ⟨hk, fun i key v e => ?_⟩ (by rw [e3, ← hlen]; exact hz) fun h' tk hd' k => ?_
  · rw [List.size_toArray, e1, List.length_map, e2, e3]
  · obtain ⟨T, t1, t2, _⟩ := e5 j k v e
    refine ⟨?_, ?_⟩
    · rw [e1]
      simp [t1]
    · show PairAt s.heap ((Ts[j]?).getD 0) k v
      rw [t1]
      exact t2
  · have e : psv[i]? = some (key, v) := e
    obtain ⟨T, _, _, q', hq, hki⟩ := e5 i key v e
    refine ⟨Sum.inl q'.1, ?_, hki⟩
    rw [List.getElem?_zip_eq_some]
    exact ⟨by rw [List.getElem?_map, hq]; rfl, by rw [List.getElem?_map, e]; rfl⟩
  · have hm : (s.heap.objs.size == sysModules) = false := beq_eq_false_iff_ne.mpr (Nat.ne_of_gt I.big)
    have hl : (mergeK [] (kvI ps)).length ≤ sizeLine := by
      refine Nat.le_trans (length_mergeK (kvI ps) []) ?_
      unfold kvI
      rw [List.length_nil, Nat.zero_add, List.length_map, ← hlen]
      exact hz
    exact ⟨.ref s.heap.objs.size, upd H s.heap.objs.size (.dK (mergeK [] (kvI ps))), I.laid (t' := tk) (fun b o' e => k b o' (by simp) e) (Nat.le_refl _) (show ObjOk X.prog X.w _ _ _ (.dK (mergeK [] (kvI ps))) from ⟨hl, hm, merged [] _, KV.merge e4 .nil, hd'⟩), rfl, q _ (I.hok.fresh (Nat.le_refl _))⟩
end
/-! ### a row: its size and its numbers, by place -/
abbrev RowF := Int × (Int → Int)
/-- what dict(ps).get(i, 0) gives -/
def vI : Option V → Int
  | some (.int n) => n
  | _ => 0
def rd (ps : List (Int × Int)) (i : Int) : Int := vI (valV (mergeK [] (kvI ps)) (Sum.inl i))
/-- dict(ps): every value is an int -/
theorem merge_ints (ps : List (Int × Int)) (k : Key) : valV (mergeK [] (kvI ps)) k = none ∨ ∃ n, valV (mergeK [] (kvI ps)) k = some (.int n) := by
  have h : ∀ (ps : List (Int × Int)) (acc : List (Key × V)), (∀ k, valV acc k = none ∨ ∃ n, valV acc k = some (.int n)) → ∀ k, valV (mergeK acc (kvI ps)) k = none ∨ ∃ n, valV (mergeK acc (kvI ps)) k = some (.int n) := by
    intro ps
    induction ps with
    | nil => exact fun acc h k => h k
    | cons q ps ih =>
      intro acc ha k
      refine ih (putK acc (Sum.inl q.1) (.int q.2)) (fun k => ?_) k
      by_cases e : k = Sum.inl q.1
      · rw [valV_put, if_pos e]
        exact .inr ⟨_, rfl⟩
      · rw [valV_put, if_neg e]
        exact ha k
  exact h ps [] (fun k => .inl rfl) k
theorem rd_getD (ps : List (Int × Int)) (i : Int) : (valV (mergeK [] (kvI ps)) (Sum.inl i)).getD (.int 0) = .int (rd ps i) := by
  unfold rd
  rcases merge_ints ps (Sum.inl i) with h | ⟨n, h⟩ <;> rw [h] <;> rfl
/-- a row lies there, of at most m pairs -/
def RowN (m : Nat) (H : Hp) (v : V) (f : RowF) : Prop := ∃ (a b : Addr) (o : Obj) (xs : List V) (ps : List (Int × Int)), v = .ref a ∧ H a = some (.tup [.int f.1, .ref b]) ∧ H b = some (.frz o (.tup xs)) ∧ PlainT o xs ∧ DRs H xs (ps.map prD) ∧ ps.length ≤ m ∧ ∀ i, rd ps i = f.2 i
theorem RowN.le {m n : Nat} {H : Hp} {v : V} {f : RowF} (h : RowN m H v f) (k : m ≤ n) : RowN n H v f := by
  obtain ⟨a, b, o, xs, ps, e, h1, h2, h3, h4, h5, h6⟩ := h
  exact ⟨a, b, o, xs, ps, e, h1, h2, h3, h4, Nat.le_trans h5 k, h6⟩
abbrev RowR (H : Hp) (v : V) (f : RowF) : Prop := RowN 1000 H v f
/-- a table lies there: names' numbers, rows -/
def TabR (H : Hp) (T : Addr) (ns rs : List Key) (tn : Key → Int) (tr : Key → RowF) : Prop := ∃ kvs, H T = some (.dK kvs) ∧ (∀ l ∈ ns, valV kvs l = some (.int (tn l))) ∧ ∀ l ∈ rs, ∃ v, valV kvs l = some v ∧ RowN 10 H v (tr l)
end Lw
/-! Part I: sorted(d.items()), keys and values whole numbers. -/
namespace Lw
open PySem PySem.Spec PySem.W L2 L2.DX PyProof.Rows
def qInt (b : Addr) (h : Heap) (q : Int × Int) : Prop := ∃ t u : Tok, h.get? b = some { cls := .type "tuple", data := .seq #[.int q.1 t, .int q.2 u] }
theorem qInt.inj {b : Addr} {h : Heap} {q q' : Int × Int} (x : qInt b h q) (y : qInt b h q') : q = q' := by
  obtain ⟨t, u, e⟩ := x
  obtain ⟨t', u', e'⟩ := y
  have h1 : Data.seq #[Value.int q.1 t, .int q.2 u] 0 = Data.seq #[Value.int q'.1 t', .int q'.2 u'] 0 := congrArg Obj.data (Option.some.inj (e.symm.trans e'))
  injection h1 with h2 _
  have h3 : [Value.int q.1 t, .int q.2 u] = [Value.int q'.1 t', .int q'.2 u'] := congrArg Array.toList h2
  injection h3 with h4 h5
  injection h5 with h6 _
  injection h4 with h7 _
  injection h6 with h8 _
  exact Prod.ext h7 h8
section
variable {X : Cx}
theorem mt_itemsK : MtR X "dict.items" (fun x xs H Q => ∃ (a : Addr) (kvs : List (Key × V)), x = .ref a ∧ xs = [] ∧ H a = some (.dK kvs) ∧ ∀ p, H p = none → Q (.ref p) (upd H p (itemsO p a))) := by
  rintro pins s σ H x xs v us Q I rx rxs ⟨a, kvs, rfl, rfl, ha, q⟩
  cases rx
  cases rxs
  obtain ⟨z, lo, vs, kv, hd⟩ := I.hok a _ ha
  obtain ⟨ep, hat⟩ := hd.dictAt
  obtain ⟨o, es, ho, hx, hdat, _⟩ := hat
  refine DT.callItems (es := es) (ep := ep) lo ⟨o, ho, hx, hdat⟩ ⟨.ref s.heap.objs.size, upd H s.heap.objs.size (itemsO s.heap.objs.size a), I.laid (t' := s.toks) (fun b u e => Heap.get?_push_of_some _ e) (Nat.le_refl _) (itemsO_ok (Heap.get?_push_size _ rfl)), rfl, q _ (I.hok.fresh (Nat.le_refl _))⟩
theorem pairs_alike (qs : List (Int × Int)) : AllAlike (qs.map prD) := fun d hd d' hd' => by
  obtain ⟨q, _, rfl⟩ := List.mem_map.mp hd
  obtain ⟨q', _, rfl⟩ := List.mem_map.mp hd'
  rfl
theorem pairs_sortable (qs : List (Int × Int)) : Sortable (qs.map prD) := .inl fun d hd => by
  obtain ⟨q, _, rfl⟩ := List.mem_map.mp hd
  exact ⟨_, _, rfl⟩
theorem each_get {α β : Type} {R : α → β → Prop} : ∀ {as : List α} {bs : List β}, as.length = bs.length → (∀ (j : Nat) (a : α) (b : β), as[j]? = some a → bs[j]? = some b → R a b) → EachIs R as bs
  | [], [], _, _ => .nil
  | [], _ :: _, h, _ => by simp at h
  | _ :: _, [], h, _ => by simp at h
  | a :: as, b :: bs, h, f => .cons (f 0 a b rfl rfl) (each_get (by simpa using h) fun j a b h1 h2 => f (j + 1) a b (by simpa using h1) (by simpa using h2))
theorem each_vals {R : Value → Int × Int → Prop} (hr : ∀ v q, R v q → ∃ b, v = .ref b) : ∀ {out : List Value} {rs : List (Int × Int)}, EachIs R out rs → ∃ bs : List Addr, out = bs.map Value.ref ∧ bs.length = rs.length ∧ ∀ (j : Nat) (b : Addr) (q : Int × Int), bs[j]? = some b → rs[j]? = some q → R (.ref b) q
  | _, _, .nil => ⟨[], rfl, rfl, fun j b q e => by simp at e⟩
  | _, _, .cons (a := v) (b := q0) h t => by
    obtain ⟨b, rfl⟩ := hr v q0 h
    obtain ⟨bs, e1, e2, e3⟩ := each_vals hr t
    refine ⟨b :: bs, by rw [e1, List.map_cons], by rw [List.length_cons, List.length_cons, e2], fun j c q h1 h2 => ?_⟩
    cases j with
    | zero => cases h1; cases h2; exact h
    | succ j => exact e3 j c q (by simpa using h1) (by simpa using h2)
theorem drs_get {H : Hp} : ∀ {bs : List Addr} {rs : List (Int × Int)}, bs.length = rs.length → (∀ (j : Nat) (b : Addr) (q : Int × Int), bs[j]? = some b → rs[j]? = some q → H b = some (.tup [.int q.1, .int q.2])) → DRs H (bs.map V.ref) (rs.map prD)
  | [], [], _, _ => .nil
  | [], _ :: _, h, _ => by simp at h
  | _ :: _, [], h, _ => by simp at h
  | b :: bs, q :: rs, h, f => .cons (.tup (f 0 b q rfl rfl) (.cons (.int _) (.cons (.int _) .nil))) (drs_get (by simpa using h) fun j b q h1 h2 => f (j + 1) b q (by simpa using h1) (by simpa using h2))
theorem cr_sortItems (hc : X.calm = true) (hu : X.A.units + 64 < cLine) : CallR X (.builtin "sorted") (fun vs H Q => ∃ (p a : Addr) (qs : List (Int × Int)), vs = [.ref p] ∧ H p = some (itemsO p a) ∧ H a = some (.dK (kvI qs)) ∧
    ∀ (H' : Hp) (l : Addr) (rs : List (Int × Int)) (us : List V), Same H H' → H l = none → rs.Perm qs → H' l = some (.lst us) → DRs H' us (rs.map prD) → Q (.ref l) H') := by
  rintro pins s σ H xs us Q I r ⟨p, a, qs, rfl, hp, ha, q⟩
  obtain rfl := Vals.ref1 r
  have view : s.heap.IsItemsView p a := (show ObjOk X.prog X.w H s.heap p (itemsO p a) from I.hok p _ hp).1
  obtain ⟨z, lo, vs, kv, hd⟩ := I.hok a _ ha
  obtain ⟨ep, o, es, ho, hx, hdat, hko, hpr, hn⟩ := hd.dictAt
  have l1 : (kvI qs).length = vs.length := Paired.length kv
  have l0 : (kvI qs).length = qs.length := List.length_map _
  have l2 : es.size = vs.length := by rw [← hpr.length, Array.length_toList]
  have hz : qs.length ≤ sizeLine := by rw [← l0]; exact z
  refine DT.sortedI (es := es) (ep := ep) (I.ok.hd hc) view ⟨o, ho, hx, hdat⟩ (by omega) fun h' tk as hk hlt hl hG => ?_
  have lak : as.length = qs.length := by omega
  have nd : as.Nodup := List.Pairwise.imp (fun h => Nat.ne_of_lt h) hG.rise
  have pr : ∀ (j : Nat) (b : Addr) (qq : Int × Int), as[j]? = some b → qs[j]? = some qq → qInt b h' qq := fun j b qq hj hq => by
    obtain ⟨en, he, hg⟩ := hG.pairs j b hj
    have hjv : j < vs.length := by
      have := (List.getElem?_eq_some_iff.mp hj).1
      omega
    obtain ⟨⟨kk, vv⟩, hvj⟩ : ∃ x, vs[j]? = some x := ⟨_, List.getElem?_eq_getElem hjv⟩
    obtain ⟨x, hx1, hx2⟩ := KV.at' kv hvj
    have hkj : (kvI qs)[j]? = some (Sum.inl qq.1, V.int qq.2) := by
      unfold kvI
      rw [List.getElem?_map, hq]
      rfl
    rw [hkj] at hx1
    cases hx1
    obtain ⟨hkey, hval⟩ := hpr.get? (e := en) (by rw [Array.getElem?_toList]; exact he) hvj
    obtain ⟨t, et⟩ : ∃ t, en.key = .int qq.1 t := by
      have h := keyIs_rel (show keyIs (Sum.inl qq.1) en.key = true from hkey)
      exact h
    obtain ⟨u, eu⟩ : ∃ u, vv = .int qq.2 u := hx2
    refine ⟨t, u, ?_⟩
    rw [hg, et, hval, eu]
  have hob : (h'.push { cls := .type "list", data := .seq (as.map Value.ref).toArray }).get? h'.objs.size = some (seqObj "list" (as.map Value.ref).toArray 0) := Heap.get?_push_size _ rfl
  have ne0 : ∀ b o, h'.get? b = some o → b ≠ h'.objs.size := fun b o e => Nat.ne_of_lt (Heap.lt_size e)
  have ka : ∀ b o, h'.get? b = some o → (h'.push { cls := .type "list", data := .seq (as.map Value.ref).toArray }).get? b = some o := fun b o e => Heap.get?_push_of_some _ e
  generalize h'.push { cls := .type "list", data := .seq (as.map Value.ref).toArray } = h2 at hob ka ⊢
  have eR : EachIs (fun v qq => ∃ b, v = Value.ref b ∧ b ∈ as ∧ qInt b h' qq) (as.map Value.ref) qs := each_get (by rw [List.length_map]; exact lak) fun j v qq h1 hq => by
    rw [List.getElem?_map] at h1
    obtain ⟨b, hb, rfl⟩ := Option.map_eq_some_iff.mp h1
    exact ⟨b, rfl, List.mem_of_getElem? hb, pr j b qq hb hq⟩
  refine list_sort_data (enc := prD) hob eR (eR.mono fun v qq hv => ?_) (pairs_alike qs) (pairs_sortable qs) hz (fun qq _ => ?_) fun out ho2 eo => ?_
  · obtain ⟨b, rfl, hb, t, u, hg⟩ := hv
    refine ⟨[], .tuple (ka _ _ hg) rfl rfl (.cons (.int _ _) (.cons (.int _ _) .nil)), by simp⟩
  · show X.A.units + 1 + 1 + (prD qq).depth < cLine
    have : (prD qq).depth ≤ 2 := by
      show PyData.depth _ ≤ 2
      simp [prD, PyData.depth, PyData.depthAll]
    omega
  obtain ⟨bs, rfl, hbl, hbR⟩ := each_vals (fun v qq ⟨b, e, _⟩ => ⟨b, e⟩) eo
  have hperm : (qs.mergeSort (dataLe false prD)).Perm qs := List.mergeSort_perm _ _
  have kF : ∀ b o, b ≠ h'.objs.size → h2.get? b = some o → (sortedHeap h2 h'.objs.size (as.map Value.ref) (bs.map Value.ref).toArray).get? b = some o := fun b o hb e => (PyProof.Rows.sortedHeap_old hb (Heap.lt_size e)).trans e
  have kS : ∀ b o, s.heap.get? b = some o → (sortedHeap h2 h'.objs.size (as.map Value.ref) (bs.map Value.ref).toArray).get? b = some o := fun b o e => kF b o (ne0 _ _ (hk b o e)) (ka _ _ (hk b o e))
  obtain ⟨eF, heF⟩ := PyProof.Rows.sortedHeap_at (vs := as.map Value.ref) (out := (bs.map Value.ref).toArray) hob
  have I1 : Inv X pins σ H { s with heap := sortedHeap h2 h'.objs.size (as.map Value.ref) (bs.map Value.ref).toArray, toks := tk } := I.kept (t' := tk) kS
  have hn0 : H h'.objs.size = none := I.hok.fresh (Nat.le_of_lt hlt)
  have lbs : bs.length = qs.length := by rw [hbl, hperm.length_eq]
  have I2 : Inv X pins σ (upd H h'.objs.size (.lst (bs.map V.ref))) { s with heap := sortedHeap h2 h'.objs.size (as.map Value.ref) (bs.map Value.ref).toArray, toks := tk } :=
    I1.take (h' := sortedHeap h2 h'.objs.size (as.map Value.ref) (bs.map Value.ref).toArray) (t' := tk) (fun b ob _ e => e) (I.fpOk (Nat.le_of_lt hlt) hn0)
      ⟨by rw [List.length_map, lbs]; exact hz, bs.map Value.ref, eF, vals_maps (fun b : Addr => V.ref b) (fun b => Value.ref b) bs fun _ _ => rfl, heF⟩
  obtain ⟨H2, I3, g, qt⟩ := takeT (P := fun b vs => ∃ qq : Int × Int, qInt b h' qq ∧ vs = [.int qq.1, .int qq.2]) I as _ I2 nd fun b hb => by
    obtain ⟨j, hj⟩ := List.mem_iff_getElem?.mp hb
    have hjq : j < qs.length := by
      have := (List.getElem?_eq_some_iff.mp hj).1
      omega
    have hqi := pr j b qs[j] hj (List.getElem?_eq_getElem hjq)
    have hbl : s.heap.objs.size ≤ b := Nat.le_of_lt (hG.above b hb)
    obtain ⟨t, u, hg⟩ := id hqi
    refine ⟨hbl, ?_, _, ⟨qs[j], hqi, rfl⟩, fun H3 => ⟨by show 2 ≤ sizeLine; decide, [Value.int qs[j].1 t, .int qs[j].2 u], .cons ⟨_, rfl⟩ (.cons ⟨_, rfl⟩ .nil), ⟨_, kF _ _ (ne0 _ _ hg) (ka _ _ hg), rfl, 0, rfl⟩⟩⟩
    rw [upd_ne (ne0 _ _ hg)]
    exact I.hok.fresh hbl
  have gr : Same H H2 := fun b o e => g b o (by rw [upd_ne (ne_of_none e hn0)]; exact e)
  refine ⟨.ref h'.objs.size, H2, I3, rfl, q H2 h'.objs.size _ _ gr hn0 hperm (g _ _ upd_same) (drs_get hbl fun j b qq h1 hq => ?_)⟩
  obtain ⟨b', e, hb, hqi⟩ := hbR j b qq h1 hq
  cases e
  obtain ⟨ws, ⟨q2, hq2, rfl⟩, hH⟩ := qt b hb
  rw [hqi.inj hq2]
  exact hH
end
end Lw
/-! Part Z: zip(a text, a tuple, strict=True), both of one length. -/
namespace Lw
open PySem PySem.W Sem Builtin.SmallTypes
/-- a zip that minds the lengths -/
def ZipS (h : Heap) (z TI TO : Addr) (f0 : Value) : Prop := h.get? z = some { cls := .type "zip", dict := none, data := .fields #[f0, .bool false, .bool true, .ref TI, .ref TO], slots := #[] }
theorem tcZipS (a b : Value) : checkTypeCall "zip" ⟨[a, b], [("strict", .bool true)]⟩ = pure () := by kernel_rfl
theorem ncZipS (a b : Value) : checkBuiltinCall "zip.__new__" ⟨[.type "zip", a, b], [("strict", .bool true)]⟩ = pure () := by kernel_rfl
theorem meets_zipS {v1 v2 : Value} {o1 o2 : Obj} {H1 H2 : Heap → Prop} (B1 : Begins v1 o1 H1) (B2 : Begins v2 o2 H2) :
    Meets (Builtin.«zip.__new__» ⟨[.type "zip", v1, v2], [("strict", .bool true)]⟩) (fun _ R s => (H1 s.heap ∧ H2 s.heap) ∧
      R (.ok (.ret (.ref (gzO2 s.heap o1 o2).objs.size))) { s with heap := (gzO2 s.heap o1 o2).push { cls := .type "zip", data := .fields #[.none, .bool false, .bool true, .ref ((s.heap.push o1).push o2).objs.size, .ref (gzT2 s.heap o1 o2).objs.size] } }) :=
  .of_wp fun prog w A R s h => by
    obtain ⟨hp, g, d, tk, os⟩ := s; obtain ⟨⟨h1, h2⟩, hR⟩ := h
    have sz := sub_zip
    have r1 : ∀ {A' : Around} {E Q : Value → Shared → Prop}, Q (.ref hp.objs.size) ⟨(hp.push o1), g, d, tk, os⟩ → wpAny (model prog w) A' (pyIter v1) Q E ⟨hp, g, d, tk, os⟩ := fun q => B1.iter prog w _ _ ⟨hp, g, d, tk, os⟩ _ h1 q
    have r2 : ∀ {A' : Around} {E Q : Value → Shared → Prop}, Q (.ref (hp.push o1).objs.size) ⟨((hp.push o1).push o2), g, d, tk, os⟩ → wpAny (model prog w) A' (pyIter v2) Q E ⟨(hp.push o1), g, d, tk, os⟩ := fun q => B2.iter prog w _ _ ⟨(hp.push o1), g, d, tk, os⟩ _ (B2.keeps _ _ h2 fun b o' e => Heap.get?_push_of_some _ e) q
    wp_walk using r1, r2
    exact ⟨_, rfl, hR⟩
end Lw
namespace Lw
open PySem PySem.W Sem Builtin.SmallTypes
theorem aoZipS (o a b : Value) : argsOk "object.__init__" ⟨[o, a, b], [("strict", .bool true)]⟩ := by unfold argsOk; kernel_rfl
section
variable {prog : Program} {w : World} {A : Around} {E : Value → Shared → Prop} {s : Shared}
theorem zipS_begins {v1 v2 : Value} {o1 o2 : Obj} {H1 H2 : Heap → Prop} {Q : Value → Shared → Prop} (B1 : Begins v1 o1 H1) (B2 : Begins v2 o2 H2) (h1 : H1 s.heap) (h2 : H2 s.heap)
    (hq : ∀ h', ZipS h' (s.heap.objs.size + 4) (s.heap.objs.size + 2) (s.heap.objs.size + 3) .none → IsTupOf2 h' (s.heap.objs.size + 2) (.ref s.heap.objs.size) (.ref (s.heap.objs.size + 1)) → IsTupOf2 h' (s.heap.objs.size + 3) .none .none →
      h'.get? s.heap.objs.size = some o1 → h'.get? (s.heap.objs.size + 1) = some o2 → (∀ c o, s.heap.get? c = some o → h'.get? c = some o) → Q (.ref (s.heap.objs.size + 4)) { s with heap := h' }) :
    wpAny (model prog w) A (call (.type "zip") [v1, v2] [("strict", .bool true)]) Q E s := by
  refine callType_newKw F.called_zip (by decide) (tcZipS _ _) (ncZipS _ _) (fun o => aoZipS o _ _) F.entry_zip_new (meets_zipS B1 B2) ⟨⟨h1, h2⟩, ?_⟩
  have n1 : (s.heap.push o1).objs.size = s.heap.objs.size + 1 := Heap.size_push ..
  have n2 : ((s.heap.push o1).push o2).objs.size = s.heap.objs.size + 2 := by rw [Heap.size_push, n1]
  have n3 : (gzT2 s.heap o1 o2).objs.size = s.heap.objs.size + 3 := by rw [Heap.size_push, n2]
  have n4 : (gzO2 s.heap o1 o2).objs.size = s.heap.objs.size + 4 := by rw [Heap.size_push, n3]
  have up : ∀ (x : Obj) c o, (gzO2 s.heap o1 o2).get? c = some o → ((gzO2 s.heap o1 o2).push x).get? c = some o := fun x c o e => Heap.get?_push_of_some _ e
  have p4 : ((gzO2 s.heap o1 o2).push { cls := .type "zip", data := .fields #[.none, .bool false, .bool true, .ref ((s.heap.push o1).push o2).objs.size, .ref (gzT2 s.heap o1 o2).objs.size] }).get? (gzO2 s.heap o1 o2).objs.size = some _ := Heap.get?_push_size _ rfl
  have p3 : (gzO2 s.heap o1 o2).get? (gzT2 s.heap o1 o2).objs.size = some { cls := .type "tuple", data := .seq #[.none, .none] } := Heap.get?_push_size _ rfl
  have p2 : (gzO2 s.heap o1 o2).get? ((s.heap.push o1).push o2).objs.size = some { cls := .type "tuple", data := .seq #[.ref s.heap.objs.size, .ref (s.heap.push o1).objs.size] } := Heap.get?_push_of_some _ (Heap.get?_push_size _ rfl)
  have p1 : (gzO2 s.heap o1 o2).get? (s.heap.push o1).objs.size = some o2 := Heap.get?_push_of_some _ (Heap.get?_push_of_some _ (Heap.get?_push_size _ B2.free))
  have p0 : (gzO2 s.heap o1 o2).get? s.heap.objs.size = some o1 := Heap.get?_push_of_some _ (Heap.get?_push_of_some _ (Heap.get?_push_of_some _ (Heap.get?_push_size _ B1.free)))
  rw [n4, n3, n2] at p4
  rw [n3] at p3
  rw [n2, n1] at p2
  rw [n1] at p1
  show _ ∧ _
  rw [n4, n3, n2]
  exact ⟨⟨_, p4, rfl⟩, hq _ p4 (up _ _ _ p2) (up _ _ _ p3) (up _ _ _ p0) (up _ _ _ p1) fun c o x => up _ _ _ (Heap.get?_push_of_some _ (Heap.get?_push_of_some _ (Heap.get?_push_of_some _ (Heap.get?_push_of_some _ x))))⟩
/-- the next of an iterator, or its end -/
theorem ne_item {it : Addr} {fp : List Addr} {n i : Nat} {P : Nat → Value → Prop} {St : Nat → Heap → Prop} {Q : Option Value → Shared → Prop} (D : Draws prog w A it fp n P St) (hi : i < n) (st : St i s.heap)
    (hQ : ∀ x h' tk, P i x → St (i + 1) h' → Heap.SameBut it s.heap h' → Q (some x) { s with heap := h', toks := tk }) : wpAny (model prog w) A (nextOrEnd (.ref it)) Q E s := by
  unfold nextOrEnd
  exact wpAny_bind (wpAny_attempt (D.item i s _ _ hi st fun x h' tk hx st' sb => wpAny_pure (hQ x h' tk hx st' sb)))
theorem ne_done {it : Addr} {fp : List Addr} {n : Nat} {P : Nat → Value → Prop} {St : Nat → Heap → Prop} {Q : Option Value → Shared → Prop} (D : Draws prog w A it fp n P St) (st : St n s.heap)
    (hQ : ∀ h', Heap.ExtBut it s.heap h' → Q none { s with heap := h' }) : wpAny (model prog w) A (nextOrEnd (.ref it)) Q E s := by
  unfold nextOrEnd
  refine wpAny_bind (wpAny_attempt (D.done s _ _ st fun h' e eb he => ?_))
  obtain ⟨o, ho, hc⟩ := he
  exact wpAny_bind (wpAny_isInstance (T := "StopIteration") (b := true) ⟨o, ho, hc⟩ isSubtype_stop (wpAny_pure (hQ h' eb)))
end
end Lw
namespace Lw
open PySem PySem.W Sem Builtin.SmallTypes
section
variable {prog : Program} {w : World} {A : Around} {E : Value → Shared → Prop} {s : Shared} {z TI TO i1 i2 : Addr} {fp1 fp2 : List Addr} {n i : Nat} {P1 P2 : Nat → Value → Prop} {St1 St2 : Nat → Heap → Prop} {a1 a2 : Value}
theorem zipS_item {Q : Value → Shared → Prop} (S : ZipSep2 z TI TO i1 i2 fp1 fp2) (D1 : Draws prog w A i1 fp1 n P1 St1) (D2 : Draws prog w A i2 fp2 n P2 St2)
    (hz : ZipS s.heap z TI TO .none) (hI : IsTupOf2 s.heap TI (.ref i1) (.ref i2)) (hO : IsTupOf2 s.heap TO a1 a2) (t1 : St1 i s.heap) (t2 : St2 i s.heap) (hi : i < n)
    (hQ : ∀ x1 x2 h' tk, P1 i x1 → P2 i x2 → ZipS h' z TI TO (rawInt s.heap.objs.size) → IsTupOf2 h' TO x1 x2 → St1 (i + 1) h' → St2 (i + 1) h' → IsTupOf2 h' s.heap.objs.size x1 x2 →
      (∀ c o, c ≠ z → c ≠ TO → c ≠ i1 → c ≠ i2 → s.heap.get? c = some o → h'.get? c = some o) → Q (.ref s.heap.objs.size) { s with heap := h', toks := tk }) :
    wpAny (model prog w) A (Builtin.«zip.__next__» ⟨[.ref z], []⟩) (fun fin s' => ∃ v, fin = .done (.ret v) ∧ Q v s') E s := by
  obtain ⟨hp, g, d, tk0, os⟩ := s
  unfold ZipS at hz
  show wpAny _ _ (field (.ref z) 2 >>= _) _ _ _
  refine wpAny_bind (wpAny_field hz rfl (x := .bool true) rfl ?_)
  show wpAny _ _ (field (.ref z) 3 >>= _) _ _ _
  refine wpAny_bind (wpAny_field hz rfl (x := .ref TI) rfl (wpAny_bind (wpAny_seqItems hI rfl ?_)))
  show wpAny _ _ (ownedTupleIsFree (.ref z) >>= _) _ _ _
  refine wpAny_bind (by
    unfold ownedTupleIsFree
    refine wpAny_bind (wpAny_field hz rfl (x := .none) rfl (wpAny_pure ?_))
    simp only [if_true]
    refine wpAny_bind (wpAny_rule (wpAny_bind (wpAny_field hz rfl (x := .ref TO) rfl (wpAny_bind (wpAny_setField_rec hz (by simp) fun g0 y0 s0 => ?_)))))
    replace y0 : ZipS g0 z TI TO .ellipsis := y0
    replace s0 : Heap.SameBut z hp g0 := s0
    refine wpAny_bind ?_
    simp only [List.zipIdx_cons, List.zipIdx_nil, List.forIn_cons, List.forIn_nil]
    refine wpAny_bind (wpAny_bind (wpAny_onRaise ?_))
    show wpAny _ _ (nextOrEnd (.ref i1)) _ _ ⟨g0, g, d, tk0, os⟩
    refine ne_item D1 hi (D1.over t1 s0 S.zf1) fun x1 p1 tk1 hx1 sn1 b1 => ?_
    replace b1 : Heap.SameBut i1 g0 p1 := b1
    have u1 : IsTupOf2 p1 TO a1 a2 := b1.extBut _ _ S.Ti1 (s0.extBut _ _ S.TOz hO)
    refine wpAny_bind (wpAny_seqItems (s := ⟨p1, g, d, tk1, os⟩) u1 rfl (wpAny_bind (updateSeq_IsTupOf2 (s := ⟨p1, g, d, tk1, os⟩) u1 fun g1 w1 c1 => ?_)))
    replace w1 : IsTupOf2 g1 TO x1 a2 := w1
    replace c1 : Heap.SameBut TO p1 g1 := c1
    refine wpAny_bind (wpAny_letGo (wpAny_pure (wpAny_bind (wpAny_bind (wpAny_onRaise ?_)))))
    show wpAny _ _ (nextOrEnd (.ref i2)) _ _ ⟨g1, g, d, tk1, os⟩
    refine ne_item D2 hi (D2.over (D2.over (D2.over t2 s0 S.zf2) b1 S.sep1_2) c1 S.Tf2) fun x2 p2 tk2 hx2 sn2 b2 => ?_
    replace b2 : Heap.SameBut i2 g1 p2 := b2
    have u2 : IsTupOf2 p2 TO x1 a2 := b2.extBut _ _ S.Ti2 w1
    refine wpAny_bind (wpAny_seqItems (s := ⟨p2, g, d, tk2, os⟩) u2 rfl (wpAny_bind (updateSeq_IsTupOf2 (s := ⟨p2, g, d, tk2, os⟩) u2 fun g2 w2 c2 => ?_)))
    replace w2 : IsTupOf2 g2 TO x1 x2 := w2
    replace c2 : Heap.SameBut TO p2 g2 := c2
    refine wpAny_bind (wpAny_letGo (wpAny_pure (wpAny_pure (wpAny_bind (wpAny_seqItems (s := ⟨g2, g, d, tk2, os⟩) w2 rfl (wpAny_bind (wpAny_newTuple ?_)))))))
    have esz : g2.objs.size = hp.objs.size := by rw [c2.1, b2.1, c1.1, b1.1, s0.1]
    have yz : ZipS g2 z TI TO .ellipsis := c2.extBut _ _ S.TOz.symm (b2.extBut _ _ S.zi2 (c1.extBut _ _ S.TOz.symm (b1.extBut _ _ S.zi1 y0)))
    have kp : ∀ c o, c ≠ z → c ≠ TO → c ≠ i1 → c ≠ i2 → hp.get? c = some o → g2.get? c = some o := fun c o e1 e2 e3 e4 e => c2.extBut _ _ e2 (b2.extBut _ _ e4 (c1.extBut _ _ e2 (b1.extBut _ _ e3 (s0.extBut _ _ e1 e))))
    have j1 : St1 (i + 1) g2 := D1.over (D1.over (D1.over sn1 c1 S.Tf1) b2 S.sep2_1) c2 S.Tf1
    have j2 : St2 (i + 1) g2 := D2.over sn2 c2 S.Tf2
    have zl : z < g2.objs.size := Heap.lt_size yz
    show wpAny _ _ (ownedTupleHandOut (.ref z) (.ref g2.objs.size) >>= _) _ _ ⟨g2.push { cls := .type "tuple", data := .seq #[x1, x2] }, g, d, tk2, os⟩
    refine wpAny_bind ?_
    unfold ownedTupleHandOut
    have y6 : ZipS (g2.push { cls := .type "tuple", data := .seq #[x1, x2] }) z TI TO .ellipsis := Heap.get?_push_of_some _ yz
    refine wpAny_bind (wpAny_setField_rec y6 (by simp) fun h7 y7 s7 => ?_)
    replace y7 : ZipS h7 z TI TO (rawInt g2.objs.size) := y7
    refine wpAny_setField_rec y7 (by simp) fun h8 y8 s8 => ?_
    replace y8 : ZipS h8 z TI TO (rawInt g2.objs.size) := y8
    replace s7 : Heap.SameBut z (g2.push { cls := .type "tuple", data := .seq #[x1, x2] }) h7 := s7
    replace s8 : Heap.SameBut z h7 h8 := s8
    have rise : ∀ c o, c ≠ z → g2.get? c = some o → h8.get? c = some o := fun c o e1 e => s8.extBut _ _ e1 (s7.extBut _ _ e1 (Heap.get?_push_of_some _ e))
    have new8 : IsTupOf2 h8 g2.objs.size x1 x2 := s8.extBut _ _ (Nat.ne_of_gt zl) (s7.extBut _ _ (Nat.ne_of_gt zl) (Heap.get?_push_size _ rfl))
    rw [esz] at y8 new8
    refine wpAny_pure ⟨_, rfl, ?_⟩
    show Q (.ref g2.objs.size) ⟨h8, g, d, tk2, os⟩
    rw [esz]
    exact hQ x1 x2 h8 tk2 hx1 hx2 y8 (rise _ _ S.TOz w2) (D1.frame _ _ _ j1 fun b hb o e => rise b o (fun q => S.zf1 (q ▸ hb)) e) (D2.frame _ _ _ j2 fun b hb o e => rise b o (fun q => S.zf2 (q ▸ hb)) e) new8
      fun c o e1 e2 e3 e4 e => rise c o e1 (kp c o e1 e2 e3 e4 e))
theorem zipS_end {Q : Fin → Shared → Prop} (hh : A.handled = none) (S : ZipSep2 z TI TO i1 i2 fp1 fp2) (D1 : Draws prog w A i1 fp1 n P1 St1) (D2 : Draws prog w A i2 fp2 n P2 St2) (k12 : ∀ h h', St2 n h → Heap.ExtBut i1 h h' → St2 n h') (k2z : ∀ h h', St2 n h → Heap.SameBut z h h' → St2 n h')
    (hz : ZipS s.heap z TI TO .none) (hI : IsTupOf2 s.heap TI (.ref i1) (.ref i2)) (hO : IsTupOf2 s.heap TO a1 a2) (t1 : St1 n s.heap) (t2 : St2 n s.heap)
    (hE : ∀ h' tk e, (∀ c o, c ≠ z → c ≠ TO → c ≠ i1 → c ≠ i2 → s.heap.get? c = some o → h'.get? c = some o) → (∃ o, h'.get? e = some o ∧ o.cls = .type "StopIteration") → E (.ref e) { s with heap := h', toks := tk }) :
    wpAny (model prog w) A (Builtin.«zip.__next__» ⟨[.ref z], []⟩) Q E s := by
  obtain ⟨hp, g, d, tk0, os⟩ := s
  unfold ZipS at hz
  show wpAny _ _ (field (.ref z) 2 >>= _) _ _ _
  refine wpAny_bind (wpAny_field hz rfl (x := .bool true) rfl ?_)
  show wpAny _ _ (field (.ref z) 3 >>= _) _ _ _
  refine wpAny_bind (wpAny_field hz rfl (x := .ref TI) rfl (wpAny_bind (wpAny_seqItems hI rfl ?_)))
  show wpAny _ _ (ownedTupleIsFree (.ref z) >>= _) _ _ _
  refine wpAny_bind (by
    unfold ownedTupleIsFree
    refine wpAny_bind (wpAny_field hz rfl (x := .none) rfl (wpAny_pure ?_))
    simp only [if_true]
    refine wpAny_bind (wpAny_rule (wpAny_bind (wpAny_field hz rfl (x := .ref TO) rfl (wpAny_bind (wpAny_setField_rec hz (by simp) fun g0 y0 s0 => ?_)))))
    replace y0 : ZipS g0 z TI TO .ellipsis := y0
    replace s0 : Heap.SameBut z hp g0 := s0
    refine wpAny_bind ?_
    simp only [List.zipIdx_cons, List.zipIdx_nil, List.forIn_cons, List.forIn_nil]
    refine wpAny_bind (wpAny_bind (wpAny_onRaise ?_))
    show wpAny _ _ (nextOrEnd (.ref i1)) _ _ ⟨g0, g, d, tk0, os⟩
    refine ne_done D1 (D1.over t1 s0 S.zf1) fun p1 b1 => ?_
    replace b1 : Heap.ExtBut i1 g0 p1 := b1
    have y1 : ZipS p1 z TI TO .ellipsis := b1 _ _ S.zi1 y0
    refine wpAny_bind (wpAny_setField_rec (s := ⟨p1, g, d, tk0, os⟩) y1 (by simp) fun g2 y2 s2 => ?_)
    replace s2 : Heap.SameBut z p1 g2 := s2
    refine wpAny_bind ?_
    show wpAny _ _ (Bind.bind _ _) _ _ _
    refine wpAny_bind ?_
    simp only [List.drop_succ_cons, List.drop_zero, List.zipIdx_cons, List.zipIdx_nil, List.forIn_cons, List.forIn_nil]
    have t2' : St2 n g2 := k2z _ _ (k12 _ _ (D2.over t2 s0 S.zf2) b1) s2
    refine wpAny_bind (wpAny_bind (ne_done D2 t2' fun p2 b2 => ?_))
    replace b2 : Heap.ExtBut i2 g2 p2 := b2
    refine wpAny_ite_split (fun q => nomatch q) (fun _ => wpAny_pure (wpAny_pure (wpAny_bind (wpAny_rule ?_))))
    have fin : ∀ c o, c ≠ z → c ≠ TO → c ≠ i1 → c ≠ i2 → hp.get? c = some o → p2.get? c = some o := fun c o e1 _ e3 e4 e => b2 _ _ e4 (s2.extBut _ _ e1 (b1 _ _ e3 (s0.extBut _ _ e1 e)))
    show wpAny _ _ (newExc (.type "StopIteration") [] >>= _) _ _ _
    refine wpAny_bind ?_
    simp only [newExc, newTuple]
    refine wpAny_bind (wpAny_newObj_type (wpAny_bind (m := firstArgMember _ _) (wpAny_of_eq (a := Value.none) (by first | rfl | (simp only [firstArgMember]; rfl)) ?_)) (by size_fits))
    refine wpAny_newObj_type ?_ (by size_fits)
    simp only [raiseNew]
    refine wpAny_bind (wpAny_handled ?_)
    rw [hh]
    refine wpAny_bind (wpAny_pure (wpAny_throw ?_))
    exact hE _ _ _ (fun c o e1 e2 e3 e4 e => Heap.get?_push_of_some _ (Heap.get?_push_of_some _ (fin c o e1 e2 e3 e4 e))) ⟨_, Heap.get?_push_size _ rfl, rfl⟩)
end
end Lw
namespace Lw
section
open PySem PySem.W Sem Builtin.SmallTypes
variable {prog : Program} {w : World} {A : Around} {E : Value → Shared → Prop} {s : Shared} {z TI TO i1 i2 : Addr} {fp1 fp2 : List Addr} {n i : Nat} {P1 P2 : Nat → Value → Prop} {St1 St2 : Nat → Heap → Prop} {a1 a2 : Value}
theorem zipS_nextI {Q : Option Value → Shared → Prop} (S : ZipSep2 z TI TO i1 i2 fp1 fp2) (D1 : Draws prog w A.in1 i1 fp1 n P1 St1) (D2 : Draws prog w A.in1 i2 fp2 n P2 St2)
    (hz : ZipS s.heap z TI TO .none) (hI : IsTupOf2 s.heap TI (.ref i1) (.ref i2)) (hO : IsTupOf2 s.heap TO a1 a2) (t1 : St1 i s.heap) (t2 : St2 i s.heap) (hi : i < n)
    (hQ : ∀ x1 x2 h' tk, P1 i x1 → P2 i x2 → ZipS h' z TI TO (rawInt s.heap.objs.size) → IsTupOf2 h' TO x1 x2 → St1 (i + 1) h' → St2 (i + 1) h' → IsTupOf2 h' s.heap.objs.size x1 x2 →
      (∀ c o, c ≠ z → c ≠ TO → c ≠ i1 → c ≠ i2 → s.heap.get? c = some o → h'.get? c = some o) → Q (some (.ref s.heap.objs.size)) { s with heap := h', toks := tk }) :
    wpAny (model prog w) A (pyNext (.ref z)) Q E s := by
  have hT : s.TypeIs (.ref z) "zip" := ⟨_, hz, rfl⟩
  unfold pyNext
  refine wpAny_bind (wpAny_attempt (wpAny_callSpecial?_slot (name := Str.ofString "__next__") hT F.slot_zip_next (wpAny_call_entry F.slot_zip_next hT F.entry_zip_next ?_ (F.args_zip_next_1 _))))
  exact zipS_item S D1 D2 hz hI hO t1 t2 hi fun x1 x2 h' tk y1 y2 b1 b2 b3 b4 b5 b6 => wpAny_pure (hQ x1 x2 h' tk y1 y2 b1 b2 b3 b4 b5 b6)
theorem zipS_nextE {Q : Option Value → Shared → Prop} (hh : A.handled = none) (S : ZipSep2 z TI TO i1 i2 fp1 fp2) (D1 : Draws prog w A.in1 i1 fp1 n P1 St1) (D2 : Draws prog w A.in1 i2 fp2 n P2 St2) (k12 : ∀ h h', St2 n h → Heap.ExtBut i1 h h' → St2 n h') (k2z : ∀ h h', St2 n h → Heap.SameBut z h h' → St2 n h')
    (hz : ZipS s.heap z TI TO .none) (hI : IsTupOf2 s.heap TI (.ref i1) (.ref i2)) (hO : IsTupOf2 s.heap TO a1 a2) (t1 : St1 n s.heap) (t2 : St2 n s.heap)
    (hQ : ∀ h' tk, (∀ c o, c ≠ z → c ≠ TO → c ≠ i1 → c ≠ i2 → s.heap.get? c = some o → h'.get? c = some o) → Q none { s with heap := h', toks := tk }) : wpAny (model prog w) A (pyNext (.ref z)) Q E s := by
  have hT : s.TypeIs (.ref z) "zip" := ⟨_, hz, rfl⟩
  unfold pyNext
  refine wpAny_bind (wpAny_attempt (wpAny_callSpecial?_slot (name := Str.ofString "__next__") hT F.slot_zip_next (wpAny_call_entry F.slot_zip_next hT F.entry_zip_next ?_ (F.args_zip_next_1 _))))
  refine zipS_end (A := A.in1) hh S D1 D2 k12 k2z hz hI hO t1 t2 fun h' tk e hk he => ?_
  obtain ⟨o, ho, hc⟩ := he
  exact wpAny_bind (wpAny_isInstance (T := "StopIteration") (b := true) ⟨o, ho, hc⟩ isSubtype_stop (wpAny_pure (hQ _ _ hk)))
theorem zipS_go {elts : List Expr} {x1} {pos : Pos} {T : Addr} {Q : Unit → Shared → Prop} (hz : ZipS s.heap z TI TO (rawInt T)) (hQ : ∀ h', ZipS h' z TI TO .none → Heap.SameBut z s.heap h' → Q () { s with heap := h' }) :
    wpAny (model prog w) A (letOwnedTupleGo (.Tuple elts x1 pos) (.ref z) (.ref T)) Q E s := by
  unfold letOwnedTupleGo
  unfold ZipS at hz
  refine wpAny_bind (wpAny_load hz ?_)
  show wpAny _ _ (if (["enumerate", "zip", "dict_itemiterator", "dict_reverseitemiterator", "odict_iterator", "itertools.zip_longest", "itertools.pairwise"].contains "zip" && (#[rawInt T, .bool false, .bool true, .ref TI, .ref TO] : Array Value)[0]? == some (rawInt T)) = true then _ else _) Q E s
  rw [if_pos (by simp)]
  refine wpAny_bind (wpAny_rule ?_)
  show wpAny _ _ (setField (.ref z) 0 .none) Q E s
  exact wpAny_setField_rec hz (by simp) fun h' y sb => hQ h' y sb
theorem zipS_iter {f0 : Value} {Q : Value → Shared → Prop} (hz : ZipS s.heap z TI TO f0) (h : Q (.ref z) s) : wpAny (model prog w) A (pyIter (.ref z)) Q E s := by
  have hT : s.TypeIs (.ref z) "zip" := ⟨_, hz, rfl⟩
  refine wpAny_pyIter_slot hT F.slot_zip_iter (wpAny_call_entry F.slot_zip_iter hT F.entry_zip_iter ?_ (F.args_zip_iter_1 _))
  exact wpAny_pure ⟨_, rfl, "zip", _, hT, F.slot_zip_next.lookup, h⟩
end
section
open PySem PySem.Spec L2 PyProof.Rows
/-- the signs of a text beside the items of a tuple, as many -/
def Its2 (K : PySem.W.Frag) (x : Str) (a : Addr) : It :=
  ⟨fun i H => ∃ xs c v, SqT K H a xs ∧ xs.length = x.cps.size ∧ x.cps[i]? = some c ∧ xs[i]? = some v,
    fun i H u H' => ∃ T c v, u = .ref T ∧ H T = none ∧ H' = upd H T (.tup [.str ⟨#[c]⟩, v]) ∧ x.cps[i]? = some c ∧ ∀ xs, SqT K H a xs → xs[i]? = some v,
    fun i H => ∃ xs, SqT K H a xs ∧ xs.length = x.cps.size ∧ i = x.cps.size⟩
theorem turn_zipS {P : Program} {w : World} {K : PySem.W.Frag} {elts : List Expr} {kk : Nat} {tpos : Pos} {x : Str} {t : Tok} {a z TI TO i1 i2 : Addr} (S : ZipSep2 z TI TO i1 i2 [i1] [i2, a]) :
    Turn P w K (.Tuple elts kk tpos) (Its2 K x a) [z, TI, TO, i1, i2] z (fun i h => ZipS h z TI TO .none ∧ IsTupOf2 h TI (.ref i1) (.ref i2) ∧ (∃ u v, IsTupOf2 h TO u v) ∧ h.IsStrIter i1 (strIterType x) x t i ∧ h.IsTupleIter i2 a i) where
  mem := by simp
  obj := fun i h st c hc => by
    obtain ⟨hz, hI, ⟨u, v, hO⟩, ⟨o1, e1, _, d1⟩, ⟨o2, e2, _, d2⟩⟩ := st
    have e' : c = z ∨ c = TI ∨ c = TO ∨ c = i1 ∨ c = i2 := by simpa using hc
    rcases e' with rfl | rfl | rfl | rfl | rfl
    · exact ⟨_, hz, fun v q => nomatch q⟩
    · exact ⟨_, hI, fun v q => nomatch q⟩
    · exact ⟨_, hO, fun v q => nomatch q⟩
    · exact ⟨o1, e1, fun v q => by rw [d1] at q; cases q⟩
    · exact ⟨o2, e2, fun v q => by rw [d2] at q; cases q⟩
  keep := fun i h h' st k => by
    obtain ⟨hz, hI, ⟨u, v, hO⟩, ⟨o1, e1, r1⟩, ⟨o2, e2, r2⟩⟩ := st
    exact ⟨k z (by simp) _ hz, k TI (by simp) _ hI, ⟨u, v, k TO (by simp) _ hO⟩, ⟨o1, k i1 (by simp) _ e1, r1⟩, ⟨o2, k i2 (by simp) _ e2, r2⟩⟩
  item := by
    intro X hP hw hK hc i pins s σ H E I hf st hg
    subst hP hw hK
    obtain ⟨hz, hI, ⟨u0, v0, hO⟩, h1, h2⟩ := st
    obtain ⟨xs, c, v, hq, hlen, hcx, hvx⟩ := hg
    obtain ⟨its, rv, pt, _⟩ := I.tuple hq
    obtain ⟨u, hu, ru⟩ := rv.get hvx
    have hh : X.A.in1.handled = none := I.ok.hd hc
    have hzl : z < s.heap.objs.size := Heap.lt_size hz
    have hsz : its.toArray.size = x.cps.size := by rw [List.size_toArray, ← rv.length, hlen]
    have hi : i < x.cps.size := (Array.getElem?_eq_some_iff.mp hcx).1
    have D1 := Draws.text (prog := X.prog) (w := X.w) hh i1 x t
    have D2 := Draws.tuple (prog := X.prog) (w := X.w) hh i2 a (fun e => by
      have := S.sep1_2
      obtain ⟨_, e2, _, d2⟩ := h2
      obtain ⟨ot, et, _, nt, dt⟩ := pt
      rw [e] at et
      rw [et] at e2
      cases e2
      rw [dt] at d2
      cases d2) its.toArray
    rw [hsz] at D2
    refine zipS_nextI S D1 D2 hz hI hO h1 ⟨h2, pt⟩ hi fun x1 x2 h' tk q1 q2 z' o' st1 st2 new kp => ?_
    obtain ⟨c', u', hc', rfl⟩ := q1
    have q2' : its[i]? = some x2 := by simpa using q2
    rw [hu] at q2'
    cases q2'
    rw [hcx] at hc'
    cases hc'
    refine ⟨_, rfl, zipS_go (s := { s with heap := h', toks := tk }) z' fun h'' z'' sb => ?_⟩
    have hT2 : h''.get? s.heap.objs.size = some { cls := .type "tuple", data := .seq #[.str ⟨#[c]⟩ u', u] } := (sb.2 _ (Nat.ne_of_gt hzl)).trans new
    have nw : ObjOk X.prog X.w (upd H s.heap.objs.size (.tup [.str ⟨#[c]⟩, v])) h'' s.heap.objs.size (.tup [.str ⟨#[c]⟩, v]) := ⟨by show 2 ≤ sizeLine; decide, [.str ⟨#[c]⟩ u', u], .cons ⟨_, rfl⟩ (.cons ru .nil), ⟨_, hT2, rfl, _, rfl⟩⟩
    have I1 : Inv X pins σ (upd H s.heap.objs.size (.tup [.str ⟨#[c]⟩, v])) { s with heap := h'', toks := tk } :=
      I.turnedNew (t' := tk) (ch := [z, TI, TO, i1, i2]) (fun b o hb q => (sb.2 b (fun q' => hb (by simp [q']))).trans (kp b o (fun q' => hb (by simp [q'])) (fun q' => hb (by simp [q'])) (fun q' => hb (by simp [q'])) (fun q' => hb (by simp [q'])) q)) hf (Nat.le_refl _) nw
    have low : ∀ b ∈ [z, TI, TO, i1, i2], b < s.heap.objs.size := fun b hb => by
      have e' : b = z ∨ b = TI ∨ b = TO ∨ b = i1 ∨ b = i2 := by simpa using hb
      rcases e' with q | q | q | q | q
      · rw [q]; exact hzl
      · rw [q]; exact Heap.lt_size hI
      · rw [q]; exact Heap.lt_size hO
      · rw [q]; obtain ⟨_, e1, _⟩ := h1; exact Heap.lt_size e1
      · rw [q]; obtain ⟨_, e2, _⟩ := h2; exact Heap.lt_size e2
    refine ⟨.ref s.heap.objs.size, _, I1, rfl, ⟨_, c, v, rfl, I.hok.fresh (Nat.le_refl _), rfl, hcx, fun l hl => by rw [I.tuple_inj hl hq]; exact hvx⟩, ⟨z'', ?_, ⟨_, _, (sb.2 _ S.TOz).trans o'⟩, ?_, ?_⟩, fun b hb => ?_⟩
    · exact (sb.2 _ S.TIz).trans (kp _ _ S.TIz S.TITO S.TIi1 S.TIi2 hI)
    · obtain ⟨oo, e1, r1⟩ := st1
      exact ⟨oo, (sb.2 _ (Ne.symm S.zi1)).trans e1, r1⟩
    · obtain ⟨⟨oo, e1, r1⟩, _⟩ := st2
      exact ⟨oo, (sb.2 _ (Ne.symm S.zi2)).trans e1, r1⟩
    · rw [upd_ne (Nat.ne_of_lt (low b hb))]
      exact (hf b hb).1
  done := by
    intro X hP hw hK hc i pins s σ H E I hf st hg
    subst hP hw hK
    obtain ⟨hz, hI, ⟨u0, v0, hO⟩, h1, h2⟩ := st
    obtain ⟨xs, hq, hlen, rfl⟩ := hg
    obtain ⟨its, rv, pt, _⟩ := I.tuple hq
    have hh : X.A.in1.handled = none := I.ok.hd hc
    have hsz : its.toArray.size = x.cps.size := by rw [List.size_toArray, ← rv.length, hlen]
    have D1 := Draws.text (prog := X.prog) (w := X.w) hh i1 x t
    have ne2 : a ≠ i2 := fun e => by
      obtain ⟨_, e2, _, d2⟩ := h2
      obtain ⟨ot, et, _, nt, dt⟩ := pt
      rw [e] at et
      rw [et] at e2
      cases e2
      rw [dt] at d2
      cases d2
    have D2 := Draws.tuple (prog := X.prog) (w := X.w) hh i2 a ne2 its.toArray
    rw [hsz] at D2
    refine zipS_nextE (I.ok.hd hc) S D1 D2 (fun h h' st eb => ?_) (fun h h' st sb => ?_) hz hI hO h1 ⟨h2, pt⟩ fun h' tk hk => ⟨rfl, I.turnedL (t' := tk) (ch := [z, TI, TO, i1, i2]) (fun b o hb q =>
      hk b o (fun q' => hb (by simp [q'])) (fun q' => hb (by simp [q'])) (fun q' => hb (by simp [q'])) (fun q' => hb (by simp [q'])) q) hf⟩
    · exact D2.frame _ _ _ st fun b hb o e => eb _ _ (fun q => S.sep1_2 (q ▸ hb)) e
    · exact D2.frame _ _ _ st fun b hb o e => sb.extBut _ _ (fun q => S.zf2 (q ▸ hb)) e
  self := fun A i s Q E st h => zipS_iter st.1 h
theorem cw_typeK {M : Model} {A : Around} {E : Value → Shared → Prop} {s : Shared} {env : Env} {pos : Pos} {T : String} {e : Expr} {rest : List Expr} {kws : List Keyword} {Q : Value → Shared → Prop}
    (h : wpAny M A (spliced (backTo pos (starEach (e :: rest) env))) (fun vs s1 => wpAny M A (evalAll ((backToKw pos (keywordEach kws env)).map (·.2))) (fun kvs s2 => wpAny M A (call (.type T) vs (((backToKw pos (keywordEach kws env)).filterMap (·.1)).zip kvs)) Q E s2) E s1) E s)
    (he : backTo pos (starEach (e :: rest) env) = (false, eval e env) :: backTo pos (starEach rest env) := by rfl) (hpl : (backTo pos (starEach (e :: rest) env)).any (·.1) = false := by rfl)
    (hall : (backToKw pos (keywordEach kws env)).all (·.1.isSome) = true := by rfl) (hkw : (backToKw pos (keywordEach kws env)).any (·.1.isNone) = false := by rfl) :
    wpAny M A (callWith pos (.type T) [] (backTo pos (starEach (e :: rest) env)) (backToKw pos (keywordEach kws env))) Q E s := by
  have h2 : wpAny M A (evalArgs (.type T) true (backTo pos (starEach (e :: rest) env)) (backToKw pos (keywordEach kws env))) (fun a s1 => wpAny M A (call (.type T) a.pos a.kw) Q E s1) E s := by
    rw [he] at h ⊢
    exact PyProof.Rows.evalArgs_kwB hall h
  unfold callWith
  refine wpAny_bind (wpAny_holding (wpAny_mono h2 (fun a s1 h1 => wpAny_bind (wpAny_standAt ?_)) fun _ _ x => x))
  simp only [hpl, hkw, Bool.or_false]
  exact wpAny_bind (wpAny_pure (wpAny_bind (wpAny_mono h1 (fun r s2 hr => wpAny_bind (wpAny_holding (wpAny_point (wpAny_pure hr)))) fun _ _ x => x)))
theorem zs_sep (n m : Nat) (h : m < n) : ZipSep2 (n + 4) (n + 2) (n + 3) n (n + 1) [n] [n + 1, m] := by
  have k : ∀ {a b : Nat}, a ≠ b → ∀ e : (show Addr from a) = b, False := fun h e => h e
  have m1 : ∀ {a b : Nat}, a ≠ b → (show Addr from a) ∉ [(show Addr from b)] := fun h e => h (List.mem_singleton.mp e)
  have m2 : ∀ {a b c : Nat}, a ≠ b → a ≠ c → (show Addr from a) ∉ [(show Addr from b), c] := fun h1 h2 e => (List.mem_cons.mp e).elim h1 fun e => h2 (List.mem_singleton.mp e)
  exact ⟨k (by omega), k (by omega), k (by omega), k (by omega), List.mem_singleton.mpr rfl, m1 (by omega), m1 (by omega), k (by omega), List.mem_cons_self .., m2 (by omega) (by omega), m2 (by omega) (by omega), m2 (by omega) (by omega), m1 (by omega)⟩
def iZipS (K : PySem.W.Frag) (ta : TA) : TI := fun σ H R => ta σ H fun vs H1 => ∃ x a xs, vs = [.str x, .ref a] ∧ SqT K H1 a xs ∧ xs.length = x.cps.size ∧ R (Its2 K x a) H1
theorem pi_zipS {X : Cx} {e e2 : Expr} {ta : TA} {p pos tpos kp vp : Pos} {elts : List Expr} {kk jj : Nat} (hg : Gl X "zip") (hm : X.mg "zip" = none) (ha : PA X [e, e2] ta)
    (hs : backTo pos (starEach [e, e2] X.env) = (false, eval e X.env) :: backTo pos (starEach [e2] X.env) := by rfl) (hpl : (backTo pos (starEach [e, e2] X.env)).any (·.1) = false := by rfl) :
    PI X (.Tuple elts kk tpos) (.Call (.Name "zip" p) [e, e2] [⟨some "strict", .Constant (.bool true) jj vp, kp⟩] pos) (iZipS X.K ta) := by
  refine ⟨fun pins s σ H R I h => ?_⟩
  refine wpAny_Call_Name_kw (ld_blt I hg hm PyProof.Rows.boot_zip (cw_typeK (thn (ha.run pos pins s σ H _ I h) fun us s1 ⟨vs, H1, I1, r1, q1⟩ => ?_) hs hpl))
  obtain ⟨x, a, xs, rfl, hq, hlen, q⟩ := q1
  obtain ⟨u1, u2, rfl, r1, r2⟩ := vals2 r1
  obtain ⟨t, rfl⟩ := r1
  obtain rfl : u2 = Value.ref a := r2
  refine thn ((pk_cons (nm := some "strict") (kpos := kp) (pe_bl (X := X) (b := true) (j := jj) (pos := vp)) pk_nil).run pos pins s1 σ H1 (fun ws H2 => ws = [.bl true] ∧ H2 = H1) I1 ⟨rfl, rfl⟩) fun ws s2 ⟨zs, H2, I2, rz, ez, eH⟩ => ?_
  subst ez eH
  obtain ⟨w0, rfl, rw0⟩ := vals1 rz
  obtain rfl : w0 = Value.bool true := rw0
  obtain ⟨its, rv, pt, _⟩ := I2.tuple hq
  have pl := pt.lt
  refine zipS_begins (begins_text x t) (begins_tuple a its.toArray) trivial pt fun h' hz hTI hTO g1 g2 hk => zipS_iter (s := { s2 with heap := h' }) hz ?_
  have I3 : Inv X pins σ H2 { s2 with heap := h' } := I2.kept (t' := s2.toks) hk
  have apart : ZipSep2 (s2.heap.objs.size + 4) (s2.heap.objs.size + 2) (s2.heap.objs.size + 3) s2.heap.objs.size (s2.heap.objs.size + 1) [s2.heap.objs.size] [s2.heap.objs.size + 1, a] := by
    exact zs_sep _ _ pl
  refine ⟨s2.heap.objs.size + 4, [s2.heap.objs.size + 4, s2.heap.objs.size + 2, s2.heap.objs.size + 3, s2.heap.objs.size, s2.heap.objs.size + 1], _, _, H2, rfl, I3, turn_zipS apart, ⟨hz, hTI, ⟨_, _, hTO⟩, ⟨_, g1, rfl, rfl⟩, ⟨_, g2, rfl, rfl⟩⟩, fun c hcm => ?_, q⟩
  have e' : c = s2.heap.objs.size + 4 ∨ c = s2.heap.objs.size + 2 ∨ c = s2.heap.objs.size + 3 ∨ c = s2.heap.objs.size ∨ c = s2.heap.objs.size + 1 := by simpa using hcm
  have hle : s2.heap.objs.size ≤ c := by
    rcases e' with z | z | z | z | z <;> rw [z] <;> first | exact Nat.le_refl _ | exact Nat.le_add_right _ _
  exact I2.fpOk hle (I2.hok.fresh hle)
end
end Lw
/-! Part X: methods under their names; the table FORMS. -/
namespace Lw
open PySem PySem.Spec L2 PyProof.Rows
def DfM (K : PySem.W.Frag) (C : Addr) (m q : Str) (i j : Nat) (dvs : List V) (kws : List (Str × V)) : Prop := ∃ f fd, FnM K m q i j dvs kws f fd ∧ Meth K C m f
/-- a promise that a method keeps; B: how arguments come to its parameters -/
structure Mv (P : Program) (w : World) (K : PySem.W.Frag) (mg : Str → Option Value) (base : Heap) (C : Addr) (k : Nat) (m : Str) (ps : List Str) (sp : Sp) (B : FuncData → Prop) : Prop where
  ex : ∃ f fd, FnOk P w K mg base CX0 k f fd ps sp ∧ Meth K C m f ∧ B fd
section
variable {P : Program} {w : World} {K : PySem.W.Frag} {mg : Str → Option Value} {base : Heap} {C : Addr} {j' k : Nat} {m q : Str} {i j : Nat} {dvs : List V} {kws : List (Str × V)} {N ps : List Str} {sp : Sp} {B : FuncData → Prop}
theorem Mv.mono (G : Mv P w K mg base C j' m ps sp B) (h : j' ≤ k) : Mv P w K mg base C k m ps sp B := by
  obtain ⟨f, fd, F, r⟩ := G.ex
  exact ⟨f, fd, F.mono h, r⟩
theorem Mv.imp {sp' : Sp} (G : Mv P w K mg base C k m ps sp B) (h : ∀ vs H Q E, sp' vs H Q E → sp vs H Q E) : Mv P w K mg base C k m ps sp' B := by
  obtain ⟨f, fd, F, r⟩ := G.ex
  exact ⟨f, fd, ⟨fun vs H Q E q => F.len vs H Q E (h _ _ _ _ q), fun A out s H args us vs Q E hr he hb hv hs => F.run A out s H args us vs Q E hr he hb hv (h _ _ _ _ hs)⟩, r⟩
theorem okM (D : DfM K C m q i j dvs kws) (S : FnScope N ps (defScope (mth i j))) (hB : ∀ f fd, FnM K m q i j dvs kws f fd → B fd) (len : ∀ vs H Q E, sp vs H Q E → vs.length = ps.length)
    (h : ∀ (f : Addr) (cdv : Value) (A : Around) (out : List Env) (s : Shared) (H : Hp) (vs : List V) (Q : VK) (E : XK), Room k (A.deeper (envOfC q (defScope (mth i j)) s.heap.objs.size f cdv)) → sp vs H Q E →
      ∃ t, PSs (cxOf CX0 P w K mg base N q (defScope (mth i j)) f cdv A out s H E).nox (defBody (mth i j)) t ∧ t { nx := fun _ H' => Q .non H', rt := Q } (start N vs) H) : Mv P w K mg base C (k + 1) m ps sp B := by
  obtain ⟨f, fd, F, hm⟩ := D
  exact ⟨f, fd, F.ok S len (fun cdv A out s H vs Q E hr hs => by
    obtain ⟨t, h1, h2⟩ := h f cdv A out s H vs Q E hr hs
    exact ⟨t, h1.nox, h2⟩), hm, hB f fd F⟩
theorem Mv.never (D : DfM K C m q i j dvs kws) (hB : ∀ f fd, FnM K m q i j dvs kws f fd → B fd) (h : ∀ vs H Q E, ¬ sp vs H Q E) : Mv P w K mg base C k m ps sp B := by
  obtain ⟨f, fd, F, hm⟩ := D
  exact ⟨f, fd, ⟨fun vs H Q E q => (h _ _ _ _ q).elim, fun A out s H args us vs Q E hr he hb hv hs => (h _ _ _ _ hs).elim⟩, hm, hB f fd F⟩
end
section
variable {X : Cx} {C : Addr} {k n : Nat} {m : Str} {ps ks : List Str} {sp : Sp} {B : FuncData → Prop} {apos pos : Pos} {o e : Expr} {es : List Expr} {kws : List Keyword} {ta : TE} {t tk : TA} {dvs : List V}
/-- o.m(e, ..) -/
theorem pe_mv {E : XK} {pl : Sem Bool} (he : PE X o ta) (c : Cls X.K C) (G : Mv X.prog X.w X.K X.mg X.base C k m ps sp B) (hB : ∀ fd, B fd → ∃ ds, Vals dvs ds ∧ L2.Binds X.K fd ps ds) (hr : Room k X.A) (ha : PA X (e :: es) t)
    (hst : starEach (e :: es) X.env = (false, eval e X.env) :: starEach es X.env := by rfl) (hpl : (backTo pos (starEach es X.env)).any (·.1) = false := by rfl)
    (ht : eval (.Call (.Attribute o m apos) (e :: es) [] pos) X.env = (do
      let ov ← eval o X.env
      standAt apos.atName
      let (f, first) ← holding [ov] (getMethod ov m pl)
      callWith pos f first (backTo pos (starEach (e :: es) X.env)) (backToKw pos (keywordEach [] X.env))) := by rfl) :
    PE X (.Call (.Attribute o m apos) (e :: es) [] pos) (tMeth C m sp dvs E ta t) := by
  obtain ⟨f, fd, F, hm, b⟩ := G.ex
  obtain ⟨ds, hd, hb⟩ := hB fd b
  exact pe_meth he c hm F hr hb hd pass0 ha hst hpl ht
/-- o.m(e, .., k=e2, ..) -/
def tMk (C : Addr) (m : Str) (sp : Sp) (E : XK) (n l : Nat) (ta : TE) (t tk : TA) : TE := fun σ H Q => ta σ H fun x H1 => ∃ a dx fs, x = .ref a ∧ H1 a = some (.ins C dx fs) ∧ fs.lookup m = none ∧
  t σ H1 fun vs H2 => tk σ H2 fun zs H3 => vs.length = n ∧ zs.length = l ∧ sp (x :: (vs ++ zs)) H3 Q E
theorem pe_mk {E : XK} {pl : Sem Bool} (he : PE X o ta) (c : Cls X.K C) (G : Mv X.prog X.w X.K X.mg X.base C k m ps sp B) (hB : ∀ fd, B fd → ∀ (s : Shared) (us ws : List Value), us.length = n + 1 → ws.length = ks.length → BindsTo s fd ⟨us, ks.zip ws⟩ (ps.zip (us ++ ws))) (hr : Room k X.A) (ha : PA X (e :: es) t) (hk : PK X kws tk)
    (hall : (backToKw pos (keywordEach kws X.env)).all (·.1.isSome) = true := by rfl) (hks : (backToKw pos (keywordEach kws X.env)).filterMap (·.1) = ks := by rfl)
    (hpl : ((backTo pos (starEach (e :: es) X.env)).any (·.1) || (backToKw pos (keywordEach kws X.env)).any (·.1.isNone)) = false := by rfl) (hst : starEach (e :: es) X.env = (false, eval e X.env) :: starEach es X.env := by rfl)
    (ht : eval (.Call (.Attribute o m apos) (e :: es) kws pos) X.env = (do
      let ov ← eval o X.env
      standAt apos.atName
      let (f, first) ← holding [ov] (getMethod ov m pl)
      callWith pos f first (backTo pos (starEach (e :: es) X.env)) (backToKw pos (keywordEach kws X.env))) := by rfl) :
    PE X (.Call (.Attribute o m apos) (e :: es) kws pos) (tMk C m sp E n ks.length ta t tk) := by
  obtain ⟨f, fd, F, hm, b⟩ := G.ex
  refine ⟨fun pins s σ H Q I h => PySem.W.methodCall_KW (pl := pl) (thn (he.run pins s σ H _ I h) fun u s1 ⟨x, H1, I1, rx, a, dx, fs, ex, ea, l, q⟩ => ?_) ht⟩
  subst ex
  obtain rfl : u = Value.ref a := rx
  refine getmeth_ok I1 ea c hm l ?_
  refine PySem.W.callWith_KW (first := [.ref a]) (h₀ := X.base) I.ok.mod.kin hm.kp hall (thn (ha.run pos pins s1 σ H1 _ I1 q) fun us s2 ⟨vs, H2, I2, r, q2⟩ => thn (hk.run pos pins s2 σ H2 _ I2 q2) fun ws s3 ⟨zs, H3, I3, rz, l1, l2, q3⟩ => ⟨I3.kIn, ?_⟩) hpl hst
  rw [hks]
  have kb : KBn X.K fd ps (n + 1) ks (fun us ws => us ++ ws) (fun vs zs => vs ++ zs) := ⟨fun s us ws _ e1 e2 => hB fd b s us ws e1 e2, fun r rz => r.append rz⟩
  exact run_fnN (E := E) F hr kb pass0 I3 (.cons (show RelV (.ref a) (.ref a) from rfl) r) rz (by rw [List.length_cons, l1]) l2 q3
end
/-! ### FORMS -/
/-- the table stands -/
def FormsK (K : PySem.W.Frag) (w : World) (mg : Str → Option Value) : Prop := ∃ d es n, mg "FORMS" = some (.ref d) ∧ KDict K w d es n ∧ ∀ q ∈ formsTab, ∃ a, PySem.W.nsIn K d q.1 = some (some (.ref a)) ∧ ∀ H, SqT K H a [.str q.2.1, .str q.2.2]
def spSort : Sp := fun vs H Q _ => ∃ q ∈ formsTab, vs = [.str q.1] ∧ Q (.str q.2.1) H
def spKinds : Sp := fun vs H Q _ => ∃ q ∈ formsTab, vs = [.str q.1] ∧ Q (.str q.2.2) H
theorem scSort : FnScope ["word"] ["word"] (defScope (top 15)) := ⟨rfl, rfl, rfl, by decide +kernel, rfl, by decide +kernel, by decide +kernel⟩
theorem scKinds : FnScope ["word"] ["word"] (defScope (top 16)) := ⟨rfl, rfl, rfl, by decide +kernel, rfl, by decide +kernel, by decide +kernel⟩
section
variable {P : Program} {w : World} {K : PySem.W.Frag} {mg : Str → Option Value} {base : Heap}
theorem ok_sortof (D : Df K mg "sort_of" 15) (T : FormsK K w mg) (mi : mg "isinstance" = none) (ms : mg "str" = none) : Gv P w K mg base 1 "sort_of" ["word"] spSort := by
  refine okV D scSort (fun _ _ _ _ _ _ us hl => match us, hl with | [_], _ => rfl) (fun vs H Q E h => ?_) (fun f cdv A out s H vs Q E hr h => ?_)
  · obtain ⟨q, _, rfl, _⟩ := h
    rfl
  obtain ⟨q, hq, rfl, k⟩ := h
  obtain ⟨d, es, n, hd, KD_, ht⟩ := T
  obtain ⟨a, ha, hsq⟩ := ht q hq
  refine ⟨_, pss_one (ps_ret (pe_ifExp (PW.pt (pw_and (pt_val (pe_callB call_isi rfl mi (by decide +kernel) (pa_cons (pv 0) (pa_cons (pe_bltn (v := .ty "str") rfl ms (by decide +kernel) rfl) pa_nil)))) (pw_and1 (pt_cmpR (op_in_kd KD_) (pv 0) (pe_glob (v := .ref d) rfl hd rfl) (by rfl)))))
    (pe_ix ix_tup (pe_ix ix_kdict (pe_glob (v := .ref d) rfl hd rfl) (pv 0) (fun _ _ => rfl)) pe_int (fun _ _ => rfl)) pe_str)), ?_⟩
  refine ⟨_, rfl, _, _, _, _, _, rfl, .ty "str", .base (.str _), kit_ty (b := "str") (r := true) (by decide +kernel), _, rfl, iteT ?_⟩
  exact ⟨_, rfl, q.1, some (.ref a), rfl, rfl, ha, _, rfl, iteT ⟨_, rfl, d, q.1, .ref a, rfl, rfl, ⟨es, n, .ref a, KD_.at_, KD_.lit, ha, rfl⟩, a, _, _, _, rfl, rfl, hsq H, rfl, k⟩⟩
theorem ok_kindsof (D : Df K mg "kinds_of" 16) (T : FormsK K w mg) (mi : mg "isinstance" = none) (ms : mg "str" = none) : Gv P w K mg base 1 "kinds_of" ["word"] spKinds := by
  refine okV D scKinds (fun _ _ _ _ _ _ us hl => match us, hl with | [_], _ => rfl) (fun vs H Q E h => ?_) (fun f cdv A out s H vs Q E hr h => ?_)
  · obtain ⟨q, _, rfl, _⟩ := h
    rfl
  obtain ⟨q, hq, rfl, k⟩ := h
  obtain ⟨d, es, n, hd, KD_, ht⟩ := T
  obtain ⟨a, ha, hsq⟩ := ht q hq
  refine ⟨_, pss_one (ps_ret (pe_ifExp (PW.pt (pw_and (pt_val (pe_callB call_isi rfl mi (by decide +kernel) (pa_cons (pv 0) (pa_cons (pe_bltn (v := .ty "str") rfl ms (by decide +kernel) rfl) pa_nil)))) (pw_and1 (pt_cmpR (op_in_kd KD_) (pv 0) (pe_glob (v := .ref d) rfl hd rfl) (by rfl)))))
    (pe_ix ix_tup (pe_ix ix_kdict (pe_glob (v := .ref d) rfl hd rfl) (pv 0) (fun _ _ => rfl)) pe_int (fun _ _ => rfl)) pe_str)), ?_⟩
  refine ⟨_, rfl, _, _, _, _, _, rfl, .ty "str", .base (.str _), kit_ty (b := "str") (r := true) (by decide +kernel), _, rfl, iteT ?_⟩
  exact ⟨_, rfl, q.1, some (.ref a), rfl, rfl, ha, _, rfl, iteT ⟨_, rfl, d, q.1, .ref a, rfl, rfl, ⟨es, n, .ref a, KD_.at_, KD_.lit, ha, rfl⟩, a, _, _, _, rfl, rfl, hsq H, rfl, k⟩⟩
end
end Lw
/-! Part P: the pen's defs. -/
namespace Lw
open PySem PySem.Spec L2 PyProof.Rows
theorem atI_int (ns : List Int) {i : Int} (h0 : 0 ≤ i) (h1 : i < ns.length) : ∃ q, atI (ns.map V.int) i = some (.int q) ∧ q ∈ ns := by
  have hk : i.toNat < ns.length := by omega
  have e : i = ((i.toNat : Nat) : Int) := by omega
  refine ⟨ns[i.toNat], ?_, List.getElem_mem hk⟩
  have h := atI_nat (xs := ns.map V.int) (j := i.toNat) (v := .int ns[i.toNat]) (by rw [List.getElem?_map, List.getElem?_eq_getElem hk] <;> rfl)
  rw [← e] at h
  exact h
theorem atI_of {α : Type} {xs : List α} {i : Int} (h0 : 0 ≤ i) (h1 : i < xs.length) : ∃ v, atI xs i = some v ∧ v ∈ xs ∧ xs[i.toNat]? = some v := by
  have hk : i.toNat < xs.length := by omega
  have e : i = ((i.toNat : Nat) : Int) := by omega
  refine ⟨xs[i.toNat], ?_, List.getElem_mem hk, List.getElem?_eq_getElem hk⟩
  have h := atI_nat (List.getElem?_eq_getElem hk)
  rw [← e] at h
  exact h
def spSpread : Sp := fun vs H Q _ => ∃ (c a : Int), vs = [.int c, .int a] ∧ 0 ≤ a ∧ a ≤ 536870912 ∧ ∀ x H', Same H H' → Q (.int x) H'
def prs : List Int := [2147483629, 2147483587, 2147483579, 2147483563, 2147483549, 2147483543, 2147483497, 2147483489] ++ [2147483477, 2147483423, 2147483399, 2147483353, 2147483323]
theorem prs_in : ∀ q ∈ prs, 2 ≤ q ∧ q < 2147483648 := by decide
theorem scSpread : FnScope ["_law_cell", "_law_at", "_law_primes", "_law_one", "_law_two", "_law_three"] ["_law_cell", "_law_at"] (defScope (top 37)) := ⟨rfl, rfl, rfl, by decide +kernel, rfl, by decide +kernel, by decide +kernel⟩
section
variable {P : Program} {w : World} {K : PySem.W.Frag} {mg : Str → Option Value} {base : Heap}
theorem ok_spread (D : Df K mg "_law_spread" 37) : Gv P w K mg base 1 "_law_spread" ["_law_cell", "_law_at"] spSpread := by
  refine okV D scSpread (fun _ _ _ _ _ _ us hl => match us, hl with | [_, _], _ => rfl) (fun vs H Q E h => ?_) (fun f cdv A out s H vs Q E hr h => ?_)
  · obtain ⟨c, a, rfl, _⟩ := h
    rfl
  obtain ⟨c, a, rfl, h0, h1, q⟩ := h
  have nd := scSpread.nd
  refine ⟨_, pss_cons (ps_if (pt_cmpR op_ge (pv 0) (pe_op op_pow pe_int pe_int) (nomark _)) (pss_one (ps_ret (pv 0))) pss_nil)
    (pss_cons (ps_set (i := 2) nd rfl (Or.inl rfl) (pe_lst (pa_cons pe_int (pa_cons pe_int (pa_cons pe_int (pa_cons pe_int (pa_cons pe_int (pa_cons pe_int (pa_cons pe_int (pa_cons pe_int pa_nil))))))))))
    (pss_cons (ps_set (i := 2) nd rfl (Or.inl rfl) (pe_op op_cat (pv 2) (pe_lst (pa_cons pe_int (pa_cons pe_int (pa_cons pe_int (pa_cons pe_int (pa_cons pe_int pa_nil))))))))
    (pss_cons (ps_set (i := 3) nd rfl (Or.inl rfl) (pe_op op_mod (pe_op op_pow (pe_op op_add (pe_op op_add (pe_op op_mulW (pe_op op_mod (pv 0) pe_int) (pe_op op_add (pe_op op_mulW pe_int (pv 1)) pe_int)) (pe_op op_mulW (pv 1) pe_int)) pe_int) pe_int) (pe_ix ix_list (pv 2) (pe_op op_mod (pv 1) pe_int) (fun _ _ => rfl))))
    (pss_cons (ps_set (i := 4) nd rfl (Or.inl rfl) (pe_op op_mod (pe_op op_pow (pe_op op_add (pe_op op_add (pe_op op_mulW (pv 3) (pe_op op_add (pv 1) pe_int)) (pe_op op_mod (pv 0) pe_int)) pe_int) pe_int) (pe_ix ix_list (pv 2) (pe_op op_mod (pe_op op_add (pv 1) pe_int) pe_int) (fun _ _ => rfl))))
    (pss_cons (ps_set (i := 5) nd rfl (Or.inl rfl) (pe_op op_mod (pe_op op_pow (pe_op op_add (pe_op op_add (pv 4) (pe_op op_mod (pv 3) pe_int)) (pv 1)) pe_int) (pe_ix ix_list (pv 2) (pe_op op_mod (pe_op op_add (pv 1) pe_int) pe_int) (fun _ _ => rfl))))
    (pss_one (ps_ret (pe_op op_add (pe_op op_mulW (pe_op op_add (pe_op op_mulW (pv 3) pe_int) (pv 4)) pe_int) (pv 5))))))))), ?_⟩
  have b40 : ∀ {z : Int}, 0 ≤ z → z < 1099511627776 → z.natAbs < 2 ^ 40 := fun h0 h1 => by
    have : (2 : Nat) ^ 40 = 1099511627776 := by decide
    omega
  have mm : ∀ {y z : Int}, 0 ≤ y → y < 1099511627776 → 0 ≤ z → z < 1099511627776 → CMulW y z := fun h0 h1 h2 h3 => wide_mul (b40 h0 h1) (b40 h2 h3) (by decide) (by decide) (by decide)
  have b64 : ∀ {z : Int}, 0 ≤ z → z < 18446744073709551616 → z.natAbs < 2 ^ 64 := fun h0 h1 => by
    have : (2 : Nat) ^ 64 = 18446744073709551616 := by decide
    omega
  refine ⟨_, rfl, _, _, rfl, rfl, ⟨by decide, by decide, by decide⟩, _, _, rfl, rfl, _, rfl, ite2 (fun _ => ?_) (fun _ => ?_)⟩
  · exact ⟨_, rfl, q _ _ fun _ _ e => e⟩
  refine ⟨by show 8 ≤ sizeLine; decide, fun l1 n1 => ?_⟩
  refine ⟨_, rfl, by show 5 ≤ sizeLine; decide, fun l2 n2 => ?_⟩
  have d1 : l1 ≠ l2 := fun z => by
    rw [← z, upd_same] at n2
    cases n2
  refine ⟨_, _, _, _, rfl, rfl, by rw [upd_ne d1, upd_same], upd_same, by show 8 + 5 ≤ sizeLine; decide, fun l3 n3 => ?_⟩
  have hl : ∀ {H' : Hp}, upd H' l3 (.lst (prs.map V.int)) l3 = some (.lst (prs.map V.int)) := upd_same
  have m9 : ∀ z m : Int, 0 < m → 0 ≤ z % m ∧ z % m < m := fun z m h => ⟨Int.emod_nonneg _ (by omega), Int.emod_lt_of_pos _ h⟩
  obtain ⟨x1, x2⟩ := m9 c 1000000007 (by decide)
  have e1 := m9 a 13 (by decide)
  have e2 := m9 (a + 5) 13 (by decide)
  have e3 := m9 (a + 7) 13 (by decide)
  obtain ⟨p1, hp1, hm1⟩ := atI_int prs e1.1 (by exact e1.2)
  obtain ⟨p2, hp2, hm2⟩ := atI_int prs e2.1 (by exact e2.2)
  obtain ⟨p3, hp3, hm3⟩ := atI_int prs e3.1 (by exact e3.2)
  have g1 := prs_in _ hm1
  have g2 := prs_in _ hm2
  have g3 := prs_in _ hm3
  have y1 : 0 ≤ (c % 1000000007) * (2 * a + 69069) := Int.mul_nonneg x1 (by omega)
  have y2 : (c % 1000000007) * (2 * a + 69069) < 1000000007 * 1073811893 := Int.lt_of_le_of_lt (Int.mul_le_mul_of_nonneg_right (by omega) (by omega) : _ ≤ 1000000007 * (2 * a + 69069)) (by omega)
  refine ⟨_, rfl, _, _, rfl, rfl, by show (0 : Int) < 1000000007; decide, _, rfl, _, _, rfl, rfl, mm (by decide) (by decide) h0 (by omega), _, _, rfl, rfl, _, _, rfl, rfl, mm x1 (by omega) (by omega) (by omega), _, rfl, _, _, rfl, rfl, mm h0 (by omega) (by decide) (by decide), _, _, rfl, rfl, _, _, rfl, rfl, _, _, rfl, rfl,
    ⟨by decide, by decide, b64 (by omega) (by omega)⟩, _, rfl, _, rfl, _, _, rfl, rfl, by show (0 : Int) < 13; decide, l3, _, _, _, rfl, rfl, SqL.of hl, hp1, _, _, rfl, rfl, by show (0 : Int) < p1; omega, ?_⟩
  have o1 := m9 (((c % 1000000007) * (2 * a + 69069) + a * 40503 + 977) ^ Int.toNat 3) p1 (by omega)
  obtain ⟨one, v3⟩ : ∃ one, (((c % 1000000007) * (2 * a + 69069) + a * 40503 + 977) ^ Int.toNat 3) % p1 = one := ⟨_, rfl⟩
  rw [v3] at o1
  have v3 := congrArg (fun z => some (some (V.int z))) v3
  have x3 := m9 c 65537 (by decide)
  have y3 : 0 ≤ one * (a + 3) := Int.mul_nonneg o1.1 (by omega)
  have y4 : one * (a + 3) ≤ 2147483648 * (a + 3) := Int.mul_le_mul_of_nonneg_right (by omega) (by omega)
  refine ⟨_, v3, _, rfl, _, _, rfl, rfl, _, _, rfl, rfl, mm o1.1 (by omega) (by omega) (by omega), _, rfl, _, _, rfl, rfl, by show (0 : Int) < 65537; decide, _, _, rfl, rfl, _, _, rfl, rfl, _, _, rfl, rfl, ⟨by decide, by decide, b64 (by omega) (by omega)⟩,
    _, rfl, _, rfl, _, _, rfl, rfl, _, _, rfl, rfl, by show (0 : Int) < 13; decide, l3, _, _, _, rfl, rfl, SqL.of hl, hp2, _, _, rfl, rfl, by show (0 : Int) < p2; omega, ?_⟩
  have o2 := m9 ((one * (a + 3) + c % 65537 + 5) ^ Int.toNat 5) p2 (by omega)
  obtain ⟨two, v4⟩ : ∃ two, ((one * (a + 3) + c % 65537 + 5) ^ Int.toNat 5) % p2 = two := ⟨_, rfl⟩
  rw [v4] at o2
  have v4 := congrArg (fun z => some (some (V.int z))) v4
  have x5 := m9 one 1009 (by decide)
  refine ⟨_, v4, _, v3, _, _, rfl, rfl, by show (0 : Int) < 1009; decide, _, _, rfl, rfl, _, rfl, _, _, rfl, rfl, _, _, rfl, rfl, ⟨by decide, by decide, b64 (by omega) (by omega)⟩,
    _, rfl, _, rfl, _, _, rfl, rfl, _, _, rfl, rfl, by show (0 : Int) < 13; decide, l3, _, _, _, rfl, rfl, SqL.of hl, hp3, _, _, rfl, rfl, by show (0 : Int) < p3; omega, ?_⟩
  refine ⟨_, v3, _, _, rfl, rfl, mm o1.1 (by omega) (by decide) (by decide), _, v4, _, _, rfl, rfl, _, _, rfl, rfl, wide_mul (a := 80) (b := 40) ?_ (b40 (by decide) (by decide)) (by decide) (by decide) (by decide), _, rfl, _, _, rfl, rfl, q _ _ ?_⟩
  · have : (2 : Nat) ^ 80 = 1208925819614629174706176 := by decide
    omega
  · intro b o e
    have t1 := ne_of_none e n1
    rw [upd_ne (ne_of_none (show upd H l1 _ b = some o by rw [upd_ne t1]; exact e) n2 |> fun t2 => ne_of_none (show upd (upd H l1 _) l2 _ b = some o by rw [upd_ne t2, upd_ne t1]; exact e) n3),
      upd_ne (ne_of_none (show upd H l1 _ b = some o by rw [upd_ne t1]; exact e) n2), upd_ne t1]
    exact e
def spTake : Sp := fun vs H Q _ => ∃ (p : Addr) (m : Int) (r : Nat), vs = [.ref p, .int m] ∧ 1 ≤ m ∧ m ≤ 1000000000000000000000 ∧ Pen H p (r + 1) ∧ ∀ n H', 0 ≤ n → n < m → Kq p H H' → Pen H' p r → Q (.int n) H'
theorem scTake : FnScope ["_law_pen", "_law_many", "_law_at", "_law_cell", "_law_found"] ["_law_pen", "_law_many"] (defScope (top 39)) := ⟨rfl, rfl, rfl, by decide +kernel, rfl, by decide +kernel, by decide +kernel⟩
theorem ok_take (D : Df K mg "_law_take" 39) (ml : mg "len" = none) (G : Gv P w K mg base 1 "_law_spread" ["_law_cell", "_law_at"] spSpread) : Gv P w K mg base 2 "_law_take" ["_law_pen", "_law_many"] spTake := by
  refine okV D scTake (fun _ _ _ _ _ _ us hl => match us, hl with | [_, _], _ => rfl) (fun vs H Q E h => ?_) (fun f cdv A out s H vs Q E hr h => ?_)
  · obtain ⟨p, m, r, rfl, _⟩ := h
    rfl
  obtain ⟨p, m, r, rfl, hm1, hm2, hpen, q⟩ := h
  obtain ⟨c, a, x, ns, h1, h2, h3, h4, h5⟩ := hpen
  have nd := scTake.nd
  have m70 : m.natAbs < 2 ^ 70 := by
    have : (2 : Nat) ^ 70 = 1180591620717411303424 := by decide
    omega
  have hmW : ∀ y : Int, CDivW y m := fun y => wide_div (b := 70) (by omega) m70 (by decide) (by decide)
  -- from the second part on
  have fin : ∀ (H' : Hp) (y z : Int) (a' : Nat), Kq p H H' → H' p = some (.lst [.ref c, .int a', .int y]) → a' ≤ a + 1 → Pen (upd H' p (.lst [.ref c, .int a', .int z])) p r ∧ Kq p H (upd H' p (.lst [.ref c, .int a', .int z])) := fun H' y z a' hk hp ha => by
    refine ⟨⟨c, a', z, ns, upd_same, h2, by rw [upd_ne h2]; exact hk.st _ _ h3 h2, h4, by omega⟩, fun b o e n => ?_, fun c2 a2 x2 e => ?_⟩
    · rw [upd_ne n]
      exact hk.st b o e n
    · rw [h1] at e
      cases e
      exact ⟨_, _, upd_same⟩
  refine ⟨_, pss_cons (ps_if (pt_cmpR op_lt (pe_ix ix_list (pv 0) pe_int (fun _ _ => rfl)) (pv 1) (nomark _))
      (pss_cons (ps_set (i := 2) nd rfl (Or.inl rfl) (pe_ix ix_list (pv 0) pe_int (fun _ _ => rfl)))
      (pss_cons (ps_set (i := 3) nd rfl (Or.inl rfl) pe_int)
      (pss_cons (ps_if (pt_cmpR op_lt (pv 2) (pe_callB call_len_seq rfl ml PySem.boot_len (pa_cons (pe_ix ix_list (pv 0) pe_int (fun _ _ => rfl)) pa_nil)) (nomark _))
        (pss_one (ps_set (i := 3) nd rfl (Or.inl rfl) (pe_ix ix_list (pe_ix ix_list (pv 0) pe_int (fun _ _ => rfl)) (pv 2) (fun _ _ => rfl))))
        (pss_one (ps_if (pt_cmpR op_gt (pe_callB call_len_seq rfl ml PySem.boot_len (pa_cons (pe_ix ix_list (pv 0) pe_int (fun _ _ => rfl)) pa_nil)) pe_int (nomark _))
          (pss_one (ps_set (i := 3) nd rfl (Or.inl rfl) (pe_op op_mod (pe_ix ix_list (pe_ix ix_list (pv 0) pe_int (fun _ _ => rfl)) (pe_op op_mod (pe_op op_add (pe_op op_mulW (pv 2) pe_int) pe_int) (pe_callB call_len_seq rfl ml PySem.boot_len (pa_cons (pe_ix ix_list (pv 0) pe_int (fun _ _ => rfl)) pa_nil))) (fun _ _ => rfl)) (pe_op op_add (pe_op op_pow pe_int pe_int) (pv 2)))))
          pss_nil)))
      (lessS (t' := fun D σ H' => ∃ cell : Int, σ = [some (.ref p), some (.int m), some (.int a), some (.int cell), none] ∧ H' = H ∧ ∀ (y : Int) (H2 : Hp), Kq p H H2 → H2 p = some (.lst [.ref c, .int (a + 1 : Nat), .int y]) → D.nx [some (.ref p), some (.int m), some (.int a), some (.int cell), none] H2)
      (pss_cons (ps_asg (pe_op op_add (pv 2) pe_int) (pg_sub (pv 0) pe_int set_list))
      (pss_one (ps_asg (pe_v (E := E0) G hr rfl (pa_cons (pv 3) (pa_cons (pv 2) pa_nil))) (pg_sub (pv 0) pe_int set_list)))) fun D σ H' h => ?_)))) pss_nil)
    (lessS (t' := fun D σ H' => ∃ (y : Int) (a' : Nat) (e2 e3 e4 : Option V), σ = [some (.ref p), some (.int m), e2, e3, e4] ∧ H' p = some (.lst [.ref c, .int a', .int y]) ∧ ∀ z n : Int, 0 ≤ n → n < m → D.rt (.int n) (upd H' p (.lst [.ref c, .int a', .int z])))
      (pss_cons (ps_set (i := 4) nd rfl (Or.inl rfl) (pe_op op_mod (pe_ix ix_list (pv 0) pe_int (fun _ _ => rfl)) (pv 1)))
      (pss_cons (ps_asg (pe_op op_fdivW (pe_ix ix_list (pv 0) pe_int (fun _ _ => rfl)) (pv 1)) (pg_sub (pv 0) pe_int set_list))
      (pss_one (ps_ret (pv 4))))) fun D σ H' h => ?_), ?_⟩
  · obtain ⟨cell, rfl, rfl, h⟩ := h
    refine ⟨_, rfl, _, _, rfl, rfl, _, rfl, _, _, _, _, rfl, rfl, h1, rfl, ?_⟩
    refine ⟨_, rfl, _, rfl, _, _, rfl, by omega, by omega, fun y H2 sm => ?_⟩
    refine ⟨_, rfl, _, _, _, _, rfl, rfl, sm _ _ upd_same, rfl, h y _ ⟨fun b o e n => ?_, fun c2 a2 x2 e => ?_⟩ upd_same⟩
    · rw [upd_ne n]
      exact sm _ _ (by rw [upd_ne n]; exact e)
    · rw [h1] at e
      cases e
      exact ⟨_, _, upd_same⟩
  · obtain ⟨y, a', e2, e3, e4, rfl, hp, h⟩ := h
    refine ⟨_, rfl, _, _, _, _, rfl, rfl, SqL.of hp, rfl, _, rfl, _, _, rfl, rfl, by show (0 : Int) < m; omega, ?_⟩
    exact ⟨_, rfl, _, _, _, _, rfl, rfl, SqL.of hp, rfl, _, rfl, _, _, rfl, rfl, hmW _, _, rfl, _, _, _, _, rfl, rfl, hp, rfl, _, rfl, h _ _ (Int.emod_nonneg _ (by omega)) (Int.emod_lt_of_pos y (by omega))⟩
  have out : ∀ (H' : Hp) (y : Int) (a' : Nat) (e2 e3 e4 : Option V), Kq p H H' → H' p = some (.lst [.ref c, .int a', .int y]) → a' ≤ a + 1 → ∃ (y : Int) (a'' : Nat) (e2' e3' e4' : Option V), [some (V.ref p), some (.int m), e2, e3, e4] = [some (.ref p), some (.int m), e2', e3', e4'] ∧ H' p = some (.lst [.ref c, .int a'', .int y]) ∧
      ∀ z n : Int, 0 ≤ n → n < m → Q (.int n) (upd H' p (.lst [.ref c, .int a'', .int z])) := fun H' y a' e2 e3 e4 hk hp ha => ⟨y, a', e2, e3, e4, rfl, hp, fun z n hn hm => q n _ hn hm (fin H' y z a' hk hp ha).2 (fin H' y z a' hk hp ha).1⟩
  refine ⟨_, rfl, _, _, _, _, rfl, rfl, SqL.of h1, rfl, _, rfl, _, _, rfl, rfl, _, rfl, ite2 (fun _ => ?_) (fun _ => ?_)⟩
  · refine ⟨_, rfl, _, _, _, _, rfl, rfl, SqL.of h1, rfl, ?_⟩
    refine ⟨_, rfl, _, rfl, _, _, _, _, rfl, rfl, SqL.of h1, rfl, c, _, rfl, .inl (SqL.of h3), _, _, rfl, rfl, _, rfl, ?_⟩
    have go : ∀ (cell : Int) (H' : Hp), H' = H → ∃ c1 : Int, [some (V.ref p), some (.int m), some (.int a), some (.int cell), none] = [some (.ref p), some (.int m), some (.int a), some (.int c1), none] ∧ H' = H ∧ ∀ (y : Int) (H2 : Hp), Kq p H H2 → H2 p = some (.lst [.ref c, .int (a + 1 : Nat), .int y]) →
        ∃ (y : Int) (a'' : Nat) (e2' e3' e4' : Option V), [some (V.ref p), some (.int m), some (.int a), some (.int c1), none] = [some (.ref p), some (.int m), e2', e3', e4'] ∧ H2 p = some (.lst [.ref c, .int a'', .int y]) ∧ ∀ z n : Int, 0 ≤ n → n < m → Q (.int n) (upd H2 p (.lst [.ref c, .int a'', .int z])) := fun cell H' e => ⟨cell, rfl, e, fun y H2 k2 hp2 => out H2 y _ _ _ _ k2 hp2 (by omega)⟩
    have hl : (ns.map V.int).length = ns.length := List.length_map _
    refine ite2 (fun d => ?_) (fun d => ?_)
    · have d' : (a : Int) < ((ns.map V.int).length : Nat) := of_decide_eq_true d
      rw [hl] at d'
      obtain ⟨z, hz, _⟩ := atI_int ns (i := a) (by omega) d'
      exact ⟨_, rfl, _, _, _, _, rfl, rfl, SqL.of h1, rfl, _, rfl, _, _, _, _, rfl, rfl, SqL.of h3, hz, go _ _ rfl⟩
    · refine ⟨_, rfl, _, _, _, _, rfl, rfl, SqL.of h1, rfl, c, _, rfl, .inl (SqL.of h3), _, _, rfl, rfl, _, rfl, ite2 (fun d2 => ?_) (fun d2 => ?_)⟩
      · have d3 : ((ns.map V.int).length : Int) > 0 := of_decide_eq_true d2
        have d4 : (0 : Int) < (ns.map V.int).length := d3
        rw [hl] at d4
        have d5 : ((ns.map V.int).length : Int) = ns.length := by rw [hl]
        obtain ⟨z, hz, _⟩ := atI_int ns (i := (a * 5 + 3 : Int) % ((ns.map V.int).length : Nat)) (Int.emod_nonneg _ (by omega)) (by rw [← d5]; exact Int.emod_lt_of_pos _ (by omega))
        have e40 : (2 : Nat) ^ 40 = 1099511627776 := by decide
        have m5 : CMulW (a : Int) 5 := wide_mul (a := 40) (b := 4) (by omega) (by decide) (by decide) (by decide) (by decide)
        have e17 : (10 : Int) ^ Int.toNat 17 = 100000000000000000 := by decide
        have p17 : (0 : Int) < 10 ^ Int.toNat 17 + (a : Int) := by omega
        exact ⟨_, rfl, _, _, _, _, rfl, rfl, SqL.of h1, rfl, _, rfl, _, _, rfl, rfl, m5, _, _, rfl, rfl, _, rfl, _, _, _, _, rfl, rfl, SqL.of h1, rfl, c, _, rfl, .inl (SqL.of h3), _, _, rfl, rfl, by show (0 : Int) < ((ns.map V.int).length : Nat); omega,
          _, _, _, _, rfl, rfl, SqL.of h3, hz, _, _, rfl, rfl, ⟨by decide, by decide, by decide⟩, _, rfl, _, _, rfl, rfl, _, _, rfl, rfl, p17, go _ _ rfl⟩
      · exact go _ _ rfl
  · exact out H x a none none none (Kq.refl _ _) h1 (by omega)
end
end Lw
/-! Part Q: what the pen draws: numbers, sums, rows, entries, names. -/
namespace Lw
open PySem PySem.Spec L2 PyProof.Rows
def spNum : Sp := fun vs H Q _ => ∃ (p : Addr) (r : Nat), vs = [.ref p] ∧ Pen H p (r + 2) ∧ ∀ n H', -100000000000000000000 ≤ n → n ≤ 100000000000000000000 → Kq p H H' → Pen H' p r → Q (.int n) H'
theorem scNum : FnScope ["_law_pen", "_law_way"] ["_law_pen"] (defScope (top 42)) := ⟨rfl, rfl, rfl, by decide +kernel, rfl, by decide +kernel, by decide +kernel⟩
theorem scWgt : FnScope ["_law_pen", "_law_way", "_law_found"] ["_law_pen"] (defScope (top 43)) := ⟨rfl, rfl, rfl, by decide +kernel, rfl, by decide +kernel, by decide +kernel⟩
theorem scSum : FnScope ["_law_pen", "_law_many", "_law_most", "_law_some", "_law_found", "_law_turn"] ["_law_pen", "_law_many", "_law_most"] (defScope (top 44)) := ⟨rfl, rfl, rfl, by decide +kernel, rfl, by decide +kernel, by decide +kernel⟩
section
variable {P : Program} {w : World} {K : PySem.W.Frag} {mg : Str → Option Value} {base : Heap}
theorem ok_num (D : Df K mg "_law_s_number" 42) (G : Gv P w K mg base 2 "_law_take" ["_law_pen", "_law_many"] spTake) : Gv P w K mg base 3 "_law_s_number" ["_law_pen"] spNum := by
  refine okV D scNum (fun _ _ _ _ _ _ us hl => match us, hl with | [_], _ => rfl) (fun vs H Q E h => ?_) (fun f cdv A out s H vs Q E hr h => ?_)
  · obtain ⟨p, r, rfl, _⟩ := h
    rfl
  obtain ⟨p, r, rfl, hpen, q⟩ := h
  have nd := scNum.nd
  refine ⟨_, pss_cons (ps_set (i := 1) nd rfl (Or.inl rfl) (pe_v (E := E0) G hr rfl (pa_cons (pv 0) (pa_cons pe_int pa_nil))))
    (pss_cons (ps_if (pt_cmpR op_lt (pv 1) pe_int (nomark _)) (pss_one (ps_ret (pe_op op_sub (pe_v (E := E0) G hr rfl (pa_cons (pv 0) (pa_cons pe_int pa_nil))) pe_int))) pss_nil)
    (pss_one (ps_ret (pe_op op_sub (pe_v (E := E0) G hr rfl (pa_cons (pv 0) (pa_cons (pe_ix ix_list (pe_lst (pa_cons pe_int (pa_cons (pe_op op_add (pe_op op_mulW pe_int (pe_op op_pow pe_int pe_int)) pe_int) pa_nil))) (pe_op op_sub (pv 1) pe_int) (fun _ _ => rfl)) pa_nil)))
      (pe_ix ix_list (pe_lst (pa_cons pe_int (pa_cons (pe_op op_pow pe_int pe_int) pa_nil))) (pe_op op_sub (pv 1) pe_int) (fun _ _ => rfl)))))), ?_⟩
  refine ⟨_, rfl, p, 6, r + 1, rfl, by decide, by decide, hpen, fun way H1 w0 w1 k1 pen1 => ?_⟩
  refine ⟨_, rfl, _, _, rfl, rfl, _, rfl, ite2 (fun _ => ?_) (fun d => ?_)⟩
  · refine ⟨_, rfl, p, 9, r, rfl, by decide, by decide, pen1, fun n H2 n0 n1 k2 pen2 => ⟨_, _, rfl, rfl, q _ _ (by omega) (by omega) (k1.trans k2) pen2⟩⟩
  · have d' : ¬ way < 4 := of_decide_eq_false (Bool.eq_false_iff.mpr d)
    have e20 : (10 : Int) ^ Int.toNat 20 = 100000000000000000000 := by decide
    refine ⟨_, rfl, _, _, rfl, rfl, ⟨by decide, by decide, by decide⟩, _, _, rfl, rfl, wide_mul (a := 10) (b := 70) (by decide) (by rw [e20]; decide) (by decide) (by decide) (by decide), _, _, rfl, rfl, by show 2 ≤ sizeLine; decide, fun l hl => ?_⟩
    obtain ⟨m, hm, hmem⟩ := atI_int [2001, 2 * 10 ^ Int.toNat 20 + 1] (i := way - 4) (by omega) (by show way - 4 < (2 : Nat); omega)
    have hm2 : m = 2001 ∨ m = 200000000000000000001 := by simpa [e20] using hmem
    obtain ⟨z, hz, hzm⟩ := atI_int [1000, 10 ^ Int.toNat 20] (i := way - 4) (by omega) (by show way - 4 < (2 : Nat); omega)
    have hz2 : z = 1000 ∨ z = 100000000000000000000 := by simpa [e20] using hzm
    have hmz : 0 ≤ z ∧ z ≤ 100000000000000000000 ∧ m = 2 * z + 1 := by
      have : way = 4 ∨ way = 5 := by omega
      rcases this with rfl | rfl
      · have e1 : m = 2001 := by
          have : some (V.int 2001) = some (V.int m) := hm
          injection this with h; injection h with h; exact h.symm
        have e2 : z = 1000 := by
          have : some (V.int 1000) = some (V.int z) := hz
          injection this with h; injection h with h; exact h.symm
        omega
      · have e1 : m = 2 * 10 ^ Int.toNat 20 + 1 := by
          have : some (V.int (2 * 10 ^ Int.toNat 20 + 1)) = some (V.int m) := hm
          injection this with h; injection h with h; exact h.symm
        have e2 : z = 10 ^ Int.toNat 20 := by
          have : some (V.int (10 ^ Int.toNat 20)) = some (V.int z) := hz
          injection this with h; injection h with h; exact h.symm
        rw [e20] at e1 e2
        omega
    refine ⟨_, rfl, _, _, rfl, rfl, l, _, _, _, rfl, rfl, SqL.of upd_same, hm, p, m, r, rfl, by omega, by omega, pen1.same (same_upd hl), fun n H2 n0 n1 k2 pen2 => ?_⟩
    refine ⟨_, _, rfl, rfl, ⟨by decide, by decide, by decide⟩, by show 2 ≤ sizeLine; decide, fun l2 hl2 => ?_⟩
    refine ⟨_, rfl, _, _, rfl, rfl, l2, _, _, _, rfl, rfl, SqL.of upd_same, hz, _, _, rfl, rfl, q _ _ (by show -100000000000000000000 ≤ _; omega) (by show _ ≤ (100000000000000000000 : Int); omega) (((k1.new hl).trans k2).new hl2) (pen2.same (same_upd hl2))⟩
theorem ok_wgt (D : Df K mg "_law_s_weight" 43) (mi : mg "int" = none) (G : Gv P w K mg base 2 "_law_take" ["_law_pen", "_law_many"] spTake) : Gv P w K mg base 3 "_law_s_weight" ["_law_pen"] spNum := by
  refine okV D scWgt (fun _ _ _ _ _ _ us hl => match us, hl with | [_], _ => rfl) (fun vs H Q E h => ?_) (fun f cdv A out s H vs Q E hr h => ?_)
  · obtain ⟨p, r, rfl, _⟩ := h
    rfl
  obtain ⟨p, r, rfl, hpen, q⟩ := h
  have nd := scWgt.nd
  refine ⟨_, pss_cons (ps_set (i := 1) nd rfl (Or.inl rfl) (pe_v (E := E0) G hr rfl (pa_cons (pv 0) (pa_cons pe_int pa_nil))))
    (pss_cons (ps_if (pt_cmpR op_lt (pv 1) pe_int (nomark _)) (pss_one (ps_ret (pe_ix ix_list (pe_lst (pa_cons pe_int (pa_cons pe_int (pa_cons (pe_un un_neg pe_int) (pa_cons (pe_un un_neg pe_int) (pa_cons pe_int (pa_cons (pe_un un_neg pe_int) (pa_cons pe_int pa_nil)))))))) (pv 1) (fun _ _ => rfl)))) pss_nil)
    (pss_cons (ps_set (i := 2) nd rfl (Or.inl rfl) (pe_op op_sub (pe_v (E := E0) G hr rfl (pa_cons (pv 0) (pa_cons (pe_op op_mulW pe_int (pe_op op_pow pe_int pe_int)) pa_nil))) (pe_op op_pow pe_int pe_int)))
    (pss_one (ps_ret (pe_op op_add (pv 2) (pe_callTy call_int1 rfl mi boot_int (pa_cons (pe_cmpR op_ge (pv 2) pe_int (nomark _)) pa_nil))))))), ?_⟩
  refine ⟨_, rfl, p, 8, r + 1, rfl, by decide, by decide, hpen, fun way H1 w0 w1 k1 pen1 => ?_⟩
  refine ⟨_, rfl, _, _, rfl, rfl, _, rfl, ite2 (fun d => ?_) (fun d => ?_)⟩
  · have d' : way < 7 := of_decide_eq_true d
    obtain ⟨m, hm, hmem⟩ := atI_int [1, 1, -1, -1, 2, -3, 6] (i := way) (by omega) (by show way < (7 : Nat); omega)
    have hb : ∀ z ∈ ([1, 1, -1, -1, 2, -3, 6] : List Int), -100000000000000000000 ≤ z ∧ z ≤ 100000000000000000000 := by decide
    refine ⟨_, rfl, _, rfl, _, rfl, by show 7 ≤ sizeLine; decide, fun l hl => ⟨_, rfl, l, _, _, _, rfl, rfl, SqL.of upd_same, hm, q _ _ (hb _ hmem).1 (hb _ hmem).2 (k1.new hl) ((pen1.same (same_upd hl)).le (by omega))⟩⟩
  · have e20 : (10 : Int) ^ Int.toNat 20 = 100000000000000000000 := by decide
    refine ⟨_, rfl, _, _, rfl, rfl, ⟨by decide, by decide, by decide⟩, _, _, rfl, rfl, wide_mul (a := 10) (b := 70) (by decide) (by rw [e20]; decide) (by decide) (by decide) (by decide), p, _, r, rfl, by rw [e20]; decide, by rw [e20]; decide, pen1, fun n H2 n0 n1 k2 pen2 => ?_⟩
    rw [e20] at n1
    refine ⟨_, _, rfl, rfl, ⟨by decide, by decide, by decide⟩, _, _, rfl, rfl, ?_⟩
    refine ⟨_, rfl, _, rfl, _, _, rfl, rfl, .inr ⟨_, rfl, _, _, rfl, rfl, ?_⟩⟩
    rw [e20]
    have hif : ∀ b : Bool, (b = true → 0 ≤ n - 100000000000000000000) → (-100000000000000000000 ≤ n - 100000000000000000000 + (if b = true then 1 else 0) ∧ n - 100000000000000000000 + (if b = true then 1 else 0) ≤ 100000000000000000000) := fun b hb => by
      cases b
      · rw [if_neg (by decide)]
        show -100000000000000000000 ≤ _ ∧ _ ≤ (100000000000000000000 : Int)
        omega
      · rw [if_pos rfl]
        show -100000000000000000000 ≤ _ ∧ _ ≤ (100000000000000000000 : Int)
        have := hb rfl
        omega
    have hif := hif (decide (n - 100000000000000000000 ≥ 0)) (fun z => of_decide_eq_true z)
    exact q _ _ hif.1 hif.2 (k1.trans k2) pen2
end
theorem seqI {n : Nat} {i : Int} (h0 : 0 ≤ i) (h1 : i < n) : seqIndex? i n = some i.toNat := by
  have e : ixN n i = some i.toNat := by
    unfold ixN
    rw [if_pos h0, if_pos h1]
  exact (ixN_seq e).1
theorem map_erase {α β : Type} (f : α → β) : ∀ (xs : List α) (k : Nat), (xs.map f).eraseIdx k = (xs.eraseIdx k).map f
  | [], _ => rfl
  | _ :: _, 0 => rfl
  | x :: xs, k + 1 => congrArg (f x :: ·) (map_erase f xs k)
def iota (m : Nat) : List Int := (List.range m).map Int.ofNat
theorem iota_in {m : Nat} : ∀ x ∈ iota m, 0 ≤ x ∧ x < m := fun x hx => by
  obtain ⟨j, hj, rfl⟩ := List.mem_map.mp hx
  have := List.mem_range.mp hj
  show 0 ≤ (j : Int) ∧ (j : Int) < m
  omega
theorem iota_len (m : Nat) : (iota m).length = m := by simp [iota]
theorem rg_iota (m : Nat) : rgV 0 m = (iota m).map V.int := by
  unfold rgV iota
  rw [List.map_map]
  refine List.map_congr_left fun i _ => ?_
  show V.int (0 + (i : Int)) = V.int (i : Int)
  rw [Int.zero_add]
/-- what a drawn sum may be: things among the first m, at most o of them -/
def SmOk (m o : Nat) (ps : List (Nat × Int)) (n : Int) : Prop := ps.length ≤ o ∧ (∀ q ∈ ps, q.1 < m ∧ -100000000000000000000 ≤ q.2 ∧ q.2 ≤ 100000000000000000000) ∧ -100000000000000000000 ≤ n ∧ n ≤ 100000000000000000000
def spSum : Sp := fun vs H Q _ => ∃ (p : Addr) (m o r : Nat), vs = [.ref p, .int m, .int o] ∧ m ≤ 1000 ∧ o ≤ 1000 ∧ Pen H p (r + 3 * o + 3) ∧ ∀ v ps n H', ThR p H' v (.sum ps n) → SmOk m o ps n → Kq p H H' → Pen H' p r → Q v H'
section
variable {P : Program} {w : World} {K : PySem.W.Frag} {mg : Str → Option Value} {base : Heap}
theorem ok_sum (D : Df K mg "_law_s_sum" 44) (ml : mg "len" = none) (mr : mg "range" = none) (mli : mg "list" = none) (mm : mg "min" = none) (G : Gv P w K mg base 2 "_law_take" ["_law_pen", "_law_many"] spTake) (GN : Gv P w K mg base 3 "_law_s_number" ["_law_pen"] spNum) (GW : Gv P w K mg base 3 "_law_s_weight" ["_law_pen"] spNum) :
    Gv P w K mg base 4 "_law_s_sum" ["_law_pen", "_law_many", "_law_most"] spSum := by
  refine okV D scSum (fun _ _ _ _ _ _ us hl => match us, hl with | [_, _, _], _ => rfl) (fun vs H Q E h => ?_) (fun f cdv A out s H vs Q E hr h => ?_)
  · obtain ⟨p, m, o, r, rfl, _⟩ := h
    rfl
  obtain ⟨p, m, o, r, rfl, hm, ho, hpen, q⟩ := h
  have nd := scSum.nd
  have hr2 := hr.mono (show 2 ≤ 3 by decide)
  refine ⟨_, pss_cons (ps_set (i := 3) nd rfl (Or.inl rfl) (pe_listRg rfl rfl mli (prg_1 rfl mr (pv 1))))
    (pss_cons (ps_set (i := 4) nd rfl (Or.inl rfl) (pe_lst pa_nil))
    (pss_cons (ps_for PassesOwn.never rfl (pi_range1 rfl mr (pa_cons (pe_callB (call_min2 rfl) rfl mm (by decide +kernel) (pa_cons (pv 1) (pa_cons (pe_v (E := E0) G hr2 rfl (pa_cons (pv 0) (pa_cons (pe_op op_add (pv 2) pe_int) pa_nil))) pa_nil))) pa_nil)) (pg_name (i := 5) nd rfl (Or.inl rfl))
      (pss_one (ps_expr (pe_bm PySem.F.plainAttrs_list PySem.F.slot_list_append PySem.F.type_list_append mt_append (pv 4) (pa_cons (pe_tup (pa_cons (pe_bm PySem.F.plainAttrs_list PySem.F.slot_list_pop PySem.F.type_list_pop mt_popAt (pv 3) (pa_cons (pe_v (E := E0) G hr2 rfl (pa_cons (pv 0) (pa_cons (pe_callB call_len_seq rfl ml PySem.boot_len (pa_cons (pv 3) pa_nil)) pa_nil))) pa_nil)) (pa_cons (pe_v (E := E0) GW hr rfl (pa_cons (pv 0) pa_nil)) pa_nil))) pa_nil)))))
    (pss_one (ps_ret (pe_tup (pa_cons pe_str (pa_cons (pv 4) (pa_cons (pe_v (E := E0) GN hr rfl (pa_cons (pv 0) pa_nil)) pa_nil)))))))), ?_⟩
  refine ⟨_, rfl, _, rfl, RgOk.of_le (by decide) (by omega) (by decide) (by omega), fun l1 n1 => ?_⟩
  refine ⟨by decide, fun l2 n2 => ?_⟩
  have nl2 : H l2 = none := by
    by_cases e : l2 = l1
    · rw [e]; exact n1
    · rw [upd_ne e] at n2; exact n2
  have d21 : l2 ≠ l1 := fun z => by
    rw [z, upd_same] at n2
    cases n2
  have k2 : Kq p H (upd (upd H l1 (.lst (rgV 0 m))) l2 (.lst [])) := ((Kq.refl p H).new n1).new n2
  have pen2 : Pen (upd (upd H l1 (.lst (rgV 0 m))) l2 (.lst [])) p (r + 3 * o + 3) := (hpen.same (same_upd n1)).same (same_upd n2)
  have p1 : l1 ≠ p := hpen.ne n1
  have p2 : l2 ≠ p := hpen.ne nl2
  refine ⟨_, rfl, _, rfl, _, rfl, _, _, rfl, rfl, p, _, r + 3 * o + 2, rfl, by omega, by omega, pen2, fun t H1 t0 t1 k1 pen1 => ⟨_, _, rfl, ?_⟩⟩
  -- the number of turns
  obtain ⟨n, hn, hnm, hno⟩ : ∃ n : Nat, (if t < (m : Int) then t else (m : Int)) = (n : Int) ∧ n ≤ m ∧ n ≤ o := by
    by_cases e : t < (m : Int)
    · rw [if_pos e]
      exact ⟨t.toNat, by omega, by omega, by omega⟩
    · rw [if_neg e]
      exact ⟨m, rfl, by omega, by omega⟩
  refine ⟨_, rfl, by rw [hn]; omega, by rw [hn]; omega, ?_⟩
  rw [hn, show ((n : Int)).toNat = n from rfl]
  refine for_range (lo := 0) (n := n) (fun i σ H' => ∃ (e5 : Option V) (ps : List (Nat × Int)) (xs : List Int) (vs : List V), σ = [some (.ref p), some (.int m), some (.int o), some (.ref l1), some (.ref l2), e5] ∧ H' l1 = some (.lst (xs.map .int)) ∧ xs.length + i = m ∧ (∀ x ∈ xs, 0 ≤ x ∧ x < m) ∧
    H' l2 = some (.lst vs) ∧ DRs H' vs (ps.map pairD) ∧ ps.length = i ∧ (∀ q ∈ ps, q.1 < m ∧ -100000000000000000000 ≤ q.2 ∧ q.2 ≤ 100000000000000000000) ∧ Kq p H H' ∧ Pen H' p (r + 2 + 3 * (o - i))) ?_ (fun i σ H' hi h => ?_) (fun σ H' h => ?_)
  · refine ⟨none, [], iota m, [], rfl, ?_, by rw [iota_len]; rfl, iota_in, ?_, .nil, rfl, by simp, k2.trans k1, pen1.le (by omega)⟩
    · rw [← rg_iota]
      exact k1.st _ _ (by rw [upd_ne (Ne.symm d21), upd_same]) p1
    · exact k1.st _ _ upd_same p2
  · obtain ⟨e5, ps, xs, vs, rfl, h1, hx, hxs, h2, hd, hps, hok, hk, hpn⟩ := h
    have hl : (xs.map V.int).length = xs.length := List.length_map _
    refine ⟨_, rfl, .inl ⟨rfl, _, SqL.of h2⟩, ?_⟩
    refine ⟨_, rfl, .inl ⟨rfl, _, SqL.of h1⟩, ?_⟩
    refine ⟨_, rfl, _, rfl, l1, _, rfl, .inl (SqL.of h1), p, _, r + 2 + 3 * (o - (i + 1)) + 2, rfl, by rw [hl]; omega, by rw [hl]; omega, hpn.le (by omega), fun j H2 j0 j1 kk2 pn2 => ?_⟩
    rw [hl] at j1
    have jx : j.toNat < xs.length := by omega
    refine ⟨l1, _, j, j.toNat, .int xs[j.toNat], rfl, rfl, kk2.st _ _ h1 p1, by omega, by omega, by rw [hl]; exact seqI j0 j1, by rw [List.getElem?_map, List.getElem?_eq_getElem jx]; rfl, ?_⟩
    have pn3 := (hk.trans kk2).pen (a := l1) (o := .lst ((xs.map V.int).eraseIdx j.toNat)) hpen pn2 n1
    have t2 : KT H' H2 := kk2.kt hpn
    have t3 : KT H2 (upd H2 l1 (.lst ((xs.map V.int).eraseIdx j.toNat))) := KT.set (kk2.st _ _ h1 p1) fun ys z => by cases z
    have jr := hxs _ (List.getElem_mem jx)
    refine ⟨_, rfl, p, _, rfl, pn3, fun u H3 u0 u1 kk3 pn4 => ⟨by show 2 ≤ sizeLine; decide, fun a na => ?_⟩⟩
    have h2' : upd H3 a (.tup [.int xs[j.toNat], .int u]) l2 = some (.lst vs) := same_upd na _ _ (kk3.st _ _ (by rw [upd_ne d21]; exact kk2.st _ _ h2 p2) p2)
    have hlen : vs.length = i := by rw [hd.length, List.length_map]; exact hps
    refine ⟨l2, vs, _, rfl, rfl, h2', small1000 (by omega), ?_⟩
    have k5 : Kq p H (upd H3 a (.tup [.int xs[j.toNat], .int u])) := ((((hk.trans kk2).set n1).trans kk3).new na)
    have t4 := kk3.kt pn3
    have t5 : KT H3 (upd H3 a (.tup [.int xs[j.toNat], .int u])) := KT.new na
    have t6 : KT (upd H3 a (.tup [.int xs[j.toNat], .int u])) (upd (upd H3 a (.tup [.int xs[j.toNat], .int u])) l2 (.lst (vs ++ [.ref a]))) := KT.set h2' fun ys z => by cases z
    refine ⟨_, ps ++ [((xs[j.toNat]).toNat, u)], xs.eraseIdx j.toNat, vs ++ [.ref a], rfl, ?_, ?_, fun x hx => hxs x (List.mem_of_mem_eraseIdx hx), upd_same, ?_, by rw [List.length_append, hps]; rfl, fun q hq => ?_, k5.set nl2, k5.pen hpen ((pn4.same (same_upd na)).le (by omega)) nl2⟩
    · rw [upd_ne (Ne.symm d21)]
      refine same_upd na _ _ (kk3.st _ _ ?_ p1)
      rw [upd_same, map_erase]
    · rw [List.length_eraseIdx_of_lt jx]
      omega
    · rw [List.map_append]
      refine (hd.kt (t2.trans (t3.trans (t4.trans (t5.trans t6))))).append (.cons (.tup (t6 _ _ upd_same) (.cons ?_ (.cons (.int _) .nil))) .nil)
      have : ((xs[j.toNat].toNat : Nat) : Int) = xs[j.toNat] := by omega
      show DR _ _ (.int ((xs[j.toNat].toNat : Nat) : Int))
      rw [this]
      exact .int _
    · rcases List.mem_append.mp hq with hq | hq
      · exact hok q hq
      · rcases List.mem_singleton.mp hq with rfl
        exact ⟨by show xs[j.toNat].toNat < m; omega, u0, u1⟩
  · obtain ⟨e5, ps, xs, vs, rfl, h1, hx, hxs, h2, hd, hps, hok, hk, hpn⟩ := h
    refine ⟨_, rfl, _, rfl, p, r, rfl, hpn.le (by omega), fun z H3 z0 z1 kk3 pn3 => ⟨by show 3 ≤ sizeLine; decide, fun a na => ?_⟩⟩
    refine q _ ps z _ ⟨a, l2, vs, rfl, upd_same, p2, ?_, ?_⟩ ⟨by omega, hok, z0, z1⟩ ((hk.trans kk3).new na) (pn3.same (same_upd na))
    · exact same_upd na _ _ (kk3.st _ _ h2 p2)
    · exact (hd.kt (kk3.kt hpn)).kt (KT.new na)
end
end Lw
/-! Part S: rows and entries that the pen draws. -/
namespace Lw
open PySem PySem.Spec L2 PyProof.Rows
def SumOk (m o : Nat) : Th → Prop
  | .sum ps n => SmOk m o ps n
  | _ => False
/-- a row's thing that stands on a given row, its with's at most so deep -/
def RwC (rs : List Key) (m : Nat) : Nat → Th → Prop
  | _, .row l => l ∈ rs
  | d + 1, .wth r s t => RwC rs m d r ∧ SumOk m 2 s ∧ SumOk m 2 t
  | _, _ => False
/-- such a thing, or a room -/
def RwOk (rs : List Key) (m : Nat) (d : Nat) : Th → Prop
  | .room s => SumOk m 2 s
  | th => RwC rs m d th
def EnOk (ns rs : List Key) (m : Nat) : Th → Prop
  | .nam l => l ∈ ns
  | .read r s => RwOk rs m 2 r ∧ SumOk m 2 s
  | .size r => RwOk rs m 2 r
  | .div s k => SumOk m 2 s ∧ 1 ≤ k ∧ k ≤ 1000000000
  | .mod s k => SumOk m 2 s ∧ 1 ≤ k ∧ k ≤ 1000000000
  | _ => False
def spRow (rs : List Key) : Sp := fun vs H Q _ => ∃ (p L : Addr) (m r : Nat), vs = [.ref p, .int m, .ref L] ∧ m ≤ 1000 ∧ L ≠ p ∧ H L = some (.lst (rs.map kV)) ∧ rs ≠ [] ∧ rs.length ≤ 10 ∧ Pen H p (r + 30) ∧ ∀ v th H', ThR p H' v th → RwOk rs m 2 th → Kq p H H' → Pen H' p r → Q v H'
def spEntry (ns rs : List Key) : Sp := fun vs H Q _ => ∃ (p L : Addr) (m r : Nat), vs = [.ref p, .int m, .ref L, .int 6] ∧ m ≤ 1000 ∧ L ≠ p ∧ H L = some (.lst (rs.map kV)) ∧ rs ≠ [] ∧ rs.length ≤ 10 ∧ Pen H p (r + 50) ∧ ∀ v th H', ThR p H' v th → EnOk ns rs m th → Kq p H H' → Pen H' p r → Q v H'
theorem scRow : FnScope ["_law_pen", "_law_many", "_law_rows", "_law_way", "_law_row", "_law_place"] ["_law_pen", "_law_many", "_law_rows"] (defScope (top 45)) := ⟨rfl, rfl, rfl, by decide +kernel, rfl, by decide +kernel, by decide +kernel⟩
theorem scEntry : FnScope ["_law_pen", "_law_many", "_law_rows", "_law_most", "_law_way", "_law_row", "_law_one", "_law_places"] ["_law_pen", "_law_many", "_law_rows", "_law_most"] (defScope (top 46)) := ⟨rfl, rfl, rfl, by decide +kernel, rfl, by decide +kernel, by decide +kernel⟩
theorem atI_key {rs : List Key} {i : Int} (h0 : 0 ≤ i) (h1 : i < (rs.map kV).length) : ∃ l, atI (rs.map kV) i = some (kV l) ∧ l ∈ rs := by
  obtain ⟨v, e, hm, _⟩ := atI_of h0 h1
  obtain ⟨l, hl, rfl⟩ := List.mem_map.mp hm
  exact ⟨l, e, hl⟩
section
variable {P : Program} {w : World} {K : PySem.W.Frag} {mg : Str → Option Value} {base : Heap}
theorem ok_row (D : Df K mg "_law_s_row" 45) (ml : mg "len" = none) (G : Gv P w K mg base 2 "_law_take" ["_law_pen", "_law_many"] spTake) (GN : Gv P w K mg base 3 "_law_s_number" ["_law_pen"] spNum) (GS : Gv P w K mg base 4 "_law_s_sum" ["_law_pen", "_law_many", "_law_most"] spSum) (rs : List Key) :
    Gv P w K mg base 5 "_law_s_row" ["_law_pen", "_law_many", "_law_rows"] (spRow rs) := by
  refine okV D scRow (fun _ _ _ _ _ _ us hl => match us, hl with | [_, _, _], _ => rfl) (fun vs H Q E h => ?_) (fun f cdv A out s H vs Q E hr h => ?_)
  · obtain ⟨p, L, m, r, rfl, _⟩ := h
    rfl
  obtain ⟨p, L, m, r, rfl, hm, hL, hl, hne, h10, hpen, q⟩ := h
  have nd := scRow.nd
  have hr2 := hr.mono (show 2 ≤ 4 by decide)
  have hr3 := hr.mono (show 3 ≤ 4 by decide)
  have hlen : (rs.map kV).length = rs.length := List.length_map _
  have hpos : 0 < rs.length := List.length_pos_iff.mpr hne
  refine ⟨_, pss_cons (ps_set (i := 3) nd rfl (Or.inl rfl) (pe_v (E := E0) G hr2 rfl (pa_cons (pv 0) (pa_cons pe_int pa_nil))))
    (pss_cons (ps_if (pt_cmpR op_eq (pv 3) pe_int (nomark _)) (pss_one (ps_ret (pe_tup (pa_cons pe_str (pa_cons (pe_v (E := E0) GS hr rfl (pa_cons (pv 0) (pa_cons (pv 1) (pa_cons pe_int pa_nil)))) pa_nil))))) pss_nil)
    (pss_cons (ps_set (i := 4) nd rfl (Or.inl rfl) (pe_tup (pa_cons pe_str (pa_cons (pe_ix ix_list (pv 2) (pe_v (E := E0) G hr2 rfl (pa_cons (pv 0) (pa_cons (pe_callB call_len_seq rfl ml PySem.boot_len (pa_cons (pv 2) pa_nil)) pa_nil))) (fun _ _ => rfl)) pa_nil))))
    (pss_cons (ps_if (pt_cmpR op_lt (pv 3) pe_int (nomark _)) (pss_one (ps_ret (pv 4))) pss_nil)
    (pss_cons (ps_if (pt_cmpR op_eq (pe_v (E := E0) G hr2 rfl (pa_cons (pv 0) (pa_cons pe_int pa_nil))) pe_int (nomark _))
      (pss_one (ps_set (i := 4) nd rfl (Or.inl rfl) (pe_tup (pa_cons pe_str (pa_cons (pv 4) (pa_cons (pe_tup (pa_cons pe_str (pa_cons (pe_lst pa_nil) (pa_cons (pe_v (E := E0) G hr2 rfl (pa_cons (pv 0) (pa_cons pe_int pa_nil))) pa_nil)))) (pa_cons (pe_tup (pa_cons pe_str (pa_cons (pe_lst pa_nil) (pa_cons (pe_v (E := E0) GN hr3 rfl (pa_cons (pv 0) pa_nil)) pa_nil)))) pa_nil))))))) pss_nil)
    (lessS (t' := fun D σ H' => ∃ (e3 : Option V) (v : V) (th : Th), σ = [some (.ref p), some (.int m), some (.ref L), e3, some v, none] ∧ ThR p H' v th ∧ RwC rs m 1 th ∧ Kq p H H' ∧ Pen H' p (r + 18) ∧ D.rt = Q)
      (pss_cons (ps_set (i := 5) nd rfl (Or.inl rfl) (pe_v (E := E0) GS hr rfl (pa_cons (pv 0) (pa_cons (pv 1) (pa_cons pe_int pa_nil)))))
      (pss_one (ps_ret (pe_tup (pa_cons pe_str (pa_cons (pv 4) (pa_cons (pv 5) (pa_cons (pe_v (E := E0) GS hr rfl (pa_cons (pv 0) (pa_cons (pv 1) (pa_cons pe_int pa_nil)))) pa_nil)))))))) fun D σ H' h => ?_))))), ?_⟩
  · obtain ⟨e3, v, th, rfl, hth, hok, hk, pn, hQ⟩ := h
    refine ⟨_, rfl, _, rfl, p, m, 2, r + 9, rfl, hm, by decide, pn.le (by omega), fun vp pps pn_ H2 hp hpo k2 pen2 => ?_⟩
    refine ⟨_, rfl, _, rfl, _, rfl, _, rfl, p, m, 2, r, rfl, hm, by decide, pen2.le (by omega), fun vq qps qn H3 hq hqo k3 pen3 => ⟨by show 4 ≤ sizeLine; decide, fun a na => ?_⟩⟩
    rw [hQ]
    have s3 := same_upd (o := .tup [.str "with", v, vp, vq]) na
    refine q (.ref a) (.wth th (.sum pps pn_) (.sum qps qn)) _ ⟨a, v, vp, vq, rfl, upd_same, ?_, ?_, ?_⟩ ⟨hok, hpo, hqo⟩ (((hk.trans k2).trans k3).new na) (pen3.same s3)
    · exact (((hth.keep (k2.kl pn)).keep (k3.kl pen2)).keep (.of s3))
    · exact ((hp.keep (k3.kl pen2)).keep (.of s3))
    · exact hq.keep (.of s3)
  refine ⟨_, rfl, p, 5, r + 29, rfl, by decide, by decide, hpen, fun way H1 w0 w1 k1 pen1 => ?_⟩
  refine ⟨_, rfl, rfl, _, rfl, ite2 (fun _ => ?_) (fun _ => ?_)⟩
  · refine ⟨_, rfl, _, rfl, p, m, 2, r, rfl, hm, by decide, pen1.le (by omega), fun vp pps pn_ H2 hp hpo k2 pen2 => ⟨by show 2 ≤ sizeLine; decide, fun a na => ?_⟩⟩
    have s3 := same_upd (o := .tup [.str "room", vp]) na
    exact q (.ref a) (.room (.sum pps pn_)) _ ⟨a, vp, rfl, upd_same, ThR.keep (.of s3) _ _ hp⟩ hpo ((k1.trans k2).new na) (pen2.same s3)
  refine ⟨_, rfl, _, rfl, _, rfl, L, _, rfl, .inl (SqL.of (k1.st _ _ hl hL)), p, _, r + 28, rfl, by rw [hlen]; omega, by rw [hlen]; omega, pen1, fun i H2 i0 i1 k2 pen2 => ?_⟩
  obtain ⟨l, hil, hlr⟩ := atI_key i0 i1
  refine ⟨L, _, _, _, rfl, rfl, SqL.of (k2.st _ _ (k1.st _ _ hl hL) hL), hil, by show 2 ≤ sizeLine; decide, fun a na => ?_⟩
  have s3 := same_upd (o := .tup [.str "row", kV l]) na
  have hrow : ThR p (upd H2 a (.tup [.str "row", kV l])) (.ref a) (.row l) := .tup upd_same (.cons (.str _) (.cons (.ofKey l) .nil))
  have k3 : Kq p H (upd H2 a (.tup [.str "row", kV l])) := (k1.trans k2).new na
  have pen3 := pen2.same s3
  refine ⟨_, rfl, _, _, rfl, rfl, _, rfl, ite2 (fun _ => ?_) (fun _ => ?_)⟩
  · exact ⟨_, rfl, q _ (.row l) _ hrow hlr k3 (pen3.le (by omega))⟩
  refine ⟨_, rfl, p, 3, r + 27, rfl, by decide, by decide, pen3, fun b H4 b0 b1 k4 pen4 => ?_⟩
  refine ⟨rfl, _, rfl, ite2 (fun _ => ?_) (fun _ => ?_)⟩
  · refine ⟨_, rfl, by decide, fun l1 n1 => ?_⟩
    refine ⟨_, rfl, p, 5, r + 26, rfl, by decide, by decide, pen4.same (same_upd n1), fun c5 H5 c0 c1 k5 pen5 => ⟨by show 3 ≤ sizeLine; decide, fun a1 m1 => ?_⟩⟩
    have pen5' := pen5.same (same_upd (o := .tup [.str "sum", .ref l1, .int c5]) m1)
    refine ⟨by decide, fun l2 n2 => ?_⟩
    refine ⟨_, rfl, p, r + 24, rfl, pen5'.same (same_upd n2), fun d5 H6 d0 d1 k6 pen6 => ⟨by show 3 ≤ sizeLine; decide, fun a2 m2 => ⟨by show 4 ≤ sizeLine; decide, fun a3 m3 => ?_⟩⟩⟩
    have q1 : l1 ≠ p := pen4.ne n1
    have q2 : l2 ≠ p := pen5'.ne n2
    have z1 := same_upd (o := .lst []) n1
    have z2 := same_upd (o := .tup [.str "sum", .ref l1, .int c5]) m1
    have z3 := same_upd (o := .lst []) n2
    have z4 := same_upd (o := .tup [.str "sum", .ref l2, .int d5]) m2
    have z5 := same_upd (o := .tup [.str "with", .ref a, .ref a1, .ref a2]) m3
    have hs1 : ThR p (upd H5 a1 (.tup [.str "sum", .ref l1, .int c5])) (.ref a1) (.sum [] c5) := ⟨a1, l1, [], rfl, upd_same, q1, z2 _ _ (k5.st _ _ upd_same q1), .nil⟩
    have hs2 : ThR p (upd H6 a2 (.tup [.str "sum", .ref l2, .int d5])) (.ref a2) (.sum [] d5) := ⟨a2, l2, [], rfl, upd_same, q2, z4 _ _ (k6.st _ _ upd_same q2), .nil⟩
    have f3 : Kq p (upd H6 a2 (.tup [.str "sum", .ref l2, .int d5])) (upd (upd H6 a2 (.tup [.str "sum", .ref l2, .int d5])) a3 (.tup [.str "with", .ref a, .ref a1, .ref a2])) := .of z5
    have f2 := (((Kq.of (p := p) z3).trans k6).new m2).trans f3
    have f1 := (((k4.new n1).trans k5).new m1).trans f2
    have hf := (pen6.same z4).same z5
    exact ⟨_, .ref a3, .wth (.row l) (.sum [] c5) (.sum [] d5), rfl, ⟨a3, .ref a, .ref a1, .ref a2, rfl, upd_same, hrow.kt (f1.kt pen3), hs1.keep (f2.kl pen5'), hs2.keep (.of z5)⟩, ⟨hlr, ⟨by decide, by simp, by omega, by omega⟩, ⟨by decide, by simp, by omega, by omega⟩⟩, k3.trans f1, hf.le (by omega), rfl⟩
  · exact ⟨_, _, .row l, rfl, hrow.kt (k4.kt pen3), hlr, k3.trans k4, pen4.le (by omega), rfl⟩
theorem ok_entry (D : Df K mg "_law_s_entry" 46) (G : Gv P w K mg base 2 "_law_take" ["_law_pen", "_law_many"] spTake) (GS : Gv P w K mg base 4 "_law_s_sum" ["_law_pen", "_law_many", "_law_most"] spSum) (ns rs : List Key) (GR : Gv P w K mg base 5 "_law_s_row" ["_law_pen", "_law_many", "_law_rows"] (spRow rs)) :
    Gv P w K mg base 6 "_law_s_entry" ["_law_pen", "_law_many", "_law_rows", "_law_most"] (spEntry ns rs) := by
  refine okV D scEntry (fun _ _ _ _ _ _ us hl => match us, hl with | [_, _, _, _], _ => rfl) (fun vs H Q E h => ?_) (fun f cdv A out s H vs Q E hr h => ?_)
  · obtain ⟨p, L, m, r, rfl, _⟩ := h
    rfl
  obtain ⟨p, L, m, r, rfl, hm, hL, hl, hne, h10, hpen, q⟩ := h
  have nd := scEntry.nd
  have hr2 := hr.mono (show 2 ≤ 5 by decide)
  have hr4 := hr.mono (show 4 ≤ 5 by decide)
  refine ⟨_, pss_cons (ps_set (i := 4) nd rfl (Or.inl rfl) (pe_v (E := E0) G hr2 rfl (pa_cons (pv 0) (pa_cons (pv 3) pa_nil))))
    (pss_cons (ps_if (pt_cmpR op_eq (pv 4) pe_int (nomark _)) (pss_one (ps_ret (pe_tup (pa_cons pe_str (pa_cons (pe_v (E := E0) GR hr rfl (pa_cons (pv 0) (pa_cons (pv 1) (pa_cons (pv 2) pa_nil)))) pa_nil))))) pss_nil)
    (pss_cons (ps_if (pt_cmpR op_lt (pv 4) pe_int (nomark _))
      (pss_cons (ps_set (i := 5) nd rfl (Or.inl rfl) (pe_v (E := E0) GR hr rfl (pa_cons (pv 0) (pa_cons (pv 1) (pa_cons (pv 2) pa_nil)))))
      (pss_one (ps_ret (pe_tup (pa_cons pe_str (pa_cons (pv 5) (pa_cons (pe_v (E := E0) GS hr4 rfl (pa_cons (pv 0) (pa_cons (pv 1) (pa_cons pe_int pa_nil)))) pa_nil))))))) pss_nil)
    (pss_cons (ps_if (pt_cmpR op_lt (pv 4) pe_int (nomark _))
      (pss_cons (ps_set (i := 6) nd rfl (Or.inl rfl) (pe_v (E := E0) GS hr4 rfl (pa_cons (pv 0) (pa_cons (pv 1) (pa_cons pe_int pa_nil)))))
      (pss_one (ps_ret (pe_tup (pa_cons (pe_ix ix_list (pe_lst (pa_cons pe_str (pa_cons pe_str pa_nil))) (pe_op op_sub (pv 4) pe_int) (fun _ _ => rfl)) (pa_cons (pv 6)
        (pa_cons (pe_ix ix_list (pe_lst (pa_cons pe_int (pa_cons pe_int (pa_cons pe_int (pa_cons pe_int (pa_cons (pe_op op_pow pe_int pe_int) pa_nil)))))) (pe_v (E := E0) G hr2 rfl (pa_cons (pv 0) (pa_cons pe_int pa_nil))) (fun _ _ => rfl)) pa_nil))))))) pss_nil)
    pss_never))), ?_⟩
  refine ⟨_, rfl, _, rfl, p, 6, r + 49, rfl, by decide, by decide, hpen, fun way H1 w0 w1 k1 pen1 => ?_⟩
  have hl1 := k1.st _ _ hl hL
  refine ⟨_, rfl, rfl, _, rfl, ite2 (fun _ => ?_) (fun _ => ?_)⟩
  · refine ⟨_, rfl, _, rfl, _, rfl, p, L, m, r, rfl, hm, hL, hl1, hne, h10, pen1.le (by omega), fun v th H2 hth hok k2 pen2 => ⟨by show 2 ≤ sizeLine; decide, fun a na => ?_⟩⟩
    have s3 := same_upd (o := .tup [.str "size", v]) na
    exact q (.ref a) (.size th) _ ⟨a, v, rfl, upd_same, hth.keep (.of s3)⟩ hok ((k1.trans k2).new na) (pen2.same s3)
  refine ⟨_, rfl, _, _, rfl, rfl, _, rfl, ite2 (fun _ => ?_) (fun d4 => ?_)⟩
  · refine ⟨_, rfl, _, rfl, _, rfl, p, L, m, r + 9, rfl, hm, hL, hl1, hne, h10, pen1.le (by omega), fun v th H2 hth hok k2 pen2 => ?_⟩
    refine ⟨_, rfl, _, rfl, _, rfl, p, m, 2, r, rfl, hm, by decide, pen2.le (by omega), fun vp pps pn_ H3 hp hpo k3 pen3 => ⟨by show 3 ≤ sizeLine; decide, fun a na => ?_⟩⟩
    have s3 := same_upd (o := .tup [.str "read", v, vp]) na
    exact q (.ref a) (.read th (.sum pps pn_)) _ ⟨a, v, vp, rfl, upd_same, (hth.keep (k3.kl pen2)).keep (.of s3), ThR.keep (.of s3) _ _ hp⟩ ⟨hok, hpo⟩ (((k1.trans k2).trans k3).new na) (pen3.same s3)
  have d4' : ¬ way < 4 := of_decide_eq_false (Bool.eq_false_iff.mpr d4)
  refine ⟨_, rfl, _, _, rfl, rfl, _, rfl, ite2 (fun _ => ?_) (fun d6 => ?_)⟩
  · refine ⟨_, rfl, _, rfl, p, m, 2, r + 1, rfl, hm, by decide, pen1.le (by omega), fun vp pps pn_ H2 hp hpo k2 pen2 => ?_⟩
    refine ⟨by show 2 ≤ sizeLine; decide, fun l1 n1 => ?_⟩
    have hw : way = 4 ∨ way = 5 := by omega
    have e9 : (10 : Int) ^ Int.toNat 9 = 1000000000 := by decide
    obtain ⟨z, mk, hz, hH, hO⟩ : ∃ (z : Str) (mk : Th → Int → Th), atI [V.str "div", V.str "mod"] (way - 4) = some (.str z) ∧ (∀ (H' : Hp) (a : Addr) (x : V) (s : Th) (k : Int), H' a = some (.tup [.str z, x, .int k]) → ThR p H' x s → ThR p H' (.ref a) (mk s k)) ∧ (∀ s k, SumOk m 2 s → 1 ≤ k → k ≤ 1000000000 → EnOk ns rs m (mk s k)) := by
      rcases hw with rfl | rfl
      · exact ⟨"div", .div, rfl, fun H' a x s k h1 h2 => ⟨a, x, rfl, h1, h2⟩, fun s k h1 h2 h3 => ⟨h1, h2, h3⟩⟩
      · exact ⟨"mod", .mod, rfl, fun H' a x s k h1 h2 => ⟨a, x, rfl, h1, h2⟩, fun s k h1 h2 h3 => ⟨h1, h2, h3⟩⟩
    refine ⟨_, rfl, _, _, rfl, rfl, l1, _, _, _, rfl, rfl, SqL.of upd_same, hz, _, rfl, _, _, rfl, rfl, ⟨by decide, by decide, by decide⟩, by show 5 ≤ sizeLine; decide, fun l2 n2 => ?_⟩
    have z1 := same_upd (o := .lst [.str "div", .str "mod"]) n1
    have z2 := same_upd (o := .lst [.int 1, .int 2, .int 3, .int 10, .int (10 ^ Int.toNat 9)]) n2
    have pen4 := (pen2.same z1).same z2
    refine ⟨_, rfl, p, 5, r, rfl, by decide, by decide, pen4.le (by omega), fun i H5 i0 i1 k5 pen5 => ?_⟩
    obtain ⟨k, hk, hkm⟩ := atI_int [1, 2, 3, 10, 10 ^ Int.toNat 9] (i := i) (by omega) (by show i < (5 : Nat); omega)
    have hk1 : 1 ≤ k ∧ k ≤ 1000000000 := by
      rw [e9] at hkm
      simp at hkm
      omega
    have l2p : l2 ≠ p := (pen2.same z1).ne n2
    refine ⟨l2, _, _, _, rfl, rfl, SqL.of (k5.st _ _ upd_same l2p), hk, by show 3 ≤ sizeLine; decide, fun a na => ?_⟩
    have z5 := same_upd (o := .tup [.str z, vp, .int k]) na
    have f1 := (((Kq.of (p := p) z1).trans (.of z2)).trans k5).new (o := .tup [.str z, vp, .int k]) na
    exact q (.ref a) _ _ (hH _ a vp (.sum pps pn_) k upd_same (ThR.keep (f1.kl pen2) _ _ hp)) (hO _ _ hpo hk1.1 hk1.2) ((k1.trans k2).trans f1) (pen5.same z5)
  · exact absurd w1 (of_decide_eq_false (Bool.eq_false_iff.mpr d6))
end
end Lw
/-! Part N: the names that the pen draws. -/
namespace Lw
open PySem PySem.Spec L2 PyProof.Rows
/-- a short text of small letters -/
def Low (z : Str) : Prop := z.length ≤ 20 ∧ ∀ c ∈ z.cps.toList, 97 ≤ c ∧ c ≤ 122
theorem joinL_nil : ∀ ps : List (List Nat), TL.joinL [] ps = ps.flatten
  | [] => rfl
  | [p] => by simp [TL.joinL]
  | p :: q :: r => by
    show p ++ ([] ++ TL.joinL [] (q :: r)) = _
    rw [joinL_nil (q :: r)]
    rfl
theorem tl_joined (ys : List Str) : (Txt.join (Str.ofString "") ys).cps.toList = (ys.map TL.tl).flatten := by
  rw [TL.join_eq]
  have h := TL.tl_join (Str.ofString "") ys
  rw [show TL.tl (Str.ofString "") = [] from rfl, joinL_nil] at h
  exact h
theorem flat_one {ys : List Str} {n : Nat} (h : ∀ y ∈ ys, ∃ c, TL.tl y = [c] ∧ 97 ≤ c ∧ c ≤ 122) (hn : ys.length = n) : (ys.map TL.tl).flatten.length = n ∧ ∀ c ∈ (ys.map TL.tl).flatten, 97 ≤ c ∧ c ≤ 122 := by
  induction ys generalizing n with
  | nil => exact ⟨hn, by simp⟩
  | cons y r ih =>
    obtain ⟨c, e, c1, c2⟩ := h y (List.mem_cons_self ..)
    obtain ⟨i1, i2⟩ := ih (n := n - 1) (fun z hz => h z (List.mem_cons_of_mem _ hz)) (by rw [← hn]; simp)
    have hn' : r.length + 1 = n := hn
    rw [List.map_cons, List.flatten_cons, e]
    refine ⟨by simp only [List.length_append, i1, List.length_cons, List.length_nil]; omega, fun d hd => ?_⟩
    rcases List.mem_append.mp hd with hd | hd
    · rcases List.mem_singleton.mp hd with rfl
      exact ⟨c1, c2⟩
    · exact i2 d hd
def abc : Str := Str.ofString "abcdefghijklmnopqrstuvwxyz"
theorem abc_at {i : Int} (h0 : 0 ≤ i) (h1 : i < 26) : atI abc.cps.toList i = some (97 + i.toNat) := by
  have hj : ∀ j : Nat, j < 26 → abc.cps.toList[j]? = some (97 + j) := by decide +kernel
  have e : i = ((i.toNat : Nat) : Int) := by omega
  have h := atI_nat (hj i.toNat (by omega))
  rw [← e] at h
  exact h
/-- the words that no name may be -/
def bad : List Str := ["left", "given", "own"]
def fx (b : Bool) : Str := if b then "a" else Str.empty
theorem bad_a : ∀ z ∈ bad, z ++ fx true ∉ bad := by decide +kernel
theorem fixed_ok (z : Str) (b : Bool) (hb : b = true ↔ z ∈ bad) : z ++ fx b ∉ bad := by
  cases b with
  | true => exact bad_a z (hb.mp rfl)
  | false =>
    have e : z ++ fx false = z := TL.ext_tl (by rw [TL.tl_append]; show TL.tl z ++ [] = _; simp)
    rw [e]
    exact fun h => Bool.false_ne_true (hb.mpr h)
theorem fixed_ne {z y : Str} {b c : Bool} (hl : z.length = y.length) (hn : z ≠ y) : z ++ fx b ≠ y ++ fx c := fun h => by
  have h2 := congrArg TL.tl h
  rw [TL.tl_append, TL.tl_append] at h2
  have l1 : (TL.tl z).length = (TL.tl y).length := by rw [← TL.len_tl, ← TL.len_tl]; exact hl
  exact hn (TL.ext_tl (List.append_inj_left h2 l1))
/-- the name at k -/
def nameAt (stem : List Nat) (a : Nat) (f k : Int) : Str := ⟨(stem.take a ++ ([97 + ((f + 5 * k) % 26).toNat] ++ stem.drop a)).toArray⟩
theorem nameAt_len {stem : List Nat} {a : Nat} {f k : Int} : (nameAt stem a f k).length = stem.length + 1 := by
  show ((stem.take a ++ ([_] ++ stem.drop a)).toArray).size = _
  rw [List.size_toArray, List.length_append, List.length_append, List.length_take, List.length_drop, List.length_singleton]
  omega
theorem nameAt_ne {stem : List Nat} {a : Nat} {f k j : Int} (h : (f + 5 * k) % 26 ≠ (f + 5 * j) % 26) : nameAt stem a f k ≠ nameAt stem a f j := fun e => by
  have e2 := congrArg (fun z : Str => z.cps.toList) e
  have e3 : stem.take a ++ ([97 + ((f + 5 * k) % 26).toNat] ++ stem.drop a) = stem.take a ++ ([97 + ((f + 5 * j) % 26).toNat] ++ stem.drop a) := e2
  have e4 := List.append_cancel_left e3
  have e5 : 97 + ((f + 5 * k) % 26).toNat = 97 + ((f + 5 * j) % 26).toNat := by
    injection e4
  omega
theorem nameAt_low {stem : List Nat} {a : Nat} {f k : Int} (hs : ∀ c ∈ stem, 97 ≤ c ∧ c ≤ 122) : ∀ c ∈ (nameAt stem a f k).cps.toList, 97 ≤ c ∧ c ≤ 122 := fun c hc => by
  have hc : c ∈ stem.take a ++ ([97 + ((f + 5 * k) % 26).toNat] ++ stem.drop a) := hc
  rcases List.mem_append.mp hc with h | h
  · exact hs c (List.mem_of_mem_take h)
  · rcases List.mem_append.mp h with h | h
    · rcases List.mem_singleton.mp h with rfl
      omega
    · exact hs c (List.mem_of_mem_drop h)
/-- three names as the law wants them -/
structure NamesOk (x y z : Str) : Prop where
  lx : Low x
  ly : Low y
  lz : Low z
  zx : z ≠ x
  zy : z ≠ y
  bx : x ∉ bad
  bY : y ∉ bad
  bz : z ∉ bad
def spNames : Sp := fun vs H Q _ => ∃ (p : Addr) (r : Nat), vs = [.ref p, .int 3] ∧ Pen H p (r + 20) ∧ ∀ a x y z H', H a = none → H' a = some (.lst [.str x, .str y, .str z]) → NamesOk x y z → Kq p H H' → Pen H' p r → Q (.ref a) H'
theorem scNames : FnScope ["_law_pen", "_law_many", "_law_letters", "_law_stem", "_law_at", "_law_first", "_law_found", "_law_k", "_law_name"] ["_law_pen", "_law_many"] (defScope (top 41)) := ⟨rfl, rfl, rfl, by decide +kernel, rfl, by decide +kernel, by decide +kernel⟩
theorem sum_len {ys : List Str} (h : ∀ y ∈ ys, ∃ c, TL.tl y = [c] ∧ 97 ≤ c ∧ c ≤ 122) : (ys.map (·.length)).sum ≤ ys.length := by
  induction ys with
  | nil => exact Nat.le_refl _
  | cons y r ih =>
    obtain ⟨c, e, _⟩ := h y (List.mem_cons_self ..)
    have hl : y.length = 1 := by rw [TL.len_tl, e]; rfl
    have := ih fun z hz => h z (List.mem_cons_of_mem _ hz)
    rw [List.map_cons, List.sum_cons, List.length_cons, hl]
    omega
theorem name_cut (st : Str) {a : Nat} (ha : a ≤ st.length) (f k : Int) : cutS st none (some (a : Int)) ++ (⟨#[97 + ((f + 5 * k) % 26).toNat]⟩ : Str) ++ cutS st (some (a : Int)) none = nameAt st.cps.toList a f k := by
  refine TL.ext_tl ?_
  rw [TL.tl_append, TL.tl_append, List.append_assoc]
  have e1 : TL.tl (cutS st none (some (a : Int))) = st.cps.toList.take a := by
    show ((st.cps.toList.drop (HT.sIx st.length 0 none)).take (HT.sIx st.length st.length (some (a : Int)) - HT.sIx st.length 0 none)) = _
    rw [HT.sIx_none, HT.sIx_nat, Nat.min_eq_left ha]
    rfl
  have e2 : TL.tl (cutS st (some (a : Int)) none) = st.cps.toList.drop a := by
    show ((st.cps.toList.drop (HT.sIx st.length 0 (some (a : Int)))).take (HT.sIx st.length st.length none - HT.sIx st.length 0 (some (a : Int)))) = _
    rw [HT.sIx_none, HT.sIx_nat, Nat.min_eq_left ha]
    refine List.take_of_length_le ?_
    rw [List.length_drop, ← TL.len_tl]
    exact Nat.le_refl _
  rw [e1, e2]
  rfl
theorem in_bad (z : Str) : inV (.str z) (bad.map .str) = true ↔ z ∈ bad := by
  unfold inV
  rw [List.any_map, List.any_eq_true]
  constructor
  · rintro ⟨y, hy, e⟩
    have e : (y == z) = true := e
    rw [← eq_of_beq e]
    exact hy
  · exact fun h => ⟨z, h, beq_self_eq_true z⟩
theorem small20 {n : Nat} (h : n ≤ 1000) : n ≤ sizeLine := Nat.le_of_lt (small1000 h)
section
variable {P : Program} {w : World} {K : PySem.W.Frag} {mg : Str → Option Value} {base : Heap}
theorem ok_names (D : Df K mg "_law_s_names" 41) (ml : mg "len" = none) (mr : mg "range" = none) (mi : mg "int" = none) (G : Gv P w K mg base 2 "_law_take" ["_law_pen", "_law_many"] spTake) :
    Gv P w K mg base 3 "_law_s_names" ["_law_pen", "_law_many"] spNames := by
  refine okV D scNames (fun _ _ _ _ _ _ us hl => match us, hl with | [_, _], _ => rfl) (fun vs H Q E h => ?_) (fun f cdv A out s H vs Q E hr h => ?_)
  · obtain ⟨p, r, rfl, _⟩ := h
    rfl
  obtain ⟨p, r, rfl, hpen, q⟩ := h
  have nd := scNames.nd
  refine ⟨_, pss_cons (ps_set (i := 2) nd rfl (Or.inr rfl) pe_str)
    (pss_cons (ps_set (i := 3) nd rfl (Or.inr rfl) (pe_join pe_str (pe_lc (own := [("_law_k", 7)]) (g := gName 7) (tt := tYes) rfl nd (pi_range1 rfl mr (pa_cons (pe_v (E := E0) G hr rfl (pa_cons (pv 0) (pa_cons pe_int pa_nil))) pa_nil)) (blkOk_by (own := [("_law_k", 7)]) (N := ["_law_pen", "_law_many", "_law_letters", "_law_stem", "_law_at", "_law_first", "_law_found", "_law_k", "_law_name"]) (sc := defScope (top 41)) (by decide +kernel))
        (fun _ _ _ _ _ => pg_name (i := 7) nd rfl (Or.inl rfl)) (fun _ _ _ _ _ => pts_nil) (fun _ _ _ _ _ => pe_ix ix_str (pv 2) (pe_v (E := E0) G hr rfl (pa_cons (pv 0) (pa_cons pe_int pa_nil))) (fun _ _ => rfl)))))
    (pss_cons (ps_set (i := 4) nd rfl (Or.inr rfl) (pe_v (E := E0) G hr rfl (pa_cons (pv 0) (pa_cons (pe_op op_add (pe_callB call_len_str rfl ml PySem.boot_len (pa_cons (pv 3) pa_nil)) pe_int) pa_nil))))
    (pss_cons (ps_set (i := 5) nd rfl (Or.inr rfl) (pe_v (E := E0) G hr rfl (pa_cons (pv 0) (pa_cons pe_int pa_nil))))
    (pss_cons (ps_setLc (i := 6) (own := [("_law_k", 7)]) (g := gName 7) (tt := tYes) rfl nd rfl rfl (sw_true rfl rfl rfl (by decide +kernel)) (pi_range1 rfl mr (pa_cons (pv 1) pa_nil)) (blkOk_by (own := [("_law_k", 7)]) (N := ["_law_pen", "_law_many", "_law_letters", "_law_stem", "_law_at", "_law_first", "_law_found", "_law_k", "_law_name"]) (sc := defScope (top 41)) (by decide +kernel))
        (fun _ _ _ _ _ => pg_name (i := 7) nd rfl (Or.inl rfl)) (fun _ _ _ _ _ => pts_nil) (fun _ _ _ _ _ => pe_op op_add_str (pe_op op_add_str (pe_slice sl_str (pv 3) po_none (po_some (pv 4))) (pe_ix ix_str (pv 2) (pe_op op_mod (pe_op op_add (pv 5) (pe_op op_mulW pe_int (pv 7))) pe_int) (fun _ _ => rfl))) (pe_slice sl_str (pv 3) (po_some (pv 4)) po_none)))
    (pss_one (ps_ret (pe_lc (own := [("_law_name", 8)]) (g := gName 8) (tt := tYes) rfl nd (pi_list (pv 6)) (blkOk_by (own := [("_law_name", 8)]) (N := ["_law_pen", "_law_many", "_law_letters", "_law_stem", "_law_at", "_law_first", "_law_found", "_law_k", "_law_name"]) (sc := defScope (top 41)) (by decide +kernel))
        (fun _ _ _ _ _ => pg_name (i := 8) nd rfl (Or.inl rfl)) (fun _ _ _ _ _ => pts_nil) (fun _ _ _ _ _ => pe_op op_add_str (pv 8) (pe_op op_strTimes pe_str (pe_callTy call_int1 rfl mi boot_int (pa_cons (pe_cmpR (show OpR _ (compareOp .In) (rIn K false) from op_in_seq) (pv 8) (pe_tup (pa_cons pe_str (pa_cons pe_str (pa_cons pe_str pa_nil)))) (by rfl)) pa_nil))))))))))), ?_⟩
  -- the stem's signs
  have lc1 : ∀ c : Nat, 97 ≤ c ∧ c ≤ 122 → ∃ c', TL.tl (⟨#[c]⟩ : Str) = [c'] ∧ 97 ≤ c' ∧ c' ≤ 122 := fun c h => ⟨c, rfl, h⟩
  refine ⟨⟨_, rfl⟩, _, rfl, p, 8, r + 19, rfl, by decide, by decide, hpen, fun n H1 n0 n1 k1 pen1 => ⟨_, rfl, by omega, by omega, fun D1 d1 => ?_⟩⟩
  have D1p : D1 ≠ p := pen1.ne d1
  refine lc_range (lo := 0) (n := n.toNat) (fun i H' => ∃ ys : List Str, H' D1 = some (.lst (ys.map .str)) ∧ ys.length = i ∧ (∀ y ∈ ys, ∃ c, TL.tl y = [c] ∧ 97 ≤ c ∧ c ≤ 122) ∧ Kq p H H' ∧ Pen H' p (r + 11 + (8 - i))) ?_ (fun i H' hi h => ?_) (fun H' h => ?_)
  · exact ⟨[], upd_same, rfl, by simp, k1.new d1, (pen1.same (same_upd d1)).le (by omega)⟩
  · obtain ⟨ys, hD, hl, hys, hk, hpn⟩ := h
    refine ⟨rfl, ?_⟩
    refine ⟨_, rfl, _, rfl, p, 26, r + 11 + (8 - (i + 1)), rfl, by decide, by decide, hpn.le (by omega), fun j H2 j0 j1 k2 pen2 => ?_⟩
    have hD2 := k2.st _ _ hD D1p
    have nD : H D1 = none := by
      cases e : H D1 with
      | none => rfl
      | some o =>
        rw [k1.st _ _ e D1p] at d1
        cases d1
    refine ⟨abc, j, _, rfl, rfl, by show 26 ≤ sizeLine; decide, abc_at j0 j1, _, hD2, small1000 (by rw [List.length_map]; omega), ys ++ [⟨#[97 + j.toNat]⟩], ?_, by rw [List.length_append, hl]; rfl, fun y hy => ?_, (hk.trans k2).set nD, (hk.trans k2).pen hpen (pen2.le (by omega)) nD⟩
    · rw [upd_same, List.map_append]
      rfl
    · rcases List.mem_append.mp hy with hy | hy
      · exact hys y hy
      · rcases List.mem_singleton.mp hy with rfl
        exact ⟨_, rfl, by omega, by omega⟩
  obtain ⟨ys, hD, hl, hys, hk, hpn⟩ := h
  obtain ⟨f1, f2⟩ := flat_one hys hl
  refine ⟨_, D1, ys, rfl, rfl, .inl (SqL.of hD), ?_, ?_⟩
  · have := sum_len hys
    show _ + ys.length * 0 ≤ 16777216
    omega
  have sl : (Txt.join (Str.ofString "") ys).length = n.toNat := by
    rw [TL.len_tl]
    show ((Txt.join (Str.ofString "") ys).cps.toList).length = _
    rw [tl_joined, f1]
  have sf : ∀ c ∈ (Txt.join (Str.ofString "") ys).cps.toList, 97 ≤ c ∧ c ≤ 122 := by rw [tl_joined]; exact f2
  obtain ⟨st, est⟩ : ∃ st, Txt.join (Str.ofString "") ys = st := ⟨_, rfl⟩
  rw [est] at sl sf
  have v3 := congrArg (fun z => some (some (V.str z))) est
  refine ⟨_, rfl, _, v3, st, rfl, small20 (by omega), _, _, rfl, rfl, p, _, r + 10, rfl, by omega, by omega, hpn.le (by omega), fun at_ H3 a0 a1 k3 pen3 => ?_⟩
  refine ⟨_, rfl, p, 26, r + 9, rfl, by decide, by decide, pen3, fun fi H4 fi0 fi1 k4 pen4 => ?_⟩
  have k14 := (hk.trans k3).trans k4
  obtain ⟨a, rfl⟩ : ∃ a : Nat, at_ = (a : Int) := ⟨at_.toNat, by omega⟩
  have ha : a ≤ st.length := by omega
  refine ⟨_, rfl, 3, rfl, by decide, by decide, fun D2 d2 => ?_⟩
  have nD2 : H D2 = none := by
    cases e : H D2 with
    | none => rfl
    | some o =>
      rw [k14.st _ _ e (pen4.ne d2)] at d2
      cases d2
  refine lc_range (lo := 0) (n := 3) (fun i H' => H' D2 = some (.lst ((List.range i).map fun j => V.str (nameAt st.cps.toList a fi (j : Nat)))) ∧ Kq p H H' ∧ Pen H' p (r + 9)) ?_ (fun i H' hi h => ?_) (fun H' h => ?_)
  · exact ⟨upd_same, k14.new d2, pen4.same (same_upd d2)⟩
  · obtain ⟨hD2, hk2, hpn2⟩ := h
    have mW : CMulW 5 (0 + (i : Int)) := wide_mul (a := 10) (b := 40) (by decide) (by have e40 : (2 : Nat) ^ 40 = 1099511627776 := by decide
                                                                                      omega) (by decide) (by decide) (by decide)
    have em0 : 0 ≤ (fi + 5 * (0 + (i : Int))) % 26 := Int.emod_nonneg _ (by decide)
    have em1 : (fi + 5 * (0 + (i : Int))) % 26 < 26 := Int.emod_lt_of_pos _ (by decide)
    have lcut : ∀ (z : Str) (lo hi : Option Int), (cutS z lo hi).length ≤ z.length := fun z lo hi => by
      rw [TL.len_tl, TL.len_tl z]
      show ((z.cps.toList.drop _).take _).length ≤ _
      rw [List.length_take, List.length_drop]
      show min _ (z.cps.toList.length - _) ≤ z.cps.toList.length
      omega
    have c1 := lcut st none (some (a : Int))
    have c2 := lcut st (some (a : Int)) none
    have c3 : (cutS st none (some (a : Int)) ++ (⟨#[97 + ((fi + 5 * (0 + (i : Int))) % 26).toNat]⟩ : Str)).length ≤ st.length + 1 := by
      rw [TL.len_tl, TL.tl_append, List.length_append, ← TL.len_tl]
      show _ + 1 ≤ _
      omega
    refine ⟨rfl, ?_⟩
    refine ⟨_, v3, _, rfl, _, rfl, st, rfl, small20 (by omega), ?_⟩
    refine ⟨_, rfl, _, rfl, _, rfl, _, _, rfl, rfl, mW, _, _, rfl, rfl, _, _, rfl, rfl, by show (0 : Int) < 26; decide, abc, _, _, rfl, rfl, by show 26 ≤ sizeLine; decide, abc_at em0 em1, _, _, rfl, rfl, ?_, ?_⟩
    · show (cutS st none (some (a : Int))).length + 1 ≤ sizeLine
      exact small20 (by omega)
    refine ⟨_, v3, _, rfl, _, rfl, st, rfl, small20 (by omega), _, _, rfl, rfl, small20 (by omega), ?_⟩
    refine ⟨_, hD2, small1000 (by rw [List.length_map, List.length_range]; omega), ?_, hk2.set nD2, hk2.pen hpen hpn2 nD2⟩
    rw [upd_same, List.range_succ, List.map_append, name_cut st ha fi (0 + (i : Int)), Int.zero_add]
    rfl
  obtain ⟨hD2, hk2, hpn2⟩ := h
  have D2p : D2 ≠ p := hpen.ne nD2
  refine ⟨_, rfl, D2, rfl, ⟨_, SqL.of hD2⟩, fun D3 d3 => ?_⟩
  have nD3 : H D3 = none := by
    cases e : H D3 with
    | none => rfl
    | some o =>
      rw [hk2.st _ _ e (hpn2.ne d3)] at d3
      cases d3
  have D32 : D3 ≠ D2 := fun z => by
    rw [z, hD2] at d3
    cases d3
  let nf : Nat → Str := fun j => nameAt st.cps.toList a fi (j : Nat)
  let nb : Nat → Bool := fun j => inV (.str (nf j)) (bad.map .str)
  have nfl : ∀ j, (nf j).length = n.toNat + 1 := fun j => by
    show (nameAt st.cps.toList a fi (j : Nat)).length = _
    rw [nameAt_len, ← sl, TL.len_tl]
  have nfL : ∀ j, Low (nf j ++ fx (nb j)) := fun j => by
    refine ⟨?_, fun c hc => ?_⟩
    · rw [TL.len_tl, TL.tl_append, List.length_append, ← TL.len_tl, nfl]
      have : (TL.tl (fx (nb j))).length ≤ 1 := by
        cases nb j <;> decide
      omega
    · have hc : c ∈ TL.tl (nf j ++ fx (nb j)) := hc
      rw [TL.tl_append] at hc
      rcases List.mem_append.mp hc with h | h
      · exact nameAt_low sf c h
      · have : ∀ b : Bool, ∀ c ∈ TL.tl (fx b), 97 ≤ c ∧ c ≤ 122 := by decide +kernel
        exact this _ c h
  refine lc_list (K := K) (a := D2) (xs := (List.range 3).map fun j => V.str (nf j)) (fun i H' => H' D2 = some (.lst ((List.range 3).map fun j => V.str (nf j))) ∧ H' D3 = some (.lst ((List.range i).map fun j => V.str (nf j ++ fx (nb j)))) ∧ Kq p H H' ∧ Pen H' p (r + 9)) ?_ (fun i H' hi h => SqL.of h.1) (fun i x H' hx h => ?_) (fun H' h => ?_)
  · exact ⟨by rw [upd_ne (Ne.symm D32)]; exact hD2, upd_same, hk2.new d3, hpn2.same (same_upd d3)⟩
  · obtain ⟨h2, h3, hk3, hpn3⟩ := h
    have hi : i < 3 := by
      have := (List.getElem?_eq_some_iff.mp hx).1
      simpa using this
    have ex : x = .str (nf i) := by
      rw [List.getElem?_map, List.getElem?_range hi] at hx
      exact (Option.some.inj hx).symm
    subst ex
    refine ⟨rfl, _, rfl, _, rfl, by show 3 ≤ sizeLine; decide, fun t ht => ?_⟩
    have st_ := same_upd (o := .tup [V.str "left", .str "given", .str "own"]) ht
    refine ⟨t, _, rfl, .inr (SqT.of upd_same), rfl, rfl, .inr ⟨_, rfl, _, _, rfl, rfl, ?_, ?_⟩⟩
    · cases inV (V.str (nf i)) [V.str "left", .str "given", .str "own"]
      · exact .inl rfl
      · exact .inr rfl
    have efx : (if (if inV (V.str (nf i)) [V.str "left", .str "given", .str "own"] = true then (1 : Int) else 0) = 1 then Str.ofString "a" else Str.empty) = fx (nb i) := by
      show _ = fx (inV (V.str (nf i)) [V.str "left", .str "given", .str "own"])
      cases inV (V.str (nf i)) [V.str "left", .str "given", .str "own"] <;> rfl
    refine ⟨_, _, rfl, rfl, small20 ?_, ?_⟩
    · have e1 : (if (if (if false = true then !inV (V.str (nf i)) [V.str "left", .str "given", .str "own"] else inV (V.str (nf i)) [V.str "left", .str "given", .str "own"]) = true then (1 : Int) else 0) = 1 then Str.ofString "a" else Str.empty) = fx (nb i) := efx
      have e2 := nfl i
      have e3 : (fx (nb i)).length ≤ 1 := by cases nb i <;> decide
      show (nf i).length + (if (if (if false = true then !inV (V.str (nf i)) [V.str "left", .str "given", .str "own"] else inV (V.str (nf i)) [V.str "left", .str "given", .str "own"]) = true then (1 : Int) else 0) = 1 then Str.ofString "a" else Str.empty).length ≤ 1000
      rw [e1]
      omega
    refine ⟨_, st_ _ _ h3, small1000 (by rw [List.length_map, List.length_range]; omega), ?_, ?_, (hk3.new ht).set nD3, (hk3.new ht).pen hpen (hpn3.same st_) nD3⟩
    · rw [upd_ne (Ne.symm D32)]
      exact st_ _ _ h2
    · rw [upd_same, List.range_succ, List.map_append]
      refine congrArg some (congrArg HO.lst (congrArg (_ ++ ·) ?_))
      show [V.str (nf i ++ _)] = [V.str (nf i ++ fx (nb i))]
      rw [← efx]
      rfl
  · obtain ⟨h2, h3, hk3, hpn3⟩ := h
    have ne_ : ∀ i j : Nat, i < 3 → j < 3 → i ≠ j → nf i ++ fx (nb i) ≠ nf j ++ fx (nb j) := fun i j hi hj hij => fixed_ne ((nfl i).trans (nfl j).symm) (nameAt_ne (by omega))
    have nb_ : ∀ i, nf i ++ fx (nb i) ∉ bad := fun i => fixed_ok _ _ (in_bad _)
    exact q D3 _ _ _ H' nD3 h3 ⟨nfL 0, nfL 1, nfL 2, ne_ 2 0 (by decide) (by decide) (by decide), ne_ 2 1 (by decide) (by decide) (by decide), nb_ 0, nb_ 1, nb_ 2⟩ hk3 (hpn3.le (by omega))
end
end Lw
/-! Part T: the tree of a sum's leaves. -/
namespace Lw
open PySem PySem.Spec L2 PyProof.Rows
/-- a leaf: a mark, a term, how often -/
abbrev Lf := Int × Tm × Int
def Lf.d (x : Lf) : PyData := .tuple [.int x.1, x.2.1.d, .int x.2.2]
/-- the leaves, all weights turned -/
def turned (s : Int) (L : List Lf) : List Lf := L.map fun x => (x.1, x.2.1, s * x.2.2)
/-- a term that the leaves make, by so many splits at most -/
inductive Comb : Nat → List Lf → Tm → Prop
  | one (d : Nat) (k : Int) (a : Tm) : Comb d [(k, a, 1)] a
  | neg (d : Nat) (k : Int) (a : Tm) (w : Int) : Comb d [(k, a, w)] (.mul (-1) (.mul (0 - w) a))
  | mul (d : Nat) (k : Int) (a : Tm) (w : Int) : Comb d [(k, a, w)] (.mul w a)
  | add {d : Nat} {L M : List Lf} {t u : Tm} : Comb d L t → Comb d M u → Comb (d + 1) (L ++ M) (.add t u)
  | nadd {d : Nat} {L M : List Lf} {t u : Tm} : Comb d (turned (-1) L) t → Comb d (turned (-1) M) u → Comb (d + 1) (L ++ M) (.mul (-1) (.add t u))
theorem turned_one (L : List Lf) : turned 1 L = L := by
  unfold turned
  conv => rhs; rw [← List.map_id L]
  refine List.map_congr_left fun x _ => ?_
  show (x.1, x.2.1, 1 * x.2.2) = x
  rw [Int.one_mul]
def spTree (d : Nat) : Sp := fun vs H Q _ => ∃ (p a : Addr) (us : List V) (L : List Lf) (r : Nat), vs = [.ref p, .ref a] ∧ a ≠ p ∧ H a = some (.lst us) ∧ DRs H us (L.map Lf.d) ∧ 1 ≤ L.length ∧ L.length ≤ 2 ^ d ∧ L.length ≤ 1000 ∧ Pen H p (r + (3 * L.length - 2)) ∧
  ∀ v t H', TR H' v t → Comb d L t → Kq p H H' → Pen H' p r → Q v H'
theorem scTree : FnScope ["_law_pen", "_law_leaves", "_law_k", "_law_thing", "_law_weight", "_law_way", "_law_sign", "_law_some", "_law_at", "_law_one", "_law_found"] ["_law_pen", "_law_leaves"] (defScope (top 51)) := ⟨rfl, rfl, rfl, by decide +kernel, rfl, by decide +kernel, by decide +kernel⟩
section
variable {P : Program} {w : World} {K : PySem.W.Frag} {mg : Str → Option Value} {base : Heap}
theorem drs_take {H : Hp} : ∀ {us : List V} {ds : List PyData} (n : Nat), DRs H us ds → DRs H (us.take n) (ds.take n) ∧ DRs H (us.drop n) (ds.drop n)
  | _, _, 0, h => ⟨.nil, h⟩
  | _, _, _ + 1, .nil => ⟨.nil, .nil⟩
  | _, _, n + 1, .cons h t => ⟨.cons h (drs_take n t).1, (drs_take n t).2⟩
theorem cut_lo (xs : List V) {n : Nat} (h : n ≤ xs.length) : cutV xs none (some (n : Int)) = xs.take n := by
  unfold cutV
  rw [HT.sIx_none, HT.sIx_nat, Nat.min_eq_left h]
  rfl
theorem cut_hi (xs : List V) {n : Nat} (h : n ≤ xs.length) : cutV xs (some (n : Int)) none = xs.drop n := by
  unfold cutV
  rw [HT.sIx_none, HT.sIx_nat, Nat.min_eq_left h]
  refine List.take_of_length_le ?_
  rw [List.length_drop]
  exact Nat.le_refl _
theorem turned_len (s : Int) (L : List Lf) : (turned s L).length = L.length := List.length_map _
/-- the promise for one split less -/
def spTree' : Nat → Sp
  | 0 => fun _ _ _ _ => False
  | d + 1 => spTree d
theorem st_tree (D : Df K mg "_law_s_tree" 51) (ml : mg "len" = none) (mi : mg "int" = none) (G : Gv P w K mg base 2 "_law_take" ["_law_pen", "_law_many"] spTake) (d : Nat) (ih : Gv P w K mg base (d + 2) "_law_s_tree" ["_law_pen", "_law_leaves"] (spTree' d)) :
    Gv P w K mg base (d + 3) "_law_s_tree" ["_law_pen", "_law_leaves"] (spTree d) := by
  refine okV D scTree (fun _ _ _ _ _ _ us hl => match us, hl with | [_, _], _ => rfl) (fun vs H Q E h => ?_) (fun f cdv A out s H vs Q E hr h => ?_)
  · obtain ⟨p, a, us, L, r, rfl, _⟩ := h
    rfl
  obtain ⟨p, a, us, L, r, rfl, hap, ha, hd, h1, h2, h3, hpen, q⟩ := h
  have nd := scTree.nd
  have hr2 := hr.mono (show 2 ≤ d + 2 by omega)
  refine ⟨_, pss_cons (ps_if (pt_cmpR op_eq (pe_callB call_len_seq rfl ml PySem.boot_len (pa_cons (pv 1) pa_nil)) pe_int (nomark _))
      (pss_cons (ps_asg (pe_ix ix_list (pv 1) pe_int (fun _ _ => rfl)) (pg_tup rfl (pgs_cons (pg_name (i := 2) nd rfl (Or.inl rfl)) (pgs_cons (pg_name (i := 3) nd rfl (Or.inl rfl)) (pgs_cons (pg_name (i := 4) nd rfl (Or.inl rfl)) pgs_nil)))))
      (pss_cons (ps_set (i := 5) nd rfl (Or.inl rfl) (pe_v (E := E0) G hr2 rfl (pa_cons (pv 0) (pa_cons pe_int pa_nil))))
      (pss_cons (ps_if (PW.pt (pw_and (pt_cmpR op_eq (pv 4) pe_int (nomark _)) (pw_and1 (pt_cmpR op_gt (pv 5) pe_int (nomark _))))) (pss_one (ps_ret (pv 3))) pss_nil)
      (pss_one (ps_ret (pe_ifExp (pt_cmpR op_eq (pv 5) pe_int (nomark _)) (pe_tup (pa_cons pe_str (pa_cons (pe_un un_neg pe_int) (pa_cons (pe_tup (pa_cons pe_str (pa_cons (pe_op op_sub pe_int (pv 4)) (pa_cons (pv 3) pa_nil)))) pa_nil)))) (pe_tup (pa_cons pe_str (pa_cons (pv 4) (pa_cons (pv 3) pa_nil)))))))))) pss_nil)
    (pss_cons (ps_set (i := 6) nd rfl (Or.inr rfl) (pe_ix ix_list (pe_lst (pa_cons pe_int (pa_cons pe_int (pa_cons pe_int (pa_cons (pe_un un_neg pe_int) pa_nil))))) (pe_op op_mul (pe_v (E := E0) G hr2 rfl (pa_cons (pv 0) (pa_cons pe_int pa_nil))) (pe_callTy call_int1 rfl mi boot_int (pa_cons (pe_cmpR op_gt (pe_callB call_len_seq rfl ml PySem.boot_len (pa_cons (pv 1) pa_nil)) pe_int (nomark _)) pa_nil))) (fun _ _ => rfl)))
    (pss_cons (ps_setLc (i := 7) (own := [("_law_k", 2), ("_law_thing", 3), ("_law_weight", 4)]) (g := gTup K 3 (gCons (gName 2) (gCons (gName 3) (gCons (gName 4) gNil)))) (tt := tYes) rfl nd rfl rfl (sw_true rfl rfl rfl (by decide +kernel)) (pi_list (pv 1)) (blkOk_by (own := [("_law_k", 2), ("_law_thing", 3), ("_law_weight", 4)]) (N := ["_law_pen", "_law_leaves", "_law_k", "_law_thing", "_law_weight", "_law_way", "_law_sign", "_law_some", "_law_at", "_law_one", "_law_found"]) (sc := defScope (top 51)) (by decide +kernel))
        (fun _ _ _ _ _ => pg_tup rfl (pgs_cons (pg_name (i := 2) nd rfl (Or.inl rfl)) (pgs_cons (pg_name (i := 3) nd rfl (Or.inl rfl)) (pgs_cons (pg_name (i := 4) nd rfl (Or.inl rfl)) pgs_nil)))) (fun _ _ _ _ _ => pts_nil) (fun _ _ _ _ _ => pe_tup (pa_cons (pv 2) (pa_cons (pv 3) (pa_cons (pe_op op_mul (pv 6) (pv 4)) pa_nil)))))
    (pss_cons (ps_set (i := 8) nd rfl (Or.inl rfl) (pe_op op_fdiv (pe_op op_add (pe_callB call_len_seq rfl ml PySem.boot_len (pa_cons (pv 7) pa_nil)) (pe_v (E := E0) G hr2 rfl (pa_cons (pv 0) (pa_cons pe_int pa_nil)))) pe_int))
    (pss_cons (ps_set (i := 9) nd rfl (Or.inl rfl) (pe_v (E := E0) ih hr rfl (pa_cons (pv 0) (pa_cons (pe_slice sl_list (pv 7) po_none (po_some (pv 8))) pa_nil))))
    (pss_cons (ps_set (i := 10) nd rfl (Or.inl rfl) (pe_tup (pa_cons pe_str (pa_cons (pv 9) (pa_cons (pe_v (E := E0) ih hr rfl (pa_cons (pv 0) (pa_cons (pe_slice sl_list (pv 7) (po_some (pv 8)) po_none) pa_nil))) pa_nil)))))
    (pss_one (ps_ret (pe_ifExp (pt_cmpR op_eq (pv 6) pe_int (nomark _)) (pv 10) (pe_tup (pa_cons pe_str (pa_cons (pv 6) (pa_cons (pv 10) pa_nil)))))))))))), ?_⟩
  have hln : us.length = L.length := by rw [hd.length, List.length_map]
  refine ⟨_, rfl, a, _, rfl, .inl (SqL.of ha), rfl, _, rfl, ite2 (fun e1 => ?_) (fun e1 => ?_)⟩
  · have e1' : V.int (us.length : Nat) = V.int 1 := of_decide_eq_true e1
    have hL : L.length = 1 := by
      rw [hln] at e1'
      injection e1' with h
      omega
    obtain ⟨⟨lk, lt, lw⟩, rfl⟩ := List.length_eq_one_iff.mp hL
    obtain ⟨v, us', rfl, hv, hr'⟩ := hd.cons_inv
    cases hr'
    obtain ⟨b, xs, rfl, hb, hx⟩ := hv.tup_inv
    obtain ⟨x1, y1, rfl, g1, hx⟩ := hx.cons_inv
    obtain ⟨x2, y2, rfl, g2, hx⟩ := hx.cons_inv
    obtain ⟨x3, y3, rfl, g3, hx⟩ := hx.cons_inv
    cases hx
    cases g1.int_inv
    cases g3.int_inv
    refine ⟨_, rfl, a, _, _, _, rfl, rfl, SqL.of ha, rfl, b, _, rfl, SqT.of hb, rfl, _, _, rfl, _, _, rfl, _, _, rfl, rfl, ?_⟩
    refine ⟨_, rfl, p, 4, r, rfl, by decide, by decide, hpen, fun way H1 w0 w1 k1 pen1 => ?_⟩
    have t2 : TR H1 x2 lt := g2.kt (k1.kt hpen)
    refine ⟨_, rfl, rfl, _, rfl, ?_⟩
    refine ite2 (fun c1 => ?_) (fun c1 => ?_)
    · have c1' : V.int lw = V.int 1 := of_decide_eq_true c1
      injection c1' with c1'
      refine ⟨_, rfl, _, _, rfl, rfl, _, rfl, ite2 (fun c2 => ?_) (fun c2 => ?_)⟩
      · exact ⟨_, rfl, q _ _ _ t2 (by show Comb d [(lk, lt, lw)] lt; rw [c1']; exact .one d lk lt) k1 pen1⟩
      · refine ⟨_, rfl, rfl, _, rfl, ite2 (fun c3 => ?_) (fun c3 => ?_)⟩
        · refine ⟨_, rfl, _, rfl, _, _, rfl, rfl, _, rfl, by show 3 ≤ sizeLine; decide, fun t1 n1 => ⟨by show 3 ≤ sizeLine; decide, fun t3 n3 => ?_⟩⟩
          have z1 := same_upd (o := .tup [V.str "mul", .int (0 - lw), x2]) n1
          have z3 := same_upd (o := .tup [V.str "mul", .int (-1), .ref t1]) n3
          exact q _ (.mul (-1) (.mul (0 - lw) lt)) _ (.tup upd_same (.cons (.str _) (.cons (.int _) (.cons (DR.kt (.tup upd_same (.cons (.str _) (.cons (.int _) (.cons (t2.kt (.of z1)) .nil)))) (.of z3)) .nil)))) (.neg d lk lt lw) ((k1.new n1).new n3) ((pen1.same z1).same z3)
        · refine ⟨_, rfl, _, rfl, by show 3 ≤ sizeLine; decide, fun t1 n1 => ?_⟩
          have z1 := same_upd (o := .tup [V.str "mul", .int lw, x2]) n1
          exact q _ (.mul lw lt) _ (.tup upd_same (.cons (.str _) (.cons (.int _) (.cons (t2.kt (.of z1)) .nil)))) (.mul d lk lt lw) (k1.new n1) (pen1.same z1)
    · refine ⟨_, rfl, rfl, _, rfl, ite2 (fun c3 => ?_) (fun c3 => ?_)⟩
      · refine ⟨_, rfl, _, rfl, _, _, rfl, rfl, _, rfl, by show 3 ≤ sizeLine; decide, fun t1 n1 => ⟨by show 3 ≤ sizeLine; decide, fun t3 n3 => ?_⟩⟩
        have z1 := same_upd (o := .tup [V.str "mul", .int (0 - lw), x2]) n1
        have z3 := same_upd (o := .tup [V.str "mul", .int (-1), .ref t1]) n3
        exact q _ (.mul (-1) (.mul (0 - lw) lt)) _ (.tup upd_same (.cons (.str _) (.cons (.int _) (.cons (DR.kt (.tup upd_same (.cons (.str _) (.cons (.int _) (.cons (t2.kt (.of z1)) .nil)))) (.of z3)) .nil)))) (.neg d lk lt lw) ((k1.new n1).new n3) ((pen1.same z1).same z3)
      · refine ⟨_, rfl, _, rfl, by show 3 ≤ sizeLine; decide, fun t1 n1 => ?_⟩
        have z1 := same_upd (o := .tup [V.str "mul", .int lw, x2]) n1
        exact q _ (.mul lw lt) _ (.tup upd_same (.cons (.str _) (.cons (.int _) (.cons (t2.kt (.of z1)) .nil)))) (.mul d lk lt lw) (k1.new n1) (pen1.same z1)
  have hL2 : 2 ≤ L.length := by
    have e1' : ¬ V.int (us.length : Nat) = V.int 1 := of_decide_eq_false (Bool.eq_false_iff.mpr e1)
    have : ¬ L.length = 1 := fun z => e1' (by rw [hln, z]; rfl)
    omega
  cases d with
  | zero =>
    have : (2 : Nat) ^ 0 = 1 := rfl
    omega
  | succ d =>
  refine ⟨_, rfl, by show 4 ≤ sizeLine; decide, fun l1 n1 => ?_⟩
  have z1 := same_upd (o := .lst [V.int 1, .int 1, .int 1, .int (-1)]) n1
  refine ⟨_, rfl, p, 4, r + (3 * L.length - 2) - 1, rfl, by decide, by decide, (hpen.same z1).le (by omega), fun t H1 t0 t1 k1 pen1 => ?_⟩
  have kk1 : Kq p H H1 := (Kq.of z1).trans k1
  have l1p : l1 ≠ p := hpen.ne n1
  refine ⟨_, rfl, a, _, rfl, .inl (SqL.of (kk1.st _ _ ha hap)), _, _, rfl, rfl, .inr ⟨_, rfl, _, _, rfl, rfl, .inl ⟨by omega, by omega⟩, ?_⟩⟩
  -- the sign
  obtain ⟨sg, hsg, hs1⟩ : ∃ sg : Int, atI [V.int 1, .int 1, .int 1, .int (-1)] (t * (if decide ((us.length : Int) > 2) = true then 1 else 0)) = some (.int sg) ∧ (sg = 1 ∨ sg = -1) := by
    have hi : ∀ i : Int, 0 ≤ i → i < 4 → ∃ sg : Int, atI [V.int 1, .int 1, .int 1, .int (-1)] i = some (.int sg) ∧ (sg = 1 ∨ sg = -1) := fun i i0 i1 => by
      obtain ⟨m, hm, hmem⟩ := atI_int [1, 1, 1, -1] (i := i) i0 (by show i < (4 : Nat); omega)
      refine ⟨m, hm, ?_⟩
      simp at hmem
      omega
    cases decide ((us.length : Int) > 2)
    · exact hi _ (by rw [if_neg (by decide)]; omega) (by rw [if_neg (by decide)]; omega)
    · exact hi _ (by rw [if_pos rfl]; omega) (by rw [if_pos rfl]; omega)
  refine ⟨l1, _, _, _, rfl, rfl, SqL.of (k1.st _ _ upd_same l1p), hsg, ?_⟩
  refine ⟨_, rfl, a, rfl, ⟨_, SqL.of (kk1.st _ _ ha hap)⟩, fun D2 d2 => ?_⟩
  have nD2 : H D2 = none := by
    cases e : H D2 with
    | none => rfl
    | some o =>
      rw [kk1.st _ _ e (pen1.ne d2)] at d2
      cases d2
  have D2p : D2 ≠ p := pen1.ne d2
  refine lc_list (K := K) (a := a) (xs := us) (fun i H' => H' a = some (.lst us) ∧ (∃ vs', H' D2 = some (.lst vs') ∧ DRs H' vs' ((turned sg (L.take i)).map Lf.d)) ∧ Kq p H H' ∧ Pen H' p (r + (3 * L.length - 2) - 1)) ?_ (fun i H' hi h => SqL.of h.1) (fun i x H' hx h => ?_) (fun H' h => ?_)
  · refine ⟨?_, ⟨[], upd_same, .nil⟩, kk1.new d2, pen1.same (same_upd d2)⟩
    exact same_upd d2 _ _ (kk1.st _ _ ha hap)
  · obtain ⟨hA, ⟨vs', hD, hvs⟩, hk, hpn⟩ := h
    obtain ⟨dx, hdx, hrx⟩ := hd.getV hx
    rw [List.getElem?_map] at hdx
    obtain ⟨lf, hlf, rfl⟩ := Option.map_eq_some_iff.mp hdx
    obtain ⟨lk, lt, lw⟩ := lf
    have hrx := hrx.kt (hk.kt hpen)
    obtain ⟨b, xs, rfl, hb, hx'⟩ := hrx.tup_inv
    obtain ⟨x1, y1, rfl, g1, hx'⟩ := hx'.cons_inv
    obtain ⟨x2, y2, rfl, g2, hx'⟩ := hx'.cons_inv
    obtain ⟨x3, y3, rfl, g3, hx'⟩ := hx'.cons_inv
    cases hx'
    cases g1.int_inv
    cases g3.int_inv
    have hsb : (-(2 ^ 64) : Int) < sg ∧ sg < 2 ^ 64 := by rcases hs1 with rfl | rfl <;> decide
    refine ⟨b, _, rfl, SqT.of hb, rfl, _, _, rfl, _, _, rfl, _, _, rfl, rfl, rfl, ?_⟩
    refine ⟨_, rfl, _, rfl, _, rfl, _, rfl, _, _, rfl, rfl, .inl hsb, by show 3 ≤ sizeLine; decide, fun tt nt => ?_⟩
    have zt := same_upd (o := .tup [V.int lk, x2, .int (sg * lw)]) nt
    have hk2 := hk.new (o := .tup [V.int lk, x2, .int (sg * lw)]) nt
    have hil : i < us.length := (List.getElem?_eq_some_iff.mp hx).1
    have hvl : vs'.length ≤ i := by
      rw [hvs.length, List.length_map, turned_len, List.length_take]
      omega
    have t6 : KT (upd H' tt (.tup [V.int lk, x2, .int (sg * lw)])) (upd (upd H' tt (.tup [V.int lk, x2, .int (sg * lw)])) D2 (.lst (vs' ++ [V.ref tt]))) := KT.set (zt _ _ hD) fun ys z => by cases z
    refine ⟨vs', zt _ _ hD, small1000 (by omega), ?_, ⟨_, upd_same, ?_⟩, hk2.set nD2, hk2.pen hpen (hpn.same zt) nD2⟩
    · have : a ≠ D2 := ne_of_none ha nD2
      rw [upd_ne this]
      exact zt _ _ hA
    · have e2 : turned sg (L.take (i + 1)) = turned sg (L.take i) ++ [(lk, lt, sg * lw)] := by
        unfold turned
        rw [List.take_add_one, hlf, List.map_append]
        rfl
      rw [e2, List.map_append]
      exact ((hvs.kt (.of zt)).kt t6).append (.cons (.tup (t6 _ _ upd_same) (.cons (.int _) (.cons ((g2.kt (.of zt)).kt t6) (.cons (.int _) .nil)))) .nil)
  obtain ⟨hA, ⟨vs', hD, hvs⟩, hk, hpn⟩ := h
  have hvl : vs'.length = L.length := by
    rw [hvs.length, List.length_map, turned_len, List.length_take, hln, Nat.min_self]
  rw [hln, List.take_length] at hvs
  refine ⟨_, rfl, D2, _, rfl, .inl (SqL.of hD), _, rfl, p, 2, r + (3 * L.length - 2) - 2, rfl, by decide, by decide, hpn.le (by omega), fun b H2 b0 b1 k2 pen2 => ?_⟩
  have kk2 := hk.trans k2
  have hD2 := k2.st _ _ hD D2p
  have hvs2 := hvs.kt (k2.kt hpn)
  refine ⟨_, _, rfl, rfl, _, _, rfl, rfl, ⟨by decide, by decide⟩, ?_⟩
  -- where the list is split
  obtain ⟨at_, hat⟩ : ∃ at_ : Nat, ((vs'.length : Int) + b) / 2 = (at_ : Int) := ⟨(((vs'.length : Int) + b) / 2).toNat, by omega⟩
  have hp2 : (2 : Nat) ^ (d + 1) = 2 * 2 ^ d := by rw [Nat.pow_succ]; omega
  have a1 : 1 ≤ at_ := by omega
  have a2 : at_ < L.length := by omega
  have a3 : at_ ≤ 2 ^ d := by omega
  have a4 : L.length - at_ ≤ 2 ^ d := by omega
  have v8 := congrArg (fun z => some (some (V.int z))) hat
  have hvl2 : at_ ≤ vs'.length := by omega
  obtain ⟨e1t, e2t⟩ := drs_take at_ hvs2
  have em : ∀ n, ((turned sg L).map Lf.d).take n = (turned sg (L.take n)).map Lf.d ∧ ((turned sg L).map Lf.d).drop n = (turned sg (L.drop n)).map Lf.d := fun n => by
    unfold turned
    rw [List.map_map, List.map_map, List.map_map, List.map_take, List.map_drop]
    exact ⟨rfl, rfl⟩
  rw [(em at_).1] at e1t
  rw [(em at_).2] at e2t
  have lt1 : (turned sg (L.take at_)).length = at_ := by rw [turned_len, List.length_take]; omega
  have lt2 : (turned sg (L.drop at_)).length = L.length - at_ := by rw [turned_len, List.length_drop]
  refine ⟨_, rfl, _, rfl, _, v8, _, rfl, D2, _, rfl, SqL.of hD2, fun l3 n3 => ?_⟩
  have z3 := same_upd (o := .lst (cutV vs' none (some (at_ : Int)))) n3
  have pen3 := pen2.same z3
  refine ⟨p, l3, _, turned sg (L.take at_), r + (3 * (L.length - at_) - 2), rfl, pen2.ne n3, upd_same, DRs.kt (by rw [cut_lo _ hvl2]; exact e1t) (KT.of z3), by omega, by omega, by omega, pen3.le (by omega), fun v1 u1 H4 hu1 cb1 k4 pen4 => ?_⟩
  have hD4 := k4.st _ _ (z3 _ _ hD2) D2p
  refine ⟨_, rfl, _, rfl, _, rfl, _, v8, _, rfl, D2, _, rfl, SqL.of hD4, fun l5 n5 => ?_⟩
  have z5 := same_upd (o := .lst (cutV vs' (some (at_ : Int)) none)) n5
  have pen5 := pen4.same z5
  have k25 : Kq p H2 (upd H4 l5 (.lst (cutV vs' (some (at_ : Int)) none))) := ((Kq.of z3).trans k4).new n5
  refine ⟨p, l5, _, turned sg (L.drop at_), r, rfl, pen4.ne n5, upd_same, DRs.kt (by rw [cut_hi _ hvl2]; exact e2t) (k25.kt pen2), by omega, by omega, by omega, pen5.le (by omega), fun v2 u2 H6 hu2 cb2 k6 pen6 => ⟨by show 3 ≤ sizeLine; decide, fun t7 n7 => ?_⟩⟩
  have z7 := same_upd (o := .tup [V.str "add", v1, v2]) n7
  have hadd : TR (upd H6 t7 (.tup [V.str "add", v1, v2])) (.ref t7) (.add u1 u2) := .tup upd_same (.cons (.str _) (.cons ((hu1.kt (((Kq.of (p := p) z5).trans k6).kt pen4)).kt (.of z7)) (.cons (hu2.kt (.of z7)) .nil)))
  have k7 := ((kk2.trans k25).trans k6).new (o := .tup [V.str "add", v1, v2]) n7
  have pen7 := pen6.same z7
  refine ⟨_, rfl, rfl, _, rfl, ite2 (fun c => ?_) (fun c => ?_)⟩
  · have c' : V.int sg = V.int 1 := of_decide_eq_true c
    injection c' with c'
    rw [c', turned_one] at cb1 cb2
    refine ⟨_, rfl, q _ _ _ hadd ?_ k7 pen7⟩
    have h := Comb.add cb1 cb2
    rw [List.take_append_drop] at h
    exact h
  · have c' : ¬ V.int sg = V.int 1 := of_decide_eq_false (Bool.eq_false_iff.mpr c)
    have hs : sg = -1 := by
      rcases hs1 with e | e
      · exact absurd (congrArg V.int e) c'
      · exact e
    rw [hs] at cb1 cb2
    refine ⟨_, rfl, _, rfl, by show 3 ≤ sizeLine; decide, fun t8 n8 => ?_⟩
    have z8 := same_upd (o := .tup [V.str "mul", .int sg, .ref t7]) n8
    have h := Comb.nadd cb1 cb2
    rw [List.take_append_drop] at h
    exact q _ (.mul (-1) (.add u1 u2)) _ (.tup upd_same (.cons (.str _) (.cons (by rw [hs]; exact .int _) (.cons (hadd.kt (.of z8)) .nil)))) h (k7.new n8) (pen7.same z8)
theorem ok_tree (D : Df K mg "_law_s_tree" 51) (ml : mg "len" = none) (mi : mg "int" = none) (G : Gv P w K mg base 2 "_law_take" ["_law_pen", "_law_many"] spTake) :
    ∀ d : Nat, Gv P w K mg base (d + 3) "_law_s_tree" ["_law_pen", "_law_leaves"] (spTree d)
  | 0 => st_tree D ml mi G 0 (Gv.never D (fun _ _ _ _ _ _ us hl => match us, hl with | [_, _], _ => rfl) fun _ _ _ _ h => h)
  | d + 1 => st_tree D ml mi G (d + 1) (ok_tree D ml mi G d)
end
end Lw
/-! Part E: a list == [] (a short way: the sizes tell). -/
namespace Lw
section
open PySem PySem.SeqAt AutoSeq1 MeetsSeq MeetsSeq2 MeetsSeq3 SeqRoads2
variable {prog : Program} {w : World}
theorem list_sizes_in (l b : Addr) (us vs : Array Value) (n m : Nat) (dd dd2 : Option Addr) (sl sl2 : Array (Option Value)) (hsz : us.size ≠ vs.size) :
    MeetsIn prog w (Builtin.«list.__eq__» ⟨[.ref l, .ref b], []⟩)
      (fun A R s => s.heap.get? l = some { cls := .type "list", dict := dd, data := .seq us n, slots := sl } ∧ s.heap.get? b = some { cls := .type "list", dict := dd2, data := .seq vs m, slots := sl2 } ∧ R (.ok (.ret (.bool false))) s) := by
  intro A R s h
  obtain ⟨hp, g, d, tk, os⟩ := s; obtain ⟨hl, hb, h⟩ := h
  have f3 := AutoSeq1.sub_list_list
  have hne : (us.size != vs.size) = true := by simp [hsz]
  wp_walk using wpAny_loadPart' hl, wpAny_loadPart' hb
  exact h
theorem rc_sizes {A : Around} {s : Shared} {l b : Addr} {us vs : Array Value} (hl : s.heap.IsList l us) (hb : s.heap.IsList b vs) (hsz : us.size ≠ vs.size) (hu : A.units < cLine) (E Q : Value → Shared → Prop) (h : Q (.bool false) s) :
    wpAny (model prog w) A (richCompare .Eq (.ref l) (.ref b)) Q E s := by
  obtain ⟨⟨cls, dd, data, sl⟩, ho, hc, n, hd⟩ := id hl
  obtain ⟨⟨cls2, dd2, data2, sl2⟩, ho2, hc2, n2, hd2⟩ := id hb
  simp only at hc hd hc2 hd2
  subst hc hd hc2 hd2
  have ta : s.TypeIs (.ref l) "list" := ⟨_, ho, rfl⟩
  have tb : s.TypeIs (.ref b) "list" := ⟨_, ho2, rfl⟩
  exact wpAny_richCompare_same_room (op := .Eq) ta tb F.slot_list_eq (call_meetsIn F.slot_list_eq ta F.entry_list_eq (F.args_list_eq_2 _ _) (list_sizes_in l b us vs n n2 dd dd2 sl sl2 hsz)
    ⟨ho, ho2, show Value.bool false ≠ Value.notImplemented ∧ Q (.bool false) s from ⟨(fun x => nomatch x), h⟩⟩) hu
end
open PySem PySem.Spec L2 PyProof.Rows
section
variable {X : Cx}
/-- a list == [] -/
theorem op_eqNil (hu : X.A.units + 64 < cLine) : OpR X (compareOp .Eq) (fun x y H Q => ∃ l b xs, x = .ref l ∧ y = .ref b ∧ H l = some (.lst xs) ∧ H b = some (.lst []) ∧ Q (.bl xs.isEmpty) H) := by
  intro pins s σ H x y v u Q I rx ry h
  obtain ⟨l, b, xs, rfl, rfl, hl, hb, q⟩ := h
  cases rx
  cases ry
  obtain ⟨its, r1, p1, _⟩ := I.list (SqL.of hl)
  obtain ⟨its2, r2, p2, _⟩ := I.list (SqL.of hb)
  have l2 : its2 = [] := by
    have := r2.length
    exact List.length_eq_zero_iff.mp this.symm
  subst l2
  have l1 := r1.length
  cases xs with
  | nil =>
    exact op_eqD hu pins s σ H (.ref l) (.ref b) _ _ Q I rfl rfl ⟨.list [], .list [], .lst (SqL.of hl) .nil, .lst (SqL.of hb) .nil, rfl, rfl, q⟩
  | cons x xs =>
    refine rc_sizes p1.isList p2.isList ?_ (by omega) _ _ ⟨.bl _, H, I, rfl, q⟩
    cases its with
    | nil => simp at l1
    | cons _ _ => simp
end
end Lw
/-! Part L: what spells a thing: definitions. -/
namespace Lw
open PySem PySem.Spec L2 PyProof.Rows
def Th.word : Th → Str
  | .nam _ => "name" | .sum _ _ => "sum" | .row _ => "row" | .wth _ _ _ => "with" | .room _ => "room" | .read _ _ => "read" | .size _ => "size" | .div _ _ => "div" | .mod _ _ => "mod"
/-- how deep things stand in one another, apart from sums -/
def Th.ht : Th → Nat
  | .wth r s t => max r.ht (max s.ht t.ht) + 1
  | .room s => s.ht + 1
  | .read r s => max r.ht s.ht + 1
  | .size r => r.ht + 1
  | .div s _ => s.ht + 1
  | .mod s _ => s.ht + 1
  | _ => 0
/-- how many sums it holds -/
def Th.sc : Th → Nat
  | .sum _ _ => 1
  | .wth r s t => r.sc + s.sc + t.sc
  | .room s => s.sc
  | .read r s => r.sc + s.sc
  | .size r => r.sc
  | .div s _ => s.sc
  | .mod s _ => s.sc
  | _ => 0
/-- the entries that its sums name are G -/
def Wf (es : List Th) (G : Th → Prop) : Th → Prop
  | .sum ps _ => ps.length ≤ 4 ∧ ∀ q ∈ ps, -100000000000000000000 ≤ q.2 ∧ q.2 ≤ 100000000000000000000 ∧ ∃ e, es[q.1]? = some e ∧ G e
  | .wth r s t => Wf es G r ∧ Wf es G s ∧ Wf es G t
  | .room s => Wf es G s
  | .read r s => Wf es G r ∧ Wf es G s
  | .size r => Wf es G r
  | .div s _ => Wf es G s
  | .mod s _ => Wf es G s
  | _ => True
/-- of this rank: its sums name entries of less rank -/
def Rk (es : List Th) : Nat → Th → Prop
  | 0 => Wf es fun _ => False
  | n + 1 => Wf es fun e => Rk es n e ∧ e.ht ≤ 4 ∧ e.sc ≤ 5
theorem Wf.mono {es : List Th} {G G' : Th → Prop} (h : ∀ e, G e → G' e) : ∀ th : Th, Wf es G th → Wf es G' th
  | .sum ps _, w => ⟨w.1, fun q hq => let ⟨a, b, e, he, g⟩ := w.2 q hq; ⟨a, b, e, he, h e g⟩⟩
  | .wth r s t, w => ⟨Wf.mono h r w.1, Wf.mono h s w.2.1, Wf.mono h t w.2.2⟩
  | .room s, w => Wf.mono h s w
  | .read r s, w => ⟨Wf.mono h r w.1, Wf.mono h s w.2⟩
  | .size r, w => Wf.mono h r w
  | .div s _, w => Wf.mono h s w
  | .mod s _, w => Wf.mono h s w
  | .nam _, _ => trivial
  | .row _, _ => trivial
theorem Rk.succ {es : List Th} : ∀ {n : Nat} {th : Th}, Rk es n th → Rk es (n + 1) th
  | 0, th, h => Wf.mono (fun _ z => z.elim) th h
  | n + 1, th, h => Wf.mono (fun _ z => ⟨Rk.succ z.1, z.2⟩) th h
/-- what a leaf counts, where the entry at k counts c k and one counts u -/
def lv (c : Nat → Int) (u : Int) (x : Lf) : Int := x.2.2 * (if x.1 < 0 then (match x.2.1 with | .num m => m * u | _ => 0) else c x.1.toNat)
/-- the leaves come to the sum -/
def Bal (L : List Lf) (ps : List (Nat × Int)) (n : Int) : Prop := ∀ (c : Nat → Int) (u : Int), (L.map (lv c u)).sum = (ps.map fun q => q.2 * c q.1).sum + n * u
/-- a term that spells a thing; nm tells what a name may be spelt as -/
inductive Spl (es : List Th) (nm : Key → Tm → Prop) : Th → Tm → Prop
  | nam {l : Key} {t : Tm} : nm l t → Spl es nm (.nam l) t
  | row (l : Key) : Spl es nm (.row l) (.row l)
  | wth {r s t : Th} {a b c : Tm} : Spl es nm r a → Spl es nm s b → Spl es nm t c → Spl es nm (.wth r s t) (.wth a b c)
  | room {s : Th} {b : Tm} : Spl es nm s b → Spl es nm (.room s) (.room b)
  | read {r s : Th} {a b : Tm} : Spl es nm r a → Spl es nm s b → Spl es nm (.read r s) (.read a b)
  | size {r : Th} {a : Tm} : Spl es nm r a → Spl es nm (.size r) (.size a)
  | div {s : Th} {b : Tm} (k : Int) : Spl es nm s b → Spl es nm (.div s k) (.div b k)
  | mod {s : Th} {b : Tm} (k : Int) : Spl es nm s b → Spl es nm (.mod s k) (.mod b k)
  | sum {ps : List (Nat × Int)} {n : Int} {L : List Lf} {t : Tm} : Bal L ps n → L.length ≤ 12 → (∀ x ∈ L, -100000000000000000002 ≤ x.2.2 ∧ x.2.2 ≤ 100000000000000000002) →
      (∀ x ∈ L, 0 ≤ x.1 → ∃ e, es[x.1.toNat]? = some e ∧ ((∃ w, (x.1.toNat, w) ∈ ps) ∨ ∃ l, e = .nam l)) → (∀ x ∈ L, 0 ≤ x.1 → ∀ e, es[x.1.toNat]? = some e → Spl es nm e x.2.1) → (∀ x ∈ L, x.1 < 0 → ∃ m, x.2.1 = .num m ∧ m.natAbs ≤ n.natAbs + 5) → Comb 4 L t → Spl es nm (.sum ps n) t
/-- a name stands for itself -/
def nmP : Key → Tm → Prop := fun l t => t = .name l
/-- a leaf as the law makes it -/
def LfOk (es : List Th) (ps : List (Nat × Int)) (nb : Nat) (x : Lf) : Prop := (-100000000000000000002 ≤ x.2.2 ∧ x.2.2 ≤ 100000000000000000002) ∧ ((0 ≤ x.1 ∧ ∃ e, es[x.1.toNat]? = some e ∧ Spl es nmP e x.2.1 ∧ ((∃ w, (x.1.toNat, w) ∈ ps) ∨ ∃ l, e = .nam l)) ∨ (x.1 = -1 ∧ ∃ m, x.2.1 = .num m ∧ m.natAbs ≤ nb))
theorem spl_leaves {es : List Th} {ps : List (Nat × Int)} {n : Int} {L : List Lf} {t : Tm} (hb : Bal L ps n) (hl : L.length ≤ 12) (h : ∀ x ∈ L, LfOk es ps (n.natAbs + 5) x) (hc : Comb 4 L t) : Spl es nmP (.sum ps n) t := by
  refine .sum hb hl (fun x hx => (h x hx).1) (fun x hx h0 => ?_) (fun x hx h0 e he => ?_) (fun x hx h0 => ?_) hc
  · rcases (h x hx).2 with ⟨_, e, he, _, hn⟩ | ⟨z, _⟩
    · exact ⟨e, he, hn⟩
    · omega
  · rcases (h x hx).2 with ⟨_, e', he', s, _⟩ | ⟨z, _⟩
    · rw [he'] at he
      cases he
      exact s
    · omega
  · rcases (h x hx).2 with ⟨z, _⟩ | ⟨_, m, e, b⟩
    · omega
    · exact ⟨m, e, b⟩
/-- the pool lies there -/
def PoolR (p : Addr) (H : Hp) (L : Addr) (es : List Th) : Prop := L ≠ p ∧ ∃ vs, H L = some (.lst vs) ∧ vs.length = es.length ∧ ∀ (i : Nat) (v : V) (e : Th), vs[i]? = some v → es[i]? = some e → ThR p H v e
theorem PoolR.keep {p L : Addr} {H H' : Hp} {es : List Th} (h : PoolR p H L es) (k : KL p H H') : PoolR p H' L es := by
  obtain ⟨h1, vs, h2, h3, h4⟩ := h
  exact ⟨h1, vs, k.2 _ _ h2 h1, h3, fun i v e a b => (h4 i v e a b).keep k⟩
theorem PoolR.at {p L : Addr} {H : Hp} {es : List Th} (h : PoolR p H L es) {i : Nat} {e : Th} (he : es[i]? = some e) : ∃ vs v, H L = some (.lst vs) ∧ atI vs (i : Int) = some v ∧ ThR p H v e := by
  obtain ⟨h1, vs, h2, h3, h4⟩ := h
  have hi : i < vs.length := by rw [h3]; exact (List.getElem?_eq_some_iff.mp he).1
  exact ⟨vs, vs[i], h2, atI_nat (List.getElem?_eq_getElem hi), h4 i _ e (List.getElem?_eq_getElem hi) he⟩
theorem ThR.word {p : Addr} {H : Hp} {v : V} : ∀ {th : Th}, ThR p H v th → ∃ a rest, v = .ref a ∧ H a = some (.tup (.str th.word :: rest))
  | .nam l, h => by
    obtain ⟨a, xs, rfl, ha, hx⟩ := DR.tup_inv h
    obtain ⟨x, r, rfl, g, _⟩ := hx.cons_inv
    cases g.str_inv
    exact ⟨a, r, rfl, ha⟩
  | .row l, h => by
    obtain ⟨a, xs, rfl, ha, hx⟩ := DR.tup_inv h
    obtain ⟨x, r, rfl, g, _⟩ := hx.cons_inv
    cases g.str_inv
    exact ⟨a, r, rfl, ha⟩
  | .sum _ _, ⟨a, b, xs, e, h, _⟩ => ⟨a, _, e, h⟩
  | .wth _ _ _, ⟨a, _, _, _, e, h, _⟩ => ⟨a, _, e, h⟩
  | .room _, ⟨a, _, e, h, _⟩ => ⟨a, _, e, h⟩
  | .read _ _, ⟨a, _, _, e, h, _⟩ => ⟨a, _, e, h⟩
  | .size _, ⟨a, _, e, h, _⟩ => ⟨a, _, e, h⟩
  | .div _ _, ⟨a, _, e, h, _⟩ => ⟨a, _, e, h⟩
  | .mod _ _, ⟨a, _, e, h, _⟩ => ⟨a, _, e, h⟩
/-! ### sums over lists -/
theorem sum_app (xs ys : List Int) : (xs ++ ys).sum = xs.sum + ys.sum := by
  induction xs with
  | nil => simp
  | cons x xs ih => rw [List.cons_append, List.sum_cons, List.sum_cons, ih]; omega
theorem sum_ins {α : Type} (f : α → Int) (L : List α) (x : α) (j : Nat) : ((L.take j ++ [x] ++ L.drop j).map f).sum = f x + (L.map f).sum := by
  have h : (L.map f).sum = ((L.take j ++ L.drop j).map f).sum := by rw [List.take_append_drop]
  rw [h, List.map_append, List.map_append, List.map_append, sum_app, sum_app, sum_app]
  simp
  omega
theorem mem_ins {α : Type} {L : List α} {x y : α} {j : Nat} (h : y ∈ L.take j ++ [x] ++ L.drop j) : y = x ∨ y ∈ L := by
  rcases List.mem_append.mp h with h | h
  · rcases List.mem_append.mp h with h | h
    · exact .inr (List.mem_of_mem_take h)
    · exact .inl (List.mem_singleton.mp h)
  · exact .inr (List.mem_of_mem_drop h)
theorem len_ins {α : Type} (L : List α) (x : α) (j : Nat) : (L.take j ++ [x] ++ L.drop j).length = L.length + 1 := by
  rw [List.length_append, List.length_append, List.length_take, List.length_drop, List.length_singleton]
  omega
theorem drs_ins {H : Hp} {us : List V} {L : List Lf} {v : V} {x : Lf} (h : DRs H us (L.map Lf.d)) (hv : DR H v x.d) (j : Nat) : DRs H (us.take j ++ [v] ++ us.drop j) ((L.take j ++ [x] ++ L.drop j).map Lf.d) := by
  obtain ⟨h1, h2⟩ := drs_take j h
  rw [List.map_append, List.map_append, List.map_take, List.map_drop]
  exact (h1.append (.cons hv .nil)).append h2
end Lw
/-! Part M: the leaves of a sum, the spelling of a thing: the walk. -/
namespace Lw
open PySem PySem.Spec L2 PyProof.Rows
/-- what the leaves of a sum of this rank may draw -/
def cl : Nat → Nat
  | 0 => 40
  | n + 1 => 40 + 8 * (5 * (cl n + 40))
/-- what the spelling of a thing may draw -/
def cs (n : Nat) (th : Th) : Nat := th.sc * (cl n + 40)
/-- the first four entries are names -/
def Names4 (es : List Th) : Prop := ∀ i : Nat, i < 4 → ∃ l, es[i]? = some (.nam l)
def spSpelt (es : List Th) (n h : Nat) : Sp := fun vs H Q _ => ∃ (p L : Addr) (v : V) (th : Th) (r : Nat), vs = [.ref p, .ref L, v] ∧ PoolR p H L es ∧ Names4 es ∧ ThR p H v th ∧ Rk es n th ∧ th.ht ≤ h ∧ th.sc ≤ 5 ∧ Pen H p (r + cs n th) ∧
  ∀ v' t H', TR H' v' t → Spl es nmP th t → Kq p H H' → Pen H' p r → Q v' H'
def spLeaves (es : List Th) (n : Nat) : Sp := fun vs H Q _ => ∃ (p L : Addr) (v : V) (ps : List (Nat × Int)) (m : Int) (r : Nat), vs = [.ref p, .ref L, v] ∧ PoolR p H L es ∧ Names4 es ∧ ThR p H v (.sum ps m) ∧ Rk es n (.sum ps m) ∧ Pen H p (r + cl n) ∧
  ∀ F us LL H', H F = none → H' F = some (.lst us) → DRs H' us (LL.map Lf.d) → 1 ≤ LL.length → LL.length ≤ 12 → Bal LL ps m → (∀ x ∈ LL, LfOk es ps (m.natAbs + 5) x) → Kq p H H' → Pen H' p r → Q (.ref F) H'
/-- the list of leaves at F, made since H -/
structure FI (p F : Addr) (H H' : Hp) (LL : List Lf) (r : Nat) : Prop where
  k : Kq p H H'
  pn : Pen H' p r
  fd : ∃ us, H' F = some (.lst us) ∧ DRs H' us (LL.map Lf.d)
theorem FI.step {p F : Addr} {H H1 H2 : Hp} {LL : List Lf} {r1 r2 : Nat} (f : FI p F H H1 LL r1) (k : Kq p H1 H2) (pn : Pen H2 p r2) (hF : F ≠ p) : FI p F H H2 LL r2 := by
  obtain ⟨us, h1, h2⟩ := f.fd
  exact ⟨f.k.trans k, pn, us, k.st _ _ h1 hF, h2.kt (k.kt f.pn)⟩
theorem FI.ins {p F : Addr} {H H' : Hp} {LL : List Lf} {r r0 : Nat} (f : FI p F H H' LL r) (nF : H F = none) (p0 : Pen H p r0) {us : List V} (hu : H' F = some (.lst us)) {v : V} {x : Lf} (hx : DR H' v x.d) (j : Nat) :
    FI p F H (upd H' F (.lst (us.take j ++ [v] ++ us.drop j))) (LL.take j ++ [x] ++ LL.drop j) r := by
  obtain ⟨us', h1, h2⟩ := f.fd
  rw [hu] at h1
  cases h1
  have t : KT H' (upd H' F (.lst (us.take j ++ [v] ++ us.drop j))) := KT.set hu fun ys z => by cases z
  exact ⟨f.k.set nF, f.k.pen p0 f.pn nF, _, upd_same, drs_ins (h2.kt t) (hx.kt t) j⟩
theorem FI.len {p F : Addr} {H H' : Hp} {LL : List Lf} {r : Nat} (f : FI p F H H' LL r) {us : List V} (hu : H' F = some (.lst us)) : us.length = LL.length := by
  obtain ⟨us', h1, h2⟩ := f.fd
  rw [hu] at h1
  cases h1
  rw [h2.length, List.length_map]
theorem bal_ins {L : List Lf} {qs : List (Nat × Int)} {k : Nat} {a o : Int} {t : Tm} (h : Bal L (qs ++ [(k, a)]) 0) (j : Nat) : Bal (L.take j ++ [((k : Int), t, o)] ++ L.drop j) (qs ++ [(k, a + o)]) 0 := fun c u => by
  rw [sum_ins, h c u, List.map_append, List.map_append, sum_app, sum_app]
  have e : lv c u ((k : Int), t, o) = o * c k := by
    unfold lv
    rw [if_neg (by show ¬ (k : Int) < 0; omega)]
    rfl
  rw [e]
  simp only [List.map_cons, List.map_nil, List.sum_cons, List.sum_nil, Int.add_mul]
  omega
theorem atI_head {α : Type} (x : α) (xs : List α) : atI (x :: xs) 0 = some x := atI_nat (j := 0) rfl
theorem bal_zero {L : List Lf} {qs : List (Nat × Int)} {k : Nat} {n : Int} : Bal L (qs ++ [(k, 0)]) n ↔ Bal L qs n := by
  have e : ∀ c : Nat → Int, ((qs ++ [(k, (0 : Int))]).map fun q => q.2 * c q.1).sum = (qs.map fun q => q.2 * c q.1).sum := fun c => by
    rw [List.map_append, sum_app]
    simp
  constructor
  · intro h c u
    rw [h c u, e]
  · intro h c u
    rw [h c u, e]
theorem bal_num {L : List Lf} {ps : List (Nat × Int)} {a o s : Int} (h : Bal L ps a) (hs : s * s = 1) (j : Nat) : Bal (L.take j ++ [((-1 : Int), Tm.num (s * o), s)] ++ L.drop j) ps (a + o) := fun c u => by
  rw [sum_ins, h c u]
  have e : lv c u ((-1 : Int), Tm.num (s * o), s) = o * u := by
    show s * (if (-1 : Int) < 0 then s * o * u else _) = _
    rw [if_pos (by decide), show s * (s * o * u) = s * s * (o * u) by simp only [Int.mul_assoc], hs, Int.one_mul]
  rw [e, Int.add_mul]
  omega
theorem scLeaves : FnScope ["_law_pen", "_law_pool", "_law_made_of", "_law_found", "_law_k", "_law_weight", "_law_part", "_law_often", "_law_spare", "_law_number", "_law_sign"] ["_law_pen", "_law_pool", "_law_made_of"] (defScope (top 50)) := ⟨rfl, rfl, rfl, by decide +kernel, rfl, by decide +kernel, by decide +kernel⟩
theorem scSpelt : FnScope ["_law_pen", "_law_pool", "_law_thing", "_law_part"] ["_law_pen", "_law_pool", "_law_thing"] (defScope (top 49)) := ⟨rfl, rfl, rfl, by decide +kernel, rfl, by decide +kernel, by decide +kernel⟩
section
variable {P : Program} {w : World} {K : PySem.W.Frag} {mg : Str → Option Value} {base : Heap}
theorem st_leaves (D : Df K mg "_law_s_leaves" 50) (ml : mg "len" = none) (mi : mg "int" = none) (G : Gv P w K mg base 2 "_law_take" ["_law_pen", "_law_many"] spTake) (es : List Th) (n k : Nat) (hk : 2 ≤ k)
    (GS : ∀ n', n = n' + 1 → Gv P w K mg base k "_law_s_spelt" ["_law_pen", "_law_pool", "_law_thing"] (spSpelt es n' 4)) (DS : Df K mg "_law_s_spelt" 49) :
    Gv P w K mg base (k + 1) "_law_s_leaves" ["_law_pen", "_law_pool", "_law_made_of"] (spLeaves es n) := by
  -- what is asked of an entry's spelling
  obtain ⟨spE, GE, hE⟩ : ∃ spE : Sp, Gv P w K mg base k "_law_s_spelt" ["_law_pen", "_law_pool", "_law_thing"] spE ∧ ∀ n', n = n' + 1 → spE = spSpelt es n' 4 := by
    cases n with
    | zero => exact ⟨fun _ _ _ _ => False, Gv.never DS (fun _ _ _ _ _ _ us hl => match us, hl with | [_, _, _], _ => rfl) fun _ _ _ _ z => z, fun n' e => by omega⟩
    | succ n' => exact ⟨_, GS n' rfl, fun m e => by cases e; rfl⟩
  refine okV D scLeaves (fun _ _ _ _ _ _ us hl => match us, hl with | [_, _, _], _ => rfl) (fun vs H Q E h => ?_) (fun f cdv A out s H vs Q E hr h => ?_)
  · obtain ⟨p, L, v, ps, m, r, rfl, _⟩ := h
    rfl
  obtain ⟨p, L, mv, ps, m, r, rfl, hL, h4, hmv, hrk, hpen, q⟩ := h
  have nd := scLeaves.nd
  have hr2 := hr.mono hk
  refine ⟨_, pss_cons (ps_set (i := 3) nd rfl (Or.inl rfl) (pe_lst pa_nil))
    (pss_cons (ps_for PassesOwn.never rfl (pi_list (pe_ix ix_tup (pv 2) pe_int (fun _ _ => rfl))) (pg_tup rfl (pgs_cons (pg_name (i := 4) nd rfl (Or.inl rfl)) (pgs_cons (pg_name (i := 5) nd rfl (Or.inl rfl)) pgs_nil)))
      (pss_cons (ps_set (i := 6) nd rfl (Or.inl rfl) (pe_op op_mul (pe_ix ix_list (pe_lst (pa_cons pe_int (pa_cons pe_int (pa_cons pe_int (pa_cons (pe_un un_neg pe_int) pa_nil))))) (pe_v (E := E0) G hr2 rfl (pa_cons (pv 0) (pa_cons pe_int pa_nil))) (fun _ _ => rfl))
          (pe_callTy call_int1 rfl mi boot_int (pa_cons (pe_cmpR op_eq (pe_ix ix_tup (pe_ix ix_list (pv 1) (pv 4) (fun _ _ => rfl)) pe_int (fun _ _ => rfl)) pe_str (nomark _)) pa_nil))))
      (pss_one (ps_for PassesOwn.never rfl (pi_list (pe_lst (pa_cons (pv 6) (pa_cons (pe_op op_sub (pv 5) (pv 6)) pa_nil)))) (pg_name (i := 7) nd rfl (Or.inl rfl))
        (pss_one (ps_if (pt_cmpR op_ne (pv 7) pe_int (nomark _))
          (pss_one (ps_expr (pe_bm PySem.F.plainAttrs_list PySem.F.slot_list_insert PySem.F.type_list_insert mt_insert (pv 3) (pa_cons (pe_v (E := E0) G hr2 rfl (pa_cons (pv 0) (pa_cons (pe_op op_add (pe_callB call_len_seq rfl ml PySem.boot_len (pa_cons (pv 3) pa_nil)) pe_int) pa_nil)))
            (pa_cons (pe_tup (pa_cons (pv 4) (pa_cons (pe_v (E := E0) GE hr rfl (pa_cons (pv 0) (pa_cons (pv 1) (pa_cons (pe_ix ix_list (pv 1) (pv 4) (fun _ _ => rfl)) pa_nil)))) (pa_cons (pv 7) pa_nil)))) pa_nil))))) pss_nil))))))
    (lessS (t' := fun D σ H' => ∃ (F : Addr) (LL : List Lf) (e4 e5 e6 e7 e8 e9 e10 : Option V), σ = [some (.ref p), some (.ref L), some mv, some (.ref F), e4, e5, e6, e7, e8, e9, e10] ∧ F ≠ p ∧ H F = none ∧ FI p F H H' LL (r + 20) ∧ LL.length ≤ 8 ∧ Bal LL ps 0 ∧ (∀ x ∈ LL, LfOk es ps (m.natAbs + 5) x) ∧ D.rt = Q)
    (pss_cons (ps_if (pt_cmpR op_eq (pe_v (E := E0) G hr2 rfl (pa_cons (pv 0) (pa_cons pe_int pa_nil))) pe_int (nomark _))
      (pss_cons (ps_set (i := 8) nd rfl (Or.inl rfl) (pe_v (E := E0) G hr2 rfl (pa_cons (pv 0) (pa_cons pe_int pa_nil))))
      (pss_one (ps_for PassesOwn.never rfl (pi_list (pe_ix ix_list (pe_lst (pa_cons (pe_lst (pa_cons pe_int pa_nil)) (pa_cons (pe_lst (pa_cons pe_int (pa_cons (pe_un un_neg pe_int) pa_nil))) (pa_cons (pe_lst (pa_cons (pe_un un_neg pe_int) (pa_cons pe_int pa_nil))) pa_nil)))) (pe_v (E := E0) G hr2 rfl (pa_cons (pv 0) (pa_cons pe_int pa_nil))) (fun _ _ => rfl))) (pg_name (i := 7) nd rfl (Or.inl rfl))
        (pss_one (ps_expr (pe_bm PySem.F.plainAttrs_list PySem.F.slot_list_insert PySem.F.type_list_insert mt_insert (pv 3) (pa_cons (pe_v (E := E0) G hr2 rfl (pa_cons (pv 0) (pa_cons (pe_op op_add (pe_callB call_len_seq rfl ml PySem.boot_len (pa_cons (pv 3) pa_nil)) pe_int) pa_nil)))
            (pa_cons (pe_tup (pa_cons (pv 8) (pa_cons (pe_ix ix_list (pv 1) (pv 8) (fun _ _ => rfl)) (pa_cons (pv 7) pa_nil)))) pa_nil)))))))) pss_nil)
    (lessS (t' := fun D σ H' => ∃ (F : Addr) (LL : List Lf) (e4 e5 e6 e7 e8 e9 e10 : Option V), σ = [some (.ref p), some (.ref L), some mv, some (.ref F), e4, e5, e6, e7, e8, e9, e10] ∧ F ≠ p ∧ H F = none ∧ FI p F H H' LL (r + 10) ∧ LL.length ≤ 10 ∧ Bal LL ps 0 ∧ (∀ x ∈ LL, LfOk es ps (m.natAbs + 5) x) ∧ D.rt = Q)
    (pss_cons (ps_set (i := 6) nd rfl (Or.inl rfl) (pe_ix ix_list (pe_lst (pa_cons pe_int (pa_cons pe_int (pa_cons pe_int (pa_cons pe_int pa_nil))))) (pe_v (E := E0) G hr2 rfl (pa_cons (pv 0) (pa_cons pe_int pa_nil))) (fun _ _ => rfl)))
    (pss_cons (ps_for PassesOwn.never rfl (pi_list (pe_lst (pa_cons (pv 6) (pa_cons (pe_op op_sub (pe_ix ix_tup (pv 2) pe_int (fun _ _ => rfl)) (pv 6)) pa_nil)))) (pg_name (i := 9) nd rfl (Or.inl rfl))
      (pss_one (ps_if (PW.pt (pw_or (pt_cmpR op_ne (pv 9) pe_int (nomark _)) (pw_or1 (pt_cmpR (op_eqNil hr.units) (pv 3) (pe_lst pa_nil) (nomark _)))))
        (lessS (t' := fun D σ H3 => ∃ (F : Addr) (LL : List Lf) (e4 e5 e6 e7 e8 e10 : Option V) (nb : Int) (rr : Nat), σ = [some (.ref p), some (.ref L), some mv, some (.ref F), e4, e5, e6, e7, e8, some (.int nb), e10] ∧ F ≠ p ∧ H F = none ∧ FI p F H H3 LL (rr + 2) ∧ LL.length ≤ 20 ∧
            ∀ (H4 : Hp) (j : Nat) (sg : Int), sg = 1 ∨ sg = -1 → FI p F H H4 (LL.take j ++ [((-1 : Int), Tm.num (sg * nb), sg)] ++ LL.drop j) rr → (∀ b o, H3 b = some o → b ≠ F → b ≠ p → H4 b = some o) → D.nx [some (.ref p), some (.ref L), some mv, some (.ref F), e4, e5, e6, e7, e8, some (.int nb), some (.int sg)] H4)
        (pss_cons (ps_set (i := 10) nd rfl (Or.inl rfl) (pe_ix ix_list (pe_lst (pa_cons pe_int (pa_cons pe_int (pa_cons pe_int (pa_cons (pe_un un_neg pe_int) pa_nil))))) (pe_v (E := E0) G hr2 rfl (pa_cons (pv 0) (pa_cons pe_int pa_nil))) (fun _ _ => rfl)))
        (pss_one (ps_expr (pe_bm PySem.F.plainAttrs_list PySem.F.slot_list_insert PySem.F.type_list_insert mt_insert (pv 3) (pa_cons (pe_v (E := E0) G hr2 rfl (pa_cons (pv 0) (pa_cons (pe_op op_add (pe_callB call_len_seq rfl ml PySem.boot_len (pa_cons (pv 3) pa_nil)) pe_int) pa_nil)))
            (pa_cons (pe_tup (pa_cons (pe_un un_neg pe_int) (pa_cons (pe_tup (pa_cons pe_str (pa_cons (pe_op op_mul (pv 10) (pv 9)) pa_nil))) (pa_cons (pv 10) pa_nil)))) pa_nil)))))) fun D σ H3 h => ?_) pss_nil)))
    (pss_one (ps_ret (pv 3))))) fun D σ H' h => ?_)) fun D σ H' h => ?_)), ?_⟩
  · -- the insertion of a number
    obtain ⟨F, LL, e4, e5, e6, e7, e8, e10, nb, rr, rfl, hFp, nF, f, hl, h⟩ := h
    refine ⟨_, rfl, by show 4 ≤ sizeLine; decide, fun l1 n1 => ?_⟩
    have z1 := same_upd (o := .lst [V.int 1, .int 1, .int 1, .int (-1)]) n1
    refine ⟨_, rfl, p, 4, rr + 1, rfl, by decide, by decide, f.pn.same z1, fun t H4 t0 t1 k4 pen4 => ?_⟩
    have l1p := f.pn.ne n1
    obtain ⟨sg, hsg, hsm⟩ := atI_int [1, 1, 1, -1] (i := t) t0 (by show t < (4 : Nat); omega)
    have hs1 : sg = 1 ∨ sg = -1 := by simpa using hsm
    refine ⟨l1, _, _, _, rfl, rfl, SqL.of (k4.st _ _ upd_same l1p), hsg, ?_⟩
    have f4 := f.step ((Kq.of (p := p) z1).trans k4) pen4 hFp
    obtain ⟨us4, hu4, _⟩ := f4.fd
    have hul4 := f4.len hu4
    refine ⟨_, rfl, .inl ⟨rfl, _, SqL.of hu4⟩, _, rfl, _, rfl, F, _, rfl, .inl (SqL.of hu4), _, _, rfl, rfl, p, _, rr, rfl, by omega, by omega, pen4, fun j H5 j0 j1 k5 pen5 => ?_⟩
    have hsb : (-(2 ^ 64) : Int) < sg ∧ sg < 2 ^ 64 := by rcases hs1 with rfl | rfl <;> decide
    refine ⟨_, rfl, _, rfl, _, rfl, _, _, rfl, rfl, .inl hsb, by show 2 ≤ sizeLine; decide, fun t6 n6 => ⟨_, rfl, by show 3 ≤ sizeLine; decide, fun t7 n7 => ?_⟩⟩
    have z6 := same_upd (o := .tup [V.str "num", .int (sg * nb)]) n6
    have z7 := same_upd (o := .tup [V.int (-1), .ref t6, .int sg]) n7
    have f7 := (f4.step k5 pen5 hFp).step ((Kq.of (p := p) z6).trans (.of z7)) ((pen5.same z6).same z7) hFp
    have hu7 := z7 _ _ (z6 _ _ (k5.st _ _ hu4 hFp))
    refine ⟨F, us4, j, _, rfl, rfl, hu7, small1000 (by omega), j0, by omega, ?_⟩
    refine h _ j.toNat sg hs1 (f7.ins (x := ((-1 : Int), Tm.num (sg * nb), sg)) nF hpen hu7 (.tup upd_same (.cons (.int (-1)) (.cons (.tup (z7 _ _ upd_same) (.cons (.str _) (.cons (.int _) .nil))) (.cons (.int _) .nil)))) j.toNat) fun b o e nbF nbp => ?_
    rw [upd_ne nbF]
    exact z7 _ _ (z6 _ _ (k5.st _ _ (k4.st _ _ (z1 _ _ e) nbp) nbp))
  · obtain ⟨F, LL, e4, e5, e6, e7, e8, e9, e10, rfl, hFp, nF, fi, hl10, hb, hok, hQ⟩ := h
    refine ⟨by show 4 ≤ sizeLine; decide, fun l1 n1 => ?_⟩
    have z1 := same_upd (o := .lst [V.int 0, .int 0, .int 0, .int 5]) n1
    refine ⟨_, rfl, p, 4, r + 9, rfl, by decide, by decide, (fi.pn.same z1).le (by omega), fun t H1 t0 t1 k1 pen1 => ?_⟩
    have l1p := fi.pn.ne n1
    obtain ⟨part, hpart, hpm⟩ := atI_int [0, 0, 0, 5] (i := t) t0 (by show t < (4 : Nat); omega)
    have hp05 : part = 0 ∨ part = 5 := by simpa using hpm
    refine ⟨l1, _, _, _, rfl, rfl, SqL.of (k1.st _ _ upd_same l1p), hpart, ?_⟩
    have fi1 := fi.step ((Kq.of (p := p) z1).trans k1) pen1 hFp
    obtain ⟨ma, mb, mxs, hma1, hma2, _, _, _⟩ := (hmv.keep (fi1.k.kl hpen))
    refine ⟨_, rfl, _, rfl, ma, _, _, _, hma1, rfl, SqT.of hma2, rfl, _, rfl, _, _, rfl, rfl, by show 2 ≤ sizeLine; decide, fun l2 n2 => ?_⟩
    have z2 := same_upd (o := .lst [V.int part, .int (m - part)]) n2
    have l2p := pen1.ne n2
    have fi2 := fi1.step (Kq.of (p := p) z2) (pen1.same z2) hFp
    have nl2 : H l2 = none := by
      cases e : H l2 with
      | none => rfl
      | some o =>
        rw [fi1.k.st _ _ e l2p] at n2
        cases n2
    have hF2 : F ≠ l2 := fun z => by
      obtain ⟨us, hu, _⟩ := fi1.fd
      rw [z, n2] at hu
      cases hu
    refine ⟨l2, rfl, ⟨_, SqL.of upd_same⟩, for_list (K := K) (a := l2) (xs := [V.int part, .int (m - part)]) (fun j σ H' => ∃ (LL : List Lf) (e7 e9 e10 : Option V), σ = [some (.ref p), some (.ref L), some mv, some (.ref F), e4, e5, some (.int part), e7, e8, e9, e10] ∧ H' l2 = some (.lst [V.int part, .int (m - part)]) ∧ FI p F H H' LL (r + 2 * (2 - j)) ∧ LL.length ≤ 10 + j ∧
      Bal LL ps (([part, m - part].take j).sum) ∧ (∀ x ∈ LL, LfOk es ps (m.natAbs + 5) x) ∧ (1 ≤ j → 1 ≤ LL.length)) ?_ (fun j σ H' hj h => ?_) (fun j x σ H' hx h => ?_) (fun σ H' h => ?_)⟩
    · exact ⟨LL, e7, e9, e10, rfl, upd_same, ⟨fi2.k, fi2.pn.le (by omega), fi2.fd⟩, by omega, hb, hok, fun z => by omega⟩
    · obtain ⟨_, _, _, _, _, h2, _⟩ := h
      exact SqL.of h2
    · obtain ⟨LL, e7, e9, e10, rfl, h2, f, hl, hb, hok, hne⟩ := h
      have hj2 : j < 2 := (List.getElem?_eq_some_iff.mp hx).1
      obtain ⟨nb, hnb, hnx, hnn⟩ : ∃ nb : Int, x = .int nb ∧ ([part, m - part].take (j + 1)).sum = ([part, m - part].take j).sum + nb ∧ nb.natAbs ≤ m.natAbs + 5 := by
        have : j = 0 ∨ j = 1 := by omega
        rcases this with rfl | rfl
        · exact ⟨part, (Option.some.inj hx).symm, by simp, by omega⟩
        · exact ⟨m - part, (Option.some.inj hx).symm, by simp, by omega⟩
      subst hnb
      obtain ⟨us, hu, hud⟩ := f.fd
      have hul := f.len hu
      have tk2 : ([part, m - part].take (j + 1)).sum = ([part, m - part].take j).sum + nb := hnx
      have go : ∀ (H3 : Hp), (∃ l, Same H' H3 ∧ l = l2) → ∃ (F_1 : Addr) (LL_1 : List Lf) (e4_1 e5_1 e6_1 e7_1 e8_1 e10_1 : Option V) (nb_1 : Int) (rr : Nat), [some (V.ref p), some (.ref L), some mv, some (.ref F), e4, e5, some (.int part), e7, e8, some (.int nb), e10] = [some (.ref p), some (.ref L), some mv, some (.ref F_1), e4_1, e5_1, e6_1, e7_1, e8_1, some (.int nb_1), e10_1] ∧ F_1 ≠ p ∧ H F_1 = none ∧ FI p F_1 H H3 LL_1 (rr + 2) ∧ LL_1.length ≤ 20 ∧
          ∀ (H4 : Hp) (i : Nat) (sg : Int), sg = 1 ∨ sg = -1 → FI p F_1 H H4 (LL_1.take i ++ [((-1 : Int), Tm.num (sg * nb_1), sg)] ++ LL_1.drop i) rr → (∀ b o, H3 b = some o → b ≠ F_1 → b ≠ p → H4 b = some o) →
          ∃ (LL : List Lf) (e7' e9' e10' : Option V), [some (V.ref p), some (.ref L), some mv, some (.ref F_1), e4_1, e5_1, e6_1, e7_1, e8_1, some (.int nb_1), some (.int sg)] = [some (.ref p), some (.ref L), some mv, some (.ref F), e4, e5, some (.int part), e7', e8, e9', e10'] ∧ H4 l2 = some (.lst [V.int part, .int (m - part)]) ∧ FI p F H H4 LL (r + 2 * (2 - (j + 1))) ∧ LL.length ≤ 10 + (j + 1) ∧
            Bal LL ps (([part, m - part].take (j + 1)).sum) ∧ (∀ x ∈ LL, LfOk es ps (m.natAbs + 5) x) ∧ (1 ≤ j + 1 → 1 ≤ LL.length) := fun H3 ⟨_, s3, _⟩ => by
        refine ⟨F, LL, e4, e5, some (.int part), e7, e8, e10, nb, r + 2 * (2 - (j + 1)), rfl, hFp, nF, f.step (.of s3) ((f.pn.same s3).le (by omega)) hFp, by omega, fun H4 i sg hs f4 kp => ?_⟩
        refine ⟨_, e7, some (.int nb), some (.int sg), rfl, kp _ _ (s3 _ _ h2) (Ne.symm hF2) l2p, f4, by rw [len_ins]; omega, ?_, fun y hy => ?_, fun _ => by rw [len_ins]; omega⟩
        · rw [hnx]
          exact bal_num hb (by rcases hs with rfl | rfl <;> rfl) i
        · rcases mem_ins hy with rfl | hy
          · refine ⟨⟨by show (-100000000000000000002 : Int) ≤ sg; omega, by show sg ≤ (100000000000000000002 : Int); omega⟩, .inr ⟨rfl, _, rfl, ?_⟩⟩
            rcases hs with rfl | rfl
            · rw [Int.one_mul]; exact hnn
            · show (-1 * nb).natAbs ≤ _
              omega
          · exact hok y hy
      refine ⟨_, rfl, rfl, _, rfl, ite2 (fun c => ?_) (fun c => ?_)⟩
      · exact go H' ⟨l2, fun _ _ e => e, rfl⟩
      · have hn0 : nb = 0 := by
          have c' : ¬ (!decide (V.int nb = V.int 0)) = true := c
          by_cases hz : nb = 0
          · exact hz
          · exfalso
            refine c' ?_
            have : ¬ V.int nb = V.int 0 := fun z => hz (by injection z)
            rw [decide_eq_false this]
            rfl
        refine ⟨_, rfl, by decide, fun l3 n3 => ?_⟩
        have z3 := same_upd (o := .lst []) n3
        refine ⟨F, l3, us, rfl, rfl, z3 _ _ hu, upd_same, _, rfl, ite2 (fun c2 => ?_) (fun c2 => ?_)⟩
        · exact go _ ⟨l2, z3, rfl⟩
        · have hne1 : 1 ≤ LL.length := by
            cases us with
            | nil => exact absurd rfl c2
            | cons _ _ => rw [← hul]; simp
          refine ⟨LL, e7, some (.int nb), e10, rfl, z3 _ _ h2, f.step (.of z3) ((f.pn.same z3).le (by omega)) hFp, by omega, ?_, hok, fun _ => hne1⟩
          rw [hnx, hn0, Int.add_zero]
          exact hb
    · obtain ⟨LL, e7, e9, e10, rfl, h2, f, hl, hb, hok, hne⟩ := h
      obtain ⟨us, hu, hud⟩ := f.fd
      refine ⟨_, rfl, ?_⟩
      rw [hQ]
      have e0 : ([part, m - part].take ([V.int part, .int (m - part)].length)).sum = m := by
        show ([part, m - part].take 2).sum = m
        simp
        omega
      rw [e0] at hb
      exact q F us LL H' nF hu hud (hne (by show 1 ≤ 2; decide)) (by have : LL.length ≤ 10 + 2 := hl; omega) hb hok f.k (f.pn.le (by omega))
  · -- the spare one
    obtain ⟨F, LL, e4, e5, e6, e7, e8, e9, e10, rfl, hFp, nF, fi, hl8, hb, hok, hQ⟩ := h
    refine ⟨_, rfl, p, 4, r + 19, rfl, by decide, by decide, fi.pn.le (by omega), fun t H1 t0 t1 k1 pen1 => ?_⟩
    have fi1 := fi.step k1 pen1 hFp
    refine ⟨rfl, _, rfl, ite2 (fun _ => ?_) (fun _ => ?_)⟩
    · refine ⟨_, rfl, p, 4, r + 18, rfl, by decide, by decide, pen1, fun sp H2 sp0 sp1 k2 pen2 => ?_⟩
      have fi2 := fi1.step k2 pen2 hFp
      obtain ⟨sk, rfl⟩ : ∃ sk : Nat, sp = (sk : Int) := ⟨sp.toNat, by omega⟩
      obtain ⟨sl, hsl⟩ := h4 sk (by omega)
      refine ⟨by show 1 ≤ sizeLine; decide, fun a1 m1 => ⟨_, rfl, by show 2 ≤ sizeLine; decide, fun a2 m2 => ⟨_, rfl, by show 2 ≤ sizeLine; decide, fun a3 m3 => ⟨by show 3 ≤ sizeLine; decide, fun a4 m4 => ?_⟩⟩⟩⟩
      have z1 := same_upd (o := .lst [V.int 0]) m1
      have z2 := same_upd (o := .lst [V.int 2, .int (-2)]) m2
      have z3 := same_upd (o := .lst [V.int (-1), .int 1]) m3
      have z4 := same_upd (o := .lst [V.ref a1, .ref a2, .ref a3]) m4
      have pen3 := (((pen2.same z1).same z2).same z3).same z4
      have fi3 := fi2.step (((((Kq.of (p := p) z1).trans (.of z2)).trans (.of z3)).trans (.of z4))) pen3 hFp
      refine ⟨_, rfl, p, 3, r + 17, rfl, by decide, by decide, pen3, fun t3 H3 t30 t31 k3 pen4 => ?_⟩
      have fi4 := fi3.step k3 pen4 hFp
      have a4p : a4 ≠ p := (((pen2.same z1).same z2).same z3).ne m4
      obtain ⟨a, os, ha, hHa, hos, hob, hon, hFa, hap⟩ : ∃ (a : Addr) (os : List Int), atI [V.ref a1, .ref a2, .ref a3] t3 = some (.ref a) ∧ H3 a = some (.lst (os.map V.int)) ∧ os.sum = 0 ∧ (∀ o ∈ os, -2 ≤ o ∧ o ≤ 2) ∧ os.length ≤ 2 ∧ F ≠ a ∧ a ≠ p := by
        obtain ⟨us2, hu2, _⟩ := fi2.fd
        have n1 : F ≠ a1 := ne_of_none hu2 m1
        have n2 : F ≠ a2 := ne_of_none (z1 _ _ hu2) m2
        have n3 : F ≠ a3 := ne_of_none (z2 _ _ (z1 _ _ hu2)) m3
        have p1 : a1 ≠ p := pen2.ne m1
        have p2 : a2 ≠ p := (pen2.same z1).ne m2
        have p3 : a3 ≠ p := ((pen2.same z1).same z2).ne m3
        have : t3 = 0 ∨ t3 = 1 ∨ t3 = 2 := by omega
        rcases this with rfl | rfl | rfl
        · exact ⟨a1, [0], rfl, k3.st _ _ (z4 _ _ (z3 _ _ (z2 _ _ upd_same))) p1, rfl, by decide, by decide, n1, p1⟩
        · exact ⟨a2, [2, -2], rfl, k3.st _ _ (z4 _ _ (z3 _ _ upd_same)) p2, rfl, by decide, by decide, n2, p2⟩
        · exact ⟨a3, [-1, 1], rfl, k3.st _ _ (z4 _ _ upd_same) p3, rfl, by decide, by decide, n3, p3⟩
      refine ⟨a4, _, _, _, rfl, rfl, SqL.of (k3.st _ _ upd_same a4p), ha, a, rfl, ⟨_, SqL.of hHa⟩, ?_⟩
      refine for_list (K := K) (a := a) (xs := os.map V.int) (fun j σ H' => ∃ (LL : List Lf) (e7 : Option V), σ = [some (.ref p), some (.ref L), some mv, some (.ref F), e4, e5, e6, e7, some (.int sk), e9, e10] ∧ H' a = some (.lst (os.map V.int)) ∧ FI p F H H' LL (r + 10 + (2 - j)) ∧ LL.length ≤ 8 + j ∧
        Bal LL (ps ++ [(sk, (os.take j).sum)]) 0 ∧ (∀ x ∈ LL, LfOk es ps (m.natAbs + 5) x)) ?_ (fun j σ H' hj h => ?_) (fun j x σ H' hx h => ?_) (fun σ H' h => ?_)
      · exact ⟨LL, e7, rfl, hHa, ⟨fi4.k, fi4.pn.le (by omega), fi4.fd⟩, by omega, bal_zero.mpr hb, hok⟩
      · obtain ⟨_, _, _, h2, _⟩ := h
        exact SqL.of h2
      · obtain ⟨LL, e7, rfl, h2, f, hl, hb, hok⟩ := h
        rw [List.getElem?_map] at hx
        obtain ⟨o, ho, rfl⟩ := Option.map_eq_some_iff.mp hx
        have hoj : j < os.length := (List.getElem?_eq_some_iff.mp ho).1
        have hom : o ∈ os := List.mem_of_getElem? ho
        have hsum : (os.take (j + 1)).sum = (os.take j).sum + o := by
          rw [List.take_add_one, ho, sum_app]
          simp
        obtain ⟨us, hu, _⟩ := f.fd
        have hul := f.len hu
        refine ⟨_, rfl, .inl ⟨rfl, _, SqL.of hu⟩, _, rfl, _, rfl, F, _, rfl, .inl (SqL.of hu), _, _, rfl, rfl, p, _, r + 10 + (2 - (j + 1)), rfl, by omega, by omega, f.pn.le (by omega), fun i H5 i0 i1 k5 pen5 => ?_⟩
        have f5 := f.step k5 pen5 hFp
        have hL5 := hL.keep (f5.k.kl hpen)
        obtain ⟨pvs, pv_, hLs, hat, hth⟩ := hL5.at hsl
        refine ⟨_, rfl, _, rfl, _, rfl, L, pvs, _, _, rfl, rfl, SqL.of hLs, hat, _, rfl, by show 3 ≤ sizeLine; decide, fun t7 n7 => ?_⟩
        have z7 := same_upd (o := .tup [V.int (sk : Int), pv_, .int o]) n7
        have f7 := f5.step (Kq.of (p := p) z7) (pen5.same z7) hFp
        have hu7 := z7 _ _ (k5.st _ _ hu hFp)
        refine ⟨F, us, i, _, rfl, rfl, hu7, small1000 (by omega), i0, by omega, ?_⟩
        refine ⟨_, _, rfl, ?_, f7.ins (x := ((sk : Int), Tm.name sl, o)) nF hpen hu7 (.tup upd_same (.cons (.int _) (.cons (DR.kt hth (.of z7)) (.cons (.int _) .nil)))) i.toNat, by rw [len_ins]; omega, ?_, fun y hy => ?_⟩
        · rw [upd_ne (Ne.symm hFa)]
          exact z7 _ _ (k5.st _ _ h2 hap)
        · rw [hsum]
          exact bal_ins hb i.toNat
        · rcases mem_ins hy with rfl | hy
          · have := hob o hom
            exact ⟨⟨by show (-100000000000000000002 : Int) ≤ o; omega, by show o ≤ (100000000000000000002 : Int); omega⟩, .inl ⟨by show (0 : Int) ≤ (sk : Int); omega, .nam sl, hsl, .nam rfl, .inr ⟨sl, rfl⟩⟩⟩
          · exact hok y hy
      · obtain ⟨LL, e7, rfl, h2, f, hl, hb, hok⟩ := h
        have e0 : (os.take (os.map V.int).length).sum = 0 := by rw [List.length_map, List.take_length, hos]
        rw [e0] at hb
        have hl' : LL.length ≤ 8 + (os.map V.int).length := hl
        rw [List.length_map] at hl'
        exact ⟨F, LL, e4, e5, e6, e7, _, e9, e10, rfl, hFp, nF, ⟨f.k, f.pn.le (by omega), f.fd⟩, by omega, bal_zero.mp hb, hok, hQ⟩
    · exact ⟨F, LL, e4, e5, e6, e7, e8, e9, e10, rfl, hFp, nF, ⟨fi1.k, fi1.pn.le (by omega), fi1.fd⟩, by omega, hb, hok, hQ⟩
  -- the pairs
  obtain ⟨ma, mb, mxs, rfl, hma, hmbp, hmb, hmd⟩ := hmv
  refine ⟨by decide, fun F nF => ?_⟩
  have z0 := same_upd (o := .lst []) nF
  have hFp : F ≠ p := hpen.ne nF
  have pen0 := hpen.same z0
  have hlen : mxs.length = ps.length := by rw [hmd.length, List.length_map]
  -- how much a pair may draw
  obtain ⟨ce, hce, hps4, hpq⟩ : ∃ ce : Nat, ps.length * (3 + 2 * ce) + 28 ≤ cl n ∧ ps.length ≤ 4 ∧ ∀ q ∈ ps, (-100000000000000000000 ≤ q.2 ∧ q.2 ≤ 100000000000000000000) ∧ ∃ n' e, n = n' + 1 ∧ es[q.1]? = some e ∧ Rk es n' e ∧ e.ht ≤ 4 ∧ e.sc ≤ 5 ∧ cs n' e ≤ ce := by
    cases n with
    | zero =>
      have hps : ps = [] := by
        cases ps with
        | nil => rfl
        | cons qq ps =>
          obtain ⟨_, _, e, _, z⟩ := hrk.2 qq (List.mem_cons_self ..)
          exact z.elim
      subst hps
      exact ⟨0, by decide, by decide, by simp⟩
    | succ n' =>
      have hp4 : ps.length ≤ 4 := hrk.1
      refine ⟨5 * (cl n' + 40), ?_, hp4, fun q hq => ?_⟩
      · show _ ≤ 40 + 8 * (5 * (cl n' + 40))
        have := Nat.mul_le_mul_right (3 + 2 * (5 * (cl n' + 40))) hp4
        omega
      · obtain ⟨b1, b2, e, he, g1, g2, g3⟩ := hrk.2 q hq
        exact ⟨⟨b1, b2⟩, n', e, rfl, he, g1, g2, g3, Nat.mul_le_mul_right _ g3⟩
  refine ⟨_, rfl, ma, _, _, _, rfl, rfl, SqT.of (z0 _ _ hma), rfl, mb, rfl, ⟨_, SqL.of (z0 _ _ hmb)⟩, ?_⟩
  have mulS : ∀ i : Nat, i < ps.length → (ps.length - i) * (3 + 2 * ce) = (ps.length - (i + 1)) * (3 + 2 * ce) + (3 + 2 * ce) := fun i hi => by
    rw [show ps.length - i = (ps.length - (i + 1)) + 1 by omega, Nat.add_mul, Nat.one_mul]
  refine for_list (K := K) (a := mb) (xs := mxs) (fun i σ H' => ∃ (LL : List Lf) (e4 e5 e6 e7 e8 e9 e10 : Option V), σ = [some (.ref p), some (.ref L), some (.ref ma), some (.ref F), e4, e5, e6, e7, e8, e9, e10] ∧ FI p F H H' LL (r + 20 + (ps.length - i) * (3 + 2 * ce)) ∧ LL.length ≤ 2 * i ∧ Bal LL (ps.take i) 0 ∧ (∀ x ∈ LL, LfOk es ps (m.natAbs + 5) x)) ?_ (fun i σ H' hi h => ?_) (fun i x σ H' hx h => ?_) (fun σ H' h => ?_)
  · refine ⟨[], none, none, none, none, none, none, none, rfl, ⟨.of z0, pen0.le (by show r + 20 + (ps.length - 0) * (3 + 2 * ce) ≤ _; rw [Nat.sub_zero]; omega), [], upd_same, .nil⟩, by decide, fun c u => by simp, by simp⟩
  · obtain ⟨_, _, _, _, _, _, _, _, _, f, _⟩ := h
    exact SqL.of (f.k.st _ _ hmb hmbp)
  · obtain ⟨LL, e4, e5, e6, e7, e8, e9, e10, rfl, f, hl, hb, hok⟩ := h
    have hil : i < ps.length := by rw [← hlen]; exact (List.getElem?_eq_some_iff.mp hx).1
    obtain ⟨dx, hdx, hrx⟩ := hmd.getV hx
    rw [List.getElem?_map] at hdx
    obtain ⟨⟨qk, qw⟩, hq, rfl⟩ := Option.map_eq_some_iff.mp hdx
    have hqm : (qk, qw) ∈ ps := List.mem_of_getElem? hq
    obtain ⟨⟨qb1, qb2⟩, n', e, hn', he, g1, g2, g3, g4⟩ := hpq _ hqm
    have qb1 : -100000000000000000000 ≤ qw := qb1
    have qb2 : qw ≤ 100000000000000000000 := qb2
    have he : es[qk]? = some e := he
    obtain ⟨b, xs, rfl, hb', hx'⟩ := (hrx.kt (f.k.kt hpen)).tup_inv
    obtain ⟨x1, y1, rfl, k1, hx'⟩ := hx'.cons_inv
    obtain ⟨x2, y2, rfl, k2, hx'⟩ := hx'.cons_inv
    cases hx'
    cases k1.int_inv
    cases k2.int_inv
    have mS := mulS i hil
    refine ⟨b, _, rfl, SqT.of hb', rfl, _, _, rfl, _, _, rfl, rfl, ?_⟩
    refine ⟨_, rfl, by show 4 ≤ sizeLine; decide, fun l1 m1 => ?_⟩
    have z1 := same_upd (o := .lst [V.int 0, .int 0, .int 1, .int (-2)]) m1
    refine ⟨_, rfl, p, 4, r + 20 + (ps.length - (i + 1)) * (3 + 2 * ce) + (2 + 2 * ce), rfl, by decide, by decide, (f.pn.same z1).le (by omega), fun t H1 t0 t1 kk1 pen1 => ?_⟩
    have l1p := f.pn.ne m1
    obtain ⟨pt0, hpt, hptm⟩ := atI_int [0, 0, 1, -2] (i := t) t0 (by show t < (4 : Nat); omega)
    have hp3 : pt0 = 0 ∨ pt0 = 1 ∨ pt0 = -2 := by simpa using hptm
    refine ⟨l1, _, _, _, rfl, rfl, SqL.of (kk1.st _ _ upd_same l1p), hpt, ?_⟩
    have f1 := f.step ((Kq.of (p := p) z1).trans kk1) pen1 hFp
    obtain ⟨pvs, pv_, hLs, hat, hth⟩ := (hL.keep (f1.k.kl hpen)).at he
    obtain ⟨ea, erest, rfl, hea⟩ := hth.word
    refine ⟨_, rfl, _, rfl, L, pvs, _, _, rfl, rfl, SqL.of hLs, hat, ea, _, _, _, rfl, rfl, SqT.of hea, atI_head _ _, rfl, .inr ⟨_, rfl, ?_⟩⟩
    have hpb : (-(2 ^ 64) : Int) < pt0 ∧ pt0 < 2 ^ 64 := by rcases hp3 with rfl | rfl | rfl <;> decide
    refine ⟨_, _, rfl, rfl, .inl hpb, ?_⟩
    obtain ⟨part, epart, hp3'⟩ : ∃ part : Int, pt0 * (if decide (V.str e.word = V.str (Str.ofString "name")) = true then 1 else 0) = part ∧ (part = 0 ∨ part = 1 ∨ part = -2) := by
      refine ⟨_, rfl, ?_⟩
      cases decide (V.str e.word = V.str (Str.ofString "name"))
      · rw [if_neg (by decide)]
        omega
      · rw [if_pos rfl]
        omega
    have v6 := congrArg (fun z => some (some (V.int z))) epart
    refine ⟨_, v6, _, rfl, _, v6, _, _, rfl, rfl, by show 2 ≤ sizeLine; decide, fun l2 m2 => ?_⟩
    have z2 := same_upd (o := .lst [V.int part, .int (qw - part)]) m2
    have l2p := pen1.ne m2
    have f2 := f1.step (Kq.of (p := p) z2) (pen1.same z2) hFp
    have hF2 : F ≠ l2 := fun z => by
      obtain ⟨us, hu, _⟩ := f1.fd
      rw [z, m2] at hu
      cases hu
    refine ⟨l2, rfl, ⟨_, SqL.of upd_same⟩, for_list (K := K) (a := l2) (xs := [V.int part, .int (qw - part)]) (fun j σ H' => ∃ (LL : List Lf) (e7 : Option V), σ = [some (.ref p), some (.ref L), some (.ref ma), some (.ref F), some (.int qk), some (.int qw), some (.int part), e7, e8, e9, e10] ∧ H' l2 = some (.lst [V.int part, .int (qw - part)]) ∧
      FI p F H H' LL (r + 20 + (ps.length - (i + 1)) * (3 + 2 * ce) + (2 - j) * (1 + ce)) ∧ LL.length ≤ 2 * i + j ∧ Bal LL (ps.take i ++ [(qk, ([part, qw - part].take j).sum)]) 0 ∧ (∀ x ∈ LL, LfOk es ps (m.natAbs + 5) x)) ?_ (fun j σ H' hj h => ?_) (fun j x σ H' hx h => ?_) (fun σ H' h => ?_)⟩
    · exact ⟨LL, e7, congrArg (fun z => [some (V.ref p), some (.ref L), some (.ref ma), some (.ref F), some (.int (qk : Int)), some (.int qw), some (.int z), e7, e8, e9, e10]) epart, upd_same, ⟨f2.k, f2.pn.le (by omega), f2.fd⟩, by omega, bal_zero.mpr hb, hok⟩
    · obtain ⟨_, _, _, h2, _⟩ := h
      exact SqL.of h2
    · obtain ⟨LL, e7, rfl, h2, f, hl, hb, hok⟩ := h
      have hj2 : j < 2 := (List.getElem?_eq_some_iff.mp hx).1
      obtain ⟨nb, hnb, hnx, hnn⟩ : ∃ nb : Int, x = .int nb ∧ ([part, qw - part].take (j + 1)).sum = ([part, qw - part].take j).sum + nb ∧ -100000000000000000002 ≤ nb ∧ nb ≤ 100000000000000000002 := by
        have : j = 0 ∨ j = 1 := by omega
        rcases this with rfl | rfl
        · exact ⟨part, (Option.some.inj hx).symm, by simp, by omega⟩
        · exact ⟨qw - part, (Option.some.inj hx).symm, by simp, by omega⟩
      subst hnb
      have mJ : (2 - j) * (1 + ce) = (2 - (j + 1)) * (1 + ce) + (1 + ce) := by
        rw [show 2 - j = (2 - (j + 1)) + 1 by omega, Nat.add_mul, Nat.one_mul]
      obtain ⟨us, hu, _⟩ := f.fd
      have hul := f.len hu
      refine ⟨_, rfl, rfl, _, rfl, ite2 (fun c => ?_) (fun c => ?_)⟩
      · refine ⟨_, rfl, .inl ⟨rfl, _, SqL.of hu⟩, _, rfl, _, rfl, F, _, rfl, .inl (SqL.of hu), _, _, rfl, rfl, p, _, r + 20 + (ps.length - (i + 1)) * (3 + 2 * ce) + (2 - (j + 1)) * (1 + ce) + ce, rfl, by omega, by omega, f.pn.le (by omega), fun jj H5 i0 i1 k5 pen5 => ?_⟩
        have f5 := f.step k5 pen5 hFp
        have hL5 := hL.keep (f5.k.kl hpen)
        obtain ⟨pvs, pv_, hLs, hat, hth⟩ := hL5.at he
        refine ⟨_, rfl, _, rfl, _, rfl, _, rfl, _, rfl, L, pvs, _, _, rfl, rfl, SqL.of hLs, hat, ?_⟩
        rw [hE n' hn']
        refine ⟨p, L, _, e, r + 20 + (ps.length - (i + 1)) * (3 + 2 * ce) + (2 - (j + 1)) * (1 + ce), rfl, hL5, h4, hth, g1, g2, g3, pen5.le (by omega), fun v6 t6 H6 ht6 hs6 k6 pen6 => ⟨_, rfl, by show 3 ≤ sizeLine; decide, fun t7 n7 => ?_⟩⟩
        have f6 := f5.step k6 pen6 hFp
        have z7 := same_upd (o := .tup [V.int (qk : Int), v6, .int nb]) n7
        have f7 := f6.step (Kq.of (p := p) z7) (pen6.same z7) hFp
        have hu7 := z7 _ _ (k6.st _ _ (k5.st _ _ hu hFp) hFp)
        refine ⟨F, us, jj, _, rfl, rfl, hu7, small1000 (by omega), i0, by omega, ?_⟩
        refine ⟨_, _, rfl, ?_, f7.ins (x := ((qk : Int), t6, nb)) nF hpen hu7 (.tup upd_same (.cons (.int _) (.cons (DR.kt ht6 (.of z7)) (.cons (.int _) .nil)))) jj.toNat, by rw [len_ins]; omega, ?_, fun y hy => ?_⟩
        · rw [upd_ne (Ne.symm hF2)]
          exact z7 _ _ (k6.st _ _ (k5.st _ _ h2 l2p) l2p)
        · rw [hnx]
          exact bal_ins hb jj.toNat
        · rcases mem_ins hy with rfl | hy
          · exact ⟨hnn, .inl ⟨by show (0 : Int) ≤ (qk : Int); omega, e, he, hs6, .inl ⟨qw, hqm⟩⟩⟩
          · exact hok y hy
      · have hn0 : nb = 0 := by
          by_cases hz : nb = 0
          · exact hz
          · exfalso
            refine c ?_
            have : ¬ V.int nb = V.int 0 := fun z => hz (by injection z)
            show (!decide (V.int nb = V.int 0)) = true
            rw [decide_eq_false this]
            rfl
        refine ⟨LL, _, rfl, h2, ⟨f.k, f.pn.le (by omega), f.fd⟩, by omega, ?_, hok⟩
        rw [hnx, hn0, Int.add_zero]
        exact hb
    · obtain ⟨LL, e7, rfl, h2, f, hl, hb, hok⟩ := h
      refine ⟨LL, _, _, _, e7, e8, e9, e10, rfl, ⟨f.k, f.pn.le (by omega), f.fd⟩, hl, ?_, hok⟩
      have e2 : ([part, qw - part].take ([V.int part, .int (qw - part)].length)).sum = qw := by
        show ([part, qw - part].take 2).sum = qw
        simp
        omega
      rw [e2] at hb
      rw [List.take_add_one, hq]
      exact hb
  · obtain ⟨LL, e4, e5, e6, e7, e8, e9, e10, rfl, f, hl, hb, hok⟩ := h
    rw [hlen, List.take_length] at hb
    rw [hlen] at hl
    exact ⟨F, LL, e4, e5, e6, e7, e8, e9, e10, rfl, hFp, nF, ⟨f.k, f.pn.le (by omega), f.fd⟩, by omega, hb, hok, rfl⟩
end
end Lw
/-! Part O: the spelling of a thing: the walk. -/
namespace Lw
open PySem PySem.Spec L2 PyProof.Rows
def Th.parts : Th → List (Th ⊕ Int)
  | .wth r s t => [.inl r, .inl s, .inl t]
  | .room s => [.inl s]
  | .read r s => [.inl r, .inl s]
  | .size r => [.inl r]
  | .div s k => [.inl s, .inr k]
  | .mod s k => [.inl s, .inr k]
  | _ => []
/-- made of parts -/
def Th.made : Th → Prop
  | .nam _ | .row _ | .sum _ _ => False
  | _ => True
def PR (p : Addr) (H : Hp) (v : V) : Th ⊕ Int → Prop
  | .inl th => ThR p H v th
  | .inr k => v = .int k
def psc : Th ⊕ Int → Nat
  | .inl th => th.sc
  | .inr _ => 0
theorem PR.keep {p : Addr} {H H' : Hp} {v : V} {x : Th ⊕ Int} (h : PR p H v x) (k : KL p H H') : PR p H' v x := by
  cases x with
  | inl th => exact ThR.keep k th v h
  | inr k => exact h
theorem parts_sc {th : Th} (h : th.made) : (th.parts.map psc).sum = th.sc := by
  cases th <;> first | exact h.elim | simp [Th.parts, psc, Th.sc, Nat.add_assoc]
theorem parts_ht {th x : Th} (h : .inl x ∈ th.parts) : x.ht + 1 ≤ th.ht ∧ x.sc ≤ th.sc := by
  cases th <;> simp [Th.parts] at h
  case wth r s t => rcases h with rfl | rfl | rfl <;> simp only [Th.ht, Th.sc] <;> omega
  case room s => subst h; simp only [Th.ht, Th.sc]; omega
  case read r s => rcases h with rfl | rfl <;> simp only [Th.ht, Th.sc] <;> omega
  case size r => subst h; simp only [Th.ht, Th.sc]; omega
  case div s k => subst h; simp only [Th.ht, Th.sc]; omega
  case mod s k => subst h; simp only [Th.ht, Th.sc]; omega
theorem parts_wf {es : List Th} {G : Th → Prop} {th x : Th} (w : Wf es G th) (h : .inl x ∈ th.parts) : Wf es G x := by
  cases th <;> simp [Th.parts] at h
  case wth r s t =>
    rcases h with rfl | rfl | rfl
    · exact w.1
    · exact w.2.1
    · exact w.2.2
  case room s => subst h; exact w
  case read r s =>
    rcases h with rfl | rfl
    · exact w.1
    · exact w.2
  case size r => subst h; exact w
  case div s k => subst h; exact w
  case mod s k => subst h; exact w
theorem parts_rk {es : List Th} {n : Nat} {th x : Th} (w : Rk es n th) (h : .inl x ∈ th.parts) : Rk es n x := by
  cases n with
  | zero => exact parts_wf w h
  | succ n => exact parts_wf w h
theorem ThR.parts {p : Addr} {H : Hp} {v : V} {th : Th} (h : ThR p H v th) (hm : th.made) : ∃ a vs, v = .ref a ∧ H a = some (.tup (.str th.word :: vs)) ∧ vs.length = th.parts.length ∧ 1 ≤ vs.length ∧ vs.length ≤ 3 ∧ ∀ (i : Nat) (v : V) (x : Th ⊕ Int), vs[i]? = some v → th.parts[i]? = some x → PR p H v x := by
  cases th with
  | nam _ => exact hm.elim
  | row _ => exact hm.elim
  | sum _ _ => exact hm.elim
  | wth r s t =>
    obtain ⟨a, x, y, z, rfl, ha, h1, h2, h3⟩ := h
    refine ⟨a, [x, y, z], rfl, ha, rfl, by simp, by simp, fun i v u e1 e2 => ?_⟩
    match i, e1, e2 with
    | 0, e1, e2 => cases e1; cases e2; exact h1
    | 1, e1, e2 => cases e1; cases e2; exact h2
    | 2, e1, e2 => cases e1; cases e2; exact h3
    | i + 3, e1, e2 => simp at e1
  | room s =>
    obtain ⟨a, x, rfl, ha, h1⟩ := h
    refine ⟨a, [x], rfl, ha, rfl, by simp, by simp, fun i v u e1 e2 => ?_⟩
    match i, e1, e2 with
    | 0, e1, e2 => cases e1; cases e2; exact h1
    | i + 1, e1, e2 => simp at e1
  | read r s =>
    obtain ⟨a, x, y, rfl, ha, h1, h2⟩ := h
    refine ⟨a, [x, y], rfl, ha, rfl, by simp, by simp, fun i v u e1 e2 => ?_⟩
    match i, e1, e2 with
    | 0, e1, e2 => cases e1; cases e2; exact h1
    | 1, e1, e2 => cases e1; cases e2; exact h2
    | i + 2, e1, e2 => simp at e1
  | size r =>
    obtain ⟨a, x, rfl, ha, h1⟩ := h
    refine ⟨a, [x], rfl, ha, rfl, by simp, by simp, fun i v u e1 e2 => ?_⟩
    match i, e1, e2 with
    | 0, e1, e2 => cases e1; cases e2; exact h1
    | i + 1, e1, e2 => simp at e1
  | div s k =>
    obtain ⟨a, x, rfl, ha, h1⟩ := h
    refine ⟨a, [x, .int k], rfl, ha, rfl, by simp, by simp, fun i v u e1 e2 => ?_⟩
    match i, e1, e2 with
    | 0, e1, e2 => cases e1; cases e2; exact h1
    | 1, e1, e2 => cases e1; cases e2; rfl
    | i + 2, e1, e2 => simp at e1
  | mod s k =>
    obtain ⟨a, x, rfl, ha, h1⟩ := h
    refine ⟨a, [x, .int k], rfl, ha, rfl, by simp, by simp, fun i v u e1 e2 => ?_⟩
    match i, e1, e2 with
    | 0, e1, e2 => cases e1; cases e2; exact h1
    | 1, e1, e2 => cases e1; cases e2; rfl
    | i + 2, e1, e2 => simp at e1
/-- a part's spelling, as data -/
def PSp (es : List Th) : Th ⊕ Int → PyData → Prop
  | .inl th, d => ∃ t : Tm, d = t.d ∧ Spl es nmP th t
  | .inr k, d => d = .int k
/-- the spelt parts make a spelling -/
theorem parts_spl {es : List Th} {th : Th} (hm : th.made) {ds : List PyData} (hl : ds.length = th.parts.length) (h : ∀ (i : Nat) (x : Th ⊕ Int) (d : PyData), th.parts[i]? = some x → ds[i]? = some d → PSp es x d) : ∃ t : Tm, t.d = .tuple (.str th.word :: ds) ∧ Spl es nmP th t := by
  cases th with
  | nam _ => exact hm.elim
  | row _ => exact hm.elim
  | sum _ _ => exact hm.elim
  | wth r s t =>
    match ds, hl with
    | [d1, d2, d3], _ =>
      obtain ⟨t1, rfl, s1⟩ := h 0 _ _ rfl rfl
      obtain ⟨t2, rfl, s2⟩ := h 1 _ _ rfl rfl
      obtain ⟨t3, rfl, s3⟩ := h 2 _ _ rfl rfl
      exact ⟨.wth t1 t2 t3, rfl, .wth s1 s2 s3⟩
  | room s =>
    match ds, hl with
    | [d1], _ =>
      obtain ⟨t1, rfl, s1⟩ := h 0 _ _ rfl rfl
      exact ⟨.room t1, rfl, .room s1⟩
  | read r s =>
    match ds, hl with
    | [d1, d2], _ =>
      obtain ⟨t1, rfl, s1⟩ := h 0 _ _ rfl rfl
      obtain ⟨t2, rfl, s2⟩ := h 1 _ _ rfl rfl
      exact ⟨.read t1 t2, rfl, .read s1 s2⟩
  | size r =>
    match ds, hl with
    | [d1], _ =>
      obtain ⟨t1, rfl, s1⟩ := h 0 _ _ rfl rfl
      exact ⟨.size t1, rfl, .size s1⟩
  | div s k =>
    match ds, hl with
    | [d1, d2], _ =>
      obtain ⟨t1, rfl, s1⟩ := h 0 _ _ rfl rfl
      have e2 : d2 = .int k := h 1 _ _ rfl rfl
      subst e2
      exact ⟨.div t1 k, rfl, .div k s1⟩
  | mod s k =>
    match ds, hl with
    | [d1, d2], _ =>
      obtain ⟨t1, rfl, s1⟩ := h 0 _ _ rfl rfl
      have e2 : d2 = .int k := h 1 _ _ rfl rfl
      subst e2
      exact ⟨.mod t1 k, rfl, .mod k s1⟩
theorem words_ne : ∀ z ∈ (["with", "room", "read", "size", "div", "mod"] : List Str), z ≠ "name" ∧ z ≠ "row" ∧ z ≠ "sum" ∧ z ≠ "notion" := by decide +kernel
theorem word_in {th : Th} (h : th.made) : th.word ∈ (["with", "room", "read", "size", "div", "mod"] : List Str) := by
  cases th <;> first | exact h.elim | simp [Th.word]
theorem made_or (th : Th) : (∃ l, th = .nam l) ∨ (∃ l, th = .row l) ∨ (∃ ps n, th = .sum ps n) ∨ (th.made ∧ th.word ≠ "name" ∧ th.word ≠ "row" ∧ th.word ≠ "sum" ∧ th.word ≠ "notion") := by
  cases th with
  | nam l => exact .inl ⟨l, rfl⟩
  | row l => exact .inr (.inl ⟨l, rfl⟩)
  | sum ps n => exact .inr (.inr (.inl ⟨ps, n, rfl⟩))
  | _ => exact .inr (.inr (.inr ⟨trivial, words_ne _ (word_in trivial)⟩))
theorem nomem2 {z a b : Str} (h1 : z ≠ a) (h2 : z ≠ b) : inV (.str z) [.str a, .str b] = false := by
  unfold inV
  rw [List.any_eq_false]
  intro y hy
  rcases List.mem_cons.mp hy with rfl | hy
  · show ¬ (a == z) = true
    exact fun e => h1 (eq_of_beq e).symm
  · rcases List.mem_singleton.mp hy with rfl
    show ¬ (b == z) = true
    exact fun e => h2 (eq_of_beq e).symm
theorem eqs_false {a b : Str} (h : a ≠ b) : decide (V.str a = V.str b) = false := decide_eq_false fun z => h (by injection z)
section
variable {P : Program} {w : World} {K : PySem.W.Frag} {mg : Str → Option Value} {base : Heap}
theorem st_spelt (D : Df K mg "_law_s_spelt" 49) (mt : mg "tuple" = none) (mis : mg "isinstance" = none) (es : List Th) (n h k : Nat) (hk : 7 ≤ k) (GT : Gv P w K mg base 7 "_law_s_tree" ["_law_pen", "_law_leaves"] (spTree 4))
    (GL : Gv P w K mg base k "_law_s_leaves" ["_law_pen", "_law_pool", "_law_made_of"] (spLeaves es n)) (GS : ∀ h', h = h' + 1 → Gv P w K mg base k "_law_s_spelt" ["_law_pen", "_law_pool", "_law_thing"] (spSpelt es n h')) :
    Gv P w K mg base (k + 1) "_law_s_spelt" ["_law_pen", "_law_pool", "_law_thing"] (spSpelt es n h) := by
  obtain ⟨spE, GE, hE⟩ : ∃ spE : Sp, Gv P w K mg base k "_law_s_spelt" ["_law_pen", "_law_pool", "_law_thing"] spE ∧ ∀ h', h = h' + 1 → spE = spSpelt es n h' := by
    cases h with
    | zero => exact ⟨fun _ _ _ _ => False, Gv.never D (fun _ _ _ _ _ _ us hl => match us, hl with | [_, _, _], _ => rfl) fun _ _ _ _ z => z, fun n' e => by omega⟩
    | succ h' => exact ⟨_, GS h' rfl, fun m e => by cases e; rfl⟩
  refine okV D scSpelt (fun _ _ _ _ _ _ us hl => match us, hl with | [_, _, _], _ => rfl) (fun vs H Q E h => ?_) (fun f cdv A out s H vs Q E hr h => ?_)
  · obtain ⟨p, L, v, th, r, rfl, _⟩ := h
    rfl
  obtain ⟨p, L, v, th, r, rfl, hL, h4, hth, hrk, hht, hsc, hpen, q⟩ := h
  have nd := scSpelt.nd
  have hr7 := hr.mono hk
  refine ⟨_, pss_cons (ps_if (pt_cmpR op_in_seq (pe_ix ix_tup (pv 2) pe_int (fun _ _ => rfl)) (pe_tup (pa_cons pe_str (pa_cons pe_str pa_nil))) (by rfl)) (pss_one (ps_ret (pv 2))) pss_nil)
    (pss_cons (ps_if (pt_cmpR op_eq (pe_ix ix_tup (pv 2) pe_int (fun _ _ => rfl)) pe_str (nomark _)) (pss_one (ps_ret (pe_v (E := E0) GT hr7 rfl (pa_cons (pv 0) (pa_cons (pe_v (E := E0) GL hr rfl (pa_cons (pv 0) (pa_cons (pv 1) (pa_cons (pv 2) pa_nil)))) pa_nil))))) pss_nil)
    (pss_cons (ps_if (pt_cmpR op_eq (pe_ix ix_tup (pv 2) pe_int (fun _ _ => rfl)) pe_str (nomark _)) pss_never pss_nil)
    (pss_one (ps_ret (pe_op op_catA (pe_slice sl_tupA (pv 2) po_none (po_some pe_int)) (pe_callTy call_tuple_of rfl mt boot_tuple (pa_cons
      (pe_lc (own := [("_law_part", 3)]) (g := gName 3) (tt := tYes) rfl nd (pi_tup (pe_slice sl_tupA (pv 2) (po_some pe_int) po_none)) (blkOk_by (own := [("_law_part", 3)]) (N := ["_law_pen", "_law_pool", "_law_thing", "_law_part"]) (sc := defScope (top 49)) (by decide +kernel))
        (fun _ _ _ _ _ => pg_name (i := 3) nd rfl (Or.inl rfl)) (fun _ _ _ _ _ => pts_nil)
        (fun _ _ _ _ _ => pe_ifExp (pt_val (pe_callB (show CallR _ _ (rIsi K) from call_isi) rfl mis (by decide +kernel) (pa_cons (pv 3) (pa_cons (pe_bltn (v := .ty "tuple") rfl mt boot_tuple rfl) pa_nil)))) (pe_v (E := E0) GE hr rfl (pa_cons (pv 0) (pa_cons (pv 1) (pa_cons (pv 3) pa_nil)))) (pv 3))) pa_nil))))))), ?_⟩
  have s02 : ∀ (Q' : VK) (Q0 : VK), True := fun _ _ => trivial
  obtain ⟨va, vrest, rfl, hva⟩ := hth.word
  -- the first test
  refine ⟨_, rfl, va, _, _, _, rfl, rfl, SqT.of hva, atI_head _ _, by show 2 ≤ sizeLine; decide, fun t1 n1 => ?_⟩
  have z1 := same_upd (o := .tup [V.str "name", .str "row"]) n1
  refine ⟨t1, _, rfl, .inr (SqT.of upd_same), rfl, rfl, _, rfl, ?_⟩
  have k1 : Kq p H (upd H t1 (.tup [V.str "name", .str "row"])) := .of z1
  have pen1 := hpen.same z1
  rcases made_or th with ⟨l, rfl⟩ | ⟨l, rfl⟩ | ⟨ps, m, rfl⟩ | ⟨hm, w1, w2, w3, w4⟩
  · exact iteT ⟨_, rfl, q _ (.name l) _ (DR.kt hth (.of z1)) (.nam rfl) k1 (pen1.le (by omega))⟩
  · exact iteT ⟨_, rfl, q _ (.row l) _ (DR.kt hth (.of z1)) (.row l) k1 (pen1.le (by omega))⟩
  · refine iteF ?_
    refine ⟨_, rfl, va, _, _, _, rfl, rfl, SqT.of (z1 _ _ hva), atI_head _ _, rfl, _, rfl, iteT ?_⟩
    have hcs : cs n (.sum ps m) = cl n + 40 := by show 1 * (cl n + 40) = _; omega
    refine ⟨_, rfl, _, rfl, _, rfl, _, rfl, p, L, _, ps, m, r + 40, rfl, hL.keep (.of z1), h4, hth.keep (.of z1), hrk, pen1.le (by omega), fun F us LL H2 nF hF hd l1 l12 hb hok k2 pen2 => ?_⟩
    refine ⟨p, F, us, LL, r, rfl, pen1.ne nF, hF, hd, l1, by omega, by omega, pen2.le (by omega), fun v' t H3 ht hc k3 pen3 => ?_⟩
    exact q v' t H3 ht (spl_leaves hb l12 hok hc) ((k1.trans k2).trans k3) pen3
  have nw2 : inV (V.str th.word) [V.str (Str.ofString "name"), V.str (Str.ofString "row")] = false := nomem2 w1 w2
  refine ite2 (fun c => absurd (show inV (V.str th.word) [V.str (Str.ofString "name"), V.str (Str.ofString "row")] = true from c) (by rw [nw2]; decide)) (fun _ => ?_)
  refine ⟨_, rfl, va, _, _, _, rfl, rfl, SqT.of (z1 _ _ hva), atI_head _ _, rfl, _, rfl, ite2 (fun c => absurd c (by rw [eqs_false w3]; decide)) (fun _ => ?_)⟩
  refine ⟨_, rfl, va, _, _, _, rfl, rfl, SqT.of (z1 _ _ hva), atI_head _ _, rfl, _, rfl, ite2 (fun c => absurd c (by rw [eqs_false w4]; decide)) (fun _ => ?_)⟩
  obtain ⟨va', vs0, e, hva', hvl, hv1, hv3, hvp⟩ := hth.parts hm
  cases e
  rw [hva] at hva'
  cases hva'
  have hva1 := z1 _ _ hva
  refine ⟨_, rfl, _, rfl, va, _, rfl, SqT.of hva1, fun wh => ?_, fun _ t2 n2 => ?_⟩
  · exfalso
    have e2 := wh.2
    rw [show (some (1 : Int)) = some ((1 : Nat) : Int) from rfl, HT.sIx_nat] at e2
    rw [List.length_cons] at e2
    omega
  have z2 := same_upd (o := .tup (cutV (V.str th.word :: vrest) none (some 1))) n2
  have ecut1 : cutV (V.str th.word :: vrest) none (some 1) = [V.str th.word] := cut_lo (n := 1) _ (by simp)
  have ecut2 : cutV (V.str th.word :: vrest) (some 1) none = vrest := cut_hi (n := 1) _ (by simp)
  refine ⟨_, rfl, _, rfl, va, _, rfl, SqT.of (z2 _ _ hva1), fun wh => ?_, fun _ t3 n3 => ?_⟩
  · exfalso
    have e2 := wh.1
    rw [show (some (1 : Int)) = some ((1 : Nat) : Int) from rfl, HT.sIx_nat, List.length_cons] at e2
    omega
  have z3 := same_upd (o := .tup (cutV (V.str th.word :: vrest) (some 1) none)) n3
  refine ⟨t3, rfl, ⟨_, SqT.of upd_same⟩, fun D4 d4 => ?_⟩
  have z4 := same_upd (o := .lst []) d4
  have k4 : Kq p H _ := (((k1.trans (.of z2)).trans (.of z3)).trans (.of z4))
  have pen4 := ((pen1.same z2).same z3).same z4
  have nD : H D4 = none := by
    cases e : H D4 with
    | none => rfl
    | some o =>
      rw [z3 _ _ (z2 _ _ (z1 _ _ e))] at d4
      cases d4
  have D4p : D4 ≠ p := hpen.ne nD
  have t3p : t3 ≠ p := (pen1.same z2).ne n3
  have t34 : t3 ≠ D4 := ne_of_none (show upd _ t3 (.tup (cutV (V.str th.word :: vrest) (some 1) none)) t3 = some _ from upd_same) d4
  have mulS : ∀ i : Nat, i < th.parts.length → ∃ x, th.parts[i]? = some x ∧ ((th.parts.drop i).map psc).sum = psc x + ((th.parts.drop (i + 1)).map psc).sum := fun i hi => by
    refine ⟨th.parts[i], List.getElem?_eq_getElem hi, ?_⟩
    rw [List.drop_eq_getElem_cons hi, List.map_cons, List.sum_cons]
  refine lc_tup (K := K) (a := t3) (xs := vrest) (fun i H' => H' t3 = some (.tup vrest) ∧ H' t2 = some (.tup [V.str th.word]) ∧ (∃ us ds, H' D4 = some (.lst us) ∧ DRs H' us ds ∧ ds.length = i ∧ ∀ (j : Nat) (x : Th ⊕ Int) (d : PyData), j < i → th.parts[j]? = some x → ds[j]? = some d → PSp es x d) ∧ Kq p H H' ∧ Pen H' p (r + ((th.parts.drop i).map psc).sum * (cl n + 40))) ?_ (fun i H' hi h => SqT.of h.1) (fun i x H' hx h => ?_) (fun H' h => ?_)
  · refine ⟨z4 _ _ (by rw [upd_same, ecut2]), ?_, ⟨[], [], upd_same, .nil, rfl, fun j x d hj => absurd hj (Nat.not_lt_zero j)⟩, ?_, ?_⟩
    · have e1 : upd (upd H t1 (.tup [V.str "name", .str "row"])) t2 (.tup (cutV (V.str th.word :: vrest) none (some 1))) t2 = some (.tup [V.str th.word]) := by rw [upd_same, ecut1]
      exact z4 _ _ (z3 _ _ e1)
    · exact k4
    · rw [List.drop_zero, parts_sc hm]
      exact pen4
  · obtain ⟨h3, h2, ⟨us, ds, hD, hds, hdl, hpl⟩, hk, hpn⟩ := h
    have hiv : i < vrest.length := (List.getElem?_eq_some_iff.mp hx).1
    obtain ⟨y, hy, hsum⟩ := mulS i (by omega)
    have hpr := (hvp i x y hx hy).keep (hk.kl hpen)
    have hul : us.length = i := by rw [hds.length, hdl]
    -- what is done with the part's value
    have put : ∀ (v6 : V) (d6 : PyData) (H6 : Hp), DR H6 v6 d6 → PSp es y d6 → Kq p H' H6 → Pen H6 p (r + ((th.parts.drop (i + 1)).map psc).sum * (cl n + 40)) → ∃ acc, H6 D4 = some (.lst acc) ∧ acc.length < sizeLine ∧ upd H6 D4 (.lst (acc ++ [v6])) t3 = some (.tup vrest) ∧ upd H6 D4 (.lst (acc ++ [v6])) t2 = some (.tup [V.str th.word]) ∧
        (∃ us ds, upd H6 D4 (.lst (acc ++ [v6])) D4 = some (.lst us) ∧ DRs (upd H6 D4 (.lst (acc ++ [v6]))) us ds ∧ ds.length = i + 1 ∧ ∀ (j : Nat) (x : Th ⊕ Int) (d : PyData), j < i + 1 → th.parts[j]? = some x → ds[j]? = some d → PSp es x d) ∧ Kq p H (upd H6 D4 (.lst (acc ++ [v6]))) ∧ Pen (upd H6 D4 (.lst (acc ++ [v6]))) p (r + ((th.parts.drop (i + 1)).map psc).sum * (cl n + 40)) := fun v6 d6 H6 hd6 hs6 k6 pen6 => by
      have hD6 := k6.st _ _ hD D4p
      have kt6 : KT H6 (upd H6 D4 (.lst (us ++ [v6]))) := KT.set hD6 fun ys z => by cases z
      refine ⟨us, hD6, small1000 (by omega), kt6 _ _ (k6.kt hpn _ _ h3), kt6 _ _ (k6.kt hpn _ _ h2), ⟨us ++ [v6], ds ++ [d6], upd_same, ((hds.kt (k6.kt hpn)).kt kt6).append (.cons (hd6.kt kt6) .nil), by rw [List.length_append, hdl]; rfl, fun j x d hj hxj hd => ?_⟩, (hk.trans k6).set nD, (hk.trans k6).pen hpen pen6 nD⟩
      by_cases hji : j < i
      · rw [List.getElem?_append_left (by omega)] at hd
        exact hpl j x d hji hxj hd
      · have e : j = i := by omega
        subst e
        rw [List.getElem?_append_right (by omega), hdl, Nat.sub_self] at hd
        cases hd
        rw [hy] at hxj
        cases hxj
        exact hs6
    cases y with
    | inl ty =>
      obtain ⟨ha, hb⟩ := parts_ht (List.mem_of_getElem? hy)
      obtain ⟨pa, prest, rfl, hpa⟩ := ThR.word hpr
      obtain ⟨h', hh'⟩ : ∃ h', h = h' + 1 := ⟨h - 1, by omega⟩
      refine ⟨rfl, _, rfl, _, _, _, _, _, rfl, .ty "tuple", .base (.tup hpa), kit_ty (b := "tuple") (r := true) (by decide +kernel), _, rfl, ?_⟩
      refine ⟨_, rfl, _, rfl, _, rfl, ?_⟩
      rw [hE h' hh']
      have hmul : (psc (.inl ty) + ((th.parts.drop (i + 1)).map psc).sum) * (cl n + 40) = cs n ty + ((th.parts.drop (i + 1)).map psc).sum * (cl n + 40) := Nat.add_mul _ _ _
      rw [hsum, hmul] at hpn
      exact ⟨p, L, _, ty, r + ((th.parts.drop (i + 1)).map psc).sum * (cl n + 40), rfl, hL.keep (hk.kl hpen), h4, hpr, parts_rk hrk (List.mem_of_getElem? hy), by omega, by omega, hpn.le (by omega), fun v6 t6 H6 ht6 hs6 k6 pen6 => put v6 _ H6 ht6 ⟨t6, rfl, hs6⟩ k6 pen6⟩
    | inr ky =>
      have e : x = .int ky := hpr
      subst e
      refine ⟨rfl, _, rfl, _, _, _, _, _, rfl, .ty "tuple", .base (.int ky), kit_ty (b := "tuple") (r := false) (by decide +kernel), _, rfl, ?_⟩
      have hmul : psc (.inr ky) + ((th.parts.drop (i + 1)).map psc).sum = ((th.parts.drop (i + 1)).map psc).sum := Nat.zero_add _
      rw [hsum, hmul] at hpn
      exact ⟨_, rfl, put _ (.int ky) H' (.int ky) rfl (Kq.refl _ _) hpn⟩
  · obtain ⟨h3, h2, ⟨us, ds, hD, hds, hdl, hpl⟩, hk, hpn⟩ := h
    refine ⟨D4, us, rfl, .inl ⟨SqL.of hD, fun t5 n5 => ?_⟩⟩
    have z5 := same_upd (o := .tup us) n5
    have hul : us.length = vrest.length := by rw [hds.length, hdl]
    refine ⟨t2, t5, [V.str th.word], us, rfl, rfl, SqT.of (z5 _ _ h2), SqT.of upd_same, small20 (by rw [List.length_singleton]; omega), fun z => absurd z (by simp), fun _ z => ?_, fun _ _ t6 n6 => ?_⟩
    · rw [z] at hul
      simp at hul
      omega
    have z6 := same_upd (o := .tup ([V.str th.word] ++ us)) n6
    obtain ⟨t, ht, hs⟩ := parts_spl (es := es) hm (ds := ds) (by rw [hdl]; omega) fun i x d hx hd => hpl i x d (by rw [← hdl]; exact (List.getElem?_eq_some_iff.mp hd).1) hx hd
    refine q _ t _ ?_ hs ((hk.new n5).new n6) (((hpn.same z5).same z6).le (by omega))
    show DR _ _ t.d
    rw [ht]
    exact .tup upd_same (.cons (.str _) ((hds.kt (.of z5)).kt (.of z6)))
/-- leaves and spellings, by rank and height -/
theorem ok_spelt (DL : Df K mg "_law_s_leaves" 50) (DS : Df K mg "_law_s_spelt" 49) (ml : mg "len" = none) (mi : mg "int" = none) (mt : mg "tuple" = none) (mis : mg "isinstance" = none) (G : Gv P w K mg base 2 "_law_take" ["_law_pen", "_law_many"] spTake)
    (GT : Gv P w K mg base 7 "_law_s_tree" ["_law_pen", "_law_leaves"] (spTree 4)) (es : List Th) : ∀ n h : Nat, Gv P w K mg base (10 * n + 9 + h) "_law_s_spelt" ["_law_pen", "_law_pool", "_law_thing"] (spSpelt es n h) := by
  intro n
  induction n with
  | zero =>
    have GL := st_leaves DL ml mi G es 0 7 (by decide) (fun n' e => by omega) DS
    intro h
    induction h with
    | zero => exact st_spelt DS mt mis es 0 0 8 (by decide) GT GL fun h' e => by omega
    | succ h ih => exact st_spelt DS mt mis es 0 (h + 1) (10 * 0 + 9 + h) (by omega) GT (GL.mono (by omega)) fun h' e => by cases e; exact ih
  | succ n ihn =>
    have GL := st_leaves DL ml mi G es (n + 1) (10 * n + 17) (by omega) (fun n' e => by cases e; exact (ihn 4).mono (by omega)) DS
    intro h
    induction h with
    | zero => exact st_spelt DS mt mis es (n + 1) 0 (10 * n + 18) (by omega) GT GL fun h' e => by omega
    | succ h ih => exact st_spelt DS mt mis es (n + 1) (h + 1) (10 * (n + 1) + 9 + h) (by omega) GT (GL.mono (by omega)) fun h' e => by cases e; exact ih
end
end Lw
/-! Part Y: loops over the strict zip; parts_of. -/
namespace Lw
open PySem PySem.Spec L2 PyProof.Rows
/-- a comprehension over it -/
theorem lc_zipS {K : PySem.W.Frag} {x : Str} {a : Addr} {xs : List V} {g : TG} {tt : TT} {te : TE} {vs : List Nat} {σ : L2.St} {H1 : Hp} {D : Addr} {Qd : Hp → Prop} (hlen : xs.length = x.cps.size) (Pv : Nat → Hp → Prop) (h0 : Pv 0 (upd H1 D (.lst []))) (hl : ∀ i H, i ≤ xs.length → Pv i H → SqT K H a xs)
    (hs : ∀ i c v H T, x.cps[i]? = some c → xs[i]? = some v → Pv i H → H T = none → g (.ref T) (wipe σ vs) (upd H T (.tup [.str ⟨#[c]⟩, v])) fun σ2 H2 => wipe σ2 vs = wipe σ vs ∧ tt σ2 H2 fun b H3 =>
      if b = true then te σ2 H3 fun y H4 => ∃ acc, H4 D = some (.lst acc) ∧ acc.length < sizeLine ∧ Pv (i + 1) (upd H4 D (.lst (acc ++ [y]))) else Pv (i + 1) H3) (hd : ∀ H, Pv xs.length H → Qd H) :
    ∃ W : Nat → Nat → Hp → Prop, (∃ m, W 0 m (upd H1 D (.lst []))) ∧ ∀ i m H, W i m H →
      ((Its2 K x a).stop i H ∧ Qd H) ∨ ((Its2 K x a).go i H ∧ ∃ Nx : Hp → Prop, (∀ H', Nx H' → ∃ m', m' < m ∧ W (i + 1) m' H') ∧ ∀ y H', (Its2 K x a).yld i H y H' → g y (wipe σ vs) H' fun σ2 H2 => wipe σ2 vs = wipe σ vs ∧ tt σ2 H2 fun b H3 =>
        if b = true then te σ2 H3 fun y H4 => ∃ acc, H4 D = some (.lst acc) ∧ acc.length < sizeLine ∧ Nx (upd H4 D (.lst (acc ++ [y]))) else Nx H3) := by
  refine ⟨fun i m H => m = xs.length - i ∧ i ≤ xs.length ∧ Pv i H, ⟨xs.length, by simp, Nat.zero_le _, h0⟩, fun i m H hW => ?_⟩
  obtain ⟨em, hi, pv_⟩ := hW
  have q := hl i H hi pv_
  by_cases c : i < xs.length
  · have cx : i < x.cps.size := by omega
    refine .inr ⟨⟨xs, x.cps[i], xs[i], q, hlen, Array.getElem?_eq_getElem cx, List.getElem?_eq_getElem c⟩, Pv (i + 1), fun H' p' => ⟨xs.length - (i + 1), by omega, rfl, c, p'⟩, fun y H' hy => ?_⟩
    obtain ⟨T, d, v, rfl, nT, rfl, hd1, hv⟩ := hy
    exact hs i d v H T hd1 (hv xs q) pv_ nT
  · have e : i = xs.length := by omega
    subst e
    exact .inl ⟨⟨xs, q, hlen, hlen⟩, hd H pv_⟩
/-- a for over it -/
theorem for_zipS {K : PySem.W.Frag} {x : Str} {a : Addr} {xs : List V} {g : TG} {tb : TS} {D : Ends} {σ : L2.St} {H : Hp} (hlen : xs.length = x.cps.size) (Pv : Nat → L2.St → Hp → Prop) (h0 : Pv 0 σ H) (hl : ∀ i σ H, i ≤ xs.length → Pv i σ H → SqT K H a xs)
    (hs : ∀ i c v σ H T, x.cps[i]? = some c → xs[i]? = some v → Pv i σ H → H T = none → g (.ref T) σ (upd H T (.tup [.str ⟨#[c]⟩, v])) fun σ2 H2 => tb { D with nx := Pv (i + 1), ct := Pv (i + 1), bk := D.nx } σ2 H2) (hd : ∀ σ H, Pv xs.length σ H → D.nx σ H) :
    ∃ W : Nat → Nat → L2.St → Hp → Prop, (∃ m, W 0 m σ H) ∧ ∀ i m σ H, W i m σ H →
      ((Its2 K x a).stop i H ∧ D.nx σ H) ∨ ((Its2 K x a).go i H ∧ ∃ N : L2.St → Hp → Prop, (∀ σ' H', N σ' H' → ∃ m', m' < m ∧ W (i + 1) m' σ' H') ∧ ∀ y H', (Its2 K x a).yld i H y H' → g y σ H' fun σ2 H2 => tb { D with nx := N, ct := N, bk := D.nx } σ2 H2) := by
  refine ⟨fun i m σ H => m = xs.length - i ∧ i ≤ xs.length ∧ Pv i σ H, ⟨xs.length, by simp, Nat.zero_le _, h0⟩, fun i m σ H hW => ?_⟩
  obtain ⟨em, hi, pv_⟩ := hW
  have q := hl i σ H hi pv_
  by_cases c : i < xs.length
  · have cx : i < x.cps.size := by omega
    refine .inr ⟨⟨xs, x.cps[i], xs[i], q, hlen, Array.getElem?_eq_getElem cx, List.getElem?_eq_getElem c⟩, Pv (i + 1), fun σ' H' p' => ⟨xs.length - (i + 1), by omega, rfl, c, p'⟩, fun y H' hy => ?_⟩
    obtain ⟨T, d, v, rfl, nT, rfl, hd1, hv⟩ := hy
    exact hs i d v σ H T hd1 (hv xs q) pv_ nT
  · have e : i = xs.length := by omega
    subst e
    exact .inl ⟨⟨xs, q, hlen, hlen⟩, hd σ H pv_⟩
/-- the parts of which the kind is t, r, p -/
def keepK : List Nat → List V → List V
  | c :: cs, v :: vs => if c = 116 ∨ c = 114 ∨ c = 112 then v :: keepK cs vs else keepK cs vs
  | _, _ => []
theorem keepK_snoc : ∀ (cs : List Nat) (vs : List V) (c : Nat) (v : V), cs.length = vs.length → keepK (cs ++ [c]) (vs ++ [v]) = keepK cs vs ++ (if c = 116 ∨ c = 114 ∨ c = 112 then [v] else [])
  | [], [], c, v, _ => by
    show (if _ then _ else _) = _
    split <;> rfl
  | [], _ :: _, _, _, h => by simp at h
  | _ :: _, [], _, _, h => by simp at h
  | d :: cs, w :: vs, c, v, h => by
    have ih := keepK_snoc cs vs c v (by simpa using h)
    show (if _ then w :: keepK (cs ++ [c]) (vs ++ [v]) else keepK (cs ++ [c]) (vs ++ [v])) = (if _ then w :: keepK cs vs else keepK cs vs) ++ _
    rw [ih]
    split <;> rfl
theorem keepK_len : ∀ (cs : List Nat) (vs : List V), (keepK cs vs).length ≤ vs.length
  | [], vs => Nat.zero_le _
  | _ :: _, [] => Nat.zero_le _
  | c :: cs, v :: vs => by
    have ih := keepK_len cs vs
    show (if _ then v :: keepK cs vs else keepK cs vs).length ≤ vs.length + 1
    split
    · exact Nat.succ_le_succ ih
    · omega
def spParts : Sp := fun vs H Q _ => ∃ (a : Addr) (q : Str × Str × Str) (xs : List V), vs = [.ref a] ∧ q ∈ formsTab ∧ q.1 ≠ "notion" ∧ H a = some (.tup (.str q.1 :: xs)) ∧ xs.length = q.2.2.cps.size ∧ 1 ≤ xs.length ∧ xs.length ≤ 100 ∧
  ∀ L H', Same H H' → H L = none → H' L = some (.lst (keepK q.2.2.cps.toList xs)) → Q (.ref L) H'
theorem scParts : FnScope ["thing", "kind", "part"] ["thing"] (defScope (top 17)) := ⟨rfl, rfl, rfl, by decide +kernel, rfl, by decide +kernel, by decide +kernel⟩
theorem scWhole : FnScope ["thing"] ["thing"] (defScope (top 14)) := ⟨rfl, rfl, rfl, by decide +kernel, rfl, by decide +kernel, by decide +kernel⟩
def spWhole : Sp := fun vs H Q _ => ∃ i : Int, vs = [.int i] ∧ Q (.bl true) H
section
variable {P : Program} {w : World} {K : PySem.W.Frag} {mg : Str → Option Value} {base : Heap}
theorem ok_whole (D : Df K mg "is_whole" 14) (mis : mg "isinstance" = none) (mi : mg "int" = none) (mb : mg "bool" = none) : Gv P w K mg base 1 "is_whole" ["thing"] spWhole := by
  refine okV D scWhole (fun _ _ _ _ _ _ us hl => match us, hl with | [_], _ => rfl) (fun vs H Q E h => ?_) (fun f cdv A out s H vs Q E hr h => ?_)
  · obtain ⟨i, rfl, _⟩ := h
    rfl
  obtain ⟨i, rfl, k⟩ := h
  refine ⟨_, pss_one (ps_ret (pe_and (pe_callB call_isi rfl mis (by decide +kernel) (pa_cons (pv 0) (pa_cons (pe_bltn (v := .ty "int") rfl mi boot_int rfl) pa_nil))) (pe_one (pe_not (pe_callB call_isi rfl mis (by decide +kernel) (pa_cons (pv 0) (pa_cons (pe_bltn (v := .ty "bool") rfl mb (by decide +kernel) rfl) pa_nil))))))), ?_⟩
  refine ⟨_, rfl, _, _, _, _, _, rfl, .ty "int", .base (.int _), kit_ty (b := "int") (r := true) (by decide +kernel), _, rfl, iteT ?_⟩
  exact ⟨_, rfl, _, _, _, _, _, rfl, .ty "bool", .base (.int _), kit_ty (b := "bool") (r := false) (by decide +kernel), _, rfl, k⟩
theorem ok_parts (D : Df K mg "parts_of" 17) (mz : mg "zip" = none) (GK : Gv P w K mg base 1 "kinds_of" ["word"] spKinds) : Gv P w K mg base 2 "parts_of" ["thing"] spParts := by
  refine okV D scParts (fun _ _ _ _ _ _ us hl => match us, hl with | [_], _ => rfl) (fun vs H Q E h => ?_) (fun f cdv A out s H vs Q E hr h => ?_)
  · obtain ⟨a, q, xs, rfl, _⟩ := h
    rfl
  obtain ⟨a, ⟨z, so, ki⟩, xs, rfl, hq, hnn, ha, hlen, h1, h100, k⟩ := h
  have nd := scParts.nd
  refine ⟨_, pss_cons (ps_if (pt_cmpR op_eq (pe_ix ix_tup (pv 0) pe_int (fun _ _ => rfl)) pe_str (nomark _)) pss_never pss_nil)
    (pss_one (ps_ret (pe_lc (own := [("kind", 1), ("part", 2)]) (g := gTup K 2 (gCons (gName 1) (gCons (gName 2) gNil))) rfl nd (pi_zipS rfl mz (pa_cons (pe_v (E := E0) GK hr rfl (pa_cons (pe_ix ix_tup (pv 0) pe_int (fun _ _ => rfl)) pa_nil)) (pa_cons (pe_slice sl_tupA (pv 0) (po_some pe_int) po_none) pa_nil)))
      (blkOk_by (own := [("kind", 1), ("part", 2)]) (N := ["thing", "kind", "part"]) (sc := defScope (top 17)) (by decide +kernel)) (fun _ _ _ _ _ => pg_tup rfl (pgs_cons (pg_name (i := 1) nd rfl (Or.inl rfl)) (pgs_cons (pg_name (i := 2) nd rfl (Or.inl rfl)) pgs_nil)))
      (fun _ _ _ _ _ => pts_one (pt_cmpR op_in_sign (pv 1) pe_str (by rfl))) (fun _ _ _ _ _ => pv 2)))), ?_⟩
  have hnn : z ≠ Str.ofString "notion" := hnn
  have hlen : xs.length = ki.cps.size := hlen
  refine ⟨_, rfl, a, _, _, _, rfl, rfl, SqT.of ha, atI_head _ _, rfl, _, rfl, ite2 (fun c => absurd c (by rw [eqs_false hnn]; decide)) (fun _ => ?_)⟩
  refine ⟨_, rfl, a, _, _, _, rfl, rfl, SqT.of ha, atI_head _ _, (z, so, ki), hq, rfl, ?_⟩
  have ecut : cutV (V.str z :: xs) (some 1) none = xs := cut_hi (n := 1) _ (by simp)
  refine ⟨_, rfl, _, rfl, a, _, rfl, SqT.of ha, fun wh => ?_, fun _ t2 n2 => ?_⟩
  · exfalso
    have e2 := wh.1
    rw [show (some (1 : Int)) = some ((1 : Nat) : Int) from rfl, HT.sIx_nat, List.length_cons] at e2
    omega
  have z2 := same_upd (o := .tup (cutV (V.str z :: xs) (some 1) none)) n2
  refine ⟨ki, t2, xs, rfl, SqT.of (by rw [upd_same, ecut]), hlen, fun D4 d4 => ?_⟩
  have z4 := same_upd (o := .lst []) d4
  have ht2 : upd (upd H t2 (.tup (cutV (V.str z :: xs) (some 1) none))) D4 (.lst []) t2 = some (.tup xs) := z4 _ _ (by rw [upd_same, ecut])
  have nD : H D4 = none := by
    cases e : H D4 with
    | none => rfl
    | some o =>
      rw [z2 _ _ e] at d4
      cases d4
  refine lc_zipS (K := K) (x := ki) (a := t2) (xs := xs) hlen (fun i H' => Same H H' ∧ H' t2 = some (.tup xs) ∧ H' D4 = some (.lst (keepK (ki.cps.toList.take i) (xs.take i)))) ⟨fun b o e => z4 _ _ (z2 _ _ e), ht2, upd_same⟩ (fun i H' hi h => SqT.of h.2.1) (fun i c v H' T hc hv h nT => ?_) (fun H' h => ?_)
  · obtain ⟨s', h2, hD⟩ := h
    have zT := same_upd (o := .tup [V.str ⟨#[c]⟩, v]) nT
    have hil : i < xs.length := (List.getElem?_eq_some_iff.mp hv).1
    have hci : ki.cps.toList[i]? = some c := by rw [Array.getElem?_toList]; exact hc
    have eks : keepK (ki.cps.toList.take (i + 1)) (xs.take (i + 1)) = keepK (ki.cps.toList.take i) (xs.take i) ++ (if c = 116 ∨ c = 114 ∨ c = 112 then [v] else []) := by
      rw [List.take_add_one, List.take_add_one, hci, hv]
      exact keepK_snoc _ _ c v (by rw [List.length_take, List.length_take, Array.length_toList]; omega)
    have hm : (c ∈ (Str.ofString "trp").cps.toList) ↔ (c = 116 ∨ c = 114 ∨ c = 112) := by
      rw [show (Str.ofString "trp").cps.toList = [116, 114, 112] by decide +kernel]
      simp
    refine ⟨T, _, rfl, SqT.of upd_same, rfl, _, _, rfl, _, _, rfl, rfl, rfl, ?_⟩
    refine ⟨_, rfl, c, _, rfl, rfl, _, rfl, ite2 (fun d => ?_) (fun d => ?_)⟩
    · have hm' := hm.mp (of_decide_eq_true d)
      rw [if_pos hm'] at eks
      have hkl := keepK_len (ki.cps.toList.take i) (xs.take i)
      rw [List.length_take] at hkl
      refine ⟨_, rfl, _, zT _ _ hD, small1000 (by omega), fun b o e => ?_, ?_, ?_⟩
      · rw [upd_ne (ne_of_none e nD)]
        exact zT _ _ (s' _ _ e)
      · rw [upd_ne (ne_of h2 hD (by intro z; cases z))]
        exact zT _ _ h2
      · rw [upd_same, eks]
    · have hm' : ¬ (c = 116 ∨ c = 114 ∨ c = 112) := fun e => d (decide_eq_true (hm.mpr e))
      rw [if_neg hm', List.append_nil] at eks
      refine ⟨fun b o e => zT _ _ (s' _ _ e), zT _ _ h2, ?_⟩
      rw [eks]
      exact zT _ _ hD
  · obtain ⟨s', h2, hD⟩ := h
    rw [List.take_length, List.take_of_length_le (by rw [Array.length_toList]; omega)] at hD
    exact k D4 H' s' nD hD
end
end Lw
/-! Part V: what a thing is worth, by the law's own defs. -/
namespace Lw
open PySem PySem.Spec L2 PyProof.Rows
/-- tuples, locked things, dicts stand -/
structure KD (H H' : Hp) : Prop where
  t : KT H H'
  f : ∀ b o u, H b = some (.frz o u) → H' b = some (.frz o u)
  d : ∀ b kvs, H b = some (.dK kvs) → H' b = some (.dK kvs)
theorem KD.of {H H' : Hp} (s : Same H H') : KD H H' := ⟨KT.of s, fun b o u e => s _ _ e, fun b kvs e => s _ _ e⟩
theorem Kq.kd {p : Addr} {H H' : Hp} (k : Kq p H H') {r : Nat} (h : Pen H p r) : KD H H' := by
  have ne_ : ∀ b o, H b = some o → (∀ xs, o ≠ .lst xs) → b ≠ p := fun b o e n z => by
    obtain ⟨c, a, x, ns, h1, _⟩ := h
    rw [z, h1] at e
    exact n _ (Option.some.inj e).symm
  exact ⟨k.kt h, fun b o u e => k.st _ _ e (ne_ _ _ e fun xs z => by cases z), fun b kvs e => k.st _ _ e (ne_ _ _ e fun xs z => by cases z)⟩
theorem RowN.keep {m : Nat} {H H' : Hp} {v : V} {f : RowF} (h : RowN m H v f) (k : KD H H') : RowN m H' v f := by
  obtain ⟨a, b, o, xs, ps, e, h1, h2, h3, h4, h5, h6⟩ := h
  exact ⟨a, b, o, xs, ps, e, k.t _ _ h1, k.f _ _ _ h2, h3, h4.kt k.t, h5, h6⟩
theorem TabR.keep {H H' : Hp} {T : Addr} {ns rs : List Key} {tn : Key → Int} {tr : Key → RowF} (h : TabR H T ns rs tn tr) (k : KD H H') : TabR H' T ns rs tn tr := by
  obtain ⟨kvs, h1, h2, h3⟩ := h
  exact ⟨kvs, k.d _ _ h1, h2, fun l hl => let ⟨v, e, r⟩ := h3 l hl; ⟨v, e, r.keep k⟩⟩
/-- what a thing is worth (its number, its row), where an entry is worth G -/
def wv (es : List Th) (tn : Key → Int) (tr : Key → RowF) (G : Th → Int) : Th → Int × RowF
  | .nam l => (tn l, 0, fun _ => 0)
  | .sum ps n => (n + (ps.map fun q => q.2 * (match es[q.1]? with | some e => G e | none => 0)).sum, 0, fun _ => 0)
  | .row l => (0, tr l)
  | .wth r s t => (0, (wv es tn tr G r).2.1, fun i => if (wv es tn tr G s).1 = i then (wv es tn tr G t).1 else (wv es tn tr G r).2.2 i)
  | .room s => (0, max (wv es tn tr G s).1 0, fun _ => 0)
  | .read r s => ((wv es tn tr G r).2.2 (wv es tn tr G s).1, 0, fun _ => 0)
  | .size r => ((wv es tn tr G r).2.1, 0, fun _ => 0)
  | .div s k => ((wv es tn tr G s).1 / k, 0, fun _ => 0)
  | .mod s k => ((wv es tn tr G s).1 % k, 0, fun _ => 0)
/-- what an entry of rank below n is worth -/
def wG (es : List Th) (tn : Key → Int) (tr : Key → RowF) : Nat → Th → Int
  | 0 => fun _ => 0
  | n + 1 => fun th => (wv es tn tr (wG es tn tr n) th).1
/-- well sorted (false: worth a number; true: worth a row) -/
def OkT (ns rs : List Key) : Bool → Th → Prop
  | false, .nam l => l ∈ ns
  | false, .sum _ _ => True
  | false, .read r s => OkT ns rs true r ∧ OkT ns rs false s
  | false, .size r => OkT ns rs true r
  | false, .div s k => OkT ns rs false s ∧ 1 ≤ k ∧ k ≤ 1000000000
  | false, .mod s k => OkT ns rs false s ∧ 1 ≤ k ∧ k ≤ 1000000000
  | true, .row l => l ∈ rs
  | true, .wth r s t => OkT ns rs true r ∧ OkT ns rs false s ∧ OkT ns rs false t
  | true, .room s => OkT ns rs false s
  | _, _ => False
/-- a pool that lies anywhere -/
def PoolW (H : Hp) (L : Addr) (v : V) (es : List Th) (th : Th) : Prop := ∃ p, PoolR p H L es ∧ ThR p H v th
theorem PoolW.keep {H H' : Hp} {L : Addr} {v : V} {es : List Th} {th : Th} (h : PoolW H L v es th) (s : Same H H') : PoolW H' L v es th := by
  obtain ⟨p, h1, h2⟩ := h
  exact ⟨p, h1.keep (.of s), h2.keep (.of s)⟩
section
variable (es : List Th) (ns rs : List Key) (tn : Key → Int) (tr : Key → RowF)
def spWorth (n h : Nat) : Sp := fun vs H Q _ => ∃ (L T : Addr) (v : V) (th : Th), vs = [.ref L, .ref T, v] ∧ PoolW H L v es th ∧ TabR H T ns rs tn tr ∧ Rk es n th ∧ th.ht ≤ h ∧ OkT ns rs false th ∧ ∀ H', Same H H' → Q (.int (wv es tn tr (wG es tn tr n) th).1) H'
def spRead (n h : Nat) : Sp := fun vs H Q _ => ∃ (L T : Addr) (v : V) (th : Th) (i : Int), vs = [.ref L, .ref T, v, .int i] ∧ PoolW H L v es th ∧ TabR H T ns rs tn tr ∧ Rk es n th ∧ th.ht ≤ h ∧ OkT ns rs true th ∧ ∀ H', Same H H' → Q (.int ((wv es tn tr (wG es tn tr n) th).2.2 i)) H'
def spSize (n h : Nat) : Sp := fun vs H Q _ => ∃ (L T : Addr) (v : V) (th : Th), vs = [.ref L, .ref T, v] ∧ PoolW H L v es th ∧ TabR H T ns rs tn tr ∧ Rk es n th ∧ th.ht ≤ h ∧ OkT ns rs true th ∧ ∀ H', Same H H' → Q (.int (wv es tn tr (wG es tn tr n) th).2.1) H'
end
theorem scRead : FnScope ["_law_pool", "_law_table", "_law_row", "_law_place"] ["_law_pool", "_law_table", "_law_row", "_law_place"] (defScope (top 53)) := ⟨rfl, rfl, rfl, by decide +kernel, rfl, by decide +kernel, by decide +kernel⟩
theorem scSize : FnScope ["_law_pool", "_law_table", "_law_row"] ["_law_pool", "_law_table", "_law_row"] (defScope (top 54)) := ⟨rfl, rfl, rfl, by decide +kernel, rfl, by decide +kernel, by decide +kernel⟩
theorem scWorth : FnScope ["_law_pool", "_law_table", "_law_thing", "_law_word", "_law_one", "_law_k", "_law_weight"] ["_law_pool", "_law_table", "_law_thing"] (defScope (top 55)) := ⟨rfl, rfl, rfl, by decide +kernel, rfl, by decide +kernel, by decide +kernel⟩
section
variable {P : Program} {w : World} {K : PySem.W.Frag} {mg : Str → Option Value} {base : Heap} {es : List Th} {ns rs : List Key} {tn : Key → Int} {tr : Key → RowF}
theorem m2 {X : Cx} {o e f : Expr} {m : Str} {apos cpos : Pos} (h1 : attributeBase o m X.env (eval o X.env) = eval o X.env := by rfl) (h2 : ((backTo cpos (starEach [e, f] X.env)).all (fun x => !x.1) && (backToKw cpos (keywordEach [] X.env)).all (fun x => x.1.isSome)
    && decide (([e, f] : List Expr).length + ([] : List Keyword).length + (if ([] : List Keyword).isEmpty then 0 else 1) < 30)) = true := by rfl) (h3 : (apos.endLine == cpos.line) = true := by rfl) (h4 : backTo cpos (starEach [e, f] X.env) = [(false, eval e X.env), (false, eval f X.env)] := by rfl) : M2 X o m apos e f cpos := ⟨h1, h2, h3, h4⟩
/-- d = dict(t); d.get(i, 0) -/
theorem row_word {p : Addr} {H : Hp} {v : V} {th : Th} (h : ThR p H v th) : ∀ {l : Key}, th = .row l → ∃ a, v = .ref a ∧ H a = some (.tup [.str "row", kV l]) := by
  rintro l rfl
  obtain ⟨a, xs, rfl, ha, hx⟩ := DR.tup_inv h
  obtain ⟨x, r, rfl, g, hx⟩ := hx.cons_inv
  obtain ⟨y, r, rfl, g2, hx⟩ := hx.cons_inv
  cases hx
  cases g.str_inv
  cases g2.key
  exact ⟨a, rfl, ha⟩
theorem st_read (D : Df K mg "_law_s_read" 53) (md : mg "dict" = none) (n h k : Nat) (GW : ∀ h', h = h' + 1 → Gv P w K mg base k "_law_s_worth" ["_law_pool", "_law_table", "_law_thing"] (spWorth es ns rs tn tr n h') ∧ Gv P w K mg base k "_law_s_read" ["_law_pool", "_law_table", "_law_row", "_law_place"] (spRead es ns rs tn tr n h')) (DW : Df K mg "_law_s_worth" 55) :
    Gv P w K mg base (k + 1) "_law_s_read" ["_law_pool", "_law_table", "_law_row", "_law_place"] (spRead es ns rs tn tr n h) := by
  obtain ⟨sW, sR, GE, GR, hE⟩ : ∃ sW sR : Sp, Gv P w K mg base k "_law_s_worth" ["_law_pool", "_law_table", "_law_thing"] sW ∧ Gv P w K mg base k "_law_s_read" ["_law_pool", "_law_table", "_law_row", "_law_place"] sR ∧ ∀ h', h = h' + 1 → sW = spWorth es ns rs tn tr n h' ∧ sR = spRead es ns rs tn tr n h' := by
    cases h with
    | zero => exact ⟨fun _ _ _ _ => False, fun _ _ _ _ => False, Gv.never DW (fun _ _ _ _ _ _ us hl => match us, hl with | [_, _, _], _ => rfl) fun _ _ _ _ z => z, Gv.never D (fun _ _ _ _ _ _ us hl => match us, hl with | [_, _, _, _], _ => rfl) fun _ _ _ _ z => z, fun n' e => by omega⟩
    | succ h' => exact ⟨_, _, (GW h' rfl).1, (GW h' rfl).2, fun m e => by cases e; exact ⟨rfl, rfl⟩⟩
  refine okV D scRead (fun _ _ _ _ _ _ us hl => match us, hl with | [_, _, _, _], _ => rfl) (fun vs H Q E h => ?_) (fun f cdv A out s H vs Q E hr h => ?_)
  · obtain ⟨L, T, v, th, i, rfl, _⟩ := h
    rfl
  obtain ⟨L, T, v, th, i, rfl, hpw, hT, hrk, hht, hok, q⟩ := h
  have nd := scRead.nd
  refine ⟨_, pss_cons (ps_if (pt_cmpR op_eq (pe_ix ix_tup (pv 2) pe_int (fun _ _ => rfl)) pe_str (nomark _))
      (pss_one (ps_ret (pe_dget2 (hu_of hr) (pe_callTy (call_dictTup rfl) rfl md boot_dict (pa_cons (pe_ix ix_tup (pe_dget (hu_of hr) (pv 1) (pe_ix ix_tup (pv 2) pe_int (fun _ _ => rfl)) (fun _ _ => rfl)) pe_int (fun _ _ => rfl)) pa_nil)) (pv 3) pe_int m2))) pss_nil)
    (pss_cons (ps_if (pt_cmpR op_eq (pe_ix ix_tup (pv 2) pe_int (fun _ _ => rfl)) pe_str (nomark _)) (pss_one (ps_ret pe_int)) pss_nil)
    (pss_cons (ps_if (pt_cmpR op_eq (pe_v (E := E0) GE hr rfl (pa_cons (pv 0) (pa_cons (pv 1) (pa_cons (pe_ix ix_tup (pv 2) pe_int (fun _ _ => rfl)) pa_nil)))) (pv 3) (nomark _))
      (pss_one (ps_ret (pe_v (E := E0) GE hr rfl (pa_cons (pv 0) (pa_cons (pv 1) (pa_cons (pe_ix ix_tup (pv 2) pe_int (fun _ _ => rfl)) pa_nil)))))) pss_nil)
    (pss_one (ps_ret (pe_v (E := E0) GR hr rfl (pa_cons (pv 0) (pa_cons (pv 1) (pa_cons (pe_ix ix_tup (pv 2) pe_int (fun _ _ => rfl)) (pa_cons (pv 3) pa_nil))))))))), ?_⟩
  obtain ⟨p, hL, hth⟩ := hpw
  cases th with
  | nam _ => exact hok.elim
  | sum _ _ => exact hok.elim
  | read _ _ => exact hok.elim
  | size _ => exact hok.elim
  | div _ _ => exact hok.elim
  | mod _ _ => exact hok.elim
  | row l =>
    obtain ⟨a, rfl, ha⟩ := row_word hth rfl
    obtain ⟨kvs, hT1, hT2, hT3⟩ := hT
    obtain ⟨rv, hrv, ra, rb, ro, xs, ps, rfl, r1, r2, r3, r4, r5, r6⟩ := hT3 l hok
    refine ⟨_, rfl, a, _, _, _, rfl, rfl, SqT.of ha, rfl, rfl, _, rfl, iteT ?_⟩
    refine ⟨_, rfl, _, rfl, a, _, _, _, rfl, rfl, SqT.of ha, rfl, T, _, rfl, by rw [← hrv]; exact DGet.k hT1, ra, _, _, _, rfl, rfl, SqT.of r1, rfl, rb, ro, xs, ps, rfl, r2, r3, r4, fun d hd => ⟨d, rfl, .inl ⟨_, .inl upd_same⟩, _, rfl, _, DGet.k (k := Sum.inl i) upd_same, ?_⟩⟩
    rw [rd_getD, r6]
    exact q _ (same_upd hd)
  | room s =>
    obtain ⟨a, x, rfl, ha, h1⟩ := hth
    refine ⟨_, rfl, a, _, _, _, rfl, rfl, SqT.of ha, rfl, rfl, _, rfl, iteF ?_⟩
    exact ⟨_, rfl, a, _, _, _, rfl, rfl, SqT.of ha, rfl, rfl, _, rfl, iteT (q _ fun _ _ e => e)⟩
  | wth r s t =>
    obtain ⟨a, x, y, z, rfl, ha, h1, h2, h3⟩ := hth
    obtain ⟨h', hh'⟩ : ∃ h', h = h' + 1 := ⟨h - 1, by simp only [Th.ht] at hht; omega⟩
    obtain ⟨rfl, rfl⟩ := hE h' hh'
    simp only [Th.ht] at hht
    have rk : Rk es n r ∧ Rk es n s ∧ Rk es n t := by cases n <;> exact hrk
    refine ⟨_, rfl, a, _, _, _, rfl, rfl, SqT.of ha, rfl, rfl, _, rfl, iteF ?_⟩
    refine ⟨_, rfl, a, _, _, _, rfl, rfl, SqT.of ha, rfl, rfl, _, rfl, iteF ?_⟩
    refine ⟨_, rfl, _, rfl, _, rfl, a, _, _, _, rfl, rfl, SqT.of ha, rfl, ?_⟩
    refine ⟨L, T, y, s, rfl, ⟨p, hL, h2⟩, hT, rk.2.1, by omega, hok.2.1, fun H1 s1 => ?_⟩
    refine ⟨_, rfl, rfl, _, rfl, ?_⟩
    by_cases e : (wv es tn tr (wG es tn tr n) s).1 = i
    · refine ite2 (fun _ => ?_) (fun c => absurd (by rw [e]; exact decide_eq_true rfl) c)
      refine ⟨_, rfl, _, rfl, _, rfl, a, _, _, _, rfl, rfl, SqT.of (s1 _ _ ha), rfl, ?_⟩
      refine ⟨L, T, z, t, rfl, ⟨p, hL.keep (.of s1), h3.keep (.of s1)⟩, hT.keep (.of s1), rk.2.2, by omega, hok.2.2, fun H2 s2 => ?_⟩
      have e2 : (wv es tn tr (wG es tn tr n) (.wth r s t)).2.2 i = (wv es tn tr (wG es tn tr n) t).1 := if_pos e
      rw [← e2]
      exact q _ fun b o u => s2 _ _ (s1 _ _ u)
    · refine ite2 (fun c => absurd (show V.int _ = V.int i from of_decide_eq_true c) (fun z => e (by injection z))) (fun _ => ?_)
      refine ⟨_, rfl, _, rfl, _, rfl, a, _, _, _, rfl, rfl, SqT.of (s1 _ _ ha), rfl, _, rfl, ?_⟩
      refine ⟨L, T, x, r, i, rfl, ⟨p, hL.keep (.of s1), h1.keep (.of s1)⟩, hT.keep (.of s1), rk.1, by omega, hok.1, fun H2 s2 => ?_⟩
      have e2 : (wv es tn tr (wG es tn tr n) (.wth r s t)).2.2 i = (wv es tn tr (wG es tn tr n) r).2.2 i := if_neg e
      rw [← e2]
      exact q _ fun b o u => s2 _ _ (s1 _ _ u)
theorem st_size (D : Df K mg "_law_s_size" 54) (mm : mg "max" = none) (n h k : Nat) (GW : ∀ h', h = h' + 1 → Gv P w K mg base k "_law_s_worth" ["_law_pool", "_law_table", "_law_thing"] (spWorth es ns rs tn tr n h') ∧ Gv P w K mg base k "_law_s_size" ["_law_pool", "_law_table", "_law_row"] (spSize es ns rs tn tr n h')) (DW : Df K mg "_law_s_worth" 55) :
    Gv P w K mg base (k + 1) "_law_s_size" ["_law_pool", "_law_table", "_law_row"] (spSize es ns rs tn tr n h) := by
  obtain ⟨sW, sR, GE, GR, hE⟩ : ∃ sW sR : Sp, Gv P w K mg base k "_law_s_worth" ["_law_pool", "_law_table", "_law_thing"] sW ∧ Gv P w K mg base k "_law_s_size" ["_law_pool", "_law_table", "_law_row"] sR ∧ ∀ h', h = h' + 1 → sW = spWorth es ns rs tn tr n h' ∧ sR = spSize es ns rs tn tr n h' := by
    cases h with
    | zero => exact ⟨fun _ _ _ _ => False, fun _ _ _ _ => False, Gv.never DW (fun _ _ _ _ _ _ us hl => match us, hl with | [_, _, _], _ => rfl) fun _ _ _ _ z => z, Gv.never D (fun _ _ _ _ _ _ us hl => match us, hl with | [_, _, _], _ => rfl) fun _ _ _ _ z => z, fun n' e => by omega⟩
    | succ h' => exact ⟨_, _, (GW h' rfl).1, (GW h' rfl).2, fun m e => by cases e; exact ⟨rfl, rfl⟩⟩
  refine okV D scSize (fun _ _ _ _ _ _ us hl => match us, hl with | [_, _, _], _ => rfl) (fun vs H Q E h => ?_) (fun f cdv A out s H vs Q E hr h => ?_)
  · obtain ⟨L, T, v, th, rfl, _⟩ := h
    rfl
  obtain ⟨L, T, v, th, rfl, hpw, hT, hrk, hht, hok, q⟩ := h
  have nd := scSize.nd
  refine ⟨_, pss_cons (ps_if (pt_cmpR op_eq (pe_ix ix_tup (pv 2) pe_int (fun _ _ => rfl)) pe_str (nomark _))
      (pss_one (ps_ret (pe_ix ix_tup (pe_dget (hu_of hr) (pv 1) (pe_ix ix_tup (pv 2) pe_int (fun _ _ => rfl)) (fun _ _ => rfl)) pe_int (fun _ _ => rfl)))) pss_nil)
    (pss_one (ps_ret (pe_ifExp (pt_cmpR op_eq (pe_ix ix_tup (pv 2) pe_int (fun _ _ => rfl)) pe_str (nomark _)) (pe_callB (call_max2 rfl) rfl mm (by decide +kernel) (pa_cons (pe_v (E := E0) GE hr rfl (pa_cons (pv 0) (pa_cons (pv 1) (pa_cons (pe_ix ix_tup (pv 2) pe_int (fun _ _ => rfl)) pa_nil)))) (pa_cons pe_int pa_nil)))
      (pe_v (E := E0) GR hr rfl (pa_cons (pv 0) (pa_cons (pv 1) (pa_cons (pe_ix ix_tup (pv 2) pe_int (fun _ _ => rfl)) pa_nil))))))), ?_⟩
  obtain ⟨p, hL, hth⟩ := hpw
  cases th with
  | nam _ => exact hok.elim
  | sum _ _ => exact hok.elim
  | read _ _ => exact hok.elim
  | size _ => exact hok.elim
  | div _ _ => exact hok.elim
  | mod _ _ => exact hok.elim
  | row l =>
    obtain ⟨a, rfl, ha⟩ := row_word hth rfl
    obtain ⟨kvs, hT1, hT2, hT3⟩ := hT
    obtain ⟨rv, hrv, ra, rb, ro, xs, ps, rfl, r1, r2, r3, r4, r5, r6⟩ := hT3 l hok
    refine ⟨_, rfl, a, _, _, _, rfl, rfl, SqT.of ha, rfl, rfl, _, rfl, iteT ?_⟩
    exact ⟨_, rfl, _, rfl, a, _, _, _, rfl, rfl, SqT.of ha, rfl, T, _, rfl, by rw [← hrv]; exact DGet.k hT1, ra, _, _, _, rfl, rfl, SqT.of r1, rfl, q _ fun _ _ e => e⟩
  | room s =>
    obtain ⟨a, x, rfl, ha, h1⟩ := hth
    obtain ⟨h', hh'⟩ : ∃ h', h = h' + 1 := ⟨h - 1, by simp only [Th.ht] at hht; omega⟩
    obtain ⟨rfl, rfl⟩ := hE h' hh'
    simp only [Th.ht] at hht
    have rk : Rk es n s := by cases n <;> exact hrk
    refine ⟨_, rfl, a, _, _, _, rfl, rfl, SqT.of ha, rfl, rfl, _, rfl, iteF ?_⟩
    refine ⟨_, rfl, a, _, _, _, rfl, rfl, SqT.of ha, rfl, rfl, _, rfl, iteT ?_⟩
    refine ⟨_, rfl, _, rfl, _, rfl, a, _, _, _, rfl, rfl, SqT.of ha, rfl, L, T, x, s, rfl, ⟨p, hL, h1⟩, hT, rk, by omega, hok, fun H1 s1 => ⟨_, _, rfl, ?_⟩⟩
    have e2 : (if (0 : Int) > (wv es tn tr (wG es tn tr n) s).1 then 0 else (wv es tn tr (wG es tn tr n) s).1) = max (wv es tn tr (wG es tn tr n) s).1 0 := by omega
    rw [e2]
    exact q _ s1
  | wth r s t =>
    obtain ⟨a, x, y, z, rfl, ha, h1, h2, h3⟩ := hth
    obtain ⟨h', hh'⟩ : ∃ h', h = h' + 1 := ⟨h - 1, by simp only [Th.ht] at hht; omega⟩
    obtain ⟨rfl, rfl⟩ := hE h' hh'
    simp only [Th.ht] at hht
    have rk : Rk es n r ∧ Rk es n s ∧ Rk es n t := by cases n <;> exact hrk
    refine ⟨_, rfl, a, _, _, _, rfl, rfl, SqT.of ha, rfl, rfl, _, rfl, iteF ?_⟩
    refine ⟨_, rfl, a, _, _, _, rfl, rfl, SqT.of ha, rfl, rfl, _, rfl, iteF ?_⟩
    exact ⟨_, rfl, _, rfl, _, rfl, a, _, _, _, rfl, rfl, SqT.of ha, rfl, L, T, x, r, rfl, ⟨p, hL, h1⟩, hT, rk.1, by omega, hok.1, fun H1 s1 => q _ s1⟩
/-- an entry's worth, as the sum names it -/
def cG (es : List Th) (tn : Key → Int) (tr : Key → RowF) (n k : Nat) : Int := match es[k]? with | some e => wG es tn tr n e | none => 0
theorem st_worth (D : Df K mg "_law_s_worth" 55) (DR_ : Df K mg "_law_s_read" 53) (DS : Df K mg "_law_s_size" 54) (ms : mg "sum" = none) (n h k : Nat) (hes : ∀ e ∈ es, OkT ns rs false e) (HB : ∀ m, m ≤ n → ∀ e ∈ es, (wG es tn tr m e).natAbs < 2 ^ 5000)
    (GN : ∀ n', n = n' + 1 → Gv P w K mg base k "_law_s_worth" ["_law_pool", "_law_table", "_law_thing"] (spWorth es ns rs tn tr n' 4))
    (GW : ∀ h', h = h' + 1 → Gv P w K mg base k "_law_s_worth" ["_law_pool", "_law_table", "_law_thing"] (spWorth es ns rs tn tr n h') ∧ Gv P w K mg base k "_law_s_read" ["_law_pool", "_law_table", "_law_row", "_law_place"] (spRead es ns rs tn tr n h') ∧ Gv P w K mg base k "_law_s_size" ["_law_pool", "_law_table", "_law_row"] (spSize es ns rs tn tr n h')) :
    Gv P w K mg base (k + 1) "_law_s_worth" ["_law_pool", "_law_table", "_law_thing"] (spWorth es ns rs tn tr n h) := by
  obtain ⟨sW, sR, sS, GE, GR, GS, hE⟩ : ∃ sW sR sS : Sp, Gv P w K mg base k "_law_s_worth" ["_law_pool", "_law_table", "_law_thing"] sW ∧ Gv P w K mg base k "_law_s_read" ["_law_pool", "_law_table", "_law_row", "_law_place"] sR ∧ Gv P w K mg base k "_law_s_size" ["_law_pool", "_law_table", "_law_row"] sS ∧ ∀ h', h = h' + 1 → sW = spWorth es ns rs tn tr n h' ∧ sR = spRead es ns rs tn tr n h' ∧ sS = spSize es ns rs tn tr n h' := by
    cases h with
    | zero => exact ⟨fun _ _ _ _ => False, fun _ _ _ _ => False, fun _ _ _ _ => False, Gv.never D (fun _ _ _ _ _ _ us hl => match us, hl with | [_, _, _], _ => rfl) fun _ _ _ _ z => z, Gv.never DR_ (fun _ _ _ _ _ _ us hl => match us, hl with | [_, _, _, _], _ => rfl) fun _ _ _ _ z => z, Gv.never DS (fun _ _ _ _ _ _ us hl => match us, hl with | [_, _, _], _ => rfl) fun _ _ _ _ z => z, fun n' e => by omega⟩
    | succ h' => exact ⟨_, _, _, (GW h' rfl).1, (GW h' rfl).2.1, (GW h' rfl).2.2, fun m e => by cases e; exact ⟨rfl, rfl, rfl⟩⟩
  obtain ⟨sN, GE4, hE4⟩ : ∃ sN : Sp, Gv P w K mg base k "_law_s_worth" ["_law_pool", "_law_table", "_law_thing"] sN ∧ ∀ n', n = n' + 1 → sN = spWorth es ns rs tn tr n' 4 := by
    cases n with
    | zero => exact ⟨fun _ _ _ _ => False, Gv.never D (fun _ _ _ _ _ _ us hl => match us, hl with | [_, _, _], _ => rfl) fun _ _ _ _ z => z, fun n' e => by omega⟩
    | succ n' => exact ⟨_, GN n' rfl, fun m e => by cases e; rfl⟩
  refine okV D scWorth (fun _ _ _ _ _ _ us hl => match us, hl with | [_, _, _], _ => rfl) (fun vs H Q E h => ?_) (fun f cdv A out s H vs Q E hr h => ?_)
  · obtain ⟨L, T, v, th, rfl, _⟩ := h
    rfl
  obtain ⟨L, T, v, th, rfl, hpw, hT, hrk, hht, hok, q⟩ := h
  have nd := scWorth.nd
  refine ⟨_, pss_cons (ps_set (i := 3) nd rfl (Or.inl rfl) (pe_ix ix_tup (pv 2) pe_int (fun _ _ => rfl)))
    (pss_cons (ps_if (pt_cmpR op_eq (pv 3) pe_str (nomark _)) (pss_one (ps_ret (pe_op op_add (pe_ix ix_tup (pv 2) pe_int (fun _ _ => rfl)) (pe_callB (cr_sum rfl) rfl ms (by decide +kernel) (pa_cons
        (pe_lc (own := [("_law_k", 5), ("_law_weight", 6)]) (g := gTup K 2 (gCons (gName 5) (gCons (gName 6) gNil))) (tt := tYes) rfl nd (pi_list (pe_ix ix_tup (pv 2) pe_int (fun _ _ => rfl))) (blkOk_by (own := [("_law_k", 5), ("_law_weight", 6)]) (N := ["_law_pool", "_law_table", "_law_thing", "_law_word", "_law_one", "_law_k", "_law_weight"]) (sc := defScope (top 55)) (by decide +kernel))
          (fun _ _ _ _ _ => pg_tup rfl (pgs_cons (pg_name (i := 5) nd rfl (Or.inl rfl)) (pgs_cons (pg_name (i := 6) nd rfl (Or.inl rfl)) pgs_nil))) (fun _ _ _ _ _ => pts_nil)
          (fun _ _ _ _ _ => pe_op op_mulW (pv 6) (pe_v (E := E0) GE4 hr rfl (pa_cons (pv 0) (pa_cons (pv 1) (pa_cons (pe_ix (show IxR _ (rIxL K) from ix_list) (pv 0) (pv 5) (fun _ _ => rfl)) pa_nil)))))) pa_nil))))) pss_nil)
    (pss_cons (ps_if (pt_cmpR op_eq (pv 3) pe_str (nomark _)) (pss_one (ps_ret (pe_dget (hu_of hr) (pv 1) (pe_ix ix_tup (pv 2) pe_int (fun _ _ => rfl)) (fun _ _ => rfl)))) pss_nil)
    (pss_cons (ps_if (pt_cmpR op_eq (pv 3) pe_str (nomark _)) (pss_one (ps_ret (pe_v (E := E0) GR hr rfl (pa_cons (pv 0) (pa_cons (pv 1) (pa_cons (pe_ix ix_tup (pv 2) pe_int (fun _ _ => rfl)) (pa_cons (pe_v (E := E0) GE hr rfl (pa_cons (pv 0) (pa_cons (pv 1) (pa_cons (pe_ix ix_tup (pv 2) pe_int (fun _ _ => rfl)) pa_nil)))) pa_nil))))))) pss_nil)
    (pss_cons (ps_if (pt_cmpR op_eq (pv 3) pe_str (nomark _)) (pss_one (ps_ret (pe_v (E := E0) GS hr rfl (pa_cons (pv 0) (pa_cons (pv 1) (pa_cons (pe_ix ix_tup (pv 2) pe_int (fun _ _ => rfl)) pa_nil)))))) pss_nil)
    (pss_cons (ps_if (pt_cmpR op_eq (pv 3) pe_str (nomark _)) pss_never pss_nil)
    (pss_cons (ps_set (i := 4) nd rfl (Or.inl rfl) (pe_v (E := E0) GE hr rfl (pa_cons (pv 0) (pa_cons (pv 1) (pa_cons (pe_ix ix_tup (pv 2) pe_int (fun _ _ => rfl)) pa_nil)))))
    (pss_one (ps_ret (pe_ifExp (pt_cmpR op_eq (pv 3) pe_str (nomark _)) (pe_op op_fdivW (pv 4) (pe_ix ix_tup (pv 2) pe_int (fun _ _ => rfl))) (pe_op op_mod (pv 4) (pe_ix ix_tup (pv 2) pe_int (fun _ _ => rfl)))))))))))), ?_⟩
  obtain ⟨p, hL, hth⟩ := hpw
  cases th with
  | row _ => exact hok.elim
  | wth _ _ _ => exact hok.elim
  | room _ => exact hok.elim
  | nam l =>
    obtain ⟨a, xs, rfl, ha, hx⟩ := DR.tup_inv hth
    obtain ⟨x, r, rfl, g, hx⟩ := hx.cons_inv
    obtain ⟨y, r, rfl, g2, hx⟩ := hx.cons_inv
    cases hx
    cases g.str_inv
    cases g2.key
    obtain ⟨kvs, hT1, hT2, hT3⟩ := hT
    refine ⟨_, rfl, a, _, _, _, rfl, rfl, SqT.of ha, rfl, _, rfl, rfl, _, rfl, iteF ?_⟩
    refine ⟨_, rfl, rfl, _, rfl, iteT ?_⟩
    exact ⟨_, rfl, _, rfl, a, _, _, _, rfl, rfl, SqT.of ha, rfl, T, _, rfl, (by have g := DGet.k (k := l) hT1; rw [hT2 l hok] at g; exact g), q _ fun _ _ e => e⟩
  | size r =>
    obtain ⟨a, x, rfl, ha, h1⟩ := hth
    obtain ⟨h', hh'⟩ : ∃ h', h = h' + 1 := ⟨h - 1, by simp only [Th.ht] at hht; omega⟩
    obtain ⟨rfl, rfl, rfl⟩ := hE h' hh'
    simp only [Th.ht] at hht
    have rk : Rk es n r := by cases n <;> exact hrk
    refine ⟨_, rfl, a, _, _, _, rfl, rfl, SqT.of ha, rfl, _, rfl, rfl, _, rfl, iteF ?_⟩
    refine ⟨_, rfl, rfl, _, rfl, iteF ?_⟩
    refine ⟨_, rfl, rfl, _, rfl, iteF ?_⟩
    refine ⟨_, rfl, rfl, _, rfl, iteT ?_⟩
    exact ⟨_, rfl, _, rfl, _, rfl, a, _, _, _, rfl, rfl, SqT.of ha, rfl, L, T, x, r, rfl, ⟨p, hL, h1⟩, hT, rk, by omega, hok, fun H1 s1 => q _ s1⟩
  | read r s =>
    obtain ⟨a, x, y, rfl, ha, h1, h2⟩ := hth
    obtain ⟨h', hh'⟩ : ∃ h', h = h' + 1 := ⟨h - 1, by simp only [Th.ht] at hht; omega⟩
    obtain ⟨rfl, rfl, rfl⟩ := hE h' hh'
    simp only [Th.ht] at hht
    have rk : Rk es n r ∧ Rk es n s := by cases n <;> exact hrk
    refine ⟨_, rfl, a, _, _, _, rfl, rfl, SqT.of ha, rfl, _, rfl, rfl, _, rfl, iteF ?_⟩
    refine ⟨_, rfl, rfl, _, rfl, iteF ?_⟩
    refine ⟨_, rfl, rfl, _, rfl, iteT ?_⟩
    refine ⟨_, rfl, _, rfl, _, rfl, a, _, _, _, rfl, rfl, SqT.of ha, rfl, _, rfl, _, rfl, _, rfl, a, _, _, _, rfl, rfl, SqT.of ha, rfl, L, T, y, s, rfl, ⟨p, hL, h2⟩, hT, rk.2, by omega, hok.2, fun H1 s1 => ?_⟩
    exact ⟨L, T, x, r, _, rfl, ⟨p, hL.keep (.of s1), h1.keep (.of s1)⟩, hT.keep (.of s1), rk.1, by omega, hok.1, fun H2 s2 => q _ fun b o u => s2 _ _ (s1 _ _ u)⟩
  | div s kk =>
    obtain ⟨a, x, rfl, ha, h1⟩ := hth
    obtain ⟨h', hh'⟩ : ∃ h', h = h' + 1 := ⟨h - 1, by simp only [Th.ht] at hht; omega⟩
    obtain ⟨rfl, rfl, rfl⟩ := hE h' hh'
    simp only [Th.ht] at hht
    have rk : Rk es n s := by cases n <;> exact hrk
    refine ⟨_, rfl, a, _, _, _, rfl, rfl, SqT.of ha, rfl, _, rfl, rfl, _, rfl, iteF ?_⟩
    refine ⟨_, rfl, rfl, _, rfl, iteF ?_⟩
    refine ⟨_, rfl, rfl, _, rfl, iteF ?_⟩
    refine ⟨_, rfl, rfl, _, rfl, iteF ?_⟩
    refine ⟨_, rfl, rfl, _, rfl, iteF ?_⟩
    refine ⟨_, rfl, _, rfl, _, rfl, a, _, _, _, rfl, rfl, SqT.of ha, rfl, L, T, x, s, rfl, ⟨p, hL, h1⟩, hT, rk, by omega, hok.1, fun H1 s1 => ?_⟩
    have hk1 := hok.2.1
    have hk2 := hok.2.2
    refine ⟨_, rfl, rfl, _, rfl, iteT ?_⟩
    exact ⟨_, rfl, _, rfl, a, _, _, _, rfl, rfl, SqT.of (s1 _ _ ha), rfl, _, _, rfl, rfl, wide_div (b := 40) (by omega) (by have : (2 : Nat) ^ 40 = 1099511627776 := by decide
                                                                                                                            omega) (by decide) (by decide), q _ s1⟩
  | mod s kk =>
    obtain ⟨a, x, rfl, ha, h1⟩ := hth
    obtain ⟨h', hh'⟩ : ∃ h', h = h' + 1 := ⟨h - 1, by simp only [Th.ht] at hht; omega⟩
    obtain ⟨rfl, rfl, rfl⟩ := hE h' hh'
    simp only [Th.ht] at hht
    have rk : Rk es n s := by cases n <;> exact hrk
    refine ⟨_, rfl, a, _, _, _, rfl, rfl, SqT.of ha, rfl, _, rfl, rfl, _, rfl, iteF ?_⟩
    refine ⟨_, rfl, rfl, _, rfl, iteF ?_⟩
    refine ⟨_, rfl, rfl, _, rfl, iteF ?_⟩
    refine ⟨_, rfl, rfl, _, rfl, iteF ?_⟩
    refine ⟨_, rfl, rfl, _, rfl, iteF ?_⟩
    refine ⟨_, rfl, _, rfl, _, rfl, a, _, _, _, rfl, rfl, SqT.of ha, rfl, L, T, x, s, rfl, ⟨p, hL, h1⟩, hT, rk, by omega, hok.1, fun H1 s1 => ?_⟩
    have hk1 := hok.2.1
    refine ⟨_, rfl, rfl, _, rfl, iteF ?_⟩
    exact ⟨_, rfl, _, rfl, a, _, _, _, rfl, rfl, SqT.of (s1 _ _ ha), rfl, _, _, rfl, rfl, by show (0 : Int) < kk; omega, q _ s1⟩
  | sum ps m =>
    obtain ⟨ma, mb, mxs, rfl, hma, hmbp, hmb, hmd⟩ := hth
    have hlen : mxs.length = ps.length := by rw [hmd.length, List.length_map]
    refine ⟨_, rfl, ma, _, _, _, rfl, rfl, SqT.of hma, rfl, _, rfl, rfl, _, rfl, iteT ?_⟩
    refine ⟨_, rfl, ma, _, _, _, rfl, rfl, SqT.of hma, rfl, ?_⟩
    refine ⟨_, rfl, ma, _, _, _, rfl, rfl, SqT.of hma, rfl, mb, rfl, ⟨_, SqL.of hmb⟩, fun D4 d4 => ?_⟩
    have z4 := same_upd (o := .lst []) d4
    have hps4 : ps.length ≤ 4 := by cases n <;> exact hrk.1
    refine lc_list (K := K) (a := mb) (xs := mxs) (fun i H' => H' D4 = some (.lst (((ps.take i).map fun q => q.2 * cG es tn tr n q.1).map V.int)) ∧ Same H H') ?_ (fun i H' hi h => SqL.of (h.2 _ _ hmb)) (fun i x H' hx h => ?_) (fun H' h => ?_)
    · exact ⟨upd_same, z4⟩
    · obtain ⟨hD, hs⟩ := h
      obtain ⟨dx, hdx, hrx⟩ := hmd.getV hx
      rw [List.getElem?_map] at hdx
      obtain ⟨⟨qk, qw⟩, hq, rfl⟩ := Option.map_eq_some_iff.mp hdx
      have hqm : (qk, qw) ∈ ps := List.mem_of_getElem? hq
      have hil : i < ps.length := (List.getElem?_eq_some_iff.mp hq).1
      obtain ⟨b, xs, rfl, hb', hx'⟩ := (hrx.kt (.of hs)).tup_inv
      obtain ⟨x1, y1, rfl, k1, hx'⟩ := hx'.cons_inv
      obtain ⟨x2, y2, rfl, k2, hx'⟩ := hx'.cons_inv
      cases hx'
      cases k1.int_inv
      cases k2.int_inv
      obtain ⟨n', hn', e, he, hg1, hg2, hb1, hb2⟩ : ∃ n', n = n' + 1 ∧ ∃ e, es[qk]? = some e ∧ Rk es n' e ∧ e.ht ≤ 4 ∧ -100000000000000000000 ≤ qw ∧ qw ≤ 100000000000000000000 := by
        cases n with
        | zero =>
          obtain ⟨_, _, e, _, z⟩ := hrk.2 _ hqm
          exact z.elim
        | succ n' =>
          obtain ⟨b1, b2, e, he, g1, g2, g3⟩ := hrk.2 _ hqm
          exact ⟨n', rfl, e, he, g1, g2, b1, b2⟩
      subst hn'
      obtain rfl := hE4 n' rfl
      obtain ⟨pvs, pv_, hLs, hat, hthe⟩ := (hL.keep (.of hs)).at he
      refine ⟨b, _, rfl, SqT.of hb', rfl, _, _, rfl, _, _, rfl, rfl, rfl, ?_⟩
      refine ⟨_, rfl, _, rfl, _, rfl, _, rfl, _, rfl, L, pvs, _, _, rfl, rfl, SqL.of hLs, hat, L, T, _, e, rfl, ⟨p, hL.keep (.of hs), hthe⟩, hT.keep (.of hs), hg1, hg2, hes e (List.mem_of_getElem? he), fun H2 s2 => ?_⟩
      have hbit := HB (n' + 1) (Nat.le_refl _) e (List.mem_of_getElem? he)
      have hwb : qw.natAbs < 2 ^ 70 := by
        have : (2 : Nat) ^ 70 = 1180591620717411303424 := by decide
        omega
      have nD : H D4 = none := d4
      refine ⟨_, _, rfl, rfl, wide_mul (a := 70) (b := 5000) hwb hbit (by decide) (by decide) (by decide), _, s2 _ _ hD, small1000 (by rw [List.length_map, List.length_map, List.length_take]; omega), ?_, fun b' o u => ?_⟩
      · rw [upd_same, List.take_add_one, hq]
        have eG : cG es tn tr (n' + 1) qk = (wv es tn tr (wG es tn tr n') e).1 := by
          unfold cG
          rw [he]
          rfl
        rw [← eG]
        simp
      · rw [upd_ne (ne_of_none u nD)]
        exact s2 _ _ (hs _ _ u)
    · obtain ⟨hD, hs⟩ := h
      rw [hlen, List.take_length] at hD
      refine ⟨D4, _, rfl, SqL.of hD, _, _, rfl, rfl, ?_⟩
      exact q _ hs
/-- the three of them, by rank and height -/
theorem ok_values (DW : Df K mg "_law_s_worth" 55) (DR_ : Df K mg "_law_s_read" 53) (DS : Df K mg "_law_s_size" 54) (ms : mg "sum" = none) (md : mg "dict" = none) (mm : mg "max" = none) (N : Nat) (hes : ∀ e ∈ es, OkT ns rs false e) (HB : ∀ m, m ≤ N → ∀ e ∈ es, (wG es tn tr m e).natAbs < 2 ^ 5000) :
    ∀ n : Nat, n ≤ N → ∀ h : Nat, Gv P w K mg base (10 * n + h + 1) "_law_s_worth" ["_law_pool", "_law_table", "_law_thing"] (spWorth es ns rs tn tr n h) ∧ Gv P w K mg base (10 * n + h + 1) "_law_s_read" ["_law_pool", "_law_table", "_law_row", "_law_place"] (spRead es ns rs tn tr n h) ∧
      Gv P w K mg base (10 * n + h + 1) "_law_s_size" ["_law_pool", "_law_table", "_law_row"] (spSize es ns rs tn tr n h) := by
  intro n
  induction n with
  | zero =>
    intro hn h
    induction h with
    | zero => exact ⟨st_worth DW DR_ DS ms 0 0 0 hes (fun m hm => HB m (by omega)) (fun n' e => by omega) (fun h' e => by omega), st_read DR_ md 0 0 0 (fun h' e => by omega) DW, st_size DS mm 0 0 0 (fun h' e => by omega) DW⟩
    | succ h ih => exact ⟨st_worth DW DR_ DS ms 0 (h + 1) (10 * 0 + h + 1) hes (fun m hm => HB m (by omega)) (fun n' e => by omega) (fun h' e => by cases e; exact ih), st_read DR_ md 0 (h + 1) (10 * 0 + h + 1) (fun h' e => by cases e; exact ⟨ih.1, ih.2.1⟩) DW, st_size DS mm 0 (h + 1) (10 * 0 + h + 1) (fun h' e => by cases e; exact ⟨ih.1, ih.2.2⟩) DW⟩
  | succ n ihn =>
    intro hn h
    have g4 := (ihn (by omega) 4).1
    induction h with
    | zero => exact ⟨st_worth DW DR_ DS ms (n + 1) 0 (10 * (n + 1)) hes (fun m hm => HB m (by omega)) (fun n' e => by cases e; exact g4.mono (by omega)) (fun h' e => by omega), st_read DR_ md (n + 1) 0 (10 * (n + 1)) (fun h' e => by omega) DW, st_size DS mm (n + 1) 0 (10 * (n + 1)) (fun h' e => by omega) DW⟩
    | succ h ih => exact ⟨st_worth DW DR_ DS ms (n + 1) (h + 1) (10 * (n + 1) + h + 1) hes (fun m hm => HB m (by omega)) (fun n' e => by cases e; exact g4.mono (by omega)) (fun h' e => by cases e; exact ih), st_read DR_ md (n + 1) (h + 1) (10 * (n + 1) + h + 1) (fun h' e => by cases e; exact ⟨ih.1, ih.2.1⟩) DW, st_size DS mm (n + 1) (h + 1) (10 * (n + 1) + h + 1) (fun h' e => by cases e; exact ⟨ih.1, ih.2.2⟩) DW⟩
end
end Lw
/-! Part W1: what a term is worth; rows made and read. -/
namespace Lw
open PySem PySem.Spec L2 L2.DX PyProof.Rows
/-- what a term is worth (its number, its row) -/
def tv (tn : Key → Int) (tr : Key → RowF) : Tm → Int × RowF
  | .num n => (n, 0, fun _ => 0)
  | .name l => (tn l, 0, fun _ => 0)
  | .add t u => ((tv tn tr t).1 + (tv tn tr u).1, 0, fun _ => 0)
  | .mul n t => (n * (tv tn tr t).1, 0, fun _ => 0)
  | .read r t => ((tv tn tr r).2.2 (tv tn tr t).1, 0, fun _ => 0)
  | .size r => ((tv tn tr r).2.1, 0, fun _ => 0)
  | .div t k => ((tv tn tr t).1 / k, 0, fun _ => 0)
  | .mod t k => ((tv tn tr t).1 % k, 0, fun _ => 0)
  | .row l => (0, tr l)
  | .wth r t u => (0, (tv tn tr r).2.1, fun i => if (tv tn tr t).1 = i then (tv tn tr u).1 else (tv tn tr r).2.2 i)
  | .room t => (0, max (tv tn tr t).1 0, fun _ => 0)
/-- every product in it may be made -/
def MulOk (tn : Key → Int) (tr : Key → RowF) : Tm → Prop
  | .add t u => MulOk tn tr t ∧ MulOk tn tr u
  | .mul n t => CMulW n (tv tn tr t).1 ∧ MulOk tn tr t
  | .read r t => MulOk tn tr r ∧ MulOk tn tr t
  | .size r => MulOk tn tr r
  | .div t _ => MulOk tn tr t
  | .mod t _ => MulOk tn tr t
  | .wth r t u => MulOk tn tr r ∧ MulOk tn tr t ∧ MulOk tn tr u
  | .room t => MulOk tn tr t
  | _ => True
/-! ### dicts of whole numbers -/
theorem put_kvI (qs : List (Int × Int)) (i n : Int) : ∃ rs, putK (kvI qs) (Sum.inl i) (.int n) = kvI rs ∧ rs.length ≤ qs.length + 1 ∧ ((qs.map (·.1)).Nodup → (rs.map (·.1)).Nodup) := by
  unfold putK
  by_cases h : ((kvI qs).any fun kv => decide (kv.1 = Sum.inl i)) = true
  · rw [if_pos h]
    refine ⟨qs.map fun q => if q.1 = i then (q.1, n) else q, ?_, by rw [List.length_map]; omega, fun hn => ?_⟩
    · unfold kvI
      rw [List.map_map, List.map_map]
      refine List.map_congr_left fun q _ => ?_
      show (if (Sum.inl q.1 : Key) = Sum.inl i then ((Sum.inl q.1 : Key), V.int n) else (Sum.inl q.1, V.int q.2)) = (Sum.inl (if q.1 = i then (q.1, n) else q).1, V.int (if q.1 = i then (q.1, n) else q).2)
      by_cases e : q.1 = i
      · rw [if_pos (congrArg Sum.inl e), if_pos e]
      · rw [if_neg (fun z => e (by injection z)), if_neg e]
    · have e : (qs.map fun q => if q.1 = i then (q.1, n) else q).map (·.1) = qs.map (·.1) := by
        rw [List.map_map]
        refine List.map_congr_left fun q _ => ?_
        show (if q.1 = i then (q.1, n) else q).1 = q.1
        split <;> rfl
      rw [e]
      exact hn
  · rw [if_neg h]
    refine ⟨qs ++ [(i, n)], by unfold kvI; rw [List.map_append]; rfl, by rw [List.length_append]; exact Nat.le_refl _, fun hn => ?_⟩
    rw [List.map_append, List.nodup_append]
    refine ⟨hn, by simp, fun x hx y hy => ?_⟩
    obtain ⟨q, hq, rfl⟩ := List.mem_map.mp hx
    have hy : y = i := by simpa using hy
    subst hy
    intro e
    refine h (List.any_eq_true.mpr ⟨(Sum.inl q.1, V.int q.2), List.mem_map.mpr ⟨q, hq, rfl⟩, decide_eq_true (congrArg Sum.inl e)⟩)
theorem merge_kvI (ps : List (Int × Int)) : ∃ rs, mergeK [] (kvI ps) = kvI rs ∧ rs.length ≤ ps.length ∧ (rs.map (·.1)).Nodup := by
  have h : ∀ (ps acc : List (Int × Int)), (acc.map (·.1)).Nodup → ∃ rs, mergeK (kvI acc) (kvI ps) = kvI rs ∧ rs.length ≤ acc.length + ps.length ∧ (rs.map (·.1)).Nodup := by
    intro ps
    induction ps with
    | nil => exact fun acc hn => ⟨acc, rfl, by simp, hn⟩
    | cons q ps ih =>
      intro acc hn
      obtain ⟨a2, e, l, n2⟩ := put_kvI acc q.1 q.2
      obtain ⟨rs, e2, l2, n3⟩ := ih a2 (n2 hn)
      refine ⟨rs, ?_, by rw [List.length_cons]; omega, n3⟩
      show mergeK (putK (kvI acc) (Sum.inl q.1) (.int q.2)) (kvI ps) = _
      rw [e]
      exact e2
  obtain ⟨rs, e, l, n⟩ := h ps [] (by simp)
  exact ⟨rs, e, by simpa using l, n⟩
/-- with keys of their own, what is read is what stands there -/
theorem merge_at : ∀ (ps : List (Int × Int)) (acc : List (Key × V)) (i : Int), (ps.map (·.1)).Nodup → (∀ n, (i, n) ∈ ps → valV (mergeK acc (kvI ps)) (Sum.inl i) = some (.int n)) ∧ ((∀ n, (i, n) ∉ ps) → valV (mergeK acc (kvI ps)) (Sum.inl i) = valV acc (Sum.inl i))
  | [], acc, i, _ => ⟨fun n h => by simp at h, fun _ => rfl⟩
  | q :: ps, acc, i, hn => by
    rw [List.map_cons, List.nodup_cons] at hn
    have ih := merge_at ps (putK acc (Sum.inl q.1) (.int q.2)) i hn.2
    have e : mergeK acc (kvI (q :: ps)) = mergeK (putK acc (Sum.inl q.1) (.int q.2)) (kvI ps) := rfl
    rw [e]
    refine ⟨fun n h => ?_, fun h => ?_⟩
    · rcases List.mem_cons.mp h with rfl | h
      · rw [ih.2 fun n h2 => hn.1 (List.mem_map.mpr ⟨_, h2, rfl⟩), valV_put, if_pos rfl]
      · exact ih.1 n h
    · rw [ih.2 fun n h2 => h n (List.mem_cons_of_mem _ h2), valV_put, if_neg]
      intro z
      injection z with z
      exact h q.2 (by rw [z]; exact List.mem_cons_self ..)
theorem rd_of {ps : List (Int × Int)} (hn : (ps.map (·.1)).Nodup) (i : Int) : (∀ n, (i, n) ∈ ps → rd ps i = n) ∧ ((∀ n, (i, n) ∉ ps) → rd ps i = 0) := by
  have h := merge_at ps [] i hn
  unfold rd
  refine ⟨fun n hm => ?_, fun hm => ?_⟩
  · rw [h.1 n hm]
    rfl
  · rw [h.2 hm]
    rfl
theorem valV_kvI {ps : List (Int × Int)} (hn : (ps.map (·.1)).Nodup) (i : Int) : (∀ n, (i, n) ∈ ps → valV (kvI ps) (Sum.inl i) = some (.int n)) ∧ ((∀ n, (i, n) ∉ ps) → valV (kvI ps) (Sum.inl i) = none) := by
  induction ps with
  | nil => exact ⟨fun n h => by simp at h, fun _ => rfl⟩
  | cons q ps ih =>
    rw [List.map_cons, List.nodup_cons] at hn
    have ih := ih hn.2
    refine ⟨fun n h => ?_, fun h => ?_⟩
    · rcases List.mem_cons.mp h with rfl | h
      · exact valV_pos rfl
      · have : ¬ (Sum.inl q.1 : Key) = Sum.inl i := fun z => by
          injection z with z
          exact hn.1 (List.mem_map.mpr ⟨(i, n), h, z.symm⟩)
        exact (valV_neg this).trans (ih.1 n h)
    · have : ¬ (Sum.inl q.1 : Key) = Sum.inl i := fun z => by
        injection z with z
        exact h q.2 (by rw [← z]; exact List.mem_cons_self ..)
      exact (valV_neg this).trans (ih.2 fun n h2 => h n (List.mem_cons_of_mem _ h2))
/-- the pairs of a dict in another order, without zeros -/
theorem rd_sorted {qs rs : List (Int × Int)} (hn : (qs.map (·.1)).Nodup) (hp : rs.Perm qs) (i : Int) : rd (rs.filter fun q => decide (q.2 ≠ 0)) i = vI (valV (kvI qs) (Sum.inl i)) := by
  have hn2 : ((rs.filter fun q => decide (q.2 ≠ 0)).map (·.1)).Nodup := by
    have h1 : (rs.map (·.1)).Nodup := (hp.map _).nodup_iff.mpr hn
    exact List.Sublist.nodup (List.Sublist.map _ (List.filter_sublist)) h1
  have hf : ∀ n, (i, n) ∈ rs.filter (fun q => decide (q.2 ≠ 0)) ↔ (i, n) ∈ qs ∧ n ≠ 0 := fun n => by
    rw [List.mem_filter, hp.mem_iff]
    simp
  by_cases h : ∃ n, (i, n) ∈ qs
  · obtain ⟨n, hm⟩ := h
    rw [(valV_kvI hn i).1 n hm]
    show _ = n
    by_cases h0 : n = 0
    · subst h0
      refine (rd_of hn2 i).2 fun m h2 => ?_
      obtain ⟨h3, h4⟩ := (hf m).mp h2
      have e1 := (valV_kvI hn i).1 m h3
      rw [(valV_kvI hn i).1 0 hm] at e1
      injection e1 with e1
      injection e1 with e1
      exact h4 e1.symm
    · exact (rd_of hn2 i).1 n ((hf n).mpr ⟨hm, h0⟩)
  · rw [(valV_kvI hn i).2 fun n hm => h ⟨n, hm⟩]
    show _ = (0 : Int)
    exact (rd_of hn2 i).2 fun n h2 => h ⟨n, ((hf n).mp h2).1⟩
end Lw
/-! Part W2: number_at, made_row and Look's small methods. -/
namespace Lw
open PySem PySem.Spec L2 L2.DX PyProof.Rows
def spNumAt : Sp := fun vs H Q _ => ∃ (v : V) (f : RowF) (i : Int), vs = [v, .int i] ∧ RowR H v f ∧ ∀ H', Same H H' → Q (.int (f.2 i)) H'
def spMade : Sp := fun vs H Q _ => ∃ (sz : Int) (d : Addr) (qs : List (Int × Int)), vs = [.int sz, .ref d] ∧ H d = some (.dK (kvI qs)) ∧ (qs.map (·.1)).Nodup ∧ qs.length ≤ 900 ∧ ∀ v H', Same H H' → RowN qs.length H' v (sz, fun i => vI (valV (kvI qs) (Sum.inl i))) → Q v H'
theorem scNumAt : FnScope ["row", "place"] ["row", "place"] (defScope (top 31)) := ⟨rfl, rfl, rfl, by decide +kernel, rfl, by decide +kernel, by decide +kernel⟩
theorem scMade : FnScope ["size", "numbers", "place", "number"] ["size", "numbers"] (defScope (top 30)) := ⟨rfl, rfl, rfl, by decide +kernel, rfl, by decide +kernel, by decide +kernel⟩
section
variable {P : Program} {w : World} {K : PySem.W.Frag} {mg : Str → Option Value} {base : Heap}
theorem ok_numat (D : Df K mg "number_at" 31) (md : mg "dict" = none) : Gv P w K mg base 1 "number_at" ["row", "place"] spNumAt := by
  refine okV D scNumAt (fun _ _ _ _ _ _ us hl => match us, hl with | [_, _], _ => rfl) (fun vs H Q E h => ?_) (fun f cdv A out s H vs Q E hr h => ?_)
  · obtain ⟨v, f, i, rfl, _⟩ := h
    rfl
  obtain ⟨v, f, i, rfl, ⟨a, b, o, xs, ps, rfl, h1, h2, h3, h4, h5, h6⟩, k⟩ := h
  refine ⟨_, pss_one (ps_ret (pe_dget2 (hu_of hr) (pe_callTy (call_dictTup rfl) rfl md boot_dict (pa_cons (pe_ix ix_tup (pv 0) pe_int (fun _ _ => rfl)) pa_nil)) (pv 1) pe_int m2)), ?_⟩
  refine ⟨_, rfl, a, _, _, _, rfl, rfl, SqT.of h1, rfl, b, o, xs, ps, rfl, h2, h3, h4, fun d hd => ⟨d, rfl, .inl ⟨_, .inl upd_same⟩, _, rfl, _, DGet.k (k := Sum.inl i) upd_same, ?_⟩⟩
  rw [rd_getD, h6]
  exact k _ (same_upd hd)
theorem ok_made (D : Df K mg "made_row" 30) (mt : mg "tuple" = none) (ms : mg "sorted" = none) : Gv P w K mg base 1 "made_row" ["size", "numbers"] spMade := by
  refine okV D scMade (fun _ _ _ _ _ _ us hl => match us, hl with | [_, _], _ => rfl) (fun vs H Q E h => ?_) (fun f cdv A out s H vs Q E hr h => ?_)
  · obtain ⟨sz, d, qs, rfl, _⟩ := h
    rfl
  obtain ⟨sz, d, qs, rfl, hd, hn, hl9, k⟩ := h
  have nd := scMade.nd
  refine ⟨_, pss_one (ps_ret (pe_tup (pa_cons (pv 0) (pa_cons (pe_callTy call_tupF rfl mt boot_tuple (pa_cons (pe_lc (own := [("place", 2), ("number", 3)]) (g := gTup K 2 (gCons (gName 2) (gCons (gName 3) gNil))) rfl nd
      (pi_list (pe_callB (cr_sortItems rfl hr.units) rfl ms (by decide +kernel) (pa_cons (pe_bm0 PySem.F.plainAttrs_dict PySem.F.slot_dict_items PySem.F.type_dict_items mt_itemsK (pv 1)) pa_nil)))
      (blkOk_by (own := [("place", 2), ("number", 3)]) (N := ["size", "numbers", "place", "number"]) (sc := defScope (top 30)) (by decide +kernel)) (fun _ _ _ _ _ => pg_tup rfl (pgs_cons (pg_name (i := 2) nd rfl (Or.inl rfl)) (pgs_cons (pg_name (i := 3) nd rfl (Or.inl rfl)) pgs_nil)))
      (fun _ _ _ _ _ => pts_one (pt_cmpR op_ne (pv 3) pe_int (nomark _))) (fun _ _ _ _ _ => pe_tup (pa_cons (pv 2) (pa_cons (pv 3) pa_nil)))) pa_nil)) pa_nil)))), ?_⟩
  refine ⟨_, rfl, _, rfl, .inr (.inr (.inl ⟨rfl, .inl ⟨_, hd⟩⟩)), d, _, rfl, rfl, hd, fun p np => ?_⟩
  have z1 := same_upd (o := itemsO p d) np
  refine ⟨p, d, qs, rfl, upd_same, z1 _ _ hd, fun H2 l rs us s2 nl hperm hl hds => ?_⟩
  refine ⟨l, rfl, ⟨_, SqL.of hl⟩, fun D2 d2 => ?_⟩
  have hrl : rs.length = qs.length := hperm.length_eq
  have hul : us.length = qs.length := by rw [hds.length, List.length_map, hrl]
  have s3 : Same H H2 := fun b o e => s2 _ _ (z1 _ _ e)
  have nD2 : H D2 = none := by
    cases e : H D2 with
    | none => rfl
    | some o =>
      rw [s3 _ _ e] at d2
      cases d2
  have lD2 : l ≠ D2 := ne_of_none hl d2
  have z7 := same_upd (o := .lst []) d2
  refine lc_list (K := K) (a := l) (xs := us) (fun i H' => H' l = some (.lst us) ∧ (∃ vs2, H' D2 = some (.lst vs2) ∧ DRs H' vs2 (((rs.take i).filter fun q => decide (q.2 ≠ 0)).map prD)) ∧ DRs H' us (rs.map prD) ∧ Same H H') ?_ (fun i H' hi h => SqL.of h.1) (fun i x H' hx h => ?_) (fun H' h => ?_)
  · exact ⟨z7 _ _ hl, ⟨[], upd_same, .nil⟩, hds.kt (.of z7), fun b o e => z7 _ _ (s3 _ _ e)⟩
  · obtain ⟨h1, ⟨vs2, hD2, hds2⟩, hds, hs⟩ := h
    obtain ⟨dx, hdx, hrx⟩ := hds.getV hx
    rw [List.getElem?_map] at hdx
    obtain ⟨⟨qa, qb⟩, hq, rfl⟩ := Option.map_eq_some_iff.mp hdx
    obtain ⟨b, xs, rfl, hb', hx'⟩ := hrx.tup_inv
    obtain ⟨x1, y1, rfl, g1, hx'⟩ := hx'.cons_inv
    obtain ⟨x2, y2, rfl, g2, hx'⟩ := hx'.cons_inv
    cases hx'
    cases g1.int_inv
    cases g2.int_inv
    have hi6 : i < rs.length := (List.getElem?_eq_some_iff.mp hq).1
    have htk : (rs.take (i + 1)).filter (fun q => decide (q.2 ≠ 0)) = (rs.take i).filter (fun q => decide (q.2 ≠ 0)) ++ (if qb ≠ 0 then [(qa, qb)] else []) := by
      rw [List.take_add_one, hq, List.filter_append]
      congr 1
      by_cases z : qb = 0
      · rw [if_neg (by simpa using z)]
        simp [z]
      · rw [if_pos z]
        simp [z]
    refine ⟨b, _, rfl, SqT.of hb', rfl, _, _, rfl, _, _, rfl, rfl, rfl, ?_⟩
    refine ⟨_, rfl, rfl, _, rfl, ?_⟩
    have hv2l : vs2.length ≤ i := by
      rw [hds2.length, List.length_map]
      exact Nat.le_trans (List.length_filter_le _ _) (by rw [List.length_take]; omega)
    by_cases z : qb = 0
    · have hc : (!decide (V.int qb = V.int 0)) = false := by rw [z]; rfl
      refine ite2 (fun c => absurd c (by rw [hc]; decide)) (fun _ => ?_)
      refine ⟨h1, ⟨vs2, hD2, ?_⟩, hds, hs⟩
      rw [htk, if_neg (by simpa using z), List.append_nil]
      exact hds2
    · have hc : (!decide (V.int qb = V.int 0)) = true := by
        rw [decide_eq_false fun e : V.int qb = V.int 0 => z (by injection e)]
        rfl
      refine ite2 (fun _ => ?_) (fun c => absurd hc c)
      refine ⟨_, rfl, _, rfl, by show 2 ≤ sizeLine; decide, fun t nt => ?_⟩
      have zt := same_upd (o := .tup [V.int qa, .int qb]) nt
      have t6 : KT (upd H' t (.tup [V.int qa, .int qb])) (upd (upd H' t (.tup [V.int qa, .int qb])) D2 (.lst (vs2 ++ [V.ref t]))) := KT.set (zt _ _ hD2) fun ys z => by cases z
      refine ⟨vs2, zt _ _ hD2, small1000 (by omega), ?_, ⟨_, upd_same, ?_⟩, hds.kt ((KT.of zt).trans t6), fun b o e => ?_⟩
      · rw [upd_ne lD2]
        exact zt _ _ h1
      · rw [htk, if_pos z, List.map_append]
        exact (hds2.kt ((KT.of zt).trans t6)).append (.cons (.tup (t6 _ _ upd_same) (.cons (.int _) (.cons (.int _) .nil))) .nil)
      · rw [upd_ne (ne_of_none e nD2)]
        exact zt _ _ (hs _ _ e)
  obtain ⟨h1, ⟨vs2, hD2, hds2⟩, hds, hs⟩ := h
  rw [List.take_of_length_le (by omega)] at hds2
  refine ⟨D2, vs2, rfl, SqL.of hD2, fun l8 o n8 hpo => ⟨by show 2 ≤ sizeLine; decide, fun t nt => ?_⟩⟩
  have z8 := same_upd (o := .frz o (.tup vs2)) n8
  have z9 := same_upd (o := .tup [V.int sz, .ref l8]) nt
  refine k _ _ (fun b o e => z9 _ _ (z8 _ _ (hs _ _ e))) ⟨t, l8, o, vs2, _, rfl, upd_same, z9 _ _ upd_same, hpo, (hds2.kt (.of z8)).kt (.of z9), ?_, fun i => rd_sorted hn hperm i⟩
  exact Nat.le_trans (List.length_filter_le _ _) (by omega)
end
end Lw
/-! Part W3: Look's methods letter_at, reckon_number, reckon_row. -/
namespace Lw
open PySem PySem.Spec L2 L2.DX PyProof.Rows
def spLetter (ns rs : List Key) (tn : Key → Int) (tr : Key → RowF) : Sp := fun vs H Q _ => ∃ (me : V) (l : Key) (T : Addr) (b : Bool), vs = [me, kV l, .ref T, .bl b] ∧ TabR H T ns rs tn tr ∧ (b = false → l ∈ ns) ∧ (b = true → l ∈ rs) ∧
  ∀ u H', Same H H' → (b = false → u = .int (tn l)) → (b = true → RowN 10 H' u (tr l)) → Q u H'
/-- letter_at's arguments: two after self, then of_row by its name -/
def BLetter (fd : FuncData) : Prop := ∀ (s : Shared) (us ws : List Value), us.length = 2 + 1 → ws.length = (["of_row"] : List Str).length → BindsTo s fd ⟨us, (["of_row"] : List Str).zip ws⟩ ((["self", "letter", "table", "of_row"] : List Str).zip (us ++ ws))
theorem bLetter {K : PySem.W.Frag} {f : Addr} {fd : FuncData} (F : FnM K "letter_at" "Look.letter_at" 32 2 [] [("of_row", .bl false)] f fd) : BLetter fd := by
  obtain ⟨oc, od, dV, kV, doc, pm, an, cdv, ct, osl, rfl, lk, hcd, hD, hK⟩ := F.ex
  rcases hD with ⟨_, rfl⟩ | ⟨e, _⟩
  · intro s us ws h1 h2
    match us, ws, h1, h2 with
    | [a, b, c], [d], _, _ => exact .of_eq rfl
  · exact absurd rfl e
theorem scLetter : FnScope ["self", "letter", "table", "of_row", "found"] ["self", "letter", "table", "of_row"] (defScope (mth 32 2)) := ⟨rfl, rfl, rfl, by decide +kernel, rfl, by decide +kernel, by decide +kernel⟩
theorem scRNum : FnScope ["self", "term", "parts", "word"] ["self", "term", "parts"] (defScope (mth 32 4)) := ⟨rfl, rfl, rfl, by decide +kernel, rfl, by decide +kernel, by decide +kernel⟩
theorem scRRow : FnScope ["self", "term", "parts", "beneath", "place", "number", "numbers"] ["self", "term", "parts"] (defScope (mth 32 5)) := ⟨rfl, rfl, rfl, by decide +kernel, rfl, by decide +kernel, by decide +kernel⟩
theorem RowN.tup {m : Nat} {H : Hp} {v : V} {f : RowF} (h : RowN m H v f) : ∃ a b, v = .ref a ∧ H a = some (.tup [.int f.1, .ref b]) := by
  obtain ⟨a, b, o, xs, ps, e, h1, _⟩ := h
  exact ⟨a, b, e, h1⟩
/-- what a method with no default binds -/
def BAll (ps : List Str) (K : PySem.W.Frag) (fd : FuncData) : Prop := L2.Binds K fd ps []
theorem bRNum {K : PySem.W.Frag} {f : Addr} {fd : FuncData} (F : FnM K "reckon_number" "Look.reckon_number" 32 4 [] [] f fd) : BAll ["self", "term", "parts"] K fd := F.bindsN (fun _ _ _ _ _ _ us hl => match us, hl with | [_, _, _], _ => rfl)
theorem bRRow {K : PySem.W.Frag} {f : Addr} {fd : FuncData} (F : FnM K "reckon_row" "Look.reckon_row" 32 5 [] [] f fd) : BAll ["self", "term", "parts"] K fd := F.bindsN (fun _ _ _ _ _ _ us hl => match us, hl with | [_, _, _], _ => rfl)
/-- the value of one step over the parts' values -/
def spRNum (tn : Key → Int) (tr : Key → RowF) : Sp := fun vs H Q _ => ∃ (me : V) (a L : Addr) (t : Tm) (us : List V), vs = [me, .ref a, .ref L] ∧ TR H (.ref a) t ∧ H L = some (.lst us) ∧
  (match t with
    | .add t u => us = [.int (tv tn tr t).1, .int (tv tn tr u).1]
    | .mul n t => us = [.int (tv tn tr t).1] ∧ CMulW n (tv tn tr t).1
    | .read r t => ∃ v, us = [v, .int (tv tn tr t).1] ∧ RowR H v (tv tn tr r).2
    | .size r => ∃ v, us = [v] ∧ RowR H v (tv tn tr r).2
    | .div t k => us = [.int (tv tn tr t).1] ∧ 1 ≤ k ∧ k ≤ 1000000000
    | .mod t k => us = [.int (tv tn tr t).1] ∧ 1 ≤ k ∧ k ≤ 1000000000
    | _ => False) ∧ ∀ H', Same H H' → Q (.int (tv tn tr t).1) H'
def spRRow (tn : Key → Int) (tr : Key → RowF) : Sp := fun vs H Q _ => ∃ (me : V) (a L : Addr) (t : Tm) (us : List V) (m : Nat), vs = [me, .ref a, .ref L] ∧ TR H (.ref a) t ∧ H L = some (.lst us) ∧ m ≤ 800 ∧
  (match t with
    | .wth r t u => ∃ v, us = [v, .int (tv tn tr t).1, .int (tv tn tr u).1] ∧ RowN m H v (tv tn tr r).2
    | .room t => us = [.int (tv tn tr t).1]
    | _ => False) ∧ ∀ v H', Same H H' → RowN (m + 1) H' v (tv tn tr t).2 → Q v H'
section
variable {P : Program} {w : World} {K : PySem.W.Frag} {mg : Str → Option Value} {base : Heap} {C : Addr} {ns rs : List Key} {tn : Key → Int} {tr : Key → RowF}
theorem ok_letter (D : DfM K C "letter_at" "Look.letter_at" 32 2 [] [("of_row", .bl false)]) (mis : mg "isinstance" = none) (mt : mg "tuple" = none) (GW : Gv P w K mg base 1 "is_whole" ["thing"] spWhole) : Mv P w K mg base C 2 "letter_at" ["self", "letter", "table", "of_row"] (spLetter ns rs tn tr) BLetter := by
  refine okM D scLetter (fun f fd F => bLetter F) (fun vs H Q E h => ?_) (fun f cdv A out s H vs Q E hr h => ?_)
  · obtain ⟨me, l, T, b, rfl, _⟩ := h
    rfl
  obtain ⟨me, l, T, b, rfl, hT, hn, hrw, k⟩ := h
  have nd := scLetter.nd
  refine ⟨_, pss_cons (ps_set (i := 4) nd rfl (Or.inl rfl) (pe_dget1 (hu_of hr) (pv 2) (pv 1) ⟨rfl, rfl, rfl, rfl⟩))
    (pss_one (ps_ret (pe_ifExp (PW.pt (pw_and (pt_cmpR op_eq (pe_callB call_isi rfl mis (by decide +kernel) (pa_cons (pv 4) (pa_cons (pe_bltn (v := .ty "tuple") rfl mt boot_tuple rfl) pa_nil))) (pv 3) (nomark _)) (pw_and1 (PW.pt (pw_or (pt_val (pv 3)) (pw_or1 (pt_val (pe_v (E := E0) GW hr rfl (pa_cons (pv 4) pa_nil)))))))))
      (pv 4) pe_non))), ?_⟩
  obtain ⟨kvs, hT1, hT2, hT3⟩ := id hT
  refine ⟨_, rfl, T, rfl, .inl ⟨_, .inl hT1⟩, _, rfl, _, DGet.k (k := l) hT1, ?_⟩
  cases b with
  | false =>
    have e := hT2 l (hn rfl)
    rw [e]
    refine ⟨_, rfl, _, _, _, _, _, rfl, .ty "tuple", .base (.int _), kit_ty (b := "tuple") (r := false) (by decide +kernel), _, rfl, rfl, _, rfl, iteT ?_⟩
    refine ⟨_, rfl, _, rfl, iteF ?_⟩
    exact ⟨_, rfl, _, rfl, _, rfl, iteT ⟨_, rfl, k _ _ (fun _ _ e => e) (fun _ => rfl) fun z => by cases z⟩⟩
  | true =>
    obtain ⟨v, e, hR⟩ := hT3 l (hrw rfl)
    rw [e]
    obtain ⟨a, b2, rfl, h1⟩ := hR.tup
    refine ⟨_, rfl, _, _, _, _, _, rfl, .ty "tuple", .base (.tup h1), kit_ty (b := "tuple") (r := true) (by decide +kernel), _, rfl, rfl, _, rfl, iteT ?_⟩
    exact ⟨_, rfl, _, rfl, iteT ⟨_, rfl, k _ _ (fun _ _ e => e) (fun z => by cases z) fun _ => hR⟩⟩
theorem ok_rnum (D : DfM K C "reckon_number" "Look.reckon_number" 32 4 [] []) (GN : Gv P w K mg base 1 "number_at" ["row", "place"] spNumAt) : Mv P w K mg base C 2 "reckon_number" ["self", "term", "parts"] (spRNum tn tr) (BAll ["self", "term", "parts"] K) := by
  refine okM D scRNum (fun f fd F => bRNum F) (fun vs H Q E h => ?_) (fun f cdv A out s H vs Q E hr h => ?_)
  · obtain ⟨me, a, L, t, us, rfl, _⟩ := h
    rfl
  obtain ⟨me, a, L, t, us, rfl, ht, hL, hc, k⟩ := h
  have nd := scRNum.nd
  refine ⟨_, pss_cons (ps_set (i := 3) nd rfl (Or.inl rfl) (pe_ix ix_tup (pv 1) pe_int (fun _ _ => rfl)))
    (pss_cons (ps_if (pt_cmpR op_eq (pv 3) pe_str (nomark _)) (pss_one (ps_ret (pe_op op_add (pe_ix ix_list (pv 2) pe_int (fun _ _ => rfl)) (pe_ix ix_list (pv 2) pe_int (fun _ _ => rfl))))) pss_nil)
    (pss_cons (ps_if (pt_cmpR op_eq (pv 3) pe_str (nomark _)) (pss_one (ps_ret (pe_op op_mulW (pe_ix ix_tup (pv 1) pe_int (fun _ _ => rfl)) (pe_ix ix_list (pv 2) pe_int (fun _ _ => rfl))))) pss_nil)
    (pss_cons (ps_if (pt_cmpR op_eq (pv 3) pe_str (nomark _)) (pss_one (ps_ret (pe_v (E := E0) GN hr rfl (pa_cons (pe_ix ix_list (pv 2) pe_int (fun _ _ => rfl)) (pa_cons (pe_ix ix_list (pv 2) pe_int (fun _ _ => rfl)) pa_nil))))) pss_nil)
    (pss_cons (ps_if (pt_cmpR op_eq (pv 3) pe_str (nomark _)) (pss_one (ps_ret (pe_ix ix_tup (pe_ix ix_list (pv 2) pe_int (fun _ _ => rfl)) pe_int (fun _ _ => rfl)))) pss_nil)
    (pss_one (ps_ret (pe_ifExp (pt_cmpR op_eq (pv 3) pe_str (nomark _)) (pe_op op_fdivW (pe_ix ix_list (pv 2) pe_int (fun _ _ => rfl)) (pe_ix ix_tup (pv 1) pe_int (fun _ _ => rfl))) (pe_op op_mod (pe_ix ix_list (pv 2) pe_int (fun _ _ => rfl)) (pe_ix ix_tup (pv 1) pe_int (fun _ _ => rfl)))))))))), ?_⟩
  have same : Same H H := fun _ _ e => e
  cases t with
  | num _ => exact hc.elim
  | name _ => exact hc.elim
  | row _ => exact hc.elim
  | wth _ _ _ => exact hc.elim
  | room _ => exact hc.elim
  | add t u =>
    obtain ⟨a', xs, e, ha, hx⟩ := DR.tup_inv ht
    cases e
    obtain ⟨x1, r, rfl, g1, hx⟩ := hx.cons_inv
    cases g1.str_inv
    have hc : us = [.int (tv tn tr t).1, .int (tv tn tr u).1] := hc
    subst hc
    refine ⟨_, rfl, a, _, _, _, rfl, rfl, SqT.of ha, atI_head _ _, _, rfl, rfl, _, rfl, iteT ?_⟩
    exact ⟨_, rfl, L, _, _, _, rfl, rfl, SqL.of hL, rfl, _, rfl, L, _, _, _, rfl, rfl, SqL.of hL, rfl, _, _, rfl, rfl, k _ same⟩
  | mul n t =>
    obtain ⟨a', xs, e, ha, hx⟩ := DR.tup_inv ht
    cases e
    obtain ⟨x1, r, rfl, g1, hx⟩ := hx.cons_inv
    obtain ⟨x2, r, rfl, g2, hx⟩ := hx.cons_inv
    cases g1.str_inv
    cases g2.int_inv
    obtain ⟨rfl, hm⟩ : us = [.int (tv tn tr t).1] ∧ CMulW n (tv tn tr t).1 := hc
    refine ⟨_, rfl, a, _, _, _, rfl, rfl, SqT.of ha, atI_head _ _, _, rfl, rfl, _, rfl, iteF ?_⟩
    refine ⟨_, rfl, rfl, _, rfl, iteT ?_⟩
    exact ⟨_, rfl, a, _, _, _, rfl, rfl, SqT.of ha, atI_nat (j := 1) rfl, _, rfl, L, _, _, _, rfl, rfl, SqL.of hL, rfl, _, _, rfl, rfl, hm, k _ same⟩
  | read r t =>
    obtain ⟨a', xs, e, ha, hx⟩ := DR.tup_inv ht
    cases e
    obtain ⟨x1, r1, rfl, g1, hx⟩ := hx.cons_inv
    cases g1.str_inv
    obtain ⟨v, rfl, hR⟩ : ∃ v, us = [v, .int (tv tn tr t).1] ∧ RowR H v (tv tn tr r).2 := hc
    refine ⟨_, rfl, a, _, _, _, rfl, rfl, SqT.of ha, atI_head _ _, _, rfl, rfl, _, rfl, iteF ?_⟩
    refine ⟨_, rfl, rfl, _, rfl, iteF ?_⟩
    refine ⟨_, rfl, rfl, _, rfl, iteT ?_⟩
    exact ⟨_, rfl, L, _, _, _, rfl, rfl, SqL.of hL, rfl, _, rfl, L, _, _, _, rfl, rfl, SqL.of hL, rfl, v, _, _, rfl, hR, fun H' s' => k _ s'⟩
  | size r =>
    obtain ⟨a', xs, e, ha, hx⟩ := DR.tup_inv ht
    cases e
    obtain ⟨x1, r1, rfl, g1, hx⟩ := hx.cons_inv
    cases g1.str_inv
    obtain ⟨v, rfl, hR⟩ : ∃ v, us = [v] ∧ RowR H v (tv tn tr r).2 := hc
    obtain ⟨ra, rb, rfl, h1⟩ := hR.tup
    refine ⟨_, rfl, a, _, _, _, rfl, rfl, SqT.of ha, atI_head _ _, _, rfl, rfl, _, rfl, iteF ?_⟩
    refine ⟨_, rfl, rfl, _, rfl, iteF ?_⟩
    refine ⟨_, rfl, rfl, _, rfl, iteF ?_⟩
    refine ⟨_, rfl, rfl, _, rfl, iteT ?_⟩
    exact ⟨_, rfl, L, _, _, _, rfl, rfl, SqL.of hL, rfl, ra, _, _, _, rfl, rfl, SqT.of h1, rfl, k _ same⟩
  | div t kk =>
    obtain ⟨a', xs, e, ha, hx⟩ := DR.tup_inv ht
    cases e
    obtain ⟨x1, r, rfl, g1, hx⟩ := hx.cons_inv
    obtain ⟨x2, r, rfl, g2, hx⟩ := hx.cons_inv
    obtain ⟨x3, r, rfl, g3, hx⟩ := hx.cons_inv
    cases hx
    cases g1.str_inv
    cases g3.int_inv
    obtain ⟨rfl, k1, k2⟩ : us = [.int (tv tn tr t).1] ∧ 1 ≤ kk ∧ kk ≤ 1000000000 := hc
    refine ⟨_, rfl, a, _, _, _, rfl, rfl, SqT.of ha, atI_head _ _, _, rfl, rfl, _, rfl, iteF ?_⟩
    refine ⟨_, rfl, rfl, _, rfl, iteF ?_⟩
    refine ⟨_, rfl, rfl, _, rfl, iteF ?_⟩
    refine ⟨_, rfl, rfl, _, rfl, iteF ?_⟩
    refine ⟨_, rfl, rfl, _, rfl, iteT ?_⟩
    have e40 : (2 : Nat) ^ 40 = 1099511627776 := by decide
    exact ⟨_, rfl, L, _, _, _, rfl, rfl, SqL.of hL, rfl, _, rfl, a, _, _, _, rfl, rfl, SqT.of ha, atI_nat (j := 2) rfl, _, _, rfl, rfl, wide_div (b := 40) (by omega) (by omega) (by decide) (by decide), k _ same⟩
  | mod t kk =>
    obtain ⟨a', xs, e, ha, hx⟩ := DR.tup_inv ht
    cases e
    obtain ⟨x1, r, rfl, g1, hx⟩ := hx.cons_inv
    obtain ⟨x2, r, rfl, g2, hx⟩ := hx.cons_inv
    obtain ⟨x3, r, rfl, g3, hx⟩ := hx.cons_inv
    cases hx
    cases g1.str_inv
    cases g3.int_inv
    obtain ⟨rfl, k1, k2⟩ : us = [.int (tv tn tr t).1] ∧ 1 ≤ kk ∧ kk ≤ 1000000000 := hc
    refine ⟨_, rfl, a, _, _, _, rfl, rfl, SqT.of ha, atI_head _ _, _, rfl, rfl, _, rfl, iteF ?_⟩
    refine ⟨_, rfl, rfl, _, rfl, iteF ?_⟩
    refine ⟨_, rfl, rfl, _, rfl, iteF ?_⟩
    refine ⟨_, rfl, rfl, _, rfl, iteF ?_⟩
    refine ⟨_, rfl, rfl, _, rfl, iteF ?_⟩
    exact ⟨_, rfl, L, _, _, _, rfl, rfl, SqL.of hL, rfl, _, rfl, a, _, _, _, rfl, rfl, SqT.of ha, atI_nat (j := 2) rfl, _, _, rfl, rfl, by show (0 : Int) < kk; omega, k _ same⟩
end
end Lw
/-! Part W4: reckon_row, reckon. -/
namespace Lw
open PySem PySem.Spec L2 L2.DX PyProof.Rows
section
variable {P : Program} {w : World} {K : PySem.W.Frag} {mg : Str → Option Value} {base : Heap} {C : Addr} {ns rs : List Key} {tn : Key → Int} {tr : Key → RowF}
theorem ok_rrow (D : DfM K C "reckon_row" "Look.reckon_row" 32 5 [] []) (md : mg "dict" = none) (mm : mg "max" = none) (GM : Gv P w K mg base 1 "made_row" ["size", "numbers"] spMade) : Mv P w K mg base C 2 "reckon_row" ["self", "term", "parts"] (spRRow tn tr) (BAll ["self", "term", "parts"] K) := by
  refine okM D scRRow (fun f fd F => bRRow F) (fun vs H Q E h => ?_) (fun f cdv A out s H vs Q E hr h => ?_)
  · obtain ⟨me, a, L, t, us, m, rfl, _⟩ := h
    rfl
  obtain ⟨me, a, L, t, us, m, rfl, ht, hL, hm8, hc, k⟩ := h
  have nd := scRRow.nd
  refine ⟨_, pss_cons (ps_if (pt_cmpR op_eq (pe_ix ix_tup (pv 1) pe_int (fun _ _ => rfl)) pe_str (nomark _)) (pss_one (ps_ret (pe_tup (pa_cons (pe_callB (call_max2 rfl) rfl mm (by decide +kernel) (pa_cons (pe_ix ix_list (pv 2) pe_int (fun _ _ => rfl)) (pa_cons pe_int pa_nil))) (pa_cons (pe_tupF pa_nil) pa_nil))))) pss_nil)
    (pss_cons (ps_asg (pv 2) (pg_unl rfl (pgs_cons (pg_name (i := 3) nd rfl (Or.inl rfl)) (pgs_cons (pg_name (i := 4) nd rfl (Or.inl rfl)) (pgs_cons (pg_name (i := 5) nd rfl (Or.inl rfl)) pgs_nil)))))
    (pss_cons (ps_set (i := 6) nd rfl (Or.inl rfl) (pe_callTy (call_dictTup rfl) rfl md boot_dict (pa_cons (pe_ix ix_tup (pv 3) pe_int (fun _ _ => rfl)) pa_nil)))
    (pss_cons (ps_dput (hu_of hr) (pv 6) (pv 4) (pv 5) rfl)
    (pss_one (ps_ret (pe_v (E := E0) GM hr rfl (pa_cons (pe_ix ix_tup (pv 3) pe_int (fun _ _ => rfl)) (pa_cons (pv 6) pa_nil)))))))), ?_⟩
  cases t with
  | num _ => exact hc.elim
  | name _ => exact hc.elim
  | row _ => exact hc.elim
  | add _ _ => exact hc.elim
  | mul _ _ => exact hc.elim
  | read _ _ => exact hc.elim
  | size _ => exact hc.elim
  | div _ _ => exact hc.elim
  | mod _ _ => exact hc.elim
  | room t =>
    obtain ⟨a', xs, e, ha, hx⟩ := DR.tup_inv ht
    cases e
    obtain ⟨x1, r, rfl, g1, hx⟩ := hx.cons_inv
    cases g1.str_inv
    have hc : us = [.int (tv tn tr t).1] := hc
    subst hc
    refine ⟨_, rfl, a, _, _, _, rfl, rfl, SqT.of ha, atI_head _ _, rfl, _, rfl, iteT ?_⟩
    refine ⟨_, rfl, L, _, _, _, rfl, rfl, SqL.of hL, rfl, _, _, rfl, by decide, fun p o np hpo => ⟨by show 2 ≤ sizeLine; decide, fun t1 n1 => ?_⟩⟩
    have z1 := same_upd (o := .frz o (.tup [])) np
    have z2 := same_upd (o := .tup [V.int (if (0 : Int) > (tv tn tr t).1 then 0 else (tv tn tr t).1), .ref p]) n1
    have e2 : (if (0 : Int) > (tv tn tr t).1 then 0 else (tv tn tr t).1) = max (tv tn tr t).1 0 := by omega
    refine k _ _ (fun b o e => z2 _ _ (z1 _ _ e)) ⟨t1, p, o, [], [], rfl, ?_, z2 _ _ upd_same, hpo, .nil, Nat.zero_le _, fun i => rfl⟩
    show upd _ t1 _ t1 = some (.tup [.int (max (tv tn tr t).1 0), .ref p])
    rw [upd_same, ← e2]
  | wth r t u =>
    obtain ⟨a', xs, e, ha, hx⟩ := DR.tup_inv ht
    cases e
    obtain ⟨x1, r1, rfl, g1, hx⟩ := hx.cons_inv
    cases g1.str_inv
    obtain ⟨v, rfl, ra, rb, ro, ys, ps, rfl, q1, q2, q3, q4, q5, q6⟩ : ∃ v, us = [v, .int (tv tn tr t).1, .int (tv tn tr u).1] ∧ RowN m H v (tv tn tr r).2 := hc
    refine ⟨_, rfl, a, _, _, _, rfl, rfl, SqT.of ha, atI_head _ _, rfl, _, rfl, iteF ?_⟩
    refine ⟨_, rfl, L, _, rfl, SqL.of hL, rfl, _, _, rfl, _, _, rfl, _, _, rfl, rfl, ?_⟩
    refine ⟨_, rfl, ra, _, _, _, rfl, rfl, SqT.of q1, rfl, rb, ro, ys, ps, rfl, q2, q3, q4, fun d hd => ?_⟩
    obtain ⟨rs0, em, lm, nm⟩ := merge_kvI ps
    obtain ⟨qs, eq, lq, nq⟩ := put_kvI rs0 (tv tn tr t).1 (tv tn tr u).1
    have z1 := same_upd (o := .dK (mergeK [] (kvI ps))) hd
    have hlen : (mergeK [] (kvI ps)).length < sizeLine := by
      rw [em]
      unfold kvI
      rw [List.length_map]
      exact small1000 (by omega)
    have hd2 : ra ≠ d := ne_of_none q1 hd
    refine ⟨_, rfl, _, rfl, _, rfl, d, _, rfl, DPut.k (k := Sum.inl (tv tn tr t).1) upd_same hlen, ?_⟩
    have hH : upd (upd H d (.dK (mergeK [] (kvI ps)))) d (.dK (putK (mergeK [] (kvI ps)) (Sum.inl (tv tn tr t).1) (.int (tv tn tr u).1))) d = some (.dK (kvI qs)) := by rw [upd_same, em, eq]
    have s2 : Same H (upd (upd H d (.dK (mergeK [] (kvI ps)))) d (.dK (putK (mergeK [] (kvI ps)) (Sum.inl (tv tn tr t).1) (.int (tv tn tr u).1)))) := fun b o e => by
      rw [upd_ne (ne_of_none e hd)]
      exact z1 _ _ e
    refine ⟨_, rfl, ra, _, _, _, rfl, rfl, SqT.of (s2 _ _ q1), rfl, _, rfl, (tv tn tr r).2.1, d, qs, rfl, hH, nq nm, by omega, fun v' H' s3 hR => k v' H' (fun b o e => s3 _ _ (s2 _ _ e)) ?_⟩
    have ef : ((tv tn tr r).2.1, fun i => vI (valV (kvI qs) (Sum.inl i))) = (tv tn tr (.wth r t u)).2 := by
      refine Prod.ext rfl (funext fun i => ?_)
      show vI (valV (kvI qs) (Sum.inl i)) = if (tv tn tr t).1 = i then (tv tn tr u).1 else (tv tn tr r).2.2 i
      rw [← eq, valV_put]
      by_cases z : (tv tn tr t).1 = i
      · rw [if_pos (congrArg Sum.inl z.symm), if_pos z]
        rfl
      · rw [if_neg (fun y => z (by injection y with y; exact y.symm)), if_neg z, ← q6 i, ← em]
        rfl
    rw [ef] at hR
    exact hR.le (by omega)
end
end Lw
/-! Part W5: reckon. -/
namespace Lw
open PySem PySem.Spec L2 L2.DX PyProof.Rows
/-- the terms that reckon asks about, true: a row's -/
def subs : Tm → List (Bool × Tm)
  | .add t u => [(false, t), (false, u)]
  | .mul _ t => [(false, t)]
  | .read r t => [(true, r), (false, t)]
  | .size r => [(true, r)]
  | .div t _ => [(false, t)]
  | .mod t _ => [(false, t)]
  | .wth r t u => [(true, r), (false, t), (false, u)]
  | .room t => [(false, t)]
  | _ => []
theorem subs_ok {ns rs : List Key} {b : Bool} {t : Tm} (h : Ok ns rs b t) : ∀ x ∈ subs t, Ok ns rs x.1 x.2 ∧ x.2.lev + 1 ≤ t.lev := by
  cases t <;> cases b <;> first | exact h.elim | skip
  all_goals simp only [subs, List.mem_cons, List.not_mem_nil, or_false, forall_eq_or_imp, forall_eq, List.forall_mem_nil, Tm.lev]
  all_goals first | trivial | skip
  all_goals simp only [Ok] at h
  all_goals first
    | exact ⟨⟨h.1, by omega⟩, ⟨h.2, by omega⟩⟩
    | exact ⟨⟨h.1, by omega⟩, ⟨h.2.1, by omega⟩, ⟨h.2.2, by omega⟩⟩
    | exact ⟨h.1, by omega⟩
    | exact ⟨h, by omega⟩
    | (intro x hx; exact hx.elim)
    | skip
theorem subs_mul {tn : Key → Int} {tr : Key → RowF} {t : Tm} (h : MulOk tn tr t) : ∀ x ∈ subs t, MulOk tn tr x.2 := by
  cases t <;> simp only [subs, List.mem_cons, List.not_mem_nil, or_false, forall_eq_or_imp, forall_eq]
  all_goals first | (intro x hx; exact hx.elim) | exact ⟨h.1, h.2⟩ | exact ⟨h.1, h.2.1, h.2.2⟩ | exact h.2 | exact h
/-- what lies at a part's place -/
def UV (tn : Key → Int) (tr : Key → RowF) (H : Hp) (u : V) (x : Bool × Tm) : Prop := (x.1 = false → u = .int (tv tn tr x.2).1) ∧ (x.1 = true → RowN (10 + x.2.lev) H u (tv tn tr x.2).2)
theorem UV.keep {tn : Key → Int} {tr : Key → RowF} {H H' : Hp} {u : V} {x : Bool × Tm} (h : UV tn tr H u x) (k : KT H H') (kf : ∀ b o u, H b = some (.frz o u) → H' b = some (.frz o u)) : UV tn tr H' u x :=
  ⟨h.1, fun e => by
    obtain ⟨a, b, o, xs, ps, e1, h1, h2, h3, h4, h5, h6⟩ := h.2 e
    exact ⟨a, b, o, xs, ps, e1, k _ _ h1, kf _ _ _ h2, h3, h4.kt k, h5, h6⟩⟩
/-- the shape of a term with parts -/
theorem TR.parts {H : Hp} {v : V} {t : Tm} (h : TR H v t) (hs : subs t ≠ []) : ∃ (a : Addr) (q : Str × Str × Str) (xs : List V), v = .ref a ∧ q ∈ formsTab ∧ q.1 ≠ "notion" ∧ q.1 ≠ "num" ∧ q.1 ≠ "name" ∧ q.1 ≠ "row" ∧ H a = some (.tup (.str q.1 :: xs)) ∧ xs.length = q.2.2.cps.size ∧ 1 ≤ xs.length ∧ xs.length ≤ 100 ∧
    (q.2.1 = "row" ↔ ((∃ r t' u, t = .wth r t' u) ∨ ∃ t', t = .room t')) ∧ (keepK q.2.2.cps.toList xs).length = (subs t).length ∧ ∀ (i : Nat) (w : V) (x : Bool × Tm), (keepK q.2.2.cps.toList xs)[i]? = some w → (subs t)[i]? = some x → TR H w x.2 := by
  have two : ∀ {us : List V} {p q : PyData}, DRs H us [p, q] → ∃ x y, us = [x, y] ∧ DR H x p ∧ DR H y q := fun h => by
    obtain ⟨x, r, rfl, g, h⟩ := h.cons_inv
    obtain ⟨y, r, rfl, g2, h⟩ := h.cons_inv
    cases h
    exact ⟨x, y, rfl, g, g2⟩
  obtain ⟨a, ys, rfl, ha, hx⟩ : ∃ a ys, v = .ref a ∧ H a = some (.tup ys) ∧ ∃ ds, t.d = .tuple ds ∧ DRs H ys ds := by
    cases t <;> (obtain ⟨a, xs, e, ha, hx⟩ := DR.tup_inv h; exact ⟨a, xs, e, ha, _, rfl, hx⟩)
  obtain ⟨ds, hd, hx⟩ := hx
  cases t with
  | num _ => exact absurd rfl hs
  | name _ => exact absurd rfl hs
  | row _ => exact absurd rfl hs
  | add t u =>
    cases hd
    obtain ⟨x0, r0, rfl, g0, hy⟩ := hx.cons_inv
    cases g0.str_inv
    obtain ⟨x, y, rfl, g1, g2⟩ := two hy
    refine ⟨a, ("add", "term", "tt"), [x, y], rfl, by decide +kernel, by decide +kernel, by decide +kernel, by decide +kernel, by decide +kernel, ha, rfl, by simp, by simp, ?_, rfl, fun i w z e1 e2 => ?_⟩
    · exact ⟨fun e => absurd e (by decide +kernel), fun e => by rcases e with ⟨_, _, _, e⟩ | ⟨_, e⟩ <;> cases e⟩
    · match i, e1, e2 with
      | 0, e1, e2 => cases e1; cases e2; exact g1
      | 1, e1, e2 => cases e1; cases e2; exact g2
      | i + 2, e1, e2 => simp [subs] at e2
  | mul n t =>
    cases hd
    obtain ⟨x0, r0, rfl, g0, hy⟩ := hx.cons_inv
    cases g0.str_inv
    obtain ⟨x, y, rfl, g1, g2⟩ := two hy
    refine ⟨a, ("mul", "term", "nt"), [x, y], rfl, by decide +kernel, by decide +kernel, by decide +kernel, by decide +kernel, by decide +kernel, ha, rfl, by simp, by simp, ?_, rfl, fun i w z e1 e2 => ?_⟩
    · exact ⟨fun e => absurd e (by decide +kernel), fun e => by rcases e with ⟨_, _, _, e⟩ | ⟨_, e⟩ <;> cases e⟩
    · match i, e1, e2 with
      | 0, e1, e2 => cases e1; cases e2; exact g2
      | i + 1, e1, e2 => simp [subs] at e2
  | read r t =>
    cases hd
    obtain ⟨x0, r0, rfl, g0, hy⟩ := hx.cons_inv
    cases g0.str_inv
    obtain ⟨x, y, rfl, g1, g2⟩ := two hy
    refine ⟨a, ("read", "term", "rt"), [x, y], rfl, by decide +kernel, by decide +kernel, by decide +kernel, by decide +kernel, by decide +kernel, ha, rfl, by simp, by simp, ?_, rfl, fun i w z e1 e2 => ?_⟩
    · exact ⟨fun e => absurd e (by decide +kernel), fun e => by rcases e with ⟨_, _, _, e⟩ | ⟨_, e⟩ <;> cases e⟩
    · match i, e1, e2 with
      | 0, e1, e2 => cases e1; cases e2; exact g1
      | 1, e1, e2 => cases e1; cases e2; exact g2
      | i + 2, e1, e2 => simp [subs] at e2
  | size r =>
    cases hd
    obtain ⟨x0, r0, rfl, g0, hy⟩ := hx.cons_inv
    cases g0.str_inv
    obtain ⟨x, r1, rfl, g1, hz⟩ := hy.cons_inv
    cases hz
    refine ⟨a, ("size", "term", "r"), [x], rfl, by decide +kernel, by decide +kernel, by decide +kernel, by decide +kernel, by decide +kernel, ha, rfl, by simp, by simp, ?_, rfl, fun i w z e1 e2 => ?_⟩
    · exact ⟨fun e => absurd e (by decide +kernel), fun e => by rcases e with ⟨_, _, _, e⟩ | ⟨_, e⟩ <;> cases e⟩
    · match i, e1, e2 with
      | 0, e1, e2 => cases e1; cases e2; exact g1
      | i + 1, e1, e2 => simp [subs] at e2
  | div t kk =>
    cases hd
    obtain ⟨x0, r0, rfl, g0, hy⟩ := hx.cons_inv
    cases g0.str_inv
    obtain ⟨x, y, rfl, g1, g2⟩ := two hy
    refine ⟨a, ("div", "term", "tk"), [x, y], rfl, by decide +kernel, by decide +kernel, by decide +kernel, by decide +kernel, by decide +kernel, ha, rfl, by simp, by simp, ?_, rfl, fun i w z e1 e2 => ?_⟩
    · exact ⟨fun e => absurd e (by decide +kernel), fun e => by rcases e with ⟨_, _, _, e⟩ | ⟨_, e⟩ <;> cases e⟩
    · match i, e1, e2 with
      | 0, e1, e2 => cases e1; cases e2; exact g1
      | i + 1, e1, e2 => simp [subs] at e2
  | mod t kk =>
    cases hd
    obtain ⟨x0, r0, rfl, g0, hy⟩ := hx.cons_inv
    cases g0.str_inv
    obtain ⟨x, y, rfl, g1, g2⟩ := two hy
    refine ⟨a, ("mod", "term", "tk"), [x, y], rfl, by decide +kernel, by decide +kernel, by decide +kernel, by decide +kernel, by decide +kernel, ha, rfl, by simp, by simp, ?_, rfl, fun i w z e1 e2 => ?_⟩
    · exact ⟨fun e => absurd e (by decide +kernel), fun e => by rcases e with ⟨_, _, _, e⟩ | ⟨_, e⟩ <;> cases e⟩
    · match i, e1, e2 with
      | 0, e1, e2 => cases e1; cases e2; exact g1
      | i + 1, e1, e2 => simp [subs] at e2
  | wth r t u =>
    cases hd
    obtain ⟨x0, r0, rfl, g0, hy⟩ := hx.cons_inv
    cases g0.str_inv
    obtain ⟨x, r1, rfl, g1, hz⟩ := hy.cons_inv
    obtain ⟨y, z, rfl, g2, g3⟩ := two hz
    refine ⟨a, ("with", "row", "rtt"), [x, y, z], rfl, by decide +kernel, by decide +kernel, by decide +kernel, by decide +kernel, by decide +kernel, ha, rfl, by simp, by simp, ?_, rfl, fun i w z e1 e2 => ?_⟩
    · exact ⟨fun _ => .inl ⟨_, _, _, rfl⟩, fun _ => rfl⟩
    · match i, e1, e2 with
      | 0, e1, e2 => cases e1; cases e2; exact g1
      | 1, e1, e2 => cases e1; cases e2; exact g2
      | 2, e1, e2 => cases e1; cases e2; exact g3
      | i + 3, e1, e2 => simp [subs] at e2
  | room t =>
    cases hd
    obtain ⟨x0, r0, rfl, g0, hy⟩ := hx.cons_inv
    cases g0.str_inv
    obtain ⟨x, r1, rfl, g1, hz⟩ := hy.cons_inv
    cases hz
    refine ⟨a, ("room", "row", "t"), [x], rfl, by decide +kernel, by decide +kernel, by decide +kernel, by decide +kernel, by decide +kernel, ha, rfl, by simp, by simp, ?_, rfl, fun i w z e1 e2 => ?_⟩
    · exact ⟨fun _ => .inr ⟨_, rfl⟩, fun _ => rfl⟩
    · match i, e1, e2 with
      | 0, e1, e2 => cases e1; cases e2; exact g1
      | i + 1, e1, e2 => simp [subs] at e2
end Lw
/-! Part W6: reckon. -/
namespace Lw
open PySem PySem.Spec L2 L2.DX PyProof.Rows
/-- a Look of the class at C: its methods aren't hidden by fields -/
def LookM (H : Hp) (me C : Addr) : Prop := ∃ dx fs, H me = some (.ins C dx fs) ∧ ∀ m ∈ (["letter_at", "reckon", "reckon_row", "reckon_number", "is_so"] : List Str), fs.lookup m = none
theorem LookM.same {H H' : Hp} {me C : Addr} (h : LookM H me C) (s : Same H H') : LookM H' me C := let ⟨dx, fs, e, l⟩ := h; ⟨dx, fs, s _ _ e, l⟩
/-- the parts' values as data: none of them is None -/
theorem uvs_data {K : PySem.W.Frag} {tn : Key → Int} {tr : Key → RowF} {H : Hp} : ∀ {us : List V} {xs : List (Bool × Tm)}, us.length = xs.length → (∀ (i : Nat) (u : V) (x : Bool × Tm), us[i]? = some u → xs[i]? = some x → UV tn tr H u x) →
    ∃ ds, DpAll K H us ds ∧ (ds.any fun z => PyData.eqv z .none) = false ∧ PyData.canLayAll0 ds = true ∧ PyData.depthAll ds ≤ 10
  | [], [], _, _ => ⟨[], .nil, rfl, rfl, by decide⟩
  | [], _ :: _, h, _ => by simp at h
  | _ :: _, [], h, _ => by simp at h
  | u :: us, x :: xs, h, f => by
    obtain ⟨ds, h1, h2, h3, h4⟩ := uvs_data (K := K) (us := us) (xs := xs) (by simpa using h) fun i u x e1 e2 => f (i + 1) u x (by simpa using e1) (by simpa using e2)
    have hu := f 0 u x rfl rfl
    cases hb : x.1 with
    | false =>
      rw [hu.1 hb]
      refine ⟨.int _ :: ds, .cons (.int _) h1, ?_, ?_, ?_⟩
      · rw [List.any_cons, h2]
        rfl
      · simp only [PyData.canLayAll0, PyData.canLay0, h3, Bool.and_self]
      · simp only [PyData.depthAll, PyData.depth]
        omega
    | true =>
      obtain ⟨a, b, o, ys, ps, rfl, q1, q2, q3, q4, q5, q6⟩ := hu.2 hb
      have hps : PyData.canLayAll0 (ps.map prD) = true ∧ PyData.depthAll (ps.map prD) ≤ 3 := by
        clear q4 q5 q6
        induction ps with
        | nil => exact ⟨rfl, by decide⟩
        | cons q ps ih =>
          rw [List.map_cons]
          constructor
          · simp only [PyData.canLayAll0, PyData.canLay0, prD, ih.1, Bool.and_self]
          · have := ih.2
            simp only [PyData.depthAll, PyData.depth, prD]
            omega
      have dpp : DpAll K H ys (ps.map prD) := DRs.dp K _ _ q4
      refine ⟨.tuple [.int (tv tn tr x.2).2.1, .tuple (ps.map prD)] :: ds, .cons (.tup (SqT.of q1) (.cons (.int _) (.cons (.tup (.inl (.inr ⟨o, q2⟩)) dpp) .nil))) h1, ?_, ?_, ?_⟩
      · rw [List.any_cons, h2]
        rfl
      · simp only [PyData.canLayAll0, PyData.canLay0, h3, hps.1, Bool.and_self]
      · have := hps.2
        simp only [PyData.depthAll, PyData.depth]
        omega
section
variable (C : Addr) (ns rs : List Key) (tn : Key → Int) (tr : Key → RowF)
def spReckon (h : Nat) : Sp := fun vs H Q _ => ∃ (me T : Addr) (v : V) (t : Tm) (b : Bool), vs = [.ref me, v, .ref T, .non] ∧ LookM H me C ∧ TR H v t ∧ Ok ns rs b t ∧ t.lev ≤ h ∧ h ≤ 700 ∧ MulOk tn tr t ∧ TabR H T ns rs tn tr ∧ ∀ u H', Same H H' → UV tn tr H' u (b, t) → Q u H'
end
def BReckon (K : PySem.W.Frag) (fd : FuncData) : Prop := L2.Binds K fd ["self", "term", "table", "known"] [] ∧ ∃ ds, Vals [V.non] ds ∧ L2.Binds K fd ["self", "term", "table", "known"] ds
theorem bReckon {K : PySem.W.Frag} {f : Addr} {fd : FuncData} (F : FnM K "reckon" "Look.reckon" 32 3 [.non] [] f fd) : BReckon K fd := by
  obtain ⟨d1, r1, b1⟩ := F.binds1 (ps := ["self", "term", "table", "known"]) 4 1 (by simp) (by decide) fun T kV doc pm an cdv ct us its h1 h2 => match us, its, h1, h2 with | [_, _, _, _], [_], _, _ => ⟨_, rfl, rfl⟩
  obtain ⟨d2, r2, b2⟩ := F.binds1 (ps := ["self", "term", "table", "known"]) 3 0 (by simp) (by decide) fun T kV doc pm an cdv ct us its h1 h2 => match us, its, h1, h2 with | [_, _, _], [_], _, _ => ⟨_, rfl, rfl⟩
  cases r1
  exact ⟨b1, d2, r2, b2⟩
theorem scReckon : FnScope ["self", "term", "table", "known", "word", "parts", "part"] ["self", "term", "table", "known"] (defScope (mth 32 3)) := ⟨rfl, rfl, rfl, by decide +kernel, rfl, by decide +kernel, by decide +kernel⟩
section
variable {P : Program} {w : World} {K : PySem.W.Frag} {mg : Str → Option Value} {base : Heap} {C : Addr} {ns rs : List Key} {tn : Key → Int} {tr : Key → RowF}
theorem st_reckon (D : DfM K C "reckon" "Look.reckon" 32 3 [.non] []) (cl_ : Cls K C) (GL : Mv P w K mg base C 2 "letter_at" ["self", "letter", "table", "of_row"] (spLetter ns rs tn tr) BLetter) (GN : Mv P w K mg base C 2 "reckon_number" ["self", "term", "parts"] (spRNum tn tr) (BAll ["self", "term", "parts"] K))
    (GR : Mv P w K mg base C 2 "reckon_row" ["self", "term", "parts"] (spRRow tn tr) (BAll ["self", "term", "parts"] K)) (GP : Gv P w K mg base 2 "parts_of" ["thing"] spParts) (GS : Gv P w K mg base 1 "sort_of" ["word"] spSort) (h k : Nat) (hk : 2 ≤ k)
    (IH : ∀ h', h = h' + 1 → Mv P w K mg base C k "reckon" ["self", "term", "table", "known"] (spReckon C ns rs tn tr h') (BReckon K)) : Mv P w K mg base C (k + 1) "reckon" ["self", "term", "table", "known"] (spReckon C ns rs tn tr h) (BReckon K) := by
  obtain ⟨spE, GE, hE⟩ : ∃ spE : Sp, Mv P w K mg base C k "reckon" ["self", "term", "table", "known"] spE (BReckon K) ∧ ∀ h', h = h' + 1 → spE = spReckon C ns rs tn tr h' := by
    cases h with
    | zero => exact ⟨fun _ _ _ _ => False, Mv.never D (fun f fd F => bReckon F) fun _ _ _ _ z => z, fun n' e => by omega⟩
    | succ h' => exact ⟨_, IH h' rfl, fun m e => by cases e; rfl⟩
  refine okM D scReckon (fun f fd F => bReckon F) (fun vs H Q E h => ?_) (fun f cdv A out s H vs Q E hr h => ?_)
  · obtain ⟨me, T, v, t, b, rfl, _⟩ := h
    rfl
  obtain ⟨me, T, v, t, b, rfl, hme, ht, hok, hlev, h700, hmul, hT, kk⟩ := h
  have nd := scReckon.nd
  have hr2 := hr.mono hk
  have hr1 := hr.mono (show 1 ≤ k by omega)
  have hu65 : (A.deeper (envOfC "Look.reckon" (defScope (mth 32 3)) s.heap.objs.size f cdv)).units + 65 < cLine := by
    have := hr.un
    omega
  refine ⟨_, pss_cons (ps_set (i := 4) nd rfl (Or.inl rfl) (pe_ix ix_tup (pv 1) pe_int (fun _ _ => rfl)))
    (pss_cons (ps_if (pt_cmpR op_eq (pv 4) pe_str (nomark _)) (pss_one (ps_ret (pe_ix ix_tup (pv 1) pe_int (fun _ _ => rfl)))) pss_nil)
    (pss_cons (ps_if (pt_cmpR op_in_seq (pv 4) (pe_tup (pa_cons pe_str (pa_cons pe_str pa_nil))) (by rfl)) (pss_one (ps_ret (pe_mk (E := E0) (n := 2) (pv 0) cl_ GL (fun fd b => b) hr2 (pa_cons (pe_ix ix_tup (pv 1) pe_int (fun _ _ => rfl)) (pa_cons (pv 2) pa_nil)) (pk_cons (pe_cmpR op_eq (pv 4) pe_str (nomark _)) pk_nil)))) pss_nil)
    (pss_cons (ps_if (PW.pt (pw_and (pt_cmpR op_eq (pv 4) pe_str (nomark _)) (pw_and (pt_cmpR op_notN (pv 3) pe_non (nomark _)) (pw_and1 (pt_cmpR op_eq (pe_ix ix_tup (pv 3) pe_int (fun _ _ => rfl)) (pe_ix ix_tup (pv 1) pe_int (fun _ _ => rfl)) (nomark _)))))) pss_never pss_nil)
    (pss_cons (ps_setLc (i := 5) (own := [("part", 6)]) (g := gName 6) (tt := tYes) rfl nd rfl rfl (sw_true rfl rfl rfl (by decide +kernel)) (pi_list (pe_v (E := E0) GP hr2 rfl (pa_cons (pv 1) pa_nil))) (blkOk_by (own := [("part", 6)]) (N := ["self", "term", "table", "known", "word", "parts", "part"]) (sc := defScope (mth 32 3)) (by decide +kernel))
        (fun _ _ _ _ _ => pg_name (i := 6) nd rfl (Or.inl rfl)) (fun _ _ _ _ _ => pts_nil) (fun _ _ _ _ _ => pe_mv (E := E0) (dvs := []) (pv 0) cl_ GE (fun fd b => ⟨[], .nil, b.1⟩) hr (pa_cons (pv 6) (pa_cons (pv 2) (pa_cons (pv 3) pa_nil)))))
    (pss_cons (ps_if (pt_cmpR op_eq (pv 4) pe_str (nomark _)) pss_never pss_nil)
    (pss_cons (ps_if (pt_cmpR (op_inD hu65) pe_non (pv 5) (by rfl)) (pss_one (ps_ret pe_non)) pss_nil)
    (pss_one (ps_ret (pe_ifExp (pt_cmpR op_eq (pe_v (E := E0) GS hr1 rfl (pa_cons (pv 4) pa_nil)) pe_str (nomark _)) (pe_mv (E := E0) (dvs := []) (pv 0) cl_ GR (fun fd b => ⟨[], .nil, b⟩) hr2 (pa_cons (pv 1) (pa_cons (pv 5) pa_nil))) (pe_mv (E := E0) (dvs := []) (pv 0) cl_ GN (fun fd b => ⟨[], .nil, b⟩) hr2 (pa_cons (pv 1) (pa_cons (pv 5) pa_nil)))))))))))), ?_⟩
  have same : Same H H := fun _ _ e => e
  obtain ⟨dx, fs, hfs, hlk⟩ := id hme
  by_cases hs : subs t ≠ []
  · obtain ⟨a, q, xs, rfl, hq, w1, w2, w3, w4, ha, hxl, hx1, hx100, hrow, hpl, hpp⟩ := ht.parts hs
    obtain ⟨z, so, ki⟩ := q
    have w1 : z ≠ Str.ofString "notion" := w1
    have w2 : z ≠ Str.ofString "num" := w2
    have nw2 : inV (V.str z) [V.str (Str.ofString "name"), V.str (Str.ofString "row")] = false := nomem2 w3 w4
    refine ⟨_, rfl, a, _, _, _, rfl, rfl, SqT.of ha, atI_head _ _, _, rfl, rfl, _, rfl, ite2 (fun c => absurd c (by rw [eqs_false w2]; decide)) (fun _ => ?_)⟩
    refine ⟨_, rfl, by show 2 ≤ sizeLine; decide, fun t1 n1 => ?_⟩
    have z1 := same_upd (o := .tup [V.str "name", .str "row"]) n1
    refine ⟨t1, _, rfl, .inr (SqT.of upd_same), rfl, rfl, _, rfl, ite2 (fun c => absurd (show inV (V.str z) [V.str (Str.ofString "name"), V.str (Str.ofString "row")] = true from c) (by rw [nw2]; decide)) (fun _ => ?_)⟩
    refine ⟨_, rfl, rfl, _, rfl, ?_⟩
    refine ite2 (fun c => absurd c (by rw [eqs_false w1]; decide)) (fun _ => ?_)
    refine iteF ?_
    -- the parts
    refine ⟨_, rfl, a, (z, so, ki), xs, rfl, hq, w1, z1 _ _ ha, hxl, hx1, hx100, fun L1 H1 s1 nL1 hL1 => ?_⟩
    have s01 : Same H H1 := fun b o e => s1 _ _ (z1 _ _ e)
    refine ⟨L1, rfl, ⟨_, SqL.of hL1⟩, fun D4 d4 => ?_⟩
    have z4 := same_upd (o := .lst []) d4
    have nD : H D4 = none := by
      cases e : H D4 with
      | none => rfl
      | some o =>
        rw [s01 _ _ e] at d4
        cases d4
    have LD : L1 ≠ D4 := ne_of_none hL1 d4
    have hkl : (keepK ki.cps.toList xs).length ≤ 100 := Nat.le_trans (keepK_len _ _) hx100
    obtain ⟨h', hh'⟩ : ∃ h', h = h' + 1 := ⟨h - 1, by have := t.lev_pos; omega⟩
    obtain rfl := hE h' hh'
    refine lc_list (K := K) (a := L1) (xs := keepK ki.cps.toList xs) (fun i H' => H' L1 = some (.lst (keepK ki.cps.toList xs)) ∧ Same H H' ∧ ∃ us, H' D4 = some (.lst us) ∧ us.length = i ∧ ∀ (j : Nat) (u : V) (x : Bool × Tm), us[j]? = some u → (subs t)[j]? = some x → UV tn tr H' u x) ⟨z4 _ _ hL1, fun b o e => z4 _ _ (s01 _ _ e), [], upd_same, rfl, fun j u x e => by simp at e⟩ (fun i H' hi h => SqL.of h.1) (fun i x H' hx h => ?_) (fun H' h => ?_)
    · obtain ⟨hL', s', us, hD, hul, huv⟩ := h
      have hil : i < (subs t).length := by rw [← hpl]; exact (List.getElem?_eq_some_iff.mp hx).1
      obtain ⟨y, hy⟩ : ∃ y, (subs t)[i]? = some y := ⟨_, List.getElem?_eq_getElem hil⟩
      have hty : TR H' x y.2 := (hpp i x y hx hy).kt (.of s')
      obtain ⟨o1, o2⟩ := subs_ok hok y (List.mem_of_getElem? hy)
      refine ⟨rfl, _, rfl, me, dx, fs, rfl, s' _ _ hfs, hlk _ (by simp), _, rfl, _, rfl, _, rfl, me, T, x, y.2, y.1, rfl, hme.same s', hty, o1, by omega, by omega, subs_mul hmul y (List.mem_of_getElem? hy), hT.keep (.of s'), fun u H2 s2 hu2 => ?_⟩
      have hD2 := s2 _ _ hD
      have k6 : KT H2 (upd H2 D4 (.lst (us ++ [u]))) := KT.set hD2 fun ys z => by cases z
      have f6 : ∀ b o u', H2 b = some (.frz o u') → upd H2 D4 (.lst (us ++ [u])) b = some (.frz o u') := fun b o u' e => by
        rw [upd_ne (fun z => by rw [z, hD2] at e; cases e)]
        exact e
      have h100 : (subs t).length ≤ 100 := by rw [← hpl]; exact hkl
      refine ⟨us, hD2, small1000 (by omega), ?_, fun b o e => ?_, us ++ [u], upd_same, by rw [List.length_append, hul]; rfl, fun j u' x' e1 e2 => ?_⟩
      · rw [upd_ne LD]
        exact s2 _ _ hL'
      · rw [upd_ne (ne_of_none e nD)]
        exact s2 _ _ (s' _ _ e)
      · by_cases hj : j < i
        · rw [List.getElem?_append_left (by omega)] at e1
          exact ((huv j u' x' e1 e2).keep (.of s2) fun b o w e => s2 _ _ e).keep k6 f6
        · have : j = i := by
            have := (List.getElem?_eq_some_iff.mp e1).1
            rw [List.length_append, hul] at this
            have : j < i + 1 := this
            omega
          subst this
          rw [List.getElem?_append_right (by omega), hul, Nat.sub_self] at e1
          cases e1
          rw [hy] at e2
          cases e2
          exact hu2.keep k6 f6
    obtain ⟨hL', s', us, hD, hul, huv⟩ := h
    rw [hpl] at hul
    refine ⟨_, rfl, rfl, _, rfl, ite2 (fun c => absurd c (by rw [eqs_false w1]; decide)) (fun _ => ?_)⟩
    obtain ⟨ds, dd1, dd2, dd3, dd4⟩ := uvs_data (K := K) hul huv
    refine ⟨_, rfl, .none, ds, .non, .lst (SqL.of hD) dd1, rfl, ?_, _, rfl, ite2 (fun c => absurd c (by rw [dd2]; decide)) (fun _ => ?_)⟩
    · unfold SeqAt.shaped
      rw [show (PyData.list ds).canLay0 = true from dd3]
      have : (PyData.list ds).depth ≤ 64 := by
        simp only [PyData.depth]
        omega
      simp [this]
    refine ⟨_, rfl, (z, so, ki), hq, rfl, rfl, _, rfl, ?_⟩
    have ha' := s' _ _ ha
    have htr : TR H' (.ref a) t := ht.kt (.of s')
    have us3 : ∀ i, i < (subs t).length → ∃ u, us[i]? = some u := fun i hi => ⟨_, List.getElem?_eq_getElem (by omega)⟩
    by_cases hrw : so = Str.ofString "row"
    · refine ite2 (fun _ => ?_) (fun c => absurd (decide_eq_true (by rw [hrw])) c)
      refine ⟨_, rfl, me, dx, fs, rfl, s' _ _ hfs, hlk _ (by simp), _, rfl, _, rfl, .ref me, a, D4, t, us, 10 + (t.lev - 2), rfl, htr, hD, by omega, ?_, fun v' H3 s3 hR => kk v' H3 (fun b o e => s3 _ _ (s' _ _ e)) ?_⟩
      · rcases hrow.mp hrw with ⟨r, t', u', rfl⟩ | ⟨t', rfl⟩
        · match us, hul, huv with
          | [u0, u1, u2], _, huv =>
            have h0 := (huv 0 u0 _ rfl rfl).2 rfl
            have h1 := (huv 1 u1 _ rfl rfl).1 rfl
            have h2 := (huv 2 u2 _ rfl rfl).1 rfl
            subst h1 h2
            exact ⟨u0, rfl, h0.le (by simp only [Tm.lev]; omega)⟩
        · match us, hul, huv with
          | [u0], _, huv =>
            have h0 := (huv 0 u0 _ rfl rfl).1 rfl
            subst h0
            rfl
      · have hlv : 10 + (t.lev - 2) + 1 ≤ 10 + t.lev := by
          rcases hrow.mp hrw with ⟨r, t', u', rfl⟩ | ⟨t', rfl⟩ <;> simp only [Tm.lev] <;> omega
        cases b with
        | true => exact ⟨(fun e => by cases e), fun _ => hR.le hlv⟩
        | false => rcases hrow.mp hrw with ⟨r, t', u', rfl⟩ | ⟨t', rfl⟩ <;> exact hok.elim
    · refine ite2 (fun c => absurd (show V.str so = V.str (Str.ofString "row") from of_decide_eq_true c) (fun e => hrw (by injection e))) (fun _ => ?_)
      refine ⟨_, rfl, me, dx, fs, rfl, s' _ _ hfs, hlk _ (by simp), _, rfl, _, rfl, .ref me, a, D4, t, us, rfl, htr, hD, ?_, fun H3 s3 => kk _ H3 (fun b o e => s3 _ _ (s' _ _ e)) ?_⟩
      · have hb : b = false ∨ b = true := by cases b <;> simp
        cases t with
        | num _ => exact absurd rfl hs
        | name _ => exact absurd rfl hs
        | row _ => exact absurd rfl hs
        | wth r t' u' => exact absurd (hrow.mpr (.inl ⟨_, _, _, rfl⟩)) hrw
        | room t' => exact absurd (hrow.mpr (.inr ⟨_, rfl⟩)) hrw
        | add t' u' =>
          match us, hul, huv with
          | [u0, u1], _, huv =>
            have h0 := (huv 0 u0 _ rfl rfl).1 rfl
            have h1 := (huv 1 u1 _ rfl rfl).1 rfl
            subst h0 h1
            rfl
        | mul n t' =>
          match us, hul, huv with
          | [u0], _, huv =>
            have h0 := (huv 0 u0 _ rfl rfl).1 rfl
            subst h0
            exact ⟨rfl, hmul.1⟩
        | read r t' =>
          match us, hul, huv with
          | [u0, u1], _, huv =>
            have h0 := (huv 0 u0 _ rfl rfl).2 rfl
            have h1 := (huv 1 u1 _ rfl rfl).1 rfl
            subst h1
            exact ⟨u0, rfl, h0.le (show 10 + r.lev ≤ 1000 by simp only [Tm.lev] at hlev; omega)⟩
        | size r =>
          match us, hul, huv with
          | [u0], _, huv =>
            have h0 := (huv 0 u0 _ rfl rfl).2 rfl
            exact ⟨u0, rfl, h0.le (show 10 + r.lev ≤ 1000 by simp only [Tm.lev] at hlev; omega)⟩
        | div t' n =>
          cases b with
          | true => exact hok.elim
          | false =>
            match us, hul, huv with
            | [u0], _, huv =>
              have h0 := (huv 0 u0 _ rfl rfl).1 rfl
              subst h0
              exact ⟨rfl, hok.2⟩
        | mod t' n =>
          cases b with
          | true => exact hok.elim
          | false =>
            match us, hul, huv with
            | [u0], _, huv =>
              have h0 := (huv 0 u0 _ rfl rfl).1 rfl
              subst h0
              exact ⟨rfl, hok.2⟩
      · cases b with
        | false => exact ⟨fun _ => rfl, fun e => by cases e⟩
        | true =>
          exfalso
          cases t with
          | wth r t' u' => exact hrw (hrow.mpr (.inl ⟨_, _, _, rfl⟩))
          | room t' => exact hrw (hrow.mpr (.inr ⟨_, rfl⟩))
          | row _ => exact absurd rfl hs
          | _ => exact hok.elim
  cases t with
  | num n =>
    obtain ⟨a, xs, rfl, ha, hx⟩ := DR.tup_inv ht
    obtain ⟨x0, r0, rfl, g0, hy⟩ := hx.cons_inv
    obtain ⟨x1, r1, rfl, g1, hz⟩ := hy.cons_inv
    cases hz
    cases g0.str_inv
    cases g1.int_inv
    cases b with
    | true => exact hok.elim
    | false =>
      refine ⟨_, rfl, a, _, _, _, rfl, rfl, SqT.of ha, rfl, _, rfl, rfl, _, rfl, iteT ?_⟩
      exact ⟨_, rfl, a, _, _, _, rfl, rfl, SqT.of ha, rfl, kk _ _ same ⟨fun _ => rfl, fun e => by cases e⟩⟩
  | name l =>
    obtain ⟨a, xs, rfl, ha, hx⟩ := DR.tup_inv ht
    obtain ⟨x0, r0, rfl, g0, hy⟩ := hx.cons_inv
    obtain ⟨x1, r1, rfl, g1, hz⟩ := hy.cons_inv
    cases hz
    cases g0.str_inv
    cases g1.key
    cases b with
    | true => exact hok.elim
    | false =>
      refine ⟨_, rfl, a, _, _, _, rfl, rfl, SqT.of ha, rfl, _, rfl, rfl, _, rfl, iteF ?_⟩
      refine ⟨_, rfl, by show 2 ≤ sizeLine; decide, fun t1 n1 => ?_⟩
      have z1 := same_upd (o := .tup [V.str "name", .str "row"]) n1
      refine ⟨t1, _, rfl, .inr (SqT.of upd_same), rfl, rfl, _, rfl, iteT ?_⟩
      refine ⟨_, rfl, me, dx, fs, rfl, z1 _ _ hfs, hlk _ (by simp), _, rfl, a, _, _, _, rfl, rfl, SqT.of (z1 _ _ ha), rfl, _, rfl, _, rfl, rfl, rfl, rfl, .ref me, l, T, false, rfl, hT.keep (.of z1), fun _ => hok, (fun e => by cases e), fun u H' s' h1 h2 => ?_⟩
      exact kk u H' (fun b o e => s' _ _ (z1 _ _ e)) ⟨fun _ => h1 rfl, fun e => by cases e⟩
  | row l =>
    obtain ⟨a, xs, rfl, ha, hx⟩ := DR.tup_inv ht
    obtain ⟨x0, r0, rfl, g0, hy⟩ := hx.cons_inv
    obtain ⟨x1, r1, rfl, g1, hz⟩ := hy.cons_inv
    cases hz
    cases g0.str_inv
    cases g1.key
    cases b with
    | false => exact hok.elim
    | true =>
      refine ⟨_, rfl, a, _, _, _, rfl, rfl, SqT.of ha, rfl, _, rfl, rfl, _, rfl, iteF ?_⟩
      refine ⟨_, rfl, by show 2 ≤ sizeLine; decide, fun t1 n1 => ?_⟩
      have z1 := same_upd (o := .tup [V.str "name", .str "row"]) n1
      refine ⟨t1, _, rfl, .inr (SqT.of upd_same), rfl, rfl, _, rfl, iteT ?_⟩
      refine ⟨_, rfl, me, dx, fs, rfl, z1 _ _ hfs, hlk _ (by simp), _, rfl, a, _, _, _, rfl, rfl, SqT.of (z1 _ _ ha), rfl, _, rfl, _, rfl, rfl, rfl, rfl, .ref me, l, T, true, rfl, hT.keep (.of z1), (fun e => by cases e), fun _ => hok, fun u H' s' h1 h2 => ?_⟩
      exact kk u H' (fun b o e => s' _ _ (z1 _ _ e)) ⟨(fun e => by cases e), fun _ => (h2 rfl).le (by show 10 ≤ 10 + _; omega)⟩
  | _ => exact absurd (by simp [subs]) hs
/-- reckon, for every nest of h levels at most -/
theorem ok_reckon (D : DfM K C "reckon" "Look.reckon" 32 3 [.non] []) (cl_ : Cls K C) (GL : Mv P w K mg base C 2 "letter_at" ["self", "letter", "table", "of_row"] (spLetter ns rs tn tr) BLetter) (GN : Mv P w K mg base C 2 "reckon_number" ["self", "term", "parts"] (spRNum tn tr) (BAll ["self", "term", "parts"] K))
    (GR : Mv P w K mg base C 2 "reckon_row" ["self", "term", "parts"] (spRRow tn tr) (BAll ["self", "term", "parts"] K)) (GP : Gv P w K mg base 2 "parts_of" ["thing"] spParts) (GS : Gv P w K mg base 1 "sort_of" ["word"] spSort) : ∀ h, Mv P w K mg base C (h + 3) "reckon" ["self", "term", "table", "known"] (spReckon C ns rs tn tr h) (BReckon K)
  | 0 => st_reckon D cl_ GL GN GR GP GS 0 2 (Nat.le_refl _) fun h' e => by omega
  | h + 1 => st_reckon D cl_ GL GN GR GP GS (h + 1) (h + 3) (by omega) fun h' e => by
      have : h = h' := by omega
      subst this
      exact ok_reckon D cl_ GL GN GR GP GS h
end
end Lw
/-! Part K1: firm, Look(..), worth_of. -/
namespace Lw
open PySem PySem.Spec L2 PyProof.Rows
def spFirm : Sp := fun vs H Q _ => ∃ d : Addr, vs = [.ref d] ∧ H d = some (.dK []) ∧ ∀ L H', Same H H' → H' L = some (.lst []) → Q (.ref L) H'
theorem scFirm : FnScope ["notions", "found", "floor", "name"] ["notions"] (defScope (top 27)) := ⟨rfl, rfl, rfl, by decide +kernel, rfl, by decide +kernel, by decide +kernel⟩
/-- the class Look stands at C -/
structure LookK (K : PySem.W.Frag) (mg : Str → Option Value) (C : Addr) : Prop where
  cls : Cls K C
  nm : mg "Look" = some (.ref C)
  mak : ∃ f fd, FnM K "__init__" "Look.__init__" 32 0 [] [] f fd ∧ Mk K C f
  no : ∀ x ∈ (["notions", "firm", "count", "first"] : List Str), NoAttr K C x
section
variable {P : Program} {w : World} {K : PySem.W.Frag} {mg : Str → Option Value} {base : Heap} {C : Addr} {ns rs : List Key} {tn : Key → Int} {tr : Key → RowF}
theorem ok_firm (D : Df K mg "firm" 27) (mr : mg "range" = none) (ms : mg "sorted" = none) (mF : ∃ o, mg "FLOORS" = some (.int 10 o)) : Gv P w K mg base 1 "firm" ["notions"] spFirm := by
  refine okV D scFirm (fun _ _ _ _ _ _ us hl => match us, hl with | [_], _ => rfl) (fun vs H Q E h => ?_) (fun f cdv A out s H vs Q E hr h => ?_)
  · obtain ⟨d, rfl, _⟩ := h
    rfl
  obtain ⟨d, rfl, hd, kk⟩ := h
  have nd := scFirm.nd
  obtain ⟨o10, mF⟩ := mF
  refine ⟨_, pss_cons (ps_set (i := 1) nd rfl (Or.inl rfl) (pe_lst pa_nil))
    (pss_cons (ps_for PassesOwn.never rfl (pi_range1 rfl mr (pa_cons (pe_glob (v := .int 10) rfl mF ⟨o10, rfl⟩) pa_nil)) (pg_name (i := 2) nd rfl (Or.inl rfl))
      (pss_one (ps_for PassesOwn.never rfl (pi_list (pe_callB (call_sortedD rfl) rfl ms (by decide +kernel) (pa_cons (pv 0) pa_nil))) (pg_name (i := 3) nd rfl (Or.inl rfl)) pss_never)))
    (pss_one (ps_ret (pe_callB cr_sortedI rfl ms (by decide +kernel) (pa_cons (pv 1) pa_nil))))), ?_⟩
  refine ⟨by decide, fun L nL => ?_⟩
  have s0 := same_upd (o := .lst []) nL
  refine ⟨_, rfl, by decide, by decide, ?_⟩
  refine for_range (lo := 0) (n := 10) (fun i σ H' => ∃ e2 e3 : Option V, σ = [some (.ref d), some (.ref L), e2, e3] ∧ Same (upd H L (.lst [])) H') ⟨none, none, rfl, fun _ _ e => e⟩ (fun i σ H' hi h => ?_) (fun σ H' h => ?_)
  · obtain ⟨e2, e3, rfl, s1⟩ := h
    refine ⟨_, rfl, d, [], [], rfl, .inl (s1 _ _ (s0 _ _ hd)), rfl, by decide, fun ys p hp _ np => ?_⟩
    obtain rfl := hp.eq_nil
    refine ⟨p, rfl, ⟨_, SqL.of upd_same⟩, ?_⟩
    refine for_list (K := K) (a := p) (xs := []) (fun i σ H'' => H'' p = some (.lst []) ∧ ∃ e2 e3 : Option V, σ = [some (.ref d), some (.ref L), e2, e3] ∧ Same (upd H L (.lst [])) H'') ⟨upd_same, _, _, rfl, fun b o e => same_upd np _ _ (s1 _ _ e)⟩ (fun i σ H'' hi h => SqL.of h.1) (fun i x σ H'' hx h => by simp at hx) (fun σ H'' h => ?_)
    exact h.2
  · obtain ⟨e2, e3, rfl, s1⟩ := h
    refine ⟨_, rfl, L, [], rfl, SqL.of (s1 _ _ upd_same), fun ns' p hp _ np => ?_⟩
    obtain rfl := hp.eq_nil
    exact kk p _ (fun b o e => same_upd np _ _ (s1 _ _ (s0 _ _ e))) upd_same
end
def lookFs (d L : Addr) : List (Str × V) := [("notions", .ref d), ("firm", .ref L), ("count", .int 0), ("first", .non)]
/-- Look(notions), no notions -/
def spLook0 (C : Addr) : Sp := fun vs H Q _ => ∃ (me d dx : Addr), vs = [.ref me, .ref d] ∧ H me = some (.ins C dx []) ∧ d ≠ me ∧ H d = some (.dK []) ∧ ∀ L H', H' me = some (.ins C dx (lookFs d L)) → (∀ b o, b ≠ me → H b = some o → H' b = some o) → Q .non H'
theorem scLook0 : FnScope ["self", "notions"] ["self", "notions"] (defScope (mth 32 0)) := ⟨rfl, rfl, rfl, by decide +kernel, rfl, by decide +kernel, by decide +kernel⟩
section
variable {P : Program} {w : World} {K : PySem.W.Frag} {mg : Str → Option Value} {base : Heap} {C : Addr} {ns rs : List Key} {tn : Key → Int} {tr : Key → RowF}
theorem ok_look0 (D : LookK K mg C) (GF : Gv P w K mg base 1 "firm" ["notions"] spFirm) : ∃ f fd, FnOk P w K mg base CX0 2 f fd ["self", "notions"] (spLook0 C) ∧ Mk K C f ∧ L2.Binds K fd ["self", "notions"] [] := by
  obtain ⟨f, fd, F, M⟩ := D.mak
  refine ⟨f, fd, F.ok scLook0 (fun vs H Q E h => ?_) (fun cdv A out s H vs Q E hr h => ?_), M, F.bindsN (fun _ _ _ _ _ _ us hl => match us, hl with | [_, _], _ => rfl)⟩
  · obtain ⟨me, d, dx, rfl, _⟩ := h
    rfl
  obtain ⟨me, d, dx, rfl, hme, hdm, hd, kk⟩ := h
  have nd := scLook0.nd
  refine ⟨_, PSs.nox (pss_cons (ps_fld (pv 0) (pv 1) rfl) (pss_cons (ps_fld (pv 0) (pe_v (E := E0) GF hr rfl (pa_cons (pv 1) pa_nil)) rfl) (pss_cons (ps_fld (pv 0) pe_int rfl) (pss_one (ps_fld (pv 0) pe_non rfl))))), ?_⟩
  refine ⟨_, rfl, _, rfl, me, C, dx, [], rfl, hme, D.cls, D.no _ (by simp), of_decide_eq_true rfl, ?_⟩
  refine ⟨_, rfl, d, rfl, by rw [upd_ne hdm]; exact hd, fun L H1 s1 _ => ⟨_, rfl, me, C, dx, _, rfl, s1 _ _ upd_same, D.cls, D.no _ (by simp), of_decide_eq_true rfl, ?_⟩⟩
  refine ⟨_, rfl, me, C, dx, _, rfl, upd_same, D.cls, D.no _ (by simp), of_decide_eq_true rfl, ?_⟩
  refine ⟨_, rfl, me, C, dx, _, rfl, upd_same, D.cls, D.no _ (by simp), of_decide_eq_true rfl, ?_⟩
  refine kk L _ upd_same fun b o hb e => ?_
  rw [upd_ne hb, upd_ne hb, upd_ne hb]
  refine s1 _ _ ?_
  rw [upd_ne hb]
  exact e
/-- a fresh Look, its nest of calls bounded -/
theorem lookM {H : Hp} {me C dx d L : Addr} (h : H me = some (.ins C dx (lookFs d L))) : LookM H me C := ⟨dx, _, h, fun m hm => by
  simp only [List.mem_cons, List.not_mem_nil, or_false] at hm
  rcases hm with rfl | rfl | rfl | rfl | rfl <;> rfl⟩
theorem keepsNew {H H' : Hp} {me dx C : Addr} {u : HO} (nm : H me = none) (nd : H dx = none) (h : ∀ b o, b ≠ me → (upd (upd H dx (.own me)) me u) b = some o → H' b = some o) : Same H H' := fun b o e => by
  have h1 := ne_of_none e nm
  have h2 := ne_of_none e nd
  refine h b o h1 ?_
  rw [upd_ne h1, upd_ne h2]
  exact e
def spWorthOf (ns rs : List Key) (tn : Key → Int) (tr : Key → RowF) (h : Nat) : Sp := fun vs H Q _ => ∃ (T d : Addr) (v : V) (t : Tm), vs = [v, .ref T, .ref d] ∧ H d = some (.dK []) ∧ TR H v t ∧ Ok ns rs false t ∧ t.lev ≤ h ∧ h ≤ 700 ∧ MulOk tn tr t ∧ TabR H T ns rs tn tr ∧ ∀ H', Same H H' → Q (.int (tv tn tr t).1) H'
theorem scWorthOf : FnScope ["thing", "table", "notions", "look", "found"] ["thing", "table", "notions"] (defScope (top 33)) := ⟨rfl, rfl, rfl, by decide +kernel, rfl, by decide +kernel, by decide +kernel⟩
theorem ok_worth_of {h : Nat} (D : Df K mg "worth_of" 33) (L : LookK K mg C) (GF : Gv P w K mg base 1 "firm" ["notions"] spFirm) (GR : Mv P w K mg base C (h + 3) "reckon" ["self", "term", "table", "known"] (spReckon C ns rs tn tr h) (BReckon K)) (mM : ∃ o, mg "MOST_LOOK" = some (.int 400 o)) :
    Gv P w K mg base (h + 4) "worth_of" ["thing", "table", "notions"] (spWorthOf ns rs tn tr h) := by
  refine okV D scWorthOf (fun _ _ _ _ _ _ us hl => match us, hl with | [_, _, _], _ => rfl) (fun vs H Q E h => ?_) (fun f cdv A out s H vs Q E hr h => ?_)
  · obtain ⟨T, d, v, t, rfl, _⟩ := h
    rfl
  obtain ⟨T, d, v, t, rfl, hd, ht, hok, hlev, h700, hmul, hT, kk⟩ := h
  have nd := scWorthOf.nd
  obtain ⟨o4, mM⟩ := mM
  obtain ⟨fi, fdi, FI, MI, BI⟩ := ok_look0 (P := P) (w := w) (base := base) L GF
  refine ⟨_, pss_cons (ps_set (i := 3) nd rfl (Or.inl rfl) (pe_make (E := E0) MI FI (hr.mono (by omega)) rfl L.nm BI .nil pass0 (pa_cons (pv 2) pa_nil)))
    (pss_cons (ps_set (i := 4) nd rfl (Or.inl rfl) (pe_mv (E := E0) (dvs := [.non]) (pv 3) L.cls GR (fun fd b => b.2) hr (pa_cons (pv 0) (pa_cons (pv 1) pa_nil))))
    (pss_one (ps_ret (pe_ifExp (pt_cmpR op_le (pe_fld (pv 3) rfl) (pe_glob (v := .int 400) rfl mM ⟨o4, rfl⟩) (by rfl)) (pv 4) pe_non)))), ?_⟩
  refine ⟨_, rfl, fun me dx nm nx ndm => ?_⟩
  have hdm : d ≠ me := ne_of_none hd nm
  have hddx : d ≠ dx := ne_of_none hd nx
  refine ⟨me, d, dx, rfl, upd_same, hdm, by rw [upd_ne hdm, upd_ne hddx]; exact hd, fun L0 H1 h1 h2 => ⟨rfl, ?_⟩⟩
  have s1 : Same H H1 := keepsNew (C := C) nm nx h2
  refine ⟨_, rfl, me, dx, _, rfl, h1, rfl, _, rfl, _, rfl, me, T, v, t, false, rfl, lookM h1, ht.kt (.of s1), hok, hlev, h700, hmul, hT.keep (.of s1), fun u H2 s2 hu => ?_⟩
  obtain rfl := hu.1 rfl
  refine ⟨_, rfl, me, C, dx, _, _, rfl, s2 _ _ h1, L.cls, L.no _ (by simp), rfl, ?_⟩
  refine ⟨_, _, rfl, rfl, _, rfl, iteT ?_⟩
  exact ⟨_, rfl, kk _ fun b o e => s2 _ _ (s1 _ _ e)⟩
end
end Lw
/-! Part K2: sayings: is_so, looked, truth_of. -/
namespace Lw
open PySem PySem.Spec L2 L2.DX PyProof.Rows
inductive Sy where
  | le (a b : Tm) | eq (a b : Tm) | nle (a b : Tm)
def Sy.d : Sy → PyData
  | .le a b => .tuple [.str "le", a.d, b.d]
  | .eq a b => .tuple [.str "eq", a.d, b.d]
  | .nle a b => .tuple [.str "not", .tuple [.str "le", a.d, b.d]]
def Sy.one : Sy → Tm
  | .le a _ => a
  | .eq a _ => a
  | .nle a _ => a
def Sy.two : Sy → Tm
  | .le _ b => b
  | .eq _ b => b
  | .nle _ b => b
def Sy.val (tn : Key → Int) (tr : Key → RowF) : Sy → Bool
  | .le a b => decide ((tv tn tr a).1 ≤ (tv tn tr b).1)
  | .eq a b => decide ((tv tn tr a).1 = (tv tn tr b).1)
  | .nle a b => !decide ((tv tn tr a).1 ≤ (tv tn tr b).1)
def Sy.dep : Sy → Nat
  | .nle _ _ => 1
  | _ => 0
section
variable (C : Addr) (ns rs : List Key) (tn : Key → Int) (tr : Key → RowF)
/-- both terms of a saying are good -/
def SyOk (h : Nat) (s : Sy) : Prop := (Ok ns rs false s.one ∧ s.one.lev ≤ h ∧ MulOk tn tr s.one) ∧ (Ok ns rs false s.two ∧ s.two.lev ≤ h ∧ MulOk tn tr s.two)
def spIsSo (h g : Nat) : Sp := fun vs H Q _ => ∃ (me T : Addr) (v : V) (s : Sy), vs = [.ref me, v, .ref T] ∧ LookM H me C ∧ DR H v s.d ∧ SyOk ns rs tn tr h s ∧ s.dep ≤ g ∧ h ≤ 700 ∧ TabR H T ns rs tn tr ∧ ∀ H', Same H H' → Q (.bl (s.val tn tr)) H'
end
theorem scIsSo : FnScope ["self", "saying", "table", "word", "one", "other", "parts", "part"] ["self", "saying", "table"] (defScope (mth 32 9)) := ⟨rfl, rfl, rfl, by decide +kernel, rfl, by decide +kernel, by decide +kernel⟩
theorem bIsSo {K : PySem.W.Frag} {f : Addr} {fd : FuncData} (F : FnM K "is_so" "Look.is_so" 32 9 [] [] f fd) : BAll ["self", "saying", "table"] K fd := F.bindsN (fun _ _ _ _ _ _ us hl => match us, hl with | [_, _, _], _ => rfl)
section
variable {P : Program} {w : World} {K : PySem.W.Frag} {mg : Str → Option Value} {base : Heap} {C : Addr} {ns rs : List Key} {tn : Key → Int} {tr : Key → RowF}
theorem st_isSo (D : DfM K C "is_so" "Look.is_so" 32 9 [] []) (cl_ : Cls K C) (h g k : Nat) (hk : h + 3 ≤ k) (GR : Mv P w K mg base C (h + 3) "reckon" ["self", "term", "table", "known"] (spReckon C ns rs tn tr h) (BReckon K)) (GP : Gv P w K mg base 2 "parts_of" ["thing"] spParts)
    (IH : ∀ g', g = g' + 1 → Mv P w K mg base C k "is_so" ["self", "saying", "table"] (spIsSo C ns rs tn tr h g') (BAll ["self", "saying", "table"] K)) : Mv P w K mg base C (k + 1) "is_so" ["self", "saying", "table"] (spIsSo C ns rs tn tr h g) (BAll ["self", "saying", "table"] K) := by
  obtain ⟨spE, GE, hE⟩ : ∃ spE : Sp, Mv P w K mg base C k "is_so" ["self", "saying", "table"] spE (BAll ["self", "saying", "table"] K) ∧ ∀ g', g = g' + 1 → spE = spIsSo C ns rs tn tr h g' := by
    cases g with
    | zero => exact ⟨fun _ _ _ _ => False, Mv.never D (fun f fd F => bIsSo F) fun _ _ _ _ z => z, fun n' e => by omega⟩
    | succ g' => exact ⟨_, IH g' rfl, fun m e => by cases e; rfl⟩
  refine okM D scIsSo (fun f fd F => bIsSo F) (fun vs H Q E h => ?_) (fun f cdv A out s H vs Q E hr h => ?_)
  · obtain ⟨me, T, v, t, rfl, _⟩ := h
    rfl
  obtain ⟨me, T, v, sy, rfl, hme, hs, hok, hdep, h700, hT, kk⟩ := h
  have nd := scIsSo.nd
  have hr3 := hr.mono hk
  have hr2 := hr.mono (show 2 ≤ k by omega)
  have hu65 : (A.deeper (envOfC "Look.is_so" (defScope (mth 32 9)) s.heap.objs.size f cdv)).units + 65 < cLine := by
    have := hr.un
    omega
  refine ⟨_, pss_cons (ps_set (i := 3) nd rfl (Or.inl rfl) (pe_ix ix_tup (pv 1) pe_int (fun _ _ => rfl)))
    (pss_cons (ps_if (pt_cmpR op_eq (pv 3) pe_str (nomark _)) pss_never pss_nil)
    (pss_cons (ps_if (pt_cmpR op_in_seq (pv 3) (pe_tup (pa_cons pe_str (pa_cons pe_str pa_nil))) (by rfl))
      (pss_cons (ps_asg (pe_lc (own := [("part", 7)]) (g := gName 7) rfl nd (pi_list (pe_v (E := E0) GP hr2 rfl (pa_cons (pv 1) pa_nil))) (blkOk_by (own := [("part", 7)]) (N := ["self", "saying", "table", "word", "one", "other", "parts", "part"]) (sc := defScope (mth 32 9)) (by decide +kernel))
          (fun _ _ _ _ _ => pg_name (i := 7) nd rfl (Or.inl rfl)) (fun _ _ _ _ _ => pts_nil) (fun _ _ _ _ _ => pe_mv (E := E0) (dvs := [.non]) (pv 0) cl_ GR (fun fd b => b.2) hr3 (pa_cons (pv 7) (pa_cons (pv 2) pa_nil)))) (pg_unl rfl (pgs_cons (pg_name (i := 4) nd rfl (Or.inl rfl)) (pgs_cons (pg_name (i := 5) nd rfl (Or.inl rfl)) pgs_nil))))
      (pss_cons (ps_if (PW.pt (pw_or (pt_cmpR op_isN (pv 4) pe_non (nomark _)) (pw_or1 (pt_cmpR op_isN (pv 5) pe_non (nomark _))))) pss_never pss_nil)
      (pss_one (ps_ret (pe_ifExp (pt_cmpR op_eq (pv 3) pe_str (nomark _)) (pe_cmpR op_le (pv 4) (pv 5) (nomark _)) (pe_cmpR op_eq (pv 4) (pv 5) (nomark _))))))) pss_nil)
    (pss_cons (ps_setLc (i := 6) (own := [("part", 7)]) (g := gName 7) (tt := tYes) rfl nd rfl rfl (sw_true rfl rfl rfl (by decide +kernel)) (pi_list (pe_v (E := E0) GP hr2 rfl (pa_cons (pv 1) pa_nil))) (blkOk_by (own := [("part", 7)]) (N := ["self", "saying", "table", "word", "one", "other", "parts", "part"]) (sc := defScope (mth 32 9)) (by decide +kernel))
        (fun _ _ _ _ _ => pg_name (i := 7) nd rfl (Or.inl rfl)) (fun _ _ _ _ _ => pts_nil) (fun _ _ _ _ _ => pe_mv (E := E0) (dvs := []) (pv 0) cl_ GE (fun fd b => ⟨[], .nil, b⟩) hr (pa_cons (pv 7) (pa_cons (pv 2) pa_nil))))
    (pss_cons (ps_if (pt_cmpR (op_inD hu65) pe_non (pv 6) (by rfl)) (pss_one (ps_ret pe_non)) pss_nil)
    (pss_cons (ps_if (pt_cmpR op_eq (pv 3) pe_str (nomark _)) (pss_one (ps_ret (pe_not (pe_ix ix_list (pv 6) pe_int (fun _ _ => rfl))))) pss_nil)
    pss_never))))), ?_⟩
  have same : Same H H := fun _ _ e => e
  obtain ⟨dx, fs, hfs, hlk⟩ := id hme
  cases sy with
  | le ta tb =>
    obtain ⟨⟨o1, l1, m1⟩, o2, l2, m2⟩ : (Ok ns rs false ta ∧ ta.lev ≤ h ∧ MulOk tn tr ta) ∧ (Ok ns rs false tb ∧ tb.lev ≤ h ∧ MulOk tn tr tb) := hok
    obtain ⟨a, xs, rfl, ha, hx⟩ := DR.tup_inv hs
    obtain ⟨x0, r0, rfl, g0, hy⟩ := hx.cons_inv
    cases g0.str_inv
    obtain ⟨x1, r1, rfl, g1, hz⟩ := hy.cons_inv
    obtain ⟨x2, r2, rfl, g2, hw⟩ := hz.cons_inv
    cases hw
    refine ⟨_, rfl, a, _, _, _, rfl, rfl, SqT.of ha, rfl, _, rfl, rfl, _, rfl, iteF ?_⟩
    refine ⟨_, rfl, by show 2 ≤ sizeLine; decide, fun t1 n1 => ?_⟩
    have z1 := same_upd (o := .tup [V.str "le", .str "eq"]) n1
    refine ⟨t1, _, rfl, .inr (SqT.of upd_same), rfl, rfl, _, rfl, iteT ?_⟩
    refine ⟨_, rfl, a, ("le", "plain", "tt"), [x1, x2], rfl, by simp [formsTab], by decide, z1 _ _ ha, rfl, of_decide_eq_true rfl, of_decide_eq_true rfl, fun L1 H1 s1 nL1 hL1 => ?_⟩
    have hL1 : H1 L1 = some (.lst [x1, x2]) := hL1
    have s01 : Same H H1 := fun b o e => s1 _ _ (z1 _ _ e)
    refine ⟨L1, rfl, ⟨_, SqL.of hL1⟩, fun D4 d4 => ?_⟩
    have z4 := same_upd (o := .lst []) d4
    have nD : H D4 = none := by
      cases e : H D4 with
      | none => rfl
      | some o =>
        rw [s01 _ _ e] at d4
        cases d4
    have LD : L1 ≠ D4 := ne_of_none hL1 d4
    refine lc_list (K := K) (a := L1) (xs := [x1, x2]) (fun i H' => H' L1 = some (.lst [x1, x2]) ∧ Same H H' ∧ H' D4 = some (.lst ([V.int (tv tn tr ta).1, .int (tv tn tr tb).1].take i))) ⟨z4 _ _ hL1, fun b o e => z4 _ _ (s01 _ _ e), upd_same⟩ (fun i H' hi h => SqL.of h.1) (fun i x H' hx h => ?_) (fun H' h => ?_)
    · obtain ⟨hL', s', hD⟩ := h
      obtain ⟨t, c1, c2, c3, c4, c5, c6⟩ : ∃ t, TR H x t ∧ Ok ns rs false t ∧ t.lev ≤ h ∧ MulOk tn tr t ∧ [V.int (tv tn tr ta).1, .int (tv tn tr tb).1].take (i + 1) = [V.int (tv tn tr ta).1, .int (tv tn tr tb).1].take i ++ [.int (tv tn tr t).1] ∧ i < 2 := by
        match i, hx with
        | 0, hx =>
          cases hx
          exact ⟨ta, g1, o1, l1, m1, rfl, by decide⟩
        | 1, hx =>
          cases hx
          exact ⟨tb, g2, o2, l2, m2, rfl, by decide⟩
        | _ + 2, hx => simp at hx
      refine ⟨rfl, _, rfl, me, dx, fs, rfl, s' _ _ hfs, hlk _ (by simp), _, rfl, _, rfl, me, T, x, t, false, rfl, hme.same s', c1.kt (.of s'), c2, c3, h700, c4, hT.keep (.of s'), fun u H2 s2 hu2 => ?_⟩
      obtain rfl := hu2.1 rfl
      have hD2 := s2 _ _ hD
      refine ⟨_, hD2, small1000 (by rw [List.length_take]; simp only [List.length_cons, List.length_nil]; omega), ?_, fun b o e => ?_, ?_⟩
      · rw [upd_ne LD]
        exact s2 _ _ hL'
      · rw [upd_ne (ne_of_none e nD)]
        exact s2 _ _ (s' _ _ e)
      · rw [upd_same, c5]
    · obtain ⟨hL', s', hD⟩ := h
      have hD : H' D4 = some (.lst [V.int (tv tn tr ta).1, .int (tv tn tr tb).1]) := hD
      refine ⟨D4, _, rfl, SqL.of hD, rfl, ?_⟩
      refine ⟨_, _, rfl, _, _, rfl, rfl, ?_⟩
      refine ⟨_, rfl, rfl, _, rfl, iteF ?_⟩
      refine ⟨_, rfl, rfl, _, rfl, iteF ?_⟩
      exact ⟨_, rfl, rfl, _, rfl, iteT ⟨_, rfl, _, rfl, _, _, rfl, rfl, kk _ s'⟩⟩
  | eq ta tb =>
    obtain ⟨⟨o1, l1, m1⟩, o2, l2, m2⟩ : (Ok ns rs false ta ∧ ta.lev ≤ h ∧ MulOk tn tr ta) ∧ (Ok ns rs false tb ∧ tb.lev ≤ h ∧ MulOk tn tr tb) := hok
    obtain ⟨a, xs, rfl, ha, hx⟩ := DR.tup_inv hs
    obtain ⟨x0, r0, rfl, g0, hy⟩ := hx.cons_inv
    cases g0.str_inv
    obtain ⟨x1, r1, rfl, g1, hz⟩ := hy.cons_inv
    obtain ⟨x2, r2, rfl, g2, hw⟩ := hz.cons_inv
    cases hw
    refine ⟨_, rfl, a, _, _, _, rfl, rfl, SqT.of ha, rfl, _, rfl, rfl, _, rfl, iteF ?_⟩
    refine ⟨_, rfl, by show 2 ≤ sizeLine; decide, fun t1 n1 => ?_⟩
    have z1 := same_upd (o := .tup [V.str "le", .str "eq"]) n1
    refine ⟨t1, _, rfl, .inr (SqT.of upd_same), rfl, rfl, _, rfl, iteT ?_⟩
    refine ⟨_, rfl, a, ("eq", "plain", "tt"), [x1, x2], rfl, by simp [formsTab], by decide, z1 _ _ ha, rfl, of_decide_eq_true rfl, of_decide_eq_true rfl, fun L1 H1 s1 nL1 hL1 => ?_⟩
    have hL1 : H1 L1 = some (.lst [x1, x2]) := hL1
    have s01 : Same H H1 := fun b o e => s1 _ _ (z1 _ _ e)
    refine ⟨L1, rfl, ⟨_, SqL.of hL1⟩, fun D4 d4 => ?_⟩
    have z4 := same_upd (o := .lst []) d4
    have nD : H D4 = none := by
      cases e : H D4 with
      | none => rfl
      | some o =>
        rw [s01 _ _ e] at d4
        cases d4
    have LD : L1 ≠ D4 := ne_of_none hL1 d4
    refine lc_list (K := K) (a := L1) (xs := [x1, x2]) (fun i H' => H' L1 = some (.lst [x1, x2]) ∧ Same H H' ∧ H' D4 = some (.lst ([V.int (tv tn tr ta).1, .int (tv tn tr tb).1].take i))) ⟨z4 _ _ hL1, fun b o e => z4 _ _ (s01 _ _ e), upd_same⟩ (fun i H' hi h => SqL.of h.1) (fun i x H' hx h => ?_) (fun H' h => ?_)
    · obtain ⟨hL', s', hD⟩ := h
      obtain ⟨t, c1, c2, c3, c4, c5, c6⟩ : ∃ t, TR H x t ∧ Ok ns rs false t ∧ t.lev ≤ h ∧ MulOk tn tr t ∧ [V.int (tv tn tr ta).1, .int (tv tn tr tb).1].take (i + 1) = [V.int (tv tn tr ta).1, .int (tv tn tr tb).1].take i ++ [.int (tv tn tr t).1] ∧ i < 2 := by
        match i, hx with
        | 0, hx =>
          cases hx
          exact ⟨ta, g1, o1, l1, m1, rfl, by decide⟩
        | 1, hx =>
          cases hx
          exact ⟨tb, g2, o2, l2, m2, rfl, by decide⟩
        | _ + 2, hx => simp at hx
      refine ⟨rfl, _, rfl, me, dx, fs, rfl, s' _ _ hfs, hlk _ (by simp), _, rfl, _, rfl, me, T, x, t, false, rfl, hme.same s', c1.kt (.of s'), c2, c3, h700, c4, hT.keep (.of s'), fun u H2 s2 hu2 => ?_⟩
      obtain rfl := hu2.1 rfl
      have hD2 := s2 _ _ hD
      refine ⟨_, hD2, small1000 (by rw [List.length_take]; simp only [List.length_cons, List.length_nil]; omega), ?_, fun b o e => ?_, ?_⟩
      · rw [upd_ne LD]
        exact s2 _ _ hL'
      · rw [upd_ne (ne_of_none e nD)]
        exact s2 _ _ (s' _ _ e)
      · rw [upd_same, c5]
    · obtain ⟨hL', s', hD⟩ := h
      have hD : H' D4 = some (.lst [V.int (tv tn tr ta).1, .int (tv tn tr tb).1]) := hD
      refine ⟨D4, _, rfl, SqL.of hD, rfl, ?_⟩
      refine ⟨_, _, rfl, _, _, rfl, rfl, ?_⟩
      refine ⟨_, rfl, rfl, _, rfl, iteF ?_⟩
      refine ⟨_, rfl, rfl, _, rfl, iteF ?_⟩
      refine ⟨_, rfl, rfl, _, rfl, iteF ⟨_, rfl, _, rfl, rfl, ?_⟩⟩
      have ev : decide (V.int (tv tn tr ta).1 = V.int (tv tn tr tb).1) = Sy.val tn tr (.eq ta tb) := by
        show _ = decide ((tv tn tr ta).1 = (tv tn tr tb).1)
        by_cases z : (tv tn tr ta).1 = (tv tn tr tb).1
        · rw [decide_eq_true z, decide_eq_true (congrArg V.int z)]
        · rw [decide_eq_false z, decide_eq_false (fun y => z (by injection y))]
      show Q (.bl (decide (V.int (tv tn tr ta).1 = V.int (tv tn tr tb).1))) H'
      rw [ev]
      exact kk _ s'
  | nle ta tb =>
    obtain ⟨g', rfl⟩ : ∃ g', g = g' + 1 := ⟨g - 1, by have : 1 ≤ g := hdep; omega⟩
    obtain rfl := hE g' rfl
    obtain ⟨a, xs, rfl, ha, hx⟩ := DR.tup_inv hs
    obtain ⟨x0, r0, rfl, g0, hy⟩ := hx.cons_inv
    cases g0.str_inv
    obtain ⟨x1, r1, rfl, g1, hz⟩ := hy.cons_inv
    cases hz
    refine ⟨_, rfl, a, _, _, _, rfl, rfl, SqT.of ha, rfl, _, rfl, rfl, _, rfl, iteF ?_⟩
    refine ⟨_, rfl, by show 2 ≤ sizeLine; decide, fun t1 n1 => ?_⟩
    have z1 := same_upd (o := .tup [V.str "le", .str "eq"]) n1
    refine ⟨t1, _, rfl, .inr (SqT.of upd_same), rfl, rfl, _, rfl, iteF ?_⟩
    refine ⟨_, rfl, a, ("not", "plain", "p"), [x1], rfl, by simp [formsTab], by decide, z1 _ _ ha, rfl, of_decide_eq_true rfl, of_decide_eq_true rfl, fun L1 H1 s1 nL1 hL1 => ?_⟩
    have hL1 : H1 L1 = some (.lst [x1]) := hL1
    have s01 : Same H H1 := fun b o e => s1 _ _ (z1 _ _ e)
    refine ⟨L1, rfl, ⟨_, SqL.of hL1⟩, fun D4 d4 => ?_⟩
    have z4 := same_upd (o := .lst []) d4
    have nD : H D4 = none := by
      cases e : H D4 with
      | none => rfl
      | some o =>
        rw [s01 _ _ e] at d4
        cases d4
    have LD : L1 ≠ D4 := ne_of_none hL1 d4
    refine lc_list (K := K) (a := L1) (xs := [x1]) (fun i H' => H' L1 = some (.lst [x1]) ∧ Same H H' ∧ H' D4 = some (.lst ([V.bl (Sy.val tn tr (.le ta tb))].take i))) ⟨z4 _ _ hL1, fun b o e => z4 _ _ (s01 _ _ e), upd_same⟩ (fun i H' hi h => SqL.of h.1) (fun i x H' hx h => ?_) (fun H' h => ?_)
    · obtain ⟨hL', s', hD⟩ := h
      match i, hx with
      | 0, hx =>
        cases hx
        refine ⟨rfl, _, rfl, me, dx, fs, rfl, s' _ _ hfs, hlk _ (by simp), _, rfl, _, rfl, me, T, x1, .le ta tb, rfl, hme.same s', g1.kt (.of s'), hok, Nat.zero_le _, h700, hT.keep (.of s'), fun H2 s2 => ?_⟩
        have hD2 := s2 _ _ hD
        refine ⟨_, hD2, small1000 (of_decide_eq_true rfl), ?_, fun b o e => ?_, ?_⟩
        · rw [upd_ne LD]
          exact s2 _ _ hL'
        · rw [upd_ne (ne_of_none e nD)]
          exact s2 _ _ (s' _ _ e)
        · rw [upd_same]
          rfl
      | _ + 1, hx => simp at hx
    · obtain ⟨hL', s', hD⟩ := h
      have hD : H' D4 = some (.lst [V.bl (Sy.val tn tr (.le ta tb))]) := hD
      refine ⟨_, rfl, .none, [.bool (Sy.val tn tr (.le ta tb))], .non, .lst (SqL.of hD) (.cons (.bl _) .nil), rfl, ?_, _, rfl, ite2 (fun c => absurd c (by simp [PyData.eqv])) (fun _ => ?_)⟩
      · rfl
      refine ⟨_, rfl, rfl, _, rfl, iteT ?_⟩
      exact ⟨_, rfl, D4, _, _, _, rfl, rfl, SqL.of hD, rfl, _, rfl, kk _ s'⟩
theorem ok_isSo (D : DfM K C "is_so" "Look.is_so" 32 9 [] []) (cl_ : Cls K C) (h : Nat) (GR : Mv P w K mg base C (h + 3) "reckon" ["self", "term", "table", "known"] (spReckon C ns rs tn tr h) (BReckon K)) (GP : Gv P w K mg base 2 "parts_of" ["thing"] spParts) :
    Mv P w K mg base C (h + 5) "is_so" ["self", "saying", "table"] (spIsSo C ns rs tn tr h 1) (BAll ["self", "saying", "table"] K) :=
  st_isSo D cl_ h 1 (h + 4) (by omega) GR GP fun g' e => by
    have : g' = 0 := by omega
    subst this
    exact st_isSo D cl_ h 0 (h + 3) (by omega) GR GP fun g' e => by omega
def spTruthOf (ns rs : List Key) (tn : Key → Int) (tr : Key → RowF) (h : Nat) : Sp := fun vs H Q _ => ∃ (T d : Addr) (v : V) (s : Sy), vs = [v, .ref T, .ref d] ∧ H d = some (.dK []) ∧ DR H v s.d ∧ SyOk ns rs tn tr h s ∧ h ≤ 700 ∧ TabR H T ns rs tn tr ∧ ∀ H', Same H H' → Q (.bl (s.val tn tr)) H'
def spLooked (ns rs : List Key) (tn : Key → Int) (tr : Key → RowF) (h : Nat) : Sp := fun vs H Q _ => ∃ (T d : Addr) (v : V) (s : Sy), vs = [v, .ref T, .ref d] ∧ H d = some (.dK []) ∧ DR H v s.d ∧ SyOk ns rs tn tr h s ∧ h ≤ 700 ∧ TabR H T ns rs tn tr ∧ ∀ r H', Same H H' → H' r = some (.tup [.bl (s.val tn tr), .int 0]) → Q (.ref r) H'
theorem scLooked : FnScope ["saying", "table", "notions", "look", "found"] ["saying", "table", "notions"] (defScope (top 34)) := ⟨rfl, rfl, rfl, by decide +kernel, rfl, by decide +kernel, by decide +kernel⟩
theorem scTruthOf : FnScope ["saying", "table", "notions"] ["saying", "table", "notions"] (defScope (top 35)) := ⟨rfl, rfl, rfl, by decide +kernel, rfl, by decide +kernel, by decide +kernel⟩
theorem ok_looked {h : Nat} (D : Df K mg "looked" 34) (L : LookK K mg C) (GF : Gv P w K mg base 1 "firm" ["notions"] spFirm) (GI : Mv P w K mg base C (h + 5) "is_so" ["self", "saying", "table"] (spIsSo C ns rs tn tr h 1) (BAll ["self", "saying", "table"] K)) (mM : ∃ o, mg "MOST_LOOK" = some (.int 400 o)) :
    Gv P w K mg base (h + 6) "looked" ["saying", "table", "notions"] (spLooked ns rs tn tr h) := by
  refine okV D scLooked (fun _ _ _ _ _ _ us hl => match us, hl with | [_, _, _], _ => rfl) (fun vs H Q E h => ?_) (fun f cdv A out s H vs Q E hr h => ?_)
  · obtain ⟨T, d, v, t, rfl, _⟩ := h
    rfl
  obtain ⟨T, d, v, sy, rfl, hd, ht, hok, h700, hT, kk⟩ := h
  have nd := scLooked.nd
  obtain ⟨o4, mM⟩ := mM
  obtain ⟨fi, fdi, FI, MI, BI⟩ := ok_look0 (P := P) (w := w) (base := base) L GF
  refine ⟨_, pss_cons (ps_set (i := 3) nd rfl (Or.inl rfl) (pe_make (E := E0) MI FI (hr.mono (by omega)) rfl L.nm BI .nil pass0 (pa_cons (pv 2) pa_nil)))
    (pss_cons (ps_set (i := 4) nd rfl (Or.inl rfl) (pe_mv (E := E0) (dvs := []) (pv 3) L.cls GI (fun fd b => ⟨[], .nil, b⟩) hr (pa_cons (pv 0) (pa_cons (pv 1) pa_nil))))
    (pss_one (ps_ret (pe_tup (pa_cons (pe_ifExp (pt_cmpR op_le (pe_fld (pv 3) rfl) (pe_glob (v := .int 400) rfl mM ⟨o4, rfl⟩) (by rfl)) (pv 4) pe_non) (pa_cons (pe_fld (pv 3) rfl) pa_nil)))))), ?_⟩
  refine ⟨_, rfl, fun me dx nm nx ndm => ?_⟩
  have hdm : d ≠ me := ne_of_none hd nm
  have hddx : d ≠ dx := ne_of_none hd nx
  refine ⟨me, d, dx, rfl, upd_same, hdm, by rw [upd_ne hdm, upd_ne hddx]; exact hd, fun L0 H1 h1 h2 => ⟨rfl, ?_⟩⟩
  have s1 : Same H H1 := keepsNew (C := C) nm nx h2
  refine ⟨_, rfl, me, dx, _, rfl, h1, rfl, _, rfl, _, rfl, me, T, v, sy, rfl, lookM h1, ht.kt (.of s1), hok, by cases sy <;> exact of_decide_eq_true rfl, h700, hT.keep (.of s1), fun H2 s2 => ?_⟩
  refine ⟨_, rfl, me, C, dx, _, _, rfl, s2 _ _ h1, L.cls, L.no _ (by simp), rfl, ?_⟩
  refine ⟨_, _, rfl, rfl, _, rfl, iteT ?_⟩
  refine ⟨_, rfl, _, rfl, me, C, dx, _, _, rfl, s2 _ _ h1, L.cls, L.no _ (by simp), rfl, by show 2 ≤ sizeLine; decide, fun r nr => ?_⟩
  exact kk r _ (fun b o e => same_upd nr _ _ (s2 _ _ (s1 _ _ e))) upd_same
theorem ok_truthof {h : Nat} (D : Df K mg "truth_of" 35) (G : Gv P w K mg base (h + 6) "looked" ["saying", "table", "notions"] (spLooked ns rs tn tr h)) : Gv P w K mg base (h + 7) "truth_of" ["saying", "table", "notions"] (spTruthOf ns rs tn tr h) := by
  refine okV D scTruthOf (fun _ _ _ _ _ _ us hl => match us, hl with | [_, _, _], _ => rfl) (fun vs H Q E h => ?_) (fun f cdv A out s H vs Q E hr h => ?_)
  · obtain ⟨T, d, v, t, rfl, _⟩ := h
    rfl
  obtain ⟨T, d, v, sy, rfl, hd, ht, hok, h700, hT, kk⟩ := h
  have nd := scTruthOf.nd
  refine ⟨_, pss_one (ps_ret (pe_ix ix_tup (pe_v (E := E0) G hr rfl (pa_cons (pv 0) (pa_cons (pv 1) (pa_cons (pv 2) pa_nil)))) pe_int (fun _ _ => rfl))), ?_⟩
  refine ⟨_, rfl, _, rfl, _, rfl, T, d, v, sy, rfl, hd, ht, hok, h700, hT, fun r H1 s1 hr1 => ?_⟩
  exact ⟨r, _, _, _, rfl, rfl, SqT.of hr1, rfl, kk _ s1⟩
end
end Lw
/-! Part K3: put_in. -/
namespace Lw
open PySem PySem.Spec L2 L2.DX PyProof.Rows
theorem pp1 {R : Nat → PyData → PyData → Prop} {x : Str} {c0 : Nat} {d0 e0 : PyData} (hx : x.cps = #[c0]) (h0 : R c0 d0 e0) (i c : Nat) (d e : PyData) (hc : x.cps[i]? = some c) (hd : [d0][i]? = some d) (he : [e0][i]? = some e) : R c d e := by
  rw [hx] at hc
  match i with
  | 0 => cases hc; cases hd; cases he; exact h0
  | _ + 1 => simp at hd
theorem pp2 {R : Nat → PyData → PyData → Prop} {x : Str} {c0 c1 : Nat} {d0 e0 d1 e1 : PyData} (hx : x.cps = #[c0, c1]) (h0 : R c0 d0 e0) (h1 : R c1 d1 e1) (i c : Nat) (d e : PyData) (hc : x.cps[i]? = some c) (hd : [d0, d1][i]? = some d) (he : [e0, e1][i]? = some e) : R c d e := by
  rw [hx] at hc
  match i with
  | 0 => cases hc; cases hd; cases he; exact h0
  | 1 => cases hc; cases hd; cases he; exact h1
  | _ + 2 => simp at hd
theorem pp3 {R : Nat → PyData → PyData → Prop} {x : Str} {c0 c1 c2 : Nat} {d0 e0 d1 e1 d2 e2 : PyData} (hx : x.cps = #[c0, c1, c2]) (h0 : R c0 d0 e0) (h1 : R c1 d1 e1) (h2 : R c2 d2 e2) (i c : Nat) (d e : PyData) (hc : x.cps[i]? = some c) (hd : [d0, d1, d2][i]? = some d) (he : [e0, e1, e2][i]? = some e) : R c d e := by
  rw [hx] at hc
  match i with
  | 0 => cases hc; cases hd; cases he; exact h0
  | 1 => cases hc; cases hd; cases he; exact h1
  | 2 => cases hc; cases hd; cases he; exact h2
  | _ + 3 => simp at hd
/-- what put_in does with a part -/
def PutP (l : Key) (s t : Tm) (c : Nat) (d e : PyData) : Prop := ((c = 116 ∨ c = 114 ∨ c = 112) ∧ ∃ u : Tm, d = u.d ∧ e = (Tm.put l s u).d ∧ u.lev < t.lev) ∨ (¬ (c = 116 ∨ c = 114 ∨ c = 112) ∧ e = d ∧ ∃ n : Int, d = .int n)
theorem put_parts (l : Key) (s : Tm) (t : Tm) (h1 : ∀ m, t ≠ .name m) (h2 : ∀ m, t ≠ .row m) : ∃ (q : Str × Str × Str) (dl el : List PyData), q ∈ formsTab ∧ q.1 ≠ "name" ∧ q.1 ≠ "row" ∧ q.1 ≠ "notion" ∧ q.1 ≠ "all" ∧ t.d = .tuple (.str q.1 :: dl) ∧ (Tm.put l s t).d = .tuple (.str q.1 :: el) ∧ dl.length = el.length ∧ dl.length = q.2.2.cps.size ∧ dl.length ≤ 3 ∧
    ∀ (i : Nat) (c : Nat) (d e : PyData), q.2.2.cps[i]? = some c → dl[i]? = some d → el[i]? = some e → PutP l s t c d e := by
  cases t with
  | name m => exact absurd rfl (h1 m)
  | row m => exact absurd rfl (h2 m)
  | num n => exact ⟨("num", "term", "n"), [.int n], [.int n], by simp [formsTab], by decide, by decide, by decide, by decide, rfl, rfl, rfl, rfl, of_decide_eq_true rfl, pp1 (R := PutP l s _) (x := "n") (c0 := 110) (by decide +kernel) (.inr ⟨by decide, rfl, _, rfl⟩)⟩
  | add t u => exact ⟨("add", "term", "tt"), [t.d, u.d], [(Tm.put l s t).d, (Tm.put l s u).d], by simp [formsTab], by decide, by decide, by decide, by decide, rfl, rfl, rfl, rfl, of_decide_eq_true rfl, pp2 (R := PutP l s _) (x := "tt") (c0 := 116) (c1 := 116) (by decide +kernel) (.inl ⟨by decide, t, rfl, rfl, by simp only [Tm.lev]; omega⟩) (.inl ⟨by decide, u, rfl, rfl, by simp only [Tm.lev]; omega⟩)⟩
  | mul n t => exact ⟨("mul", "term", "nt"), [.int n, t.d], [.int n, (Tm.put l s t).d], by simp [formsTab], by decide, by decide, by decide, by decide, rfl, rfl, rfl, rfl, of_decide_eq_true rfl, pp2 (R := PutP l s _) (x := "nt") (c0 := 110) (c1 := 116) (by decide +kernel) (.inr ⟨by decide, rfl, _, rfl⟩) (.inl ⟨by decide, t, rfl, rfl, by simp only [Tm.lev]; omega⟩)⟩
  | read r t => exact ⟨("read", "term", "rt"), [r.d, t.d], [(Tm.put l s r).d, (Tm.put l s t).d], by simp [formsTab], by decide, by decide, by decide, by decide, rfl, rfl, rfl, rfl, of_decide_eq_true rfl, pp2 (R := PutP l s _) (x := "rt") (c0 := 114) (c1 := 116) (by decide +kernel) (.inl ⟨by decide, r, rfl, rfl, by simp only [Tm.lev]; omega⟩) (.inl ⟨by decide, t, rfl, rfl, by simp only [Tm.lev]; omega⟩)⟩
  | size r => exact ⟨("size", "term", "r"), [r.d], [(Tm.put l s r).d], by simp [formsTab], by decide, by decide, by decide, by decide, rfl, rfl, rfl, rfl, of_decide_eq_true rfl, pp1 (R := PutP l s _) (x := "r") (c0 := 114) (by decide +kernel) (.inl ⟨by decide, r, rfl, rfl, by simp only [Tm.lev]; omega⟩)⟩
  | div t k => exact ⟨("div", "term", "tk"), [t.d, .int k], [(Tm.put l s t).d, .int k], by simp [formsTab], by decide, by decide, by decide, by decide, rfl, rfl, rfl, rfl, of_decide_eq_true rfl, pp2 (R := PutP l s _) (x := "tk") (c0 := 116) (c1 := 107) (by decide +kernel) (.inl ⟨by decide, t, rfl, rfl, by simp only [Tm.lev]; omega⟩) (.inr ⟨by decide, rfl, _, rfl⟩)⟩
  | mod t k => exact ⟨("mod", "term", "tk"), [t.d, .int k], [(Tm.put l s t).d, .int k], by simp [formsTab], by decide, by decide, by decide, by decide, rfl, rfl, rfl, rfl, of_decide_eq_true rfl, pp2 (R := PutP l s _) (x := "tk") (c0 := 116) (c1 := 107) (by decide +kernel) (.inl ⟨by decide, t, rfl, rfl, by simp only [Tm.lev]; omega⟩) (.inr ⟨by decide, rfl, _, rfl⟩)⟩
  | wth r t u => exact ⟨("with", "row", "rtt"), [r.d, t.d, u.d], [(Tm.put l s r).d, (Tm.put l s t).d, (Tm.put l s u).d], by simp [formsTab], by decide, by decide, by decide, by decide, rfl, rfl, rfl, rfl, of_decide_eq_true rfl, pp3 (R := PutP l s _) (x := "rtt") (c0 := 114) (c1 := 116) (c2 := 116) (by decide +kernel) (.inl ⟨by decide, r, rfl, rfl, by simp only [Tm.lev]; omega⟩) (.inl ⟨by decide, t, rfl, rfl, by simp only [Tm.lev]; omega⟩) (.inl ⟨by decide, u, rfl, rfl, by simp only [Tm.lev]; omega⟩)⟩
  | room t => exact ⟨("room", "row", "t"), [t.d], [(Tm.put l s t).d], by simp [formsTab], by decide, by decide, by decide, by decide, rfl, rfl, rfl, rfl, of_decide_eq_true rfl, pp1 (R := PutP l s _) (x := "t") (c0 := 116) (by decide +kernel) (.inl ⟨by decide, t, rfl, rfl, by simp only [Tm.lev]; omega⟩)⟩
def spPut (l : Key) (s : Tm) (h : Nat) : Sp := fun vs H Q _ => ∃ (B : Addr) (v sv : V) (t : Tm), vs = [v, .ref B] ∧ H B = some (.dK [(l, sv)]) ∧ TR H sv s ∧ TR H v t ∧ t.lev ≤ h ∧ ∀ v' H', Same H H' → TR H' v' (Tm.put l s t) → Q v' H'
theorem scPut : FnScope ["thing", "by", "part", "within", "found", "kind"] ["thing", "by"] (defScope (top 20)) := ⟨rfl, rfl, rfl, by decide +kernel, rfl, by decide +kernel, by decide +kernel⟩
section
variable {P : Program} {w : World} {K : PySem.W.Frag} {mg : Str → Option Value} {base : Heap} {l : Key} {s : Tm}
theorem st_put (D : Df K mg "put_in" 20) (mz : mg "zip" = none) (GK : Gv P w K mg base 1 "kinds_of" ["word"] spKinds) (h k : Nat) (hk : 1 ≤ k)
    (IH : ∀ h', h = h' + 1 → Gv P w K mg base k "put_in" ["thing", "by"] (spPut l s h')) : Gv P w K mg base (k + 1) "put_in" ["thing", "by"] (spPut l s h) := by
  have bT : BindT "put_in" 20 ["thing", "by"] := fun _ _ _ _ _ _ us hl => match us, hl with | [_, _], _ => rfl
  obtain ⟨spE, GE, hE⟩ : ∃ spE : Sp, Gv P w K mg base k "put_in" ["thing", "by"] spE ∧ ∀ h', h = h' + 1 → spE = spPut l s h' := by
    cases h with
    | zero => exact ⟨fun _ _ _ _ => False, Gv.never D bT fun _ _ _ _ z => z, fun n' e => by omega⟩
    | succ h' => exact ⟨_, IH h' rfl, fun m e => by cases e; rfl⟩
  refine okV D scPut bT (fun vs H Q E h => ?_) (fun f cdv A out sh H vs Q E hr h => ?_)
  · obtain ⟨B, v, sv, t, rfl, _⟩ := h
    rfl
  obtain ⟨B, v, sv, t, rfl, hB, hs, ht, hlev, kk⟩ := h
  have nd := scPut.nd
  have hr1 := hr.mono hk
  refine ⟨_, pss_cons (ps_if (pt_cmpR op_in_seq (pe_ix ix_tup (pv 0) pe_int (fun _ _ => rfl)) (pe_tup (pa_cons pe_str (pa_cons pe_str pa_nil))) (by rfl))
      (pss_one (ps_ret (pe_dget2 (hu_of hr) (pv 1) (pe_ix ix_tup (pv 0) pe_int (fun _ _ => rfl)) (pv 0) ⟨rfl, rfl, rfl, rfl⟩))) pss_nil)
    (pss_cons (ps_if (pt_cmpR op_eq (pe_ix ix_tup (pv 0) pe_int (fun _ _ => rfl)) pe_str (nomark _)) pss_never pss_nil)
    (pss_cons (ps_if (pt_cmpR op_eq (pe_ix ix_tup (pv 0) pe_int (fun _ _ => rfl)) pe_str (nomark _)) pss_never pss_nil)
    (pss_cons (ps_set (i := 4) nd rfl (Or.inl rfl) (pe_tup (pa_cons (pe_ix ix_tup (pv 0) pe_int (fun _ _ => rfl)) pa_nil)))
    (pss_cons (ps_for PassesOwn.never rfl (pi_zipS rfl mz (pa_cons (pe_v (E := E0) GK hr1 rfl (pa_cons (pe_ix ix_tup (pv 0) pe_int (fun _ _ => rfl)) pa_nil)) (pa_cons (pe_slice sl_tupA (pv 0) (po_some pe_int) po_none) pa_nil))) (pg_tup rfl (pgs_cons (pg_name (i := 5) nd rfl (Or.inl rfl)) (pgs_cons (pg_name (i := 2) nd rfl (Or.inl rfl)) pgs_nil)))
      (pss_one (ps_aug (i := 4) nd rfl (Or.inl rfl) (pe_tup (pa_cons (pe_ifExp (pt_cmpR op_in_sign (pv 5) pe_str (by rfl)) (pe_v (E := E0) GE hr rfl (pa_cons (pv 2) (pa_cons (pv 1) pa_nil))) (pv 2)) pa_nil)) ip_catT)))
    (pss_one (ps_ret (pv 4))))))), ?_⟩
  have same : Same H H := fun _ _ e => e
  have two : ∀ {us : List V} {p q : PyData}, DRs H us [p, q] → ∃ x y, us = [x, y] ∧ DR H x p ∧ DR H y q := fun h => by
    obtain ⟨x, r, rfl, g, h⟩ := h.cons_inv
    obtain ⟨y, r, rfl, g2, h⟩ := h.cons_inv
    cases h
    exact ⟨x, y, rfl, g, g2⟩
  by_cases hNname : ∃ m, t = .name m
  · obtain ⟨m, rfl⟩ := hNname
    obtain ⟨a, ys, rfl, ha, hx⟩ := DR.tup_inv ht
    obtain ⟨x, y, rfl, g1, g2⟩ := two hx
    cases g1.str_inv
    cases g2.key
    refine ⟨_, rfl, a, _, _, _, rfl, rfl, SqT.of ha, atI_head _ _, by show 2 ≤ sizeLine; decide, fun t1 n1 => ?_⟩
    have z1 := same_upd (o := .tup [V.str "name", .str "row"]) n1
    refine ⟨t1, _, rfl, .inr (SqT.of upd_same), rfl, rfl, _, rfl, iteT ?_⟩
    refine ⟨_, rfl, B, rfl, .inl ⟨_, .inl (z1 _ _ hB)⟩, _, rfl, a, _, _, _, rfl, rfl, SqT.of (z1 _ _ ha), rfl, _, rfl, _, DGet.k (k := m) (z1 _ _ hB), ?_⟩
    refine kk _ _ z1 ?_
    show TR _ _ (if m = l then s else .name m)
    by_cases z : m = l
    · subst z
      rw [if_pos rfl]
      have e : (valV [(m, sv)] m).getD (.ref a) = sv := by simp [valV, List.find?]
      rw [e]
      exact hs.kt (.of z1)
    · rw [if_neg z]
      have e : (valV [(l, sv)] m).getD (.ref a) = .ref a := by simp [valV, List.find?, Ne.symm z]
      rw [e]
      exact ht.kt (.of z1)
  by_cases hNrow : ∃ m, t = .row m
  · obtain ⟨m, rfl⟩ := hNrow
    obtain ⟨a, ys, rfl, ha, hx⟩ := DR.tup_inv ht
    obtain ⟨x, y, rfl, g1, g2⟩ := two hx
    cases g1.str_inv
    cases g2.key
    refine ⟨_, rfl, a, _, _, _, rfl, rfl, SqT.of ha, atI_head _ _, by show 2 ≤ sizeLine; decide, fun t1 n1 => ?_⟩
    have z1 := same_upd (o := .tup [V.str "name", .str "row"]) n1
    refine ⟨t1, _, rfl, .inr (SqT.of upd_same), rfl, rfl, _, rfl, iteT ?_⟩
    refine ⟨_, rfl, B, rfl, .inl ⟨_, .inl (z1 _ _ hB)⟩, _, rfl, a, _, _, _, rfl, rfl, SqT.of (z1 _ _ ha), rfl, _, rfl, _, DGet.k (k := m) (z1 _ _ hB), ?_⟩
    refine kk _ _ z1 ?_
    show TR _ _ (if m = l then s else .row m)
    by_cases z : m = l
    · subst z
      rw [if_pos rfl]
      have e : (valV [(m, sv)] m).getD (.ref a) = sv := by simp [valV, List.find?]
      rw [e]
      exact hs.kt (.of z1)
    · rw [if_neg z]
      have e : (valV [(l, sv)] m).getD (.ref a) = .ref a := by simp [valV, List.find?, Ne.symm z]
      rw [e]
      exact ht.kt (.of z1)
  obtain ⟨⟨wd, so, ki⟩, dl, el, hq, c1, c2, c3, c4, hd, he, hl, hlk, hl3, hp⟩ := put_parts l s t (fun m e => hNname ⟨m, e⟩) (fun m e => hNrow ⟨m, e⟩)
  have c1 : wd ≠ Str.ofString "name" := c1
  have c2 : wd ≠ Str.ofString "row" := c2
  have c3 : wd ≠ Str.ofString "notion" := c3
  have c4 : wd ≠ Str.ofString "all" := c4
  have hd : t.d = .tuple (.str wd :: dl) := hd
  have he : (Tm.put l s t).d = .tuple (.str wd :: el) := he
  have hlk : dl.length = ki.cps.size := hlk
  unfold TR at ht
  rw [hd] at ht
  obtain ⟨a, ys, rfl, ha, hx⟩ := DR.tup_inv ht
  obtain ⟨x0, xs, rfl, g0, hxs⟩ := hx.cons_inv
  cases g0.str_inv
  have hxl : xs.length = dl.length := hxs.length
  refine ⟨_, rfl, a, _, _, _, rfl, rfl, SqT.of ha, atI_head _ _, by show 2 ≤ sizeLine; decide, fun t1 n1 => ?_⟩
  have z1 := same_upd (o := .tup [V.str "name", .str "row"]) n1
  have nw2 : inV (V.str wd) [V.str (Str.ofString "name"), V.str (Str.ofString "row")] = false := nomem2 c1 c2
  refine ⟨t1, _, rfl, .inr (SqT.of upd_same), rfl, rfl, _, rfl, ite2 (fun c => absurd (show inV (V.str wd) [V.str (Str.ofString "name"), V.str (Str.ofString "row")] = true from c) (by rw [nw2]; decide)) (fun _ => ?_)⟩
  refine ⟨_, rfl, a, _, _, _, rfl, rfl, SqT.of (z1 _ _ ha), atI_head _ _, rfl, _, rfl, ite2 (fun c => absurd c (by rw [eqs_false c3]; decide)) (fun _ => ?_)⟩
  refine ⟨_, rfl, a, _, _, _, rfl, rfl, SqT.of (z1 _ _ ha), atI_head _ _, rfl, _, rfl, ite2 (fun c => absurd c (by rw [eqs_false c4]; decide)) (fun _ => ?_)⟩
  refine ⟨_, rfl, a, _, _, _, rfl, rfl, SqT.of (z1 _ _ ha), atI_head _ _, by show 1 ≤ sizeLine; decide, fun t2 n2 => ?_⟩
  have z2 := same_upd (o := .tup [V.str wd]) n2
  have s02 : Same H _ := fun b o e => z2 _ _ (z1 _ _ e)
  refine ⟨_, rfl, a, _, _, _, rfl, rfl, SqT.of (s02 _ _ ha), atI_head _ _, (wd, so, ki), hq, rfl, ?_⟩
  have ecut : cutV (V.str wd :: xs) (some 1) none = xs := cut_hi (n := 1) _ (by simp)
  refine ⟨_, rfl, _, rfl, a, _, rfl, SqT.of (s02 _ _ ha), fun wh => ?_, fun _ t3 n3 => ?_⟩
  · exfalso
    have e2 := wh.1
    rw [show (some (1 : Int)) = some ((1 : Nat) : Int) from rfl, HT.sIx_nat, List.length_cons] at e2
    have : 1 ≤ xs.length := by
      rw [hxl, hlk]
      have hf : ∀ q ∈ formsTab, 1 ≤ q.2.2.cps.size := by decide +kernel
      exact hf _ hq
    omega
  have z3 := same_upd (o := .tup (cutV (V.str wd :: xs) (some 1) none)) n3
  have s03 : Same H _ := fun b o e => z3 _ _ (s02 _ _ e)
  have h3 : upd (upd (upd H t1 (.tup [V.str "name", .str "row"])) t2 (.tup [V.str wd])) t3 (.tup (cutV (V.str wd :: xs) (some 1) none)) t3 = some (.tup xs) := by rw [upd_same, ecut]
  have hF3 := z3 _ _ (upd_same (H := upd H t1 (.tup [V.str "name", .str "row"])) (a := t2) (o := .tup [V.str wd]))
  refine ⟨ki, t3, xs, rfl, SqT.of h3, hxl.trans hlk, ?_⟩
  refine for_zipS (K := K) (x := ki) (a := t3) (xs := xs) (by omega) (fun i σ H' => ∃ (e2 e3 e5 : Option V) (F : Addr) (fs : List V), σ = [some (.ref a), some (.ref B), e2, e3, some (.ref F), e5] ∧ Same H H' ∧ H' t3 = some (.tup xs) ∧ H' F = some (.tup (.str wd :: fs)) ∧ DRs H' fs (el.take i)) ⟨none, none, none, t2, [], rfl, s03, h3, hF3, .nil⟩ (fun i σ H' hi h => ?_) (fun i c v σ H' T hc hv h nT => ?_) (fun σ H' h => ?_)
  · obtain ⟨e2, e3, e5, F, fs, rfl, _, h3', _⟩ := h
    exact SqT.of h3'
  · obtain ⟨e2, e3, e5, F, fs, rfl, s', h3', hF, hfs⟩ := h
    have zT := same_upd (o := .tup [V.str ⟨#[c]⟩, v]) nT
    have hil : i < xs.length := (List.getElem?_eq_some_iff.mp hv).1
    obtain ⟨d, hd1, hd2⟩ := hxs.getV hv
    obtain ⟨e, he1⟩ : ∃ e, el[i]? = some e := ⟨_, List.getElem?_eq_getElem (by omega)⟩
    have hm : (c ∈ (Str.ofString "trp").cps.toList) ↔ (c = 116 ∨ c = 114 ∨ c = 112) := by
      rw [show (Str.ofString "trp").cps.toList = [116, 114, 112] by decide +kernel]
      simp
    have hPP := hp i c d e hc hd1 he1
    have etk : el.take (i + 1) = el.take i ++ [e] := by rw [List.take_add_one, he1]; rfl
    -- the last steps of a turn
    have fin : ∀ (u : V) (H2 : Hp), Same (upd H' T (.tup [V.str ⟨#[c]⟩, v])) H2 → DR H2 u e → 1 ≤ sizeLine ∧ ∀ p, H2 p = none → ∃ (a' b' : Addr) (zs ws : List V), V.ref F = .ref a' ∧ V.ref p = .ref b' ∧ upd H2 p (.tup [u]) a' = some (.tup zs) ∧ upd H2 p (.tup [u]) b' = some (.tup ws) ∧ zs ≠ [] ∧ ws ≠ [] ∧ zs.length + ws.length ≤ sizeLine ∧ ∀ r, upd H2 p (.tup [u]) r = none → Same H (upd (upd H2 p (.tup [u])) r (.tup (zs ++ ws))) ∧ upd (upd H2 p (.tup [u])) r (.tup (zs ++ ws)) t3 = some (.tup xs) ∧ zs ++ ws = .str wd :: (fs ++ [u]) ∧ DRs (upd (upd H2 p (.tup [u])) r (.tup (zs ++ ws))) (fs ++ [u]) (el.take (i + 1)) := fun u H2 s2 hu => by
      refine ⟨by decide, fun p np => ?_⟩
      have zp := same_upd (o := .tup [u]) np
      refine ⟨F, p, _, _, rfl, rfl, zp _ _ (s2 _ _ (zT _ _ hF)), upd_same, by simp, by simp, ?_, fun r nr => ?_⟩
      · have := hfs.length
        rw [List.length_take] at this
        refine small1000 ?_
        simp only [List.length_cons, List.length_nil]
        omega
      have zr := same_upd (o := .tup ((V.str wd :: fs) ++ [u])) nr
      have s5 : Same H' _ := fun b o e => zr _ _ (zp _ _ (s2 _ _ (zT _ _ e)))
      refine ⟨fun b o e => s5 _ _ (s' _ _ e), s5 _ _ h3', rfl, ?_⟩
      rw [etk]
      exact (hfs.kt (.of s5)).append (.cons ((hu.kt (.of zp)).kt (.of zr)) .nil)
    refine ⟨T, _, rfl, SqT.of upd_same, rfl, _, _, rfl, _, _, rfl, rfl, ?_⟩
    refine ⟨_, rfl, ?_⟩
    refine ⟨_, rfl, c, _, rfl, rfl, _, rfl, ite2 (fun dd => ?_) (fun dd => ?_)⟩
    · have hm' := hm.mp (of_decide_eq_true dd)
      rcases hPP with ⟨_, u, rfl, rfl, hlu⟩ | ⟨hn, _⟩
      rotate_left
      · exact absurd hm' hn
      obtain ⟨h', rfl⟩ : ∃ h', h = h' + 1 := ⟨h - 1, by omega⟩
      obtain rfl := hE h' rfl
      refine ⟨_, rfl, _, rfl, B, v, sv, u, rfl, zT _ _ (s' _ _ hB), (hs.kt (.of s')).kt (.of zT), (hd2.kt (.of s')).kt (.of zT), by omega, fun v' H2 s2 hv' => ?_⟩
      obtain ⟨y1, y2⟩ := fin v' H2 s2 hv'
      refine ⟨y1, fun p np => ?_⟩
      obtain ⟨a', b', zs, ws, q1, q2, q3, q4, q5, q6, q7, q8⟩ := y2 p np
      refine ⟨a', b', zs, ws, q1, q2, q3, q4, q5, q6, q7, fun r nr => ?_⟩
      obtain ⟨w1, w2, w3, w4⟩ := q8 r nr
      exact ⟨_, _, _, r, _, rfl, w1, w2, by rw [upd_same, w3], w4⟩
    · rcases hPP with ⟨hm', _⟩ | ⟨_, rfl, _⟩
      · exact absurd (decide_eq_true (hm.mpr hm')) dd
      refine ⟨_, rfl, ?_⟩
      obtain ⟨y1, y2⟩ := fin v _ (fun _ _ e => e) ((hd2.kt (.of s')).kt (.of zT))
      refine ⟨y1, fun p np => ?_⟩
      obtain ⟨a', b', zs, ws, q1, q2, q3, q4, q5, q6, q7, q8⟩ := y2 p np
      refine ⟨a', b', zs, ws, q1, q2, q3, q4, q5, q6, q7, fun r nr => ?_⟩
      obtain ⟨w1, w2, w3, w4⟩ := q8 r nr
      exact ⟨_, _, _, r, _, rfl, w1, w2, by rw [upd_same, w3], w4⟩
  · obtain ⟨e2, e3, e5, F, fs, rfl, s', h3', hF, hfs⟩ := h
    refine ⟨_, rfl, kk _ _ s' ?_⟩
    unfold TR
    rw [he]
    refine .tup hF (.cons (.str _) ?_)
    rw [List.take_of_length_le (by omega)] at hfs
    exact hfs
theorem ok_put (D : Df K mg "put_in" 20) (mz : mg "zip" = none) (GK : Gv P w K mg base 1 "kinds_of" ["word"] spKinds) : ∀ h, Gv P w K mg base (h + 2) "put_in" ["thing", "by"] (spPut l s h)
  | 0 => st_put D mz GK 0 1 (Nat.le_refl _) fun h' e => by omega
  | h + 1 => st_put D mz GK (h + 1) (h + 2) (by omega) fun h' e => by
      have : h = h' := by omega
      subst this
      exact ok_put D mz GK h
end
end Lw
/-! Part F1: sorted(xs, key=lambda x: repr(x)), xs tuples of data. -/
namespace Lw
open PySem PySem.Spec L2 L2.DX PyProof.Rows
/-- by their reprs -/
def keyOf (ds : List PyData) : PyData := .str (PyData.tuple ds).shown
def sortZ (zs : List (V × List PyData)) : List (V × List PyData) := zs.mergeSort (PySem.W.dataLe false fun z => keyOf z.2)
def sortD (ds : List (List PyData)) : List (List PyData) := ds.mergeSort (PySem.W.dataLe false keyOf)
theorem sortZ_snd (zs : List (V × List PyData)) : (sortZ zs).map (·.2) = sortD (zs.map (·.2)) := by
  unfold sortZ sortD
  exact List.map_mergeSort (fun _ _ _ _ => rfl)
section
variable {X : Cx} {pins : List (Addr × Obj)} {σ : L2.St} {H : Hp} {s : Shared}
/-- the lambda's call -/
theorem run_lamRepr {f c' : Addr} {params : Arguments} {scope : Scope} {p1 p2 p3 : Pos} {pm ctv : Value} {q : Str} {oc : Obj} {vs : Array Value} {t : Tok} {A : Around} {xe : Value → Shared → Prop} {k : Nat} {b : V} {u : Value} {ds : List PyData}
    (e0 : Env0 X.prog X.w X.K X.mg X.base A X.stack s H) (hr : Room (k + 2) A) (gd : A.guards = some []) (ho : s.heap.get? f = some (PySem.W.kla_obj "<lambda>" q params (.Call (.Name "repr" p1) [.Name "pair" p2] [] p3) scope [] pm c' ctv))
    (hoc : s.heap.get? c' = some oc) (hdc : oc.data = .fields vs) (hvc : vs[1]? = some (.str q t)) (S : FnScope ["pair"] ["pair"] scope) (hgl : scope.names.lookup (Str.ofString "repr") = some .globalImplicit) (hmr : X.mg "repr" = none) (hloc : scope.names.lookup (Str.ofString "pair") = some .local)
    (hbind : ∀ u, bindArgs (PySem.W.kla_fn "<lambda>" q params (.Call (.Name "repr" p1) [.Name "pair" p2] [] p3) scope [] pm (.ref c') ctv) ⟨[u], []⟩ = pure [(Str.ofString "pair", u)])
    (rb : RelV b u) (hd : DR H b (.tuple ds)) (hs : (PyData.tuple ds).showable = true) (hdp : (PyData.tuple ds).depth ≤ 60) (hz : (PyData.tuple ds).shown.length ≤ sizeLine) :
    wpAny (model X.prog X.w) A (call (.ref f) [u]) (PySem.W.KeyPure (keyOf ds) s) xe s := by
  refine wpAny_call (PySem.W.kla_callFunE hr.depth ho rfl S.co S.gen rfl ⟨c', oc, vs, t, rfl, hoc, hdc, hvc⟩ ?_)
  rw [hbind]
  have lim : s.heap.NoLimit := e0.mod.nolimit.keeps fun b o e => (e0.bs b o e).1
  refine wpAny_pure (wpAny_newFunctionEnv_cells S.kind (fun y hy => ?_) fun env he s1 x => ?_)
  · rcases List.mem_singleton.mp hy with rfl
    exact .inl hloc
  subst he
  refine ⟨lim.keeps x.toInCall.keep, ?_⟩
  have I : Inv (cxOf CX0 X.prog X.w X.K X.mg X.base ["pair"] q scope f (.ref c') A X.stack s H E0) [] (L2.start ["pair"] [b]) H s1 := inv_start (us := [u]) (vs := [b]) S hr.hd e0 rfl (.cons rb .nil) x
  obtain ⟨h1, tk, hs1, hkeep⟩ := x.done
  subst hs1
  show codeAny _ _ (.expr _ (envOfC q scope s.heap.objs.size f (.ref c'))) _ _
  refine PySem.W.kla_codeExpr ?_
  refine wpAny_Call_Name_kw (ld_blt (X := cxOf CX0 X.prog X.w X.K X.mg X.base ["pair"] q scope f (.ref c') A X.stack s H E0) I hgl hmr PyProof.Rows.boot_repr ?_)
  obtain ⟨m, hn, hl⟩ := I.loc
  obtain ⟨u', r', l⟩ := hl 0 (Str.ofString "pair") b rfl rfl (.inl hloc)
  have I := I
  obtain ⟨a, ys, rfl, _, _⟩ := hd.tup_inv
  cases r'
  obtain ⟨as, rd⟩ := Dp.reads I (.tuple ds) (.ref a) (.ref a) (hd.dp _) rfl
  refine PyProof.Rows.callWith_builtin1 ?_ rfl rfl
  refine Calls.spliced_cons ?_
  have fin : wpAny (model X.prog X.w) (A.deeper (envOfC q scope s.heap.objs.size f (.ref c'))) (call (.builtin "repr") [.ref a]) (fun v s' => PySem.W.KeyPure (keyOf ds) s v s') (fun e' s' => wpAny (model X.prog X.w) (A.deeper (envOfC q scope s.heap.objs.size f (.ref c'))) (leaving (envOfC q scope s.heap.objs.size f (.ref c')) e') (fun _ s'' => xe e' s'') (fun e'' s'' => xe e'' s'') s') { s with heap := h1, toks := tk } := by
    refine repr_of_reads' rd hs (PyData.noDict_hsm (DR.nodict _ _ hd)) gd ?_ (fun _ _ e => e) (fun h' u tk2 kp => ?_) hz
    · have := (hr.deeper (envOfC q scope s.heap.objs.size f (.ref c'))).units
      omega
    · exact ⟨h', tk2, rfl, fun b o e => kp _ _ (hkeep _ _ e), .str _ _⟩
  rcases l with ⟨hk, hm⟩ | ⟨hk, c, hc, hcell⟩
  · exact wpAny_Name (wpAny_loadName_local I.ok.kind hk hn hm (Calls.spliced_nil fin)) (by decide)
  · have hk : scope.names.lookup (Str.ofString "pair") = some .cell ∨ scope.names.lookup (Str.ofString "pair") = some .free := hk
    rw [hloc] at hk
    rcases hk with hk | hk <;> cases hk
end
def tSortLam (K : PySem.W.Frag) (T : List (Addr × Str)) (ta : TE) : TE := fun σ H Q => ta σ H fun x H1 => ∃ (a : Addr) (xs : List V) (ds : List (List PyData)), x = .ref a ∧ H1 a = some (.lst xs) ∧ DRs H1 xs (ds.map .tuple) ∧ (∀ d ∈ ds, (PyData.tuple d).showable = true ∧ (PyData.tuple d).depth ≤ 60 ∧ (PyData.tuple d).shown.length ≤ sizeLine) ∧ LamX.Tabs T H1 ∧
  ∀ H2 L, LamX.ExtN H1 H2 → LamX.Tabs T H2 → H2 L = none → Q (.ref L) (upd H2 L (.lst ((sortZ (xs.zip ds)).map (·.1))))
section
variable {X : Cx}
theorem DRs.zip {H : Hp} : ∀ {xs : List V} {ds : List (List PyData)}, DRs H xs (ds.map .tuple) → ∀ z ∈ xs.zip ds, DR H z.1 (.tuple z.2)
  | [], _, _, z, hz => absurd hz (by simp)
  | _ :: _, [], h, _, _ => by cases h
  | x :: xs, d :: ds, h, z, hz => by
    cases h with
    | cons h1 h2 =>
      rw [List.zip_cons_cons] at hz
      rcases List.mem_cons.mp hz with rfl | hz
      · exact h1
      · exact DRs.zip h2 z hz
theorem pe_sortLam {T : List (Addr × Str)} {c P : Addr} {params : Arguments} {scope : Scope} {lpos kp p pos p1 p2 p3 : Pos} {e : Expr} {ta : TE} {k : Nat} (he : PE X e ta) (gd : X.A.guards = some []) (hr : Room (k + 4) X.A) (hgs : Gl X "sorted") (hms : X.mg "sorted" = none) (hmr : X.mg "repr" = none)
    (TB : LamX.TabB X.base X.mg c P) (hcode : X.env.code = .ref c) (hmT : (P, X.env.qual ++ "<lambda>") ∈ T) (hu : ∀ p ∈ T, p.1 = P → p.2 = X.env.qual ++ "<lambda>") (S : FnScope ["pair"] ["pair"] scope) (hgl : scope.names.lookup (Str.ofString "repr") = some .globalImplicit) (hloc : scope.names.lookup (Str.ofString "pair") = some .local)
    (hdef : defaultsOf params X.env = ([], [])) (hfr : ∀ y ∈ scope.names, y.2 ≠ .free) (hcl : cloFrom X.env.cells scope.names [] = [])
    (hbind : ∀ (q : Str) (pm cv ctv : Value) (u : Value), bindArgs (PySem.W.kla_fn "<lambda>" q params (.Call (.Name "repr" p1) [.Name "pair" p2] [] p3) scope [] pm cv ctv) ⟨[u], []⟩ = pure [(Str.ofString "pair", u)])
    (hpl : (backTo pos (starEach [e] X.env)).any (·.1) = false := by rfl) (hst : backTo pos (starEach [e] X.env) = (false, eval e X.env) :: backTo pos (starEach [] X.env) := by rfl) :
    PE X (.Call (.Name "sorted" p) [e] [⟨some "key", .Lambda params (.Call (.Name "repr" p1) [.Name "pair" p2] [] p3) scope lpos, kp⟩] pos) (tSortLam X.K T ta) := by
  refine ⟨fun pins s σ H Q I h => ?_⟩
  refine wpAny_Call_Name_kw (ld_blt I hgs hms PyProof.Rows.boot_sorted ?_)
  refine PyProof.Rows.callWith_kw ?_ hst hpl rfl rfl
  rw [hst]
  refine Calls.spliced_cons (thn (he.run pins s σ H _ I h) fun u s1 ⟨x, H1, I1, rx, a, xs, ds, ex, hq, hd, hok, hT, q⟩ => Calls.spliced_nil ?_)
  subst ex
  cases rx
  show wpAny _ _ (evalAll ((do let v ← eval (.Lambda params (.Call (.Name "repr" p1) [.Name "pair" p2] [] p3) scope lpos) X.env; standAt pos; pure v) :: [])) _ _ s1
  refine wpAny_evalAll_cons (wpAny_bind (LamX.lam_make2 I1 TB hcode hmT hu hT hdef (fun y hy z => absurd z (hfr y hy)) fun f c' pm ctv H2 s2 I2 eN T2 hf hfn hfr2 hco => wpAny_bind (wpAny_standAt (wpAny_pure (wpAny_evalAll_nil ?_)))))
  show wpAny _ _ (call (.builtin "sorted") [.ref a] [(Str.ofString "key", .ref f)]) _ _ s2
  rw [hcl] at hf
  have hq2 : H2 a = some (.lst xs) := eN _ _ hq fun ps z => by cases z
  have hd2 : DRs H2 xs (ds.map .tuple) := hd.kt fun b ys e => eN _ _ e fun ps z => by cases z
  obtain ⟨its, rv, hl, hz⟩ := I2.list (SqL.of hq2)
  have hlen : ds.length = xs.length := by rw [hd.length, List.length_map]
  have hzl : (xs.zip ds).length = xs.length := by rw [List.length_zip, hlen, Nat.min_self]
  have ev : PySem.W.EachIs (fun u (z : V × List PyData) => RelV z.1 u) its (xs.zip ds) := by
    clear q hl hz hok hq hq2 hd hd2 hzl
    induction rv generalizing ds with
    | nil =>
      cases ds with
      | nil => exact .nil
      | cons _ _ => simp at hlen
    | cons r _ ih =>
      cases ds with
      | nil => simp at hlen
      | cons d ds => exact .cons r (ih ds (by simpa using hlen))
  obtain ⟨oc, vs, t, hoc, hdc, hvc⟩ := (I2.hok c' _ hco).1
  refine PySem.W.sorted_key_data (b := false) (fun z : V × List PyData => keyOf z.2) hl.isList ev (PySem.W.AllAlike.of fun _ _ => rfl) (PySem.W.Sortable.others fun z => ⟨(fun h => by cases h), fun xs h => by cases h⟩) (by rw [hzl]; exact hz) (fun z _ => ?_) (PyProof.Rows.ksk_s1 _ _) (fun _ => PyProof.Rows.ksk_l1 _ _) (fun _ => PyProof.Rows.ksk_t1 _ _)
    (fun v z rz hm h tk kp => ?_) fun out c0 h' tk kp fresh hD hol eo => ?_
  · have := hr.units
    show X.A.units + 2 + (PyData.str _).depth < cLine
    simp only [PyData.depth]
    omega
  · have J : Inv X pins σ H2 { s2 with heap := h, toks := tk } := I2.kept kp
    obtain ⟨z1, z2, z3⟩ := hok z.2 (List.of_mem_zip hm).2
    exact run_lamRepr (k := k) J.env0.in1.in1 (hr.in1.in1) gd (kp _ _ hf) (kp _ _ hoc) hdc hvc S hgl hmr hloc (hbind _ _ _ _) rz (DRs.zip hd2 z hm) z1 z2 z3
  · have hvals : Vals ((sortZ (xs.zip ds)).map (·.1)) out := by
      have g : ∀ {out : List Value} {zs : List (V × List PyData)}, PySem.W.EachIs (fun u (z : V × List PyData) => RelV z.1 u) out zs → Vals (zs.map (·.1)) out := fun {out zs} h => by
        induction h with
        | nil => exact .nil
        | cons r _ ih => exact .cons r ih
      exact g eo
    have hln : ((sortZ (xs.zip ds)).map (·.1)).length ≤ sizeLine := by
      rw [List.length_map]
      unfold sortZ
      rw [List.length_mergeSort, hzl]
      exact hz
    refine ⟨.ref _, upd H2 (s2.heap.objs.size + 1) (.lst ((sortZ (xs.zip ds)).map (·.1))), I2.laid (t' := tk) kp (Nat.le_succ _) ⟨hln, _, c0, hvals, hD⟩, rfl, q H2 _ eN T2 (I2.hok.fresh (Nat.le_succ _))⟩
end
end Lw
/-! Part F2: forms in plain words; the promises of put_pair, inner_form, gather, form_of. -/
namespace Lw
open PySem PySem.Spec L2 L2.DX PyProof.Rows
/-- an atom that was met: itself, its weight, its form -/
structure Ent where
  a : Tm
  w : Int
  f : List PyData
def Ent.mk' (e : Ent) : Str := (PyData.tuple e.f).shown
def Ent.scl (k : Int) (e : Ent) : Ent := ⟨e.a, k * e.w, e.f⟩
/-- into the dict of atoms -/
def putE (D : List Ent) (e : Ent) : List Ent := if (D.any fun x => decide (x.mk' = e.mk')) = true then D.map (fun x => if x.mk' = e.mk' then ⟨x.a, x.w + e.w, x.f⟩ else x) else D ++ [e]
def mrg (l : List Ent) : List Ent := l.foldl putE []
def pairF (e : Ent) : List PyData := [.tuple e.f, .int e.w]
def liveE (D : List Ent) : List Ent := D.filter fun e => !decide (e.w = 0)
def sform (l : List Ent) (n : Int) : List PyData := [.str "sum", .tuple ((sortD ((liveE (mrg l)).map pairF)).map .tuple), .int n]
def headF : List Ent → List PyData
  | e :: _ => e.f
  | [] => []
/-- the number that stands beside the atoms -/
def nb : Tm → Int
  | .num n => n
  | .add t u => nb t + nb u
  | .mul n t => n * nb t
  | _ => 0
/-- the atoms in their order; of a row term: itself -/
def ats : Tm → List Ent
  | .num _ => []
  | .name l => [⟨.name l, 1, [.str "name", kd l]⟩]
  | .add t u => ats t ++ ats u
  | .mul n t => (ats t).map (Ent.scl n)
  | .read r t => [⟨.read r t, 1, [.str "read", .tuple (headF (ats r)), .tuple (sform (ats t) (nb t))]⟩]
  | .size r => [⟨.size r, 1, [.str "size", .tuple (headF (ats r))]⟩]
  | .div t k => [⟨.div t k, 1, [.str "div", .tuple (sform (ats t) (nb t)), .int k]⟩]
  | .mod t k => [⟨.mod t k, 1, [.str "mod", .tuple (sform (ats t) (nb t)), .int k]⟩]
  | .row l => [⟨.row l, 1, [.str "row", kd l]⟩]
  | .wth r t u => [⟨.wth r t u, 1, [.str "with", .tuple (headF (ats r)), .tuple (sform (ats t) (nb t)), .tuple (sform (ats u) (nb u))]⟩]
  | .room t => [⟨.room t, 1, [.str "room", .tuple (sform (ats t) (nb t))]⟩]
def inn (t : Tm) : List PyData := headF (ats t)
def Tm.isRow : Tm → Bool
  | .row _ => true
  | .wth _ _ _ => true
  | .room _ => true
  | _ => false
def Tm.isAtom : Tm → Bool
  | .num _ => false
  | .add _ _ => false
  | .mul _ _ => false
  | _ => true
def frm (t : Tm) : List PyData := if t.isRow then inn t else sform (ats t) (nb t)
/-- repr may be asked of it -/
def SOk (d : List PyData) : Prop := (PyData.tuple d).showable = true ∧ (PyData.tuple d).depth ≤ 60 ∧ (PyData.tuple d).shown.length ≤ sizeLine
/-- the magnitude: of the factors and of the numbers -/
def mg : Tm → Nat
  | .num n => n.natAbs + 1
  | .add t u => mg t + mg u
  | .mul n t => (n.natAbs + 1) * mg t
  | _ => 1
theorem mg_pos (t : Tm) : 1 ≤ mg t := by
  induction t with
  | num n => exact Nat.succ_le_succ (Nat.zero_le _)
  | add t u h1 h2 => exact Nat.le_trans h1 (Nat.le_add_right _ _)
  | mul n t h => exact Nat.mul_le_mul (Nat.succ_le_succ (Nat.zero_le n.natAbs)) h
  | _ => exact Nat.le_refl _
def big : Nat := 2 ^ 1900
/-- how many atoms -/
def cnt : Tm → Nat
  | .num _ => 0
  | .add t u => cnt t + cnt u
  | .mul _ t => cnt t
  | _ => 1
/-- the pairs of its form are such that repr may be asked of them; its numbers are small, its atoms few -/
def POk (t : Tm) : Prop := (∀ e ∈ liveE (mrg (ats t)), SOk (pairF e)) ∧ 2 * mg t ≤ big ∧ cnt t ≤ 500
/-- whatever repr is asked of on the way may be shown -/
def FOk : Tm → Prop
  | .num _ => True
  | .name l => SOk (inn (.name l))
  | .add t u => FOk t ∧ FOk u
  | .mul _ t => FOk t
  | .read r t => FOk r ∧ FOk t ∧ POk t ∧ SOk (inn (.read r t))
  | .size r => FOk r ∧ SOk (inn (.size r))
  | .div t k => FOk t ∧ POk t ∧ SOk (inn (.div t k))
  | .mod t k => FOk t ∧ POk t ∧ SOk (inn (.mod t k))
  | .row _ => True
  | .wth r t u => FOk r ∧ FOk t ∧ POk t ∧ FOk u ∧ POk u
  | .room t => FOk t ∧ POk t
/-- the dict of atoms at A -/
def EntR (H : Hp) (kv : Key × V) (e : Ent) : Prop := kv.1 = Sum.inr e.mk' ∧ ∃ (b : Addr) (va vf : V), kv.2 = .ref b ∧ H b = some (.tup [va, .int e.w, vf]) ∧ TR H va e.a ∧ DR H vf (.tuple e.f)
def DicR (H : Hp) (A : Addr) (D : List Ent) : Prop := (D.map Ent.mk').Nodup ∧ ∃ kvs, H A = some (.dK kvs) ∧ kvs.length = D.length ∧ ∀ (i : Nat) kv e, kvs[i]? = some kv → D[i]? = some e → EntR H kv e
theorem EntR.kt {H H' : Hp} {kv : Key × V} {e : Ent} (h : EntR H kv e) (k : KT H H') : EntR H' kv e := by
  obtain ⟨h1, b, va, vf, h2, h3, h4, h5⟩ := h
  exact ⟨h1, b, va, vf, h2, k _ _ h3, h4.kt k, h5.kt k⟩
theorem DicR.kt {H H' : Hp} {A : Addr} {D : List Ent} (h : DicR H A D) (k : KT H H') (ha : ∀ kvs, H A = some (.dK kvs) → H' A = some (.dK kvs)) : DicR H' A D := by
  obtain ⟨nd, kvs, h1, h2, h3⟩ := h
  exact ⟨nd, kvs, ha _ h1, h2, fun i kv e a b => (h3 i kv e a b).kt k⟩
theorem ExtN.kt {H H' : Hp} (h : LamX.ExtN H H') : KT H H' := fun b xs e => h _ _ e fun ps z => by cases z
theorem DicR.ext {H H' : Hp} {A : Addr} {D : List Ent} (h : DicR H A D) (k : LamX.ExtN H H') : DicR H' A D := h.kt (ExtN.kt k) fun kvs e => k _ _ e fun ps z => by cases z
abbrev lamQ : Str := "form_of.<locals>.<lambda>"
section
variable (P : Addr) (ns rs : List Key)
abbrev TT : List (Addr × Str) := [(P, lamQ)]
def spInner (n : Nat) : Sp := fun vs H Q _ => ∃ (v : V) (a : Tm), vs = [v] ∧ TR H v a ∧ (∃ b, Ok ns rs b a) ∧ (a.isRow = false ∧ a.isAtom = true ∧ a.lev ≤ n + 2 ∨ a.isRow = true ∧ a.lev ≤ n) ∧ FOk a ∧ LamX.Tabs (TT P) H ∧ ∀ v' H', LamX.ExtN H H' → LamX.Tabs (TT P) H' → DR H' v' (.tuple (inn a)) → Q v' H'
def spForm (n : Nat) : Sp := fun vs H Q _ => ∃ (v : V) (t : Tm), vs = [v] ∧ TR H v t ∧ (∃ b, Ok ns rs b t) ∧ t.lev ≤ n ∧ FOk t ∧ (t.isRow = false → POk t) ∧ LamX.Tabs (TT P) H ∧ ∀ v' H', LamX.ExtN H H' → LamX.Tabs (TT P) H' → DR H' v' (.tuple (frm t)) → Q v' H'
def spPutP (n : Nat) : Sp := fun vs H Q _ => ∃ (A : Addr) (v : V) (a : Tm) (k : Int) (D : List Ent), vs = [.ref A, v, .int k] ∧ DicR H A D ∧ D.length < 1000 ∧ TR H v a ∧ Ok ns rs false a ∧ a.isAtom = true ∧ a.lev ≤ n + 1 ∧ FOk a ∧ LamX.Tabs (TT P) H ∧
  ∀ H', Kp A H H' → LamX.Tabs (TT P) H' → DicR H' A (putE D ⟨a, k, inn a⟩) → Q .non H'
def spGather (n : Nat) : Sp := fun vs H Q _ => ∃ (A : Addr) (v : V) (t : Tm) (k : Int) (D : List Ent), vs = [.ref A, v, .int k] ∧ DicR H A D ∧ D.length + cnt t < 1000 ∧ TR H v t ∧ Ok ns rs false t ∧ t.lev ≤ n ∧ FOk t ∧ (k.natAbs + 1) * mg t ≤ big ∧ LamX.Tabs (TT P) H ∧
  ∀ H', Kp A H H' → LamX.Tabs (TT P) H' → DicR H' A (((ats t).map (Ent.scl k)).foldl putE D) → Q (.int (k * nb t)) H'
end
end Lw
/-! Part F3: put_pair. -/
namespace Lw
open PySem PySem.Spec L2 L2.DX PyProof.Rows
theorem FOk.sok {a : Tm} (h : FOk a) (ha : a.isAtom = true) (hr : a.isRow = false) : SOk (inn a) := by
  cases a <;> first | exact absurd (show false = true from ha) (by decide) | exact absurd (show true = false from hr) (by decide) | exact h | exact h.2 | exact h.2.2 | exact h.2.2.2
theorem Ok.notRow {ns rs : List Key} {a : Tm} (h : Ok ns rs false a) : a.isRow = false := by
  cases a <;> first | rfl | exact h.elim
theorem Kp.kt {A : Addr} {H H' : Hp} (k : Kp A H H') (hA : ∀ xs, H A ≠ some (.tup xs)) : KT H H' := fun b xs e => k _ _ e (fun z => hA xs (by rw [← z]; exact e)) fun ps z => by cases z
theorem Kp.ext {A : Addr} {H H' : Hp} (k : LamX.ExtN H H') : Kp A H H' := fun b o e _ n => k b o e n
theorem DicR.noTup {A : Addr} {H : Hp} {D : List Ent} (h : DicR H A D) (xs : List V) : H A ≠ some (.tup xs) := fun z => by
  obtain ⟨_, kvs, h1, _⟩ := h
  rw [h1] at z
  cases z
theorem TabsNew {T : List (Addr × Str)} {H : Hp} {a : Addr} {o : HO} (h : LamX.Tabs T H) (n : H a = none) : LamX.Tabs T (upd H a o) := h.ext (same_upd n)
/-- an object that is no table and no code object may be written -/
theorem TabsSet {T : List (Addr × Str)} {H : Hp} {a : Addr} {o : HO} {kvs : List (Key × V)} (h : LamX.Tabs T H) (e : H a = some (.dK kvs)) : LamX.Tabs T (upd H a o) := fun p hp => by
  obtain ⟨ps, t1, t2, t3⟩ := h p hp
  have ne : ∀ b u, H b = some u → (∀ kvs, u ≠ .dK kvs) → b ≠ a := fun b u hb n z => by
    rw [z, e] at hb
    exact n _ (Option.some.inj hb).symm
  refine ⟨ps, by rw [upd_ne (ne _ _ t1 fun kvs z => by cases z)]; exact t1, t2, fun pos cv hc => ?_⟩
  obtain ⟨c, e1, e2⟩ := t3 pos cv hc
  exact ⟨c, e1, by rw [upd_ne (ne _ _ e2 fun kvs z => by unfold LamX.CodeO at z; cases z)]; exact e2⟩
theorem find_put {H : Hp} {D : List Ent} {kvs : List (Key × V)} {m : Str} (hl : kvs.length = D.length) (h : ∀ (i : Nat) kv e, kvs[i]? = some kv → D[i]? = some e → EntR H kv e) :
    (valV kvs (Sum.inr m) = none ∧ (D.any fun x => decide (x.mk' = m)) = false) ∨ (∃ kv x, valV kvs (Sum.inr m) = some kv.2 ∧ x ∈ D ∧ x.mk' = m ∧ EntR H kv x ∧ (D.any fun x => decide (x.mk' = m)) = true) := by
  induction kvs generalizing D with
  | nil =>
    cases D with
    | nil => exact .inl ⟨rfl, rfl⟩
    | cons _ _ => simp at hl
  | cons kv kvs ih =>
    cases D with
    | nil => simp at hl
    | cons e D =>
      have h0 := h 0 kv e rfl rfl
      have ih := ih (D := D) (by simpa using hl) fun i kv' e' a b => h (i + 1) kv' e' (by simpa using a) (by simpa using b)
      by_cases z : e.mk' = m
      · refine .inr ⟨kv, e, ?_, List.mem_cons_self .., z, h0, by simp [z]⟩
        unfold valV
        rw [List.find?_cons_of_pos (by simp [h0.1, z])]
        rfl
      · have ev : valV (kv :: kvs) (Sum.inr m) = valV kvs (Sum.inr m) := by
          unfold valV
          rw [List.find?_cons_of_neg (by
            rw [h0.1]
            simp
            exact z)]
        rw [ev]
        rcases ih with ⟨i1, i2⟩ | ⟨kv', x, i1, i2, i3, i4, i5⟩
        · exact .inl ⟨i1, by simp [z, i2]⟩
        · exact .inr ⟨kv', x, i1, List.mem_cons_of_mem _ i2, i3, i4, by simp [i5]⟩
theorem mk_put (D : List Ent) (e : Ent) : ((D.map fun x => if x.mk' = e.mk' then (⟨x.a, x.w + e.w, x.f⟩ : Ent) else x).map Ent.mk') = D.map Ent.mk' := by
  rw [List.map_map]
  refine List.map_congr_left fun x _ => ?_
  show Ent.mk' (if x.mk' = e.mk' then _ else x) = x.mk'
  split <;> rfl
theorem putE_nodup {D : List Ent} (e : Ent) (h : (D.map Ent.mk').Nodup) : ((putE D e).map Ent.mk').Nodup := by
  unfold putE
  split
  · rw [mk_put]
    exact h
  · rename_i hn
    rw [List.map_append]
    refine List.nodup_append.mpr ⟨h, by simp, fun a ha b hb => ?_⟩
    obtain ⟨x, hx, rfl⟩ := List.mem_map.mp ha
    rcases List.mem_singleton.mp hb with rfl
    intro z
    exact hn (List.any_eq_true.mpr ⟨x, hx, decide_eq_true z⟩)
theorem putE_len (D : List Ent) (e : Ent) : (putE D e).length ≤ D.length + 1 := by
  unfold putE
  split
  · rw [List.length_map]
    omega
  · rw [List.length_append]
    exact Nat.le_refl _
/-- the dict behind atoms[mark] = (..) -/
theorem DicR.put {H' : Hp} {A : Addr} {D : List Ent} {kvs : List (Key × V)} {e : Ent} {nt : Addr} {va vf : V} (nd : (D.map Ent.mk').Nodup) (hl : kvs.length = D.length) (h : ∀ (i : Nat) kv x, kvs[i]? = some kv → D[i]? = some x → EntR H' kv x)
    (hA : H' A = some (.dK (putK kvs (Sum.inr e.mk') (.ref nt))))
    (hnew : ((D.any fun x => decide (x.mk' = e.mk')) = false → H' nt = some (.tup [va, .int e.w, vf]) ∧ TR H' va e.a ∧ DR H' vf (.tuple e.f)))
    (hold : ∀ x ∈ D, x.mk' = e.mk' → H' nt = some (.tup [va, .int (x.w + e.w), vf]) ∧ TR H' va x.a ∧ DR H' vf (.tuple x.f)) : DicR H' A (putE D e) := by
  refine ⟨putE_nodup e nd, _, hA, ?_⟩
  have hfind := find_put (m := e.mk') hl h
  by_cases hany : (D.any fun x => decide (x.mk' = e.mk')) = true
  · have hk : (kvs.any fun kv => decide (kv.1 = Sum.inr e.mk')) = true := by
      rcases hfind with ⟨_, z⟩ | ⟨kv, x, z, _⟩
      · rw [hany] at z
        cases z
      · unfold valV at z
        cases q : kvs.find? (fun kv => decide (kv.1 = Sum.inr e.mk')) with
        | none => rw [q] at z; cases z
        | some kv' => exact List.any_eq_true.mpr ⟨kv', List.mem_of_find?_eq_some q, by simpa using List.find?_some q⟩
    unfold putK putE
    rw [if_pos hk, if_pos hany]
    refine ⟨by rw [List.length_map, List.length_map]; exact hl, fun i kv x hi hx => ?_⟩
    rw [List.getElem?_map] at hi hx
    obtain ⟨kv0, q1, rfl⟩ := Option.map_eq_some_iff.mp hi
    obtain ⟨x0, q2, rfl⟩ := Option.map_eq_some_iff.mp hx
    have h0 := h i kv0 x0 q1 q2
    by_cases z : x0.mk' = e.mk'
    · rw [if_pos z, if_pos (by rw [h0.1, z])]
      obtain ⟨w1, w2, w3⟩ := hold x0 (List.mem_of_getElem? q2) z
      exact ⟨h0.1, nt, va, vf, rfl, w1, w2, w3⟩
    · rw [if_neg z, if_neg (by rw [h0.1]; intro y; exact z (by injection y))]
      exact h0
  · have hany : (D.any fun x => decide (x.mk' = e.mk')) = false := by simpa using hany
    have hk : valV kvs (Sum.inr e.mk') = none := by
      rcases hfind with ⟨z, _⟩ | ⟨_, _, _, _, _, _, z⟩
      · exact z
      · rw [hany] at z
        cases z
    rw [putK_new _ hk]
    unfold putE
    rw [if_neg (by rw [hany]; decide)]
    refine ⟨by rw [List.length_append, List.length_append, hl]; rfl, fun i kv x hi hx => ?_⟩
    by_cases c : i < kvs.length
    · rw [List.getElem?_append_left c] at hi
      rw [List.getElem?_append_left (by omega)] at hx
      exact h i kv x hi hx
    · have hi2 := (List.getElem?_eq_some_iff.mp hi).1
      rw [List.length_append] at hi2
      have hi2 : i < kvs.length + 1 := hi2
      have : i = kvs.length := by omega
      subst this
      rw [List.getElem?_append_right (Nat.le_refl _), Nat.sub_self] at hi
      rw [List.getElem?_append_right (by omega), hl, Nat.sub_self] at hx
      cases hi
      cases hx
      obtain ⟨w1, w2, w3⟩ := hnew hany
      exact ⟨rfl, nt, va, vf, rfl, w1, w2, w3⟩
theorem scPutP : FnScope ["atoms", "atom", "weight", "form", "mark", "first", "had", "known"] ["atoms", "atom", "weight"] (defScope (top 4)) := ⟨rfl, rfl, rfl, by decide +kernel, rfl, by decide +kernel, by decide +kernel⟩
section
variable {P : Program} {w : World} {K : PySem.W.Frag} {mg' : Str → Option Value} {base : Heap} {PT : Addr} {ns rs : List Key}
theorem st_putP (D : Df K mg' "put_pair" 4) (mr : mg' "repr" = none) (n k : Nat) (IH : ∀ m, n = m + 1 → Gg P w K mg' base k "inner_form" ["thing"] (spInner PT ns rs m)) (DI : Df K mg' "inner_form" 2) : Gg P w K mg' base (k + 1) "put_pair" ["atoms", "atom", "weight"] (spPutP PT ns rs n) := by
  obtain ⟨spE, GE, hE⟩ : ∃ spE : Sp, Gg P w K mg' base k "inner_form" ["thing"] spE ∧ ∀ m, n = m + 1 → spE = spInner PT ns rs m := by
    cases n with
    | zero => exact ⟨fun _ _ _ _ => False, Gg.never DI (fun _ _ _ _ _ _ us hl => match us, hl with | [_], _ => rfl) fun _ _ _ _ z => z, fun n' e => by omega⟩
    | succ m => exact ⟨_, IH m rfl, fun m e => by cases e; rfl⟩
  refine okGg D scPutP (fun _ _ _ _ _ _ us hl => match us, hl with | [_, _, _], _ => rfl) (fun vs H Q E h => ?_) (fun f cdv A out s H vs Q E gd hr h => ?_)
  · obtain ⟨B, v, a, i, Ds, rfl, _⟩ := h
    rfl
  obtain ⟨B, v, a, i, Ds, rfl, hD, hDl, ha, hok, hat, hlev, hf, hT, kk⟩ := h
  have nd := scPutP.nd
  refine ⟨_, pss_cons (ps_set (i := 3) nd rfl (Or.inl rfl) (pe_g GE gd hr rfl (pa_cons (pv 1) pa_nil)))
    (pss_cons (ps_set (i := 4) nd rfl (Or.inl rfl) (pe_callB (call_reprT gd hr.units) rfl mr (by decide +kernel) (pa_cons (pv 3) pa_nil)))
    (pss_cons (ps_asg (pe_dget2 (hu_of hr) (pv 0) (pv 4) (pe_tup (pa_cons (pv 1) (pa_cons pe_int (pa_cons (pv 3) pa_nil)))) ⟨rfl, rfl, rfl, rfl⟩) (pg_tup rfl (pgs_cons (pg_name (i := 5) nd rfl (Or.inl rfl)) (pgs_cons (pg_name (i := 6) nd rfl (Or.inl rfl)) (pgs_cons (pg_name (i := 7) nd rfl (Or.inl rfl)) pgs_nil)))))
    (pss_one (ps_dput (hu_of hr) (pv 0) (pv 4) (pe_tup (pa_cons (pv 5) (pa_cons (pe_op op_add (pv 6) (pv 2)) (pa_cons (pv 7) pa_nil)))) rfl)))), ?_⟩
  obtain ⟨m, rfl⟩ : ∃ m, n = m + 1 := by
    have : 3 ≤ a.lev := by
      cases a <;> first | exact absurd (show false = true from hat) (by decide) | exact hok.elim | (simp only [Tm.lev]; omega)
    exact ⟨n - 1, by omega⟩
  obtain rfl := hE m rfl
  refine ⟨_, rfl, v, a, rfl, ha, ⟨false, hok⟩, .inl ⟨hok.notRow, hat, by omega⟩, hf, hT, fun vf H1 x1 T1 hvf => ?_⟩
  have sok := hf.sok hat hok.notRow
  have hD1 := hD.ext x1
  have ha1 : TR H1 v a := ha.kt (ExtN.kt x1)
  refine ⟨_, rfl, vf, inn a, rfl, hvf, sok.1, sok.2.1, sok.2.2, ?_⟩
  obtain ⟨ndD, kvs, hB, hkl, hkr⟩ := id hD1
  refine ⟨_, rfl, B, rfl, .inl ⟨_, .inl hB⟩, _, rfl, _, rfl, _, rfl, by show 3 ≤ sizeLine; decide, fun t1 n1 => ?_⟩
  have z1 := same_upd (o := .tup [v, .int 0, vf]) n1
  have k1 := KT.of z1
  have hB1 := z1 _ _ hB
  have hkr1 : ∀ (i : Nat) kv e, kvs[i]? = some kv → Ds[i]? = some e → EntR (upd H1 t1 (.tup [v, .int 0, vf])) kv e := fun j kv e p q => (hkr j kv e p q).kt k1
  have hsz : kvs.length < sizeLine := Nat.lt_of_lt_of_le (show kvs.length < 1000 by omega) (by decide)
  refine ⟨_, DGet.k (k := Sum.inr (Ent.mk' ⟨a, i, inn a⟩)) hB1, ?_⟩
  -- the last store
  have fin : ∀ (t2 : Addr) (va vf' : V) (j : Int), (upd H1 t1 (.tup [v, .int 0, vf])) t2 = none →
      ((Ds.any fun x => decide (x.mk' = Ent.mk' ⟨a, i, inn a⟩)) = false → va = v ∧ vf' = vf ∧ j = 0) → (∀ x ∈ Ds, x.mk' = Ent.mk' ⟨a, i, inn a⟩ → j = x.w ∧ TR (upd H1 t1 (.tup [v, .int 0, vf])) va x.a ∧ DR (upd H1 t1 (.tup [v, .int 0, vf])) vf' (.tuple x.f)) →
      Q .non (upd (upd (upd H1 t1 (.tup [v, .int 0, vf])) t2 (.tup [va, .int (j + i), vf'])) B (.dK (putK kvs (Sum.inr (Ent.mk' ⟨a, i, inn a⟩)) (.ref t2)))) := fun t2 va vf' j n2 hnew hold => by
    have z2 := same_upd (o := .tup [va, .int (j + i), vf']) n2
    have hB2 := z2 _ _ hB1
    have k3 : KT (upd (upd H1 t1 (.tup [v, .int 0, vf])) t2 (.tup [va, .int (j + i), vf'])) (upd (upd (upd H1 t1 (.tup [v, .int 0, vf])) t2 (.tup [va, .int (j + i), vf'])) B (.dK (putK kvs (Sum.inr (Ent.mk' ⟨a, i, inn a⟩)) (.ref t2)))) := KT.set hB2 fun xs z => by cases z
    refine kk _ (fun b o e hb nt => ?_) (TabsSet (TabsNew (TabsNew T1 n1) n2) hB2) ?_
    · rw [upd_ne hb]
      exact z2 _ _ (z1 _ _ (x1 _ _ e nt))
    · refine DicR.put (va := va) (vf := vf') (nt := t2) ndD hkl (fun j' kv x p q => ((hkr1 j' kv x p q).kt (KT.of z2)).kt k3) upd_same (fun hany => ?_) (fun x hx hm => ?_)
      · obtain ⟨rfl, rfl, rfl⟩ := hnew hany
        refine ⟨?_, ((ha1.kt k1).kt (KT.of z2)).kt k3, ((hvf.kt k1).kt (KT.of z2)).kt k3⟩
        show _ = some (HO.tup [va, .int i, vf'])
        have e0 := k3 _ _ (upd_same (H := upd H1 t1 (.tup [va, .int 0, vf'])) (a := t2) (o := .tup [va, .int (0 + i), vf']))
        rw [Int.zero_add] at e0 ⊢
        exact e0
      · obtain ⟨rfl, w2, w3⟩ := hold x hx hm
        exact ⟨k3 _ _ upd_same, (w2.kt (KT.of z2)).kt k3, (w3.kt (KT.of z2)).kt k3⟩
  rcases find_put (m := Ent.mk' ⟨a, i, inn a⟩) hkl hkr1 with ⟨hv, hany⟩ | ⟨kv, x, hv, hx, hxm, hER, hany⟩
  · rw [hv]
    refine ⟨t1, _, rfl, SqT.of upd_same, rfl, _, _, rfl, _, _, rfl, _, _, rfl, rfl, ?_⟩
    refine ⟨_, rfl, _, rfl, _, rfl, _, _, rfl, rfl, _, rfl, by show 3 ≤ sizeLine; decide, fun t2 n2 => ?_⟩
    have z2 := same_upd (o := .tup [v, .int (0 + i), vf]) n2
    refine ⟨_, rfl, _, rfl, B, _, rfl, DPut.k (k := Sum.inr (Ent.mk' ⟨a, i, inn a⟩)) (z2 _ _ hB1) hsz, ?_⟩
    refine fin t2 v vf 0 n2 (fun _ => ⟨rfl, rfl, rfl⟩) fun y hy hm => ?_
    rw [List.any_eq_false] at hany
    exact absurd (decide_eq_true hm) (hany y hy)
  · obtain ⟨hk, b, va, vf', hkv, hb, hva, hvf'⟩ := hER
    rw [hv, hkv]
    refine ⟨b, _, rfl, SqT.of hb, rfl, _, _, rfl, _, _, rfl, _, _, rfl, rfl, ?_⟩
    refine ⟨_, rfl, _, rfl, _, rfl, _, _, rfl, rfl, _, rfl, by show 3 ≤ sizeLine; decide, fun t2 n2 => ?_⟩
    have z2 := same_upd (o := .tup [va, .int (x.w + i), vf']) n2
    refine ⟨_, rfl, _, rfl, B, _, rfl, DPut.k (k := Sum.inr (Ent.mk' ⟨a, i, inn a⟩)) (z2 _ _ hB1) hsz, ?_⟩
    refine fin t2 va vf' x.w n2 (fun e => by rw [hany] at e; cases e) fun y hy hm => ?_
    have : y = x := by
      have key : ∀ (D : List Ent), (D.map Ent.mk').Nodup → x ∈ D → y ∈ D → y.mk' = x.mk' → y = x := fun D => by
        induction D with
        | nil => intro _ h; cases h
        | cons d D ih =>
          intro hn h1 h2 h3
          rw [List.map_cons, List.nodup_cons] at hn
          rcases List.mem_cons.mp h1 with rfl | h1
          · rcases List.mem_cons.mp h2 with rfl | h2
            · rfl
            · exact absurd (List.mem_map.mpr ⟨y, h2, h3⟩) hn.1
          · rcases List.mem_cons.mp h2 with e | h2
            · rw [← e] at hn
              exact absurd (List.mem_map.mpr ⟨x, h1, h3.symm⟩) hn.1
            · exact ih hn.2 h1 h2 h3
      exact key Ds ndD hx hy (hm.trans hxm.symm)
    subst this
    exact ⟨rfl, hva, hvf'⟩
end
end Lw
/-! Part F4: inner_form. -/
namespace Lw
open PySem PySem.Spec L2 L2.DX PyProof.Rows
theorem qq1 {R : PyData → PyData → Prop} {d0 e0 : PyData} (h0 : R d0 e0) (i : Nat) (d e : PyData) (hd : [d0][i]? = some d) (he : [e0][i]? = some e) : R d e := by
  match i with
  | 0 => cases hd; cases he; exact h0
  | _ + 1 => simp at hd
theorem qq2 {R : PyData → PyData → Prop} {d0 e0 d1 e1 : PyData} (h0 : R d0 e0) (h1 : R d1 e1) (i : Nat) (d e : PyData) (hd : [d0, d1][i]? = some d) (he : [e0, e1][i]? = some e) : R d e := by
  match i with
  | 0 => cases hd; cases he; exact h0
  | 1 => cases hd; cases he; exact h1
  | _ + 2 => simp at hd
theorem qq3 {R : PyData → PyData → Prop} {d0 e0 d1 e1 d2 e2 : PyData} (h0 : R d0 e0) (h1 : R d1 e1) (h2 : R d2 e2) (i : Nat) (d e : PyData) (hd : [d0, d1, d2][i]? = some d) (he : [e0, e1, e2][i]? = some e) : R d e := by
  match i with
  | 0 => cases hd; cases he; exact h0
  | 1 => cases hd; cases he; exact h1
  | 2 => cases hd; cases he; exact h2
  | _ + 3 => simp at hd
theorem Ok.isRow {ns rs : List Key} {a : Tm} (h : Ok ns rs true a) : a.isRow = true := by
  cases a <;> first | rfl | exact h.elim
theorem frm_row {ns rs : List Key} {a : Tm} (h : Ok ns rs true a) : frm a = headF (ats a) := by
  unfold frm
  rw [h.isRow]
  rfl
theorem frm_term {ns rs : List Key} {a : Tm} (h : Ok ns rs false a) : frm a = sform (ats a) (nb a) := by
  unfold frm
  rw [h.notRow]
  rfl
theorem TabsSetL {T : List (Addr × Str)} {H : Hp} {a : Addr} {o : HO} {xs : List V} (h : LamX.Tabs T H) (e : H a = some (.lst xs)) : LamX.Tabs T (upd H a o) := fun p hp => by
  obtain ⟨ps, t1, t2, t3⟩ := h p hp
  have ne : ∀ b u, H b = some u → (∀ kvs, u ≠ .lst kvs) → b ≠ a := fun b u hb n z => by
    rw [z, e] at hb
    exact n _ (Option.some.inj hb).symm
  refine ⟨ps, by rw [upd_ne (ne _ _ t1 fun kvs z => by cases z)]; exact t1, t2, fun pos cv hc => ?_⟩
  obtain ⟨c, e1, e2⟩ := t3 pos cv hc
  exact ⟨c, e1, by rw [upd_ne (ne _ _ e2 fun kvs z => by unfold LamX.CodeO at z; cases z)]; exact e2⟩
/-- what inner_form does with a part -/
def InnP (ns rs : List Key) (t : Tm) (d e : PyData) : Prop := (∃ u : Tm, d = u.d ∧ e = .tuple (frm u) ∧ (t.isRow = true → u.lev + 2 ≤ t.lev) ∧ (t.isRow = false → u.lev + 4 ≤ t.lev) ∧ FOk u ∧ (u.isRow = false → POk u) ∧ ∃ b, Ok ns rs b u) ∨ ∃ n : Int, d = .int n ∧ e = .int n
theorem InnP.ofT {ns rs : List Key} {t u : Tm} (h : Ok ns rs false u) (h1 : t.isRow = true → u.lev + 2 ≤ t.lev) (h2 : t.isRow = false → u.lev + 4 ≤ t.lev) (f : FOk u) (p : POk u) : InnP ns rs t u.d (.tuple (sform (ats u) (nb u))) :=
  .inl ⟨u, rfl, by rw [frm_term h], h1, h2, f, fun _ => p, _, h⟩
theorem InnP.ofR {ns rs : List Key} {t u : Tm} (h : Ok ns rs true u) (h1 : t.isRow = true → u.lev + 2 ≤ t.lev) (h2 : t.isRow = false → u.lev + 4 ≤ t.lev) (f : FOk u) : InnP ns rs t u.d (.tuple (headF (ats u))) :=
  .inl ⟨u, rfl, by rw [frm_row h], h1, h2, f, fun z => (by rw [h.isRow] at z; cases z), _, h⟩
theorem inn_parts {ns rs : List Key} (t : Tm) (h1 : ∀ m, t ≠ .name m) (h2 : ∀ m, t ≠ .row m) (ha : t.isAtom = true) (hok : ∃ b, Ok ns rs b t) (hf : FOk t) : ∃ (wd : Str) (dl fl : List PyData), wd ≠ "name" ∧ wd ≠ "row" ∧ wd ≠ "notion" ∧ t.d = .tuple (.str wd :: dl) ∧ inn t = .str wd :: fl ∧ dl.length = fl.length ∧ 1 ≤ dl.length ∧ dl.length ≤ 3 ∧
    ∀ (i : Nat) (d e : PyData), dl[i]? = some d → fl[i]? = some e → InnP ns rs t d e := by
  obtain ⟨b, hok⟩ := hok
  cases t with
  | name m => exact absurd rfl (h1 m)
  | row m => exact absurd rfl (h2 m)
  | num _ => exact absurd (show false = true from ha) (by decide)
  | add _ _ => exact absurd (show false = true from ha) (by decide)
  | mul _ _ => exact absurd (show false = true from ha) (by decide)
  | read r t =>
    cases b with
    | true => exact hok.elim
    | false => exact ⟨"read", [r.d, t.d], [.tuple (headF (ats r)), .tuple (sform (ats t) (nb t))], by decide, by decide, by decide, rfl, rfl, rfl, of_decide_eq_true rfl, of_decide_eq_true rfl, qq2 (R := InnP ns rs _) (.ofR hok.1 (fun z => by first | (simp only [Tm.lev]; omega) | cases z) (fun z => by first | (simp only [Tm.lev]; omega) | cases z) hf.1) (.ofT hok.2 (fun z => by first | (simp only [Tm.lev]; omega) | cases z) (fun z => by first | (simp only [Tm.lev]; omega) | cases z) hf.2.1 hf.2.2.1)⟩
  | size r =>
    cases b with
    | true => exact hok.elim
    | false => exact ⟨"size", [r.d], [.tuple (headF (ats r))], by decide, by decide, by decide, rfl, rfl, rfl, of_decide_eq_true rfl, of_decide_eq_true rfl, qq1 (R := InnP ns rs _) (.ofR hok (fun z => by first | (simp only [Tm.lev]; omega) | cases z) (fun z => by first | (simp only [Tm.lev]; omega) | cases z) hf.1)⟩
  | div t k =>
    cases b with
    | true => exact hok.elim
    | false => exact ⟨"div", [t.d, .int k], [.tuple (sform (ats t) (nb t)), .int k], by decide, by decide, by decide, rfl, rfl, rfl, of_decide_eq_true rfl, of_decide_eq_true rfl, qq2 (R := InnP ns rs _) (.ofT hok.1 (fun z => by first | (simp only [Tm.lev]; omega) | cases z) (fun z => by first | (simp only [Tm.lev]; omega) | cases z) hf.1 hf.2.1) (.inr ⟨_, rfl, rfl⟩)⟩
  | mod t k =>
    cases b with
    | true => exact hok.elim
    | false => exact ⟨"mod", [t.d, .int k], [.tuple (sform (ats t) (nb t)), .int k], by decide, by decide, by decide, rfl, rfl, rfl, of_decide_eq_true rfl, of_decide_eq_true rfl, qq2 (R := InnP ns rs _) (.ofT hok.1 (fun z => by first | (simp only [Tm.lev]; omega) | cases z) (fun z => by first | (simp only [Tm.lev]; omega) | cases z) hf.1 hf.2.1) (.inr ⟨_, rfl, rfl⟩)⟩
  | wth r t u =>
    cases b with
    | false => exact hok.elim
    | true => exact ⟨"with", [r.d, t.d, u.d], [.tuple (headF (ats r)), .tuple (sform (ats t) (nb t)), .tuple (sform (ats u) (nb u))], by decide, by decide, by decide, rfl, rfl, rfl, of_decide_eq_true rfl, of_decide_eq_true rfl, qq3 (R := InnP ns rs _) (.ofR hok.1 (fun z => by first | (simp only [Tm.lev]; omega) | cases z) (fun z => by first | (simp only [Tm.lev]; omega) | cases z) hf.1) (.ofT hok.2.1 (fun z => by first | (simp only [Tm.lev]; omega) | cases z) (fun z => by first | (simp only [Tm.lev]; omega) | cases z) hf.2.1 hf.2.2.1) (.ofT hok.2.2 (fun z => by first | (simp only [Tm.lev]; omega) | cases z) (fun z => by first | (simp only [Tm.lev]; omega) | cases z) hf.2.2.2.1 hf.2.2.2.2)⟩
  | room t =>
    cases b with
    | false => exact hok.elim
    | true => exact ⟨"room", [t.d], [.tuple (sform (ats t) (nb t))], by decide, by decide, by decide, rfl, rfl, rfl, of_decide_eq_true rfl, of_decide_eq_true rfl, qq1 (R := InnP ns rs _) (.ofT hok (fun z => by first | (simp only [Tm.lev]; omega) | cases z) (fun z => by first | (simp only [Tm.lev]; omega) | cases z) hf.1 hf.2)⟩
theorem scInner : FnScope ["thing", "word", "part"] ["thing"] (defScope (top 2)) := ⟨rfl, rfl, rfl, by decide +kernel, rfl, by decide +kernel, by decide +kernel⟩
section
variable {P : Program} {w : World} {K : PySem.W.Frag} {mg' : Str → Option Value} {base : Heap} {PT : Addr} {ns rs : List Key}
theorem st_inner (D : Df K mg' "inner_form" 2) (DF : Df K mg' "form_of" 3) (mt : mg' "tuple" = none) (mis : mg' "isinstance" = none) (n k : Nat) (IH : ∀ m, n = m + 2 → Gg P w K mg' base k "form_of" ["thing"] (spForm PT ns rs m)) : Gg P w K mg' base (k + 1) "inner_form" ["thing"] (spInner PT ns rs n) := by
  obtain ⟨spE, GE, hE⟩ : ∃ spE : Sp, Gg P w K mg' base k "form_of" ["thing"] spE ∧ ∀ m, n = m + 2 → spE = spForm PT ns rs m := by
    have bF : BindT "form_of" 3 ["thing"] := fun _ _ _ _ _ _ us hl => match us, hl with | [_], _ => rfl
    match n with
    | 0 => exact ⟨fun _ _ _ _ => False, Gg.never DF bF fun _ _ _ _ z => z, fun n' e => by omega⟩
    | 1 => exact ⟨fun _ _ _ _ => False, Gg.never DF bF fun _ _ _ _ z => z, fun n' e => by omega⟩
    | m + 2 => exact ⟨_, IH m rfl, fun m e => by cases e; rfl⟩
  refine okGg D scInner (fun _ _ _ _ _ _ us hl => match us, hl with | [_], _ => rfl) (fun vs H Q E h => ?_) (fun f cdv A out s H vs Q E gd hr h => ?_)
  · obtain ⟨v, a, rfl, _⟩ := h
    rfl
  obtain ⟨v, t, rfl, ht, hok, hlev, hf, hT, kk⟩ := h
  have nd := scInner.nd
  refine ⟨_, pss_cons (ps_set (i := 1) nd rfl (Or.inl rfl) (pe_ix ix_tup (pv 0) pe_int (fun _ _ => rfl)))
    (pss_cons (ps_if (pt_cmpR op_in_seq (pv 1) (pe_tup (pa_cons pe_str (pa_cons pe_str pa_nil))) (by rfl)) (pss_one (ps_ret (pv 0))) pss_nil)
    (pss_cons (ps_if (pt_cmpR op_eq (pv 1) pe_str (nomark _)) pss_never pss_nil)
    (pss_one (ps_ret (pe_op op_catA (pe_tup (pa_cons (pv 1) pa_nil)) (pe_callTy call_tuple_of rfl mt boot_tuple (pa_cons
      (pe_lc (own := [("part", 2)]) (g := gName 2) (tt := tYes) rfl nd (pi_tup (pe_slice sl_tupA (pv 0) (po_some pe_int) po_none)) (blkOk_by (own := [("part", 2)]) (N := ["thing", "word", "part"]) (sc := defScope (top 2)) (by decide +kernel))
        (fun _ _ _ _ _ => pg_name (i := 2) nd rfl (Or.inl rfl)) (fun _ _ _ _ _ => pts_nil)
        (fun _ _ _ _ _ => pe_ifExp (pt_val (pe_callB (show CallR _ _ (rIsi K) from call_isi) rfl mis (by decide +kernel) (pa_cons (pv 2) (pa_cons (pe_bltn (v := .ty "tuple") rfl mt boot_tuple rfl) pa_nil)))) (pe_g GE gd hr rfl (pa_cons (pv 2) pa_nil)) (pv 2))) pa_nil))))))), ?_⟩
  have two : ∀ {us : List V} {p q : PyData}, DRs H us [p, q] → ∃ x y, us = [x, y] ∧ DR H x p ∧ DR H y q := fun h => by
    obtain ⟨x, r, rfl, g, h⟩ := h.cons_inv
    obtain ⟨y, r, rfl, g2, h⟩ := h.cons_inv
    cases h
    exact ⟨x, y, rfl, g, g2⟩
  by_cases hNname : ∃ m, t = .name m
  · obtain ⟨m, rfl⟩ := hNname
    obtain ⟨a, ys, rfl, ha, hx⟩ := DR.tup_inv ht
    obtain ⟨x, y, rfl, g1, g2⟩ := two hx
    cases g1.str_inv
    cases g2.key
    refine ⟨_, rfl, a, _, _, _, rfl, rfl, SqT.of ha, atI_head _ _, _, rfl, by show 2 ≤ sizeLine; decide, fun t1 n1 => ?_⟩
    have z1 := same_upd (o := .tup [V.str "name", .str "row"]) n1
    refine ⟨t1, _, rfl, .inr (SqT.of upd_same), rfl, rfl, _, rfl, iteT ?_⟩
    exact ⟨_, rfl, kk _ _ (.of z1) (hT.ext z1) (ht.kt (.of z1))⟩
  by_cases hNrow : ∃ m, t = .row m
  · obtain ⟨m, rfl⟩ := hNrow
    obtain ⟨a, ys, rfl, ha, hx⟩ := DR.tup_inv ht
    obtain ⟨x, y, rfl, g1, g2⟩ := two hx
    cases g1.str_inv
    cases g2.key
    refine ⟨_, rfl, a, _, _, _, rfl, rfl, SqT.of ha, atI_head _ _, _, rfl, by show 2 ≤ sizeLine; decide, fun t1 n1 => ?_⟩
    have z1 := same_upd (o := .tup [V.str "name", .str "row"]) n1
    refine ⟨t1, _, rfl, .inr (SqT.of upd_same), rfl, rfl, _, rfl, iteT ?_⟩
    exact ⟨_, rfl, kk _ _ (.of z1) (hT.ext z1) (ht.kt (.of z1))⟩
  have hat : t.isAtom = true := by
    rcases hlev with ⟨_, z, _⟩ | ⟨z, _⟩
    · exact z
    · cases t <;> first | rfl | exact absurd (show false = true from z) (by decide)
  obtain ⟨wd, dl, fl, w1, w2, w3, hd, he, hl, hl1, hl3, hp⟩ := inn_parts (ns := ns) (rs := rs) t (fun m e => hNname ⟨m, e⟩) (fun m e => hNrow ⟨m, e⟩) hat hok hf
  unfold TR at ht
  rw [hd] at ht
  obtain ⟨a, ys, rfl, ha, hx⟩ := DR.tup_inv ht
  obtain ⟨x0, xs, rfl, g0, hxs⟩ := hx.cons_inv
  cases g0.str_inv
  have hxl : xs.length = dl.length := hxs.length
  refine ⟨_, rfl, a, _, _, _, rfl, rfl, SqT.of ha, atI_head _ _, _, rfl, by show 2 ≤ sizeLine; decide, fun t1 n1 => ?_⟩
  have z1 := same_upd (o := .tup [V.str "name", .str "row"]) n1
  have nw2 : inV (V.str wd) [V.str (Str.ofString "name"), V.str (Str.ofString "row")] = false := nomem2 w1 w2
  refine ⟨t1, _, rfl, .inr (SqT.of upd_same), rfl, rfl, _, rfl, ite2 (fun c => absurd (show inV (V.str wd) [V.str (Str.ofString "name"), V.str (Str.ofString "row")] = true from c) (by rw [nw2]; decide)) (fun _ => ?_)⟩
  refine ⟨_, rfl, rfl, _, rfl, ite2 (fun c => absurd c (by rw [eqs_false w3]; decide)) (fun _ => ?_)⟩
  refine ⟨_, rfl, by show 1 ≤ sizeLine; decide, fun t2 n2 => ?_⟩
  have z2 := same_upd (o := .tup [V.str wd]) n2
  have ecut2 : cutV (V.str wd :: xs) (some 1) none = xs := cut_hi (n := 1) _ (by simp)
  refine ⟨_, rfl, _, rfl, a, _, rfl, SqT.of (z2 _ _ (z1 _ _ ha)), fun wh => ?_, fun _ t3 n3 => ?_⟩
  · exfalso
    have e2 := wh.1
    rw [show (some (1 : Int)) = some ((1 : Nat) : Int) from rfl, HT.sIx_nat, List.length_cons] at e2
    omega
  have z3 := same_upd (o := .tup (cutV (V.str wd :: xs) (some 1) none)) n3
  refine ⟨t3, rfl, ⟨_, SqT.of upd_same⟩, fun D4 d4 => ?_⟩
  have z4 := same_upd (o := .lst []) d4
  have s4 : Same H _ := fun b o e => z4 _ _ (z3 _ _ (z2 _ _ (z1 _ _ e)))
  have nD : H D4 = none := by
    cases e : H D4 with
    | none => rfl
    | some o =>
      rw [z3 _ _ (z2 _ _ (z1 _ _ e))] at d4
      cases d4
  have t34 : t3 ≠ D4 := ne_of_none (show upd _ t3 (.tup (cutV (V.str wd :: xs) (some 1) none)) t3 = some _ from upd_same) d4
  refine lc_tup (K := K) (a := t3) (xs := xs) (fun i H' => H' t3 = some (.tup xs) ∧ H' t2 = some (.tup [V.str wd]) ∧ (∃ us, H' D4 = some (.lst us) ∧ DRs H' us (fl.take i)) ∧ LamX.ExtN H H' ∧ LamX.Tabs (TT PT) H') ?_ (fun i H' hi h => SqT.of h.1) (fun i x H' hx h => ?_) (fun H' h => ?_)
  · refine ⟨z4 _ _ (by rw [upd_same, ecut2]), z4 _ _ (z3 _ _ upd_same), ⟨[], upd_same, .nil⟩, .of s4, hT.ext s4⟩
  · obtain ⟨h3, h2, ⟨us, hD, hds⟩, hk, hT'⟩ := h
    have hiv : i < xs.length := (List.getElem?_eq_some_iff.mp hx).1
    obtain ⟨d, hd1, hd2⟩ := hxs.getV hx
    obtain ⟨e, he1⟩ : ∃ e, fl[i]? = some e := ⟨_, List.getElem?_eq_getElem (by omega)⟩
    have etk : fl.take (i + 1) = fl.take i ++ [e] := by rw [List.take_add_one, he1]; rfl
    have hul : us.length ≤ 3 := by
      have := hds.length
      rw [List.length_take] at this
      omega
    have hd3 := hd2.kt (ExtN.kt hk)
    have put : ∀ (v6 : V) (H6 : Hp), DR H6 v6 e → LamX.ExtN H' H6 → LamX.Tabs (TT PT) H6 → ∃ acc, H6 D4 = some (.lst acc) ∧ acc.length < sizeLine ∧ upd H6 D4 (.lst (acc ++ [v6])) t3 = some (.tup xs) ∧ upd H6 D4 (.lst (acc ++ [v6])) t2 = some (.tup [V.str wd]) ∧
        (∃ us, upd H6 D4 (.lst (acc ++ [v6])) D4 = some (.lst us) ∧ DRs (upd H6 D4 (.lst (acc ++ [v6]))) us (fl.take (i + 1))) ∧ LamX.ExtN H (upd H6 D4 (.lst (acc ++ [v6]))) ∧ LamX.Tabs (TT PT) (upd H6 D4 (.lst (acc ++ [v6]))) := fun v6 H6 hd6 x6 T6 => by
      have hD6 := x6 _ _ hD fun ps z => by cases z
      have kt6 : KT H6 (upd H6 D4 (.lst (us ++ [v6]))) := KT.set hD6 fun ys z => by cases z
      refine ⟨us, hD6, small1000 (by omega), kt6 _ _ (ExtN.kt x6 _ _ h3), kt6 _ _ (ExtN.kt x6 _ _ h2), ⟨us ++ [v6], upd_same, ?_⟩, fun b o e n => ?_, TabsSetL T6 hD6⟩
      · rw [etk]
        exact ((hds.kt (ExtN.kt x6)).kt kt6).append (.cons (hd6.kt kt6) .nil)
      · rw [upd_ne (ne_of_none e nD)]
        exact x6 _ _ (hk _ _ e n) n
    rcases hp i d e hd1 he1 with ⟨u, rfl, rfl, l1, l2, fu, pu, ou⟩ | ⟨ky, rfl, rfl⟩
    · have hul2 : u.lev + 2 ≤ n := by
        rcases hlev with ⟨z1, _, z3⟩ | ⟨z1, z3⟩
        · have := l2 z1
          omega
        · have := l1 z1
          omega
      obtain ⟨m, rfl⟩ : ∃ m, n = m + 2 := ⟨n - 2, by omega⟩
      obtain rfl := hE m rfl
      obtain ⟨pa, prest, rfl, hpa⟩ : ∃ pa prest, x = .ref pa ∧ H' pa = some (.tup prest) := by
        cases u <;> (obtain ⟨a0, xs0, e0, ha0, _⟩ := DR.tup_inv hd3; exact ⟨a0, xs0, e0, ha0⟩)
      refine ⟨rfl, _, rfl, _, _, _, _, _, rfl, .ty "tuple", .base (.tup hpa), kit_ty (b := "tuple") (r := true) (by decide +kernel), _, rfl, ?_⟩
      refine ⟨_, rfl, _, u, rfl, hd3, ou, by omega, fu, pu, hT', fun v6 H6 x6 T6 h6 => ?_⟩
      exact put v6 H6 h6 x6 T6
    · cases hd3.int_inv
      refine ⟨rfl, _, rfl, _, _, _, _, _, rfl, .ty "tuple", .base (.int ky), kit_ty (b := "tuple") (r := false) (by decide +kernel), _, rfl, ?_⟩
      exact ⟨_, rfl, put _ H' (.int ky) (.refl _) hT'⟩
  · obtain ⟨h3, h2, ⟨us, hD, hds⟩, hk, hT'⟩ := h
    rw [List.take_of_length_le (by omega)] at hds
    refine ⟨D4, us, rfl, .inl ⟨SqL.of hD, fun t5 n5 => ?_⟩⟩
    have z5 := same_upd (o := .tup us) n5
    have hul : us.length = fl.length := hds.length
    refine ⟨t2, t5, [V.str wd], us, rfl, rfl, SqT.of (z5 _ _ h2), SqT.of upd_same, small20 (by rw [List.length_singleton]; omega), fun z => absurd z (by simp), fun _ z => ?_, fun _ _ t6 n6 => ?_⟩
    · rw [z] at hul
      simp at hul
      omega
    have z6 := same_upd (o := .tup ([V.str wd] ++ us)) n6
    refine kk _ _ (fun b o e n => z6 _ _ (z5 _ _ (hk _ _ e n))) ((hT'.ext z5).ext z6) ?_
    rw [he]
    exact .tup upd_same (.cons (.str _) ((hds.kt (.of z5)).kt (.of z6)))
end
end Lw
/-! Part F5: gather. -/
namespace Lw
open PySem PySem.Spec L2 L2.DX PyProof.Rows
theorem scl_scl (a b : Int) (l : List Ent) : (l.map (Ent.scl a)).map (Ent.scl b) = l.map (Ent.scl (b * a)) := by
  rw [List.map_map]
  refine List.map_congr_left fun x _ => ?_
  show (⟨x.a, b * (a * x.w), x.f⟩ : Ent) = ⟨x.a, b * a * x.w, x.f⟩
  rw [Int.mul_assoc]
theorem foldl_len (l D : List Ent) : (l.foldl putE D).length ≤ D.length + l.length := by
  induction l generalizing D with
  | nil => exact Nat.le_refl _
  | cons e l ih =>
    have h1 := ih (putE D e)
    have h2 := putE_len D e
    rw [List.foldl_cons, List.length_cons]
    omega
theorem ats_cnt : ∀ t : Tm, (ats t).length = cnt t
  | .num _ => rfl
  | .name _ => rfl
  | .add t u => by
    show (ats t ++ ats u).length = cnt t + cnt u
    rw [List.length_append, ats_cnt t, ats_cnt u]
  | .mul n t => by
    show ((ats t).map _).length = cnt t
    rw [List.length_map, ats_cnt t]
  | .read _ _ => rfl
  | .size _ => rfl
  | .div _ _ => rfl
  | .mod _ _ => rfl
  | .row _ => rfl
  | .wth _ _ _ => rfl
  | .room _ => rfl
theorem log_big {n : Nat} (h : n ≤ big) : n.log2 ≤ 1900 := by
  by_cases z : n = 0
  · subst z
    decide
  · have h1 : n < 2 ^ 1901 := Nat.lt_of_le_of_lt h (by unfold big; exact Nat.pow_lt_pow_right (by decide) (by decide))
    have := (Nat.log2_lt z).mpr h1
    omega
theorem cmul_big {i j : Int} (hi : i.natAbs ≤ big) (hj : j.natAbs ≤ big) : CMulW i j := by
  have := log_big hi
  have := log_big hj
  unfold CMulW
  omega
theorem Kp.trans' {A : Addr} {H H1 H2 : Hp} (a : Kp A H H1) (b : Kp A H1 H2) : Kp A H H2 := fun c o e n t => b c o (a c o e n t) n t
theorem atom_word {H : Hp} {v : V} {t : Tm} (h : TR H v t) (ha : t.isAtom = true) : ∃ a wd rest, v = .ref a ∧ H a = some (.tup (.str wd :: rest)) ∧ wd ≠ Str.ofString "num" ∧ wd ≠ Str.ofString "add" ∧ wd ≠ Str.ofString "mul" := by
  have key : ∀ (wd : Str) (ds : List PyData), t.d = .tuple (.str wd :: ds) → wd ≠ Str.ofString "num" → wd ≠ Str.ofString "add" → wd ≠ Str.ofString "mul" → ∃ a wd rest, v = .ref a ∧ H a = some (.tup (.str wd :: rest)) ∧ wd ≠ Str.ofString "num" ∧ wd ≠ Str.ofString "add" ∧ wd ≠ Str.ofString "mul" := fun wd ds e h1 h2 h3 => by
    unfold TR at h
    rw [e] at h
    obtain ⟨a, ys, rfl, ha, hx⟩ := DR.tup_inv h
    obtain ⟨x0, r0, rfl, g0, hy⟩ := hx.cons_inv
    cases g0.str_inv
    exact ⟨a, wd, r0, rfl, ha, h1, h2, h3⟩
  cases t <;> first | exact absurd (show false = true from ha) (by decide) | exact key _ _ rfl (by decide) (by decide) (by decide)
theorem scGather : FnScope ["atoms", "term", "often", "word", "number"] ["atoms", "term", "often"] (defScope (top 5)) := ⟨rfl, rfl, rfl, by decide +kernel, rfl, by decide +kernel, by decide +kernel⟩
section
variable {P : Program} {w : World} {K : PySem.W.Frag} {mg' : Str → Option Value} {base : Heap} {PT : Addr} {ns rs : List Key}
theorem st_gather (D : Df K mg' "gather" 5) (DP : Df K mg' "put_pair" 4) (n k : Nat) (IG : ∀ m, n = m + 1 → Gg P w K mg' base k "gather" ["atoms", "term", "often"] (spGather PT ns rs m)) (IP : ∀ m, n = m + 1 → Gg P w K mg' base k "put_pair" ["atoms", "atom", "weight"] (spPutP PT ns rs m)) :
    Gg P w K mg' base (k + 1) "gather" ["atoms", "term", "often"] (spGather PT ns rs n) := by
  have bG : BindT "gather" 5 ["atoms", "term", "often"] := fun _ _ _ _ _ _ us hl => match us, hl with | [_, _, _], _ => rfl
  obtain ⟨spE, spF, GE, GF, hE⟩ : ∃ spE spF : Sp, Gg P w K mg' base k "gather" ["atoms", "term", "often"] spE ∧ Gg P w K mg' base k "put_pair" ["atoms", "atom", "weight"] spF ∧ ∀ m, n = m + 1 → spE = spGather PT ns rs m ∧ spF = spPutP PT ns rs m := by
    cases n with
    | zero => exact ⟨fun _ _ _ _ => False, fun _ _ _ _ => False, Gg.never D bG fun _ _ _ _ z => z, Gg.never DP (fun _ _ _ _ _ _ us hl => match us, hl with | [_, _, _], _ => rfl) fun _ _ _ _ z => z, fun n' e => by omega⟩
    | succ m => exact ⟨_, _, IG m rfl, IP m rfl, fun m e => by cases e; exact ⟨rfl, rfl⟩⟩
  refine okGg D scGather bG (fun vs H Q E h => ?_) (fun f cdv A out s H vs Q E gd hr h => ?_)
  · obtain ⟨B, v, t, i, Ds, rfl, _⟩ := h
    rfl
  obtain ⟨B, v, t, i, Ds, rfl, hD, hDl, ht, hok, hlev, hf, hmg, hT, kk⟩ := h
  have nd := scGather.nd
  refine ⟨_, pss_cons (ps_set (i := 3) nd rfl (Or.inl rfl) (pe_ix ix_tup (pv 1) pe_int (fun _ _ => rfl)))
    (pss_cons (ps_if (pt_cmpR op_eq (pv 3) pe_str (nomark _)) (pss_one (ps_ret (pe_op op_mulW (pv 2) (pe_ix ix_tup (pv 1) pe_int (fun _ _ => rfl))))) pss_nil)
    (pss_cons (ps_if (pt_cmpR op_eq (pv 3) pe_str (nomark _)) (pss_cons (ps_set (i := 4) nd rfl (Or.inl rfl) (pe_g GE gd hr rfl (pa_cons (pv 0) (pa_cons (pe_ix ix_tup (pv 1) pe_int (fun _ _ => rfl)) (pa_cons (pv 2) pa_nil)))))
      (pss_one (ps_ret (pe_op op_add (pv 4) (pe_g GE gd hr rfl (pa_cons (pv 0) (pa_cons (pe_ix ix_tup (pv 1) pe_int (fun _ _ => rfl)) (pa_cons (pv 2) pa_nil)))))))) pss_nil)
    (pss_cons (ps_if (pt_cmpR op_eq (pv 3) pe_str (nomark _)) (pss_one (ps_ret (pe_g GE gd hr rfl (pa_cons (pv 0) (pa_cons (pe_ix ix_tup (pv 1) pe_int (fun _ _ => rfl)) (pa_cons (pe_op op_mulW (pv 2) (pe_ix ix_tup (pv 1) pe_int (fun _ _ => rfl))) pa_nil)))))) pss_nil)
    (pss_cons (ps_expr (pe_g GF gd hr rfl (pa_cons (pv 0) (pa_cons (pv 1) (pa_cons (pv 2) pa_nil)))))
    (pss_one (ps_ret pe_int)))))), ?_⟩
  obtain ⟨m, rfl⟩ : ∃ m, n = m + 1 := ⟨n - 1, by have := t.lev_pos; omega⟩
  obtain ⟨rfl, rfl⟩ := hE m rfl
  have hib : i.natAbs ≤ big := Nat.le_trans (Nat.le_succ _) (Nat.le_trans (Nat.le_mul_of_pos_right _ (mg_pos t)) hmg)
  by_cases hat : t.isAtom = true
  · obtain ⟨a, wd, rest, rfl, ha, w1, w2, w3⟩ := atom_word ht hat
    refine ⟨_, rfl, a, _, _, _, rfl, rfl, SqT.of ha, atI_head _ _, _, rfl, rfl, _, rfl, ite2 (fun c => absurd c (by rw [eqs_false w1]; decide)) (fun _ => ?_)⟩
    refine ⟨_, rfl, rfl, _, rfl, ite2 (fun c => absurd c (by rw [eqs_false w2]; decide)) (fun _ => ?_)⟩
    refine ⟨_, rfl, rfl, _, rfl, ite2 (fun c => absurd c (by rw [eqs_false w3]; decide)) (fun _ => ?_)⟩
    refine ⟨_, rfl, _, rfl, _, rfl, B, _, t, i, Ds, rfl, hD, by omega, ht, hok, hat, hlev, hf, hT, fun H1 k1 T1 D1 => ?_⟩
    have e1 : ((ats t).map (Ent.scl i)).foldl putE Ds = putE Ds ⟨t, i, inn t⟩ := by
      cases t <;> first | exact absurd (show false = true from hat) (by decide) | (show putE Ds ⟨_, i * 1, _⟩ = _; rw [Int.mul_one]; rfl)
    have e2 : i * nb t = 0 := by
      cases t <;> first | exact absurd (show false = true from hat) (by decide) | exact Int.mul_zero i
    have q := kk H1 k1 T1 (by rw [e1]; exact D1)
    rw [e2] at q
    exact q
  have two : ∀ {us : List V} {p q : PyData}, DRs H us [p, q] → ∃ x y, us = [x, y] ∧ DR H x p ∧ DR H y q := fun h => by
    obtain ⟨x, r, rfl, g, h⟩ := h.cons_inv
    obtain ⟨y, r, rfl, g2, h⟩ := h.cons_inv
    cases h
    exact ⟨x, y, rfl, g, g2⟩
  cases t with
  | num j =>
    obtain ⟨a, ys, rfl, ha, hx⟩ := DR.tup_inv ht
    obtain ⟨x, y, rfl, g1, g2⟩ := two hx
    cases g1.str_inv
    cases g2.int_inv
    refine ⟨_, rfl, a, _, _, _, rfl, rfl, SqT.of ha, rfl, _, rfl, rfl, _, rfl, iteT ?_⟩
    refine ⟨_, rfl, _, rfl, a, _, _, _, rfl, rfl, SqT.of ha, rfl, _, _, rfl, rfl, cmul_big hib ?_, ?_⟩
    · exact Nat.le_trans (Nat.le_succ _) (Nat.le_trans (Nat.le_mul_of_pos_left _ (Nat.succ_pos _)) hmg)
    · exact kk H (fun b o e _ _ => e) hT hD
  | add t u =>
    obtain ⟨a, ys, rfl, ha, hx⟩ := DR.tup_inv ht
    obtain ⟨x0, r0, rfl, g0, hy⟩ := hx.cons_inv
    cases g0.str_inv
    obtain ⟨x, y, rfl, g1, g2⟩ := two hy
    have hl1 : t.lev ≤ m := by simp only [Tm.lev] at hlev; omega
    have hl2 : u.lev ≤ m := by simp only [Tm.lev] at hlev; omega
    have hc : cnt (t.add u) = cnt t + cnt u := rfl
    have hm1 : (i.natAbs + 1) * mg t ≤ big := Nat.le_trans (Nat.mul_le_mul_left _ (Nat.le_add_right _ _)) hmg
    have hm2 : (i.natAbs + 1) * mg u ≤ big := Nat.le_trans (Nat.mul_le_mul_left _ (Nat.le_add_left _ _)) hmg
    refine ⟨_, rfl, a, _, _, _, rfl, rfl, SqT.of ha, rfl, _, rfl, rfl, _, rfl, iteF ?_⟩
    refine ⟨_, rfl, rfl, _, rfl, iteT ?_⟩
    refine ⟨_, rfl, _, rfl, a, _, _, _, rfl, rfl, SqT.of ha, rfl, _, rfl, B, x, t, i, Ds, rfl, hD, by omega, g1, hok.1, hl1, hf.1, hm1, hT, fun H1 k1 T1 D1 => ?_⟩
    have kt1 := Kp.kt k1 hD.noTup
    have hl : (((ats t).map (Ent.scl i)).foldl putE Ds).length ≤ Ds.length + cnt t := by
      have := foldl_len ((ats t).map (Ent.scl i)) Ds
      rw [List.length_map, ats_cnt] at this
      exact this
    refine ⟨_, rfl, _, rfl, _, rfl, a, _, _, _, rfl, rfl, SqT.of (kt1 _ _ ha), rfl, _, rfl, B, y, u, i, _, rfl, D1, by omega, g2.kt kt1, hok.2, hl2, hf.2, hm2, T1, fun H2 k2 T2 D2 => ?_⟩
    refine ⟨_, _, rfl, rfl, ?_⟩
    have q := kk H2 (Kp.trans' k1 k2) T2 (by
      show DicR H2 B (((ats t ++ ats u).map (Ent.scl i)).foldl putE Ds)
      rw [List.map_append, List.foldl_append]
      exact D2)
    have e : i * nb (t.add u) = i * nb t + i * nb u := Int.mul_add _ _ _
    rw [e] at q
    exact q
  | mul j t =>
    obtain ⟨a, ys, rfl, ha, hx⟩ := DR.tup_inv ht
    obtain ⟨x0, r0, rfl, g0, hy⟩ := hx.cons_inv
    cases g0.str_inv
    obtain ⟨x, y, rfl, g1, g2⟩ := two hy
    cases g1.int_inv
    have hl1 : t.lev ≤ m := by simp only [Tm.lev] at hlev; omega
    have hm1 : ((i * j).natAbs + 1) * mg t ≤ big := by
      refine Nat.le_trans ?_ hmg
      show _ ≤ (i.natAbs + 1) * ((j.natAbs + 1) * mg t)
      rw [Int.natAbs_mul, ← Nat.mul_assoc]
      refine Nat.mul_le_mul_right _ ?_
      rw [Nat.add_mul, Nat.mul_add, Nat.one_mul, Nat.mul_one]
      omega
    have hjb : j.natAbs ≤ big := by
      refine Nat.le_trans ?_ hmg
      show _ ≤ (i.natAbs + 1) * ((j.natAbs + 1) * mg t)
      exact Nat.le_trans (Nat.le_succ _) (Nat.le_trans (Nat.le_mul_of_pos_right _ (mg_pos t)) (Nat.le_mul_of_pos_left _ (Nat.succ_pos _)))
    refine ⟨_, rfl, a, _, _, _, rfl, rfl, SqT.of ha, rfl, _, rfl, rfl, _, rfl, iteF ?_⟩
    refine ⟨_, rfl, rfl, _, rfl, iteF ?_⟩
    refine ⟨_, rfl, rfl, _, rfl, iteT ?_⟩
    refine ⟨_, rfl, _, rfl, a, _, _, _, rfl, rfl, SqT.of ha, rfl, _, rfl, _, rfl, a, _, _, _, rfl, rfl, SqT.of ha, rfl, _, _, rfl, rfl, cmul_big hib hjb, B, y, t, i * j, Ds, rfl, hD, hDl, g2, hok, hl1, hf, hm1, hT, fun H1 k1 T1 D1 => ?_⟩
    · have q := kk H1 k1 T1 (by
        show DicR H1 B ((((ats t).map (Ent.scl j)).map (Ent.scl i)).foldl putE Ds)
        rw [scl_scl]
        exact D1)
      have e : i * nb (Tm.mul j t) = i * j * nb t := (Int.mul_assoc _ _ _).symm
      rw [e] at q
      exact q
  | _ => exact absurd rfl hat
end
end Lw
/-! Part F6: loops over a dict's values; form_of. -/
namespace Lw
open PySem PySem.Spec L2 L2.DX PyProof.Rows
/-- a comprehension over d.values() -/
theorem lc_vals {d : Addr} {o : Obj} {kvs : List (Key × V)} {g : TG} {tt : L2.TT} {te : TE} {vs : List Nat} {σ : L2.St} {H1 : Hp} {D : Addr} {Qd : Hp → Prop} (Pv : Nat → Hp → Prop) (h0 : Pv 0 (upd H1 D (.lst []))) (hl : ∀ i H, i ≤ kvs.length → Pv i H → H d = some (.frz o (.dK kvs)))
    (hs : ∀ i k v H, kvs[i]? = some (k, v) → Pv i H → g v (wipe σ vs) H fun σ2 H2 => wipe σ2 vs = wipe σ vs ∧ tt σ2 H2 fun b H3 =>
      if b = true then te σ2 H3 fun y H4 => ∃ acc, H4 D = some (.lst acc) ∧ acc.length < sizeLine ∧ Pv (i + 1) (upd H4 D (.lst (acc ++ [y]))) else Pv (i + 1) H3) (hd : ∀ H, Pv kvs.length H → Qd H) :
    ∃ W : Nat → Nat → Hp → Prop, (∃ m, W 0 m (upd H1 D (.lst []))) ∧ ∀ i m H, W i m H →
      ((Itd d o kvs).stop i H ∧ Qd H) ∨ ((Itd d o kvs).go i H ∧ ∃ Nx : Hp → Prop, (∀ H', Nx H' → ∃ m', m' < m ∧ W (i + 1) m' H') ∧ ∀ y H', (Itd d o kvs).yld i H y H' → g y (wipe σ vs) H' fun σ2 H2 => wipe σ2 vs = wipe σ vs ∧ tt σ2 H2 fun b H3 =>
        if b = true then te σ2 H3 fun y H4 => ∃ acc, H4 D = some (.lst acc) ∧ acc.length < sizeLine ∧ Nx (upd H4 D (.lst (acc ++ [y]))) else Nx H3) := by
  refine ⟨fun i m H => m = kvs.length - i ∧ i ≤ kvs.length ∧ Pv i H, ⟨kvs.length, by simp, Nat.zero_le _, h0⟩, fun i m H hW => ?_⟩
  obtain ⟨em, hi, pv_⟩ := hW
  have q := hl i H hi pv_
  by_cases c : i < kvs.length
  · refine .inr ⟨⟨q, c⟩, Pv (i + 1), fun H' p' => ⟨kvs.length - (i + 1), by omega, rfl, c, p'⟩, fun y H' hy => ?_⟩
    obtain ⟨rfl, k, hk⟩ := hy
    exact hs i k y _ hk pv_
  · have e : i = kvs.length := by omega
    subst e
    exact .inl ⟨⟨q, Nat.le_refl _⟩, hd H pv_⟩
/-- form_of stands, its code object at c has its table at PT -/
def DfF (K : PySem.W.Frag) (mg : Str → Option Value) (base : Heap) (PT : Addr) : Prop := ∃ f fd c, FnP K "form_of" 3 f fd ∧ mg "form_of" = some (.ref f) ∧ LamX.TabB base mg c PT ∧
  ∀ cdv, (∃ oc od dV kV doc pm an ct osl, K.lookup f = some ⟨oc, od, .func (PySem.W.fnOf "form_of" "form_of" (defArgs (top 3)) (defBody (top 3)) (defScope (top 3)) dV kV doc pm an cdv ct), osl⟩) → cdv = .ref c
theorem scForm : FnScope ["thing", "atoms", "number", "forms", "atom", "weight", "form"] ["thing"] (defScope (top 3)) := ⟨rfl, rfl, rfl, by decide +kernel, rfl, by decide +kernel, by decide +kernel⟩
theorem nomem3 {z a b c : Str} (h1 : z ≠ a) (h2 : z ≠ b) (h3 : z ≠ c) : inV (.str z) [.str a, .str b, .str c] = false := by
  unfold inV
  rw [List.any_eq_false]
  intro y hy
  rcases List.mem_cons.mp hy with rfl | hy
  · show ¬ (a == z) = true
    exact fun e => h1 (eq_of_beq e).symm
  · rcases List.mem_cons.mp hy with rfl | hy
    · show ¬ (b == z) = true
      exact fun e => h2 (eq_of_beq e).symm
    · rcases List.mem_singleton.mp hy with rfl
      show ¬ (c == z) = true
      exact fun e => h3 (eq_of_beq e).symm
theorem TabsSetF {T : List (Addr × Str)} {H : Hp} {a : Addr} {o u : HO} {od : Obj} (h : LamX.Tabs T H) (e : H a = some (.frz od u)) : LamX.Tabs T (upd H a o) := fun p hp => by
  obtain ⟨ps, t1, t2, t3⟩ := h p hp
  have ne : ∀ b u, H b = some u → (∀ o' u', u ≠ .frz o' u') → b ≠ a := fun b u hb n z => by
    rw [z, e] at hb
    exact n _ _ (Option.some.inj hb).symm
  refine ⟨ps, by rw [upd_ne (ne _ _ t1 fun o' u' z => by cases z)]; exact t1, t2, fun pos cv hc => ?_⟩
  obtain ⟨c, e1, e2⟩ := t3 pos cv hc
  exact ⟨c, e1, by rw [upd_ne (ne _ _ e2 fun o' u' z => by unfold LamX.CodeO at z; cases z)]; exact e2⟩
theorem DRs.ofAll {H : Hp} : ∀ {zs : List (V × List PyData)}, (∀ z ∈ zs, DR H z.1 (.tuple z.2)) → DRs H (zs.map (·.1)) ((zs.map (·.2)).map .tuple)
  | [], _ => .nil
  | z :: zs, h => .cons (h z (List.mem_cons_self ..)) (DRs.ofAll fun y hy => h y (List.mem_cons_of_mem _ hy))
theorem DRs.sorted {H : Hp} {xs : List V} {ds : List (List PyData)} (h : DRs H xs (ds.map .tuple)) : DRs H ((sortZ (xs.zip ds)).map (·.1)) ((sortD ds).map .tuple) := by
  have hl : xs.length = ds.length := by rw [h.length, List.length_map]
  have e : (xs.zip ds).map (·.2) = ds := List.map_snd_zip (by omega)
  have q := DRs.ofAll (zs := sortZ (xs.zip ds)) fun z hz => DRs.zip h z ((List.mergeSort_perm _ _).mem_iff.mp hz)
  rw [sortZ_snd, e] at q
  exact q
theorem liveE_take {D : List Ent} {i : Nat} {e : Ent} (he : D[i]? = some e) : liveE (D.take (i + 1)) = liveE (D.take i) ++ (if (!decide (e.w = 0)) = true then [e] else []) := by
  unfold liveE
  rw [List.take_add_one, he, List.filter_append]
  show _ ++ List.filter _ [e] = _
  rw [List.filter_cons]
  rfl
theorem scl_one (l : List Ent) : l.map (Ent.scl 1) = l := by
  have : (Ent.scl 1) = id := by
    funext x
    show (⟨x.a, 1 * x.w, x.f⟩ : Ent) = x
    rw [Int.one_mul]
  rw [this, List.map_id]
section
variable {P : Program} {w : World} {K : PySem.W.Frag} {mg' : Str → Option Value} {base : Heap} {PT : Addr} {ns rs : List Key}
theorem st_form (D : DfF K mg' base PT) (mt : mg' "tuple" = none) (ms : mg' "sorted" = none) (mr : mg' "repr" = none) {rw_ : Addr} (hrw : mg' "ROW_WORDS" = some (.ref rw_)) (hrw2 : ∀ H, SqT K H rw_ [.str "row", .str "with", .str "room"]) (n k : Nat) (hk : 4 ≤ k)
    (IG : Gg P w K mg' base k "gather" ["atoms", "term", "often"] (spGather PT ns rs n)) (II : Gg P w K mg' base k "inner_form" ["thing"] (spInner PT ns rs n)) : Gg P w K mg' base (k + 1) "form_of" ["thing"] (spForm PT ns rs n) := by
  obtain ⟨f, fd, c, F, hm, TB, hc⟩ := D
  refine ⟨f, fd, okG F scForm (fun vs H Q E h => ?_) (fun cdv A out s H vs Q E gd hlk hr h => ?_), hm, F.kp, F.bindsN (fun _ _ _ _ _ _ us hl => match us, hl with | [_], _ => rfl), fdAt_of F⟩
  · obtain ⟨v, t, rfl, _⟩ := h
    rfl
  obtain ⟨v, t, rfl, ht, hok, hlev, hf, hp, hT, kk⟩ := h
  obtain rfl := hc cdv hlk
  have nd := scForm.nd
  have hr4 := hr.mono hk
  refine ⟨_, pss_cons (ps_if (pt_cmpR op_in_seq (pe_ix ix_tup (pv 0) pe_int (fun _ _ => rfl)) (pe_glob (v := .ref rw_) rfl hrw rfl) (by rfl)) (pss_one (ps_ret (pe_g II gd hr rfl (pa_cons (pv 0) pa_nil)))) pss_nil)
    (pss_cons (ps_set (i := 1) nd rfl (Or.inl rfl) pe_dnewK)
    (pss_cons (ps_set (i := 2) nd rfl (Or.inl rfl) (pe_g IG gd hr rfl (pa_cons (pv 1) (pa_cons (pv 0) (pa_cons pe_int pa_nil)))))
    (pss_cons (ps_lock (ps_setLc (i := 3) (own := [("atom", 4), ("weight", 5), ("form", 6)]) (g := gTup K 3 (gCons (gName 4) (gCons (gName 5) (gCons (gName 6) gNil)))) rfl nd rfl rfl (sw_true rfl rfl rfl (by decide +kernel)) (pi_values (pv 1)) (blkOk_by (own := [("atom", 4), ("weight", 5), ("form", 6)]) (N := ["thing", "atoms", "number", "forms", "atom", "weight", "form"]) (sc := defScope (top 3)) (by decide +kernel))
          (fun _ _ _ _ _ => pg_tup rfl (pgs_cons (pg_name (i := 4) nd rfl (Or.inl rfl)) (pgs_cons (pg_name (i := 5) nd rfl (Or.inl rfl)) (pgs_cons (pg_name (i := 6) nd rfl (Or.inl rfl)) pgs_nil)))) (fun _ _ _ _ _ => pts_one (pt_cmpR op_ne (pv 5) pe_int (nomark _))) (fun _ _ _ _ _ => pe_tup (pa_cons (pv 6) (pa_cons (pv 5) pa_nil)))))
    (pss_one (ps_ret (pe_tup (pa_cons pe_str (pa_cons (pe_callTy call_tuple_of rfl mt boot_tuple (pa_cons (pe_sortLam (T := TT PT) (k := 0) (pv 3) gd hr4 rfl ms mr TB rfl (List.mem_singleton.mpr rfl) (fun p hp _ => by rw [List.mem_singleton.mp hp]; rfl) ⟨rfl, rfl, rfl, by decide +kernel, rfl, by decide +kernel, by decide +kernel⟩ rfl rfl rfl (by decide +kernel) rfl (fun _ _ _ _ _ => rfl)) pa_nil)) (pa_cons (pv 2) pa_nil))))))))), ?_⟩
  obtain ⟨a, ys, rfl, ha, hx⟩ : ∃ a ys, v = .ref a ∧ H a = some (.tup ys) ∧ ∃ wd rest, ys = .str wd :: rest ∧ ((wd = Str.ofString "row" ∨ wd = Str.ofString "with" ∨ wd = Str.ofString "room") ↔ t.isRow = true) := by
    have key : ∀ (wd : Str) (ds : List PyData), t.d = .tuple (.str wd :: ds) → ((wd = Str.ofString "row" ∨ wd = Str.ofString "with" ∨ wd = Str.ofString "room") ↔ t.isRow = true) → ∃ a ys, v = .ref a ∧ H a = some (.tup ys) ∧ ∃ wd rest, ys = .str wd :: rest ∧ ((wd = Str.ofString "row" ∨ wd = Str.ofString "with" ∨ wd = Str.ofString "room") ↔ t.isRow = true) := fun wd ds e h1 => by
      unfold TR at ht
      rw [e] at ht
      obtain ⟨a, ys, rfl, ha, hx⟩ := DR.tup_inv ht
      obtain ⟨x0, r0, rfl, g0, hy⟩ := hx.cons_inv
      cases g0.str_inv
      exact ⟨a, _, rfl, ha, wd, r0, rfl, h1⟩
    cases t <;> refine key _ _ rfl ?_ <;> first | exact ⟨fun _ => rfl, fun _ => by decide⟩ | exact ⟨fun z => absurd z (by decide), fun z => absurd (show false = true from z) (by decide)⟩
  obtain ⟨wd, rest, rfl, hwd⟩ := hx
  refine ⟨_, rfl, a, _, _, _, rfl, rfl, SqT.of ha, atI_head _ _, rw_, _, rfl, .inr (hrw2 H), rfl, rfl, _, rfl, ite2 (fun cnd => ?_) (fun cnd => ?_)⟩
  · by_cases hrow : t.isRow = true
    · refine ⟨_, rfl, _, t, rfl, ht, hok, .inr ⟨hrow, hlev⟩, hf, hT, fun v' H' x1 T1 h1 => kk v' H' x1 T1 ?_⟩
      unfold frm
      rw [if_pos hrow]
      exact h1
    · exfalso
      have h3 : ¬ (wd = Str.ofString "row" ∨ wd = Str.ofString "with" ∨ wd = Str.ofString "room") := fun z => hrow (hwd.mp z)
      have : inV (V.str wd) [V.str (Str.ofString "row"), V.str (Str.ofString "with"), V.str (Str.ofString "room")] = false := nomem3 (fun z => h3 (.inl z)) (fun z => h3 (.inr (.inl z))) (fun z => h3 (.inr (.inr z)))
      have cnd : inV (V.str wd) [V.str (Str.ofString "row"), V.str (Str.ofString "with"), V.str (Str.ofString "room")] = true := cnd
      rw [this] at cnd
      cases cnd
  · have hrow : t.isRow = false := by
      cases e : t.isRow with
      | false => rfl
      | true =>
        exfalso
        rcases hwd.mpr e with rfl | rfl | rfl <;> exact cnd rfl
    have hpo := hp hrow
    obtain ⟨b, hokb⟩ := hok
    have hok : Ok ns rs false t := by
      cases b with
      | false => exact hokb
      | true => rw [hokb.isRow] at hrow; cases hrow
    intro B nB
    have z1 := same_upd (o := .dK []) nB
    refine ⟨_, rfl, _, rfl, B, _, t, 1, [], rfl, ⟨.nil, [], upd_same, rfl, fun i kv e h1 => by simp at h1⟩, by have := hpo.2.2; simp only [List.length_nil]; omega, ht.kt (.of z1), hok, hlev, hf, hpo.2.1, hT.ext z1, fun H1 k1 T1 D1 => ?_⟩
    rw [scl_one] at D1
    have D1 : DicR H1 B (mrg (ats t)) := D1
    obtain ⟨ndD, kvs, hB1, hkl, hkr⟩ := D1
    have hDl : (mrg (ats t)).length ≤ 500 := by
      have h1 := foldl_len (ats t) []
      have h2 := hpo.2.2
      rw [ats_cnt] at h1
      simp only [List.length_nil] at h1
      unfold mrg
      omega
    refine ⟨B, .dK kvs, hB1, trivial, fun od => ?_⟩
    have hB2 : upd H1 B (.frz od (.dK kvs)) B = some (.frz od (.dK kvs)) := upd_same
    have kt2 : KT H1 (upd H1 B (.frz od (.dK kvs))) := KT.set hB1 fun xs z => by cases z
    refine ⟨_, rfl, B, od, kvs, rfl, hB2, fun D4 d4 => ?_⟩
    have z4 := same_upd (o := .lst []) d4
    have hBD : B ≠ D4 := ne_of_none hB2 d4
    have nD1 : H1 D4 = none := by rw [upd_ne (Ne.symm hBD)] at d4; exact d4
    refine lc_vals (fun i H' => H' B = some (.frz od (.dK kvs)) ∧ Same (upd H1 B (.frz od (.dK kvs))) H' ∧ ∃ us, H' D4 = some (.lst us) ∧ DRs H' us (((liveE ((mrg (ats t)).take i)).map pairF).map .tuple)) ⟨z4 _ _ hB2, z4, [], upd_same, .nil⟩ (fun i H' hi h => h.1) (fun i kx vx H' hx h => ?_) (fun H' h => ?_)
    · obtain ⟨hB', s', us, hD, hus⟩ := h
      have hil : i < kvs.length := (List.getElem?_eq_some_iff.mp hx).1
      obtain ⟨e, he⟩ : ∃ e, (mrg (ats t))[i]? = some e := ⟨_, List.getElem?_eq_getElem (by omega)⟩
      obtain ⟨_, b1, va, vf, hv1, hb1, hva, hvf⟩ := hkr i _ e hx he
      have hv1 : vx = .ref b1 := hv1
      subst hv1
      have hb2 := s' _ _ (kt2 _ _ hb1)
      have hvf' := (hvf.kt kt2).kt (.of s')
      have etk := liveE_take he
      have hul : us.length ≤ 500 := by
        have h1 := hus.length
        rw [List.length_map, List.length_map] at h1
        have h2 : (liveE ((mrg (ats t)).take i)).length ≤ ((mrg (ats t)).take i).length := List.length_filter_le _ _
        rw [List.length_take] at h2
        omega
      refine ⟨b1, _, rfl, SqT.of hb2, rfl, _, _, rfl, _, _, rfl, _, _, rfl, rfl, rfl, ?_⟩
      refine ⟨_, rfl, rfl, _, rfl, ite2 (fun dd => ?_) (fun dd => ?_)⟩
      · have hw : e.w ≠ 0 := fun z => by
          have dd : (!decide (V.int e.w = V.int 0)) = true := dd
          rw [z] at dd
          exact absurd dd (by decide)
        rw [decide_eq_false hw, if_pos (by decide)] at etk
        refine ⟨_, rfl, _, rfl, by show 2 ≤ sizeLine; decide, fun t6 n6 => ?_⟩
        have z6 := same_upd (o := .tup [vf, .int e.w]) n6
        have kt7 : KT (upd H' t6 (.tup [vf, .int e.w])) (upd (upd H' t6 (.tup [vf, .int e.w])) D4 (.lst (us ++ [.ref t6]))) := KT.set (z6 _ _ hD) fun xs z => by cases z
        refine ⟨us, z6 _ _ hD, small1000 (by omega), ?_, fun b o eo => ?_, us ++ [.ref t6], upd_same, ?_⟩
        · rw [upd_ne hBD]
          exact z6 _ _ hB'
        · rw [upd_ne (ne_of_none eo d4)]
          exact z6 _ _ (s' _ _ eo)
        · rw [etk, List.map_append, List.map_append]
          exact ((hus.kt (.of z6)).kt kt7).append (.cons (.tup (kt7 _ _ upd_same) (.cons ((hvf'.kt (.of z6)).kt kt7) (.cons (.int _) .nil))) .nil)
      · have hw : e.w = 0 := by
          by_cases z : e.w = 0
          · exact z
          · exact absurd (show (!decide (V.int e.w = V.int 0)) = true by rw [decide_eq_false (fun y => z (by injection y))]; rfl) dd
        rw [decide_eq_true hw, if_neg (by decide), List.append_nil] at etk
        refine ⟨hB', s', us, hD, ?_⟩
        rw [etk]
        exact hus
    · obtain ⟨hB', s', us, hD, hus⟩ := h
      rw [hkl, List.take_length] at hus
      have kt3 : KT H' (upd H' B (.dK kvs)) := KT.set hB' fun xs z => by cases z
      refine ⟨hB', ?_⟩
      have T2 : LamX.Tabs (TT PT) (upd H' B (.dK kvs)) := TabsSetF ((TabsSet T1 hB1).ext s') hB'
      refine ⟨_, rfl, D4, us, (liveE (mrg (ats t))).map pairF, rfl, ?_, hus.kt kt3, fun d hd => ?_, T2, fun H4 L x4 T4 n4 => ?_⟩
      · rw [upd_ne (Ne.symm hBD)]
        exact hD
      · obtain ⟨e, he, rfl⟩ := List.mem_map.mp hd
        exact hpo.1 e he
      · have z5 := same_upd (o := .lst ((sortZ (us.zip ((liveE (mrg (ats t))).map pairF))).map (·.1))) n4
        refine ⟨L, _, rfl, .inl ⟨SqL.of upd_same, fun t5 n5 => ?_⟩⟩
        have z6 := same_upd (o := .tup ((sortZ (us.zip ((liveE (mrg (ats t))).map pairF))).map (·.1))) n5
        refine ⟨_, rfl, by show 3 ≤ sizeLine; decide, fun t7 n7 => ?_⟩
        have z7 := same_upd (o := .tup [V.str "sum", .ref t5, .int (1 * nb t)]) n7
        refine kk _ _ (fun b o eo n => ?_) (((T4.ext z5).ext z6).ext z7) ?_
        · have hb : b ≠ B := ne_of_none eo nB
          have h1 := k1 _ _ (z1 _ _ eo) hb n
          refine z7 _ _ (z6 _ _ (z5 _ _ (x4 _ _ ?_ n)))
          rw [upd_ne hb]
          refine s' _ _ ?_
          rw [upd_ne hb]
          exact h1
        · unfold frm
          rw [hrow]
          have q := ((((hus.kt kt3).sorted.kt (ExtN.kt x4)).kt (.of z5)).kt (.of z6)).kt (.of z7)
          have qn : ∀ H0 : Hp, DR H0 (.int (1 * nb t)) (.int (nb t)) := fun H0 => by
            rw [Int.one_mul]
            exact .int _
          exact .tup upd_same (.cons (.str _) (.cons (.tup (z7 _ _ upd_same) q) (.cons (qn _) .nil)))
end
end Lw
/-! Part F7: the four together; pairs_left, sum_of. -/
namespace Lw
open PySem PySem.Spec L2 L2.DX PyProof.Rows
/-- what the four stand on -/
structure FmK (K : PySem.W.Frag) (mg' : Str → Option Value) (base : Heap) (PT : Addr) : Prop where
  inner : Df K mg' "inner_form" 2
  form : DfF K mg' base PT
  form' : Df K mg' "form_of" 3
  putp : Df K mg' "put_pair" 4
  gath : Df K mg' "gather" 5
  tup : mg' "tuple" = none
  srt : mg' "sorted" = none
  rpr : mg' "repr" = none
  isi : mg' "isinstance" = none
  rows : ∃ a : Addr, mg' "ROW_WORDS" = some (.ref a) ∧ ∀ H, SqT K H a [.str "row", .str "with", .str "room"]
structure Forms (P : Program) (w : World) (K : PySem.W.Frag) (mg' : Str → Option Value) (base : Heap) (PT : Addr) (ns rs : List Key) (n : Nat) : Prop where
  i : Gg P w K mg' base (n + 5) "inner_form" ["thing"] (spInner PT ns rs n)
  p : Gg P w K mg' base (n + 5) "put_pair" ["atoms", "atom", "weight"] (spPutP PT ns rs n)
  g : Gg P w K mg' base (n + 5) "gather" ["atoms", "term", "often"] (spGather PT ns rs n)
  f : Gg P w K mg' base (n + 6) "form_of" ["thing"] (spForm PT ns rs n)
section
variable {P : Program} {w : World} {K : PySem.W.Frag} {mg' : Str → Option Value} {base : Heap} {PT : Addr} {ns rs : List Key}
theorem ok_forms (F : FmK K mg' base PT) (n : Nat) : Forms P w K mg' base PT ns rs n := by
  induction n using Nat.strongRecOn with
  | ind n ih =>
    obtain ⟨rw_, h1, h2⟩ := F.rows
    have hi : Gg P w K mg' base (n + 5) "inner_form" ["thing"] (spInner PT ns rs n) := st_inner F.inner F.form' F.tup F.isi n (n + 4) fun m e => (ih m (by omega)).f.mono (by omega)
    have hp : Gg P w K mg' base (n + 5) "put_pair" ["atoms", "atom", "weight"] (spPutP PT ns rs n) := st_putP F.putp F.rpr n (n + 4) (fun m e => (ih m (by omega)).i.mono (by omega)) F.inner
    have hg : Gg P w K mg' base (n + 5) "gather" ["atoms", "term", "often"] (spGather PT ns rs n) := st_gather F.gath F.putp n (n + 4) (fun m e => (ih m (by omega)).g.mono (by omega)) (fun m e => (ih m (by omega)).p.mono (by omega))
    exact ⟨hi, hp, hg, st_form F.form F.tup F.srt F.rpr h1 h2 n (n + 5) (by omega) hg hi⟩
def pairA (e : Ent) : PyData := .tuple [e.a.d, .int e.w]
def spPairs : Sp := fun vs H Q _ => ∃ (A : Addr) (D : List Ent), vs = [.ref A] ∧ DicR H A D ∧ D.length ≤ 1000 ∧ ∀ v H', Same H H' → DR H' v (.tuple ((liveE D).map pairA)) → Q v H'
theorem scPairs : FnScope ["atoms", "atom", "weight", "form"] ["atoms"] (defScope (top 6)) := ⟨rfl, rfl, rfl, by decide +kernel, rfl, by decide +kernel, by decide +kernel⟩
theorem ok_pairs (D : Df K mg' "pairs_left" 6) (mt : mg' "tuple" = none) : Gv P w K mg' base 1 "pairs_left" ["atoms"] spPairs := by
  refine okV D scPairs (fun _ _ _ _ _ _ us hl => match us, hl with | [_], _ => rfl) (fun vs H Q E h => ?_) (fun f cdv A out s H vs Q E hr h => ?_)
  · obtain ⟨A, D, rfl, _⟩ := h
    rfl
  obtain ⟨B, Ds, rfl, hD, hDl, kk⟩ := h
  have nd := scPairs.nd
  refine ⟨_, pss_one (ps_ret (pe_callTy call_tuple_of rfl mt boot_tuple (pa_cons (pe_lock (pe_lc (own := [("atom", 1), ("weight", 2), ("form", 3)]) (g := gTup K 3 (gCons (gName 1) (gCons (gName 2) (gCons (gName 3) gNil)))) rfl nd (pi_values (pv 0)) (blkOk_by (own := [("atom", 1), ("weight", 2), ("form", 3)]) (N := ["atoms", "atom", "weight", "form"]) (sc := defScope (top 6)) (by decide +kernel))
          (fun _ _ _ _ _ => pg_tup rfl (pgs_cons (pg_name (i := 1) nd rfl (Or.inl rfl)) (pgs_cons (pg_name (i := 2) nd rfl (Or.inl rfl)) (pgs_cons (pg_name (i := 3) nd rfl (Or.inl rfl)) pgs_nil)))) (fun _ _ _ _ _ => pts_one (pt_cmpR op_ne (pv 2) pe_int (nomark _))) (fun _ _ _ _ _ => pe_tup (pa_cons (pv 1) (pa_cons (pv 2) pa_nil))))) pa_nil))), ?_⟩
  obtain ⟨ndD, kvs, hB1, hkl, hkr⟩ := hD
  refine ⟨B, .dK kvs, hB1, trivial, fun od => ?_⟩
  have hB2 : upd H B (.frz od (.dK kvs)) B = some (.frz od (.dK kvs)) := upd_same
  have kt2 : KT H (upd H B (.frz od (.dK kvs))) := KT.set hB1 fun xs z => by cases z
  refine ⟨_, rfl, B, od, kvs, rfl, hB2, fun D4 d4 => ?_⟩
  have z4 := same_upd (o := .lst []) d4
  have hBD : B ≠ D4 := ne_of_none hB2 d4
  refine lc_vals (fun i H' => H' B = some (.frz od (.dK kvs)) ∧ Same (upd H B (.frz od (.dK kvs))) H' ∧ ∃ us, H' D4 = some (.lst us) ∧ DRs H' us ((liveE (Ds.take i)).map pairA)) ⟨z4 _ _ hB2, z4, [], upd_same, .nil⟩ (fun i H' hi h => h.1) (fun i kx vx H' hx h => ?_) (fun H' h => ?_)
  · obtain ⟨hB', s', us, hD, hus⟩ := h
    have hil : i < kvs.length := (List.getElem?_eq_some_iff.mp hx).1
    obtain ⟨e, he⟩ : ∃ e, Ds[i]? = some e := ⟨_, List.getElem?_eq_getElem (by omega)⟩
    obtain ⟨_, b1, va, vf, hv1, hb1, hva, hvf⟩ := hkr i _ e hx he
    have hv1 : vx = .ref b1 := hv1
    subst hv1
    have hb2 := s' _ _ (kt2 _ _ hb1)
    have hva' := (hva.kt kt2).kt (.of s')
    have etk := liveE_take he
    have hul : us.length ≤ i := by
      have h1 := hus.length
      rw [List.length_map] at h1
      have h2 : (liveE (Ds.take i)).length ≤ (Ds.take i).length := List.length_filter_le _ _
      rw [List.length_take] at h2
      omega
    refine ⟨b1, _, rfl, SqT.of hb2, rfl, _, _, rfl, _, _, rfl, _, _, rfl, rfl, rfl, ?_⟩
    refine ⟨_, rfl, rfl, _, rfl, ite2 (fun dd => ?_) (fun dd => ?_)⟩
    · have hw : e.w ≠ 0 := fun z => by
        have dd : (!decide (V.int e.w = V.int 0)) = true := dd
        rw [z] at dd
        exact absurd dd (by decide)
      rw [decide_eq_false hw, if_pos (by decide)] at etk
      refine ⟨_, rfl, _, rfl, by show 2 ≤ sizeLine; decide, fun t6 n6 => ?_⟩
      have z6 := same_upd (o := .tup [va, .int e.w]) n6
      have kt7 : KT (upd H' t6 (.tup [va, .int e.w])) (upd (upd H' t6 (.tup [va, .int e.w])) D4 (.lst (us ++ [.ref t6]))) := KT.set (z6 _ _ hD) fun xs z => by cases z
      refine ⟨us, z6 _ _ hD, small1000 (by omega), ?_, fun b o eo => ?_, us ++ [.ref t6], upd_same, ?_⟩
      · rw [upd_ne hBD]
        exact z6 _ _ hB'
      · rw [upd_ne (ne_of_none eo d4)]
        exact z6 _ _ (s' _ _ eo)
      · rw [etk, List.map_append]
        exact ((hus.kt (.of z6)).kt kt7).append (.cons (.tup (kt7 _ _ upd_same) (.cons ((hva'.kt (.of z6)).kt kt7) (.cons (.int _) .nil))) .nil)
    · have hw : e.w = 0 := by
        by_cases z : e.w = 0
        · exact z
        · exact absurd (show (!decide (V.int e.w = V.int 0)) = true by rw [decide_eq_false (fun y => z (by injection y))]; rfl) dd
      rw [decide_eq_true hw, if_neg (by decide), List.append_nil] at etk
      refine ⟨hB', s', us, hD, ?_⟩
      rw [etk]
      exact hus
  · obtain ⟨hB', s', us, hD, hus⟩ := h
    rw [hkl, List.take_length] at hus
    have kt3 : KT H' (upd H' B (.dK kvs)) := KT.set hB' fun xs z => by cases z
    have s3 : Same H (upd H' B (.dK kvs)) := fun b o e => by
      by_cases hb : b = B
      · subst hb
        rw [upd_same, ← e, hB1]
      · rw [upd_ne hb]
        refine s' _ _ ?_
        rw [upd_ne hb]
        exact e
    refine ⟨hB', D4, us, rfl, .inl ⟨SqL.of (by rw [upd_ne (Ne.symm hBD)]; exact hD), fun t5 n5 => ?_⟩⟩
    have z5 := same_upd (o := .tup us) n5
    exact kk _ _ (fun b o e => z5 _ _ (s3 _ _ e)) (.tup upd_same ((hus.kt kt3).kt (.of z5)))
end
end Lw
/-! Part F8: sum_of, Line, line_between, line_of. -/
namespace Lw
open PySem PySem.Spec L2 L2.DX PyProof.Rows
/-- small enough to be gathered -/
def GOk (t : Tm) : Prop := FOk t ∧ 2 * mg t ≤ big ∧ cnt t ≤ 400
theorem scSumOf : FnScope ["term", "atoms", "number"] ["term"] (defScope (top 7)) := ⟨rfl, rfl, rfl, by decide +kernel, rfl, by decide +kernel, by decide +kernel⟩
def spSumOf (PT : Addr) (ns rs : List Key) (n : Nat) : Sp := fun vs H Q _ => ∃ (v : V) (t : Tm), vs = [v] ∧ TR H v t ∧ Ok ns rs false t ∧ t.lev ≤ n ∧ GOk t ∧ LamX.Tabs (TT PT) H ∧ ∀ v' H', LamX.ExtN H H' → LamX.Tabs (TT PT) H' → DR H' v' (.tuple [.tuple ((liveE (mrg (ats t))).map pairA), .int (nb t)]) → Q v' H'
theorem mrg_len (l : List Ent) : (mrg l).length ≤ l.length := by
  have := foldl_len l []
  simp only [List.length_nil] at this
  unfold mrg
  omega
theorem extN_of {A : Addr} {H H1 H2 : Hp} (nA : H A = none) (k : Kp A (upd H A (.dK [])) H1) (x : LamX.ExtN H1 H2) : LamX.ExtN H H2 := fun b o e n => x _ _ (k _ _ (same_upd nA _ _ e) (ne_of_none e nA) n) n
/-- the class Line stands at C -/
structure LineK (K : PySem.W.Frag) (mg' : Str → Option Value) (C : Addr) : Prop where
  cls : Cls K C
  nm : mg' "Line" = some (.ref C)
  mak : ∃ f fd, FnM K "__init__" "Line.__init__" 9 0 [] [] f fd ∧ Mk K C f
  no : ∀ x ∈ (["kind", "pairs", "number"] : List Str), NoAttr K C x
def lineFs (k p n : V) : List (Str × V) := [("kind", k), ("pairs", p), ("number", n)]
def spLine0 (C : Addr) : Sp := fun vs H Q _ => ∃ (me dx : Addr) (k p n : V), vs = [.ref me, k, p, n] ∧ H me = some (.ins C dx []) ∧ ∀ H', H' me = some (.ins C dx (lineFs k p n)) → (∀ b o, b ≠ me → H b = some o → H' b = some o) → Q .non H'
theorem scLine0 : FnScope ["self", "kind", "pairs", "number"] ["self", "kind", "pairs", "number"] (defScope (mth 9 0)) := ⟨rfl, rfl, rfl, by decide +kernel, rfl, by decide +kernel, by decide +kernel⟩
/-- the line made of two terms -/
def lineD (one other : Tm) : List Ent := liveE (mrg (ats one ++ (ats other).map (Ent.scl (-1))))
def LineR (CL : Addr) (H : Hp) (v : V) (k : Str) (one other : Tm) (more : Int) : Prop := ∃ (r dx : Addr) (p : V), v = .ref r ∧ H r = some (.ins CL dx (lineFs (.str k) p (.int (0 - (nb one + more + -1 * nb other))))) ∧ DR H p (.tuple ((lineD one other).map pairA))
def spBetw (PT CL : Addr) (ns rs : List Key) (n : Nat) : Sp := fun vs H Q _ => ∃ (k : Str) (v u : V) (one other : Tm) (more : Int), vs = [.str k, v, u, .int more] ∧ TR H v one ∧ TR H u other ∧ Ok ns rs false one ∧ Ok ns rs false other ∧ one.lev ≤ n ∧ other.lev ≤ n ∧ GOk one ∧ GOk other ∧ LamX.Tabs (TT PT) H ∧
  ∀ v' H', LamX.ExtN H H' → LamX.Tabs (TT PT) H' → LineR CL H' v' k one other more → Q v' H'
theorem scBetw : FnScope ["kind", "one", "other", "more", "atoms", "number"] ["kind", "one", "other", "more"] (defScope (top 10)) := ⟨rfl, rfl, rfl, by decide +kernel, rfl, by decide +kernel, by decide +kernel⟩
def Sy.line : Sy → Str × Tm × Tm × Int
  | .le a b => ("le", a, b, 0)
  | .eq a b => ("eq", a, b, 0)
  | .nle a b => ("le", b, a, 1)
def spLineOf (PT CL : Addr) (ns rs : List Key) (n : Nat) : Sp := fun vs H Q _ => ∃ (v : V) (s : Sy), vs = [v] ∧ DR H v s.d ∧ Ok ns rs false s.one ∧ Ok ns rs false s.two ∧ s.one.lev ≤ n ∧ s.two.lev ≤ n ∧ GOk s.one ∧ GOk s.two ∧ LamX.Tabs (TT PT) H ∧
  ∀ v' H', LamX.ExtN H H' → LamX.Tabs (TT PT) H' → LineR CL H' v' s.line.1 s.line.2.1 s.line.2.2.1 s.line.2.2.2 → Q v' H'
theorem scLineOf : FnScope ["saying", "word"] ["saying"] (defScope (top 11)) := ⟨rfl, rfl, rfl, by decide +kernel, rfl, by decide +kernel, by decide +kernel⟩
section
variable {P : Program} {w : World} {K : PySem.W.Frag} {mg' : Str → Option Value} {base : Heap} {PT CL : Addr} {ns rs : List Key}
theorem ok_sumof (D : Df K mg' "sum_of" 7) (n : Nat) (G : Gg P w K mg' base (n + 5) "gather" ["atoms", "term", "often"] (spGather PT ns rs n)) (GP : Gv P w K mg' base 1 "pairs_left" ["atoms"] spPairs) : Gg P w K mg' base (n + 6) "sum_of" ["term"] (spSumOf PT ns rs n) := by
  refine okGg D scSumOf (fun _ _ _ _ _ _ us hl => match us, hl with | [_], _ => rfl) (fun vs H Q E h => ?_) (fun f cdv A out s H vs Q E gd hr h => ?_)
  · obtain ⟨v, t, rfl, _⟩ := h
    rfl
  obtain ⟨v, t, rfl, ht, hok, hlev, hg, hT, kk⟩ := h
  have nd := scSumOf.nd
  refine ⟨_, pss_cons (ps_set (i := 1) nd rfl (Or.inl rfl) pe_dnewK)
    (pss_cons (ps_set (i := 2) nd rfl (Or.inl rfl) (pe_g G gd hr rfl (pa_cons (pv 1) (pa_cons (pv 0) (pa_cons pe_int pa_nil)))))
    (pss_one (ps_ret (pe_tup (pa_cons (pe_v (E := E0) GP (hr.mono (by omega)) rfl (pa_cons (pv 1) pa_nil)) (pa_cons (pv 2) pa_nil)))))), ?_⟩
  intro B nB
  have z1 := same_upd (o := .dK []) nB
  have hc := hg.2.2
  refine ⟨_, rfl, _, rfl, B, _, t, 1, [], rfl, ⟨.nil, [], upd_same, rfl, fun i kv e h1 => by simp at h1⟩, by simp only [List.length_nil]; omega, ht.kt (.of z1), hok, hlev, hg.1, hg.2.1, hT.ext z1, fun H1 k1 T1 D1 => ?_⟩
  rw [scl_one] at D1
  have D1 : DicR H1 B (mrg (ats t)) := D1
  have hl := mrg_len (ats t)
  rw [ats_cnt] at hl
  refine ⟨_, rfl, B, _, rfl, D1, by omega, fun v' H2 s2 hv => ⟨_, rfl, by show 2 ≤ sizeLine; decide, fun t3 n3 => ?_⟩⟩
  have z3 := same_upd (o := .tup [v', .int (1 * nb t)]) n3
  refine kk _ _ (extN_of nB k1 (.of fun b o e => z3 _ _ (s2 _ _ e))) ((T1.ext s2).ext z3) ?_
  have qn : ∀ H0 : Hp, DR H0 (.int (1 * nb t)) (.int (nb t)) := fun H0 => by
    rw [Int.one_mul]
    exact .int _
  exact .tup upd_same (.cons (hv.kt (.of z3)) (.cons (qn _) .nil))
theorem ok_line0 (D : LineK K mg' CL) : ∃ f fd, FnOk P w K mg' base CX0 1 f fd ["self", "kind", "pairs", "number"] (spLine0 CL) ∧ Mk K CL f ∧ L2.Binds K fd ["self", "kind", "pairs", "number"] [] := by
  obtain ⟨f, fd, F, M⟩ := D.mak
  refine ⟨f, fd, F.ok scLine0 (fun vs H Q E h => ?_) (fun cdv A out s H vs Q E hr h => ?_), M, F.bindsN (fun _ _ _ _ _ _ us hl => match us, hl with | [_, _, _, _], _ => rfl)⟩
  · obtain ⟨me, dx, k, p, n, rfl, _⟩ := h
    rfl
  obtain ⟨me, dx, k, p, n, rfl, hme, kk⟩ := h
  have nd := scLine0.nd
  refine ⟨_, PSs.nox (pss_cons (ps_fld (pv 0) (pv 1) rfl) (pss_cons (ps_fld (pv 0) (pv 2) rfl) (pss_one (ps_fld (pv 0) (pv 3) rfl)))), ?_⟩
  refine ⟨_, rfl, _, rfl, me, CL, dx, [], rfl, hme, D.cls, D.no _ (by simp), of_decide_eq_true rfl, ?_⟩
  refine ⟨_, rfl, _, rfl, me, CL, dx, _, rfl, upd_same, D.cls, D.no _ (by simp), of_decide_eq_true rfl, ?_⟩
  refine ⟨_, rfl, _, rfl, me, CL, dx, _, rfl, upd_same, D.cls, D.no _ (by simp), of_decide_eq_true rfl, ?_⟩
  refine kk _ upd_same fun b o hb e => ?_
  rw [upd_ne hb, upd_ne hb, upd_ne hb]
  exact e
theorem ok_betw (D : Df K mg' "line_between" 10) (L : LineK K mg' CL) (n : Nat) (G : Gg P w K mg' base (n + 5) "gather" ["atoms", "term", "often"] (spGather PT ns rs n)) (GP : Gv P w K mg' base 1 "pairs_left" ["atoms"] spPairs) : Gg P w K mg' base (n + 6) "line_between" ["kind", "one", "other", "more"] (spBetw PT CL ns rs n) := by
  refine okGg D scBetw (fun _ _ _ _ _ _ us hl => match us, hl with | [_, _, _, _], _ => rfl) (fun vs H Q E h => ?_) (fun f cdv A out s H vs Q E gd hr h => ?_)
  · obtain ⟨k, v, u, one, other, more, rfl, _⟩ := h
    rfl
  obtain ⟨k, v, u, one, other, more, rfl, h1, h2, ok1, ok2, lv1, lv2, g1, g2, hT, kk⟩ := h
  have nd := scBetw.nd
  obtain ⟨fi, fdi, FI, MI, BI⟩ := ok_line0 (P := P) (w := w) (base := base) L
  refine ⟨_, pss_cons (ps_set (i := 4) nd rfl (Or.inl rfl) pe_dnewK)
    (pss_cons (ps_set (i := 5) nd rfl (Or.inl rfl) (pe_op op_add (pe_op op_add (pe_g G gd hr rfl (pa_cons (pv 4) (pa_cons (pv 1) (pa_cons pe_int pa_nil)))) (pv 3)) (pe_g G gd hr rfl (pa_cons (pv 4) (pa_cons (pv 2) (pa_cons (pe_un un_neg pe_int) pa_nil))))))
    (pss_one (ps_ret (pe_make (E := E0) MI FI (hr.mono (by omega)) rfl L.nm BI .nil pass0 (pa_cons (pv 0) (pa_cons (pe_v (E := E0) GP (hr.mono (by omega)) rfl (pa_cons (pv 4) pa_nil)) (pa_cons (pe_op op_sub pe_int (pv 5)) pa_nil))))))), ?_⟩
  intro B nB
  have z1 := same_upd (o := .dK []) nB
  have hc1 := g1.2.2
  have hc2 := g2.2.2
  have e1 : (ats one).map (Ent.scl 1) = ats one := scl_one _
  refine ⟨_, rfl, _, rfl, B, _, one, 1, [], rfl, ⟨.nil, [], upd_same, rfl, fun i kv e h1 => by simp at h1⟩, by simp only [List.length_nil]; omega, h1.kt (.of z1), ok1, lv1, g1.1, g1.2.1, hT.ext z1, fun H1 k1 T1 D1 => ?_⟩
  rw [e1] at D1
  have D1 : DicR H1 B (mrg (ats one)) := D1
  have hl1 := mrg_len (ats one)
  rw [ats_cnt] at hl1
  have kt1 : KT H H1 := fun b xs e => k1 _ _ (z1 _ _ e) (ne_of_none e nB) fun ps z => by cases z
  refine ⟨_, rfl, _, _, rfl, rfl, _, rfl, _, rfl, _, rfl, B, _, other, -1, _, rfl, D1, by omega, h2.kt kt1, ok2, lv2, g2.1, g2.2.1, T1, fun H2 k2 T2 D2 => ?_⟩
  have D2 : DicR H2 B (mrg (ats one ++ (ats other).map (Ent.scl (-1)))) := by
    unfold mrg
    rw [List.foldl_append]
    exact D2
  have hl2 := mrg_len (ats one ++ (ats other).map (Ent.scl (-1)))
  rw [List.length_append, List.length_map, ats_cnt, ats_cnt] at hl2
  refine ⟨_, _, rfl, rfl, ?_⟩
  refine ⟨_, rfl, _, rfl, B, _, rfl, D2, by omega, fun pv' H3 s3 hp => ⟨_, rfl, _, _, rfl, rfl, fun me dx nm nx ndm => ?_⟩⟩
  refine ⟨me, dx, _, _, _, rfl, upd_same, fun H4 h4 h5 => ⟨rfl, ?_⟩⟩
  have s4 : Same H3 H4 := keepsNew (C := CL) nm nx h5
  refine kk _ _ (extN_of nB (Kp.trans' k1 k2) (.of fun b o e => s4 _ _ (s3 _ _ e))) ((T2.ext s3).ext s4) ⟨me, dx, pv', rfl, ?_, hp.kt (.of s4)⟩
  rw [h4]
  have e2 : (1 * nb one + more + -1 * nb other : Int) = nb one + more + -1 * nb other := by rw [Int.one_mul]
  rw [← e2]
theorem ok_lineof (D : Df K mg' "line_of" 11) (n : Nat) (G : Gg P w K mg' base (n + 6) "line_between" ["kind", "one", "other", "more"] (spBetw PT CL ns rs n)) : Gg P w K mg' base (n + 7) "line_of" ["saying"] (spLineOf PT CL ns rs n) := by
  refine okGg D scLineOf (fun _ _ _ _ _ _ us hl => match us, hl with | [_], _ => rfl) (fun vs H Q E h => ?_) (fun f cdv A out s H vs Q E gd hr h => ?_)
  · obtain ⟨v, sy, rfl, _⟩ := h
    rfl
  obtain ⟨v, sy, rfl, hs, ok1, ok2, lv1, lv2, g1, g2, hT, kk⟩ := h
  have nd := scLineOf.nd
  refine ⟨_, pss_cons (ps_set (i := 1) nd rfl (Or.inl rfl) (pe_ix ix_tup (pv 0) pe_int (fun _ _ => rfl)))
    (pss_cons (ps_if (pt_cmpR op_in_seq (pv 1) (pe_tup (pa_cons pe_str (pa_cons pe_str pa_nil))) (by rfl)) (pss_one (ps_ret (pe_g G gd hr rfl (pa_cons (pv 1) (pa_cons (pe_ix ix_tup (pv 0) pe_int (fun _ _ => rfl)) (pa_cons (pe_ix ix_tup (pv 0) pe_int (fun _ _ => rfl)) (pa_cons pe_int pa_nil))))))) pss_nil)
    (pss_cons (ps_if (PW.pt (pw_and (pt_cmpR op_eq (pv 1) pe_str (nomark _)) (pw_and1 (pt_cmpR op_eq (pe_ix ix_tup (pe_ix ix_tup (pv 0) pe_int (fun _ _ => rfl)) pe_int (fun _ _ => rfl)) pe_str (nomark _)))))
      (pss_one (ps_ret (pe_g G gd hr rfl (pa_cons pe_str (pa_cons (pe_ix ix_tup (pe_ix ix_tup (pv 0) pe_int (fun _ _ => rfl)) pe_int (fun _ _ => rfl)) (pa_cons (pe_ix ix_tup (pe_ix ix_tup (pv 0) pe_int (fun _ _ => rfl)) pe_int (fun _ _ => rfl)) (pa_cons pe_int pa_nil))))))) pss_nil)
    (pss_one (ps_ret pe_non)))), ?_⟩
  have three : ∀ {H : Hp} {v : V} {wd : Str} {p q : PyData}, DR H v (.tuple [.str wd, p, q]) → ∃ a x y, v = .ref a ∧ H a = some (.tup [.str wd, x, y]) ∧ DR H x p ∧ DR H y q := fun h => by
    obtain ⟨a, xs, rfl, ha, hx⟩ := DR.tup_inv h
    obtain ⟨x0, r0, rfl, g0, hy⟩ := hx.cons_inv
    cases g0.str_inv
    obtain ⟨x1, r1, rfl, g1, hz⟩ := hy.cons_inv
    obtain ⟨x2, r2, rfl, g2, hw⟩ := hz.cons_inv
    cases hw
    exact ⟨a, x1, x2, rfl, ha, g1, g2⟩
  cases sy with
  | le ta tb =>
    obtain ⟨a, x, y, rfl, ha, h1, h2⟩ := three hs
    refine ⟨_, rfl, a, _, _, _, rfl, rfl, SqT.of ha, rfl, _, rfl, by show 2 ≤ sizeLine; decide, fun t1 n1 => ?_⟩
    have z1 := same_upd (o := .tup [V.str "le", .str "eq"]) n1
    refine ⟨t1, _, rfl, .inr (SqT.of upd_same), rfl, rfl, _, rfl, iteT ?_⟩
    refine ⟨_, rfl, _, rfl, a, _, _, _, rfl, rfl, SqT.of (z1 _ _ ha), rfl, _, rfl, a, _, _, _, rfl, rfl, SqT.of (z1 _ _ ha), rfl, _, x, y, ta, tb, 0, rfl, h1.kt (.of z1), h2.kt (.of z1), ok1, ok2, lv1, lv2, g1, g2, hT.ext z1, fun v' H' x' T' hl => ?_⟩
    exact kk v' H' ((LamX.ExtN.of z1).trans x') T' hl
  | eq ta tb =>
    obtain ⟨a, x, y, rfl, ha, h1, h2⟩ := three hs
    refine ⟨_, rfl, a, _, _, _, rfl, rfl, SqT.of ha, rfl, _, rfl, by show 2 ≤ sizeLine; decide, fun t1 n1 => ?_⟩
    have z1 := same_upd (o := .tup [V.str "le", .str "eq"]) n1
    refine ⟨t1, _, rfl, .inr (SqT.of upd_same), rfl, rfl, _, rfl, iteT ?_⟩
    refine ⟨_, rfl, _, rfl, a, _, _, _, rfl, rfl, SqT.of (z1 _ _ ha), rfl, _, rfl, a, _, _, _, rfl, rfl, SqT.of (z1 _ _ ha), rfl, _, x, y, ta, tb, 0, rfl, h1.kt (.of z1), h2.kt (.of z1), ok1, ok2, lv1, lv2, g1, g2, hT.ext z1, fun v' H' x' T' hl => ?_⟩
    exact kk v' H' ((LamX.ExtN.of z1).trans x') T' hl
  | nle ta tb =>
    obtain ⟨b, ys, rfl, hb, hx⟩ := DR.tup_inv hs
    obtain ⟨x0, r0, rfl, g0, hy⟩ := hx.cons_inv
    cases g0.str_inv
    obtain ⟨x1, r1, rfl, g3, hz⟩ := hy.cons_inv
    cases hz
    obtain ⟨a, x, y, rfl, ha, h1, h2⟩ := three g3
    refine ⟨_, rfl, b, _, _, _, rfl, rfl, SqT.of hb, rfl, _, rfl, by show 2 ≤ sizeLine; decide, fun t1 n1 => ?_⟩
    have z1 := same_upd (o := .tup [V.str "le", .str "eq"]) n1
    have hb1 := z1 _ _ hb
    have ha1 := z1 _ _ ha
    refine ⟨t1, _, rfl, .inr (SqT.of upd_same), rfl, rfl, _, rfl, iteF ?_⟩
    refine ⟨_, rfl, rfl, _, rfl, ?_⟩
    refine ⟨_, rfl, b, _, _, _, rfl, rfl, SqT.of hb1, rfl, a, _, _, _, rfl, rfl, SqT.of ha1, rfl, rfl, _, rfl, iteT ?_⟩
    refine ⟨_, rfl, b, _, _, _, rfl, rfl, SqT.of hb1, rfl, a, _, _, _, rfl, rfl, SqT.of ha1, rfl, _, rfl, b, _, _, _, rfl, rfl, SqT.of hb1, rfl, a, _, _, _, rfl, rfl, SqT.of ha1, rfl, _, y, x, tb, ta, 1, rfl, h2.kt (.of z1), h1.kt (.of z1), ok2, ok1, lv2, lv1, g2, g1, hT.ext z1, fun v' H' x' T' hl => ?_⟩
    exact kk v' H' ((LamX.ExtN.of z1).trans x') T' hl
end
end Lw
/-! Part J1: _law_open. -/
namespace Lw
open PySem PySem.Spec L2 L2.DX PyProof.Rows
theorem for_enumL {K : PySem.W.Frag} {a : Addr} {xs : List V} {g : TG} {tb : TS} {D : Ends} {σ : L2.St} {H : Hp} (Pv : Nat → L2.St → Hp → Prop) (h0 : Pv 0 σ H) (hl : ∀ i σ H, i ≤ xs.length → Pv i σ H → SqL K H a xs)
    (hs : ∀ i v σ H T, xs[i]? = some v → Pv i σ H → H T = none → g (.ref T) σ (upd H T (.tup [.int (i : Nat), v])) fun σ2 H2 => tb { D with nx := Pv (i + 1), ct := Pv (i + 1), bk := D.nx } σ2 H2) (hd : ∀ σ H, Pv xs.length σ H → D.nx σ H) :
    ∃ W : Nat → Nat → L2.St → Hp → Prop, (∃ m, W 0 m σ H) ∧ ∀ i m σ H, W i m σ H →
      ((Ite K a).stop i H ∧ D.nx σ H) ∨ ((Ite K a).go i H ∧ ∃ N : L2.St → Hp → Prop, (∀ σ' H', N σ' H' → ∃ m', m' < m ∧ W (i + 1) m' σ' H') ∧ ∀ y H', (Ite K a).yld i H y H' → g y σ H' fun σ2 H2 => tb { D with nx := N, ct := N, bk := D.nx } σ2 H2) := by
  refine ⟨fun i m σ H => m = xs.length - i ∧ i ≤ xs.length ∧ Pv i σ H, ⟨xs.length, by simp, Nat.zero_le _, h0⟩, fun i m σ H hW => ?_⟩
  obtain ⟨em, hi, pv_⟩ := hW
  have q := hl i σ H hi pv_
  by_cases c : i < xs.length
  · refine .inr ⟨⟨xs, xs[i], q, List.getElem?_eq_getElem c⟩, Pv (i + 1), fun σ' H' p' => ⟨xs.length - (i + 1), by omega, rfl, c, p'⟩, fun y H' hy => ?_⟩
    obtain ⟨T, v, rfl, nT, rfl, hv⟩ := hy
    exact hs i v σ H T (hv xs q) pv_ nT
  · have e : i = xs.length := by omega
    subst e
    exact .inl ⟨⟨xs, q, Nat.le_refl _⟩, hd σ H pv_⟩
def spOpen (K : PySem.W.Frag) : Sp := fun vs H Q _ => ∃ (a : Addr) (ns : List Int), vs = [.ref a] ∧ SqL K H a (ns.map .int) ∧ ns.length ≤ 63 ∧ ∀ p H', Same H H' → H p = none → Pen H' p 536870912 → Q (.ref p) H'
theorem scOpen : FnScope ["_law_script", "_law_cells", "_law_k", "_law_cell"] ["_law_script"] (defScope (top 38)) := ⟨rfl, rfl, rfl, by decide +kernel, rfl, by decide +kernel, by decide +kernel⟩
section
variable {P : Program} {w : World} {K : PySem.W.Frag} {mg' : Str → Option Value} {base : Heap}
theorem SqL.same {H H' : Hp} {a : Addr} {xs : List V} (h : SqL K H a xs) (s : Same H H') : SqL K H' a xs := by
  rcases h with (h | ⟨o, h⟩) | h
  · exact .inl (.inl (s _ _ h))
  · exact .inl (.inr ⟨o, s _ _ h⟩)
  · exact .inr h
theorem ok_open (D : Df K mg' "_law_open" 38) (ml : mg' "list" = none) (me : mg' "enumerate" = none) : Gv P w K mg' base 1 "_law_open" ["_law_script"] (spOpen K) := by
  refine okV D scOpen (fun _ _ _ _ _ _ us hl => match us, hl with | [_], _ => rfl) (fun vs H Q E h => ?_) (fun f cdv A out s H vs Q E hr h => ?_)
  · obtain ⟨a, ns, rfl, _⟩ := h
    rfl
  obtain ⟨a, ns, rfl, ha, hn, kk⟩ := h
  have nd := scOpen.nd
  refine ⟨_, pss_cons (ps_set (i := 1) nd rfl (Or.inl rfl) (pe_callTy call_list_of rfl ml boot_list (pa_cons (pe_slice sl_list (pv 0) po_none (po_some pe_int)) pa_nil)))
    (pss_cons (ps_for PassesOwn.never rfl (pi_enum rfl me (pa_cons (pe_slice sl_list (pv 0) (po_some pe_int) (po_some pe_int)) pa_nil)) (pg_tup rfl (pgs_cons (pg_name (i := 2) nd rfl (Or.inl rfl)) (pgs_cons (pg_name (i := 3) nd rfl (Or.inl rfl)) pgs_nil)))
      (pss_one (ps_asg (pe_op op_add (pe_ix ix_list (pv 1) (pe_op op_mod (pv 2) pe_int) (fun _ _ => rfl)) (pv 3)) (pg_sub (pv 1) (pe_op op_mod (pv 2) pe_int) set_list))))
    (pss_one (ps_ret (pe_lst (pa_cons (pv 1) (pa_cons pe_int (pa_cons pe_int pa_nil))))))), ?_⟩
  obtain ⟨ms, e1, l1, e2⟩ : ∃ ms : List Int, cutV (ns.map V.int) none (some 12) = ms.map .int ∧ ms.length ≤ 12 ∧ (1 ≤ (cutV (ns.map V.int) (some 12) (some 63)).length → ms.length = 12) := by
    refine ⟨ns.take 12, ?_, by rw [List.length_take]; omega, fun h => ?_⟩
    · unfold cutV
      rw [HT.sIx_none, show (some (12 : Int)) = some ((12 : Nat) : Int) from rfl, HT.sIx_nat, List.map_take, List.drop_zero, Nat.sub_zero, List.length_map]
      by_cases c : 12 ≤ ns.length
      · rw [Nat.min_eq_left c]
      · rw [Nat.min_eq_right (by omega), List.take_of_length_le (by rw [List.length_map]; exact Nat.le_refl _), List.take_of_length_le (by rw [List.length_map]; omega)]
    · unfold cutV at h
      rw [show (some (12 : Int)) = some ((12 : Nat) : Int) from rfl, HT.sIx_nat, List.length_map] at h
      rw [List.length_take]
      by_cases c : 12 ≤ ns.length
      · omega
      · rw [List.drop_of_length_le (by rw [List.length_map]; omega)] at h
        simp at h
  obtain ⟨ks, e3⟩ : ∃ ks : List Int, cutV (ns.map V.int) (some 12) (some 63) = ks.map .int := ⟨_, by
    unfold cutV
    rw [← List.map_drop, ← List.map_take]⟩
  rw [e3, List.length_map] at e2
  refine ⟨_, rfl, _, rfl, a, _, rfl, ha, fun t1 n1 => ?_⟩
  have z1 := same_upd (o := .lst (cutV (ns.map V.int) none (some 12))) n1
  refine ⟨t1, _, rfl, .inl (SqL.of upd_same), fun L nL => ?_⟩
  rw [e1] at nL z1 ⊢
  have z2 := same_upd (o := .lst (ms.map V.int)) nL
  have s2 : Same H _ := fun b o e => z2 _ _ (z1 _ _ e)
  have nLH : H L = none := by
    cases e : H L with
    | none => rfl
    | some o =>
      rw [z1 _ _ e] at nL
      cases nL
  refine ⟨_, rfl, _, rfl, _, rfl, a, _, rfl, SqL.same ha s2, fun t3 n3 => ?_⟩
  rw [e3]
  have z3 := same_upd (o := .lst (ks.map V.int)) n3
  have s3 : Same H _ := fun b o e => z3 _ _ (s2 _ _ e)
  have hL3 := z3 _ _ (upd_same (H := upd H t1 (.lst (ms.map V.int))) (a := L) (o := .lst (ms.map V.int)))
  have h3L : t3 ≠ L := fun z => by
    rw [z, upd_same] at n3
    cases n3
  refine ⟨t3, _, rfl, SqL.of upd_same, ?_⟩
  refine for_enumL (K := K) (a := t3) (xs := ks.map V.int) (fun i σ H' => ∃ (e2 e3 : Option V) (cs : List Int), σ = [some (.ref a), some (.ref L), e2, e3] ∧ H' t3 = some (.lst (ks.map V.int)) ∧ Same H H' ∧ H' L = some (.lst (cs.map .int)) ∧ cs.length = ms.length) ⟨none, none, ms, rfl, upd_same, s3, hL3, rfl⟩ (fun i σ H' hi h => ?_) (fun i v σ H' T hv h nT => ?_) (fun σ H' h => ?_)
  · obtain ⟨_, _, _, _, h3, _⟩ := h
    exact SqL.of h3
  · obtain ⟨e2', e3', cs, rfl, h3, s', hL, hcl⟩ := h
    have hik := (List.getElem?_eq_some_iff.mp hv).1
    rw [List.length_map] at hik
    have hm12 : cs.length = 12 := by rw [hcl]; exact e2 (by omega)
    obtain ⟨c, hc⟩ : ∃ c, v = V.int c := by
      rw [List.getElem?_map] at hv
      obtain ⟨c, _, hc⟩ := Option.map_eq_some_iff.mp hv
      exact ⟨c, hc.symm⟩
    subst hc
    have zT := same_upd (o := .tup [V.int (i : Nat), .int c]) nT
    have h0 : 0 ≤ (i : Int) % 12 := Int.emod_nonneg _ (by decide)
    have h1 : (i : Int) % 12 < 12 := Int.emod_lt_of_pos _ (by decide)
    have hjx : ixN (cs.map V.int).length ((i : Int) % 12) = some ((i : Int) % 12).toNat := by
      unfold ixN
      rw [if_pos h0, if_pos (by rw [List.length_map, hm12]; exact h1)]
    have hget : atI (cs.map V.int) ((i : Int) % 12) = some (.int (cs[((i : Int) % 12).toNat]'(by omega))) := by
      unfold atI
      rw [hjx]
      show (cs.map V.int)[((i : Int) % 12).toNat]? = _
      rw [List.getElem?_map, List.getElem?_eq_getElem (by omega)]
      rfl
    refine ⟨T, _, rfl, SqT.of upd_same, rfl, _, _, rfl, _, _, rfl, rfl, ?_⟩
    refine ⟨_, rfl, _, rfl, _, _, rfl, rfl, (show (0 : Int) < 12 by decide), L, _, _, _, rfl, rfl, SqL.of (zT _ _ hL), hget, _, rfl, _, _, rfl, rfl, ?_⟩
    refine ⟨_, rfl, _, rfl, _, _, rfl, rfl, (show (0 : Int) < 12 by decide), L, _, _, _, rfl, rfl, zT _ _ hL, hjx, ?_⟩
    refine ⟨_, _, cs.set ((i : Int) % 12).toNat (cs[((i : Int) % 12).toNat]'(by omega) + c), rfl, ?_, fun b o e => ?_, ?_, by rw [List.length_set]; exact hcl⟩
    · rw [upd_ne h3L]
      exact zT _ _ h3
    · rw [upd_ne (ne_of_none e nLH)]
      exact zT _ _ (s' _ _ e)
    · rw [upd_same, List.map_set]
  · obtain ⟨e2', e3', cs, rfl, h3, s', hL, hcl⟩ := h
    refine ⟨_, rfl, by show 3 ≤ sizeLine; decide, fun p np => ?_⟩
    have zp := same_upd (o := .lst [V.ref L, .int 0, .int 0]) np
    have nH : H p = none := by
      cases e : H p with
      | none => rfl
      | some o =>
        rw [s' _ _ e] at np
        cases np
    refine kk p _ (fun b o e => zp _ _ (s' _ _ e)) nH ⟨L, 0, 0, cs, upd_same, ne_of_none hL np, zp _ _ hL, by omega, by decide⟩
end
end Lw
/-! Part J2: _law_same. -/
namespace Lw
open PySem PySem.Spec L2 L2.DX PyProof.Rows
theorem scSame : FnScope ["_law_found", "_law_due", "_law_one", "_law_other"] ["_law_found", "_law_due"] (defScope (top 40)) := ⟨rfl, rfl, rfl, by decide +kernel, rfl, by decide +kernel, by decide +kernel⟩
/-- equal ints, equal truths; g: lists of two equal ints too -/
def spSame (g : Nat) : Sp := fun vs H Q _ => ∃ x y, vs = [x, y] ∧ ((∃ i : Int, x = .int i ∧ y = .int i ∧ ∀ H', Same H H' → Q (.bl true) H') ∨ (∃ b : Bool, x = .bl b ∧ y = .bl b ∧ Q (.bl true) H) ∨
  (∃ (L M : Addr) (is : List Int), g = 1 ∧ x = .ref L ∧ y = .ref M ∧ H L = some (.lst (is.map .int)) ∧ H M = some (.lst (is.map .int)) ∧ is.length ≤ 10 ∧ ∀ H', Same H H' → Q (.bl true) H'))
section
variable {P : Program} {w : World} {K : PySem.W.Frag} {mg' : Str → Option Value} {base : Heap}
theorem st_same (D : Df K mg' "_law_same" 40) (mis : mg' "isinstance" = none) (mb : mg' "bool" = none) (mi : mg' "int" = none) (ms : mg' "str" = none) (mt : mg' "tuple" = none) (ml : mg' "list" = none) (mln : mg' "len" = none) (mz : mg' "zip" = none) (g k : Nat)
    (IH : ∀ g', g = g' + 1 → Gv P w K mg' base k "_law_same" ["_law_found", "_law_due"] (spSame g')) : Gv P w K mg' base (k + 1) "_law_same" ["_law_found", "_law_due"] (spSame g) := by
  have bT : BindT "_law_same" 40 ["_law_found", "_law_due"] := fun _ _ _ _ _ _ us hl => match us, hl with | [_, _], _ => rfl
  obtain ⟨spE, GE, hE⟩ : ∃ spE : Sp, Gv P w K mg' base k "_law_same" ["_law_found", "_law_due"] spE ∧ ∀ g', g = g' + 1 → spE = spSame g' := by
    cases g with
    | zero => exact ⟨fun _ _ _ _ => False, Gv.never D bT fun _ _ _ _ z => z, fun n' e => by omega⟩
    | succ g' => exact ⟨_, IH g' rfl, fun m e => by cases e; rfl⟩
  refine okV D scSame bT (fun vs H Q E h => ?_) (fun f cdv A out s H vs Q E hr h => ?_)
  · obtain ⟨x, y, rfl, _⟩ := h
    rfl
  obtain ⟨x, y, rfl, hc⟩ := h
  have nd := scSame.nd
  have hu65 : (A.deeper (envOfC "_law_same" (defScope (top 40)) s.heap.objs.size f cdv)).units + 65 < cLine := by
    have := hr.un
    omega
  refine ⟨_, pss_cons (ps_if (PW.pt (pw_or (pt_cmpR op_isN (pv 1) pe_non (nomark _)) (pw_or1 (pt_cmpR op_isN (pv 0) pe_non (nomark _))))) pss_never pss_nil)
    (pss_cons (ps_if (PW.pt (pw_or (pt_val (pe_callB call_isi rfl mis (by decide +kernel) (pa_cons (pv 1) (pa_cons (pe_bltn (v := .ty "bool") rfl mb (by decide +kernel) rfl) pa_nil)))) (pw_or1 (pt_val (pe_callB call_isi rfl mis (by decide +kernel) (pa_cons (pv 0) (pa_cons (pe_bltn (v := .ty "bool") rfl mb (by decide +kernel) rfl) pa_nil)))))))
      (pss_one (ps_ret (pe_and (pe_callB call_isi rfl mis (by decide +kernel) (pa_cons (pv 1) (pa_cons (pe_bltn (v := .ty "bool") rfl mb (by decide +kernel) rfl) pa_nil))) (pe_and (pe_callB call_isi rfl mis (by decide +kernel) (pa_cons (pv 0) (pa_cons (pe_bltn (v := .ty "bool") rfl mb (by decide +kernel) rfl) pa_nil))) (pe_one (pe_cmpR op_eq (pv 0) (pv 1) (nomark _))))))) pss_nil)
    (pss_cons (ps_if (pt_val (pe_callB call_isiT rfl mis (by decide +kernel) (pa_cons (pv 1) (pa_cons (pe_tup (pa_cons (pe_bltn (v := .ty "int") rfl mi boot_int rfl) (pa_cons (pe_bltn (v := .ty "str") rfl ms (by decide +kernel) rfl) pa_nil))) pa_nil))))
      (pss_cons (ps_if (pt_cmpR op_ne (pe_callB call_isi rfl mis (by decide +kernel) (pa_cons (pv 0) (pa_cons (pe_bltn (v := .ty "int") rfl mi boot_int rfl) pa_nil))) (pe_callB call_isi rfl mis (by decide +kernel) (pa_cons (pv 1) (pa_cons (pe_bltn (v := .ty "int") rfl mi boot_int rfl) pa_nil))) (by rfl)) pss_never pss_nil)
      (pss_one (ps_ret (pe_and (pe_callB call_isiT rfl mis (by decide +kernel) (pa_cons (pv 0) (pa_cons (pe_tup (pa_cons (pe_bltn (v := .ty "int") rfl mi boot_int rfl) (pa_cons (pe_bltn (v := .ty "str") rfl ms (by decide +kernel) rfl) pa_nil))) pa_nil))) (pe_one (pe_cmpR op_eq (pv 0) (pv 1) (nomark _))))))) pss_nil)
    (pss_cons (ps_if (PW.pt (pw_or (pt_cmpR op_ne (pe_callB call_isi rfl mis (by decide +kernel) (pa_cons (pv 1) (pa_cons (pe_bltn (v := .ty "tuple") rfl mt boot_tuple rfl) pa_nil))) (pe_callB call_isi rfl mis (by decide +kernel) (pa_cons (pv 0) (pa_cons (pe_bltn (v := .ty "tuple") rfl mt boot_tuple rfl) pa_nil))) (by rfl))
        (pw_or1 (pt_cmpR op_ne (pe_callB call_isi rfl mis (by decide +kernel) (pa_cons (pv 1) (pa_cons (pe_bltn (v := .ty "list") rfl ml boot_list rfl) pa_nil))) (pe_callB call_isi rfl mis (by decide +kernel) (pa_cons (pv 0) (pa_cons (pe_bltn (v := .ty "list") rfl ml boot_list rfl) pa_nil))) (by rfl))))) pss_never pss_nil)
    (pss_cons (ps_if (pt_cmpR op_ne (pe_callB call_len_seq rfl mln PySem.boot_len (pa_cons (pv 0) pa_nil)) (pe_callB call_len_seq rfl mln PySem.boot_len (pa_cons (pv 1) pa_nil)) (by rfl)) pss_never pss_nil)
    (pss_one (ps_ret (pe_cmpR op_notIn_seq pe_bl (pe_lc (own := [("_law_one", 2), ("_law_other", 3)]) (g := gTup K 2 (gCons (gName 2) (gCons (gName 3) gNil))) rfl nd (pi_zip rfl mz (pa_cons (pv 0) (pa_cons (pv 1) pa_nil))) (blkOk_by (own := [("_law_one", 2), ("_law_other", 3)]) (N := ["_law_found", "_law_due", "_law_one", "_law_other"]) (sc := defScope (top 40)) (by decide +kernel))
        (fun _ _ _ _ _ => pg_tup rfl (pgs_cons (pg_name (i := 2) nd rfl (Or.inl rfl)) (pgs_cons (pg_name (i := 3) nd rfl (Or.inl rfl)) pgs_nil))) (fun _ _ _ _ _ => pts_nil) (fun _ _ _ _ _ => pe_v (E := E0) GE hr rfl (pa_cons (pv 2) (pa_cons (pv 3) pa_nil)))) (by rfl)))))))), ?_⟩
  rcases hc with ⟨i, rfl, rfl, q⟩ | ⟨b, rfl, rfl, q⟩ | ⟨L, M, is, rfl, rfl, rfl, hL, hM, h10, q⟩
  · refine ⟨_, rfl, rfl, _, rfl, iteF ?_⟩
    refine ⟨_, rfl, rfl, _, rfl, iteF ?_⟩
    refine ⟨_, rfl, _, _, _, _, _, rfl, .ty "bool", .base (.int i), kit_ty (b := "bool") (r := false) (by decide +kernel), _, rfl, iteF ?_⟩
    refine ⟨_, rfl, _, _, _, _, _, rfl, .ty "bool", .base (.int i), kit_ty (b := "bool") (r := false) (by decide +kernel), _, rfl, iteF ?_⟩
    refine ⟨_, rfl, by show 2 ≤ sizeLine; decide, fun t1 n1 => ?_⟩
    refine ⟨_, t1, _, .type "int", [.type "int", .type "str"], true, rfl, upd_same, .cons (.ty "int") (.cons (.ty "str") .nil), .base (.int i), kitAny_cons (b := true) (kit_ty (b := "int") (r := true) (by decide +kernel)) (fun z => by cases z) (fun _ => rfl), _, rfl, iteT ?_⟩
    refine ⟨_, rfl, _, _, _, _, _, rfl, .ty "int", .base (.int i), kit_ty (b := "int") (r := true) (by decide +kernel), ?_⟩
    refine ⟨_, rfl, _, _, _, _, _, rfl, .ty "int", .base (.int i), kit_ty (b := "int") (r := true) (by decide +kernel), ?_⟩
    refine ⟨rfl, _, rfl, iteF ?_⟩
    refine ⟨_, rfl, by show 2 ≤ sizeLine; decide, fun t2 n2 => ?_⟩
    refine ⟨_, t2, _, .type "int", [.type "int", .type "str"], true, rfl, upd_same, .cons (.ty "int") (.cons (.ty "str") .nil), .base (.int i), kitAny_cons (b := true) (kit_ty (b := "int") (r := true) (by decide +kernel)) (fun z => by cases z) (fun _ => rfl), _, rfl, iteT ?_⟩
    have e : decide (V.int i = V.int i) = true := decide_eq_true rfl
    refine ⟨_, rfl, _, rfl, rfl, ?_⟩
    show Q (.bl (decide (V.int i = V.int i))) _
    rw [e]
    exact q _ fun b o eo => same_upd n2 _ _ (same_upd n1 _ _ eo)
  · refine ⟨_, rfl, rfl, _, rfl, iteF ?_⟩
    refine ⟨_, rfl, rfl, _, rfl, iteF ?_⟩
    refine ⟨_, rfl, _, _, _, _, _, rfl, .ty "bool", .base (.bl b), kit_ty (b := "bool") (r := true) (by decide +kernel), _, rfl, iteT ?_⟩
    refine ⟨_, rfl, _, _, _, _, _, rfl, .ty "bool", .base (.bl b), kit_ty (b := "bool") (r := true) (by decide +kernel), _, rfl, iteT ?_⟩
    refine ⟨_, rfl, _, _, _, _, _, rfl, .ty "bool", .base (.bl b), kit_ty (b := "bool") (r := true) (by decide +kernel), _, rfl, iteT ?_⟩
    have e : decide (V.bl b = V.bl b) = true := decide_eq_true rfl
    refine ⟨_, rfl, _, rfl, rfl, ?_⟩
    show Q (.bl (decide (V.bl b = V.bl b))) H
    rw [e]
    exact q
  · refine ⟨_, rfl, rfl, _, rfl, iteF ?_⟩
    refine ⟨_, rfl, rfl, _, rfl, iteF ?_⟩
    refine ⟨_, rfl, _, _, _, _, _, rfl, .ty "bool", .base (.lst hM), kit_ty (b := "bool") (r := false) (by decide +kernel), _, rfl, iteF ?_⟩
    refine ⟨_, rfl, _, _, _, _, _, rfl, .ty "bool", .base (.lst hL), kit_ty (b := "bool") (r := false) (by decide +kernel), _, rfl, iteF ?_⟩
    refine ⟨_, rfl, by show 2 ≤ sizeLine; decide, fun t1 n1 => ?_⟩
    have z1 := same_upd (o := .tup [V.ty "int", .ty "str"]) n1
    have hL1 := z1 _ _ hL
    have hM1 := z1 _ _ hM
    refine ⟨_, t1, _, .type "list", [.type "int", .type "str"], false, rfl, upd_same, .cons (.ty "int") (.cons (.ty "str") .nil), .base (.lst hM1), kitAny_cons (b := false) (kit_ty (b := "int") (r := false) (by decide +kernel)) (fun _ => kitAny_cons (b := false) (kit_ty (b := "str") (r := false) (by decide +kernel)) (fun _ => rfl) (fun z => by cases z)) (fun z => by cases z), _, rfl, iteF ?_⟩
    refine ⟨_, rfl, _, _, _, _, _, rfl, .ty "tuple", .base (.lst hM1), kit_ty (b := "tuple") (r := false) (by decide +kernel), ?_⟩
    refine ⟨_, rfl, _, _, _, _, _, rfl, .ty "tuple", .base (.lst hL1), kit_ty (b := "tuple") (r := false) (by decide +kernel), ?_⟩
    refine ⟨rfl, _, rfl, iteF ?_⟩
    refine ⟨_, rfl, _, _, _, _, _, rfl, .ty "list", .base (.lst hM1), kit_ty (b := "list") (r := true) (by decide +kernel), ?_⟩
    refine ⟨_, rfl, _, _, _, _, _, rfl, .ty "list", .base (.lst hL1), kit_ty (b := "list") (r := true) (by decide +kernel), ?_⟩
    refine ⟨rfl, _, rfl, iteF ?_⟩
    refine ⟨_, rfl, L, _, rfl, .inl (SqL.of hL1), _, rfl, M, _, rfl, .inl (SqL.of hM1), ?_⟩
    have eN : (!decide (V.int ((is.map V.int).length : Nat) = V.int ((is.map V.int).length : Nat))) = false := by rw [decide_eq_true rfl]; rfl
    refine ⟨rfl, _, rfl, ite2 (fun c => absurd c (by rw [eN]; decide)) (fun _ => ?_)⟩
    obtain rfl := hE 0 rfl
    refine ⟨_, rfl, _, rfl, L, M, _, _, rfl, SqL.of hL1, SqL.of hM1, fun D4 d4 => ?_⟩
    have z4 := same_upd (o := .lst []) d4
    have s4 : Same H _ := fun b o e => z4 _ _ (z1 _ _ e)
    have nD : H D4 = none := by
      cases e : H D4 with
      | none => rfl
      | some o =>
        rw [z1 _ _ e] at d4
        cases d4
    have DL : D4 ≠ L := fun z => by
      rw [z, hL1] at d4
      cases d4
    have DM : D4 ≠ M := fun z => by
      rw [z, hM1] at d4
      cases d4
    refine lc_it (Qd := fun H' => rIn K true (V.bl false) (V.ref D4) H' Q) (g := gTup K 2 (gCons (gName 2) (gCons (gName 3) gNil))) (tt := tYes) (te := fun σ H Q => tCons (tVar 2) (tCons (tVar 3) tNil) σ H fun vs H1 => spSame 0 vs H1 Q E0) (vs := [2, 3]) (σ := L2.start ["_law_found", "_law_due", "_law_one", "_law_other"] [V.ref L, V.ref M]) (walk_zip (K := K) (a := L) (b := M) (xs := is.map V.int) (ys := is.map V.int) (n := is.length) (by rw [List.length_map, Nat.min_self])) (fun i H' => H' L = some (.lst (is.map .int)) ∧ H' M = some (.lst (is.map .int)) ∧ Same H H' ∧ H' D4 = some (.lst (List.replicate i (V.bl true)))) ⟨z4 _ _ hL1, z4 _ _ hM1, s4, upd_same⟩ (fun i H' hi h => ⟨SqL.of h.1, SqL.of h.2.1⟩) (fun i x H' H2 hi h hy => ?_) (fun H' h => ?_)
    · obtain ⟨hL', hM', s', hD⟩ := h
      obtain ⟨T, x1, y1, rfl, nT, rfl, g1, g2⟩ := hy
      have zT := same_upd (o := .tup [x1, y1]) nT
      have g3 : x1 = y1 := Option.some.inj (g1.symm.trans g2)
      subst g3
      obtain ⟨v, hv⟩ : ∃ v : Int, x1 = .int v := by
        have g1 : (is.map V.int)[i]? = some x1 := g1
        rw [List.getElem?_map] at g1
        obtain ⟨v, _, hv⟩ := Option.map_eq_some_iff.mp g1
        exact ⟨v, hv.symm⟩
      subst hv
      refine ⟨T, _, rfl, SqT.of upd_same, rfl, _, _, rfl, _, _, rfl, rfl, rfl, ?_⟩
      refine ⟨_, rfl, _, rfl, _, _, rfl, .inl ⟨v, rfl, rfl, fun H3 s3 => ?_⟩⟩
      have hD3 := s3 _ _ (zT _ _ hD)
      refine ⟨_, hD3, small1000 (by rw [List.length_replicate]; omega), ?_, ?_, fun b o e => ?_, ?_⟩
      · rw [upd_ne (Ne.symm DL)]
        exact s3 _ _ (zT _ _ hL')
      · rw [upd_ne (Ne.symm DM)]
        exact s3 _ _ (zT _ _ hM')
      · rw [upd_ne (ne_of_none e nD)]
        exact s3 _ _ (zT _ _ (s' _ _ e))
      · rw [upd_same, List.replicate_succ']
    · obtain ⟨hL', hM', s', hD⟩ := h
      refine ⟨D4, _, rfl, .inl (SqL.of hD), rfl, ?_, ?_⟩
      · rw [List.all_eq_true]
        intro y hy
        rw [(List.mem_replicate.mp hy).2]
        rfl
      · have e : inV (V.bl false) (List.replicate is.length (V.bl true)) = false := by
          unfold inV
          rw [List.any_eq_false]
          intro y hy
          rw [(List.mem_replicate.mp hy).2]
          decide
        show Q (.bl (!inV (V.bl false) (List.replicate is.length (V.bl true)))) H'
        rw [e]
        exact q _ s'
theorem ok_same (D : Df K mg' "_law_same" 40) (mis : mg' "isinstance" = none) (mb : mg' "bool" = none) (mi : mg' "int" = none) (ms : mg' "str" = none) (mt : mg' "tuple" = none) (ml : mg' "list" = none) (mln : mg' "len" = none) (mz : mg' "zip" = none) : Gv P w K mg' base 2 "_law_same" ["_law_found", "_law_due"] (spSame 1) :=
  st_same D mis mb mi ms mt ml mln mz 1 1 fun g' e => by
    have : g' = 0 := by omega
    subst this
    exact st_same D mis mb mi ms mt ml mln mz 0 0 fun g' e => by omega
end
end Lw
/-! Part J3: _law_s_added. -/
namespace Lw
open PySem PySem.Spec L2 L2.DX PyProof.Rows
def addedV (tn : Key → Int) (tr : Key → RowF) (D : List Ent) : Int := (D.map fun e => e.w * (tv tn tr e.a).1).sum
def AddOk (ns rs : List Key) (tn : Key → Int) (tr : Key → RowF) (h : Nat) (e : Ent) : Prop := Ok ns rs false e.a ∧ e.a.lev ≤ h ∧ MulOk tn tr e.a ∧ CMulW e.w (tv tn tr e.a).1
def spAdded (ns rs : List Key) (tn : Key → Int) (tr : Key → RowF) (h : Nat) : Sp := fun vs H Q _ => ∃ (pv_ : V) (n : Int) (T : Addr) (D : List Ent), vs = [pv_, .int n, .ref T] ∧ DR H pv_ (.tuple (D.map pairA)) ∧ D.length ≤ 1000 ∧ (∀ e ∈ D, AddOk ns rs tn tr h e) ∧ h ≤ 700 ∧ TabR H T ns rs tn tr ∧ ∀ H', Same H H' → Q (.int (n + addedV tn tr D)) H'
theorem scAdded : FnScope ["_law_pairs", "_law_number", "_law_table", "_law_atom", "_law_weight"] ["_law_pairs", "_law_number", "_law_table"] (defScope (top 57)) := ⟨rfl, rfl, rfl, by decide +kernel, rfl, by decide +kernel, by decide +kernel⟩
section
variable {P : Program} {w : World} {K : PySem.W.Frag} {mg' : Str → Option Value} {base : Heap} {ns rs : List Key} {tn : Key → Int} {tr : Key → RowF}
theorem ok_added {h k : Nat} (D : Df K mg' "_law_s_added" 57) (ms : mg' "sum" = none) (GW : Gv P w K mg' base k "worth_of" ["thing", "table", "notions"] (spWorthOf ns rs tn tr h)) : Gv P w K mg' base (k + 1) "_law_s_added" ["_law_pairs", "_law_number", "_law_table"] (spAdded ns rs tn tr h) := by
  refine okV D scAdded (fun _ _ _ _ _ _ us hl => match us, hl with | [_, _, _], _ => rfl) (fun vs H Q E h => ?_) (fun f cdv A out s H vs Q E hr h => ?_)
  · obtain ⟨pv_, n, T, D, rfl, _⟩ := h
    rfl
  obtain ⟨pv_, n, T, Ds, rfl, hp, hl, hok, h700, hT, q⟩ := h
  have nd := scAdded.nd
  refine ⟨_, pss_one (ps_ret (pe_op op_add (pv 1) (pe_callB (cr_sum rfl) rfl ms (by decide +kernel) (pa_cons
        (pe_lc (own := [("_law_atom", 3), ("_law_weight", 4)]) (g := gTup K 2 (gCons (gName 3) (gCons (gName 4) gNil))) (tt := tYes) rfl nd (pi_tup (pv 0)) (blkOk_by (own := [("_law_atom", 3), ("_law_weight", 4)]) (N := ["_law_pairs", "_law_number", "_law_table", "_law_atom", "_law_weight"]) (sc := defScope (top 57)) (by decide +kernel))
          (fun _ _ _ _ _ => pg_tup rfl (pgs_cons (pg_name (i := 3) nd rfl (Or.inl rfl)) (pgs_cons (pg_name (i := 4) nd rfl (Or.inl rfl)) pgs_nil))) (fun _ _ _ _ _ => pts_nil)
          (fun _ _ _ _ _ => pe_op op_mulW (pv 4) (pe_v (E := E0) GW hr rfl (pa_cons (pv 3) (pa_cons (pv 2) (pa_cons pe_dnewK pa_nil)))))) pa_nil)))), ?_⟩
  obtain ⟨pa, xs, rfl, hpa, hxs⟩ := DR.tup_inv hp
  have hlen : xs.length = Ds.length := by rw [hxs.length, List.length_map]
  refine ⟨_, rfl, _, rfl, pa, rfl, ⟨_, SqT.of hpa⟩, fun D4 d4 => ?_⟩
  have z4 := same_upd (o := .lst []) d4
  refine lc_tup (K := K) (a := pa) (xs := xs) (fun i H' => H' D4 = some (.lst (((Ds.take i).map fun e => e.w * (tv tn tr e.a).1).map V.int)) ∧ Same H H') ⟨upd_same, z4⟩ (fun i H' hi h => SqT.of (h.2 _ _ hpa)) (fun i x H' hx h => ?_) (fun H' h => ?_)
  · obtain ⟨hD, s'⟩ := h
    obtain ⟨dx, hdx, hrx⟩ := hxs.getV hx
    rw [List.getElem?_map] at hdx
    obtain ⟨e, he, rfl⟩ := Option.map_eq_some_iff.mp hdx
    have hil : i < Ds.length := (List.getElem?_eq_some_iff.mp he).1
    obtain ⟨b, ys, rfl, hb, hy⟩ := (hrx.kt (.of s')).tup_inv
    obtain ⟨x1, r1, rfl, k1, hz⟩ := hy.cons_inv
    obtain ⟨x2, r2, rfl, k2, hw⟩ := hz.cons_inv
    cases hw
    cases k2.int_inv
    obtain ⟨o1, o2, o3, o4⟩ := hok e (List.mem_of_getElem? he)
    refine ⟨b, _, rfl, SqT.of hb, rfl, _, _, rfl, _, _, rfl, rfl, rfl, ?_⟩
    refine ⟨_, rfl, _, rfl, _, rfl, fun d nd_ => ?_⟩
    have zd := same_upd (o := .dK []) nd_
    refine ⟨T, d, _, e.a, rfl, upd_same, k1.kt (.of zd), o1, o2, h700, o3, (hT.keep (.of s')).keep (.of zd), fun H2 s2 => ?_⟩
    refine ⟨_, _, rfl, rfl, o4, _, s2 _ _ (zd _ _ hD), small1000 (by rw [List.length_map, List.length_map, List.length_take]; omega), ?_, fun b' o u => ?_⟩
    · rw [upd_same, List.take_add_one, he]
      simp
    · rw [upd_ne (ne_of_none u d4)]
      exact s2 _ _ (zd _ _ (s' _ _ u))
  · obtain ⟨hD, s'⟩ := h
    rw [hlen, List.take_length] at hD
    exact ⟨D4, _, rfl, SqL.of hD, _, _, rfl, rfl, q H' s'⟩
end
end Lw
/-! Part J4: _law_s_is_so, _law_s_all_so. -/
namespace Lw
open PySem PySem.Spec L2 L2.DX PyProof.Rows
theorem KD.ext {H H' : Hp} (x : LamX.ExtN H H') : KD H H' := ⟨ExtN.kt x, fun b o u e => x _ _ e (fun ps z => by cases z), fun b kvs e => x _ _ e (fun ps z => by cases z)⟩
/-- what the line of a saying answers -/
def lineT (tn : Key → Int) (tr : Key → RowF) (s : Sy) : Bool :=
  if s.line.1 = Str.ofString "le" then decide (0 + addedV tn tr (lineD s.line.2.1 s.line.2.2.1) ≤ 0 - (nb s.line.2.1 + s.line.2.2.2 + -1 * nb s.line.2.2.1))
  else decide (0 + addedV tn tr (lineD s.line.2.1 s.line.2.2.1) = 0 - (nb s.line.2.1 + s.line.2.2.2 + -1 * nb s.line.2.2.1))
/-- all that a saying's two terms must keep -/
def SayOk (ns rs : List Key) (tn : Key → Int) (tr : Key → RowF) (n : Nat) (s : Sy) : Prop := SyOk ns rs tn tr n s ∧ GOk s.one ∧ GOk s.two ∧ ∀ e ∈ lineD s.line.2.1 s.line.2.2.1, AddOk ns rs tn tr n e
def spLIsSo (PT : Addr) (ns rs : List Key) (tn : Key → Int) (tr : Key → RowF) (n : Nat) : Sp := fun vs H Q _ => ∃ (v : V) (T : Addr) (s : Sy), vs = [v, .ref T, .bl (s.val tn tr)] ∧ DR H v s.d ∧ SayOk ns rs tn tr n s ∧ n ≤ 700 ∧ lineT tn tr s = s.val tn tr ∧ TabR H T ns rs tn tr ∧ LamX.Tabs (TT PT) H ∧
  ∀ H', LamX.ExtN H H' → LamX.Tabs (TT PT) H' → Q (.bl true) H'
theorem scLIsSo : FnScope ["_law_saying", "_law_table", "_law_due", "_law_line", "_law_value", "_law_is_so"] ["_law_saying", "_law_table", "_law_due"] (defScope (top 58)) := ⟨rfl, rfl, rfl, by decide +kernel, rfl, by decide +kernel, by decide +kernel⟩
section
variable {P : Program} {w : World} {K : PySem.W.Frag} {mg' : Str → Option Value} {base : Heap} {PT CL : Addr} {ns rs : List Key} {tn : Key → Int} {tr : Key → RowF}
theorem ok_lisso {n k : Nat} (hk : n + 7 ≤ k) (D : Df K mg' "_law_s_is_so" 58) (LK : LineK K mg' CL) (GL : Gg P w K mg' base (n + 7) "line_of" ["saying"] (spLineOf PT CL ns rs n)) (GA : Gv P w K mg' base k "_law_s_added" ["_law_pairs", "_law_number", "_law_table"] (spAdded ns rs tn tr n)) (GT : Gv P w K mg' base k "truth_of" ["saying", "table", "notions"] (spTruthOf ns rs tn tr n)) (GS : Gv P w K mg' base 2 "_law_same" ["_law_found", "_law_due"] (spSame 1)) :
    Gg P w K mg' base (k + 1) "_law_s_is_so" ["_law_saying", "_law_table", "_law_due"] (spLIsSo PT ns rs tn tr n) := by
  refine okGg D scLIsSo (fun _ _ _ _ _ _ us hl => match us, hl with | [_, _, _], _ => rfl) (fun vs H Q E h => ?_) (fun f cdv A out s H vs Q E gd hr h => ?_)
  · obtain ⟨v, T, sy, rfl, _⟩ := h
    rfl
  obtain ⟨v, T, sy, rfl, hs, ⟨hsy, g1, g2, hadd⟩, h700, hline, hT, hTb, q⟩ := h
  have nd := scLIsSo.nd
  refine ⟨_, pss_cons (ps_set (i := 3) nd rfl (Or.inl rfl) (pe_g GL gd (hr.mono hk) rfl (pa_cons (pv 0) pa_nil)))
    (pss_cons (ps_set (i := 4) nd rfl (Or.inl rfl) (pe_v (E := E0) GA hr rfl (pa_cons (pe_fld (pv 3) rfl) (pa_cons pe_int (pa_cons (pv 1) pa_nil)))))
    (pss_cons (ps_set (i := 5) nd rfl (Or.inl rfl) (pe_ifExp (pt_cmpR op_eq (pe_fld (pv 3) rfl) pe_str (nomark _)) (pe_cmpR op_le (pv 4) (pe_fld (pv 3) rfl) (nomark _)) (pe_cmpR op_eq (pv 4) (pe_fld (pv 3) rfl) (nomark _))))
    (pss_one (ps_ret (pe_and (pe_v (E := E0) GS (hr.mono (by omega)) rfl (pa_cons (pe_v (E := E0) GT hr rfl (pa_cons (pv 0) (pa_cons (pv 1) (pa_cons pe_dnewK pa_nil)))) (pa_cons (pv 2) pa_nil))) (pe_one (pe_cmpR op_eq (pv 5) (pv 2) (nomark _)))))))), ?_⟩
  refine ⟨_, rfl, v, sy, rfl, hs, hsy.1.1, hsy.2.1, hsy.1.2.1, hsy.2.2.1, g1, g2, hTb, fun lv H1 x1 T1 hl => ?_⟩
  obtain ⟨r, dx, pv_, rfl, hr1, hp⟩ := hl
  have hT1 : TabR H1 T ns rs tn tr := hT.keep (KD.ext x1)
  have addN : DRs H1 [] [] := .nil
  have lenD : (lineD sy.line.2.1 sy.line.2.2.1).length ≤ 1000 := by
    have h1 : (lineD sy.line.2.1 sy.line.2.2.1).length ≤ (mrg (ats sy.line.2.1 ++ (ats sy.line.2.2.1).map (Ent.scl (-1)))).length := List.length_filter_le _ _
    have h2 := mrg_len (ats sy.line.2.1 ++ (ats sy.line.2.2.1).map (Ent.scl (-1)))
    rw [List.length_append, List.length_map, ats_cnt, ats_cnt] at h2
    have c1 := g1.2.2
    have c2 := g2.2.2
    cases sy with
    | le a b =>
      have c1 : cnt a ≤ 400 := c1
      have c2 : cnt b ≤ 400 := c2
      have h2 : (mrg (ats a ++ (ats b).map (Ent.scl (-1)))).length ≤ cnt a + cnt b := h2
      exact Nat.le_trans h1 (Nat.le_trans h2 (by omega))
    | eq a b =>
      have c1 : cnt a ≤ 400 := c1
      have c2 : cnt b ≤ 400 := c2
      have h2 : (mrg (ats a ++ (ats b).map (Ent.scl (-1)))).length ≤ cnt a + cnt b := h2
      exact Nat.le_trans h1 (Nat.le_trans h2 (by omega))
    | nle a b =>
      have c1 : cnt a ≤ 400 := c1
      have c2 : cnt b ≤ 400 := c2
      have h2 : (mrg (ats b ++ (ats a).map (Ent.scl (-1)))).length ≤ cnt b + cnt a := h2
      exact Nat.le_trans h1 (Nat.le_trans h2 (by omega))
  refine ⟨_, rfl, r, CL, dx, _, _, rfl, hr1, LK.cls, LK.no _ (by simp), rfl, _, rfl, pv_, 0, T, lineD sy.line.2.1 sy.line.2.2.1, rfl, hp, lenD, hadd, h700, hT1, fun H2 s2 => ?_⟩
  have hr2 := s2 _ _ hr1
  refine ⟨_, rfl, r, CL, dx, _, _, rfl, hr2, LK.cls, LK.no _ (by simp), rfl, ?_⟩
  have hT2 : TabR H2 T ns rs tn tr := hT1.keep (.of s2)
  have fin : ∀ (σ : L2.St), σ = [some v, some (.ref T), some (.bl (sy.val tn tr)), some (.ref r), some (.int (0 + addedV tn tr (lineD sy.line.2.1 sy.line.2.2.1))), some (.bl (lineT tn tr sy))] → True := fun _ _ => trivial
  by_cases z : sy.line.1 = Str.ofString "le"
  · have e1 : decide (V.str sy.line.1 = V.str (Str.ofString "le")) = true := decide_eq_true (congrArg V.str z)
    refine ⟨rfl, _, rfl, ite2 (fun _ => ?_) (fun c => absurd e1 c)⟩
    refine ⟨_, rfl, _, rfl, r, CL, dx, _, _, rfl, hr2, LK.cls, LK.no _ (by simp), rfl, _, _, rfl, rfl, ?_⟩
    have e2 : decide (0 + addedV tn tr (lineD sy.line.2.1 sy.line.2.2.1) ≤ 0 - (nb sy.line.2.1 + sy.line.2.2.2 + -1 * nb sy.line.2.2.1)) = sy.val tn tr := by
      rw [← hline]
      unfold lineT
      rw [if_pos z]
    have v6 := congrArg (fun z => some (some (V.bl z))) e2
    refine ⟨_, rfl, _, rfl, fun d nd_ => ?_⟩
    have zd := same_upd (o := .dK []) nd_
    have x3 : LamX.ExtN H (upd H2 d (.dK [])) := x1.trans (.of fun b o e => zd _ _ (s2 _ _ e))
    refine ⟨T, d, v, sy, rfl, upd_same, hs.kt (ExtN.kt x3), hsy, h700, hT2.keep (.of zd), fun H4 s4 => ?_⟩
    refine ⟨_, rfl, _, _, rfl, .inr (.inl ⟨_, rfl, rfl, _, rfl, iteT ?_⟩)⟩
    refine ⟨_, v6, _, rfl, rfl, ?_⟩
    have e3 : decide (V.bl (sy.val tn tr) = V.bl (sy.val tn tr)) = true := decide_eq_true rfl
    show Q (.bl (decide (V.bl (sy.val tn tr) = V.bl (sy.val tn tr)))) H4
    rw [e3]
    exact q H4 (x3.trans (.of s4)) (((T1.ext s2).ext zd).ext s4)
  · have e1 : decide (V.str sy.line.1 = V.str (Str.ofString "le")) = false := decide_eq_false fun y => z (by injection y)
    refine ⟨rfl, _, rfl, ite2 (fun c => absurd c (by rw [e1]; decide)) (fun _ => ?_)⟩
    refine ⟨_, rfl, _, rfl, r, CL, dx, _, _, rfl, hr2, LK.cls, LK.no _ (by simp), rfl, rfl, ?_⟩
    have e2 : decide (V.int (0 + addedV tn tr (lineD sy.line.2.1 sy.line.2.2.1)) = V.int (0 - (nb sy.line.2.1 + sy.line.2.2.2 + -1 * nb sy.line.2.2.1))) = sy.val tn tr := by
      rw [← hline]
      unfold lineT
      rw [if_neg z]
      by_cases y : 0 + addedV tn tr (lineD sy.line.2.1 sy.line.2.2.1) = 0 - (nb sy.line.2.1 + sy.line.2.2.2 + -1 * nb sy.line.2.2.1)
      · rw [decide_eq_true y, decide_eq_true (congrArg V.int y)]
      · rw [decide_eq_false y, decide_eq_false (fun x => y (by injection x))]
    have v6 := congrArg (fun z => some (some (V.bl z))) e2
    refine ⟨_, rfl, _, rfl, fun d nd_ => ?_⟩
    have zd := same_upd (o := .dK []) nd_
    have x3 : LamX.ExtN H (upd H2 d (.dK [])) := x1.trans (.of fun b o e => zd _ _ (s2 _ _ e))
    refine ⟨T, d, v, sy, rfl, upd_same, hs.kt (ExtN.kt x3), hsy, h700, hT2.keep (.of zd), fun H4 s4 => ?_⟩
    refine ⟨_, rfl, _, _, rfl, .inr (.inl ⟨_, rfl, rfl, _, rfl, iteT ?_⟩)⟩
    refine ⟨_, v6, _, rfl, rfl, ?_⟩
    have e3 : decide (V.bl (sy.val tn tr) = V.bl (sy.val tn tr)) = true := decide_eq_true rfl
    show Q (.bl (decide (V.bl (sy.val tn tr) = V.bl (sy.val tn tr)))) H4
    rw [e3]
    exact q H4 (x3.trans (.of s4)) (((T1.ext s2).ext zd).ext s4)
end
end Lw
/-! Part J5: _law_s_all_so. -/
namespace Lw
open PySem PySem.Spec L2 L2.DX PyProof.Rows
def spAllSo (PT : Addr) (ns rs : List Key) (tn : Key → Int) (tr : Key → RowF) (n : Nat) : Sp := fun vs H Q _ => ∃ (v1 v2 v3 : V) (T : Addr) (t1 t2 t3 : Tm) (st : Int), vs = [v1, v2, v3, .int st, .ref T] ∧ TR H v1 t1 ∧ TR H v2 t2 ∧ TR H v3 t3 ∧ (tv tn tr t2).1 = (tv tn tr t1).1 ∧ (tv tn tr t3).1 = (tv tn tr t1).1 + st ∧
  (∀ s ∈ [Sy.le t1 t3, Sy.nle t2 t3, Sy.le t3 t2, Sy.eq t3 t1], SayOk ns rs tn tr n s ∧ lineT tn tr s = s.val tn tr) ∧ n ≤ 700 ∧ TabR H T ns rs tn tr ∧ LamX.Tabs (TT PT) H ∧ ∀ H', LamX.ExtN H H' → LamX.Tabs (TT PT) H' → Q (.bl true) H'
theorem scAllSo : FnScope ["_law_one", "_law_again", "_law_other", "_law_step", "_law_table"] ["_law_one", "_law_again", "_law_other", "_law_step", "_law_table"] (defScope (top 59)) := ⟨rfl, rfl, rfl, by decide +kernel, rfl, by decide +kernel, by decide +kernel⟩
section
variable {P : Program} {w : World} {K : PySem.W.Frag} {mg' : Str → Option Value} {base : Heap} {PT CL : Addr} {ns rs : List Key} {tn : Key → Int} {tr : Key → RowF}
theorem ok_allso {n k : Nat} (D : Df K mg' "_law_s_all_so" 59) (G : Gg P w K mg' base k "_law_s_is_so" ["_law_saying", "_law_table", "_law_due"] (spLIsSo PT ns rs tn tr n)) :
    Gg P w K mg' base (k + 1) "_law_s_all_so" ["_law_one", "_law_again", "_law_other", "_law_step", "_law_table"] (spAllSo PT ns rs tn tr n) := by
  refine okGg D scAllSo (fun _ _ _ _ _ _ us hl => match us, hl with | [_, _, _, _, _], _ => rfl) (fun vs H Q E h => ?_) (fun f cdv A out s H vs Q E gd hr h => ?_)
  · obtain ⟨v1, v2, v3, T, t1, t2, t3, st, rfl, _⟩ := h
    rfl
  obtain ⟨v1, v2, v3, T, t1, t2, t3, st, rfl, h1, h2, h3, e2, e3, hall, h700, hT, hTb, q⟩ := h
  have nd := scAllSo.nd
  refine ⟨_, pss_cons (ps_if (pt_not (pt_val (pe_g G gd hr rfl (pa_cons (pe_tup (pa_cons pe_str (pa_cons (pv 0) (pa_cons (pv 2) pa_nil)))) (pa_cons (pv 4) (pa_cons (pe_cmpR op_ge (pv 3) pe_int (nomark _)) pa_nil)))))) (pss_one (ps_ret pe_bl)) pss_nil)
    (pss_cons (ps_if (pt_not (pt_val (pe_g G gd hr rfl (pa_cons (pe_tup (pa_cons pe_str (pa_cons (pe_tup (pa_cons pe_str (pa_cons (pv 1) (pa_cons (pv 2) pa_nil)))) pa_nil))) (pa_cons (pv 4) (pa_cons (pe_cmpR op_lt (pv 3) pe_int (nomark _)) pa_nil)))))) (pss_one (ps_ret pe_bl)) pss_nil)
    (pss_cons (ps_if (pt_not (pt_val (pe_g G gd hr rfl (pa_cons (pe_tup (pa_cons pe_str (pa_cons (pv 2) (pa_cons (pv 1) pa_nil)))) (pa_cons (pv 4) (pa_cons (pe_cmpR op_le (pv 3) pe_int (nomark _)) pa_nil)))))) (pss_one (ps_ret pe_bl)) pss_nil)
    (pss_one (ps_ret (pe_g G gd hr rfl (pa_cons (pe_tup (pa_cons pe_str (pa_cons (pv 2) (pa_cons (pv 0) pa_nil)))) (pa_cons (pv 4) (pa_cons (pe_cmpR op_eq (pv 3) pe_int (nomark _)) pa_nil)))))))), ?_⟩
  have m1 := hall (.le t1 t3) (by simp)
  have m2 := hall (.nle t2 t3) (by simp)
  have m3 := hall (.le t3 t2) (by simp)
  have m4 := hall (.eq t3 t1) (by simp)
  have r1 : decide ((0 : Int) ≤ st) = (Sy.le t1 t3).val tn tr := by
    show _ = decide ((tv tn tr t1).1 ≤ (tv tn tr t3).1)
    rw [e3]
    exact decide_eq_decide.mpr (by omega)
  have r2 : decide (st < 0) = (Sy.nle t2 t3).val tn tr := by
    show _ = !decide ((tv tn tr t2).1 ≤ (tv tn tr t3).1)
    rw [e3, e2, ← decide_not]
    exact decide_eq_decide.mpr (by omega)
  have r3 : decide (st ≤ 0) = (Sy.le t3 t2).val tn tr := by
    show _ = decide ((tv tn tr t3).1 ≤ (tv tn tr t2).1)
    rw [e3, e2]
    exact decide_eq_decide.mpr (by omega)
  have r4 : decide (V.int st = V.int 0) = (Sy.eq t3 t1).val tn tr := by
    show _ = decide ((tv tn tr t3).1 = (tv tn tr t1).1)
    rw [e3]
    exact decide_eq_decide.mpr ⟨fun z => by injection z with z; omega, fun z => congrArg V.int (by omega)⟩
  refine ⟨_, rfl, _, rfl, by show 3 ≤ sizeLine; decide, fun a1 n1 => ?_⟩
  have z1 := same_upd (o := .tup [V.str "le", v1, v3]) n1
  refine ⟨_, rfl, _, rfl, _, _, rfl, rfl, ?_⟩
  refine ⟨.ref a1, T, .le t1 t3, by rw [← r1], .tup upd_same (.cons (.str _) (.cons (h1.kt (.of z1)) (.cons (h3.kt (.of z1)) .nil))), m1.1, h700, m1.2, hT.keep (.of z1), hTb.ext z1, fun H1 x1 T1 => ⟨_, rfl, iteF ?_⟩⟩
  have x1' : LamX.ExtN H H1 := (LamX.ExtN.of z1).trans x1
  refine ⟨_, rfl, _, rfl, by show 3 ≤ sizeLine; decide, fun a2 n2 => ⟨by show 2 ≤ sizeLine; decide, fun a3 n3 => ?_⟩⟩
  have z2 := same_upd (o := .tup [V.str "le", v2, v3]) n2
  have z3 := same_upd (o := .tup [V.str "not", .ref a2]) n3
  have x3 : LamX.ExtN H _ := x1'.trans (.of fun b o e => z3 _ _ (z2 _ _ e))
  refine ⟨_, rfl, _, rfl, _, _, rfl, rfl, ?_⟩
  refine ⟨.ref a3, T, .nle t2 t3, by rw [← r2], .tup upd_same (.cons (.str _) (.cons (.tup (z3 _ _ upd_same) (.cons (.str _) (.cons (h2.kt (ExtN.kt x3)) (.cons (h3.kt (ExtN.kt x3)) .nil)))) .nil)), m2.1, h700, m2.2, hT.keep (KD.ext x3), (T1.ext z2).ext z3, fun H4 x4 T4 => ⟨_, rfl, iteF ?_⟩⟩
  have x4' := x3.trans x4
  refine ⟨_, rfl, _, rfl, by show 3 ≤ sizeLine; decide, fun a5 n5 => ?_⟩
  have z5 := same_upd (o := .tup [V.str "le", v3, v2]) n5
  have x5 : LamX.ExtN H _ := x4'.trans (.of z5)
  refine ⟨_, rfl, _, rfl, _, _, rfl, rfl, ?_⟩
  refine ⟨.ref a5, T, .le t3 t2, by rw [← r3], .tup upd_same (.cons (.str _) (.cons (h3.kt (ExtN.kt x5)) (.cons (h2.kt (ExtN.kt x5)) .nil))), m3.1, h700, m3.2, hT.keep (KD.ext x5), T4.ext z5, fun H6 x6 T6 => ⟨_, rfl, iteF ?_⟩⟩
  have x6' := x5.trans x6
  refine ⟨_, rfl, _, rfl, by show 3 ≤ sizeLine; decide, fun a7 n7 => ?_⟩
  have z7 := same_upd (o := .tup [V.str "eq", v3, v1]) n7
  have x7 : LamX.ExtN H _ := x6'.trans (.of z7)
  refine ⟨_, rfl, _, rfl, rfl, ?_⟩
  refine ⟨.ref a7, T, .eq t3 t1, by rw [← r4], .tup upd_same (.cons (.str _) (.cons (h3.kt (ExtN.kt x7)) (.cons (h1.kt (ExtN.kt x7)) .nil))), m4.1, h700, m4.2, hT.keep (KD.ext x7), T6.ext z7, fun H8 x8 T8 => ?_⟩
  exact q H8 (x7.trans x8) T8
end
end Lw
/-! Part H1: sorted(xs), xs pairs of a text and a datum; where the texts are the same the data are. -/
namespace Lw
open PySem PySem.Spec L2 L2.DX PyProof.Rows
def mkD (b : Str × PyData) : PyData := .tuple [.str b.1, b.2]
noncomputable def markKind (h : Heap) (bs : List (Str × PyData)) : PyProof.Rows.KeyKind where
  toKeyOrd := PyProof.Rows.listOrd PyProof.Rows.itemOrd
  keyOf v := open Classical in if q : ∃ b, b ∈ bs ∧ ∃ as, Reads h v (mkD b) as then some (PySem.W.keyToks (.str q.choose.1)) else none
  dflt := ([] : List (Int ⊕ List Nat))
theorem reads_pair {h : Heap} {v : Value} {x : Str} {d : PyData} {as : List Addr} (r : Reads h v (mkD (x, d)) as) : ∃ a o n t u bs, v = .ref a ∧ h.get? a = some o ∧ o.cls = .type "tuple" ∧ o.data = .seq #[.str x t, u] n ∧ Reads h u d bs := by
  cases r with
  | @tuple a o xs n _ _ ho hc hd hr =>
    cases q : xs.toList with
    | nil =>
      rw [q] at hr
      cases hr
    | cons f fr =>
      rw [q] at hr
      cases hr with
      | cons r1 r2 =>
        cases r1
        cases fr with
        | nil => cases r2
        | cons g gr =>
          cases r2 with
          | cons r3 r4 =>
            cases r4
            have e := congrArg List.toArray q
            rw [Array.toArray_toList] at e
            subst e
            exact ⟨a, o, n, _, g, _, rfl, ho, hc, hd, r3⟩
theorem reads_mark {h : Heap} {v : Value} {b b' : Str × PyData} {as bs : List Addr} (r : Reads h v (mkD b) as) (r' : Reads h v (mkD b') bs) : b.1 = b'.1 := by
  obtain ⟨a, o, n, t, u, _, rfl, h1, h2, h3, _⟩ := reads_pair r
  obtain ⟨a', o', n', t', u', _, e, k1, k2, k3, _⟩ := reads_pair r'
  cases e
  rw [h1] at k1
  cases k1
  rw [h3] at k3
  injection k3 with k3 _
  have := congrArg (fun z => z[0]?) k3
  simp at this
  exact this.1
theorem markKind_some {h : Heap} {bs : List (Str × PyData)} {v : Value} {b : Str × PyData} {as : List Addr} (hb : b ∈ bs) (r : Reads h v (mkD b) as) : (markKind h bs).keyOf v = some (PySem.W.keyToks (.str b.1)) := by
  have q : ∃ b, b ∈ bs ∧ ∃ as, Reads h v (mkD b) as := ⟨b, hb, as, r⟩
  have e : (markKind h bs).keyOf v = some (PySem.W.keyToks (.str q.choose.1)) := by
    show (open Classical in if q : ∃ b, b ∈ bs ∧ ∃ as, Reads h v (mkD b) as then some (PySem.W.keyToks (.str q.choose.1)) else none) = _
    rw [dif_pos q]
  obtain ⟨h1, as', h2⟩ := q.choose_spec
  rw [e, reads_mark h2 r]
theorem markKind_inv {h : Heap} {bs : List (Str × PyData)} {v : Value} {k : List (Int ⊕ List Nat)} (e : (markKind h bs).keyOf v = some k) : ∃ b as, b ∈ bs ∧ Reads h v (mkD b) as ∧ k = PySem.W.keyToks (.str b.1) := by
  by_cases q : ∃ b, b ∈ bs ∧ ∃ as, Reads h v (mkD b) as
  · have e' : (markKind h bs).keyOf v = some (PySem.W.keyToks (.str q.choose.1)) := by
      show (open Classical in if q : ∃ b, b ∈ bs ∧ ∃ as, Reads h v (mkD b) as then some (PySem.W.keyToks (.str q.choose.1)) else none) = _
      rw [dif_pos q]
    obtain ⟨h1, as', h2⟩ := q.choose_spec
    rw [e'] at e
    exact ⟨_, as', h1, h2, (Option.some.inj e).symm⟩
  · have e' : (markKind h bs).keyOf v = none := by
      show (open Classical in if q : ∃ b, b ∈ bs ∧ ∃ as, Reads h v (mkD b) as then some (PySem.W.keyToks (.str q.choose.1)) else none) = _
      rw [dif_neg q]
      rfl
    rw [e'] at e
    exact absurd e (by simp)
section
variable {prog : Program} {w : World} {A : Around} {s : Shared}
theorem sorts_marks {vs : List Value} {bs : List (Str × PyData)} (e : PySem.W.EachIs (fun v b => ∃ as, Reads s.heap v (mkD b) as) vs bs) (hinj : ∀ b ∈ bs, ∀ b' ∈ bs, b.1 = b'.1 → b.2 = b'.2) (hal : ∀ b ∈ bs, PySem.W.alike b.2 b.2 = true) (hu : ∀ b ∈ bs, A.units + (b.2.depth + 1) < cLine) :
    PySem.W.SortsAt prog w A s (markKind s.heap bs) vs := by
  refine ⟨fun v hv => ?_, tuples' true, ?_, fun h2 E Q hq => ?_⟩
  · obtain ⟨b, hb, as, r⟩ := e.left v hv
    exact ⟨_, markKind_some hb r⟩
  · intro E x y a b Q ha hb hq
    obtain ⟨c, as, hc, ra, rfl⟩ := markKind_inv ha
    obtain ⟨c', as', hc', rb, rfl⟩ := markKind_inv hb
    have hq' : Q (PySem.W.dataLt (.str c.1) (.str c'.1)) s := hq
    have hroom : A.units + (c.2.depth + 1) < cLine := hu c hc
    have dpt : ∀ z : Str, (PyData.str z).depth = 0 := fun z => by simp only [PyData.depth]
    unfold mkD at ra rb
    cases ra with
    | @tuple l o xs n _ _ h1 h2 h3 h4 =>
      cases rb with
      | @tuple l' o' xs' n' _ _ k1 k2 k3 k4 =>
        have n1 : xs.size = 2 := by simpa using SeqAt.ReadsAll.length _ _ _ h4
        have n2 : xs'.size = 2 := by simpa using SeqAt.ReadsAll.length _ _ _ k4
        refine PySem.W.kat_lt h1 h3 k1 k3 ?_
        rw [n1, n2]
        by_cases z : c.1 = c'.1
        · have z2 := hinj c hc c' hc' z
          obtain ⟨cx, cd⟩ := c
          obtain ⟨cx', cd'⟩ := c'
          have z : cx = cx' := z
          have z2 : cd = cd' := z2
          subst z z2
          refine PySem.W.katLex_alike [.str cx, cd] [.str cx, cd] 0 _ _ _ _ h4 k4 ?_ ?_ (fun _ _ x r t e => by cases e; exact fun q => by cases q) rfl ?_
          · have := hal _ hc
            simp only [PySem.W.alikeAll, PySem.W.alike, Bool.and_eq_true]
            exact ⟨trivial, this, trivial⟩
          · simp only [PyData.depthAll, PyData.depth]
            have hroom : A.units + (cd.depth + 1) < cLine := hroom
            omega
          · have e1 : PySem.W.dataLt (.str cx) (.str cx) = false := PyProof.Rows.lex_irrefl _
            rw [e1] at hq'
            rw [PyProof.Rows.lex_irrefl]
            exact hq'
        · generalize q1 : xs.toList = X1 at h4
          generalize q2 : xs'.toList = X2 at k4
          cases h4 with
          | cons r1 r2 =>
            cases k4 with
            | cons r3 r4 =>
              rw [List.zip_cons_cons]
              refine PySem.W.kat_cons (PySem.W.eqAt_alike (.str c.1) (.str c'.1) A s _ _ _ _ r1 r3 rfl (by rw [dpt, dpt]; omega) prog w _ _ ?_)
              have ne : PyData.eqv (.str c.1) (.str c'.1) = false := by
                simp only [PyData.eqv]
                exact decide_eq_false z
              rw [ne]
              exact PySem.W.kat_no (PySem.W.oneLt_alike (fun _ xs e => by cases e) r1 r3 rfl (fun e => by cases e) (by rw [dpt, dpt]; omega) hq')
  · obtain ⟨fs, t1, t2, t3⟩ := PySem.W.each_katTups (PySem.W.each_map (R := fun v d => ∃ as, Reads s.heap v d as) mkD e) (fun d hd => by
      obtain ⟨b, _, rfl⟩ := List.mem_map.mp hd
      exact ⟨_, _, rfl⟩)
    refine PySem.W.kat_kind (T := .type "str") t1 (by omega) (fun f hf => ?_) (beq_self_eq_true _) hq
    obtain ⟨x, r, as, m1, m2⟩ := t3 f hf
    obtain ⟨b, _, hb⟩ := List.mem_map.mp m1
    unfold mkD at hb
    cases hb
    exact PySem.W.looks_reads m2
end
section
variable {X : Cx}
theorem DRs.zipM {H : Hp} : ∀ {xs : List V} {bs : List (Str × PyData)}, DRs H xs (bs.map mkD) → ∀ z ∈ xs.zip bs, DR H z.1 (mkD z.2)
  | [], _, _, z, hz => absurd hz (by simp)
  | _ :: _, [], h, _, _ => by cases h
  | x :: xs, d :: ds, h, z, hz => by
    cases h with
    | cons h1 h2 =>
      rw [List.zip_cons_cons] at hz
      rcases List.mem_cons.mp hz with rfl | hz
      · exact h1
      · exact DRs.zipM h2 z hz
theorem DRs.ofAllM {H : Hp} : ∀ {zs : List (V × (Str × PyData))}, (∀ z ∈ zs, DR H z.1 (mkD z.2)) → DRs H (zs.map (·.1)) ((zs.map (·.2)).map mkD)
  | [], _ => .nil
  | z :: zs, h => .cons (h z (List.mem_cons_self ..)) (DRs.ofAllM fun y hy => h y (List.mem_cons_of_mem _ hy))
/-- sorted(xs) of such pairs: the pairs in some order -/
def rSortM : List V → Hp → VK → Prop := fun vs H Q => ∃ (a : Addr) (us : List V) (bs : List (Str × PyData)), vs = [.ref a] ∧ H a = some (.lst us) ∧ DRs H us (bs.map mkD) ∧ (∀ b ∈ bs, ∀ b' ∈ bs, b.1 = b'.1 → b.2 = b'.2) ∧ (∀ b ∈ bs, PySem.W.alike b.2 b.2 = true) ∧ (∀ b ∈ bs, b.2.depth ≤ 60) ∧
  ∀ (p : Addr) (us' : List V) (bs' : List (Str × PyData)), bs'.Perm bs → us'.length = us.length → DRs H us' (bs'.map mkD) → H p = none → Q (.ref p) (upd H p (.lst us'))
theorem cr_sortM (hu : X.A.units + 66 < cLine) : CallR X (.builtin "sorted") rSortM := by
  intro pins s σ H vs us0 Q I r h
  obtain ⟨a, us, bs, rfl, ha, hd, hinj, hal, hdp, q⟩ := h
  obtain ⟨u, rfl, rx⟩ := vals1 r
  cases rx
  obtain ⟨its, rv, hl, hz⟩ := I.list (SqL.of ha)
  have hlen : us.length = bs.length := by rw [hd.length, List.length_map]
  have ev : PySem.W.EachIs (fun v (z : V × (Str × PyData)) => RelV z.1 v) its (us.zip bs) := by
    clear q hl hz hinj hal hdp ha hd
    induction rv generalizing bs with
    | nil =>
      cases bs with
      | nil => exact .nil
      | cons _ _ => simp at hlen
    | cons r _ ih =>
      cases bs with
      | nil => simp at hlen
      | cons d ds => exact .cons r (ih ds (by simpa using hlen))
  have hv : ∀ (v : Value) (b : V), RelV b v → ∀ d, DR H b d → ∃ as, Reads s.heap v d as := fun v b rb d hb => Dp.reads I d b v (hb.dp X.K) rb
  have er : PySem.W.EachIs (fun v (b : Str × PyData) => ∃ as, Reads s.heap v (mkD b) as) its bs := by
    clear q hl hz hinj hal hdp ha ev
    induction rv generalizing bs with
    | nil =>
      cases bs with
      | nil => exact .nil
      | cons _ _ => simp at hlen
    | cons r _ ih =>
      cases bs with
      | nil => simp at hlen
      | cons d ds =>
        cases hd with
        | cons g1 g2 => exact .cons (hv _ _ r _ g1) (ih ds g2 (by simpa using hlen))
  have old : ∀ b o, s.heap.get? b = some o → (PySem.W.sortingHeap (PySem.W.copyHeap s.heap its) (s.heap.objs.size + 1) its).get? b = some o := fun b o => PySem.W.sorting_copy_old
  have er2 : PySem.W.EachIs (fun v (b : Str × PyData) => ∃ as, Reads (PySem.W.sortingHeap (PySem.W.copyHeap s.heap its) (s.heap.objs.size + 1) its) v (mkD b) as) its bs := er.mono fun _ _ ⟨as, r⟩ => ⟨as, PyProof.Rows.Reads.keeps old r⟩
  have S := sorts_marks (prog := X.prog) (w := X.w) (A := X.A.in1.in1) (s := { s with heap := PySem.W.sortingHeap (PySem.W.copyHeap s.heap its) (s.heap.objs.size + 1) its }) er2 hinj hal (fun b hb => by
    have := hdp b hb
    show X.A.units + 2 + (b.2.depth + 1) < cLine
    omega)
  refine PySem.W.sorted_vals hl.isList S (by rw [← rv.length]; exact hz) ?_
  have hk : PySem.W.EachIs (fun v (z : V × (Str × PyData)) => (markKind (PySem.W.sortingHeap (PySem.W.copyHeap s.heap its) (s.heap.objs.size + 1) its) bs).keyOf v = some (PySem.W.keyToks (.str z.2.1))) its (us.zip bs) := by
    have g : ∀ {vs : List Value} {us : List V} {cs : List (Str × PyData)}, PySem.W.EachIs (fun v (b : Str × PyData) => ∃ as, Reads (PySem.W.sortingHeap (PySem.W.copyHeap s.heap its) (s.heap.objs.size + 1) its) v (mkD b) as) vs cs → us.length = cs.length → (∀ c ∈ cs, c ∈ bs) →
        PySem.W.EachIs (fun v (z : V × (Str × PyData)) => (markKind (PySem.W.sortingHeap (PySem.W.copyHeap s.heap its) (s.heap.objs.size + 1) its) bs).keyOf v = some (PySem.W.keyToks (.str z.2.1))) vs (us.zip cs) := fun {vs us cs} h => by
      induction h generalizing us with
      | nil =>
        intro hl _
        cases us with
        | nil => exact .nil
        | cons _ _ => simp at hl
      | cons r _ ih =>
        intro hl hm
        cases us with
        | nil => simp at hl
        | cons u us =>
          obtain ⟨as, r⟩ := r
          exact .cons (markKind_some (hm _ (List.mem_cons_self ..)) r) (ih (by simpa using hl) fun c hc => hm c (List.mem_cons_of_mem _ hc))
    exact g er2 hlen fun c hc => hc
  have eo := PySem.W.sortVals_each (κ := markKind (PySem.W.sortingHeap (PySem.W.copyHeap s.heap its) (s.heap.objs.size + 1) its) bs) (rev := false) (fun z : V × (Str × PyData) => PySem.W.keyToks (.str z.2.1)) ev hk
  generalize hz2 : (us.zip bs).mergeSort (PySem.W.sortLe (markKind (PySem.W.sortingHeap (PySem.W.copyHeap s.heap its) (s.heap.objs.size + 1) its) bs).toKeyOrd false fun z : V × (Str × PyData) => PySem.W.keyToks (.str z.2.1)) = zs at eo
  have hp : zs.Perm (us.zip bs) := by rw [← hz2]; exact List.mergeSort_perm _ _
  generalize PySem.W.sortVals (markKind (PySem.W.sortingHeap (PySem.W.copyHeap s.heap its) (s.heap.objs.size + 1) its) bs) false its its = out at eo
  have hvals : Vals (zs.map (·.1)) out := by
    have g : ∀ {out : List Value} {zs : List (V × (Str × PyData))}, PySem.W.EachIs (fun v (z : V × (Str × PyData)) => RelV z.1 v) out zs → Vals (zs.map (·.1)) out := fun {out zs} h => by
      induction h with
      | nil => exact .nil
      | cons r _ ih => exact .cons r ih
    exact g eo
  have hzl : zs.length = us.length := by rw [hp.length_eq, List.length_zip, hlen, Nat.min_self]
  have hb2 : (us.zip bs).map (·.2) = bs := List.map_snd_zip (by omega)
  obtain ⟨ep, he⟩ := PyProof.Rows.sortedAll_at s.heap its out.toArray
  have hln : (zs.map (·.1)).length ≤ sizeLine := by
    rw [List.length_map, hzl]
    exact hz
  refine ⟨.ref _, upd H (s.heap.objs.size + 1) (.lst (zs.map (·.1))), I.laid (t' := s.toks) (fun _ _ => PyProof.Rows.sortedAll_old) (Nat.le_succ _) ⟨hln, _, ep, hvals, he⟩, rfl, q _ _ (zs.map (·.2)) ?_ (by rw [List.length_map]; exact hzl) ?_ (I.hok.fresh (Nat.le_succ _))⟩
  · rw [← hb2]
    exact hp.map _
  · exact DRs.ofAllM fun z hz => DRs.zipM hd z (hp.mem_iff.mp hz)
end
end Lw
/-! Part H2: the texts of good data tell the data. Plain. -/
namespace Lw
open PySem PySem.Spec PyProof.Rows
/-- small letters -/
def LowS (x : Str) : Prop := ∀ c ∈ x.cps.toList, 97 ≤ c ∧ c ≤ 122
mutual
/-- data of small ints, of short texts of small letters, and tuples of such -/
def GD : PyData → Prop
  | .int i => i.natAbs < 10 ^ 150
  | .str x => LowS x ∧ x.length ≤ 20
  | .tuple ds => GDs ds
  | _ => False
def GDs : List PyData → Prop
  | [] => True
  | d :: ds => GD d ∧ GDs ds
end
def ch (d : PyData) : List Nat := d.shown.cps.toList
theorem low_print : ∀ k : Fin 26, Builtin.Str.reprChar 39 (k.val + 97) = [k.val + 97] := by decide +kernel
theorem reprChar_low {c : Nat} (h : 97 ≤ c ∧ c ≤ 122) : Builtin.Str.reprChar 39 c = [c] := by
  have := low_print ⟨c - 97, by omega⟩
  have e : c - 97 + 97 = c := by omega
  simpa only [e] using this
theorem fold_low (q : Nat) (hq : q = 39) : ∀ (l : List Nat) (acc : Array Nat), (∀ c ∈ l, 97 ≤ c ∧ c ≤ 122) → (l.foldl (fun out c => out ++ (Builtin.Str.reprChar q c).toArray) acc).toList = acc.toList ++ l
  | [], acc, _ => by simp
  | c :: l, acc, h => by
    subst hq
    rw [List.foldl_cons, fold_low 39 rfl l _ fun x hx => h x (List.mem_cons_of_mem _ hx), reprChar_low (h c (List.mem_cons_self ..))]
    simp
theorem ch_str {x : Str} (h : LowS x) : ch (.str x) = 39 :: (x.cps.toList ++ [39]) := by
  have hq : reprQuote x = 39 := by
    unfold reprQuote
    have : x.cps.contains 39 = false := by
      rw [Bool.eq_false_iff]
      intro hm
      have := h 39 (Array.mem_toList_iff.mpr (Array.contains_iff_mem.mp hm))
      omega
    rw [this]
    rfl
  show (PyData.str x).shown.cps.toList = _
  rw [PyData.shown_str]
  unfold reprText
  rw [hq]
  show ((x.cps.foldl _ #[39]).push 39).toList = _
  rw [Array.toList_push, ← Array.foldl_toList, fold_low 39 rfl _ _ h]
  rfl
def dg (m : Nat) : List Nat := (Nat.toDigits 10 m).map Char.toNat
theorem ch_nat (m : Nat) : ch (.int (m : Int)) = dg m := by
  show (PyData.int (m : Int)).shown.cps.toList = _
  rw [PyData.shown_int]
  exact PySem.W.KIN.signs_num m
theorem ch_neg (m : Nat) : ch (.int (Int.negSucc m)) = 45 :: dg (m + 1) := by
  show (PyData.int (Int.negSucc m)).shown.cps.toList = _
  rw [PyData.shown_int, signs_ofString]
  show (("-" ++ Nat.repr (m + 1) : String)).toList.map Char.toNat = _
  rw [String.toList_append, Nat.toList_repr, List.map_append]
  rfl
theorem dig_range {m c : Nat} (h : c ∈ dg m) : 48 ≤ c ∧ c ≤ 57 := by
  obtain ⟨d, hd, rfl⟩ := List.mem_map.mp h
  exact digit_range (Nat.isDigit_of_mem_toDigits (by decide) (by decide) hd)
theorem dig_ne (m : Nat) : dg m ≠ [] := fun e => by
  have h := toDigits_len_ge 10 m
  rw [List.map_eq_nil_iff.mp e] at h
  exact absurd h (by decide)
theorem dg_inj {m n : Nat} (e : dg m = dg n) : m = n := by
  have := congrArg PySem.NumText.digitsVal e
  unfold dg at this
  rwa [PySem.W.KIN.val_back, PySem.W.KIN.val_back] at this
theorem ch_int_range {i : Int} {c : Nat} (h : c ∈ ch (.int i)) : c = 45 ∨ 48 ≤ c ∧ c ≤ 57 := by
  cases i with
  | ofNat m => rw [show Int.ofNat m = (m : Int) from rfl, ch_nat] at h; exact Or.inr (dig_range h)
  | negSucc m =>
    rw [ch_neg] at h
    rcases List.mem_cons.mp h with e | e
    · exact Or.inl e
    · exact Or.inr (dig_range e)
theorem ch_int_ne (i : Int) : ch (.int i) ≠ [] := by
  cases i with
  | ofNat m => rw [show Int.ofNat m = (m : Int) from rfl, ch_nat]; exact dig_ne m
  | negSucc m => rw [ch_neg]; exact List.cons_ne_nil _ _
theorem ch_int_inj {i j : Int} (e : ch (.int i) = ch (.int j)) : i = j := by
  cases i with
  | ofNat m =>
    cases j with
    | ofNat n =>
      rw [show Int.ofNat m = (m : Int) from rfl, show Int.ofNat n = (n : Int) from rfl, ch_nat, ch_nat] at e
      rw [dg_inj e]
    | negSucc n =>
      rw [show Int.ofNat m = (m : Int) from rfl, ch_nat, ch_neg] at e
      have : 45 ∈ dg m := by rw [e]; exact List.mem_cons_self ..
      have := dig_range this
      omega
  | negSucc m =>
    cases j with
    | ofNat n =>
      rw [show Int.ofNat n = (n : Int) from rfl, ch_nat, ch_neg] at e
      have : 45 ∈ dg n := by rw [← e]; exact List.mem_cons_self ..
      have := dig_range this
      omega
    | negSucc n =>
      rw [ch_neg, ch_neg] at e
      have := dg_inj (List.cons.inj e).2
      have e2 : m = n := by omega
      rw [e2]
/-- two runs of one kind, with something else behind -/
theorem two_runs {p : Nat → Prop} : ∀ (l l' r r' : List Nat), (∀ c ∈ l, p c) → (∀ c ∈ l', p c) → (∀ c, r.head? = some c → ¬p c) → (∀ c, r'.head? = some c → ¬p c) → l ++ r = l' ++ r' → l = l' ∧ r = r'
  | [], [], _, _, _, _, _, _, e => ⟨rfl, e⟩
  | [], c :: l', r, r', _, h', hr, _, e => by
    have e' : r = c :: (l' ++ r') := e
    exact absurd (h' c (List.mem_cons_self ..)) (hr c (by rw [e']; rfl))
  | c :: l, [], r, r', h, _, _, hr', e => by
    have e' : r' = c :: (l ++ r) := e.symm
    exact absurd (h c (List.mem_cons_self ..)) (hr' c (by rw [e']; rfl))
  | c :: l, c' :: l', r, r', h, h', hr, hr', e => by
    obtain ⟨e1, e2⟩ := List.cons.inj e
    obtain ⟨e3, e4⟩ := two_runs l l' r r' (fun x hx => h x (List.mem_cons_of_mem _ hx)) (fun x hx => h' x (List.mem_cons_of_mem _ hx)) hr hr' e2
    exact ⟨by rw [e1, e3], e4⟩
/-- what may stand behind -/
def Del (r : List Nat) : Prop := ∀ c, r.head? = some c → c = 44 ∨ c = 41
def rst : List PyData → List Nat
  | [] => [41]
  | d :: ds => 44 :: 32 :: (ch d ++ rst ds)
def bod : List PyData → List Nat
  | [] => [41]
  | [d] => ch d ++ [44, 41]
  | d :: e :: ds => ch d ++ rst (e :: ds)
theorem bod_one (d : PyData) : bod [d] = ch d ++ [44, 41] := rfl
theorem bod_two (d e : PyData) (ds : List PyData) : bod (d :: e :: ds) = ch d ++ rst (e :: ds) := rfl
theorem join_rst : ∀ (d : PyData) (ds : List PyData), (Str.join ", " (PyData.shownAll (d :: ds))).cps.toList ++ [41] = ch d ++ rst ds
  | d, [] => by
    rw [PyData.shownAll_cons, PyData.shownAll_nil, join_one]
    rfl
  | d, e :: ds => by
    have := join_rst e ds
    rw [PyData.shownAll_cons] at this
    rw [PyData.shownAll_cons, PyData.shownAll_cons, join_cons_cons, cps_toList_append, cps_toList_append, List.append_assoc, this, List.append_assoc]
    rfl
theorem ch_tuple (ds : List PyData) : ch (.tuple ds) = 40 :: bod ds := by
  show (PyData.tuple ds).shown.cps.toList = _
  rw [PyData.shown_tuple, cps_toList_append, cps_toList_append, List.append_assoc]
  match ds with
  | [] => rfl
  | [d] =>
    rw [PyData.shownAll_cons, PyData.shownAll_nil, join_one]
    rfl
  | d :: e :: r =>
    have h := join_rst d (e :: r)
    show [40] ++ _ = _
    have hl : ((d :: e :: r).length == 1) = false := by
      rw [List.length_cons, List.length_cons]
      exact beq_eq_false_iff_ne.mpr (by omega)
    rw [hl]
    show [40] ++ ((Str.join ", " (PyData.shownAll (d :: e :: r))).cps.toList ++ [41]) = _
    rw [h]
    rfl
theorem ch_head {d : PyData} (h : GD d) : ∃ c r, ch d = c :: r ∧ (c = 39 ∨ c = 40 ∨ c = 45 ∨ 48 ≤ c ∧ c ≤ 57) := by
  cases d with
  | int i =>
    cases e : ch (.int i) with
    | nil => exact absurd e (ch_int_ne i)
    | cons c r => exact ⟨c, r, rfl, by have := ch_int_range (i := i) (c := c) (by rw [e]; exact List.mem_cons_self ..); omega⟩
  | str x =>
    rw [GD] at h
    exact ⟨39, _, ch_str h.1, Or.inl rfl⟩
  | tuple ds => exact ⟨40, _, ch_tuple ds, Or.inr (Or.inl rfl)⟩
  | _ => exact absurd h (by simp [GD])
theorem del_rst (ds : List PyData) (r : List Nat) : Del (rst ds ++ r) := by
  cases ds with
  | nil => intro c h; exact Or.inr (Option.some.inj h).symm
  | cons d ds => intro c h; exact Or.inl (Option.some.inj h).symm
def PI (d : PyData) : Prop := ∀ d', GD d' → ∀ r r', Del r → Del r' → ch d ++ r = ch d' ++ r' → d = d' ∧ r = r'
theorem rst_inj : ∀ (ds ds' : List PyData), (∀ d ∈ ds, PI d) → (∀ d ∈ ds', GD d) → ∀ r r', rst ds ++ r = rst ds' ++ r' → ds = ds' ∧ r = r'
  | [], [], _, _, r, r', e => ⟨rfl, (List.cons.inj e).2⟩
  | [], d :: ds, _, _, r, r', e => absurd (List.cons.inj e).1 (by decide)
  | d :: ds, [], _, _, r, r', e => absurd (List.cons.inj e).1 (by decide)
  | d :: ds, d' :: ds', hp, hg, r, r', e => by
    have e1 := (List.cons.inj (List.cons.inj e).2).2
    have e2 : ch d ++ (rst ds ++ r) = ch d' ++ (rst ds' ++ r') := by
      rw [← List.append_assoc, ← List.append_assoc]; exact e1
    obtain ⟨a, b⟩ := hp d (List.mem_cons_self ..) d' (hg d' (List.mem_cons_self ..)) _ _ (del_rst ds r) (del_rst ds' r') e2
    obtain ⟨a2, b2⟩ := rst_inj ds ds' (fun x hx => hp x (List.mem_cons_of_mem _ hx)) (fun x hx => hg x (List.mem_cons_of_mem _ hx)) r r' b
    exact ⟨by rw [a, a2], b2⟩
theorem gds_mem : ∀ {ds : List PyData}, GDs ds → ∀ d ∈ ds, GD d
  | d :: ds, h, x, hx => by
    rw [GDs] at h
    rcases List.mem_cons.mp hx with rfl | hx
    · exact h.1
    · exact gds_mem h.2 x hx
theorem gds_of : ∀ {ds : List PyData}, (∀ d ∈ ds, GD d) → GDs ds
  | [], _ => by rw [GDs]; trivial
  | d :: ds, h => by
    rw [GDs]
    exact ⟨h d (List.mem_cons_self ..), gds_of fun x hx => h x (List.mem_cons_of_mem _ hx)⟩
theorem del_one (r : List Nat) : Del (44 :: 41 :: r) := fun c h => Or.inl (Option.some.inj h).symm
theorem bod_inj : ∀ (ds ds' : List PyData), (∀ d ∈ ds, PI d ∧ GD d) → (∀ d ∈ ds', GD d) → ∀ r r', bod ds ++ r = bod ds' ++ r' → ds = ds' ∧ r = r'
  | [], [], _, _, r, r', e => ⟨rfl, (List.cons.inj e).2⟩
  | [], d :: ds, _, hg, r, r', e => by
    obtain ⟨c, s, hc, hr⟩ := ch_head (hg d (List.mem_cons_self ..))
    have : (bod (d :: ds) ++ r').head? = some c := by
      cases ds with
      | nil => rw [bod_one, hc]; rfl
      | cons _ _ => rw [bod_two, hc]; rfl
    rw [← e] at this
    have h41 := Option.some.inj this
    omega
  | d :: ds, [], hp, _, r, r', e => by
    obtain ⟨c, s, hc, hr⟩ := ch_head (hp d (List.mem_cons_self ..)).2
    have : (bod (d :: ds) ++ r).head? = some c := by
      cases ds with
      | nil => rw [bod_one, hc]; rfl
      | cons _ _ => rw [bod_two, hc]; rfl
    rw [e] at this
    have h41 := Option.some.inj this
    omega
  | [d], [d'], hp, hg, r, r', e => by
    have e2 : ch d ++ (44 :: 41 :: r) = ch d' ++ (44 :: 41 :: r') := by
      rw [bod_one, bod_one] at e
      rw [List.append_assoc, List.append_assoc] at e; exact e
    obtain ⟨a, b⟩ := (hp d (List.mem_cons_self ..)).1 d' (hg d' (List.mem_cons_self ..)) _ _ (del_one r) (del_one r') e2
    exact ⟨by rw [a], (List.cons.inj (List.cons.inj b).2).2⟩
  | [d], d' :: f' :: ds', hp, hg, r, r', e => by
    have e2 : ch d ++ (44 :: 41 :: r) = ch d' ++ (rst (f' :: ds') ++ r') := by
      rw [bod_one, bod_two] at e
      rw [List.append_assoc, List.append_assoc] at e; exact e
    obtain ⟨a, b⟩ := (hp d (List.mem_cons_self ..)).1 d' (hg d' (List.mem_cons_self ..)) _ _ (del_one r) (del_rst _ r') e2
    exact absurd (List.cons.inj (List.cons.inj b).2).1 (by decide)
  | d :: f :: ds, [d'], hp, hg, r, r', e => by
    have e2 : ch d ++ (rst (f :: ds) ++ r) = ch d' ++ (44 :: 41 :: r') := by
      rw [bod_two, bod_one] at e
      rw [List.append_assoc, List.append_assoc] at e; exact e
    obtain ⟨a, b⟩ := (hp d (List.mem_cons_self ..)).1 d' (hg d' (List.mem_cons_self ..)) _ _ (del_rst _ r) (del_one r') e2
    exact absurd (List.cons.inj (List.cons.inj b).2).1 (by decide)
  | d :: f :: ds, d' :: f' :: ds', hp, hg, r, r', e => by
    have e2 : ch d ++ (rst (f :: ds) ++ r) = ch d' ++ (rst (f' :: ds') ++ r') := by
      rw [bod_two, bod_two] at e
      rw [List.append_assoc, List.append_assoc] at e; exact e
    obtain ⟨a, b⟩ := (hp d (List.mem_cons_self ..)).1 d' (hg d' (List.mem_cons_self ..)) _ _ (del_rst _ r) (del_rst _ r') e2
    obtain ⟨a2, b2⟩ := rst_inj (f :: ds) (f' :: ds') (fun x hx => (hp x (List.mem_cons_of_mem _ hx)).1) (fun x hx => hg x (List.mem_cons_of_mem _ hx)) r r' b
    exact ⟨by rw [a, a2], b2⟩
theorem str_ext {x y : Str} (e : x.cps.toList = y.cps.toList) : x = y := by
  cases x; cases y
  congr 1
  exact Array.toList_inj.mp e
theorem del_int {r : List Nat} (h : Del r) : ∀ c, r.head? = some c → ¬(c = 45 ∨ 48 ≤ c ∧ c ≤ 57) := fun c hc => by
  have := h c hc
  omega
mutual
theorem pi_all : ∀ (d : PyData), GD d → PI d
  | .int i, h, d', h', r, r', hr, hr', e => by
    cases d' with
    | int j =>
      obtain ⟨a, b⟩ := two_runs (p := fun c => c = 45 ∨ 48 ≤ c ∧ c ≤ 57) _ _ r r' (fun c hc => ch_int_range hc) (fun c hc => ch_int_range hc) (del_int hr) (del_int hr') e
      exact ⟨by rw [ch_int_inj a], b⟩
    | str y =>
      rw [GD] at h'
      replace h' := h'.1
      rw [ch_str h'] at e
      cases ei : ch (.int i) with
      | nil => exact absurd ei (ch_int_ne i)
      | cons c s =>
        have hc := ch_int_range (i := i) (c := c) (by rw [ei]; exact List.mem_cons_self ..)
        rw [ei] at e
        have := (List.cons.inj e).1
        omega
    | tuple ds =>
      rw [ch_tuple] at e
      cases ei : ch (.int i) with
      | nil => exact absurd ei (ch_int_ne i)
      | cons c s =>
        have hc := ch_int_range (i := i) (c := c) (by rw [ei]; exact List.mem_cons_self ..)
        rw [ei] at e
        have := (List.cons.inj e).1
        omega
    | _ => exact absurd h' (by simp [GD])
  | .str x, h, d', h', r, r', hr, hr', e => by
    rw [GD] at h
    replace h := h.1
    cases d' with
    | int j =>
      rw [ch_str h] at e
      cases ei : ch (.int j) with
      | nil => exact absurd ei (ch_int_ne j)
      | cons c s =>
        have hc := ch_int_range (i := j) (c := c) (by rw [ei]; exact List.mem_cons_self ..)
        rw [ei] at e
        have := (List.cons.inj e).1
        omega
    | str y =>
      rw [GD] at h'
      replace h' := h'.1
      rw [ch_str h, ch_str h'] at e
      have e1 : (x.cps.toList ++ [39]) ++ r = (y.cps.toList ++ [39]) ++ r' := (List.cons.inj e).2
      rw [List.append_assoc, List.append_assoc] at e1
      have hd : ∀ (z : List Nat) c, (39 :: z).head? = some c → ¬(97 ≤ c ∧ c ≤ 122) := fun z c hc => by
        have := (Option.some.inj hc).symm
        omega
      obtain ⟨a, b⟩ := two_runs (p := fun c => 97 ≤ c ∧ c ≤ 122) _ _ _ _ h h' (hd r) (hd r') e1
      exact ⟨by rw [str_ext a], (List.cons.inj b).2⟩
    | tuple ds =>
      rw [ch_str h, ch_tuple] at e
      exact absurd (List.cons.inj e).1 (by decide)
    | _ => exact absurd h' (by simp [GD])
  | .tuple ds, h, d', h', r, r', hr, hr', e => by
    rw [GD] at h
    cases d' with
    | int j =>
      rw [ch_tuple] at e
      cases ei : ch (.int j) with
      | nil => exact absurd ei (ch_int_ne j)
      | cons c s =>
        have hc := ch_int_range (i := j) (c := c) (by rw [ei]; exact List.mem_cons_self ..)
        rw [ei] at e
        have := (List.cons.inj e).1
        omega
    | str y =>
      rw [GD] at h'
      replace h' := h'.1
      rw [ch_str h', ch_tuple] at e
      exact absurd (List.cons.inj e).1 (by decide)
    | tuple ds' =>
      rw [GD] at h'
      rw [ch_tuple, ch_tuple] at e
      obtain ⟨a, b⟩ := bod_inj ds ds' (fun d hd => ⟨pis_all ds h d hd, gds_mem h d hd⟩) (gds_mem h') r r' (List.cons.inj e).2
      exact ⟨by rw [a], b⟩
    | _ => exact absurd h' (by simp [GD])
  | .none, h, _, _, _, _, _, _, _ => absurd h (by simp [GD])
  | .bool _, h, _, _, _, _, _, _, _ => absurd h (by simp [GD])
  | .list _, h, _, _, _, _, _, _, _ => absurd h (by simp [GD])
  | .dict _, h, _, _, _, _, _, _, _ => absurd h (by simp [GD])
theorem pis_all : ∀ (ds : List PyData), GDs ds → ∀ d ∈ ds, PI d
  | [], _, _, hd => absurd hd (List.not_mem_nil)
  | x :: xs, h, d, hd => by
    rw [GDs] at h
    rcases List.mem_cons.mp hd with e | hd
    · rw [e]; exact pi_all x h.1
    · exact pis_all xs h.2 d hd
end
/-- equal texts, equal data -/
theorem shown_inj {d d' : PyData} (h : GD d) (h' : GD d') (e : d.shown = d'.shown) : d = d' :=
  (pi_all d h d' h' [] [] (fun _ hc => nomatch hc) (fun _ hc => nomatch hc) (by rw [List.append_nil, List.append_nil]; exact congrArg (fun z : Str => z.cps.toList) e)).1
/-- how long its text is at most -/
def sz : PyData → Nat
  | .int _ => 151
  | .str _ => 22
  | .tuple ds => 3 + szs ds
  | _ => 0
where szs : List PyData → Nat
  | [] => 0
  | d :: ds => sz d + 2 + szs ds
mutual
theorem gd_len : ∀ (d : PyData), GD d → (ch d).length ≤ sz d
  | .int i, h => by
    rw [GD] at h
    have h1 := int_text_length_le10 (a := i) (k := 150) (by decide) h
    unfold ch
    rw [PyData.shown_int, signs_ofString, List.length_map, sz, String.length_toList]
    exact h1
  | .str x, h => by
    rw [GD] at h
    rw [ch_str h.1, sz, List.length_cons, List.length_append, List.length_singleton, Array.length_toList]
    have : x.cps.size ≤ 20 := h.2
    omega
  | .tuple ds, h => by
    rw [GD] at h
    rw [ch_tuple, sz, List.length_cons]
    match ds, h with
    | [], _ => show 1 + 1 ≤ _; omega
    | [d], h =>
      rw [GDs] at h
      have := gd_len d h.1
      rw [bod_one, List.length_append]
      show _ ≤ 3 + (sz d + 2 + sz.szs [])
      show (ch d).length + 2 + 1 ≤ _
      omega
    | d :: e :: r, h =>
      rw [GDs] at h
      have h1 := gd_len d h.1
      have h2 := gds_len (e :: r) h.2
      rw [bod_two, List.length_append]
      show _ ≤ 3 + (sz d + 2 + sz.szs (e :: r))
      omega
  | .none, h => absurd h (by simp [GD])
  | .bool _, h => absurd h (by simp [GD])
  | .list _, h => absurd h (by simp [GD])
  | .dict _, h => absurd h (by simp [GD])
theorem gds_len : ∀ (ds : List PyData), GDs ds → (rst ds).length ≤ sz.szs ds + 1
  | [], _ => Nat.le_refl _
  | d :: ds, h => by
    rw [GDs] at h
    have h1 := gd_len d h.1
    have h2 := gds_len ds h.2
    show (44 :: 32 :: (ch d ++ rst ds)).length ≤ sz d + 2 + sz.szs ds + 1
    rw [List.length_cons, List.length_cons, List.length_append]
    omega
end
mutual
theorem gd_show : ∀ (d : PyData), GD d → d.showable = true
  | .int i, h => by
    rw [GD] at h
    rw [PyData.showable]
    refine decide_eq_true ?_
    by_cases h0 : i.natAbs = 0
    · rw [h0]; decide
    · exact (Nat.log2_lt h0).mpr (Nat.lt_trans h (by decide))
  | .str x, h => by rw [PyData.showable]
  | .tuple ds, h => by
    rw [GD] at h
    rw [PyData.showable]
    exact gds_show ds h
  | .none, h => absurd h (by simp [GD])
  | .bool _, h => absurd h (by simp [GD])
  | .list _, h => absurd h (by simp [GD])
  | .dict _, h => absurd h (by simp [GD])
theorem gds_show : ∀ (ds : List PyData), GDs ds → PyData.showableAll ds = true
  | [], _ => by rw [PyData.showableAll]
  | d :: ds, h => by
    rw [GDs] at h
    rw [PyData.showableAll, gd_show d h.1, gds_show ds h.2]
    rfl
end
mutual
theorem gd_alike : ∀ (d : PyData), GD d → PySem.W.alike d d = true
  | .int i, h => by rw [PySem.W.alike]
  | .str x, h => by rw [PySem.W.alike]
  | .tuple ds, h => by
    rw [GD] at h
    rw [PySem.W.alike]
    exact gds_alike ds h
  | .none, h => absurd h (by simp [GD])
  | .bool _, h => absurd h (by simp [GD])
  | .list _, h => absurd h (by simp [GD])
  | .dict _, h => absurd h (by simp [GD])
theorem gds_alike : ∀ (ds : List PyData), GDs ds → PySem.W.alikeAll ds ds = true
  | [], _ => by rw [PySem.W.alikeAll]
  | d :: ds, h => by
    rw [GDs] at h
    rw [PySem.W.alikeAll, gd_alike d h.1, gds_alike ds h.2]
    rfl
end
end Lw
/-! Part C1: merged atoms; sums over them; equal weights give equal forms. Plain. -/
namespace Lw
open PySem PySem.Spec L2 PyProof.Rows
/-- the sum of the weights, each times what its mark counts -/
def sm (c : Str → Int) (l : List Ent) : Int := (l.map fun e => e.w * c e.mk').sum
theorem sm_nil (c : Str → Int) : sm c [] = 0 := rfl
theorem sm_cons (c : Str → Int) (e : Ent) (l : List Ent) : sm c (e :: l) = e.w * c e.mk' + sm c l := by unfold sm; rw [List.map_cons, List.sum_cons]
theorem sm_app (c : Str → Int) (l m : List Ent) : sm c (l ++ m) = sm c l + sm c m := by unfold sm; rw [List.map_append, sum_app]
theorem sm_scl (c : Str → Int) (k : Int) (l : List Ent) : sm c (l.map (Ent.scl k)) = k * sm c l := by
  induction l with
  | nil => rw [List.map_nil, sm_nil, Int.mul_zero]
  | cons e l ih =>
    rw [List.map_cons, sm_cons, sm_cons, ih, Int.mul_add]
    show k * e.w * c e.mk' + _ = _
    rw [Int.mul_assoc]
def NdE (D : List Ent) : Prop := (D.map Ent.mk').Nodup
def addW (e x : Ent) : Ent := if x.mk' = e.mk' then ⟨x.a, x.w + e.w, x.f⟩ else x
theorem addW_mk (e x : Ent) : (addW e x).mk' = x.mk' := by
  unfold addW
  split <;> rfl
theorem addW_af (e x : Ent) : (addW e x).a = x.a ∧ (addW e x).f = x.f := by
  unfold addW
  split <;> exact ⟨rfl, rfl⟩
theorem addW_map_mk (e : Ent) (D : List Ent) : (D.map (addW e)).map Ent.mk' = D.map Ent.mk' := by
  rw [List.map_map]
  exact List.map_congr_left fun x _ => addW_mk e x
theorem putE_yes {D : List Ent} {e : Ent} (h : ∃ x ∈ D, x.mk' = e.mk') : putE D e = D.map (addW e) := by
  obtain ⟨x, hx, hm⟩ := h
  unfold putE
  rw [if_pos (List.any_eq_true.mpr ⟨x, hx, decide_eq_true hm⟩)]
  rfl
theorem putE_no {D : List Ent} {e : Ent} (h : ¬∃ x ∈ D, x.mk' = e.mk') : putE D e = D ++ [e] := by
  unfold putE
  rw [if_neg]
  intro z
  obtain ⟨x, hx, hm⟩ := List.any_eq_true.mp z
  exact h ⟨x, hx, of_decide_eq_true hm⟩
theorem putE_nd {D : List Ent} {e : Ent} (h : NdE D) : NdE (putE D e) := by
  by_cases q : ∃ x ∈ D, x.mk' = e.mk'
  · rw [putE_yes q]
    unfold NdE
    rw [addW_map_mk]
    exact h
  · rw [putE_no q]
    unfold NdE
    rw [List.map_append, List.nodup_append]
    refine ⟨h, by simp, fun x hx y hy => ?_⟩
    obtain ⟨d, hd, rfl⟩ := List.mem_map.mp hx
    rw [List.map_singleton, List.mem_singleton] at hy
    subst hy
    exact fun z => q ⟨d, hd, z⟩
theorem addW_id {e : Ent} {D : List Ent} (h : ∀ x ∈ D, x.mk' ≠ e.mk') : D.map (addW e) = D := by
  conv => rhs; rw [← List.map_id D]
  refine List.map_congr_left fun x hx => ?_
  unfold addW
  rw [if_neg (h x hx)]
  rfl
theorem sm_addW (c : Str → Int) (e : Ent) : ∀ (D : List Ent), NdE D → (∃ x ∈ D, x.mk' = e.mk') → sm c (D.map (addW e)) = sm c D + e.w * c e.mk'
  | [], _, ⟨x, hx, _⟩ => absurd hx List.not_mem_nil
  | d :: D, nd, ⟨x, hx, hm⟩ => by
    unfold NdE at nd
    rw [List.map_cons, List.nodup_cons] at nd
    rw [List.map_cons, sm_cons, sm_cons, addW_mk]
    by_cases q : d.mk' = e.mk'
    · have h1 : ∀ y ∈ D, y.mk' ≠ e.mk' := fun y hy z => nd.1 (List.mem_map.mpr ⟨y, hy, z.trans q.symm⟩)
      rw [addW_id h1]
      have h2 : (addW e d).w = d.w + e.w := by unfold addW; rw [if_pos q]
      rw [h2, q, Int.add_mul]
      omega
    · have h2 : (addW e d).w = d.w := by unfold addW; rw [if_neg q]
      have h3 : ∃ x ∈ D, x.mk' = e.mk' := by
        rcases List.mem_cons.mp hx with rfl | hx
        · exact absurd hm q
        · exact ⟨x, hx, hm⟩
      rw [h2, sm_addW c e D nd.2 h3]
      omega
theorem sm_put (c : Str → Int) {D : List Ent} {e : Ent} (h : NdE D) : sm c (putE D e) = sm c D + e.w * c e.mk' := by
  by_cases q : ∃ x ∈ D, x.mk' = e.mk'
  · rw [putE_yes q, sm_addW c e D h q]
  · rw [putE_no q, sm_app, sm_cons, sm_nil]
    omega
theorem put_from {D : List Ent} {e x : Ent} (h : x ∈ putE D e) : (∃ y ∈ D, x.a = y.a ∧ x.f = y.f) ∨ (x.a = e.a ∧ x.f = e.f) := by
  by_cases q : ∃ x ∈ D, x.mk' = e.mk'
  · rw [putE_yes q] at h
    obtain ⟨y, hy, rfl⟩ := List.mem_map.mp h
    exact .inl ⟨y, hy, addW_af e y⟩
  · rw [putE_no q] at h
    rcases List.mem_append.mp h with h | h
    · exact .inl ⟨x, h, rfl, rfl⟩
    · rw [List.mem_singleton] at h
      exact .inr ⟨by rw [h], by rw [h]⟩
theorem fold_laws (c : Str → Int) : ∀ (l D : List Ent), NdE D → NdE (l.foldl putE D) ∧ sm c (l.foldl putE D) = sm c D + sm c l ∧ ∀ x ∈ l.foldl putE D, ∃ y, (y ∈ D ∨ y ∈ l) ∧ x.a = y.a ∧ x.f = y.f
  | [], D, h => ⟨h, by rw [sm_nil, Int.add_zero]; rfl, fun x hx => ⟨x, .inl hx, rfl, rfl⟩⟩
  | e :: l, D, h => by
    obtain ⟨h1, h2, h3⟩ := fold_laws c l (putE D e) (putE_nd h)
    rw [List.foldl_cons]
    refine ⟨h1, ?_, fun x hx => ?_⟩
    · rw [h2, sm_put c h, sm_cons]
      omega
    · obtain ⟨y, hy, a1, a2⟩ := h3 x hx
      rcases hy with hy | hy
      · rcases put_from hy with ⟨z, hz, b1, b2⟩ | ⟨b1, b2⟩
        · exact ⟨z, .inl hz, a1.trans b1, a2.trans b2⟩
        · exact ⟨e, .inr (List.mem_cons_self ..), a1.trans b1, a2.trans b2⟩
      · exact ⟨y, .inr (List.mem_cons_of_mem _ hy), a1, a2⟩
theorem mrg_nd (l : List Ent) : NdE (mrg l) := (fold_laws (fun _ => 0) l [] List.nodup_nil).1
theorem mrg_sm (c : Str → Int) (l : List Ent) : sm c (mrg l) = sm c l := by
  have := (fold_laws c l [] List.nodup_nil).2.1
  rw [sm_nil, Int.zero_add] at this
  exact this
theorem mrg_from {l : List Ent} {x : Ent} (h : x ∈ mrg l) : ∃ y ∈ l, x.a = y.a ∧ x.f = y.f := by
  obtain ⟨y, hy, a⟩ := (fold_laws (fun _ => 0) l [] List.nodup_nil).2.2 x h
  exact ⟨y, hy.resolve_left List.not_mem_nil, a⟩
theorem live_mem {D : List Ent} {e : Ent} : e ∈ liveE D ↔ e ∈ D ∧ e.w ≠ 0 := by
  unfold liveE
  rw [List.mem_filter]
  simp
theorem live_sm (c : Str → Int) : ∀ D : List Ent, sm c (liveE D) = sm c D
  | [] => rfl
  | e :: D => by
    unfold liveE
    by_cases h : e.w = 0
    · rw [List.filter_cons_of_neg (by simp [h]), sm_cons, h]
      have := live_sm c D
      unfold liveE at this
      rw [this]
      omega
    · rw [List.filter_cons_of_pos (by simp [h]), sm_cons, sm_cons]
      have := live_sm c D
      unfold liveE at this
      rw [this]
/-- the weight that stands at a mark -/
def one (m : Str) : Str → Int := fun x => if x = m then 1 else 0
def wt (m : Str) (l : List Ent) : Int := sm (one m) l
theorem one_self (m : Str) : one m m = 1 := by unfold one; rw [if_pos rfl]
theorem one_ne {m x : Str} (h : x ≠ m) : one m x = 0 := by unfold one; rw [if_neg h]
theorem sm_none {m : Str} : ∀ {D : List Ent}, (∀ x ∈ D, x.mk' ≠ m) → wt m D = 0
  | [], _ => rfl
  | d :: D, h => by
    unfold wt
    rw [sm_cons, one_ne (h d (List.mem_cons_self ..))]
    have := sm_none (D := D) fun x hx => h x (List.mem_cons_of_mem _ hx)
    unfold wt at this
    rw [this]
    omega
theorem nd_wt : ∀ {D : List Ent}, NdE D → ∀ e ∈ D, wt e.mk' D = e.w
  | d :: D, h, e, he => by
    unfold NdE at h
    rw [List.map_cons, List.nodup_cons] at h
    unfold wt
    rw [sm_cons]
    rcases List.mem_cons.mp he with rfl | he
    · have : wt e.mk' D = 0 := sm_none fun x hx z => h.1 (List.mem_map.mpr ⟨x, hx, z⟩)
      unfold wt at this
      rw [this, one_self]
      omega
    · have hn : d.mk' ≠ e.mk' := fun z => h.1 (List.mem_map.mpr ⟨e, he, z.symm⟩)
      have := nd_wt h.2 e he
      unfold wt at this
      rw [this, one_ne hn]
      omega
/-- all forms are good data -/
def GF (l : List Ent) : Prop := ∀ e ∈ l, GDs e.f
theorem mk_inj {e e' : Ent} (h : GDs e.f) (h' : GDs e'.f) (q : e.mk' = e'.mk') : e.f = e'.f := by
  have := shown_inj (d := .tuple e.f) (d' := .tuple e'.f) (by rw [GD]; exact h) (by rw [GD]; exact h') q
  injection this
theorem live_w {l : List Ent} {e : Ent} (h : e ∈ liveE (mrg l)) : e.w = wt e.mk' l ∧ e.w ≠ 0 := by
  obtain ⟨h1, h2⟩ := live_mem.mp h
  exact ⟨by rw [← nd_wt (mrg_nd l) e h1]; unfold wt; rw [mrg_sm], h2⟩
theorem live_get {l : List Ent} {m : Str} (h : wt m l ≠ 0) : ∃ e ∈ liveE (mrg l), e.mk' = m ∧ e.w = wt m l := by
  have h1 : ∃ e ∈ mrg l, e.mk' = m := by
    refine Classical.byContradiction fun q => h ?_
    have : wt m (mrg l) = 0 := sm_none fun x hx z => q ⟨x, hx, z⟩
    unfold wt at this ⊢
    rwa [mrg_sm] at this
  obtain ⟨e, he, rfl⟩ := h1
  have h2 := nd_wt (mrg_nd l) e he
  have h3 : wt e.mk' (mrg l) = wt e.mk' l := mrg_sm _ _
  exact ⟨e, live_mem.mpr ⟨he, by rw [← h2, h3]; exact h⟩, rfl, by rw [← h3, h2]⟩
theorem gf_live {l : List Ent} (h : GF l) : GF (liveE (mrg l)) := fun e he => by
  obtain ⟨y, hy, _, hf⟩ := mrg_from (live_mem.mp he).1
  rw [hf]
  exact h y hy
/-- the live pairs are the same in some order -/
theorem live_sub {l l' : List Ent} (g : GF l) (g' : GF l') (h : ∀ m, wt m l = wt m l') : ∀ x ∈ (liveE (mrg l)).map pairF, x ∈ (liveE (mrg l')).map pairF := fun x hx => by
  obtain ⟨e, he, rfl⟩ := List.mem_map.mp hx
  obtain ⟨h1, h2⟩ := live_w he
  obtain ⟨e', he', hm, hw⟩ := live_get (l := l') (m := e.mk') (by rw [← h, ← h1]; exact h2)
  have hf : e'.f = e.f := mk_inj (gf_live g' e' he') (gf_live g e he) hm
  refine List.mem_map.mpr ⟨e', he', ?_⟩
  unfold pairF
  rw [hf, hw, ← h, ← h1]
theorem pairs_nd (l : List Ent) : ((liveE (mrg l)).map pairF).Nodup := by
  have h : ((liveE (mrg l)).map Ent.mk').Nodup := List.Sublist.nodup (List.Sublist.map _ (List.filter_sublist)) (mrg_nd l)
  rw [List.nodup_iff_pairwise_ne, List.pairwise_map] at h ⊢
  refine h.imp fun {a b} hn z => hn ?_
  unfold pairF at z
  injection z with z _
  injection z with z
  unfold Ent.mk'
  rw [z]
theorem live_perm {l l' : List Ent} (g : GF l) (g' : GF l') (h : ∀ m, wt m l = wt m l') : ((liveE (mrg l)).map pairF).Perm ((liveE (mrg l')).map pairF) :=
  (List.perm_ext_iff_of_nodup (pairs_nd l) (pairs_nd l')).mpr fun x => ⟨live_sub g g' h x, live_sub g' g (fun m => (h m).symm) x⟩
theorem sortD_eq {xs ys : List (List PyData)} (h : xs.Perm ys) (g : ∀ x ∈ xs, GDs x) : sortD xs = sortD ys := by
  have tl : PySem.W.TotalLe (PySem.W.dataLe false keyOf) := PySem.W.sortLe_total _ _ _
  have p1 : (sortD xs).Perm xs := List.mergeSort_perm ..
  have p2 : (sortD ys).Perm ys := List.mergeSort_perm ..
  refine List.Perm.eq_of_pairwise (le := fun a b => PySem.W.dataLe false keyOf a b = true) (fun a b ha hb h1 h2 => ?_) (PySem.W.sort_pairwise tl xs) (PySem.W.sort_pairwise tl ys) ((p1.trans h).trans p2.symm)
  have ga := g a (p1.mem_iff.mp ha)
  have gb := g b (h.mem_iff.mpr (p2.mem_iff.mp hb))
  have h1' : (!(listOrd itemOrd).blt (PySem.W.keyToks (keyOf b)) (PySem.W.keyToks (keyOf a))) = true := h1
  have h2' : (!(listOrd itemOrd).blt (PySem.W.keyToks (keyOf a)) (PySem.W.keyToks (keyOf b))) = true := h2
  rw [Bool.not_eq_true'] at h1' h2'
  have e : PySem.W.keyToks (keyOf a) = PySem.W.keyToks (keyOf b) := (listOrd itemOrd).total _ _ h2' h1'
  unfold keyOf at e
  rw [PySem.W.keyToks, PySem.W.keyToks] at e
  injection e with e _
  injection e with e
  have := shown_inj (d := .tuple a) (d' := .tuple b) (by rw [GD]; exact ga) (by rw [GD]; exact gb) (str_ext e)
  injection this
theorem gds_pair {e : Ent} (h : GDs e.f) (hw : e.w.natAbs < 10 ^ 150) : GDs (pairF e) := by
  unfold pairF
  rw [GDs, GDs, GDs, GD, GD]
  exact ⟨h, hw, trivial⟩
/-- the weights are small -/
def SmW (l : List Ent) : Prop := ∀ m, (wt m l).natAbs < 10 ^ 150
/-- T5 -/
theorem sform_eq {l l' : List Ent} {n n' : Int} (g : GF l) (g' : GF l') (hs : SmW l) (h : ∀ m, wt m l = wt m l') (hn : n = n') : sform l n = sform l' n' := by
  unfold sform
  rw [hn, sortD_eq (live_perm g g' h) fun x hx => by
    obtain ⟨e, he, rfl⟩ := List.mem_map.mp hx
    exact gds_pair (gf_live g e he) (by rw [(live_w he).1]; exact hs _)]
end Lw
/-! Part C2: the forms in one shape for all spellings; how big they are. Plain. -/
namespace Lw
open PySem PySem.Spec L2 PyProof.Rows
theorem gds_iff {ds : List PyData} : GDs ds ↔ ∀ d ∈ ds, GD d := ⟨fun h => gds_mem h, gds_of⟩
theorem depthAll_le {k : Nat} : ∀ {ds : List PyData}, (∀ d ∈ ds, d.depth ≤ k) → PyData.depthAll ds ≤ k
  | [], _ => by rw [PyData.depthAll]; exact Nat.zero_le _
  | d :: ds, h => by
    rw [PyData.depthAll]
    exact Nat.max_le.mpr ⟨h d (List.mem_cons_self ..), depthAll_le fun x hx => h x (List.mem_cons_of_mem _ hx)⟩
theorem le_depthAll : ∀ {ds : List PyData} {d : PyData}, d ∈ ds → d.depth ≤ PyData.depthAll ds
  | x :: xs, d, h => by
    rw [PyData.depthAll]
    rcases List.mem_cons.mp h with rfl | h
    · exact Nat.le_max_left _ _
    · exact Nat.le_trans (le_depthAll h) (Nat.le_max_right _ _)
theorem szs_eq : ∀ ds : List PyData, sz.szs ds = (ds.map fun d => sz d + 2).sum
  | [] => rfl
  | d :: ds => by
    rw [List.map_cons, List.sum_cons, ← szs_eq ds]
    rfl
theorem le_szs : ∀ {ds : List PyData} {d : PyData}, d ∈ ds → sz d ≤ sz.szs ds
  | x :: xs, d, h => by
    show sz d ≤ sz x + 2 + sz.szs xs
    rcases List.mem_cons.mp h with rfl | h
    · omega
    · have := le_szs h
      omega
theorem perm_sum {xs ys : List Nat} (h : xs.Perm ys) : xs.sum = ys.sum := by
  induction h with
  | nil => rfl
  | cons x _ ih => rw [List.sum_cons, List.sum_cons, ih]
  | swap x y l => rw [List.sum_cons, List.sum_cons, List.sum_cons, List.sum_cons]; omega
  | trans _ _ a b => exact a.trans b
def sT (f : List PyData) : Nat := sz (.tuple f)
def dT (f : List PyData) : Nat := (PyData.tuple f).depth
def tot (l : List Ent) : Nat := (l.map fun e => sT e.f + 160).sum
def Mw (l : List Ent) : Nat := (l.map fun e => e.w.natAbs).sum
theorem tot_cons (e : Ent) (l : List Ent) : tot (e :: l) = sT e.f + 160 + tot l := by unfold tot; rw [List.map_cons, List.sum_cons]
theorem Mw_cons (e : Ent) (l : List Ent) : Mw (e :: l) = e.w.natAbs + Mw l := by unfold Mw; rw [List.map_cons, List.sum_cons]
theorem tot_app (l m : List Ent) : tot (l ++ m) = tot l + tot m := by unfold tot; rw [List.map_append, List.sum_append]
theorem Mw_app (l m : List Ent) : Mw (l ++ m) = Mw l + Mw m := by unfold Mw; rw [List.map_append, List.sum_append]
theorem tot_scl (k : Int) (l : List Ent) : tot (l.map (Ent.scl k)) = tot l := by unfold tot; rw [List.map_map]; rfl
theorem Mw_scl (k : Int) : ∀ l : List Ent, Mw (l.map (Ent.scl k)) = k.natAbs * Mw l
  | [] => rfl
  | e :: l => by
    rw [List.map_cons, Mw_cons, Mw_cons, Mw_scl k l, Nat.mul_add]
    show (k * e.w).natAbs + _ = _
    rw [Int.natAbs_mul]
theorem tot_put (D : List Ent) (e : Ent) : tot (putE D e) ≤ tot D + (sT e.f + 160) := by
  by_cases q : ∃ x ∈ D, x.mk' = e.mk'
  · rw [putE_yes q]
    have : tot (D.map (addW e)) = tot D := by
      unfold tot
      rw [List.map_map]
      congr 1
      refine List.map_congr_left fun x _ => ?_
      show sT (addW e x).f + 160 = _
      rw [(addW_af e x).2]
    omega
  · rw [putE_no q, tot_app, tot_cons]
    exact Nat.le_refl _
theorem tot_fold : ∀ (l D : List Ent), tot (l.foldl putE D) ≤ tot D + tot l
  | [], D => Nat.le_add_right _ _
  | e :: l, D => by
    have h1 := tot_fold l (putE D e)
    have h2 := tot_put D e
    rw [List.foldl_cons, tot_cons]
    omega
theorem tot_live : ∀ D : List Ent, tot (liveE D) ≤ tot D
  | [] => Nat.le_refl _
  | e :: D => by
    have ih := tot_live D
    unfold liveE at ih ⊢
    by_cases h : e.w = 0
    · rw [List.filter_cons_of_neg (by simp [h]), tot_cons]
      omega
    · rw [List.filter_cons_of_pos (by simp [h]), tot_cons, tot_cons]
      omega
theorem tot_form (l : List Ent) : tot (liveE (mrg l)) ≤ tot l := by
  have h1 := tot_live (mrg l)
  have h2 := tot_fold l []
  have h3 : tot [] = 0 := rfl
  unfold mrg at h1 ⊢
  omega
theorem wt_Mw (m : Str) : ∀ l : List Ent, (wt m l).natAbs ≤ Mw l
  | [] => Nat.le_refl _
  | e :: l => by
    have ih := wt_Mw m l
    unfold wt at ih ⊢
    rw [sm_cons, Mw_cons]
    have h1 : (e.w * one m e.mk').natAbs ≤ e.w.natAbs := by
      by_cases h : e.mk' = m
      · rw [h, one_self, Int.mul_one]; exact Nat.le_refl _
      · rw [one_ne h, Int.mul_zero]; exact Nat.zero_le _
    omega
theorem sT_pair (e : Ent) : sz (.tuple (pairF e)) = sT e.f + 158 := by
  show 3 + (sz (.tuple e.f) + 2 + (151 + 2 + 0)) = _
  unfold sT
  omega
theorem sT_form (l : List Ent) (n : Int) : sT (sform l n) ≤ tot l + 200 := by
  have hp : (sortD ((liveE (mrg l)).map pairF)).Perm ((liveE (mrg l)).map pairF) := List.mergeSort_perm ..
  have h1 : sz.szs ((sortD ((liveE (mrg l)).map pairF)).map .tuple) = tot (liveE (mrg l)) := by
    rw [szs_eq, perm_sum (((hp.map _).map _)), List.map_map, List.map_map]
    unfold tot
    congr 1
    refine List.map_congr_left fun e _ => ?_
    show sz (.tuple (pairF e)) + 2 = _
    rw [sT_pair]
  have h2 := tot_form l
  show 3 + (22 + 2 + (3 + sz.szs _ + 2 + (151 + 2 + 0))) ≤ _
  rw [h1]
  omega
theorem dT_le {f : List PyData} {k : Nat} (h : ∀ d ∈ f, d.depth ≤ k) : dT f ≤ k + 1 := by
  unfold dT
  rw [PyData.depth]
  exact Nat.succ_le_succ (depthAll_le h)
theorem dT_form {l : List Ent} {n : Int} {k : Nat} (h : ∀ e ∈ l, dT e.f ≤ k) : dT (sform l n) ≤ k + 3 := by
  have hp : (sortD ((liveE (mrg l)).map pairF)).Perm ((liveE (mrg l)).map pairF) := List.mergeSort_perm ..
  refine dT_le fun d hd => ?_
  rcases List.mem_cons.mp hd with rfl | hd
  · rw [PyData.depth]; exact Nat.zero_le _
  rcases List.mem_cons.mp hd with rfl | hd
  · refine dT_le (k := k + 1) fun d hd => ?_
    obtain ⟨p, hp2, rfl⟩ := List.mem_map.mp hd
    obtain ⟨e, he, rfl⟩ := List.mem_map.mp (hp.mem_iff.mp hp2)
    refine dT_le (k := k) fun d hd => ?_
    rcases List.mem_cons.mp hd with rfl | hd
    · obtain ⟨y, hy, _, hf⟩ := mrg_from (live_mem.mp he).1
      show dT e.f ≤ k
      rw [hf]
      exact h y hy
    · rw [List.mem_singleton] at hd
      subst hd
      rw [PyData.depth]; exact Nat.zero_le _
  · rw [List.mem_singleton] at hd
    subst hd
    rw [PyData.depth]; exact Nat.zero_le _
def lowB (x : Str) : Bool := x.cps.toList.all (fun c => decide (97 ≤ c) && decide (c ≤ 122)) && decide (x.length ≤ 20)
theorem lowB_ok {x : Str} (h : lowB x = true) : LowS x ∧ x.length ≤ 20 := by
  unfold lowB at h
  rw [Bool.and_eq_true, List.all_eq_true] at h
  refine ⟨fun c hc => ?_, of_decide_eq_true h.2⟩
  have := h.1 c hc
  rw [Bool.and_eq_true] at this
  exact ⟨of_decide_eq_true this.1, of_decide_eq_true this.2⟩
theorem lowS_sum : LowS "sum" ∧ ("sum" : Str).length ≤ 20 := lowB_ok (by decide +kernel)
theorem gd_form {l : List Ent} {n : Int} (g : GF l) (hs : SmW l) (hn : n.natAbs < 10 ^ 150) : GDs (sform l n) := by
  have hp : (sortD ((liveE (mrg l)).map pairF)).Perm ((liveE (mrg l)).map pairF) := List.mergeSort_perm ..
  unfold sform
  rw [GDs, GDs, GDs, GDs, GD, GD, GD]
  refine ⟨lowS_sum, gds_of fun d hd => ?_, hn, trivial⟩
  obtain ⟨p, hp2, rfl⟩ := List.mem_map.mp hd
  obtain ⟨e, he, rfl⟩ := List.mem_map.mp (hp.mem_iff.mp hp2)
  rw [GD]
  exact gds_pair (gf_live g e he) (by rw [(live_w he).1]; exact hs _)
/-! ### one shape for all spellings -/
abbrev LF := List Ent × Int
def sf (x : LF) : List PyData := sform x.1 x.2
def gE (es : List Th) (G : Th → LF) (k : Nat) : LF := match es[k]? with | some e => G e | none => ([], 0)
def cf (es : List Th) (cn : Key → LF) (G : Th → LF) : Th → LF
  | .nam l => cn l
  | .sum ps n => (ps.flatMap fun q => (gE es G q.1).1.map (Ent.scl q.2), (ps.map fun q => q.2 * (gE es G q.1).2).sum + n)
  | .row l => ([⟨.row l, 1, [.str "row", kd l]⟩], 0)
  | .wth r s t => ([⟨.num 0, 1, [.str "with", .tuple (headF (cf es cn G r).1), .tuple (sf (cf es cn G s)), .tuple (sf (cf es cn G t))]⟩], 0)
  | .room s => ([⟨.num 0, 1, [.str "room", .tuple (sf (cf es cn G s))]⟩], 0)
  | .read r s => ([⟨.num 0, 1, [.str "read", .tuple (headF (cf es cn G r).1), .tuple (sf (cf es cn G s))]⟩], 0)
  | .size r => ([⟨.num 0, 1, [.str "size", .tuple (headF (cf es cn G r).1)]⟩], 0)
  | .div s k => ([⟨.num 0, 1, [.str "div", .tuple (sf (cf es cn G s)), .int k]⟩], 0)
  | .mod s k => ([⟨.num 0, 1, [.str "mod", .tuple (sf (cf es cn G s)), .int k]⟩], 0)
def cF (es : List Th) (cn : Key → LF) : Nat → Th → LF
  | 0 => fun _ => ([], 0)
  | n + 1 => cf es cn (cF es cn n)
/-- a linear form whose forms are good: so deep, so long, so heavy -/
structure CB (D T M Z : Nat) (x : LF) : Prop where
  g : GF x.1
  d : ∀ e ∈ x.1, dT e.f ≤ D
  t : tot x.1 ≤ T
  m : Mw x.1 ≤ M
  z : x.2.natAbs ≤ Z
theorem CB.mono {D T M Z D' T' M' Z' : Nat} {x : LF} (h : CB D T M Z x) (hd : D ≤ D') (ht : T ≤ T') (hm : M ≤ M') (hz : Z ≤ Z') : CB D' T' M' Z' x :=
  ⟨h.g, fun e he => Nat.le_trans (h.d e he) hd, Nat.le_trans h.t ht, Nat.le_trans h.m hm, Nat.le_trans h.z hz⟩
def Th.isSum : Th → Bool
  | .sum _ _ => true
  | _ => false
def Th.isRw : Th → Bool
  | .row _ => true
  | .wth _ _ _ => true
  | .room _ => true
  | _ => false
/-- keys and numbers are small; parts worth numbers are sums, others row things -/
def ThB (B : Nat) : Th → Prop
  | .nam l => GD (kd l)
  | .sum _ n => n.natAbs ≤ B
  | .row l => GD (kd l)
  | .wth r s t => (r.isRw = true ∧ s.isSum = true ∧ t.isSum = true) ∧ ThB B r ∧ ThB B s ∧ ThB B t
  | .room s => s.isSum = true ∧ ThB B s
  | .read r s => (r.isRw = true ∧ s.isSum = true) ∧ ThB B r ∧ ThB B s
  | .size r => r.isRw = true ∧ ThB B r
  | .div s k => s.isSum = true ∧ ThB B s ∧ k.natAbs < 10 ^ 150
  | .mod s k => s.isSum = true ∧ ThB B s ∧ k.natAbs < 10 ^ 150
/-- what the bounds come to -/
def cbd (D T M Z B : Nat) : Th → LF → Prop
  | .nam _ => CB 1 3000 (10 ^ 21) (10 ^ 21)
  | .sum _ _ => CB D (4 * T) (4 * 10 ^ 20 * M) (4 * 10 ^ 20 * Z + B)
  | th => fun x => CB (D + 4 + th.ht) (th.sc * (4 * T + 200) + 400 * (th.ht + 1)) 1 0 x ∧ ∃ e, x.1 = [e]
theorem flat_le {es : List Th} {G : Th → LF} {D T M Z : Nat} : ∀ (ps : List (Nat × Int)), (∀ q ∈ ps, (-100000000000000000000 ≤ q.2 ∧ q.2 ≤ 100000000000000000000) ∧ CB D T M Z (gE es G q.1)) →
    CB D (ps.length * T) (ps.length * (10 ^ 20 * M)) (ps.length * (10 ^ 20 * Z)) (ps.flatMap fun q => (gE es G q.1).1.map (Ent.scl q.2), (ps.map fun q => q.2 * (gE es G q.1).2).sum)
  | [], _ => ⟨fun e he => absurd he List.not_mem_nil, fun e he => absurd he List.not_mem_nil, by simp [tot], by simp [Mw], by simp⟩
  | q :: ps, h => by
    obtain ⟨hw, hc⟩ := h q (List.mem_cons_self ..)
    have ih := flat_le ps fun x hx => h x (List.mem_cons_of_mem _ hx)
    have hw2 : q.2.natAbs ≤ 10 ^ 20 := by omega
    have key : ∀ e ∈ (q :: ps).flatMap (fun q => (gE es G q.1).1.map (Ent.scl q.2)), (∃ y ∈ (gE es G q.1).1, e.f = y.f) ∨ e ∈ ps.flatMap (fun q => (gE es G q.1).1.map (Ent.scl q.2)) := fun e he => by
      rw [List.flatMap_cons] at he
      rcases List.mem_append.mp he with he | he
      · obtain ⟨y, hy, rfl⟩ := List.mem_map.mp he
        exact .inl ⟨y, hy, rfl⟩
      · exact .inr he
    refine ⟨fun e he => ?_, fun e he => ?_, ?_, ?_, ?_⟩
    · rcases key e he with ⟨y, hy, hf⟩ | he
      · rw [hf]; exact hc.g y hy
      · exact ih.g e he
    · rcases key e he with ⟨y, hy, hf⟩ | he
      · rw [hf]; exact hc.d y hy
      · exact ih.d e he
    · dsimp only
      rw [List.flatMap_cons, tot_app, tot_scl, List.length_cons, Nat.succ_mul]
      have h1 := hc.t
      have h2 := ih.t
      dsimp only at h2
      omega
    · dsimp only
      rw [List.flatMap_cons, Mw_app, Mw_scl, List.length_cons, Nat.succ_mul]
      have h1 := Nat.mul_le_mul hw2 hc.m
      have h2 := ih.m
      dsimp only at h2
      omega
    · dsimp only
      rw [List.map_cons, List.sum_cons, List.length_cons, Nat.succ_mul]
      have h1 := Nat.mul_le_mul hw2 hc.z
      have h2 := ih.z
      dsimp only at h2
      rw [← Int.natAbs_mul] at h1
      omega
theorem sT_cons (d : PyData) (f : List PyData) : sT (d :: f) = sz d + 2 + sT f := by
  show 3 + (sz d + 2 + sz.szs f) = sz d + 2 + (3 + sz.szs f)
  omega
theorem sT_nil : sT [] = 3 := rfl
theorem tot_one (a : Tm) (w : Int) (f : List PyData) : tot [⟨a, w, f⟩] = sT f + 160 := by
  rw [tot_cons]; rfl
theorem head_one {x : LF} {e : Ent} (h : x.1 = [e]) : headF x.1 = e.f := by rw [h]; rfl
structure Part (D T : Nat) (f : List PyData) : Prop where
  g : GDs f
  d : dT f ≤ D
  t : sT f ≤ T
theorem CB.sum {D T M Z : Nat} {x : LF} (h : CB D T M Z x) (hM : M < 10 ^ 150) (hZ : Z < 10 ^ 150) : Part (D + 3) (T + 200) (sf x) :=
  ⟨gd_form h.g (fun m => Nat.lt_of_le_of_lt (Nat.le_trans (wt_Mw m _) h.m) hM) (Nat.lt_of_le_of_lt h.z hZ), dT_form h.d, Nat.le_trans (sT_form _ _) (Nat.add_le_add_right h.t _)⟩
theorem CB.row {D T M Z : Nat} {x : LF} (h : CB D T M Z x) (o : ∃ e, x.1 = [e]) : Part D (T - 160) (headF x.1) := by
  obtain ⟨e, he⟩ := o
  have hm : e ∈ x.1 := by rw [he]; exact List.mem_cons_self ..
  have ht := h.t
  rw [he, tot_cons] at ht
  rw [he]
  refine ⟨h.g e hm, h.d e hm, ?_⟩
  show sT e.f ≤ _
  omega
theorem CB.mk1 {D T : Nat} {a : Tm} {x : Str} {f : List PyData} (hx : LowS x ∧ x.length ≤ 20) (g : ∀ d ∈ f, GD d) (d : ∀ d ∈ f, d.depth ≤ D) (t : sz.szs f + 187 ≤ T) : CB (D + 1) T 1 0 ([⟨a, 1, .str x :: f⟩], 0) ∧ ∃ e, ([⟨a, 1, .str x :: f⟩] : List Ent) = [e] := by
  refine ⟨⟨fun e he => ?_, fun e he => ?_, ?_, Nat.le_refl 1, Nat.le_refl 0⟩, _, rfl⟩
  · rw [List.mem_singleton] at he
    subst he
    show GDs (.str x :: f)
    rw [GDs, GD]
    exact ⟨hx, gds_of g⟩
  · rw [List.mem_singleton] at he
    subst he
    show dT (.str x :: f) ≤ _
    refine dT_le fun y hy => ?_
    rcases List.mem_cons.mp hy with rfl | hy
    · rw [PyData.depth]; exact Nat.zero_le _
    · exact d y hy
  · show tot [⟨a, 1, .str x :: f⟩] ≤ _
    rw [tot_one, sT_cons]
    show 22 + 2 + (3 + sz.szs f) + 160 ≤ _
    omega
theorem dep_kd (l : Key) : (kd l).depth = 0 := by cases l <;> rfl
theorem sz_kd (l : Key) : sz (kd l) ≤ 151 := by
  cases l with
  | inl i => exact Nat.le_refl _
  | inr x => show 22 ≤ 151; omega
end Lw
/-! Part C3: the bounds of the shapes. Plain. -/
namespace Lw
open PySem PySem.Spec L2 PyProof.Rows
section
variable {es : List Th} {cn : Key → LF} {G : Th → LF} {Gp : Th → Prop} {D T M Z B : Nat}
theorem Th.sum_inv {s : Th} (h : s.isSum = true) : ∃ ps n, s = .sum ps n := by
  cases s <;> first | exact ⟨_, _, rfl⟩ | exact absurd h Bool.false_ne_true
theorem can_sum (hG : ∀ e ∈ es, Gp e → CB D T M Z (G e)) {ps : List (Nat × Int)} {n : Int} (w : Wf es Gp (.sum ps n)) (b : n.natAbs ≤ B) : CB D (4 * T) (4 * 10 ^ 20 * M) (4 * 10 ^ 20 * Z + B) (cf es cn G (.sum ps n)) := by
  obtain ⟨hl, hq⟩ := w
  have h := flat_le (es := es) (G := G) (D := D) (T := T) (M := M) (Z := Z) ps fun q hm => by
    obtain ⟨a1, a2, e, he, ge⟩ := hq q hm
    refine ⟨⟨a1, a2⟩, ?_⟩
    unfold gE
    rw [he]
    exact hG e (List.mem_of_getElem? he) ge
  have e1 : 4 * (10 ^ 20 * M) = 4 * 10 ^ 20 * M := (Nat.mul_assoc _ _ _).symm
  have e2 : 4 * (10 ^ 20 * Z) = 4 * 10 ^ 20 * Z := (Nat.mul_assoc _ _ _).symm
  have ht := Nat.le_trans h.t (Nat.mul_le_mul_right T hl)
  have hm := Nat.le_trans h.m (Nat.mul_le_mul_right (10 ^ 20 * M) hl)
  have hz := Nat.le_trans h.z (Nat.mul_le_mul_right (10 ^ 20 * Z) hl)
  rw [e1] at hm
  rw [e2] at hz
  refine ⟨h.g, h.d, ht, hm, ?_⟩
  show ((ps.map _).sum + n).natAbs ≤ _
  dsimp only at hz
  omega
theorem can_part (hM : 4 * 10 ^ 20 * M < 10 ^ 150) (hZ : 4 * 10 ^ 20 * Z + B < 10 ^ 150) (hG : ∀ e ∈ es, Gp e → CB D T M Z (G e)) {s : Th} (hs : s.isSum = true) (w : Wf es Gp s) (b : ThB B s) : Part (D + 3) (4 * T + 200) (sf (cf es cn G s)) ∧ s.ht = 0 ∧ s.sc = 1 := by
  obtain ⟨ps, n, rfl⟩ := Th.sum_inv hs
  exact ⟨(can_sum hG w b).sum hM hZ, rfl, rfl⟩
theorem gd_int {i : Int} (h : i.natAbs < 10 ^ 150) : GD (.int i) := by rw [GD]; exact h
theorem gd_tup {f : List PyData} (h : GDs f) : GD (.tuple f) := by rw [GD]; exact h
theorem all1 {P : PyData → Prop} {a : PyData} (h : P a) : ∀ d ∈ [a], P d := fun d hd => by
  rw [List.mem_singleton] at hd
  rw [hd]; exact h
theorem all2 {P : PyData → Prop} {a : PyData} {r : List PyData} (h : P a) (t : ∀ d ∈ r, P d) : ∀ d ∈ a :: r, P d := fun d hd => by
  rcases List.mem_cons.mp hd with rfl | hd
  · exact h
  · exact t d hd
theorem dep_int (i : Int) : (PyData.int i).depth = 0 := by rw [PyData.depth]
theorem can_th (hM : 4 * 10 ^ 20 * M < 10 ^ 150) (hZ : 4 * 10 ^ 20 * Z + B < 10 ^ 150) (hcn : ∀ l, GD (kd l) → CB 1 3000 (10 ^ 21) (10 ^ 21) (cn l)) (hG : ∀ e ∈ es, Gp e → CB D T M Z (G e)) : ∀ th, Wf es Gp th → ThB B th → cbd D T M Z B th (cf es cn G th)
  | .nam l, _, b => hcn l b
  | .sum ps n, w, b => can_sum hG w b
  | .row l, _, b => by
    obtain ⟨c, o⟩ := CB.mk1 (a := .row l) (D := D + 3) (T := 400) (x := "row") (f := [kd l]) (lowB_ok (by decide +kernel)) (all1 b) (all1 (by rw [dep_kd]; exact Nat.zero_le _)) (by have := sz_kd l; show sz (kd l) + 2 + 0 + 187 ≤ _; omega)
    exact ⟨c.mono (Nat.le_refl _) (by show 400 ≤ 0 * _ + 400 * (0 + 1); omega) (Nat.le_refl _) (Nat.le_refl _), o⟩
  | .wth r s t, w, b => by
    obtain ⟨⟨b1, b2, b3⟩, br, bs, bt⟩ := b
    obtain ⟨p1, h1, c1⟩ := can_part (cn := cn) hM hZ hG b2 w.2.1 bs
    obtain ⟨p2, h2, c2⟩ := can_part (cn := cn) hM hZ hG b3 w.2.2 bt
    have pr : CB (D + 4 + r.ht) (r.sc * (4 * T + 200) + 400 * (r.ht + 1)) 1 0 (cf es cn G r) ∧ ∃ e, (cf es cn G r).1 = [e] := by
      have := can_th hM hZ hcn hG r w.1 br
      cases r <;> first | exact this | exact absurd b1 Bool.false_ne_true
    have p0 := pr.1.row pr.2
    obtain ⟨c, o⟩ := CB.mk1 (a := .num 0) (D := D + 4 + r.ht) (T := r.sc * (4 * T + 200) + 400 * (r.ht + 1) + 2 * (4 * T + 200) + 400) (x := "with") (f := [.tuple (headF (cf es cn G r).1), .tuple (sf (cf es cn G s)), .tuple (sf (cf es cn G t))]) (lowB_ok (by decide +kernel))
      (all2 (gd_tup p0.g) (all2 (gd_tup p1.g) (all1 (gd_tup p2.g)))) (all2 p0.d (all2 (Nat.le_trans p1.d (by omega)) (all1 (Nat.le_trans p2.d (by omega)))))
      (by
        have a0 := p0.t; have a1 := p1.t; have a2 := p2.t
        show sT _ + 2 + (sT _ + 2 + (sT _ + 2 + 0)) + 187 ≤ _
        omega)
    refine ⟨c.mono ?_ ?_ (Nat.le_refl _) (Nat.le_refl _), o⟩
    · show _ ≤ D + 4 + (max r.ht (max s.ht t.ht) + 1)
      omega
    · show _ ≤ (r.sc + s.sc + t.sc) * (4 * T + 200) + 400 * (max r.ht (max s.ht t.ht) + 1 + 1)
      rw [c1, c2, Nat.add_mul, Nat.add_mul]
      omega
  | .room s, w, b => by
    obtain ⟨p1, h1, c1⟩ := can_part (cn := cn) hM hZ hG b.1 w b.2
    obtain ⟨c, o⟩ := CB.mk1 (a := .num 0) (D := D + 4) (T := (4 * T + 200) + 400) (x := "room") (f := [.tuple (sf (cf es cn G s))]) (lowB_ok (by decide +kernel)) (all1 (gd_tup p1.g)) (all1 (Nat.le_trans p1.d (by omega)))
      (by
        have a1 := p1.t
        show sT _ + 2 + 0 + 187 ≤ _
        omega)
    refine ⟨c.mono ?_ ?_ (Nat.le_refl _) (Nat.le_refl _), o⟩
    · show _ ≤ D + 4 + (s.ht + 1)
      omega
    · show _ ≤ s.sc * (4 * T + 200) + 400 * (s.ht + 1 + 1)
      rw [c1]
      omega
  | .read r s, w, b => by
    obtain ⟨⟨b1, b2⟩, br, bs⟩ := b
    obtain ⟨p1, h1, c1⟩ := can_part (cn := cn) hM hZ hG b2 w.2 bs
    have pr : CB (D + 4 + r.ht) (r.sc * (4 * T + 200) + 400 * (r.ht + 1)) 1 0 (cf es cn G r) ∧ ∃ e, (cf es cn G r).1 = [e] := by
      have := can_th hM hZ hcn hG r w.1 br
      cases r <;> first | exact this | exact absurd b1 Bool.false_ne_true
    have p0 := pr.1.row pr.2
    obtain ⟨c, o⟩ := CB.mk1 (a := .num 0) (D := D + 4 + r.ht) (T := r.sc * (4 * T + 200) + 400 * (r.ht + 1) + (4 * T + 200) + 400) (x := "read") (f := [.tuple (headF (cf es cn G r).1), .tuple (sf (cf es cn G s))]) (lowB_ok (by decide +kernel))
      (all2 (gd_tup p0.g) (all1 (gd_tup p1.g))) (all2 p0.d (all1 (Nat.le_trans p1.d (by omega))))
      (by
        have a0 := p0.t; have a1 := p1.t
        show sT _ + 2 + (sT _ + 2 + 0) + 187 ≤ _
        omega)
    refine ⟨c.mono ?_ ?_ (Nat.le_refl _) (Nat.le_refl _), o⟩
    · show _ ≤ D + 4 + (max r.ht s.ht + 1)
      omega
    · show _ ≤ (r.sc + s.sc) * (4 * T + 200) + 400 * (max r.ht s.ht + 1 + 1)
      rw [c1, Nat.add_mul]
      omega
  | .size r, w, b => by
    obtain ⟨b1, br⟩ := b
    have pr : CB (D + 4 + r.ht) (r.sc * (4 * T + 200) + 400 * (r.ht + 1)) 1 0 (cf es cn G r) ∧ ∃ e, (cf es cn G r).1 = [e] := by
      have := can_th hM hZ hcn hG r w br
      cases r <;> first | exact this | exact absurd b1 Bool.false_ne_true
    have p0 := pr.1.row pr.2
    obtain ⟨c, o⟩ := CB.mk1 (a := .num 0) (D := D + 4 + r.ht) (T := r.sc * (4 * T + 200) + 400 * (r.ht + 1) + 400) (x := "size") (f := [.tuple (headF (cf es cn G r).1)]) (lowB_ok (by decide +kernel))
      (all1 (gd_tup p0.g)) (all1 p0.d)
      (by
        have a0 := p0.t
        show sT _ + 2 + 0 + 187 ≤ _
        omega)
    refine ⟨c.mono ?_ ?_ (Nat.le_refl _) (Nat.le_refl _), o⟩
    · show _ ≤ D + 4 + (r.ht + 1)
      omega
    · show _ ≤ r.sc * (4 * T + 200) + 400 * (r.ht + 1 + 1)
      omega
  | .div s k, w, b => by
    obtain ⟨p1, h1, c1⟩ := can_part (cn := cn) hM hZ hG b.1 w b.2.1
    obtain ⟨c, o⟩ := CB.mk1 (a := .num 0) (D := D + 4) (T := (4 * T + 200) + 400) (x := "div") (f := [.tuple (sf (cf es cn G s)), .int k]) (lowB_ok (by decide +kernel)) (all2 (gd_tup p1.g) (all1 (gd_int b.2.2))) (all2 (Nat.le_trans p1.d (by omega)) (all1 (by rw [dep_int]; exact Nat.zero_le _)))
      (by
        have a1 := p1.t
        show sT _ + 2 + (151 + 2 + 0) + 187 ≤ _
        omega)
    refine ⟨c.mono ?_ ?_ (Nat.le_refl _) (Nat.le_refl _), o⟩
    · show _ ≤ D + 4 + (s.ht + 1)
      omega
    · show _ ≤ s.sc * (4 * T + 200) + 400 * (s.ht + 1 + 1)
      rw [c1]
      omega
  | .mod s k, w, b => by
    obtain ⟨p1, h1, c1⟩ := can_part (cn := cn) hM hZ hG b.1 w b.2.1
    obtain ⟨c, o⟩ := CB.mk1 (a := .num 0) (D := D + 4) (T := (4 * T + 200) + 400) (x := "mod") (f := [.tuple (sf (cf es cn G s)), .int k]) (lowB_ok (by decide +kernel)) (all2 (gd_tup p1.g) (all1 (gd_int b.2.2))) (all2 (Nat.le_trans p1.d (by omega)) (all1 (by rw [dep_int]; exact Nat.zero_le _)))
      (by
        have a1 := p1.t
        show sT _ + 2 + (151 + 2 + 0) + 187 ≤ _
        omega)
    refine ⟨c.mono ?_ ?_ (Nat.le_refl _) (Nat.le_refl _), o⟩
    · show _ ≤ D + 4 + (s.ht + 1)
      omega
    · show _ ≤ s.sc * (4 * T + 200) + 400 * (s.ht + 1 + 1)
      rw [c1]
      omega
end
/-- entries as the law makes them: no sums, small numbers -/
def ThE (e : Th) : Prop := e.isSum = false ∧ ThB (10 ^ 20) e
def tE : Nat → Nat
  | 0 => 3000
  | n + 1 => 5 * (4 * tE n + 200) + 2000
theorem tE_le (n : Nat) : 3000 ≤ tE n := by
  cases n with
  | zero => exact Nat.le_refl _
  | succ n => unfold tE; omega
section
variable {es : List Th} {cn : Key → LF}
def dS (n : Nat) : Nat := 8 * n
def tS : Nat → Nat
  | 0 => 0
  | n + 1 => tE n
theorem can_step (hes : ∀ e ∈ es, ThE e) (n : Nat) (h : ∀ th B, Rk es n th → ThB B th → B + 4 * 10 ^ 41 < 10 ^ 150 → cbd (dS n) (tS n) (10 ^ 21) (10 ^ 21) B th (cf es cn (cF es cn n) th)) : ∀ e ∈ es, Rk es n e → e.ht ≤ 4 → e.sc ≤ 5 → CB (dS (n + 1)) (tE n) (10 ^ 21) (10 ^ 21) (cF es cn (n + 1) e) := by
  intro e he hr hh hs
  obtain ⟨e1, e2⟩ := hes e he
  have hc := h e (10 ^ 20) hr e2 (by decide)
  have ht := tE_le n
  have htS : 5 * (4 * tS n + 200) + 2000 ≤ tE n := by
    cases n with
    | zero => decide
    | succ n => exact Nat.le_refl _
  have hx : ∀ a b c : Nat, a ≤ 5 → b ≤ 4 → a * c + 400 * (b + 1) ≤ 5 * c + 2000 := fun a b c ha hb => by
    have := Nat.mul_le_mul_right c ha
    omega
  have hz := hx e.sc e.ht (4 * tS n + 200) hs hh
  show CB (dS (n + 1)) (tE n) (10 ^ 21) (10 ^ 21) (cf es cn (cF es cn n) e)
  have hd : dS (n + 1) = dS n + 8 := by unfold dS; omega
  rw [hd]
  cases e with
  | nam l => exact CB.mono hc (by omega) ht (Nat.le_refl _) (Nat.le_refl _)
  | sum ps m => exact Bool.noConfusion (show true = false from e1)
  | _ => exact CB.mono hc.1 (by omega) (by omega) (by decide) (by decide)
/-- what stands for an entry of rank n; what a thing of rank n comes to -/
theorem can_G (hes : ∀ e ∈ es, ThE e) (hcn : ∀ l, GD (kd l) → CB 1 3000 (10 ^ 21) (10 ^ 21) (cn l)) : ∀ n th B, Rk es n th → ThB B th → B + 4 * 10 ^ 41 < 10 ^ 150 → cbd (dS n) (tS n) (10 ^ 21) (10 ^ 21) B th (cf es cn (cF es cn n) th)
  | 0, th, B, hr, hb, hB => can_th (by decide) (by omega) hcn (fun e he z => z.elim) th hr hb
  | n + 1, th, B, hr, hb, hB => can_th (by decide) (by omega) hcn (fun e he z => can_step hes n (can_G hes hcn n) e he z.1 z.2.1 z.2.2) th hr hb
end
end Lw
/-! Part H3: the law's own forms: _law_s_form. -/
namespace Lw
open PySem PySem.Spec L2 L2.DX PyProof.Rows
mutual
theorem gd_lay : ∀ (d : PyData), GD d → d.canLay0 = true
  | .int i, h => by rw [PyData.canLay0]
  | .str x, h => by
    rw [GD] at h
    rw [PyData.canLay0]
    unfold PyData.strOk
    rw [Array.all_eq_true']
    intro c hc
    have := h.1 c (Array.mem_toList_iff.mpr hc)
    exact decide_eq_true (by omega)
  | .tuple ds, h => by
    rw [GD] at h
    rw [PyData.canLay0]
    exact gds_lay ds h
  | .none, h => absurd h (by simp [GD])
  | .bool _, h => absurd h (by simp [GD])
  | .list _, h => absurd h (by simp [GD])
  | .dict _, h => absurd h (by simp [GD])
theorem gds_lay : ∀ (ds : List PyData), GDs ds → PyData.canLayAll0 ds = true
  | [], _ => by rw [PyData.canLayAll0]
  | d :: ds, h => by
    rw [GDs] at h
    rw [PyData.canLayAll0, gd_lay d h.1, gds_lay ds h.2]
    rfl
end
theorem gd_shaped {d : PyData} (h : GD d) (hd : d.depth ≤ 60) : SeqAt.shaped d = true := by
  unfold SeqAt.shaped
  rw [gd_lay d h, Bool.true_and]
  exact decide_eq_true (by omega)
/-- how long a form of the law's own may be -/
def fS : Nat → Nat
  | 0 => 300
  | n + 1 => 4 * (5 * fS n + 2000 + 400) + 300
def fb (S : Nat) : Th → Nat
  | .nam _ => 400
  | .row _ => 400
  | .sum _ _ => S
  | .wth r s t => fb S r + fb S s + fb S t + 400
  | .room s => fb S s + 400
  | .read r s => fb S r + fb S s + 400
  | .size r => fb S r + 400
  | .div s _ => fb S s + 400
  | .mod s _ => fb S s + 400
theorem fb_le (S B : Nat) : ∀ th, ThB B th → fb S th ≤ th.sc * S + 400 * (th.ht + 1)
  | .nam _, _ => by show 400 ≤ 0 * S + 400 * (0 + 1); omega
  | .row _, _ => by show 400 ≤ 0 * S + 400 * (0 + 1); omega
  | .sum _ _, _ => by show S ≤ 1 * S + 400 * (0 + 1); omega
  | .wth r s t, ⟨⟨_, b2, b3⟩, h1, _, _⟩ => by
    have a1 := fb_le S B r h1
    obtain ⟨ps, n, rfl⟩ := Th.sum_inv b2
    obtain ⟨ps', n', rfl⟩ := Th.sum_inv b3
    show fb S r + S + S + 400 ≤ (r.sc + 1 + 1) * S + 400 * (max r.ht (max 0 0) + 1 + 1)
    rw [Nat.add_mul, Nat.add_mul]
    omega
  | .room s, ⟨b, _⟩ => by
    obtain ⟨ps, n, rfl⟩ := Th.sum_inv b
    show S + 400 ≤ 1 * S + 400 * (0 + 1 + 1)
    omega
  | .read r s, ⟨⟨_, b2⟩, h1, _⟩ => by
    have a1 := fb_le S B r h1
    obtain ⟨ps, n, rfl⟩ := Th.sum_inv b2
    show fb S r + S + 400 ≤ (r.sc + 1) * S + 400 * (max r.ht 0 + 1 + 1)
    rw [Nat.add_mul]
    omega
  | .size r, ⟨_, h1⟩ => by
    have a1 := fb_le S B r h1
    show fb S r + 400 ≤ r.sc * S + 400 * (r.ht + 1 + 1)
    omega
  | .div s k, ⟨b, _⟩ => by
    obtain ⟨ps, n, rfl⟩ := Th.sum_inv b
    show S + 400 ≤ 1 * S + 400 * (0 + 1 + 1)
    omega
  | .mod s k, ⟨b, _⟩ => by
    obtain ⟨ps, n, rfl⟩ := Th.sum_inv b
    show S + 400 ≤ 1 * S + 400 * (0 + 1 + 1)
    omega
/-- a form of the law's own: good data, so long, so deep -/
def FR (n : Nat) (th : Th) (d : PyData) : Prop := ∃ f, d = .tuple f ∧ GDs f ∧ sT f ≤ fb (fS n) th ∧ dT f ≤ 8 * n + th.ht + 4
theorem FR.entry {n : Nat} {th : Th} {d : PyData} (h : FR n th d) (b : ThB (10 ^ 20) th) (hh : th.ht ≤ 4) (hs : th.sc ≤ 5) : ∃ f, d = .tuple f ∧ GDs f ∧ sT f ≤ 5 * fS n + 2000 ∧ dT f ≤ 8 * n + 8 := by
  obtain ⟨f, e, g, t, dd⟩ := h
  have h1 := fb_le (fS n) _ th b
  have h2 := Nat.mul_le_mul_right (fS n) hs
  exact ⟨f, e, g, by omega, by omega⟩
theorem fS_le : ∀ n, n ≤ 2 → 5 * fS n + 2000 ≤ 2000000
  | 0, _ => by decide
  | 1, _ => by decide
  | 2, _ => by decide
  | n + 3, h => by omega
/-- a pair of the law's own form -/
theorem pair_ok {n : Nat} {f : List PyData} {w : Int} (hn : n ≤ 2) (g : GDs f) (t : sT f ≤ 5 * fS n + 2000) (d : dT f ≤ 8 * n + 8) (hw : w.natAbs < 10 ^ 150) : GD (.tuple [.tuple f, .int w]) ∧ sz (.tuple [.tuple f, .int w]) ≤ 5 * fS n + 2000 + 158 ∧ (PyData.tuple [.tuple f, .int w]).depth ≤ 8 * n + 9 ∧ SOk [.tuple f, .int w] := by
  have h1 : GDs [.tuple f, .int w] := by
    rw [GDs, GDs, GDs, GD, GD]
    exact ⟨g, hw, trivial⟩
  have h2 : sz (.tuple [.tuple f, .int w]) ≤ 5 * fS n + 2000 + 158 := by
    show 3 + (sT f + 2 + (151 + 2 + 0)) ≤ _
    omega
  have h3 : dT [.tuple f, .int w] ≤ 8 * n + 9 := dT_le (k := 8 * n + 8) (all2 (P := fun d => d.depth ≤ 8 * n + 8) d (all1 (P := fun d => d.depth ≤ 8 * n + 8) (by rw [dep_int]; exact Nat.zero_le _)))
  have h4 := fS_le n hn
  have hg : GD (.tuple [.tuple f, .int w]) := by rw [GD]; exact h1
  refine ⟨hg, h2, h3, gd_show _ hg, ?_, ?_⟩
  · exact Nat.le_trans h3 (by omega)
  · have hl := gd_len _ hg
    show (PyData.tuple [.tuple f, .int w]).shown.length ≤ sizeLine
    have e : (PyData.tuple [.tuple f, .int w]).shown.length = (ch (.tuple [.tuple f, .int w])).length := by unfold ch; rw [Array.length_toList]; rfl
    rw [e]
    exact Nat.le_trans hl (Nat.le_trans h2 (by unfold sizeLine; omega))
/-- the sum's form -/
theorem sumF_ok {n : Nat} {ds : List PyData} {m : Int} (hl : ds.length ≤ 4) (h : ∀ d ∈ ds, GD d ∧ sz d ≤ 5 * fS n + 2000 + 158 ∧ d.depth ≤ 8 * n + 9) (hm : m.natAbs < 10 ^ 150) : FR (n + 1) (.sum [] m) (.tuple [.str "sum", .tuple ds, .int m]) := by
  refine ⟨_, rfl, ?_, ?_, ?_⟩
  · rw [GDs, GDs, GDs, GDs, GD, GD, GD]
    exact ⟨lowS_sum, gds_of fun d hd => (h d hd).1, hm, trivial⟩
  · have hs : sz.szs ds ≤ ds.length * (5 * fS n + 2000 + 160) := by
      clear hl hm
      induction ds with
      | nil => exact Nat.zero_le _
      | cons d ds ih =>
        have a := ih fun x hx => h x (List.mem_cons_of_mem _ hx)
        have b := (h d (List.mem_cons_self ..)).2.1
        show sz d + 2 + sz.szs ds ≤ _
        rw [List.length_cons, Nat.succ_mul]
        omega
    have h2 := Nat.mul_le_mul_right (5 * fS n + 2000 + 160) hl
    show 3 + (22 + 2 + (3 + sz.szs ds + 2 + (151 + 2 + 0))) ≤ 4 * (5 * fS n + 2000 + 400) + 300
    omega
  · have h1 : dT ds ≤ 8 * n + 10 := dT_le fun d hd => (h d hd).2.2
    show dT _ ≤ 8 * (n + 1) + 0 + 4
    exact Nat.le_trans (dT_le (k := 8 * n + 10) (all2 (P := fun d => d.depth ≤ 8 * n + 10) (by rw [PyData.depth]; exact Nat.zero_le _) (all2 (P := fun d => d.depth ≤ 8 * n + 10) h1 (all1 (P := fun d => d.depth ≤ 8 * n + 10) (by rw [dep_int]; exact Nat.zero_le _))))) (by omega)
theorem sumF0_ok {ds : List PyData} {m : Int} (hl : ds = []) (hm : m.natAbs < 10 ^ 150) : FR 0 (.sum [] m) (.tuple [.str "sum", .tuple ds, .int m]) := by
  subst hl
  refine ⟨_, rfl, ?_, ?_, ?_⟩
  · rw [GDs, GDs, GDs, GDs, GD, GD, GD]
    exact ⟨lowS_sum, by rw [GDs]; trivial, hm, trivial⟩
  · show 3 + (22 + 2 + (3 + 0 + 2 + (151 + 2 + 0))) ≤ 300
    decide
  · show dT _ ≤ 4
    exact Nat.le_trans (dT_le (k := 1) (all2 (P := fun d => d.depth ≤ 1) (by rw [PyData.depth]; exact Nat.zero_le _) (all2 (P := fun d => d.depth ≤ 1) (by rw [PyData.depth, PyData.depthAll]; exact Nat.le_refl _) (all1 (P := fun d => d.depth ≤ 1) (by rw [dep_int]; exact Nat.zero_le _))))) (by omega)
theorem FR.sum_any {n : Nat} {ps ps' : List (Nat × Int)} {m m' : Int} {d : PyData} (h : FR n (.sum ps m) d) : FR n (.sum ps' m') d := h
end Lw
/-! Part H4: the walk of _law_s_form. -/
namespace Lw
open PySem PySem.Spec L2 L2.DX PyProof.Rows
def spSForm (es : List Th) (n h : Nat) : Sp := fun vs H Q _ => ∃ (L : Addr) (v : V) (th : Th), vs = [.ref L, v] ∧ PoolW H L v es th ∧ Rk es n th ∧ th.ht ≤ h ∧ n ≤ 2 ∧ ThB (10 ^ 20) th ∧ (∀ e ∈ es, ThE e) ∧ ∀ v' d H', Same H H' → DR H' v' d → FR n th d → Q v' H'
theorem scSForm : FnScope ["_law_pool", "_law_thing", "_law_some", "_law_k", "_law_weight", "_law_mark", "_law_pair", "_law_part"] ["_law_pool", "_law_thing"] (defScope (top 48)) := ⟨rfl, rfl, rfl, by decide +kernel, rfl, by decide +kernel, by decide +kernel⟩
/-- a part's form -/
def PFm (n h : Nat) : Th ⊕ Int → PyData → Prop
  | .inl th, d => FR n th d
  | .inr k, d => d = .int k
theorem fr_tup {n : Nat} {th : Th} {d : PyData} (h : FR n th d) : GD d ∧ sz d ≤ fb (fS n) th ∧ d.depth ≤ 8 * n + th.ht + 4 := by
  obtain ⟨f, rfl, g, t, dd⟩ := h
  exact ⟨gd_tup g, t, dd⟩
theorem low_word (th : Th) : LowS th.word ∧ th.word.length ≤ 20 := by cases th <;> first | exact lowB_ok (x := "name") (by decide +kernel) | exact lowB_ok (x := "sum") (by decide +kernel) | exact lowB_ok (x := "row") (by decide +kernel) | exact lowB_ok (x := "with") (by decide +kernel) | exact lowB_ok (x := "room") (by decide +kernel) | exact lowB_ok (x := "read") (by decide +kernel) | exact lowB_ok (x := "size") (by decide +kernel) | exact lowB_ok (x := "div") (by decide +kernel) | exact lowB_ok (x := "mod") (by decide +kernel)
theorem sz_str (x : Str) : sz (.str x) = 22 := rfl
theorem dep_str (x : Str) : (PyData.str x).depth = 0 := by rw [PyData.depth]
/-- the forms of the parts make the form -/
theorem parts_form {n h : Nat} {th : Th} (hm : th.made) (b : ThB (10 ^ 20) th) {ds : List PyData} (hl : ds.length = th.parts.length) (hp : ∀ (i : Nat) (x : Th ⊕ Int) (d : PyData), th.parts[i]? = some x → ds[i]? = some d → PFm n h x d) : FR n th (.tuple (.str th.word :: ds)) := by
  have mk : ∀ (k K : Nat), (∀ d ∈ ds, GD d) → (∀ d ∈ ds, d.depth ≤ K) → sz.szs ds + 27 ≤ k → k ≤ fb (fS n) th → K + 1 ≤ 8 * n + th.ht + 4 → FR n th (.tuple (.str th.word :: ds)) := fun k K g d t hk hK => by
    refine ⟨_, rfl, ?_, ?_, ?_⟩
    · rw [GDs, GD]
      exact ⟨low_word th, gds_of g⟩
    · rw [sT_cons, sz_str]
      show 22 + 2 + (3 + sz.szs ds) ≤ _
      omega
    · exact Nat.le_trans (dT_le (k := K) (all2 (P := fun d => d.depth ≤ K) (by rw [dep_str]; exact Nat.zero_le _) d)) hK
  cases th with
  | nam _ => exact hm.elim
  | row _ => exact hm.elim
  | sum _ _ => exact hm.elim
  | wth r s t =>
    match ds, hl with
    | [d1, d2, d3], _ =>
      obtain ⟨g1, t1, c1⟩ := fr_tup (hp 0 _ _ rfl rfl)
      obtain ⟨g2, t2, c2⟩ := fr_tup (hp 1 _ _ rfl rfl)
      obtain ⟨g3, t3, c3⟩ := fr_tup (hp 2 _ _ rfl rfl)
      refine mk _ (8 * n + max r.ht (max s.ht t.ht) + 4) (all2 g1 (all2 g2 (all1 g3))) (all2 (P := fun d => d.depth ≤ 8 * n + max r.ht (max s.ht t.ht) + 4) (by omega) (all2 (P := fun d => d.depth ≤ 8 * n + max r.ht (max s.ht t.ht) + 4) (by omega) (all1 (P := fun d => d.depth ≤ 8 * n + max r.ht (max s.ht t.ht) + 4) (by omega)))) (Nat.le_refl _) ?_ ?_
      · show sz d1 + 2 + (sz d2 + 2 + (sz d3 + 2 + 0)) + 27 ≤ fb (fS n) r + fb (fS n) s + fb (fS n) t + 400
        omega
      · show _ ≤ 8 * n + (max r.ht (max s.ht t.ht) + 1) + 4
        omega
  | room s =>
    match ds, hl with
    | [d1], _ =>
      obtain ⟨g1, t1, c1⟩ := fr_tup (hp 0 _ _ rfl rfl)
      refine mk _ (8 * n + s.ht + 4) (all1 g1) (all1 (P := fun d => d.depth ≤ 8 * n + s.ht + 4) c1) (Nat.le_refl _) ?_ ?_
      · show sz d1 + 2 + 0 + 27 ≤ fb (fS n) s + 400
        omega
      · show _ ≤ 8 * n + (s.ht + 1) + 4
        omega
  | read r s =>
    match ds, hl with
    | [d1, d2], _ =>
      obtain ⟨g1, t1, c1⟩ := fr_tup (hp 0 _ _ rfl rfl)
      obtain ⟨g2, t2, c2⟩ := fr_tup (hp 1 _ _ rfl rfl)
      refine mk _ (8 * n + max r.ht s.ht + 4) (all2 g1 (all1 g2)) (all2 (P := fun d => d.depth ≤ 8 * n + max r.ht s.ht + 4) (by omega) (all1 (P := fun d => d.depth ≤ 8 * n + max r.ht s.ht + 4) (by omega))) (Nat.le_refl _) ?_ ?_
      · show sz d1 + 2 + (sz d2 + 2 + 0) + 27 ≤ fb (fS n) r + fb (fS n) s + 400
        omega
      · show _ ≤ 8 * n + (max r.ht s.ht + 1) + 4
        omega
  | size r =>
    match ds, hl with
    | [d1], _ =>
      obtain ⟨g1, t1, c1⟩ := fr_tup (hp 0 _ _ rfl rfl)
      refine mk _ (8 * n + r.ht + 4) (all1 g1) (all1 (P := fun d => d.depth ≤ 8 * n + r.ht + 4) c1) (Nat.le_refl _) ?_ ?_
      · show sz d1 + 2 + 0 + 27 ≤ fb (fS n) r + 400
        omega
      · show _ ≤ 8 * n + (r.ht + 1) + 4
        omega
  | div s k =>
    match ds, hl with
    | [d1, d2], _ =>
      obtain ⟨g1, t1, c1⟩ := fr_tup (hp 0 _ _ rfl rfl)
      have e2 : d2 = .int k := hp 1 _ _ rfl rfl
      subst e2
      refine mk _ (8 * n + s.ht + 4) (all2 g1 (all1 (gd_int b.2.2))) (all2 (P := fun d => d.depth ≤ 8 * n + s.ht + 4) c1 (all1 (P := fun d => d.depth ≤ 8 * n + s.ht + 4) (by rw [dep_int]; exact Nat.zero_le _))) (Nat.le_refl _) ?_ ?_
      · show sz d1 + 2 + (151 + 2 + 0) + 27 ≤ fb (fS n) s + 400
        omega
      · show _ ≤ 8 * n + (s.ht + 1) + 4
        omega
  | mod s k =>
    match ds, hl with
    | [d1, d2], _ =>
      obtain ⟨g1, t1, c1⟩ := fr_tup (hp 0 _ _ rfl rfl)
      have e2 : d2 = .int k := hp 1 _ _ rfl rfl
      subst e2
      refine mk _ (8 * n + s.ht + 4) (all2 g1 (all1 (gd_int b.2.2))) (all2 (P := fun d => d.depth ≤ 8 * n + s.ht + 4) c1 (all1 (P := fun d => d.depth ≤ 8 * n + s.ht + 4) (by rw [dep_int]; exact Nat.zero_le _))) (Nat.le_refl _) ?_ ?_
      · show sz d1 + 2 + (151 + 2 + 0) + 27 ≤ fb (fS n) s + 400
        omega
      · show _ ≤ 8 * n + (s.ht + 1) + 4
        omega
theorem fr_key {n : Nat} {th : Th} {l : Key} {x : Str} (hx : LowS x ∧ x.length ≤ 20) (hl : GD (kd l)) (h4 : 400 ≤ fb (fS n) th) : FR n th (.tuple [.str x, kd l]) := by
  have := sz_kd l
  refine ⟨_, rfl, ?_, ?_, ?_⟩
  · rw [GDs, GD, GDs, GDs]
    exact ⟨hx, hl, trivial⟩
  · rw [sT_cons, sT_cons, sz_str, sT_nil]
    omega
  · exact Nat.le_trans (dT_le (k := 0) (all2 (P := fun d => d.depth ≤ 0) (by rw [dep_str]; exact Nat.le_refl _) (all1 (P := fun d => d.depth ≤ 0) (by rw [dep_kd]; exact Nat.le_refl _)))) (by omega)
/-- what the pairs under their texts keep -/
def MkOk (n : Nat) (b : Str × PyData) : Prop := b.1 = b.2.shown ∧ ∃ f w, b.2 = .tuple [.tuple f, .int w] ∧ GDs f ∧ sT f ≤ 5 * fS n + 2000 ∧ dT f ≤ 8 * n + 8 ∧ w.natAbs < 10 ^ 150
/-- one pair of the sum's form -/
def PDk (n : Nat) (d : PyData) : Prop := ∃ n' f w, n = n' + 1 ∧ d = .tuple [.tuple f, .int w] ∧ GDs f ∧ sT f ≤ 5 * fS n' + 2000 ∧ dT f ≤ 8 * n' + 8 ∧ w.natAbs < 10 ^ 150
theorem none_back {H H' : Hp} {a : Addr} (s : Same H H') (h : H' a = none) : H a = none := by
  cases e : H a with
  | none => rfl
  | some o =>
    rw [s _ _ e] at h
    cases h
theorem parts_thb {B : Nat} {th x : Th} (b : ThB B th) (h : .inl x ∈ th.parts) : ThB B x := by
  cases th <;> simp [Th.parts] at h
  case wth r s t =>
    rcases h with rfl | rfl | rfl
    · exact b.2.1
    · exact b.2.2.1
    · exact b.2.2.2
  case room s => subst h; exact b.2
  case read r s =>
    rcases h with rfl | rfl
    · exact b.2.1
    · exact b.2.2
  case size r => subst h; exact b.2
  case div s k => subst h; exact b.2.1
  case mod s k => subst h; exact b.2.1
section
variable {P : Program} {w : World} {K : PySem.W.Frag} {mg' : Str → Option Value} {base : Heap}
theorem st_sform (D : Df K mg' "_law_s_form" 48) (mt : mg' "tuple" = none) (mis : mg' "isinstance" = none) (mr : mg' "repr" = none) (mso : mg' "sorted" = none) (es : List Th) (n h k : Nat)
    (GN : ∀ n', n = n' + 1 → Gg P w K mg' base k "_law_s_form" ["_law_pool", "_law_thing"] (spSForm es n' 4)) (GS : ∀ h', h = h' + 1 → Gg P w K mg' base k "_law_s_form" ["_law_pool", "_law_thing"] (spSForm es n h')) :
    Gg P w K mg' base (k + 1) "_law_s_form" ["_law_pool", "_law_thing"] (spSForm es n h) := by
  obtain ⟨spE, GE, hE⟩ : ∃ spE : Sp, Gg P w K mg' base k "_law_s_form" ["_law_pool", "_law_thing"] spE ∧ ∀ h', h = h' + 1 → spE = spSForm es n h' := by
    cases h with
    | zero => exact ⟨fun _ _ _ _ => False, Gg.never D (fun _ _ _ _ _ _ us hl => match us, hl with | [_, _], _ => rfl) fun _ _ _ _ z => z, fun n' e => by omega⟩
    | succ h' => exact ⟨_, GS h' rfl, fun m e => by cases e; rfl⟩
  obtain ⟨spN, GE4, hE4⟩ : ∃ spN : Sp, Gg P w K mg' base k "_law_s_form" ["_law_pool", "_law_thing"] spN ∧ ∀ n', n = n' + 1 → spN = spSForm es n' 4 := by
    cases n with
    | zero => exact ⟨fun _ _ _ _ => False, Gg.never D (fun _ _ _ _ _ _ us hl => match us, hl with | [_, _], _ => rfl) fun _ _ _ _ z => z, fun n' e => by omega⟩
    | succ n' => exact ⟨_, GN n' rfl, fun m e => by cases e; rfl⟩
  refine okGg D scSForm (fun _ _ _ _ _ _ us hl => match us, hl with | [_, _], _ => rfl) (fun vs H Q E h => ?_) (fun f cdv A out s H vs Q E gd hr h => ?_)
  · obtain ⟨L, v, th, rfl, _⟩ := h
    rfl
  obtain ⟨L, v, th, rfl, hpw, hrk, hht, hn2, hb, hes, q⟩ := h
  have nd := scSForm.nd
  have hu66 : (A.deeper (envOfC "_law_s_form" (defScope (top 48)) s.heap.objs.size f cdv)).units + 66 < cLine := by
    have := hr.un
    omega
  refine ⟨_, pss_cons (ps_if (pt_cmpR op_in_seq (pe_ix ix_tup (pv 1) pe_int (fun _ _ => rfl)) (pe_tup (pa_cons pe_str (pa_cons pe_str pa_nil))) (by rfl)) (pss_one (ps_ret (pv 1))) pss_nil)
    (pss_cons (ps_if (pt_cmpR op_eq (pe_ix ix_tup (pv 1) pe_int (fun _ _ => rfl)) pe_str (nomark _))
      (pss_cons (ps_setLc (i := 2) (own := [("_law_k", 3), ("_law_weight", 4)]) (g := gTup K 2 (gCons (gName 3) (gCons (gName 4) gNil))) (tt := tYes) rfl nd rfl rfl (sw_true rfl rfl rfl (by decide +kernel)) (pi_list (pe_ix ix_tup (pv 1) pe_int (fun _ _ => rfl))) (blkOk_by (own := [("_law_k", 3), ("_law_weight", 4)]) (N := ["_law_pool", "_law_thing", "_law_some", "_law_k", "_law_weight", "_law_mark", "_law_pair", "_law_part"]) (sc := defScope (top 48)) (by decide +kernel))
          (fun _ _ _ _ _ => pg_tup rfl (pgs_cons (pg_name (i := 3) nd rfl (Or.inl rfl)) (pgs_cons (pg_name (i := 4) nd rfl (Or.inl rfl)) pgs_nil))) (fun _ _ _ _ _ => pts_nil)
          (fun _ _ _ _ _ => pe_tup (pa_cons (pe_g GE4 gd hr rfl (pa_cons (pv 0) (pa_cons (pe_ix (show IxR _ (rIxL K) from ix_list) (pv 0) (pv 3) (fun _ _ => rfl)) pa_nil))) (pa_cons (pv 4) pa_nil))))
      (pss_one (ps_ret (pe_tup (pa_cons pe_str (pa_cons (pe_callTy call_tuple_of rfl mt boot_tuple (pa_cons
        (pe_lc (own := [("_law_mark", 5), ("_law_pair", 6)]) (g := gTup K 2 (gCons (gName 5) (gCons (gName 6) gNil))) (tt := tYes) rfl nd
          (pi_list (pe_callB (cr_sortM hu66) rfl mso (by decide +kernel) (pa_cons (pe_lc (own := [("_law_pair", 6)]) (g := gName 6) (tt := tYes) rfl nd (pi_list (pv 2)) (blkOk_by (own := [("_law_pair", 6)]) (N := ["_law_pool", "_law_thing", "_law_some", "_law_k", "_law_weight", "_law_mark", "_law_pair", "_law_part"]) (sc := defScope (top 48)) (by decide +kernel))
            (fun _ _ _ _ _ => pg_name (i := 6) nd rfl (Or.inl rfl)) (fun _ _ _ _ _ => pts_nil)
            (fun _ _ _ _ _ => pe_tup (pa_cons (pe_callB (show CallR _ _ rRepr from call_reprT gd hr.units) rfl mr (by decide +kernel) (pa_cons (pv 6) pa_nil)) (pa_cons (pv 6) pa_nil)))) pa_nil)))
          (blkOk_by (own := [("_law_mark", 5), ("_law_pair", 6)]) (N := ["_law_pool", "_law_thing", "_law_some", "_law_k", "_law_weight", "_law_mark", "_law_pair", "_law_part"]) (sc := defScope (top 48)) (by decide +kernel))
          (fun _ _ _ _ _ => pg_tup rfl (pgs_cons (pg_name (i := 5) nd rfl (Or.inl rfl)) (pgs_cons (pg_name (i := 6) nd rfl (Or.inl rfl)) pgs_nil))) (fun _ _ _ _ _ => pts_nil)
          (fun _ _ _ _ _ => pv 6)) pa_nil)) (pa_cons (pe_ix ix_tup (pv 1) pe_int (fun _ _ => rfl)) pa_nil))))))) pss_nil)
    (pss_cons (ps_if (pt_cmpR op_eq (pe_ix ix_tup (pv 1) pe_int (fun _ _ => rfl)) pe_str (nomark _)) pss_never pss_nil)
    (pss_one (ps_ret (pe_op op_catA (pe_slice sl_tupA (pv 1) po_none (po_some pe_int)) (pe_callTy call_tuple_of rfl mt boot_tuple (pa_cons
      (pe_lc (own := [("_law_part", 7)]) (g := gName 7) (tt := tYes) rfl nd (pi_tup (pe_slice sl_tupA (pv 1) (po_some pe_int) po_none)) (blkOk_by (own := [("_law_part", 7)]) (N := ["_law_pool", "_law_thing", "_law_some", "_law_k", "_law_weight", "_law_mark", "_law_pair", "_law_part"]) (sc := defScope (top 48)) (by decide +kernel))
        (fun _ _ _ _ _ => pg_name (i := 7) nd rfl (Or.inl rfl)) (fun _ _ _ _ _ => pts_nil)
        (fun _ _ _ _ _ => pe_ifExp (pt_val (pe_callB (show CallR _ _ (rIsi K) from call_isi) rfl mis (by decide +kernel) (pa_cons (pv 7) (pa_cons (pe_bltn (v := .ty "tuple") rfl mt boot_tuple rfl) pa_nil)))) (pe_g GE gd hr rfl (pa_cons (pv 0) (pa_cons (pv 7) pa_nil))) (pv 7))) pa_nil))))))), ?_⟩
  obtain ⟨p, hL, hth⟩ := hpw
  obtain ⟨va, vrest, rfl, hva⟩ := hth.word
  refine ⟨_, rfl, va, _, _, _, rfl, rfl, SqT.of hva, atI_head _ _, by show 2 ≤ sizeLine; decide, fun t1 n1 => ?_⟩
  have z1 := same_upd (o := .tup [V.str "name", .str "row"]) n1
  refine ⟨t1, _, rfl, .inr (SqT.of upd_same), rfl, rfl, _, rfl, ?_⟩
  rcases made_or th with ⟨l, rfl⟩ | ⟨l, rfl⟩ | ⟨ps, m, rfl⟩ | ⟨hm, w1, w2, w3, w4⟩
  · exact iteT ⟨_, rfl, q _ _ _ z1 (DR.kt hth (.of z1)) (fr_key (lowB_ok (by decide +kernel)) hb (Nat.le_refl _))⟩
  · exact iteT ⟨_, rfl, q _ _ _ z1 (DR.kt hth (.of z1)) (fr_key (lowB_ok (by decide +kernel)) hb (Nat.le_refl _))⟩
  · refine iteF ?_
    refine ⟨_, rfl, va, _, _, _, rfl, rfl, SqT.of (z1 _ _ hva), atI_head _ _, rfl, _, rfl, iteT ?_⟩
    obtain ⟨ma, mb, mxs, e, hma, hmbp, hmb, hmd⟩ := hth
    cases e
    have hlen : mxs.length = ps.length := by rw [hmd.length, List.length_map]
    have hma1 := z1 _ _ hma
    have hmb1 := z1 _ _ hmb
    have hps4 : ps.length ≤ 4 := by cases n <;> exact hrk.1
    refine ⟨_, rfl, va, _, _, _, rfl, rfl, SqT.of hma1, rfl, mb, rfl, ⟨_, SqL.of hmb1⟩, fun D4 d4 => ?_⟩
    have z4 := same_upd (o := .lst []) d4
    have nD : H D4 = none := none_back z1 d4
    refine lc_list (K := K) (a := mb) (xs := mxs) (fun i H' => (∃ us ds, H' D4 = some (.lst us) ∧ DRs H' us ds ∧ ds.length = i ∧ ∀ d ∈ ds, PDk n d) ∧ Same H H') ?_ (fun i H' hi h => SqL.of (h.2 _ _ hmb)) (fun i x H' hx h => ?_) (fun H' h => ?_)
    · exact ⟨⟨[], [], upd_same, .nil, rfl, fun d hd => absurd hd List.not_mem_nil⟩, fun b o e => z4 _ _ (z1 _ _ e)⟩
    · obtain ⟨⟨us, ds, hD, hds, hdl, hpl⟩, hs⟩ := h
      obtain ⟨dx, hdx, hrx⟩ := hmd.getV hx
      rw [List.getElem?_map] at hdx
      obtain ⟨⟨qk, qw⟩, hq, rfl⟩ := Option.map_eq_some_iff.mp hdx
      have hqm : (qk, qw) ∈ ps := List.mem_of_getElem? hq
      have hil : i < ps.length := (List.getElem?_eq_some_iff.mp hq).1
      obtain ⟨b, xs, rfl, hb', hx'⟩ := (hrx.kt (.of hs)).tup_inv
      obtain ⟨x1, y1, rfl, k1, hx'⟩ := hx'.cons_inv
      obtain ⟨x2, y2, rfl, k2, hx'⟩ := hx'.cons_inv
      cases hx'
      cases k1.int_inv
      cases k2.int_inv
      obtain ⟨n', hn', e, he, hg1, hg2, hg3, hb1, hb2⟩ : ∃ n', n = n' + 1 ∧ ∃ e, es[qk]? = some e ∧ Rk es n' e ∧ e.ht ≤ 4 ∧ e.sc ≤ 5 ∧ -100000000000000000000 ≤ qw ∧ qw ≤ 100000000000000000000 := by
        cases n with
        | zero =>
          obtain ⟨_, _, e, _, z⟩ := hrk.2 _ hqm
          exact z.elim
        | succ n' =>
          obtain ⟨b1, b2, e, he, g1, g2, g3⟩ := hrk.2 _ hqm
          exact ⟨n', rfl, e, he, g1, g2, g3, b1, b2⟩
      subst hn'
      obtain rfl := hE4 n' rfl
      have hte := (hes e (List.mem_of_getElem? he)).2
      obtain ⟨pvs, pv_, hLs, hat, hthe⟩ := (hL.keep (.of hs)).at he
      have hul : us.length = i := by rw [hds.length, hdl]
      refine ⟨b, _, rfl, SqT.of hb', rfl, _, _, rfl, _, _, rfl, rfl, rfl, ?_⟩
      refine ⟨_, rfl, _, rfl, _, rfl, L, pvs, _, _, rfl, rfl, SqL.of hLs, hat, L, _, e, rfl, ⟨p, hL.keep (.of hs), hthe⟩, hg1, hg2, by omega, hte, hes, fun v6 d6 H6 s6 hd6 hf6 => ?_⟩
      refine ⟨_, rfl, by show 2 ≤ sizeLine; decide, fun t7 n7 => ?_⟩
      have z7 := same_upd (o := .tup [v6, .int qw]) n7
      have hD7 := z7 _ _ (s6 _ _ hD)
      have kt7 : KT _ (upd (upd H6 t7 (.tup [v6, .int qw])) D4 (.lst (us ++ [.ref t7]))) := KT.set hD7 fun ys z => by cases z
      obtain ⟨f6, rfl, a1, a2, a3⟩ := hf6.entry hte hg2 hg3
      refine ⟨us, hD7, small1000 (by omega), ⟨us ++ [.ref t7], ds ++ [.tuple [.tuple f6, .int qw]], upd_same, ((hds.kt (.of fun b o e => z7 _ _ (s6 _ _ e))).kt kt7).append (.cons (.tup (kt7 _ _ upd_same) (.cons ((hd6.kt (.of z7)).kt kt7) (.cons (.int _) .nil))) .nil), by rw [List.length_append, hdl]; rfl, fun d hd => ?_⟩, fun b o e => ?_⟩
      · rcases List.mem_append.mp hd with hd | hd
        · exact hpl d hd
        · rw [List.mem_singleton] at hd
          exact ⟨n', f6, qw, rfl, hd, a1, a2, a3, Nat.lt_of_le_of_lt (show qw.natAbs ≤ 10 ^ 20 by omega) (by decide)⟩
      · rw [upd_ne (ne_of_none e nD)]
        exact z7 _ _ (s6 _ _ (hs _ _ e))
    obtain ⟨⟨us, ds, hD, hds, hdl, hpl⟩, hs⟩ := h
    rw [hlen] at hdl
    have hgd : ∀ d ∈ ds, GD d ∧ d.depth ≤ 60 := fun d hd => by
      obtain ⟨n', f6, w6, rfl, rfl, a1, a2, a3, a4⟩ := hpl d hd
      obtain ⟨b1, _, b3, _⟩ := pair_ok (by omega) a1 a2 a3 a4
      exact ⟨b1, by omega⟩
    -- the pairs under their texts
    refine ⟨_, rfl, D4, rfl, ⟨_, SqL.of hD⟩, fun D5 d5 => ?_⟩
    have z5 := same_upd (o := .lst []) d5
    have nD5 : H D5 = none := none_back hs d5
    have hul : us.length = ds.length := hds.length
    refine lc_list (K := K) (a := D4) (xs := us) (fun i H2 => (∃ ws, H2 D5 = some (.lst ws) ∧ DRs H2 ws ((ds.take i).map fun d => mkD (d.shown, d)) ∧ ws.length = i) ∧ Same H' H2) ?_ (fun i H2 hi h => SqL.of (h.2 _ _ hD)) (fun i x H2 hx h => ?_) (fun H2 h => ?_)
    · exact ⟨⟨[], upd_same, .nil, rfl⟩, z5⟩
    · obtain ⟨⟨ws, hW, hws, hwl⟩, hs2⟩ := h
      obtain ⟨d, hd, hrx⟩ := hds.getV hx
      have hdm := List.mem_of_getElem? hd
      have hil : i < ds.length := (List.getElem?_eq_some_iff.mp hd).1
      obtain ⟨n', f6, w6, hn', rfl, a1, a2, a3, a4⟩ := hpl d hdm
      obtain ⟨_, _, _, c1, c2, c3⟩ := pair_ok (n := n') (by omega) a1 a2 a3 a4
      refine ⟨rfl, _, rfl, _, _, rfl, hrx.kt (.of hs2), c1, c2, c3, _, rfl, by show 2 ≤ sizeLine; decide, fun t7 n7 => ?_⟩
      have z7 := same_upd (o := .tup [.str (PyData.tuple [.tuple f6, .int w6]).shown, x]) n7
      have hW7 := z7 _ _ hW
      have kt7 : KT _ (upd (upd H2 t7 (.tup [.str (PyData.tuple [.tuple f6, .int w6]).shown, x])) D5 (.lst (ws ++ [.ref t7]))) := KT.set hW7 fun ys z => by cases z
      refine ⟨ws, hW7, small1000 (by omega), ⟨ws ++ [.ref t7], upd_same, ?_, by rw [List.length_append, hwl]; rfl⟩, fun b o e => ?_⟩
      · rw [List.take_add_one, hd, List.map_append]
        exact ((hws.kt (.of z7)).kt kt7).append (.cons (.tup (kt7 _ _ upd_same) (.cons (.str _) (.cons (((hrx.kt (.of hs2)).kt (.of z7)).kt kt7) .nil))) .nil)
      · rw [upd_ne (ne_of_none e d5)]
        exact z7 _ _ (hs2 _ _ e)
    obtain ⟨⟨ws, hW, hws, hwl⟩, hs2⟩ := h
    rw [hul, List.take_length] at hws
    have hbs : (ds.map fun d => mkD (d.shown, d)) = (ds.map fun d => (d.shown, d)).map mkD := by rw [List.map_map]; rfl
    rw [hbs] at hws
    refine ⟨D5, ws, ds.map fun d => (d.shown, d), rfl, hW, hws, fun b hb1 b' hb2 e => ?_, fun b hb1 => ?_, fun b hb1 => ?_, fun p6 us6 bs6 hp6 hl6 hd6 n6 => ?_⟩
    · obtain ⟨d, hd, rfl⟩ := List.mem_map.mp hb1
      obtain ⟨d', hd', rfl⟩ := List.mem_map.mp hb2
      exact shown_inj (hgd d hd).1 (hgd d' hd').1 e
    · obtain ⟨d, hd, rfl⟩ := List.mem_map.mp hb1
      exact gd_alike d (hgd d hd).1
    · obtain ⟨d, hd, rfl⟩ := List.mem_map.mp hb1
      exact (hgd d hd).2
    have z6 := same_upd (o := .lst us6) n6
    refine ⟨p6, rfl, ⟨_, SqL.of upd_same⟩, fun D7 d7 => ?_⟩
    have z7 := same_upd (o := .lst []) d7
    have hp6' : upd H2 p6 (.lst us6) p6 = some (.lst us6) := upd_same
    have nD7 : H2 D7 = none := none_back z6 d7
    have hbl : bs6.length = ds.length := by rw [hp6.length_eq, List.length_map]
    refine lc_list (K := K) (a := p6) (xs := us6) (fun i H3 => (∃ ws, H3 D7 = some (.lst ws) ∧ DRs H3 ws ((bs6.take i).map (·.2)) ∧ ws.length = i) ∧ H3 p6 = some (.lst us6) ∧ Same H2 H3) ?_ (fun i H3 hi h => SqL.of h.2.1) (fun i x H3 hx h => ?_) (fun H3 h => ?_)
    · exact ⟨⟨[], upd_same, .nil, rfl⟩, z7 _ _ hp6', fun b o e => z7 _ _ (z6 _ _ e)⟩
    · obtain ⟨⟨ws7, hW, hws7, hwl7⟩, hp3, hs3⟩ := h
      obtain ⟨dx, hdx, hrx⟩ := hd6.getV hx
      rw [List.getElem?_map] at hdx
      obtain ⟨⟨bm, bd⟩, hq, rfl⟩ := Option.map_eq_some_iff.mp hdx
      have hil : i < bs6.length := (List.getElem?_eq_some_iff.mp hq).1
      obtain ⟨b, xs, rfl, hb', hx'⟩ := (hrx.kt (.of hs3)).tup_inv
      obtain ⟨x1, y1, rfl, k1, hx'⟩ := hx'.cons_inv
      obtain ⟨x2, y2, rfl, k2, hx'⟩ := hx'.cons_inv
      cases hx'
      have kt7 : KT _ (upd H3 D7 (.lst (ws7 ++ [x2]))) := KT.set hW fun ys z => by cases z
      have pD : p6 ≠ D7 := ne_of_none hp6' d7
      refine ⟨b, _, rfl, SqT.of hb', rfl, _, _, rfl, _, _, rfl, rfl, rfl, _, rfl, ws7, hW, small1000 (by omega), ⟨ws7 ++ [x2], upd_same, ?_, by rw [List.length_append, hwl7]; rfl⟩, by rw [upd_ne pD]; exact hp3, fun b o e => ?_⟩
      · rw [List.take_add_one, hq, List.map_append]
        exact (hws7.kt kt7).append (.cons (k2.kt kt7) .nil)
      · rw [upd_ne (ne_of_none e nD7)]
        exact hs3 _ _ e
    obtain ⟨⟨ws7, hW, hws7, hwl7⟩, hp3, hs3⟩ := h
    have hul6 : us6.length = bs6.length := by rw [hd6.length, List.length_map]
    rw [hul6, List.take_length] at hws7
    refine ⟨D7, ws7, rfl, .inl ⟨SqL.of hW, fun t8 n8 => ?_⟩⟩
    have z8 := same_upd (o := .tup ws7) n8
    have s8 : Same H _ := fun b o e => z8 _ _ (hs3 _ _ (hs2 _ _ (hs _ _ e)))
    refine ⟨_, rfl, va, _, _, _, rfl, rfl, SqT.of (s8 _ _ hma), rfl, by show 3 ≤ sizeLine; decide, fun t9 n9 => ?_⟩
    have z9 := same_upd (o := .tup [V.str "sum", .ref t8, .int m]) n9
    have hm20 : m.natAbs < 10 ^ 150 := Nat.lt_of_le_of_lt (show m.natAbs ≤ 10 ^ 20 from hb) (by decide)
    refine q (.ref t9) (.tuple [.str "sum", .tuple (bs6.map (·.2)), .int m]) _ (fun b o e => z9 _ _ (s8 _ _ e)) (.tup upd_same (.cons (.str _) (.cons (.tup (z9 _ _ upd_same) ((hws7.kt (.of z8)).kt (.of z9))) (.cons (.int _) .nil)))) ?_
    have hmem : ∀ d ∈ bs6.map (·.2), d ∈ ds := fun d hd => by
      obtain ⟨b, hb1, rfl⟩ := List.mem_map.mp hd
      obtain ⟨d, hd', rfl⟩ := List.mem_map.mp (hp6.mem_iff.mp hb1)
      exact hd'
    have hl4 : (bs6.map (·.2)).length ≤ 4 := by rw [List.length_map]; omega
    cases n with
    | zero =>
      refine (sumF0_ok ?_ hm20).sum_any
      cases hds0 : bs6.map (·.2) with
      | nil => rfl
      | cons d r =>
        obtain ⟨n', _, _, z, _⟩ := hpl d (hmem d (by rw [hds0]; exact List.mem_cons_self ..))
        omega
    | succ n =>
      refine (sumF_ok (n := n) hl4 (fun d hd => ?_) hm20).sum_any
      obtain ⟨n', f6, w6, hn', rfl, a1, a2, a3, a4⟩ := hpl d (hmem d hd)
      obtain ⟨b1, b2, b3, _⟩ := pair_ok (n := n') (by omega) a1 a2 a3 a4
      have : n' = n := by omega
      subst this
      exact ⟨b1, b2, b3⟩
  have nw2 : inV (V.str th.word) [V.str (Str.ofString "name"), V.str (Str.ofString "row")] = false := nomem2 w1 w2
  refine ite2 (fun c => absurd (show inV (V.str th.word) [V.str (Str.ofString "name"), V.str (Str.ofString "row")] = true from c) (by rw [nw2]; decide)) (fun _ => ?_)
  refine ⟨_, rfl, va, _, _, _, rfl, rfl, SqT.of (z1 _ _ hva), atI_head _ _, rfl, _, rfl, ite2 (fun c => absurd c (by rw [eqs_false w3]; decide)) (fun _ => ?_)⟩
  refine ⟨_, rfl, va, _, _, _, rfl, rfl, SqT.of (z1 _ _ hva), atI_head _ _, rfl, _, rfl, ite2 (fun c => absurd c (by rw [eqs_false w4]; decide)) (fun _ => ?_)⟩
  obtain ⟨va', vs0, e, hva', hvl, hv1, hv3, hvp⟩ := hth.parts hm
  cases e
  rw [hva] at hva'
  cases hva'
  have hva1 := z1 _ _ hva
  refine ⟨_, rfl, _, rfl, va, _, rfl, SqT.of hva1, fun wh => ?_, fun _ t2 n2 => ?_⟩
  · exfalso
    have e2 := wh.2
    rw [show (some (1 : Int)) = some ((1 : Nat) : Int) from rfl, HT.sIx_nat] at e2
    rw [List.length_cons] at e2
    omega
  have z2 := same_upd (o := .tup (cutV (V.str th.word :: vrest) none (some 1))) n2
  have ecut1 : cutV (V.str th.word :: vrest) none (some 1) = [V.str th.word] := cut_lo (n := 1) _ (by simp)
  have ecut2 : cutV (V.str th.word :: vrest) (some 1) none = vrest := cut_hi (n := 1) _ (by simp)
  refine ⟨_, rfl, _, rfl, va, _, rfl, SqT.of (z2 _ _ hva1), fun wh => ?_, fun _ t3 n3 => ?_⟩
  · exfalso
    have e2 := wh.1
    rw [show (some (1 : Int)) = some ((1 : Nat) : Int) from rfl, HT.sIx_nat, List.length_cons] at e2
    omega
  have z3 := same_upd (o := .tup (cutV (V.str th.word :: vrest) (some 1) none)) n3
  refine ⟨t3, rfl, ⟨_, SqT.of upd_same⟩, fun D4 d4 => ?_⟩
  have z4 := same_upd (o := .lst []) d4
  have sm4 : Same H _ := fun b o e => z4 _ _ (z3 _ _ (z2 _ _ (z1 _ _ e)))
  have nD : H D4 = none := by
    cases e : H D4 with
    | none => rfl
    | some o =>
      rw [z3 _ _ (z2 _ _ (z1 _ _ e))] at d4
      cases d4
  have t34 : t3 ≠ D4 := ne_of_none (show upd _ t3 (.tup (cutV (V.str th.word :: vrest) (some 1) none)) t3 = some _ from upd_same) d4
  refine lc_tup (K := K) (a := t3) (xs := vrest) (fun i H' => H' t3 = some (.tup vrest) ∧ H' t2 = some (.tup [V.str th.word]) ∧ (∃ us ds, H' D4 = some (.lst us) ∧ DRs H' us ds ∧ ds.length = i ∧ ∀ (j : Nat) (x : Th ⊕ Int) (d : PyData), j < i → th.parts[j]? = some x → ds[j]? = some d → PFm n 0 x d) ∧ Same H H') ?_ (fun i H' hi h => SqT.of h.1) (fun i x H' hx h => ?_) (fun H' h => ?_)
  · refine ⟨z4 _ _ (by rw [upd_same, ecut2]), ?_, ⟨[], [], upd_same, .nil, rfl, fun j x d hj => absurd hj (Nat.not_lt_zero j)⟩, sm4⟩
    have e1 : upd (upd H t1 (.tup [V.str "name", .str "row"])) t2 (.tup (cutV (V.str th.word :: vrest) none (some 1))) t2 = some (.tup [V.str th.word]) := by rw [upd_same, ecut1]
    exact z4 _ _ (z3 _ _ e1)
  · obtain ⟨h3, h2, ⟨us, ds, hD, hds, hdl, hpl⟩, hk⟩ := h
    have hiv : i < vrest.length := (List.getElem?_eq_some_iff.mp hx).1
    obtain ⟨y, hy⟩ : ∃ y, th.parts[i]? = some y := ⟨_, List.getElem?_eq_getElem (by omega)⟩
    have hpr := (hvp i x y hx hy).keep (.of hk)
    have hul : us.length = i := by rw [hds.length, hdl]
    have put : ∀ (v6 : V) (d6 : PyData) (H6 : Hp), DR H6 v6 d6 → PFm n 0 y d6 → Same H' H6 → ∃ acc, H6 D4 = some (.lst acc) ∧ acc.length < sizeLine ∧ upd H6 D4 (.lst (acc ++ [v6])) t3 = some (.tup vrest) ∧ upd H6 D4 (.lst (acc ++ [v6])) t2 = some (.tup [V.str th.word]) ∧
        (∃ us ds, upd H6 D4 (.lst (acc ++ [v6])) D4 = some (.lst us) ∧ DRs (upd H6 D4 (.lst (acc ++ [v6]))) us ds ∧ ds.length = i + 1 ∧ ∀ (j : Nat) (x : Th ⊕ Int) (d : PyData), j < i + 1 → th.parts[j]? = some x → ds[j]? = some d → PFm n 0 x d) ∧ Same H (upd H6 D4 (.lst (acc ++ [v6]))) := fun v6 d6 H6 hd6 hs6 k6 => by
      have hD6 := k6 _ _ hD
      have kt6 : KT H6 (upd H6 D4 (.lst (us ++ [v6]))) := KT.set hD6 fun ys z => by cases z
      refine ⟨us, hD6, small1000 (by omega), kt6 _ _ (k6 _ _ h3), kt6 _ _ (k6 _ _ h2), ⟨us ++ [v6], ds ++ [d6], upd_same, ((hds.kt (.of k6)).kt kt6).append (.cons (hd6.kt kt6) .nil), by rw [List.length_append, hdl]; rfl, fun j x d hj hxj hd => ?_⟩, fun b o e => ?_⟩
      · by_cases hji : j < i
        · rw [List.getElem?_append_left (by omega)] at hd
          exact hpl j x d hji hxj hd
        · have e : j = i := by omega
          subst e
          rw [List.getElem?_append_right (by omega), hdl, Nat.sub_self] at hd
          cases hd
          rw [hy] at hxj
          cases hxj
          exact hs6
      · rw [upd_ne (ne_of_none e nD)]
        exact k6 _ _ (hk _ _ e)
    cases y with
    | inl ty =>
      obtain ⟨ha, _⟩ := parts_ht (List.mem_of_getElem? hy)
      obtain ⟨pa, prest, rfl, hpa⟩ := ThR.word hpr
      obtain ⟨h', hh'⟩ : ∃ h', h = h' + 1 := ⟨h - 1, by omega⟩
      refine ⟨rfl, _, rfl, _, _, _, _, _, rfl, .ty "tuple", .base (.tup hpa), kit_ty (b := "tuple") (r := true) (by decide +kernel), _, rfl, ?_⟩
      refine ⟨_, rfl, _, rfl, ?_⟩
      rw [hE h' hh']
      exact ⟨L, _, ty, rfl, ⟨p, hL.keep (.of hk), hpr⟩, parts_rk hrk (List.mem_of_getElem? hy), by omega, hn2, parts_thb hb (List.mem_of_getElem? hy), hes, fun v6 d6 H6 s6 ht6 hs6 => put v6 _ H6 ht6 hs6 s6⟩
    | inr ky =>
      have e : x = .int ky := hpr
      subst e
      refine ⟨rfl, _, rfl, _, _, _, _, _, rfl, .ty "tuple", .base (.int ky), kit_ty (b := "tuple") (r := false) (by decide +kernel), _, rfl, ?_⟩
      exact ⟨_, rfl, put _ (.int ky) H' (.int ky) rfl fun _ _ e => e⟩
  · obtain ⟨h3, h2, ⟨us, ds, hD, hds, hdl, hpl⟩, hk⟩ := h
    refine ⟨D4, us, rfl, .inl ⟨SqL.of hD, fun t5 n5 => ?_⟩⟩
    have z5 := same_upd (o := .tup us) n5
    have hul : us.length = vrest.length := by rw [hds.length, hdl]
    refine ⟨t2, t5, [V.str th.word], us, rfl, rfl, SqT.of (z5 _ _ h2), SqT.of upd_same, small20 (by rw [List.length_singleton]; omega), fun z => absurd z (by simp), fun _ z => ?_, fun _ _ t6 n6 => ?_⟩
    · rw [z] at hul
      simp at hul
      omega
    have z6 := same_upd (o := .tup ([V.str th.word] ++ us)) n6
    have hf := parts_form (n := n) (h := 0) hm hb (ds := ds) (by rw [hdl]; omega) fun i x d hx hd => hpl i x d (by rw [← hdl]; exact (List.getElem?_eq_some_iff.mp hd).1) hx hd
    refine q _ _ _ (fun b o e => z6 _ _ (z5 _ _ (hk _ _ e))) ?_ hf
    exact .tup upd_same (.cons (.str _) ((hds.kt (.of z5)).kt (.of z6)))
end
end Lw
/-! Part C4: all spellings of a thing have the shape's weights. Plain. -/
namespace Lw
open PySem PySem.Spec L2 PyProof.Rows
theorem sum_map_congr {α : Type} {f g : α → Int} : ∀ {l : List α}, (∀ x ∈ l, f x = g x) → (l.map f).sum = (l.map g).sum := fun h => by rw [List.map_congr_left h]
theorem comb_lin {φ : Tm → Int} (ha : ∀ t u, φ (.add t u) = φ t + φ u) (hm : ∀ n t, φ (.mul n t) = n * φ t) : ∀ {d : Nat} {L : List Lf} {t : Tm}, Comb d L t → φ t = (L.map fun x => x.2.2 * φ x.2.1).sum
  | _, _, _, .one d k a => by simp
  | _, _, _, .neg d k a w => by
    rw [hm, hm]
    show _ = w * φ a + 0
    rw [Int.add_zero, ← Int.mul_assoc]
    congr 1
    omega
  | _, _, _, .mul d k a w => by
    rw [hm]
    show _ = w * φ a + 0
    rw [Int.add_zero]
  | _, _, _, .add (L := L) (M := M) h1 h2 => by rw [ha, comb_lin ha hm h1, comb_lin ha hm h2, List.map_append, sum_app]
  | _, _, _, .nadd (L := L) (M := M) h1 h2 => by
    have e : ∀ L : List Lf, ((turned (-1) L).map fun x => x.2.2 * φ x.2.1).sum = -1 * (L.map fun x => x.2.2 * φ x.2.1).sum := by
      intro L
      induction L with
      | nil => rfl
      | cons x L ih =>
        unfold turned at ih ⊢
        rw [List.map_cons, List.map_cons, List.sum_cons, ih, List.map_cons, List.sum_cons, Int.mul_add]
        congr 1
        show -1 * x.2.2 * φ x.2.1 = _
        rw [Int.mul_assoc]
    rw [hm, ha, comb_lin ha hm h1, comb_lin ha hm h2, e, e, List.map_append, sum_app]
    omega
theorem comb_all {P : Tm → Prop} (ha : ∀ t u, P t → P u → P (.add t u)) (hm : ∀ n t, P t → P (.mul n t)) : ∀ {d : Nat} {L : List Lf} {t : Tm}, Comb d L t → (∀ x ∈ L, P x.2.1) → P t
  | _, _, _, .one d k a, h => h _ (List.mem_cons_self ..)
  | _, _, _, .neg d k a w, h => hm _ _ (hm _ _ (h _ (List.mem_cons_self ..)))
  | _, _, _, .mul d k a w, h => hm _ _ (h _ (List.mem_cons_self ..))
  | _, _, _, .add h1 h2, h => ha _ _ (comb_all ha hm h1 fun x hx => h x (List.mem_append_left _ hx)) (comb_all ha hm h2 fun x hx => h x (List.mem_append_right _ hx))
  | _, _, _, .nadd h1 h2, h => by
    have e : ∀ {L : List Lf}, (∀ x ∈ L, P x.2.1) → ∀ x ∈ turned (-1) L, P x.2.1 := fun h x hx => by
      obtain ⟨y, hy, rfl⟩ := List.mem_map.mp hx
      exact h y hy
    exact hm _ _ (ha _ _ (comb_all ha hm h1 (e fun x hx => h x (List.mem_append_left _ hx))) (comb_all ha hm h2 (e fun x hx => h x (List.mem_append_right _ hx))))
theorem bal_lin {φ : Tm → Int} {u : Int} (ha : ∀ t u, φ (.add t u) = φ t + φ u) (hm : ∀ n t, φ (.mul n t) = n * φ t) (hnum : ∀ m, φ (.num m) = m * u) {L : List Lf} {ps : List (Nat × Int)} {n : Int} {t : Tm} (hb : Bal L ps n) (hc : Comb 4 L t) (ck : Nat → Int)
    (h1 : ∀ x ∈ L, 0 ≤ x.1 → φ x.2.1 = ck x.1.toNat) (h2 : ∀ x ∈ L, x.1 < 0 → ∃ m, x.2.1 = .num m) : φ t = (ps.map fun q => q.2 * ck q.1).sum + n * u := by
  rw [comb_lin ha hm hc, ← hb ck u]
  refine sum_map_congr fun x hx => ?_
  unfold lv
  by_cases h : x.1 < 0
  · obtain ⟨m, e⟩ := h2 x hx h
    rw [if_pos h, e, hnum]
  · rw [if_neg h, h1 x hx (by omega)]
structure Lq (x y : LF) : Prop where
  g : GF x.1
  w : ∀ m, wt m x.1 = wt m y.1
  n : x.2 = y.2
def lf (t : Tm) : LF := (ats t, nb t)
theorem Lq.sf {x y : LF} (h : Lq x y) (g : GF y.1) (s : SmW y.1) : sf x = sf y := sform_eq h.g g (fun m => by rw [h.w]; exact s m) h.w h.n
theorem gf_one {a : Tm} {f : List PyData} (h : GDs f) : GF [⟨a, 1, f⟩] := fun e he => by
  rw [List.mem_singleton] at he
  rw [he]; exact h
theorem wt_one {m : Str} {a b : Tm} {f : List PyData} : wt m [⟨a, 1, f⟩] = wt m [⟨b, 1, f⟩] := rfl
def GS (f : List PyData) : Prop := GDs f ∧ dT f ≤ 40 ∧ sT f ≤ 2000000
/-- all atoms of it, at any depth, have good forms -/
def Hg : Tm → Prop
  | .num _ => True
  | .name l => GS (inn (.name l))
  | .add t u => Hg t ∧ Hg u
  | .mul _ t => Hg t
  | .read r t => Hg r ∧ Hg t ∧ GS (inn (.read r t))
  | .size r => Hg r ∧ GS (inn (.size r))
  | .div t k => Hg t ∧ GS (inn (.div t k))
  | .mod t k => Hg t ∧ GS (inn (.mod t k))
  | .row l => GS (inn (.row l))
  | .wth r t u => Hg r ∧ Hg t ∧ Hg u ∧ GS (inn (.wth r t u))
  | .room t => Hg t ∧ GS (inn (.room t))
/-- of such a rank, such a depth -/
def Sml (n : Nat) (th : Th) : Prop := th.ht ≤ 4 ∧ th.sc ≤ 5 ∧ (n ≤ 2 ∨ n ≤ 3 ∧ th.isSum = true)
section
variable {es : List Th} {cn : Key → LF} {nm : Key → Tm → Prop}
theorem sm_flat (c : Str → Int) {G : Th → LF} : ∀ ps : List (Nat × Int), sm c (ps.flatMap fun q => (gE es G q.1).1.map (Ent.scl q.2)) = (ps.map fun q => q.2 * sm c (gE es G q.1).1).sum
  | [] => rfl
  | q :: ps => by rw [List.flatMap_cons, sm_app, sm_scl, sm_flat c ps, List.map_cons, List.sum_cons]
/-- what is placed for k: a name's own shape, or the entry's -/
def gK (es : List Th) (cn : Key → LF) (G : Th → LF) (k : Nat) : LF := match es[k]? with
  | some (.nam l) => cn l
  | some e => G e
  | none => ([], 0)
theorem gK_nam {G : Th → LF} {k : Nat} {l : Key} (h : es[k]? = some (.nam l)) : gK es cn G k = cn l := by unfold gK; rw [h]
theorem gK_en {G : Th → LF} {k : Nat} {e : Th} (h : es[k]? = some e) (q : ∀ l, e ≠ .nam l) : gK es cn G k = G e := by
  unfold gK
  rw [h]
  cases e <;> first | rfl | exact absurd rfl (q _)
theorem gK_gE {n : Nat} {k : Nat} : gK es cn (cF es cn (n + 1)) k = gE es (cF es cn (n + 1)) k := by
  unfold gK gE
  cases es[k]? with
  | none => rfl
  | some e => cases e <;> rfl
theorem rk_gE {n : Nat} {ps : List (Nat × Int)} {m : Int} (h : Rk es n (.sum ps m)) : ∀ q ∈ ps, gK es cn (cF es cn n) q.1 = gE es (cF es cn n) q.1 := by
  cases n with
  | zero =>
    intro q hq
    obtain ⟨_, _, e, _, z⟩ := h.2 q hq
    exact z.elim
  | succ n => exact fun q _ => gK_gE
/-- a leaf has the shape that is placed for it -/
theorem leaf_lf {n : Nat} {ps : List (Nat × Int)} {m : Int} (h : Rk es n (.sum ps m)) {R : LF → LF → Prop} {x : Lf} {e : Th} (he : es[x.1.toNat]? = some e) (hx : (∃ w, (x.1.toNat, w) ∈ ps) ∨ ∃ l, e = .nam l)
    (ih : ∀ n', Rk es n' e → (n' + 1 = n ∧ e.ht ≤ 4 ∧ e.sc ≤ 5 ∨ n' = 0 ∧ ∃ l, e = .nam l) → R (lf x.2.1) (cf es cn (cF es cn n') e)) : R (lf x.2.1) (gK es cn (cF es cn n) x.1.toNat) := by
  by_cases q : ∃ l, e = .nam l
  · obtain ⟨l, rfl⟩ := q
    rw [gK_nam he]
    exact ih 0 trivial (.inr ⟨rfl, l, rfl⟩)
  · rw [gK_en he fun l z => q ⟨l, z⟩]
    obtain ⟨w, hw⟩ := hx.resolve_right q
    cases n with
    | zero =>
      obtain ⟨_, _, e', _, z⟩ := h.2 _ hw
      exact z.elim
    | succ n =>
      obtain ⟨_, _, e', he', z⟩ := h.2 _ hw
      rw [he] at he'
      cases he'
      exact ih n z.1 (.inl ⟨rfl, z.2⟩)
theorem sm_ats_add (c : Str → Int) (t u : Tm) : sm c (ats (.add t u)) = sm c (ats t) + sm c (ats u) := sm_app c _ _
theorem sm_ats_mul (c : Str → Int) (n : Int) (t : Tm) : sm c (ats (.mul n t)) = n * sm c (ats t) := sm_scl c n _
theorem gf_add (t u : Tm) (h1 : GF (ats t)) (h2 : GF (ats u)) : GF (ats (.add t u)) := fun e he => by
  rcases List.mem_append.mp he with he | he
  · exact h1 e he
  · exact h2 e he
theorem gf_mul (n : Int) (t : Tm) (h : GF (ats t)) : GF (ats (.mul n t)) := fun e he => by
  obtain ⟨y, hy, rfl⟩ := List.mem_map.mp he
  exact h y hy
theorem sum_lf {n : Nat} {ps : List (Nat × Int)} {m : Int} {L : List Lf} {t : Tm} (hr : Rk es n (.sum ps m)) (hb : Bal L ps m) (hc : Comb 4 L t) (h1 : ∀ x ∈ L, 0 ≤ x.1 → Lq (lf x.2.1) (gK es cn (cF es cn n) x.1.toNat)) (h2 : ∀ x ∈ L, x.1 < 0 → ∃ m, x.2.1 = .num m) :
    Lq (lf t) (cf es cn (cF es cn n) (.sum ps m)) := by
  refine ⟨?_, fun k => ?_, ?_⟩
  · refine comb_all (P := fun t => GF (ats t)) gf_add gf_mul hc fun x hx => ?_
    by_cases h : x.1 < 0
    · obtain ⟨m, e⟩ := h2 x hx h
      rw [e]
      exact fun e he => absurd he List.not_mem_nil
    · exact (h1 x hx (by omega)).g
  · have := bal_lin (φ := fun t => sm (one k) (ats t)) (u := 0) (sm_ats_add _) (sm_ats_mul _) (fun m => by rw [Int.mul_zero]; rfl) hb hc (fun i => sm (one k) (gK es cn (cF es cn n) i).1) (fun x hx h0 => (h1 x hx h0).w k) h2
    show sm (one k) (ats t) = sm (one k) _
    rw [show sm (one k) (ats t) = _ from this, Int.mul_zero, Int.add_zero]
    show _ = sm (one k) (ps.flatMap fun q => (gE es (cF es cn n) q.1).1.map (Ent.scl q.2))
    rw [sm_flat]
    refine sum_map_congr fun q hq => ?_
    rw [rk_gE hr q hq]
  · have := bal_lin (φ := nb) (u := 1) (fun _ _ => rfl) (fun _ _ => rfl) (fun m => (Int.mul_one m).symm) hb hc (fun i => (gK es cn (cF es cn n) i).2) (fun x hx h0 => (h1 x hx h0).n) h2
    show nb t = (ps.map fun q => q.2 * (gE es (cF es cn n) q.1).2).sum + m
    rw [this, Int.mul_one]
    congr 1
    refine sum_map_congr fun q hq => ?_
    rw [rk_gE hr q hq]
/-- a row thing or a number thing that is one atom: its form -/
theorem atom_lf {x : LF} {a : Tm} {t : Tm} {f : List PyData} (ht : ats t = [⟨t, 1, f⟩]) (hn : nb t = 0) (hx : x = ([⟨a, 1, f⟩], 0)) (g : GF x.1) : Lq (lf t) x ∧ headF (ats t) = headF x.1 := by
  subst hx
  have : GDs f := g _ (List.mem_cons_self ..)
  unfold lf
  rw [ht, hn]
  exact ⟨⟨gf_one this, fun m => wt_one, rfl⟩, rfl⟩
end
end Lw
/-! Part C5: every spelling has the shape of its thing; its atoms have good forms. Plain. -/
namespace Lw
open PySem PySem.Spec L2 PyProof.Rows
section
variable {es : List Th} {cn : Key → LF} {nm : Key → Tm → Prop}
theorem rk_wth {n : Nat} {r s t : Th} (h : Rk es n (.wth r s t)) : Rk es n r ∧ Rk es n s ∧ Rk es n t := by cases n <;> exact h
theorem rk_room {n : Nat} {s : Th} (h : Rk es n (.room s)) : Rk es n s := by cases n <;> exact h
theorem rk_read {n : Nat} {r s : Th} (h : Rk es n (.read r s)) : Rk es n r ∧ Rk es n s := by cases n <;> exact h
theorem rk_size {n : Nat} {r : Th} (h : Rk es n (.size r)) : Rk es n r := by cases n <;> exact h
theorem rk_div {n : Nat} {s : Th} {k : Int} (h : Rk es n (.div s k)) : Rk es n s := by cases n <;> exact h
theorem rk_mod {n : Nat} {s : Th} {k : Int} (h : Rk es n (.mod s k)) : Rk es n s := by cases n <;> exact h
abbrev CC (es : List Th) (cn : Key → LF) (n : Nat) (th : Th) : LF := cf es cn (cF es cn n) th
theorem sum_ok (hes : ∀ e ∈ es, ThE e) (hcn : ∀ l, GD (kd l) → CB 1 3000 (10 ^ 21) (10 ^ 21) (cn l)) {n : Nat} {th : Th} {B : Nat} (hr : Rk es n th) (hb : ThB B th) (hB : B + 4 * 10 ^ 41 < 10 ^ 150) (hs : th.isSum = true) : CB (dS n) (4 * tS n) (4 * 10 ^ 41) (4 * 10 ^ 41 + B) (CC es cn n th) ∧ SmW (CC es cn n th).1 := by
  have h := can_G hes hcn n th B hr hb hB
  obtain ⟨ps, m, rfl⟩ := Th.sum_inv hs
  have h' : CB (dS n) (4 * tS n) (4 * 10 ^ 41) (4 * 10 ^ 41 + B) (CC es cn n (.sum ps m)) := CB.mono h (Nat.le_refl _) (Nat.le_refl _) (by decide) (by omega)
  exact ⟨h', fun k => Nat.lt_of_le_of_lt (Nat.le_trans (wt_Mw k _) h'.m) (by decide)⟩
theorem tS_le : ∀ n, n ≤ 2 → 5 * (4 * tS n + 200) + 2000 ≤ 1500000
  | 0, _ => by decide
  | 1, _ => by decide
  | 2, _ => by decide
  | n + 3, h => by omega
theorem atom_gs {n : Nat} {th : Th} {x : LF} {T : Nat} (h : CB (dS n + 4 + th.ht) (th.sc * (4 * tS n + 200) + 400 * (th.ht + 1)) 1 0 x) (o : ∃ e, x.1 = [e]) (hs : th.ht ≤ 4) (hc : th.sc ≤ 5) (hn : n ≤ 2) : GS (headF x.1) := by
  have p := h.row o
  have h1 := tS_le n hn
  have h2 := Nat.mul_le_mul_right (4 * tS n + 200) hc
  have h3 := p.t
  have h4 := p.d
  refine ⟨p.g, ?_, ?_⟩
  · unfold dS at h4
    omega
  · omega
/-- all of it, of a thing of rank n -/
def Got (es : List Th) (cn : Key → LF) (n : Nat) (th : Th) (t : Tm) : Prop := Lq (lf t) (CC es cn n th) ∧ (th.isRw = true → headF (ats t) = headF (CC es cn n th).1) ∧ Hg t
theorem got_sf (hes : ∀ e ∈ es, ThE e) (hcn : ∀ l, GD (kd l) → CB 1 3000 (10 ^ 21) (10 ^ 21) (cn l)) {n : Nat} {th : Th} {t : Tm} {B : Nat} (hr : Rk es n th) (hb : ThB B th) (hB : B + 4 * 10 ^ 41 < 10 ^ 150) (hs : th.isSum = true) (g : Got es cn n th t) : sform (ats t) (nb t) = sf (CC es cn n th) := by
  obtain ⟨h1, h2⟩ := sum_ok hes hcn hr hb hB hs
  exact g.1.sf h1.g h2
theorem got_atom {n : Nat} {th : Th} {t a : Tm} {f : List PyData} {P : Prop} (hn : nb t = 0) (ht : ats t = [⟨t, 1, f⟩]) (hx : CC es cn n th = ([⟨a, 1, f⟩], 0)) (h : CB (dS n + 4 + th.ht) (th.sc * (4 * tS n + 200) + 400 * (th.ht + 1)) 1 0 (CC es cn n th)) (o : ∃ e, (CC es cn n th).1 = [e]) (hs : th.ht ≤ 4) (hc : th.sc ≤ 5) (hn2 : n ≤ 2)
    (hg : GS (inn t) → Hg t) : Got es cn n th t := by
  obtain ⟨h1, h2⟩ := atom_lf ht hn hx h.g
  refine ⟨h1, fun _ => h2, hg ?_⟩
  unfold inn
  rw [h2]
  exact atom_gs (T := 0) h o hs hc hn2
theorem Sml.n2 {n : Nat} {th : Th} (s : Sml n th) (h : th.isSum = false) : n ≤ 2 := by
  obtain ⟨_, _, a | a⟩ := s
  · exact a
  · rw [h] at a; exact absurd a.2 (by decide)
theorem spl_main (hes : ∀ e ∈ es, ThE e) (hcn : ∀ l, GD (kd l) → CB 1 3000 (10 ^ 21) (10 ^ 21) (cn l)) (hnm : ∀ l t, nm l t → GD (kd l) → Lq (lf t) (cn l) ∧ Hg t) {th : Th} {t : Tm} (s : Spl es nm th t) : ∀ n B, Rk es n th → ThB B th → B + 4 * 10 ^ 41 < 10 ^ 150 → Sml n th → Got es cn n th t := by
  induction s with
  | @nam l t h =>
    intro n B hr hb hB hs
    obtain ⟨h1, h2⟩ := hnm l t h hb
    exact ⟨h1, fun z => Bool.noConfusion z, h2⟩
  | row l =>
    intro n B hr hb hB hs
    obtain ⟨c, o⟩ := can_G hes hcn n _ B hr hb hB
    exact got_atom (P := True) (a := .row l) rfl rfl rfl c o hs.1 hs.2.1 (hs.n2 rfl) fun g => g
  | @wth r s t a b c h1 h2 h3 i1 i2 i3 =>
    intro n B hr hb hB hs
    obtain ⟨cc, o⟩ := can_G hes hcn n _ B hr hb hB
    have hn := hs.n2 rfl
    replace hr := rk_wth hr
    obtain ⟨s1, s2, _⟩ := hs
    have q1 : (Th.wth r s t).ht = max r.ht (max s.ht t.ht) + 1 := rfl
    have q2 : (Th.wth r s t).sc = r.sc + s.sc + t.sc := rfl
    obtain ⟨⟨b1, b2, b3⟩, b4, b5, b6⟩ := hb
    have g1 := i1 n B hr.1 b4 hB ⟨by omega, by omega, .inl hn⟩
    have g2 := i2 n B hr.2.1 b5 hB ⟨by omega, by omega, .inl hn⟩
    have g3 := i3 n B hr.2.2 b6 hB ⟨by omega, by omega, .inl hn⟩
    refine got_atom (P := True) (a := .num 0) (f := [.str "with", .tuple (headF (ats a)), .tuple (sform (ats b) (nb b)), .tuple (sform (ats c) (nb c))]) rfl rfl ?_ cc o s1 s2 hn fun g => ⟨g1.2.2, g2.2.2, g3.2.2, g⟩
    rw [g1.2.1 b1, got_sf hes hcn hr.2.1 b5 hB b2 g2, got_sf hes hcn hr.2.2 b6 hB b3 g3]
    rfl
  | @room s b h i =>
    intro n B hr hb hB hs
    obtain ⟨cc, o⟩ := can_G hes hcn n _ B hr hb hB
    have hn := hs.n2 rfl
    replace hr := rk_room hr
    obtain ⟨s1, s2, _⟩ := hs
    have q1 : (Th.room s).ht = s.ht + 1 := rfl
    have q2 : (Th.room s).sc = s.sc := rfl
    have g2 := i n B hr hb.2 hB ⟨by omega, by omega, .inl hn⟩
    refine got_atom (P := True) (a := .num 0) (f := [.str "room", .tuple (sform (ats b) (nb b))]) rfl rfl ?_ cc o s1 s2 hn fun g => ⟨g2.2.2, g⟩
    rw [got_sf hes hcn hr hb.2 hB hb.1 g2]
    rfl
  | @read r s a b h1 h2 i1 i2 =>
    intro n B hr hb hB hs
    obtain ⟨cc, o⟩ := can_G hes hcn n _ B hr hb hB
    have hn := hs.n2 rfl
    replace hr := rk_read hr
    obtain ⟨s1, s2, _⟩ := hs
    have q1 : (Th.read r s).ht = max r.ht s.ht + 1 := rfl
    have q2 : (Th.read r s).sc = r.sc + s.sc := rfl
    obtain ⟨⟨b1, b2⟩, b4, b5⟩ := hb
    have g1 := i1 n B hr.1 b4 hB ⟨by omega, by omega, .inl hn⟩
    have g2 := i2 n B hr.2 b5 hB ⟨by omega, by omega, .inl hn⟩
    refine got_atom (P := True) (a := .num 0) (f := [.str "read", .tuple (headF (ats a)), .tuple (sform (ats b) (nb b))]) rfl rfl ?_ cc o s1 s2 hn fun g => ⟨g1.2.2, g2.2.2, g⟩
    rw [g1.2.1 b1, got_sf hes hcn hr.2 b5 hB b2 g2]
    rfl
  | @size r a h1 i1 =>
    intro n B hr hb hB hs
    obtain ⟨cc, o⟩ := can_G hes hcn n _ B hr hb hB
    have hn := hs.n2 rfl
    replace hr := rk_size hr
    obtain ⟨s1, s2, _⟩ := hs
    have q1 : (Th.size r).ht = r.ht + 1 := rfl
    have q2 : (Th.size r).sc = r.sc := rfl
    have g1 := i1 n B hr hb.2 hB ⟨by omega, by omega, .inl hn⟩
    refine got_atom (P := True) (a := .num 0) (f := [.str "size", .tuple (headF (ats a))]) rfl rfl ?_ cc o s1 s2 hn fun g => ⟨g1.2.2, g⟩
    rw [g1.2.1 hb.1]
    rfl
  | @div s b k h i =>
    intro n B hr hb hB hs
    obtain ⟨cc, o⟩ := can_G hes hcn n _ B hr hb hB
    have hn := hs.n2 rfl
    replace hr := rk_div hr
    obtain ⟨s1, s2, _⟩ := hs
    have q1 : (Th.div s k).ht = s.ht + 1 := rfl
    have q2 : (Th.div s k).sc = s.sc := rfl
    have g2 := i n B hr hb.2.1 hB ⟨by omega, by omega, .inl hn⟩
    refine got_atom (P := True) (a := .num 0) (f := [.str "div", .tuple (sform (ats b) (nb b)), .int k]) rfl rfl ?_ cc o s1 s2 hn fun g => ⟨g2.2.2, g⟩
    rw [got_sf hes hcn hr hb.2.1 hB hb.1 g2]
    rfl
  | @mod s b k h i =>
    intro n B hr hb hB hs
    obtain ⟨cc, o⟩ := can_G hes hcn n _ B hr hb hB
    have hn := hs.n2 rfl
    replace hr := rk_mod hr
    obtain ⟨s1, s2, _⟩ := hs
    have q1 : (Th.mod s k).ht = s.ht + 1 := rfl
    have q2 : (Th.mod s k).sc = s.sc := rfl
    have g2 := i n B hr hb.2.1 hB ⟨by omega, by omega, .inl hn⟩
    refine got_atom (P := True) (a := .num 0) (f := [.str "mod", .tuple (sform (ats b) (nb b)), .int k]) rfl rfl ?_ cc o s1 s2 hn fun g => ⟨g2.2.2, g⟩
    rw [got_sf hes hcn hr hb.2.1 hB hb.1 g2]
    rfl
  | @sum ps m L t hb hl hw hk hs' hn' hc ih =>
    intro n B hr hb' hB hs
    have h3 : n ≤ 3 := by
      obtain ⟨_, _, a | a⟩ := hs
      · omega
      · exact a.1
    have key : ∀ x ∈ L, 0 ≤ x.1 → ∀ e, es[x.1.toNat]? = some e → ∀ n', Rk es n' e → (n' + 1 = n ∧ e.ht ≤ 4 ∧ e.sc ≤ 5 ∨ n' = 0 ∧ ∃ l, e = .nam l) → Got es cn n' e x.2.1 := fun x hx h0 e he n' hr' hd => by
      refine ih x hx h0 e he n' (10 ^ 20) hr' (hes e (List.mem_of_getElem? he)).2 (by decide) ?_
      rcases hd with ⟨a, b, c⟩ | ⟨rfl, l, rfl⟩
      · exact ⟨b, c, .inl (by omega)⟩
      · exact ⟨by show 0 ≤ 4; omega, by show 0 ≤ 5; omega, .inl (by omega)⟩
    have hnum : ∀ x ∈ L, x.1 < 0 → ∃ m, x.2.1 = .num m := fun x hx h0 => let ⟨m, e, _⟩ := hn' x hx h0; ⟨m, e⟩
    refine ⟨sum_lf hr hb hc (fun x hx h0 => ?_) hnum, fun z => Bool.noConfusion z, comb_all (P := Hg) (fun _ _ a b => ⟨a, b⟩) (fun _ _ a => a) hc fun x hx => ?_⟩
    · obtain ⟨e, he, hd⟩ := hk x hx h0
      exact leaf_lf (R := Lq) hr he hd fun n' hr' hd' => (key x hx h0 e he n' hr' hd').1
    · by_cases h0 : x.1 < 0
      · obtain ⟨m, e⟩ := hnum x hx h0
        rw [e]
        trivial
      · obtain ⟨e, he, hd⟩ := hk x hx (by omega)
        have hgg : ∀ n', Rk es n' e → (n' + 1 = n ∧ e.ht ≤ 4 ∧ e.sc ≤ 5 ∨ n' = 0 ∧ ∃ l, e = .nam l) → Hg x.2.1 := fun n' a b => (key x hx (by omega) e he n' a b).2.2
        exact leaf_lf (cn := cn) (R := fun _ _ => Hg x.2.1) hr he hd fun n' hr' hd' => hgg n' hr' hd'
end
end Lw
/-! Part C6: atoms of one form are worth the same; the sum of the atoms is the term's worth. Plain. -/
namespace Lw
open PySem PySem.Spec L2 PyProof.Rows
/-- atoms weighed by what their terms are worth -/
def sv (tn : Key → Int) (tr : Key → RowF) (l : List Ent) : Int := (l.map fun e => e.w * (tv tn tr e.a).1).sum
section
variable {ns rs : List Key} {tn : Key → Int} {tr : Key → RowF}
theorem sv_app (l m : List Ent) : sv tn tr (l ++ m) = sv tn tr l + sv tn tr m := by unfold sv; rw [List.map_append, sum_app]
theorem sv_cons (e : Ent) (l : List Ent) : sv tn tr (e :: l) = e.w * (tv tn tr e.a).1 + sv tn tr l := by unfold sv; rw [List.map_cons, List.sum_cons]
theorem sv_scl (k : Int) : ∀ l : List Ent, sv tn tr (l.map (Ent.scl k)) = k * sv tn tr l
  | [] => (Int.mul_zero k).symm
  | e :: l => by
    rw [List.map_cons, sv_cons, sv_cons, sv_scl k l, Int.mul_add]
    show k * e.w * _ + _ = _
    rw [Int.mul_assoc]
    rfl
theorem sv_one (a : Tm) (f : List PyData) : sv tn tr [⟨a, 1, f⟩] = (tv tn tr a).1 := by
  rw [sv_cons]
  show 1 * (tv tn tr a).1 + 0 = _
  omega
theorem tv_ats : ∀ t : Tm, Ok ns rs false t → (tv tn tr t).1 = nb t + sv tn tr (ats t)
  | .num n, _ => by show n = n + 0; omega
  | .name l, _ => by rw [show ats (.name l) = [⟨.name l, 1, [.str "name", kd l]⟩] from rfl, sv_one]; show _ = 0 + _; omega
  | .add t u, h => by
    have h1 := tv_ats t h.1
    have h2 := tv_ats u h.2
    show (tv tn tr t).1 + (tv tn tr u).1 = (nb t + nb u) + sv tn tr (ats t ++ ats u)
    rw [sv_app]
    omega
  | .mul n t, h => by
    have h1 := tv_ats t h
    show n * (tv tn tr t).1 = n * nb t + sv tn tr ((ats t).map (Ent.scl n))
    rw [sv_scl, h1, Int.mul_add]
  | .read r t, _ => by rw [show ats (.read r t) = [⟨.read r t, 1, _⟩] from rfl, sv_one]; show _ = 0 + _; omega
  | .size r, _ => by rw [show ats (.size r) = [⟨.size r, 1, _⟩] from rfl, sv_one]; show _ = 0 + _; omega
  | .div t k, _ => by rw [show ats (.div t k) = [⟨.div t k, 1, _⟩] from rfl, sv_one]; show _ = 0 + _; omega
  | .mod t k, _ => by rw [show ats (.mod t k) = [⟨.mod t k, 1, _⟩] from rfl, sv_one]; show _ = 0 + _; omega
/-- what is so of the atoms of a term -/
def AtP (ns rs : List Key) (N : Nat) (e : Ent) : Prop := e.f = inn e.a ∧ e.a.isAtom = true ∧ Ok ns rs false e.a ∧ Hg e.a ∧ e.a.lev ≤ N ∧ GDs e.f
theorem AtP.mono {N N' : Nat} {e : Ent} (h : AtP ns rs N e) (k : N ≤ N') : AtP ns rs N' e := ⟨h.1, h.2.1, h.2.2.1, h.2.2.2.1, Nat.le_trans h.2.2.2.2.1 k, h.2.2.2.2.2⟩
theorem atp_scl {N : Nat} (k : Int) {l : List Ent} (h : ∀ e ∈ l, AtP ns rs N e) : ∀ e ∈ l.map (Ent.scl k), AtP ns rs N e := fun e he => by
  obtain ⟨y, hy, rfl⟩ := List.mem_map.mp he
  exact h y hy
theorem ats_atp : ∀ t : Tm, Ok ns rs false t → Hg t → ∀ e ∈ ats t, AtP ns rs t.lev e
  | .num n, _, _, e, he => absurd he List.not_mem_nil
  | .name l, h, g, e, he => by
    cases List.mem_singleton.mp he
    exact ⟨rfl, rfl, h, g, Nat.le_refl _, g.1⟩
  | .add t u, h, g, e, he => by
    rcases List.mem_append.mp he with he | he
    · exact (ats_atp t h.1 g.1 e he).mono (by show _ ≤ max t.lev u.lev + 1; omega)
    · exact (ats_atp u h.2 g.2 e he).mono (by show _ ≤ max t.lev u.lev + 1; omega)
  | .mul n t, h, g, e, he => (atp_scl n (ats_atp t h g) e he).mono (Nat.le_succ _)
  | .read r t, h, g, e, he => by
    cases List.mem_singleton.mp he
    exact ⟨rfl, rfl, h, g, Nat.le_refl _, g.2.2.1⟩
  | .size r, h, g, e, he => by
    cases List.mem_singleton.mp he
    exact ⟨rfl, rfl, h, g, Nat.le_refl _, g.2.1⟩
  | .div t k, h, g, e, he => by
    cases List.mem_singleton.mp he
    exact ⟨rfl, rfl, h, g, Nat.le_refl _, g.2.1⟩
  | .mod t k, h, g, e, he => by
    cases List.mem_singleton.mp he
    exact ⟨rfl, rfl, h, g, Nat.le_refl _, g.2.1⟩
/-- of one form, of one worth -/
def SameW (ns rs : List Key) (tn : Key → Int) (tr : Key → RowF) (N : Nat) : Prop := ∀ a b : Tm, ∀ q q' : Bool, Ok ns rs q a → Ok ns rs q' b → a.isAtom = true → b.isAtom = true → Hg a → Hg b → a.lev ≤ N → b.lev ≤ N → inn a = inn b → tv tn tr a = tv tn tr b
def cW (tn : Key → Int) (tr : Key → RowF) (l : List Ent) (m : Str) : Int := match l.find? (fun e => decide (e.mk' = m)) with
  | some e => (tv tn tr e.a).1
  | none => 0
theorem cW_eq {N : Nat} (S : SameW ns rs tn tr N) {l : List Ent} (h : ∀ e ∈ l, AtP ns rs N e) {e : Ent} (he : e ∈ l) : cW tn tr l e.mk' = (tv tn tr e.a).1 := by
  unfold cW
  cases q : l.find? (fun x => decide (x.mk' = e.mk')) with
  | none =>
    have := List.find?_eq_none.mp q e he
    simp at this
  | some y =>
    have h1 := List.find?_some q
    have hy := h y (List.mem_of_find?_eq_some q)
    have hh := h e he
    have hm : y.mk' = e.mk' := by simpa using h1
    have hf := mk_inj hy.2.2.2.2.2 hh.2.2.2.2.2 hm
    rw [hy.1, hh.1] at hf
    show (tv tn tr y.a).1 = _
    rw [S y.a e.a false false hy.2.2.1 hh.2.2.1 hy.2.1 hh.2.1 hy.2.2.2.1 hh.2.2.2.1 hy.2.2.2.2.1 hh.2.2.2.2.1 hf]
theorem sv_sm {N : Nat} (S : SameW ns rs tn tr N) {l l' : List Ent} (h : ∀ e ∈ l, AtP ns rs N e) (hs : ∀ e ∈ l', ∃ y ∈ l, e.a = y.a ∧ e.f = y.f) : sv tn tr l' = sm (cW tn tr l) l' := by
  unfold sv sm
  refine sum_map_congr fun e he => ?_
  obtain ⟨y, hy, ha, hf⟩ := hs e he
  have : e.mk' = y.mk' := by unfold Ent.mk'; rw [hf]
  rw [this, cW_eq S h hy, ha]
/-- the merged atoms weigh what the atoms weigh -/
theorem sv_live {N : Nat} (S : SameW ns rs tn tr N) {l : List Ent} (h : ∀ e ∈ l, AtP ns rs N e) : sv tn tr (liveE (mrg l)) = sv tn tr l := by
  rw [sv_sm S h (l' := liveE (mrg l)) (fun e he => mrg_from (live_mem.mp he).1), sv_sm S h (l' := l) (fun e he => ⟨e, he, rfl, rfl⟩), live_sm, mrg_sm]
/-- what a pair weighs -/
def pW (c : Str → Int) : List PyData → Int
  | [.tuple f, .int w] => w * c (PyData.tuple f).shown
  | _ => 0
theorem sm_pairs (c : Str → Int) (l : List Ent) : sm c l = ((l.map pairF).map (pW c)).sum := by
  unfold sm
  rw [List.map_map]
  rfl
theorem perm_sumI {xs ys : List Int} (h : xs.Perm ys) : xs.sum = ys.sum := by
  induction h with
  | nil => rfl
  | cons x _ ih => rw [List.sum_cons, List.sum_cons, ih]
  | swap x y l => rw [List.sum_cons, List.sum_cons, List.sum_cons, List.sum_cons]; omega
  | trans _ _ a b => exact a.trans b
theorem sform_inv {l l' : List Ent} {n n' : Int} (h : sform l n = sform l' n') : ((liveE (mrg l)).map pairF).Perm ((liveE (mrg l')).map pairF) ∧ n = n' := by
  unfold sform at h
  injection h with _ h
  injection h with h1 h2
  injection h2 with h2 _
  injection h2 with h2
  injection h1 with h1
  have e : sortD ((liveE (mrg l)).map pairF) = sortD ((liveE (mrg l')).map pairF) := by
    refine List.map_inj_right (f := PyData.tuple) (fun a b z => ?_) |>.mp h1
    injection z
  have p1 : (sortD ((liveE (mrg l)).map pairF)).Perm _ := List.mergeSort_perm ..
  have p2 : (sortD ((liveE (mrg l')).map pairF)).Perm _ := List.mergeSort_perm ..
  rw [e] at p1
  exact ⟨p1.symm.trans p2, h2⟩
theorem same_sum {N : Nat} (S : SameW ns rs tn tr N) {t u : Tm} (ht : Ok ns rs false t) (hu : Ok ns rs false u) (gt : Hg t) (gu : Hg u) (lt : t.lev ≤ N) (lu : u.lev ≤ N) (h : sform (ats t) (nb t) = sform (ats u) (nb u)) : (tv tn tr t).1 = (tv tn tr u).1 := by
  obtain ⟨hp, hn⟩ := sform_inv h
  have ha : ∀ e ∈ ats t ++ ats u, AtP ns rs N e := fun e he => by
    rcases List.mem_append.mp he with he | he
    · exact (ats_atp t ht gt e he).mono lt
    · exact (ats_atp u hu gu e he).mono lu
  rw [tv_ats t ht, tv_ats u hu, hn]
  congr 1
  rw [sv_sm S ha (l' := ats t) (fun e he => ⟨e, List.mem_append_left _ he, rfl, rfl⟩), sv_sm S ha (l' := ats u) (fun e he => ⟨e, List.mem_append_right _ he, rfl, rfl⟩), ← mrg_sm _ (ats t), ← mrg_sm _ (ats u), ← live_sm _ (mrg (ats t)), ← live_sm _ (mrg (ats u)), sm_pairs, sm_pairs]
  exact perm_sumI (hp.map _)
theorem kd_inj {l m : Key} (h : kd l = kd m) : l = m := by
  cases l <;> cases m <;> first | (injection h with h; rw [h]) | (injection h)
theorem ok_row_atom {q : Tm} (h : Ok ns rs true q) : q.isAtom = true := by cases q <;> first | rfl | exact h.elim
theorem same_row {N : Nat} (S : SameW ns rs tn tr N) {r r' : Tm} (h : Ok ns rs true r) (h' : Ok ns rs true r') (g : Hg r) (g' : Hg r') (l : r.lev ≤ N) (l' : r'.lev ≤ N) (e : headF (ats r) = headF (ats r')) : tv tn tr r = tv tn tr r' :=
  S r r' true true h h' (ok_row_atom h) (ok_row_atom h') g g' l l' e
theorem same_w : ∀ N, SameW ns rs tn tr N
  | 0 => fun a b q q' _ _ _ _ _ _ la _ _ => absurd (Tm.lev_pos a) (by omega)
  | N + 1 => by
    have S := same_w N
    intro a b q q' ha hb aa ab ga gb la lb e
    cases a with
    | num n => exact Bool.noConfusion aa
    | add t u => exact Bool.noConfusion aa
    | mul n t => exact Bool.noConfusion aa
    | name l =>
      cases b with
      | name m =>
        have e2 : [PyData.str "name", kd l] = [.str "name", kd m] := e
        injection e2 with _ e2
        injection e2 with e2 _
        rw [kd_inj e2]
      | num n => exact Bool.noConfusion ab
      | add t u => exact Bool.noConfusion ab
      | mul n t => exact Bool.noConfusion ab
      | _ => exact absurd (congrArg (fun z => z.head?) e) (fun z => by revert z; show ¬ (some (PyData.str _) = some (PyData.str _)); intro z; injection z with z; injection z with z; revert z; decide)
    | row l =>
      cases b with
      | row m =>
        have e2 : [PyData.str "row", kd l] = [.str "row", kd m] := e
        injection e2 with _ e2
        injection e2 with e2 _
        rw [kd_inj e2]
      | num n => exact Bool.noConfusion ab
      | add t u => exact Bool.noConfusion ab
      | mul n t => exact Bool.noConfusion ab
      | _ => exact absurd (congrArg (fun z => z.head?) e) (fun z => by revert z; show ¬ (some (PyData.str _) = some (PyData.str _)); intro z; injection z with z; injection z with z; revert z; decide)
    | read r t =>
      cases b with
      | read r' t' =>
        have e2 : [PyData.str "read", .tuple (headF (ats r)), .tuple (sform (ats t) (nb t))] = [.str "read", .tuple (headF (ats r')), .tuple (sform (ats t') (nb t'))] := e
        injection e2 with _ e2
        injection e2 with e3 e2
        injection e2 with e4 _
        injection e3 with e3
        injection e4 with e4
        have la' : max r.lev t.lev + 4 ≤ N + 1 := la
        have lb' : max r'.lev t'.lev + 4 ≤ N + 1 := lb
        have hq : Ok ns rs true r ∧ Ok ns rs false t := by cases q <;> first | exact ha | exact ha.elim
        have hq' : Ok ns rs true r' ∧ Ok ns rs false t' := by cases q' <;> first | exact hb | exact hb.elim
        show ((tv tn tr r).2.2 (tv tn tr t).1, 0, fun _ => (0 : Int)) = ((tv tn tr r').2.2 (tv tn tr t').1, 0, fun _ => (0 : Int))
        rw [same_row S hq.1 hq'.1 ga.1 gb.1 (by omega) (by omega) e3, same_sum S hq.2 hq'.2 ga.2.1 gb.2.1 (by omega) (by omega) e4]
      | num n => exact Bool.noConfusion ab
      | add t u => exact Bool.noConfusion ab
      | mul n t => exact Bool.noConfusion ab
      | _ => exact absurd (congrArg (fun z => z.head?) e) (fun z => by revert z; show ¬ (some (PyData.str _) = some (PyData.str _)); intro z; injection z with z; injection z with z; revert z; decide)
    | size r =>
      cases b with
      | size r' =>
        have e2 : [PyData.str "size", .tuple (headF (ats r))] = [.str "size", .tuple (headF (ats r'))] := e
        injection e2 with _ e2
        injection e2 with e3 _
        injection e3 with e3
        have la' : r.lev + 4 ≤ N + 1 := la
        have lb' : r'.lev + 4 ≤ N + 1 := lb
        have hq : Ok ns rs true r := by cases q <;> first | exact ha | exact ha.elim
        have hq' : Ok ns rs true r' := by cases q' <;> first | exact hb | exact hb.elim
        show ((tv tn tr r).2.1, 0, fun _ => (0 : Int)) = ((tv tn tr r').2.1, 0, fun _ => (0 : Int))
        rw [same_row S hq hq' ga.1 gb.1 (by omega) (by omega) e3]
      | num n => exact Bool.noConfusion ab
      | add t u => exact Bool.noConfusion ab
      | mul n t => exact Bool.noConfusion ab
      | _ => exact absurd (congrArg (fun z => z.head?) e) (fun z => by revert z; show ¬ (some (PyData.str _) = some (PyData.str _)); intro z; injection z with z; injection z with z; revert z; decide)
    | div t k =>
      cases b with
      | div t' k' =>
        have e2 : [PyData.str "div", .tuple (sform (ats t) (nb t)), .int k] = [.str "div", .tuple (sform (ats t') (nb t')), .int k'] := e
        injection e2 with _ e2
        injection e2 with e3 e2
        injection e2 with e4 _
        injection e3 with e3
        injection e4 with e4
        have la' : t.lev + 4 ≤ N + 1 := la
        have lb' : t'.lev + 4 ≤ N + 1 := lb
        have hq : Ok ns rs false t := by cases q <;> first | exact ha.1 | exact ha.elim
        have hq' : Ok ns rs false t' := by cases q' <;> first | exact hb.1 | exact hb.elim
        show ((tv tn tr t).1 / k, 0, fun _ => (0 : Int)) = ((tv tn tr t').1 / k', 0, fun _ => (0 : Int))
        rw [e4, same_sum S hq hq' ga.1 gb.1 (by omega) (by omega) e3]
      | num n => exact Bool.noConfusion ab
      | add t u => exact Bool.noConfusion ab
      | mul n t => exact Bool.noConfusion ab
      | _ => exact absurd (congrArg (fun z => z.head?) e) (fun z => by revert z; show ¬ (some (PyData.str _) = some (PyData.str _)); intro z; injection z with z; injection z with z; revert z; decide)
    | mod t k =>
      cases b with
      | mod t' k' =>
        have e2 : [PyData.str "mod", .tuple (sform (ats t) (nb t)), .int k] = [.str "mod", .tuple (sform (ats t') (nb t')), .int k'] := e
        injection e2 with _ e2
        injection e2 with e3 e2
        injection e2 with e4 _
        injection e3 with e3
        injection e4 with e4
        have la' : t.lev + 4 ≤ N + 1 := la
        have lb' : t'.lev + 4 ≤ N + 1 := lb
        have hq : Ok ns rs false t := by cases q <;> first | exact ha.1 | exact ha.elim
        have hq' : Ok ns rs false t' := by cases q' <;> first | exact hb.1 | exact hb.elim
        show ((tv tn tr t).1 % k, 0, fun _ => (0 : Int)) = ((tv tn tr t').1 % k', 0, fun _ => (0 : Int))
        rw [e4, same_sum S hq hq' ga.1 gb.1 (by omega) (by omega) e3]
      | num n => exact Bool.noConfusion ab
      | add t u => exact Bool.noConfusion ab
      | mul n t => exact Bool.noConfusion ab
      | _ => exact absurd (congrArg (fun z => z.head?) e) (fun z => by revert z; show ¬ (some (PyData.str _) = some (PyData.str _)); intro z; injection z with z; injection z with z; revert z; decide)
    | wth r t u =>
      cases b with
      | wth r' t' u' =>
        have e2 : [PyData.str "with", .tuple (headF (ats r)), .tuple (sform (ats t) (nb t)), .tuple (sform (ats u) (nb u))] = [.str "with", .tuple (headF (ats r')), .tuple (sform (ats t') (nb t')), .tuple (sform (ats u') (nb u'))] := e
        injection e2 with _ e2
        injection e2 with e3 e2
        injection e2 with e4 e2
        injection e2 with e5 _
        injection e3 with e3
        injection e4 with e4
        injection e5 with e5
        have la' : max r.lev (max t.lev u.lev) + 2 ≤ N + 1 := la
        have lb' : max r'.lev (max t'.lev u'.lev) + 2 ≤ N + 1 := lb
        have hq : Ok ns rs true r ∧ Ok ns rs false t ∧ Ok ns rs false u := by cases q <;> first | exact ha | exact ha.elim
        have hq' : Ok ns rs true r' ∧ Ok ns rs false t' ∧ Ok ns rs false u' := by cases q' <;> first | exact hb | exact hb.elim
        show ((0 : Int), (tv tn tr r).2.1, fun i => if (tv tn tr t).1 = i then (tv tn tr u).1 else (tv tn tr r).2.2 i) = ((0 : Int), (tv tn tr r').2.1, fun i => if (tv tn tr t').1 = i then (tv tn tr u').1 else (tv tn tr r').2.2 i)
        rw [same_row S hq.1 hq'.1 ga.1 gb.1 (by omega) (by omega) e3, same_sum S hq.2.1 hq'.2.1 ga.2.1 gb.2.1 (by omega) (by omega) e4, same_sum S hq.2.2 hq'.2.2 ga.2.2.1 gb.2.2.1 (by omega) (by omega) e5]
      | num n => exact Bool.noConfusion ab
      | add t u => exact Bool.noConfusion ab
      | mul n t => exact Bool.noConfusion ab
      | _ => exact absurd (congrArg (fun z => z.head?) e) (fun z => by revert z; show ¬ (some (PyData.str _) = some (PyData.str _)); intro z; injection z with z; injection z with z; revert z; decide)
    | room t =>
      cases b with
      | room t' =>
        have e2 : [PyData.str "room", .tuple (sform (ats t) (nb t))] = [.str "room", .tuple (sform (ats t') (nb t'))] := e
        injection e2 with _ e2
        injection e2 with e3 _
        injection e3 with e3
        have la' : t.lev + 2 ≤ N + 1 := la
        have lb' : t'.lev + 2 ≤ N + 1 := lb
        have hq : Ok ns rs false t := by cases q <;> first | exact ha | exact ha.elim
        have hq' : Ok ns rs false t' := by cases q' <;> first | exact hb | exact hb.elim
        show ((0 : Int), max (tv tn tr t).1 0, fun _ => (0 : Int)) = ((0 : Int), max (tv tn tr t').1 0, fun _ => (0 : Int))
        rw [same_sum S hq hq' ga.1 gb.1 (by omega) (by omega) e3]
      | num n => exact Bool.noConfusion ab
      | add t u => exact Bool.noConfusion ab
      | mul n t => exact Bool.noConfusion ab
      | _ => exact absurd (congrArg (fun z => z.head?) e) (fun z => by revert z; show ¬ (some (PyData.str _) = some (PyData.str _)); intro z; injection z with z; injection z with z; revert z; decide)
end
end Lw
/-! Part C7: what may be shown; few atoms, small numbers; depth; sorts. Plain. -/
namespace Lw
open PySem PySem.Spec L2 PyProof.Rows
theorem len_cps (x : Str) : x.length = x.cps.toList.length := by rw [Array.length_toList]; rfl
theorem sok_of {f : List PyData} (g : GDs f) (d : dT f ≤ 60) (t : sT f ≤ 16000000) : SOk f := by
  have hg : GD (.tuple f) := by rw [GD]; exact g
  refine ⟨gd_show _ hg, d, ?_⟩
  rw [len_cps]
  exact Nat.le_trans (gd_len _ hg) (Nat.le_trans t (by decide))
theorem GS.sok {f : List PyData} (h : GS f) : SOk f := sok_of h.1 (Nat.le_trans h.2.1 (by decide)) (Nat.le_trans h.2.2 (by decide))
theorem dT_mem {f g : List PyData} (h : PyData.tuple g ∈ f) : dT g + 1 ≤ dT f := by
  unfold dT
  rw [show (PyData.tuple f).depth = PyData.depthAll f + 1 by rw [PyData.depth]]
  exact Nat.succ_le_succ (le_depthAll h)
theorem sT_mem {f g : List PyData} (h : PyData.tuple g ∈ f) : sT g ≤ sT f := by
  have := le_szs h
  show sz (.tuple g) ≤ 3 + sz.szs f
  omega
theorem gds_tup {f g : List PyData} (h : PyData.tuple g ∈ f) (k : GDs f) : GDs g := by
  have := gds_mem k _ h
  rw [GD] at this
  exact this
/-- the pairs of a form may be shown where the form may be -/
theorem pairs_sok {l : List Ent} {n : Int} (g : GDs (sform l n)) (d : dT (sform l n) ≤ 60) (t : sT (sform l n) ≤ 16000000) : ∀ e ∈ liveE (mrg l), SOk (pairF e) := fun e he => by
  have hp : (sortD ((liveE (mrg l)).map pairF)).Perm ((liveE (mrg l)).map pairF) := List.mergeSort_perm ..
  have h1 : PyData.tuple ((sortD ((liveE (mrg l)).map pairF)).map .tuple) ∈ sform l n := List.mem_cons_of_mem _ (List.mem_cons_self ..)
  have h2 : PyData.tuple (pairF e) ∈ (sortD ((liveE (mrg l)).map pairF)).map .tuple := List.mem_map.mpr ⟨_, hp.mem_iff.mpr (List.mem_map.mpr ⟨e, he, rfl⟩), rfl⟩
  have a1 := dT_mem h1
  have a2 := dT_mem h2
  have b1 := sT_mem h1
  have b2 := sT_mem h2
  exact sok_of (gds_tup h2 (gds_tup h1 g)) (by omega) (by omega)
def SmlT (t : Tm) : Prop := 2 * mg t ≤ big ∧ cnt t ≤ 400
/-- all parts of atoms, at any depth, are small -/
def Nh : Tm → Prop
  | .add t u => Nh t ∧ Nh u
  | .mul _ t => Nh t
  | .read r t => Nh r ∧ Nh t ∧ SmlT t
  | .size r => Nh r
  | .div t k => Nh t ∧ SmlT t
  | .mod t k => Nh t ∧ SmlT t
  | .wth r t u => Nh r ∧ (Nh t ∧ SmlT t) ∧ Nh u ∧ SmlT u
  | .room t => Nh t ∧ SmlT t
  | _ => True
theorem part_pok {t : Tm} {f : List PyData} (h : GS f) (hm : PyData.tuple (sform (ats t) (nb t)) ∈ f) (s : SmlT t) : POk t := by
  have a := dT_mem hm
  have b := sT_mem hm
  have c := h.2.1
  have d := h.2.2
  exact ⟨pairs_sok (gds_tup hm h.1) (by omega) (by omega), s.1, Nat.le_trans s.2 (by decide)⟩
theorem fok_of : ∀ t : Tm, Hg t → Nh t → FOk t
  | .num _, _, _ => trivial
  | .name l, g, _ => g.sok
  | .add t u, g, n => ⟨fok_of t g.1 n.1, fok_of u g.2 n.2⟩
  | .mul _ t, g, n => fok_of t g n
  | .read r t, g, n => ⟨fok_of r g.1 n.1, fok_of t g.2.1 n.2.1, part_pok g.2.2 (List.mem_cons_of_mem _ (List.mem_cons_of_mem _ (List.mem_cons_self ..))) n.2.2, g.2.2.sok⟩
  | .size r, g, n => ⟨fok_of r g.1 n, g.2.sok⟩
  | .div t k, g, n => ⟨fok_of t g.1 n.1, part_pok g.2 (List.mem_cons_of_mem _ (List.mem_cons_self ..)) n.2, g.2.sok⟩
  | .mod t k, g, n => ⟨fok_of t g.1 n.1, part_pok g.2 (List.mem_cons_of_mem _ (List.mem_cons_self ..)) n.2, g.2.sok⟩
  | .row _, _, _ => trivial
  | .wth r t u, g, n => ⟨fok_of r g.1 n.1, fok_of t g.2.1 n.2.1.1, part_pok g.2.2.2 (List.mem_cons_of_mem _ (List.mem_cons_of_mem _ (List.mem_cons_self ..))) n.2.1.2, fok_of u g.2.2.1 n.2.2.1, part_pok g.2.2.2 (List.mem_cons_of_mem _ (List.mem_cons_of_mem _ (List.mem_cons_of_mem _ (List.mem_cons_self ..)))) n.2.2.2⟩
  | .room t, g, n => ⟨fok_of t g.1 n.1, part_pok g.2 (List.mem_cons_of_mem _ (List.mem_cons_self ..)) n.2⟩
/-! ### numbers of a tree -/
def wsum (f : Lf → Nat) (L : List Lf) : Nat := (L.map f).sum
theorem wsum_app (f : Lf → Nat) (L M : List Lf) : wsum f (L ++ M) = wsum f L + wsum f M := by unfold wsum; rw [List.map_append, List.sum_append]
theorem wsum_le {f : Lf → Nat} {k : Nat} : ∀ {L : List Lf}, (∀ x ∈ L, f x ≤ k) → wsum f L ≤ L.length * k
  | [], _ => Nat.zero_le _
  | x :: L, h => by
    have h1 := h x (List.mem_cons_self ..)
    have h2 := wsum_le (f := f) (k := k) (L := L) fun y hy => h y (List.mem_cons_of_mem _ hy)
    unfold wsum at h2 ⊢
    rw [List.map_cons, List.sum_cons, List.length_cons, Nat.succ_mul]
    omega
def lfm (x : Lf) : Nat := (x.2.2.natAbs + 1) * mg x.2.1
theorem comb_mg : ∀ {d : Nat} {L : List Lf} {t : Tm}, Comb d L t → mg t ≤ 2 ^ (d + 1) * wsum lfm L
  | _, _, _, .one d k a => by
    have := Nat.mul_le_mul_right (2 * mg a) (Nat.one_le_two_pow (n := d + 1))
    refine Nat.le_trans ?_ this
    omega
  | _, _, _, .neg d k a w => by
    show (1 + 1) * (((0 - w).natAbs + 1) * mg a) ≤ 2 ^ (d + 1) * ((w.natAbs + 1) * mg a + 0)
    have e : (0 - w).natAbs = w.natAbs := by omega
    rw [e, Nat.add_zero]
    exact Nat.mul_le_mul_right _ (by rw [Nat.pow_succ]; have := Nat.one_le_two_pow (n := d); omega)
  | _, _, _, .mul d k a w => by
    show (w.natAbs + 1) * mg a ≤ 2 ^ (d + 1) * ((w.natAbs + 1) * mg a + 0)
    rw [Nat.add_zero]
    exact Nat.le_mul_of_pos_left _ (Nat.two_pow_pos _)
  | _, _, _, .add (d := d) (L := L) (M := M) (t := t) (u := u) h1 h2 => by
    have a := comb_mg h1
    have b := comb_mg h2
    show mg t + mg u ≤ _
    rw [wsum_app, Nat.mul_add]
    have p : 2 ^ (d + 1) ≤ 2 ^ (d + 1 + 1) := Nat.pow_le_pow_right (by decide) (by omega)
    have a' := Nat.mul_le_mul_right (wsum lfm L) p
    have b' := Nat.mul_le_mul_right (wsum lfm M) p
    omega
  | _, _, _, .nadd (d := d) (L := L) (M := M) (t := t) (u := u) h1 h2 => by
    have e : ∀ L : List Lf, wsum lfm (turned (-1) L) = wsum lfm L := fun L => by
      unfold wsum turned
      rw [List.map_map]
      congr 1
      refine List.map_congr_left fun x _ => ?_
      show ((-1 * x.2.2).natAbs + 1) * mg x.2.1 = (x.2.2.natAbs + 1) * mg x.2.1
      have : (-1 * x.2.2).natAbs = x.2.2.natAbs := by omega
      rw [this]
    have a := comb_mg h1
    have b := comb_mg h2
    rw [e] at a b
    show 2 * (mg t + mg u) ≤ _
    have p : 2 ^ (d + 1 + 1) = 2 * 2 ^ (d + 1) := by rw [Nat.pow_succ 2 (d + 1)]; omega
    rw [wsum_app, p, Nat.mul_assoc, Nat.mul_add (2 ^ (d + 1))]
    omega
theorem comb_cnt : ∀ {d : Nat} {L : List Lf} {t : Tm}, Comb d L t → cnt t = wsum (fun x => cnt x.2.1) L
  | _, _, _, .one d k a => rfl
  | _, _, _, .neg d k a w => rfl
  | _, _, _, .mul d k a w => rfl
  | _, _, _, .add (t := t) (u := u) h1 h2 => by
    show cnt t + cnt u = _
    rw [comb_cnt h1, comb_cnt h2, wsum_app]
  | _, _, _, .nadd (t := t) (u := u) h1 h2 => by
    have e : ∀ L : List Lf, wsum (fun x => cnt x.2.1) (turned (-1) L) = wsum (fun x => cnt x.2.1) L := fun L => by
      unfold wsum turned
      rw [List.map_map]
      rfl
    show cnt t + cnt u = _
    rw [comb_cnt h1, comb_cnt h2, e, e, wsum_app]
theorem comb_lev {k : Nat} : ∀ {d : Nat} {L : List Lf} {t : Tm}, Comb d L t → (∀ x ∈ L, x.2.1.lev ≤ k) → t.lev ≤ k + 2 * (d + 1)
  | _, _, _, .one d i a, h => Nat.le_trans (h _ (List.mem_cons_self ..)) (by omega)
  | _, _, _, .neg d i a w, h => by
    have := h _ (List.mem_cons_self ..)
    show a.lev + 1 + 1 ≤ _
    dsimp only at this
    omega
  | _, _, _, .mul d i a w, h => by
    have := h _ (List.mem_cons_self ..)
    show a.lev + 1 ≤ _
    dsimp only at this
    omega
  | _, _, _, .add (t := t) (u := u) h1 h2, h => by
    have a := comb_lev h1 fun x hx => h x (List.mem_append_left _ hx)
    have b := comb_lev h2 fun x hx => h x (List.mem_append_right _ hx)
    show max t.lev u.lev + 1 ≤ _
    omega
  | _, _, _, .nadd (t := t) (u := u) h1 h2, h => by
    have e : ∀ {L : List Lf}, (∀ x ∈ L, x.2.1.lev ≤ k) → ∀ x ∈ turned (-1) L, x.2.1.lev ≤ k := fun h x hx => by
      obtain ⟨y, hy, rfl⟩ := List.mem_map.mp hx
      exact h y hy
    have a := comb_lev h1 (e fun x hx => h x (List.mem_append_left _ hx))
    have b := comb_lev h2 (e fun x hx => h x (List.mem_append_right _ hx))
    show max t.lev u.lev + 1 + 1 ≤ _
    omega
/-! ### spellings -/
section
variable {es : List Th} {nm : Key → Tm → Prop} {ns rs : List Key}
theorem spl_ok (hes : ∀ e ∈ es, OkT ns rs false e) (hnm : ∀ l t, nm l t → l ∈ ns → Ok ns rs false t) {th : Th} {t : Tm} (s : Spl es nm th t) : ∀ q, OkT ns rs q th → Ok ns rs q t := by
  induction s with
  | nam h => intro q hq; cases q <;> first | exact hnm _ _ h hq | exact hq.elim
  | row l => intro q hq; cases q <;> first | exact hq | exact hq.elim
  | wth _ _ _ i1 i2 i3 => intro q hq; cases q <;> first | exact ⟨i1 _ hq.1, i2 _ hq.2.1, i3 _ hq.2.2⟩ | exact hq.elim
  | room _ i => intro q hq; cases q <;> first | exact i _ hq | exact hq.elim
  | read _ _ i1 i2 => intro q hq; cases q <;> first | exact ⟨i1 _ hq.1, i2 _ hq.2⟩ | exact hq.elim
  | size _ i => intro q hq; cases q <;> first | exact i _ hq | exact hq.elim
  | div k _ i => intro q hq; cases q <;> first | exact ⟨i _ hq.1, hq.2⟩ | exact hq.elim
  | mod k _ i => intro q hq; cases q <;> first | exact ⟨i _ hq.1, hq.2⟩ | exact hq.elim
  | @sum ps m L t hb hl hw hk hs' hn' hc ih =>
    intro q hq
    cases q with
    | true => exact hq.elim
    | false =>
      refine comb_all (P := Ok ns rs false) (fun _ _ a b => ⟨a, b⟩) (fun _ _ a => a) hc fun x hx => ?_
      by_cases h0 : x.1 < 0
      · obtain ⟨m, e, _⟩ := hn' x hx h0
        rw [e]
        trivial
      · obtain ⟨e, he, _⟩ := hk x hx (by omega)
        exact ih x hx (by omega) e he false (hes e (List.mem_of_getElem? he))
theorem spl_lev (hnm : ∀ l t, nm l t → t.lev ≤ 13) {th : Th} {t : Tm} (s : Spl es nm th t) : ∀ n, Rk es n th → t.lev ≤ 26 * n + 4 * th.ht + 23 := by
  induction s with
  | nam h => intro n hr; have := hnm _ _ h; omega
  | row l => intro n hr; show 1 ≤ _; omega
  | @wth r s t a b c _ _ _ i1 i2 i3 =>
    intro n hr
    replace hr := rk_wth hr
    have a1 := i1 n hr.1
    have a2 := i2 n hr.2.1
    have a3 := i3 n hr.2.2
    show max a.lev (max b.lev c.lev) + 2 ≤ 26 * n + 4 * (max r.ht (max s.ht t.ht) + 1) + 23
    omega
  | @room s b _ i =>
    intro n hr
    have a1 := i n (rk_room hr)
    show b.lev + 2 ≤ 26 * n + 4 * (s.ht + 1) + 23
    omega
  | @read r s a b _ _ i1 i2 =>
    intro n hr
    replace hr := rk_read hr
    have a1 := i1 n hr.1
    have a2 := i2 n hr.2
    show max a.lev b.lev + 4 ≤ 26 * n + 4 * (max r.ht s.ht + 1) + 23
    omega
  | @size r a _ i =>
    intro n hr
    have a1 := i n (rk_size hr)
    show a.lev + 4 ≤ 26 * n + 4 * (r.ht + 1) + 23
    omega
  | @div s b k _ i =>
    intro n hr
    have a1 := i n (rk_div hr)
    show b.lev + 4 ≤ 26 * n + 4 * (s.ht + 1) + 23
    omega
  | @mod s b k _ i =>
    intro n hr
    have a1 := i n (rk_mod hr)
    show b.lev + 4 ≤ 26 * n + 4 * (s.ht + 1) + 23
    omega
  | @sum ps m L t hb hl hw hk hs' hn' hc ih =>
    intro n hr
    show t.lev ≤ 26 * n + 0 + 23
    refine Nat.le_trans (comb_lev (k := 26 * n + 13) hc fun x hx => ?_) (by omega)
    by_cases h0 : x.1 < 0
    · obtain ⟨m, e, _⟩ := hn' x hx h0
      rw [e]
      show 1 ≤ _
      omega
    · obtain ⟨e, he, hd⟩ := hk x hx (by omega)
      by_cases q : ∃ l, e = .nam l
      · obtain ⟨l, rfl⟩ := q
        have := hs' x hx (by omega) _ he
        cases this with
        | nam h => have := hnm _ _ h; omega
      · obtain ⟨w, hw'⟩ := hd.resolve_right q
        cases n with
        | zero => obtain ⟨_, _, e', _, z⟩ := hr.2 _ hw'; exact z.elim
        | succ n =>
          obtain ⟨_, _, e', he', z⟩ := hr.2 _ hw'
          rw [he] at he'
          cases he'
          have := ih x hx (by omega) e he n z.1
          have := z.2.1
          omega
/-- numbers: of names at most 10^60 and 12 atoms -/
def NmP (nm : Key → Tm → Prop) : Prop := ∀ l t, nm l t → Nh t ∧ mg t ≤ 10 ^ 60 ∧ cnt t ≤ 12
theorem big_ok : 2 * 10 ^ 170 ≤ big := by unfold big; decide +kernel
theorem spl_num (hes : ∀ e ∈ es, ThE e) (hnm : NmP nm) {th : Th} {t : Tm} (s : Spl es nm th t) : ∀ B, ThB B th → B ≤ 10 ^ 140 → Nh t ∧ (th.isSum = true → mg t ≤ 10 ^ 170 ∧ cnt t ≤ 144) ∧ (th.isSum = false → mg t ≤ 10 ^ 60 ∧ cnt t ≤ 12) := by
  have sm_ : ∀ {t : Tm}, mg t ≤ 10 ^ 170 ∧ cnt t ≤ 144 → SmlT t := fun h => ⟨Nat.le_trans (Nat.mul_le_mul_left 2 h.1) big_ok, Nat.le_trans h.2 (by decide)⟩
  have at_ : ∀ {t : Tm}, mg t = 1 → cnt t = 1 → mg t ≤ 10 ^ 60 ∧ cnt t ≤ 12 := fun a b => ⟨by rw [a]; decide, by rw [b]; decide⟩
  induction s with
  | nam h => intro B hb hB; obtain ⟨a, b⟩ := hnm _ _ h; exact ⟨a, fun z => Bool.noConfusion z, fun _ => b⟩
  | row l => intro B hb hB; exact ⟨trivial, fun z => Bool.noConfusion z, fun _ => at_ rfl rfl⟩
  | wth _ _ _ i1 i2 i3 =>
    intro B hb hB
    obtain ⟨⟨b1, b2, b3⟩, b4, b5, b6⟩ := hb
    have g1 := i1 B b4 hB
    have g2 := i2 B b5 hB
    have g3 := i3 B b6 hB
    exact ⟨⟨g1.1, ⟨g2.1, sm_ (g2.2.1 b2)⟩, g3.1, sm_ (g3.2.1 b3)⟩, fun z => Bool.noConfusion z, fun _ => at_ rfl rfl⟩
  | room _ i => intro B hb hB; have g := i B hb.2 hB; exact ⟨⟨g.1, sm_ (g.2.1 hb.1)⟩, fun z => Bool.noConfusion z, fun _ => at_ rfl rfl⟩
  | read _ _ i1 i2 =>
    intro B hb hB
    obtain ⟨⟨b1, b2⟩, b4, b5⟩ := hb
    have g1 := i1 B b4 hB
    have g2 := i2 B b5 hB
    exact ⟨⟨g1.1, g2.1, sm_ (g2.2.1 b2)⟩, fun z => Bool.noConfusion z, fun _ => at_ rfl rfl⟩
  | size _ i => intro B hb hB; have g := i B hb.2 hB; exact ⟨g.1, fun z => Bool.noConfusion z, fun _ => at_ rfl rfl⟩
  | div k _ i => intro B hb hB; have g := i B hb.2.1 hB; exact ⟨⟨g.1, sm_ (g.2.1 hb.1)⟩, fun z => Bool.noConfusion z, fun _ => at_ rfl rfl⟩
  | mod k _ i => intro B hb hB; have g := i B hb.2.1 hB; exact ⟨⟨g.1, sm_ (g.2.1 hb.1)⟩, fun z => Bool.noConfusion z, fun _ => at_ rfl rfl⟩
  | @sum ps m L t hb hl hw hk hs' hn' hc ih =>
    intro B hb' hB
    have leaf : ∀ x ∈ L, Nh x.2.1 ∧ mg x.2.1 ≤ 10 ^ 141 ∧ cnt x.2.1 ≤ 12 := fun x hx => by
      by_cases h0 : x.1 < 0
      · obtain ⟨k, e, hk'⟩ := hn' x hx h0
        rw [e]
        refine ⟨trivial, ?_, Nat.zero_le _⟩
        show k.natAbs + 1 ≤ _
        have h1 : m.natAbs ≤ B := hb'
        have h2 : (10 : Nat) ^ 140 + 6 ≤ 10 ^ 141 := by decide
        omega
      · obtain ⟨e, he, hd⟩ := hk x hx (by omega)
        have hm := hes e (List.mem_of_getElem? he)
        obtain ⟨a, _, b⟩ := ih x hx (by omega) e he (10 ^ 20) hm.2 (by decide)
        obtain ⟨b1, b2⟩ := b hm.1
        exact ⟨a, Nat.le_trans b1 (by decide), b2⟩
    refine ⟨comb_all (P := Nh) (fun _ _ a b => ⟨a, b⟩) (fun _ _ a => a) hc fun x hx => (leaf x hx).1, fun _ => ⟨?_, ?_⟩, fun z => Bool.noConfusion z⟩
    · have h1 : wsum lfm L ≤ L.length * ((10 ^ 20 + 3) * 10 ^ 141) := wsum_le fun x hx => by
        have hw' := hw x hx
        exact Nat.mul_le_mul (show x.2.2.natAbs + 1 ≤ 10 ^ 20 + 3 by omega) (leaf x hx).2.1
      have h2 := Nat.le_trans h1 (Nat.mul_le_mul_right _ hl)
      exact Nat.le_trans (Nat.le_trans (comb_mg hc) (Nat.mul_le_mul_left _ h2)) (by decide)
    · rw [comb_cnt hc]
      exact Nat.le_trans (wsum_le (k := 12) fun x hx => (leaf x hx).2.2) (by omega)
end
end Lw
/-! Part C8: a spelling is worth what its thing is worth; products may be made. Plain. -/
namespace Lw
open PySem PySem.Spec L2 PyProof.Rows
theorem Th.sum_rw {s : Th} (h : s.isSum = true) : s.isRw = false := by cases s <;> first | rfl | exact absurd h Bool.false_ne_true
theorem okt_rw {ns rs : List Key} {e : Th} (h : OkT ns rs false e) : e.isRw = false := by cases e <;> first | rfl | exact h.elim
section
variable {es : List Th} {nm : Key → Tm → Prop} {ns rs : List Key} {tn tn' : Key → Int} {tr : Key → RowF}
abbrev WW (es : List Th) (tn : Key → Int) (tr : Key → RowF) (n : Nat) (th : Th) : Int × RowF := wv es tn tr (wG es tn tr n) th
def vK (es : List Th) (tn : Key → Int) (G : Th → Int) (k : Nat) : Int := match es[k]? with
  | some (.nam l) => tn l
  | some e => G e
  | none => 0
def vE (es : List Th) (G : Th → Int) (k : Nat) : Int := match es[k]? with
  | some e => G e
  | none => 0
theorem vK_nam {G : Th → Int} {k : Nat} {l : Key} (h : es[k]? = some (.nam l)) : vK es tn G k = tn l := by unfold vK; rw [h]
theorem vK_en {G : Th → Int} {k : Nat} {e : Th} (h : es[k]? = some e) (q : ∀ l, e ≠ .nam l) : vK es tn G k = G e := by
  unfold vK
  rw [h]
  cases e <;> first | rfl | exact absurd rfl (q _)
theorem vK_vE {n : Nat} {ps : List (Nat × Int)} {m : Int} (h : Rk es n (.sum ps m)) : ∀ q ∈ ps, vK es tn (wG es tn tr n) q.1 = vE es (wG es tn tr n) q.1 := by
  cases n with
  | zero =>
    intro q hq
    obtain ⟨_, _, e, _, z⟩ := h.2 q hq
    exact z.elim
  | succ n =>
    intro q _
    unfold vK vE
    cases es[q.1]? with
    | none => rfl
    | some e => cases e <;> rfl
/-- a leaf is worth what is placed for it -/
theorem leaf_tv {n : Nat} {ps : List (Nat × Int)} {m : Int} (h : Rk es n (.sum ps m)) {x : Lf} {e : Th} (he : es[x.1.toNat]? = some e) (hx : (∃ w, (x.1.toNat, w) ∈ ps) ∨ ∃ l, e = .nam l)
    {R : Int → Prop} (ih : ∀ n', n' + 1 ≤ n ∨ n' = 0 → Rk es n' e → R (WW es tn tr n' e).1) : R (vK es tn (wG es tn tr n) x.1.toNat) := by
  by_cases q : ∃ l, e = .nam l
  · obtain ⟨l, rfl⟩ := q
    rw [vK_nam he]
    exact ih 0 (.inr rfl) trivial
  · rw [vK_en he fun l z => q ⟨l, z⟩]
    obtain ⟨w, hw⟩ := hx.resolve_right q
    cases n with
    | zero =>
      obtain ⟨_, _, e', _, z⟩ := h.2 _ hw
      exact z.elim
    | succ n =>
      obtain ⟨_, _, e', he', z⟩ := h.2 _ hw
      rw [he] at he'
      cases he'
      exact ih n (.inl (Nat.le_refl _)) z.1
theorem spl_tv (hes : ∀ e ∈ es, ThE e ∧ OkT ns rs false e) (hnm : ∀ l t, nm l t → (tv tn tr t).1 = tn' l) {th : Th} {t : Tm} (s : Spl es nm th t) : ∀ n B, Rk es n th → ThB B th → (th.isRw = false → (tv tn tr t).1 = (WW es tn' tr n th).1) ∧ (th.isRw = true → (tv tn tr t).2 = (WW es tn' tr n th).2) := by
  induction s with
  | nam h => intro n B hr hb; exact ⟨fun _ => hnm _ _ h, fun z => Bool.noConfusion z⟩
  | row l => intro n B hr hb; exact ⟨fun z => Bool.noConfusion z, fun _ => rfl⟩
  | @wth r s t a b c _ _ _ i1 i2 i3 =>
    intro n B hr hb
    replace hr := rk_wth hr
    obtain ⟨⟨b1, b2, b3⟩, b4, b5, b6⟩ := hb
    have g1 := (i1 n B hr.1 b4).2 b1
    have g2 := (i2 n B hr.2.1 b5).1 (Th.sum_rw b2)
    have g3 := (i3 n B hr.2.2 b6).1 (Th.sum_rw b3)
    refine ⟨fun z => Bool.noConfusion z, fun _ => ?_⟩
    show ((tv tn tr a).2.1, fun i => if (tv tn tr b).1 = i then (tv tn tr c).1 else (tv tn tr a).2.2 i) = ((WW es tn' tr n r).2.1, fun i => if (WW es tn' tr n s).1 = i then (WW es tn' tr n t).1 else (WW es tn' tr n r).2.2 i)
    rw [g1, g2, g3]
  | @room s b _ i =>
    intro n B hr hb
    have g := (i n B (rk_room hr) hb.2).1 (Th.sum_rw hb.1)
    refine ⟨fun z => Bool.noConfusion z, fun _ => ?_⟩
    show (max (tv tn tr b).1 0, fun _ => (0 : Int)) = (max (WW es tn' tr n s).1 0, fun _ => (0 : Int))
    rw [g]
  | @read r s a b _ _ i1 i2 =>
    intro n B hr hb
    replace hr := rk_read hr
    obtain ⟨⟨b1, b2⟩, b4, b5⟩ := hb
    have g1 := (i1 n B hr.1 b4).2 b1
    have g2 := (i2 n B hr.2 b5).1 (Th.sum_rw b2)
    refine ⟨fun _ => ?_, fun z => Bool.noConfusion z⟩
    show (tv tn tr a).2.2 (tv tn tr b).1 = (WW es tn' tr n r).2.2 (WW es tn' tr n s).1
    rw [g1, g2]
  | @size r a _ i1 =>
    intro n B hr hb
    have g1 := (i1 n B (rk_size hr) hb.2).2 hb.1
    refine ⟨fun _ => ?_, fun z => Bool.noConfusion z⟩
    show (tv tn tr a).2.1 = (WW es tn' tr n r).2.1
    rw [g1]
  | @div s b k _ i =>
    intro n B hr hb
    have g := (i n B (rk_div hr) hb.2.1).1 (Th.sum_rw hb.1)
    refine ⟨fun _ => ?_, fun z => Bool.noConfusion z⟩
    show (tv tn tr b).1 / k = (WW es tn' tr n s).1 / k
    rw [g]
  | @mod s b k _ i =>
    intro n B hr hb
    have g := (i n B (rk_mod hr) hb.2.1).1 (Th.sum_rw hb.1)
    refine ⟨fun _ => ?_, fun z => Bool.noConfusion z⟩
    show (tv tn tr b).1 % k = (WW es tn' tr n s).1 % k
    rw [g]
  | @sum ps m L t hb hl hw hk hs' hn' hc ih =>
    intro n B hr hb'
    refine ⟨fun _ => ?_, fun z => Bool.noConfusion z⟩
    have hnum : ∀ x ∈ L, x.1 < 0 → ∃ m, x.2.1 = .num m := fun x hx h0 => let ⟨m, e, _⟩ := hn' x hx h0; ⟨m, e⟩
    have := bal_lin (φ := fun t => (tv tn tr t).1) (u := 1) (fun _ _ => rfl) (fun _ _ => rfl) (fun m => (Int.mul_one m).symm) hb hc (vK es tn' (wG es tn' tr n)) (fun x hx h0 => by
      obtain ⟨e, he, hd⟩ := hk x hx h0
      have hm := hes e (List.mem_of_getElem? he)
      exact leaf_tv hr he hd (R := fun v => (tv tn tr x.2.1).1 = v) fun n' _ hr' => (ih x hx h0 e he n' (10 ^ 20) hr' hm.1.2).1 (okt_rw hm.2)) hnum
    show (tv tn tr t).1 = m + (ps.map fun q => q.2 * vE es (wG es tn' tr n) q.1).sum
    rw [show (tv tn tr t).1 = _ from this, Int.mul_one, Int.add_comm]
    congr 1
    refine sum_map_congr fun q hq => ?_
    rw [vK_vE hr q hq]
/-! ### bounds of the worths -/
/-- what the tables hold is small -/
def TabB (ns rs : List Key) (tn : Key → Int) (tr : Key → RowF) : Prop := (∀ l ∈ ns, (tn l).natAbs ≤ 10 ^ 60) ∧ ∀ l ∈ rs, (tr l).1.natAbs ≤ 10 ^ 20 ∧ ∀ i, ((tr l).2 i).natAbs ≤ 10 ^ 20
theorem vsum_bd {G : Th → Int} {V : Nat} (hG : ∀ e ∈ es, (G e).natAbs ≤ V) : ∀ ps : List (Nat × Int), (∀ q ∈ ps, -100000000000000000000 ≤ q.2 ∧ q.2 ≤ 100000000000000000000) → ((ps.map fun q => q.2 * vE es G q.1).sum).natAbs ≤ ps.length * (10 ^ 20 * V)
  | [], _ => by simp
  | q :: ps, h => by
    have hw := h q (List.mem_cons_self ..)
    have ih := vsum_bd hG ps fun x hx => h x (List.mem_cons_of_mem _ hx)
    have h1 : (vE es G q.1).natAbs ≤ V := by
      unfold vE
      cases he : es[q.1]? with
      | none => exact Nat.zero_le _
      | some e => exact hG e (List.mem_of_getElem? he)
    have h2 := Nat.mul_le_mul (show q.2.natAbs ≤ 10 ^ 20 by omega) h1
    rw [← Int.natAbs_mul] at h2
    rw [List.map_cons, List.sum_cons, List.length_cons, Nat.succ_mul]
    omega
theorem wv_bd {Gp : Th → Prop} {G : Th → Int} {V B : Nat} (hT : TabB ns rs tn tr) (hG : ∀ e ∈ es, (G e).natAbs ≤ V) : ∀ th q, Wf es Gp th → ThB B th → OkT ns rs q th → (q = false → ((wv es tn tr G th).1).natAbs ≤ 4 * (10 ^ 20 * V) + 10 ^ 60 + B) ∧ (q = true → ((wv es tn tr G th).2.1).natAbs ≤ 4 * (10 ^ 20 * V) + 10 ^ 60 + B ∧ ∀ i, ((wv es tn tr G th).2.2 i).natAbs ≤ 4 * (10 ^ 20 * V) + 10 ^ 60 + B)
  | .nam l, q, _, _, o => by
    cases q with
    | true => exact o.elim
    | false =>
      have := hT.1 l o
      exact ⟨fun _ => by show (tn l).natAbs ≤ _; omega, fun z => Bool.noConfusion z⟩
  | .sum ps n, q, w, b, o => by
    cases q with
    | true => exact o.elim
    | false =>
      refine ⟨fun _ => ?_, fun z => Bool.noConfusion z⟩
      have h1 := vsum_bd hG ps fun x hx => ⟨(w.2 x hx).1, (w.2 x hx).2.1⟩
      have h2 := Nat.mul_le_mul_right (10 ^ 20 * V) w.1
      have h3 : n.natAbs ≤ B := b
      show (n + (ps.map fun q => q.2 * vE es G q.1).sum).natAbs ≤ _
      omega
  | .row l, q, _, _, o => by
    cases q with
    | false => exact o.elim
    | true =>
      have h := hT.2 l o
      have h10 : (10 : Nat) ^ 20 ≤ 10 ^ 60 := by decide
      exact ⟨fun z => Bool.noConfusion z, fun _ => ⟨by show ((tr l).1).natAbs ≤ _; omega, fun i => by have := h.2 i; show ((tr l).2 i).natAbs ≤ _; omega⟩⟩
  | .wth r s t, q, w, b, o => by
    cases q with
    | false => exact o.elim
    | true =>
      obtain ⟨_, b4, b5, b6⟩ := b
      have g1 := (wv_bd hT hG r true w.1 b4 o.1).2 rfl
      have g3 := (wv_bd hT hG t false w.2.2 b6 o.2.2).1 rfl
      refine ⟨fun z => Bool.noConfusion z, fun _ => ⟨g1.1, fun i => ?_⟩⟩
      show (if (wv es tn tr G s).1 = i then (wv es tn tr G t).1 else (wv es tn tr G r).2.2 i).natAbs ≤ _
      split
      · exact g3
      · exact g1.2 i
  | .room s, q, w, b, o => by
    cases q with
    | false => exact o.elim
    | true =>
      have g := (wv_bd hT hG s false w b.2 o).1 rfl
      refine ⟨fun z => Bool.noConfusion z, fun _ => ⟨?_, fun i => Nat.zero_le _⟩⟩
      show (max (wv es tn tr G s).1 0).natAbs ≤ _
      omega
  | .read r s, q, w, b, o => by
    cases q with
    | true => exact o.elim
    | false =>
      have g := (wv_bd hT hG r true w.1 b.2.1 o.1).2 rfl
      exact ⟨fun _ => g.2 _, fun z => Bool.noConfusion z⟩
  | .size r, q, w, b, o => by
    cases q with
    | true => exact o.elim
    | false =>
      have g := (wv_bd hT hG r true w b.2 o).2 rfl
      exact ⟨fun _ => g.1, fun z => Bool.noConfusion z⟩
  | .div s k, q, w, b, o => by
    cases q with
    | true => exact o.elim
    | false =>
      have g := (wv_bd hT hG s false w b.2.1 o.1).1 rfl
      refine ⟨fun _ => Nat.le_trans ?_ g, fun z => Bool.noConfusion z⟩
      exact Int.natAbs_ediv_le_natAbs _ _
  | .mod s k, q, w, b, o => by
    cases q with
    | true => exact o.elim
    | false =>
      refine ⟨fun _ => ?_, fun z => Bool.noConfusion z⟩
      have h0 : (1 : Int) ≤ k := o.2.1
      have h1 : k ≤ 1000000000 := o.2.2
      have h2 := Int.emod_nonneg (wv es tn tr G s).1 (show k ≠ 0 by omega)
      have h3 := Int.emod_lt_of_pos (wv es tn tr G s).1 (show 0 < k by omega)
      show ((wv es tn tr G s).1 % k).natAbs ≤ _
      have h10 : (1000000000 : Nat) ≤ 10 ^ 60 := by decide
      omega
def bV : Nat → Nat
  | 0 => 0
  | n + 1 => 4 * (10 ^ 20 * bV n) + 10 ^ 60 + 10 ^ 20
/-- what the law knows of its pool -/
structure PoolP (es : List Th) (ns rs : List Key) : Prop where
  e : ∀ e ∈ es, ThE e ∧ OkT ns rs false e
  r : ∀ e ∈ es, Rk es 2 e ∧ e.ht ≤ 4 ∧ e.sc ≤ 5
theorem wf_of {n : Nat} {th : Th} (h : Rk es n th) : Wf es (fun _ => True) th := by cases n <;> exact Wf.mono (fun _ _ => trivial) th h
theorem wG_bd (hP : PoolP es ns rs) (hT : TabB ns rs tn tr) : ∀ n, ∀ e ∈ es, (wG es tn tr n e).natAbs ≤ bV n
  | 0, e, _ => Nat.zero_le _
  | n + 1, e, he => (wv_bd hT (wG_bd hP hT n) e false (wf_of (hP.r e he).1) (hP.e e he).1.2 (hP.e e he).2).1 rfl
theorem wG_small (hP : PoolP es ns rs) (hT : TabB ns rs tn tr) {n : Nat} (hn : n ≤ 4) : ∀ e ∈ es, (wG es tn tr n e).natAbs < 2 ^ 5000 := fun e he => by
  have h := wG_bd hP hT n e he
  have h2 : bV n < 2 ^ 5000 := by
    match n, hn with
    | 0, _ => decide +kernel
    | 1, _ => decide +kernel
    | 2, _ => decide +kernel
    | 3, _ => decide +kernel
    | 4, _ => decide +kernel
  omega
theorem sum_bd (hP : PoolP es ns rs) (hT : TabB ns rs tn tr) {n B : Nat} (hn : n ≤ 3) {ps : List (Nat × Int)} {m : Int} (hr : Rk es n (.sum ps m)) (hb : m.natAbs ≤ B) : ((WW es tn tr n (.sum ps m)).1).natAbs ≤ 10 ^ 130 + B := by
  have h := (wv_bd hT (wG_bd hP hT n) (.sum ps m) false (wf_of hr) hb trivial).1 rfl
  have h2 : 4 * (10 ^ 20 * bV n) + 10 ^ 60 ≤ 10 ^ 130 := by
    match n, hn with
    | 0, _ => decide +kernel
    | 1, _ => decide +kernel
    | 2, _ => decide +kernel
    | 3, _ => decide +kernel
  show ((wv es tn tr (wG es tn tr n) (.sum ps m)).1).natAbs ≤ _
  omega
/-! ### products -/
theorem log2_lt' {x k : Nat} (h : x < 2 ^ k) (hk : 0 < k) : x.log2 < k := by
  by_cases h0 : x = 0
  · rw [h0]
    show Nat.log2 0 < k
    rw [show Nat.log2 0 = 0 by decide]
    exact hk
  · exact (Nat.log2_lt h0).mpr h
theorem cmul_of {i j : Int} (hi : i.natAbs < 2 ^ 6000) (hj : j.natAbs < 2 ^ 6000) : CMulW i j := by
  have h1 := log2_lt' hi (by decide)
  have h2 := log2_lt' hj (by decide)
  show i.natAbs.log2 + j.natAbs.log2 < 1000000
  omega
abbrev cap : Nat := (10 ^ 20 + 2) * 2 ^ 5000
theorem cap_ok : 12 * cap < 2 ^ 6000 := by decide +kernel
theorem ten_ok : (10 : Nat) ^ 20 + 2 < 2 ^ 6000 := by decide +kernel
theorem one_ok : (1 : Nat) < 2 ^ 6000 := by decide +kernel
theorem comb_mul : ∀ {d : Nat} {L : List Lf} {t : Tm}, Comb d L t → L.length ≤ 12 → (∀ x ∈ L, MulOk tn tr x.2.1 ∧ ((tv tn tr x.2.1).1).natAbs < 2 ^ 5000 ∧ x.2.2.natAbs ≤ 10 ^ 20 + 2) → MulOk tn tr t ∧ ((tv tn tr t).1).natAbs ≤ L.length * cap
  | _, _, _, .one d k a, hl, h => by
    obtain ⟨h1, h2, h3⟩ := h _ (List.mem_cons_self ..)
    refine ⟨h1, ?_⟩
    dsimp only at h2
    show _ ≤ 1 * cap
    rw [Nat.one_mul]
    exact Nat.le_trans (Nat.le_of_lt h2) (Nat.le_mul_of_pos_left _ (by decide))
  | _, _, _, .neg d k a w, hl, h => by
    obtain ⟨h1, h2, h3⟩ := h _ (List.mem_cons_self ..)
    dsimp only at h2 h3
    have hw : (0 - w).natAbs ≤ 10 ^ 20 + 2 := by omega
    have hv : ((0 - w) * (tv tn tr a).1).natAbs ≤ cap := by
      rw [Int.natAbs_mul]
      exact Nat.mul_le_mul hw (Nat.le_of_lt h2)
    have c1 : (cap : Nat) < 2 ^ 6000 := Nat.lt_of_le_of_lt (Nat.le_mul_of_pos_left _ (by decide)) cap_ok
    refine ⟨⟨cmul_of (i := -1) one_ok (Nat.lt_of_le_of_lt hv c1), cmul_of (Nat.lt_of_le_of_lt hw ten_ok) (Nat.lt_of_lt_of_le h2 (Nat.pow_le_pow_right (by decide) (by decide))), h1⟩, ?_⟩
    show (-1 * ((0 - w) * (tv tn tr a).1)).natAbs ≤ 1 * cap
    rw [Nat.one_mul, Int.natAbs_mul]
    show 1 * _ ≤ _
    rw [Nat.one_mul]
    exact hv
  | _, _, _, .mul d k a w, hl, h => by
    obtain ⟨h1, h2, h3⟩ := h _ (List.mem_cons_self ..)
    dsimp only at h2 h3
    refine ⟨⟨cmul_of (Nat.lt_of_le_of_lt h3 ten_ok) (Nat.lt_of_lt_of_le h2 (Nat.pow_le_pow_right (by decide) (by decide))), h1⟩, ?_⟩
    show (w * (tv tn tr a).1).natAbs ≤ 1 * cap
    rw [Nat.one_mul, Int.natAbs_mul]
    exact Nat.mul_le_mul h3 (Nat.le_of_lt h2)
  | _, _, _, .add (L := L) (M := M) (t := t) (u := u) c1 c2, hl, h => by
    rw [List.length_append] at hl
    have a := comb_mul c1 (by omega) fun x hx => h x (List.mem_append_left _ hx)
    have b := comb_mul c2 (by omega) fun x hx => h x (List.mem_append_right _ hx)
    refine ⟨⟨a.1, b.1⟩, ?_⟩
    show ((tv tn tr t).1 + (tv tn tr u).1).natAbs ≤ _
    rw [List.length_append, Nat.add_mul]
    have := a.2
    have := b.2
    omega
  | _, _, _, .nadd (L := L) (M := M) (t := t) (u := u) c1 c2, hl, h => by
    have e : ∀ {L : List Lf}, (∀ x ∈ L, MulOk tn tr x.2.1 ∧ ((tv tn tr x.2.1).1).natAbs < 2 ^ 5000 ∧ x.2.2.natAbs ≤ 10 ^ 20 + 2) → ∀ x ∈ turned (-1) L, MulOk tn tr x.2.1 ∧ ((tv tn tr x.2.1).1).natAbs < 2 ^ 5000 ∧ x.2.2.natAbs ≤ 10 ^ 20 + 2 := fun h x hx => by
      obtain ⟨y, hy, rfl⟩ := List.mem_map.mp hx
      obtain ⟨h1, h2, h3⟩ := h y hy
      exact ⟨h1, h2, by show (-1 * y.2.2).natAbs ≤ _; omega⟩
    have el : ∀ L : List Lf, (turned (-1) L).length = L.length := fun L => List.length_map _
    rw [List.length_append] at hl
    have a := comb_mul c1 (by rw [el]; omega) (e fun x hx => h x (List.mem_append_left _ hx))
    have b := comb_mul c2 (by rw [el]; omega) (e fun x hx => h x (List.mem_append_right _ hx))
    rw [el] at a b
    have hs : ((tv tn tr t).1 + (tv tn tr u).1).natAbs ≤ (L.length + M.length) * cap := by
      rw [Nat.add_mul]
      have := a.2
      have := b.2
      omega
    have c0 := Nat.lt_of_le_of_lt (Nat.le_trans hs (Nat.mul_le_mul_right cap hl)) cap_ok
    refine ⟨⟨cmul_of (i := -1) one_ok c0, a.1, b.1⟩, ?_⟩
    show (-1 * ((tv tn tr t).1 + (tv tn tr u).1)).natAbs ≤ _
    rw [List.length_append, Int.natAbs_mul]
    show 1 * _ ≤ _
    rw [Nat.one_mul]
    exact hs
/-- what an atom's worth must keep -/
def AtV (tn : Key → Int) (tr : Key → RowF) (e : Ent) : Prop := MulOk tn tr e.a ∧ ((tv tn tr e.a).1).natAbs < 2 ^ 5000
theorem spl_mul (hP : PoolP es ns rs) (hT : TabB ns rs tn' tr) (hnm : ∀ l t, nm l t → (tv tn tr t).1 = tn' l ∧ MulOk tn tr t ∧ ∀ e ∈ ats t, AtV tn tr e) {th : Th} {t : Tm} (s : Spl es nm th t) : ∀ n B, n ≤ 3 → Rk es n th → ThB B th → B ≤ 10 ^ 140 → MulOk tn tr t ∧ (th.isSum = true → ∀ e ∈ ats t, AtV tn tr e) ∧ ((∀ l, th ≠ .nam l) → th.isSum = false → ∃ f, ats t = [⟨t, 1, f⟩]) := by
  induction s with
  | nam h => intro n B hn hr hb hB; exact ⟨(hnm _ _ h).2.1, fun z => Bool.noConfusion z, fun q => absurd rfl (q _)⟩
  | row l => intro n B hn hr hb hB; exact ⟨trivial, fun z => Bool.noConfusion z, fun _ _ => ⟨_, rfl⟩⟩
  | wth _ _ _ i1 i2 i3 =>
    intro n B hn hr hb hB
    replace hr := rk_wth hr
    obtain ⟨_, b4, b5, b6⟩ := hb
    exact ⟨⟨(i1 n B hn hr.1 b4 hB).1, (i2 n B hn hr.2.1 b5 hB).1, (i3 n B hn hr.2.2 b6 hB).1⟩, fun z => Bool.noConfusion z, fun _ _ => ⟨_, rfl⟩⟩
  | room _ i => intro n B hn hr hb hB; exact ⟨(i n B hn (rk_room hr) hb.2 hB).1, fun z => Bool.noConfusion z, fun _ _ => ⟨_, rfl⟩⟩
  | read _ _ i1 i2 =>
    intro n B hn hr hb hB
    replace hr := rk_read hr
    exact ⟨⟨(i1 n B hn hr.1 hb.2.1 hB).1, (i2 n B hn hr.2 hb.2.2 hB).1⟩, fun z => Bool.noConfusion z, fun _ _ => ⟨_, rfl⟩⟩
  | size _ i => intro n B hn hr hb hB; exact ⟨(i n B hn (rk_size hr) hb.2 hB).1, fun z => Bool.noConfusion z, fun _ _ => ⟨_, rfl⟩⟩
  | div k _ i => intro n B hn hr hb hB; exact ⟨(i n B hn (rk_div hr) hb.2.1 hB).1, fun z => Bool.noConfusion z, fun _ _ => ⟨_, rfl⟩⟩
  | mod k _ i => intro n B hn hr hb hB; exact ⟨(i n B hn (rk_mod hr) hb.2.1 hB).1, fun z => Bool.noConfusion z, fun _ _ => ⟨_, rfl⟩⟩
  | @sum ps m L t hb hl hw hk hs' hn' hc ih =>
    intro n B hn hr hb' hB
    have leaf : ∀ x ∈ L, MulOk tn tr x.2.1 ∧ ((tv tn tr x.2.1).1).natAbs < 2 ^ 5000 ∧ ∀ e ∈ ats x.2.1, AtV tn tr e := fun x hx => by
      by_cases h0 : x.1 < 0
      · obtain ⟨k, e, hk'⟩ := hn' x hx h0
        rw [e]
        refine ⟨trivial, ?_, fun e he => absurd he List.not_mem_nil⟩
        show k.natAbs < _
        have h1 : m.natAbs ≤ B := hb'
        have h2 : (10 : Nat) ^ 140 + 6 ≤ 2 ^ 5000 := by decide +kernel
        omega
      · obtain ⟨e, he, hd⟩ := hk x hx (by omega)
        have hm := hP.e e (List.mem_of_getElem? he)
        have hsp := hs' x hx (by omega) e he
        have hM : ∀ n', n' + 1 ≤ n ∨ n' = 0 → Rk es n' e → MulOk tn tr x.2.1 ∧ ((tv tn tr x.2.1).1).natAbs < 2 ^ 5000 ∧ ∀ e ∈ ats x.2.1, AtV tn tr e := fun n' hd' hr' => by
          obtain ⟨m1, _, m3⟩ := ih x hx (by omega) e he n' (10 ^ 20) (by omega) hr' hm.1.2 (by decide)
          have ht := (spl_tv hP.e (fun l t q => (hnm l t q).1) hsp n' (10 ^ 20) hr' hm.1.2).1 (okt_rw hm.2)
          have hv : ((tv tn tr x.2.1).1).natAbs < 2 ^ 5000 := by
            rw [ht]
            exact wG_small hP hT (n := n' + 1) (by omega) e (List.mem_of_getElem? he)
          refine ⟨m1, hv, ?_⟩
          by_cases q : ∃ l, e = .nam l
          · obtain ⟨l, rfl⟩ := q
            cases hsp with
            | nam h => exact (hnm _ _ h).2.2
          · obtain ⟨f, hf⟩ := m3 (fun l z => q ⟨l, z⟩) hm.1.1
            rw [hf]
            intro y hy
            rw [List.mem_singleton] at hy
            subst hy
            exact ⟨m1, hv⟩
        exact leaf_tv (tn := tn') (tr := tr) hr he hd (R := fun _ => MulOk tn tr x.2.1 ∧ ((tv tn tr x.2.1).1).natAbs < 2 ^ 5000 ∧ ∀ e ∈ ats x.2.1, AtV tn tr e) hM
    refine ⟨(comb_mul hc hl fun x hx => ⟨(leaf x hx).1, (leaf x hx).2.1, by have := hw x hx; omega⟩).1, fun _ => ?_, fun _ z => Bool.noConfusion z⟩
    exact comb_all (P := fun t => ∀ e ∈ ats t, AtV tn tr e) (fun t u a b e he => (List.mem_append.mp he).elim (a e) (b e)) (fun n t a e he => by
      obtain ⟨y, hy, rfl⟩ := List.mem_map.mp he
      exact a y hy) hc fun x hx => (leaf x hx).2.2
end
end Lw
/-! Part H5: entries and pools in plain words; _law_s_form for every rank. -/
namespace Lw
open PySem PySem.Spec L2 L2.DX PyProof.Rows
section
variable {P : Program} {w : World} {K : PySem.W.Frag} {mg' : Str → Option Value} {base : Heap}
theorem ok_sform (D : Df K mg' "_law_s_form" 48) (mt : mg' "tuple" = none) (mis : mg' "isinstance" = none) (mr : mg' "repr" = none) (mso : mg' "sorted" = none) (es : List Th) : ∀ n h : Nat, Gg P w K mg' base (10 * n + h + 1) "_law_s_form" ["_law_pool", "_law_thing"] (spSForm es n h) := by
  intro n
  induction n with
  | zero =>
    intro h
    induction h with
    | zero => exact st_sform D mt mis mr mso es 0 0 0 (fun n' e => by omega) fun h' e => by omega
    | succ h ih => exact st_sform D mt mis mr mso es 0 (h + 1) (10 * 0 + h + 1) (fun n' e => by omega) fun h' e => by cases e; exact ih
  | succ n ihn =>
    intro h
    induction h with
    | zero => exact st_sform D mt mis mr mso es (n + 1) 0 (10 * (n + 1)) (fun n' e => by cases e; exact (ihn 4).mono (by omega)) fun h' e => by omega
    | succ h ih => exact st_sform D mt mis mr mso es (n + 1) (h + 1) (10 * (n + 1) + h + 1) (fun n' e => by cases e; exact (ihn 4).mono (by omega)) fun h' e => by cases e; exact ih
end
/-! ### entries -/
/-- what an entry keeps: m entries may be named -/
structure EnP (ns rs : List Key) (m : Nat) (th : Th) : Prop where
  e : ThE th
  o : OkT ns rs false th
  h : th.ht ≤ 4
  s : th.sc ≤ 5
  w : ∀ (es : List Th) (G : Th → Prop), (∀ k : Nat, k < m → ∃ e, es[k]? = some e ∧ G e) → Wf es G th
theorem sumOk_inv {m o : Nat} {s : Th} (h : SumOk m o s) : ∃ ps n, s = .sum ps n ∧ SmOk m o ps n := by
  cases s <;> first | exact ⟨_, _, rfl, h⟩ | exact h.elim
theorem smOk_wf {m : Nat} {ps : List (Nat × Int)} {n : Int} {o : Nat} (ho : o ≤ 4) (h : SmOk m o ps n) (es : List Th) (G : Th → Prop) (g : ∀ k : Nat, k < m → ∃ e, es[k]? = some e ∧ G e) : Wf es G (.sum ps n) := by
  obtain ⟨h1, h2, _⟩ := h
  refine ⟨by omega, fun q hq => ?_⟩
  obtain ⟨a, b, c⟩ := h2 q hq
  exact ⟨b, c, g _ a⟩
structure RwP (ns rs : List Key) (m d : Nat) (th : Th) : Prop where
  r : th.isRw = true
  b : ThB (10 ^ 20) th
  o : OkT ns rs true th
  h : th.ht ≤ d + 1
  s : th.sc ≤ max (2 * d) 1
  w : ∀ (es : List Th) (G : Th → Prop), (∀ k : Nat, k < m → ∃ e, es[k]? = some e ∧ G e) → Wf es G th
structure SuP (ns rs : List Key) (m : Nat) (th : Th) : Prop where
  r : th.isSum = true
  b : ThB (10 ^ 20) th
  o : OkT ns rs false th
  h : th.ht = 0
  s : th.sc = 1
  w : ∀ (es : List Th) (G : Th → Prop), (∀ k : Nat, k < m → ∃ e, es[k]? = some e ∧ G e) → Wf es G th
theorem suP {ns rs : List Key} {m : Nat} {th : Th} (h : SumOk m 2 th) : SuP ns rs m th := by
  obtain ⟨ps, n, rfl, h⟩ := sumOk_inv h
  obtain ⟨h1, h2, h3, h4⟩ := h
  exact ⟨rfl, show n.natAbs ≤ 10 ^ 20 by omega, trivial, rfl, rfl, fun es G g => smOk_wf (by decide) ⟨h1, h2, h3, h4⟩ es G g⟩
theorem rwC {ns rs : List Key} {m : Nat} (hr : ∀ l ∈ rs, GD (kd l)) : ∀ (d : Nat) (th : Th), RwC rs m d th → th.isRw = true ∧ ThB (10 ^ 20) th ∧ OkT ns rs true th ∧ th.ht ≤ d ∧ th.sc ≤ 2 * d ∧ ∀ (es : List Th) (G : Th → Prop), (∀ k : Nat, k < m → ∃ e, es[k]? = some e ∧ G e) → Wf es G th
  | d, .row l, h => by
    have h' : l ∈ rs := by cases d <;> exact h
    exact ⟨rfl, hr l h', h', Nat.zero_le _, Nat.zero_le _, fun _ _ _ => trivial⟩
  | d + 1, .wth r s t, h => by
    obtain ⟨a1, a2, a3, a4, a5, a6⟩ := rwC (ns := ns) hr d r h.1
    have b := suP (ns := ns) (rs := rs) h.2.1
    have c := suP (ns := ns) (rs := rs) h.2.2
    refine ⟨rfl, ⟨⟨a1, b.r, c.r⟩, a2, b.b, c.b⟩, ⟨a3, b.o, c.o⟩, ?_, ?_, fun es G g => ⟨a6 es G g, b.w es G g, c.w es G g⟩⟩
    · show max r.ht (max s.ht t.ht) + 1 ≤ d + 1
      rw [b.h, c.h]
      omega
    · show r.sc + s.sc + t.sc ≤ 2 * (d + 1)
      rw [b.s, c.s]
      omega
  | 0, .wth _ _ _, h => h.elim
  | 0, .nam _, h => h.elim
  | 0, .sum _ _, h => h.elim
  | 0, .room _, h => h.elim
  | 0, .read _ _, h => h.elim
  | 0, .size _, h => h.elim
  | 0, .div _ _, h => h.elim
  | 0, .mod _ _, h => h.elim
  | _ + 1, .nam _, h => h.elim
  | _ + 1, .sum _ _, h => h.elim
  | _ + 1, .room _, h => h.elim
  | _ + 1, .read _ _, h => h.elim
  | _ + 1, .size _, h => h.elim
  | _ + 1, .div _ _, h => h.elim
  | _ + 1, .mod _ _, h => h.elim
theorem rwP {ns rs : List Key} {m : Nat} (hr : ∀ l ∈ rs, GD (kd l)) {th : Th} (h : RwOk rs m 2 th) : RwP ns rs m 2 th := by
  by_cases q : ∃ s, th = .room s
  · obtain ⟨s, rfl⟩ := q
    have b := suP (ns := ns) (rs := rs) (show SumOk m 2 s from h)
    refine ⟨rfl, ⟨b.r, b.b⟩, b.o, ?_, ?_, fun es G g => b.w es G g⟩
    · show s.ht + 1 ≤ 3
      rw [b.h]
      omega
    · show s.sc ≤ _
      rw [b.s]
      decide
  · have h' : RwC rs m 2 th := by cases th <;> first | exact h | exact absurd ⟨_, rfl⟩ q
    obtain ⟨a1, a2, a3, a4, a5, a6⟩ := rwC (ns := ns) hr 2 th h'
    exact ⟨a1, a2, a3, by omega, by omega, a6⟩
theorem enP {ns rs : List Key} {m : Nat} (hn : ∀ l ∈ ns, GD (kd l)) (hr : ∀ l ∈ rs, GD (kd l)) {th : Th} (h : EnOk ns rs m th) : EnP ns rs m th := by
  cases th with
  | nam l => exact ⟨⟨rfl, hn l h⟩, h, Nat.zero_le _, Nat.zero_le _, fun _ _ _ => trivial⟩
  | read r s =>
    have a := rwP (ns := ns) hr h.1
    have b := suP (ns := ns) (rs := rs) h.2
    refine ⟨⟨rfl, ⟨a.r, b.r⟩, a.b, b.b⟩, ⟨a.o, b.o⟩, ?_, ?_, fun es G g => ⟨a.w es G g, b.w es G g⟩⟩
    · have := a.h
      show max r.ht s.ht + 1 ≤ 4
      rw [b.h]
      omega
    · have := a.s
      show r.sc + s.sc ≤ 5
      rw [b.s]
      omega
  | size r =>
    have a := rwP (ns := ns) hr h
    refine ⟨⟨rfl, a.r, a.b⟩, a.o, ?_, ?_, fun es G g => a.w es G g⟩
    · have := a.h
      show r.ht + 1 ≤ 4
      omega
    · have := a.s
      show r.sc ≤ 5
      omega
  | div s k =>
    have b := suP (ns := ns) (rs := rs) h.1
    refine ⟨⟨rfl, b.r, b.b, Nat.lt_of_le_of_lt (show k.natAbs ≤ 1000000000 by have := h.2; omega) (by decide)⟩, ⟨b.o, h.2⟩, ?_, ?_, fun es G g => b.w es G g⟩
    · show s.ht + 1 ≤ 4
      rw [b.h]
      omega
    · show s.sc ≤ 5
      rw [b.s]
      omega
  | mod s k =>
    have b := suP (ns := ns) (rs := rs) h.1
    refine ⟨⟨rfl, b.r, b.b, Nat.lt_of_le_of_lt (show k.natAbs ≤ 1000000000 by have := h.2; omega) (by decide)⟩, ⟨b.o, h.2⟩, ?_, ?_, fun es G g => b.w es G g⟩
    · show s.ht + 1 ≤ 4
      rw [b.h]
      omega
    · show s.sc ≤ 5
      rw [b.s]
      omega
  | _ => exact h.elim
/-! ### pools -/
theorem wf_app {es : List Th} {x : Th} {G : Th → Prop} : ∀ {th : Th}, Wf es G th → Wf (es ++ [x]) G th
  | .sum ps n, w => ⟨w.1, fun q hq => by
    obtain ⟨a, b, e, he, g⟩ := w.2 q hq
    exact ⟨a, b, e, by rw [List.getElem?_append_left (List.getElem?_eq_some_iff.mp he).1]; exact he, g⟩⟩
  | .wth r s t, w => ⟨wf_app w.1, wf_app w.2.1, wf_app w.2.2⟩
  | .room s, w => wf_app (th := s) w
  | .read r s, w => ⟨wf_app w.1, wf_app w.2⟩
  | .size r, w => wf_app (th := r) w
  | .div s _, w => wf_app (th := s) w
  | .mod s _, w => wf_app (th := s) w
  | .nam _, _ => trivial
  | .row _, _ => trivial
theorem rk_app {es : List Th} {x : Th} : ∀ {n : Nat} {th : Th}, Rk es n th → Rk (es ++ [x]) n th
  | 0, _, h => wf_app h
  | n + 1, _, h => wf_app (Wf.mono (fun e z => ⟨rk_app z.1, z.2⟩) _ h)
theorem rk_le {es : List Th} {n n' : Nat} {th : Th} (h : Rk es n th) (k : n ≤ n') : Rk es n' th := by
  induction k with
  | refl => exact h
  | step _ ih => exact ih.succ
/-- a pool under way: its entries are of rank i at most -/
structure PoolI (ns rs : List Key) (es0 : List Th) (i : Nat) (es : List Th) : Prop where
  e : ∀ e ∈ es, (ThE e ∧ OkT ns rs false e) ∧ Rk es i e ∧ e.ht ≤ 4 ∧ e.sc ≤ 5
  p : ∃ r, es = es0 ++ r ∧ r.length ≤ i
theorem PoolI.add {ns rs : List Key} {es0 es : List Th} {i : Nat} (h : PoolI ns rs es0 i es) {th : Th} (t : EnP ns rs es.length th) : Rk es (i + 1) th ∧ PoolI ns rs es0 (i + 1) (es ++ [th]) := by
  have hr : Rk es (i + 1) th := t.w es _ fun k hk => ⟨es[k], List.getElem?_eq_getElem hk, (h.e _ (List.getElem_mem hk)).2⟩
  refine ⟨hr, ⟨fun e he => ?_, ?_⟩⟩
  · rcases List.mem_append.mp he with he | he
    · obtain ⟨a, b, c⟩ := h.e e he
      exact ⟨a, rk_app b.succ, c⟩
    · rw [List.mem_singleton] at he
      subst he
      exact ⟨⟨t.e, t.o⟩, rk_app hr, t.h, t.s⟩
  · obtain ⟨r, e, hl⟩ := h.p
    exact ⟨r ++ [th], by rw [e, List.append_assoc], by rw [List.length_append]; show r.length + 1 ≤ _; omega⟩
theorem PoolI.next {ns rs : List Key} {es0 es : List Th} {i : Nat} (h : PoolI ns rs es0 i es) : PoolI ns rs es0 (i + 1) es := by
  obtain ⟨r, e, hl⟩ := h.p
  exact ⟨fun x hx => let ⟨a, b, c⟩ := h.e x hx; ⟨a, b.succ, c⟩, r, e, by omega⟩
theorem PoolI.names {ns rs : List Key} (hn : ∀ l ∈ ns, GD (kd l)) : PoolI ns rs (ns.map .nam) 0 (ns.map .nam) := by
  refine ⟨fun e he => ?_, [], (List.append_nil _).symm, Nat.le_refl _⟩
  obtain ⟨l, hl, rfl⟩ := List.mem_map.mp he
  exact ⟨⟨⟨rfl, hn l hl⟩, hl⟩, trivial, Nat.zero_le _, Nat.zero_le _⟩
end Lw
/-! Part H6: the walk of _law_s_pool. -/
namespace Lw
open PySem PySem.Spec L2 L2.DX PyProof.Rows
def rsK (z : Str) : List Key := [.inr z, .inl 1, .inr "given"]
def nsK (x y : Str) (k : Int) (u : Nat) : List Key := [.inr x, .inr y, .inl 0, .inl k] ++ ([.inr "left", .inr "own"] : List Key).take u
/-- what the law knows of its drawn pool -/
def PoolG (x y z : Str) (es : List Th) (ns : List Key) : Prop := PoolP es ns (rsK z) ∧ es.length ≤ 8 ∧ 4 ≤ es.length ∧ Names4 es ∧ (∀ l ∈ ns, .nam l ∈ es) ∧ (∀ l ∈ ns, l ∉ rsK z) ∧ (∀ l ∈ ns, GD (kd l)) ∧ ∀ l ∈ rsK z, GD (kd l)
def spPool : Sp := fun vs H Q _ => ∃ (p N : Addr) (x y z : Str) (r : Nat), vs = [.ref p, .ref N, .int 2, .int 6] ∧ N ≠ p ∧ H N = some (.lst [.str x, .str y, .str z]) ∧ NamesOk x y z ∧ Pen H p (r + 110) ∧
  ∀ L es ns H', H L = none → PoolR p H' L es → PoolG x y z es ns → Kq p H H' → Pen H' p r → Q (.ref L) H'
def spEntryA : Sp := fun vs H Q E => ∃ a : List Key × List Key, True ∧ spEntry a.1 a.2 vs H Q E
def spSFormA : Sp := fun vs H Q E => ∃ es : List Th, True ∧ spSForm es 2 4 vs H Q E
def nmD (l : Key) : PyData := .tuple [.str "name", kd l]
theorem pool_names {p L : Addr} {H : Hp} {vs : List V} {ls : List Key} (hL : L ≠ p) (h : H L = some (.lst vs)) (d : DRs H vs (ls.map nmD)) : PoolR p H L (ls.map .nam) := by
  refine ⟨hL, vs, h, by rw [d.length, List.length_map, List.length_map], fun i v e hv he => ?_⟩
  obtain ⟨d', hd, hr⟩ := d.getV hv
  rw [List.getElem?_map] at hd he
  obtain ⟨l, hl, rfl⟩ := Option.map_eq_some_iff.mp hd
  rw [hl] at he
  cases he
  exact hr
/-- things stand where a list that begins with a name's tuple is written -/
theorem thr_set {p L a0 : Addr} {H : Hp} {vs ws r : List V} {x : Str} (hL : H L = some (.lst (.ref a0 :: vs))) (h0 : H a0 = some (.tup (.str x :: r))) : ∀ (th : Th) (v : V), ThR p H v th → ThR p (upd H L (.lst ws)) v th := by
  have kt : KT H (upd H L (.lst ws)) := KT.set hL fun ys z => by cases z
  intro th
  induction th with
  | nam l => exact fun v h => DR.kt h kt
  | row l => exact fun v h => DR.kt h kt
  | sum ps n =>
    rintro v ⟨a, b, xs, e, h1, h2, h3, h4⟩
    have hb : b ≠ L := fun z => by
      rw [z, hL] at h3
      cases h3
      cases ps with
      | nil => cases h4
      | cons q ps =>
        obtain ⟨v, r', e, g, _⟩ := h4.cons_inv
        cases e
        obtain ⟨a', xs, e, ha, hx⟩ := g.tup_inv
        cases e
        rw [h0] at ha
        cases ha
        obtain ⟨v, r', e, g, _⟩ := hx.cons_inv
        cases e
        cases g
    exact ⟨a, b, xs, e, kt _ _ h1, h2, by rw [upd_ne hb]; exact h3, h4.kt kt⟩
  | wth r s t i1 i2 i3 => exact fun v ⟨a, x, y, z, e, h, h1, h2, h3⟩ => ⟨a, x, y, z, e, kt _ _ h, i1 x h1, i2 y h2, i3 z h3⟩
  | room s i => exact fun v ⟨a, x, e, h, h1⟩ => ⟨a, x, e, kt _ _ h, i x h1⟩
  | read r s i1 i2 => exact fun v ⟨a, x, y, e, h, h1, h2⟩ => ⟨a, x, y, e, kt _ _ h, i1 x h1, i2 y h2⟩
  | size r i => exact fun v ⟨a, x, e, h, h1⟩ => ⟨a, x, e, kt _ _ h, i x h1⟩
  | div s n i => exact fun v ⟨a, x, e, h, h1⟩ => ⟨a, x, e, kt _ _ h, i x h1⟩
  | mod s n i => exact fun v ⟨a, x, e, h, h1⟩ => ⟨a, x, e, kt _ _ h, i x h1⟩
/-- an entry more -/
theorem PoolR.add {p L : Addr} {H : Hp} {es : List Th} (h : PoolR p H L es) {vs : List V} (hv : H L = some (.lst vs)) {l : Key} (h0 : es[0]? = some (.nam l)) {v : V} {th : Th} (ht : ThR p H v th) : PoolR p (upd H L (.lst (vs ++ [v]))) L (es ++ [th]) := by
  obtain ⟨h1, vs', h2, h3, h4⟩ := h
  rw [hv] at h2
  cases h2
  have hl0 : 0 < es.length := (List.getElem?_eq_some_iff.mp h0).1
  cases vs with
  | nil => simp at h3; omega
  | cons w vs =>
    obtain ⟨a0, r, rfl, ha⟩ := ThR.word (h4 0 w _ rfl h0)
    refine ⟨h1, _, upd_same, by rw [List.length_append, List.length_append, h3]; rfl, fun i u e hu he => ?_⟩
    refine thr_set hv ha e u ?_
    by_cases hi : i < es.length
    · rw [List.getElem?_append_left hi] at he
      rw [List.getElem?_append_left (by rw [h3]; exact hi)] at hu
      exact h4 i u e hu he
    · have hl := (List.getElem?_eq_some_iff.mp he).1
      rw [List.length_append, List.length_singleton] at hl
      have e1 : i = es.length := by omega
      subst e1
      rw [List.getElem?_append_right (Nat.le_refl _), Nat.sub_self] at he
      rw [List.getElem?_append_right (by omega), h3, Nat.sub_self] at hu
      cases he
      cases hu
      exact ht
theorem gd_low {x : Str} (h : Low x) : GD (.str x) := by rw [GD]; exact ⟨h.2, h.1⟩
theorem gd_lit {x : Str} (h : lowB x = true) : GD (.str x) := by rw [GD]; exact lowB_ok h
theorem ns_good {x y z : Str} {t : Int} {u : Nat} (h : NamesOk x y z) (t0 : 0 ≤ t) (t1 : t < 30) : ∀ l ∈ nsK x y (7 + t) u, GD (kd l) ∧ l ∉ rsK z := by
  have hb : ∀ w : Str, w ∉ bad → w ≠ z → (Sum.inr w : Key) ∉ rsK z := fun w hw hz hm => by
    unfold rsK at hm
    simp only [List.mem_cons, List.not_mem_nil, or_false] at hm
    rcases hm with e | e | e
    · injection e with e
      exact hz e
    · cases e
    · injection e with e
      exact hw (by rw [e]; unfold bad; decide)
  have hi : ∀ i : Int, i ≠ 1 → (Sum.inl i : Key) ∉ rsK z := fun i hi hm => by
    unfold rsK at hm
    simp only [List.mem_cons, List.not_mem_nil, or_false] at hm
    rcases hm with e | e | e
    · cases e
    · injection e with e
      exact hi e
    · cases e
  have hs : ∀ w : Str, w ∈ bad → w ≠ "given" → (Sum.inr w : Key) ∉ rsK z := fun w hw hg hm => by
    unfold rsK at hm
    simp only [List.mem_cons, List.not_mem_nil, or_false] at hm
    rcases hm with e | e | e
    · injection e with e
      exact h.bz (by rw [← e]; exact hw)
    · cases e
    · injection e with e
      exact hg e
  intro l hl
  rcases List.mem_append.mp hl with hl | hl
  · simp only [List.mem_cons, List.not_mem_nil, or_false] at hl
    rcases hl with rfl | rfl | rfl | rfl
    · exact ⟨gd_low h.lx, hb _ h.bx (Ne.symm h.zx)⟩
    · exact ⟨gd_low h.ly, hb _ h.bY (Ne.symm h.zy)⟩
    · exact ⟨gd_int (by decide), hi 0 (by decide)⟩
    · exact ⟨gd_int (Nat.lt_of_le_of_lt (show (7 + t).natAbs ≤ 100 by omega) (by decide)), hi _ (by omega)⟩
  · have hl := List.mem_of_mem_take hl
    simp only [List.mem_cons, List.not_mem_nil, or_false] at hl
    rcases hl with rfl | rfl
    · exact ⟨gd_lit (by decide +kernel), hs _ (by unfold bad; decide) (by decide)⟩
    · exact ⟨gd_lit (by decide +kernel), hs _ (by unfold bad; decide) (by decide)⟩
theorem rs_good {x y z : Str} (h : NamesOk x y z) : ∀ l ∈ rsK z, GD (kd l) := fun l hl => by
  unfold rsK at hl
  simp only [List.mem_cons, List.not_mem_nil, or_false] at hl
  rcases hl with rfl | rfl | rfl
  · exact gd_low h.lz
  · exact gd_int (by decide)
  · exact gd_lit (by decide +kernel)
theorem scPool : FnScope ["_law_pen", "_law_names", "_law_more", "_law_most", "_law_rows", "_law_pool", "_law_turn", "_law_one", "_law_other"] ["_law_pen", "_law_names", "_law_more", "_law_most"] (defScope (top 47)) := ⟨rfl, rfl, rfl, by decide +kernel, rfl, by decide +kernel, by decide +kernel⟩
section
variable {P : Program} {w : World} {K : PySem.W.Frag} {mg' : Str → Option Value} {base : Heap}
theorem ok_pool {k : Nat} (hk : 7 ≤ k) (D : Df K mg' "_law_s_pool" 47) (ml : mg' "len" = none) (mr : mg' "range" = none) (G : Gv P w K mg' base 2 "_law_take" ["_law_pen", "_law_many"] spTake)
    (GE : Gv P w K mg' base 6 "_law_s_entry" ["_law_pen", "_law_many", "_law_rows", "_law_most"] spEntryA) (GF : Gg P w K mg' base k "_law_s_form" ["_law_pool", "_law_thing"] spSFormA) :
    Gg P w K mg' base (k + 1) "_law_s_pool" ["_law_pen", "_law_names", "_law_more", "_law_most"] spPool := by
  refine okGg D scPool (fun _ _ _ _ _ _ us hl => match us, hl with | [_, _, _, _], _ => rfl) (fun vs H Q E h => ?_) (fun f cdv A out s H vs Q E gd hr h => ?_)
  · obtain ⟨p, N, x, y, z, r, rfl, _⟩ := h
    rfl
  obtain ⟨p, N, x, y, z, r, rfl, hNp, hN, hnm, hpen, q⟩ := h
  have nd := scPool.nd
  have hu65 : (A.deeper (envOfC "_law_s_pool" (defScope (top 47)) s.heap.objs.size f cdv)).units + 65 < cLine := by
    have := hr.un
    omega
  have hr2 := hr.mono (show 2 ≤ k by omega)
  have hr6 := hr.mono (show 6 ≤ k by omega)
  refine ⟨_, pss_cons (ps_set (i := 4) nd rfl (Or.inl rfl) (pe_lst (pa_cons (pe_ix ix_list (pv 1) pe_int (fun _ _ => rfl)) (pa_cons pe_int (pa_cons pe_str pa_nil)))))
    (pss_cons (ps_set (i := 5) nd rfl (Or.inr rfl) (pe_lst (pa_cons (pe_tup (pa_cons pe_str (pa_cons (pe_ix ix_list (pv 1) pe_int (fun _ _ => rfl)) pa_nil))) (pa_cons (pe_tup (pa_cons pe_str (pa_cons (pe_ix ix_list (pv 1) pe_int (fun _ _ => rfl)) pa_nil)))
      (pa_cons (pe_tup (pa_cons pe_str (pa_cons pe_int pa_nil))) (pa_cons (pe_tup (pa_cons pe_str (pa_cons (pe_op op_add pe_int (pe_v (E := E0) G hr2 rfl (pa_cons (pv 0) (pa_cons pe_int pa_nil)))) pa_nil))) pa_nil))))))
    (pss_cons (ps_set (i := 5) nd rfl (Or.inr rfl) (pe_op op_cat (pv 5) (pe_slice sl_list (pe_lst (pa_cons (pe_tup (pa_cons pe_str (pa_cons pe_str pa_nil))) (pa_cons (pe_tup (pa_cons pe_str (pa_cons pe_str pa_nil))) pa_nil))) po_none (po_some (pe_v (E := E0) G hr2 rfl (pa_cons (pv 0) (pa_cons pe_int pa_nil)))))))
    (pss_cons (ps_for PassesOwn.never rfl (pi_range1 rfl mr (pa_cons (pv 2) pa_nil)) (pg_name (i := 6) nd rfl (Or.inl rfl))
      (pss_cons (ps_set (i := 7) nd rfl (Or.inl rfl) (pe_v (E := E0) GE hr6 rfl (pa_cons (pv 0) (pa_cons (pe_callB call_len_seq rfl ml PySem.boot_len (pa_cons (pv 5) pa_nil)) (pa_cons (pv 4) (pa_cons (pv 3) pa_nil))))))
      (pss_one (ps_if (pt_cmpR (op_notInD hu65) (pe_g GF gd hr rfl (pa_cons (pv 5) (pa_cons (pv 7) pa_nil))) (pe_lc (own := [("_law_other", 8)]) (g := gName 8) (tt := tYes) rfl nd (pi_list (pv 5)) (blkOk_by (own := [("_law_other", 8)]) (N := ["_law_pen", "_law_names", "_law_more", "_law_most", "_law_rows", "_law_pool", "_law_turn", "_law_one", "_law_other"]) (sc := defScope (top 47)) (by decide +kernel))
          (fun _ _ _ _ _ => pg_name (i := 8) nd rfl (Or.inl rfl)) (fun _ _ _ _ _ => pts_nil) (fun _ _ _ _ _ => pe_g GF gd hr rfl (pa_cons (pv 5) (pa_cons (pv 8) pa_nil)))) (by rfl))
        (pss_one (ps_expr (pe_bm PySem.F.plainAttrs_list PySem.F.slot_list_append PySem.F.type_list_append mt_append (pv 5) (pa_cons (pv 7) pa_nil)))) pss_nil))))
    (pss_one (ps_ret (pv 5)))))), ?_⟩
  -- the rows
  refine ⟨_, rfl, N, _, _, _, rfl, rfl, SqL.of hN, rfl, by show 3 ≤ sizeLine; decide, fun l1 n1 => ?_⟩
  have z1 := same_upd (o := .lst [V.str z, .int 1, .str "given"]) n1
  have hN1 := z1 _ _ hN
  have pen1 := hpen.same z1
  -- the names
  refine ⟨_, rfl, N, _, _, _, rfl, rfl, SqL.of hN1, rfl, by show 2 ≤ sizeLine; decide, fun a2 n2 => ?_⟩
  have z2 := same_upd (o := .tup [V.str "name", .str x]) n2
  refine ⟨_, rfl, N, _, _, _, rfl, rfl, SqL.of (z2 _ _ hN1), rfl, by show 2 ≤ sizeLine; decide, fun a3 n3 => ?_⟩
  have z3 := same_upd (o := .tup [V.str "name", .str y]) n3
  refine ⟨by show 2 ≤ sizeLine; decide, fun a4 n4 => ?_⟩
  have z4 := same_upd (o := .tup [V.str "name", .int 0]) n4
  have pen4 := ((pen1.same z2).same z3).same z4
  refine ⟨_, rfl, p, 30, r + 109, rfl, by decide, by decide, pen4, fun t H5 t0 t1 k5 pen5 => ⟨_, _, rfl, rfl, by show 2 ≤ sizeLine; decide, fun a6 n6 => ⟨by show 4 ≤ sizeLine; decide, fun l7 n7 => ?_⟩⟩⟩
  have z6 := same_upd (o := .tup [V.str "name", .int (7 + t)]) n6
  have z7 := same_upd (o := .lst [V.ref a2, .ref a3, .ref a4, .ref a6]) n7
  refine ⟨_, rfl, by show 2 ≤ sizeLine; decide, fun a8 n8 => ⟨by show 2 ≤ sizeLine; decide, fun a9 n9 => ⟨by show 2 ≤ sizeLine; decide, fun l10 n10 => ?_⟩⟩⟩
  have z8 := same_upd (o := .tup [V.str "name", .str "left"]) n8
  have z9 := same_upd (o := .tup [V.str "name", .str "own"]) n9
  have z10 := same_upd (o := .lst [V.ref a8, .ref a9]) n10
  have pen9 := (((pen5.same z6).same z7).same z8).same z9
  have pen10 := pen9.same z10
  refine ⟨_, rfl, p, 3, r + 108, rfl, by decide, by decide, pen10.le (by omega), fun u H11 u0 u1 k11 pen11 => ?_⟩
  have hl10p : l10 ≠ p := pen9.ne n10
  refine ⟨_, rfl, l10, _, rfl, SqL.of (k11.st _ _ upd_same hl10p), fun l12 n12 => ?_⟩
  obtain ⟨un, hun, hun3⟩ : ∃ un : Nat, u = (un : Int) ∧ un ≤ 2 := ⟨u.toNat, by omega, by omega⟩
  subst hun
  have ecut : cutV [V.ref a8, V.ref a9] none (some (un : Int)) = [V.ref a8, V.ref a9].take un := cut_lo (n := un) _ (by simpa using hun3)
  rw [ecut]
  have z12 := same_upd (o := .lst ([V.ref a8, V.ref a9].take un)) n12
  have hl7p : l7 ≠ p := (pen5.same z6).ne n7
  have h7 : upd H11 l12 (.lst ([V.ref a8, V.ref a9].take un)) l7 = some (.lst [V.ref a2, .ref a3, .ref a4, .ref a6]) := z12 _ _ (k11.st _ _ (z10 _ _ (z9 _ _ (z8 _ _ upd_same))) hl7p)
  refine ⟨l7, l12, _, _, rfl, rfl, h7, upd_same, ?_, fun l13 n13 => ?_⟩
  · rw [List.length_take]
    exact Nat.le_of_lt (small20 (by simp; omega))
  have z13 := same_upd (o := .lst ([V.ref a2, .ref a3, .ref a4, .ref a6] ++ [V.ref a8, V.ref a9].take un)) n13
  have hl1p : l1 ≠ p := hpen.ne n1
  have h1_12 : upd H11 l12 (.lst ([V.ref a8, V.ref a9].take un)) l1 = some (.lst ((rsK z).map kV)) := z12 _ _ (k11.st _ _ (z10 _ _ (z9 _ _ (z8 _ _ (z7 _ _ (z6 _ _ (k5.st _ _ (z4 _ _ (z3 _ _ (z2 _ _ upd_same))) hl1p)))))) hl1p)
  have hne : l1 ≠ l13 := ne_of_none h1_12 n13
  have h13 : upd (upd H11 l12 (.lst ([V.ref a8, V.ref a9].take un))) l13 (.lst ([V.ref a2, .ref a3, .ref a4, .ref a6] ++ [V.ref a8, V.ref a9].take un)) l13 = some (.lst ([V.ref a2, .ref a3, .ref a4, .ref a6] ++ [V.ref a8, V.ref a9].take un)) := upd_same
  generalize upd (upd H11 l12 (.lst ([V.ref a8, V.ref a9].take un))) l13 (.lst ([V.ref a2, .ref a3, .ref a4, .ref a6] ++ [V.ref a8, V.ref a9].take un)) = H13 at z13 h13 ⊢
  have s4 : Same H _ := fun b o e => z4 _ _ (z3 _ _ (z2 _ _ (z1 _ _ e)))
  have k13 : Kq p H H13 := (((((((((Kq.of s4).trans k5).trans (.of z6)).trans (.of z7)).trans (.of z8)).trans (.of z9)).trans (.of z10)).trans k11).trans (.of z12)).trans (.of z13)
  have pen13 := (pen11.same z12).same z13
  have nl13 : H l13 = none := by
    cases e : H l13 with
    | none => rfl
    | some o =>
      have hp13 : l13 ≠ p := (pen11.same z12).ne n13
      have := (((((((((Kq.of s4).trans k5).trans (.of z6)).trans (.of z7)).trans (.of z8)).trans (.of z9)).trans (.of z10)).trans k11).trans (.of z12)).st _ _ e hp13
      rw [this] at n13
      cases n13
  have kt13 : KT H11 H13 := KT.of fun b o e => z13 _ _ (z12 _ _ e)
  have kt11 := (k11.kt pen10).trans kt13
  have ktA := (k5.kt pen4).trans ((KT.of fun b o e => z10 _ _ (z9 _ _ (z8 _ _ (z7 _ _ (z6 _ _ e))))).trans kt11)
  have nmT : ∀ {H' H'' : Hp} {a : Addr} {l : Key}, KT H' H'' → H' a = some (.tup [.str "name", kV l]) → DR H'' (.ref a) (nmD l) := fun k e => .tup (k _ _ e) (.cons (.str _) (.cons (.ofKey _) .nil))
  have dA : DRs H13 [V.ref a2, .ref a3, .ref a4, .ref a6] (([.inr x, .inr y, .inl 0, .inl (7 + t)] : List Key).map nmD) :=
    .cons (nmT (l := .inr x) ktA (z4 _ _ (z3 _ _ upd_same))) (.cons (nmT (l := .inr y) ktA (z4 _ _ upd_same)) (.cons (nmT (l := .inl 0) ktA upd_same) (.cons (nmT (l := .inl (7 + t)) ((KT.of fun b o e => z10 _ _ (z9 _ _ (z8 _ _ (z7 _ _ e)))).trans kt11) upd_same) .nil)))
  have dB : DRs H13 [V.ref a8, .ref a9] (([.inr "left", .inr "own"] : List Key).map nmD) :=
    .cons (nmT (l := .inr "left") ((KT.of fun b o e => z10 _ _ (z9 _ _ e)).trans kt11) upd_same) (.cons (nmT (l := .inr "own") ((KT.of z10).trans kt11) upd_same) .nil)
  have dC : DRs H13 ([V.ref a2, .ref a3, .ref a4, .ref a6] ++ [V.ref a8, V.ref a9].take un) ((nsK x y (7 + t) un).map nmD) := by
    unfold nsK
    rw [List.map_append, List.map_take]
    exact dA.append (drs_take un dB).1
  have hp13 : l13 ≠ p := (pen11.same z12).ne n13
  have pool13 := pool_names hp13 h13 dC
  have hnsg := fun l hl => ns_good (u := un) hnm t0 t1 l hl
  have hrsg := rs_good hnm
  have h1_13 := z13 _ _ h1_12
  have hlen0 : (nsK x y (7 + t) un).length ≤ 6 := by
    unfold nsK
    rw [List.length_append, List.length_take]
    show 4 + min un 2 ≤ 6
    omega
  refine ⟨_, rfl, _, rfl, by decide, by decide, ?_⟩
  refine for_range (lo := 0) (n := 2) (fun i σ H' => ∃ (e6 e7 : Option V) (es : List Th), σ = [some (.ref p), some (.ref N), some (.int 2), some (.int 6), some (.ref l1), some (.ref l13), e6, e7, none] ∧ PoolR p H' l13 es ∧ PoolI (nsK x y (7 + t) un) (rsK z) ((nsK x y (7 + t) un).map .nam) i es ∧ H' l1 = some (.lst ((rsK z).map kV)) ∧ Kq p H H' ∧ Pen H' p (r + 8 + 50 * (2 - i))) ?_ (fun i σ H' hi h => ?_) (fun σ H' h => ?_)
  · exact ⟨none, none, _, rfl, pool13, PoolI.names fun l hl => (hnsg l hl).1, h1_13, k13, pen13⟩
  · obtain ⟨e6, e7, es, rfl, hP, hI, hR, hk, hpn⟩ := h
    obtain ⟨er, hes0, herl⟩ := hI.p
    have hel : es.length ≤ 8 := by
      rw [hes0, List.length_append, List.length_map]
      omega
    have h0 : es[0]? = some (.nam (.inr x)) := by rw [hes0]; rfl
    obtain ⟨hLp, vs, hL, hvl, hvt⟩ := hP
    have hP : PoolR p H' l13 es := ⟨hLp, vs, hL, hvl, hvt⟩
    refine ⟨_, rfl, _, rfl, l13, _, rfl, .inl (SqL.of hL), _, rfl, _, rfl, (nsK x y (7 + t) un, rsK z), trivial, p, l1, vs.length, r + 8 + 50 * (2 - (i + 1)), rfl, by omega, hl1p, hR, by unfold rsK; simp, (show 3 ≤ 10 by decide), hpn.le (by omega), fun v th H2 hth hen k2 pen2 => ?_⟩
    have hE := enP (fun l hl => (hnsg l hl).1) hrsg hen
    rw [hvl] at hE
    obtain ⟨hrk, hI2⟩ := hI.add hE
    have hL2 := k2.st _ _ hL hLp
    have hP2 : PoolR p H2 l13 es := hP.keep (k2.kl hpn)
    have hesT : ∀ e ∈ es, ThE e := fun e he => (hI.e e he).1.1
    refine ⟨_, rfl, _, rfl, es, trivial, l13, v, th, rfl, ⟨p, hP2, hth⟩, rk_le hrk (by omega), hE.h, Nat.le_refl _, hE.e.2, hesT, fun v3 d3 H3 s3 hd3 hf3 => ?_⟩
    refine ⟨_, rfl, l13, rfl, ⟨_, SqL.of (s3 _ _ hL2)⟩, fun D4 d4 => ?_⟩
    have z4' := same_upd (o := .lst []) d4
    have nD4 : H2 D4 = none := none_back s3 d4
    refine lc_list (Qd := fun H' => rNotInD K v3 (V.ref D4) H' _) (K := K) (a := l13) (xs := vs) (g := gName 8) (tt := tYes) (te := fun σ H Q => tCons (tVar 5) (tCons (tVar 8) tNil) σ H fun vs H1 => spSFormA vs H1 Q E0) (vs := [8]) (σ := [some (.ref p), some (.ref N), some (.int 2), some (.int 6), some (.ref l1), some (.ref l13), some (.int (0 + i)), some v, none]) (D := D4) (H1 := H3) (fun j H' => (∃ us ds, H' D4 = some (.lst us) ∧ DRs H' us ds ∧ us.length = j ∧ ∀ d ∈ ds, GD d ∧ d.depth ≤ 60) ∧ Same H3 H') ?_ (fun j H' hj h => SqL.of (h.2 _ _ (s3 _ _ hL2))) (fun j u H4 hu h => ?_) (fun H4 h => ?_)
    · exact ⟨⟨[], [], upd_same, .nil, rfl, fun d hd => absurd hd List.not_mem_nil⟩, z4'⟩
    · obtain ⟨⟨us, ds, hD, hds, hul, hg⟩, hs4⟩ := h
      have hj : j < es.length := by rw [← hvl]; exact (List.getElem?_eq_some_iff.mp hu).1
      have he : es[j]? = some es[j] := List.getElem?_eq_getElem hj
      have hm := List.getElem_mem hj
      have hP4 : PoolR p H4 l13 es := (hP2.keep (.of s3)).keep (.of hs4)
      obtain ⟨_, vs4, hL4, _, hvt4⟩ := id hP4
      have e4 : vs4 = vs := by
        rw [hs4 _ _ (s3 _ _ hL2)] at hL4
        cases hL4
        rfl
      subst e4
      refine ⟨rfl, _, rfl, _, rfl, es, trivial, l13, u, es[j], rfl, ⟨p, hP4, hvt4 j u _ hu he⟩, rk_le (hI.e _ hm).2.1 (by omega), (hI.e _ hm).2.2.1, Nat.le_refl _, (hesT _ hm).2, hesT, fun v5 d5 H5 s5 hd5 hf5 => ?_⟩
      have hD5 := s5 _ _ hD
      have kt5 : KT H5 (upd H5 D4 (.lst (us ++ [v5]))) := KT.set hD5 fun ys z => by cases z
      refine ⟨us, hD5, small1000 (by omega), ⟨us ++ [v5], ds ++ [d5], upd_same, ((hds.kt (.of s5)).kt kt5).append (.cons (hd5.kt kt5) .nil), by rw [List.length_append, hul]; rfl, fun d hd => ?_⟩, fun b o e => ?_⟩
      · rcases List.mem_append.mp hd with hd | hd
        · exact hg d hd
        · rw [List.mem_singleton] at hd
          subst hd
          obtain ⟨a1, _, a3⟩ := fr_tup hf5
          have := (hI.e _ hm).2.2.1
          exact ⟨a1, by omega⟩
      · rw [upd_ne (ne_of_none e d4)]
        exact s5 _ _ (hs4 _ _ e)
    obtain ⟨⟨us, ds, hD, hds, hul, hg⟩, hs4⟩ := h
    obtain ⟨a1, _, a3⟩ := fr_tup hf3
    have hh := hE.h
    have hgl : SeqAt.shaped (.list ds) = true := by
      unfold SeqAt.shaped
      rw [PyData.canLay0, gds_lay ds (gds_of fun d hd => (hg d hd).1), PyData.depth, Bool.true_and]
      have := depthAll_le (k := 60) (ds := ds) fun d hd => (hg d hd).2
      exact decide_eq_true (by omega)
    have s24 : Same H2 H4 := fun b o e => hs4 _ _ (s3 _ _ e)
    refine ⟨d3, ds, (hd3.kt (.of hs4)).dp K, .lst (SqL.of hD) (hds.dp K), gd_shaped a1 (by omega), hgl, _, rfl, ite2 (fun _ => ?_) (fun _ => ?_)⟩
    · have hL4 := s24 _ _ hL2
      refine ⟨_, rfl, .inl ⟨rfl, _, SqL.of hL4⟩, _, rfl, l13, vs, _, rfl, rfl, hL4, small1000 (by omega), ?_⟩
      have k4 : Kq p H H4 := (hk.trans k2).trans (.of s24)
      refine ⟨_, _, es ++ [th], rfl, (hP2.keep (.of s24)).add hL4 h0 (hth.keep (.of s24)), hI2, ?_, k4.set nl13, k4.pen hpen (pen2.same s24) nl13⟩
      rw [upd_ne hne]
      exact s24 _ _ (k2.st _ _ hR hl1p)
    · exact ⟨_, _, es, rfl, hP2.keep (.of s24), hI.next, s24 _ _ (k2.st _ _ hR hl1p), (hk.trans k2).trans (.of s24), pen2.same s24⟩
  · obtain ⟨e6, e7, es, rfl, hP, hI, hR, hk, hpn⟩ := h
    obtain ⟨er, hes0, herl⟩ := hI.p
    have hel : es.length ≤ 8 := by
      rw [hes0, List.length_append, List.length_map]
      omega
    have hel4 : 4 ≤ es.length := by
      rw [hes0, List.length_append, List.length_map]
      unfold nsK
      rw [List.length_append]
      show 4 ≤ 4 + _ + _
      omega
    refine ⟨_, rfl, q l13 es _ H' nl13 hP ⟨⟨fun e he => (hI.e e he).1, fun e he => (hI.e e he).2⟩, hel, hel4, ?_, fun l hl => ?_, fun l hl => (hnsg l hl).2, fun l hl => (hnsg l hl).1, hrsg⟩ hk (hpn.le (by omega))⟩
    · rw [hes0]
      intro j hj
      match j, hj with
      | 0, _ => exact ⟨_, rfl⟩
      | 1, _ => exact ⟨_, rfl⟩
      | 2, _ => exact ⟨_, rfl⟩
      | 3, _ => exact ⟨_, rfl⟩
      | j + 4, h => omega
    · rw [hes0]
      exact List.mem_append_left _ (List.mem_map.mpr ⟨l, hl, rfl⟩)
end
end Lw
/-! Part C9: all that the law asks of its spellings. Plain. -/
namespace Lw
open PySem PySem.Spec L2 PyProof.Rows
/-- what a spelt term keeps -/
structure TOk (ns rs : List Key) (tn : Key → Int) (tr : Key → RowF) (t : Tm) : Prop where
  ok : Ok ns rs false t
  lev : t.lev ≤ 110
  hg : Hg t
  fok : FOk t
  sml : SmlT t
  pok : POk t
  mul : MulOk tn tr t
  sw : SmW (ats t)
  gf : GF (ats t)
  av : ∀ e ∈ ats t, AtV tn tr e
  rw_ : t.isRow = false
  fg : GD (.tuple (frm t)) ∧ (PyData.tuple (frm t)).depth ≤ 60
theorem TOk.gok {ns rs : List Key} {tn : Key → Int} {tr : Key → RowF} {t : Tm} (h : TOk ns rs tn tr t) : GOk t := ⟨h.fok, h.sml.1, h.sml.2⟩
/-- what a name may be spelt as: its shape, its worth -/
structure NmA (nm : Key → Tm → Prop) (cn : Key → LF) (ns rs : List Key) (tn tn' : Key → Int) (tr : Key → RowF) : Prop where
  cb : ∀ l, GD (kd l) → CB 1 3000 (10 ^ 21) (10 ^ 21) (cn l)
  lq : ∀ l t, nm l t → GD (kd l) → Lq (lf t) (cn l) ∧ Hg t
  ok : ∀ l t, nm l t → l ∈ ns → Ok ns rs false t
  lev : ∀ l t, nm l t → t.lev ≤ 13
  num : NmP nm
  tv : ∀ l t, nm l t → (tv tn tr t).1 = tn' l ∧ MulOk tn tr t ∧ ∀ e ∈ ats t, AtV tn tr e
theorem isRow_ok {ns rs : List Key} {t : Tm} (h : Ok ns rs false t) : t.isRow = false := by cases t <;> first | rfl | exact h.elim
section
variable {es : List Th} {nm : Key → Tm → Prop} {cn : Key → LF} {ns rs : List Key} {tn tn' : Key → Int} {tr : Key → RowF}
theorem rk3 (hP : PoolP es ns rs) {ps : List (Nat × Int)} {m m' : Int} {k o : Nat} (h : SmOk k o ps m) (hk : k ≤ es.length) (ho : o ≤ 4) : Rk es 3 (.sum ps m') := by
  refine ⟨Nat.le_trans h.1 ho, fun q hq => ?_⟩
  obtain ⟨a, b, c⟩ := h.2.1 q hq
  have hl : q.1 < es.length := Nat.lt_of_lt_of_le a hk
  exact ⟨b, c, es[q.1], List.getElem?_eq_getElem hl, hP.r _ (List.getElem_mem hl)⟩
theorem pack (hP : PoolP es ns rs) (hT : TabB ns rs tn' tr) (hN : NmA nm cn ns rs tn tn' tr) {ps : List (Nat × Int)} {m : Int} {t : Tm} (hr : Rk es 3 (.sum ps m)) (hm : m.natAbs ≤ 10 ^ 139) (s : Spl es nm (.sum ps m) t) :
    TOk ns rs tn tr t ∧ (tv tn tr t).1 = (WW es tn' tr 3 (.sum ps m)).1 ∧ frm t = sf (CC es cn 3 (.sum ps m)) := by
  have hes : ∀ e ∈ es, ThE e := fun e he => (hP.e e he).1
  have hB : (10 : Nat) ^ 139 + 4 * 10 ^ 41 < 10 ^ 150 := by decide
  have g := spl_main hes hN.cb hN.lq s 3 (10 ^ 139) hr hm hB ⟨Nat.zero_le _, (show 1 ≤ 5 by decide), .inr ⟨Nat.le_refl _, rfl⟩⟩
  obtain ⟨c1, c2⟩ := sum_ok hes hN.cb hr (B := 10 ^ 139) hm hB rfl
  have ok := spl_ok (fun e he => (hP.e e he).2) hN.ok s false trivial
  have rw_ := isRow_ok ok
  have ef : sform (ats t) (nb t) = sf (CC es cn 3 (.sum ps m)) := got_sf hes hN.cb hr hm hB rfl g
  have efr : frm t = sf (CC es cn 3 (.sum ps m)) := by
    unfold frm
    rw [rw_]
    exact ef
  have pt := c1.sum (by decide) (by decide)
  have hts : 4 * tS 3 + 200 ≤ 16000000 := by decide
  have hds : dS 3 + 3 ≤ 60 := by decide
  obtain ⟨n1, n2, _⟩ := spl_num hes hN.num s (10 ^ 139) hm (by decide)
  obtain ⟨n3, n4⟩ := n2 rfl
  have sml : SmlT t := ⟨Nat.le_trans (Nat.mul_le_mul_left 2 n3) big_ok, Nat.le_trans n4 (by decide)⟩
  obtain ⟨m1, m2, _⟩ := spl_mul hP hT hN.tv s 3 (10 ^ 139) (Nat.le_refl _) hr hm (by decide)
  have gd : GDs (sform (ats t) (nb t)) := by rw [ef]; exact pt.g
  have dd : dT (sform (ats t) (nb t)) ≤ 60 := by rw [ef]; exact Nat.le_trans pt.d hds
  have tt : sT (sform (ats t) (nb t)) ≤ 16000000 := by rw [ef]; exact Nat.le_trans pt.t hts
  refine ⟨⟨ok, Nat.le_trans (spl_lev hN.lev s 3 hr) (show 26 * 3 + 4 * 0 + 23 ≤ 110 by decide), g.2.2, fok_of t g.2.2 n1, sml, ⟨pairs_sok gd dd tt, sml.1, Nat.le_trans sml.2 (by decide)⟩, m1, fun k => ?_, g.1.g, m2 rfl, rw_, ?_⟩, ?_, efr⟩
  · rw [show wt k (ats t) = wt k (CC es cn 3 (.sum ps m)).1 from g.1.w k]
    exact c2 k
  · rw [efr, ← ef]
    exact ⟨gd_tup gd, dd⟩
  · exact (spl_tv hP.e (fun l t q => (hN.tv l t q).1) s 3 (10 ^ 139) hr hm).1 rfl
end
/-! ### sums of the atoms; lines -/
section
variable {ns rs : List Key} {tn : Key → Int} {tr : Key → RowF}
theorem added_eq (D : List Ent) : addedV tn tr D = sv tn tr D := rfl
theorem w_small {a b : Int} (h : a.natAbs < 10 ^ 150) (h' : b.natAbs < 10 ^ 150) : (a - b).natAbs < 2 ^ 6000 := by
  have : 2 * 10 ^ 150 < 2 ^ 6000 := by decide +kernel
  omega
theorem wt_app (m : Str) (l k : List Ent) : wt m (l ++ k) = wt m l + wt m k := sm_app _ _ _
theorem wt_scl (m : Str) (i : Int) (l : List Ent) : wt m (l.map (Ent.scl i)) = i * wt m l := sm_scl _ _ _
/-- a merged atom may be weighed -/
theorem add_ok {l : List Ent} (h : ∀ e ∈ l, AtP ns rs 110 e ∧ AtV tn tr e) (hw : ∀ m, (wt m l).natAbs < 2 ^ 6000) : ∀ e ∈ liveE (mrg l), AddOk ns rs tn tr 110 e := fun e he => by
  obtain ⟨y, hy, ha, hf⟩ := mrg_from (live_mem.mp he).1
  obtain ⟨⟨p1, p2, p3, p4, p5, p6⟩, v1, v2⟩ := h y hy
  rw [← ha] at p3 p5 v1 v2
  exact ⟨p3, p5, v1, cmul_of (by rw [(live_w he).1]; exact hw _) (Nat.lt_of_lt_of_le v2 (Nat.pow_le_pow_right (by decide) (by decide)))⟩
theorem TOk.at {t : Tm} (h : TOk ns rs tn tr t) : ∀ e ∈ ats t, AtP ns rs 110 e ∧ AtV tn tr e := fun e he => ⟨(ats_atp t h.ok h.hg e he).mono h.lev, h.av e he⟩
theorem TOk.add {t : Tm} (h : TOk ns rs tn tr t) : ∀ e ∈ liveE (mrg (ats t)), AddOk ns rs tn tr 110 e := add_ok h.at fun m => Nat.lt_trans (h.sw m) (by decide +kernel)
theorem TOk.sum {t : Tm} (h : TOk ns rs tn tr t) : nb t + addedV tn tr (liveE (mrg (ats t))) = (tv tn tr t).1 := by
  rw [added_eq, sv_live (same_w 110) (fun e he => (h.at e he).1), tv_ats t h.ok]
theorem line_at {a b : Tm} (ha : TOk ns rs tn tr a) (hb : TOk ns rs tn tr b) : ∀ e ∈ ats a ++ (ats b).map (Ent.scl (-1)), AtP ns rs 110 e ∧ AtV tn tr e := fun e he => by
  rcases List.mem_append.mp he with he | he
  · exact ha.at e he
  · obtain ⟨y, hy, rfl⟩ := List.mem_map.mp he
    exact hb.at y hy
theorem line_add {a b : Tm} (ha : TOk ns rs tn tr a) (hb : TOk ns rs tn tr b) : ∀ e ∈ lineD a b, AddOk ns rs tn tr 110 e := add_ok (line_at ha hb) fun m => by
  rw [wt_app, wt_scl]
  have := w_small (ha.sw m) (hb.sw m)
  rw [show wt m (ats a) + -1 * wt m (ats b) = wt m (ats a) - wt m (ats b) by omega]
  exact this
theorem line_val {a b : Tm} (ha : TOk ns rs tn tr a) (hb : TOk ns rs tn tr b) : addedV tn tr (lineD a b) = ((tv tn tr a).1 - nb a) - ((tv tn tr b).1 - nb b) := by
  have h1 := tv_ats (tn := tn) (tr := tr) a ha.ok
  have h2 := tv_ats (tn := tn) (tr := tr) b hb.ok
  unfold lineD
  rw [added_eq, sv_live (same_w 110) (fun e he => (line_at ha hb e he).1), sv_app, sv_scl]
  omega
theorem say_ok {s : Sy} (h1 : TOk ns rs tn tr s.one) (h2 : TOk ns rs tn tr s.two) : SayOk ns rs tn tr 110 s ∧ lineT tn tr s = s.val tn tr := by
  refine ⟨⟨⟨⟨h1.ok, h1.lev, h1.mul⟩, h2.ok, h2.lev, h2.mul⟩, h1.gok, h2.gok, ?_⟩, ?_⟩
  · cases s with
    | le a b => exact line_add h1 h2
    | eq a b => exact line_add h1 h2
    | nle a b => exact line_add h2 h1
  · cases s with
    | le a b =>
      have hv := line_val h1 h2
      show (if (Str.ofString "le") = Str.ofString "le" then decide (0 + addedV tn tr (lineD a b) ≤ 0 - (nb a + 0 + -1 * nb b)) else _) = decide ((tv tn tr a).1 ≤ (tv tn tr b).1)
      rw [if_pos rfl]
      have hv' : addedV tn tr (lineD a b) = ((tv tn tr a).1 - nb a) - ((tv tn tr b).1 - nb b) := hv
      rw [hv']
      exact decide_eq_decide.mpr (by omega)
    | eq a b =>
      have hv : addedV tn tr (lineD a b) = ((tv tn tr a).1 - nb a) - ((tv tn tr b).1 - nb b) := line_val h1 h2
      show (if (Str.ofString "eq") = Str.ofString "le" then _ else decide (0 + addedV tn tr (lineD a b) = 0 - (nb a + 0 + -1 * nb b))) = decide ((tv tn tr a).1 = (tv tn tr b).1)
      rw [if_neg (by decide), hv]
      exact decide_eq_decide.mpr (by omega)
    | nle a b =>
      have hv : addedV tn tr (lineD b a) = ((tv tn tr b).1 - nb b) - ((tv tn tr a).1 - nb a) := line_val h2 h1
      show (if (Str.ofString "le") = Str.ofString "le" then decide (0 + addedV tn tr (lineD b a) ≤ 0 - (nb b + 1 + -1 * nb a)) else _) = !decide ((tv tn tr a).1 ≤ (tv tn tr b).1)
      rw [if_pos rfl, hv, ← decide_not]
      exact decide_eq_decide.mpr (by omega)
end
end Lw
/-! Part C10: names as they stand; a letter laid. Plain. -/
namespace Lw
open PySem PySem.Spec L2 PyProof.Rows
def cn0 (l : Key) : LF := ([⟨.name l, 1, [.str "name", kd l]⟩], 0)
theorem name_form {l : Key} (h : GD (kd l)) : GDs [.str "name", kd l] ∧ dT [.str "name", kd l] ≤ 1 ∧ sT [.str "name", kd l] ≤ 180 := by
  have := sz_kd l
  refine ⟨?_, dT_le (k := 0) (all2 (P := fun d => d.depth ≤ 0) (by rw [PyData.depth]; exact Nat.le_refl _) (all1 (P := fun d => d.depth ≤ 0) (by rw [dep_kd]; exact Nat.le_refl _))), ?_⟩
  · rw [GDs, GD, GDs, GDs]
    exact ⟨lowB_ok (by decide +kernel), h, trivial⟩
  · show 3 + (22 + 2 + (sz (kd l) + 2 + 0)) ≤ 180
    omega
theorem cn0_cb {l : Key} (h : GD (kd l)) : CB 1 340 1 0 (cn0 l) := by
  obtain ⟨h1, h2, h3⟩ := name_form h
  refine ⟨fun e he => ?_, fun e he => ?_, ?_, Nat.le_refl 1, Nat.le_refl 0⟩
  · rw [List.mem_singleton.mp he]; exact h1
  · rw [List.mem_singleton.mp he]; exact h2
  · show tot [_] ≤ 340
    rw [tot_one]
    omega
theorem name_gs {l : Key} (h : GD (kd l)) : GS (inn (.name l)) := by
  obtain ⟨h1, h2, h3⟩ := name_form h
  exact ⟨h1, Nat.le_trans h2 (by decide), Nat.le_trans h3 (by decide)⟩
theorem name_lq {l : Key} (h : GD (kd l)) : Lq (lf (.name l)) (cn0 l) ∧ Hg (.name l) := ⟨⟨gf_one (name_form h).1, fun _ => rfl, rfl⟩, name_gs h⟩
theorem nmP_num : NmP nmP := fun l t h => by
  cases h
  exact ⟨trivial, (show 1 ≤ 10 ^ 60 by decide), (show 1 ≤ 12 by decide)⟩
section
variable {es : List Th} {ns rs : List Key} {tn : Key → Int} {tr : Key → RowF}
theorem nmA0 (hb : ∀ l, (tn l).natAbs < 2 ^ 5000) : NmA nmP cn0 ns rs tn tn tr where
  cb l h := (cn0_cb h).mono (Nat.le_refl _) (by decide) (by decide) (by decide)
  lq l t q h := by cases q; exact name_lq h
  ok l t q h := by cases q; exact h
  lev l t q := by cases q; exact (show 3 ≤ 13 by decide)
  num := nmP_num
  tv l t q := by
    cases q
    refine ⟨rfl, trivial, fun e he => ?_⟩
    rw [List.mem_singleton.mp he]
    exact ⟨trivial, hb l⟩
/-! ### what is laid: a sum of names -/
theorem laid_leaf {ps : List (Nat × Int)} {m : Int} {s : Tm} (h4 : Names4 es) (hs : SmOk 4 2 ps m) (h : Spl es nmP (.sum ps m) s) : ∃ L : List Lf, L.length ≤ 12 ∧ Comb 4 L s ∧ ∀ x ∈ L, x.2.2.natAbs ≤ 10 ^ 20 + 2 ∧ ((∃ k, x.2.1 = .num k ∧ k.natAbs ≤ 10 ^ 20 + 5) ∨ ∃ l, x.2.1 = .name l) := by
  cases h with
  | @sum _ _ L _ hb hl hw hk hs' hn' hc =>
    refine ⟨L, hl, hc, fun x hx => ⟨by have := hw x hx; omega, ?_⟩⟩
    by_cases h0 : x.1 < 0
    · obtain ⟨k, e, hk'⟩ := hn' x hx h0
      have := hs.2.2
      exact .inl ⟨k, e, by omega⟩
    · obtain ⟨e, he, hd⟩ := hk x hx (by omega)
      have hnam : ∃ l, e = .nam l := by
        rcases hd with ⟨w, hw'⟩ | h
        · obtain ⟨l, hl'⟩ := h4 x.1.toNat (hs.2.1 _ hw').1
          rw [he] at hl'
          cases hl'
          exact ⟨l, rfl⟩
        · exact h
      obtain ⟨l, rfl⟩ := hnam
      have := hs' x hx (by omega) _ he
      cases this with
      | nam h => exact .inr ⟨l, h⟩
theorem laid_num {ps : List (Nat × Int)} {m : Int} {s : Tm} (h4 : Names4 es) (hs : SmOk 4 2 ps m) (h : Spl es nmP (.sum ps m) s) : (Nh s ∧ mg s ≤ 10 ^ 60 ∧ cnt s ≤ 12) ∧ s.lev ≤ 13 := by
  obtain ⟨L, hl, hc, hx⟩ := laid_leaf h4 hs h
  refine ⟨⟨comb_all (P := Nh) (fun _ _ a b => ⟨a, b⟩) (fun _ _ a => a) hc fun x hm => ?_, ?_, ?_⟩, ?_⟩
  · rcases (hx x hm).2 with ⟨k, e, _⟩ | ⟨l, e⟩ <;> rw [e] <;> trivial
  · have h1 : wsum lfm L ≤ L.length * ((10 ^ 20 + 3) * (10 ^ 20 + 6)) := wsum_le fun x hm => by
      obtain ⟨a, b⟩ := hx x hm
      refine Nat.mul_le_mul (show x.2.2.natAbs + 1 ≤ 10 ^ 20 + 3 by omega) ?_
      rcases b with ⟨k, e, hk⟩ | ⟨l, e⟩
      · rw [e]
        show k.natAbs + 1 ≤ _
        omega
      · rw [e]
        show 1 ≤ _
        decide
    exact Nat.le_trans (Nat.le_trans (comb_mg hc) (Nat.mul_le_mul_left _ (Nat.le_trans h1 (Nat.mul_le_mul_right _ hl)))) (by decide)
  · rw [comb_cnt hc]
    refine Nat.le_trans (wsum_le (k := 1) fun x hm => ?_) (by omega)
    rcases (hx x hm).2 with ⟨k, e, _⟩ | ⟨l, e⟩ <;> rw [e]
    · exact Nat.zero_le _
    · exact Nat.le_refl _
  · refine comb_lev (k := 3) hc fun x hm => ?_
    rcases (hx x hm).2 with ⟨k, e, _⟩ | ⟨l, e⟩ <;> rw [e]
    · show 1 ≤ 3; decide
    · show 3 ≤ 3; decide
/-- the shape of what is laid -/
theorem laid_cb (hn : ∀ l, .nam l ∈ es → GD (kd l)) {ps : List (Nat × Int)} {m : Int} (h4 : Names4 es) (hs : SmOk 4 2 ps m) : CB 1 3000 (10 ^ 21) (10 ^ 21) (CC es cn0 3 (.sum ps m)) := by
  have := can_sum (es := es) (cn := cn0) (G := cF es cn0 3) (Gp := fun e => ∃ l, e = .nam l) (D := 1) (T := 340) (M := 1) (Z := 0) (B := 10 ^ 20) (fun e he ⟨l, hl⟩ => by
    subst hl
    exact cn0_cb (hn l he)) (ps := ps) (n := m) ⟨Nat.le_trans hs.1 (by decide), fun q hq => by
      obtain ⟨a, b, c⟩ := hs.2.1 q hq
      obtain ⟨l, hl⟩ := h4 q.1 a
      exact ⟨b, c, _, hl, l, rfl⟩⟩ (by have := hs.2.2; omega)
  exact this.mono (Nat.le_refl _) (by decide) (by decide) (by decide)
/-- its worth -/
theorem laid_bd (hb : ∀ l, (tn l).natAbs ≤ 10 ^ 20) {ps : List (Nat × Int)} {m : Int} (h4 : Names4 es) (hs : SmOk 4 2 ps m) : ((WW es tn tr 3 (.sum ps m)).1).natAbs ≤ 10 ^ 60 := by
  have h : ∀ ps : List (Nat × Int), (∀ q ∈ ps, q.1 < 4 ∧ -100000000000000000000 ≤ q.2 ∧ q.2 ≤ 100000000000000000000) → ((ps.map fun q => q.2 * vE es (wG es tn tr 3) q.1).sum).natAbs ≤ ps.length * (10 ^ 20 * 10 ^ 20) := by
    intro ps
    induction ps with
    | nil => intro _; simp
    | cons q ps ih =>
      intro hq
      obtain ⟨a, b, c⟩ := hq q (List.mem_cons_self ..)
      have ih := ih fun x hx => hq x (List.mem_cons_of_mem _ hx)
      obtain ⟨l, hl⟩ := h4 q.1 a
      have h1 : (vE es (wG es tn tr 3) q.1).natAbs ≤ 10 ^ 20 := by
        unfold vE
        rw [hl]
        exact hb l
      have h2 := Nat.mul_le_mul (show q.2.natAbs ≤ 10 ^ 20 by omega) h1
      rw [← Int.natAbs_mul] at h2
      rw [List.map_cons, List.sum_cons, List.length_cons, Nat.succ_mul]
      omega
  have h1 := h ps hs.2.1
  have h2 := Nat.mul_le_mul_right (10 ^ 20 * 10 ^ 20) hs.1
  have h3 := hs.2.2
  have h5 : 2 * (10 ^ 20 * 10 ^ 20) + 10 ^ 20 ≤ 10 ^ 60 := by decide
  show (m + (ps.map fun q => q.2 * vE es (wG es tn tr 3) q.1).sum).natAbs ≤ _
  omega
/-! ### letters put in -/
def nmQ (a : Key) (s : Tm) : Key → Tm → Prop := fun l t => t = if l = a then s else .name l
theorem comb_put (a : Key) (s : Tm) : ∀ {d : Nat} {L : List Lf} {t : Tm}, Comb d L t → Comb d (L.map fun x => (x.1, Tm.put a s x.2.1, x.2.2)) (Tm.put a s t)
  | _, _, _, .one d k b => .one d k _
  | _, _, _, .neg d k b w => .neg d k _ w
  | _, _, _, .mul d k b w => .mul d k _ w
  | _, _, _, .add h1 h2 => by
    rw [List.map_append]
    exact .add (comb_put a s h1) (comb_put a s h2)
  | _, _, _, .nadd h1 h2 => by
    have e : ∀ L : List Lf, (turned (-1) L).map (fun x => (x.1, Tm.put a s x.2.1, x.2.2)) = turned (-1) (L.map fun x => (x.1, Tm.put a s x.2.1, x.2.2)) := fun L => by
      unfold turned
      rw [List.map_map, List.map_map]
      rfl
    have c1 := comb_put a s h1
    have c2 := comb_put a s h2
    rw [e] at c1 c2
    rw [List.map_append]
    exact .nadd c1 c2
theorem spl_put {a : Key} {s : Tm} (ha : a ∉ rs) (hes : ∀ e ∈ es, OkT ns rs false e) {th : Th} {t : Tm} (h : Spl es nmP th t) : ∀ q, OkT ns rs q th → Spl es (nmQ a s) th (Tm.put a s t) := by
  induction h with
  | @nam l t h =>
    intro q hq
    cases h
    exact .nam rfl
  | row l =>
    intro q hq
    cases q with
    | false => exact hq.elim
    | true =>
      have : (if l = a then s else Tm.row l) = .row l := if_neg fun e => ha (by rw [← e]; exact hq)
      show Spl es (nmQ a s) (.row l) (if l = a then s else .row l)
      rw [this]
      exact .row l
  | wth _ _ _ i1 i2 i3 => intro q hq; cases q <;> first | exact .wth (i1 _ hq.1) (i2 _ hq.2.1) (i3 _ hq.2.2) | exact hq.elim
  | room _ i => intro q hq; cases q <;> first | exact .room (i _ hq) | exact hq.elim
  | read _ _ i1 i2 => intro q hq; cases q <;> first | exact .read (i1 _ hq.1) (i2 _ hq.2) | exact hq.elim
  | size _ i => intro q hq; cases q <;> first | exact .size (i _ hq) | exact hq.elim
  | div k _ i => intro q hq; cases q <;> first | exact .div k (i _ hq.1) | exact hq.elim
  | mod k _ i => intro q hq; cases q <;> first | exact .mod k (i _ hq.1) | exact hq.elim
  | @sum ps m L t hb hl hw hk hs' hn' hc ih =>
    intro q hq
    refine .sum (L := L.map fun x => (x.1, Tm.put a s x.2.1, x.2.2)) (fun c u => ?_) (by rw [List.length_map]; exact hl) (fun x hx => ?_) (fun x hx h0 => ?_) (fun x hx h0 e he => ?_) (fun x hx h0 => ?_) (comb_put a s hc)
    · rw [← hb c u, List.map_map]
      refine sum_map_congr fun x hx => ?_
      show lv c u (x.1, Tm.put a s x.2.1, x.2.2) = lv c u x
      unfold lv
      by_cases h0 : x.1 < 0
      · obtain ⟨k, e, _⟩ := hn' x hx h0
        rw [if_pos h0, if_pos h0, e]
        rfl
      · rw [if_neg h0, if_neg h0]
    · obtain ⟨y, hy, rfl⟩ := List.mem_map.mp hx
      exact hw y hy
    · obtain ⟨y, hy, rfl⟩ := List.mem_map.mp hx
      exact hk y hy h0
    · obtain ⟨y, hy, rfl⟩ := List.mem_map.mp hx
      exact ih y hy h0 e he false (hes e (List.mem_of_getElem? he))
    · obtain ⟨y, hy, rfl⟩ := List.mem_map.mp hx
      obtain ⟨k, e, hk'⟩ := hn' y hy h0
      exact ⟨k, by show Tm.put a s y.2.1 = _; rw [e]; rfl, hk'⟩
/-- the table with the letter turned -/
def tnQ (a : Key) (v : Int) (tn : Key → Int) : Key → Int := fun l => if l = a then v else tn l
theorem nmAQ (hP : PoolP es ns rs) (h4 : Names4 es) (hb : ∀ l, (tn l).natAbs ≤ 10 ^ 20) (hT : TabB ns rs tn tr) (hn : ∀ l, .nam l ∈ es → GD (kd l)) {a : Key} (ha : GD (kd a)) {ps : List (Nat × Int)} {m : Int} (hs : SmOk 4 2 ps m) (hel : 4 ≤ es.length) {s : Tm} (h : Spl es nmP (.sum ps m) s) :
    NmA (nmQ a s) (fun l => if l = a then CC es cn0 3 (.sum ps m) else cn0 l) ns rs tn (tnQ a (WW es tn tr 3 (.sum ps m)).1 tn) tr := by
  have hb' : ∀ l, (tn l).natAbs < 2 ^ 5000 := fun l => Nat.lt_of_le_of_lt (hb l) (by decide +kernel)
  have hr : Rk es 3 (.sum ps m) := rk3 hP hs hel (by decide)
  have hm : m.natAbs ≤ 10 ^ 139 := by
    have := hs.2.2
    exact Nat.le_trans (show m.natAbs ≤ 10 ^ 20 by omega) (by decide)
  have N0 := nmA0 (ns := ns) (rs := rs) (tr := tr) hb'
  obtain ⟨pt, ptv, _⟩ := pack hP hT N0 hr hm h
  have g := spl_main (fun e he => (hP.e e he).1) N0.cb N0.lq h 3 (10 ^ 139) hr hm (by decide) ⟨Nat.zero_le _, (show 1 ≤ 5 by decide), .inr ⟨Nat.le_refl _, rfl⟩⟩
  obtain ⟨ln, ll⟩ := laid_num h4 hs h
  refine ⟨fun l hl => ?_, fun l t q hl => ?_, fun l t q hl => ?_, fun l t q => ?_, fun l t q => ?_, fun l t q => ?_⟩
  · by_cases e : l = a
    · rw [if_pos e]
      exact laid_cb hn h4 hs
    · rw [if_neg e]
      exact N0.cb l hl
  · by_cases e : l = a
    · rw [show t = s by rw [show t = _ from q, if_pos e]]
      show Lq (lf s) (if l = a then _ else _) ∧ Hg s
      rw [if_pos e]
      exact ⟨g.1, g.2.2⟩
    · rw [show t = .name l by rw [show t = _ from q, if_neg e]]
      show Lq (lf (.name l)) (if l = a then _ else _) ∧ Hg (.name l)
      rw [if_neg e]
      exact name_lq hl
  · by_cases e : l = a
    · rw [show t = s by rw [show t = _ from q, if_pos e]]
      exact pt.ok
    · rw [show t = .name l by rw [show t = _ from q, if_neg e]]
      exact hl
  · by_cases e : l = a
    · rw [show t = s by rw [show t = _ from q, if_pos e]]
      exact ll
    · rw [show t = .name l by rw [show t = _ from q, if_neg e]]
      exact (show 3 ≤ 13 by decide)
  · by_cases e : l = a
    · rw [show t = s by rw [show t = _ from q, if_pos e]]
      exact ln
    · rw [show t = .name l by rw [show t = _ from q, if_neg e]]
      exact nmP_num l _ rfl
  · by_cases e : l = a
    · rw [show t = s by rw [show t = _ from q, if_pos e]]
      refine ⟨?_, pt.mul, pt.av⟩
      rw [ptv]
      unfold tnQ
      rw [if_pos e]
    · rw [show t = .name l by rw [show t = _ from q, if_neg e]]
      obtain ⟨x1, x2, x3⟩ := N0.tv l (.name l) rfl
      refine ⟨?_, x2, x3⟩
      rw [x1]
      unfold tnQ
      rw [if_neg e]
theorem tabQ (hT : TabB ns rs tn tr) {a : Key} {v : Int} (hv : v.natAbs ≤ 10 ^ 60) : TabB ns rs (tnQ a v tn) tr := by
  refine ⟨fun l hl => ?_, hT.2⟩
  unfold tnQ
  split
  · exact hv
  · exact hT.1 l hl
end
end Lw
/-! Part U: the table that the pen draws. -/
namespace Lw
open PySem PySem.Spec L2 PyProof.Rows
theorem RowN.keep2 {m : Nat} {H H' : Hp} {v : V} {f : RowF} (h : RowN m H v f) (k : KT H H') (kf : ∀ b o u, H b = some (.frz o u) → H' b = some (.frz o u)) : RowN m H' v f := by
  obtain ⟨a, b, o, xs, ps, e, h1, h2, h3, h4, h5, h6⟩ := h
  exact ⟨a, b, o, xs, ps, e, k _ _ h1, kf _ _ _ h2, h3, h4.kt k, h5, h6⟩
/-- the numbers of a drawn table are bounded -/
def TabBd (tn : Key → Int) (tr : Key → RowF) : Prop := (∀ l, (tn l).natAbs ≤ 100000000000000000000) ∧ ∀ l, (tr l).1.natAbs ≤ 4 ∧ ∀ i, ((tr l).2 i).natAbs ≤ 3
def rBd (f : RowF) : Prop := f.1.natAbs ≤ 4 ∧ ∀ i, (f.2 i).natAbs ≤ 3
/-- the table is short -/
def TabL (H : Hp) (T : Addr) : Prop := ∃ kvs : List (Key × V), H T = some (.dK kvs) ∧ kvs.length ≤ 100
def spTable (es : List Th) (ns rs : List Key) : Sp := fun vs H Q _ => ∃ (p L R : Addr) (r : Nat), vs = [.ref p, .ref L, .ref R] ∧ PoolR p H L es ∧ es.length ≤ 50 ∧ rs.length ≤ 10 ∧ R ≠ p ∧ H R = some (.lst (rs.map kV)) ∧ (∀ l ∈ ns, .nam l ∈ es) ∧ (∀ l ∈ ns, l ∉ rs) ∧ Pen H p (r + (2 * es.length + 10 * rs.length)) ∧
  ∀ T tn tr H', H T = none → TabR H' T ns rs tn tr → TabBd tn tr → TabL H' T → Kq p H H' → Pen H' p r → Q (.ref T) H'
theorem scTable : FnScope ["_law_pen", "_law_pool", "_law_rows", "_law_table", "_law_atom", "_law_row", "_law_size", "_law_some", "_law_place", "_law_number"] ["_law_pen", "_law_pool", "_law_rows"] (defScope (top 52)) := ⟨rfl, rfl, rfl, by decide +kernel, rfl, by decide +kernel, by decide +kernel⟩
theorem rd_small {ps : List (Int × Int)} (h : ∀ q ∈ ps, q.2.natAbs ≤ 3) (i : Int) : (rd ps i).natAbs ≤ 3 := by
  have g : ∀ (ps : List (Int × Int)) (acc : List (Key × V)), (∀ q ∈ ps, q.2.natAbs ≤ 3) → (∀ k n, valV acc k = some (.int n) → n.natAbs ≤ 3) → ∀ k n, valV (mergeK acc (kvI ps)) k = some (.int n) → n.natAbs ≤ 3 := by
    intro ps
    induction ps with
    | nil => exact fun acc _ h k n e => h k n e
    | cons q ps ih =>
      intro acc hp ha k n e
      refine ih (putK acc (Sum.inl q.1) (.int q.2)) (fun x hx => hp x (List.mem_cons_of_mem _ hx)) (fun k n e => ?_) k n e
      rw [valV_put] at e
      by_cases z : k = Sum.inl q.1
      · rw [if_pos z] at e
        have e : V.int q.2 = V.int n := Option.some.inj e
        injection e with e
        rw [← e]
        exact hp q (List.mem_cons_self ..)
      · rw [if_neg z] at e
        exact ha k n e
  unfold rd
  rcases merge_ints ps (Sum.inl i) with z | ⟨n, z⟩
  · rw [z]
    decide
  · rw [z]
    exact g ps [] h (fun k n e => by simp [valV] at e) _ n z
theorem word_name {e : Th} (h : e.word = "name") : ∃ l, e = .nam l := by
  rcases made_or e with z | ⟨l, rfl⟩ | ⟨ps, n, rfl⟩ | ⟨_, z, _⟩
  · exact z
  · exact absurd h (show Str.ofString "row" ≠ Str.ofString "name" by decide +kernel)
  · exact absurd h (show Str.ofString "sum" ≠ Str.ofString "name" by decide +kernel)
  · exact absurd h z
theorem nam_word {p : Addr} {H : Hp} {v : V} {l : Key} (h : ThR p H v (.nam l)) : ∃ a, v = .ref a ∧ H a = some (.tup [.str "name", kV l]) := by
  obtain ⟨a, xs, rfl, ha, hx⟩ := DR.tup_inv h
  obtain ⟨x, r, rfl, g, hx⟩ := hx.cons_inv
  obtain ⟨y, r, rfl, g2, hx⟩ := hx.cons_inv
  cases hx
  cases g.str_inv
  cases g2.key
  exact ⟨a, rfl, ha⟩
theorem Kq.none {p a : Addr} {H H' : Hp} (k : Kq p H H') {r : Nat} (h : Pen H p r) (ha : H' a = none) : H a = none := by
  cases e : H a with
  | none => rfl
  | some o =>
    by_cases z : a = p
    · obtain ⟨c, at_, x, ns, h1, _⟩ := h
      obtain ⟨a', x', e'⟩ := k.pn _ _ _ h1
      rw [z, e'] at ha
      cases ha
    · rw [k.st _ _ e z] at ha
      cases ha
section
variable {P : Program} {w : World} {K : PySem.W.Frag} {mg : Str → Option Value} {base : Heap}
theorem ok_table (D : Df K mg "_law_s_table" 52) (mli : mg "list" = none) (mr : mg "range" = none) (mt : mg "tuple" = none) (G : Gv P w K mg base 2 "_law_take" ["_law_pen", "_law_many"] spTake) (GN : Gv P w K mg base 3 "_law_s_number" ["_law_pen"] spNum) (es : List Th) (ns rs : List Key) :
    Gv P w K mg base 4 "_law_s_table" ["_law_pen", "_law_pool", "_law_rows"] (spTable es ns rs) := by
  refine okV D scTable (fun _ _ _ _ _ _ us hl => match us, hl with | [_, _, _], _ => rfl) (fun vs H Q E h => ?_) (fun f cdv A out s H vs Q E hr h => ?_)
  · obtain ⟨p, L, R, r, rfl, _⟩ := h
    rfl
  obtain ⟨p, L, R, r, rfl, hL, he50, hr10, hRp, hR, hns, hdis, hpen, q⟩ := h
  have nd := scTable.nd
  have hr2 := hr.mono (show 2 ≤ 3 by decide)
  refine ⟨_, pss_cons (ps_set (i := 3) nd rfl (Or.inl rfl) pe_dnewK)
    (pss_cons (ps_for PassesOwn.never rfl (pi_list (pv 1)) (pg_name (i := 4) nd rfl (Or.inl rfl))
      (pss_one (ps_if (pt_cmpR op_eq (pe_ix ix_tup (pv 4) pe_int (fun _ _ => rfl)) pe_str (nomark _)) (pss_one (ps_dput (hu_of hr) (pv 3) (pe_ix ix_tup (pv 4) pe_int (fun _ _ => rfl)) (pe_v (E := E0) GN hr rfl (pa_cons (pv 0) pa_nil)) rfl)) pss_nil)))
    (pss_cons (ps_for PassesOwn.never rfl (pi_list (pv 2)) (pg_name (i := 5) nd rfl (Or.inl rfl))
      (pss_cons (ps_set (i := 6) nd rfl (Or.inl rfl) (pe_v (E := E0) G hr2 rfl (pa_cons (pv 0) (pa_cons pe_int pa_nil))))
      (pss_cons (ps_setLc (i := 7) (own := [("_law_place", 8)]) (g := gName 8) (tt := tYes) rfl nd rfl rfl (sw_true rfl rfl rfl (by decide +kernel)) (pi_list (pe_op op_cat (pe_op op_cat (pe_lst (pa_cons (pe_un un_neg pe_int) pa_nil)) (pe_listRg rfl rfl mli (prg_1 rfl mr (pv 6)))) (pe_lst (pa_cons (pe_op op_add (pv 6) pe_int) pa_nil)))) (blkOk_by (own := [("_law_place", 8)]) (N := ["_law_pen", "_law_pool", "_law_rows", "_law_table", "_law_atom", "_law_row", "_law_size", "_law_some", "_law_place", "_law_number"]) (sc := defScope (top 52)) (by decide +kernel))
          (fun _ _ _ _ _ => pg_name (i := 8) nd rfl (Or.inl rfl)) (fun _ _ _ _ _ => pts_nil) (fun _ _ _ _ _ => pe_tup (pa_cons (pv 8) (pa_cons (pe_op op_sub (pe_v (E := E0) G hr2 rfl (pa_cons (pv 0) (pa_cons pe_int pa_nil))) pe_int) pa_nil))))
      (pss_one (ps_dput (hu_of hr) (pv 3) (pv 5) (pe_tup (pa_cons (pv 6) (pa_cons (pe_callTy call_tupF rfl mt boot_tuple (pa_cons (pe_lc (own := [("_law_place", 8), ("_law_number", 9)]) (g := gTup K 2 (gCons (gName 8) (gCons (gName 9) gNil))) rfl nd (pi_list (pv 7)) (blkOk_by (own := [("_law_place", 8), ("_law_number", 9)]) (N := ["_law_pen", "_law_pool", "_law_rows", "_law_table", "_law_atom", "_law_row", "_law_size", "_law_some", "_law_place", "_law_number"]) (sc := defScope (top 52)) (by decide +kernel))
          (fun _ _ _ _ _ => pg_tup rfl (pgs_cons (pg_name (i := 8) nd rfl (Or.inl rfl)) (pgs_cons (pg_name (i := 9) nd rfl (Or.inl rfl)) pgs_nil))) (fun _ _ _ _ _ => pts_one (pt_cmpR op_ne (pv 9) pe_int (nomark _))) (fun _ _ _ _ _ => pe_tup (pa_cons (pv 8) (pa_cons (pv 9) pa_nil)))) pa_nil)) pa_nil))) rfl)))))
    (pss_one (ps_ret (pv 3))))), ?_⟩
  intro T nT
  have hTp : T ≠ p := hpen.ne nT
  have z0 := same_upd (o := .dK []) nT
  obtain ⟨hLp, pvs, hLv, hLl, hLr⟩ := id hL
  refine ⟨_, rfl, L, rfl, ⟨_, SqL.of (z0 _ _ hLv)⟩, ?_⟩
  refine for_list (K := K) (a := L) (xs := pvs) (fun i σ H' => ∃ e4 e5 e6 e7 e8 e9 : Option V, σ = [some (.ref p), some (.ref L), some (.ref R), some (.ref T), e4, e5, e6, e7, e8, e9] ∧ Kq p H H' ∧ Pen H' p (r + 10 * rs.length + 2 * (es.length - i)) ∧ ∃ kvs, H' T = some (.dK kvs) ∧ kvs.length ≤ i ∧
    (∀ l v, valV kvs l = some v → ∃ n : Int, v = .int n ∧ n.natAbs ≤ 100000000000000000000) ∧ ∀ j l, j < i → es[j]? = some (.nam l) → ∃ v, valV kvs l = some v) ?_ (fun i σ H' hi h => ?_) (fun i x σ H' hx h => ?_) (fun σ H' h => ?_)
  · exact ⟨none, none, none, none, none, none, rfl, .of z0, (hpen.same z0).le (by omega), [], upd_same, Nat.le_refl _, fun l v e => by simp [valV] at e, fun j l hj => absurd hj (Nat.not_lt_zero j)⟩
  · obtain ⟨_, _, _, _, _, _, _, k, _⟩ := h
    exact SqL.of (k.st _ _ hLv hLp)
  · obtain ⟨e4, e5, e6, e7, e8, e9, rfl, k, pn, kvs, hT, hkl, hint, hnam⟩ := h
    have hi : i < es.length := by rw [← hLl]; exact (List.getElem?_eq_some_iff.mp hx).1
    obtain ⟨e, he⟩ : ∃ e, es[i]? = some e := ⟨_, List.getElem?_eq_getElem hi⟩
    have hth := (hLr i x e hx he).keep (k.kl hpen)
    obtain ⟨a, rest, rfl, ha⟩ := hth.word
    refine ⟨_, rfl, a, _, _, _, rfl, rfl, SqT.of ha, atI_head _ _, rfl, _, rfl, ?_⟩
    by_cases hw : e.word = "name"
    · obtain ⟨l, rfl⟩ := word_name hw
      obtain ⟨a', e', ha'⟩ := nam_word hth
      cases e'
      refine ite2 (fun _ => ?_) (fun c => absurd rfl c)
      refine ⟨_, rfl, p, r + 10 * rs.length + 2 * (es.length - (i + 1)), rfl, pn.le (by omega), fun n H1 n0 n1 k1 pen1 => ?_⟩
      have ha1 := k1.kt pn _ _ ha'
      have hT1 := k1.st _ _ hT hTp
      refine ⟨_, rfl, _, rfl, a, _, _, _, rfl, rfl, SqT.of ha1, rfl, T, _, rfl, DPut.k (k := l) hT1 (small1000 (by omega)), ?_⟩
      refine ⟨_, e5, e6, e7, e8, e9, rfl, (k.trans k1).set nT, (k.trans k1).pen hpen pen1 nT, _, upd_same, ?_, fun l' v e => ?_, fun j l' hj hl' => ?_⟩
      · have := length_putK kvs l (V.int n)
        omega
      · rw [valV_put] at e
        by_cases z : l' = l
        · rw [if_pos z] at e
          cases e
          exact ⟨n, rfl, by omega⟩
        · rw [if_neg z] at e
          exact hint _ _ e
      · rw [valV_put]
        by_cases z : l' = l
        · rw [if_pos z]
          exact ⟨_, rfl⟩
        · rw [if_neg z]
          by_cases hji : j < i
          · exact hnam j l' hji hl'
          · have : j = i := by omega
            subst this
            rw [he] at hl'
            cases hl'
            exact absurd rfl z
    · have hd : decide (V.str e.word = V.str (Str.ofString "name")) = false := eqs_false hw
      refine ite2 (fun c => absurd c (by rw [hd]; decide)) (fun _ => ?_)
      refine ⟨_, e5, e6, e7, e8, e9, rfl, k, pn.le (by omega), kvs, hT, by omega, hint, fun j l' hj hl' => ?_⟩
      by_cases hji : j < i
      · exact hnam j l' hji hl'
      · have : j = i := by omega
        subst this
        rw [he] at hl'
        cases hl'
        exact absurd rfl hw
  obtain ⟨e4, e5, e6, e7, e8, e9, rfl, k, pn, kvs, hT, hkl, hint, hnam⟩ := h
  have hnam' : ∀ l ∈ ns, ∃ n : Int, valV kvs l = some (.int n) ∧ n.natAbs ≤ 100000000000000000000 := fun l hl => by
    obtain ⟨j, hj, e⟩ := List.getElem_of_mem (hns l hl)
    obtain ⟨v, hv⟩ := hnam j l (by rw [hLl]; exact hj) (by rw [List.getElem?_eq_getElem hj, e])
    obtain ⟨n, rfl, hb⟩ := hint l v hv
    exact ⟨n, hv, hb⟩
  have hRv := k.st _ _ hR hRp
  refine ⟨_, rfl, R, rfl, ⟨_, SqL.of hRv⟩, ?_⟩
  refine for_list (K := K) (a := R) (xs := rs.map kV) (fun j σ H' => ∃ e4 e5 e6 e7 e8 e9 : Option V, σ = [some (.ref p), some (.ref L), some (.ref R), some (.ref T), e4, e5, e6, e7, e8, e9] ∧ Kq p H H' ∧ Pen H' p (r + 10 * (rs.length - j)) ∧ ∃ kvs, H' T = some (.dK kvs) ∧ kvs.length ≤ es.length + j ∧
    (∀ l ∈ ns, ∃ n : Int, valV kvs l = some (.int n) ∧ n.natAbs ≤ 100000000000000000000) ∧ ∀ i l, i < j → rs[i]? = some l → ∃ v f, valV kvs l = some v ∧ RowN 10 H' v f ∧ rBd f) ?_ (fun i σ H' hi h => ?_) (fun j x σ Hs hx h => ?_) (fun σ H' h => ?_)
  · exact ⟨e4, e5, e6, e7, e8, e9, rfl, k, pn.le (by omega), kvs, hT, by omega, hnam', fun i l hi => absurd hi (Nat.not_lt_zero i)⟩
  · obtain ⟨_, _, _, _, _, _, _, k, _⟩ := h
    exact SqL.of (k.st _ _ hR hRp)
  · obtain ⟨e4, e5, e6, e7, e8, e9, rfl, k, pn, kvs, hT, hkl, hint, hrow⟩ := h
    rw [List.getElem?_map] at hx
    obtain ⟨l_, hl, rfl⟩ := Option.map_eq_some_iff.mp hx
    have hj : j < rs.length := (List.getElem?_eq_some_iff.mp hl).1
    refine ⟨_, rfl, p, 4, r + 10 * (rs.length - (j + 1)) + 9, rfl, by decide, by decide, pn.le (by omega), fun sz H1 s0 s1 k1 pen1 => ?_⟩
    obtain ⟨m, rfl⟩ : ∃ m : Nat, sz = (m : Int) := ⟨sz.toNat, by omega⟩
    refine ⟨_, rfl, by decide, fun l1 n1 => ?_⟩
    have z1 := same_upd (o := .lst [V.int (-2)]) n1
    refine ⟨_, rfl, _, rfl, RgOk.of_le (by decide) (by omega) (by decide) (by omega), fun l2 n2 => ?_⟩
    have z2 := same_upd (o := .lst (rgV 0 m)) n2
    have hm4 : (rgV 0 (m : Int)).length = m := by rw [rgV_length]; omega
    refine ⟨l1, l2, _, _, rfl, rfl, z2 _ _ upd_same, upd_same, by rw [hm4]; exact small20 (by show 1 + m ≤ 1000; omega), fun l3 n3 => ?_⟩
    have z3 := same_upd (o := .lst ([V.int (-2)] ++ rgV 0 m)) n3
    refine ⟨_, rfl, _, _, rfl, rfl, by show 1 ≤ sizeLine; decide, fun l4 n4 => ?_⟩
    have z4 := same_upd (o := .lst [V.int (m + 1)]) n4
    refine ⟨l3, l4, _, _, rfl, rfl, z4 _ _ upd_same, upd_same, by rw [List.length_append, hm4]; exact small20 (by show 1 + m + 1 ≤ 1000; omega), fun l5 n5 => ?_⟩
    have z5 := same_upd (o := .lst ([V.int (-2)] ++ rgV 0 m ++ [V.int (m + 1)])) n5
    have pen5 := ((((pen1.same z1).same z2).same z3).same z4).same z5
    have k5 : Kq p Hs _ := ((((k1.trans (.of z1)).trans (.of z2)).trans (.of z3)).trans (.of z4)).trans (.of z5)
    have l5p : l5 ≠ p := ((((pen1.same z1).same z2).same z3).same z4).ne n5
    have hpl : [V.int (-2)] ++ rgV 0 m ++ [V.int (m + 1)] = ([-2] ++ iota m ++ [(m : Int) + 1]).map V.int := by rw [rg_iota, List.map_append, List.map_append]; rfl
    refine ⟨l5, rfl, ⟨_, SqL.of upd_same⟩, fun D1 d1 => ?_⟩
    have nD1 := k5.none pn d1
    have D1p := pn.ne nD1
    have z6 := same_upd (o := .lst []) d1
    have pll : ([-2] ++ iota m ++ [(m : Int) + 1]).length = m + 2 := by rw [List.length_append, List.length_append, iota_len]; show 1 + m + 1 = _; omega
    have hTv5 := z5 _ _ (z4 _ _ (z3 _ _ (z2 _ _ (z1 _ _ (k1.st _ _ hT hTp)))))
    have TD1 : T ≠ D1 := ne_of_none hTv5 d1
    have L5D : l5 ≠ D1 := ne_of_none (show upd _ l5 (.lst ([V.int (-2)] ++ rgV 0 m ++ [V.int (m + 1)])) l5 = some _ from upd_same) d1
    have hL5 := (z6 _ _ (show upd _ l5 (.lst ([V.int (-2)] ++ rgV 0 m ++ [V.int (m + 1)])) l5 = some _ from upd_same)).trans (congrArg (fun z => some (HO.lst z)) hpl)
    refine lc_list (K := K) (a := l5) (xs := ([-2] ++ iota m ++ [(m : Int) + 1]).map V.int) (fun i H' => H' l5 = some (.lst (([-2] ++ iota m ++ [(m : Int) + 1]).map V.int)) ∧ (∃ us prs, H' D1 = some (.lst us) ∧ DRs H' us (List.map prD prs) ∧ prs.length = i ∧ ∀ q ∈ prs, q.2.natAbs ≤ 3) ∧ Kq p Hs H' ∧ Pen H' p (r + 10 * (rs.length - (j + 1)) + (9 - i))) ?_ (fun i H' hi h => SqL.of h.1) (fun i x H' hx h => ?_) (fun H' h => ?_)
    · exact ⟨hL5, ⟨[], [], upd_same, .nil, rfl, by simp⟩, k5.new d1, pen5.same z6⟩
    · obtain ⟨h5, ⟨us, prs, hD, hds, hpl', hb⟩, hk, hpn⟩ := h
      rw [List.getElem?_map] at hx
      obtain ⟨pl, hpl1, rfl⟩ := Option.map_eq_some_iff.mp hx
      have hi6 : i < m + 2 := by rw [← pll]; exact (List.getElem?_eq_some_iff.mp hpl1).1
      have hul : us.length = i := by rw [hds.length, List.length_map, hpl']
      refine ⟨rfl, _, rfl, _, rfl, p, 7, r + 10 * (rs.length - (j + 1)) + (9 - (i + 1)), rfl, by decide, by decide, hpn.le (by omega), fun n H2 n0 n1 k2 pen2 => ⟨_, _, rfl, rfl, by show 2 ≤ sizeLine; decide, fun t nt => ?_⟩⟩
      have zt := same_upd (o := .tup [V.int pl, .int (n - 3)]) nt
      have hD2 := zt _ _ (k2.st _ _ hD D1p)
      have t6 : KT (upd H2 t (.tup [V.int pl, .int (n - 3)])) (upd (upd H2 t (.tup [V.int pl, .int (n - 3)])) D1 (.lst (us ++ [V.ref t]))) := KT.set hD2 fun ys z => by cases z
      have k3 := (hk.trans k2).new (o := .tup [V.int pl, .int (n - 3)]) nt
      refine ⟨us, hD2, small1000 (by omega), ?_, ⟨us ++ [V.ref t], prs ++ [(pl, n - 3)], upd_same, ?_, by rw [List.length_append, hpl']; rfl, fun q hq => ?_⟩, k3.set nD1, k3.pen pn (pen2.same zt) nD1⟩
      · rw [upd_ne L5D]
        exact zt _ _ (k2.st _ _ h5 l5p)
      · rw [List.map_append]
        exact ((hds.kt (k2.kt hpn)).kt ((KT.of zt).trans t6)).append (.cons (.tup (t6 _ _ upd_same) (.cons (.int _) (.cons (.int _) .nil))) .nil)
      · rcases List.mem_append.mp hq with hq | hq
        · exact hb q hq
        · rcases List.mem_singleton.mp hq with rfl
          show (n - 3).natAbs ≤ 3
          omega
    obtain ⟨h5, ⟨us, prs, hD, hds, hpl', hb⟩, hk, hpn⟩ := h
    rw [List.length_map, pll] at hpl' hpn
    have hul : us.length = m + 2 := by rw [hds.length, List.length_map, hpl']
    -- the pairs that are not 0
    refine ⟨_, rfl, _, rfl, D1, rfl, ⟨_, SqL.of hD⟩, fun D2 d2 => ?_⟩
    have nD2 := hk.none pn d2
    have D2p := pn.ne nD2
    have D12 : D1 ≠ D2 := ne_of_none hD d2
    have z7 := same_upd (o := .lst []) d2
    refine lc_list (K := K) (a := D1) (xs := us) (fun i H' => H' D1 = some (.lst us) ∧ (∃ vs2, H' D2 = some (.lst vs2) ∧ DRs H' vs2 (((prs.take i).filter fun q => decide (q.2 ≠ 0)).map prD)) ∧ DRs H' us (prs.map prD) ∧ Kq p Hs H' ∧ Pen H' p (r + 10 * (rs.length - (j + 1)))) ?_ (fun i H' hi h => SqL.of h.1) (fun i x H' hx h => ?_) (fun H' h => ?_)
    · exact ⟨z7 _ _ hD, ⟨[], upd_same, .nil⟩, hds.kt (.of z7), hk.new d2, (hpn.same z7).le (by omega)⟩
    · obtain ⟨h1, ⟨vs2, hD2, hds2⟩, hds, hk, hpn⟩ := h
      obtain ⟨dx, hdx, hrx⟩ := hds.getV hx
      rw [List.getElem?_map] at hdx
      obtain ⟨⟨qa, qb⟩, hq, rfl⟩ := Option.map_eq_some_iff.mp hdx
      obtain ⟨b, xs, rfl, hb', hx'⟩ := hrx.tup_inv
      obtain ⟨x1, y1, rfl, g1, hx'⟩ := hx'.cons_inv
      obtain ⟨x2, y2, rfl, g2, hx'⟩ := hx'.cons_inv
      cases hx'
      cases g1.int_inv
      cases g2.int_inv
      have hi6 : i < m + 2 := by rw [← hpl']; exact (List.getElem?_eq_some_iff.mp hq).1
      have htk : (prs.take (i + 1)).filter (fun q => decide (q.2 ≠ 0)) = (prs.take i).filter (fun q => decide (q.2 ≠ 0)) ++ (if qb ≠ 0 then [(qa, qb)] else []) := by
        rw [List.take_add_one, hq, List.filter_append]
        congr 1
        by_cases z : qb = 0
        · rw [if_neg (by simpa using z)]
          simp [z]
        · rw [if_pos z]
          simp [z]
      refine ⟨b, _, rfl, SqT.of hb', rfl, _, _, rfl, _, _, rfl, rfl, rfl, ?_⟩
      refine ⟨_, rfl, rfl, _, rfl, ?_⟩
      have hv2l : vs2.length ≤ i := by
        rw [hds2.length, List.length_map]
        exact Nat.le_trans (List.length_filter_le _ _) (by rw [List.length_take]; omega)
      by_cases z : qb = 0
      · have hc : (!decide (V.int qb = V.int 0)) = false := by rw [z]; rfl
        refine ite2 (fun c => absurd c (by rw [hc]; decide)) (fun _ => ?_)
        refine ⟨h1, ⟨vs2, hD2, ?_⟩, hds, hk, hpn⟩
        rw [htk, if_neg (by simpa using z), List.append_nil]
        exact hds2
      · have hc : (!decide (V.int qb = V.int 0)) = true := by
          rw [decide_eq_false fun e : V.int qb = V.int 0 => z (by injection e)]
          rfl
        refine ite2 (fun _ => ?_) (fun c => absurd hc c)
        refine ⟨_, rfl, _, rfl, by show 2 ≤ sizeLine; decide, fun t nt => ?_⟩
        have zt := same_upd (o := .tup [V.int qa, .int qb]) nt
        have t6 : KT (upd H' t (.tup [V.int qa, .int qb])) (upd (upd H' t (.tup [V.int qa, .int qb])) D2 (.lst (vs2 ++ [V.ref t]))) := KT.set (zt _ _ hD2) fun ys z => by cases z
        refine ⟨vs2, zt _ _ hD2, small1000 (by omega), ?_, ⟨_, upd_same, ?_⟩, hds.kt ((KT.of zt).trans t6), (hk.new nt).set nD2, (hk.new nt).pen pn (hpn.same zt) nD2⟩
        · rw [upd_ne D12]
          exact zt _ _ h1
        · rw [htk, if_pos z, List.map_append]
          exact (hds2.kt ((KT.of zt).trans t6)).append (.cons (.tup (t6 _ _ upd_same) (.cons (.int _) (.cons (.int _) .nil))) .nil)
    obtain ⟨h1, ⟨vs2, hD2, hds2⟩, hds, hk, hpn⟩ := h
    have hprs : prs.take us.length = prs := List.take_of_length_le (by omega)
    rw [hprs] at hds2
    have hv2l : vs2.length ≤ m + 2 := by
      rw [hds2.length, List.length_map]
      exact Nat.le_trans (List.length_filter_le _ _) (by omega)
    refine ⟨D2, vs2, rfl, SqL.of hD2, fun l o nl hpo => ⟨by show 2 ≤ sizeLine; decide, fun t nt => ?_⟩⟩
    have z8 := same_upd (o := .frz o (.tup vs2)) nl
    have z9 := same_upd (o := .tup [V.int (m : Int), .ref l]) nt
    have hT9 := z9 _ _ (z8 _ _ (hk.st _ _ hT hTp))
    refine ⟨_, rfl, _, rfl, T, _, rfl, DPut.k (k := l_) hT9 (small1000 (by omega)), ?_⟩
    have kall := (hk.new nl).new (o := .tup [V.int (m : Int), .ref l]) nt
    have penall := (hpn.same z8).same z9
    have tT : KT (upd (upd H' l (.frz o (.tup vs2))) t (.tup [V.int (m : Int), .ref l])) (upd (upd (upd H' l (.frz o (.tup vs2))) t (.tup [V.int (m : Int), .ref l])) T (.dK (putK kvs l_ (.ref t)))) := KT.set hT9 fun ys z => by cases z
    have fT : ∀ b o' u, upd (upd H' l (.frz o (.tup vs2))) t (.tup [V.int (m : Int), .ref l]) b = some (.frz o' u) → upd (upd (upd H' l (.frz o (.tup vs2))) t (.tup [V.int (m : Int), .ref l])) T (.dK (putK kvs l_ (.ref t))) b = some (.frz o' u) := fun b o' u e => by
      have : b ≠ T := fun z => by
        rw [z, hT9] at e
        cases e
      rw [upd_ne this]
      exact e
    have kdall := kall.kd pn
    have hnew : RowN 10 (upd (upd (upd H' l (.frz o (.tup vs2))) t (.tup [V.int (m : Int), .ref l])) T (.dK (putK kvs l_ (.ref t)))) (.ref t) ((m : Int), rd (prs.filter fun q => decide (q.2 ≠ 0))) :=
      ⟨t, l, o, vs2, _, rfl, tT _ _ upd_same, fT _ _ _ (z9 _ _ upd_same), hpo, (hds2.kt ((KT.of z8).trans (KT.of z9))).kt tT, by
        refine Nat.le_trans (List.length_filter_le _ _) ?_
        omega, fun i => rfl⟩
    have hlr : l_ ∈ rs := List.mem_of_getElem? hl
    refine ⟨e4, _, _, _, e8, e9, rfl, (k.trans kall).set nT, (k.trans kall).pen hpen penall nT, _, upd_same, ?_, fun l' hl' => ?_, fun i l' hi hl' => ?_⟩
    · have := length_putK kvs l_ (V.ref t)
      omega
    · have : l' ≠ l_ := fun z => hdis l' hl' (z ▸ hlr)
      rw [valV_put, if_neg this]
      exact hint l' hl'
    · rw [valV_put]
      by_cases z : l' = l_
      · rw [if_pos z]
        exact ⟨_, _, rfl, hnew, by show ((m : Int)).natAbs ≤ 4; omega, rd_small fun q hq => hb q (List.mem_filter.mp hq).1⟩
      · rw [if_neg z]
        have hij : i < j := by
          by_cases e : i = j
          · rw [e, hl] at hl'
            cases hl'
            exact absurd rfl z
          · omega
        obtain ⟨v, f, e1, e2, e3⟩ := hrow i l' hij hl'
        exact ⟨v, f, e1, (e2.keep kdall).keep2 tT fT, e3⟩
  · obtain ⟨e4, e5, e6, e7, e8, e9, rfl, k, pn, kvs, hT, hkl, hint, hrow⟩ := h
    rw [List.length_map] at hrow pn
    refine ⟨_, rfl, ?_⟩
    have hr' : ∀ l ∈ rs, ∃ f, (∃ v, valV kvs l = some v ∧ RowN 10 H' v f) ∧ rBd f := fun l hl => by
      obtain ⟨i, hi, e⟩ := List.getElem_of_mem hl
      obtain ⟨v, f, h1, h2, h3⟩ := hrow i l hi (by rw [List.getElem?_eq_getElem hi, e])
      exact ⟨f, ⟨v, h1, h2⟩, h3⟩
    refine q T (fun l => match valV kvs l with | some (.int n) => if n.natAbs ≤ 100000000000000000000 then n else 0 | _ => 0) (fun l => open Classical in if h : ∃ f, (∃ v, valV kvs l = some v ∧ RowN 10 H' v f) ∧ rBd f then h.choose else (0, fun _ => 0)) H' nT ⟨kvs, hT, fun l hl => ?_, fun l hl => ?_⟩ ⟨fun l => ?_, fun l => ?_⟩ ⟨kvs, hT, by rw [List.length_map] at hkl; omega⟩ k (pn.le (by omega))
    · obtain ⟨n, h1, h2⟩ := hint l hl
      show valV kvs l = some (.int (match valV kvs l with | some (.int n) => if n.natAbs ≤ 100000000000000000000 then n else 0 | _ => 0))
      rw [h1]
      show some (V.int n) = some (.int (if n.natAbs ≤ 100000000000000000000 then n else 0))
      rw [if_pos h2]
    · have hx := hr' l hl
      show ∃ v, valV kvs l = some v ∧ RowN 10 H' v (open Classical in if h : ∃ f, (∃ v, valV kvs l = some v ∧ RowN 10 H' v f) ∧ rBd f then h.choose else (0, fun _ => 0))
      rw [dif_pos hx]
      exact hx.choose_spec.1
    · show (match valV kvs l with | some (.int n) => if n.natAbs ≤ 100000000000000000000 then n else 0 | _ => 0).natAbs ≤ 100000000000000000000
      split
      · split
        · assumption
        · decide
      · decide
    · show rBd (open Classical in if h : ∃ f, (∃ v, valV kvs l = some v ∧ RowN 10 H' v f) ∧ rBd f then h.choose else (0, fun _ => 0))
      by_cases hx : ∃ f, (∃ v, valV kvs l = some v ∧ RowN 10 H' v f) ∧ rBd f
      · rw [dif_pos hx]
        exact hx.choose_spec.2
      · rw [dif_neg hx]
        exact ⟨by show (0 : Int).natAbs ≤ 4; decide, fun i => by show (0 : Int).natAbs ≤ 3; decide⟩
end
end Lw
/-! Part H7: the walk of law. -/
namespace Lw
open PySem PySem.Spec L2 L2.DX PyProof.Rows
def spTableA : Sp := fun vs H Q E => ∃ a : List Th × List Key × List Key, True ∧ spTable a.1 a.2.1 a.2.2 vs H Q E
def spWorthA : Sp := fun vs H Q E => ∃ a : List Th × (List Key × List Key) × (Key → Int) × (Key → RowF), (PoolP a.1 a.2.1.1 a.2.1.2 ∧ TabB a.2.1.1 a.2.1.2 a.2.2.1 a.2.2.2) ∧ spWorth a.1 a.2.1.1 a.2.1.2 a.2.2.1 a.2.2.2 3 0 vs H Q E
def spSpeltA : Sp := fun vs H Q E => ∃ es : List Th, True ∧ spSpelt es 3 0 vs H Q E
def spFormA (PT : Addr) : Sp := fun vs H Q E => ∃ a : List Key × List Key, True ∧ spForm PT a.1 a.2 110 vs H Q E
def spSumOfA (PT : Addr) : Sp := fun vs H Q E => ∃ a : List Key × List Key, True ∧ spSumOf PT a.1 a.2 110 vs H Q E
def spWorthOfA : Sp := fun vs H Q E => ∃ a : (List Key × List Key) × (Key → Int) × (Key → RowF), True ∧ spWorthOf a.1.1 a.1.2 a.2.1 a.2.2 110 vs H Q E
def spAddedA : Sp := fun vs H Q E => ∃ a : (List Key × List Key) × (Key → Int) × (Key → RowF), True ∧ spAdded a.1.1 a.1.2 a.2.1 a.2.2 110 vs H Q E
def spAllSoA (PT : Addr) : Sp := fun vs H Q E => ∃ a : (List Key × List Key) × (Key → Int) × (Key → RowF), True ∧ spAllSo PT a.1.1 a.1.2 a.2.1 a.2.2 110 vs H Q E
def spPutA : Sp := fun vs H Q E => ∃ a : Key × Tm, True ∧ spPut a.1 a.2 110 vs H Q E
/-- what law stands on -/
structure LawK (P : Program) (w : World) (K : PySem.W.Frag) (mg' : Str → Option Value) (base : Heap) (PT : Addr) : Prop where
  opn : Gv P w K mg' base 1 "_law_open" ["_law_script"] (spOpen K)
  nms : Gv P w K mg' base 3 "_law_s_names" ["_law_pen", "_law_many"] spNames
  pol : Gg P w K mg' base 26 "_law_s_pool" ["_law_pen", "_law_names", "_law_more", "_law_most"] spPool
  tab : Gv P w K mg' base 4 "_law_s_table" ["_law_pen", "_law_pool", "_law_rows"] spTableA
  sum : Gv P w K mg' base 4 "_law_s_sum" ["_law_pen", "_law_many", "_law_most"] spSum
  wor : Gv P w K mg' base 31 "_law_s_worth" ["_law_pool", "_law_table", "_law_thing"] spWorthA
  spl : Gv P w K mg' base 39 "_law_s_spelt" ["_law_pen", "_law_pool", "_law_thing"] spSpeltA
  frm : Gg P w K mg' base 116 "form_of" ["thing"] (spFormA PT)
  sof : Gg P w K mg' base 116 "sum_of" ["term"] (spSumOfA PT)
  wof : Gv P w K mg' base 114 "worth_of" ["thing", "table", "notions"] spWorthOfA
  sam : Gv P w K mg' base 2 "_law_same" ["_law_found", "_law_due"] (spSame 1)
  add : Gv P w K mg' base 115 "_law_s_added" ["_law_pairs", "_law_number", "_law_table"] spAddedA
  all : Gg P w K mg' base 119 "_law_s_all_so" ["_law_one", "_law_again", "_law_other", "_law_step", "_law_table"] (spAllSoA PT)
  put : Gv P w K mg' base 112 "put_in" ["thing", "by"] spPutA
  tak : Gv P w K mg' base 2 "_law_take" ["_law_pen", "_law_many"] spTake
  len : mg' "len" = none
  rng : mg' "range" = none
  dct : mg' "dict" = none
def spLaw (K : PySem.W.Frag) (PT : Addr) : Sp := fun vs H Q _ => ∃ (S : Addr) (ns : List Int), vs = [.ref S] ∧ SqL K H S (ns.map .int) ∧ ns.length ≤ 63 ∧ LamX.Tabs (TT PT) H ∧ ∀ H', Q (.bl true) H'
abbrev lawN : List Str := ["_law_script", "_law_pen", "_law_turn", "_law_names", "_law_pool", "_law_table", "_law_one", "_law_worth", "_law_spelt", "_law_k", "_law_term", "_law_pairs", "_law_number", "_law_some", "_law_step", "_law_beside", "_law_letter", "_law_laid", "_law_within", "_law_turned", "_law_due"]
theorem scLaw : FnScope lawN ["_law_script"] (defScope (top 60)) := ⟨rfl, rfl, rfl, by decide +kernel, rfl, by decide +kernel, by decide +kernel⟩
/-! ### what stands while the law runs -/
structure Go (p : Addr) (H H' : Hp) : Prop where
  kl : KL p H H'
  kd : KD H H'
section
variable {p : Addr} {H H' H2 : Hp}
theorem Go.of (s : Same H H') : Go p H H' := ⟨.of s, .of s⟩
theorem Go.kq (k : Kq p H H') {r : Nat} (h : Pen H p r) : Go p H H' := ⟨k.kl h, k.kd h⟩
theorem Go.ext (e : LamX.ExtN H H') : Go p H H' := ⟨⟨ExtN.kt e, fun b xs h _ => e _ _ h fun ps z => by cases z⟩, KD.ext e⟩
theorem Go.trans (a : Go p H H') (b : Go p H' H2) : Go p H H2 := ⟨⟨a.kl.1.trans b.kl.1, fun c xs h n => b.kl.2 _ _ (a.kl.2 _ _ h n) n⟩, ⟨a.kd.t.trans b.kd.t, fun c o u h => b.kd.f _ _ _ (a.kd.f _ _ _ h), fun c ks h => b.kd.d _ _ (a.kd.d _ _ h)⟩⟩
theorem Pen.ext {r : Nat} (h : Pen H p r) (e : LamX.ExtN H H') : Pen H' p r := by
  obtain ⟨c, a, x, ns, h1, h2, h3, h4, h5⟩ := h
  exact ⟨c, a, x, ns, e _ _ h1 fun ps z => (by cases z), h2, e _ _ h3 fun ps z => (by cases z), h4, h5⟩
theorem tabs_kq {PT : Addr} (t : LamX.Tabs (TT PT) H) (k : Kq p H H') {r : Nat} (h : Pen H p r) : LamX.Tabs (TT PT) H' := fun x hx => k.tab h (t x hx)
/-- the script stands -/
def Scr (K : PySem.W.Frag) (p : Addr) (H : Hp) (S : Addr) (xs : List V) : Prop := (∀ H', SqL K H' S xs) ∨ ∃ o, H S = some o ∧ S ≠ p ∧ (o = .lst xs ∨ ∃ u, o = .frz u (.lst xs))
theorem Scr.sq {K : PySem.W.Frag} {S : Addr} {xs : List V} (h : Scr K p H S xs) : SqL K H S xs := by
  rcases h with h | ⟨o, h, _, e | ⟨u, e⟩⟩
  · exact h H
  · exact SqL.of (by rw [h, e])
  · exact .inl (.inr ⟨u, by rw [h, e]⟩)
theorem Scr.go {K : PySem.W.Frag} {S : Addr} {xs : List V} (h : Scr K p H S xs) (g : Go p H H') : Scr K p H' S xs := by
  rcases h with h | ⟨o, h, n, e | ⟨u, e⟩⟩
  · exact .inl h
  · exact .inr ⟨_, g.kl.2 _ _ (by rw [h, e]) n, n, .inl rfl⟩
  · exact .inr ⟨_, g.kd.f _ _ _ (by rw [h, e]), n, .inr ⟨u, rfl⟩⟩
theorem Scr.new {K : PySem.W.Frag} {S : Addr} {xs : List V} (h : SqL K H S xs) (s : Same H H') (n : H p = none) : Scr K p H' S xs := by
  rcases h with (h | ⟨u, h⟩) | h
  · exact .inr ⟨_, s _ _ h, ne_of_none h n, .inl rfl⟩
  · exact .inr ⟨_, s _ _ h, ne_of_none h n, .inr ⟨u, rfl⟩⟩
  · exact .inl fun _ => .inr h
/-- pen, script, table of code -/
structure B0 (K : PySem.W.Frag) (PT p S : Addr) (is : List Int) (H : Hp) (r : Nat) : Prop where
  pen : Pen H p r
  scr : Scr K p H S (is.map .int)
  tabs : LamX.Tabs (TT PT) H
theorem B0.kq {K : PySem.W.Frag} {PT S : Addr} {is : List Int} {r r' : Nat} (b : B0 K PT p S is H r) (k : Kq p H H') (h : Pen H' p r') : B0 K PT p S is H' r' := ⟨h, b.scr.go (.kq k b.pen), tabs_kq b.tabs k b.pen⟩
theorem B0.same {K : PySem.W.Frag} {PT S : Addr} {is : List Int} {r : Nat} (b : B0 K PT p S is H r) (s : Same H H') : B0 K PT p S is H' r := ⟨b.pen.same s, b.scr.go (.of s), b.tabs.ext s⟩
theorem B0.ext {K : PySem.W.Frag} {PT S : Addr} {is : List Int} {r : Nat} (b : B0 K PT p S is H r) (e : LamX.ExtN H H') (t : LamX.Tabs (TT PT) H') : B0 K PT p S is H' r := ⟨b.pen.ext e, b.scr.go (.ext e), t⟩
theorem B0.le {K : PySem.W.Frag} {PT S : Addr} {is : List Int} {r r' : Nat} (b : B0 K PT p S is H r) (k : r' ≤ r) : B0 K PT p S is H r' := ⟨b.pen.le k, b.scr, b.tabs⟩
/-- pool and table -/
structure B1 (p L T : Addr) (es : List Th) (ns rs : List Key) (tn : Key → Int) (tr : Key → RowF) (H : Hp) : Prop where
  pool : PoolR p H L es
  tab : TabR H T ns rs tn tr
  tl : TabL H T
theorem TabL.go {p T : Addr} {H H' : Hp} (h : TabL H T) (g : Go p H H') : TabL H' T := by
  obtain ⟨kvs, h1, h2⟩ := h
  exact ⟨kvs, g.kd.d _ _ h1, h2⟩
theorem B1.go {L T : Addr} {es : List Th} {ns rs : List Key} {tn : Key → Int} {tr : Key → RowF} (b : B1 p L T es ns rs tn tr H) (g : Go p H H') : B1 p L T es ns rs tn tr H' := ⟨b.pool.keep g.kl, b.tab.keep g.kd, b.tl.go g⟩
/-- two spelt terms in a list -/
structure B2 (p D : Addr) (v1 v2 : V) (t1 t2 : Tm) (H : Hp) : Prop where
  n : D ≠ p
  l : H D = some (.lst [v1, v2])
  r1 : TR H v1 t1
  r2 : TR H v2 t2
theorem B2.go {D : Addr} {v1 v2 : V} {t1 t2 : Tm} (b : B2 p D v1 v2 t1 t2 H) (g : Go p H H') : B2 p D v1 v2 t1 t2 H' := ⟨b.n, g.kl.2 _ _ b.l b.n, b.r1.kt g.kl.1, b.r2.kt g.kl.1⟩
end
abbrev cst : Nat := 5251280
theorem cs_sum (ps : List (Nat × Int)) (m : Int) : cs 3 (.sum ps m) = cst := by
  show 1 * (cl 3 + 40) = 5251280
  decide
section
variable {P : Program} {w : World} {K : PySem.W.Frag} {mg' : Str → Option Value} {base : Heap} {PT : Addr}
set_option maxHeartbeats 4000000 in
theorem ok_law (D : Df K mg' "law" 60) (Z : LawK P w K mg' base PT) : Gg P w K mg' base 120 "law" ["_law_script"] (spLaw K PT) := by
  refine okGg D scLaw (fun _ _ _ _ _ _ us hl => match us, hl with | [_], _ => rfl) (fun vs H Q E h => ?_) (fun f cdv A out s H vs Q E gd hr h => ?_)
  · obtain ⟨S, ns, rfl, _⟩ := h
    rfl
  obtain ⟨S, is, rfl, hS, hSl, hTb, q⟩ := h
  have nd := scLaw.nd
  have hu64 := hr.units
  have r1 := hr.mono (show 1 ≤ 119 by decide)
  have r2 := hr.mono (show 2 ≤ 119 by decide)
  have r3 := hr.mono (show 3 ≤ 119 by decide)
  have r4 := hr.mono (show 4 ≤ 119 by decide)
  have r26 := hr.mono (show 26 ≤ 119 by decide)
  have r31 := hr.mono (show 31 ≤ 119 by decide)
  have r39 := hr.mono (show 39 ≤ 119 by decide)
  have r112 := hr.mono (show 112 ≤ 119 by decide)
  have r114 := hr.mono (show 114 ≤ 119 by decide)
  have r115 := hr.mono (show 115 ≤ 119 by decide)
  have r116 := hr.mono (show 116 ≤ 119 by decide)
  refine ⟨_, pss_cons (ps_set (i := 1) nd rfl (Or.inr rfl) (pe_v (E := E0) Z.opn r1 rfl (pa_cons (pv 0) pa_nil)))
    (pss_cons (ps_for PassesOwn.never rfl (pi_range1 rfl Z.rng (pa_cons pe_int pa_nil)) (pg_name (i := 2) nd rfl (Or.inl rfl))
      (pss_cons (less1 (t' := fun D σ H' => ∃ p : Addr, (∃ (i : Nat) (e3 e4 e5 e6 e7 e8 e9 e10 e11 e12 e13 e14 e15 e16 e17 e18 e19 e20 : Option V), σ = [some (.ref S), some (.ref p), some (.int (0 + i)), e3, e4, e5, e6, e7, e8, e9, e10, e11, e12, e13, e14, e15, e16, e17, e18, e19, e20]) ∧ B0 K PT p S is H' 0 ∧ D.nx σ H' ∧ D.bk σ H') (ps_if (PW.pt (pw_and (pt_cmpR op_gt (pv 2) pe_int (nomark _)) (pw_and1 (pt_cmpR op_ge (pe_ix ix_list (pv 1) pe_int (fun _ _ => rfl)) (pe_callB call_len_seq rfl Z.len PySem.boot_len (pa_cons (pv 0) pa_nil)) (nomark _))))) (pss_one ps_break) pss_nil) fun D σ H' h => ?_)
      (pss_cons (ps_set (i := 3) nd rfl (Or.inl rfl) (pe_v (E := E0) Z.nms r3 rfl (pa_cons (pv 1) (pa_cons pe_int pa_nil))))
      (pss_cons (ps_set (i := 4) nd rfl (Or.inr rfl) (pe_g Z.pol gd r26 rfl (pa_cons (pv 1) (pa_cons (pv 3) (pa_cons pe_int (pa_cons pe_int pa_nil))))))
      (pss_cons (ps_set (i := 5) nd rfl (Or.inr rfl) (pe_v (E := E0) Z.tab r4 rfl (pa_cons (pv 1) (pa_cons (pv 4) (pa_cons (pe_lst (pa_cons (pe_ix ix_list (pv 3) pe_int (fun _ _ => rfl)) (pa_cons pe_int (pa_cons pe_str pa_nil)))) pa_nil)))))
      (pss_cons (ps_set (i := 6) nd rfl (Or.inr rfl) (pe_v (E := E0) Z.sum r4 rfl (pa_cons (pv 1) (pa_cons (pe_callB call_len_seq rfl Z.len PySem.boot_len (pa_cons (pv 4) pa_nil)) (pa_cons pe_int pa_nil)))))
      (pss_cons (ps_set (i := 7) nd rfl (Or.inl rfl) (pe_v (E := E0) Z.wor r31 rfl (pa_cons (pv 4) (pa_cons (pv 5) (pa_cons (pv 6) pa_nil)))))
      (pss_cons (ps_setLc (i := 8) (own := [("_law_k", 9)]) (g := gName 9) (tt := tYes) rfl nd rfl rfl (sw_true rfl rfl rfl (by decide +kernel)) (pi_range1 rfl Z.rng (pa_cons pe_int pa_nil)) (blkOk_by (own := [("_law_k", 9)]) (N := lawN) (sc := defScope (top 60)) (by decide +kernel))
          (fun _ _ _ _ _ => pg_name (i := 9) nd rfl (Or.inl rfl)) (fun _ _ _ _ _ => pts_nil) (fun _ _ _ _ _ => pe_v (E := E0) Z.spl r39 rfl (pa_cons (pv 1) (pa_cons (pv 4) (pa_cons (pv 6) pa_nil)))))
      (pss_cons (ps_if (pt_cmpR (op_neD hu64) (pe_g Z.frm gd r116 rfl (pa_cons (pe_ix ix_list (pv 8) pe_int (fun _ _ => rfl)) pa_nil)) (pe_g Z.frm gd r116 rfl (pa_cons (pe_ix ix_list (pv 8) pe_int (fun _ _ => rfl)) pa_nil)) (nomark _)) (pss_one (ps_ret pe_bl)) pss_nil)
      (pss_cons (ps_for PassesOwn.never rfl (pi_list (pv 8)) (pg_name (i := 10) nd rfl (Or.inl rfl))
        (pss_cons (ps_asg (pe_g Z.sof gd r116 rfl (pa_cons (pv 10) pa_nil)) (pg_tup rfl (pgs_cons (pg_name (i := 11) nd rfl (Or.inl rfl)) (pgs_cons (pg_name (i := 12) nd rfl (Or.inl rfl)) pgs_nil))))
        (pss_one (ps_if (PW.pt (pw_or (pt_not (pt_val (pe_v (E := E0) Z.sam r2 rfl (pa_cons (pe_v (E := E0) Z.wof r114 rfl (pa_cons (pv 10) (pa_cons (pv 5) (pa_cons pe_dnewK pa_nil)))) (pa_cons (pv 7) pa_nil))))) (pw_or1 (pt_cmpR op_ne (pe_v (E := E0) Z.add r115 rfl (pa_cons (pv 11) (pa_cons (pv 12) (pa_cons (pv 5) pa_nil)))) (pv 7) (nomark _))))) (pss_one (ps_ret pe_bl)) pss_nil))))
      (pss_cons (ps_set (i := 13) nd rfl (Or.inl rfl) (pe_ix ix_tup (pe_v (E := E0) Z.sum r4 rfl (pa_cons (pv 1) (pa_cons (pe_callB call_len_seq rfl Z.len PySem.boot_len (pa_cons (pv 4) pa_nil)) (pa_cons pe_int pa_nil)))) pe_int (fun _ _ => rfl)))
      (pss_cons (ps_set (i := 14) nd rfl (Or.inl rfl) (pe_ix ix_list (pe_lst (pa_cons (pe_un un_neg pe_int) (pa_cons pe_int (pa_cons pe_int (pa_cons pe_int (pa_cons (pe_op op_pow pe_int pe_int) pa_nil)))))) (pe_v (E := E0) Z.tak r2 rfl (pa_cons (pv 1) (pa_cons pe_int pa_nil))) (fun _ _ => rfl)))
      (pss_cons (ps_set (i := 15) nd rfl (Or.inl rfl) (pe_tup (pa_cons pe_str (pa_cons (pv 13) (pa_cons (pe_op op_sub (pe_op op_add (pv 7) (pv 14)) (pe_v (E := E0) Z.wor r31 rfl (pa_cons (pv 4) (pa_cons (pv 5) (pa_cons (pe_tup (pa_cons pe_str (pa_cons (pv 13) (pa_cons pe_int pa_nil)))) pa_nil))))) pa_nil)))))
      (pss_cons (ps_if (pt_not (pt_val (pe_g Z.all gd hr rfl (pa_cons (pe_ix ix_list (pv 8) pe_int (fun _ _ => rfl)) (pa_cons (pe_ix ix_list (pv 8) pe_int (fun _ _ => rfl)) (pa_cons (pe_v (E := E0) Z.spl r39 rfl (pa_cons (pv 1) (pa_cons (pv 4) (pa_cons (pv 15) pa_nil)))) (pa_cons (pv 14) (pa_cons (pv 5) pa_nil)))))))) (pss_one (ps_ret pe_bl)) pss_nil)
      (pss_cons (ps_set (i := 16) nd rfl (Or.inr rfl) (pe_ix ix_tup (pe_ix ix_list (pv 4) (pe_v (E := E0) Z.tak r2 rfl (pa_cons (pv 1) (pa_cons pe_int pa_nil))) (fun _ _ => rfl)) pe_int (fun _ _ => rfl)))
      (pss_cons (ps_set (i := 17) nd rfl (Or.inr rfl) (pe_v (E := E0) Z.sum r4 rfl (pa_cons (pv 1) (pa_cons pe_int (pa_cons pe_int pa_nil)))))
      (pss_cons (ps_setLc (i := 18) (own := [("_law_term", 10)]) (g := gName 10) (tt := tYes) rfl nd rfl rfl (sw_true rfl rfl rfl (by decide +kernel)) (pi_list (pv 8)) (blkOk_by (own := [("_law_term", 10)]) (N := lawN) (sc := defScope (top 60)) (by decide +kernel))
          (fun _ _ _ _ _ => pg_name (i := 10) nd rfl (Or.inl rfl)) (fun _ _ _ _ _ => pts_nil) (fun _ _ _ _ _ => pe_v (E := E0) Z.put r112 rfl (pa_cons (pv 10) (pa_cons (pe_disp (pps_cons (pv 16) (pe_v (E := E0) Z.spl r39 rfl (pa_cons (pv 1) (pa_cons (pv 4) (pa_cons (pv 17) pa_nil)))) pps_nil) rfl rfl (by simp) (by decide)) pa_nil))))
      (pss_cons (ps_if (pt_cmpR (op_neD hu64) (pe_g Z.frm gd r116 rfl (pa_cons (pe_ix ix_list (pv 18) pe_int (fun _ _ => rfl)) pa_nil)) (pe_g Z.frm gd r116 rfl (pa_cons (pe_ix ix_list (pv 18) pe_int (fun _ _ => rfl)) pa_nil)) (nomark _)) (pss_one (ps_ret pe_bl)) pss_nil)
      (pss_cons (ps_set (i := 19) nd rfl (Or.inl rfl) (pe_callTy call_dictD rfl Z.dct boot_dict (pa_cons (pv 5) pa_nil)))
      (pss_cons (ps_dput (hu_of hr) (pv 19) (pv 16) (pe_v (E := E0) Z.wor r31 rfl (pa_cons (pv 4) (pa_cons (pv 5) (pa_cons (pv 17) pa_nil)))) rfl)
      (pss_cons (ps_set (i := 20) nd rfl (Or.inl rfl) (pe_v (E := E0) Z.wor r31 rfl (pa_cons (pv 4) (pa_cons (pv 19) (pa_cons (pv 6) pa_nil)))))
      (pss_one (ps_if (pt_not (pt_val (pe_v (E := E0) Z.sam r2 rfl (pa_cons (pe_lc (own := [("_law_term", 10)]) (g := gName 10) (tt := tYes) rfl nd (pi_list (pv 18)) (blkOk_by (own := [("_law_term", 10)]) (N := lawN) (sc := defScope (top 60)) (by decide +kernel))
          (fun _ _ _ _ _ => pg_name (i := 10) nd rfl (Or.inl rfl)) (fun _ _ _ _ _ => pts_nil) (fun _ _ _ _ _ => pe_v (E := E0) Z.wof r114 rfl (pa_cons (pv 10) (pa_cons (pv 5) (pa_cons pe_dnewK pa_nil))))) (pa_cons (pe_lst (pa_cons (pv 20) (pa_cons (pv 20) pa_nil))) pa_nil))))) (pss_one (ps_ret pe_bl)) pss_nil)))))))))))))))))))))))
    (pss_one (ps_ret pe_bl))), ?_⟩
  · obtain ⟨p, ⟨i, e3, e4, e5, e6, e7, e8, e9, e10, e11, e12, e13, e14, e15, e16, e17, e18, e19, e20, rfl⟩, b, hnx, hbk⟩ := h
    obtain ⟨pc, pat, px, pns, hp1, hpc, hp2, hp3, hp4⟩ := id b.pen
    refine ⟨_, rfl, _, _, rfl, rfl, _, rfl, ite2 (fun c => ?_) (fun c => hnx)⟩
    exact ⟨_, rfl, p, _, _, _, rfl, rfl, SqL.of hp1, rfl, _, rfl, S, _, rfl, .inl b.scr.sq, _, _, rfl, rfl, _, rfl, ite2 (fun _ => hbk) (fun _ => hnx)⟩
  refine ⟨_, rfl, S, is, rfl, hS, hSl, fun p H1 s1 n1 pen1 => ?_⟩
  have b1 : B0 K PT p S is H1 536870912 := ⟨pen1, .new hS s1 n1, hTb.ext s1⟩
  refine ⟨_, rfl, by decide, by decide, ?_⟩
  refine for_range (lo := 0) (n := 2) (fun i σ H' => (∃ e2 e3 e4 e5 e6 e7 e8 e9 e10 e11 e12 e13 e14 e15 e16 e17 e18 e19 e20 : Option V, σ = [some (.ref S), some (.ref p), e2, e3, e4, e5, e6, e7, e8, e9, e10, e11, e12, e13, e14, e15, e16, e17, e18, e19, e20]) ∧ B0 K PT p S is H' (456870912 + 40000000 * (2 - i))) ?_ (fun i σ H' hi h => ?_) (fun σ H' h => ?_)
  · exact ⟨⟨none, none, none, none, none, none, none, none, none, none, none, none, none, none, none, none, none, none, none, rfl⟩, b1.le (by omega)⟩
  · obtain ⟨⟨e2, e3, e4, e5, e6, e7, e8, e9, e10, e11, e12, e13, e14, e15, e16, e17, e18, e19, e20, rfl⟩, b⟩ := h
    refine ⟨p, ⟨i, e3, e4, e5, e6, e7, e8, e9, e10, e11, e12, e13, e14, e15, e16, e17, e18, e19, e20, rfl⟩, b.le (Nat.zero_le _), ?_, ?_⟩
    · have hR : 456870912 + 40000000 * (2 - i) = 456870912 + 40000000 * (2 - (i + 1)) + 40000000 := by omega
      rw [hR] at b
      generalize 456870912 + 40000000 * (2 - (i + 1)) = R0 at b ⊢
      -- names
      refine ⟨_, rfl, p, R0 + 39999980, rfl, b.pen, fun a x y z H2 na ha hnm k2 pen2 => ?_⟩
      have b2 := b.kq k2 pen2
      have hap := b.pen.ne na
      -- the pool
      refine ⟨_, rfl, _, rfl, p, a, x, y, z, R0 + 39999870, rfl, hap, ha, hnm, pen2, fun L es ns H3 nL hP3 hG k3 pen3 => ?_⟩
      have b3 := b2.kq k3 pen3
      obtain ⟨hPP, hel, hel4, h4, hnse, hdis, hgn, hgr⟩ := hG
      have ha3 := k3.st _ _ ha hap
      -- the table
      refine ⟨_, rfl, _, rfl, _, rfl, a, _, _, _, rfl, rfl, SqL.of ha3, rfl, by show 3 ≤ sizeLine; decide, fun l4 n4 => ?_⟩
      have z4 := same_upd (o := .lst [V.str z, .int 1, .str "given"]) n4
      have b4 := b3.same z4
      refine ⟨(es, ns, rsK z), trivial, p, L, l4, R0 + 39999800, rfl, hP3.keep (.of z4), by show es.length ≤ 50; omega, (show 3 ≤ 10 by decide), b3.pen.ne n4, upd_same, hnse, hdis, b4.pen.le (by show R0 + 39999800 + (2 * es.length + 10 * 3) ≤ _; omega), fun T tn tr H5 nT hT5 hTB hTL5 k5 pen5 => ?_⟩
      have b5 := b4.kq k5 pen5
      have hP5 := (hP3.keep (.of z4)).keep (k5.kl b4.pen)
      have B5 : B1 p L T es ns (rsK z) tn tr H5 := ⟨hP5, hT5, hTL5⟩
      have hTB20 : ∀ l, (tn l).natAbs ≤ 10 ^ 20 := hTB.1
      have hTBB : TabB ns (rsK z) tn tr := ⟨fun l _ => Nat.le_trans (hTB.1 l) (by decide), fun l _ => ⟨Nat.le_trans (hTB.2 l).1 (by decide), fun i => Nat.le_trans ((hTB.2 l).2 i) (by decide)⟩⟩
      have hN0 := nmA0 (ns := ns) (rs := rsK z) (tr := tr) fun l => Nat.lt_of_le_of_lt (hTB20 l) (by decide +kernel)
      -- the sum
      obtain ⟨hLp, lvs, hL5, hLl, _⟩ := id hP5
      refine ⟨_, rfl, _, rfl, L, _, rfl, .inl (SqL.of hL5), p, lvs.length, 4, R0 + 39999700, rfl, by omega, by decide, b5.pen.le (by omega), fun vo ps1 m1 H6 ho6 hso k6 pen6 => ?_⟩
      rw [hLl] at hso
      have b6 := b5.kq k6 pen6
      have B6 := B5.go (.kq k6 b5.pen)
      have hr1 : Rk es 3 (.sum ps1 m1) := rk3 hPP hso (Nat.le_refl _) (Nat.le_refl _)
      have hm1 : m1.natAbs ≤ 10 ^ 139 := Nat.le_trans (show m1.natAbs ≤ 10 ^ 20 by have := hso.2.2; omega) (by decide)
      -- its worth
      refine ⟨_, rfl, _, rfl, _, rfl, (es, (ns, rsK z), tn, tr), ⟨hPP, hTBB⟩, L, T, vo, .sum ps1 m1, rfl, ⟨p, B6.pool, ho6⟩, B6.tab, hr1, Nat.le_refl _, trivial, fun H7 s7 => ?_⟩
      have b7 := b6.same s7
      have B7 := B6.go (.of s7)
      have ho7 := ho6.keep (.of s7)
      -- two spellings
      refine ⟨_, rfl, by decide, by decide, fun D8 n8 => ?_⟩
      have hD8p := b7.pen.ne n8
      have z8 := same_upd (o := .lst []) n8
      refine lc_range (Qd := fun H' => gName 8 (V.ref D8) _ H' _) (g := gName 9) (tt := tYes) (te := fun σ H Q => tCons (tVar 1) (tCons (tVar 4) (tCons (tVar 6) tNil)) σ H fun vs H1 => spSpeltA vs H1 Q E0) (vs := [9]) (σ := _) (D := D8) (H1 := H7) (lo := 0) (n := Int.toNat 2) (fun j H' => ∃ vts : List (V × Tm), H' D8 = some (.lst (vts.map (·.1))) ∧ vts.length = j ∧ (∀ x ∈ vts, TR H' x.1 x.2 ∧ Spl es nmP (.sum ps1 m1) x.2) ∧ Kq p H7 H' ∧ Pen H' p (R0 + 20000000 + (2 - j) * cst)) ?_ (fun j H' hj h => ?_) (fun H' h => ?_)
      · exact ⟨[], upd_same, rfl, fun x hx => absurd hx List.not_mem_nil, .of z8, (b7.pen.same z8).le (by show R0 + 20000000 + (2 - 0) * 5251280 ≤ _; omega)⟩
      · replace hj : j < 2 := hj
        obtain ⟨vts, hD, hl, hv, hk, hpn⟩ := h
        have g := Go.kq hk b7.pen
        have hsub : (2 - j) * cst = cst + (2 - (j + 1)) * cst := by
          have : 2 - j = 1 + (2 - (j + 1)) := by omega
          rw [this, Nat.add_mul, Nat.one_mul]
        rw [hsub] at hpn
        refine ⟨rfl, _, rfl, _, rfl, _, rfl, es, trivial, p, L, vo, .sum ps1 m1, R0 + 20000000 + (2 - (j + 1)) * cst, rfl, (B7.go g).pool, h4, ho7.keep g.kl, hr1, Nat.le_refl _, (show 1 ≤ 5 by decide), hpn.le (by rw [cs_sum]; omega), fun v t H9 ht hs k9 pen9 => ?_⟩
        have hD9 := k9.st _ _ hD hD8p
        have kt9 : KT H9 (upd H9 D8 (.lst (vts.map (·.1) ++ [v]))) := KT.set hD9 fun ys z => by cases z
        refine ⟨_, hD9, small1000 (by rw [List.length_map]; omega), vts ++ [(v, t)], by rw [upd_same, List.map_append]; rfl, by rw [List.length_append, hl]; rfl, fun x hx => ?_, (hk.trans k9).set n8, (hk.trans k9).pen b7.pen pen9 n8⟩
        rcases List.mem_append.mp hx with hx | hx
        · exact ⟨((hv x hx).1.kt (k9.kt hpn)).kt kt9, (hv x hx).2⟩
        · rw [List.mem_singleton] at hx
          subst hx
          exact ⟨ht.kt kt9, hs⟩
      obtain ⟨vts, hD, hl, hv, k9, pen9⟩ := h
      replace hl : vts.length = 2 := hl
      match vts, hl with
      | [(v1, t1), (v2, t2)], _ =>
      obtain ⟨hv1, hs1⟩ := hv _ (List.mem_cons_self ..)
      obtain ⟨hv2, hs2⟩ := hv _ (List.mem_cons_of_mem _ (List.mem_cons_self ..))
      have b9 := b7.kq k9 pen9
      have g9 := Go.kq k9 b7.pen
      have B9 := B7.go g9
      have ho9 := ho7.keep g9.kl
      have C9 : B2 p D8 v1 v2 t1 t2 H' := ⟨hD8p, hD, hv1, hv2⟩
      obtain ⟨T1, w1, f1⟩ := pack hPP hTBB hN0 hr1 hm1 hs1
      obtain ⟨T2, w2, f2⟩ := pack hPP hTBB hN0 hr1 hm1 hs2
      -- their forms are one
      refine ⟨_, rfl, D8, _, _, _, rfl, rfl, SqL.of C9.l, rfl, (ns, rsK z), trivial, v1, t1, rfl, C9.r1, ⟨false, T1.ok⟩, T1.lev, T1.fok, fun _ => T1.pok, b9.tabs, fun w1' H10 x10 tb10 hw1 => ?_⟩
      have b10 := b9.ext x10 tb10
      have g10 : Go p H' H10 := .ext x10
      have C10 := C9.go g10
      refine ⟨_, rfl, D8, _, _, _, rfl, rfl, SqL.of C10.l, rfl, (ns, rsK z), trivial, v2, t2, rfl, C10.r2, ⟨false, T2.ok⟩, T2.lev, T2.fok, fun _ => T2.pok, b10.tabs, fun w2' H11 x11 tb11 hw2 => ?_⟩
      have b11 := b10.ext x11 tb11
      have g11 : Go p H' H11 := g10.trans (.ext x11)
      have C11 := C9.go g11
      have B11 := B9.go g11
      have ho11 := ho9.keep g11.kl
      refine ⟨_, _, (hw1.kt (ExtN.kt x11)).dp K, hw2.dp K, gd_shaped T1.fg.1 T1.fg.2, gd_shaped T2.fg.1 T2.fg.2, _, rfl, ite2 (fun c => absurd c (by rw [f1.trans f2.symm, SeqAt.eqv_refl _ (gd_lay _ T2.fg.1)]; decide)) (fun _ => ?_)⟩
      -- each is worth the sum
      refine ⟨_, rfl, D8, rfl, ⟨_, SqL.of C11.l⟩, ?_⟩
      refine for_list (K := K) (a := D8) (xs := [v1, v2]) (fun j σ H' => (∃ e10 e11 e12 : Option V, σ = [some (.ref S), some (.ref p), some (.int (0 + i)), some (.ref a), some (.ref L), some (.ref T), some vo, some (.int (WW es tn tr 3 (.sum ps1 m1)).1), some (.ref D8), e9, e10, e11, e12, e13, e14, e15, e16, e17, e18, e19, e20]) ∧ B0 K PT p S is H' (R0 + 20000000) ∧ B1 p L T es ns (rsK z) tn tr H' ∧ B2 p D8 v1 v2 t1 t2 H' ∧ ThR p H' vo (.sum ps1 m1)) ?_ (fun j σ H' hj h => SqL.of h.2.2.2.1.l) (fun j x σ H' hx h => ?_) (fun σ H' h => ?_)
      · exact ⟨⟨e10, e11, e12, rfl⟩, b11.le (by omega), B11, C11, ho11⟩
      · obtain ⟨⟨e10, e11, e12, rfl⟩, b, B, C, ho⟩ := h
        obtain ⟨t, hxt, hT, hw⟩ : ∃ t, TR H' x t ∧ TOk ns (rsK z) tn tr t ∧ (tv tn tr t).1 = (WW es tn tr 3 (.sum ps1 m1)).1 := by
          match j, hx with
          | 0, hx => cases hx; exact ⟨t1, C.r1, T1, w1⟩
          | 1, hx => cases hx; exact ⟨t2, C.r2, T2, w2⟩
          | j + 2, hx => simp at hx
        refine ⟨_, rfl, (ns, rsK z), trivial, x, t, rfl, hxt, hT.ok, hT.lev, hT.gok, b.tabs, fun wv_ H2 x2 tb2 hwv => ?_⟩
        have b2' := b.ext x2 tb2
        have g2 : Go p H' H2 := .ext x2
        obtain ⟨pa, pxs, rfl, hpa, hpx⟩ := hwv.tup_inv
        obtain ⟨y1, r1', rfl, hy1, hpx⟩ := hpx.cons_inv
        obtain ⟨y2, r2', rfl, hy2, hpx⟩ := hpx.cons_inv
        cases hpx
        cases hy2.int_inv
        refine ⟨pa, _, rfl, SqT.of hpa, rfl, _, _, rfl, _, _, rfl, rfl, ?_⟩
        refine ⟨_, rfl, _, rfl, fun nd hnd => ?_⟩
        have z2 := same_upd (o := .dK []) hnd
        have g3 : Go p H' _ := g2.trans (.of z2)
        refine ⟨((ns, rsK z), tn, tr), trivial, T, nd, x, t, rfl, upd_same, hxt.kt g3.kl.1, hT.ok, hT.lev, (show 110 ≤ 700 by decide), hT.mul, (B.go g3).tab, fun H4 s4 => ⟨_, rfl, ?_⟩⟩
        have g4 := g3.trans (.of s4)
        refine ⟨_, _, rfl, .inl ⟨(WW es tn tr 3 (.sum ps1 m1)).1, congrArg V.int hw, rfl, fun H5 s5 => ?_⟩⟩
        have g5 := g4.trans (.of s5)
        refine ⟨_, rfl, iteF ?_⟩
        have hln : (liveE (mrg (ats t))).length ≤ 1000 := by
          have h1 : (liveE (mrg (ats t))).length ≤ (mrg (ats t)).length := List.length_filter_le ..
          have h2 := mrg_len (ats t)
          have h3 := hT.sml.2
          rw [ats_cnt] at h2
          omega
        refine ⟨_, rfl, _, rfl, _, rfl, ((ns, rsK z), tn, tr), trivial, y1, nb t, T, liveE (mrg (ats t)), rfl, hy1.kt ((KT.of z2).trans ((KT.of s4).trans (KT.of s5))), hln, hT.add, (show 110 ≤ 700 by decide), (B.go g5).tab, fun H6 s6 => ?_⟩
        have g6 := g5.trans (.of s6)
        refine ⟨_, rfl, rfl, _, rfl, ite2 (fun c => absurd c ?_) (fun _ => ?_)⟩
        · have e : nb t + addedV tn tr (liveE (mrg (ats t))) = (WW es tn tr 3 (.sum ps1 m1)).1 := hT.sum.trans hw
          show ¬ (!decide (V.int (nb t + addedV tn tr (liveE (mrg (ats t)))) = V.int (WW es tn tr 3 (.sum ps1 m1)).1)) = true
          rw [e]
          simp
        · exact ⟨⟨_, _, _, rfl⟩, ((((b2'.same z2).same s4).same s5).same s6), B.go g6, C.go g6, ho.keep g6.kl⟩
      obtain ⟨⟨e10, e11, e12, rfl⟩, b, B, C, ho⟩ := h
      -- another sum beside
      obtain ⟨_, lvs, hLl, hLn, _⟩ := id B.pool
      refine ⟨_, rfl, _, rfl, L, _, rfl, .inl (SqL.of hLl), p, lvs.length, 3, R0 + 19999000, rfl, by omega, by decide, b.pen.le (by omega), fun vs2 ps2 m2 H12 hs2' hso2 k12 pen12 => ?_⟩
      rw [hLn] at hso2
      have b12 := b.kq k12 pen12
      have g12 := Go.kq k12 b.pen
      obtain ⟨sa, sb, sxs, rfl, hsa, hsbp, hsb, hsd⟩ := hs2'
      refine ⟨sa, _, _, _, rfl, rfl, SqT.of hsa, rfl, ?_⟩
      -- the step
      have e20 : (10 : Int) ^ Int.toNat 20 = 100000000000000000000 := by decide
      refine ⟨_, rfl, _, _, rfl, rfl, ⟨by decide, by decide, by decide⟩, by show 5 ≤ sizeLine; decide, fun l13 n13 => ?_⟩
      have z13 := same_upd (o := .lst ([-1, 0, 0, 1, (10 : Int) ^ Int.toNat 20].map V.int)) n13
      have b13 := b12.same z13
      refine ⟨_, rfl, p, 5, R0 + 19998999, rfl, by decide, by decide, b13.pen.le (by omega), fun st0 H14 st1 st2 k14 pen14 => ?_⟩
      have b14 := b13.kq k14 pen14
      have g14 : Go p _ H14 := (g12.trans (.of z13)).trans (.kq k14 b13.pen)
      obtain ⟨st, hst, hstm⟩ := atI_int [-1, 0, 0, 1, (10 : Int) ^ Int.toNat 20] (i := st0) st1 (by show st0 < (5 : Nat); omega)
      have hstb : -100000000000000000000 ≤ st ∧ st ≤ 100000000000000000000 := by
        rw [e20] at hstm
        have hb : ∀ z ∈ ([-1, 0, 0, 1, 100000000000000000000] : List Int), -100000000000000000000 ≤ z ∧ z ≤ 100000000000000000000 := by decide
        exact hb _ hstm
      have hl13p := b12.pen.ne n13
      refine ⟨l13, _, _, _, rfl, rfl, SqL.of (k14.st _ _ upd_same hl13p), hst, ?_⟩
      -- what stands beside
      have B14 := B.go g14
      have C14 := C.go g14
      have ho14 := ho.keep g14.kl
      have gA : Go p H12 H14 := (Go.of z13).trans (.kq k14 b13.pen)
      have hsb14 := gA.kl.2 _ _ hsb hsbp
      have hsd14 := hsd.kt gA.kl.1
      refine ⟨_, rfl, _, rfl, _, rfl, _, _, rfl, rfl, ?_⟩
      refine ⟨_, rfl, _, rfl, _, rfl, by show 3 ≤ sizeLine; decide, fun t15 n15 => ?_⟩
      have z15 := same_upd (o := .tup [V.str "sum", .ref sb, .int 0]) n15
      have hr2 : ∀ m', Rk es 3 (.sum ps2 m') := fun m' => rk3 hPP hso2 (Nat.le_refl _) (by decide)
      refine ⟨(es, (ns, rsK z), tn, tr), ⟨hPP, hTBB⟩, L, T, .ref t15, .sum ps2 0, rfl, ⟨p, B14.pool.keep (.of z15), ⟨t15, sb, sxs, rfl, upd_same, hsbp, z15 _ _ hsb14, hsd14.kt (.of z15)⟩⟩, B14.tab.keep (.of z15), hr2 0, Nat.le_refl _, trivial, fun H16 s16 => ⟨_, _, rfl, rfl, by show 3 ≤ sizeLine; decide, fun t17 n17 => ?_⟩⟩
      have hm3 : ((WW es tn tr 3 (.sum ps1 m1)).1 + st - (WW es tn tr 3 (.sum ps2 0)).1).natAbs ≤ 10 ^ 139 := by
        have a1 := sum_bd hPP hTBB (Nat.le_refl 3) hr1 (B := 10 ^ 20) (by have := hso.2.2; omega)
        have a2 := sum_bd hPP hTBB (Nat.le_refl 3) (hr2 0) (B := 0) (by decide)
        have a3 : 10 ^ 130 + 10 ^ 20 + (10 ^ 130 + 0) + 10 ^ 20 ≤ 10 ^ 139 := by decide
        omega
      have z17 := same_upd (o := .tup [V.str "sum", .ref sb, .int ((WW es tn tr 3 (.sum ps1 m1)).1 + st - (WW es tn tr 3 (.sum ps2 0)).1)]) n17
      have sA : Same H14 _ := fun b o e => z17 _ _ (s16 _ _ (z15 _ _ e))
      have b17 := b14.same sA
      have B17 := B14.go (.of sA)
      have C17 := C14.go (.of sA)
      have ho17 := ho14.keep (.of sA)
      have hbe : ThR p _ (.ref t17) (.sum ps2 ((WW es tn tr 3 (.sum ps1 m1)).1 + st - (WW es tn tr 3 (.sum ps2 0)).1)) := ⟨t17, sb, sxs, rfl, upd_same, hsbp, sA _ _ hsb14, hsd14.kt (.of sA)⟩
      -- the four sayings
      refine ⟨_, rfl, D8, _, _, _, rfl, rfl, SqL.of C17.l, rfl, _, rfl, D8, _, _, _, rfl, rfl, SqL.of C17.l, rfl, ?_⟩
      refine ⟨_, rfl, _, rfl, _, rfl, es, trivial, p, L, .ref t17, .sum ps2 ((WW es tn tr 3 (.sum ps1 m1)).1 + st - (WW es tn tr 3 (.sum ps2 0)).1), R0 + 14000000, rfl, B17.pool, h4, hbe, hr2 _, Nat.le_refl _, (show 1 ≤ 5 by decide), b17.pen.le (by rw [cs_sum]; show R0 + 14000000 + 5251280 ≤ _; omega), fun v3 t3 H18 ht3 hs3 k18 pen18 => ?_⟩
      have b18 := b17.kq k18 pen18
      have g18 : Go p _ H18 := .kq k18 b17.pen
      have B18 := B17.go g18
      have C18 := C17.go g18
      have ho18 := ho17.keep g18.kl
      obtain ⟨T3, w3, f3⟩ := pack hPP hTBB hN0 (hr2 _) hm3 hs3
      have e3 : (tv tn tr t3).1 = (tv tn tr t1).1 + st := by
        rw [w3, w1]
        have a1 : ∀ m', (WW es tn tr 3 (.sum ps2 m')).1 = m' + (ps2.map fun q => q.2 * vE es (wG es tn tr 3) q.1).sum := fun m' => rfl
        rw [a1 ((WW es tn tr 3 (.sum ps1 m1)).1 + st - (WW es tn tr 3 (.sum ps2 0)).1), a1 0]
        omega
      refine ⟨_, rfl, _, rfl, ((ns, rsK z), tn, tr), trivial, v1, v2, v3, T, t1, t2, t3, st, rfl, C18.r1, C18.r2, ht3, w2.trans w1.symm, e3, fun s hs => ?_, (show 110 ≤ 700 by decide), B18.tab, b18.tabs, fun H19 x19 tb19 => ⟨_, rfl, iteF ?_⟩⟩
      · simp only [List.mem_cons, List.not_mem_nil, or_false] at hs
        rcases hs with rfl | rfl | rfl | rfl
        · exact say_ok T1 T3
        · exact say_ok T2 T3
        · exact say_ok T3 T2
        · exact say_ok T3 T1
      have b19 := b18.ext x19 tb19
      have g19 : Go p H18 H19 := .ext x19
      have B19 := B18.go g19
      have C19 := C18.go g19
      have ho19 := ho18.keep g19.kl
      -- the letter
      refine ⟨_, rfl, _, rfl, p, 4, R0 + 13999999, rfl, by decide, by decide, b19.pen.le (by omega), fun j H20 j0 j1 k20 pen20 => ?_⟩
      have b20 := b19.kq k20 pen20
      have g20 : Go p H19 H20 := .kq k20 b19.pen
      have B20 := B19.go g20
      have C20 := C19.go g20
      have ho20 := ho19.keep g20.kl
      obtain ⟨jn, rfl⟩ : ∃ jn : Nat, j = (jn : Int) := ⟨j.toNat, by omega⟩
      obtain ⟨l, hjl⟩ := h4 jn (by omega)
      obtain ⟨lvs2, lv2, hL2, hat2, hth2⟩ := B20.pool.at hjl
      obtain ⟨la, lxs, rfl, hla, hlx⟩ := DR.tup_inv hth2
      obtain ⟨y1, r1', rfl, hy1, hlx⟩ := hlx.cons_inv
      obtain ⟨y2, r2', rfl, hy2, hlx⟩ := hlx.cons_inv
      cases hlx
      cases hy1.str_inv
      cases hy2.key
      refine ⟨L, lvs2, _, _, rfl, rfl, SqL.of hL2, hat2, la, _, _, _, rfl, rfl, SqT.of hla, rfl, ?_⟩
      have hln : l ∈ ns := (hPP.e _ (List.mem_of_getElem? hjl)).2
      have hlg := hgn l hln
      have hlr := hdis l hln
      have hng : ∀ m, Th.nam m ∈ es → GD (kd m) := fun m hm => (hPP.e _ hm).1.2
      -- what is laid
      refine ⟨_, rfl, p, 4, 2, R0 + 13999000, rfl, by decide, by decide, b20.pen.le (by omega), fun vl ps3 m3 H21 hl21 hso3 k21 pen21 => ?_⟩
      have b21 := b20.kq k21 pen21
      have g21 : Go p H20 H21 := .kq k21 b20.pen
      have B21 := B20.go g21
      have C21 := C20.go g21
      have ho21 := ho20.keep g21.kl
      have hr3 : Rk es 3 (.sum ps3 m3) := rk3 hPP hso3 hel4 (by decide)
      refine ⟨_, rfl, D8, rfl, ⟨_, SqL.of C21.l⟩, fun D22 n22 => ?_⟩
      have hD22p := b21.pen.ne n22
      have z22 := same_upd (o := .lst []) n22
      refine lc_list (Qd := fun H' => gName 18 (V.ref D22) _ H' _) (g := gName 10) (tt := tYes) (te := fun σ H Q => tCons (tVar 10) (tCons (tDisp [(tVar 16, fun σ H Q => tCons (tVar 1) (tCons (tVar 4) (tCons (tVar 17) tNil)) σ H fun vs H1 => spSpeltA vs H1 Q E0)]) tNil) σ H fun vs H1 => spPutA vs H1 Q E0) (vs := [10]) (σ := _) (D := D22) (H1 := H21) (K := K) (a := D8) (xs := [v1, v2])
        (fun j H' => ∃ vts : List (V × Tm), H' D22 = some (.lst (vts.map (·.1))) ∧ vts.length = j ∧ (∀ (k : Nat) x, vts[k]? = some x → TR H' x.1 x.2 ∧ ∃ s t, [t1, t2][k]? = some t ∧ Spl es nmP (.sum ps3 m3) s ∧ x.2 = Tm.put l s t) ∧ Kq p H21 H' ∧ Pen H' p (R0 + 3000000 + (2 - j) * cst)) ?_ (fun j H' hj h => SqL.of ?_) (fun j x H' hx h => ?_) (fun H' h => ?_)
      · exact ⟨[], upd_same, rfl, fun k x hx => by simp at hx, .of z22, (b21.pen.same z22).le (by show R0 + 3000000 + (2 - 0) * 5251280 ≤ _; omega)⟩
      · obtain ⟨vts, hD, hl, hv, hk, hpn⟩ := h
        exact hk.st _ _ C21.l C21.n
      · obtain ⟨t, hxt0, hjt, hlev, hj2⟩ : ∃ t, TR H21 x t ∧ [t1, t2][j]? = some t ∧ t.lev ≤ 110 ∧ j < 2 := by
          clear h
          cases j with
          | zero => cases hx; exact ⟨t1, C21.r1, rfl, T1.lev, by decide⟩
          | succ j =>
            cases j with
            | zero => cases hx; exact ⟨t2, C21.r2, rfl, T2.lev, by decide⟩
            | succ j => simp at hx
        obtain ⟨vts, hD, hl, hv, hk, hpn⟩ := h
        have g := Go.kq hk b21.pen
        have C := C21.go g
        have hxt := hxt0.kt g.kl.1
        have hsub : (2 - j) * cst = cst + (2 - (j + 1)) * cst := by
          have : 2 - j = 1 + (2 - (j + 1)) := by omega
          rw [this, Nat.add_mul, Nat.one_mul]
        rw [hsub] at hpn
        refine ⟨rfl, _, rfl, fun B nB => ?_⟩
        have zB := same_upd (o := .dK []) nB
        have gB : Go p H' _ := .of zB
        have penB := hpn.same zB
        have nB21 : H21 B = none := by
          cases e : H21 B with
          | none => rfl
          | some o =>
            have := hk.st _ _ e (hpn.ne nB)
            rw [this] at nB
            cases nB
        refine ⟨_, rfl, _, rfl, _, rfl, _, rfl, es, trivial, p, L, vl, .sum ps3 m3, R0 + 3000000 + (2 - (j + 1)) * cst, rfl, ((B21.go g).go gB).pool, h4, hl21.keep (g.trans gB).kl, hr3, Nat.le_refl _, (show 1 ≤ 5 by decide), penB.le (by rw [cs_sum]; omega), fun sv s H24 hs hss k24 pen24 => ?_⟩
        have hBp := hpn.ne nB
        have hB24 := k24.st _ _ upd_same hBp
        refine ⟨hB24, [(l, sv)], rfl, (show 1 ≤ 15 by decide), ?_⟩
        have k25 : Kq p H' (upd H24 B (.dK (mergeK [] [(l, sv)]))) := ((Kq.of zB).trans k24).set nB
        have pen25 : Pen (upd H24 B (.dK (mergeK [] [(l, sv)]))) p (R0 + 3000000 + (2 - (j + 1)) * cst) := ((Kq.of zB).trans k24).pen hpn pen24 nB
        have kt25 : KT H24 (upd H24 B (.dK (mergeK [] [(l, sv)]))) := KT.set hB24 fun ys z => by cases z
        refine ⟨(l, s), trivial, B, x, sv, t, rfl, upd_same, hs.kt kt25, hxt.kt (k25.kt hpn), hlev, fun v' H26 s26 ht' => ?_⟩
        have k26 : Kq p H' H26 := k25.trans (.of s26)
        have hD26 := k26.st _ _ hD hD22p
        have kt26 : KT H26 (upd H26 D22 (.lst (vts.map (·.1) ++ [v']))) := KT.set hD26 fun ys z => by cases z
        refine ⟨_, hD26, small1000 (by rw [List.length_map]; omega), vts ++ [(v', Tm.put l s t)], by rw [upd_same, List.map_append]; rfl, by rw [List.length_append, hl]; rfl, fun k y hy => ?_, (hk.trans k26).set n22, (hk.trans k26).pen b21.pen (pen25.same s26) n22⟩
        by_cases hkj : k < vts.length
        · rw [List.getElem?_append_left hkj] at hy
          obtain ⟨a1, a2⟩ := hv k y hy
          exact ⟨(a1.kt (k26.kt hpn)).kt kt26, a2⟩
        · have hl' := (List.getElem?_eq_some_iff.mp hy).1
          rw [List.length_append, List.length_singleton] at hl'
          have e1 : k = vts.length := by omega
          rw [List.getElem?_append_right (by omega), e1, Nat.sub_self] at hy
          cases hy
          exact ⟨ht'.kt kt26, s, t, by rw [e1, hl]; exact hjt, hss, rfl⟩
      obtain ⟨vts, hD, hl, hv, k27, pen27⟩ := h
      replace hl : vts.length = 2 := hl
      match vts, hl with
      | [(x1, u1), (x2, u2)], _ =>
      obtain ⟨hx1, s1', t1', ht1', hsp1, e1⟩ := hv 0 _ rfl
      obtain ⟨hx2, s2', t2', ht2', hsp2, e2'⟩ := hv 1 _ rfl
      cases ht1'
      cases ht2'
      dsimp only at hx1 hx2 e1 e2'
      have b27 := b21.kq k27 pen27
      have g27 : Go p H21 H' := .kq k27 b21.pen
      have B27 := B21.go g27
      have ho27 := ho21.keep g27.kl
      have hl27 := hl21.keep g27.kl
      have C27 : B2 p D22 x1 x2 u1 u2 H' := ⟨hD22p, hD, hx1, hx2⟩
      have hW3 := laid_bd (tr := tr) hTB20 h4 hso3
      have hTQ := tabQ (a := l) hTBB hW3
      have N1 := nmAQ hPP h4 hTB20 hTBB hng hlg hso3 hel4 hsp1
      have N2 := nmAQ hPP h4 hTB20 hTBB hng hlg hso3 hel4 hsp2
      have q1 := spl_put (a := l) (s := s1') (ns := ns) hlr (fun e he => (hPP.e e he).2) hs1 false trivial
      have q2 := spl_put (a := l) (s := s2') (ns := ns) hlr (fun e he => (hPP.e e he).2) hs2 false trivial
      obtain ⟨U1, wu1, fu1⟩ := pack hPP hTQ N1 hr1 hm1 q1
      obtain ⟨U2, wu2, fu2⟩ := pack hPP hTQ N2 hr1 hm1 q2
      rw [← e1] at U1 wu1 fu1
      rw [← e2'] at U2 wu2 fu2
      -- their forms are one
      refine ⟨_, rfl, D22, _, _, _, rfl, rfl, SqL.of C27.l, rfl, (ns, rsK z), trivial, x1, u1, rfl, C27.r1, ⟨false, U1.ok⟩, U1.lev, U1.fok, fun _ => U1.pok, b27.tabs, fun w1' H28 x28 tb28 hw1 => ?_⟩
      have b28 := b27.ext x28 tb28
      have g28 : Go p H' H28 := .ext x28
      have C28 := C27.go g28
      refine ⟨_, rfl, D22, _, _, _, rfl, rfl, SqL.of C28.l, rfl, (ns, rsK z), trivial, x2, u2, rfl, C28.r2, ⟨false, U2.ok⟩, U2.lev, U2.fok, fun _ => U2.pok, b28.tabs, fun w2' H29 x29 tb29 hw2 => ?_⟩
      have b29 := b28.ext x29 tb29
      have g29 : Go p H' H29 := g28.trans (.ext x29)
      have C29 := C27.go g29
      have B29 := B27.go g29
      have ho29 := ho27.keep g29.kl
      have hl29 := hl27.keep g29.kl
      refine ⟨_, _, (hw1.kt (ExtN.kt x29)).dp K, hw2.dp K, gd_shaped U1.fg.1 U1.fg.2, gd_shaped U2.fg.1 U2.fg.2, _, rfl, ite2 (fun c => absurd c (by rw [fu1.trans fu2.symm, SeqAt.eqv_refl _ (gd_lay _ U2.fg.1)]; decide)) (fun _ => ?_)⟩
      -- the table with the letter turned
      obtain ⟨kvs, hkT, hk1, hk2⟩ := id B29.tab
      obtain ⟨kvs', hkT', hkl⟩ := id B29.tl
      rw [hkT] at hkT'
      cases hkT'
      refine ⟨_, rfl, T, kvs, rfl, .inl hkT, fun T30 n30 => ?_⟩
      have z30 := same_upd (o := .dK kvs) n30
      have g30 : Go p H29 _ := .of z30
      refine ⟨_, rfl, _, rfl, _, rfl, (es, (ns, rsK z), tn, tr), ⟨hPP, hTBB⟩, L, T, vl, .sum ps3 m3, rfl, ⟨p, (B29.go g30).pool, hl29.keep g30.kl⟩, (B29.go g30).tab, hr3, Nat.le_refl _, trivial, fun H31 s31 => ?_⟩
      have hT31 := s31 _ _ (show upd H29 T30 (.dK kvs) T30 = some (.dK kvs) from upd_same)
      refine ⟨_, rfl, _, rfl, T30, _, rfl, DPut.k (k := l) hT31 (small1000 (by omega)), ?_⟩
      have k32 : Kq p H29 (upd H31 T30 (.dK (putK kvs l (.int (WW es tn tr 3 (.sum ps3 m3)).1)))) := ((Kq.of z30).trans (.of s31)).set n30
      have pen32 := ((Kq.of z30).trans (.of s31)).pen (o := .dK (putK kvs l (.int (WW es tn tr 3 (.sum ps3 m3)).1))) b29.pen ((b29.pen.same z30).same s31) n30
      have b32 := b29.kq k32 pen32
      have g32 : Go p H29 _ := .kq k32 b29.pen
      have tab32 : TabR (upd H31 T30 (.dK (putK kvs l (.int (WW es tn tr 3 (.sum ps3 m3)).1)))) T30 ns (rsK z) (tnQ l (WW es tn tr 3 (.sum ps3 m3)).1 tn) tr := by
        refine ⟨_, upd_same, fun m hm => ?_, fun m hm => ?_⟩
        · rw [valV_put]
          unfold tnQ
          by_cases e : m = l
          · rw [if_pos e, if_pos e]
          · rw [if_neg e, if_neg e]
            exact hk1 m hm
        · obtain ⟨v, hv1, hv2⟩ := hk2 m hm
          exact ⟨v, by rw [valV_put, if_neg fun e => hlr (by rw [← e]; exact hm)]; exact hv1, hv2.keep g32.kd⟩
      refine ⟨_, rfl, _, rfl, _, rfl, (es, (ns, rsK z), tnQ l (WW es tn tr 3 (.sum ps3 m3)).1 tn, tr), ⟨hPP, hTQ⟩, L, T30, vo, .sum ps1 m1, rfl, ⟨p, (B29.go g32).pool, ho29.keep g32.kl⟩, tab32, hr1, Nat.le_refl _, trivial, fun H33 s33 => ?_⟩
      have b33 := b32.same s33
      have g33 : Go p H29 H33 := g32.trans (.of s33)
      have B33 := B29.go g33
      have C33 := C29.go g33
      -- each is worth the same there
      refine ⟨_, rfl, D22, rfl, ⟨_, SqL.of C33.l⟩, fun D34 n34 => ?_⟩
      have z34 := same_upd (o := .lst []) n34
      refine lc_list (Qd := fun H' => tCons _ _ _ H' _) (g := gName 10) (tt := tYes) (te := fun σ H Q => tCons (tVar 10) (tCons (tVar 5) (tCons tDNewK tNil)) σ H fun vs H1 => spWorthOfA vs H1 Q E0) (vs := [10]) (σ := _) (D := D34) (H1 := H33) (K := K) (a := D22) (xs := [x1, x2])
        (fun j H' => H' D34 = some (.lst (List.replicate j (.int (WW es (tnQ l (WW es tn tr 3 (.sum ps3 m3)).1 tn) tr 3 (.sum ps1 m1)).1))) ∧ Same H33 H') ?_ (fun j H' hj h => SqL.of (h.2 _ _ C33.l)) (fun j x H' hx h => ?_) (fun H' h => ?_)
      · exact ⟨upd_same, z34⟩
      · obtain ⟨hD, hs⟩ := h
        obtain ⟨u, hxu, hU, hw, hj2⟩ : ∃ u, TR H33 x u ∧ TOk ns (rsK z) tn tr u ∧ (tv tn tr u).1 = (WW es (tnQ l (WW es tn tr 3 (.sum ps3 m3)).1 tn) tr 3 (.sum ps1 m1)).1 ∧ j < 2 := by
          cases j with
          | zero => cases hx; exact ⟨u1, C33.r1, U1, wu1, by decide⟩
          | succ j =>
            cases j with
            | zero => cases hx; exact ⟨u2, C33.r2, U2, wu2, by decide⟩
            | succ j => simp at hx
        refine ⟨rfl, _, rfl, _, rfl, fun nd hnd => ?_⟩
        have z35 := same_upd (o := .dK []) hnd
        refine ⟨((ns, rsK z), tn, tr), trivial, T, nd, x, u, rfl, upd_same, (hxu.kt (.of hs)).kt (.of z35), hU.ok, hU.lev, (show 110 ≤ 700 by decide), hU.mul, ((B33.go (.of hs)).go (.of z35)).tab, fun H36 s36 => ?_⟩
        refine ⟨_, s36 _ _ (z35 _ _ hD), small1000 (by rw [List.length_replicate]; omega), ?_, fun b o e => ?_⟩
        · rw [upd_same, List.replicate_succ', hw]
        · rw [upd_ne (ne_of_none e n34)]
          exact s36 _ _ (z35 _ _ (hs _ _ e))
      obtain ⟨hD, hs⟩ := h
      refine ⟨_, rfl, _, rfl, by show 2 ≤ sizeLine; decide, fun M nM => ?_⟩
      have zM := same_upd (o := .lst [V.int (WW es (tnQ l (WW es tn tr 3 (.sum ps3 m3)).1 tn) tr 3 (.sum ps1 m1)).1, .int (WW es (tnQ l (WW es tn tr 3 (.sum ps3 m3)).1 tn) tr 3 (.sum ps1 m1)).1]) nM
      refine ⟨_, _, rfl, .inr (.inr ⟨D34, M, [(WW es (tnQ l (WW es tn tr 3 (.sum ps3 m3)).1 tn) tr 3 (.sum ps1 m1)).1, (WW es (tnQ l (WW es tn tr 3 (.sum ps3 m3)).1 tn) tr 3 (.sum ps1 m1)).1], rfl, rfl, rfl, zM _ _ hD, upd_same, (show 2 ≤ 10 by decide), fun H38 s38 => ⟨_, rfl, iteF ?_⟩⟩)⟩
      have b38 := ((b33.same hs).same zM).same s38
      exact ⟨⟨_, _, _, _, _, _, _, _, _, _, _, _, _, _, _, _, _, _, _, rfl⟩, b38.le (by omega)⟩
    · exact q _
  · exact q _
end
end Lw
/-! Part H8: all that stands at the top; it keeps what law leans on. -/
namespace Lw
open PySem PySem.Spec L2 L2.DX PyProof.Rows
structure AllK (w : World) (K : PySem.W.Frag) (mg' : Str → Option Value) (base : Heap) (PT C CL : Addr) : Prop where
  d : ∀ (i : Nat) q, defsL[i]? = some q → Df K mg' q.1 q.2
  fr : ∀ (i : Nat) x, freeL[i]? = some x → mg' x = none
  forms : FormsK K w mg'
  rows : ∃ a : Addr, mg' "ROW_WORDS" = some (.ref a) ∧ ∀ H, SqT K H a [.str "row", .str "with", .str "room"]
  fF : DfF K mg' base PT
  look : LookK K mg' C
  line : LineK K mg' CL
  mL : DfM K C "letter_at" "Look.letter_at" 32 2 [] [("of_row", .bl false)]
  mR : DfM K C "reckon" "Look.reckon" 32 3 [.non] []
  mN : DfM K C "reckon_number" "Look.reckon_number" 32 4 [] []
  mW : DfM K C "reckon_row" "Look.reckon_row" 32 5 [] []
  mS : DfM K C "is_so" "Look.is_so" 32 9 [] []
  most : ∃ o, mg' "MOST_LOOK" = some (.int 400 o)
  flo : ∃ o, mg' "FLOORS" = some (.int 10 o)
section
variable {P : Program} {w : World} {K : PySem.W.Frag} {mg' : Str → Option Value} {base : Heap} {PT C CL : Addr}
theorem lawK (A : AllK w K mg' base PT C CL) : LawK P w K mg' base PT := by
  have f_len := A.fr 0 _ rfl
  have f_int := A.fr 1 _ rfl
  have f_min := A.fr 2 _ rfl
  have f_max := A.fr 3 _ rfl
  have f_sum := A.fr 4 _ rfl
  have f_list := A.fr 5 _ rfl
  have f_range := A.fr 6 _ rfl
  have f_dict := A.fr 7 _ rfl
  have f_tuple := A.fr 8 _ rfl
  have f_sorted := A.fr 9 _ rfl
  have f_repr := A.fr 10 _ rfl
  have f_isi := A.fr 11 _ rfl
  have f_str := A.fr 12 _ rfl
  have f_bool := A.fr 13 _ rfl
  have f_zip := A.fr 14 _ rfl
  have f_enum := A.fr 15 _ rfl
  have take : Gv P w K mg' base 2 "_law_take" ["_law_pen", "_law_many"] spTake := ok_take (A.d 21 _ rfl) f_len (ok_spread (A.d 19 _ rfl))
  have num := ok_num (P := P) (w := w) (base := base) (A.d 24 _ rfl) take
  have wgt := ok_wgt (P := P) (w := w) (base := base) (A.d 25 _ rfl) f_int take
  have sum := ok_sum (P := P) (w := w) (base := base) (A.d 26 _ rfl) f_len f_range f_list f_min take num wgt
  have kinds := ok_kindsof (P := P) (base := base) (A.d 10 _ rfl) A.forms f_isi f_str
  have sort := ok_sortof (P := P) (base := base) (A.d 9 _ rfl) A.forms f_isi f_str
  have parts := ok_parts (A.d 11 _ rfl) f_zip kinds
  have whole := ok_whole (P := P) (w := w) (base := base) (A.d 8 _ rfl) f_isi f_int f_bool
  have numat := ok_numat (P := P) (w := w) (base := base) (A.d 15 _ rfl) f_dict
  have made := ok_made (P := P) (w := w) (base := base) (A.d 14 _ rfl) f_tuple f_sorted
  have firm := ok_firm (P := P) (w := w) (base := base) (A.d 13 _ rfl) f_range f_sorted A.flo
  have same := ok_same (P := P) (w := w) (base := base) (A.d 22 _ rfl) f_isi f_bool f_int f_str f_tuple f_list f_len f_zip
  have reck : ∀ (ns rs : List Key) (tn : Key → Int) (tr : Key → RowF), Mv P w K mg' base C 113 "reckon" ["self", "term", "table", "known"] (spReckon C ns rs tn tr 110) (BReckon K) := fun ns rs tn tr =>
    ok_reckon A.mR A.look.cls (ok_letter A.mL f_isi f_tuple whole) (ok_rnum A.mN numat) (ok_rrow A.mW f_dict f_max made) parts sort 110
  have wof : ∀ (ns rs : List Key) (tn : Key → Int) (tr : Key → RowF), Gv P w K mg' base 114 "worth_of" ["thing", "table", "notions"] (spWorthOf ns rs tn tr 110) := fun ns rs tn tr => ok_worth_of (A.d 16 _ rfl) A.look firm (reck ns rs tn tr) A.most
  have tru : ∀ (ns rs : List Key) (tn : Key → Int) (tr : Key → RowF), Gv P w K mg' base 117 "truth_of" ["saying", "table", "notions"] (spTruthOf ns rs tn tr 110) := fun ns rs tn tr =>
    ok_truthof (A.d 18 _ rfl) (ok_looked (A.d 17 _ rfl) A.look firm (ok_isSo A.mS A.look.cls 110 (reck ns rs tn tr) parts) A.most)
  have FM : FmK K mg' base PT := ⟨A.d 0 _ rfl, A.fF, A.d 1 _ rfl, A.d 2 _ rfl, A.d 3 _ rfl, f_tuple, f_sorted, f_repr, f_isi, A.rows⟩
  have pairs := ok_pairs (P := P) (w := w) (base := base) (A.d 4 _ rfl) f_tuple
  have fms : ∀ ns rs : List Key, Forms P w K mg' base PT ns rs 110 := fun ns rs => ok_forms FM 110
  have add : ∀ (ns rs : List Key) (tn : Key → Int) (tr : Key → RowF), Gv P w K mg' base 115 "_law_s_added" ["_law_pairs", "_law_number", "_law_table"] (spAdded ns rs tn tr 110) := fun ns rs tn tr => ok_added (A.d 38 _ rfl) f_sum (wof ns rs tn tr)
  have all : ∀ (ns rs : List Key) (tn : Key → Int) (tr : Key → RowF), Gg P w K mg' base 119 "_law_s_all_so" ["_law_one", "_law_again", "_law_other", "_law_step", "_law_table"] (spAllSo PT ns rs tn tr 110) := fun ns rs tn tr =>
    ok_allso (A.d 40 _ rfl) (ok_lisso (k := 117) (Nat.le_refl _) (A.d 39 _ rfl) A.line (ok_lineof (A.d 7 _ rfl) 110 (ok_betw (A.d 6 _ rfl) A.line 110 (fms ns rs).g pairs)) ((add ns rs tn tr).mono (by decide)) (tru ns rs tn tr) same)
  have row : ∀ rs : List Key, Gv P w K mg' base 5 "_law_s_row" ["_law_pen", "_law_many", "_law_rows"] (spRow rs) := fun rs => ok_row (A.d 27 _ rfl) f_len take num sum rs
  have ent : Gv P w K mg' base 6 "_law_s_entry" ["_law_pen", "_law_many", "_law_rows", "_law_most"] spEntryA := Gv.fam (ok_entry (A.d 28 _ rfl) take sum [] [] (row [])) fun a _ => ok_entry (A.d 28 _ rfl) take sum a.1 a.2 (row a.2)
  have sfm : Gg P w K mg' base 25 "_law_s_form" ["_law_pool", "_law_thing"] spSFormA := Gg.fam (ok_sform (A.d 30 _ rfl) f_tuple f_isi f_repr f_sorted [] 2 4) fun es _ => ok_sform (A.d 30 _ rfl) f_tuple f_isi f_repr f_sorted es 2 4
  have tree := ok_tree (P := P) (w := w) (base := base) (A.d 33 _ rfl) f_len f_int take 4
  exact {
    opn := ok_open (A.d 20 _ rfl) f_list f_enum
    nms := ok_names (A.d 23 _ rfl) f_len f_range f_int take
    pol := ok_pool (k := 25) (by decide) (A.d 29 _ rfl) f_len f_range take ent sfm
    tab := Gv.fam (ok_table (A.d 34 _ rfl) f_list f_range f_tuple take num [] [] []) fun a _ => ok_table (A.d 34 _ rfl) f_list f_range f_tuple take num a.1 a.2.1 a.2.2
    sum := sum
    wor := Gv.fam (Gv.never (sp := fun _ _ _ _ => False) (A.d 37 _ rfl) (fun _ _ _ _ _ _ us hl => match us, hl with | [_, _, _], _ => rfl) fun _ _ _ _ z => z) fun a c => (ok_values (A.d 37 _ rfl) (A.d 35 _ rfl) (A.d 36 _ rfl) f_sum f_dict f_max 3 (fun e he => (c.1.e e he).2) (fun m hm => wG_small c.1 c.2 (by omega)) 3 (Nat.le_refl _) 0).1
    spl := Gv.fam (ok_spelt (A.d 32 _ rfl) (A.d 31 _ rfl) f_len f_int f_tuple f_isi take tree [] 3 0) fun es _ => ok_spelt (A.d 32 _ rfl) (A.d 31 _ rfl) f_len f_int f_tuple f_isi take tree es 3 0
    frm := Gg.fam (fms [] []).f fun a _ => (fms a.1 a.2).f
    sof := Gg.fam (ok_sumof (A.d 5 _ rfl) 110 (fms [] []).g pairs) fun a _ => ok_sumof (A.d 5 _ rfl) 110 (fms a.1 a.2).g pairs
    wof := Gv.fam (wof [] [] (fun _ => 0) fun _ => (0, fun _ => 0)) fun a _ => wof a.1.1 a.1.2 a.2.1 a.2.2
    sam := same
    add := Gv.fam (add [] [] (fun _ => 0) fun _ => (0, fun _ => 0)) fun a _ => add a.1.1 a.1.2 a.2.1 a.2.2
    all := Gg.fam (all [] [] (fun _ => 0) fun _ => (0, fun _ => 0)) fun a _ => all a.1.1 a.1.2 a.2.1 a.2.2
    put := Gv.fam (ok_put (l := .inl 0) (s := .num 0) (A.d 12 _ rfl) f_zip kinds 110) fun a _ => ok_put (A.d 12 _ rfl) f_zip kinds 110
    tak := take
    len := f_len
    rng := f_range
    dct := f_dict }
end
end Lw
/-! Part E1: the end, where the def may take the guards for empty; one code object with its table. -/
namespace Lw
open PySem PySem.Spec L2 PyProof.Rows
/-- the law's heap at its start: the table T is empty, the script at a -/
def H0 (K : PySem.W.Frag) (T a : Addr) (ob : Obj) (ns : List Int) : Hp := fun b => if b = T then some (.tbl #[]) else if b = a ∧ K.lookup a = none then some (.frz ob (.lst (ns.map V.int))) else none
section
variable {P : Program} {w : World} {K : PySem.W.Frag} {mg mb : Str → Option Value} {k : Nat} {fa a c T : Addr} {fd : FuncData} {x : Str} {sp : Sp} {t : Shared} {us : List Value} {ns : List Int}
theorem H0_cases {ob : Obj} {b : Addr} {u : HO} (e : H0 K T a ob ns b = some u) : b = T ∧ u = .tbl #[] ∨ b = a ∧ K.lookup a = none ∧ u = .frz ob (.lst (ns.map V.int)) := by
  unfold H0 at e
  by_cases h1 : b = T
  · rw [if_pos h1] at e
    cases e
    exact .inl ⟨h1, rfl⟩
  · rw [if_neg h1] at e
    by_cases h2 : b = a ∧ K.lookup a = none
    · rw [if_pos h2] at e
      cases e
      exact .inr ⟨h2.1, h2.2, rfl⟩
    · rw [if_neg h2] at e
      cases e
/-- what is neither a list nor an empty table is not in it -/
theorem H0_none {ob o : Obj} {b : Addr} (hT : t.heap.get? T = some { cls := .none, data := .fields #[] }) (hs : t.heap.get? a = some { cls := .type "list", data := .seq us.toArray }) (e : t.heap.get? b = some o) (h1 : ∀ ys n, o.data ≠ .seq ys n) (h2 : o.data ≠ .fields #[]) : H0 K T a ob ns b = none := by
  cases z : H0 K T a ob ns b with
  | none => rfl
  | some u =>
    rcases H0_cases z with ⟨rfl, _⟩ | ⟨rfl, _, _⟩
    · rw [hT] at e
      cases e
      exact absurd rfl h2
    · rw [hs] at e
      cases e
      exact absurd rfl (h1 _ _)
theorem end_g (kin : K.In t.heap) (hg : t.heap.Ns mainGlobals mg) (hb : t.heap.Ns builtinsNs mb) (hbb : ∀ x : Str, x ≠ "__name__" → mb x = bootBuiltins x) (hl : t.heap.NoLimit) (gens : t.gens = #[])
    (hT : t.heap.get? T = some { cls := .none, data := .fields #[] }) (nT : K.lookup T = none) (hc : PySem.W.CodeHd t.heap c T)
    (hm : ∃ (m : Addr) (o : Obj), mg "__builtins__" = some (.ref m) ∧ m ≠ builtinsNs ∧ t.heap.get? m = some o ∧ o.cls = .type "module" ∧ o.dict = some builtinsNs ∧ o.data = .plain)
    (hs : t.heap.get? a = some { cls := .type "list", data := .seq us.toArray }) (hi : IntsAre us ns) (hn : ns.length ≤ sizeLine) (room : Room k callerA)
    (F : ∀ base : Heap, K.In base → base.Ns mainGlobals mg → LamX.TabB base mg c T → FnG P w K mg base k fa fd [x] sp) (bind : ∀ (s : Shared) (u : Value), BindsTo s fd ⟨[u], []⟩ [(x, u)])
    (pre : ∀ H : Hp, H T = some (.tbl #[]) → SqL K H a (ns.map V.int) → sp [.ref a] H (fun v _ => v = .bl true) fun _ _ _ => False) :
    codeAny (model P w) callerA (.call (.ref fa) ⟨[.ref a], []⟩) (fun r s' => r = .ok (.ret (.bool true)) ∧ OldK t.heap s'.heap ∧ s'.os = t.os ∧ AllBare s'.gens) t := by
  have vals := vals_ints hi
  have lens := hi.length
  generalize hG : H0 K T a { cls := .type "list", data := .seq us.toArray } ns = G
  have gT : G T = some (.tbl #[]) := by rw [← hG]; exact if_pos rfl
  have gC : ∀ {b : Addr} {u : HO}, G b = some u → b = T ∧ u = .tbl #[] ∨ b = a ∧ K.lookup a = none ∧ u = .frz { cls := .type "list", data := .seq us.toArray } (.lst (ns.map V.int)) := fun e => H0_cases (by rw [hG]; exact e)
  have gN : ∀ {b : Addr} {o : Obj}, t.heap.get? b = some o → (∀ ys n, o.data ≠ .seq ys n) → o.data ≠ .fields #[] → G b = none := fun e h1 h2 => by
    rw [← hG]
    exact H0_none hT hs e h1 h2
  have aT : a ≠ T := fun z => by
    rw [z, hT] at hs
    cases hs
  have hid : ∀ {b : Addr} {o : Obj}, t.heap.get? b = some o → (∀ ys n, o.data ≠ .seq ys n) → o.data ≠ .fields #[] → (hidT t.heap G).get? b = some o := fun e h1 h2 => hidT_get e (gN e h1 h2)
  have names : ∀ {b : Addr} {m : Str → Option Value}, t.heap.Ns b m → (hidT t.heap G).Ns b m := fun ⟨o, es, ep, e, d, r⟩ => ⟨o, es, ep, hid e (fun ys n z => by rw [d] at z; cases z) (fun z => by rw [d] at z; cases z), d, r⟩
  have kin' : K.In (hidT t.heap G) := fun b o e => by
    refine hidT_get (kin b o e) ?_
    cases z : G b with
    | none => rfl
    | some u =>
      rcases gC z with ⟨rfl, _⟩ | ⟨rfl, n, _⟩
      · rw [nT] at e
        cases e
      · rw [n] at e
        cases e
  have script : SqL K G a (ns.map V.int) := by
    cases z : K.lookup a with
    | none => exact .inl (.inr ⟨_, by rw [← hG]; unfold H0; rw [if_neg aT, if_pos ⟨rfl, z⟩]⟩)
    | some o =>
      have e := kin a o z
      rw [hs] at e
      cases e
      exact .inr ⟨_, us.toArray, _, z, rfl, rfl, rfl, by rw [List.size_toArray, lens]; exact hn, by simpa using vals⟩
  have held : HOk P w G t.heap := fun b u z => by
    rcases gC z with ⟨rfl, rfl⟩ | ⟨rfl, _, rfl⟩
    · exact hT
    · exact ⟨hs, by rw [List.length_map]; exact hn, us, _, vals, hs⟩
  have tabs : LamX.TabB (hidT t.heap G) mg c T := by
    refine ⟨?_, ?_, fun z => ?_⟩
    · obtain ⟨o, fs, file, tf, flags, tg, inF, text, tt, e, q1, q2, q3, rest⟩ := hc
      exact ⟨o, fs, file, tf, flags, tg, inF, text, tt, hid e (fun ys n z => by rw [q2] at z; cases z) (fun z => by rw [q2] at z; cases z; simp at q3), q1, q2, q3, rest⟩
    · obtain ⟨m, o, q1, q2, q3, q4, q5, q6⟩ := hm
      refine ⟨m, o, q1, q2, fun z => ?_, fun z => ?_, hid q3 (fun ys n z => by rw [q6] at z; cases z) (fun z => by rw [q6] at z; cases z), q4, q5, q6⟩
      · obtain ⟨o', es, ep, e, d, _⟩ := hg
        rw [z, e] at q3
        cases q3
        rw [d] at q6
        cases q6
      · rw [z, hT] at q3
        cases q3
        cases q6
    · obtain ⟨o', es, ep, e, d, _⟩ := hg
      rw [z, hT] at e
      cases e
      cases d
  have env : Env0 P w K mg (hidT t.heap G) callerA [] t G :=
    ⟨rfl, ⟨kin', names hg, ⟨mb, names hb, hbb⟩, let ⟨mc, q1, q2⟩ := hl; ⟨mc, names q1, q2⟩⟩, fun b o e => of_hidT e, Nat.le_of_eq (hidT_size _ _), trivial, fun b z => absurd (show b ∈ ([] : List Addr) from z) List.not_mem_nil, held, .of_eq gens⟩
  refine codeAny_mono ((F _ kin' (names hg) tabs).run callerA [] t G ⟨[.ref a], []⟩ [.ref a] [.ref a] _ _ rfl room env (bind t (.ref a)) (.cons rfl .nil) (pre G gT script)) fun r s' h => ?_
  cases r with
  | error e => exact h.elim
  | ok fl =>
    cases fl with
    | ret u =>
      obtain ⟨v, G', os, bare, un, held', rel, q⟩ := h
      have hv : v = .bl true := q
      subst hv
      obtain rfl : u = Value.bool true := rel
      have old : ∀ b o, b ≠ T → t.heap.get? b = some o → s'.heap.get? b = some o := fun b o nb e => by
        cases z : G b with
        | none => exact un.keep b o e z (fun y => absurd (show b ∈ ([] : List Addr) from y) List.not_mem_nil) List.not_mem_nil
        | some u =>
          rcases gC z with ⟨y, _⟩ | ⟨_, _, rfl⟩
          · exact absurd y nb
          · obtain ⟨e1, _⟩ := held b _ z
            obtain ⟨e2, _⟩ := held' b _ (un.frzs b _ _ z)
            rw [e] at e1
            cases e1
            exact e2
      obtain ⟨more, hmore⟩ := un.tbls T #[] gT
      have grown : s'.heap.get? T = some { cls := .none, data := .fields (#[] ++ more) } := held' T _ hmore
      refine ⟨rfl, ⟨fun b o e => ?_, fun b o e => ?_⟩, os, bare⟩
      · by_cases hbT : b = T
        · subst hbT
          rw [hT] at e
          cases e
          exact .inr (.inl ⟨(hc.tab hT).isCodeTable, rfl, #[], more, rfl, grown⟩)
        · exact .inl (old b o hbT e)
      · by_cases hbT : b = T
        · subst hbT
          exact ⟨_, grown⟩
        · exact ⟨o, old b o hbT e⟩
    | next => exact False.elim h
    | brk => exact False.elim h
    | cont => exact False.elim h
end
end Lw
/-! Part H10: the head's facts; the law. -/
namespace Lw
open PySem PySem.Spec PyProof.Rows L2
section
variable {w : World} {K : PySem.W.Frag} {mg : Str → Option Value} {h base : Heap}
theorem tupAt_ok {a : Addr} {vs : List V} (e : tupAt K a vs = true) (H : Hp) : SqT K H a vs := by
  unfold tupAt at e
  cases q : K.lookup a with
  | none =>
    rw [q] at e
    cases e
  | some o =>
    rw [q] at e
    obtain ⟨e1, e2⟩ := He.ba e
    cases z : o.data with
    | seq its n =>
      rw [z] at e2
      obtain ⟨e3, e4⟩ := He.ba e2
      exact .inr ⟨o, its, n, q, of_decide_eq_true e1, z, of_decide_eq_true e3, He.relAll_ok e4⟩
    | _ =>
      rw [z] at e2
      cases e2
theorem formAt_ok {q : Str × Str × Str} (e : formAt K q = true) : ∃ a, PySem.W.nsIn K (He.ga K "FORMS") q.1 = some (some (.ref a)) ∧ ∀ H, SqT K H a [.str q.2.1, .str q.2.2] := by
  unfold formAt at e
  split at e
  · rename_i a z
    exact ⟨a, z, tupAt_ok e⟩
  · cases e
abbrev tabP (K : PySem.W.Frag) : Addr × Addr := He.cT K ("form_of", none)
abbrev SayL (w : World) (h : Heap) (K : PySem.W.Frag) : Prop := He.SaysX faL fnL tsL tfL exL w h K
theorem SayL.glo (c : SayL w h K) (X : K.In h) (G : h.Ns mainGlobals mg) {q : Str × Nat} (hq : q ∈ defsL) : mg q.1 = some (.ref (He.ga K q.1)) :=
  He.glo_ok X G (c.t.d.facts (f := .glo q.1) (List.mem_append_right _ (List.mem_append_right _ (List.mem_append_left _ (List.mem_map.mpr ⟨q, hq, rfl⟩)))))
theorem SayL.fre (c : SayL w h K) (X : K.In h) (G : h.Ns mainGlobals mg) {x : Str} (hx : x ∈ freeL) : mg x = none :=
  He.free_ok X G (c.t.d.facts (f := .free x) (List.mem_append_right _ (List.mem_append_right _ (List.mem_append_right _ (List.mem_map.mpr ⟨x, hx, rfl⟩)))))
theorem SayL.fun_ (c : SayL w h K) {q : Str × Nat} (hq : q ∈ defsL) : ∃ fd, FnP K q.1 q.2 (He.ga K q.1) fd := c.t.d.defs (d := dG q) (List.mem_append_right _ (List.mem_map.mpr ⟨q, hq, rfl⟩))
theorem SayL.fa (c : SayL w h K) (i : Nat) {f : He.Fa} (e : (faA ++ faB)[i]? = some f) : f.ok K = true :=
  c.t.d.facts (by
    show f ∈ faA ++ (faB ++ _)
    rw [← List.append_assoc]
    exact List.mem_append_left _ (List.mem_of_getElem? e))
theorem allK (X : K.In h) (G : h.Ns mainGlobals mg) (c : SayL w h K) (TB : LamX.TabB base mg (tabP K).1 (tabP K).2) : AllK w K mg base (tabP K).2 (He.ga K "Look") (He.ga K "Line") := by
  obtain ⟨m1, m2⟩ := He.ba c.more
  have mt : ∀ (i : Nat) {d : He.DefD}, mthL[i]? = some d → ∃ fd, FunD K d.name d.qual d.params d.body d.scope (d.dvs K) (d.kws K) (He.fAd K d.at_) fd := fun i d e => c.t.d.defs (List.mem_append_left _ (List.mem_of_getElem? e))
  have hF : (((Str.ofString "form_of"), 3) : Str × Nat) ∈ defsL := List.mem_of_getElem? (i := 1) rfl
  refine ⟨fun i q hq => ?_, fun i x hx => c.fre X G (List.mem_of_getElem? hx), ?_, ⟨He.ga K "ROW_WORDS", He.glo_ok X G (c.fa 18 rfl), tupAt_ok m1⟩, ?_, ?_, ?_, ?_, ?_, ?_, ?_, ?_, He.int_ok X G (c.fa 0 rfl), He.int_ok X G (c.fa 1 rfl)⟩
  · have hm := List.mem_of_getElem? hq
    obtain ⟨fd, F⟩ := c.fun_ hm
    exact ⟨_, fd, F, c.glo X G hm⟩
  · obtain ⟨es, n, kd_⟩ := c.t.tab 0 rfl
    exact ⟨_, es, n, He.glo_ok X G (c.fa 19 rfl), kd_, fun q hq => formAt_ok (List.all_eq_true.mp m2 q hq)⟩
  · obtain ⟨fd, F⟩ := c.fun_ hF
    refine ⟨_, fd, (tabP K).1, F, c.glo X G hF, TB, fun cdv hx => ?_⟩
    obtain ⟨oc, od, dV, kV, doc, pm, an, ct, osl, lk⟩ := hx
    obtain ⟨oc2, od2, dV2, kV2, doc2, pm2, an2, cdv2, ct2, osl2, efd, lk2, hc2, _⟩ := F.ex
    rw [lk] at lk2
    have e : cdv = cdv2 := by
      injection lk2 with e1
      injection e1 with _ _ e2 _
      injection e2 with e3
      exact congrArg FuncData.code (e3.trans efd)
    rw [← e] at hc2
    obtain ⟨cc, rfl⟩ := He.codeIn_ref hc2
    exact congrArg Value.ref (He.codeOf_eq (p := ("form_of", none)) lk rfl).symm
  · obtain ⟨fd, F⟩ := mt 5 rfl
    refine ⟨He.cls_ok (c.fa 7 rfl), He.glo_ok X G (c.fa 21 rfl), ⟨_, fd, F, He.mkr_ok (c.fa 8 rfl)⟩, fun x hx => ?_⟩
    simp only [List.mem_cons, List.not_mem_nil, or_false] at hx
    rcases hx with rfl | rfl | rfl | rfl
    · exact He.noat_ok (c.fa 9 rfl)
    · exact He.noat_ok (c.fa 10 rfl)
    · exact He.noat_ok (c.fa 11 rfl)
    · exact He.noat_ok (c.fa 12 rfl)
  · obtain ⟨fd, F⟩ := mt 6 rfl
    refine ⟨He.cls_ok (c.fa 2 rfl), He.glo_ok X G (c.fa 20 rfl), ⟨_, fd, F, He.mkr_ok (c.fa 3 rfl)⟩, fun x hx => ?_⟩
    simp only [List.mem_cons, List.not_mem_nil, or_false] at hx
    rcases hx with rfl | rfl | rfl
    · exact He.noat_ok (c.fa 4 rfl)
    · exact He.noat_ok (c.fa 5 rfl)
    · exact He.noat_ok (c.fa 6 rfl)
  · obtain ⟨fd, F⟩ := mt 0 rfl
    exact ⟨_, fd, F, He.meth_ok (c.fa 13 rfl)⟩
  · obtain ⟨fd, F⟩ := mt 1 rfl
    exact ⟨_, fd, F, He.meth_ok (c.fa 14 rfl)⟩
  · obtain ⟨fd, F⟩ := mt 2 rfl
    exact ⟨_, fd, F, He.meth_ok (c.fa 15 rfl)⟩
  · obtain ⟨fd, F⟩ := mt 3 rfl
    exact ⟨_, fd, F, He.meth_ok (c.fa 16 rfl)⟩
  · obtain ⟨fd, F⟩ := mt 4 rfl
    exact ⟨_, fd, F, He.meth_ok (c.fa 17 rfl)⟩
end
/-- the law's call at the head's end -/
theorem walk_l {q : Program} {loose : List Str} {XP : (Str → Option Value) → Heap → Prop} {d : DefRec} (hdf : d.params.defaults = []) (hn : d.name = ("law" : Str)) :
    PySem.W.WalkO q loose XP hkL.says RwO.toRowW d [] (fun f vs => PySem.call f vs) := by
  refine Att.attach_callB (l := PySem.Challenge.rw_leapwork_k19_whole_forms_and_worths) (n := 63) rfl hdf fun w t0 t mg mb fa o pm cd doc a us ns G Y _ _ _ hmg hobj hints hlen _ hg => ?_
  obtain ⟨K, KX, c⟩ := Y
  rw [hn] at hmg
  have hL : (((Str.ofString "law"), 60) : Str × Nat) ∈ defsL := List.mem_of_getElem? (i := 41) rfl
  obtain ⟨fd, F⟩ := SayL.fun_ c hL
  have ga := SayL.glo c KX G.T.g hL
  have ha : He.ga K "law" = fa := by
    have e := ga.symm.trans hmg
    injection e with e
    injection e
  rw [ha] at F
  have b := FunD.bindsA (ps := ["_law_script"]) F fun _ _ _ _ _ _ us hl => match us, hl with | [_], _ => rfl
  have hf : (((Str.ofString "form_of"), none) : He.Defn) ∈ tfL := List.mem_cons_self ..
  refine end_g (K := K) (c := (tabP K).1) (T := (tabP K).2) (fd := fd) (x := "_law_script") (k := 120) (sp := spLaw K (tabP K).2) KX G.T.g G.T.b G.T.builtins G.T.nolimit hg (c.empty _ hf) (c.out _ hf) (PySem.W.codeHd_of_K KX (c.hd _ hf)) G.T.bmain hobj hints (Nat.le_trans hlen (by decide)) ⟨rfl, by decide, by decide⟩ (fun base kb nb tb => ?_) (fun s v => b s [v] rfl) fun H hH hS => ?_
  · have A := allK (base := base) KX G.T.g c tb
    obtain ⟨f2, fd2, F2, m2, _, _, at2⟩ := (ok_law (P := PySem.Challenge.pw_leapwork_k19_whole_forms_and_worths) (A.d 41 _ rfl) (lawK A)).ex
    have e2 : f2 = fa := by
      have e := m2.symm.trans hmg
      injection e with e
      injection e
    subst e2
    have e3 := at2.same (fdAt_of F)
    subst e3
    exact F2
  · refine ⟨a, ns, rfl, hS, hlen, fun x hx => ?_, fun _ => rfl⟩
    rw [List.mem_singleton] at hx
    subst hx
    exact LamX.TabS.nil hH
end Lw
open PySem PySem.W PySem.Calls PyProof.Rows
set_option maxHeartbeats 0 in
theorem PySem.Challenge.cw_leapwork_k19_whole_forms_and_worths_holds : PySem.Challenge.rw_leapwork_k19_whole_forms_and_worths.Holds := by
  w_on; o_law
  refine HandSHeadRun.head_any (r := Lw.RwO) (q := view Lw.RwO.prog [60]) (H := Lw.hkL) (ob := Lw.obL) (M := 4000) (loose := Lw.looseL) (d := HandSHeadRun.topDef Lw.RwO.prog 60) (kwd := []) Lw.obL_eq
    (by kernel_rfl) (fun s => by kernel_rfl) Lw.runL (by kernel_rfl) (by kernel_rfl) (by kernel_rfl) (by rfl) (by first | assumption | decide +kernel) (by decide +kernel) ⟨rfl, rfl, rfl, rfl, rfl, by decide +kernel⟩ ?hw ?hc
  case hw => w_witness2
  case hc => exact Lw.walk_l (by kernel_rfl) (by kernel_rfl)
