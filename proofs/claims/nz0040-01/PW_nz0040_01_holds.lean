import PyProof.Rows.All
import Wide.All
import OpenK.AllK
import Wide.FinOn
import PySem.Challenge.RW_nz0040_01
open PySem PySem.W PyProof.Rows PySem.Calls
set_option Elab.async false
set_option linter.unusedVariables false
set_option maxRecDepth 100000
set_option maxHeartbeats 8000000
namespace Mine
theorem leftO_boot {p q : Program} {loose : List Str} {Xt : Shared → Bool} {α : Type} {Yf : Shared → α} {Ya : World → α} {N : Nat} (e : opening p = plainProg p.main.scope.names) (le : Nat.ble 600 N = true) (f : ∀ s : Shared, fenceModules? p s = some s)
    (h : ∀ (w : World) (os : OsState), (topFrom treeTable p w N ⟨boot_heap w.params, #[], boot_drawn, boot_toks, os⟩).map (fun s => (openSeen q loose (importedModules p.main.body) Xt true s, Yf s)) = some (openGood q loose, Ya w)) : LeftO p q loose Xt Yf Ya N := fun w => by
  obtain ⟨⟨hh, gg, dd, tt, os⟩, h1, h2⟩ := Option.map_eq_some_iff.mp (boot_open e le f w)
  simp only [Prod.mk.injEq] at h2
  obtain ⟨rfl, rfl, rfl, rfl⟩ := h2
  unfold openEnds
  rw [h1]
  exact h w os
/-- the text's statements that the law and the code that it reaches lay -/
noncomputable def vw : Program := view PySem.Challenge.pw_nz0040_01 [0, 2, 3, 4, 5, 6, 7, 9, 11, 13, 14, 15, 16, 18, 19, 20, 21, 22, 23, 24, 25, 26, 27, 28, 29, 30]
/-- a look at one run is as many looks as one likes, each taken by itself -/
theorem looks_join {σ A B C D E Y : Type} {x : Option σ} {F : σ → A × B × C × D × E} {g : σ → Y} {a : A} {b : B} {c : C} {d : D} {e : E} {y : Y}
    (h12 : x.map (fun s => ((F s).1, (F s).2.1)) = some (a, b)) (h34 : x.map (fun s => ((F s).2.2.1, (F s).2.2.2.1)) = some (c, d))
    (h5 : x.map (fun s => (F s).2.2.2.2) = some e) (hg : x.map g = some y) : x.map (fun s => (F s, g s)) = some ((a, b, c, d, e), y) := by
  cases x with
  | none => simp at hg
  | some s => 
    simp only [Option.map_some, Option.some.injEq, Prod.mk.injEq] at h12 h34 h5 hg ⊢
    exact ⟨Prod.ext h12.1 (Prod.ext h12.2 (Prod.ext h34.1 (Prod.ext h34.2 h5))), hg⟩
/-- what stands when the text has run -/
noncomputable abbrev topS (w : World) (os : OsState) : Option Shared := topFrom treeTable PySem.Challenge.rw_nz0040_01.prog w 3652 ⟨boot_heap w.params, #[], boot_drawn, boot_toks, os⟩
noncomputable abbrev look (s : Shared) := openSeen vw [Str.ofString "_law_op"] (importedModules PySem.Challenge.rw_nz0040_01.prog.main.body) (fun s => xlAt vw [] s && recOk [] s) true s
theorem look_12 (w : World) (os : OsState) : (topS w os).map (fun s => ((look s).1, (look s).2.1)) = some (expectedOf vw, bltViewBooted) := by
  unfold topS topFrom look
  rw [PySem.W.Fast.te14082659384304107361, PySem.W.Fast.te14364793385576792824, PySem.W.Fast.te4187177175401517315]
  kernel_rfl
theorem look_34 (w : World) (os : OsState) : (topS w os).map (fun s => ((look s).2.2.1, (look s).2.2.2.1)) = some (true, true) := by
  unfold topS topFrom look
  rw [PySem.W.Fast.te14082659384304107361, PySem.W.Fast.te14364793385576792824, PySem.W.Fast.te4187177175401517315]
  kernel_rfl
theorem look_5 (w : World) (os : OsState) : (topS w os).map (fun s => (look s).2.2.2.2) = some (pinGoodD (drecsOf vw), plainGoodE vw (looseW vw [Str.ofString "_law_op"]), plainGoodD vw [Str.ofString "_law_op"], wideGood vw, clsGoodW vw [Str.ofString "_law_op"]) := by
  unfold topS topFrom look
  rw [PySem.W.Fast.te14082659384304107361, PySem.W.Fast.te14364793385576792824, PySem.W.Fast.te4187177175401517315]
  kernel_rfl
/-- the head, its look at the top taken in four (in the library's pieces the compiled file is too large) -/
local macro_rules | `(tactic| o_head $H) => `(tactic| (
  refine holds_open (q := vw) (loose := [Str.ofString "_law_op"]) (Xt := fun s => xlAt vw [] s && recOk [] s) (XP := XL vw []) (Yf := Hook.obs $H) (Ya := Hook.val $H) (YP := Hook.says $H) (N := 3652) ?hl (Hook.of $H) (Hook.keeps $H) (fun s e => xl_of s (Bool.and_eq_true_iff.mp e).1) XL.keeps (by rfl) (by rfl) (by rfl) (fun s e => recFacts_of (Bool.and_eq_true_iff.mp e).2) (by rfl) (by assumption) (by decide +kernel) ⟨rfl, rfl, rfl, rfl, rfl, by decide +kernel⟩ ?hw ?hc
  case hl =>
    refine leftO_boot (by kernel_rfl) (by decide) (fun s => by kernel_rfl) ?_
    intro w os
    refine looks_join (F := look) (look_12 w os) (look_34 w os) (look_5 w os) ?_
    unfold topFrom
    rw [PySem.W.Fast.te14082659384304107361, PySem.W.Fast.te14364793385576792824]
    kernel_rfl))
noncomputable abbrev lw : OpenLaw := PySem.Challenge.rw_nz0040_01
theorem said_1 : sreFenced lw.row.prog.main = true := by rw [PySem.W.Fast.te11788848310118352699]; kernel_rfl
theorem said_3 : namesResolve lw.row.prog = true := by rw [PySem.W.Fast.te8377067652309620493]; kernel_rfl
theorem said_4 : (lw.row.prog.boundNames.all fun n => !worldNames.contains n) = true := by rw [PySem.W.Fast.te18344453789297297638, PySem.W.Fast.te14412699480532031325]; kernel_rfl
theorem said_5 : noRoadLSs { strict := !(importedModules lw.row.prog.main.body).all cThrough.contains, foot := none, bare := List.filter (readsOut lw.row.prog lw.row.prog.main.body) [Str.ofString "vars", Str.ofString "dir", Str.ofString "locals"] } lw.row.prog.main.body = true := by rw [PySem.W.Fast.te8326940854005059898]; kernel_rfl
theorem said_6 : (namesMeet lw.row.prog lw.row.prog.main.body fun _ n => attrL n) = true := by rw [PySem.W.Fast.te17119622794617984870]; kernel_rfl
theorem said_20 : lw.row.prog.boundNames.contains lw.row.name = true := by rw [PySem.W.Fast.te18344453789297297638]; kernel_rfl
theorem said_23 : lw.footing.all footLine = true := by rw [PySem.W.Fast.te10501279942588096481]; kernel_rfl
theorem said_24 : noClassBlock lw.prog lw.footing = true := by rw [PySem.W.Fast.te8179353310426384613]; kernel_rfl
theorem said_27 : noRoadLSs { strict := true, foot := some lw.bound', writes := lw.writes, may := lw.may } lw.footing = true := by rw [PySem.W.Fast.te8326940854005059898]; kernel_rfl
theorem said_28 : defStands lw.about lw.above = true := by rw [PySem.W.Fast.te9558739934217749035]; kernel_rfl
theorem said_29 : lw.namesIt = true := by rw [PySem.W.Fast.te16286561074155671207]; kernel_rfl
theorem said_31 : (lw.bound'.all fun n => !builtinNamed n || lw.about == [n] || !lw.reads n) = true := by kernel_rfl
theorem said_34 : (namesMeet lw.prog lw.footing fun sc n => (![Str.ofString "type", Str.ofString "isinstance", Str.ofString "issubclass", Str.ofString "getattr", Str.ofString "hasattr"].contains n || List.lookup n sc.names == some NameKind.globalImplicit) && (lw.may != some n || sc.kind == ScopeKind.module || List.lookup n sc.names == some NameKind.globalImplicit)) = true := by rw [PySem.W.Fast.te17119622794617984870]; kernel_rfl
theorem said_37 : (lw.own.all fun n => !builtinNamed n) = true := by kernel_rfl
theorem said_38 : (namesMeet lw.prog lw.above fun _ n => !lw.own.contains n) = true := by rw [PySem.W.Fast.te17119622794617984870]; kernel_rfl
theorem said_39 : (namesMeet lw.prog lw.footing fun sc n => sc.kind == ScopeKind.module || List.lookup n sc.names != some NameKind.globalExplicit) = true := by rw [PySem.W.Fast.te17119622794617984870]; kernel_rfl
theorem said_ok : PySem.Challenge.rw_nz0040_01.wellSaid = true := by
  unfold OpenLaw.wellSaid OpenRow.wellSaid OpenRow.partSaid looksOpen
  repeat' (with_reducible refine look_both ?_ ?_)
  · exact said_1
  · kernel_rfl
  · exact said_3
  · exact said_4
  · exact said_5
  · exact said_6
  · kernel_rfl
  · kernel_rfl
  · kernel_rfl
  · kernel_rfl
  · kernel_rfl
  · kernel_rfl
  · kernel_rfl
  · kernel_rfl
  · kernel_rfl
  · kernel_rfl
  · kernel_rfl
  · kernel_rfl
  · kernel_rfl
  · exact said_20
  · kernel_rfl
  · kernel_rfl
  · exact said_23
  · exact said_24
  · kernel_rfl
  · kernel_rfl
  · exact said_27
  · exact said_28
  · exact said_29
  · kernel_rfl
  · exact said_31
  · kernel_rfl
  · kernel_rfl
  · exact said_34
  · kernel_rfl
  · kernel_rfl
  · exact said_37
  · exact said_38
  · exact said_39
local macro_rules | `(tactic| o_law) => `(tactic| refine holds_law said_ok fun said => ?_)
open_top topT for PySem.Challenge.rw_nz0040_01
set_option maxHeartbeats 400000
abbrev Pr : Program := PySem.Challenge.rw_nz0040_01.row.prog
abbrev PH := Addr → Option Obj
def Sub (g g' : PH) : Prop := ∀ a o, g a = some o → g' a = some o
theorem Sub.refl (g : PH) : Sub g g := fun _ _ h => h
theorem Sub.trans {g g' g'' : PH} (h : Sub g g') (h' : Sub g' g'') : Sub g g'' := fun a o e => h' a o (h a o e)
def PH.set (g : PH) (a : Addr) (o : Obj) : PH := fun b => if b = a then some o else g b
theorem PH.set_self (g : PH) (a : Addr) (o : Obj) : g.set a o a = some o := by simp [PH.set]
theorem PH.set_ne (g : PH) {a b : Addr} (o : Obj) (h : b ≠ a) : g.set a o b = g b := by simp [PH.set, h]
theorem Sub.set {g : PH} {a : Addr} {o : Obj} (h : g a = none) : Sub g (g.set a o) := fun b ob e => by
  by_cases hb : b = a
  · subst hb; rw [h] at e; cases e
  · rw [PH.set_ne _ _ hb]; exact e

/-- the data that the values stand for -/
inductive D where
  | none | bool (b : Bool) | int (i : Int) | str (s : Str)
  | tup (l : List D) | lst (l : List D) | scr (l : List D) | rng (a b : Int) | obj (C : Addr) (fs : List (Str × D)) | loc (a : Addr) | pin (a C : Addr)

abbrev lstO (vs : Array Value) (n : Nat) : Obj := { cls := .type "list", data := .seq vs n }
abbrev rangeObj (a b : Int) (t u v : Tok) : Obj := { cls := .type "range", dict := none, data := .fields #[.int a t, .int b u, .int 1 v], slots := #[] }

inductive Rel (g : PH) : Value → D → Prop
  | none : Rel g .none .none
  | bool (b) : Rel g (.bool b) (.bool b)
  | int (i t) : Rel g (.int i t) (.int i)
  | str (s t) : Rel g (.str s t) (.str s)
  | tup {a o vs n ds} : g a = some o → o.cls = .type "tuple" → o.data = .seq vs n → vs.size = ds.length → (∀ (i : Nat) v d, vs[i]? = some v → ds[i]? = some d → Rel g v d) → Rel g (.ref a) (.tup ds)
  | lst {a vs n ds} : g a = some (lstO vs n) → vs.size = ds.length → (∀ (i : Nat) v d, vs[i]? = some v → ds[i]? = some d → Rel g v d) → Rel g (.ref a) (.lst ds)
  | scr {a o vs n ds} : g a = some o → o.cls = .type "list" → o.data = .seq vs n → vs.size = ds.length → (∀ (i : Nat) v d, vs[i]? = some v → ds[i]? = some d → Rel g v d) → Rel g (.ref a) (.scr ds)
  | rng {r a b t u v} : g r = some (rangeObj a b t u v) → Rel g (.ref r) (.rng a b)
  | obj {x dx C es n fs} : g x = some (instObj C dx) → g dx = some (dictOf es n) → es.length = fs.length → (∀ (i : Nat) e f, es[i]? = some e → fs[i]? = some f → ∃ t, e.key = .str f.1 t) →
      (∀ (i : Nat) e f, es[i]? = some e → fs[i]? = some f → Rel g e.val f.2) → Rel g (.ref x) (.obj C fs)
  | loc (a) : Rel g (.ref a) (.loc a)
  | pin {a C dx es n} : g a = some (instObj C dx) → g dx = some (dictOf es n) → Rel g (.ref a) (.pin a C)

theorem Rel.mono {g g' : PH} (hs : Sub g g') {v : Value} {d : D} (h : Rel g v d) : Rel g' v d := by
  induction h with
  | none => exact .none
  | bool b => exact .bool b
  | int i t => exact .int i t
  | str s t => exact .str s t
  | tup h1 h2 h3 h4 _ ih => exact .tup (hs _ _ h1) h2 h3 h4 ih
  | lst h1 h4 _ ih => exact .lst (hs _ _ h1) h4 ih
  | scr h1 h2 h3 h4 _ ih => exact .scr (hs _ _ h1) h2 h3 h4 ih
  | rng h => exact .rng (hs _ _ h)
  | obj h1 h2 h3 h4 _ ih => exact .obj (hs _ _ h1) (hs _ _ h2) h3 h4 ih
  | loc a => exact .loc a
  | pin h1 h2 => exact .pin (hs _ _ h1) (hs _ _ h2)

def RelL (g : PH) (vs : List Value) (ds : List D) : Prop := vs.length = ds.length ∧ ∀ (i : Nat) v d, vs[i]? = some v → ds[i]? = some d → Rel g v d
theorem RelL.nil {g} : RelL g [] [] := ⟨rfl, fun i v d h => by simp at h⟩
theorem RelL.cons {g v d vs ds} (h : Rel g v d) (t : RelL g vs ds) : RelL g (v :: vs) (d :: ds) := by
  refine ⟨by simp [t.1], fun i v' d' h1 h2 => ?_⟩
  cases i with
  | zero => simp at h1 h2; subst h1; subst h2; exact h
  | succ i => simp at h1 h2; exact t.2 i _ _ h1 h2
theorem RelL.mono {g g' vs ds} (hs : Sub g g') (h : RelL g vs ds) : RelL g' vs ds := ⟨h.1, fun i v d a b => (h.2 i v d a b).mono hs⟩
theorem RelL.append {g vs ds vs' ds'} (h : RelL g vs ds) (h' : RelL g vs' ds') : RelL g (vs ++ vs') (ds ++ ds') := by
  refine ⟨by simp [h.1, h'.1], fun i v d h1 h2 => ?_⟩
  by_cases hi : i < vs.length
  · rw [List.getElem?_append_left hi] at h1
    rw [List.getElem?_append_left (h.1 ▸ hi)] at h2
    exact h.2 i v d h1 h2
  · rw [List.getElem?_append_right (by omega)] at h1
    rw [List.getElem?_append_right (by rw [← h.1]; omega)] at h2
    rw [← h.1] at h2
    exact h'.2 _ v d h1 h2
theorem RelL.snoc {g vs ds v d} (h : RelL g vs ds) (h' : Rel g v d) : RelL g (vs ++ [v]) (ds ++ [d]) := h.append (.cons h' .nil)
theorem RelL.get {g vs ds} (h : RelL g vs ds) {i : Nat} {d : D} (hd : ds[i]? = some d) : ∃ v, vs[i]? = some v ∧ Rel g v d := by
  have hi : i < ds.length := (List.getElem?_eq_some_iff.mp hd).1
  have : i < vs.length := h.1 ▸ hi
  exact ⟨vs[i], List.getElem?_eq_getElem this, h.2 i _ _ (List.getElem?_eq_getElem this) hd⟩
theorem RelL.take {g vs ds} (h : RelL g vs ds) (n : Nat) : RelL g (vs.take n) (ds.take n) := by
  refine ⟨by simp [h.1], fun i v d h1 h2 => ?_⟩
  rw [List.getElem?_take] at h1 h2
  by_cases hi : i < n
  · simp [hi] at h1 h2; exact h.2 i v d h1 h2
  · simp [hi] at h1
theorem RelL.drop {g vs ds} (h : RelL g vs ds) (n : Nat) : RelL g (vs.drop n) (ds.drop n) := by
  refine ⟨by simp [h.1], fun i v d h1 h2 => ?_⟩
  rw [List.getElem?_drop] at h1 h2
  exact h.2 _ v d h1 h2
theorem RelL.nil_inv {g vs} (h : RelL g vs []) : vs = [] := List.length_eq_zero_iff.mp (by simpa using h.1)
theorem RelL.cons_inv {g vs d ds} (h : RelL g vs (d :: ds)) : ∃ v r, vs = v :: r ∧ Rel g v d ∧ RelL g r ds := by
  cases vs with
  | nil => simp [RelL] at h
  | cons v r => exact ⟨v, r, rfl, h.2 0 v d rfl rfl, by simpa using h.1, fun i v' d' a b => h.2 (i+1) v' d' (by simpa using a) (by simpa using b)⟩
theorem Rel.mkTup {g : PH} {a o n} {vs : List Value} {ds} (h : g a = some o) (hc : o.cls = .type "tuple") (hd : o.data = .seq vs.toArray n) (hl : RelL g vs ds) : Rel g (.ref a) (.tup ds) :=
  .tup h hc hd (by simpa using hl.1) fun i v d h1 h2 => hl.2 i v d (by simpa using h1) h2
theorem Rel.mkLst {g : PH} {a n} {vs : List Value} {ds} (h : g a = some (lstO vs.toArray n)) (hl : RelL g vs ds) : Rel g (.ref a) (.lst ds) :=
  .lst h (by simpa using hl.1) fun i v d h1 h2 => hl.2 i v d (by simpa using h1) h2
theorem Rel.tup_inv {g : PH} {v ds} (h : Rel g v (.tup ds)) : ∃ a o n vs, v = .ref a ∧ g a = some o ∧ o.cls = .type "tuple" ∧ o.data = .seq (List.toArray vs) n ∧ RelL g vs ds := by
  cases h with
  | tup h1 h2 h3 h4 h5 => rename_i a o vs n; exact ⟨a, o, n, vs.toList, rfl, h1, h2, by simpa using h3, by simpa using h4, fun i v d a b => h5 i v d (by simpa using a) b⟩
theorem Rel.lst_inv {g : PH} {v ds} (h : Rel g v (.lst ds)) : ∃ a n vs, v = .ref a ∧ g a = some (lstO (List.toArray vs) n) ∧ RelL g vs ds := by
  cases h with
  | lst h1 h4 h5 => rename_i a vs n; exact ⟨a, n, vs.toList, rfl, by simpa using h1, by simpa using h4, fun i v d a b => h5 i v d (by simpa using a) b⟩
theorem Rel.scr_inv {g : PH} {v ds} (h : Rel g v (.scr ds)) : ∃ a o n vs, v = .ref a ∧ g a = some o ∧ o.cls = .type "list" ∧ o.data = .seq (List.toArray vs) n ∧ RelL g vs ds := by
  cases h with
  | scr h1 h2 h3 h4 h5 => rename_i a o vs n; exact ⟨a, o, n, vs.toList, rfl, h1, h2, by simpa using h3, by simpa using h4, fun i v d a b => h5 i v d (by simpa using a) b⟩

theorem Rel.none_inv {g : PH} {v} (h : Rel g v .none) : v = .none := by cases h; rfl
theorem Rel.bool_inv {g : PH} {v b} (h : Rel g v (.bool b)) : v = .bool b := by cases h; rfl
theorem Rel.int_inv {g : PH} {v i} (h : Rel g v (.int i)) : ∃ t, v = .int i t := by cases h; exact ⟨_, rfl⟩
theorem Rel.str_inv {g : PH} {v x} (h : Rel g v (.str x)) : ∃ t, v = .str x t := by cases h; exact ⟨_, rfl⟩
theorem Rel.loc_inv {g : PH} {v a} (h : Rel g v (.loc a)) : v = .ref a := by cases h; rfl
theorem Rel.pin_inv {g : PH} {v a C} (h : Rel g v (.pin a C)) : ∃ dx es n, v = .ref a ∧ g a = some (instObj C dx) ∧ g dx = some (dictOf es n) := by
  cases h with
  | pin h1 h2 => exact ⟨_, _, _, rfl, h1, h2⟩

/-- mutable objects -/
inductive MO where
  | lst (l : List D) | box (l : List D) | ins (C dx : Addr) | dict (fs : List (Str × D))
abbrev MU := Addr → Option MO
def MU.set (μ : MU) (a : Addr) (x : MO) : MU := fun b => if b = a then some x else μ b
def MU.del (μ : MU) (a : Addr) : MU := fun b => if b = a then none else μ b
theorem MU.set_self (μ : MU) (a : Addr) (o : MO) : μ.set a o a = some o := by simp [MU.set]
theorem MU.set_ne (μ : MU) {a b : Addr} (o : MO) (h : b ≠ a) : μ.set a o b = μ b := by simp [MU.set, h]
theorem MU.del_ne (μ : MU) {a b : Addr} (h : b ≠ a) : μ.del a b = μ b := by simp [MU.del, h]
theorem MU.set_set (μ : MU) (a : Addr) (x y : MO) : (μ.set a x).set a y = μ.set a y := by
  funext b; by_cases h : b = a <;> simp [MU.set, h]
theorem MU.del_set (μ : MU) (a : Addr) (x : MO) (h : μ a = none) : (μ.set a x).del a = μ := by
  funext b; by_cases hb : b = a
  · subst hb; simp [MU.del, h]
  · simp [MU.set, MU.del, hb]
theorem MU.set_eq (μ : MU) (a : Addr) (x : MO) (h : μ a = some x) : μ.set a x = μ := by
  funext b; by_cases hb : b = a
  · subst hb; simp [MU.set, h]
  · simp [MU.set, hb]
def RelF (g : PH) (es : List DictEntry) (fs : List (Str × D)) : Prop := es.length = fs.length ∧ (∀ (i : Nat) e f, es[i]? = some e → fs[i]? = some f → ∃ t, e.key = .str f.1 t) ∧
      (∀ (i : Nat) e f, es[i]? = some e → fs[i]? = some f → Rel g e.val f.2)
theorem RelF.mono {g g' es fs} (hs : Sub g g') (h : RelF g es fs) : RelF g' es fs := ⟨h.1, h.2.1, fun i e f a b => (h.2.2 i e f a b).mono hs⟩
def MRel (g : PH) (o : Obj) : MO → Prop
  | .lst l => ∃ vs n, o = lstO (List.toArray vs) n ∧ RelL g vs l
  | .box l => o.cls = .type "list" ∧ ∃ vs n, o.data = .seq (List.toArray vs) n ∧ RelL g vs l
  | .ins C dx => o = instObj C dx
  | .dict fs => ∃ es n, o = dictOf es n ∧ RelF g es fs
theorem MRel.mono {g g' o mo} (hs : Sub g g') (h : MRel g o mo) : MRel g' o mo := by
  cases mo with
  | lst l => exact let ⟨vs, n, a, b⟩ := h; ⟨vs, n, a, b.mono hs⟩
  | box l => exact ⟨h.1, let ⟨vs, n, a, b⟩ := h.2; ⟨vs, n, a, b.mono hs⟩⟩
  | ins C dx => exact h
  | dict fs => exact let ⟨es, n, a, b⟩ := h; ⟨es, n, a, b.mono hs⟩

/-- the constants of one run -/
structure Gl where
  w : World
  b0 : Heap
  p : Program
  loose : List Str
  mean : ExcName → Option Value
  mg : Str → Option Value
  mb : Str → Option Value
  gens : Array GenState
  os : OsState
  X : (topT.heap_1 w.params).In b0
  T : Top p loose mean mg mb b0
noncomputable abbrev Gl.M (G : Gl) : Model := model Pr G.w

structure Hp (G : Gl) (μ : MU) (g : PH) (s : Shared) : Prop where
  bas : ∀ a o, G.b0.get? a = some o → g a = some o
  cov : ∀ a o, g a = some o → s.heap.get? a = some o
  mt : ∀ a mo, μ a = some mo → g a = none ∧ ∃ o, s.heap.get? a = some o ∧ MRel g o mo
  gens : s.gens = G.gens
  os : s.os = G.os

theorem Hp.stays {G μ g s} (h : Hp G μ g s) : ∀ a o, G.b0.get? a = some o → s.heap.get? a = some o := fun a o e => h.cov a o (h.bas a o e)
theorem Hp.gfresh {G μ g s} (h : Hp G μ g s) {a : Addr} (e : s.heap.get? a = none) : g a = none := by
  cases q : g a with
  | none => rfl
  | some o => rw [h.cov a o q] at e; cases e
theorem Hp.mfresh {G μ g s} (h : Hp G μ g s) {a : Addr} (e : s.heap.get? a = none) : μ a = none := by
  cases q : μ a with
  | none => rfl
  | some o => obtain ⟨_, o', ho, _⟩ := h.mt a o q; rw [ho] at e; cases e

/-- what a step leaves as it was -/
structure Step (X : Addr → Prop) (μ : MU) (g : PH) (h : Heap) (μ' : MU) (g' : PH) (h' : Heap) : Prop where
  sub : Sub g g'
  keep : ∀ a o, h.get? a = some o → μ a = none → ¬ X a → h'.get? a = some o
  mnew : ∀ a, μ' a ≠ none → μ a ≠ none ∨ h.get? a = none
  gnew : ∀ a, g' a ≠ none → g a ≠ none ∨ μ a ≠ none ∨ h.get? a = none

abbrev no : Addr → Prop := fun _ => False

theorem Step.refl (X : Addr → Prop) (μ : MU) (g : PH) (h : Heap) : Step X μ g h μ g h := ⟨Sub.refl g, fun _ _ e _ _ => e, fun _ e => .inl e, fun _ e => .inl e⟩
theorem Step.trans {X : Addr → Prop} {μ g h μ' g' h' μ'' g'' h''} (a : Step X μ g h μ' g' h') (b : Step X μ' g' h' μ'' g'' h'') (hX : ∀ x, X x → μ x = none → h.get? x ≠ none → h'.get? x ≠ none := by intro _ h; exact h.elim) : Step X μ g h μ'' g'' h'' := by
  have hn : ∀ x, h'.get? x = none → μ x ≠ none ∨ h.get? x = none := fun x e => by
    by_cases hm : μ x = none
    · right
      cases q : h.get? x with
      | none => rfl
      | some o =>
        exfalso
        by_cases hx : X x
        · exact hX x hx hm (by rw [q]; simp) e
        · rw [a.keep x o q hm hx] at e; cases e
    · exact .inl hm
  have hm' : ∀ x o, h.get? x = some o → μ x = none → μ' x = none := fun x o e hm => by
    cases q : μ' x with
    | none => rfl
    | some m => rcases a.mnew x (by rw [q]; simp) with h1 | h1
                · exact absurd hm h1
                · rw [e] at h1; cases h1
  refine ⟨a.sub.trans b.sub, fun x o e hm hx => b.keep x o (a.keep x o e hm hx) (hm' x o e hm) hx, fun x e => ?_, fun x e => ?_⟩
  · rcases b.mnew x e with h1 | h1
    · exact a.mnew x h1
    · exact hn x h1
  · rcases b.gnew x e with h1 | h1 | h1
    · exact a.gnew x h1
    · rcases a.mnew x h1 with h2 | h2
      · exact .inr (.inl h2)
      · exact .inr (.inr h2)
    · rcases hn x h1 with h2 | h2
      · exact .inr (.inl h2)
      · exact .inr (.inr h2)
theorem Step.weak {X Y : Addr → Prop} {μ g h μ' g' h'} (a : Step X μ g h μ' g' h') (hXY : ∀ x, X x → Y x) : Step Y μ g h μ' g' h' :=
  ⟨a.sub, fun x o e hm hx => a.keep x o e hm (fun q => hx (hXY x q)), a.mnew, a.gnew⟩
set_option maxHeartbeats 400000
abbrev Rho := List (Str × D)
structure CxOk (A : Around) (env : Env) (n : Nat) : Prop where
  hk : env.scope.kind = .function
  hgl : env.globals = mainGlobals
  hbi : env.builtins = builtinsNs
  hh : A.handled = none
  hd : A.depth + n < recursionLimit
  hu : A.units + 8 * n + 120 < cLine
  hcn : (env.cells.map (·.2)).Nodup
  hcl : env.locals ∉ env.cells.map (·.2)
structure Cx where
  A : Around
  env : Env
  n : Nat
  ok : CxOk A env n
theorem Cx.hk (C : Cx) : C.env.scope.kind = .function := C.ok.hk
theorem Cx.hgl (C : Cx) : C.env.globals = mainGlobals := C.ok.hgl
theorem Cx.hbi (C : Cx) : C.env.builtins = builtinsNs := C.ok.hbi
theorem Cx.hh (C : Cx) : C.A.handled = none := C.ok.hh
theorem Cx.hd (C : Cx) : C.A.depth + C.n < recursionLimit := C.ok.hd
theorem Cx.hu (C : Cx) : C.A.units + 8 * C.n + 120 < cLine := C.ok.hu
theorem Cx.hcn (C : Cx) : (C.env.cells.map (·.2)).Nodup := C.ok.hcn
theorem Cx.hcl (C : Cx) : C.env.locals ∉ C.env.cells.map (·.2) := C.ok.hcl

def Cx.Own (C : Cx) : Addr → Prop := fun a => a = C.env.locals ∨ a ∈ C.env.cells.map (·.2)

structure Fm (C : Cx) (ρ : Rho) (μ : MU) (g : PH) (h : Heap) : Prop where
  ns : ∃ m, h.Ns C.env.locals m ∧ ∀ x d, C.env.kindOf x = some .local → ρ.lookup x = some d → ∃ v, m x = some v ∧ Rel g v d
  cel : ∀ x c, C.env.cells.lookup x = some c → ∃ o cv, h.get? c = some o ∧ o.data = .cell cv ∧ ∀ d, ρ.lookup x = some d → ∃ v, cv = some v ∧ Rel g v d
  own : ∀ a, C.Own a → g a = none ∧ μ a = none ∧ ∃ o, h.get? a = some o

theorem Fm.step {C ρ μ g h μ' g' h'} (F : Fm C ρ μ g h) (S : Step no μ g h μ' g' h') : Fm C ρ μ' g' h' := by
  have k : ∀ a, C.Own a → ∀ o, h.get? a = some o → h'.get? a = some o := fun a ha o e => S.keep a o e (F.own a ha).2.1 (fun q => q)
  refine ⟨?_, fun x c hc => ?_, fun a ha => ?_⟩
  · obtain ⟨m, ⟨o, es, ep, ho, r⟩, hm⟩ := F.ns
    exact ⟨m, ⟨o, es, ep, k _ (.inl rfl) o ho, r⟩, fun x d a b => let ⟨v, e1, e2⟩ := hm x d a b; ⟨v, e1, e2.mono S.sub⟩⟩
  · obtain ⟨o, cv, ho, hd, hr⟩ := F.cel x c hc
    refine ⟨o, cv, k c (.inr ?_) o ho, hd, fun d e => let ⟨v, e1, e2⟩ := hr d e; ⟨v, e1, e2.mono S.sub⟩⟩
    exact List.mem_map_of_mem (f := (·.2)) (mem_of_lookup hc)
  · obtain ⟨h1, h2, o, ho⟩ := F.own a ha
    refine ⟨?_, ?_, o, k a ha o ho⟩
    · cases q : g' a with
      | none => rfl
      | some x => rcases S.gnew a (by rw [q]; simp) with e | e | e
                  · exact absurd h1 e
                  · exact absurd h2 e
                  · rw [ho] at e; cases e
    · cases q : μ' a with
      | none => rfl
      | some x => rcases S.mnew a (by rw [q]; simp) with e | e
                  · exact absurd h2 e
                  · rw [ho] at e; cases e
theorem Fm.weak {C ρ ρ' μ g h} (F : Fm C ρ μ g h) (hw : ∀ x d, ρ'.lookup x = some d → ρ.lookup x = some d) : Fm C ρ' μ g h :=
  ⟨let ⟨m, a, b⟩ := F.ns; ⟨m, a, fun x d k e => b x d k (hw x d e)⟩, fun x c hc => let ⟨o, cv, a, b, e⟩ := F.cel x c hc; ⟨o, cv, a, b, fun d q => e d (hw x d q)⟩, F.own⟩

inductive TPost {α β : Type} (R : PH → α → β → Prop) (G : Gl) (μ : MU) (g : PH) (h : Heap) (Φ : β → MU → Prop) (v : α) (s' : Shared) : Prop
  | mk (g' : PH) (μ' : MU) (d : β) (hp : Hp G μ' g' s') (st : Step no μ g h μ' g' s'.heap) (r : R g' v d) (φ : Φ d μ') : TPost R G μ g h Φ v s'
inductive VPost (G : Gl) (μ : MU) (g : PH) (h : Heap) (d : D) (v : Value) (s' : Shared) : Prop
  | mk (g' : PH) (hp : Hp G μ g' s') (st : Step no μ g h μ g' s'.heap) (r : Rel g' v d) : VPost G μ g h d v s'
/-- a tree that comes back, and what it gives -/
def TT {α β : Type} (R : PH → α → β → Prop) (G : Gl) (C : Cx) (ρ : Rho) (μ : MU) (t : Sem α) (Φ : β → MU → Prop) : Prop :=
  ∀ s g, Hp G μ g s → Fm C ρ μ g s.heap → wpAny G.M C.A t (TPost R G μ g s.heap Φ) (fun _ _ => False) s
abbrev RB : PH → Bool → Bool → Prop := fun _ v b => v = b
abbrev WE (G : Gl) (C : Cx) (ρ : Rho) (μ : MU) (e : Expr) (Φ : D → MU → Prop) : Prop := TT Rel G C ρ μ (eval e C.env) Φ
abbrev WB (G : Gl) (C : Cx) (ρ : Rho) (μ : MU) (e : Expr) (Φ : Bool → MU → Prop) : Prop := TT RB G C ρ μ (isTrue e C.env (eval e C.env)) Φ
abbrev WL (G : Gl) (C : Cx) (ρ : Rho) (μ : MU) (pos : Pos) (es : List Expr) (Φ : List D → MU → Prop) : Prop := TT RelL G C ρ μ (spliced (backTo pos (starEach es C.env))) Φ

theorem TT.mono {α β : Type} {R : PH → α → β → Prop} {G C ρ μ} {t : Sem α} {Φ Ψ : β → MU → Prop} (h : TT R G C ρ μ t Φ) (k : ∀ d μ', Φ d μ' → Ψ d μ') : TT R G C ρ μ t Ψ :=
  fun s g hp fm => wpAny_mono (h s g hp fm) (fun _ _ ⟨g', μ', d, a, b, c, e⟩ => ⟨g', μ', d, a, b, c, k _ _ e⟩) fun _ _ x => x

theorem Hp.tok {G μ g s} (h : Hp G μ g s) (t : Nat) : Hp G μ g { s with toks := t } := ⟨h.bas, h.cov, h.mt, h.gens, h.os⟩
theorem Hp.push {G μ g s} (h : Hp G μ g s) (o : Obj) (hf : o.isFreed = false) : Hp G μ (g.set s.heap.objs.size o) { s with heap := s.heap.push o } := by
  have hn : s.heap.get? s.heap.objs.size = none := by
    cases q : s.heap.get? s.heap.objs.size with
    | none => rfl
    | some o => exact absurd (Heap.lt_size q) (Nat.lt_irrefl _)
  have hg : g s.heap.objs.size = none := h.gfresh hn
  have hs : Sub g (g.set s.heap.objs.size o) := Sub.set hg
  refine ⟨fun a x e => hs _ _ (h.bas a x e), fun a x e => ?_, fun a mo e => ?_, h.gens, h.os⟩
  · by_cases ha : a = s.heap.objs.size
    · subst ha; rw [PH.set_self] at e; cases e; exact Heap.get?_push_size _ hf
    · rw [PH.set_ne _ _ ha] at e; exact Heap.get?_push_of_some _ (h.cov a x e)
  · obtain ⟨h1, x, hx, hr⟩ := h.mt a mo e
    have ha : a ≠ s.heap.objs.size := Nat.ne_of_lt (Heap.lt_size hx)
    exact ⟨by rw [PH.set_ne _ _ ha]; exact h1, x, Heap.get?_push_of_some _ hx, hr.mono hs⟩
theorem Heap.size_none (h : Heap) : h.get? h.objs.size = none := by
  cases q : h.get? h.objs.size with
  | none => rfl
  | some o => exact absurd (Heap.lt_size q) (Nat.lt_irrefl _)
theorem Step.push {G μ g s} (h : Hp G μ g s) (o : Obj) : Step no μ g s.heap μ (g.set s.heap.objs.size o) (s.heap.push o) :=
  ⟨Sub.set (h.gfresh (Heap.size_none _)), fun a x e _ _ => Heap.get?_push_of_some _ e, fun a e => .inl e, fun a e => by
    by_cases ha : a = s.heap.objs.size
    · subst ha; exact .inr (.inr (Heap.size_none _))
    · rw [PH.set_ne _ _ ha] at e; exact .inl e⟩
/-- an object laid on the heap that no fact names -/
theorem Hp.junk {G μ g s} (h : Hp G μ g s) {h' : Heap} (k : ∀ a o, s.heap.get? a = some o → h'.get? a = some o) (t : Nat) : Hp G μ g { s with heap := h', toks := t } :=
  ⟨h.bas, fun a o e => k a o (h.cov a o e), fun a mo e => let ⟨a1, o, a2, a3⟩ := h.mt a mo e; ⟨a1, o, k a o a2, a3⟩, h.gens, h.os⟩
theorem Step.junk {μ g h} {h' : Heap} (k : ∀ a o, h.get? a = some o → h'.get? a = some o) : Step no μ g h μ g h' :=
  ⟨Sub.refl _, fun a o e _ _ => k a o e, fun _ e => .inl e, fun _ e => .inl e⟩

section
variable {G : Gl} {C : Cx} {ρ : Rho} {μ : MU} {pos : Pos} {Φ : D → MU → Prop}

/-! names -/
theorem WE.loc {x : Str} {d : D} (hx : C.env.kindOf x = some .local) (hr : ρ.lookup x = some d) (h : Φ d μ) (hd : (x == ("__debug__" : Str)) = false := by decide) : WE G C ρ μ (.Name x pos) Φ := fun s g hp fm => by
  obtain ⟨m, hn, hm⟩ := fm.ns
  obtain ⟨v, e, r⟩ := hm x d hx hr
  exact wpAny_Name (wpAny_loadName_local C.hk hx hn e ⟨g, μ, d, hp, Step.refl .., r, h⟩) hd
theorem WE.cell {x : Str} {c : Addr} {d : D} (hx : C.env.kindOf x = some .cell) (hc : C.env.cells.lookup x = some c) (hr : ρ.lookup x = some d) (h : Φ d μ) (hd : (x == ("__debug__" : Str)) = false := by decide) : WE G C ρ μ (.Name x pos) Φ := fun s g hp fm => by
  obtain ⟨o, cv, ho, hdt, hm⟩ := fm.cel x c hc
  obtain ⟨v, e, r⟩ := hm d hr
  subst e
  exact wpAny_Name (wpAny_loadName_cell C.hk hx hc ⟨o, ho, hdt⟩ ⟨g, μ, d, hp, Step.refl .., r, h⟩) hd
theorem Gl.ns (G : Gl) {μ g s} (hp : Hp G μ g s) : s.heap.Ns mainGlobals G.mg := G.T.g.keeps hp.stays
theorem Gl.nsb (G : Gl) {μ g s} (hp : Hp G μ g s) : s.heap.Ns builtinsNs G.mb := G.T.b.keeps hp.stays
theorem Gl.in (G : Gl) {μ g s} (hp : Hp G μ g s) : (topT.heap_1 G.w.params).In s.heap := G.X.keeps hp.stays
/-- the value of a global name: that of the written part -/
theorem name_glob {x : Str} {v : Value} {s g} {Q : Value → Shared → Prop} {E} (hp : Hp G μ g s) (hx : C.env.kindOf x = some .globalImplicit) (e : nsIn (topT.heap_1 G.w.params) mainGlobals x = some (some v)) (h : Q v s) (hd : (x == ("__debug__" : Str)) = false := by decide) : wpAny G.M C.A (eval (.Name x pos) C.env) Q E s :=
  Name_function_global C.hk hx (loadGlobal_global (by rw [C.hgl]; exact G.ns hp) (mg_of G.X G.T.g e) h) hd
theorem name_built {x : Str} {v : Value} {s g} {Q : Value → Shared → Prop} {E} (hp : Hp G μ g s) (hx : C.env.kindOf x = some .globalImplicit) (e : nsIn (topT.heap_1 G.w.params) mainGlobals x = some none) (hv : bootBuiltins x = some v) (hn : x ≠ "__name__") (h : Q v s) (hd : (x == ("__debug__" : Str)) = false := by decide) : wpAny G.M C.A (eval (.Name x pos) C.env) Q E s :=
  Name_function_global C.hk hx (loadGlobal_builtin (by rw [C.hgl]; exact G.ns hp) (mg_none_of G.X G.T.g e) (by rw [C.hbi]; exact G.nsb hp) ((G.T.builtins x hn).trans hv) h) hd
theorem WE.glob {x : Str} {a : Addr} {d : D} (hx : C.env.kindOf x = some .globalImplicit) (e : nsIn (topT.heap_1 G.w.params) mainGlobals x = some (some (.ref a))) (hr : ∀ g, (∀ b o, G.b0.get? b = some o → g b = some o) → Rel g (.ref a) d) (h : Φ d μ) (hd : (x == ("__debug__" : Str)) = false := by decide) : WE G C ρ μ (.Name x pos) Φ := fun s g hp fm =>
  name_glob hp hx e ⟨g, μ, d, hp, Step.refl .., hr g hp.bas, h⟩ hd

/-! constants -/
theorem WE.cInt {i : Int} {k} (h : Φ (.int i) μ) : WE G C ρ μ (.Constant (.int i) k pos) Φ := fun s g hp fm => wpAny_Constant_int ⟨g, μ, _, hp.tok _, Step.refl .., .int _ _, h⟩
theorem WE.cStr {x : Str} {k} (h : Φ (.str x) μ) : WE G C ρ μ (.Constant (.str x) k pos) Φ := fun s g hp fm => wpAny_Constant_str ⟨g, μ, _, hp.tok _, Step.refl .., .str _ _, h⟩
theorem WE.cBool {b : Bool} {k} (h : Φ (.bool b) μ) : WE G C ρ μ (.Constant (.bool b) k pos) Φ := fun s g hp fm => wpAny_Constant_bool ⟨g, μ, _, hp, Step.refl .., .bool _, h⟩
theorem WE.cNone {k} (h : Φ .none μ) : WE G C ρ μ (.Constant .none k pos) Φ := fun s g hp fm => wpAny_Constant_none ⟨g, μ, _, hp, Step.refl .., .none, h⟩

/-! two operands -/
/-- what an operation of two values gives, whatever the state -/
def P2 (G : Gl) (μ : MU) (f : Value → Value → Sem Value) (d1 d2 d : D) : Prop :=
  ∀ (A : Around) (s : Shared) (g : PH) (v1 v2 : Value), A.handled = none → A.units + 100 < cLine → Hp G μ g s → Rel g v1 d1 → Rel g v2 d2 →
    wpAny G.M A (f v1 v2) (VPost G μ g s.heap d) (fun _ _ => False) s
def P1 (G : Gl) (μ : MU) (f : Value → Sem Value) (d1 d : D) : Prop :=
  ∀ (A : Around) (s : Shared) (g : PH) (v1 : Value), A.handled = none → A.units + 100 < cLine → Hp G μ g s → Rel g v1 d1 →
    wpAny G.M A (f v1) (VPost G μ g s.heap d) (fun _ _ => False) s
def PT (G : Gl) (μ : MU) (d1 : D) (b : Bool) : Prop :=
  ∀ (A : Around) (s : Shared) (g : PH) (v1 : Value), A.handled = none → A.units + 100 < cLine → Hp G μ g s → Rel g v1 d1 →
    wpAny G.M A (truthy v1) (fun v s' => v = b ∧ Hp G μ g s' ∧ Step no μ g s.heap μ g s'.heap) (fun _ _ => False) s

theorem Cx.hu' (C : Cx) : C.A.units + 100 < cLine := by have := C.hu; omega

theorem WE.bin {op l r} (h : WE G C ρ μ l fun d1 μ1 => WE G C ρ μ1 r fun d2 μ2 => ∃ d, P2 G μ2 (binaryOp op) d1 d2 d ∧ Φ d μ2) : WE G C ρ μ (.BinOp l op r pos) Φ := fun s g hp fm => by
  refine wpAny_BinOp (wpAny_mono (h s g hp fm) ?_ fun _ _ x => x)
  rintro v1 s1 ⟨g1, μ1, d1, hp1, st1, r1, h1⟩
  refine wpAny_mono (h1 s1 g1 hp1 (fm.step st1)) ?_ fun _ _ x => x
  rintro v2 s2 ⟨g2, μ2, d2, hp2, st2, r2, d, h2, φ⟩
  refine wpAny_mono (h2 C.A s2 g2 v1 v2 C.hh C.hu' hp2 (r1.mono st2.sub) r2) ?_ fun _ _ x => x
  rintro v s3 ⟨g3, hp3, st3, r3⟩
  exact ⟨g3, μ2, d, hp3, (st1.trans st2).trans st3, r3, φ⟩
theorem WE.cmp {op l r} (h : WE G C ρ μ l fun d1 μ1 => WE G C ρ μ1 r fun d2 μ2 => ∃ d, P2 G μ2 (compareOp op) d1 d2 d ∧ Φ d μ2) (hm : behindInMarks op r = false := by with_unfolding_all rfl) : WE G C ρ μ (.Compare l [op] [r] pos) Φ := fun s g hp fm => by
  refine wpAny_Compare1 (hm := hm) (wpAny_mono (h s g hp fm) ?_ fun _ _ x => x)
  rintro v1 s1 ⟨g1, μ1, d1, hp1, st1, r1, h1⟩
  refine wpAny_mono (h1 s1 g1 hp1 (fm.step st1)) ?_ fun _ _ x => x
  rintro v2 s2 ⟨g2, μ2, d2, hp2, st2, r2, d, h2, φ⟩
  refine wpAny_mono (h2 C.A s2 g2 v1 v2 C.hh C.hu' hp2 (r1.mono st2.sub) r2) ?_ fun _ _ x => x
  rintro v s3 ⟨g3, hp3, st3, r3⟩
  exact ⟨g3, μ2, d, hp3, (st1.trans st2).trans st3, r3, φ⟩
theorem WE.un {op x} (h : WE G C ρ μ x fun d1 μ1 => ∃ d, P1 G μ1 (unaryOp op) d1 d ∧ Φ d μ1) : WE G C ρ μ (.UnaryOp op x pos) Φ := fun s g hp fm => by
  refine wpAny_UnaryOp (wpAny_mono (h s g hp fm) ?_ fun _ _ x => x)
  rintro v1 s1 ⟨g1, μ1, d1, hp1, st1, r1, d, h1, φ⟩
  refine wpAny_mono (h1 C.A s1 g1 v1 C.hh C.hu' hp1 r1) ?_ fun _ _ x => x
  rintro v s3 ⟨g3, hp3, st3, r3⟩
  exact ⟨g3, μ1, d, hp3, st1.trans st3, r3, φ⟩

/-! tests -/
theorem WB.cmp {op l r} {Φ : Bool → MU → Prop} (h : WE G C ρ μ l fun d1 μ1 => WE G C ρ μ1 r fun d2 μ2 => ∃ b, P2 G μ2 (compareOp op) d1 d2 (.bool b) ∧ Φ b μ2) (hm : behindInMarks op r = false := by with_unfolding_all rfl) : WB G C ρ μ (.Compare l [op] [r] pos) Φ := fun s g hp fm => by
  refine wpAny_isTrue_Compare1 (hm := hm) (wpAny_mono (h s g hp fm) ?_ fun _ _ x => x)
  rintro v1 s1 ⟨g1, μ1, d1, hp1, st1, r1, h1⟩
  refine wpAny_mono (h1 s1 g1 hp1 (fm.step st1)) ?_ fun _ _ x => x
  rintro v2 s2 ⟨g2, μ2, d2, hp2, st2, r2, b, h2, φ⟩
  refine wpAny_mono (h2 C.A s2 g2 v1 v2 C.hh C.hu' hp2 (r1.mono st2.sub) r2) ?_ fun _ _ x => x
  rintro v s3 ⟨g3, hp3, st3, r3⟩
  obtain rfl := r3.bool_inv
  exact wpAny_truthy_bool ⟨g3, μ2, b, hp3, (st1.trans st2).trans st3, rfl, φ⟩
theorem WB.not {x} {Φ : Bool → MU → Prop} (h : WB G C ρ μ x fun b μ1 => Φ (!b) μ1) : WB G C ρ μ (.UnaryOp .Not x pos) Φ := fun s g hp fm => by
  refine wpAny_isTrue_Not (wpAny_mono (h s g hp fm) ?_ fun _ _ x => x)
  rintro v1 s1 ⟨g1, μ1, d1, hp1, st1, rfl, φ⟩
  exact ⟨g1, μ1, _, hp1, st1, rfl, φ⟩
theorem WB.val {e} {Φ : Bool → MU → Prop} (h : WE G C ρ μ e fun d μ1 => ∃ b, PT G μ1 d b ∧ Φ b μ1)
    (he : ∀ whole, isTrue e C.env whole = (do let v ← whole; standAt e.pos; holding [v] (truthy v)) := by intro _; rfl) : WB G C ρ μ e Φ := fun s g hp fm => by
  refine wpAny_isTrue_value (he := he _) (wpAny_mono (h s g hp fm) ?_ fun _ _ x => x)
  rintro v1 s1 ⟨g1, μ1, d1, hp1, st1, r1, b, h1, φ⟩
  refine wpAny_mono (h1 C.A s1 g1 v1 C.hh C.hu' hp1 r1) ?_ fun _ _ x => x
  rintro v s3 ⟨rfl, hp3, st3⟩
  exact ⟨g1, μ1, _, hp3, st1.trans st3, rfl, φ⟩
/-- and, or in a test -/
abbrev WA (G : Gl) (C : Cx) (ρ : Rho) (μ : MU) (op : BoolOp) (es : List Expr) (Φ : Bool → MU → Prop) : Prop := TT RB G C ρ μ (allTrue op es C.env) Φ
theorem WB.boolop {op es} {Φ : Bool → MU → Prop} (h : WA G C ρ μ op es Φ) : WB G C ρ μ (.BoolOp op es pos) Φ := fun s g hp fm => wpAny_isTrue_BoolOp (h s g hp fm)
theorem WA.and_nil {Φ : Bool → MU → Prop} (h : Φ true μ) : WA G C ρ μ .And [] Φ := fun s g hp fm => wpAny_allTrue_And_nil ⟨g, μ, _, hp, Step.refl .., rfl, h⟩
theorem WA.or_nil {Φ : Bool → MU → Prop} (h : Φ false μ) : WA G C ρ μ .Or [] Φ := fun s g hp fm => wpAny_allTrue_Or_nil ⟨g, μ, _, hp, Step.refl .., rfl, h⟩
theorem WA.and {x rest} {Φ : Bool → MU → Prop} (h : WB G C ρ μ x fun b μ1 => if b = true then WA G C ρ μ1 .And rest Φ else Φ false μ1) : WA G C ρ μ .And (x :: rest) Φ := fun s g hp fm => by
  refine wpAny_allTrue_And_cons (wpAny_mono (h s g hp fm) ?_ fun _ _ x => x)
  rintro b s1 ⟨g1, μ1, d1, hp1, st1, rfl, φ⟩
  cases b with
  | false => exact ⟨g1, μ1, _, hp1, st1, rfl, φ⟩
  | true =>
    simp only [if_true] at φ ⊢
    refine wpAny_mono (φ s1 g1 hp1 (fm.step st1)) ?_ fun _ _ x => x
    rintro v s2 ⟨g2, μ2, d2, hp2, st2, r2, φ2⟩
    exact ⟨g2, μ2, d2, hp2, st1.trans st2, r2, φ2⟩
theorem WA.or {x rest} {Φ : Bool → MU → Prop} (h : WB G C ρ μ x fun b μ1 => if b = true then Φ true μ1 else WA G C ρ μ1 .Or rest Φ) : WA G C ρ μ .Or (x :: rest) Φ := fun s g hp fm => by
  refine wpAny_allTrue_Or_cons (wpAny_mono (h s g hp fm) ?_ fun _ _ x => x)
  rintro b s1 ⟨g1, μ1, d1, hp1, st1, rfl, φ⟩
  cases b with
  | true => exact ⟨g1, μ1, _, hp1, st1, rfl, φ⟩
  | false =>
    simp only [Bool.false_eq_true, if_false] at φ ⊢
    refine wpAny_mono (φ s1 g1 hp1 (fm.step st1)) ?_ fun _ _ x => x
    rintro v s2 ⟨g2, μ2, d2, hp2, st2, r2, φ2⟩
    exact ⟨g2, μ2, d2, hp2, st1.trans st2, r2, φ2⟩
/-- x and y, x or y as values, x a bool -/
theorem WE.and {x y} (h : WE G C ρ μ x fun d μ1 => ∃ b, d = .bool b ∧ if b = true then WE G C ρ μ1 y Φ else Φ (.bool false) μ1) : WE G C ρ μ (.BoolOp .And [x, y] pos) Φ := fun s g hp fm => by
  refine wpAny_And2 (wpAny_mono (h s g hp fm) ?_ fun _ _ x => x)
  rintro v s1 ⟨g1, μ1, d1, hp1, st1, r1, b, rfl, φ⟩
  obtain rfl := r1.bool_inv
  refine wpAny_truthy_bool ?_
  cases b with
  | false => exact ⟨g1, μ1, _, hp1, st1, .bool _, φ⟩
  | true =>
    simp only [if_true] at φ ⊢
    refine wpAny_mono (φ s1 g1 hp1 (fm.step st1)) ?_ fun _ _ x => x
    rintro v s2 ⟨g2, μ2, d2, hp2, st2, r2, φ2⟩
    exact ⟨g2, μ2, d2, hp2, st1.trans st2, r2, φ2⟩
theorem WE.or {x y} (h : WE G C ρ μ x fun d μ1 => ∃ b, d = .bool b ∧ if b = true then Φ (.bool true) μ1 else WE G C ρ μ1 y Φ) : WE G C ρ μ (.BoolOp .Or [x, y] pos) Φ := fun s g hp fm => by
  refine wpAny_Or2 (wpAny_mono (h s g hp fm) ?_ fun _ _ x => x)
  rintro v s1 ⟨g1, μ1, d1, hp1, st1, r1, b, rfl, φ⟩
  obtain rfl := r1.bool_inv
  refine wpAny_truthy_bool ?_
  cases b with
  | true => exact ⟨g1, μ1, _, hp1, st1, .bool _, φ⟩
  | false =>
    simp only [Bool.false_eq_true, if_false] at φ ⊢
    refine wpAny_mono (φ s1 g1 hp1 (fm.step st1)) ?_ fun _ _ x => x
    rintro v s2 ⟨g2, μ2, d2, hp2, st2, r2, φ2⟩
    exact ⟨g2, μ2, d2, hp2, st1.trans st2, r2, φ2⟩
theorem WE.ite {t x y} (h : WB G C ρ μ t fun b μ1 => if b = true then WE G C ρ μ1 x Φ else WE G C ρ μ1 y Φ) : WE G C ρ μ (.IfExp t x y pos) Φ := fun s g hp fm => by
  refine wpAny_IfExp (wpAny_mono (h s g hp fm) ?_ fun _ _ x => x)
  rintro b s1 ⟨g1, μ1, d1, hp1, st1, rfl, φ⟩
  cases b <;> simp only [Bool.false_eq_true, if_true, if_false] at φ ⊢ <;>
  · refine wpAny_mono (φ s1 g1 hp1 (fm.step st1)) ?_ fun _ _ x => x
    rintro v s2 ⟨g2, μ2, d2, hp2, st2, r2, φ2⟩
    exact ⟨g2, μ2, d2, hp2, st1.trans st2, r2, φ2⟩

/-! displays -/
theorem WL.nil {Φ : List D → MU → Prop} (h : Φ [] μ) : WL G C ρ μ pos [] Φ := fun s g hp fm => wpAny_items_nil ⟨g, μ, _, hp, Step.refl .., .nil, h⟩
theorem WL.cons {e rest} {Φ : List D → MU → Prop} (h : WE G C ρ μ e fun d μ1 => WL G C ρ μ1 pos rest fun ds μ2 => Φ (d :: ds) μ2)
    (he : starEach (e :: rest) C.env = (false, eval e C.env) :: starEach rest C.env := by rfl) : WL G C ρ μ pos (e :: rest) Φ := fun s g hp fm => by
  refine wpAny_items_cons (he := he) (wpAny_mono (h s g hp fm) ?_ fun _ _ x => x)
  rintro v s1 ⟨g1, μ1, d1, hp1, st1, r1, φ⟩
  refine wpAny_mono (φ s1 g1 hp1 (fm.step st1)) ?_ fun _ _ x => x
  rintro vs s2 ⟨g2, μ2, ds, hp2, st2, r2, φ2⟩
  exact ⟨g2, μ2, d1 :: ds, hp2, st1.trans st2, .cons (r1.mono st2.sub) r2, φ2⟩
theorem WE.list {es} (h : WL G C ρ μ pos es fun ds μ1 => ds.length ≤ sizeLine ∧ Φ (.lst ds) μ1) : WE G C ρ μ (.List es pos) Φ := fun s g hp fm => by
  refine wpAny_List (wpAny_mono (h s g hp fm) ?_ fun _ _ x => x)
  rintro vs s1 ⟨g1, μ1, ds, hp1, st1, r1, hl, φ⟩
  refine ⟨r1.1 ▸ hl, _, μ1, .lst ds, hp1.push _ rfl, st1.trans (Step.push hp1 _), ?_, φ⟩
  exact .mkLst (PH.set_self _ _ _) (r1.mono (Step.push hp1 _).sub)
theorem WE.tuple {es k} (h : WL G C ρ μ pos es fun ds μ1 => ds.length ≤ sizeLine ∧ Φ (.tup ds) μ1) : WE G C ρ μ (.Tuple es k pos) Φ := fun s g hp fm => by
  refine wpAny_Tuple (wpAny_mono (h s g hp fm) ?_ fun _ _ x => x)
  rintro vs s1 ⟨g1, μ1, ds, hp1, st1, r1, hl, φ⟩
  refine ⟨r1.1 ▸ hl, _, μ1, .tup ds, hp1.push _ rfl, st1.trans (Step.push hp1 _), ?_, φ⟩
  exact .mkTup (PH.set_self _ _ _) rfl rfl (r1.mono (Step.push hp1 _).sub)
end
set_option maxHeartbeats 400000
/-! pure data -/
mutual
def D.py : D → PyData
  | .none => .none
  | .bool b => .bool b
  | .int i => .int i
  | .str s => .str s
  | .tup l => .tuple (D.pys l)
  | .lst l => .list (D.pys l)
  | .scr _ => .none
  | .rng .. => .none
  | .obj .. => .none
  | .loc _ => .none
  | .pin .. => .none
def D.pys : List D → List PyData
  | [] => []
  | d :: r => D.py d :: D.pys r
end
mutual
def D.isPy : D → Bool
  | .none => true
  | .bool _ => true
  | .int _ => true
  | .str s => PyData.canLay0 (.str s)
  | .tup l => D.isPys l
  | .lst l => D.isPys l
  | .scr _ => false
  | .rng .. => false
  | .obj .. => false
  | .loc _ => false
  | .pin .. => false
def D.isPys : List D → Bool
  | [] => true
  | d :: r => D.isPy d && D.isPys r
end
theorem D.pys_eq : ∀ l : List D, D.pys l = l.map D.py
  | [] => by simp [D.pys]
  | d :: r => by simp [D.pys, D.pys_eq r]

mutual
theorem D.can : ∀ d : D, d.isPy = true → d.py.canLay0 = true
  | .none, _ => by simp [D.py, PyData.canLay0]
  | .bool _, _ => by simp [D.py, PyData.canLay0]
  | .int _, _ => by simp [D.py, PyData.canLay0]
  | .str s, h => by simpa [D.py, D.isPy] using h
  | .tup l, h => by simp only [D.py, PyData.canLay0]; exact D.cans l (by simpa [D.isPy] using h)
  | .lst l, h => by simp only [D.py, PyData.canLay0]; exact D.cans l (by simpa [D.isPy] using h)
  | .scr _, h => by simp [D.isPy] at h
  | .rng .., h => by simp [D.isPy] at h
  | .obj .., h => by simp [D.isPy] at h
  | .loc _, h => by simp [D.isPy] at h
  | .pin .., h => by simp [D.isPy] at h
theorem D.cans : ∀ l : List D, D.isPys l = true → PyData.canLayAll0 (D.pys l) = true
  | [], _ => by simp [D.pys, PyData.canLayAll0]
  | d :: r, h => by
    simp only [D.isPys, Bool.and_eq_true] at h
    simp only [D.pys, PyData.canLayAll0, Bool.and_eq_true]
    exact ⟨D.can d h.1, D.cans r h.2⟩
end
mutual
theorem Rel.reads {g : PH} {h : Heap} (hc : ∀ a o, g a = some o → h.get? a = some o) : ∀ (d : D) (v : Value), d.isPy = true → Rel g v d → ∃ as, Reads h v d.py as
  | .none, v, _, r => by obtain rfl := r.none_inv; exact ⟨_, by simp only [D.py]; exact .none⟩
  | .bool b, v, _, r => by obtain rfl := r.bool_inv; exact ⟨_, by simp only [D.py]; exact .bool b⟩
  | .int i, v, _, r => by obtain ⟨_, rfl⟩ := r.int_inv; exact ⟨_, by simp only [D.py]; exact .int _ _⟩
  | .str s, v, _, r => by obtain ⟨_, rfl⟩ := r.str_inv; exact ⟨_, by simp only [D.py]; exact .str _ _⟩
  | .tup l, v, hp, r => by
    obtain ⟨a, o, n, vs, rfl, h1, h2, h3, h4⟩ := r.tup_inv
    obtain ⟨as, ra⟩ := Rel.readsL hc l vs (by simpa [D.isPy] using hp) h4
    exact ⟨as, by simp only [D.py]; exact .tuple (hc _ _ h1) h2 h3 (by simpa using ra)⟩
  | .lst l, v, hp, r => by
    obtain ⟨a, n, vs, rfl, h1, h4⟩ := r.lst_inv
    obtain ⟨as, ra⟩ := Rel.readsL hc l vs (by simpa [D.isPy] using hp) h4
    exact ⟨a :: as, by simp only [D.py]; exact .list (hc _ _ h1) rfl rfl (by simpa using ra)⟩
  | .scr _, v, h, _ => by simp [D.isPy] at h
  | .rng .., v, h, _ => by simp [D.isPy] at h
  | .obj .., v, h, _ => by simp [D.isPy] at h
  | .loc _, v, h, _ => by simp [D.isPy] at h
theorem Rel.readsL {g : PH} {h : Heap} (hc : ∀ a o, g a = some o → h.get? a = some o) : ∀ (ds : List D) (vs : List Value), D.isPys ds = true → RelL g vs ds → ∃ as, ReadsAll h vs (D.pys ds) as
  | [], vs, _, r => by rw [r.nil_inv]; exact ⟨[], by simp only [D.pys]; exact .nil⟩
  | d :: ds, vs, hp, r => by
    simp only [D.isPys, Bool.and_eq_true] at hp
    obtain ⟨v, q, rfl, r1, r2⟩ := r.cons_inv
    obtain ⟨as, ra⟩ := Rel.reads hc d v hp.1 r1
    obtain ⟨bs, rb⟩ := Rel.readsL hc ds q hp.2 r2
    exact ⟨as ++ bs, by simp only [D.pys]; exact .cons ra rb⟩
end

section
variable {G : Gl} {μ : MU}

theorem P2.eq {d1 d2 : D} {b : Bool} (h1 : d1.isPy = true) (h2 : d2.isPy = true) (k1 : d1.py.depth ≤ 64) (k2 : d2.py.depth ≤ 64) (e : PyData.eqv d1.py d2.py = b) : P2 G μ (compareOp .Eq) d1 d2 (.bool b) := fun A s g v1 v2 hh hu hp r1 r2 => by
  obtain ⟨as, ra⟩ := r1.reads hp.cov d1 v1 h1
  obtain ⟨bs, rb⟩ := r2.reads hp.cov d2 v2 h2
  subst e
  exact eq_dataH ra rb (by simp [SeqAt.shaped, D.can d1 h1, k1]) (by simp [SeqAt.shaped, D.can d2 h2, k2]) (by omega) ⟨g, hp, Step.refl .., .bool _⟩
theorem P2.ne {d1 d2 : D} {b : Bool} (h1 : d1.isPy = true) (h2 : d2.isPy = true) (k1 : d1.py.depth ≤ 64) (k2 : d2.py.depth ≤ 64) (e : PyData.eqv d1.py d2.py = b) : P2 G μ (compareOp .NotEq) d1 d2 (.bool (!b)) := fun A s g v1 v2 hh hu hp r1 r2 => by
  obtain ⟨as, ra⟩ := r1.reads hp.cov d1 v1 h1
  obtain ⟨bs, rb⟩ := r2.reads hp.cov d2 v2 h2
  subst e
  exact ne_dataH ra rb (by simp [SeqAt.shaped, D.can d1 h1, k1]) (by simp [SeqAt.shaped, D.can d2 h2, k2]) (by omega) ⟨g, hp, Step.refl .., .bool _⟩
/-- in a list, in a tuple: the container's items -/
theorem P2.inLst {d : D} {l : List D} {b : Bool} (h1 : d.isPy = true) (h2 : D.isPys l = true) (k1 : d.py.depth ≤ 64) (e : (D.pys l).any (fun y => PyData.eqv y d.py) = b) : P2 G μ (compareOp .In) d (.lst l) (.bool b) := fun A s g v1 v2 hh hu hp r1 r2 => by
  obtain ⟨as, ra⟩ := r1.reads hp.cov d v1 h1
  obtain ⟨bs, rb⟩ := r2.reads hp.cov (.lst l) v2 (by simpa [D.isPy] using h2)
  subst e
  simp only [D.py] at rb
  exact SeqAt.in_list_reads rb ra (D.cans l h2) (D.can d h1) (by have := Nat.min_le_right (PyData.depthAll (D.pys l)) d.py.depth; omega) ⟨g, hp, Step.refl .., .bool _⟩
theorem P2.notInLst {d : D} {l : List D} {b : Bool} (h1 : d.isPy = true) (h2 : D.isPys l = true) (k1 : d.py.depth ≤ 64) (e : (D.pys l).any (fun y => PyData.eqv y d.py) = b) : P2 G μ (compareOp .NotIn) d (.lst l) (.bool (!b)) := fun A s g v1 v2 hh hu hp r1 r2 => by
  obtain ⟨as, ra⟩ := r1.reads hp.cov d v1 h1
  obtain ⟨bs, rb⟩ := r2.reads hp.cov (.lst l) v2 (by simpa [D.isPy] using h2)
  subst e
  simp only [D.py] at rb
  exact SeqAt.notIn_list_reads rb ra (D.cans l h2) (D.can d h1) (by have := Nat.min_le_right (PyData.depthAll (D.pys l)) d.py.depth; omega) ⟨g, hp, Step.refl .., .bool _⟩
theorem P2.inTup {d : D} {l : List D} {b : Bool} (h1 : d.isPy = true) (h2 : D.isPys l = true) (k1 : d.py.depth ≤ 64) (e : (D.pys l).any (fun y => PyData.eqv y d.py) = b) : P2 G μ (compareOp .In) d (.tup l) (.bool b) := fun A s g v1 v2 hh hu hp r1 r2 => by
  obtain ⟨as, ra⟩ := r1.reads hp.cov d v1 h1
  obtain ⟨bs, rb⟩ := r2.reads hp.cov (.tup l) v2 (by simpa [D.isPy] using h2)
  subst e
  simp only [D.py] at rb
  exact SeqAt.in_tuple_reads rb ra (D.cans l h2) (D.can d h1) (by have := Nat.min_le_right (PyData.depthAll (D.pys l)) d.py.depth; omega) ⟨g, hp, Step.refl .., .bool _⟩
theorem P2.notInTup {d : D} {l : List D} {b : Bool} (h1 : d.isPy = true) (h2 : D.isPys l = true) (k1 : d.py.depth ≤ 64) (e : (D.pys l).any (fun y => PyData.eqv y d.py) = b) : P2 G μ (compareOp .NotIn) d (.tup l) (.bool (!b)) := fun A s g v1 v2 hh hu hp r1 r2 => by
  obtain ⟨as, ra⟩ := r1.reads hp.cov d v1 h1
  obtain ⟨bs, rb⟩ := r2.reads hp.cov (.tup l) v2 (by simpa [D.isPy] using h2)
  subst e
  simp only [D.py] at rb
  exact SeqAt.notIn_tuple_reads rb ra (D.cans l h2) (D.can d h1) (by have := Nat.min_le_right (PyData.depthAll (D.pys l)) d.py.depth; omega) ⟨g, hp, Step.refl .., .bool _⟩
/-- not in a list that may be turned -/
theorem P2.notInLoc {d : D} {a : Addr} {l : List D} {b : Bool} (hm : μ a = some (.lst l)) (h1 : d.isPy = true) (h2 : D.isPys l = true) (k1 : d.py.depth ≤ 64) (e : (D.pys l).any (fun y => PyData.eqv y d.py) = b) : P2 G μ (compareOp .NotIn) d (.loc a) (.bool (!b)) := fun A s g v1 v2 hh hu hp r1 r2 => by
  obtain ⟨as, ra⟩ := r1.reads hp.cov d v1 h1
  obtain ⟨_, o, ho, vs, n, rfl, hr⟩ := hp.mt a _ hm
  obtain ⟨bs, rb⟩ := Rel.readsL hp.cov l vs h2 hr
  obtain rfl := r2.loc_inv
  subst e
  exact SeqAt.notIn_list_reads (.list ho rfl rfl (by simpa using rb)) ra (D.cans l h2) (D.can d h1) (by have := Nat.min_le_right (PyData.depthAll (D.pys l)) d.py.depth; omega) ⟨g, hp, Step.refl .., .bool _⟩

/-! ints -/
theorem P2.lt {a b : Int} : P2 G μ (compareOp .Lt) (.int a) (.int b) (.bool (decide (a < b))) := fun A s g v1 v2 hh hu hp r1 r2 => by
  obtain ⟨_, rfl⟩ := r1.int_inv; obtain ⟨_, rfl⟩ := r2.int_inv; exact wpAny_lt_int ⟨g, hp, Step.refl .., .bool _⟩
theorem P2.gt {a b : Int} : P2 G μ (compareOp .Gt) (.int a) (.int b) (.bool (decide (b < a))) := fun A s g v1 v2 hh hu hp r1 r2 => by
  obtain ⟨_, rfl⟩ := r1.int_inv; obtain ⟨_, rfl⟩ := r2.int_inv; exact PyProof.Rows.gt_int ⟨g, hp, Step.refl .., .bool _⟩
theorem P2.ge {a b : Int} : P2 G μ (compareOp .GtE) (.int a) (.int b) (.bool (decide (b ≤ a))) := fun A s g v1 v2 hh hu hp r1 r2 => by
  obtain ⟨_, rfl⟩ := r1.int_inv; obtain ⟨_, rfl⟩ := r2.int_inv; exact PyProof.Rows.ge_int ⟨g, hp, Step.refl .., .bool _⟩
theorem P2.add {a b : Int} : P2 G μ (binaryOp .Add) (.int a) (.int b) (.int (a + b)) := fun A s g v1 v2 hh hu hp r1 r2 => by
  obtain ⟨_, rfl⟩ := r1.int_inv; obtain ⟨_, rfl⟩ := r2.int_inv; exact wpAny_add_int ⟨g, hp.tok _, Step.refl .., .int _ _⟩
theorem P2.sub {a b : Int} : P2 G μ (binaryOp .Sub) (.int a) (.int b) (.int (a - b)) := fun A s g v1 v2 hh hu hp r1 r2 => by
  obtain ⟨_, rfl⟩ := r1.int_inv; obtain ⟨_, rfl⟩ := r2.int_inv; exact PyProof.Rows.sub_int ⟨g, hp.tok _, Step.refl .., .int _ _⟩
theorem P2.mul {a b : Int} (h : IntMulOk a b) : P2 G μ (binaryOp .Mult) (.int a) (.int b) (.int (a * b)) := fun A s g v1 v2 hh hu hp r1 r2 => by
  obtain ⟨_, rfl⟩ := r1.int_inv; obtain ⟨_, rfl⟩ := r2.int_inv; exact PyProof.Rows.mul_int ⟨g, hp.tok _, Step.refl .., .int _ _⟩ h
theorem P2.mod {a b : Int} (h : b ≠ 0) : P2 G μ (binaryOp .Mod) (.int a) (.int b) (.int (a.fmod b)) := fun A s g v1 v2 hh hu hp r1 r2 => by
  obtain ⟨_, rfl⟩ := r1.int_inv; obtain ⟨_, rfl⟩ := r2.int_inv; exact PyProof.Rows.mod_int h ⟨g, hp.tok _, Step.refl .., .int _ _⟩
theorem P2.fdiv {a b : Int} (h : b ≠ 0) (hb : b.natAbs < 1073741824) : P2 G μ (binaryOp .FloorDiv) (.int a) (.int b) (.int (a.fdiv b)) := fun A s g v1 v2 hh hu hp r1 r2 => by
  obtain ⟨_, rfl⟩ := r1.int_inv; obtain ⟨_, rfl⟩ := r2.int_inv; exact PyProof.Rows.floordiv_int h ⟨g, hp.tok _, Step.refl .., .int _ _⟩ (.inl (PyProof.noPylong_small hb))
theorem P2.pow {a n : Int} (h : 0 ≤ n) (hsz : (Builtin.Int.intBits a : Int) * n ≤ 2 ^ 27) : P2 G μ (binaryOp .Pow) (.int a) (.int n) (.int (a ^ n.toNat)) := fun A s g v1 v2 hh hu hp r1 r2 => by
  obtain ⟨_, rfl⟩ := r1.int_inv; obtain ⟨_, rfl⟩ := r2.int_inv; exact PyProof.Rows.pow_int h hsz ⟨g, hp.tok _, Step.refl .., .int _ _⟩
theorem P2.iadd {a b : Int} : P2 G μ (inplaceOp .Add) (.int a) (.int b) (.int (a + b)) := fun A s g v1 v2 hh hu hp r1 r2 => by
  obtain ⟨_, rfl⟩ := r1.int_inv; obtain ⟨_, rfl⟩ := r2.int_inv; exact wpAny_iadd_int ⟨g, hp.tok _, Step.refl .., .int _ _⟩
theorem P2.isub {a b : Int} : P2 G μ (inplaceOp .Sub) (.int a) (.int b) (.int (a - b)) := fun A s g v1 v2 hh hu hp r1 r2 => by
  obtain ⟨_, rfl⟩ := r1.int_inv; obtain ⟨_, rfl⟩ := r2.int_inv; exact P.isub_int ⟨g, hp.tok _, Step.refl .., .int _ _⟩
theorem P1.neg {a : Int} : P1 G μ (unaryOp .USub) (.int a) (.int (-a)) := fun A s g v1 hh hu hp r1 => by
  obtain ⟨_, rfl⟩ := r1.int_inv; exact PyProof.Rows.neg_int ⟨g, hp.tok _, Step.refl .., .int _ _⟩
theorem PT.bool {b : Bool} : PT G μ (.bool b) b := fun A s g v1 hh hu hp r1 => by
  obtain rfl := r1.bool_inv; exact wpAny_truthy_bool ⟨rfl, hp, Step.refl ..⟩
theorem P1.not {b : Bool} : P1 G μ (unaryOp .Not) (.bool b) (.bool (!b)) := fun A s g v1 hh hu hp r1 => by
  obtain rfl := r1.bool_inv; exact not_value (wpAny_truthy_bool ⟨g, hp, Step.refl .., .bool _⟩)

/-! lists and tuples -/
theorem P2.addLst {xs ys : List D} (hz : xs.length + ys.length ≤ sizeLine) : P2 G μ (binaryOp .Add) (.lst xs) (.lst ys) (.lst (xs ++ ys)) := fun A s g v1 v2 hh hu hp r1 r2 => by
  obtain ⟨a, n1, vs1, rfl, h1, h4⟩ := r1.lst_inv
  obtain ⟨b, n2, vs2, rfl, k1, k4⟩ := r2.lst_inv
  refine concat_meets ⟨_, hp.cov _ _ h1, rfl⟩ ⟨_, hp.cov _ _ k1, rfl⟩ noFill_list_add seq_list_add PySem.F.slot_list_add PySem.F.entry_list_add (PySem.F.args_list_add_2 _ _)
    (list_addW a b vs1.toArray vs2.toArray n1 n2 none none #[] #[] (by simpa [h4.1, k4.1] using hz)) ⟨hp.cov _ _ h1, hp.cov _ _ k1, ?_⟩
  refine ⟨_, hp.push _ rfl, Step.push hp _, ?_⟩
  exact .mkLst (vs := vs1 ++ vs2) (n := 0) (by rw [PH.set_self]; simp) ((h4.append k4).mono (Step.push hp _).sub)
theorem P2.addTup {xs ys : List D} (hz : xs.length + ys.length ≤ sizeLine) (hx : xs ≠ []) (hy : ys ≠ []) : P2 G μ (binaryOp .Add) (.tup xs) (.tup ys) (.tup (xs ++ ys)) := fun A s g v1 v2 hh hu hp r1 r2 => by
  obtain ⟨a, ⟨c1, dd1, dt1, sl1⟩, n1, vs1, rfl, h1, h2, h3, h4⟩ := r1.tup_inv
  obtain ⟨b, ⟨c2, dd2, dt2, sl2⟩, n2, vs2, rfl, k1, k2, k3, k4⟩ := r2.tup_inv
  simp only at h2 h3 k2 k3
  subst h2 h3 k2 k3
  have e1 : ¬ vs1.toArray.isEmpty = true := by cases vs1 with | nil => exact absurd (List.length_eq_zero_iff.mp (by simpa using h4.1.symm)) hx | cons => simp
  have e2 : ¬ vs2.toArray.isEmpty = true := by cases vs2 with | nil => exact absurd (List.length_eq_zero_iff.mp (by simpa using k4.1.symm)) hy | cons => simp
  refine concat_meets ⟨_, hp.cov _ _ h1, rfl⟩ ⟨_, hp.cov _ _ k1, rfl⟩ noFill_tuple_add seq_tuple_add PySem.F.slot_tuple_add PySem.F.entry_tuple_add (PySem.F.args_tuple_add_2 _ _)
    (tuple_addW2 a b vs1.toArray vs2.toArray n1 n2 dd1 dd2 sl1 sl2 e1 e2 (by simpa [h4.1, k4.1] using hz)) ⟨hp.cov _ _ h1, hp.cov _ _ k1, ?_⟩
  refine ⟨_, hp.push _ rfl, Step.push hp _, ?_⟩
  exact .mkTup (vs := vs1 ++ vs2) (n := 0) (PH.set_self _ _ _) rfl (by simp) ((h4.append k4).mono (Step.push hp _).sub)
theorem Rel.isList {g : PH} {s : Shared} {v l} (hc : ∀ a o, g a = some o → s.heap.get? a = some o) (r : Rel g v (.lst l)) : ∃ a vs, v = .ref a ∧ s.heap.IsList a (List.toArray vs) ∧ RelL g vs l :=
  let ⟨a, n, vs, e, h1, h4⟩ := r.lst_inv
  ⟨a, vs, e, ⟨_, hc _ _ h1, rfl, n, rfl⟩, h4⟩
theorem Rel.isScr {g : PH} {s : Shared} {v l} (hc : ∀ a o, g a = some o → s.heap.get? a = some o) (r : Rel g v (.scr l)) : ∃ a vs, v = .ref a ∧ s.heap.IsList a (List.toArray vs) ∧ RelL g vs l :=
  let ⟨a, o, n, vs, e, h1, h2, h3, h4⟩ := r.scr_inv
  ⟨a, vs, e, ⟨o, hc _ _ h1, h2, n, h3⟩, h4⟩
theorem Rel.isTup {g : PH} {s : Shared} {v l} (hc : ∀ a o, g a = some o → s.heap.get? a = some o) (r : Rel g v (.tup l)) : ∃ a vs, v = .ref a ∧ IsTup s.heap a (List.toArray vs) ∧ RelL g vs l :=
  let ⟨a, o, n, vs, e, h1, h2, h3, h4⟩ := r.tup_inv
  ⟨a, vs, e, ⟨o, hc _ _ h1, h2, n, h3⟩, h4⟩
/-- a list that may be turned -/
def Lsty (μ : MU) (a : Addr) (l : List D) : Prop := μ a = some (.lst l) ∨ μ a = some (.box l)
theorem Hp.isList {G μ g s} (hp : Hp G μ g s) {a : Addr} {l : List D} (h : Lsty μ a l) : ∃ vs, s.heap.IsList a (List.toArray vs) ∧ RelL g vs l := by
  rcases h with h | h
  · obtain ⟨_, o, ho, vs, n, rfl, hr⟩ := hp.mt a _ h
    exact ⟨vs, ⟨_, ho, rfl, n, rfl⟩, hr⟩
  · obtain ⟨_, o, ho, hc, vs, n, hdt, hr⟩ := hp.mt a _ h
    exact ⟨vs, ⟨o, ho, hc, n, hdt⟩, hr⟩
theorem P2.itemLst {l : List D} {k : Int} {d : D} (h0 : 0 ≤ k) (h1 : k < 2 ^ 63) (hx : l[k.toNat]? = some d) : P2 G μ getItem (.lst l) (.int k) d := fun A s g v1 v2 hh hu hp r1 r2 => by
  obtain ⟨a, vs, rfl, hl, hr⟩ := r1.isList hp.cov
  obtain ⟨_, rfl⟩ := r2.int_inv
  obtain ⟨v, hv, hrel⟩ := hr.get hx
  exact wpAny_getItem_list hl h0 h1 (by simpa using hv) ⟨g, hp, Step.refl .., hrel⟩
theorem P2.itemLoc {a : Addr} {l : List D} {k : Int} {d : D} (hm : Lsty μ a l) (h0 : 0 ≤ k) (h1 : k < 2 ^ 63) (hx : l[k.toNat]? = some d) : P2 G μ getItem (.loc a) (.int k) d := fun A s g v1 v2 hh hu hp r1 r2 => by
  obtain ⟨vs, hl, hr⟩ := hp.isList hm
  obtain rfl := r1.loc_inv; obtain ⟨_, rfl⟩ := r2.int_inv
  obtain ⟨v, hv, hrel⟩ := hr.get hx
  exact wpAny_getItem_list hl h0 h1 (by simpa using hv) ⟨g, hp, Step.refl .., hrel⟩
theorem P2.itemTup {l : List D} {k : Int} {d : D} (h0 : 0 ≤ k) (h1 : k < 2 ^ 63) (hx : l[k.toNat]? = some d) : P2 G μ getItem (.tup l) (.int k) d := fun A s g v1 v2 hh hu hp r1 r2 => by
  obtain ⟨a, vs, rfl, hl, hr⟩ := r1.isTup hp.cov
  obtain ⟨_, rfl⟩ := r2.int_inv
  obtain ⟨v, hv, hrel⟩ := hr.get hx
  have hlt : k.toNat < vs.length := (List.getElem?_eq_some_iff.mp hv).1
  refine PyProof.Rows.getItem_tuple hl (by omega) h1 (j := k.toNat) (seqIndex_of h0 ?_) (by simpa using hv) ⟨g, hp, Step.refl .., hrel⟩
  simp; omega
end
set_option maxHeartbeats 400000
section
variable {G : Gl} {C : Cx} {ρ : Rho} {μ : MU} {pos : Pos} {Φ : D → MU → Prop}

/-- an item by an index -/
def Gt (G : Gl) (μ : MU) (d1 d2 d : D) : Prop :=
  (∃ T id, typeLookup (.type T) "__getitem__" = pure (some (.builtin id)) ∧ ∀ g s v, Hp G μ g s → Rel g v d1 → s.TypeIs v T) ∧ P2 G μ getItem d1 d2 d
theorem WE.sub {value slice} (h : WE G C ρ μ value fun d1 μ1 => WE G C ρ μ1 slice fun d2 μ2 => ∃ d, Gt G μ2 d1 d2 d ∧ Φ d μ2)
    (hs : ∀ o i, subscripted slice false o i = operate [o, i] (getItem o i) := by intro _ _; rfl) : WE G C ρ μ (.Subscript value slice pos) Φ := fun s g hp fm => by
  refine Subscript_ (wpAny_mono (h s g hp fm) ?_ fun _ _ x => x)
  rintro v1 s1 ⟨g1, μ1, d1, hp1, st1, r1, h1⟩
  refine wpAny_mono (h1 s1 g1 hp1 (fm.step st1)) ?_ fun _ _ x => x
  rintro v2 s2 ⟨g2, μ2, d2, hp2, st2, r2, d, ⟨⟨T, id, hl, ht⟩, h2⟩, φ⟩
  refine tail_any (ht g2 s2 v1 hp2 (r1.mono st2.sub)) hl (wpAny_mono (h2 C.A s2 g2 v1 v2 C.hh C.hu' hp2 (r1.mono st2.sub) r2) ?_ fun _ _ x => x) (hs _ _)
  rintro v s3 ⟨g3, hp3, st3, r3⟩
  exact ⟨g3, μ2, d, hp3, (st1.trans st2).trans st3, r3, φ⟩
theorem Gt.lst {l : List D} {k : Int} {d : D} (h0 : 0 ≤ k) (h1 : k < 2 ^ 63) (hx : l[k.toNat]? = some d) : Gt G μ (.lst l) (.int k) d :=
  ⟨⟨"list", _, slot_list_getitem.lookup, fun g s v hp r => by obtain ⟨a, vs, rfl, hl, _⟩ := r.isList hp.cov; exact hl.typeIs⟩, P2.itemLst h0 h1 hx⟩
theorem Gt.loc {a : Addr} {l : List D} {k : Int} {d : D} (hm : Lsty μ a l) (h0 : 0 ≤ k) (h1 : k < 2 ^ 63) (hx : l[k.toNat]? = some d) : Gt G μ (.loc a) (.int k) d :=
  ⟨⟨"list", _, slot_list_getitem.lookup, fun g s v hp r => by obtain ⟨vs, hl, _⟩ := hp.isList hm; obtain rfl := r.loc_inv; exact hl.typeIs⟩, P2.itemLoc hm h0 h1 hx⟩
theorem Gt.tup {l : List D} {k : Int} {d : D} (h0 : 0 ≤ k) (h1 : k < 2 ^ 63) (hx : l[k.toNat]? = some d) : Gt G μ (.tup l) (.int k) d :=
  ⟨⟨"tuple", _, slot_tuple_getitem.lookup, fun g s v hp r => by obtain ⟨a, vs, rfl, hl, _⟩ := r.isTup hp.cov; exact hl.typeIs⟩, P2.itemTup h0 h1 hx⟩
theorem Gt.str {x : Str} {k : Int} {c : Nat} (h0 : 0 ≤ k) (h1 : k < 2 ^ 63) (hx : (seqIndex? k x.length).bind (x.cps[·]?) = some c) : Gt G μ (.str x) (.int k) (.str ⟨#[c]⟩) := by
  refine ⟨⟨"str", _, F.slot_str_getitem.lookup, fun g s v hp r => by obtain ⟨_, rfl⟩ := r.str_inv; exact PySem.typeIs_str s x _⟩, fun A s g v1 v2 hh hu hp r1 r2 => ?_⟩
  obtain ⟨_, rfl⟩ := r1.str_inv; obtain ⟨_, rfl⟩ := r2.int_inv
  exact PyProof.Rows.getItem_str (by simp; omega) hx ⟨g, hp.tok _, Step.refl .., .str _ _⟩

/-! cuts -/
/-- the part of a cut: an int or none -/
abbrev WO (G : Gl) (C : Cx) (ρ : Rho) (μ : MU) (e : Option Expr) (Φ : D → MU → Prop) : Prop := TT Rel G C ρ μ (evalPart e C.env) Φ
theorem WO.absent (h : Φ .none μ) : WO G C ρ μ none Φ := fun s g hp fm => wpAny_pure ⟨g, μ, _, hp, Step.refl .., .none, h⟩
theorem WO.there {e} (h : WE G C ρ μ e Φ) : WO G C ρ μ (some e) Φ := h
def isPart : D → Option Int → Prop
  | .none, .none => True
  | .int i, .some j => i = j
  | _, _ => False
theorem isPart.of {g : PH} {v : Value} {d : D} {o : Option Int} (r : Rel g v d) (h : isPart d o) : IsPart v o := by
  cases d <;> cases o <;> simp only [isPart] at h
  · obtain rfl := r.none_inv; exact .none
  · subst h; obtain ⟨_, rfl⟩ := r.int_inv; exact .int _ _
/-- what a cut gives -/
def cut (l : List D) (lo hi : Option Int) : List D := (slicePickD l lo hi)
where slicePickD (l : List D) (lo hi : Option Int) : List D := ((sliceRange (sliceBounds lo hi none l.length).1 (sliceBounds lo hi none l.length).2.1 (sliceBounds lo hi none l.length).2.2).filterMap (l[·]?))

theorem RelL.pick {g : PH} {vs : List Value} {ds : List D} (h : RelL g vs ds) : ∀ is : List Nat, RelL g (is.filterMap (vs.toArray[·]?)) (is.filterMap (ds[·]?))
  | [] => .nil
  | i :: r => by
    have ih := h.pick r
    simp only [List.filterMap_cons, List.getElem?_toArray] at ih ⊢
    cases hd : ds[i]? with
    | none =>
      have : vs[i]? = none := by
        have := List.getElem?_eq_none_iff.mp hd
        exact List.getElem?_eq_none_iff.mpr (by rw [h.1]; exact this)
      rw [this]; exact ih
    | some d =>
      obtain ⟨v, hv, hr⟩ := h.get hd
      rw [hv]; exact .cons hr ih
theorem RelL.slice {g : PH} {vs : List Value} {ds : List D} (h : RelL g vs ds) (lo hi : Option Int) : ∃ us, slicePick vs.toArray lo hi none = List.toArray us ∧ RelL g us (cut ds lo hi) := by
  unfold slicePick cut cut.slicePickD
  have e : vs.toArray.size = ds.length := by simpa using h.1
  rw [e]
  exact ⟨_, rfl, h.pick _⟩
theorem WE.slice {value lower upper p} (h : WE G C ρ μ value fun d1 μ1 => WO G C ρ μ1 lower fun d2 μ2 => WO G C ρ μ2 upper fun d3 μ3 =>
      ∃ l lo hi, (d1 = .lst l ∨ d1 = .scr l) ∧ l.length ≤ sizeLine ∧ isPart d2 lo ∧ isPart d3 hi ∧ Φ (.lst (cut l lo hi)) μ3) : WE G C ρ μ (.Subscript value (.Slice lower upper none p) pos) Φ := fun s g hp fm => by
  refine Subscript_ (wpAny_mono (h s g hp fm) ?_ fun _ _ x => x)
  rintro v1 s1 ⟨g1, μ1, d1, hp1, st1, r1, h1⟩
  refine wpAny_Slice (wpAny_mono (h1 s1 g1 hp1 (fm.step st1)) ?_ fun _ _ x => x)
  rintro v2 s2 ⟨g2, μ2, d2, hp2, st2, r2, h2⟩
  refine wpAny_mono (h2 s2 g2 hp2 (fm.step (st1.trans st2))) ?_ fun _ _ x => x
  rintro v3 s3 ⟨g3, μ3, d3, hp3, st3, r3, l, lo, hi, e1, hz, p2, p3, φ⟩
  rw [evalPart_none]
  refine wpAny_pure ?_
  have r1' := r1.mono (st2.sub.trans st3.sub)
  obtain ⟨a, vs, rfl, hl, hr⟩ : ∃ a vs, v1 = .ref a ∧ s3.heap.IsList a (List.toArray vs) ∧ RelL g3 vs l := by
    rcases e1 with rfl | rfl
    · exact r1'.isList hp3.cov
    · exact r1'.isScr hp3.cov
  obtain ⟨us, eu, ru⟩ := hr.slice lo hi
  have hp4 := hp3.push (o := { cls := .type "slice", data := .fields #[v2, v3, .none] }) rfl
  have st4 := Step.push hp3 { cls := .type "slice", data := .fields #[v2, v3, .none] }
  refine tail_any (hl.push _).typeIs slot_list_getitem.lookup (wpAny_getItem_list_slice (hl.push _) (Heap.IsSliceOf.new ..) (isPart.of r2 p2) (isPart.of r3 p3) .none (by simp) ?_ (by simpa [hr.1] using hz)) rfl
  refine ⟨_, μ3, _, hp4.push _ rfl, ((st1.trans (st2.trans st3)).trans st4).trans (Step.push hp4 _), ?_, φ⟩
  exact .mkLst (n := 0) (by rw [PH.set_self, eu]) (ru.mono (st4.sub.trans (Step.push hp4 _).sub))

/-- a tuple's first places -/
theorem adjust_upto (b n : Nat) (hb : b ≤ n) : Builtin.Slice.sliceAdjust none (some (b : Int)) 1 (n : Int) = (0, (b : Int)) := by
  unfold Builtin.Slice.sliceAdjust
  have h1 : ¬ ((1 : Int) < 0) := by omega
  have h2 : ¬ ((b : Int) < 0) := by omega
  simp only [h1, h2, if_false]
  congr 1
  omega
theorem places_upto (b : Nat) : Builtin.Slice.slicePlaces 0 (b : Int) 1 = b := by
  unfold Builtin.Slice.slicePlaces
  simp only [show (1 : Int) > 0 by decide, if_true, Int.ediv_one]
  split <;> omega
theorem pick_upto (xs : List Value) (b : Nat) : ((List.range b).filterMap fun (k : Nat) => xs.toArray[((0 : Int) + (k : Int) * 1).toNat]?) = xs.take b := by
  have e : (fun (k : Nat) => xs.toArray[((0 : Int) + (k : Int) * 1).toNat]?) = fun k => xs.toArray[k]? := by
    funext k
    have : ((0 : Int) + (k : Int) * 1).toNat = k := by omega
    rw [this]
  rw [e]
  have := pick_run xs.toArray 0 b
  simpa using this
theorem P2.cutTup {A : Around} {s : Shared} {g : PH} {v1 : Value} {sl : Addr} {l : List D} {b : Nat} {u : Tok} (hp : Hp G μ g s) (r1 : Rel g v1 (.tup l)) (hs : s.heap.IsSliceOf sl .none (.int b u) .none) (hb : b < l.length) (hz : b ≤ sizeLine) :
    wpAny G.M A (getItem v1 (.ref sl)) (VPost G μ g s.heap (.tup (l.take b))) (fun _ _ => False) s := by
  obtain ⟨a, vs, rfl, ht, hr⟩ := r1.isTup hp.cov
  obtain ⟨os, hos, hcs, hds⟩ := id hs
  have hTs : s.TypeIs (.ref sl) "slice" := ⟨os, hos, hcs⟩
  refine getItem_slot ht.typeIs (by decide) slot_tuple_getitem (wpAny_call_entry slot_tuple_getitem ht.typeIs entry_tuple_getitem ?_ (args_tuple_getitem _ _))
  show wpAny _ _ (Builtin.Tuple.tupleItemsOf (.ref a) >>= _) _ _ s
  refine wpAny_bind (tupleItemsOf_ ht ?_)
  refine wpAny_bind (wpAny_typeOf hTs ?_)
  rw [if_pos (by decide)]
  have hlen : vs.toArray.size = l.length := by simpa using hr.1
  have ap : ∀ (Q : Int × Int × Nat → Shared → Prop) (E : Value → Shared → Prop), Q ((0 : Int), 1, b) s → wpAny G.M A.in1 (Builtin.Slice.sliceApplied (.ref sl) (pure (vs.toArray.size : Int))) Q E s := fun Q E h => by
    unfold Builtin.Slice.sliceApplied Builtin.Slice.sliceFields
    refine wpAny_bind (wpAny_bind (wpAny_field hos hds (x := .none) rfl (wpAny_bind (wpAny_field hos hds (x := .int b u) rfl (wpAny_bind (wpAny_field hos hds (x := .none) rfl (wpAny_pure ?_)))))))
    refine wpAny_bind (slicePart_none ?_)
    show wpAny _ _ (if ((1 : Int) == 0) = true then _ else _) _ _ s
    rw [if_neg (by decide)]
    refine wpAny_bind (slicePart_none (wpAny_bind (slicePart_int (wpAny_bind (wpAny_pure ?_)))))
    show wpAny _ _ (match Builtin.Slice.sliceAdjust none (some (b : Int)) 1 (vs.toArray.size : Int) with | (lo, hi) => pure (lo, (1 : Int), Builtin.Slice.slicePlaces lo hi 1)) _ _ s
    rw [adjust_upto b _ (by omega)]
    show wpAny _ _ (pure ((0 : Int), (1 : Int), Builtin.Slice.slicePlaces 0 (b : Int) 1)) _ _ s
    rw [places_upto b]
    exact wpAny_pure h
  refine wpAny_bind (ap _ _ ?_)
  have hno : ¬ (((0 : Int) == 0 && (1 : Int) == 1 && b == vs.toArray.size) = true) := by
    have : (b == vs.toArray.size) = false := by rw [beq_eq_false_iff_ne]; omega
    rw [this]; simp
  show wpAny _ _ (if ((0 : Int) == 0 && (1 : Int) == 1 && b == vs.toArray.size) = true then _ else _) _ _ s
  rw [if_neg hno, pick_upto vs b]
  have fin : VPost G μ g s.heap (.tup (l.take b)) (.ref s.heap.objs.size) { s with heap := s.heap.push { cls := .type "tuple", data := .seq (vs.take b).toArray } } :=
    ⟨_, hp.push _ rfl, Step.push hp _, .mkTup (n := 0) (PH.set_self _ _ _) rfl rfl ((hr.take b).mono (Step.push hp _).sub)⟩
  have hsz : sizeOk (.seq (vs.take b).toArray) := by
    show (vs.take b).toArray.size ≤ sizeLine
    rw [List.size_toArray, List.length_take]
    omega
  first
    | exact wpAny_bind (m := Builtin.Tuple.tupleExact _) (wpAny_newObj_type (wpAny_pure ⟨_, rfl, fin⟩) hsz)
    | exact wpAny_bind (wpAny_bind (m := Builtin.Tuple.tupleExact _) (wpAny_newObj_type (wpAny_pure (wpAny_pure ⟨_, rfl, fin⟩)) hsz))
    | exact wpAny_bind (wpAny_bind (m := Builtin.Tuple.tupleExact _) (wpAny_newObj_type (wpAny_pure ⟨_, rfl, fin⟩) hsz))
theorem WE.sliceTup {value upper p} (h : WE G C ρ μ value fun d1 μ1 => WE G C ρ μ1 upper fun d3 μ3 =>
      ∃ l b, d1 = .tup l ∧ d3 = .int (b : Nat) ∧ b < l.length ∧ b ≤ sizeLine ∧ Φ (.tup (l.take b)) μ3) : WE G C ρ μ (.Subscript value (.Slice none (some upper) none p) pos) Φ := fun s g hp fm => by
  refine Subscript_ (wpAny_mono (h s g hp fm) ?_ fun _ _ x => x)
  rintro v1 s1 ⟨g1, μ1, d1, hp1, st1, r1, h1⟩
  refine wpAny_Slice ?_
  rw [evalPart_none]
  refine wpAny_pure ?_
  rw [evalPart_some]
  refine wpAny_mono (h1 s1 g1 hp1 (fm.step st1)) ?_ fun _ _ x => x
  rintro v3 s3 ⟨g3, μ3, d3, hp3, st3, r3, l, b, rfl, rfl, hb, hz, φ⟩
  refine wpAny_pure ?_
  obtain ⟨u, rfl⟩ := r3.int_inv
  skip
  have hp4 := hp3.push (o := { cls := .type "slice", data := .fields #[.none, .int b u, .none] }) rfl
  have st4 := Step.push hp3 { cls := .type "slice", data := .fields #[.none, .int b u, .none] }
  have r1' := (r1.mono st3.sub).mono st4.sub
  have hT : ({ s3 with heap := s3.heap.push { cls := .type "slice", data := .fields #[.none, .int b u, .none] } } : Shared).TypeIs v1 "tuple" := by
    obtain ⟨a, vs, rfl, ht, _⟩ := r1'.isTup hp4.cov
    exact ht.typeIs
  refine tail_any hT slot_tuple_getitem.lookup (wpAny_mono (P2.cutTup hp4 r1' (Heap.IsSliceOf.new ..) hb hz) ?_ fun _ _ x => x) rfl
  rintro v s5 ⟨g5, hp5, st5, r5⟩
  exact ⟨g5, μ3, _, hp5, ((st1.trans st3).trans st4).trans st5, r5, φ⟩

/-! built-in functions -/
/-- a call of a built-in by its name, one or two arguments -/
theorem WE.built {x : Str} {id : String} {e rest p} (hx : C.env.kindOf x = some .globalImplicit) (hn : nsIn (topT.heap_1 G.w.params) mainGlobals x = some none) (hv : bootBuiltins x = some (.builtin id)) (hn' : x ≠ "__name__")
    (h : WL G C ρ μ pos (e :: rest) fun ds μ1 => ∃ d, (∀ (A : Around) (s : Shared) (g : PH) (vs : List Value), A.handled = none → A.units + 100 < cLine → Hp G μ1 g s → RelL g vs ds →
      wpAny G.M A (call (.builtin id) vs) (VPost G μ1 g s.heap d) (fun _ _ => False) s) ∧ Φ d μ1)
    (he : starEach (e :: rest) C.env = (false, eval e C.env) :: starEach rest C.env := by rfl) (hpl : (backTo pos (starEach rest C.env)).any (·.1) = false := by rfl)
    (hd : (x == ("__debug__" : Str)) = false := by decide) :
    WE G C ρ μ (.Call (.Name x p) (e :: rest) [] pos) Φ := fun s g hp fm => by
  refine Call_Name rfl (name_built hp hx hn hv hn' (callWith_builtin1 (wpAny_mono (h s g hp fm) ?_ fun _ _ x => x) he hpl) hd)
  rintro vs s1 ⟨g1, μ1, ds, hp1, st1, r1, d, h2, φ⟩
  refine wpAny_mono (h2 C.A s1 g1 vs C.hh C.hu' hp1 r1) ?_ fun _ _ x => x
  rintro v s2 ⟨g2, hp2, st2, r2⟩
  exact ⟨g2, μ1, d, hp2, st1.trans st2, r2, φ⟩
theorem WE.builtT {x : Str} {id : String} {e rest p} (hx : C.env.kindOf x = some .globalImplicit) (hn : nsIn (topT.heap_1 G.w.params) mainGlobals x = some none) (hv : bootBuiltins x = some (.type id)) (hn' : x ≠ "__name__")
    (h : WL G C ρ μ pos (e :: rest) fun ds μ1 => ∃ d, (∀ (A : Around) (s : Shared) (g : PH) (vs : List Value), A.handled = none → A.units + 100 < cLine → Hp G μ1 g s → RelL g vs ds →
      wpAny G.M A (call (.type id) vs) (VPost G μ1 g s.heap d) (fun _ _ => False) s) ∧ Φ d μ1)
    (he : starEach (e :: rest) C.env = (false, eval e C.env) :: starEach rest C.env := by rfl) (hpl : (backTo pos (starEach rest C.env)).any (·.1) = false := by rfl)
    (hd : (x == ("__debug__" : Str)) = false := by decide) :
    WE G C ρ μ (.Call (.Name x p) (e :: rest) [] pos) Φ := fun s g hp fm => by
  refine Call_Name rfl (name_built hp hx hn hv hn' (callWith_type1 (wpAny_mono (h s g hp fm) ?_ fun _ _ x => x) he hpl) hd)
  rintro vs s1 ⟨g1, μ1, ds, hp1, st1, r1, d, h2, φ⟩
  refine wpAny_mono (h2 C.A s1 g1 vs C.hh C.hu' hp1 r1) ?_ fun _ _ x => x
  rintro v s2 ⟨g2, hp2, st2, r2⟩
  exact ⟨g2, μ1, d, hp2, st1.trans st2, r2, φ⟩
abbrev Bt (G : Gl) (μ : MU) (f : Value) (ds : List D) (d : D) : Prop := ∀ (A : Around) (s : Shared) (g : PH) (vs : List Value), A.handled = none → A.units + 100 < cLine → Hp G μ g s → RelL g vs ds →
      wpAny G.M A (call f vs) (VPost G μ g s.heap d) (fun _ _ => False) s
theorem RelL.one {g : PH} {vs d} (h : RelL g vs [d]) : ∃ v, vs = [v] ∧ Rel g v d := by
  obtain ⟨v, r, rfl, h1, h2⟩ := h.cons_inv
  rw [h2.nil_inv]; exact ⟨v, rfl, h1⟩
theorem RelL.two {g : PH} {vs d e} (h : RelL g vs [d, e]) : ∃ v u, vs = [v, u] ∧ Rel g v d ∧ Rel g u e := by
  obtain ⟨v, r, rfl, h1, h2⟩ := h.cons_inv
  obtain ⟨u, rfl, h3⟩ := h2.one
  exact ⟨v, u, rfl, h1, h3⟩
theorem Bt.len {l : List D} (hz : l.length < 2 ^ 62) : Bt G μ (.builtin "len") [.lst l] (.int l.length) := fun A s g vs hh hu hp r => by
  obtain ⟨v, rfl, r1⟩ := r.one
  obtain ⟨a, us, rfl, hl, hr⟩ := r1.isList hp.cov
  refine PyProof.Rows.len_list hl (by simp [hr.1]; omega) ⟨g, hp.tok _, Step.refl .., ?_⟩
  have : us.toArray.size = l.length := by simpa using hr.1
  rw [this]; exact .int _ _
theorem Bt.lenS {l : List D} (hz : l.length < 2 ^ 62) : Bt G μ (.builtin "len") [.scr l] (.int l.length) := fun A s g vs hh hu hp r => by
  obtain ⟨v, rfl, r1⟩ := r.one
  obtain ⟨a, us, rfl, hl, hr⟩ := r1.isScr hp.cov
  refine PyProof.Rows.len_list hl (by simp [hr.1]; omega) ⟨g, hp.tok _, Step.refl .., ?_⟩
  have : us.toArray.size = l.length := by simpa using hr.1
  rw [this]; exact .int _ _
theorem Bt.abs {i : Int} : Bt G μ (.builtin "abs") [.int i] (.int (if i < 0 then -i else i)) := fun A s g vs hh hu hp r => by
  obtain ⟨v, rfl, r1⟩ := r.one
  obtain ⟨_, rfl⟩ := r1.int_inv
  exact call_abs_int fun u tk => ⟨g, hp.tok _, Step.refl .., .int _ _⟩
theorem Bt.min {a b : Int} : Bt G μ (.builtin "min") [.int a, .int b] (.int (if b < a then b else a)) := fun A s g vs hh hu hp r => by
  obtain ⟨v, u, rfl, r1, r2⟩ := r.two
  obtain ⟨_, rfl⟩ := r1.int_inv; obtain ⟨_, rfl⟩ := r2.int_inv
  refine min_two_ints hh fun h' tk hk => ⟨g, hp.junk hk _, Step.junk hk, ?_⟩
  split
  · exact .int _ _
  · exact .int _ _
theorem Bt.int {b : Bool} : Bt G μ (.type "int") [.bool b] (.int (if b then 1 else 0)) := fun A s g vs hh hu hp r => by
  obtain ⟨v, rfl, r1⟩ := r.one
  obtain rfl := r1.bool_inv
  exact call_int_bool ⟨g, hp.tok _, Step.refl .., .int _ _⟩
theorem Bt.range1 {n : Int} : Bt G μ (.type "range") [.int n] (.rng 0 n) := fun A s g vs hh hu hp r => by
  obtain ⟨v, rfl, r1⟩ := r.one
  obtain ⟨_, rfl⟩ := r1.int_inv
  exact call_range_1 ⟨_, (hp.push _ rfl).tok _, Step.push hp _, .rng (PH.set_self _ _ _)⟩
theorem Bt.range2 {a b : Int} : Bt G μ (.type "range") [.int a, .int b] (.rng a b) := fun A s g vs hh hu hp r => by
  obtain ⟨v, u, rfl, r1, r2⟩ := r.two
  obtain ⟨_, rfl⟩ := r1.int_inv; obtain ⟨_, rfl⟩ := r2.int_inv
  exact call_range_2 ⟨_, (hp.push _ rfl).tok _, Step.push hp _, .rng (PH.set_self _ _ _)⟩
end
set_option maxHeartbeats 400000
inductive FD where
  | next | brk | cont | ret (d : D)
inductive FRel (g : PH) : Flow → FD → Prop
  | next : FRel g .next .next
  | brk : FRel g .brk .brk
  | cont : FRel g .cont .cont
  | ret {v d} : Rel g v d → FRel g (.ret v) (.ret d)

inductive FPost (G : Gl) (C : Cx) (μ : MU) (g : PH) (h : Heap) (Φ : FD → Rho → MU → Prop) (f : Flow) (s' : Shared) : Prop
  | mk (g' : PH) (ρ' : Rho) (μ' : MU) (φ : FD) (hp : Hp G μ' g' s') (fm : Fm C ρ' μ' g' s'.heap) (st : Step C.Own μ g h μ' g' s'.heap) (fr : FRel g' f φ) (hφ : Φ φ ρ' μ') : FPost G C μ g h Φ f s'
inductive UPost (G : Gl) (C : Cx) (μ : MU) (g : PH) (h : Heap) (Φ : Rho → MU → Prop) (s' : Shared) : Prop
  | mk (g' : PH) (ρ' : Rho) (μ' : MU) (hp : Hp G μ' g' s') (fm : Fm C ρ' μ' g' s'.heap) (st : Step C.Own μ g h μ' g' s'.heap) (hφ : Φ ρ' μ') : UPost G C μ g h Φ s'
def TF (G : Gl) (C : Cx) (ρ : Rho) (μ : MU) (t : Sem Flow) (Φ : FD → Rho → MU → Prop) : Prop :=
  ∀ s g, Hp G μ g s → Fm C ρ μ g s.heap → wpAny G.M C.A t (FPost G C μ g s.heap Φ) (fun _ _ => False) s
/-- a tree that stores names -/
def TU (G : Gl) (C : Cx) (ρ : Rho) (μ : MU) (t : Sem Unit) (Φ : Rho → MU → Prop) : Prop :=
  ∀ s g, Hp G μ g s → Fm C ρ μ g s.heap → wpAny G.M C.A t (fun _ s' => UPost G C μ g s.heap Φ s') (fun _ _ => False) s
abbrev WS (G : Gl) (C : Cx) (ρ : Rho) (μ : MU) (ss : List Stmt) (Φ : FD → Rho → MU → Prop) : Prop := TF G C ρ μ (execs ss C.env) Φ
abbrev WX (G : Gl) (C : Cx) (ρ : Rho) (μ : MU) (st : Stmt) (Φ : FD → Rho → MU → Prop) : Prop := TF G C ρ μ (exec st C.env) Φ

theorem Fm.live {C ρ μ g h} (F : Fm C ρ μ g h) : ∀ x, C.Own x → h.get? x ≠ none := fun x hx => by
  obtain ⟨_, _, o, e⟩ := F.own x hx; rw [e]; simp
theorem Step.transF {C : Cx} {μ g h μ' g' h' μ'' g'' h'' ρ} (a : Step C.Own μ g h μ' g' h') (b : Step C.Own μ' g' h' μ'' g'' h'') (F : Fm C ρ μ' g' h') : Step C.Own μ g h μ'' g'' h'' :=
  a.trans b fun x hx _ _ => F.live x hx
theorem Step.wk {C : Cx} {μ g h μ' g' h'} (a : Step no μ g h μ' g' h') : Step C.Own μ g h μ' g' h' := a.weak fun _ h => h.elim

section
variable {G : Gl} {C : Cx} {ρ : Rho} {μ : MU} {pos : Pos} {Φ : FD → Rho → MU → Prop}

theorem TF.mono {t} {Ψ : FD → Rho → MU → Prop} (h : TF G C ρ μ t Φ) (k : ∀ f ρ' μ', Φ f ρ' μ' → Ψ f ρ' μ') : TF G C ρ μ t Ψ :=
  fun s g hp fm => wpAny_mono (h s g hp fm) (fun _ _ ⟨g', ρ', μ', φ, a, b, c, e, f⟩ => ⟨g', ρ', μ', φ, a, b, c, e, k _ _ _ f⟩) fun _ _ x => x
/-- fewer names are remembered -/
theorem TF.weak {t} {ρ' : Rho} (h : TF G C ρ' μ t Φ) (hw : ∀ x d, ρ'.lookup x = some d → ρ.lookup x = some d) : TF G C ρ μ t Φ :=
  fun s g hp fm => h s g hp (fm.weak hw)
theorem WS.nil (h : Φ .next ρ μ) : WS G C ρ μ [] Φ := fun s g hp fm => wpAny_execs_nil ⟨g, ρ, μ, .next, hp, fm, Step.refl .., .next, h⟩
theorem WS.cons {st rest} (h : WX G C ρ μ st fun f ρ1 μ1 => match f with | .next => WS G C ρ1 μ1 rest Φ | f => Φ f ρ1 μ1) : WS G C ρ μ (st :: rest) Φ := fun s g hp fm => by
  refine wpAny_execs_cons (wpAny_mono (h s g hp fm) ?_ fun _ _ x => x)
  rintro f s1 ⟨g1, ρ1, μ1, φ, hp1, fm1, st1, fr, h1⟩
  cases fr with
  | next =>
    refine wpAny_mono (h1 s1 g1 hp1 fm1) ?_ fun _ _ x => x
    rintro f2 s2 ⟨g2, ρ2, μ2, φ2, hp2, fm2, st2, fr2, h2⟩
    exact ⟨g2, ρ2, μ2, φ2, hp2, fm2, st1.transF st2 fm1, fr2, h2⟩
  | brk => exact ⟨g1, ρ1, μ1, _, hp1, fm1, st1, .brk, h1⟩
  | cont => exact ⟨g1, ρ1, μ1, _, hp1, fm1, st1, .cont, h1⟩
  | ret r => exact ⟨g1, ρ1, μ1, _, hp1, fm1, st1, .ret r, h1⟩
theorem WX.ret {e} (h : WE G C ρ μ e fun d μ1 => Φ (.ret d) ρ μ1) : WX G C ρ μ (.Return (some e) pos) Φ := fun s g hp fm => by
  refine wpAny_Return_some (wpAny_mono (h s g hp fm) ?_ fun _ _ x => x)
  rintro v s1 ⟨g1, μ1, d, hp1, st1, r, φ⟩
  exact ⟨g1, ρ, μ1, _, hp1, fm.step st1, st1.wk, .ret r, φ⟩
theorem WX.ite {t a b} (h : WB G C ρ μ t fun c μ1 => if c = true then WS G C ρ μ1 a Φ else WS G C ρ μ1 b Φ) : WX G C ρ μ (.If t a b pos) Φ := fun s g hp fm => by
  refine wpAny_If (wpAny_mono (h s g hp fm) ?_ fun _ _ x => x)
  rintro c s1 ⟨g1, μ1, d, hp1, st1, rfl, φ⟩
  have fm1 := fm.step st1
  cases c <;> simp only [Bool.false_eq_true, if_true, if_false] at φ ⊢ <;>
  · refine wpAny_mono (φ s1 g1 hp1 fm1) ?_ fun _ _ x => x
    rintro f2 s2 ⟨g2, ρ2, μ2, φ2, hp2, fm2, st2, fr2, h2⟩
    exact ⟨g2, ρ2, μ2, φ2, hp2, fm2, (st1.wk.trans st2 fun x hx _ _ => fm1.live x hx), fr2, h2⟩

/-! stores of names -/
/-- only an address of the frame's own has turned -/
theorem Hp.own {s g a} (hp : Hp G μ g s) {h' : Heap} (hg : g a = none) (hm : μ a = none) (hs : Heap.SameBut a s.heap h') (t : Nat) : Hp G μ g { s with heap := h', toks := t } := by
  refine ⟨hp.bas, fun b o e => (hs.2 b ?_).trans (hp.cov b o e), fun b mo e => ?_, hp.gens, hp.os⟩
  · rintro rfl; rw [hg] at e; cases e
  · obtain ⟨h1, o, h2, h3⟩ := hp.mt b mo e
    exact ⟨h1, o, (hs.2 b (by rintro rfl; rw [hm] at e; cases e)).trans h2, h3⟩
theorem Step.own {X : Addr → Prop} {g : PH} {h h' : Heap} {a : Addr} (hX : X a) (hs : Heap.SameBut a h h') : Step X μ g h μ g h' :=
  ⟨Sub.refl _, fun b o e _ hb => (hs.2 b (by rintro rfl; exact hb hX)).trans e, fun _ e => .inl e, fun _ e => .inl e⟩
theorem lookup_cons_of {x y : Str} {d d' : D} (h : ((x, d) :: ρ).lookup y = some d') : (y = x ∧ d' = d) ∨ (y ≠ x ∧ ρ.lookup y = some d') := by
  rw [List.lookup_cons] at h
  by_cases e : y = x
  · subst e; simp at h; exact .inl ⟨rfl, h.symm⟩
  · have : (y == x) = false := by simpa using e
    rw [this] at h; exact .inr ⟨e, h⟩
theorem TU.store_local {x : Str} {v : Value} {d : D} {Φ : Rho → MU → Prop} {s g} (hk : C.env.kindOf x = some .local) (hc : C.env.cells.lookup x = none) (hp : Hp G μ g s) (fm : Fm C ρ μ g s.heap) (r : Rel g v d) (h : Φ ((x, d) :: ρ) μ) :
    wpAny G.M C.A (storeName C.env x v) (fun _ s' => UPost G C μ g s.heap Φ s') (fun _ _ => False) s := by
  obtain ⟨m, hn, hm⟩ := fm.ns
  obtain ⟨hg, hμ, oL, hL⟩ := fm.own _ (.inl rfl)
  refine wpAny_storeName_local hk hn (fun h' hn' hs => ?_) (by rw [C.hk]; rfl)
  refine ⟨g, _, μ, hp.own hg hμ hs _, ⟨⟨_, hn', fun y e ky he => ?_⟩, fun y c hyc => ?_, fun a ha => ?_⟩, Step.own (.inl rfl) hs, h⟩
  · rcases lookup_cons_of he with ⟨rfl, rfl⟩ | ⟨q, he⟩
    · exact ⟨v, by simp, r⟩
    · obtain ⟨u, e1, e2⟩ := hm y e ky he
      exact ⟨u, by simp [q, e1], e2⟩
  · obtain ⟨o, cv, ho, hd, hr⟩ := fm.cel y c hyc
    have hca : c ≠ C.env.locals := by rintro rfl; exact C.hcl (List.mem_map_of_mem (f := (·.2)) (mem_of_lookup hyc))
    refine ⟨o, cv, (hs.2 c hca).trans ho, hd, fun e he => ?_⟩
    rcases lookup_cons_of he with ⟨rfl, rfl⟩ | ⟨q, he⟩
    · rw [hc] at hyc; cases hyc
    · exact hr e he
  · obtain ⟨h1, h2, o, ho⟩ := fm.own a ha
    refine ⟨h1, h2, ?_⟩
    by_cases q : a = C.env.locals
    · subst q; obtain ⟨o', _, _, ho', _⟩ := hn'; exact ⟨o', ho'⟩
    · exact ⟨o, (hs.2 a q).trans ho⟩
theorem TU.store_cell {x : Str} {c : Addr} {v : Value} {d : D} {Φ : Rho → MU → Prop} {s g} (hk : C.env.kindOf x = some .cell) (hc : C.env.cells.lookup x = some c) (hp : Hp G μ g s) (fm : Fm C ρ μ g s.heap) (r : Rel g v d) (h : Φ ((x, d) :: ρ) μ) :
    wpAny G.M C.A (storeName C.env x v) (fun _ s' => UPost G C μ g s.heap Φ s') (fun _ _ => False) s := by
  obtain ⟨o, cv, ho, hd, hr⟩ := fm.cel x c hc
  have hmem : c ∈ C.env.cells.map (·.2) := List.mem_map_of_mem (f := (·.2)) (mem_of_lookup hc)
  obtain ⟨hg, hμ, _⟩ := fm.own c (.inr hmem)
  have hcL : C.env.locals ≠ c := by rintro q; exact C.hcl (q ▸ hmem)
  refine wpAny_storeName_cell C.hk hk hc ⟨o, ho, hd⟩ (fun h' hn' hs => ?_)
  refine ⟨g, _, μ, hp.own hg hμ hs s.toks, ⟨?_, fun y c' hyc => ?_, fun a ha => ?_⟩, Step.own (.inr hmem) hs, h⟩
  · obtain ⟨m, hn, hm⟩ := fm.ns
    refine ⟨m, hn.sameBut hs hcL, fun y e ky he => ?_⟩
    rcases lookup_cons_of he with ⟨rfl, rfl⟩ | ⟨q, he⟩
    · rw [hk] at ky; cases ky
    · exact hm y e ky he
  · by_cases q : y = x
    · subst q
      rw [hc] at hyc; cases hyc
      obtain ⟨o', ho', hd'⟩ := hn'
      refine ⟨o', _, ho', hd', fun e he => ?_⟩
      rcases lookup_cons_of he with ⟨_, rfl⟩ | ⟨q, he⟩
      · exact ⟨v, rfl, r⟩
      · exact absurd rfl q
    · obtain ⟨o', cv', ho', hd', hr'⟩ := fm.cel y c' hyc
      have hne : c' ≠ c := by
        rintro rfl
        have hp : C.env.cells.Pairwise fun a b => a.2 ≠ b.2 := List.pairwise_map.mp C.hcn
        exact q (name_of_addr hp (mem_of_lookup hyc) (mem_of_lookup hc))
      refine ⟨o', cv', (hs.2 c' hne).trans ho', hd', fun e he => ?_⟩
      rcases lookup_cons_of he with ⟨rfl, rfl⟩ | ⟨_, he⟩
      · exact absurd rfl q
      · exact hr' e he
  · obtain ⟨h1, h2, o', ho'⟩ := fm.own a ha
    refine ⟨h1, h2, ?_⟩
    by_cases q : a = c
    · subst q; obtain ⟨o', ho', _⟩ := hn'; exact ⟨o', ho'⟩
    · exact ⟨o', (hs.2 a q).trans ho'⟩
/-- where a name of the frame stands -/
def Cx.Has (C : Cx) (x : Str) : Prop := (C.env.kindOf x = some .local ∧ C.env.cells.lookup x = none) ∨ (C.env.kindOf x = some .cell ∧ ∃ c, C.env.cells.lookup x = some c)
theorem TU.store {x : Str} {v : Value} {d : D} {Φ : Rho → MU → Prop} {s g} (hx : C.Has x) (hp : Hp G μ g s) (fm : Fm C ρ μ g s.heap) (r : Rel g v d) (h : Φ ((x, d) :: ρ) μ) :
    wpAny G.M C.A (storeName C.env x v) (fun _ s' => UPost G C μ g s.heap Φ s') (fun _ _ => False) s := by
  rcases hx with ⟨a, b⟩ | ⟨a, c, b⟩
  · exact TU.store_local a b hp fm r h
  · exact TU.store_cell a b hp fm r h
/-- a name of the frame, read -/
theorem WE.name {x : Str} {d : D} {Φ : D → MU → Prop} (hx : C.Has x) (hr : ρ.lookup x = some d) (h : Φ d μ) (hd : (x == ("__debug__" : Str)) = false := by decide) : WE G C ρ μ (.Name x pos) Φ := by
  rcases hx with ⟨a, b⟩ | ⟨a, c, b⟩
  · exact WE.loc a hr h hd
  · exact WE.cell a b hr h hd
theorem WX.assign {x : Str} {pos' e} (hx : C.Has x) (h : WE G C ρ μ e fun d μ1 => Φ .next ((x, d) :: ρ) μ1) (hs : swapsWith e (some (.Name x pos')) pos.line C.env = pure false := by rfl) : WX G C ρ μ (.Assign [.Name x pos'] e pos) Φ := fun s g hp fm => by
  refine wpAny_Assign_Name (wpAny_mono (h s g hp fm) ?_ fun _ _ x => x) hs
  rintro v s1 ⟨g1, μ1, d, hp1, st1, r, φ⟩
  have fm1 := fm.step st1
  refine wpAny_mono (TU.store (Φ := fun ρ' μ' => Φ .next ρ' μ') hx hp1 fm1 r φ) ?_ fun _ _ x => x
  rintro _ s2 ⟨g2, ρ2, μ2, hp2, fm2, st2, h2⟩
  exact ⟨g2, ρ2, μ2, .next, hp2, fm2, st1.wk.trans st2 (fun x hx _ _ => fm1.live x hx), .next, h2⟩
theorem loadName_has {x : Str} {d : D} {Q : Value → Shared → Prop} {s g} (hx : C.Has x) (hr : ρ.lookup x = some d) (fm : Fm C ρ μ g s.heap) (h : ∀ v, Rel g v d → Q v s) : wpAny G.M C.A (loadName C.env x) Q (fun _ _ => False) s := by
  rcases hx with ⟨a, b⟩ | ⟨a, c, b⟩
  · obtain ⟨m, hn, hm⟩ := fm.ns
    obtain ⟨v, e, r⟩ := hm x d a hr
    exact wpAny_loadName_local C.hk a hn e (h v r)
  · obtain ⟨o, cv, ho, hdt, hm⟩ := fm.cel x c b
    obtain ⟨v, e, r⟩ := hm d hr
    subst e
    exact wpAny_loadName_cell C.hk a b ⟨o, ho, hdt⟩ (h v r)
theorem WX.aug {x : Str} {pos' op e d0} (hx : C.Has x) (hr : ρ.lookup x = some d0) (h : WE G C ρ μ e fun d1 μ1 => ∃ d, P2 G μ1 (inplaceOp op) d0 d1 d ∧ Φ .next ((x, d) :: ρ) μ1) : WX G C ρ μ (.AugAssign (.Name x pos') op e pos) Φ := fun s g hp fm => by
  refine wpAny_AugAssign_Name (loadName_has hx hr fm fun v0 r0 => wpAny_mono (h s g hp fm) ?_ fun _ _ x => x)
  rintro v1 s1 ⟨g1, μ1, d1, hp1, st1, r1, d, h1, φ⟩
  have fm1 := fm.step st1
  refine wpAny_mono (h1 C.A s1 g1 v0 v1 C.hh C.hu' hp1 (r0.mono st1.sub) r1) ?_ fun _ _ x => x
  rintro v s2 ⟨g2, hp2, st2, r2⟩
  have fm2 := fm1.step st2
  refine wpAny_mono (TU.store (Φ := fun ρ' μ' => Φ .next ρ' μ') hx hp2 fm2 r2 φ) ?_ fun _ _ x => x
  rintro _ s3 ⟨g3, ρ3, μ3, hp3, fm3, st3, h3⟩
  exact ⟨g3, ρ3, μ3, .next, hp3, fm3, (st1.trans st2).wk.trans st3 (fun x hx _ _ => fm2.live x hx), .next, h3⟩
end
set_option maxHeartbeats 400000
/-- how a call comes back -/
def FnP (G : Gl) (μ : MU) (g : PH) (h : Heap) (Φ : D → MU → Prop) : Result → Shared → Prop := fun r s' => match r with
  | .ok (.ret v) => TPost Rel G μ g h Φ v s'
  | _ => False
/-- a def called on these data: what it gives; n: the frames that it may lay -/
def Fn (G : Gl) (f : Addr) (n : Nat) (ds : List D) (μ : MU) (Φ : D → MU → Prop) : Prop :=
  ∀ (A : Around) (s : Shared) (g : PH) (vs : List Value), A.handled = none → A.depth + n < recursionLimit → A.units + 8 * n + 120 < cLine → Hp G μ g s → RelL g vs ds →
    codeAny G.M A (.call (.ref f) ⟨vs, []⟩) (FnP G μ g s.heap Φ) s

section
variable {G : Gl} {C : Cx} {ρ : Rho} {μ : MU} {pos : Pos} {Φ : D → MU → Prop}

theorem Fn.mono {f n m ds} {Ψ : D → MU → Prop} (h : Fn G f n ds μ Φ) (hn : n ≤ m) (k : ∀ d μ', Φ d μ' → Ψ d μ') : Fn G f m ds μ Ψ :=
  fun A s g vs hh hd hu hp r => codeAny_mono (h A s g vs hh (by omega) (by omega) hp r) fun r s' hr => by
    rcases r with e | (_ | _ | _ | v)
    · exact hr
    · exact hr
    · exact hr
    · exact hr
    · obtain ⟨g', μ', d, a, b, c, e⟩ := hr; exact ⟨g', μ', d, a, b, c, k _ _ e⟩
theorem Fn.use {f n ds} (h : Fn G f n ds μ Φ) {A : Around} {s : Shared} {g : PH} {vs : List Value} (hh : A.handled = none) (hd : A.depth + n < recursionLimit) (hu : A.units + 8 * n + 120 < cLine) (hp : Hp G μ g s) (r : RelL g vs ds) :
    wpAny G.M A (call (.ref f) vs) (TPost Rel G μ g s.heap Φ) (fun _ _ => False) s :=
  wpAny_call (codeAny_mono (h A s g vs hh hd hu hp r) fun r s' hr => by
    rcases r with e | (_ | _ | _ | v)
    · exact hr
    · exact hr
    · exact hr
    · exact hr
    · exact hr)
theorem lookup_zip : ∀ {names : List Str} {vs : List Value} {ds : List D} {g : PH} {x : Str} {d : D}, RelL g vs ds → (names.zip ds).lookup x = some d → ∃ v, (names.zip vs).lookup x = some v ∧ Rel g v d
  | [], _, _, _, _, _, _, h => by simp at h
  | n :: names, vs, [], g, x, d, _, h => by simp at h
  | n :: names, vs, d0 :: ds, g, x, d, r, h => by
    obtain ⟨v0, vr, rfl, r1, r2⟩ := r.cons_inv
    rw [List.zip_cons_cons, List.lookup_cons] at h ⊢
    cases q : x == n with
    | true => rw [q] at h; simp at h; subst h; exact ⟨v0, rfl, r1⟩
    | false => rw [q] at h; exact lookup_zip r2 h
theorem lookup_none_of {names : List Str} {vs : List Value} {x : Str} (h : x ∉ names) : (names.zip vs).lookup x = none := by
  induction names generalizing vs with
  | nil => simp
  | cons n r ih =>
    cases vs with
    | nil => simp
    | cons v vs =>
      rw [List.zip_cons_cons, List.lookup_cons]
      have : (x == n) = false := by
        rw [beq_eq_false_iff_ne]; rintro rfl; exact h List.mem_cons_self
      rw [this]; exact ih fun q => h (List.mem_cons_of_mem _ q)
theorem lookup_rev : ∀ {names : List Str} {vs : List Value} {x : Str}, names.Nodup → (names.zip vs).reverse.lookup x = (names.zip vs).lookup x
  | [], _, _, _ => by simp
  | n :: names, [], x, _ => by simp
  | n :: names, v :: vs, x, h => by
    obtain ⟨h1, h2⟩ := List.nodup_cons.mp h
    rw [List.zip_cons_cons, List.reverse_cons, List.lookup_append, lookup_rev h2, List.lookup_cons, List.lookup_cons, List.lookup_nil]
    cases q : x == n with
    | true =>
      have : x = n := by simpa using q
      subst this
      rw [lookup_none_of h1]; rfl
    | false => cases (names.zip vs).lookup x <;> rfl
theorem bindLC : ∀ {names : List Str} {vs : List Value} {kind : Str → Option NameKind} {x : Str} {v : Value} {m cm : Str → Option Value}, names.Nodup → (names.zip vs).lookup x = some v →
    (kind x = some .local → bindL kind (names.zip vs) m x = some v) ∧ (kind x ≠ some .local → bindC kind (names.zip vs) cm x = some v)
  | [], _, _, _, _, _, _, _, h => by simp at h
  | n :: names, [], _, _, _, _, _, _, h => by simp at h
  | n :: names, u :: vs, kind, x, v, m, cm, hn, h => by
    obtain ⟨h1, h2⟩ := List.nodup_cons.mp hn
    rw [List.zip_cons_cons, List.lookup_cons] at h
    rw [List.zip_cons_cons]
    unfold bindL bindC
    cases q : x == n with
    | true =>
      have : x = n := by simpa using q
      subst this
      rw [q] at h; simp at h; subst h
      have stay : ∀ (l : List (Str × Value)) (m' cm' : Str → Option Value), l.lookup x = none → bindL kind l m' x = m' x ∧ bindC kind l cm' x = cm' x := by
        intro l
        induction l with
        | nil => intro m' cm' _; exact ⟨rfl, rfl⟩
        | cons p r ih =>
          obtain ⟨y, w⟩ := p
          intro m' cm' hl
          rw [List.lookup_cons] at hl
          cases q' : x == y with
          | true => rw [q'] at hl; cases hl
          | false =>
            rw [q'] at hl
            have hxy : x ≠ y := by simpa using q'
            unfold bindL bindC
            refine ⟨(ih _ cm' hl).1.trans ?_, (ih m' _ hl).2.trans ?_⟩
            · split <;> simp [hxy]
            · split <;> simp [hxy]
      have hz := lookup_none_of (vs := vs) h1
      refine ⟨fun hk => ?_, fun hk => ?_⟩
      · rw [if_pos hk]; rw [(stay _ _ cm hz).1]; simp
      · rw [if_neg hk]; rw [(stay _ m _ hz).2]; simp
    | false =>
      rw [q] at h
      exact bindLC h2 h
theorem Hp.frame {s g} (hp : Hp G μ g s) {h' : Heap} (k : ∀ a o, s.heap.get? a = some o → h'.get? a = some o) (t : Nat) : Hp G μ g { s with heap := h', toks := t } := hp.junk k t
theorem envX_eq (name qual : Str) (params : Arguments) (body : List Stmt) (scope : Scope) (dV kV doc pm : Value) (an : Option Addr) (cdv ct : Value) (L a : Addr) :
    callEnv (fnOf name qual params body scope dV kV doc pm an cdv ct) L a = envX qual scope L a cdv [] := rfl
theorem envXC_eq (name qual : Str) (params : Arguments) (body : List Stmt) (scope : Scope) (dV kV doc pm : Value) (an : Option Addr) (cdv ct : Value) (L a : Addr) :
    callEnvC (fnOf name qual params body scope dV kV doc pm an cdv ct) L a = envX qual scope L a cdv (cellsFrom (L + 1) scope.names []) := rfl

/-- a def without cells -/
theorem Fn.plainG {f : Addr} {n : Nat} {names : List Str} {ds es : List D} {us : List Value} {name qual : Str} {params : Arguments} {body : List Stmt} {scope : Scope} {dV kV doc pm cdv ct oc : Value} {an od : Option Addr} {osl : Array (Option Value)}
    (ho : (topT.heap_1 G.w.params).lookup f = some ⟨oc, od, .func (fnOf name qual params body scope dV kV doc pm an cdv ct), osl⟩) (hcd : codeIn (topT.heap_1 G.w.params) cdv qual = true)
    (hb : ∀ (s : Shared) (vs : List Value), (topT.heap_1 G.w.params).In s.heap → vs.length = ds.length → BindsTo s (fnOf name qual params body scope dV kV doc pm an cdv ct) ⟨vs, []⟩ (names.zip (vs ++ us))) (hus : ∀ g, RelL g us es)
    (hnd : names.Nodup) (hloc : ∀ x ∈ names, scope.names.lookup x = some .local) (hcell : ∀ x ∈ scope.names, x.2 ≠ .cell)
    (hbody : ∀ (A : Around) (L : Addr) (ok : CxOk A (envX qual scope L f cdv []) n), WS G ⟨A, envX qual scope L f cdv [], n, ok⟩ (names.zip (ds ++ es)) μ body fun φ _ μ' => ∃ d, (φ = .ret d ∨ (φ = .next ∧ d = .none)) ∧ Φ d μ')
    (hco : scope.isCoroutine = false := by rfl) (hgen : scope.isGenerator = false := by rfl) (hk : scope.kind = .function := by rfl) : Fn G f (n + 1) ds μ Φ := fun A s g vs hh hd hu hp r => by
  have hK := G.in hp
  refine (codeAny_call_def (fd := fnOf name qual params body scope dV kV doc pm an cdv ct) (body := body) (by omega) (hK _ _ ho) rfl (G.T.nolimit.keeps hp.stays) (codeRec_of hK hcd) rfl (hb s vs hK r.1) hcell (fun x hx => hloc _ (List.of_mem_zip hx).1) (fun h₀ hns k => ?_) hco hgen hk)
  have hL0 : s.heap.get? s.heap.objs.size = none := Heap.size_none _
  rw [envX_eq]
  have ok : CxOk (A.deeper (envX qual scope s.heap.objs.size f cdv [])) (envX qual scope s.heap.objs.size f cdv []) n :=
    ⟨hk, rfl, rfl, hh, by show A.depth + 1 + n < _; omega, by show A.units + 3 + 8 * n + 120 < _; omega, List.nodup_nil, List.not_mem_nil⟩
  have hb0 := hbody _ _ ok
  generalize hCe : (⟨A.deeper (envX qual scope s.heap.objs.size f cdv []), envX qual scope s.heap.objs.size f cdv [], n, ok⟩ : Cx) = C at hb0
  have e1 : C.env = envX qual scope s.heap.objs.size f cdv [] := by rw [← hCe]
  have e3 : C.A = A.deeper (envX qual scope s.heap.objs.size f cdv []) := by rw [← hCe]
  have hp1 : Hp G μ g { s with heap := h₀, toks := s.toks + (names.zip (vs ++ us)).length } := hp.frame k _
  have fm1 : Fm C (names.zip (ds ++ es)) μ g h₀ := by
    refine ⟨⟨_, by rw [e1]; exact hns, fun x d kx e => ?_⟩, fun x c hc => ?_, fun a ha => ?_⟩
    · obtain ⟨v, ev, rv⟩ := lookup_zip (r.append (hus g)) e
      exact ⟨v, by rw [lookup_rev hnd]; exact ev, rv⟩
    · rw [e1] at hc; cases hc
    · rcases ha with rfl | ha
      · rw [e1]
        obtain ⟨o, _, _, ho', _⟩ := hns
        exact ⟨hp.gfresh hL0, hp.mfresh hL0, o, ho'⟩
      · rw [e1] at ha; cases ha
  have hw := hb0 { s with heap := h₀, toks := s.toks + (names.zip (vs ++ us)).length } g hp1 fm1
  rw [e1, e3] at hw
  refine wpAny_mono hw ?_ fun _ _ x => x.elim
  rintro fl s2 ⟨g2, ρ2, μ2, φ, hp2, fm2, st2, fr, d, hφ, h2⟩
  have stp : Step no μ g s.heap μ2 g2 s2.heap := by
    refine ⟨st2.sub, fun a o e hm _ => st2.keep a o (k a o e) hm ?_, fun a e => ?_, fun a e => ?_⟩
    · rintro (q | q)
      · rw [e1] at q; have q' : a = s.heap.objs.size := q; subst q'; rw [hL0] at e; cases e
      · rw [e1] at q; cases q
    · rcases st2.mnew a e with q | q
      · exact .inl q
      · cases z : s.heap.get? a with
        | none => exact .inr rfl
        | some o => have q' : h₀.get? a = none := q; rw [k a o z] at q'; cases q'
    · rcases st2.gnew a e with q | q | q
      · exact .inl q
      · exact .inr (.inl q)
      · cases z : s.heap.get? a with
        | none => exact .inr (.inr rfl)
        | some o => have q' : h₀.get? a = none := q; rw [k a o z] at q'; cases q'
  rcases hφ with rfl | ⟨rfl, rfl⟩
  · cases fr with
    | ret rd => exact ⟨g2, μ2, d, hp2, stp, rd, h2⟩
  · cases fr with
    | next => exact ⟨g2, μ2, .none, hp2, stp, .none, h2⟩
/-- a def without cells -/
theorem Fn.plain {f : Addr} {n : Nat} {names : List Str} {ds es : List D} {us : List Value} {name qual : Str} {params : Arguments} {body : List Stmt} {scope : Scope} {dV kV doc pm cdv ct oc : Value} {an od : Option Addr} {osl : Array (Option Value)}
    (ho : (topT.heap_1 G.w.params).lookup f = some ⟨oc, od, .func (fnOf name qual params body scope dV kV doc pm an cdv ct), osl⟩) (hcd : codeIn (topT.heap_1 G.w.params) cdv qual = true)
    (hb : ∀ (s : Shared) (vs : List Value), (topT.heap_1 G.w.params).In s.heap → vs.length = ds.length → BindsTo s (fnOf name qual params body scope dV kV doc pm an cdv ct) ⟨vs, []⟩ (names.zip (vs ++ us))) (hus : ∀ g, RelL g us es)
    (hnd : names.Nodup) (hloc : ∀ x ∈ names, scope.names.lookup x = some .local) (hcell : ∀ x ∈ scope.names, x.2 ≠ .cell)
    (hbody : ∀ (A : Around) (L : Addr) (ok : CxOk A (envX qual scope L f cdv []) n), WS G ⟨A, envX qual scope L f cdv [], n, ok⟩ (names.zip (ds ++ es)) μ body fun φ _ μ' => ∃ d, φ = .ret d ∧ Φ d μ')
    (hco : scope.isCoroutine = false := by rfl) (hgen : scope.isGenerator = false := by rfl) (hk : scope.kind = .function := by rfl) : Fn G f (n + 1) ds μ Φ :=
  Fn.plainG ho hcd hb hus hnd hloc hcell (fun A L ok => TF.mono (hbody A L ok) fun _ _ _ ⟨d, e, φ⟩ => ⟨d, .inl e, φ⟩) hco hgen hk

/-- a def some of whose names stand in cells -/
theorem Fn.cells {f : Addr} {n : Nat} {names : List Str} {ds : List D} {name qual : Str} {params : Arguments} {body : List Stmt} {scope : Scope} {dV kV doc pm cdv ct oc : Value} {an od : Option Addr} {osl : Array (Option Value)}
    (ho : (topT.heap_1 G.w.params).lookup f = some ⟨oc, od, .func (fnOf name qual params body scope dV kV doc pm an cdv ct), osl⟩) (hcd : codeIn (topT.heap_1 G.w.params) cdv qual = true)
    (hb : ∀ (vs : List Value), vs.length = ds.length → bindArgs (fnOf name qual params body scope dV kV doc pm an cdv ct) ⟨vs, []⟩ = pure (names.zip vs))
    (hnd : names.Nodup) (hkind : ∀ N, ∀ x ∈ names, scope.names.lookup x = some .local ∨ (scope.names.lookup x = some .cell ∧ ((cellsFrom N scope.names []).lookup x).isSome = true))
    (hcn : ∀ N, ((cellsFrom N scope.names []).map (·.1)).Nodup) (hcl : ∀ N x, x ∈ (cellsFrom N scope.names []).map (·.1) → scope.names.lookup x = some .cell)
    (hbody : ∀ (A : Around) (L : Addr) (ok : CxOk A (envX qual scope L f cdv (cellsFrom (L + 1) scope.names [])) n), WS G ⟨A, envX qual scope L f cdv (cellsFrom (L + 1) scope.names []), n, ok⟩ (names.zip ds) μ body fun φ _ μ' => ∃ d, φ = .ret d ∧ Φ d μ')
    (hco : scope.isCoroutine = false := by rfl) (hgen : scope.isGenerator = false := by rfl) (hk : scope.kind = .function := by rfl) : Fn G f (n + 1) ds μ Φ := fun A s g vs hh hd hu hp r => by
  have hK := G.in hp
  refine (codeAny_call_cells (fd := fnOf name qual params body scope dV kV doc pm an cdv ct) (body := body) (by omega) (hK _ _ ho) rfl (G.T.nolimit.keeps hp.stays) (codeRec_of hK hcd) rfl (hb vs r.1) rfl (fun x hx => hkind _ _ (List.of_mem_zip hx).1) (fun s₁ I => ?_) hco hgen hk)
  rw [envXC_eq] at I ⊢
  have hL0 : s.heap.get? s.heap.objs.size = none := Heap.size_none _
  have k := I.toInCall.keep
  obtain ⟨h₀, tk, rfl⟩ := I.toInCall.same
  have hfresh : ∀ c, s.heap.objs.size ≤ c → s.heap.get? c = none := fun c hc => by
    cases q : s.heap.get? c with
    | none => rfl
    | some o => exact absurd (Heap.lt_size q) (Nat.not_lt.mpr hc)
  have ok : CxOk (A.deeper (envX qual scope s.heap.objs.size f cdv (cellsFrom (s.heap.objs.size + 1) scope.names []))) (envX qual scope s.heap.objs.size f cdv (cellsFrom (s.heap.objs.size + 1) scope.names [])) n :=
    ⟨hk, rfl, rfl, hh, by show A.depth + 1 + n < _; omega, by show A.units + 3 + 8 * n + 120 < _; omega, List.pairwise_map.mpr I.apart, fun q => by
        obtain ⟨⟨x, c⟩, hm, e⟩ := List.mem_map.mp q
        have e' : c = s.heap.objs.size := e
        subst e'
        exact Nat.lt_irrefl _ (I.above x _ hm)⟩
  have hb0 := hbody _ _ ok
  generalize hCe : (⟨A.deeper (envX qual scope s.heap.objs.size f cdv (cellsFrom (s.heap.objs.size + 1) scope.names [])), envX qual scope s.heap.objs.size f cdv (cellsFrom (s.heap.objs.size + 1) scope.names []), n, ok⟩ : Cx) = C at hb0
  have e1 : C.env = envX qual scope s.heap.objs.size f cdv (cellsFrom (s.heap.objs.size + 1) scope.names []) := by rw [← hCe]
  have e3 : C.A = A.deeper (envX qual scope s.heap.objs.size f cdv (cellsFrom (s.heap.objs.size + 1) scope.names [])) := by rw [← hCe]
  have hp1 : Hp G μ g { s with heap := h₀, toks := tk } := hp.frame k _
  have lk : ∀ x c, (x, c) ∈ cellsFrom (s.heap.objs.size + 1) scope.names [] → (cellsFrom (s.heap.objs.size + 1) scope.names []).lookup x = some c := by
    intro x c hm
    have := hcn (s.heap.objs.size + 1)
    revert this hm
    generalize cellsFrom (s.heap.objs.size + 1) scope.names [] = l
    intro hm hn
    induction l with
    | nil => cases hm
    | cons p r ih =>
      obtain ⟨y, w⟩ := p
      obtain ⟨h1, h2⟩ := List.nodup_cons.mp hn
      rw [List.lookup_cons]
      rcases List.mem_cons.mp hm with e | hm2
      · cases e; simp
      · have : (x == y) = false := by
          rw [beq_eq_false_iff_ne]; rintro rfl; exact h1 (List.mem_map_of_mem (f := (·.1)) hm2)
        rw [this]; exact ih hm2 h2
  have fm1 : Fm C (names.zip ds) μ g h₀ := by
    refine ⟨⟨_, by rw [e1]; exact I.toInCall.ns, fun x d kx e => ?_⟩, fun x c hc => ?_, fun a ha => ?_⟩
    · obtain ⟨v, ev, rv⟩ := lookup_zip r e
      rw [e1] at kx
      exact ⟨v, (bindLC (m := fun _ => none) (cm := fun _ => none) hnd ev).1 kx, rv⟩
    · rw [e1] at hc
      obtain ⟨o, ho', hd'⟩ := I.cell x c hc
      refine ⟨o, _, ho', hd', fun d e => ?_⟩
      obtain ⟨v, ev, rv⟩ := lookup_zip r e
      have kx : scope.names.lookup x = some .cell := hcl _ x (List.mem_map_of_mem (f := (·.1)) (mem_of_lookup hc))
      exact ⟨v, (bindLC (m := fun _ => none) (cm := fun _ => none) hnd ev).2 (by show scope.names.lookup x ≠ _; rw [kx]; decide), rv⟩
    · rcases ha with rfl | ha
      · rw [e1]
        obtain ⟨o, _, _, ho', _⟩ := I.toInCall.ns
        exact ⟨hp.gfresh hL0, hp.mfresh hL0, o, ho'⟩
      · rw [e1] at ha
        obtain ⟨⟨x, c⟩, hm, e⟩ := List.mem_map.mp ha
        have e' : c = a := e
        subst e'
        have hc0 := hfresh c (Nat.le_of_lt (I.above x c hm))
        obtain ⟨o, ho', _⟩ := I.cell x c (lk x c hm)
        exact ⟨hp.gfresh hc0, hp.mfresh hc0, o, ho'⟩
  have hw := hb0 { s with heap := h₀, toks := tk } g hp1 fm1
  rw [e1, e3] at hw
  refine wpAny_mono hw ?_ fun _ _ x => x.elim
  rintro fl s2 ⟨g2, ρ2, μ2, φ, hp2, fm2, st2, fr, d, rfl, h2⟩
  cases fr with
  | ret rd =>
    refine ⟨g2, μ2, d, hp2, ?_, rd, h2⟩
    refine ⟨st2.sub, fun a o e hm _ => st2.keep a o (k a o e) hm ?_, fun a e => ?_, fun a e => ?_⟩
    · rintro (q | q)
      · rw [e1] at q; have q' : a = s.heap.objs.size := q; subst q'; rw [hL0] at e; cases e
      · rw [e1] at q
        obtain ⟨⟨x, c⟩, hm', e'⟩ := List.mem_map.mp q
        have e'' : c = a := e'
        subst e''
        rw [hfresh c (Nat.le_of_lt (I.above x c hm'))] at e; cases e
    · rcases st2.mnew a e with q | q
      · exact .inl q
      · cases z : s.heap.get? a with
        | none => exact .inr rfl
        | some o => have q' : h₀.get? a = none := q; rw [k a o z] at q'; cases q'
    · rcases st2.gnew a e with q | q | q
      · exact .inl q
      · exact .inr (.inl q)
      · cases z : s.heap.get? a with
        | none => exact .inr (.inr rfl)
        | some o => have q' : h₀.get? a = none := q; rw [k a o z] at q'; cases q'

/-! calls -/
theorem WE.call {x : Str} {f : Addr} {p e rest} (hx : C.env.kindOf x = some .globalImplicit) (hn : nsIn (topT.heap_1 G.w.params) mainGlobals x = some (some (.ref f))) (hkp : keepIn (topT.heap_1 G.w.params) (.ref f) = true)
    (h : WL G C ρ μ pos (e :: rest) fun ds μ1 => Fn G f C.n ds μ1 Φ)
    (he : starEach (e :: rest) C.env = (false, eval e C.env) :: starEach rest C.env := by rfl) (hpl : (backTo pos (starEach rest C.env)).any (·.1) = false := by rfl)
    (hd : (x == ("__debug__" : Str)) = false := by decide) :
    WE G C ρ μ (.Call (.Name x p) (e :: rest) [] pos) Φ := fun s g hp fm => by
  refine Call_Name rfl (name_glob hp hx hn (callWith_K (first := []) (G.in hp) hkp (wpAny_mono (h s g hp fm) ?_ fun _ _ x => x) he hpl) hd)
  rintro vs s1 ⟨g1, μ1, ds, hp1, st1, r1, h2⟩
  refine ⟨G.in hp1, wpAny_mono (h2.use C.hh C.hd C.hu hp1 r1) ?_ fun _ _ x => x⟩
  rintro v s2 ⟨g2, μ2, d, hp2, st2, r2, φ⟩
  exact ⟨g2, μ2, d, hp2, st1.trans st2, r2, φ⟩
theorem WE.call0 {x : Str} {f : Addr} {p} (hx : C.env.kindOf x = some .globalImplicit) (hn : nsIn (topT.heap_1 G.w.params) mainGlobals x = some (some (.ref f))) (hkp : keepIn (topT.heap_1 G.w.params) (.ref f) = true)
    (h : Fn G f C.n [] μ Φ) (hd : (x == ("__debug__" : Str)) = false := by decide) :
    WE G C ρ μ (.Call (.Name x p) [] [] pos) Φ := fun s g hp fm => by
  refine Call_Name rfl (name_glob hp hx hn (callWith_K0 (first := []) (G.in hp) hkp (wpAny_mono (h.use C.hh C.hd C.hu hp .nil) ?_ fun _ _ x => x)) hd)
  rintro v s2 ⟨g2, μ2, d, hp2, st2, r2, φ⟩
  exact ⟨g2, μ2, d, hp2, st2, r2, φ⟩
end
set_option maxHeartbeats 400000
section
variable {G : Gl} {C : Cx} {ρ : Rho} {μ : MU} {pos : Pos}

/-! what may turn -/
theorem Hp.upd {g s a mo mo' o'} (hp : Hp G μ g s) (hm : μ a = some mo) {h' : Heap} (hs : Heap.SameBut a s.heap h') (ho : h'.get? a = some o') (hr : MRel g o' mo') (t : Nat) : Hp G (μ.set a mo') g { s with heap := h', toks := t } := by
  have hg := (hp.mt a _ hm).1
  refine ⟨hp.bas, fun b o e => (hs.2 b (by rintro rfl; rw [hg] at e; cases e)).trans (hp.cov b o e), fun b m e => ?_, hp.gens, hp.os⟩
  by_cases q : b = a
  · subst q; rw [MU.set_self] at e; cases e; exact ⟨hg, o', ho, hr⟩
  · rw [MU.set_ne _ _ q] at e
    obtain ⟨h1, o, h2, h3⟩ := hp.mt b m e
    exact ⟨h1, o, (hs.2 b q).trans h2, h3⟩
theorem Step.upd {g h a mo mo'} (hm : μ a = some mo) {h' : Heap} (hs : Heap.SameBut a h h') : Step no μ g h (μ.set a mo') g h' :=
  ⟨Sub.refl _, fun b o e hb _ => (hs.2 b (by rintro rfl; rw [hm] at hb; cases hb)).trans e, fun b e => by
    by_cases q : b = a
    · subst q; left; rw [hm]; simp
    · rw [MU.set_ne _ _ q] at e; exact .inl e, fun _ e => .inl e⟩
theorem Hp.pushM {g s} (hp : Hp G μ g s) (o : Obj) (mo : MO) (hf : o.isFreed = false) (hr : MRel g o mo) : Hp G (μ.set s.heap.objs.size mo) g { s with heap := s.heap.push o } := by
  have hn := Heap.size_none s.heap
  refine ⟨hp.bas, fun b x e => Heap.get?_push_of_some _ (hp.cov b x e), fun b m e => ?_, hp.gens, hp.os⟩
  by_cases q : b = s.heap.objs.size
  · subst q; rw [MU.set_self] at e; cases e; exact ⟨hp.gfresh hn, o, Heap.get?_push_size _ hf, hr⟩
  · rw [MU.set_ne _ _ q] at e
    obtain ⟨h1, x, h2, h3⟩ := hp.mt b m e
    exact ⟨h1, x, Heap.get?_push_of_some _ h2, h3⟩
theorem Step.pushM {g : PH} {h : Heap} (o : Obj) (mo : MO) : Step no μ g h (μ.set h.objs.size mo) g (h.push o) :=
  ⟨Sub.refl _, fun b x e _ _ => Heap.get?_push_of_some _ e, fun b e => by
    by_cases q : b = h.objs.size
    · subst q; exact .inr (Heap.size_none h)
    · rw [MU.set_ne _ _ q] at e; exact .inl e, fun _ e => .inl e⟩
theorem Hp.freeze {g s a mo o} (hp : Hp G μ g s) (hm : μ a = some mo) (ho : s.heap.get? a = some o) : Hp G (μ.del a) (g.set a o) s := by
  have hg := (hp.mt a _ hm).1
  refine ⟨fun b x e => Sub.set hg _ _ (hp.bas b x e), fun b x e => ?_, fun b m e => ?_, hp.gens, hp.os⟩
  · by_cases q : b = a
    · subst q; rw [PH.set_self] at e; cases e; exact ho
    · rw [PH.set_ne _ _ q] at e; exact hp.cov b x e
  · by_cases q : b = a
    · subst q; simp [MU.del] at e
    · rw [MU.del_ne _ q] at e
      obtain ⟨h1, x, h2, h3⟩ := hp.mt b m e
      exact ⟨by rw [PH.set_ne _ _ q]; exact h1, x, h2, h3.mono (Sub.set hg)⟩
theorem Step.freeze {g h a mo o} (hm : μ a = some mo) (hg : g a = none) : Step no μ g h (μ.del a) (g.set a o) h :=
  ⟨Sub.set hg, fun b x e _ _ => e, fun b e => by
    by_cases q : b = a
    · subst q; simp [MU.del] at e
    · rw [MU.del_ne _ q] at e; exact .inl e, fun b e => by
    by_cases q : b = a
    · subst q; right; left; rw [hm]; simp
    · rw [PH.set_ne _ _ q] at e; exact .inl e⟩
def MLe (μ' μ : MU) : Prop := ∀ a m, μ' a = some m → μ a = some m
theorem MLe.refl (μ : MU) : MLe μ μ := fun _ _ h => h
theorem MLe.ne {μ' μ : MU} (h : MLe μ' μ) {a : Addr} (e : μ' a ≠ none) : μ a ≠ none := by
  cases q : μ' a with
  | none => exact absurd q e
  | some m => rw [h a m q]; simp
theorem MLe.none {μ' μ : MU} (h : MLe μ' μ) {a : Addr} (e : μ a = none) : μ' a = none := by
  cases q : μ' a with
  | none => rfl
  | some m => rw [h a m q] at e; cases e
theorem MLe.set {μ : MU} {a : Addr} {x : MO} (h : μ a = Option.none) : MLe μ (μ.set a x) := fun b m e => by
  rw [MU.set_ne]; exact e; rintro rfl; rw [h] at e; cases e
theorem Hp.less {g s} {μ' : MU} (hp : Hp G μ g s) (h : MLe μ' μ) : Hp G μ' g s := ⟨hp.bas, hp.cov, fun a m e => hp.mt a m (h a m e), hp.gens, hp.os⟩
theorem Step.less {X g h g' h'} {μ1 μ2 : MU} (st : Step X μ g h μ1 g' h') (hl : MLe μ2 μ1) : Step X μ g h μ2 g' h' := ⟨st.sub, st.keep, fun a e => st.mnew a (hl.ne e), st.gnew⟩
theorem Fm.less {g h} {μ' : MU} (F : Fm C ρ μ g h) (hl : MLe μ' μ) : Fm C ρ μ' g h := ⟨F.ns, F.cel, fun a ha => let ⟨x, y, z⟩ := F.own a ha; ⟨x, hl.none y, z⟩⟩
theorem TT.drop {α β : Type} {R : PH → α → β → Prop} {t : Sem α} {Φ : β → MU → Prop} (h : TT R G C ρ μ t fun d μ1 => ∃ μ2, MLe μ2 μ1 ∧ Φ d μ2) : TT R G C ρ μ t Φ :=
  fun s g hp fm => wpAny_mono (h s g hp fm) (fun _ _ ⟨g', μ', d, a, b, c, μ2, l, e⟩ => ⟨g', μ2, d, a.less l, b.less l, c, e⟩) fun _ _ x => x
theorem TF.drop {t : Sem Flow} {Φ : FD → Rho → MU → Prop} (h : TF G C ρ μ t fun d ρ1 μ1 => ∃ μ2, MLe μ2 μ1 ∧ Φ d ρ1 μ2) : TF G C ρ μ t Φ :=
  fun s g hp fm => wpAny_mono (h s g hp fm) (fun _ _ ⟨g', ρ', μ', d, a, b, c, f, μ2, l, e⟩ => ⟨g', ρ', μ2, d, a.less l, b.less l, c.less l, f, e⟩) fun _ _ x => x

theorem WE.frozen {e} {Φ : D → MU → Prop} (h : WE G C ρ μ e fun d μ1 => ∃ a l, d = .loc a ∧ μ1 a = some (.lst l) ∧ Φ (.lst l) (μ1.del a)) : WE G C ρ μ e Φ := fun s g hp fm => by
  refine wpAny_mono (h s g hp fm) ?_ fun _ _ x => x
  rintro v s1 ⟨g1, μ1, d, hp1, st1, r1, a, l, rfl, hm, φ⟩
  obtain ⟨hg, o, ho, vs, n, rfl, hr⟩ := hp1.mt a _ hm
  obtain rfl := r1.loc_inv
  exact ⟨_, _, _, hp1.freeze hm ho, st1.trans (Step.freeze hm hg), .mkLst (PH.set_self _ _ _) (hr.mono (Sub.set hg)), φ⟩

/-- a list display that will be turned -/
theorem WE.listNew {es} {Φ : D → MU → Prop} (h : WL G C ρ μ pos es fun ds μ1 => ds.length ≤ sizeLine ∧ ∀ a, μ1 a = none → Φ (.loc a) (μ1.set a (.lst ds))) : WE G C ρ μ (.List es pos) Φ := fun s g hp fm => by
  refine wpAny_List (wpAny_mono (h s g hp fm) ?_ fun _ _ x => x)
  rintro vs s1 ⟨g1, μ1, ds, hp1, st1, r1, hl, φ⟩
  exact ⟨r1.1 ▸ hl, _, _, .loc _, hp1.pushM _ (.lst ds) rfl ⟨vs, 0, rfl, r1⟩, st1.trans (Step.pushM _ _), .loc _, φ _ (hp1.mfresh (Heap.size_none _))⟩
theorem WE.boxNew {es} {Φ : D → MU → Prop} (h : WL G C ρ μ pos es fun ds μ1 => ds.length ≤ sizeLine ∧ ∀ a, μ1 a = none → Φ (.loc a) (μ1.set a (.box ds))) : WE G C ρ μ (.List es pos) Φ := fun s g hp fm => by
  refine wpAny_List (wpAny_mono (h s g hp fm) ?_ fun _ _ x => x)
  rintro vs s1 ⟨g1, μ1, ds, hp1, st1, r1, hl, φ⟩
  exact ⟨r1.1 ▸ hl, _, _, .loc _, hp1.pushM _ (.box ds) rfl ⟨rfl, vs, 0, rfl, r1⟩, st1.trans (Step.pushM _ _), .loc _, φ _ (hp1.mfresh (Heap.size_none _))⟩

theorem RelL.set {g : PH} {vs : List Value} {ds : List D} (h : RelL g vs ds) (k : Nat) {v : Value} {d : D} (r : Rel g v d) : RelL g (vs.set k v) (ds.set k d) := by
  refine ⟨by simp [h.1], fun i u e h1 h2 => ?_⟩
  rw [List.getElem?_set] at h1 h2
  by_cases q : k = i
  · subst q
    simp only [if_true] at h1 h2
    split at h1
    · split at h2
      · cases h1; cases h2; exact r
      · cases h2
    · cases h1
  · rw [if_neg q] at h1 h2
    exact h.2 i u e h1 h2
/-- b[k] = d on a box -/
theorem setBox {A : Around} {s : Shared} {g : PH} {a : Addr} {l : List D} {k : Int} {t : Tok} {v : Value} {d : D} {Q : Unit → Shared → Prop} (hp : Hp G μ g s) (hm : μ a = some (.box l)) (h0 : 0 ≤ k) (h1 : k < 2 ^ 63) (hk : k < l.length) (r : Rel g v d)
    (h : ∀ h', Hp G (μ.set a (.box (l.set k.toNat d))) g { s with heap := h' } → Step no μ g s.heap (μ.set a (.box (l.set k.toNat d))) g h' → Q () { s with heap := h' }) : wpAny G.M A (setItem (.ref a) (.int k t) v) Q (fun _ _ => False) s := by
  obtain ⟨vs, hl, hr⟩ := hp.isList (.inr hm)
  refine wpAny_setItem_list hl h0 h1 (by simp [hr.1]; exact hk) fun h' hl' hs => ?_
  obtain ⟨o', ho', hc', n', hd'⟩ := hl'
  refine h h' (hp.upd hm hs ho' (mo' := .box (l.set k.toNat d)) ⟨hc', vs.set k.toNat v, n', by rw [hd']; simp, hr.set _ r⟩ s.toks) (Step.upd hm hs)
theorem WX.putItem {o i e pos'} {Φ : FD → Rho → MU → Prop} (h : WE G C ρ μ e fun dv μ1 => WE G C ρ μ1 o fun d1 μ2 => WE G C ρ μ2 i fun d2 μ3 =>
      ∃ a l k, d1 = .loc a ∧ d2 = .int k ∧ μ3 a = some (.box l) ∧ 0 ≤ k ∧ k < 2 ^ 63 ∧ k < l.length ∧ Φ .next ρ (μ3.set a (.box (l.set k.toNat dv))))
    (hs : swapsWith e (some (.Subscript o i pos')) pos.line C.env = pure false := by rfl) : WX G C ρ μ (.Assign [.Subscript o i pos'] e pos) Φ := fun s g hp fm => by
  refine wpAny_Assign_Subscript (wpAny_mono (h s g hp fm) ?_ fun _ _ x => x) hs
  rintro v s1 ⟨g1, μ1, dv, hp1, st1, r1, h1⟩
  have fm1 := fm.step st1
  refine wpAny_mono (h1 s1 g1 hp1 fm1) ?_ fun _ _ x => x
  rintro v2 s2 ⟨g2, μ2, d1, hp2, st2, r2, h2⟩
  have fm2 := fm1.step st2
  refine wpAny_mono (h2 s2 g2 hp2 fm2) ?_ fun _ _ x => x
  rintro v3 s3 ⟨g3, μ3, d2, hp3, st3, r3, a, l, k, rfl, rfl, hm, h0, h1, hk, φ⟩
  obtain ⟨_, rfl⟩ := r3.int_inv
  obtain rfl := r2.loc_inv
  refine setBox hp3 hm h0 h1 hk (r1.mono (st2.sub.trans st3.sub)) fun h' hp' st' => ?_
  have st := ((st1.trans st2).trans st3).trans st'
  exact ⟨g3, ρ, _, .next, hp', fm.step st, st.wk, .next, φ⟩
theorem WX.augItem {o i e op pos'} {Φ : FD → Rho → MU → Prop} (h : WE G C ρ μ o fun d1 μ1 => WE G C ρ μ1 i fun d2 μ2 => ∃ a l k d0, d1 = .loc a ∧ d2 = .int k ∧ μ2 a = some (.box l) ∧ 0 ≤ k ∧ k < 2 ^ 63 ∧ k < l.length ∧ l[k.toNat]? = some d0 ∧
      WE G C ρ μ2 e fun dv μ3 => ∃ d, P2 G μ3 (inplaceOp op) d0 dv d ∧ μ3 a = some (.box l) ∧ Φ .next ρ (μ3.set a (.box (l.set k.toNat d))))
    (hi : ∀ ov iv new, augStore i ov iv new = (do holding [new, ov, iv] (setItem ov iv new); release [new, ov, iv] []; pure .next) := by intros; rfl) : WX G C ρ μ (.AugAssign (.Subscript o i pos') op e pos) Φ := fun s g hp fm => by
  refine wpAny_AugAssign_SubscriptAny (wpAny_mono (h s g hp fm) ?_ fun _ _ x => x) hi
  rintro v1 s1 ⟨g1, μ1, d1, hp1, st1, r1, h1⟩
  have fm1 := fm.step st1
  refine wpAny_mono (h1 s1 g1 hp1 fm1) ?_ fun _ _ x => x
  rintro v2 s2 ⟨g2, μ2, d2, hp2, st2, r2, a, l, k, d0, rfl, rfl, hm, h0, h1, hk, he, h2⟩
  have fm2 := fm1.step st2
  refine wpAny_mono (P2.itemLoc (.inr hm) h0 h1 he C.A s2 g2 v1 v2 C.hh C.hu' hp2 (r1.mono st2.sub) r2) ?_ fun _ _ x => x
  rintro v3 s3 ⟨g3, hp3, st3, r3⟩
  have fm3 := fm2.step st3
  refine wpAny_mono (h2 s3 g3 hp3 fm3) ?_ fun _ _ x => x
  rintro v4 s4 ⟨g4, μ4, dv, hp4, st4, r4, d, hop, hm4, φ⟩
  have fm4 := fm3.step st4
  refine wpAny_mono (hop C.A s4 g4 v3 v4 C.hh C.hu' hp4 (r3.mono st4.sub) r4) ?_ fun _ _ x => x
  rintro v5 s5 ⟨g5, hp5, st5, r5⟩
  obtain ⟨_, rfl⟩ := r2.int_inv
  obtain rfl := r1.loc_inv
  refine setBox hp5 hm4 h0 h1 hk r5 fun h' hp' st' => ?_
  have st := ((((st1.trans st2).trans st3).trans st4).trans st5).trans st'
  exact ⟨g5, ρ, _, .next, hp', fm.step st, st.wk, .next, φ⟩

/-! append, extend -/
theorem appendM {A : Around} {s : Shared} {g : PH} {a : Addr} {l : List D} {v : Value} {d : D} {Q : Value → Shared → Prop} (hp : Hp G μ g s) (hm : μ a = some (.lst l)) (hz : l.length ≤ sizeLine) (r : Rel g v d)
    (h : ∀ h', Hp G (μ.set a (.lst (l ++ [d]))) g { s with heap := h' } → Step no μ g s.heap (μ.set a (.lst (l ++ [d]))) g h' → Q .none { s with heap := h' }) : wpAny G.M A (call (.builtin "list.append") [.ref a, v]) Q (fun _ _ => False) s := by
  obtain ⟨hg, o, ho, vs, n, rfl, hr⟩ := hp.mt a _ hm
  refine wpAny_list_append_plain (hsz := by simp [hr.1]; exact hz) ⟨n, ho⟩ fun h' hl' hs => ?_
  obtain ⟨n', ho'⟩ := hl'
  exact h h' (hp.upd hm hs ho' (mo' := .lst (l ++ [d])) ⟨vs ++ [v], n', by simp, hr.snoc r⟩ s.toks) (Step.upd hm hs)
theorem extendM {A : Around} {s : Shared} {g : PH} {a : Addr} {l l2 : List D} {v : Value} {Q : Value → Shared → Prop} (hp : Hp G μ g s) (hm : μ a = some (.lst l)) (hz : l.length + l2.length ≤ sizeLine) (r : Rel g v (.lst l2))
    (h : ∀ h', Hp G (μ.set a (.lst (l ++ l2))) g { s with heap := h' } → Step no μ g s.heap (μ.set a (.lst (l ++ l2))) g h' → Q .none { s with heap := h' }) : wpAny G.M A (call (.builtin "list.extend") [.ref a, v]) Q (fun _ _ => False) s := by
  obtain ⟨hg, o, ho, vs, n, rfl, hr⟩ := hp.mt a _ hm
  obtain ⟨b, m, us, rfl, hb, hr2⟩ := r.lst_inv
  have e1 : vs.toArray.size = l.length := by simpa using hr.1
  have e2 : us.toArray.size = l2.length := by simpa using hr2.1
  have hnot : ¬ (!vs.toArray.isEmpty && Builtin.List.listTooLong (vs.toArray.size + us.toArray.size)) = true := by
    have : Builtin.List.listTooLong (vs.toArray.size + us.toArray.size) = false := by
      unfold Builtin.List.listTooLong; rw [e1, e2]; simp; omega
    rw [this]; simp
  refine call_meets PySem.F.slot_list_extend ⟨_, ho, rfl⟩ PySem.F.entry_list_extend (PySem.F.args_list_extend_2 _ _) (AutoSeq1.list_extend_list_list_0 a vs.toArray n b us.toArray m hnot (by rw [e1]; omega) (by rw [e1, e2]; omega)) ⟨ho, hp.cov _ _ hb, ?_⟩
  refine h _ ?_ (Step.upd hm (Heap.SameBut.update _ _ _))
  have e3 : vs.toArray ++ us.toArray = (vs ++ us).toArray := by simp
  have hd : ∃ n', Obj.mapSeq (fun x => x ++ us.toArray) (lstO vs.toArray n) = lstO (vs ++ us).toArray n' := ⟨_, by rw [← e3]; rfl⟩
  obtain ⟨n', hd⟩ := hd
  exact hp.upd hm (Heap.SameBut.update _ _ _) (o' := Obj.mapSeq (fun x => x ++ us.toArray) (lstO vs.toArray n)) (Heap.get?_update_self _ ho rfl) (mo' := .lst (l ++ l2)) ⟨vs ++ us, n', hd, hr.append hr2⟩ s.toks
theorem WX.append {o e p2 p3} {Φ : FD → Rho → MU → Prop} (h : WE G C ρ μ o fun d1 μ1 => ∃ a l0, d1 = .loc a ∧ μ1 a = some (.lst l0) ∧ WE G C ρ μ1 e fun d2 μ2 => ∃ l, μ2 a = some (.lst l) ∧ l.length ≤ sizeLine ∧ Φ .next ρ (μ2.set a (.lst (l ++ [d2]))))
    (hc : eval (.Call (.Attribute o "append" p2) [e] [] p3) C.env = (do
      let ov ← eval o C.env
      standAt p2.atName
      let (f, first) ← holding [ov] (getMethod ov "append" (do return (← importBound o C.env).getD true))
      callWith p3 f first (backTo p3 (starEach [e] C.env)) (backToKw p3 (keywordEach [] C.env))) := by rfl)
    (he : starEach [e] C.env = (false, eval e C.env) :: starEach [] C.env := by rfl)
    (hi : interactive C.env = false := by rfl) : WX G C ρ μ (.Expr (.Call (.Attribute o "append" p2) [e] [] p3) pos) Φ := fun s g hp fm => by
  refine wpAny_Expr (methodCall_KW (wpAny_mono (h s g hp fm) ?_ fun _ _ x => x) hc) hi rfl
  rintro v1 s1 ⟨g1, μ1, d1, hp1, st1, r1, a, l0, rfl, hm, h1⟩
  have fm1 := fm.step st1
  obtain rfl := r1.loc_inv
  obtain ⟨vs, hl, _⟩ := hp1.isList (.inl hm)
  have hnd : s1.heap.NoDictAt (.ref a) := by
    obtain ⟨_, o, ho, vs, n, rfl, _⟩ := hp1.mt a _ hm
    exact ⟨_, ho, rfl⟩
  refine getMethod_list_of PySem.F.slot_list_append PySem.F.type_list_append hl hnd (callWith_method1 (wpAny_items_cons (wpAny_mono (h1 s1 g1 hp1 fm1) ?_ fun _ _ x => x) he) he rfl)
  rintro v2 s2 ⟨g2, μ2, d2, hp2, st2, r2, l, hm2, hz, φ⟩
  refine wpAny_items_nil (appendM hp2 hm2 hz r2 fun h' hp' st' => ?_)
  have st := (st1.trans st2).trans st'
  exact ⟨g2, ρ, _, .next, hp', fm.step st, st.wk, .next, φ⟩
theorem WX.extend {o e p2 p3} {Φ : FD → Rho → MU → Prop} (h : WE G C ρ μ o fun d1 μ1 => ∃ a l0, d1 = .loc a ∧ μ1 a = some (.lst l0) ∧ WE G C ρ μ1 e fun d2 μ2 => ∃ l l2, d2 = .lst l2 ∧ μ2 a = some (.lst l) ∧ l.length + l2.length ≤ sizeLine ∧ Φ .next ρ (μ2.set a (.lst (l ++ l2))))
    (hc : eval (.Call (.Attribute o "extend" p2) [e] [] p3) C.env = (do
      let ov ← eval o C.env
      standAt p2.atName
      let (f, first) ← holding [ov] (getMethod ov "extend" (do return (← importBound o C.env).getD true))
      callWith p3 f first (backTo p3 (starEach [e] C.env)) (backToKw p3 (keywordEach [] C.env))) := by rfl)
    (he : starEach [e] C.env = (false, eval e C.env) :: starEach [] C.env := by rfl)
    (hi : interactive C.env = false := by rfl) : WX G C ρ μ (.Expr (.Call (.Attribute o "extend" p2) [e] [] p3) pos) Φ := fun s g hp fm => by
  refine wpAny_Expr (methodCall_KW (wpAny_mono (h s g hp fm) ?_ fun _ _ x => x) hc) hi rfl
  rintro v1 s1 ⟨g1, μ1, d1, hp1, st1, r1, a, l0, rfl, hm, h1⟩
  have fm1 := fm.step st1
  obtain rfl := r1.loc_inv
  obtain ⟨vs, hl, _⟩ := hp1.isList (.inl hm)
  have hnd : s1.heap.NoDictAt (.ref a) := by
    obtain ⟨_, o, ho, vs, n, rfl, _⟩ := hp1.mt a _ hm
    exact ⟨_, ho, rfl⟩
  refine getMethod_list_of PySem.F.slot_list_extend PySem.F.type_list_extend hl hnd (callWith_method1 (wpAny_items_cons (wpAny_mono (h1 s1 g1 hp1 fm1) ?_ fun _ _ x => x) he) he rfl)
  rintro v2 s2 ⟨g2, μ2, d2, hp2, st2, r2, l, l2, rfl, hm2, hz, φ⟩
  refine wpAny_items_nil (extendM hp2 hm2 hz r2 fun h' hp' st' => ?_)
  have st := (st1.trans st2).trans st'
  exact ⟨g2, ρ, _, .next, hp', fm.step st, st.wk, .next, φ⟩

/-! uses -/
def IsObj (μ : MU) (d : D) (Cl : Addr) (fs : List (Str × D)) : Prop := d = .obj Cl fs ∨ ∃ x dx, d = .loc x ∧ μ x = some (.ins Cl dx) ∧ μ dx = some (.dict fs)
theorem Hp.inst {g s v d Cl fs} (hp : Hp G μ g s) (r : Rel g v d) (h : IsObj μ d Cl fs) : ∃ x dx es n, v = .ref x ∧ InstAt s.heap x (instObj Cl dx) Cl (some (dictOf es n)) ∧ RelF g es fs := by
  rcases h with rfl | ⟨x, dx, rfl, h1, h2⟩
  · cases r with
    | obj a b c d e => exact ⟨_, _, _, _, rfl, ⟨hp.cov _ _ a, rfl, rfl, hp.cov _ _ b⟩, c, d, e⟩
  · obtain rfl := r.loc_inv
    obtain ⟨_, o, ho, rfl⟩ := hp.mt x _ h1
    obtain ⟨_, o', ho', es, n, rfl, hr⟩ := hp.mt dx _ h2
    exact ⟨x, dx, es, n, rfl, ⟨ho, rfl, rfl, ho'⟩, hr⟩
theorem RelF.find {g : PH} : ∀ {es : List DictEntry} {fs : List (Str × D)} {name : Str}, RelF g es fs →
    (∀ d, fs.lookup name = some d → ∃ v, getL name es = some (some v) ∧ Rel g v d) ∧ (fs.lookup name = Option.none → getL name es = some Option.none)
  | [], [], name, _ => ⟨fun d h => by simp at h, fun _ => rfl⟩
  | [], _ :: _, _, h => by simp [RelF] at h
  | _ :: _, [], _, h => by simp [RelF] at h
  | e :: es, (nm, d0) :: fs, name, h => by
    have ht : RelF g es fs := ⟨by simpa using h.1, fun i a b x y => h.2.1 (i + 1) a b (by simpa using x) (by simpa using y), fun i a b x y => h.2.2 (i + 1) a b (by simpa using x) (by simpa using y)⟩
    obtain ⟨t, hk⟩ := h.2.1 0 e (nm, d0) rfl rfl
    have hv := h.2.2 0 e (nm, d0) rfl rfl
    have ih := ht.find (name := name)
    have hs : e.key.isStr name = (name == nm) := by
      rw [hk]
      show (nm == name) = (name == nm)
      exact Bool.beq_comm
    rw [List.lookup_cons]
    unfold getL at ih ⊢
    rw [List.find?_cons, hs]
    cases q : name == nm with
    | true => exact ⟨fun d e' => by simp at e'; subst e'; exact ⟨e.val, rfl, hv⟩, fun e' => by simp at e'⟩
    | false =>
      have e1 : e.refKey = false := by simp [DictEntry.refKey, hk]
      have e2 : ((e :: es).any fun x => x.refKey) = es.any fun x => x.refKey := by rw [List.any_cons, e1, Bool.false_or]
      simp only [e2]
      exact ih
theorem handed_of {g v d} (r : Rel g v d) : handedIn v = true := by cases r <;> rfl
/-- what the class must be for a field to be read -/
def Fld (G : Gl) (Cl : Addr) (name : Str) : Prop := plainGet (topT.heap_1 G.w.params) Cl name = true ∧ hasDictIn (topT.heap_1 G.w.params) Cl = true ∧ ∃ attr, findIn (topT.heap_1 G.w.params) (.ref Cl) name = some attr ∧ noGet (topT.heap_1 G.w.params) attr = true
theorem getFld {A : Around} {s : Shared} {g : PH} {name : Str} {v : Value} {d0 d : D} {Cl fs} {b : Bool} (hp : Hp G μ g s) (r : Rel g v d0) (h : IsObj μ d0 Cl fs) (hf : Fld G Cl name) (hl : fs.lookup name = some d) :
    wpAny G.M A (getAttr v name b) (fun u s' => Hp G μ g s' ∧ s'.heap = s.heap ∧ Rel g u d) (fun _ _ => False) s := by
  obtain ⟨x, dx, es, n, rfl, I, hr⟩ := hp.inst r h
  obtain ⟨h1, h2, attr, h3, h4⟩ := hf
  obtain ⟨u, hu, ru⟩ := hr.find.1 d hl
  exact get_value (G.in hp) I (plainGet_of h1).1 (findObj_own h2 h3 h4 hu) (handed_of ru) ⟨hp.tok _, rfl, ru⟩
theorem WE.attr {value : Expr} {name : Str} {Φ : D → MU → Prop} (h : WE G C ρ μ value fun d0 μ1 => ∃ Cl fs d, IsObj μ1 d0 Cl fs ∧ Fld G Cl name ∧ fs.lookup name = some d ∧ Φ d μ1)
    (he : eval (.Attribute value name pos) C.env = (do
      let o ← eval value C.env
      standAt pos.atName
      let r ← holding [o] (getAttr o name true)
      letTemporaryGo value o r
      pure r) := by with_unfolding_all rfl) : WE G C ρ μ (.Attribute value name pos) Φ := fun s g hp fm => by
  refine Attribute_any_ (wpAny_mono (h s g hp fm) ?_ fun _ _ x => x) he
  rintro v1 s1 ⟨g1, μ1, d1, hp1, st1, r1, Cl, fs, d, ho, hf, hl, φ⟩
  refine wpAny_mono (getFld hp1 r1 ho hf hl) ?_ fun _ _ x => x
  rintro u s2 ⟨hp2, e2, ru⟩
  exact ⟨g1, μ1, d, hp2, e2 ▸ st1, ru, φ⟩
end
set_option maxHeartbeats 400000
section
variable {G : Gl} {C : Cx} {ρ : Rho} {μ : MU} {pos : Pos}

/-! fields stored -/
def putF (name : Str) (d : D) : List (Str × D) → List (Str × D)
  | [] => [(name, d)]
  | (n, x) :: r => if n == name then (n, d) :: r else (n, x) :: putF name d r
theorem RelF.cons_inv {g : PH} {e es nm d0 fs} (h : RelF g (e :: es) ((nm, d0) :: fs)) : (∃ t, e.key = .str nm t) ∧ Rel g e.val d0 ∧ RelF g es fs :=
  ⟨h.2.1 0 e (nm, d0) rfl rfl, h.2.2 0 e (nm, d0) rfl rfl, by simpa using h.1, fun i a b x y => h.2.1 (i + 1) a b (by simpa using x) (by simpa using y), fun i a b x y => h.2.2 (i + 1) a b (by simpa using x) (by simpa using y)⟩
theorem RelF.cons {g : PH} {e es nm d0 fs t} (hk : e.key = .str nm t) (hv : Rel g e.val d0) (h : RelF g es fs) : RelF g (e :: es) ((nm, d0) :: fs) := by
  refine ⟨by simp [h.1], fun i a b x y => ?_, fun i a b x y => ?_⟩
  · cases i with
    | zero => simp at x y; subst x; subst y; exact ⟨t, hk⟩
    | succ i => exact h.2.1 i a b (by simpa using x) (by simpa using y)
  · cases i with
    | zero => simp at x y; subst x; subst y; exact hv
    | succ i => exact h.2.2 i a b (by simpa using x) (by simpa using y)
theorem RelF.nil {g : PH} : RelF g [] [] := ⟨rfl, fun i a b x y => by simp at x, fun i a b x y => by simp at x⟩
theorem RelF.put {g : PH} {name : Str} {v : Value} {d : D} {hsh : Int} {tk : Tok} (r : Rel g v d) : ∀ {es : List DictEntry} {fs : List (Str × D)}, RelF g es fs → RelF g (putL name hsh (.str name tk) v es) (putF name d fs)
  | [], [], _ => .cons (t := tk) rfl r .nil
  | [], _ :: _, h => by simp [RelF] at h
  | _ :: _, [], h => by simp [RelF] at h
  | e :: es, (nm, d0) :: fs, h => by
    obtain ⟨⟨t, hk⟩, hv, ht⟩ := h.cons_inv
    unfold putL putF
    have hs : e.key.isStr name = (nm == name) := by rw [hk]; rfl
    rw [hs]
    cases q : nm == name with
    | true => simp only [if_true]; exact .cons (t := t) hk r ht
    | false => simp only [Bool.false_eq_true, if_false]; exact .cons hk hv (RelF.put r ht)
theorem RelF.getL_some {g : PH} {es fs} (h : RelF g es fs) (name : Str) : (getL name es).isSome = true := by
  have := h.find (name := name)
  cases q : fs.lookup name with
  | none => rw [this.2 q]; rfl
  | some d => obtain ⟨v, e, _⟩ := this.1 d q; rw [e]; rfl
theorem all_news (h : Heap) (L dx : Addr) (od : Obj) (hdx : h.get? dx = some od) (hne : dx ≠ L) :
    ∃ l, News {} L h ([] ++ (dx, od) :: l) ∧ (∀ p ∈ l, p.1 ≠ dx) ∧ ∀ a o, h.get? a = some o → a ≠ L → a ≠ dx → (a, o) ∈ l := by
  have e0 : ∀ a : Addr, ({} : Heap).get? a = none := fun a => by simp [Heap.get?]
  refine ⟨(List.range h.objs.size).filterMap fun a => if a = L ∨ a = dx then none else (h.get? a).map fun o => (a, o), fun p hp => ?_, fun p hp => ?_, fun a o e h1 h2 => ?_⟩
  · rcases List.mem_cons.mp hp with rfl | hp
    · exact ⟨hdx, hne, e0 _⟩
    · obtain ⟨a, _, ha⟩ := List.mem_filterMap.mp hp
      split at ha
      · cases ha
      · rename_i hno
        obtain ⟨o, ho, rfl⟩ := Option.map_eq_some_iff.mp ha
        exact ⟨ho, fun q => hno (.inl q), e0 _⟩
  · obtain ⟨a, _, ha⟩ := List.mem_filterMap.mp hp
    split at ha
    · cases ha
    · rename_i hno
      obtain ⟨o, ho, rfl⟩ := Option.map_eq_some_iff.mp ha
      exact fun q => hno (.inr q)
  · refine List.mem_filterMap.mpr ⟨a, List.mem_range.mpr (Heap.lt_size e), ?_⟩
    rw [if_neg (by rintro (q | q); exact h1 q; exact h2 q), e]; rfl
/-- what the class must be for a field to be stored -/
def Sfld (G : Gl) (Cl : Addr) (name : Str) : Prop := findIn (topT.heap_1 G.w.params) (.ref Cl) "__setattr__" = some (some (.builtin "object.__setattr__")) ∧ plainOver (topT.heap_1 G.w.params) Cl = true ∧ takerIn (topT.heap_1 G.w.params) Cl name = some none ∧ hasDictIn (topT.heap_1 G.w.params) Cl = true
theorem setFld {s : Shared} {g : PH} {name : Str} {v : Value} {d : D} {x dx Cl : Addr} {fs : List (Str × D)} {Q : Unit → Shared → Prop} (hp : Hp G μ g s) (fm : Fm C ρ μ g s.heap) (h1 : μ x = some (.ins Cl dx)) (h2 : μ dx = some (.dict fs)) (hf : Sfld G Cl name) (r : Rel g v d) (hz : fs.length ≤ 900)
    (h : ∀ h' t, Hp G (μ.set dx (.dict (putF name d fs))) g { s with heap := h', toks := t } → Fm C ρ (μ.set dx (.dict (putF name d fs))) g h' → Step C.Own μ g s.heap (μ.set dx (.dict (putF name d fs))) g h' → Q () { s with heap := h', toks := t }) :
    wpAny G.M C.A (setAttr (.ref x) name v) Q (fun _ _ => False) s := by
  obtain ⟨_, o, ho, rfl⟩ := hp.mt x _ h1
  obtain ⟨hgd, o', ho', es, n, rfl, hr⟩ := hp.mt dx _ h2
  obtain ⟨hL1, hL2, oL, hL3⟩ := fm.own _ (.inl rfl)
  have hne : dx ≠ C.env.locals := by rintro q; rw [q, hL2] at h2; cases h2
  obtain ⟨l, N, l1, l2⟩ := all_news s.heap C.env.locals dx _ ho' hne
  obtain ⟨m, hn, hm⟩ := fm.ns
  have F : Fr {} C.env.locals { s with toks := s.toks + 1 }.heap m := ⟨hn, fun b o e => by simp [Heap.get?] at e, Nat.zero_le _⟩
  have I : InstAt s.heap x (instObj Cl dx) Cl (some (dictOf es n)) := ⟨ho, rfl, rfl, ho'⟩
  refine set_plain (G.in hp) I hf.1 (osa_dict (s := { s with toks := s.toks + 1 }) (pre := []) (post := l) F N (G.in (hp.tok (s.toks + 1))) I rfl hf.2.1 hf.2.2.1 hf.2.2.2 ?_ (fun _ h => nomatch h) l1 (putName_dict _ _ _ _ _ _) rfl ?_ fun h' F' N' => ?_)
  · show (lookIn name (dictOf es n)).isSome = true
    rw [lookIn_dict]; exact hr.getL_some name
  · have : (putL name (PyData.keyHash G.w.params name) (.str name (s.toks + 1)) v es).length ≤ es.length + 1 := by
      clear hr I ho' N l2 l1 F
      induction es with
      | nil => simp [putL]
      | cons e es ih => unfold putL; split <;> simp <;> omega
    have e2 := hr.1
    refine Nat.le_trans this ?_
    omega
  · have hd' : h'.get? dx = some (dictOf (putL name (PyData.keyHash G.w.params name) (.str name (s.toks + 1)) v es) (putN name es n)) := (N' (dx, _) (List.mem_append_right _ (List.Mem.head _))).1
    have k : ∀ a o, s.heap.get? a = some o → a ≠ C.env.locals → a ≠ dx → h'.get? a = some o := fun a o e q1 q2 => (N' (a, o) (List.mem_append_right _ (List.Mem.tail _ (l2 a o e q1 q2)))).1
    have hrel := RelF.put (name := name) (hsh := PyData.keyHash G.w.params name) (tk := s.toks + 1) r hr
    have hp' : ∀ t, Hp G (μ.set dx (.dict (putF name d fs))) g { s with heap := h', toks := t } := fun t => by
      refine ⟨hp.bas, fun b ob e => k b ob (hp.cov b ob e) ?_ ?_, fun b mo e => ?_, hp.gens, hp.os⟩
      · rintro rfl; rw [hL1] at e; cases e
      · rintro rfl; rw [hgd] at e; cases e
      · by_cases q : b = dx
        · subst q; rw [MU.set_self] at e; cases e; exact ⟨hgd, _, hd', _, _, rfl, hrel⟩
        · rw [MU.set_ne _ _ q] at e
          obtain ⟨z1, ob, z2, z3⟩ := hp.mt b mo e
          exact ⟨z1, ob, k b ob z2 (by rintro rfl; rw [hL2] at e; cases e) q, z3⟩
    have st : Step C.Own μ g s.heap (μ.set dx (.dict (putF name d fs))) g h' :=
      ⟨Sub.refl _, fun a o e hm hx => k a o e (fun q => hx (.inl q)) (by rintro rfl; rw [h2] at hm; cases hm), fun a e => by
        by_cases q : a = dx
        · subst q; left; rw [h2]; simp
        · rw [MU.set_ne _ _ q] at e; exact .inl e, fun _ e => .inl e⟩
    have fm' : Fm C ρ (μ.set dx (.dict (putF name d fs))) g h' := by
      have ownd : ∀ a, C.Own a → a ≠ dx := fun a ha q => by have := (fm.own a ha).2.1; rw [q, h2] at this; cases this
      refine ⟨⟨m, F'.ns, hm⟩, fun y c hc => ?_, fun a ha => ?_⟩
      · obtain ⟨ob, cv, z1, z2, z3⟩ := fm.cel y c hc
        have hmem : c ∈ C.env.cells.map (·.2) := List.mem_map_of_mem (f := (·.2)) (mem_of_lookup hc)
        exact ⟨ob, cv, k c ob z1 (by rintro rfl; exact C.hcl hmem) (ownd c (.inr hmem)), z2, z3⟩
      · obtain ⟨z1, z2, ob, z3⟩ := fm.own a ha
        refine ⟨z1, by rw [MU.set_ne _ _ (ownd a ha)]; exact z2, ?_⟩
        by_cases q : a = C.env.locals
        · subst q; obtain ⟨ob', _, _, z4, _⟩ := F'.ns; exact ⟨ob', z4⟩
        · exact ⟨ob, k a ob z3 q (ownd a ha)⟩
    exact h h' _ (hp' _) fm' st
theorem WX.setAttr {o e : Expr} {name : Str} {pos'} {Φ : FD → Rho → MU → Prop} (h : WE G C ρ μ e fun dv μ1 => WE G C ρ μ1 o fun d1 μ2 => ∃ x dx Cl fs, d1 = .loc x ∧ μ2 x = some (.ins Cl dx) ∧ μ2 dx = some (.dict fs) ∧ Sfld G Cl name ∧ fs.length ≤ 900 ∧ Φ .next ρ (μ2.set dx (.dict (putF name dv fs))))
    (hs : swapsWith e (some (.Attribute o name pos')) pos.line C.env = pure false := by rfl) : WX G C ρ μ (.Assign [.Attribute o name pos'] e pos) Φ := fun s g hp fm => by
  refine plainObj_wpAny_Assign_Attribute (wpAny_mono (h s g hp fm) ?_ fun _ _ x => x) hs
  rintro v s1 ⟨g1, μ1, dv, hp1, st1, r1, h1⟩
  have fm1 := fm.step st1
  refine wpAny_mono (h1 s1 g1 hp1 fm1) ?_ fun _ _ x => x
  rintro v2 s2 ⟨g2, μ2, d1, hp2, st2, r2, x, dx, Cl, fs, rfl, m1, m2, hf, hz, φ⟩
  have fm2 := fm1.step st2
  obtain rfl := r2.loc_inv
  refine setFld hp2 fm2 m1 m2 hf (r1.mono st2.sub) hz fun h' t hp' fm' st' => ?_
  exact ⟨g2, ρ, _, .next, hp', fm', (st1.trans st2).wk.trans st' (fun x hx _ _ => fm2.live x hx), .next, φ⟩
theorem WX.augAttr {o e : Expr} {name : Str} {op pos'} {Φ : FD → Rho → MU → Prop} (h : WE G C ρ μ o fun d1 μ1 => ∃ x dx Cl fs d0, d1 = .loc x ∧ μ1 x = some (.ins Cl dx) ∧ μ1 dx = some (.dict fs) ∧ Fld G Cl name ∧ Sfld G Cl name ∧ fs.length ≤ 900 ∧ fs.lookup name = some d0 ∧
      WE G C ρ μ1 e fun dv μ2 => ∃ d, P2 G μ2 (inplaceOp op) d0 dv d ∧ μ2 x = some (.ins Cl dx) ∧ μ2 dx = some (.dict fs) ∧ Φ .next ρ (μ2.set dx (.dict (putF name d fs)))) : WX G C ρ μ (.AugAssign (.Attribute o name pos') op e pos) Φ := fun s g hp fm => by
  refine wpAny_AugAssign_AttributeAny (wpAny_mono (h s g hp fm) ?_ fun _ _ x => x)
  rintro v1 s1 ⟨g1, μ1, d1, hp1, st1, r1, x, dx, Cl, fs, d0, rfl, m1, m2, hf, hf', hz, hl, h1⟩
  have fm1 := fm.step st1
  refine wpAny_mono (getFld hp1 r1 (.inr ⟨x, dx, rfl, m1, m2⟩) hf hl) ?_ fun _ _ x => x
  rintro v2 s2 ⟨hp2, e2, r2⟩
  have fm2 : Fm C ρ μ1 g1 s2.heap := e2 ▸ fm1
  refine wpAny_mono (h1 s2 g1 hp2 fm2) ?_ fun _ _ x => x
  rintro v3 s3 ⟨g3, μ3, dv, hp3, st3, r3, d, hop, m3, m4, φ⟩
  have fm3 := fm2.step st3
  refine wpAny_mono (hop C.A s3 g3 v2 v3 C.hh C.hu' hp3 (r2.mono st3.sub) r3) ?_ fun _ _ x => x
  rintro v4 s4 ⟨g4, hp4, st4, r4⟩
  have fm4 := fm3.step st4
  obtain rfl := r1.loc_inv
  refine setFld hp4 fm4 m3 m4 hf' r4 hz fun h' t hp' fm' st' => ?_
  exact ⟨g4, ρ, _, .next, hp', fm', ((st1.trans (e2 ▸ st3)).trans st4).wk.trans st' (fun x hx _ _ => fm4.live x hx), .next, φ⟩

/-! methods of the text's own classes -/
def Mth (G : Gl) (Cl : Addr) (name : Str) (f : Addr) : Prop := plainGet (topT.heap_1 G.w.params) Cl name = true ∧ findIn (topT.heap_1 G.w.params) (.ref Cl) name = some (some (.ref f)) ∧ isFn (topT.heap_1 G.w.params) (.ref f) = true ∧ keepIn (topT.heap_1 G.w.params) (.ref f) = true
theorem getMth {A : Around} {s : Shared} {g : PH} {name : Str} {v : Value} {d0 : D} {Cl fs f} {pl : Sem Bool} {Q : Value × List Value → Shared → Prop} (hp : Hp G μ g s) (r : Rel g v d0) (h : IsObj μ d0 Cl fs) (hf : Mth G Cl name f) (hl : fs.lookup name = none) (hq : Q (.ref f, [v]) s) :
    wpAny G.M A (getMethod v name pl) Q (fun _ _ => False) s := by
  obtain ⟨x, dx, es, n, rfl, I, hr⟩ := hp.inst r h
  obtain ⟨h1, h2, h3, h4⟩ := hf
  refine method_fn (G.in hp) I (plainGet_of h1).1 (plainGet_of h1).2 h2 (beq_iff_eq.mp h3) ?_ hq
  show (lookIn name (dictOf es n)).map _ = _
  rw [lookIn_dict, hr.find.2 hl]; rfl
theorem WE.meth {o e : Expr} {rest : List Expr} {name : Str} {p2} {Φ : D → MU → Prop} (h : WE G C ρ μ o fun d1 μ1 => ∃ Cl fs f, IsObj μ1 d1 Cl fs ∧ Mth G Cl name f ∧ fs.lookup name = none ∧ WL G C ρ μ1 pos (e :: rest) fun ds μ2 => Fn G f C.n (d1 :: ds) μ2 Φ)
    (hc : eval (.Call (.Attribute o name p2) (e :: rest) [] pos) C.env = (do
      let ov ← eval o C.env
      standAt p2.atName
      let (f, first) ← holding [ov] (getMethod ov name (do return (← importBound o C.env).getD true))
      callWith pos f first (backTo pos (starEach (e :: rest) C.env)) (backToKw pos (keywordEach [] C.env))) := by rfl)
    (he : starEach (e :: rest) C.env = (false, eval e C.env) :: starEach rest C.env := by rfl) (hpl : (backTo pos (starEach rest C.env)).any (·.1) = false := by rfl) :
    WE G C ρ μ (.Call (.Attribute o name p2) (e :: rest) [] pos) Φ := fun s g hp fm => by
  refine methodCall_KW (wpAny_mono (h s g hp fm) ?_ fun _ _ x => x) hc
  rintro v1 s1 ⟨g1, μ1, d1, hp1, st1, r1, Cl, fs, f, ho, hf, hl, h1⟩
  refine getMth hp1 r1 ho hf hl (callWith_K (first := [v1]) (G.in hp1) hf.2.2.2 (wpAny_mono (h1 s1 g1 hp1 (fm.step st1)) ?_ fun _ _ x => x) he hpl)
  rintro vs s2 ⟨g2, μ2, ds, hp2, st2, r2, h2⟩
  refine ⟨G.in hp2, wpAny_mono (h2.use C.hh C.hd C.hu hp2 (.cons (r1.mono st2.sub) r2)) ?_ fun _ _ x => x⟩
  rintro v s3 ⟨g3, μ3, d, hp3, st3, r3, φ⟩
  exact ⟨g3, μ3, d, hp3, (st1.trans st2).trans st3, r3, φ⟩
theorem WE.meth0 {o : Expr} {name : Str} {p2} {Φ : D → MU → Prop} (h : WE G C ρ μ o fun d1 μ1 => ∃ Cl fs f, IsObj μ1 d1 Cl fs ∧ Mth G Cl name f ∧ fs.lookup name = none ∧ Fn G f C.n [d1] μ1 Φ)
    (hc : eval (.Call (.Attribute o name p2) [] [] pos) C.env = (do
      let ov ← eval o C.env
      standAt p2.atName
      let (f, first) ← holding [ov] (getMethod ov name (do return (← importBound o C.env).getD true))
      callWith pos f first (backTo pos (starEach [] C.env)) (backToKw pos (keywordEach [] C.env))) := by rfl) :
    WE G C ρ μ (.Call (.Attribute o name p2) [] [] pos) Φ := fun s g hp fm => by
  refine methodCall_KW (wpAny_mono (h s g hp fm) ?_ fun _ _ x => x) hc
  rintro v1 s1 ⟨g1, μ1, d1, hp1, st1, r1, Cl, fs, f, ho, hf, hl, h1⟩
  refine getMth hp1 r1 ho hf hl (callWith_K0 (first := [v1]) (G.in hp1) hf.2.2.2 (wpAny_mono (h1.use C.hh C.hd C.hu hp1 (.cons r1 .nil)) ?_ fun _ _ x => x))
  rintro v s3 ⟨g3, μ3, d, hp3, st3, r3, φ⟩
  exact ⟨g3, μ3, d, hp3, st1.trans st3, r3, φ⟩

/-! a new object -/
def Cls (G : Gl) (Cl fI : Addr) : Prop := makesIn (topT.heap_1 G.w.params) Cl = true ∧ findIn (topT.heap_1 G.w.params) (.ref Cl) "__init__" = some (some (.ref fI)) ∧ isFn (topT.heap_1 G.w.params) (.ref fI) = true
theorem WE.new {x : Str} {Cl fI : Addr} {p} {e : Expr} {rest : List Expr} {Φ : D → MU → Prop} (hx : C.env.kindOf x = some .globalImplicit) (hn : nsIn (topT.heap_1 G.w.params) mainGlobals x = some (some (.ref Cl))) (hkp : keepIn (topT.heap_1 G.w.params) (.ref Cl) = true) (hcl : Cls G Cl fI)
    (h : WL G C ρ μ pos (e :: rest) fun ds μ1 => ∀ a dx, μ1 a = none → μ1 dx = none → a ≠ dx → ∃ m, m + 1 ≤ C.n ∧ Fn G fI m (.loc a :: ds) ((μ1.set dx (.dict [])).set a (.ins Cl dx)) fun d μ2 => d = .none ∧ Φ (.loc a) μ2)
    (he : starEach (e :: rest) C.env = (false, eval e C.env) :: starEach rest C.env := by rfl) (hpl : (backTo pos (starEach rest C.env)).any (·.1) = false := by rfl)
    (hd : (x == ("__debug__" : Str)) = false := by decide) :
    WE G C ρ μ (.Call (.Name x p) (e :: rest) [] pos) Φ := fun s g hp fm => by
  refine Call_Name rfl (name_glob hp hx hn (callWith_K (first := []) (G.in hp) hkp (wpAny_mono (h s g hp fm) ?_ fun _ _ x => x) he hpl) hd)
  rintro vs s1 ⟨g1, μ1, ds, hp1, st1, r1, h2⟩
  refine ⟨G.in hp1, wpAny_call ?_⟩
  obtain ⟨hh, gg, dd, tt, os⟩ := s1
  have n1 : hh.get? hh.objs.size = none := Heap.size_none hh
  have n2 : hh.get? (hh.objs.size + 1) = none := by
    cases q : hh.get? (hh.objs.size + 1) with
    | none => rfl
    | some o => exact absurd (Heap.lt_size q) (by simp)
  obtain ⟨m, hm, hf⟩ := h2 (hh.objs.size + 1) hh.objs.size (hp1.mfresh n2) (hp1.mfresh n1) (by simp)
  have hp2 := hp1.pushM emptyDict (.dict []) rfl ⟨[], 0, rfl, .nil⟩
  have hsz : (hh.push emptyDict).objs.size = hh.objs.size + 1 := Heap.size_push ..
  have hp3 := hp2.pushM (instObj Cl hh.objs.size) (.ins Cl hh.objs.size) rfl rfl
  have st2 : Step no μ1 g1 hh (μ1.set hh.objs.size (.dict [])) g1 (hh.push emptyDict) := Step.pushM _ _
  have st3 : Step no (μ1.set hh.objs.size (.dict [])) g1 (hh.push emptyDict) ((μ1.set hh.objs.size (.dict [])).set (hh.push emptyDict).objs.size (.ins Cl hh.objs.size)) g1 ((hh.push emptyDict).push (instObj Cl hh.objs.size)) := Step.pushM _ _
  simp only [hsz] at hp3 st3
  refine make_core (makes_of (G.in hp1) hcl.1) (looks_findIn (G.in hp1) hcl.2.1) (fun self => bind_fn (G.in hp1) self (beq_iff_eq.mp hcl.2.2)) (.inl rfl) ?_
  refine codeAny_mono (hf (C.A.under (.builtin "type.__call__" ⟨.ref Cl :: vs, []⟩)) _ g1 _ C.hh ?_ ?_ hp3 (.cons (.loc _) r1)) ?_
  · rw [depth_under_make]; have := C.hd; omega
  · show C.A.units + 1 + 8 * m + 120 < cLine
    have := C.hu; omega
  · rintro (e' | (_ | _ | _ | v)) s4 hr
    · exact hr
    · exact hr
    · exact hr
    · exact hr
    · obtain ⟨g4, μ4, d, hp4, st4, r4, rfl, φ⟩ := hr
      obtain rfl := r4.none_inv
      refine ⟨rfl, ?_⟩
      exact ⟨g4, μ4, _, hp4, ((st1.trans st2).trans st3).trans st4, .loc _, φ⟩
theorem WE.frozenObj {e} {Φ : D → MU → Prop} (h : WE G C ρ μ e fun d μ1 => ∃ x dx Cl fs, d = .loc x ∧ μ1 x = some (.ins Cl dx) ∧ μ1 dx = some (.dict fs) ∧ Φ (.obj Cl fs) ((μ1.del x).del dx)) : WE G C ρ μ e Φ := fun s g hp fm => by
  refine wpAny_mono (h s g hp fm) ?_ fun _ _ x => x
  rintro v s1 ⟨g1, μ1, d, hp1, st1, r1, x, dx, Cl, fs, rfl, m1, m2, φ⟩
  have hne : dx ≠ x := by rintro rfl; rw [m1] at m2; cases m2
  obtain ⟨hg, o, ho, rfl⟩ := hp1.mt x _ m1
  obtain ⟨hg', o', ho', es, n, rfl, hr⟩ := hp1.mt dx _ m2
  obtain rfl := r1.loc_inv
  have hp2 := hp1.freeze m1 ho
  have m2' : (μ1.del x) dx = some (.dict fs) := by rw [MU.del_ne _ hne]; exact m2
  have hg2 : (g1.set x (instObj Cl dx)) dx = none := by rw [PH.set_ne _ _ hne]; exact hg'
  have hp3 := hp2.freeze m2' ho'
  have st2 : Step no μ1 g1 s1.heap (μ1.del x) (g1.set x (instObj Cl dx)) s1.heap := Step.freeze m1 hg
  have st3 : Step no (μ1.del x) (g1.set x (instObj Cl dx)) s1.heap ((μ1.del x).del dx) ((g1.set x (instObj Cl dx)).set dx (dictOf es n)) s1.heap := Step.freeze m2' hg2
  have hr' := hr.mono (st2.sub.trans st3.sub)
  exact ⟨_, _, _, hp3, (st1.trans st2).trans st3, .obj (st3.sub _ _ (PH.set_self _ _ _)) (PH.set_self _ _ _) hr'.1 hr'.2.1 hr'.2.2, φ⟩
end
set_option maxHeartbeats 400000
/-! what is gone through -/
/-- an iterator: St says where it stands; item: what comes at a turn -/
structure IterOk (G : Gl) (I : Addr) (item : Nat → MU → Option D) (Val : MU → Prop) (St : Nat → PH → Heap → Prop) : Prop where
  frame : ∀ i g h g' h', St i g h → (∀ o, h.get? I = some o → h'.get? I = some o) → Sub g g' → St i g' h'
  live : ∀ i g h, St i g h → ∃ o, h.get? I = some o
  next : ∀ (A : Around) (s : Shared) (g : PH) (μ : MU) (i : Nat) (d : D) (Q : Option Value → Shared → Prop), A.handled = none → Hp G μ g s → Val μ → μ I = none → St i g s.heap → item i μ = some d →
    (∀ h' v t, Rel g v d → Heap.SameBut I s.heap h' → St (i + 1) g h' → Q (some v) { s with heap := h', toks := t }) → wpAny G.M A (pyNext (.ref I)) Q (fun _ _ => False) s
  stop : ∀ (A : Around) (s : Shared) (g : PH) (μ : MU) (i : Nat) (Q : Option Value → Shared → Prop), A.handled = none → Hp G μ g s → Val μ → μ I = none → St i g s.heap → item i μ = none →
    (∀ h' t, Heap.ExtBut I s.heap h' → Q none { s with heap := h', toks := t }) → wpAny G.M A (pyNext (.ref I)) Q (fun _ _ => False) s
  own : ∀ (A : Around) (s : Shared) (g : PH) (i : Nat) (target : Expr) (v : Value) (Q : Unit → Shared → Prop), St i g s.heap → Q () s → wpAny G.M A (letOwnedTupleGo target (.ref I) v) Q (fun _ _ => False) s
  self : ∀ (A : Around) (s : Shared) (g : PH) (i : Nat) (Q : Value → Shared → Prop), St i g s.heap → Q (.ref I) s → wpAny G.M A (pyIter (.ref I)) Q (fun _ _ => False) s
/-- data that may be gone through -/
def ItD (G : Gl) (d : D) (item : Nat → MU → Option D) (Val : MU → Prop) : Prop :=
  ∀ (A : Around) (s : Shared) (g : PH) (μ : MU) (v : Value) (Q : Value → Shared → Prop), Hp G μ g s → Val μ → Rel g v d →
    (∀ I St h', IterOk G I item Val St → s.heap.get? I = none → (∀ a o, s.heap.get? a = some o → h'.get? a = some o) → St 0 g h' → Q (.ref I) { s with heap := h' }) → wpAny G.M A (pyIter v) Q (fun _ _ => False) s

theorem owned_list {M : Model} {A : Around} {E : Value → Shared → Prop} {s : Shared} {target : Expr} {I l : Addr} {i : Nat} {v : Value} {Q : Unit → Shared → Prop} (hit : s.heap.IsListIter I l i) (h : Q () s) : wpAny M A (letOwnedTupleGo target (.ref I) v) Q E s := by
  obtain ⟨o, ho, hc, hd⟩ := hit
  have key : ∀ v' : Value, wpAny M A (letOwnedTupleGo (.List [] default) (.ref I) v') Q E s := fun v' => by
    unfold letOwnedTupleGo
    cases v' with
    | ref T =>
      refine wpAny_bind (wpAny_load ho ?_)
      rw [hc, hd]
      dsimp only
      rw [if_neg (by
        rw [show (["enumerate", "zip", "dict_itemiterator", "dict_reverseitemiterator", "odict_iterator", "itertools.zip_longest", "itertools.pairwise"].contains "list_iterator") = false from by decide, Bool.false_and]
        exact Bool.false_ne_true)]
      exact wpAny_pure h
    | _ => exact wpAny_pure h
  cases target <;> first | exact wpAny_pure h | exact key v
theorem owned_range {M : Model} {A : Around} {E : Value → Shared → Prop} {s : Shared} {target : Expr} {I : Addr} {a b c : Int} {v : Value} {Q : Unit → Shared → Prop} (hit : IsRangeIter s.heap I a b c) (h : Q () s) : wpAny M A (letOwnedTupleGo target (.ref I) v) Q E s := by
  have key : ∀ v' : Value, wpAny M A (letOwnedTupleGo (.List [] default) (.ref I) v') Q E s := fun v' => by
    unfold letOwnedTupleGo
    cases v' with
    | ref T =>
      refine wpAny_bind (wpAny_load hit ?_)
      dsimp only
      rw [if_neg (by
        rw [show (["enumerate", "zip", "dict_itemiterator", "dict_reverseitemiterator", "odict_iterator", "itertools.zip_longest", "itertools.pairwise"].contains "range_iterator") = false from by decide, Bool.false_and]
        exact Bool.false_ne_true)]
      exact wpAny_pure h
    | _ => exact wpAny_pure h
  cases target <;> first | exact wpAny_pure h | exact key v

section
variable {G : Gl}
theorem Heap.IsListIter.at2 {h h' : Heap} {I a : Addr} {i : Nat} (x : h.IsListIter I a i) (e : ∀ o, h.get? I = some o → h'.get? I = some o) : h'.IsListIter I a i := let ⟨o, ho, r⟩ := x; ⟨o, e _ ho, r⟩
/-- a list as it stands -/
theorem ItD.lst {l : List D} : ItD G (.lst l) (fun i _ => l[i]?) (fun _ => True) := fun A s g μ v Q hp _ r h => by
  obtain ⟨a, n, vs, rfl, h1, h4⟩ := r.lst_inv
  have hl : s.heap.IsList a vs.toArray := ⟨_, hp.cov _ _ h1, rfl, n, rfl⟩
  refine wpAny_pyIter_list hl ?_
  refine h s.heap.objs.size (fun i g' h' => h'.IsListIter s.heap.objs.size a i ∧ Sub g g') _ ?_ (Heap.size_none _) (fun _ _ e => Heap.get?_push_of_some _ e) ⟨⟨_, Heap.get?_push_size _ rfl, rfl, rfl⟩, Sub.refl g⟩
  have lst : ∀ {s2 : Shared} {g2 : PH} {μ2 : MU}, Hp G μ2 g2 s2 → Sub g g2 → s2.heap.IsList a vs.toArray := fun hp2 hs => ⟨_, hp2.cov _ _ (hs _ _ h1), rfl, n, rfl⟩
  refine ⟨fun i g1 h1' g2 h2' st e hs => ⟨Heap.IsListIter.at2 st.1 e, st.2.trans hs⟩, fun i g1 h1' st => let ⟨o, ho, _⟩ := st.1; ⟨o, ho⟩, ?_, ?_, fun A s2 g2 i t v Q st q => owned_list st.1 q, fun A s2 g2 i Q st q => wpAny_pyIter_listiter st.1 q⟩
  · intro A2 s2 g2 μ2 i d Q2 hh hp2 _ _ st hi k
    obtain ⟨u, hu, ru⟩ := h4.get hi
    exact wpAny_pyNext_list_item st.1 (lst hp2 st.2) (x := u) (by simpa using hu) fun h' hit' hs' => k h' u s2.toks (ru.mono st.2) hs' ⟨hit', st.2⟩
  · intro A2 s2 g2 μ2 i Q2 hh hp2 _ _ st hi k
    refine wpAny_pyNext_list_end hh st.1 (lst hp2 st.2) ?_ fun h' he => ?_
    · have := List.getElem?_eq_none_iff.mp hi
      simpa [h4.1] using this
    · exact k h' s2.toks he
/-- a list that turns while it is gone through -/
theorem ItD.loc {a : Addr} : ItD G (.loc a) (fun i μ => match μ a with | some (.lst l) => l[i]? | _ => none) (fun μ => ∃ l, μ a = some (.lst l)) := fun A s g μ v Q hp hv r h => by
  obtain ⟨l, hm⟩ := hv
  obtain ⟨vs, hl, hr⟩ := hp.isList (.inl hm)
  obtain rfl := r.loc_inv
  refine wpAny_pyIter_list hl ?_
  refine h s.heap.objs.size (fun i g' h' => h'.IsListIter s.heap.objs.size a i) _ ?_ (Heap.size_none _) (fun _ _ e => Heap.get?_push_of_some _ e) ⟨_, Heap.get?_push_size _ rfl, rfl, rfl⟩
  refine ⟨fun i g1 h1' g2 h2' st e hs => Heap.IsListIter.at2 st e, fun i g1 h1' st => let ⟨o, ho, _⟩ := st; ⟨o, ho⟩, ?_, ?_, fun A s2 g2 i t v Q st q => owned_list st q, fun A s2 g2 i Q st q => wpAny_pyIter_listiter st q⟩
  · intro A2 s2 g2 μ2 i d Q2 hh hp2 ⟨l2, hm2⟩ _ st hi k
    rw [hm2] at hi
    obtain ⟨vs2, hl2, hr2⟩ := hp2.isList (.inl hm2)
    obtain ⟨u, hu, ru⟩ := hr2.get hi
    exact wpAny_pyNext_list_item st hl2 (x := u) (by simpa using hu) fun h' hit' hs' => k h' u s2.toks ru hs' hit'
  · intro A2 s2 g2 μ2 i Q2 hh hp2 ⟨l2, hm2⟩ _ st hi k
    rw [hm2] at hi
    obtain ⟨vs2, hl2, hr2⟩ := hp2.isList (.inl hm2)
    refine wpAny_pyNext_list_end hh st hl2 ?_ fun h' he => ?_
    · have := List.getElem?_eq_none_iff.mp hi
      simpa [hr2.1] using this
    · exact k h' s2.toks he
theorem size_one (a b : Int) : Builtin.Range.rangeSize a b 1 = ((b - a).toNat : Int) := by
  unfold Builtin.Range.rangeSize
  rw [if_pos (by decide)]
  split
  · rw [Int.ediv_one]; omega
  · omega
theorem ItD.rng {a b : Int} (ha : -(2 ^ 62) ≤ a) (hb : b < 2 ^ 62) (ha' : a < 2 ^ 62) (hb' : -(2 ^ 62) ≤ b) : ItD G (.rng a b) (fun i _ => if a + i < b then some (.int (a + i)) else none) (fun _ => True) := fun A s g μ v Q hp _ r h => by
  cases r with
  | rng h1 =>
  rename_i r t1 t2 t3
  have hr : IsRange s.heap r a b 1 t1 t2 t3 := hp.cov _ _ h1
  have hsm : Builtin.Range.small a b 1 = true := by
    unfold Builtin.Range.small Builtin.Range.rangeFitsLong
    rw [size_one]
    simp only [Bool.and_eq_true, Bool.or_eq_true, decide_eq_true_eq]
    refine ⟨⟨⟨⟨?_, ?_⟩, ?_⟩, ?_⟩, ?_⟩
    · omega
    · omega
    · omega
    · omega
    · right; simp; omega
  refine wpAny_pyIter_range hr hsm ?_
  rw [size_one]
  refine h s.heap.objs.size (fun i g' h' => IsRangeIter h' s.heap.objs.size (a + i) (((b - a).toNat : Int) - i) 1) _ ?_ (Heap.size_none _) (fun _ _ e => Heap.get?_push_of_some _ e) (by show Heap.get? _ _ = _; simpa using Heap.get?_push_size s.heap (o := { cls := .type "range_iterator", data := .fields #[rawInt a, rawInt ((b - a).toNat : Int), rawInt 1] }) rfl)
  refine ⟨fun i g1 h1' g2 h2' st e hs => e _ st, fun i g1 h1' st => ⟨_, st⟩, ?_, ?_, fun A s2 g2 i t v Q st q => owned_range st q, fun A s2 g2 i Q st q => wpAny_pyIter_rangeiter st q⟩
  · intro A2 s2 g2 μ2 i d Q2 hh hp2 _ _ st hi k
    split at hi
    · cases hi
      refine wpAny_pyNext_range_item st (by omega) fun h' hit' hs' => k h' _ _ (.int _ _) hs' ?_
      have e1 : a + ((i + 1 : Nat) : Int) = a + i + 1 := by omega
      have e2 : ((b - a).toNat : Int) - ((i + 1 : Nat) : Int) = ((b - a).toNat : Int) - i - 1 := by omega
      show IsRangeIter h' _ _ _ _
      rw [e1, e2]; exact hit'
    · cases hi
  · intro A2 s2 g2 μ2 i Q2 hh hp2 _ _ st hi k
    split at hi
    · cases hi
    · exact wpAny_pyNext_range_end hh st (by omega) fun h' he => k h' s2.toks he

/-! binding what comes -/
abbrev Cx.OwnL (C : Cx) : Addr → Prop := fun a => a = C.env.locals
/-- the target takes d: the names behind it -/
def Tgt (G : Gl) (C : Cx) (X : Addr → Prop) (target : Expr) (d : D) (ρ ρ' : Rho) : Prop :=
  ∀ (μ : MU) (s : Shared) (g : PH) (v : Value), Hp G μ g s → Fm C ρ μ g s.heap → Rel g v d →
    wpAny G.M C.A (assign target C.env v) (fun _ s' => Hp G μ g s' ∧ Fm C ρ' μ g s'.heap ∧ Step X μ g s.heap μ g s'.heap) (fun _ _ => False) s
end

section
variable {G : Gl} {C : Cx} {ρ : Rho} {μ : MU} {pos : Pos}
/-- one name, stored: exactly what turns -/
theorem store1 {x : Str} {v : Value} {d : D} {s g} {Q : Unit → Shared → Prop} (hx : C.Has x) (hp : Hp G μ g s) (fm : Fm C ρ μ g s.heap) (r : Rel g v d)
    (h : ∀ h' t, Hp G μ g { s with heap := h', toks := t } → Fm C ((x, d) :: ρ) μ g h' → Step C.Own μ g s.heap μ g h' → (C.env.kindOf x = some .local → Step C.OwnL μ g s.heap μ g h') → Q () { s with heap := h', toks := t }) : wpAny G.M C.A (storeName C.env x v) Q (fun _ _ => False) s := by
  rcases hx with ⟨hk, hc⟩ | ⟨hk, c, hc⟩
  · obtain ⟨m, hn, hm⟩ := fm.ns
    obtain ⟨hg, hμ, oL, hL⟩ := fm.own _ (.inl rfl)
    refine wpAny_storeName_local hk hn (fun h' hn' hs => ?_) (by rw [C.hk]; rfl)
    refine h h' _ (hp.own hg hμ hs _) ⟨⟨_, hn', fun y e ky he => ?_⟩, fun y c hyc => ?_, fun a ha => ?_⟩ (Step.own (.inl rfl) hs) fun _ => Step.own rfl hs
    · rcases lookup_cons_of he with ⟨rfl, rfl⟩ | ⟨q, he⟩
      · exact ⟨v, by simp, r⟩
      · obtain ⟨u, e1, e2⟩ := hm y e ky he
        exact ⟨u, by simp [q, e1], e2⟩
    · obtain ⟨o, cv, ho, hd, hr⟩ := fm.cel y c hyc
      have hca : c ≠ C.env.locals := by rintro rfl; exact C.hcl (List.mem_map_of_mem (f := (·.2)) (mem_of_lookup hyc))
      refine ⟨o, cv, (hs.2 c hca).trans ho, hd, fun e he => ?_⟩
      rcases lookup_cons_of he with ⟨rfl, rfl⟩ | ⟨q, he⟩
      · rw [hc] at hyc; cases hyc
      · exact hr e he
    · obtain ⟨h1, h2, o, ho⟩ := fm.own a ha
      refine ⟨h1, h2, ?_⟩
      by_cases q : a = C.env.locals
      · subst q; obtain ⟨o', _, _, ho', _⟩ := hn'; exact ⟨o', ho'⟩
      · exact ⟨o, (hs.2 a q).trans ho⟩
  · obtain ⟨o, cv, ho, hd, hr⟩ := fm.cel x c hc
    have hmem : c ∈ C.env.cells.map (·.2) := List.mem_map_of_mem (f := (·.2)) (mem_of_lookup hc)
    obtain ⟨hg, hμ, _⟩ := fm.own c (.inr hmem)
    have hcL : C.env.locals ≠ c := by rintro q; exact C.hcl (q ▸ hmem)
    refine wpAny_storeName_cell C.hk hk hc ⟨o, ho, hd⟩ (fun h' hn' hs => ?_)
    refine h h' s.toks (hp.own hg hμ hs s.toks) ⟨?_, fun y c' hyc => ?_, fun a ha => ?_⟩ (Step.own (.inr hmem) hs) fun q => by rw [hk] at q; cases q
    · obtain ⟨m, hn, hm⟩ := fm.ns
      refine ⟨m, hn.sameBut hs hcL, fun y e ky he => ?_⟩
      rcases lookup_cons_of he with ⟨rfl, rfl⟩ | ⟨q, he⟩
      · rw [hk] at ky; cases ky
      · exact hm y e ky he
    · by_cases q : y = x
      · subst q
        rw [hc] at hyc; cases hyc
        obtain ⟨o', ho', hd'⟩ := hn'
        refine ⟨o', _, ho', hd', fun e he => ?_⟩
        rcases lookup_cons_of he with ⟨_, rfl⟩ | ⟨q, he⟩
        · exact ⟨v, rfl, r⟩
        · exact absurd rfl q
      · obtain ⟨o', cv', ho', hd', hr'⟩ := fm.cel y c' hyc
        have hne : c' ≠ c := by
          rintro rfl
          have hp : C.env.cells.Pairwise fun a b => a.2 ≠ b.2 := List.pairwise_map.mp C.hcn
          exact q (name_of_addr hp (mem_of_lookup hyc) (mem_of_lookup hc))
        refine ⟨o', cv', (hs.2 c' hne).trans ho', hd', fun e he => ?_⟩
        rcases lookup_cons_of he with ⟨rfl, rfl⟩ | ⟨_, he⟩
        · exact absurd rfl q
        · exact hr' e he
    · obtain ⟨h1, h2, o', ho'⟩ := fm.own a ha
      refine ⟨h1, h2, ?_⟩
      by_cases q : a = c
      · subst q; obtain ⟨o', ho', _⟩ := hn'; exact ⟨o', ho'⟩
      · exact ⟨o', (hs.2 a q).trans ho'⟩
theorem Tgt.name {x : Str} {p : Pos} {d : D} (hx : C.Has x) : Tgt G C C.Own (.Name x p) d ρ ((x, d) :: ρ) := fun μ s g v hp fm r =>
  wpAny_assign_Name (store1 hx hp fm r fun h' t a b c _ => ⟨a, b, c⟩)
theorem Tgt.nameL {x : Str} {p : Pos} {d : D} (hk : C.env.kindOf x = some .local) (hc : C.env.cells.lookup x = none) : Tgt G C C.OwnL (.Name x p) d ρ ((x, d) :: ρ) := fun μ s g v hp fm r =>
  wpAny_assign_Name (store1 (.inl ⟨hk, hc⟩) hp fm r fun h' t a b _ c => ⟨a, b, c hk⟩)
theorem Step.transX {X : Addr → Prop} {μ g h h' h'' : _} (a : Step X μ g h μ g h') (b : Step X μ g h' μ g h'') : Step X μ g h μ g h'' :=
  ⟨Sub.refl _, fun x o e hm hx => b.keep x o (a.keep x o e hm hx) hm hx, fun _ e => .inl e, fun _ e => .inl e⟩
theorem rel_tup2 {g : PH} {v d1 d2} (r : Rel g v (.tup [d1, d2])) {s : Shared} (hc : ∀ a o, g a = some o → s.heap.get? a = some o) : ∃ a v1 v2, v = .ref a ∧ s.heap.IsTuple a #[v1, v2] ∧ Rel g v1 d1 ∧ Rel g v2 d2 := by
  obtain ⟨a, o, n, vs, rfl, h1, h2, h3, h4⟩ := r.tup_inv
  obtain ⟨v1, r1, rfl, q1, q2⟩ := h4.cons_inv
  obtain ⟨v2, r2, rfl, q3, q4⟩ := q2.cons_inv
  rw [q4.nil_inv] at h3
  exact ⟨a, v1, v2, rfl, ⟨o, hc _ _ h1, h2, n, h3⟩, q1, q3⟩
theorem rel_tup3 {g : PH} {v d1 d2 d3} (r : Rel g v (.tup [d1, d2, d3])) {s : Shared} (hc : ∀ a o, g a = some o → s.heap.get? a = some o) : ∃ a v1 v2 v3, v = .ref a ∧ s.heap.IsTuple a #[v1, v2, v3] ∧ Rel g v1 d1 ∧ Rel g v2 d2 ∧ Rel g v3 d3 := by
  obtain ⟨a, o, n, vs, rfl, h1, h2, h3, h4⟩ := r.tup_inv
  obtain ⟨v1, r1, rfl, q1, q2⟩ := h4.cons_inv
  obtain ⟨v2, r2, rfl, q3, q4⟩ := q2.cons_inv
  obtain ⟨v3, r3, rfl, q5, q6⟩ := q4.cons_inv
  rw [q6.nil_inv] at h3
  exact ⟨a, v1, v2, v3, rfl, ⟨o, hc _ _ h1, h2, n, h3⟩, q1, q3, q5⟩
theorem ExtBut.keeps {h h' : Heap} (x : Heap.ExtBut h.objs.size h h') : ∀ a o, h.get? a = some o → h'.get? a = some o := fun a o e => x a o (Nat.ne_of_lt (Heap.lt_size e)) e
/-- stores in order; X: what the stores may turn -/
def Hast (C : Cx) (X : Addr → Prop) (x : Str) : Prop := C.Has x ∧ ((∀ a, C.Own a → X a) ∨ (C.env.kindOf x = some .local ∧ X = C.OwnL))
theorem storeX {X : Addr → Prop} {x : Str} {p : Pos} {v : Value} {d : D} {s g} {Q : Unit → Shared → Prop} (hx : Hast C X x) (hp : Hp G μ g s) (fm : Fm C ρ μ g s.heap) (r : Rel g v d)
    (h : ∀ h' t, Hp G μ g { s with heap := h', toks := t } → Fm C ((x, d) :: ρ) μ g h' → Step X μ g s.heap μ g h' → Q () { s with heap := h', toks := t }) : wpAny G.M C.A (assign (.Name x p) C.env v) Q (fun _ _ => False) s :=
  wpAny_assign_Name (store1 hx.1 hp fm r fun h' t a b c e => h h' t a b (by rcases hx.2 with q | ⟨q1, rfl⟩; exact c.weak q; exact e q1))
theorem Tgt.two {X : Addr → Prop} {x y : Str} {p1 p2 p3 : Pos} {k : Nat} {d1 d2 : D} (hx : Hast C X x) (hy : Hast C X y) : Tgt G C X (.Tuple [.Name x p1, .Name y p2] k p3) (.tup [d1, d2]) ρ ((y, d2) :: (x, d1) :: ρ) := fun μ s g v hp fm r => by
  obtain ⟨a, v1, v2, rfl, ht, q1, q2⟩ := rel_tup2 r hp.cov
  refine wpAny_assign_Tuple C.hh ht rfl rfl fun h' he => ?_
  have k' := ExtBut.keeps he
  have hp1 := hp.junk k' s.toks
  have st1 : Step no μ g s.heap μ g h' := Step.junk k'
  have fm1 := fm.step st1
  show wpAny G.M C.A (do holding [v2] (assign (.Name x p1) C.env v1); (do holding [] (assign (.Name y p2) C.env v2); pure ())) _ _ _
  refine wpAny_bind (wpAny_holding (storeX hx hp1 fm1 q1 fun h2 t2 hp2 fm2 st2 => ?_))
  refine wpAny_bind (wpAny_holding (storeX hy hp2 fm2 q2 fun h3 t3 hp3 fm3 st3 => wpAny_pure ?_))
  exact ⟨hp3, fm3, (st1.weak fun _ h => h.elim).transX (st2.transX st3)⟩
theorem Tgt.three {X : Addr → Prop} {x y z : Str} {p1 p2 p3 p4 : Pos} {k : Nat} {d1 d2 d3 : D} (hx : Hast C X x) (hy : Hast C X y) (hz : Hast C X z) : Tgt G C X (.Tuple [.Name x p1, .Name y p2, .Name z p3] k p4) (.tup [d1, d2, d3]) ρ ((z, d3) :: (y, d2) :: (x, d1) :: ρ) := fun μ s g v hp fm r => by
  obtain ⟨a, v1, v2, v3, rfl, ht, q1, q2, q3⟩ := rel_tup3 r hp.cov
  refine wpAny_assign_Tuple C.hh ht rfl rfl fun h' he => ?_
  have k' := ExtBut.keeps he
  have hp1 := hp.junk k' s.toks
  have st1 : Step no μ g s.heap μ g h' := Step.junk k'
  have fm1 := fm.step st1
  show wpAny G.M C.A (do holding [v2, v3] (assign (.Name x p1) C.env v1); (do holding [v3] (assign (.Name y p2) C.env v2); (do holding [] (assign (.Name z p3) C.env v3); pure ()))) _ _ _
  refine wpAny_bind (wpAny_holding (storeX hx hp1 fm1 q1 fun h2 t2 hp2 fm2 st2 => ?_))
  refine wpAny_bind (wpAny_holding (storeX hy hp2 fm2 q2 fun h3 t3 hp3 fm3 st3 => ?_))
  refine wpAny_bind (wpAny_holding (storeX hz hp3 fm3 q3 fun h4 t4 hp4 fm4 st4 => wpAny_pure ?_))
  exact ⟨hp4, fm4, (st1.weak fun _ h => h.elim).transX (st2.transX (st3.transX st4))⟩

/-! unpacking in a statement -/
theorem WX.assignTgt {target e} {k tp} {elts} {Φ : FD → Rho → MU → Prop} (htg : target = .Tuple elts k tp) (h : WE G C ρ μ e fun d μ1 => ∃ ρ', Tgt G C C.Own target d ρ ρ' ∧ Φ .next ρ' μ1)
    (hs : swapsWithSole [.Tuple elts k tp] e pos.line C.env = pure false := by rfl) (hw : swappedStores [.Tuple elts k tp] e C.env = pure none := by rfl) : WX G C ρ μ (.Assign [target] e pos) Φ := fun s g hp fm => by
  subst htg
  refine Assign_Tuple (wpAny_mono (h s g hp fm) ?_ fun _ _ x => x) hs hw
  rintro v s1 ⟨g1, μ1, d, hp1, st1, r1, ρ', ht, φ⟩
  have fm1 := fm.step st1
  refine wpAny_mono (ht μ1 s1 g1 v hp1 fm1 r1) ?_ fun _ _ x => x
  rintro _ s2 ⟨hp2, fm2, st2⟩
  exact ⟨g1, ρ', μ1, .next, hp2, fm2, st1.wk.trans st2 (fun x hx _ _ => fm1.live x hx), .next, φ⟩
theorem WX.assignSwap {x y : Str} {e} {k tp p1 p2} {Φ : FD → Rho → MU → Prop} (hx : C.Has x) (hy : C.Has y) (h : WE G C ρ μ e fun d μ1 => ∃ d1 d2, d = .tup [d1, d2] ∧ Φ .next ((x, d1) :: (y, d2) :: ρ) μ1)
    (hs : swapsWithSole [.Tuple [.Name x p1, .Name y p2] k tp] e pos.line C.env = pure false := by rfl) (hw : swappedStores [.Tuple [.Name x p1, .Name y p2] k tp] e C.env = pure (some [x, y]) := by rfl) : WX G C ρ μ (.Assign [.Tuple [.Name x p1, .Name y p2] k tp] e pos) Φ := fun s g hp fm => by
  refine Assign_Tuple_swapped (names := [x, y]) (wpAny_mono (h s g hp fm) ?_ fun _ _ x => x) hs hw
  rintro v s1 ⟨g1, μ1, d, hp1, st1, r1, d1, d2, rfl, φ⟩
  have fm1 := fm.step st1
  obtain ⟨a, v1, v2, rfl, ht, q1, q2⟩ := rel_tup2 r1 hp1.cov
  refine wpAny_unpackItems_tuple (items := #[v1, v2]) C.hh ht fun h' he => ?_
  have k' := ExtBut.keeps he
  have hp1' := hp1.junk k' s1.toks
  have st1' : Step no μ1 g1 s1.heap μ1 g1 h' := Step.junk k'
  have fm1' := fm1.step st1'
  show wpAny G.M C.A (do holding [v1] (bindName C.env y v2); (do holding [] (bindName C.env x v1); pure ())) _ _ _
  refine wpAny_bind (wpAny_holding (wpAny_bindName (store1 hy hp1' fm1' q2 fun h2 t2 hp2 fm2 st2 _ => ?_)))
  refine wpAny_bind (wpAny_holding (wpAny_bindName (store1 hx hp2 fm2 q1 fun h3 t3 hp3 fm3 st3 _ => wpAny_pure ?_)))
  exact ⟨g1, _, μ1, .next, hp3, fm3, (st1.trans st1').wk.trans (st2.transX st3) (fun x hx _ _ => fm1'.live x hx), .next, φ⟩
end
set_option maxHeartbeats 400000
/-- the loop of a for, its ends by their trees -/
theorem loop_for {prog : Program} {w : World} {A : Around} {s : Shared} {R : Result → Shared → Prop} {target it body env} (I : Nat → Shared → Prop)
    (turn : ∀ n s, I n s → wpAny (model prog w) A (pyNext it) (fun r s₁ => match r with
      | none => R (.ok .next) s₁
      | some v => wpAny (model prog w) A (letOwnedTupleGo target it v) (fun _ s₂ => wpAny (model prog w) A (assign target env v) (fun _ s₃ => wpAny (model prog w) A (execs body env) (fun f s₄ => match f with
          | .next | .cont => ∃ m, m < n ∧ I m s₄
          | .brk => R (.ok .next) s₄
          | .ret v => R (.ok (.ret v)) s₄) (fun _ _ => False) s₃) (fun _ _ => False) s₂) (fun _ _ => False) s₁) (fun _ _ => False) s)
    (n : Nat) (h : I n s) : codeAny (model prog w) A (.forLoop target it body [] env) R s := by
  refine codeAny_loop' rfl I (fun n s hI => ?_) n h
  show wpAny _ _ ((forTurn target it body [] env).onRaise (fun x => do noteFrame x env; theTreesLotGoes x)) _ _ s
  refine wpAny_noted ?_
  simp only [forTurn]
  refine wpAny_bind (wpAny_standAt (wpAny_bind (wpAny_onRaise (wpAny_mono (turn n s hI) (fun r s₁ h₁ => ?_) fun _ _ h' => h'.elim))))
  cases r with
  | none => exact wpAny_pure (.inr ⟨rfl, codeAny_block (wpAny_execs_nil h₁)⟩)
  | some v =>
    refine wpAny_bind (wpAny_mono h₁ (fun _ s₂ h₂ => wpAny_bind (wpAny_mono h₂ (fun _ s₃ h₃ => wpAny_bind (wpAny_mono h₃ (fun f s₄ h₄ => ?_) fun _ _ h' => h'.elim)) fun _ _ h' => h'.elim)) fun _ _ h' => h'.elim)
    cases f with
    | next => exact wpAny_pure (.inl ⟨rfl, h₄⟩)
    | cont => exact wpAny_pure (.inl ⟨rfl, h₄⟩)
    | brk => exact wpAny_pure h₄
    | ret v => exact wpAny_pure h₄

section
variable {G : Gl} {C : Cx} {ρ : Rho} {μ : MU} {pos : Pos} {Φ : FD → Rho → MU → Prop}
theorem Step.extBut {X : Addr → Prop} {μ g h μ' g' h1 h2 I} (a : Step X μ g h μ' g' h1) (hI : h.get? I = none) (e : Heap.ExtBut I h1 h2) : Step X μ g h μ' g' h2 :=
  ⟨a.sub, fun x o q hm hx => e x o (by rintro rfl; rw [hI] at q; cases q) (a.keep x o q hm hx), a.mnew, a.gnew⟩
theorem Hp.extBut {g s I} (hp : Hp G μ g s) (hg : g I = none) (hm : μ I = none) {h' : Heap} (e : Heap.ExtBut I s.heap h') (t : Nat) : Hp G μ g { s with heap := h', toks := t } :=
  ⟨hp.bas, fun a o q => e a o (by rintro rfl; rw [hg] at q; cases q) (hp.cov a o q), fun a mo q => let ⟨x, o, y, z⟩ := hp.mt a mo q; ⟨x, o, e a o (by rintro rfl; rw [hm] at q; cases q) y, z⟩, hp.gens, hp.os⟩
theorem Fm.extBut {g h h' I} (F : Fm C ρ μ g h) (hI : ¬ C.Own I) (e : Heap.ExtBut I h h') : Fm C ρ μ g h' := by
  refine ⟨?_, fun x c hc => ?_, fun a ha => ?_⟩
  · obtain ⟨m, ⟨o, es, ep, ho, r⟩, hm⟩ := F.ns
    exact ⟨m, ⟨o, es, ep, e _ o (fun q => hI (.inl q.symm)) ho, r⟩, hm⟩
  · obtain ⟨o, cv, ho, hd, hr⟩ := F.cel x c hc
    have hmem : c ∈ C.env.cells.map (·.2) := List.mem_map_of_mem (f := (·.2)) (mem_of_lookup hc)
    exact ⟨o, cv, e c o (by rintro rfl; exact hI (.inr hmem)) ho, hd, hr⟩
  · obtain ⟨h1, h2, o, ho⟩ := F.own a ha
    exact ⟨h1, h2, o, e a o (by rintro rfl; exact hI ha) ho⟩
/-- an address stays apart -/
theorem Step.stays_out {X : Addr → Prop} {μ g h μ' g' h' I} (a : Step X μ g h μ' g' h') (h1 : μ I = none) (h2 : g I = none) (h3 : h.get? I ≠ none) : μ' I = none ∧ g' I = none := by
  refine ⟨?_, ?_⟩
  · cases q : μ' I with
    | none => rfl
    | some m => rcases a.mnew I (by rw [q]; simp) with e | e
                · exact absurd h1 e
                · exact absurd e h3
  · cases q : g' I with
    | none => rfl
    | some m => rcases a.gnew I (by rw [q]; simp) with e | e | e
                · exact absurd h2 e
                · exact absurd h1 e
                · exact absurd e h3

/-- how a loop is gone through -/
def ForP (G : Gl) (C : Cx) (ρ : Rho) (target : Expr) (body : List Stmt) (Φ : FD → Rho → MU → Prop) (d0 : D) (μ1 : MU) (item : Nat → MU → Option D) (Val : MU → Prop) (N : Nat) (Inv : Nat → Rho → MU → Prop) : Prop :=
  (ItD G d0 item Val ∧ Inv 0 ρ μ1) ∧ (∀ i ρi μi, Inv i ρi μi → Val μi ∧ i ≤ N) ∧
  (∀ i ρi μi d, Inv i ρi μi → item i μi = some d → ∃ ρ', Tgt G C C.Own target d ρi ρ' ∧ WS G C ρ' μi body fun φ ρ2 μ2 => match φ with
      | .next => Inv (i + 1) ρ2 μ2
      | .cont => Inv (i + 1) ρ2 μ2
      | .brk => Φ .next ρ2 μ2
      | .ret d => Φ (.ret d) ρ2 μ2) ∧
  (∀ i ρi μi, Inv i ρi μi → item i μi = none → Φ .next ρi μi)
theorem WX.forG {target iter body} (h : WE G C ρ μ iter fun d μ1 => ∃ item Val N Inv, ForP G C ρ target body Φ d μ1 item Val N Inv)
    (hs : ∀ x, foldedSetIterable iter C.env x = pure x := by intro _; rfl) : WX G C ρ μ (.For target iter body [] pos) Φ := fun s g hp fm => by
  refine wpAny_For (wpAny_mono (h s g hp fm) ?_ fun _ _ x => x) hs
  rintro v s1 ⟨g1, μ1, d, hp1, st1, r1, item, Val, N, Inv, ⟨hI, inv0⟩, val, turn, done⟩
  have fm1 := fm.step st1
  refine hI C.A s1 g1 μ1 v _ hp1 (val _ _ _ inv0).1 r1 fun I St h1 it hIn k1 St0 => ?_
  have hIown : ¬ C.Own I := fun q => fm1.live I q hIn
  have hs0 : s.heap.get? I = none ∨ μ I ≠ none := by
    cases q : s.heap.get? I with
    | none => exact .inl rfl
    | some o =>
      right; intro hm
      have := st1.keep I o q hm (fun z => z)
      rw [hIn] at this; cases this
  refine loop_for (fun k s' => ∃ i ρi μi gi, k = N + 1 - i ∧ Hp G μi gi s' ∧ Fm C ρi μi gi s'.heap ∧ Step C.Own μ1 g1 s1.heap μi gi s'.heap ∧ St i gi s'.heap ∧ μi I = none ∧ gi I = none ∧ Inv i ρi μi) ?_ (N + 1)
    ⟨0, ρ, μ1, g1, rfl, hp1.junk k1 s1.toks, fm1.step (Step.junk k1), (Step.junk k1).wk, St0, hp1.mfresh hIn, hp1.gfresh hIn, inv0⟩
  rintro k s2 ⟨i, ρi, μi, gi, rfl, hp2, fm2, st2, Sti, hm, hg, inv⟩
  have hiN := (val _ _ _ inv).2
  cases hit : item i μi with
  | none =>
    refine it.stop C.A s2 gi μi i _ C.hh hp2 (val _ _ _ inv).1 hm Sti hit fun h' t e => ?_
    have hp3 := hp2.extBut hg hm e t
    exact ⟨gi, ρi, μi, .next, hp3, fm2.extBut hIown e, st1.wk.trans (st2.extBut hIn e) (fun x hx _ _ => fm1.live x hx), .next, done _ _ _ inv hit⟩
  | some d =>
    refine it.next C.A s2 gi μi i d _ C.hh hp2 (val _ _ _ inv).1 hm Sti hit fun h' u t ru hsb Sti' => ?_
    have e := hsb.extBut
    have hp3 := hp2.extBut hg hm e t
    have fm3 := fm2.extBut hIown e
    have st3 := st2.extBut hIn e
    refine it.own C.A _ gi (i + 1) target u _ Sti' ?_
    obtain ⟨ρ', ht, hb⟩ := turn i ρi μi d inv hit
    refine wpAny_mono (ht μi { s2 with heap := h', toks := t } gi u hp3 fm3 ru) ?_ fun _ _ x => x
    rintro _ s4 ⟨hp4, fm4, st4⟩
    refine wpAny_mono (hb s4 gi hp4 fm4) ?_ fun _ _ x => x
    rintro f s5 ⟨g5, ρ5, μ5, φ, hp5, fm5, st5, fr, hφ⟩
    have st45 : Step C.Own μi gi h' μ5 g5 s5.heap := st4.trans st5 (fun x hx _ _ => fm4.live x hx)
    have stA : Step C.Own μ1 g1 s1.heap μ5 g5 s5.heap := st3.trans st45 (fun x hx _ _ => fm3.live x hx)
    have stAll : Step C.Own μ g s.heap μ5 g5 s5.heap := st1.wk.trans stA (fun x hx _ _ => fm1.live x hx)
    obtain ⟨oI, hoI⟩ := it.live _ _ _ Sti'
    have keepI : ∀ o, h'.get? I = some o → s5.heap.get? I = some o := fun o q => st45.keep I o q hm hIown
    obtain ⟨hm5, hg5⟩ := st45.stays_out hm hg (by rw [hoI]; simp)
    have Sti5 := it.frame (i + 1) gi h' g5 s5.heap Sti' keepI st45.sub
    cases fr with
    | next => exact ⟨N + 1 - (i + 1), by omega, i + 1, ρ5, μ5, g5, rfl, hp5, fm5, stA, Sti5, hm5, hg5, hφ⟩
    | cont => exact ⟨N + 1 - (i + 1), by omega, i + 1, ρ5, μ5, g5, rfl, hp5, fm5, stA, Sti5, hm5, hg5, hφ⟩
    | brk => exact ⟨g5, ρ5, μ5, .next, hp5, fm5, stAll, .next, hφ⟩
    | ret r => exact ⟨g5, ρ5, μ5, _, hp5, fm5, stAll, .ret r, hφ⟩
theorem WX.for {target iter body} {item : Nat → MU → Option D} {Val : MU → Prop} (N : Nat) (Inv : Nat → Rho → MU → Prop)
    (h : WE G C ρ μ iter fun d μ1 => ItD G d item Val ∧ Inv 0 ρ μ1)
    (val : ∀ i ρi μi, Inv i ρi μi → Val μi ∧ i ≤ N)
    (turn : ∀ i ρi μi d, Inv i ρi μi → item i μi = some d → ∃ ρ', Tgt G C C.Own target d ρi ρ' ∧ WS G C ρ' μi body fun φ ρ2 μ2 => match φ with
      | .next => Inv (i + 1) ρ2 μ2
      | .cont => Inv (i + 1) ρ2 μ2
      | .brk => Φ .next ρ2 μ2
      | .ret d => Φ (.ret d) ρ2 μ2)
    (done : ∀ i ρi μi, Inv i ρi μi → item i μi = none → Φ .next ρi μi)
    (hs : ∀ x, foldedSetIterable iter C.env x = pure x := by intro _; rfl) : WX G C ρ μ (.For target iter body [] pos) Φ :=
  WX.forG (TT.mono h fun d μ1 x => ⟨item, Val, N, Inv, x, val, turn, done⟩) hs

theorem WX.while {test body} (Inv : Nat → Rho → MU → Prop) (n : Nat) (h : Inv n ρ μ)
    (turn : ∀ k ρi μi, Inv k ρi μi → WB G C ρi μi test fun b μ2 => if b = true then WS G C ρi μ2 body fun φ ρ3 μ3 => match φ with
      | .next => ∃ m, m < k ∧ Inv m ρ3 μ3
      | .cont => ∃ m, m < k ∧ Inv m ρ3 μ3
      | .brk => Φ .next ρ3 μ3
      | .ret d => Φ (.ret d) ρ3 μ3
    else Φ .next ρi μ2) : WX G C ρ μ (.While test body [] pos) Φ := fun s g hp fm => by
  refine wpAny_While (codeAny_whileLoop (fun k s' => ∃ ρi μi gi, Hp G μi gi s' ∧ Fm C ρi μi gi s'.heap ∧ Step C.Own μ g s.heap μi gi s'.heap ∧ Inv k ρi μi) ?_ n ⟨ρ, μ, g, hp, fm, Step.refl .., h⟩)
  rintro k s1 ⟨ρi, μi, gi, hp1, fm1, st1, inv⟩
  refine wpAny_mono (turn k ρi μi inv s1 gi hp1 fm1) ?_ fun _ _ x => x.elim
  rintro b s2 ⟨g2, μ2, _, hp2, st2, rfl, hb⟩
  have fm2 := fm1.step st2
  have st12 : Step C.Own μ g s.heap μ2 g2 s2.heap := st1.trans st2.wk (fun x hx _ _ => fm1.live x hx)
  cases b with
  | false =>
    simp only [Bool.false_eq_true, if_false] at hb ⊢
    exact wpAny_execs_nil ⟨g2, ρi, μ2, .next, hp2, fm2, st12, .next, hb⟩
  | true =>
    simp only [if_true] at hb ⊢
    refine wpAny_mono (hb s2 g2 hp2 fm2) ?_ fun _ _ x => x.elim
    rintro f s3 ⟨g3, ρ3, μ3, φ, hp3, fm3, st3, fr, hφ⟩
    have st := st12.trans st3 (fun x hx _ _ => fm2.live x hx)
    cases fr with
    | next => obtain ⟨m, hm, hi⟩ := hφ; exact ⟨m, hm, ρ3, μ3, g3, hp3, fm3, st, hi⟩
    | cont => obtain ⟨m, hm, hi⟩ := hφ; exact ⟨m, hm, ρ3, μ3, g3, hp3, fm3, st, hi⟩
    | brk => exact ⟨g3, ρ3, μ3, .next, hp3, fm3, st, .next, hφ⟩
    | ret r => exact ⟨g3, ρ3, μ3, _, hp3, fm3, st, .ret r, hφ⟩
end
set_option maxHeartbeats 1000000
abbrev testsOf (ifs : List Expr) (env : Env) : Sem Bool := forIn ifs true fun c r => if r = true then do let ok ← isTrue c env (eval c env); pure (ForInStep.yield ok) else pure (ForInStep.yield r)
theorem loop_comp {prog : Program} {w : World} {A : Around} {s : Shared} {R : Result → Shared → Prop} {elt target iter : Expr} {ifs : List Expr} {scope : Scope} {pos : Pos} {it acc : Value} {env : Env} (I : Nat → Shared → Prop)
    (turn : ∀ n s, I n s → wpAny (model prog w) A (pyNext it) (fun r s₁ => match r with
      | none => R (.ok .next) s₁
      | some v => wpAny (model prog w) A (letOwnedTupleGo target it v) (fun _ s₂ => wpAny (model prog w) A (assign target env v) (fun _ s₃ =>
          wpAny (model prog w) A (testsOf ifs env) (fun ok s₄ =>
            if ok = true then wpAny (model prog w) A (eval elt env) (fun x s₅ => wpAny (model prog w) A (call (.builtin "list.append") [acc, x]) (fun _ s₆ => ∃ m, m < n ∧ I m s₆) (fun _ _ => False) s₅) (fun _ _ => False) s₄
            else ∃ m, m < n ∧ I m s₄) (fun _ _ => False) s₃) (fun _ _ => False) s₂) (fun _ _ => False) s₁) (fun _ _ => False) s)
    (n : Nat) (h : I n s) : codeAny (model prog w) A (.compLoop (.ListComp elt [⟨target, iter, ifs, 0⟩] scope pos) 0 it acc env) R s := by
  refine codeAny_loop rfl I (fun n s hI => ?_) n h
  show wpAny _ A ((compTurn (.ListComp elt [⟨target, iter, ifs, 0⟩] scope pos) 0 it acc env).onRaise (fun x => do noteFrame x env; theTreesLotGoes x)) _ _ s
  refine wpAny_noted ?_
  rw [compTurn_list]
  refine wpAny_bind (wpAny_standAt (wpAny_bind (wpAny_mono (turn n s hI) (fun r s₁ h₁ => ?_) fun _ _ h' => h'.elim)))
  cases r with
  | none => exact wpAny_pure h₁
  | some v =>
    refine wpAny_bind (wpAny_mono h₁ (fun _ s₂ h₂ => wpAny_bind (wpAny_mono h₂ (fun _ s₃ h₃ => wpAny_bind (wpAny_mono h₃ (fun ok s₄ h₄ => ?_) fun _ _ h' => h'.elim)) fun _ _ h' => h'.elim)) fun _ _ h' => h'.elim)
    cases ok with
    | false => exact wpAny_pure ⟨rfl, h₄⟩
    | true =>
      exact wpAny_bind (wpAny_bind (wpAny_mono h₄ (fun x s₅ h₅ => wpAny_bind (wpAny_mono h₅ (fun _ s₆ h₆ => wpAny_pure (wpAny_pure ⟨rfl, h₆⟩)) fun _ _ h' => h'.elim)) fun _ _ h' => h'.elim))

section
variable {G : Gl} {C : Cx} {ρ : Rho} {μ : MU} {pos : Pos}
abbrev WT (G : Gl) (C : Cx) (ρ : Rho) (μ : MU) (ifs : List Expr) (Φ : Bool → MU → Prop) : Prop := TT RB G C ρ μ (testsOf ifs C.env) Φ
theorem WT.nil {Φ : Bool → MU → Prop} (h : Φ true μ) : WT G C ρ μ [] Φ := fun s g hp fm => wpAny_tests_nil ⟨g, μ, _, hp, Step.refl .., rfl, h⟩
theorem WT.one {c : Expr} {Φ : Bool → MU → Prop} (h : WB G C ρ μ c Φ) : WT G C ρ μ [c] Φ := fun s g hp fm => wpAny_tests_one (h s g hp fm)

/-- the frame of a comprehension -/
def Cx.comp (C : Cx) (scope : Scope) (cl : List (Str × Addr)) (L2 : Addr) (ok : CxOk C.A (compEnvC scope cl L2 C.env) C.n) : Cx := ⟨C.A, compEnvC scope cl L2 C.env, C.n, ok⟩
theorem Step.forget {X : Addr → Prop} {μ g h μ' g' h'} (a : Step X μ g h μ' g' h') (hX : ∀ x, X x → h.get? x = none) : Step no μ g h μ' g' h' :=
  ⟨a.sub, fun x o e hm _ => a.keep x o e hm (fun q => by rw [hX x q] at e; cases e), a.mnew, a.gnew⟩

structure CompOk (C : Cx) (ρ : Rho) (scope : Scope) (cl : List (Str × Addr)) (ρ0 : Rho) : Prop where
  clos : closureFor scope C.env = pure cl
  cell : ∀ y ∈ scope.names, y.2 ≠ .cell
  kind : scope.kind = .function
  names : ∀ y ∈ scope.names, y.2 = .local → scope.names.lookup y.1 = some .local
  sub : ∀ x c, (x, c) ∈ cl → C.env.cells.lookup x = some c
  nd : (cl.map (·.2)).Nodup
  rho : ∀ x d, ρ0.lookup x = some d → ρ.lookup x = some d ∧ (relabel scope C.env).names.lookup x ≠ some .local

/-- the block of a comprehension: from its source's iterator to its list -/
theorem comp_block {elt target iter : Expr} {ifs : List Expr} {scope : Scope} {cl : List (Str × Addr)} {ρ0 : Rho} {s1 : Shared} {g1 : PH} {μ1 : MU} {I : Addr} {h1 : Heap} {St : Nat → PH → Heap → Prop} {item : Nat → MU → Option D} {Val : MU → Prop}
    {RR : Value → Addr → Result → Shared → Prop} (N : Nat) (Inv : Nat → List D → MU → Prop)
    (hp1 : Hp G μ1 g1 s1) (fm1 : Fm C ρ μ1 g1 s1.heap) (ok : CompOk C ρ scope cl ρ0) (it : IterOk G I item Val St) (hIn : s1.heap.get? I = none) (k1 : ∀ a o, s1.heap.get? a = some o → h1.get? a = some o) (St0 : St 0 g1 h1)
    (hz : N ≤ sizeLine) (inv0 : Inv 0 [] μ1)
    (val : ∀ i acc μi, Inv i acc μi → Val μi ∧ i ≤ N ∧ acc.length ≤ i)
    (turn : ∀ i acc μi d, Inv i acc μi → item i μi = some d → ∀ L2 ok2, ∃ ρ', Tgt G (C.comp scope cl L2 ok2) (C.comp scope cl L2 ok2).OwnL target d ρ0 ρ' ∧ (∀ x d, ρ0.lookup x = some d → ρ'.lookup x = some d) ∧
      WT G (C.comp scope cl L2 ok2) ρ' μi ifs fun b μ2 => if b = true then WE G (C.comp scope cl L2 ok2) ρ' μ2 elt fun e μ3 => Inv (i + 1) (acc ++ [e]) μ3 else Inv (i + 1) acc μ2)
    (done : ∀ D L2 m (s' : Shared) i acc μ' g' ys n, Inv i acc μ' → item i μ' = none → s1.heap.get? D = none → s1.heap.get? L2 = none → D ≠ L2 → Hp G μ' g' s' → Step no μ1 g1 s1.heap μ' g' s'.heap → s'.heap.get? D = some (lstO (List.toArray ys) n) → RelL g' ys acc →
      μ' D = none → g' D = none → μ' L2 = none → g' L2 = none → s'.heap.Ns L2 m → RR (.ref D) L2 (.ok .next) s') :
    wpAny G.M C.A (newList []) (fun acc s₃ => wpAny G.M C.A (newFunctionEnv scope C.env.globals cl [] C.env.qual none .none (some C.env)) (fun cenv s₄ =>
      codeAny G.M C.A (.compStart (.ListComp elt [⟨target, iter, ifs, 0⟩] scope pos) 0 (.ref I) acc { cenv with scope := relabel scope C.env }) (RR acc cenv.locals) s₄) (fun _ _ => False) s₃) (fun _ _ => False) { s1 with heap := h1 } := by
  refine wpAny_newObj_type (wpAny_newFunctionEnv ok.cell (by intro y hy; simp at hy) (fun h2 hns2 hsb2 => ?_) ok.kind)
  dsimp only at hns2 hsb2 ⊢
  -- the two new addresses
  generalize hD : h1.objs.size = D at hns2 hsb2 ⊢
  generalize hL : (h1.push { cls := .type "list", dict := none, data := .seq ([] : List Value).toArray }).objs.size = L2 at hns2 hsb2 ⊢
  have hDn1 : h1.get? D = none := by rw [← hD]; exact Heap.size_none _
  have hDo : (h1.push { cls := .type "list", dict := none, data := .seq ([] : List Value).toArray }).get? D = some (lstO ([] : List Value).toArray 0) := by rw [← hD]; exact Heap.get?_push_size _ rfl
  have hLn : (h1.push { cls := .type "list", dict := none, data := .seq ([] : List Value).toArray }).get? L2 = none := by rw [← hL]; exact Heap.size_none _
  have hDL : D ≠ L2 := by rintro rfl; rw [hDo] at hLn; cases hLn
  have hLn1 : h1.get? L2 = none := by
    cases q : h1.get? L2 with
    | none => rfl
    | some o => rw [Heap.get?_push_of_some _ q] at hLn; cases hLn
  have hs1n : ∀ a, h1.get? a = none → s1.heap.get? a = none := fun a e => by
    cases q : s1.heap.get? a with
    | none => rfl
    | some o => rw [k1 a o q] at e; cases e
  obtain ⟨oI, hoI⟩ := it.live _ _ _ St0
  have hID : I ≠ D := by rintro rfl; rw [hDn1] at hoI; cases hoI
  have hIL : I ≠ L2 := by rintro rfl; rw [hLn1] at hoI; cases hoI
  have k2 : ∀ a o, h1.get? a = some o → h2.get? a = some o := fun a o e => hsb2.extBut a o (by rintro rfl; rw [hLn1] at e; cases e) (Heap.get?_push_of_some _ (Heap.get?_push_of_some _ e))
  have hD2 : h2.get? D = some (lstO ([] : List Value).toArray 0) := hsb2.extBut D _ hDL (Heap.get?_push_of_some _ hDo)
  have hcell : ∀ x c, (x, c) ∈ cl → C.Own c := fun x c hm => .inr (List.mem_map_of_mem (f := (·.2)) (mem_of_lookup (ok.sub x c hm)))
  have hownL : L2 ∉ cl.map (·.2) := fun q => by
    obtain ⟨⟨x, c⟩, hm, e⟩ := List.mem_map.mp q
    have e' : c = L2 := e
    subst e'
    obtain ⟨_, _, o, ho⟩ := fm1.own c (hcell x c hm)
    rw [hs1n c hLn1] at ho; cases ho
  have ok2 : CxOk C.A (compEnvC scope cl L2 C.env) C.n := ⟨ok.kind, C.hgl, C.hbi, C.hh, C.hd, C.hu, ok.nd, hownL⟩
  have fm2 : Fm (C.comp scope cl L2 ok2) ρ0 μ1 g1 h2 := by
    refine ⟨⟨_, hns2, fun x d kx e => absurd kx (ok.rho x d e).2⟩, fun x c hc => ?_, fun a ha => ?_⟩
    · obtain ⟨o, cv, ho, hd, hr⟩ := fm1.cel x c (ok.sub x c (mem_of_lookup hc))
      exact ⟨o, cv, k2 c o (k1 c o ho), hd, fun d e => hr d (ok.rho x d e).1⟩
    · rcases ha with rfl | ha
      · obtain ⟨o, _, _, ho, _⟩ := hns2
        exact ⟨hp1.gfresh (hs1n _ hLn1), hp1.mfresh (hs1n _ hLn1), o, ho⟩
      · obtain ⟨⟨x, c⟩, hm, e⟩ := List.mem_map.mp ha
        have e' : c = a := e
        subst e'
        obtain ⟨z1, z2, o, z3⟩ := fm1.own c (hcell x c hm)
        exact ⟨z1, z2, o, k2 c o (k1 c o z3)⟩
  have hp2 : ∀ t, Hp G μ1 g1 { s1 with heap := h2, toks := t } := fun t => hp1.junk (fun a o e => k2 a o (k1 a o e)) t
  have st2 : Step no μ1 g1 s1.heap μ1 g1 h2 := Step.junk fun a o e => k2 a o (k1 a o e)
  have hIown : ¬ (C.comp scope cl L2 ok2).Own I := by
    rintro (q | q)
    · exact hIL q
    · obtain ⟨⟨x, c⟩, hm, e⟩ := List.mem_map.mp q
      have e' : c = I := e
      subst e'
      obtain ⟨_, _, o, ho⟩ := fm1.own c (hcell x c hm)
      rw [hIn] at ho; cases ho
  have hDown : ¬ (C.comp scope cl L2 ok2).Own D := by
    rintro (q | q)
    · exact hDL q
    · obtain ⟨⟨x, c⟩, hm, e⟩ := List.mem_map.mp q
      have e' : c = D := e
      subst e'
      obtain ⟨_, _, o, ho⟩ := fm1.own c (hcell x c hm)
      rw [hs1n _ hDn1] at ho; cases ho
  have main : ∀ t, codeAny G.M C.A (.compLoop (.ListComp elt [⟨target, iter, ifs, 0⟩] scope pos) 0 (.ref I) (.ref D) (compEnvC scope cl L2 C.env)) (RR (.ref D) L2) { s1 with heap := h2, toks := t } := by
    intro t
    refine loop_comp (fun k s' => ∃ i acc μi gi ys n, k = N + 1 - i ∧ Hp G μi gi s' ∧ Fm (C.comp scope cl L2 ok2) ρ0 μi gi s'.heap ∧ Step no μ1 g1 s1.heap μi gi s'.heap ∧ St i gi s'.heap ∧ μi I = none ∧ gi I = none ∧
        s'.heap.get? D = some (lstO (List.toArray ys) n) ∧ RelL gi ys acc ∧ μi D = none ∧ gi D = none ∧ Inv i acc μi) ?_ (N + 1)
      ⟨0, [], μ1, g1, [], 0, rfl, hp2 t, fm2, st2, it.frame 0 g1 h1 g1 h2 St0 (k2 I) (Sub.refl _), hp1.mfresh hIn, hp1.gfresh hIn, hD2, .nil, hp1.mfresh (hs1n _ hDn1), hp1.gfresh (hs1n _ hDn1), inv0⟩
    rintro k s3 ⟨i, acc, μi, gi, ys, n, rfl, hp3, fm3, st3, Sti, hmI, hgI, hDi, hri, hmD, hgD, inv⟩
    obtain ⟨hv, hiN, hacc⟩ := val _ _ _ inv
    cases hit : item i μi with
    | none =>
      refine it.stop C.A s3 gi μi i _ C.hh hp3 hv hmI Sti hit fun h' t' e => ?_
      have fm4 := fm3.extBut hIown e
      obtain ⟨m, hn, _⟩ := fm4.ns
      obtain ⟨z1, z2, _⟩ := fm4.own L2 (.inl rfl)
      exact done D L2 m _ i acc μi gi ys n inv hit (hs1n _ hDn1) (hs1n _ hLn1) hDL (hp3.extBut hgI hmI e t') (st3.extBut hIn e) (e D _ (Ne.symm hID) hDi) hri hmD hgD z2 z1 hn
    | some d =>
      refine it.next C.A s3 gi μi i d _ C.hh hp3 hv hmI Sti hit fun h' u t' ru hsb Sti' => ?_
      have e := hsb.extBut
      have hp4 := hp3.extBut hgI hmI e t'
      have fm4 := fm3.extBut hIown e
      have st4 := st3.extBut hIn e
      have hD4 := e D _ (Ne.symm hID) hDi
      refine it.own C.A _ gi (i + 1) target u _ Sti' ?_
      obtain ⟨ρ', ht, hw, hb⟩ := turn i acc μi d inv hit L2 ok2
      refine wpAny_mono (ht μi { s3 with heap := h', toks := t' } gi u hp4 fm4 ru) ?_ fun _ _ x => x
      rintro _ s5 ⟨hp5, fm5, st5⟩
      have hD5 : s5.heap.get? D = _ := st5.keep D _ hD4 hmD hDL
      have hI5 : ∀ o, h'.get? I = some o → s5.heap.get? I = some o := fun o q => st5.keep I o q hmI hIL
      have fL : ∀ x, x = L2 → s1.heap.get? x = none := fun x q => by rw [q]; exact hs1n _ hLn1
      have st15 : Step no μ1 g1 s1.heap μi gi s5.heap := ((st4.weak (Y := fun a => a = L2) fun _ q => q.elim).trans st5 (fun x hx _ _ => by
        have hx' : x = L2 := hx
        subst hx'
        exact fm4.live x (.inl rfl))).forget fL
      have weakF : ∀ {μ' g' hx}, Fm (C.comp scope cl L2 ok2) ρ' μ' g' hx → Fm (C.comp scope cl L2 ok2) ρ0 μ' g' hx := fun F => F.weak hw
      refine wpAny_mono (hb s5 gi hp5 fm5) ?_ fun _ _ x => x
      rintro b s6 ⟨g6, μ6, _, hp6, st6, rfl, hb6⟩
      have fm6 := fm5.step st6
      obtain ⟨oI2, hoI2⟩ := it.live _ _ _ Sti'
      have hI6 : ∀ o, h'.get? I = some o → s6.heap.get? I = some o := fun o q => st6.keep I o (hI5 o q) hmI (fun z => z)
      have Sti6 := it.frame (i + 1) gi h' g6 s6.heap Sti' hI6 st6.sub
      obtain ⟨hmI6, hgI6⟩ := st6.stays_out hmI hgI (by rw [hI5 _ hoI2]; simp)
      have hD6 : s6.heap.get? D = some (lstO (List.toArray ys) n) := st6.keep D _ hD5 hmD (fun z => z)
      obtain ⟨hmD6, hgD6⟩ := st6.stays_out hmD hgD (by rw [hD5]; simp)
      have st16 := st15.trans st6
      cases b with
      | false =>
        simp only [Bool.false_eq_true, if_false] at hb6 ⊢
        exact ⟨N + 1 - (i + 1), by omega, i + 1, acc, μ6, g6, ys, n, rfl, hp6, weakF fm6, st16, Sti6, hmI6, hgI6, hD6, hri.mono st6.sub, hmD6, hgD6, hb6⟩
      | true =>
        simp only [if_true] at hb6 ⊢
        refine wpAny_mono (hb6 s6 g6 hp6 fm6) ?_ fun _ _ x => x
        rintro e7 s7 ⟨g7, μ7, dd, hp7, st7, re, inv7⟩
        have fm7 := fm6.step st7
        have hI7 : ∀ o, h'.get? I = some o → s7.heap.get? I = some o := fun o q => st7.keep I o (hI6 o q) hmI6 (fun z => z)
        obtain ⟨hmI7, hgI7⟩ := st7.stays_out hmI6 hgI6 (by rw [hI6 _ hoI2]; simp)
        have hD7 : s7.heap.get? D = some (lstO (List.toArray ys) n) := st7.keep D _ hD6 hmD6 (fun z => z)
        obtain ⟨hmD7, hgD7⟩ := st7.stays_out hmD6 hgD6 (by rw [hD6]; simp)
        have hr7 := (hri.mono (st6.sub)).mono st7.sub
        refine wpAny_list_append_plain (hsz := by have := hri.1; simp only [List.size_toArray]; omega) ⟨n, hD7⟩ fun h8 hpl hsb8 => ?_
        obtain ⟨n8, hD8⟩ := hpl
        have e8 := hsb8.extBut
        refine ⟨N + 1 - (i + 1), by omega, i + 1, acc ++ [dd], μ7, g7, ys ++ [e7], n8, rfl, hp7.extBut hgD7 hmD7 e8 s7.toks, (weakF fm7).extBut hDown e8, (st16.trans st7).extBut (hs1n _ hDn1) e8,
          it.frame (i + 1) gi h' g7 h8 Sti' (fun o q => e8 I o hID (hI7 o q)) (st6.sub.trans st7.sub), hmI7, hgI7, ?_, hr7.snoc re, hmD7, hgD7, inv7⟩
        rw [hD8]
        simp [lstO]
  exact codeAny_compStart_list (main _) (wpAny_mono (it.self C.A _ g1 0 _ (it.frame 0 g1 h1 g1 h2 St0 (k2 I) (Sub.refl _)) (main _)) (fun _ _ x => x) fun _ _ x => x.elim)
end
set_option maxHeartbeats 1000000
section
variable {G : Gl} {C : Cx} {ρ : Rho} {μ : MU} {pos : Pos}
/-- an object that nothing names becomes known -/
theorem Hp.know {g s a o} (hp : Hp G μ g s) (hm : μ a = none) (hg : g a = none) (ho : s.heap.get? a = some o) : Hp G μ (g.set a o) s := by
  refine ⟨fun b x e => Sub.set hg _ _ (hp.bas b x e), fun b x e => ?_, fun b m e => ?_, hp.gens, hp.os⟩
  · by_cases q : b = a
    · subst q; rw [PH.set_self] at e; cases e; exact ho
    · rw [PH.set_ne _ _ q] at e; exact hp.cov b x e
  · have q : b ≠ a := by rintro rfl; rw [hm] at e; cases e
    obtain ⟨h1, x, h2, h3⟩ := hp.mt b m e
    exact ⟨by rw [PH.set_ne _ _ q]; exact h1, x, h2, h3.mono (Sub.set hg)⟩
theorem Step.know {X : Addr → Prop} {μ1 g1 h1 g h a o} (st : Step X μ1 g1 h1 μ g h) (hg : g a = none) (ha : h1.get? a = none) : Step X μ1 g1 h1 μ (g.set a o) h :=
  ⟨st.sub.trans (Sub.set hg), st.keep, st.mnew, fun b e => by
    by_cases q : b = a
    · subst q; exact .inr (.inr ha)
    · rw [PH.set_ne _ _ q] at e; exact st.gnew b e⟩
theorem Fm.know {g h a o} (F : Fm C ρ μ g h) (hg : g a = none) (ha : ¬ C.Own a) : Fm C ρ μ (g.set a o) h := by
  have hs : Sub g (g.set a o) := Sub.set hg
  refine ⟨let ⟨m, e, k⟩ := F.ns; ⟨m, e, fun x d a b => let ⟨v, e1, e2⟩ := k x d a b; ⟨v, e1, e2.mono hs⟩⟩, fun x c hc => let ⟨o, cv, a, b, e⟩ := F.cel x c hc; ⟨o, cv, a, b, fun d q => let ⟨v, e1, e2⟩ := e d q; ⟨v, e1, e2.mono hs⟩⟩, fun b hb => ?_⟩
  obtain ⟨h1, h2, h3⟩ := F.own b hb
  exact ⟨by rw [PH.set_ne _ _ (by rintro rfl; exact ha hb)]; exact h1, h2, h3⟩

/-- how a comprehension is gone through -/
def CompP (G : Gl) (C : Cx) (scope : Scope) (cl : List (Str × Addr)) (ρ0 : Rho) (target elt : Expr) (ifs : List Expr) (Ψ : D → MU → Prop) (d0 : D) (μ1 : MU) (item : Nat → MU → Option D) (Val : MU → Prop) (N : Nat) (Inv : Nat → List D → MU → Prop) : Prop :=
  (ItD G d0 item Val ∧ Inv 0 [] μ1) ∧ N ≤ sizeLine ∧ (∀ i acc μi, Inv i acc μi → Val μi ∧ i ≤ N ∧ acc.length ≤ i) ∧
  (∀ i acc μi d, Inv i acc μi → item i μi = some d → ∀ L2 ok2, ∃ ρ', Tgt G (C.comp scope cl L2 ok2) (C.comp scope cl L2 ok2).OwnL target d ρ0 ρ' ∧ (∀ x d, ρ0.lookup x = some d → ρ'.lookup x = some d) ∧
      WT G (C.comp scope cl L2 ok2) ρ' μi ifs fun b μ2 => if b = true then WE G (C.comp scope cl L2 ok2) ρ' μ2 elt fun e μ3 => Inv (i + 1) (acc ++ [e]) μ3 else Inv (i + 1) acc μ2) ∧
  (∀ i acc μi, Inv i acc μi → item i μi = none → Ψ (.lst acc) μi)
theorem WE.compG {elt target iter : Expr} {ifs : List Expr} {scope : Scope} {cl : List (Str × Addr)} {ρ0 : Rho} {Φ : D → MU → Prop}
    (ok : CompOk C ρ scope cl ρ0) (h : WE G C ρ μ iter fun d μ1 => ∃ item Val N Inv, CompP G C scope cl ρ0 target elt ifs Φ d μ1 item Val N Inv)
    (hs : ∀ x, foldedSetIterable iter C.env x = pure x := by intro _; rfl) : WE G C ρ μ (.ListComp elt [⟨target, iter, ifs, 0⟩] scope pos) Φ := fun s g hp fm => by
  rw [eval_ListComp]
  refine wpAny_comprehension_free (use := none) rfl hs ok.clos ok.kind ok.names (wpAny_mono (h s g hp fm) ?_ fun _ _ x => x)
  rintro v s1 ⟨g1, μ1, d, hp1, st1, r1, item, Val, N, Inv, ⟨hI, inv0⟩, hz, val, turn, done⟩
  have fm1 := fm.step st1
  refine hI C.A s1 g1 μ1 v _ hp1 (val _ _ _ inv0).1 r1 fun I St h1 it hIn k1 St0 => ?_
  refine comp_block (RR := fun acc L2 => compPost G.M C.A _ none _ acc L2) N Inv hp1 fm1 ok it hIn k1 St0 hz inv0 val turn ?_
  intro D L2 m s' i acc μ' g' ys n inv hit hD hL hDL hp' st' hDo hr hmD hgD hmL hgL hns
  refine ⟨m, hns, fun h'' hs'' => ?_⟩
  have e := hs''.extBut
  have hD' : h''.get? D = _ := e D _ hDL hDo
  have hpA := hp'.extBut hgL hmL e s'.toks
  have stA := (st'.extBut hL e).know (o := lstO (List.toArray ys) n) hgD hD
  exact ⟨g'.set D (lstO (List.toArray ys) n), μ', .lst acc, hpA.know hmD hgD hD', st1.trans stA, .mkLst (PH.set_self _ _ _) (hr.mono (Sub.set hgD)), done i acc μ' inv hit⟩
theorem WE.comp {elt target iter : Expr} {ifs : List Expr} {scope : Scope} {cl : List (Str × Addr)} {ρ0 : Rho} {item : Nat → MU → Option D} {Val : MU → Prop} {Φ : D → MU → Prop} (N : Nat) (Inv : Nat → List D → MU → Prop)
    (ok : CompOk C ρ scope cl ρ0) (h : WE G C ρ μ iter fun d μ1 => ItD G d item Val ∧ Inv 0 [] μ1) (hz : N ≤ sizeLine)
    (val : ∀ i acc μi, Inv i acc μi → Val μi ∧ i ≤ N ∧ acc.length ≤ i)
    (turn : ∀ i acc μi d, Inv i acc μi → item i μi = some d → ∀ L2 ok2, ∃ ρ', Tgt G (C.comp scope cl L2 ok2) (C.comp scope cl L2 ok2).OwnL target d ρ0 ρ' ∧ (∀ x d, ρ0.lookup x = some d → ρ'.lookup x = some d) ∧
      WT G (C.comp scope cl L2 ok2) ρ' μi ifs fun b μ2 => if b = true then WE G (C.comp scope cl L2 ok2) ρ' μ2 elt fun e μ3 => Inv (i + 1) (acc ++ [e]) μ3 else Inv (i + 1) acc μ2)
    (done : ∀ i acc μi, Inv i acc μi → item i μi = none → Φ (.lst acc) μi)
    (hs : ∀ x, foldedSetIterable iter C.env x = pure x := by intro _; rfl) : WE G C ρ μ (.ListComp elt [⟨target, iter, ifs, 0⟩] scope pos) Φ :=
  WE.compG ok (TT.mono h fun d μ1 x => ⟨item, Val, N, Inv, x, hz, val, turn, done⟩) hs

theorem WX.assignCompG {y : Str} {py : Pos} {elt target iter : Expr} {ifs : List Expr} {scope : Scope} {cl : List (Str × Addr)} {ρ0 : Rho} {Φ : FD → Rho → MU → Prop} {spos : Pos}
    (hy : C.Has y) (hsw : swapsWith (.ListComp elt [⟨target, iter, ifs, 0⟩] scope pos) (some (.Name y py)) spos.line C.env = pure true)
    (ok : CompOk C ρ scope cl ρ0) (h : WE G C ρ μ iter fun d μ1 => ∃ item Val N Inv, CompP G C scope cl ρ0 target elt ifs (fun d μ' => Φ .next ((y, d) :: ρ) μ') d μ1 item Val N Inv)
    (hs : ∀ x, foldedSetIterable iter C.env x = pure x := by intro _; rfl) : WX G C ρ μ (.Assign [.Name y py] (.ListComp elt [⟨target, iter, ifs, 0⟩] scope pos) spos) Φ := fun s g hp fm => by
  rw [exec_Assign_Name_used _ _ _ _ hsw]
  refine wpAny_bind (wpAny_standAt (wpAny_bind ?_))
  show wpAny _ C.A (do let _ ← comprehension (.ListComp elt [⟨target, iter, ifs, 0⟩] scope pos) scope C.env _ (newList []) false (eval iter C.env) (some (PySem.assign (.Name y py) C.env))) _ _ s
  refine wpAny_bind (wpAny_mono (wpAny_comprehension_free (use := some (PySem.assign (.Name y py) C.env)) (Q := fun _ s' => FPost G C μ g s.heap Φ .next s') rfl hs ok.clos ok.kind ok.names
    (wpAny_mono (h s g hp fm) ?_ fun _ _ x => x)) (fun _ s' hq => wpAny_pure (wpAny_pure hq)) fun _ _ e => e)
  rintro v s1 ⟨g1, μ1, d, hp1, st1, r1, item, Val, N, Inv, ⟨hI, inv0⟩, hz, val, turn, done⟩
  have fm1 := fm.step st1
  refine hI C.A s1 g1 μ1 v _ hp1 (val _ _ _ inv0).1 r1 fun I St h1 it hIn k1 St0 => ?_
  refine comp_block (RR := fun acc L2 => compPost G.M C.A _ (some (PySem.assign (.Name y py) C.env)) _ acc L2) N Inv hp1 fm1 ok it hIn k1 St0 hz inv0 val turn ?_
  intro D L2 m s' i acc μ' g' ys n inv hit hD hL hDL hp' st' hDo hr hmD hgD hmL hgL hns
  have hpK := hp'.know (o := lstO (List.toArray ys) n) hmD hgD hDo
  have stK := st'.know (o := lstO (List.toArray ys) n) hgD hD
  have fmK := fm1.step stK
  have rK : Rel (g'.set D (lstO (List.toArray ys) n)) (.ref D) (.lst acc) := .mkLst (PH.set_self _ _ _) (hr.mono (Sub.set hgD))
  show wpAny _ C.A (PySem.assign (.Name y py) C.env (.ref D)) _ _ _
  refine wpAny_assign_Name (wpAny_mono (TU.store (Φ := fun ρ' μ'' => Φ .next ρ' μ'' ∧ True) hy hpK fmK rK ⟨done i acc μ' inv hit, trivial⟩) ?_ fun _ _ x => x)
  rintro _ s2 ⟨g2, ρ2, μ2, hp2, fm2, st2, φ2, _⟩
  have hLown : ¬ C.Own L2 := fun q => fm1.live L2 q hL
  obtain ⟨oL, eL, eP, hoL, rL⟩ := id hns
  have hgL' : (g'.set D (lstO (List.toArray ys) n)) L2 = none := by rw [PH.set_ne _ _ (Ne.symm hDL)]; exact hgL
  have hL2 : s2.heap.get? L2 = some oL := st2.keep L2 oL hoL hmL hLown
  obtain ⟨hm2, hg2⟩ := st2.stays_out hmL hgL' (by rw [hoL]; simp)
  refine ⟨m, ⟨oL, eL, eP, hL2, rL⟩, fun h'' hs'' => ?_⟩
  have e := hs''.extBut
  refine ⟨g2, ρ2, μ2, .next, hp2.extBut hg2 hm2 e s2.toks, fm2.extBut hLown e, ?_, .next, φ2⟩
  have stB : Step C.Own μ1 g1 s1.heap μ2 g2 s2.heap := stK.wk.trans st2 (fun x hx _ _ => fmK.live x hx)
  exact st1.wk.trans (stB.extBut hL e) (fun x hx _ _ => fm1.live x hx)
theorem WX.assignComp {y : Str} {py : Pos} {elt target iter : Expr} {ifs : List Expr} {scope : Scope} {cl : List (Str × Addr)} {ρ0 : Rho} {item : Nat → MU → Option D} {Val : MU → Prop} {Φ : FD → Rho → MU → Prop} {spos : Pos} (N : Nat) (Inv : Nat → List D → MU → Prop)
    (hy : C.Has y) (hsw : swapsWith (.ListComp elt [⟨target, iter, ifs, 0⟩] scope pos) (some (.Name y py)) spos.line C.env = pure true)
    (ok : CompOk C ρ scope cl ρ0) (h : WE G C ρ μ iter fun d μ1 => ItD G d item Val ∧ Inv 0 [] μ1) (hz : N ≤ sizeLine)
    (val : ∀ i acc μi, Inv i acc μi → Val μi ∧ i ≤ N ∧ acc.length ≤ i)
    (turn : ∀ i acc μi d, Inv i acc μi → item i μi = some d → ∀ L2 ok2, ∃ ρ', Tgt G (C.comp scope cl L2 ok2) (C.comp scope cl L2 ok2).OwnL target d ρ0 ρ' ∧ (∀ x d, ρ0.lookup x = some d → ρ'.lookup x = some d) ∧
      WT G (C.comp scope cl L2 ok2) ρ' μi ifs fun b μ2 => if b = true then WE G (C.comp scope cl L2 ok2) ρ' μ2 elt fun e μ3 => Inv (i + 1) (acc ++ [e]) μ3 else Inv (i + 1) acc μ2)
    (done : ∀ i acc μi, Inv i acc μi → item i μi = none → Φ .next ((y, .lst acc) :: ρ) μi)
    (hs : ∀ x, foldedSetIterable iter C.env x = pure x := by intro _; rfl) : WX G C ρ μ (.Assign [.Name y py] (.ListComp elt [⟨target, iter, ifs, 0⟩] scope pos) spos) Φ :=
  WX.assignCompG hy hsw ok (TT.mono h fun d μ1 x => ⟨item, Val, N, Inv, x, hz, val, turn, done⟩) hs

/-- an expression for its deed alone -/
theorem WX.expr {e} {Φ : FD → Rho → MU → Prop} (h : WE G C ρ μ e fun _ μ1 => Φ .next ρ μ1) (hi : interactive C.env = false := by rfl) (hs : swapsWith e none pos.line C.env = pure false := by rfl) : WX G C ρ μ (.Expr e pos) Φ := fun s g hp fm => by
  refine wpAny_Expr_any (wpAny_mono (h s g hp fm) ?_ fun _ _ x => x) hi hs
  rintro v s1 ⟨g1, μ1, d, hp1, st1, r, φ⟩
  exact ⟨g1, ρ, μ1, _, hp1, fm.step st1, st1.wk, .next, φ⟩
theorem foldl_rep {vs : List Value} : ∀ (k : Nat) (z : List Value), List.foldl (fun x1 x2 => x1 ++ x2) z.toArray (List.replicate k (List.toArray vs)) = List.toArray (z ++ (List.replicate k vs).flatten)
  | 0, z => by simp
  | k + 1, z => by
    rw [List.replicate_succ, List.foldl_cons, show z.toArray ++ vs.toArray = (z ++ vs).toArray by simp, foldl_rep k (z ++ vs), List.replicate_succ]
    simp
theorem RelL.rep {g : PH} {vs : List Value} {ds : List D} (h : RelL g vs ds) : ∀ k : Nat, RelL g (List.replicate k vs).flatten (List.replicate k ds).flatten
  | 0 => by simpa using RelL.nil
  | k + 1 => by
    simp only [List.replicate_succ, List.flatten_cons]
    exact h.append (h.rep k)
/-- a list times an int -/
theorem P2.mulLst {l : List D} {k : Int} (hlo : -(2 ^ 63 : Int) ≤ k) (hhi : k < 2 ^ 63) (hsz : l.length * k.toNat ≤ 2 ^ 24) : P2 G μ (binaryOp .Mult) (.lst l) (.int k) (.lst (List.replicate k.toNat l).flatten) := fun A s g v1 v2 hh hu hp r1 r2 => by
  obtain ⟨a, n, vs, rfl, h1, h4⟩ := r1.lst_inv
  obtain ⟨t, rfl⟩ := r2.int_inv
  skip
  have hl := hp.cov _ _ h1
  have hsz' : (List.toArray vs).size * k.toNat ≤ 2 ^ 24 := by rw [List.size_toArray, h4.1]; exact hsz
  refine wpAny_binaryOp_repeat_ref (T := "list") (U := "int") (by decide) ⟨_, hl, rfl⟩ (fun s' => typeIs_int s' k t) noFill_list_mul PySem.F.fills_int_mul PySem.F.slot_int_rmul repeat_list PySem.F.slot_int_index.lookup
    (call_meets PySem.F.slot_int_rmul (typeIs_int s k t) PySem.F.entry_int_rmul (PySem.F.args_int_rmul_2 _ _) (int___rmul___int_list k t a (List.toArray vs) n)
      ⟨hl, rfl, ⟨_, hl, rfl⟩, call_meets PySem.F.slot_list_mul ⟨_, hl, rfl⟩ PySem.F.entry_list_mul (PySem.F.args_list_mul_2 _ _)
        (AutoListH.list___mul___list_int_3 a (List.toArray vs) n k t (by simp [Builtin.List.listFitsIndex]; omega) (by omega) (by simp only [Builtin.List.listTooLong, sizeLine]; simp; omega))
        ⟨hl, ?_⟩⟩)
  refine ⟨_, hp.push _ rfl, Step.push hp _, ?_⟩
  refine .mkLst (vs := (List.replicate k.toNat vs).flatten) (n := 0) ?_ ((h4.rep _).mono (Step.push hp _).sub)
  rw [PH.set_self]
  congr 2
  cases vs with
  | nil => simp
  | cons v r =>
    simp only [List.isEmpty_toArray, List.isEmpty_cons, Bool.false_eq_true, if_false]
    have := foldl_rep (vs := v :: r) k.toNat []
    simp only [List.nil_append] at this
    rw [← this]
/-- an attribute's value, its address told -/
theorem RelF.pin {g : PH} : ∀ {es : List DictEntry} {fs : List (Str × D)} {name : Str} {Cl fs'}, RelF g es fs → fs.lookup name = some (.obj Cl fs') → ∃ a, (∃ v, getL name es = some (some v) ∧ v = .ref a ∧ Rel g v (.pin a Cl)) ∧ RelF g es (putF name (.pin a Cl) fs)
  | [], [], name, Cl, fs', _, hl => by simp at hl
  | [], _ :: _, _, _, _, h, _ => by simp [RelF] at h
  | _ :: _, [], _, _, _, h, _ => by simp [RelF] at h
  | e :: es, (nm, d0) :: fs, name, Cl, fs', h, hl => by
    obtain ⟨⟨t, hk⟩, hv, ht⟩ := h.cons_inv
    have hs : e.key.isStr name = (name == nm) := by
      rw [hk]
      show (nm == name) = (name == nm)
      exact Bool.beq_comm
    rw [List.lookup_cons] at hl
    cases q : name == nm with
    | true =>
      rw [q] at hl
      simp at hl
      subst hl
      have hv' : ∃ a, e.val = .ref a ∧ Rel g e.val (.pin a Cl) := by
        generalize e.val = v at hv
        cases hv with
        | obj a b c d e => exact ⟨_, rfl, .pin a b⟩
      obtain ⟨a, ea, ra⟩ := hv'
      refine ⟨a, ⟨e.val, ?_, ea, ra⟩, ?_⟩
      · unfold getL
        rw [List.find?_cons, hs, q]
      · have : nm = name := (beq_iff_eq.mp q).symm
        subst this
        simp only [putF, q, if_true]
        exact .cons hk ra ht
    | false =>
      rw [q] at hl
      obtain ⟨a, ⟨v, e1, e2, e3⟩, e4⟩ := RelF.pin ht hl
      refine ⟨a, ⟨v, ?_, e2, e3⟩, ?_⟩
      · unfold getL at e1 ⊢
        rw [List.find?_cons, hs, q]
        have e1' : e.refKey = false := by simp [DictEntry.refKey, hk]
        have e2' : ((e :: es).any fun x => x.refKey) = es.any fun x => x.refKey := by rw [List.any_cons, e1', Bool.false_or]
        simp only [e2']
        exact e1
      · have q' : (nm == name) = false := by rw [Bool.beq_comm]; exact q
        simp only [putF, q', Bool.false_eq_true, if_false]
        exact .cons hk hv e4
end
set_option maxHeartbeats 1000000
/-- the tokens that the law makes -/
inductive Sg where
  | comma | eq | lp | rp | lb | rb | lc | rc | dot | amp | col | star | plus | eqq | ida | cst | ivar | gvar | self | kend | int7 | nl | idm | eof
  deriving DecidableEq
def Sg.kind : Sg → Str
  | .ida => "ident" | .idm => "ident" | .cst => "const" | .ivar => "ivar" | .gvar => "gvar" | .self => "kw" | .kend => "kw" | .int7 => "int" | .nl => "nl" | .eof => "eof" | _ => "op"
def Sg.val : Sg → D
  | .comma => .str "," | .eq => .str "=" | .lp => .str "(" | .rp => .str ")" | .lb => .str "[" | .rb => .str "]" | .lc => .str "{" | .rc => .str "}" | .dot => .str "." | .amp => .str "&." | .col => .str "::"
  | .star => .str "*" | .plus => .str "+" | .eqq => .str "==" | .ida => .str "a" | .cst => .str "A" | .ivar => .str "@a" | .gvar => .str "$a" | .self => .str "self" | .kend => .str "end" | .int7 => .int 7 | .nl => .none | .idm => .str "m" | .eof => .none
def Sg.isOp : Sg → Bool
  | .ida => false | .idm => false | .cst => false | .ivar => false | .gvar => false | .self => false | .kend => false | .int7 => false | .nl => false | .eof => false | _ => true
abbrev Tk := Sg × Bool
def tkD (t : Tk) : D := .tup [.str t.1.kind, t.1.val, .bool t.2]
def tokO (t : Tk) : D := .obj 212 [("kind", .str t.1.kind), ("value", t.1.val), ("line", .int 1), ("spaced", .bool t.2), ("place", .int 0)]
theorem Sg.kindPy (a : Sg) : (D.str a.kind).isPy = true := by cases a <;> first | rfl | decide +kernel
theorem Sg.kindDp (a : Sg) : (D.str a.kind).py.depth ≤ 64 := by cases a <;> decide
theorem Sg.valPy (a : Sg) : a.val.isPy = true := by cases a <;> first | rfl | decide +kernel
theorem Sg.valDp (a : Sg) : a.val.py.depth ≤ 64 := by cases a <;> decide
theorem Sg.kindOp (a : Sg) : PyData.eqv (D.str a.kind).py (D.str "op").py = a.isOp := by cases a <;> decide
theorem Sg.kindEof (a : Sg) : PyData.eqv (D.str a.kind).py (D.str "eof").py = decide (a = .eof) := by cases a <;> decide
def Sg.ops : List Sg := [.comma, .eq, .lp, .rp, .lb, .rb, .lc, .rc, .dot, .amp, .col, .star, .plus, .eqq]
theorem Sg.mem_ops (a : Sg) (h : a.isOp = true) : a ∈ Sg.ops := by revert h; cases a <;> decide
theorem Sg.valEqs : ∀ a ∈ Sg.ops, ∀ b ∈ Sg.ops, PyData.eqv b.val.py a.val.py = decide (a = b) := by decide +kernel
theorem Sg.valEq (a b : Sg) (ha : a.isOp = true) (hb : b.isOp = true) : PyData.eqv b.val.py a.val.py = decide (a = b) := Sg.valEqs a (Sg.mem_ops a ha) b (Sg.mem_ops b hb)
theorem Sg.valsPy : ∀ l : List Sg, D.isPys (l.map Sg.val) = true
  | [] => rfl
  | a :: r => by simp only [List.map_cons, D.isPys, Sg.valPy a, Sg.valsPy r]; rfl
theorem Sg.anyEq (a : Sg) (ha : a.isOp = true) : ∀ l : List Sg, (∀ b ∈ l, b.isOp = true) → (D.pys (l.map Sg.val)).any (fun y => PyData.eqv y a.val.py) = decide (a ∈ l)
  | [], _ => by simp [D.pys]
  | b :: r, h => by
    rw [List.map_cons, D.pys, List.any_cons, Sg.valEq a b ha (h b (.head _)), Sg.anyEq a ha r fun c hc => h c (.tail _ hc)]
    by_cases e : a = b <;> simp [e]
theorem Sg.opEq (a b : Sg) (ha : a.isOp = true) (hb : b.isOp = true) : PyData.eqv a.val.py b.val.py = decide (a = b) := by
  rw [Sg.valEq b a hb ha]; by_cases e : a = b <;> simp [e, eq_comm]
set_option maxHeartbeats 1000000
theorem le_lit {a b n : Nat} (h : Nat.ble a b = true) : a ≤ n + b := Nat.le_trans (Nat.le_of_ble_eq_true h) (Nat.le_add_left b n)
def RSub (ρ ρ' : Rho) : Prop := ∀ x d, ρ.lookup x = some d → ρ'.lookup x = some d
theorem RSub.nil {ρ : Rho} : RSub [] ρ := fun x d h => by simp at h
theorem RSub.cons {x : Str} {d : D} {ρ ρ' : Rho} (h : ρ'.lookup x = some d) (t : RSub ρ ρ') : RSub ((x, d) :: ρ) ρ' := fun y e hy => by
  rw [List.lookup_cons] at hy
  by_cases q : y = x
  · subst q; simp at hy; subst hy; exact h
  · have : (y == x) = false := by simpa using q
    rw [this] at hy; exact t y e hy
theorem RSub.refl (ρ : Rho) : RSub ρ ρ := fun _ _ h => h
theorem RSub.trans {a b c : Rho} (h : RSub a b) (h' : RSub b c) : RSub a c := fun x d e => h' x d (h x d e)
theorem RSub.both {x : Str} {d : D} {ρ ρ' : Rho} (t : RSub ρ ρ') : RSub ((x, d) :: ρ) ((x, d) :: ρ') := fun y e hy => by
  rw [List.lookup_cons] at hy ⊢
  cases q : y == x with
  | true => rw [q] at hy; exact hy
  | false => rw [q] at hy; exact t y e hy
section
variable {G : Gl} {C : Cx} {ρ : Rho} {μ : MU} {pos : Pos} {Φ : FD → Rho → MU → Prop}
theorem WX.forS {S : Type} {target iter body} {item : Nat → MU → Option D} {Val : MU → Prop} (x : D → S → List (Str × D)) (R : S → Rho) (N : Nat) (P : Nat → S → MU → Prop)
    (h : WE G C ρ μ iter fun d μ1 => ItD G d item Val ∧ ∃ s0, RSub (R s0) ρ ∧ P 0 s0 μ1)
    (val : ∀ i s μi, P i s μi → Val μi ∧ i ≤ N)
    (tgt : ∀ i s μi d ρi, P i s μi → item i μi = some d → Tgt G C C.Own target d ρi (x d s ++ ρi))
    (turn : ∀ i s μi d, P i s μi → item i μi = some d → WS G C (x d s ++ R s) μi body fun φ ρ2 μ2 => match φ with
      | .next => ∃ s', RSub (R s') ρ2 ∧ P (i + 1) s' μ2
      | .cont => ∃ s', RSub (R s') ρ2 ∧ P (i + 1) s' μ2
      | .brk => Φ .next ρ2 μ2
      | .ret d => Φ (.ret d) ρ2 μ2)
    (done : ∀ i s μi ρi, P i s μi → item i μi = none → RSub (R s) ρi → Φ .next ρi μi)
    (hs : ∀ x, foldedSetIterable iter C.env x = pure x := by intro _; rfl) : WX G C ρ μ (.For target iter body [] pos) Φ := by
  refine WX.for (item := item) (Val := Val) N (fun i ρi μi => ∃ s, RSub (R s) ρi ∧ P i s μi) (TT.mono h fun d μ1 ⟨a, s0, b, c⟩ => ⟨a, s0, b, c⟩) ?_ ?_ ?_ hs
  · rintro i ρi μi ⟨s, _, hp⟩; exact val i s μi hp
  · rintro i ρi μi d ⟨s, hr, hp⟩ hit
    refine ⟨_, tgt i s μi d ρi hp hit, TF.weak (TF.mono (turn i s μi d hp hit) ?_) ?_⟩
    · intro φ ρ2 μ2 hφ
      cases φ <;> exact hφ
    · intro y e he
      rw [List.lookup_append] at he ⊢
      cases q : (x d s).lookup y with
      | some z => rw [q] at he; exact he
      | none => rw [q] at he; simp at he ⊢; exact hr y e he
  · rintro i ρi μi ⟨s, hr, hp⟩ hit; exact done i s μi ρi hp hit hr
theorem WX.whileS {S : Type} {test body} (R : S → Rho) (P : Nat → S → MU → Prop) (n : Nat) (s0 : S) (h0 : RSub (R s0) ρ) (h : P n s0 μ)
    (turn : ∀ k s μi, P k s μi → WB G C (R s) μi test fun b μ2 => if b = true then WS G C (R s) μ2 body fun φ ρ3 μ3 => match φ with
      | .next => ∃ m s', m < k ∧ RSub (R s') ρ3 ∧ P m s' μ3
      | .cont => ∃ m s', m < k ∧ RSub (R s') ρ3 ∧ P m s' μ3
      | .brk => Φ .next ρ3 μ3
      | .ret d => Φ (.ret d) ρ3 μ3
    else ∀ ρi, RSub (R s) ρi → Φ .next ρi μ2) : WX G C ρ μ (.While test body [] pos) Φ := by
  refine WX.while (fun k ρi μi => ∃ s, RSub (R s) ρi ∧ P k s μi) n ⟨s0, h0, h⟩ ?_
  rintro k ρi μi ⟨s, hr, hp⟩
  intro sh g hpp fm
  refine wpAny_mono (turn k s μi hp sh g hpp (fm.weak hr)) ?_ fun _ _ x => x
  rintro v s' ⟨g', μ', b, a1, a2, a3, a4⟩
  refine ⟨g', μ', b, a1, a2, a3, ?_⟩
  cases b with
  | false => simp only [Bool.false_eq_true, if_false] at a4 ⊢; exact a4 ρi hr
  | true =>
    simp only [if_true] at a4 ⊢
    refine TF.weak (TF.mono a4 ?_) hr
    intro φ ρ2 μ2 hφ
    cases φ with
    | next => obtain ⟨m, s', q1, q2, q3⟩ := hφ; exact ⟨m, q1, s', q2, q3⟩
    | cont => obtain ⟨m, s', q1, q2, q3⟩ := hφ; exact ⟨m, q1, s', q2, q3⟩
    | brk => exact hφ
    | ret d => exact hφ
end
/-! rows of tokens -/
def eofT : Tk := (.eof, false)
def tok (ts : List Tk) (i : Nat) : Tk := ts.getD i eofT
def full (ts : List Tk) : List Tk := ts ++ [eofT]
def rowD (ts : List Tk) : D := .lst (ts.map tkD)
theorem full_len (ts : List Tk) : (full ts).length = ts.length + 1 := by simp [full]
theorem tok_lt {ts : List Tk} {i : Nat} (h : i < ts.length) : ts[i]? = some (tok ts i) := by simp [tok, List.getD, h]
theorem tok_ge {ts : List Tk} {i : Nat} (h : ts.length ≤ i) : tok ts i = eofT := by simp [tok, List.getD, h]
theorem full_get (ts : List Tk) (i : Nat) : (full ts)[min i ts.length]? = some (tok ts i) := by
  unfold full
  by_cases h : i < ts.length
  · rw [Nat.min_eq_left (by omega), List.getElem?_append_left h, tok_lt h]
  · rw [Nat.min_eq_right (by omega), tok_ge (by omega)]; simp
theorem full_getD (ts : List Tk) (i : Nat) : ((full ts).map tkD)[min i (((full ts).map tkD).length - 1)]? = some (tkD (tok ts i)) := by
  rw [List.length_map, full_len, Nat.add_sub_cancel, List.getElem?_map, full_get]; rfl
def isIn (ts : List Tk) (i : Nat) (ss : List Sg) : Bool := decide ((tok ts i).1 ∈ ss)
def opens : List Sg := [.lp, .lb, .lc]
def closes : List Sg := [.rp, .rb, .rc]
/-- the place behind the closing bracket -/
def closL : List Tk → Nat → Int → Option Nat
  | [], _, _ => none
  | t :: r, i, h =>
    let h' := h + (if t.1 ∈ opens then 1 else 0) - (if t.1 ∈ closes then 1 else 0)
    if h' = 0 then some (i + 1) else closL r (i + 1) h'
def clos (ts : List Tk) (i : Nat) (h : Int) : Option Nat := closL (ts.drop i) i h
theorem drop_tok {ts : List Tk} {i : Nat} (h : i < ts.length) : ts.drop i = tok ts i :: ts.drop (i + 1) := by
  rw [List.drop_eq_getElem_cons h]
  congr 1
  have := tok_lt h
  rw [List.getElem?_eq_getElem h] at this
  exact Option.some.inj this
theorem clos_lt {ts : List Tk} {i : Nat} (h : i < ts.length) (k : Int) : clos ts i k =
    let h' := k + (if (tok ts i).1 ∈ opens then 1 else 0) - (if (tok ts i).1 ∈ closes then 1 else 0)
    if h' = 0 then some (i + 1) else clos ts (i + 1) h' := by
  unfold clos; rw [drop_tok h]; rfl
theorem clos_ge {ts : List Tk} {i : Nat} (h : ts.length ≤ i) (k : Int) : clos ts i k = none := by
  unfold clos; rw [List.drop_eq_nil_of_le h]; rfl
theorem closL_gt : ∀ (l : List Tk) (i : Nat) (h : Int) (e : Nat), closL l i h = some e → i < e ∧ e ≤ i + l.length
  | [], _, _, _, h => by simp [closL] at h
  | t :: r, i, h, e, q => by
    simp only [closL] at q
    generalize h + (if t.1 ∈ opens then (1 : Int) else 0) - (if t.1 ∈ closes then 1 else 0) = h' at q
    by_cases z : h' = 0
    · rw [if_pos z] at q; cases q; simp
    · rw [if_neg z] at q
      have := closL_gt r (i + 1) _ e q
      simp only [List.length_cons]; omega
theorem clos_gt {ts : List Tk} {i : Nat} {k : Int} {e : Nat} (h : clos ts i k = some e) : i < e ∧ e ≤ max i ts.length := by
  have := closL_gt _ _ _ _ h
  rw [List.length_drop] at this
  omega
/-- an edge may be gone on from -/
def hops (ts : List Tk) (i : Nat) : Bool := isIn ts i [.dot, .amp, .col]
def opns (ts : List Tk) (i : Nat) : Bool := isIn ts i [.lp, .lb] && !(tok ts i).2
def nxt (ts : List Tk) (i : Nat) : Option Nat := if hops ts i then some (i + 2) else if opns ts i then clos ts i 0 else none
set_option maxHeartbeats 1000000
section
variable {G : Gl} {μ : MU}
theorem P2.eqInt {a b : Int} : P2 G μ (compareOp .Eq) (.int a) (.int b) (.bool (decide (a = b))) := P2.eq rfl rfl (by simp [D.py, PyData.depth]) (by simp [D.py, PyData.depth]) (by simp only [D.py, PyData.eqv]; by_cases h : a = b <;> simp [h])
theorem P2.neInt {a b : Int} : P2 G μ (compareOp .NotEq) (.int a) (.int b) (.bool (!decide (a = b))) := P2.ne rfl rfl (by simp [D.py, PyData.depth]) (by simp [D.py, PyData.depth]) (by simp only [D.py, PyData.eqv]; by_cases h : a = b <;> simp [h])
end
def isName (ts : List Tk) (i : Nat) : Bool := isIn ts i [.ida, .idm, .cst, .ivar, .gvar, .self]
def seps : List Sg := [.comma, .eq, .rp]
def conts (ts : List Tk) (i : Nat) : Bool := isIn ts i [.dot, .amp, .col, .lp, .lb]
def stop (ts : List Tk) (i : Nat) : Bool := !(hops ts i || opns ts i)
def chain (ts : List Tk) : Nat → Nat → List Nat
  | 0, _ => []
  | k + 1, s => s :: match nxt ts s with | none => [] | some e => chain ts k e
def walk (ts : List Tk) : Nat → Nat → Option Nat
  | 0, _ => none
  | k + 1, s => if hops ts s then walk ts k (s + 2) else if opns ts s then (match clos ts s 0 with | none => none | some e => walk ts k e) else some s
def manyL (ts : List Tk) (o : Nat → List Nat) : Nat → Bool → Nat → List Nat
  | 0, _, _ => []
  | k + 1, sev, s => (if sev then o s else []) ++ match (o s).getLast? with
    | none => []
    | some e => if isIn ts e [.comma] then (if isIn ts (e + 1) [.eq, .rp] then [e + 1] else manyL ts o k true (e + 1)) else []
def pLoop (ts : List Tk) (o : Nat → Option Nat) : Nat → Bool → Nat → Option Nat
  | 0, _, _ => none
  | k + 1, sev, s => match o s with
    | none => none
    | some p => if isIn ts p [.comma] then (if isIn ts (p + 1) [.eq, .rp] then some (p + 1) else pLoop ts o k true (p + 1)) else if sev then some p else none
def fuel (ts : List Tk) : Nat := ts.length + 2
def one (ts : List Tk) : Nat → Nat → List Nat
  | 0, _ => []
  | f + 1, a => if isIn ts a [.star] then (if isIn ts (a + 1) seps then [a + 1] else []) ++ one ts f (a + 1)
    else if isIn ts a [.lp] then ((manyL ts (one ts f) (fuel ts) (isIn ts (a + 1) [.star, .lp]) (a + 1)).filter fun e => isIn ts e [.rp]).map (· + 1)
    else if isName ts a then chain ts (fuel ts) (a + 1) else []
def pT (ts : List Tk) : Nat → Nat → Option Nat
  | 0, _ => none
  | f + 1, a => if isIn ts a [.star] then (if isIn ts (a + 1) seps then some (a + 1) else pT ts f (a + 1))
    else if isIn ts a [.lp] then (match pLoop ts (pT ts f) (fuel ts) (isIn ts (a + 1) [.star, .lp]) (a + 1) with | none => none | some i => if isIn ts i [.rp] then some (i + 1) else none)
    else if isName ts a then walk ts (fuel ts) (a + 1) else none
def many (ts : List Tk) (f a : Nat) : List Nat := manyL ts (one ts f) (fuel ts) (isIn ts a [.star, .lp]) a
def pTs (ts : List Tk) (f a : Nat) : Option Nat := pLoop ts (pT ts f) (fuel ts) (isIn ts a [.star, .lp]) a
def sett (ts : List Tk) : Nat → Nat → List Nat
  | 0, _ => []
  | f + 1, a => if isIn ts a [.star] then (if isIn ts (a + 1) seps then [a + 1] else sett ts f (a + 1)) else (one ts (f + 1) a).filter fun e => isIn ts a [.lp] || stop ts e

theorem isIn_lt {ts : List Tk} {i : Nat} {ss : List Sg} (h : isIn ts i ss = true) (he : Sg.eof ∉ ss := by decide) : i < ts.length := by
  by_cases q : i < ts.length
  · exact q
  · unfold isIn at h; rw [tok_ge (by omega)] at h; exact absurd (of_decide_eq_true h) he
theorem isIn_no {ts : List Tk} {i : Nat} {ss rr : List Sg} (h : isIn ts i ss = true) (hd : ∀ s ∈ ss, s ∉ rr := by decide) : isIn ts i rr = false := by
  unfold isIn at h ⊢; exact decide_eq_false (hd _ (of_decide_eq_true h))
theorem isIn_sub {ts : List Tk} {i : Nat} {ss rr : List Sg} (h : isIn ts i ss = true) (hd : ∀ s ∈ ss, s ∈ rr := by decide) : isIn ts i rr = true := by
  unfold isIn at h ⊢; exact decide_eq_true (hd _ (of_decide_eq_true h))
theorem nxt_spec {ts : List Tk} {s e : Nat} (h : nxt ts s = some e) : conts ts s = true ∧ s < e ∧ e ≤ ts.length + 1 := by
  unfold nxt at h
  by_cases h1 : hops ts s = true
  · rw [if_pos h1] at h; cases h
    have := isIn_lt h1
    exact ⟨isIn_sub (ss := [.dot, .amp, .col]) h1, by omega, by omega⟩
  · rw [if_neg h1] at h
    by_cases h2 : opns ts s = true
    · rw [if_pos h2] at h
      unfold opns at h2
      have h3 := (Bool.and_eq_true_iff.mp h2).1
      have := isIn_lt h3
      have := clos_gt h
      exact ⟨isIn_sub h3, by omega, by omega⟩
    · rw [if_neg h2] at h; cases h
theorem chain_asc (ts : List Tk) : ∀ k s, s ≤ ts.length + 1 → (chain ts k s).Pairwise (fun a b => a < b ∧ conts ts a = true) ∧ ∀ e ∈ chain ts k s, s ≤ e ∧ e ≤ ts.length + 1
  | 0, s, _ => by simp [chain]
  | k + 1, s, hs => by
    unfold chain
    cases h : nxt ts s with
    | none => simp; exact hs
    | some e =>
      obtain ⟨h1, h2, h3⟩ := nxt_spec h
      obtain ⟨i1, i2⟩ := chain_asc ts k e h3
      refine ⟨List.pairwise_cons.mpr ⟨fun b hb => ⟨by have := (i2 b hb).1; omega, h1⟩, i1⟩, fun b hb => ?_⟩
      rcases List.mem_cons.mp hb with rfl | hb
      · exact ⟨Nat.le_refl _, hs⟩
      · have := i2 b hb; omega
theorem last_of {α : Type} {R : α → α → Prop} {l : List α} {e a : α} (h : l.Pairwise R) (hl : l.getLast? = some e) (ha : a ∈ l) : a = e ∨ R a e := by
  obtain ⟨ys, rfl⟩ := List.getLast?_eq_some_iff.mp hl
  rcases List.mem_append.mp ha with h1 | h1
  · exact .inr ((List.pairwise_append.mp h).2.2 a h1 e (by simp))
  · simp at h1; exact .inl h1
def AscO (ts : List Tk) (s : Nat) (l : List Nat) : Prop := l.Pairwise (fun a b => a < b ∧ conts ts a = true) ∧ ∀ e ∈ l, s < e ∧ e ≤ ts.length + 1
def AscM (ts : List Tk) (s : Nat) (l : List Nat) : Prop := l.Pairwise (fun a b => a < b ∧ (conts ts a = true ∨ isIn ts a [.comma] = true)) ∧ ∀ e ∈ l, s < e ∧ e ≤ ts.length + 1
theorem manyL_asc {ts : List Tk} {o : Nat → List Nat} (ho : ∀ s, AscO ts s (o s)) : ∀ k sev s, AscM ts s (manyL ts o k sev s)
  | 0, sev, s => by simp [manyL, AscM]
  | k + 1, sev, s => by
    unfold manyL
    obtain ⟨o1, o2⟩ := ho s
    have hA : ∀ a ∈ (if sev then o s else []), a ∈ o s := by cases sev <;> simp
    have hB : ∀ B, (B = match (o s).getLast? with | none => [] | some e => if isIn ts e [.comma] then (if isIn ts (e + 1) [.eq, .rp] then [e + 1] else manyL ts o k true (e + 1)) else []) →
        B.Pairwise (fun a b => a < b ∧ (conts ts a = true ∨ isIn ts a [.comma] = true)) ∧ (∀ b ∈ B, b ≤ ts.length + 1 ∧ ∀ a ∈ o s, a < b ∧ (conts ts a = true ∨ isIn ts a [.comma] = true) ∧ s < b) := by
      rintro B rfl
      cases hl : (o s).getLast? with
      | none => simp
      | some e =>
        dsimp only
        by_cases hc : isIn ts e [.comma] = true
        · rw [if_pos hc]
          have hen := isIn_lt hc
          have he := o2 e (List.mem_of_getLast? hl)
          have key : ∀ a ∈ o s, a ≤ e ∧ (conts ts a = true ∨ isIn ts a [.comma] = true) := fun a ha => by
            rcases last_of o1 hl ha with rfl | ⟨q1, q2⟩
            · exact ⟨Nat.le_refl _, .inr hc⟩
            · exact ⟨by omega, .inl q2⟩
          by_cases hd : isIn ts (e + 1) [.eq, .rp] = true
          · rw [if_pos hd]
            refine ⟨by simp, fun b hb => ?_⟩
            simp at hb; subst hb
            exact ⟨by omega, fun a ha => ⟨by have := (key a ha).1; omega, (key a ha).2, by omega⟩⟩
          · rw [if_neg hd]
            obtain ⟨m1, m2⟩ := manyL_asc ho k true (e + 1)
            refine ⟨m1, fun b hb => ?_⟩
            have := m2 b hb
            exact ⟨by omega, fun a ha => ⟨by have := (key a ha).1; omega, (key a ha).2, by omega⟩⟩
        · rw [if_neg hc]; simp
    obtain ⟨b1, b2⟩ := hB _ rfl
    refine ⟨List.pairwise_append.mpr ⟨?_, b1, fun a ha b hb => ⟨((b2 b hb).2 a (hA a ha)).1, ((b2 b hb).2 a (hA a ha)).2.1⟩⟩, fun e he => ?_⟩
    · cases sev
      · simp
      · exact o1.imp fun ⟨x, y⟩ => ⟨x, .inl y⟩
    · rcases List.mem_append.mp he with h1 | h1
      · exact o2 e (hA e h1)
      · refine ⟨?_, (b2 e h1).1⟩
        cases hl : (o s).getLast? with
        | none => rw [hl] at h1; simp at h1
        | some q => exact ((b2 e h1).2 q (List.mem_of_getLast? hl)).2.2
theorem one_sep {ts : List Tk} {a : Nat} (h : isIn ts a seps = true) : ∀ f, one ts f a = []
  | 0 => rfl
  | f + 1 => by
    unfold one isName
    rw [if_neg (by rw [isIn_no h (by decide)]; simp), if_neg (by rw [isIn_no h (by decide)]; simp), if_neg (by rw [isIn_no h (by decide)]; simp)]
theorem one_asc (ts : List Tk) : ∀ f a, AscO ts a (one ts f a)
  | 0, a => by simp [one, AscO]
  | f + 1, a => by
    unfold one
    by_cases h1 : isIn ts a [.star] = true
    · rw [if_pos h1]
      have := isIn_lt h1
      by_cases h2 : isIn ts (a + 1) seps = true
      · rw [if_pos h2, one_sep h2]
        simp [AscO]; omega
      · rw [if_neg h2]
        obtain ⟨i1, i2⟩ := one_asc ts f (a + 1)
        exact ⟨i1, fun e he => by have := i2 e he; omega⟩
    · rw [if_neg h1]
      by_cases h2 : isIn ts a [.lp] = true
      · rw [if_pos h2]
        obtain ⟨m1, m2⟩ := manyL_asc (fun s => one_asc ts f s) (fuel ts) (isIn ts (a + 1) [.star, .lp]) (a + 1)
        refine ⟨?_, fun e he => ?_⟩
        · rw [List.pairwise_map]
          refine (m1.filter _).imp_of_mem fun {x y} hx hy hr => ?_
          have hx' := (List.mem_filter.mp hx).2
          rcases hr.2 with q | q
          · unfold conts at q; rw [isIn_no hx' (by decide)] at q; cases q
          · rw [isIn_no hx' (by decide)] at q; cases q
        · obtain ⟨x, hx, rfl⟩ := List.mem_map.mp he
          obtain ⟨hx1, hx2⟩ := List.mem_filter.mp hx
          have := m2 x hx1
          have := isIn_lt hx2
          omega
      · rw [if_neg h2]
        by_cases h3 : isName ts a = true
        · rw [if_pos h3]
          have := isIn_lt (ss := [.ida, .idm, .cst, .ivar, .gvar, .self]) h3
          obtain ⟨i1, i2⟩ := chain_asc ts (fuel ts) (a + 1) (by omega)
          exact ⟨i1, fun e he => by have := i2 e he; omega⟩
        · rw [if_neg h3]; simp [AscO]
theorem many_asc (ts : List Tk) (f a : Nat) : AscM ts a (many ts f a) := manyL_asc (one_asc ts f) _ _ _
theorem asc_len {ts : List Tk} {s : Nat} {l : List Nat} {R : Nat → Nat → Prop} (h : l.Pairwise (fun a b => a < b ∧ R a b)) (hb : ∀ e ∈ l, s < e ∧ e ≤ ts.length + 1) : l.length ≤ ts.length + 2 := by
  have h1 : l.Pairwise (· < ·) := h.imp fun q => q.1
  have : ∀ (l : List Nat) (m : Nat), l.Pairwise (· < ·) → (∀ e ∈ l, m ≤ e ∧ e ≤ ts.length + 1) → l.length + m ≤ ts.length + 2 ∨ l = []
    := by
    intro l
    induction l with
    | nil => intros; exact .inr rfl
    | cons x r ih =>
      intro m hp hb
      left
      obtain ⟨p1, p2⟩ := List.pairwise_cons.mp hp
      have hx := hb x (by simp)
      rcases ih (x + 1) p2 (fun e he => ⟨p1 e he, (hb e (by simp [he])).2⟩) with q | rfl
      · simp; omega
      · simp; omega
  rcases this l 0 h1 (fun e he => ⟨Nat.zero_le _, (hb e he).2⟩) with q | rfl
  · omega
  · simp
theorem one_len (ts : List Tk) (f a : Nat) : (one ts f a).length ≤ ts.length + 2 := asc_len (one_asc ts f a).1 (one_asc ts f a).2
theorem many_len (ts : List Tk) (f a : Nat) : (many ts f a).length ≤ ts.length + 2 := asc_len (many_asc ts f a).1 (many_asc ts f a).2

/-! the law -/
theorem stop_of {ts : List Tk} {i : Nat} {ss : List Sg} (h : isIn ts i ss = true) (hd : ∀ s ∈ ss, s ∉ [Sg.dot, .amp, .col] ∧ s ∉ [Sg.lp, .lb] := by decide) : stop ts i = true := by
  unfold stop hops opns
  rw [isIn_no h fun s hs => (hd s hs).1, isIn_no h fun s hs => (hd s hs).2]; rfl
theorem chain_walk {ts : List Tk} : ∀ k s e, e ∈ chain ts k s → stop ts e = true → walk ts k s = some e
  | 0, s, e, h, _ => by simp [chain] at h
  | k + 1, s, e, h, hst => by
    unfold chain at h
    unfold walk
    unfold stop at hst
    rcases List.mem_cons.mp h with rfl | h
    · simp at hst; rw [hst.1, hst.2]; rfl
    · unfold nxt at h
      by_cases h1 : hops ts s = true
      · rw [if_pos h1] at h ⊢; exact chain_walk k _ e h (by unfold stop; exact hst)
      · rw [if_neg h1] at h ⊢
        by_cases h2 : opns ts s = true
        · rw [if_pos h2] at h ⊢
          cases hc : clos ts s 0 with
          | none => rw [hc] at h; simp at h
          | some q => rw [hc] at h; exact chain_walk k _ e h (by unfold stop; exact hst)
        · rw [if_neg h2] at h; simp at h
theorem walk_last {ts : List Tk} : ∀ k s p, walk ts k s = some p → (chain ts k s).getLast? = some p ∧ stop ts p = true
  | 0, s, p, h => by simp [walk] at h
  | k + 1, s, p, h => by
    unfold walk at h
    unfold chain nxt
    by_cases h1 : hops ts s = true
    · rw [if_pos h1] at h ⊢
      obtain ⟨q1, q2⟩ := walk_last k _ p h
      exact ⟨by simp [List.getLast?_cons, q1], q2⟩
    · rw [if_neg h1] at h ⊢
      by_cases h2 : opns ts s = true
      · rw [if_pos h2] at h ⊢
        cases hc : clos ts s 0 with
        | none => rw [hc] at h; cases h
        | some q =>
          rw [hc] at h
          obtain ⟨q1, q2⟩ := walk_last k _ p h
          exact ⟨by simp [List.getLast?_cons, q1], q2⟩
      · rw [if_neg h2] at h ⊢; cases h
        refine ⟨rfl, ?_⟩
        unfold stop; simp at h1 h2; simp [h1, h2]
structure LawO (ts : List Tk) (o : Nat → List Nat) (q : Nat → Option Nat) : Prop where
  a : ∀ s e, e ∈ o s → stop ts e = true → q s = some e
  b : ∀ s p, q s = some p → (o s).getLast? = some p
theorem loop_b1 {ts : List Tk} {o q} (h : LawO ts o q) : ∀ k sev s p, pLoop ts q k sev s = some p → p ∈ manyL ts o k sev s
  | 0, sev, s, p, e => by simp [pLoop] at e
  | k + 1, sev, s, p, e => by
    unfold pLoop at e
    unfold manyL
    cases hq : q s with
    | none => rw [hq] at e; cases e
    | some r =>
      rw [hq] at e
      have hl := h.b s r hq
      rw [hl]
      dsimp only at e ⊢
      by_cases h1 : isIn ts r [.comma] = true
      · rw [if_pos h1] at e ⊢
        by_cases h2 : isIn ts (r + 1) [.eq, .rp] = true
        · rw [if_pos h2] at e ⊢; cases e; simp
        · rw [if_neg h2] at e ⊢
          exact List.mem_append_right _ (loop_b1 h k true _ p e)
      · rw [if_neg h1] at e
        cases sev with
        | false => simp at e
        | true =>
          simp at e; subst e
          exact List.mem_append_left _ (by simpa using List.mem_of_getLast? hl)
theorem loop_b2 {ts : List Tk} {o q} (h : LawO ts o q) : ∀ k sev s e, e ∈ manyL ts o k sev s → isIn ts e [.eq, .rp] = true → pLoop ts q k sev s = some e
  | 0, sev, s, e, he, _ => by simp [manyL] at he
  | k + 1, sev, s, e, he, hi => by
    unfold manyL at he
    unfold pLoop
    rcases List.mem_append.mp he with h1 | h1
    · cases sev with
      | false => simp at h1
      | true =>
        simp at h1
        rw [h.a s e h1 (stop_of hi)]
        dsimp only
        rw [if_neg (by rw [isIn_no hi (by decide)]; simp), if_pos rfl]
    · cases hl : (o s).getLast? with
      | none => rw [hl] at h1; simp at h1
      | some r =>
        rw [hl] at h1
        dsimp only at h1
        by_cases h2 : isIn ts r [.comma] = true
        · rw [if_pos h2] at h1
          rw [h.a s r (List.mem_of_getLast? hl) (stop_of h2)]
          dsimp only
          rw [if_pos h2]
          by_cases h3 : isIn ts (r + 1) [.eq, .rp] = true
          · rw [if_pos h3] at h1 ⊢; simp at h1; rw [h1]
          · rw [if_neg h3] at h1 ⊢
            exact loop_b2 h k true _ e h1 hi
        · rw [if_neg h2] at h1; simp at h1
theorem last_all {l : List Nat} {p : Nat} (h : ∀ e ∈ l, e = p) (hne : l ≠ []) : l.getLast? = some p := by
  cases hl : l.getLast? with
  | none => rw [List.getLast?_eq_none_iff] at hl; exact absurd hl hne
  | some q => rw [h q (List.mem_of_getLast? hl)]
theorem one_pT (ts : List Tk) : ∀ f s, (∀ e ∈ one ts f s, (isIn ts s [.lp] = true ∨ stop ts e = true) → pT ts f s = some e) ∧ (∀ p, pT ts f s = some p → (one ts f s).getLast? = some p ∧ (isIn ts s [.star] = true ∨ isIn ts s [.lp] = true ∨ stop ts p = true))
  | 0, s => ⟨fun e h => by simp [one] at h, fun p h => by simp [pT] at h⟩
  | f + 1, s => by
    have L : LawO ts (one ts f) (pT ts f) := ⟨fun s e he hst => (one_pT ts f s).1 e he (.inr hst), fun s p h => ((one_pT ts f s).2 p h).1⟩
    unfold one pT
    by_cases h1 : isIn ts s [.star] = true
    · rw [if_pos h1, if_pos h1]
      by_cases h2 : isIn ts (s + 1) seps = true
      · rw [if_pos h2, if_pos h2, one_sep h2]
        refine ⟨fun e he _ => ?_, fun p h => ?_⟩
        · simp at he; rw [he]
        · cases h; exact ⟨rfl, .inl h1⟩
      · rw [if_neg h2, if_neg h2]
        refine ⟨fun e he hor => ?_, fun p h => ⟨((one_pT ts f (s + 1)).2 p h).1, .inl h1⟩⟩
        rcases hor with q | q
        · rw [isIn_no h1 (by decide)] at q; cases q
        · exact (one_pT ts f (s + 1)).1 e he (.inr q)
    · rw [if_neg h1, if_neg h1]
      by_cases h2 : isIn ts s [.lp] = true
      · rw [if_pos h2, if_pos h2]
        have key : ∀ e ∈ ((manyL ts (one ts f) (fuel ts) (isIn ts (s + 1) [.star, .lp]) (s + 1)).filter fun e => isIn ts e [.rp]).map (· + 1),
            (match pLoop ts (pT ts f) (fuel ts) (isIn ts (s + 1) [.star, .lp]) (s + 1) with | none => none | some i => if isIn ts i [.rp] then some (i + 1) else none) = some e := fun e he => by
          obtain ⟨x, hx, rfl⟩ := List.mem_map.mp he
          obtain ⟨hx1, hx2⟩ := List.mem_filter.mp hx
          have hx3 : isIn ts x [.eq, .rp] = true := isIn_sub hx2
          rw [loop_b2 L _ _ _ x hx1 hx3]
          dsimp only
          rw [if_pos hx2]
        refine ⟨fun e he _ => key e he, fun p h => ⟨last_all (fun e he => ?_) ?_, .inr (.inl h2)⟩⟩
        · have := key e he
          rw [h] at this; exact (Option.some.inj this).symm
        · cases hp : pLoop ts (pT ts f) (fuel ts) (isIn ts (s + 1) [.star, .lp]) (s + 1) with
          | none => rw [hp] at h; cases h
          | some i =>
            rw [hp] at h
            dsimp only at h
            by_cases h3 : isIn ts i [.rp] = true
            · have := loop_b1 L _ _ _ i hp
              exact List.ne_nil_of_mem (List.mem_map_of_mem (List.mem_filter.mpr ⟨this, h3⟩))
            · rw [if_neg h3] at h; cases h
      · rw [if_neg h2, if_neg h2]
        by_cases h3 : isName ts s = true
        · rw [if_pos h3, if_pos h3]
          refine ⟨fun e he hor => ?_, fun p h => ?_⟩
          · rcases hor with q | q
            · exact absurd q h2
            · exact chain_walk _ _ e he q
          · obtain ⟨q1, q2⟩ := walk_last _ _ p h
            exact ⟨q1, .inr (.inr q2)⟩
        · rw [if_neg h3, if_neg h3]
          exact ⟨fun e h => by simp at h, fun p h => by cases h⟩
theorem lawO (ts : List Tk) (f : Nat) : LawO ts (one ts f) (pT ts f) := ⟨fun s e he hst => (one_pT ts f s).1 e he (.inr hst), fun s p h => ((one_pT ts f s).2 p h).1⟩
theorem law_in (ts : List Tk) (f a p : Nat) (h : pTs ts f a = some p) : p ∈ many ts f a := loop_b1 (lawO ts f) _ _ _ p h
theorem law_out (ts : List Tk) (f a e : Nat) (h : e ∈ many ts f a) (hi : isIn ts e [.eq, .rp] = true) : pTs ts f a = some e := loop_b2 (lawO ts f) _ _ _ e h hi
theorem law_sett (ts : List Tk) : ∀ f a, (sett ts f a).head? = pT ts f a
  | 0, a => rfl
  | f + 1, a => by
    obtain ⟨h1, h2⟩ := one_pT ts (f + 1) a
    unfold sett
    by_cases h3 : isIn ts a [.star] = true
    · rw [if_pos h3]
      have : pT ts (f + 1) a = if isIn ts (a + 1) seps then some (a + 1) else pT ts f (a + 1) := by rw [pT, if_pos h3]
      rw [this]
      by_cases h4 : isIn ts (a + 1) seps = true
      · rw [if_pos h4, if_pos h4]; rfl
      · rw [if_neg h4, if_neg h4]; exact law_sett ts f (a + 1)
    · rw [if_neg h3]
      have key : ∀ e ∈ (one ts (f + 1) a).filter (fun e => isIn ts a [.lp] || stop ts e), pT ts (f + 1) a = some e := fun e he => by
        obtain ⟨q1, q2⟩ := List.mem_filter.mp he
        exact h1 e q1 (by simpa using q2)
      cases hl : (one ts (f + 1) a).filter (fun e => isIn ts a [.lp] || stop ts e) with
      | cons e r => rw [key e (by rw [hl]; simp)]; rfl
      | nil =>
        cases hp : pT ts (f + 1) a with
        | none => rfl
        | some p =>
          obtain ⟨q1, q2⟩ := h2 p hp
          have : p ∈ (one ts (f + 1) a).filter (fun e => isIn ts a [.lp] || stop ts e) := List.mem_filter.mpr ⟨List.mem_of_getLast? q1, by
            rcases q2 with q | q | q
            · exact absurd q h3
            · simp [q]
            · simp [q]⟩
          rw [hl] at this; simp at this
set_option maxHeartbeats 1000000
example (P : Params) : PySem.Challenge.rw_nz0040_01.foot = 18 ∧ topT.heap_1 P = topT.heap_1 P := by
  k_fill
  exact ⟨rfl, rfl⟩
theorem g_is_op (P : Params) : nsIn (topT.heap_1 P) mainGlobals "is_op" = some (some (.ref 29)) := by k_is
theorem k_is_op (P : Params) : keepIn (topT.heap_1 P) (.ref 29) = true := by k_is
theorem g_past_closing (P : Params) : nsIn (topT.heap_1 P) mainGlobals "past_closing" = some (some (.ref 36)) := by k_is
theorem k_past_closing (P : Params) : keepIn (topT.heap_1 P) (.ref 36) = true := by k_is
theorem g_past_target (P : Params) : nsIn (topT.heap_1 P) mainGlobals "past_target" = some (some (.ref 43)) := by k_is
theorem k_past_target (P : Params) : keepIn (topT.heap_1 P) (.ref 43) = true := by k_is
theorem g_past_targets (P : Params) : nsIn (topT.heap_1 P) mainGlobals "past_targets" = some (some (.ref 50)) := by k_is
theorem k_past_targets (P : Params) : keepIn (topT.heap_1 P) (.ref 50) = true := by k_is
theorem g_starts_many (P : Params) : nsIn (topT.heap_1 P) mainGlobals "starts_many" = some (some (.ref 57)) := by k_is
theorem k_starts_many (P : Params) : keepIn (topT.heap_1 P) (.ref 57) = true := by k_is
theorem g_Reader (P : Params) : nsIn (topT.heap_1 P) mainGlobals "Reader" = some (some (.ref 191)) := by k_is
theorem k_Reader (P : Params) : keepIn (topT.heap_1 P) (.ref 191) = true := by k_is
theorem g_Token (P : Params) : nsIn (topT.heap_1 P) mainGlobals "Token" = some (some (.ref 212)) := by k_is
theorem k_Token (P : Params) : keepIn (topT.heap_1 P) (.ref 212) = true := by k_is
theorem g__law_signs (P : Params) : nsIn (topT.heap_1 P) mainGlobals "_law_signs" = some (some (.ref 223)) := by k_is
theorem k__law_signs (P : Params) : keepIn (topT.heap_1 P) (.ref 223) = true := by k_is
theorem g__law_others (P : Params) : nsIn (topT.heap_1 P) mainGlobals "_law_others" = some (some (.ref 230)) := by k_is
theorem k__law_others (P : Params) : keepIn (topT.heap_1 P) (.ref 230) = true := by k_is
theorem g__law_box (P : Params) : nsIn (topT.heap_1 P) mainGlobals "_law_box" = some (some (.ref 237)) := by k_is
theorem k__law_box (P : Params) : keepIn (topT.heap_1 P) (.ref 237) = true := by k_is
theorem g__law_take (P : Params) : nsIn (topT.heap_1 P) mainGlobals "_law_take" = some (some (.ref 244)) := by k_is
theorem k__law_take (P : Params) : keepIn (topT.heap_1 P) (.ref 244) = true := by k_is
theorem g__law_op (P : Params) : nsIn (topT.heap_1 P) mainGlobals "_law_op" = some (some (.ref 252)) := by k_is
theorem k__law_op (P : Params) : keepIn (topT.heap_1 P) (.ref 252) = true := by k_is
theorem g__law_any (P : Params) : nsIn (topT.heap_1 P) mainGlobals "_law_any" = some (some (.ref 259)) := by k_is
theorem k__law_any (P : Params) : keepIn (topT.heap_1 P) (.ref 259) = true := by k_is
theorem g__law_inside (P : Params) : nsIn (topT.heap_1 P) mainGlobals "_law_inside" = some (some (.ref 264)) := by k_is
theorem k__law_inside (P : Params) : keepIn (topT.heap_1 P) (.ref 264) = true := by k_is
theorem g__law_target (P : Params) : nsIn (topT.heap_1 P) mainGlobals "_law_target" = some (some (.ref 271)) := by k_is
theorem k__law_target (P : Params) : keepIn (topT.heap_1 P) (.ref 271) = true := by k_is
theorem g__law_list (P : Params) : nsIn (topT.heap_1 P) mainGlobals "_law_list" = some (some (.ref 278)) := by k_is
theorem k__law_list (P : Params) : keepIn (topT.heap_1 P) (.ref 278) = true := by k_is
theorem g__law_bent (P : Params) : nsIn (topT.heap_1 P) mainGlobals "_law_bent" = some (some (.ref 285)) := by k_is
theorem k__law_bent (P : Params) : keepIn (topT.heap_1 P) (.ref 285) = true := by k_is
theorem g__law_row (P : Params) : nsIn (topT.heap_1 P) mainGlobals "_law_row" = some (some (.ref 290)) := by k_is
theorem k__law_row (P : Params) : keepIn (topT.heap_1 P) (.ref 290) = true := by k_is
theorem g__law_at (P : Params) : nsIn (topT.heap_1 P) mainGlobals "_law_at" = some (some (.ref 297)) := by k_is
theorem k__law_at (P : Params) : keepIn (topT.heap_1 P) (.ref 297) = true := by k_is
theorem g__law_is (P : Params) : nsIn (topT.heap_1 P) mainGlobals "_law_is" = some (some (.ref 304)) := by k_is
theorem k__law_is (P : Params) : keepIn (topT.heap_1 P) (.ref 304) = true := by k_is
theorem g__law_closes (P : Params) : nsIn (topT.heap_1 P) mainGlobals "_law_closes" = some (some (.ref 311)) := by k_is
theorem k__law_closes (P : Params) : keepIn (topT.heap_1 P) (.ref 311) = true := by k_is
theorem g__law_behind_one (P : Params) : nsIn (topT.heap_1 P) mainGlobals "_law_behind_one" = some (some (.ref 316)) := by k_is
theorem k__law_behind_one (P : Params) : keepIn (topT.heap_1 P) (.ref 316) = true := by k_is
theorem g__law_behind_many (P : Params) : nsIn (topT.heap_1 P) mainGlobals "_law_behind_many" = some (some (.ref 323)) := by k_is
theorem k__law_behind_many (P : Params) : keepIn (topT.heap_1 P) (.ref 323) = true := by k_is
theorem g__law_settled (P : Params) : nsIn (topT.heap_1 P) mainGlobals "_law_settled" = some (some (.ref 330)) := by k_is
theorem k__law_settled (P : Params) : keepIn (topT.heap_1 P) (.ref 330) = true := by k_is
theorem g_len (P : Params) : nsIn (topT.heap_1 P) mainGlobals "len" = some none := by k_is
theorem b_len : bootBuiltins "len" = some (.builtin "len") := by boot_fast
theorem g_min (P : Params) : nsIn (topT.heap_1 P) mainGlobals "min" = some none := by k_is
theorem b_min : bootBuiltins "min" = some (.builtin "min") := by boot_fast
theorem g_abs (P : Params) : nsIn (topT.heap_1 P) mainGlobals "abs" = some none := by k_is
theorem b_abs : bootBuiltins "abs" = some (.builtin "abs") := by boot_fast
theorem g_int (P : Params) : nsIn (topT.heap_1 P) mainGlobals "int" = some none := by k_is
theorem b_int : bootBuiltins "int" = some (.type "int") := by boot_fast
theorem g_range (P : Params) : nsIn (topT.heap_1 P) mainGlobals "range" = some none := by k_is
theorem b_range : bootBuiltins "range" = some (.type "range") := by boot_fast
set_option maxHeartbeats 1000000
def intsD (l : List Nat) : D := .lst (l.map fun (e : Nat) => D.int e)
def cnt (ts : List Tk) (i : Nat) : Nat := (ts.drop i).countP fun t => decide (t.1 ∈ [Sg.star, Sg.lp])
theorem cnt_succ (ts : List Tk) (i : Nat) : cnt ts (i + 1) ≤ cnt ts i := by
  unfold cnt
  by_cases h : i < ts.length
  · rw [drop_tok h, List.countP_cons]; omega
  · rw [List.drop_eq_nil_of_le (by omega)]; simp
theorem cnt_le (ts : List Tk) {i j : Nat} (h : i ≤ j) : cnt ts j ≤ cnt ts i := by
  induction j with
  | zero => have : i = 0 := by omega
            subst this; exact Nat.le_refl _
  | succ j ih =>
    by_cases q : i = j + 1
    · subst q; exact Nat.le_refl _
    · exact Nat.le_trans (cnt_succ ts j) (ih (by omega))
theorem cnt_lt {ts : List Tk} {i : Nat} (h : isIn ts i [.star, .lp] = true) : cnt ts (i + 1) < cnt ts i := by
  have hl := isIn_lt h
  unfold isIn at h
  unfold cnt
  rw [drop_tok hl, List.countP_cons, if_pos h]; omega
theorem Sg.kindNames (a : Sg) : (D.pys [.str "ident", .str "const", .str "ivar", .str "gvar"]).any (fun y => PyData.eqv y (D.str a.kind).py) = decide (a ∈ [Sg.ida, .idm, .cst, .ivar, .gvar]) := by cases a <;> decide
theorem Sg.kwSelf (a : Sg) : PyData.eqv (D.tup [.str a.kind, a.val]).py (D.tup [.str "kw", .str "self"]).py = decide (a = .self) := by cases a <;> decide
theorem Sg.tupPy (a : Sg) : (D.tup [.str a.kind, a.val]).isPy = true := by
  have h1 := Sg.kindPy a
  have h2 := Sg.valPy a
  simp only [D.isPy, D.isPys] at h1 h2 ⊢
  rw [h1, h2]; rfl
theorem Sg.tupDp (a : Sg) : (D.tup [.str a.kind, a.val]).py.depth ≤ 64 := by cases a <;> decide
/-- the walk along a chain, its list under way -/
def Wk (ts : List Tk) (s0 j : Nat) (l : List Nat) : Prop := j ≤ l.length ∧ l.length ≤ ts.length + 2 ∧
  ((∃ pre s k, l = pre ++ [s] ∧ j = pre.length ∧ ts.length + 2 ≤ s + k ∧ s ≤ ts.length + 1 ∧ (∀ x ∈ pre, x < s) ∧ pre.length ≤ s ∧ chain ts (fuel ts) s0 = pre ++ chain ts k s) ∨ (j = l.length ∧ chain ts (fuel ts) s0 = l))
theorem Wk.start {ts : List Tk} {s0 : Nat} (h : s0 ≤ ts.length + 1) : Wk ts s0 0 [s0] :=
  ⟨by simp, by simp, .inl ⟨[], s0, fuel ts, rfl, rfl, by unfold fuel; omega, h, by simp, by simp, rfl⟩⟩
theorem chain_succ (ts : List Tk) (k s : Nat) : chain ts (k + 1) s = s :: (match nxt ts s with | none => [] | some e => chain ts k e) := rfl
theorem Wk.at {ts : List Tk} {s0 j x : Nat} {l : List Nat} (h : Wk ts s0 j l) (hx : l[j]? = some x) : x ≤ ts.length + 1 ∧ (nxt ts x = none → Wk ts s0 (j + 1) l) ∧ (∀ e, nxt ts x = some e → e ∉ l ∧ Wk ts s0 (j + 1) (l ++ [e])) := by
  obtain ⟨h1, h2, h3⟩ := h
  have hj : j < l.length := (List.getElem?_eq_some_iff.mp hx).1
  rcases h3 with ⟨pre, s, k, rfl, rfl, a1, a2, a3, a4, a5⟩ | ⟨q, _⟩
  · rw [List.getElem?_append_right (Nat.le_refl _)] at hx
    simp at hx; subst hx
    cases k with
    | zero => omega
    | succ k =>
      rw [chain_succ] at a5
      refine ⟨a2, fun hn => ?_, fun e he => ?_⟩
      · rw [hn] at a5
        exact ⟨by simp, h2, .inr ⟨by simp, a5⟩⟩
      · obtain ⟨_, b1, b2⟩ := nxt_spec he
        rw [he] at a5
        refine ⟨fun hm => ?_, by simp, by simp at h2 ⊢; omega, .inl ⟨pre ++ [s], e, k, rfl, by simp, by omega, b2, fun x hx => ?_, by simp; omega, by rw [a5]; simp⟩⟩
        · rcases List.mem_append.mp hm with hm | hm
          · have := a3 e hm; omega
          · simp at hm; omega
        · rcases List.mem_append.mp hx with hx | hx
          · have := a3 x hx; omega
          · simp at hx; omega
  · omega
theorem Wk.done {ts : List Tk} {s0 j : Nat} {l : List Nat} (h : Wk ts s0 j l) (hx : l[j]? = none) : chain ts (fuel ts) s0 = l := by
  have hj : l.length ≤ j := by simpa using hx
  rcases h.2.2 with ⟨pre, s, k, rfl, rfl, _⟩ | ⟨_, q⟩
  · exact absurd hj (by simp)
  · exact q
theorem any_ints (e : Nat) : ∀ l : List Nat, (D.pys (l.map fun (x : Nat) => D.int x)).any (fun y => PyData.eqv y (D.int e).py) = decide (e ∈ l)
  | [] => by simp [D.pys]
  | x :: r => by
    rw [List.map_cons, D.pys, List.any_cons, any_ints e r]
    simp only [D.py, PyData.eqv]
    by_cases h : e = x
    · subst h; simp
    · have : ¬ (x : Int) = (e : Int) := by omega
      simp [h, this]
theorem intsPy : ∀ l : List Nat, D.isPys (l.map fun (x : Nat) => D.int x) = true
  | [] => rfl
  | x :: r => by simp only [List.map_cons, D.isPys, D.isPy, intsPy r]; rfl
theorem rho1 {x : Str} {d : D} {ρ : Rho} {names : List (Str × NameKind)} (h1 : ρ.lookup x = some d) (h2 : names.lookup x ≠ some .local) : ∀ y e, ([(x, d)] : Rho).lookup y = some e → ρ.lookup y = some e ∧ names.lookup y ≠ some .local := fun y e h => by
  rcases lookup_cons_of h with ⟨rfl, rfl⟩ | ⟨_, h⟩
  · exact ⟨h1, h2⟩
  · cases h
theorem rho0 {ρ : Rho} {names : List (Str × NameKind)} : ∀ y e, ([] : Rho).lookup y = some e → ρ.lookup y = some e ∧ names.lookup y ≠ some .local := fun y e h => by cases h
theorem sub1 {x : Str} {c : Addr} {l : List (Str × Addr)} (h : l.lookup x = some c) : ∀ y e, (y, e) ∈ [(x, c)] → l.lookup y = some e := fun y e hm => by
  rcases List.mem_cons.mp hm with hm | hm
  · cases hm; exact h
  · cases hm
theorem sub0 {l : List (Str × Addr)} : ∀ y e, (y, e) ∈ ([] : List (Str × Addr)) → l.lookup y = some e := fun y e hm => by cases hm
theorem RSub.one {x : Str} {d : D} {ρ : Rho} (h : ρ.lookup x = some d) : RSub [(x, d)] ρ := .cons h .nil
section
variable {G : Gl} {C : Cx} {ρ : Rho} {μ : MU} {pos : Pos}
theorem WE.compL {α : Type} {elt target iter : Expr} {ifs : List Expr} {scope : Scope} {cl : List (Str × Addr)} {ρ0 : Rho} {Φ : D → MU → Prop} (l : List α) (dOf : α → D) (p : α → Bool) (q : α → D)
    (ok : CompOk C ρ scope cl ρ0) (h : WE G C ρ μ iter fun d μ1 => d = .lst (l.map dOf) ∧ μ1 = μ) (hz : l.length ≤ sizeLine)
    (turn : ∀ x ∈ l, ∀ L2 ok2, ∃ ρ', Tgt G (C.comp scope cl L2 ok2) (C.comp scope cl L2 ok2).OwnL target (dOf x) ρ0 ρ' ∧ RSub ρ0 ρ' ∧
      WT G (C.comp scope cl L2 ok2) ρ' μ ifs fun b μ2 => b = p x ∧ μ2 = μ ∧ (p x = true → WE G (C.comp scope cl L2 ok2) ρ' μ elt fun e μ3 => e = q x ∧ μ3 = μ))
    (done : Φ (.lst ((l.filter p).map q)) μ)
    (hs : ∀ x, foldedSetIterable iter C.env x = pure x := by intro _; rfl) : WE G C ρ μ (.ListComp elt [⟨target, iter, ifs, 0⟩] scope pos) Φ := by
  refine WE.comp (item := fun i _ => (l.map dOf)[i]?) (Val := fun _ => True) l.length (fun k acc μi => μi = μ ∧ k ≤ l.length ∧ acc = ((l.take k).filter p).map q) ok (TT.mono h ?_) hz ?_ ?_ ?_ hs
  · rintro d μ1 ⟨rfl, rfl⟩
    exact ⟨ItD.lst, rfl, Nat.zero_le _, by simp⟩
  · rintro k acc μi ⟨rfl, hk, rfl⟩
    refine ⟨trivial, hk, ?_⟩
    rw [List.length_map]
    exact Nat.le_trans (List.length_filter_le _ _) (by rw [List.length_take]; omega)
  · rintro k acc μi d ⟨rfl, hk, rfl⟩ hit L2 ok2
    rw [List.getElem?_map] at hit
    cases hx : l[k]? with
    | none => rw [hx] at hit; cases hit
    | some x =>
      rw [hx] at hit; cases hit
      have hlt : k < l.length := (List.getElem?_eq_some_iff.mp hx).1
      have ht : l.take (k + 1) = l.take k ++ [x] := by rw [List.take_add_one, hx]; rfl
      obtain ⟨ρ', h1, h2, h3⟩ := turn x (List.mem_of_getElem? hx) L2 ok2
      refine ⟨ρ', h1, h2, TT.mono h3 ?_⟩
      rintro b μ2 ⟨rfl, rfl, h4⟩
      cases hp : p x with
      | false =>
        rw [if_neg Bool.false_ne_true]
        exact ⟨rfl, hlt, by rw [ht]; simp [hp]⟩
      | true =>
        rw [if_pos rfl]
        refine TT.mono (h4 hp) ?_
        rintro e μ3 ⟨rfl, rfl⟩
        exact ⟨rfl, hlt, by rw [ht]; simp [hp]⟩
  · rintro k acc μi ⟨rfl, hk, rfl⟩ hit
    rw [List.getElem?_map] at hit
    have : l.length ≤ k := by simpa using hit
    rw [List.take_of_length_le this]
    exact done
end
set_option maxHeartbeats 1000000
theorem MU.set_comm (μ : MU) {a b : Addr} (x y : MO) (h : a ≠ b) : (μ.set a x).set b y = (μ.set b y).set a x := by
  funext c
  by_cases h1 : c = a
  · subst h1; simp [MU.set, h]
  · by_cases h2 : c = b
    · subst h2; simp [MU.set, h1]
    · simp [MU.set, h1, h2]
def hdD (x : Nat × Bool) : D := .tup [.int x.1, .bool x.2]
theorem headsPy : ∀ l : List (Nat × Bool), D.isPys (l.map hdD) = true
  | [] => rfl
  | x :: r => by simp only [List.map_cons, D.isPys, hdD, D.isPy, headsPy r]; rfl
theorem any_heads (e : Nat) (b : Bool) : ∀ l : List (Nat × Bool), (∀ x ∈ l, x.1 ≠ e) → (D.pys (l.map hdD)).any (fun y => PyData.eqv y (D.tup [.int e, .bool b]).py) = false
  | [], _ => by simp [D.pys]
  | x :: r, h => by
    rw [List.map_cons, D.pys, List.any_cons, any_heads e b r fun y hy => h y (List.mem_cons_of_mem _ hy)]
    have h0 : x.1 ≠ e := h x List.mem_cons_self
    have : ¬ (x.1 : Int) = (e : Int) := by omega
    simp [hdD, D.py, D.pys, PyData.eqv, PyData.eqvAll, this]
/-- what the last edge of a target brings -/
def fin (ts : List Tk) (l : List Nat) : List (Nat × Bool) × List Nat := match l.getLast? with
  | none => ([], [])
  | some e => if isIn ts e [.comma] then (if isIn ts (e + 1) [.eq, .rp] then ([], [e + 1]) else ([(e + 1, true)], [])) else ([], [])
def inn (ts : List Tk) (l : List Nat) (q : Nat) : List (Nat × Bool) × List Nat := if q < l.length then ([], []) else fin ts l
theorem inn_zero (ts : List Tk) (l : List Nat) : inn ts l 0 = ([], []) := by
  unfold inn
  cases l with
  | nil => rfl
  | cons x r => rw [if_pos (by simp)]
theorem inn_end (ts : List Tk) (l : List Nat) : inn ts l l.length = fin ts l := by
  unfold inn; rw [if_neg (by omega)]
theorem inn_step {ts : List Tk} {l : List Nat} {q e : Nat} (ha : l.Pairwise (fun a b => a < b ∧ conts ts a = true)) (he : l[q]? = some e) :
    inn ts l q = ([], []) ∧ inn ts l (q + 1) = if isIn ts e [.comma] then (if isIn ts (e + 1) [.eq, .rp] then ([], [e + 1]) else ([(e + 1, true)], [])) else ([], []) := by
  obtain ⟨hq, hqe⟩ := List.getElem?_eq_some_iff.mp he
  refine ⟨if_pos hq, ?_⟩
  by_cases h : q + 1 < l.length
  · have hc : conts ts e = true := by
      have := (List.pairwise_iff_getElem.mp ha q (q + 1) hq h (by omega)).2
      rw [hqe] at this; exact this
    unfold inn
    rw [if_pos h, if_neg (by rw [isIn_no (ss := [.dot, .amp, .col, .lp, .lb]) hc (by decide)]; simp)]
  · have hl : l.length = q + 1 := by omega
    unfold inn fin
    rw [if_neg h]
    have : l.getLast? = some e := by rw [List.getLast?_eq_getElem?, hl, Nat.add_sub_cancel, he]
    rw [this]
def WM (ts : List Tk) (o : Nat → List Nat) (tot : List Nat) (a0 j : Nat) (H : List (Nat × Bool)) (F : List Nat) : Prop := j ≤ H.length ∧ H.length ≤ ts.length + 2 ∧
  ((∃ pre s sev k, H = pre ++ [(s, sev)] ∧ j = pre.length ∧ ts.length + 2 ≤ s + k ∧ s ≤ ts.length ∧ a0 ≤ s ∧ (∀ x ∈ pre, x.1 < s) ∧ pre.length ≤ s ∧ tot = F ++ manyL ts o k sev s) ∨ (j = H.length ∧ tot = F))
theorem WM.start {ts : List Tk} {o a0 sev} (h : a0 ≤ ts.length) : WM ts o (manyL ts o (fuel ts) sev a0) a0 0 [(a0, sev)] [] :=
  ⟨by simp, by simp, .inl ⟨[], a0, sev, fuel ts, rfl, rfl, by unfold fuel; omega, h, Nat.le_refl _, by simp, by simp, by simp⟩⟩
theorem WM.len {ts : List Tk} {o tot a0 j H F} (h : WM ts o tot a0 j H F) : F.length ≤ tot.length := by
  rcases h.2.2 with ⟨pre, s, sev, k, _, _, _, _, _, _, _, e⟩ | ⟨_, e⟩ <;> rw [e] <;> simp
theorem manyL_succ (ts : List Tk) (o : Nat → List Nat) (k : Nat) (sev : Bool) (s : Nat) : manyL ts o (k + 1) sev s = (if sev then o s else []) ++ match (o s).getLast? with
    | none => []
    | some e => if isIn ts e [.comma] then (if isIn ts (e + 1) [.eq, .rp] then [e + 1] else manyL ts o k true (e + 1)) else [] := rfl
theorem WM.at {ts : List Tk} {o tot a0 j H F s sev} (ho : ∀ s, AscO ts s (o s)) (h : WM ts o tot a0 j H F) (hx : H[j]? = some (s, sev)) :
    s ≤ ts.length ∧ a0 ≤ s ∧ (∀ x ∈ H, x.1 ≤ s) ∧ WM ts o tot a0 (j + 1) (H ++ (fin ts (o s)).1) (F ++ (if sev then o s else []) ++ (fin ts (o s)).2) := by
  obtain ⟨h1, h2, h3⟩ := h
  have hj : j < H.length := (List.getElem?_eq_some_iff.mp hx).1
  rcases h3 with ⟨pre, s', sev', k, rfl, rfl, a1, a2, a3, a4, a5, a6⟩ | ⟨q, _⟩
  · rw [List.getElem?_append_right (Nat.le_refl _)] at hx
    simp at hx
    obtain ⟨rfl, rfl⟩ := hx
    refine ⟨a2, a3, fun x hx => ?_, ?_⟩
    · rcases List.mem_append.mp hx with hx | hx
      · have := a4 x hx; omega
      · simp at hx; subst hx; exact Nat.le_refl _
    · cases k with
      | zero => omega
      | succ k =>
        rw [manyL_succ] at a6
        unfold fin
        cases hl : (o s').getLast? with
        | none =>
          rw [hl] at a6
          refine ⟨by simp, by simpa using h2, .inr ⟨by simp, by rw [a6]; simp⟩⟩
        | some e =>
          rw [hl] at a6
          dsimp only at a6 ⊢
          have he := (ho s').2 e (List.mem_of_getLast? hl)
          by_cases c1 : isIn ts e [.comma] = true
          · have hen := isIn_lt c1
            rw [if_pos c1] at a6 ⊢
            by_cases c2 : isIn ts (e + 1) [.eq, .rp] = true
            · rw [if_pos c2] at a6 ⊢
              exact ⟨by simp, by simpa using h2, .inr ⟨by simp, by rw [a6]; simp⟩⟩
            · rw [if_neg c2] at a6 ⊢
              refine ⟨by simp, by simp; omega, .inl ⟨pre ++ [(s', sev')], e + 1, true, k, rfl, by simp, by omega, by omega, by omega, fun x hx => ?_, by simp; omega, by rw [a6]; simp⟩⟩
              rcases List.mem_append.mp hx with hx | hx
              · have := a4 x hx; omega
              · simp at hx; subst hx; show s' < e + 1; omega
          · rw [if_neg c1] at a6 ⊢
            exact ⟨by simp, by simpa using h2, .inr ⟨by simp, by rw [a6]; simp⟩⟩
  · omega
theorem WM.done {ts : List Tk} {o tot a0 j H F} (h : WM ts o tot a0 j H F) (hx : H[j]? = none) : tot = F := by
  have hj : H.length ≤ j := by simpa using hx
  rcases h.2.2 with ⟨pre, s, sev, k, rfl, rfl, _⟩ | ⟨_, q⟩
  · exact absurd hj (by simp)
  · exact q
set_option maxHeartbeats 1000000
theorem Sg.kindKw (a : Sg) : PyData.eqv (D.str a.kind).py (D.str "kw").py = decide (a ∈ [Sg.self, .kend]) := by cases a <;> decide
theorem Sg.valSelf (a : Sg) (h : a ∈ [Sg.self, .kend]) : PyData.eqv a.val.py (D.str "self").py = decide (a = .self) := by revert h; cases a <;> decide
section
variable {G : Gl}
theorem f_kind : Fld G 212 "kind" := ⟨by k_is, by k_is, _, by k_is, by k_is⟩
theorem f_value : Fld G 212 "value" := ⟨by k_is, by k_is, _, by k_is, by k_is⟩
theorem f_spaced : Fld G 212 "spaced" := ⟨by k_is, by k_is, _, by k_is, by k_is⟩
theorem f_tokens : Fld G 191 "tokens" := ⟨by k_is, by k_is, _, by k_is, by k_is⟩
theorem f_place : Fld G 191 "place" := ⟨by k_is, by k_is, _, by k_is, by k_is⟩
theorem f_last : Fld G 191 "last" := ⟨by k_is, by k_is, _, by k_is, by k_is⟩
theorem f_scopes : Fld G 191 "scopes" := ⟨by k_is, by k_is, _, by k_is, by k_is⟩
theorem m_peek : Mth G 191 "peek" 79 := ⟨by k_is, by k_is, by k_is, by k_is⟩
theorem m_take : Mth G 191 "take" 86 := ⟨by k_is, by k_is, by k_is, by k_is⟩
theorem c_Reader : Cls G 191 71 := ⟨by k_is, by k_is, by k_is⟩
theorem c_Token : Cls G 212 209 := ⟨by k_is, by k_is, by k_is⟩
theorem s_tokens : Sfld G 191 "tokens" := ⟨by k_is, by k_is, by k_is, by k_is⟩
theorem s_table : Sfld G 191 "table" := ⟨by k_is, by k_is, by k_is, by k_is⟩
theorem s_place : Sfld G 191 "place" := ⟨by k_is, by k_is, by k_is, by k_is⟩
theorem s_last : Sfld G 191 "last" := ⟨by k_is, by k_is, by k_is, by k_is⟩
theorem s_scopes : Sfld G 191 "scopes" := ⟨by k_is, by k_is, by k_is, by k_is⟩
theorem s_closed : Sfld G 191 "closed" := ⟨by k_is, by k_is, by k_is, by k_is⟩
theorem s_no_do : Sfld G 191 "no_do" := ⟨by k_is, by k_is, by k_is, by k_is⟩
theorem s_bare : Sfld G 191 "bare" := ⟨by k_is, by k_is, by k_is, by k_is⟩
theorem s_loops : Sfld G 191 "loops" := ⟨by k_is, by k_is, by k_is, by k_is⟩
theorem s_rescues : Sfld G 191 "rescues" := ⟨by k_is, by k_is, by k_is, by k_is⟩
theorem t_kind : Sfld G 212 "kind" := ⟨by k_is, by k_is, by k_is, by k_is⟩
theorem t_value : Sfld G 212 "value" := ⟨by k_is, by k_is, by k_is, by k_is⟩
theorem t_line : Sfld G 212 "line" := ⟨by k_is, by k_is, by k_is, by k_is⟩
theorem t_spaced : Sfld G 212 "spaced" := ⟨by k_is, by k_is, by k_is, by k_is⟩
theorem t_place : Sfld G 212 "place" := ⟨by k_is, by k_is, by k_is, by k_is⟩

theorem g_OPENING (P : Params) : nsIn (topT.heap_1 P) mainGlobals "OPENING" = some (some (.ref 22)) := by k_is
theorem h_OPENING : ∃ o, (topT.heap_1 G.w.params).lookup 22 = some o ∧ o.cls = .type "tuple" ∧ ∃ a b c n, o.data = .seq (List.toArray [Value.str "(" a, .str "[" b, .str "{" c]) n := ⟨_, by k_is, rfl, _, _, _, _, rfl⟩
theorem r_OPENING (g : PH) (h : ∀ b o, G.b0.get? b = some o → g b = some o) : Rel g (.ref 22) (.tup (opens.map Sg.val)) := by
  obtain ⟨o, h1, h2, a, b, c, n, h3⟩ := h_OPENING (G := G)
  exact .mkTup (h _ _ (G.X _ _ h1)) h2 h3 (.cons (.str _ _) (.cons (.str _ _) (.cons (.str _ _) .nil)))
/-- the places that the reader shows -/
def PK (G : Gl) (μ : MU) (rd : Addr) (ts : List Tk) : Prop := (∃ dx fs, μ rd = some (.ins 191 dx) ∧ μ dx = some (.dict fs) ∧ fs.lookup ("peek" : Str) = none) ∧ ∀ i : Nat, Fn G 79 1 [.loc rd, .int i] μ fun r μ' => r = tokO (tok ts i) ∧ μ' = μ
variable {C : Cx} {ρ : Rho} {μ : MU} {pos : Pos} {Φ : D → MU → Prop}
theorem WE.kind {value : Expr} (h : WE G C ρ μ value fun d μ1 => ∃ t, d = tokO t ∧ Φ (.str t.1.kind) μ1)
    (he : eval (.Attribute value "kind" pos) C.env = (do
      let o ← eval value C.env
      standAt pos.atName
      let r ← holding [o] (getAttr o "kind" true)
      letTemporaryGo value o r
      pure r) := by with_unfolding_all rfl) : WE G C ρ μ (.Attribute value "kind" pos) Φ := WE.attr (TT.mono h fun d μ1 ⟨t, e, φ⟩ => ⟨_, _, _, .inl e, f_kind, rfl, φ⟩) he
theorem WE.value {value : Expr} (h : WE G C ρ μ value fun d μ1 => ∃ t, d = tokO t ∧ Φ t.1.val μ1)
    (he : eval (.Attribute value "value" pos) C.env = (do
      let o ← eval value C.env
      standAt pos.atName
      let r ← holding [o] (getAttr o "value" true)
      letTemporaryGo value o r
      pure r) := by with_unfolding_all rfl) : WE G C ρ μ (.Attribute value "value" pos) Φ := WE.attr (TT.mono h fun d μ1 ⟨t, e, φ⟩ => ⟨_, _, _, .inl e, f_value, rfl, φ⟩) he
theorem WE.spaced {value : Expr} (h : WE G C ρ μ value fun d μ1 => ∃ t, d = tokO t ∧ Φ (.bool t.2) μ1)
    (he : eval (.Attribute value "spaced" pos) C.env = (do
      let o ← eval value C.env
      standAt pos.atName
      let r ← holding [o] (getAttr o "spaced" true)
      letTemporaryGo value o r
      pure r) := by with_unfolding_all rfl) : WE G C ρ μ (.Attribute value "spaced" pos) Φ := WE.attr (TT.mono h fun d μ1 ⟨t, e, φ⟩ => ⟨_, _, _, .inl e, f_spaced, rfl, φ⟩) he
theorem WE.peek {x : Str} {rd : Addr} {ts : List Tk} {e : Expr} {p1 p2} (pk : PK G μ rd ts) (hn : 1 ≤ C.n) (hx : C.Has x) (hr : ρ.lookup x = some (.loc rd))
    (h : WE G C ρ μ e fun d μ1 => ∃ i : Nat, d = .int i ∧ μ1 = μ ∧ Φ (tokO (tok ts i)) μ) (hd : (x == ("__debug__" : Str)) = false := by decide)
    (hc : eval (.Call (.Attribute (.Name x p1) "peek" p2) [e] [] pos) C.env = (do
      let ov ← eval (.Name x p1) C.env
      standAt p2.atName
      let (f, first) ← holding [ov] (getMethod ov "peek" (do return (← importBound (.Name x p1) C.env).getD true))
      callWith pos f first (backTo pos (starEach [e] C.env)) (backToKw pos (keywordEach [] C.env))) := by rfl)
    (he : starEach [e] C.env = (false, eval e C.env) :: starEach [] C.env := by rfl) (hpl : (backTo pos (starEach [] C.env)).any (·.1) = false := by rfl) :
    WE G C ρ μ (.Call (.Attribute (.Name x p1) "peek" p2) [e] [] pos) Φ := by
  obtain ⟨⟨dx, fs, m1, m2, hl⟩, hf⟩ := pk
  refine WE.meth (WE.name hx hr ?_ hd) hc he hpl
  refine ⟨191, fs, 79, .inr ⟨rd, dx, rfl, m1, m2⟩, m_peek, hl, WL.cons (TT.mono h ?_) he⟩
  rintro _ _ ⟨i, rfl, rfl, φ⟩
  refine WL.nil ?_
  refine Fn.mono (hf i) hn ?_
  rintro _ _ ⟨rfl, rfl⟩
  exact φ
theorem WA.and_one {x : Expr} {Φ : Bool → MU → Prop} (h : WB G C ρ μ x Φ) : WA G C ρ μ .And [x] Φ := WA.and (TT.mono h fun b μ' φ => by
  cases b with
  | false => exact φ
  | true => exact WA.and_nil φ)
theorem WA.or_one {x : Expr} {Φ : Bool → MU → Prop} (h : WB G C ρ μ x Φ) : WA G C ρ μ .Or [x] Φ := WA.or (TT.mono h fun b μ' φ => by
  cases b with
  | true => exact φ
  | false => exact WA.or_nil φ)
theorem isIn_no' {ts : List Tk} {i : Nat} (h : decide ((tok ts i).1 ∈ [Sg.lb, .lp]) = false) : isIn ts i [.lp, .lb] = false := by
  unfold isIn; simp at h ⊢; exact ⟨h.2, h.1⟩
theorem isIn_nop {ts : List Tk} {i : Nat} {ss : List Sg} (h : (tok ts i).1.isOp = false) (ho : ∀ b ∈ ss, b.isOp = true := by decide) : isIn ts i ss = false := by
  unfold isIn; rw [decide_eq_false_iff_not]; intro q; rw [ho _ q] at h; cases h
def oI : Option Nat → Int
  | some p => p
  | none => -1
def NoEof (ts : List Tk) : Prop := ∀ t ∈ ts, t.1 ≠ Sg.eof
theorem NoEof.at {ts : List Tk} (h : NoEof ts) {i : Nat} (hi : i < ts.length) : (tok ts i).1 ≠ .eof := h _ (List.mem_of_getElem? (tok_lt hi))
end
set_option maxHeartbeats 1000000
theorem MU.newDel (μ : MU) {a b : Addr} (x y z : MO) (ha : μ a = none) (hb : μ b = none) : ((((μ.set b x).set a y).set b z).del a).del b = μ := by
  funext c
  by_cases h1 : c = b
  · subst h1; simp [MU.del, hb]
  · by_cases h2 : c = a
    · subst h2; simp [MU.del, ha]
    · simp [MU.set, MU.del, h1, h2]
theorem h_Token (P : Params) : ∃ nm q N bs hdct sn sub ab col dd k0 k1 k2 k3 k5 newId, (topT.heap_1 P).lookup 212 = some (excClassObj nm q 212 N bs [.type "object"] hdct sn sub ab col dd k0 k1 k2 k3 k5 newId) ∧
    nsOkIn (topT.heap_1 P) N = true ∧ nsIn (topT.heap_1 P) N "__eq__" = some none ∧ nsIn (topT.heap_1 P) N "__ne__" = some none :=
  ⟨_, _, _, _, _, _, _, _, _, _, _, _, _, _, _, _, by k_is, by kernel_rfl, by k_is, by k_is⟩
section
variable {G : Gl} {C : Cx} {ρ : Rho} {μ : MU} {pos : Pos}
theorem WE.dict0 {Φ : D → MU → Prop} (h : ∀ a, Φ (.loc a) μ) : WE G C ρ μ (.Dict [] [] pos) Φ := fun s g hp fm =>
  wpAny_Dict_empty ⟨g, μ, .loc _, hp.junk (fun a o e => Heap.get?_push_of_some _ e) s.toks, Step.junk fun a o e => Heap.get?_push_of_some _ e, .loc _, h _⟩
theorem P2.neSame {a : Addr} : P2 G μ (compareOp .NotEq) (.pin a 212) (.pin a 212) (.bool false) := fun A s g v1 v2 hh hu hp r1 r2 => by
  obtain ⟨dx, es, n0, rfl, h1, h2⟩ := r1.pin_inv
  obtain ⟨dx', es', n0', rfl, h3, h4⟩ := r2.pin_inv
  obtain ⟨nm, q, N, bs, hdct, sn, sub, ab, col, dd, k0, k1, k2, k3, k5, newId, e1, e2, e3, e4⟩ := h_Token G.w.params
  have X := G.in hp
  have ci : s.heap.CmpInst a 212 [.type "object"] := ⟨_, nm, q, N, bs, hdct, sn, sub, ab, col, dd, k0, k1, k2, k3, k5, newId, _, hp.cov _ _ h1, rfl, X _ _ e1, .of_isNs (isNs_of_in X e2), nsMap_none_of_in X e2 e3, nsMap_none_of_in X e2 e4⟩
  exact compareOp_ne_same PySem.F.cmp_object ci (by omega) ⟨g, hp, Step.refl .., .bool _⟩
theorem Hp.re {s g a mo mo'} (hp : Hp G μ g s) (hm : μ a = some mo) (hr : ∀ o, s.heap.get? a = some o → MRel g o mo → MRel g o mo') : Hp G (μ.set a mo') g s := by
  obtain ⟨h1, o, h2, h3⟩ := hp.mt a _ hm
  refine ⟨hp.bas, hp.cov, fun b m e => ?_, hp.gens, hp.os⟩
  by_cases q : b = a
  · subst q; rw [MU.set_self] at e; cases e; exact ⟨h1, o, h2, hr o h2 h3⟩
  · rw [MU.set_ne _ _ q] at e; exact hp.mt b m e
theorem Step.re {g h a mo mo'} (hm : μ a = some mo) : Step no μ g h (μ.set a mo') g h :=
  ⟨Sub.refl _, fun b o e hb _ => e, fun b e => by
    by_cases q : b = a
    · subst q; left; rw [hm]; simp
    · rw [MU.set_ne _ _ q] at e; exact .inl e, fun _ e => .inl e⟩
theorem WE.attrPin {value : Expr} {name : Str} {Φ : D → MU → Prop} (h : WE G C ρ μ value fun d0 μ1 => ∃ x dx Cl Cl' fs fs', d0 = .loc x ∧ μ1 x = some (.ins Cl dx) ∧ μ1 dx = some (.dict fs) ∧ Fld G Cl name ∧ fs.lookup name = some (.obj Cl' fs') ∧ ∀ a, Φ (.pin a Cl') (μ1.set dx (.dict (putF name (.pin a Cl') fs))))
    (he : eval (.Attribute value name pos) C.env = (do
      let o ← eval value C.env
      standAt pos.atName
      let r ← holding [o] (getAttr o name true)
      letTemporaryGo value o r
      pure r) := by with_unfolding_all rfl) : WE G C ρ μ (.Attribute value name pos) Φ := fun s g hp fm => by
  refine Attribute_any_ (wpAny_mono (h s g hp fm) ?_ fun _ _ x => x) he
  rintro v1 s1 ⟨g1, μ1, d1, hp1, st1, r1, x, dx, Cl, Cl', fs, fs', rfl, m1, m2, hf, hl, φ⟩
  obtain rfl := r1.loc_inv
  obtain ⟨_, o, ho, rfl⟩ := hp1.mt x _ m1
  obtain ⟨hg2, o', ho', es, n, rfl, hr⟩ := hp1.mt dx _ m2
  obtain ⟨h1, h2, attr, h3, h4⟩ := hf
  obtain ⟨a, ⟨u, hu, rfl, ru⟩, hr'⟩ := hr.pin hl
  have I : InstAt s1.heap x (instObj Cl dx) Cl (some (dictOf es n)) := ⟨ho, rfl, rfl, ho'⟩
  refine get_value (G.in hp1) I (plainGet_of h1).1 (findObj_own h2 h3 h4 hu) (handed_of ru) ?_
  refine ⟨g1, μ1.set dx (.dict (putF name (.pin a Cl') fs)), _, ?_, ?_, ru, φ a⟩
  · exact (hp1.tok _).re m2 fun o e _ => by
      have e' : s1.heap.get? dx = some o := e
      rw [ho'] at e'; cases e'
      exact ⟨es, n, rfl, hr'⟩
  · exact st1.trans (Step.re m2)
end
def tkF (t : Tk) : List (Str × D) := [("kind", .str t.1.kind), ("value", t.1.val), ("line", .int 1), ("spaced", .bool t.2), ("place", .int 0)]
def rdF (all : List Tk) (tb : Addr) (k : Nat) (last : D) : List (Str × D) := [("tokens", .lst (all.map tokO)), ("table", .loc tb), ("place", .int k), ("last", last), ("scopes", .lst [.lst []]), ("closed", .lst [.bool true]), ("no_do", .bool false), ("bare", .bool false), ("loops", .bool false), ("rescues", .bool false)]
structure Rdr (μ : MU) (rd dx : Addr) (all : List Tk) (tb : Addr) (k : Nat) (last : D) : Prop where
  ins : μ rd = some (.ins 191 dx)
  dct : μ dx = some (.dict (rdF all tb k last))
theorem full_tokO (ts : List Tk) (i : Nat) : ((full ts).map tokO)[min i (((full ts).map tokO).length - 1)]? = some (tokO (tok ts i)) := by
  rw [List.length_map, full_len, Nat.add_sub_cancel, List.getElem?_map, full_get]; rfl
theorem tok_drop (ts : List Tk) (k i : Nat) : tok (ts.drop k) i = tok ts (k + i) := by
  simp [tok, List.getD]
set_option maxHeartbeats 1000000
/-- the box of the law -/
def Bx (μ : MU) (bx : Addr) (c : Nat) : Prop := ∃ t k n : Int, μ bx = some (.box [.int t, .int k, .int n]) ∧ 0 ≤ t ∧ 0 ≤ k ∧ k ≤ c
def BxTo (μ μ' : MU) (bx : Addr) (c : Nat) : Prop := ∃ t k n : Int, μ' = μ.set bx (.box [.int t, .int k, .int n]) ∧ 0 ≤ t ∧ 0 ≤ k ∧ k ≤ c
theorem Bx.start {μ bx c} (h : Bx μ bx c) : BxTo μ μ bx c := let ⟨t, k, n, a, b⟩ := h; ⟨t, k, n, (MU.set_eq _ _ _ a).symm, b⟩
theorem BxTo.bx {μ μ' bx c} (h : BxTo μ μ' bx c) : Bx μ' bx c := let ⟨t, k, n, a, b⟩ := h; ⟨t, k, n, by rw [a, MU.set_self], b⟩
theorem BxTo.trans {μ μ' μ'' bx c c'} (h : BxTo μ μ' bx c) (h' : BxTo μ' μ'' bx c') : BxTo μ μ'' bx c' := by
  obtain ⟨t, k, n, rfl, _⟩ := h
  obtain ⟨t', k', n', rfl, b'⟩ := h'
  exact ⟨t', k', n', by rw [MU.set_set], b'⟩
theorem BxTo.mono {μ μ' bx c c'} (h : BxTo μ μ' bx c) (hc : c ≤ c' := by omega) : BxTo μ μ' bx c' := let ⟨t, k, n, a, b1, b2, b3⟩ := h; ⟨t, k, n, a, b1, b2, by omega⟩
theorem BxTo.ne {μ μ' bx c a} (h : BxTo μ μ' bx c) (ha : a ≠ bx) : μ' a = μ a := by obtain ⟨t, k, n, rfl, _⟩ := h; exact MU.set_ne _ _ ha
def isSL (t : Tk) : Bool := decide (t.1 ∈ [Sg.star, Sg.lp])
/-- a piece of a row: at most A tokens, at most B of them open a round -/
structure GR (A B : Nat) (l : List Tk) : Prop where
  ne : NoEof l
  len : l.length ≤ A
  cnt : l.countP isSL ≤ B
theorem NoEof.append {l l' : List Tk} (h : NoEof l) (h' : NoEof l') : NoEof (l ++ l') := fun t ht => (List.mem_append.mp ht).elim (h t) (h' t)
theorem GR.append {A B A' B' l l'} (h : GR A B l) (h' : GR A' B' l') : GR (A + A') (B + B') (l ++ l') :=
  ⟨h.ne.append h'.ne, by rw [List.length_append]; exact Nat.add_le_add h.len h'.len, by rw [List.countP_append]; exact Nat.add_le_add h.cnt h'.cnt⟩
theorem GR.mono {A B A' B' l} (h : GR A B l) (hA : A ≤ A' := by omega) (hB : B ≤ B' := by omega) : GR A' B' l := ⟨h.ne, Nat.le_trans h.len hA, Nat.le_trans h.cnt hB⟩
theorem GR.nil {A B} : GR A B [] := ⟨fun t h => (by cases h), Nat.zero_le _, Nat.zero_le _⟩
theorem GR.one {t : Tk} (h : t.1 ≠ .eof) : GR 1 1 [t] := ⟨fun u hu => by simp at hu; subst hu; exact h, Nat.le_refl _, List.countP_le_length⟩
theorem GR.one0 {t : Tk} (h : t.1 ≠ .eof) (h' : isSL t = false) : GR 1 0 [t] := ⟨fun u hu => by simp at hu; subst hu; exact h, Nat.le_refl _, by simp [h']⟩
theorem GR.all {l : List Tk} (A : Nat) (h : ∀ t ∈ l, t.1 ≠ .eof ∧ isSL t = false) (hl : l.length ≤ A) : GR A 0 l := ⟨fun t ht => (h t ht).1, hl, by
  rw [Nat.le_zero, List.countP_eq_zero]; intro t ht; rw [(h t ht).2]; simp⟩
theorem GR.allAny {l : List Tk} (A : Nat) (h : ∀ t ∈ l, t.1 ≠ .eof) (hl : l.length ≤ A) : GR A A l := ⟨h, hl, Nat.le_trans List.countP_le_length hl⟩
theorem rowD_append (l l' : List Tk) : rowD (l ++ l') = .lst (l.map tkD ++ l'.map tkD) := by rw [rowD, List.map_append]
theorem ofTks {P : Tk → Prop} : ∀ {acc : List D}, (∀ d ∈ acc, ∃ t, d = tkD t ∧ P t) → ∃ l : List Tk, acc = l.map tkD ∧ ∀ t ∈ l, P t
  | [], _ => ⟨[], rfl, fun t h => by cases h⟩
  | d :: r, h => by
    obtain ⟨t, rfl, ht⟩ := h d List.mem_cons_self
    obtain ⟨l, rfl, hl⟩ := ofTks (acc := r) fun d hd => h d (List.mem_cons_of_mem _ hd)
    exact ⟨t :: l, rfl, fun u hu => by
      rcases List.mem_cons.mp hu with rfl | hu
      · exact ht
      · exact hl u hu⟩
def signsL : List Sg := [.comma, .eq, .lp, .rp, .lb, .rb, .lc, .rc, .dot, .amp, .col, .star, .plus]
def othersL : List Sg := [.ida, .cst, .ivar, .gvar, .self, .kend, .int7, .nl]
def othD (a : Sg) : D := .tup [.str a.kind, a.val]
theorem signs_get {i : Nat} (h : i < 13) : ∃ a, signsL[i]? = some a ∧ a.isOp = true ∧ a ≠ .eof := by
  have : ∀ i : Fin 13, ∃ a, signsL[i.1]? = some a ∧ a.isOp = true ∧ a ≠ .eof := by
    intro i
    match i with
    | ⟨0, _⟩ => exact ⟨_, rfl, rfl, by decide⟩
    | ⟨1, _⟩ => exact ⟨_, rfl, rfl, by decide⟩
    | ⟨2, _⟩ => exact ⟨_, rfl, rfl, by decide⟩
    | ⟨3, _⟩ => exact ⟨_, rfl, rfl, by decide⟩
    | ⟨4, _⟩ => exact ⟨_, rfl, rfl, by decide⟩
    | ⟨5, _⟩ => exact ⟨_, rfl, rfl, by decide⟩
    | ⟨6, _⟩ => exact ⟨_, rfl, rfl, by decide⟩
    | ⟨7, _⟩ => exact ⟨_, rfl, rfl, by decide⟩
    | ⟨8, _⟩ => exact ⟨_, rfl, rfl, by decide⟩
    | ⟨9, _⟩ => exact ⟨_, rfl, rfl, by decide⟩
    | ⟨10, _⟩ => exact ⟨_, rfl, rfl, by decide⟩
    | ⟨11, _⟩ => exact ⟨_, rfl, rfl, by decide⟩
    | ⟨12, _⟩ => exact ⟨_, rfl, rfl, by decide⟩
  exact this ⟨i, h⟩
theorem others_get {i : Nat} (h : i < 8) : ∃ a, othersL[i]? = some a ∧ a ≠ .eof ∧ (∀ b, isSL (a, b) = false) := by
  have : ∀ i : Fin 8, ∃ a, othersL[i.1]? = some a ∧ a ≠ .eof ∧ (∀ b, isSL (a, b) = false) := by
    intro i
    match i with
    | ⟨0, _⟩ => exact ⟨_, rfl, by decide, fun b => rfl⟩
    | ⟨1, _⟩ => exact ⟨_, rfl, by decide, fun b => rfl⟩
    | ⟨2, _⟩ => exact ⟨_, rfl, by decide, fun b => rfl⟩
    | ⟨3, _⟩ => exact ⟨_, rfl, by decide, fun b => rfl⟩
    | ⟨4, _⟩ => exact ⟨_, rfl, by decide, fun b => rfl⟩
    | ⟨5, _⟩ => exact ⟨_, rfl, by decide, fun b => rfl⟩
    | ⟨6, _⟩ => exact ⟨_, rfl, by decide, fun b => rfl⟩
    | ⟨7, _⟩ => exact ⟨_, rfl, by decide, fun b => rfl⟩
  exact this ⟨i, h⟩
section
variable {G : Gl} {C : Cx} {ρ : Rho} {μ : MU} {pos : Pos}
/-- what a comprehension over a range holds, turn by turn -/
def CInv (R : D → Prop) (k : Nat) (μ0 : MU) (bx : Addr) (c K : Nat) (i : Nat) (acc : List D) (μi : MU) : Prop := i ≤ k ∧ acc.length = i ∧ (∀ d ∈ acc, R d) ∧ BxTo μ0 μi bx (c + i * K)
theorem CInv.rng {R : D → Prop} {k : Nat} {μ0 : MU} {bx : Addr} {c K : Nat} {i : Nat} {acc : List D} {μi : MU} {d : D} (h : CInv R k μ0 bx c K i acc μi) (e : (if (0 : Int) + i < (k : Int) then some (D.int ((0 : Int) + i)) else none) = some d) :
    i < k ∧ d = .int i := by
  by_cases q : (0 : Int) + i < (k : Int)
  · rw [if_pos q] at e; cases e
    exact ⟨by omega, by rw [Int.zero_add]⟩
  · rw [if_neg q] at e; cases e
theorem compR {elt target : Expr} {scope : Scope} {cl : List (Str × Addr)} {ρ0 : Rho} {Ψ : D → MU → Prop} {μ0 : MU} {bx : Addr} (R : D → Prop) (kM : Nat) (c K k : Nat) (hz : kM ≤ 2 ^ 20) (hk : k ≤ kM) {μ1 : MU} (hb : BxTo μ0 μ1 bx c)
    (turn : ∀ c' μi j, BxTo μ0 μi bx c' → c' ≤ c + kM * K → ∀ L2 ok2, ∃ ρ', Tgt G (C.comp scope cl L2 ok2) (C.comp scope cl L2 ok2).OwnL target (.int j) ρ0 ρ' ∧ (∀ x d, ρ0.lookup x = some d → ρ'.lookup x = some d) ∧
      WE G (C.comp scope cl L2 ok2) ρ' μi elt fun e μ3 => R e ∧ BxTo μ0 μ3 bx (c' + K))
    (done : ∀ acc μi, acc.length = k → (∀ d ∈ acc, R d) → BxTo μ0 μi bx (c + kM * K) → Ψ (.lst acc) μi) :
    ∃ item Val N Inv, CompP G C scope cl ρ0 target elt [] Ψ (.rng 0 k) μ1 item Val N Inv := by
  refine ⟨_, _, k, CInv R k μ0 bx c K, ⟨ItD.rng (by omega) (by omega) (by omega) (by omega), Nat.zero_le _, rfl, fun d h => (by cases h), by simpa using hb⟩, by simp only [sizeLine]; omega, ?_, ?_, ?_⟩
  · rintro i acc μi ⟨h1, h2, h3, h4⟩; exact ⟨trivial, h1, Nat.le_of_eq h2⟩
  · rintro i acc μi d hI e L2 ok2
    obtain ⟨hi, rfl⟩ := hI.rng e
    obtain ⟨h1, h2, h3, h4⟩ := hI
    have hm : i * K ≤ kM * K := Nat.mul_le_mul_right K (by omega)
    obtain ⟨ρ', t1, t2, t3⟩ := turn (c + i * K) μi i h4 (by omega) L2 ok2
    refine ⟨ρ', t1, t2, WT.nil ?_⟩
    rw [if_pos rfl]
    refine TT.mono t3 ?_
    rintro e μ3 ⟨r, b⟩
    refine ⟨hi, by simp; omega, fun d hd => ?_, ?_⟩
    · rcases List.mem_append.mp hd with hd | hd
      · exact h3 d hd
      · simp at hd; subst hd; exact r
    · rw [Nat.succ_mul, ← Nat.add_assoc]; exact b
  · rintro i acc μi ⟨h1, h2, h3, h4⟩ e
    have hm : i * K ≤ kM * K := Nat.mul_le_mul_right K (by omega)
    have hik : i = k := by
      by_cases q : (0 : Int) + i < (k : Int)
      · rw [if_pos q] at e; cases e
      · omega
    exact done acc μi (by omega) h3 h4.mono
theorem WX.assignCompR {y : Str} {py : Pos} {elt target iter : Expr} {scope : Scope} {cl : List (Str × Addr)} {ρ0 : Rho} {Φ : FD → Rho → MU → Prop} {spos : Pos} {μ0 : MU} {bx : Addr} (R : D → Prop) (kM : Nat) (c K : Nat)
    (hy : C.Has y) (hsw : swapsWith (.ListComp elt [⟨target, iter, [], 0⟩] scope pos) (some (.Name y py)) spos.line C.env = pure true)
    (ok : CompOk C ρ scope cl ρ0) (hz : kM ≤ 2 ^ 20)
    (h : WE G C ρ μ iter fun d μ1 => ∃ k : Nat, k ≤ kM ∧ d = .rng 0 k ∧ BxTo μ0 μ1 bx c)
    (turn : ∀ c' μi j, BxTo μ0 μi bx c' → c' ≤ c + kM * K → ∀ L2 ok2, ∃ ρ', Tgt G (C.comp scope cl L2 ok2) (C.comp scope cl L2 ok2).OwnL target (.int j) ρ0 ρ' ∧ (∀ x d, ρ0.lookup x = some d → ρ'.lookup x = some d) ∧
      WE G (C.comp scope cl L2 ok2) ρ' μi elt fun e μ3 => R e ∧ BxTo μ0 μ3 bx (c' + K))
    (done : ∀ acc μi, acc.length ≤ kM → (∀ d ∈ acc, R d) → BxTo μ0 μi bx (c + kM * K) → Φ .next ((y, .lst acc) :: ρ) μi)
    (hs : ∀ x, foldedSetIterable iter C.env x = pure x := by intro _; rfl) : WX G C ρ μ (.Assign [.Name y py] (.ListComp elt [⟨target, iter, [], 0⟩] scope pos) spos) Φ := by
  refine WX.assignCompG hy hsw ok (TT.mono h ?_) hs
  rintro d μ1 ⟨k, hk, rfl, hb⟩
  exact compR R kM c K k hz hk hb turn fun acc μi h1 h2 h3 => done acc μi (by omega) h2 h3
theorem WE.compRg {elt target iter : Expr} {scope : Scope} {cl : List (Str × Addr)} {ρ0 : Rho} {Φ : D → MU → Prop} {μ0 : MU} {bx : Addr} (R : D → Prop) (kM : Nat) (c K : Nat)
    (ok : CompOk C ρ scope cl ρ0) (hz : kM ≤ 2 ^ 20)
    (h : WE G C ρ μ iter fun d μ1 => ∃ k : Nat, k ≤ kM ∧ d = .rng 0 k ∧ BxTo μ0 μ1 bx c)
    (turn : ∀ c' μi j, BxTo μ0 μi bx c' → c' ≤ c + kM * K → ∀ L2 ok2, ∃ ρ', Tgt G (C.comp scope cl L2 ok2) (C.comp scope cl L2 ok2).OwnL target (.int j) ρ0 ρ' ∧ (∀ x d, ρ0.lookup x = some d → ρ'.lookup x = some d) ∧
      WE G (C.comp scope cl L2 ok2) ρ' μi elt fun e μ3 => R e ∧ BxTo μ0 μ3 bx (c' + K))
    (done : ∀ acc μi, acc.length ≤ kM → (∀ d ∈ acc, R d) → BxTo μ0 μi bx (c + kM * K) → Φ (.lst acc) μi)
    (hs : ∀ x, foldedSetIterable iter C.env x = pure x := by intro _; rfl) : WE G C ρ μ (.ListComp elt [⟨target, iter, [], 0⟩] scope pos) Φ := by
  refine WE.compG ok (TT.mono h ?_) hs
  rintro d μ1 ⟨k, hk, rfl, hb⟩
  exact compR R kM c K k hz hk hb turn fun acc μi h1 h2 h3 => done acc μi (by omega) h2 h3
/-- a loop over a range, a state carried -/
theorem WX.forR {S : Type} {target iter body} {Φ : FD → Rho → MU → Prop} (x : Int → List (Str × D)) (R : S → Rho) (kM : Nat) (P : Nat → Nat → S → MU → Prop) (hz : kM ≤ 2 ^ 20)
    (h : WE G C ρ μ iter fun d μ1 => ∃ k : Nat, k ≤ kM ∧ d = .rng 0 k ∧ ∃ s0, RSub (R s0) ρ ∧ P k 0 s0 μ1)
    (tgt : ∀ (j : Int) ρi, Tgt G C C.Own target (.int j) ρi (x j ++ ρi))
    (turn : ∀ k i s μi, k ≤ kM → i < k → P k i s μi → WS G C (x i ++ R s) μi body fun φ ρ2 μ2 => match φ with
      | .next => ∃ s', RSub (R s') ρ2 ∧ P k (i + 1) s' μ2
      | .cont => ∃ s', RSub (R s') ρ2 ∧ P k (i + 1) s' μ2
      | .brk => Φ .next ρ2 μ2
      | .ret d => Φ (.ret d) ρ2 μ2)
    (done : ∀ k s μi ρi, k ≤ kM → P k k s μi → RSub (R s) ρi → Φ .next ρi μi)
    (hs : ∀ x, foldedSetIterable iter C.env x = pure x := by intro _; rfl) : WX G C ρ μ (.For target iter body [] pos) Φ := by
  refine WX.forG (TT.mono h ?_) hs
  rintro d μ1 ⟨k, hk, rfl, s0, hr0, hp0⟩
  refine ⟨_, _, k, fun i ρi μi => i ≤ k ∧ ∃ s, RSub (R s) ρi ∧ P k i s μi, ⟨ItD.rng (by omega) (by omega) (by omega) (by omega), Nat.zero_le _, s0, hr0, hp0⟩, ?_, ?_, ?_⟩
  · rintro i ρi μi ⟨h1, _⟩; exact ⟨trivial, h1⟩
  · rintro i ρi μi d ⟨h1, s, hr, hp⟩ e
    by_cases q : (0 : Int) + i < (k : Int)
    · rw [if_pos q] at e; cases e
      have hi : i < k := by omega
      rw [Int.zero_add]
      refine ⟨_, tgt i ρi, TF.weak (TF.mono (turn k i s μi hk hi hp) ?_) ?_⟩
      · intro φ ρ2 μ2 hφ
        cases φ with
        | next => exact ⟨hi, hφ⟩
        | cont => exact ⟨hi, hφ⟩
        | brk => exact hφ
        | ret d => exact hφ
      · intro y e he
        rw [List.lookup_append] at he ⊢
        cases q : (x i).lookup y with
        | some z => rw [q] at he; exact he
        | none => rw [q] at he; simp at he ⊢; exact hr y e he
    · rw [if_neg q] at e; cases e
  · rintro i ρi μi ⟨h1, s, hr, hp⟩ e
    have hi : i = k := by
      by_cases q : (0 : Int) + i < (k : Int)
      · rw [if_pos q] at e; cases e
      · omega
    subst hi
    exact done i s μi ρi hk hp hr
end
set_option maxHeartbeats 1000000
theorem pickD (l : List D) (a : Nat) (k : Nat) : ((List.range k).map (a + ·)).filterMap (l[·]?) = (l.drop a).take k := by
  have := pick_run l.toArray a k
  simpa using this
theorem cut_run (l : List D) (lo hi : Option Int) (a b : Nat) (e : sliceBounds lo hi none l.length = ((a : Int), (b : Int), 1)) : cut l lo hi = (l.drop a).take (b - a) := by
  unfold cut cut.slicePickD
  rw [e]
  show (sliceRange (a : Int) (b : Int) 1).filterMap (l[·]?) = _
  rw [sliceRange_one, pickD]
theorem cut_from (l : List D) (a : Nat) (ha : a ≤ l.length) : cut l (some (a : Int)) none = l.drop a := by
  have e : sliceBounds (some (a : Int)) none none l.length = ((a : Int), (l.length : Int), 1) := by
    simp only [sliceBounds, Option.getD_none]
    have h1 : ¬ ((a : Int) < 0) := by omega
    simp only [h1, if_false, show (1 : Int) > 0 by decide, if_true]
    congr 1
    omega
  rw [cut_run _ _ _ _ _ e]
  exact List.take_of_length_le (by rw [List.length_drop]; omega)
theorem cut_upto (l : List D) (b : Nat) (hb : b ≤ l.length) : cut l none (some (b : Int)) = l.take b := by
  have e : sliceBounds none (some (b : Int)) none l.length = (((0 : Nat) : Int), (b : Int), 1) := by
    simp only [sliceBounds, Option.getD_none]
    have h1 : ¬ ((b : Int) < 0) := by omega
    simp only [h1, if_false, show (1 : Int) > 0 by decide, if_true]
    congr 1
    congr 1; omega
  rw [cut_run _ _ _ _ _ e]
  simp
theorem cut_mem {l : List D} {lo hi : Option Int} {d : D} (h : d ∈ cut l lo hi) : d ∈ l := by
  unfold cut cut.slicePickD at h
  obtain ⟨i, _, e⟩ := List.mem_filterMap.mp h
  exact List.mem_of_getElem? e
theorem tkPy (t : Tk) : (tkD t).isPy = true := by
  have h1 := Sg.kindPy t.1
  have h2 := Sg.valPy t.1
  simp only [tkD, D.isPy, D.isPys] at h1 h2 ⊢
  rw [h1, h2]; rfl
theorem tkDp (t : Tk) : (tkD t).py.depth ≤ 10 := by
  obtain ⟨a, b⟩ := t
  cases a <;> cases b <;> decide
theorem rowPys : ∀ l : List Tk, D.isPys (l.map tkD) = true
  | [] => rfl
  | t :: r => by simp only [List.map_cons, D.isPys, tkPy t, rowPys r]; rfl
theorem rowDps : ∀ l : List Tk, PyData.depthAll (D.pys (l.map tkD)) ≤ 10
  | [] => by simp [D.pys, PyData.depthAll]
  | t :: r => by
    rw [List.map_cons, D.pys]
    have h1 := tkDp t
    have h2 := rowDps r
    simp only [PyData.depthAll]
    omega
theorem rowDp (l : List Tk) : (rowD l).py.depth ≤ 64 := by
  have := rowDps l
  simp only [rowD, D.py, PyData.depth]
  omega
theorem rowEmpty (l : List Tk) : PyData.eqv (rowD l).py (D.lst []).py = l.isEmpty := by
  cases l with
  | nil => rfl
  | cons t r => simp [rowD, D.py, D.pys, PyData.eqv, PyData.eqvAll]
section
variable {G : Gl} {C : Cx} {ρ : Rho} {μ : MU} {pos : Pos}
theorem P2.neEmpty {l : List Tk} : P2 G μ (compareOp .NotEq) (rowD l) (.lst []) (.bool (!l.isEmpty)) := P2.ne (by simp only [rowD, D.isPy]; exact rowPys l) rfl (rowDp l) (by decide) (rowEmpty l)
theorem WE.sliceTo {value upper p} {l : List D} {b : Nat} {Φ : D → MU → Prop} (hz : l.length ≤ sizeLine) (hb : b ≤ l.length) (h1 : WE G C ρ μ value fun d1 μ1 => d1 = .lst l ∧ μ1 = μ) (h2 : WE G C ρ μ upper fun d μ1 => d = .int b ∧ μ1 = μ) (h : Φ (.lst (l.take b)) μ) : WE G C ρ μ (.Subscript value (.Slice none (some upper) none p) pos) Φ := by
  refine WE.slice (TT.mono h1 ?_)
  rintro _ _ ⟨rfl, rfl⟩
  refine WO.absent (WO.there (TT.mono h2 ?_))
  rintro _ _ ⟨rfl, rfl⟩
  exact ⟨l, none, some (b : Int), .inl rfl, hz, trivial, rfl, by rw [cut_upto l b hb]; exact h⟩
theorem WE.sliceFrom {value lower p} {l : List D} {b : Nat} {Φ : D → MU → Prop} (hz : l.length ≤ sizeLine) (hb : b ≤ l.length) (h1 : WE G C ρ μ value fun d1 μ1 => d1 = .lst l ∧ μ1 = μ) (h2 : WE G C ρ μ lower fun d μ1 => d = .int b ∧ μ1 = μ) (h : Φ (.lst (l.drop b)) μ) : WE G C ρ μ (.Subscript value (.Slice (some lower) none none p) pos) Φ := by
  refine WE.slice (TT.mono h1 ?_)
  rintro _ _ ⟨rfl, rfl⟩
  refine WO.there (TT.mono h2 ?_)
  rintro _ _ ⟨rfl, rfl⟩
  exact WO.absent ⟨l, some (b : Int), none, .inl rfl, hz, rfl, trivial, by rw [cut_from l b hb]; exact h⟩
end
theorem GR.sub {A B : Nat} {l l' : List Tk} (h : GR A B l) (hs : List.Sublist l' l) : GR A B l' := ⟨fun t ht => h.ne t (hs.subset ht), Nat.le_trans hs.length_le h.len, Nat.le_trans (hs.countP_le) h.cnt⟩
theorem sub_cut {l : List Tk} {i j : Nat} (hij : i ≤ j) : List.Sublist (l.take i ++ l.drop j) l := by
  have h1 : l.drop j = (l.drop i).drop (j - i) := by rw [List.drop_drop]; congr 1; omega
  have h2 : l.take i ++ l.drop i = l := List.take_append_drop i l
  have h3 : List.Sublist (l.take i ++ l.drop j) (l.take i ++ l.drop i) := by
    rw [h1]; exact (List.Sublist.refl _).append (List.drop_sublist _ _)
  rw [h2] at h3; exact h3
theorem GR.cut {A B : Nat} {l : List Tk} (h : GR A B l) {i j : Nat} (hij : i ≤ j) : GR A B (l.take i ++ l.drop j) := h.sub (sub_cut hij)
theorem GR.put {A B : Nat} {l : List Tk} (h : GR A B l) {i j : Nat} (hij : i ≤ j) {t : Tk} (ht : t.1 ≠ .eof) : GR (A + 1) (B + 1) (l.take i ++ [t] ++ l.drop j) := by
  have h0 := h.cut hij
  refine ⟨fun u hu => ?_, ?_, ?_⟩
  · simp only [List.mem_append, List.mem_singleton] at hu
    rcases hu with (hu | rfl) | hu
    · exact h0.ne u (List.mem_append_left _ hu)
    · exact ht
    · exact h0.ne u (List.mem_append_right _ hu)
  · have := h0.len
    simp only [List.length_append, List.length_cons, List.length_nil] at this ⊢; omega
  · have := h0.cnt
    simp only [List.countP_append] at this ⊢
    have : List.countP isSL [t] ≤ 1 := List.countP_le_length
    omega
set_option maxHeartbeats 1000000
section
variable {G : Gl} {C : Cx} {ρ : Rho} {μ : MU} {pos : Pos}
theorem WX.assignCompRe {y : Str} {py : Pos} {elt target iter : Expr} {scope : Scope} {cl : List (Str × Addr)} {ρ0 : Rho} {Φ : FD → Rho → MU → Prop} {spos : Pos} {μ0 : MU} {bx : Addr} (R : D → Prop) (k : Nat) (c K : Nat)
    (hy : C.Has y) (hsw : swapsWith (.ListComp elt [⟨target, iter, [], 0⟩] scope pos) (some (.Name y py)) spos.line C.env = pure true)
    (ok : CompOk C ρ scope cl ρ0) (hz : k ≤ 2 ^ 20)
    (h : WE G C ρ μ iter fun d μ1 => d = .rng 0 k ∧ BxTo μ0 μ1 bx c)
    (turn : ∀ c' μi j, BxTo μ0 μi bx c' → c' ≤ c + k * K → ∀ L2 ok2, ∃ ρ', Tgt G (C.comp scope cl L2 ok2) (C.comp scope cl L2 ok2).OwnL target (.int j) ρ0 ρ' ∧ (∀ x d, ρ0.lookup x = some d → ρ'.lookup x = some d) ∧
      WE G (C.comp scope cl L2 ok2) ρ' μi elt fun e μ3 => R e ∧ BxTo μ0 μ3 bx (c' + K))
    (done : ∀ acc μi, acc.length = k → (∀ d ∈ acc, R d) → BxTo μ0 μi bx (c + k * K) → Φ .next ((y, .lst acc) :: ρ) μi)
    (hs : ∀ x, foldedSetIterable iter C.env x = pure x := by intro _; rfl) : WX G C ρ μ (.Assign [.Name y py] (.ListComp elt [⟨target, iter, [], 0⟩] scope pos) spos) Φ := by
  refine WX.assignCompG hy hsw ok (TT.mono h ?_) hs
  rintro d μ1 ⟨rfl, hb⟩
  exact compR R k c K k hz (Nat.le_refl _) hb turn done
theorem compLP {α : Type} {elt target : Expr} {ifs : List Expr} {scope : Scope} {cl : List (Str × Addr)} {ρ0 : Rho} {Ψ : D → MU → Prop} (l : List α) (dOf : α → D) (p : α → Bool) (q : α → D) (hz : l.length ≤ sizeLine)
    (turn : ∀ x ∈ l, ∀ L2 ok2, ∃ ρ', Tgt G (C.comp scope cl L2 ok2) (C.comp scope cl L2 ok2).OwnL target (dOf x) ρ0 ρ' ∧ RSub ρ0 ρ' ∧
      WT G (C.comp scope cl L2 ok2) ρ' μ ifs fun b μ2 => b = p x ∧ μ2 = μ ∧ (p x = true → WE G (C.comp scope cl L2 ok2) ρ' μ elt fun e μ3 => e = q x ∧ μ3 = μ))
    (done : Ψ (.lst ((l.filter p).map q)) μ) : ∃ item Val N Inv, CompP G C scope cl ρ0 target elt ifs Ψ (.lst (l.map dOf)) μ item Val N Inv := by
  refine ⟨fun i _ => (l.map dOf)[i]?, fun _ => True, l.length, fun k acc μi => μi = μ ∧ k ≤ l.length ∧ acc = ((l.take k).filter p).map q, ⟨ItD.lst, rfl, Nat.zero_le _, by simp⟩, hz, ?_, ?_, ?_⟩
  · rintro k acc μi ⟨rfl, hk, rfl⟩
    refine ⟨trivial, hk, ?_⟩
    rw [List.length_map]
    exact Nat.le_trans (List.length_filter_le _ _) (by rw [List.length_take]; omega)
  · rintro k acc μi d ⟨rfl, hk, rfl⟩ hit L2 ok2
    dsimp only at hit ⊢
    rw [List.getElem?_map] at hit
    cases hx : l[k]? with
    | none => rw [hx] at hit; cases hit
    | some x =>
      rw [hx] at hit; cases hit
      have hlt : k < l.length := (List.getElem?_eq_some_iff.mp hx).1
      have ht : l.take (k + 1) = l.take k ++ [x] := by rw [List.take_add_one, hx]; rfl
      obtain ⟨ρ', h1, h2, h3⟩ := turn x (List.mem_of_getElem? hx) L2 ok2
      refine ⟨ρ', h1, h2, TT.mono h3 ?_⟩
      rintro b μ2 ⟨rfl, rfl, h4⟩
      cases hp : p x with
      | false =>
        rw [if_neg Bool.false_ne_true]
        exact ⟨rfl, hlt, by rw [ht]; simp [hp]⟩
      | true =>
        rw [if_pos rfl]
        refine TT.mono (h4 hp) ?_
        rintro e μ3 ⟨rfl, rfl⟩
        exact ⟨rfl, hlt, by rw [ht]; simp [hp]⟩
  · rintro k acc μi ⟨rfl, hk, rfl⟩ hit
    dsimp only at hit
    rw [List.getElem?_map] at hit
    have : l.length ≤ k := by simpa using hit
    rw [List.take_of_length_le this]
    exact done
theorem WX.assignCompL {α : Type} {y : Str} {py : Pos} {elt target iter : Expr} {ifs : List Expr} {scope : Scope} {cl : List (Str × Addr)} {ρ0 : Rho} {Φ : FD → Rho → MU → Prop} {spos : Pos} (l : List α) (dOf : α → D) (p : α → Bool) (q : α → D)
    (hy : C.Has y) (hsw : swapsWith (.ListComp elt [⟨target, iter, ifs, 0⟩] scope pos) (some (.Name y py)) spos.line C.env = pure true)
    (ok : CompOk C ρ scope cl ρ0) (h : WE G C ρ μ iter fun d μ1 => d = .lst (l.map dOf) ∧ μ1 = μ) (hz : l.length ≤ sizeLine)
    (turn : ∀ x ∈ l, ∀ L2 ok2, ∃ ρ', Tgt G (C.comp scope cl L2 ok2) (C.comp scope cl L2 ok2).OwnL target (dOf x) ρ0 ρ' ∧ RSub ρ0 ρ' ∧
      WT G (C.comp scope cl L2 ok2) ρ' μ ifs fun b μ2 => b = p x ∧ μ2 = μ ∧ (p x = true → WE G (C.comp scope cl L2 ok2) ρ' μ elt fun e μ3 => e = q x ∧ μ3 = μ))
    (done : Φ .next ((y, .lst ((l.filter p).map q)) :: ρ) μ)
    (hs : ∀ x, foldedSetIterable iter C.env x = pure x := by intro _; rfl) : WX G C ρ μ (.Assign [.Name y py] (.ListComp elt [⟨target, iter, ifs, 0⟩] scope pos) spos) Φ := by
  refine WX.assignCompG hy hsw ok (TT.mono h ?_) hs
  rintro d μ1 ⟨rfl, rfl⟩
  exact compLP l dOf p q hz turn done
/-- a loop over a list that leaves everything as it was -/
theorem WX.forL {target iter body} {Φ : FD → Rho → MU → Prop} (R : Rho) (x : D → List (Str × D)) (Pm : MU → Prop) (Pd : D → Prop)
    (h : WE G C ρ μ iter fun d μ1 => ∃ l, d = .lst l ∧ (∀ e ∈ l, Pd e) ∧ Pm μ1) (h0 : RSub R ρ)
    (tgt : ∀ d ρi, Pd d → Tgt G C C.Own target d ρi (x d ++ ρi))
    (turn : ∀ d μ1, Pd d → Pm μ1 → WS G C (x d ++ R) μ1 body fun φ ρ2 μ2 => φ = .next ∧ μ2 = μ1 ∧ RSub R ρ2)
    (done : ∀ ρi μ1, Pm μ1 → RSub R ρi → Φ .next ρi μ1)
    (hs : ∀ x, foldedSetIterable iter C.env x = pure x := by intro _; rfl) : WX G C ρ μ (.For target iter body [] pos) Φ := by
  refine WX.forG (TT.mono h ?_) hs
  rintro d μ1 ⟨l, rfl, hl, hm⟩
  refine ⟨fun i _ => l[i]?, fun _ => True, l.length, fun i ρi μi => i ≤ l.length ∧ RSub R ρi ∧ μi = μ1, ⟨ItD.lst, Nat.zero_le _, h0, rfl⟩, ?_, ?_, ?_⟩
  · rintro i ρi μi ⟨h1, _⟩; exact ⟨trivial, h1⟩
  · rintro i ρi μi d ⟨h1, hr, rfl⟩ e
    have hd := hl d (List.mem_of_getElem? e)
    have hi : i < l.length := (List.getElem?_eq_some_iff.mp e).1
    refine ⟨_, tgt d ρi hd, TF.weak (TF.mono (turn d μi hd hm) ?_) ?_⟩
    · rintro φ ρ2 μ2 ⟨rfl, rfl, hr2⟩
      exact ⟨hi, hr2, rfl⟩
    · intro y e he
      rw [List.lookup_append] at he ⊢
      cases q : (x d).lookup y with
      | some z => rw [q] at he; exact he
      | none => rw [q] at he; simp at he ⊢; exact hr y e he
  · rintro i ρi μi ⟨h1, hr, rfl⟩ e
    exact done ρi μi hm hr
theorem intsDps : ∀ l : List Nat, PyData.depthAll (D.pys (l.map fun (x : Nat) => D.int x)) ≤ 10
  | [] => by simp [D.pys, PyData.depthAll]
  | x :: r => by
    have h2 := intsDps r
    simp only [List.map_cons, D.pys, D.py, PyData.depthAll, PyData.depth] at h2 ⊢
    omega
theorem P2.neEmptyI {l : List Nat} : P2 G μ (compareOp .NotEq) (.lst (l.map fun (x : Nat) => D.int x)) (.lst []) (.bool (!l.isEmpty)) := by
  refine P2.ne (by simp only [D.isPy]; exact intsPy l) rfl ?_ (by decide) ?_
  · have := intsDps l
    simp only [D.py, PyData.depth]; omega
  · cases l with
    | nil => rfl
    | cons t r => simp [D.py, D.pys, PyData.eqv, PyData.eqvAll]
theorem P2.neBool {a b : Bool} : P2 G μ (compareOp .NotEq) (.bool a) (.bool b) (.bool (!(a == b))) := P2.ne rfl rfl (by simp [D.py, PyData.depth]) (by simp [D.py, PyData.depth]) (by cases a <;> cases b <;> decide)
theorem P2.eqScopes : P2 G μ (compareOp .Eq) (.lst [.lst []]) (.lst [.lst []]) (.bool true) := P2.eq (by decide) (by decide) (by decide) (by decide) (by decide)
end
theorem law_due (ts : List Tk) (f : Nat) (o : Option Nat → Bool) (ho : o none = false) (ho' : ∀ p, o (some p) = isIn ts p [.eq]) : o (pTs ts f 0) = !((many ts f 0).filter fun e => isIn ts e [.eq]).isEmpty := by
  have key : ∀ e, e ∈ (many ts f 0).filter (fun e => isIn ts e [.eq]) → pTs ts f 0 = some e := fun e he => by
    obtain ⟨h1, h2⟩ := List.mem_filter.mp he
    exact law_out ts f 0 e h1 (isIn_sub h2)
  cases hp : pTs ts f 0 with
  | none =>
    rw [ho]
    cases hl : (many ts f 0).filter (fun e => isIn ts e [.eq]) with
    | nil => rfl
    | cons e r => have := key e (by rw [hl]; simp); rw [hp] at this; cases this
  | some p =>
    rw [ho']
    have hm := law_in ts f 0 p hp
    cases hi : isIn ts p [.eq] with
    | true =>
      have : p ∈ (many ts f 0).filter (fun e => isIn ts e [.eq]) := List.mem_filter.mpr ⟨hm, hi⟩
      cases hl : (many ts f 0).filter (fun e => isIn ts e [.eq]) with
      | nil => rw [hl] at this; cases this
      | cons e r => rfl
    | false =>
      cases hl : (many ts f 0).filter (fun e => isIn ts e [.eq]) with
      | nil => rfl
      | cons e r =>
        have hmem : e ∈ (many ts f 0).filter (fun e => isIn ts e [.eq]) := by rw [hl]; simp
        have h1 := key e hmem
        rw [hp] at h1; cases h1
        have h2 := (List.mem_filter.mp hmem).2
        rw [hi] at h2; cases h2
theorem law_none (ts : List Tk) (f i : Nat) (h : pTs ts f i = none) : (many ts f i).filter (fun e => isIn ts e [.eq, .rp]) = [] := by
  rw [List.filter_eq_nil_iff]
  intro e he hi
  have := law_out ts f i e he hi
  rw [h] at this; cases this
set_option maxHeartbeats 1000000
local macro_rules | `(tactic| walk_at "fn_side") => `(tactic| (
  (case ho => k_is); (case hcd => k_is); (case hus => exact fun g => .nil); (case hnd => decide); (case hloc => decide); (case hcell => decide); (case hco => rfl); (case hgen => rfl); (case hk => rfl)))
local macro_rules | `(tactic| walk_at "fn_sideb") => `(tactic| (
  (case ho => k_is); (case hcd => k_is); (case hnd => decide); (case hloc => decide); (case hcell => decide); (case hco => rfl); (case hgen => rfl); (case hk => rfl)))
local macro_rules | `(tactic| walk_at "cells_side") => `(tactic| (
  (case ho => k_is); (case hcd => k_is); (case hnd => decide); (case hco => rfl); (case hgen => rfl); (case hk => rfl);
  (case hkind => (intro N; exact of_decide_eq_true rfl)); (case hcn => (intro N; exact of_decide_eq_true rfl)); (case hcl => (intro N; exact of_decide_eq_true rfl))))
local macro_rules | `(tactic| walk_at "has") => `(tactic| first | exact .inl ⟨rfl, rfl⟩ | exact .inr ⟨rfl, _, rfl⟩)
local macro_rules | `(tactic| walk_at "gl") => `(tactic| with_reducible first | exact g_is_op _ | exact g_past_closing _ | exact g_past_target _ | exact g_past_targets _ | exact g_starts_many _ | exact g__law_signs _ | exact g__law_others _ | exact g__law_box _ | exact g__law_take _ | exact g__law_op _ | exact g__law_any _ | exact g__law_inside _ | exact g__law_target _ | exact g__law_list _ | exact g__law_bent _ | exact g__law_row _ | exact g__law_at _ | exact g__law_is _ | exact g__law_closes _ | exact g__law_behind_one _ | exact g__law_behind_many _ | exact g__law_settled _)
local macro_rules | `(tactic| walk_at "kl") => `(tactic| with_reducible first | exact k_is_op _ | exact k_past_closing _ | exact k_past_target _ | exact k_past_targets _ | exact k_starts_many _ | exact k__law_signs _ | exact k__law_others _ | exact k__law_box _ | exact k__law_take _ | exact k__law_op _ | exact k__law_any _ | exact k__law_inside _ | exact k__law_target _ | exact k__law_list _ | exact k__law_bent _ | exact k__law_row _ | exact k__law_at _ | exact k__law_is _ | exact k__law_closes _ | exact k__law_behind_one _ | exact k__law_behind_many _ | exact k__law_settled _)
local macro_rules | `(tactic| walk_at "gb") => `(tactic| with_reducible first | exact g_len _ | exact g_min _ | exact g_abs _ | exact g_int _ | exact g_range _)
local macro_rules | `(tactic| walk_at "bb") => `(tactic| with_reducible first | exact b_len | exact b_min | exact b_abs | exact b_int | exact b_range)
local macro_rules | `(tactic| walk_at "comp_ok") => `(tactic| (
  (case clos => rfl); (case cell => exact of_decide_eq_true rfl); (case kind => rfl); (case names => exact of_decide_eq_true rfl);
  (case sub => first | exact sub1 rfl | exact sub0);
  (case nd => first | exact List.nodup_nil | exact List.nodup_cons.mpr ⟨List.not_mem_nil, List.nodup_nil⟩);
  (case rho => first | exact rho1 rfl (of_decide_eq_true rfl) | exact rho0)))
/- one node -/
local macro_rules | `(tactic| walk_at "ev1") => `(tactic| first
  | ((with_reducible refine' WE.name ?nm1 ?nm2 ?_ ?nm3); (case nm1 => walk_at "has"); (case nm2 => rfl); (case nm3 => decide))
  | ((with_reducible refine' WL.cons ?_ ?nm1); (case nm1 => rfl))
  | with_reducible refine' WL.nil ?_
  | with_reducible refine' WE.cInt ?_
  | with_reducible refine' WE.cStr ?_
  | with_reducible refine' WE.cBool ?_
  | with_reducible refine' WE.cNone ?_
  | with_reducible refine' WE.bin ?_
  | ((with_reducible refine' WB.cmp ?_ ?nm1); (case nm1 => with_unfolding_all rfl))
  | ((with_reducible refine' WE.cmp ?_ ?nm1); (case nm1 => with_unfolding_all rfl))
  | ((with_reducible refine' WE.sub ?_ ?nm1); (case nm1 => intro _ _; rfl))
  | ((with_reducible refine' WE.kind ?_ ?nm1); (case nm1 => with_unfolding_all rfl))
  | ((with_reducible refine' WE.value ?_ ?nm1); (case nm1 => with_unfolding_all rfl))
  | ((with_reducible refine' WE.spaced ?_ ?nm1); (case nm1 => with_unfolding_all rfl))
  | with_reducible refine' WE.list ?_
  | with_reducible refine' WE.tuple ?_
  | with_reducible refine' WE.un ?_
  | with_reducible refine' WE.and ?_
  | with_reducible refine' WE.or ?_
  | with_reducible refine' WE.ite ?_
  | with_reducible refine' WB.not ?_
  | with_reducible refine' WB.boolop ?_
  | with_reducible refine' WA.and_one ?_
  | with_reducible refine' WA.or_one ?_
  | with_reducible refine' WA.and ?_
  | with_reducible refine' WA.or ?_
  | with_reducible refine' WA.and_nil ?_
  | with_reducible refine' WA.or_nil ?_
  | with_reducible refine' ⟨_, PT.bool, ?_⟩
  | ((with_reducible refine' WB.val ?_ ?nm1); (case nm1 => intro _; rfl))
  | ((with_reducible refine' WE.call ?nm1 ?nm2 ?nm3 ?_ ?nm4 ?nm5 ?nm6); (case nm1 => rfl); (case nm2 => walk_at "gl"); (case nm3 => walk_at "kl"); (case nm4 => rfl); (case nm5 => rfl); (case nm6 => decide))
  | ((with_reducible refine' WE.call0 ?nm1 ?nm2 ?nm3 ?_ ?nm4); (case nm1 => rfl); (case nm2 => walk_at "gl"); (case nm3 => walk_at "kl"); (case nm4 => decide))
  | ((with_reducible refine' WE.built ?nm1 ?nm2 ?nm3 ?nm4 ?_ ?nm5 ?nm6 ?nm7); (case nm1 => rfl); (case nm2 => walk_at "gb"); (case nm3 => walk_at "bb"); (case nm4 => decide); (case nm5 => rfl); (case nm6 => rfl); (case nm7 => decide))
  | ((with_reducible refine' WE.builtT ?nm1 ?nm2 ?nm3 ?nm4 ?_ ?nm5 ?nm6 ?nm7); (case nm1 => rfl); (case nm2 => walk_at "gb"); (case nm3 => walk_at "bb"); (case nm4 => decide); (case nm5 => rfl); (case nm6 => rfl); (case nm7 => decide))
  | with_reducible refine' ⟨_, P2.add, ?_⟩
  | with_reducible refine' ⟨_, P2.sub, ?_⟩
  | with_reducible refine' ⟨(Nat.le_of_ble_eq_true rfl : _ ≤ sizeLine), ?_⟩)
local macro_rules | `(tactic| walk_at "ev") => `(tactic| repeat walk_at "ev1")
section
variable {G : Gl} {μ : MU}
theorem fn_at (l : List D) (d : D) (i : Int) (h0 : 0 ≤ i) (hl : l ≠ []) (hz : l.length < 2 ^ 60) (hx : l[min i.toNat (l.length - 1)]? = some d) :
    Fn G 297 1 [.lst l, .int i] μ fun r μ' => r = d ∧ μ' = μ := by
  refine' Fn.plain (names := ["row", "at"]) (us := []) (es := []) ?ho ?hcd ?hb ?hus ?hnd ?hloc ?hcell ?body ?hco ?hgen ?hk
  walk_at "fn_side"
  case hb => intro s vs _ h; match vs, h with | [a, b], _ => exact BindsTo.of_eq rfl
  intro A L ok
  refine WS.cons (WX.ret ?_)
  walk_at "ev"
  refine ⟨_, Bt.len (by omega), ?_⟩
  walk_at "ev"
  refine ⟨_, Bt.min, ?_⟩
  dsimp only
  have hlen : 0 < l.length := List.length_pos_iff.mpr hl
  refine ⟨d, Gt.lst (by split <;> omega) (by split <;> omega) ?_, ?_⟩
  · rw [← hx]; congr 1; split <;> omega
  exact ⟨d, rfl, rfl, rfl⟩
/-- the row's token at a place -/
theorem fn_tok (ts : List Tk) (i : Nat) (hz : ts.length < 2 ^ 20) : Fn G 297 1 [rowD (full ts), .int i] μ fun r μ' => r = tkD (tok ts i) ∧ μ' = μ :=
  fn_at _ _ _ (by omega) (by simp [full]) (by simp [full]; omega) (by rw [Int.toNat_natCast]; exact full_getD ts i)
theorem fn_is (ts : List Tk) (i : Nat) (ss : List Sg) (hz : ts.length < 2 ^ 20) (ho : ∀ b ∈ ss, b.isOp = true) : Fn G 304 2 [rowD (full ts), .int i, .lst (ss.map Sg.val)] μ fun r μ' => r = .bool (isIn ts i ss) ∧ μ' = μ := by
  refine' Fn.plain (names := ["row", "at", "signs"]) (us := []) (es := []) ?ho ?hcd ?hb ?hus ?hnd ?hloc ?hcell ?body ?hco ?hgen ?hk
  walk_at "fn_side"
  case hb => intro s vs _ h; match vs, h with | [a, b, c], _ => exact BindsTo.of_eq rfl
  intro A L ok
  refine WS.cons (WX.ret (WE.and ?_))
  walk_at "ev"
  refine Fn.mono (fn_tok ts i hz) (Nat.le_of_ble_eq_true rfl) ?_
  rintro _ _ ⟨rfl, rfl⟩
  walk_at "ev"
  refine ⟨_, Gt.tup (by decide) (by decide) rfl, ?_⟩
  walk_at "ev"
  refine ⟨_, P2.eq (Sg.kindPy _) (by decide +kernel) (Sg.kindDp _) (by decide) (Sg.kindOp _), ?_⟩
  refine ⟨_, rfl, ?_⟩
  cases hop : (tok ts i).1.isOp with
  | false =>
    rw [if_neg Bool.false_ne_true]
    refine ⟨_, rfl, ?_, rfl⟩
    have : isIn ts i ss = false := by
      unfold isIn; rw [decide_eq_false_iff_not]; intro q; rw [ho _ q] at hop; cases hop
    rw [this]
  | true =>
    rw [if_pos rfl]
    walk_at "ev"
    refine Fn.mono (fn_tok ts i hz) (Nat.le_of_ble_eq_true rfl) ?_
    rintro _ _ ⟨rfl, rfl⟩
    walk_at "ev"
    refine ⟨_, Gt.tup (by decide) (by decide) rfl, ?_⟩
    walk_at "ev"
    refine ⟨_, P2.inLst (Sg.valPy _) (Sg.valsPy ss) (Sg.valDp _) (Sg.anyEq _ hop ss ho), ?_⟩
    exact ⟨_, rfl, rfl, rfl⟩
end
section
variable {G : Gl} {μ : MU}
theorem itRng {a b : Int} (ha : -(2 ^ 62) ≤ a) (hb : b < 2 ^ 62) (ha' : a < 2 ^ 62) (hb' : -(2 ^ 62) ≤ b) : ItD G (.rng a b) (fun i _ => if a + i < b then some (.int (a + i)) else none) (fun _ => True) := ItD.rng ha hb ha' hb'
theorem fn_closes (ts : List Tk) (i : Nat) (hz : ts.length < 2 ^ 20) (hi : i < ts.length) : Fn G 311 3 [rowD (full ts), .int i] μ fun r μ' => r = .lst ((clos ts i 0).toList.map fun (e : Nat) => .int e) ∧ μ' = μ := by
  refine' Fn.plain (names := ["row", "at"]) (us := []) (es := []) ?ho ?hcd ?hb ?hus ?hnd ?hloc ?hcell ?body ?hco ?hgen ?hk
  walk_at "fn_side"
  case hb => intro s vs _ h; match vs, h with | [a, b], _ => exact BindsTo.of_eq rfl
  intro A L ok
  refine WS.cons (WX.assign (by walk_at "has") ?_)
  walk_at "ev"
  have hlen : (((full ts).map tkD).length : Int) = (ts.length : Int) + 1 := by simp [full]
  refine WS.cons (WX.forS (item := fun k _ => if (i : Int) + k < (((full ts).map tkD).length : Int) - 1 then some (.int ((i : Int) + k)) else none) (Val := fun _ => True) (S := Int) (fun d _ => [("spot", d)]) (fun h => [("height", .int h), ("row", rowD (full ts)), ("at", .int i)]) ts.length
    (fun k h μi => k ≤ ts.length ∧ clos ts i 0 = clos ts (i + k) h ∧ μi = μ) ?h ?val ?tgt ?turn ?done)
  case h =>
    walk_at "ev"
    refine ⟨_, Bt.len (by omega), ?_⟩
    walk_at "ev"
    refine ⟨_, Bt.range2, ?_⟩
    exact ⟨itRng (by omega) (by omega) (by omega) (by omega), 0, .cons rfl (.cons rfl (.cons rfl .nil)), Nat.zero_le _, rfl, rfl⟩
  case val => rintro k h μi ⟨hk, _, rfl⟩; exact ⟨trivial, hk⟩
  case tgt => intro k h μi d ρi _ _; exact Tgt.name (by walk_at "has")
  case turn =>
    rintro k h μi d ⟨hk, hc, rfl⟩ hit
    rw [hlen] at hit
    by_cases hlt : (i : Int) + k < (ts.length : Int) + 1 - 1
    · rw [if_pos hlt] at hit
      cases hit
      have hlt' : i + k < ts.length := by omega
      rw [clos_lt hlt'] at hc
      refine WS.cons (WX.aug (by walk_at "has") rfl ?_)
      walk_at "ev"
      refine Fn.mono (fn_is ts (i + k) opens hz (by decide)) (Nat.le_of_ble_eq_true rfl) ?_
      rintro _ _ ⟨rfl, rfl⟩
      walk_at "ev"
      refine ⟨_, Bt.int, ?_⟩
      walk_at "ev"
      refine Fn.mono (fn_is ts (i + k) closes hz (by decide)) (Nat.le_of_ble_eq_true rfl) ?_
      rintro _ _ ⟨rfl, rfl⟩
      walk_at "ev"
      refine ⟨_, Bt.int, ?_⟩
      walk_at "ev"
      refine ⟨_, P2.iadd, ?_⟩
      refine WS.cons (WX.ite ?_)
      walk_at "ev"
      refine ⟨_, P2.eqInt, ?_⟩
      have e : h + ((if isIn ts (i + k) opens = true then (1 : Int) else 0) - (if isIn ts (i + k) closes = true then 1 else 0)) = h + (if (tok ts (i + k)).1 ∈ opens then 1 else 0) - (if (tok ts (i + k)).1 ∈ closes then 1 else 0) := by
        unfold isIn; simp only [decide_eq_true_eq]; omega
      rw [e]
      dsimp only at hc
      generalize h + (if (tok ts (i + k)).1 ∈ opens then (1 : Int) else 0) - (if (tok ts (i + k)).1 ∈ closes then 1 else 0) = h' at hc ⊢
      by_cases z : h' = 0
      · rw [decide_eq_true z, if_pos rfl]
        rw [if_pos z] at hc
        refine WS.cons (WX.ret ?_)
        walk_at "ev"
        exact ⟨_, rfl, by rw [hc]; simp, rfl⟩
      · rw [decide_eq_false z, if_neg Bool.false_ne_true]
        rw [if_neg z] at hc
        refine WS.nil (WS.nil ?_)
        exact ⟨h', .cons rfl (.cons rfl (.cons rfl .nil)), by omega, hc, rfl⟩
    · rw [if_neg hlt] at hit; cases hit
  case done =>
    rintro k h μi ρi ⟨hk, hc, rfl⟩ hit hr
    rw [hlen] at hit
    have hge : ts.length ≤ i + k := by
      by_cases hlt : (i : Int) + k < (ts.length : Int) + 1 - 1
      · rw [if_pos hlt] at hit; cases hit
      · omega
    rw [clos_ge hge] at hc
    refine TF.weak ?_ hr
    refine WS.cons (WX.ret ?_)
    walk_at "ev"
    exact ⟨_, rfl, by rw [hc]; rfl, rfl⟩
end
section
variable {G : Gl} {μ : MU}
theorem call_is {n : Nat} {Φ : D → MU → Prop} (ts : List Tk) (i : Nat) (ss : List Sg) (hz : ts.length < 2 ^ 20) (hn : 2 ≤ n) (ho : ∀ b ∈ ss, b.isOp = true) (h : Φ (.bool (isIn ts i ss)) μ) :
    Fn G 304 n [rowD (full ts), .int i, .lst (ss.map Sg.val)] μ Φ := Fn.mono (fn_is ts i ss hz ho) hn (by rintro _ _ ⟨rfl, rfl⟩; exact h)
theorem call_tok {n : Nat} {Φ : D → MU → Prop} (ts : List Tk) (i : Nat) (hz : ts.length < 2 ^ 20) (hn : 1 ≤ n) (h : Φ (tkD (tok ts i)) μ) :
    Fn G 297 n [rowD (full ts), .int i] μ Φ := Fn.mono (fn_tok ts i hz) hn (by rintro _ _ ⟨rfl, rfl⟩; exact h)
theorem fn_one_step (ts : List Tk) (hz : ts.length < 2 ^ 20) (f : Nat) (i : Nat) (hc : cnt ts i < f + 1)
    (h1 : i + 1 ≤ ts.length → cnt ts (i + 1) < f → Fn G 316 (2 * f + 4) [rowD (full ts), .int (i + 1 : Nat)] μ fun r μ' => r = intsD (one ts f (i + 1)) ∧ μ' = μ)
    (h2 : i + 1 ≤ ts.length → cnt ts (i + 1) < f → Fn G 323 (2 * f + 5) [rowD (full ts), .int (i + 1 : Nat)] μ fun r μ' => r = intsD (many ts f (i + 1)) ∧ μ' = μ) :
    Fn G 316 (2 * (f + 1) + 4) [rowD (full ts), .int i] μ fun r μ' => r = intsD (one ts (f + 1) i) ∧ μ' = μ := by
  refine' Fn.cells (n := 2 * f + 5) (names := ["row", "at"]) ?ho ?hcd ?hb ?hnd ?hkind ?hcn ?hcl ?body ?hco ?hgen ?hk
  walk_at "cells_side"
  case hb => intro vs h; match vs, h with | [a, b], _ => rfl
  intro A L ok
  refine WS.cons (WX.ite ?_)
  walk_at "ev"
  refine call_is ts i [.star] hz (by first | exact le_lit rfl | (show _ ≤ 2 * f + 5; omega)) (by decide) ?_
  walk_at "ev"
  by_cases s1 : isIn ts i [.star] = true
  · rw [if_pos s1]
    refine WS.cons (WX.ret ?_)
    have hc1 : cnt ts (i + 1) < f := by have := cnt_lt (isIn_sub s1); omega
    walk_at "ev"
    refine call_is ts (i + 1) seps hz (by first | exact le_lit rfl | (show _ ≤ 2 * f + 5; omega)) (by decide) ?_
    walk_at "ev"
    refine ⟨_, Bt.int, ?_⟩
    refine ⟨_, P2.mulLst (by split <;> decide) (by split <;> decide) (by show 1 * _ ≤ _; split <;> decide), ?_⟩
    walk_at "ev"
    refine Fn.mono (h1 (isIn_lt s1) hc1) (by first | exact le_lit rfl | (show _ ≤ 2 * f + 5; omega)) ?_
    rintro _ _ ⟨rfl, rfl⟩
    have hlen := one_len ts f (i + 1)
    refine ⟨_, P2.addLst (by rw [List.length_map]; split <;> simp [sizeLine] <;> omega), ?_⟩
    refine ⟨_, rfl, ?_, rfl⟩
    have e : one ts (f + 1) i = (if isIn ts (i + 1) seps = true then [i + 1] else []) ++ one ts f (i + 1) := by rw [one, if_pos s1]
    rw [e]
    by_cases s2 : isIn ts (i + 1) seps = true
    · rw [if_pos s2, if_pos s2]; rfl
    · rw [if_neg s2, if_neg s2]; rfl
  · rw [if_neg s1]
    refine WS.nil ?_
    refine WS.cons (WX.ite ?_)
    walk_at "ev"
    refine call_is ts i [.lp] hz (by first | exact le_lit rfl | (show _ ≤ 2 * f + 5; omega)) (by decide) ?_
    walk_at "ev"
    by_cases s2 : isIn ts i [.lp] = true
    · rw [if_pos s2]
      have hc1 : cnt ts (i + 1) < f := by have := cnt_lt (isIn_sub s2); omega
      refine WS.cons (WX.ret ?_)
      have hlen := many_len ts f (i + 1)
      refine WE.compL (cl := [("row", L + 1)]) (ρ0 := [("row", rowD (full ts))]) (many ts f (i + 1)) (fun (e : Nat) => .int e) (fun e => isIn ts e [.rp]) (fun (e : Nat) => .int ((e : Int) + 1)) ⟨?clos, ?cell, ?kind, ?names, ?sub, ?nd, ?rho⟩ ?h (by simp only [sizeLine]; omega) ?turn ?done
      walk_at "comp_ok"
      case h =>
        walk_at "ev"
        exact Fn.mono (h2 (isIn_lt s2) hc1) (Nat.le_refl _) fun _ _ h => h
      case turn =>
        intro e he L2 ok2
        refine ⟨_, Tgt.nameL rfl rfl, fun x d hx => ?_, WT.one ?_⟩
        · rcases lookup_cons_of hx with ⟨rfl, rfl⟩ | ⟨_, hx⟩
          · rfl
          · cases hx
        · walk_at "ev"
          refine call_is ts e [.rp] hz (by first | exact le_lit rfl | (show _ ≤ 2 * f + 5; omega)) (by decide) ?_
          walk_at "ev"
          refine ⟨rfl, rfl, fun _ => ?_⟩
          walk_at "ev"
          exact ⟨rfl, rfl⟩
      case done =>
        refine ⟨_, rfl, ?_, rfl⟩
        rw [one, if_neg s1, if_pos s2]
        unfold intsD many
        rw [List.map_map]
        rfl
    · rw [if_neg s2]
      refine WS.nil ?_
      refine WS.cons (WX.assignTgt rfl ?_)
      walk_at "ev"
      refine call_tok ts i hz (by first | exact le_lit rfl | (show _ ≤ 2 * f + 5; omega)) ?_
      refine ⟨_, Tgt.three ⟨by walk_at "has", .inl fun _ h => h⟩ ⟨by walk_at "has", .inl fun _ h => h⟩ ⟨by walk_at "has", .inl fun _ h => h⟩, ?_⟩
      refine WS.cons (WX.ite (TT.mono (Φ := fun b μ' => b = !(isName ts i) ∧ μ' = μ) ?ttt ?kkk))
      case ttt =>
        have nm : isName ts i = (decide ((tok ts i).1 ∈ [Sg.ida, .idm, .cst, .ivar, .gvar]) || decide ((tok ts i).1 = .self)) := by
          unfold isName isIn
          rw [Bool.eq_iff_iff]
          simp only [List.mem_cons, List.not_mem_nil, or_false, decide_eq_true_eq, Bool.or_eq_true]
          exact ⟨fun h => by rcases h with h | h | h | h | h | h <;> simp [h], fun h => by rcases h with (h | h | h | h | h) | h <;> simp [h]⟩
        rw [nm]
        walk_at "ev"
        refine ⟨_, P2.notInLst (Sg.kindPy _) (by decide +kernel) (Sg.kindDp _) (Sg.kindNames _), ?_⟩
        cases hA : decide ((tok ts i).1 ∈ [Sg.ida, .idm, .cst, .ivar, .gvar]) with
        | true => exact ⟨rfl, rfl⟩
        | false =>
          show WA _ _ _ _ _ _ _
          walk_at "ev"
          refine ⟨_, P2.ne (Sg.tupPy _) (by decide +kernel) (Sg.tupDp _) (by decide) (Sg.kwSelf _), ?_⟩
          cases hB : decide ((tok ts i).1 = .self) with
          | true => exact ⟨rfl, rfl⟩
          | false => exact ⟨rfl, rfl⟩
      case kkk =>
        rintro b μ ⟨rfl, rfl⟩
        have e1 : one ts (f + 1) i = if isName ts i = true then chain ts (fuel ts) (i + 1) else [] := by rw [one, if_neg s1, if_neg s2]
        rw [e1]
        cases s3 : isName ts i with
        | false =>
          rw [if_pos (by rfl)]
          refine WS.cons (WX.ret ?_)
          walk_at "ev"
          exact ⟨_, rfl, rfl, rfl⟩
        | true =>
          rw [if_neg (by decide), if_pos rfl]
          have hin : i < ts.length := isIn_lt (ss := [.ida, .idm, .cst, .ivar, .gvar, .self]) s3
          refine WS.nil ?_
          refine WS.cons (WX.assign (by walk_at "has") (WE.listNew ?_))
          walk_at "ev"
          intro a ha
          refine WS.cons (WX.forS (item := fun j μi => match μi a with | some (.lst l) => l[j]? | _ => none) (Val := fun μi => ∃ l, μi a = some (.lst l)) (S := List Nat) (fun d _ => [("spot", d)]) (fun _ => [("found", .loc a), ("row", rowD (full ts))]) (ts.length + 2)
            (fun j l μi => μi = μ.set a (.lst (l.map fun (e : Nat) => .int e)) ∧ Wk ts (i + 1) j l) ?hhh ?val ?tgt ?turn ?done)
          case hhh =>
            walk_at "ev"
            exact ⟨ItD.loc, [i + 1], .cons rfl (.cons rfl .nil), rfl, Wk.start (by omega)⟩
          case val => rintro j l μi ⟨rfl, hw⟩; exact ⟨⟨_, MU.set_self ..⟩, by have := hw.1; have := hw.2.1; omega⟩
          case tgt => intro j l μi d ρi _ _; exact Tgt.name (by walk_at "has")
          case done =>
            rintro j l μi ρi ⟨rfl, hw⟩ hit hr
            rw [MU.set_self] at hit
            have hit' : l[j]? = none := by
              simp only [List.getElem?_map] at hit
              cases q : l[j]? with
              | none => rfl
              | some x => rw [q] at hit; cases hit
            refine TF.weak ?_ hr
            refine WS.cons (WX.ret (WE.frozen ?_))
            walk_at "ev"
            refine ⟨a, _, rfl, MU.set_self .., ?_⟩
            exact ⟨_, rfl, by rw [hw.done hit']; rfl, MU.del_set _ _ _ ha⟩
          case turn =>
            rintro j l μi d ⟨rfl, hw⟩ hit
            rw [MU.set_self] at hit
            simp only [List.getElem?_map] at hit
            cases hx : l[j]? with
            | none => rw [hx] at hit; cases hit
            | some x =>
              rw [hx] at hit; cases hit
              obtain ⟨w1, w2, w3⟩ := hw.at hx
              refine WS.cons (WX.assign (by walk_at "has") ?_)
              walk_at "ev"
              refine WS.cons (TF.mono (Φ := fun φ ρ' μ' => φ = .next ∧ μ' = μ.set a (.lst (l.map fun (e : Nat) => .int e)) ∧ RSub [("more", intsD (nxt ts x).toList), ("found", .loc a), ("row", rowD (full ts))] ρ') ?t1 ?k1)
              case t1 =>
                refine WX.ite ?_
                walk_at "ev"
                refine call_is ts x [.dot, .amp, .col] hz (by first | exact le_lit rfl | (show _ ≤ 2 * f + 5; omega)) (by decide) ?_
                walk_at "ev"
                unfold nxt
                by_cases u1 : hops ts x = true
                · rw [if_pos (show isIn ts x [.dot, .amp, .col] = true from u1), if_pos u1]
                  refine WS.cons (WX.assign (by walk_at "has") ?_)
                  walk_at "ev"
                  exact WS.nil ⟨rfl, rfl, .cons rfl (.cons rfl (.cons rfl .nil))⟩
                · rw [if_neg (show ¬ isIn ts x [.dot, .amp, .col] = true from u1), if_neg u1]
                  refine WS.cons (WX.ite ?_)
                  walk_at "ev"
                  refine call_is ts x [.lp, .lb] hz (by first | exact le_lit rfl | (show _ ≤ 2 * f + 5; omega)) (by decide) ?_
                  walk_at "ev"
                  cases u2 : isIn ts x [.lp, .lb] with
                  | false =>
                    have u3 : opns ts x = false := by unfold opns; rw [u2]; rfl
                    rw [u3]
                    exact WS.nil (WS.nil ⟨rfl, rfl, .cons rfl (.cons rfl (.cons rfl .nil))⟩)
                  | true =>
                    show WA _ _ _ _ _ _ _
                    walk_at "ev"
                    refine call_tok ts x hz (by first | exact le_lit rfl | (show _ ≤ 2 * f + 5; omega)) ?_
                    walk_at "ev"
                    refine ⟨_, Gt.tup (by decide) (by decide) rfl, ?_⟩
                    walk_at "ev"
                    have u3 : opns ts x = !(tok ts x).2 := by unfold opns; rw [u2]; rfl
                    rw [u3]
                    cases u4 : (tok ts x).2 with
                    | true => exact WS.nil (WS.nil ⟨rfl, rfl, .cons rfl (.cons rfl (.cons rfl .nil))⟩)
                    | false =>
                      rw [if_pos (by rfl)]
                      refine WS.cons (WX.assign (by walk_at "has") ?_)
                      walk_at "ev"
                      refine Fn.mono (fn_closes ts x hz (isIn_lt u2)) (by first | exact le_lit rfl | (show _ ≤ 2 * f + 5; omega)) ?_
                      rintro _ _ ⟨rfl, rfl⟩
                      exact WS.nil (WS.nil ⟨rfl, rfl, .cons rfl (.cons rfl (.cons rfl .nil))⟩)
              case k1 =>
                rintro φ ρ' _ ⟨rfl, rfl, hr⟩
                refine TF.weak ?_ hr
                refine WS.cons (WX.extend ?_)
                walk_at "ev"
                refine ⟨a, _, rfl, MU.set_self .., ?_⟩
                refine WE.compL (cl := [("found", L + 2)]) (ρ0 := [("found", .loc a)]) (nxt ts x).toList (fun (e : Nat) => .int e) (fun e => true) (fun (e : Nat) => .int e) ⟨?clos, ?cell, ?kind, ?names, ?sub, ?nd, ?rho⟩ ?h1 ?hz1 ?turn1 ?done1
                walk_at "comp_ok"
                case hz1 => cases nxt ts x <;> simp [sizeLine]
                case h1 =>
                  walk_at "ev"
                  exact ⟨rfl, rfl⟩
                case turn1 =>
                  intro e he L2 ok2
                  have he' : nxt ts x = some e := by simpa using he
                  refine ⟨_, Tgt.nameL rfl rfl, .cons rfl .nil, WT.one ?_⟩
                  walk_at "ev"
                  refine ⟨_, P2.notInLoc (MU.set_self ..) rfl (intsPy l) (by simp [D.py, PyData.depth]) (any_ints e l), ?_⟩
                  refine ⟨by rw [decide_eq_false (w3 e he').1]; rfl, rfl, fun _ => ?_⟩
                  walk_at "ev"
                  exact ⟨rfl, rfl⟩
                case done1 =>
                  have hw2 := hw.2.1
                  refine ⟨l.map fun (e : Nat) => .int e, _, rfl, MU.set_self .., by cases nxt ts x <;> simp [sizeLine] <;> omega, ?_⟩
                  rw [MU.set_set]
                  refine WS.nil ⟨l ++ (nxt ts x).toList, .cons rfl (.cons rfl .nil), by rw [List.map_append, List.filter_eq_self.mpr fun _ _ => rfl], ?_⟩
                  cases hn : nxt ts x with
                  | none => simpa using w2 hn
                  | some e => exact (w3 e hn).2
end
section
variable {G : Gl} {μ : MU}
theorem fn_many_step (ts : List Tk) (hz : ts.length < 2 ^ 20) (f : Nat) (i : Nat) (hi : i ≤ ts.length) (hc : cnt ts i < f)
    (h1 : ∀ s μ, cnt ts s < f → s ≤ ts.length → Fn G 316 (2 * f + 4) [rowD (full ts), .int (s : Nat)] μ fun r μ' => r = intsD (one ts f s) ∧ μ' = μ) :
    Fn G 323 (2 * f + 5) [rowD (full ts), .int i] μ fun r μ' => r = intsD (many ts f i) ∧ μ' = μ := by
  refine' Fn.plain (n := 2 * f + 4) (names := ["row", "at"]) (us := []) (es := []) ?ho ?hcd ?hb ?hus ?hnd ?hloc ?hcell ?body ?hco ?hgen ?hk
  walk_at "fn_side"
  case hb => intro s vs _ h; match vs, h with | [a, b], _ => exact BindsTo.of_eq rfl
  intro A L ok
  refine WS.cons (WX.assignSwap (by walk_at "has") (by walk_at "has") (WE.tuple (WL.cons (WE.listNew ?_))))
  walk_at "ev"
  refine call_is ts i [.star, .lp] hz (by first | exact le_lit rfl | (show _ ≤ 2 * f + 4; omega)) (by decide) ?_
  walk_at "ev"
  intro a ha
  refine WL.cons (WE.listNew ?_)
  walk_at "ev"
  intro b hb
  walk_at "ev"
  refine ⟨_, _, rfl, ?_⟩
  have hba : b ≠ a := by rintro rfl; rw [MU.set_self] at hb; cases hb
  have hmb : μ b = none := by rw [MU.set_ne _ _ hba] at hb; exact hb
  refine WS.cons (WX.forS (item := fun j μi => match μi a with | some (.lst l) => l[j]? | _ => none) (Val := fun μi => ∃ l, μi a = some (.lst l)) (S := List (Nat × Bool) × List Nat)
    (fun d _ => match d with | .tup [d1, d2] => [("several", d2), ("spot", d1)] | _ => []) (fun _ => [("heads", .loc a), ("found", .loc b), ("row", rowD (full ts))]) (ts.length + 2)
    (fun j s μi => μi = (μ.set a (.lst (s.1.map hdD))).set b (.lst (s.2.map fun (e : Nat) => .int e)) ∧ WM ts (one ts f) (many ts f i) i j s.1 s.2) ?hhh ?val ?tgt ?turn ?done)
  case hhh =>
    walk_at "ev"
    exact ⟨ItD.loc, ([(i, isIn ts i [.star, .lp])], []), .cons rfl (.cons rfl (.cons rfl .nil)), rfl, WM.start hi⟩
  case val => rintro j ⟨H, F⟩ μi ⟨rfl, hw⟩; exact ⟨⟨_, by rw [MU.set_ne _ _ (Ne.symm hba), MU.set_self]⟩, by have := hw.1; have := hw.2.1; omega⟩
  case tgt =>
    rintro j ⟨H, F⟩ μi d ρi ⟨rfl, hw⟩ hit
    rw [MU.set_ne _ _ (Ne.symm hba), MU.set_self] at hit
    simp only [List.getElem?_map] at hit
    cases hx : H[j]? with
    | none => rw [hx] at hit; cases hit
    | some x =>
      rw [hx] at hit; cases hit
      exact Tgt.two ⟨by walk_at "has", .inl fun _ h => h⟩ ⟨by walk_at "has", .inl fun _ h => h⟩
  case done =>
    rintro j ⟨H, F⟩ μi ρi ⟨rfl, hw⟩ hit hr
    rw [MU.set_ne _ _ (Ne.symm hba), MU.set_self] at hit
    have hit' : H[j]? = none := by
      simp only [List.getElem?_map] at hit
      cases q : H[j]? with
      | none => rfl
      | some x => rw [q] at hit; cases hit
    refine TF.weak ?_ hr
    refine WS.cons (TF.drop (WX.ret (WE.frozen ?_)))
    walk_at "ev"
    refine ⟨b, _, rfl, MU.set_self .., ?_⟩
    refine ⟨μ, ?_, _, rfl, by rw [hw.done hit']; rfl, rfl⟩
    rw [MU.del_set _ _ _ (by rw [MU.set_ne _ _ hba]; exact hmb)]
    exact MLe.set ha
  case turn =>
    rintro j ⟨H, F⟩ μi d ⟨rfl, hw⟩ hit
    rw [MU.set_ne _ _ (Ne.symm hba), MU.set_self] at hit
    simp only [List.getElem?_map] at hit
    cases hx : H[j]? with
    | none => rw [hx] at hit; cases hit
    | some x =>
      rw [hx] at hit; cases hit
      obtain ⟨s, sev⟩ := x
      obtain ⟨w1, w2, w3, w4⟩ := hw.at (one_asc ts f) hx
      have hll := one_len ts f s
      have hFl : F.length ≤ ts.length + 2 := Nat.le_trans hw.len (many_len ts f i)
      have hHl : H.length ≤ ts.length + 2 := hw.2.1
      refine WS.cons (WX.forS (item := fun q _ => ((one ts f s).map fun (e : Nat) => D.int e)[q]?) (Val := fun _ => True) (S := Unit) (fun d _ => [("edge", d)])
        (fun _ => [("several", .bool sev), ("heads", .loc a), ("found", .loc b), ("row", rowD (full ts))]) (one ts f s).length
        (fun q _ μi => q ≤ (one ts f s).length ∧ μi = (μ.set a (.lst ((H ++ (inn ts (one ts f s) q).1).map hdD))).set b (.lst ((F ++ (if sev then (one ts f s).take q else []) ++ (inn ts (one ts f s) q).2).map fun (e : Nat) => .int e))) ?h2 ?val2 ?tgt2 ?turn2 ?done2)
      case h2 =>
        walk_at "ev"
        refine Fn.mono (h1 s _ (Nat.lt_of_le_of_lt (cnt_le ts w2) hc) w1) (by first | exact le_lit rfl | (show _ ≤ 2 * f + 4; omega)) ?_
        rintro _ _ ⟨rfl, rfl⟩
        exact ⟨ItD.lst, (), .cons rfl (.cons rfl (.cons rfl (.cons rfl .nil))), Nat.zero_le _, by rw [inn_zero]; cases sev <;> simp⟩
      case val2 => rintro q _ μi ⟨hq, _⟩; exact ⟨trivial, hq⟩
      case tgt2 => intro q _ μi d ρi _ _; exact Tgt.name (by walk_at "has")
      case done2 =>
        rintro q _ μi ρi ⟨hq, rfl⟩ hit hr
        have hq' : q = (one ts f s).length := by
          have : (one ts f s).length ≤ q := by simpa using hit
          omega
        subst hq'
        refine WS.nil ⟨(_, _), .trans (.cons rfl (.cons rfl (.cons rfl .nil))) hr, ?_, w4⟩
        rw [inn_end, List.take_length]
      case turn2 =>
        rintro q _ μi d ⟨hq, rfl⟩ hit
        simp only [List.getElem?_map] at hit
        cases he : (one ts f s)[q]? with
        | none => rw [he] at hit; cases hit
        | some e =>
          rw [he] at hit; cases hit
          obtain ⟨i1, i2⟩ := inn_step (one_asc ts f s).1 he
          have hes := (one_asc ts f s).2 e (List.mem_of_getElem? he)
          have hql : q < (one ts f s).length := (List.getElem?_eq_some_iff.mp he).1
          have htk : (one ts f s).take (q + 1) = (one ts f s).take q ++ [e] := by rw [List.take_add_one, he]; rfl
          have htl : ((one ts f s).take q).length ≤ q := by rw [List.length_take]; omega
          rw [i1]
          simp only [List.append_nil]
          refine WS.cons (TF.mono (Φ := fun φ ρ' μ' => φ = .next ∧ μ' = (μ.set a (.lst (H.map hdD))).set b (.lst ((F ++ (if sev then (one ts f s).take (q + 1) else [])).map fun (e : Nat) => .int e)) ∧
            RSub [("edge", .int e), ("several", .bool sev), ("heads", .loc a), ("found", .loc b), ("row", rowD (full ts))] ρ') ?t1 ?k1)
          case t1 =>
            refine WX.ite ?_
            walk_at "ev"
            cases sev with
            | false => exact WS.nil ⟨rfl, rfl, .cons rfl (.cons rfl (.cons rfl (.cons rfl (.cons rfl .nil))))⟩
            | true =>
              rw [if_pos rfl]
              refine WS.cons (WX.append ?_)
              walk_at "ev"
              refine ⟨b, _, rfl, MU.set_self .., ?_⟩
              walk_at "ev"
              refine ⟨_, MU.set_self .., by simp [sizeLine]; omega, ?_⟩
              rw [MU.set_set]
              refine WS.nil ⟨rfl, ?_, .cons rfl (.cons rfl (.cons rfl (.cons rfl (.cons rfl .nil))))⟩
              rw [htk]; simp
          case k1 =>
            rintro φ ρ' _ ⟨rfl, rfl, hr⟩
            refine TF.weak ?_ hr
            have hfl : (F ++ (if sev then (one ts f s).take (q + 1) else [])).length ≤ 2 * ts.length + 4 := by
              cases sev
              · simp; omega
              · simp; omega
            generalize hFF : F ++ (if sev then (one ts f s).take (q + 1) else []) = FF at hfl ⊢
            refine WS.cons (WX.ite ?_)
            walk_at "ev"
            refine call_is ts e [.comma] hz (by first | exact le_lit rfl | (show _ ≤ 2 * f + 4; omega)) (by decide) ?_
            walk_at "ev"
            rw [i2]
            cases c1 : isIn ts e [.comma] with
            | false =>
              refine WS.nil (WS.nil ⟨(), .cons rfl (.cons rfl (.cons rfl (.cons rfl .nil))), hql, ?_⟩)
              simp
            | true =>
              rw [if_pos rfl]
              refine WS.cons (WX.ite ?_)
              walk_at "ev"
              refine call_is ts (e + 1) [.eq, .rp] hz (by first | exact le_lit rfl | (show _ ≤ 2 * f + 4; omega)) (by decide) ?_
              walk_at "ev"
              cases c2 : isIn ts (e + 1) [.eq, .rp] with
              | true =>
                rw [if_pos rfl]
                refine WS.cons (WX.append ?_)
                walk_at "ev"
                refine ⟨b, _, rfl, MU.set_self .., ?_⟩
                walk_at "ev"
                refine ⟨_, MU.set_self .., by simp [sizeLine]; omega, ?_⟩
                rw [MU.set_set]
                refine WS.nil (WS.nil (WS.nil ⟨(), .cons rfl (.cons rfl (.cons rfl (.cons rfl .nil))), hql, ?_⟩))
                simp
              | false =>
                rw [if_neg Bool.false_ne_true]
                refine WS.cons (WX.ite ?_)
                walk_at "ev"
                refine ⟨_, P2.notInLoc (by rw [MU.set_ne _ _ (Ne.symm hba), MU.set_self]) rfl (headsPy H) (by simp [D.py, D.pys, PyData.depth, PyData.depthAll]) (any_heads (e + 1) true H fun x hx => by have := w3 x hx; omega), ?_⟩
                rw [if_pos (by rfl)]
                refine WS.cons (WX.append ?_)
                walk_at "ev"
                refine ⟨a, _, rfl, by rw [MU.set_ne _ _ (Ne.symm hba), MU.set_self], ?_⟩
                walk_at "ev"
                refine ⟨_, by rw [MU.set_ne _ _ (Ne.symm hba), MU.set_self], by simp [sizeLine]; omega, ?_⟩
                rw [← MU.set_comm _ _ _ (Ne.symm hba), MU.set_set]
                refine WS.nil (WS.nil (WS.nil (WS.nil ⟨(), .cons rfl (.cons rfl (.cons rfl (.cons rfl .nil))), hql, ?_⟩)))
                simp [hdD]
end
section
variable {G : Gl}
theorem fn_one (ts : List Tk) (hz : ts.length < 2 ^ 20) : ∀ (f s : Nat) (μ : MU), cnt ts s < f → s ≤ ts.length → Fn G 316 (2 * f + 4) [rowD (full ts), .int (s : Nat)] μ fun r μ' => r = intsD (one ts f s) ∧ μ' = μ
  | 0, s, μ, h, _ => absurd h (Nat.not_lt_zero _)
  | f + 1, s, μ, h, _ => fn_one_step ts hz f s h (fun a b => fn_one ts hz f (s + 1) μ b a) (fun a b => fn_many_step ts hz f (s + 1) a b fun s μ q r => fn_one ts hz f s μ q r)
theorem fn_many (ts : List Tk) (hz : ts.length < 2 ^ 20) (f i : Nat) (μ : MU) (hc : cnt ts i < f) (hi : i ≤ ts.length) : Fn G 323 (2 * f + 5) [rowD (full ts), .int (i : Nat)] μ fun r μ' => r = intsD (many ts f i) ∧ μ' = μ :=
  fn_many_step ts hz f i hi hc fun s μ q r => fn_one ts hz f s μ q r
theorem fn_sett (ts : List Tk) (hz : ts.length < 2 ^ 20) : ∀ (f i : Nat) (μ : MU), cnt ts i < f → i ≤ ts.length → Fn G 330 (2 * f + 5) [rowD (full ts), .int (i : Nat)] μ fun r μ' => r = intsD (sett ts f i) ∧ μ' = μ
  | 0, i, μ, h, _ => absurd h (Nat.not_lt_zero _)
  | f + 1, i, μ, hc, hi => by
    have ih := fn_sett ts hz f
    refine' Fn.plain (n := 2 * f + 6) (names := ["row", "at"]) (us := []) (es := []) ?ho ?hcd ?hb ?hus ?hnd ?hloc ?hcell ?body ?hco ?hgen ?hk
    walk_at "fn_side"
    case hb => intro s vs _ h; match vs, h with | [a, b], _ => exact BindsTo.of_eq rfl
    intro A L ok
    refine WS.cons (WX.ite ?_)
    walk_at "ev"
    refine call_is ts i [.star] hz (by first | exact le_lit rfl | (show _ ≤ 2 * f + 6; omega)) (by decide) ?_
    walk_at "ev"
    cases s1 : isIn ts i [.star] with
    | true =>
      have e1 : sett ts (f + 1) i = if isIn ts (i + 1) seps then [i + 1] else sett ts f (i + 1) := by rw [sett, if_pos s1]
      rw [e1, if_pos rfl]
      have hc1 : cnt ts (i + 1) < f := by have := cnt_lt (isIn_sub s1); omega
      refine WS.cons (WX.ret ?_)
      walk_at "ev"
      refine call_is ts (i + 1) seps hz (by first | exact le_lit rfl | (show _ ≤ 2 * f + 6; omega)) (by decide) ?_
      walk_at "ev"
      cases s2 : isIn ts (i + 1) seps with
      | true =>
        rw [if_pos rfl, if_pos rfl]
        walk_at "ev"
        exact ⟨_, rfl, rfl, rfl⟩
      | false =>
        rw [if_neg Bool.false_ne_true, if_neg Bool.false_ne_true]
        walk_at "ev"
        refine Fn.mono (ih (i + 1) μ hc1 (isIn_lt s1)) (by first | exact le_lit rfl | (show _ ≤ 2 * f + 6; omega)) ?_
        rintro _ _ ⟨rfl, rfl⟩
        exact ⟨_, rfl, rfl, rfl⟩
    | false =>
      have e1 : sett ts (f + 1) i = (one ts (f + 1) i).filter fun e => isIn ts i [.lp] || stop ts e := by rw [sett, if_neg (by rw [s1]; simp)]
      rw [e1, if_neg Bool.false_ne_true]
      have hll := one_len ts (f + 1) i
      refine WS.nil ?_
      refine WS.cons (WX.assign (by walk_at "has") (WE.listNew ?_))
      walk_at "ev"
      intro b hb
      refine WS.cons (WX.forS (item := fun q _ => ((one ts (f + 1) i).map fun (e : Nat) => D.int e)[q]?) (Val := fun _ => True) (S := Unit) (fun d _ => [("edge", d)])
        (fun _ => [("found", .loc b), ("row", rowD (full ts)), ("at", .int i)]) (one ts (f + 1) i).length
        (fun q _ μi => q ≤ (one ts (f + 1) i).length ∧ μi = μ.set b (.lst ((((one ts (f + 1) i).take q).filter fun e => isIn ts i [.lp] || stop ts e).map fun (e : Nat) => .int e))) ?h2 ?val2 ?tgt2 ?turn2 ?done2)
      case h2 =>
        walk_at "ev"
        refine Fn.mono (fn_one ts hz (f + 1) i _ hc hi) (by first | exact le_lit rfl | (show _ ≤ 2 * f + 6; omega)) ?_
        rintro _ _ ⟨rfl, rfl⟩
        exact ⟨ItD.lst, (), .cons rfl (.cons rfl (.cons rfl .nil)), Nat.zero_le _, rfl⟩
      case val2 => rintro q _ μi ⟨hq, _⟩; exact ⟨trivial, hq⟩
      case tgt2 => intro q _ μi d ρi _ _; exact Tgt.name (by walk_at "has")
      case done2 =>
        rintro q _ μi ρi ⟨hq, rfl⟩ hit hr
        have hq' : (one ts (f + 1) i).length ≤ q := by simpa using hit
        refine TF.weak ?_ hr
        refine WS.cons (WX.ret (WE.frozen ?_))
        walk_at "ev"
        refine ⟨b, _, rfl, MU.set_self .., ?_⟩
        exact ⟨_, rfl, by rw [List.take_of_length_le hq']; rfl, MU.del_set _ _ _ hb⟩
      case turn2 =>
        rintro q _ M d ⟨hq, hM⟩ hit
        simp only [List.getElem?_map] at hit
        cases he : (one ts (f + 1) i)[q]? with
        | none => rw [he] at hit; cases hit
        | some e =>
          rw [he] at hit; cases hit
          have hql : q < (one ts (f + 1) i).length := (List.getElem?_eq_some_iff.mp he).1
          have htk : (one ts (f + 1) i).take (q + 1) = (one ts (f + 1) i).take q ++ [e] := by rw [List.take_add_one, he]; rfl
          have hfl : (((one ts (f + 1) i).take q).filter fun e => isIn ts i [.lp] || stop ts e).length ≤ ts.length + 2 := Nat.le_trans (List.length_filter_le _ _) (by rw [List.length_take]; omega)
          refine WS.cons (WX.assign (by walk_at "has") (TT.mono (Φ := fun d μ' => d = .bool (opns ts e) ∧ μ' = M) ?t1 ?k1))
          case t1 =>
            walk_at "ev"
            refine call_is ts e [.lp, .lb] hz (by first | exact le_lit rfl | (show _ ≤ 2 * f + 6; omega)) (by decide) ?_
            refine ⟨_, rfl, ?_⟩
            unfold opns
            cases isIn ts e [.lp, .lb] with
            | false => exact ⟨rfl, rfl⟩
            | true =>
              rw [if_pos rfl]
              walk_at "ev"
              refine call_tok ts e hz (by first | exact le_lit rfl | (show _ ≤ 2 * f + 6; omega)) ?_
              walk_at "ev"
              refine ⟨_, Gt.tup (by decide) (by decide) rfl, ?_⟩
              refine ⟨_, P1.not, ?_⟩
              exact ⟨rfl, rfl⟩
          case k1 =>
            rintro _ M ⟨rfl, rfl⟩
            refine WS.cons (WX.ite (TT.mono (Φ := fun c μ' => c = (isIn ts i [.lp] || stop ts e) ∧ μ' = M) ?t2 ?k2))
            case t2 =>
              walk_at "ev"
              refine call_is ts i [.lp] hz (by first | exact le_lit rfl | (show _ ≤ 2 * f + 6; omega)) (by decide) ?_
              walk_at "ev"
              unfold stop
              cases isIn ts i [.lp] with
              | true => exact ⟨rfl, rfl⟩
              | false =>
                rw [if_neg Bool.false_ne_true]
                walk_at "ev"
                cases opns ts e with
                | true => exact ⟨by simp, rfl⟩
                | false =>
                  rw [if_pos (by decide)]
                  walk_at "ev"
                  refine call_is ts e [.dot, .amp, .col] hz (by first | exact le_lit rfl | (show _ ≤ 2 * f + 6; omega)) (by decide) ?_
                  walk_at "ev"
                  unfold hops
                  cases isIn ts e [.dot, .amp, .col] with
                  | true => exact ⟨rfl, rfl⟩
                  | false => exact ⟨rfl, rfl⟩
            case k2 =>
              rintro _ M ⟨rfl, rfl⟩
              subst hM
              cases c1 : (isIn ts i [.lp] || stop ts e) with
              | false =>
                rw [if_neg Bool.false_ne_true]
                refine WS.nil (WS.nil ⟨(), .cons rfl (.cons rfl (.cons rfl .nil)), hql, ?_⟩)
                rw [htk]; simp [c1]
              | true =>
                rw [if_pos rfl]
                refine WS.cons (WX.append ?_)
                walk_at "ev"
                refine ⟨b, _, rfl, MU.set_self .., ?_⟩
                walk_at "ev"
                refine ⟨_, MU.set_self .., by simp only [sizeLine, List.length_map]; omega, ?_⟩
                rw [MU.set_set]
                refine WS.nil (WS.nil ⟨(), .cons rfl (.cons rfl (.cons rfl .nil)), hql, ?_⟩)
                rw [htk]; simp [c1]
end
section
variable {G : Gl} {μ : MU}
theorem fn_isop (t : Tk) (b : Sg) (hb : b.isOp = true) : Fn G 29 1 [tokO t, b.val] μ fun r μ' => r = .bool (decide (t.1 ∈ [b])) ∧ μ' = μ := by
  refine' Fn.plain (n := 0) (names := ["token", "value"]) (us := []) (es := []) ?ho ?hcd ?hb ?hus ?hnd ?hloc ?hcell ?body ?hco ?hgen ?hk
  walk_at "fn_side"
  case hb => intro s vs _ h; match vs, h with | [a, b], _ => exact BindsTo.of_eq rfl
  intro A L ok
  refine WS.cons (WX.ret ?_)
  walk_at "ev"
  refine ⟨t, rfl, ?_⟩
  walk_at "ev"
  refine ⟨_, P2.eq (Sg.kindPy _) (by decide +kernel) (Sg.kindDp _) (by decide) (Sg.kindOp _), ?_⟩
  refine ⟨_, rfl, ?_⟩
  cases hop : t.1.isOp with
  | false =>
    rw [if_neg Bool.false_ne_true]
    refine ⟨_, rfl, ?_, rfl⟩
    rw [decide_eq_false (by intro q; simp at q; rw [q, hb] at hop; cases hop)]
  | true =>
    rw [if_pos rfl]
    walk_at "ev"
    refine ⟨t, rfl, ?_⟩
    walk_at "ev"
    refine ⟨_, P2.eq (Sg.valPy _) (Sg.valPy _) (Sg.valDp _) (Sg.valDp _) (Sg.opEq _ _ hop hb), ?_⟩
    refine ⟨_, rfl, ?_, rfl⟩
    simp
theorem call_isop {n : Nat} {Φ : D → MU → Prop} (ts : List Tk) (i : Nat) (b : Sg) (hb : b.isOp = true) (hn : 1 ≤ n) (h : Φ (.bool (isIn ts i [b])) μ) : Fn G 29 n [tokO (tok ts i), b.val] μ Φ :=
  Fn.mono (fn_isop _ b hb) hn (by rintro _ _ ⟨rfl, rfl⟩; exact h)
theorem fn_closing {rd : Addr} (ts : List Tk) (pk : PK G μ rd ts) (he : NoEof ts) (i : Nat) (hi : isIn ts i opens = true) : Fn G 36 2 [.loc rd, .int i] μ fun r μ' => r = .int (oI (clos ts i 0)) ∧ μ' = μ := by
  refine' Fn.plain (n := 1) (names := ["reader", "at"]) (us := []) (es := []) ?ho ?hcd ?hb ?hus ?hnd ?hloc ?hcell ?body ?hco ?hgen ?hk
  walk_at "fn_side"
  case hb => intro s vs _ h; match vs, h with | [a, b], _ => exact BindsTo.of_eq rfl
  intro A L ok
  refine WS.cons (WX.assign (by walk_at "has") ?_)
  walk_at "ev"
  refine WS.cons (WX.whileS (S := Nat × Int) (fun s => [("depth", .int s.2), ("at", .int s.1), ("reader", .loc rd)])
    (fun k s μi => μi = μ ∧ k = ts.length - s.1 ∧ clos ts i 0 = clos ts s.1 s.2 ∧ (1 ≤ s.2 ∨ (s.2 = 0 ∧ isIn ts s.1 opens = true))) (ts.length - i) (i, 0) (.cons rfl (.cons rfl (.cons rfl .nil))) ⟨rfl, rfl, rfl, .inr ⟨rfl, hi⟩⟩ ?turn)
  case turn =>
    rintro k ⟨j, dep⟩ μi ⟨hμ, hk, hcl, hd⟩
    subst hμ
    dsimp only at hk hcl hd ⊢
    walk_at "ev"
    refine WE.peek pk (Nat.le_of_ble_eq_true rfl) (by walk_at "has") rfl ?_
    walk_at "ev"
    refine ⟨j, rfl, rfl, ?_⟩
    refine ⟨_, rfl, ?_⟩
    walk_at "ev"
    refine ⟨_, P2.ne (Sg.kindPy _) (by decide +kernel) (Sg.kindDp _) (by decide) (Sg.kindEof _), ?_⟩
    by_cases hj : j < ts.length
    · rw [decide_eq_false (he.at hj), if_pos (by rfl)]
      refine WS.cons (WX.assign (by walk_at "has") ?_)
      refine WE.peek pk (Nat.le_of_ble_eq_true rfl) (by walk_at "has") rfl ?_
      walk_at "ev"
      refine ⟨j, rfl, rfl, ?_⟩
      refine WS.cons (WX.assign (by walk_at "has") ?_)
      walk_at "ev"
      rw [clos_lt hj] at hcl
      dsimp only at hcl
      refine WS.cons (TF.mono (Φ := fun φ ρ' μ' => match φ with
        | .next => μ' = μi ∧ ∃ d', (∀ h', h' = dep + (if (tok ts j).1 ∈ opens then (1 : Int) else 0) - (if (tok ts j).1 ∈ closes then 1 else 0) → d' = h' ∧ h' ≠ 0 ∧ 1 ≤ h') ∧ RSub [("depth", .int d'), ("at", .int (j + 1 : Nat)), ("reader", .loc rd)] ρ'
        | .ret d => μ' = μi ∧ d = .int (j + 1 : Nat) ∧ clos ts i 0 = some (j + 1)
        | _ => False) ?tI ?kI)
      case tI =>
        refine WX.ite (TT.mono (Φ := fun b μ' => b = isIn ts j opens ∧ μ' = μi) ?tA ?kA)
        case tA =>
          walk_at "ev"
          refine ⟨_, rfl, ?_⟩
          walk_at "ev"
          refine ⟨_, P2.eq (Sg.kindPy _) (by decide +kernel) (Sg.kindDp _) (by decide) (Sg.kindOp _), ?_⟩
          cases hop : (tok ts j).1.isOp with
          | false => exact ⟨(isIn_nop hop).symm, rfl⟩
          | true =>
            show WA _ _ _ _ _ _ _
            walk_at "ev"
            refine ⟨_, rfl, ?_⟩
            refine WE.glob rfl (g_OPENING _) r_OPENING ?_
            exact ⟨_, P2.inTup (Sg.valPy _) (Sg.valsPy opens) (Sg.valDp _) (Sg.anyEq _ hop opens (by decide)), rfl, rfl⟩
        case kA =>
          rintro _ μi ⟨rfl, rfl⟩
          cases hA : isIn ts j opens with
          | true =>
            rw [if_pos rfl]
            refine WS.cons (WX.assign (by walk_at "has") ?_)
            walk_at "ev"
            have hB : isIn ts j closes = false := isIn_no hA (by decide)
            have hA' : (tok ts j).1 ∈ opens := of_decide_eq_true hA
            have hB' : ¬ (tok ts j).1 ∈ closes := of_decide_eq_false hB
            refine WS.nil ⟨rfl, dep + 1, ?_, .cons rfl (.cons rfl (.cons rfl .nil))⟩
            rintro h' rfl
            rw [if_pos hA', if_neg hB']
            refine ⟨by omega, ?_, ?_⟩ <;> rcases hd with q | ⟨q, _⟩ <;> omega
          | false =>
            rw [if_neg Bool.false_ne_true]
            have hA' : ¬ (tok ts j).1 ∈ opens := of_decide_eq_false hA
            have hdep : 1 ≤ dep := by
              rcases hd with q | ⟨_, q⟩
              · exact q
              · rw [hA] at q; cases q
            refine WS.cons (WX.ite (TT.mono (Φ := fun b μ' => b = isIn ts j closes ∧ μ' = μi) ?tB ?kB))
            case tB =>
              walk_at "ev"
              refine ⟨_, rfl, ?_⟩
              walk_at "ev"
              refine ⟨_, P2.eq (Sg.kindPy _) (by decide +kernel) (Sg.kindDp _) (by decide) (Sg.kindOp _), ?_⟩
              cases hop : (tok ts j).1.isOp with
              | false => exact ⟨(isIn_nop hop).symm, rfl⟩
              | true =>
                show WA _ _ _ _ _ _ _
                walk_at "ev"
                refine ⟨_, rfl, ?_⟩
                walk_at "ev"
                exact ⟨_, P2.inTup (Sg.valPy _) (Sg.valsPy closes) (Sg.valDp _) (Sg.anyEq _ hop closes (by decide)), rfl, rfl⟩
            case kB =>
              rintro _ μi ⟨rfl, rfl⟩
              cases hB : isIn ts j closes with
              | false =>
                rw [if_neg Bool.false_ne_true]
                have hB' : ¬ (tok ts j).1 ∈ closes := of_decide_eq_false hB
                refine WS.nil (WS.nil ⟨rfl, dep, ?_, .cons rfl (.cons rfl (.cons rfl .nil))⟩)
                rintro h' rfl
                rw [if_neg hA', if_neg hB']
                exact ⟨by omega, by omega, by omega⟩
              | true =>
                rw [if_pos rfl]
                have hB' : (tok ts j).1 ∈ closes := of_decide_eq_true hB
                refine WS.cons (WX.assign (by walk_at "has") ?_)
                walk_at "ev"
                refine WS.cons (WX.ite ?_)
                walk_at "ev"
                refine ⟨_, P2.eqInt, ?_⟩
                rw [if_neg hA', if_pos hB'] at hcl
                by_cases z : dep - 1 = 0
                · rw [decide_eq_true z, if_pos rfl]
                  refine WS.cons (WX.ret ?_)
                  walk_at "ev"
                  exact ⟨rfl, rfl, by rw [hcl, if_pos (by omega)]⟩
                · rw [decide_eq_false z, if_neg Bool.false_ne_true]
                  refine WS.nil (WS.nil (WS.nil ⟨rfl, dep - 1, ?_, .cons rfl (.cons rfl (.cons rfl .nil))⟩))
                  rintro h' rfl
                  rw [if_neg hA', if_pos hB']
                  exact ⟨by omega, by omega, by omega⟩
      case kI =>
        rintro φ ρ' μ' hφ
        cases φ with
        | next =>
          obtain ⟨hm, d', hd', hr⟩ := hφ
          obtain ⟨q1, q2, q3⟩ := hd' _ rfl
          rw [if_neg q2] at hcl
          refine WS.nil ⟨ts.length - (j + 1), (j + 1, d'), by omega, hr, hm, rfl, ?_, .inl (by rw [q1]; exact q3)⟩
          rw [hcl, q1]
        | brk => exact hφ.elim
        | cont => exact hφ.elim
        | ret d =>
          obtain ⟨hm, e1, e2⟩ := hφ
          exact ⟨_, rfl, by rw [e1, e2]; rfl, hm⟩
    · rw [tok_ge (by omega), decide_eq_true (by rfl), if_neg (by decide)]
      intro ρi hr
      rw [clos_ge (i := j) (by omega)] at hcl
      refine TF.weak ?_ hr
      refine WS.cons (WX.ret ?_)
      walk_at "ev"
      refine ⟨_, P1.neg, ?_⟩
      exact ⟨_, rfl, by rw [hcl]; rfl, rfl⟩
end
section
variable {G : Gl} {μ : MU}
theorem WB.opIn {C : Cx} {ρ : Rho} {Φ : Bool → MU → Prop} {x : Str} {es : List Expr} {k1 : _} {k2 : Nat} {p1 p2 p3 p4 p5 p6 p7 p8 p9 : Pos} (ts : List Tk) (i : Nat) (ss : List Sg) (ho : ∀ b ∈ ss, b.isOp = true) (hx : C.Has x) (hr : ρ.lookup x = some (tokO (tok ts i)))
    (hl : WL G C ρ μ p7 es fun ds μ1 => ds.length ≤ sizeLine ∧ ds = ss.map Sg.val ∧ μ1 = μ) (h : Φ (isIn ts i ss) μ) (hd : (x == ("__debug__" : Str)) = false := by decide) :
    WB G C ρ μ (.BoolOp .And [.Compare (.Attribute (.Name x p1) "kind" p2) [.Eq] [.Constant (.str "op") k1 p3] p4, .Compare (.Attribute (.Name x p5) "value" p6) [.In] [.Tuple es k2 p7] p8] p9) Φ := by
  refine WB.boolop (WA.and (WB.cmp (WE.kind (WE.name hx hr ?_ hd))))
  refine ⟨_, rfl, WE.cStr ⟨_, P2.eq (Sg.kindPy _) (by decide +kernel) (Sg.kindDp _) (by decide) (Sg.kindOp _), ?_⟩⟩
  cases hop : (tok ts i).1.isOp with
  | false =>
    rw [if_neg Bool.false_ne_true]
    rw [isIn_nop hop ho] at h
    exact h
  | true =>
    rw [if_pos rfl]
    refine WA.and_one (WB.cmp (WE.value (WE.name hx hr ?_ hd)) (by rfl))
    refine ⟨_, rfl, WE.tuple (TT.mono hl ?_)⟩
    rintro _ _ ⟨hle, rfl, rfl⟩
    exact ⟨hle, _, P2.inTup (Sg.valPy _) (Sg.valsPy ss) (Sg.valDp _) (Sg.anyEq _ hop ss ho), h⟩
theorem fn_pT_step {rd : Addr} (ts : List Tk) (pk : PK G μ rd ts) (he : NoEof ts) (f i : Nat) (hc : cnt ts i < f + 1)
    (h1 : i + 1 ≤ ts.length → cnt ts (i + 1) < f → Fn G 43 (2 * f + 4) [.loc rd, .int (i + 1 : Nat)] μ fun r μ' => r = .int (oI (pT ts f (i + 1))) ∧ μ' = μ)
    (h2 : i + 1 ≤ ts.length → cnt ts (i + 1) < f → Fn G 50 (2 * f + 5) [.loc rd, .int (i + 1 : Nat)] μ fun r μ' => r = .int (oI (pTs ts f (i + 1))) ∧ μ' = μ) :
    Fn G 43 (2 * (f + 1) + 4) [.loc rd, .int i] μ fun r μ' => r = .int (oI (pT ts (f + 1) i)) ∧ μ' = μ := by
  refine' Fn.plain (n := 2 * f + 5) (names := ["reader", "at"]) (us := []) (es := []) ?ho ?hcd ?hb ?hus ?hnd ?hloc ?hcell ?body ?hco ?hgen ?hk
  walk_at "fn_side"
  case hb => intro s vs _ h; match vs, h with | [a, b], _ => exact BindsTo.of_eq rfl
  intro A L ok
  refine WS.cons (WX.assign (by walk_at "has") ?_)
  refine WE.peek pk (by first | exact le_lit rfl | (show 1 ≤ 2 * f + 5; omega)) (by walk_at "has") rfl ?_
  walk_at "ev"
  refine ⟨i, rfl, rfl, ?_⟩
  refine WS.cons (WX.ite ?_)
  walk_at "ev"
  refine call_isop ts i .star rfl (by first | exact le_lit rfl | (show 1 ≤ 2 * f + 5; omega)) ?_
  walk_at "ev"
  cases s1 : isIn ts i [.star] with
  | true =>
    have hc1 : cnt ts (i + 1) < f := by have := cnt_lt (isIn_sub s1); omega
    have e1 : pT ts (f + 1) i = if isIn ts (i + 1) seps then some (i + 1) else pT ts f (i + 1) := by rw [pT, if_pos s1]
    rw [e1, if_pos rfl]
    refine WS.cons (WX.assign (by walk_at "has") ?_)
    refine WE.peek pk (by first | exact le_lit rfl | (show 1 ≤ 2 * f + 5; omega)) (by walk_at "has") rfl ?_
    walk_at "ev"
    refine ⟨i + 1, rfl, rfl, ?_⟩
    refine WS.cons (WX.ite (WB.opIn ts (i + 1) seps (by decide) (by walk_at "has") rfl ?hl ?hh))
    case hl =>
      walk_at "ev"
      exact ⟨rfl, rfl⟩
    case hh =>
      cases s2 : isIn ts (i + 1) seps with
      | true =>
        rw [if_pos rfl, if_pos rfl]
        refine WS.cons (WX.ret ?_)
        walk_at "ev"
        exact ⟨_, rfl, rfl, rfl⟩
      | false =>
        rw [if_neg Bool.false_ne_true, if_neg Bool.false_ne_true]
        refine WS.nil ?_
        refine WS.cons (WX.ret ?_)
        walk_at "ev"
        refine Fn.mono (h1 (isIn_lt s1) hc1) (by first | exact le_lit rfl | (show _ ≤ 2 * f + 5; omega)) ?_
        rintro _ _ ⟨rfl, rfl⟩
        exact ⟨_, rfl, rfl, rfl⟩
  | false =>
    rw [if_neg Bool.false_ne_true]
    refine WS.nil ?_
    refine WS.cons (WX.ite ?_)
    walk_at "ev"
    refine call_isop ts i .lp rfl (by first | exact le_lit rfl | (show 1 ≤ 2 * f + 5; omega)) ?_
    walk_at "ev"
    cases s2 : isIn ts i [.lp] with
    | true =>
      have hc1 : cnt ts (i + 1) < f := by have := cnt_lt (isIn_sub s2); omega
      have e1 : pT ts (f + 1) i = match pTs ts f (i + 1) with | none => none | some q => if isIn ts q [.rp] then some (q + 1) else none := by
        rw [pT, if_neg (by rw [s1]; simp), if_pos s2]; rfl
      rw [e1, if_pos rfl]
      refine WS.cons (WX.assign (by walk_at "has") ?_)
      walk_at "ev"
      refine Fn.mono (h2 (isIn_lt s2) hc1) (Nat.le_refl _) ?_
      rintro _ _ ⟨rfl, rfl⟩
      refine WS.cons (WX.ret ?_)
      walk_at "ev"
      refine ⟨_, P2.ge, ?_⟩
      cases hq : pTs ts f (i + 1) with
      | none =>
        rw [if_neg (by decide), if_neg (by decide)]
        walk_at "ev"
        refine ⟨_, P1.neg, ?_⟩
        exact ⟨_, rfl, rfl, rfl⟩
      | some q =>
        rw [if_pos (by simp [oI])]
        walk_at "ev"
        refine WE.peek pk (by first | exact le_lit rfl | (show 1 ≤ 2 * f + 5; omega)) (by walk_at "has") rfl ?_
        walk_at "ev"
        refine ⟨q, rfl, rfl, ?_⟩
        walk_at "ev"
        refine call_isop ts q .rp rfl (by first | exact le_lit rfl | (show 1 ≤ 2 * f + 5; omega)) ?_
        walk_at "ev"
        dsimp only
        cases s3 : isIn ts q [.rp] with
        | true =>
          rw [if_pos rfl, if_pos rfl]
          walk_at "ev"
          exact ⟨_, rfl, rfl, rfl⟩
        | false =>
          rw [if_neg (by decide), if_neg (by decide)]
          walk_at "ev"
          refine ⟨_, P1.neg, ?_⟩
          exact ⟨_, rfl, rfl, rfl⟩
    | false =>
      have e1 : pT ts (f + 1) i = if isName ts i then walk ts (fuel ts) (i + 1) else none := by rw [pT, if_neg (by rw [s1]; simp), if_neg (by rw [s2]; simp)]
      rw [e1, if_neg Bool.false_ne_true]
      refine WS.nil ?_
      refine WS.cons (WX.ite (TT.mono (Φ := fun b μ' => b = !(isName ts i) ∧ μ' = μ) ?ttt ?kkk))
      case ttt =>
        have nm : isName ts i = (decide ((tok ts i).1 ∈ [Sg.ida, .idm, .cst, .ivar, .gvar]) || decide ((tok ts i).1 = .self)) := by
          unfold isName isIn
          rw [Bool.eq_iff_iff]
          simp only [List.mem_cons, List.not_mem_nil, or_false, decide_eq_true_eq, Bool.or_eq_true]
          exact ⟨fun h => by rcases h with h | h | h | h | h | h <;> simp [h], fun h => by rcases h with (h | h | h | h | h) | h <;> simp [h]⟩
        rw [nm]
        walk_at "ev"
        refine ⟨_, rfl, ?_⟩
        walk_at "ev"
        refine ⟨_, P2.notInTup (Sg.kindPy _) (by decide +kernel) (Sg.kindDp _) (Sg.kindNames _), ?_⟩
        cases hA : decide ((tok ts i).1 ∈ [Sg.ida, .idm, .cst, .ivar, .gvar]) with
        | true => exact ⟨rfl, rfl⟩
        | false =>
          show WA _ _ _ _ _ _ _
          walk_at "ev"
          refine ⟨_, rfl, ?_⟩
          walk_at "ev"
          refine ⟨_, P2.eq (Sg.kindPy _) (by decide +kernel) (Sg.kindDp _) (by decide) (Sg.kindKw _), ?_⟩
          cases hK : decide ((tok ts i).1 ∈ [Sg.self, .kend]) with
          | false =>
            refine ⟨?_, rfl⟩
            have : ¬ (tok ts i).1 = .self := fun q => by rw [q] at hK; cases hK
            rw [decide_eq_false this]; rfl
          | true =>
            show WA _ _ _ _ _ _ _
            walk_at "ev"
            refine ⟨_, rfl, ?_⟩
            walk_at "ev"
            exact ⟨_, P2.eq (Sg.valPy _) (by decide +kernel) (Sg.valDp _) (by decide) (Sg.valSelf _ (of_decide_eq_true hK)), rfl, rfl⟩
      case kkk =>
        rintro b μ ⟨rfl, rfl⟩
        cases s3 : isName ts i with
        | false =>
          rw [if_pos (by rfl)]
          refine WS.cons (WX.ret ?_)
          walk_at "ev"
          refine ⟨_, P1.neg, ?_⟩
          exact ⟨_, rfl, rfl, rfl⟩
        | true =>
          rw [if_neg (by decide), if_pos rfl]
          have hin : i < ts.length := isIn_lt (ss := [.ida, .idm, .cst, .ivar, .gvar, .self]) s3
          refine WS.nil ?_
          refine WS.cons (WX.assign (by walk_at "has") ?_)
          walk_at "ev"
          have walk_succ : ∀ kk j, walk ts (kk + 1) j = if hops ts j then walk ts kk (j + 2) else if opns ts j then (match clos ts j 0 with | none => none | some e => walk ts kk e) else some j := fun _ _ => rfl
          refine WS.cons (WX.whileS (S := Option Nat) (fun s => [("at", .int (oI s)), ("reader", .loc rd)])
            (fun k s μi => μi = μ ∧ match s with | none => k = 0 ∧ walk ts (fuel ts) (i + 1) = none | some j => j ≤ ts.length + 1 ∧ ∃ kk, ts.length + 2 ≤ j + kk ∧ k = ts.length + 2 - j ∧ walk ts (fuel ts) (i + 1) = walk ts kk j)
            (ts.length + 2 - (i + 1)) (some (i + 1)) (.cons rfl (.cons rfl .nil)) ⟨rfl, by omega, fuel ts, by unfold fuel; omega, rfl, rfl⟩ ?turn)
          case turn =>
            rintro k s μ ⟨rfl, hs⟩
            walk_at "ev"
            refine ⟨_, P2.ge, ?_⟩
            cases s with
            | none =>
              rw [if_neg (by decide)]
              intro ρi hr
              refine TF.weak ?_ hr
              refine WS.cons (WX.ret ?_)
              walk_at "ev"
              refine ⟨_, P1.neg, ?_⟩
              exact ⟨_, rfl, by rw [hs.2]; rfl, rfl⟩
            | some j =>
              rw [if_pos (by simp [oI])]
              obtain ⟨hj, kk, q1, q2, q3⟩ := hs
              cases kk with
              | zero => omega
              | succ kk =>
                rw [walk_succ] at q3
                refine WS.cons (WX.assign (by walk_at "has") ?_)
                refine WE.peek pk (by first | exact le_lit rfl | (show 1 ≤ 2 * f + 5; omega)) (by walk_at "has") rfl ?_
                walk_at "ev"
                refine ⟨j, rfl, rfl, ?_⟩
                refine WS.cons (WX.ite (WB.opIn ts j [.dot, .amp, .col] (by decide) (by walk_at "has") rfl ?hl ?hh))
                case hl =>
                  walk_at "ev"
                  exact ⟨rfl, rfl⟩
                case hh =>
                  cases u1 : isIn ts j [.dot, .amp, .col] with
                  | true =>
                    rw [if_pos rfl]
                    rw [if_pos (show hops ts j = true from u1)] at q3
                    have := isIn_lt u1
                    refine WS.cons (WX.assign (by walk_at "has") ?_)
                    walk_at "ev"
                    exact WS.nil (WS.nil ⟨ts.length + 2 - (j + 2), some (j + 2), by omega, .cons rfl (.cons rfl .nil), rfl, by omega, kk, by omega, rfl, q3⟩)
                  | false =>
                    rw [if_neg Bool.false_ne_true]
                    rw [if_neg (show ¬ hops ts j = true from by unfold hops; rw [u1]; simp)] at q3
                    refine WS.cons (WX.ite (TT.mono (Φ := fun b μ' => b = opns ts j ∧ μ' = μ) ?tA ?kA))
                    case tA =>
                      walk_at "ev"
                      refine ⟨_, rfl, ?_⟩
                      walk_at "ev"
                      refine ⟨_, P2.eq (Sg.kindPy _) (by decide +kernel) (Sg.kindDp _) (by decide) (Sg.kindOp _), ?_⟩
                      unfold opns
                      cases hop : (tok ts j).1.isOp with
                      | false => rw [isIn_nop hop]; exact ⟨rfl, rfl⟩
                      | true =>
                        show WA _ _ _ _ _ _ _
                        walk_at "ev"
                        refine ⟨_, rfl, ?_⟩
                        walk_at "ev"
                        refine ⟨_, P2.inTup (Sg.valPy _) (Sg.valsPy [.lb, .lp]) (Sg.valDp _) (Sg.anyEq _ hop [.lb, .lp] (by decide)), ?_⟩
                        cases u2 : decide ((tok ts j).1 ∈ [Sg.lb, .lp]) with
                        | false =>
                          have : isIn ts j [.lp, .lb] = false := isIn_no' u2
                          rw [this]; exact ⟨rfl, rfl⟩
                        | true =>
                          have : isIn ts j [.lp, .lb] = true := isIn_sub (ss := [.lb, .lp]) u2
                          rw [this]
                          show WA _ _ _ _ _ _ _
                          walk_at "ev"
                          refine ⟨_, rfl, ?_⟩
                          walk_at "ev"
                          exact ⟨rfl, rfl⟩
                    case kA =>
                      rintro b μ ⟨rfl, rfl⟩
                      cases u2 : opns ts j with
                      | false =>
                        rw [if_neg Bool.false_ne_true]
                        rw [if_neg (by rw [u2]; simp)] at q3
                        refine WS.cons (WX.ret ?_)
                        walk_at "ev"
                        exact ⟨_, rfl, by rw [q3], rfl⟩
                      | true =>
                        rw [if_pos rfl]
                        rw [if_pos u2] at q3
                        have u3 : isIn ts j [.lp, .lb] = true := by unfold opns at u2; exact (Bool.and_eq_true_iff.mp u2).1
                        have := isIn_lt u3
                        refine WS.cons (WX.assign (by walk_at "has") ?_)
                        walk_at "ev"
                        refine Fn.mono (fn_closing ts pk he j (isIn_sub u3)) (by first | exact le_lit rfl | (show _ ≤ 2 * f + 5; omega)) ?_
                        rintro _ μ ⟨rfl, rfl⟩
                        cases hcl : clos ts j 0 with
                        | none =>
                          rw [hcl] at q3
                          exact WS.nil (WS.nil (WS.nil ⟨0, none, by omega, .cons rfl (.cons rfl .nil), rfl, rfl, q3⟩))
                        | some e =>
                          rw [hcl] at q3
                          have := clos_gt hcl
                          exact WS.nil (WS.nil (WS.nil ⟨ts.length + 2 - e, some e, by omega, .cons rfl (.cons rfl .nil), rfl, by omega, kk, by omega, rfl, q3⟩))
end
section
variable {G : Gl} {μ : MU}
theorem pT_bd (ts : List Tk) (f s p : Nat) (h : pT ts f s = some p) : s < p ∧ p ≤ ts.length + 1 :=
  (one_asc ts f s).2 p (List.mem_of_getLast? ((lawO ts f).b s p h))
def pRest (ts : List Tk) (o : Nat → Option Nat) (k : Nat) (sev : Bool) : Option Nat → Option Nat
  | none => none
  | some p => if isIn ts p [.comma] then (if isIn ts (p + 1) [.eq, .rp] then some (p + 1) else pLoop ts o k true (p + 1)) else if sev then some p else none
theorem pLoop_succ (ts : List Tk) (o : Nat → Option Nat) (k : Nat) (sev : Bool) (s : Nat) : pLoop ts o (k + 1) sev s = pRest ts o k sev (o s) := by
  rw [pLoop]; unfold pRest; cases o s <;> rfl
theorem isIn_two {ts : List Tk} {i : Nat} {a b : Sg} : isIn ts i [a, b] = (isIn ts i [a] || isIn ts i [b]) := by
  unfold isIn
  rw [Bool.eq_iff_iff]; simp
theorem WE.isopOr {C : Cx} {ρ : Rho} {Φ : D → MU → Prop} {f1 f2 : Expr} (ts : List Tk) (i : Nat) (a b : Sg) {pos : Pos}
    (h1 : WE G C ρ μ f1 fun d μ' => d = .bool (isIn ts i [a]) ∧ μ' = μ) (h2 : WE G C ρ μ f2 fun d μ' => d = .bool (isIn ts i [b]) ∧ μ' = μ) (h : Φ (.bool (isIn ts i [a, b])) μ) : WE G C ρ μ (.BoolOp .Or [f1, f2] pos) Φ := by
  rw [isIn_two] at h
  refine WE.or (TT.mono h1 ?_)
  rintro _ _ ⟨rfl, rfl⟩
  refine ⟨_, rfl, ?_⟩
  cases h1' : isIn ts i [a] with
  | true => rw [if_pos rfl]; rw [h1'] at h; exact h
  | false =>
    rw [if_neg Bool.false_ne_true]
    refine TT.mono h2 ?_
    rintro _ _ ⟨rfl, rfl⟩
    rw [h1'] at h; exact h
theorem WB.isopOr {C : Cx} {ρ : Rho} {Φ : Bool → MU → Prop} {f1 f2 : Expr} (ts : List Tk) (i : Nat) (a b : Sg) {pos : Pos}
    (h1 : WB G C ρ μ f1 fun d μ' => d = isIn ts i [a] ∧ μ' = μ) (h2 : WB G C ρ μ f2 fun d μ' => d = isIn ts i [b] ∧ μ' = μ) (h : Φ (isIn ts i [a, b]) μ) : WB G C ρ μ (.BoolOp .Or [f1, f2] pos) Φ := by
  rw [isIn_two] at h
  refine WB.boolop (WA.or (TT.mono h1 ?_))
  rintro _ _ ⟨rfl, rfl⟩
  cases h1' : isIn ts i [a] with
  | true => rw [if_pos rfl]; rw [h1'] at h; exact h
  | false =>
    rw [if_neg Bool.false_ne_true]
    refine WA.or_one (TT.mono h2 ?_)
    rintro _ _ ⟨rfl, rfl⟩
    rw [h1'] at h; exact h
theorem fn_pTs_step {rd : Addr} (ts : List Tk) (pk : PK G μ rd ts) (f i : Nat) (hi : i ≤ ts.length) (hc : cnt ts i < f)
    (h1 : ∀ s, cnt ts s < f → s ≤ ts.length → Fn G 43 (2 * f + 4) [.loc rd, .int (s : Nat)] μ fun r μ' => r = .int (oI (pT ts f s)) ∧ μ' = μ) :
    Fn G 50 (2 * f + 5) [.loc rd, .int i] μ fun r μ' => r = .int (oI (pTs ts f i)) ∧ μ' = μ := by
  refine' Fn.plain (n := 2 * f + 4) (names := ["reader", "at"]) (us := []) (es := []) ?ho ?hcd ?hb ?hus ?hnd ?hloc ?hcell ?body ?hco ?hgen ?hk
  walk_at "fn_side"
  case hb => intro s vs _ h; match vs, h with | [a, b], _ => exact BindsTo.of_eq rfl
  intro A L ok
  refine WS.cons (WX.assign (by walk_at "has") ?_)
  refine WE.peek pk (by first | exact le_lit rfl | (show 1 ≤ 2 * f + 4; omega)) (by walk_at "has") rfl ?_
  walk_at "ev"
  refine ⟨i, rfl, rfl, ?_⟩
  refine WS.cons (WX.assign (by walk_at "has") (WE.isopOr ts i .star .lp ?o1 ?o2 ?_))
  case o1 =>
    walk_at "ev"
    exact call_isop ts i .star rfl (by first | exact le_lit rfl | (show 1 ≤ 2 * f + 4; omega)) ⟨rfl, rfl⟩
  case o2 =>
    walk_at "ev"
    exact call_isop ts i .lp rfl (by first | exact le_lit rfl | (show 1 ≤ 2 * f + 4; omega)) ⟨rfl, rfl⟩
  refine WS.cons (WX.assign (by walk_at "has") ?_)
  walk_at "ev"
  refine Fn.mono (h1 i hc hi) (Nat.le_refl _) ?_
  rintro _ μ ⟨rfl, rfl⟩
  refine WS.cons (WX.whileS (S := Bool × Option Nat) (fun s => [("at", .int (oI s.2)), ("several", .bool s.1), ("reader", .loc rd)])
    (fun k s μi => μi = μ ∧ ∃ j kk, j ≤ ts.length ∧ i ≤ j ∧ k = ts.length + 1 - j ∧ ts.length + 1 ≤ j + kk ∧ s.2 = pT ts f j ∧ pTs ts f i = pRest ts (pT ts f) kk s.1 s.2)
    (ts.length + 1 - i) (isIn ts i [.star, .lp], pT ts f i) (.cons rfl (.cons rfl (.cons rfl .nil))) ⟨rfl, i, ts.length + 1, hi, Nat.le_refl _, rfl, by omega, rfl, by rw [← pLoop_succ]; rfl⟩ ?turn)
  case turn =>
    rintro k ⟨sev, s⟩ μ ⟨rfl, j, kk, q1, q2, q3, q4, q5, q6⟩
    dsimp only at q5 q6 ⊢
    walk_at "ev"
    refine ⟨_, P2.ge, ?_⟩
    cases s with
    | none =>
      rw [decide_eq_false (by simp [oI]), if_neg Bool.false_ne_true, if_neg Bool.false_ne_true]
      intro ρi hr
      refine TF.weak ?_ hr
      refine WS.cons (WX.ret ?_)
      walk_at "ev"
      rw [q6]
      cases sev with
      | true => rw [if_pos rfl]; walk_at "ev"; exact ⟨_, rfl, rfl, rfl⟩
      | false => rw [if_neg Bool.false_ne_true]; walk_at "ev"; exact ⟨_, P1.neg, _, rfl, rfl, rfl⟩
    | some p =>
      have hb := pT_bd ts f j p q5.symm
      rw [decide_eq_true (by simp [oI]), if_pos rfl]
      walk_at "ev"
      refine WE.peek pk (by first | exact le_lit rfl | (show 1 ≤ 2 * f + 4; omega)) (by walk_at "has") rfl ?_
      walk_at "ev"
      refine ⟨p, rfl, rfl, ?_⟩
      walk_at "ev"
      refine call_isop ts p .comma rfl (by first | exact le_lit rfl | (show 1 ≤ 2 * f + 4; omega)) ?_
      walk_at "ev"
      unfold pRest at q6
      dsimp only at q6
      cases c1 : isIn ts p [.comma] with
      | false =>
        rw [c1, if_neg Bool.false_ne_true] at q6
        rw [if_neg Bool.false_ne_true]
        intro ρi hr
        refine TF.weak ?_ hr
        refine WS.cons (WX.ret ?_)
        walk_at "ev"
        rw [q6]
        cases sev with
        | true => rw [if_pos rfl]; walk_at "ev"; exact ⟨_, rfl, rfl, rfl⟩
        | false => rw [if_neg Bool.false_ne_true]; walk_at "ev"; exact ⟨_, P1.neg, _, rfl, rfl, rfl⟩
      | true =>
        rw [c1, if_pos rfl] at q6
        have hlt := isIn_lt c1
        rw [if_pos rfl]
        refine WS.cons (WX.assign (by walk_at "has") ?_)
        walk_at "ev"
        refine WS.cons (WX.assign (by walk_at "has") ?_)
        walk_at "ev"
        refine WS.cons (WX.ite (WB.isopOr ts (p + 1) .eq .rp ?o1 ?o2 ?_))
        case o1 =>
          walk_at "ev"
          refine WE.peek pk (by first | exact le_lit rfl | (show 1 ≤ 2 * f + 4; omega)) (by walk_at "has") rfl ?_
          walk_at "ev"
          refine ⟨p + 1, rfl, rfl, ?_⟩
          walk_at "ev"
          exact call_isop ts (p + 1) .eq rfl (by first | exact le_lit rfl | (show 1 ≤ 2 * f + 4; omega)) ⟨_, PT.bool, rfl, rfl⟩
        case o2 =>
          walk_at "ev"
          refine WE.peek pk (by first | exact le_lit rfl | (show 1 ≤ 2 * f + 4; omega)) (by walk_at "has") rfl ?_
          walk_at "ev"
          refine ⟨p + 1, rfl, rfl, ?_⟩
          walk_at "ev"
          exact call_isop ts (p + 1) .rp rfl (by first | exact le_lit rfl | (show 1 ≤ 2 * f + 4; omega)) ⟨_, PT.bool, rfl, rfl⟩
        cases c2 : isIn ts (p + 1) [.eq, .rp] with
        | true =>
          rw [c2, if_pos rfl] at q6
          rw [if_pos rfl]
          refine WS.cons (WX.ret ?_)
          walk_at "ev"
          exact ⟨_, rfl, by rw [q6]; rfl, rfl⟩
        | false =>
          rw [c2, if_neg Bool.false_ne_true] at q6
          rw [if_neg Bool.false_ne_true]
          refine WS.nil ?_
          refine WS.cons (WX.assign (by walk_at "has") ?_)
          walk_at "ev"
          refine Fn.mono (h1 (p + 1) (Nat.lt_of_le_of_lt (cnt_le ts (by omega)) hc) (by omega)) (Nat.le_refl _) ?_
          rintro _ μ ⟨rfl, rfl⟩
          cases kk with
          | zero => omega
          | succ kk =>
            exact WS.nil ⟨ts.length + 1 - (p + 1), (true, pT ts f (p + 1)), by omega, .cons rfl (.cons rfl (.cons rfl .nil)), rfl, p + 1, kk, by omega, by omega, rfl, by omega, rfl, by rw [q6, pLoop_succ]⟩
end
section
variable {G : Gl}
theorem fn_pT {rd : Addr} (ts : List Tk) (μ : MU) (pk : PK G μ rd ts) (he : NoEof ts) : ∀ (f s : Nat), cnt ts s < f → s ≤ ts.length → Fn G 43 (2 * f + 4) [.loc rd, .int (s : Nat)] μ fun r μ' => r = .int (oI (pT ts f s)) ∧ μ' = μ
  | 0, s, h, _ => absurd h (Nat.not_lt_zero _)
  | f + 1, s, h, _ => fn_pT_step ts pk he f s h (fun a b => fn_pT ts μ pk he f (s + 1) b a) (fun a b => fn_pTs_step ts pk f (s + 1) a b fun s q r => fn_pT ts μ pk he f s q r)
theorem fn_pTs {rd : Addr} (ts : List Tk) (μ : MU) (pk : PK G μ rd ts) (he : NoEof ts) (f i : Nat) (hc : cnt ts i < f) (hi : i ≤ ts.length) : Fn G 50 (2 * f + 5) [.loc rd, .int (i : Nat)] μ fun r μ' => r = .int (oI (pTs ts f i)) ∧ μ' = μ :=
  fn_pTs_step ts pk f i hi hc fun s q r => fn_pT ts μ pk he f s q r
def oEq (ts : List Tk) : Option Nat → Bool
  | none => false
  | some p => isIn ts p [.eq]
theorem fn_starts {rd : Addr} (ts : List Tk) (μ : MU) (pk : PK G μ rd ts) (he : NoEof ts) (f : Nat) (hc : cnt ts 0 < f) : Fn G 57 (2 * f + 6) [.loc rd] μ fun r μ' => r = .bool (oEq ts (pTs ts f 0)) ∧ μ' = μ := by
  refine' Fn.plain (n := 2 * f + 5) (names := ["reader"]) (us := []) (es := []) ?ho ?hcd ?hb ?hus ?hnd ?hloc ?hcell ?body ?hco ?hgen ?hk
  walk_at "fn_side"
  case hb => intro s vs _ h; match vs, h with | [a], _ => exact BindsTo.of_eq rfl
  intro A L ok
  refine WS.cons (WX.assign (by walk_at "has") ?_)
  walk_at "ev"
  refine Fn.mono (fn_pTs ts μ pk he f 0 hc (Nat.zero_le _)) (Nat.le_refl _) ?_
  rintro _ μ ⟨rfl, rfl⟩
  refine WS.cons (WX.ret ?_)
  walk_at "ev"
  refine ⟨_, P2.ge, _, rfl, ?_⟩
  cases hq : pTs ts f 0 with
  | none =>
    rw [decide_eq_false (by simp [oI]), if_neg Bool.false_ne_true]
    exact ⟨_, rfl, rfl, rfl⟩
  | some p =>
    rw [decide_eq_true (by simp [oI]), if_pos rfl]
    walk_at "ev"
    refine WE.peek pk (by first | exact le_lit rfl | (show 1 ≤ 2 * f + 5; omega)) (by walk_at "has") rfl ?_
    walk_at "ev"
    refine ⟨p, rfl, rfl, ?_⟩
    walk_at "ev"
    exact call_isop ts p .eq rfl (by first | exact le_lit rfl | (show 1 ≤ 2 * f + 5; omega)) ⟨_, rfl, rfl, rfl⟩
end
section
variable {G : Gl} {μ : MU}
theorem fn_peek {rd dx tb : Addr} {k : Nat} {last : D} (all : List Tk) (hz : all.length < 2 ^ 20) (h : Rdr μ rd dx (full all) tb k last) (hk : k ≤ all.length) (i : Nat) :
    Fn G 79 1 [.loc rd, .int i] μ fun r μ' => r = tokO (tok all (k + i)) ∧ μ' = μ := by
  refine' Fn.plain (n := 0) (names := ["self", "ahead"]) (us := []) (es := []) ?ho ?hcd ?hb ?hus ?hnd ?hloc ?hcell ?body ?hco ?hgen ?hk
  walk_at "fn_side"
  case hb => intro s vs X h; match vs, h with | [a, b], _ => exact binds_K X rfl (by k_is) rfl rfl rfl
  intro A L ok
  have hlen : (((full all).map tokO).length : Int) = (all.length : Int) + 1 := by simp [full]
  refine WS.cons (WX.ret ?_)
  refine WE.sub (WE.attr ?_ (by with_unfolding_all rfl)) (by intro _ _; rfl)
  walk_at "ev"
  refine ⟨191, _, _, .inr ⟨rd, dx, rfl, h.ins, h.dct⟩, f_tokens, rfl, ?_⟩
  walk_at "ev"
  refine WE.attr ?_ (by with_unfolding_all rfl)
  walk_at "ev"
  refine ⟨191, _, _, .inr ⟨rd, dx, rfl, h.ins, h.dct⟩, f_place, rfl, ?_⟩
  walk_at "ev"
  refine WE.attr ?_ (by with_unfolding_all rfl)
  walk_at "ev"
  refine ⟨191, _, _, .inr ⟨rd, dx, rfl, h.ins, h.dct⟩, f_tokens, rfl, ?_⟩
  walk_at "ev"
  refine ⟨_, Bt.len (by omega), ?_⟩
  walk_at "ev"
  refine ⟨_, Bt.min, ?_⟩
  rw [hlen]
  refine ⟨tokO (tok all (k + i)), Gt.lst (by split <;> omega) (by split <;> omega) ?_, ?_⟩
  · rw [← full_tokO]
    congr 1
    rw [List.length_map, full_len]
    split <;> omega
  exact ⟨_, rfl, rfl, rfl⟩
theorem pk_of {rd dx tb : Addr} {k : Nat} {last : D} (all : List Tk) (hz : all.length < 2 ^ 20) (h : Rdr μ rd dx (full all) tb k last) (hk : k ≤ all.length) : PK G μ rd (all.drop k) :=
  ⟨⟨dx, _, h.ins, h.dct, rfl⟩, fun i => by rw [tok_drop]; exact fn_peek all hz h hk i⟩
theorem fn_peek0 {rd dx tb : Addr} {k : Nat} {last : D} (all : List Tk) (hz : all.length < 2 ^ 20) (h : Rdr μ rd dx (full all) tb k last) (hk : k ≤ all.length) :
    Fn G 79 1 [.loc rd] μ fun r μ' => r = tokO (tok all k) ∧ μ' = μ := by
  refine' Fn.plain (n := 0) (names := ["self", "ahead"]) (us := [.int 0 270]) (es := [.int 0]) ?ho ?hcd ?hb ?hus ?hnd ?hloc ?hcell ?body ?hco ?hgen ?hk
  walk_at "fn_sideb"
  case hb => intro s vs X h; match vs, h with | [a], _ => exact binds_K X rfl (by k_is) rfl rfl rfl
  case hus => exact fun g => .cons (.int _ _) .nil
  intro A L ok
  have hlen : (((full all).map tokO).length : Int) = (all.length : Int) + 1 := by simp [full]
  refine WS.cons (WX.ret ?_)
  refine WE.sub (WE.attr ?_ (by with_unfolding_all rfl)) (by intro _ _; rfl)
  walk_at "ev"
  refine ⟨191, _, _, .inr ⟨rd, dx, rfl, h.ins, h.dct⟩, f_tokens, rfl, ?_⟩
  walk_at "ev"
  refine WE.attr ?_ (by with_unfolding_all rfl)
  walk_at "ev"
  refine ⟨191, _, _, .inr ⟨rd, dx, rfl, h.ins, h.dct⟩, f_place, rfl, ?_⟩
  walk_at "ev"
  refine WE.attr ?_ (by with_unfolding_all rfl)
  walk_at "ev"
  refine ⟨191, _, _, .inr ⟨rd, dx, rfl, h.ins, h.dct⟩, f_tokens, rfl, ?_⟩
  walk_at "ev"
  refine ⟨_, Bt.len (by omega), ?_⟩
  walk_at "ev"
  refine ⟨_, Bt.min, ?_⟩
  rw [hlen]
  refine ⟨tokO (tok all k), Gt.lst (by split <;> omega) (by split <;> omega) ?_, ?_⟩
  · rw [← full_tokO]
    congr 1
    rw [List.length_map, full_len]
    split <;> omega
  exact ⟨_, rfl, rfl, rfl⟩
theorem fn_take {rd dx tb : Addr} {k : Nat} {last : D} (all : List Tk) (hz : all.length < 2 ^ 20) (h : Rdr μ rd dx (full all) tb k last) (hk : k ≤ all.length) (hne : rd ≠ dx) :
    Fn G 86 2 [.loc rd] μ fun r μ' => r = tokO (tok all k) ∧ μ' = μ.set dx (.dict (rdF (full all) tb (k + 1) (tokO (tok all k)))) := by
  refine' Fn.plain (n := 1) (names := ["self"]) (us := []) (es := []) ?ho ?hcd ?hb ?hus ?hnd ?hloc ?hcell ?body ?hco ?hgen ?hk
  walk_at "fn_side"
  case hb => intro s vs _ h; match vs, h with | [a], _ => exact BindsTo.of_eq rfl
  intro A L ok
  refine WS.cons (WX.setAttr ?_)
  refine WE.meth0 ?_ (by rfl)
  walk_at "ev"
  refine ⟨191, _, 79, .inr ⟨rd, dx, rfl, h.ins, h.dct⟩, m_peek, rfl, ?_⟩
  refine Fn.mono (fn_peek0 all hz h hk) (Nat.le_refl _) ?_
  rintro _ μ ⟨rfl, rfl⟩
  walk_at "ev"
  refine ⟨rd, dx, 191, _, rfl, h.ins, h.dct, s_last, Nat.le_of_ble_eq_true rfl, ?_⟩
  refine WS.cons (WX.augAttr ?_)
  walk_at "ev"
  have e1 : (μ.set dx (.dict (putF "last" (tokO (tok all k)) (rdF (full all) tb k last)))) rd = some (.ins 191 dx) := by rw [MU.set_ne _ _ hne]; exact h.ins
  refine ⟨rd, dx, 191, _, .int k, rfl, e1, MU.set_self .., f_place, s_place, Nat.le_of_ble_eq_true rfl, rfl, ?_⟩
  walk_at "ev"
  refine ⟨_, P2.iadd, e1, MU.set_self .., ?_⟩
  rw [MU.set_set]
  refine WS.cons (WX.ret ?_)
  refine WE.attr ?_ (by with_unfolding_all rfl)
  walk_at "ev"
  refine ⟨191, _, _, .inr ⟨rd, dx, rfl, by rw [MU.set_ne _ _ hne]; exact h.ins, MU.set_self ..⟩, f_last, rfl, ?_⟩
  exact ⟨_, rfl, rfl, rfl⟩
theorem fn_tokInit {a dx : Addr} (hne : a ≠ dx) (h1 : μ a = some (.ins 212 dx)) (h2 : μ dx = some (.dict [])) (d1 d2 d3 d4 d5 : D) :
    Fn G 209 1 [.loc a, d1, d2, d3, d4, d5] μ fun r μ' => r = .none ∧ μ' = μ.set dx (.dict [("kind", d1), ("value", d2), ("line", d3), ("spaced", d4), ("place", d5)]) := by
  refine' Fn.plainG (n := 0) (names := ["self", "kind", "value", "line", "spaced", "place"]) (us := []) (es := []) ?ho ?hcd ?hb ?hus ?hnd ?hloc ?hcell ?body ?hco ?hgen ?hk
  walk_at "fn_side"
  case hb => intro s vs _ h; match vs, h with | [a, b, c, d, e, f], _ => exact BindsTo.of_eq rfl
  intro A L ok
  have e1 : ∀ x, (μ.set dx x) a = some (.ins 212 dx) := fun x => by rw [MU.set_ne _ _ hne]; exact h1
  refine WS.cons (WX.setAttr ?_)
  walk_at "ev"
  refine ⟨a, dx, 212, _, rfl, h1, h2, t_kind, Nat.le_of_ble_eq_true rfl, ?_⟩
  refine WS.cons (WX.setAttr ?_)
  walk_at "ev"
  refine ⟨a, dx, 212, _, rfl, e1 _, MU.set_self .., t_value, Nat.le_of_ble_eq_true rfl, ?_⟩
  rw [MU.set_set]
  refine WS.cons (WX.setAttr ?_)
  walk_at "ev"
  refine ⟨a, dx, 212, _, rfl, e1 _, MU.set_self .., t_line, Nat.le_of_ble_eq_true rfl, ?_⟩
  rw [MU.set_set]
  refine WS.cons (WX.setAttr ?_)
  walk_at "ev"
  refine ⟨a, dx, 212, _, rfl, e1 _, MU.set_self .., t_spaced, Nat.le_of_ble_eq_true rfl, ?_⟩
  rw [MU.set_set]
  refine WS.cons (WX.setAttr ?_)
  walk_at "ev"
  refine ⟨a, dx, 212, _, rfl, e1 _, MU.set_self .., t_place, Nat.le_of_ble_eq_true rfl, ?_⟩
  rw [MU.set_set]
  exact WS.nil ⟨_, .inr ⟨rfl, rfl⟩, rfl, rfl⟩
theorem fn_rdInit {a dx tb : Addr} (hne : a ≠ dx) (h1 : μ a = some (.ins 191 dx)) (h2 : μ dx = some (.dict [])) (all : List Tk) :
    Fn G 71 1 [.loc a, .lst ((full all).map tokO), .loc tb] μ fun r μ' => r = .none ∧ μ' = μ.set dx (.dict (rdF (full all) tb 0 (tokO (tok all 0)))) := by
  refine' Fn.plainG (n := 0) (names := ["self", "tokens", "table"]) (us := []) (es := []) ?ho ?hcd ?hb ?hus ?hnd ?hloc ?hcell ?body ?hco ?hgen ?hk
  walk_at "fn_side"
  case hb => intro s vs _ h; match vs, h with | [a, b, c], _ => exact BindsTo.of_eq rfl
  intro A L ok
  have e1 : ∀ x, (μ.set dx x) a = some (.ins 191 dx) := fun x => by rw [MU.set_ne _ _ hne]; exact h1
  refine WS.cons (WX.setAttr ?_)
  walk_at "ev"
  refine ⟨a, dx, 191, _, rfl, h1, h2, s_tokens, Nat.le_of_ble_eq_true rfl, ?_⟩
  refine WS.cons (WX.setAttr ?_)
  walk_at "ev"
  refine ⟨a, dx, 191, _, rfl, e1 _, MU.set_self .., s_table, Nat.le_of_ble_eq_true rfl, ?_⟩
  rw [MU.set_set]
  refine WS.cons (WX.setAttr ?_)
  walk_at "ev"
  refine ⟨a, dx, 191, _, rfl, e1 _, MU.set_self .., s_place, Nat.le_of_ble_eq_true rfl, ?_⟩
  rw [MU.set_set]
  refine WS.cons (WX.setAttr ?_)
  walk_at "ev"
  refine ⟨tokO (tok all 0), Gt.lst (by decide) (by decide) ?_, ?_⟩
  · have := full_tokO all 0
    rw [Nat.zero_min] at this
    exact this
  walk_at "ev"
  refine ⟨a, dx, 191, _, rfl, e1 _, MU.set_self .., s_last, Nat.le_of_ble_eq_true rfl, ?_⟩
  rw [MU.set_set]
  refine WS.cons (WX.setAttr ?_)
  walk_at "ev"
  refine ⟨a, dx, 191, _, rfl, e1 _, MU.set_self .., s_scopes, Nat.le_of_ble_eq_true rfl, ?_⟩
  rw [MU.set_set]
  refine WS.cons (WX.setAttr ?_)
  walk_at "ev"
  refine ⟨a, dx, 191, _, rfl, e1 _, MU.set_self .., s_closed, Nat.le_of_ble_eq_true rfl, ?_⟩
  rw [MU.set_set]
  refine WS.cons (WX.setAttr ?_)
  walk_at "ev"
  refine ⟨a, dx, 191, _, rfl, e1 _, MU.set_self .., s_no_do, Nat.le_of_ble_eq_true rfl, ?_⟩
  rw [MU.set_set]
  refine WS.cons (WX.setAttr ?_)
  walk_at "ev"
  refine ⟨a, dx, 191, _, rfl, e1 _, MU.set_self .., s_bare, Nat.le_of_ble_eq_true rfl, ?_⟩
  rw [MU.set_set]
  refine WS.cons (WX.setAttr ?_)
  walk_at "ev"
  refine ⟨a, dx, 191, _, rfl, e1 _, MU.set_self .., s_loops, Nat.le_of_ble_eq_true rfl, ?_⟩
  rw [MU.set_set]
  refine WS.cons (WX.setAttr ?_)
  walk_at "ev"
  refine ⟨a, dx, 191, _, rfl, e1 _, MU.set_self .., s_rescues, Nat.le_of_ble_eq_true rfl, ?_⟩
  rw [MU.set_set]
  exact WS.nil ⟨_, .inr ⟨rfl, rfl⟩, rfl, rfl⟩
end
section
variable {G : Gl} {μ : MU}
theorem bits64 {x : Int} (h : x.natAbs < 2 ^ 63) : Builtin.Int.intBits x ≤ 64 := by
  unfold Builtin.Int.intBits
  split
  · omega
  · rename_i hx
    have hx' : x.natAbs ≠ 0 := by
      intro q; apply hx; simp; omega
    have := (Nat.log2_lt hx').mpr h
    omega
theorem fn_law_take {bx : Addr} {c m : Nat} (hb : Bx μ bx c) (hc : c < 2 ^ 30) (h0 : 0 < m) (hm : m < 2 ^ 20) : Fn G 244 1 [.loc bx, .int m] μ fun r μ' => ∃ v : Nat, r = .int v ∧ v < m ∧ BxTo μ μ' bx (c + 1) := by
  obtain ⟨t, k, n, hbx, ht, hk, hkc⟩ := hb
  have fin : ∀ z : Int, ∃ v : Nat, z.fmod m = v ∧ v < m := fun z => by
    rw [Int.fmod_eq_emod_of_nonneg _ (by omega)]
    have h1 := Int.emod_nonneg z (b := (m : Int)) (by omega)
    have h2 := Int.emod_lt_of_pos z (b := (m : Int)) (by omega)
    exact ⟨(z % m).toNat, by omega, by omega⟩
  refine' Fn.plain (n := 0) (names := ["box", "many"]) (us := []) (es := []) ?ho ?hcd ?hb ?hus ?hnd ?hloc ?hcell ?body ?hco ?hgen ?hk
  walk_at "fn_side"
  case hb => intro s vs _ h; match vs, h with | [a, b], _ => exact BindsTo.of_eq rfl
  intro A L ok
  refine WS.cons (WX.ite ?_)
  walk_at "ev"
  refine ⟨.int t, Gt.loc (.inr hbx) (by decide) (by decide) rfl, ?_⟩
  walk_at "ev"
  refine ⟨_, P2.gt, ?_⟩
  by_cases hpos : 0 < t
  · rw [decide_eq_true hpos, if_pos rfl]
    refine WS.cons (WX.assign (by walk_at "has") ?_)
    walk_at "ev"
    refine ⟨.int t, Gt.loc (.inr hbx) (by decide) (by decide) rfl, ?_⟩
    walk_at "ev"
    refine ⟨_, P2.mod (by omega), ?_⟩
    refine WS.cons (WX.putItem ?_)
    walk_at "ev"
    refine ⟨.int t, Gt.loc (.inr hbx) (by decide) (by decide) rfl, ?_⟩
    walk_at "ev"
    refine ⟨_, P2.fdiv (by omega) (by omega), ?_⟩
    walk_at "ev"
    refine ⟨bx, _, 0, rfl, rfl, hbx, by decide, by decide, by simp, ?_⟩
    refine WS.cons (WX.ret ?_)
    walk_at "ev"
    obtain ⟨v, e1, e2⟩ := fin t
    refine ⟨_, rfl, v, by rw [e1], e2, t.fdiv m, k, n, rfl, ?_, hk, by omega⟩
    rw [Int.fdiv_eq_ediv_of_nonneg _ (by omega)]
    exact Int.ediv_nonneg (by omega) (by omega)
  · rw [decide_eq_false hpos, if_neg Bool.false_ne_true]
    refine WS.nil ?_
    refine WS.cons (WX.augItem ?_)
    walk_at "ev"
    refine ⟨bx, _, 1, _, rfl, rfl, hbx, by decide, by decide, by simp, rfl, ?_⟩
    walk_at "ev"
    refine ⟨_, P2.iadd, hbx, ?_⟩
    have hbx' : (μ.set bx (.box [.int t, .int (k + 1), .int n])) bx = some (.box [.int t, .int (k + 1), .int n]) := MU.set_self ..
    refine WS.cons (WX.ret ?_)
    walk_at "ev"
    refine ⟨.int (k + 1), Gt.loc (.inr hbx') (by decide) (by decide) rfl, ?_⟩
    walk_at "ev"
    refine ⟨_, P2.mul (IntMulOk.of_left (by decide)), ?_⟩
    walk_at "ev"
    refine ⟨.int (k + 1), Gt.loc (.inr hbx') (by decide) (by decide) rfl, ?_⟩
    walk_at "ev"
    refine ⟨_, P2.mul (IntMulOk.of_right (bits64 (by omega))), ?_⟩
    walk_at "ev"
    refine ⟨.int (k + 1), Gt.loc (.inr hbx') (by decide) (by decide) rfl, ?_⟩
    walk_at "ev"
    refine ⟨_, P2.mul (IntMulOk.of_left (by decide)), ?_⟩
    walk_at "ev"
    refine ⟨_, P2.mod (by decide), ?_⟩
    walk_at "ev"
    refine ⟨_, P2.mod (by omega), ?_⟩
    generalize ((7 * (k + 1) * (k + 1) + 3 * (k + 1) + 5 : Int).fmod 1009) = z
    obtain ⟨v, e1, e2⟩ := fin z
    exact ⟨_, rfl, v, by rw [e1], e2, t, k + 1, n, rfl, ht, by omega, by omega⟩
theorem call_take {μ0 : MU} {bx : Addr} {c n : Nat} {Φ : D → MU → Prop} (m : Nat) (hb : BxTo μ0 μ bx c) (hn : 1 ≤ n) (hc : c < 2 ^ 30) (h0 : 0 < m) (hm : m < 2 ^ 20) (h : ∀ (v : Nat) μ', v < m → BxTo μ0 μ' bx (c + 1) → Φ (.int v) μ') :
    Fn G 244 n [.loc bx, .int m] μ Φ := Fn.mono (fn_law_take hb.bx hc h0 hm) hn (by rintro _ μ' ⟨v, rfl, hv, hb'⟩; exact h v μ' hv (hb.trans hb'))
theorem Sg.kind_op {a : Sg} (h : a.isOp = true) : a.kind = "op" := by revert h; cases a <;> decide
theorem fn_law_op (a : Sg) (b : Bool) (ha : a.isOp = true) : Fn G 252 1 [a.val, .bool b] μ fun r μ' => r = tkD (a, b) ∧ μ' = μ := by
  refine' Fn.plain (n := 0) (names := ["sign", "spaced"]) (us := []) (es := []) ?ho ?hcd ?hb ?hus ?hnd ?hloc ?hcell ?body ?hco ?hgen ?hk
  walk_at "fn_side"
  case hb => intro s vs X h; match vs, h with | [a, b], _ => exact binds_K X rfl (by k_is) rfl rfl rfl
  intro A L ok
  refine WS.cons (WX.ret ?_)
  walk_at "ev"
  exact ⟨_, rfl, by unfold tkD; rw [Sg.kind_op ha], rfl⟩
theorem fn_law_op1 (a : Sg) (ha : a.isOp = true) : Fn G 252 1 [a.val] μ fun r μ' => r = tkD (a, false) ∧ μ' = μ := by
  refine' Fn.plain (n := 0) (names := ["sign", "spaced"]) (us := [.bool false]) (es := [.bool false]) ?ho ?hcd ?hb ?hus ?hnd ?hloc ?hcell ?body ?hco ?hgen ?hk
  walk_at "fn_sideb"
  case hb => intro s vs X h; match vs, h with | [a], _ => exact binds_K X rfl (by k_is) rfl rfl rfl
  case hus => exact fun g => .cons (.bool _) .nil
  intro A L ok
  refine WS.cons (WX.ret ?_)
  walk_at "ev"
  exact ⟨_, rfl, by unfold tkD; rw [Sg.kind_op ha], rfl⟩
theorem call_op {n : Nat} {Φ : D → MU → Prop} (a : Sg) (b : Bool) (ha : a.isOp = true) (hn : 1 ≤ n) (h : Φ (tkD (a, b)) μ) : Fn G 252 n [a.val, .bool b] μ Φ := Fn.mono (fn_law_op a b ha) hn (by rintro _ _ ⟨rfl, rfl⟩; exact h)
theorem call_op1 {n : Nat} {Φ : D → MU → Prop} (a : Sg) (ha : a.isOp = true) (hn : 1 ≤ n) (h : Φ (tkD (a, false)) μ) : Fn G 252 n [a.val] μ Φ := Fn.mono (fn_law_op1 a ha) hn (by rintro _ _ ⟨rfl, rfl⟩; exact h)
theorem fn_signs : Fn G 223 1 [] μ fun r μ' => r = .lst (signsL.map Sg.val) ∧ μ' = μ := by
  refine' Fn.plain (n := 0) (names := []) (us := []) (es := []) ?ho ?hcd ?hb ?hus ?hnd ?hloc ?hcell ?body ?hco ?hgen ?hk
  walk_at "fn_side"
  case hb => intro s vs _ h; match vs, h with | [], _ => exact BindsTo.of_eq rfl
  intro A L ok
  show WS G _ [] μ _ _
  refine WS.cons ?_
  refine WX.ret ?_
  walk_at "ev"
  exact ⟨_, rfl, rfl, rfl⟩
theorem fn_others : Fn G 230 1 [] μ fun r μ' => r = .lst (othersL.map othD) ∧ μ' = μ := by
  refine' Fn.plain (n := 0) (names := []) (us := []) (es := []) ?ho ?hcd ?hb ?hus ?hnd ?hloc ?hcell ?body ?hco ?hgen ?hk
  walk_at "fn_side"
  case hb => intro s vs _ h; match vs, h with | [], _ => exact BindsTo.of_eq rfl
  intro A L ok
  show WS G _ [] μ _ _
  refine WS.cons ?_
  refine WX.ret ?_
  walk_at "ev"
  exact ⟨_, rfl, rfl, rfl⟩
theorem call_signs {n : Nat} {Φ : D → MU → Prop} (hn : 1 ≤ n) (h : Φ (.lst (signsL.map Sg.val)) μ) : Fn G 223 n [] μ Φ := Fn.mono fn_signs hn (by rintro _ _ ⟨rfl, rfl⟩; exact h)
theorem call_others {n : Nat} {Φ : D → MU → Prop} (hn : 1 ≤ n) (h : Φ (.lst (othersL.map othD)) μ) : Fn G 230 n [] μ Φ := Fn.mono fn_others hn (by rintro _ _ ⟨rfl, rfl⟩; exact h)
theorem Gt.map {α : Type} {f : α → D} {l : List α} {i : Nat} {x : α} (h : l[i]? = some x) (hi : i < 2 ^ 60) : Gt G μ (.lst (l.map f)) (.int i) (f x) :=
  Gt.lst (by omega) (by omega) (by rw [Int.toNat_natCast, List.getElem?_map, h]; rfl)
end
section
variable {G : Gl} {μ : MU}
theorem fn_any {bx : Addr} {c : Nat} (hb : Bx μ bx c) (hc : c + 2 < 2 ^ 30) : Fn G 259 2 [.loc bx] μ fun r μ' => ∃ t : Tk, r = tkD t ∧ t.1 ≠ .eof ∧ BxTo μ μ' bx (c + 2) := by
  refine' Fn.plain (n := 1) (names := ["box"]) (us := []) (es := []) ?ho ?hcd ?hb ?hus ?hnd ?hloc ?hcell ?body ?hco ?hgen ?hk
  walk_at "fn_side"
  case hb => intro s vs _ h; match vs, h with | [a], _ => exact BindsTo.of_eq rfl
  intro A L ok
  have hb0 := hb.start
  refine WS.cons (WX.assignSwap (by walk_at "has") (by walk_at "has") ?_)
  walk_at "ev"
  refine call_take 2 hb0 (Nat.le_refl _) (by omega) (by decide) (by decide) ?_
  intro v1 μ1 hv1 hb1
  walk_at "ev"
  refine ⟨_, P2.eqInt, ?_⟩
  walk_at "ev"
  refine call_take 21 hb1 (Nat.le_refl _) (by omega) (by decide) (by decide) ?_
  intro v2 μ2 hv2 hb2
  walk_at "ev"
  refine ⟨_, _, rfl, ?_⟩
  generalize decide ((v1 : Int) = 1) = sp
  refine WS.cons (WX.ite ?_)
  walk_at "ev"
  refine ⟨_, P2.lt, ?_⟩
  by_cases h13 : v2 < 13
  · rw [decide_eq_true (by omega), if_pos rfl]
    obtain ⟨a, e1, e2, e3⟩ := signs_get h13
    refine WS.cons (WX.ret ?_)
    walk_at "ev"
    refine call_signs (Nat.le_refl _) ?_
    walk_at "ev"
    refine ⟨a.val, Gt.map e1 (by omega), ?_⟩
    walk_at "ev"
    refine call_op a sp e2 (Nat.le_refl _) ?_
    exact ⟨_, rfl, (a, sp), rfl, e3, hb2⟩
  · rw [decide_eq_false (by omega), if_neg Bool.false_ne_true]
    refine WS.nil ?_
    obtain ⟨a, e1, e2, e3⟩ := others_get (i := v2 - 13) (by omega)
    refine WS.cons (WX.ret ?_)
    walk_at "ev"
    refine call_others (Nat.le_refl _) ?_
    walk_at "ev"
    have hi : ((v2 : Int) - 13) = ((v2 - 13 : Nat) : Int) := by omega
    rw [hi]
    refine ⟨othD a, Gt.map e1 (by omega), ?_⟩
    walk_at "ev"
    refine ⟨_, P2.addTup (xs := [.str a.kind, a.val]) (ys := [.bool sp]) (by simp [sizeLine]) (by simp) (by simp), ?_⟩
    exact ⟨_, rfl, (a, sp), rfl, e2, hb2⟩
theorem call_any {μ0 : MU} {bx : Addr} {c n : Nat} {Φ : D → MU → Prop} (hb : BxTo μ0 μ bx c) (hn : 2 ≤ n) (hc : c + 2 < 2 ^ 30) (h : ∀ (t : Tk) μ', t.1 ≠ .eof → BxTo μ0 μ' bx (c + 2) → Φ (tkD t) μ') :
    Fn G 259 n [.loc bx] μ Φ := Fn.mono (fn_any hb.bx hc) hn (by rintro _ μ' ⟨t, rfl, ht, hb'⟩; exact h t μ' ht (hb.trans hb'))
def inA : Nat → Nat | 0 => 2 | d + 1 => inA d + 4
def inB : Nat → Nat | 0 => 0 | d + 1 => inB d + 2
def inC : Nat → Nat | 0 => 4 | d + 1 => inC d + 5
theorem bracket {v : Nat} (h : v < 3) : ∃ a b, signsL[v * 2 + 2]? = some a ∧ signsL[v * 2 + 2 + 1]? = some b ∧ a.isOp = true ∧ b.isOp = true ∧ a ≠ .eof ∧ b ≠ .eof := by
  obtain ⟨a, a1, a2, a3⟩ := signs_get (i := v * 2 + 2) (by omega)
  obtain ⟨b, b1, b2, b3⟩ := signs_get (i := v * 2 + 2 + 1) (by omega)
  exact ⟨a, b, a1, b1, a2, b2, a3, b3⟩
theorem fn_inside_step {bx : Addr} (deep : Nat) (rec : ∀ d, deep = d + 1 → ∀ (c : Nat) (μ : MU), Bx μ bx c → c + inC d < 2 ^ 30 → inA d < 2 ^ 20 → Fn G 264 (d + 2) [.loc bx, .int d] μ fun r μ' => ∃ l, r = rowD l ∧ GR (inA d) (inB d) l ∧ BxTo μ μ' bx (c + inC d))
    (c : Nat) (hb : Bx μ bx c) (hc : c + inC deep < 2 ^ 30) (hA : inA deep < 2 ^ 20) : Fn G 264 (deep + 2) [.loc bx, .int deep] μ fun r μ' => ∃ l, r = rowD l ∧ GR (inA deep) (inB deep) l ∧ BxTo μ μ' bx (c + inC deep) := by
  have hb0 := hb.start
  have i1 : 2 ≤ inA deep := by cases deep <;> simp [inA]
  have i2 : 4 ≤ inC deep := by cases deep <;> simp [inC]
  refine' Fn.cells (n := deep + 1) (names := ["box", "deep"]) ?ho ?hcd ?hb ?hnd ?hkind ?hcn ?hcl ?body ?hco ?hgen ?hk
  walk_at "cells_side"
  case hb => intro vs h; match vs, h with | [a, b], _ => rfl
  intro A L ok
  refine WS.cons (WX.assignCompR (μ0 := μ) (bx := bx) (cl := [("box", L + 1)]) (ρ0 := [("box", .loc bx)]) (fun d => ∃ t, d = tkD t ∧ t.1 ≠ .eof ∧ isSL t = false) 2 (c + 1) 1 (by walk_at "has") ?hsw ⟨?clos, ?cell, ?kind, ?names, ?sub, ?nd, ?rho⟩ (by decide) ?h ?turn ?done)
  case hsw => rfl
  walk_at "comp_ok"
  case h =>
    walk_at "ev"
    refine call_take 3 hb0 (by first | exact le_lit rfl | (show 1 ≤ deep + 1; omega)) (by omega) (by decide) (by decide) ?_
    intro v μ1 hv hb1
    walk_at "ev"
    exact ⟨_, Bt.range1, v, by omega, rfl, hb1⟩
  case turn =>
    intro c' μi j hbi hci L2 ok2
    refine ⟨_, Tgt.nameL rfl rfl, RSub.cons rfl .nil, ?_⟩
    walk_at "ev"
    refine call_others (by first | exact le_lit rfl | (show 1 ≤ deep + 1; omega)) ?_
    walk_at "ev"
    refine call_take 7 hbi (by first | exact le_lit rfl | (show 1 ≤ deep + 1; omega)) (by omega) (by decide) (by decide) ?_
    intro v μ2 hv hb2
    obtain ⟨a, e1, e2, e3⟩ := others_get (i := v) (by omega)
    walk_at "ev"
    refine ⟨othD a, Gt.map e1 (by omega), ?_⟩
    walk_at "ev"
    refine ⟨_, P2.addTup (xs := [.str a.kind, a.val]) (ys := [.bool false]) (by simp [sizeLine]) (by simp) (by simp), ?_⟩
    exact ⟨⟨(a, false), rfl, e2, e3 _⟩, hb2⟩
  case done =>
    intro acc μ1 hl hR hb1
    obtain ⟨l, rfl, hl'⟩ := ofTks hR
    have g0 : GR 2 0 l := GR.all 2 hl' (by simpa using hl)
    refine WS.cons (WX.ite (TT.mono (Φ := fun b μ' => (b = false ∨ 0 < deep) ∧ BxTo μ μ' bx (c + 4)) ?t1 ?k1))
    case t1 =>
      walk_at "ev"
      refine ⟨_, P2.gt, ?_⟩
      by_cases h0 : 0 < deep
      · rw [decide_eq_true (by omega), if_pos rfl]
        walk_at "ev"
        refine call_take 3 hb1 (by first | exact le_lit rfl | (show 1 ≤ deep + 1; omega)) (by omega) (by decide) (by decide) ?_
        intro v μ2 hv hb2
        walk_at "ev"
        exact ⟨_, P2.eqInt, .inr h0, hb2.mono⟩
      · rw [decide_eq_false (by omega), if_neg Bool.false_ne_true]
        exact ⟨.inl rfl, hb1.mono⟩
    case k1 =>
      rintro b μ2 ⟨hor, hb2⟩
      cases b with
      | false =>
        rw [if_neg Bool.false_ne_true]
        refine WS.nil ?_
        refine WS.cons (WX.ret ?_)
        walk_at "ev"
        exact ⟨_, rfl, l, rfl, g0.mono, hb2.mono⟩
      | true =>
        rw [if_pos rfl]
        obtain ⟨d, rfl⟩ : ∃ d, deep = d + 1 := by
          rcases hor with q | q
          · cases q
          · exact ⟨deep - 1, by omega⟩
        have hC : inC (d + 1) = inC d + 5 := rfl
        have hA' : inA (d + 1) = inA d + 4 := rfl
        have hB' : inB (d + 1) = inB d + 2 := rfl
        refine WS.cons (WX.assign (by walk_at "has") ?_)
        walk_at "ev"
        refine call_take 3 hb2 (by first | exact le_lit rfl | (show 1 ≤ d + 1 + 1; omega)) (by omega) (by decide) (by decide) ?_
        intro v μ3 hv hb3
        walk_at "ev"
        refine ⟨_, P2.mul (IntMulOk.of_right (by decide)), ?_⟩
        walk_at "ev"
        have hi : ((v : Int) * 2 + 2) = ((v * 2 + 2 : Nat) : Int) := by omega
        rw [hi]
        obtain ⟨a, b, a1, b1, a2, b2, a3, b3⟩ := bracket hv
        refine WS.cons (WX.assign (by walk_at "has") ?_)
        walk_at "ev"
        refine call_signs (by first | exact le_lit rfl | (show 1 ≤ d + 1 + 1; omega)) ?_
        walk_at "ev"
        refine ⟨a.val, Gt.map a1 (by omega), ?_⟩
        walk_at "ev"
        refine call_op1 a a2 (by first | exact le_lit rfl | (show 1 ≤ d + 1 + 1; omega)) ?_
        walk_at "ev"
        have gl := g0.len
        refine ⟨_, P2.addLst (by simp [sizeLine]; omega), ?_⟩
        walk_at "ev"
        have hd1 : (((d + 1 : Nat) : Int) - 1) = (d : Int) := by omega
        rw [hd1]
        refine Fn.mono (rec d rfl (c + 5) μ3 (hb3.mono).bx (by omega) (by omega)) (by first | exact le_lit rfl | (show d + 2 ≤ d + 1 + 1; omega)) ?_
        rintro _ μ4 ⟨l2, rfl, g2, hb4⟩
        have gl2 := g2.len
        refine ⟨_, P2.addLst (by simp [sizeLine]; omega), ?_⟩
        walk_at "ev"
        refine call_signs (by first | exact le_lit rfl | (show 1 ≤ d + 1 + 1; omega)) ?_
        walk_at "ev"
        have hi2 : (((v * 2 + 2 : Nat) : Int) + 1) = ((v * 2 + 2 + 1 : Nat) : Int) := by omega
        rw [hi2]
        refine ⟨b.val, Gt.map b1 (by omega), ?_⟩
        walk_at "ev"
        refine call_op1 b b2 (by first | exact le_lit rfl | (show 1 ≤ d + 1 + 1; omega)) ?_
        walk_at "ev"
        refine ⟨_, P2.addLst (by simp [sizeLine]; omega), ?_⟩
        refine WS.nil ?_
        refine WS.cons (WX.ret ?_)
        walk_at "ev"
        refine ⟨_, rfl, l ++ [(a, false)] ++ l2 ++ [(b, false)], by simp [rowD], ?_, (hb3.trans hb4).mono⟩
        exact (((g0.append (GR.one (t := (a, false)) a3)).append g2).append (GR.one (t := (b, false)) b3)).mono
theorem fn_inside {bx : Addr} : ∀ (deep : Nat) (c : Nat) (μ : MU), Bx μ bx c → c + inC deep < 2 ^ 30 → inA deep < 2 ^ 20 → Fn G 264 (deep + 2) [.loc bx, .int deep] μ fun r μ' => ∃ l, r = rowD l ∧ GR (inA deep) (inB deep) l ∧ BxTo μ μ' bx (c + inC deep)
  | 0, c, μ, hb, hc, hA => fn_inside_step 0 (fun d e => by cases e) c hb hc hA
  | d + 1, c, μ, hb, hc, hA => fn_inside_step (d + 1) (fun d' e => by cases e; exact fn_inside d) c hb hc hA
end
section
variable {G : Gl} {μ : MU}
def tA : Nat → Nat | 0 => 17 | d + 1 => 3 * tA d + 5
def tB : Nat → Nat | 0 => 8 | d + 1 => 3 * tB d + 5
def tC : Nat → Nat | 0 => 23 | d + 1 => 3 * tC d + 3
theorem tA_ge (d : Nat) : 17 ≤ tA d := by induction d with | zero => exact Nat.le_refl _ | succ d ih => simp only [tA]; omega
theorem tB_ge (d : Nat) : 8 ≤ tB d := by induction d with | zero => exact Nat.le_refl _ | succ d ih => simp only [tB]; omega
theorem tC_ge (d : Nat) : 23 ≤ tC d := by induction d with | zero => exact Nat.le_refl _ | succ d ih => simp only [tC]; omega
/-- what a target gives, what a list gives -/
def TgtFn (G : Gl) (bx : Addr) (d : Nat) : Prop := ∀ (c : Nat) (μ : MU), Bx μ bx c → c + tC d < 2 ^ 30 → tA d < 2 ^ 18 → Fn G 271 (2 * d + 4) [.loc bx, .int d] μ fun r μ' => ∃ l, r = rowD l ∧ l ≠ [] ∧ GR (tA d) (tB d) l ∧ BxTo μ μ' bx (c + tC d)
def LstFn (G : Gl) (bx : Addr) (d : Nat) : Prop := ∀ (c : Nat) (μ : MU), Bx μ bx c → c + (3 * tC d + 2) < 2 ^ 30 → tA d < 2 ^ 18 → Fn G 278 (2 * d + 5) [.loc bx, .int d] μ fun r μ' => ∃ l, r = rowD l ∧ l ≠ [] ∧ GR (3 * tA d + 3) (3 * tB d + 3) l ∧ BxTo μ μ' bx (c + (3 * tC d + 2))
theorem fn_list {bx : Addr} {d : Nat} (ht : TgtFn G bx d) : LstFn G bx d := by
  intro c μ hb hc hA
  have hb0 := hb.start
  refine' Fn.plain (n := 2 * d + 4) (names := ["box", "deep"]) (us := []) (es := []) ?ho ?hcd ?hb ?hus ?hnd ?hloc ?hcell ?body ?hco ?hgen ?hk
  walk_at "fn_side"
  case hb => intro s vs _ h; match vs, h with | [a, b], _ => exact BindsTo.of_eq rfl
  intro A L ok
  refine WS.cons (WX.assign (by walk_at "has") ?_)
  walk_at "ev"
  refine Fn.mono (ht c μ hb (by omega) hA) (Nat.le_refl _) ?_
  rintro _ μ1 ⟨l1, rfl, ne1, g1, hb1⟩
  refine WS.cons (WX.forR (S := List Tk) (fun j => [("lap", .int j)]) (fun l => [("found", rowD l), ("box", .loc bx), ("deep", .int d)]) 2
    (fun k i l μi => l ≠ [] ∧ GR (tA d + i * (tA d + 1)) (tB d + i * (tB d + 1)) l ∧ BxTo μ μi bx (c + (tC d + 1 + i * tC d))) (by decide) ?h ?tgt ?turn ?done)
  case h =>
    walk_at "ev"
    refine call_take 3 hb1 (by first | exact le_lit rfl | (show 1 ≤ 2 * d + 4; omega)) (by omega) (by decide) (by decide) ?_
    intro v μ2 hv hb2
    walk_at "ev"
    exact ⟨_, Bt.range1, v, by omega, rfl, l1, .cons rfl (.cons rfl (.cons rfl .nil)), ne1, g1.mono, hb2.mono⟩
  case tgt => intro j ρi; exact Tgt.name (by walk_at "has")
  case turn =>
    rintro k i l μi hk hi ⟨ne, g, hbi⟩
    have hi2 : i ≤ 1 := by omega
    have m1 : i * tC d ≤ tC d := by calc i * tC d ≤ 1 * tC d := Nat.mul_le_mul_right _ hi2
                                     _ = tC d := by omega
    have m2 : i * (tA d + 1) ≤ tA d + 1 := by calc i * (tA d + 1) ≤ 1 * (tA d + 1) := Nat.mul_le_mul_right _ hi2
                                               _ = tA d + 1 := by omega
    have gl := g.len
    refine WS.cons (WX.assign (by walk_at "has") ?_)
    walk_at "ev"
    refine call_op1 .comma rfl (by first | exact le_lit rfl | (show 1 ≤ 2 * d + 4; omega)) ?_
    walk_at "ev"
    refine ⟨_, P2.addLst (by simp [sizeLine]; omega), ?_⟩
    walk_at "ev"
    refine Fn.mono (ht _ μi hbi.bx (by omega) hA) (Nat.le_refl _) ?_
    rintro _ μ2 ⟨l2, rfl, ne2, g2, hb2⟩
    have gl2 := g2.len
    refine ⟨_, P2.addLst (by simp [sizeLine]; omega), ?_⟩
    refine WS.nil ⟨l ++ [(.comma, false)] ++ l2, .cons (by simp [rowD]) (.cons rfl (.cons rfl .nil)), by simp, ?_, (hbi.trans hb2).mono (by rw [Nat.succ_mul]; omega)⟩
    have := (g.append (GR.one (t := (.comma, false)) (by decide))).append g2
    exact this.mono (by rw [Nat.succ_mul]; omega) (by rw [Nat.succ_mul]; omega)
  case done =>
    rintro k l μi ρi hk ⟨ne, g, hbi⟩ hr
    have m1 : k * tC d ≤ 2 * tC d := Nat.mul_le_mul_right _ hk
    have m2 : k * (tA d + 1) ≤ 2 * (tA d + 1) := Nat.mul_le_mul_right _ hk
    have m3 : k * (tB d + 1) ≤ 2 * (tB d + 1) := Nat.mul_le_mul_right _ hk
    have gl := g.len
    refine TF.weak ?_ hr
    refine WS.cons (WX.ret ?_)
    walk_at "ev"
    refine call_op1 .comma rfl (by first | exact le_lit rfl | (show 1 ≤ 2 * d + 4; omega)) ?_
    walk_at "ev"
    refine call_take 4 hbi (by first | exact le_lit rfl | (show 1 ≤ 2 * d + 4; omega)) (by omega) (by decide) (by decide) ?_
    intro v μ2 hv hb2
    walk_at "ev"
    refine ⟨_, P2.eqInt, ?_⟩
    walk_at "ev"
    refine ⟨_, Bt.int, ?_⟩
    cases decide ((v : Int) = 3) with
    | false =>
      refine ⟨_, P2.mulLst (by decide) (by decide) (by decide), ?_⟩
      refine ⟨_, P2.addLst (by simp [sizeLine]; omega), ?_⟩
      exact ⟨_, rfl, l, by simp [rowD], ne, g.mono, hb2.mono⟩
    | true =>
      refine ⟨_, P2.mulLst (by decide) (by decide) (by decide), ?_⟩
      refine ⟨_, P2.addLst (by simp [sizeLine]; omega), ?_⟩
      refine ⟨_, rfl, l ++ [(.comma, false)], by simp [rowD], by simp, ?_, hb2.mono⟩
      exact (g.append (GR.one (t := (.comma, false)) (by decide))).mono
theorem open_get {v : Nat} (h : v = 3 ∨ v = 4) : ∃ a b : Sg, a.isOp = true ∧ b.isOp = true ∧ a ≠ .eof ∧ b ≠ .eof ∧ (∀ μ, Gt G μ (.str "([") (.int ((v : Int) - 3)) a.val) ∧ (∀ μ, Gt G μ (.str ")]") (.int ((v : Int) - 3)) b.val) := by
  rcases h with rfl | rfl
  · exact ⟨.lp, .rp, rfl, rfl, by decide, by decide, fun μ => Gt.str (c := 40) (by decide) (by decide) (by decide), fun μ => Gt.str (c := 41) (by decide) (by decide) (by decide)⟩
  · exact ⟨.lb, .rb, rfl, rfl, by decide, by decide, fun μ => Gt.str (c := 91) (by decide) (by decide) (by decide), fun μ => Gt.str (c := 93) (by decide) (by decide) (by decide)⟩
theorem hop_get {v : Nat} (h : v < 3) : ∃ a : Sg, [Sg.dot, .amp, .col][v]? = some a ∧ a.isOp = true ∧ a ≠ .eof := by
  match v, h with
  | 0, _ => exact ⟨_, rfl, rfl, by decide⟩
  | 1, _ => exact ⟨_, rfl, rfl, by decide⟩
  | 2, _ => exact ⟨_, rfl, rfl, by decide⟩
theorem fn_target_step {bx : Addr} (deep : Nat) (rt : ∀ d, deep = d + 1 → TgtFn G bx d) (rl : ∀ d, deep = d + 1 → LstFn G bx d) : TgtFn G bx deep := by
  intro c μ hb hc hA
  have t1 := tA_ge deep
  have t2 := tB_ge deep
  have t3 := tC_ge deep
  obtain ⟨t, k, n, hbx, ht0, hk0, hkc⟩ := id hb
  refine' Fn.plain (n := 2 * deep + 3) (names := ["box", "deep"]) (us := []) (es := []) ?ho ?hcd ?hb ?hus ?hnd ?hloc ?hcell ?body ?hco ?hgen ?hk
  walk_at "fn_side"
  case hb => intro s vs _ h; match vs, h with | [a, b], _ => exact BindsTo.of_eq rfl
  intro A L ok
  refine WS.cons (WX.augItem ?_)
  walk_at "ev"
  refine ⟨bx, _, 2, _, rfl, rfl, hbx, by decide, by decide, by simp, rfl, ?_⟩
  walk_at "ev"
  refine ⟨_, P2.isub, hbx, ?_⟩
  have hbx' : (μ.set bx (.box [.int t, .int k, .int (n - 1)])) bx = some (.box [.int t, .int k, .int (n - 1)]) := MU.set_self ..
  have hb0 : BxTo μ (μ.set bx (.box [.int t, .int k, .int (n - 1)])) bx c := ⟨t, k, n - 1, rfl, ht0, hk0, hkc⟩
  show WS G _ _ (μ.set bx (.box [.int t, .int k, .int (n - 1)])) _ _
  generalize μ.set bx (.box [.int t, .int k, .int (n - 1)]) = μ1 at hbx' hb0
  refine WS.cons (WX.assign (by walk_at "has") (TT.mono (Φ := fun d μ' => ∃ v : Nat, d = .int v ∧ (v < 4 ∨ (v < 6 ∧ 0 < deep)) ∧ BxTo μ μ' bx (c + 1)) ?t1 ?k1))
  case t1 =>
    refine WE.call rfl (g__law_take _) (k__law_take _) ?_ rfl rfl (by decide)
    refine WL.cons (WE.name (by walk_at "has") rfl ?_) rfl
    refine WL.cons (TT.mono (Φ := fun (d : D) (μ' : MU) => μ' = μ1 ∧ (d = .int 4 ∨ (d = .int 6 ∧ 0 < deep))) ?t2 ?k2) rfl
    case t2 =>
      walk_at "ev"
      refine ⟨_, P2.gt, ?_⟩
      by_cases h0 : 0 < deep
      · rw [decide_eq_true (by omega), if_pos rfl]
        walk_at "ev"
        refine ⟨.int (n - 1), Gt.loc (.inr hbx') (by decide) (by decide) rfl, ?_⟩
        walk_at "ev"
        refine ⟨_, P2.gt, ?_⟩
        cases decide (0 < n - 1) with
        | true => rw [if_pos rfl]; walk_at "ev"; exact ⟨rfl, .inr ⟨rfl, h0⟩⟩
        | false => rw [if_neg Bool.false_ne_true]; walk_at "ev"; exact ⟨rfl, .inl rfl⟩
      · rw [decide_eq_false (by omega), if_neg Bool.false_ne_true, if_neg Bool.false_ne_true]
        walk_at "ev"
        exact ⟨rfl, .inl rfl⟩
    case k2 =>
      rintro d μ2 ⟨rfl, hd⟩
      walk_at "ev"
      rcases hd with rfl | ⟨rfl, h0⟩
      · exact call_take 4 hb0 (by first | exact le_lit rfl | (show 1 ≤ 2 * deep + 3; omega)) (by omega) (by decide) (by decide) fun v μ' hv hb' => ⟨v, rfl, .inl hv, hb'⟩
      · exact call_take 6 hb0 (by first | exact le_lit rfl | (show 1 ≤ 2 * deep + 3; omega)) (by omega) (by decide) (by decide) fun v μ' hv hb' => ⟨v, rfl, .inr ⟨hv, h0⟩, hb'⟩
  case k1 =>
    rintro _ μ2 ⟨v, rfl, hv, hb2⟩
    refine WS.cons (WX.ite ?_)
    walk_at "ev"
    refine ⟨_, P2.eqInt, ?_⟩
    by_cases w4 : v = 4
    · rw [decide_eq_true (by omega), if_pos rfl]
      obtain ⟨d, rfl⟩ : ∃ d, deep = d + 1 := ⟨deep - 1, by omega⟩
      have eA : tA (d + 1) = 3 * tA d + 5 := rfl
      have eB : tB (d + 1) = 3 * tB d + 5 := rfl
      have eC : tC (d + 1) = 3 * tC d + 3 := rfl
      refine WS.cons (WX.ret ?_)
      walk_at "ev"
      refine call_op .star true rfl (by first | exact le_lit rfl | (show 1 ≤ 2 * (d + 1) + 3; omega)) ?_
      walk_at "ev"
      refine call_take 2 hb2 (by first | exact le_lit rfl | (show 1 ≤ 2 * (d + 1) + 3; omega)) (by omega) (by decide) (by decide) ?_
      intro v2 μ3 hv2 hb3
      walk_at "ev"
      refine ⟨_, P2.eqInt, ?_⟩
      cases decide ((v2 : Int) = 0) with
      | true =>
        rw [if_pos rfl]
        walk_at "ev"
        refine ⟨_, P2.addLst (by simp [sizeLine]), ?_⟩
        exact ⟨_, rfl, [(.star, true)], rfl, by simp, (GR.one (by decide)).mono, hb3.mono⟩
      | false =>
        rw [if_neg Bool.false_ne_true]
        walk_at "ev"
        have hd1 : (((d + 1 : Nat) : Int) - 1) = (d : Int) := by omega
        rw [hd1]
        refine Fn.mono (rt d rfl _ μ3 hb3.bx (by omega) (by omega)) (by first | exact le_lit rfl | (show 2 * d + 4 ≤ 2 * (d + 1) + 3; omega)) ?_
        rintro _ μ4 ⟨l, rfl, ne, g, hb4⟩
        have gl := g.len
        refine ⟨_, P2.addLst (by simp [sizeLine]; omega), ?_⟩
        exact ⟨_, rfl, (.star, true) :: l, rfl, by simp, ((GR.one (t := (.star, true)) (by decide)).append g).mono, (hb3.trans hb4).mono⟩
    · rw [decide_eq_false (by omega), if_neg Bool.false_ne_true]
      refine WS.nil ?_
      refine WS.cons (WX.ite ?_)
      walk_at "ev"
      refine ⟨_, P2.eqInt, ?_⟩
      by_cases w5 : v = 5
      · rw [decide_eq_true (by omega), if_pos rfl]
        obtain ⟨d, rfl⟩ : ∃ d, deep = d + 1 := ⟨deep - 1, by omega⟩
        have eA : tA (d + 1) = 3 * tA d + 5 := rfl
        have eB : tB (d + 1) = 3 * tB d + 5 := rfl
        have eC : tC (d + 1) = 3 * tC d + 3 := rfl
        refine WS.cons (WX.ret ?_)
        walk_at "ev"
        refine call_op .lp true rfl (by first | exact le_lit rfl | (show 1 ≤ 2 * (d + 1) + 3; omega)) ?_
        walk_at "ev"
        have hd1 : (((d + 1 : Nat) : Int) - 1) = (d : Int) := by omega
        rw [hd1]
        refine Fn.mono (rl d rfl _ μ2 hb2.bx (by omega) (by omega)) (by first | exact le_lit rfl | (show 2 * d + 5 ≤ 2 * (d + 1) + 3; omega)) ?_
        rintro _ μ4 ⟨l, rfl, ne, g, hb4⟩
        have gl := g.len
        refine ⟨_, P2.addLst (by simp [sizeLine]; omega), ?_⟩
        walk_at "ev"
        refine call_op1 .rp rfl (by first | exact le_lit rfl | (show 1 ≤ 2 * (d + 1) + 3; omega)) ?_
        walk_at "ev"
        refine ⟨_, P2.addLst (by simp [sizeLine]; omega), ?_⟩
        exact ⟨_, rfl, [(.lp, true)] ++ l ++ [(.rp, false)], by simp [rowD], by simp, (((GR.one (t := (.lp, true)) (by decide)).append g).append (GR.one (t := (.rp, false)) (by decide))).mono, (hb2.trans hb4).mono⟩
      · rw [decide_eq_false (by omega), if_neg Bool.false_ne_true]
        refine WS.nil ?_
        refine WS.cons (WX.assign (by walk_at "has") ?_)
        walk_at "ev"
        refine call_others (by first | exact le_lit rfl | (show 1 ≤ 2 * deep + 3; omega)) ?_
        walk_at "ev"
        refine call_take 5 hb2 (by first | exact le_lit rfl | (show 1 ≤ 2 * deep + 3; omega)) (by omega) (by decide) (by decide) ?_
        intro v1 μ3 hv1 hb3
        obtain ⟨a, e1, e2, e3⟩ := others_get (i := v1) (by omega)
        walk_at "ev"
        refine ⟨othD a, Gt.map e1 (by omega), ?_⟩
        walk_at "ev"
        refine ⟨_, P2.addTup (xs := [.str a.kind, a.val]) (ys := [.bool true]) (by simp [sizeLine]) (by simp) (by simp), ?_⟩
        walk_at "ev"
        refine WS.cons (WX.forR (S := List Tk) (fun j => [("lap", .int j)]) (fun l => [("found", rowD l), ("box", .loc bx)]) 2
          (fun k i l μi => l ≠ [] ∧ GR (1 + 8 * i) (4 * i) l ∧ BxTo μ μi bx (c + (3 + 10 * i))) (by decide) ?h ?tgt ?turn ?done)
        case h =>
          walk_at "ev"
          refine call_take 3 hb3 (by first | exact le_lit rfl | (show 1 ≤ 2 * deep + 3; omega)) (by omega) (by decide) (by decide) ?_
          intro v2 μ4 hv2 hb4
          walk_at "ev"
          exact ⟨_, Bt.range1, v2, by omega, rfl, [(a, true)], .cons rfl (.cons rfl .nil), by simp, (GR.one0 e2 (e3 _)).mono, hb4.mono⟩
        case tgt => intro j ρi; exact Tgt.name (by walk_at "has")
        case done =>
          rintro k l μi ρi hk ⟨ne, g, hbi⟩ hr
          refine TF.weak ?_ hr
          refine WS.cons (WX.ret ?_)
          walk_at "ev"
          exact ⟨_, rfl, l, rfl, ne, g.mono, hbi.mono⟩
        case turn =>
          rintro k i l μi hk hi ⟨ne, g, hbi⟩
          have hi2 : i ≤ 1 := by omega
          have gl := g.len
          refine WS.cons (WX.assign (by walk_at "has") ?_)
          walk_at "ev"
          refine call_take 5 hbi (by first | exact le_lit rfl | (show 1 ≤ 2 * deep + 3; omega)) (by omega) (by decide) (by decide) ?_
          intro v2 μ4 hv2 hb4
          refine WS.cons (WX.ite ?_)
          walk_at "ev"
          refine ⟨_, P2.lt, ?_⟩
          by_cases h3 : v2 < 3
          · rw [decide_eq_true (by omega), if_pos rfl]
            obtain ⟨q, q1, q2, q3⟩ := hop_get h3
            refine WS.cons (WX.assign (by walk_at "has") ?_)
            walk_at "ev"
            refine ⟨q.val, Gt.map (f := Sg.val) (l := [.dot, .amp, .col]) q1 (by omega), ?_⟩
            walk_at "ev"
            refine call_op1 q q2 (by first | exact le_lit rfl | (show 1 ≤ 2 * deep + 3; omega)) ?_
            walk_at "ev"
            refine ⟨_, P2.addLst (by simp [sizeLine]; omega), ?_⟩
            refine WS.nil (WS.nil ⟨l ++ [(q, false), (.idm, false)], .cons (by simp [rowD]; rfl) (.cons rfl .nil), by simp, ?_, hb4.mono⟩)
            exact (g.append ((GR.one (t := (q, false)) q3).append (GR.one (t := (.idm, false)) (by decide)))).mono
          · rw [decide_eq_false (by omega), if_neg Bool.false_ne_true]
            obtain ⟨q, r, q1, q2, q3, q4, q5, q6⟩ := open_get (G := G) (v := v2) (by omega)
            refine WS.cons (WX.assign (by walk_at "has") ?_)
            walk_at "ev"
            refine ⟨q.val, q5 _, ?_⟩
            walk_at "ev"
            refine call_op1 q q1 (by first | exact le_lit rfl | (show 1 ≤ 2 * deep + 3; omega)) ?_
            walk_at "ev"
            refine ⟨_, P2.addLst (by simp [sizeLine]; omega), ?_⟩
            walk_at "ev"
            refine Fn.mono (fn_inside 1 _ μ4 hb4.bx (by simp only [inC]; omega) (by decide)) (by first | exact le_lit rfl | (show 1 + 2 ≤ 2 * deep + 3; omega)) ?_
            rintro _ μ5 ⟨l2, rfl, g2, hb5⟩
            have g2' : GR 6 2 l2 := g2
            have hb5' : BxTo μ4 μ5 bx (c + (3 + 10 * i) + 1 + 9) := hb5
            have gl2 := g2'.len
            refine ⟨_, P2.addLst (by simp [sizeLine]; omega), ?_⟩
            walk_at "ev"
            refine ⟨r.val, q6 _, ?_⟩
            walk_at "ev"
            refine call_op1 r q2 (by first | exact le_lit rfl | (show 1 ≤ 2 * deep + 3; omega)) ?_
            walk_at "ev"
            refine ⟨_, P2.addLst (by simp [sizeLine]; omega), ?_⟩
            refine WS.nil (WS.nil ⟨l ++ [(q, false)] ++ l2 ++ [(r, false)], .cons (by simp [rowD]) (.cons rfl .nil), by simp, ?_, (hb4.trans hb5').mono⟩)
            exact (((g.append (GR.one (t := (q, false)) q3)).append g2').append (GR.one (t := (r, false)) q4)).mono
theorem fn_target {bx : Addr} : ∀ d, TgtFn G bx d
  | 0 => fn_target_step 0 (fun d e => by cases e) (fun d e => by cases e)
  | d + 1 => fn_target_step (d + 1) (fun d' e => by cases e; exact fn_target d) (fun d' e => by cases e; exact fn_list (fn_target d))
end
section
variable {G : Gl} {μ : MU}
theorem fn_bent {bx : Addr} {c A B : Nat} (l : List Tk) (ne : l ≠ []) (g : GR A B l) (hA : A < 2 ^ 16) (hb : Bx μ bx c) (hc : c + 4 < 2 ^ 30) :
    Fn G 285 3 [.loc bx, rowD l] μ fun r μ' => ∃ l', r = rowD l' ∧ GR (A + 1) (B + 1) l' ∧ BxTo μ μ' bx (c + 4) := by
  have hb0 := hb.start
  have gl := g.len
  have hpos : 0 < l.length := List.length_pos_iff.mpr ne
  have hz : (l.map tkD).length ≤ sizeLine := by simp [sizeLine]; omega
  refine' Fn.plain (n := 2) (names := ["box", "row"]) (us := []) (es := []) ?ho ?hcd ?hb ?hus ?hnd ?hloc ?hcell ?body ?hco ?hgen ?hk
  walk_at "fn_side"
  case hb => intro s vs _ h; match vs, h with | [a, b], _ => exact BindsTo.of_eq rfl
  intro A' L ok
  refine WS.cons (WX.assignSwap (by walk_at "has") (by walk_at "has") ?_)
  walk_at "ev"
  refine call_take 5 hb0 (Nat.le_of_ble_eq_true rfl) (by omega) (by decide) (by decide) ?_
  intro way μ1 hway hb1
  walk_at "ev"
  refine ⟨_, Bt.len (by rw [List.length_map]; omega), ?_⟩
  walk_at "ev"
  rw [List.length_map]
  refine call_take l.length hb1 (Nat.le_of_ble_eq_true rfl) (by omega) hpos (by omega) ?_
  intro at' μ2 hat hb2
  walk_at "ev"
  refine ⟨_, _, rfl, ?_⟩
  have ht1 : at' ≤ (l.map tkD).length := by rw [List.length_map]; omega
  have ht2 : at' + 1 ≤ (l.map tkD).length := by rw [List.length_map]; omega
  obtain ⟨t, ht⟩ : ∃ t, l[at']? = some t := ⟨_, List.getElem?_eq_getElem hat⟩
  have htn : t.1 ≠ .eof := g.ne t (List.mem_of_getElem? ht)
  have tl : (l.map tkD).take at' = (l.take at').map tkD := List.map_take.symm
  have dl : ∀ j, (l.map tkD).drop j = (l.drop j).map tkD := fun j => List.map_drop.symm
  have z1 : ((l.map tkD).take at').length ≤ 2 ^ 16 := by rw [List.length_take, List.length_map]; omega
  have z2 : ∀ j, ((l.map tkD).drop j).length ≤ 2 ^ 16 := fun j => by rw [List.length_drop, List.length_map]; omega
  -- the three pieces
  refine WS.cons (WX.ite ?_)
  walk_at "ev"
  refine ⟨_, P2.eqInt, ?_⟩
  cases decide ((way : Int) = 0) with
  | true =>
    rw [if_pos rfl]
    refine WS.cons (WX.ret ?_)
    refine WE.bin (WE.bin (WE.sliceTo hz ht1 ?_ ?_ ?_))
    · walk_at "ev"; exact ⟨rfl, rfl⟩
    · walk_at "ev"; exact ⟨rfl, rfl⟩
    walk_at "ev"
    refine call_any hb2 (Nat.le_of_ble_eq_true rfl) (by omega) ?_
    intro u μ3 hu hb3
    walk_at "ev"
    refine ⟨_, P2.addLst (by simp only [sizeLine, List.length_cons, List.length_nil]; omega), ?_⟩
    refine WE.sliceFrom hz ht1 ?_ ?_ ?_
    · walk_at "ev"; exact ⟨rfl, rfl⟩
    · walk_at "ev"; exact ⟨rfl, rfl⟩
    have := z2 at'
    refine ⟨_, P2.addLst (by simp only [sizeLine, List.length_append, List.length_cons, List.length_nil]; omega), ?_⟩
    exact ⟨_, rfl, l.take at' ++ [u] ++ l.drop at', by rw [tl, dl]; simp [rowD], g.put (Nat.le_refl _) hu, hb3.mono⟩
  | false =>
  rw [if_neg Bool.false_ne_true]
  refine WS.nil ?_
  refine WS.cons (WX.ite ?_)
  walk_at "ev"
  refine ⟨_, P2.eqInt, ?_⟩
  cases decide ((way : Int) = 1) with
  | true =>
    rw [if_pos rfl]
    refine WS.cons (WX.ret ?_)
    refine WE.bin (WE.sliceTo hz ht1 ?_ ?_ ?_)
    · walk_at "ev"; exact ⟨rfl, rfl⟩
    · walk_at "ev"; exact ⟨rfl, rfl⟩
    refine WE.sliceFrom hz ht2 ?_ ?_ ?_
    · walk_at "ev"; exact ⟨rfl, rfl⟩
    · walk_at "ev"; exact ⟨rfl, rfl⟩
    have := z2 (at' + 1)
    refine ⟨_, P2.addLst (by simp only [sizeLine]; omega), ?_⟩
    exact ⟨_, rfl, l.take at' ++ l.drop (at' + 1), by rw [tl, dl]; simp [rowD], (g.cut (Nat.le_succ _)).mono, hb2.mono⟩
  | false =>
  rw [if_neg Bool.false_ne_true]
  refine WS.nil ?_
  refine WS.cons (WX.ite ?_)
  walk_at "ev"
  refine ⟨_, P2.eqInt, ?_⟩
  cases decide ((way : Int) = 2) with
  | true =>
    rw [if_pos rfl]
    refine WS.cons (WX.ret ?_)
    refine WE.bin (WE.bin (WE.sliceTo hz ht1 ?_ ?_ ?_))
    · walk_at "ev"; exact ⟨rfl, rfl⟩
    · walk_at "ev"; exact ⟨rfl, rfl⟩
    walk_at "ev"
    refine call_any hb2 (Nat.le_of_ble_eq_true rfl) (by omega) ?_
    intro u μ3 hu hb3
    walk_at "ev"
    refine ⟨_, P2.addLst (by simp only [sizeLine, List.length_cons, List.length_nil]; omega), ?_⟩
    refine WE.sliceFrom hz ht2 ?_ ?_ ?_
    · walk_at "ev"; exact ⟨rfl, rfl⟩
    · walk_at "ev"; exact ⟨rfl, rfl⟩
    have := z2 (at' + 1)
    refine ⟨_, P2.addLst (by simp only [sizeLine, List.length_append, List.length_cons, List.length_nil]; omega), ?_⟩
    exact ⟨_, rfl, l.take at' ++ [u] ++ l.drop (at' + 1), by rw [tl, dl]; simp [rowD], g.put (Nat.le_succ _) hu, hb3.mono⟩
  | false =>
  rw [if_neg Bool.false_ne_true]
  refine WS.nil ?_
  refine WS.cons (WX.ite ?_)
  walk_at "ev"
  refine ⟨_, P2.eqInt, ?_⟩
  cases decide ((way : Int) = 3) with
  | true =>
    rw [if_pos rfl]
    refine WS.cons (WX.ret ?_)
    refine WE.bin (WE.bin (WE.sliceTo hz ht1 ?_ ?_ ?_))
    · walk_at "ev"; exact ⟨rfl, rfl⟩
    · walk_at "ev"; exact ⟨rfl, rfl⟩
    refine WE.list (WL.cons (WE.bin (WE.sliceTup ?_)) (by rfl))
    walk_at "ev"
    refine ⟨tkD t, Gt.map ht (by omega), ?_⟩
    walk_at "ev"
    refine ⟨[.str t.1.kind, t.1.val, .bool t.2], 2, rfl, rfl, by simp, by decide, ?_⟩
    walk_at "ev"
    refine ⟨tkD t, Gt.map ht (by omega), ?_⟩
    walk_at "ev"
    refine ⟨.bool t.2, Gt.tup (by decide) (by decide) rfl, ?_⟩
    refine ⟨_, P1.not, ?_⟩
    walk_at "ev"
    refine ⟨_, P2.addTup (xs := [.str t.1.kind, t.1.val]) (ys := [.bool (!t.2)]) (by simp [sizeLine]) (by simp) (by simp), ?_⟩
    walk_at "ev"
    refine ⟨_, P2.addLst (by simp only [sizeLine, List.length_cons, List.length_nil]; omega), ?_⟩
    refine WE.sliceFrom hz ht2 ?_ ?_ ?_
    · walk_at "ev"; exact ⟨rfl, rfl⟩
    · walk_at "ev"; exact ⟨rfl, rfl⟩
    have := z2 (at' + 1)
    refine ⟨_, P2.addLst (by simp only [sizeLine, List.length_append, List.length_cons, List.length_nil]; omega), ?_⟩
    exact ⟨_, rfl, l.take at' ++ [(t.1, !t.2)] ++ l.drop (at' + 1), by rw [tl, dl]; simp [rowD, tkD], g.put (Nat.le_succ _) htn, hb2.mono⟩
  | false =>
  rw [if_neg Bool.false_ne_true]
  refine WS.nil ?_
  refine WS.cons (WX.ret ?_)
  walk_at "ev"
  exact ⟨_, rfl, l, rfl, g.mono, hb2.mono⟩
end
section
variable {G : Gl} {μ : MU}
theorem ends_get {v : Nat} (h : v < 4) : ∃ l : List Tk, [D.lst [tkD (.eq, true)], .lst [tkD (.eq, false)], .lst [tkD (.eqq, true)], .lst []][v]? = some (rowD l) ∧ GR 1 1 l := by
  match v, h with
  | 0, _ => exact ⟨[(.eq, true)], rfl, GR.one (by decide)⟩
  | 1, _ => exact ⟨[(.eq, false)], rfl, GR.one (by decide)⟩
  | 2, _ => exact ⟨[(.eqq, true)], rfl, GR.one (by decide)⟩
  | 3, _ => exact ⟨[], rfl, GR.nil⟩
theorem fn_row {bx : Addr} {c : Nat} (hb : Bx μ bx c) (hc : c < 2 ^ 28) : Fn G 290 11 [.loc bx] μ fun r μ' => ∃ l, r = rowD l ∧ GR 600 300 l ∧ BxTo μ μ' bx (c + 700) := by
  have hb0 := hb.start
  refine' Fn.cells (n := 10) (names := ["box"]) ?ho ?hcd ?hb ?hnd ?hkind ?hcn ?hcl ?body ?hco ?hgen ?hk
  walk_at "cells_side"
  case hb => intro vs h; match vs, h with | [a], _ => rfl
  intro A L ok
  refine WS.cons (WX.ite ?_)
  walk_at "ev"
  refine call_take 6 hb0 (Nat.le_of_ble_eq_true rfl) (by omega) (by decide) (by decide) ?_
  intro v1 μ1 hv1 hb1
  walk_at "ev"
  refine ⟨_, P2.eqInt, ?_⟩
  cases decide ((v1 : Int) = 5) with
  | true =>
    rw [if_pos rfl]
    refine WS.cons (WX.ret ?_)
    refine WE.compRg (μ0 := μ) (bx := bx) (cl := [("box", L + 1)]) (ρ0 := [("box", .loc bx)]) (fun d => ∃ t, d = tkD t ∧ t.1 ≠ .eof) 10 (c + 2) 2 ⟨?clos, ?cell, ?kind, ?names, ?sub, ?nd, ?rho⟩ (by decide) ?h ?turn ?done
    walk_at "comp_ok"
    case h =>
      walk_at "ev"
      refine call_take 10 hb1 (Nat.le_of_ble_eq_true rfl) (by omega) (by decide) (by decide) ?_
      intro v μ2 hv hb2
      walk_at "ev"
      have e : ((1 : Int) + v) = ((1 + v : Nat) : Int) := by omega
      rw [e]
      exact ⟨_, Bt.range1, 1 + v, by omega, rfl, hb2⟩
    case turn =>
      intro c' μi j hbi hci L2 ok2
      refine ⟨_, Tgt.nameL rfl rfl, RSub.cons rfl .nil, ?_⟩
      walk_at "ev"
      refine call_any hbi (Nat.le_of_ble_eq_true rfl) (by omega) ?_
      intro u μ3 hu hb3
      exact ⟨⟨u, rfl, hu⟩, hb3⟩
    case done =>
      intro acc μ2 hl hR hb2
      obtain ⟨l, rfl, hl'⟩ := ofTks hR
      exact ⟨_, rfl, l, rfl, (GR.allAny 10 hl' (by simpa using hl)).mono, hb2.mono⟩
  | false =>
    rw [if_neg Bool.false_ne_true]
    refine WS.nil ?_
    refine WS.cons (WX.assign (by walk_at "has") ?_)
    walk_at "ev"
    refine Fn.mono (fn_list (fn_target 2) _ μ1 hb1.bx (by simp only [tC]; omega) (by decide)) (Nat.le_of_ble_eq_true rfl) ?_
    rintro _ μ2 ⟨l, rfl, ne, g, hb2⟩
    have g' : GR 522 279 l := g
    have gl := g'.len
    have hb2' : BxTo μ μ2 bx (c + 660) := hb1.trans hb2
    walk_at "ev"
    refine call_op .eq true rfl (Nat.le_of_ble_eq_true rfl) ?_
    walk_at "ev"
    refine call_op1 .eq rfl (Nat.le_of_ble_eq_true rfl) ?_
    walk_at "ev"
    refine call_op .eqq true rfl (Nat.le_of_ble_eq_true rfl) ?_
    walk_at "ev"
    refine call_take 4 hb2' (Nat.le_of_ble_eq_true rfl) (by omega) (by decide) (by decide) ?_
    intro v μ3 hv hb3
    obtain ⟨l2, e2, g2⟩ := ends_get hv
    walk_at "ev"
    refine ⟨rowD l2, Gt.lst (by omega) (by omega) (by rw [Int.toNat_natCast]; exact e2), ?_⟩
    have gl2 := g2.len
    refine ⟨_, P2.addLst (by simp [sizeLine]; omega), ?_⟩
    refine WS.cons (WX.assign (by walk_at "has") ?_)
    walk_at "ev"
    refine ⟨_, P2.addLst (by simp [sizeLine]; omega), ?_⟩
    refine WS.cons (WX.forR (S := List Tk) (fun j => [("lap", .int j)]) (fun l => [("row", rowD l), ("box", .loc bx)]) 2
      (fun k i l μi => GR (524 + i) (281 + i) l ∧ BxTo μ μi bx (c + (662 + 4 * i))) (by decide) ?h ?tgt ?turn ?done)
    case h =>
      walk_at "ev"
      refine call_take 3 hb3 (Nat.le_of_ble_eq_true rfl) (by omega) (by decide) (by decide) ?_
      intro v2 μ4 hv2 hb4
      walk_at "ev"
      refine ⟨_, Bt.range1, v2, by omega, rfl, l ++ l2 ++ [(.int7, true)], .cons (by simp [rowD]; rfl) (.cons rfl .nil), ?_, hb4.mono⟩
      exact ((g'.append g2).append (GR.one (t := (.int7, true)) (by decide))).mono
    case tgt => intro j ρi; exact Tgt.name (by walk_at "has")
    case done =>
      rintro k l μi ρi hk ⟨g, hbi⟩ hr
      refine TF.weak ?_ hr
      refine WS.cons (WX.ret ?_)
      walk_at "ev"
      exact ⟨_, rfl, l, rfl, g.mono, hbi.mono⟩
    case turn =>
      rintro k i l μi hk hi ⟨g, hbi⟩
      refine WS.cons (WX.ite ?_)
      walk_at "ev"
      refine ⟨_, P2.neEmpty, ?_⟩
      cases l with
      | nil =>
        rw [if_neg (by decide)]
        exact WS.nil (WS.nil ⟨[], .cons rfl (.cons rfl .nil), GR.nil, hbi.mono⟩)
      | cons t r =>
        rw [if_pos (show (!(t :: r).isEmpty) = true from rfl)]
        refine WS.cons (WX.assign (by walk_at "has") ?_)
        walk_at "ev"
        refine Fn.mono (fn_bent (t :: r) (by simp) g (by omega) hbi.bx (by omega)) (Nat.le_of_ble_eq_true rfl) ?_
        rintro _ μ5 ⟨l', rfl, g', hb5⟩
        exact WS.nil (WS.nil ⟨l', .cons rfl (.cons rfl .nil), g', (hbi.trans hb5).mono⟩)
theorem fn_box (is : List Int) (hz : is.length ≤ 63) : Fn G 237 1 [.scr (is.map D.int)] μ fun r μ' => ∃ a t n, r = .loc a ∧ μ a = none ∧ μ' = μ.set a (.box [.int t, .int 0, .int n]) ∧ 0 ≤ t := by
  refine' Fn.plain (n := 0) (names := ["script"]) (us := []) (es := []) ?ho ?hcd ?hb ?hus ?hnd ?hloc ?hcell ?body ?hco ?hgen ?hk
  walk_at "fn_side"
  case hb => intro s vs _ h; match vs, h with | [a], _ => exact BindsTo.of_eq rfl
  intro A L ok
  refine WS.cons (WX.assign (by walk_at "has") ?_)
  walk_at "ev"
  have hzs : (is.map D.int).length ≤ sizeLine := by rw [List.length_map]; simp only [sizeLine]; omega
  refine WS.cons (WX.forS (S := Int) (item := fun i _ => (cut (is.map D.int) none (some 24))[i]?) (Val := fun _ => True) (fun d _ => [("cell", d)]) (fun t => [("total", .int t), ("script", .scr (is.map D.int))]) (cut (is.map D.int) none (some 24)).length
    (fun i t μi => i ≤ (cut (is.map D.int) none (some 24)).length ∧ 0 ≤ t ∧ μi = μ) ?h ?val ?tgt ?turn ?done)
  case h =>
    refine WE.slice ?_
    walk_at "ev"
    refine WO.absent (WO.there ?_)
    walk_at "ev"
    exact ⟨is.map D.int, none, some 24, .inr rfl, hzs, trivial, rfl, ItD.lst, 0, .cons rfl (.cons rfl .nil), Nat.zero_le _, Int.le_refl _, rfl⟩
  case val => rintro i t μi ⟨h1, _⟩; exact ⟨trivial, h1⟩
  case tgt => intro i t μi d ρi _ _; exact Tgt.name (by walk_at "has")
  case done =>
    rintro i t μi ρi ⟨_, ht, rfl⟩ _ hr
    refine TF.weak ?_ hr
    refine WS.cons (WX.ret (WE.boxNew ?_))
    walk_at "ev"
    refine ⟨_, Bt.lenS (by rw [List.length_map]; omega), ?_⟩
    walk_at "ev"
    refine ⟨_, P2.gt, ?_⟩
    split
    · walk_at "ev"
      exact fun a ha => ⟨_, rfl, a, t, 12, rfl, ha, rfl, ht⟩
    · walk_at "ev"
      exact fun a ha => ⟨_, rfl, a, t, 5, rfl, ha, rfl, ht⟩
  case turn =>
    rintro i t μi d ⟨hi, ht, rfl⟩ hit
    have hlt : i < (cut (is.map D.int) none (some 24)).length := (List.getElem?_eq_some_iff.mp hit).1
    obtain ⟨z, _, rfl⟩ := List.mem_map.mp (cut_mem (List.mem_of_getElem? hit))
    refine WS.cons (WX.assign (by walk_at "has") ?_)
    walk_at "ev"
    refine ⟨_, P2.mul (IntMulOk.of_right (by decide)), ?_⟩
    walk_at "ev"
    refine ⟨_, Bt.abs, ?_⟩
    refine ⟨_, P2.mul (IntMulOk.of_left (by decide)), ?_⟩
    walk_at "ev"
    refine ⟨_, P2.lt, ?_⟩
    walk_at "ev"
    refine ⟨_, Bt.int, ?_⟩
    walk_at "ev"
    refine ⟨_, P2.pow (by decide) (by decide), ?_⟩
    generalize hM : (10 : Int) ^ (90 : Int).toNat = M
    have hM' : 0 < M := by rw [← hM]; exact Int.pow_pos (by decide)
    refine ⟨_, P2.mod (by omega), ?_⟩
    refine WS.nil ⟨_, .cons rfl (.cons rfl .nil), by omega, ?_, rfl⟩
    rw [Int.fmod_eq_emod_of_nonneg _ (by omega)]
    exact Int.emod_nonneg _ (by omega)
end
theorem Bx.mono {μ bx c c'} (h : Bx μ bx c) (hc : c ≤ c' := by omega) : Bx μ bx c' := let ⟨t, k, n, a, b1, b2, b3⟩ := h; ⟨t, k, n, a, b1, b2, by omega⟩
theorem Bx.set {μ : MU} {bx c a x} (h : Bx μ bx c) (ha : bx ≠ a) : Bx (μ.set a x) bx c := let ⟨t, k, n, e, b⟩ := h; ⟨t, k, n, by rw [MU.set_ne _ _ ha]; exact e, b⟩
theorem Bx.some {μ : MU} {bx c} (h : Bx μ bx c) : μ bx ≠ none := let ⟨t, k, n, e, b⟩ := h; by rw [e]; simp
theorem rho2 {x y : Str} {d e : D} {ρ : Rho} {names : List (Str × NameKind)} (h1 : ρ.lookup x = some d) (h2 : names.lookup x ≠ some .local) (h3 : ρ.lookup y = some e) (h4 : names.lookup y ≠ some .local) : ∀ z q, ([(x, d), (y, e)] : Rho).lookup z = some q → ρ.lookup z = some q ∧ names.lookup z ≠ some .local := fun z q h => by
  rcases lookup_cons_of h with ⟨rfl, rfl⟩ | ⟨_, h⟩
  · exact ⟨h1, h2⟩
  · rcases lookup_cons_of h with ⟨rfl, rfl⟩ | ⟨_, h⟩
    · exact ⟨h3, h4⟩
    · cases h
theorem sub2 {x y : Str} {c e : Addr} {l : List (Str × Addr)} (h : l.lookup x = some c) (h' : l.lookup y = some e) : ∀ z q, (z, q) ∈ [(x, c), (y, e)] → l.lookup z = some q := fun z q hm => by
  rcases List.mem_cons.mp hm with hm | hm
  · cases hm; exact h
  · rcases List.mem_cons.mp hm with hm | hm
    · cases hm; exact h'
    · cases hm
theorem sett_len (ts : List Tk) : ∀ f a, (sett ts f a).length ≤ ts.length + 2
  | 0, a => by simp [sett]
  | f + 1, a => by
    unfold sett
    by_cases h1 : isIn ts a [.star] = true
    · rw [if_pos h1]
      by_cases h2 : isIn ts (a + 1) seps = true
      · rw [if_pos h2]; simp
      · rw [if_neg h2]; exact sett_len ts f (a + 1)
    · rw [if_neg h1]
      exact Nat.le_trans (List.length_filter_le _ _) (one_len ts (f + 1) a)
theorem sett_first (l : List Nat) : ((l.map fun (x : Nat) => D.int x) ++ [.int (-1)])[0]? = some (.int (oI l.head?)) := by cases l <;> rfl
section
variable {G : Gl} {C : Cx} {ρ : Rho} {μ : MU} {pos : Pos}
theorem WE.token {p : Pos} {e : Expr} {rest : List Expr} {Φ : D → MU → Prop} (t : Tk) (hn : 2 ≤ C.n) (hx : C.env.kindOf "Token" = some .globalImplicit)
    (h : WL G C ρ μ pos (e :: rest) fun ds μ1 => ds = [.str t.1.kind, t.1.val, .int 1, .bool t.2, .int 0] ∧ μ1 = μ) (hφ : Φ (tokO t) μ)
    (he : starEach (e :: rest) C.env = (false, eval e C.env) :: starEach rest C.env := by rfl) (hpl : (backTo pos (starEach rest C.env)).any (·.1) = false := by rfl) :
    WE G C ρ μ (.Call (.Name "Token" p) (e :: rest) [] pos) Φ := by
  refine WE.frozenObj (WE.new hx (g_Token _) (k_Token _) c_Token (TT.mono h ?_) he hpl (by decide))
  rintro _ _ ⟨rfl, rfl⟩
  intro a dx h1 h2 hne
  refine ⟨1, by omega, Fn.mono (fn_tokInit hne (MU.set_self ..) (by rw [MU.set_ne _ _ (Ne.symm hne), MU.set_self]) _ _ _ _ _) (Nat.le_refl _) ?_⟩
  rintro _ _ ⟨rfl, rfl⟩
  refine ⟨rfl, a, dx, 212, _, rfl, by rw [MU.set_ne _ _ hne, MU.set_self], MU.set_self .., ?_⟩
  rw [MU.newDel _ _ _ _ h1 h2]; exact hφ
end
section
variable {G : Gl} {μ : MU}
theorem fn_law (is : List Int) (hz : is.length ≤ 63) : Fn G 335 611 [.scr (is.map D.int)] μ fun r μ' => r = .bool true := by
  refine' Fn.cells (n := 610) (names := ["script"]) ?ho ?hcd ?hb ?hnd ?hkind ?hcn ?hcl ?body ?hco ?hgen ?hk
  walk_at "cells_side"
  case hb => intro vs h; match vs, h with | [a], _ => rfl
  intro A L ok
  refine WS.cons (WX.assign (by walk_at "has") ?_)
  walk_at "ev"
  refine Fn.mono (fn_box is hz) (Nat.le_of_ble_eq_true rfl) ?_
  rintro _ _ ⟨bx, t, n, rfl, hbx, rfl, ht⟩
  have hB : Bx (μ.set bx (.box [.int t, .int 0, .int n])) bx 0 := ⟨t, 0, n, MU.set_self .., ht, Int.le_refl _, Int.le_refl _⟩
  show WS G _ _ (μ.set bx (.box [.int t, .int 0, .int n])) _ _
  generalize μ.set bx (.box [.int t, .int 0, .int n]) = μ1 at hB
  refine WS.cons (WX.forR (S := Option (Addr × Nat)) (fun j => [("lap", .int j)]) (fun s => match s with | none => [("box", .loc bx)] | some (rd, k) => [("reader", .loc rd), ("taken", .int k), ("box", .loc bx)]) 2
    (fun k i s μi => 1 ≤ k ∧ Bx μi bx (1000 * i) ∧ match s with | none => i = 0 | some (rd, tk) => ∃ dx all tb last, Rdr μi rd dx all tb tk last) (by decide) ?h ?tgt ?turn ?done)
  case h =>
    walk_at "ev"
    refine ⟨_, Bt.lenS (by rw [List.length_map]; omega), ?_⟩
    walk_at "ev"
    refine ⟨_, P2.gt, ?_⟩
    walk_at "ev"
    refine ⟨_, Bt.int, ?_⟩
    walk_at "ev"
    generalize decide ((1 : Int) < ((is.map D.int).length : Int)) = b
    have e : (1 + (if b = true then (1 : Int) else 0)) = ((1 + b.toNat : Nat) : Int) := by cases b <;> rfl
    rw [e]
    exact ⟨_, Bt.range1, 1 + b.toNat, by cases b <;> decide, rfl, none, .cons rfl .nil, by omega, hB, rfl⟩
  case tgt => intro j ρi; exact Tgt.name (by walk_at "has")
  case done =>
    rintro k s μi ρi hk ⟨h1, hB, hs⟩ hr
    cases s with
    | none => have hs' : k = 0 := hs; omega
    | some p =>
      obtain ⟨rd, tk⟩ := p
      obtain ⟨dx, all, tb, last, hR⟩ := hs
      refine TF.weak ?_ hr
      refine WS.cons (WX.ret ?_)
      walk_at "ev"
      refine WE.attr ?_ (by with_unfolding_all rfl)
      walk_at "ev"
      refine ⟨191, _, _, .inr ⟨rd, dx, rfl, hR.ins, hR.dct⟩, f_scopes, rfl, ?_⟩
      walk_at "ev"
      refine ⟨_, P2.eqScopes, _, rfl, ?_⟩
      rw [if_pos rfl]
      walk_at "ev"
      refine WE.attr ?_ (by with_unfolding_all rfl)
      walk_at "ev"
      refine ⟨191, _, _, .inr ⟨rd, dx, rfl, hR.ins, hR.dct⟩, f_place, rfl, ?_⟩
      walk_at "ev"
      exact ⟨_, P2.eqInt, _, rfl, by simp⟩
  case turn =>
    rintro k i s μi hk hi ⟨h1, hB, hs⟩
    refine TF.weak (ρ' := [("box", .loc bx)]) ?_ (by cases s <;> exact RSub.cons rfl .nil)
    have hi1 : i ≤ 1 := by omega
    refine WS.cons (WX.assignTgt rfl ?_)
    walk_at "ev"
    refine Fn.mono (fn_row hB (by omega)) (Nat.le_of_ble_eq_true rfl) ?_
    rintro _ μ2 ⟨ts, rfl, gts, hb2⟩
    walk_at "ev"
    refine call_take 3 hb2 (Nat.le_of_ble_eq_true rfl) (by omega) (by decide) (by decide) ?_
    intro v μ3 hv hb3
    walk_at "ev"
    refine ⟨_, Tgt.two ⟨by walk_at "has", .inl fun _ h => h⟩ ⟨by walk_at "has", .inl fun _ h => h⟩, ?_⟩
    have gl := gts.len
    refine WS.cons (WX.assignCompRe (μ0 := μi) (bx := bx) (cl := [("box", L + 1)]) (ρ0 := [("box", .loc bx)]) (fun d => ∃ t, d = tkD t ∧ t.1 ≠ .eof) v (1000 * i + 701) 2 (by walk_at "has") ?hsw ⟨?clos, ?cell, ?kind, ?names, ?sub, ?nd, ?rho⟩ (by omega) ?h ?turn ?done)
    case hsw => rfl
    walk_at "comp_ok"
    case h =>
      walk_at "ev"
      exact ⟨_, Bt.range1, rfl, hb3⟩
    case turn =>
      intro c' μk j hbk hck L2 ok2
      refine ⟨_, Tgt.nameL rfl rfl, RSub.cons rfl .nil, ?_⟩
      walk_at "ev"
      refine call_any hbk (Nat.le_of_ble_eq_true rfl) (by omega) ?_
      intro u μ5 hu hb5
      exact ⟨⟨u, rfl, hu⟩, hb5⟩
    case done =>
      intro acc μ4 hl hR hb4
      obtain ⟨hd, rfl, hhd⟩ := ofTks hR
      rw [List.length_map] at hl
      have hB4 : Bx μ4 bx (1000 * i + 710) := hb4.bx.mono
      have hall : (hd ++ ts).length < 2 ^ 20 := by rw [List.length_append]; omega
      have hdrop : (hd ++ ts).drop v = ts := by rw [← hl]; simp
      refine WS.cons (WX.assignCompL (cl := []) (ρ0 := []) (hd ++ ts) tkD (fun _ => true) tokO (by walk_at "has") ?hsw2 ⟨?clos, ?cell, ?kind, ?names, ?sub, ?nd, ?rho⟩ ?h2 (by simp only [sizeLine]; omega) ?turn2 ?done2)
      case hsw2 => rfl
      walk_at "comp_ok"
      case h2 =>
        walk_at "ev"
        refine ⟨_, P2.addLst (by simp [sizeLine]; omega), ?_⟩
        exact ⟨by rw [List.map_append], rfl⟩
      case turn2 =>
        intro x hx L2 ok2
        refine ⟨_, Tgt.three ⟨by walk_at "has", .inr ⟨rfl, rfl⟩⟩ ⟨by walk_at "has", .inr ⟨rfl, rfl⟩⟩ ⟨by walk_at "has", .inr ⟨rfl, rfl⟩⟩, RSub.nil, WT.nil ⟨rfl, rfl, fun _ => ?_⟩⟩
        refine WE.token x (Nat.le_of_ble_eq_true rfl) rfl ?_ ⟨rfl, rfl⟩ rfl rfl
        walk_at "ev"
        exact ⟨rfl, rfl⟩
      case done2 =>
        rw [List.filter_eq_self.mpr fun _ _ => rfl]
        refine WS.cons (WX.assign (by walk_at "has") (WE.new rfl (g_Reader _) (k_Reader _) c_Reader ?_ rfl rfl (by decide)))
        walk_at "ev"
        refine WE.token eofT (Nat.le_of_ble_eq_true rfl) rfl ?_ ?_ rfl rfl
        · walk_at "ev"
          exact ⟨rfl, rfl⟩
        walk_at "ev"
        refine ⟨_, P2.addLst (by simp [sizeLine]; omega), ?_⟩
        walk_at "ev"
        refine WE.dict0 fun tb => ?_
        walk_at "ev"
        intro rd dx hrd hdx hne
        have ef : (hd ++ ts).map tokO ++ [tokO eofT] = (full (hd ++ ts)).map tokO := by simp [full]
        rw [ef]
        refine ⟨1, Nat.le_of_ble_eq_true rfl, Fn.mono (fn_rdInit hne (MU.set_self ..) (by rw [MU.set_ne _ _ (Ne.symm hne), MU.set_self]) (hd ++ ts)) (Nat.le_refl _) ?_⟩
        rintro _ _ ⟨rfl, rfl⟩
        refine ⟨rfl, ?_⟩
        have n1 : bx ≠ rd := by rintro rfl; exact hB4.some hrd
        have n2 : bx ≠ dx := by rintro rfl; exact hB4.some hdx
        have hR0 : Rdr (((μ4.set dx (.dict [])).set rd (.ins 191 dx)).set dx (.dict (rdF (full (hd ++ ts)) tb 0 (tokO (tok (hd ++ ts) 0))))) rd dx (full (hd ++ ts)) tb 0 (tokO (tok (hd ++ ts) 0)) := ⟨by rw [MU.set_ne _ _ hne, MU.set_self], MU.set_self ..⟩
        have hB5 : Bx (((μ4.set dx (.dict [])).set rd (.ins 191 dx)).set dx (.dict (rdF (full (hd ++ ts)) tb 0 (tokO (tok (hd ++ ts) 0))))) bx (1000 * i + 710) := ((hB4.set n2).set n1).set n2
        show WS G _ _ (((μ4.set dx (.dict [])).set rd (.ins 191 dx)).set dx (.dict (rdF (full (hd ++ ts)) tb 0 (tokO (tok (hd ++ ts) 0))))) _ _
        generalize ((μ4.set dx (.dict [])).set rd (.ins 191 dx)).set dx (.dict (rdF (full (hd ++ ts)) tb 0 (tokO (tok (hd ++ ts) 0)))) = μ5 at hR0 hB5
        refine WS.cons (WX.forR (S := Unit) (fun j => [("turn", .int j)]) (fun _ => [("reader", .loc rd), ("row", rowD ts), ("taken", .int v), ("box", .loc bx)]) 2
          (fun k j _ μj => k = v ∧ Bx μj bx (1000 * i + 710) ∧ ∃ t, Rdr μj rd dx (full (hd ++ ts)) tb j (tokO t)) (by decide) ?h3 ?tgt3 ?turn3 ?done3)
        case h3 =>
          walk_at "ev"
          exact ⟨_, Bt.range1, v, by omega, rfl, (), .cons rfl (.cons rfl (.cons rfl (.cons rfl .nil))), rfl, hB5, _, hR0⟩
        case tgt3 => intro j ρi; exact Tgt.name (by walk_at "has")
        case turn3 =>
          rintro k j _ μj hk hj ⟨hkv, hBj, t, hRj⟩
          refine WS.cons (WX.expr (WE.meth0 ?_ (by rfl)))
          walk_at "ev"
          refine ⟨191, _, 86, .inr ⟨rd, dx, rfl, hRj.ins, hRj.dct⟩, m_take, rfl, ?_⟩
          refine Fn.mono (fn_take (hd ++ ts) hall hRj (by rw [List.length_append]; omega) hne) (Nat.le_of_ble_eq_true rfl) ?_
          rintro _ _ ⟨rfl, rfl⟩
          exact WS.nil ⟨(), .cons rfl (.cons rfl (.cons rfl (.cons rfl .nil))), hkv, hBj.set n2, _, by rw [MU.set_ne _ _ hne]; exact hRj.ins, MU.set_self ..⟩
        case done3 =>
          rintro k _ μj ρj hk ⟨hkv, hBj, t, hRk⟩ hr
          refine TF.weak ?_ hr
          have hRj : Rdr μj rd dx (full (hd ++ ts)) tb v (tokO t) := hkv ▸ hRk
          clear hRk hkv hR0 hB5 hB4 hb4 hb3 hb2 hB hr
          have hlen : ts.length < 2 ^ 20 := by omega
          have hcnt : ∀ e, cnt ts e < 301 := fun e => by
            have h0 : cnt ts 0 ≤ 300 := gts.cnt
            exact Nat.lt_of_le_of_lt (Nat.le_trans (cnt_le ts (Nat.zero_le e)) h0) (by decide)
          refine WS.cons (WX.assignTgt rfl (WE.tuple (WL.cons (WE.attrPin ?_ (by with_unfolding_all rfl)) rfl)))
          walk_at "ev"
          refine ⟨rd, dx, 191, 212, _, _, rfl, hRj.ins, hRj.dct, f_last, rfl, ?_⟩
          intro pa
          have hR7 : Rdr (μj.set dx (.dict (putF "last" (.pin pa 212) (rdF (full (hd ++ ts)) tb v (tokO t))))) rd dx (full (hd ++ ts)) tb v (.pin pa 212) := ⟨by rw [MU.set_ne _ _ hne]; exact hRj.ins, MU.set_self ..⟩
          have hB7 : Bx (μj.set dx (.dict (putF "last" (.pin pa 212) (rdF (full (hd ++ ts)) tb v (tokO t))))) bx (1000 * i + 710) := hBj.set n2
          generalize μj.set dx (.dict (putF "last" (.pin pa 212) (rdF (full (hd ++ ts)) tb v (tokO t)))) = μ7 at hR7 hB7 ⊢
          walk_at "ev"
          refine ⟨_, P2.addLst (by simp [sizeLine]; omega), ?_⟩
          walk_at "ev"
          refine ⟨_, Tgt.two ⟨by walk_at "has", .inl fun _ h => h⟩ ⟨by walk_at "has", .inl fun _ h => h⟩, ?_⟩
          have ef2 : D.lst (ts.map tkD ++ [D.tup [.str "eof", .none, .bool false]]) = rowD (full ts) := by simp [rowD, full, tkD, eofT, Sg.kind, Sg.val]
          rw [ef2]
          have pk : ∀ μ', Rdr μ' rd dx (full (hd ++ ts)) tb v (.pin pa 212) → PK G μ' rd ts := fun μ' h => by
            have := pk_of (G := G) (hd ++ ts) hall h (by rw [List.length_append]; omega)
            rw [hdrop] at this; exact this
          refine WS.cons (WX.assign (by walk_at "has") (WE.cmp (WE.compL (cl := [("row", L + 2)]) (ρ0 := [("row", rowD (full ts))]) (many ts 301 0) (fun (e : Nat) => .int e) (fun e => isIn ts e [.eq]) (fun (e : Nat) => .int e) ⟨?clos, ?cell, ?kind, ?names, ?sub, ?nd, ?rho⟩ ?h4 (by have := many_len ts 301 0; simp only [sizeLine]; omega) ?turn4 ?done4) (by with_unfolding_all rfl)))
          walk_at "comp_ok"
          case h4 =>
            walk_at "ev"
            exact Fn.mono (fn_many ts hlen 301 0 μ7 (hcnt 0) (Nat.zero_le _)) (Nat.le_of_ble_eq_true rfl) fun _ _ h => h
          case turn4 =>
            intro e he L2 ok2
            refine ⟨_, Tgt.nameL rfl rfl, RSub.cons rfl .nil, WT.one ?_⟩
            walk_at "ev"
            refine call_is ts e [.eq] hlen (Nat.le_of_ble_eq_true rfl) (by decide) ?_
            walk_at "ev"
            refine ⟨rfl, rfl, fun _ => ?_⟩
            walk_at "ev"
            exact ⟨rfl, rfl⟩
          case done4 =>
            walk_at "ev"
            refine ⟨_, P2.neEmptyI, ?_⟩
            rw [← law_due ts 301 (oEq ts) rfl (fun _ => rfl)]
            refine WS.cons (WX.ite (TT.mono (Φ := fun b μ' => b = false ∧ μ' = μ7) ?t5 ?k5))
            case t5 =>
              walk_at "ev"
              refine Fn.mono (fn_starts ts μ7 (pk _ hR7) gts.ne 301 (hcnt 0)) (Nat.le_of_ble_eq_true rfl) ?_
              rintro _ _ ⟨rfl, rfl⟩
              walk_at "ev"
              refine ⟨_, P2.neBool, ?_⟩
              rw [beq_self_eq_true, Bool.not_true, if_neg Bool.false_ne_true]
              walk_at "ev"
              refine WE.attr ?_ (by with_unfolding_all rfl)
              walk_at "ev"
              refine ⟨191, _, _, .inr ⟨rd, dx, rfl, hR7.ins, hR7.dct⟩, f_place, rfl, ?_⟩
              walk_at "ev"
              refine ⟨_, P2.neInt, ?_⟩
              rw [decide_eq_true rfl, Bool.not_true, if_neg Bool.false_ne_true]
              walk_at "ev"
              refine WE.attr ?_ (by with_unfolding_all rfl)
              walk_at "ev"
              refine ⟨191, _, _, .inr ⟨rd, dx, rfl, hR7.ins, hR7.dct⟩, f_last, rfl, ?_⟩
              walk_at "ev"
              exact ⟨_, P2.neSame, rfl, rfl⟩
            case k5 =>
              rintro _ μ7 ⟨rfl, rfl⟩
              rw [if_neg Bool.false_ne_true]
              refine WS.nil ?_
              refine WS.cons (WX.forL (R := [("row", rowD (full ts)), ("reader", .loc rd), ("taken", .int v), ("box", .loc bx)]) (x := fun d => [("at", d)]) (Pm := fun μ' => Bx μ' bx (1000 * i + 720) ∧ Rdr μ' rd dx (full (hd ++ ts)) tb v (.pin pa 212)) (Pd := fun d => ∃ e : Nat, d = .int e ∧ e ≤ ts.length) ?h6 ?h06 ?tgt6 ?turn6 ?done6)
              case h6 =>
                walk_at "ev"
                refine WE.compRg (μ0 := μ7) (bx := bx) (cl := [("row", L + 2), ("box", L + 1)]) (ρ0 := [("box", .loc bx), ("row", rowD (full ts))]) (fun d => ∃ e : Nat, d = .int e ∧ e ≤ ts.length) 3 (1000 * i + 710) 1 ⟨rfl, of_decide_eq_true rfl, rfl, of_decide_eq_true rfl, sub2 rfl rfl, by simp, rho2 rfl (of_decide_eq_true rfl) rfl (of_decide_eq_true rfl)⟩ (by decide) ?h7 ?turn7 ?done7
                case h7 =>
                  walk_at "ev"
                  exact ⟨_, Bt.range1, 3, by decide, rfl, hB7.start⟩
                case turn7 =>
                  intro c' μk j hbk hck L2 ok2
                  refine ⟨_, Tgt.nameL rfl rfl, RSub.cons rfl (.cons rfl .nil), ?_⟩
                  walk_at "ev"
                  have hfl : (((full ts).map tkD).length : Int) = ((ts.length + 1 : Nat) : Int) := by simp [full]
                  refine ⟨_, Bt.len (by rw [List.length_map, full_len]; omega), ?_⟩
                  walk_at "ev"
                  rw [hfl]
                  refine call_take (ts.length + 1) hbk (Nat.le_of_ble_eq_true rfl) (by omega) (by omega) (by omega) ?_
                  intro u μ9 hu hb9
                  exact ⟨⟨u, rfl, by omega⟩, hb9⟩
                case done7 =>
                  intro acc μ8 hl8 hR8 hb8
                  refine ⟨_, P2.addLst (by simp [sizeLine]; omega), ?_⟩
                  refine ⟨_, rfl, fun e he => ?_, hb8.bx.mono, ?_⟩
                  · rcases List.mem_append.mp he with he | he
                    · simp at he; subst he; exact ⟨0, rfl, Nat.zero_le _⟩
                    · exact hR8 e he
                  · exact ⟨by rw [hb8.ne (Ne.symm n1)]; exact hR7.ins, by rw [hb8.ne (Ne.symm n2)]; exact hR7.dct⟩
              case h06 => exact .cons rfl (.cons rfl (.cons rfl (.cons rfl .nil)))
              case tgt6 => intro d ρi _; exact Tgt.name (by walk_at "has")
              case turn6 =>
                rintro _ μ9 ⟨e, rfl, he⟩ ⟨hB9, hR9⟩
                have pk9 := pk _ hR9
                refine WS.cons (WX.assignSwap (by walk_at "has") (by walk_at "has") ?_)
                walk_at "ev"
                refine Fn.mono (fn_pTs ts μ9 pk9 gts.ne 301 e (hcnt e) he) (Nat.le_of_ble_eq_true rfl) ?_
                rintro _ μ9 ⟨rfl, rfl⟩
                walk_at "ev"
                refine Fn.mono (fn_many ts hlen 301 e μ9 (hcnt e) he) (Nat.le_of_ble_eq_true rfl) ?_
                rintro _ μ9 ⟨rfl, rfl⟩
                walk_at "ev"
                refine ⟨_, _, rfl, ?_⟩
                refine WS.cons (WX.ite (TT.mono (Φ := fun b μ' => b = false ∧ μ' = μ9) ?t8 ?k8))
                case t8 =>
                  walk_at "ev"
                  refine Fn.mono (fn_pT ts μ9 pk9 gts.ne 301 e (hcnt e) he) (Nat.le_of_ble_eq_true rfl) ?_
                  rintro _ μ9 ⟨rfl, rfl⟩
                  walk_at "ev"
                  refine Fn.mono (fn_sett ts hlen 301 e μ9 (hcnt e) he) (Nat.le_of_ble_eq_true rfl) ?_
                  rintro _ μ9 ⟨rfl, rfl⟩
                  walk_at "ev"
                  refine ⟨_, P1.neg, ?_⟩
                  walk_at "ev"
                  have hsl := sett_len ts 301 e
                  refine ⟨_, P2.addLst (by simp [sizeLine]; omega), ?_⟩
                  walk_at "ev"
                  refine ⟨_, Gt.lst (by decide) (by decide) (sett_first _), ?_⟩
                  refine ⟨_, P2.neInt, ?_⟩
                  rw [law_sett, decide_eq_true rfl, Bool.not_true, if_neg Bool.false_ne_true]
                  walk_at "ev"
                  refine ⟨_, P1.neg, ?_⟩
                  refine ⟨_, P2.neInt, ?_⟩
                  cases hp : pTs ts 301 e with
                  | none =>
                    rw [if_neg (by decide)]
                    exact ⟨rfl, rfl⟩
                  | some p =>
                    rw [if_pos (by simp [oI])]
                    walk_at "ev"
                    refine ⟨_, P2.notInLst rfl (intsPy _) (by simp [D.py, PyData.depth]) (any_ints p _), ?_⟩
                    exact ⟨by rw [decide_eq_true (law_in ts 301 e p hp)]; rfl, rfl⟩
                case k8 =>
                  rintro _ μ9 ⟨rfl, rfl⟩
                  rw [if_neg Bool.false_ne_true]
                  refine WS.nil ?_
                  refine WS.cons (WX.ite (TT.mono (Φ := fun b μ' => b = false ∧ μ' = μ9) ?t9 ?k9))
                  case t9 =>
                    walk_at "ev"
                    refine ⟨_, P1.neg, ?_⟩
                    refine ⟨_, P2.eqInt, ?_⟩
                    cases hp : pTs ts 301 e with
                    | some p =>
                      rw [if_neg (by simp [oI])]
                      exact ⟨rfl, rfl⟩
                    | none =>
                      rw [if_pos (by decide)]
                      walk_at "ev"
                      refine WE.compL (cl := [("row", L + 2)]) (ρ0 := [("row", rowD (full ts))]) (many ts 301 e) (fun (e : Nat) => .int e) (fun e => isIn ts e [.eq, .rp]) (fun (e : Nat) => .int e) ⟨?clos, ?cell, ?kind, ?names, ?sub, ?nd, ?rho⟩ ?h10 (by have := many_len ts 301 e; simp only [sizeLine]; omega) ?turn10 ?done10
                      walk_at "comp_ok"
                      case h10 =>
                        walk_at "ev"
                        exact ⟨rfl, rfl⟩
                      case turn10 =>
                        intro e he L2 ok2
                        refine ⟨_, Tgt.nameL rfl rfl, RSub.cons rfl .nil, WT.one ?_⟩
                        walk_at "ev"
                        refine call_is ts e [.eq, .rp] hlen (Nat.le_of_ble_eq_true rfl) (by decide) ?_
                        walk_at "ev"
                        refine ⟨rfl, rfl, fun _ => ?_⟩
                        walk_at "ev"
                        exact ⟨rfl, rfl⟩
                      case done10 =>
                        walk_at "ev"
                        refine ⟨_, P2.neEmptyI, ?_⟩
                        rw [law_none ts 301 e hp]
                        exact ⟨rfl, rfl⟩
                  case k9 =>
                    rintro _ μ9 ⟨rfl, rfl⟩
                    rw [if_neg Bool.false_ne_true]
                    exact WS.nil (WS.nil ⟨rfl, rfl, .cons rfl (.cons rfl (.cons rfl (.cons rfl .nil)))⟩)
              case done6 =>
                rintro ρ9 μ9 ⟨hB9, hR9⟩ hr
                exact WS.nil ⟨some (rd, v), .trans (.cons rfl (.cons rfl (.cons rfl .nil))) hr, h1, hB9.mono, dx, _, tb, _, hR9⟩
end
theorem relInts {g : PH} {vs : List Value} {ns : List Int} (h : IntsAre vs ns) : RelL g vs (ns.map D.int) := by
  induction h with
  | nil => exact .nil
  | cons n t _ ih => exact .cons (.int _ _) ih
end Mine
set_option maxRecDepth 100000 in
set_option maxHeartbeats 8000000 in
theorem PySem.Challenge.cw_nz0040_01_holds : PySem.Challenge.rw_nz0040_01.Holds := by
  refine Mine.topT ?_
  k_fill
  intro w s₀ s₁ mg mb G Y fa o pm cd doc dV kV ho hd hcd hD hmg hg args vals as hpre hlay hrd hwl hlo
  have KX := kIn_of Y
  refine Ground.open G ?_
  intro T B D TE TW
  have hlaw : nsIn (Mine.topT.heap_1 w.params) mainGlobals "law" = some (some (.ref 335)) := by k_is
  have hfa : mg "law" = some (.ref fa) := hmg
  have hfa' := mg_of KX T.g hlaw
  rw [hfa] at hfa'
  injection hfa' with hfa'
  injection hfa' with hfa'
  subst hfa'
  clear hmg hfa
  wrow_args hpre hlay hrd hwl hlo
  all_goals (first | refine callC_kw (enter_call ?_) | refine enter_call ?_ | fail "x")
  rename_i ns hs hlay0 hL1 hr1 hl2 x4 x3 la vs x0 hL ra w1 r0 hI hr hcond hc2
  refine codeAny_mono ?_ (fun _ _ g => GoodW.toG g)
  let Gg : Mine.Gl := ⟨w, s₁.heap, _, _, _, mg, mb, #[], s₁.os, KX, T⟩
  have hlen : ns.length ≤ 63 := by omega
  have hp : Mine.Hp Gg (fun _ => none) (fun a => s₁.heap.get? a) s₁ := ⟨fun a o e => e, fun a o e => e, fun a mo e => (by cases e), hg, rfl⟩
  have hrel : Mine.RelL (fun a => s₁.heap.get? a) [Value.ref la] [Mine.D.scr (ns.map Mine.D.int)] := by
    obtain ⟨o, ho, hc, n, hdt⟩ := hL
    exact .cons (.scr ho hc hdt (by simpa using (Mine.relInts (g := fun a => s₁.heap.get? a) hI).1) fun i v d h1 h2 => (Mine.relInts hI).2 i v d (by simpa using h1) h2) .nil
  refine codeAny_mono (Mine.fn_law (G := Gg) ns hlen callerA s₁ _ _ rfl (by decide) (by decide) hp hrel) ?_
  rintro (e | (_ | _ | _ | v)) s' hr
  · exact hr.elim
  · exact hr.elim
  · exact hr.elim
  · exact hr.elim
  · obtain ⟨g', μ', d, hp', st, rv, rfl⟩ := hr
    cases rv
    refine ⟨.inl ⟨_, .bool true, [], rfl, fun _ => rfl, .bool true, ?_, fun _ => ⟨List.nodup_nil, fun a ha => by cases ha⟩⟩, fun b o h => st.keep b o h rfl (fun z => z), hp'.os, hp'.gens⟩
    wrow_post
