import PyProof.Rows.All
import Wide.All
import OpenK.AllK
import Wide.FinOn
import PySem.Challenge.RW_pq1071_01
set_option Elab.async false
set_option linter.unusedVariables false
set_option linter.unusedSimpArgs false
section
open PySem PySem.W PySem.Calls PyProof.Rows
namespace Mine
abbrev PW : Program := PySem.Challenge.pw_pq1071_01
/-- what the top leaves of the text: all but the module's names -/
def vw : Program := view PW [1, 2, 3, 5, 6, 7, 8, 9, 10, 11, 12, 13, 14, 15, 17, 18, 19, 20, 21, 22, 23, 24, 25, 26, 27, 28, 29, 30, 31]
abbrev gp (x : Str) (v : Value) : Str × Value := (x, v)
def globTab : List (Str × Value) := [gp "WallFault" (.ref 31), gp "Misused" (.ref 44), gp "BadRule" (.ref 56), gp "Counter" (.ref 76), gp "Quota" (.ref 98), gp "Limit" (.ref 119), gp "unit_seconds" (.ref 130), gp "cost_of" (.ref 137), gp "let_by_limit" (.ref 144), gp "let_packet" (.ref 151), gp "make_limit" (.ref 158), gp "make_cell" (.ref 165), gp "cell_statement" (.ref 172), gp "cells_of" (.ref 179), gp "_law_digit" (.ref 186), gp "_law_limit" (.ref 191), gp "_law_worth" (.ref 198), gp "_law_bucket" (.ref 205), gp "_law_length" (.ref 212), gp "_law_rule" (.ref 217), gp "_law_every" (.ref 224), gp "_law_roomy" (.ref 231), gp "_law_tokens" (.ref 238), gp "_law_passed" (.ref 245), gp "_law_stands" (.ref 252), gp "_law_rest" (.ref 259), gp "_law_asked" (.ref 266), gp "_law_rule_holds" (.ref 271), gp "law" (.ref 278), gp "len" (.builtin "len"), gp "min" (.builtin "min"), gp "max" (.builtin "max"), gp "isinstance" (.builtin "isinstance"), gp "sorted" (.builtin "sorted"), gp "list" (.type "list"), gp "range" (.type "range"), gp "bool" (.type "bool")]
/-! what is asked of the written part -/
def fname : Nat → Str
  | 0 => "packets" | 1 => "octets" | 2 => "is_over" | 3 => "used" | 4 => "rate" | 5 => "unit" | 6 => "burst" | 7 => "is_octets" | 8 => "span" | 9 => "most" | 10 => "tokens" | _ => "last"
def okCls (K : Frag) (c x : Nat) : Bool := plainGet K c (fname x) && hasDictIn K c && (findIn K (.ref c) (fname x) == some none) && (takerIn K c (fname x) == some none) && plainOver K c && (findIn K (.ref c) "__setattr__" == some (some (.builtin "object.__setattr__")))
def okIsi (K : Frag) (d c : Nat) : Bool := if d = c then isIn K (.ref d) c else kin_not K d c && plainGet K d "__class__" && hasDictIn K d && (findIn K (.ref d) "__class__" == some (some (.builtin "object.__class__"))) && (specialIn K (.builtin "object.__class__") "__get__" == some (some (.builtin "getset_descriptor.__get__"))) && (takesIn K (.builtin "object.__class__") == some true) && (mroIn K d (.type "object") == some true)
def globOk (K : Frag) (p : Str × Value) : Bool := nsIn K mainGlobals p.1 == some (some p.2) || (nsIn K mainGlobals p.1 == some none && bootBuiltins p.1 == some p.2 && p.1 != "__name__")
def fdAt (K : Frag) (f : Addr) : Option FuncData := match K.lookup f with
  | some ⟨_, _, .func fd, _⟩ => some fd
  | _ => none
def fdOk (K : Frag) (f : Addr) : Bool := match fdAt K f with
  | some fd => (match fd.body with | .stmts _ => true | _ => false) && fd.globals == mainGlobals && fd.closure.isEmpty && fd.builtins == builtinsNs && codeIn K fd.code fd.qualname && isFn K (.ref f) && keepIn K (.ref f)
  | none => false
def mkOk (K : Frag) (p : Addr × Addr) : Bool := makesIn K p.1 && (findIn K (.ref p.1) "__init__" == some (some (.ref p.2))) && keepIn K (.ref p.1)
/-- a def of the text: its place there, its place in the heap -/
def fnTab : List (Nat × Addr) := [(8, 130), (9, 137), (10, 144), (11, 151), (12, 158), (13, 165), (14, 172), (15, 179), (17, 186), (18, 191), (19, 198), (20, 205), (21, 212), (22, 217), (23, 224), (24, 231), (25, 238), (26, 245), (27, 252), (28, 259), (29, 266), (30, 271), (31, 278)]
def clTab : List (Nat × Addr × Addr) := [(5, 76, 73), (6, 98, 95), (7, 119, 116)]
def defIn : Stmt → Option (Arguments × FuncBody × Scope)
  | .FunctionDef _ args body _ _ _ scope _ _ _ => some (args, .stmts body, scope)
  | _ => none
def clsDef : Stmt → Option (Arguments × FuncBody × Scope)
  | .ClassDef _ _ _ (st :: _) _ _ _ _ _ _ _ => defIn st
  | _ => none
def nthS : List Stmt → Nat → Stmt
  | [], _ => .Pass ⟨0, 0, 0, 0⟩
  | s :: _, 0 => s
  | _ :: r, n + 1 => nthS r n
def fnWord (i : Nat) : Option (Arguments × FuncBody × Scope) := if i < 8 then clsDef (nthS PW.main.body i) else defIn (nthS PW.main.body i)
def fnHeap (K : Frag) (f : Addr) : Option (Arguments × FuncBody × Scope) := (fdAt K f).map fun fd => (fd.params, fd.body, fd.scope)
def allFn : List (Nat × Addr) := clTab.map (fun p => (p.1, p.2.2)) ++ fnTab
def ndf (i : Nat) : Nat := match i with | 5 => 2 | 6 => 1 | _ => 0
def dflOk (K : Frag) (f : Addr) (k : Nat) : Bool := match fdAt K f with
  | some fd => fd.kwdefaults == .none && (match fd.defaults with
    | .none => k == 0
    | .ref T => k != 0 && (match K.lookup T with | some ⟨_, _, .seq items _, _⟩ => items.size == k | _ => false)
    | _ => false)
  | none => false
def ktest (K : Frag) : Bool :=
  ([76, 98, 119].all fun c => (List.range 12).all fun x => okCls K c x) && ([76, 98, 119].all fun d => [76, 98].all fun c => okIsi K d c) && (globTab.all fun p => globOk K p) && (allFn.all fun p => fdOk K p.2) && (clTab.all fun p => mkOk K p.2)
  && (allFn.all fun p => dflOk K p.2 (ndf p.1))
def adrs : List Addr := [2, 3, 15, 22, 24, 25, 27, 28, 29, 30, 31, 32, 35, 42, 43, 44, 47, 54, 55, 56, 66, 67, 69, 70, 72, 73, 74, 75, 76, 77, 78, 88, 89, 91, 92, 94, 95, 96, 97, 98, 99, 100, 110, 112, 113, 115, 116, 117, 118, 119, 120, 121, 124, 126, 127, 129, 130, 131, 133, 134, 136, 137, 138, 140, 141, 143, 144, 145, 147, 148, 150, 151, 152, 154, 155, 157, 158, 159, 161, 162, 164, 165, 166, 168, 169, 171, 172, 173, 175, 176, 178, 179, 180, 182, 183, 185, 186, 187, 190, 191, 192, 194, 195, 197, 198, 199, 201, 202, 204, 205, 206, 208, 209, 211, 212, 213, 216, 217, 218, 220, 221, 223, 224, 225, 227, 228, 230, 231, 232, 234, 235, 237, 238, 239, 241, 242, 244, 245, 246, 248, 249, 251, 252, 253, 255, 256, 258, 259, 260, 262, 263, 265, 266, 267, 270, 271, 272, 274, 275, 277, 278]
def fragOf (h : Heap) : List Addr → Frag
  | [] => []
  | a :: as => match h.get? a with
    | some o => (a, o) :: fragOf h as
    | none => fragOf h as
theorem fragOf_in {h : Heap} : ∀ as, (fragOf h as).In h
  | [], a, o, e => by cases e
  | b :: as, a, o, e => by
    unfold fragOf at e
    split at e
    · rename_i o' ho
      rw [List.lookup_cons] at e
      split at e
      · rename_i hb
        cases e
        rw [beq_iff_eq] at hb
        rw [hb]; exact ho
      · exact fragOf_in as a o e
    · exact fragOf_in as a o e
def Kay (K : Frag) : Prop := ktest K = true ∧ (allFn.map fun p => fnHeap K p.2) = allFn.map fun p => fnWord p.1
def hk : Hook where
  α := Bool × List (Option (Arguments × FuncBody × Scope))
  obs s := (ktest (fragOf s.heap adrs), allFn.map fun p => fnHeap (fragOf s.heap adrs) p.2)
  val _ := (true, allFn.map fun p => fnWord p.1)
  says _ h := ∃ K : Frag, K.In h ∧ Kay K
  of _ s e := ⟨fragOf s.heap adrs, fragOf_in _, (Prod.mk.inj e).1, (Prod.mk.inj e).2⟩
  keeps _ _ _ x k := by obtain ⟨K, a, b⟩ := x; exact ⟨K, a.keeps k, b⟩
set_option maxRecDepth 100000 in
set_option maxHeartbeats 0 in
theorem hl : LeftO PW vw [] (fun s => xlAt vw [] s && recOk (RowW.records PySem.Challenge.rw_pq1071_01.row.toRowW) s) hk.obs hk.val 4296 := by
  intro w
  unfold openEnds fencedOpening topFrom
  rw [PySem.W.Fast.te10274390034422433532, PySem.W.Fast.te14289696077712309145, PySem.W.Fast.te14082659384304107361, PySem.W.Fast.te4187177175401517315, PySem.W.Fast.te1435165496053646825, PySem.W.Fast.te14364793385576792824]
  kernel_rfl
end Mine
end
section
open PySem PySem.W PySem.Calls PyProof.Rows
namespace Mine

/-! values of my evaluator, and what bears them in the heap -/
inductive V where
  | none
  | bool (b : Bool)
  | int (i : Int)
  | str (x : Str)
  | raw (v : Value)
  | tup (vs : List V)
  | lst (vs : List V)
  | obj (n : Nat)

inductive OA where
  | inst (c : Addr) (fs : List (Nat × V))
  | lst (vs : List V)
  | dct (kvs : List (Int × V))

abbrev Led := List (Addr × Obj)
abbrev Sto := List OA
abbrev PG : Program := PySem.Challenge.rw_pq1071_01.row.prog
abbrev tupO (vs : List Value) (n : Nat) : Obj := { cls := .type "tuple", data := .seq vs.toArray n }

mutual
inductive VR (fz : Led) (al : List (Addr × Addr)) : Value → V → Prop
  | none : VR fz al Value.none V.none
  | bool (b : Bool) : VR fz al (Value.bool b) (V.bool b)
  | int (i : Int) (t : Tok) : VR fz al (Value.int i t) (V.int i)
  | str (x : Str) (t : Tok) : VR fz al (Value.str x t) (V.str x)
  | raw (v : Value) : VR fz al v (V.raw v)
  | tup {a : Addr} {vs : List Value} {n : Nat} {ds : List V} : (a, tupO vs n) ∈ fz → VRs fz al vs ds → VR fz al (Value.ref a) (V.tup ds)
  | lst {a : Addr} {vs : List Value} {n : Nat} {ds : List V} : (a, listOf vs.toArray n) ∈ fz → VRs fz al vs ds → VR fz al (Value.ref a) (V.lst ds)
  | obj {n : Nat} {a dx : Addr} : al[n]? = some (a, dx) → VR fz al (Value.ref a) (V.obj n)
inductive VRs (fz : Led) (al : List (Addr × Addr)) : List Value → List V → Prop
  | nil : VRs fz al [] []
  | cons {v : Value} {vs : List Value} {d : V} {ds : List V} : VR fz al v d → VRs fz al vs ds → VRs fz al (v :: vs) (d :: ds)
end
theorem get_app {β : Type} {al be : List β} {n : Nat} {x : β} (h : al[n]? = some x) : (al ++ be)[n]? = some x := by
  obtain ⟨hn, _⟩ := List.getElem?_eq_some_iff.mp h
  rw [List.getElem?_append_left hn]; exact h
mutual
theorem VR.mono {fz fz' : Led} {al be : List (Addr × Addr)} (hs : ∀ p ∈ fz, p ∈ fz') : ∀ {v : Value} {d : V}, VR fz al v d → VR fz' (al ++ be) v d
  | _, _, .none => .none
  | _, _, .bool b => .bool b
  | _, _, .int i t => .int i t
  | _, _, .str x t => .str x t
  | _, _, .raw v => .raw v
  | _, _, .tup h r => .tup (hs _ h) (VRs.mono hs r)
  | _, _, .lst h r => .lst (hs _ h) (VRs.mono hs r)
  | _, _, .obj h => .obj (get_app h)
theorem VRs.mono {fz fz' : Led} {al be : List (Addr × Addr)} (hs : ∀ p ∈ fz, p ∈ fz') : ∀ {vs : List Value} {ds : List V}, VRs fz al vs ds → VRs fz' (al ++ be) vs ds
  | _, _, .nil => .nil
  | _, _, .cons h r => .cons (VR.mono hs h) (VRs.mono hs r)
end
section
variable {fz : Led} {al : List (Addr × Addr)} {vs ws : List Value} {ds es : List V} {v : Value} {d : V}
theorem VRs.length (h : VRs fz al vs ds) : vs.length = ds.length := by
  induction vs generalizing ds with
  | nil => cases h; rfl
  | cons v vs ih => cases h with | cons _ r => rw [List.length_cons, List.length_cons, ih r]
theorem VRs.append (h : VRs fz al vs ds) (k : VRs fz al ws es) : VRs fz al (vs ++ ws) (ds ++ es) := by
  induction vs generalizing ds with
  | nil => cases h; exact k
  | cons v vs ih => cases h with | cons h r => exact .cons h (ih r)
theorem VRs.get (h : VRs fz al vs ds) : ∀ {k : Nat} {d : V}, ds[k]? = some d → ∃ v, vs[k]? = some v ∧ VR fz al v d := by
  induction vs generalizing ds with
  | nil => cases h; intro k d hk; simp at hk
  | cons v vs ih =>
    cases h with
    | cons h r =>
      intro k d hk
      cases k with
      | zero => simp at hk; subst hk; exact ⟨v, rfl, h⟩
      | succ k => exact ih r (by simpa using hk)
theorem VRs.drop (h : VRs fz al vs ds) : ∀ k, VRs fz al (vs.drop k) (ds.drop k) := by
  induction vs generalizing ds with
  | nil => cases h; intro k; simp; exact .nil
  | cons v vs ih =>
    cases h with
    | cons h r =>
      intro k
      cases k with
      | zero => exact .cons h r
      | succ k => simpa using ih r k
theorem VRs.take (h : VRs fz al vs ds) : ∀ k, VRs fz al (vs.take k) (ds.take k) := by
  induction vs generalizing ds with
  | nil => cases h; intro k; simp; exact .nil
  | cons v vs ih =>
    cases h with
    | cons h r =>
      intro k
      cases k with
      | zero => simp; exact .nil
      | succ k => simpa using VRs.cons h (ih r k)
end

/-! an object's fields: the entries of its dict; a field's name goes by its number -/
theorem fname_eq {a b : Nat} (ha : a < 12) (hb : b < 12) : (fname a == fname b) = decide (a = b) := by
  have : ∀ a b : Fin 12, (fname a.1 == fname b.1) = decide (a.1 = b.1) := by decide +kernel
  exact this ⟨a, ha⟩ ⟨b, hb⟩
inductive FR (fz : Led) (al : List (Addr × Addr)) : List DictEntry → List (Nat × V) → Prop
  | nil : FR fz al [] []
  | cons {x : Nat} {t : Tok} {hsh : Int} {v : Value} {d : V} {es : List DictEntry} {fs : List (Nat × V)} : x < 12 → VR fz al v d → FR fz al es fs → FR fz al (⟨hsh, .str (fname x) t, v⟩ :: es) ((x, d) :: fs)
theorem FR.mono {fz fz' : Led} {al be : List (Addr × Addr)} (hs : ∀ p ∈ fz, p ∈ fz') {es : List DictEntry} {fs : List (Nat × V)} (h : FR fz al es fs) : FR fz' (al ++ be) es fs := by
  induction h with
  | nil => exact .nil
  | cons hx h _ ih => exact .cons hx (h.mono hs) ih
def putF (name : Nat) (v : V) : List (Nat × V) → List (Nat × V)
  | [] => [(name, v)]
  | (x, u) :: r => if x = name then (x, v) :: r else (x, u) :: putF name v r
def getF (name : Nat) : List (Nat × V) → Option V
  | [] => none
  | (x, u) :: r => if x = name then some u else getF name r
theorem isStr_fname {x name : Nat} {t : Tok} (hx : x < 12) (hn : name < 12) : (Value.str (fname x) t).isStr (fname name) = decide (x = name) := fname_eq hx hn
section
variable {fz : Led} {al : List (Addr × Addr)} {es : List DictEntry} {fs : List (Nat × V)}
theorem FR.put (h : FR fz al es fs) {name : Nat} (hn : name < 12) {hsh : Int} {t : Tok} {v : Value} {d : V} (hv : VR fz al v d) : FR fz al (putL (fname name) hsh (.str (fname name) t) v es) (putF name d fs) := by
  induction h with
  | nil => exact .cons hn hv .nil
  | @cons x t' hsh' v' d' es fs hx12 hx hr ih =>
    unfold putL putF
    dsimp only
    rw [isStr_fname hx12 hn]
    by_cases e : x = name
    · rw [if_pos (decide_eq_true e), if_pos e]; exact .cons hx12 hv hr
    · rw [if_neg (by simpa using e), if_neg e]; exact .cons hx12 hx ih
theorem FR.get (h : FR fz al es fs) {name : Nat} (hn : name < 12) {d : V} (hd : getF name fs = some d) : ∃ v, getL (fname name) es = some (some v) ∧ VR fz al v d := by
  induction h with
  | nil => cases hd
  | @cons x t' hsh' v' d' es fs hx12 hx hr ih =>
    unfold getF at hd
    by_cases e : x = name
    · rw [if_pos e] at hd
      cases hd
      refine ⟨v', ?_, hx⟩
      unfold getL
      rw [List.find?_cons_of_pos (by show (Value.str (fname x) t').isStr (fname name) = true; rw [isStr_fname hx12 hn]; exact decide_eq_true e)]
    · rw [if_neg e] at hd
      obtain ⟨v, hv, hr'⟩ := ih hd
      refine ⟨v, ?_, hr'⟩
      unfold getL at hv ⊢
      rw [List.find?_cons_of_neg (by show ¬ (Value.str (fname x) t').isStr (fname name) = true; rw [isStr_fname hx12 hn]; simpa using e)]
      cases hf : List.find? (fun x => x.key.isStr (fname name)) es with
      | some e => rw [hf] at hv; exact hv
      | none =>
        rw [hf] at hv
        dsimp only at hv
        split at hv <;> cases hv
theorem FR.isSome (h : FR fz al es fs) (name : Str) : (getL name es).isSome = true := by
  have key : ∀ e ∈ es, e.refKey = false := by
    induction h with
    | nil => intro e he; cases he
    | cons _ _ _ ih =>
      intro e he
      rcases List.mem_cons.mp he with rfl | he
      · rfl
      · exact ih e he
  unfold getL
  cases List.find? (fun x => x.key.isStr name) es with
  | some e => rfl
  | none =>
    have : es.any (·.refKey) = false := by
      rw [List.any_eq_false]
      intro e he
      rw [key e he]; exact Bool.false_ne_true
    dsimp only
    rw [this]; rfl
theorem FR.length (h : FR fz al es fs) : es.length = fs.length := by
  induction h with
  | nil => rfl
  | cons _ _ _ ih => rw [List.length_cons, List.length_cons, ih]
end
inductive KR (fz : Led) (al : List (Addr × Addr)) : List (Int × Value) → List (Int × V) → Prop
  | nil : KR fz al [] []
  | cons {k : Int} {v : Value} {d : V} {es : List (Int × Value)} {fs : List (Int × V)} : VR fz al v d → KR fz al es fs → KR fz al ((k, v) :: es) ((k, d) :: fs)
theorem KR.mono {fz fz' : Led} {al be : List (Addr × Addr)} (hs : ∀ p ∈ fz, p ∈ fz') {es : List (Int × Value)} {fs : List (Int × V)} (h : KR fz al es fs) : KR fz' (al ++ be) es fs := by
  induction h with
  | nil => exact .nil
  | cons h _ ih => exact .cons (h.mono hs) ih
section
variable {fz : Led} {al : List (Addr × Addr)} {es : List (Int × Value)} {fs : List (Int × V)}
theorem KR.length (h : KR fz al es fs) : es.length = fs.length := by
  induction h with
  | nil => rfl
  | cons _ _ ih => rw [List.length_cons, List.length_cons, ih]
theorem KR.keys (h : KR fz al es fs) : es.map (·.1) = fs.map (·.1) := by
  induction h with
  | nil => rfl
  | cons _ _ ih => rw [List.map_cons, List.map_cons, ih]
theorem KR.snoc (h : KR fz al es fs) {k : Int} {v : Value} {d : V} (hv : VR fz al v d) : KR fz al (es ++ [(k, v)]) (fs ++ [(k, d)]) := by
  induction h with
  | nil => exact .cons hv .nil
  | cons hx _ ih => exact .cons hx ih
def getK (k : Int) : List (Int × V) → Option V
  | [] => none
  | (x, u) :: r => if x = k then some u else getK k r
theorem KR.get (h : KR fz al es fs) {k : Int} {d : V} (hd : getK k fs = some d) : ∃ v, valueAt es k = some v ∧ VR fz al v d := by
  induction h with
  | nil => cases hd
  | @cons x v' d' es fs hx hr ih =>
    unfold getK at hd
    unfold valueAt
    by_cases e : x = k
    · rw [if_pos e] at hd
      cases hd
      exact ⟨v', by rw [List.find?_cons_of_pos (by simpa using e)]; rfl, hx⟩
    · rw [if_neg e] at hd
      obtain ⟨v, hv, hr'⟩ := ih hd
      exact ⟨v, by rw [List.find?_cons_of_neg (by simpa using e)]; exact hv, hr'⟩
end

/-- o is a dict of int keys, whatever the world -/
def IntDict (w : World) (o : Obj) (kvs : List (Int × Value)) : Prop := o.IsDictOf (intKind PG w) kvs
def OR (w : World) (mu fz : Led) (al : List (Addr × Addr)) (a dx : Addr) : OA → Prop
  | .dct kvs => a = dx ∧ (a == sysModules) = false ∧ ∃ o es, (a, o) ∈ mu ∧ IntDict w o es ∧ KR fz al es kvs
  | .inst c fs => (a, instObj c dx) ∈ fz ∧ ∃ es n, (dx, dictOf es n) ∈ mu ∧ FR fz al es fs
  | .lst vs => a = dx ∧ ∃ ws n, (a, listOf ws.toArray n) ∈ mu ∧ VRs fz al ws vs
structure SR (w : World) (mu fz : Led) (al : List (Addr × Addr)) (sg : Sto) : Prop where
  len : al.length = sg.length
  get : ∀ (n : Nat) (oa : OA), sg[n]? = some oa → ∃ a dx, al[n]? = some (a, dx) ∧ OR w mu fz al a dx oa
  nd : (al.map (·.2)).Nodup
structure St (w : World) (h₀ : Heap) (L : Addr) (h : Heap) (m : Str → Option Value) (mu fz : Led) (al : List (Addr × Addr)) (sg : Sto) : Prop where
  fr : Fr h₀ L h m
  nw : News h₀ L h (mu ++ fz)
  nd : ((mu ++ fz).map (·.1)).Nodup
  sr : SR w mu fz al sg
/-- what an evaluation leaves of the ledger: all of the frozen part; of the other all that is not the store's (nor lv's) -/
structure Ext (lv : List Addr) (mu fz : Led) (al : List (Addr × Addr)) (mu' fz' : Led) (al' : List (Addr × Addr)) : Prop where
  ez : ∀ p ∈ fz, p ∈ fz'
  em : ∀ p ∈ mu, p.1 ∉ al.map (·.2) → p.1 ∉ lv → p ∈ mu'
  ea : ∃ be, al' = al ++ be ∧ ∀ q ∈ be, ∀ p ∈ mu ++ fz, p.1 ≠ q.2
section
variable {lv lv' : List Addr} {mu fz mu' fz' : Led} {al al' : List (Addr × Addr)}
theorem Ext.refl : Ext lv mu fz al mu fz al := ⟨fun _ h => h, fun _ h _ _ => h, [], by simp, by simp⟩
theorem Ext.vr (e : Ext lv mu fz al mu' fz' al') {v : Value} {d : V} (h : VR fz al v d) : VR fz' al' v d := by
  obtain ⟨be, rfl, _⟩ := e.ea
  exact h.mono e.ez
theorem Ext.vrs (e : Ext lv mu fz al mu' fz' al') {v : List Value} {d : List V} (h : VRs fz al v d) : VRs fz' al' v d := by
  obtain ⟨be, rfl, _⟩ := e.ea
  exact h.mono e.ez
theorem Ext.fr (e : Ext lv mu fz al mu' fz' al') {v : List DictEntry} {d : List (Nat × V)} (h : FR fz al v d) : FR fz' al' v d := by
  obtain ⟨be, rfl, _⟩ := e.ea
  exact h.mono e.ez
theorem Ext.kr (e : Ext lv mu fz al mu' fz' al') {v : List (Int × Value)} {d : List (Int × V)} (h : KR fz al v d) : KR fz' al' v d := by
  obtain ⟨be, rfl, _⟩ := e.ea
  exact h.mono e.ez
theorem Ext.wider (e : Ext lv mu fz al mu' fz' al') (h : ∀ a ∈ lv, a ∈ lv') : Ext lv' mu fz al mu' fz' al' :=
  ⟨e.ez, fun p hp h1 h2 => e.em p hp h1 fun q => h2 (h _ q), e.ea⟩
end
theorem Ext.trans {lv : List Addr} {mu fz mu₁ fz₁ mu₂ fz₂ : Led} {al al₁ al₂ : List (Addr × Addr)} (e : Ext lv mu fz al mu₁ fz₁ al₁) (f : Ext lv mu₁ fz₁ al₁ mu₂ fz₂ al₂) (nd : (al₂.map (·.2)).Nodup) (hl : ∀ a ∈ lv, a ∉ al₂.map (·.2)) : Ext lv mu fz al mu₂ fz₂ al₂ := by
  obtain ⟨e1, e2, be, rfl, e3⟩ := e
  obtain ⟨f1, f2, ga, rfl, f3⟩ := f
  refine ⟨fun p hp => f1 p (e1 p hp), fun p hp h1 h2 => ?_, be ++ ga, by rw [List.append_assoc], ?_⟩
  · refine f2 p (e2 p hp h1 h2) (fun h => ?_) h2
    rw [List.map_append] at h
    rcases List.mem_append.mp h with h | h
    · exact h1 h
    · obtain ⟨q, hq, hqe⟩ := List.mem_map.mp h
      exact e3 q hq p (List.mem_append_left _ hp) hqe.symm
  · intro q hq p hp
    rcases List.mem_append.mp hq with hq | hq
    · exact e3 q hq p hp
    · rcases List.mem_append.mp hp with hp | hp
      · by_cases h1 : p.1 ∈ al.map (·.2)
        · intro he
          rw [List.append_assoc, List.map_append, List.map_append] at nd
          have := (List.nodup_append.mp nd).2.2 p.1 h1 q.2 (List.mem_append_right _ (List.mem_map_of_mem hq))
          exact this he
        · by_cases h2 : p.1 ∈ lv
          · intro he
            refine hl p.1 h2 ?_
            rw [List.map_append]
            exact List.mem_append_right _ (he ▸ List.mem_map_of_mem (f := fun x => x.2) hq)
          · exact f3 q hq p (List.mem_append_left _ (e2 p hp h1 h2))
      · exact f3 q hq p (List.mem_append_right _ (e1 p hp))
theorem nodup_key {led : Led} (nd : (led.map (·.1)).Nodup) {a : Addr} {o o' : Obj} (h : (a, o) ∈ led) (h' : (a, o') ∈ led) : o = o' := by
  induction led with
  | nil => cases h
  | cons p r ih =>
    rw [List.map_cons, List.nodup_cons] at nd
    rcases List.mem_cons.mp h with e | h1
    · rcases List.mem_cons.mp h' with e' | h2
      · exact (Prod.mk.inj (e.trans e'.symm)).2
      · exact absurd (List.mem_map_of_mem (f := fun x => x.1) h2) (by rw [← e] at nd; exact nd.1)
    · rcases List.mem_cons.mp h' with e' | h2
      · exact absurd (List.mem_map_of_mem (f := fun x => x.1) h1) (by rw [← e'] at nd; exact nd.1)
      · exact ih nd.2 h1 h2
/-- the object that the store keeps at an address is a list or a dict -/
theorem SR.live {w : World} {mu fz : Led} {al : List (Addr × Addr)} {sg : Sto} (S : SR w mu fz al sg) {b : Addr} (hb : b ∈ al.map (·.2)) : ∃ o, (b, o) ∈ mu ∧ ((∃ es n, o = dictOf es n) ∨ (∃ ws n, o = listOf ws n) ∨ ∃ es, IntDict w o es) := by
  obtain ⟨q, hq, rfl⟩ := List.mem_map.mp hb
  obtain ⟨n, hn, hq'⟩ := List.getElem_of_mem hq
  have hn' : n < sg.length := S.len ▸ hn
  obtain ⟨a, dx, h1, h2⟩ := S.get n sg[n] (List.getElem?_eq_getElem hn')
  have e : q = (a, dx) := by rw [List.getElem?_eq_getElem hn, hq'] at h1; exact Option.some.inj h1
  subst e
  cases hs : sg[n] with
  | inst c fs => rw [hs] at h2; obtain ⟨_, es, k, hm, _⟩ := h2; exact ⟨_, hm, .inl ⟨es, k, rfl⟩⟩
  | lst vs => rw [hs] at h2; obtain ⟨rfl, ws, k, hm, _⟩ := h2; exact ⟨_, hm, .inr (.inl ⟨_, k, rfl⟩)⟩
  | dct kvs => rw [hs] at h2; obtain ⟨rfl, _, o, es, hm, hi, _⟩ := h2; exact ⟨_, hm, .inr (.inr ⟨es, hi⟩)⟩
theorem St.cell_off {w : World} {h₀ h : Heap} {L : Addr} {m : Str → Option Value} {mu fz : Led} {al : List (Addr × Addr)} {sg : Sto} (S : St w h₀ L h m mu fz al sg) {c : Addr} {o : Obj} {cv : Option Value} (hm : (c, o) ∈ mu) (hd : o.data = .cell cv) : c ∉ al.map (·.2) := by
  intro hc
  obtain ⟨o', h1, h2⟩ := S.sr.live hc
  have := nodup_key S.nd (List.mem_append_left fz hm) (List.mem_append_left fz h1)
  subst this
  rcases h2 with ⟨es, n, rfl⟩ | ⟨ws, n, rfl⟩ | ⟨es, h3⟩
  · cases hd
  · cases hd
  · obtain ⟨es', ep, _, h4, _⟩ := h3
    rw [hd] at h4; cases h4
end Mine
end
section
open PySem PySem.W PySem.Calls PyProof.Rows
namespace Mine
/-! a small language of my own, its weakest preconditions as a Lean function -/
inductive Op where
  | add | sub | mul | fdiv | mod
inductive Cm where
  | eq | ne | lt | le | gt | ge
inductive Bi where
  | len | min | max | isi | sorted | list
inductive T where
  | int (i : Int)
  | bool (b : Bool)
  | str (x : Str)
  | none
  | var (n : Nat)
  | glob (v : Value)
  | bin (o : Op) (a b : T)
  | pow (a : Int) (n : Nat)
  | cmp (o : Cm) (a b : T)
  | isn (a : T)
  | not (a : T)
  | and (a b : T)
  | or (a b : T)
  | ite (c a b : T)
  | item (a i : T)
  | slice (a : T) (l u : Nat)
  | call (f : Addr) (as : List T)
  | bi (f : Bi) (as : List T)
  | attr (a : T) (x : Nat)
  | tup (as : List T)
  | lst (as : List T)
  | nlst
  | ndct
  | compR (n : Nat) (lo hi : T) (e : T)
  | compI (n : Nat) (it : T) (e : T)
  | pick (ks : List Str) (ts : List T) (k : T)
abbrev Rho := List (Option V)
inductive S where
  | asn (n : Nat) (e : T)
  | unp (ns : List Nat) (e : T)
  | unpR (ns : List Nat) (e : T)
  | sat (o : T) (x : Nat) (e : T)
  | aug (o : Op) (a : T) (x : Nat) (e : T)
  | sit (d : T) (k : T) (e : T)
  | app (n : Nat) (e : T)
  | ite (c : T) (a b : List S)
  | forr (n : Nat) (lo hi : T) (b : List S)
  | forl (n : Nat) (t : T) (b : List S)
  | pickr (ks : List Str) (ts : List T) (k : T)
  | ret (e : T)
  | sem (P : Rho → Sto → (Option V → Rho → Sto → Prop) → Prop)
  | no

def vget : Rho → Nat → Option V
  | [], _ => .none
  | x :: _, 0 => x
  | _ :: r, n + 1 => vget r n
def vput : Rho → Nat → V → Rho
  | [], 0, v => [some v]
  | [], n + 1, v => .none :: vput [] n v
  | _ :: r, 0, v => some v :: r
  | x :: r, n + 1, v => x :: vput r n v

mutual
def V.py : V → Option PyData
  | .none => some .none
  | .bool b => some (.bool b)
  | .int i => some (.int i)
  | .str x => some (.str x)
  | .raw _ => Option.none
  | .tup vs => (V.pys vs).map .tuple
  | .lst vs => (V.pys vs).map .list
  | .obj _ => Option.none
def V.pys : List V → Option (List PyData)
  | [] => some []
  | v :: vs => match v.py, V.pys vs with
    | some d, some ds => some (d :: ds)
    | _, _ => Option.none
end
def okEq (x : V) : Prop := ∃ d, x.py = some d ∧ SeqAt.shaped d = true
def veq (x y : V) : Bool := match x.py, y.py with
  | some a, some b => PyData.eqv a b
  | _, _ => false

def bop : Op → V → V → (V → Prop) → Prop
  | .add, .int a, .int b, K => K (.int (a + b))
  | .add, .tup a, .tup b, K => (a ≠ [] ∧ b ≠ [] ∧ a.length + b.length ≤ 16384) ∧ K (.tup (a ++ b))
  | .sub, .int a, .int b, K => K (.int (a - b))
  | .mul, .int a, .int b, K => (a.natAbs < 2 ^ 63 ∨ b.natAbs < 2 ^ 63) ∧ K (.int (a * b))
  | .fdiv, .int a, .int b, K => (b ≠ 0 ∧ b.natAbs < 2 ^ 63) ∧ K (.int (a.fdiv b))
  | .mod, .int a, .int b, K => (b ≠ 0) ∧ K (.int (a.fmod b))
  | _, _, _, _ => False
def bcmp : Cm → V → V → (Bool → Prop) → Prop
  | .lt, .int a, .int b, K => K (decide (a < b))
  | .le, .int a, .int b, K => K (decide (a ≤ b))
  | .gt, .int a, .int b, K => K (decide (b < a))
  | .ge, .int a, .int b, K => K (decide (b ≤ a))
  | .eq, .int a, .int b, K => K (decide (a = b))
  | .ne, .int a, .int b, K => K (!decide (a = b))
  | .eq, .str a, .str b, K => K (a == b)
  | .eq, x, y, K => (okEq x ∧ okEq y) ∧ K (veq x y)
  | .ne, x, y, K => (okEq x ∧ okEq y) ∧ K (!veq x y)
  | _, _, _, _ => False
def bitem : V → V → (V → Prop) → Prop
  | .tup vs, .int i, K => 0 ≤ i ∧ vs.length < 2 ^ 30 ∧ (match vs[i.toNat]? with | some v => K v | Option.none => False)
  | .lst vs, .int i, K => 0 ≤ i ∧ vs.length < 2 ^ 30 ∧ (match vs[i.toNat]? with | some v => K v | Option.none => False)
  | _, _, _ => False
def getN (x : Nat) : List (Nat × V) → Option V
  | [] => Option.none
  | (y, v) :: r => if y = x then some v else getN x r
def biC : Bi → List V → Sto → (V → Prop) → Prop
  | .len, [.tup vs], _, K => vs.length < 2 ^ 30 ∧ K (.int vs.length)
  | .len, [.lst vs], _, K => vs.length < 2 ^ 30 ∧ K (.int vs.length)
  | .min, [.int a, .int b], _, K => K (.int (if b < a then b else a))
  | .max, [.int a, .int b], _, K => K (.int (if b > a then b else a))
  | .isi, [.bool _, .raw (.type t)], _, K => t = "bool" ∧ K (.bool true)
  | .list, [.tup vs], _, K => vs.length < 2 ^ 20 ∧ K (.lst vs)
  | _, _, _, _ => False
end Mine
end
section
open PySem PySem.W PySem.Calls PyProof.Rows
namespace Mine
abbrev Orc := Addr → List V → Sto → (V → Sto → Prop) → Prop
def asBool : V → (Bool → Prop) → Prop
  | .bool b, K => K b
  | _, _ => False
def storeItem (sg : Sto) : V → V → (V → Prop) → Prop
  | .obj n, .int k, K => match sg[n]? with
    | some (.dct kvs) => (match getK k kvs with | some v => K v | Option.none => False)
    | _ => False
  | a, i, K => bitem a i K
def biS (sg : Sto) : Bi → List V → (V → Prop) → Prop
  | .sorted, [.obj n], K => match sg[n]? with
    | some (.dct kvs) => ((kvs.map (·.1)).Pairwise (· < ·) ∧ kvs ≠ [] ∧ kvs.length < 64) ∧ K (.lst (kvs.map fun p => .int p.1))
    | _ => False
  | .isi, [.obj n, .raw (.ref c)], K => match sg[n]? with
    | some (.inst c' _) => ((c = 76 ∨ c = 98) ∧ (c' = 76 ∨ c' = 98 ∨ c' = 119)) ∧ K (.bool (decide (c' = c)))
    | _ => False
  | f, as, K => biC f as sg K
def notRaw : V → Prop
  | .raw _ => False
  | _ => True
def sattr (sg : Sto) (x : Nat) : V → (V → Prop) → Prop
  | .obj n, K => match sg[n]? with
    | some (.inst c fs) => ((c = 76 ∨ c = 98 ∨ c = 119) ∧ x < 12) ∧ (match getF x fs with | some v => notRaw v ∧ K v | Option.none => False)
    | _ => False
  | _, _ => False
def isNn : V → (Bool → Prop) → Prop
  | .none, K => K false
  | .obj _, K => K true
  | _, _ => False
def upto (lo : Int) : Nat → List Int
  | 0 => []
  | n + 1 => lo :: upto (lo + 1) n
def rangeOf : V → V → (List Int → Prop) → Prop
  | .int a, .int b, K => (-(2 ^ 31) < a ∧ a < 2 ^ 31 ∧ -(2 ^ 31) < b ∧ b < 2 ^ 31) ∧ K (upto a (b - a).toNat)
  | _, _, _ => False
def itemsOf : V → (List V → Prop) → Prop
  | .tup vs, K => vs.length < 2 ^ 20 ∧ K vs
  | .lst vs, K => vs.length < 2 ^ 20 ∧ K vs
  | _, _ => False
def wpMap (W : V → Sto → (V → Sto → Prop) → Prop) : List V → Sto → (List V → Sto → Prop) → Prop
  | [], sg, K => K [] sg
  | v :: vs, sg, K => W v sg fun d sg' => wpMap W vs sg' fun ds sg'' => K (d :: ds) sg''
mutual
def wpe (O : Orc) : T → Rho → Sto → (V → Sto → Prop) → Prop
  | .int i, _, sg, K => K (.int i) sg
  | .bool b, _, sg, K => K (.bool b) sg
  | .str x, _, sg, K => K (.str x) sg
  | .none, _, sg, K => K .none sg
  | .var n, r, sg, K => match vget r n with | some v => K v sg | Option.none => False
  | .glob v, _, sg, K => K (.raw v) sg
  | .bin o a b, r, sg, K => wpe O a r sg fun x sg1 => wpe O b r sg1 fun y sg2 => bop o x y fun z => K z sg2
  | .pow a n, _, sg, K => K (.int (a ^ n)) sg
  | .cmp o a b, r, sg, K => wpe O a r sg fun x sg1 => wpe O b r sg1 fun y sg2 => bcmp o x y fun z => K (.bool z) sg2
  | .isn a, r, sg, K => wpe O a r sg fun x sg1 => isNn x fun b => K (.bool b) sg1
  | .not a, r, sg, K => wpe O a r sg fun x sg1 => asBool x fun b => K (.bool (!b)) sg1
  | .and _ _, _, _, _ => False
  | .or _ _, _, _, _ => False
  | .ite c a b, r, sg, K => wpt O c r sg fun z sg1 => (z = true → wpe O a r sg1 K) ∧ (z = false → wpe O b r sg1 K)
  | .item a i, r, sg, K => wpe O a r sg fun x sg1 => wpe O i r sg1 fun y sg2 => storeItem sg2 x y fun z => K z sg2
  | .slice a l u, r, sg, K => wpe O a r sg fun x sg1 => match x with
    | .tup vs => (l ≤ u ∧ u ≤ vs.length ∧ vs.length < 2 ^ 20) ∧ K (.tup ((vs.take u).drop l)) sg1
    | _ => False
  | .call f as, r, sg, K => wpes O as r sg fun vs sg1 => O f vs sg1 K
  | .bi f as, r, sg, K => wpes O as r sg fun vs sg1 => biS sg1 f vs fun z => K z sg1
  | .attr a x, r, sg, K => wpe O a r sg fun v sg1 => sattr sg1 x v fun z => K z sg1
  | .tup as, r, sg, K => wpes O as r sg fun vs sg1 => vs.length ≤ 1000 ∧ K (.tup vs) sg1
  | .lst as, r, sg, K => wpes O as r sg fun vs sg1 => vs.length ≤ 1000 ∧ K (.lst vs) sg1
  | .nlst, _, sg, K => K (.obj sg.length) (sg ++ [.lst []])
  | .ndct, _, sg, K => K (.obj sg.length) (sg ++ [.dct []])
  | .compR n lo hi e, r, sg, K => wpe O lo r sg fun x sg1 => wpe O hi r sg1 fun y sg2 => rangeOf x y fun ks =>
      ks.length < 1000 ∧ wpMap (fun v sg' K' => wpe O e (vput r n v) sg' K') (ks.map .int) sg2 fun ds sg' => K (.lst ds) sg'
  | .compI n it e, r, sg, K => wpe O it r sg fun x sg1 => itemsOf x fun vs =>
      vs.length < 1000 ∧ wpMap (fun v sg' K' => wpe O e (vput r n v) sg' K') vs sg1 fun ds sg' => K (.lst ds) sg'
  | .pick ks ts k, r, sg, K => wpes O ts r sg fun vs sg1 => wpe O k r sg1 fun x sg2 => match x with
    | .str s => (match (ks.zip vs).lookup s with | some v => K v sg2 | Option.none => False)
    | _ => False
def wpes (O : Orc) : List T → Rho → Sto → (List V → Sto → Prop) → Prop
  | [], _, sg, K => K [] sg
  | a :: as, r, sg, K => wpe O a r sg fun v sg1 => wpes O as r sg1 fun vs sg2 => K (v :: vs) sg2
def wpt (O : Orc) : T → Rho → Sto → (Bool → Sto → Prop) → Prop
  | .not a, r, sg, K => wpt O a r sg fun b sg1 => K (!b) sg1
  | .and a b, r, sg, K => wpt O a r sg fun c sg1 => (c = true → wpt O b r sg1 K) ∧ (c = false → K false sg1)
  | .or a b, r, sg, K => wpt O a r sg fun c sg1 => (c = true → K true sg1) ∧ (c = false → wpt O b r sg1 K)
  | .cmp o a b, r, sg, K => wpe O a r sg fun x sg1 => wpe O b r sg1 fun y sg2 => bcmp o x y fun z => K z sg2
  | .isn a, r, sg, K => wpe O a r sg fun x sg1 => isNn x fun b => K b sg1
  | .var n, r, sg, K => match vget r n with | some v => asBool v fun b => K b sg | Option.none => False
  | .call f as, r, sg, K => wpes O as r sg fun vs sg1 => O f vs sg1 fun v sg2 => asBool v fun b => K b sg2
  | .bi f as, r, sg, K => wpes O as r sg fun vs sg1 => biS sg1 f vs fun z => asBool z fun b => K b sg1
  | .attr a x, r, sg, K => wpe O a r sg fun v sg1 => sattr sg1 x v fun z => asBool z fun b => K b sg1
  | .item a i, r, sg, K => wpe O a r sg fun x sg1 => wpe O i r sg1 fun y sg2 => storeItem sg2 x y fun z => asBool z fun b => K b sg2
  | _, _, _, _ => False
end
def sset (sg : Sto) (x : Nat) (v : V) : V → (Sto → Prop) → Prop
  | .obj n, K => match sg[n]? with
    | some (.inst c fs) => ((c = 76 ∨ c = 98 ∨ c = 119) ∧ x < 12 ∧ fs.length < 100) ∧ K (sg.set n (.inst c (putF x v fs)))
    | _ => False
  | _, _ => False
def sseti (sg : Sto) (v : V) : V → V → (Sto → Prop) → Prop
  | .obj n, .int k, K => match sg[n]? with
    | some (.dct kvs) => (k ∉ kvs.map (·.1) ∧ kvs.length < 1000) ∧ K (sg.set n (.dct (kvs ++ [(k, v)])))
    | _ => False
  | _, _, _ => False
def sapp (sg : Sto) (v : V) : V → (Sto → Prop) → Prop
  | .obj n, K => match sg[n]? with
    | some (.lst vs) => vs.length < 1000 ∧ K (sg.set n (.lst (vs ++ [v])))
    | _ => False
  | _, _ => False
def vputs : Rho → List Nat → List V → Rho
  | r, n :: ns, v :: vs => vputs (vput r n v) ns vs
  | r, _, _ => r
abbrev Kf := Option V → Rho → Sto → Prop
def wpFor (W : Rho → Sto → Kf → Prop) (n : Nat) : List Int → Rho → Sto → Kf → Prop
  | [], r, sg, K => K Option.none r sg
  | i :: is, r, sg, K => W (vput r n (.int i)) sg fun fl r' sg' => match fl with
    | Option.none => wpFor W n is r' sg' K
    | some v => K (some v) r' sg'
def wpForL (W : Rho → Sto → Kf → Prop) (n : Nat) : List V → Rho → Sto → Kf → Prop
  | [], r, sg, K => K Option.none r sg
  | i :: is, r, sg, K => W (vput r n i) sg fun fl r' sg' => match fl with
    | Option.none => wpForL W n is r' sg' K
    | some v => K (some v) r' sg'
mutual
def wps1 (O : Orc) : S → Rho → Sto → Kf → Prop
  | .asn n e, r, sg, K => wpe O e r sg fun v sg' => K Option.none (vput r n v) sg'
  | .unp ns e, r, sg, K => wpe O e r sg fun v sg' => match v with
    | .lst vs => vs.length = ns.length ∧ K Option.none (vputs r ns vs) sg'
    | _ => False
  | .unpR ns e, r, sg, K => wpe O e r sg fun v sg' => match v with
    | .tup vs => vs.length = ns.length ∧ K Option.none (vputs r ns.reverse vs.reverse) sg'
    | _ => False
  | .sat o x e, r, sg, K => wpe O e r sg fun v sg1 => wpe O o r sg1 fun a sg2 => sset sg2 x v a fun sg3 => K Option.none r sg3
  | .aug op a x e, r, sg, K => wpe O a r sg fun o sg1 => sattr sg1 x o fun old => wpe O e r sg1 fun v sg2 => bop op old v fun z => (match old, v with | .int _, .int _ => True | _, _ => False) ∧ sset sg2 x z o fun sg3 => K Option.none r sg3
  | .sit d k e, r, sg, K => wpe O e r sg fun v sg1 => wpe O d r sg1 fun a sg2 => wpe O k r sg2 fun i sg3 => sseti sg3 v a i fun sg4 => K Option.none r sg4
  | .app n e, r, sg, K => match vget r n with
    | some (.obj k) => (match sg[k]? with
      | some (.lst _) => wpe O e r sg fun v sg1 => sapp sg1 v (.obj k) fun sg2 => K Option.none r sg2
      | _ => False)
    | _ => False
  | .ite c a b, r, sg, K => wpt O c r sg fun z sg1 => (z = true → wps O a r sg1 K) ∧ (z = false → wps O b r sg1 K)
  | .forr n lo hi b, r, sg, K => wpe O lo r sg fun x sg1 => wpe O hi r sg1 fun y sg2 => rangeOf x y fun ks => wpFor (fun r' sg' K' => wps O b r' sg' K') n ks r sg2 K
  | .forl n t b, r, sg, K => wpe O t r sg fun x sg1 => match x with
    | .lst vs => wpForL (fun r' sg' K' => wps O b r' sg' K') n vs r sg1 K
    | _ => False
  | .pickr ks ts k, r, sg, K => wpe O (.pick ks ts k) r sg fun v sg' => ∀ r', K (some v) r' sg'
  | .ret e, r, sg, K => wpe O e r sg fun v sg' => K (some v) r sg'
  | .sem P, r, sg, K => P r sg K
  | .no, _, _, _ => False
def wps (O : Orc) : List S → Rho → Sto → Kf → Prop
  | [], r, sg, K => K Option.none r sg
  | s :: ss, r, sg, K => wps1 O s r sg fun fl r' sg' => match fl with
    | Option.none => wps O ss r' sg' K
    | some v => K (some v) r' sg'
end
end Mine
end
section
open PySem PySem.W PySem.Calls PyProof.Rows
namespace Mine
inductive RV where
  | var (n : Nat)
  | cel (n : Nat)
  | glob (v : Value)
def RV.ix : RV → Option Nat
  | .var n => some n
  | .cel n => some n
  | .glob _ => none
abbrev Rs := List (Str × RV)
/-- the script, below everything -/
structure Scr (l : Addr) (vs : List Value) (ns : List Int) (b : Heap) : Prop where
  lst : b.IsList l vs.toArray
  its : IntsAre vs ns
  fit : ns.length < 2 ^ 62
/-- what stands around: the frames, the text's own objects, the script -/
structure Amb (w : World) (l : Addr) (vs : List Value) (ns : List Int) (A : Around) (h₀ : Heap) (L : Addr) : Prop where
  hh : A.handled = none
  kin : ∃ K : Frag, K.In h₀ ∧ Kay K
  ex : ∃ (mean : ExcName → Option Value) (mg mb : Str → Option Value) (A₀ : Around) (base : Heap) (outer : List Env) (fenv : Env), Below A₀ base outer h₀ ∧ Top vw (looseW vw []) mean mg mb h₀ ∧ A.frames = some (fenv :: outer) ∧ fenv.frame = some L ∧ fenv.scope.kind = .function ∧ Scr l vs ns base
/-- the room that a call wants -/
def Room (A : Around) (dd : Nat) : Prop := A.depth + dd < recursionLimit ∧ A.units + 8 * dd + 64 < cLine
theorem mem_of_lookup {α : Type} : ∀ {l : List (Str × α)} {x : Str} {a : α}, l.lookup x = some a → (x, a) ∈ l
  | [], _, _, h => by simp at h
  | (y, b) :: r, x, a, h => by
    rw [List.lookup_cons] at h
    cases e : x == y with
    | true => rw [e] at h; cases h; rw [beq_iff_eq] at e; subst e; exact .head _
    | false => rw [e] at h; exact .tail _ (mem_of_lookup h)
section
variable {K : Frag}
theorem Kay.parts (k : Kay K) : ([76, 98, 119].all fun c => (List.range 12).all fun x => okCls K c x) = true ∧ ([76, 98, 119].all fun d => [76, 98].all fun c => okIsi K d c) = true ∧ (globTab.all fun p => globOk K p) = true ∧ (allFn.all fun p => fdOk K p.2) = true ∧ (clTab.all fun p => mkOk K p.2) = true ∧ (allFn.all fun p => dflOk K p.2 (ndf p.1)) = true := by
  have h := k.1
  unfold ktest at h
  simp only [Bool.and_eq_true] at h
  obtain ⟨⟨⟨⟨⟨a, b⟩, c⟩, d⟩, e⟩, f⟩ := h
  exact ⟨a, b, c, d, e, f⟩
theorem globs_of (k : Kay K) {x : Str} {v : Value} (h : globTab.lookup x = some v) : nsIn K mainGlobals x = some (some v) ∨ (nsIn K mainGlobals x = some none ∧ bootBuiltins x = some v ∧ x ≠ "__name__") := by
  have a := k.parts.2.2.1
  rw [List.all_eq_true] at a
  have b := a _ (mem_of_lookup h)
  unfold globOk at b
  simp only [Bool.or_eq_true, Bool.and_eq_true, beq_iff_eq, bne_iff_ne] at b
  rcases b with b | ⟨⟨b, c⟩, d⟩
  · exact .inl b
  · exact .inr ⟨b, c, d⟩
def cabl (f : Addr) : Bool := (allFn.any fun p => p.2 == f) || (clTab.any fun p => p.2.1 == f)
theorem cabl_keep (k : Kay K) {f : Addr} (h : cabl f = true) : keepIn K (.ref f) = true := by
  unfold cabl at h
  rw [Bool.or_eq_true, List.any_eq_true, List.any_eq_true] at h
  rcases h with ⟨p, hp, e⟩ | ⟨p, hp, e⟩
  · have a := k.parts.2.2.2.1
    rw [List.all_eq_true] at a
    have b := a p hp
    rw [beq_iff_eq] at e
    rw [e] at b
    unfold fdOk at b
    split at b
    · simp only [Bool.and_eq_true] at b
      exact b.2
    · cases b
  · have a := k.parts.2.2.2.2.1
    rw [List.all_eq_true] at a
    have b := a p hp
    rw [beq_iff_eq] at e
    unfold mkOk at b
    simp only [Bool.and_eq_true] at b
    rw [← e]
    exact b.2
end
structure EnvR (w : World) (L : Addr) (mf m : Str → Option Value) (env : Env) (rs : Rs) (mu fz : Led) (al : List (Addr × Addr)) (r : Rho) : Prop where
  kind : env.scope.kind = .function
  glb : env.globals = mainGlobals
  blt : env.builtins = builtinsNs
  dbg : ∀ x rv, rs.lookup x = some rv → (x == ("__debug__" : Str)) = false
  gv : ∀ x v, rs.lookup x = some (.glob v) → env.kindOf x = some .globalImplicit ∧ globTab.lookup x = some v
  var : ∀ x n v, rs.lookup x = some (.var n) → vget r n = some v → ∃ val, m x = some val ∧ VR fz al val v
  cel : ∀ x n v, rs.lookup x = some (.cel n) → vget r n = some v → ∃ c o val, env.cells.lookup x = some c ∧ (c, o) ∈ mu ∧ o.data = .cell (some val) ∧ VR fz al val v
  kvar : ∀ x n, rs.lookup x = some (.var n) → env.kindOf x = some .local
  kcel : ∀ x n, rs.lookup x = some (.cel n) → env.kindOf x = some .cell ∧ ∃ c o cv, env.cells.lookup x = some c ∧ (c, o) ∈ mu ∧ o.data = .cell cv
  nd : (rs.map (·.1)).Nodup
  inj : ∀ x y u v n, rs.lookup x = some u → rs.lookup y = some v → u.ix = some n → v.ix = some n → x = y
  cinj : ∀ x y n k c, rs.lookup x = some (.cel n) → rs.lookup y = some (.cel k) → env.cells.lookup x = some c → env.cells.lookup y = some c → x = y
  loc : (env.locals = L ∧ m = mf) ∨ (env.locals ∉ al.map (·.2) ∧ ∃ o, (env.locals, o) ∈ mu ∧ ∀ h : Heap, h.get? env.locals = some o → h.Ns env.locals m)
section
variable {w : World} {L : Addr} {mf m : Str → Option Value} {env : Env} {rs : Rs} {mu fz mu' fz' : Led} {al al' : List (Addr × Addr)} {r : Rho} {h₀ h : Heap} {sg : Sto}
theorem EnvR.ext (R : EnvR w L mf m env rs mu fz al r) (S : St w h₀ L h mf mu fz al sg) (e : Ext [] mu fz al mu' fz' al') : EnvR w L mf m env rs mu' fz' al' r where
  kind := R.kind
  glb := R.glb
  blt := R.blt
  dbg := R.dbg
  gv := R.gv
  var := fun x n v h1 h2 => by
    obtain ⟨val, a, b⟩ := R.var x n v h1 h2
    exact ⟨val, a, e.vr b⟩
  cel := fun x n v h1 h2 => by
    obtain ⟨c, o, val, a, b, d, f⟩ := R.cel x n v h1 h2
    exact ⟨c, o, val, a, e.em _ b (S.cell_off b d) (fun q => nomatch q), d, e.vr f⟩
  kvar := R.kvar
  kcel := fun x n h1 => by
    obtain ⟨k, c, o, cv, a, b, d⟩ := R.kcel x n h1
    exact ⟨k, c, o, cv, a, e.em _ b (S.cell_off b d) (fun q => nomatch q), d⟩
  nd := R.nd
  cinj := R.cinj
  inj := R.inj
  loc := by
    rcases R.loc with h | ⟨h1, o, h2, h3⟩
    · exact .inl h
    · have h4 := e.em _ h2 h1 (fun q => nomatch q)
      obtain ⟨be, rfl, h5⟩ := e.ea
      refine .inr ⟨fun q => ?_, o, h4, h3⟩
      rw [List.map_append] at q
      rcases List.mem_append.mp q with q | q
      · exact h1 q
      · obtain ⟨p, hp, he⟩ := List.mem_map.mp q
        exact h5 p hp _ (List.mem_append_left _ h2) he.symm
theorem EnvR.ns (R : EnvR w L mf m env rs mu fz al r) (S : St w h₀ L h mf mu fz al sg) : h.Ns env.locals m := by
  rcases R.loc with ⟨h1, h2⟩ | ⟨_, o, h2, h3⟩
  · rw [h1, h2]; exact S.fr.ns
  · exact h3 h (S.nw _ (List.mem_append_left _ h2)).1
end
abbrev Fa : Value → Shared → Prop := fun _ _ => False
/-- an expression's tree bears the small term's weakest precondition -/
def SE (w : World) (l : Addr) (vs : List Value) (ns : List Int) (dd : Nat) (O : Orc) (rs : Rs) (e : Expr) (t : T) : Prop :=
  ∀ (A : Around) (h₀ : Heap) (L : Addr) (mf m : Str → Option Value) (env : Env) (s : Shared) (mu fz : Led) (al : List (Addr × Addr)) (r : Rho) (sg : Sto) (K : V → Sto → Prop) (Q : Value → Shared → Prop),
    Amb w l vs ns A h₀ L → Room A dd → St w h₀ L s.heap mf mu fz al sg → EnvR w L mf m env rs mu fz al r → wpe O t r sg K →
    (∀ val h' tk' mu' fz' al' v sg', K v sg' → St w h₀ L h' mf mu' fz' al' sg' → Ext [] mu fz al mu' fz' al' → VR fz' al' val v → Q val { s with heap := h', toks := tk' }) →
    wpAny (model PG w) A (eval e env) Q Fa s
def SEs (w : World) (l : Addr) (vs : List Value) (ns : List Int) (dd : Nat) (O : Orc) (rs : Rs) (es : List Expr) (ts : List T) : Prop :=
  ∀ (A : Around) (h₀ : Heap) (L : Addr) (mf m : Str → Option Value) (env : Env) (s : Shared) (mu fz : Led) (al : List (Addr × Addr)) (r : Rho) (sg : Sto) (K : List V → Sto → Prop) (Q : List Value → Shared → Prop) (pos : Pos),
    Amb w l vs ns A h₀ L → Room A dd → St w h₀ L s.heap mf mu fz al sg → EnvR w L mf m env rs mu fz al r → wpes O ts r sg K →
    (∀ val h' tk' mu' fz' al' v sg', K v sg' → St w h₀ L h' mf mu' fz' al' sg' → Ext [] mu fz al mu' fz' al' → VRs fz' al' val v → Q val { s with heap := h', toks := tk' }) →
    wpAny (model PG w) A (spliced (backTo pos (starEach es env))) Q Fa s
/-- a test's tree -/
def SB (w : World) (l : Addr) (vs : List Value) (ns : List Int) (dd : Nat) (O : Orc) (rs : Rs) (e : Expr) (t : T) : Prop :=
  ∀ (A : Around) (h₀ : Heap) (L : Addr) (mf m : Str → Option Value) (env : Env) (s : Shared) (mu fz : Led) (al : List (Addr × Addr)) (r : Rho) (sg : Sto) (K : Bool → Sto → Prop) (Q : Bool → Shared → Prop),
    Amb w l vs ns A h₀ L → Room A dd → St w h₀ L s.heap mf mu fz al sg → EnvR w L mf m env rs mu fz al r → wpt O t r sg K →
    (∀ b h' tk' mu' fz' al' sg', K b sg' → St w h₀ L h' mf mu' fz' al' sg' → Ext [] mu fz al mu' fz' al' → Q b { s with heap := h', toks := tk' }) →
    wpAny (model PG w) A (isTrue e env (eval e env)) Q Fa s
/-- the oracle tells the truth of the calls -/
def OrcOK (w : World) (l : Addr) (vs : List Value) (ns : List Int) (dd : Nat) (O : Orc) : Prop :=
  ∀ (f : Addr) (as : List V) (sg : Sto) (K : V → Sto → Prop), O f as sg K → ∀ (A : Around) (h₀ : Heap) (L : Addr) (m : Str → Option Value) (s : Shared) (mu fz : Led) (al : List (Addr × Addr)) (vals : List Value) (Q : Value → Shared → Prop),
    Amb w l vs ns A h₀ L → Room A dd → St w h₀ L s.heap m mu fz al sg → VRs fz al vals as →
    (∀ val h' tk' mu' fz' al' v sg', K v sg' → St w h₀ L h' m mu' fz' al' sg' → Ext [] mu fz al mu' fz' al' → VR fz' al' val v → Q val { s with heap := h', toks := tk' }) →
    wpAny (model PG w) A (call (.ref f) vals) Q Fa s
section
variable {w : World} {l : Addr} {vs : List Value} {ns : List Int} {dd : Nat} {O : Orc} {rs : Rs}
theorem Ext.trans0 {w : World} {h₀ h : Heap} {L : Addr} {m : Str → Option Value} {sg : Sto} {mu fz mu₁ fz₁ mu₂ fz₂ : Led} {al al₁ al₂ : List (Addr × Addr)} (e : Ext [] mu fz al mu₁ fz₁ al₁) (f : Ext [] mu₁ fz₁ al₁ mu₂ fz₂ al₂) (S : St w h₀ L h m mu₂ fz₂ al₂ sg) : Ext [] mu fz al mu₂ fz₂ al₂ :=
  e.trans f S.sr.nd (fun _ q => nomatch q)
theorem se_int {i : Int} {k : Nat} {pos : Pos} : SE w l vs ns dd O rs (.Constant (.int i) k pos) (.int i) := by
  intro A h₀ L mf m env s mu fz al r sg K Q hA hR S R hw hq
  exact wpAny_Constant_int (hq _ _ _ _ _ _ _ _ hw S .refl (.int _ _))
theorem se_str {x : Str} {k : Nat} {pos : Pos} : SE w l vs ns dd O rs (.Constant (.str x) k pos) (.str x) := by
  intro A h₀ L mf m env s mu fz al r sg K Q hA hR S R hw hq
  exact Constant_str (hq _ _ _ _ _ _ _ _ hw S .refl (.str _ _))
theorem se_none {k : Nat} {pos : Pos} : SE w l vs ns dd O rs (.Constant .none k pos) .none := by
  intro A h₀ L mf m env s mu fz al r sg K Q hA hR S R hw hq
  exact Constant_none (hq _ _ _ _ _ _ _ _ hw S .refl .none)
theorem se_bool {b : Bool} {k : Nat} {pos : Pos} : SE w l vs ns dd O rs (.Constant (.bool b) k pos) (.bool b) := by
  intro A h₀ L mf m env s mu fz al r sg K Q hA hR S R hw hq
  exact wpAny_pure (hq _ _ _ _ _ _ _ _ hw S .refl (.bool b))
theorem loadG {A : Around} {h₀ : Heap} {L : Addr} {mf : Str → Option Value} {env : Env} {s : Shared} {mu fz : Led} {al : List (Addr × Addr)} {sg : Sto} {x : Str} {v : Value} {pos : Pos} {Q : Value → Shared → Prop} (hA : Amb w l vs ns A h₀ L) (S : St w h₀ L s.heap mf mu fz al sg)
    (hk : env.scope.kind = .function) (hg : env.globals = mainGlobals) (hb : env.builtins = builtinsNs) (hx : env.kindOf x = some .globalImplicit) (hd : (x == ("__debug__" : Str)) = false) (g : globTab.lookup x = some v) (h : Q v s) : wpAny (model PG w) A (eval (.Name x pos) env) Q Fa s := by
  obtain ⟨mean, mg, mb, A₀, base, outer, fenv, B, T0, _⟩ := hA.ex
  have T := topRead_of T0
  obtain ⟨K, kin, kay⟩ := hA.kin
  rcases globs_of kay g with e | ⟨e, hv, hn⟩
  · exact Name_function_global hk hx (loadGlobal_global (env := env) (by rw [hg]; exact T.g.keeps S.fr.keep) (mg_of kin T.g e) h) hd
  · exact Name_function_global hk hx (loadGlobal_builtin (env := env) (by rw [hg]; exact T.g.keeps S.fr.keep) (mg_none_of kin T.g e) (by rw [hb]; exact T.b.keeps S.fr.keep) ((T.builtins x hn).trans hv) h) hd
theorem se_var {x : Str} {n : Nat} {pos : Pos} (hx : rs.lookup x = some (.var n)) : SE w l vs ns dd O rs (.Name x pos) (.var n) := by
  intro A h₀ L mf m env s mu fz al r sg K Q hA hR S R hw hq
  unfold wpe at hw
  split at hw
  · rename_i v hv
    obtain ⟨val, a, b⟩ := R.var x n v hx hv
    exact wpAny_Name (wpAny_loadName_local R.kind (R.kvar _ _ hx) (R.ns S) a (hq _ _ _ _ _ _ _ _ hw S .refl b)) (R.dbg _ _ hx)
  · exact hw.elim
theorem se_cel {x : Str} {n : Nat} {pos : Pos} (hx : rs.lookup x = some (.cel n)) : SE w l vs ns dd O rs (.Name x pos) (.var n) := by
  intro A h₀ L mf m env s mu fz al r sg K Q hA hR S R hw hq
  unfold wpe at hw
  split at hw
  · rename_i v hv
    obtain ⟨c, o, val, a, b, d, f⟩ := R.cel x n v hx hv
    exact wpAny_Name (wpAny_loadName_cell R.kind (R.kcel _ _ hx).1 a ⟨o, (S.nw _ (List.mem_append_left _ b)).1, d⟩ (hq _ _ _ _ _ _ _ _ hw S .refl f)) (R.dbg _ _ hx)
  · exact hw.elim
theorem se_glob {x : Str} {v : Value} {pos : Pos} (hx : rs.lookup x = some (.glob v)) : SE w l vs ns dd O rs (.Name x pos) (.glob v) := by
  intro A h₀ L mf m env s mu fz al r sg K Q hA hR S R hw hq
  obtain ⟨k, g⟩ := R.gv _ _ hx
  exact loadG hA S R.kind R.glb R.blt k (R.dbg _ _ hx) g (hq _ _ _ _ _ _ _ _ hw S .refl (.raw v))
theorem ses_nil : SEs w l vs ns dd O rs [] [] := by
  intro A h₀ L mf m env s mu fz al r sg K Q pos hA hR S R hw hq
  exact spliced_nil (hq _ _ _ _ _ _ _ _ hw S .refl .nil)
theorem ses_cons {e : Expr} {es : List Expr} {t : T} {ts : List T} (hn : ∀ env, starEach (e :: es) env = (false, eval e env) :: starEach es env) (h1 : SE w l vs ns dd O rs e t) (h2 : SEs w l vs ns dd O rs es ts) : SEs w l vs ns dd O rs (e :: es) (t :: ts) := by
  intro A h₀ L mf m env s mu fz al r sg K Q pos hA hR S R hw hq
  rw [hn]
  refine spliced_cons (h1 A h₀ L mf m env s mu fz al r sg _ _ hA hR S R hw ?_)
  intro val h' tk' mu' fz' al' v sg' hk S' X' V'
  refine h2 A h₀ L mf m env _ mu' fz' al' r sg' _ _ pos hA hR S' (R.ext S X') hk ?_
  intro val2 h'' tk'' mu'' fz'' al'' v2 sg'' hk2 S'' X'' V''
  exact hq _ _ _ _ _ _ _ _ hk2 S'' (X'.trans0 X'' S'') (.cons (X''.vr V') V'')
theorem OR.mono {mu mu' fz fz' : Led} {al : List (Addr × Addr)} {a dx : Addr} {oa : OA} (h : OR w mu fz al a dx oa) (hm : ∀ p ∈ mu, p.1 = dx → p ∈ mu') (hs : ∀ p ∈ fz, p ∈ fz') : OR w mu' fz' al a dx oa := by
  have e : al = al ++ [] := by simp
  cases oa with
  | inst c fs => obtain ⟨h1, es, n, h2, h3⟩ := h; exact ⟨hs _ h1, es, n, hm _ h2 rfl, by rw [e]; exact h3.mono hs⟩
  | lst vs => obtain ⟨rfl, ws, n, h2, h3⟩ := h; exact ⟨rfl, ws, n, hm _ h2 rfl, by rw [e]; exact h3.mono hs⟩
  | dct kvs => obtain ⟨rfl, h0, o, es, h1, h2, h3⟩ := h; exact ⟨rfl, h0, o, es, hm _ h1 rfl, h2, by rw [e]; exact h3.mono hs⟩
theorem St.newz {h₀ h h' : Heap} {L D : Addr} {m : Str → Option Value} {mu fz : Led} {al : List (Addr × Addr)} {sg : Sto} {o : Obj} (S : St w h₀ L h m mu fz al sg) (F' : Fr h₀ L h' m) (N' : News h₀ L h' ((D, o) :: (mu ++ fz))) (l1 : ∀ p ∈ mu ++ fz, p.1 < D) :
    St w h₀ L h' m mu ((D, o) :: fz) al sg ∧ Ext [] mu fz al mu ((D, o) :: fz) al := by
  refine ⟨⟨F', fun p hp => N' p ?_, ?_, ⟨S.sr.len, fun n oa hn => ?_, S.sr.nd⟩⟩, fun p hp => .tail _ hp, fun p hp _ _ => hp, [], by simp, by simp⟩
  · rcases List.mem_append.mp hp with hp | hp
    · exact .tail _ (List.mem_append_left _ hp)
    · rcases List.mem_cons.mp hp with rfl | hp
      · exact .head _
      · exact .tail _ (List.mem_append_right _ hp)
  · rw [List.map_append, List.map_cons]
    have nd := S.nd
    rw [List.map_append] at nd
    refine List.nodup_append.mpr ⟨(List.nodup_append.mp nd).1, List.nodup_cons.mpr ⟨fun q => ?_, (List.nodup_append.mp nd).2.1⟩, fun a ha b hb => ?_⟩
    · obtain ⟨p, hp, e⟩ := List.mem_map.mp q
      have := l1 p (List.mem_append_right _ hp)
      rw [e] at this; exact Nat.lt_irrefl _ this
    · rcases List.mem_cons.mp hb with rfl | hb
      · obtain ⟨p, hp, rfl⟩ := List.mem_map.mp ha
        exact Nat.ne_of_lt (l1 p (List.mem_append_left _ hp))
      · exact (List.nodup_append.mp nd).2.2 a ha b hb
  · obtain ⟨a, dx, h1, h2⟩ := S.sr.get n oa hn
    exact ⟨a, dx, h1, h2.mono (fun _ h _ => h) fun _ h => .tail _ h⟩
theorem St.same {h₀ h h' : Heap} {L : Addr} {m : Str → Option Value} {mu fz : Led} {al : List (Addr × Addr)} {sg : Sto} (S : St w h₀ L h m mu fz al sg) (F' : Fr h₀ L h' m) (N' : News h₀ L h' (mu ++ fz)) : St w h₀ L h' m mu fz al sg := ⟨F', N', S.nd, S.sr⟩
def isOp (o : Op) (op : Operator) : Bool := match o, op with
  | .add, .Add | .sub, .Sub | .mul, .Mult | .fdiv, .FloorDiv | .mod, .Mod => true
  | _, _ => false
theorem isOp_add {op : Operator} (h : isOp .add op = true) : op = .Add := by cases op <;> first | rfl | cases h
theorem isOp_sub {op : Operator} (h : isOp .sub op = true) : op = .Sub := by cases op <;> first | rfl | cases h
theorem isOp_mul {op : Operator} (h : isOp .mul op = true) : op = .Mult := by cases op <;> first | rfl | cases h
theorem isOp_fdiv {op : Operator} (h : isOp .fdiv op = true) : op = .FloorDiv := by cases op <;> first | rfl | cases h
theorem isOp_mod {op : Operator} (h : isOp .mod op = true) : op = .Mod := by cases op <;> first | rfl | cases h
theorem op_ok {o : Op} {x y : V} {K : V → Prop} {A : Around} {h₀ : Heap} {L : Addr} {mf : Str → Option Value} {s : Shared} {mu fz : Led} {al : List (Addr × Addr)} {sg : Sto} {Q : Value → Shared → Prop} {a b : Value} {op : Operator}
    (ho : isOp o op = true) (S : St w h₀ L s.heap mf mu fz al sg) (ha : VR fz al a x) (hb : VR fz al b y) (h : bop o x y K)
    (hq : ∀ val h' tk' fz' v, K v → St w h₀ L h' mf mu fz' al sg → Ext [] mu fz al mu fz' al → VR fz' al val v → Q val { s with heap := h', toks := tk' }) : wpAny (model PG w) A (binaryOp op a b) Q Fa s := by
  unfold bop at h
  split at h
  · cases ha; cases hb
    obtain rfl := isOp_add ho
    exact add_int (hq _ _ _ _ _ h S .refl (.int _ _))
  · obtain rfl := isOp_add ho
    cases ha with
    | tup ha ra => cases hb with
      | tup hb rb =>
        have la := ra.length
        have lb := rb.length
        refine kde_addT (news := mu ++ fz) S.fr S.nw (News.isTup S.nw (List.mem_append_right _ ha)) (News.isTup S.nw (List.mem_append_right _ hb)) ?_ ?_ ?_ rfl ?_
        · intro e; simp only [List.toList_toArray] at e; rw [e] at la; exact h.1.1 (List.length_eq_zero_iff.mp la.symm)
        · intro e; simp only [List.toList_toArray] at e; rw [e] at lb; exact h.1.2.1 (List.length_eq_zero_iff.mp lb.symm)
        · simp only [List.toList_toArray]; rw [la, lb]; exact h.1.2.2
        · intro D h' F' N' l1
          obtain ⟨S', X'⟩ := S.newz F' N' l1
          exact hq _ _ _ _ _ h.2 S' X' (.tup (.head _) ((X'.vrs ra).append (X'.vrs rb)))
  · cases ha; cases hb
    obtain rfl := isOp_sub ho
    exact sub_int (hq _ _ _ _ _ h S .refl (.int _ _))
  · cases ha; cases hb
    obtain rfl := isOp_mul ho
    refine mul_int (hq _ _ _ _ _ h.2 S .refl (.int _ _)) ?_
    rcases h.1 with g | g
    · exact .of_left (intBits_le_64 (by omega) (by omega))
    · exact .of_right (intBits_le_64 (by omega) (by omega))
  · cases ha; cases hb
    obtain rfl := isOp_fdiv ho
    refine floordiv_int h.1.1 (hq _ _ _ _ _ h.2 S .refl (.int _ _)) (Or.inl (PyProof.noPylong_of_log2 ?_))
    have := (Nat.log2_lt (by omega)).mpr h.1.2
    omega
  · cases ha; cases hb
    obtain rfl := isOp_mod ho
    exact mod_int h.1 (hq _ _ _ _ _ h.2 S .refl (.int _ _))
  · exact h.elim
theorem se_bin {o : Op} {op : Operator} {a b : Expr} {ta tb : T} {pos : Pos} (ho : isOp o op = true) (h1 : SE w l vs ns dd O rs a ta) (h2 : SE w l vs ns dd O rs b tb) : SE w l vs ns dd O rs (.BinOp a op b pos) (.bin o ta tb) := by
  intro A h₀ L mf m env s mu fz al r sg K Q hA hR S R hw hq
  refine wpAny_BinOp (h1 A h₀ L mf m env s mu fz al r sg _ _ hA hR S R hw ?_)
  intro val h' tk' mu' fz' al' v sg' hk S' X' V'
  refine h2 A h₀ L mf m env _ mu' fz' al' r sg' _ _ hA hR S' (R.ext S X') hk ?_
  intro val2 h'' tk'' mu'' fz'' al'' v2 sg'' hk2 S'' X'' V''
  refine op_ok ho S'' (X''.vr V') V'' hk2 ?_
  intro val3 h3 tk3 fz3 v3 hk3 S3 X3 V3
  exact hq _ _ _ _ _ _ _ _ hk3 S3 ((X'.trans0 X'' S'').trans0 X3 S3) V3
theorem se_pow {i : Int} {n k₁ k₂ : Nat} {p₁ p₂ pos : Pos} (hi : i.natAbs < 2 ^ 64) (hn : n ≤ 1000) : SE w l vs ns dd O rs (.BinOp (.Constant (.int i) k₁ p₁) .Pow (.Constant (.int (n : Int)) k₂ p₂) pos) (.pow i n) := by
  intro A h₀ L mf m env s mu fz al r sg K Q hA hR S R hw hq
  refine wpAny_BinOp (wpAny_Constant_int (wpAny_Constant_int (pow_int_small (by omega) (by omega) hi ?_)))
  exact hq _ _ _ _ _ _ _ _ hw S .refl (.int _ _)
end
end Mine
end
section
open PySem PySem.W PySem.Calls PyProof.Rows PySem.Spec
namespace Mine
section
variable {w : World} {l : Addr} {vs : List Value} {ns : List Int} {dd : Nat} {O : Orc} {rs : Rs}
mutual
theorem vr_reads {h₀ h : Heap} {L : Addr} {mu fz : Led} {al : List (Addr × Addr)} (N : News h₀ L h (mu ++ fz)) : ∀ {v : Value} {x : V} {d : PyData}, VR fz al v x → x.py = some d → ∃ as, Reads h v d as
  | _, _, _, .none, e => by simp only [V.py, Option.some.injEq] at e; subst e; exact ⟨_, Reads.none⟩
  | _, _, _, .bool b, e => by simp only [V.py, Option.some.injEq] at e; subst e; exact ⟨_, Reads.bool b⟩
  | _, _, _, .int i t, e => by simp only [V.py, Option.some.injEq] at e; subst e; exact ⟨_, Reads.int i t⟩
  | _, _, _, .str x t, e => by simp only [V.py, Option.some.injEq] at e; subst e; exact ⟨_, Reads.str x t⟩
  | _, _, _, .raw v, e => by simp [V.py] at e
  | _, _, _, .obj _, e => by simp [V.py] at e
  | _, _, _, .tup hm r, e => by
    simp only [V.py, Option.map_eq_some_iff] at e
    obtain ⟨ds, e1, rfl⟩ := e
    obtain ⟨as, q⟩ := vrs_reads N r e1
    exact ⟨as, reads_tuple_at (N.get (List.mem_append_right _ hm)) rfl rfl (by simpa using q)⟩
  | _, _, _, .lst hm r, e => by
    simp only [V.py, Option.map_eq_some_iff] at e
    obtain ⟨ds, e1, rfl⟩ := e
    obtain ⟨as, q⟩ := vrs_reads N r e1
    exact ⟨_, reads_list_at (N.get (List.mem_append_right _ hm)) rfl rfl (by simpa [W.listOf] using q)⟩
theorem vrs_reads {h₀ h : Heap} {L : Addr} {mu fz : Led} {al : List (Addr × Addr)} (N : News h₀ L h (mu ++ fz)) : ∀ {v : List Value} {x : List V} {d : List PyData}, VRs fz al v x → V.pys x = some d → ∃ as, ReadsAll h v d as
  | _, _, _, .nil, e => by simp only [V.pys, Option.some.injEq] at e; subst e; exact ⟨_, ReadsAll.nil⟩
  | _, _, _, .cons hx r, e => by
    simp only [V.pys] at e
    split at e
    · rename_i d ds e1 e2
      cases e
      obtain ⟨as, q⟩ := vr_reads N hx e1
      obtain ⟨bs, p⟩ := vrs_reads N r e2
      exact ⟨_, ReadsAll.cons q p⟩
    · cases e
end
def isCm (o : Cm) (op : CmpOp) : Bool := match o, op with
  | .eq, .Eq | .ne, .NotEq | .lt, .Lt | .le, .LtE | .gt, .Gt | .ge, .GtE => true
  | _, _ => false
theorem isCm_eq {op : CmpOp} (h : isCm .eq op = true) : op = .Eq := by cases op <;> first | rfl | cases h
theorem isCm_ne {op : CmpOp} (h : isCm .ne op = true) : op = .NotEq := by cases op <;> first | rfl | cases h
theorem isCm_lt {op : CmpOp} (h : isCm .lt op = true) : op = .Lt := by cases op <;> first | rfl | cases h
theorem isCm_le {op : CmpOp} (h : isCm .le op = true) : op = .LtE := by cases op <;> first | rfl | cases h
theorem isCm_gt {op : CmpOp} (h : isCm .gt op = true) : op = .Gt := by cases op <;> first | rfl | cases h
theorem isCm_ge {op : CmpOp} (h : isCm .ge op = true) : op = .GtE := by cases op <;> first | rfl | cases h
theorem cm_marks {o : Cm} {op : CmpOp} (h : isCm o op = true) (e : Expr) : behindInMarks op e = false := by
  have h2 : (op == .In || op == .NotIn) = false := by cases o <;> cases op <;> first | rfl | cases h
  unfold behindInMarks
  split
  · rw [h2, Bool.and_false, Bool.false_and]
  · rfl
theorem cmp_ok {o : Cm} {x y : V} {K : Bool → Prop} {A : Around} {h₀ : Heap} {L : Addr} {mf : Str → Option Value} {s : Shared} {mu fz : Led} {al : List (Addr × Addr)} {sg : Sto} {Q : Value → Shared → Prop} {a b : Value} {op : CmpOp}
    (ho : isCm o op = true) (hu : A.units + 64 < cLine) (S : St w h₀ L s.heap mf mu fz al sg) (ha : VR fz al a x) (hb : VR fz al b y) (h : bcmp o x y K)
    (hq : ∀ z, K z → Q (.bool z) s) : wpAny (model PG w) A (compareOp op a b) Q Fa s := by
  unfold bcmp at h
  split at h
  · cases ha; cases hb; obtain rfl := isCm_lt ho; exact lt_int (hq _ h)
  · cases ha; cases hb; obtain rfl := isCm_le ho; exact le_int (hq _ h)
  · cases ha; cases hb; obtain rfl := isCm_gt ho; exact gt_int (hq _ h)
  · cases ha; cases hb; obtain rfl := isCm_ge ho; exact ge_int (hq _ h)
  · cases ha; cases hb; obtain rfl := isCm_eq ho; exact eq_int (hq _ h)
  · cases ha; cases hb; obtain rfl := isCm_ne ho; exact ne_int (hq _ h)
  · cases ha; cases hb; obtain rfl := isCm_eq ho; exact eq_str (hq _ h)
  · obtain rfl := isCm_eq ho
    obtain ⟨⟨⟨d, e1, s1⟩, ⟨d', e2, s2⟩⟩, hk⟩ := h
    obtain ⟨as, r1⟩ := vr_reads S.nw ha e1
    obtain ⟨bs, r2⟩ := vr_reads S.nw hb e2
    refine eq_dataH r1 r2 s1 s2 hu ?_
    unfold veq at hk
    rw [e1, e2] at hk
    exact hq _ hk
  · obtain rfl := isCm_ne ho
    obtain ⟨⟨⟨d, e1, s1⟩, ⟨d', e2, s2⟩⟩, hk⟩ := h
    obtain ⟨as, r1⟩ := vr_reads S.nw ha e1
    obtain ⟨bs, r2⟩ := vr_reads S.nw hb e2
    refine ne_dataH r1 r2 s1 s2 hu ?_
    unfold veq at hk
    rw [e1, e2] at hk
    exact hq _ hk
  · exact h.elim
theorem se_cmp {o : Cm} {op : CmpOp} {a b : Expr} {ta tb : T} {pos : Pos} (ho : isCm o op = true) (h1 : SE w l vs ns dd O rs a ta) (h2 : SE w l vs ns dd O rs b tb) : SE w l vs ns dd O rs (.Compare a [op] [b] pos) (.cmp o ta tb) := by
  intro A h₀ L mf m env s mu fz al r sg K Q hA hR S R hw hq
  refine wpAny_Compare1 (h1 A h₀ L mf m env s mu fz al r sg _ _ hA hR S R hw ?_) (cm_marks ho b)
  intro val h' tk' mu' fz' al' v sg' hk S' X' V'
  refine h2 A h₀ L mf m env _ mu' fz' al' r sg' _ _ hA hR S' (R.ext S X') hk ?_
  intro val2 h'' tk'' mu'' fz'' al'' v2 sg'' hk2 S'' X'' V''
  exact cmp_ok ho (by have := hR.2; omega) S'' (X''.vr V') V'' hk2 fun z hz => hq _ _ _ _ _ _ _ _ hz S'' (X'.trans0 X'' S'') (.bool z)
theorem sb_cmp {o : Cm} {op : CmpOp} {a b : Expr} {ta tb : T} {pos : Pos} (ho : isCm o op = true) (h1 : SE w l vs ns dd O rs a ta) (h2 : SE w l vs ns dd O rs b tb) : SB w l vs ns dd O rs (.Compare a [op] [b] pos) (.cmp o ta tb) := by
  intro A h₀ L mf m env s mu fz al r sg K Q hA hR S R hw hq
  refine wpAny_isTrue_Compare1 (h1 A h₀ L mf m env s mu fz al r sg _ _ hA hR S R hw ?_) (cm_marks ho b)
  intro val h' tk' mu' fz' al' v sg' hk S' X' V'
  refine h2 A h₀ L mf m env _ mu' fz' al' r sg' _ _ hA hR S' (R.ext S X') hk ?_
  intro val2 h'' tk'' mu'' fz'' al'' v2 sg'' hk2 S'' X'' V''
  exact cmp_ok ho (by have := hR.2; omega) S'' (X''.vr V') V'' hk2 fun z hz => wpAny_truthy_bool (hq _ _ _ _ _ _ _ hz S'' (X'.trans0 X'' S''))
theorem isn_ok {x : V} {K : Bool → Prop} {A : Around} {fz : Led} {al : List (Addr × Addr)} {s : Shared} {Q : Value → Shared → Prop} {a : Value} (ha : VR fz al a x) (h : isNn x K) (hq : ∀ z, K z → Q (.bool z) s) : wpAny (model PG w) A (compareOp .IsNot a .none) Q Fa s := by
  cases x <;> first | exact h.elim | skip
  · cases ha; exact wpAny_pure (hq _ h)
  · cases ha with
    | obj _ => exact wpAny_isNot_other (by rfl) (by intro x; cases x) (hq _ h)
theorem se_isn {a : Expr} {ta : T} {k : Nat} {p pos : Pos} (h1 : SE w l vs ns dd O rs a ta) : SE w l vs ns dd O rs (.Compare a [.IsNot] [.Constant .none k p] pos) (.isn ta) := by
  intro A h₀ L mf m env s mu fz al r sg K Q hA hR S R hw hq
  refine wpAny_Compare1 (h1 A h₀ L mf m env s mu fz al r sg _ _ hA hR S R hw ?_) rfl
  intro val h' tk' mu' fz' al' v sg' hk S' X' V'
  exact Constant_none (isn_ok V' hk fun z hz => hq _ _ _ _ _ _ _ _ hz S' X' (.bool z))
theorem sb_isn {a : Expr} {ta : T} {k : Nat} {p pos : Pos} (h1 : SE w l vs ns dd O rs a ta) : SB w l vs ns dd O rs (.Compare a [.IsNot] [.Constant .none k p] pos) (.isn ta) := by
  intro A h₀ L mf m env s mu fz al r sg K Q hA hR S R hw hq
  refine wpAny_isTrue_Compare1 (h1 A h₀ L mf m env s mu fz al r sg _ _ hA hR S R hw ?_) rfl
  intro val h' tk' mu' fz' al' v sg' hk S' X' V'
  exact Constant_none (isn_ok V' hk fun z hz => wpAny_truthy_bool (hq _ _ _ _ _ _ _ hz S' X'))
theorem asBool_inv {x : V} {K : Bool → Prop} {a : Value} {fz : Led} {al : List (Addr × Addr)} (ha : VR fz al a x) (h : asBool x K) : ∃ b, a = .bool b ∧ x = .bool b ∧ K b := by
  cases x <;> first | exact h.elim | skip
  cases ha; exact ⟨_, rfl, rfl, h⟩
theorem se_not {a : Expr} {ta : T} {pos : Pos} (h1 : SE w l vs ns dd O rs a ta) : SE w l vs ns dd O rs (.UnaryOp .Not a pos) (.not ta) := by
  intro A h₀ L mf m env s mu fz al r sg K Q hA hR S R hw hq
  show wpAny _ _ (do let v ← eval a env; standAt pos; holding [v] (unaryOp .Not v)) _ _ _
  refine wpAny_bind (h1 A h₀ L mf m env s mu fz al r sg _ _ hA hR S R hw ?_)
  intro val h' tk' mu' fz' al' v sg' hk S' X' V'
  obtain ⟨b, rfl, rfl, hb⟩ := asBool_inv V' hk
  refine wpAny_bind (wpAny_standAt (wpAny_holding ?_))
  exact wpAny_bind (wpAny_truthy_bool (wpAny_pure (hq _ _ _ _ _ _ _ _ hb S' X' (.bool _))))
theorem sb_not {a : Expr} {ta : T} {pos : Pos} (h1 : SB w l vs ns dd O rs a ta) : SB w l vs ns dd O rs (.UnaryOp .Not a pos) (.not ta) := by
  intro A h₀ L mf m env s mu fz al r sg K Q hA hR S R hw hq
  refine isTrue_not (h1 A h₀ L mf m env s mu fz al r sg _ _ hA hR S R hw ?_)
  intro b h' tk' mu' fz' al' sg' hk S' X'
  exact hq _ _ _ _ _ _ _ hk S' X'
theorem sb_and {a b : Expr} {ta tb : T} {pos : Pos} (h1 : SB w l vs ns dd O rs a ta) (h2 : SB w l vs ns dd O rs b tb) : SB w l vs ns dd O rs (.BoolOp .And [a, b] pos) (.and ta tb) := by
  intro A h₀ L mf m env s mu fz al r sg K Q hA hR S R hw hq
  refine isTrue_and (h1 A h₀ L mf m env s mu fz al r sg _ _ hA hR S R hw ?_)
  intro c h' tk' mu' fz' al' sg' hk S' X'
  cases c with
  | false => exact hq _ _ _ _ _ _ _ (hk.2 rfl) S' X'
  | true =>
    refine isTrue_and (h2 A h₀ L mf m env _ mu' fz' al' r sg' _ _ hA hR S' (R.ext S X') (hk.1 rfl) ?_)
    intro c2 h'' tk'' mu'' fz'' al'' sg'' hk2 S'' X''
    cases c2 with
    | false => exact hq _ _ _ _ _ _ _ hk2 S'' (X'.trans0 X'' S'')
    | true => exact isTrue_and_nil (hq _ _ _ _ _ _ _ hk2 S'' (X'.trans0 X'' S''))
/-- a test that is a plain value -/
theorem sb_val {e : Expr} {t : T} (hp : ∀ env, isTrue e env (eval e env) = (do let v ← eval e env; standAt e.pos; holding [v] (truthy v))) (h1 : SE w l vs ns dd O rs e t)
    (ht : ∀ r sg K, wpt O t r sg K → wpe O t r sg fun v sg' => asBool v fun b => K b sg') : SB w l vs ns dd O rs e t := by
  intro A h₀ L mf m env s mu fz al r sg K Q hA hR S R hw hq
  refine isTrue_plain (h1 A h₀ L mf m env s mu fz al r sg _ _ hA hR S R (ht _ _ _ hw) ?_) (hp env)
  intro val h' tk' mu' fz' al' v sg' hk S' X' V'
  obtain ⟨b, rfl, rfl, hb⟩ := asBool_inv V' hk
  exact wpAny_truthy_bool (hq _ _ _ _ _ _ _ hb S' X')
theorem se_ite {c a b : Expr} {tc ta tb : T} {pos : Pos} (h0 : SB w l vs ns dd O rs c tc) (h1 : SE w l vs ns dd O rs a ta) (h2 : SE w l vs ns dd O rs b tb) : SE w l vs ns dd O rs (.IfExp c a b pos) (.ite tc ta tb) := by
  intro A h₀ L mf m env s mu fz al r sg K Q hA hR S R hw hq
  refine wpAny_IfExp (h0 A h₀ L mf m env s mu fz al r sg _ _ hA hR S R hw ?_)
  intro c h' tk' mu' fz' al' sg' hk S' X'
  cases c with
  | true => exact h1 A h₀ L mf m env _ mu' fz' al' r sg' _ _ hA hR S' (R.ext S X') (hk.1 rfl) fun val h'' tk'' mu'' fz'' al'' v sg'' hk2 S'' X'' V'' => hq _ _ _ _ _ _ _ _ hk2 S'' (X'.trans0 X'' S'') V''
  | false => exact h2 A h₀ L mf m env _ mu' fz' al' r sg' _ _ hA hR S' (R.ext S X') (hk.2 rfl) fun val h'' tk'' mu'' fz'' al'' v sg'' hk2 S'' X'' V'' => hq _ _ _ _ _ _ _ _ hk2 S'' (X'.trans0 X'' S'') V''
theorem lt_of_news {h₀ h : Heap} {L : Addr} {news : Led} (N : News h₀ L h news) : ∀ p ∈ news, p.1 < h.objs.size := fun p hp => Heap.lt_size (N p hp).1
theorem se_tup {es : List Expr} {ts : List T} {k : Nat} {pos : Pos} (h1 : SEs w l vs ns dd O rs es ts) : SE w l vs ns dd O rs (.Tuple es k pos) (.tup ts) := by
  intro A h₀ L mf m env s mu fz al r sg K Q hA hR S R hw hq
  refine Tuple_ (h1 A h₀ L mf m env s mu fz al r sg _ _ pos hA hR S R hw ?_)
  intro val h' tk' mu' fz' al' v sg' hk S' X' V'
  refine newTuple_N S'.fr S'.nw (fun h'' F'' N'' => ?_) (by have := hk.1; rw [V'.length, sizeLine_eq]; omega)
  obtain ⟨S'', X''⟩ := S'.newz F'' N'' (lt_of_news S'.nw)
  exact hq _ _ _ _ _ _ _ _ hk.2 S'' (X'.trans0 X'' S'') (.tup (.head _) (X''.vrs V'))
theorem se_lst {es : List Expr} {ts : List T} {pos : Pos} (h1 : SEs w l vs ns dd O rs es ts) : SE w l vs ns dd O rs (.List es pos) (.lst ts) := by
  intro A h₀ L mf m env s mu fz al r sg K Q hA hR S R hw hq
  refine List_ (h1 A h₀ L mf m env s mu fz al r sg _ _ pos hA hR S R hw ?_)
  intro val h' tk' mu' fz' al' v sg' hk S' X' V'
  refine newList_N S'.fr S'.nw (fun h'' F'' N'' => ?_) (by have := hk.1; rw [V'.length, sizeLine_eq]; omega)
  obtain ⟨S'', X''⟩ := S'.newz F'' N'' (lt_of_news S'.nw)
  exact hq _ _ _ _ _ _ _ _ hk.2 S'' (X'.trans0 X'' S'') (.lst (.head _) (X''.vrs V'))
def NoStar (es : List Expr) : Prop := es ≠ [] ∧ ∀ env, starEach es env = es.map fun e => (false, eval e env)
theorem noStar_any {es : List Expr} (h : NoStar es) (pos : Pos) (env : Env) : (backTo pos (starEach es env)).any (·.1) = false := by
  rw [h.2 env]
  unfold backTo
  rw [List.map_map, List.any_eq_false]
  intro x hx
  obtain ⟨e, _, rfl⟩ := List.mem_map.mp hx
  exact Bool.false_ne_true
/-- the arguments of a call, then what is called -/
theorem args_any {M : Model} {A : Around} {E : Value → Shared → Prop} {s : Shared} {f : Value} {es : List Expr} {pos : Pos} {env : Env} {Q : Args → Shared → Prop} (hn : NoStar es)
    (h : wpAny M A (spliced (backTo pos (starEach es env))) (fun vs s' => Q ⟨vs, []⟩ s') E s) : wpAny M A (evalArgs f true (backTo pos (starEach es env)) []) Q E s := by
  cases es with
  | nil => exact absurd rfl hn.1
  | cons e r =>
    rw [hn.2 env] at h ⊢
    exact evalArgs_plain h
theorem keep_plain {M : Model} {h : Heap} {f : Value} (hf : ∀ a, f ≠ .ref a) : Looks M h (keeperOf f) .machine := by
  refine Looks.of_pure ?_
  cases f <;> first | rfl | exact absurd rfl (hf _)
theorem callWith_plain {M : Model} {A : Around} {E : Value → Shared → Prop} {s : Shared} {f : Value} {es : List Expr} {pos : Pos} {env : Env} {Q : Value → Shared → Prop} (hf : ∀ a, f ≠ .ref a) (hn : NoStar es)
    (h : wpAny M A (spliced (backTo pos (starEach es env))) (fun vs s' => wpAny M A (call f vs) Q E s') E s) : wpAny M A (callWith pos f [] (backTo pos (starEach es env)) []) Q E s := by
  refine callWith_of (P := fun _ => True) (by rw [noStar_any hn]; rfl) (fun h _ => ⟨.machine, .inr (.inl rfl), keep_plain hf⟩) (args_any hn ?_)
  exact wpAny_mono h (fun vs s' h' => ⟨trivial, by simpa using h'⟩) fun _ _ e => e
theorem se_call {x : Str} {f : Addr} {es : List Expr} {ts : List T} {pos p : Pos} (hO : OrcOK w l vs ns dd O) (hx : rs.lookup x = some (.glob (.ref f))) (hn : NoStar es) (hf : cabl f = true) (h1 : SEs w l vs ns dd O rs es ts) : SE w l vs ns dd O rs (.Call (.Name x p) es [] pos) (.call f ts) := by
  intro A h₀ L mf m env s mu fz al r sg K Q hA hR S R hw hq
  obtain ⟨k, g⟩ := R.gv _ _ hx
  obtain ⟨K₁, kin, kay⟩ := hA.kin
  refine Call_ (loadG hA S R.kind R.glb R.blt k (R.dbg _ _ hx) g ?_)
  refine callWith_of (P := fun h => K₁.In h) (by rw [noStar_any hn]; rfl) (fun h X => keeps_K (cabl_keep kay hf) h X) (args_any hn ?_)
  refine h1 A h₀ L mf m env s mu fz al r sg _ _ pos hA hR S R hw ?_
  intro val h' tk' mu' fz' al' v sg' hk S' X' V'
  refine ⟨Frag.In.keeps kin S'.fr.keep, ?_⟩
  refine (hO f v sg' K hk) A h₀ L mf _ mu' fz' al' _ _ hA hR S' V' ?_
  intro val2 h'' tk'' mu'' fz'' al'' v2 sg'' hk2 S'' X'' V''
  exact hq _ _ _ _ _ _ _ _ hk2 S'' (X'.trans0 X'' S'') V''
end
end Mine
end
section
open PySem PySem.W PySem.Calls PyProof.Rows PySem.Spec
namespace Mine
/-! the written facts of the three classes -/
theorem okCls_of {K : Frag} (k : Kay K) {c x : Nat} (hc : c = 76 ∨ c = 98 ∨ c = 119) (hx : x < 12) : okCls K c x = true := by
  have h := k.parts.1
  rw [List.all_eq_true] at h
  have h1 := h c (by rcases hc with rfl | rfl | rfl <;> simp)
  rw [List.all_eq_true] at h1
  exact h1 x (List.mem_range.mpr hx)
theorem okIsi_of {K : Frag} (k : Kay K) {d c : Nat} (hc : c = 76 ∨ c = 98) (hd : d = 76 ∨ d = 98 ∨ d = 119) : okIsi K d c = true := by
  have h := k.parts.2.1
  rw [List.all_eq_true] at h
  have h1 := h d (by rcases hd with rfl | rfl | rfl <;> simp)
  rw [List.all_eq_true] at h1
  exact h1 c (by rcases hc with rfl | rfl <;> simp)
section
variable {w : World} {l : Addr} {vs : List Value} {ns : List Int} {dd : Nat} {O : Orc} {rs : Rs}
theorem vr_handed {fz : Led} {al : List (Addr × Addr)} {val : Value} {v : V} (h : VR fz al val v) (hn : notRaw v) : handedIn val = true := by
  cases h <;> first | rfl | exact hn.elim
theorem inst_at {h₀ h : Heap} {L : Addr} {m : Str → Option Value} {mu fz : Led} {al : List (Addr × Addr)} {sg : Sto} (S : St w h₀ L h m mu fz al sg) {n : Nat} {c : Addr} {fs : List (Nat × V)} (hn : sg[n]? = some (.inst c fs)) {a : Addr} {dx : Addr} (ha : al[n]? = some (a, dx)) :
    ∃ es k, (dx, dictOf es k) ∈ mu ∧ FR fz al es fs ∧ (a, instObj c dx) ∈ fz ∧ InstAt h a (instObj c dx) c (some (dictOf es k)) := by
  obtain ⟨a', dx', h1, h2⟩ := S.sr.get n _ hn
  rw [ha] at h1
  cases h1
  obtain ⟨h3, es, k, h4, h5⟩ := h2
  exact ⟨es, k, h4, h5, h3, InstAt.of_news S.nw (List.mem_append_right _ h3) (List.mem_append_left _ h4)⟩
theorem attr_ok {A : Around} {h₀ : Heap} {L : Addr} {mf : Str → Option Value} {s : Shared} {mu fz : Led} {al : List (Addr × Addr)} {sg : Sto} {Q : Value → Shared → Prop} {a : Value} {v : V} {x : Nat} {K : V → Prop} {expr : Bool} (hA : Amb w l vs ns A h₀ L) (S : St w h₀ L s.heap mf mu fz al sg) (ha : VR fz al a v) (h : sattr sg x v K)
    (hq : ∀ val tk' v, K v → VR fz al val v → Q val { s with toks := tk' }) : wpAny (model PG w) A (getAttr a (fname x) expr) Q Fa s := by
  cases v <;> first | exact h.elim | skip
  rename_i n
  cases ha with
  | obj ha =>
    unfold sattr at h
    dsimp only at h
    split at h
    · rename_i c fs hn
      obtain ⟨⟨hc, hx⟩, h⟩ := h
      split at h
      · rename_i v hv
        obtain ⟨es, k, h1, h2, h3, I⟩ := inst_at S hn ha
        obtain ⟨val, hg, hr⟩ := h2.get hx hv
        obtain ⟨K₁, kin, kay⟩ := hA.kin
        have ok := okCls_of kay hc hx
        unfold okCls at ok
        simp only [Bool.and_eq_true, beq_iff_eq] at ok
        obtain ⟨⟨⟨⟨⟨o1, o2⟩, o3⟩, o4⟩, o5⟩, o6⟩ := ok
        exact get_own S.fr kin I o1 o2 o3 rfl hg (vr_handed hr h.1) (hq _ _ _ h.2 hr)
      · exact h.elim
    · exact h.elim
def plainBase : Expr → Bool
  | .Name .. => true
  | .Subscript .. => true
  | _ => false
theorem se_attr {a : Expr} {ta : T} {x : Nat} {pos : Pos} (hb : plainBase a = true) (h1 : SE w l vs ns dd O rs a ta) : SE w l vs ns dd O rs (.Attribute a (fname x) pos) (.attr ta x) := by
  intro A h₀ L mf m env s mu fz al r sg K Q hA hR S R hw hq
  refine Attribute_any_ (h1 A h₀ L mf m env s mu fz al r sg _ _ hA hR S R hw ?_) (by cases a <;> first | rfl | cases hb)
  intro val h' tk' mu' fz' al' v sg' hk S' X' V'
  exact attr_ok hA S' V' hk fun val tk v hv r => hq _ _ _ _ _ _ _ _ hv S' X' r
def notSlice : Expr → Bool
  | .Slice .. => false
  | _ => true
theorem notSlice_sub {e : Expr} (h : notSlice e = true) (o i : Value) : subscripted e false o i = operate [o, i] (getItem o i) := by
  cases e <;> first | rfl | cases h
theorem item_ok {A : Around} {h₀ : Heap} {L : Addr} {mf : Str → Option Value} {s : Shared} {mu fz : Led} {al : List (Addr × Addr)} {sg : Sto} {Q : Value → Shared → Prop} {a i : Value} {x y : V} {K : V → Prop} {value slice : Expr} (hs : notSlice slice = true)
    (S : St w h₀ L s.heap mf mu fz al sg) (ha : VR fz al a x) (hi : VR fz al i y) (h : storeItem sg x y K) (hq : ∀ val tk' v, K v → VR fz al val v → Q val { s with toks := tk' }) : wpAny (model PG w) A (subscriptTail value slice a i) Q Fa s := by
  unfold storeItem at h
  split at h
  · rename_i n k
    split at h
    · rename_i kvs hn
      split at h
      · rename_i v hv
        cases hi
        cases ha with
        | obj ha =>
          obtain ⟨a', dx', h1, h2⟩ := S.sr.get n _ hn
          rw [ha] at h1
          cases h1
          obtain ⟨rfl, h0, o, es, h4, h5, h6⟩ := h2
          obtain ⟨val, hl, hr⟩ := h6.get hv
          exact kdt_tail S.nw (List.mem_append_left _ h4) h5 (kdt_getItem S.nw (List.mem_append_left _ h4) h5 (intKind_is _ _ _ _) hl (hq _ _ _ h hr)) (notSlice_sub hs _ _)
      · exact h.elim
    · exact h.elim
  · unfold bitem at h
    split at h
    · rename_i ds k _
      obtain ⟨h0, hlen, h⟩ := h
      split at h
      · rename_i v hv
        cases hi
        cases ha with
        | tup hm r =>
          obtain ⟨val, hx, hr⟩ := r.get hv
          have hlt : k.toNat < ds.length := (List.getElem?_eq_some_iff.mp hv).1
          have e := r.length
          refine item_tupleT (j := k.toNat) (News.isTup S.nw (List.mem_append_right _ hm)) (by omega) (by omega) ?_ hx (hq _ s.toks _ h hr) (notSlice_sub hs _ _)
          rw [e]
          exact seqIndex_of h0 (by omega)
      · exact h.elim
    · rename_i ds k _
      obtain ⟨h0, hlen, h⟩ := h
      split at h
      · rename_i v hv
        cases hi
        cases ha with
        | lst hm r =>
          obtain ⟨val, hx, hr⟩ := r.get hv
          have hlt : k.toNat < ds.length := (List.getElem?_eq_some_iff.mp hv).1
          have il := News.isList S.nw (List.mem_append_right mu hm)
          exact tail_any il.typeIs slot_list_getitem.lookup (wpAny_getItem_list il h0 (by omega) (by simpa using hx) (hq _ s.toks _ h hr)) (notSlice_sub hs _ _)
      · exact h.elim
    · exact h.elim
theorem se_item {a i : Expr} {ta ti : T} {pos : Pos} (hs : notSlice i = true) (h1 : SE w l vs ns dd O rs a ta) (h2 : SE w l vs ns dd O rs i ti) : SE w l vs ns dd O rs (.Subscript a i pos) (.item ta ti) := by
  intro A h₀ L mf m env s mu fz al r sg K Q hA hR S R hw hq
  refine Subscript_ (h1 A h₀ L mf m env s mu fz al r sg _ _ hA hR S R hw ?_)
  intro val h' tk' mu' fz' al' v sg' hk S' X' V'
  refine h2 A h₀ L mf m env _ mu' fz' al' r sg' _ _ hA hR S' (R.ext S X') hk ?_
  intro val2 h'' tk'' mu'' fz'' al'' v2 sg'' hk2 S'' X'' V''
  exact item_ok hs S'' (X''.vr V') V'' hk2 fun val tk v hv r => hq _ _ _ _ _ _ _ _ hv S'' (X'.trans0 X'' S'') r
end
end Mine
end
section
open PySem PySem.W PySem.Calls PyProof.Rows PySem.Spec
namespace Mine
section
variable {w : World} {l : Addr} {vs : List Value} {ns : List Int} {dd : Nat} {O : Orc} {rs : Rs}
/-! a slice of a tuple with both its ends -/
theorem adj_two (a b n : Nat) (ha : a ≤ b) (hb : b ≤ n) : Builtin.Slice.sliceAdjust (some (a : Int)) (some (b : Int)) 1 (n : Int) = ((a : Int), (b : Int)) := by
  unfold Builtin.Slice.sliceAdjust
  have h1 : ¬ ((1 : Int) < 0) := by omega
  have h2 : ¬ ((a : Int) < 0) := by omega
  have h3 : ¬ ((b : Int) < 0) := by omega
  simp only [h1, h2, h3, if_false]
  refine Prod.ext ?_ ?_ <;> (dsimp only; omega)
theorem plc_two (a b : Nat) (ha : a ≤ b) : Builtin.Slice.slicePlaces (a : Int) (b : Int) 1 = b - a := by
  unfold Builtin.Slice.slicePlaces
  have h1 : (1 : Int) > 0 := by omega
  simp only [h1, if_true, Int.ediv_one]
  split <;> omega
theorem app_two {s : Shared} {A : Around} {E : Value → Shared → Prop} {sl : Addr} {a b n : Nat} {u u' : Tok} {Q : Int × Int × Nat → Shared → Prop} (hs : s.heap.IsSliceOf sl (.int a u) (.int b u') .none) (ha : a ≤ b) (hb : b ≤ n) (h : Q ((a : Int), 1, b - a) s) :
    wpAny (model PG w) A (Builtin.Slice.sliceApplied (.ref sl) (pure (n : Int))) Q E s := by
  obtain ⟨os, hos, hcs, hds⟩ := id hs
  unfold Builtin.Slice.sliceApplied Builtin.Slice.sliceFields
  refine wpAny_bind (wpAny_bind (wpAny_field hos hds (x := .int a u) rfl (wpAny_bind (wpAny_field hos hds (x := .int b u') rfl (wpAny_bind (wpAny_field hos hds (x := .none) rfl (wpAny_pure ?_)))))))
  refine wpAny_bind (slicePart_none ?_)
  show wpAny _ _ (if ((1 : Int) == 0) = true then _ else _) _ _ s
  rw [if_neg (by decide)]
  refine wpAny_bind (slicePart_int (wpAny_bind (slicePart_int (wpAny_bind (wpAny_pure ?_)))))
  show wpAny _ _ (match Builtin.Slice.sliceAdjust (some (a : Int)) (some (b : Int)) 1 (n : Int) with | (lo, hi) => pure (lo, (1 : Int), Builtin.Slice.slicePlaces lo hi 1)) _ _ s
  rw [adj_two a b n ha hb]
  show wpAny _ _ (pure ((a : Int), (1 : Int), Builtin.Slice.slicePlaces (a : Int) (b : Int) 1)) _ _ s
  rw [plc_two a b ha]
  exact wpAny_pure h
theorem get_two {s : Shared} {A : Around} {E : Value → Shared → Prop} {t sl : Addr} {items : Array Value} {a b : Nat} {u u' : Tok} {Q : Value → Shared → Prop} (ht : IsTup s.heap t items) (hs : s.heap.IsSliceOf sl (.int a u) (.int b u') .none) (h1 : 1 ≤ a) (ha : a ≤ b) (hb : b ≤ items.size)
    (h : Q (.ref s.heap.objs.size) { s with heap := s.heap.push { cls := .type "tuple", data := .seq ((items.toList.drop a).take (b - a)).toArray } })
    (hsz : items.size ≤ sizeLine) : wpAny (model PG w) A (getItem (.ref t) (.ref sl)) Q E s := by
  have hdrop : sizeOk (.seq ((items.toList.drop a).take (b - a)).toArray) := by
    show ((items.toList.drop a).take (b - a)).toArray.size ≤ sizeLine
    rw [List.size_toArray, List.length_take, List.length_drop, Array.length_toList]
    omega
  obtain ⟨os, hos, hcs, hds⟩ := id hs
  have hTs : s.TypeIs (.ref sl) "slice" := ⟨os, hos, hcs⟩
  unfold getItem
  try with_reducible refine wpAny_holding ?_
  refine wpAny_bind (wpAny_sequenceKey ht.typeIs (by decide) ?_)
  refine wpAny_bind (wpAny_callSpecial?_slot (name := Str.ofString "__getitem__") ht.typeIs PyProof.Rows.slot_tuple_getitem
    (wpAny_call_entry PyProof.Rows.slot_tuple_getitem ht.typeIs PyProof.Rows.entry_tuple_getitem ?_ (args_tuple_getitem _ _)))
  show wpAny _ _ (Builtin.Tuple.tupleItemsOf (.ref t) >>= _) _ _ s
  refine wpAny_bind (tupleItemsOf_ ht ?_)
  refine wpAny_bind (wpAny_typeOf hTs ?_)
  rw [if_pos (by decide)]
  refine wpAny_bind (app_two hs ha hb ?_)
  have hno : ¬ (((a : Int) == 0 && (1 : Int) == 1 && (b - a) == items.size) = true) := by
    have : ((a : Int) == 0) = false := by rw [beq_eq_false_iff_ne]; omega
    rw [this]; simp
  show wpAny _ _ (if ((a : Int) == 0 && (1 : Int) == 1 && (b - a) == items.size) = true then _ else _) _ _ s
  have e : (fun (k : Nat) => items[((a : Int) + (k : Int) * 1).toNat]?) = ((fun x => items[x]?) ∘ fun x => a + x) := by
    funext k
    have : ((a : Int) + (k : Int) * 1).toNat = a + k := by omega
    show items[_]? = items[a + k]?
    rw [this]
  have p := pick_run items a (b - a)
  rw [List.filterMap_map] at p
  rw [if_neg hno, e, p]
  first
    | exact wpAny_bind (m := Builtin.Tuple.tupleExact _) (wpAny_newObj_type (wpAny_pure ⟨_, rfl, wpAny_pure h⟩) hdrop)
    | exact wpAny_bind (m := Builtin.Tuple.tupleExact _) (wpAny_newObj_type (wpAny_bind (wpAny_pure (wpAny_pure ⟨_, rfl, wpAny_pure h⟩))) hdrop)
    | exact wpAny_bind (wpAny_bind (m := Builtin.Tuple.tupleExact _) (wpAny_newObj_type (wpAny_pure (wpAny_pure ⟨_, rfl, wpAny_pure h⟩)) hdrop))
theorem vals_len {fz : Led} {al : List (Addr × Addr)} {ws : List Value} {ds : List V} (r : VRs fz al ws ds) : ws.toArray.size = ds.length := by rw [List.size_toArray, r.length]
theorem se_slice {a : Expr} {ta : T} {i j k₁ k₂ : Nat} {p₁ p₂ p pos : Pos} (hb : plainBase a = true) (ht : ∀ o r, letTemporaryGo a o r = pure ()) (hi : 1 ≤ i) (h1 : SE w l vs ns dd O rs a ta) :
    SE w l vs ns dd O rs (.Subscript a (.Slice (some (.Constant (.int (i : Int)) k₁ p₁)) (some (.Constant (.int (j : Int)) k₂ p₂)) none p) pos) (.slice ta i j) := by
  intro A h₀ L mf m env s mu fz al r sg K Q hA hR S R hw hq
  refine Subscript_ (h1 A h₀ L mf m env s mu fz al r sg _ _ hA hR S R hw ?_)
  intro val h' tk' mu' fz' al' v sg' hk S' X' V'
  cases v <;> first | exact hk.elim | skip
  rename_i ds
  dsimp only at hk
  obtain ⟨⟨q1, q2, q3⟩, hk⟩ := hk
  cases V' with
  | @tup t ws nn _ hm rr =>
    refine wpAny_Slice ?_
    show wpAny _ _ (eval (.Constant (.int (i : Int)) k₁ p₁) env) _ _ _
    refine wpAny_Constant_int ?_
    show wpAny _ _ (eval (.Constant (.int (j : Int)) k₂ p₂) env) _ _ _
    refine wpAny_Constant_int ?_
    refine wpAny_pure ?_
    have it := News.isTup S'.nw (List.mem_append_right mu' hm)
    have e := vals_len rr
    have it2 : IsTup (h'.push { cls := .type "slice", data := .fields #[.int (i : Int) tk', .int (j : Int) (tk' + 1), .none] }) t ws.toArray := it.keeps fun _ _ q => Heap.get?_push_of_some _ q
    refine subscriptTail_ops it2.typeIs PyProof.Rows.slot_tuple_getitem.lookup (ops := [.ref h'.objs.size, .ref t]) (get_two it2 (Heap.IsSliceOf.new ..) hi q1 (by rw [e]; exact q2) ?_ (by rw [e, sizeLine_eq]; omega)) rfl (fun r => ht _ _)
    have F1 := S'.fr.push { cls := .type "slice", data := .fields #[.int (i : Int) tk', .int (j : Int) (tk' + 1), .none] }
    have N1 := News.push F1 (S'.nw.grown fun _ _ q => Heap.get?_push_of_some _ q) { cls := .type "tuple", data := .seq ((ws.toArray.toList.drop i).take (j - i)).toArray }
    obtain ⟨S'', X''⟩ := S'.newz (F1.push _) N1 (fun p hp => by rw [Heap.size_push]; exact Nat.lt_succ_of_lt (lt_of_news S'.nw p hp))
    refine hq _ _ _ _ _ _ _ _ hk S'' (X'.trans0 X'' S'') (.tup (n := 0) (.head _) ?_)
    have er : (ds.take j).drop i = (ds.drop i).take (j - i) := by rw [List.drop_take]
    rw [er]
    exact X''.vrs ((rr.drop i).take (j - i))
end
end Mine
end
section
open PySem PySem.W PySem.Calls PyProof.Rows PySem.Spec
namespace Mine
def biVal : Bi → Value
  | .len => .builtin "len"
  | .min => .builtin "min"
  | .max => .builtin "max"
  | .isi => .builtin "isinstance"
  | .sorted => .builtin "sorted"
  | .list => .type "list"
section
variable {w : World} {l : Addr} {vs : List Value} {ns : List Int} {dd : Nat} {O : Orc} {rs : Rs}
theorem biVal_ref (f : Bi) (a : Addr) : biVal f ≠ .ref a := by cases f <;> (intro e; cases e)
theorem up_len (ks : List Int) : ∀ (i : Nat) (t : Nat → Tok), (lks_vals ks i t).length = ks.length := by
  induction ks with
  | nil => intro i t; rfl
  | cons k ks ih => intro i t; unfold lks_vals; rw [List.length_cons, List.length_cons, ih]
theorem lks_rs {fz : Led} {al : List (Addr × Addr)} : ∀ (ks : List Int) (i : Nat) (t : Nat → Tok), VRs fz al (lks_vals ks i t) (ks.map V.int)
  | [], _, _ => .nil
  | _ :: ks, i, t => .cons (.int _ _) (lks_rs ks (i + 1) t)
theorem nodup_upd {d : Addr} {o o' : Obj} : ∀ {led : Led}, (led.map (·.1)).Nodup → (d, o) ∈ led → Upd d o o' led (led.map fun p => if p.1 = d then (d, o') else p)
  | [], _, h => nomatch h
  | p :: r, nd, h => by
    rw [List.map_cons, List.nodup_cons] at nd
    rcases List.mem_cons.mp h with e | h
    · subst e
      have hr : ∀ q ∈ r, q.1 ≠ d := fun q hq e => nd.1 (e ▸ List.mem_map_of_mem (f := fun x => x.1) hq)
      rw [List.map_cons, if_pos rfl]
      have : r.map (fun p => if p.1 = d then (d, o') else p) = r := by
        refine (List.map_congr_left (g := id) fun q hq => ?_).trans (List.map_id r)
        rw [if_neg (hr q hq)]; rfl
      rw [this]
      exact .head hr
    · have hp : p.1 ≠ d := fun e => nd.1 (by rw [e]; exact List.mem_map_of_mem (f := fun x => x.1) h)
      rw [List.map_cons, if_neg hp]
      exact .tail hp (nodup_upd nd.2 h)
theorem keys_at {fz : Led} {al : List (Addr × Addr)} {es : List (Int × Value)} {kvs : List (Int × V)} (r : KR fz al es kvs) : es.map (·.1) = kvs.map (·.1) := r.keys
theorem dict_vals {es : List (Int × Value)} {ws : List Value} (hl : ws.length = es.length) (h : ∀ (j : Nat) (v : Value), ws[j]? = some v → ∃ (k : Int) (x : Value), es[j]? = some (k, x) ∧ (intKind PG w).is k v = true) : kf_ints ws = true ∧ lks_nums ws = es.map (·.1) := by
  induction ws generalizing es with
  | nil => cases es with
    | nil => exact ⟨rfl, rfl⟩
    | cons _ _ => cases hl
  | cons v ws ih =>
    cases es with
    | nil => cases hl
    | cons p es =>
      obtain ⟨k, x, h1, h2⟩ := h 0 v rfl
      simp only [List.getElem?_cons_zero, Option.some.injEq] at h1
      subst h1
      obtain ⟨a, b⟩ := ih (es := es) (by simpa using hl) (fun j u hu => by simpa using h (j + 1) u (by simpa using hu))
      cases v with
      | int i t =>
        have e : i = k := by
          exact (beq_iff_eq.mp (show (i == k) = true from h2))
        subst e
        refine ⟨by unfold kf_ints; simpa using a, ?_⟩
        unfold lks_nums
        rw [b]; rfl
      | _ => exact Bool.noConfusion (show false = true from h2)
theorem asc_of : ∀ {ks : List Int}, ks.Pairwise (· < ·) → lks_asc ks = true
  | [], _ => rfl
  | k :: ks, h => by
    unfold lks_asc
    rw [List.pairwise_cons] at h
    rw [Bool.and_eq_true]
    refine ⟨List.all_eq_true.mpr fun b hb => decide_eq_true (Int.le_of_lt (h.1 b hb)), asc_of h.2⟩
theorem bi_sorted {A : Around} {h₀ : Heap} {L : Addr} {mf : Str → Option Value} {s : Shared} {mu fz : Led} {al : List (Addr × Addr)} {sg : Sto} {Q : Value → Shared → Prop} {a : Addr} {n : Nat} {kvs : List (Int × V)} {K : V → Prop} (hA : Amb w l vs ns A h₀ L) (S : St w h₀ L s.heap mf mu fz al sg) {dx : Addr} (h3 : al[n]? = some (a, dx)) (hn : sg[n]? = some (.dct kvs)) (h : ((kvs.map (·.1)).Pairwise (· < ·) ∧ kvs ≠ [] ∧ kvs.length < 64) ∧ K (.lst (kvs.map fun p => .int p.1))) (hq : ∀ val h' tk' fz' v, K v → St w h₀ L h' mf mu fz' al sg → Ext [] mu fz al mu fz' al → VR fz' al val v → Q val { s with heap := h', toks := tk' }) : wpAny (model PG w) A (call (.builtin "sorted") [.ref a]) Q Fa s := by
  obtain ⟨⟨p1, p2, p3⟩, hk⟩ := h
  obtain ⟨a', dx', q1, q2⟩ := S.sr.get _ _ hn
  rw [h3] at q1
  cases q1
  obtain ⟨rfl, h0, o, es, h4, h5, h6⟩ := q2
  have hlen := h6.length
  obtain ⟨ep, hat⟩ := (kda_dict S.nw (List.mem_append_left _ h4) h5).dictAt
  refine kdu_sorted (kdl_dict (knd := intKind PG w) (kvs := es) (ep := ep) h0) hA.hh S.fr S.nw hat (by rw [sizeLine_eq]; omega) fun B h' tk ws F' N' l1 hl hv => ?_
  obtain ⟨v1, v2⟩ := dict_vals hl hv
  obtain ⟨S', X'⟩ := S.newz F' N' l1
  have hU : ∀ t, Upd B (W.listOf ws.toArray 0) (W.listOf (lks_vals (kvs.map (·.1)) 0 t).toArray (0 + 2)) ((B, W.listOf ws.toArray 0) :: (mu ++ fz)) ((B, W.listOf (lks_vals (kvs.map (·.1)) 0 t).toArray 2) :: (mu ++ fz)) := fun t => .head fun p hp => Nat.ne_of_lt (l1 p hp)
  refine lks_sort F' N' hU v1 ?_ ?_ (by show ws.length < 64; omega) fun t h'' F'' N'' => ?_
  · show ((lks_nums ws).isPerm _ && lks_asc _) = true
    rw [v2, h6.keys, Bool.and_eq_true]
    exact ⟨List.isPerm_iff.mpr (.refl _), asc_of p1⟩
  · show ws.isEmpty = false
    cases ws with
    | nil => exact absurd (List.length_eq_zero_iff.mp (by rw [← hlen, ← hl]; rfl)) p2
    | cons _ _ => rfl
  · obtain ⟨S'', X''⟩ := S.newz F'' N'' l1
    refine hq _ h'' _ _ _ hk S'' X'' (.lst (.head _) ?_)
    have := lks_rs (fz := (B, W.listOf (lks_vals (kvs.map (·.1)) 0 t).toArray 2) :: fz) (al := al) (kvs.map (·.1)) 0 t
    rw [List.map_map] at this
    exact this

theorem bi_isi {A : Around} {h₀ : Heap} {L : Addr} {mf : Str → Option Value} {s : Shared} {mu fz : Led} {al : List (Addr × Addr)} {sg : Sto} {Q : Value → Shared → Prop} {a : Addr} {n : Nat} {c c' : Addr} {fs : List (Nat × V)} {K : V → Prop} (hA : Amb w l vs ns A h₀ L) (S : St w h₀ L s.heap mf mu fz al sg) {dx : Addr} (h4 : al[n]? = some (a, dx)) (hn : sg[n]? = some (.inst c' fs)) (h : ((c = 76 ∨ c = 98) ∧ (c' = 76 ∨ c' = 98 ∨ c' = 119)) ∧ K (.bool (decide (c' = c)))) (hq : ∀ val h' tk' fz' v, K v → St w h₀ L h' mf mu fz' al sg → Ext [] mu fz al mu fz' al → VR fz' al val v → Q val { s with heap := h', toks := tk' }) : wpAny (model PG w) A (call (.builtin "isinstance") [.ref a, .ref c]) Q Fa s := by
  obtain ⟨⟨p1, p2⟩, hk⟩ := h
  obtain ⟨es, k, h5, h6, h7, I⟩ := inst_at S hn h4
  obtain ⟨K₁, kin, kay⟩ := hA.kin
  have X : K₁.In s.heap := Frag.In.keeps kin S.fr.keep
  have ok := okIsi_of kay p1 p2
  unfold okIsi at ok
  split at ok
  · rename_i e
    rw [decide_eq_true e] at hk
    exact isi_call X (fun M => InstAt.type I) ok (by intro e; cases e) (hq _ s.heap s.toks _ _ hk S .refl (.bool _))
  · rename_i e
    rw [decide_eq_false e] at hk
    simp only [Bool.and_eq_true, beq_iff_eq] at ok
    obtain ⟨⟨⟨⟨⟨⟨o1, o2⟩, o3⟩, o4⟩, o5⟩, o6⟩, o7⟩ := ok
    exact kin_callC X I o1 o2 o3 o4 o5 o6 o7 (hq _ s.heap _ _ _ hk S .refl (.bool _))

theorem bi_c {f : Bi} {A : Around} {h₀ : Heap} {L : Addr} {mf : Str → Option Value} {s : Shared} {mu fz : Led} {al : List (Addr × Addr)} {sg : Sto} {Q : Value → Shared → Prop} {vals : List Value} {as : List V} {K : V → Prop} (hA : Amb w l vs ns A h₀ L) (S : St w h₀ L s.heap mf mu fz al sg) (ha : VRs fz al vals as) (h : biC f as sg K) (hq : ∀ val h' tk' fz' v, K v → St w h₀ L h' mf mu fz' al sg → Ext [] mu fz al mu fz' al → VR fz' al val v → Q val { s with heap := h', toks := tk' }) : wpAny (model PG w) A (call (biVal f) vals) Q Fa s := by
  unfold biC at h
  split at h
  · cases ha with
    | cons h1 h2 => cases h2; cases h1 with
      | tup hm r =>
        have e := vals_len r
        refine len_tuple (News.isTup S.nw (List.mem_append_right _ hm)) (by rw [e]; have := h.1; omega) ?_
        rw [e]
        exact hq _ s.heap _ _ _ h.2 S .refl (.int _ _)
  · cases ha with
    | cons h1 h2 => cases h2; cases h1 with
      | lst hm r =>
        have e := vals_len r
        refine call_len_list (News.isList S.nw (List.mem_append_right mu hm)) (by rw [e]; have := h.1; omega) ?_
        rw [e]
        exact hq _ s.heap _ _ _ h.2 S .refl (.int _ _)
  · cases ha with
    | cons h1 h2 => cases h2 with
      | cons h2 h3 => cases h3; cases h1; cases h2
                      exact min_two_N hA.hh S.fr S.nw fun h' tk F' N' => hq _ h' tk _ _ h (S.same F' N') .refl (.int _ _)
  · cases ha with
    | cons h1 h2 => cases h2 with
      | cons h2 h3 => cases h3; cases h1; cases h2
                      exact max_two_N hA.hh S.fr S.nw fun h' tk F' N' => hq _ h' tk _ _ h (S.same F' N') .refl (.int _ _)
  · cases ha with
    | cons h1 h2 => cases h2 with
      | cons h2 h3 =>
        cases h3; cases h2; cases h1
        obtain ⟨rfl, hk⟩ := h
        exact call_isinstance_yes (Tx := "bool") (T := "bool") rfl (by kernel_rfl) (by rw [isSubtype_type]; kernel_rfl) (hq _ s.heap s.toks _ _ hk S .refl (.bool _))
  · cases ha with
    | cons h1 h2 => cases h2; cases h1 with
      | tup hm r =>
        refine kup_listOfT S.fr S.nw (List.mem_append_right mu hm) rfl (fun D c h' F' N' l1 => ?_) (by have := h.1; rw [List.toList_toArray, r.length, sizeLine_eq]; omega)
        obtain ⟨S', X'⟩ := S.newz F' N' l1
        exact hq _ h' _ _ _ h.2 S' X' (.lst (.head _) (X'.vrs r))
  · exact h.elim
theorem bi_ok {f : Bi} {A : Around} {h₀ : Heap} {L : Addr} {mf : Str → Option Value} {s : Shared} {mu fz : Led} {al : List (Addr × Addr)} {sg : Sto} {Q : Value → Shared → Prop} {vals : List Value} {as : List V} {K : V → Prop} (hA : Amb w l vs ns A h₀ L) (S : St w h₀ L s.heap mf mu fz al sg) (ha : VRs fz al vals as) (h : biS sg f as K) (hq : ∀ val h' tk' fz' v, K v → St w h₀ L h' mf mu fz' al sg → Ext [] mu fz al mu fz' al → VR fz' al val v → Q val { s with heap := h', toks := tk' }) : wpAny (model PG w) A (call (biVal f) vals) Q Fa s := by
  unfold biS at h
  split at h
  · split at h
    · rename_i kvs hn
      cases ha with
      | cons h1 h2 => cases h2; cases h1 with
        | obj h3 => exact bi_sorted hA S h3 hn h hq
    · exact h.elim
  · split at h
    · rename_i c' fs hn
      cases ha with
      | cons h1 h2 => cases h2 with
        | cons h2 h3 => cases h3; cases h2; cases h1 with
          | obj h4 => exact bi_isi hA S h4 hn h hq
    · exact h.elim
  · exact bi_c hA S ha h hq
theorem se_bi {x : Str} {f : Bi} {es : List Expr} {ts : List T} {pos p : Pos} (hx : rs.lookup x = some (.glob (biVal f))) (hn : NoStar es) (h1 : SEs w l vs ns dd O rs es ts) : SE w l vs ns dd O rs (.Call (.Name x p) es [] pos) (.bi f ts) := by
  intro A h₀ L mf m env s mu fz al r sg K Q hA hR S R hw hq
  obtain ⟨k, g⟩ := R.gv _ _ hx
  refine Call_ (loadG hA S R.kind R.glb R.blt k (R.dbg _ _ hx) g ?_)
  refine callWith_plain (biVal_ref f) hn ?_
  refine h1 A h₀ L mf m env s mu fz al r sg _ _ pos hA hR S R hw ?_
  intro val h' tk' mu' fz' al' v sg' hk S' X' V'
  exact bi_ok hA S' V' hk fun val2 h2 tk2 fz2 v2 hk2 S2 X2 V2 => hq _ _ _ _ _ _ _ _ hk2 S2 (X'.trans0 X2 S2) V2
end
end Mine
end
section
open PySem PySem.W PySem.Calls PyProof.Rows PySem.Spec
open PyProof.Rows.LCg
namespace Mine
theorem lookup_of_mem {α : Type} : ∀ {l : List (Str × α)} {x : Str} {a : α}, (l.map (·.1)).Nodup → (x, a) ∈ l → l.lookup x = some a
  | (y, b) :: r, x, a, nd, h => by
    rw [List.map_cons, List.nodup_cons] at nd
    rw [List.lookup_cons]
    rcases List.mem_cons.mp h with e | h
    · cases e; simp
    · have : (x == y) = false := by
        rw [beq_eq_false_iff_ne]
        intro e
        exact nd.1 (e ▸ List.mem_map_of_mem (f := fun p => p.1) h)
      rw [this]; exact lookup_of_mem nd.2 h
theorem vget_put_same : ∀ (r : Rho) (n : Nat) (v : V), vget (vput r n v) n = some v
  | [], 0, _ => rfl
  | [], n + 1, v => vget_put_same [] n v
  | _ :: _, 0, _ => rfl
  | _ :: r, n + 1, v => vget_put_same r n v
theorem vget_put_ne : ∀ (r : Rho) (n k : Nat) (v : V), k ≠ n → vget (vput r n v) k = vget r k
  | [], 0, 0, _, h => absurd rfl h
  | [], 0, k + 1, _, _ => by unfold vput vget; rfl
  | [], n + 1, 0, _, _ => by unfold vput vget; rfl
  | [], n + 1, k + 1, v, h => by
    show vget (vput [] n v) k = none
    rw [vget_put_ne [] n k v (fun e => h (by rw [e]))]
    cases k <;> rfl
  | _ :: _, 0, 0, _, h => absurd rfl h
  | _ :: _, 0, _ + 1, _, _ => rfl
  | _ :: _, _ + 1, 0, _, _ => rfl
  | _ :: r, n + 1, k + 1, v, h => vget_put_ne r n k v fun e => h (by rw [e])

abbrev Nm := List (Str × NameKind)
def compRs (rs : Rs) (x : Str) (nn : Nat) : Nm → Option Rs
  | [] => some []
  | (y, .local) :: r => if y = x then (compRs rs x nn r).map ((y, .var nn) :: ·) else compRs rs x nn r
  | (y, .free) :: r => match rs.lookup y with
    | some (.cel n) => (compRs rs x nn r).map ((y, .cel n) :: ·)
    | _ => none
  | (y, .globalImplicit) :: r => match globTab.lookup y with
    | some v => (compRs rs x nn r).map ((y, .glob v) :: ·)
    | none => none
  | _ => none
def rsOk (rs : Rs) : Bool := decide ((rs.map (·.1)).Nodup) && decide ((rs.filterMap (·.2.ix)).Nodup) && rs.all fun p => p.1 != ("__debug__" : Str)
theorem compRs_mem {rs : Rs} {x : Str} {nn : Nat} : ∀ {names : Nm} {rs' : Rs}, compRs rs x nn names = some rs' → ∀ {y : Str} {rv : RV}, (y, rv) ∈ rs' →
    ((y, .local) ∈ names ∧ y = x ∧ rv = .var nn) ∨ ((y, .free) ∈ names ∧ ∃ n, rv = .cel n ∧ rs.lookup y = some (.cel n)) ∨ ((y, .globalImplicit) ∈ names ∧ ∃ v, rv = .glob v ∧ globTab.lookup y = some v) := by
  intro names
  induction names with
  | nil => intro rs' h y rv hm; cases h; cases hm
  | cons p r ih =>
    intro rs' h y rv hm
    have up : ∀ {z : Str} {rv : RV}, ((z, NameKind.local) ∈ r ∧ z = x ∧ rv = .var nn) ∨ ((z, NameKind.free) ∈ r ∧ ∃ n, rv = .cel n ∧ rs.lookup z = some (.cel n)) ∨ ((z, NameKind.globalImplicit) ∈ r ∧ ∃ v, rv = .glob v ∧ globTab.lookup z = some v) →
      ((z, NameKind.local) ∈ p :: r ∧ z = x ∧ rv = .var nn) ∨ ((z, NameKind.free) ∈ p :: r ∧ ∃ n, rv = .cel n ∧ rs.lookup z = some (.cel n)) ∨ ((z, NameKind.globalImplicit) ∈ p :: r ∧ ∃ v, rv = .glob v ∧ globTab.lookup z = some v) := by
      rintro z rv (⟨a, b⟩ | ⟨a, b⟩ | ⟨a, b⟩)
      · exact .inl ⟨.tail _ a, b⟩
      · exact .inr (.inl ⟨.tail _ a, b⟩)
      · exact .inr (.inr ⟨.tail _ a, b⟩)
    obtain ⟨z, k⟩ := p
    cases k <;> (unfold compRs at h; try (first | cases h | skip))
    · split at h
      · rename_i e
        cases hr : compRs rs x nn r with
        | none => rw [hr] at h; cases h
        | some t =>
          rw [hr] at h; cases h
          rcases List.mem_cons.mp hm with e' | hm
          · cases e'; exact .inl ⟨.head _, e, rfl⟩
          · exact up (ih hr hm)
      · exact up (ih h hm)
    · split at h
      · rename_i v hv
        cases hr : compRs rs x nn r with
        | none => rw [hr] at h; cases h
        | some t =>
          rw [hr] at h; cases h
          rcases List.mem_cons.mp hm with e' | hm
          · cases e'; exact .inr (.inl ⟨.head _, _, rfl, hv⟩)
          · exact up (ih hr hm)
      · cases h
    · split at h
      · rename_i v hv
        cases hr : compRs rs x nn r with
        | none => rw [hr] at h; cases h
        | some t =>
          rw [hr] at h; cases h
          rcases List.mem_cons.mp hm with e' | hm
          · cases e'; exact .inr (.inr ⟨.head _, _, rfl, hv⟩)
          · exact up (ih hr hm)
      · cases h
theorem rsOk_inj {rs : Rs} (h : rsOk rs = true) {x y : Str} {u v : RV} {n : Nat} (h1 : rs.lookup x = some u) (h2 : rs.lookup y = some v) (hu : u.ix = some n) (hv : v.ix = some n) : x = y := by
  unfold rsOk at h
  simp only [Bool.and_eq_true, decide_eq_true_eq] at h
  have nd := h.1.2
  have key : ∀ {l : Rs}, (l.filterMap (·.2.ix)).Nodup → ∀ {p q : Str × RV}, p ∈ l → q ∈ l → p.2.ix = some n → q.2.ix = some n → p = q := by
    intro l
    induction l with
    | nil => intro _ p q hp; cases hp
    | cons a r ih =>
      intro nd p q hp hq ep eq
      rw [List.filterMap_cons] at nd
      rcases List.mem_cons.mp hp with e1 | hp2
      · rcases List.mem_cons.mp hq with e2 | hq2
        · exact e1.trans e2.symm
        · rw [← e1, ep] at nd
          dsimp only at nd
          rw [List.nodup_cons] at nd
          exact absurd (List.mem_filterMap.mpr ⟨q, hq2, eq⟩) nd.1
      · rcases List.mem_cons.mp hq with e2 | hq2
        · rw [← e2, eq] at nd
          dsimp only at nd
          rw [List.nodup_cons] at nd
          exact absurd (List.mem_filterMap.mpr ⟨p, hp2, ep⟩) nd.1
        · refine ih ?_ hp2 hq2 ep eq
          cases ha : a.2.ix with
          | none => rw [ha] at nd; exact nd
          | some k => rw [ha] at nd; exact (List.nodup_cons.mp nd).2
  exact congrArg (·.1) (key nd (mem_of_lookup h1) (mem_of_lookup h2) hu hv)
theorem rsOk_dbg {rs : Rs} (h : rsOk rs = true) {x : Str} {u : RV} (h1 : rs.lookup x = some u) : (x == ("__debug__" : Str)) = false := by
  unfold rsOk at h
  simp only [Bool.and_eq_true, decide_eq_true_eq, List.all_eq_true] at h
  have := h.2 _ (mem_of_lookup h1)
  rw [bne_iff_ne] at this
  rw [beq_eq_false_iff_ne]; exact this

/-! what a comprehension captures -/
def clOf (env : Env) : Nm → List (Str × Addr) → List (Str × Addr)
  | [], cs => cs
  | (y, k) :: r, cs => if k == .free then clOf env r ((y, (env.cells.lookup y).getD 0) :: cs) else clOf env r cs
theorem clOf_cons {env : Env} {y : Str} {k : NameKind} {r : Nm} {cs : List (Str × Addr)} : clOf env ((y, k) :: r) cs = if k == .free then clOf env r ((y, (env.cells.lookup y).getD 0) :: cs) else clOf env r cs := rfl
theorem closure_cl {scope : Scope} {env : Env} (h : ∀ y, (y, .free) ∈ scope.names → ∃ c, env.cells.lookup y = some c) : closureFor scope env = pure (clOf env scope.names []) := by
  unfold closureFor
  have key : ∀ (names : Nm) (cs : List (Str × Addr)), (∀ y, (y, .free) ∈ names → ∃ c, env.cells.lookup y = some c) →
      (forIn names cs fun (x : Str × NameKind) (r : List (Str × Addr)) => (if (x.2 == .free) = true then do let a ← cellOf env x.1; pure (ForInStep.yield ((x.1, a) :: r)) else pure (ForInStep.yield r) : Sem _)) = pure (clOf env names cs) := by
    intro names
    induction names with
    | nil => intro cs _; rfl
    | cons p r ih =>
      intro cs hc
      obtain ⟨y, k⟩ := p
      rw [List.forIn_cons]
      dsimp only
      by_cases e : (k == NameKind.free) = true
      · rw [if_pos e]
        have ek : k = .free := by cases k <;> first | rfl | cases e
        subst ek
        obtain ⟨c, hcl⟩ := hc y (.head _)
        have e1 : cellOf env y = pure c := by unfold cellOf; rw [hcl]
        rw [e1, pure_bind, pure_bind]
        dsimp only
        rw [ih _ fun z hz => hc z (.tail _ hz)]
        show _ = pure (clOf env ((y, NameKind.free) :: r) cs)
        rw [clOf_cons, if_pos (by rfl), hcl]; rfl
      · rw [if_neg e, pure_bind]
        dsimp only
        rw [ih _ fun z hz => hc z (.tail _ hz)]
        show _ = pure (clOf env ((y, k) :: r) cs)
        rw [clOf_cons, if_neg e]
  have := key scope.names [] h
  refine Eq.trans ?_ (congrArg (fun m => (m >>= fun cs => pure cs : Sem _)) this)
  rfl
theorem clOf_mem {env : Env} : ∀ {names : Nm} {cs : List (Str × Addr)}, (∀ y, (y, .free) ∈ names → ∃ c, env.cells.lookup y = some c) → (∀ z c, (z, c) ∈ cs → env.cells.lookup z = some c) → ∀ z c, (z, c) ∈ clOf env names cs → env.cells.lookup z = some c
  | [], _, _, h, z, c, hm => h z c hm
  | (y, k) :: r, cs, hn, h, z, c, hm => by
    unfold clOf at hm
    split at hm
    · rename_i e
      have ek : k = .free := by cases k <;> first | rfl | cases e
      subst ek
      obtain ⟨c', hc'⟩ := hn y (.head _)
      refine clOf_mem (fun z hz => hn z (.tail _ hz)) (fun z' c'' hm' => ?_) z c hm
      rcases List.mem_cons.mp hm' with e' | hm'
      · cases e'; rw [hc']; rfl
      · exact h _ _ hm'
    · exact clOf_mem (fun z hz => hn z (.tail _ hz)) h z c hm
theorem clOf_sub {env : Env} : ∀ {names : Nm} {cs : List (Str × Addr)} {q : Str × Addr}, q ∈ cs → q ∈ clOf env names cs
  | [], _, _, h => h
  | (y, k) :: r, cs, q, h => by
    unfold clOf
    split
    · exact clOf_sub (.tail _ h)
    · exact clOf_sub h
theorem clOf_has {env : Env} : ∀ {names : Nm} {cs : List (Str × Addr)} {y : Str}, (y, .free) ∈ names → ∃ c, (y, c) ∈ clOf env names cs
  | [], _, _, h => nomatch h
  | (z, k) :: r, cs, y, h => by
    unfold clOf
    rcases List.mem_cons.mp h with e | h
    · cases e
      rw [if_pos (by rfl)]
      exact ⟨_, clOf_sub (.head _)⟩
    · split
      · exact clOf_has h
      · exact clOf_has h
theorem cl_lookup {env : Env} {names : Nm} {y : Str} (h : ∀ y, (y, .free) ∈ names → ∃ c, env.cells.lookup y = some c) (hy : (y, .free) ∈ names) : (clOf env names []).lookup y = env.cells.lookup y := by
  obtain ⟨c, hc⟩ := clOf_has (env := env) (cs := []) hy
  have hs : ((clOf env names []).lookup y).isSome = true := by
    generalize clOf env names [] = l at hc
    induction l with
    | nil => cases hc
    | cons q r ih =>
      obtain ⟨z, c'⟩ := q
      rw [List.lookup_cons]
      cases e : y == z with
      | true => rfl
      | false =>
        refine ih ?_
        rcases List.mem_cons.mp hc with e' | hc
        · cases e'; simp at e
        · exact hc
  obtain ⟨c', hc'⟩ := Option.isSome_iff_exists.mp hs
  rw [hc']
  exact (clOf_mem (cs := []) h (by intro _ _ q; cases q) _ _ (mem_of_lookup hc')).symm
theorem lookup_relabel_plain {env : Env} {k : NameKind} (hk : (k == .free) = false) : ∀ {names : Nm} {x : Str}, names.lookup x = some k →
    (names.map fun (n, k) => if (k == NameKind.free && env.scope.kind == .function && env.kindOf n == some .cell) then (n, NameKind.cell) else (n, k)).lookup x = some k
  | [], _, h => by simp at h
  | (n, k') :: r, x, h => by
    have ih := @lookup_relabel_plain env k hk r x
    rw [List.map_cons]
    cases hx : x == n with
    | true =>
      rw [List.lookup_cons, hx] at h
      cases h
      dsimp only
      rw [hk]
      simp [List.lookup_cons, hx]
    | false =>
      rw [List.lookup_cons, hx] at h
      dsimp only
      split <;> (rw [List.lookup_cons, hx]; exact ih h)
theorem lookup_relabel_free {env : Env} (hf : env.scope.kind = .function) : ∀ {names : Nm} {x : Str}, env.kindOf x = some .cell → names.lookup x = some .free →
    (names.map fun (n, k) => if (k == NameKind.free && env.scope.kind == .function && env.kindOf n == some .cell) then (n, NameKind.cell) else (n, k)).lookup x = some .cell
  | [], _, _, h => by simp at h
  | (n, k') :: r, x, hc, h => by
    have ih := @lookup_relabel_free env hf r x hc
    rw [List.map_cons]
    cases hx : x == n with
    | true =>
      rw [List.lookup_cons, hx] at h
      cases h
      have e := beq_iff_eq.mp hx
      subst e
      dsimp only
      rw [hf, hc, if_pos (by rfl)]
      simp [List.lookup_cons]
    | false =>
      rw [List.lookup_cons, hx] at h
      dsimp only
      split <;> (rw [List.lookup_cons, hx]; exact ih h)
structure CompOk (rs rs' : Rs) (x : Str) (nn : Nat) (scope : Scope) : Prop where
  kind : scope.kind = .function
  nd : (scope.names.map (·.1)).Nodup
  hx : (x, .local) ∈ scope.names
  mem : (x, .var nn) ∈ rs'
  nocell : ∀ y ∈ scope.names, y.2 ≠ .cell
  eq : compRs rs x nn scope.names = some rs'
  ok : rsOk rs' = true
  fre : ∀ y, (y, .free) ∈ scope.names → ∃ n, rs.lookup y = some (.cel n)
section
variable {w : World} {L : Addr} {mf m : Str → Option Value} {env : Env} {rs rs' : Rs} {mu fz mu' fz' : Led} {al al' : List (Addr × Addr)} {r : Rho} {h₀ h : Heap} {sg : Sto} {x : Str} {nn : Nat} {scope : Scope}
theorem EnvR.cells (R : EnvR w L mf m env rs mu fz al r) (c : CompOk rs rs' x nn scope) : ∀ y, (y, .free) ∈ scope.names → ∃ c, env.cells.lookup y = some c := by
  intro y hy
  obtain ⟨n, hn⟩ := c.fre y hy
  obtain ⟨_, c, _, _, h, _⟩ := R.kcel y n hn
  exact ⟨c, h⟩
theorem EnvR.comp (R : EnvR w L mf m env rs mu fz al r) (c : CompOk rs rs' x nn scope) {C : Addr} {oC : Obj} {m₂ : Str → Option Value} {v : Value} {d : V} (hC : (C, oC) ∈ mu) (hCa : C ∉ al.map (·.2)) (hoC : NsObj oC m₂) (hx : m₂ x = some v) (hv : VR fz al v d) :
    EnvR w L mf m₂ (compEnvC scope (clOf env scope.names []) C env) rs' mu fz al (vput r nn d) := by
  have fre := R.cells c
  have ndk : (rs'.map (·.1)).Nodup := by
    have := c.ok
    unfold rsOk at this
    simp only [Bool.and_eq_true, decide_eq_true_eq] at this
    exact this.1.1
  have look : ∀ {y : Str} {n : Nat}, rs'.lookup y = some (.cel n) → (y, .free) ∈ scope.names ∧ rs.lookup y = some (.cel n) ∧ n ≠ nn := by
    intro y n h1
    rcases compRs_mem c.eq (mem_of_lookup h1) with ⟨_, _, e⟩ | ⟨a, k, e, b⟩ | ⟨_, v, e, _⟩
    · cases e
    · cases e
      refine ⟨a, b, fun e => ?_⟩
      have hxx : rs'.lookup x = some (.var nn) := lookup_of_mem ndk c.mem
      have := rsOk_inj c.ok h1 hxx rfl (by rw [e]; rfl)
      subst this
      rw [h1] at hxx; cases hxx
    · cases e
  refine ⟨c.kind, R.glb, R.blt, fun x rv h => rsOk_dbg c.ok h, ?_, ?_, ?_, ?_, ?_, ndk, ?_, ?_, ?_⟩
  · intro y v h1
    rcases compRs_mem c.eq (mem_of_lookup h1) with ⟨_, _, e⟩ | ⟨_, n, e, _⟩ | ⟨a, v', e, b⟩
    · cases e
    · cases e
    · cases e
      exact ⟨lookup_relabel_plain (env := env) rfl (lookup_of_mem c.nd a), b⟩
  · intro y n v' h1 h2
    rcases compRs_mem c.eq (mem_of_lookup h1) with ⟨_, e, e'⟩ | ⟨_, n, e, _⟩ | ⟨_, v, e, _⟩
    · cases e'; subst e
      rw [vget_put_same] at h2
      cases h2
      exact ⟨v, hx, hv⟩
    · cases e
    · cases e
  · intro y n v' h1 h2
    obtain ⟨a, b, hn⟩ := look h1
    rw [vget_put_ne _ _ _ _ hn] at h2
    obtain ⟨c', o, val, q, s⟩ := R.cel y n v' b h2
    exact ⟨c', o, val, (cl_lookup fre a).trans q, s⟩
  · intro y n h1
    rcases compRs_mem c.eq (mem_of_lookup h1) with ⟨a, e, e'⟩ | ⟨_, n, e, _⟩ | ⟨_, v, e, _⟩
    · exact lookup_relabel_plain (env := env) rfl (lookup_of_mem c.nd a)
    · cases e
    · cases e
  · intro y n h1
    obtain ⟨a, b, hn⟩ := look h1
    obtain ⟨k, c', o, cv, q, s⟩ := R.kcel y n b
    exact ⟨lookup_relabel_free R.kind k (lookup_of_mem c.nd a), c', o, cv, (cl_lookup fre a).trans q, s⟩
  · intro y z u v n h1 h2 h3 h4
    exact rsOk_inj c.ok h1 h2 h3 h4
  · intro y z n k c' h1 h2 h3 h4
    obtain ⟨a, b, _⟩ := look h1
    obtain ⟨a', b', _⟩ := look h2
    exact R.cinj y z n k c' b b' ((cl_lookup fre a).symm.trans h3) ((cl_lookup fre a').symm.trans h4)
  · exact .inr ⟨hCa, oC, hC, fun h he => hoC.ns he⟩
end
end Mine
end
section
open PySem PySem.W PySem.Calls PyProof.Rows PySem.Spec
open PyProof.Rows.LCg
namespace Mine
section
variable {w : World} {l : Addr} {vs : List Value} {ns : List Int} {dd : Nat} {O : Orc} {rs rs' : Rs}
def offs (I C D : Addr) (mu : Led) : Led := mu.filter fun p => p.1 != I && p.1 != C && p.1 != D
theorem offs_mem {I C D : Addr} {mu : Led} {p : Addr × Obj} : p ∈ offs I C D mu ↔ p ∈ mu ∧ p.1 ≠ I ∧ p.1 ≠ C ∧ p.1 ≠ D := by
  unfold offs
  rw [List.mem_filter]
  simp only [Bool.and_eq_true, bne_iff_ne, and_assoc]
theorem nodup_cons3 {I C D : Addr} {oI oC oD : Obj} {led : Led} (nd : (led.map (·.1)).Nodup) (h : ∀ p ∈ led, p.1 ≠ I ∧ p.1 ≠ C ∧ p.1 ≠ D) (n1 : I ≠ C) (n2 : I ≠ D) (n3 : C ≠ D) : (((I, oI) :: (C, oC) :: (D, oD) :: led).map (·.1)).Nodup := by
  simp only [List.map_cons, List.nodup_cons, List.mem_cons, not_or]
  refine ⟨⟨n1, n2, fun q => ?_⟩, ⟨n3, fun q => ?_⟩, fun q => ?_, nd⟩ <;> obtain ⟨p, hp, e⟩ := List.mem_map.mp q
  · exact (h p hp).1 e
  · exact (h p hp).2.1 e
  · exact (h p hp).2.2 e
theorem SR.off {mu fz : Led} {al : List (Addr × Addr)} {sg : Sto} (S : SR w mu fz al sg) {C : Addr} (h : ∀ p ∈ mu, p.1 ≠ C) : C ∉ al.map (·.2) := fun q => by
  obtain ⟨o, h1, _⟩ := S.live q
  exact h _ h1 rfl
theorem SR.mono {mu mu' fz fz' : Led} {al : List (Addr × Addr)} {sg : Sto} (S : SR w mu fz al sg) (hm : ∀ p ∈ mu, p.1 ∈ al.map (·.2) → p ∈ mu') (hs : ∀ p ∈ fz, p ∈ fz') : SR w mu' fz' al sg :=
  ⟨S.len, fun n oa hn => by
    obtain ⟨a, dx, h1, h2⟩ := S.get n oa hn
    exact ⟨a, dx, h1, h2.mono (fun p hp e => hm p hp (e ▸ List.mem_map_of_mem (f := fun x => x.2) (List.mem_of_getElem? h1))) hs⟩, S.nd⟩
theorem nd_offs {I C D : Addr} {mu fz : Led} (nd : ((mu ++ fz).map (·.1)).Nodup) : ((offs I C D mu ++ fz).map (·.1)).Nodup := by
  rw [List.map_append] at nd ⊢
  obtain ⟨a, b, c⟩ := List.nodup_append.mp nd
  refine List.nodup_append.mpr ⟨List.Sublist.nodup (List.Sublist.map _ List.filter_sublist) a, b, fun x hx y hy => c x ?_ y hy⟩
  obtain ⟨p, hp, e⟩ := List.mem_map.mp hx
  exact e ▸ List.mem_map_of_mem (f := fun x => x.1) (offs_mem.mp hp).1
/-- what holds when a comprehension's list stands -/
def CFin (w : World) (h₀ : Heap) (L : Addr) (mf : Str → Option Value) (mu fz : Led) (al : List (Addr × Addr)) (K : V → Sto → Prop) (ys : List Value) (news : Led) : Prop :=
  ∃ mu' fz' al' ds sg', news = mu' ++ fz' ∧ K (.lst ds) sg' ∧ ((mu' ++ fz').map (·.1)).Nodup ∧ SR w mu' fz' al' sg' ∧ Ext [] mu fz al mu' fz' al' ∧ VRs fz' al' ys ds
theorem comp_rest {A : Around} {h₀ : Heap} {L : Addr} {mf m : Str → Option Value} {env : Env} {r : Rho} {elt : Expr} {te : T} {x : Str} {nn : Nat} {scope : Scope} {s₂ : Shared} {S : Led → Prop} {P : Nat → Value → Prop} {mu₀ fz₀ : Led} {al₀ : List (Addr × Addr)} {sg₀ : Sto} {h₁ : Heap} {K : V → Sto → Prop} {vs₀ : List V}
    (c : CompOk rs rs' x nn scope) (h2 : SE w l vs ns dd O rs' elt te) (hA : Amb w l vs ns A h₀ L) (hR : Room A dd) (S₀ : St w h₀ L h₁ mf mu₀ fz₀ al₀ sg₀) (R₀ : EnvR w L mf m env rs mu₀ fz₀ al₀ r)
    (hP : ∀ i v d, vs₀[i]? = some d → P i v → VR fz₀ al₀ v d) (hS : ∀ mu fz al, Ext [] mu₀ fz₀ al₀ mu fz al → S (mu ++ fz)) :
    ∀ (k i : Nat) (ys : List Value) (ds : List V) (mu fz : Led) (al : List (Addr × Addr)) (sg : Sto), k + i = vs₀.length → VRs fz al ys ds → ((mu ++ fz).map (·.1)).Nodup → SR w mu fz al sg → Ext [] mu₀ fz₀ al₀ mu fz al →
      wpMap (fun v sg' K' => wpe O te (vput r nn v) sg' K') (vs₀.drop i) sg (fun ds' sg' => K (.lst (ds ++ ds')) sg') →
      CompRest PG w A h₀ L mf env elt x scope (clOf env scope.names []) s₂ S P (CFin w h₀ L mf mu₀ fz₀ al₀ K) k i ys (mu ++ fz) := by
  intro k
  induction k with
  | zero =>
    intro i ys ds mu fz al sg hk hys nd hsr X hw
    refine CompRest.zero ?_
    rw [List.drop_of_length_le (by omega)] at hw
    unfold wpMap at hw
    rw [List.append_nil] at hw
    exact ⟨mu, fz, al, ds, sg, rfl, hw, nd, hsr, X, hys⟩
  | succ k ih =>
    intro i ys ds mu fz al sg hk hys nd hsr X hw
    refine CompRest.succ ?_
    intro v I oI C oC D m₂ h tk E' hPi hoC hm2 F N off hne
    have hi : i < vs₀.length := by omega
    rw [List.drop_eq_getElem_cons hi] at hw
    unfold wpMap at hw
    have off3 := off.mem
    obtain ⟨n1, n2, n3⟩ := hne
    have cI : I ∉ al.map (·.2) := hsr.off fun p hp => (off3 p (List.mem_append_left _ hp)).1
    have cC : C ∉ al.map (·.2) := hsr.off fun p hp => (off3 p (List.mem_append_left _ hp)).2.1
    have cD : D ∉ al.map (·.2) := hsr.off fun p hp => (off3 p (List.mem_append_left _ hp)).2.2
    have X1 : Ext [] mu fz al ((I, oI) :: (C, oC) :: (D, lst ys) :: mu) fz al := ⟨fun _ h => h, fun p hp _ _ => .tail _ (.tail _ (.tail _ hp)), [], by simp, by simp⟩
    have S1 : St w h₀ L h mf ((I, oI) :: (C, oC) :: (D, lst ys) :: mu) fz al sg := ⟨F, N, nodup_cons3 nd off3 n1 n2 n3, hsr.mono (fun p hp _ => .tail _ (.tail _ (.tail _ hp))) fun _ h => h⟩
    have X01 := X.trans X1 hsr.nd (fun _ q => nomatch q)
    have R1 := R₀.ext S₀ X01
    have Rc := R1.comp c (C := C) (oC := oC) (.tail _ (.head _)) cC hoC hm2 (d := vs₀[i]) (X.vr (hP i v _ (List.getElem?_eq_getElem hi) hPi))
    refine wpAny_mono (h2 A h₀ L mf m₂ _ _ _ _ _ _ _ _ hA hR S1 Rc hw (Q := CompEnd h₀ L mf { s₂ with heap := h, toks := tk } I oI C oC D (lst ys) S (fun y news' => CompRest PG w A h₀ L mf env elt x scope (clOf env scope.names []) s₂ S P (CFin w h₀ L mf mu₀ fz₀ al₀ K) k (i + 1) (ys ++ [y]) news')) ?_) (fun _ _ h => h) (fun _ _ (e : False) => e.elim)
    intro val h' tk' mu' fz' al' d sg' hK S' X' V'
    obtain ⟨be, eal, hbe⟩ := X'.ea
    have offb : ∀ {a : Addr} {o : Obj}, (a, o) ∈ (I, oI) :: (C, oC) :: (D, lst ys) :: mu → a ∉ al.map (·.2) → a ∉ al'.map (·.2) ∧ (a, o) ∈ mu' := fun {a o} h1 h2 => by
      refine ⟨fun q => ?_, X'.em _ h1 h2 (fun q => nomatch q)⟩
      rw [eal, List.map_append] at q
      rcases List.mem_append.mp q with q | q
      · exact h2 q
      · obtain ⟨z, hz, e⟩ := List.mem_map.mp q
        exact hbe z hz _ (List.mem_append_left _ h1) e.symm
    obtain ⟨cI', mI⟩ := offb (.head _) cI
    obtain ⟨cC', mC⟩ := offb (.tail _ (.head _)) cC
    obtain ⟨cD', mD⟩ := offb (.tail _ (.tail _ (.head _))) cD
    have fzoff : ∀ p ∈ fz', p.1 ≠ I ∧ p.1 ≠ C ∧ p.1 ≠ D := fun p hp => by
      have nd' := S'.nd
      rw [List.map_append] at nd'
      have z := (List.nodup_append.mp nd').2.2
      have hp' := List.mem_map_of_mem (f := fun x => x.1) hp
      exact ⟨fun e => z I (List.mem_map_of_mem (f := fun x => x.1) mI) p.1 hp' e.symm, fun e => z C (List.mem_map_of_mem (f := fun x => x.1) mC) p.1 hp' e.symm, fun e => z D (List.mem_map_of_mem (f := fun x => x.1) mD) p.1 hp' e.symm⟩
    have X2 : Ext [] mu fz al (offs I C D mu') fz' al' := ⟨X'.ez, fun p hp h1 h2 => offs_mem.mpr ⟨X'.em p (.tail _ (.tail _ (.tail _ hp))) h1 h2, off3 p (List.mem_append_left _ hp)⟩, be, eal, fun q hq p hp => hbe q hq p (by rcases List.mem_append.mp hp with hp | hp; exact List.mem_append_left _ (.tail _ (.tail _ (.tail _ hp))); exact List.mem_append_right _ hp)⟩
    have SR2 : SR w (offs I C D mu') fz' al' sg' := S'.sr.mono (fun p hp hq => offs_mem.mpr ⟨hp, fun e => cI' (e ▸ hq), fun e => cC' (e ▸ hq), fun e => cD' (e ▸ hq)⟩) fun _ h => h
    have X02 := X.trans X2 SR2.nd (fun _ q => nomatch q)
    refine CompEnd.intro (all := mu' ++ fz') S'.fr S'.nw (offs I C D mu' ++ fz') ?_ ?_ (hS _ _ _ X02) ?_
    · intro p hp
      rcases List.mem_cons.mp hp with rfl | hp
      · exact List.mem_append_left _ mI
      rcases List.mem_cons.mp hp with rfl | hp
      · exact List.mem_append_left _ mC
      rcases List.mem_cons.mp hp with rfl | hp
      · exact List.mem_append_left _ mD
      rcases List.mem_append.mp hp with hp | hp
      · exact List.mem_append_left _ (offs_mem.mp hp).1
      · exact List.mem_append_right _ hp
    · refine Off3.of fun p hp => ?_
      rcases List.mem_append.mp hp with hp | hp
      · exact (offs_mem.mp hp).2
      · exact fzoff p hp
    · refine ih (i + 1) (ys ++ [val]) (ds ++ [d]) _ _ _ sg' (by omega) ((X2.vrs hys).append (.cons V' .nil)) (nd_offs S'.nd) SR2 X02 ?_
      simpa [List.append_assoc] using hK

/-- the block of a comprehension -/
theorem comp_block {A : Around} {E : Value → Shared → Prop} {h₀ : Heap} {L : Addr} {mf m : Str → Option Value} {env : Env} {r : Rho} {elt iter : Expr} {te : T} {x : Str} {px pos : Pos} {nn : Nat} {scope : Scope} {s₂ : Shared} {S : Led → Prop} {P : Nat → Value → Prop} {Stt : Nat → Heap → Prop} {mu fz : Led} {al : List (Addr × Addr)} {sg : Sto} {K : V → Sto → Prop} {vs₀ : List V} {I : Addr} {fp : List Addr} {n : Nat} {RR : Value → Addr → Result → Shared → Prop}
    (c : CompOk rs rs' x nn scope) (h2 : SE w l vs ns dd O rs' elt te) (hA : Amb w l vs ns A h₀ L) (hR : Room A dd) (S₀ : St w h₀ L s₂.heap mf mu fz al sg) (R₀ : EnvR w L mf m env rs mu fz al r)
    (W : Walks PG w A I fp [I] n P Stt) (hlen : vs₀.length = n) (hsz : n < 1000) (hIo : ∀ i h, Stt i h → ∃ o, h.get? I = some o)
    (hSt : ∀ i h h' o nw, Stt i h → h.get? I = some o → h'.get? I = some o → (∀ b o, h₀.get? b = some o → h'.get? b = some o) → News h₀ L h' nw → S nw → Stt i h')
    (hst : Stt 0 s₂.heap) (hfp : ∀ b ∈ fp, b < s₂.heap.objs.size) (hIL : L ≠ I) (hI₀ : h₀.get? I = none) (off : ∀ p ∈ mu ++ fz, p.1 ≠ I)
    (hP : ∀ i v d, vs₀[i]? = some d → P i v → VR fz al v d) (hS : ∀ mu' fz' al', Ext [] mu fz al mu' fz' al' → S (mu' ++ fz'))
    (hw : wpMap (fun v sg' K' => wpe O te (vput r nn v) sg' K') vs₀ sg (fun ds' sg' => K (.lst ds') sg'))
    (hRR : ∀ D C h tk m' mu' fz' al' v sg', K v sg' → St w h₀ L h mf mu' fz' al' sg' → Ext [] mu fz al mu' fz' al' → VR fz' al' (.ref D) v → h.Ns C m' → h₀.get? C = none → C ≠ L → (∀ p ∈ mu' ++ fz', p.1 ≠ C) → RR (.ref D) C (.ok .next) { s₂ with heap := h, toks := tk }) :
    wpAny (model PG w) A (newList []) (fun acc s₃ => wpAny (model PG w) A (newFunctionEnv scope env.globals (clOf env scope.names []) [] env.qual none .none (some env)) (fun cenv s₄ =>
      codeAny (model PG w) A (.compStart (.ListComp elt [⟨.Name x px, iter, [], 0⟩] scope pos) 0 (.ref I) acc { cenv with scope := relabel scope env }) (RR acc cenv.locals) s₄) E s₃) E s₂ := by
  refine block_U (S := S) (P := P) (news := mu ++ fz) (Fin := CFin w h₀ L mf mu fz al K) W (by rw [sizeLine_eq]; omega) hIo hSt c.nocell c.kind (lookup_of_mem c.nd c.hx) hst hfp S₀.fr S₀.nw hIL hI₀ off (hS _ _ _ .refl)
    (comp_rest c h2 hA hR S₀ R₀ hP hS n 0 [] [] mu fz al sg (by omega) .nil S₀.nd S₀.sr .refl (by simpa using hw)) ?_
  intro D C h tk m' ys news' F' N' o1 hn hC₀ hD₀ hCL hDL hCD offC fin
  obtain ⟨mu', fz', al', ds, sg', rfl, hK, nd, hsr, X, hv⟩ := fin
  have o1m : ∀ p ∈ mu' ++ fz', p.1 ≠ D := by
    generalize mu' ++ fz' = led at o1
    induction led with
    | nil => intro p hp; cases hp
    | cons q led ih =>
      intro p hp
      rcases List.mem_cons.mp hp with rfl | hp
      · exact o1.1
      · exact ih o1.2 p hp
  have S' : St w h₀ L h mf mu' ((D, lst ys) :: fz') al' sg' := by
    refine ⟨F', fun p hp => N' p ?_, ?_, hsr.mono (fun _ h _ => h) fun _ h => .tail _ h⟩
    · rcases List.mem_append.mp hp with hp | hp
      · exact .tail _ (List.mem_append_left _ hp)
      · rcases List.mem_cons.mp hp with rfl | hp
        · exact .head _
        · exact .tail _ (List.mem_append_right _ hp)
    · rw [List.map_append] at nd ⊢
      obtain ⟨a, b, cc⟩ := List.nodup_append.mp nd
      refine List.nodup_append.mpr ⟨a, List.nodup_cons.mpr ⟨fun q => ?_, b⟩, fun x hx y hy => ?_⟩
      · obtain ⟨p, hp, e⟩ := List.mem_map.mp q
        exact o1m p (List.mem_append_right _ hp) e
      · rcases List.mem_cons.mp hy with rfl | hy
        · obtain ⟨p, hp, rfl⟩ := List.mem_map.mp hx
          exact o1m p (List.mem_append_left _ hp)
        · exact cc x hx y hy
  have X1 : Ext [] mu' fz' al' mu' ((D, lst ys) :: fz') al' := ⟨fun _ h => .tail _ h, fun _ h _ _ => h, [], by simp, by simp⟩
  refine hRR D C h tk m' mu' _ al' (.lst ds) sg' hK S' (X.trans0 X1 S') (.lst (n := ys.length) (.head _) (X1.vrs hv)) hn hC₀ hCL ?_
  intro p hp
  rcases List.mem_append.mp hp with hp | hp
  · exact offC p (List.mem_append_left _ hp)
  · rcases List.mem_cons.mp hp with rfl | hp
    · exact fun e => hCD e.symm
    · exact offC p (List.mem_append_right _ hp)
theorem St.but {h₀ h h' : Heap} {L C : Addr} {mf : Str → Option Value} {mu fz : Led} {al : List (Addr × Addr)} {sg : Sto} (S : St w h₀ L h mf mu fz al sg) (hs : Heap.SameBut C h h') (hC₀ : h₀.get? C = none) (hCL : C ≠ L) (off : ∀ p ∈ mu ++ fz, p.1 ≠ C) : St w h₀ L h' mf mu fz al sg :=
  ⟨S.fr.change hs hCL hC₀, fun p hp => ⟨hs.extBut _ _ (off p hp) (S.nw p hp).1, (S.nw p hp).2⟩, S.nd, S.sr⟩
end
end Mine
end
section
open PySem PySem.W PySem.Calls PyProof.Rows PySem.Spec
open PyProof.Rows.LCg
namespace Mine
theorem upto_length : ∀ (n : Nat) (a : Int), (upto a n).length = n
  | 0, _ => rfl
  | n + 1, a => by unfold upto; rw [List.length_cons, upto_length n]
theorem upto_get : ∀ (n : Nat) (a : Int) (i : Nat) (d : Int), (upto a n)[i]? = some d → d = a + i
  | 0, _, _, _, h => by simp [upto] at h
  | n + 1, a, 0, d, h => by simp [upto] at h; omega
  | n + 1, a, i + 1, d, h => by
    have := upto_get n (a + 1) i d (by simpa [upto] using h)
    push_cast; omega
section
variable {w : World} {l : Addr} {vs : List Value} {ns : List Int} {dd : Nat} {O : Orc} {rs rs' : Rs}
/-- what a comprehension asks of what comes behind its list -/
def CPost (w : World) (A : Around) (h₀ : Heap) (L : Addr) (mf : Str → Option Value) (s : Shared) (mu fz : Led) (al : List (Addr × Addr)) (use : Option (Value → Sem Unit)) (K : V → Sto → Prop) (Q : Value → Shared → Prop) : Prop :=
  ∀ D C h tk m' mu' fz' al' v sg', K v sg' → St w h₀ L h mf mu' fz' al' sg' → Ext [] mu fz al mu' fz' al' → VR fz' al' (.ref D) v → h.Ns C m' → h₀.get? C = none → C ≠ L → (∀ p ∈ mu' ++ fz', p.1 ≠ C) →
    compPost (model PG w) A Fa use Q (.ref D) C (.ok .next) { s with heap := h, toks := tk }
theorem tup_st {h₀ : Heap} {L ax I : Addr} {its : Array Value} : ∀ (i : Nat) (h h' : Heap) (o : Obj) (nw : Led), (h.IsTupleIter I ax i ∧ h.IsTuple ax its) → h.get? I = some o → h'.get? I = some o → (∀ b o, h₀.get? b = some o → h'.get? b = some o) → News h₀ L h' nw → (∃ n, (ax, ({ cls := .type "tuple", data := .seq its n } : Obj)) ∈ nw) → h'.IsTupleIter I ax i ∧ h'.IsTuple ax its :=
  fun i h h' o nw st e e' k N S => ⟨by obtain ⟨o', q, r⟩ := st.1; rw [e] at q; cases q; exact ⟨o, e', r⟩, by obtain ⟨n, hm⟩ := S; exact N.isTup hm⟩
theorem comp_tup {A : Around} {h₀ : Heap} {L : Addr} {mf m : Str → Option Value} {env : Env} {r : Rho} {elt iter : Expr} {te : T} {x : Str} {px pos : Pos} {nn : Nat} {scope : Scope} {s : Shared} {mu fz : Led} {al : List (Addr × Addr)} {sg : Sto} {K : V → Sto → Prop} {use : Option (Value → Sem Unit)} {Q : Value → Shared → Prop} {a : Addr} {ws : List Value} {k : Nat} {ds : List V}
    (c : CompOk rs rs' x nn scope) (h2 : SE w l vs ns dd O rs' elt te) (hA : Amb w l vs ns A h₀ L) (hR : Room A dd) (S : St w h₀ L s.heap mf mu fz al sg) (R : EnvR w L mf m env rs mu fz al r) (hm : (a, tupO ws k) ∈ fz) (hv : VRs fz al ws ds) (hlen : ds.length < 1000)
    (hw : wpMap (fun v sg' K' => wpe O te (vput r nn v) sg' K') ds sg (fun ds' sg' => K (.lst ds') sg')) (hq : CPost w A h₀ L mf s mu fz al use K Q) :
    wpAny (model PG w) A (pyIter (.ref a)) (fun it s₂ => wpAny (model PG w) A (newList []) (fun acc s₃ => wpAny (model PG w) A (newFunctionEnv scope env.globals (clOf env scope.names []) [] env.qual none .none (some env)) (fun cenv s₄ =>
      codeAny (model PG w) A (.compStart (.ListComp elt [⟨.Name x px, iter, [], 0⟩] scope pos) 0 it acc { cenv with scope := relabel scope env }) (compPost (model PG w) A Fa use Q acc cenv.locals) s₄) Fa s₃) Fa s₂) Fa s := by
  have ht : s.heap.IsTuple a ws.toArray := S.nw.isTup (List.mem_append_right _ hm)
  have hlt : a < s.heap.objs.size := lt_of_news S.nw _ (List.mem_append_right _ hm)
  have up : ∀ b o, s.heap.get? b = some o → (s.heap.push { cls := .type "tuple_iterator", data := .fields #[.ref a, .int 0 0] }).get? b = some o := fun b o e => Heap.get?_push_of_some _ e
  refine wpAny_pyIter_tuple ht ?_
  have S' : St w h₀ L (s.heap.push { cls := .type "tuple_iterator", data := .fields #[.ref a, .int 0 0] }) mf mu fz al sg := S.same (S.fr.keeps up) (S.nw.grown up)
  have sz : ws.toArray.size = ds.length := vals_len hv
  refine comp_block (S := fun nw => ∃ n, (a, ({ cls := .type "tuple", data := .seq ws.toArray n } : Obj)) ∈ nw) c h2 hA hR S' R (Walks.tuple hA.hh s.heap.objs.size a (Nat.ne_of_lt hlt) ws.toArray) sz.symm (by rw [sz]; exact hlen) (fun i h st => by obtain ⟨o, e, _⟩ := st.1; exact ⟨o, e⟩) tup_st
    ⟨⟨_, Heap.get?_push_size _ rfl, rfl, rfl⟩, ht.push _⟩ (fun b hb => ?_) (Nat.ne_of_lt S.fr.ns.lt) (next_is_new S.fr) (fun p hp => Nat.ne_of_lt (lt_of_news S.nw p hp)) (fun i v d h1 h2 => ?_) (fun mu' fz' al' X => ⟨k, List.mem_append_right _ (X.ez _ hm)⟩) hw ?_
  · show b < (s.heap.push _).objs.size
    rw [Heap.size_push]
    rcases List.mem_cons.mp hb with rfl | hb
    · exact Nat.lt_succ_self _
    · rw [List.mem_singleton.mp hb]; exact Nat.lt_succ_of_lt hlt
  · obtain ⟨v', h3, h4⟩ := hv.get h1
    have : v = v' := by
      have e : ws.toArray[i]? = some v := h2
      rw [List.getElem?_toArray, h3] at e; exact (Option.some.inj e).symm
    exact this ▸ h4
  · intro D C h tk m' mu' fz' al' v sg' hk S'' X V hn hC hL ho
    exact hq D C h tk m' mu' fz' al' v sg' hk S'' X V hn hC hL ho
theorem comp_list {A : Around} {h₀ : Heap} {L : Addr} {mf m : Str → Option Value} {env : Env} {r : Rho} {elt iter : Expr} {te : T} {x : Str} {px pos : Pos} {nn : Nat} {scope : Scope} {s : Shared} {mu fz : Led} {al : List (Addr × Addr)} {sg : Sto} {K : V → Sto → Prop} {use : Option (Value → Sem Unit)} {Q : Value → Shared → Prop} {a : Addr} {ws : List Value} {k : Nat} {ds : List V}
    (c : CompOk rs rs' x nn scope) (h2 : SE w l vs ns dd O rs' elt te) (hA : Amb w l vs ns A h₀ L) (hR : Room A dd) (S : St w h₀ L s.heap mf mu fz al sg) (R : EnvR w L mf m env rs mu fz al r) (hm : (a, W.listOf ws.toArray k) ∈ fz) (hv : VRs fz al ws ds) (hlen : ds.length < 1000)
    (hw : wpMap (fun v sg' K' => wpe O te (vput r nn v) sg' K') ds sg (fun ds' sg' => K (.lst ds') sg')) (hq : CPost w A h₀ L mf s mu fz al use K Q) :
    wpAny (model PG w) A (pyIter (.ref a)) (fun it s₂ => wpAny (model PG w) A (newList []) (fun acc s₃ => wpAny (model PG w) A (newFunctionEnv scope env.globals (clOf env scope.names []) [] env.qual none .none (some env)) (fun cenv s₄ =>
      codeAny (model PG w) A (.compStart (.ListComp elt [⟨.Name x px, iter, [], 0⟩] scope pos) 0 it acc { cenv with scope := relabel scope env }) (compPost (model PG w) A Fa use Q acc cenv.locals) s₄) Fa s₃) Fa s₂) Fa s := by
  have ht : s.heap.IsList a ws.toArray := S.nw.isList (List.mem_append_right _ hm)
  have hlt : a < s.heap.objs.size := lt_of_news S.nw _ (List.mem_append_right _ hm)
  have up : ∀ b o, s.heap.get? b = some o → (s.heap.push { cls := .type "list_iterator", data := .fields #[.ref a, .int 0 0] }).get? b = some o := fun b o e => Heap.get?_push_of_some _ e
  refine wpAny_pyIter_list ht ?_
  have S' : St w h₀ L (s.heap.push { cls := .type "list_iterator", data := .fields #[.ref a, .int 0 0] }) mf mu fz al sg := S.same (S.fr.keeps up) (S.nw.grown up)
  have sz : ws.toArray.size = ds.length := vals_len hv
  refine comp_block (S := SrcAt h₀ a ws.toArray) c h2 hA hR S' R (Walks.list hA.hh s.heap.objs.size a (Nat.ne_of_lt hlt) ws.toArray) sz.symm (by rw [sz]; exact hlen) (fun i h st => by obtain ⟨o, e, _⟩ := st.1; exact ⟨o, e⟩) list_st
    ⟨⟨_, Heap.get?_push_size _ rfl, rfl, rfl⟩, ht.push _⟩ (fun b hb => ?_) (Nat.ne_of_lt S.fr.ns.lt) (next_is_new S.fr) (fun p hp => Nat.ne_of_lt (lt_of_news S.nw p hp)) (fun i v d h1 h2 => ?_) (fun mu' fz' al' X => .inr ⟨_, List.mem_append_right _ (X.ez _ hm), rfl, _, rfl⟩) hw ?_
  · show b < (s.heap.push _).objs.size
    rw [Heap.size_push]
    rcases List.mem_cons.mp hb with rfl | hb
    · exact Nat.lt_succ_self _
    · rw [List.mem_singleton.mp hb]; exact Nat.lt_succ_of_lt hlt
  · obtain ⟨v', h3, h4⟩ := hv.get h1
    have : v = v' := by
      have e : ws.toArray[i]? = some v := h2
      rw [List.getElem?_toArray, h3] at e; exact (Option.some.inj e).symm
    exact this ▸ h4
  · intro D C h tk m' mu' fz' al' v sg' hk S'' X V hn hC hL ho
    exact hq D C h tk m' mu' fz' al' v sg' hk S'' X V hn hC hL ho
theorem comp_range {A : Around} {h₀ : Heap} {L : Addr} {mf m : Str → Option Value} {env : Env} {r : Rho} {elt iter : Expr} {te : T} {x : Str} {px pos : Pos} {nn : Nat} {scope : Scope} {s : Shared} {mu fz : Led} {al : List (Addr × Addr)} {sg : Sto} {K : V → Sto → Prop} {use : Option (Value → Sem Unit)} {Q : Value → Shared → Prop} {ra : Addr} {a b : Int} {t u v : Tok}
    (c : CompOk rs rs' x nn scope) (h2 : SE w l vs ns dd O rs' elt te) (hA : Amb w l vs ns A h₀ L) (hR : Room A dd) (S : St w h₀ L s.heap mf mu fz al sg) (R : EnvR w L mf m env rs mu fz al r) (hr : IsRange s.heap ra a b 1 t u v) (hs : -(2 ^ 31) < a ∧ a < 2 ^ 31 ∧ -(2 ^ 31) < b ∧ b < 2 ^ 31) (hlen : (b - a).toNat < 1000)
    (hw : wpMap (fun v sg' K' => wpe O te (vput r nn v) sg' K') ((upto a (b - a).toNat).map .int) sg (fun ds' sg' => K (.lst ds') sg')) (hq : CPost w A h₀ L mf s mu fz al use K Q) :
    wpAny (model PG w) A (pyIter (.ref ra)) (fun it s₂ => wpAny (model PG w) A (newList []) (fun acc s₃ => wpAny (model PG w) A (newFunctionEnv scope env.globals (clOf env scope.names []) [] env.qual none .none (some env)) (fun cenv s₄ =>
      codeAny (model PG w) A (.compStart (.ListComp elt [⟨.Name x px, iter, [], 0⟩] scope pos) 0 it acc { cenv with scope := relabel scope env }) (compPost (model PG w) A Fa use Q acc cenv.locals) s₄) Fa s₃) Fa s₂) Fa s := by
  have hn := rangeSize_nat a b
  obtain ⟨q1, q2, q3, q4⟩ := hs
  refine wpAny_pyIter_range hr (small_one (by omega) (by omega) (by omega) (by omega)) ?_
  have S' : ∀ o, St w h₀ L (s.heap.push o) mf mu fz al sg := fun o => S.same (S.fr.push o) (S.nw.grown fun _ _ e => Heap.get?_push_of_some _ e)
  refine comp_block (S := fun _ => True) c h2 hA hR (S' _) R (range_walks hA.hh a (b - a).toNat) (by rw [List.length_map, upto_length]) hlen (fun i h st => ⟨_, st⟩) range_st
    (by show IsRangeIter _ _ _ _ _; rw [hn]; simpa using Heap.get?_push_size _ rfl) (fun b hb => ?_) (Nat.ne_of_lt S.fr.ns.lt) (next_is_new S.fr) (fun p hp => Nat.ne_of_lt (lt_of_news S.nw p hp)) (fun i v d h1 h2 => ?_) (fun mu' fz' al' X => trivial) hw ?_
  · rw [List.mem_singleton.mp hb]
    show s.heap.objs.size < (s.heap.push _).objs.size
    rw [Heap.size_push]; exact Nat.lt_succ_self _
  · obtain ⟨t, rfl⟩ := h2
    rw [List.getElem?_map] at h1
    cases hg : (upto a (b - a).toNat)[i]? with
    | none => rw [hg] at h1; cases h1
    | some z =>
      rw [hg] at h1
      cases h1
      rw [upto_get _ _ _ _ hg]
      exact .int _ _
  · intro D C h tk m' mu' fz' al' v sg' hk S'' X V hn hC hL ho
    exact hq D C h tk m' mu' fz' al' v sg' hk S'' X V hn hC hL ho
theorem hnames {scope : Scope} (c : CompOk rs rs' x nn scope) : ∀ y ∈ scope.names, y.2 = .local → scope.names.lookup y.1 = some .local := fun y hy e => lookup_of_mem c.nd (by obtain ⟨a, b⟩ := y; dsimp only at e; subst e; exact hy)
def noSet : Expr → Bool
  | .Set .. => false
  | _ => true
theorem noSet_folded {e : Expr} (h : noSet e = true) (env : Env) (x : Value) : foldedSetIterable e env x = pure x := by
  cases e <;> first | rfl | cases h
theorem cgo_I {elt iter : Expr} {x : Str} {px pos : Pos} {nn : Nat} {scope : Scope} {ti te : T} (c : CompOk rs rs' x nn scope) (hi : noSet iter = true) (h1 : SE w l vs ns dd O rs iter ti) (h2 : SE w l vs ns dd O rs' elt te)
    {A : Around} {h₀ : Heap} {L : Addr} {mf m : Str → Option Value} {env : Env} {s : Shared} {mu fz : Led} {al : List (Addr × Addr)} {r : Rho} {sg : Sto} {K : V → Sto → Prop} {Q : Value → Shared → Prop} {use : Option (Value → Sem Unit)} {p : Pos}
    (hA : Amb w l vs ns A h₀ L) (hR : Room A dd) (S : St w h₀ L s.heap mf mu fz al sg) (R : EnvR w L mf m env rs mu fz al r) (hw : wpe O (.compI nn ti te) r sg K) (hq : CPost w A h₀ L mf s mu fz al use K Q) :
    wpAny (model PG w) A (comprehension (.ListComp elt [⟨.Name x px, iter, [], 0⟩] scope pos) scope env p (newList []) false (eval iter env) use) Q Fa s := by
  refine wpAny_comprehension_free (g := ⟨.Name x px, iter, [], 0⟩) (gs := []) rfl (fun y => noSet_folded hi env y) (closure_cl (R.cells c)) c.kind (hnames c) (h1 A h₀ L mf m env s mu fz al r sg _ _ hA hR S R hw ?_)
  intro val h' tk' mu' fz' al' v sg' hk S' X' V'
  unfold itemsOf at hk
  have hq' : CPost w A h₀ L mf { s with heap := h', toks := tk' } mu' fz' al' use K Q := fun D C h tk m' mu2 fz2 al2 v2 sg2 hk2 S2 X2 V2 hn hC hL ho => hq D C h tk m' mu2 fz2 al2 v2 sg2 hk2 S2 (X'.trans0 X2 S2) V2 hn hC hL ho
  split at hk
  · cases V' with
    | tup hm hv => exact comp_tup c h2 hA hR S' (R.ext S X') hm hv hk.2.1 hk.2.2 hq'
  · cases V' with
    | lst hm hv => exact comp_list c h2 hA hR S' (R.ext S X') hm hv hk.2.1 hk.2.2 hq'
  · exact hk.elim
/-- the call of range ahead of a comprehension or a loop -/
theorem se_range {A : Around} {h₀ : Heap} {L : Addr} {mf m : Str → Option Value} {env : Env} {s : Shared} {mu fz : Led} {al : List (Addr × Addr)} {r : Rho} {sg : Sto} {K : List Int → Sto → Prop} {Q : Value → Shared → Prop} {es : List Expr} {ts : List T} {lo hi : T} {pf p : Pos} {g : Str}
    (hx : rs.lookup g = some (.glob (.type "range"))) (hn : NoStar es) (h1 : SEs w l vs ns dd O rs es ts) (ht : (ts = [hi] ∧ lo = .int 0) ∨ ts = [lo, hi])
    (hA : Amb w l vs ns A h₀ L) (hR : Room A dd) (S : St w h₀ L s.heap mf mu fz al sg) (R : EnvR w L mf m env rs mu fz al r)
    (hw : wpe O lo r sg fun x sg1 => wpe O hi r sg1 fun y sg2 => rangeOf x y fun ks => K ks sg2)
    (hq : ∀ ra a b t u v h' tk' mu' fz' al' sg', K (upto a (b - a).toNat) sg' → (-(2 ^ 31) < a ∧ a < 2 ^ 31 ∧ -(2 ^ 31) < b ∧ b < 2 ^ 31) → IsRange h' ra a b 1 t u v → St w h₀ L h' mf mu' fz' al' sg' → Ext [] mu fz al mu' fz' al' → Q (.ref ra) { s with heap := h', toks := tk' }) :
    wpAny (model PG w) A (eval (.Call (.Name g pf) es [] p) env) Q Fa s := by
  obtain ⟨k, gg⟩ := R.gv _ _ hx
  refine Call_ (loadG hA S R.kind R.glb R.blt k (R.dbg _ _ hx) gg ?_)
  refine callWith_plain (fun a e => by cases e) hn ?_
  rcases ht with ⟨rfl, rfl⟩ | rfl
  · refine h1 A h₀ L mf m env s mu fz al r sg (fun vs sg2 => match vs with | [y] => rangeOf (.int 0) y fun ks => K ks sg2 | _ => False) _ p hA hR S R ?_ ?_
    · unfold wpe at hw
      unfold wpes wpes
      exact hw
    · intro val h' tk' mu' fz' al' v sg' hk S' X' V'
      cases V' with
      | nil => exact hk.elim
      | cons v1 v2 =>
        cases v2 with
        | cons _ _ => exact hk.elim
        | nil =>
          dsimp only at hk
          cases v1 <;> first | exact hk.elim | skip
          refine range1_rows S'.fr S'.nw fun h2 tk t u v hr F N _ => ?_
          exact hq _ _ _ _ _ _ h2 _ _ _ _ _ hk.2 hk.1 hr (S'.same F N) X'
  · refine h1 A h₀ L mf m env s mu fz al r sg (fun vs sg2 => match vs with | [x, y] => rangeOf x y fun ks => K ks sg2 | _ => False) _ p hA hR S R ?_ ?_
    · unfold wpes wpes wpes
      exact hw
    · intro val h' tk' mu' fz' al' v sg' hk S' X' V'
      cases V' with
      | nil => exact hk.elim
      | cons v1 v2 =>
        cases v2 with
        | nil => exact hk.elim
        | cons v2 v3 =>
          cases v3 with
          | cons _ _ => exact hk.elim
          | nil =>
            dsimp only at hk
            cases v1 <;> first | exact hk.elim | skip
            cases v2 <;> first | exact hk.elim | skip
            refine range2_rows S'.fr S'.nw fun h2 tk t u v hr F N _ => ?_
            exact hq _ _ _ _ _ _ h2 _ _ _ _ _ hk.2 hk.1 hr (S'.same F N) X'
theorem cgo_R {elt : Expr} {x g : Str} {px pos pf pr : Pos} {nn : Nat} {scope : Scope} {lo hi te : T} {es : List Expr} {ts : List T} (c : CompOk rs rs' x nn scope)
    (hx : rs.lookup g = some (.glob (.type "range"))) (hn : NoStar es) (h1 : SEs w l vs ns dd O rs es ts) (ht : (ts = [hi] ∧ lo = .int 0) ∨ ts = [lo, hi]) (h2 : SE w l vs ns dd O rs' elt te)
    {A : Around} {h₀ : Heap} {L : Addr} {mf m : Str → Option Value} {env : Env} {s : Shared} {mu fz : Led} {al : List (Addr × Addr)} {r : Rho} {sg : Sto} {K : V → Sto → Prop} {Q : Value → Shared → Prop} {use : Option (Value → Sem Unit)} {p : Pos}
    (hA : Amb w l vs ns A h₀ L) (hR : Room A dd) (S : St w h₀ L s.heap mf mu fz al sg) (R : EnvR w L mf m env rs mu fz al r) (hw : wpe O (.compR nn lo hi te) r sg K) (hq : CPost w A h₀ L mf s mu fz al use K Q) :
    wpAny (model PG w) A (comprehension (.ListComp elt [⟨.Name x px, .Call (.Name g pf) es [] pr, [], 0⟩] scope pos) scope env p (newList []) false (eval (.Call (.Name g pf) es [] pr) env) use) Q Fa s := by
  refine wpAny_comprehension_free (g := ⟨.Name x px, .Call (.Name g pf) es [] pr, [], 0⟩) (gs := []) rfl (fun y => rfl) (closure_cl (R.cells c)) c.kind (hnames c) (se_range hx hn h1 ht hA hR S R hw ?_)
  intro ra a b t u v h' tk' mu' fz' al' sg' hk hs hr S' X'
  rw [upto_length] at hk
  have hq' : CPost w A h₀ L mf { s with heap := h', toks := tk' } mu' fz' al' use K Q := fun D C h tk m' mu2 fz2 al2 v2 sg2 hk2 S2 X2 V2 hn hC hL ho => hq D C h tk m' mu2 fz2 al2 v2 sg2 hk2 S2 (X'.trans0 X2 S2) V2 hn hC hL ho
  exact comp_range c h2 hA hR S' (R.ext S X') hr hs hk.1 hk.2 hq'
/-- a comprehension as a value -/
theorem cpost_none {A : Around} {h₀ : Heap} {L : Addr} {mf : Str → Option Value} {s : Shared} {mu fz : Led} {al : List (Addr × Addr)} {K : V → Sto → Prop} {Q : Value → Shared → Prop}
    (hq : ∀ val h' tk' mu' fz' al' v sg', K v sg' → St w h₀ L h' mf mu' fz' al' sg' → Ext [] mu fz al mu' fz' al' → VR fz' al' val v → Q val { s with heap := h', toks := tk' }) : CPost w A h₀ L mf s mu fz al none K Q :=
  fun D C h tk m' mu' fz' al' v sg' hk S X V hn hC hL ho => ⟨m', hn, fun h'' hs => hq _ _ _ _ _ _ _ _ hk (S.but hs hC hL ho) X V⟩
theorem se_compI {elt iter : Expr} {x : Str} {px pos : Pos} {nn : Nat} {scope : Scope} {ti te : T} (c : CompOk rs rs' x nn scope) (hi : noSet iter = true) (h1 : SE w l vs ns dd O rs iter ti) (h2 : SE w l vs ns dd O rs' elt te) :
    SE w l vs ns dd O rs (.ListComp elt [⟨.Name x px, iter, [], 0⟩] scope pos) (.compI nn ti te) := by
  intro A h₀ L mf m env s mu fz al r sg K Q hA hR S R hw hq
  rw [eval_ListComp]
  exact cgo_I c hi h1 h2 hA hR S R hw (cpost_none hq)
theorem se_compR {elt : Expr} {x g : Str} {px pos pf pr : Pos} {nn : Nat} {scope : Scope} {lo hi te : T} {es : List Expr} {ts : List T} (c : CompOk rs rs' x nn scope)
    (hx : rs.lookup g = some (.glob (.type "range"))) (hn : NoStar es) (h1 : SEs w l vs ns dd O rs es ts) (ht : (ts = [hi] ∧ lo = .int 0) ∨ ts = [lo, hi]) (h2 : SE w l vs ns dd O rs' elt te) :
    SE w l vs ns dd O rs (.ListComp elt [⟨.Name x px, .Call (.Name g pf) es [] pr, [], 0⟩] scope pos) (.compR nn lo hi te) := by
  intro A h₀ L mf m env s mu fz al r sg K Q hA hR S R hw hq
  rw [eval_ListComp]
  exact cgo_R c hx hn h1 ht h2 hA hR S R hw (cpost_none hq)
end
end Mine
end
section
open PySem PySem.W PySem.Calls PyProof.Rows PySem.Spec
namespace Mine
/-! changes of the store -/
def rep (d : Addr) (o' : Obj) (p : Addr × Obj) : Addr × Obj := if p.1 = d then (d, o') else p
theorem rep_key (d : Addr) (o' : Obj) (led : Led) : (led.map (rep d o')).map (·.1) = led.map (·.1) := by
  rw [List.map_map]
  refine List.map_congr_left fun p _ => ?_
  show (rep d o' p).1 = p.1
  unfold rep
  split
  · rename_i e; exact e.symm
  · rfl
theorem rep_ne {d : Addr} {o' : Obj} {led : Led} {p : Addr × Obj} (hp : p ∈ led) (h : p.1 ≠ d) : p ∈ led.map (rep d o') :=
  List.mem_map.mpr ⟨p, hp, if_neg h⟩
theorem rep_eq {d : Addr} {o o' : Obj} {led : Led} (hp : (d, o) ∈ led) : (d, o') ∈ led.map (rep d o') :=
  List.mem_map.mpr ⟨_, hp, if_pos rfl⟩
theorem rep_off {d : Addr} {o' : Obj} {led : Led} (h : ∀ p ∈ led, p.1 ≠ d) : led.map (rep d o') = led := by
  refine (List.map_congr_left (g := id) fun p hp => ?_).trans (List.map_id led)
  exact if_neg (h p hp)
theorem nodup_updF {d : Addr} {o : Obj} : ∀ {led : Led}, (led.map (·.1)).Nodup → (d, o) ∈ led → UpdF d o led fun o' => led.map (rep d o')
  | [], _, h => nomatch h
  | p :: r, nd, h => by
    rw [List.map_cons, List.nodup_cons] at nd
    rcases List.mem_cons.mp h with e | h
    · subst e
      have hr : ∀ q ∈ r, q.1 ≠ d := fun q hq e => nd.1 (e ▸ List.mem_map_of_mem (f := fun x => x.1) hq)
      have e : (fun o' => ((d, o) :: r).map (rep d o')) = fun o' => (d, o') :: r := by
        funext o'
        rw [List.map_cons, rep_off hr]
        show rep d o' (d, o) :: r = _
        rw [rep, if_pos rfl]
      rw [e]
      exact .head hr
    · have hp : p.1 ≠ d := fun e => nd.1 (by rw [e]; exact List.mem_map_of_mem (f := fun x => x.1) h)
      have e : (fun o' => (p :: r).map (rep d o')) = fun o' => p :: r.map (rep d o') := by
        funext o'
        rw [List.map_cons]
        show rep d o' p :: _ = _
        rw [rep, if_neg hp]
      rw [e]
      exact .tail hp (nodup_updF nd.2 h)
section
variable {w : World}
theorem fz_off {mu fz : Led} (nd : ((mu ++ fz).map (·.1)).Nodup) {d : Addr} {o : Obj} (h : (d, o) ∈ mu) : ∀ p ∈ fz, p.1 ≠ d := by
  rw [List.map_append] at nd
  intro p hp e
  exact (List.nodup_append.mp nd).2.2 d (List.mem_map_of_mem (f := fun x => x.1) h) p.1 (List.mem_map_of_mem (f := fun x => x.1) hp) e.symm
theorem OR.grow {mu mu' fz fz' : Led} {al be : List (Addr × Addr)} {a dx : Addr} {oa : OA} (h : OR w mu fz al a dx oa) (hm : ∀ p ∈ mu, p.1 = dx → p ∈ mu') (hs : ∀ p ∈ fz, p ∈ fz') : OR w mu' fz' (al ++ be) a dx oa := by
  cases oa with
  | inst c fs => obtain ⟨h1, es, n, h2, h3⟩ := h; exact ⟨hs _ h1, es, n, hm _ h2 rfl, h3.mono hs⟩
  | lst vs => obtain ⟨rfl, ws, n, h2, h3⟩ := h; exact ⟨rfl, ws, n, hm _ h2 rfl, h3.mono hs⟩
  | dct kvs => obtain ⟨rfl, h0, o, es, h1, h2, h3⟩ := h; exact ⟨rfl, h0, o, es, hm _ h1 rfl, h2, h3.mono hs⟩
/-- an object of the store changes -/
theorem St.upd {h₀ h h' : Heap} {L : Addr} {m : Str → Option Value} {mu fz : Led} {al : List (Addr × Addr)} {sg : Sto} {n : Nat} {a dx : Addr} {o o' : Obj} {oa' : OA} (S : St w h₀ L h m mu fz al sg) (ha : al[n]? = some (a, dx)) (hm : (dx, o) ∈ mu) (F' : Fr h₀ L h' m) (N' : News h₀ L h' ((mu ++ fz).map (rep dx o')))
    (hO : OR w (mu.map (rep dx o')) fz al a dx oa') : St w h₀ L h' m (mu.map (rep dx o')) fz al (sg.set n oa') ∧ Ext [] mu fz al (mu.map (rep dx o')) fz al := by
  have hf : fz.map (rep dx o') = fz := rep_off (fz_off S.nd hm)
  rw [List.map_append, hf] at N'
  refine ⟨⟨F', N', ?_, ⟨by rw [S.sr.len, List.length_set], fun k oa hk => ?_, S.sr.nd⟩⟩, fun _ h => h, fun p hp h1 _ => rep_ne hp fun e => h1 (e ▸ List.mem_map_of_mem (f := fun x => x.2) (List.mem_of_getElem? ha)), [], by simp, by simp⟩
  · rw [List.map_append, rep_key, ← List.map_append]; exact S.nd
  · by_cases e : n = k
    · subst e
      rw [List.getElem?_set] at hk
      rw [if_pos rfl] at hk
      split at hk
      · cases hk; exact ⟨a, dx, ha, hO⟩
      · cases hk
    · rw [List.getElem?_set, if_neg e] at hk
      obtain ⟨a', dx', h1, h2⟩ := S.sr.get k oa hk
      refine ⟨a', dx', h1, h2.mono (fun p hp e' => rep_ne hp fun e'' => e ?_) fun _ h => h⟩
      have ha2 : (al.map (·.2))[n]? = some dx := by rw [List.getElem?_map, ha]; rfl
      have hb2 : (al.map (·.2))[k]? = some dx := by rw [List.getElem?_map, h1]; show some dx' = some dx; rw [← e', e'']
      obtain ⟨hn, q1⟩ := List.getElem?_eq_some_iff.mp ha2
      obtain ⟨hk', q2⟩ := List.getElem?_eq_some_iff.mp hb2
      exact (List.getElem_inj S.sr.nd).mp (q1.trans q2.symm)
/-- an object joins the store -/
theorem St.snoc {h₀ h h' : Heap} {L : Addr} {m : Str → Option Value} {mu fz fz' : Led} {al : List (Addr × Addr)} {sg : Sto} {a dx : Addr} {o : Obj} {oa : OA} (S : St w h₀ L h m mu fz al sg) (F' : Fr h₀ L h' m) (N' : News h₀ L h' ((dx, o) :: mu ++ fz')) (nd : (((dx, o) :: mu ++ fz').map (·.1)).Nodup)
    (hz : ∀ p ∈ fz, p ∈ fz') (off : ∀ p ∈ mu ++ fz, p.1 ≠ dx) (hO : OR w ((dx, o) :: mu) fz' (al ++ [(a, dx)]) a dx oa) : St w h₀ L h' m ((dx, o) :: mu) fz' (al ++ [(a, dx)]) (sg ++ [oa]) ∧ Ext [] mu fz al ((dx, o) :: mu) fz' (al ++ [(a, dx)]) := by
  refine ⟨⟨F', N', nd, ⟨by rw [List.length_append, List.length_append, S.sr.len]; rfl, fun k oa' hk => ?_, ?_⟩⟩, hz, fun p hp _ _ => .tail _ hp, _, rfl, ?_⟩
  · by_cases e : k < sg.length
    · rw [List.getElem?_append_left e] at hk
      obtain ⟨a', dx', h1, h2⟩ := S.sr.get k oa' hk
      exact ⟨a', dx', get_app h1, h2.grow (fun p hp _ => .tail _ hp) hz⟩
    · rw [List.getElem?_append_right (by omega)] at hk
      have hk0 : k - sg.length = 0 := by
        cases hq : k - sg.length with
        | zero => rfl
        | succ j => rw [hq] at hk; simp at hk
      rw [hk0] at hk
      simp only [List.getElem?_cons_zero, Option.some.injEq] at hk
      subst hk
      refine ⟨a, dx, ?_, hO⟩
      rw [List.getElem?_append_right (by rw [S.sr.len]; omega), S.sr.len, hk0]; rfl
  · rw [List.map_append]
    refine List.nodup_append.mpr ⟨S.sr.nd, by simp, fun x hx y hy => ?_⟩
    simp only [List.map_cons, List.map_nil, List.mem_singleton] at hy
    subst hy
    obtain ⟨o', h1, _⟩ := S.sr.live hx
    exact off _ (List.mem_append_left _ h1)
  · intro q hq p hp
    rw [List.mem_singleton.mp hq]
    exact off p hp
theorem nd_new {mu fz : Led} {D : Addr} {o : Obj} (nd : ((mu ++ fz).map (·.1)).Nodup) (l : ∀ p ∈ mu ++ fz, p.1 < D) : (((D, o) :: mu ++ fz).map (·.1)).Nodup := by
  rw [List.cons_append, List.map_cons, List.nodup_cons]
  refine ⟨fun q => ?_, nd⟩
  obtain ⟨p, hp, e⟩ := List.mem_map.mp q
  have := l p hp
  rw [e] at this; exact Nat.lt_irrefl _ this
variable {l : Addr} {vs : List Value} {ns : List Int} {dd : Nat} {O : Orc} {rs rs' : Rs}
theorem se_nlst {pos : Pos} : SE w l vs ns dd O rs (.List [] pos) .nlst := by
  intro A h₀ L mf m env s mu fz al r sg K Q hA hR S R hw hq
  refine List_ (spliced_nil ?_)
  refine newList_N S.fr S.nw (fun h'' F'' N'' => ?_) (by rw [sizeLine_eq]; exact Nat.zero_le _)
  obtain ⟨S'', X''⟩ := S.snoc (a := s.heap.objs.size) (oa := .lst []) F'' N'' (nd_new S.nd (lt_of_news S.nw)) (fun _ h => h) (fun p hp => Nat.ne_of_lt (lt_of_news S.nw p hp)) ⟨rfl, [], 0, .head _, .nil⟩
  exact hq _ _ _ _ _ _ _ _ hw S'' X'' (.obj (by rw [List.getElem?_append_right (by rw [S.sr.len]; omega), S.sr.len, Nat.sub_self]; rfl))
theorem se_ndct {pos : Pos} : SE w l vs ns dd O rs (.Dict [] [] pos) .ndct := by
  intro A h₀ L mf m env s mu fz al r sg K Q hA hR S R hw hq
  obtain ⟨mean, mg, mb, A₀, base, outer, fenv, B, T0, _⟩ := hA.ex
  refine newDict_K S.fr S.nw T0.nolimit fun d h' o F' N' l1 hd _ _ hi _ => ?_
  obtain ⟨S'', X''⟩ := S.snoc (a := d) (oa := .dct []) F' N' (nd_new S.nd l1) (fun _ h => h) (fun p hp => Nat.ne_of_lt (l1 p hp)) ⟨rfl, hd, o, [], .head _, hi, .nil⟩
  exact hq _ _ _ _ _ _ _ _ hw S'' X'' (.obj (by rw [List.getElem?_append_right (by rw [S.sr.len]; omega), S.sr.len, Nat.sub_self]; rfl))
theorem se_neg {i : Int} {k : Nat} {p pos : Pos} : SE w l vs ns dd O rs (.UnaryOp .USub (.Constant (.int i) k p) pos) (.int (-i)) := by
  intro A h₀ L mf m env s mu fz al r sg K Q hA hR S R hw hq
  refine UnaryOp_ (wpAny_Constant_int (neg_int ?_))
  exact hq _ _ _ _ _ _ _ _ hw S .refl (.int _ _)
/-- a field is set -/
theorem set_ok {A : Around} {h₀ : Heap} {L : Addr} {mf : Str → Option Value} {s : Shared} {mu fz : Led} {al : List (Addr × Addr)} {sg : Sto} {Q : Unit → Shared → Prop} {a b : Value} {v d : V} {x : Nat} {K : Sto → Prop} (hA : Amb w l vs ns A h₀ L) (S : St w h₀ L s.heap mf mu fz al sg) (ha : VR fz al a v) (hb : VR fz al b d) (h : sset sg x d v K)
    (hq : ∀ h' tk' mu' sg', K sg' → St w h₀ L h' mf mu' fz al sg' → Ext [] mu fz al mu' fz al → Q () { s with heap := h', toks := tk' }) : wpAny (model PG w) A (setAttr a (fname x) b) Q Fa s := by
  cases v <;> first | exact h.elim | skip
  rename_i n
  cases ha with
  | obj ha =>
    unfold sset at h
    dsimp only at h
    split at h
    · rename_i c fs hn
      obtain ⟨⟨hc, hx, hlen⟩, hk⟩ := h
      obtain ⟨es, k, h1, h2, h3, I⟩ := inst_at S hn ha
      obtain ⟨K₁, kin, kay⟩ := hA.kin
      have ok := okCls_of kay hc hx
      unfold okCls at ok
      simp only [Bool.and_eq_true, beq_iff_eq] at ok
      obtain ⟨⟨⟨⟨⟨o1, o2⟩, o3⟩, o4⟩, o5⟩, o6⟩ := ok
      have hp := h2.put hx (hsh := PyData.keyHash w.params (fname x)) (t := s.toks + 1) hb
      refine set_dict (es' := putL (fname x) (PyData.keyHash w.params (fname x)) (.str (fname x) (s.toks + 1)) b es) (n' := putN (fname x) es k) S.fr kin S.nw I rfl o6 o5 o4 o2 (h2.isSome _) rfl (nodup_upd S.nd (List.mem_append_left _ h1)) ?_ fun h' F' N' => ?_
      · rw [hp.length]
        have : ∀ fs : List (Nat × V), (putF x d fs).length ≤ fs.length + 1 := by
          intro fs
          induction fs with
          | nil => exact Nat.le_refl _
          | cons p r ih =>
            unfold putF
            split
            · simp
            · simp only [List.length_cons]; omega
        have := this fs
        omega
      · obtain ⟨S', X'⟩ := S.upd (oa' := .inst c (putF x d fs)) ha h1 F' N' ⟨h3, _, _, rep_eq h1, hp⟩
        exact hq _ _ _ _ hk S' X'
    · exact h.elim
/-- an entry is set -/
theorem seti_ok {A : Around} {h₀ : Heap} {L : Addr} {mf : Str → Option Value} {s : Shared} {mu fz : Led} {al : List (Addr × Addr)} {sg : Sto} {Q : Unit → Shared → Prop} {a b i : Value} {v d e : V} {K : Sto → Prop} (S : St w h₀ L s.heap mf mu fz al sg) (ha : VR fz al a v) (hi : VR fz al i e) (hb : VR fz al b d) (h : sseti sg d v e K)
    (hq : ∀ h' tk' mu' sg', K sg' → St w h₀ L h' mf mu' fz al sg' → Ext [] mu fz al mu' fz al → Q () { s with heap := h', toks := tk' }) : wpAny (model PG w) A (setItem a i b) Q Fa s := by
  unfold sseti at h
  split at h
  · rename_i n k
    split at h
    · rename_i kvs hn
      obtain ⟨⟨hk1, hk2⟩, hk⟩ := h
      cases hi
      cases ha with
      | obj ha =>
        obtain ⟨a', dx', h1, h2⟩ := S.sr.get n _ hn
        rw [ha] at h1
        cases h1
        obtain ⟨rfl, h0, o, es, h4, h5, h6⟩ := h2
        have hst : stored es k b = es ++ [(k, b)] := by
          unfold stored
          rw [if_neg]
          intro hany
          obtain ⟨p, hp, he⟩ := List.any_eq_true.mp hany
          refine hk1 ?_
          rw [← h6.keys]
          exact List.mem_map.mpr ⟨p, hp, by simpa using he⟩
        refine kda_set S.fr S.nw (nodup_updF S.nd (List.mem_append_left _ h4)) h5 (intKind_is _ _ _ _) (by rw [h6.length, sizeLine_eq]; omega) fun h' o' F' N' h5' => ?_
        rw [hst] at h5'
        obtain ⟨S', X'⟩ := S.upd (oa' := .dct (kvs ++ [(k, d)])) ha h4 F' N' ⟨rfl, h0, o', _, rep_eq h4, h5', h6.snoc hb⟩
        exact hq _ _ _ _ hk S' X'
    · exact h.elim
  · exact h.elim
/-- an item is appended -/
theorem app_ok {A : Around} {h₀ : Heap} {L : Addr} {mf : Str → Option Value} {s : Shared} {mu fz : Led} {al : List (Addr × Addr)} {sg : Sto} {Q : Value → Shared → Prop} {a : Addr} {b : Value} {v d : V} {K : Sto → Prop} (S : St w h₀ L s.heap mf mu fz al sg) (ha : VR fz al (.ref a) v) (hb : VR fz al b d) (h : sapp sg d v K)
    (hq : ∀ val h' tk' mu' sg', K sg' → St w h₀ L h' mf mu' fz al sg' → Ext [] mu fz al mu' fz al → Q val { s with heap := h', toks := tk' }) : wpAny (model PG w) A (call (.builtin "list.append") [.ref a, b]) Q Fa s := by
  unfold sapp at h
  split at h
  · rename_i n
    split at h
    · rename_i ds hn
      obtain ⟨hk1, hk⟩ := h
      cases ha with
      | obj ha =>
        obtain ⟨a', dx', h1, h2⟩ := S.sr.get n _ hn
        rw [ha] at h1
        cases h1
        obtain ⟨rfl, ws, k, h4, h5⟩ := h2
        have hlen := h5.length
        refine append_K (n := k) (its := ws.toArray) S.fr S.nw (nodup_upd S.nd (List.mem_append_left _ h4)) (fun h' F' N' => ?_) (by rw [List.size_toArray, sizeLine_eq]; omega)
        obtain ⟨S', X'⟩ := S.upd (oa' := .lst (ds ++ [d])) ha h4 F' N' ⟨rfl, ws ++ [b], _, by rw [← List.push_toArray]; exact rep_eq h4, h5.append (.cons hb .nil)⟩
        exact hq _ _ _ _ _ hk S' X'
    · exact h.elim
  · exact h.elim
end
end Mine
end
section
open PySem PySem.W PySem.Calls PyProof.Rows PySem.Spec
namespace Mine
def lvOf (rs : Rs) (env : Env) : List Addr := rs.filterMap fun p => match p.2 with
  | .cel _ => env.cells.lookup p.1
  | _ => none
inductive FlR (fz : Led) (al : List (Addr × Addr)) : Flow → Option V → Prop
  | next : FlR fz al .next none
  | ret {val : Value} {v : V} : VR fz al val v → FlR fz al (.ret val) (some v)
section
variable {w : World} {l : Addr} {vs : List Value} {ns : List Int} {dd : Nat} {O : Orc} {rs : Rs}
theorem lv_cell {L : Addr} {mf m : Str → Option Value} {env : Env} {mu fz : Led} {al : List (Addr × Addr)} {r : Rho} (R : EnvR w L mf m env rs mu fz al r) {c : Addr} (h : c ∈ lvOf rs env) : ∃ x n o cv, rs.lookup x = some (.cel n) ∧ env.cells.lookup x = some c ∧ (c, o) ∈ mu ∧ o.data = .cell cv := by
  obtain ⟨p, hp, he⟩ := List.mem_filterMap.mp h
  obtain ⟨x, rv⟩ := p
  cases rv with
  | var n => cases he
  | glob v => cases he
  | cel n =>
    have hx := lookup_of_mem R.nd hp
    obtain ⟨_, c', o, cv, h1, h2, h3⟩ := R.kcel x n hx
    have e : env.cells.lookup x = some c := he
    rw [h1] at e
    cases e
    exact ⟨x, n, o, cv, hx, h1, h2, h3⟩
theorem lv_off {h₀ h : Heap} {L : Addr} {mf : Str → Option Value} {env : Env} {mu fz : Led} {al : List (Addr × Addr)} {r : Rho} {sg : Sto} (S : St w h₀ L h mf mu fz al sg) {m : Str → Option Value} (R : EnvR w L mf m env rs mu fz al r) : ∀ a ∈ lvOf rs env, a ∉ al.map (·.2) := fun a ha => by
  obtain ⟨x, n, o, cv, _, _, h1, h2⟩ := lv_cell R ha
  exact S.cell_off h1 h2
/-- a name is bound -/
theorem store_ok {A : Around} {h₀ : Heap} {L : Addr} {mf : Str → Option Value} {env : Env} {s : Shared} {mu fz : Led} {al : List (Addr × Addr)} {r : Rho} {sg : Sto} {Q : Unit → Shared → Prop} {E : Value → Shared → Prop} {x : Str} {rv : RV} {n : Nat} {val : Value} {d : V} (hL : env.locals = L) (S : St w h₀ L s.heap mf mu fz al sg) (R : EnvR w L mf mf env rs mu fz al r)
    (hx : rs.lookup x = some rv) (hn : rv.ix = some n) (hv : VR fz al val d)
    (hq : ∀ h' tk' mf' mu', St w h₀ L h' mf' mu' fz al sg → EnvR w L mf' mf' env rs mu' fz al (vput r n d) → Ext (lvOf rs env) mu fz al mu' fz al → Q () { s with heap := h', toks := tk' }) : wpAny (model PG w) A (storeName env x val) Q E s := by
  have hp : (env.scope.kind == .class || (env.scope.kind == .module && env.locals != env.globals)) = false := by rw [R.kind]; rfl
  have ne : ∀ {y : Str} {u : RV} {k : Nat}, rs.lookup y = some u → u.ix = some k → y ≠ x → k ≠ n := fun hy hk hne e => hne (R.inj _ _ _ _ n hy hx (by rw [hk, e]) hn)
  cases rv with
  | glob v => cases hn
  | var n' =>
    cases hn
    have hns : s.heap.Ns env.locals mf := by rw [hL]; exact S.fr.ns
    refine wpAny_storeName_local (R.kvar _ _ hx) hns (fun h' hn' hs => ?_) hp
    rw [hL] at hn' hs
    refine hq h' _ _ mu ⟨S.fr.set hn' hs, S.nw.set hs, S.nd, S.sr⟩ ?_ .refl
    refine { R with var := ?_, cel := ?_, loc := .inl ⟨hL, rfl⟩ }
    · intro y k v h1 h2
      by_cases e : y = x
      · subst e
        rw [hx] at h1; cases h1
        rw [vget_put_same] at h2; cases h2
        exact ⟨val, if_pos rfl, hv⟩
      · rw [vget_put_ne _ _ _ _ (ne h1 rfl e)] at h2
        obtain ⟨u, a, b⟩ := R.var y k v h1 h2
        exact ⟨u, (if_neg e).trans a, b⟩
    · intro y k v h1 h2
      have e : y ≠ x := fun e => by subst e; rw [hx] at h1; cases h1
      rw [vget_put_ne _ _ _ _ (ne h1 rfl e)] at h2
      exact R.cel y k v h1 h2
  | cel n' =>
    cases hn
    obtain ⟨hk, c, o, cv, hc, hm, hd⟩ := R.kcel x n hx
    have hN := S.nw _ (List.mem_append_left fz hm)
    refine wpAny_storeName_cell R.kind hk hc ⟨o, hN.1, hd⟩ fun h' hc' hs => ?_
    obtain ⟨o', ho', hd'⟩ := hc'
    have hcal := S.cell_off hm hd
    have hf : fz.map (rep c o') = fz := rep_off (fz_off S.nd hm)
    have S' : St w h₀ L h' mf (mu.map (rep c o')) fz al sg := by
      refine ⟨S.fr.change hs hN.2.1 hN.2.2, ?_, ?_, S.sr.mono (fun p hp hq => rep_ne hp fun e => hcal (e ▸ hq)) fun _ h => h⟩
      · intro p hp
        rw [← hf, ← List.map_append] at hp
        obtain ⟨q, hq, rfl⟩ := List.mem_map.mp hp
        unfold rep
        split
        · rename_i e; exact ⟨ho', hN.2⟩
        · rename_i e; exact ⟨hs.extBut _ _ e (S.nw q hq).1, (S.nw q hq).2⟩
      · rw [List.map_append, rep_key, ← List.map_append]; exact S.nd
    refine hq h' s.toks mf _ S' ?_ ⟨fun _ h => h, fun p hp _ h2 => rep_ne hp fun e => h2 ?_, [], by simp, by simp⟩
    · refine { R with var := ?_, cel := ?_, kcel := ?_, loc := .inl ⟨hL, rfl⟩ }
      · intro y k v h1 h2
        have e : y ≠ x := fun e => by subst e; rw [hx] at h1; cases h1
        rw [vget_put_ne _ _ _ _ (ne h1 rfl e)] at h2
        exact R.var y k v h1 h2
      · intro y k v h1 h2
        by_cases e : y = x
        · subst e
          rw [hx] at h1; cases h1
          rw [vget_put_same] at h2; cases h2
          exact ⟨c, o', val, hc, rep_eq hm, hd', hv⟩
        · rw [vget_put_ne _ _ _ _ (ne h1 rfl e)] at h2
          obtain ⟨c', o'', u, a, b, z⟩ := R.cel y k v h1 h2
          exact ⟨c', o'', u, a, rep_ne b fun e' => e (R.cinj y x k n c h1 hx (e' ▸ a) hc), z⟩
      · intro y k h1
        obtain ⟨q, c', o'', cv', a, b, z⟩ := R.kcel y k h1
        by_cases e : y = x
        · subst e
          rw [hc] at a; cases a
          exact ⟨q, c, o', _, hc, rep_eq hm, hd'⟩
        · exact ⟨q, c', o'', cv', a, rep_ne b fun e' => e (R.cinj y x k n c h1 hx (e' ▸ a) hc), z⟩
    · rw [e]
      exact List.mem_filterMap.mpr ⟨(x, .cel n), mem_of_lookup hx, hc⟩

def SS1 (w : World) (l : Addr) (vs : List Value) (ns : List Int) (dd : Nat) (O : Orc) (rs : Rs) (st : Stmt) (t : S) : Prop :=
  ∀ (A : Around) (h₀ : Heap) (L : Addr) (mf : Str → Option Value) (env : Env) (s : Shared) (mu fz : Led) (al : List (Addr × Addr)) (r : Rho) (sg : Sto) (K : Kf) (Q : Flow → Shared → Prop),
    Amb w l vs ns A h₀ L → Room A dd → env.locals = L → St w h₀ L s.heap mf mu fz al sg → EnvR w L mf mf env rs mu fz al r → wps1 O t r sg K →
    (∀ fl flv h' tk' mf' mu' fz' al' r' sg', K flv r' sg' → FlR fz' al' fl flv → St w h₀ L h' mf' mu' fz' al' sg' → EnvR w L mf' mf' env rs mu' fz' al' r' → Ext (lvOf rs env) mu fz al mu' fz' al' → Q fl { s with heap := h', toks := tk' }) →
    wpAny (model PG w) A (exec st env) Q Fa s
def SS (w : World) (l : Addr) (vs : List Value) (ns : List Int) (dd : Nat) (O : Orc) (rs : Rs) (st : List Stmt) (t : List S) : Prop :=
  ∀ (A : Around) (h₀ : Heap) (L : Addr) (mf : Str → Option Value) (env : Env) (s : Shared) (mu fz : Led) (al : List (Addr × Addr)) (r : Rho) (sg : Sto) (K : Kf) (Q : Flow → Shared → Prop),
    Amb w l vs ns A h₀ L → Room A dd → env.locals = L → St w h₀ L s.heap mf mu fz al sg → EnvR w L mf mf env rs mu fz al r → wps O t r sg K →
    (∀ fl flv h' tk' mf' mu' fz' al' r' sg', K flv r' sg' → FlR fz' al' fl flv → St w h₀ L h' mf' mu' fz' al' sg' → EnvR w L mf' mf' env rs mu' fz' al' r' → Ext (lvOf rs env) mu fz al mu' fz' al' → Q fl { s with heap := h', toks := tk' }) →
    wpAny (model PG w) A (execs st env) Q Fa s
theorem Ext.tr {h₀ h : Heap} {L : Addr} {mf m : Str → Option Value} {env : Env} {r : Rho} {sg : Sto} {mu fz mu₁ fz₁ mu₂ fz₂ : Led} {al al₁ al₂ : List (Addr × Addr)} (e : Ext (lvOf rs env) mu fz al mu₁ fz₁ al₁) (f : Ext (lvOf rs env) mu₁ fz₁ al₁ mu₂ fz₂ al₂) (S : St w h₀ L h mf mu₂ fz₂ al₂ sg) (R : EnvR w L mf m env rs mu₂ fz₂ al₂ r) : Ext (lvOf rs env) mu fz al mu₂ fz₂ al₂ :=
  e.trans f S.sr.nd (lv_off S R)
theorem Ext.up {lv : List Addr} {mu fz mu₁ fz₁ : Led} {al al₁ : List (Addr × Addr)} (e : Ext [] mu fz al mu₁ fz₁ al₁) : Ext lv mu fz al mu₁ fz₁ al₁ := e.wider fun _ h => nomatch h
theorem ss_nil : SS w l vs ns dd O rs [] [] := by
  intro A h₀ L mf env s mu fz al r sg K Q hA hR hL S R hw hq
  exact wpAny_execs_nil (hq _ _ _ _ _ _ _ _ _ _ hw .next S R .refl)
theorem ss_cons {st : Stmt} {ss : List Stmt} {t : S} {ts : List S} (h1 : SS1 w l vs ns dd O rs st t) (h2 : SS w l vs ns dd O rs ss ts) : SS w l vs ns dd O rs (st :: ss) (t :: ts) := by
  intro A h₀ L mf env s mu fz al r sg K Q hA hR hL S R hw hq
  refine wpAny_execs_cons (h1 A h₀ L mf env s mu fz al r sg _ _ hA hR hL S R hw ?_)
  intro fl flv h' tk' mf' mu' fz' al' r' sg' hk hf S' R' X'
  cases hf with
  | next =>
    refine h2 A h₀ L mf' env _ mu' fz' al' r' sg' _ _ hA hR hL S' R' hk ?_
    intro fl2 flv2 h2 tk2 mf2 mu2 fz2 al2 r2 sg2 hk2 hf2 S2 R2 X2
    exact hq _ _ _ _ _ _ _ _ _ _ hk2 hf2 S2 R2 (X'.tr X2 S2 R2)
  | ret hv => exact hq _ _ _ _ _ _ _ _ _ _ hk (.ret hv) S' R' X'
def notComp : Expr → Bool
  | .ListComp .. => false
  | .SetComp .. => false
  | .DictComp .. => false
  | _ => true
theorem notComp_swaps {e : Expr} (h : notComp e = true) (t : Option Expr) (n : Nat) (env : Env) : swapsWith e t n env = pure false := by
  cases e <;> first | rfl | cases h
theorem ss_asn {x : Str} {rv : RV} {n : Nat} {e : Expr} {t : T} {p pos : Pos} (hc : notComp e = true) (hx : rs.lookup x = some rv) (hn : rv.ix = some n) (h1 : SE w l vs ns dd O rs e t) : SS1 w l vs ns dd O rs (.Assign [.Name x p] e pos) (.asn n t) := by
  intro A h₀ L mf env s mu fz al r sg K Q hA hR hL S R hw hq
  refine wpAny_Assign_Name (h1 A h₀ L mf mf env s mu fz al r sg _ _ hA hR S R hw ?_) (notComp_swaps hc _ _ _)
  intro val h' tk' mu' fz' al' v sg' hk S' X' V'
  refine store_ok hL S' (R.ext S X') hx hn V' fun h2 tk2 mf2 mu2 S2 R2 X2 => ?_
  exact hq _ _ _ _ _ _ _ _ _ _ hk .next S2 R2 (X'.up.tr X2 S2 R2)
theorem ss_ret {e : Expr} {t : T} {pos : Pos} (h1 : SE w l vs ns dd O rs e t) : SS1 w l vs ns dd O rs (.Return (some e) pos) (.ret t) := by
  intro A h₀ L mf env s mu fz al r sg K Q hA hR hL S R hw hq
  refine wpAny_Return_some (h1 A h₀ L mf mf env s mu fz al r sg _ _ hA hR S R hw ?_)
  intro val h' tk' mu' fz' al' v sg' hk S' X' V'
  exact hq _ _ _ _ _ _ _ _ _ _ hk (.ret V') S' (R.ext S X') X'.up
theorem ss_sat {o e : Expr} {to te : T} {x : Nat} {p pos : Pos} (hc : notComp e = true) (h1 : SE w l vs ns dd O rs e te) (h2 : SE w l vs ns dd O rs o to) : SS1 w l vs ns dd O rs (.Assign [.Attribute o (fname x) p] e pos) (.sat to x te) := by
  intro A h₀ L mf env s mu fz al r sg K Q hA hR hL S R hw hq
  refine plainObj_wpAny_Assign_Attribute (h1 A h₀ L mf mf env s mu fz al r sg _ _ hA hR S R hw ?_) (notComp_swaps hc _ _ _)
  intro val h' tk' mu' fz' al' v sg' hk S' X' V'
  refine h2 A h₀ L mf mf env _ mu' fz' al' r sg' _ _ hA hR S' (R.ext S X') hk ?_
  intro val2 h2 tk2 mu2 fz2 al2 v2 sg2 hk2 S2 X2 V2
  refine set_ok hA S2 V2 (X2.vr V') hk2 fun h3 tk3 mu3 sg3 hk3 S3 X3 => ?_
  exact hq _ _ _ _ _ _ _ _ _ _ hk3 .next S3 (((R.ext S X').ext S' X2).ext S2 X3) ((X'.trans0 X2 S2).trans0 X3 S3).up
theorem ss_sit {o i e : Expr} {to ti te : T} {p pos : Pos} (hc : notComp e = true) (h1 : SE w l vs ns dd O rs e te) (h2 : SE w l vs ns dd O rs o to) (h3 : SE w l vs ns dd O rs i ti) : SS1 w l vs ns dd O rs (.Assign [.Subscript o i p] e pos) (.sit to ti te) := by
  intro A h₀ L mf env s mu fz al r sg K Q hA hR hL S R hw hq
  refine wpAny_Assign_Subscript (h1 A h₀ L mf mf env s mu fz al r sg _ _ hA hR S R hw ?_) (notComp_swaps hc _ _ _)
  intro val h' tk' mu' fz' al' v sg' hk S' X' V'
  refine h2 A h₀ L mf mf env _ mu' fz' al' r sg' _ _ hA hR S' (R.ext S X') hk ?_
  intro val2 h2 tk2 mu2 fz2 al2 v2 sg2 hk2 S2 X2 V2
  refine h3 A h₀ L mf mf env _ mu2 fz2 al2 r sg2 _ _ hA hR S2 ((R.ext S X').ext S' X2) hk2 ?_
  intro val3 h3 tk3 mu3 fz3 al3 v3 sg3 hk3 S3 X3 V3
  refine seti_ok S3 (X3.vr V2) V3 (X3.vr (X2.vr V')) hk3 fun h4 tk4 mu4 sg4 hk4 S4 X4 => ?_
  exact hq _ _ _ _ _ _ _ _ _ _ hk4 .next S4 ((((R.ext S X').ext S' X2).ext S2 X3).ext S3 X4) (((X'.trans0 X2 S2).trans0 X3 S3).trans0 X4 S4).up
theorem ss_ite {c : Expr} {a b : List Stmt} {tc : T} {ta tb : List S} {pos : Pos} (h0 : SB w l vs ns dd O rs c tc) (h1 : SS w l vs ns dd O rs a ta) (h2 : SS w l vs ns dd O rs b tb) : SS1 w l vs ns dd O rs (.If c a b pos) (.ite tc ta tb) := by
  intro A h₀ L mf env s mu fz al r sg K Q hA hR hL S R hw hq
  refine wpAny_If (h0 A h₀ L mf mf env s mu fz al r sg _ _ hA hR S R hw ?_)
  intro z h' tk' mu' fz' al' sg' hk S' X'
  cases z with
  | true =>
    rw [if_pos rfl]
    refine h1 A h₀ L mf env _ mu' fz' al' r sg' _ _ hA hR hL S' (R.ext S X') (hk.1 rfl) ?_
    intro fl2 flv2 h2 tk2 mf2 mu2 fz2 al2 r2 sg2 hk2 hf2 S2 R2 X2
    exact hq _ _ _ _ _ _ _ _ _ _ hk2 hf2 S2 R2 (X'.up.tr X2 S2 R2)
  | false =>
    rw [if_neg (by decide)]
    refine h2 A h₀ L mf env _ mu' fz' al' r sg' _ _ hA hR hL S' (R.ext S X') (hk.2 rfl) ?_
    intro fl2 flv2 h2 tk2 mf2 mu2 fz2 al2 r2 sg2 hk2 hf2 S2 R2 X2
    exact hq _ _ _ _ _ _ _ _ _ _ hk2 hf2 S2 R2 (X'.up.tr X2 S2 R2)
theorem ss_no {st : Stmt} : SS1 w l vs ns dd O rs st .no := by
  intro A h₀ L mf env s mu fz al r sg K Q hA hR hL S R hw hq
  exact hw.elim
end
end Mine
end
section
open PySem PySem.W PySem.Calls PyProof.Rows PySem.Spec
open PyProof.Rows.LCg
namespace Mine
/-- the targets of an unpacking -/
inductive Tg (rs : Rs) : List Str → List Nat → Prop
  | nil : Tg rs [] []
  | cons {x : Str} {rv : RV} {n : Nat} {xs : List Str} {nn : List Nat} : rs.lookup x = some rv → rv.ix = some n → Tg rs xs nn → Tg rs (x :: xs) (n :: nn)
theorem Tg.length {rs : Rs} {xs : List Str} {nn : List Nat} (h : Tg rs xs nn) : xs.length = nn.length := by
  induction h with
  | nil => rfl
  | cons _ _ _ ih => rw [List.length_cons, List.length_cons, ih]
theorem Tg.app {rs : Rs} {xs ys : List Str} {nn mm : List Nat} (h : Tg rs xs nn) (k : Tg rs ys mm) : Tg rs (xs ++ ys) (nn ++ mm) := by
  induction h with
  | nil => exact k
  | cons a b _ ih => exact .cons a b ih
theorem Tg.rev {rs : Rs} {xs : List Str} {nn : List Nat} (h : Tg rs xs nn) : Tg rs xs.reverse nn.reverse := by
  induction h with
  | nil => exact .nil
  | cons a b _ ih => rw [List.reverse_cons, List.reverse_cons]; exact ih.app (.cons a b .nil)
theorem VRs.rev {fz : Led} {al : List (Addr × Addr)} {vs : List Value} {ds : List V} (h : VRs fz al vs ds) : VRs fz al vs.reverse ds.reverse := by
  induction vs generalizing ds with
  | nil => cases h; exact .nil
  | cons v vs ih => cases h with | cons h r => rw [List.reverse_cons, List.reverse_cons]; exact (ih r).append (.cons h .nil)
def namesOf : List Expr → Option (List Str)
  | [] => some []
  | .Name x _ :: r => (namesOf r).map (x :: ·)
  | _ => none
theorem namesOf_each : ∀ {es : List Expr} {xs : List Str} (env : Env), namesOf es = some xs → ∃ ps : List Pos, ps.length = xs.length ∧ assignEach es env = (xs.zip ps).map fun p => (false, assign (.Name p.1 p.2) env)
  | [], xs, env, h => by cases h; exact ⟨[], rfl, rfl⟩
  | e :: es, xs, env, h => by
    cases e <;> try (cases h; done)
    rename_i x p
    unfold namesOf at h
    cases hr : namesOf es with
    | none => rw [hr] at h; cases h
    | some ys =>
      rw [hr] at h
      cases h
      obtain ⟨ps, h1, h2⟩ := namesOf_each env hr
      refine ⟨p :: ps, by rw [List.length_cons, List.length_cons, h1], ?_⟩
      show (false, assign (.Name x p) env) :: assignEach es env = _
      rw [h2]; rfl
section
variable {w : World} {l : Addr} {vs : List Value} {ns : List Int} {dd : Nat} {O : Orc} {rs rs' : Rs}
/-- names bound one behind another -/
theorem stores_ok {A : Around} {h₀ : Heap} {L : Addr} {env : Env} {E : Value → Shared → Prop} {Q : Unit → Shared → Prop} {mu₀ : Led} {fz : Led} {al : List (Addr × Addr)} {sg : Sto} {s₀ : Shared} (hL : env.locals = L) :
    ∀ {xs : List Str} {nn : List Nat} {vals : List Value} {ds : List V} {fs : List (Value → Sem Unit)} {mf : Str → Option Value} {mu : Led} {r : Rho} {h : Heap} {tk : Nat}, Tg rs xs nn → VRs fz al vals ds → xs.length = ds.length → (∀ (k : Nat) (x : Str), xs[k]? = some x → ∃ f : Value → Sem Unit, fs[k]? = some f ∧ ∀ v s (Q : Unit → Shared → Prop), wpAny (model PG w) A (storeName env x v) Q E s → wpAny (model PG w) A (f v) Q E s) → fs.length = xs.length →
      St w h₀ L h mf mu fz al sg → EnvR w L mf mf env rs mu fz al r → Ext (lvOf rs env) mu₀ fz al mu fz al →
      (∀ h' tk' mf' mu', St w h₀ L h' mf' mu' fz al sg → EnvR w L mf' mf' env rs mu' fz al (vputs r nn ds) → Ext (lvOf rs env) mu₀ fz al mu' fz al → Q () { s₀ with heap := h', toks := tk' }) →
      wpAny (model PG w) A (assignInOrder fs vals) Q E { s₀ with heap := h, toks := tk } := by
  intro xs
  induction xs with
  | nil =>
    intro nn vals ds fs mf mu r h tk ht hv hlen hf hfl S R X hq
    cases ht
    cases ds with
    | cons _ _ => cases hlen
    | nil =>
      cases hv
      cases fs with
      | cons _ _ => cases hfl
      | nil => exact assignInOrder_nil (hq _ _ _ _ S R X)
  | cons x xs ih =>
    intro nn vals ds fs mf mu r h tk ht hv hlen hf hfl S R X hq
    cases ht with
    | cons h1 h2 h3 =>
      cases hv with
      | nil => cases hlen
      | cons hv hvs =>
        cases fs with
        | nil => cases hfl
        | cons f fs =>
          obtain ⟨f', e, hf0⟩ := hf 0 x (by simp)
          cases e
          refine assignInOrder_cons (hf0 _ _ _ (store_ok hL S R h1 h2 hv fun h2 tk2 mf2 mu2 S2 R2 X2 => ?_))
          exact ih h3 hvs (by simpa using hlen) (fun k y hy => hf (k + 1) y (by simpa using hy)) (by simpa using hfl) S2 R2 (X.tr X2 S2 R2) hq
theorem ss_unp {elts : List Expr} {xs : List Str} {nn : List Nat} {k : Nat} {e : Expr} {t : T} {tp pos : Pos} (hns : namesOf elts = some xs) (ht : Tg rs xs nn) (hs : ∀ env, swapsWithSole [.Tuple elts k tp] e pos.line env = pure false) (hw : ∀ env, swappedStores [.Tuple elts k tp] e env = pure none) (h1 : SE w l vs ns dd O rs e t) :
    SS1 w l vs ns dd O rs (.Assign [.Tuple elts k tp] e pos) (.unp nn t) := by
  intro A h₀ L mf env s mu fz al r sg K Q hA hR hL S R hww hq
  refine Assign_Tuple (h1 A h₀ L mf mf env s mu fz al r sg _ _ hA hR S R hww ?_) (hs env) (hw env)
  intro val h' tk' mu' fz' al' v sg' hk S' X' V'
  cases v <;> first | exact hk.elim | skip
  rename_i ds
  obtain ⟨hlen, hk⟩ := hk
  cases V' with
  | lst hm hv =>
    obtain ⟨ps, e1, e2⟩ := namesOf_each env hns
    have tl := ht.length
    have vl := hv.length
    refine kun_list S'.fr S'.nw (News.isList S'.nw (List.mem_append_right _ hm)) hA.hh (by rw [e2, List.length_map, List.length_zip, e1, List.size_toArray, vl]; omega) (by rw [e2, List.findIdx?_map]; exact List.findIdx?_eq_none_iff.mpr (fun _ _ => rfl)) fun h2 F2 N2 => ?_
    have S2 := S'.same F2 N2
    refine stores_ok (rs := rs) (fz := fz') (al := al') (sg := sg') (s₀ := s) (xs := xs) (nn := nn) hL ht (ds := ds) (by simpa using hv) (by omega) (fun j x hx => ?_) ?_ S2 (R.ext S X') .refl ?_
    · rw [e2, List.map_map, List.getElem?_map]
      obtain ⟨hj, _⟩ := List.getElem?_eq_some_iff.mp hx
      obtain ⟨p, hp⟩ : ∃ p, ps[j]? = some p := ⟨_, List.getElem?_eq_getElem (by omega)⟩
      rw [List.getElem?_zip_eq_some (z := (x, p)) |>.mpr ⟨hx, hp⟩]
      exact ⟨_, rfl, fun v s Q h => wpAny_assign_Name h⟩
    · rw [e2, List.length_map, List.length_map, List.length_zip, e1]; omega
    · intro h3 tk3 mf3 mu3 S3 R3 X3
      exact hq _ _ _ _ _ _ _ _ _ _ hk .next S3 R3 (X'.up.tr X3 S3 R3)
/-- a display's items bound from behind -/
theorem unpR_core {elts : List Expr} {names : List Str} {nn : List Nat} {k : Nat} {e : Expr} {t : T} {tp pos : Pos} (ht : Tg rs names nn) (hs : ∀ env, swapsWithSole [.Tuple elts k tp] e pos.line env = pure false) (hw : ∀ {L : Addr} {m mf : Str → Option Value} {env : Env} {mu fz : Led} {al : List (Addr × Addr)} {r : Rho}, EnvR w L mf m env rs mu fz al r → swappedStores [.Tuple elts k tp] e env = pure (some names)) (h1 : SE w l vs ns dd O rs e t) :
    SS1 w l vs ns dd O rs (.Assign [.Tuple elts k tp] e pos) (.unpR nn t) := by
  intro A h₀ L mf env s mu fz al r sg K Q hA hR hL S R hww hq
  refine Assign_Tuple_swapped (names := names) (h1 A h₀ L mf mf env s mu fz al r sg _ _ hA hR S R hww ?_) (hs env) (hw R)
  intro val h' tk' mu' fz' al' v sg' hk S' X' V'
  cases v <;> first | exact hk.elim | skip
  rename_i ds
  obtain ⟨hlen, hk⟩ := hk
  cases V' with
  | tup hm hv =>
    have tl := ht.length
    have vl := hv.length
    refine unpackItemsN_ S'.fr S'.nw (News.isTup S'.nw (List.mem_append_right _ hm)) hA.hh (by rw [List.size_toArray, vl]; omega) fun h2 F2 N2 => ?_
    have S2 := S'.same F2 N2
    refine stores_ok (rs := rs) (fz := fz') (al := al') (sg := sg') (s₀ := s) (xs := names.reverse) (nn := nn.reverse) hL ht.rev (ds := ds.reverse) (by simpa using hv.rev) (by rw [List.length_reverse, List.length_reverse]; omega) (fun j x hx => ?_) (by rw [List.length_map]) S2 (R.ext S X') .refl ?_
    · rw [List.getElem?_map, hx]
      exact ⟨_, rfl, fun v s Q h => bindName_ h⟩
    · intro h3 tk3 mf3 mu3 S3 R3 X3
      exact hq _ _ _ _ _ _ _ _ _ _ hk .next S3 R3 (X'.up.tr X3 S3 R3)
theorem fm2 {f : Expr → Option Str} {x y : Expr} {a b : Str} (h1 : f x = some a) (h2 : f y = some b) : List.filterMap f [x, y] = [a, b] := by
  rw [List.filterMap_cons_some h1, List.filterMap_cons_some h2]; rfl
theorem fm3 {f : Expr → Option Str} {x y z : Expr} {a b c : Str} (h1 : f x = some a) (h2 : f y = some b) (h3 : f z = some c) : List.filterMap f [x, y, z] = [a, b, c] := by
  rw [List.filterMap_cons_some h1, List.filterMap_cons_some h2, List.filterMap_cons_some h3]; rfl
theorem fmk {k : Option NameKind} {p q : Pos} {a : Str} (h : k = some .local) (h2 : (p.line == q.line) = true) : (if (k == some NameKind.local && p.line == q.line) = true then some a else none) = some a := by
  rw [h, h2]; rfl
theorem swaps2 {L : Addr} {m mf : Str → Option Value} {env : Env} {mu fz : Led} {al : List (Addr × Addr)} {r : Rho} (R : EnvR w L mf m env rs mu fz al r) {a b : Str} {na nb : Nat} {pa pb : Pos} {k k' : Nat} {tp tp' : Pos} {e₁ e₂ : Expr} (ha : rs.lookup a = some (.var na)) (hb : rs.lookup b = some (.var nb))
    (h1 : (pa.line == pa.line && pb.line == pa.line) = true) (h2 : (([a, b] : List Str).eraseDups.length != 2) = false) (h3 : ([e₁, e₂].any fun | .Starred .. => true | _ => false) = false) (h4 : [e₁, e₂].all (foldedForSure 8) = false) (h5 : [e₁, e₂].all (constantsAlone 8) = false) : swappedStores [.Tuple [.Name a pa, .Name b pb] k tp] (.Tuple [e₁, e₂] k' tp') env = pure (some [a, b]) := by
  have hk : env.blockKind = .function := by unfold Env.blockKind; rw [R.kind]; rfl
  rw [Bool.and_eq_true] at h1
  unfold swappedStores
  dsimp only
  rw [hk, fm2 (a := a) (b := b) (fmk (R.kvar _ _ ha) h1.1) (fmk (R.kvar _ _ hb) h1.2)]
  exact (if_neg (Bool.false_ne_true : ¬ false = true)).trans ((if_neg fun q => Bool.false_ne_true (h3.symm.trans q)).trans ((if_neg fun q => Bool.false_ne_true ((Bool.or_eq_false_iff.mpr ⟨rfl, h2⟩).symm.trans q)).trans ((if_neg fun q => Bool.false_ne_true (h4.symm.trans q)).trans (if_neg fun q => Bool.false_ne_true (h5.symm.trans q)))))
theorem swaps3 {L : Addr} {m mf : Str → Option Value} {env : Env} {mu fz : Led} {al : List (Addr × Addr)} {r : Rho} (R : EnvR w L mf m env rs mu fz al r) {a b c : Str} {na nb nc : Nat} {pa pb pc : Pos} {k k' : Nat} {tp tp' : Pos} {e₁ e₂ e₃ : Expr} (ha : rs.lookup a = some (.var na)) (hb : rs.lookup b = some (.var nb)) (hc : rs.lookup c = some (.var nc))
    (h1 : (pa.line == pa.line && pb.line == pa.line && pc.line == pa.line) = true) (h2 : (([a, b, c] : List Str).eraseDups.length != 3) = false) (h3 : ([e₁, e₂, e₃].any fun | .Starred .. => true | _ => false) = false) (h4 : [e₁, e₂, e₃].all (foldedForSure 8) = false) (h5 : [e₁, e₂, e₃].all (constantsAlone 8) = false) : swappedStores [.Tuple [.Name a pa, .Name b pb, .Name c pc] k tp] (.Tuple [e₁, e₂, e₃] k' tp') env = pure (some [a, b, c]) := by
  have hk : env.blockKind = .function := by unfold Env.blockKind; rw [R.kind]; rfl
  rw [Bool.and_eq_true, Bool.and_eq_true] at h1
  unfold swappedStores
  dsimp only
  rw [hk, fm3 (a := a) (b := b) (c := c) (fmk (R.kvar _ _ ha) h1.1.1) (fmk (R.kvar _ _ hb) h1.1.2) (fmk (R.kvar _ _ hc) h1.2)]
  exact (if_neg (Bool.false_ne_true : ¬ false = true)).trans ((if_neg fun q => Bool.false_ne_true (h3.symm.trans q)).trans ((if_neg fun q => Bool.false_ne_true ((Bool.or_eq_false_iff.mpr ⟨rfl, h2⟩).symm.trans q)).trans ((if_neg fun q => Bool.false_ne_true (h4.symm.trans q)).trans (if_neg fun q => Bool.false_ne_true (h5.symm.trans q)))))
theorem ss_unp2 {a b : Str} {na nb : Nat} {pa pb : Pos} {k k' : Nat} {tp tp' pos : Pos} {e₁ e₂ : Expr} {t : T} (ha : rs.lookup a = some (.var na)) (hb : rs.lookup b = some (.var nb))
    (h1 : (pa.line == pa.line && pb.line == pa.line) = true) (h2 : (([a, b] : List Str).eraseDups.length != 2) = false) (h3 : ([e₁, e₂].any fun | .Starred .. => true | _ => false) = false) (h4 : [e₁, e₂].all (foldedForSure 8) = false) (h5 : [e₁, e₂].all (constantsAlone 8) = false) (h : SE w l vs ns dd O rs (.Tuple [e₁, e₂] k' tp') t) :
    SS1 w l vs ns dd O rs (.Assign [.Tuple [.Name a pa, .Name b pb] k tp] (.Tuple [e₁, e₂] k' tp') pos) (.unpR [na, nb] t) :=
  unpR_core (.cons ha rfl (.cons hb rfl .nil)) (fun _ => rfl) (fun R => swaps2 R ha hb h1 h2 h3 h4 h5) h
theorem ss_unp3 {a b c : Str} {na nb nc : Nat} {pa pb pc : Pos} {k k' : Nat} {tp tp' pos : Pos} {e₁ e₂ e₃ : Expr} {t : T} (ha : rs.lookup a = some (.var na)) (hb : rs.lookup b = some (.var nb)) (hc : rs.lookup c = some (.var nc))
    (h1 : (pa.line == pa.line && pb.line == pa.line && pc.line == pa.line) = true) (h2 : (([a, b, c] : List Str).eraseDups.length != 3) = false) (h3 : ([e₁, e₂, e₃].any fun | .Starred .. => true | _ => false) = false) (h4 : [e₁, e₂, e₃].all (foldedForSure 8) = false) (h5 : [e₁, e₂, e₃].all (constantsAlone 8) = false) (h : SE w l vs ns dd O rs (.Tuple [e₁, e₂, e₃] k' tp') t) :
    SS1 w l vs ns dd O rs (.Assign [.Tuple [.Name a pa, .Name b pb, .Name c pc] k tp] (.Tuple [e₁, e₂, e₃] k' tp') pos) (.unpR [na, nb, nc] t) :=
  unpR_core (.cons ha rfl (.cons hb rfl (.cons hc rfl .nil))) (fun _ => rfl) (fun R => swaps3 R ha hb hc h1 h2 h3 h4 h5) h
theorem bop_some {o : Op} {a b : V} {K : V → Prop} (h : bop o a b K) : ∃ z, K z := by
  unfold bop at h
  split at h <;> first | exact ⟨_, h⟩ | exact ⟨_, h.2⟩ | exact h.elim
theorem two_int {a b : V} (h : match a, b with | .int _, .int _ => True | _, _ => False) : ∃ i j, a = .int i ∧ b = .int j := by
  split at h
  · exact ⟨_, _, rfl, rfl⟩
  · exact h.elim
theorem ss_aug {o : Op} {op : Operator} {a e : Expr} {ta te : T} {x : Nat} {p pos : Pos} (ho : isOp o op = true) (hop : o = .add ∨ o = .sub) (h1 : SE w l vs ns dd O rs a ta) (h2 : SE w l vs ns dd O rs e te) : SS1 w l vs ns dd O rs (.AugAssign (.Attribute a (fname x) p) op e pos) (.aug o ta x te) := by
  intro A h₀ L mf env s mu fz al r sg K Q hA hR hL S R hw hq
  refine wpAny_AugAssign_AttributeAny (h1 A h₀ L mf mf env s mu fz al r sg _ _ hA hR S R hw ?_)
  intro val h' tk' mu' fz' al' v sg' hk S' X' V'
  refine attr_ok hA S' V' hk fun val2 tk2 old hk2 V2 => ?_
  refine h2 A h₀ L mf mf env _ mu' fz' al' r sg' _ _ hA hR S' (R.ext S X') hk2 ?_
  intro val3 h3 tk3 mu3 fz3 al3 v3 sg3 hk3 S3 X3 V3
  obtain ⟨z, hz, _⟩ := bop_some hk3
  obtain ⟨i, j, rfl, rfl⟩ := two_int hz
  have hk4 : sset sg3 x (if o matches .add then .int (i + j) else .int (i - j)) v fun sg4 => K none r sg4 := by
    rcases hop with rfl | rfl <;> exact hk3.2
  cases V2
  cases V3
  have fin : ∀ z t s', s'.heap = h3 → (∃ tk, s' = { s with heap := h3, toks := tk }) → (sset sg3 x (.int z) v fun sg4 => K none r sg4) → wpAny (model PG w) A (setAttr val (fname x) (.int z t)) (fun _ => Q .next) Fa s' := by
    rintro z t _ _ ⟨tk, rfl⟩ hz
    refine set_ok hA S3 (X3.vr V') (.int z t) hz fun h5 tk5 mu5 sg5 hk5 S5 X5 => ?_
    exact hq _ _ _ _ _ _ _ _ _ _ hk5 .next S5 (((R.ext S X').ext S' X3).ext S3 X5) ((X'.trans0 X3 S3).trans0 X5 S5).up
  rcases hop with rfl | rfl
  · obtain rfl := isOp_add ho
    exact AutoIntOps.iadd_0 (fin _ _ _ rfl ⟨_, rfl⟩ hk4)
  · obtain rfl := isOp_sub ho
    exact AutoIntOps.isub_0 (fin _ _ _ rfl ⟨_, rfl⟩ hk4)
theorem ss_app {y : Str} {n : Nat} {e : Expr} {t : T} {p apos cpos epos : Pos} (hx : rs.lookup y = some (.var n)) (hl : (apos.endLine == cpos.line) = true) (hn : NoStar [e]) (hi : ∀ env, env.scope.kind = .function → interactive env = false) (hb : ∀ env, attributeBase (.Name y p) "append" env (eval (.Name y p) env) = eval (.Name y p) env) (h1 : SEs w l vs ns dd O rs [e] [t]) :
    SS1 w l vs ns dd O rs (.Expr (.Call (.Attribute (.Name y p) "append" apos) [e] [] cpos) epos) (.app n t) := by
  intro A h₀ L mf env s mu fz al r sg K Q hA hR hL S R hw hq
  unfold wps1 at hw
  split at hw
  · rename_i k hv
    split at hw
    · rename_i ds hds
      obtain ⟨val, a, b⟩ := R.var y n _ hx hv
      refine wpAny_Expr_any ?_ (hi env R.kind) rfl
      refine Call_method1 (hb env) (by rw [hn.2 env]; rfl) hl (wpAny_Name (wpAny_loadName_local R.kind (R.kvar _ _ hx) (R.ns S) a ?_) (R.dbg _ _ hx))
      cases b with
      | @obj _ a1 dx1 hal =>
        obtain ⟨a', dx', h1', h2'⟩ := S.sr.get k _ hds
        rw [hal] at h1'
        cases h1'
        obtain ⟨rfl, ws, nw, h4, h5⟩ := h2'
        have hg := (S.nw _ (List.mem_append_left fz h4)).1
        refine ⟨"list", "list.append", F.plainAttrs_list, F.slot_list_append, F.type_list_append, ⟨_, hg, rfl⟩, fun a e => by cases e; exact ⟨_, hg, rfl⟩, ?_⟩
        refine callWith_of (P := fun _ => True) rfl (fun h _ => ⟨.machine, .inr (.inl rfl), keep_plain (fun a e => by cases e)⟩) ?_
        have h1e := h1 A h₀ L mf mf env s mu fz al r sg (fun vs sg1 => match vs with | [v] => sapp sg1 v (.obj k) fun sg2 => K none r sg2 | _ => False) (fun vs s' => wpAny (model PG w) A (call (.builtin "list.append") ([.ref a1] ++ vs)) (fun _ => Q .next) Fa s') cpos hA hR S R (by unfold wpes wpes; exact hw) ?_
        · rw [hn.2 env] at h1e
          exact evalArgs_plain (wpAny_mono h1e (fun vs s' h' => ⟨trivial, by simpa using h'⟩) fun _ _ e => e)
        · intro val h' tk' mu' fz' al' v sg' hk S' X' V'
          cases V' with
          | nil => exact hk.elim
          | cons v1 v2 =>
            cases v2 with
            | cons _ _ => exact hk.elim
            | nil =>
              refine app_ok S' (X'.vr (.obj hal)) v1 hk fun val2 h2 tk2 mu2 sg2 hk2 S2 X2 => ?_
              exact hq _ _ _ _ _ _ _ _ _ _ hk2 .next S2 ((R.ext S X').ext S' X2) (X'.trans0 X2 S2).up
    · exact hw.elim
  · exact hw.elim
/-- a name bound to a comprehension's list, on the same line -/
theorem cpost_use {A : Around} {h₀ : Heap} {L : Addr} {mf : Str → Option Value} {env : Env} {s : Shared} {mu fz : Led} {al : List (Addr × Addr)} {r : Rho} {sg : Sto} {K : Kf} {Q : Flow → Shared → Prop} {y : Str} {n : Nat} {py : Pos} (hL : env.locals = L) (S : St w h₀ L s.heap mf mu fz al sg) (R : EnvR w L mf mf env rs mu fz al r) (hy : rs.lookup y = some (.var n))
    (hq : ∀ fl flv h' tk' mf' mu' fz' al' r' sg', K flv r' sg' → FlR fz' al' fl flv → St w h₀ L h' mf' mu' fz' al' sg' → EnvR w L mf' mf' env rs mu' fz' al' r' → Ext (lvOf rs env) mu fz al mu' fz' al' → Q fl { s with heap := h', toks := tk' }) :
    CPost w A h₀ L mf s mu fz al (some (assign (.Name y py) env)) (fun v sg' => K none (vput r n v) sg') (fun _ s' => Q .next s') := by
  intro D C h tk m' mu' fz' al' v sg' hk S' X V hn hC hCL ho
  show wpAny _ _ (assign (.Name y py) env (.ref D)) _ _ _
  have hp : (env.scope.kind == .class || (env.scope.kind == .module && env.locals != env.globals)) = false := by rw [R.kind]; rfl
  refine wpAny_assign_Name (wpAny_storeName_local (R.kvar _ _ hy) (by rw [hL]; exact S'.fr.ns) (fun h2 hn2 hs2 => ?_) hp)
  rw [hL] at hn2 hs2
  have S2 : St w h₀ L h2 _ mu' fz' al' sg' := ⟨S'.fr.set hn2 hs2, S'.nw.set hs2, S'.nd, S'.sr⟩
  refine ⟨m', hn.sameBut hs2 hCL, fun h3 hs3 => ?_⟩
  have S3 := S2.but hs3 hC hCL ho
  have R' := R.ext S X
  refine hq _ _ h3 _ _ mu' fz' al' (vput r n v) sg' hk .next S3 ?_ X.up
  refine { R' with var := ?_, cel := ?_, loc := .inl ⟨hL, rfl⟩ }
  · intro z k u h1 h2
    by_cases e : z = y
    · subst e
      rw [hy] at h1; cases h1
      rw [vget_put_same] at h2; cases h2
      exact ⟨_, if_pos rfl, V⟩
    · rw [vget_put_ne _ _ _ _ (fun q => e (R.inj _ _ _ _ n h1 hy (by rw [← q]; rfl) rfl))] at h2
      obtain ⟨u', a, b⟩ := R'.var z k u h1 h2
      exact ⟨u', (if_neg e).trans a, b⟩
  · intro z k u h1 h2
    have e : z ≠ y := fun e => by subst e; rw [hy] at h1; cases h1
    rw [vget_put_ne _ _ _ _ (fun q => e (R.inj _ _ _ _ n h1 hy (by rw [← q]; rfl) rfl))] at h2
    exact R'.cel z k u h1 h2
def lineOk (p q : Pos) : Bool := p.line == q.line
theorem swaps_use {L : Addr} {m mf : Str → Option Value} {env : Env} {mu fz : Led} {al : List (Addr × Addr)} {r : Rho} (R : EnvR w L mf m env rs mu fz al r) {y : Str} {n : Nat} (hy : rs.lookup y = some (.var n)) {elt : Expr} {gs : List Comprehension} {scope : Scope} {pos py : Pos} {k : Nat} (hl : lineOk py pos = true) (hno : (scope.names.any fun (n, k) => n == y && (k == .local || k == .cell)) = false) :
    swapsWith (.ListComp elt gs scope pos) (some (.Name y py)) k env = pure true := by
  have hk : env.blockKind = .function := by unfold Env.blockKind; rw [R.kind]; rfl
  have e1 : swapsWith (.ListComp elt gs scope pos) (some (.Name y py)) k env = pure (env.blockKind == .function && env.kindOf y == some .local && py.line == pos.line && !(scope.names.any fun (n, k) => n == y && (k == .local || k == .cell))) := rfl
  have h2 : (py.line == pos.line) = true := hl
  rw [e1, hk, R.kvar _ _ hy, h2, hno]; rfl
theorem ss_asnI {y : Str} {n : Nat} {py spos : Pos} {elt iter : Expr} {x : Str} {px pos : Pos} {nn : Nat} {scope : Scope} {ti te : T} (hy : rs.lookup y = some (.var n)) (hl : lineOk py pos = true) (hno : (scope.names.any fun (n, k) => n == y && (k == .local || k == .cell)) = false) (c : CompOk rs rs' x nn scope) (hi : noSet iter = true) (h1 : SE w l vs ns dd O rs iter ti) (h2 : SE w l vs ns dd O rs' elt te) :
    SS1 w l vs ns dd O rs (.Assign [.Name y py] (.ListComp elt [⟨.Name x px, iter, [], 0⟩] scope pos) spos) (.asn n (.compI nn ti te)) := by
  intro A h₀ L mf env s mu fz al r sg K Q hA hR hL S R hw hq
  rw [exec_Assign_Name_used _ _ _ _ (swaps_use R hy hl hno)]
  refine wpAny_bind (wpAny_standAt (wpAny_bind ?_))
  show wpAny _ A (do let _ ← comprehension (.ListComp elt [⟨.Name x px, iter, [], 0⟩] scope pos) scope env _ (newList []) false (eval iter env) (some (assign (.Name y py) env))) _ _ s
  unfold wps1 at hw
  exact wpAny_bind (wpAny_mono (cgo_I (K := fun v sg' => K none (vput r n v) sg') c hi h1 h2 hA hR S R hw (cpost_use hL S R hy hq)) (fun _ s' hq => wpAny_pure (wpAny_pure hq)) fun _ _ e => e)
theorem ss_asnR {y : Str} {n : Nat} {py spos : Pos} {elt : Expr} {x g : Str} {px pos pf pr : Pos} {nn : Nat} {scope : Scope} {lo hi te : T} {es : List Expr} {ts : List T} (hy : rs.lookup y = some (.var n)) (hl : lineOk py pos = true) (hno : (scope.names.any fun (n, k) => n == y && (k == .local || k == .cell)) = false) (c : CompOk rs rs' x nn scope)
    (hx : rs.lookup g = some (.glob (.type "range"))) (hn : NoStar es) (h1 : SEs w l vs ns dd O rs es ts) (ht : (ts = [hi] ∧ lo = .int 0) ∨ ts = [lo, hi]) (h2 : SE w l vs ns dd O rs' elt te) :
    SS1 w l vs ns dd O rs (.Assign [.Name y py] (.ListComp elt [⟨.Name x px, .Call (.Name g pf) es [] pr, [], 0⟩] scope pos) spos) (.asn n (.compR nn lo hi te)) := by
  intro A h₀ L mf env s mu fz al r sg K Q hA hR hL S R hw hq
  rw [exec_Assign_Name_used _ _ _ _ (swaps_use R hy hl hno)]
  refine wpAny_bind (wpAny_standAt (wpAny_bind ?_))
  show wpAny _ A (do let _ ← comprehension (.ListComp elt [⟨.Name x px, .Call (.Name g pf) es [] pr, [], 0⟩] scope pos) scope env _ (newList []) false (eval (.Call (.Name g pf) es [] pr) env) (some (assign (.Name y py) env))) _ _ s
  unfold wps1 at hw
  exact wpAny_bind (wpAny_mono (cgo_R (K := fun v sg' => K none (vput r n v) sg') c hx hn h1 ht h2 hA hR S R hw (cpost_use hL S R hy hq)) (fun _ s' hq => wpAny_pure (wpAny_pure hq)) fun _ _ e => e)
def no1 (I : Addr) (mu : Led) : Led := mu.filter fun p => p.1 != I
theorem no1_mem {I : Addr} {mu : Led} {p : Addr × Obj} : p ∈ no1 I mu ↔ p ∈ mu ∧ p.1 ≠ I := by
  unfold no1
  rw [List.mem_filter]
  simp only [bne_iff_ne]
theorem St.butI {h₀ h h' : Heap} {L C : Addr} {mf : Str → Option Value} {mu fz : Led} {al : List (Addr × Addr)} {sg : Sto} (S : St w h₀ L h mf mu fz al sg) (he : Heap.ExtBut C h h') (hC₀ : h₀.get? C = none) (hCL : C ≠ L) (off : ∀ p ∈ mu ++ fz, p.1 ≠ C) : St w h₀ L h' mf mu fz al sg :=
  ⟨⟨S.fr.ns.at' fun o e => he _ _ (Ne.symm hCL) e, fun b o e => he b o (fun q => by rw [q, hC₀] at e; cases e) (S.fr.keep b o e), S.fr.above⟩, fun p hp => ⟨he _ _ (off p hp) (S.nw p hp).1, (S.nw p hp).2⟩, S.nd, S.sr⟩
theorem EnvR.no1 {L : Addr} {mf : Str → Option Value} {env : Env} {mu fz : Led} {al : List (Addr × Addr)} {r : Rho} {I : Addr} (R : EnvR w L mf mf env rs mu fz al r) (hL : env.locals = L) (hI : I ∉ lvOf rs env) : EnvR w L mf mf env rs (no1 I mu) fz al r := by
  have ne : ∀ {x : Str} {n : Nat} {c : Addr}, rs.lookup x = some (.cel n) → env.cells.lookup x = some c → c ≠ I := fun {x n c} h1 h2 e => hI (e ▸ List.mem_filterMap.mpr ⟨(x, .cel n), mem_of_lookup h1, h2⟩)
  refine { R with cel := ?_, kcel := ?_, loc := .inl ⟨hL, rfl⟩ }
  · intro x n v h1 h2
    obtain ⟨c, o, val, a, b, z⟩ := R.cel x n v h1 h2
    exact ⟨c, o, val, a, no1_mem.mpr ⟨b, ne h1 a⟩, z⟩
  · intro x n h1
    obtain ⟨k, c, o, cv, a, b, z⟩ := R.kcel x n h1
    exact ⟨k, c, o, cv, a, no1_mem.mpr ⟨b, ne h1 a⟩, z⟩
theorem EnvR.more {L : Addr} {mf : Str → Option Value} {env : Env} {mu fz : Led} {al : List (Addr × Addr)} {r : Rho} (R : EnvR w L mf mf env rs mu fz al r) (hL : env.locals = L) (q : Addr × Obj) : EnvR w L mf mf env rs (q :: mu) fz al r := by
  refine { R with cel := ?_, kcel := ?_, loc := .inl ⟨hL, rfl⟩ }
  · intro x n v h1 h2
    obtain ⟨c, o, val, a, b, z⟩ := R.cel x n v h1 h2
    exact ⟨c, o, val, a, .tail _ b, z⟩
  · intro x n h1
    obtain ⟨k, c, o, cv, a, b, z⟩ := R.kcel x n h1
    exact ⟨k, c, o, cv, a, .tail _ b, z⟩
theorem notedBy_of {A : Around} {α : Type} {m : Sem α} {Q : α → Shared → Prop} {s : Shared} {E : Value → Shared → Prop} (h : wpAny (model PG w) A m Q Fa s) : wpAny (model PG w) A m Q E s := wpAny_mono h (fun _ _ h => h) fun _ _ (e : False) => e.elim
/-- one round of a loop: the target is bound, the body runs, the iterator stays as it was -/
theorem for_step {x : Str} {rv : RV} {n : Nat} {px : Pos} {body : List Stmt} {b : List S} (hx : rs.lookup x = some rv) (hn : rv.ix = some n) (h2 : SS w l vs ns dd O rs body b)
    {A : Around} {h₀ : Heap} {L : Addr} {mf' : Str → Option Value} {env : Env} {s : Shared} {h1 : Heap} {tk : Nat} {mu fz mu' fz' : Led} {al al' : List (Addr × Addr)} {r' : Rho} {sg' : Sto} {K' : Kf} {I : Addr} {oI : Obj} {val : Value} {v : V} {QQ : Flow → Shared → Prop} {RR : Result → Shared → Prop}
    (hA : Amb w l vs ns A h₀ L) (hR : Room A dd) (hL : env.locals = L) (S1 : St w h₀ L h1 mf' mu' fz' al' sg') (R : EnvR w L mf' mf' env rs mu' fz' al' r') (X : Ext (lvOf rs env) mu fz al mu' fz' al') (off : ∀ p ∈ mu' ++ fz', p.1 ≠ I) (gI : h1.get? I = some oI) (hI₀ : h₀.get? I = none) (hIL : I ≠ L) (hv : VR fz' al' val v)
    (hw : wps O b (vput r' n v) sg' K')
    (hq : ∀ fl flv h3 tk3 mf3 mu4 fz3 al3 r3 sg3, K' flv r3 sg3 → FlR fz3 al3 fl flv → h3.get? I = some oI → St w h₀ L h3 mf3 mu4 fz3 al3 sg3 → EnvR w L mf3 mf3 env rs mu4 fz3 al3 r3 → Ext (lvOf rs env) mu fz al mu4 fz3 al3 → (∀ p ∈ mu4 ++ fz3, p.1 ≠ I) → QQ fl { s with heap := h3, toks := tk3 }) :
    wpAny (model PG w) A (assign (.Name x px) env val) (fun _ s2 => wpAny (model PG w) A (execs body env) QQ (notedBy (model PG w) A env fun e s' => RR (.error e) s') s2) (notedBy (model PG w) A env fun e s' => RR (.error e) s') { s with heap := h1, toks := tk } := by
  have off1 : ∀ p ∈ mu', p.1 ≠ I := fun p hp => off p (List.mem_append_left _ hp)
  have hIlv : I ∉ lvOf rs env := fun q => by
    obtain ⟨_, _, o, _, _, _, q1, _⟩ := lv_cell R q
    exact off1 _ q1 rfl
  have hIal : I ∉ al'.map (·.2) := S1.sr.off off1
  have S1' : St w h₀ L h1 mf' ((I, oI) :: mu') fz' al' sg' := by
    refine ⟨S1.fr, fun p hp => ?_, ?_, S1.sr.mono (fun _ h _ => .tail _ h) fun _ h => h⟩
    · rcases List.mem_cons.mp hp with rfl | hp
      · exact ⟨gI, hIL, hI₀⟩
      · exact S1.nw p hp
    · rw [List.cons_append, List.map_cons, List.nodup_cons]
      refine ⟨fun q => ?_, S1.nd⟩
      obtain ⟨p, hp, e⟩ := List.mem_map.mp q
      exact off p hp e
  have X1 : Ext (lvOf rs env) mu' fz' al' ((I, oI) :: mu') fz' al' := ⟨fun _ h => h, fun p hp _ _ => .tail _ hp, [], by simp, by simp⟩
  refine wpAny_assign_Name (store_ok hL S1' (R.more hL _) hx hn hv fun h2' tk2 mf2 mu2 S2 R2 X2 => ?_)
  refine notedBy_of (h2 A h₀ L mf2 env _ mu2 fz' al' (vput r' n v) sg' _ _ hA hR hL S2 R2 hw ?_)
  intro fl flv h3 tk3 mf3 mu3 fz3 al3 r3 sg3 hk hf S3 R3 X3
  have X12 := X1.tr X2 S2 R2
  have X23 := X2.tr X3 S3 R3
  have X13 := X12.tr X3 S3 R3
  have mI : (I, oI) ∈ mu3 := X23.em _ (.head _) hIal hIlv
  have hIal3 : I ∉ al3.map (·.2) := fun q => by
    obtain ⟨be, eal, hbe⟩ := X23.ea
    rw [eal, List.map_append] at q
    rcases List.mem_append.mp q with q | q
    · exact hIal q
    · obtain ⟨z, hz, e⟩ := List.mem_map.mp q
      exact hbe z hz _ (List.mem_append_left _ (.head _)) e.symm
  have nd3 := S3.nd
  rw [List.map_append] at nd3
  have fzI : ∀ p ∈ fz3, p.1 ≠ I := fun p hp e => (List.nodup_append.mp nd3).2.2 I (List.mem_map_of_mem (f := fun x => x.1) mI) p.1 (List.mem_map_of_mem (f := fun x => x.1) hp) e.symm
  have S4 : St w h₀ L h3 mf3 (no1 I mu3) fz3 al3 sg3 := by
    refine ⟨S3.fr, fun p hp => S3.nw p ?_, ?_, S3.sr.mono (fun p hp hq => no1_mem.mpr ⟨hp, fun e => hIal3 (e ▸ hq)⟩) fun _ h => h⟩
    · rcases List.mem_append.mp hp with hp | hp
      · exact List.mem_append_left _ (no1_mem.mp hp).1
      · exact List.mem_append_right _ hp
    · rw [List.map_append]
      obtain ⟨q1, q2, q3⟩ := List.nodup_append.mp nd3
      refine List.nodup_append.mpr ⟨List.Sublist.nodup (List.Sublist.map _ List.filter_sublist) q1, q2, fun x hx y hy => q3 x ?_ y hy⟩
      obtain ⟨p, hp, e⟩ := List.mem_map.mp hx
      exact e ▸ List.mem_map_of_mem (f := fun x => x.1) (no1_mem.mp hp).1
  have R4 := R3.no1 hL hIlv
  have X14 : Ext (lvOf rs env) mu' fz' al' (no1 I mu3) fz3 al3 := ⟨X13.ez, fun p hp q1 q2 => no1_mem.mpr ⟨X13.em p hp q1 q2, off1 p hp⟩, X13.ea⟩
  have X04 := X.tr X14 S4 R4
  have off4 : ∀ p ∈ no1 I mu3 ++ fz3, p.1 ≠ I := fun p hp => by
    rcases List.mem_append.mp hp with hp | hp
    · exact (no1_mem.mp hp).2
    · exact fzI p hp
  exact hq _ _ _ _ _ _ _ _ _ _ hk hf (S3.nw _ (List.mem_append_left _ mI)).1 S4 R4 X04 off4
/-- what holds at the head of a loop -/
inductive ForI (w : World) (rs : Rs) (h₀ : Heap) (L : Addr) (env : Env) (mu fz : Led) (al : List (Addr × Addr)) (s : Shared) (I : Addr) (J : Nat → Heap → Rho → Sto → Prop) : Nat → Shared → Prop
  | mk {k : Nat} {h : Heap} {tk : Nat} {mf' : Str → Option Value} {mu' fz' : Led} {al' : List (Addr × Addr)} {r' : Rho} {sg' : Sto} : J k h r' sg' → St w h₀ L h mf' mu' fz' al' sg' → EnvR w L mf' mf' env rs mu' fz' al' r' → Ext (lvOf rs env) mu fz al mu' fz' al' → (∀ p ∈ mu' ++ fz', p.1 ≠ I) → ForI w rs h₀ L env mu fz al s I J (k + 1) { s with heap := h, toks := tk }
theorem for_go {x : Str} {rv : RV} {n : Nat} {px : Pos} {body : List Stmt} {b : List S} (hx : rs.lookup x = some rv) (hn : rv.ix = some n) (h2 : SS w l vs ns dd O rs body b)
    {A : Around} {h₀ : Heap} {L : Addr} {mf : Str → Option Value} {env : Env} {s : Shared} {h : Heap} {tk : Nat} {mu fz : Led} {al : List (Addr × Addr)} {r : Rho} {sg : Sto} {K : Kf} {I : Addr} {RR : Result → Shared → Prop} {a : Int} {k : Nat}
    (hA : Amb w l vs ns A h₀ L) (hR : Room A dd) (hL : env.locals = L) (S₀ : St w h₀ L h mf mu fz al sg) (R₀ : EnvR w L mf mf env rs mu fz al r) (hit : IsRangeIter h I a k 1) (hI₀ : h₀.get? I = none) (hIL : I ≠ L) (off : ∀ p ∈ mu ++ fz, p.1 ≠ I)
    (hw : wpFor (fun r' sg' K' => wps O b r' sg' K') n (upto a k) r sg K)
    (hq : ∀ fl flv h' tk' mf' mu' fz' al' r' sg', K flv r' sg' → FlR fz' al' fl flv → St w h₀ L h' mf' mu' fz' al' sg' → EnvR w L mf' mf' env rs mu' fz' al' r' → Ext (lvOf rs env) mu fz al mu' fz' al' → RR (.ok fl) { s with heap := h', toks := tk' }) :
    codeAny (model PG w) A (.forLoop (.Name x px) (.ref I) body [] env) RR { s with heap := h, toks := tk } := by
  refine codeAny_forLoop (ForI w rs h₀ L env mu fz al s I fun k h r sg => ∃ a, IsRangeIter h I a ((k : Nat) : Int) 1 ∧ wpFor (fun r' sg' K' => wps O b r' sg' K') n (upto a k) r sg K) ?_ (k + 1) (.mk ⟨a, hit, hw⟩ S₀ R₀ .refl off)
  intro j s1 hf
  cases hf with
  | @mk k h tk mf' mu' fz' al' r' sg' hJ S R X off =>
  obtain ⟨a, hit, hw⟩ := hJ
  cases k with
  | zero =>
    refine wpAny_pyNext_range_end hA.hh hit (Int.le_refl _) fun h2 he => ?_
    refine wpAny_execs_nil ?_
    unfold upto wpFor at hw
    exact hq _ _ h2 tk _ _ _ _ _ _ hw .next (S.butI he hI₀ hIL off) R X
  | succ k =>
    unfold upto wpFor at hw
    refine wpAny_pyNext_range_item hit (Int.natCast_pos.mpr (Nat.succ_pos k)) fun h1 hit1 hs1 => ?_
    have S1 := S.but hs1 hI₀ hIL off
    dsimp only
    refine for_step hx hn h2 hA hR hL S1 R X off hit1 hI₀ hIL (.int a _) hw fun fl flv h3 tk3 mf3 mu4 fz3 al3 r3 sg3 hk hf g3 S4 R4 X4 off4 => ?_
    cases hf with
    | next => exact ⟨k + 1, Nat.lt_succ_self _, .mk ⟨a + 1, by rw [Int.natCast_succ, Int.add_sub_cancel] at g3; exact g3, hk⟩ S4 R4 X4 off4⟩
    | ret hv => exact hq _ _ _ _ _ _ _ _ _ _ hk (.ret hv) S4 R4 X4
theorem ss_for {x g : Str} {rv : RV} {n : Nat} {px pf pr pos : Pos} {lo hi : T} {es : List Expr} {ts : List T} {body : List Stmt} {b : List S} (hx : rs.lookup x = some rv) (hnx : rv.ix = some n) (hg : rs.lookup g = some (.glob (.type "range"))) (hn : NoStar es) (h1 : SEs w l vs ns dd O rs es ts) (ht : (ts = [hi] ∧ lo = .int 0) ∨ ts = [lo, hi]) (h2 : SS w l vs ns dd O rs body b) :
    SS1 w l vs ns dd O rs (.For (.Name x px) (.Call (.Name g pf) es [] pr) body [] pos) (.forr n lo hi b) := by
  intro A h₀ L mf env s mu fz al r sg K Q hA hR hL S R hw hq
  unfold wps1 at hw
  refine wpAny_For (se_range hg hn h1 ht hA hR S R hw ?_) (fun _ => rfl)
  intro ra a b' t u v h' tk' mu' fz' al' sg' hk hs hr S' X'
  obtain ⟨q1, q2, q3, q4⟩ := hs
  have hnat := rangeSize_nat a b'
  refine wpAny_pyIter_range hr (small_one (by omega) (by omega) (by omega) (by omega)) ?_
  refine for_go (s := { s with heap := h', toks := tk' }) hx hnx h2 hA hR hL (S'.same (S'.fr.push _) (S'.nw.grown fun _ _ e => Heap.get?_push_of_some _ e)) (R.ext S X') (a := a) (k := (b' - a).toNat) (I := h'.objs.size) ?_ (next_is_new S'.fr) (Ne.symm (Nat.ne_of_lt S'.fr.ns.lt)) (fun p hp => Nat.ne_of_lt (lt_of_news S'.nw p hp)) hk ?_
  · show IsRangeIter _ _ _ _ _
    rw [hnat]
    exact Heap.get?_push_size _ rfl
  · intro fl flv h2 tk2 mf2 mu2 fz2 al2 r2 sg2 hk2 hf2 S2 R2 X2
    exact hq _ _ _ _ _ _ _ _ _ _ hk2 hf2 S2 R2 (X'.up.tr X2 S2 R2)
end
end Mine
end
section
open PySem PySem.W PySem.Calls PyProof.Rows PySem.Spec
namespace Mine
/-! a call of a def of the text -/
def mkRs : Nat → Nm → Option Rs
  | _, [] => some []
  | n, (y, .local) :: r => (mkRs (n + 1) r).map ((y, .var n) :: ·)
  | n, (y, .cell) :: r => (mkRs (n + 1) r).map ((y, .cel n) :: ·)
  | n, (y, .globalImplicit) :: r => match globTab.lookup y with
    | some v => (mkRs (n + 1) r).map ((y, .glob v) :: ·)
    | none => none
  | _, _ => none
theorem mkRs_mem : ∀ {names : Nm} {k : Nat} {rs : Rs} {y : Str} {rv : RV}, mkRs k names = some rs → (y, rv) ∈ rs →
    (∃ n, rv = .var (k + n) ∧ names[n]? = some (y, .local)) ∨ (∃ n, rv = .cel (k + n) ∧ names[n]? = some (y, .cell)) ∨ (∃ (n : Nat) (v : Value), rv = .glob v ∧ names[n]? = some (y, NameKind.globalImplicit) ∧ globTab.lookup y = some v)
  | [], k, rs, y, rv, h, hm => by cases h; cases hm
  | (z, kd) :: r, k, rs, y, rv, h, hm => by
    have up : ∀ {t : Rs}, mkRs (k + 1) r = some t → (y, rv) ∈ t → (∃ n, rv = .var (k + n) ∧ ((z, kd) :: r)[n]? = some (y, .local)) ∨ (∃ n, rv = .cel (k + n) ∧ ((z, kd) :: r)[n]? = some (y, .cell)) ∨ (∃ (n : Nat) (v : Value), rv = .glob v ∧ ((z, kd) :: r)[n]? = some (y, NameKind.globalImplicit) ∧ globTab.lookup y = some v) := fun ht hm => by
      rcases mkRs_mem ht hm with ⟨n, e, g⟩ | ⟨n, e, g⟩ | ⟨n, v, e, g, q⟩
      · exact .inl ⟨n + 1, by rw [e]; congr 1; omega, by simpa using g⟩
      · exact .inr (.inl ⟨n + 1, by rw [e]; congr 1; omega, by simpa using g⟩)
      · exact .inr (.inr ⟨n + 1, v, e, by simpa using g, q⟩)
    cases kd <;> (unfold mkRs at h; try (first | cases h | skip))
    · cases hr : mkRs (k + 1) r with
      | none => rw [hr] at h; cases h
      | some t =>
        rw [hr] at h; cases h
        rcases List.mem_cons.mp hm with e | hm
        · cases e; exact .inl ⟨0, rfl, rfl⟩
        · exact up hr hm
    · cases hr : mkRs (k + 1) r with
      | none => rw [hr] at h; cases h
      | some t =>
        rw [hr] at h; cases h
        rcases List.mem_cons.mp hm with e | hm
        · cases e; exact .inr (.inl ⟨0, rfl, rfl⟩)
        · exact up hr hm
    · split at h
      · rename_i v hv
        cases hr : mkRs (k + 1) r with
        | none => rw [hr] at h; cases h
        | some t =>
          rw [hr] at h; cases h
          rcases List.mem_cons.mp hm with e | hm
          · cases e; exact .inr (.inr ⟨0, _, rfl, rfl, hv⟩)
          · exact up hr hm
      · cases h
theorem bindL_off {ko : Str → Option NameKind} {y : Str} : ∀ {binds : List (Str × Value)} {m : Str → Option Value}, y ∉ binds.map (·.1) → bindL ko binds m y = m y
  | [], _, _ => rfl
  | (n, v) :: r, m, h => by
    simp only [List.map_cons, List.mem_cons, not_or] at h
    unfold bindL
    rw [bindL_off h.2]
    split
    · exact if_neg h.1
    · rfl
theorem bindC_off {ko : Str → Option NameKind} {y : Str} : ∀ {binds : List (Str × Value)} {m : Str → Option Value}, y ∉ binds.map (·.1) → bindC ko binds m y = m y
  | [], _, _ => rfl
  | (n, v) :: r, m, h => by
    simp only [List.map_cons, List.mem_cons, not_or] at h
    unfold bindC
    rw [bindC_off h.2]
    split
    · rfl
    · exact if_neg h.1
theorem bindL_at {ko : Str → Option NameKind} {y : Str} {val : Value} (hy : ko y = some .local) : ∀ {binds : List (Str × Value)} {n : Nat} {m : Str → Option Value}, (binds.map (·.1)).Nodup → binds[n]? = some (y, val) → bindL ko binds m y = some val
  | [], n, m, _, h => by simp at h
  | (z, v) :: r, 0, m, nd, h => by
    simp only [List.getElem?_cons_zero, Option.some.injEq, Prod.mk.injEq] at h
    obtain ⟨rfl, rfl⟩ := h
    rw [List.map_cons, List.nodup_cons] at nd
    unfold bindL
    rw [bindL_off nd.1, if_pos hy]
    exact if_pos rfl
  | (z, v) :: r, n + 1, m, nd, h => by
    rw [List.map_cons, List.nodup_cons] at nd
    unfold bindL
    exact bindL_at hy nd.2 (by simpa using h)
theorem bindC_at {ko : Str → Option NameKind} {y : Str} {val : Value} (hy : ko y ≠ some .local) : ∀ {binds : List (Str × Value)} {n : Nat} {m : Str → Option Value}, (binds.map (·.1)).Nodup → binds[n]? = some (y, val) → bindC ko binds m y = some val
  | [], n, m, _, h => by simp at h
  | (z, v) :: r, 0, m, nd, h => by
    simp only [List.getElem?_cons_zero, Option.some.injEq, Prod.mk.injEq] at h
    obtain ⟨rfl, rfl⟩ := h
    rw [List.map_cons, List.nodup_cons] at nd
    unfold bindC
    rw [bindC_off nd.1, if_neg hy]
    exact if_pos rfl
  | (z, v) :: r, n + 1, m, nd, h => by
    rw [List.map_cons, List.nodup_cons] at nd
    unfold bindC
    exact bindC_at hy nd.2 (by simpa using h)
theorem cf_ok : ∀ (names : Nm) (n : Nat) (acc : List (Str × Addr)), (∀ q ∈ acc, q.2 < n) → (acc.Pairwise fun x y => x.2 ≠ y.2) →
    ((cellsFrom n names acc).Pairwise fun x y => x.2 ≠ y.2) ∧ ∀ q ∈ cellsFrom n names acc, q ∈ acc ∨ n ≤ q.2
  | [], n, acc, _, h => ⟨h, fun q hq => .inl hq⟩
  | (y, k) :: r, n, acc, h1, h2 => by
    unfold cellsFrom
    split
    · obtain ⟨a, b⟩ := cf_ok r (n + 1) ((y, n) :: acc) (fun q hq => by
        rcases List.mem_cons.mp hq with rfl | hq
        · exact Nat.lt_succ_self _
        · exact Nat.lt_succ_of_lt (h1 q hq)) (List.pairwise_cons.mpr ⟨fun q hq => Ne.symm (Nat.ne_of_lt (h1 q hq)), h2⟩)
      refine ⟨a, fun q hq => ?_⟩
      rcases b q hq with hb | hb
      · rcases List.mem_cons.mp hb with rfl | hb
        · exact .inr (Nat.le_refl _)
        · exact .inl hb
      · exact .inr (Nat.le_of_succ_le hb)
    · exact cf_ok r n acc h1 h2
theorem ca_keys {cm : Str → Option Value} {cs : List (Str × Addr)} {cells : Led} (h : CellsAre cm cs cells) : cells.map (·.1) = cs.map (·.2) := by
  induction h with
  | nil => rfl
  | cons _ _ ih => rw [List.map_cons, List.map_cons, ih]
theorem ca_get {cm : Str → Option Value} {cs : List (Str × Addr)} {cells : Led} (h : CellsAre cm cs cells) {y : Str} {c : Addr} (hy : cs.lookup y = some c) : ∃ o, (c, o) ∈ cells ∧ o.data = .cell (cm y) := by
  induction h with
  | nil => cases hy
  | @cons n c' o cs cells hd _ ih =>
    rw [List.lookup_cons] at hy
    split at hy
    · rename_i e
      cases hy
      rw [beq_iff_eq] at e
      subst e
      exact ⟨o, .head _, hd⟩
    · obtain ⟨o', a, b⟩ := ih hy
      exact ⟨o', .tail _ a, b⟩
def fnShape (scope : Scope) (ps : List Str) (rs : Rs) : Bool :=
  (match scope.kind with | .function => true | _ => false) && !scope.isCoroutine && !scope.isGenerator && decide ((scope.names.map (·.1)).Nodup) && decide (ps = (scope.names.take ps.length).map (·.1)) && (ps.all fun y => scope.names.lookup y == some .local || scope.names.lookup y == some .cell) && rsOk rs
def DOk (h : Heap) (dV kV : Value) (k : Nat) : Prop := kV = .none ∧ ((dV = .none ∧ k = 0) ∨ ∃ T o items n, dV = .ref T ∧ h.get? T = some o ∧ o.data = .seq items n ∧ items.size = k ∧ k ≠ 0)
theorem fd_of {K : Frag} {f : Addr} {params : Arguments} {body : List Stmt} {scope : Scope} {i : Nat} (kay : Kay K) (hm : (i, f) ∈ allFn) (hw : fnWord i = some (params, .stmts body, scope)) :
    ∃ oc od osl name qual dV kV doc pm an cdv ct, K.lookup f = some ⟨oc, od, .func (fnX name qual params body scope [] dV kV doc pm an cdv ct), osl⟩ ∧ codeIn K cdv qual = true ∧ (∀ h, K.In h → DOk h dV kV (ndf i)) := by
  have e : fnHeap K f = fnWord i := by
    have h := kay.2
    exact List.map_inj_left.mp h (i, f) hm
  rw [hw] at e
  have a := kay.parts.2.2.2.1
  rw [List.all_eq_true] at a
  have b := a _ hm
  have d := kay.parts.2.2.2.2.2
  rw [List.all_eq_true] at d
  unfold fnHeap at e
  dsimp only at b
  unfold fdOk at b
  cases hfd : fdAt K f with
  | none => rw [hfd] at e; cases e
  | some fd =>
    rw [hfd] at e b
    simp only [Option.map_some, Option.some.injEq, Prod.mk.injEq] at e
    obtain ⟨e1, e2, e3⟩ := e
    simp only [Bool.and_eq_true, beq_iff_eq, List.isEmpty_iff] at b
    obtain ⟨⟨⟨⟨⟨⟨_, b1⟩, b2⟩, b3⟩, b4⟩, _⟩, _⟩ := b
    have hl := hfd
    unfold fdAt at hl
    split at hl
    · rename_i oc od fd' osl hk
      cases hl
      refine ⟨oc, od, osl, fd.name, fd.qualname, fd.defaults, fd.kwdefaults, fd.doc, fd.pyModule, fd.annotations, fd.code, fd.closureTuple, ?_, b4, fun h X => ?_⟩
      · rw [hk]
        subst e1 e3
        obtain ⟨n, q, p, bd, sc, gl, cl, dv, kv, dc, pm, an, cd, ct, bl⟩ := fd
        simp only at e2 b1 b2 b3
        subst e2 b1 b2 b3
        rfl
      · have := d _ hm
        dsimp only at this
        unfold dflOk at this
        rw [hfd] at this
        simp only [Bool.and_eq_true, beq_iff_eq] at this
        refine ⟨this.1, ?_⟩
        have h2 := this.2
        split at h2
        · rename_i e; exact .inl ⟨e, by simpa using h2⟩
        · rename_i T e
          rw [Bool.and_eq_true, bne_iff_ne] at h2
          have h3 := h2.2
          split at h3
          · rename_i items n _ ht
            exact .inr ⟨T, _, items, n, e, X _ _ ht, rfl, by simpa using h3, h2.1⟩
          · cases h3
        · cases h2
    · cases hl
section
variable {w : World} {l : Addr} {vs : List Value} {ns : List Int} {dd : Nat} {O : Orc} {rs : Rs}
theorem vget_some : ∀ {as : List V} {n : Nat} {v : V}, vget (as.map some) n = some v → as[n]? = some v
  | [], n, v, h => by cases n <;> cases h
  | a :: as, 0, v, h => by simpa [vget] using h
  | a :: as, n + 1, v, h => by simpa using vget_some (as := as) (by simpa [vget] using h)
theorem fn_core {rs : Rs} {t : List S} {f : Addr} {i : Nat} {params : Arguments} {body : List Stmt} {scope : Scope} {ps : List Str} (hm : (i, f) ∈ allFn) (hw : fnWord i = some (params, .stmts body, scope)) (hrs : mkRs 0 scope.names = some rs) (hsh : fnShape scope ps rs = true) (hss : SS w l vs ns dd O rs body t)
    {A : Around} {h₀ : Heap} {L : Addr} {m : Str → Option Value} {s : Shared} {mu fz : Led} {al : List (Addr × Addr)} {sg : Sto} {vals : List Value} {as : List V} {K : V → Sto → Prop} {R : Result → Shared → Prop}
    (hA : Amb w l vs ns A h₀ L) (hR : Room A (dd + 1)) (S : St w h₀ L s.heap m mu fz al sg) (hv : VRs fz al vals as) (hlen : as.length = ps.length)
    (hbind : ∀ name qual dV kV doc pm an cdv ct, DOk s.heap dV kV (ndf i) → BindsTo s (fnX name qual params body scope [] dV kV doc pm an cdv ct) ⟨vals, []⟩ (ps.zip vals))
    (hwp : wps O t (as.map some) sg (fun fl _ sg' => K (fl.getD .none) sg'))
    (hq : ∀ val h' tk' mu' fz' al' v sg', K v sg' → St w h₀ L h' m mu' fz' al' sg' → Ext [] mu fz al mu' fz' al' → VR fz' al' val v → R (.ok (.ret val)) { s with heap := h', toks := tk' }) :
    codeAny (model PG w) A (.call (.ref f) ⟨vals, []⟩) R s := by
  obtain ⟨Kf, kin, kay⟩ := hA.kin
  obtain ⟨mean, mg, mb, A₀, base, outer, fenv, B, T, hfr, hfl, hfk, scr⟩ := hA.ex
  obtain ⟨oc, od, osl, name, qual, dV, kV, doc, pm, an, cdv, ct, hlk, hcd, hdf⟩ := fd_of kay hm hw
  unfold fnShape at hsh
  simp only [Bool.and_eq_true, decide_eq_true_eq, Bool.not_eq_true'] at hsh
  obtain ⟨⟨⟨⟨⟨⟨z1, z2⟩, z3⟩, z4⟩, z5⟩, z6⟩, z7⟩ := hsh
  have hk : scope.kind = .function := by
    split at z1
    · assumption
    · cases z1
  have hvl := hv.length
  have hzl : ps.length ≤ vals.length := by omega
  have hzm : (ps.zip vals).map (·.1) = ps := List.map_fst_zip hzl
  have psnd : ps.Nodup := by rw [z5]; exact List.Sublist.nodup (List.Sublist.map _ (List.take_sublist _ _)) z4
  have kin' := kin.keeps S.fr.keep
  have hkinds : ((ps.zip vals).all fun y => scope.names.lookup y.1 == some .local || scope.names.lookup y.1 == some .cell) = true := by
    rw [List.all_eq_true]
    intro q hq
    rw [List.all_eq_true] at z6
    exact z6 q.1 (by obtain ⟨a, b⟩ := q; exact (List.of_mem_zip hq).1)
  have hcnd : ((cellsFrom 0 scope.names []).map (·.1)).Nodup := by
    have key : ∀ (names : Nm) (n : Nat) (acc : List (Str × Addr)), (names.map (·.1)).Nodup → (acc.map (·.1)).Nodup → (∀ q ∈ acc, q.1 ∉ names.map (·.1)) → ((cellsFrom n names acc).map (·.1)).Nodup := by
      intro names
      induction names with
      | nil => intro n acc _ h _; exact h
      | cons q r ih =>
        intro n acc h1 h2 h3
        obtain ⟨y, k⟩ := q
        rw [List.map_cons, List.nodup_cons] at h1
        unfold cellsFrom
        split
        · refine ih _ _ h1.2 ?_ fun q hq => ?_
          · rw [List.map_cons, List.nodup_cons]
            refine ⟨fun hc => ?_, h2⟩
            obtain ⟨q, hq, e⟩ := List.mem_map.mp hc
            exact h3 q hq (by rw [e]; simp)
          · rcases List.mem_cons.mp hq with rfl | hq
            · exact h1.1
            · exact fun hc => h3 q hq (by rw [List.map_cons]; exact .tail _ hc)
        · exact ih _ _ h1.2 h2 fun q hq hc => h3 q hq (by rw [List.map_cons]; exact .tail _ hc)
    exact key _ _ _ z4 (by simp) (by simp)
  refine callX_cells B S.fr S.nw T.nolimit hfr hfl hfk (kin' _ _ hlk) rfl (codeRec_of kin' hcd) (by have := hR.1; omega) (hbind _ _ _ _ _ _ _ _ _ (hdf _ kin')) (kindsX hkinds) hcnd (fun g L' h₁ tk cells FG F' N' Y B' st lt => ?_) z2 z3 hk
  have cf := cf_ok scope.names (L' + 1) [] (by simp) (by simp)
  have ck := ca_keys Y
  have cgt : ∀ p ∈ cells, L' < p.1 := fun p hp => by
    have : p.1 ∈ (cellsFrom (L' + 1) scope.names []).map (·.2) := ck ▸ List.mem_map_of_mem (f := fun x => x.1) hp
    obtain ⟨q, hq, e⟩ := List.mem_map.mp this
    rcases cf.2 q hq with h | h
    · cases h
    · rw [e] at h; exact h
  have hA' : Amb w l vs ns (A.deeper (envOfC qual scope L' f cdv)) g L' := by
    refine ⟨hA.hh, ⟨Kf, kin.keeps st, kay⟩, mean, mg, mb, A, base, fenv :: outer, envOfC qual scope L' f cdv, B', T.keeps st, Around.frames_deeper hfr, rfl, hk, scr⟩
  have hR' : Room (A.deeper (envOfC qual scope L' f cdv)) dd := ⟨by have := hR.1; show A.depth + 1 + dd < _; omega, by have := hR.2; show A.units + 3 + 8 * dd + 64 < _; omega⟩
  have nd0 := S.nd
  have S' : St w g L' h₁ (bindL (envOfC qual scope L' f cdv).kindOf (ps.zip vals) fun _ => none) (cells ++ mu) fz al sg := by
    refine ⟨F', by rw [List.append_assoc]; exact N', ?_, S.sr.mono (fun p hp _ => List.mem_append_right _ hp) fun _ h => h⟩
    rw [List.append_assoc, List.map_append]
    refine List.nodup_append.mpr ⟨?_, nd0, fun x hx y hy => ?_⟩
    · rw [ck]; exact List.Pairwise.map _ (fun _ _ h => h) cf.1
    · obtain ⟨p, hp, rfl⟩ := List.mem_map.mp hx
      obtain ⟨q, hq, rfl⟩ := List.mem_map.mp hy
      exact Ne.symm (Nat.ne_of_lt (Nat.lt_trans (lt q hq) (cgt p hp)))
  have hrm : ∀ {y : Str} {rv : RV}, rs.lookup y = some rv → (y, rv) ∈ rs := fun h => mem_of_lookup h
  have rnd : (rs.map (·.1)).Nodup := by
    have := z7
    unfold rsOk at this
    simp only [Bool.and_eq_true, decide_eq_true_eq] at this
    exact this.1.1
  have zat : ∀ {y : Str} {n : Nat} {kd : NameKind} {v : V}, scope.names[n]? = some (y, kd) → as[n]? = some v → ∃ val, (ps.zip vals)[n]? = some (y, val) ∧ VR fz al val v := fun {y n kd v} h1 h2 => by
    obtain ⟨val, h3, h4⟩ := hv.get h2
    refine ⟨val, ?_, h4⟩
    have hn : n < ps.length := by have := (List.getElem?_eq_some_iff.mp h2).1; omega
    rw [List.getElem?_zip_eq_some]
    refine ⟨?_, h3⟩
    rw [z5, List.getElem?_map, List.getElem?_take_of_lt hn, h1]; rfl
  have klook : ∀ {y : Str} {n : Nat} {kd : NameKind}, scope.names[n]? = some (y, kd) → (envOfC qual scope L' f cdv).kindOf y = some kd := fun h => lookup_of_mem z4 (List.mem_of_getElem? h)
  have bnd : ((ps.zip vals).map (·.1)).Nodup := by rw [hzm]; exact psnd
  have hcs : ∀ {y : Str} {n : Nat}, scope.names[n]? = some (y, NameKind.cell) → ∃ c, (cellsFrom (L' + 1) scope.names []).lookup y = some c := fun h => Option.isSome_iff_exists.mp (cellsFrom_some _ _ _ (.inl (lookup_of_mem z4 (List.mem_of_getElem? h))))
  have R' : EnvR w L' (bindL (envOfC qual scope L' f cdv).kindOf (ps.zip vals) fun _ => none) (bindL (envOfC qual scope L' f cdv).kindOf (ps.zip vals) fun _ => none) (envOfC qual scope L' f cdv) rs (cells ++ mu) fz al (as.map some) := by
    refine ⟨hk, rfl, rfl, fun x rv h => rsOk_dbg z7 h, ?_, ?_, ?_, ?_, ?_, rnd, fun x y u v n => rsOk_inj z7, ?_, .inl ⟨rfl, rfl⟩⟩
    · intro x v h
      rcases mkRs_mem hrs (hrm h) with ⟨n, e, _⟩ | ⟨n, e, _⟩ | ⟨n, v', e, g, q⟩
      · cases e
      · cases e
      · cases e; exact ⟨klook g, q⟩
    · intro x n v h h2
      rcases mkRs_mem hrs (hrm h) with ⟨k, e, g⟩ | ⟨k, e, _⟩ | ⟨k, v', e, _⟩
      · cases e
        rw [Nat.zero_add] at h2
        obtain ⟨val, q1, q2⟩ := zat g (vget_some h2)
        exact ⟨val, bindL_at (klook g) bnd q1, q2⟩
      · cases e
      · cases e
    · intro x n v h h2
      rcases mkRs_mem hrs (hrm h) with ⟨k, e, _⟩ | ⟨k, e, g⟩ | ⟨k, v', e, _⟩
      · cases e
      · cases e
        rw [Nat.zero_add] at h2
        obtain ⟨val, q1, q2⟩ := zat g (vget_some h2)
        obtain ⟨c, hc⟩ := hcs g
        obtain ⟨o, q3, q4⟩ := ca_get Y hc
        refine ⟨c, o, val, hc, List.mem_append_left _ q3, ?_, q2⟩
        rw [q4, bindC_at (by rw [klook g]; intro e; cases e) bnd q1]
      · cases e
    · intro x n h
      rcases mkRs_mem hrs (hrm h) with ⟨k, e, g⟩ | ⟨k, e, g⟩ | ⟨k, v', e, _⟩
      · exact klook g
      · cases e
      · cases e
    · intro x n h
      rcases mkRs_mem hrs (hrm h) with ⟨k, e, g⟩ | ⟨k, e, g⟩ | ⟨k, v', e, _⟩
      · cases e
      · obtain ⟨c, hc⟩ := hcs g
        obtain ⟨o, q3, q4⟩ := ca_get Y hc
        exact ⟨klook g, c, o, _, hc, List.mem_append_left _ q3, q4⟩
      · cases e
    · intro x y n k c _ _ h1 h2
      exact PySem.name_of_addr cf.1 (mem_of_lookup h1) (mem_of_lookup h2)
  have lvgt : ∀ a ∈ lvOf rs (envOfC qual scope L' f cdv), L' < a := fun a ha => by
    obtain ⟨p, hp, e⟩ := List.mem_filterMap.mp ha
    split at e
    · have hq := mem_of_lookup e
      rcases cf.2 _ hq with h | h
      · cases h
      · exact h
    · cases e
  have fin : ∀ val v h' tk' mf' mu' fz' al' sg', K v sg' → VR fz' al' val v → St w g L' h' mf' mu' fz' al' sg' → Ext (lvOf rs (envOfC qual scope L' f cdv)) (cells ++ mu) fz al mu' fz' al' → LeaveK h₀ L m g R val { s with heap := h', toks := tk' } := by
    intro val v h' tk' mf' mu' fz' al' sg' hk hvr S2 X2
    refine leaveK_ S2.fr S2.nw fun F2 N2 => ?_
    refine hq val h' tk' mu' fz' al' v sg' hk ⟨F2, N2, S2.nd, S2.sr⟩ ⟨X2.ez, fun p hp h1 _ => X2.em p (List.mem_append_right _ hp) h1 fun hl => ?_, ?_⟩ hvr
    · exact Nat.lt_irrefl _ (Nat.lt_trans (lvgt _ hl) (lt p (List.mem_append_left _ hp)))
    · obtain ⟨be, e, hbe⟩ := X2.ea
      exact ⟨be, e, fun q hq p hp => hbe q hq p (by rw [List.append_assoc]; exact List.mem_append_right _ hp)⟩
  refine wpAny_mono (hss _ g L' _ (envOfC qual scope L' f cdv) { s with heap := h₁, toks := tk } _ _ _ _ sg _ (fun fl s' => LeaveK h₀ L m g R (match fl with | .ret v => v | _ => .none) s') hA' hR' rfl S' R' hwp ?_) (fun _ _ h => h) (fun _ _ (e : False) => e.elim)
  intro fl flv h' tk' mf' mu' fz' al' r' sg' hk hf S2 R2 X2
  cases hf with
  | next => exact fin _ _ _ _ _ _ _ _ _ hk .none S2 X2
  | ret hv2 => exact fin _ _ _ _ _ _ _ _ _ hk hv2 S2 X2
end
end Mine
end
section
open PySem PySem.W PySem.Calls PyProof.Rows PySem.Spec
namespace Mine
section
variable {w : World} {l : Addr} {vs : List Value} {ns : List Int} {dd : Nat} {O : Orc} {rs : Rs}
/-! a dict of written keys -/
inductive PK (w : World) (l : Addr) (vs : List Value) (ns : List Int) (dd : Nat) (O : Orc) (rs : Rs) : List (Option Expr) → List Expr → List Str → List T → Prop
  | nil : PK w l vs ns dd O rs [] [] [] []
  | cons {x : Str} {k : Nat} {p : Pos} {keys : List (Option Expr)} {e : Expr} {es : List Expr} {ks : List Str} {t : T} {ts : List T} : SE w l vs ns dd O rs e t → PK w l vs ns dd O rs keys es ks ts → PK w l vs ns dd O rs (some (.Constant (.str x) k p) :: keys) (e :: es) (x :: ks) (t :: ts)
theorem pairs_ok {keys : List (Option Expr)} {es : List Expr} {ks : List Str} {ts : List T} (h : PK w l vs ns dd O rs keys es ks ts) : ∀ {A : Around} {h₀ : Heap} {L : Addr} {mf m : Str → Option Value} {env : Env} {s : Shared} {mu fz : Led} {al : List (Addr × Addr)} {r : Rho} {sg : Sto} {K : List V → Sto → Prop} {Q : List (Value × Value) → Shared → Prop} {pos : Pos},
    Amb w l vs ns A h₀ L → Room A dd → St w h₀ L s.heap mf mu fz al sg → EnvR w L mf m env rs mu fz al r → wpes O ts r sg K →
    (∀ prs vals h' tk' mu' fz' al' v sg', K v sg' → St w h₀ L h' mf mu' fz' al' sg' → Ext [] mu fz al mu' fz' al' → VRs fz' al' vals v → allStrKeys prs = true → strPairs prs = ks.zip vals → vals.length = ks.length → Q prs { s with heap := h', toks := tk' }) →
    wpAny (model PG w) A (evalPairs (pairTrees keys es env pos)) Q Fa s := by
  induction h with
  | nil =>
    intro A h₀ L mf m env s mu fz al r sg K Q pos hA hR S R hw hq
    exact pairTrees_nil_walk (hq [] [] _ _ _ _ _ _ _ hw S .refl .nil rfl rfl rfl)
  | @cons x k p keys e es ks t ts h1 _ ih =>
    intro A h₀ L mf m env s mu fz al r sg K Q pos hA hR S R hw hq
    show wpAny _ _ (evalPairs ((eval (.Constant (.str x) k p) env, (do let y ← eval e env; standAt pos; pure y)) :: pairTrees keys es env pos)) _ _ _
    refine evalPairs_cons (Constant_str ?_)
    refine wpAny_bind (h1 A h₀ L mf m env { s with toks := s.toks + 1 } mu fz al r sg _ _ hA hR S R hw ?_)
    intro val h' tk' mu' fz' al' v sg' hk S' X' V'
    refine wpAny_bind (wpAny_standAt (wpAny_pure ?_))
    refine ih hA hR S' (R.ext S X') hk ?_
    intro prs vals h2 tk2 mu2 fz2 al2 v2 sg2 hk2 S2 X2 V2 q1 q2 q3
    refine hq _ (val :: vals) _ _ _ _ _ _ _ hk2 S2 (X'.trans0 X2 S2) (.cons (X2.vr V') V2) ?_ ?_ ?_
    · unfold allStrKeys; exact q1
    · unfold strPairs; rw [q2]; rfl
    · rw [List.length_cons, List.length_cons, q3]
theorem dict_ok {keys : List (Option Expr)} {es : List Expr} {ks : List Str} {ts : List T} (h : PK w l vs ns dd O rs keys es ks ts) (hlit : strLits keys = true) (hall : keys.all (·.isSome) = true) (hl : keys.length = es.length) (h0 : keys ≠ []) (h15 : keys.length ≤ 15) (nd : ks.Nodup)
    {A : Around} {h₀ : Heap} {L : Addr} {mf m : Str → Option Value} {env : Env} {s : Shared} {mu fz : Led} {al : List (Addr × Addr)} {r : Rho} {sg : Sto} {K : List V → Sto → Prop} {Q : Value → Shared → Prop} {pos : Pos}
    (hA : Amb w l vs ns A h₀ L) (hR : Room A dd) (S : St w h₀ L s.heap mf mu fz al sg) (R : EnvR w L mf m env rs mu fz al r) (hw : wpes O ts r sg K)
    (hq : ∀ d o vals h' tk' mu' fz' al' v sg', K v sg' → St w h₀ L h' mf mu' fz' al' sg' → Ext [] mu fz al mu' fz' al' → VRs fz' al' vals v → vals.length = ks.length → (d, o) ∈ mu' → d ∉ al'.map (·.2) → (d == sysModules) = false → o.IsDictOf (PySem.strKind PG w) (ks.zip vals) → Q (.ref d) { s with heap := h', toks := tk' }) :
    wpAny (model PG w) A (eval (.Dict keys es pos) env) Q Fa s := by
  obtain ⟨mean, mg, mb, A₀, base, outer, fenv, B, T0, _⟩ := hA.ex
  refine kdn_str hlit S.fr S.nw T0.nolimit hall hl h0 h15 fun d h1 o F1 N1 l1 hsys hd => ?_
  have offd : ∀ p ∈ mu, p.1 ≠ d := fun p hp => Nat.ne_of_lt (l1 p (List.mem_append_left _ hp))
  have dal : d ∉ al.map (·.2) := S.sr.off offd
  have S1 : St w h₀ L h1 mf ((d, o) :: mu) fz al sg := ⟨F1, N1, nd_new S.nd l1, S.sr.mono (fun _ h _ => .tail _ h) fun _ h => h⟩
  have X1 : Ext [] mu fz al ((d, o) :: mu) fz al := ⟨fun _ h => h, fun p hp _ _ => .tail _ hp, [], by simp, by simp⟩
  refine pairs_ok h hA hR S1 (R.ext S X1) hw ?_
  intro prs vals h2 tk2 mu2 fz2 al2 v sg2 hk S2 X2 V2 q1 q2 q3
  have md : (d, o) ∈ mu2 := X2.em _ (.head _) dal (fun q => nomatch q)
  have dal2 : d ∉ al2.map (·.2) := fun q => by
    obtain ⟨be, eal, hbe⟩ := X2.ea
    rw [eal, List.map_append] at q
    rcases List.mem_append.mp q with q | q
    · exact dal q
    · obtain ⟨z, hz, e⟩ := List.mem_map.mp q
      exact hbe z hz _ (List.mem_append_left _ (.head _)) e.symm
  have hzm : (ks.zip vals).map (·.1) = ks := List.map_fst_zip (by omega)
  refine kdn_made_str S2.fr S2.nw (nodup_updF S2.nd (List.mem_append_left _ md)) hd q1 (by rw [q2, hzm]; exact nd) fun h3 o' F3 N3 hd' => ?_
  have hf : fz2.map (rep d o') = fz2 := rep_off (fz_off S2.nd md)
  rw [List.map_append, hf] at N3
  have S3 : St w h₀ L h3 mf (mu2.map (rep d o')) fz2 al2 sg2 := by
    refine ⟨F3, N3, ?_, S2.sr.mono (fun p hp hq => rep_ne hp fun e => dal2 (e ▸ hq)) fun _ h => h⟩
    rw [List.map_append, rep_key, ← List.map_append]; exact S2.nd
  have X3 : Ext [] mu fz al (mu2.map (rep d o')) fz2 al2 := ⟨X2.ez, fun p hp h1 h2 => rep_ne (X2.em p (.tail _ hp) h1 h2) (offd p hp), by
    obtain ⟨be, eal, hbe⟩ := X2.ea
    exact ⟨be, eal, fun q hq p hp => hbe q hq p (by rcases List.mem_append.mp hp with hp | hp; exact List.mem_append_left _ (.tail _ hp); exact List.mem_append_right _ hp)⟩⟩
  rw [q2] at hd'
  exact hq d o' vals h3 _ _ _ _ v sg2 hk S3 X3 V2 q3 (rep_eq md) dal2 hsys hd'
theorem zip_at {fz : Led} {al : List (Addr × Addr)} {x : Str} {d : V} : ∀ {ks : List Str} {vals : List Value} {ds : List V}, VRs fz al vals ds → (ks.zip ds).lookup x = some d → ∃ val, valueAt (ks.zip vals) x = some val ∧ VR fz al val d
  | [], vals, ds, _, h => by simp at h
  | k :: ks, vals, ds, hv, h => by
    cases hv with
    | nil => simp at h
    | @cons v vals d' ds h1 h2 =>
      rw [List.zip_cons_cons, List.lookup_cons] at h
      unfold valueAt
      rw [List.zip_cons_cons]
      cases e : x == k with
      | true =>
        rw [e] at h; cases h
        rw [beq_iff_eq] at e
        exact ⟨v, by rw [List.find?_cons_of_pos (by simpa using e.symm)]; rfl, h1⟩
      | false =>
        rw [e] at h
        rw [beq_eq_false_iff_ne] at e
        obtain ⟨val, a, b⟩ := zip_at h2 h
        exact ⟨val, by rw [List.find?_cons_of_neg (by simpa using Ne.symm e)]; exact a, b⟩
theorem se_pick {keys : List (Option Expr)} {es : List Expr} {ks : List Str} {ts : List T} {ke : Expr} {kt : T} {dp pos : Pos} (h : PK w l vs ns dd O rs keys es ks ts) (hlit : strLits keys = true) (hall : keys.all (·.isSome) = true) (hl : keys.length = es.length) (h0 : keys ≠ []) (h15 : keys.length ≤ 15) (nd : ks.Nodup) (hs : notSlice ke = true) (hk : SE w l vs ns dd O rs ke kt) :
    SE w l vs ns dd O rs (.Subscript (.Dict keys es dp) ke pos) (.pick ks ts kt) := by
  intro A h₀ L mf m env s mu fz al r sg K Q hA hR S R hw hq
  unfold wpe at hw
  refine Subscript_ (dict_ok h hlit hall hl h0 h15 nd hA hR S R hw ?_)
  intro d o vals h1 tk1 mu1 fz1 al1 v sg1 hk1 S1 X1 V1 hlen md dal hsys hd
  refine hk A h₀ L mf m env _ mu1 fz1 al1 r sg1 _ _ hA hR S1 (R.ext S X1) hk1 ?_
  intro val h2 tk2 mu2 fz2 al2 x sg2 hk2 S2 X2 V2
  split at hk2
  · rename_i x
    split at hk2
    · rename_i v' hv'
      cases V2
      obtain ⟨val', a, b⟩ := zip_at (X2.vrs V1) hv'
      have md2 := X2.em _ md dal (fun q => nomatch q)
      exact kdt_tail S2.nw (List.mem_append_left _ md2) hd (kdt_getItem S2.nw (List.mem_append_left _ md2) hd (strKind_is _ _ _ _) a (hq _ _ _ _ _ _ _ _ hk2 S2 (X1.trans0 X2 S2) b)) (notSlice_sub hs _ _)
    · exact hk2.elim
  · exact hk2.elim
/-- a dict is bound, a key is looked for, its value goes back -/
theorem ss_pickr {keys : List (Option Expr)} {es : List Expr} {ks : List Str} {ts : List T} {y u : Str} {ny nu : Nat} {dp p1 p2 p3 p4 p5 p6 p7 p8 p9 p10 : Pos} {raise : List Stmt} (hy : rs.lookup y = some (.var ny)) (hu : rs.lookup u = some (.var nu)) (hne : nu ≠ ny) (h : PK w l vs ns dd O rs keys es ks ts) (hlit : strLits keys = true) (hall : keys.all (·.isSome) = true) (hl : keys.length = es.length) (h0 : keys ≠ []) (h15 : keys.length ≤ 15) (nd : ks.Nodup) :
    SS w l vs ns dd O rs [.Assign [.Name y p1] (.Dict keys es dp) p2, .If (.Compare (.Name u p3) [.NotIn] [.Name y p4] p5) raise [] p6, .Return (some (.Subscript (.Name y p7) (.Name u p8) p9)) p10] [.pickr ks ts (.var nu)] := by
  intro A h₀ L mf env s mu fz al r sg K Q hA hR hL S R hw hq
  unfold wps wps1 wpe at hw
  refine wpAny_execs_cons (wpAny_Assign_Name (dict_ok h hlit hall hl h0 h15 nd hA hR S R hw ?_) (notComp_swaps rfl _ _ _))
  intro d o vals h1 tk1 mu1 fz1 al1 v sg1 hk1 S1 X1 V1 hlen md dal hsys hd
  unfold wpe at hk1
  split at hk1
  · rename_i x hx
    split at hk1
    · rename_i x
      split at hk1
      · rename_i v' hv'
        refine store_ok hL S1 (R.ext S X1) hy rfl (.raw (.ref d)) fun h2 tk2 mf2 mu2 S2 R2 X2 => ?_
        have dlv : d ∉ lvOf rs env := fun q => by
          obtain ⟨_, _, o2, cv, _, _, q1, q2⟩ := lv_cell (R.ext S X1) q
          have := nodup_key S1.nd (List.mem_append_left fz1 md) (List.mem_append_left fz1 q1)
          subst this
          obtain ⟨_, _, _, q3, _⟩ := hd
          rw [q2] at q3; cases q3
        have md2 := X2.em _ md dal dlv
        obtain ⟨uval, a, b⟩ := R2.var u nu (.str x) hu (by rw [vget_put_ne _ _ _ _ hne]; exact hx)
        obtain ⟨yval, c, e⟩ := R2.var y ny (.raw (.ref d)) hy (vget_put_same _ _ _)
        cases e
        cases b
        obtain ⟨val', a', b'⟩ := zip_at (X2.vrs V1) hv'
        have nsx := R2.ns S2
        refine wpAny_execs_cons (wpAny_If (wpAny_isTrue_Compare1 (wpAny_Name (wpAny_loadName_local R.kind (R.kvar _ _ hu) nsx a (wpAny_Name (wpAny_loadName_local R.kind (R.kvar _ _ hy) nsx c ?_) (R.dbg _ _ hy))) (R.dbg _ _ hu)) rfl))
        refine kdg_notin S2.nw (List.mem_append_left _ md2) hd hsys (strKind_is _ _ _ _) true (by rw [a']; rfl) (wpAny_truthy_bool ?_)
        rw [if_neg (by decide)]
        refine wpAny_execs_nil ?_
        refine wpAny_execs_cons (wpAny_Return_some (Subscript_ (wpAny_Name (wpAny_loadName_local R.kind (R.kvar _ _ hy) nsx c (wpAny_Name (wpAny_loadName_local R.kind (R.kvar _ _ hu) nsx a ?_) (R.dbg _ _ hu))) (R.dbg _ _ hy))))
        refine kdt_tail S2.nw (List.mem_append_left _ md2) hd (kdt_getItem S2.nw (List.mem_append_left _ md2) hd (strKind_is _ _ _ _) a' ?_) rfl
        exact hq _ _ _ _ _ _ _ _ _ _ (hk1 _) (.ret b') S2 R2 (X1.up.tr X2 S2 R2)
      · exact hk1.elim
    · exact hk1.elim
  · exact hk1.elim
/-! a loop over a list that stays -/
theorem for_less {k n : Nat} (h : k < n) : n - (k + 1) + 1 < n - k + 1 := by omega
theorem for_done {k n : Nat} {ws : List Value} (h : ¬k < n) (e : ws.length = n) : ws.toArray[k]? = none := by rw [List.getElem?_toArray]; exact List.getElem?_eq_none (by omega)
theorem for_goL {x : Str} {rv : RV} {n : Nat} {px : Pos} {body : List Stmt} {b : List S} (hx : rs.lookup x = some rv) (hn : rv.ix = some n) (h2 : SS w l vs ns dd O rs body b)
    {A : Around} {h₀ : Heap} {L : Addr} {mf : Str → Option Value} {env : Env} {s : Shared} {h : Heap} {tk : Nat} {mu fz : Led} {al : List (Addr × Addr)} {r : Rho} {sg : Sto} {K : Kf} {I ax : Addr} {ws : List Value} {nw : Nat} {ds : List V} {RR : Result → Shared → Prop}
    (hA : Amb w l vs ns A h₀ L) (hR : Room A dd) (hL : env.locals = L) (S₀ : St w h₀ L h mf mu fz al sg) (R₀ : EnvR w L mf mf env rs mu fz al r) (hit : h.IsListIter I ax 0) (hax : (ax, W.listOf ws.toArray nw) ∈ fz) (hws : VRs fz al ws ds) (hI₀ : h₀.get? I = none) (hIL : I ≠ L) (off : ∀ p ∈ mu ++ fz, p.1 ≠ I)
    (hw : wpForL (fun r' sg' K' => wps O b r' sg' K') n ds r sg K)
    (hq : ∀ fl flv h' tk' mf' mu' fz' al' r' sg', K flv r' sg' → FlR fz' al' fl flv → St w h₀ L h' mf' mu' fz' al' sg' → EnvR w L mf' mf' env rs mu' fz' al' r' → Ext (lvOf rs env) mu fz al mu' fz' al' → RR (.ok fl) { s with heap := h', toks := tk' }) :
    codeAny (model PG w) A (.forLoop (.Name x px) (.ref I) body [] env) RR { s with heap := h, toks := tk } := by
  refine codeAny_forLoop (ForI w rs h₀ L env mu fz al s I fun m h r sg => ∃ k, m = ds.length - k ∧ k ≤ ds.length ∧ h.IsListIter I ax k ∧ wpForL (fun r' sg' K' => wps O b r' sg' K') n (ds.drop k) r sg K) ?_ (ds.length - 0 + 1) (.mk ⟨0, rfl, Nat.zero_le _, hit, hw⟩ S₀ R₀ .refl off)
  intro j s1 hf
  cases hf with
  | @mk m h tk mf' mu' fz' al' r' sg' hJ S R X off =>
  obtain ⟨k, rfl, hk0, hit, hw⟩ := hJ
  have hl : h.IsList ax ws.toArray := S.nw.isList (List.mem_append_right _ (X.ez _ hax))
  have hlen := hws.length
  by_cases hlt : k < ds.length
  · rw [List.drop_eq_getElem_cons hlt] at hw
    unfold wpForL at hw
    obtain ⟨val, e1, e2⟩ := hws.get (List.getElem?_eq_getElem hlt)
    refine wpAny_pyNext_list_item hit hl ((List.getElem?_toArray).trans e1) fun h1 hit1 hs1 => ?_
    have S1 := S.but hs1 hI₀ hIL off
    dsimp only
    obtain ⟨oI, gI, hoI⟩ : ∃ oI, h1.get? I = some oI ∧ ∀ h' : Heap, h'.get? I = some oI → h'.IsListIter I ax (k + 1) := by
      obtain ⟨oI, a, c⟩ := hit1
      exact ⟨oI, a, fun h' e => ⟨oI, e, c⟩⟩
    refine for_step hx hn h2 hA hR hL S1 R X off gI hI₀ hIL (X.vr e2) hw fun fl flv h3 tk3 mf3 mu4 fz3 al3 r3 sg3 hk hf g3 S4 R4 X4 off4 => ?_
    cases hf with
    | next => exact ⟨ds.length - (k + 1) + 1, for_less hlt, .mk ⟨k + 1, rfl, hlt, hoI h3 g3, hk⟩ S4 R4 X4 off4⟩
    | ret hv => exact hq _ _ _ _ _ _ _ _ _ _ hk (.ret hv) S4 R4 X4
  · rw [List.drop_of_length_le (Nat.le_of_not_lt hlt)] at hw
    unfold wpForL at hw
    refine wpAny_pyNext_list_end hA.hh hit hl (for_done hlt hlen) fun h2 he => ?_
    refine wpAny_execs_nil ?_
    exact hq _ _ h2 tk _ _ _ _ _ _ hw .next (S.butI he hI₀ hIL off) R X
theorem ss_forl {x : Str} {rv : RV} {n : Nat} {px pos : Pos} {e : Expr} {t : T} {body : List Stmt} {b : List S} (hx : rs.lookup x = some rv) (hnx : rv.ix = some n) (hns : noSet e = true) (h1 : SE w l vs ns dd O rs e t) (h2 : SS w l vs ns dd O rs body b) :
    SS1 w l vs ns dd O rs (.For (.Name x px) e body [] pos) (.forl n t b) := by
  intro A h₀ L mf env s mu fz al r sg K Q hA hR hL S R hw hq
  unfold wps1 at hw
  refine wpAny_For (h1 A h₀ L mf mf env s mu fz al r sg _ _ hA hR S R hw ?_) (fun y => noSet_folded hns env y)
  intro val h' tk' mu' fz' al' v sg' hk S' X' V'
  cases v <;> first | exact hk.elim | skip
  rename_i ds
  cases V' with
  | @lst ax ws nw _ hm hv =>
    have ht : h'.IsList ax ws.toArray := S'.nw.isList (List.mem_append_right _ hm)
    refine wpAny_pyIter_list ht ?_
    refine for_goL (s := { s with heap := h', toks := tk' }) hx hnx h2 hA hR hL (S'.same (S'.fr.push _) (S'.nw.grown fun _ _ e => Heap.get?_push_of_some _ e)) (R.ext S X') (I := h'.objs.size) ⟨_, Heap.get?_push_size _ rfl, rfl, rfl⟩ hm hv (next_is_new S'.fr) (Ne.symm (Nat.ne_of_lt S'.fr.ns.lt)) (fun p hp => Nat.ne_of_lt (lt_of_news S'.nw p hp)) hk ?_
    intro fl flv h2 tk2 mf2 mu2 fz2 al2 r2 sg2 hk2 hf2 S2 R2 X2
    exact hq _ _ _ _ _ _ _ _ _ _ hk2 hf2 S2 R2 (X'.up.tr X2 S2 R2)
end
end Mine
end
section
open PySem PySem.W PySem.Calls PyProof.Rows PySem.Spec
namespace Mine
/-! the oracle grows -/
abbrev Spc := List V → Sto → (V → Sto → Prop) → Prop
def addO (O : Orc) (f : Addr) (sp : Spc) : Orc := fun g as sg K => if g = f then sp as sg K else O g as sg K
section
variable {w : World} {l : Addr} {vs : List Value} {ns : List Int} {dd : Nat} {O : Orc}
theorem Room.less {A : Around} {a b : Nat} (h : Room A a) (hab : b ≤ a) : Room A b := ⟨by have := h.1; omega, by have := h.2; omega⟩
theorem orc_none : OrcOK w l vs ns dd fun _ _ _ _ => False := fun _ _ _ _ h => h.elim
theorem orc_fn {rs : Rs} {t : List S} {f : Addr} {i : Nat} {params : Arguments} {body : List Stmt} {scope : Scope} {ps : List Str} {sp : Spc} (hO : OrcOK w l vs ns dd O) (hm : (i, f) ∈ fnTab) (hw : fnWord i = some (params, .stmts body, scope)) (hrs : mkRs 0 scope.names = some rs) (hsh : fnShape scope ps rs = true)
    (hss : OrcOK w l vs ns dd O → SS w l vs ns dd O rs body t)
    (hnd : ndf i = 0) (hbind : ∀ (vals : List Value), vals.length = ps.length → ∀ name qual doc pm an cdv ct s, BindsTo s (fnX name qual params body scope [] .none .none doc pm an cdv ct) ⟨vals, []⟩ (ps.zip vals))
    (hsp : ∀ as sg K, sp as sg K → as.length = ps.length ∧ wps O t (as.map some) sg (fun fl _ sg' => K (fl.getD .none) sg')) : OrcOK w l vs ns (dd + 1) (addO O f sp) := by
  intro g as sg K h A h₀ L m s mu fz al vals Q hA hR S hv hq
  unfold addO at h
  split at h
  · rename_i e
    subst e
    obtain ⟨h1, h2⟩ := hsp as sg K h
    refine wpAny_call (fn_core (List.mem_append_right _ hm) hw hrs hsh (hss hO) hA hR S hv h1 (fun name qual dV kV doc pm an cdv ct hd => ?_) h2 fun val h' tk' mu' fz' al' v sg' hk S' X' V' => hq val h' tk' mu' fz' al' v sg' hk S' X' V')
    obtain ⟨rfl, ⟨rfl, _⟩ | ⟨T, o, items, n, _, _, _, _, hsz⟩⟩ := hd
    case inr => exact absurd hnd hsz
    exact hbind vals (by have := hv.length; omega) _ _ _ _ _ _ _ _
  · exact hO g as sg K h A h₀ L m s mu fz al vals Q hA (hR.less (by omega)) S hv hq
theorem orc_cls {rs : Rs} {t : List S} {C f : Addr} {i : Nat} {params : Arguments} {body : List Stmt} {scope : Scope} {ps : List Str} {sp : Spc} (hO : OrcOK w l vs ns dd O) (hm : (i, C, f) ∈ clTab) (hw : fnWord i = some (params, .stmts body, scope)) (hrs : mkRs 0 scope.names = some rs) (hsh : fnShape scope ps rs = true)
    (hss : OrcOK w l vs ns dd O → SS w l vs ns dd O rs body t)
    (hbind : ∀ (vals : List Value), vals.length = ps.length → ∀ name qual dV kV doc pm an cdv ct s, DOk s.heap dV kV (ndf i) → BindsTo s (fnX name qual params body scope [] dV kV doc pm an cdv ct) ⟨vals, []⟩ (ps.zip vals))
    (hsp : ∀ as sg K, sp as sg K → as.length + 1 = ps.length ∧ wps O t ((V.obj sg.length :: as).map some) (sg ++ [.inst C []]) (fun fl _ sg' => fl.getD .none = .none ∧ K (.obj sg.length) sg')) : OrcOK w l vs ns (dd + 2) (addO O C sp) := by
  intro g as sg K h A h₀ L m s mu fz al vals Q hA hR S hv hq
  unfold addO at h
  split at h
  · rename_i e
    subst e
    obtain ⟨h1, h2⟩ := hsp as sg K h
    obtain ⟨Kf, kin, kay⟩ := hA.kin
    have a := kay.parts.2.2.2.2.1
    rw [List.all_eq_true] at a
    have b := a _ hm
    unfold mkOk at b
    simp only [Bool.and_eq_true, beq_iff_eq] at b
    obtain ⟨⟨b1, b2⟩, b3⟩ := b
    have hmf : (i, f) ∈ allFn := List.mem_append_left _ (List.mem_map.mpr ⟨(i, g, f), hm, rfl⟩)
    have c := kay.parts.2.2.2.1
    rw [List.all_eq_true] at c
    have c1 := c _ hmf
    have cf : isFn Kf (.ref f) = true := by
      dsimp only at c1
      unfold fdOk at c1
      split at c1
      · simp only [Bool.and_eq_true] at c1
        exact c1.1.2
      · cases c1
    refine call_cls S.fr kin S.nw b1 b2 cf fun x dx h' F' N' l1 hx => ?_
    have hxx : ∀ p ∈ mu ++ fz, p.1 ≠ x := fun p hp => Nat.ne_of_lt (Nat.lt_trans (l1 p hp) hx)
    have nd0 := S.nd
    rw [List.map_append] at nd0
    obtain ⟨q1, q2, q3⟩ := List.nodup_append.mp nd0
    obtain ⟨S1, X1⟩ := S.snoc (a := x) (dx := dx) (o := dictOf [] 0) (fz' := (x, instObj g dx) :: fz) (oa := .inst g []) F' (fun p hp => by
        refine N' p ?_
        rcases List.mem_cons.mp hp with rfl | hp
        · exact .tail _ (.head _)
        · rcases List.mem_append.mp hp with hp | hp
          · exact .tail _ (.tail _ (List.mem_append_left _ hp))
          · rcases List.mem_cons.mp hp with rfl | hp
            · exact .head _
            · exact .tail _ (.tail _ (List.mem_append_right _ hp))) (by
        rw [List.cons_append, List.map_cons, List.nodup_cons, List.map_append, List.map_cons]
        refine ⟨fun q => ?_, List.nodup_append.mpr ⟨q1, List.nodup_cons.mpr ⟨fun q => ?_, q2⟩, fun y hy z hz => ?_⟩⟩
        · rcases List.mem_append.mp q with q | q
          · obtain ⟨p, hp, e⟩ := List.mem_map.mp q
            exact Nat.ne_of_lt (l1 p (List.mem_append_left _ hp)) e
          · rcases List.mem_cons.mp q with q | q
            · exact Nat.ne_of_lt hx q
            · obtain ⟨p, hp, e⟩ := List.mem_map.mp q
              exact Nat.ne_of_lt (l1 p (List.mem_append_right _ hp)) e
        · obtain ⟨p, hp, e⟩ := List.mem_map.mp q
          exact hxx p (List.mem_append_right _ hp) e
        · rcases List.mem_cons.mp hz with rfl | hz
          · obtain ⟨p, hp, rfl⟩ := List.mem_map.mp hy
            exact hxx p (List.mem_append_left _ hp)
          · exact q3 y hy z hz) (fun _ h => .tail _ h) (fun p hp => Nat.ne_of_lt (l1 p hp)) ⟨.head _, [], 0, .head _, .nil⟩
    have hobj : VR ((x, instObj g dx) :: fz) (al ++ [(x, dx)]) (.ref x) (.obj sg.length) := .obj (by rw [List.getElem?_append_right (by rw [S.sr.len]; omega), S.sr.len, Nat.sub_self]; rfl)
    have hA' : Amb w l vs ns (A.under (.builtin "type.__call__" ⟨.ref g :: vals, []⟩)) h₀ L := ⟨hA.hh, ⟨Kf, kin, kay⟩, hA.ex⟩
    have hR' : Room (A.under (.builtin "type.__call__" ⟨.ref g :: vals, []⟩)) (dd + 1) := ⟨by have := hR.1; show A.depth + 1 + (dd + 1) < _; omega, by have := hR.2; show A.units + 1 + 8 * (dd + 1) + 64 < _; omega⟩
    refine fn_core hmf hw hrs hsh (hss hO) hA' hR' (s := { s with heap := h' }) S1 (.cons hobj (X1.vrs hv)) (by rw [List.length_cons]; exact h1) (fun name qual dV kV doc pm an cdv ct hdk => ?_) (K := fun v sg' => v = .none ∧ K (.obj sg.length) sg') h2 ?_
    · exact hbind (.ref x :: vals) (by have := hv.length; rw [List.length_cons]; omega) _ _ _ _ _ _ _ _ _ _ hdk
    · intro val h2' tk' mu' fz' al' v sg' hk S2 X2 V2
      obtain ⟨rfl, hk⟩ := hk
      cases V2
      exact ⟨rfl, hq _ _ _ _ _ _ _ _ hk S2 (X1.trans0 X2 S2) (X2.vr hobj)⟩
  · exact hO g as sg K h A h₀ L m s mu fz al vals Q hA (hR.less (by omega)) S hv hq
end
end Mine
end
section
open PySem PySem.W PySem.Calls PyProof.Rows PySem.Spec
namespace Mine
section
variable {w : World} {l : Addr} {vs : List Value} {ns : List Int} {dd : Nat} {O : Orc} {rs : Rs}
theorem sb_var {x : Str} {n : Nat} {p : Pos} (h1 : SE w l vs ns dd O rs (.Name x p) (.var n)) : SB w l vs ns dd O rs (.Name x p) (.var n) :=
  sb_val (fun _ => rfl) h1 fun r sg K h => by
    unfold wpt at h
    unfold wpe
    cases hv : vget r n with
    | none => rw [hv] at h; exact h
    | some v => rw [hv] at h; exact h
theorem sb_call {f : Expr} {es : List Expr} {pos : Pos} {a : Addr} {ts : List T} (h1 : SE w l vs ns dd O rs (.Call f es [] pos) (.call a ts)) : SB w l vs ns dd O rs (.Call f es [] pos) (.call a ts) :=
  sb_val (fun _ => rfl) h1 fun r sg K h => by
    unfold wpt at h
    unfold wpe
    exact h
theorem sb_bi {f : Expr} {es : List Expr} {pos : Pos} {a : Bi} {ts : List T} (h1 : SE w l vs ns dd O rs (.Call f es [] pos) (.bi a ts)) : SB w l vs ns dd O rs (.Call f es [] pos) (.bi a ts) :=
  sb_val (fun _ => rfl) h1 fun r sg K h => by
    unfold wpt at h
    unfold wpe
    exact h
theorem sb_attr {o : Expr} {y : Str} {pos : Pos} {a : T} {x : Nat} (h1 : SE w l vs ns dd O rs (.Attribute o y pos) (.attr a x)) : SB w l vs ns dd O rs (.Attribute o y pos) (.attr a x) :=
  sb_val (fun _ => rfl) h1 fun r sg K h => by
    unfold wpt at h
    unfold wpe
    exact h
theorem sb_item {o i : Expr} {pos : Pos} {a b : T} (h1 : SE w l vs ns dd O rs (.Subscript o i pos) (.item a b)) : SB w l vs ns dd O rs (.Subscript o i pos) (.item a b) :=
  sb_val (fun _ => rfl) h1 fun r sg K h => by
    unfold wpt at h
    unfold wpe
    exact h
/-- a comprehension's scope, looked at -/
def freOk (rs : Rs) : Nm → Bool
  | [] => true
  | (y, .free) :: r => (match rs.lookup y with | some (.cel _) => true | _ => false) && freOk rs r
  | _ :: r => freOk rs r
def compChk (rs : Rs) (x : Str) (nn : Nat) (scope : Scope) : Bool :=
  (match scope.kind with | .function => true | _ => false) && decide ((scope.names.map (·.1)).Nodup) && (scope.names.lookup x == some .local) && (scope.names.all fun y => y.2 != .cell) && (compRs rs x nn scope.names).isSome && rsOk ((compRs rs x nn scope.names).getD []) && ((compRs rs x nn scope.names).getD []).any (fun p => p.1 == x && (match p.2 with | .var n => n == nn | _ => false)) && freOk rs scope.names
theorem freOk_mem {y : Str} : ∀ {names : Nm}, freOk rs names = true → (y, .free) ∈ names → ∃ n, rs.lookup y = some (.cel n)
  | [], _, h => nomatch h
  | (z, k) :: r, h, hm => by
    rcases List.mem_cons.mp hm with e | hm
    · cases e
      unfold freOk at h
      rw [Bool.and_eq_true] at h
      have h1 := h.1
      split at h1
      · rename_i n hn; exact ⟨n, hn⟩
      · cases h1
    · have : freOk rs r = true := by
        cases k <;> (unfold freOk at h; try (first | exact h | (rw [Bool.and_eq_true] at h; exact h.2)))
      exact freOk_mem this hm
theorem comp_of {x : Str} {nn : Nat} {scope : Scope} (h : compChk rs x nn scope = true) : CompOk rs ((compRs rs x nn scope.names).getD []) x nn scope := by
  unfold compChk at h
  simp only [Bool.and_eq_true, decide_eq_true_eq, beq_iff_eq, List.all_eq_true, bne_iff_ne, List.any_eq_true] at h
  obtain ⟨⟨⟨⟨⟨⟨⟨h1, h2⟩, h3⟩, h4⟩, h5⟩, h6⟩, h7⟩, h8⟩ := h
  refine ⟨?_, h2, mem_of_lookup h3, ?_, h4, ?_, h6, fun y hy => freOk_mem h8 hy⟩
  · split at h1
    · assumption
    · cases h1
  · obtain ⟨p, hp, e1, e2⟩ := h7
    obtain ⟨a, b⟩ := p
    dsimp only at e1 e2
    subst e1
    split at e2
    · simp only [beq_iff_eq] at e2
      subst e2
      rename_i n
      exact hp
    · cases e2
  · cases hc : compRs rs x nn scope.names with
    | none => rw [hc] at h5; cases h5
    | some t => rfl
/-- the script's digit -/
def dig (ns : List Int) (i : Int) : Int := ns.getD i.toNat 0
def digP (l : Addr) (ns : List Int) (a b : Nat) : Rho → Sto → Kf → Prop := fun r sg K => ∃ i, vget r a = some (.raw (.ref l)) ∧ vget r b = some (.int i) ∧ 0 ≤ i ∧ K (some (.int (dig ns i))) r sg
theorem ss_digit {sc pl ln : Str} {a b k0 : Nat} {p1 p2 p3 p4 p5 p6 p7 p8 p9 p10 p11 : Pos} (ha : rs.lookup sc = some (.var a)) (hb : rs.lookup pl = some (.var b)) (hln : rs.lookup ln = some (.glob (.builtin "len"))) :
    SS1 w l vs ns dd O rs (.Return (some (.IfExp (.Compare (.Name pl p1) [.Lt] [.Call (.Name ln p2) [.Name sc p3] [] p4] p5) (.Subscript (.Name sc p6) (.Name pl p7) p8) (.Constant (.int 0) k0 p9) p10)) p11) (.sem (digP l ns a b)) := by
  intro A h₀ L mf env s mu fz al r sg K Q hA hR hL S R hw hq
  obtain ⟨i, h1, h2, h3, hk⟩ := hw
  obtain ⟨mean, mg, mb, A₀, base, outer, fenv, B, T0, hfr, hfl, hfk, scr⟩ := hA.ex
  have hl : s.heap.IsList l vs.toArray := scr.lst.at fun o e => S.fr.keep _ _ (B.stays _ _ e)
  obtain ⟨v1, q1, w1⟩ := R.var sc a _ ha h1
  obtain ⟨v2, q2, w2⟩ := R.var pl b _ hb h2
  have e1 : v1 = .ref l := by cases w1; rfl
  subst e1
  obtain ⟨t, rfl⟩ : ∃ t, v2 = .int i t := by cases w2; exact ⟨_, rfl⟩
  have nsx := R.ns S
  have hlen : vs.length = ns.length := by have := scr.its.sizeZ; rw [List.size_toArray] at this; omega
  have hfit := scr.fit
  have up : ∀ tk : Nat, ({ s with toks := tk } : Shared).heap = s.heap := fun _ => rfl
  refine wpAny_Return_some (wpAny_IfExp (wpAny_isTrue_Compare1 (wpAny_Name (wpAny_loadName_local R.kind (R.kvar _ _ hb) nsx q2 ?_) (R.dbg _ _ hb)) (by rfl)))
  obtain ⟨kk, gg⟩ := R.gv _ _ hln
  refine Call_ (loadG hA S R.kind R.glb R.blt kk (R.dbg _ _ hln) gg ?_)
  refine callWith_plain (fun a e => by cases e) ⟨List.cons_ne_nil _ _, fun _ => rfl⟩ ?_
  refine spliced_cons (wpAny_Name (wpAny_loadName_local R.kind (R.kvar _ _ ha) nsx q1 (spliced_nil ?_)) (R.dbg _ _ ha))
  refine call_len_list hl (by rw [List.size_toArray, hlen]; omega) ?_
  refine lt_int (wpAny_truthy_bool ?_)
  have hsz : (vs.toArray.size : Int) = ns.length := by rw [List.size_toArray, hlen]
  by_cases hlt : i < ns.length
  · have hd : decide (i < (vs.toArray.size : Int)) = true := by rw [hsz]; exact decide_eq_true hlt
    rw [hd]
    refine Subscript_ (wpAny_Name (wpAny_loadName_local R.kind (R.kvar _ _ ha) nsx q1 (wpAny_Name (wpAny_loadName_local R.kind (R.kvar _ _ hb) nsx q2 ?_) (R.dbg _ _ hb))) (R.dbg _ _ ha))
    obtain ⟨t', hx⟩ : ∃ t', vs[i.toNat]? = some (.int (dig ns i) t') := by
      obtain ⟨v, hv⟩ : ∃ v, vs[i.toNat]? = some v := ⟨_, List.getElem?_eq_getElem (by omega)⟩
      obtain ⟨t', e⟩ := scr.its.int_at _ _ hv
      exact ⟨t', by rw [hv, e]; rfl⟩
    refine tail_any hl.typeIs slot_list_getitem.lookup (wpAny_getItem_list hl h3 (by omega) (by simpa using hx) ?_) rfl
    exact hq _ _ s.heap _ _ _ _ _ _ _ hk (.ret (.int _ _)) S R .refl
  · have hd : decide (i < (vs.toArray.size : Int)) = false := by rw [hsz]; exact decide_eq_false hlt
    rw [hd]
    have e0 : dig ns i = 0 := by unfold dig; rw [List.getD_eq_getElem?_getD, List.getElem?_eq_none (by omega)]; rfl
    refine wpAny_Constant_int ?_
    rw [e0] at hk
    exact hq _ _ s.heap _ _ _ _ _ _ _ hk (.ret (.int _ _)) S R .refl
end
end Mine
namespace Mine
section
variable {w : World} {l : Addr} {vs : List Value} {ns : List Int} {dd : Nat} {O : Orc} {rs rs' : Rs}
theorem inter_of (env : Env) (h : env.scope.kind = .function) : interactive env = false := by
  unfold interactive; rw [h]; rfl
theorem se_attrE {a : Expr} {ta : T} {x : Nat} {y : Str} {pos : Pos} (hy : y = fname x) (hb : plainBase a = true) (h1 : SE w l vs ns dd O rs a ta) : SE w l vs ns dd O rs (.Attribute a y pos) (.attr ta x) := hy ▸ se_attr hb h1
theorem se_powE {i j : Int} {n k₁ k₂ : Nat} {p₁ p₂ pos : Pos} (hj : j = (n : Int)) (hi : i.natAbs < 2 ^ 64) (hn : n ≤ 1000) : SE w l vs ns dd O rs (.BinOp (.Constant (.int i) k₁ p₁) .Pow (.Constant (.int j) k₂ p₂) pos) (.pow i n) := hj ▸ se_pow hi hn
theorem se_sliceE {a : Expr} {ta : T} {x y : Int} {i j k₁ k₂ : Nat} {p₁ p₂ p pos : Pos} (hx : x = (i : Int)) (hy : y = (j : Int)) (hb : plainBase a = true) (ht : ∀ o r, letTemporaryGo a o r = pure ()) (hi : 1 ≤ i) (h1 : SE w l vs ns dd O rs a ta) :
    SE w l vs ns dd O rs (.Subscript a (.Slice (some (.Constant (.int x) k₁ p₁)) (some (.Constant (.int y) k₂ p₂)) none p) pos) (.slice ta i j) := by subst hx hy; exact se_slice hb ht hi h1
theorem se_comp1 {elt a : Expr} {x g : Str} {px pos pf pr : Pos} {nn : Nat} {scope : Scope} {hi te : T} (c : CompOk rs rs' x nn scope)
    (hx : rs.lookup g = some (.glob (.type "range"))) (hn : NoStar [a]) (h1 : SEs w l vs ns dd O rs [a] [hi]) (h2 : SE w l vs ns dd O rs' elt te) :
    SE w l vs ns dd O rs (.ListComp elt [⟨.Name x px, .Call (.Name g pf) [a] [] pr, [], 0⟩] scope pos) (.compR nn (.int 0) hi te) := se_compR c hx hn h1 (.inl ⟨rfl, rfl⟩) h2
theorem se_comp2 {elt a b : Expr} {x g : Str} {px pos pf pr : Pos} {nn : Nat} {scope : Scope} {lo hi te : T} (c : CompOk rs rs' x nn scope)
    (hx : rs.lookup g = some (.glob (.type "range"))) (hn : NoStar [a, b]) (h1 : SEs w l vs ns dd O rs [a, b] [lo, hi]) (h2 : SE w l vs ns dd O rs' elt te) :
    SE w l vs ns dd O rs (.ListComp elt [⟨.Name x px, .Call (.Name g pf) [a, b] [] pr, [], 0⟩] scope pos) (.compR nn lo hi te) := se_compR c hx hn h1 (.inr rfl) h2
theorem ss_asnR1 {y : Str} {n : Nat} {py spos : Pos} {elt a : Expr} {x g : Str} {px pos pf pr : Pos} {nn : Nat} {scope : Scope} {hi te : T} (hy : rs.lookup y = some (.var n)) (hl : lineOk py pos = true) (hno : (scope.names.any fun (n, k) => n == y && (k == .local || k == .cell)) = false) (c : CompOk rs rs' x nn scope)
    (hx : rs.lookup g = some (.glob (.type "range"))) (hn : NoStar [a]) (h1 : SEs w l vs ns dd O rs [a] [hi]) (h2 : SE w l vs ns dd O rs' elt te) :
    SS1 w l vs ns dd O rs (.Assign [.Name y py] (.ListComp elt [⟨.Name x px, .Call (.Name g pf) [a] [] pr, [], 0⟩] scope pos) spos) (.asn n (.compR nn (.int 0) hi te)) := ss_asnR hy hl hno c hx hn h1 (.inl ⟨rfl, rfl⟩) h2
theorem ss_asnR2 {y : Str} {n : Nat} {py spos : Pos} {elt a b : Expr} {x g : Str} {px pos pf pr : Pos} {nn : Nat} {scope : Scope} {lo hi te : T} (hy : rs.lookup y = some (.var n)) (hl : lineOk py pos = true) (hno : (scope.names.any fun (n, k) => n == y && (k == .local || k == .cell)) = false) (c : CompOk rs rs' x nn scope)
    (hx : rs.lookup g = some (.glob (.type "range"))) (hn : NoStar [a, b]) (h1 : SEs w l vs ns dd O rs [a, b] [lo, hi]) (h2 : SE w l vs ns dd O rs' elt te) :
    SS1 w l vs ns dd O rs (.Assign [.Name y py] (.ListComp elt [⟨.Name x px, .Call (.Name g pf) [a, b] [] pr, [], 0⟩] scope pos) spos) (.asn n (.compR nn lo hi te)) := ss_asnR hy hl hno c hx hn h1 (.inr rfl) h2
theorem ss_asnL {x : Str} {n : Nat} {e : Expr} {t : T} {p pos : Pos} (hc : notComp e = true) (hx : rs.lookup x = some (.var n)) (h1 : SE w l vs ns dd O rs e t) : SS1 w l vs ns dd O rs (.Assign [.Name x p] e pos) (.asn n t) := ss_asn hc hx rfl h1
theorem ss_asnC {x : Str} {n : Nat} {e : Expr} {t : T} {p pos : Pos} (hc : notComp e = true) (hx : rs.lookup x = some (.cel n)) (h1 : SE w l vs ns dd O rs e t) : SS1 w l vs ns dd O rs (.Assign [.Name x p] e pos) (.asn n t) := ss_asn hc hx rfl h1
theorem tgL {x : Str} {n : Nat} {xs : List Str} {nn : List Nat} (h : rs.lookup x = some (.var n)) (t : Tg rs xs nn) : Tg rs (x :: xs) (n :: nn) := .cons h rfl t
theorem tgC {x : Str} {n : Nat} {xs : List Str} {nn : List Nat} (h : rs.lookup x = some (.cel n)) (t : Tg rs xs nn) : Tg rs (x :: xs) (n :: nn) := .cons h rfl t
theorem ss_for1L {x g : Str} {n : Nat} {px pf pr pos : Pos} {hi : T} {a : Expr} {body : List Stmt} {b : List S} (hx : rs.lookup x = some (.var n)) (hg : rs.lookup g = some (.glob (.type "range"))) (hn : NoStar [a]) (h1 : SEs w l vs ns dd O rs [a] [hi]) (h2 : SS w l vs ns dd O rs body b) :
    SS1 w l vs ns dd O rs (.For (.Name x px) (.Call (.Name g pf) [a] [] pr) body [] pos) (.forr n (.int 0) hi b) := ss_for hx rfl hg hn h1 (.inl ⟨rfl, rfl⟩) h2
theorem ss_for1C {x g : Str} {n : Nat} {px pf pr pos : Pos} {hi : T} {a : Expr} {body : List Stmt} {b : List S} (hx : rs.lookup x = some (.cel n)) (hg : rs.lookup g = some (.glob (.type "range"))) (hn : NoStar [a]) (h1 : SEs w l vs ns dd O rs [a] [hi]) (h2 : SS w l vs ns dd O rs body b) :
    SS1 w l vs ns dd O rs (.For (.Name x px) (.Call (.Name g pf) [a] [] pr) body [] pos) (.forr n (.int 0) hi b) := ss_for hx rfl hg hn h1 (.inl ⟨rfl, rfl⟩) h2
theorem ss_forlL {x : Str} {n : Nat} {px pos : Pos} {e : Expr} {t : T} {body : List Stmt} {b : List S} (hx : rs.lookup x = some (.var n)) (hns : noSet e = true) (h1 : SE w l vs ns dd O rs e t) (h2 : SS w l vs ns dd O rs body b) :
    SS1 w l vs ns dd O rs (.For (.Name x px) e body [] pos) (.forl n t b) := ss_forl hx rfl hns h1 h2
theorem ss_satE {o e : Expr} {to te : T} {x : Nat} {y : Str} {p pos : Pos} (hy : y = fname x) (hc : notComp e = true) (h1 : SE w l vs ns dd O rs e te) (h2 : SE w l vs ns dd O rs o to) : SS1 w l vs ns dd O rs (.Assign [.Attribute o y p] e pos) (.sat to x te) := hy ▸ ss_sat hc h1 h2
theorem ss_augE {o : Op} {op : Operator} {a e : Expr} {ta te : T} {x : Nat} {y : Str} {p pos : Pos} (hy : y = fname x) (ho : isOp o op = true) (hop : (match o with | .add => true | .sub => true | _ => false) = true) (h1 : SE w l vs ns dd O rs a ta) (h2 : SE w l vs ns dd O rs e te) : SS1 w l vs ns dd O rs (.AugAssign (.Attribute a y p) op e pos) (.aug o ta x te) :=
  hy ▸ ss_aug ho (by cases o <;> first | exact .inl rfl | exact .inr rfl | cases hop) h1 h2
end
def scopeAt (i : Nat) : Scope := match fnWord i with | some (_, _, sc) => sc | none => { kind := .function, names := [], isGenerator := false, isCoroutine := false }
def bodyAt (i : Nat) : List Stmt := match fnWord i with | some (_, .stmts b, _) => b | _ => []
def paramsAt (i : Nat) : Arguments := match fnWord i with | some (p, _, _) => p | none => ⟨[], [], none, [], [], none, []⟩
def rsAt (i : Nat) : Rs := (mkRs 0 (scopeAt i).names).getD []
def psAt (i k : Nat) : List Str := ((scopeAt i).names.take k).map (·.1)
end Mine
end
section
open PySem PySem.W PySem.Calls PyProof.Rows PySem.Spec
namespace Mine
section
variable {w : World} {l : Addr} {vs : List Value} {ns : List Int} {dd : Nat} {O : Orc}
def tm5 : List S := [.sat (.var 0) 0 (.var 1), .sat (.var 0) 1 (.var 2)]
set_option maxRecDepth 100000 in
set_option maxHeartbeats 0 in
theorem ss5 (hO : OrcOK w l vs ns dd O) : SS w l vs ns dd O (rsAt 5) (bodyAt 5) (tm5) := by
  refine ss_cons ?_ ?_
  refine ss_satE (by kernel_rfl) rfl ?_ ?_
  exact se_var (by kernel_rfl)
  exact se_var (by kernel_rfl)
  refine ss_cons ?_ ?_
  refine ss_satE (by kernel_rfl) rfl ?_ ?_
  exact se_var (by kernel_rfl)
  exact se_var (by kernel_rfl)
  exact ss_nil
def tm6 : List S := [.sat (.var 0) 2 (.var 1), .sat (.var 0) 1 (.var 2), .sat (.var 0) 3 (.var 3)]
set_option maxRecDepth 100000 in
set_option maxHeartbeats 0 in
theorem ss6 (hO : OrcOK w l vs ns dd O) : SS w l vs ns dd O (rsAt 6) (bodyAt 6) (tm6) := by
  refine ss_cons ?_ ?_
  refine ss_satE (by kernel_rfl) rfl ?_ ?_
  exact se_var (by kernel_rfl)
  exact se_var (by kernel_rfl)
  refine ss_cons ?_ ?_
  refine ss_satE (by kernel_rfl) rfl ?_ ?_
  exact se_var (by kernel_rfl)
  exact se_var (by kernel_rfl)
  refine ss_cons ?_ ?_
  refine ss_satE (by kernel_rfl) rfl ?_ ?_
  exact se_var (by kernel_rfl)
  exact se_var (by kernel_rfl)
  exact ss_nil
def tm7 : List S := [.sat (.var 0) 2 (.var 1), .sat (.var 0) 4 (.var 2), .sat (.var 0) 5 (.var 3), .sat (.var 0) 6 (.var 4), .sat (.var 0) 7 (.var 5), .sat (.var 0) 8 (.bin .mul (.call 130 [(.var 3)]) (.pow 10 9)), .ite (.var 5) [.sat (.var 0) 9 (.bin .fdiv (.bin .mul (.attr (.var 0) 8) (.bin .add (.var 2) (.var 4))) (.var 2))] [.sat (.var 0) 9 (.bin .mul (.bin .fdiv (.attr (.var 0) 8) (.var 2)) (.var 4))], .sat (.var 0) 10 (.attr (.var 0) 9), .sat (.var 0) 11 (.int 0)]
set_option maxRecDepth 100000 in
set_option maxHeartbeats 0 in
theorem ss7 (hO : OrcOK w l vs ns dd O) : SS w l vs ns dd O (rsAt 7) (bodyAt 7) (tm7) := by
  refine ss_cons ?_ ?_
  refine ss_satE (by kernel_rfl) rfl ?_ ?_
  exact se_var (by kernel_rfl)
  exact se_var (by kernel_rfl)
  refine ss_cons ?_ ?_
  refine ss_satE (by kernel_rfl) rfl ?_ ?_
  exact se_var (by kernel_rfl)
  exact se_var (by kernel_rfl)
  refine ss_cons ?_ ?_
  refine ss_satE (by kernel_rfl) rfl ?_ ?_
  exact se_var (by kernel_rfl)
  exact se_var (by kernel_rfl)
  refine ss_cons ?_ ?_
  refine ss_satE (by kernel_rfl) rfl ?_ ?_
  exact se_var (by kernel_rfl)
  exact se_var (by kernel_rfl)
  refine ss_cons ?_ ?_
  refine ss_satE (by kernel_rfl) rfl ?_ ?_
  exact se_var (by kernel_rfl)
  exact se_var (by kernel_rfl)
  refine ss_cons ?_ ?_
  refine ss_satE (by kernel_rfl) rfl ?_ ?_
  refine se_bin rfl ?_ ?_
  refine se_call hO (by kernel_rfl) ⟨List.cons_ne_nil _ _, fun _ => rfl⟩ (by kernel_rfl) ?_
  refine ses_cons (fun _ => rfl) ?_ ?_
  exact se_var (by kernel_rfl)
  exact ses_nil
  exact se_powE rfl (by decide) (by decide)
  exact se_var (by kernel_rfl)
  refine ss_cons ?_ ?_
  refine ss_ite ?_ ?_ ?_
  refine sb_var ?_
  exact se_var (by kernel_rfl)
  refine ss_cons ?_ ?_
  refine ss_satE (by kernel_rfl) rfl ?_ ?_
  refine se_bin rfl ?_ ?_
  refine se_bin rfl ?_ ?_
  refine se_attrE (by kernel_rfl) rfl ?_
  exact se_var (by kernel_rfl)
  refine se_bin rfl ?_ ?_
  exact se_var (by kernel_rfl)
  exact se_var (by kernel_rfl)
  exact se_var (by kernel_rfl)
  exact se_var (by kernel_rfl)
  exact ss_nil
  refine ss_cons ?_ ?_
  refine ss_satE (by kernel_rfl) rfl ?_ ?_
  refine se_bin rfl ?_ ?_
  refine se_bin rfl ?_ ?_
  refine se_attrE (by kernel_rfl) rfl ?_
  exact se_var (by kernel_rfl)
  exact se_var (by kernel_rfl)
  exact se_var (by kernel_rfl)
  exact se_var (by kernel_rfl)
  exact ss_nil
  refine ss_cons ?_ ?_
  refine ss_satE (by kernel_rfl) rfl ?_ ?_
  refine se_attrE (by kernel_rfl) rfl ?_
  exact se_var (by kernel_rfl)
  exact se_var (by kernel_rfl)
  refine ss_cons ?_ ?_
  refine ss_satE (by kernel_rfl) rfl ?_ ?_
  exact se_int
  exact se_var (by kernel_rfl)
  exact ss_nil
def tm8 : List S := [.pickr ["second", "minute", "hour", "day", "week"] [(.int 1), (.int 60), (.int 3600), (.int 86400), (.int 604800)] (.var 0)]
set_option maxRecDepth 100000 in
set_option maxHeartbeats 0 in
theorem ss8 (hO : OrcOK w l vs ns dd O) : SS w l vs ns dd O (rsAt 8) (bodyAt 8) (tm8) := by
  refine ss_pickr (ny := 1) ?a1 ?a2 ?a3 ?pk ?a5 ?a6 ?a7 ?a8 ?a9 ?a10
  case a1 => kernel_rfl
  case a2 => kernel_rfl
  case a3 => decide
  case a5 => kernel_rfl
  case a6 => kernel_rfl
  case a7 => kernel_rfl
  case a8 => exact List.cons_ne_nil _ _
  case a9 => exact Nat.le_of_ble_eq_true (by kernel_rfl)
  case a10 => decide +kernel
  refine PK.cons ?_ ?_
  exact se_int
  refine PK.cons ?_ ?_
  exact se_int
  refine PK.cons ?_ ?_
  exact se_int
  refine PK.cons ?_ ?_
  exact se_int
  refine PK.cons ?_ ?_
  exact se_int
  exact PK.nil
def tm9 : List S := [.ite (.attr (.var 0) 7) [.ret (.bin .fdiv (.bin .mul (.attr (.var 0) 8) (.var 1)) (.attr (.var 0) 4))] [], .ret (.bin .fdiv (.attr (.var 0) 8) (.attr (.var 0) 4))]
set_option maxRecDepth 100000 in
set_option maxHeartbeats 0 in
theorem ss9 (hO : OrcOK w l vs ns dd O) : SS w l vs ns dd O (rsAt 9) (bodyAt 9) (tm9) := by
  refine ss_cons ?_ ?_
  refine ss_ite ?_ ?_ ?_
  refine sb_attr ?_
  refine se_attrE (by kernel_rfl) rfl ?_
  exact se_var (by kernel_rfl)
  refine ss_cons ?_ ?_
  refine ss_ret ?_
  refine se_bin rfl ?_ ?_
  refine se_bin rfl ?_ ?_
  refine se_attrE (by kernel_rfl) rfl ?_
  exact se_var (by kernel_rfl)
  exact se_var (by kernel_rfl)
  refine se_attrE (by kernel_rfl) rfl ?_
  exact se_var (by kernel_rfl)
  exact ss_nil
  exact ss_nil
  refine ss_cons ?_ ?_
  refine ss_ret ?_
  refine se_bin rfl ?_ ?_
  refine se_attrE (by kernel_rfl) rfl ?_
  exact se_var (by kernel_rfl)
  refine se_attrE (by kernel_rfl) rfl ?_
  exact se_var (by kernel_rfl)
  exact ss_nil
def tm10 : List S := [.sat (.var 0) 10 (.bi .min [(.attr (.var 0) 9), (.bin .add (.attr (.var 0) 10) (.bin .mul (.bin .sub (.var 1) (.attr (.var 0) 11)) (.pow 10 6)))]), .sat (.var 0) 11 (.var 1), .asn 3 (.call 137 [(.var 0), (.var 2)]), .ite (.cmp .ge (.attr (.var 0) 10) (.var 3)) [.aug .sub (.var 0) 10 (.var 3), .ret (.not (.attr (.var 0) 2))] [], .ret (.attr (.var 0) 2)]
set_option maxRecDepth 100000 in
set_option maxHeartbeats 0 in
theorem ss10 (hO : OrcOK w l vs ns dd O) : SS w l vs ns dd O (rsAt 10) (bodyAt 10) (tm10) := by
  refine ss_cons ?_ ?_
  refine ss_satE (by kernel_rfl) rfl ?_ ?_
  refine se_bi (by kernel_rfl) ⟨List.cons_ne_nil _ _, fun _ => rfl⟩ ?_
  refine ses_cons (fun _ => rfl) ?_ ?_
  refine se_attrE (by kernel_rfl) rfl ?_
  exact se_var (by kernel_rfl)
  refine ses_cons (fun _ => rfl) ?_ ?_
  refine se_bin rfl ?_ ?_
  refine se_attrE (by kernel_rfl) rfl ?_
  exact se_var (by kernel_rfl)
  refine se_bin rfl ?_ ?_
  refine se_bin rfl ?_ ?_
  exact se_var (by kernel_rfl)
  refine se_attrE (by kernel_rfl) rfl ?_
  exact se_var (by kernel_rfl)
  exact se_powE rfl (by decide) (by decide)
  exact ses_nil
  exact se_var (by kernel_rfl)
  refine ss_cons ?_ ?_
  refine ss_satE (by kernel_rfl) rfl ?_ ?_
  exact se_var (by kernel_rfl)
  exact se_var (by kernel_rfl)
  refine ss_cons ?_ ?_
  refine ss_asnL rfl (by kernel_rfl) ?_
  refine se_call hO (by kernel_rfl) ⟨List.cons_ne_nil _ _, fun _ => rfl⟩ (by kernel_rfl) ?_
  refine ses_cons (fun _ => rfl) ?_ ?_
  exact se_var (by kernel_rfl)
  refine ses_cons (fun _ => rfl) ?_ ?_
  exact se_var (by kernel_rfl)
  exact ses_nil
  refine ss_cons ?_ ?_
  refine ss_ite ?_ ?_ ?_
  refine sb_cmp rfl ?_ ?_
  refine se_attrE (by kernel_rfl) rfl ?_
  exact se_var (by kernel_rfl)
  exact se_var (by kernel_rfl)
  refine ss_cons ?_ ?_
  refine ss_augE (by kernel_rfl) rfl rfl ?_ ?_
  exact se_var (by kernel_rfl)
  exact se_var (by kernel_rfl)
  refine ss_cons ?_ ?_
  refine ss_ret ?_
  refine se_not ?_
  refine se_attrE (by kernel_rfl) rfl ?_
  exact se_var (by kernel_rfl)
  exact ss_nil
  exact ss_nil
  refine ss_cons ?_ ?_
  refine ss_ret ?_
  refine se_attrE (by kernel_rfl) rfl ?_
  exact se_var (by kernel_rfl)
  exact ss_nil
def tm11 : List S := [.ite (.bi .isi [(.var 0), (.glob (.ref 76))]) [.aug .add (.var 0) 0 (.int 1), .aug .add (.var 0) 1 (.var 2), .ret (.bool true)] [], .ite (.bi .isi [(.var 0), (.glob (.ref 98))]) [.aug .add (.var 0) 3 (.var 2), .ite (.attr (.var 0) 2) [.ret (.cmp .ge (.attr (.var 0) 3) (.attr (.var 0) 1))] [], .ret (.cmp .lt (.attr (.var 0) 3) (.attr (.var 0) 1))] [], .ret (.call 144 [(.var 0), (.var 1), (.var 2)])]
set_option maxRecDepth 100000 in
set_option maxHeartbeats 0 in
theorem ss11 (hO : OrcOK w l vs ns dd O) : SS w l vs ns dd O (rsAt 11) (bodyAt 11) (tm11) := by
  refine ss_cons ?_ ?_
  refine ss_ite ?_ ?_ ?_
  refine sb_bi ?_
  refine se_bi (by kernel_rfl) ⟨List.cons_ne_nil _ _, fun _ => rfl⟩ ?_
  refine ses_cons (fun _ => rfl) ?_ ?_
  exact se_var (by kernel_rfl)
  refine ses_cons (fun _ => rfl) ?_ ?_
  exact se_glob (by kernel_rfl)
  exact ses_nil
  refine ss_cons ?_ ?_
  refine ss_augE (by kernel_rfl) rfl rfl ?_ ?_
  exact se_var (by kernel_rfl)
  exact se_int
  refine ss_cons ?_ ?_
  refine ss_augE (by kernel_rfl) rfl rfl ?_ ?_
  exact se_var (by kernel_rfl)
  exact se_var (by kernel_rfl)
  refine ss_cons ?_ ?_
  refine ss_ret ?_
  exact se_bool
  exact ss_nil
  exact ss_nil
  refine ss_cons ?_ ?_
  refine ss_ite ?_ ?_ ?_
  refine sb_bi ?_
  refine se_bi (by kernel_rfl) ⟨List.cons_ne_nil _ _, fun _ => rfl⟩ ?_
  refine ses_cons (fun _ => rfl) ?_ ?_
  exact se_var (by kernel_rfl)
  refine ses_cons (fun _ => rfl) ?_ ?_
  exact se_glob (by kernel_rfl)
  exact ses_nil
  refine ss_cons ?_ ?_
  refine ss_augE (by kernel_rfl) rfl rfl ?_ ?_
  exact se_var (by kernel_rfl)
  exact se_var (by kernel_rfl)
  refine ss_cons ?_ ?_
  refine ss_ite ?_ ?_ ?_
  refine sb_attr ?_
  refine se_attrE (by kernel_rfl) rfl ?_
  exact se_var (by kernel_rfl)
  refine ss_cons ?_ ?_
  refine ss_ret ?_
  refine se_cmp rfl ?_ ?_
  refine se_attrE (by kernel_rfl) rfl ?_
  exact se_var (by kernel_rfl)
  refine se_attrE (by kernel_rfl) rfl ?_
  exact se_var (by kernel_rfl)
  exact ss_nil
  exact ss_nil
  refine ss_cons ?_ ?_
  refine ss_ret ?_
  refine se_cmp rfl ?_ ?_
  refine se_attrE (by kernel_rfl) rfl ?_
  exact se_var (by kernel_rfl)
  refine se_attrE (by kernel_rfl) rfl ?_
  exact se_var (by kernel_rfl)
  exact ss_nil
  exact ss_nil
  refine ss_cons ?_ ?_
  refine ss_ret ?_
  refine se_call hO (by kernel_rfl) ⟨List.cons_ne_nil _ _, fun _ => rfl⟩ (by kernel_rfl) ?_
  refine ses_cons (fun _ => rfl) ?_ ?_
  exact se_var (by kernel_rfl)
  refine ses_cons (fun _ => rfl) ?_ ?_
  exact se_var (by kernel_rfl)
  refine ses_cons (fun _ => rfl) ?_ ?_
  exact se_var (by kernel_rfl)
  exact ses_nil
  exact ss_nil
def tm12 : List S := [.ite (.cmp .eq (.var 1) (.int 0)) [.no] [], .ite (.and (.cmp .eq (.var 3) (.int 0)) (.not (.var 4))) [.no] [], .ret (.call 119 [(.var 0), (.var 1), (.var 2), (.var 3), (.var 4)])]
set_option maxRecDepth 100000 in
set_option maxHeartbeats 0 in
theorem ss12 (hO : OrcOK w l vs ns dd O) : SS w l vs ns dd O (rsAt 12) (bodyAt 12) (tm12) := by
  refine ss_cons ?_ ?_
  refine ss_ite ?_ ?_ ?_
  refine sb_cmp rfl ?_ ?_
  exact se_var (by kernel_rfl)
  exact se_int
  refine ss_cons ?_ ?_
  exact ss_no
  exact ss_nil
  exact ss_nil
  refine ss_cons ?_ ?_
  refine ss_ite ?_ ?_ ?_
  refine sb_and ?_ ?_
  refine sb_cmp rfl ?_ ?_
  exact se_var (by kernel_rfl)
  exact se_int
  refine sb_not ?_
  refine sb_var ?_
  exact se_var (by kernel_rfl)
  refine ss_cons ?_ ?_
  exact ss_no
  exact ss_nil
  exact ss_nil
  refine ss_cons ?_ ?_
  refine ss_ret ?_
  refine se_call hO (by kernel_rfl) ⟨List.cons_ne_nil _ _, fun _ => rfl⟩ (by kernel_rfl) ?_
  refine ses_cons (fun _ => rfl) ?_ ?_
  exact se_var (by kernel_rfl)
  refine ses_cons (fun _ => rfl) ?_ ?_
  exact se_var (by kernel_rfl)
  refine ses_cons (fun _ => rfl) ?_ ?_
  exact se_var (by kernel_rfl)
  refine ses_cons (fun _ => rfl) ?_ ?_
  exact se_var (by kernel_rfl)
  refine ses_cons (fun _ => rfl) ?_ ?_
  exact se_var (by kernel_rfl)
  exact ses_nil
  exact ss_nil
def tm13 : List S := [.asn 1 (.item (.var 0) (.int 0)), .ite (.cmp .eq (.var 1) (.str "counter")) [.ret (.call 76 [(.item (.var 0) (.int 1)), (.item (.var 0) (.int 2))])] [], .ite (.cmp .eq (.var 1) (.str "quota")) [.ret (.call 98 [(.item (.var 0) (.int 1)), (.item (.var 0) (.int 2)), (.item (.var 0) (.int 3))])] [], .ite (.cmp .eq (.var 1) (.str "limit")) [.ret (.call 158 [(.item (.var 0) (.int 1)), (.item (.var 0) (.int 2)), (.item (.var 0) (.int 3)), (.item (.var 0) (.int 4)), (.item (.var 0) (.int 5))])] [], .ret .none]
set_option maxRecDepth 100000 in
set_option maxHeartbeats 0 in
theorem ss13 (hO : OrcOK w l vs ns dd O) : SS w l vs ns dd O (rsAt 13) (bodyAt 13) (tm13) := by
  refine ss_cons ?_ ?_
  refine ss_asnL rfl (by kernel_rfl) ?_
  refine se_item rfl ?_ ?_
  exact se_var (by kernel_rfl)
  exact se_int
  refine ss_cons ?_ ?_
  refine ss_ite ?_ ?_ ?_
  refine sb_cmp rfl ?_ ?_
  exact se_var (by kernel_rfl)
  exact se_str
  refine ss_cons ?_ ?_
  refine ss_ret ?_
  refine se_call hO (by kernel_rfl) ⟨List.cons_ne_nil _ _, fun _ => rfl⟩ (by kernel_rfl) ?_
  refine ses_cons (fun _ => rfl) ?_ ?_
  refine se_item rfl ?_ ?_
  exact se_var (by kernel_rfl)
  exact se_int
  refine ses_cons (fun _ => rfl) ?_ ?_
  refine se_item rfl ?_ ?_
  exact se_var (by kernel_rfl)
  exact se_int
  exact ses_nil
  exact ss_nil
  exact ss_nil
  refine ss_cons ?_ ?_
  refine ss_ite ?_ ?_ ?_
  refine sb_cmp rfl ?_ ?_
  exact se_var (by kernel_rfl)
  exact se_str
  refine ss_cons ?_ ?_
  refine ss_ret ?_
  refine se_call hO (by kernel_rfl) ⟨List.cons_ne_nil _ _, fun _ => rfl⟩ (by kernel_rfl) ?_
  refine ses_cons (fun _ => rfl) ?_ ?_
  refine se_item rfl ?_ ?_
  exact se_var (by kernel_rfl)
  exact se_int
  refine ses_cons (fun _ => rfl) ?_ ?_
  refine se_item rfl ?_ ?_
  exact se_var (by kernel_rfl)
  exact se_int
  refine ses_cons (fun _ => rfl) ?_ ?_
  refine se_item rfl ?_ ?_
  exact se_var (by kernel_rfl)
  exact se_int
  exact ses_nil
  exact ss_nil
  exact ss_nil
  refine ss_cons ?_ ?_
  refine ss_ite ?_ ?_ ?_
  refine sb_cmp rfl ?_ ?_
  exact se_var (by kernel_rfl)
  exact se_str
  refine ss_cons ?_ ?_
  refine ss_ret ?_
  refine se_call hO (by kernel_rfl) ⟨List.cons_ne_nil _ _, fun _ => rfl⟩ (by kernel_rfl) ?_
  refine ses_cons (fun _ => rfl) ?_ ?_
  refine se_item rfl ?_ ?_
  exact se_var (by kernel_rfl)
  exact se_int
  refine ses_cons (fun _ => rfl) ?_ ?_
  refine se_item rfl ?_ ?_
  exact se_var (by kernel_rfl)
  exact se_int
  refine ses_cons (fun _ => rfl) ?_ ?_
  refine se_item rfl ?_ ?_
  exact se_var (by kernel_rfl)
  exact se_int
  refine ses_cons (fun _ => rfl) ?_ ?_
  refine se_item rfl ?_ ?_
  exact se_var (by kernel_rfl)
  exact se_int
  refine ses_cons (fun _ => rfl) ?_ ?_
  refine se_item rfl ?_ ?_
  exact se_var (by kernel_rfl)
  exact se_int
  exact ses_nil
  exact ss_nil
  exact ss_nil
  refine ss_cons ?_ ?_
  refine ss_ret ?_
  exact se_none
  exact ss_nil
def tm14 : List S := [.ite (.bi .isi [(.var 0), (.glob (.ref 76))]) [.ret (.tup [(.str "counter"), (.attr (.var 0) 0), (.attr (.var 0) 1)])] [], .ite (.bi .isi [(.var 0), (.glob (.ref 98))]) [.ret (.tup [(.str "quota"), (.attr (.var 0) 2), (.attr (.var 0) 1), (.attr (.var 0) 3)])] [], .ret (.tup [(.str "limit"), (.attr (.var 0) 2), (.attr (.var 0) 4), (.attr (.var 0) 5), (.attr (.var 0) 6), (.attr (.var 0) 7)])]
set_option maxRecDepth 100000 in
set_option maxHeartbeats 0 in
theorem ss14 (hO : OrcOK w l vs ns dd O) : SS w l vs ns dd O (rsAt 14) (bodyAt 14) (tm14) := by
  refine ss_cons ?_ ?_
  refine ss_ite ?_ ?_ ?_
  refine sb_bi ?_
  refine se_bi (by kernel_rfl) ⟨List.cons_ne_nil _ _, fun _ => rfl⟩ ?_
  refine ses_cons (fun _ => rfl) ?_ ?_
  exact se_var (by kernel_rfl)
  refine ses_cons (fun _ => rfl) ?_ ?_
  exact se_glob (by kernel_rfl)
  exact ses_nil
  refine ss_cons ?_ ?_
  refine ss_ret ?_
  refine se_tup ?_
  refine ses_cons (fun _ => rfl) ?_ ?_
  exact se_str
  refine ses_cons (fun _ => rfl) ?_ ?_
  refine se_attrE (by kernel_rfl) rfl ?_
  exact se_var (by kernel_rfl)
  refine ses_cons (fun _ => rfl) ?_ ?_
  refine se_attrE (by kernel_rfl) rfl ?_
  exact se_var (by kernel_rfl)
  exact ses_nil
  exact ss_nil
  exact ss_nil
  refine ss_cons ?_ ?_
  refine ss_ite ?_ ?_ ?_
  refine sb_bi ?_
  refine se_bi (by kernel_rfl) ⟨List.cons_ne_nil _ _, fun _ => rfl⟩ ?_
  refine ses_cons (fun _ => rfl) ?_ ?_
  exact se_var (by kernel_rfl)
  refine ses_cons (fun _ => rfl) ?_ ?_
  exact se_glob (by kernel_rfl)
  exact ses_nil
  refine ss_cons ?_ ?_
  refine ss_ret ?_
  refine se_tup ?_
  refine ses_cons (fun _ => rfl) ?_ ?_
  exact se_str
  refine ses_cons (fun _ => rfl) ?_ ?_
  refine se_attrE (by kernel_rfl) rfl ?_
  exact se_var (by kernel_rfl)
  refine ses_cons (fun _ => rfl) ?_ ?_
  refine se_attrE (by kernel_rfl) rfl ?_
  exact se_var (by kernel_rfl)
  refine ses_cons (fun _ => rfl) ?_ ?_
  refine se_attrE (by kernel_rfl) rfl ?_
  exact se_var (by kernel_rfl)
  exact ses_nil
  exact ss_nil
  exact ss_nil
  refine ss_cons ?_ ?_
  refine ss_ret ?_
  refine se_tup ?_
  refine ses_cons (fun _ => rfl) ?_ ?_
  exact se_str
  refine ses_cons (fun _ => rfl) ?_ ?_
  refine se_attrE (by kernel_rfl) rfl ?_
  exact se_var (by kernel_rfl)
  refine ses_cons (fun _ => rfl) ?_ ?_
  refine se_attrE (by kernel_rfl) rfl ?_
  exact se_var (by kernel_rfl)
  refine ses_cons (fun _ => rfl) ?_ ?_
  refine se_attrE (by kernel_rfl) rfl ?_
  exact se_var (by kernel_rfl)
  refine ses_cons (fun _ => rfl) ?_ ?_
  refine se_attrE (by kernel_rfl) rfl ?_
  exact se_var (by kernel_rfl)
  refine ses_cons (fun _ => rfl) ?_ ?_
  refine se_attrE (by kernel_rfl) rfl ?_
  exact se_var (by kernel_rfl)
  exact ses_nil
  exact ss_nil
def tm15 : List S := [.asn 1 .ndct, .forr 2 (.int 0) (.bi .len [(.var 0)]) [.asn 3 (.call 165 [(.item (.var 0) (.var 2))]), .ite (.isn (.var 3)) [.sit (.var 1) (.var 2) (.var 3)] [.ite (.cmp .eq (.item (.item (.var 0) (.var 2)) (.int 0)) (.str "dynset")) [.no] []]], .ret (.var 1)]
set_option maxRecDepth 100000 in
set_option maxHeartbeats 0 in
theorem ss15 (hO : OrcOK w l vs ns dd O) : SS w l vs ns dd O (rsAt 15) (bodyAt 15) (tm15) := by
  refine ss_cons ?_ ?_
  refine ss_asnL rfl (by kernel_rfl) ?_
  exact se_ndct
  refine ss_cons ?_ ?_
  refine ss_for1L (by kernel_rfl) (by kernel_rfl) ⟨List.cons_ne_nil _ _, fun _ => rfl⟩ ?_ ?_
  refine ses_cons (fun _ => rfl) ?_ ?_
  refine se_bi (by kernel_rfl) ⟨List.cons_ne_nil _ _, fun _ => rfl⟩ ?_
  refine ses_cons (fun _ => rfl) ?_ ?_
  exact se_var (by kernel_rfl)
  exact ses_nil
  exact ses_nil
  refine ss_cons ?_ ?_
  refine ss_asnL rfl (by kernel_rfl) ?_
  refine se_call hO (by kernel_rfl) ⟨List.cons_ne_nil _ _, fun _ => rfl⟩ (by kernel_rfl) ?_
  refine ses_cons (fun _ => rfl) ?_ ?_
  refine se_item rfl ?_ ?_
  exact se_var (by kernel_rfl)
  exact se_var (by kernel_rfl)
  exact ses_nil
  refine ss_cons ?_ ?_
  refine ss_ite ?_ ?_ ?_
  refine sb_isn ?_
  exact se_var (by kernel_rfl)
  refine ss_cons ?_ ?_
  refine ss_sit rfl ?_ ?_ ?_
  exact se_var (by kernel_rfl)
  exact se_var (by kernel_rfl)
  exact se_var (by kernel_rfl)
  exact ss_nil
  refine ss_cons ?_ ?_
  refine ss_ite ?_ ?_ ?_
  refine sb_cmp rfl ?_ ?_
  refine se_item rfl ?_ ?_
  refine se_item rfl ?_ ?_
  exact se_var (by kernel_rfl)
  exact se_var (by kernel_rfl)
  exact se_int
  exact se_str
  refine ss_cons ?_ ?_
  exact ss_no
  exact ss_nil
  exact ss_nil
  exact ss_nil
  exact ss_nil
  refine ss_cons ?_ ?_
  refine ss_ret ?_
  exact se_var (by kernel_rfl)
  exact ss_nil
def tm17 (l : Addr) (ns : List Int) : List S := [.sem (digP l ns 0 1)]
set_option maxRecDepth 100000 in
set_option maxHeartbeats 0 in
theorem ss17 (hO : OrcOK w l vs ns dd O) : SS w l vs ns dd O (rsAt 17) (bodyAt 17) (tm17 l ns) := by
  exact ss_cons (ss_digit (by kernel_rfl) (by kernel_rfl) (by kernel_rfl)) ss_nil
def tm18 : List S := [.unp [2, 3, 4] (.compR 40 (.int 0) (.int 3) (.call 186 [(.var 0), (.bin .add (.bin .mul (.int 12) (.var 1)) (.var 40))])), .asn 5 (.item (.lst [(.str "second"), (.str "minute"), (.str "hour"), (.str "day"), (.str "week")]) (.bin .mod (.bin .add (.bin .fdiv (.var 2) (.int 2)) (.var 1)) (.int 5))), .asn 6 (.cmp .eq (.bin .mod (.bin .add (.var 2) (.var 1)) (.int 2)) (.int 1)), .asn 7 (.bin .add (.bin .mod (.bin .sub (.bin .add (.var 3) (.item (.lst [(.int 4), (.int 120), (.int 6), (.int 48)]) (.var 1))) (.int 2)) (.int 5000)) (.int 2)), .asn 4 (.ite (.var 6) (.bin .mod (.bin .add (.var 4) (.bin .mul (.int 24) (.var 1))) (.int 3000)) (.bin .add (.bin .mod (.bin .add (.bin .add (.var 4) (.bin .mul (.int 4) (.var 1))) (.int 2)) (.int 5)) (.int 1))), .ret (.tup [(.str "limit"), (.cmp .eq (.bin .mod (.bin .add (.bin .fdiv (.var 2) (.int 10)) (.bin .fdiv (.var 1) (.int 2))) (.int 2)) (.int 1)), (.var 7), (.var 5), (.var 4), (.var 6)])]
set_option maxRecDepth 100000 in
set_option maxHeartbeats 0 in
theorem ss18 (hO : OrcOK w l vs ns dd O) : SS w l vs ns dd O (rsAt 18) (bodyAt 18) (tm18) := by
  refine ss_cons ?_ ?_
  refine ss_unp rfl ?_ (fun _ => rfl) (fun _ => rfl) ?_
  refine tgL (by kernel_rfl) ?_
  refine tgL (by kernel_rfl) ?_
  refine tgL (by kernel_rfl) ?_
  exact Tg.nil
  refine se_comp1 (comp_of (by kernel_rfl)) (by kernel_rfl) ⟨List.cons_ne_nil _ _, fun _ => rfl⟩ ?_ ?_
  refine ses_cons (fun _ => rfl) ?_ ?_
  exact se_int
  exact ses_nil
  refine se_call hO (by kernel_rfl) ⟨List.cons_ne_nil _ _, fun _ => rfl⟩ (by kernel_rfl) ?_
  refine ses_cons (fun _ => rfl) ?_ ?_
  exact se_cel (by kernel_rfl)
  refine ses_cons (fun _ => rfl) ?_ ?_
  refine se_bin rfl ?_ ?_
  refine se_bin rfl ?_ ?_
  exact se_int
  exact se_cel (by kernel_rfl)
  exact se_var (by kernel_rfl)
  exact ses_nil
  refine ss_cons ?_ ?_
  refine ss_asnL rfl (by kernel_rfl) ?_
  refine se_item rfl ?_ ?_
  refine se_lst ?_
  refine ses_cons (fun _ => rfl) ?_ ?_
  exact se_str
  refine ses_cons (fun _ => rfl) ?_ ?_
  exact se_str
  refine ses_cons (fun _ => rfl) ?_ ?_
  exact se_str
  refine ses_cons (fun _ => rfl) ?_ ?_
  exact se_str
  refine ses_cons (fun _ => rfl) ?_ ?_
  exact se_str
  exact ses_nil
  refine se_bin rfl ?_ ?_
  refine se_bin rfl ?_ ?_
  refine se_bin rfl ?_ ?_
  exact se_var (by kernel_rfl)
  exact se_int
  exact se_cel (by kernel_rfl)
  exact se_int
  refine ss_cons ?_ ?_
  refine ss_asnL rfl (by kernel_rfl) ?_
  refine se_cmp rfl ?_ ?_
  refine se_bin rfl ?_ ?_
  refine se_bin rfl ?_ ?_
  exact se_var (by kernel_rfl)
  exact se_cel (by kernel_rfl)
  exact se_int
  exact se_int
  refine ss_cons ?_ ?_
  refine ss_asnL rfl (by kernel_rfl) ?_
  refine se_bin rfl ?_ ?_
  refine se_bin rfl ?_ ?_
  refine se_bin rfl ?_ ?_
  refine se_bin rfl ?_ ?_
  exact se_var (by kernel_rfl)
  refine se_item rfl ?_ ?_
  refine se_lst ?_
  refine ses_cons (fun _ => rfl) ?_ ?_
  exact se_int
  refine ses_cons (fun _ => rfl) ?_ ?_
  exact se_int
  refine ses_cons (fun _ => rfl) ?_ ?_
  exact se_int
  refine ses_cons (fun _ => rfl) ?_ ?_
  exact se_int
  exact ses_nil
  exact se_cel (by kernel_rfl)
  exact se_int
  exact se_int
  exact se_int
  refine ss_cons ?_ ?_
  refine ss_asnL rfl (by kernel_rfl) ?_
  refine se_ite ?_ ?_ ?_
  refine sb_var ?_
  exact se_var (by kernel_rfl)
  refine se_bin rfl ?_ ?_
  refine se_bin rfl ?_ ?_
  exact se_var (by kernel_rfl)
  refine se_bin rfl ?_ ?_
  exact se_int
  exact se_cel (by kernel_rfl)
  exact se_int
  refine se_bin rfl ?_ ?_
  refine se_bin rfl ?_ ?_
  refine se_bin rfl ?_ ?_
  refine se_bin rfl ?_ ?_
  exact se_var (by kernel_rfl)
  refine se_bin rfl ?_ ?_
  exact se_int
  exact se_cel (by kernel_rfl)
  exact se_int
  exact se_int
  exact se_int
  refine ss_cons ?_ ?_
  refine ss_ret ?_
  refine se_tup ?_
  refine ses_cons (fun _ => rfl) ?_ ?_
  exact se_str
  refine ses_cons (fun _ => rfl) ?_ ?_
  refine se_cmp rfl ?_ ?_
  refine se_bin rfl ?_ ?_
  refine se_bin rfl ?_ ?_
  refine se_bin rfl ?_ ?_
  exact se_var (by kernel_rfl)
  exact se_int
  refine se_bin rfl ?_ ?_
  exact se_cel (by kernel_rfl)
  exact se_int
  exact se_int
  exact se_int
  refine ses_cons (fun _ => rfl) ?_ ?_
  exact se_var (by kernel_rfl)
  refine ses_cons (fun _ => rfl) ?_ ?_
  exact se_var (by kernel_rfl)
  refine ses_cons (fun _ => rfl) ?_ ?_
  exact se_var (by kernel_rfl)
  refine ses_cons (fun _ => rfl) ?_ ?_
  exact se_var (by kernel_rfl)
  exact ses_nil
  exact ss_nil
def tm19 : List S := [.asn 2 (.pow 10 9), .forl 3 (.pick ["second", "minute", "hour", "day", "week"] [(.lst []), (.lst [(.int 60)]), (.lst [(.int 3600)]), (.lst [(.int 3600), (.int 24)]), (.lst [(.int 3600), (.int 24), (.int 7)])] (.item (.var 0) (.int 3))) [.asn 2 (.bin .mul (.var 2) (.var 3))], .ret (.bin .fdiv (.bin .mul (.var 2) (.ite (.item (.var 0) (.int 5)) (.var 1) (.int 1))) (.item (.var 0) (.int 2)))]
set_option maxRecDepth 100000 in
set_option maxHeartbeats 0 in
theorem ss19 (hO : OrcOK w l vs ns dd O) : SS w l vs ns dd O (rsAt 19) (bodyAt 19) (tm19) := by
  refine ss_cons ?_ ?_
  refine ss_asnL rfl (by kernel_rfl) ?_
  exact se_powE rfl (by decide) (by decide)
  refine ss_cons ?_ ?_
  refine ss_forlL ?f1 ?f2 ?fe ?fb
  case f1 => kernel_rfl
  case f2 => kernel_rfl
  refine se_pick ?pk ?a5 ?a6 ?a7 ?a8 ?a9 ?a10 ?a11 ?ke
  case a5 => kernel_rfl
  case a6 => kernel_rfl
  case a7 => kernel_rfl
  case a8 => exact List.cons_ne_nil _ _
  case a9 => exact Nat.le_of_ble_eq_true (by kernel_rfl)
  case a10 => decide +kernel
  case a11 => kernel_rfl
  refine PK.cons ?_ ?_
  refine se_lst ?_
  exact ses_nil
  refine PK.cons ?_ ?_
  refine se_lst ?_
  refine ses_cons (fun _ => rfl) ?_ ?_
  exact se_int
  exact ses_nil
  refine PK.cons ?_ ?_
  refine se_lst ?_
  refine ses_cons (fun _ => rfl) ?_ ?_
  exact se_int
  exact ses_nil
  refine PK.cons ?_ ?_
  refine se_lst ?_
  refine ses_cons (fun _ => rfl) ?_ ?_
  exact se_int
  refine ses_cons (fun _ => rfl) ?_ ?_
  exact se_int
  exact ses_nil
  refine PK.cons ?_ ?_
  refine se_lst ?_
  refine ses_cons (fun _ => rfl) ?_ ?_
  exact se_int
  refine ses_cons (fun _ => rfl) ?_ ?_
  exact se_int
  refine ses_cons (fun _ => rfl) ?_ ?_
  exact se_int
  exact ses_nil
  exact PK.nil
  refine se_item rfl ?_ ?_
  exact se_var (by kernel_rfl)
  exact se_int
  refine ss_cons ?_ ?_
  refine ss_asnL rfl (by kernel_rfl) ?_
  refine se_bin rfl ?_ ?_
  exact se_var (by kernel_rfl)
  exact se_var (by kernel_rfl)
  exact ss_nil
  refine ss_cons ?_ ?_
  refine ss_ret ?_
  refine se_bin rfl ?_ ?_
  refine se_bin rfl ?_ ?_
  exact se_var (by kernel_rfl)
  refine se_ite ?_ ?_ ?_
  refine sb_item ?_
  refine se_item rfl ?_ ?_
  exact se_var (by kernel_rfl)
  exact se_int
  exact se_var (by kernel_rfl)
  exact se_int
  refine se_item rfl ?_ ?_
  exact se_var (by kernel_rfl)
  exact se_int
  exact ss_nil
def tm20 : List S := [.ret (.ite (.item (.var 0) (.int 5)) (.call 198 [(.var 0), (.bin .add (.item (.var 0) (.int 2)) (.item (.var 0) (.int 4)))]) (.bin .mul (.call 198 [(.var 0), (.int 0)]) (.item (.var 0) (.int 4))))]
set_option maxRecDepth 100000 in
set_option maxHeartbeats 0 in
theorem ss20 (hO : OrcOK w l vs ns dd O) : SS w l vs ns dd O (rsAt 20) (bodyAt 20) (tm20) := by
  refine ss_cons ?_ ?_
  refine ss_ret ?_
  refine se_ite ?_ ?_ ?_
  refine sb_item ?_
  refine se_item rfl ?_ ?_
  exact se_var (by kernel_rfl)
  exact se_int
  refine se_call hO (by kernel_rfl) ⟨List.cons_ne_nil _ _, fun _ => rfl⟩ (by kernel_rfl) ?_
  refine ses_cons (fun _ => rfl) ?_ ?_
  exact se_var (by kernel_rfl)
  refine ses_cons (fun _ => rfl) ?_ ?_
  refine se_bin rfl ?_ ?_
  refine se_item rfl ?_ ?_
  exact se_var (by kernel_rfl)
  exact se_int
  refine se_item rfl ?_ ?_
  exact se_var (by kernel_rfl)
  exact se_int
  exact ses_nil
  refine se_bin rfl ?_ ?_
  refine se_call hO (by kernel_rfl) ⟨List.cons_ne_nil _ _, fun _ => rfl⟩ (by kernel_rfl) ?_
  refine ses_cons (fun _ => rfl) ?_ ?_
  exact se_var (by kernel_rfl)
  refine ses_cons (fun _ => rfl) ?_ ?_
  exact se_int
  exact ses_nil
  refine se_item rfl ?_ ?_
  exact se_var (by kernel_rfl)
  exact se_int
  exact ss_nil
def tm21 : List S := [.asn 4 (.bin .add (.bin .add (.bin .fdiv (.var 0) (.int 4)) (.int 19)) (.bin .mul (.int 10) (.var 2))), .ite (.not (.item (.var 1) (.int 5))) [.ret (.bin .add (.bin .mod (.var 4) (.int 1500)) (.int 1))] [], .asn 5 (.bin .add (.item (.var 1) (.int 2)) (.item (.var 1) (.int 4))), .asn 6 (.bin .add (.bin .mod (.var 4) (.bin .fdiv (.var 5) (.int 2))) (.int 1)), .ret (.item (.lst [(.var 6), (.var 6), (.var 5), (.bin .add (.bin .add (.var 5) (.int 1)) (.bin .mod (.var 4) (.int 100)))]) (.bin .mod (.bin .add (.bin .add (.var 0) (.var 2)) (.var 3)) (.int 4)))]
set_option maxRecDepth 100000 in
set_option maxHeartbeats 0 in
theorem ss21 (hO : OrcOK w l vs ns dd O) : SS w l vs ns dd O (rsAt 21) (bodyAt 21) (tm21) := by
  refine ss_cons ?_ ?_
  refine ss_asnL rfl (by kernel_rfl) ?_
  refine se_bin rfl ?_ ?_
  refine se_bin rfl ?_ ?_
  refine se_bin rfl ?_ ?_
  exact se_var (by kernel_rfl)
  exact se_int
  exact se_int
  refine se_bin rfl ?_ ?_
  exact se_int
  exact se_var (by kernel_rfl)
  refine ss_cons ?_ ?_
  refine ss_ite ?_ ?_ ?_
  refine sb_not ?_
  refine sb_item ?_
  refine se_item rfl ?_ ?_
  exact se_var (by kernel_rfl)
  exact se_int
  refine ss_cons ?_ ?_
  refine ss_ret ?_
  refine se_bin rfl ?_ ?_
  refine se_bin rfl ?_ ?_
  exact se_var (by kernel_rfl)
  exact se_int
  exact se_int
  exact ss_nil
  exact ss_nil
  refine ss_cons ?_ ?_
  refine ss_asnL rfl (by kernel_rfl) ?_
  refine se_bin rfl ?_ ?_
  refine se_item rfl ?_ ?_
  exact se_var (by kernel_rfl)
  exact se_int
  refine se_item rfl ?_ ?_
  exact se_var (by kernel_rfl)
  exact se_int
  refine ss_cons ?_ ?_
  refine ss_asnL rfl (by kernel_rfl) ?_
  refine se_bin rfl ?_ ?_
  refine se_bin rfl ?_ ?_
  exact se_var (by kernel_rfl)
  refine se_bin rfl ?_ ?_
  exact se_var (by kernel_rfl)
  exact se_int
  exact se_int
  refine ss_cons ?_ ?_
  refine ss_ret ?_
  refine se_item rfl ?_ ?_
  refine se_lst ?_
  refine ses_cons (fun _ => rfl) ?_ ?_
  exact se_var (by kernel_rfl)
  refine ses_cons (fun _ => rfl) ?_ ?_
  exact se_var (by kernel_rfl)
  refine ses_cons (fun _ => rfl) ?_ ?_
  exact se_var (by kernel_rfl)
  refine ses_cons (fun _ => rfl) ?_ ?_
  refine se_bin rfl ?_ ?_
  refine se_bin rfl ?_ ?_
  exact se_var (by kernel_rfl)
  exact se_int
  refine se_bin rfl ?_ ?_
  exact se_var (by kernel_rfl)
  exact se_int
  exact ses_nil
  refine se_bin rfl ?_ ?_
  refine se_bin rfl ?_ ?_
  refine se_bin rfl ?_ ?_
  exact se_var (by kernel_rfl)
  exact se_var (by kernel_rfl)
  exact se_var (by kernel_rfl)
  exact se_int
  exact ss_nil
def tm22 : List S := [.unp [4, 5, 6] (.compI 40 (.tup [(.int 0), (.int 3), (.int 4)]) (.call 186 [(.var 0), (.bin .add (.bin .mul (.int 12) (.var 1)) (.var 40))])), .asn 7 (.bin .mod (.bin .add (.bin .fdiv (.var 5) (.int 27)) (.bin .mul (.int 9) (.var 1))) (.pow 2 40)), .asn 8 (.bin .sub (.bin .add (.bin .add (.var 7) (.bin .mul (.var 3) (.bin .add (.bin .mod (.bin .add (.var 5) (.var 1)) (.int 9)) (.int 3)))) (.bin .mod (.bin .add (.bin .fdiv (.var 5) (.int 9)) (.var 1)) (.int 3))) (.int 1)), .asn 9 (.lst [(.var 2), (.tup [(.str "quota"), (.cmp .eq (.bin .mod (.bin .add (.bin .fdiv (.var 4) (.int 20)) (.bin .fdiv (.bin .add (.var 1) (.int 1)) (.int 2))) (.int 2)) (.int 1)), (.var 8), (.var 7)])]), .asn 10 (.bin .mod (.bin .add (.bin .fdiv (.var 4) (.int 40)) (.var 1)) (.int 2)), .asn 11 (.compR 41 (.int 0) (.int 3) (.tup [(.str "counter"), (.bin .mod (.bin .add (.var 6) (.bin .mul (.int 5) (.var 41))) (.pow 2 32)), (.bin .mod (.bin .add (.bin .fdiv (.var 6) (.int 7)) (.bin .mul (.int 100) (.var 41))) (.pow 2 48))])), .asn 12 (.tup [(.item (.var 11) (.int 0)), (.item (.var 9) (.var 10)), (.item (.var 11) (.int 1)), (.item (.var 9) (.bin .sub (.int 1) (.var 10))), (.item (.var 11) (.int 2))]), .ret (.bin .add (.bin .add (.tup [(.tup [(.str "notrack")])]) (.var 12)) (.tup [(.tup [(.str "verdict"), (.tup [(.str "accept"), (.str "")])])]))]
set_option maxRecDepth 100000 in
set_option maxHeartbeats 0 in
theorem ss22 (hO : OrcOK w l vs ns dd O) : SS w l vs ns dd O (rsAt 22) (bodyAt 22) (tm22) := by
  refine ss_cons ?_ ?_
  refine ss_unp rfl ?_ (fun _ => rfl) (fun _ => rfl) ?_
  refine tgL (by kernel_rfl) ?_
  refine tgL (by kernel_rfl) ?_
  refine tgC (by kernel_rfl) ?_
  exact Tg.nil
  refine se_compI (comp_of (by kernel_rfl)) rfl ?_ ?_
  refine se_tup ?_
  refine ses_cons (fun _ => rfl) ?_ ?_
  exact se_int
  refine ses_cons (fun _ => rfl) ?_ ?_
  exact se_int
  refine ses_cons (fun _ => rfl) ?_ ?_
  exact se_int
  exact ses_nil
  refine se_call hO (by kernel_rfl) ⟨List.cons_ne_nil _ _, fun _ => rfl⟩ (by kernel_rfl) ?_
  refine ses_cons (fun _ => rfl) ?_ ?_
  exact se_cel (by kernel_rfl)
  refine ses_cons (fun _ => rfl) ?_ ?_
  refine se_bin rfl ?_ ?_
  refine se_bin rfl ?_ ?_
  exact se_int
  exact se_cel (by kernel_rfl)
  exact se_var (by kernel_rfl)
  exact ses_nil
  refine ss_cons ?_ ?_
  refine ss_asnL rfl (by kernel_rfl) ?_
  refine se_bin rfl ?_ ?_
  refine se_bin rfl ?_ ?_
  refine se_bin rfl ?_ ?_
  exact se_var (by kernel_rfl)
  exact se_int
  refine se_bin rfl ?_ ?_
  exact se_int
  exact se_cel (by kernel_rfl)
  exact se_powE rfl (by decide) (by decide)
  refine ss_cons ?_ ?_
  refine ss_asnL rfl (by kernel_rfl) ?_
  refine se_bin rfl ?_ ?_
  refine se_bin rfl ?_ ?_
  refine se_bin rfl ?_ ?_
  exact se_var (by kernel_rfl)
  refine se_bin rfl ?_ ?_
  exact se_var (by kernel_rfl)
  refine se_bin rfl ?_ ?_
  refine se_bin rfl ?_ ?_
  refine se_bin rfl ?_ ?_
  exact se_var (by kernel_rfl)
  exact se_cel (by kernel_rfl)
  exact se_int
  exact se_int
  refine se_bin rfl ?_ ?_
  refine se_bin rfl ?_ ?_
  refine se_bin rfl ?_ ?_
  exact se_var (by kernel_rfl)
  exact se_int
  exact se_cel (by kernel_rfl)
  exact se_int
  exact se_int
  refine ss_cons ?_ ?_
  refine ss_asnL rfl (by kernel_rfl) ?_
  refine se_lst ?_
  refine ses_cons (fun _ => rfl) ?_ ?_
  exact se_var (by kernel_rfl)
  refine ses_cons (fun _ => rfl) ?_ ?_
  refine se_tup ?_
  refine ses_cons (fun _ => rfl) ?_ ?_
  exact se_str
  refine ses_cons (fun _ => rfl) ?_ ?_
  refine se_cmp rfl ?_ ?_
  refine se_bin rfl ?_ ?_
  refine se_bin rfl ?_ ?_
  refine se_bin rfl ?_ ?_
  exact se_var (by kernel_rfl)
  exact se_int
  refine se_bin rfl ?_ ?_
  refine se_bin rfl ?_ ?_
  exact se_cel (by kernel_rfl)
  exact se_int
  exact se_int
  exact se_int
  exact se_int
  refine ses_cons (fun _ => rfl) ?_ ?_
  exact se_var (by kernel_rfl)
  refine ses_cons (fun _ => rfl) ?_ ?_
  exact se_var (by kernel_rfl)
  exact ses_nil
  exact ses_nil
  refine ss_cons ?_ ?_
  refine ss_asnL rfl (by kernel_rfl) ?_
  refine se_bin rfl ?_ ?_
  refine se_bin rfl ?_ ?_
  refine se_bin rfl ?_ ?_
  exact se_var (by kernel_rfl)
  exact se_int
  exact se_cel (by kernel_rfl)
  exact se_int
  refine ss_cons ?_ ?_
  refine ss_asnR1 (by kernel_rfl) rfl (by kernel_rfl) (comp_of (by kernel_rfl)) (by kernel_rfl) ⟨List.cons_ne_nil _ _, fun _ => rfl⟩ ?_ ?_
  refine ses_cons (fun _ => rfl) ?_ ?_
  exact se_int
  exact ses_nil
  refine se_tup ?_
  refine ses_cons (fun _ => rfl) ?_ ?_
  exact se_str
  refine ses_cons (fun _ => rfl) ?_ ?_
  refine se_bin rfl ?_ ?_
  refine se_bin rfl ?_ ?_
  exact se_cel (by kernel_rfl)
  refine se_bin rfl ?_ ?_
  exact se_int
  exact se_var (by kernel_rfl)
  exact se_powE rfl (by decide) (by decide)
  refine ses_cons (fun _ => rfl) ?_ ?_
  refine se_bin rfl ?_ ?_
  refine se_bin rfl ?_ ?_
  refine se_bin rfl ?_ ?_
  exact se_cel (by kernel_rfl)
  exact se_int
  refine se_bin rfl ?_ ?_
  exact se_int
  exact se_var (by kernel_rfl)
  exact se_powE rfl (by decide) (by decide)
  exact ses_nil
  refine ss_cons ?_ ?_
  refine ss_asnL rfl (by kernel_rfl) ?_
  refine se_tup ?_
  refine ses_cons (fun _ => rfl) ?_ ?_
  refine se_item rfl ?_ ?_
  exact se_var (by kernel_rfl)
  exact se_int
  refine ses_cons (fun _ => rfl) ?_ ?_
  refine se_item rfl ?_ ?_
  exact se_var (by kernel_rfl)
  exact se_var (by kernel_rfl)
  refine ses_cons (fun _ => rfl) ?_ ?_
  refine se_item rfl ?_ ?_
  exact se_var (by kernel_rfl)
  exact se_int
  refine ses_cons (fun _ => rfl) ?_ ?_
  refine se_item rfl ?_ ?_
  exact se_var (by kernel_rfl)
  refine se_bin rfl ?_ ?_
  exact se_int
  exact se_var (by kernel_rfl)
  refine ses_cons (fun _ => rfl) ?_ ?_
  refine se_item rfl ?_ ?_
  exact se_var (by kernel_rfl)
  exact se_int
  exact ses_nil
  refine ss_cons ?_ ?_
  refine ss_ret ?_
  refine se_bin rfl ?_ ?_
  refine se_bin rfl ?_ ?_
  refine se_tup ?_
  refine ses_cons (fun _ => rfl) ?_ ?_
  refine se_tup ?_
  refine ses_cons (fun _ => rfl) ?_ ?_
  exact se_str
  exact ses_nil
  exact ses_nil
  exact se_var (by kernel_rfl)
  refine se_tup ?_
  refine ses_cons (fun _ => rfl) ?_ ?_
  refine se_tup ?_
  refine ses_cons (fun _ => rfl) ?_ ?_
  exact se_str
  refine ses_cons (fun _ => rfl) ?_ ?_
  refine se_tup ?_
  refine ses_cons (fun _ => rfl) ?_ ?_
  exact se_str
  refine ses_cons (fun _ => rfl) ?_ ?_
  exact se_str
  exact ses_nil
  exact ses_nil
  exact ses_nil
  exact ss_nil
def tm23 : List S := [.ret (.bin .fdiv (.bin .sub (.bin .add (.var 0) (.var 1)) (.int 1)) (.var 1))]
set_option maxRecDepth 100000 in
set_option maxHeartbeats 0 in
theorem ss23 (hO : OrcOK w l vs ns dd O) : SS w l vs ns dd O (rsAt 23) (bodyAt 23) (tm23) := by
  refine ss_cons ?_ ?_
  refine ss_ret ?_
  refine se_bin rfl ?_ ?_
  refine se_bin rfl ?_ ?_
  refine se_bin rfl ?_ ?_
  exact se_var (by kernel_rfl)
  exact se_var (by kernel_rfl)
  exact se_int
  exact se_var (by kernel_rfl)
  exact ss_nil
def tm24 : List S := [.ite (.cmp .gt (.var 1) (.var 0)) [.ret (.int 0)] [], .ite (.cmp .ge (.var 2) (.var 1)) [.ret (.var 3)] [], .ite (.and (.cmp .eq (.var 1) (.var 0)) (.cmp .gt (.var 2) (.int 0))) [.ret (.bin .fdiv (.bin .sub (.bin .add (.var 3) (.call 224 [(.var 1), (.var 2)])) (.int 1)) (.call 224 [(.var 1), (.var 2)]))] [], .ret (.bi .min [(.var 3), (.bin .fdiv (.bin .add (.var 0) (.bin .mul (.bin .sub (.var 3) (.int 1)) (.var 2))) (.var 1))])]
set_option maxRecDepth 100000 in
set_option maxHeartbeats 0 in
theorem ss24 (hO : OrcOK w l vs ns dd O) : SS w l vs ns dd O (rsAt 24) (bodyAt 24) (tm24) := by
  refine ss_cons ?_ ?_
  refine ss_ite ?_ ?_ ?_
  refine sb_cmp rfl ?_ ?_
  exact se_var (by kernel_rfl)
  exact se_var (by kernel_rfl)
  refine ss_cons ?_ ?_
  refine ss_ret ?_
  exact se_int
  exact ss_nil
  exact ss_nil
  refine ss_cons ?_ ?_
  refine ss_ite ?_ ?_ ?_
  refine sb_cmp rfl ?_ ?_
  exact se_var (by kernel_rfl)
  exact se_var (by kernel_rfl)
  refine ss_cons ?_ ?_
  refine ss_ret ?_
  exact se_var (by kernel_rfl)
  exact ss_nil
  exact ss_nil
  refine ss_cons ?_ ?_
  refine ss_ite ?_ ?_ ?_
  refine sb_and ?_ ?_
  refine sb_cmp rfl ?_ ?_
  exact se_var (by kernel_rfl)
  exact se_var (by kernel_rfl)
  refine sb_cmp rfl ?_ ?_
  exact se_var (by kernel_rfl)
  exact se_int
  refine ss_cons ?_ ?_
  refine ss_ret ?_
  refine se_bin rfl ?_ ?_
  refine se_bin rfl ?_ ?_
  refine se_bin rfl ?_ ?_
  exact se_var (by kernel_rfl)
  refine se_call hO (by kernel_rfl) ⟨List.cons_ne_nil _ _, fun _ => rfl⟩ (by kernel_rfl) ?_
  refine ses_cons (fun _ => rfl) ?_ ?_
  exact se_var (by kernel_rfl)
  refine ses_cons (fun _ => rfl) ?_ ?_
  exact se_var (by kernel_rfl)
  exact ses_nil
  exact se_int
  refine se_call hO (by kernel_rfl) ⟨List.cons_ne_nil _ _, fun _ => rfl⟩ (by kernel_rfl) ?_
  refine ses_cons (fun _ => rfl) ?_ ?_
  exact se_var (by kernel_rfl)
  refine ses_cons (fun _ => rfl) ?_ ?_
  exact se_var (by kernel_rfl)
  exact ses_nil
  exact ss_nil
  exact ss_nil
  refine ss_cons ?_ ?_
  refine ss_ret ?_
  refine se_bi (by kernel_rfl) ⟨List.cons_ne_nil _ _, fun _ => rfl⟩ ?_
  refine ses_cons (fun _ => rfl) ?_ ?_
  exact se_var (by kernel_rfl)
  refine ses_cons (fun _ => rfl) ?_ ?_
  refine se_bin rfl ?_ ?_
  refine se_bin rfl ?_ ?_
  exact se_var (by kernel_rfl)
  refine se_bin rfl ?_ ?_
  refine se_bin rfl ?_ ?_
  exact se_var (by kernel_rfl)
  exact se_int
  exact se_var (by kernel_rfl)
  exact se_var (by kernel_rfl)
  exact ses_nil
  exact ss_nil
def tm25 : List S := [.ite (.cmp .gt (.var 1) (.var 0)) [.ret (.var 0)] [], .ite (.cmp .ge (.var 2) (.var 1)) [.ret (.bin .sub (.var 0) (.var 1))] [], .ite (.and (.cmp .eq (.var 1) (.var 0)) (.cmp .gt (.var 2) (.int 0))) [.ret (.bin .mul (.bin .mod (.bin .sub (.var 3) (.int 1)) (.call 224 [(.var 1), (.var 2)])) (.var 2))] [], .ret (.bin .sub (.bin .add (.var 0) (.bin .mul (.bin .sub (.var 3) (.int 1)) (.var 2))) (.bin .mul (.var 1) (.call 231 [(.var 0), (.var 1), (.var 2), (.var 3)])))]
set_option maxRecDepth 100000 in
set_option maxHeartbeats 0 in
theorem ss25 (hO : OrcOK w l vs ns dd O) : SS w l vs ns dd O (rsAt 25) (bodyAt 25) (tm25) := by
  refine ss_cons ?_ ?_
  refine ss_ite ?_ ?_ ?_
  refine sb_cmp rfl ?_ ?_
  exact se_var (by kernel_rfl)
  exact se_var (by kernel_rfl)
  refine ss_cons ?_ ?_
  refine ss_ret ?_
  exact se_var (by kernel_rfl)
  exact ss_nil
  exact ss_nil
  refine ss_cons ?_ ?_
  refine ss_ite ?_ ?_ ?_
  refine sb_cmp rfl ?_ ?_
  exact se_var (by kernel_rfl)
  exact se_var (by kernel_rfl)
  refine ss_cons ?_ ?_
  refine ss_ret ?_
  refine se_bin rfl ?_ ?_
  exact se_var (by kernel_rfl)
  exact se_var (by kernel_rfl)
  exact ss_nil
  exact ss_nil
  refine ss_cons ?_ ?_
  refine ss_ite ?_ ?_ ?_
  refine sb_and ?_ ?_
  refine sb_cmp rfl ?_ ?_
  exact se_var (by kernel_rfl)
  exact se_var (by kernel_rfl)
  refine sb_cmp rfl ?_ ?_
  exact se_var (by kernel_rfl)
  exact se_int
  refine ss_cons ?_ ?_
  refine ss_ret ?_
  refine se_bin rfl ?_ ?_
  refine se_bin rfl ?_ ?_
  refine se_bin rfl ?_ ?_
  exact se_var (by kernel_rfl)
  exact se_int
  refine se_call hO (by kernel_rfl) ⟨List.cons_ne_nil _ _, fun _ => rfl⟩ (by kernel_rfl) ?_
  refine ses_cons (fun _ => rfl) ?_ ?_
  exact se_var (by kernel_rfl)
  refine ses_cons (fun _ => rfl) ?_ ?_
  exact se_var (by kernel_rfl)
  exact ses_nil
  exact se_var (by kernel_rfl)
  exact ss_nil
  exact ss_nil
  refine ss_cons ?_ ?_
  refine ss_ret ?_
  refine se_bin rfl ?_ ?_
  refine se_bin rfl ?_ ?_
  exact se_var (by kernel_rfl)
  refine se_bin rfl ?_ ?_
  refine se_bin rfl ?_ ?_
  exact se_var (by kernel_rfl)
  exact se_int
  exact se_var (by kernel_rfl)
  refine se_bin rfl ?_ ?_
  exact se_var (by kernel_rfl)
  refine se_call hO (by kernel_rfl) ⟨List.cons_ne_nil _ _, fun _ => rfl⟩ (by kernel_rfl) ?_
  refine ses_cons (fun _ => rfl) ?_ ?_
  exact se_var (by kernel_rfl)
  refine ses_cons (fun _ => rfl) ?_ ?_
  exact se_var (by kernel_rfl)
  refine ses_cons (fun _ => rfl) ?_ ?_
  exact se_var (by kernel_rfl)
  refine ses_cons (fun _ => rfl) ?_ ?_
  exact se_var (by kernel_rfl)
  exact ses_nil
  exact ss_nil
def tm26 : List S := [.ite (.cmp .eq (.item (.var 0) (.int 0)) (.str "limit")) [.asn 4 (.call 231 [(.call 205 [(.var 0)]), (.call 198 [(.var 0), (.var 2)]), (.bin .mul (.var 1) (.pow 10 6)), (.var 3)])] [.asn 4 (.bi .min [(.var 3), (.bi .max [(.int 0), (.bin .fdiv (.bin .sub (.bin .sub (.item (.var 0) (.int 2)) (.item (.var 0) (.int 3))) (.int 1)) (.var 2))])])], .ret (.ite (.item (.var 0) (.int 1)) (.bin .sub (.var 3) (.var 4)) (.var 4))]
set_option maxRecDepth 100000 in
set_option maxHeartbeats 0 in
theorem ss26 (hO : OrcOK w l vs ns dd O) : SS w l vs ns dd O (rsAt 26) (bodyAt 26) (tm26) := by
  refine ss_cons ?_ ?_
  refine ss_ite ?_ ?_ ?_
  refine sb_cmp rfl ?_ ?_
  refine se_item rfl ?_ ?_
  exact se_var (by kernel_rfl)
  exact se_int
  exact se_str
  refine ss_cons ?_ ?_
  refine ss_asnL rfl (by kernel_rfl) ?_
  refine se_call hO (by kernel_rfl) ⟨List.cons_ne_nil _ _, fun _ => rfl⟩ (by kernel_rfl) ?_
  refine ses_cons (fun _ => rfl) ?_ ?_
  refine se_call hO (by kernel_rfl) ⟨List.cons_ne_nil _ _, fun _ => rfl⟩ (by kernel_rfl) ?_
  refine ses_cons (fun _ => rfl) ?_ ?_
  exact se_var (by kernel_rfl)
  exact ses_nil
  refine ses_cons (fun _ => rfl) ?_ ?_
  refine se_call hO (by kernel_rfl) ⟨List.cons_ne_nil _ _, fun _ => rfl⟩ (by kernel_rfl) ?_
  refine ses_cons (fun _ => rfl) ?_ ?_
  exact se_var (by kernel_rfl)
  refine ses_cons (fun _ => rfl) ?_ ?_
  exact se_var (by kernel_rfl)
  exact ses_nil
  refine ses_cons (fun _ => rfl) ?_ ?_
  refine se_bin rfl ?_ ?_
  exact se_var (by kernel_rfl)
  exact se_powE rfl (by decide) (by decide)
  refine ses_cons (fun _ => rfl) ?_ ?_
  exact se_var (by kernel_rfl)
  exact ses_nil
  exact ss_nil
  refine ss_cons ?_ ?_
  refine ss_asnL rfl (by kernel_rfl) ?_
  refine se_bi (by kernel_rfl) ⟨List.cons_ne_nil _ _, fun _ => rfl⟩ ?_
  refine ses_cons (fun _ => rfl) ?_ ?_
  exact se_var (by kernel_rfl)
  refine ses_cons (fun _ => rfl) ?_ ?_
  refine se_bi (by kernel_rfl) ⟨List.cons_ne_nil _ _, fun _ => rfl⟩ ?_
  refine ses_cons (fun _ => rfl) ?_ ?_
  exact se_int
  refine ses_cons (fun _ => rfl) ?_ ?_
  refine se_bin rfl ?_ ?_
  refine se_bin rfl ?_ ?_
  refine se_bin rfl ?_ ?_
  refine se_item rfl ?_ ?_
  exact se_var (by kernel_rfl)
  exact se_int
  refine se_item rfl ?_ ?_
  exact se_var (by kernel_rfl)
  exact se_int
  exact se_int
  exact se_var (by kernel_rfl)
  exact ses_nil
  exact ses_nil
  exact ss_nil
  refine ss_cons ?_ ?_
  refine ss_ret ?_
  refine se_ite ?_ ?_ ?_
  refine sb_item ?_
  refine se_item rfl ?_ ?_
  exact se_var (by kernel_rfl)
  exact se_int
  refine se_bin rfl ?_ ?_
  exact se_var (by kernel_rfl)
  exact se_var (by kernel_rfl)
  exact se_var (by kernel_rfl)
  exact ss_nil
def tm27 : List S := [.asn 3 .nlst, .forr 4 (.int 0) (.int 5) [.unpR [5, 6] (.tup [(.item (.item (.var 0) (.var 4)) (.int 0)), (.item (.var 1) (.bin .fdiv (.var 4) (.int 2)))]), .ite (.cmp .eq (.var 5) (.str "counter")) [.app 3 (.tup [(.var 5), (.bin .add (.item (.item (.var 0) (.var 4)) (.int 1)) (.var 6)), (.bin .add (.item (.item (.var 0) (.var 4)) (.int 2)) (.bin .mul (.var 6) (.var 2)))])] [.ite (.cmp .eq (.var 5) (.str "quota")) [.app 3 (.tup [(.var 5), (.item (.item (.var 0) (.var 4)) (.int 1)), (.item (.item (.var 0) (.var 4)) (.int 2)), (.bin .add (.item (.item (.var 0) (.var 4)) (.int 3)) (.bin .mul (.var 6) (.var 2)))])] [.app 3 (.item (.var 0) (.var 4))]]], .ret (.var 3)]
set_option maxRecDepth 100000 in
set_option maxHeartbeats 0 in
theorem ss27 (hO : OrcOK w l vs ns dd O) : SS w l vs ns dd O (rsAt 27) (bodyAt 27) (tm27) := by
  refine ss_cons ?_ ?_
  refine ss_asnL rfl (by kernel_rfl) ?_
  exact se_nlst
  refine ss_cons ?_ ?_
  refine ss_for1L (by kernel_rfl) (by kernel_rfl) ⟨List.cons_ne_nil _ _, fun _ => rfl⟩ ?_ ?_
  refine ses_cons (fun _ => rfl) ?_ ?_
  exact se_int
  exact ses_nil
  refine ss_cons ?_ ?_
  refine ss_unp2 (by kernel_rfl) (by kernel_rfl) rfl (by kernel_rfl) rfl (by kernel_rfl) (by kernel_rfl) ?_
  refine se_tup ?_
  refine ses_cons (fun _ => rfl) ?_ ?_
  refine se_item rfl ?_ ?_
  refine se_item rfl ?_ ?_
  exact se_var (by kernel_rfl)
  exact se_var (by kernel_rfl)
  exact se_int
  refine ses_cons (fun _ => rfl) ?_ ?_
  refine se_item rfl ?_ ?_
  exact se_var (by kernel_rfl)
  refine se_bin rfl ?_ ?_
  exact se_var (by kernel_rfl)
  exact se_int
  exact ses_nil
  refine ss_cons ?_ ?_
  refine ss_ite ?_ ?_ ?_
  refine sb_cmp rfl ?_ ?_
  exact se_var (by kernel_rfl)
  exact se_str
  refine ss_cons ?_ ?_
  refine ss_app (by kernel_rfl) rfl ⟨List.cons_ne_nil _ _, fun _ => rfl⟩ inter_of (fun _ => rfl) ?_
  refine ses_cons (fun _ => rfl) ?_ ?_
  refine se_tup ?_
  refine ses_cons (fun _ => rfl) ?_ ?_
  exact se_var (by kernel_rfl)
  refine ses_cons (fun _ => rfl) ?_ ?_
  refine se_bin rfl ?_ ?_
  refine se_item rfl ?_ ?_
  refine se_item rfl ?_ ?_
  exact se_var (by kernel_rfl)
  exact se_var (by kernel_rfl)
  exact se_int
  exact se_var (by kernel_rfl)
  refine ses_cons (fun _ => rfl) ?_ ?_
  refine se_bin rfl ?_ ?_
  refine se_item rfl ?_ ?_
  refine se_item rfl ?_ ?_
  exact se_var (by kernel_rfl)
  exact se_var (by kernel_rfl)
  exact se_int
  refine se_bin rfl ?_ ?_
  exact se_var (by kernel_rfl)
  exact se_var (by kernel_rfl)
  exact ses_nil
  exact ses_nil
  exact ss_nil
  refine ss_cons ?_ ?_
  refine ss_ite ?_ ?_ ?_
  refine sb_cmp rfl ?_ ?_
  exact se_var (by kernel_rfl)
  exact se_str
  refine ss_cons ?_ ?_
  refine ss_app (by kernel_rfl) rfl ⟨List.cons_ne_nil _ _, fun _ => rfl⟩ inter_of (fun _ => rfl) ?_
  refine ses_cons (fun _ => rfl) ?_ ?_
  refine se_tup ?_
  refine ses_cons (fun _ => rfl) ?_ ?_
  exact se_var (by kernel_rfl)
  refine ses_cons (fun _ => rfl) ?_ ?_
  refine se_item rfl ?_ ?_
  refine se_item rfl ?_ ?_
  exact se_var (by kernel_rfl)
  exact se_var (by kernel_rfl)
  exact se_int
  refine ses_cons (fun _ => rfl) ?_ ?_
  refine se_item rfl ?_ ?_
  refine se_item rfl ?_ ?_
  exact se_var (by kernel_rfl)
  exact se_var (by kernel_rfl)
  exact se_int
  refine ses_cons (fun _ => rfl) ?_ ?_
  refine se_bin rfl ?_ ?_
  refine se_item rfl ?_ ?_
  refine se_item rfl ?_ ?_
  exact se_var (by kernel_rfl)
  exact se_var (by kernel_rfl)
  exact se_int
  refine se_bin rfl ?_ ?_
  exact se_var (by kernel_rfl)
  exact se_var (by kernel_rfl)
  exact ses_nil
  exact ses_nil
  exact ss_nil
  refine ss_cons ?_ ?_
  refine ss_app (by kernel_rfl) rfl ⟨List.cons_ne_nil _ _, fun _ => rfl⟩ inter_of (fun _ => rfl) ?_
  refine ses_cons (fun _ => rfl) ?_ ?_
  refine se_item rfl ?_ ?_
  exact se_var (by kernel_rfl)
  exact se_var (by kernel_rfl)
  exact ses_nil
  exact ss_nil
  exact ss_nil
  exact ss_nil
  refine ss_cons ?_ ?_
  refine ss_ret ?_
  exact se_var (by kernel_rfl)
  exact ss_nil
def tm28 : List S := [.asn 6 (.ite (.cmp .eq (.item (.item (.var 0) (.int 1)) (.int 0)) (.str "limit")) (.int 1) (.int 3)), .asn 7 (.item (.var 5) (.bin .fdiv (.var 6) (.int 2))), .ite (.cmp .eq (.var 7) (.int 0)) [.ret (.var 1)] [], .asn 8 (.call 238 [(.call 205 [(.item (.var 0) (.var 6))]), (.call 198 [(.item (.var 0) (.var 6)), (.var 4)]), (.bin .mul (.var 3) (.pow 10 6)), (.var 7)]), .ite (.and (.cmp .eq (.var 6) (.int 3)) (.not (.item (.item (.var 0) (.int 1)) (.int 1)))) [.ret (.tup [(.var 8), (.bin .add (.var 2) (.bin .mul (.bin .sub (.var 7) (.int 1)) (.var 3)))])] [], .ret (.tup [(.var 8), (.bin .add (.var 2) (.bin .mul (.bin .sub (.item (.var 5) (.int 0)) (.int 1)) (.var 3)))])]
set_option maxRecDepth 100000 in
set_option maxHeartbeats 0 in
theorem ss28 (hO : OrcOK w l vs ns dd O) : SS w l vs ns dd O (rsAt 28) (bodyAt 28) (tm28) := by
  refine ss_cons ?_ ?_
  refine ss_asnL rfl (by kernel_rfl) ?_
  refine se_ite ?_ ?_ ?_
  refine sb_cmp rfl ?_ ?_
  refine se_item rfl ?_ ?_
  refine se_item rfl ?_ ?_
  exact se_var (by kernel_rfl)
  exact se_int
  exact se_int
  exact se_str
  exact se_int
  exact se_int
  refine ss_cons ?_ ?_
  refine ss_asnL rfl (by kernel_rfl) ?_
  refine se_item rfl ?_ ?_
  exact se_var (by kernel_rfl)
  refine se_bin rfl ?_ ?_
  exact se_var (by kernel_rfl)
  exact se_int
  refine ss_cons ?_ ?_
  refine ss_ite ?_ ?_ ?_
  refine sb_cmp rfl ?_ ?_
  exact se_var (by kernel_rfl)
  exact se_int
  refine ss_cons ?_ ?_
  refine ss_ret ?_
  exact se_var (by kernel_rfl)
  exact ss_nil
  exact ss_nil
  refine ss_cons ?_ ?_
  refine ss_asnL rfl (by kernel_rfl) ?_
  refine se_call hO (by kernel_rfl) ⟨List.cons_ne_nil _ _, fun _ => rfl⟩ (by kernel_rfl) ?_
  refine ses_cons (fun _ => rfl) ?_ ?_
  refine se_call hO (by kernel_rfl) ⟨List.cons_ne_nil _ _, fun _ => rfl⟩ (by kernel_rfl) ?_
  refine ses_cons (fun _ => rfl) ?_ ?_
  refine se_item rfl ?_ ?_
  exact se_var (by kernel_rfl)
  exact se_var (by kernel_rfl)
  exact ses_nil
  refine ses_cons (fun _ => rfl) ?_ ?_
  refine se_call hO (by kernel_rfl) ⟨List.cons_ne_nil _ _, fun _ => rfl⟩ (by kernel_rfl) ?_
  refine ses_cons (fun _ => rfl) ?_ ?_
  refine se_item rfl ?_ ?_
  exact se_var (by kernel_rfl)
  exact se_var (by kernel_rfl)
  refine ses_cons (fun _ => rfl) ?_ ?_
  exact se_var (by kernel_rfl)
  exact ses_nil
  refine ses_cons (fun _ => rfl) ?_ ?_
  refine se_bin rfl ?_ ?_
  exact se_var (by kernel_rfl)
  exact se_powE rfl (by decide) (by decide)
  refine ses_cons (fun _ => rfl) ?_ ?_
  exact se_var (by kernel_rfl)
  exact ses_nil
  refine ss_cons ?_ ?_
  refine ss_ite ?_ ?_ ?_
  refine sb_and ?_ ?_
  refine sb_cmp rfl ?_ ?_
  exact se_var (by kernel_rfl)
  exact se_int
  refine sb_not ?_
  refine sb_item ?_
  refine se_item rfl ?_ ?_
  refine se_item rfl ?_ ?_
  exact se_var (by kernel_rfl)
  exact se_int
  exact se_int
  refine ss_cons ?_ ?_
  refine ss_ret ?_
  refine se_tup ?_
  refine ses_cons (fun _ => rfl) ?_ ?_
  exact se_var (by kernel_rfl)
  refine ses_cons (fun _ => rfl) ?_ ?_
  refine se_bin rfl ?_ ?_
  exact se_var (by kernel_rfl)
  refine se_bin rfl ?_ ?_
  refine se_bin rfl ?_ ?_
  exact se_var (by kernel_rfl)
  exact se_int
  exact se_var (by kernel_rfl)
  exact ses_nil
  exact ss_nil
  exact ss_nil
  refine ss_cons ?_ ?_
  refine ss_ret ?_
  refine se_tup ?_
  refine ses_cons (fun _ => rfl) ?_ ?_
  exact se_var (by kernel_rfl)
  refine ses_cons (fun _ => rfl) ?_ ?_
  refine se_bin rfl ?_ ?_
  exact se_var (by kernel_rfl)
  refine se_bin rfl ?_ ?_
  refine se_bin rfl ?_ ?_
  refine se_item rfl ?_ ?_
  exact se_var (by kernel_rfl)
  exact se_int
  exact se_int
  exact se_var (by kernel_rfl)
  exact ses_nil
  exact ss_nil
def tm29 : List S := [.forr 3 (.int 0) (.int 5) [.asn 4 (.call 151 [(.item (.var 0) (.var 3)), (.var 1), (.var 2)]), .ite (.not (.bi .isi [(.var 4), (.glob (.type "bool"))])) [.ret (.int (-1))] [], .ite (.not (.var 4)) [.ret (.var 3)] []], .ret (.int 5)]
set_option maxRecDepth 100000 in
set_option maxHeartbeats 0 in
theorem ss29 (hO : OrcOK w l vs ns dd O) : SS w l vs ns dd O (rsAt 29) (bodyAt 29) (tm29) := by
  refine ss_cons ?_ ?_
  refine ss_for1L (by kernel_rfl) (by kernel_rfl) ⟨List.cons_ne_nil _ _, fun _ => rfl⟩ ?_ ?_
  refine ses_cons (fun _ => rfl) ?_ ?_
  exact se_int
  exact ses_nil
  refine ss_cons ?_ ?_
  refine ss_asnL rfl (by kernel_rfl) ?_
  refine se_call hO (by kernel_rfl) ⟨List.cons_ne_nil _ _, fun _ => rfl⟩ (by kernel_rfl) ?_
  refine ses_cons (fun _ => rfl) ?_ ?_
  refine se_item rfl ?_ ?_
  exact se_var (by kernel_rfl)
  exact se_var (by kernel_rfl)
  refine ses_cons (fun _ => rfl) ?_ ?_
  exact se_var (by kernel_rfl)
  refine ses_cons (fun _ => rfl) ?_ ?_
  exact se_var (by kernel_rfl)
  exact ses_nil
  refine ss_cons ?_ ?_
  refine ss_ite ?_ ?_ ?_
  refine sb_not ?_
  refine sb_bi ?_
  refine se_bi (by kernel_rfl) ⟨List.cons_ne_nil _ _, fun _ => rfl⟩ ?_
  refine ses_cons (fun _ => rfl) ?_ ?_
  exact se_var (by kernel_rfl)
  refine ses_cons (fun _ => rfl) ?_ ?_
  exact se_glob (by kernel_rfl)
  exact ses_nil
  refine ss_cons ?_ ?_
  refine ss_ret ?_
  exact se_neg
  exact ss_nil
  exact ss_nil
  refine ss_cons ?_ ?_
  refine ss_ite ?_ ?_ ?_
  refine sb_not ?_
  refine sb_var ?_
  exact se_var (by kernel_rfl)
  refine ss_cons ?_ ?_
  refine ss_ret ?_
  exact se_var (by kernel_rfl)
  exact ss_nil
  exact ss_nil
  exact ss_nil
  refine ss_cons ?_ ?_
  refine ss_ret ?_
  exact se_int
  exact ss_nil
def tm30 : List S := [.asn 2 (.call 191 [(.var 0), (.var 1)]), .asn 3 (.call 205 [(.var 2)]), .asn 5 (.compR 40 (.int 0) (.int 2) (.call 212 [(.call 186 [(.var 0), (.bin .add (.bin .add (.bin .mul (.int 12) (.var 1)) (.int 6)) (.bin .mul (.int 3) (.var 40)))]), (.var 2), (.var 40), (.var 1)])), .asn 6 (.call 217 [(.var 0), (.var 1), (.var 2), (.item (.var 5) (.int 0))]), .asn 7 (.call 179 [(.var 6)]), .ite (.cmp .ne (.bi .sorted [(.var 7)]) (.lst [(.int 1), (.int 2), (.int 3), (.int 4), (.int 5)])) [.ret (.bool false)] [], .asn 8 (.compR 41 (.int 1) (.int 6) (.item (.var 7) (.var 41))), .asn 9 (.ite (.cmp .eq (.item (.var 6) (.int 2)) (.var 2)) (.int 1) (.int 3)), .unpR [10, 11] (.tup [(.bi .list [(.slice (.var 6) 1 6)]), (.tup [(.var 3), (.int 0)])]), .asn 12 (.bin .mod (.bin .add (.call 186 [(.var 0), (.bin .add (.bin .mul (.int 12) (.var 1)) (.int 5))]) (.bin .mul (.int 1000) (.var 1))) (.pow 10 15)), .forr 4 (.int 0) (.int 2) [.unp [14, 15] (.compR 42 (.int 0) (.int 2) (.call 186 [(.var 0), (.bin .add (.bin .add (.bin .add (.bin .mul (.int 12) (.var 1)) (.int 7)) (.bin .mul (.int 3) (.var 4))) (.var 42))])), .asn 16 (.bin .fdiv (.call 198 [(.var 2), (.item (.var 5) (.var 4))]) (.pow 10 6)), .asn 17 (.item (.lst [(.bin .fdiv (.var 16) (.int 2)), (.int 0), (.bin .fdiv (.var 16) (.int 3)), (.bin .add (.var 16) (.int 1)), (.var 16), (.bin .mod (.bin .fdiv (.var 14) (.int 6)) (.bin .add (.var 16) (.int 2)))]) (.bin .mod (.bin .add (.bin .add (.var 14) (.var 4)) (.var 1)) (.int 6))), .ite (.cmp .eq (.var 4) (.int 1)) [.asn 12 (.bin .sub (.bin .add (.var 12) (.bin .mod (.bin .fdiv (.var 15) (.int 5)) (.pow 10 9))) (.bin .fdiv (.bin .sub (.item (.var 11) (.int 0)) (.var 3)) (.pow 10 6)))] [], .unpR [18, 19, 20] (.tup [(.var 10), (.var 11), (.tup [(.int 0), (.int 0), (.int 0)])]), .forr 13 (.int 0) (.bin .add (.bin .mod (.bin .add (.var 15) (.int 2)) (.int 5)) (.int 4)) [.asn 21 (.call 245 [(.item (.var 18) (.int 1)), (.var 17), (.item (.var 5) (.var 4)), (.bin .add (.var 13) (.int 1))]), .unpR [22, 20] (.tup [(.var 20), (.tup [(.bin .add (.var 13) (.int 1)), (.var 21), (.call 245 [(.item (.var 18) (.int 3)), (.var 17), (.item (.var 5) (.var 4)), (.var 21)])])]), .asn 23 (.ite (.cmp .eq (.item (.var 20) (.int 1)) (.item (.var 22) (.int 1))) (.int 1) (.ite (.cmp .eq (.item (.var 20) (.int 2)) (.item (.var 22) (.int 2))) (.int 3) (.int 5))), .ite (.cmp .ne (.call 266 [(.var 8), (.bin .add (.var 12) (.bin .mul (.var 13) (.var 17))), (.item (.var 5) (.var 4))]) (.var 23)) [.ret (.bool false)] [], .asn 10 (.call 252 [(.var 18), (.var 20), (.item (.var 5) (.var 4))]), .asn 11 (.call 259 [(.var 18), (.var 19), (.var 12), (.var 17), (.item (.var 5) (.var 4)), (.var 20)]), .ite (.cmp .ne (.compI 43 (.var 8) (.call 172 [(.var 43)])) (.var 10)) [.ret (.bool false)] [], .ite (.cmp .ne (.tup [(.attr (.item (.var 8) (.var 9)) 10), (.attr (.item (.var 8) (.var 9)) 11)]) (.var 11)) [.ret (.bool false)] []], .asn 12 (.bin .add (.var 12) (.bin .mul (.bin .add (.bin .mod (.bin .add (.var 15) (.int 2)) (.int 5)) (.int 3)) (.var 17)))], .ret (.bool true)]
set_option maxRecDepth 100000 in
set_option maxHeartbeats 0 in
theorem ss30 (hO : OrcOK w l vs ns dd O) : SS w l vs ns dd O (rsAt 30) (bodyAt 30) (tm30) := by
  refine ss_cons ?_ ?_
  refine ss_asnC rfl (by kernel_rfl) ?_
  refine se_call hO (by kernel_rfl) ⟨List.cons_ne_nil _ _, fun _ => rfl⟩ (by kernel_rfl) ?_
  refine ses_cons (fun _ => rfl) ?_ ?_
  exact se_cel (by kernel_rfl)
  refine ses_cons (fun _ => rfl) ?_ ?_
  exact se_cel (by kernel_rfl)
  exact ses_nil
  refine ss_cons ?_ ?_
  refine ss_asnL rfl (by kernel_rfl) ?_
  refine se_call hO (by kernel_rfl) ⟨List.cons_ne_nil _ _, fun _ => rfl⟩ (by kernel_rfl) ?_
  refine ses_cons (fun _ => rfl) ?_ ?_
  exact se_cel (by kernel_rfl)
  exact ses_nil
  refine ss_cons ?_ ?_
  refine ss_asnR1 (by kernel_rfl) rfl (by kernel_rfl) (comp_of (by kernel_rfl)) (by kernel_rfl) ⟨List.cons_ne_nil _ _, fun _ => rfl⟩ ?_ ?_
  refine ses_cons (fun _ => rfl) ?_ ?_
  exact se_int
  exact ses_nil
  refine se_call hO (by kernel_rfl) ⟨List.cons_ne_nil _ _, fun _ => rfl⟩ (by kernel_rfl) ?_
  refine ses_cons (fun _ => rfl) ?_ ?_
  refine se_call hO (by kernel_rfl) ⟨List.cons_ne_nil _ _, fun _ => rfl⟩ (by kernel_rfl) ?_
  refine ses_cons (fun _ => rfl) ?_ ?_
  exact se_cel (by kernel_rfl)
  refine ses_cons (fun _ => rfl) ?_ ?_
  refine se_bin rfl ?_ ?_
  refine se_bin rfl ?_ ?_
  refine se_bin rfl ?_ ?_
  exact se_int
  exact se_cel (by kernel_rfl)
  exact se_int
  refine se_bin rfl ?_ ?_
  exact se_int
  exact se_var (by kernel_rfl)
  exact ses_nil
  refine ses_cons (fun _ => rfl) ?_ ?_
  exact se_cel (by kernel_rfl)
  refine ses_cons (fun _ => rfl) ?_ ?_
  exact se_var (by kernel_rfl)
  refine ses_cons (fun _ => rfl) ?_ ?_
  exact se_cel (by kernel_rfl)
  exact ses_nil
  refine ss_cons ?_ ?_
  refine ss_asnL rfl (by kernel_rfl) ?_
  refine se_call hO (by kernel_rfl) ⟨List.cons_ne_nil _ _, fun _ => rfl⟩ (by kernel_rfl) ?_
  refine ses_cons (fun _ => rfl) ?_ ?_
  exact se_cel (by kernel_rfl)
  refine ses_cons (fun _ => rfl) ?_ ?_
  exact se_cel (by kernel_rfl)
  refine ses_cons (fun _ => rfl) ?_ ?_
  exact se_cel (by kernel_rfl)
  refine ses_cons (fun _ => rfl) ?_ ?_
  refine se_item rfl ?_ ?_
  exact se_var (by kernel_rfl)
  exact se_int
  exact ses_nil
  refine ss_cons ?_ ?_
  refine ss_asnC rfl (by kernel_rfl) ?_
  refine se_call hO (by kernel_rfl) ⟨List.cons_ne_nil _ _, fun _ => rfl⟩ (by kernel_rfl) ?_
  refine ses_cons (fun _ => rfl) ?_ ?_
  exact se_var (by kernel_rfl)
  exact ses_nil
  refine ss_cons ?_ ?_
  refine ss_ite ?_ ?_ ?_
  refine sb_cmp rfl ?_ ?_
  refine se_bi (by kernel_rfl) ⟨List.cons_ne_nil _ _, fun _ => rfl⟩ ?_
  refine ses_cons (fun _ => rfl) ?_ ?_
  exact se_cel (by kernel_rfl)
  exact ses_nil
  refine se_lst ?_
  refine ses_cons (fun _ => rfl) ?_ ?_
  exact se_int
  refine ses_cons (fun _ => rfl) ?_ ?_
  exact se_int
  refine ses_cons (fun _ => rfl) ?_ ?_
  exact se_int
  refine ses_cons (fun _ => rfl) ?_ ?_
  exact se_int
  refine ses_cons (fun _ => rfl) ?_ ?_
  exact se_int
  exact ses_nil
  refine ss_cons ?_ ?_
  refine ss_ret ?_
  exact se_bool
  exact ss_nil
  exact ss_nil
  refine ss_cons ?_ ?_
  refine ss_asnR2 (by kernel_rfl) rfl (by kernel_rfl) (comp_of (by kernel_rfl)) (by kernel_rfl) ⟨List.cons_ne_nil _ _, fun _ => rfl⟩ ?_ ?_
  refine ses_cons (fun _ => rfl) ?_ ?_
  exact se_int
  refine ses_cons (fun _ => rfl) ?_ ?_
  exact se_int
  exact ses_nil
  refine se_item rfl ?_ ?_
  exact se_cel (by kernel_rfl)
  exact se_var (by kernel_rfl)
  refine ss_cons ?_ ?_
  refine ss_asnL rfl (by kernel_rfl) ?_
  refine se_ite ?_ ?_ ?_
  refine sb_cmp rfl ?_ ?_
  refine se_item rfl ?_ ?_
  exact se_var (by kernel_rfl)
  exact se_int
  exact se_cel (by kernel_rfl)
  exact se_int
  exact se_int
  refine ss_cons ?_ ?_
  refine ss_unp2 (by kernel_rfl) (by kernel_rfl) rfl (by kernel_rfl) rfl (by kernel_rfl) (by kernel_rfl) ?_
  refine se_tup ?_
  refine ses_cons (fun _ => rfl) ?_ ?_
  refine se_bi (by kernel_rfl) ⟨List.cons_ne_nil _ _, fun _ => rfl⟩ ?_
  refine ses_cons (fun _ => rfl) ?_ ?_
  refine se_sliceE rfl rfl rfl (fun _ _ => rfl) (by decide) ?_
  exact se_var (by kernel_rfl)
  exact ses_nil
  refine ses_cons (fun _ => rfl) ?_ ?_
  refine se_tup ?_
  refine ses_cons (fun _ => rfl) ?_ ?_
  exact se_var (by kernel_rfl)
  refine ses_cons (fun _ => rfl) ?_ ?_
  exact se_int
  exact ses_nil
  exact ses_nil
  refine ss_cons ?_ ?_
  refine ss_asnL rfl (by kernel_rfl) ?_
  refine se_bin rfl ?_ ?_
  refine se_bin rfl ?_ ?_
  refine se_call hO (by kernel_rfl) ⟨List.cons_ne_nil _ _, fun _ => rfl⟩ (by kernel_rfl) ?_
  refine ses_cons (fun _ => rfl) ?_ ?_
  exact se_cel (by kernel_rfl)
  refine ses_cons (fun _ => rfl) ?_ ?_
  refine se_bin rfl ?_ ?_
  refine se_bin rfl ?_ ?_
  exact se_int
  exact se_cel (by kernel_rfl)
  exact se_int
  exact ses_nil
  refine se_bin rfl ?_ ?_
  exact se_int
  exact se_cel (by kernel_rfl)
  exact se_powE rfl (by decide) (by decide)
  refine ss_cons ?_ ?_
  refine ss_for1C (by kernel_rfl) (by kernel_rfl) ⟨List.cons_ne_nil _ _, fun _ => rfl⟩ ?_ ?_
  refine ses_cons (fun _ => rfl) ?_ ?_
  exact se_int
  exact ses_nil
  refine ss_cons ?_ ?_
  refine ss_unp rfl ?_ (fun _ => rfl) (fun _ => rfl) ?_
  refine tgL (by kernel_rfl) ?_
  refine tgL (by kernel_rfl) ?_
  exact Tg.nil
  refine se_comp1 (comp_of (by kernel_rfl)) (by kernel_rfl) ⟨List.cons_ne_nil _ _, fun _ => rfl⟩ ?_ ?_
  refine ses_cons (fun _ => rfl) ?_ ?_
  exact se_int
  exact ses_nil
  refine se_call hO (by kernel_rfl) ⟨List.cons_ne_nil _ _, fun _ => rfl⟩ (by kernel_rfl) ?_
  refine ses_cons (fun _ => rfl) ?_ ?_
  exact se_cel (by kernel_rfl)
  refine ses_cons (fun _ => rfl) ?_ ?_
  refine se_bin rfl ?_ ?_
  refine se_bin rfl ?_ ?_
  refine se_bin rfl ?_ ?_
  refine se_bin rfl ?_ ?_
  exact se_int
  exact se_cel (by kernel_rfl)
  exact se_int
  refine se_bin rfl ?_ ?_
  exact se_int
  exact se_cel (by kernel_rfl)
  exact se_var (by kernel_rfl)
  exact ses_nil
  refine ss_cons ?_ ?_
  refine ss_asnL rfl (by kernel_rfl) ?_
  refine se_bin rfl ?_ ?_
  refine se_call hO (by kernel_rfl) ⟨List.cons_ne_nil _ _, fun _ => rfl⟩ (by kernel_rfl) ?_
  refine ses_cons (fun _ => rfl) ?_ ?_
  exact se_cel (by kernel_rfl)
  refine ses_cons (fun _ => rfl) ?_ ?_
  refine se_item rfl ?_ ?_
  exact se_var (by kernel_rfl)
  exact se_cel (by kernel_rfl)
  exact ses_nil
  exact se_powE rfl (by decide) (by decide)
  refine ss_cons ?_ ?_
  refine ss_asnL rfl (by kernel_rfl) ?_
  refine se_item rfl ?_ ?_
  refine se_lst ?_
  refine ses_cons (fun _ => rfl) ?_ ?_
  refine se_bin rfl ?_ ?_
  exact se_var (by kernel_rfl)
  exact se_int
  refine ses_cons (fun _ => rfl) ?_ ?_
  exact se_int
  refine ses_cons (fun _ => rfl) ?_ ?_
  refine se_bin rfl ?_ ?_
  exact se_var (by kernel_rfl)
  exact se_int
  refine ses_cons (fun _ => rfl) ?_ ?_
  refine se_bin rfl ?_ ?_
  exact se_var (by kernel_rfl)
  exact se_int
  refine ses_cons (fun _ => rfl) ?_ ?_
  exact se_var (by kernel_rfl)
  refine ses_cons (fun _ => rfl) ?_ ?_
  refine se_bin rfl ?_ ?_
  refine se_bin rfl ?_ ?_
  exact se_var (by kernel_rfl)
  exact se_int
  refine se_bin rfl ?_ ?_
  exact se_var (by kernel_rfl)
  exact se_int
  exact ses_nil
  refine se_bin rfl ?_ ?_
  refine se_bin rfl ?_ ?_
  refine se_bin rfl ?_ ?_
  exact se_var (by kernel_rfl)
  exact se_cel (by kernel_rfl)
  exact se_cel (by kernel_rfl)
  exact se_int
  refine ss_cons ?_ ?_
  refine ss_ite ?_ ?_ ?_
  refine sb_cmp rfl ?_ ?_
  exact se_cel (by kernel_rfl)
  exact se_int
  refine ss_cons ?_ ?_
  refine ss_asnL rfl (by kernel_rfl) ?_
  refine se_bin rfl ?_ ?_
  refine se_bin rfl ?_ ?_
  exact se_var (by kernel_rfl)
  refine se_bin rfl ?_ ?_
  refine se_bin rfl ?_ ?_
  exact se_var (by kernel_rfl)
  exact se_int
  exact se_powE rfl (by decide) (by decide)
  refine se_bin rfl ?_ ?_
  refine se_bin rfl ?_ ?_
  refine se_item rfl ?_ ?_
  exact se_var (by kernel_rfl)
  exact se_int
  exact se_var (by kernel_rfl)
  exact se_powE rfl (by decide) (by decide)
  exact ss_nil
  exact ss_nil
  refine ss_cons ?_ ?_
  refine ss_unp3 (by kernel_rfl) (by kernel_rfl) (by kernel_rfl) rfl (by kernel_rfl) rfl (by kernel_rfl) (by kernel_rfl) ?_
  refine se_tup ?_
  refine ses_cons (fun _ => rfl) ?_ ?_
  exact se_var (by kernel_rfl)
  refine ses_cons (fun _ => rfl) ?_ ?_
  exact se_var (by kernel_rfl)
  refine ses_cons (fun _ => rfl) ?_ ?_
  refine se_tup ?_
  refine ses_cons (fun _ => rfl) ?_ ?_
  exact se_int
  refine ses_cons (fun _ => rfl) ?_ ?_
  exact se_int
  refine ses_cons (fun _ => rfl) ?_ ?_
  exact se_int
  exact ses_nil
  exact ses_nil
  refine ss_cons ?_ ?_
  refine ss_for1L (by kernel_rfl) (by kernel_rfl) ⟨List.cons_ne_nil _ _, fun _ => rfl⟩ ?_ ?_
  refine ses_cons (fun _ => rfl) ?_ ?_
  refine se_bin rfl ?_ ?_
  refine se_bin rfl ?_ ?_
  refine se_bin rfl ?_ ?_
  exact se_var (by kernel_rfl)
  exact se_int
  exact se_int
  exact se_int
  exact ses_nil
  refine ss_cons ?_ ?_
  refine ss_asnL rfl (by kernel_rfl) ?_
  refine se_call hO (by kernel_rfl) ⟨List.cons_ne_nil _ _, fun _ => rfl⟩ (by kernel_rfl) ?_
  refine ses_cons (fun _ => rfl) ?_ ?_
  refine se_item rfl ?_ ?_
  exact se_var (by kernel_rfl)
  exact se_int
  refine ses_cons (fun _ => rfl) ?_ ?_
  exact se_var (by kernel_rfl)
  refine ses_cons (fun _ => rfl) ?_ ?_
  refine se_item rfl ?_ ?_
  exact se_var (by kernel_rfl)
  exact se_cel (by kernel_rfl)
  refine ses_cons (fun _ => rfl) ?_ ?_
  refine se_bin rfl ?_ ?_
  exact se_var (by kernel_rfl)
  exact se_int
  exact ses_nil
  refine ss_cons ?_ ?_
  refine ss_unp2 (by kernel_rfl) (by kernel_rfl) rfl (by kernel_rfl) rfl (by kernel_rfl) (by kernel_rfl) ?_
  refine se_tup ?_
  refine ses_cons (fun _ => rfl) ?_ ?_
  exact se_var (by kernel_rfl)
  refine ses_cons (fun _ => rfl) ?_ ?_
  refine se_tup ?_
  refine ses_cons (fun _ => rfl) ?_ ?_
  refine se_bin rfl ?_ ?_
  exact se_var (by kernel_rfl)
  exact se_int
  refine ses_cons (fun _ => rfl) ?_ ?_
  exact se_var (by kernel_rfl)
  refine ses_cons (fun _ => rfl) ?_ ?_
  refine se_call hO (by kernel_rfl) ⟨List.cons_ne_nil _ _, fun _ => rfl⟩ (by kernel_rfl) ?_
  refine ses_cons (fun _ => rfl) ?_ ?_
  refine se_item rfl ?_ ?_
  exact se_var (by kernel_rfl)
  exact se_int
  refine ses_cons (fun _ => rfl) ?_ ?_
  exact se_var (by kernel_rfl)
  refine ses_cons (fun _ => rfl) ?_ ?_
  refine se_item rfl ?_ ?_
  exact se_var (by kernel_rfl)
  exact se_cel (by kernel_rfl)
  refine ses_cons (fun _ => rfl) ?_ ?_
  exact se_var (by kernel_rfl)
  exact ses_nil
  exact ses_nil
  exact ses_nil
  refine ss_cons ?_ ?_
  refine ss_asnL rfl (by kernel_rfl) ?_
  refine se_ite ?_ ?_ ?_
  refine sb_cmp rfl ?_ ?_
  refine se_item rfl ?_ ?_
  exact se_var (by kernel_rfl)
  exact se_int
  refine se_item rfl ?_ ?_
  exact se_var (by kernel_rfl)
  exact se_int
  exact se_int
  refine se_ite ?_ ?_ ?_
  refine sb_cmp rfl ?_ ?_
  refine se_item rfl ?_ ?_
  exact se_var (by kernel_rfl)
  exact se_int
  refine se_item rfl ?_ ?_
  exact se_var (by kernel_rfl)
  exact se_int
  exact se_int
  exact se_int
  refine ss_cons ?_ ?_
  refine ss_ite ?_ ?_ ?_
  refine sb_cmp rfl ?_ ?_
  refine se_call hO (by kernel_rfl) ⟨List.cons_ne_nil _ _, fun _ => rfl⟩ (by kernel_rfl) ?_
  refine ses_cons (fun _ => rfl) ?_ ?_
  exact se_var (by kernel_rfl)
  refine ses_cons (fun _ => rfl) ?_ ?_
  refine se_bin rfl ?_ ?_
  exact se_var (by kernel_rfl)
  refine se_bin rfl ?_ ?_
  exact se_var (by kernel_rfl)
  exact se_var (by kernel_rfl)
  refine ses_cons (fun _ => rfl) ?_ ?_
  refine se_item rfl ?_ ?_
  exact se_var (by kernel_rfl)
  exact se_cel (by kernel_rfl)
  exact ses_nil
  exact se_var (by kernel_rfl)
  refine ss_cons ?_ ?_
  refine ss_ret ?_
  exact se_bool
  exact ss_nil
  exact ss_nil
  refine ss_cons ?_ ?_
  refine ss_asnL rfl (by kernel_rfl) ?_
  refine se_call hO (by kernel_rfl) ⟨List.cons_ne_nil _ _, fun _ => rfl⟩ (by kernel_rfl) ?_
  refine ses_cons (fun _ => rfl) ?_ ?_
  exact se_var (by kernel_rfl)
  refine ses_cons (fun _ => rfl) ?_ ?_
  exact se_var (by kernel_rfl)
  refine ses_cons (fun _ => rfl) ?_ ?_
  refine se_item rfl ?_ ?_
  exact se_var (by kernel_rfl)
  exact se_cel (by kernel_rfl)
  exact ses_nil
  refine ss_cons ?_ ?_
  refine ss_asnL rfl (by kernel_rfl) ?_
  refine se_call hO (by kernel_rfl) ⟨List.cons_ne_nil _ _, fun _ => rfl⟩ (by kernel_rfl) ?_
  refine ses_cons (fun _ => rfl) ?_ ?_
  exact se_var (by kernel_rfl)
  refine ses_cons (fun _ => rfl) ?_ ?_
  exact se_var (by kernel_rfl)
  refine ses_cons (fun _ => rfl) ?_ ?_
  exact se_var (by kernel_rfl)
  refine ses_cons (fun _ => rfl) ?_ ?_
  exact se_var (by kernel_rfl)
  refine ses_cons (fun _ => rfl) ?_ ?_
  refine se_item rfl ?_ ?_
  exact se_var (by kernel_rfl)
  exact se_cel (by kernel_rfl)
  refine ses_cons (fun _ => rfl) ?_ ?_
  exact se_var (by kernel_rfl)
  exact ses_nil
  refine ss_cons ?_ ?_
  refine ss_ite ?_ ?_ ?_
  refine sb_cmp rfl ?_ ?_
  refine se_compI (comp_of (by kernel_rfl)) rfl ?_ ?_
  exact se_var (by kernel_rfl)
  refine se_call hO (by kernel_rfl) ⟨List.cons_ne_nil _ _, fun _ => rfl⟩ (by kernel_rfl) ?_
  refine ses_cons (fun _ => rfl) ?_ ?_
  exact se_var (by kernel_rfl)
  exact ses_nil
  exact se_var (by kernel_rfl)
  refine ss_cons ?_ ?_
  refine ss_ret ?_
  exact se_bool
  exact ss_nil
  exact ss_nil
  refine ss_cons ?_ ?_
  refine ss_ite ?_ ?_ ?_
  refine sb_cmp rfl ?_ ?_
  refine se_tup ?_
  refine ses_cons (fun _ => rfl) ?_ ?_
  refine se_attrE (by kernel_rfl) rfl ?_
  refine se_item rfl ?_ ?_
  exact se_var (by kernel_rfl)
  exact se_var (by kernel_rfl)
  refine ses_cons (fun _ => rfl) ?_ ?_
  refine se_attrE (by kernel_rfl) rfl ?_
  refine se_item rfl ?_ ?_
  exact se_var (by kernel_rfl)
  exact se_var (by kernel_rfl)
  exact ses_nil
  exact se_var (by kernel_rfl)
  refine ss_cons ?_ ?_
  refine ss_ret ?_
  exact se_bool
  exact ss_nil
  exact ss_nil
  exact ss_nil
  refine ss_cons ?_ ?_
  refine ss_asnL rfl (by kernel_rfl) ?_
  refine se_bin rfl ?_ ?_
  exact se_var (by kernel_rfl)
  refine se_bin rfl ?_ ?_
  refine se_bin rfl ?_ ?_
  refine se_bin rfl ?_ ?_
  refine se_bin rfl ?_ ?_
  exact se_var (by kernel_rfl)
  exact se_int
  exact se_int
  exact se_int
  exact se_var (by kernel_rfl)
  exact ss_nil
  refine ss_cons ?_ ?_
  refine ss_ret ?_
  exact se_bool
  exact ss_nil
def tm31 : List S := [.forr 1 (.int 0) (.int 4) [.ite (.not (.call 271 [(.var 0), (.var 1)])) [.ret (.bool false)] []], .ret (.bool true)]
set_option maxRecDepth 100000 in
set_option maxHeartbeats 0 in
theorem ss31 (hO : OrcOK w l vs ns dd O) : SS w l vs ns dd O (rsAt 31) (bodyAt 31) (tm31) := by
  refine ss_cons ?_ ?_
  refine ss_for1L (by kernel_rfl) (by kernel_rfl) ⟨List.cons_ne_nil _ _, fun _ => rfl⟩ ?_ ?_
  refine ses_cons (fun _ => rfl) ?_ ?_
  exact se_int
  exact ses_nil
  refine ss_cons ?_ ?_
  refine ss_ite ?_ ?_ ?_
  refine sb_not ?_
  refine sb_call ?_
  refine se_call hO (by kernel_rfl) ⟨List.cons_ne_nil _ _, fun _ => rfl⟩ (by kernel_rfl) ?_
  refine ses_cons (fun _ => rfl) ?_ ?_
  exact se_var (by kernel_rfl)
  refine ses_cons (fun _ => rfl) ?_ ?_
  exact se_var (by kernel_rfl)
  exact ses_nil
  refine ss_cons ?_ ?_
  refine ss_ret ?_
  exact se_bool
  exact ss_nil
  exact ss_nil
  exact ss_nil
  refine ss_cons ?_ ?_
  refine ss_ret ?_
  exact se_bool
  exact ss_nil
end
end Mine
end
section
open PySem PySem.W PySem.Calls PyProof.Rows PySem.Spec
namespace Mine
section
variable {a b : Int} {x y : Str} {us vs : List V} {K : V → Prop} {C : Bool → Prop} {sg : Sto}
theorem bop_add : bop .add (.int a) (.int b) K = K (.int (a + b)) := rfl
theorem bop_sub : bop .sub (.int a) (.int b) K = K (.int (a - b)) := rfl
theorem bop_mul : bop .mul (.int a) (.int b) K = ((a.natAbs < 2 ^ 63 ∨ b.natAbs < 2 ^ 63) ∧ K (.int (a * b))) := rfl
theorem bop_fdiv : bop .fdiv (.int a) (.int b) K = ((b ≠ 0 ∧ b.natAbs < 2 ^ 63) ∧ K (.int (a.fdiv b))) := rfl
theorem bop_mod : bop .mod (.int a) (.int b) K = (b ≠ 0 ∧ K (.int (a.fmod b))) := rfl
theorem bop_tup : bop .add (.tup us) (.tup vs) K = ((us ≠ [] ∧ vs ≠ [] ∧ us.length + vs.length ≤ 16384) ∧ K (.tup (us ++ vs))) := rfl
theorem bcmp_lt : bcmp .lt (.int a) (.int b) C = C (decide (a < b)) := rfl
theorem bcmp_le : bcmp .le (.int a) (.int b) C = C (decide (a ≤ b)) := rfl
theorem bcmp_gt : bcmp .gt (.int a) (.int b) C = C (decide (b < a)) := rfl
theorem bcmp_ge : bcmp .ge (.int a) (.int b) C = C (decide (b ≤ a)) := rfl
theorem bcmp_eq : bcmp .eq (.int a) (.int b) C = C (decide (a = b)) := rfl
theorem bcmp_ne : bcmp .ne (.int a) (.int b) C = C (!decide (a = b)) := rfl
theorem bcmp_str : bcmp .eq (.str x) (.str y) C = C (x == y) := rfl
theorem bcmp_tup : bcmp .eq (.tup us) (.tup vs) C = ((okEq (.tup us) ∧ okEq (.tup vs)) ∧ C (veq (.tup us) (.tup vs))) := rfl
theorem bcmp_tupn : bcmp .ne (.tup us) (.tup vs) C = ((okEq (.tup us) ∧ okEq (.tup vs)) ∧ C (!veq (.tup us) (.tup vs))) := rfl
theorem bcmp_lst : bcmp .eq (.lst us) (.lst vs) C = ((okEq (.lst us) ∧ okEq (.lst vs)) ∧ C (veq (.lst us) (.lst vs))) := rfl
theorem bcmp_lstn : bcmp .ne (.lst us) (.lst vs) C = ((okEq (.lst us) ∧ okEq (.lst vs)) ∧ C (!veq (.lst us) (.lst vs))) := rfl
theorem biC_len : biC .len [.tup vs] sg K = (vs.length < 2 ^ 30 ∧ K (.int vs.length)) := rfl
theorem biC_lenl : biC .len [.lst vs] sg K = (vs.length < 2 ^ 30 ∧ K (.int vs.length)) := rfl
theorem biC_min : biC .min [.int a, .int b] sg K = K (.int (if b < a then b else a)) := rfl
theorem biC_max : biC .max [.int a, .int b] sg K = K (.int (if b > a then b else a)) := rfl
theorem biC_isi {b : Bool} {t : String} : biC .isi [.bool b, .raw (.type t)] sg K = (t = "bool" ∧ K (.bool true)) := rfl
theorem biC_list : biC .list [.tup vs] sg K = (vs.length < 2 ^ 20 ∧ K (.lst vs)) := rfl
end
abbrev sp (x : Str) (v : Int) : Str × Int := (x, v)
def secTab : List (Str × Int) := [sp "second" 1, sp "minute" 60, sp "hour" 3600, sp "day" 86400, sp "week" 604800]
structure Lim where
  ov : Bool
  rate : Int
  unit : Str
  sec : Int
  burst : Int
  oct : Bool
structure LimOK (L : Lim) : Prop where
  r2 : 2 ≤ L.rate
  r5 : L.rate ≤ 5001
  un : secTab.lookup L.unit = some L.sec
  s1 : 1 ≤ L.sec
  s6 : L.sec ≤ 604800
  b0 : 0 ≤ L.burst
  b3 : L.burst < 3000
  bp : L.oct = false → 1 ≤ L.burst ∧ L.burst ≤ 5
def Lim.span (L : Lim) : Int := L.sec * 10 ^ 9
def Lim.W (L : Lim) (len : Int) : Int := if L.oct then (L.span * len).fdiv L.rate else L.span.fdiv L.rate
def Lim.B (L : Lim) : Int := if L.oct then (L.span * (L.rate + L.burst)).fdiv L.rate else L.span.fdiv L.rate * L.burst
def limF (L : Lim) (T t : Int) : List (Nat × V) := [(2, .bool L.ov), (4, .int L.rate), (5, .str L.unit), (6, .int L.burst), (7, .bool L.oct), (8, .int L.span), (9, .int L.B), (10, .int T), (11, .int t)]
inductive Cell where
  | cnt (p o : Int)
  | quo (ov : Bool) (most used : Int)
  | lim (L : Lim) (T t : Int)
def Cell.oa : Cell → OA
  | .cnt p o => .inst 76 [(0, .int p), (1, .int o)]
  | .quo ov most used => .inst 98 [(2, .bool ov), (1, .int most), (3, .int used)]
  | .lim L T t => .inst 119 (limF L T t)
def limV (L : Lim) : V := .tup [.str "limit", .bool L.ov, .int L.rate, .str L.unit, .int L.burst, .bool L.oct]
def Cell.stm : Cell → V
  | .cnt p o => .tup [.str "counter", .int p, .int o]
  | .quo ov most used => .tup [.str "quota", .bool ov, .int most, .int used]
  | .lim L _ _ => limV L
def Cell.ok : Cell → Prop
  | .lim L _ _ => LimOK L
  | _ => True
def fill (L : Lim) (T t now : Int) : Int := if L.B < T + (now - t) * 10 ^ 6 then L.B else T + (now - t) * 10 ^ 6
def Cell.tell (now len : Int) : Cell → Bool
  | .cnt _ _ => true
  | .quo ov most used => if ov then decide (most ≤ used + len) else decide (used + len < most)
  | .lim L T t => if L.W len ≤ fill L T t now then !L.ov else L.ov
def Cell.next (now len : Int) : Cell → Cell
  | .cnt p o => .cnt (p + 1) (o + len)
  | .quo ov most used => .quo ov most (used + len)
  | .lim L T t => .lim L (if L.W len ≤ fill L T t now then fill L T t now - L.W len else fill L T t now) now
theorem LimOK.span1 {L : Lim} (h : LimOK L) : 0 < L.span ∧ L.span < 2 ^ 60 := by
  have := h.s1; have := h.s6
  unfold Lim.span
  constructor <;> omega
/-! the defs of the meters -/
def sp130 : Spc := fun as sg K => ∃ u s, as = [.str u] ∧ secTab.lookup u = some s ∧ K (.int s) sg
theorem w130 {O : Orc} {as sg K} (h : sp130 as sg K) : as.length = 1 ∧ wps O tm8 (as.map some) sg (fun fl _ sg' => K (fl.getD .none) sg') := by
  obtain ⟨u, s, rfl, h1, h2⟩ := h
  refine ⟨rfl, ?_⟩
  have h3 : (List.zip (["second", "minute", "hour", "day", "week"] : List Str) [V.int 1, V.int 60, V.int 3600, V.int 86400, V.int 604800]).lookup u = some (.int s) := by
    unfold secTab at h1
    simp only [List.zip_cons_cons, List.zip_nil_right, List.lookup_cons, sp] at h1 ⊢
    revert h1
    repeat' split
    all_goals simp
  simp only [tm8, wps, wps1, wpe, wpes, List.map, vget, h3]
  intro _; exact h2
def sp76 : Spc := fun as sg K => ∃ p o, as = [.int p, .int o] ∧ K (.obj sg.length) (sg ++ [(Cell.cnt p o).oa])
theorem get_last (sg : Sto) (x : OA) : (sg ++ [x])[sg.length]? = some x := by simp
theorem set_last (sg : Sto) (x y : OA) : (sg ++ [x]).set sg.length y = sg ++ [y] := by simp
theorem get_set {sg : Sto} {n : Nat} {x : OA} (h : sg[n]? = some x) (y : OA) : (sg.set n y)[n]? = some y := by
  rw [List.getElem?_set, if_pos rfl, if_pos (List.getElem?_eq_some_iff.mp h).1]
section
variable {P : Sto} {y : OA} {n x c : Nat} {v : V} {fs : List (Nat × V)}
theorem sset_at {K : Sto → Prop} (hn : P[n]? = some (.inst c fs)) (hc : c = 76 ∨ c = 98 ∨ c = 119) (hx : x < 12) (hl : fs.length < 100) (h : K (P.set n (.inst c (putF x v fs)))) : sset P x v (.obj n) K := by
  dsimp only [sset]
  rw [hn]
  exact ⟨⟨hc, hx, hl⟩, h⟩
theorem sset_set {K : Sto → Prop} (hp : P[n]? = some y) (hc : c = 76 ∨ c = 98 ∨ c = 119) (hx : x < 12) (hl : fs.length < 100) (h : K (P.set n (.inst c (putF x v fs)))) : sset (P.set n (.inst c fs)) x v (.obj n) K :=
  sset_at (get_set hp _) hc hx hl (by rw [List.set_set]; exact h)
theorem sattr_at {K : V → Prop} (hn : P[n]? = some (.inst c fs)) (hc : c = 76 ∨ c = 98 ∨ c = 119) (hx : x < 12) (hg : getF x fs = some v) (hv : notRaw v) (h : K v) : sattr P x (.obj n) K := by
  dsimp only [sattr]
  rw [hn]
  refine ⟨⟨hc, hx⟩, ?_⟩
  rw [hg]
  exact ⟨hv, h⟩
theorem sattr_set {K : V → Prop} (hp : P[n]? = some y) (hc : c = 76 ∨ c = 98 ∨ c = 119) (hx : x < 12) (hg : getF x fs = some v) (hv : notRaw v) (h : K v) : sattr (P.set n (.inst c fs)) x (.obj n) K :=
  sattr_at (get_set hp _) hc hx hg hv h
theorem isi_at {K : V → Prop} {a : Addr} (hn : P[n]? = some (.inst c fs)) (ha : a = 76 ∨ a = 98) (hc : c = 76 ∨ c = 98 ∨ c = 119) (h : K (.bool (decide (c = a)))) : biS P .isi [.obj n, .raw (.ref a)] K := by
  dsimp only [biS]
  rw [hn]
  exact ⟨⟨ha, hc⟩, h⟩
end
theorem w76 {O : Orc} {as sg K} (h : sp76 as sg K) : as.length + 1 = 3 ∧ wps O tm5 ((V.obj sg.length :: as).map some) (sg ++ [.inst 76 []]) (fun fl _ sg' => fl.getD .none = .none ∧ K (.obj sg.length) sg') := by
  obtain ⟨p, o, rfl, h1⟩ := h
  refine ⟨rfl, ?_⟩
  dsimp only [tm5, wps, wps1, wpe, wpes, wpt, vget, vput, List.map, Option.getD, bop, bcmp, asBool, biC]
  refine sset_at (get_last _ _) (.inl rfl) (by decide) (by decide) (sset_set (get_last _ _) (.inl rfl) (by decide) (Nat.le_of_ble_eq_true rfl) ?_)
  rw [set_last]
  exact ⟨rfl, h1⟩
def sp98 : Spc := fun as sg K => ∃ ov m u, as = [.bool ov, .int m, .int u] ∧ K (.obj sg.length) (sg ++ [(Cell.quo ov m u).oa])
theorem w98 {O : Orc} {as sg K} (h : sp98 as sg K) : as.length + 1 = 4 ∧ wps O tm6 ((V.obj sg.length :: as).map some) (sg ++ [.inst 98 []]) (fun fl _ sg' => fl.getD .none = .none ∧ K (.obj sg.length) sg') := by
  obtain ⟨ov, m, u, rfl, h1⟩ := h
  refine ⟨rfl, ?_⟩
  dsimp only [tm6, wps, wps1, wpe, wpes, wpt, vget, vput, List.map, Option.getD, bop, bcmp, asBool, biC]
  have c98 : 98 = 76 ∨ 98 = 98 ∨ 98 = 119 := .inr (.inl rfl)
  refine sset_at (get_last _ _) c98 (by decide) (by decide) (sset_set (get_last _ _) c98 (by decide) (Nat.le_of_ble_eq_true rfl) (sset_set (get_last _ _) c98 (by decide) (Nat.le_of_ble_eq_true rfl) ?_))
  rw [set_last]
  exact ⟨rfl, h1⟩
def sp119 : Spc := fun as sg K => ∃ L, LimOK L ∧ as = [.bool L.ov, .int L.rate, .str L.unit, .int L.burst, .bool L.oct] ∧ K (.obj sg.length) (sg ++ [(Cell.lim L L.B 0).oa])
theorem c119 : 119 = 76 ∨ 119 = 98 ∨ 119 = 119 := .inr (.inr rfl)
theorem w119 {O : Orc} (h130 : ∀ as sg K, sp130 as sg K → O 130 as sg K) {as sg K} (h : sp119 as sg K) : as.length + 1 = 6 ∧ wps O tm7 ((V.obj sg.length :: as).map some) (sg ++ [.inst 119 []]) (fun fl _ sg' => fl.getD .none = .none ∧ K (.obj sg.length) sg') := by
  obtain ⟨L, ok, rfl, h1⟩ := h
  refine ⟨rfl, ?_⟩
  have s2 := ok.span1
  have s1 := ok.s1
  have s6 := ok.s6
  have r2 := ok.r2
  have r5 := ok.r5
  have b0 := ok.b0
  have b3 := ok.b3
  have g := get_last sg (.inst 119 [])
  have hB : L.B = if L.oct then (L.span * (L.rate + L.burst)).fdiv L.rate else L.span.fdiv L.rate * L.burst := rfl
  dsimp only [tm7, wps, wps1, wpe, wpes, wpt, vget, vput, List.map, Option.getD, bop, bcmp, asBool, biC]
  refine sset_at g c119 (by decide) (by decide) (sset_set g c119 (by decide) (Nat.le_of_ble_eq_true rfl) (sset_set g c119 (by decide) (Nat.le_of_ble_eq_true rfl) (sset_set g c119 (by decide) (Nat.le_of_ble_eq_true rfl) (sset_set g c119 (by decide) (Nat.le_of_ble_eq_true rfl) ?_))))
  refine h130 _ _ _ ⟨L.unit, L.sec, rfl, ok.un, ⟨.inr (by decide), sset_set g c119 (by decide) (Nat.le_of_ble_eq_true rfl) ?_⟩⟩
  refine ⟨fun ho => ?_, fun ho => ?_⟩
  · have e : (L.sec * 10 ^ 9 * (L.rate + L.burst)).fdiv L.rate = L.B := by rw [hB, if_pos ho]; rfl
    refine sattr_set g c119 (by decide) rfl trivial ⟨.inr (by omega), ⟨by omega, by omega⟩, sset_set g c119 (by decide) (Nat.le_of_ble_eq_true rfl) (sattr_set g c119 (by decide) rfl trivial (sset_set g c119 (by decide) (Nat.le_of_ble_eq_true rfl) (sset_set g c119 (by decide) (Nat.le_of_ble_eq_true rfl) ?_)))⟩
    rw [set_last, e]
    exact ⟨rfl, h1⟩
  · have e : (L.sec * 10 ^ 9).fdiv L.rate * L.burst = L.B := by rw [hB, if_neg (by rw [ho]; decide)]; rfl
    refine sattr_set g c119 (by decide) rfl trivial ⟨⟨by omega, by omega⟩, .inr (by omega), sset_set g c119 (by decide) (Nat.le_of_ble_eq_true rfl) (sattr_set g c119 (by decide) rfl trivial (sset_set g c119 (by decide) (Nat.le_of_ble_eq_true rfl) (sset_set g c119 (by decide) (Nat.le_of_ble_eq_true rfl) ?_)))⟩
    rw [set_last, e]
    exact ⟨rfl, h1⟩
def sp144 : Spc := fun as sg K => ∃ n now len L T t, as = [.obj n, .int now, .int len] ∧ LimOK L ∧ sg[n]? = some (Cell.lim L T t).oa ∧ K (.bool ((Cell.lim L T t).tell now len)) (sg.set n ((Cell.lim L T t).next now len).oa)
def sp137 : Spc := fun as sg K => ∃ n len L T t, as = [.obj n, .int len] ∧ LimOK L ∧ sg[n]? = some (Cell.lim L T t).oa ∧ K (.int (L.W len)) sg
theorem w137 {O : Orc} {as sg K} (h : sp137 as sg K) : as.length = 2 ∧ wps O tm9 (as.map some) sg (fun fl _ sg' => K (fl.getD .none) sg') := by
  obtain ⟨n, len, L, T, t, rfl, ok, hn, h1⟩ := h
  refine ⟨rfl, ?_⟩
  have s2 := ok.span1
  have r2 := ok.r2
  have r5 := ok.r5
  dsimp only [tm9, wps, wps1, wpe, wpes, wpt, vget, vput, List.map, Option.getD, bop, bcmp, asBool, biC]
  refine sattr_at hn c119 (by decide) rfl trivial ⟨fun ho => sattr_at hn c119 (by decide) rfl trivial ⟨.inl (by omega), sattr_at hn c119 (by decide) rfl trivial ⟨⟨by omega, by omega⟩, ?_⟩⟩, fun ho => sattr_at hn c119 (by decide) rfl trivial (sattr_at hn c119 (by decide) rfl trivial ⟨⟨by omega, by omega⟩, ?_⟩)⟩
  · rw [show L.W len = _ from if_pos ho] at h1
    exact h1
  · rw [show L.W len = _ from if_neg (by rw [ho]; decide)] at h1
    exact h1
theorem bi_min {sg : Sto} {a b z : Int} {K : V → Prop} (e : (if b < a then b else a) = z) (h : K (.int z)) : biS sg .min [.int a, .int b] K := by subst e; exact h
theorem w144 {O : Orc} (h137 : ∀ as sg K, sp137 as sg K → O 137 as sg K) {as sg K} (h : sp144 as sg K) : as.length = 3 ∧ wps O tm10 (as.map some) sg (fun fl _ sg' => K (fl.getD .none) sg') := by
  obtain ⟨n, now, len, L, T, t, rfl, ok, hn, h1⟩ := h
  refine ⟨rfl, ?_⟩
  have ef : (if T + (now - t) * 10 ^ 6 < L.B then T + (now - t) * 10 ^ 6 else L.B) = fill L T t now := by
    unfold fill; split <;> split <;> omega
  dsimp only [tm10, wps, wps1, wpe, wpes, wpt, vget, vput, List.map, Option.getD, bop, bcmp, asBool, biC]
  refine sattr_at hn c119 (by decide) rfl trivial (sattr_at hn c119 (by decide) rfl trivial (sattr_at hn c119 (by decide) rfl trivial ⟨.inr (by decide), bi_min ef ?_⟩))
  refine sset_at hn c119 (by decide) (Nat.le_of_ble_eq_true rfl) (sset_set hn c119 (by decide) (Nat.le_of_ble_eq_true rfl) (h137 _ _ _ ⟨n, len, L, fill L T t now, now, rfl, ok, get_set hn _, ?_⟩))
  refine sattr_set hn c119 (by decide) rfl trivial ⟨fun hc => ?_, fun hc => ?_⟩
  · refine sattr_set hn c119 (by decide) rfl trivial ⟨trivial, sset_set hn c119 (by decide) (Nat.le_of_ble_eq_true rfl) (sattr_set hn c119 (by decide) rfl trivial ?_)⟩
    dsimp only [Cell.tell, Cell.next] at h1
    rw [if_pos (of_decide_eq_true hc), if_pos (of_decide_eq_true hc)] at h1
    exact h1
  · refine sattr_set hn c119 (by decide) rfl trivial ?_
    dsimp only [Cell.tell, Cell.next] at h1
    rw [if_neg (of_decide_eq_false hc), if_neg (of_decide_eq_false hc)] at h1
    exact h1
def sp151 : Spc := fun as sg K => ∃ n now len c, as = [.obj n, .int now, .int len] ∧ Cell.ok c ∧ sg[n]? = some c.oa ∧ K (.bool (c.tell now len)) (sg.set n (c.next now len).oa)
theorem c98 : 98 = 76 ∨ 98 = 98 ∨ 98 = 119 := .inr (.inl rfl)
theorem w151 {O : Orc} (h144 : ∀ as sg K, sp144 as sg K → O 144 as sg K) {as sg K} (h : sp151 as sg K) : as.length = 3 ∧ wps O tm11 (as.map some) sg (fun fl _ sg' => K (fl.getD .none) sg') := by
  obtain ⟨n, now, len, c, rfl, ok, hn, h1⟩ := h
  refine ⟨rfl, ?_⟩
  dsimp only [tm11, wps, wps1, wpe, wpes, wpt, vget, vput, List.map, Option.getD, bop, bcmp, asBool, biC]
  cases c with
  | cnt p o =>
    exact isi_at hn (.inl rfl) (.inl rfl) ⟨fun _ => sattr_at hn (.inl rfl) (by decide) rfl trivial ⟨trivial, sset_at hn (.inl rfl) (by decide) (Nat.le_of_ble_eq_true rfl) (sattr_set hn (.inl rfl) (by decide) rfl trivial ⟨trivial, sset_set hn (.inl rfl) (by decide) (Nat.le_of_ble_eq_true rfl) h1⟩)⟩, fun h => absurd h (by decide)⟩
  | quo ov most used =>
    refine isi_at hn (.inl rfl) c98 ⟨fun h => absurd h (by decide), fun _ => isi_at hn (.inr rfl) c98 ⟨fun _ => sattr_at hn c98 (by decide) rfl trivial ⟨trivial, sset_at hn c98 (by decide) (Nat.le_of_ble_eq_true rfl) (sattr_set hn c98 (by decide) rfl trivial ?_)⟩, fun h => absurd h (by decide)⟩⟩
    cases ov with
    | true => exact ⟨fun _ => sattr_set hn c98 (by decide) rfl trivial (sattr_set hn c98 (by decide) rfl trivial h1), fun h => (by cases h)⟩
    | false => exact ⟨fun h => (by cases h), fun _ => sattr_set hn c98 (by decide) rfl trivial (sattr_set hn c98 (by decide) rfl trivial h1)⟩
  | lim L T t =>
    exact isi_at hn (.inl rfl) c119 ⟨fun h => absurd h (by decide), fun _ => isi_at hn (.inr rfl) c119 ⟨fun h => absurd h (by decide), fun _ => h144 _ _ _ ⟨n, now, len, L, T, t, rfl, ok, hn, h1⟩⟩⟩
def sp172 : Spc := fun as sg K => ∃ n c, as = [.obj n] ∧ sg[n]? = some (Cell.oa c) ∧ K c.stm sg
theorem w172 {O : Orc} {as sg K} (h : sp172 as sg K) : as.length = 1 ∧ wps O tm14 (as.map some) sg (fun fl _ sg' => K (fl.getD .none) sg') := by
  obtain ⟨n, c, rfl, hn, h1⟩ := h
  refine ⟨rfl, ?_⟩
  dsimp only [tm14, wps, wps1, wpe, wpes, wpt, vget, vput, List.map, Option.getD, bop, bcmp, asBool, biC]
  cases c with
  | cnt p o =>
    exact isi_at hn (.inl rfl) (.inl rfl) ⟨fun _ => sattr_at hn (.inl rfl) (by decide) rfl trivial (sattr_at hn (.inl rfl) (by decide) rfl trivial ⟨Nat.le_of_ble_eq_true rfl, h1⟩), fun h => absurd h (by decide)⟩
  | quo ov most used =>
    exact isi_at hn (.inl rfl) c98 ⟨fun h => absurd h (by decide), fun _ => isi_at hn (.inr rfl) c98 ⟨fun _ => sattr_at hn c98 (by decide) rfl trivial (sattr_at hn c98 (by decide) rfl trivial (sattr_at hn c98 (by decide) rfl trivial ⟨Nat.le_of_ble_eq_true rfl, h1⟩)), fun h => absurd h (by decide)⟩⟩
  | lim L T t =>
    exact isi_at hn (.inl rfl) c119 ⟨fun h => absurd h (by decide), fun _ => isi_at hn (.inr rfl) c119 ⟨fun h => absurd h (by decide), fun _ => sattr_at hn c119 (by decide) rfl trivial (sattr_at hn c119 (by decide) rfl trivial (sattr_at hn c119 (by decide) rfl trivial (sattr_at hn c119 (by decide) rfl trivial (sattr_at hn c119 (by decide) rfl trivial ⟨Nat.le_of_ble_eq_true rfl, h1⟩))))⟩⟩
def sp158 : Spc := fun as sg K => ∃ L, LimOK L ∧ as = [.bool L.ov, .int L.rate, .str L.unit, .int L.burst, .bool L.oct] ∧ K (.obj sg.length) (sg ++ [(Cell.lim L L.B 0).oa])
theorem w158 {O : Orc} (h119 : ∀ as sg K, sp119 as sg K → O 119 as sg K) {as sg K} (h : sp158 as sg K) : as.length = 5 ∧ wps O tm12 (as.map some) sg (fun fl _ sg' => K (fl.getD .none) sg') := by
  obtain ⟨L, ok, rfl, h1⟩ := h
  refine ⟨rfl, ?_⟩
  have r2 := ok.r2
  have hr : ¬ L.rate = 0 := by omega
  dsimp only [tm12, List.cons_append, List.nil_append, List.getElem?_cons_zero, List.getElem?_cons_succ, List.getElem?_nil, bcmp_str, wps, wps1, wpe, wpes, wpt, wpMap, wpFor, wpForL, upto, rangeOf, bop_add, bop_sub, bop_mul, bop_fdiv, bop_mod, bop_tup, bcmp_lt, bcmp_le, bcmp_gt, bcmp_ge, bcmp_eq, bcmp_ne, bcmp_tup, bcmp_tupn, bcmp_lst, bcmp_lstn, biS, biC_len, biC_lenl, biC_min, biC_max, biC_isi, biC_list, bitem, storeItem, asBool, isNn, sattr, sset, sseti, sapp, notRaw, itemsOf, vget, vput, vputs, getF, putF, getK, List.map, List.map_cons, List.map_nil, List.length, List.length_cons, List.length_nil, Option.getD, Int.reduceToNat, Int.reduceSub, Int.reduceAdd, Int.reduceMul, Nat.reducePow, Nat.reduceSub, Nat.reduceAdd, Bool.not_true, Bool.not_false, List.reverse, List.reverseAux]
  refine ⟨fun h => absurd (of_decide_eq_true h) hr, fun _ => ⟨fun hb => ?_, fun _ => ⟨fun h => (by cases h), fun _ => h119 _ _ _ ⟨L, ok, rfl, h1⟩⟩⟩⟩
  refine ⟨fun ho => ?_, fun _ => h119 _ _ _ ⟨L, ok, rfl, h1⟩⟩
  have hb' := of_decide_eq_true hb
  rw [Bool.not_eq_true'] at ho
  have := ok.bp ho
  omega
/-- a cell as it is made -/
inductive Fresh : V → Cell → Prop
  | cnt (p o : Int) : Fresh (Cell.cnt p o).stm (.cnt p o)
  | quo (ov : Bool) (m u : Int) : Fresh (Cell.quo ov m u).stm (.quo ov m u)
  | lim (L : Lim) : LimOK L → Fresh (limV L) (.lim L L.B 0)
theorem sne_c_q : ((Str.ofString "counter" : Str) == Str.ofString "quota") = false := by decide +kernel
theorem sne_c_l : ((Str.ofString "counter" : Str) == Str.ofString "limit") = false := by decide +kernel
theorem sne_c_n : ((Str.ofString "counter" : Str) == Str.ofString "notrack") = false := by decide +kernel
theorem sne_c_v : ((Str.ofString "counter" : Str) == Str.ofString "verdict") = false := by decide +kernel
theorem sne_c_d : ((Str.ofString "counter" : Str) == Str.ofString "dynset") = false := by decide +kernel
theorem sne_q_c : ((Str.ofString "quota" : Str) == Str.ofString "counter") = false := by decide +kernel
theorem sne_q_l : ((Str.ofString "quota" : Str) == Str.ofString "limit") = false := by decide +kernel
theorem sne_q_n : ((Str.ofString "quota" : Str) == Str.ofString "notrack") = false := by decide +kernel
theorem sne_q_v : ((Str.ofString "quota" : Str) == Str.ofString "verdict") = false := by decide +kernel
theorem sne_q_d : ((Str.ofString "quota" : Str) == Str.ofString "dynset") = false := by decide +kernel
theorem sne_l_c : ((Str.ofString "limit" : Str) == Str.ofString "counter") = false := by decide +kernel
theorem sne_l_q : ((Str.ofString "limit" : Str) == Str.ofString "quota") = false := by decide +kernel
theorem sne_l_n : ((Str.ofString "limit" : Str) == Str.ofString "notrack") = false := by decide +kernel
theorem sne_l_v : ((Str.ofString "limit" : Str) == Str.ofString "verdict") = false := by decide +kernel
theorem sne_l_d : ((Str.ofString "limit" : Str) == Str.ofString "dynset") = false := by decide +kernel
theorem sne_n_c : ((Str.ofString "notrack" : Str) == Str.ofString "counter") = false := by decide +kernel
theorem sne_n_q : ((Str.ofString "notrack" : Str) == Str.ofString "quota") = false := by decide +kernel
theorem sne_n_l : ((Str.ofString "notrack" : Str) == Str.ofString "limit") = false := by decide +kernel
theorem sne_n_v : ((Str.ofString "notrack" : Str) == Str.ofString "verdict") = false := by decide +kernel
theorem sne_n_d : ((Str.ofString "notrack" : Str) == Str.ofString "dynset") = false := by decide +kernel
theorem sne_v_c : ((Str.ofString "verdict" : Str) == Str.ofString "counter") = false := by decide +kernel
theorem sne_v_q : ((Str.ofString "verdict" : Str) == Str.ofString "quota") = false := by decide +kernel
theorem sne_v_l : ((Str.ofString "verdict" : Str) == Str.ofString "limit") = false := by decide +kernel
theorem sne_v_n : ((Str.ofString "verdict" : Str) == Str.ofString "notrack") = false := by decide +kernel
theorem sne_v_d : ((Str.ofString "verdict" : Str) == Str.ofString "dynset") = false := by decide +kernel
theorem sne_d_c : ((Str.ofString "dynset" : Str) == Str.ofString "counter") = false := by decide +kernel
theorem sne_d_q : ((Str.ofString "dynset" : Str) == Str.ofString "quota") = false := by decide +kernel
theorem sne_d_l : ((Str.ofString "dynset" : Str) == Str.ofString "limit") = false := by decide +kernel
theorem sne_d_n : ((Str.ofString "dynset" : Str) == Str.ofString "notrack") = false := by decide +kernel
theorem sne_d_v : ((Str.ofString "dynset" : Str) == Str.ofString "verdict") = false := by decide +kernel
def sp165 : Spc := fun as sg K => ∃ v, as = [v] ∧ ((∃ c, Fresh v c ∧ K (.obj sg.length) (sg ++ [c.oa])) ∨ ((v = .tup [.str "notrack"] ∨ v = .tup [.str "verdict", .tup [.str "accept", .str ""]]) ∧ K .none sg))
theorem w165 {O : Orc} (h76 : ∀ as sg K, sp76 as sg K → O 76 as sg K) (h98 : ∀ as sg K, sp98 as sg K → O 98 as sg K) (h158 : ∀ as sg K, sp158 as sg K → O 158 as sg K) {as sg K} (h : sp165 as sg K) : as.length = 1 ∧ wps O tm13 (as.map some) sg (fun fl _ sg' => K (fl.getD .none) sg') := by
  obtain ⟨v, rfl, h⟩ := h
  refine ⟨rfl, ?_⟩
  rcases h with ⟨c, hf, h1⟩ | ⟨rfl | rfl, h1⟩
  · cases hf with
    | cnt p o =>
      dsimp only [tm13, Cell.stm, List.cons_append, List.nil_append, List.getElem?_cons_zero, List.getElem?_cons_succ, List.getElem?_nil, bcmp_str, wps, wps1, wpe, wpes, wpt, wpMap, wpFor, wpForL, upto, rangeOf, bop_add, bop_sub, bop_mul, bop_fdiv, bop_mod, bop_tup, bcmp_lt, bcmp_le, bcmp_gt, bcmp_ge, bcmp_eq, bcmp_ne, bcmp_tup, bcmp_tupn, bcmp_lst, bcmp_lstn, biS, biC_len, biC_lenl, biC_min, biC_max, biC_isi, biC_list, bitem, storeItem, asBool, isNn, sattr, sset, sseti, sapp, notRaw, itemsOf, vget, vput, vputs, getF, putF, getK, List.map, List.map_cons, List.map_nil, List.length, List.length_cons, List.length_nil, Option.getD, Int.reduceToNat, Int.reduceSub, Int.reduceAdd, Int.reduceMul, Nat.reducePow, Nat.reduceSub, Nat.reduceAdd, Bool.not_true, Bool.not_false, List.reverse, List.reverseAux]
      repeat' (first | refine ⟨fun h => absurd h (by decide +kernel), fun _ => ?_⟩ | refine ⟨fun _ => ?_, fun h => absurd h (by decide +kernel)⟩ | refine ⟨by decide, ?_⟩ | fail)
      exact h76 _ _ _ ⟨p, o, rfl, h1⟩
    | quo ov m u =>
      dsimp only [tm13, Cell.stm, List.cons_append, List.nil_append, List.getElem?_cons_zero, List.getElem?_cons_succ, List.getElem?_nil, bcmp_str, wps, wps1, wpe, wpes, wpt, wpMap, wpFor, wpForL, upto, rangeOf, bop_add, bop_sub, bop_mul, bop_fdiv, bop_mod, bop_tup, bcmp_lt, bcmp_le, bcmp_gt, bcmp_ge, bcmp_eq, bcmp_ne, bcmp_tup, bcmp_tupn, bcmp_lst, bcmp_lstn, biS, biC_len, biC_lenl, biC_min, biC_max, biC_isi, biC_list, bitem, storeItem, asBool, isNn, sattr, sset, sseti, sapp, notRaw, itemsOf, vget, vput, vputs, getF, putF, getK, List.map, List.map_cons, List.map_nil, List.length, List.length_cons, List.length_nil, Option.getD, Int.reduceToNat, Int.reduceSub, Int.reduceAdd, Int.reduceMul, Nat.reducePow, Nat.reduceSub, Nat.reduceAdd, Bool.not_true, Bool.not_false, List.reverse, List.reverseAux]
      repeat' (first | refine ⟨fun h => absurd h (by decide +kernel), fun _ => ?_⟩ | refine ⟨fun _ => ?_, fun h => absurd h (by decide +kernel)⟩ | refine ⟨by decide, ?_⟩ | fail)
      exact h98 _ _ _ ⟨ov, m, u, rfl, h1⟩
    | lim L ok =>
      dsimp only [tm13, limV, List.cons_append, List.nil_append, List.getElem?_cons_zero, List.getElem?_cons_succ, List.getElem?_nil, bcmp_str, wps, wps1, wpe, wpes, wpt, wpMap, wpFor, wpForL, upto, rangeOf, bop_add, bop_sub, bop_mul, bop_fdiv, bop_mod, bop_tup, bcmp_lt, bcmp_le, bcmp_gt, bcmp_ge, bcmp_eq, bcmp_ne, bcmp_tup, bcmp_tupn, bcmp_lst, bcmp_lstn, biS, biC_len, biC_lenl, biC_min, biC_max, biC_isi, biC_list, bitem, storeItem, asBool, isNn, sattr, sset, sseti, sapp, notRaw, itemsOf, vget, vput, vputs, getF, putF, getK, List.map, List.map_cons, List.map_nil, List.length, List.length_cons, List.length_nil, Option.getD, Int.reduceToNat, Int.reduceSub, Int.reduceAdd, Int.reduceMul, Nat.reducePow, Nat.reduceSub, Nat.reduceAdd, Bool.not_true, Bool.not_false, List.reverse, List.reverseAux]
      repeat' (first | refine ⟨fun h => absurd h (by decide +kernel), fun _ => ?_⟩ | refine ⟨fun _ => ?_, fun h => absurd h (by decide +kernel)⟩ | refine ⟨by decide, ?_⟩ | fail)
      exact h158 _ _ _ ⟨L, ok, rfl, h1⟩
  · dsimp only [tm13, List.cons_append, List.nil_append, List.getElem?_cons_zero, List.getElem?_cons_succ, List.getElem?_nil, bcmp_str, wps, wps1, wpe, wpes, wpt, wpMap, wpFor, wpForL, upto, rangeOf, bop_add, bop_sub, bop_mul, bop_fdiv, bop_mod, bop_tup, bcmp_lt, bcmp_le, bcmp_gt, bcmp_ge, bcmp_eq, bcmp_ne, bcmp_tup, bcmp_tupn, bcmp_lst, bcmp_lstn, biS, biC_len, biC_lenl, biC_min, biC_max, biC_isi, biC_list, bitem, storeItem, asBool, isNn, sattr, sset, sseti, sapp, notRaw, itemsOf, vget, vput, vputs, getF, putF, getK, List.map, List.map_cons, List.map_nil, List.length, List.length_cons, List.length_nil, Option.getD, Int.reduceToNat, Int.reduceSub, Int.reduceAdd, Int.reduceMul, Nat.reducePow, Nat.reduceSub, Nat.reduceAdd, Bool.not_true, Bool.not_false, List.reverse, List.reverseAux]
    repeat' (first | refine ⟨fun h => absurd h (by decide +kernel), fun _ => ?_⟩ | refine ⟨fun _ => ?_, fun h => absurd h (by decide +kernel)⟩ | refine ⟨by decide, ?_⟩ | fail)
    exact h1
  · dsimp only [tm13, List.cons_append, List.nil_append, List.getElem?_cons_zero, List.getElem?_cons_succ, List.getElem?_nil, bcmp_str, wps, wps1, wpe, wpes, wpt, wpMap, wpFor, wpForL, upto, rangeOf, bop_add, bop_sub, bop_mul, bop_fdiv, bop_mod, bop_tup, bcmp_lt, bcmp_le, bcmp_gt, bcmp_ge, bcmp_eq, bcmp_ne, bcmp_tup, bcmp_tupn, bcmp_lst, bcmp_lstn, biS, biC_len, biC_lenl, biC_min, biC_max, biC_isi, biC_list, bitem, storeItem, asBool, isNn, sattr, sset, sseti, sapp, notRaw, itemsOf, vget, vput, vputs, getF, putF, getK, List.map, List.map_cons, List.map_nil, List.length, List.length_cons, List.length_nil, Option.getD, Int.reduceToNat, Int.reduceSub, Int.reduceAdd, Int.reduceMul, Nat.reducePow, Nat.reduceSub, Nat.reduceAdd, Bool.not_true, Bool.not_false, List.reverse, List.reverseAux]
    repeat' (first | refine ⟨fun h => absurd h (by decide +kernel), fun _ => ?_⟩ | refine ⟨fun _ => ?_, fun h => absurd h (by decide +kernel)⟩ | refine ⟨by decide, ?_⟩ | fail)
    exact h1
end Mine
end
section
open PySem PySem.W PySem.Calls PyProof.Rows PySem.Spec
namespace Mine
section
variable {O : Orc} {as : List V} {sg : Sto} {K : V → Sto → Prop} {l : Addr} {ns : List Int}
def scr (l : Addr) : V := .raw (.ref l)
def sp186 (l : Addr) : Spc := fun as sg K => ∃ i, as = [scr l, .int i] ∧ 0 ≤ i ∧ ∀ d : Int, K (.int d) sg
theorem w186 (h : sp186 l as sg K) : as.length = 2 ∧ wps O (tm17 l ns) (as.map some) sg (fun fl _ sg' => K (fl.getD .none) sg') := by
  obtain ⟨i, rfl, h0, h1⟩ := h
  refine ⟨rfl, ?_⟩
  simp only [tm17, wps, wps1, digP, List.map, vget]
  exact ⟨i, rfl, rfl, h0, h1 _⟩
theorem fmod_rng (a : Int) {b : Int} (h : 0 < b) : 0 ≤ a.fmod b ∧ a.fmod b < b := ⟨Int.fmod_nonneg_of_pos a h, Int.fmod_lt_of_pos a h⟩
theorem five {e : Int} (h0 : 0 ≤ e) (h5 : e < 5) : e = 0 ∨ e = 1 ∨ e = 2 ∨ e = 3 ∨ e = 4 := by omega
theorem unit_at {e : Int} (h0 : 0 ≤ e) (h5 : e < 5) : ∃ u s, secTab.lookup u = some s ∧ 1 ≤ s ∧ s ≤ 604800 ∧ ([V.str (Str.ofString "second"), V.str (Str.ofString "minute"), V.str (Str.ofString "hour"), V.str (Str.ofString "day"), V.str (Str.ofString "week")] : List V)[e.toNat]? = some (.str u) := by
  rcases five h0 h5 with rfl | rfl | rfl | rfl | rfl
  · exact ⟨_, 1, by decide +kernel, by decide, by decide, rfl⟩
  · exact ⟨_, 60, by decide +kernel, by decide, by decide, rfl⟩
  · exact ⟨_, 3600, by decide +kernel, by decide, by decide, rfl⟩
  · exact ⟨_, 86400, by decide +kernel, by decide, by decide, rfl⟩
  · exact ⟨_, 604800, by decide +kernel, by decide, by decide, rfl⟩
theorem int4_at {a b c d j : Int} (h0 : 0 ≤ j) (h3 : j ≤ 3) : ∃ x, ([V.int a, V.int b, V.int c, V.int d] : List V)[j.toNat]? = some (.int x) := by
  have : j = 0 ∨ j = 1 ∨ j = 2 ∨ j = 3 := by omega
  rcases this with rfl | rfl | rfl | rfl <;> exact ⟨_, rfl⟩
def sp191 (l : Addr) : Spc := fun as sg K => ∃ j : Int, as = [scr l, .int j] ∧ 0 ≤ j ∧ j ≤ 3 ∧ ∀ L, LimOK L → K (limV L) sg
theorem w191 (h186 : ∀ as sg K, sp186 l as sg K → O 186 as sg K) (h : sp191 l as sg K) : as.length = 2 ∧ wps O tm18 (as.map some) sg (fun fl _ sg' => K (fl.getD .none) sg') := by
  obtain ⟨j, rfl, j0, j3, h1⟩ := h
  refine ⟨rfl, ?_⟩
  have e3 : upto 0 (3 - 0 : Int).toNat = [0, 1, 2] := rfl
  (first | (dsimp only [tm18, List.cons_append, List.nil_append, List.getElem?_cons_zero, List.getElem?_cons_succ, List.getElem?_nil, bcmp_str, wps, wps1, wpe, wpes, wpt, wpMap, wpFor, wpForL, upto, rangeOf, bop_add, bop_sub, bop_mul, bop_fdiv, bop_mod, bop_tup, bcmp_lt, bcmp_le, bcmp_gt, bcmp_ge, bcmp_eq, bcmp_ne, bcmp_tup, bcmp_tupn, bcmp_lst, bcmp_lstn, biS, biC_len, biC_lenl, biC_min, biC_max, biC_isi, biC_list, bitem, storeItem, asBool, isNn, sattr, sset, sseti, sapp, notRaw, itemsOf, vget, vput, vputs, getF, putF, getK, List.map, List.map_cons, List.map_nil, List.length, List.length_cons, List.length_nil, Option.getD, Int.reduceToNat, Int.reduceSub, Int.reduceAdd, Int.reduceMul, Nat.reducePow, Nat.reduceSub, Nat.reduceAdd, Bool.not_true, Bool.not_false]; try simp only [tm18, e3, List.cons_append, List.nil_append, List.getElem?_cons_zero, List.getElem?_cons_succ, List.getElem?_nil, bcmp_str, wps, wps1, wpe, wpes, wpt, wpMap, wpFor, wpForL, upto, rangeOf, bop_add, bop_sub, bop_mul, bop_fdiv, bop_mod, bop_tup, bcmp_lt, bcmp_le, bcmp_gt, bcmp_ge, bcmp_eq, bcmp_ne, bcmp_tup, bcmp_tupn, bcmp_lst, bcmp_lstn, biS, biC_len, biC_lenl, biC_min, biC_max, biC_isi, biC_list, bitem, storeItem, asBool, isNn, sattr, sset, sseti, sapp, notRaw, itemsOf, vget, vput, vputs, getF, putF, getK, List.map, List.map_cons, List.map_nil, List.length, List.length_cons, List.length_nil, Option.getD, Int.reduceToNat, Int.reduceSub, Int.reduceAdd, Int.reduceMul, Nat.reducePow, Nat.reduceSub, Nat.reduceAdd, Bool.not_true, Bool.not_false, List.length_append, Int.reduceLE, Int.reduceLT, Int.toNat_zero, Int.toNat_one, Int.le_refl, beq_self_eq_true, get_last, set_last, Nat.reduceEqDiff, Nat.reduceLT, Nat.reduceLeDiff, if_true, if_false, reduceIte, reduceCtorEq, true_and, and_true, or_true, true_or, or_false, false_or, or_self, and_self, forall_const, Bool.true_eq_false, Bool.false_eq_true, false_implies, true_implies, decide_true, decide_false]) | simp only [tm18, e3, List.cons_append, List.nil_append, List.getElem?_cons_zero, List.getElem?_cons_succ, List.getElem?_nil, bcmp_str, wps, wps1, wpe, wpes, wpt, wpMap, wpFor, wpForL, upto, rangeOf, bop_add, bop_sub, bop_mul, bop_fdiv, bop_mod, bop_tup, bcmp_lt, bcmp_le, bcmp_gt, bcmp_ge, bcmp_eq, bcmp_ne, bcmp_tup, bcmp_tupn, bcmp_lst, bcmp_lstn, biS, biC_len, biC_lenl, biC_min, biC_max, biC_isi, biC_list, bitem, storeItem, asBool, isNn, sattr, sset, sseti, sapp, notRaw, itemsOf, vget, vput, vputs, getF, putF, getK, List.map, List.map_cons, List.map_nil, List.length, List.length_cons, List.length_nil, Option.getD, Int.reduceToNat, Int.reduceSub, Int.reduceAdd, Int.reduceMul, Nat.reducePow, Nat.reduceSub, Nat.reduceAdd, Bool.not_true, Bool.not_false, List.length_append, Int.reduceLE, Int.reduceLT, Int.toNat_zero, Int.toNat_one, Int.le_refl, beq_self_eq_true, get_last, set_last, Nat.reduceEqDiff, Nat.reduceLT, Nat.reduceLeDiff, if_true, if_false, reduceIte, reduceCtorEq, true_and, and_true, or_true, true_or, or_false, false_or, or_self, and_self, forall_const, Bool.true_eq_false, Bool.false_eq_true, false_implies, true_implies, decide_true, decide_false])
  refine ⟨by decide, by omega, h186 _ _ _ ⟨12 * j + 0, rfl, by omega, fun d0 => ?_⟩⟩
  (first | (dsimp only [List.cons_append, List.nil_append, List.getElem?_cons_zero, List.getElem?_cons_succ, List.getElem?_nil, bcmp_str, wps, wps1, wpe, wpes, wpt, wpMap, wpFor, wpForL, upto, rangeOf, bop_add, bop_sub, bop_mul, bop_fdiv, bop_mod, bop_tup, bcmp_lt, bcmp_le, bcmp_gt, bcmp_ge, bcmp_eq, bcmp_ne, bcmp_tup, bcmp_tupn, bcmp_lst, bcmp_lstn, biS, biC_len, biC_lenl, biC_min, biC_max, biC_isi, biC_list, bitem, storeItem, asBool, isNn, sattr, sset, sseti, sapp, notRaw, itemsOf, vget, vput, vputs, getF, putF, getK, List.map, List.map_cons, List.map_nil, List.length, List.length_cons, List.length_nil, Option.getD, Int.reduceToNat, Int.reduceSub, Int.reduceAdd, Int.reduceMul, Nat.reducePow, Nat.reduceSub, Nat.reduceAdd, Bool.not_true, Bool.not_false]; try simp only [List.cons_append, List.nil_append, List.getElem?_cons_zero, List.getElem?_cons_succ, List.getElem?_nil, bcmp_str, wps, wps1, wpe, wpes, wpt, wpMap, wpFor, wpForL, upto, rangeOf, bop_add, bop_sub, bop_mul, bop_fdiv, bop_mod, bop_tup, bcmp_lt, bcmp_le, bcmp_gt, bcmp_ge, bcmp_eq, bcmp_ne, bcmp_tup, bcmp_tupn, bcmp_lst, bcmp_lstn, biS, biC_len, biC_lenl, biC_min, biC_max, biC_isi, biC_list, bitem, storeItem, asBool, isNn, sattr, sset, sseti, sapp, notRaw, itemsOf, vget, vput, vputs, getF, putF, getK, List.map, List.map_cons, List.map_nil, List.length, List.length_cons, List.length_nil, Option.getD, Int.reduceToNat, Int.reduceSub, Int.reduceAdd, Int.reduceMul, Nat.reducePow, Nat.reduceSub, Nat.reduceAdd, Bool.not_true, Bool.not_false, List.length_append, Int.reduceLE, Int.reduceLT, Int.toNat_zero, Int.toNat_one, Int.le_refl, beq_self_eq_true, get_last, set_last, Nat.reduceEqDiff, Nat.reduceLT, Nat.reduceLeDiff, if_true, if_false, reduceIte, reduceCtorEq, true_and, and_true, or_true, true_or, or_false, false_or, or_self, and_self, forall_const, Bool.true_eq_false, Bool.false_eq_true, false_implies, true_implies, decide_true, decide_false]) | simp only [List.cons_append, List.nil_append, List.getElem?_cons_zero, List.getElem?_cons_succ, List.getElem?_nil, bcmp_str, wps, wps1, wpe, wpes, wpt, wpMap, wpFor, wpForL, upto, rangeOf, bop_add, bop_sub, bop_mul, bop_fdiv, bop_mod, bop_tup, bcmp_lt, bcmp_le, bcmp_gt, bcmp_ge, bcmp_eq, bcmp_ne, bcmp_tup, bcmp_tupn, bcmp_lst, bcmp_lstn, biS, biC_len, biC_lenl, biC_min, biC_max, biC_isi, biC_list, bitem, storeItem, asBool, isNn, sattr, sset, sseti, sapp, notRaw, itemsOf, vget, vput, vputs, getF, putF, getK, List.map, List.map_cons, List.map_nil, List.length, List.length_cons, List.length_nil, Option.getD, Int.reduceToNat, Int.reduceSub, Int.reduceAdd, Int.reduceMul, Nat.reducePow, Nat.reduceSub, Nat.reduceAdd, Bool.not_true, Bool.not_false, List.length_append, Int.reduceLE, Int.reduceLT, Int.toNat_zero, Int.toNat_one, Int.le_refl, beq_self_eq_true, get_last, set_last, Nat.reduceEqDiff, Nat.reduceLT, Nat.reduceLeDiff, if_true, if_false, reduceIte, reduceCtorEq, true_and, and_true, or_true, true_or, or_false, false_or, or_self, and_self, forall_const, Bool.true_eq_false, Bool.false_eq_true, false_implies, true_implies, decide_true, decide_false])
  refine ⟨by omega, h186 _ _ _ ⟨12 * j + 1, rfl, by omega, fun d1 => ?_⟩⟩
  (first | (dsimp only [List.cons_append, List.nil_append, List.getElem?_cons_zero, List.getElem?_cons_succ, List.getElem?_nil, bcmp_str, wps, wps1, wpe, wpes, wpt, wpMap, wpFor, wpForL, upto, rangeOf, bop_add, bop_sub, bop_mul, bop_fdiv, bop_mod, bop_tup, bcmp_lt, bcmp_le, bcmp_gt, bcmp_ge, bcmp_eq, bcmp_ne, bcmp_tup, bcmp_tupn, bcmp_lst, bcmp_lstn, biS, biC_len, biC_lenl, biC_min, biC_max, biC_isi, biC_list, bitem, storeItem, asBool, isNn, sattr, sset, sseti, sapp, notRaw, itemsOf, vget, vput, vputs, getF, putF, getK, List.map, List.map_cons, List.map_nil, List.length, List.length_cons, List.length_nil, Option.getD, Int.reduceToNat, Int.reduceSub, Int.reduceAdd, Int.reduceMul, Nat.reducePow, Nat.reduceSub, Nat.reduceAdd, Bool.not_true, Bool.not_false]; try simp only [List.cons_append, List.nil_append, List.getElem?_cons_zero, List.getElem?_cons_succ, List.getElem?_nil, bcmp_str, wps, wps1, wpe, wpes, wpt, wpMap, wpFor, wpForL, upto, rangeOf, bop_add, bop_sub, bop_mul, bop_fdiv, bop_mod, bop_tup, bcmp_lt, bcmp_le, bcmp_gt, bcmp_ge, bcmp_eq, bcmp_ne, bcmp_tup, bcmp_tupn, bcmp_lst, bcmp_lstn, biS, biC_len, biC_lenl, biC_min, biC_max, biC_isi, biC_list, bitem, storeItem, asBool, isNn, sattr, sset, sseti, sapp, notRaw, itemsOf, vget, vput, vputs, getF, putF, getK, List.map, List.map_cons, List.map_nil, List.length, List.length_cons, List.length_nil, Option.getD, Int.reduceToNat, Int.reduceSub, Int.reduceAdd, Int.reduceMul, Nat.reducePow, Nat.reduceSub, Nat.reduceAdd, Bool.not_true, Bool.not_false, List.length_append, Int.reduceLE, Int.reduceLT, Int.toNat_zero, Int.toNat_one, Int.le_refl, beq_self_eq_true, get_last, set_last, Nat.reduceEqDiff, Nat.reduceLT, Nat.reduceLeDiff, if_true, if_false, reduceIte, reduceCtorEq, true_and, and_true, or_true, true_or, or_false, false_or, or_self, and_self, forall_const, Bool.true_eq_false, Bool.false_eq_true, false_implies, true_implies, decide_true, decide_false]) | simp only [List.cons_append, List.nil_append, List.getElem?_cons_zero, List.getElem?_cons_succ, List.getElem?_nil, bcmp_str, wps, wps1, wpe, wpes, wpt, wpMap, wpFor, wpForL, upto, rangeOf, bop_add, bop_sub, bop_mul, bop_fdiv, bop_mod, bop_tup, bcmp_lt, bcmp_le, bcmp_gt, bcmp_ge, bcmp_eq, bcmp_ne, bcmp_tup, bcmp_tupn, bcmp_lst, bcmp_lstn, biS, biC_len, biC_lenl, biC_min, biC_max, biC_isi, biC_list, bitem, storeItem, asBool, isNn, sattr, sset, sseti, sapp, notRaw, itemsOf, vget, vput, vputs, getF, putF, getK, List.map, List.map_cons, List.map_nil, List.length, List.length_cons, List.length_nil, Option.getD, Int.reduceToNat, Int.reduceSub, Int.reduceAdd, Int.reduceMul, Nat.reducePow, Nat.reduceSub, Nat.reduceAdd, Bool.not_true, Bool.not_false, List.length_append, Int.reduceLE, Int.reduceLT, Int.toNat_zero, Int.toNat_one, Int.le_refl, beq_self_eq_true, get_last, set_last, Nat.reduceEqDiff, Nat.reduceLT, Nat.reduceLeDiff, if_true, if_false, reduceIte, reduceCtorEq, true_and, and_true, or_true, true_or, or_false, false_or, or_self, and_self, forall_const, Bool.true_eq_false, Bool.false_eq_true, false_implies, true_implies, decide_true, decide_false])
  refine ⟨by omega, h186 _ _ _ ⟨12 * j + 2, rfl, by omega, fun d2 => ?_⟩⟩
  (first | (dsimp only [vputs, List.cons_append, List.nil_append, List.getElem?_cons_zero, List.getElem?_cons_succ, List.getElem?_nil, bcmp_str, wps, wps1, wpe, wpes, wpt, wpMap, wpFor, wpForL, upto, rangeOf, bop_add, bop_sub, bop_mul, bop_fdiv, bop_mod, bop_tup, bcmp_lt, bcmp_le, bcmp_gt, bcmp_ge, bcmp_eq, bcmp_ne, bcmp_tup, bcmp_tupn, bcmp_lst, bcmp_lstn, biS, biC_len, biC_lenl, biC_min, biC_max, biC_isi, biC_list, bitem, storeItem, asBool, isNn, sattr, sset, sseti, sapp, notRaw, itemsOf, vget, vput, vputs, getF, putF, getK, List.map, List.map_cons, List.map_nil, List.length, List.length_cons, List.length_nil, Option.getD, Int.reduceToNat, Int.reduceSub, Int.reduceAdd, Int.reduceMul, Nat.reducePow, Nat.reduceSub, Nat.reduceAdd, Bool.not_true, Bool.not_false]; try simp only [vputs, List.length, true_and, List.cons_append, List.nil_append, List.getElem?_cons_zero, List.getElem?_cons_succ, List.getElem?_nil, bcmp_str, wps, wps1, wpe, wpes, wpt, wpMap, wpFor, wpForL, upto, rangeOf, bop_add, bop_sub, bop_mul, bop_fdiv, bop_mod, bop_tup, bcmp_lt, bcmp_le, bcmp_gt, bcmp_ge, bcmp_eq, bcmp_ne, bcmp_tup, bcmp_tupn, bcmp_lst, bcmp_lstn, biS, biC_len, biC_lenl, biC_min, biC_max, biC_isi, biC_list, bitem, storeItem, asBool, isNn, sattr, sset, sseti, sapp, notRaw, itemsOf, vget, vput, vputs, getF, putF, getK, List.map, List.map_cons, List.map_nil, List.length, List.length_cons, List.length_nil, Option.getD, Int.reduceToNat, Int.reduceSub, Int.reduceAdd, Int.reduceMul, Nat.reducePow, Nat.reduceSub, Nat.reduceAdd, Bool.not_true, Bool.not_false, List.length_append, Int.reduceLE, Int.reduceLT, Int.toNat_zero, Int.toNat_one, Int.le_refl, beq_self_eq_true, get_last, set_last, Nat.reduceEqDiff, Nat.reduceLT, Nat.reduceLeDiff, if_true, if_false, reduceIte, reduceCtorEq, true_and, and_true, or_true, true_or, or_false, false_or, or_self, and_self, forall_const, Bool.true_eq_false, Bool.false_eq_true, false_implies, true_implies, decide_true, decide_false]) | simp only [vputs, List.length, true_and, List.cons_append, List.nil_append, List.getElem?_cons_zero, List.getElem?_cons_succ, List.getElem?_nil, bcmp_str, wps, wps1, wpe, wpes, wpt, wpMap, wpFor, wpForL, upto, rangeOf, bop_add, bop_sub, bop_mul, bop_fdiv, bop_mod, bop_tup, bcmp_lt, bcmp_le, bcmp_gt, bcmp_ge, bcmp_eq, bcmp_ne, bcmp_tup, bcmp_tupn, bcmp_lst, bcmp_lstn, biS, biC_len, biC_lenl, biC_min, biC_max, biC_isi, biC_list, bitem, storeItem, asBool, isNn, sattr, sset, sseti, sapp, notRaw, itemsOf, vget, vput, vputs, getF, putF, getK, List.map, List.map_cons, List.map_nil, List.length, List.length_cons, List.length_nil, Option.getD, Int.reduceToNat, Int.reduceSub, Int.reduceAdd, Int.reduceMul, Nat.reducePow, Nat.reduceSub, Nat.reduceAdd, Bool.not_true, Bool.not_false, List.length_append, Int.reduceLE, Int.reduceLT, Int.toNat_zero, Int.toNat_one, Int.le_refl, beq_self_eq_true, get_last, set_last, Nat.reduceEqDiff, Nat.reduceLT, Nat.reduceLeDiff, if_true, if_false, reduceIte, reduceCtorEq, true_and, and_true, or_true, true_or, or_false, false_or, or_self, and_self, forall_const, Bool.true_eq_false, Bool.false_eq_true, false_implies, true_implies, decide_true, decide_false])
  have f5 := fmod_rng (d0.fdiv 2 + j) (b := 5) (by decide)
  obtain ⟨u, s, q1, q2, q3, q4⟩ := unit_at f5.1 f5.2
  obtain ⟨x, q5⟩ := int4_at (a := 4) (b := 120) (c := 6) (d := 48) j0 j3
  rw [q4]
  dsimp only
  rw [q5]
  (first | (dsimp only [List.cons_append, List.nil_append, List.getElem?_cons_zero, List.getElem?_cons_succ, List.getElem?_nil, bcmp_str, wps, wps1, wpe, wpes, wpt, wpMap, wpFor, wpForL, upto, rangeOf, bop_add, bop_sub, bop_mul, bop_fdiv, bop_mod, bop_tup, bcmp_lt, bcmp_le, bcmp_gt, bcmp_ge, bcmp_eq, bcmp_ne, bcmp_tup, bcmp_tupn, bcmp_lst, bcmp_lstn, biS, biC_len, biC_lenl, biC_min, biC_max, biC_isi, biC_list, bitem, storeItem, asBool, isNn, sattr, sset, sseti, sapp, notRaw, itemsOf, vget, vput, vputs, getF, putF, getK, List.map, List.map_cons, List.map_nil, List.length, List.length_cons, List.length_nil, Option.getD, Int.reduceToNat, Int.reduceSub, Int.reduceAdd, Int.reduceMul, Nat.reducePow, Nat.reduceSub, Nat.reduceAdd, Bool.not_true, Bool.not_false]; try simp only [List.cons_append, List.nil_append, List.getElem?_cons_zero, List.getElem?_cons_succ, List.getElem?_nil, bcmp_str, wps, wps1, wpe, wpes, wpt, wpMap, wpFor, wpForL, upto, rangeOf, bop_add, bop_sub, bop_mul, bop_fdiv, bop_mod, bop_tup, bcmp_lt, bcmp_le, bcmp_gt, bcmp_ge, bcmp_eq, bcmp_ne, bcmp_tup, bcmp_tupn, bcmp_lst, bcmp_lstn, biS, biC_len, biC_lenl, biC_min, biC_max, biC_isi, biC_list, bitem, storeItem, asBool, isNn, sattr, sset, sseti, sapp, notRaw, itemsOf, vget, vput, vputs, getF, putF, getK, List.map, List.map_cons, List.map_nil, List.length, List.length_cons, List.length_nil, Option.getD, Int.reduceToNat, Int.reduceSub, Int.reduceAdd, Int.reduceMul, Nat.reducePow, Nat.reduceSub, Nat.reduceAdd, Bool.not_true, Bool.not_false, List.length_append, Int.reduceLE, Int.reduceLT, Int.toNat_zero, Int.toNat_one, Int.le_refl, beq_self_eq_true, get_last, set_last, Nat.reduceEqDiff, Nat.reduceLT, Nat.reduceLeDiff, if_true, if_false, reduceIte, reduceCtorEq, true_and, and_true, or_true, true_or, or_false, false_or, or_self, and_self, forall_const, Bool.true_eq_false, Bool.false_eq_true, false_implies, true_implies, decide_true, decide_false]) | simp only [List.cons_append, List.nil_append, List.getElem?_cons_zero, List.getElem?_cons_succ, List.getElem?_nil, bcmp_str, wps, wps1, wpe, wpes, wpt, wpMap, wpFor, wpForL, upto, rangeOf, bop_add, bop_sub, bop_mul, bop_fdiv, bop_mod, bop_tup, bcmp_lt, bcmp_le, bcmp_gt, bcmp_ge, bcmp_eq, bcmp_ne, bcmp_tup, bcmp_tupn, bcmp_lst, bcmp_lstn, biS, biC_len, biC_lenl, biC_min, biC_max, biC_isi, biC_list, bitem, storeItem, asBool, isNn, sattr, sset, sseti, sapp, notRaw, itemsOf, vget, vput, vputs, getF, putF, getK, List.map, List.map_cons, List.map_nil, List.length, List.length_cons, List.length_nil, Option.getD, Int.reduceToNat, Int.reduceSub, Int.reduceAdd, Int.reduceMul, Nat.reducePow, Nat.reduceSub, Nat.reduceAdd, Bool.not_true, Bool.not_false, List.length_append, Int.reduceLE, Int.reduceLT, Int.toNat_zero, Int.toNat_one, Int.le_refl, beq_self_eq_true, get_last, set_last, Nat.reduceEqDiff, Nat.reduceLT, Nat.reduceLeDiff, if_true, if_false, reduceIte, reduceCtorEq, true_and, and_true, or_true, true_or, or_false, false_or, or_self, and_self, forall_const, Bool.true_eq_false, Bool.false_eq_true, false_implies, true_implies, decide_true, decide_false])
  have r := fmod_rng (d1 + x - 2) (b := 5000) (by decide)
  refine ⟨⟨by decide, by decide⟩, by decide, f5.1, by decide, j0, by decide, ?_⟩
  cases hc : decide ((d0 + j).fmod 2 = 1) with
  | true =>
    have b := fmod_rng (d2 + 24 * j) (b := 3000) (by decide)
    refine ⟨fun _ => ⟨by omega, by decide, ⟨by decide, by decide⟩, ⟨by decide, by decide⟩, by decide, ?_⟩, fun h => by cases h⟩
    exact h1 ⟨_, _, _, s, _, true⟩ ⟨by dsimp only; omega, by dsimp only; omega, q1, q2, q3, b.1, b.2, fun h => by cases h⟩
  | false =>
    have b := fmod_rng (d2 + 4 * j + 2) (b := 5) (by decide)
    refine ⟨fun h => by (cases h), fun _ => ⟨by omega, by decide, ⟨by decide, by decide⟩, ⟨by decide, by decide⟩, by decide, ?_⟩⟩
    exact h1 ⟨_, _, _, s, _, false⟩ ⟨by dsimp only; omega, by dsimp only; omega, q1, q2, q3, by dsimp only; omega, by dsimp only; omega, fun _ => by dsimp only; omega⟩
theorem sec_cases {u : Str} {s : Int} (h : secTab.lookup u = some s) : (u = "second" ∧ s = 1) ∨ (u = "minute" ∧ s = 60) ∨ (u = "hour" ∧ s = 3600) ∨ (u = "day" ∧ s = 86400) ∨ (u = "week" ∧ s = 604800) := by
  have hm := mem_of_lookup h
  unfold secTab sp at hm
  simpa using hm
def sp198 : Spc := fun as sg K => ∃ L o, as = [limV L, .int o] ∧ LimOK L ∧ K (.int (L.W o)) sg
theorem w198 (h : sp198 as sg K) : as.length = 2 ∧ wps O tm19 (as.map some) sg (fun fl _ sg' => K (fl.getD .none) sg') := by
  obtain ⟨L, o, rfl, ok, h1⟩ := h
  refine ⟨rfl, ?_⟩
  have r2 := ok.r2
  have r5 := ok.r5
  have s2 := ok.span1
  have hun := ok.un
  have fin : ∀ z : Int, z = L.span → (L.oct = true → (z.natAbs < 2 ^ 63 ∨ o.natAbs < 2 ^ 63) ∧ (L.rate ≠ 0 ∧ L.rate.natAbs < 2 ^ 63) ∧ K (.int ((z * o).fdiv L.rate)) sg) ∧ (L.oct = false → (z.natAbs < 2 ^ 63 ∨ (1 : Int).natAbs < 2 ^ 63) ∧ (L.rate ≠ 0 ∧ L.rate.natAbs < 2 ^ 63) ∧ K (.int ((z * 1).fdiv L.rate)) sg) := by
    rintro z rfl
    refine ⟨fun ho => ⟨by omega, ⟨by omega, by omega⟩, ?_⟩, fun ho => ⟨by omega, ⟨by omega, by omega⟩, ?_⟩⟩
    · simpa [Lim.W, ho] using h1
    · simpa [Lim.W, ho] using h1
  have go : ∀ (u : Str) (c : Int) (vs : List V), L.unit = u → L.sec = c → (List.zip (["second", "minute", "hour", "day", "week"] : List Str) [V.lst [], V.lst [V.int 60], V.lst [V.int 3600], V.lst [V.int 3600, V.int 24], V.lst [V.int 3600, V.int 24, V.int 7]]).lookup u = some (.lst vs) →
      ((vs = [] ∧ c = 1) ∨ (vs = [.int 60] ∧ c = 60) ∨ (vs = [.int 3600] ∧ c = 3600) ∨ (vs = [.int 3600, .int 24] ∧ c = 86400) ∨ (vs = [.int 3600, .int 24, .int 7] ∧ c = 604800)) →
      wps O tm19 ([limV L, V.int o].map some) sg (fun fl _ sg' => K (fl.getD .none) sg') := by
    intro u c vs hu hc hl hv
    rw [← hu] at hl
    (first | (dsimp only [tm19, limV, List.cons_append, List.nil_append, List.getElem?_cons_zero, List.getElem?_cons_succ, List.getElem?_nil, bcmp_str, wps, wps1, wpe, wpes, wpt, wpMap, wpFor, wpForL, upto, rangeOf, bop_add, bop_sub, bop_mul, bop_fdiv, bop_mod, bop_tup, bcmp_lt, bcmp_le, bcmp_gt, bcmp_ge, bcmp_eq, bcmp_ne, bcmp_tup, bcmp_tupn, bcmp_lst, bcmp_lstn, biS, biC_len, biC_lenl, biC_min, biC_max, biC_isi, biC_list, bitem, storeItem, asBool, isNn, sattr, sset, sseti, sapp, notRaw, itemsOf, vget, vput, vputs, getF, putF, getK, List.map, List.map_cons, List.map_nil, List.length, List.length_cons, List.length_nil, Option.getD, Int.reduceToNat, Int.reduceSub, Int.reduceAdd, Int.reduceMul, Nat.reducePow, Nat.reduceSub, Nat.reduceAdd, Bool.not_true, Bool.not_false]; try simp only [tm19, limV, List.cons_append, List.nil_append, List.getElem?_cons_zero, List.getElem?_cons_succ, List.getElem?_nil, bcmp_str, wps, wps1, wpe, wpes, wpt, wpMap, wpFor, wpForL, upto, rangeOf, bop_add, bop_sub, bop_mul, bop_fdiv, bop_mod, bop_tup, bcmp_lt, bcmp_le, bcmp_gt, bcmp_ge, bcmp_eq, bcmp_ne, bcmp_tup, bcmp_tupn, bcmp_lst, bcmp_lstn, biS, biC_len, biC_lenl, biC_min, biC_max, biC_isi, biC_list, bitem, storeItem, asBool, isNn, sattr, sset, sseti, sapp, notRaw, itemsOf, vget, vput, vputs, getF, putF, getK, List.map, List.map_cons, List.map_nil, List.length, List.length_cons, List.length_nil, Option.getD, Int.reduceToNat, Int.reduceSub, Int.reduceAdd, Int.reduceMul, Nat.reducePow, Nat.reduceSub, Nat.reduceAdd, Bool.not_true, Bool.not_false, List.length_append, Int.reduceLE, Int.reduceLT, Int.toNat_zero, Int.toNat_one, Int.le_refl, beq_self_eq_true, get_last, set_last, Nat.reduceEqDiff, Nat.reduceLT, Nat.reduceLeDiff, if_true, if_false, reduceIte, reduceCtorEq, true_and, and_true, or_true, true_or, or_false, false_or, or_self, and_self, forall_const, Bool.true_eq_false, Bool.false_eq_true, false_implies, true_implies, decide_true, decide_false]) | simp only [tm19, limV, List.cons_append, List.nil_append, List.getElem?_cons_zero, List.getElem?_cons_succ, List.getElem?_nil, bcmp_str, wps, wps1, wpe, wpes, wpt, wpMap, wpFor, wpForL, upto, rangeOf, bop_add, bop_sub, bop_mul, bop_fdiv, bop_mod, bop_tup, bcmp_lt, bcmp_le, bcmp_gt, bcmp_ge, bcmp_eq, bcmp_ne, bcmp_tup, bcmp_tupn, bcmp_lst, bcmp_lstn, biS, biC_len, biC_lenl, biC_min, biC_max, biC_isi, biC_list, bitem, storeItem, asBool, isNn, sattr, sset, sseti, sapp, notRaw, itemsOf, vget, vput, vputs, getF, putF, getK, List.map, List.map_cons, List.map_nil, List.length, List.length_cons, List.length_nil, Option.getD, Int.reduceToNat, Int.reduceSub, Int.reduceAdd, Int.reduceMul, Nat.reducePow, Nat.reduceSub, Nat.reduceAdd, Bool.not_true, Bool.not_false, List.length_append, Int.reduceLE, Int.reduceLT, Int.toNat_zero, Int.toNat_one, Int.le_refl, beq_self_eq_true, get_last, set_last, Nat.reduceEqDiff, Nat.reduceLT, Nat.reduceLeDiff, if_true, if_false, reduceIte, reduceCtorEq, true_and, and_true, or_true, true_or, or_false, false_or, or_self, and_self, forall_const, Bool.true_eq_false, Bool.false_eq_true, false_implies, true_implies, decide_true, decide_false])
    rw [hl]
    simp only [Int.reducePow, Nat.reducePow] at fin ⊢
    rcases hv with ⟨rfl, rfl⟩ | ⟨rfl, rfl⟩ | ⟨rfl, rfl⟩ | ⟨rfl, rfl⟩ | ⟨rfl, rfl⟩ <;> (first | (dsimp only [List.cons_append, List.nil_append, List.getElem?_cons_zero, List.getElem?_cons_succ, List.getElem?_nil, bcmp_str, wps, wps1, wpe, wpes, wpt, wpMap, wpFor, wpForL, upto, rangeOf, bop_add, bop_sub, bop_mul, bop_fdiv, bop_mod, bop_tup, bcmp_lt, bcmp_le, bcmp_gt, bcmp_ge, bcmp_eq, bcmp_ne, bcmp_tup, bcmp_tupn, bcmp_lst, bcmp_lstn, biS, biC_len, biC_lenl, biC_min, biC_max, biC_isi, biC_list, bitem, storeItem, asBool, isNn, sattr, sset, sseti, sapp, notRaw, itemsOf, vget, vput, vputs, getF, putF, getK, List.map, List.map_cons, List.map_nil, List.length, List.length_cons, List.length_nil, Option.getD, Int.reduceToNat, Int.reduceSub, Int.reduceAdd, Int.reduceMul, Nat.reducePow, Nat.reduceSub, Nat.reduceAdd, Bool.not_true, Bool.not_false]; try simp only [List.cons_append, List.nil_append, List.getElem?_cons_zero, List.getElem?_cons_succ, List.getElem?_nil, bcmp_str, wps, wps1, wpe, wpes, wpt, wpMap, wpFor, wpForL, upto, rangeOf, bop_add, bop_sub, bop_mul, bop_fdiv, bop_mod, bop_tup, bcmp_lt, bcmp_le, bcmp_gt, bcmp_ge, bcmp_eq, bcmp_ne, bcmp_tup, bcmp_tupn, bcmp_lst, bcmp_lstn, biS, biC_len, biC_lenl, biC_min, biC_max, biC_isi, biC_list, bitem, storeItem, asBool, isNn, sattr, sset, sseti, sapp, notRaw, itemsOf, vget, vput, vputs, getF, putF, getK, List.map, List.map_cons, List.map_nil, List.length, List.length_cons, List.length_nil, Option.getD, Int.reduceToNat, Int.reduceSub, Int.reduceAdd, Int.reduceMul, Nat.reducePow, Nat.reduceSub, Nat.reduceAdd, Bool.not_true, Bool.not_false, List.length_append, Int.reduceLE, Int.reduceLT, Int.toNat_zero, Int.toNat_one, Int.le_refl, beq_self_eq_true, get_last, set_last, Nat.reduceEqDiff, Nat.reduceLT, Nat.reduceLeDiff, if_true, if_false, reduceIte, reduceCtorEq, true_and, and_true, or_true, true_or, or_false, false_or, or_self, and_self, forall_const, Bool.true_eq_false, Bool.false_eq_true, false_implies, true_implies, decide_true, decide_false]) | simp only [List.cons_append, List.nil_append, List.getElem?_cons_zero, List.getElem?_cons_succ, List.getElem?_nil, bcmp_str, wps, wps1, wpe, wpes, wpt, wpMap, wpFor, wpForL, upto, rangeOf, bop_add, bop_sub, bop_mul, bop_fdiv, bop_mod, bop_tup, bcmp_lt, bcmp_le, bcmp_gt, bcmp_ge, bcmp_eq, bcmp_ne, bcmp_tup, bcmp_tupn, bcmp_lst, bcmp_lstn, biS, biC_len, biC_lenl, biC_min, biC_max, biC_isi, biC_list, bitem, storeItem, asBool, isNn, sattr, sset, sseti, sapp, notRaw, itemsOf, vget, vput, vputs, getF, putF, getK, List.map, List.map_cons, List.map_nil, List.length, List.length_cons, List.length_nil, Option.getD, Int.reduceToNat, Int.reduceSub, Int.reduceAdd, Int.reduceMul, Nat.reducePow, Nat.reduceSub, Nat.reduceAdd, Bool.not_true, Bool.not_false, List.length_append, Int.reduceLE, Int.reduceLT, Int.toNat_zero, Int.toNat_one, Int.le_refl, beq_self_eq_true, get_last, set_last, Nat.reduceEqDiff, Nat.reduceLT, Nat.reduceLeDiff, if_true, if_false, reduceIte, reduceCtorEq, true_and, and_true, or_true, true_or, or_false, false_or, or_self, and_self, forall_const, Bool.true_eq_false, Bool.false_eq_true, false_implies, true_implies, decide_true, decide_false])
    · exact fin _ (by unfold Lim.span; omega)
    · exact ⟨by decide, fin _ (by unfold Lim.span; omega)⟩
    · exact ⟨by decide, fin _ (by unfold Lim.span; omega)⟩
    · exact ⟨by decide, by decide, fin _ (by unfold Lim.span; omega)⟩
    · exact ⟨by decide, by decide, by decide, fin _ (by unfold Lim.span; omega)⟩
  rcases sec_cases ok.un with ⟨a, b⟩ | ⟨a, b⟩ | ⟨a, b⟩ | ⟨a, b⟩ | ⟨a, b⟩
  · exact go _ _ _ a b (by kernel_rfl) (.inl ⟨rfl, rfl⟩)
  · exact go _ _ _ a b (by kernel_rfl) (.inr (.inl ⟨rfl, rfl⟩))
  · exact go _ _ _ a b (by kernel_rfl) (.inr (.inr (.inl ⟨rfl, rfl⟩)))
  · exact go _ _ _ a b (by kernel_rfl) (.inr (.inr (.inr (.inl ⟨rfl, rfl⟩))))
  · exact go _ _ _ a b (by kernel_rfl) (.inr (.inr (.inr (.inr ⟨rfl, rfl⟩))))
def sp205 : Spc := fun as sg K => ∃ L, as = [limV L] ∧ LimOK L ∧ K (.int L.B) sg
theorem w205 (h198 : ∀ as sg K, sp198 as sg K → O 198 as sg K) (h : sp205 as sg K) : as.length = 1 ∧ wps O tm20 (as.map some) sg (fun fl _ sg' => K (fl.getD .none) sg') := by
  obtain ⟨L, rfl, ok, h1⟩ := h
  refine ⟨rfl, ?_⟩
  have b0 := ok.b0
  have b3 := ok.b3
  (first | (dsimp only [tm20, limV, List.cons_append, List.nil_append, List.getElem?_cons_zero, List.getElem?_cons_succ, List.getElem?_nil, bcmp_str, wps, wps1, wpe, wpes, wpt, wpMap, wpFor, wpForL, upto, rangeOf, bop_add, bop_sub, bop_mul, bop_fdiv, bop_mod, bop_tup, bcmp_lt, bcmp_le, bcmp_gt, bcmp_ge, bcmp_eq, bcmp_ne, bcmp_tup, bcmp_tupn, bcmp_lst, bcmp_lstn, biS, biC_len, biC_lenl, biC_min, biC_max, biC_isi, biC_list, bitem, storeItem, asBool, isNn, sattr, sset, sseti, sapp, notRaw, itemsOf, vget, vput, vputs, getF, putF, getK, List.map, List.map_cons, List.map_nil, List.length, List.length_cons, List.length_nil, Option.getD, Int.reduceToNat, Int.reduceSub, Int.reduceAdd, Int.reduceMul, Nat.reducePow, Nat.reduceSub, Nat.reduceAdd, Bool.not_true, Bool.not_false]; try simp only [tm20, limV, List.cons_append, List.nil_append, List.getElem?_cons_zero, List.getElem?_cons_succ, List.getElem?_nil, bcmp_str, wps, wps1, wpe, wpes, wpt, wpMap, wpFor, wpForL, upto, rangeOf, bop_add, bop_sub, bop_mul, bop_fdiv, bop_mod, bop_tup, bcmp_lt, bcmp_le, bcmp_gt, bcmp_ge, bcmp_eq, bcmp_ne, bcmp_tup, bcmp_tupn, bcmp_lst, bcmp_lstn, biS, biC_len, biC_lenl, biC_min, biC_max, biC_isi, biC_list, bitem, storeItem, asBool, isNn, sattr, sset, sseti, sapp, notRaw, itemsOf, vget, vput, vputs, getF, putF, getK, List.map, List.map_cons, List.map_nil, List.length, List.length_cons, List.length_nil, Option.getD, Int.reduceToNat, Int.reduceSub, Int.reduceAdd, Int.reduceMul, Nat.reducePow, Nat.reduceSub, Nat.reduceAdd, Bool.not_true, Bool.not_false, List.length_append, Int.reduceLE, Int.reduceLT, Int.toNat_zero, Int.toNat_one, Int.le_refl, beq_self_eq_true, get_last, set_last, Nat.reduceEqDiff, Nat.reduceLT, Nat.reduceLeDiff, if_true, if_false, reduceIte, reduceCtorEq, true_and, and_true, or_true, true_or, or_false, false_or, or_self, and_self, forall_const, Bool.true_eq_false, Bool.false_eq_true, false_implies, true_implies, decide_true, decide_false]) | simp only [tm20, limV, List.cons_append, List.nil_append, List.getElem?_cons_zero, List.getElem?_cons_succ, List.getElem?_nil, bcmp_str, wps, wps1, wpe, wpes, wpt, wpMap, wpFor, wpForL, upto, rangeOf, bop_add, bop_sub, bop_mul, bop_fdiv, bop_mod, bop_tup, bcmp_lt, bcmp_le, bcmp_gt, bcmp_ge, bcmp_eq, bcmp_ne, bcmp_tup, bcmp_tupn, bcmp_lst, bcmp_lstn, biS, biC_len, biC_lenl, biC_min, biC_max, biC_isi, biC_list, bitem, storeItem, asBool, isNn, sattr, sset, sseti, sapp, notRaw, itemsOf, vget, vput, vputs, getF, putF, getK, List.map, List.map_cons, List.map_nil, List.length, List.length_cons, List.length_nil, Option.getD, Int.reduceToNat, Int.reduceSub, Int.reduceAdd, Int.reduceMul, Nat.reducePow, Nat.reduceSub, Nat.reduceAdd, Bool.not_true, Bool.not_false, List.length_append, Int.reduceLE, Int.reduceLT, Int.toNat_zero, Int.toNat_one, Int.le_refl, beq_self_eq_true, get_last, set_last, Nat.reduceEqDiff, Nat.reduceLT, Nat.reduceLeDiff, if_true, if_false, reduceIte, reduceCtorEq, true_and, and_true, or_true, true_or, or_false, false_or, or_self, and_self, forall_const, Bool.true_eq_false, Bool.false_eq_true, false_implies, true_implies, decide_true, decide_false])
  refine ⟨fun ho => h198 _ _ _ ⟨L, _, rfl, ok, ?_⟩, fun ho => h198 _ _ _ ⟨L, 0, rfl, ok, ?_⟩⟩
  · simpa [Lim.B, Lim.W, ho] using h1
  · (first | (dsimp only [List.cons_append, List.nil_append, List.getElem?_cons_zero, List.getElem?_cons_succ, List.getElem?_nil, bcmp_str, wps, wps1, wpe, wpes, wpt, wpMap, wpFor, wpForL, upto, rangeOf, bop_add, bop_sub, bop_mul, bop_fdiv, bop_mod, bop_tup, bcmp_lt, bcmp_le, bcmp_gt, bcmp_ge, bcmp_eq, bcmp_ne, bcmp_tup, bcmp_tupn, bcmp_lst, bcmp_lstn, biS, biC_len, biC_lenl, biC_min, biC_max, biC_isi, biC_list, bitem, storeItem, asBool, isNn, sattr, sset, sseti, sapp, notRaw, itemsOf, vget, vput, vputs, getF, putF, getK, List.map, List.map_cons, List.map_nil, List.length, List.length_cons, List.length_nil, Option.getD, Int.reduceToNat, Int.reduceSub, Int.reduceAdd, Int.reduceMul, Nat.reducePow, Nat.reduceSub, Nat.reduceAdd, Bool.not_true, Bool.not_false]; try simp only [List.cons_append, List.nil_append, List.getElem?_cons_zero, List.getElem?_cons_succ, List.getElem?_nil, bcmp_str, wps, wps1, wpe, wpes, wpt, wpMap, wpFor, wpForL, upto, rangeOf, bop_add, bop_sub, bop_mul, bop_fdiv, bop_mod, bop_tup, bcmp_lt, bcmp_le, bcmp_gt, bcmp_ge, bcmp_eq, bcmp_ne, bcmp_tup, bcmp_tupn, bcmp_lst, bcmp_lstn, biS, biC_len, biC_lenl, biC_min, biC_max, biC_isi, biC_list, bitem, storeItem, asBool, isNn, sattr, sset, sseti, sapp, notRaw, itemsOf, vget, vput, vputs, getF, putF, getK, List.map, List.map_cons, List.map_nil, List.length, List.length_cons, List.length_nil, Option.getD, Int.reduceToNat, Int.reduceSub, Int.reduceAdd, Int.reduceMul, Nat.reducePow, Nat.reduceSub, Nat.reduceAdd, Bool.not_true, Bool.not_false, List.length_append, Int.reduceLE, Int.reduceLT, Int.toNat_zero, Int.toNat_one, Int.le_refl, beq_self_eq_true, get_last, set_last, Nat.reduceEqDiff, Nat.reduceLT, Nat.reduceLeDiff, if_true, if_false, reduceIte, reduceCtorEq, true_and, and_true, or_true, true_or, or_false, false_or, or_self, and_self, forall_const, Bool.true_eq_false, Bool.false_eq_true, false_implies, true_implies, decide_true, decide_false]) | simp only [List.cons_append, List.nil_append, List.getElem?_cons_zero, List.getElem?_cons_succ, List.getElem?_nil, bcmp_str, wps, wps1, wpe, wpes, wpt, wpMap, wpFor, wpForL, upto, rangeOf, bop_add, bop_sub, bop_mul, bop_fdiv, bop_mod, bop_tup, bcmp_lt, bcmp_le, bcmp_gt, bcmp_ge, bcmp_eq, bcmp_ne, bcmp_tup, bcmp_tupn, bcmp_lst, bcmp_lstn, biS, biC_len, biC_lenl, biC_min, biC_max, biC_isi, biC_list, bitem, storeItem, asBool, isNn, sattr, sset, sseti, sapp, notRaw, itemsOf, vget, vput, vputs, getF, putF, getK, List.map, List.map_cons, List.map_nil, List.length, List.length_cons, List.length_nil, Option.getD, Int.reduceToNat, Int.reduceSub, Int.reduceAdd, Int.reduceMul, Nat.reducePow, Nat.reduceSub, Nat.reduceAdd, Bool.not_true, Bool.not_false, List.length_append, Int.reduceLE, Int.reduceLT, Int.toNat_zero, Int.toNat_one, Int.le_refl, beq_self_eq_true, get_last, set_last, Nat.reduceEqDiff, Nat.reduceLT, Nat.reduceLeDiff, if_true, if_false, reduceIte, reduceCtorEq, true_and, and_true, or_true, true_or, or_false, false_or, or_self, and_self, forall_const, Bool.true_eq_false, Bool.false_eq_true, false_implies, true_implies, decide_true, decide_false])
    refine ⟨by omega, ?_⟩
    simpa [Lim.B, Lim.W, ho] using h1
/-- what a flood's size may be -/
def LenOK (L : Lim) (n : Int) : Prop := 1 ≤ n ∧ n ≤ 9000 ∧ (L.oct = true → 2 * n ≤ L.rate + L.burst ∨ L.rate + L.burst ≤ n)
def sp212 : Spc := fun as sg K => ∃ d L f j, as = [.int d, limV L, .int f, .int j] ∧ LimOK L ∧ ∀ n, LenOK L n → K (.int n) sg
theorem w212 (h : sp212 as sg K) : as.length = 4 ∧ wps O tm21 (as.map some) sg (fun fl _ sg' => K (fl.getD .none) sg') := by
  obtain ⟨d, L, f, j, rfl, ok, h1⟩ := h
  refine ⟨rfl, ?_⟩
  have r2 := ok.r2
  have r5 := ok.r5
  have b0 := ok.b0
  have b3 := ok.b3
  (first | (dsimp only [tm21, limV, List.cons_append, List.nil_append, List.getElem?_cons_zero, List.getElem?_cons_succ, List.getElem?_nil, bcmp_str, wps, wps1, wpe, wpes, wpt, wpMap, wpFor, wpForL, upto, rangeOf, bop_add, bop_sub, bop_mul, bop_fdiv, bop_mod, bop_tup, bcmp_lt, bcmp_le, bcmp_gt, bcmp_ge, bcmp_eq, bcmp_ne, bcmp_tup, bcmp_tupn, bcmp_lst, bcmp_lstn, biS, biC_len, biC_lenl, biC_min, biC_max, biC_isi, biC_list, bitem, storeItem, asBool, isNn, sattr, sset, sseti, sapp, notRaw, itemsOf, vget, vput, vputs, getF, putF, getK, List.map, List.map_cons, List.map_nil, List.length, List.length_cons, List.length_nil, Option.getD, Int.reduceToNat, Int.reduceSub, Int.reduceAdd, Int.reduceMul, Nat.reducePow, Nat.reduceSub, Nat.reduceAdd, Bool.not_true, Bool.not_false]; try simp only [tm21, limV, List.cons_append, List.nil_append, List.getElem?_cons_zero, List.getElem?_cons_succ, List.getElem?_nil, bcmp_str, wps, wps1, wpe, wpes, wpt, wpMap, wpFor, wpForL, upto, rangeOf, bop_add, bop_sub, bop_mul, bop_fdiv, bop_mod, bop_tup, bcmp_lt, bcmp_le, bcmp_gt, bcmp_ge, bcmp_eq, bcmp_ne, bcmp_tup, bcmp_tupn, bcmp_lst, bcmp_lstn, biS, biC_len, biC_lenl, biC_min, biC_max, biC_isi, biC_list, bitem, storeItem, asBool, isNn, sattr, sset, sseti, sapp, notRaw, itemsOf, vget, vput, vputs, getF, putF, getK, List.map, List.map_cons, List.map_nil, List.length, List.length_cons, List.length_nil, Option.getD, Int.reduceToNat, Int.reduceSub, Int.reduceAdd, Int.reduceMul, Nat.reducePow, Nat.reduceSub, Nat.reduceAdd, Bool.not_true, Bool.not_false, List.length_append, Int.reduceLE, Int.reduceLT, Int.toNat_zero, Int.toNat_one, Int.le_refl, beq_self_eq_true, get_last, set_last, Nat.reduceEqDiff, Nat.reduceLT, Nat.reduceLeDiff, if_true, if_false, reduceIte, reduceCtorEq, true_and, and_true, or_true, true_or, or_false, false_or, or_self, and_self, forall_const, Bool.true_eq_false, Bool.false_eq_true, false_implies, true_implies, decide_true, decide_false]) | simp only [tm21, limV, List.cons_append, List.nil_append, List.getElem?_cons_zero, List.getElem?_cons_succ, List.getElem?_nil, bcmp_str, wps, wps1, wpe, wpes, wpt, wpMap, wpFor, wpForL, upto, rangeOf, bop_add, bop_sub, bop_mul, bop_fdiv, bop_mod, bop_tup, bcmp_lt, bcmp_le, bcmp_gt, bcmp_ge, bcmp_eq, bcmp_ne, bcmp_tup, bcmp_tupn, bcmp_lst, bcmp_lstn, biS, biC_len, biC_lenl, biC_min, biC_max, biC_isi, biC_list, bitem, storeItem, asBool, isNn, sattr, sset, sseti, sapp, notRaw, itemsOf, vget, vput, vputs, getF, putF, getK, List.map, List.map_cons, List.map_nil, List.length, List.length_cons, List.length_nil, Option.getD, Int.reduceToNat, Int.reduceSub, Int.reduceAdd, Int.reduceMul, Nat.reducePow, Nat.reduceSub, Nat.reduceAdd, Bool.not_true, Bool.not_false, List.length_append, Int.reduceLE, Int.reduceLT, Int.toNat_zero, Int.toNat_one, Int.le_refl, beq_self_eq_true, get_last, set_last, Nat.reduceEqDiff, Nat.reduceLT, Nat.reduceLeDiff, if_true, if_false, reduceIte, reduceCtorEq, true_and, and_true, or_true, true_or, or_false, false_or, or_self, and_self, forall_const, Bool.true_eq_false, Bool.false_eq_true, false_implies, true_implies, decide_true, decide_false])
  refine ⟨⟨by decide, by decide⟩, by omega, fun ho => ⟨by decide, ?_⟩, fun ho => ?_⟩
  · have ho' : L.oct = false := by simpa using ho
    have r := fmod_rng (d.fdiv 4 + 19 + 10 * f) (b := 1500) (by decide)
    exact h1 _ ⟨by omega, by omega, fun q => by rw [ho'] at q; cases q⟩
  · have ho' : L.oct = true := by simpa using ho
    have hw : (L.rate + L.burst).fdiv 2 = (L.rate + L.burst) / 2 := Int.fdiv_eq_ediv_of_nonneg _ (by decide)
    have r := fmod_rng (d.fdiv 4 + 19 + 10 * f) (b := (L.rate + L.burst).fdiv 2) (by omega)
    have r1 := fmod_rng (d.fdiv 4 + 19 + 10 * f) (b := 100) (by decide)
    have r4 := fmod_rng (d + f + j) (b := 4) (by decide)
    refine ⟨⟨by decide, by decide⟩, by omega, by decide, by decide, r4.1, ?_⟩
    have : (d + f + j).fmod 4 = 0 ∨ (d + f + j).fmod 4 = 1 ∨ (d + f + j).fmod 4 = 2 ∨ (d + f + j).fmod 4 = 3 := by omega
    rcases this with e | e | e | e <;> rw [e] <;> (first | (dsimp only [List.cons_append, List.nil_append, List.getElem?_cons_zero, List.getElem?_cons_succ, List.getElem?_nil, bcmp_str, wps, wps1, wpe, wpes, wpt, wpMap, wpFor, wpForL, upto, rangeOf, bop_add, bop_sub, bop_mul, bop_fdiv, bop_mod, bop_tup, bcmp_lt, bcmp_le, bcmp_gt, bcmp_ge, bcmp_eq, bcmp_ne, bcmp_tup, bcmp_tupn, bcmp_lst, bcmp_lstn, biS, biC_len, biC_lenl, biC_min, biC_max, biC_isi, biC_list, bitem, storeItem, asBool, isNn, sattr, sset, sseti, sapp, notRaw, itemsOf, vget, vput, vputs, getF, putF, getK, List.map, List.map_cons, List.map_nil, List.length, List.length_cons, List.length_nil, Option.getD, Int.reduceToNat, Int.reduceSub, Int.reduceAdd, Int.reduceMul, Nat.reducePow, Nat.reduceSub, Nat.reduceAdd, Bool.not_true, Bool.not_false]; try simp only [Int.reduceToNat, List.cons_append, List.nil_append, List.getElem?_cons_zero, List.getElem?_cons_succ, List.getElem?_nil, bcmp_str, wps, wps1, wpe, wpes, wpt, wpMap, wpFor, wpForL, upto, rangeOf, bop_add, bop_sub, bop_mul, bop_fdiv, bop_mod, bop_tup, bcmp_lt, bcmp_le, bcmp_gt, bcmp_ge, bcmp_eq, bcmp_ne, bcmp_tup, bcmp_tupn, bcmp_lst, bcmp_lstn, biS, biC_len, biC_lenl, biC_min, biC_max, biC_isi, biC_list, bitem, storeItem, asBool, isNn, sattr, sset, sseti, sapp, notRaw, itemsOf, vget, vput, vputs, getF, putF, getK, List.map, List.map_cons, List.map_nil, List.length, List.length_cons, List.length_nil, Option.getD, Int.reduceToNat, Int.reduceSub, Int.reduceAdd, Int.reduceMul, Nat.reducePow, Nat.reduceSub, Nat.reduceAdd, Bool.not_true, Bool.not_false, List.length_append, Int.reduceLE, Int.reduceLT, Int.toNat_zero, Int.toNat_one, Int.le_refl, beq_self_eq_true, get_last, set_last, Nat.reduceEqDiff, Nat.reduceLT, Nat.reduceLeDiff, if_true, if_false, reduceIte, reduceCtorEq, true_and, and_true, or_true, true_or, or_false, false_or, or_self, and_self, forall_const, Bool.true_eq_false, Bool.false_eq_true, false_implies, true_implies, decide_true, decide_false]) | simp only [Int.reduceToNat, List.cons_append, List.nil_append, List.getElem?_cons_zero, List.getElem?_cons_succ, List.getElem?_nil, bcmp_str, wps, wps1, wpe, wpes, wpt, wpMap, wpFor, wpForL, upto, rangeOf, bop_add, bop_sub, bop_mul, bop_fdiv, bop_mod, bop_tup, bcmp_lt, bcmp_le, bcmp_gt, bcmp_ge, bcmp_eq, bcmp_ne, bcmp_tup, bcmp_tupn, bcmp_lst, bcmp_lstn, biS, biC_len, biC_lenl, biC_min, biC_max, biC_isi, biC_list, bitem, storeItem, asBool, isNn, sattr, sset, sseti, sapp, notRaw, itemsOf, vget, vput, vputs, getF, putF, getK, List.map, List.map_cons, List.map_nil, List.length, List.length_cons, List.length_nil, Option.getD, Int.reduceToNat, Int.reduceSub, Int.reduceAdd, Int.reduceMul, Nat.reducePow, Nat.reduceSub, Nat.reduceAdd, Bool.not_true, Bool.not_false, List.length_append, Int.reduceLE, Int.reduceLT, Int.toNat_zero, Int.toNat_one, Int.le_refl, beq_self_eq_true, get_last, set_last, Nat.reduceEqDiff, Nat.reduceLT, Nat.reduceLeDiff, if_true, if_false, reduceIte, reduceCtorEq, true_and, and_true, or_true, true_or, or_false, false_or, or_self, and_self, forall_const, Bool.true_eq_false, Bool.false_eq_true, false_implies, true_implies, decide_true, decide_false])
    · exact h1 _ ⟨by omega, by omega, fun _ => .inl (by omega)⟩
    · exact h1 _ ⟨by omega, by omega, fun _ => .inl (by omega)⟩
    · exact h1 _ ⟨by omega, by omega, fun _ => .inr (by omega)⟩
    · exact h1 _ ⟨by omega, by omega, fun _ => .inr (by omega)⟩
def ruleV (L : Lim) (q : Bool) (ov : Bool) (m u p0 o0 p1 o1 p2 o2 : Int) : V :=
  .tup [.tup [.str "notrack"], (Cell.cnt p0 o0).stm, (if q then (Cell.quo ov m u).stm else limV L), (Cell.cnt p1 o1).stm, (if q then limV L else (Cell.quo ov m u).stm), (Cell.cnt p2 o2).stm, .tup [.str "verdict", .tup [.str "accept", .str ""]]]
def sp217 (l : Addr) : Spc := fun as sg K => ∃ (j : Int) (L : Lim) (n : Int), as = [scr l, .int j, limV L, .int n] ∧ 0 ≤ j ∧ j ≤ 3 ∧ 0 ≤ n ∧ n ≤ 9000 ∧ LimOK L ∧ ∀ q ov m u p0 o0 p1 o1 p2 o2, K (ruleV L q ov m u p0 o0 p1 o1 p2 o2) sg
set_option maxRecDepth 20000 in
theorem w217 (h186 : ∀ as sg K, sp186 l as sg K → O 186 as sg K) (h : sp217 l as sg K) : as.length = 4 ∧ wps O tm22 (as.map some) sg (fun fl _ sg' => K (fl.getD .none) sg') := by
  obtain ⟨j, L, n, rfl, j0, j3, n0, n9, ok, h1⟩ := h
  refine ⟨rfl, ?_⟩
  have e3 : upto 0 (3 - 0 : Int).toNat = [0, 1, 2] := rfl
  (first | (dsimp only [tm22, List.cons_append, List.nil_append, List.getElem?_cons_zero, List.getElem?_cons_succ, List.getElem?_nil, bcmp_str, wps, wps1, wpe, wpes, wpt, wpMap, wpFor, wpForL, upto, rangeOf, bop_add, bop_sub, bop_mul, bop_fdiv, bop_mod, bop_tup, bcmp_lt, bcmp_le, bcmp_gt, bcmp_ge, bcmp_eq, bcmp_ne, bcmp_tup, bcmp_tupn, bcmp_lst, bcmp_lstn, biS, biC_len, biC_lenl, biC_min, biC_max, biC_isi, biC_list, bitem, storeItem, asBool, isNn, sattr, sset, sseti, sapp, notRaw, itemsOf, vget, vput, vputs, getF, putF, getK, List.map, List.map_cons, List.map_nil, List.length, List.length_cons, List.length_nil, Option.getD, Int.reduceToNat, Int.reduceSub, Int.reduceAdd, Int.reduceMul, Nat.reducePow, Nat.reduceSub, Nat.reduceAdd, Bool.not_true, Bool.not_false]; try simp only [tm22, e3, List.cons_append, List.nil_append, List.getElem?_cons_zero, List.getElem?_cons_succ, List.getElem?_nil, bcmp_str, wps, wps1, wpe, wpes, wpt, wpMap, wpFor, wpForL, upto, rangeOf, bop_add, bop_sub, bop_mul, bop_fdiv, bop_mod, bop_tup, bcmp_lt, bcmp_le, bcmp_gt, bcmp_ge, bcmp_eq, bcmp_ne, bcmp_tup, bcmp_tupn, bcmp_lst, bcmp_lstn, biS, biC_len, biC_lenl, biC_min, biC_max, biC_isi, biC_list, bitem, storeItem, asBool, isNn, sattr, sset, sseti, sapp, notRaw, itemsOf, vget, vput, vputs, getF, putF, getK, List.map, List.map_cons, List.map_nil, List.length, List.length_cons, List.length_nil, Option.getD, Int.reduceToNat, Int.reduceSub, Int.reduceAdd, Int.reduceMul, Nat.reducePow, Nat.reduceSub, Nat.reduceAdd, Bool.not_true, Bool.not_false, List.length_append, Int.reduceLE, Int.reduceLT, Int.toNat_zero, Int.toNat_one, Int.le_refl, beq_self_eq_true, get_last, set_last, Nat.reduceEqDiff, Nat.reduceLT, Nat.reduceLeDiff, if_true, if_false, reduceIte, reduceCtorEq, true_and, and_true, or_true, true_or, or_false, false_or, or_self, and_self, forall_const, Bool.true_eq_false, Bool.false_eq_true, false_implies, true_implies, decide_true, decide_false]) | simp only [tm22, e3, List.cons_append, List.nil_append, List.getElem?_cons_zero, List.getElem?_cons_succ, List.getElem?_nil, bcmp_str, wps, wps1, wpe, wpes, wpt, wpMap, wpFor, wpForL, upto, rangeOf, bop_add, bop_sub, bop_mul, bop_fdiv, bop_mod, bop_tup, bcmp_lt, bcmp_le, bcmp_gt, bcmp_ge, bcmp_eq, bcmp_ne, bcmp_tup, bcmp_tupn, bcmp_lst, bcmp_lstn, biS, biC_len, biC_lenl, biC_min, biC_max, biC_isi, biC_list, bitem, storeItem, asBool, isNn, sattr, sset, sseti, sapp, notRaw, itemsOf, vget, vput, vputs, getF, putF, getK, List.map, List.map_cons, List.map_nil, List.length, List.length_cons, List.length_nil, Option.getD, Int.reduceToNat, Int.reduceSub, Int.reduceAdd, Int.reduceMul, Nat.reducePow, Nat.reduceSub, Nat.reduceAdd, Bool.not_true, Bool.not_false, List.length_append, Int.reduceLE, Int.reduceLT, Int.toNat_zero, Int.toNat_one, Int.le_refl, beq_self_eq_true, get_last, set_last, Nat.reduceEqDiff, Nat.reduceLT, Nat.reduceLeDiff, if_true, if_false, reduceIte, reduceCtorEq, true_and, and_true, or_true, true_or, or_false, false_or, or_self, and_self, forall_const, Bool.true_eq_false, Bool.false_eq_true, false_implies, true_implies, decide_true, decide_false])
  refine ⟨by omega, h186 _ _ _ ⟨12 * j + 0, rfl, by omega, fun d0 => ⟨by omega, h186 _ _ _ ⟨12 * j + 3, rfl, by omega, fun d1 => ⟨by omega, h186 _ _ _ ⟨12 * j + 4, rfl, by omega, fun d2 => ?_⟩⟩⟩⟩⟩⟩
  (first | (dsimp only [List.cons_append, List.nil_append, List.getElem?_cons_zero, List.getElem?_cons_succ, List.getElem?_nil, bcmp_str, wps, wps1, wpe, wpes, wpt, wpMap, wpFor, wpForL, upto, rangeOf, bop_add, bop_sub, bop_mul, bop_fdiv, bop_mod, bop_tup, bcmp_lt, bcmp_le, bcmp_gt, bcmp_ge, bcmp_eq, bcmp_ne, bcmp_tup, bcmp_tupn, bcmp_lst, bcmp_lstn, biS, biC_len, biC_lenl, biC_min, biC_max, biC_isi, biC_list, bitem, storeItem, asBool, isNn, sattr, sset, sseti, sapp, notRaw, itemsOf, vget, vput, vputs, getF, putF, getK, List.map, List.map_cons, List.map_nil, List.length, List.length_cons, List.length_nil, Option.getD, Int.reduceToNat, Int.reduceSub, Int.reduceAdd, Int.reduceMul, Nat.reducePow, Nat.reduceSub, Nat.reduceAdd, Bool.not_true, Bool.not_false]; try simp only [List.cons_append, List.nil_append, List.getElem?_cons_zero, List.getElem?_cons_succ, List.getElem?_nil, bcmp_str, wps, wps1, wpe, wpes, wpt, wpMap, wpFor, wpForL, upto, rangeOf, bop_add, bop_sub, bop_mul, bop_fdiv, bop_mod, bop_tup, bcmp_lt, bcmp_le, bcmp_gt, bcmp_ge, bcmp_eq, bcmp_ne, bcmp_tup, bcmp_tupn, bcmp_lst, bcmp_lstn, biS, biC_len, biC_lenl, biC_min, biC_max, biC_isi, biC_list, bitem, storeItem, asBool, isNn, sattr, sset, sseti, sapp, notRaw, itemsOf, vget, vput, vputs, getF, putF, getK, List.map, List.map_cons, List.map_nil, List.length, List.length_cons, List.length_nil, Option.getD, Int.reduceToNat, Int.reduceSub, Int.reduceAdd, Int.reduceMul, Nat.reducePow, Nat.reduceSub, Nat.reduceAdd, Bool.not_true, Bool.not_false, List.length_append, Int.reduceLE, Int.reduceLT, Int.toNat_zero, Int.toNat_one, Int.le_refl, beq_self_eq_true, get_last, set_last, Nat.reduceEqDiff, Nat.reduceLT, Nat.reduceLeDiff, if_true, if_false, reduceIte, reduceCtorEq, true_and, and_true, or_true, true_or, or_false, false_or, or_self, and_self, forall_const, Bool.true_eq_false, Bool.false_eq_true, false_implies, true_implies, decide_true, decide_false]) | simp only [List.cons_append, List.nil_append, List.getElem?_cons_zero, List.getElem?_cons_succ, List.getElem?_nil, bcmp_str, wps, wps1, wpe, wpes, wpt, wpMap, wpFor, wpForL, upto, rangeOf, bop_add, bop_sub, bop_mul, bop_fdiv, bop_mod, bop_tup, bcmp_lt, bcmp_le, bcmp_gt, bcmp_ge, bcmp_eq, bcmp_ne, bcmp_tup, bcmp_tupn, bcmp_lst, bcmp_lstn, biS, biC_len, biC_lenl, biC_min, biC_max, biC_isi, biC_list, bitem, storeItem, asBool, isNn, sattr, sset, sseti, sapp, notRaw, itemsOf, vget, vput, vputs, getF, putF, getK, List.map, List.map_cons, List.map_nil, List.length, List.length_cons, List.length_nil, Option.getD, Int.reduceToNat, Int.reduceSub, Int.reduceAdd, Int.reduceMul, Nat.reducePow, Nat.reduceSub, Nat.reduceAdd, Bool.not_true, Bool.not_false, List.length_append, Int.reduceLE, Int.reduceLT, Int.toNat_zero, Int.toNat_one, Int.le_refl, beq_self_eq_true, get_last, set_last, Nat.reduceEqDiff, Nat.reduceLT, Nat.reduceLeDiff, if_true, if_false, reduceIte, reduceCtorEq, true_and, and_true, or_true, true_or, or_false, false_or, or_self, and_self, forall_const, Bool.true_eq_false, Bool.false_eq_true, false_implies, true_implies, decide_true, decide_false])
  have r2 := fmod_rng (d0.fdiv 40 + j) (b := 2) (by decide)
  have : (d0.fdiv 40 + j).fmod 2 = 0 ∨ (d0.fdiv 40 + j).fmod 2 = 1 := by omega
  rcases this with e | e <;> rw [e] <;> (first | (dsimp only [List.cons_append, List.nil_append, List.getElem?_cons_zero, List.getElem?_cons_succ, List.getElem?_nil, bcmp_str, wps, wps1, wpe, wpes, wpt, wpMap, wpFor, wpForL, upto, rangeOf, bop_add, bop_sub, bop_mul, bop_fdiv, bop_mod, bop_tup, bcmp_lt, bcmp_le, bcmp_gt, bcmp_ge, bcmp_eq, bcmp_ne, bcmp_tup, bcmp_tupn, bcmp_lst, bcmp_lstn, biS, biC_len, biC_lenl, biC_min, biC_max, biC_isi, biC_list, bitem, storeItem, asBool, isNn, sattr, sset, sseti, sapp, notRaw, itemsOf, vget, vput, vputs, getF, putF, getK, List.map, List.map_cons, List.map_nil, List.length, List.length_cons, List.length_nil, Option.getD, Int.reduceToNat, Int.reduceSub, Int.reduceAdd, Int.reduceMul, Nat.reducePow, Nat.reduceSub, Nat.reduceAdd, Bool.not_true, Bool.not_false]; try simp only [Int.reduceToNat, List.cons_append, List.nil_append, List.getElem?_cons_zero, List.getElem?_cons_succ, List.getElem?_nil, bcmp_str, wps, wps1, wpe, wpes, wpt, wpMap, wpFor, wpForL, upto, rangeOf, bop_add, bop_sub, bop_mul, bop_fdiv, bop_mod, bop_tup, bcmp_lt, bcmp_le, bcmp_gt, bcmp_ge, bcmp_eq, bcmp_ne, bcmp_tup, bcmp_tupn, bcmp_lst, bcmp_lstn, biS, biC_len, biC_lenl, biC_min, biC_max, biC_isi, biC_list, bitem, storeItem, asBool, isNn, sattr, sset, sseti, sapp, notRaw, itemsOf, vget, vput, vputs, getF, putF, getK, List.map, List.map_cons, List.map_nil, List.length, List.length_cons, List.length_nil, Option.getD, Int.reduceToNat, Int.reduceSub, Int.reduceAdd, Int.reduceMul, Nat.reducePow, Nat.reduceSub, Nat.reduceAdd, Bool.not_true, Bool.not_false, List.length_append, Int.reduceLE, Int.reduceLT, Int.toNat_zero, Int.toNat_one, Int.le_refl, beq_self_eq_true, get_last, set_last, Nat.reduceEqDiff, Nat.reduceLT, Nat.reduceLeDiff, if_true, if_false, reduceIte, reduceCtorEq, true_and, and_true, or_true, true_or, or_false, false_or, or_self, and_self, forall_const, Bool.true_eq_false, Bool.false_eq_true, false_implies, true_implies, decide_true, decide_false]) | simp only [Int.reduceToNat, List.cons_append, List.nil_append, List.getElem?_cons_zero, List.getElem?_cons_succ, List.getElem?_nil, bcmp_str, wps, wps1, wpe, wpes, wpt, wpMap, wpFor, wpForL, upto, rangeOf, bop_add, bop_sub, bop_mul, bop_fdiv, bop_mod, bop_tup, bcmp_lt, bcmp_le, bcmp_gt, bcmp_ge, bcmp_eq, bcmp_ne, bcmp_tup, bcmp_tupn, bcmp_lst, bcmp_lstn, biS, biC_len, biC_lenl, biC_min, biC_max, biC_isi, biC_list, bitem, storeItem, asBool, isNn, sattr, sset, sseti, sapp, notRaw, itemsOf, vget, vput, vputs, getF, putF, getK, List.map, List.map_cons, List.map_nil, List.length, List.length_cons, List.length_nil, Option.getD, Int.reduceToNat, Int.reduceSub, Int.reduceAdd, Int.reduceMul, Nat.reducePow, Nat.reduceSub, Nat.reduceAdd, Bool.not_true, Bool.not_false, List.length_append, Int.reduceLE, Int.reduceLT, Int.toNat_zero, Int.toNat_one, Int.le_refl, beq_self_eq_true, get_last, set_last, Nat.reduceEqDiff, Nat.reduceLT, Nat.reduceLeDiff, if_true, if_false, reduceIte, reduceCtorEq, true_and, and_true, or_true, true_or, or_false, false_or, or_self, and_self, forall_const, Bool.true_eq_false, Bool.false_eq_true, false_implies, true_implies, decide_true, decide_false]) <;> repeat' (first | refine And.intro ?_ ?_ | decide | omega | exact List.cons_ne_nil _ _)
  · exact h1 false _ _ _ _ _ _ _ _ _
  · exact h1 true _ _ _ _ _ _ _ _ _
def every (W G : Int) : Int := (W + G - 1).fdiv G
def roomy (B W G i : Int) : Int := if B < W then 0 else if W ≤ G then i else if W = B ∧ 0 < G then (i + every W G - 1).fdiv (every W G) else (if (B + (i - 1) * G).fdiv W < i then (B + (i - 1) * G).fdiv W else i)
def toks (B W G i : Int) : Int := if B < W then B else if W ≤ G then B - W else if W = B ∧ 0 < G then (i - 1).fmod (every W G) * G else B + (i - 1) * G - W * roomy B W G i
def sp224 : Spc := fun as sg K => ∃ W G : Int, as = [.int W, .int G] ∧ 0 < G ∧ G < 2 ^ 62 ∧ K (.int (every W G)) sg
theorem w224 (h : sp224 as sg K) : as.length = 2 ∧ wps O tm23 (as.map some) sg (fun fl _ sg' => K (fl.getD .none) sg') := by
  obtain ⟨W, G, rfl, g0, g1, h1⟩ := h
  refine ⟨rfl, ?_⟩
  (first | (dsimp only [tm23, List.cons_append, List.nil_append, List.getElem?_cons_zero, List.getElem?_cons_succ, List.getElem?_nil, bcmp_str, wps, wps1, wpe, wpes, wpt, wpMap, wpFor, wpForL, upto, rangeOf, bop_add, bop_sub, bop_mul, bop_fdiv, bop_mod, bop_tup, bcmp_lt, bcmp_le, bcmp_gt, bcmp_ge, bcmp_eq, bcmp_ne, bcmp_tup, bcmp_tupn, bcmp_lst, bcmp_lstn, biS, biC_len, biC_lenl, biC_min, biC_max, biC_isi, biC_list, bitem, storeItem, asBool, isNn, sattr, sset, sseti, sapp, notRaw, itemsOf, vget, vput, vputs, getF, putF, getK, List.map, List.map_cons, List.map_nil, List.length, List.length_cons, List.length_nil, Option.getD, Int.reduceToNat, Int.reduceSub, Int.reduceAdd, Int.reduceMul, Nat.reducePow, Nat.reduceSub, Nat.reduceAdd, Bool.not_true, Bool.not_false]; try simp only [tm23, List.cons_append, List.nil_append, List.getElem?_cons_zero, List.getElem?_cons_succ, List.getElem?_nil, bcmp_str, wps, wps1, wpe, wpes, wpt, wpMap, wpFor, wpForL, upto, rangeOf, bop_add, bop_sub, bop_mul, bop_fdiv, bop_mod, bop_tup, bcmp_lt, bcmp_le, bcmp_gt, bcmp_ge, bcmp_eq, bcmp_ne, bcmp_tup, bcmp_tupn, bcmp_lst, bcmp_lstn, biS, biC_len, biC_lenl, biC_min, biC_max, biC_isi, biC_list, bitem, storeItem, asBool, isNn, sattr, sset, sseti, sapp, notRaw, itemsOf, vget, vput, vputs, getF, putF, getK, List.map, List.map_cons, List.map_nil, List.length, List.length_cons, List.length_nil, Option.getD, Int.reduceToNat, Int.reduceSub, Int.reduceAdd, Int.reduceMul, Nat.reducePow, Nat.reduceSub, Nat.reduceAdd, Bool.not_true, Bool.not_false, List.length_append, Int.reduceLE, Int.reduceLT, Int.toNat_zero, Int.toNat_one, Int.le_refl, beq_self_eq_true, get_last, set_last, Nat.reduceEqDiff, Nat.reduceLT, Nat.reduceLeDiff, if_true, if_false, reduceIte, reduceCtorEq, true_and, and_true, or_true, true_or, or_false, false_or, or_self, and_self, forall_const, Bool.true_eq_false, Bool.false_eq_true, false_implies, true_implies, decide_true, decide_false]) | simp only [tm23, List.cons_append, List.nil_append, List.getElem?_cons_zero, List.getElem?_cons_succ, List.getElem?_nil, bcmp_str, wps, wps1, wpe, wpes, wpt, wpMap, wpFor, wpForL, upto, rangeOf, bop_add, bop_sub, bop_mul, bop_fdiv, bop_mod, bop_tup, bcmp_lt, bcmp_le, bcmp_gt, bcmp_ge, bcmp_eq, bcmp_ne, bcmp_tup, bcmp_tupn, bcmp_lst, bcmp_lstn, biS, biC_len, biC_lenl, biC_min, biC_max, biC_isi, biC_list, bitem, storeItem, asBool, isNn, sattr, sset, sseti, sapp, notRaw, itemsOf, vget, vput, vputs, getF, putF, getK, List.map, List.map_cons, List.map_nil, List.length, List.length_cons, List.length_nil, Option.getD, Int.reduceToNat, Int.reduceSub, Int.reduceAdd, Int.reduceMul, Nat.reducePow, Nat.reduceSub, Nat.reduceAdd, Bool.not_true, Bool.not_false, List.length_append, Int.reduceLE, Int.reduceLT, Int.toNat_zero, Int.toNat_one, Int.le_refl, beq_self_eq_true, get_last, set_last, Nat.reduceEqDiff, Nat.reduceLT, Nat.reduceLeDiff, if_true, if_false, reduceIte, reduceCtorEq, true_and, and_true, or_true, true_or, or_false, false_or, or_self, and_self, forall_const, Bool.true_eq_false, Bool.false_eq_true, false_implies, true_implies, decide_true, decide_false])
  exact ⟨⟨by omega, by omega⟩, h1⟩
theorem every_rng {W G : Int} (hW : 0 < W) (hG : 0 < G) : 1 ≤ every W G ∧ every W G ≤ W := by
  unfold every
  rw [Int.fdiv_eq_ediv_of_nonneg _ (by omega)]
  constructor
  · exact (Int.le_ediv_iff_mul_le hG).mpr (by omega)
  · have : (W + G - 1) / G < W + 1 := Int.ediv_lt_of_lt_mul hG (by
      have : 0 ≤ W * (G - 1) := Int.mul_nonneg (by omega) (by omega)
      rw [Int.mul_sub, Int.mul_one] at this
      rw [Int.add_mul, Int.one_mul]
      omega)
    omega
def sp231 : Spc := fun as sg K => ∃ B W G i : Int, as = [.int B, .int W, .int G, .int i] ∧ 0 < W ∧ W < 2 ^ 62 ∧ 0 ≤ G ∧ G < 2 ^ 62 ∧ K (.int (roomy B W G i)) sg
theorem w231 (h224 : ∀ as sg K, sp224 as sg K → O 224 as sg K) (h : sp231 as sg K) : as.length = 4 ∧ wps O tm24 (as.map some) sg (fun fl _ sg' => K (fl.getD .none) sg') := by
  obtain ⟨B, W, G, i, rfl, w0, w1, g0, g1, h1⟩ := h
  refine ⟨rfl, ?_⟩
  (first | (dsimp only [tm24, List.cons_append, List.nil_append, List.getElem?_cons_zero, List.getElem?_cons_succ, List.getElem?_nil, bcmp_str, wps, wps1, wpe, wpes, wpt, wpMap, wpFor, wpForL, upto, rangeOf, bop_add, bop_sub, bop_mul, bop_fdiv, bop_mod, bop_tup, bcmp_lt, bcmp_le, bcmp_gt, bcmp_ge, bcmp_eq, bcmp_ne, bcmp_tup, bcmp_tupn, bcmp_lst, bcmp_lstn, biS, biC_len, biC_lenl, biC_min, biC_max, biC_isi, biC_list, bitem, storeItem, asBool, isNn, sattr, sset, sseti, sapp, notRaw, itemsOf, vget, vput, vputs, getF, putF, getK, List.map, List.map_cons, List.map_nil, List.length, List.length_cons, List.length_nil, Option.getD, Int.reduceToNat, Int.reduceSub, Int.reduceAdd, Int.reduceMul, Nat.reducePow, Nat.reduceSub, Nat.reduceAdd, Bool.not_true, Bool.not_false]; try simp only [tm24, List.cons_append, List.nil_append, List.getElem?_cons_zero, List.getElem?_cons_succ, List.getElem?_nil, bcmp_str, wps, wps1, wpe, wpes, wpt, wpMap, wpFor, wpForL, upto, rangeOf, bop_add, bop_sub, bop_mul, bop_fdiv, bop_mod, bop_tup, bcmp_lt, bcmp_le, bcmp_gt, bcmp_ge, bcmp_eq, bcmp_ne, bcmp_tup, bcmp_tupn, bcmp_lst, bcmp_lstn, biS, biC_len, biC_lenl, biC_min, biC_max, biC_isi, biC_list, bitem, storeItem, asBool, isNn, sattr, sset, sseti, sapp, notRaw, itemsOf, vget, vput, vputs, getF, putF, getK, List.map, List.map_cons, List.map_nil, List.length, List.length_cons, List.length_nil, Option.getD, Int.reduceToNat, Int.reduceSub, Int.reduceAdd, Int.reduceMul, Nat.reducePow, Nat.reduceSub, Nat.reduceAdd, Bool.not_true, Bool.not_false, List.length_append, Int.reduceLE, Int.reduceLT, Int.toNat_zero, Int.toNat_one, Int.le_refl, beq_self_eq_true, get_last, set_last, Nat.reduceEqDiff, Nat.reduceLT, Nat.reduceLeDiff, if_true, if_false, reduceIte, reduceCtorEq, true_and, and_true, or_true, true_or, or_false, false_or, or_self, and_self, forall_const, Bool.true_eq_false, Bool.false_eq_true, false_implies, true_implies, decide_true, decide_false]) | simp only [tm24, List.cons_append, List.nil_append, List.getElem?_cons_zero, List.getElem?_cons_succ, List.getElem?_nil, bcmp_str, wps, wps1, wpe, wpes, wpt, wpMap, wpFor, wpForL, upto, rangeOf, bop_add, bop_sub, bop_mul, bop_fdiv, bop_mod, bop_tup, bcmp_lt, bcmp_le, bcmp_gt, bcmp_ge, bcmp_eq, bcmp_ne, bcmp_tup, bcmp_tupn, bcmp_lst, bcmp_lstn, biS, biC_len, biC_lenl, biC_min, biC_max, biC_isi, biC_list, bitem, storeItem, asBool, isNn, sattr, sset, sseti, sapp, notRaw, itemsOf, vget, vput, vputs, getF, putF, getK, List.map, List.map_cons, List.map_nil, List.length, List.length_cons, List.length_nil, Option.getD, Int.reduceToNat, Int.reduceSub, Int.reduceAdd, Int.reduceMul, Nat.reducePow, Nat.reduceSub, Nat.reduceAdd, Bool.not_true, Bool.not_false, List.length_append, Int.reduceLE, Int.reduceLT, Int.toNat_zero, Int.toNat_one, Int.le_refl, beq_self_eq_true, get_last, set_last, Nat.reduceEqDiff, Nat.reduceLT, Nat.reduceLeDiff, if_true, if_false, reduceIte, reduceCtorEq, true_and, and_true, or_true, true_or, or_false, false_or, or_self, and_self, forall_const, Bool.true_eq_false, Bool.false_eq_true, false_implies, true_implies, decide_true, decide_false])
  unfold roomy at h1
  refine ⟨fun c1 => ?_, fun c1 => ⟨fun c2 => ?_, fun c2 => ⟨fun c3 => ⟨fun c4 => ?_, fun c4 => ?_⟩, fun c3 => ?_⟩⟩⟩
  all_goals (try rw [decide_eq_true_eq] at c1); (try rw [decide_eq_false_iff_not] at c1); (try rw [decide_eq_true_eq] at c2); (try rw [decide_eq_false_iff_not] at c2); (try rw [decide_eq_true_eq] at c3); (try rw [decide_eq_false_iff_not] at c3); (try rw [decide_eq_true_eq] at c4); (try rw [decide_eq_false_iff_not] at c4)
  · rw [if_pos c1] at h1; exact h1
  · rw [if_neg c1, if_pos c2] at h1; exact h1
  · rw [if_neg c1, if_neg c2, if_pos ⟨c3, c4⟩] at h1
    have e := every_rng w0 c4
    refine h224 _ _ _ ⟨W, G, rfl, c4, g1, ?_⟩
    (first | (dsimp only [List.cons_append, List.nil_append, List.getElem?_cons_zero, List.getElem?_cons_succ, List.getElem?_nil, bcmp_str, wps, wps1, wpe, wpes, wpt, wpMap, wpFor, wpForL, upto, rangeOf, bop_add, bop_sub, bop_mul, bop_fdiv, bop_mod, bop_tup, bcmp_lt, bcmp_le, bcmp_gt, bcmp_ge, bcmp_eq, bcmp_ne, bcmp_tup, bcmp_tupn, bcmp_lst, bcmp_lstn, biS, biC_len, biC_lenl, biC_min, biC_max, biC_isi, biC_list, bitem, storeItem, asBool, isNn, sattr, sset, sseti, sapp, notRaw, itemsOf, vget, vput, vputs, getF, putF, getK, List.map, List.map_cons, List.map_nil, List.length, List.length_cons, List.length_nil, Option.getD, Int.reduceToNat, Int.reduceSub, Int.reduceAdd, Int.reduceMul, Nat.reducePow, Nat.reduceSub, Nat.reduceAdd, Bool.not_true, Bool.not_false]; try simp only [List.cons_append, List.nil_append, List.getElem?_cons_zero, List.getElem?_cons_succ, List.getElem?_nil, bcmp_str, wps, wps1, wpe, wpes, wpt, wpMap, wpFor, wpForL, upto, rangeOf, bop_add, bop_sub, bop_mul, bop_fdiv, bop_mod, bop_tup, bcmp_lt, bcmp_le, bcmp_gt, bcmp_ge, bcmp_eq, bcmp_ne, bcmp_tup, bcmp_tupn, bcmp_lst, bcmp_lstn, biS, biC_len, biC_lenl, biC_min, biC_max, biC_isi, biC_list, bitem, storeItem, asBool, isNn, sattr, sset, sseti, sapp, notRaw, itemsOf, vget, vput, vputs, getF, putF, getK, List.map, List.map_cons, List.map_nil, List.length, List.length_cons, List.length_nil, Option.getD, Int.reduceToNat, Int.reduceSub, Int.reduceAdd, Int.reduceMul, Nat.reducePow, Nat.reduceSub, Nat.reduceAdd, Bool.not_true, Bool.not_false, List.length_append, Int.reduceLE, Int.reduceLT, Int.toNat_zero, Int.toNat_one, Int.le_refl, beq_self_eq_true, get_last, set_last, Nat.reduceEqDiff, Nat.reduceLT, Nat.reduceLeDiff, if_true, if_false, reduceIte, reduceCtorEq, true_and, and_true, or_true, true_or, or_false, false_or, or_self, and_self, forall_const, Bool.true_eq_false, Bool.false_eq_true, false_implies, true_implies, decide_true, decide_false]) | simp only [List.cons_append, List.nil_append, List.getElem?_cons_zero, List.getElem?_cons_succ, List.getElem?_nil, bcmp_str, wps, wps1, wpe, wpes, wpt, wpMap, wpFor, wpForL, upto, rangeOf, bop_add, bop_sub, bop_mul, bop_fdiv, bop_mod, bop_tup, bcmp_lt, bcmp_le, bcmp_gt, bcmp_ge, bcmp_eq, bcmp_ne, bcmp_tup, bcmp_tupn, bcmp_lst, bcmp_lstn, biS, biC_len, biC_lenl, biC_min, biC_max, biC_isi, biC_list, bitem, storeItem, asBool, isNn, sattr, sset, sseti, sapp, notRaw, itemsOf, vget, vput, vputs, getF, putF, getK, List.map, List.map_cons, List.map_nil, List.length, List.length_cons, List.length_nil, Option.getD, Int.reduceToNat, Int.reduceSub, Int.reduceAdd, Int.reduceMul, Nat.reducePow, Nat.reduceSub, Nat.reduceAdd, Bool.not_true, Bool.not_false, List.length_append, Int.reduceLE, Int.reduceLT, Int.toNat_zero, Int.toNat_one, Int.le_refl, beq_self_eq_true, get_last, set_last, Nat.reduceEqDiff, Nat.reduceLT, Nat.reduceLeDiff, if_true, if_false, reduceIte, reduceCtorEq, true_and, and_true, or_true, true_or, or_false, false_or, or_self, and_self, forall_const, Bool.true_eq_false, Bool.false_eq_true, false_implies, true_implies, decide_true, decide_false])
    refine h224 _ _ _ ⟨W, G, rfl, c4, g1, ?_⟩
    (first | (dsimp only [List.cons_append, List.nil_append, List.getElem?_cons_zero, List.getElem?_cons_succ, List.getElem?_nil, bcmp_str, wps, wps1, wpe, wpes, wpt, wpMap, wpFor, wpForL, upto, rangeOf, bop_add, bop_sub, bop_mul, bop_fdiv, bop_mod, bop_tup, bcmp_lt, bcmp_le, bcmp_gt, bcmp_ge, bcmp_eq, bcmp_ne, bcmp_tup, bcmp_tupn, bcmp_lst, bcmp_lstn, biS, biC_len, biC_lenl, biC_min, biC_max, biC_isi, biC_list, bitem, storeItem, asBool, isNn, sattr, sset, sseti, sapp, notRaw, itemsOf, vget, vput, vputs, getF, putF, getK, List.map, List.map_cons, List.map_nil, List.length, List.length_cons, List.length_nil, Option.getD, Int.reduceToNat, Int.reduceSub, Int.reduceAdd, Int.reduceMul, Nat.reducePow, Nat.reduceSub, Nat.reduceAdd, Bool.not_true, Bool.not_false]; try simp only [List.cons_append, List.nil_append, List.getElem?_cons_zero, List.getElem?_cons_succ, List.getElem?_nil, bcmp_str, wps, wps1, wpe, wpes, wpt, wpMap, wpFor, wpForL, upto, rangeOf, bop_add, bop_sub, bop_mul, bop_fdiv, bop_mod, bop_tup, bcmp_lt, bcmp_le, bcmp_gt, bcmp_ge, bcmp_eq, bcmp_ne, bcmp_tup, bcmp_tupn, bcmp_lst, bcmp_lstn, biS, biC_len, biC_lenl, biC_min, biC_max, biC_isi, biC_list, bitem, storeItem, asBool, isNn, sattr, sset, sseti, sapp, notRaw, itemsOf, vget, vput, vputs, getF, putF, getK, List.map, List.map_cons, List.map_nil, List.length, List.length_cons, List.length_nil, Option.getD, Int.reduceToNat, Int.reduceSub, Int.reduceAdd, Int.reduceMul, Nat.reducePow, Nat.reduceSub, Nat.reduceAdd, Bool.not_true, Bool.not_false, List.length_append, Int.reduceLE, Int.reduceLT, Int.toNat_zero, Int.toNat_one, Int.le_refl, beq_self_eq_true, get_last, set_last, Nat.reduceEqDiff, Nat.reduceLT, Nat.reduceLeDiff, if_true, if_false, reduceIte, reduceCtorEq, true_and, and_true, or_true, true_or, or_false, false_or, or_self, and_self, forall_const, Bool.true_eq_false, Bool.false_eq_true, false_implies, true_implies, decide_true, decide_false]) | simp only [List.cons_append, List.nil_append, List.getElem?_cons_zero, List.getElem?_cons_succ, List.getElem?_nil, bcmp_str, wps, wps1, wpe, wpes, wpt, wpMap, wpFor, wpForL, upto, rangeOf, bop_add, bop_sub, bop_mul, bop_fdiv, bop_mod, bop_tup, bcmp_lt, bcmp_le, bcmp_gt, bcmp_ge, bcmp_eq, bcmp_ne, bcmp_tup, bcmp_tupn, bcmp_lst, bcmp_lstn, biS, biC_len, biC_lenl, biC_min, biC_max, biC_isi, biC_list, bitem, storeItem, asBool, isNn, sattr, sset, sseti, sapp, notRaw, itemsOf, vget, vput, vputs, getF, putF, getK, List.map, List.map_cons, List.map_nil, List.length, List.length_cons, List.length_nil, Option.getD, Int.reduceToNat, Int.reduceSub, Int.reduceAdd, Int.reduceMul, Nat.reducePow, Nat.reduceSub, Nat.reduceAdd, Bool.not_true, Bool.not_false, List.length_append, Int.reduceLE, Int.reduceLT, Int.toNat_zero, Int.toNat_one, Int.le_refl, beq_self_eq_true, get_last, set_last, Nat.reduceEqDiff, Nat.reduceLT, Nat.reduceLeDiff, if_true, if_false, reduceIte, reduceCtorEq, true_and, and_true, or_true, true_or, or_false, false_or, or_self, and_self, forall_const, Bool.true_eq_false, Bool.false_eq_true, false_implies, true_implies, decide_true, decide_false])
    exact ⟨⟨by omega, by omega⟩, h1⟩
  · rw [if_neg c1, if_neg c2, if_neg (fun q => c4 q.2)] at h1
    refine ⟨by omega, ⟨by omega, by omega⟩, h1⟩
  · rw [if_neg c1, if_neg c2, if_neg (fun q => c3 q.1)] at h1
    refine ⟨by omega, ⟨by omega, by omega⟩, h1⟩
def sp238 : Spc := fun as sg K => ∃ B W G i : Int, as = [.int B, .int W, .int G, .int i] ∧ 0 < W ∧ W < 2 ^ 62 ∧ 0 ≤ G ∧ G < 2 ^ 62 ∧ K (.int (toks B W G i)) sg
theorem w238 (h224 : ∀ as sg K, sp224 as sg K → O 224 as sg K) (h231 : ∀ as sg K, sp231 as sg K → O 231 as sg K) (h : sp238 as sg K) : as.length = 4 ∧ wps O tm25 (as.map some) sg (fun fl _ sg' => K (fl.getD .none) sg') := by
  obtain ⟨B, W, G, i, rfl, w0, w1, g0, g1, h1⟩ := h
  refine ⟨rfl, ?_⟩
  (first | (dsimp only [tm25, List.cons_append, List.nil_append, List.getElem?_cons_zero, List.getElem?_cons_succ, List.getElem?_nil, bcmp_str, wps, wps1, wpe, wpes, wpt, wpMap, wpFor, wpForL, upto, rangeOf, bop_add, bop_sub, bop_mul, bop_fdiv, bop_mod, bop_tup, bcmp_lt, bcmp_le, bcmp_gt, bcmp_ge, bcmp_eq, bcmp_ne, bcmp_tup, bcmp_tupn, bcmp_lst, bcmp_lstn, biS, biC_len, biC_lenl, biC_min, biC_max, biC_isi, biC_list, bitem, storeItem, asBool, isNn, sattr, sset, sseti, sapp, notRaw, itemsOf, vget, vput, vputs, getF, putF, getK, List.map, List.map_cons, List.map_nil, List.length, List.length_cons, List.length_nil, Option.getD, Int.reduceToNat, Int.reduceSub, Int.reduceAdd, Int.reduceMul, Nat.reducePow, Nat.reduceSub, Nat.reduceAdd, Bool.not_true, Bool.not_false]; try simp only [tm25, List.cons_append, List.nil_append, List.getElem?_cons_zero, List.getElem?_cons_succ, List.getElem?_nil, bcmp_str, wps, wps1, wpe, wpes, wpt, wpMap, wpFor, wpForL, upto, rangeOf, bop_add, bop_sub, bop_mul, bop_fdiv, bop_mod, bop_tup, bcmp_lt, bcmp_le, bcmp_gt, bcmp_ge, bcmp_eq, bcmp_ne, bcmp_tup, bcmp_tupn, bcmp_lst, bcmp_lstn, biS, biC_len, biC_lenl, biC_min, biC_max, biC_isi, biC_list, bitem, storeItem, asBool, isNn, sattr, sset, sseti, sapp, notRaw, itemsOf, vget, vput, vputs, getF, putF, getK, List.map, List.map_cons, List.map_nil, List.length, List.length_cons, List.length_nil, Option.getD, Int.reduceToNat, Int.reduceSub, Int.reduceAdd, Int.reduceMul, Nat.reducePow, Nat.reduceSub, Nat.reduceAdd, Bool.not_true, Bool.not_false, List.length_append, Int.reduceLE, Int.reduceLT, Int.toNat_zero, Int.toNat_one, Int.le_refl, beq_self_eq_true, get_last, set_last, Nat.reduceEqDiff, Nat.reduceLT, Nat.reduceLeDiff, if_true, if_false, reduceIte, reduceCtorEq, true_and, and_true, or_true, true_or, or_false, false_or, or_self, and_self, forall_const, Bool.true_eq_false, Bool.false_eq_true, false_implies, true_implies, decide_true, decide_false]) | simp only [tm25, List.cons_append, List.nil_append, List.getElem?_cons_zero, List.getElem?_cons_succ, List.getElem?_nil, bcmp_str, wps, wps1, wpe, wpes, wpt, wpMap, wpFor, wpForL, upto, rangeOf, bop_add, bop_sub, bop_mul, bop_fdiv, bop_mod, bop_tup, bcmp_lt, bcmp_le, bcmp_gt, bcmp_ge, bcmp_eq, bcmp_ne, bcmp_tup, bcmp_tupn, bcmp_lst, bcmp_lstn, biS, biC_len, biC_lenl, biC_min, biC_max, biC_isi, biC_list, bitem, storeItem, asBool, isNn, sattr, sset, sseti, sapp, notRaw, itemsOf, vget, vput, vputs, getF, putF, getK, List.map, List.map_cons, List.map_nil, List.length, List.length_cons, List.length_nil, Option.getD, Int.reduceToNat, Int.reduceSub, Int.reduceAdd, Int.reduceMul, Nat.reducePow, Nat.reduceSub, Nat.reduceAdd, Bool.not_true, Bool.not_false, List.length_append, Int.reduceLE, Int.reduceLT, Int.toNat_zero, Int.toNat_one, Int.le_refl, beq_self_eq_true, get_last, set_last, Nat.reduceEqDiff, Nat.reduceLT, Nat.reduceLeDiff, if_true, if_false, reduceIte, reduceCtorEq, true_and, and_true, or_true, true_or, or_false, false_or, or_self, and_self, forall_const, Bool.true_eq_false, Bool.false_eq_true, false_implies, true_implies, decide_true, decide_false])
  unfold toks at h1
  refine ⟨fun c1 => ?_, fun c1 => ⟨fun c2 => ?_, fun c2 => ⟨fun c3 => ⟨fun c4 => ?_, fun c4 => ?_⟩, fun c3 => ?_⟩⟩⟩
  all_goals (try rw [decide_eq_true_eq] at c1); (try rw [decide_eq_false_iff_not] at c1); (try rw [decide_eq_true_eq] at c2); (try rw [decide_eq_false_iff_not] at c2); (try rw [decide_eq_true_eq] at c3); (try rw [decide_eq_false_iff_not] at c3); (try rw [decide_eq_true_eq] at c4); (try rw [decide_eq_false_iff_not] at c4)
  · rw [if_pos c1] at h1; exact h1
  · rw [if_neg c1, if_pos c2] at h1; exact h1
  · rw [if_neg c1, if_neg c2, if_pos ⟨c3, c4⟩] at h1
    have e := every_rng w0 c4
    refine h224 _ _ _ ⟨W, G, rfl, c4, g1, ?_⟩
    (first | (dsimp only [List.cons_append, List.nil_append, List.getElem?_cons_zero, List.getElem?_cons_succ, List.getElem?_nil, bcmp_str, wps, wps1, wpe, wpes, wpt, wpMap, wpFor, wpForL, upto, rangeOf, bop_add, bop_sub, bop_mul, bop_fdiv, bop_mod, bop_tup, bcmp_lt, bcmp_le, bcmp_gt, bcmp_ge, bcmp_eq, bcmp_ne, bcmp_tup, bcmp_tupn, bcmp_lst, bcmp_lstn, biS, biC_len, biC_lenl, biC_min, biC_max, biC_isi, biC_list, bitem, storeItem, asBool, isNn, sattr, sset, sseti, sapp, notRaw, itemsOf, vget, vput, vputs, getF, putF, getK, List.map, List.map_cons, List.map_nil, List.length, List.length_cons, List.length_nil, Option.getD, Int.reduceToNat, Int.reduceSub, Int.reduceAdd, Int.reduceMul, Nat.reducePow, Nat.reduceSub, Nat.reduceAdd, Bool.not_true, Bool.not_false]; try simp only [List.cons_append, List.nil_append, List.getElem?_cons_zero, List.getElem?_cons_succ, List.getElem?_nil, bcmp_str, wps, wps1, wpe, wpes, wpt, wpMap, wpFor, wpForL, upto, rangeOf, bop_add, bop_sub, bop_mul, bop_fdiv, bop_mod, bop_tup, bcmp_lt, bcmp_le, bcmp_gt, bcmp_ge, bcmp_eq, bcmp_ne, bcmp_tup, bcmp_tupn, bcmp_lst, bcmp_lstn, biS, biC_len, biC_lenl, biC_min, biC_max, biC_isi, biC_list, bitem, storeItem, asBool, isNn, sattr, sset, sseti, sapp, notRaw, itemsOf, vget, vput, vputs, getF, putF, getK, List.map, List.map_cons, List.map_nil, List.length, List.length_cons, List.length_nil, Option.getD, Int.reduceToNat, Int.reduceSub, Int.reduceAdd, Int.reduceMul, Nat.reducePow, Nat.reduceSub, Nat.reduceAdd, Bool.not_true, Bool.not_false, List.length_append, Int.reduceLE, Int.reduceLT, Int.toNat_zero, Int.toNat_one, Int.le_refl, beq_self_eq_true, get_last, set_last, Nat.reduceEqDiff, Nat.reduceLT, Nat.reduceLeDiff, if_true, if_false, reduceIte, reduceCtorEq, true_and, and_true, or_true, true_or, or_false, false_or, or_self, and_self, forall_const, Bool.true_eq_false, Bool.false_eq_true, false_implies, true_implies, decide_true, decide_false]) | simp only [List.cons_append, List.nil_append, List.getElem?_cons_zero, List.getElem?_cons_succ, List.getElem?_nil, bcmp_str, wps, wps1, wpe, wpes, wpt, wpMap, wpFor, wpForL, upto, rangeOf, bop_add, bop_sub, bop_mul, bop_fdiv, bop_mod, bop_tup, bcmp_lt, bcmp_le, bcmp_gt, bcmp_ge, bcmp_eq, bcmp_ne, bcmp_tup, bcmp_tupn, bcmp_lst, bcmp_lstn, biS, biC_len, biC_lenl, biC_min, biC_max, biC_isi, biC_list, bitem, storeItem, asBool, isNn, sattr, sset, sseti, sapp, notRaw, itemsOf, vget, vput, vputs, getF, putF, getK, List.map, List.map_cons, List.map_nil, List.length, List.length_cons, List.length_nil, Option.getD, Int.reduceToNat, Int.reduceSub, Int.reduceAdd, Int.reduceMul, Nat.reducePow, Nat.reduceSub, Nat.reduceAdd, Bool.not_true, Bool.not_false, List.length_append, Int.reduceLE, Int.reduceLT, Int.toNat_zero, Int.toNat_one, Int.le_refl, beq_self_eq_true, get_last, set_last, Nat.reduceEqDiff, Nat.reduceLT, Nat.reduceLeDiff, if_true, if_false, reduceIte, reduceCtorEq, true_and, and_true, or_true, true_or, or_false, false_or, or_self, and_self, forall_const, Bool.true_eq_false, Bool.false_eq_true, false_implies, true_implies, decide_true, decide_false])
    exact ⟨by omega, by omega, h1⟩
  · rw [if_neg c1, if_neg c2, if_neg (fun q => c4 q.2)] at h1
    refine ⟨by omega, h231 _ _ _ ⟨B, W, G, i, rfl, w0, w1, g0, g1, ?_⟩⟩
    (first | (dsimp only [List.cons_append, List.nil_append, List.getElem?_cons_zero, List.getElem?_cons_succ, List.getElem?_nil, bcmp_str, wps, wps1, wpe, wpes, wpt, wpMap, wpFor, wpForL, upto, rangeOf, bop_add, bop_sub, bop_mul, bop_fdiv, bop_mod, bop_tup, bcmp_lt, bcmp_le, bcmp_gt, bcmp_ge, bcmp_eq, bcmp_ne, bcmp_tup, bcmp_tupn, bcmp_lst, bcmp_lstn, biS, biC_len, biC_lenl, biC_min, biC_max, biC_isi, biC_list, bitem, storeItem, asBool, isNn, sattr, sset, sseti, sapp, notRaw, itemsOf, vget, vput, vputs, getF, putF, getK, List.map, List.map_cons, List.map_nil, List.length, List.length_cons, List.length_nil, Option.getD, Int.reduceToNat, Int.reduceSub, Int.reduceAdd, Int.reduceMul, Nat.reducePow, Nat.reduceSub, Nat.reduceAdd, Bool.not_true, Bool.not_false]; try simp only [List.cons_append, List.nil_append, List.getElem?_cons_zero, List.getElem?_cons_succ, List.getElem?_nil, bcmp_str, wps, wps1, wpe, wpes, wpt, wpMap, wpFor, wpForL, upto, rangeOf, bop_add, bop_sub, bop_mul, bop_fdiv, bop_mod, bop_tup, bcmp_lt, bcmp_le, bcmp_gt, bcmp_ge, bcmp_eq, bcmp_ne, bcmp_tup, bcmp_tupn, bcmp_lst, bcmp_lstn, biS, biC_len, biC_lenl, biC_min, biC_max, biC_isi, biC_list, bitem, storeItem, asBool, isNn, sattr, sset, sseti, sapp, notRaw, itemsOf, vget, vput, vputs, getF, putF, getK, List.map, List.map_cons, List.map_nil, List.length, List.length_cons, List.length_nil, Option.getD, Int.reduceToNat, Int.reduceSub, Int.reduceAdd, Int.reduceMul, Nat.reducePow, Nat.reduceSub, Nat.reduceAdd, Bool.not_true, Bool.not_false, List.length_append, Int.reduceLE, Int.reduceLT, Int.toNat_zero, Int.toNat_one, Int.le_refl, beq_self_eq_true, get_last, set_last, Nat.reduceEqDiff, Nat.reduceLT, Nat.reduceLeDiff, if_true, if_false, reduceIte, reduceCtorEq, true_and, and_true, or_true, true_or, or_false, false_or, or_self, and_self, forall_const, Bool.true_eq_false, Bool.false_eq_true, false_implies, true_implies, decide_true, decide_false]) | simp only [List.cons_append, List.nil_append, List.getElem?_cons_zero, List.getElem?_cons_succ, List.getElem?_nil, bcmp_str, wps, wps1, wpe, wpes, wpt, wpMap, wpFor, wpForL, upto, rangeOf, bop_add, bop_sub, bop_mul, bop_fdiv, bop_mod, bop_tup, bcmp_lt, bcmp_le, bcmp_gt, bcmp_ge, bcmp_eq, bcmp_ne, bcmp_tup, bcmp_tupn, bcmp_lst, bcmp_lstn, biS, biC_len, biC_lenl, biC_min, biC_max, biC_isi, biC_list, bitem, storeItem, asBool, isNn, sattr, sset, sseti, sapp, notRaw, itemsOf, vget, vput, vputs, getF, putF, getK, List.map, List.map_cons, List.map_nil, List.length, List.length_cons, List.length_nil, Option.getD, Int.reduceToNat, Int.reduceSub, Int.reduceAdd, Int.reduceMul, Nat.reducePow, Nat.reduceSub, Nat.reduceAdd, Bool.not_true, Bool.not_false, List.length_append, Int.reduceLE, Int.reduceLT, Int.toNat_zero, Int.toNat_one, Int.le_refl, beq_self_eq_true, get_last, set_last, Nat.reduceEqDiff, Nat.reduceLT, Nat.reduceLeDiff, if_true, if_false, reduceIte, reduceCtorEq, true_and, and_true, or_true, true_or, or_false, false_or, or_self, and_self, forall_const, Bool.true_eq_false, Bool.false_eq_true, false_implies, true_implies, decide_true, decide_false])
    exact ⟨by omega, h1⟩
  · rw [if_neg c1, if_neg c2, if_neg (fun q => c3 q.1)] at h1
    refine ⟨by omega, h231 _ _ _ ⟨B, W, G, i, rfl, w0, w1, g0, g1, ?_⟩⟩
    (first | (dsimp only [List.cons_append, List.nil_append, List.getElem?_cons_zero, List.getElem?_cons_succ, List.getElem?_nil, bcmp_str, wps, wps1, wpe, wpes, wpt, wpMap, wpFor, wpForL, upto, rangeOf, bop_add, bop_sub, bop_mul, bop_fdiv, bop_mod, bop_tup, bcmp_lt, bcmp_le, bcmp_gt, bcmp_ge, bcmp_eq, bcmp_ne, bcmp_tup, bcmp_tupn, bcmp_lst, bcmp_lstn, biS, biC_len, biC_lenl, biC_min, biC_max, biC_isi, biC_list, bitem, storeItem, asBool, isNn, sattr, sset, sseti, sapp, notRaw, itemsOf, vget, vput, vputs, getF, putF, getK, List.map, List.map_cons, List.map_nil, List.length, List.length_cons, List.length_nil, Option.getD, Int.reduceToNat, Int.reduceSub, Int.reduceAdd, Int.reduceMul, Nat.reducePow, Nat.reduceSub, Nat.reduceAdd, Bool.not_true, Bool.not_false]; try simp only [List.cons_append, List.nil_append, List.getElem?_cons_zero, List.getElem?_cons_succ, List.getElem?_nil, bcmp_str, wps, wps1, wpe, wpes, wpt, wpMap, wpFor, wpForL, upto, rangeOf, bop_add, bop_sub, bop_mul, bop_fdiv, bop_mod, bop_tup, bcmp_lt, bcmp_le, bcmp_gt, bcmp_ge, bcmp_eq, bcmp_ne, bcmp_tup, bcmp_tupn, bcmp_lst, bcmp_lstn, biS, biC_len, biC_lenl, biC_min, biC_max, biC_isi, biC_list, bitem, storeItem, asBool, isNn, sattr, sset, sseti, sapp, notRaw, itemsOf, vget, vput, vputs, getF, putF, getK, List.map, List.map_cons, List.map_nil, List.length, List.length_cons, List.length_nil, Option.getD, Int.reduceToNat, Int.reduceSub, Int.reduceAdd, Int.reduceMul, Nat.reducePow, Nat.reduceSub, Nat.reduceAdd, Bool.not_true, Bool.not_false, List.length_append, Int.reduceLE, Int.reduceLT, Int.toNat_zero, Int.toNat_one, Int.le_refl, beq_self_eq_true, get_last, set_last, Nat.reduceEqDiff, Nat.reduceLT, Nat.reduceLeDiff, if_true, if_false, reduceIte, reduceCtorEq, true_and, and_true, or_true, true_or, or_false, false_or, or_self, and_self, forall_const, Bool.true_eq_false, Bool.false_eq_true, false_implies, true_implies, decide_true, decide_false]) | simp only [List.cons_append, List.nil_append, List.getElem?_cons_zero, List.getElem?_cons_succ, List.getElem?_nil, bcmp_str, wps, wps1, wpe, wpes, wpt, wpMap, wpFor, wpForL, upto, rangeOf, bop_add, bop_sub, bop_mul, bop_fdiv, bop_mod, bop_tup, bcmp_lt, bcmp_le, bcmp_gt, bcmp_ge, bcmp_eq, bcmp_ne, bcmp_tup, bcmp_tupn, bcmp_lst, bcmp_lstn, biS, biC_len, biC_lenl, biC_min, biC_max, biC_isi, biC_list, bitem, storeItem, asBool, isNn, sattr, sset, sseti, sapp, notRaw, itemsOf, vget, vput, vputs, getF, putF, getK, List.map, List.map_cons, List.map_nil, List.length, List.length_cons, List.length_nil, Option.getD, Int.reduceToNat, Int.reduceSub, Int.reduceAdd, Int.reduceMul, Nat.reducePow, Nat.reduceSub, Nat.reduceAdd, Bool.not_true, Bool.not_false, List.length_append, Int.reduceLE, Int.reduceLT, Int.toNat_zero, Int.toNat_one, Int.le_refl, beq_self_eq_true, get_last, set_last, Nat.reduceEqDiff, Nat.reduceLT, Nat.reduceLeDiff, if_true, if_false, reduceIte, reduceCtorEq, true_and, and_true, or_true, true_or, or_false, false_or, or_self, and_self, forall_const, Bool.true_eq_false, Bool.false_eq_true, false_implies, true_implies, decide_true, decide_false])
    exact ⟨by omega, h1⟩
end
end Mine
end
section
open PySem PySem.W PySem.Calls PyProof.Rows PySem.Spec
namespace Mine
/-! a list that a def made goes back and stays as it is -/
theorem VR.cut {fz fz' : Led} {al be : List (Addr × Addr)} {d : V} {v v' : Value} (h : VR fz al v d) : VR fz' (al ++ be) v' d → VR fz' al v' d := by
  revert v'
  refine VR.rec (motive_1 := fun _ d _ => ∀ {v' : Value}, VR fz' (al ++ be) v' d → VR fz' al v' d) (motive_2 := fun _ ds _ => ∀ {v' : List Value}, VRs fz' (al ++ be) v' ds → VRs fz' al v' ds) ?_ ?_ ?_ ?_ ?_ ?_ ?_ ?_ ?_ ?_ h
  · intro _ h; cases h; exact .none
  · intro _ _ h; cases h; exact .bool _
  · intro _ _ _ h; cases h; exact .int _ _
  · intro _ _ _ h; cases h; exact .str _ _
  · intro _ _ h; cases h; exact .raw _
  · intro _ _ _ _ _ _ ih _ h; cases h with | tup a b => exact .tup a (ih b)
  · intro _ _ _ _ _ _ ih _ h; cases h with | lst a b => exact .lst a (ih b)
  · intro _ _ _ hal _ h
    cases h with
    | obj h' =>
      rw [List.getElem?_append_left (List.getElem?_eq_some_iff.mp hal).1] at h'
      exact .obj h'
  · intro _ h; cases h; exact .nil
  · intro _ _ _ _ _ _ i1 i2 _ h; cases h with | cons a b => exact .cons (i1 a) (i2 b)
theorem VRs.cut {fz fz' : Led} {al be : List (Addr × Addr)} {ds : List V} : ∀ {v v' : List Value}, VRs fz al v ds → VRs fz' (al ++ be) v' ds → VRs fz' al v' ds := by
  induction ds with
  | nil => intro _ _ _ h; cases h; exact .nil
  | cons d ds ih =>
    intro _ _ h h'
    cases h with
    | cons a b => cases h' with
      | cons a' b' => exact .cons (a.cut a') (ih b b')
theorem py_tup {ds : List V} (h : (V.tup ds).py ≠ Option.none) : V.pys ds ≠ Option.none := fun e => h (by unfold V.py; rw [e]; rfl)
theorem py_lst {ds : List V} (h : (V.lst ds).py ≠ Option.none) : V.pys ds ≠ Option.none := fun e => h (by unfold V.py; rw [e]; rfl)
theorem py_hd {d : V} {ds : List V} (h : V.pys (d :: ds) ≠ Option.none) : d.py ≠ Option.none := fun e => h (by unfold V.pys; rw [e])
theorem py_tl {d : V} {ds : List V} (h : V.pys (d :: ds) ≠ Option.none) : V.pys ds ≠ Option.none := fun e => h (by unfold V.pys; rw [e]; cases d.py <;> rfl)
theorem VR.flat0 {fz : Led} {al bl : List (Addr × Addr)} {d : V} {v : Value} (h : VR fz bl v d) : d.py ≠ Option.none → VR fz al v d :=
  VR.rec (motive_1 := fun v d _ => d.py ≠ Option.none → VR fz al v d) (motive_2 := fun vs ds _ => V.pys ds ≠ Option.none → VRs fz al vs ds)
    (fun _ => .none) (fun b _ => .bool b) (fun i t _ => .int i t) (fun x t _ => .str x t) (fun _ h => absurd rfl h) (fun a _ ih h => .tup a (ih (py_tup h))) (fun a _ ih h => .lst a (ih (py_lst h))) (fun _ h => absurd rfl h)
    (fun _ => .nil) (fun _ _ i1 i2 h => .cons (i1 (py_hd h)) (i2 (py_tl h))) h
theorem VR.flat {fz : Led} {al be : List (Addr × Addr)} {d : V} {v : Value} (h : d.py ≠ Option.none) (r : VR fz (al ++ be) v d) : VR fz al v d := r.flat0 h
theorem VRs.flat {fz : Led} {al be : List (Addr × Addr)} {ds : List V} : ∀ {v : List Value}, V.pys ds ≠ Option.none → VRs fz (al ++ be) v ds → VRs fz al v ds := by
  induction ds with
  | nil => intro _ _ h; cases h; exact .nil
  | cons d ds ih =>
    intro _ h h'
    cases h' with
    | cons a b => exact .cons (a.flat (py_hd h)) (ih (py_tl h) b)
theorem FR.cut {fz fz' : Led} {al be : List (Addr × Addr)} {fs : List (Nat × V)} : ∀ {es es' : List DictEntry}, FR fz al es fs → FR fz' (al ++ be) es' fs → FR fz' al es' fs := by
  induction fs with
  | nil => intro es es' _ h; cases h; exact .nil
  | cons p fs ih =>
    intro es es' h h'
    cases h with
    | cons a b c => cases h' with
      | cons a' b' c' => exact .cons a' (b.cut b') (ih c c')
theorem KR.cut {fz fz' : Led} {al be : List (Addr × Addr)} {fs : List (Int × V)} : ∀ {es es' : List (Int × Value)}, KR fz al es fs → KR fz' (al ++ be) es' fs → KR fz' al es' fs := by
  induction fs with
  | nil => intro es es' _ h; cases h; exact .nil
  | cons p fs ih =>
    intro es es' h h'
    cases h with
    | cons b c => cases h' with
      | cons b' c' => exact .cons (b.cut b') (ih c c')
theorem OR.cut {w : World} {mu mu' mu'' fz fz' fz'' : Led} {al be : List (Addr × Addr)} {a dx a' dx' : Addr} {oa : OA} (h : OR w mu fz al a dx oa) (h' : OR w mu' fz' (al ++ be) a' dx' oa) (hm : ∀ p ∈ mu', p.1 = dx' → p ∈ mu'') (hz : ∀ p ∈ fz', p ∈ fz'') : OR w mu'' fz'' al a' dx' oa := by
  have e : al = al ++ [] := by simp
  cases oa with
  | inst c fs =>
    obtain ⟨_, es, n, _, h3⟩ := h
    obtain ⟨k1, es', n', k2, k3⟩ := h'
    exact ⟨hz _ k1, es', n', hm _ k2 rfl, by rw [e]; exact (h3.cut k3).mono hz⟩
  | lst vs =>
    obtain ⟨_, ws, n, _, h3⟩ := h
    obtain ⟨k1, ws', n', k2, k3⟩ := h'
    exact ⟨k1, ws', n', hm _ k2 k1, by rw [e]; exact (h3.cut k3).mono hz⟩
  | dct kvs =>
    obtain ⟨_, _, o, es, _, _, h3⟩ := h
    obtain ⟨k1, k0, o', es', k2, k4, k3⟩ := h'
    exact ⟨k1, k0, o', es', hm _ k2 k1, k4, by rw [e]; exact (h3.cut k3).mono hz⟩
theorem St.freeze {w : World} {h₀ h h' : Heap} {L : Addr} {m m' : Str → Option Value} {mu fz mu' fz' : Led} {al al' : List (Addr × Addr)} {sg : Sto} {ds : List V} {val : Value} (S : St w h₀ L h m mu fz al sg) (S' : St w h₀ L h' m' mu' fz' al' (sg ++ [.lst ds])) (X : Ext [] mu fz al mu' fz' al') (hp : V.pys ds ≠ none) (hv : VR fz' al' val (.obj sg.length)) :
    ∃ mu'' fz'', St w h₀ L h' m' mu'' fz'' al sg ∧ Ext [] mu fz al mu'' fz'' al ∧ VR fz'' al val (.lst ds) := by
  cases hv with
  | @obj _ a dx hal =>
    obtain ⟨a1, dx1, q1, q2⟩ := S'.sr.get sg.length (.lst ds) (by simp)
    rw [hal] at q1
    cases q1
    obtain ⟨rfl, ws, n, q3, q4⟩ := q2
    obtain ⟨be, rfl, hbe⟩ := X.ea
    have hlen := S.sr.len
    have hlen' := S'.sr.len
    rw [List.length_append, List.length_append] at hlen'
    have hb : (a, a) ∈ be := by
      rw [List.getElem?_append_right (by omega)] at hal
      exact List.mem_of_getElem? hal
    have hoff : ∀ p ∈ mu ++ fz, p.1 ≠ a := hbe _ hb
    have nd' := S'.nd
    rw [List.map_append] at nd'
    obtain ⟨z1, z2, z3⟩ := List.nodup_append.mp nd'
    refine ⟨no1 a mu', (a, W.listOf ws.toArray n) :: fz', ⟨S'.fr, fun p hp => S'.nw p ?_, ?_, ⟨hlen, fun k oa hk => ?_, S.sr.nd⟩⟩, ⟨fun p hp => .tail _ (X.ez p hp), fun p hp h1 h2 => no1_mem.mpr ⟨X.em p hp h1 h2, hoff p (List.mem_append_left _ hp)⟩, [], by simp, by simp⟩, ?_⟩
    · rcases List.mem_append.mp hp with hp | hp
      · exact List.mem_append_left _ (no1_mem.mp hp).1
      · rcases List.mem_cons.mp hp with rfl | hp
        · exact List.mem_append_left _ q3
        · exact List.mem_append_right _ hp
    · rw [List.map_append, List.map_cons]
      refine List.nodup_append.mpr ⟨List.Sublist.nodup (List.Sublist.map _ List.filter_sublist) z1, List.nodup_cons.mpr ⟨fun q => ?_, z2⟩, fun x hx y hy => ?_⟩
      · exact z3 a (List.mem_map_of_mem (f := fun x => x.1) q3) a q rfl
      · obtain ⟨p, hp, rfl⟩ := List.mem_map.mp hx
        rcases List.mem_cons.mp hy with rfl | hy
        · exact (no1_mem.mp hp).2
        · exact z3 p.1 (List.mem_map_of_mem (f := fun x => x.1) (no1_mem.mp hp).1) y hy
    · obtain ⟨b1, e1, r1, r2⟩ := S.sr.get k oa hk
      have hkl := (List.getElem?_eq_some_iff.mp hk).1
      obtain ⟨b2, e2, s1, s2⟩ := S'.sr.get k oa (by rw [List.getElem?_append_left hkl]; exact hk)
      rw [List.getElem?_append_left (by omega)] at s1
      refine ⟨b2, e2, s1, r2.cut s2 (fun p hp he => no1_mem.mpr ⟨hp, fun e => ?_⟩) fun _ h => .tail _ h⟩
      have nda := S'.sr.nd
      rw [List.map_append] at nda
      exact (List.nodup_append.mp nda).2.2 e2 (List.mem_map_of_mem (f := fun x => x.2) (List.mem_of_getElem? s1)) a (List.mem_map_of_mem (f := fun x => x.2) hb) (he.symm.trans e)
    · have e : al = al ++ [] := by simp
      refine .lst (.head _) ?_
      rw [e]
      exact (VRs.flat hp q4).mono fun _ h => .tail _ h
section
variable {w : World} {l : Addr} {vs : List Value} {ns : List Int} {dd : Nat} {O : Orc}
theorem orc_frz {rs : Rs} {t : List S} {f : Addr} {i : Nat} {params : Arguments} {body : List Stmt} {scope : Scope} {ps : List Str} {sp : Spc} (hO : OrcOK w l vs ns dd O) (hm : (i, f) ∈ fnTab) (hw : fnWord i = some (params, .stmts body, scope)) (hrs : mkRs 0 scope.names = some rs) (hsh : fnShape scope ps rs = true)
    (hss : OrcOK w l vs ns dd O → SS w l vs ns dd O rs body t) (hnd : ndf i = 0)
    (hbind : ∀ (vals : List Value), vals.length = ps.length → ∀ name qual doc pm an cdv ct s, BindsTo s (fnX name qual params body scope [] .none .none doc pm an cdv ct) ⟨vals, []⟩ (ps.zip vals))
    (hsp : ∀ as sg K, sp as sg K → as.length = ps.length ∧ wps O t (as.map some) sg (fun fl _ sg' => ∃ ds, fl.getD .none = .obj sg.length ∧ sg' = sg ++ [.lst ds] ∧ V.pys ds ≠ none ∧ K (.lst ds) sg)) : OrcOK w l vs ns (dd + 1) (addO O f sp) := by
  intro g as sg K h A h₀ L m s mu fz al vals Q hA hR S hv hq
  unfold addO at h
  split at h
  · rename_i e
    subst e
    obtain ⟨h1, h2⟩ := hsp as sg K h
    refine wpAny_call (fn_core (List.mem_append_right _ hm) hw hrs hsh (hss hO) hA hR S hv h1 (fun name qual dV kV doc pm an cdv ct hd => ?_) (K := fun v sg' => ∃ ds, v = .obj sg.length ∧ sg' = sg ++ [.lst ds] ∧ V.pys ds ≠ none ∧ K (.lst ds) sg) ?_ ?_)
    · obtain ⟨rfl, ⟨rfl, _⟩ | ⟨T, o, items, n, _, _, _, _, hsz⟩⟩ := hd
      · exact hbind vals (by have := hv.length; omega) _ _ _ _ _ _ _ _
      · exact absurd hnd hsz
    · exact h2
    · intro val h' tk' mu' fz' al' v sg' hk S' X' V'
      obtain ⟨ds, rfl, rfl, hp, hk⟩ := hk
      obtain ⟨mu2, fz2, S2, X2, V2⟩ := S.freeze S' X' hp V'
      exact hq _ _ _ _ _ _ _ _ hk S2 X2 V2
  · exact hO g as sg K h A h₀ L m s mu fz al vals Q hA (hR.less (by omega)) S hv hq
end
end Mine
end
section
open PySem PySem.W PySem.Calls PyProof.Rows PySem.Spec
namespace Mine
/-! a rule's state -/
structure RS where
  p0 : Int
  o0 : Int
  p1 : Int
  o1 : Int
  p2 : Int
  o2 : Int
  ov : Bool
  m : Int
  u : Int
  L : Lim
  T : Int
  t : Int
  q : Bool
def RS.quo (r : RS) : Cell := .quo r.ov r.m r.u
def RS.lim (r : RS) : Cell := .lim r.L r.T r.t
def RS.m1 (r : RS) : Cell := if r.q then r.quo else r.lim
def RS.m3 (r : RS) : Cell := if r.q then r.lim else r.quo
def RS.c0 (r : RS) : Cell := .cnt r.p0 r.o0
def RS.c2 (r : RS) : Cell := .cnt r.p1 r.o1
def RS.c4 (r : RS) : Cell := .cnt r.p2 r.o2
def RS.stm (r : RS) : List V := [r.c0.stm, r.m1.stm, r.c2.stm, r.m3.stm, r.c4.stm]
/-- what the statements say when so many have come -/
def RS.aft (r : RS) (n a b len : Int) : RS :=
  { r with p0 := r.p0 + n, o0 := r.o0 + n * len, p1 := r.p1 + a, o1 := r.o1 + a * len, p2 := r.p2 + b, o2 := r.o2 + b * len, u := r.u + (if r.q then n else a) * len }
/-- how many pass a meter -/
def qpass (ov : Bool) (m u len i : Int) : Int :=
  let mx := if (m - u - 1).fdiv len > 0 then (m - u - 1).fdiv len else 0
  let mn := if mx < i then mx else i
  if ov then i - mn else mn
def lpass (L : Lim) (step len i : Int) : Int := if L.ov then i - roomy L.B (L.W len) (step * 10 ^ 6) i else roomy L.B (L.W len) (step * 10 ^ 6) i
structure PreL (L : Lim) (step len : Int) : Prop where
  ok : LimOK L
  w0 : 0 < L.W len
  w1 : L.W len < 2 ^ 62
  s0 : 0 ≤ step
  s1 : step * 10 ^ 6 < 2 ^ 62
  l0 : 1 ≤ len
  l1 : len < 2 ^ 62
  sw : step ≤ L.W len / 10 ^ 6 + 1
  bw : L.B ≤ L.W len ∨ 2 * L.W len ≤ L.B
section
variable {O : Orc} {as : List V} {sg : Sto} {K : V → Sto → Prop}
def sp245 : Spc := fun as sg K => ∃ (step len i : Int), ((∃ L, PreL L step len ∧ as = [limV L, .int step, .int len, .int i] ∧ K (.int (lpass L step len i)) sg) ∨ (∃ ov m u, 1 ≤ len ∧ len < 2 ^ 62 ∧ as = [(Cell.quo ov m u).stm, .int step, .int len, .int i] ∧ K (.int (qpass ov m u len i)) sg))
theorem w245 (h231 : ∀ as sg K, sp231 as sg K → O 231 as sg K) (h205 : ∀ as sg K, sp205 as sg K → O 205 as sg K) (h198 : ∀ as sg K, sp198 as sg K → O 198 as sg K) (h : sp245 as sg K) : as.length = 4 ∧ wps O tm26 (as.map some) sg (fun fl _ sg' => K (fl.getD .none) sg') := by
  obtain ⟨step, len, i, ⟨L, pl, rfl, h1⟩ | ⟨ov, m, u, l0, l1, rfl, h1⟩⟩ := h
  · refine ⟨rfl, ?_⟩
    have w0 := pl.w0
    have w1 := pl.w1
    have s0 := pl.s0
    have s1 := pl.s1
    (first | (dsimp only [tm26, limV, List.cons_append, List.nil_append, List.getElem?_cons_zero, List.getElem?_cons_succ, List.getElem?_nil, bcmp_str, wps, wps1, wpe, wpes, wpt, wpMap, wpFor, wpForL, upto, rangeOf, bop_add, bop_sub, bop_mul, bop_fdiv, bop_mod, bop_tup, bcmp_lt, bcmp_le, bcmp_gt, bcmp_ge, bcmp_eq, bcmp_ne, bcmp_tup, bcmp_tupn, bcmp_lst, bcmp_lstn, biS, biC_len, biC_lenl, biC_min, biC_max, biC_isi, biC_list, bitem, storeItem, asBool, isNn, sattr, sset, sseti, sapp, notRaw, itemsOf, vget, vput, vputs, getF, putF, getK, List.map, List.map_cons, List.map_nil, List.length, List.length_cons, List.length_nil, Option.getD, Int.reduceToNat, Int.reduceSub, Int.reduceAdd, Int.reduceMul, Nat.reducePow, Nat.reduceSub, Nat.reduceAdd, Bool.not_true, Bool.not_false]; try simp only [tm26, limV, sne_c_q, sne_c_l, sne_c_n, sne_c_v, sne_c_d, sne_q_c, sne_q_l, sne_q_n, sne_q_v, sne_q_d, sne_l_c, sne_l_q, sne_l_n, sne_l_v, sne_l_d, sne_n_c, sne_n_q, sne_n_l, sne_n_v, sne_n_d, sne_v_c, sne_v_q, sne_v_l, sne_v_n, sne_v_d, sne_d_c, sne_d_q, sne_d_l, sne_d_n, sne_d_v, List.cons_append, List.nil_append, List.getElem?_cons_zero, List.getElem?_cons_succ, List.getElem?_nil, bcmp_str, wps, wps1, wpe, wpes, wpt, wpMap, wpFor, wpForL, upto, rangeOf, bop_add, bop_sub, bop_mul, bop_fdiv, bop_mod, bop_tup, bcmp_lt, bcmp_le, bcmp_gt, bcmp_ge, bcmp_eq, bcmp_ne, bcmp_tup, bcmp_tupn, bcmp_lst, bcmp_lstn, biS, biC_len, biC_lenl, biC_min, biC_max, biC_isi, biC_list, bitem, storeItem, asBool, isNn, sattr, sset, sseti, sapp, notRaw, itemsOf, vget, vput, vputs, getF, putF, getK, List.map, List.map_cons, List.map_nil, List.length, List.length_cons, List.length_nil, Option.getD, Int.reduceToNat, Int.reduceSub, Int.reduceAdd, Int.reduceMul, Nat.reducePow, Nat.reduceSub, Nat.reduceAdd, Bool.not_true, Bool.not_false, List.length_append, Int.reduceLE, Int.reduceLT, Int.toNat_zero, Int.toNat_one, Int.le_refl, beq_self_eq_true, get_last, set_last, Nat.reduceEqDiff, Nat.reduceLT, Nat.reduceLeDiff, if_true, if_false, reduceIte, reduceCtorEq, true_and, and_true, or_true, true_or, or_false, false_or, or_self, and_self, forall_const, Bool.true_eq_false, Bool.false_eq_true, false_implies, true_implies, decide_true, decide_false]) | simp only [tm26, limV, sne_c_q, sne_c_l, sne_c_n, sne_c_v, sne_c_d, sne_q_c, sne_q_l, sne_q_n, sne_q_v, sne_q_d, sne_l_c, sne_l_q, sne_l_n, sne_l_v, sne_l_d, sne_n_c, sne_n_q, sne_n_l, sne_n_v, sne_n_d, sne_v_c, sne_v_q, sne_v_l, sne_v_n, sne_v_d, sne_d_c, sne_d_q, sne_d_l, sne_d_n, sne_d_v, List.cons_append, List.nil_append, List.getElem?_cons_zero, List.getElem?_cons_succ, List.getElem?_nil, bcmp_str, wps, wps1, wpe, wpes, wpt, wpMap, wpFor, wpForL, upto, rangeOf, bop_add, bop_sub, bop_mul, bop_fdiv, bop_mod, bop_tup, bcmp_lt, bcmp_le, bcmp_gt, bcmp_ge, bcmp_eq, bcmp_ne, bcmp_tup, bcmp_tupn, bcmp_lst, bcmp_lstn, biS, biC_len, biC_lenl, biC_min, biC_max, biC_isi, biC_list, bitem, storeItem, asBool, isNn, sattr, sset, sseti, sapp, notRaw, itemsOf, vget, vput, vputs, getF, putF, getK, List.map, List.map_cons, List.map_nil, List.length, List.length_cons, List.length_nil, Option.getD, Int.reduceToNat, Int.reduceSub, Int.reduceAdd, Int.reduceMul, Nat.reducePow, Nat.reduceSub, Nat.reduceAdd, Bool.not_true, Bool.not_false, List.length_append, Int.reduceLE, Int.reduceLT, Int.toNat_zero, Int.toNat_one, Int.le_refl, beq_self_eq_true, get_last, set_last, Nat.reduceEqDiff, Nat.reduceLT, Nat.reduceLeDiff, if_true, if_false, reduceIte, reduceCtorEq, true_and, and_true, or_true, true_or, or_false, false_or, or_self, and_self, forall_const, Bool.true_eq_false, Bool.false_eq_true, false_implies, true_implies, decide_true, decide_false])
    refine h205 _ _ _ ⟨L, rfl, pl.ok, h198 _ _ _ ⟨L, len, rfl, pl.ok, ?_⟩⟩
    (first | (dsimp only [List.cons_append, List.nil_append, List.getElem?_cons_zero, List.getElem?_cons_succ, List.getElem?_nil, bcmp_str, wps, wps1, wpe, wpes, wpt, wpMap, wpFor, wpForL, upto, rangeOf, bop_add, bop_sub, bop_mul, bop_fdiv, bop_mod, bop_tup, bcmp_lt, bcmp_le, bcmp_gt, bcmp_ge, bcmp_eq, bcmp_ne, bcmp_tup, bcmp_tupn, bcmp_lst, bcmp_lstn, biS, biC_len, biC_lenl, biC_min, biC_max, biC_isi, biC_list, bitem, storeItem, asBool, isNn, sattr, sset, sseti, sapp, notRaw, itemsOf, vget, vput, vputs, getF, putF, getK, List.map, List.map_cons, List.map_nil, List.length, List.length_cons, List.length_nil, Option.getD, Int.reduceToNat, Int.reduceSub, Int.reduceAdd, Int.reduceMul, Nat.reducePow, Nat.reduceSub, Nat.reduceAdd, Bool.not_true, Bool.not_false]; try simp only [List.cons_append, List.nil_append, List.getElem?_cons_zero, List.getElem?_cons_succ, List.getElem?_nil, bcmp_str, wps, wps1, wpe, wpes, wpt, wpMap, wpFor, wpForL, upto, rangeOf, bop_add, bop_sub, bop_mul, bop_fdiv, bop_mod, bop_tup, bcmp_lt, bcmp_le, bcmp_gt, bcmp_ge, bcmp_eq, bcmp_ne, bcmp_tup, bcmp_tupn, bcmp_lst, bcmp_lstn, biS, biC_len, biC_lenl, biC_min, biC_max, biC_isi, biC_list, bitem, storeItem, asBool, isNn, sattr, sset, sseti, sapp, notRaw, itemsOf, vget, vput, vputs, getF, putF, getK, List.map, List.map_cons, List.map_nil, List.length, List.length_cons, List.length_nil, Option.getD, Int.reduceToNat, Int.reduceSub, Int.reduceAdd, Int.reduceMul, Nat.reducePow, Nat.reduceSub, Nat.reduceAdd, Bool.not_true, Bool.not_false, List.length_append, Int.reduceLE, Int.reduceLT, Int.toNat_zero, Int.toNat_one, Int.le_refl, beq_self_eq_true, get_last, set_last, Nat.reduceEqDiff, Nat.reduceLT, Nat.reduceLeDiff, if_true, if_false, reduceIte, reduceCtorEq, true_and, and_true, or_true, true_or, or_false, false_or, or_self, and_self, forall_const, Bool.true_eq_false, Bool.false_eq_true, false_implies, true_implies, decide_true, decide_false]) | simp only [List.cons_append, List.nil_append, List.getElem?_cons_zero, List.getElem?_cons_succ, List.getElem?_nil, bcmp_str, wps, wps1, wpe, wpes, wpt, wpMap, wpFor, wpForL, upto, rangeOf, bop_add, bop_sub, bop_mul, bop_fdiv, bop_mod, bop_tup, bcmp_lt, bcmp_le, bcmp_gt, bcmp_ge, bcmp_eq, bcmp_ne, bcmp_tup, bcmp_tupn, bcmp_lst, bcmp_lstn, biS, biC_len, biC_lenl, biC_min, biC_max, biC_isi, biC_list, bitem, storeItem, asBool, isNn, sattr, sset, sseti, sapp, notRaw, itemsOf, vget, vput, vputs, getF, putF, getK, List.map, List.map_cons, List.map_nil, List.length, List.length_cons, List.length_nil, Option.getD, Int.reduceToNat, Int.reduceSub, Int.reduceAdd, Int.reduceMul, Nat.reducePow, Nat.reduceSub, Nat.reduceAdd, Bool.not_true, Bool.not_false, List.length_append, Int.reduceLE, Int.reduceLT, Int.toNat_zero, Int.toNat_one, Int.le_refl, beq_self_eq_true, get_last, set_last, Nat.reduceEqDiff, Nat.reduceLT, Nat.reduceLeDiff, if_true, if_false, reduceIte, reduceCtorEq, true_and, and_true, or_true, true_or, or_false, false_or, or_self, and_self, forall_const, Bool.true_eq_false, Bool.false_eq_true, false_implies, true_implies, decide_true, decide_false])
    refine ⟨by omega, h231 _ _ _ ⟨_, _, _, _, rfl, w0, w1, by omega, s1, ?_⟩⟩
    unfold lpass at h1
    refine ⟨fun ho => ?_, fun ho => ?_⟩
    · rw [if_pos ho] at h1
      (first | (dsimp only [List.cons_append, List.nil_append, List.getElem?_cons_zero, List.getElem?_cons_succ, List.getElem?_nil, bcmp_str, wps, wps1, wpe, wpes, wpt, wpMap, wpFor, wpForL, upto, rangeOf, bop_add, bop_sub, bop_mul, bop_fdiv, bop_mod, bop_tup, bcmp_lt, bcmp_le, bcmp_gt, bcmp_ge, bcmp_eq, bcmp_ne, bcmp_tup, bcmp_tupn, bcmp_lst, bcmp_lstn, biS, biC_len, biC_lenl, biC_min, biC_max, biC_isi, biC_list, bitem, storeItem, asBool, isNn, sattr, sset, sseti, sapp, notRaw, itemsOf, vget, vput, vputs, getF, putF, getK, List.map, List.map_cons, List.map_nil, List.length, List.length_cons, List.length_nil, Option.getD, Int.reduceToNat, Int.reduceSub, Int.reduceAdd, Int.reduceMul, Nat.reducePow, Nat.reduceSub, Nat.reduceAdd, Bool.not_true, Bool.not_false]; try simp only [List.cons_append, List.nil_append, List.getElem?_cons_zero, List.getElem?_cons_succ, List.getElem?_nil, bcmp_str, wps, wps1, wpe, wpes, wpt, wpMap, wpFor, wpForL, upto, rangeOf, bop_add, bop_sub, bop_mul, bop_fdiv, bop_mod, bop_tup, bcmp_lt, bcmp_le, bcmp_gt, bcmp_ge, bcmp_eq, bcmp_ne, bcmp_tup, bcmp_tupn, bcmp_lst, bcmp_lstn, biS, biC_len, biC_lenl, biC_min, biC_max, biC_isi, biC_list, bitem, storeItem, asBool, isNn, sattr, sset, sseti, sapp, notRaw, itemsOf, vget, vput, vputs, getF, putF, getK, List.map, List.map_cons, List.map_nil, List.length, List.length_cons, List.length_nil, Option.getD, Int.reduceToNat, Int.reduceSub, Int.reduceAdd, Int.reduceMul, Nat.reducePow, Nat.reduceSub, Nat.reduceAdd, Bool.not_true, Bool.not_false, List.length_append, Int.reduceLE, Int.reduceLT, Int.toNat_zero, Int.toNat_one, Int.le_refl, beq_self_eq_true, get_last, set_last, Nat.reduceEqDiff, Nat.reduceLT, Nat.reduceLeDiff, if_true, if_false, reduceIte, reduceCtorEq, true_and, and_true, or_true, true_or, or_false, false_or, or_self, and_self, forall_const, Bool.true_eq_false, Bool.false_eq_true, false_implies, true_implies, decide_true, decide_false]) | simp only [List.cons_append, List.nil_append, List.getElem?_cons_zero, List.getElem?_cons_succ, List.getElem?_nil, bcmp_str, wps, wps1, wpe, wpes, wpt, wpMap, wpFor, wpForL, upto, rangeOf, bop_add, bop_sub, bop_mul, bop_fdiv, bop_mod, bop_tup, bcmp_lt, bcmp_le, bcmp_gt, bcmp_ge, bcmp_eq, bcmp_ne, bcmp_tup, bcmp_tupn, bcmp_lst, bcmp_lstn, biS, biC_len, biC_lenl, biC_min, biC_max, biC_isi, biC_list, bitem, storeItem, asBool, isNn, sattr, sset, sseti, sapp, notRaw, itemsOf, vget, vput, vputs, getF, putF, getK, List.map, List.map_cons, List.map_nil, List.length, List.length_cons, List.length_nil, Option.getD, Int.reduceToNat, Int.reduceSub, Int.reduceAdd, Int.reduceMul, Nat.reducePow, Nat.reduceSub, Nat.reduceAdd, Bool.not_true, Bool.not_false, List.length_append, Int.reduceLE, Int.reduceLT, Int.toNat_zero, Int.toNat_one, Int.le_refl, beq_self_eq_true, get_last, set_last, Nat.reduceEqDiff, Nat.reduceLT, Nat.reduceLeDiff, if_true, if_false, reduceIte, reduceCtorEq, true_and, and_true, or_true, true_or, or_false, false_or, or_self, and_self, forall_const, Bool.true_eq_false, Bool.false_eq_true, false_implies, true_implies, decide_true, decide_false])
      exact h1
    · rw [if_neg (by rw [ho]; decide)] at h1
      exact h1
  · refine ⟨rfl, ?_⟩
    (first | (dsimp only [tm26, Cell.stm, List.cons_append, List.nil_append, List.getElem?_cons_zero, List.getElem?_cons_succ, List.getElem?_nil, bcmp_str, wps, wps1, wpe, wpes, wpt, wpMap, wpFor, wpForL, upto, rangeOf, bop_add, bop_sub, bop_mul, bop_fdiv, bop_mod, bop_tup, bcmp_lt, bcmp_le, bcmp_gt, bcmp_ge, bcmp_eq, bcmp_ne, bcmp_tup, bcmp_tupn, bcmp_lst, bcmp_lstn, biS, biC_len, biC_lenl, biC_min, biC_max, biC_isi, biC_list, bitem, storeItem, asBool, isNn, sattr, sset, sseti, sapp, notRaw, itemsOf, vget, vput, vputs, getF, putF, getK, List.map, List.map_cons, List.map_nil, List.length, List.length_cons, List.length_nil, Option.getD, Int.reduceToNat, Int.reduceSub, Int.reduceAdd, Int.reduceMul, Nat.reducePow, Nat.reduceSub, Nat.reduceAdd, Bool.not_true, Bool.not_false]; try simp only [tm26, Cell.stm, sne_c_q, sne_c_l, sne_c_n, sne_c_v, sne_c_d, sne_q_c, sne_q_l, sne_q_n, sne_q_v, sne_q_d, sne_l_c, sne_l_q, sne_l_n, sne_l_v, sne_l_d, sne_n_c, sne_n_q, sne_n_l, sne_n_v, sne_n_d, sne_v_c, sne_v_q, sne_v_l, sne_v_n, sne_v_d, sne_d_c, sne_d_q, sne_d_l, sne_d_n, sne_d_v, List.cons_append, List.nil_append, List.getElem?_cons_zero, List.getElem?_cons_succ, List.getElem?_nil, bcmp_str, wps, wps1, wpe, wpes, wpt, wpMap, wpFor, wpForL, upto, rangeOf, bop_add, bop_sub, bop_mul, bop_fdiv, bop_mod, bop_tup, bcmp_lt, bcmp_le, bcmp_gt, bcmp_ge, bcmp_eq, bcmp_ne, bcmp_tup, bcmp_tupn, bcmp_lst, bcmp_lstn, biS, biC_len, biC_lenl, biC_min, biC_max, biC_isi, biC_list, bitem, storeItem, asBool, isNn, sattr, sset, sseti, sapp, notRaw, itemsOf, vget, vput, vputs, getF, putF, getK, List.map, List.map_cons, List.map_nil, List.length, List.length_cons, List.length_nil, Option.getD, Int.reduceToNat, Int.reduceSub, Int.reduceAdd, Int.reduceMul, Nat.reducePow, Nat.reduceSub, Nat.reduceAdd, Bool.not_true, Bool.not_false, List.length_append, Int.reduceLE, Int.reduceLT, Int.toNat_zero, Int.toNat_one, Int.le_refl, beq_self_eq_true, get_last, set_last, Nat.reduceEqDiff, Nat.reduceLT, Nat.reduceLeDiff, if_true, if_false, reduceIte, reduceCtorEq, true_and, and_true, or_true, true_or, or_false, false_or, or_self, and_self, forall_const, Bool.true_eq_false, Bool.false_eq_true, false_implies, true_implies, decide_true, decide_false]) | simp only [tm26, Cell.stm, sne_c_q, sne_c_l, sne_c_n, sne_c_v, sne_c_d, sne_q_c, sne_q_l, sne_q_n, sne_q_v, sne_q_d, sne_l_c, sne_l_q, sne_l_n, sne_l_v, sne_l_d, sne_n_c, sne_n_q, sne_n_l, sne_n_v, sne_n_d, sne_v_c, sne_v_q, sne_v_l, sne_v_n, sne_v_d, sne_d_c, sne_d_q, sne_d_l, sne_d_n, sne_d_v, List.cons_append, List.nil_append, List.getElem?_cons_zero, List.getElem?_cons_succ, List.getElem?_nil, bcmp_str, wps, wps1, wpe, wpes, wpt, wpMap, wpFor, wpForL, upto, rangeOf, bop_add, bop_sub, bop_mul, bop_fdiv, bop_mod, bop_tup, bcmp_lt, bcmp_le, bcmp_gt, bcmp_ge, bcmp_eq, bcmp_ne, bcmp_tup, bcmp_tupn, bcmp_lst, bcmp_lstn, biS, biC_len, biC_lenl, biC_min, biC_max, biC_isi, biC_list, bitem, storeItem, asBool, isNn, sattr, sset, sseti, sapp, notRaw, itemsOf, vget, vput, vputs, getF, putF, getK, List.map, List.map_cons, List.map_nil, List.length, List.length_cons, List.length_nil, Option.getD, Int.reduceToNat, Int.reduceSub, Int.reduceAdd, Int.reduceMul, Nat.reducePow, Nat.reduceSub, Nat.reduceAdd, Bool.not_true, Bool.not_false, List.length_append, Int.reduceLE, Int.reduceLT, Int.toNat_zero, Int.toNat_one, Int.le_refl, beq_self_eq_true, get_last, set_last, Nat.reduceEqDiff, Nat.reduceLT, Nat.reduceLeDiff, if_true, if_false, reduceIte, reduceCtorEq, true_and, and_true, or_true, true_or, or_false, false_or, or_self, and_self, forall_const, Bool.true_eq_false, Bool.false_eq_true, false_implies, true_implies, decide_true, decide_false])
    refine ⟨⟨by omega, by omega⟩, ?_⟩
    unfold qpass at h1
    cases ov with
    | true => exact ⟨fun _ => h1, fun h => (by cases h)⟩
    | false => exact ⟨fun h => (by cases h), fun _ => h1⟩
def sp252 : Spc := fun as sg K => ∃ (r : RS) (n a b len : Int), as = [.lst r.stm, .tup [.int n, .int a, .int b], .int len] ∧ len.natAbs < 2 ^ 63 ∧ K (.lst (r.aft n a b len).stm) sg
theorem app_last (sg : Sto) (ds : List V) : (sg ++ [OA.lst ds])[sg.length]? = some (.lst ds) := by simp
def Cell.aftc (a len : Int) : Cell → Cell
  | .cnt p o => .cnt (p + a) (o + a * len)
  | .quo ov m u => .quo ov m (u + a * len)
  | .lim L T t => .lim L T t
def it2 (k : Int) : T := .item (.item (.var 0) (.var 4)) (.int k)
def lbC : List S := [.app 3 (.tup [(.var 5), (.bin .add (it2 1) (.var 6)), (.bin .add (it2 2) (.bin .mul (.var 6) (.var 2)))])]
def lbQ : List S := [.app 3 (.tup [(.var 5), it2 1, it2 2, (.bin .add (it2 3) (.bin .mul (.var 6) (.var 2)))])]
def lbL : List S := [.app 3 (.item (.var 0) (.var 4))]
def lb27 : List S := [.unpR [5, 6] (.tup [it2 0, (.item (.var 1) (.bin .fdiv (.var 4) (.int 2)))]), .ite (.cmp .eq (.var 5) (.str "counter")) lbC [.ite (.cmp .eq (.var 5) (.str "quota")) lbQ lbL]]
theorem tm27_eq : tm27 = [.asn 3 .nlst, .forr 4 (.int 0) (.int 5) lb27, .ret (.var 3)] := rfl
structure R27 (r : Rho) (bs cs : List V) (len : Int) (k : Nat) : Prop where
  h0 : vget r 0 = some (.lst bs)
  h1 : vget r 1 = some (.tup cs)
  h2 : vget r 2 = some (.int len)
  h3 : vget r 3 = some (.obj k)
theorem R27.put {r : Rho} {bs cs : List V} {len : Int} {k : Nat} (R : R27 r bs cs len k) (n : Nat) (v : V) (h : 4 ≤ n) : R27 (vput r n v) bs cs len k :=
  ⟨(vget_put_ne _ _ _ _ (by omega)).trans R.h0, (vget_put_ne _ _ _ _ (by omega)).trans R.h1, (vget_put_ne _ _ _ _ (by omega)).trans R.h2, (vget_put_ne _ _ _ _ (by omega)).trans R.h3⟩
/-- where the round stands: the statement at hand, how many came -/
structure P27 (r : Rho) (bs cs : List V) (len : Int) (k : Nat) (p a : Int) (us : List V) (y : Str) : Prop where
  R : R27 r bs cs len k
  h4 : vget r 4 = some (.int p)
  h5 : vget r 5 = some (.str y)
  h6 : vget r 6 = some (.int a)
  p0 : 0 ≤ p
  hb : bs[p.toNat]? = some (.tup us)
  hbl : bs.length < 2 ^ 30
  hul : us.length < 2 ^ 30
  hl : len.natAbs < 2 ^ 63
theorem it2_ok {r : Rho} {bs us : List V} {p k : Int} {u : V} {S : Sto} {K : V → Sto → Prop} (h0 : vget r 0 = some (.lst bs)) (h4 : vget r 4 = some (.int p)) (p0 : 0 ≤ p) (hb : bs[p.toNat]? = some (.tup us)) (hbl : bs.length < 2 ^ 30) (hul : us.length < 2 ^ 30) (k0 : 0 ≤ k) (hu : us[k.toNat]? = some u) (hk : K u S) : wpe O (it2 k) r S K := by
  unfold it2
  dsimp only [wpe]
  rw [h0, h4]
  dsimp only [storeItem, bitem]
  rw [hb]
  dsimp only
  rw [hu]
  exact ⟨p0, hbl, k0, hul, hk⟩
theorem P27.it {r : Rho} {bs cs us : List V} {len : Int} {k : Nat} {p a : Int} {y : Str} {S : Sto} {K : V → Sto → Prop} {u : V} (P : P27 r bs cs len k p a us y) (j : Int) (j0 : 0 ≤ j) (hu : us[j.toNat]? = some u) (hk : K u S) : wpe O (it2 j) r S K :=
  it2_ok P.R.h0 P.h4 P.p0 P.hb P.hbl P.hul j0 hu hk
theorem lst_grow {sg : Sto} {ds : List V} {v : V} {K : Sto → Prop} (hd : ds.length < 1000) (hk : K (sg ++ [.lst (ds ++ [v])])) : sapp (sg ++ [.lst ds]) v (.obj sg.length) K := by
  dsimp only [sapp]
  rw [app_last]
  dsimp only
  rw [set_last]
  exact ⟨hd, hk⟩
theorem lbC_ok {r : Rho} {bs cs ds : List V} {len pp oo p a : Int} {y y' : Str} (P : P27 r bs cs len sg.length p a [.str y', .int pp, .int oo] y) (hd : ds.length < 1000) {K : Kf} (hk : K none r (sg ++ [.lst (ds ++ [.tup [.str y, .int (pp + a), .int (oo + a * len)]])])) : wps O lbC r (sg ++ [.lst ds]) K := by
  dsimp only [lbC, wps, wps1, wpe, wpes]
  rw [P.R.h3]
  dsimp only
  rw [app_last]
  dsimp only
  rw [P.h5]
  refine P.it 1 (by decide) rfl ?_
  rw [P.h6]
  refine P.it 2 (by decide) rfl ?_
  rw [P.R.h2]
  exact ⟨.inr P.hl, show 3 ≤ 1000 from by decide, lst_grow hd hk⟩
theorem lbQ_ok {r : Rho} {bs cs ds : List V} {len u p a : Int} {m z : V} {y y' : Str} (P : P27 r bs cs len sg.length p a [.str y', z, m, .int u] y) (hd : ds.length < 1000) {K : Kf} (hk : K none r (sg ++ [.lst (ds ++ [.tup [.str y, z, m, .int (u + a * len)]])])) : wps O lbQ r (sg ++ [.lst ds]) K := by
  dsimp only [lbQ, wps, wps1, wpe, wpes]
  rw [P.R.h3]
  dsimp only
  rw [app_last]
  dsimp only
  rw [P.h5]
  refine P.it 1 (by decide) rfl (P.it 2 (by decide) rfl (P.it 3 (by decide) rfl ?_))
  rw [P.h6, P.R.h2]
  exact ⟨.inr P.hl, show 4 ≤ 1000 from by decide, lst_grow hd hk⟩
theorem lbL_ok {r : Rho} {bs cs us ds : List V} {len p a : Int} {y : Str} (P : P27 r bs cs len sg.length p a us y) (hd : ds.length < 1000) {K : Kf} (hk : K none r (sg ++ [.lst (ds ++ [.tup us])])) : wps O lbL r (sg ++ [.lst ds]) K := by
  dsimp only [lbL, wps, wps1, wpe, wpes]
  rw [P.R.h3]
  dsimp only
  rw [app_last]
  dsimp only
  rw [P.R.h0, P.h4]
  dsimp only [storeItem, bitem]
  rw [P.hb]
  exact ⟨P.p0, P.hbl, lst_grow hd hk⟩
theorem lbT_ok {r : Rho} {bs cs us ds : List V} {len p a : Int} {y : Str} {c : Cell} (P : P27 r bs cs len sg.length p a us y) (hs : c.stm = .tup us) (hy : ∃ vs, us = .str y :: vs) (hd : ds.length < 1000) {K : Kf} (fin : K none r (sg ++ [.lst (ds ++ [(c.aftc a len).stm])])) : wps O [.ite (.cmp .eq (.var 5) (.str "counter")) lbC [.ite (.cmp .eq (.var 5) (.str "quota")) lbQ lbL]] r (sg ++ [.lst ds]) K := by
  obtain ⟨vs, rfl⟩ := hy
  dsimp only [wps, wps1, wpt, wpe]
  rw [P.h5]
  dsimp only
  rw [bcmp_str, bcmp_str]
  cases c with
  | cnt pp oo =>
    cases hs
    exact ⟨fun _ => lbC_ok P hd fin, fun h => absurd h (by decide +kernel)⟩
  | quo ov m u =>
    cases hs
    exact ⟨fun h => absurd h (by decide +kernel), fun _ => ⟨fun _ => lbQ_ok P hd fin, fun h => absurd h (by decide +kernel)⟩⟩
  | lim L T t =>
    cases hs
    exact ⟨fun h => absurd h (by decide +kernel), fun _ => ⟨fun h => absurd h (by decide +kernel), fun _ => lbL_ok P hd fin⟩⟩
theorem stm_shape (c : Cell) : ∃ y us, c.stm = .tup (.str y :: us) ∧ (V.str y :: us).length < 2 ^ 30 := by
  cases c with
  | cnt p o => exact ⟨_, _, rfl, show 3 < 2 ^ 30 from by decide⟩
  | quo ov m u => exact ⟨_, _, rfl, show 4 < 2 ^ 30 from by decide⟩
  | lim L T t => exact ⟨_, _, rfl, show 6 < 2 ^ 30 from by decide⟩
theorem lb27_ok {r : Rho} {bs cs : List V} {len p a : Int} {c : Cell} {ds : List V} (R : R27 r bs cs len sg.length) (h4 : vget r 4 = some (.int p)) (p0 : 0 ≤ p) (hb : bs[p.toNat]? = some c.stm) (hbl : bs.length < 2 ^ 30) (pd : 0 ≤ p.fdiv 2) (hc : cs[(p.fdiv 2).toNat]? = some (.int a)) (hcl : cs.length < 2 ^ 30) (hl : len.natAbs < 2 ^ 63) (hd : ds.length < 1000) {K : Kf}
    (hk : ∀ r', R27 r' bs cs len sg.length → K none r' (sg ++ [.lst (ds ++ [(c.aftc a len).stm])])) : wps O lb27 r (sg ++ [.lst ds]) K := by
  obtain ⟨y, us, hs, hul⟩ := stm_shape c
  rw [hs] at hb
  have P : P27 (vput (vput r 6 (.int a)) 5 (.str y)) bs cs len sg.length p a (.str y :: us) y := ⟨(R.put 6 _ (by decide)).put 5 _ (by decide), (vget_put_ne _ _ _ _ (by decide)).trans ((vget_put_ne _ _ _ _ (by decide)).trans h4), vget_put_same _ _ _, (vget_put_ne _ _ _ _ (by decide)).trans (vget_put_same _ _ _), p0, hb, hbl, hul, hl⟩
  unfold lb27
  rw [wps.eq_2]
  dsimp only [wps1, wpe, wpes]
  refine it2_ok R.h0 h4 p0 hb hbl hul (Int.le_refl _) rfl ?_
  rw [R.h1, h4]
  dsimp only [bop, storeItem, bitem]
  rw [hc]
  exact ⟨⟨by decide, by decide⟩, pd, hcl, show 2 ≤ 1000 from by decide, rfl, lbT_ok P hs ⟨us, rfl⟩ hd (hk _ P.R)⟩
theorem pys_stm (r : RS) : V.pys r.stm ≠ none := by
  obtain ⟨p0, o0, p1, o1, p2, o2, ov, m, u, L, T, t, q⟩ := r
  cases q <;> (intro h; cases h)
theorem aft_stm (r : RS) (n a b len : Int) : [(r.c0.aftc n len).stm, (r.m1.aftc n len).stm, (r.c2.aftc a len).stm, (r.m3.aftc a len).stm, (r.c4.aftc b len).stm] = (r.aft n a b len).stm := by
  obtain ⟨p0, o0, p1, o1, p2, o2, ov, m, u, L, T, t, q⟩ := r
  cases q <;> rfl
theorem w252 (h : sp252 as sg K) : as.length = 3 ∧ wps O tm27 (as.map some) sg (fun fl _ sg' => ∃ ds, fl.getD .none = .obj sg.length ∧ sg' = sg ++ [.lst ds] ∧ V.pys ds ≠ none ∧ K (.lst ds) sg) := by
  obtain ⟨r, n, a, b, len, rfl, l1, h1⟩ := h
  refine ⟨rfl, ?_⟩
  have e5 : upto 0 (5 - 0 : Int).toNat = [0, 1, 2, 3, 4] := rfl
  have R0 : R27 (vput ([V.lst r.stm, V.tup [.int n, .int a, .int b], V.int len].map some) 3 (.obj sg.length)) r.stm [.int n, .int a, .int b] len sg.length := ⟨rfl, rfl, rfl, rfl⟩
  have b5 : r.stm.length < 2 ^ 30 := show 5 < 2 ^ 30 by decide
  have c3 : ([V.int n, V.int a, V.int b] : List V).length < 2 ^ 30 := show 3 < 2 ^ 30 by decide
  rw [tm27_eq]
  generalize hr : vput ([V.lst r.stm, V.tup [.int n, .int a, .int b], V.int len].map some) 3 (.obj sg.length) = r0 at R0
  dsimp only [wps, wps1, wpe, rangeOf]
  rw [e5, hr]
  refine ⟨by decide, ?_⟩
  dsimp only [wpFor]
  refine lb27_ok (R0.put 4 (.int 0) (by decide)) (vget_put_same _ _ _) (by decide) (c := r.c0) (a := n) rfl b5 (by decide) rfl c3 l1 (ds := []) (by decide) fun r1 R1 => ?_
  refine lb27_ok (R1.put 4 (.int 1) (by decide)) (vget_put_same _ _ _) (by decide) (c := r.m1) (a := n) rfl b5 (by decide) rfl c3 l1 (ds := [_]) (by show 1 < 1000; decide) fun r2 R2 => ?_
  refine lb27_ok (R2.put 4 (.int 2) (by decide)) (vget_put_same _ _ _) (by decide) (c := r.c2) (a := a) rfl b5 (by decide) rfl c3 l1 (ds := [_, _]) (by show 2 < 1000; decide) fun r3 R3 => ?_
  refine lb27_ok (R3.put 4 (.int 3) (by decide)) (vget_put_same _ _ _) (by decide) (c := r.m3) (a := a) rfl b5 (by decide) rfl c3 l1 (ds := [_, _, _]) (by show 3 < 1000; decide) fun r4 R4 => ?_
  refine lb27_ok (R4.put 4 (.int 4) (by decide)) (vget_put_same _ _ _) (by decide) (c := r.c4) (a := b) rfl b5 (by decide) rfl c3 l1 (ds := [_, _, _, _]) (by show 4 < 1000; decide) fun r5 R5 => ?_
  dsimp only
  rw [R5.h3]
  have e := aft_stm r n a b len
  refine ⟨(r.aft n a b len).stm, rfl, ?_, pys_stm _, h1⟩
  rw [← e]; rfl
/-- the limit's tokens and last time, as the law reckons them -/
def RS.restT (r : RS) (n a step len : Int) : Int := if (if r.q then a else n) = 0 then r.T else toks r.L.B (r.L.W len) (step * 10 ^ 6) (if r.q then a else n)
def RS.restt (r : RS) (at_ n a step len : Int) : Int := if (if r.q then a else n) = 0 then r.t else if r.q = true ∧ r.ov = false then at_ + (a - 1) * step else at_ + (n - 1) * step
def sp259 : Spc := fun as sg K => ∃ (r : RS) (n a b at_ step len : Int), PreL r.L step len ∧ as = [.lst r.stm, .tup [.int r.T, .int r.t], .int at_, .int step, .int len, .tup [.int n, .int a, .int b]] ∧ 0 ≤ a ∧ a ≤ n ∧ n < 2 ^ 20 ∧ K (.tup [.int (r.restT n a step len), .int (r.restt at_ n a step len)]) sg
set_option maxRecDepth 20000 in
theorem w259 (h238 : ∀ as sg K, sp238 as sg K → O 238 as sg K) (h205 : ∀ as sg K, sp205 as sg K → O 205 as sg K) (h198 : ∀ as sg K, sp198 as sg K → O 198 as sg K) (h : sp259 as sg K) : as.length = 6 ∧ wps O tm28 (as.map some) sg (fun fl _ sg' => K (fl.getD .none) sg') := by
  obtain ⟨r, n, a, b, at_, step, len, pl, rfl, a0, an, n2, h1⟩ := h
  refine ⟨rfl, ?_⟩
  have w0 := pl.w0
  have w1 := pl.w1
  have s0 := pl.s0
  have s1 := pl.s1
  obtain ⟨p0, o0, p1, o1, p2, o2, ov, m, u, L, T, t, q⟩ := r
  have ok := pl.ok
  dsimp only at ok w0 w1
  have d1 : Int.fdiv 1 2 = 0 := rfl
  have d3 : Int.fdiv 3 2 = 1 := rfl
  cases q with
  | true =>
    simp only [RS.restT, RS.restt, if_true] at h1
    (first | (dsimp only [tm28, RS.stm, RS.c0, RS.c2, RS.c4, RS.m1, RS.m3, RS.quo, RS.lim, Cell.stm, limV, List.cons_append, List.nil_append, List.getElem?_cons_zero, List.getElem?_cons_succ, List.getElem?_nil, bcmp_str, wps, wps1, wpe, wpes, wpt, wpMap, wpFor, wpForL, upto, rangeOf, bop_add, bop_sub, bop_mul, bop_fdiv, bop_mod, bop_tup, bcmp_lt, bcmp_le, bcmp_gt, bcmp_ge, bcmp_eq, bcmp_ne, bcmp_tup, bcmp_tupn, bcmp_lst, bcmp_lstn, biS, biC_len, biC_lenl, biC_min, biC_max, biC_isi, biC_list, bitem, storeItem, asBool, isNn, sattr, sset, sseti, sapp, notRaw, itemsOf, vget, vput, vputs, getF, putF, getK, List.map, List.map_cons, List.map_nil, List.length, List.length_cons, List.length_nil, Option.getD, Int.reduceToNat, Int.reduceSub, Int.reduceAdd, Int.reduceMul, Nat.reducePow, Nat.reduceSub, Nat.reduceAdd, Bool.not_true, Bool.not_false]; try simp only [tm28, RS.stm, RS.c0, RS.c2, RS.c4, RS.m1, RS.m3, RS.quo, RS.lim, Cell.stm, limV, d1, d3, sne_c_q, sne_c_l, sne_c_n, sne_c_v, sne_c_d, sne_q_c, sne_q_l, sne_q_n, sne_q_v, sne_q_d, sne_l_c, sne_l_q, sne_l_n, sne_l_v, sne_l_d, sne_n_c, sne_n_q, sne_n_l, sne_n_v, sne_n_d, sne_v_c, sne_v_q, sne_v_l, sne_v_n, sne_v_d, sne_d_c, sne_d_q, sne_d_l, sne_d_n, sne_d_v, if_true, List.cons_append, List.nil_append, List.getElem?_cons_zero, List.getElem?_cons_succ, List.getElem?_nil, bcmp_str, wps, wps1, wpe, wpes, wpt, wpMap, wpFor, wpForL, upto, rangeOf, bop_add, bop_sub, bop_mul, bop_fdiv, bop_mod, bop_tup, bcmp_lt, bcmp_le, bcmp_gt, bcmp_ge, bcmp_eq, bcmp_ne, bcmp_tup, bcmp_tupn, bcmp_lst, bcmp_lstn, biS, biC_len, biC_lenl, biC_min, biC_max, biC_isi, biC_list, bitem, storeItem, asBool, isNn, sattr, sset, sseti, sapp, notRaw, itemsOf, vget, vput, vputs, getF, putF, getK, List.map, List.map_cons, List.map_nil, List.length, List.length_cons, List.length_nil, Option.getD, Int.reduceToNat, Int.reduceSub, Int.reduceAdd, Int.reduceMul, Nat.reducePow, Nat.reduceSub, Nat.reduceAdd, Bool.not_true, Bool.not_false, List.length_append, Int.reduceLE, Int.reduceLT, Int.toNat_zero, Int.toNat_one, Int.le_refl, beq_self_eq_true, get_last, set_last, Nat.reduceEqDiff, Nat.reduceLT, Nat.reduceLeDiff, if_true, if_false, reduceIte, reduceCtorEq, true_and, and_true, or_true, true_or, or_false, false_or, or_self, and_self, forall_const, Bool.true_eq_false, Bool.false_eq_true, false_implies, true_implies, decide_true, decide_false]) | simp only [tm28, RS.stm, RS.c0, RS.c2, RS.c4, RS.m1, RS.m3, RS.quo, RS.lim, Cell.stm, limV, d1, d3, sne_c_q, sne_c_l, sne_c_n, sne_c_v, sne_c_d, sne_q_c, sne_q_l, sne_q_n, sne_q_v, sne_q_d, sne_l_c, sne_l_q, sne_l_n, sne_l_v, sne_l_d, sne_n_c, sne_n_q, sne_n_l, sne_n_v, sne_n_d, sne_v_c, sne_v_q, sne_v_l, sne_v_n, sne_v_d, sne_d_c, sne_d_q, sne_d_l, sne_d_n, sne_d_v, if_true, List.cons_append, List.nil_append, List.getElem?_cons_zero, List.getElem?_cons_succ, List.getElem?_nil, bcmp_str, wps, wps1, wpe, wpes, wpt, wpMap, wpFor, wpForL, upto, rangeOf, bop_add, bop_sub, bop_mul, bop_fdiv, bop_mod, bop_tup, bcmp_lt, bcmp_le, bcmp_gt, bcmp_ge, bcmp_eq, bcmp_ne, bcmp_tup, bcmp_tupn, bcmp_lst, bcmp_lstn, biS, biC_len, biC_lenl, biC_min, biC_max, biC_isi, biC_list, bitem, storeItem, asBool, isNn, sattr, sset, sseti, sapp, notRaw, itemsOf, vget, vput, vputs, getF, putF, getK, List.map, List.map_cons, List.map_nil, List.length, List.length_cons, List.length_nil, Option.getD, Int.reduceToNat, Int.reduceSub, Int.reduceAdd, Int.reduceMul, Nat.reducePow, Nat.reduceSub, Nat.reduceAdd, Bool.not_true, Bool.not_false, List.length_append, Int.reduceLE, Int.reduceLT, Int.toNat_zero, Int.toNat_one, Int.le_refl, beq_self_eq_true, get_last, set_last, Nat.reduceEqDiff, Nat.reduceLT, Nat.reduceLeDiff, if_true, if_false, reduceIte, reduceCtorEq, true_and, and_true, or_true, true_or, or_false, false_or, or_self, and_self, forall_const, Bool.true_eq_false, Bool.false_eq_true, false_implies, true_implies, decide_true, decide_false])
    refine ⟨by decide, fun ha => ?_, fun ha => ?_⟩
    · have ha' : a = 0 := by simpa using ha
      simp only [ha', if_true] at h1
      exact h1
    · have ha' : ¬ a = 0 := by simpa using ha
      simp only [ha', if_false] at h1
      refine h205 _ _ _ ⟨L, rfl, ok, h198 _ _ _ ⟨L, len, rfl, ok, ?_⟩⟩
      (first | (dsimp only [List.cons_append, List.nil_append, List.getElem?_cons_zero, List.getElem?_cons_succ, List.getElem?_nil, bcmp_str, wps, wps1, wpe, wpes, wpt, wpMap, wpFor, wpForL, upto, rangeOf, bop_add, bop_sub, bop_mul, bop_fdiv, bop_mod, bop_tup, bcmp_lt, bcmp_le, bcmp_gt, bcmp_ge, bcmp_eq, bcmp_ne, bcmp_tup, bcmp_tupn, bcmp_lst, bcmp_lstn, biS, biC_len, biC_lenl, biC_min, biC_max, biC_isi, biC_list, bitem, storeItem, asBool, isNn, sattr, sset, sseti, sapp, notRaw, itemsOf, vget, vput, vputs, getF, putF, getK, List.map, List.map_cons, List.map_nil, List.length, List.length_cons, List.length_nil, Option.getD, Int.reduceToNat, Int.reduceSub, Int.reduceAdd, Int.reduceMul, Nat.reducePow, Nat.reduceSub, Nat.reduceAdd, Bool.not_true, Bool.not_false]; try simp only [List.cons_append, List.nil_append, List.getElem?_cons_zero, List.getElem?_cons_succ, List.getElem?_nil, bcmp_str, wps, wps1, wpe, wpes, wpt, wpMap, wpFor, wpForL, upto, rangeOf, bop_add, bop_sub, bop_mul, bop_fdiv, bop_mod, bop_tup, bcmp_lt, bcmp_le, bcmp_gt, bcmp_ge, bcmp_eq, bcmp_ne, bcmp_tup, bcmp_tupn, bcmp_lst, bcmp_lstn, biS, biC_len, biC_lenl, biC_min, biC_max, biC_isi, biC_list, bitem, storeItem, asBool, isNn, sattr, sset, sseti, sapp, notRaw, itemsOf, vget, vput, vputs, getF, putF, getK, List.map, List.map_cons, List.map_nil, List.length, List.length_cons, List.length_nil, Option.getD, Int.reduceToNat, Int.reduceSub, Int.reduceAdd, Int.reduceMul, Nat.reducePow, Nat.reduceSub, Nat.reduceAdd, Bool.not_true, Bool.not_false, List.length_append, Int.reduceLE, Int.reduceLT, Int.toNat_zero, Int.toNat_one, Int.le_refl, beq_self_eq_true, get_last, set_last, Nat.reduceEqDiff, Nat.reduceLT, Nat.reduceLeDiff, if_true, if_false, reduceIte, reduceCtorEq, true_and, and_true, or_true, true_or, or_false, false_or, or_self, and_self, forall_const, Bool.true_eq_false, Bool.false_eq_true, false_implies, true_implies, decide_true, decide_false]) | simp only [List.cons_append, List.nil_append, List.getElem?_cons_zero, List.getElem?_cons_succ, List.getElem?_nil, bcmp_str, wps, wps1, wpe, wpes, wpt, wpMap, wpFor, wpForL, upto, rangeOf, bop_add, bop_sub, bop_mul, bop_fdiv, bop_mod, bop_tup, bcmp_lt, bcmp_le, bcmp_gt, bcmp_ge, bcmp_eq, bcmp_ne, bcmp_tup, bcmp_tupn, bcmp_lst, bcmp_lstn, biS, biC_len, biC_lenl, biC_min, biC_max, biC_isi, biC_list, bitem, storeItem, asBool, isNn, sattr, sset, sseti, sapp, notRaw, itemsOf, vget, vput, vputs, getF, putF, getK, List.map, List.map_cons, List.map_nil, List.length, List.length_cons, List.length_nil, Option.getD, Int.reduceToNat, Int.reduceSub, Int.reduceAdd, Int.reduceMul, Nat.reducePow, Nat.reduceSub, Nat.reduceAdd, Bool.not_true, Bool.not_false, List.length_append, Int.reduceLE, Int.reduceLT, Int.toNat_zero, Int.toNat_one, Int.le_refl, beq_self_eq_true, get_last, set_last, Nat.reduceEqDiff, Nat.reduceLT, Nat.reduceLeDiff, if_true, if_false, reduceIte, reduceCtorEq, true_and, and_true, or_true, true_or, or_false, false_or, or_self, and_self, forall_const, Bool.true_eq_false, Bool.false_eq_true, false_implies, true_implies, decide_true, decide_false])
      refine ⟨by omega, h238 _ _ _ ⟨_, _, _, _, rfl, w0, w1, by omega, s1, ?_⟩⟩
      (first | (dsimp only [List.cons_append, List.nil_append, List.getElem?_cons_zero, List.getElem?_cons_succ, List.getElem?_nil, bcmp_str, wps, wps1, wpe, wpes, wpt, wpMap, wpFor, wpForL, upto, rangeOf, bop_add, bop_sub, bop_mul, bop_fdiv, bop_mod, bop_tup, bcmp_lt, bcmp_le, bcmp_gt, bcmp_ge, bcmp_eq, bcmp_ne, bcmp_tup, bcmp_tupn, bcmp_lst, bcmp_lstn, biS, biC_len, biC_lenl, biC_min, biC_max, biC_isi, biC_list, bitem, storeItem, asBool, isNn, sattr, sset, sseti, sapp, notRaw, itemsOf, vget, vput, vputs, getF, putF, getK, List.map, List.map_cons, List.map_nil, List.length, List.length_cons, List.length_nil, Option.getD, Int.reduceToNat, Int.reduceSub, Int.reduceAdd, Int.reduceMul, Nat.reducePow, Nat.reduceSub, Nat.reduceAdd, Bool.not_true, Bool.not_false]; try simp only [List.cons_append, List.nil_append, List.getElem?_cons_zero, List.getElem?_cons_succ, List.getElem?_nil, bcmp_str, wps, wps1, wpe, wpes, wpt, wpMap, wpFor, wpForL, upto, rangeOf, bop_add, bop_sub, bop_mul, bop_fdiv, bop_mod, bop_tup, bcmp_lt, bcmp_le, bcmp_gt, bcmp_ge, bcmp_eq, bcmp_ne, bcmp_tup, bcmp_tupn, bcmp_lst, bcmp_lstn, biS, biC_len, biC_lenl, biC_min, biC_max, biC_isi, biC_list, bitem, storeItem, asBool, isNn, sattr, sset, sseti, sapp, notRaw, itemsOf, vget, vput, vputs, getF, putF, getK, List.map, List.map_cons, List.map_nil, List.length, List.length_cons, List.length_nil, Option.getD, Int.reduceToNat, Int.reduceSub, Int.reduceAdd, Int.reduceMul, Nat.reducePow, Nat.reduceSub, Nat.reduceAdd, Bool.not_true, Bool.not_false, List.length_append, Int.reduceLE, Int.reduceLT, Int.toNat_zero, Int.toNat_one, Int.le_refl, beq_self_eq_true, get_last, set_last, Nat.reduceEqDiff, Nat.reduceLT, Nat.reduceLeDiff, if_true, if_false, reduceIte, reduceCtorEq, true_and, and_true, or_true, true_or, or_false, false_or, or_self, and_self, forall_const, Bool.true_eq_false, Bool.false_eq_true, false_implies, true_implies, decide_true, decide_false]) | simp only [List.cons_append, List.nil_append, List.getElem?_cons_zero, List.getElem?_cons_succ, List.getElem?_nil, bcmp_str, wps, wps1, wpe, wpes, wpt, wpMap, wpFor, wpForL, upto, rangeOf, bop_add, bop_sub, bop_mul, bop_fdiv, bop_mod, bop_tup, bcmp_lt, bcmp_le, bcmp_gt, bcmp_ge, bcmp_eq, bcmp_ne, bcmp_tup, bcmp_tupn, bcmp_lst, bcmp_lstn, biS, biC_len, biC_lenl, biC_min, biC_max, biC_isi, biC_list, bitem, storeItem, asBool, isNn, sattr, sset, sseti, sapp, notRaw, itemsOf, vget, vput, vputs, getF, putF, getK, List.map, List.map_cons, List.map_nil, List.length, List.length_cons, List.length_nil, Option.getD, Int.reduceToNat, Int.reduceSub, Int.reduceAdd, Int.reduceMul, Nat.reducePow, Nat.reduceSub, Nat.reduceAdd, Bool.not_true, Bool.not_false, List.length_append, Int.reduceLE, Int.reduceLT, Int.toNat_zero, Int.toNat_one, Int.le_refl, beq_self_eq_true, get_last, set_last, Nat.reduceEqDiff, Nat.reduceLT, Nat.reduceLeDiff, if_true, if_false, reduceIte, reduceCtorEq, true_and, and_true, or_true, true_or, or_false, false_or, or_self, and_self, forall_const, Bool.true_eq_false, Bool.false_eq_true, false_implies, true_implies, decide_true, decide_false])
      cases ov with
      | true => exact ⟨fun h => (by cases h), fun _ => ⟨.inr (by omega), by simpa using h1⟩⟩
      | false => exact ⟨fun _ => ⟨.inr (by omega), by simpa using h1⟩, fun h => (by cases h)⟩
  | false =>
    simp only [RS.restT, RS.restt, if_false, Bool.false_eq_true, false_and] at h1
    (first | (dsimp only [tm28, RS.stm, RS.c0, RS.c2, RS.c4, RS.m1, RS.m3, RS.quo, RS.lim, Cell.stm, limV, List.cons_append, List.nil_append, List.getElem?_cons_zero, List.getElem?_cons_succ, List.getElem?_nil, bcmp_str, wps, wps1, wpe, wpes, wpt, wpMap, wpFor, wpForL, upto, rangeOf, bop_add, bop_sub, bop_mul, bop_fdiv, bop_mod, bop_tup, bcmp_lt, bcmp_le, bcmp_gt, bcmp_ge, bcmp_eq, bcmp_ne, bcmp_tup, bcmp_tupn, bcmp_lst, bcmp_lstn, biS, biC_len, biC_lenl, biC_min, biC_max, biC_isi, biC_list, bitem, storeItem, asBool, isNn, sattr, sset, sseti, sapp, notRaw, itemsOf, vget, vput, vputs, getF, putF, getK, List.map, List.map_cons, List.map_nil, List.length, List.length_cons, List.length_nil, Option.getD, Int.reduceToNat, Int.reduceSub, Int.reduceAdd, Int.reduceMul, Nat.reducePow, Nat.reduceSub, Nat.reduceAdd, Bool.not_true, Bool.not_false]; try simp only [tm28, RS.stm, RS.c0, RS.c2, RS.c4, RS.m1, RS.m3, RS.quo, RS.lim, Cell.stm, limV, d1, d3, sne_c_q, sne_c_l, sne_c_n, sne_c_v, sne_c_d, sne_q_c, sne_q_l, sne_q_n, sne_q_v, sne_q_d, sne_l_c, sne_l_q, sne_l_n, sne_l_v, sne_l_d, sne_n_c, sne_n_q, sne_n_l, sne_n_v, sne_n_d, sne_v_c, sne_v_q, sne_v_l, sne_v_n, sne_v_d, sne_d_c, sne_d_q, sne_d_l, sne_d_n, sne_d_v, if_false, Bool.false_eq_true, List.cons_append, List.nil_append, List.getElem?_cons_zero, List.getElem?_cons_succ, List.getElem?_nil, bcmp_str, wps, wps1, wpe, wpes, wpt, wpMap, wpFor, wpForL, upto, rangeOf, bop_add, bop_sub, bop_mul, bop_fdiv, bop_mod, bop_tup, bcmp_lt, bcmp_le, bcmp_gt, bcmp_ge, bcmp_eq, bcmp_ne, bcmp_tup, bcmp_tupn, bcmp_lst, bcmp_lstn, biS, biC_len, biC_lenl, biC_min, biC_max, biC_isi, biC_list, bitem, storeItem, asBool, isNn, sattr, sset, sseti, sapp, notRaw, itemsOf, vget, vput, vputs, getF, putF, getK, List.map, List.map_cons, List.map_nil, List.length, List.length_cons, List.length_nil, Option.getD, Int.reduceToNat, Int.reduceSub, Int.reduceAdd, Int.reduceMul, Nat.reducePow, Nat.reduceSub, Nat.reduceAdd, Bool.not_true, Bool.not_false, List.length_append, Int.reduceLE, Int.reduceLT, Int.toNat_zero, Int.toNat_one, Int.le_refl, beq_self_eq_true, get_last, set_last, Nat.reduceEqDiff, Nat.reduceLT, Nat.reduceLeDiff, if_true, if_false, reduceIte, reduceCtorEq, true_and, and_true, or_true, true_or, or_false, false_or, or_self, and_self, forall_const, Bool.true_eq_false, Bool.false_eq_true, false_implies, true_implies, decide_true, decide_false]) | simp only [tm28, RS.stm, RS.c0, RS.c2, RS.c4, RS.m1, RS.m3, RS.quo, RS.lim, Cell.stm, limV, d1, d3, sne_c_q, sne_c_l, sne_c_n, sne_c_v, sne_c_d, sne_q_c, sne_q_l, sne_q_n, sne_q_v, sne_q_d, sne_l_c, sne_l_q, sne_l_n, sne_l_v, sne_l_d, sne_n_c, sne_n_q, sne_n_l, sne_n_v, sne_n_d, sne_v_c, sne_v_q, sne_v_l, sne_v_n, sne_v_d, sne_d_c, sne_d_q, sne_d_l, sne_d_n, sne_d_v, if_false, Bool.false_eq_true, List.cons_append, List.nil_append, List.getElem?_cons_zero, List.getElem?_cons_succ, List.getElem?_nil, bcmp_str, wps, wps1, wpe, wpes, wpt, wpMap, wpFor, wpForL, upto, rangeOf, bop_add, bop_sub, bop_mul, bop_fdiv, bop_mod, bop_tup, bcmp_lt, bcmp_le, bcmp_gt, bcmp_ge, bcmp_eq, bcmp_ne, bcmp_tup, bcmp_tupn, bcmp_lst, bcmp_lstn, biS, biC_len, biC_lenl, biC_min, biC_max, biC_isi, biC_list, bitem, storeItem, asBool, isNn, sattr, sset, sseti, sapp, notRaw, itemsOf, vget, vput, vputs, getF, putF, getK, List.map, List.map_cons, List.map_nil, List.length, List.length_cons, List.length_nil, Option.getD, Int.reduceToNat, Int.reduceSub, Int.reduceAdd, Int.reduceMul, Nat.reducePow, Nat.reduceSub, Nat.reduceAdd, Bool.not_true, Bool.not_false, List.length_append, Int.reduceLE, Int.reduceLT, Int.toNat_zero, Int.toNat_one, Int.le_refl, beq_self_eq_true, get_last, set_last, Nat.reduceEqDiff, Nat.reduceLT, Nat.reduceLeDiff, if_true, if_false, reduceIte, reduceCtorEq, true_and, and_true, or_true, true_or, or_false, false_or, or_self, and_self, forall_const, Bool.true_eq_false, Bool.false_eq_true, false_implies, true_implies, decide_true, decide_false])
    refine ⟨by decide, fun ha => ?_, fun ha => ?_⟩
    · have ha' : n = 0 := by simpa using ha
      simp only [ha', if_true] at h1
      exact h1
    · have ha' : ¬ n = 0 := by simpa using ha
      simp only [ha', if_false] at h1
      refine h205 _ _ _ ⟨L, rfl, ok, h198 _ _ _ ⟨L, len, rfl, ok, ?_⟩⟩
      (first | (dsimp only [List.cons_append, List.nil_append, List.getElem?_cons_zero, List.getElem?_cons_succ, List.getElem?_nil, bcmp_str, wps, wps1, wpe, wpes, wpt, wpMap, wpFor, wpForL, upto, rangeOf, bop_add, bop_sub, bop_mul, bop_fdiv, bop_mod, bop_tup, bcmp_lt, bcmp_le, bcmp_gt, bcmp_ge, bcmp_eq, bcmp_ne, bcmp_tup, bcmp_tupn, bcmp_lst, bcmp_lstn, biS, biC_len, biC_lenl, biC_min, biC_max, biC_isi, biC_list, bitem, storeItem, asBool, isNn, sattr, sset, sseti, sapp, notRaw, itemsOf, vget, vput, vputs, getF, putF, getK, List.map, List.map_cons, List.map_nil, List.length, List.length_cons, List.length_nil, Option.getD, Int.reduceToNat, Int.reduceSub, Int.reduceAdd, Int.reduceMul, Nat.reducePow, Nat.reduceSub, Nat.reduceAdd, Bool.not_true, Bool.not_false]; try simp only [List.cons_append, List.nil_append, List.getElem?_cons_zero, List.getElem?_cons_succ, List.getElem?_nil, bcmp_str, wps, wps1, wpe, wpes, wpt, wpMap, wpFor, wpForL, upto, rangeOf, bop_add, bop_sub, bop_mul, bop_fdiv, bop_mod, bop_tup, bcmp_lt, bcmp_le, bcmp_gt, bcmp_ge, bcmp_eq, bcmp_ne, bcmp_tup, bcmp_tupn, bcmp_lst, bcmp_lstn, biS, biC_len, biC_lenl, biC_min, biC_max, biC_isi, biC_list, bitem, storeItem, asBool, isNn, sattr, sset, sseti, sapp, notRaw, itemsOf, vget, vput, vputs, getF, putF, getK, List.map, List.map_cons, List.map_nil, List.length, List.length_cons, List.length_nil, Option.getD, Int.reduceToNat, Int.reduceSub, Int.reduceAdd, Int.reduceMul, Nat.reducePow, Nat.reduceSub, Nat.reduceAdd, Bool.not_true, Bool.not_false, List.length_append, Int.reduceLE, Int.reduceLT, Int.toNat_zero, Int.toNat_one, Int.le_refl, beq_self_eq_true, get_last, set_last, Nat.reduceEqDiff, Nat.reduceLT, Nat.reduceLeDiff, if_true, if_false, reduceIte, reduceCtorEq, true_and, and_true, or_true, true_or, or_false, false_or, or_self, and_self, forall_const, Bool.true_eq_false, Bool.false_eq_true, false_implies, true_implies, decide_true, decide_false]) | simp only [List.cons_append, List.nil_append, List.getElem?_cons_zero, List.getElem?_cons_succ, List.getElem?_nil, bcmp_str, wps, wps1, wpe, wpes, wpt, wpMap, wpFor, wpForL, upto, rangeOf, bop_add, bop_sub, bop_mul, bop_fdiv, bop_mod, bop_tup, bcmp_lt, bcmp_le, bcmp_gt, bcmp_ge, bcmp_eq, bcmp_ne, bcmp_tup, bcmp_tupn, bcmp_lst, bcmp_lstn, biS, biC_len, biC_lenl, biC_min, biC_max, biC_isi, biC_list, bitem, storeItem, asBool, isNn, sattr, sset, sseti, sapp, notRaw, itemsOf, vget, vput, vputs, getF, putF, getK, List.map, List.map_cons, List.map_nil, List.length, List.length_cons, List.length_nil, Option.getD, Int.reduceToNat, Int.reduceSub, Int.reduceAdd, Int.reduceMul, Nat.reducePow, Nat.reduceSub, Nat.reduceAdd, Bool.not_true, Bool.not_false, List.length_append, Int.reduceLE, Int.reduceLT, Int.toNat_zero, Int.toNat_one, Int.le_refl, beq_self_eq_true, get_last, set_last, Nat.reduceEqDiff, Nat.reduceLT, Nat.reduceLeDiff, if_true, if_false, reduceIte, reduceCtorEq, true_and, and_true, or_true, true_or, or_false, false_or, or_self, and_self, forall_const, Bool.true_eq_false, Bool.false_eq_true, false_implies, true_implies, decide_true, decide_false])
      refine ⟨by omega, h238 _ _ _ ⟨_, _, _, _, rfl, w0, w1, by omega, s1, ?_⟩⟩
      (first | (dsimp only [List.cons_append, List.nil_append, List.getElem?_cons_zero, List.getElem?_cons_succ, List.getElem?_nil, bcmp_str, wps, wps1, wpe, wpes, wpt, wpMap, wpFor, wpForL, upto, rangeOf, bop_add, bop_sub, bop_mul, bop_fdiv, bop_mod, bop_tup, bcmp_lt, bcmp_le, bcmp_gt, bcmp_ge, bcmp_eq, bcmp_ne, bcmp_tup, bcmp_tupn, bcmp_lst, bcmp_lstn, biS, biC_len, biC_lenl, biC_min, biC_max, biC_isi, biC_list, bitem, storeItem, asBool, isNn, sattr, sset, sseti, sapp, notRaw, itemsOf, vget, vput, vputs, getF, putF, getK, List.map, List.map_cons, List.map_nil, List.length, List.length_cons, List.length_nil, Option.getD, Int.reduceToNat, Int.reduceSub, Int.reduceAdd, Int.reduceMul, Nat.reducePow, Nat.reduceSub, Nat.reduceAdd, Bool.not_true, Bool.not_false]; try simp only [List.cons_append, List.nil_append, List.getElem?_cons_zero, List.getElem?_cons_succ, List.getElem?_nil, bcmp_str, wps, wps1, wpe, wpes, wpt, wpMap, wpFor, wpForL, upto, rangeOf, bop_add, bop_sub, bop_mul, bop_fdiv, bop_mod, bop_tup, bcmp_lt, bcmp_le, bcmp_gt, bcmp_ge, bcmp_eq, bcmp_ne, bcmp_tup, bcmp_tupn, bcmp_lst, bcmp_lstn, biS, biC_len, biC_lenl, biC_min, biC_max, biC_isi, biC_list, bitem, storeItem, asBool, isNn, sattr, sset, sseti, sapp, notRaw, itemsOf, vget, vput, vputs, getF, putF, getK, List.map, List.map_cons, List.map_nil, List.length, List.length_cons, List.length_nil, Option.getD, Int.reduceToNat, Int.reduceSub, Int.reduceAdd, Int.reduceMul, Nat.reducePow, Nat.reduceSub, Nat.reduceAdd, Bool.not_true, Bool.not_false, List.length_append, Int.reduceLE, Int.reduceLT, Int.toNat_zero, Int.toNat_one, Int.le_refl, beq_self_eq_true, get_last, set_last, Nat.reduceEqDiff, Nat.reduceLT, Nat.reduceLeDiff, if_true, if_false, reduceIte, reduceCtorEq, true_and, and_true, or_true, true_or, or_false, false_or, or_self, and_self, forall_const, Bool.true_eq_false, Bool.false_eq_true, false_implies, true_implies, decide_true, decide_false]) | simp only [List.cons_append, List.nil_append, List.getElem?_cons_zero, List.getElem?_cons_succ, List.getElem?_nil, bcmp_str, wps, wps1, wpe, wpes, wpt, wpMap, wpFor, wpForL, upto, rangeOf, bop_add, bop_sub, bop_mul, bop_fdiv, bop_mod, bop_tup, bcmp_lt, bcmp_le, bcmp_gt, bcmp_ge, bcmp_eq, bcmp_ne, bcmp_tup, bcmp_tupn, bcmp_lst, bcmp_lstn, biS, biC_len, biC_lenl, biC_min, biC_max, biC_isi, biC_list, bitem, storeItem, asBool, isNn, sattr, sset, sseti, sapp, notRaw, itemsOf, vget, vput, vputs, getF, putF, getK, List.map, List.map_cons, List.map_nil, List.length, List.length_cons, List.length_nil, Option.getD, Int.reduceToNat, Int.reduceSub, Int.reduceAdd, Int.reduceMul, Nat.reducePow, Nat.reduceSub, Nat.reduceAdd, Bool.not_true, Bool.not_false, List.length_append, Int.reduceLE, Int.reduceLT, Int.toNat_zero, Int.toNat_one, Int.le_refl, beq_self_eq_true, get_last, set_last, Nat.reduceEqDiff, Nat.reduceLT, Nat.reduceLeDiff, if_true, if_false, reduceIte, reduceCtorEq, true_and, and_true, or_true, true_or, or_false, false_or, or_self, and_self, forall_const, Bool.true_eq_false, Bool.false_eq_true, false_implies, true_implies, decide_true, decide_false])
      have hst : step.natAbs < 9223372036854775808 := by omega
      exact ⟨fun h => (by cases h), fun _ => ⟨.inr hst, h1⟩⟩
/-! the five cells in the store -/
def madeD (k : Nat) : List (Int × V) := [(1, .obj (k + 1)), (2, .obj (k + 2)), (3, .obj (k + 3)), (4, .obj (k + 4)), (5, .obj (k + 5))]
def sto5 (sg0 : Sto) (cs : List Cell) : Sto := sg0 ++ (.dct (madeD sg0.length) :: cs.map Cell.oa)
theorem at_app (sg0 l : Sto) (j : Nat) : (sg0 ++ l)[sg0.length + j]? = l[j]? := by rw [List.getElem?_append_right (by omega)]; congr 1; omega
theorem set_app (sg0 l : Sto) (j : Nat) (x : OA) : (sg0 ++ l).set (sg0.length + j) x = sg0 ++ l.set j x := by rw [List.set_append_right _ _ (by omega)]; congr 2; omega
def cellsV (k : Nat) : V := .lst [.obj (k + 1), .obj (k + 2), .obj (k + 3), .obj (k + 4), .obj (k + 5)]
def sp266 : Spc := fun as sg K => ∃ (sg0 : Sto) (p0 o0 : Int) (m1 : Cell) (p1 o1 : Int) (m3 : Cell) (p2 o2 now len : Int), m1.ok ∧ m3.ok ∧ as = [cellsV sg0.length, .int now, .int len] ∧ sg = sto5 sg0 [.cnt p0 o0, m1, .cnt p1 o1, m3, .cnt p2 o2] ∧
  (m1.tell now len = false → K (.int 1) (sto5 sg0 [.cnt (p0 + 1) (o0 + len), m1.next now len, .cnt p1 o1, m3, .cnt p2 o2])) ∧
  (m1.tell now len = true → m3.tell now len = false → K (.int 3) (sto5 sg0 [.cnt (p0 + 1) (o0 + len), m1.next now len, .cnt (p1 + 1) (o1 + len), m3.next now len, .cnt p2 o2])) ∧
  (m1.tell now len = true → m3.tell now len = true → K (.int 5) (sto5 sg0 [.cnt (p0 + 1) (o0 + len), m1.next now len, .cnt (p1 + 1) (o1 + len), m3.next now len, .cnt (p2 + 1) (o2 + len)]))
theorem cnt_tell (now len p o : Int) : (Cell.cnt p o).tell now len = true := rfl
theorem cnt_next (now len p o : Int) : (Cell.cnt p o).next now len = .cnt (p + 1) (o + len) := rfl
def lb29 : List S := [.asn 4 (.call 151 [(.item (.var 0) (.var 3)), (.var 1), (.var 2)]), .ite (.not (.bi .isi [(.var 4), (.glob (.type "bool"))])) [.ret (.int (-1))] [], .ite (.not (.var 4)) [.ret (.var 3)] []]
theorem tm29_eq : tm29 = [.forr 3 (.int 0) (.int 5) lb29, .ret (.int 5)] := rfl
structure R29 (r : Rho) (bs : List V) (now len : Int) : Prop where
  h0 : vget r 0 = some (.lst bs)
  h1 : vget r 1 = some (.int now)
  h2 : vget r 2 = some (.int len)
theorem R29.put {r : Rho} {bs : List V} {now len : Int} (R : R29 r bs now len) (n : Nat) (v : V) (h : 3 ≤ n) : R29 (vput r n v) bs now len :=
  ⟨(vget_put_ne _ _ _ _ (by omega)).trans R.h0, (vget_put_ne _ _ _ _ (by omega)).trans R.h1, (vget_put_ne _ _ _ _ (by omega)).trans R.h2⟩
theorem isb {sg : Sto} {b : Bool} {K : V → Prop} (h : K (.bool true)) : biS sg .isi [.bool b, .raw (.type "bool")] K := ⟨rfl, h⟩
theorem lb29_ok (h151 : ∀ as sg K, sp151 as sg K → O 151 as sg K) {r : Rho} {bs : List V} {now len p : Int} {n : Nat} {c : Cell} {sg : Sto} {K : Kf} (R : R29 r bs now len) (h3 : vget r 3 = some (.int p)) (p0 : 0 ≤ p) (hbl : bs.length < 2 ^ 30) (hb : bs[p.toNat]? = some (.obj n)) (ok : c.ok) (hn : sg[n]? = some c.oa)
    (ht : c.tell now len = true → ∀ r', R29 r' bs now len → K none r' (sg.set n (c.next now len).oa)) (hf : c.tell now len = false → ∀ r', K (some (.int p)) r' (sg.set n (c.next now len).oa)) : wps O lb29 r sg K := by
  have R4 : ∀ v, R29 (vput r 4 v) bs now len := fun v => R.put 4 v (by decide)
  have q4 : ∀ v, vget (vput r 4 v) 4 = some v := fun v => vget_put_same _ _ _
  have q3 : ∀ v, vget (vput r 4 v) 3 = some (.int p) := fun v => (vget_put_ne _ _ _ _ (by decide)).trans h3
  dsimp only [lb29, wps, wps1, wpe, wpes, wpt]
  rw [R.h0, h3]
  dsimp only [storeItem, bitem]
  rw [hb]
  refine ⟨p0, hbl, ?_⟩
  rw [R.h1, R.h2]
  refine h151 _ _ _ ⟨n, now, len, c, rfl, ok, hn, ?_⟩
  dsimp only
  rw [q4]
  dsimp only
  refine isb ?_
  dsimp only [asBool]
  refine ⟨fun h => (by cases h), fun _ => ?_⟩
  rw [q3]
  cases ht1 : c.tell now len with
  | true => exact ⟨fun h => (by cases h), fun _ => ht ht1 _ (R4 _)⟩
  | false => exact ⟨fun _ => hf ht1 _, fun h => (by cases h)⟩
theorem w266 (h151 : ∀ as sg K, sp151 as sg K → O 151 as sg K) (h : sp266 as sg K) : as.length = 3 ∧ wps O tm29 (as.map some) sg (fun fl _ sg' => K (fl.getD .none) sg') := by
  obtain ⟨sg0, p0, o0, m1, p1, o1, m3, p2, o2, now, len, ok1, ok3, rfl, rfl, h1, h3, h5⟩ := h
  refine ⟨rfl, ?_⟩
  have e5 : upto 0 (5 - 0 : Int).toNat = [0, 1, 2, 3, 4] := rfl
  have R0 : R29 ([cellsV sg0.length, .int now, .int len].map some) [.obj (sg0.length + 1), .obj (sg0.length + 2), .obj (sg0.length + 3), .obj (sg0.length + 4), .obj (sg0.length + 5)] now len := ⟨rfl, rfl, rfl⟩
  have b5 : ([.obj (sg0.length + 1), .obj (sg0.length + 2), .obj (sg0.length + 3), .obj (sg0.length + 4), .obj (sg0.length + 5)] : List V).length < 2 ^ 30 := show 5 < 2 ^ 30 from by decide
  rw [tm29_eq]
  generalize [cellsV sg0.length, V.int now, V.int len].map some = r0 at R0
  unfold sto5 at *
  dsimp only [wps, wps1, wpe, rangeOf]
  rw [e5]
  dsimp only [wpFor]
  refine ⟨by decide, ?_⟩
  refine lb29_ok h151 (c := .cnt p0 o0) (R0.put 3 _ (by decide)) (vget_put_same _ _ _) (by decide) b5 rfl trivial (at_app _ _ 1) (fun _ r1 R1 => ?_) (fun t => by cases t)
  rw [set_app]
  refine lb29_ok h151 (c := m1) (R1.put 3 _ (by decide)) (vget_put_same _ _ _) (by decide) b5 rfl ok1 (at_app _ _ 2) (fun t1 r2 R2 => ?_) (fun t _ => by rw [set_app]; exact h1 t)
  rw [set_app]
  refine lb29_ok h151 (c := .cnt p1 o1) (R2.put 3 _ (by decide)) (vget_put_same _ _ _) (by decide) b5 rfl trivial (at_app _ _ 3) (fun _ r3 R3 => ?_) (fun t => by cases t)
  rw [set_app]
  refine lb29_ok h151 (c := m3) (R3.put 3 _ (by decide)) (vget_put_same _ _ _) (by decide) b5 rfl ok3 (at_app _ _ 4) (fun t3 r4 R4 => ?_) (fun t _ => by rw [set_app]; exact h3 t1 t)
  rw [set_app]
  refine lb29_ok h151 (c := .cnt p2 o2) (R4.put 3 _ (by decide)) (vget_put_same _ _ _) (by decide) b5 rfl trivial (at_app _ _ 5) (fun _ r5 R5 => ?_) (fun t => by cases t)
  rw [set_app]
  exact h5 t1 t3
def sp179 : Spc := fun as sg K => ∃ (L : Lim) (q ov : Bool) (m u p0 o0 p1 o1 p2 o2 : Int), LimOK L ∧ as = [ruleV L q ov m u p0 o0 p1 o1 p2 o2] ∧ K (.obj sg.length) (sto5 sg [.cnt p0 o0, if q then .quo ov m u else .lim L L.B 0, .cnt p1 o1, if q then .lim L L.B 0 else .quo ov m u, .cnt p2 o2])
theorem app_app (sg0 l : Sto) (x : OA) : (sg0 ++ l) ++ [x] = sg0 ++ (l ++ [x]) := List.append_assoc _ _ _
theorem at_app0 (sg0 l : Sto) : (sg0 ++ l)[sg0.length]? = l[0]? := at_app sg0 l 0
theorem set_app0 (sg0 l : Sto) (x : OA) : (sg0 ++ l).set sg0.length x = sg0 ++ l.set 0 x := set_app sg0 l 0 x
theorem len_app (sg0 l : Sto) : (sg0 ++ l).length = sg0.length + l.length := List.length_append
def cb15 : List S := [.asn 3 (.call 165 [(.item (.var 0) (.var 2))]), .ite (.isn (.var 3)) [.sit (.var 1) (.var 2) (.var 3)] [.ite (.cmp .eq (.item (.item (.var 0) (.var 2)) (.int 0)) (.str "dynset")) [.no] []]]
theorem tm15_eq : tm15 = [.asn 1 .ndct, .forr 2 (.int 0) (.bi .len [(.var 0)]) cb15, .ret (.var 1)] := rfl
structure R15 (r : Rho) (ss : List V) (k : Nat) : Prop where
  h0 : vget r 0 = some (.tup ss)
  h1 : vget r 1 = some (.obj k)
theorem R15.put {r : Rho} {ss : List V} {k : Nat} (R : R15 r ss k) (n : Nat) (v : V) (h : 2 ≤ n) : R15 (vput r n v) ss k :=
  ⟨(vget_put_ne _ _ _ _ (by omega)).trans R.h0, (vget_put_ne _ _ _ _ (by omega)).trans R.h1⟩
theorem cb_fresh (h165 : ∀ as sg K, sp165 as sg K → O 165 as sg K) {r : Rho} {ss : List V} {p : Int} {v : V} {c : Cell} {kvs : List (Int × V)} {oas : List OA} (R : R15 r ss sg.length) (h2 : vget r 2 = some (.int p)) (p0 : 0 ≤ p) (hs : ss[p.toNat]? = some v) (hsl : ss.length < 2 ^ 30) (hf : Fresh v c) (hkey : p ∉ kvs.map (·.1)) (hkl : kvs.length < 1000) {K : Kf}
    (hk : ∀ r', R15 r' ss sg.length → K none r' (sg ++ (.dct (kvs ++ [(p, .obj (sg.length + (oas.length + 1)))]) :: (oas ++ [c.oa])))) : wps O cb15 r (sg ++ (.dct kvs :: oas)) K := by
  have fin := hk _ (R.put 3 (.obj (sg.length + (oas.length + 1))) (by decide))
  obtain ⟨h0, h1⟩ := R
  dsimp only [cb15, wps, wps1, wpe, wpes, wpt]
  rw [h0, h2]
  dsimp only [storeItem, bitem]
  rw [hs]
  refine ⟨p0, hsl, h165 _ _ _ ⟨v, rfl, .inl ⟨c, hf, ?_⟩⟩⟩
  dsimp only
  rw [len_app, List.length_cons, vget_put_same]
  dsimp only [isNn]
  refine ⟨fun _ => ?_, fun h => by cases h⟩
  rw [vget_put_ne _ _ _ _ (by decide), h1]
  dsimp only
  rw [vget_put_ne _ _ _ _ (by decide), h2]
  dsimp only [sseti]
  rw [app_app, at_app0]
  dsimp only [List.cons_append, List.getElem?_cons_zero]
  rw [set_app0]
  exact ⟨⟨hkey, hkl⟩, fin⟩
theorem cb_skip (h165 : ∀ as sg K, sp165 as sg K → O 165 as sg K) {r : Rho} {ss : List V} {p : Int} {v : V} {y : Str} {us : List V} (R : R15 r ss sg.length) (h2 : vget r 2 = some (.int p)) (p0 : 0 ≤ p) (hs : ss[p.toNat]? = some v) (hsl : ss.length < 2 ^ 30) (hv : v = .tup (.str y :: us)) (hv2 : v = .tup [.str "notrack"] ∨ v = .tup [.str "verdict", .tup [.str "accept", .str ""]]) (hy : (y == ("dynset" : Str)) = false) (hul : (V.str y :: us).length < 2 ^ 30) {S0 : Sto} {K : Kf}
    (hk : ∀ r', R15 r' ss sg.length → K none r' S0) : wps O cb15 r S0 K := by
  have fin := hk _ (R.put 3 .none (by decide))
  obtain ⟨h0, h1⟩ := R
  dsimp only [cb15, wps, wps1, wpe, wpes, wpt]
  rw [h0, h2]
  dsimp only [storeItem, bitem]
  rw [hs]
  refine ⟨p0, hsl, h165 _ _ _ ⟨v, rfl, .inr ⟨hv2, ?_⟩⟩⟩
  dsimp only
  rw [vget_put_same]
  dsimp only [isNn]
  refine ⟨fun h => (by cases h), fun _ => ?_⟩
  rw [vget_put_ne _ _ _ _ (by decide), h0]
  dsimp only
  rw [vget_put_ne _ _ _ _ (by decide), h2]
  dsimp only [storeItem, bitem]
  rw [hs, hv]
  refine ⟨p0, hsl, Int.le_refl _, hul, ?_⟩
  show (((y == ("dynset" : Str)) = true → _) ∧ ((y == ("dynset" : Str)) = false → _))
  rw [hy]
  exact ⟨fun h => (by cases h), fun _ => fin⟩
theorem w179 (h165 : ∀ as sg K, sp165 as sg K → O 165 as sg K) (h : sp179 as sg K) : as.length = 1 ∧ wps O tm15 (as.map some) sg (fun fl _ sg' => K (fl.getD .none) sg') := by
  obtain ⟨L, q, ov, m, u, p0, o0, p1, o1, p2, o2, ok, rfl, h1⟩ := h
  refine ⟨rfl, ?_⟩
  unfold sto5 at h1
  have hf1 : Fresh (if q then (Cell.quo ov m u).stm else limV L) (if q then .quo ov m u else .lim L L.B 0) := by cases q <;> first | exact .quo _ _ _ | exact .lim L ok
  have hf3 : Fresh (if q then limV L else (Cell.quo ov m u).stm) (if q then .lim L L.B 0 else .quo ov m u) := by cases q <;> first | exact .quo _ _ _ | exact .lim L ok
  revert hf1 hf3 h1
  unfold ruleV
  generalize (if q then (Cell.quo ov m u).stm else limV L) = s1
  generalize (if q then Cell.quo ov m u else .lim L L.B 0) = c1
  generalize (if q then limV L else (Cell.quo ov m u).stm) = s3
  generalize (if q then Cell.lim L L.B 0 else .quo ov m u) = c3
  intro h1 hf1 hf3
  have e7 : upto 0 ((7 : Nat) - 0 : Int).toNat = [0, 1, 2, 3, 4, 5, 6] := rfl
  generalize hss : [V.tup [.str "notrack"], (Cell.cnt p0 o0).stm, s1, (Cell.cnt p1 o1).stm, s3, (Cell.cnt p2 o2).stm, V.tup [.str "verdict", .tup [.str "accept", .str ""]]] = ss
  have g : ∀ (n : Nat) (v : V), ([V.tup [.str "notrack"], (Cell.cnt p0 o0).stm, s1, (Cell.cnt p1 o1).stm, s3, (Cell.cnt p2 o2).stm, V.tup [.str "verdict", .tup [.str "accept", .str ""]]] : List V)[n]? = some v → ss[n]? = some v := fun n v h => hss ▸ h
  have sl : ss.length = 7 := by rw [← hss]; rfl
  have s30 : ss.length < 2 ^ 30 := by rw [sl]; decide
  have R0 : R15 (vput ([V.tup ss].map some) 1 (.obj sg.length)) ss sg.length := ⟨rfl, rfl⟩
  rw [tm15_eq]
  generalize hr : vput ([V.tup ss].map some) 1 (.obj sg.length) = r0 at R0
  dsimp only [wps, wps1, wpe, wpes, biS, biC, rangeOf, List.map, vget]
  dsimp only [List.map] at hr
  rw [hr, R0.h0]
  dsimp only [biS, biC, rangeOf]
  rw [sl]
  refine ⟨by decide, by decide, ?_⟩
  rw [e7]
  dsimp only [wpFor]
  refine cb_skip h165 (R0.put 2 (.int 0) (by decide)) (vget_put_same _ _ _) (by decide) (g 0 _ rfl) s30 rfl (.inl rfl) (by decide +kernel) (by decide) fun r1 R1 => ?_
  refine cb_fresh h165 (kvs := []) (oas := []) (R1.put 2 (.int 1) (by decide)) (vget_put_same _ _ _) (by decide) (g 1 _ rfl) s30 (.cnt _ _) (by simp) (by decide) fun r2 R2 => ?_
  refine cb_fresh h165 (kvs := [_]) (oas := [_]) (R2.put 2 (.int 2) (by decide)) (vget_put_same _ _ _) (by decide) (g 2 _ rfl) s30 hf1 (by simp) (by show 1 < 1000; decide) fun r3 R3 => ?_
  refine cb_fresh h165 (kvs := [_, _]) (oas := [_, _]) (R3.put 2 (.int 3) (by decide)) (vget_put_same _ _ _) (by decide) (g 3 _ rfl) s30 (.cnt _ _) (by simp) (by show 2 < 1000; decide) fun r4 R4 => ?_
  refine cb_fresh h165 (kvs := [_, _, _]) (oas := [_, _, _]) (R4.put 2 (.int 4) (by decide)) (vget_put_same _ _ _) (by decide) (g 4 _ rfl) s30 hf3 (by simp) (by show 3 < 1000; decide) fun r5 R5 => ?_
  refine cb_fresh h165 (kvs := [_, _, _, _]) (oas := [_, _, _, _]) (R5.put 2 (.int 5) (by decide)) (vget_put_same _ _ _) (by decide) (g 5 _ rfl) s30 (.cnt _ _) (by simp) (by show 4 < 1000; decide) fun r6 R6 => ?_
  refine cb_skip h165 (R6.put 2 (.int 6) (by decide)) (vget_put_same _ _ _) (by decide) (g 6 _ rfl) s30 rfl (.inr rfl) (by decide +kernel) (by decide) fun r7 R7 => ?_
  dsimp only
  rw [R7.h1]
  exact h1
end
end Mine
end
section
open PySem PySem.W PySem.Calls PyProof.Rows PySem.Spec
namespace Mine
/-! the bucket, step by step -/
theorem div_le {N W : Int} (hW : 0 < W) : W * (N / W) ≤ N ∧ N < W * (N / W) + W := by
  have h1 := Int.ediv_mul_le N (Int.ne_of_gt hW)
  have h2 := Int.lt_ediv_add_one_mul_self N hW
  rw [Int.mul_comm] at h1
  rw [Int.add_mul, Int.one_mul, Int.mul_comm] at h2
  exact ⟨h1, h2⟩
theorem div_is {N W q : Int} (hW : 0 < W) (h1 : W * q ≤ N) (h2 : N < W * q + W) : N / W = q := by
  obtain ⟨a, b⟩ := div_le (N := N) hW
  have c : W * q < W * (N / W + 1) := by rw [Int.mul_add, Int.mul_one]; omega
  have d : W * (N / W) < W * (q + 1) := by rw [Int.mul_add, Int.mul_one]; omega
  have := Int.lt_of_mul_lt_mul_left c (Int.le_of_lt hW)
  have := Int.lt_of_mul_lt_mul_left d (Int.le_of_lt hW)
  omega
theorem mod_is {N W q r : Int} (hW : 0 < W) (h : N = W * q + r) (h0 : 0 ≤ r) (h1 : r < W) : N.fmod W = r := by
  rw [Int.fmod_eq_emod_of_nonneg _ (Int.le_of_lt hW), Int.emod_def, div_is (q := q) hW (by omega) (by omega)]
  omega
def flow (B W G m : Int) : Int := if m = 0 then B else if B < toks B W G m + G then B else toks B W G m + G
theorem room0 {B W G : Int} (w0 : 0 < W) (g0 : 0 ≤ G) (bw : B ≤ W ∨ 2 * W ≤ B) : roomy B W G 0 = 0 := by
  unfold roomy
  by_cases c1 : B < W
  · rw [if_pos c1]
  rw [if_neg c1]
  by_cases c2 : W ≤ G
  · rw [if_pos c2]
  rw [if_neg c2]
  by_cases c3 : W = B ∧ 0 < G
  · rw [if_pos c3]
    have e := every_rng w0 c3.2
    rw [Int.fdiv_eq_ediv_of_nonneg _ (by omega)]
    exact div_is (by omega) (by omega) (by omega)
  · rw [if_neg c3]
    have : 0 ≤ (B + (0 - 1) * G).fdiv W := by
      rw [Int.fdiv_eq_ediv_of_nonneg _ (by omega)]
      exact Int.ediv_nonneg (by omega) (by omega)
    rw [if_neg (by omega)]
theorem room_step {B W G m : Int} (w0 : 0 < W) (g0 : 0 ≤ G) (bw : B ≤ W ∨ 2 * W ≤ B) (m0 : 0 ≤ m) :
    (W ≤ flow B W G m → toks B W G (m + 1) = flow B W G m - W ∧ roomy B W G (m + 1) = roomy B W G m + 1) ∧ (flow B W G m < W → toks B W G (m + 1) = flow B W G m ∧ roomy B W G (m + 1) = roomy B W G m) := by
  have hz := room0 (B := B) w0 g0 bw
  unfold flow
  by_cases c1 : B < W
  · have e1 : ∀ i, toks B W G i = B := fun i => by unfold toks; rw [if_pos c1]
    have e2 : ∀ i, roomy B W G i = 0 := fun i => by unfold roomy; rw [if_pos c1]
    rw [e1, e1, e2, e2]
    by_cases hm : m = 0
    · rw [if_pos hm]; omega
    · rw [if_neg hm]; split <;> omega
  by_cases c2 : W ≤ G
  · have e1 : ∀ i, toks B W G i = B - W := fun i => by unfold toks; rw [if_neg c1, if_pos c2]
    have e2 : ∀ i, roomy B W G i = i := fun i => by unfold roomy; rw [if_neg c1, if_pos c2]
    rw [e1, e1, e2, e2]
    by_cases hm : m = 0
    · rw [if_pos hm]; omega
    · rw [if_neg hm]; split <;> omega
  by_cases c3 : W = B ∧ 0 < G
  · obtain ⟨c3, c4⟩ := c3
    subst c3
    have e1 : ∀ i, toks W W G i = (i - 1).fmod (every W G) * G := fun i => by unfold toks; rw [if_neg c1, if_neg c2, if_pos ⟨rfl, c4⟩]
    have e2 : ∀ i, roomy W W G i = (i + every W G - 1) / every W G := fun i => by
      unfold roomy
      rw [if_neg c1, if_neg c2, if_pos ⟨rfl, c4⟩, Int.fdiv_eq_ediv_of_nonneg _ (by have := every_rng w0 c4; omega)]
    have er := every_rng w0 c4
    -- W lies between E - 1 and E paces
    obtain ⟨w1, w2⟩ : G * every W G ≤ W + G - 1 ∧ W + G - 1 < G * every W G + G := by
      unfold every
      rw [Int.fdiv_eq_ediv_of_nonneg _ (by omega)]
      exact div_le c4
    generalize every W G = E at *
    rw [Int.mul_comm] at w1 w2
    rw [e1 (m + 1), e2 (m + 1)]
    have em : m + 1 - 1 = m := by omega
    rw [em]
    by_cases hm : m = 0
    · rw [if_pos hm]
      subst hm
      rw [hz]
      have : (0 : Int).fmod E = 0 := mod_is (q := 0) (by omega) (by omega) (by omega) (by omega)
      rw [this]
      have : (0 + 1 + E - 1) / E = 1 := div_is (by omega) (by omega) (by omega)
      rw [this]
      omega
    · rw [if_neg hm, e1 m, e2 m]
      obtain ⟨k, r, hk, r0, r1⟩ : ∃ k r, m - 1 = E * k + r ∧ 0 ≤ r ∧ r < E := by
        obtain ⟨a, b⟩ := div_le (N := m - 1) (W := E) (by omega)
        exact ⟨(m - 1) / E, (m - 1) - E * ((m - 1) / E), by omega, by omega, by omega⟩
      have q1 : (m - 1).fmod E = r := mod_is (by omega) hk r0 r1
      have q2 : (m + E - 1) / E = k + 1 := div_is (by omega) (by rw [Int.mul_add]; omega) (by rw [Int.mul_add]; omega)
      rw [q1, q2]
      have rG : (r + 1) * G = r * G + G := by rw [Int.add_mul, Int.one_mul]
      by_cases hr : r + 1 = E
      · have q3 : m.fmod E = 0 := mod_is (q := k + 1) (by omega) (by rw [Int.mul_add]; omega) (by omega) (by omega)
        have q4 : (m + 1 + E - 1) / E = k + 2 := div_is (by omega) (by rw [Int.mul_add]; omega) (by rw [Int.mul_add]; omega)
        rw [q3, q4]
        rw [hr] at rG
        split <;> omega
      · have q3 : m.fmod E = r + 1 := mod_is (q := k) (by omega) (by omega) (by omega) (by omega)
        have q4 : (m + 1 + E - 1) / E = k + 1 := div_is (by omega) (by rw [Int.mul_add]; omega) (by rw [Int.mul_add]; omega)
        rw [q3, q4, rG]
        have : (r + 1) * G ≤ (E - 1) * G := Int.mul_le_mul_of_nonneg_right (by omega) g0
        rw [rG, Int.sub_mul, Int.one_mul] at this
        split <;> omega
  · have e1 : ∀ i, toks B W G i = B + (i - 1) * G - W * roomy B W G i := fun i => by unfold toks; rw [if_neg c1, if_neg c2, if_neg c3]
    have e2 : ∀ i, roomy B W G i = if (B + (i - 1) * G) / W < i then (B + (i - 1) * G) / W else i := fun i => by
      unfold roomy
      rw [if_neg c1, if_neg c2, if_neg c3, Int.fdiv_eq_ediv_of_nonneg _ (by omega)]
    rw [e1 (m + 1)]
    have em : m + 1 - 1 = m := by omega
    have hb : G = 0 ∨ 2 * W ≤ B := by omega
    obtain ⟨u1, u2⟩ := div_le (N := B + m * G) w0
    by_cases hm : m = 0
    · rw [if_pos hm]
      subst hm
      have : roomy B W G (0 + 1) = 1 := by
        rw [e2]
        have h1 : ((0 : Int) + 1 - 1) * G = 0 := by rw [em, Int.zero_mul]
        rw [h1]
        have : 1 ≤ (B + 0) / W := (Int.le_ediv_iff_mul_le w0).mpr (by omega)
        rw [if_neg (by omega)]; rfl
      rw [this, hz]
      have h1 : ((0 : Int) + 1 - 1) * G = 0 := by rw [em, Int.zero_mul]
      rw [h1]
      omega
    · rw [if_neg hm, e1 m, e2 (m + 1), em]
      have mG : m * G = (m - 1) * G + G := by rw [Int.sub_mul, Int.one_mul]; omega
      obtain ⟨v1, v2⟩ := div_le (N := B + (m - 1) * G) w0
      have gp : 0 ≤ (m - 1) * G := Int.mul_nonneg (by omega) g0
      rw [e2 m]
      rw [mG] at u1 u2 ⊢
      generalize hQ : (B + (m - 1) * G) / W = Q at *
      generalize hQ' : (B + ((m - 1) * G + G)) / W = Q' at *
      generalize (m - 1) * G = P at *
      have q1 : Q ≤ Q' := by
        have : W * Q < W * (Q' + 1) := by rw [Int.mul_add, Int.mul_one]; omega
        have := Int.lt_of_mul_lt_mul_left this (Int.le_of_lt w0)
        omega
      have q2 : Q' ≤ Q + 1 := by
        have : W * Q' < W * (Q + 2) := by rw [Int.mul_add]; omega
        have := Int.lt_of_mul_lt_mul_left this (Int.le_of_lt w0)
        omega
      have q0 : 0 ≤ Q := by
        have : W * (-1) < W * Q := by omega
        have := Int.lt_of_mul_lt_mul_left this (Int.le_of_lt w0)
        omega
      have wq : 0 ≤ W * Q := Int.mul_nonneg (by omega) q0
      by_cases hQm : Q < m
      · rw [if_pos hQm]
        have cap : ¬ B < B + P - W * Q + G := by omega
        rw [if_neg cap]
        refine ⟨fun hp => ?_, fun hp => ?_⟩
        · have : W * (Q + 1) < W * (Q' + 1) := by rw [Int.mul_add, Int.mul_add]; omega
          have := Int.lt_of_mul_lt_mul_left this (Int.le_of_lt w0)
          have e : Q' = Q + 1 := by omega
          subst e
          rw [if_pos (by omega)]
          rw [Int.mul_add]
          omega
        · have : W * Q' < W * (Q + 1) := by rw [Int.mul_add]; omega
          have := Int.lt_of_mul_lt_mul_left this (Int.le_of_lt w0)
          have e : Q' = Q := by omega
          rw [e, if_pos (by omega)]
          omega
      · rw [if_neg hQm]
        have mw : m * G ≤ m * W := Int.mul_le_mul_of_nonneg_left (by omega) m0
        rw [Int.mul_comm m W] at mw
        have cap : ¬ B < B + P - W * m + G := by omega
        rw [if_neg cap]
        refine ⟨fun hp => ?_, fun hp => ?_⟩
        · have : W * (m + 1) < W * (Q' + 1) := by rw [Int.mul_add, Int.mul_add]; omega
          have := Int.lt_of_mul_lt_mul_left this (Int.le_of_lt w0)
          rw [if_neg (by omega), Int.mul_add]
          omega
        · have : W * Q' < W * (m + 1) := by rw [Int.mul_add]; omega
          have := Int.lt_of_mul_lt_mul_left this (Int.le_of_lt w0)
          have e : Q' = m := by omega
          rw [e, if_pos (by omega)]
          omega
end Mine
end
section
open PySem PySem.W PySem.Calls PyProof.Rows PySem.Spec
namespace Mine
/-! a quota, packet by packet -/
theorem q_step {ov : Bool} {m u len k now : Int} (l0 : 1 ≤ len) (k0 : 0 ≤ k) :
    ((Cell.quo ov m (u + k * len)).tell now len = true → qpass ov m u len (k + 1) = qpass ov m u len k + 1) ∧ ((Cell.quo ov m (u + k * len)).tell now len = false → qpass ov m u len (k + 1) = qpass ov m u len k) ∧
    (ov = false → (Cell.quo ov m (u + k * len)).tell now len = true → qpass ov m u len k = k) ∧ (ov = true → 0 < qpass ov m u len k → (Cell.quo ov m (u + k * len)).tell now len = true) ∧ 0 ≤ qpass ov m u len k ∧ qpass ov m u len k ≤ k := by
  have hl : 0 < len := by omega
  unfold Cell.tell qpass
  rw [Int.fdiv_eq_ediv_of_nonneg _ (by omega)]
  obtain ⟨d1, d2⟩ := div_le (N := m - u - 1) hl
  generalize hq : (m - u - 1) / len = q at *
  have key : u + k * len + len < m ↔ k + 1 ≤ q := by
    constructor
    · intro h
      have : len * (k + 1) < len * (q + 1) := by rw [Int.mul_add, Int.mul_add, Int.mul_comm len k]; omega
      have := Int.lt_of_mul_lt_mul_left this (Int.le_of_lt hl)
      omega
    · intro h
      have : len * (k + 1) ≤ len * q := Int.mul_le_mul_of_nonneg_left h (Int.le_of_lt hl)
      rw [Int.mul_add, Int.mul_comm len k] at this
      omega
  have key2 : m ≤ u + k * len + len ↔ ¬ k + 1 ≤ q := by rw [← key]; omega
  have mxe : (if q > 0 then q else 0) = max q 0 := by split <;> omega
  dsimp only
  rw [mxe]
  cases ov with
  | true =>
    simp only [if_true, decide_eq_true_eq, decide_eq_false_iff_not, key2, Bool.true_eq_false, false_implies, true_implies, Decidable.not_not, true_and]
    refine ⟨fun h => ?_, fun h => ?_, fun h => ?_, ?_, ?_⟩ <;> (repeat' split) <;> (try split at h) <;> omega
  | false =>
    simp only [if_false, Bool.false_eq_true, decide_eq_true_eq, decide_eq_false_iff_not, key, false_implies, true_implies, true_and]
    refine ⟨fun h => ?_, fun h => ?_, fun h => ?_, ?_, ?_⟩ <;> (repeat' split) <;> omega
theorem q_zero {ov : Bool} {m u len : Int} (l0 : 1 ≤ len) : qpass ov m u len 0 = 0 := by
  have := (q_step (ov := ov) (m := m) (u := u) (now := 0) l0 (Int.le_refl 0)).2.2.2.2
  omega
theorem l_rng {L : Lim} {step len : Int} (pl : PreL L step len) : ∀ (k : Nat), 0 ≤ roomy L.B (L.W len) (step * 10 ^ 6) k ∧ roomy L.B (L.W len) (step * 10 ^ 6) k ≤ k
  | 0 => by
    have := room0 (B := L.B) (W := L.W len) (G := step * 10 ^ 6) pl.w0 (by have := pl.s0; omega) pl.bw
    rw [show ((0 : Nat) : Int) = 0 from rfl, this]; omega
  | k + 1 => by
    have ih := l_rng pl k
    have st := room_step (B := L.B) (W := L.W len) (G := step * 10 ^ 6) (m := k) pl.w0 (by have := pl.s0; omega) pl.bw (by omega)
    rw [show ((k + 1 : Nat) : Int) = (k : Int) + 1 by omega]
    by_cases h : L.W len ≤ flow L.B (L.W len) (step * 10 ^ 6) k
    · rw [(st.1 h).2]; omega
    · rw [(st.2 (by omega)).2]; omega
/-- a limit, packet by packet -/
theorem l_step {L : Lim} {step len k T t now : Int} (pl : PreL L step len) (k0 : 0 ≤ k) (h0 : k = 0 → L.B ≤ T + (now - t) * 10 ^ 6) (h1 : k ≠ 0 → T = toks L.B (L.W len) (step * 10 ^ 6) k ∧ now - t = step) :
    ((Cell.lim L T t).next now len = .lim L (toks L.B (L.W len) (step * 10 ^ 6) (k + 1)) now) ∧ ((Cell.lim L T t).tell now len = true → lpass L step len (k + 1) = lpass L step len k + 1) ∧ ((Cell.lim L T t).tell now len = false → lpass L step len (k + 1) = lpass L step len k) := by
  have st := room_step (B := L.B) (W := L.W len) (G := step * 10 ^ 6) (m := k) pl.w0 (by have := pl.s0; omega) pl.bw k0
  have ef : fill L T t now = flow L.B (L.W len) (step * 10 ^ 6) k := by
    unfold fill flow
    by_cases hk : k = 0
    · rw [if_pos hk]
      have := h0 hk
      split <;> omega
    · rw [if_neg hk]
      obtain ⟨a, b⟩ := h1 hk
      rw [b, a]
  unfold Cell.next Cell.tell lpass
  dsimp only
  rw [ef]
  by_cases h : L.W len ≤ flow L.B (L.W len) (step * 10 ^ 6) k
  · obtain ⟨a, b⟩ := st.1 h
    rw [if_pos h, if_pos h, a, b]
    refine ⟨rfl, ?_, ?_⟩
    · intro hh
      have : L.ov = false := by simpa using hh
      rw [this]; simp
    · intro hh
      have : L.ov = true := by simpa using hh
      rw [this]; simp; omega
  · obtain ⟨a, b⟩ := st.2 (by omega)
    rw [if_neg h, if_neg h, a, b]
    refine ⟨rfl, ?_, ?_⟩
    · intro hh
      rw [hh]; simp; omega
    · intro hh
      rw [hh]; simp
theorem l_zero {L : Lim} {step len : Int} (pl : PreL L step len) : lpass L step len 0 = 0 := by
  have := room0 (B := L.B) (W := L.W len) (G := step * 10 ^ 6) pl.w0 (by have := pl.s0; omega) pl.bw
  unfold lpass; rw [this]; split <;> rfl
theorem lpass_rng {L : Lim} {step len i : Int} (pl : PreL L step len) (h : 0 ≤ i) : 0 ≤ lpass L step len i ∧ lpass L step len i ≤ i := by
  have := l_rng pl i.toNat
  rw [show ((i.toNat : Nat) : Int) = i by omega] at this
  unfold lpass; split <;> omega
/-! a flood -/
def RS.pa (r : RS) (step len i : Int) : Int := if r.q then qpass r.ov r.m r.u len i else lpass r.L step len i
def RS.pb (r : RS) (step len a : Int) : Int := if r.q then lpass r.L step len a else qpass r.ov r.m r.u len a
def RS.at (r : RS) (at_ step len i : Int) : RS :=
  { r.aft i (r.pa step len i) (r.pb step len (r.pa step len i)) len with T := r.restT i (r.pa step len i) step len, t := r.restt at_ i (r.pa step len i) step len }
theorem pa_rng {r : RS} {step len i : Int} (pl : PreL r.L step len) (h : 0 ≤ i) : 0 ≤ r.pa step len i ∧ r.pa step len i ≤ i := by
  unfold RS.pa
  split
  · exact (q_step (now := 0) pl.l0 h).2.2.2.2
  · exact lpass_rng pl h
theorem pa_zero {r : RS} {step len : Int} (pl : PreL r.L step len) : r.pa step len 0 = 0 := by
  have := pa_rng pl (Int.le_refl 0); omega
theorem pb_rng {r : RS} {step len i : Int} (pl : PreL r.L step len) (h : 0 ≤ i) : 0 ≤ r.pb step len i ∧ r.pb step len i ≤ i := by
  unfold RS.pb
  split
  · exact lpass_rng pl h
  · exact (q_step (now := 0) pl.l0 h).2.2.2.2
theorem flood_step {r : RS} {at_ step len i : Int} (pl : PreL r.L step len) (i0 : 0 ≤ i) (full : r.L.B ≤ r.T + (at_ - r.t) * 10 ^ 6) :
    ((r.at at_ step len i).m1.tell (at_ + i * step) len = false → r.pa step len (i + 1) = r.pa step len i ∧ (r.at at_ step len (i + 1)).m1 = (r.at at_ step len i).m1.next (at_ + i * step) len ∧ (r.at at_ step len (i + 1)).m3 = (r.at at_ step len i).m3) ∧
    ((r.at at_ step len i).m1.tell (at_ + i * step) len = true → r.pa step len (i + 1) = r.pa step len i + 1 ∧ (r.at at_ step len (i + 1)).m1 = (r.at at_ step len i).m1.next (at_ + i * step) len ∧ (r.at at_ step len (i + 1)).m3 = (r.at at_ step len i).m3.next (at_ + i * step) len ∧
      ((r.at at_ step len i).m3.tell (at_ + i * step) len = false → r.pb step len (r.pa step len i + 1) = r.pb step len (r.pa step len i)) ∧ ((r.at at_ step len i).m3.tell (at_ + i * step) len = true → r.pb step len (r.pa step len i + 1) = r.pb step len (r.pa step len i) + 1)) := by
  have ar := pa_rng pl i0
  have s0 := pl.s0
  have is0 : 0 ≤ i * step := Int.mul_nonneg i0 s0
  have i1 : (i + 1) * len = i * len + len := by rw [Int.add_mul, Int.one_mul]
  have as1 : (i - 1) * step = i * step - step := by rw [Int.sub_mul, Int.one_mul]
  obtain ⟨p0, o0, p1, o1, p2, o2, ov, m, u, L, T, t, q⟩ := r
  cases q with
  | true =>
    simp only [RS.at, RS.aft, RS.m1, RS.m3, RS.quo, RS.lim, RS.pa, RS.pb, RS.restT, RS.restt, if_true] at *
    have qs := q_step (ov := ov) (m := m) (u := u) (now := at_ + i * step) pl.l0 i0
    generalize ha : qpass ov m u len i = a at *
    refine ⟨fun h => ?_, fun h => ?_⟩
    · rw [qs.2.1 h]
      refine ⟨rfl, ?_, ?_⟩
      · unfold Cell.next; rw [i1, ← Int.add_assoc]
      · congr 1
        split
        · rfl
        · rename_i hne
          cases ov with
          | false => simp
          | true => have := qs.2.2.2.1 rfl (by omega); rw [this] at h; cases h
    · rw [qs.1 h]
      have hnow : a ≠ 0 → at_ + i * step - (if a = 0 then t else if True ∧ ov = false then at_ + (a - 1) * step else at_ + (i - 1) * step) = step := by
        intro hne
        rw [if_neg hne]
        cases ov with
        | false =>
          have := qs.2.2.1 rfl h
          subst this
          simp only [and_self, if_true]
          omega
        | true => simp only [Bool.true_eq_false, and_false, if_false]; omega
      have ls := l_step (T := if a = 0 then T else toks L.B (L.W len) (step * 10 ^ 6) a) (t := if a = 0 then t else if True ∧ ov = false then at_ + (a - 1) * step else at_ + (i - 1) * step) (now := at_ + i * step) (k := a) pl ar.1
        (fun hz => by rw [if_pos hz, if_pos hz]; omega) (fun hz => ⟨if_neg hz, hnow hz⟩)
      refine ⟨rfl, ?_, ?_, ls.2.2, ls.2.1⟩
      · unfold Cell.next; rw [i1, ← Int.add_assoc]
      · rw [ls.1, if_neg (by omega), if_neg (by omega)]
        congr 1
        cases ov with
        | false =>
          have := qs.2.2.1 rfl h
          subst this
          simp only [and_self, if_true]
          rw [show a + 1 - 1 = a by omega]
        | true =>
          simp only [Bool.true_eq_false, and_false, if_false]
          rw [show i + 1 - 1 = i by omega]
  | false =>
    simp only [RS.at, RS.aft, RS.m1, RS.m3, RS.quo, RS.lim, RS.pa, RS.pb, RS.restT, RS.restt, if_false, Bool.false_eq_true, false_and] at *
    have ls := l_step (T := if i = 0 then T else toks L.B (L.W len) (step * 10 ^ 6) i) (t := if i = 0 then t else at_ + (i - 1) * step) (now := at_ + i * step) (k := i) pl i0
      (fun hz => by rw [if_pos hz, if_pos hz]; omega) (fun hz => ⟨if_neg hz, by rw [if_neg hz]; omega⟩)
    generalize ha : lpass L step len i = a at *
    have a1 : (a + 1) * len = a * len + len := by rw [Int.add_mul, Int.one_mul]
    have qs := q_step (ov := ov) (m := m) (u := u) (now := at_ + i * step) pl.l0 ar.1
    have e1 : (if i + 1 = 0 then T else toks L.B (L.W len) (step * 10 ^ 6) (i + 1)) = toks L.B (L.W len) (step * 10 ^ 6) (i + 1) := if_neg (by omega)
    have e2 : (if i + 1 = 0 then t else at_ + (i + 1 - 1) * step) = at_ + i * step := by rw [if_neg (by omega), show i + 1 - 1 = i by omega]
    refine ⟨fun h => ?_, fun h => ?_⟩
    · rw [ls.2.2 h, ls.1, e1, e2]
      exact ⟨rfl, rfl, rfl⟩
    · rw [ls.2.1 h, ls.1, e1, e2]
      refine ⟨rfl, rfl, ?_, qs.2.1, qs.1⟩
      unfold Cell.next; rw [a1, ← Int.add_assoc]
end Mine
end
section
open PySem PySem.W PySem.Calls PyProof.Rows PySem.Spec
namespace Mine
/-! a size's worth and the bucket -/
theorem pre_of {L : Lim} {len step : Int} (ok : LimOK L) (hl : LenOK L len) (s0 : 0 ≤ step) (sw : step ≤ L.W len / 10 ^ 6 + 1) : PreL L step len := by
  have r2 := ok.r2
  have r5 := ok.r5
  have sp := ok.span1
  have b0 := ok.b0
  have b3 := ok.b3
  obtain ⟨n1, n9, nw⟩ := hl
  have hr : 0 < L.rate := by omega
  have spl : 10 ^ 9 ≤ L.span ∧ L.span ≤ 604800 * 10 ^ 9 := by
    have := ok.s1; have := ok.s6
    unfold Lim.span
    omega
  have hW : 0 < L.W len ∧ L.W len < 3 * 10 ^ 18 ∧ (L.B ≤ L.W len ∨ 2 * L.W len ≤ L.B) := by
    unfold Lim.W Lim.B
    rw [Int.fdiv_eq_ediv_of_nonneg _ (by omega), Int.fdiv_eq_ediv_of_nonneg _ (by omega), Int.fdiv_eq_ediv_of_nonneg _ (by omega)]
    by_cases ho : L.oct = true
    · rw [if_pos ho, if_pos ho]
      obtain ⟨d1, d2⟩ := div_le (N := L.span * len) hr
      have a1 : L.span * 1 ≤ L.span * len := Int.mul_le_mul_of_nonneg_left n1 (by omega)
      have a2 : L.span * len ≤ L.span * 9000 := Int.mul_le_mul_of_nonneg_left n9 (by omega)
      generalize hX : L.span * len / L.rate = X at *
      have x0 : 0 < X := by
        rw [← hX]
        have : (1 : Int) ≤ L.span * len / L.rate := (Int.le_ediv_iff_mul_le hr).mpr (by omega)
        omega
      have x1 : 2 * X ≤ L.rate * X := Int.mul_le_mul_of_nonneg_right r2 (by omega)
      refine ⟨x0, by omega, ?_⟩
      rcases nw ho with h | h
      · right
        have a3 : L.span * (2 * len) ≤ L.span * (L.rate + L.burst) := Int.mul_le_mul_of_nonneg_left h (by omega)
        refine (Int.le_ediv_iff_mul_le hr).mpr ?_
        have e1 : 2 * X * L.rate = 2 * (L.rate * X) := by rw [Int.mul_assoc, Int.mul_comm X]
        have e2 : L.span * (2 * len) = 2 * (L.span * len) := by rw [Int.mul_left_comm]
        omega
      · left
        rw [← hX]
        exact Int.ediv_le_ediv hr (Int.mul_le_mul_of_nonneg_left h (by omega))
    · have hp := ok.bp (by simpa using ho)
      rw [if_neg ho, if_neg ho]
      obtain ⟨d1, d2⟩ := div_le (N := L.span) hr
      generalize hX : L.span / L.rate = X at *
      have x0 : 0 < X := by
        rw [← hX]
        have : (1 : Int) ≤ L.span / L.rate := (Int.le_ediv_iff_mul_le hr).mpr (by omega)
        omega
      have x1 : 2 * X ≤ L.rate * X := Int.mul_le_mul_of_nonneg_right r2 (by omega)
      refine ⟨x0, by omega, ?_⟩
      by_cases hb : L.burst = 1
      · left; rw [hb, Int.mul_one]; omega
      · right
        rw [Int.mul_comm 2]
        exact Int.mul_le_mul_of_nonneg_left (by omega) (by omega)
  obtain ⟨w0, w1, bw⟩ := hW
  exact ⟨ok, w0, by omega, s0, by omega, n1, by omega, sw, bw⟩
/-! equal data -/
theorem okEq_refl {x : V} (h : okEq x) : veq x x = true := by
  obtain ⟨d, h1, h2⟩ := h
  unfold veq
  rw [h1]
  exact PySem.SeqAt.eqv_refl d (SeqAt.canLay_of_shaped h2)
theorem ok_pair (a b : Int) : okEq (.tup [.int a, .int b]) := ⟨.tuple [.int a, .int b], rfl, rfl⟩
theorem ok_five : okEq (.lst [.int 1, .int 2, .int 3, .int 4, .int 5]) := ⟨_, rfl, by decide +kernel⟩
/-! a packet of a flood -/
def RH (y0 y1 y2 y3 : Option V) (f : Int) (lens : V) (y6 y7 : Option V) (k : Nat) (seat : Int) (stands rest : V) (at_ : Int) (x13 y14 y15 y16 : Option V) (step : Int) (begun before came : V) (tl : Rho) : Rho :=
  y0 :: y1 :: y2 :: y3 :: some (.int f) :: some lens :: y6 :: y7 :: some (cellsV k) :: some (.int seat) :: some stands :: some rest :: some (.int at_) :: x13 :: y14 :: y15 :: y16 :: some (.int step) :: some begun :: some before :: some came :: tl
def TL (tl : Rho) : Prop := tl = [] ∨ ∃ x y z, tl = [x, y, z]
def RS.cells (r : RS) : List Cell := [r.c0, r.m1, r.c2, r.m3, r.c4]
def RS.seat (r : RS) : Int := if r.q then 3 else 1
def due (r : RS) (step len i : Int) : Int := if r.pa step len (i + 1) = r.pa step len i then 1 else if r.pb step len (r.pa step len (i + 1)) = r.pb step len (r.pa step len i) then 3 else 5
theorem at_stm (r : RS) (at_ step len i : Int) : (r.at at_ step len i).stm = (r.aft i (r.pa step len i) (r.pb step len (r.pa step len i)) len).stm := by
  obtain ⟨p0, o0, p1, o1, p2, o2, ov, m, u, L, T, t, q⟩ := r
  cases q <;> rfl
theorem at_zero {r : RS} {at_ step len : Int} (pl : PreL r.L step len) : r.at at_ step len 0 = r := by
  have a0 := pa_zero (r := r) pl
  have b0 : r.pb step len 0 = 0 := by have := pb_rng (r := r) pl (Int.le_refl 0); omega
  unfold RS.at RS.restT RS.restt
  rw [a0, b0]
  obtain ⟨p0, o0, p1, o1, p2, o2, ov, m, u, L, T, t, q⟩ := r
  cases q <;> simp [RS.aft]
section
variable {O : Orc} {l : Addr}
theorem o245a (h245 : ∀ as sg K, sp245 as sg K → O 245 as sg K) {r : RS} {step len i : Int} (pl : PreL r.L step len) {sg : Sto} {K : V → Sto → Prop} (h : K (.int (r.pa step len i)) sg) : O 245 [r.m1.stm, .int step, .int len, .int i] sg K := by
  unfold RS.pa at h
  unfold RS.m1
  cases hq : r.q with
  | true => rw [hq] at h; exact h245 _ _ _ ⟨step, len, i, .inr ⟨_, _, _, pl.l0, pl.l1, rfl, h⟩⟩
  | false => rw [hq] at h; exact h245 _ _ _ ⟨step, len, i, .inl ⟨_, pl, rfl, h⟩⟩
theorem o245b (h245 : ∀ as sg K, sp245 as sg K → O 245 as sg K) {r : RS} {step len i : Int} (pl : PreL r.L step len) {sg : Sto} {K : V → Sto → Prop} (h : K (.int (r.pb step len i)) sg) : O 245 [r.m3.stm, .int step, .int len, .int i] sg K := by
  unfold RS.pb at h
  unfold RS.m3
  cases hq : r.q with
  | true => rw [hq] at h; exact h245 _ _ _ ⟨step, len, i, .inl ⟨_, pl, rfl, h⟩⟩
  | false => rw [hq] at h; exact h245 _ _ _ ⟨step, len, i, .inr ⟨_, _, _, pl.l0, pl.l1, rfl, h⟩⟩
theorem o266 (h266 : ∀ as sg K, sp266 as sg K → O 266 as sg K) {r : RS} {at_ step len i : Int} (pl : PreL r.L step len) (i0 : 0 ≤ i) (full : r.L.B ≤ r.T + (at_ - r.t) * 10 ^ 6) {sg0 : Sto} {K : V → Sto → Prop}
    (h : K (.int (due r step len i)) (sto5 sg0 (r.at at_ step len (i + 1)).cells)) : O 266 [cellsV sg0.length, .int (at_ + i * step), .int len] (sto5 sg0 (r.at at_ step len i).cells) K := by
  have st := flood_step (r := r) (at_ := at_) pl i0 full
  have okm : ∀ s : RS, s.L = r.L → s.m1.ok ∧ s.m3.ok := fun s e => by
    unfold RS.m1 RS.m3
    have : LimOK s.L := e ▸ pl.ok
    cases s.q <;> exact ⟨by first | trivial | exact this, by first | trivial | exact this⟩
  have ok := okm (r.at at_ step len i) rfl
  have i1 : (i + 1) * len = i * len + len := by rw [Int.add_mul, Int.one_mul]
  unfold due at h
  unfold RS.cells at h ⊢
  refine h266 _ _ _ ⟨sg0, _, _, (r.at at_ step len i).m1, _, _, (r.at at_ step len i).m3, _, _, _, _, ok.1, ok.2, rfl, rfl, fun t1 => ?_, fun t1 t3 => ?_, fun t1 t3 => ?_⟩
  · obtain ⟨a, b, c⟩ := st.1 t1
    have e0 : (r.at at_ step len (i + 1)).c0 = .cnt ((r.at at_ step len i).p0 + 1) ((r.at at_ step len i).o0 + len) := by
      show Cell.cnt (r.p0 + (i + 1)) (r.o0 + (i + 1) * len) = Cell.cnt (r.p0 + i + 1) (r.o0 + i * len + len)
      rw [i1, ← Int.add_assoc, ← Int.add_assoc]
    have e2 : (r.at at_ step len (i + 1)).c2 = (r.at at_ step len i).c2 := by
      show Cell.cnt (r.p1 + r.pa step len (i + 1)) (r.o1 + r.pa step len (i + 1) * len) = Cell.cnt (r.p1 + r.pa step len i) (r.o1 + r.pa step len i * len)
      rw [a]
    have e4 : (r.at at_ step len (i + 1)).c4 = (r.at at_ step len i).c4 := by
      show Cell.cnt (r.p2 + r.pb step len (r.pa step len (i + 1))) (r.o2 + r.pb step len (r.pa step len (i + 1)) * len) = Cell.cnt (r.p2 + r.pb step len (r.pa step len i)) (r.o2 + r.pb step len (r.pa step len i) * len)
      rw [a]
    rw [if_pos a, b, c, e0, e2, e4] at h
    exact h
  · obtain ⟨a, b, c, d, e⟩ := st.2 t1
    have d := d t3
    have e0 : (r.at at_ step len (i + 1)).c0 = .cnt ((r.at at_ step len i).p0 + 1) ((r.at at_ step len i).o0 + len) := by
      show Cell.cnt (r.p0 + (i + 1)) (r.o0 + (i + 1) * len) = Cell.cnt (r.p0 + i + 1) (r.o0 + i * len + len)
      rw [i1, ← Int.add_assoc, ← Int.add_assoc]
    have e2 : (r.at at_ step len (i + 1)).c2 = .cnt ((r.at at_ step len i).p1 + 1) ((r.at at_ step len i).o1 + len) := by
      show Cell.cnt (r.p1 + r.pa step len (i + 1)) (r.o1 + r.pa step len (i + 1) * len) = Cell.cnt (r.p1 + r.pa step len i + 1) (r.o1 + r.pa step len i * len + len)
      rw [a, Int.add_mul (r.pa step len i), Int.one_mul, ← Int.add_assoc, ← Int.add_assoc]
    have e4 : (r.at at_ step len (i + 1)).c4 = (r.at at_ step len i).c4 := by
      show Cell.cnt (r.p2 + r.pb step len (r.pa step len (i + 1))) (r.o2 + r.pb step len (r.pa step len (i + 1)) * len) = Cell.cnt (r.p2 + r.pb step len (r.pa step len i)) (r.o2 + r.pb step len (r.pa step len i) * len)
      rw [a, d]
    rw [if_neg (by omega), a, d, if_pos rfl, b, c, e0, e2, e4] at h
    exact h
  · obtain ⟨a, b, c, d, e⟩ := st.2 t1
    have e := e t3
    have e0 : (r.at at_ step len (i + 1)).c0 = .cnt ((r.at at_ step len i).p0 + 1) ((r.at at_ step len i).o0 + len) := by
      show Cell.cnt (r.p0 + (i + 1)) (r.o0 + (i + 1) * len) = Cell.cnt (r.p0 + i + 1) (r.o0 + i * len + len)
      rw [i1, ← Int.add_assoc, ← Int.add_assoc]
    have e2 : (r.at at_ step len (i + 1)).c2 = .cnt ((r.at at_ step len i).p1 + 1) ((r.at at_ step len i).o1 + len) := by
      show Cell.cnt (r.p1 + r.pa step len (i + 1)) (r.o1 + r.pa step len (i + 1) * len) = Cell.cnt (r.p1 + r.pa step len i + 1) (r.o1 + r.pa step len i * len + len)
      rw [a, Int.add_mul (r.pa step len i), Int.one_mul, ← Int.add_assoc, ← Int.add_assoc]
    have e4 : (r.at at_ step len (i + 1)).c4 = .cnt ((r.at at_ step len i).p2 + 1) ((r.at at_ step len i).o2 + len) := by
      show Cell.cnt (r.p2 + r.pb step len (r.pa step len (i + 1))) (r.o2 + r.pb step len (r.pa step len (i + 1)) * len) = Cell.cnt (r.p2 + r.pb step len (r.pa step len i) + 1) (r.o2 + r.pb step len (r.pa step len i) * len + len)
      rw [a, e, Int.add_mul (r.pb step len (r.pa step len i)), Int.one_mul, ← Int.add_assoc, ← Int.add_assoc]
    rw [if_neg (by omega), a, e, if_neg (by omega), b, c, e0, e2, e4] at h
    exact h
end
end Mine
end
section
open PySem PySem.W PySem.Calls PyProof.Rows PySem.Spec
namespace Mine
def kb2 : List S := [.ite (.cmp .ne (.call 266 [(.var 8), (.bin .add (.var 12) (.bin .mul (.var 13) (.var 17))), (.item (.var 5) (.var 4))]) (.var 23)) [.ret (.bool false)] [], .asn 10 (.call 252 [(.var 18), (.var 20), (.item (.var 5) (.var 4))]), .asn 11 (.call 259 [(.var 18), (.var 19), (.var 12), (.var 17), (.item (.var 5) (.var 4)), (.var 20)]), .ite (.cmp .ne (.compI 43 (.var 8) (.call 172 [(.var 43)])) (.var 10)) [.ret (.bool false)] [], .ite (.cmp .ne (.tup [(.attr (.item (.var 8) (.var 9)) 10), (.attr (.item (.var 8) (.var 9)) 11)]) (.var 11)) [.ret (.bool false)] []]
def kb : List S := (.asn 21 (.call 245 [(.item (.var 18) (.int 1)), (.var 17), (.item (.var 5) (.var 4)), (.bin .add (.var 13) (.int 1))])) :: (.unpR [22, 20] (.tup [(.var 20), (.tup [(.bin .add (.var 13) (.int 1)), (.var 21), (.call 245 [(.item (.var 18) (.int 3)), (.var 17), (.item (.var 5) (.var 4)), (.var 21)])])])) :: (.asn 23 (.ite (.cmp .eq (.item (.var 20) (.int 1)) (.item (.var 22) (.int 1))) (.int 1) (.ite (.cmp .eq (.item (.var 20) (.int 2)) (.item (.var 22) (.int 2))) (.int 3) (.int 5)))) :: kb2
def fb2 : List S := [.forr 13 (.int 0) (.bin .add (.bin .mod (.bin .add (.var 15) (.int 2)) (.int 5)) (.int 4)) kb, .asn 12 (.bin .add (.var 12) (.bin .mul (.bin .add (.bin .mod (.bin .add (.var 15) (.int 2)) (.int 5)) (.int 3)) (.var 17)))]
def fb1 : List S := (.ite (.cmp .eq (.var 4) (.int 1)) [.asn 12 (.bin .sub (.bin .add (.var 12) (.bin .mod (.bin .fdiv (.var 15) (.int 5)) (.pow 10 9))) (.bin .fdiv (.bin .sub (.item (.var 11) (.int 0)) (.var 3)) (.pow 10 6)))] []) :: (.unpR [18, 19, 20] (.tup [(.var 10), (.var 11), (.tup [(.int 0), (.int 0), (.int 0)])])) :: fb2
def fb : List S := (.unp [14, 15] (.compR 42 (.int 0) (.int 2) (.call 186 [(.var 0), (.bin .add (.bin .add (.bin .add (.bin .mul (.int 12) (.var 1)) (.int 7)) (.bin .mul (.int 3) (.var 4))) (.var 42))]))) :: (.asn 16 (.bin .fdiv (.call 198 [(.var 2), (.item (.var 5) (.var 4))]) (.pow 10 6))) :: (.asn 17 (.item (.lst [(.bin .fdiv (.var 16) (.int 2)), (.int 0), (.bin .fdiv (.var 16) (.int 3)), (.bin .add (.var 16) (.int 1)), (.var 16), (.bin .mod (.bin .fdiv (.var 14) (.int 6)) (.bin .add (.var 16) (.int 2)))]) (.bin .mod (.bin .add (.bin .add (.var 14) (.var 4)) (.var 1)) (.int 6)))) :: fb1
def t30c : List S := [.unpR [10, 11] (.tup [(.bi .list [(.slice (.var 6) 1 6)]), (.tup [(.var 3), (.int 0)])]), .asn 12 (.bin .mod (.bin .add (.call 186 [(.var 0), (.bin .add (.bin .mul (.int 12) (.var 1)) (.int 5))]) (.bin .mul (.int 1000) (.var 1))) (.pow 10 15)), .forr 4 (.int 0) (.int 2) fb, .ret (.bool true)]
def t30 : List S := (.asn 2 (.call 191 [(.var 0), (.var 1)])) :: (.asn 3 (.call 205 [(.var 2)])) :: (.asn 5 (.compR 40 (.int 0) (.int 2) (.call 212 [(.call 186 [(.var 0), (.bin .add (.bin .add (.bin .mul (.int 12) (.var 1)) (.int 6)) (.bin .mul (.int 3) (.var 40)))]), (.var 2), (.var 40), (.var 1)]))) :: (.asn 6 (.call 217 [(.var 0), (.var 1), (.var 2), (.item (.var 5) (.int 0))])) :: (.asn 7 (.call 179 [(.var 6)])) :: (.ite (.cmp .ne (.bi .sorted [(.var 7)]) (.lst [(.int 1), (.int 2), (.int 3), (.int 4), (.int 5)])) [.ret (.bool false)] []) :: (.asn 8 (.compR 41 (.int 1) (.int 6) (.item (.var 7) (.var 41)))) :: (.asn 9 (.ite (.cmp .eq (.item (.var 6) (.int 2)) (.var 2)) (.int 1) (.int 3))) :: t30c
theorem t30_eq : tm30 = t30 := rfl
theorem pick_two {f len l0 l1 : Int} (hf : (f = 0 ∧ len = l0) ∨ (f = 1 ∧ len = l1)) : 0 ≤ f ∧ ([.int l0, .int l1] : List V)[f.toNat]? = some (.int len) ∧ ([.int l0, .int l1] : List V).length < 2 ^ 30 := by
  rcases hf with ⟨rfl, rfl⟩ | ⟨rfl, rfl⟩
  · exact ⟨by decide, rfl, show 2 < 2 ^ 30 from by decide⟩
  · exact ⟨by decide, rfl, show 2 < 2 ^ 30 from by decide⟩
theorem seat_ok (s : RS) (sg0 : Sto) : ∃ n, 0 ≤ (if s.q then 3 else 1 : Int) ∧ ([.obj (sg0.length + 1), .obj (sg0.length + 2), .obj (sg0.length + 3), .obj (sg0.length + 4), .obj (sg0.length + 5)] : List V)[(if s.q then 3 else 1 : Int).toNat]? = some (.obj n) ∧ (sto5 sg0 s.cells)[n]? = some (.inst 119 (limF s.L s.T s.t)) := by
  obtain ⟨p0, o0, p1, o1, p2, o2, ov, m, u, L, T, t, q⟩ := s
  cases q
  · exact ⟨_, show (0 : Int) ≤ 1 by decide, rfl, at_app _ _ 2⟩
  · exact ⟨_, show (0 : Int) ≤ 3 by decide, rfl, at_app _ _ 4⟩
theorem nv {b : Bool} (h : b = true) (k : (!b) = true) : False := by rw [h] at k; cases k
theorem ok_stms (r : RS) (ok : LimOK r.L) : okEq (.lst r.stm) := by
  have un := ok.un
  obtain ⟨p0, o0, p1, o1, p2, o2, ov, m, u, ⟨lo, ra, un', se, bu, oc⟩, T, t, q⟩ := r
  dsimp only at un
  rcases sec_cases un with ⟨rfl, _⟩ | ⟨rfl, _⟩ | ⟨rfl, _⟩ | ⟨rfl, _⟩ | ⟨rfl, _⟩ <;> cases q <;> exact ⟨_, rfl, by kernel_rfl⟩
section
variable {O : Orc}
set_option maxRecDepth 20000 in
theorem k_tail0 (h172 : ∀ as sg K, sp172 as sg K → O 172 as sg K) {s s' : RS} {rstm vs5 : List V} {at_ step len i f du pav pbv st T t : Int} {sg0 : Sto}
    (h252' : ∀ (sg : Sto) (K : V → Sto → Prop), K (.lst s.stm) sg → O 252 [.lst rstm, .tup [.int (i + 1), .int pav, .int pbv], .int len] sg K)
    (h259' : ∀ (sg : Sto) (K : V → Sto → Prop), K (.tup [.int s.T, .int s.t]) sg → O 259 [.lst rstm, .tup [.int T, .int t], .int at_, .int step, .int len, .tup [.int (i + 1), .int pav, .int pbv]] sg K)
    (h266' : ∀ (K : V → Sto → Prop), K (.int du) (sto5 sg0 s.cells) → O 266 [cellsV sg0.length, .int (at_ + i * step), .int len] (sto5 sg0 s'.cells) K)
    (oks : okEq (.lst s.stm)) (hseat : st = if s.q then 3 else 1) (hmul : i.natAbs < 9223372036854775808 ∨ step.natAbs < 9223372036854775808) (f0 : 0 ≤ f) (hv : vs5[f.toNat]? = some (.int len)) (hvl : vs5.length < 2 ^ 30)
    {y0 y1 y2 y3 y6 y7 y14 y15 y16 x21 x22 : Option V} {stands rest : V} {K : Kf}
    (hk : K none (RH y0 y1 y2 y3 f (.lst vs5) y6 y7 sg0.length st (.lst s.stm) (.tup [.int s.T, .int s.t]) at_ (some (.int i)) y14 y15 y16 step (.lst rstm) (.tup [.int T, .int t]) (.tup [.int (i + 1), .int pav, .int pbv]) [x21, x22, some (.int du)]) (sto5 sg0 s.cells)) :
    wps O kb2 (RH y0 y1 y2 y3 f (.lst vs5) y6 y7 sg0.length st stands rest at_ (some (.int i)) y14 y15 y16 step (.lst rstm) (.tup [.int T, .int t]) (.tup [.int (i + 1), .int pav, .int pbv]) [x21, x22, some (.int du)]) (sto5 sg0 s'.cells) K := by
  have okp := ok_pair s.T s.t
  unfold RH at *
  dsimp only [kb2, List.cons_append, List.nil_append, List.getElem?_cons_zero, List.getElem?_cons_succ, List.getElem?_nil, bcmp_str, wps, wps1, wpe, wpes, wpt, wpMap, wpFor, wpForL, upto, rangeOf, bop_add, bop_sub, bop_mul, bop_fdiv, bop_mod, bop_tup, bcmp_lt, bcmp_le, bcmp_gt, bcmp_ge, bcmp_eq, bcmp_ne, bcmp_tup, bcmp_tupn, bcmp_lst, bcmp_lstn, biS, biC_len, biC_lenl, biC_min, biC_max, biC_isi, biC_list, bitem, storeItem, asBool, isNn, sattr, sset, sseti, sapp, notRaw, itemsOf, vget, vput, vputs, getF, putF, getK, List.map, List.map_cons, List.map_nil, List.length, List.length_cons, List.length_nil, Option.getD, Int.reduceToNat, Int.reduceSub, Int.reduceAdd, Int.reduceMul, Nat.reducePow, Nat.reduceSub, Nat.reduceAdd, Bool.not_true, Bool.not_false, List.reverse, List.reverseAux]
  rw [hv]
  refine ⟨hmul, f0, hvl, h266' _ ?_⟩
  dsimp only [List.cons_append, List.nil_append, List.getElem?_cons_zero, List.getElem?_cons_succ, List.getElem?_nil, bcmp_str, wps, wps1, wpe, wpes, wpt, wpMap, wpFor, wpForL, upto, rangeOf, bop_add, bop_sub, bop_mul, bop_fdiv, bop_mod, bop_tup, bcmp_lt, bcmp_le, bcmp_gt, bcmp_ge, bcmp_eq, bcmp_ne, bcmp_tup, bcmp_tupn, bcmp_lst, bcmp_lstn, biS, biC_len, biC_lenl, biC_min, biC_max, biC_isi, biC_list, bitem, storeItem, asBool, isNn, sattr, sset, sseti, sapp, notRaw, itemsOf, vget, vput, vputs, getF, putF, getK, List.map, List.map_cons, List.map_nil, List.length, List.length_cons, List.length_nil, Option.getD, Int.reduceToNat, Int.reduceSub, Int.reduceAdd, Int.reduceMul, Nat.reducePow, Nat.reduceSub, Nat.reduceAdd, Bool.not_true, Bool.not_false, List.reverse, List.reverseAux]
  obtain ⟨nl, st0, sn, sl⟩ := seat_ok s sg0
  rw [← hseat] at st0 sn
  clear hseat
  refine ⟨fun h => absurd h (by rw [decide_eq_true rfl]; decide), fun _ => ⟨f0, hvl, h252' _ _ ⟨f0, hvl, h259' _ _ ?_⟩⟩⟩
  dsimp only [cellsV, List.cons_append, List.nil_append, List.getElem?_cons_zero, List.getElem?_cons_succ, List.getElem?_nil, bcmp_str, wps, wps1, wpe, wpes, wpt, wpMap, wpFor, wpForL, upto, rangeOf, bop_add, bop_sub, bop_mul, bop_fdiv, bop_mod, bop_tup, bcmp_lt, bcmp_le, bcmp_gt, bcmp_ge, bcmp_eq, bcmp_ne, bcmp_tup, bcmp_tupn, bcmp_lst, bcmp_lstn, biS, biC_len, biC_lenl, biC_min, biC_max, biC_isi, biC_list, bitem, storeItem, asBool, isNn, sattr, sset, sseti, sapp, notRaw, itemsOf, vget, vput, vputs, getF, putF, getK, List.map, List.map_cons, List.map_nil, List.length, List.length_cons, List.length_nil, Option.getD, Int.reduceToNat, Int.reduceSub, Int.reduceAdd, Int.reduceMul, Nat.reducePow, Nat.reduceSub, Nat.reduceAdd, Bool.not_true, Bool.not_false, List.reverse, List.reverseAux] at sn hk ⊢
  rw [sn]
  dsimp only [List.cons_append, List.nil_append, List.getElem?_cons_zero, List.getElem?_cons_succ, List.getElem?_nil, bcmp_str, wps, wps1, wpe, wpes, wpt, wpMap, wpFor, wpForL, upto, rangeOf, bop_add, bop_sub, bop_mul, bop_fdiv, bop_mod, bop_tup, bcmp_lt, bcmp_le, bcmp_gt, bcmp_ge, bcmp_eq, bcmp_ne, bcmp_tup, bcmp_tupn, bcmp_lst, bcmp_lstn, biS, biC_len, biC_lenl, biC_min, biC_max, biC_isi, biC_list, bitem, storeItem, asBool, isNn, sattr, sset, sseti, sapp, notRaw, itemsOf, vget, vput, vputs, getF, putF, getK, List.map, List.map_cons, List.map_nil, List.length, List.length_cons, List.length_nil, Option.getD, Int.reduceToNat, Int.reduceSub, Int.reduceAdd, Int.reduceMul, Nat.reducePow, Nat.reduceSub, Nat.reduceAdd, Bool.not_true, Bool.not_false, List.reverse, List.reverseAux]
  refine ⟨by decide, by decide, h172 _ _ _ ⟨_, s.c0, rfl, at_app _ _ 1, h172 _ _ _ ⟨_, s.m1, rfl, at_app _ _ 2, h172 _ _ _ ⟨_, s.c2, rfl, at_app _ _ 3, h172 _ _ _ ⟨_, s.m3, rfl, at_app _ _ 4, h172 _ _ _ ⟨_, s.c4, rfl, at_app _ _ 5, ?_⟩⟩⟩⟩⟩⟩
  refine ⟨⟨oks, oks⟩, fun h => (nv (okEq_refl oks) h).elim, fun _ => ⟨st0, by decide, ?_⟩⟩
  rw [sl]
  dsimp only [limF, List.cons_append, List.nil_append, List.getElem?_cons_zero, List.getElem?_cons_succ, List.getElem?_nil, bcmp_str, wps, wps1, wpe, wpes, wpt, wpMap, wpFor, wpForL, upto, rangeOf, bop_add, bop_sub, bop_mul, bop_fdiv, bop_mod, bop_tup, bcmp_lt, bcmp_le, bcmp_gt, bcmp_ge, bcmp_eq, bcmp_ne, bcmp_tup, bcmp_tupn, bcmp_lst, bcmp_lstn, biS, biC_len, biC_lenl, biC_min, biC_max, biC_isi, biC_list, bitem, storeItem, asBool, isNn, sattr, sset, sseti, sapp, notRaw, itemsOf, vget, vput, vputs, getF, putF, getK, List.map, List.map_cons, List.map_nil, List.length, List.length_cons, List.length_nil, Option.getD, Int.reduceToNat, Int.reduceSub, Int.reduceAdd, Int.reduceMul, Nat.reducePow, Nat.reduceSub, Nat.reduceAdd, Bool.not_true, Bool.not_false, List.reverse, List.reverseAux]
  exact ⟨⟨.inr (.inr rfl), by decide⟩, trivial, st0, by decide, ⟨.inr (.inr rfl), by decide⟩, trivial, by decide, ⟨okp, okp⟩, fun h => (nv (okEq_refl okp) h).elim, fun _ => hk⟩
theorem k_tail (h172 : ∀ as sg K, sp172 as sg K → O 172 as sg K) (h252 : ∀ as sg K, sp252 as sg K → O 252 as sg K) (h259 : ∀ as sg K, sp259 as sg K → O 259 as sg K) (h266 : ∀ as sg K, sp266 as sg K → O 266 as sg K)
    {r : RS} {at_ step len i f l0 l1 : Int} {sg0 : Sto} (pl : PreL r.L step len) (i0 : 0 ≤ i) (i9 : i < 1000) (full : r.L.B ≤ r.T + (at_ - r.t) * 10 ^ 6) (hf : (f = 0 ∧ len = l0) ∨ (f = 1 ∧ len = l1))
    {y0 y1 y2 y3 y6 y7 y14 y15 y16 x21 x22 : Option V} {stands rest : V} {K : Kf}
    (hk : K none (RH y0 y1 y2 y3 f (.lst [.int l0, .int l1]) y6 y7 sg0.length r.seat (.lst (r.at at_ step len (i + 1)).stm) (.tup [.int (r.at at_ step len (i + 1)).T, .int (r.at at_ step len (i + 1)).t]) at_ (some (.int i)) y14 y15 y16 step (.lst r.stm) (.tup [.int r.T, .int r.t]) (.tup [.int (i + 1), .int (r.pa step len (i + 1)), .int (r.pb step len (r.pa step len (i + 1)))]) [x21, x22, some (.int (due r step len i))]) (sto5 sg0 (r.at at_ step len (i + 1)).cells)) :
    wps O kb2 (RH y0 y1 y2 y3 f (.lst [.int l0, .int l1]) y6 y7 sg0.length r.seat stands rest at_ (some (.int i)) y14 y15 y16 step (.lst r.stm) (.tup [.int r.T, .int r.t]) (.tup [.int (i + 1), .int (r.pa step len (i + 1)), .int (r.pb step len (r.pa step len (i + 1)))]) [x21, x22, some (.int (due r step len i))]) (sto5 sg0 (r.at at_ step len i).cells) K := by
  have ar := pa_rng (r := r) (i := i + 1) pl (by omega)
  have l0' := pl.l0
  have l1' := pl.l1
  have s0 := pl.s0
  have s1 := pl.s1
  have hst := at_stm r at_ step len (i + 1)
  obtain ⟨f0, hv, hvl⟩ := pick_two hf
  exact k_tail0 (at_ := at_) (s := r.at at_ step len (i + 1)) h172 (fun sg K h => h252 _ _ _ ⟨r, _, _, _, len, rfl, by omega, by rw [← hst]; exact h⟩)
    (fun sg K h => h259 _ _ _ ⟨r, _, _, _, at_, step, len, pl, rfl, ar.1, ar.2, by omega, h⟩) (fun K h => o266 (sg0 := sg0) (K := K) h266 pl i0 full h)
    (ok_stms _ pl.ok) rfl (.inl (by omega)) f0 hv hvl hk
end
end Mine
end
section
open PySem PySem.W PySem.Calls PyProof.Rows PySem.Spec
namespace Mine
section
variable {O : Orc}
set_option maxRecDepth 20000 in
theorem k_body (h245 : ∀ as sg K, sp245 as sg K → O 245 as sg K) (h172 : ∀ as sg K, sp172 as sg K → O 172 as sg K) (h252 : ∀ as sg K, sp252 as sg K → O 252 as sg K) (h259 : ∀ as sg K, sp259 as sg K → O 259 as sg K) (h266 : ∀ as sg K, sp266 as sg K → O 266 as sg K)
    {r : RS} {at_ step len i f l0 l1 : Int} {sg0 : Sto} (pl : PreL r.L step len) (i0 : 0 ≤ i) (i9 : i < 1000) (full : r.L.B ≤ r.T + (at_ - r.t) * 10 ^ 6) (hf : (f = 0 ∧ len = l0) ∨ (f = 1 ∧ len = l1))
    {y0 y1 y2 y3 y6 y7 y14 y15 y16 : Option V} {stands rest : V} {tl : Rho} (htl : TL tl) {K : Kf}
    (hk : ∀ tl, TL tl → K none (RH y0 y1 y2 y3 f (.lst [.int l0, .int l1]) y6 y7 sg0.length r.seat (.lst (r.at at_ step len (i + 1)).stm) (.tup [.int (r.at at_ step len (i + 1)).T, .int (r.at at_ step len (i + 1)).t]) at_ (some (.int i)) y14 y15 y16 step (.lst r.stm) (.tup [.int r.T, .int r.t]) (.tup [.int (i + 1), .int (r.pa step len (i + 1)), .int (r.pb step len (r.pa step len (i + 1)))]) tl) (sto5 sg0 (r.at at_ step len (i + 1)).cells)) :
    wps O kb (RH y0 y1 y2 y3 f (.lst [.int l0, .int l1]) y6 y7 sg0.length r.seat stands rest at_ (some (.int i)) y14 y15 y16 step (.lst r.stm) (.tup [.int r.T, .int r.t]) (.tup [.int i, .int (r.pa step len i), .int (r.pb step len (r.pa step len i))]) tl) (sto5 sg0 (r.at at_ step len i).cells) K := by
  have o1 := fun (sg : Sto) (K : V → Sto → Prop) h => o245a (sg := sg) (K := K) (i := i + 1) h245 pl h
  have o3 := fun (sg : Sto) (K : V → Sto → Prop) h => o245b (sg := sg) (K := K) (i := r.pa step len (i + 1)) h245 pl h
  have tail := fun x21 x22 => k_tail (x21 := x21) (x22 := x22) (stands := stands) (rest := rest) h172 h252 h259 h266 pl i0 i9 full hf (hk _ (.inr ⟨x21, x22, _, rfl⟩))
  clear hk
  unfold due at tail
  generalize hs : sto5 sg0 (r.at at_ step len i).cells = S0 at *
  have hstm : r.stm = [r.c0.stm, r.m1.stm, r.c2.stm, r.m3.stm, r.c4.stm] := rfl
  generalize r.m1.stm = s1 at *
  generalize r.m3.stm = s3 at *
  generalize r.pb step len (r.pa step len (i + 1)) = pb1 at *
  generalize r.pb step len (r.pa step len i) = pb0 at *
  generalize r.pa step len (i + 1) = pa1 at *
  generalize r.pa step len i = pa0 at *
  generalize r.seat = st at *
  unfold RH at *
  rw [hstm] at *
  obtain ⟨f0, hv, hvl⟩ := pick_two hf
  clear hf
  generalize ([.int l0, .int l1] : List V) = vs5 at *
  rcases htl with rfl | ⟨_, _, _, rfl⟩ <;>
  · dsimp only [kb, List.cons_append, List.nil_append, List.getElem?_cons_zero, List.getElem?_cons_succ, List.getElem?_nil, bcmp_str, wps, wps1, wpe, wpes, wpt, wpMap, wpFor, wpForL, upto, rangeOf, bop_add, bop_sub, bop_mul, bop_fdiv, bop_mod, bop_tup, bcmp_lt, bcmp_le, bcmp_gt, bcmp_ge, bcmp_eq, bcmp_ne, bcmp_tup, bcmp_tupn, bcmp_lst, bcmp_lstn, biS, biC_len, biC_lenl, biC_min, biC_max, biC_isi, biC_list, bitem, storeItem, asBool, isNn, sattr, sset, sseti, sapp, notRaw, itemsOf, vget, vput, vputs, getF, putF, getK, List.map, List.map_cons, List.map_nil, List.length, List.length_cons, List.length_nil, Option.getD, Int.reduceToNat, Int.reduceSub, Int.reduceAdd, Int.reduceMul, Nat.reducePow, Nat.reduceSub, Nat.reduceAdd, Bool.not_true, Bool.not_false, List.reverse, List.reverseAux]
    rw [hv]
    refine ⟨by decide, by decide, f0, hvl, o1 _ _ ⟨by decide, by decide, f0, hvl, o3 _ _ ?_⟩⟩
    dsimp only [List.cons_append, List.nil_append, List.getElem?_cons_zero, List.getElem?_cons_succ, List.getElem?_nil, bcmp_str, wps, wps1, wpe, wpes, wpt, wpMap, wpFor, wpForL, upto, rangeOf, bop_add, bop_sub, bop_mul, bop_fdiv, bop_mod, bop_tup, bcmp_lt, bcmp_le, bcmp_gt, bcmp_ge, bcmp_eq, bcmp_ne, bcmp_tup, bcmp_tupn, bcmp_lst, bcmp_lstn, biS, biC_len, biC_lenl, biC_min, biC_max, biC_isi, biC_list, bitem, storeItem, asBool, isNn, sattr, sset, sseti, sapp, notRaw, itemsOf, vget, vput, vputs, getF, putF, getK, List.map, List.map_cons, List.map_nil, List.length, List.length_cons, List.length_nil, Option.getD, Int.reduceToNat, Int.reduceSub, Int.reduceAdd, Int.reduceMul, Nat.reducePow, Nat.reduceSub, Nat.reduceAdd, Bool.not_true, Bool.not_false, List.reverse, List.reverseAux]
    refine ⟨by decide, by decide, rfl, by decide, by decide, by decide, by decide, fun c1 => ?_, fun c1 => ⟨by decide, by decide, by decide, by decide, fun c2 => ?_, fun c2 => ?_⟩⟩
    · rw [if_pos (of_decide_eq_true c1)] at tail
      exact tail _ _
    · rw [if_neg (of_decide_eq_false c1), if_pos (of_decide_eq_true c2)] at tail
      exact tail _ _
    · rw [if_neg (of_decide_eq_false c1), if_neg (of_decide_eq_false c2)] at tail
      exact tail _ _
theorem k_loop (h245 : ∀ as sg K, sp245 as sg K → O 245 as sg K) (h172 : ∀ as sg K, sp172 as sg K → O 172 as sg K) (h252 : ∀ as sg K, sp252 as sg K → O 252 as sg K) (h259 : ∀ as sg K, sp259 as sg K → O 259 as sg K) (h266 : ∀ as sg K, sp266 as sg K → O 266 as sg K)
    {r : RS} {at_ step len f l0 l1 : Int} {sg0 : Sto} (pl : PreL r.L step len) (full : r.L.B ≤ r.T + (at_ - r.t) * 10 ^ 6) (hf : (f = 0 ∧ len = l0) ∨ (f = 1 ∧ len = l1))
    {y0 y1 y2 y3 y6 y7 y14 y15 y16 : Option V} {N : Int} {K : Kf}
    (hk : ∀ x13 tl, TL tl → K none (RH y0 y1 y2 y3 f (.lst [.int l0, .int l1]) y6 y7 sg0.length r.seat (.lst (r.at at_ step len N).stm) (.tup [.int (r.at at_ step len N).T, .int (r.at at_ step len N).t]) at_ x13 y14 y15 y16 step (.lst r.stm) (.tup [.int r.T, .int r.t]) (.tup [.int N, .int (r.pa step len N), .int (r.pb step len (r.pa step len N))]) tl) (sto5 sg0 (r.at at_ step len N).cells)) (hN : N < 1000) :
    ∀ (n : Nat) (i : Int), i + n = N → 0 ≤ i → ∀ (x13 : Option V) (tl : Rho), TL tl →
    wpFor (fun r' sg' K' => wps O kb r' sg' K') 13 (upto i n) (RH y0 y1 y2 y3 f (.lst [.int l0, .int l1]) y6 y7 sg0.length r.seat (.lst (r.at at_ step len i).stm) (.tup [.int (r.at at_ step len i).T, .int (r.at at_ step len i).t]) at_ x13 y14 y15 y16 step (.lst r.stm) (.tup [.int r.T, .int r.t]) (.tup [.int i, .int (r.pa step len i), .int (r.pb step len (r.pa step len i))]) tl) (sto5 sg0 (r.at at_ step len i).cells) K
  | 0, i, hi, i0, x13, tl, htl => by
    have e : i = N := by omega
    subst e
    unfold upto wpFor
    exact hk _ _ htl
  | n + 1, i, hi, i0, x13, tl, htl => by
    unfold upto wpFor
    have hv : ∀ (st rs : V), vput (RH y0 y1 y2 y3 f (.lst [.int l0, .int l1]) y6 y7 sg0.length r.seat st rs at_ x13 y14 y15 y16 step (.lst r.stm) (.tup [.int r.T, .int r.t]) (.tup [.int i, .int (r.pa step len i), .int (r.pb step len (r.pa step len i))]) tl) 13 (.int i) = RH y0 y1 y2 y3 f (.lst [.int l0, .int l1]) y6 y7 sg0.length r.seat st rs at_ (some (.int i)) y14 y15 y16 step (.lst r.stm) (.tup [.int r.T, .int r.t]) (.tup [.int i, .int (r.pa step len i), .int (r.pb step len (r.pa step len i))]) tl := fun _ _ => rfl
    rw [hv]
    refine k_body h245 h172 h252 h259 h266 pl i0 (by omega) full hf htl fun tl htl => ?_
    exact k_loop h245 h172 h252 h259 h266 pl full hf hk hN n (i + 1) (by omega) (by omega) _ _ htl
end
end Mine
end
section
open PySem PySem.W PySem.Calls PyProof.Rows PySem.Spec
namespace Mine
section
variable {O : Orc} {l : Addr}
set_option maxRecDepth 20000 in
theorem fb2_ok (h245 : ∀ as sg K, sp245 as sg K → O 245 as sg K) (h172 : ∀ as sg K, sp172 as sg K → O 172 as sg K) (h252 : ∀ as sg K, sp252 as sg K → O 252 as sg K) (h259 : ∀ as sg K, sp259 as sg K → O 259 as sg K) (h266 : ∀ as sg K, sp266 as sg K → O 266 as sg K)
    {r : RS} {at_ step len f l0 l1 many : Int} {sg0 : Sto} (pl : PreL r.L step len) (full : r.L.B ≤ r.T + (at_ - r.t) * 10 ^ 6) (hf : (f = 0 ∧ len = l0) ∨ (f = 1 ∧ len = l1))
    {y0 y1 y2 y3 y6 y7 y14 y16 x13 : Option V} {tl : Rho} (htl : TL tl) {K : Kf}
    (hk : ∀ came x13 tl, TL tl → K none (RH y0 y1 y2 y3 f (.lst [.int l0, .int l1]) y6 y7 sg0.length r.seat (.lst (r.at at_ step len ((many + 2).fmod 5 + 4)).stm) (.tup [.int (r.at at_ step len ((many + 2).fmod 5 + 4)).T, .int (r.at at_ step len ((many + 2).fmod 5 + 4)).t]) (at_ + ((many + 2).fmod 5 + 3) * step) x13 y14 (some (.int many)) y16 step (.lst r.stm) (.tup [.int r.T, .int r.t]) came tl) (sto5 sg0 (r.at at_ step len ((many + 2).fmod 5 + 4)).cells)) :
    wps O fb2 (RH y0 y1 y2 y3 f (.lst [.int l0, .int l1]) y6 y7 sg0.length r.seat (.lst r.stm) (.tup [.int r.T, .int r.t]) at_ x13 y14 (some (.int many)) y16 step (.lst r.stm) (.tup [.int r.T, .int r.t]) (.tup [.int 0, .int 0, .int 0]) tl) (sto5 sg0 r.cells) K := by
  have rg := fmod_rng (many + 2) (b := 5) (by decide)
  have l0' := pl.l0
  have s0 := pl.s0
  have s1 := pl.s1
  have hst : step.natAbs < 9223372036854775808 := by omega
  have b0 : r.pb step len 0 = 0 := by have := pb_rng (r := r) pl (Int.le_refl 0); omega
  have go := fun (K : Kf) hk => k_loop (K := K) (y0 := y0) (y1 := y1) (y2 := y2) (y3 := y3) (y6 := y6) (y7 := y7) (y14 := y14) (y15 := some (.int many)) (y16 := y16) (sg0 := sg0) (N := (many + 2).fmod 5 + 4) h245 h172 h252 h259 h266 pl full hf hk (by omega) ((many + 2).fmod 5 + 4 - 0).toNat 0 (by omega) (Int.le_refl 0) x13 tl htl
  rw [at_zero pl, pa_zero pl, b0] at go
  unfold RH at *
  (first | (dsimp only [fb2, List.cons_append, List.nil_append, List.getElem?_cons_zero, List.getElem?_cons_succ, List.getElem?_nil, bcmp_str, wps, wps1, wpe, wpes, wpt, wpMap, wpFor, wpForL, upto, rangeOf, bop_add, bop_sub, bop_mul, bop_fdiv, bop_mod, bop_tup, bcmp_lt, bcmp_le, bcmp_gt, bcmp_ge, bcmp_eq, bcmp_ne, bcmp_tup, bcmp_tupn, bcmp_lst, bcmp_lstn, biS, biC_len, biC_lenl, biC_min, biC_max, biC_isi, biC_list, bitem, storeItem, asBool, isNn, sattr, sset, sseti, sapp, notRaw, itemsOf, vget, vput, vputs, getF, putF, getK, List.map, List.map_cons, List.map_nil, List.length, List.length_cons, List.length_nil, Option.getD, Int.reduceToNat, Int.reduceSub, Int.reduceAdd, Int.reduceMul, Nat.reducePow, Nat.reduceSub, Nat.reduceAdd, Bool.not_true, Bool.not_false]; try simp only [fb2, List.cons_append, List.nil_append, List.getElem?_cons_zero, List.getElem?_cons_succ, List.getElem?_nil, bcmp_str, wps, wps1, wpe, wpes, wpt, wpMap, wpFor, wpForL, upto, rangeOf, bop_add, bop_sub, bop_mul, bop_fdiv, bop_mod, bop_tup, bcmp_lt, bcmp_le, bcmp_gt, bcmp_ge, bcmp_eq, bcmp_ne, bcmp_tup, bcmp_tupn, bcmp_lst, bcmp_lstn, biS, biC_len, biC_lenl, biC_min, biC_max, biC_isi, biC_list, bitem, storeItem, asBool, isNn, sattr, sset, sseti, sapp, notRaw, itemsOf, vget, vput, vputs, getF, putF, getK, List.map, List.map_cons, List.map_nil, List.length, List.length_cons, List.length_nil, Option.getD, Int.reduceToNat, Int.reduceSub, Int.reduceAdd, Int.reduceMul, Nat.reducePow, Nat.reduceSub, Nat.reduceAdd, Bool.not_true, Bool.not_false, List.length_append, Int.reduceLE, Int.reduceLT, Int.toNat_zero, Int.toNat_one, Int.le_refl, beq_self_eq_true, get_last, set_last, Nat.reduceEqDiff, Nat.reduceLT, Nat.reduceLeDiff, if_true, if_false, reduceIte, reduceCtorEq, true_and, and_true, or_true, true_or, or_false, false_or, or_self, and_self, forall_const, Bool.true_eq_false, Bool.false_eq_true, false_implies, true_implies, decide_true, decide_false]) | simp only [fb2, List.cons_append, List.nil_append, List.getElem?_cons_zero, List.getElem?_cons_succ, List.getElem?_nil, bcmp_str, wps, wps1, wpe, wpes, wpt, wpMap, wpFor, wpForL, upto, rangeOf, bop_add, bop_sub, bop_mul, bop_fdiv, bop_mod, bop_tup, bcmp_lt, bcmp_le, bcmp_gt, bcmp_ge, bcmp_eq, bcmp_ne, bcmp_tup, bcmp_tupn, bcmp_lst, bcmp_lstn, biS, biC_len, biC_lenl, biC_min, biC_max, biC_isi, biC_list, bitem, storeItem, asBool, isNn, sattr, sset, sseti, sapp, notRaw, itemsOf, vget, vput, vputs, getF, putF, getK, List.map, List.map_cons, List.map_nil, List.length, List.length_cons, List.length_nil, Option.getD, Int.reduceToNat, Int.reduceSub, Int.reduceAdd, Int.reduceMul, Nat.reducePow, Nat.reduceSub, Nat.reduceAdd, Bool.not_true, Bool.not_false, List.length_append, Int.reduceLE, Int.reduceLT, Int.toNat_zero, Int.toNat_one, Int.le_refl, beq_self_eq_true, get_last, set_last, Nat.reduceEqDiff, Nat.reduceLT, Nat.reduceLeDiff, if_true, if_false, reduceIte, reduceCtorEq, true_and, and_true, or_true, true_or, or_false, false_or, or_self, and_self, forall_const, Bool.true_eq_false, Bool.false_eq_true, false_implies, true_implies, decide_true, decide_false])
  refine ⟨by decide, by omega, ?_⟩
  refine go _ fun x13 tl htl => ?_
  (first | (dsimp only [List.cons_append, List.nil_append, List.getElem?_cons_zero, List.getElem?_cons_succ, List.getElem?_nil, bcmp_str, wps, wps1, wpe, wpes, wpt, wpMap, wpFor, wpForL, upto, rangeOf, bop_add, bop_sub, bop_mul, bop_fdiv, bop_mod, bop_tup, bcmp_lt, bcmp_le, bcmp_gt, bcmp_ge, bcmp_eq, bcmp_ne, bcmp_tup, bcmp_tupn, bcmp_lst, bcmp_lstn, biS, biC_len, biC_lenl, biC_min, biC_max, biC_isi, biC_list, bitem, storeItem, asBool, isNn, sattr, sset, sseti, sapp, notRaw, itemsOf, vget, vput, vputs, getF, putF, getK, List.map, List.map_cons, List.map_nil, List.length, List.length_cons, List.length_nil, Option.getD, Int.reduceToNat, Int.reduceSub, Int.reduceAdd, Int.reduceMul, Nat.reducePow, Nat.reduceSub, Nat.reduceAdd, Bool.not_true, Bool.not_false]; try simp only [List.cons_append, List.nil_append, List.getElem?_cons_zero, List.getElem?_cons_succ, List.getElem?_nil, bcmp_str, wps, wps1, wpe, wpes, wpt, wpMap, wpFor, wpForL, upto, rangeOf, bop_add, bop_sub, bop_mul, bop_fdiv, bop_mod, bop_tup, bcmp_lt, bcmp_le, bcmp_gt, bcmp_ge, bcmp_eq, bcmp_ne, bcmp_tup, bcmp_tupn, bcmp_lst, bcmp_lstn, biS, biC_len, biC_lenl, biC_min, biC_max, biC_isi, biC_list, bitem, storeItem, asBool, isNn, sattr, sset, sseti, sapp, notRaw, itemsOf, vget, vput, vputs, getF, putF, getK, List.map, List.map_cons, List.map_nil, List.length, List.length_cons, List.length_nil, Option.getD, Int.reduceToNat, Int.reduceSub, Int.reduceAdd, Int.reduceMul, Nat.reducePow, Nat.reduceSub, Nat.reduceAdd, Bool.not_true, Bool.not_false, List.length_append, Int.reduceLE, Int.reduceLT, Int.toNat_zero, Int.toNat_one, Int.le_refl, beq_self_eq_true, get_last, set_last, Nat.reduceEqDiff, Nat.reduceLT, Nat.reduceLeDiff, if_true, if_false, reduceIte, reduceCtorEq, true_and, and_true, or_true, true_or, or_false, false_or, or_self, and_self, forall_const, Bool.true_eq_false, Bool.false_eq_true, false_implies, true_implies, decide_true, decide_false]) | simp only [List.cons_append, List.nil_append, List.getElem?_cons_zero, List.getElem?_cons_succ, List.getElem?_nil, bcmp_str, wps, wps1, wpe, wpes, wpt, wpMap, wpFor, wpForL, upto, rangeOf, bop_add, bop_sub, bop_mul, bop_fdiv, bop_mod, bop_tup, bcmp_lt, bcmp_le, bcmp_gt, bcmp_ge, bcmp_eq, bcmp_ne, bcmp_tup, bcmp_tupn, bcmp_lst, bcmp_lstn, biS, biC_len, biC_lenl, biC_min, biC_max, biC_isi, biC_list, bitem, storeItem, asBool, isNn, sattr, sset, sseti, sapp, notRaw, itemsOf, vget, vput, vputs, getF, putF, getK, List.map, List.map_cons, List.map_nil, List.length, List.length_cons, List.length_nil, Option.getD, Int.reduceToNat, Int.reduceSub, Int.reduceAdd, Int.reduceMul, Nat.reducePow, Nat.reduceSub, Nat.reduceAdd, Bool.not_true, Bool.not_false, List.length_append, Int.reduceLE, Int.reduceLT, Int.toNat_zero, Int.toNat_one, Int.le_refl, beq_self_eq_true, get_last, set_last, Nat.reduceEqDiff, Nat.reduceLT, Nat.reduceLeDiff, if_true, if_false, reduceIte, reduceCtorEq, true_and, and_true, or_true, true_or, or_false, false_or, or_self, and_self, forall_const, Bool.true_eq_false, Bool.false_eq_true, false_implies, true_implies, decide_true, decide_false])
  refine ⟨by decide, .inr hst, ?_⟩
  exact hk _ _ _ htl
end
end Mine
end
section
open PySem PySem.W PySem.Calls PyProof.Rows PySem.Spec
namespace Mine
theorem six_at {a b e x : Int} (h0 : 0 ≤ e) (h5 : e < 6) (ms : Int) (m0 : 0 ≤ ms) (ha : a = ms / 2) (hb : b = ms / 3) (hc : 0 ≤ x ∧ x ≤ ms + 1) : ∃ s, ([V.int a, V.int 0, V.int b, V.int (ms + 1), V.int ms, V.int x] : List V)[e.toNat]? = some (.int s) ∧ 0 ≤ s ∧ s ≤ ms + 1 := by
  have : e = 0 ∨ e = 1 ∨ e = 2 ∨ e = 3 ∨ e = 4 ∨ e = 5 := by omega
  rcases this with rfl | rfl | rfl | rfl | rfl | rfl
  · exact ⟨_, rfl, by omega, by omega⟩
  · exact ⟨_, rfl, by omega, by omega⟩
  · exact ⟨_, rfl, by omega, by omega⟩
  · exact ⟨_, rfl, by omega, by omega⟩
  · exact ⟨_, rfl, by omega, by omega⟩
  · exact ⟨_, rfl, hc.1, hc.2⟩
theorem end_t {r : RS} {at_ step len N : Int} (pl : PreL r.L step len) (h : r.t ≤ at_) (hN : 1 ≤ N) : (r.at at_ step len N).t ≤ at_ + (N - 1) * step := by
  have s0 := pl.s0
  have ar := pa_rng (r := r) (i := N) pl (by omega)
  have n1 : 0 ≤ (N - 1) * step := Int.mul_nonneg (by omega) s0
  show r.restt at_ N (r.pa step len N) step len ≤ _
  unfold RS.restt
  by_cases hc : (if r.q = true then r.pa step len N else N) = 0
  · rw [if_pos hc]; omega
  · rw [if_neg hc]
    by_cases hd : r.q = true ∧ r.ov = false
    · rw [if_pos hd]
      have : (r.pa step len N - 1) * step ≤ (N - 1) * step := Int.mul_le_mul_of_nonneg_right (by omega) s0
      omega
    · rw [if_neg hd]; exact Int.le_refl _
theorem W_nn {L : Lim} {len : Int} (ok : LimOK L) (hl : LenOK L len) : 0 ≤ L.W len := by
  have sp := ok.span1
  have r2 := ok.r2
  unfold Lim.W
  split <;> rw [Int.fdiv_eq_ediv_of_nonneg _ (by omega)]
  · exact Int.ediv_nonneg (Int.mul_nonneg (by omega) (by have := hl.1; omega)) (by omega)
  · exact Int.ediv_nonneg (by omega) (by omega)
section
variable {O : Orc} {l : Addr}
set_option maxRecDepth 20000 in
theorem flood1 (h186 : ∀ as sg K, sp186 l as sg K → O 186 as sg K) (h198 : ∀ as sg K, sp198 as sg K → O 198 as sg K) (h245 : ∀ as sg K, sp245 as sg K → O 245 as sg K) (h172 : ∀ as sg K, sp172 as sg K → O 172 as sg K) (h252 : ∀ as sg K, sp252 as sg K → O 252 as sg K) (h259 : ∀ as sg K, sp259 as sg K → O 259 as sg K) (h266 : ∀ as sg K, sp266 as sg K → O 266 as sg K)
    {r : RS} {at_ j l0 l1 step0 : Int} {sg0 : Sto} (ok : LimOK r.L) (j0 : 0 ≤ j) (j3 : j ≤ 3) (hl : LenOK r.L l1) (ht : r.t ≤ at_)
    {y6 y7 x13 y14 y15 y16 : Option V} {begun before came : V} {tl : Rho} (htl : TL tl) {K : Kf} (hk : ∀ rho sg', K none rho sg') :
    wps O fb (RH (some (scr l)) (some (.int j)) (some (limV r.L)) (some (.int r.L.B)) 1 (.lst [.int l0, .int l1]) y6 y7 sg0.length r.seat (.lst r.stm) (.tup [.int r.T, .int r.t]) at_ x13 y14 y15 y16 step0 begun before came tl) (sto5 sg0 r.cells) K := by
  have e2 : upto 0 (2 - 0 : Int).toNat = [0, 1] := rfl
  have go := fun (step : Int) (a b c : Option V) (many at_ : Int) (tl : Rho) (pl : PreL r.L step l1) full (htl : TL tl) => fb2_ok (K := K) (tl := tl) (r := r) (at_ := at_) (step := step) (len := l1) (f := 1) (l0 := l0) (l1 := l1) (many := many) (sg0 := sg0) (y0 := some (scr l)) (y1 := some (.int j)) (y2 := some (limV r.L)) (y3 := some (.int r.L.B)) (y6 := y6) (y7 := y7) (y14 := a) (y16 := b) (x13 := c) h245 h172 h252 h259 h266 pl full (.inr ⟨rfl, rfl⟩) htl (fun _ _ _ _ => hk _ _)
  have pre0 := pre_of (step := 0) ok hl (Int.le_refl 0) (by have := W_nn ok hl; omega)
  have w0 := pre0.w0
  generalize hX : r.cells = cells at *
  generalize hY : r.stm = rstm at *
  unfold RH at *
  dsimp only [fb, List.cons_append, List.nil_append, List.getElem?_cons_zero, List.getElem?_cons_succ, List.getElem?_nil, bcmp_str, wps, wps1, wpe, wpes, wpt, wpMap, wpFor, wpForL, upto, rangeOf, bop_add, bop_sub, bop_mul, bop_fdiv, bop_mod, bop_tup, bcmp_lt, bcmp_le, bcmp_gt, bcmp_ge, bcmp_eq, bcmp_ne, bcmp_tup, bcmp_tupn, bcmp_lst, bcmp_lstn, biS, biC_len, biC_lenl, biC_min, biC_max, biC_isi, biC_list, bitem, storeItem, asBool, isNn, sattr, sset, sseti, sapp, notRaw, itemsOf, vget, vput, vputs, getF, putF, getK, List.map, List.map_cons, List.map_nil, List.length, List.length_cons, List.length_nil, Option.getD, Int.reduceToNat, Int.reduceSub, Int.reduceAdd, Int.reduceMul, Nat.reducePow, Nat.reduceSub, Nat.reduceAdd, Bool.not_true, Bool.not_false, List.reverse, List.reverseAux]
  rw [vget_put_same, vget_put_same]
  dsimp only [List.cons_append, List.nil_append, List.getElem?_cons_zero, List.getElem?_cons_succ, List.getElem?_nil, bcmp_str, wps, wps1, wpe, wpes, wpt, wpMap, wpFor, wpForL, upto, rangeOf, bop_add, bop_sub, bop_mul, bop_fdiv, bop_mod, bop_tup, bcmp_lt, bcmp_le, bcmp_gt, bcmp_ge, bcmp_eq, bcmp_ne, bcmp_tup, bcmp_tupn, bcmp_lst, bcmp_lstn, biS, biC_len, biC_lenl, biC_min, biC_max, biC_isi, biC_list, bitem, storeItem, asBool, isNn, sattr, sset, sseti, sapp, notRaw, itemsOf, vget, vput, vputs, getF, putF, getK, List.map, List.map_cons, List.map_nil, List.length, List.length_cons, List.length_nil, Option.getD, Int.reduceToNat, Int.reduceSub, Int.reduceAdd, Int.reduceMul, Nat.reducePow, Nat.reduceSub, Nat.reduceAdd, Bool.not_true, Bool.not_false, List.reverse, List.reverseAux]
  refine ⟨by decide, by decide, .inl (by decide), .inl (by decide), h186 _ _ _ ⟨_, rfl, by omega, fun d0 => ⟨.inl (by decide), .inl (by decide), h186 _ _ _ ⟨_, rfl, by omega, fun d1 => ⟨rfl, by decide, by decide, h198 _ _ _ ⟨r.L, l1, rfl, ok, ?_⟩⟩⟩⟩⟩⟩
  dsimp only [List.cons_append, List.nil_append, List.getElem?_cons_zero, List.getElem?_cons_succ, List.getElem?_nil, bcmp_str, wps, wps1, wpe, wpes, wpt, wpMap, wpFor, wpForL, upto, rangeOf, bop_add, bop_sub, bop_mul, bop_fdiv, bop_mod, bop_tup, bcmp_lt, bcmp_le, bcmp_gt, bcmp_ge, bcmp_eq, bcmp_ne, bcmp_tup, bcmp_tupn, bcmp_lst, bcmp_lstn, biS, biC_len, biC_lenl, biC_min, biC_max, biC_isi, biC_list, bitem, storeItem, asBool, isNn, sattr, sset, sseti, sapp, notRaw, itemsOf, vget, vput, vputs, getF, putF, getK, List.map, List.map_cons, List.map_nil, List.length, List.length_cons, List.length_nil, Option.getD, Int.reduceToNat, Int.reduceSub, Int.reduceAdd, Int.reduceMul, Nat.reducePow, Nat.reduceSub, Nat.reduceAdd, Bool.not_true, Bool.not_false, List.reverse, List.reverseAux]
  have r6 := fmod_rng (d0 + 1 + j) (b := 6) (by decide)
  have hms : (r.L.W l1).fdiv (10 ^ 6) = r.L.W l1 / 10 ^ 6 := Int.fdiv_eq_ediv_of_nonneg _ (by decide)
  have m0 : 0 ≤ r.L.W l1 / 10 ^ 6 := Int.ediv_nonneg (by omega) (by decide)
  rw [hms]
  have rx := fmod_rng (d0.fdiv 6) (b := r.L.W l1 / 10 ^ 6 + 2) (by omega)
  obtain ⟨step, q1, q2, q3⟩ := six_at r6.1 r6.2 (r.L.W l1 / 10 ^ 6) m0 (a := (r.L.W l1 / 10 ^ 6).fdiv 2) (b := (r.L.W l1 / 10 ^ 6).fdiv 3) (x := (d0.fdiv 6).fmod (r.L.W l1 / 10 ^ 6 + 2)) (Int.fdiv_eq_ediv_of_nonneg _ (by decide)) (Int.fdiv_eq_ediv_of_nonneg _ (by decide)) ⟨rx.1, by omega⟩
  rw [q1]
  refine ⟨⟨by decide, by decide⟩, ⟨by decide, by decide⟩, ⟨by decide, by decide⟩, ⟨by decide, by decide⟩, by omega, by decide, by decide, r6.1, by decide, ?_⟩
  have pl := pre_of (step := step) ok hl q2 q3
  have rf := fmod_rng (d1.fdiv 5) (b := 10 ^ 9) (by decide)
  have hb : (r.T - r.L.B).fdiv (10 ^ 6) = (r.T - r.L.B) / 10 ^ 6 := Int.fdiv_eq_ediv_of_nonneg _ (by decide)
  dsimp only [fb1, List.cons_append, List.nil_append, List.getElem?_cons_zero, List.getElem?_cons_succ, List.getElem?_nil, bcmp_str, wps, wps1, wpe, wpes, wpt, wpMap, wpFor, wpForL, upto, rangeOf, bop_add, bop_sub, bop_mul, bop_fdiv, bop_mod, bop_tup, bcmp_lt, bcmp_le, bcmp_gt, bcmp_ge, bcmp_eq, bcmp_ne, bcmp_tup, bcmp_tupn, bcmp_lst, bcmp_lstn, biS, biC_len, biC_lenl, biC_min, biC_max, biC_isi, biC_list, bitem, storeItem, asBool, isNn, sattr, sset, sseti, sapp, notRaw, itemsOf, vget, vput, vputs, getF, putF, getK, List.map, List.map_cons, List.map_nil, List.length, List.length_cons, List.length_nil, Option.getD, Int.reduceToNat, Int.reduceSub, Int.reduceAdd, Int.reduceMul, Nat.reducePow, Nat.reduceSub, Nat.reduceAdd, Bool.not_true, Bool.not_false, List.reverse, List.reverseAux]
  exact ⟨fun _ => ⟨⟨by decide, by decide⟩, by decide, by decide, by decide, ⟨by decide, by decide⟩, by decide, by decide, rfl, go step _ _ _ d1 _ tl pl (by omega) htl⟩, fun h => absurd h (by decide)⟩
set_option maxRecDepth 20000 in
theorem flood0 (h186 : ∀ as sg K, sp186 l as sg K → O 186 as sg K) (h198 : ∀ as sg K, sp198 as sg K → O 198 as sg K) (h245 : ∀ as sg K, sp245 as sg K → O 245 as sg K) (h172 : ∀ as sg K, sp172 as sg K → O 172 as sg K) (h252 : ∀ as sg K, sp252 as sg K → O 252 as sg K) (h259 : ∀ as sg K, sp259 as sg K → O 259 as sg K) (h266 : ∀ as sg K, sp266 as sg K → O 266 as sg K)
    {r : RS} {at_ j l0 l1 : Int} {sg0 : Sto} (ok : LimOK r.L) (j0 : 0 ≤ j) (j3 : j ≤ 3) (hl : LenOK r.L l0) (ht : r.t ≤ at_) (full : r.L.B ≤ r.T + (at_ - r.t) * 10 ^ 6)
    {v6 v7 : V} {K : Kf} (hk : ∀ (r' : RS) (at' step : Int) x13 y14 y15 y16 begun before came tl, r'.L = r.L → r'.t ≤ at' → TL tl → K none (RH (some (scr l)) (some (.int j)) (some (limV r'.L)) (some (.int r'.L.B)) 0 (.lst [.int l0, .int l1]) (some v6) (some v7) sg0.length r'.seat (.lst r'.stm) (.tup [.int r'.T, .int r'.t]) at' x13 y14 y15 y16 step begun before came tl) (sto5 sg0 r'.cells)) :
    wps O fb [some (scr l), some (.int j), some (limV r.L), some (.int r.L.B), some (.int 0), some (.lst [.int l0, .int l1]), some v6, some v7, some (cellsV sg0.length), some (.int r.seat), some (.lst r.stm), some (.tup [.int r.T, .int r.t]), some (.int at_)] (sto5 sg0 r.cells) K := by
  have e2 : upto 0 (2 - 0 : Int).toNat = [0, 1] := rfl
  have go := fun (step : Int) (a b c : Option V) (many : Int) (tl : Rho) (pl : PreL r.L step l0) (htl : TL tl) => fb2_ok (K := K) (tl := tl) (r := r) (at_ := at_) (step := step) (len := l0) (f := 0) (l0 := l0) (l1 := l1) (many := many) (sg0 := sg0) (y0 := some (scr l)) (y1 := some (.int j)) (y2 := some (limV r.L)) (y3 := some (.int r.L.B)) (y6 := some v6) (y7 := some v7) (y14 := a) (y16 := b) (x13 := c) h245 h172 h252 h259 h266 pl full (.inl ⟨rfl, rfl⟩) htl (fun came x13 tl htl => hk (r.at at_ step l0 ((many + 2).fmod 5 + 4)) (at_ + ((many + 2).fmod 5 + 3) * step) step _ _ _ _ _ _ _ _ rfl (by
      have rg := fmod_rng (many + 2) (b := 5) (by decide)
      have := end_t (N := (many + 2).fmod 5 + 4) pl ht (by omega)
      rw [show (many + 2).fmod 5 + 4 - 1 = (many + 2).fmod 5 + 3 by omega] at this
      exact this) htl)
  have pre0 := pre_of (step := 0) ok hl (Int.le_refl 0) (by have := W_nn ok hl; omega)
  have w0 := pre0.w0
  clear hk
  generalize hX : r.cells = cells at *
  generalize hY : r.stm = rstm at *
  unfold RH at *
  dsimp only [fb, List.cons_append, List.nil_append, List.getElem?_cons_zero, List.getElem?_cons_succ, List.getElem?_nil, bcmp_str, wps, wps1, wpe, wpes, wpt, wpMap, wpFor, wpForL, upto, rangeOf, bop_add, bop_sub, bop_mul, bop_fdiv, bop_mod, bop_tup, bcmp_lt, bcmp_le, bcmp_gt, bcmp_ge, bcmp_eq, bcmp_ne, bcmp_tup, bcmp_tupn, bcmp_lst, bcmp_lstn, biS, biC_len, biC_lenl, biC_min, biC_max, biC_isi, biC_list, bitem, storeItem, asBool, isNn, sattr, sset, sseti, sapp, notRaw, itemsOf, vget, vput, vputs, getF, putF, getK, List.map, List.map_cons, List.map_nil, List.length, List.length_cons, List.length_nil, Option.getD, Int.reduceToNat, Int.reduceSub, Int.reduceAdd, Int.reduceMul, Nat.reducePow, Nat.reduceSub, Nat.reduceAdd, Bool.not_true, Bool.not_false, List.reverse, List.reverseAux]
  refine ⟨by decide, by decide, .inl (by decide), .inl (by decide), h186 _ _ _ ⟨_, rfl, by omega, fun d0 => ⟨.inl (by decide), .inl (by decide), h186 _ _ _ ⟨_, rfl, by omega, fun d1 => ⟨rfl, by decide, by decide, h198 _ _ _ ⟨r.L, l0, rfl, ok, ?_⟩⟩⟩⟩⟩⟩
  dsimp only [List.cons_append, List.nil_append, List.getElem?_cons_zero, List.getElem?_cons_succ, List.getElem?_nil, bcmp_str, wps, wps1, wpe, wpes, wpt, wpMap, wpFor, wpForL, upto, rangeOf, bop_add, bop_sub, bop_mul, bop_fdiv, bop_mod, bop_tup, bcmp_lt, bcmp_le, bcmp_gt, bcmp_ge, bcmp_eq, bcmp_ne, bcmp_tup, bcmp_tupn, bcmp_lst, bcmp_lstn, biS, biC_len, biC_lenl, biC_min, biC_max, biC_isi, biC_list, bitem, storeItem, asBool, isNn, sattr, sset, sseti, sapp, notRaw, itemsOf, vget, vput, vputs, getF, putF, getK, List.map, List.map_cons, List.map_nil, List.length, List.length_cons, List.length_nil, Option.getD, Int.reduceToNat, Int.reduceSub, Int.reduceAdd, Int.reduceMul, Nat.reducePow, Nat.reduceSub, Nat.reduceAdd, Bool.not_true, Bool.not_false, List.reverse, List.reverseAux]
  have r6 := fmod_rng (d0 + 0 + j) (b := 6) (by decide)
  have hms : (r.L.W l0).fdiv (10 ^ 6) = r.L.W l0 / 10 ^ 6 := Int.fdiv_eq_ediv_of_nonneg _ (by decide)
  have m0 : 0 ≤ r.L.W l0 / 10 ^ 6 := Int.ediv_nonneg (by omega) (by decide)
  rw [hms]
  have rx := fmod_rng (d0.fdiv 6) (b := r.L.W l0 / 10 ^ 6 + 2) (by omega)
  obtain ⟨step, q1, q2, q3⟩ := six_at r6.1 r6.2 (r.L.W l0 / 10 ^ 6) m0 (a := (r.L.W l0 / 10 ^ 6).fdiv 2) (b := (r.L.W l0 / 10 ^ 6).fdiv 3) (x := (d0.fdiv 6).fmod (r.L.W l0 / 10 ^ 6 + 2)) (Int.fdiv_eq_ediv_of_nonneg _ (by decide)) (Int.fdiv_eq_ediv_of_nonneg _ (by decide)) ⟨rx.1, by omega⟩
  rw [q1]
  refine ⟨⟨by decide, by decide⟩, ⟨by decide, by decide⟩, ⟨by decide, by decide⟩, ⟨by decide, by decide⟩, by omega, by decide, by decide, r6.1, by decide, ?_⟩
  have pl := pre_of (step := step) ok hl q2 q3
  dsimp only [fb1, List.cons_append, List.nil_append, List.getElem?_cons_zero, List.getElem?_cons_succ, List.getElem?_nil, bcmp_str, wps, wps1, wpe, wpes, wpt, wpMap, wpFor, wpForL, upto, rangeOf, bop_add, bop_sub, bop_mul, bop_fdiv, bop_mod, bop_tup, bcmp_lt, bcmp_le, bcmp_gt, bcmp_ge, bcmp_eq, bcmp_ne, bcmp_tup, bcmp_tupn, bcmp_lst, bcmp_lstn, biS, biC_len, biC_lenl, biC_min, biC_max, biC_isi, biC_list, bitem, storeItem, asBool, isNn, sattr, sset, sseti, sapp, notRaw, itemsOf, vget, vput, vputs, getF, putF, getK, List.map, List.map_cons, List.map_nil, List.length, List.length_cons, List.length_nil, Option.getD, Int.reduceToNat, Int.reduceSub, Int.reduceAdd, Int.reduceMul, Nat.reducePow, Nat.reduceSub, Nat.reduceAdd, Bool.not_true, Bool.not_false, List.reverse, List.reverseAux]
  exact ⟨fun h => absurd h (by decide), fun _ => ⟨by decide, by decide, rfl, go step _ _ _ d1 _ pl (.inl rfl)⟩⟩
end
end Mine
end
section
open PySem PySem.W PySem.Calls PyProof.Rows PySem.Spec
namespace Mine
theorem ok_lim (L : Lim) (ok : LimOK L) : okEq (limV L) := by
  have un := ok.un
  obtain ⟨lo, ra, un', se, bu, oc⟩ := L
  dsimp only at un
  rcases sec_cases un with ⟨rfl, _⟩ | ⟨rfl, _⟩ | ⟨rfl, _⟩ | ⟨rfl, _⟩ | ⟨rfl, _⟩ <;> exact ⟨_, rfl, by kernel_rfl⟩
theorem ok_quo (ov : Bool) (m u : Int) : okEq (Cell.quo ov m u).stm := ⟨_, rfl, by kernel_rfl⟩
theorem ne_quo (ov : Bool) (m u : Int) (L : Lim) : veq (Cell.quo ov m u).stm (limV L) = false := by
  unfold veq
  show PyData.eqv (PyData.tuple _) (PyData.tuple _) = false
  kernel_rfl
section
variable {O : Orc} {l : Addr}
def sp271 (l : Addr) : Spc := fun as sg K => ∃ j : Int, as = [scr l, .int j] ∧ 0 ≤ j ∧ j ≤ 3 ∧ ∀ sg', K (.bool true) sg'
theorem rule_eq (r : RS) : ruleV r.L r.q r.ov r.m r.u r.p0 r.o0 r.p1 r.o1 r.p2 r.o2 = .tup [.tup [.str "notrack"], r.c0.stm, (if r.q then r.quo.stm else limV r.L), r.c2.stm, (if r.q then limV r.L else r.quo.stm), r.c4.stm, .tup [.str "verdict", .tup [.str "accept", .str ""]]] := rfl
theorem m1_eq (r : RS) : (if r.q then r.quo.stm else limV r.L) = r.m1.stm := by
  obtain ⟨p0, o0, p1, o1, p2, o2, ov, m, u, L, T, t, q⟩ := r
  cases q <;> rfl
theorem m3_eq (r : RS) : (if r.q then limV r.L else r.quo.stm) = r.m3.stm := by
  obtain ⟨p0, o0, p1, o1, p2, o2, ov, m, u, L, T, t, q⟩ := r
  cases q <;> rfl
theorem is_seat (r : RS) (ok : LimOK r.L) {K : Bool → Prop} (h : K (!r.q)) : bcmp .eq r.m1.stm (limV r.L) K := by
  obtain ⟨p0, o0, p1, o1, p2, o2, ov, m, u, L, T, t, q⟩ := r
  cases q with
  | false => exact ⟨⟨ok_lim L ok, ok_lim L ok⟩, (congrArg K (okEq_refl (ok_lim L ok))).mpr h⟩
  | true => exact ⟨⟨ok_quo ov m u, ok_lim L ok⟩, (congrArg K (ne_quo ov m u L)).mpr h⟩
set_option maxRecDepth 20000 in
theorem t30c_ok (h186 : ∀ as sg K, sp186 l as sg K → O 186 as sg K) (h198 : ∀ as sg K, sp198 as sg K → O 198 as sg K) (h245 : ∀ as sg K, sp245 as sg K → O 245 as sg K) (h172 : ∀ as sg K, sp172 as sg K → O 172 as sg K) (h252 : ∀ as sg K, sp252 as sg K → O 252 as sg K) (h259 : ∀ as sg K, sp259 as sg K → O 259 as sg K) (h266 : ∀ as sg K, sp266 as sg K → O 266 as sg K)
    {r : RS} {j n0 n1 : Int} {sg : Sto} {K : Kf} (ok : LimOK r.L) (hT : r.T = r.L.B) (ht : r.t = 0) (j0 : 0 ≤ j) (j3 : j ≤ 3) (hn0 : LenOK r.L n0) (hn1 : LenOK r.L n1) {y7 : V} (h1 : ∀ rho sg', K (some (.bool true)) rho sg') :
    wps O t30c [some (scr l), some (.int j), some (limV r.L), some (.int r.L.B), none, some (.lst [.int n0, .int n1]), some (.tup [.tup [.str "notrack"], r.c0.stm, r.m1.stm, r.c2.stm, r.m3.stm, r.c4.stm, .tup [.str "verdict", .tup [.str "accept", .str ""]]]), some y7, some (cellsV sg.length), some (.int r.seat)] (sto5 sg r.cells) K := by
  dsimp only [t30c, List.take, List.drop, List.cons_append, List.nil_append, List.getElem?_cons_zero, List.getElem?_cons_succ, List.getElem?_nil, bcmp_str, wps, wps1, wpe, wpes, wpt, wpMap, wpFor, wpForL, upto, rangeOf, bop_add, bop_sub, bop_mul, bop_fdiv, bop_mod, bop_tup, bcmp_lt, bcmp_le, bcmp_gt, bcmp_ge, bcmp_eq, bcmp_ne, bcmp_tup, bcmp_tupn, bcmp_lst, bcmp_lstn, biS, biC_len, biC_lenl, biC_min, biC_max, biC_isi, biC_list, bitem, storeItem, asBool, isNn, sattr, sset, sseti, sapp, notRaw, itemsOf, vget, vput, vputs, getF, putF, getK, List.map, List.map_cons, List.map_nil, List.length, List.length_cons, List.length_nil, Option.getD, Int.reduceToNat, Int.reduceSub, Int.reduceAdd, Int.reduceMul, Nat.reducePow, Nat.reduceSub, Nat.reduceAdd, Bool.not_true, Bool.not_false, List.reverse, List.reverseAux]
  have eT : [V.int r.L.B, V.int 0] = [V.int r.T, V.int r.t] := by rw [hT, ht]
  rw [eT]
  refine ⟨⟨by decide, by decide, by decide⟩, by decide, by decide, by decide, rfl, .inl (by decide), h186 _ _ _ ⟨_, rfl, by omega, fun d => ⟨.inl (by decide), ?_⟩⟩⟩
  dsimp only [List.cons_append, List.nil_append, List.getElem?_cons_zero, List.getElem?_cons_succ, List.getElem?_nil, bcmp_str, wps, wps1, wpe, wpes, wpt, wpMap, wpFor, wpForL, upto, rangeOf, bop_add, bop_sub, bop_mul, bop_fdiv, bop_mod, bop_tup, bcmp_lt, bcmp_le, bcmp_gt, bcmp_ge, bcmp_eq, bcmp_ne, bcmp_tup, bcmp_tupn, bcmp_lst, bcmp_lstn, biS, biC_len, biC_lenl, biC_min, biC_max, biC_isi, biC_list, bitem, storeItem, asBool, isNn, sattr, sset, sseti, sapp, notRaw, itemsOf, vget, vput, vputs, getF, putF, getK, List.map, List.map_cons, List.map_nil, List.length, List.length_cons, List.length_nil, Option.getD, Int.reduceToNat, Int.reduceSub, Int.reduceAdd, Int.reduceMul, Nat.reducePow, Nat.reduceSub, Nat.reduceAdd, Bool.not_true, Bool.not_false, List.reverse, List.reverseAux]
  have ra := fmod_rng (d + 1000 * j) (b := 10 ^ 15) (by decide)
  refine ⟨by decide, ⟨by decide, by decide, by decide, by decide⟩, ?_⟩
  refine flood0 (r := r) h186 h198 h245 h172 h252 h259 h266 ok j0 j3 hn0 (by omega) (by omega) ?_
  intro r' at' step x13 y14 y15 y16 begun before came tl hL ht htl
  exact flood1 (r := r') h186 h198 h245 h172 h252 h259 h266 (by rw [hL]; exact ok) j0 j3 (by rw [hL]; exact hn1) ht htl (fun _ sg' => h1 _ sg')
set_option maxRecDepth 20000 in
theorem w271 (h186 : ∀ as sg K, sp186 l as sg K → O 186 as sg K) (h191 : ∀ as sg K, sp191 l as sg K → O 191 as sg K) (h198 : ∀ as sg K, sp198 as sg K → O 198 as sg K) (h205 : ∀ as sg K, sp205 as sg K → O 205 as sg K) (h212 : ∀ as sg K, sp212 as sg K → O 212 as sg K) (h217 : ∀ as sg K, sp217 l as sg K → O 217 as sg K) (h179 : ∀ as sg K, sp179 as sg K → O 179 as sg K) (h245 : ∀ as sg K, sp245 as sg K → O 245 as sg K) (h172 : ∀ as sg K, sp172 as sg K → O 172 as sg K) (h252 : ∀ as sg K, sp252 as sg K → O 252 as sg K) (h259 : ∀ as sg K, sp259 as sg K → O 259 as sg K) (h266 : ∀ as sg K, sp266 as sg K → O 266 as sg K)
    {as : List V} {sg : Sto} {K : V → Sto → Prop} (h : sp271 l as sg K) : as.length = 2 ∧ wps O tm30 (as.map some) sg (fun fl _ sg' => K (fl.getD .none) sg') := by
  obtain ⟨j, rfl, j0, j3, h1⟩ := h
  refine ⟨rfl, ?_⟩
  rw [t30_eq]
  dsimp only [t30, List.cons_append, List.nil_append, List.getElem?_cons_zero, List.getElem?_cons_succ, List.getElem?_nil, bcmp_str, wps, wps1, wpe, wpes, wpt, wpMap, wpFor, wpForL, upto, rangeOf, bop_add, bop_sub, bop_mul, bop_fdiv, bop_mod, bop_tup, bcmp_lt, bcmp_le, bcmp_gt, bcmp_ge, bcmp_eq, bcmp_ne, bcmp_tup, bcmp_tupn, bcmp_lst, bcmp_lstn, biS, biC_len, biC_lenl, biC_min, biC_max, biC_isi, biC_list, bitem, storeItem, asBool, isNn, sattr, sset, sseti, sapp, notRaw, itemsOf, vget, vput, vputs, getF, putF, getK, List.map, List.map_cons, List.map_nil, List.length, List.length_cons, List.length_nil, Option.getD, Int.reduceToNat, Int.reduceSub, Int.reduceAdd, Int.reduceMul, Nat.reducePow, Nat.reduceSub, Nat.reduceAdd, Bool.not_true, Bool.not_false, List.reverse, List.reverseAux]
  refine h191 _ _ _ ⟨j, rfl, j0, j3, fun L ok => ?_⟩
  refine h205 _ _ _ ⟨L, rfl, ok, ?_⟩
  dsimp only [List.cons_append, List.nil_append, List.getElem?_cons_zero, List.getElem?_cons_succ, List.getElem?_nil, bcmp_str, wps, wps1, wpe, wpes, wpt, wpMap, wpFor, wpForL, upto, rangeOf, bop_add, bop_sub, bop_mul, bop_fdiv, bop_mod, bop_tup, bcmp_lt, bcmp_le, bcmp_gt, bcmp_ge, bcmp_eq, bcmp_ne, bcmp_tup, bcmp_tupn, bcmp_lst, bcmp_lstn, biS, biC_len, biC_lenl, biC_min, biC_max, biC_isi, biC_list, bitem, storeItem, asBool, isNn, sattr, sset, sseti, sapp, notRaw, itemsOf, vget, vput, vputs, getF, putF, getK, List.map, List.map_cons, List.map_nil, List.length, List.length_cons, List.length_nil, Option.getD, Int.reduceToNat, Int.reduceSub, Int.reduceAdd, Int.reduceMul, Nat.reducePow, Nat.reduceSub, Nat.reduceAdd, Bool.not_true, Bool.not_false, List.reverse, List.reverseAux]
  refine ⟨by decide, by decide, .inl (by decide), .inl (by decide), h186 _ _ _ ⟨_, rfl, by omega, fun d0 => h212 _ _ _ ⟨d0, L, 0, j, rfl, ok, fun n0 hn0 => ⟨.inl (by decide), .inl (by decide), h186 _ _ _ ⟨_, rfl, by omega, fun d1 => h212 _ _ _ ⟨d1, L, 1, j, rfl, ok, fun n1 hn1 => ⟨by decide, by decide, ?_⟩⟩⟩⟩⟩⟩⟩
  refine h217 _ _ _ ⟨j, L, n0, rfl, j0, j3, by have := hn0.1; omega, by have := hn0.2.1; omega, ok, fun q ov m u p0 o0 p1 o1 p2 o2 => ?_⟩
  refine h179 _ _ _ ⟨L, q, ov, m, u, p0, o0, p1, o1, p2, o2, ok, rfl, ?_⟩
  obtain ⟨r, hr⟩ : ∃ r : RS, r = ⟨p0, o0, p1, o1, p2, o2, ov, m, u, L, L.B, 0, q⟩ := ⟨_, rfl⟩
  have eR : ruleV L q ov m u p0 o0 p1 o1 p2 o2 = .tup [.tup [.str "notrack"], r.c0.stm, r.m1.stm, r.c2.stm, r.m3.stm, r.c4.stm, .tup [.str "verdict", .tup [.str "accept", .str ""]]] := by
    subst hr
    rw [← m1_eq, ← m3_eq]
    exact rule_eq ⟨p0, o0, p1, o1, p2, o2, ov, m, u, L, L.B, 0, q⟩
  have eS : sto5 sg [.cnt p0 o0, if q then .quo ov m u else .lim L L.B 0, .cnt p1 o1, if q then .lim L L.B 0 else .quo ov m u, .cnt p2 o2] = sto5 sg r.cells := by
    subst hr
    cases q <;> rfl
  have eT : r.T = r.L.B := by subst hr; rfl
  have et : r.t = 0 := by subst hr; rfl
  have eL : L = r.L := by subst hr; rfl
  rw [eR, eS]
  clear eR eS hr
  subst eL
  have tail := fun y7 => t30c_ok (l := l) (r := r) (y7 := y7) (K := fun fl _ sg' => K (fl.getD .none) sg') (sg := sg) h186 h198 h245 h172 h252 h259 h266 ok eT et j0 j3 hn0 hn1 (fun _ sg' => h1 sg')
  have hst : (sto5 sg r.cells)[sg.length]? = some (.dct (madeD sg.length)) := at_app0 _ _
  generalize sto5 sg r.cells = S0 at hst tail ⊢
  clear h186 h191 h198 h205 h212 h217 h179 h245 h172 h252 h259 h266
  dsimp only [List.cons_append, List.nil_append, List.getElem?_cons_zero, List.getElem?_cons_succ, List.getElem?_nil, bcmp_str, wps, wps1, wpe, wpes, wpt, wpMap, wpFor, wpForL, upto, rangeOf, bop_add, bop_sub, bop_mul, bop_fdiv, bop_mod, bop_tup, bcmp_lt, bcmp_le, bcmp_gt, bcmp_ge, bcmp_eq, bcmp_ne, bcmp_tup, bcmp_tupn, bcmp_lst, bcmp_lstn, biS, biC_len, biC_lenl, biC_min, biC_max, biC_isi, biC_list, bitem, storeItem, asBool, isNn, sattr, sset, sseti, sapp, notRaw, itemsOf, vget, vput, vputs, getF, putF, getK, List.map, List.map_cons, List.map_nil, List.length, List.length_cons, List.length_nil, Option.getD, Int.reduceToNat, Int.reduceSub, Int.reduceAdd, Int.reduceMul, Nat.reducePow, Nat.reduceSub, Nat.reduceAdd, Bool.not_true, Bool.not_false, List.reverse, List.reverseAux]
  rw [hst]
  dsimp only [madeD, List.cons_append, List.nil_append, List.getElem?_cons_zero, List.getElem?_cons_succ, List.getElem?_nil, bcmp_str, wps, wps1, wpe, wpes, wpt, wpMap, wpFor, wpForL, upto, rangeOf, bop_add, bop_sub, bop_mul, bop_fdiv, bop_mod, bop_tup, bcmp_lt, bcmp_le, bcmp_gt, bcmp_ge, bcmp_eq, bcmp_ne, bcmp_tup, bcmp_tupn, bcmp_lst, bcmp_lstn, biS, biC_len, biC_lenl, biC_min, biC_max, biC_isi, biC_list, bitem, storeItem, asBool, isNn, sattr, sset, sseti, sapp, notRaw, itemsOf, vget, vput, vputs, getF, putF, getK, List.map, List.map_cons, List.map_nil, List.length, List.length_cons, List.length_nil, Option.getD, Int.reduceToNat, Int.reduceSub, Int.reduceAdd, Int.reduceMul, Nat.reducePow, Nat.reduceSub, Nat.reduceAdd, Bool.not_true, Bool.not_false, List.reverse, List.reverseAux]
  refine ⟨⟨by decide, List.cons_ne_nil _ _, by decide⟩, by decide, ⟨ok_five, ok_five⟩, fun h => (nv (okEq_refl ok_five) h).elim, fun _ => ⟨⟨by decide, by decide, by decide, by decide⟩, by decide, ?_⟩⟩
  refine ⟨by decide, by decide, is_seat r ok ⟨fun h => ?_, fun h => ?_⟩⟩
  · rw [show r.seat = 1 from if_neg (by rw [Bool.not_eq_true'] at h; rw [h]; decide)] at tail
    exact tail _
  · rw [show r.seat = 3 from if_pos (by rw [Bool.not_eq_false'] at h; exact h)] at tail
    exact tail _
end
end Mine
end
section
open PySem PySem.W PySem.Calls PyProof.Rows PySem.Spec
namespace Mine
theorem addO_eq {O : Orc} {f : Addr} {sp : Spc} {as : List V} {sg : Sto} {K : V → Sto → Prop} (h : sp as sg K) : addO O f sp f as sg K := by unfold addO; rw [if_pos rfl]; exact h
theorem addO_ne {O : Orc} {f g : Addr} {sp : Spc} {as : List V} {sg : Sto} {K : V → Sto → Prop} (hne : g ≠ f) (h : O g as sg K) : addO O f sp g as sg K := by unfold addO; rw [if_neg hne]; exact h
theorem lenS {n : Nat} {vs : List Value} (h : vs.length = n + 1) : ∃ a r, r.length = n ∧ vs = a :: r := by
  cases vs with
  | nil => cases h
  | cons a r => exact ⟨a, r, Nat.succ.inj h, rfl⟩
theorem len1 {vs : List Value} (h : vs.length = 1) : ∃ a, vs = [a] := by
  obtain ⟨a, r, k, rfl⟩ := lenS h
  exact ⟨a, by rw [List.eq_nil_of_length_eq_zero k]⟩
theorem len2 {vs : List Value} (h : vs.length = 2) : ∃ a b, vs = [a, b] := by
  obtain ⟨a, r, k, rfl⟩ := lenS h
  obtain ⟨b, rfl⟩ := len1 k
  exact ⟨a, b, rfl⟩
theorem len3 {vs : List Value} (h : vs.length = 3) : ∃ a b c, vs = [a, b, c] := by
  obtain ⟨a, r, k, rfl⟩ := lenS h
  obtain ⟨b, c, rfl⟩ := len2 k
  exact ⟨a, b, c, rfl⟩
theorem len4 {vs : List Value} (h : vs.length = 4) : ∃ a b c d, vs = [a, b, c, d] := by
  obtain ⟨a, r, k, rfl⟩ := lenS h
  obtain ⟨b, c, d, rfl⟩ := len3 k
  exact ⟨a, b, c, d, rfl⟩
theorem len5 {vs : List Value} (h : vs.length = 5) : ∃ a b c d e, vs = [a, b, c, d, e] := by
  obtain ⟨a, r, k, rfl⟩ := lenS h
  obtain ⟨b, c, d, e, rfl⟩ := len4 k
  exact ⟨a, b, c, d, e, rfl⟩
theorem len6 {vs : List Value} (h : vs.length = 6) : ∃ a b c d e f, vs = [a, b, c, d, e, f] := by
  obtain ⟨a, r, k, rfl⟩ := lenS h
  obtain ⟨b, c, d, e, f, rfl⟩ := len5 k
  exact ⟨a, b, c, d, e, f, rfl⟩
set_option maxRecDepth 100000
set_option maxHeartbeats 4000000
section
variable {w : World} {l : Addr} {vs : List Value} {ns : List Int}
def O0 (_ : Addr) : Orc := fun _ _ _ _ => False
theorem ok0 : OrcOK w l vs ns 0 (O0 l) := orc_none
def O1 (l : Addr) : Orc := addO (O0 l) 186 (sp186 l)
theorem ok1 : OrcOK w l vs ns 1 (O1 l) := by
  refine orc_fn (rs := rsAt 17) (t := tm17 l ns) (ps := psAt 17 2) ok0 (i := 17) (params := paramsAt 17) (body := bodyAt 17) (scope := scopeAt 17) ?hm ?hw ?hrs ?hsh ?hss ?hnd ?_ ?_
  case hm => decide
  case hw => kernel_rfl
  case hrs => kernel_rfl
  case hsh => kernel_rfl
  case hss => exact fun hO => ss17 hO
  case hnd => rfl
  · intro vals h name qual doc pm an cdv ct s
    have h1 : (psAt 17 2).length = 2 := by kernel_rfl
    obtain ⟨a, b, rfl⟩ := len2 (h.trans h1)
    exact BindsTo.of_eq (by kernel_rfl)
  · intro as sg K h
    have h1 : (psAt 17 2).length = 2 := by kernel_rfl
    have h2 := w186 (l := l) (ns := ns) (O := O0 l)  h
    exact ⟨h2.1.trans h1.symm, h2.2⟩
def O2 (l : Addr) : Orc := addO (O1 l) 130 sp130
theorem ok2 : OrcOK w l vs ns 2 (O2 l) := by
  refine orc_fn (rs := rsAt 8) (t := tm8) (ps := psAt 8 1) ok1 (i := 8) (params := paramsAt 8) (body := bodyAt 8) (scope := scopeAt 8) ?hm ?hw ?hrs ?hsh ?hss ?hnd ?_ ?_
  case hm => decide
  case hw => kernel_rfl
  case hrs => kernel_rfl
  case hsh => kernel_rfl
  case hss => exact fun hO => ss8 hO
  case hnd => rfl
  · intro vals h name qual doc pm an cdv ct s
    have h1 : (psAt 8 1).length = 1 := by kernel_rfl
    obtain ⟨a, rfl⟩ := len1 (h.trans h1)
    exact BindsTo.of_eq (by kernel_rfl)
  · intro as sg K h
    have h1 : (psAt 8 1).length = 1 := by kernel_rfl
    have h2 := w130  (O := O1 l)  h
    exact ⟨h2.1.trans h1.symm, h2.2⟩
def O3 (l : Addr) : Orc := addO (O2 l) 119 sp119
theorem ok3 : OrcOK w l vs ns 4 (O3 l) := by
  refine orc_cls (rs := rsAt 7) (t := tm7) (ps := psAt 7 6) ok2 (C := 119) (f := 116) (i := 7) (params := paramsAt 7) (body := bodyAt 7) (scope := scopeAt 7) ?hm ?hw ?hrs ?hsh ?hss ?_ ?_
  case hm => decide
  case hw => kernel_rfl
  case hrs => kernel_rfl
  case hsh => kernel_rfl
  case hss => exact fun hO => ss7 hO
  · intro vals h name qual dV kV doc pm an cdv ct s hd
    have h1 : (psAt 7 6).length = 6 := by kernel_rfl
    obtain ⟨a, b, c, d, e, f, rfl⟩ := len6 (h.trans h1)
    obtain ⟨rfl, ⟨rfl, _⟩ | ⟨T, o, items, n, _, _, _, _, hz⟩⟩ := hd
    · exact BindsTo.of_eq (by kernel_rfl)
    · exact absurd rfl hz
  · intro as sg K h
    have h1 : (psAt 7 6).length = 6 := by kernel_rfl
    have h2 := w119 (O := O2 l) (fun as sg K h => addO_eq h) h
    exact ⟨h2.1.trans h1.symm, h2.2⟩
def O4 (l : Addr) : Orc := addO (O3 l) 76 sp76
theorem ok4 : OrcOK w l vs ns 6 (O4 l) := by
  refine orc_cls (rs := rsAt 5) (t := tm5) (ps := psAt 5 3) ok3 (C := 76) (f := 73) (i := 5) (params := paramsAt 5) (body := bodyAt 5) (scope := scopeAt 5) ?hm ?hw ?hrs ?hsh ?hss ?_ ?_
  case hm => decide
  case hw => kernel_rfl
  case hrs => kernel_rfl
  case hsh => kernel_rfl
  case hss => exact fun hO => ss5 hO
  · intro vals h name qual dV kV doc pm an cdv ct s hd
    have h1 : (psAt 5 3).length = 3 := by kernel_rfl
    obtain ⟨a, b, c, rfl⟩ := len3 (h.trans h1)
    obtain ⟨rfl, ⟨rfl, hz⟩ | ⟨T, o, ⟨items⟩, n, rfl, ho, hs, hz, _⟩⟩ := hd
    · exact absurd hz (by decide)
    · obtain ⟨x, y, rfl⟩ := len2 (show items.length = 2 from hz)
      exact BindsTo.of_defaults rfl ho hs rfl rfl
  · intro as sg K h
    have h1 : (psAt 5 3).length = 3 := by kernel_rfl
    have h2 := w76 (O := O3 l)  h
    exact ⟨h2.1.trans h1.symm, h2.2⟩
def O5 (l : Addr) : Orc := addO (O4 l) 98 sp98
theorem ok5 : OrcOK w l vs ns 8 (O5 l) := by
  refine orc_cls (rs := rsAt 6) (t := tm6) (ps := psAt 6 4) ok4 (C := 98) (f := 95) (i := 6) (params := paramsAt 6) (body := bodyAt 6) (scope := scopeAt 6) ?hm ?hw ?hrs ?hsh ?hss ?_ ?_
  case hm => decide
  case hw => kernel_rfl
  case hrs => kernel_rfl
  case hsh => kernel_rfl
  case hss => exact fun hO => ss6 hO
  · intro vals h name qual dV kV doc pm an cdv ct s hd
    have h1 : (psAt 6 4).length = 4 := by kernel_rfl
    obtain ⟨a, b, c, d, rfl⟩ := len4 (h.trans h1)
    obtain ⟨rfl, ⟨rfl, hz⟩ | ⟨T, o, ⟨items⟩, n, rfl, ho, hs, hz, _⟩⟩ := hd
    · exact absurd hz (by decide)
    · obtain ⟨x, rfl⟩ := len1 (show items.length = 1 from hz)
      exact BindsTo.of_defaults rfl ho hs rfl rfl
  · intro as sg K h
    have h1 : (psAt 6 4).length = 4 := by kernel_rfl
    have h2 := w98 (O := O4 l)  h
    exact ⟨h2.1.trans h1.symm, h2.2⟩
def O6 (l : Addr) : Orc := addO (O5 l) 158 sp158
theorem ok6 : OrcOK w l vs ns 9 (O6 l) := by
  refine orc_fn (rs := rsAt 12) (t := tm12) (ps := psAt 12 5) ok5 (i := 12) (params := paramsAt 12) (body := bodyAt 12) (scope := scopeAt 12) ?hm ?hw ?hrs ?hsh ?hss ?hnd ?_ ?_
  case hm => decide
  case hw => kernel_rfl
  case hrs => kernel_rfl
  case hsh => kernel_rfl
  case hss => exact fun hO => ss12 hO
  case hnd => rfl
  · intro vals h name qual doc pm an cdv ct s
    have h1 : (psAt 12 5).length = 5 := by kernel_rfl
    obtain ⟨a, b, c, d, e, rfl⟩ := len5 (h.trans h1)
    exact BindsTo.of_eq (by kernel_rfl)
  · intro as sg K h
    have h1 : (psAt 12 5).length = 5 := by kernel_rfl
    have h2 := w158  (O := O5 l) (fun as sg K h => addO_ne (by decide) (addO_ne (by decide) (addO_eq h))) h
    exact ⟨h2.1.trans h1.symm, h2.2⟩
def O7 (l : Addr) : Orc := addO (O6 l) 165 sp165
theorem ok7 : OrcOK w l vs ns 10 (O7 l) := by
  refine orc_fn (rs := rsAt 13) (t := tm13) (ps := psAt 13 1) ok6 (i := 13) (params := paramsAt 13) (body := bodyAt 13) (scope := scopeAt 13) ?hm ?hw ?hrs ?hsh ?hss ?hnd ?_ ?_
  case hm => decide
  case hw => kernel_rfl
  case hrs => kernel_rfl
  case hsh => kernel_rfl
  case hss => exact fun hO => ss13 hO
  case hnd => rfl
  · intro vals h name qual doc pm an cdv ct s
    have h1 : (psAt 13 1).length = 1 := by kernel_rfl
    obtain ⟨a, rfl⟩ := len1 (h.trans h1)
    exact BindsTo.of_eq (by kernel_rfl)
  · intro as sg K h
    have h1 : (psAt 13 1).length = 1 := by kernel_rfl
    have h2 := w165  (O := O6 l) (fun as sg K h => addO_ne (by decide) (addO_ne (by decide) (addO_eq h))) (fun as sg K h => addO_ne (by decide) (addO_eq h)) (fun as sg K h => addO_eq h) h
    exact ⟨h2.1.trans h1.symm, h2.2⟩
def O8 (l : Addr) : Orc := addO (O7 l) 179 sp179
theorem ok8 : OrcOK w l vs ns 11 (O8 l) := by
  refine orc_fn (rs := rsAt 15) (t := tm15) (ps := psAt 15 1) ok7 (i := 15) (params := paramsAt 15) (body := bodyAt 15) (scope := scopeAt 15) ?hm ?hw ?hrs ?hsh ?hss ?hnd ?_ ?_
  case hm => decide
  case hw => kernel_rfl
  case hrs => kernel_rfl
  case hsh => kernel_rfl
  case hss => exact fun hO => ss15 hO
  case hnd => rfl
  · intro vals h name qual doc pm an cdv ct s
    have h1 : (psAt 15 1).length = 1 := by kernel_rfl
    obtain ⟨a, rfl⟩ := len1 (h.trans h1)
    exact BindsTo.of_eq (by kernel_rfl)
  · intro as sg K h
    have h1 : (psAt 15 1).length = 1 := by kernel_rfl
    have h2 := w179  (O := O7 l) (fun as sg K h => addO_eq h) h
    exact ⟨h2.1.trans h1.symm, h2.2⟩
def O9 (l : Addr) : Orc := addO (O8 l) 137 sp137
theorem ok9 : OrcOK w l vs ns 12 (O9 l) := by
  refine orc_fn (rs := rsAt 9) (t := tm9) (ps := psAt 9 2) ok8 (i := 9) (params := paramsAt 9) (body := bodyAt 9) (scope := scopeAt 9) ?hm ?hw ?hrs ?hsh ?hss ?hnd ?_ ?_
  case hm => decide
  case hw => kernel_rfl
  case hrs => kernel_rfl
  case hsh => kernel_rfl
  case hss => exact fun hO => ss9 hO
  case hnd => rfl
  · intro vals h name qual doc pm an cdv ct s
    have h1 : (psAt 9 2).length = 2 := by kernel_rfl
    obtain ⟨a, b, rfl⟩ := len2 (h.trans h1)
    exact BindsTo.of_eq (by kernel_rfl)
  · intro as sg K h
    have h1 : (psAt 9 2).length = 2 := by kernel_rfl
    have h2 := w137  (O := O8 l)  h
    exact ⟨h2.1.trans h1.symm, h2.2⟩
def O10 (l : Addr) : Orc := addO (O9 l) 144 sp144
theorem ok10 : OrcOK w l vs ns 13 (O10 l) := by
  refine orc_fn (rs := rsAt 10) (t := tm10) (ps := psAt 10 3) ok9 (i := 10) (params := paramsAt 10) (body := bodyAt 10) (scope := scopeAt 10) ?hm ?hw ?hrs ?hsh ?hss ?hnd ?_ ?_
  case hm => decide
  case hw => kernel_rfl
  case hrs => kernel_rfl
  case hsh => kernel_rfl
  case hss => exact fun hO => ss10 hO
  case hnd => rfl
  · intro vals h name qual doc pm an cdv ct s
    have h1 : (psAt 10 3).length = 3 := by kernel_rfl
    obtain ⟨a, b, c, rfl⟩ := len3 (h.trans h1)
    exact BindsTo.of_eq (by kernel_rfl)
  · intro as sg K h
    have h1 : (psAt 10 3).length = 3 := by kernel_rfl
    have h2 := w144  (O := O9 l) (fun as sg K h => addO_eq h) h
    exact ⟨h2.1.trans h1.symm, h2.2⟩
def O11 (l : Addr) : Orc := addO (O10 l) 151 sp151
theorem ok11 : OrcOK w l vs ns 14 (O11 l) := by
  refine orc_fn (rs := rsAt 11) (t := tm11) (ps := psAt 11 3) ok10 (i := 11) (params := paramsAt 11) (body := bodyAt 11) (scope := scopeAt 11) ?hm ?hw ?hrs ?hsh ?hss ?hnd ?_ ?_
  case hm => decide
  case hw => kernel_rfl
  case hrs => kernel_rfl
  case hsh => kernel_rfl
  case hss => exact fun hO => ss11 hO
  case hnd => rfl
  · intro vals h name qual doc pm an cdv ct s
    have h1 : (psAt 11 3).length = 3 := by kernel_rfl
    obtain ⟨a, b, c, rfl⟩ := len3 (h.trans h1)
    exact BindsTo.of_eq (by kernel_rfl)
  · intro as sg K h
    have h1 : (psAt 11 3).length = 3 := by kernel_rfl
    have h2 := w151  (O := O10 l) (fun as sg K h => addO_eq h) h
    exact ⟨h2.1.trans h1.symm, h2.2⟩
def O12 (l : Addr) : Orc := addO (O11 l) 172 sp172
theorem ok12 : OrcOK w l vs ns 15 (O12 l) := by
  refine orc_fn (rs := rsAt 14) (t := tm14) (ps := psAt 14 1) ok11 (i := 14) (params := paramsAt 14) (body := bodyAt 14) (scope := scopeAt 14) ?hm ?hw ?hrs ?hsh ?hss ?hnd ?_ ?_
  case hm => decide
  case hw => kernel_rfl
  case hrs => kernel_rfl
  case hsh => kernel_rfl
  case hss => exact fun hO => ss14 hO
  case hnd => rfl
  · intro vals h name qual doc pm an cdv ct s
    have h1 : (psAt 14 1).length = 1 := by kernel_rfl
    obtain ⟨a, rfl⟩ := len1 (h.trans h1)
    exact BindsTo.of_eq (by kernel_rfl)
  · intro as sg K h
    have h1 : (psAt 14 1).length = 1 := by kernel_rfl
    have h2 := w172  (O := O11 l)  h
    exact ⟨h2.1.trans h1.symm, h2.2⟩
def O13 (l : Addr) : Orc := addO (O12 l) 198 sp198
theorem ok13 : OrcOK w l vs ns 16 (O13 l) := by
  refine orc_fn (rs := rsAt 19) (t := tm19) (ps := psAt 19 2) ok12 (i := 19) (params := paramsAt 19) (body := bodyAt 19) (scope := scopeAt 19) ?hm ?hw ?hrs ?hsh ?hss ?hnd ?_ ?_
  case hm => decide
  case hw => kernel_rfl
  case hrs => kernel_rfl
  case hsh => kernel_rfl
  case hss => exact fun hO => ss19 hO
  case hnd => rfl
  · intro vals h name qual doc pm an cdv ct s
    have h1 : (psAt 19 2).length = 2 := by kernel_rfl
    obtain ⟨a, b, rfl⟩ := len2 (h.trans h1)
    exact BindsTo.of_eq (by kernel_rfl)
  · intro as sg K h
    have h1 : (psAt 19 2).length = 2 := by kernel_rfl
    have h2 := w198  (O := O12 l)  h
    exact ⟨h2.1.trans h1.symm, h2.2⟩
def O14 (l : Addr) : Orc := addO (O13 l) 205 sp205
theorem ok14 : OrcOK w l vs ns 17 (O14 l) := by
  refine orc_fn (rs := rsAt 20) (t := tm20) (ps := psAt 20 1) ok13 (i := 20) (params := paramsAt 20) (body := bodyAt 20) (scope := scopeAt 20) ?hm ?hw ?hrs ?hsh ?hss ?hnd ?_ ?_
  case hm => decide
  case hw => kernel_rfl
  case hrs => kernel_rfl
  case hsh => kernel_rfl
  case hss => exact fun hO => ss20 hO
  case hnd => rfl
  · intro vals h name qual doc pm an cdv ct s
    have h1 : (psAt 20 1).length = 1 := by kernel_rfl
    obtain ⟨a, rfl⟩ := len1 (h.trans h1)
    exact BindsTo.of_eq (by kernel_rfl)
  · intro as sg K h
    have h1 : (psAt 20 1).length = 1 := by kernel_rfl
    have h2 := w205  (O := O13 l) (fun as sg K h => addO_eq h) h
    exact ⟨h2.1.trans h1.symm, h2.2⟩
def O15 (l : Addr) : Orc := addO (O14 l) 191 (sp191 l)
theorem ok15 : OrcOK w l vs ns 18 (O15 l) := by
  refine orc_fn (rs := rsAt 18) (t := tm18) (ps := psAt 18 2) ok14 (i := 18) (params := paramsAt 18) (body := bodyAt 18) (scope := scopeAt 18) ?hm ?hw ?hrs ?hsh ?hss ?hnd ?_ ?_
  case hm => decide
  case hw => kernel_rfl
  case hrs => kernel_rfl
  case hsh => kernel_rfl
  case hss => exact fun hO => ss18 hO
  case hnd => rfl
  · intro vals h name qual doc pm an cdv ct s
    have h1 : (psAt 18 2).length = 2 := by kernel_rfl
    obtain ⟨a, b, rfl⟩ := len2 (h.trans h1)
    exact BindsTo.of_eq (by kernel_rfl)
  · intro as sg K h
    have h1 : (psAt 18 2).length = 2 := by kernel_rfl
    have h2 := w191  (O := O14 l) (fun as sg K h => addO_ne (by decide) (addO_ne (by decide) (addO_ne (by decide) (addO_ne (by decide) (addO_ne (by decide) (addO_ne (by decide) (addO_ne (by decide) (addO_ne (by decide) (addO_ne (by decide) (addO_ne (by decide) (addO_ne (by decide) (addO_ne (by decide) (addO_ne (by decide) (addO_eq h)))))))))))))) h
    exact ⟨h2.1.trans h1.symm, h2.2⟩
def O16 (l : Addr) : Orc := addO (O15 l) 212 sp212
theorem ok16 : OrcOK w l vs ns 19 (O16 l) := by
  refine orc_fn (rs := rsAt 21) (t := tm21) (ps := psAt 21 4) ok15 (i := 21) (params := paramsAt 21) (body := bodyAt 21) (scope := scopeAt 21) ?hm ?hw ?hrs ?hsh ?hss ?hnd ?_ ?_
  case hm => decide
  case hw => kernel_rfl
  case hrs => kernel_rfl
  case hsh => kernel_rfl
  case hss => exact fun hO => ss21 hO
  case hnd => rfl
  · intro vals h name qual doc pm an cdv ct s
    have h1 : (psAt 21 4).length = 4 := by kernel_rfl
    obtain ⟨a, b, c, d, rfl⟩ := len4 (h.trans h1)
    exact BindsTo.of_eq (by kernel_rfl)
  · intro as sg K h
    have h1 : (psAt 21 4).length = 4 := by kernel_rfl
    have h2 := w212  (O := O15 l)  h
    exact ⟨h2.1.trans h1.symm, h2.2⟩
def O17 (l : Addr) : Orc := addO (O16 l) 217 (sp217 l)
theorem ok17 : OrcOK w l vs ns 20 (O17 l) := by
  refine orc_fn (rs := rsAt 22) (t := tm22) (ps := psAt 22 4) ok16 (i := 22) (params := paramsAt 22) (body := bodyAt 22) (scope := scopeAt 22) ?hm ?hw ?hrs ?hsh ?hss ?hnd ?_ ?_
  case hm => decide
  case hw => kernel_rfl
  case hrs => kernel_rfl
  case hsh => kernel_rfl
  case hss => exact fun hO => ss22 hO
  case hnd => rfl
  · intro vals h name qual doc pm an cdv ct s
    have h1 : (psAt 22 4).length = 4 := by kernel_rfl
    obtain ⟨a, b, c, d, rfl⟩ := len4 (h.trans h1)
    exact BindsTo.of_eq (by kernel_rfl)
  · intro as sg K h
    have h1 : (psAt 22 4).length = 4 := by kernel_rfl
    have h2 := w217  (O := O16 l) (fun as sg K h => addO_ne (by decide) (addO_ne (by decide) (addO_ne (by decide) (addO_ne (by decide) (addO_ne (by decide) (addO_ne (by decide) (addO_ne (by decide) (addO_ne (by decide) (addO_ne (by decide) (addO_ne (by decide) (addO_ne (by decide) (addO_ne (by decide) (addO_ne (by decide) (addO_ne (by decide) (addO_ne (by decide) (addO_eq h)))))))))))))))) h
    exact ⟨h2.1.trans h1.symm, h2.2⟩
def O18 (l : Addr) : Orc := addO (O17 l) 224 sp224
theorem ok18 : OrcOK w l vs ns 21 (O18 l) := by
  refine orc_fn (rs := rsAt 23) (t := tm23) (ps := psAt 23 2) ok17 (i := 23) (params := paramsAt 23) (body := bodyAt 23) (scope := scopeAt 23) ?hm ?hw ?hrs ?hsh ?hss ?hnd ?_ ?_
  case hm => decide
  case hw => kernel_rfl
  case hrs => kernel_rfl
  case hsh => kernel_rfl
  case hss => exact fun hO => ss23 hO
  case hnd => rfl
  · intro vals h name qual doc pm an cdv ct s
    have h1 : (psAt 23 2).length = 2 := by kernel_rfl
    obtain ⟨a, b, rfl⟩ := len2 (h.trans h1)
    exact BindsTo.of_eq (by kernel_rfl)
  · intro as sg K h
    have h1 : (psAt 23 2).length = 2 := by kernel_rfl
    have h2 := w224  (O := O17 l)  h
    exact ⟨h2.1.trans h1.symm, h2.2⟩
def O19 (l : Addr) : Orc := addO (O18 l) 231 sp231
theorem ok19 : OrcOK w l vs ns 22 (O19 l) := by
  refine orc_fn (rs := rsAt 24) (t := tm24) (ps := psAt 24 4) ok18 (i := 24) (params := paramsAt 24) (body := bodyAt 24) (scope := scopeAt 24) ?hm ?hw ?hrs ?hsh ?hss ?hnd ?_ ?_
  case hm => decide
  case hw => kernel_rfl
  case hrs => kernel_rfl
  case hsh => kernel_rfl
  case hss => exact fun hO => ss24 hO
  case hnd => rfl
  · intro vals h name qual doc pm an cdv ct s
    have h1 : (psAt 24 4).length = 4 := by kernel_rfl
    obtain ⟨a, b, c, d, rfl⟩ := len4 (h.trans h1)
    exact BindsTo.of_eq (by kernel_rfl)
  · intro as sg K h
    have h1 : (psAt 24 4).length = 4 := by kernel_rfl
    have h2 := w231  (O := O18 l) (fun as sg K h => addO_eq h) h
    exact ⟨h2.1.trans h1.symm, h2.2⟩
def O20 (l : Addr) : Orc := addO (O19 l) 238 sp238
theorem ok20 : OrcOK w l vs ns 23 (O20 l) := by
  refine orc_fn (rs := rsAt 25) (t := tm25) (ps := psAt 25 4) ok19 (i := 25) (params := paramsAt 25) (body := bodyAt 25) (scope := scopeAt 25) ?hm ?hw ?hrs ?hsh ?hss ?hnd ?_ ?_
  case hm => decide
  case hw => kernel_rfl
  case hrs => kernel_rfl
  case hsh => kernel_rfl
  case hss => exact fun hO => ss25 hO
  case hnd => rfl
  · intro vals h name qual doc pm an cdv ct s
    have h1 : (psAt 25 4).length = 4 := by kernel_rfl
    obtain ⟨a, b, c, d, rfl⟩ := len4 (h.trans h1)
    exact BindsTo.of_eq (by kernel_rfl)
  · intro as sg K h
    have h1 : (psAt 25 4).length = 4 := by kernel_rfl
    have h2 := w238  (O := O19 l) (fun as sg K h => addO_ne (by decide) (addO_eq h)) (fun as sg K h => addO_eq h) h
    exact ⟨h2.1.trans h1.symm, h2.2⟩
def O21 (l : Addr) : Orc := addO (O20 l) 245 sp245
theorem ok21 : OrcOK w l vs ns 24 (O21 l) := by
  refine orc_fn (rs := rsAt 26) (t := tm26) (ps := psAt 26 4) ok20 (i := 26) (params := paramsAt 26) (body := bodyAt 26) (scope := scopeAt 26) ?hm ?hw ?hrs ?hsh ?hss ?hnd ?_ ?_
  case hm => decide
  case hw => kernel_rfl
  case hrs => kernel_rfl
  case hsh => kernel_rfl
  case hss => exact fun hO => ss26 hO
  case hnd => rfl
  · intro vals h name qual doc pm an cdv ct s
    have h1 : (psAt 26 4).length = 4 := by kernel_rfl
    obtain ⟨a, b, c, d, rfl⟩ := len4 (h.trans h1)
    exact BindsTo.of_eq (by kernel_rfl)
  · intro as sg K h
    have h1 : (psAt 26 4).length = 4 := by kernel_rfl
    have h2 := w245  (O := O20 l) (fun as sg K h => addO_ne (by decide) (addO_eq h)) (fun as sg K h => addO_ne (by decide) (addO_ne (by decide) (addO_ne (by decide) (addO_ne (by decide) (addO_ne (by decide) (addO_ne (by decide) (addO_eq h))))))) (fun as sg K h => addO_ne (by decide) (addO_ne (by decide) (addO_ne (by decide) (addO_ne (by decide) (addO_ne (by decide) (addO_ne (by decide) (addO_ne (by decide) (addO_eq h)))))))) h
    exact ⟨h2.1.trans h1.symm, h2.2⟩
def O22 (l : Addr) : Orc := addO (O21 l) 252 sp252
theorem ok22 : OrcOK w l vs ns 25 (O22 l) := by
  refine orc_frz (rs := rsAt 27) (t := tm27) (ps := psAt 27 3) ok21 (i := 27) (params := paramsAt 27) (body := bodyAt 27) (scope := scopeAt 27) ?hm ?hw ?hrs ?hsh ?hss ?hnd ?_ ?_
  case hm => decide
  case hw => kernel_rfl
  case hrs => kernel_rfl
  case hsh => kernel_rfl
  case hss => exact fun hO => ss27 hO
  case hnd => rfl
  · intro vals h name qual doc pm an cdv ct s
    have h1 : (psAt 27 3).length = 3 := by kernel_rfl
    obtain ⟨a, b, c, rfl⟩ := len3 (h.trans h1)
    exact BindsTo.of_eq (by kernel_rfl)
  · intro as sg K h
    have h1 : (psAt 27 3).length = 3 := by kernel_rfl
    have h2 := w252  (O := O21 l)  h
    exact ⟨h2.1.trans h1.symm, h2.2⟩
def O23 (l : Addr) : Orc := addO (O22 l) 259 sp259
theorem ok23 : OrcOK w l vs ns 26 (O23 l) := by
  refine orc_fn (rs := rsAt 28) (t := tm28) (ps := psAt 28 6) ok22 (i := 28) (params := paramsAt 28) (body := bodyAt 28) (scope := scopeAt 28) ?hm ?hw ?hrs ?hsh ?hss ?hnd ?_ ?_
  case hm => decide
  case hw => kernel_rfl
  case hrs => kernel_rfl
  case hsh => kernel_rfl
  case hss => exact fun hO => ss28 hO
  case hnd => rfl
  · intro vals h name qual doc pm an cdv ct s
    have h1 : (psAt 28 6).length = 6 := by kernel_rfl
    obtain ⟨a, b, c, d, e, f, rfl⟩ := len6 (h.trans h1)
    exact BindsTo.of_eq (by kernel_rfl)
  · intro as sg K h
    have h1 : (psAt 28 6).length = 6 := by kernel_rfl
    have h2 := w259  (O := O22 l) (fun as sg K h => addO_ne (by decide) (addO_ne (by decide) (addO_eq h))) (fun as sg K h => addO_ne (by decide) (addO_ne (by decide) (addO_ne (by decide) (addO_ne (by decide) (addO_ne (by decide) (addO_ne (by decide) (addO_ne (by decide) (addO_ne (by decide) (addO_eq h))))))))) (fun as sg K h => addO_ne (by decide) (addO_ne (by decide) (addO_ne (by decide) (addO_ne (by decide) (addO_ne (by decide) (addO_ne (by decide) (addO_ne (by decide) (addO_ne (by decide) (addO_ne (by decide) (addO_eq h)))))))))) h
    exact ⟨h2.1.trans h1.symm, h2.2⟩
def O24 (l : Addr) : Orc := addO (O23 l) 266 sp266
theorem ok24 : OrcOK w l vs ns 27 (O24 l) := by
  refine orc_fn (rs := rsAt 29) (t := tm29) (ps := psAt 29 3) ok23 (i := 29) (params := paramsAt 29) (body := bodyAt 29) (scope := scopeAt 29) ?hm ?hw ?hrs ?hsh ?hss ?hnd ?_ ?_
  case hm => decide
  case hw => kernel_rfl
  case hrs => kernel_rfl
  case hsh => kernel_rfl
  case hss => exact fun hO => ss29 hO
  case hnd => rfl
  · intro vals h name qual doc pm an cdv ct s
    have h1 : (psAt 29 3).length = 3 := by kernel_rfl
    obtain ⟨a, b, c, rfl⟩ := len3 (h.trans h1)
    exact BindsTo.of_eq (by kernel_rfl)
  · intro as sg K h
    have h1 : (psAt 29 3).length = 3 := by kernel_rfl
    have h2 := w266  (O := O23 l) (fun as sg K h => addO_ne (by decide) (addO_ne (by decide) (addO_ne (by decide) (addO_ne (by decide) (addO_ne (by decide) (addO_ne (by decide) (addO_ne (by decide) (addO_ne (by decide) (addO_ne (by decide) (addO_ne (by decide) (addO_ne (by decide) (addO_ne (by decide) (addO_eq h))))))))))))) h
    exact ⟨h2.1.trans h1.symm, h2.2⟩
def O25 (l : Addr) : Orc := addO (O24 l) 271 (sp271 l)
theorem ok25 : OrcOK w l vs ns 28 (O25 l) := by
  refine orc_fn (rs := rsAt 30) (t := tm30) (ps := psAt 30 2) ok24 (i := 30) (params := paramsAt 30) (body := bodyAt 30) (scope := scopeAt 30) ?hm ?hw ?hrs ?hsh ?hss ?hnd ?_ ?_
  case hm => decide
  case hw => kernel_rfl
  case hrs => kernel_rfl
  case hsh => kernel_rfl
  case hss => exact fun hO => ss30 hO
  case hnd => rfl
  · intro vals h name qual doc pm an cdv ct s
    have h1 : (psAt 30 2).length = 2 := by kernel_rfl
    obtain ⟨a, b, rfl⟩ := len2 (h.trans h1)
    exact BindsTo.of_eq (by kernel_rfl)
  · intro as sg K h
    have h1 : (psAt 30 2).length = 2 := by kernel_rfl
    have h2 := w271  (O := O24 l) (fun as sg K h => addO_ne (by decide) (addO_ne (by decide) (addO_ne (by decide) (addO_ne (by decide) (addO_ne (by decide) (addO_ne (by decide) (addO_ne (by decide) (addO_ne (by decide) (addO_ne (by decide) (addO_ne (by decide) (addO_ne (by decide) (addO_ne (by decide) (addO_ne (by decide) (addO_ne (by decide) (addO_ne (by decide) (addO_ne (by decide) (addO_ne (by decide) (addO_ne (by decide) (addO_ne (by decide) (addO_ne (by decide) (addO_ne (by decide) (addO_ne (by decide) (addO_ne (by decide) (addO_eq h)))))))))))))))))))))))) (fun as sg K h => addO_ne (by decide) (addO_ne (by decide) (addO_ne (by decide) (addO_ne (by decide) (addO_ne (by decide) (addO_ne (by decide) (addO_ne (by decide) (addO_ne (by decide) (addO_ne (by decide) (addO_eq h)))))))))) (fun as sg K h => addO_ne (by decide) (addO_ne (by decide) (addO_ne (by decide) (addO_ne (by decide) (addO_ne (by decide) (addO_ne (by decide) (addO_ne (by decide) (addO_ne (by decide) (addO_ne (by decide) (addO_ne (by decide) (addO_ne (by decide) (addO_eq h)))))))))))) (fun as sg K h => addO_ne (by decide) (addO_ne (by decide) (addO_ne (by decide) (addO_ne (by decide) (addO_ne (by decide) (addO_ne (by decide) (addO_ne (by decide) (addO_ne (by decide) (addO_ne (by decide) (addO_ne (by decide) (addO_eq h))))))))))) (fun as sg K h => addO_ne (by decide) (addO_ne (by decide) (addO_ne (by decide) (addO_ne (by decide) (addO_ne (by decide) (addO_ne (by decide) (addO_ne (by decide) (addO_ne (by decide) (addO_eq h))))))))) (fun as sg K h => addO_ne (by decide) (addO_ne (by decide) (addO_ne (by decide) (addO_ne (by decide) (addO_ne (by decide) (addO_ne (by decide) (addO_ne (by decide) (addO_eq h)))))))) (fun as sg K h => addO_ne (by decide) (addO_ne (by decide) (addO_ne (by decide) (addO_ne (by decide) (addO_ne (by decide) (addO_ne (by decide) (addO_ne (by decide) (addO_ne (by decide) (addO_ne (by decide) (addO_ne (by decide) (addO_ne (by decide) (addO_ne (by decide) (addO_ne (by decide) (addO_ne (by decide) (addO_ne (by decide) (addO_ne (by decide) (addO_eq h))))))))))))))))) (fun as sg K h => addO_ne (by decide) (addO_ne (by decide) (addO_ne (by decide) (addO_eq h)))) (fun as sg K h => addO_ne (by decide) (addO_ne (by decide) (addO_ne (by decide) (addO_ne (by decide) (addO_ne (by decide) (addO_ne (by decide) (addO_ne (by decide) (addO_ne (by decide) (addO_ne (by decide) (addO_ne (by decide) (addO_ne (by decide) (addO_ne (by decide) (addO_eq h))))))))))))) (fun as sg K h => addO_ne (by decide) (addO_ne (by decide) (addO_eq h))) (fun as sg K h => addO_ne (by decide) (addO_eq h)) (fun as sg K h => addO_eq h) h
    exact ⟨h2.1.trans h1.symm, h2.2⟩
end
end Mine
end
section
open PySem PySem.W PySem.Calls PyProof.Rows PySem.Spec
namespace Mine
theorem env_plain {w : World} {rs : Rs} {scope : Scope} {ps : List Str} {qual : Str} {L f : Addr} {cdv : Value} {vals : List Value} {as : List V} {mu fz : Led} {al : List (Addr × Addr)} {m : Str → Option Value} (hrs : mkRs 0 scope.names = some rs) (hsh : fnShape scope ps rs = true) (hnc : (scope.names.all fun p => p.2 != .cell) = true) (hv : VRs fz al vals as) (hlen : as.length = ps.length)
    (hm : ∀ (n : Nat) (y : Str) (val : Value), ps[n]? = some y → vals[n]? = some val → m y = some val) : EnvR w L m m (envOf qual scope L f cdv) rs mu fz al (as.map some) := by
  unfold fnShape at hsh
  simp only [Bool.and_eq_true, decide_eq_true_eq, Bool.not_eq_true'] at hsh
  obtain ⟨⟨⟨⟨⟨⟨z1, z2⟩, z3⟩, z4⟩, z5⟩, z6⟩, z7⟩ := hsh
  have hk : scope.kind = .function := by
    split at z1
    · assumption
    · cases z1
  have nc : ∀ {y : Str} {n : Nat}, scope.names[n]? = some (y, NameKind.cell) → False := fun h => by
    rw [List.all_eq_true] at hnc
    have := hnc _ (List.mem_of_getElem? h)
    simp at this
  have rnd : (rs.map (·.1)).Nodup := by
    have := z7
    unfold rsOk at this
    simp only [Bool.and_eq_true, decide_eq_true_eq] at this
    exact this.1.1
  have klook : ∀ {y : Str} {n : Nat} {kd : NameKind}, scope.names[n]? = some (y, kd) → (envOf qual scope L f cdv).kindOf y = some kd := fun h => lookup_of_mem z4 (List.mem_of_getElem? h)
  have hvl := hv.length
  refine ⟨hk, rfl, rfl, fun x rv h => rsOk_dbg z7 h, ?_, ?_, ?_, ?_, ?_, rnd, fun x y u v n => rsOk_inj z7, ?_, .inl ⟨rfl, rfl⟩⟩
  · intro x v h
    rcases mkRs_mem hrs (mem_of_lookup h) with ⟨n, e, _⟩ | ⟨n, e, _⟩ | ⟨n, v', e, g, q⟩
    · cases e
    · cases e
    · cases e; exact ⟨klook g, q⟩
  · intro x n v h h2
    rcases mkRs_mem hrs (mem_of_lookup h) with ⟨k, e, g⟩ | ⟨k, e, _⟩ | ⟨k, v', e, _⟩
    · cases e
      rw [Nat.zero_add] at h2
      obtain ⟨val, h3, h4⟩ := hv.get (vget_some h2)
      have hn : k < ps.length := by have := (List.getElem?_eq_some_iff.mp (vget_some h2)).1; omega
      exact ⟨val, hm k x val (by rw [z5, List.getElem?_map, List.getElem?_take_of_lt hn, g]; rfl) h3, h4⟩
    · cases e
    · cases e
  · intro x n v h h2
    rcases mkRs_mem hrs (mem_of_lookup h) with ⟨k, e, _⟩ | ⟨k, e, g⟩ | ⟨k, v', e, _⟩
    · cases e
    · exact (nc g).elim
    · cases e
  · intro x n h
    rcases mkRs_mem hrs (mem_of_lookup h) with ⟨k, e, g⟩ | ⟨k, e, g⟩ | ⟨k, v', e, _⟩
    · exact klook g
    · cases e
    · cases e
  · intro x n h
    rcases mkRs_mem hrs (mem_of_lookup h) with ⟨k, e, g⟩ | ⟨k, e, g⟩ | ⟨k, v', e, _⟩
    · cases e
    · exact (nc g).elim
    · cases e
  · intro x y n k c h1 _ _ _
    rcases mkRs_mem hrs (mem_of_lookup h1) with ⟨k, e, g⟩ | ⟨k, e, g⟩ | ⟨k, v', e, _⟩
    · cases e
    · exact (nc g).elim
    · cases e
theorem w31 {O : Orc} {l : Addr} (h271 : ∀ as sg K, sp271 l as sg K → O 271 as sg K) {sg : Sto} {K : Kf} (h : ∀ r sg', K (some (.bool true)) r sg') : wps O tm31 ([scr l].map some) sg K := by
  have e4 : upto 0 (4 - 0 : Int).toNat = [0, 1, 2, 3] := rfl
  (first | (dsimp only [tm31, List.cons_append, List.nil_append, List.getElem?_cons_zero, List.getElem?_cons_succ, List.getElem?_nil, bcmp_str, wps, wps1, wpe, wpes, wpt, wpMap, wpFor, wpForL, upto, rangeOf, bop_add, bop_sub, bop_mul, bop_fdiv, bop_mod, bop_tup, bcmp_lt, bcmp_le, bcmp_gt, bcmp_ge, bcmp_eq, bcmp_ne, bcmp_tup, bcmp_tupn, bcmp_lst, bcmp_lstn, biS, biC_len, biC_lenl, biC_min, biC_max, biC_isi, biC_list, bitem, storeItem, asBool, isNn, sattr, sset, sseti, sapp, notRaw, itemsOf, vget, vput, vputs, getF, putF, getK, List.map, List.map_cons, List.map_nil, List.length, List.length_cons, List.length_nil, Option.getD, Int.reduceToNat, Int.reduceSub, Int.reduceAdd, Int.reduceMul, Nat.reducePow, Nat.reduceSub, Nat.reduceAdd, Bool.not_true, Bool.not_false]; try simp only [tm31, e4, List.cons_append, List.nil_append, List.getElem?_cons_zero, List.getElem?_cons_succ, List.getElem?_nil, bcmp_str, wps, wps1, wpe, wpes, wpt, wpMap, wpFor, wpForL, upto, rangeOf, bop_add, bop_sub, bop_mul, bop_fdiv, bop_mod, bop_tup, bcmp_lt, bcmp_le, bcmp_gt, bcmp_ge, bcmp_eq, bcmp_ne, bcmp_tup, bcmp_tupn, bcmp_lst, bcmp_lstn, biS, biC_len, biC_lenl, biC_min, biC_max, biC_isi, biC_list, bitem, storeItem, asBool, isNn, sattr, sset, sseti, sapp, notRaw, itemsOf, vget, vput, vputs, getF, putF, getK, List.map, List.map_cons, List.map_nil, List.length, List.length_cons, List.length_nil, Option.getD, Int.reduceToNat, Int.reduceSub, Int.reduceAdd, Int.reduceMul, Nat.reducePow, Nat.reduceSub, Nat.reduceAdd, Bool.not_true, Bool.not_false, List.length_append, Int.reduceLE, Int.reduceLT, Int.toNat_zero, Int.toNat_one, Int.le_refl, beq_self_eq_true, get_last, set_last, Nat.reduceEqDiff, Nat.reduceLT, Nat.reduceLeDiff, if_true, if_false, reduceIte, reduceCtorEq, true_and, and_true, or_true, true_or, or_false, false_or, or_self, and_self, forall_const, Bool.true_eq_false, Bool.false_eq_true, false_implies, true_implies, decide_true, decide_false]) | simp only [tm31, e4, List.cons_append, List.nil_append, List.getElem?_cons_zero, List.getElem?_cons_succ, List.getElem?_nil, bcmp_str, wps, wps1, wpe, wpes, wpt, wpMap, wpFor, wpForL, upto, rangeOf, bop_add, bop_sub, bop_mul, bop_fdiv, bop_mod, bop_tup, bcmp_lt, bcmp_le, bcmp_gt, bcmp_ge, bcmp_eq, bcmp_ne, bcmp_tup, bcmp_tupn, bcmp_lst, bcmp_lstn, biS, biC_len, biC_lenl, biC_min, biC_max, biC_isi, biC_list, bitem, storeItem, asBool, isNn, sattr, sset, sseti, sapp, notRaw, itemsOf, vget, vput, vputs, getF, putF, getK, List.map, List.map_cons, List.map_nil, List.length, List.length_cons, List.length_nil, Option.getD, Int.reduceToNat, Int.reduceSub, Int.reduceAdd, Int.reduceMul, Nat.reducePow, Nat.reduceSub, Nat.reduceAdd, Bool.not_true, Bool.not_false, List.length_append, Int.reduceLE, Int.reduceLT, Int.toNat_zero, Int.toNat_one, Int.le_refl, beq_self_eq_true, get_last, set_last, Nat.reduceEqDiff, Nat.reduceLT, Nat.reduceLeDiff, if_true, if_false, reduceIte, reduceCtorEq, true_and, and_true, or_true, true_or, or_false, false_or, or_self, and_self, forall_const, Bool.true_eq_false, Bool.false_eq_true, false_implies, true_implies, decide_true, decide_false])
  refine ⟨by decide, h271 _ _ _ ⟨0, rfl, by decide, by decide, fun sg1 => ?_⟩⟩
  (first | (dsimp only [List.cons_append, List.nil_append, List.getElem?_cons_zero, List.getElem?_cons_succ, List.getElem?_nil, bcmp_str, wps, wps1, wpe, wpes, wpt, wpMap, wpFor, wpForL, upto, rangeOf, bop_add, bop_sub, bop_mul, bop_fdiv, bop_mod, bop_tup, bcmp_lt, bcmp_le, bcmp_gt, bcmp_ge, bcmp_eq, bcmp_ne, bcmp_tup, bcmp_tupn, bcmp_lst, bcmp_lstn, biS, biC_len, biC_lenl, biC_min, biC_max, biC_isi, biC_list, bitem, storeItem, asBool, isNn, sattr, sset, sseti, sapp, notRaw, itemsOf, vget, vput, vputs, getF, putF, getK, List.map, List.map_cons, List.map_nil, List.length, List.length_cons, List.length_nil, Option.getD, Int.reduceToNat, Int.reduceSub, Int.reduceAdd, Int.reduceMul, Nat.reducePow, Nat.reduceSub, Nat.reduceAdd, Bool.not_true, Bool.not_false]; try simp only [List.cons_append, List.nil_append, List.getElem?_cons_zero, List.getElem?_cons_succ, List.getElem?_nil, bcmp_str, wps, wps1, wpe, wpes, wpt, wpMap, wpFor, wpForL, upto, rangeOf, bop_add, bop_sub, bop_mul, bop_fdiv, bop_mod, bop_tup, bcmp_lt, bcmp_le, bcmp_gt, bcmp_ge, bcmp_eq, bcmp_ne, bcmp_tup, bcmp_tupn, bcmp_lst, bcmp_lstn, biS, biC_len, biC_lenl, biC_min, biC_max, biC_isi, biC_list, bitem, storeItem, asBool, isNn, sattr, sset, sseti, sapp, notRaw, itemsOf, vget, vput, vputs, getF, putF, getK, List.map, List.map_cons, List.map_nil, List.length, List.length_cons, List.length_nil, Option.getD, Int.reduceToNat, Int.reduceSub, Int.reduceAdd, Int.reduceMul, Nat.reducePow, Nat.reduceSub, Nat.reduceAdd, Bool.not_true, Bool.not_false, List.length_append, Int.reduceLE, Int.reduceLT, Int.toNat_zero, Int.toNat_one, Int.le_refl, beq_self_eq_true, get_last, set_last, Nat.reduceEqDiff, Nat.reduceLT, Nat.reduceLeDiff, if_true, if_false, reduceIte, reduceCtorEq, true_and, and_true, or_true, true_or, or_false, false_or, or_self, and_self, forall_const, Bool.true_eq_false, Bool.false_eq_true, false_implies, true_implies, decide_true, decide_false]) | simp only [List.cons_append, List.nil_append, List.getElem?_cons_zero, List.getElem?_cons_succ, List.getElem?_nil, bcmp_str, wps, wps1, wpe, wpes, wpt, wpMap, wpFor, wpForL, upto, rangeOf, bop_add, bop_sub, bop_mul, bop_fdiv, bop_mod, bop_tup, bcmp_lt, bcmp_le, bcmp_gt, bcmp_ge, bcmp_eq, bcmp_ne, bcmp_tup, bcmp_tupn, bcmp_lst, bcmp_lstn, biS, biC_len, biC_lenl, biC_min, biC_max, biC_isi, biC_list, bitem, storeItem, asBool, isNn, sattr, sset, sseti, sapp, notRaw, itemsOf, vget, vput, vputs, getF, putF, getK, List.map, List.map_cons, List.map_nil, List.length, List.length_cons, List.length_nil, Option.getD, Int.reduceToNat, Int.reduceSub, Int.reduceAdd, Int.reduceMul, Nat.reducePow, Nat.reduceSub, Nat.reduceAdd, Bool.not_true, Bool.not_false, List.length_append, Int.reduceLE, Int.reduceLT, Int.toNat_zero, Int.toNat_one, Int.le_refl, beq_self_eq_true, get_last, set_last, Nat.reduceEqDiff, Nat.reduceLT, Nat.reduceLeDiff, if_true, if_false, reduceIte, reduceCtorEq, true_and, and_true, or_true, true_or, or_false, false_or, or_self, and_self, forall_const, Bool.true_eq_false, Bool.false_eq_true, false_implies, true_implies, decide_true, decide_false])
  refine h271 _ _ _ ⟨1, rfl, by decide, by decide, fun sg2 => ?_⟩
  (first | (dsimp only [List.cons_append, List.nil_append, List.getElem?_cons_zero, List.getElem?_cons_succ, List.getElem?_nil, bcmp_str, wps, wps1, wpe, wpes, wpt, wpMap, wpFor, wpForL, upto, rangeOf, bop_add, bop_sub, bop_mul, bop_fdiv, bop_mod, bop_tup, bcmp_lt, bcmp_le, bcmp_gt, bcmp_ge, bcmp_eq, bcmp_ne, bcmp_tup, bcmp_tupn, bcmp_lst, bcmp_lstn, biS, biC_len, biC_lenl, biC_min, biC_max, biC_isi, biC_list, bitem, storeItem, asBool, isNn, sattr, sset, sseti, sapp, notRaw, itemsOf, vget, vput, vputs, getF, putF, getK, List.map, List.map_cons, List.map_nil, List.length, List.length_cons, List.length_nil, Option.getD, Int.reduceToNat, Int.reduceSub, Int.reduceAdd, Int.reduceMul, Nat.reducePow, Nat.reduceSub, Nat.reduceAdd, Bool.not_true, Bool.not_false]; try simp only [List.cons_append, List.nil_append, List.getElem?_cons_zero, List.getElem?_cons_succ, List.getElem?_nil, bcmp_str, wps, wps1, wpe, wpes, wpt, wpMap, wpFor, wpForL, upto, rangeOf, bop_add, bop_sub, bop_mul, bop_fdiv, bop_mod, bop_tup, bcmp_lt, bcmp_le, bcmp_gt, bcmp_ge, bcmp_eq, bcmp_ne, bcmp_tup, bcmp_tupn, bcmp_lst, bcmp_lstn, biS, biC_len, biC_lenl, biC_min, biC_max, biC_isi, biC_list, bitem, storeItem, asBool, isNn, sattr, sset, sseti, sapp, notRaw, itemsOf, vget, vput, vputs, getF, putF, getK, List.map, List.map_cons, List.map_nil, List.length, List.length_cons, List.length_nil, Option.getD, Int.reduceToNat, Int.reduceSub, Int.reduceAdd, Int.reduceMul, Nat.reducePow, Nat.reduceSub, Nat.reduceAdd, Bool.not_true, Bool.not_false, List.length_append, Int.reduceLE, Int.reduceLT, Int.toNat_zero, Int.toNat_one, Int.le_refl, beq_self_eq_true, get_last, set_last, Nat.reduceEqDiff, Nat.reduceLT, Nat.reduceLeDiff, if_true, if_false, reduceIte, reduceCtorEq, true_and, and_true, or_true, true_or, or_false, false_or, or_self, and_self, forall_const, Bool.true_eq_false, Bool.false_eq_true, false_implies, true_implies, decide_true, decide_false]) | simp only [List.cons_append, List.nil_append, List.getElem?_cons_zero, List.getElem?_cons_succ, List.getElem?_nil, bcmp_str, wps, wps1, wpe, wpes, wpt, wpMap, wpFor, wpForL, upto, rangeOf, bop_add, bop_sub, bop_mul, bop_fdiv, bop_mod, bop_tup, bcmp_lt, bcmp_le, bcmp_gt, bcmp_ge, bcmp_eq, bcmp_ne, bcmp_tup, bcmp_tupn, bcmp_lst, bcmp_lstn, biS, biC_len, biC_lenl, biC_min, biC_max, biC_isi, biC_list, bitem, storeItem, asBool, isNn, sattr, sset, sseti, sapp, notRaw, itemsOf, vget, vput, vputs, getF, putF, getK, List.map, List.map_cons, List.map_nil, List.length, List.length_cons, List.length_nil, Option.getD, Int.reduceToNat, Int.reduceSub, Int.reduceAdd, Int.reduceMul, Nat.reducePow, Nat.reduceSub, Nat.reduceAdd, Bool.not_true, Bool.not_false, List.length_append, Int.reduceLE, Int.reduceLT, Int.toNat_zero, Int.toNat_one, Int.le_refl, beq_self_eq_true, get_last, set_last, Nat.reduceEqDiff, Nat.reduceLT, Nat.reduceLeDiff, if_true, if_false, reduceIte, reduceCtorEq, true_and, and_true, or_true, true_or, or_false, false_or, or_self, and_self, forall_const, Bool.true_eq_false, Bool.false_eq_true, false_implies, true_implies, decide_true, decide_false])
  refine h271 _ _ _ ⟨2, rfl, by decide, by decide, fun sg3 => ?_⟩
  (first | (dsimp only [List.cons_append, List.nil_append, List.getElem?_cons_zero, List.getElem?_cons_succ, List.getElem?_nil, bcmp_str, wps, wps1, wpe, wpes, wpt, wpMap, wpFor, wpForL, upto, rangeOf, bop_add, bop_sub, bop_mul, bop_fdiv, bop_mod, bop_tup, bcmp_lt, bcmp_le, bcmp_gt, bcmp_ge, bcmp_eq, bcmp_ne, bcmp_tup, bcmp_tupn, bcmp_lst, bcmp_lstn, biS, biC_len, biC_lenl, biC_min, biC_max, biC_isi, biC_list, bitem, storeItem, asBool, isNn, sattr, sset, sseti, sapp, notRaw, itemsOf, vget, vput, vputs, getF, putF, getK, List.map, List.map_cons, List.map_nil, List.length, List.length_cons, List.length_nil, Option.getD, Int.reduceToNat, Int.reduceSub, Int.reduceAdd, Int.reduceMul, Nat.reducePow, Nat.reduceSub, Nat.reduceAdd, Bool.not_true, Bool.not_false]; try simp only [List.cons_append, List.nil_append, List.getElem?_cons_zero, List.getElem?_cons_succ, List.getElem?_nil, bcmp_str, wps, wps1, wpe, wpes, wpt, wpMap, wpFor, wpForL, upto, rangeOf, bop_add, bop_sub, bop_mul, bop_fdiv, bop_mod, bop_tup, bcmp_lt, bcmp_le, bcmp_gt, bcmp_ge, bcmp_eq, bcmp_ne, bcmp_tup, bcmp_tupn, bcmp_lst, bcmp_lstn, biS, biC_len, biC_lenl, biC_min, biC_max, biC_isi, biC_list, bitem, storeItem, asBool, isNn, sattr, sset, sseti, sapp, notRaw, itemsOf, vget, vput, vputs, getF, putF, getK, List.map, List.map_cons, List.map_nil, List.length, List.length_cons, List.length_nil, Option.getD, Int.reduceToNat, Int.reduceSub, Int.reduceAdd, Int.reduceMul, Nat.reducePow, Nat.reduceSub, Nat.reduceAdd, Bool.not_true, Bool.not_false, List.length_append, Int.reduceLE, Int.reduceLT, Int.toNat_zero, Int.toNat_one, Int.le_refl, beq_self_eq_true, get_last, set_last, Nat.reduceEqDiff, Nat.reduceLT, Nat.reduceLeDiff, if_true, if_false, reduceIte, reduceCtorEq, true_and, and_true, or_true, true_or, or_false, false_or, or_self, and_self, forall_const, Bool.true_eq_false, Bool.false_eq_true, false_implies, true_implies, decide_true, decide_false]) | simp only [List.cons_append, List.nil_append, List.getElem?_cons_zero, List.getElem?_cons_succ, List.getElem?_nil, bcmp_str, wps, wps1, wpe, wpes, wpt, wpMap, wpFor, wpForL, upto, rangeOf, bop_add, bop_sub, bop_mul, bop_fdiv, bop_mod, bop_tup, bcmp_lt, bcmp_le, bcmp_gt, bcmp_ge, bcmp_eq, bcmp_ne, bcmp_tup, bcmp_tupn, bcmp_lst, bcmp_lstn, biS, biC_len, biC_lenl, biC_min, biC_max, biC_isi, biC_list, bitem, storeItem, asBool, isNn, sattr, sset, sseti, sapp, notRaw, itemsOf, vget, vput, vputs, getF, putF, getK, List.map, List.map_cons, List.map_nil, List.length, List.length_cons, List.length_nil, Option.getD, Int.reduceToNat, Int.reduceSub, Int.reduceAdd, Int.reduceMul, Nat.reducePow, Nat.reduceSub, Nat.reduceAdd, Bool.not_true, Bool.not_false, List.length_append, Int.reduceLE, Int.reduceLT, Int.toNat_zero, Int.toNat_one, Int.le_refl, beq_self_eq_true, get_last, set_last, Nat.reduceEqDiff, Nat.reduceLT, Nat.reduceLeDiff, if_true, if_false, reduceIte, reduceCtorEq, true_and, and_true, or_true, true_or, or_false, false_or, or_self, and_self, forall_const, Bool.true_eq_false, Bool.false_eq_true, false_implies, true_implies, decide_true, decide_false])
  refine h271 _ _ _ ⟨3, rfl, by decide, by decide, fun sg4 => ?_⟩
  (first | (dsimp only [List.cons_append, List.nil_append, List.getElem?_cons_zero, List.getElem?_cons_succ, List.getElem?_nil, bcmp_str, wps, wps1, wpe, wpes, wpt, wpMap, wpFor, wpForL, upto, rangeOf, bop_add, bop_sub, bop_mul, bop_fdiv, bop_mod, bop_tup, bcmp_lt, bcmp_le, bcmp_gt, bcmp_ge, bcmp_eq, bcmp_ne, bcmp_tup, bcmp_tupn, bcmp_lst, bcmp_lstn, biS, biC_len, biC_lenl, biC_min, biC_max, biC_isi, biC_list, bitem, storeItem, asBool, isNn, sattr, sset, sseti, sapp, notRaw, itemsOf, vget, vput, vputs, getF, putF, getK, List.map, List.map_cons, List.map_nil, List.length, List.length_cons, List.length_nil, Option.getD, Int.reduceToNat, Int.reduceSub, Int.reduceAdd, Int.reduceMul, Nat.reducePow, Nat.reduceSub, Nat.reduceAdd, Bool.not_true, Bool.not_false]; try simp only [List.cons_append, List.nil_append, List.getElem?_cons_zero, List.getElem?_cons_succ, List.getElem?_nil, bcmp_str, wps, wps1, wpe, wpes, wpt, wpMap, wpFor, wpForL, upto, rangeOf, bop_add, bop_sub, bop_mul, bop_fdiv, bop_mod, bop_tup, bcmp_lt, bcmp_le, bcmp_gt, bcmp_ge, bcmp_eq, bcmp_ne, bcmp_tup, bcmp_tupn, bcmp_lst, bcmp_lstn, biS, biC_len, biC_lenl, biC_min, biC_max, biC_isi, biC_list, bitem, storeItem, asBool, isNn, sattr, sset, sseti, sapp, notRaw, itemsOf, vget, vput, vputs, getF, putF, getK, List.map, List.map_cons, List.map_nil, List.length, List.length_cons, List.length_nil, Option.getD, Int.reduceToNat, Int.reduceSub, Int.reduceAdd, Int.reduceMul, Nat.reducePow, Nat.reduceSub, Nat.reduceAdd, Bool.not_true, Bool.not_false, List.length_append, Int.reduceLE, Int.reduceLT, Int.toNat_zero, Int.toNat_one, Int.le_refl, beq_self_eq_true, get_last, set_last, Nat.reduceEqDiff, Nat.reduceLT, Nat.reduceLeDiff, if_true, if_false, reduceIte, reduceCtorEq, true_and, and_true, or_true, true_or, or_false, false_or, or_self, and_self, forall_const, Bool.true_eq_false, Bool.false_eq_true, false_implies, true_implies, decide_true, decide_false]) | simp only [List.cons_append, List.nil_append, List.getElem?_cons_zero, List.getElem?_cons_succ, List.getElem?_nil, bcmp_str, wps, wps1, wpe, wpes, wpt, wpMap, wpFor, wpForL, upto, rangeOf, bop_add, bop_sub, bop_mul, bop_fdiv, bop_mod, bop_tup, bcmp_lt, bcmp_le, bcmp_gt, bcmp_ge, bcmp_eq, bcmp_ne, bcmp_tup, bcmp_tupn, bcmp_lst, bcmp_lstn, biS, biC_len, biC_lenl, biC_min, biC_max, biC_isi, biC_list, bitem, storeItem, asBool, isNn, sattr, sset, sseti, sapp, notRaw, itemsOf, vget, vput, vputs, getF, putF, getK, List.map, List.map_cons, List.map_nil, List.length, List.length_cons, List.length_nil, Option.getD, Int.reduceToNat, Int.reduceSub, Int.reduceAdd, Int.reduceMul, Nat.reducePow, Nat.reduceSub, Nat.reduceAdd, Bool.not_true, Bool.not_false, List.length_append, Int.reduceLE, Int.reduceLT, Int.toNat_zero, Int.toNat_one, Int.le_refl, beq_self_eq_true, get_last, set_last, Nat.reduceEqDiff, Nat.reduceLT, Nat.reduceLeDiff, if_true, if_false, reduceIte, reduceCtorEq, true_and, and_true, or_true, true_or, or_false, false_or, or_self, and_self, forall_const, Bool.true_eq_false, Bool.false_eq_true, false_implies, true_implies, decide_true, decide_false])
  exact h _ _
theorem room_top (env : Env) : Room (callerA.deeper env) 28 := ⟨by show callerA.depth + 1 + 28 < _; decide, by show callerA.units + 3 + 8 * 28 + 64 < _; decide⟩
/-- the law's own walk -/
theorem law_walk {w : World} {l : Addr} {vs : List Value} {ns : List Int} {A : Around} {h₀ : Heap} {L : Addr} {env : Env} {s : Shared} {m : Str → Option Value} {Q : Flow → Shared → Prop} {E : Value → Shared → Prop} (hA : Amb w l vs ns A h₀ L) (hR : Room A 28) (hL : env.locals = L) (F : Fr h₀ L s.heap m) (R : EnvR w L m m env (rsAt 31) [] [] [] ([scr l].map some))
    (hq : ∀ h' tk' m', Fr h₀ L h' m' → Q (.ret (.bool true)) { s with heap := h', toks := tk' }) : wpAny (model PG w) A (execs (bodyAt 31) env) Q E s := by
  have S : St w h₀ L s.heap m [] [] [] [] := ⟨F, (fun p hp => (nomatch hp)), List.nodup_nil, ⟨rfl, (fun n oa h => by simp at h), List.nodup_nil⟩⟩
  refine wpAny_mono (ss31 (ok25 (ns := ns)) A h₀ L m env s [] [] [] _ [] (fun fl _ _ => fl = some (.bool true)) Q hA hR hL S R (w31 (fun as sg K h => addO_eq h) (fun _ _ => rfl)) ?_) (fun _ _ h => h) (fun _ _ (e : False) => e.elim)
  intro fl flv h' tk' mf' mu' fz' al' r' sg' hk hf S' _ _
  subst hk
  cases hf with
  | ret hv => cases hv; exact hq _ _ _ S'.fr
theorem ps31 : psAt 31 1 = [Str.ofString "script"] := by kernel_rfl
theorem look31 {a : Value} (n : Nat) (y : Str) (val : Value) (h1 : (psAt 31 1)[n]? = some y) (h2 : ([a] : List Value)[n]? = some val) : List.lookup y [((Str.ofString "script" : Str), a)].reverse = some val := by
  rw [ps31] at h1
  cases n with
  | zero =>
    simp only [List.getElem?_cons_zero, Option.some.injEq] at h1 h2
    subst h1 h2
    simp
  | succ n => simp at h1
set_option maxRecDepth 100000 in
set_option maxHeartbeats 8000000 in
/-- the law's own looks at its text, by the library's twin -/
theorem okl : PySem.Challenge.rw_pq1071_01.wellSaid = true := by
  rw [PySem.W.Fast.te9446332074065402090]
  kernel_rfl
end Mine
end
open PySem PySem.W PySem.Calls PyProof.Rows Mine
set_option maxRecDepth 100000 in
set_option maxHeartbeats 8000000 in
theorem PySem.Challenge.cw_pq1071_01_holds : PySem.Challenge.rw_pq1071_01.Holds := by
  w_on
  refine holds_law okl fun said => ?_
  refine holds_open (q := vw) (loose := []) (Xt := fun s => xlAt vw [] s && recOk (RowW.records PySem.Challenge.rw_pq1071_01.row.toRowW) s) (XP := XL vw []) (Yf := hk.obs) (Ya := hk.val) (YP := hk.says) (N := 4296) hl hk.of hk.keeps (fun s e => xl_of s (Bool.and_eq_true_iff.mp e).1) XL.keeps (by rfl) (by rfl) (by rfl) (fun s e => recFacts_of (Bool.and_eq_true_iff.mp e).2) (by rfl) (by first | assumption | decide +kernel) (by decide +kernel) ⟨rfl, rfl, rfl, rfl, rfl, by decide +kernel⟩ ?hw ?hc
  case hw => w_witness2
  case hc =>
    w_strict (
      intro w s₀ s₁ mg mb G Y fa o pm cd doc dV kV ho hd hcd hD hmg hg args vals as hpre hlay hrd hwl hlo
      obtain ⟨K, KX, kay⟩ := Y
      k_behind G ho hd hcd hD hmg hpre hlay hrd hwl hlo cd
      have hI := ‹IntsAre _ _›
      have hLs := ‹Heap.IsList _ _ _›
      have hlen := ‹¬ ((63 : Int) < _)›
      have K0 := ‹Below callerA _ [] _›
      have T := ‹Top vw _ _ _ _ _›
      have F := ‹Fr _ _ _ _›
      refine law_walk (ns := _) ⟨rfl, ⟨K, KX, kay⟩, _, _, _, callerA, _, [], _, K0, T, rfl, rfl, rfl, ⟨hLs, hI, by omega⟩⟩ (room_top _) rfl F (env_plain (ps := psAt 31 1) (vals := [.ref _]) (by kernel_rfl) (by kernel_rfl) (by kernel_rfl) (.cons (.raw _) .nil) (by kernel_rfl) look31) ?_
      intro h' tk' m' F'
      dsimp only
      (k_end; wrow_close))
