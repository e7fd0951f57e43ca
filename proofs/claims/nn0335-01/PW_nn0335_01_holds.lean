import PyProof.Rows.All
import Wide.All
import OpenK.AllK
import Wide.FinOn
import Lean
import PySem.Challenge.RW_nn0335_01
open PySem PySem.W PyProof.Rows PySem.Calls
set_option Elab.async false
set_option maxRecDepth 100000
set_option maxHeartbeats 4000000
set_option linter.unusedVariables false
set_option linter.unusedSimpArgs false
set_option compiler.extract_closed false
namespace Mine
theorem cps_of {s : String} {l : List Nat} (e : s = String.ofList (l.map Char.ofNat)) (h : (l.map Char.ofNat).map Char.toNat = l) : (Str.ofString s).cps.toList = l := by
  rw [congrFun Str.ofString_eq_byList s, e]
  show ((String.ofList (l.map Char.ofNat)).toList.map Char.toNat).toArray.toList = l
  rw [String.toList_ofList]
  exact h
noncomputable def kwText : List Nat := [97, 108, 119, 97, 121, 115, 32, 97, 110, 100, 32, 97, 115, 115, 105, 103, 110, 32, 97, 117, 116, 111, 109, 97, 116, 105, 99, 32, 98, 101, 103, 105, 110, 32, 98, 117, 102, 32, 98, 117, 102, 105, 102, 48, 32, 98, 117, 102, 105, 102, 49, 32, 99, 97, 115, 101, 32, 99, 97, 115, 101, 120, 32, 99, 97, 115, 101, 122, 32, 99, 101, 108, 108, 32, 99, 109, 111, 115, 32, 99, 111, 110, 102, 105, 103, 32, 100, 101, 97, 115, 115, 105, 103, 110, 32, 100, 101, 102, 97, 117, 108, 116, 32, 100, 101, 102, 112, 97, 114, 97, 109, 32, 100, 101, 115, 105, 103, 110, 32, 100, 105, 115, 97, 98, 108, 101, 32, 101, 100, 103, 101, 32, 101, 108, 115, 101, 32, 101, 110, 100, 32, 101, 110, 100, 99, 97, 115, 101, 32, 101, 110, 100, 99, 111, 110, 102, 105, 103, 32, 101, 110, 100, 102, 117, 110, 99, 116, 105, 111, 110, 32, 101, 110, 100, 103, 101, 110, 101, 114, 97, 116, 101, 32, 101, 110, 100, 109, 111, 100, 117, 108, 101, 32, 101, 110, 100, 112, 114, 105, 109, 105, 116, 105, 118, 101, 32, 101, 110, 100, 115, 112, 101, 99, 105, 102, 121, 32, 101, 110, 100, 116, 97, 98, 108, 101, 32, 101, 110, 100, 116, 97, 115, 107, 32, 101, 118, 101, 110, 116, 32, 102, 111, 114, 32, 102, 111, 114, 99, 101, 32, 102, 111, 114, 101, 118, 101, 114, 32, 102, 111, 114, 107, 32, 102, 117, 110, 99, 116, 105, 111, 110, 32, 103, 101, 110, 101, 114, 97, 116, 101, 32, 103, 101, 110, 118, 97, 114, 32, 104, 105, 103, 104, 122, 48, 32, 104, 105, 103, 104, 122, 49, 32, 105, 102, 32, 105, 102, 110, 111, 110, 101, 32, 105, 110, 99, 100, 105, 114, 32, 105, 110, 99, 108, 117, 100, 101, 32, 105, 110, 105, 116, 105, 97, 108, 32, 105, 110, 111, 117, 116, 32, 105, 110, 112, 117, 116, 32, 105, 110, 115, 116, 97, 110, 99, 101, 32, 105, 110, 116, 101, 103, 101, 114, 32, 106, 111, 105, 110, 32, 108, 97, 114, 103, 101, 32, 108, 105, 98, 108, 105, 115, 116, 32, 108, 105, 98, 114, 97, 114, 121, 32, 108, 111, 99, 97, 108, 112, 97, 114, 97, 109, 32, 109, 97, 99, 114, 111, 109, 111, 100, 117, 108, 101, 32, 109, 101, 100, 105, 117, 109, 32, 109, 111, 100, 117, 108, 101, 32, 110, 97, 110, 100, 32, 110, 101, 103, 101, 100, 103, 101, 32, 110, 109, 111, 115, 32, 110, 111, 114, 32, 110, 111, 115, 104, 111, 119, 99, 97, 110, 99, 101, 108, 108, 101, 100, 32, 110, 111, 116, 32, 110, 111, 116, 105, 102, 48, 32, 110, 111, 116, 105, 102, 49, 32, 111, 114, 32, 111, 117, 116, 112, 117, 116, 32, 112, 97, 114, 97, 109, 101, 116, 101, 114, 32, 112, 109, 111, 115, 32, 112, 111, 115, 101, 100, 103, 101, 32, 112, 114, 105, 109, 105, 116, 105, 118, 101, 32, 112, 117, 108, 108, 48, 32, 112, 117, 108, 108, 49, 32, 112, 117, 108, 108, 100, 111, 119, 110, 32, 112, 117, 108, 108, 117, 112, 32, 112, 117, 108, 115, 101, 115, 116, 121, 108, 101, 95, 111, 110, 101, 118, 101, 110, 116, 32, 112, 117, 108, 115, 101, 115, 116, 121, 108, 101, 95, 111, 110, 100, 101, 116, 101, 99, 116, 32, 114, 99, 109, 111, 115, 32, 114, 101, 97, 108, 32, 114, 101, 97, 108, 116, 105, 109, 101, 32, 114, 101, 103, 32, 114, 101, 108, 101, 97, 115, 101, 32, 114, 101, 112, 101, 97, 116, 32, 114, 110, 109, 111, 115, 32, 114, 112, 109, 111, 115, 32, 114, 116, 114, 97, 110, 32, 114, 116, 114, 97, 110, 105, 102, 48, 32, 114, 116, 114, 97, 110, 105, 102, 49, 32, 115, 99, 97, 108, 97, 114, 101, 100, 32, 115, 104, 111, 119, 99, 97, 110, 99, 101, 108, 108, 101, 100, 32, 115, 105, 103, 110, 101, 100, 32, 115, 109, 97, 108, 108, 32, 115, 112, 101, 99, 105, 102, 121, 32, 115, 112, 101, 99, 112, 97, 114, 97, 109, 32, 115, 116, 114, 111, 110, 103, 48, 32, 115, 116, 114, 111, 110, 103, 49, 32, 115, 117, 112, 112, 108, 121, 48, 32, 115, 117, 112, 112, 108, 121, 49, 32, 116, 97, 98, 108, 101, 32, 116, 97, 115, 107, 32, 116, 105, 109, 101, 32, 116, 114, 97, 110, 32, 116, 114, 97, 110, 105, 102, 48, 32, 116, 114, 97, 110, 105, 102, 49, 32, 116, 114, 105, 32, 116, 114, 105, 48, 32, 116, 114, 105, 49, 32, 116, 114, 105, 97, 110, 100, 32, 116, 114, 105, 111, 114, 32, 116, 114, 105, 114, 101, 103, 32, 117, 110, 115, 105, 103, 110, 101, 100, 32, 117, 115, 101, 32, 117, 119, 105, 114, 101, 32, 118, 101, 99, 116, 111, 114, 101, 100, 32, 119, 97, 105, 116, 32, 119, 97, 110, 100, 32, 119, 101, 97, 107, 48, 32, 119, 101, 97, 107, 49, 32, 119, 104, 105, 108, 101, 32, 119, 105, 114, 101, 32, 119, 111, 114, 32, 120, 110, 111, 114, 32, 120, 111, 114]
theorem kw_lit : "always and assign automatic begin buf bufif0 bufif1 case casex casez cell cmos config deassign default defparam design disable edge else end endcase endconfig endfunction endgenerate endmodule endprimitive endspecify endtable endtask event for force forever fork function generate genvar highz0 highz1 if ifnone incdir include initial inout input instance integer join large liblist library localparam macromodule medium module nand negedge nmos nor noshowcancelled not notif0 notif1 or output parameter pmos posedge primitive pull0 pull1 pulldown pullup pulsestyle_onevent pulsestyle_ondetect rcmos real realtime reg release repeat rnmos rpmos rtran rtranif0 rtranif1 scalared showcancelled signed small specify specparam strong0 strong1 supply0 supply1 table task time tran tranif0 tranif1 tri tri0 tri1 triand trior trireg unsigned use uwire vectored wait wand weak0 weak1 while wire wor xnor xor" = String.ofList (kwText.map Char.ofNat) := by kernel_rfl
theorem kw_chars : (kwText.map Char.ofNat).map Char.toNat = kwText := by kernel_rfl
namespace Hd
theorem noRoad_app (lk : Look) : ∀ (a b : List Stmt), noRoadLSs lk (a ++ b) = (noRoadLSs lk a && noRoadLSs lk b)
  | [], _ => rfl
  | s :: r, b => (congrArg (noRoadLS lk s && ·) (noRoad_app lk r b)).trans (Bool.and_assoc _ _ _).symm
theorem noRoad_cut {lk : Look} {l : List Stmt} (k : Nat) (h1 : noRoadLSs lk (l.take k) = true) (h2 : noRoadLSs lk (l.drop k) = true) : noRoadLSs lk l = true := by
  rw [← List.take_append_drop k l, noRoad_app, h1, h2]; rfl
noncomputable abbrev P := PySem.Challenge.rw_nn0335_01.row.prog
theorem strict_is : (!(importedModules P.main.body).all cThrough.contains) = false := by
  have : (importedModules P.main.body).all cThrough.contains = true := by kernel_rfl
  rw [this]; rfl
theorem b1 : (!readsOut P P.main.body "vars") = true := by kernel_rfl
theorem b2 : (!readsOut P P.main.body "dir") = true := by kernel_rfl
theorem b3 : (!readsOut P P.main.body "locals") = true := by kernel_rfl
theorem bare_is (f : PySem.Str → Bool) (h1 : (!f "vars") = true) (h2 : (!f "dir") = true) (h3 : (!f "locals") = true) : (["vars", "dir", "locals"] : List PySem.Str).filter f = [] := by
  simp only [Bool.not_eq_true'] at h1 h2 h3
  simp only [List.filter, h1, h2, h3]
noncomputable abbrev LK0 : Look := { strict := false, foot := none, bare := [] }
theorem mem_of_contains {l : List PySem.Str} {n : PySem.Str} (h1 : (l.all fun f => !f.cps.contains 32) = true) (h2 : n.cps.contains 32 = true) : l.contains n = false := by
  cases h : l.contains n with
  | false => rfl
  | true =>
    have := List.all_eq_true.mp h1 n (List.contains_iff_mem.mp h)
    rw [h2] at this; cases this
noncomputable def roadL (l : List Nat) : Bool := l.any (fun c => c == 123 || c == 125) || l.any (· == 46)
theorem road_of {n : PySem.Str} (h : (!roadL n.cps.toList) = true) : (!roadStr n) = true := by
  unfold roadL at h
  unfold roadStr
  simp only [Bool.not_eq_true', Bool.or_eq_false_iff, Bool.and_eq_false_iff] at h ⊢
  rw [← Array.any_toList, ← Array.any_toList]
  exact ⟨h.1, .inl h.2⟩
theorem str_spaced {n : PySem.Str} (h1 : n.cps.contains 32 = true) (h2' : (!n.opensWith "__") = true) (h3' : (!roadStr n) = true) : LK0.inDef.str n = true := by
  have h2 : n.opensWith "__" = false := by simpa using h2'
  have h3 : roadStr n = false := by simpa using h3'
  unfold Look.str Look.word attrL
  have a : frameAttrs.contains n = false := mem_of_contains (by kernel_rfl) h1
  rw [a, h2, h3]
  cases underscores n <;> rfl
noncomputable def setS (n : PySem.Str) : Stmt → Stmt
  | .FunctionDef a b (.Assign t (.Constant (.str _) k p) q :: r) c d e f g h i => .FunctionDef a b (.Assign t (.Constant (.str n) k p) q :: r) c d e f g h i
  | s => s
noncomputable def getS : List Stmt → PySem.Str
  | [.FunctionDef _ _ (.Assign _ (.Constant (.str n) _ _) _ :: _) _ _ _ _ _ _ _] => n
  | _ => ""
noncomputable abbrev S6 : List Stmt := (P.main.body.drop 6).take 1
theorem q6a (n : PySem.Str) (h : LK0.inDef.str n = true) : noRoadLSs LK0 (S6.map (setS n)) = true := by
  have e : noRoadLSs LK0 (S6.map (setS n)) = ((((((true && (((true && true) && LK0.inDef.str n) && true)) && true) && true) && true)) && true) := by kernel_rfl
  rw [e, h]; rfl
theorem kwE : getS S6 = PySem.Str.ofString (String.ofList (kwText.map Char.ofNat)) := by kernel_rfl
theorem kwN : getS S6 = ⟨⟨kwText⟩⟩ := by
  have e : (getS S6).cps.toList = kwText := by rw [kwE]; exact cps_of rfl kw_chars
  show (⟨⟨(getS S6).cps.toList⟩⟩ : PySem.Str) = _
  rw [e]
theorem q6 : noRoadLSs LK0 S6 = true := by
  have e : S6.map (setS (getS S6)) = S6 := by kernel_rfl
  rw [← e]
  exact q6a _ (by rw [kwN]; exact str_spaced (by kernel_rfl) (by kernel_rfl) (road_of (by kernel_rfl)))
theorem n1 : noRoadLSs LK0 (P.main.body.take 6) = true := by kernel_rfl
theorem n2 : noRoadLSs LK0 ((P.main.body.drop 6).drop 1) = true := by kernel_rfl
theorem nr0 : noRoadLSs LK0 P.main.body = true := by
  refine noRoad_cut 6 n1 ?_
  exact noRoad_cut 1 q6 n2
theorem nr : noRoadLSs { strict := !(importedModules P.main.body).all cThrough.contains, foot := none, bare := (["vars", "dir", "locals"] : List PySem.Str).filter (readsOut P P.main.body) } P.main.body = true := by
  rw [strict_is, bare_is _ b1 b2 b3]; exact nr0
theorem s0 : namesResolve PySem.Challenge.rw_nn0335_01.row.prog = true := by kernel_rfl
theorem s1 : (namesMeet PySem.Challenge.rw_nn0335_01.row.prog PySem.Challenge.rw_nn0335_01.row.prog.main.body fun _ n => attrL n) = true := by kernel_rfl
theorem s2 : noRoadLSs { strict := true, foot := some PySem.Challenge.rw_nn0335_01.bound', writes := PySem.Challenge.rw_nn0335_01.writes, may := PySem.Challenge.rw_nn0335_01.may } PySem.Challenge.rw_nn0335_01.footing = true := by kernel_rfl
theorem s3 : (PySem.Challenge.rw_nn0335_01.bound'.all fun n => !builtinNamed n || PySem.Challenge.rw_nn0335_01.about == [n] || !PySem.Challenge.rw_nn0335_01.reads n) = true := by kernel_rfl
theorem s4 : (namesMeet PySem.Challenge.rw_nn0335_01.prog PySem.Challenge.rw_nn0335_01.footing (fun sc n => (!(["type", "isinstance", "issubclass", "getattr", "hasattr"] : List PySem.Str).contains n || sc.names.lookup n == some .globalImplicit) && (PySem.Challenge.rw_nn0335_01.may != some n || sc.kind == .module || sc.names.lookup n == some .globalImplicit))) = true := by kernel_rfl
theorem s5 : (namesMeet PySem.Challenge.rw_nn0335_01.prog PySem.Challenge.rw_nn0335_01.above fun _ n => !PySem.Challenge.rw_nn0335_01.own.contains n) = true := by kernel_rfl
theorem s6 : (namesMeet PySem.Challenge.rw_nn0335_01.prog PySem.Challenge.rw_nn0335_01.footing fun sc n => sc.kind == .module || sc.names.lookup n != some .globalExplicit) = true := by kernel_rfl
theorem said : OpenLaw.wellSaid PySem.Challenge.rw_nn0335_01 = true := by
  unfold OpenLaw.wellSaid OpenRow.wellSaid OpenRow.partSaid looksOpen
  repeat' (first | with_reducible exact nr | with_reducible exact s0 | with_reducible exact s1 | with_reducible exact s2 | with_reducible exact s3 | with_reducible exact s4 | with_reducible exact s5 | with_reducible exact s6 | with_reducible refine look_both ?_ ?_ | (kernel_rfl))
end Hd
set_option tactic.hygienic false
theorem via {M : Model} {A : Around} {α : Type} {x y : Sem α} {Q : α → Shared → Prop} {E : Value → Shared → Prop} {s : Shared} (e : x = y) (h : wpAny M A y Q E s) : wpAny M A x Q E s := by rw [e]; exact h
theorem via_b {M : Model} {A : Around} {α β : Type} {x y : Sem α} {f : α → Sem β} {Q : β → Shared → Prop} {E : Value → Shared → Prop} {s : Shared} (e : x = y) (h : wpAny M A (y >>= f) Q E s) : wpAny M A (x >>= f) Q E s := by rw [e]; exact h
inductive Cls where | token | lexer | parser
deriving DecidableEq
inductive V where
  | none | bool (b : Bool) | int (i : Int) | str (l : List Nat) | tup (vs : List V)
  | lst (a : Addr) | dct (a : Addr) | inst (c : Cls) (d : Addr) | rng (a b st : Int) | val (v : Value)
noncomputable abbrev S (l : List Nat) : Str := ⟨l.toArray⟩
structure Cx where
  prog : Program
  w : World
  g : Heap
  os : OsState
  K : Frag
  C : Cls → Addr
  mg : Str → Option Value
  mb : Str → Option Value
noncomputable abbrev tupObj (items : List Value) (n : Nat) : Obj := { cls := .type "tuple", data := .seq items.toArray n }
noncomputable abbrev lstObj (items : List Value) (n : Nat) : Obj := { cls := .type "list", data := .seq items.toArray n }
mutual
noncomputable def Rep (C : Cls → Addr) (h : Heap) : V → Value → Prop
  | .none, v => v = .none
  | .bool b, v => v = .bool b
  | .int i, v => ∃ t, v = .int i t
  | .str l, v => ∃ t, v = .str (S l) t
  | .tup vs, v => ∃ a items n, v = .ref a ∧ h.get? a = some (tupObj items n) ∧ RepL C h vs items
  | .lst a, v => v = .ref a
  | .dct a, v => v = .ref a
  | .inst c d, v => ∃ a, v = .ref a ∧ h.get? a = some (instObj (C c) d)
  | .rng lo hi st, v => ∃ a t u x, v = .ref a ∧ IsRange h a lo hi st t u x
  | .val x, v => v = x ∧ ∀ a, v ≠ .ref a
noncomputable def RepL (C : Cls → Addr) (h : Heap) : List V → List Value → Prop
  | [], vs => vs = []
  | x :: r, vs => ∃ v vs', vs = v :: vs' ∧ Rep C h x v ∧ RepL C h r vs'
end
noncomputable def Solid (o : Obj) : Prop := (o.cls = .type "tuple" ∧ ∃ xs n, o.data = .seq xs n) ∨ (o.cls = .type "range" ∧ ∃ vs, o.data = .fields vs) ∨ ((∃ a, o.cls = .ref a) ∧ o.data = .plain)
theorem Solid.not_dict {o : Obj} {es n} (h : o.data = .dict es n) : ¬ Solid o := by
  rintro (⟨_, xs, k, e⟩ | ⟨_, vs, e⟩ | ⟨_, e⟩) <;> (rw [h] at e; cases e)
theorem Solid.not_cell {o : Obj} {v} (h : o.data = .cell v) : ¬ Solid o := by
  rintro (⟨_, xs, k, e⟩ | ⟨_, vs, e⟩ | ⟨_, e⟩) <;> (rw [h] at e; cases e)
theorem Solid.not_list {o : Obj} {xs n} (h : o.data = .seq xs n) (hc : o.cls = .type "list") : ¬ Solid o := by
  rintro (⟨e, _⟩ | ⟨_, vs, e⟩ | ⟨_, e⟩)
  · rw [hc] at e; exact absurd (Value.type.inj e) (by decide)
  · rw [h] at e; cases e
  · rw [h] at e; cases e
mutual
theorem Rep.keeps {C : Cls → Addr} {h h' : Heap} (k : ∀ a o, h.get? a = some o → Solid o → h'.get? a = some o) : ∀ {x : V} {v : Value}, Rep C h x v → Rep C h' x v
  | .none, _, r => r
  | .bool _, _, r => r
  | .int _, _, r => r
  | .str _, _, r => r
  | .tup vs, _, r => by
    obtain ⟨a, items, n, e, ho, l⟩ := r
    exact ⟨a, items, n, e, k _ _ ho (.inl ⟨rfl, _, _, rfl⟩), RepL.keeps k l⟩
  | .lst _, _, r => r
  | .dct _, _, r => r
  | .inst _ _, _, r => by
    obtain ⟨a, e, ho⟩ := r
    exact ⟨a, e, k _ _ ho (.inr (.inr ⟨⟨_, rfl⟩, rfl⟩))⟩
  | .rng _ _ _, _, r => by
    obtain ⟨a, t, u, x, e, ho⟩ := r
    exact ⟨a, t, u, x, e, k _ _ ho (.inr (.inl ⟨rfl, _, rfl⟩))⟩
  | .val _, _, r => r
theorem RepL.keeps {C : Cls → Addr} {h h' : Heap} (k : ∀ a o, h.get? a = some o → Solid o → h'.get? a = some o) : ∀ {x : List V} {v : List Value}, RepL C h x v → RepL C h' x v
  | [], _, r => r
  | _ :: _, _, r => by
    obtain ⟨v, vs', e, a, b⟩ := r
    exact ⟨v, vs', e, Rep.keeps k a, RepL.keeps k b⟩
end
theorem RepL.length {C : Cls → Addr} {h : Heap} : ∀ {x : List V} {v : List Value}, RepL C h x v → v.length = x.length
  | [], _, r => by obtain rfl := r; rfl
  | _ :: _, _, r => by
    obtain ⟨v, vs', e, a, b⟩ := r
    rw [e, List.length_cons, b.length, List.length_cons]
theorem RepL.append {C : Cls → Addr} {h : Heap} : ∀ {x y : List V} {v u : List Value}, RepL C h x v → RepL C h y u → RepL C h (x ++ y) (v ++ u)
  | [], _, _, _, r, q => by obtain rfl := r; exact q
  | _ :: _, _, _, _, r, q => by
    obtain ⟨v, vs', e, a, b⟩ := r
    rw [e, List.cons_append]
    show ∃ _ _, _
    exact ⟨v, _, rfl, a, b.append q⟩
theorem RepL.get {C : Cls → Addr} {h : Heap} : ∀ {x : List V} {v : List Value} {i : Nat} {a : V}, RepL C h x v → x[i]? = some a → ∃ u, v[i]? = some u ∧ Rep C h a u
  | [], _, _, _, _, q => by simp at q
  | _ :: _, _, 0, _, r, q => by
    obtain ⟨v, vs', e, a, b⟩ := r
    simp only [List.getElem?_cons_zero, Option.some.injEq] at q
    subst q
    rw [e]; exact ⟨v, rfl, a⟩
  | _ :: _, _, i + 1, _, r, q => by
    obtain ⟨v, vs', e, a, b⟩ := r
    rw [List.getElem?_cons_succ] at q
    obtain ⟨u, h1, h2⟩ := b.get q
    rw [e]; exact ⟨u, by rw [List.getElem?_cons_succ]; exact h1, h2⟩
inductive AO where
  | list (vs : List V)
  | ns (m : List (Str × V))
  | map (ks : List (List Nat))
noncomputable def RepNs (P : Params) (C : Cls → Addr) (h : Heap) : List (Str × V) → List DictEntry → Prop
  | [], es => es = []
  | (x, v) :: r, es => ∃ e es', es = e :: es' ∧ (∃ t, e.key = .str x t) ∧ e.hash = PyData.keyHash P x ∧ Rep C h v e.val ∧ RepNs P C h r es'
theorem RepNs.keeps {P : Params} {C : Cls → Addr} {h h' : Heap} (k : ∀ a o, h.get? a = some o → Solid o → h'.get? a = some o) : ∀ {x : List (Str × V)} {v : List DictEntry}, RepNs P C h x v → RepNs P C h' x v
  | [], _, r => r
  | (_, _) :: _, _, r => by
    obtain ⟨e, es', q, a, b, d, f⟩ := r
    exact ⟨e, es', q, a, b, d.keeps k, f.keeps k⟩
noncomputable def RepO (c : Cx) (h : Heap) (a : Addr) : AO → Prop
  | .list vs => ∃ items n, h.get? a = some (lstObj items n) ∧ RepL c.C h vs items
  | .ns m => ∃ es n, h.get? a = some (dictOf es n) ∧ RepNs c.w.params c.C h m es
  | .map ks => ∃ kvs, h.DictOf (strKind c.prog c.w) a kvs ∧ kvs.length ≤ ks.length ∧ ∀ x, (valueAt kvs (S x)).isSome = ks.contains x
theorem RepO_list {c : Cx} {h : Heap} {a : Addr} {vs : List V} {items : List Value} {n : Nat} (ho : h.get? a = some (lstObj items n)) (r : RepL c.C h vs items) : RepO c h a (.list vs) := ⟨items, n, ho, r⟩
theorem RepO_ns {c : Cx} {h : Heap} {a : Addr} {m : List (Str × V)} {es : List DictEntry} {n : Nat} (ho : h.get? a = some (dictOf es n)) (r : RepNs c.w.params c.C h m es) : RepO c h a (.ns m) := ⟨es, n, ho, r⟩
theorem RepO.soft {c : Cx} {h : Heap} {a : Addr} {ao : AO} (r : RepO c h a ao) : ∃ o, h.get? a = some o ∧ ¬ Solid o := by
  cases ao with
  | list vs =>
    obtain ⟨items, n, ho, _⟩ := r
    exact ⟨_, ho, Solid.not_list rfl rfl⟩
  | ns m =>
    obtain ⟨es, n, ho, _⟩ := r
    exact ⟨_, ho, Solid.not_dict rfl⟩
  | map ks =>
    obtain ⟨kvs, ⟨o, es, ep, ho, _, hd, _⟩, _⟩ := r
    exact ⟨o, ho, Solid.not_dict hd⟩
theorem RepO.keeps {c : Cx} {h h' : Heap} {a : Addr} {ao : AO} (r : RepO c h a ao) (ka : ∀ o, h.get? a = some o → h'.get? a = some o) (k : ∀ a o, h.get? a = some o → Solid o → h'.get? a = some o) : RepO c h' a ao := by
  cases ao with
  | list vs =>
    obtain ⟨items, n, ho, l⟩ := r
    exact ⟨items, n, ka _ ho, l.keeps k⟩
  | ns m =>
    obtain ⟨es, n, ho, l⟩ := r
    exact ⟨es, n, ka _ ho, l.keeps k⟩
  | map ks =>
    obtain ⟨kvs, ⟨o, es, ep, ho, z⟩, l⟩ := r
    exact ⟨kvs, ⟨o, es, ep, ka _ ho, z⟩, l⟩
theorem Rep_int {C : Cls → Addr} {h : Heap} {i : Int} {t : Tok} : Rep C h (.int i) (.int i t) := ⟨t, rfl⟩
theorem Rep_str {C : Cls → Addr} {h : Heap} {l : List Nat} {t : Tok} : Rep C h (.str l) (.str (S l) t) := ⟨t, rfl⟩
theorem Rep_bool {C : Cls → Addr} {h : Heap} {b : Bool} : Rep C h (.bool b) (.bool b) := rfl
theorem Rep_none {C : Cls → Addr} {h : Heap} : Rep C h .none .none := rfl
theorem Rep_lst {C : Cls → Addr} {h : Heap} {a : Addr} : Rep C h (.lst a) (.ref a) := rfl
theorem Rep_dct {C : Cls → Addr} {h : Heap} {a : Addr} : Rep C h (.dct a) (.ref a) := rfl
theorem Rep_val {C : Cls → Addr} {h : Heap} {v : Value} (hv : ∀ a, v ≠ .ref a) : Rep C h (.val v) v := ⟨rfl, hv⟩
noncomputable abbrev Store := Addr → Option AO
structure Base (c : Cx) (σ : Store) (s : Shared) : Prop where
  ground : ∀ b o, c.g.get? b = some o → s.heap.get? b = some o
  objs : ∀ a ao, σ a = some ao → RepO c s.heap a ao
  off : ∀ a ao, σ a = some ao → c.g.get? a = none
  gens : s.gens = #[]
  os : s.os = c.os
theorem Base.solid {c : Cx} {σ : Store} {s : Shared} (B : Base c σ s) {a : Addr} {o : Obj} (ho : s.heap.get? a = some o) (so : Solid o) : σ a = none := by
  cases q : σ a with
  | none => rfl
  | some ao =>
    obtain ⟨o', h1, h2⟩ := (B.objs a ao q).soft
    rw [ho] at h1; cases h1
    exact absurd so h2
theorem Base.fresh {c : Cx} {σ : Store} {s : Shared} (B : Base c σ s) {a : Addr} (h : s.heap.get? a = none) : σ a = none := by
  cases q : σ a with
  | none => rfl
  | some ao => obtain ⟨o', h1, _⟩ := (B.objs a ao q).soft; rw [h] at h1; cases h1
theorem get_size (h : Heap) : h.get? h.objs.size = none := by
  cases q : h.get? h.objs.size with
  | none => rfl
  | some o => exact absurd (Heap.lt_size q) (Nat.lt_irrefl _)
structure Stp (c : Cx) (X : Addr → Prop) (σ : Store) (s : Shared) (σ' : Store) (s' : Shared) : Prop where
  base : Base c σ' s'
  live : ∀ a, s.heap.get? a ≠ none → s'.heap.get? a ≠ none
  keep : ∀ a o, s.heap.get? a = some o → σ a = none → ¬ X a → s'.heap.get? a = some o
  grow : ∀ a, σ' a ≠ none → σ a ≠ none ∨ s.heap.get? a = none
theorem Stp.refl {c : Cx} {X : Addr → Prop} {σ : Store} {s : Shared} (B : Base c σ s) : Stp c X σ s σ s := ⟨B, fun _ h => h, fun _ _ e _ _ => e, fun _ h => .inl h⟩
theorem some_ne {α : Type} {x : Option α} {o : α} (e : x = some o) : x ≠ none := by rw [e]; exact fun z => by cases z
theorem Stp.trans {c : Cx} {X : Addr → Prop} {σ σ₁ σ₂ : Store} {s s₁ s₂ : Shared} (x : Stp c X σ s σ₁ s₁) (y : Stp c X σ₁ s₁ σ₂ s₂) : Stp c X σ s σ₂ s₂ :=
  ⟨y.base, fun a h => y.live a (x.live a h), fun a o e h1 h2 => y.keep a o (x.keep a o e h1 h2) (by
      cases q : σ₁ a with
      | none => rfl
      | some ao =>
        rcases x.grow a (some_ne q) with z | z
        · exact absurd h1 z
        · rw [e] at z; cases z) h2,
    fun a h => by
      rcases y.grow a h with z | z
      · exact x.grow a z
      · cases q : s.heap.get? a with
        | none => exact .inr rfl
        | some o => exact absurd z (x.live a (some_ne q))⟩
theorem Stp.wide {c : Cx} {X Y : Addr → Prop} {σ σ' : Store} {s s' : Shared} (x : Stp c X σ s σ' s') (h : ∀ a, X a → Y a) : Stp c Y σ s σ' s' :=
  ⟨x.base, x.live, fun a o e h1 h2 => x.keep a o e h1 fun z => h2 (h a z), x.grow⟩
theorem Stp.toks {c : Cx} {X : Addr → Prop} {σ σ' : Store} {s s' : Shared} (x : Stp c X σ s σ' s') (t : Nat) : Stp c X σ s σ' { s' with toks := t } :=
  ⟨⟨x.base.ground, x.base.objs, x.base.off, x.base.gens, x.base.os⟩, x.live, x.keep, x.grow⟩
noncomputable abbrev noX : Addr → Prop := fun _ => False
theorem Stp.solid {c : Cx} {X : Addr → Prop} {σ σ' : Store} {s s' : Shared} (x : Stp c X σ s σ' s') (B : Base c σ s) (hX : ∀ a o, X a → s.heap.get? a = some o → ¬ Solid o) : ∀ a o, s.heap.get? a = some o → Solid o → s'.heap.get? a = some o :=
  fun a o e so => x.keep a o e (B.solid e so) fun z => hX a o z e so
theorem Stp.solid0 {c : Cx} {σ σ' : Store} {s s' : Shared} (x : Stp c noX σ s σ' s') (B : Base c σ s) : ∀ a o, s.heap.get? a = some o → Solid o → s'.heap.get? a = some o :=
  x.solid B fun _ _ z => z.elim
theorem Stp.grown {c : Cx} {σ : Store} {s s' : Shared} (B : Base c σ s) (k : ∀ a o, s.heap.get? a = some o → s'.heap.get? a = some o) (hg : s'.gens = s.gens) (ho : s'.os = s.os) : Stp c noX σ s σ s' :=
  ⟨⟨fun b o e => k _ _ (B.ground b o e), fun a ao e => (B.objs a ao e).keeps (fun o q => k _ _ q) fun a o q _ => k _ _ q, B.off, hg.trans B.gens, ho.trans B.os⟩, fun a h => by
    cases q : s.heap.get? a with
    | none => exact absurd q h
    | some o => exact some_ne (k _ _ q), fun a o e _ _ => k _ _ e, fun a h => .inl h⟩
noncomputable def Store.set (σ : Store) (a : Addr) (ao : AO) : Store := fun b => if b = a then some ao else σ b
noncomputable def Store.del (σ : Store) (a : Addr) : Store := fun b => if b = a then none else σ b
@[simp] theorem Store.set_self (σ : Store) (a : Addr) (ao : AO) : σ.set a ao a = some ao := if_pos rfl
theorem Store.set_ne (σ : Store) {a b : Addr} (ao : AO) (h : b ≠ a) : σ.set a ao b = σ b := if_neg h
@[simp] theorem Store.set_set (σ : Store) (a : Addr) (x y : AO) : (σ.set a x).set a y = σ.set a y := by
  funext b; unfold Store.set; split <;> rfl
theorem Stp.new {c : Cx} {σ : Store} {s s' : Shared} {a : Addr} {ao : AO} (x : Stp c noX σ s σ s') (ha : s.heap.get? a = none) (r : RepO c s'.heap a ao) (ha' : c.g.get? a = none) : Stp c noX σ s (σ.set a ao) s' :=
  ⟨⟨x.base.ground, fun b bo e => by
      by_cases q : b = a
      · subst q; rw [Store.set_self] at e; cases e; exact r
      · rw [Store.set_ne _ _ q] at e; exact x.base.objs b bo e,
    fun b bo e => by
      by_cases q : b = a
      · subst q; exact ha'
      · rw [Store.set_ne _ _ q] at e; exact x.base.off b bo e, x.base.gens, x.base.os⟩, x.live, x.keep, fun b h => by
      by_cases q : b = a
      · subst q; exact .inr ha
      · rw [Store.set_ne _ _ q] at h; exact .inl h⟩
theorem Base.off_new {c : Cx} {σ : Store} {s : Shared} (B : Base c σ s) {a : Addr} (h : s.heap.get? a = none) : c.g.get? a = none := by
  cases q : c.g.get? a with
  | none => rfl
  | some o => rw [B.ground a o q] at h; cases h
theorem Stp.put {c : Cx} {σ : Store} {s s' : Shared} {a : Addr} {ao₀ ao : AO} (B : Base c σ s) (h0 : σ a = some ao₀) (sb : Heap.SameBut a s.heap s'.heap) (r : (∀ b o, s.heap.get? b = some o → Solid o → s'.heap.get? b = some o) → RepO c s'.heap a ao) (hg : s'.gens = s.gens) (ho : s'.os = s.os) : Stp c noX σ s (σ.set a ao) s' := by
  have so : ∀ b o, s.heap.get? b = some o → Solid o → s'.heap.get? b = some o := fun b o e q => by
    have : b ≠ a := fun z => by
      have := B.solid e q
      rw [z, h0] at this; cases this
    exact (sb.2 b this).trans e
  refine ⟨⟨fun b o e => ?_, fun b bo e => ?_, fun b bo e => ?_, hg.trans B.gens, ho.trans B.os⟩, fun b h => ?_, fun b o e h1 _ => ?_, fun b h => ?_⟩
  · have : b ≠ a := fun z => by have := B.off a _ h0; rw [← z, e] at this; cases this
    exact (sb.2 b this).trans (B.ground b o e)
  · by_cases q : b = a
    · subst q; rw [Store.set_self] at e; cases e; exact r so
    · rw [Store.set_ne _ _ q] at e
      exact (B.objs b bo e).keeps (fun o z => (sb.2 b q).trans z) so
  · by_cases q : b = a
    · subst q; exact B.off _ _ h0
    · rw [Store.set_ne _ _ q] at e; exact B.off b bo e
  · by_cases q : b = a
    · subst q; obtain ⟨o, e, _⟩ := (r so).soft; exact some_ne e
    · rw [sb.2 b q]; exact h
  · have : b ≠ a := fun z => by rw [z, h0] at h1; cases h1
    exact (sb.2 b this).trans e
  · by_cases q : b = a
    · subst q; exact .inl (by rw [h0]; exact fun z => by cases z)
    · rw [Store.set_ne _ _ q] at h; exact .inl h
theorem Stp.drop {c : Cx} {X : Addr → Prop} {σ σ' : Store} {s s' : Shared} (x : Stp c X σ s σ' s') (a : Addr) : Stp c X σ s (σ'.del a) s' :=
  ⟨⟨x.base.ground, fun b bo e => by unfold Store.del at e; split at e; cases e; exact x.base.objs b bo e, fun b bo e => by unfold Store.del at e; split at e; cases e; exact x.base.off b bo e, x.base.gens, x.base.os⟩, x.live, x.keep,
    fun b h => x.grow b (by unfold Store.del at h; split at h; exact absurd rfl h; exact h)⟩
noncomputable abbrev Locals := List (Str × V)
noncomputable def lk (x : Str) : Locals → Option V
  | [] => none
  | (y, v) :: r => if x = y then some v else lk x r
structure EnvOK (env : Env) (sc : Scope) : Prop where
  scope : env.scope = sc
  kind : sc.kind = .function
  globals : env.globals = mainGlobals
  builtins : env.builtins = builtinsNs
  cells : ∀ x, sc.names.lookup x = some .cell → ∃ k, env.cells.lookup x = some k
noncomputable def FX (env : Env) : Addr → Prop := fun a => a = env.locals ∨ ∃ x, env.cells.lookup x = some a
noncomputable def NameAt (C : Cls → Addr) (h : Heap) (env : Env) (m : Str → Option Value) (x : Str) (u : V) : Prop :=
  (x == ("__debug__" : Str)) = false ∧ ∃ v, Rep C h u v ∧ ((env.kindOf x = some .local ∧ m x = some v) ∨ ((env.kindOf x = some .cell ∨ (env.kindOf x = some .free ∧ (x == ("__classdict__" : Str)) = false)) ∧ ∃ k, env.cells.lookup x = some k ∧ h.IsCell k (some v)))
structure Loc (c : Cx) (env : Env) (ρ : Locals) (σ : Store) (s : Shared) : Prop where
  at_ : ∃ m, s.heap.Ns env.locals m ∧ ∀ x u, lk x ρ = some u → NameAt c.C s.heap env m x u
  cell : ∀ x k, env.cells.lookup x = some k → ∃ v, s.heap.IsCell k v
  inj : ∀ x y k, env.cells.lookup x = some k → env.cells.lookup y = some k → x = y
  off : ∀ a, FX env a → σ a = none ∧ c.g.get? a = none
theorem Loc.soft {c : Cx} {env : Env} {ρ : Locals} {σ : Store} {s : Shared} (L : Loc c env ρ σ s) : ∀ a o, FX env a → s.heap.get? a = some o → ¬ Solid o := by
  intro a o h e
  rcases h with rfl | ⟨x, h⟩
  · obtain ⟨m, ⟨o', es, ep, ho, hd, _⟩, _⟩ := L.at_
    rw [e] at ho; cases ho
    exact Solid.not_dict hd
  · obtain ⟨v, o', ho, hd⟩ := L.cell x a h
    rw [e] at ho; cases ho
    exact Solid.not_cell hd
theorem NameAt.keeps {C : Cls → Addr} {h h' : Heap} {env : Env} {m : Str → Option Value} {x : Str} {u : V} (n : NameAt C h env m x u)
    (k : ∀ a o, h.get? a = some o → Solid o → h'.get? a = some o) (kc : ∀ a o, (∃ x, env.cells.lookup x = some a) → h.get? a = some o → h'.get? a = some o) : NameAt C h' env m x u := by
  obtain ⟨hd, v, r, z⟩ := n
  refine ⟨hd, v, r.keeps k, z.imp id fun ⟨z1, q, z2, o, ho, hd⟩ => ⟨z1, q, z2, o, kc _ _ ⟨x, z2⟩ ho, hd⟩⟩
theorem Loc.step {c : Cx} {env : Env} {ρ : Locals} {σ σ' : Store} {s s' : Shared} (L : Loc c env ρ σ s) (B : Base c σ s) (x : Stp c noX σ s σ' s') : Loc c env ρ σ' s' := by
  have kF : ∀ a o, FX env a → s.heap.get? a = some o → s'.heap.get? a = some o := fun a o h e => x.keep a o e (L.off a h).1 id
  refine ⟨?_, fun y k h => ?_, L.inj, fun a h => ⟨?_, (L.off a h).2⟩⟩
  · obtain ⟨m, ⟨o, es, ep, ho, r⟩, hm⟩ := L.at_
    exact ⟨m, ⟨o, es, ep, kF _ _ (.inl rfl) ho, r⟩, fun y u e => (hm y u e).keeps (x.solid0 B) fun a o h e => kF a o (.inr h) e⟩
  · obtain ⟨v, o, ho, hd⟩ := L.cell y k h
    exact ⟨v, o, kF _ _ (.inr ⟨y, h⟩) ho, hd⟩
  · cases q : σ' a with
    | none => rfl
    | some ao =>
      rcases x.grow a (by rw [q]; exact fun z => by cases z) with z | z
      · exact absurd (L.off a h).1 z
      · rcases h with rfl | ⟨y, h⟩
        · obtain ⟨m, ⟨o, _, _, e, _⟩, _⟩ := L.at_; rw [z] at e; cases e
        · obtain ⟨v, o, e, _⟩ := L.cell y a h; rw [z] at e; cases e
structure Room (A : Around) (d : Nat) : Prop where
  handled : A.handled = none
  depth : A.depth + 2 * d ≤ 980
  units : A.units + 12 * d ≤ 9800
theorem Room.less {A : Around} {d e : Nat} (r : Room A d) (h : e ≤ d) : Room A e := ⟨r.handled, by have := r.depth; omega, by have := r.units; omega⟩
inductive Post (c : Cx) (σ : Store) (s : Shared) (Q : V → Store → Prop) (v : Value) (s' : Shared) : Prop | mk (u : V) (σ' : Store) (r : Rep c.C s'.heap u v) (st : Stp c noX σ s σ' s') (q : Q u σ')
inductive PostL (c : Cx) (σ : Store) (s : Shared) (Q : List V → Store → Prop) (v : List Value) (s' : Shared) : Prop | mk (u : List V) (σ' : Store) (r : RepL c.C s'.heap u v) (st : Stp c noX σ s σ' s') (q : Q u σ')
inductive PostB (c : Cx) (σ : Store) (s : Shared) (Q : Bool → Store → Prop) (v : Bool) (s' : Shared) : Prop | mk (σ' : Store) (st : Stp c noX σ s σ' s') (q : Q v σ')
inductive Fl where | next | brk | cont | ret (v : V)
noncomputable def RepF (C : Cls → Addr) (h : Heap) : Fl → Flow → Prop
  | .next, f => f = .next
  | .brk, f => f = .brk
  | .cont, f => f = .cont
  | .ret u, f => ∃ v, f = .ret v ∧ Rep C h u v
inductive PostS (c : Cx) (env : Env) (σ : Store) (s : Shared) (Q : Fl → Locals → Store → Prop) (f : Flow) (s' : Shared) : Prop
  | mk (fl : Fl) (ρ' : Locals) (σ' : Store) (r : RepF c.C s'.heap fl f) (st : Stp c (FX env) σ s σ' s') (l : Loc c env ρ' σ' s') (q : Q fl ρ' σ')
noncomputable abbrev noE : Value → Shared → Prop := fun _ _ => False
@[irreducible] noncomputable def WE (c : Cx) (d : Nat) (sc : Scope) (e : Expr) (ρ : Locals) (σ : Store) (Q : V → Store → Prop) : Prop :=
  ∀ A env s, Room A d → EnvOK env sc → Base c σ s → Loc c env ρ σ s → wpAny (model c.prog c.w) A (eval e env) (Post c σ s Q) noE s
@[irreducible] noncomputable def WL (c : Cx) (d : Nat) (sc : Scope) (es : List Expr) (ρ : Locals) (σ : Store) (Q : List V → Store → Prop) : Prop :=
  ∀ A env s, Room A d → EnvOK env sc → Base c σ s → Loc c env ρ σ s → ∀ pos, wpAny (model c.prog c.w) A (spliced (backTo pos (starEach es env))) (PostL c σ s Q) noE s
@[irreducible] noncomputable def WT (c : Cx) (d : Nat) (sc : Scope) (e : Expr) (ρ : Locals) (σ : Store) (Q : Bool → Store → Prop) : Prop :=
  ∀ A env s, Room A d → EnvOK env sc → Base c σ s → Loc c env ρ σ s → wpAny (model c.prog c.w) A (isTrue e env (eval e env)) (PostB c σ s Q) noE s
@[irreducible] noncomputable def WS (c : Cx) (d : Nat) (sc : Scope) (st : Stmt) (ρ : Locals) (σ : Store) (Q : Fl → Locals → Store → Prop) : Prop :=
  ∀ A env s, Room A d → EnvOK env sc → Base c σ s → Loc c env ρ σ s → wpAny (model c.prog c.w) A (exec st env) (PostS c env σ s Q) noE s
@[irreducible] noncomputable def WB (c : Cx) (d : Nat) (sc : Scope) (st : List Stmt) (ρ : Locals) (σ : Store) (Q : Fl → Locals → Store → Prop) : Prop :=
  ∀ A env s, Room A d → EnvOK env sc → Base c σ s → Loc c env ρ σ s → wpAny (model c.prog c.w) A (execs st env) (PostS c env σ s Q) noE s
@[irreducible] noncomputable def CV (c : Cx) (d : Nat) (f : Value) (args : List V) (σ : Store) (Q : V → Store → Prop) : Prop :=
  ∀ A s vs, Room A d → Base c σ s → RepL c.C s.heap args vs → wpAny (model c.prog c.w) A (call f vs) (Post c σ s Q) noE s
set_option tactic.hygienic true
theorem S_append (a b : List Nat) : S a ++ S b = S (a ++ b) := by
  show Str.append _ _ = _
  simp [Str.append]
theorem S_length (a : List Nat) : (S a).length = a.length := by simp [Str.length]
theorem S_inj {a b : List Nat} (h : S a = S b) : a = b := by
  have := congrArg (fun s : Str => s.cps.toList) h
  simpa [S] using this
theorem S_beq (a b : List Nat) : (S a == S b) = decide (a = b) := by
  rw [Bool.eq_iff_iff, beq_iff_eq, decide_eq_true_eq]
  exact ⟨S_inj, fun h => by rw [h]⟩
theorem S_toList (x : Str) : S x.cps.toList = x := by cases x; simp [S]
inductive BinP : Operator → V → V → (V → Prop) → Prop
  | add {a b : Int} {k : V → Prop} (h : k (.int (a + b))) : BinP .Add (.int a) (.int b) k
  | sub {a b : Int} {k : V → Prop} (h : k (.int (a - b))) : BinP .Sub (.int a) (.int b) k
  | mul {a b : Int} {k : V → Prop} (h0 : IntMulOk a b) (h : k (.int (a * b))) : BinP .Mult (.int a) (.int b) k
  | fdiv {a b : Int} {k : V → Prop} (h0 : b ≠ 0) (h1 : Builtin.divisionGoesByPylong a b = false) (h : k (.int (a.fdiv b))) : BinP .FloorDiv (.int a) (.int b) k
  | fmod {a b : Int} {k : V → Prop} (h0 : b ≠ 0) (h : k (.int (a.fmod b))) : BinP .Mod (.int a) (.int b) k
  | shl {a b : Int} {k : V → Prop} (h0 : 0 ≤ b ∧ (Builtin.Int.intBits a : Int) + b ≤ 2 ^ 27) (h : k (.int (a * 2 ^ b.toNat))) : BinP .LShift (.int a) (.int b) k
  | shr {a b : Int} {k : V → Prop} (h0 : 0 ≤ b) (h : k (.int (a.fdiv (2 ^ b.toNat)))) : BinP .RShift (.int a) (.int b) k
  | band {a b : Int} {k : V → Prop} (h : k (.int (Builtin.bitAnd a b))) : BinP .BitAnd (.int a) (.int b) k
  | bor {a b : Int} {k : V → Prop} (h : k (.int (Builtin.bitOr a b))) : BinP .BitOr (.int a) (.int b) k
  | bxor {a b : Int} {k : V → Prop} (h : k (.int (Builtin.bitXor a b))) : BinP .BitXor (.int a) (.int b) k
  | pow {a b : Int} {k : V → Prop} (h0 : b ≥ 0 ∧ ¬(b == 0) = true ∧ ¬(a == 0 || a == 1) = true ∧ ¬(a == -1) = true ∧ ¬Builtin.Int.intTooBig (((Builtin.Int.intBits a : Nat) : Int) * b) = true) (h : k (.int (a ^ b.toNat))) : BinP .Pow (.int a) (.int b) k
  | addS {a b : List Nat} {k : V → Prop} (h0 : a.length + b.length ≤ sizeLine) (h : k (.str (a ++ b))) : BinP .Add (.str a) (.str b) k
  | addT {a b : List V} {k : V → Prop} (h0 : a ≠ [] ∧ b ≠ [] ∧ a.length + b.length ≤ sizeLine) (h : k (.tup (a ++ b))) : BinP .Add (.tup a) (.tup b) k
section
variable {c : Cx} {σ : Store} {s : Shared} {A : Around}
theorem Post.tok {Q : V → Store → Prop} {u : V} {v : Value} {n : Nat} (B : Base c σ s) (r : Rep c.C s.heap u v) (q : Q u σ) : Post c σ s Q v { s with toks := n } :=
  ⟨u, σ, r, (Stp.refl B).toks n, q⟩
theorem Post.here {Q : V → Store → Prop} {u : V} {v : Value} (B : Base c σ s) (r : Rep c.C s.heap u v) (q : Q u σ) : Post c σ s Q v s :=
  ⟨u, σ, r, Stp.refl B, q⟩
theorem Stp.push {c : Cx} {σ : Store} {s : Shared} (B : Base c σ s) (o : Obj) : Stp c noX σ s σ { s with heap := s.heap.push o } :=
  Stp.grown B (fun a o' e => Heap.get?_push_of_some _ e) rfl rfl
theorem Rep.push {C : Cls → Addr} {h : Heap} {u : V} {v : Value} (r : Rep C h u v) (o : Obj) : Rep C (h.push o) u v := r.keeps fun _ _ e _ => Heap.get?_push_of_some _ e
theorem RepL.push {C : Cls → Addr} {h : Heap} {u : List V} {v : List Value} (r : RepL C h u v) (o : Obj) : RepL C (h.push o) u v := r.keeps fun _ _ e _ => Heap.get?_push_of_some _ e
theorem Post.tuple {Q : V → Store → Prop} {us : List V} {vs : List Value} {n : Nat} (B : Base c σ s) (r : RepL c.C s.heap us vs) (q : Q (.tup us) σ) : Post c σ s Q (.ref s.heap.objs.size) { s with heap := s.heap.push (tupObj vs n) } :=
  ⟨.tup us, σ, ⟨_, vs, n, rfl, Heap.get?_push_size _ rfl, r.push _⟩, Stp.push B _, q⟩
theorem BinP_ok {op : Operator} {a b : V} {Q : V → Store → Prop} (h : BinP op a b fun v => Q v σ) (R : Room A 0) (B : Base c σ s) {va vb : Value} (ra : Rep c.C s.heap a va) (rb : Rep c.C s.heap b vb) :
    wpAny (model c.prog c.w) A (binaryOp op va vb) (Post c σ s Q) noE s := by
  have e : BinP op a b fun v => Q v σ := h
  clear h
  generalize hk : (fun v => Q v σ) = k at e
  induction e with
  | add h => subst hk; obtain ⟨t, rfl⟩ := ra; obtain ⟨u, rfl⟩ := rb; exact add_int (Post.tok B Rep_int h)
  | sub h => subst hk; obtain ⟨t, rfl⟩ := ra; obtain ⟨u, rfl⟩ := rb; exact sub_int (Post.tok B Rep_int h)
  | mul h0 h => subst hk; obtain ⟨t, rfl⟩ := ra; obtain ⟨u, rfl⟩ := rb; exact mul_int (Post.tok B Rep_int h) h0
  | fdiv h0 h1 h => subst hk; obtain ⟨t, rfl⟩ := ra; obtain ⟨u, rfl⟩ := rb; exact floordiv_int h0 (Post.tok B Rep_int h) (.inl h1)
  | fmod h0 h => subst hk; obtain ⟨t, rfl⟩ := ra; obtain ⟨u, rfl⟩ := rb; exact mod_int' h0 (Post.tok B Rep_int h)
  | shl h0 h => subst hk; obtain ⟨t, rfl⟩ := ra; obtain ⟨u, rfl⟩ := rb; exact lshift_int h0.1 h0.2 (Post.tok B Rep_int h)
  | shr h0 h => subst hk; obtain ⟨t, rfl⟩ := ra; obtain ⟨u, rfl⟩ := rb; exact rshift_int h0 (Post.tok B Rep_int h)
  | band h => subst hk; obtain ⟨t, rfl⟩ := ra; obtain ⟨u, rfl⟩ := rb; exact and_int (Post.tok B Rep_int h)
  | bor h => subst hk; obtain ⟨t, rfl⟩ := ra; obtain ⟨u, rfl⟩ := rb; exact or_int (Post.tok B Rep_int h)
  | bxor h => subst hk; obtain ⟨t, rfl⟩ := ra; obtain ⟨u, rfl⟩ := rb; exact xor_int (Post.tok B Rep_int h)
  | pow h0 h => subst hk; obtain ⟨t, rfl⟩ := ra; obtain ⟨u, rfl⟩ := rb; exact AutoIntOps.pow_4 h0.1 h0.2.1 h0.2.2.1 h0.2.2.2.1 h0.2.2.2.2 (Post.tok B Rep_int h)
  | addS h0 h => subst hk; obtain ⟨t, rfl⟩ := ra; obtain ⟨u, rfl⟩ := rb; exact add_str (fun t' tk => by rw [S_append]; exact Post.tok B Rep_str h) (by rw [S_length, S_length]; exact h0)
  | addT h0 h =>
    subst hk
    obtain ⟨x, xs, n, rfl, hx, lx⟩ := ra
    obtain ⟨y, ys, n', rfl, hy, ly⟩ := rb
    obtain ⟨h1, h2, h3⟩ := h0
    have e1 := lx.length; have e2 := ly.length
    refine P.add_tuple (items := xs.toArray) (items2 := ys.toArray) hx hy ?_ ?_ ?_ ?_
    · intro z; apply h1; cases xs with
      | nil => exact List.eq_nil_of_length_eq_zero e1.symm
      | cons _ _ => simp at z
    · intro z; apply h2; cases ys with
      | nil => exact List.eq_nil_of_length_eq_zero e2.symm
      | cons _ _ => simp at z
    · have := Post.tuple (n := 0) B (lx.append ly) h
      simpa using this
    · simpa [e1, e2] using h3
end
noncomputable def strsOf : List V → Option (List (List Nat))
  | [] => some []
  | .str l :: r => (strsOf r).map (l :: ·)
  | _ :: _ => none
theorem strsOf_are {C : Cls → Addr} {h : Heap} : ∀ {vs : List V} {ls : List (List Nat)} {us : List Value}, strsOf vs = some ls → RepL C h vs us → StrsAre us (ls.map S)
  | [], _, _, e, r => by unfold strsOf at e; cases e; obtain rfl := r; exact .nil
  | v :: vs, ls, us, e, r => by
    cases v <;> (try (exact absurd e (by unfold strsOf; exact fun z => by cases z)))
    rename_i l
    unfold strsOf at e
    obtain ⟨ls', h1, rfl⟩ := Option.map_eq_some_iff.mp e
    obtain ⟨u, us', rfl, ra, rb⟩ := r
    obtain ⟨t, rfl⟩ := ra
    exact .cons _ _ (strsOf_are h1 rb)
theorem any_S (ls : List (List Nat)) (x : List Nat) : ((ls.map S).any fun y => y == S x) = ls.contains x := by
  rw [List.any_map, List.contains_eq_any_beq]
  congr 1
  funext y
  show (S y == S x) = (x == y)
  rw [S_beq, Bool.eq_iff_iff, decide_eq_true_eq, beq_iff_eq]
  exact eq_comm
noncomputable def isNone : V → Bool
  | .none => true
  | _ => false
theorem isNone_of {C : Cls → Addr} {h : Heap} {u : V} {v : Value} (r : Rep C h u v) (hv : ∀ x, u = .val x → x ≠ .none) : (v == Value.none) = isNone u := by
  cases u <;> first
    | (obtain rfl := r; rfl)
    | (obtain ⟨t, rfl⟩ := r; rfl)
    | (obtain ⟨a, b, n, rfl, _⟩ := r; rfl)
    | (obtain ⟨a, rfl, _⟩ := r; rfl)
    | skip
  · obtain ⟨a, t, u, x, rfl, _⟩ := r; rfl
  · obtain ⟨rfl, _⟩ := r
    show _ = false
    exact beq_eq_false_iff_ne.mpr (hv _ rfl)
theorem occ_one (l : List Nat) (x : Nat) : (!(Builtin.Str.occurrences (S l) (S [x]) 0 (S l).length 1).isEmpty) = l.contains x := by
  rw [show S [x] = ⟨#[x]⟩ from rfl, StrLaws.found_one, Bool.eq_iff_iff, decide_eq_true_eq, List.contains_iff_mem]
inductive CmpP : CmpOp → V → V → Store → (Bool → Prop) → Prop
  | eqI {a b : Int} {σ : Store} {k : Bool → Prop} (h : k (decide (a = b))) : CmpP .Eq (.int a) (.int b) σ k
  | neI {a b : Int} {σ : Store} {k : Bool → Prop} (h : k (!decide (a = b))) : CmpP .NotEq (.int a) (.int b) σ k
  | ltI {a b : Int} {σ : Store} {k : Bool → Prop} (h : k (decide (a < b))) : CmpP .Lt (.int a) (.int b) σ k
  | leI {a b : Int} {σ : Store} {k : Bool → Prop} (h : k (decide (a ≤ b))) : CmpP .LtE (.int a) (.int b) σ k
  | gtI {a b : Int} {σ : Store} {k : Bool → Prop} (h : k (decide (b < a))) : CmpP .Gt (.int a) (.int b) σ k
  | geI {a b : Int} {σ : Store} {k : Bool → Prop} (h : k (decide (b ≤ a))) : CmpP .GtE (.int a) (.int b) σ k
  | eqS {a b : List Nat} {σ : Store} {k : Bool → Prop} (h : k (decide (a = b))) : CmpP .Eq (.str a) (.str b) σ k
  | neS {a b : List Nat} {σ : Store} {k : Bool → Prop} (h : k (!decide (a = b))) : CmpP .NotEq (.str a) (.str b) σ k
  | ltS {a b : List Nat} {σ : Store} {k : Bool → Prop} (h : k (decide (a < b))) : CmpP .Lt (.str a) (.str b) σ k
  | leS {a b : List Nat} {σ : Store} {k : Bool → Prop} (h : k (!decide (b < a))) : CmpP .LtE (.str a) (.str b) σ k
  | gtS {a b : List Nat} {σ : Store} {k : Bool → Prop} (h : k (decide (b < a))) : CmpP .Gt (.str a) (.str b) σ k
  | geS {a b : List Nat} {σ : Store} {k : Bool → Prop} (h : k (!decide (a < b))) : CmpP .GtE (.str a) (.str b) σ k
  | inS {x : Nat} {l : List Nat} {σ : Store} {k : Bool → Prop} (h : k (l.contains x)) : CmpP .In (.str [x]) (.str l) σ k
  | inT {x : List Nat} {vs : List V} {ls : List (List Nat)} {σ : Store} {k : Bool → Prop} (e : strsOf vs = some ls) (h : k (ls.contains x)) : CmpP .In (.str x) (.tup vs) σ k
  | inL {x : List Nat} {a : Addr} {vs : List V} {ls : List (List Nat)} {σ : Store} {k : Bool → Prop} (hs : σ a = some (.list vs)) (e : strsOf vs = some ls) (h : k (ls.contains x)) : CmpP .In (.str x) (.lst a) σ k
  | inD {x : List Nat} {a : Addr} {ks : List (List Nat)} {σ : Store} {k : Bool → Prop} (hs : σ a = some (.map ks)) (h : k (ks.contains x)) : CmpP .In (.str x) (.dct a) σ k
  | niS {x : Nat} {l : List Nat} {σ : Store} {k : Bool → Prop} (h : k (!l.contains x)) : CmpP .NotIn (.str [x]) (.str l) σ k
  | niT {x : List Nat} {vs : List V} {ls : List (List Nat)} {σ : Store} {k : Bool → Prop} (e : strsOf vs = some ls) (h : k (!ls.contains x)) : CmpP .NotIn (.str x) (.tup vs) σ k
  | niL {x : List Nat} {a : Addr} {vs : List V} {ls : List (List Nat)} {σ : Store} {k : Bool → Prop} (hs : σ a = some (.list vs)) (e : strsOf vs = some ls) (h : k (!ls.contains x)) : CmpP .NotIn (.str x) (.lst a) σ k
  | niD {x : List Nat} {a : Addr} {ks : List (List Nat)} {σ : Store} {k : Bool → Prop} (hs : σ a = some (.map ks)) (h : k (!ks.contains x)) : CmpP .NotIn (.str x) (.dct a) σ k
  | is {u : V} {σ : Store} {k : Bool → Prop} (e : ∀ x, u ≠ .val x) (h : k (isNone u)) : CmpP .Is u .none σ k
  | isn {u : V} {σ : Store} {k : Bool → Prop} (e : ∀ x, u ≠ .val x) (h : k (!isNone u)) : CmpP .IsNot u .none σ k
theorem CmpP.mono {op : CmpOp} {a b : V} {σ : Store} {k k' : Bool → Prop} (h : CmpP op a b σ k) (f : ∀ x, k x → k' x) : CmpP op a b σ k' := by
  induction h with
  | eqI h => exact .eqI (f _ h)
  | neI h => exact .neI (f _ h)
  | ltI h => exact .ltI (f _ h)
  | leI h => exact .leI (f _ h)
  | gtI h => exact .gtI (f _ h)
  | geI h => exact .geI (f _ h)
  | eqS h => exact .eqS (f _ h)
  | neS h => exact .neS (f _ h)
  | ltS h => exact .ltS (f _ h)
  | leS h => exact .leS (f _ h)
  | gtS h => exact .gtS (f _ h)
  | geS h => exact .geS (f _ h)
  | inS h => exact .inS (f _ h)
  | niS h => exact .niS (f _ h)
  | inT e h => exact .inT e (f _ h)
  | niT e h => exact .niT e (f _ h)
  | inL hs e h => exact .inL hs e (f _ h)
  | niL hs e h => exact .niL hs e (f _ h)
  | inD hs h => exact .inD hs (f _ h)
  | niD hs h => exact .niD hs (f _ h)
  | is e h => exact .is e (f _ h)
  | isn e h => exact .isn e (f _ h)
section
variable {c : Cx} {σ : Store} {s : Shared} {A : Around}
theorem beq_int (a b : Int) : (a == b) = decide (a = b) := by rw [Bool.eq_iff_iff, beq_iff_eq, decide_eq_true_eq]
theorem not_sys {a : Addr} {ao : AO} (B : Base c σ s) (hm : c.g.get? sysModules ≠ none) (h : σ a = some ao) : (a == sysModules) = false :=
  beq_eq_false_iff_ne.mpr fun e => hm (e ▸ B.off _ _ h)
theorem PB {Q : Bool → Store → Prop} {b : Bool} {n : Nat} (B : Base c σ s) (q : Q b σ) : Post c σ s (fun u σ' => ∃ b, u = .bool b ∧ Q b σ') (.bool b) { s with toks := n } := Post.tok B Rep_bool ⟨_, rfl, q⟩
theorem CmpP_ok {op : CmpOp} {a b : V} {Q : Bool → Store → Prop} (h : CmpP op a b σ fun v => Q v σ) (R : Room A 0) (B : Base c σ s) {va vb : Value} (ra : Rep c.C s.heap a va) (rb : Rep c.C s.heap b vb) (hm : c.g.get? sysModules ≠ none) :
    wpAny (model c.prog c.w) A (compareOp op va vb) (Post c σ s fun u σ' => ∃ b, u = .bool b ∧ Q b σ') noE s := by
  have e : CmpP op a b σ fun v => Q v σ := h
  clear h
  generalize hk : (fun v => Q v σ) = k at e
  induction e with
  | eqI h => subst hk; obtain ⟨t, rfl⟩ := ra; obtain ⟨u, rfl⟩ := rb; exact eq_int (by rw [beq_int]; exact PB B h)
  | neI h => subst hk; obtain ⟨t, rfl⟩ := ra; obtain ⟨u, rfl⟩ := rb; exact ne_int (by unfold bne; rw [beq_int]; exact PB B h)
  | ltI h => subst hk; obtain ⟨t, rfl⟩ := ra; obtain ⟨u, rfl⟩ := rb; exact lt_int (PB B h)
  | leI h => subst hk; obtain ⟨t, rfl⟩ := ra; obtain ⟨u, rfl⟩ := rb; exact le_int (PB B h)
  | gtI h => subst hk; obtain ⟨t, rfl⟩ := ra; obtain ⟨u, rfl⟩ := rb; exact gt_int (PB B h)
  | geI h => subst hk; obtain ⟨t, rfl⟩ := ra; obtain ⟨u, rfl⟩ := rb; exact ge_int (PB B h)
  | eqS h => subst hk; obtain ⟨t, rfl⟩ := ra; obtain ⟨u, rfl⟩ := rb; exact eq_str (by rw [S_beq]; exact PB B h)
  | neS h => subst hk; obtain ⟨t, rfl⟩ := ra; obtain ⟨u, rfl⟩ := rb; exact ne_str (by unfold bne; rw [S_beq]; exact PB B h)
  | ltS h => subst hk; obtain ⟨t, rfl⟩ := ra; obtain ⟨u, rfl⟩ := rb; exact lt_str (PB B h)
  | leS h => subst hk; obtain ⟨t, rfl⟩ := ra; obtain ⟨u, rfl⟩ := rb; exact P.le_str (PB B h)
  | gtS h => subst hk; obtain ⟨t, rfl⟩ := ra; obtain ⟨u, rfl⟩ := rb; exact P.gt_str (PB B h)
  | geS h => subst hk; obtain ⟨t, rfl⟩ := ra; obtain ⟨u, rfl⟩ := rb; exact P.ge_str (PB B h)
  | inS h => subst hk; obtain ⟨t, rfl⟩ := ra; obtain ⟨u, rfl⟩ := rb; exact in_str (by rw [occ_one]; exact PB B h)
  | niS h => subst hk; obtain ⟨t, rfl⟩ := ra; obtain ⟨u, rfl⟩ := rb; exact notIn_str (by rw [occ_one]; exact PB B h)
  | inT e h => subst hk; obtain ⟨t, rfl⟩ := ra; obtain ⟨x, xs, n, rfl, hx, lx⟩ := rb; exact in_tuple_strs (items := xs.toArray) ⟨_, hx, rfl, _, rfl⟩ (strsOf_are e lx) (by rw [any_S]; exact PB B h)
  | niT e h => subst hk; obtain ⟨t, rfl⟩ := ra; obtain ⟨x, xs, n, rfl, hx, lx⟩ := rb; exact notin_tuple_strs (items := xs.toArray) ⟨_, hx, rfl, _, rfl⟩ (strsOf_are e lx) (by rw [any_S]; exact PB B h)
  | inL hs e h => subst hk; obtain ⟨t, rfl⟩ := ra; obtain rfl := rb; obtain ⟨items, n, ho, lx⟩ := B.objs _ _ hs; exact in_list_strs (vs := items) ⟨_, ho, rfl, _, rfl⟩ (strsOf_are e lx) (by rw [any_S]; exact PB B h)
  | niL hs e h => subst hk; obtain ⟨t, rfl⟩ := ra; obtain rfl := rb; obtain ⟨items, n, ho, lx⟩ := B.objs _ _ hs; exact notin_list_strs (vs := items) ⟨_, ho, rfl, _, rfl⟩ (strsOf_are e lx) (by rw [any_S]; exact PB B h)
  | inD hs h => subst hk; obtain ⟨t, rfl⟩ := ra; obtain rfl := rb; obtain ⟨kvs, hd, _, hk⟩ := B.objs _ _ hs; exact wpAny_in_of (strKind_is c.prog c.w _ t) (not_sys B hm hs) hd.mapOf (by rw [hk]; exact PB B h)
  | niD hs h => subst hk; obtain ⟨t, rfl⟩ := ra; obtain rfl := rb; obtain ⟨kvs, hd, _, hk⟩ := B.objs _ _ hs; exact wpAny_notIn_of (strKind_is c.prog c.w _ t) (not_sys B hm hs) hd.mapOf (by rw [hk]; exact PB B h)
  | is e h => subst hk; obtain rfl := rb; exact is_none_gen (by rw [isNone_of ra (fun x q => absurd q (e x))]; exact PB B h)
  | isn e h => subst hk; obtain rfl := rb; exact isnot_none_gen (by rw [isNone_of ra (fun x q => absurd q (e x))]; exact PB B h)
end
structure CxOK (c : Cx) : Prop where
  KX : c.K.In c.g
  sys : c.g.get? sysModules ≠ none
  lim : c.g.NoLimit
  mgNs : c.g.Ns mainGlobals c.mg
  mbNs : c.g.Ns builtinsNs c.mb
noncomputable def GV (c : Cx) (x : Str) (v : Value) : Prop := c.mg x = some v ∨ (c.mg x = none ∧ c.mb x = some v)
noncomputable abbrev kAt {α : Type} (Q : α → Store → Prop) (σ : Store) : α → Prop := fun v => Q v σ
noncomputable abbrev k2 (c : Cx) (d : Nat) (sc : Scope) (r : Expr) (ρ : Locals) (J : V → V → Store → Prop) : V → Store → Prop := fun a σ => WE c d sc r ρ σ (J a)
noncomputable abbrev jBin (op : Operator) (Q : V → Store → Prop) : V → V → Store → Prop := fun a b σ => BinP op a b (kAt Q σ)
noncomputable abbrev jCmp (op : CmpOp) (Q : Bool → Store → Prop) : V → V → Store → Prop := fun a b σ => CmpP op a b σ (kAt Q σ)
noncomputable abbrev kBo (Q : V → Store → Prop) : Bool → Store → Prop := fun b σ => Q (.bool b) σ
section
variable {c : Cx} {d : Nat} {sc : Scope} {ρ : Locals} {σ : Store} {Q : V → Store → Prop}
theorem WE.mk {e : Expr} (h : ∀ A env s, Room A d → EnvOK env sc → Base c σ s → Loc c env ρ σ s → wpAny (model c.prog c.w) A (eval e env) (Post c σ s Q) noE s) : WE c d sc e ρ σ Q := by
  unfold WE; exact h
theorem WE.seq {e : Expr} (h : WE c d sc e ρ σ Q) {A : Around} {env : Env} {s : Shared} (R : Room A d) (O : EnvOK env sc) (B : Base c σ s) (L : Loc c env ρ σ s) {Q' : Value → Shared → Prop}
    (k : ∀ v s' u σ', Rep c.C s'.heap u v → Stp c noX σ s σ' s' → Q u σ' → Q' v s') : wpAny (model c.prog c.w) A (eval e env) Q' noE s := by
  unfold WE at h
  exact wpAny_mono (h A env s R O B L) (fun v s' ⟨u, σ', r, st, q⟩ => k v s' u σ' r st q) (fun _ _ z => z)
theorem WL.seq {es : List Expr} {Q : List V → Store → Prop} (h : WL c d sc es ρ σ Q) {A : Around} {env : Env} {s : Shared} (R : Room A d) (O : EnvOK env sc) (B : Base c σ s) (L : Loc c env ρ σ s) {Q' : List Value → Shared → Prop} (pos : Pos)
    (k : ∀ v s' u σ', RepL c.C s'.heap u v → Stp c noX σ s σ' s' → Q u σ' → Q' v s') : wpAny (model c.prog c.w) A (spliced (backTo pos (starEach es env))) Q' noE s := by
  unfold WL at h
  exact wpAny_mono (h A env s R O B L pos) (fun v s' ⟨u, σ', r, st, q⟩ => k v s' u σ' r st q) (fun _ _ z => z)
theorem WT.seq {e : Expr} {Q : Bool → Store → Prop} (h : WT c d sc e ρ σ Q) {A : Around} {env : Env} {s : Shared} (R : Room A d) (O : EnvOK env sc) (B : Base c σ s) (L : Loc c env ρ σ s) {Q' : Bool → Shared → Prop}
    (k : ∀ b s' σ', Stp c noX σ s σ' s' → Q b σ' → Q' b s') : wpAny (model c.prog c.w) A (isTrue e env (eval e env)) Q' noE s := by
  unfold WT at h
  exact wpAny_mono (h A env s R O B L) (fun b s' ⟨σ', st, q⟩ => k b s' σ' st q) (fun _ _ z => z)
theorem CV.seq {f : Value} {args : List V} (h : CV c d f args σ Q) {A : Around} {s : Shared} {vs : List Value} (R : Room A d) (B : Base c σ s) (r : RepL c.C s.heap args vs) {Q' : Value → Shared → Prop}
    (k : ∀ v s' u σ', Rep c.C s'.heap u v → Stp c noX σ s σ' s' → Q u σ' → Q' v s') : wpAny (model c.prog c.w) A (call f vs) Q' noE s := by
  unfold CV at h
  exact wpAny_mono (h A s vs R B r) (fun v s' ⟨u, σ', r, st, q⟩ => k v s' u σ' r st q) (fun _ _ z => z)
theorem Post.after {σ₁ : Store} {s s₁ s' : Shared} {v : Value} (st : Stp c noX σ s σ₁ s₁) (p : Post c σ₁ s₁ Q v s') : Post c σ s Q v s' :=
  let ⟨u, σ', r, st', q⟩ := p; ⟨u, σ', r, st.trans st', q⟩
theorem Post.mono {Q' : V → Store → Prop} {s s' : Shared} {v : Value} (p : Post c σ s Q v s') (h : ∀ u σ', Q u σ' → Q' u σ') : Post c σ s Q' v s' :=
  let ⟨u, σ', r, st', q⟩ := p; ⟨u, σ', r, st', h _ _ q⟩
theorem wpPost {A : Around} {σ₁ : Store} {s s₁ : Shared} {t : Sem Value} (st : Stp c noX σ s σ₁ s₁) (h : wpAny (model c.prog c.w) A t (Post c σ₁ s₁ Q) noE s₁) : wpAny (model c.prog c.w) A t (Post c σ s Q) noE s₁ :=
  wpAny_mono h (fun _ _ p => p.after st) fun _ _ z => z
theorem Rep.step {σ₁ : Store} {s s₁ : Shared} {u : V} {v : Value} (r : Rep c.C s.heap u v) (B : Base c σ s) (st : Stp c noX σ s σ₁ s₁) : Rep c.C s₁.heap u v := r.keeps (st.solid0 B)
theorem RepL.step {σ₁ : Store} {s s₁ : Shared} {u : List V} {v : List Value} (r : RepL c.C s.heap u v) (B : Base c σ s) (st : Stp c noX σ s σ₁ s₁) : RepL c.C s₁.heap u v := r.keeps (st.solid0 B)
theorem WE_int {i : Int} {k : Nat} {p : Pos} (h : Q (.int i) σ) : WE c d sc (.Constant (.int i) k p) ρ σ Q :=
  .mk fun A env s R O B L => wpAny_mkInt (Post.tok B Rep_int h)
theorem WE_str {x : Str} {k : Nat} {p : Pos} (h : Q (.str x.cps.toList) σ) : WE c d sc (.Constant (.str x) k p) ρ σ Q :=
  .mk fun A env s R O B L => wpAny_mkText (Post.tok B (by rw [← S_toList x]; exact Rep_str) h)
theorem WE_bool {b : Bool} {k : Nat} {p : Pos} (h : Q (.bool b) σ) : WE c d sc (.Constant (.bool b) k p) ρ σ Q :=
  .mk fun A env s R O B L => wpAny_pure (Post.here B Rep_bool h)
theorem WE_none {k : Nat} {p : Pos} (h : Q .none σ) : WE c d sc (.Constant .none k p) ρ σ Q :=
  .mk fun A env s R O B L => wpAny_pure (Post.here B Rep_none h)
theorem WE_loc {x : Str} {p : Pos} {u : V} (h1 : lk x ρ = some u) (h : Q u σ) : WE c d sc (.Name x p) ρ σ Q :=
  .mk fun A env s R O B L => by
    obtain ⟨m, hm, hn⟩ := L.at_
    obtain ⟨hd, v, r, z⟩ := hn x u h1
    have hk : env.scope.kind = .function := by rw [O.scope]; exact O.kind
    rcases z with ⟨z1, z2⟩ | ⟨z1 | ⟨z1, z3⟩, k, z2, hc⟩
    · exact wpAny_Name (wpAny_loadName_local hk z1 hm z2 (Post.here B r h)) hd
    · exact wpAny_Name (wpAny_loadName_cell hk z1 z2 hc (Post.here B r h)) hd
    · exact wpAny_Name (wpAny_loadName_free hk z1 z2 hc (Post.here B r h) z3) hd
noncomputable def okGlobal (sc : Scope) (x : Str) : Bool := sc.names.lookup x == some .globalImplicit && !(x == ("__debug__" : Str))
theorem glob_name (OK : CxOK c) {x : Str} {p : Pos} {v : Value} (h1 : okGlobal sc x = true) (h2 : GV c x v) {A : Around} {env : Env} {s : Shared} (O : EnvOK env sc) (B : Base c σ s) {E : Value → Shared → Prop} {Q' : Value → Shared → Prop} (h : Q' v s) :
    wpAny (model c.prog c.w) A (eval (.Name x p) env) Q' E s := by
  obtain ⟨a, b⟩ := Bool.and_eq_true_iff.mp h1
  have hk : env.scope.kind = .function := by rw [O.scope]; exact O.kind
  have hx : env.kindOf x = some .globalImplicit := by unfold Env.kindOf; rw [O.scope]; exact beq_iff_eq.mp a
  have hd : (x == ("__debug__" : Str)) = false := by simpa using b
  have g1 : s.heap.Ns env.globals c.mg := by rw [O.globals]; exact OK.mgNs.keeps B.ground
  have g2 : s.heap.Ns env.builtins c.mb := by rw [O.builtins]; exact OK.mbNs.keeps B.ground
  rcases h2 with h2 | ⟨h2, h3⟩
  · exact Name_function_global hk hx (loadGlobal_global g1 h2 h) hd
  · exact Name_function_global hk hx (loadGlobal_builtin g1 h2 g2 h3 h) hd
theorem WE_gval (OK : CxOK c) {x : Str} {p : Pos} {v : Value} (h1 : okGlobal sc x = true) (h2 : GV c x v) (hv : ∀ a, v ≠ .ref a) (h : Q (.val v) σ) : WE c d sc (.Name x p) ρ σ Q :=
  .mk fun A env s R O B L => glob_name OK h1 h2 O B (Post.here B (Rep_val hv) h)
theorem WE_gint (OK : CxOK c) {x : Str} {p : Pos} {i : Int} {t : Tok} (h1 : okGlobal sc x = true) (h2 : c.mg x = some (.int i t)) (h : Q (.int i) σ) : WE c d sc (.Name x p) ρ σ Q :=
  .mk fun A env s R O B L => glob_name OK h1 (.inl h2) O B (Post.here B Rep_int h)
theorem WE_bin {l r : Expr} {op : Operator} {p : Pos} (h : WE c d sc l ρ σ (k2 c d sc r ρ (jBin op Q))) : WE c d sc (.BinOp l op r p) ρ σ Q :=
  .mk fun A env s R O B L => wpAny_BinOp (h.seq R O B L fun va s₁ a σ₁ ra st₁ h₁ => h₁.seq R O st₁.base (L.step B st₁) fun vb s₂ b σ₂ rb st₂ h₂ =>
    wpPost (st₁.trans st₂) (BinP_ok h₂ (R.less (Nat.zero_le _)) st₂.base (ra.step st₁.base st₂) rb))
theorem WE_cmp (OK : CxOK c) {l r : Expr} {op : CmpOp} {p : Pos} (h : WE c d sc l ρ σ (k2 c d sc r ρ (jCmp op (kBo Q)))) (hm : behindInMarks op r = false := by rfl) : WE c d sc (.Compare l [op] [r] p) ρ σ Q :=
  .mk fun A env s R O B L => wpAny_Compare1 (h.seq R O B L fun va s₁ a σ₁ ra st₁ h₁ => h₁.seq R O st₁.base (L.step B st₁) fun vb s₂ b σ₂ rb st₂ h₂ =>
    wpPost (st₁.trans st₂) (wpAny_mono (CmpP_ok (Q := fun v σ' => Q (.bool v) σ') h₂ (R.less (Nat.zero_le _)) st₂.base (ra.step st₁.base st₂) rb OK.sys) (fun v s' p => p.mono fun u σ' ⟨b, e, q⟩ => e ▸ q) fun _ _ z => z)) hm
theorem WT_cmp (OK : CxOK c) {Q : Bool → Store → Prop} {l r : Expr} {op : CmpOp} {p : Pos} (h : WE c d sc l ρ σ (k2 c d sc r ρ (jCmp op Q))) (hm : behindInMarks op r = false := by rfl) : WT c d sc (.Compare l [op] [r] p) ρ σ Q := by
  unfold WT
  exact fun A env s R O B L => wpAny_isTrue_Compare1 (h.seq R O B L fun va s₁ a σ₁ ra st₁ h₁ => h₁.seq R O st₁.base (L.step B st₁) fun vb s₂ b σ₂ rb st₂ h₂ =>
    wpAny_mono (CmpP_ok (Q := fun v σ' => Q v σ') h₂ (R.less (Nat.zero_le _)) st₂.base (ra.step st₁.base st₂) rb OK.sys) (fun v s' ⟨u, σ', r, st, b, e, q⟩ => by
      subst e
      obtain rfl := r
      exact wpAny_truthy_bool ⟨σ', (st₁.trans st₂).trans st, q⟩) fun _ _ z => z) hm
noncomputable def TruthP : V → Store → (Bool → Prop) → Prop
  | .bool b, _, k => k b
  | .none, _, k => k false
  | .tup vs, _, k => vs.length < 2 ^ 24 ∧ k (!vs.isEmpty)
  | _, _, _ => False
theorem TruthP_ok {u : V} {Q : Bool → Store → Prop} (h : TruthP u σ fun b => Q b σ) {A : Around} {s : Shared} (B : Base c σ s) {v : Value} (r : Rep c.C s.heap u v) : wpAny (model c.prog c.w) A (truthy v) (PostB c σ s Q) noE s := by
  cases u <;> first | exact h.elim | skip
  · subst r; exact truthy_none ⟨σ, Stp.refl B, h⟩
  · subst r; exact wpAny_truthy_bool ⟨σ, Stp.refl B, h⟩
  · rename_i us
    obtain ⟨a, items, n, rfl, ho, l⟩ := r
    have e := l.length
    have h : us.length < 2 ^ 24 ∧ Q (!us.isEmpty) σ := h
    refine truthy_tuple (items := items.toArray) ⟨_, ho, rfl, _, rfl⟩ (by rw [List.size_toArray, e]; omega) ⟨σ, (Stp.refl B).toks _, ?_⟩
    have : (!items.toArray.isEmpty) = !us.isEmpty := congrArg not (by rw [List.isEmpty_toArray, Bool.eq_iff_iff, List.isEmpty_iff_length_eq_zero, List.isEmpty_iff_length_eq_zero, e])
    rw [this]; exact h.2
noncomputable def plainTest (e : Expr) : Prop := ∀ (env : Env) (whole : Sem Value), isTrue e env whole = (do let v ← whole; standAt e.pos; holding [v] (truthy v))
noncomputable abbrev kTr (Q : Bool → Store → Prop) : V → Store → Prop := fun u σ => TruthP u σ (kAt Q σ)
noncomputable abbrev kNot (Q : Bool → Store → Prop) : Bool → Store → Prop := fun b σ => Q (!b) σ
noncomputable abbrev kAnd (c : Cx) (d : Nat) (sc : Scope) (e : Expr) (ρ : Locals) (Q : Bool → Store → Prop) : Bool → Store → Prop := fun b σ => if b then WT c d sc e ρ σ Q else Q false σ
noncomputable abbrev kOr (c : Cx) (d : Nat) (sc : Scope) (e : Expr) (ρ : Locals) (Q : Bool → Store → Prop) : Bool → Store → Prop := fun b σ => if b then Q true σ else WT c d sc e ρ σ Q
noncomputable abbrev kIfE (c : Cx) (d : Nat) (sc : Scope) (b o : Expr) (ρ : Locals) (Q : V → Store → Prop) : Bool → Store → Prop := fun x σ => if x then WE c d sc b ρ σ Q else WE c d sc o ρ σ Q
noncomputable abbrev kCons (Q : List V → Store → Prop) (u : V) : List V → Store → Prop := fun us σ => Q (u :: us) σ
noncomputable abbrev kL (c : Cx) (d : Nat) (sc : Scope) (r : List Expr) (ρ : Locals) (Q : List V → Store → Prop) : V → Store → Prop := fun u σ => WL c d sc r ρ σ (kCons Q u)
noncomputable abbrev kTup (Q : V → Store → Prop) : List V → Store → Prop := fun us σ => us.length ≤ sizeLine ∧ Q (.tup us) σ
noncomputable abbrev kLst (Q : V → Store → Prop) : List V → Store → Prop := fun us σ => us.length ≤ sizeLine ∧ ∀ a, σ a = none → Q (.lst a) (σ.set a (.list us))
theorem WT_val {e : Expr} {Q : Bool → Store → Prop} (h : WE c d sc e ρ σ (kTr Q)) (hp : plainTest e := by exact fun _ _ => rfl) : WT c d sc e ρ σ Q := by
  unfold WT
  intro A env s R O B L
  rw [hp _ _]
  exact wpAny_bind (h.seq R O B L fun v s₁ u σ₁ r st h₁ => wpAny_bind (wpAny_standAt (wpAny_holding (wpAny_mono (TruthP_ok h₁ st.base r) (fun b s₂ ⟨σ₂, st₂, q⟩ => ⟨σ₂, st.trans st₂, q⟩) fun _ _ z => z))))
theorem WT_not {e : Expr} {p : Pos} {Q : Bool → Store → Prop} (h : WT c d sc e ρ σ (kNot Q)) : WT c d sc (.UnaryOp .Not e p) ρ σ Q := by
  unfold WT
  intro A env s R O B L
  show wpAny _ _ (do return !(← isTrue e env (eval e env))) _ _ _
  exact wpAny_bind (h.seq R O B L fun b s₁ σ₁ st q => wpAny_pure ⟨σ₁, st, q⟩)
theorem WT_and1 {e : Expr} {p : Pos} {Q : Bool → Store → Prop} (h : WT c d sc e ρ σ Q) : WT c d sc (.BoolOp .And [e] p) ρ σ Q := by
  unfold WT
  intro A env s R O B L
  show wpAny _ _ (isTrue e env (eval e env) >>= fun b => match BoolOp.And, b with | .And, false => pure false | .Or, true => pure true | _, _ => pure true) _ _ _
  exact wpAny_bind (h.seq R O B L fun b s₁ σ₁ st q => by cases b <;> exact wpAny_pure ⟨σ₁, st, q⟩)
theorem WT_or1 {e : Expr} {p : Pos} {Q : Bool → Store → Prop} (h : WT c d sc e ρ σ Q) : WT c d sc (.BoolOp .Or [e] p) ρ σ Q := by
  unfold WT
  intro A env s R O B L
  show wpAny _ _ (isTrue e env (eval e env) >>= fun b => match BoolOp.Or, b with | .And, false => pure false | .Or, true => pure true | _, _ => pure false) _ _ _
  exact wpAny_bind (h.seq R O B L fun b s₁ σ₁ st q => by cases b <;> exact wpAny_pure ⟨σ₁, st, q⟩)
theorem WT_and {e e' : Expr} {rest : List Expr} {p : Pos} {Q : Bool → Store → Prop} (h : WT c d sc e ρ σ (kAnd c d sc (.BoolOp .And (e' :: rest) p) ρ Q)) : WT c d sc (.BoolOp .And (e :: e' :: rest) p) ρ σ Q := by
  unfold WT
  intro A env s R O B L
  show wpAny _ _ (isTrue e env (eval e env) >>= fun b => match BoolOp.And, b with | .And, false => pure false | .Or, true => pure true | _, _ => allTrue .And (e' :: rest) env) _ _ _
  refine wpAny_bind (h.seq R O B L fun b s₁ σ₁ st q => ?_)
  cases b with
  | false => exact wpAny_pure ⟨σ₁, st, q⟩
  | true =>
    exact (show WT c d sc (.BoolOp .And (e' :: rest) p) ρ σ₁ Q from by first | (simpa using q; done) | (simpa [kAnd, kOr, kIfE] using q)).seq R O st.base (L.step B st) fun b s₂ σ₂ st₂ q₂ => ⟨σ₂, st.trans st₂, q₂⟩
theorem WT_or {e e' : Expr} {rest : List Expr} {p : Pos} {Q : Bool → Store → Prop} (h : WT c d sc e ρ σ (kOr c d sc (.BoolOp .Or (e' :: rest) p) ρ Q)) : WT c d sc (.BoolOp .Or (e :: e' :: rest) p) ρ σ Q := by
  unfold WT
  intro A env s R O B L
  show wpAny _ _ (isTrue e env (eval e env) >>= fun b => match BoolOp.Or, b with | .And, false => pure false | .Or, true => pure true | _, _ => allTrue .Or (e' :: rest) env) _ _ _
  refine wpAny_bind (h.seq R O B L fun b s₁ σ₁ st q => ?_)
  cases b with
  | true => exact wpAny_pure ⟨σ₁, st, q⟩
  | false =>
    exact (show WT c d sc (.BoolOp .Or (e' :: rest) p) ρ σ₁ Q from by first | (simpa using q; done) | (simpa [kAnd, kOr, kIfE] using q)).seq R O st.base (L.step B st) fun b s₂ σ₂ st₂ q₂ => ⟨σ₂, st.trans st₂, q₂⟩
theorem WE_bo1 {op : BoolOp} {e : Expr} {p : Pos} (h : WE c d sc e ρ σ Q) : WE c d sc (.BoolOp op [e] p) ρ σ Q :=
  .mk fun A env s R O B L => h.seq R O B L fun v s₁ u σ₁ r st q => ⟨u, σ₁, r, st, q⟩
noncomputable def shorts : BoolOp → Bool → Bool
  | .And, b => !b
  | .Or, b => b
theorem WE_bo {op : BoolOp} {e e' : Expr} {rest : List Expr} {p : Pos} (h : WE c d sc e ρ σ fun u σ₁ => TruthP u σ₁ fun b => if shorts op b then Q u σ₁ else WE c d sc (.BoolOp op (e' :: rest) p) ρ σ₁ Q) : WE c d sc (.BoolOp op (e :: e' :: rest) p) ρ σ Q :=
  .mk fun A env s R O B L => by
    show wpAny _ _ (eval e env >>= fun v => standAt p >>= fun _ => holding [v] (truthy v) >>= fun t => match op, t with | .And, false => pure v | .Or, true => pure v | _, _ => boolOp p op (evalEach (e' :: rest) env)) _ _ _
    refine wpAny_bind (h.seq R O B L fun v s₁ u σ₁ r st h₁ => wpAny_bind (wpAny_standAt (wpAny_bind (wpAny_holding (wpAny_mono (TruthP_ok (Q := fun b σ' => if shorts op b then Q u σ' else WE c d sc (.BoolOp op (e' :: rest) p) ρ σ' Q) h₁ st.base r) (fun b s₂ ⟨σ₂, st₂, q⟩ => ?_) fun _ _ z => z)))))
    have hr := r.step st.base st₂
    have more (q : WE c d sc (.BoolOp op (e' :: rest) p) ρ σ₂ Q) : wpAny (model c.prog c.w) A (boolOp p op (evalEach (e' :: rest) env)) (Post c σ s Q) noE s₂ :=
      q.seq R O st₂.base (L.step B (st.trans st₂)) fun v s₃ u σ₃ r st₃ q => ⟨u, σ₃, r, (st.trans st₂).trans st₃, q⟩
    cases op <;> cases b <;> simp only [shorts, Bool.not_true, Bool.not_false, Bool.false_eq_true, if_false, if_true] at q
    · exact wpAny_pure ⟨u, σ₂, hr, st.trans st₂, q⟩
    · exact more q
    · exact more q
    · exact wpAny_pure ⟨u, σ₂, hr, st.trans st₂, q⟩
theorem WE_not {e : Expr} {p : Pos} (h : WE c d sc e ρ σ (kTr (kNot (kBo Q)))) : WE c d sc (.UnaryOp .Not e p) ρ σ Q :=
  .mk fun A env s R O B L => by
    show wpAny _ _ (eval e env >>= fun v => standAt p >>= fun _ => holding [v] (unaryOp .Not v)) _ _ _
    refine wpAny_bind (h.seq R O B L fun v s₁ u σ₁ r st h₁ => wpAny_bind (wpAny_standAt (wpAny_holding ?_)))
    refine not_of (wpAny_mono (TruthP_ok (Q := fun b σ' => Q (.bool (!b)) σ') h₁ st.base r) (fun b s₂ ⟨σ₂, st₂, q⟩ => ⟨_, σ₂, Rep_bool, st.trans st₂, q⟩) fun _ _ z => z)
theorem WE_neg {i : Int} {k : Nat} {p p' : Pos} (h : Q (.int (-i)) σ) : WE c d sc (.UnaryOp .USub (.Constant (.int i) k p) p') ρ σ Q :=
  .mk fun A env s R O B L => by
    show wpAny _ _ (mkInt i >>= fun v => standAt p' >>= fun _ => holding [v] (unaryOp .USub v)) _ _ _
    exact wpAny_bind (wpAny_mkInt (wpAny_bind (wpAny_standAt (wpAny_holding (neg_int (Post.tok B Rep_int h))))))
theorem WE_if {t b o : Expr} {p : Pos} (h : WT c d sc t ρ σ (kIfE c d sc b o ρ Q)) : WE c d sc (.IfExp t b o p) ρ σ Q :=
  .mk fun A env s R O B L => by
    show wpAny _ _ (isTrue t env (eval t env) >>= fun x => if x then eval b env else eval o env) _ _ _
    refine wpAny_bind (h.seq R O B L fun x s₁ σ₁ st q => ?_)
    cases x with
    | true => exact (show WE c d sc b ρ σ₁ Q from by first | (simpa using q; done) | (simpa [kAnd, kOr, kIfE] using q)).seq R O st.base (L.step B st) fun v s₂ u σ₂ r st₂ q => ⟨u, σ₂, r, st.trans st₂, q⟩
    | false => exact (show WE c d sc o ρ σ₁ Q from by first | (simpa using q; done) | (simpa [kAnd, kOr, kIfE] using q)).seq R O st.base (L.step B st) fun v s₂ u σ₂ r st₂ q => ⟨u, σ₂, r, st.trans st₂, q⟩
noncomputable def noStar : Expr → Bool
  | .Starred .. => false
  | _ => true
theorem starEach_cons {e : Expr} {rest : List Expr} {env : Env} (h : noStar e = true) : starEach (e :: rest) env = (false, eval e env) :: starEach rest env := by
  cases e <;> first | rfl | (exact absurd h Bool.false_ne_true)
theorem WL_nil {Q : List V → Store → Prop} (h : Q [] σ) : WL c d sc [] ρ σ Q := by
  unfold WL
  exact fun A env s R O B L pos => wpAny_pure ⟨[], σ, rfl, Stp.refl B, h⟩
theorem RepL_cons {C : Cls → Addr} {h : Heap} {u : V} {us : List V} {v : Value} {vs : List Value} (a : Rep C h u v) (b : RepL C h us vs) : RepL C h (u :: us) (v :: vs) := ⟨v, vs, rfl, a, b⟩
theorem WL_cons {e : Expr} {rest : List Expr} {Q : List V → Store → Prop} (h : WE c d sc e ρ σ (kL c d sc rest ρ Q)) (hs : noStar e = true := by rfl) : WL c d sc (e :: rest) ρ σ Q := by
  unfold WL
  intro A env s R O B L pos
  rw [starEach_cons hs]
  show wpAny _ _ (eval e env >>= fun v => pure [v] >>= fun here => holding here (spliced (backTo pos (starEach rest env))) >>= fun more => pure (here ++ more)) _ _ _
  refine wpAny_bind (h.seq R O B L fun v s₁ u σ₁ r st h₁ => wpAny_bind (wpAny_pure (wpAny_bind (wpAny_holding (h₁.seq R O st.base (L.step B st) pos fun vs s₂ us σ₂ rs st₂ q => wpAny_pure ?_)))))
  exact ⟨u :: us, σ₂, RepL_cons (r.step st.base st₂) rs, st.trans st₂, q⟩
theorem WE_tup {es : List Expr} {k : Nat} {p : Pos} (h : WL c d sc es ρ σ (kTup Q)) : WE c d sc (.Tuple es k p) ρ σ Q :=
  .mk fun A env s R O B L => Tuple_ (h.seq R O B L p fun vs s₁ us σ₁ r st q => by
    refine wpAny_newObj_type (Post.after st (Post.tuple st.base r q.2)) ?_
    show vs.toArray.size ≤ sizeLine
    rw [List.size_toArray, r.length]; exact q.1)
theorem WE_lst {es : List Expr} {p : Pos} (h : WL c d sc es ρ σ (kLst Q)) : WE c d sc (.List es p) ρ σ Q :=
  .mk fun A env s R O B L => List_ (h.seq R O B L p fun vs s₁ us σ₁ r st q => by
    refine wpAny_newObj_type ?_ ?_
    · exact Post.after st ⟨.lst _, _, Rep_lst, (Stp.push st.base _).new (get_size _) (RepO_list (Heap.get?_push_size _ rfl) (r.push _)) (st.base.off_new (get_size _)), q.2 _ (st.base.fresh (get_size _))⟩
    · show vs.toArray.size ≤ sizeLine
      rw [List.size_toArray, r.length]; exact q.1)
end
section
variable {c : Cx} {d : Nat} {sc : Scope} {ρ : Locals} {σ : Store} {Q : V → Store → Prop}
@[irreducible] noncomputable def WJ (c : Cx) (d : Nat) (sc : Scope) (es : List Expr) (acc : List Nat) (ρ : Locals) (σ : Store) (Q : V → Store → Prop) : Prop :=
  ∀ A env s, Room A d → EnvOK env sc → Base c σ s → Loc c env ρ σ s → wpAny (model c.prog c.w) A (joinParts (S acc) (evalEach es env)) (Post c σ s Q) noE s
noncomputable def StrP : V → (List Nat → Prop) → Prop
  | .str l, k => k l
  | _, _ => False
theorem WJ_nil {acc : List Nat} (h : Q (.str acc) σ) (hs : acc.length ≤ sizeLine) : WJ c d sc [] acc ρ σ Q := by
  unfold WJ
  exact fun A env s R O B L => joinParts_nil (Post.tok B Rep_str h) (by rw [S_length]; exact hs)
noncomputable abbrev kJ2 (c : Cx) (d : Nat) (sc : Scope) (r : List Expr) (acc : List Nat) (ρ : Locals) (Q : V → Store → Prop) (σ : Store) : List Nat → Prop := fun l => acc.length + l.length ≤ sizeLine ∧ WJ c d sc r (acc ++ l) ρ σ Q
noncomputable abbrev kJ (c : Cx) (d : Nat) (sc : Scope) (r : List Expr) (acc : List Nat) (ρ : Locals) (Q : V → Store → Prop) : V → Store → Prop := fun u σ => StrP u (kJ2 c d sc r acc ρ Q σ)
theorem WJ_cons {e : Expr} {rest : List Expr} {acc : List Nat} (h : WE c d sc e ρ σ (kJ c d sc rest acc ρ Q)) : WJ c d sc (e :: rest) acc ρ σ Q := by
  unfold WJ
  intro A env s R O B L
  refine joinParts_cons (h.seq R O B L fun v s₁ u σ₁ r st h₁ => ?_)
  cases u <;> first | exact h₁.elim | skip
  rename_i l
  obtain ⟨t, rfl⟩ := r
  obtain ⟨h1, h2⟩ := (h₁ : acc.length + l.length ≤ sizeLine ∧ WJ c d sc rest (acc ++ l) ρ σ₁ Q)
  refine ⟨by rw [S_append, S_length, List.length_append]; exact h1, ?_⟩
  rw [S_append]
  unfold WJ at h2
  exact wpPost st (h2 A env s₁ R O st.base (L.step B st))
theorem WE_join {e e' : Expr} {rest : List Expr} {p : Pos} (h : WJ c d sc (e :: e' :: rest) [] ρ σ Q) : WE c d sc (.JoinedStr (e :: e' :: rest) p) ρ σ Q :=
  .mk fun A env s R O B L => by
    unfold WJ at h
    exact JoinedStr_many (h A env s R O B L)
noncomputable def intText (i : Int) : List Nat := (Str.ofString (toString i)).cps.toList
noncomputable def FmtP : V → (List Nat → Prop) → Prop
  | .str l, k => l.length ≤ sizeLine ∧ k l
  | .int i, k => i.natAbs.log2 < 1920 ∧ k (intText i)
  | _, _ => False
noncomputable abbrev kS (Q : V → Store → Prop) : List Nat → Store → Prop := fun l σ => Q (.str l) σ
noncomputable abbrev kFmt (Q : V → Store → Prop) : V → Store → Prop := fun u σ => FmtP u (kAt (kS Q) σ)
theorem WE_fmt {e : Expr} {p : Pos} (h : WE c d sc e ρ σ (kFmt Q)) : WE c d sc (.FormattedValue e (-1) none p) ρ σ Q :=
  .mk fun A env s R O B L => FormattedValue_plain (h.seq R O B L fun v s₁ u σ₁ r st h₁ => by
    cases u <;> first | exact h₁.elim | skip
    · rename_i i
      obtain ⟨t, rfl⟩ := r
      obtain ⟨h1, h2⟩ := (h₁ : i.natAbs.log2 < 1920 ∧ Q (.str (intText i)) σ₁)
      exact wpAny_formatField_int h1 (Post.after st (Post.tok st.base (u := .str (intText i)) (by unfold intText; rw [← S_toList (Str.ofString (toString i))]; exact Rep_str) h2))
    · rename_i l
      obtain ⟨t, rfl⟩ := r
      obtain ⟨h1, h2⟩ := (h₁ : l.length ≤ sizeLine ∧ Q (.str l) σ₁)
      exact formatField_str (fun t' tk => Post.after st (Post.tok st.base Rep_str h2)) (by rw [S_length]; exact h1))
noncomputable def lkA (x : Str) : List (Str × V) → Option V
  | [] => none
  | (y, v) :: r => if x = y then some v else lkA x r
noncomputable def fieldOK (K : Frag) (C : Addr) (x : Str) : Bool := plainGet K C x && hasDictIn K C && (match findIn K (.ref C) x with | some attr => noGet K attr | none => false)
theorem RepNs.get {P : Params} {C : Cls → Addr} {h : Heap} {x : Str} : ∀ {m : List (Str × V)} {es : List DictEntry} {u : V}, RepNs P C h m es → lkA x m = some u → ∃ v, getL x es = some (some v) ∧ Rep C h u v
  | [], _, _, _, e => by cases e
  | (y, w) :: m, _, u, r, e => by
    obtain ⟨en, es', rfl, ⟨t, hk⟩, _, hv, r⟩ := r
    unfold lkA at e
    unfold getL
    by_cases q : x = y
    · subst q
      rw [if_pos rfl] at e
      cases e
      refine ⟨en.val, ?_, hv⟩
      rw [List.find?_cons, show en.key.isStr x = true from by rw [hk]; simp [Value.isStr]]
    · rw [if_neg q] at e
      obtain ⟨v, h1, h2⟩ := RepNs.get r e
      refine ⟨v, ?_, h2⟩
      have hne : en.key.isStr x = false := by rw [hk]; simp only [Value.isStr]; exact beq_eq_false_iff_ne.mpr fun z => q z.symm
      have hr : en.refKey = false := by unfold DictEntry.refKey; rw [hk]
      unfold getL at h1
      rw [List.find?_cons, hne, List.any_cons, hr]
      exact h1
theorem RepNs.none {P : Params} {C : Cls → Addr} {h : Heap} {x : Str} : ∀ {m : List (Str × V)} {es : List DictEntry}, RepNs P C h m es → lkA x m = none → getL x es = some Option.none
  | [], _, r, e => by obtain rfl := r; rfl
  | (y, w) :: m, _, r, e => by
    obtain ⟨en, es', rfl, ⟨t, hk⟩, _, hv, r⟩ := r
    unfold lkA at e
    unfold getL
    by_cases q : x = y
    · rw [if_pos q] at e; cases e
    · rw [if_neg q] at e
      have h1 := RepNs.none r e
      have hne : en.key.isStr x = false := by rw [hk]; simp only [Value.isStr]; exact beq_eq_false_iff_ne.mpr fun z => q z.symm
      have hr : en.refKey = false := by unfold DictEntry.refKey; rw [hk]
      unfold getL at h1
      rw [List.find?_cons, hne, List.any_cons, hr]
      exact h1
theorem Base.K {s : Shared} (OK : CxOK c) (B : Base c σ s) : c.K.In s.heap := OK.KX.keeps B.ground
theorem inst_at {s : Shared} {a dx : Addr} {C : Addr} {m : List (Str × V)} (B : Base c σ s) (h1 : s.heap.get? a = some (instObj C dx)) (h2 : σ dx = some (.ns m)) : ∃ es n, RepNs c.w.params c.C s.heap m es ∧ s.heap.get? dx = some (dictOf es n) ∧ InstAt s.heap a (instObj C dx) C (some (dictOf es n)) := by
  obtain ⟨es, n, ho, r⟩ := B.objs _ _ h2
  exact ⟨es, n, r, ho, h1, rfl, rfl, ho⟩
noncomputable def hInst : V → Option (Cls × Addr)
  | .inst k dx => some (k, dx)
  | _ => none
inductive kAttr (c : Cx) (x : Str) (Q : V → Store → Prop) (u : V) (σ₁ : Store) : Prop
  | mk (k : Cls) (dx : Addr) (m : List (Str × V)) (v : V) (e : u = .inst k dx) (h : σ₁ dx = some (.ns m)) (f : fieldOK c.K (c.C k) x = true) (l : lkA x m = some v) (n : ∀ y, v ≠ .val y) (q : Q v σ₁)
theorem Rep.handed {C : Cls → Addr} {h : Heap} {w : V} {v : Value} (r : Rep C h w v) (hv : ∀ y, w ≠ .val y) : handedIn v = true := by
  cases w with
  | none => obtain rfl := r; rfl
  | bool => obtain rfl := r; rfl
  | int => obtain ⟨_, rfl⟩ := r; rfl
  | str => obtain ⟨_, rfl⟩ := r; rfl
  | tup => obtain ⟨_, _, _, rfl, _⟩ := r; rfl
  | lst => obtain rfl := r; rfl
  | dct => obtain rfl := r; rfl
  | inst => obtain ⟨_, rfl, _⟩ := r; rfl
  | rng => obtain ⟨_, _, _, _, rfl, _⟩ := r; rfl
  | val y => exact absurd rfl (hv y)
theorem attr_get (OK : CxOK c) {A : Around} {s s₁ : Shared} {σ₁ : Store} {x : Str} {u : V} {v : Value} {Q' : Value → Shared → Prop} {E : Value → Shared → Prop} (st : Stp c noX σ s σ₁ s₁) (r : Rep c.C s₁.heap u v) (h₁ : kAttr c x Q u σ₁)
    (f : ∀ w wv n, Rep c.C s₁.heap w wv → Q w σ₁ → Q' wv { s₁ with toks := n }) : wpAny (model c.prog c.w) A (getAttr v x true) Q' E s₁ := by
  obtain ⟨k, dx, m, w, rfl, hm, hf, hl, hnv, q⟩ := h₁
  obtain ⟨a, rfl, ha⟩ := r
  obtain ⟨es, n, rn, _, I⟩ := inst_at st.base ha hm
  obtain ⟨wv, g1, g2⟩ := rn.get hl
  unfold fieldOK at hf
  obtain ⟨hf, f3⟩ := Bool.and_eq_true_iff.mp hf
  obtain ⟨f1, f2⟩ := Bool.and_eq_true_iff.mp hf
  cases hattr : findIn c.K (.ref (c.C k)) x with
  | none => rw [hattr] at f3; cases f3
  | some attr => rw [hattr] at f3; exact get_value (st.base.K OK) I (plainGet_of f1).1 (findObj_own f2 hattr f3 g1) (g2.handed hnv) (f w wv _ g2 q)
theorem WE_attr (OK : CxOK c) {o : Expr} {x : Str} {p : Pos} (hsup : ∀ (env : Env) (t : Sem Value), attributeBase o x env t = t)
    (h : WE c d sc o ρ σ (kAttr c x Q)) : WE c d sc (.Attribute o x p) ρ σ Q :=
  .mk fun A env s R O B L => by
    show wpAny _ _ (attributeBase o x env (eval o env) >>= fun ov => standAt p.atName >>= fun _ => holding [ov] (getAttr ov x true) >>= fun r => letTemporaryGo o ov r >>= fun _ => pure r) _ _ _
    refine via_b (hsup _ _) ?_
    refine wpAny_bind (h.seq R O B L fun v s₁ u σ₁ r st h₁ => wpAny_bind (wpAny_standAt (wpAny_bind (wpAny_holding ?_))))
    exact attr_get OK st r h₁ fun w wv n g2 q => wpAny_bind (wpAny_letTemporaryGo (wpAny_pure ⟨w, σ₁, g2, st.toks _, q⟩))
noncomputable def noSlice (i : Expr) : Prop := ∀ o v, subscripted i false o v = operate [o, v] (getItem o v)
inductive ItemP : V → V → Store → (V → Prop) → Prop
  | tup {vs : List V} {i : Int} {σ : Store} {k : V → Prop} {v : V} (h0 : 0 ≤ i ∧ i < 2 ^ 62) (e : vs[i.toNat]? = some v) (h : k v) : ItemP (.tup vs) (.int i) σ k
  | lst {a : Addr} {vs : List V} {i : Int} {σ : Store} {k : V → Prop} {v : V} (h0 : 0 ≤ i ∧ i < 2 ^ 62) (hs : σ a = some (.list vs)) (e : vs[i.toNat]? = some v) (h : k v) : ItemP (.lst a) (.int i) σ k
  | str {l : List Nat} {i : Int} {σ : Store} {k : V → Prop} {x : Nat} (h0 : 0 ≤ i ∧ i < 2 ^ 62) (e : l[i.toNat]? = some x) (h : k (.str [x])) : ItemP (.str l) (.int i) σ k
noncomputable abbrev jSub (Q : V → Store → Prop) : V → V → Store → Prop := fun u j σ => ItemP u j σ (kAt Q σ)
theorem WE_sub {o i : Expr} {p : Pos} (h : WE c d sc o ρ σ (k2 c d sc i ρ (jSub Q))) (hi : noSlice i := by exact fun _ _ => rfl) : WE c d sc (.Subscript o i p) ρ σ Q :=
  .mk fun A env s R O B L => Subscript_ (h.seq R O B L fun vo s₁ u σ₁ ro st₁ h₁ => h₁.seq R O st₁.base (L.step B st₁) fun vi s₂ j σ₂ ri st₂ h₂ => by
    have ro := ro.step st₁.base st₂
    have B₂ := st₂.base
    have st := st₁.trans st₂
    refine wpPost st ?_
    have h₂ : ItemP u j σ₂ (kAt Q σ₂) := h₂
    generalize hk : kAt Q σ₂ = k at h₂
    induction h₂ with
    | tup h0 e q =>
      subst hk
      obtain ⟨a, items, n, rfl, ho, l⟩ := ro
      obtain ⟨t, rfl⟩ := ri
      obtain ⟨w, e', rw'⟩ := l.get e
      have hlen := l.length
      have hlt := (List.getElem?_eq_some_iff.mp e).1
      obtain ⟨h0, h1⟩ := h0
      exact item_tupleT (l := items) (j := _) ⟨_, ho, rfl, _, rfl⟩ (by omega) (by omega) (StrLaws.seqIndex_nonneg h0 (by rw [hlen]; omega)) e' (Post.here B₂ rw' q) (hi _ _)
    | lst h0 hs e q =>
      subst hk
      subst ro
      obtain ⟨t, rfl⟩ := ri
      obtain ⟨h0, h1⟩ := h0
      obtain ⟨items, n, ho, l⟩ := B₂.objs _ _ hs
      obtain ⟨w, e', rw'⟩ := l.get e
      exact tail_any (Heap.IsList.typeIs ⟨_, ho, rfl, _, rfl⟩) slot_list_getitem.lookup (wpAny_getItem_list (items := items.toArray) ⟨_, ho, rfl, _, rfl⟩ h0 (by omega) (by simpa using e') (Post.here B₂ rw' q)) (hi _ _)
    | str h0 e q =>
      subst hk
      obtain ⟨t, rfl⟩ := ro
      obtain ⟨t', rfl⟩ := ri
      obtain ⟨h0, h1⟩ := h0
      refine tail_any (typeIs_str _ _ _) F.slot_str_getitem.lookup (getItem_str ?_ ?_ (Post.tok B₂ (Rep_str (l := [_])) q)) (hi _ _)
      · simp only [Bool.or_eq_false_iff, decide_eq_false_iff_not]; omega
      · exact StrLaws.at_nonneg h0 (by simpa using e))
end
set_option tactic.hygienic false
noncomputable def cut {α : Type} (l : List α) (i j : Int) : List α := (l.drop i.toNat).take (j.toNat - i.toNat)
theorem mx (a L : Nat) : max (0 : Int) (min (a : Int) (L : Int)) = ((min a L : Nat) : Int) := by omega
theorem mm (a L : Nat) : min (min a L) L = min a L := by rw [Nat.min_assoc, Nat.min_self]
theorem cut_ends (m n L : Nat) : Builtin.Str.strSliceIndices (some (m : Int)) (some (n : Int)) 1 L = Builtin.Str.strSliceIndices (some ((min (min m n) L : Nat) : Int)) (some ((min n L : Nat) : Int)) 1 L := by
  unfold Builtin.Str.strSliceIndices sliceRange
  simp only [show (1 : Int) > 0 by decide, if_true]
  rw [if_neg (Int.not_lt.mpr (Int.natCast_nonneg m)), if_neg (Int.not_lt.mpr (Int.natCast_nonneg n)), if_neg (Int.not_lt.mpr (Int.natCast_nonneg (min (min m n) L))), if_neg (Int.not_lt.mpr (Int.natCast_nonneg (min n L))), mx, mx, mx, mx, mm, mm]
  by_cases h : m ≤ n
  · rw [Nat.min_eq_left h]
  · have h' : n ≤ m := Nat.le_of_not_le h
    rw [Nat.min_eq_right h', if_neg (Int.lt_irrefl _), if_neg (fun z => Nat.not_lt.mpr (Nat.le_min.mpr ⟨Nat.le_trans (Nat.min_le_left n L) h', Nat.min_le_right n L⟩) (Int.ofNat_lt.mp z))]
    rfl
theorem cut_ends2 {α : Type} (l : List α) (m n : Nat) : (l.drop (min (min m n) l.length)).take (min n l.length - min (min m n) l.length) = (l.drop m).take (n - m) := by
  by_cases h : m ≤ n
  · rw [Nat.min_eq_left h]
    by_cases h2 : m ≤ l.length
    · rw [Nat.min_eq_left h2]
      by_cases h3 : n ≤ l.length
      · rw [Nat.min_eq_left h3]
      · have h3' := Nat.le_of_not_le h3
        rw [Nat.min_eq_right h3', List.take_of_length_le (by rw [List.length_drop]; exact Nat.le_refl _), List.take_of_length_le (by rw [List.length_drop]; exact Nat.sub_le_sub_right h3' m)]
    · have h2' := Nat.le_of_not_le h2
      rw [Nat.min_eq_right h2', List.drop_length, List.drop_of_length_le h2', List.take_nil, List.take_nil]
  · have h' := Nat.le_of_not_le h
    rw [Nat.min_eq_right h', Nat.sub_eq_zero_of_le h', Nat.sub_self, List.take_zero, List.take_zero]
theorem slice_cut (l : List Nat) {i j : Int} (hi : 0 ≤ i) (hj : 0 ≤ j) : Txt.slice (S l) (some i) (some j) = S (cut l i j) := by
  obtain ⟨m, rfl⟩ := Int.eq_ofNat_of_zero_le hi
  obtain ⟨n, rfl⟩ := Int.eq_ofNat_of_zero_le hj
  clear hi hj
  have e : Txt.slice (S l) (some (m : Int)) (some (n : Int)) = Txt.slice (S l) (some ((min (min m n) l.length : Nat) : Int)) (some ((min n l.length : Nat) : Int)) := by
    unfold Txt.slice; rw [S_length, cut_ends]
  rw [e]
  have := StrLaws.sliceText_nat (S l) (a := min (min m n) l.length) (b := min n l.length) (Nat.le_min.mpr ⟨Nat.le_trans (Nat.min_le_left _ _) (Nat.min_le_right _ _), Nat.min_le_right _ _⟩) (by rw [S_length]; exact Nat.min_le_right _ _)
  refine Eq.trans (show Txt.slice _ _ _ = StrLaws.sliceText _ _ _ from rfl) (this.trans ?_)
  unfold cut
  show S _ = S _
  congr 1
  exact cut_ends2 l m n
section
variable {c : Cx} {d : Nat} {sc : Scope} {ρ : Locals} {σ : Store} {Q : V → Store → Prop}
theorem Stp.pushS {σ' : Store} {s s' : Shared} (st : Stp c noX σ s σ' s') (o : Obj) : Stp c noX σ s σ' { s' with heap := s'.heap.push o } := st.trans (Stp.push st.base o)
inductive IntP2 : V → V → V → (List Nat → Int → Int → Prop) → Prop
  | mk {l : List Nat} {i j : Int} {k : List Nat → Int → Int → Prop} (h : k l i j) : IntP2 (.str l) (.int i) (.int j) k
theorem IntP2.inv {u i j : V} {k : List Nat → Int → Int → Prop} (h : IntP2 u i j k) : ∃ l a b, u = .str l ∧ i = .int a ∧ j = .int b ∧ k l a b := by
  induction h with
  | mk h => exact ⟨_, _, _, rfl, rfl, rfl, h⟩
noncomputable abbrev jSlc (Q : V → Store → Prop) : V → V → V → Store → Prop := fun u i j σ => IntP2 u i j fun l i j => (0 ≤ i ∧ 0 ≤ j ∧ l.length ≤ sizeLine) ∧ Q (.str (cut l i j)) σ
noncomputable abbrev k3 (c : Cx) (d : Nat) (sc : Scope) (r : Expr) (ρ : Locals) (J : V → V → V → Store → Prop) : V → V → Store → Prop := fun a b σ => WE c d sc r ρ σ (J a b)
theorem WE_slice {o a b : Expr} {p p' : Pos} (h : WE c d sc o ρ σ (k2 c d sc a ρ (k3 c d sc b ρ (jSlc Q)))) :
    WE c d sc (.Subscript o (.Slice (some a) (some b) none p') p) ρ σ Q :=
  .mk fun A env s R O B L => Subscript_ (h.seq R O B L fun vo s₁ u σ₁ ro st₁ h₁ => wpAny_Slice (h₁.seq R O st₁.base (L.step B st₁) fun vi s₂ i σ₂ ri st₂ h₂ => h₂.seq R O st₂.base (L.step B (st₁.trans st₂)) fun vj s₃ j σ₃ rj st₃ h₃ => wpAny_pure (a := Value.none) (by
    have ro := (ro.step st₁.base st₂).step st₂.base st₃
    have ri := ri.step st₂.base st₃
    have st := (st₁.trans st₂).trans st₃
    obtain ⟨l, i, j, rfl, rfl, rfl, ⟨h1, h2, h3⟩, q⟩ := h₃.inv
    obtain ⟨t, rfl⟩ := ro
    obtain ⟨t1, rfl⟩ := ri
    obtain ⟨t2, rfl⟩ := rj
    refine tail_any (typeIs_str _ _ _) F.slot_str_getitem.lookup (wpAny_getItem_str_slice (l := some (i, t1)) (u := some (j, t2)) (st := none) ⟨_, Heap.get?_push_size _ rfl, rfl, rfl⟩ rfl
      (post_val_or_str ⟨Nat.le_trans (Txt.slice_le (S l) (some i) (some j)) (by rw [S_length]; exact h3), fun t' k => ?_⟩)) (ops := [.ref _, .str _ _]) rfl
    have e := slice_cut l h1 h2
    show Post c σ s Q (.str (Txt.slice (S l) (some i) (some j)) t') _
    rw [e]
    exact ⟨.str (cut l i j), σ₃, Rep_str, (st.pushS _).toks _, q⟩)))
noncomputable def ListAt (c : Cx) (σ : Store) (a : Addr) (vs : List V) : Prop := σ a = some (.list vs) ∨ ∃ items n, c.g.get? a = some (lstObj items n) ∧ RepL c.C c.g vs items
theorem ListAt.rep {s : Shared} {a : Addr} {vs : List V} (h : ListAt c σ a vs) (B : Base c σ s) : ∃ items n, s.heap.get? a = some (lstObj items n) ∧ RepL c.C s.heap vs items := by
  rcases h with h | ⟨items, n, h1, h2⟩
  · exact B.objs _ _ h
  · exact ⟨items, n, B.ground _ _ h1, h2.keeps fun a o e _ => B.ground a o e⟩
theorem RepL.take {C : Cls → Addr} {h : Heap} : ∀ {x : List V} {v : List Value} (k : Nat), RepL C h x v → RepL C h (x.take k) (v.take k)
  | _, _, 0, r => rfl
  | [], _, k + 1, r => by obtain rfl := r; exact rfl
  | _ :: _, _, k + 1, r => by
    obtain ⟨v, vs', rfl, a, b⟩ := r
    exact RepL_cons a (b.take k)
noncomputable abbrev jUp (c : Cx) (Q : V → Store → Prop) : V → V → Store → Prop := fun u j σ₂ => ∃ a vs k, u = .lst a ∧ j = .int k ∧ ListAt c σ₂ a vs ∧ 0 ≤ k ∧ vs.length ≤ sizeLine ∧ ∀ x, σ₂ x = none → Q (.lst x) (σ₂.set x (.list (vs.take k.toNat)))
theorem WE_upto {o b : Expr} {p p' : Pos} (h : WE c d sc o ρ σ (k2 c d sc b ρ (jUp c Q))) :
    WE c d sc (.Subscript o (.Slice none (some b) none p') p) ρ σ Q :=
  .mk fun A env s R O B L => Subscript_ (h.seq R O B L fun vo s₁ u σ₁ ro st₁ h₁ => wpAny_Slice (wpAny_pure (a := Value.none) (h₁.seq R O st₁.base (L.step B st₁) fun vj s₂ j σ₂ rj st₂ h₂ => wpAny_pure (a := Value.none) (by
    have ro := ro.step st₁.base st₂
    have st := st₁.trans st₂
    obtain ⟨a, vs, k, rfl, rfl, hl, hk, hz, q⟩ := h₂
    subst ro
    obtain ⟨t, rfl⟩ := rj
    obtain ⟨items, n, ho, rl⟩ := hl.rep st.base
    have hlen := rl.length
    have il : (s₂.heap.push { cls := .type "slice", data := .fields #[.none, .int k t, .none] }).IsList a items.toArray := ⟨_, Heap.get?_push_of_some _ ho, rfl, _, rfl⟩
    refine tail_any (Heap.IsList.typeIs (s := { s₂ with heap := s₂.heap.push _ }) il) list_getitem_lookup
      (wpAny_getItem_list_slice il (Heap.IsSliceOf.new ..) .none (.int k t) .none (by simp) ?_ (by rw [List.size_toArray, hlen]; exact hz)) (ops := [.ref _, .ref _]) rfl
    have e : slicePick items.toArray none (some k) none = (items.take k.toNat).toArray := by
      have := slicePick_upto' items.toArray k.toNat
      rw [show ((k.toNat : Nat) : Int) = k by omega] at this
      exact this
    rw [e]
    have st' := st.pushS { cls := .type "slice", data := .fields #[.none, .int k t, .none] }
    have st'' := st'.trans ((Stp.push st'.base { cls := .type "list", data := .seq (items.take k.toNat).toArray }).new (get_size _) (RepO_list (items := items.take k.toNat) (n := 0) (Heap.get?_push_size _ rfl) (((rl.push _).push _).take _)) (st'.base.off_new (get_size _)))
    exact ⟨.lst _, _, Rep_lst, st'', q _ (st'.base.fresh (get_size _))⟩))))
theorem WE_nodict {p : Pos} (h : ∀ a, σ a = none → Q (.dct a) (σ.set a (.map []))) : WE c d sc (.Dict [] [] p) ρ σ Q :=
  .mk fun A env s R O B L => by
    refine wpAny_Dict_empty ?_
    exact ⟨.dct _, _, Rep_dct, (Stp.push B _).new (get_size _) (show RepO c _ _ (.map []) from ⟨[], Heap.DictOf.new _, Nat.le_refl _, fun _ => rfl⟩) (B.off_new (get_size _)), h _ (B.fresh (get_size _))⟩
noncomputable def Kp (c : Cx) (f : Value) : Prop := (∃ i, f = .builtin i) ∨ (∃ t, f = .type t) ∨ keepIn c.K f = true
theorem Kp.looks {f : Value} (OK : CxOK c) (k : Kp c f) (M : Model) (h : Heap) (g : ∀ b o, c.g.get? b = some o → h.get? b = some o) : ∃ k, (k = Keeper.frame ∨ k = Keeper.machine ∨ k = Keeper.boundFrame) ∧ Looks M h (keeperOf f) k := by
  rcases k with ⟨i, rfl⟩ | ⟨t, rfl⟩ | k
  · exact ⟨.machine, .inr (.inl rfl), Looks.of_pure rfl⟩
  · exact ⟨.machine, .inr (.inl rfl), Looks.of_pure rfl⟩
  · exact keeps_K k h (OK.KX.keeps g)
theorem noStars_any : ∀ {es : List Expr} {env : Env} {pos : Pos}, es.all noStar = true → (backTo pos (starEach es env)).any (·.1) = false
  | [], _, _, _ => rfl
  | e :: es, env, pos, h => by
    rw [List.all_cons, Bool.and_eq_true] at h
    rw [starEach_cons h.1]
    show (false || (backTo pos (starEach es env)).any (·.1)) = false
    rw [noStars_any h.2]; rfl
theorem callW {f : Value} (OK : CxOK c) (k : Kp c f) {A : Around} {env : Env} {s : Shared} {es : List Expr} {pos : Pos} {first : List Value} {Q' : Value → Shared → Prop} (hn : es.all noStar = true)
    (h : wpAny (model c.prog c.w) A (spliced (backTo pos (starEach es env))) (fun vs s₁ => (∀ b o, c.g.get? b = some o → s₁.heap.get? b = some o) ∧ wpAny (model c.prog c.w) A (call f (first ++ vs)) Q' noE s₁) noE s) :
    wpAny (model c.prog c.w) A (callWith pos f first (backTo pos (starEach es env)) []) Q' noE s := by
  refine callWith_of (P := fun h => ∀ b o, c.g.get? b = some o → h.get? b = some o) (by rw [noStars_any hn]; rfl) (fun h g => k.looks OK _ h g) ?_
  cases es with
  | nil => exact fun Γ p hΓ => evalArgs_nil3 (Q := fun a s₁ => (∀ b o, c.g.get? b = some o → s₁.heap.get? b = some o) ∧ wpAny (model c.prog c.w) A (call f (first ++ a.pos) a.kw) Q' noE s₁) (h Γ p hΓ) Γ p hΓ
  | cons e es =>
    rw [List.all_cons, Bool.and_eq_true] at hn
    rw [starEach_cons hn.1] at h ⊢
    exact evalArgs_plain h
noncomputable abbrev kCV (c : Cx) (d : Nat) (f : Value) (Q : V → Store → Prop) : List V → Store → Prop := fun us σ => CV c d f us σ Q
theorem WE_call (OK : CxOK c) {x : Str} {p p' : Pos} {es : List Expr} {f : Value} (h1 : okGlobal sc x = true) (h2 : GV c x f) (k : Kp c f) (h : WL c d sc es ρ σ (kCV c d f Q)) (hn : es.all noStar = true) :
    WE c d sc (.Call (.Name x p) es [] p') ρ σ Q :=
  .mk fun A env s R O B L => by
    show wpAny _ _ (eval (.Name x p) env >>= fun fv => callWith p' fv [] (backTo p' (starEach es env)) (backToKw p' (keywordEach [] env))) _ _ _
    refine wpAny_bind (glob_name OK h1 h2 O B ?_)
    exact callW OK k hn (h.seq R O B L p' fun vs s₁ us σ₁ r st h₁ => ⟨st.base.ground, h₁.seq R st.base r fun v s₂ u σ₂ r₂ st₂ q => ⟨u, σ₂, r₂, st.trans st₂, q⟩⟩)
@[irreducible] noncomputable def GM (c : Cx) (σ : Store) (u : V) (m : Str) (f : Value) : Prop :=
  Kp c f ∧ ∀ A s v pl (Q' : Value × List Value → Shared → Prop), Base c σ s → Rep c.C s.heap u v → Q' (f, [v]) s → wpAny (model c.prog c.w) A (getMethod v m pl) Q' noE s
noncomputable def notSuper (o : Expr) : Prop := ∀ (x : Str) (env : Env) (t : Sem Value), attributeBase o x env t = t
noncomputable abbrev kMeth (c : Cx) (d : Nat) (sc : Scope) (es : List Expr) (m : Str) (ρ : Locals) (Q : V → Store → Prop) : V → Store → Prop := fun u σ₁ => ∃ f, GM c σ₁ u m f ∧ WL c d sc es ρ σ₁ (kCons (kCV c d f Q) u)
theorem WE_meth (OK : CxOK c) {o : Expr} {m : Str} {p p' : Pos} {es : List Expr} (h : WE c d sc o ρ σ (kMeth c d sc es m ρ Q)) (hs : notSuper o := by exact fun _ _ _ => rfl) (hn : es.all noStar = true := by rfl) (hf : es.length < 30 := by decide) (hp : p.endLine = p'.line := by rfl) :
    WE c d sc (.Call (.Attribute o m p) es [] p') ρ σ Q :=
  .mk fun A env s R O B L => by
    show wpAny _ _ (attributeBase o m env (eval o env) >>= fun ov => standAt p.atName >>= fun _ => methodCall o m p p' env ov (es.length + 0) (backTo p' (starEach es env)) (backToKw p' (keywordEach [] env))) _ _ _
    refine via_b (hs _ _ _) ?_
    refine wpAny_bind (h.seq R O B L fun v s₁ u σ₁ r st h₁ => wpAny_bind (wpAny_standAt ?_))
    obtain ⟨f, hg, h₁⟩ := h₁
    unfold GM at hg
    have few : methodCallForm (es.length + 0) (backTo p' (starEach es env)) (backToKw p' (keywordEach [] env)) = true := by
      unfold methodCallForm
      have a : ((backTo p' (starEach es env)).all fun x => !x.1) = true := by
        have := noStars_any (env := env) (pos := p') hn
        rw [List.all_eq_not_any_not]
        simpa using this
      rw [a]
      rw [show backToKw p' (keywordEach [] env) = [] from rfl]
      simp [hf]
    unfold methodCall
    rw [few]
    refine wpAny_bind (wpAny_holding ?_)
    show wpAny _ _ (getMethod v m _) _ _ _
    refine hg.2 A s₁ v _ _ st.base r ?_
    dsimp only
    have hpos : methodCallPos true o env p p' = pure p' := by
      unfold methodCallPos
      simp [hp]
    rw [hpos]
    refine wpAny_bind (wpAny_pure ?_)
    exact callW OK hg.1 hn (h₁.seq R O st.base (L.step B st) p' fun vs s₂ us σ₂ rs st₂ h₂ => ⟨st₂.base.ground, h₂.seq R st₂.base (RepL_cons (r.step st.base st₂) rs) fun w s₃ u' σ₃ r₃ st₃ q => ⟨u', σ₃, r₃, (st.trans st₂).trans st₃, q⟩⟩)
end
set_option tactic.hygienic true
set_option tactic.hygienic false
theorem Stp.frame {c : Cx} {X : Addr → Prop} {σ : Store} {s s' : Shared} {a : Addr} (B : Base c σ s) (ha : σ a = none) (hg : c.g.get? a = none) (hX : X a) (sb : Heap.SameBut a s.heap s'.heap)
    (so : ∀ o, s.heap.get? a = some o → ¬ Solid o) (hl : s'.heap.get? a ≠ none) (h1 : s'.gens = s.gens) (h2 : s'.os = s.os) : Stp c X σ s σ s' := by
  have sk : ∀ b o, s.heap.get? b = some o → Solid o → s'.heap.get? b = some o := fun b o e q => (sb.2 b fun z => so o (z ▸ e) q).trans e
  refine ⟨⟨fun b o e => ?_, fun b bo e => ?_, B.off, h1.trans B.gens, h2.trans B.os⟩, fun b h => ?_, fun b o e _ z => ?_, fun b h => .inl h⟩
  · exact (sb.2 b fun z => by rw [z, hg] at e; cases e).trans (B.ground b o e)
  · exact (B.objs b bo e).keeps (fun o z => (sb.2 b fun y => by rw [y, ha] at e; cases e).trans z) sk
  · by_cases q : b = a
    · subst q; exact hl
    · rw [sb.2 b q]; exact h
  · exact (sb.2 b fun y => z (y ▸ hX)).trans e
noncomputable def okLocal (sc : Scope) (x : Str) : Bool := (sc.names.lookup x == some .local || sc.names.lookup x == some .cell) && !(x == ("__debug__" : Str))
section
variable {c : Cx} {d : Nat} {sc : Scope} {ρ : Locals} {σ : Store}
theorem store_ok {M : Model} {A : Around} {E : Value → Shared → Prop} {env : Env} {s : Shared} {x : Str} {u : V} {v : Value} {Q' : Unit → Shared → Prop} (hk : okLocal sc x = true) (O : EnvOK env sc) (B : Base c σ s) (L : Loc c env ρ σ s) (r : Rep c.C s.heap u v)
    (k : ∀ s', Stp c (FX env) σ s σ s' → Loc c env ((x, u) :: ρ) σ s' → Q' () s') : wpAny M A (storeName env x v) Q' E s := by
  obtain ⟨hk, hd⟩ := Bool.and_eq_true_iff.mp hk
  have hd : (x == ("__debug__" : Str)) = false := by simpa using hd
  have hkind : env.scope.kind = .function := by rw [O.scope]; exact O.kind
  obtain ⟨m, hm, hn⟩ := L.at_
  obtain ⟨oL, esL, epL, hoL, hdL, hkL, hfL⟩ := id hm
  rcases Bool.or_eq_true_iff.mp hk with hk | hk
  · have hx : env.kindOf x = some .local := by unfold Env.kindOf; rw [O.scope]; exact beq_iff_eq.mp hk
    refine wpAny_storeName_local hx hm (fun h' hn' sb => ?_) (by rw [hkind]; rfl)
    have st : Stp c (FX env) σ s σ { s with heap := h', toks := s.toks + 1 } := Stp.frame B (L.off _ (.inl rfl)).1 (L.off _ (.inl rfl)).2 (.inl rfl) sb (fun o e => L.soft _ _ (.inl rfl) e) (by obtain ⟨_, _, _, e, _⟩ := hn'; exact some_ne e) rfl rfl
    have sk := st.solid B fun a o h e => L.soft a o h e
    have kc : ∀ y k, env.cells.lookup y = some k → ∀ o, s.heap.get? k = some o → h'.get? k = some o := fun y k e o ho => by
      obtain ⟨w, o', ho', hd'⟩ := L.cell y k e
      refine (sb.2 k fun z => ?_).trans ho
      rw [z, hoL] at ho'; cases ho'; rw [hdL] at hd'; cases hd'
    refine k _ st ⟨⟨_, hn', fun y w e => ?_⟩, fun y k e => ?_, L.inj, L.off⟩
    · unfold lk at e
      by_cases q : y = x
      · subst q; rw [if_pos rfl] at e; cases e
        exact ⟨hd, v, r.keeps sk, .inl ⟨hx, if_pos rfl⟩⟩
      · rw [if_neg q] at e
        obtain ⟨z0, w', z1, z2⟩ := hn y w e
        refine ⟨z0, w', z1.keeps sk, z2.imp (fun ⟨a, b⟩ => ⟨a, (if_neg q).trans b⟩) fun ⟨a, k, b, o, ho, hd'⟩ => ⟨a, k, b, o, kc y k b o ho, hd'⟩⟩
    · obtain ⟨w, o, ho, hd'⟩ := L.cell y k e
      exact ⟨w, o, kc y k e o ho, hd'⟩
  · have hx : env.kindOf x = some .cell := by unfold Env.kindOf; rw [O.scope]; exact beq_iff_eq.mp hk
    obtain ⟨kx, hkx⟩ := O.cells x (beq_iff_eq.mp hk)
    obtain ⟨v₀, hc⟩ := L.cell x kx hkx
    refine wpAny_storeName_cell hkind hx hkx hc (fun h' hc' sb => ?_)
    obtain ⟨ok, hok, hdk⟩ := id hc
    have hne : env.locals ≠ kx := fun z => by rw [← z, hoL] at hok; cases hok; rw [hdL] at hdk; cases hdk
    have st : Stp c (FX env) σ s σ { s with heap := h' } := Stp.frame B (L.off _ (.inr ⟨x, hkx⟩)).1 (L.off _ (.inr ⟨x, hkx⟩)).2 (.inr ⟨x, hkx⟩) sb (fun o e => L.soft _ _ (.inr ⟨x, hkx⟩) e) (by obtain ⟨_, e, _⟩ := hc'; exact some_ne e) rfl rfl
    have sk := st.solid B fun a o h e => L.soft a o h e
    refine k _ st ⟨⟨m, hm.sameBut sb hne, fun y w e => ?_⟩, fun y k e => ?_, L.inj, L.off⟩
    · unfold lk at e
      by_cases q : y = x
      · subst q; rw [if_pos rfl] at e; cases e
        exact ⟨hd, v, r.keeps sk, .inr ⟨.inl hx, kx, hkx, hc'⟩⟩
      · rw [if_neg q] at e
        obtain ⟨z0, w', z1, z2⟩ := hn y w e
        refine ⟨z0, w', z1.keeps sk, z2.imp id fun ⟨a, k, b, ic⟩ => ⟨a, k, b, ic.sameBut sb fun z => q (L.inj y x k b (z ▸ hkx))⟩⟩
    · by_cases q : k = kx
      · subst q; exact ⟨_, hc'⟩
      · obtain ⟨w, ic⟩ := L.cell y k e
        exact ⟨w, ic.sameBut sb q⟩
variable {Q : Fl → Locals → Store → Prop}
theorem WS.mk {st : Stmt} (h : ∀ A env s, Room A d → EnvOK env sc → Base c σ s → Loc c env ρ σ s → wpAny (model c.prog c.w) A (exec st env) (PostS c env σ s Q) noE s) : WS c d sc st ρ σ Q := by
  unfold WS; exact h
theorem WS.seq {st : Stmt} (h : WS c d sc st ρ σ Q) {A : Around} {env : Env} {s : Shared} (R : Room A d) (O : EnvOK env sc) (B : Base c σ s) (L : Loc c env ρ σ s) {Q' : Flow → Shared → Prop}
    (k : ∀ f s' fl ρ' σ', RepF c.C s'.heap fl f → Stp c (FX env) σ s σ' s' → Loc c env ρ' σ' s' → Q fl ρ' σ' → Q' f s') : wpAny (model c.prog c.w) A (exec st env) Q' noE s := by
  unfold WS at h
  exact wpAny_mono (h A env s R O B L) (fun v s' ⟨fl, ρ', σ', r, st, l, q⟩ => k v s' fl ρ' σ' r st l q) (fun _ _ z => z)
theorem WB.seq {b : List Stmt} (h : WB c d sc b ρ σ Q) {A : Around} {env : Env} {s : Shared} (R : Room A d) (O : EnvOK env sc) (B : Base c σ s) (L : Loc c env ρ σ s) {Q' : Flow → Shared → Prop}
    (k : ∀ f s' fl ρ' σ', RepF c.C s'.heap fl f → Stp c (FX env) σ s σ' s' → Loc c env ρ' σ' s' → Q fl ρ' σ' → Q' f s') : wpAny (model c.prog c.w) A (execs b env) Q' noE s := by
  unfold WB at h
  exact wpAny_mono (h A env s R O B L) (fun v s' ⟨fl, ρ', σ', r, st, l, q⟩ => k v s' fl ρ' σ' r st l q) (fun _ _ z => z)
theorem PostS.after {env : Env} {σ₁ : Store} {s s₁ s' : Shared} {f : Flow} (st : Stp c (FX env) σ s σ₁ s₁) (p : PostS c env σ₁ s₁ Q f s') : PostS c env σ s Q f s' :=
  let ⟨fl, ρ', σ', r, st', l, q⟩ := p; ⟨fl, ρ', σ', r, st.trans st', l, q⟩
theorem noX_FX {env : Env} {σ σ' : Store} {s s' : Shared} (st : Stp c noX σ s σ' s') : Stp c (FX env) σ s σ' s' := st.wide fun _ z => z.elim
theorem WB_nil (h : Q .next ρ σ) : WB c d sc [] ρ σ Q := by
  unfold WB
  exact fun A env s R O B L => wpAny_execs_nil ⟨.next, ρ, σ, rfl, Stp.refl B, L, h⟩
noncomputable def Thn (Q : Fl → Locals → Store → Prop) (k : Locals → Store → Prop) : Fl → Locals → Store → Prop
  | .next, ρ, σ => k ρ σ
  | .brk, ρ, σ => Q .brk ρ σ
  | .cont, ρ, σ => Q .cont ρ σ
  | .ret v, ρ, σ => Q (.ret v) ρ σ
noncomputable abbrev kB (c : Cx) (d : Nat) (sc : Scope) (b : List Stmt) (Q : Fl → Locals → Store → Prop) : Locals → Store → Prop := fun ρ σ => WB c d sc b ρ σ Q
theorem WB_cons {st : Stmt} {rest : List Stmt} (h : WS c d sc st ρ σ (Thn Q (kB c d sc rest Q))) : WB c d sc (st :: rest) ρ σ Q := by
  unfold WB
  intro A env s R O B L
  refine wpAny_execs_cons (h.seq R O B L fun f s₁ fl ρ₁ σ₁ r st₁ L₁ h₁ => ?_)
  cases fl with
  | next =>
    obtain rfl := (r : f = .next)
    exact (show WB c d sc rest ρ₁ σ₁ Q from h₁).seq R O st₁.base L₁ fun f s₂ fl ρ₂ σ₂ r₂ st₂ L₂ q => ⟨fl, ρ₂, σ₂, r₂, st₁.trans st₂, L₂, q⟩
  | brk => obtain rfl := (r : f = .brk); exact ⟨.brk, ρ₁, σ₁, rfl, st₁, L₁, h₁⟩
  | cont => obtain rfl := (r : f = .cont); exact ⟨.cont, ρ₁, σ₁, rfl, st₁, L₁, h₁⟩
  | ret v => obtain ⟨w, rfl, r⟩ := r; exact ⟨.ret v, ρ₁, σ₁, ⟨w, rfl, r⟩, st₁, L₁, h₁⟩
theorem interactive_of {env : Env} (O : EnvOK env sc) : interactive env = false := by
  unfold interactive; rw [O.scope, O.kind]; rfl
noncomputable def notComp (e : Expr) : Prop := ∀ (t : Option Expr) (n : Nat) (env : Env), swapsWith e t n env = pure false
noncomputable abbrev kX (Q : Fl → Locals → Store → Prop) (ρ : Locals) : V → Store → Prop := fun _ σ => Q .next ρ σ
noncomputable abbrev kR (Q : Fl → Locals → Store → Prop) (ρ : Locals) : V → Store → Prop := fun u σ => Q (.ret u) ρ σ
noncomputable abbrev kN (Q : Fl → Locals → Store → Prop) (ρ : Locals) (x : Str) : V → Store → Prop := fun u σ => Q .next ((x, u) :: ρ) σ
noncomputable abbrev kIf (c : Cx) (d : Nat) (sc : Scope) (b o : List Stmt) (ρ : Locals) (Q : Fl → Locals → Store → Prop) : Bool → Store → Prop := fun x σ => if x then WB c d sc b ρ σ Q else WB c d sc o ρ σ Q
theorem WS_expr {e : Expr} {p : Pos} (h : WE c d sc e ρ σ (kX Q ρ)) (hc : notComp e := by exact fun _ _ _ => rfl) : WS c d sc (.Expr e p) ρ σ Q :=
  .mk fun A env s R O B L => wpAny_Expr_any (h.seq R O B L fun v s₁ u σ₁ r st q => ⟨.next, ρ, σ₁, rfl, noX_FX st, L.step B st, q⟩) (interactive_of O) (hc _ _ _)
theorem WS_ret {e : Expr} {p : Pos} (h : WE c d sc e ρ σ (kR Q ρ)) : WS c d sc (.Return (some e) p) ρ σ Q :=
  .mk fun A env s R O B L => wpAny_Return_some (h.seq R O B L fun v s₁ u σ₁ r st q => ⟨.ret u, ρ, σ₁, ⟨v, rfl, r⟩, noX_FX st, L.step B st, q⟩)
theorem WS_retN {p : Pos} (h : Q (.ret .none) ρ σ) : WS c d sc (.Return none p) ρ σ Q :=
  .mk fun A env s R O B L => wpAny_Return_none ⟨.ret .none, ρ, σ, ⟨_, rfl, rfl⟩, Stp.refl B, L, h⟩
theorem WS_brk {p : Pos} (h : Q .brk ρ σ) : WS c d sc (.Break p) ρ σ Q :=
  .mk fun A env s R O B L => wpAny_bind (m := standAt p) (wpAny_standAt (wpAny_pure ⟨.brk, ρ, σ, rfl, Stp.refl B, L, h⟩))
theorem WS_name {x : Str} {e : Expr} {p p' : Pos} (h : WE c d sc e ρ σ (kN Q ρ x)) (hk : okLocal sc x = true := by decide +kernel) (hc : notComp e := by exact fun _ _ _ => rfl) : WS c d sc (.Assign [.Name x p'] e p) ρ σ Q :=
  .mk fun A env s R O B L => wpAny_Assign_Name (h.seq R O B L fun v s₁ u σ₁ r st q => store_ok hk O st.base (L.step B st) r fun s₂ st₂ L₂ => ⟨.next, _, σ₁, rfl, (noX_FX st).trans st₂, L₂, q⟩) (hc _ _ _)
theorem WS_if {t : Expr} {b o : List Stmt} {p : Pos} (h : WT c d sc t ρ σ (kIf c d sc b o ρ Q)) : WS c d sc (.If t b o p) ρ σ Q :=
  .mk fun A env s R O B L => wpAny_If (h.seq R O B L fun x s₁ σ₁ st q => by
    have L₁ := L.step B st
    cases x with
    | true => exact (show WB c d sc b ρ σ₁ Q from by first | (simpa using q; done) | (simpa [kIf] using q)).seq R O st.base L₁ fun f s₂ fl ρ₂ σ₂ r₂ st₂ L₂ q => ⟨fl, ρ₂, σ₂, r₂, (noX_FX st).trans st₂, L₂, q⟩
    | false => exact (show WB c d sc o ρ σ₁ Q from by first | (simpa using q; done) | (simpa [kIf] using q)).seq R O st.base L₁ fun f s₂ fl ρ₂ σ₂ r₂ st₂ L₂ q => ⟨fl, ρ₂, σ₂, r₂, (noX_FX st).trans st₂, L₂, q⟩)
end
set_option tactic.hygienic true
noncomputable def putA (x : Str) (v : V) : List (Str × V) → List (Str × V)
  | [] => [(x, v)]
  | (y, w) :: r => if x = y then (y, v) :: r else (y, w) :: putA x v r
theorem putA_length (x : Str) (v : V) : ∀ m : List (Str × V), (putA x v m).length ≤ m.length + 1
  | [] => Nat.le_refl _
  | (y, w) :: r => by
    unfold putA
    split
    · simp
    · simpa using putA_length x v r
theorem putL_length (name : Str) (hsh : Int) (key v : Value) : ∀ es : List DictEntry, (putL name hsh key v es).length ≤ es.length + 1
  | [] => Nat.le_refl _
  | e :: r => by
    unfold putL
    split
    · simp
    · simpa using putL_length name hsh key v r
theorem RepNs.length {P : Params} {C : Cls → Addr} {h : Heap} : ∀ {m : List (Str × V)} {es : List DictEntry}, RepNs P C h m es → es.length = m.length
  | [], _, r => by obtain rfl := r; rfl
  | (_, _) :: _, _, r => by
    obtain ⟨e, es', rfl, _, _, _, r⟩ := r
    simp [r.length]
theorem RepNs.put {P : Params} {C : Cls → Addr} {h : Heap} {x : Str} {u : V} {v : Value} {t : Tok} (ru : Rep C h u v) : ∀ {m : List (Str × V)} {es : List DictEntry}, RepNs P C h m es → RepNs P C h (putA x u m) (putL x (PyData.keyHash P x) (.str x t) v es)
  | [], _, r => by
    obtain rfl := r
    exact ⟨_, [], rfl, ⟨t, rfl⟩, rfl, ru, rfl⟩
  | (y, w) :: m, _, r => by
    obtain ⟨e, es', rfl, ⟨t', hk⟩, hh, rw', r⟩ := r
    unfold putA putL
    have hs : e.key.isStr x = decide (x = y) := by
      rw [hk]; simp only [Value.isStr]
      rw [Bool.eq_iff_iff, beq_iff_eq, decide_eq_true_eq]; exact eq_comm
    by_cases q : x = y
    · subst q
      rw [if_pos rfl, if_pos (by rw [hs]; simp)]
      exact ⟨_, es', rfl, ⟨t', hk⟩, hh, ru, r⟩
    · rw [if_neg q, if_neg (by rw [hs]; simpa using q)]
      exact ⟨e, _, rfl, ⟨t', hk⟩, hh, rw', RepNs.put ru r⟩
theorem RepNs.some {P : Params} {C : Cls → Addr} {h : Heap} {x : Str} {m : List (Str × V)} {es : List DictEntry} (r : RepNs P C h m es) : (getL x es).isSome = true := by
  cases q : lkA x m with
  | none => rw [r.none q]; rfl
  | some u => obtain ⟨v, e, _⟩ := r.get q; rw [e]; rfl
theorem stored_any {K : Type} [DecidableEq K] (kvs : List (K × Value)) (k y : K) (v : Value) : ((stored kvs k v).any fun kv => decide (kv.1 = y)) = (decide (k = y) || kvs.any fun kv => decide (kv.1 = y)) := by
  unfold stored
  split
  · rename_i h
    rw [List.any_map]
    have e : (fun kv : K × Value => decide (kv.1 = y)) ∘ (fun kv => if kv.1 = k then (kv.1, v) else kv) = fun kv => decide (kv.1 = y) := by
      funext kv; simp only [Function.comp]; split <;> rfl
    rw [e]
    by_cases q : k = y
    · subst q; rw [h]; simp
    · simp [q]
  · rw [List.any_append, Bool.or_comm]
    simp
noncomputable def setOK (K : Frag) (C : Addr) (x : Str) : Bool :=
  (match findIn K (.ref C) "__setattr__" with | some (some (.builtin i)) => i == "object.__setattr__" | _ => false) && plainOver K C && (match takerIn K C x with | some none => true | _ => false) && hasDictIn K C
section
variable {c : Cx} {d : Nat} {sc : Scope} {ρ : Locals} {σ : Store}
theorem osa_raw {A : Around} {s : Shared} {x C dx : Addr} {name : Str} {tk : Tok} {v : Value} {es : List DictEntry} {n : Nat} {K : Frag} {R : Result → Shared → Prop} (X : K.In s.heap)
    (I : InstAt s.heap x (instObj C dx) C (some (dictOf es n))) (D : s.heap.get? dx = some (dictOf es n)) (hp : plainOver K C = true) (ht : takerIn K C name = some none) (hh : hasDictIn K C = true)
    (hl : (getL name es).isSome = true) (hz : es.length ≤ 900)
    (h : ∀ h', Heap.SameBut dx s.heap h' → h'.get? dx = some (dictOf (putL name (PyData.keyHash c.w.params name) (.str name s.toks) v es) (putN name es n)) → R (.ok (.ret .none)) { s with heap := h', toks := s.toks + 1 }) :
    codeAny (model c.prog c.w) A (.call (.builtin "object.__setattr__") ⟨[.ref x, .str name tk, v], []⟩) R s := by
  refine osa_open X I hp ht fun b => ?_
  obtain ⟨cd, hc, hd'⟩ := any_some hh
  have D' := Heap.get?_update_self (Obj.putName name (PyData.keyHash c.w.params name) (.str name s.toks) v) D (by rw [putName_dict]; rfl)
  rw [putName_dict] at D'
  have hx := I.at_
  refine wpAny_bind (wpAny_pure (wpAny_bind (wpAny_bind (wpAny_loadPart hx (wpAny_bind ((looks_clsIn X hc).here ?_))))))
  rw [hd']
  refine wpAny_pure (a := some dx) (wpAny_bind (wpAny_pure (wpAny_bind ?_)))
  unfold nsSet
  refine wpAny_bind (wpAny_bind (wpAny_askSetting (wpAny_pure (wpAny_bind (wpAny_mkText (wpAny_bind (wpAny_loadPart D ?_)))))))
  have c' : (!es.toArray.any (·.key.isStr name) && es.toArray.any (·.refKey)) = false := by
    rw [← Array.any_toList, ← Array.any_toList]
    unfold getL at hl
    split at hl
    · rename_i en he
      rw [List.any_eq_true.mpr ⟨en, List.mem_of_find?_eq_some he, List.find?_some he⟩]; rfl
    · split at hl
      · cases hl
      · rename_i z; rw [Bool.not_eq_true] at z
        show (_ && es.any _) = _
        rw [z, Bool.and_false]
  dsimp only
  rw [aRefKeyMayBeTheName_at, c']
  refine wpAny_updatePart D ?_
  refine wpAny_bind (wpAny_lookBehind D' (pastItsLine_dict (by rw [List.size_toArray, sizeLine_eq]; have := putL_length name (PyData.keyHash c.w.params name) (.str name s.toks) v es; omega)) ?_)
  exact wpAny_pure (h _ (Heap.SameBut.update ..) D')
variable {Q : Fl → Locals → Store → Prop}
theorem WS_attr (OK : CxOK c) {o e : Expr} {x : Str} {p p' : Pos}
    (h : WE c d sc e ρ σ fun v σ₁ => WE c d sc o ρ σ₁ fun u σ₂ => ∃ k dx m, u = .inst k dx ∧ σ₂ dx = some (.ns m) ∧ setOK c.K (c.C k) x = true ∧ m.length ≤ 900 ∧ Q .next ρ (σ₂.set dx (.ns (putA x v m)))) (hc : notComp e := by exact fun _ _ _ => rfl) :
    WS c d sc (.Assign [.Attribute o x p'] e p) ρ σ Q :=
  .mk fun A env s R O B L => plainObj_wpAny_Assign_Attribute (h.seq R O B L fun vv s₁ v σ₁ rv st₁ h₁ => h₁.seq R O st₁.base (L.step B st₁) fun vo s₂ u σ₂ ro st₂ h₂ => by
    have rv := rv.step st₁.base st₂
    have st := st₁.trans st₂
    obtain ⟨k, dx, m, rfl, hm, hs, hz, q⟩ := h₂
    obtain ⟨a, rfl, ha⟩ := ro
    obtain ⟨es, n, rn, D, I⟩ := inst_at st.base ha hm
    unfold setOK at hs
    obtain ⟨hs, s4⟩ := Bool.and_eq_true_iff.mp hs
    obtain ⟨hs, s3⟩ := Bool.and_eq_true_iff.mp hs
    obtain ⟨s1, s2⟩ := Bool.and_eq_true_iff.mp hs
    split at s1
    · rename_i i hi
      obtain rfl := beq_iff_eq.mp s1
      split at s3
      · rename_i ht
        have X := st.base.K OK
        refine set_plain X I hi (osa_raw (s := { s₂ with toks := s₂.toks + 1 }) X I D s2 ht s4 rn.some (by rw [rn.length]; exact hz) fun h' sb D' => ?_)
        have st' := (Stp.put (s := s₂) (s' := { s₂ with heap := h', toks := s₂.toks + 2 }) (ao := .ns (putA x v m)) st.base hm sb (fun so => RepO_ns D' (RepNs.put (rv.keeps so) (rn.keeps so))) rfl rfl)
        exact ⟨.next, ρ, _, rfl, noX_FX (st.trans st'), L.step B (st.trans st'), q⟩
      · cases s3
    · cases s1) (hc _ _ _)
theorem WS_item (OK : CxOK c) {o i e : Expr} {p p' : Pos}
    (h : WE c d sc e ρ σ fun v σ₁ => WE c d sc o ρ σ₁ fun u σ₂ => WE c d sc i ρ σ₂ fun j σ₃ => ∃ a ks x, u = .dct a ∧ j = .str x ∧ σ₃ a = some (.map ks) ∧ ks.length ≤ sizeLine ∧ Q .next ρ (σ₃.set a (.map (x :: ks)))) (hc : notComp e := by exact fun _ _ _ => rfl) :
    WS c d sc (.Assign [.Subscript o i p'] e p) ρ σ Q :=
  .mk fun A env s R O B L => wpAny_Assign_Subscript (h.seq R O B L fun vv s₁ v σ₁ rv st₁ h₁ => h₁.seq R O st₁.base (L.step B st₁) fun vo s₂ u σ₂ ro st₂ h₂ => h₂.seq R O st₂.base (L.step B (st₁.trans st₂)) fun vi s₃ j σ₃ ri st₃ h₃ => by
    have ro := ro.step st₂.base st₃
    have st := (st₁.trans st₂).trans st₃
    obtain ⟨a, ks, x, rfl, rfl, hm, hz, q⟩ := h₃
    subst ro
    obtain ⟨t, rfl⟩ := ri
    obtain ⟨kvs, hd, hl, hk⟩ := st.base.objs _ _ hm
    refine wpAny_setItem_pairs (strKind_is c.prog c.w _ t) hd (fun h' hd' sb => ?_) (Nat.le_trans hl hz)
    have st' := (Stp.put (s := s₃) (s' := { s₃ with heap := h', toks := s₃.toks + 1 }) (ao := .map (x :: ks)) st.base hm sb (fun so => ⟨_, hd', ?_, fun y => ?_⟩) rfl rfl)
    exact ⟨.next, ρ, _, rfl, noX_FX (st.trans st'), L.step B (st.trans st'), q⟩
    · exact Nat.le_trans (stored_length_le ..) (Nat.succ_le_succ hl)
    · rw [valueAt_isSome_eq_any, stored_any, List.contains_cons, ← hk, valueAt_isSome_eq_any]
      congr 1
      rw [Bool.eq_iff_iff, decide_eq_true_eq, beq_iff_eq]
      exact ⟨fun z => (S_inj z).symm, fun z => by rw [z]⟩) (hc _ _ _)
end
set_option tactic.hygienic false
theorem RepL.set {C : Cls → Addr} {h : Heap} : ∀ {x : List V} {v : List Value} {i : Nat} {a : V} {u : Value}, RepL C h x v → Rep C h a u → RepL C h (x.set i a) (v.set i u)
  | [], _, _, _, _, r, q => by obtain rfl := r; exact rfl
  | _ :: _, _, 0, _, _, r, q => by
    obtain ⟨v, vs', rfl, a, b⟩ := r
    exact RepL_cons q b
  | _ :: _, _, i + 1, _, _, r, q => by
    obtain ⟨v, vs', rfl, a, b⟩ := r
    exact RepL_cons a (b.set q)
inductive AugP : Operator → V → V → (V → Prop) → Prop
  | add {a b : Int} {k : V → Prop} (h : k (.int (a + b))) : AugP .Add (.int a) (.int b) k
  | sub {a b : Int} {k : V → Prop} (h : k (.int (a - b))) : AugP .Sub (.int a) (.int b) k
  | fdiv {a b : Int} {k : V → Prop} (h0 : b ≠ 0 ∧ Builtin.divisionGoesByPylong a b = false) (h : k (.int (a.fdiv b))) : AugP .FloorDiv (.int a) (.int b) k
theorem AugP.mono {op : Operator} {a b : V} {k k' : V → Prop} (h : AugP op a b k) (f : ∀ x, k x → k' x) : AugP op a b k' := by
  induction h with
  | add h => exact .add (f _ h)
  | sub h => exact .sub (f _ h)
  | fdiv h0 h => exact .fdiv h0 (f _ h)
section
variable {c : Cx} {d : Nat} {sc : Scope} {ρ : Locals} {σ : Store}
theorem AugP_ok {s : Shared} {A : Around} {op : Operator} {a b : V} {Q : V → Store → Prop} (h : AugP op a b fun v => Q v σ) (B : Base c σ s) {va vb : Value} (ra : Rep c.C s.heap a va) (rb : Rep c.C s.heap b vb) :
    wpAny (model c.prog c.w) A (inplaceOp op va vb) (Post c σ s Q) noE s := by
  have e : AugP op a b fun v => Q v σ := h
  clear h
  generalize hk : (fun v => Q v σ) = k at e
  induction e with
  | add h => subst hk; obtain ⟨t, rfl⟩ := ra; obtain ⟨u, rfl⟩ := rb; exact AutoIntOps.iadd_0 (Post.tok B Rep_int h)
  | sub h => subst hk; obtain ⟨t, rfl⟩ := ra; obtain ⟨u, rfl⟩ := rb; exact AutoIntOps.isub_0 (Post.tok B Rep_int h)
  | fdiv h0 h => subst hk; obtain ⟨t, rfl⟩ := ra; obtain ⟨u, rfl⟩ := rb; exact AutoIntOps.ifloordiv_1 (by simpa using h0.1) (by rw [h0.2]; exact fun z => by cases z) (Post.tok B Rep_int h)
variable {Q : Fl → Locals → Store → Prop}
noncomputable abbrev kAug (op : Operator) (u : V) (Q : V → Store → Prop) : V → Store → Prop := fun v σ => AugP op u v (kAt Q σ)
theorem WS_aug {x : Str} {u : V} {op : Operator} {e : Expr} {p p' : Pos} (h1 : lk x ρ = some u) (h : WE c d sc e ρ σ (kAug op u (kN Q ρ x))) (hk : okLocal sc x = true) :
    WS c d sc (.AugAssign (.Name x p') op e p) ρ σ Q :=
  .mk fun A env s R O B L => wpAny_AugAssign_Name (by
    have old : wpAny (model c.prog c.w) A (loadName env x) (fun v s₁ => s₁ = s ∧ Rep c.C s.heap u v) noE s := by
      obtain ⟨m, hm, hn⟩ := L.at_
      obtain ⟨hd, v, r, z⟩ := hn x u h1
      have hk : env.scope.kind = .function := by rw [O.scope]; exact O.kind
      rcases z with ⟨z1, z2⟩ | ⟨z1 | ⟨z1, z3⟩, k, z2, hc⟩
      · exact wpAny_loadName_local hk z1 hm z2 ⟨rfl, r⟩
      · exact wpAny_loadName_cell hk z1 z2 hc ⟨rfl, r⟩
      · exact wpAny_loadName_free hk z1 z2 hc ⟨rfl, r⟩ z3
    refine wpAny_mono old (fun v s₁ ⟨e, r⟩ => ?_) fun _ _ z => z
    subst e
    exact h.seq R O B L fun vv s₂ w σ₂ rw₂ st q => wpAny_mono (AugP_ok (Q := fun w σ' => Q .next ((x, w) :: ρ) σ') q st.base (r.step B st) rw₂) (fun v₃ s₃ ⟨w₃, σ₃, r₃, st₃, q₃⟩ =>
      store_ok hk O st₃.base ((L.step B st).step st.base st₃) r₃ fun s₄ st₄ L₄ => ⟨.next, _, σ₃, rfl, ((noX_FX st).trans (noX_FX st₃)).trans st₄, L₄, q₃⟩) fun _ _ z => z)
theorem Stp.setList {s : Shared} {a : Addr} {vs : List V} {i : Nat} {u : V} {v : Value} {items : List Value} {n : Nat} (B : Base c σ s) (hs : σ a = some (.list vs)) (ho : s.heap.get? a = some (lstObj items n)) (l : RepL c.C s.heap vs items) (r : Rep c.C s.heap u v) :
    Stp c noX σ s (σ.set a (.list (vs.set i u))) { s with heap := s.heap.update a (Obj.mapSeq (·.setIfInBounds i v)) } :=
  Stp.put B hs (Heap.SameBut.update ..) (fun so => by
    have := IsL.update (n := n) ho (·.setIfInBounds i v)
    have e : items.toArray.setIfInBounds i v = (items.set i v).toArray := by simp
    simp only [e] at this
    exact RepO_list this ((l.keeps so).set (r.keeps so))) rfl rfl
theorem WS_augI {o i e : Expr} {op : Operator} {p p' : Pos} (h : WE c d sc o ρ σ fun u σ₁ => WE c d sc i ρ σ₁ fun j σ₂ => ∃ a k vs v, u = .lst a ∧ j = .int k ∧ (0 ≤ k ∧ k < 2 ^ 62) ∧ σ₂ a = some (.list vs) ∧ vs[k.toNat]? = some v ∧
      WE c d sc e ρ σ₂ fun x σ₃ => ∃ vs', σ₃ a = some (.list vs') ∧ k.toNat < vs'.length ∧ AugP op v x fun w => Q .next ρ (σ₃.set a (.list (vs'.set k.toNat w))))
    (hi : noSlice i) (ha : ∀ ov iv new, augStore i ov iv new = (do holding [new, ov, iv] (setItem ov iv new); release [new, ov, iv] []; pure .next)) : WS c d sc (.AugAssign (.Subscript o i p') op e p) ρ σ Q :=
  .mk fun A env s R O B L => wpAny_AugAssign_Subscript_any (h.seq R O B L fun vo s₁ u σ₁ ro st₁ h₁ => h₁.seq R O st₁.base (L.step B st₁) fun vi s₂ j σ₂ ri st₂ h₂ => by
    have ro := ro.step st₁.base st₂
    have B₂ := st₂.base
    have st := st₁.trans st₂
    obtain ⟨a, k, vs, v, rfl, rfl, ⟨h0, h1⟩, hs, hv, h₃⟩ := h₂
    subst ro
    obtain ⟨t, rfl⟩ := ri
    obtain ⟨items, n, ho, l⟩ := B₂.objs _ _ hs
    obtain ⟨w, e', rw'⟩ := l.get hv
    refine wpAny_getItem_list (items := items.toArray) ⟨_, ho, rfl, _, rfl⟩ h0 (by omega) (by simpa using e') ?_
    refine h₃.seq R O B₂ (L.step B st) fun vx s₃ x σ₃ rx st₃ q => ?_
    obtain ⟨vs', hs', hlt, q⟩ := q
    refine wpAny_mono (AugP_ok (Q := fun w σ' => σ' = σ₃ ∧ Q .next ρ (σ₃.set a (.list (vs'.set k.toNat w)))) (q.mono fun x q => ⟨rfl, q⟩) st₃.base (rw'.step B₂ st₃) rx) (fun v₄ s₄ ⟨w₄, σ₄, r₄, st₄, e₄, q₄⟩ => ?_) fun _ _ z => z
    subst e₄
    obtain ⟨items', n', ho', l'⟩ := st₄.base.objs _ _ hs'
    have hlen := l'.length
    refine ki_setAt (n := n') ho' h0 (by omega) (by rw [List.size_toArray, hlen]; omega) ?_
    have st₅ := (st.trans (st₃.trans st₄)).trans (Stp.setList (i := k.toNat) st₄.base hs' ho' l' r₄)
    exact ⟨.next, ρ, _, rfl, noX_FX st₅, L.step B st₅, q₄⟩) ha
theorem WS_itemL {o i e : Expr} {p p' : Pos} (h : WE c d sc e ρ σ fun v σ₁ => WE c d sc o ρ σ₁ fun u σ₂ => WE c d sc i ρ σ₂ fun j σ₃ => ∃ a vs k, u = .lst a ∧ j = .int k ∧ (0 ≤ k ∧ k < 2 ^ 62) ∧ σ₃ a = some (.list vs) ∧ k.toNat < vs.length ∧ Q .next ρ (σ₃.set a (.list (vs.set k.toNat v)))) (hc : notComp e := by exact fun _ _ _ => rfl) :
    WS c d sc (.Assign [.Subscript o i p'] e p) ρ σ Q :=
  .mk fun A env s R O B L => wpAny_Assign_Subscript (h.seq R O B L fun vv s₁ v σ₁ rv st₁ h₁ => h₁.seq R O st₁.base (L.step B st₁) fun vo s₂ u σ₂ ro st₂ h₂ => h₂.seq R O st₂.base (L.step B (st₁.trans st₂)) fun vi s₃ j σ₃ ri st₃ h₃ => by
    have ro := ro.step st₂.base st₃
    have rv := (rv.step st₁.base st₂).step st₂.base st₃
    have st := (st₁.trans st₂).trans st₃
    obtain ⟨a, vs, k, rfl, rfl, ⟨h0, h1⟩, hs, hlt, q⟩ := h₃
    subst ro
    obtain ⟨t, rfl⟩ := ri
    obtain ⟨items, n, ho, l⟩ := st.base.objs _ _ hs
    have hlen := l.length
    refine ki_setAt (n := n) ho h0 (by omega) (by rw [List.size_toArray, hlen]; omega) ?_
    have st₅ := st.trans (Stp.setList (i := k.toNat) st.base hs ho l rv)
    exact ⟨.next, ρ, _, rfl, noX_FX st₅, L.step B st₅, q⟩) (hc _ _ _)
noncomputable def TgtP.nm : Expr → Option Str
  | .Name x _ => some x
  | _ => none
noncomputable def TgtP.namesOK (sc : Scope) : List Expr → Bool
  | [] => true
  | e :: r => (match nm e with | some x => okLocal sc x | none => false) && namesOK sc r
noncomputable def TgtP.bindAll : List Expr → List V → Locals → Locals
  | e :: r, u :: us, ρ => match nm e with | some x => bindAll r us ((x, u) :: ρ) | none => ρ
  | _, _, ρ => ρ
inductive TgtP (sc : Scope) : Expr → V → Locals → (Locals → Prop) → Prop
  | name {x : Str} {p : Pos} {u : V} {ρ : Locals} {k : Locals → Prop} (h0 : okLocal sc x = true) (h : k ((x, u) :: ρ)) : TgtP sc (.Name x p) u ρ k
  | tup {es : List Expr} {j : Nat} {p : Pos} {us : List V} {ρ : Locals} {k : Locals → Prop} (h0 : TgtP.namesOK sc es = true) (h1 : us.length = es.length) (h : k (TgtP.bindAll es us ρ)) : TgtP sc (.Tuple es j p) (.tup us) ρ k
theorem names_cons {sc : Scope} {e : Expr} {r : List Expr} (h : TgtP.namesOK sc (e :: r) = true) : ∃ x p, e = .Name x p ∧ okLocal sc x = true ∧ TgtP.namesOK sc r = true := by
  unfold TgtP.namesOK at h
  obtain ⟨a, b⟩ := Bool.and_eq_true_iff.mp h
  cases e <;> first | exact ⟨_, _, rfl, a, b⟩ | (cases a; done)
theorem names_len {sc : Scope} {env : Env} (es : List Expr) : TgtP.namesOK sc es = true → (assignEach es env).length = es.length ∧ (assignEach es env).findIdx? (·.1) = none := by
  induction es with
  | nil => exact fun _ => ⟨rfl, rfl⟩
  | cons e r ih =>
    intro h
    obtain ⟨x, p, rfl, _, h⟩ := names_cons h
    obtain ⟨a, b⟩ := ih h
    refine ⟨by show (_ :: assignEach r env).length = _; simp [a], ?_⟩
    show ((false, assign (.Name x p) env) :: assignEach r env).findIdx? (·.1) = none
    rw [List.findIdx?_cons, b]; rfl
theorem assignInOrder_cons (t : Value → Sem Unit) (ts : List (Value → Sem Unit)) (x : Value) (xs : List Value) : assignInOrder (t :: ts) (x :: xs) = (do holding xs (t x); assignInOrder ts xs) := rfl
theorem assignEach_name (x : Str) (p : Pos) (r : List Expr) (env : Env) : assignEach (.Name x p :: r) env = (false, assign (.Name x p) env) :: assignEach r env := rfl
theorem assignEach_nil (env : Env) : assignEach [] env = [] := rfl
theorem assignInOrder_nil (vs : List Value) : assignInOrder [] vs = pure () := by cases vs <;> rfl
theorem assign_names {A : Around} {env : Env} (es : List Expr) : ∀ {us : List V} {vs : List Value} {ρ : Locals} {s : Shared} {Q' : Unit → Shared → Prop}, TgtP.namesOK sc es = true → us.length = es.length → EnvOK env sc → Base c σ s → Loc c env ρ σ s → RepL c.C s.heap us vs →
    (∀ s', Stp c (FX env) σ s σ s' → Loc c env (TgtP.bindAll es us ρ) σ s' → Q' () s') → wpAny (model c.prog c.w) A (assignInOrder ((assignEach es env).map (·.2)) vs) Q' noE s := by
  induction es with
  | nil =>
    intro us vs ρ s Q' h hl O B L r k
    rw [assignEach_nil, List.map_nil, assignInOrder_nil]
    have e : TgtP.bindAll [] us ρ = ρ := by cases us <;> rfl
    rw [e] at k
    exact wpAny_pure (k s (Stp.refl B) L)
  | cons e es ih =>
    intro us vs ρ s Q' h hl O B L r k
    cases us with
    | nil => cases hl
    | cons u us =>
      obtain ⟨x, p, rfl, hx, h⟩ := names_cons h
      obtain ⟨v, vs', rfl, ra, rb⟩ := r
      rw [assignEach_name, List.map_cons, assignInOrder_cons]
      refine wpAny_bind (wpAny_holding (wpAny_assign_Name (store_ok hx O B L ra fun s₁ st₁ L₁ => ?_)))
      have so := st₁.solid B L.soft
      have e : TgtP.bindAll (.Name x p :: es) (u :: us) ρ = TgtP.bindAll es us ((x, u) :: ρ) := rfl
      rw [e] at k
      exact ih h (by simpa using hl) O st₁.base L₁ (rb.keeps so) fun s₂ st₂ L₂ => k s₂ (st₁.trans st₂) L₂
theorem tgt_ok {A : Around} {env : Env} {s : Shared} {t : Expr} {u : V} {v : Value} {Q' : Unit → Shared → Prop} {k : Locals → Prop} (h : TgtP sc t u ρ k) (R : A.handled = none) (O : EnvOK env sc) (B : Base c σ s) (L : Loc c env ρ σ s) (r : Rep c.C s.heap u v)
    (hq : ∀ ρ' s', k ρ' → Stp c (FX env) σ s σ s' → Loc c env ρ' σ s' → Q' () s') : wpAny (model c.prog c.w) A (assign t env v) Q' noE s := by
  induction h with
  | name h0 h => exact wpAny_assign_Name (store_ok h0 O B L r fun s' st L' => hq _ s' h st L')
  | tup h1 h2 h3 =>
    obtain ⟨a, items, n, rfl, ho, l⟩ := r
    obtain ⟨n1, n2⟩ := names_len (env := env) _ h1
    have hlen := l.length
    refine wpAny_assign_Tuple (items := items.toArray) R ⟨_, ho, rfl, _, rfl⟩ (by rw [n1, List.size_toArray, hlen, h2]) n2 fun h' e => ?_
    have st : Stp c noX σ s σ { s with heap := h' } := Stp.grown B (fun b o hb => e b o (Nat.ne_of_lt (Heap.lt_size hb)) hb) rfl rfl
    exact assign_names _ (s := { s with heap := h' }) h1 h2 O st.base (L.step B st) (l.step B st) fun s₂ st₂ L₂ => hq _ s₂ h3 ((noX_FX st).trans st₂) L₂
noncomputable abbrev kTg (sc : Scope) (t : Expr) (ρ : Locals) (Q : Fl → Locals → Store → Prop) : V → Store → Prop := fun u σ => TgtP sc t u ρ (kAt (Q .next) σ)
theorem WS_tup {es : List Expr} {k : Nat} {e : Expr} {p p' : Pos} (h : WE c d sc e ρ σ (kTg sc (.Tuple es k p') ρ Q)) (hc : notComp e := by exact fun _ _ _ => rfl) (hst : ∀ env, exec (.Assign [.Tuple es k p'] e p) env = (do standAt p; let v ← eval e env; assign (.Tuple es k p') env v; pure .next)) :
    WS c d sc (.Assign [.Tuple es k p'] e p) ρ σ Q :=
  .mk fun A env s R O B L => by
    rw [hst]
    exact wpAny_bind (wpAny_standAt (wpAny_bind (h.seq R O B L fun v s₁ u σ₁ r st q => wpAny_bind (tgt_ok q R.handled O st.base (L.step B st) r fun ρ' s₂ hk st₂ L₂ => wpAny_pure ⟨.next, ρ', σ₁, rfl, (noX_FX st).trans st₂, L₂, hk⟩))))
end
set_option tactic.hygienic true
set_option tactic.hygienic false
noncomputable def Lp (Q : Fl → Locals → Store → Prop) (k : Locals → Store → Prop) : Fl → Locals → Store → Prop
  | .next, ρ, σ => k ρ σ
  | .cont, ρ, σ => k ρ σ
  | .brk, ρ, σ => Q .next ρ σ
  | .ret v, ρ, σ => Q (.ret v) ρ σ
theorem anyE {M : Model} {A : Around} {α : Type} {t : Sem α} {Q : α → Shared → Prop} {E : Value → Shared → Prop} {s : Shared} (h : wpAny M A t Q noE s) : wpAny M A t Q E s := wpAny_mono h (fun _ _ q => q) fun _ _ z => z.elim
section
variable {c : Cx} {d : Nat} {sc : Scope} {ρ : Locals} {σ : Store} {Q : Fl → Locals → Store → Prop}
@[irreducible] noncomputable def WW (c : Cx) (d : Nat) (sc : Scope) (t : Expr) (b o : List Stmt) (ρ : Locals) (σ : Store) (Q : Fl → Locals → Store → Prop) : Prop :=
  ∀ A env s, Room A d → EnvOK env sc → Base c σ s → Loc c env ρ σ s → codeAny (model c.prog c.w) A (.whileLoop t b o env) (fun r s' => match r with | .ok f => PostS c env σ s Q f s' | .error _ => False) s
theorem WS_while {t : Expr} {b o : List Stmt} {p : Pos} (h : WW c d sc t b o ρ σ Q) : WS c d sc (.While t b o p) ρ σ Q :=
  .mk fun A env s R O B L => by
    unfold WW at h
    exact wpAny_While (codeAny_mono (h A env s R O B L) fun r s' z => by cases r with | ok f => exact z | error e => exact z.elim)
noncomputable abbrev kWW (c : Cx) (d : Nat) (sc : Scope) (t : Expr) (b o : List Stmt) (Q : Fl → Locals → Store → Prop) : Locals → Store → Prop := fun ρ σ => WW c d sc t b o ρ σ Q
noncomputable abbrev kWh (c : Cx) (d : Nat) (sc : Scope) (t : Expr) (b o : List Stmt) (ρ : Locals) (Q : Fl → Locals → Store → Prop) : Bool → Store → Prop := fun x σ => if x then WB c d sc b ρ σ (Lp Q (kWW c d sc t b o Q)) else WB c d sc o ρ σ Q
theorem WW_step {t : Expr} {b o : List Stmt} (h : WT c d sc t ρ σ (kWh c d sc t b o ρ Q)) : WW c d sc t b o ρ σ Q := by
  unfold WW
  intro A env s R O B L
  refine codeAny_of_tree ?_
  show wpAny _ A ((whileTurn t b o env).onRaise (fun x => do noteFrame x env; theTreesLotGoes x)) _ _ s
  refine wpAny_noted ?_
  refine wpAny_bind (anyE <| h.seq R O B L fun x s₁ σ₁ st₁ h₁ => ?_)
  have L₁ := L.step B st₁
  cases x with
  | false =>
    simp only [Bool.false_eq_true, if_false] at h₁ ⊢
    exact wpAny_bind (anyE <| h₁.seq R O st₁.base L₁ fun f s₂ fl ρ₂ σ₂ r₂ st₂ L₂ q => wpAny_pure (show PostS c env σ s Q f s₂ from ⟨fl, ρ₂, σ₂, r₂, (noX_FX st₁).trans st₂, L₂, q⟩))
  | true =>
    simp only [if_true] at h₁ ⊢
    refine wpAny_bind (anyE <| h₁.seq R O st₁.base L₁ fun f s₂ fl ρ₂ σ₂ r₂ st₂ L₂ q => ?_)
    have st := (noX_FX st₁).trans st₂
    have more (q : WW c d sc t b o ρ₂ σ₂ Q) : codeAny (model c.prog c.w) A (.whileLoop t b o env) (fun r s' => match r with | .ok f => PostS c env σ s Q f s' | .error _ => False) s₂ := by
      unfold WW at q
      exact codeAny_mono (q A env s₂ R O st₂.base L₂) fun r s' z => by cases r with | ok f => exact PostS.after st z | error e => exact z.elim
    cases fl with
    | next => obtain rfl := (r₂ : f = .next); exact wpAny_pure ⟨rfl, codeAny_mono (more q) fun r s' z => by cases r with | ok f => exact z | error e => exact z.elim⟩
    | cont => obtain rfl := (r₂ : f = .cont); exact wpAny_pure ⟨rfl, codeAny_mono (more q) fun r s' z => by cases r with | ok f => exact z | error e => exact z.elim⟩
    | brk => obtain rfl := (r₂ : f = .brk); exact wpAny_pure (show PostS c env σ s Q .next s₂ from ⟨.next, ρ₂, σ₂, rfl, st, L₂, q⟩)
    | ret v => obtain ⟨w, rfl, r₂⟩ := r₂; exact wpAny_pure (show PostS c env σ s Q (.ret w) s₂ from ⟨.ret v, ρ₂, σ₂, ⟨w, rfl, r₂⟩, st, L₂, q⟩)
noncomputable def okIter (n : String) : Bool := !(["enumerate", "zip", "dict_itemiterator", "dict_reverseitemiterator", "odict_iterator", "itertools.zip_longest", "itertools.pairwise"].contains n)
noncomputable def IterObj (h : Heap) (I : Addr) : Prop := ∃ o n, h.get? I = some o ∧ o.cls = .type n ∧ okIter n = true ∧ ¬ Solid o
noncomputable def Agr (D : Addr → Prop) (I : Addr) (h h' : Heap) : Prop := ∀ a o, h.get? a = some o → (a = I ∨ D a ∨ Solid o) → h'.get? a = some o
structure ButI (I : Addr) (s s' : Shared) : Prop where
  keep : ∀ b o, b ≠ I → s.heap.get? b = some o → s'.heap.get? b = some o
  gens : s'.gens = s.gens
  os : s'.os = s.os
noncomputable def ItOK (c : Cx) (D : Addr → Prop) (I : Addr) : List V → Heap → Prop
  | [], h => IterObj h I ∧ ∀ A s, A.handled = none → Agr D I h s.heap → ∀ (Q : Option Value → Shared → Prop) E, (∀ s', ButI I s s' → Q none s') → wpAny (model c.prog c.w) A (pyNext (.ref I)) Q E s
  | u :: us, h => IterObj h I ∧ ∀ A s, A.handled = none → Agr D I h s.heap → ∀ (Q : Option Value → Shared → Prop) E, (∀ v s', ButI I s s' → Rep c.C s'.heap u v → ItOK c D I us s'.heap → Q (some v) s') → wpAny (model c.prog c.w) A (pyNext (.ref I)) Q E s
theorem Agr.refl {D : Addr → Prop} {I : Addr} (h : Heap) : Agr D I h h := fun _ _ e _ => e
theorem Agr.trans {D : Addr → Prop} {I : Addr} {h h' h'' : Heap} (x : Agr D I h h') (y : Agr D I h' h'') : Agr D I h h'' := fun a o e z => y a o (x a o e z) z
theorem IterObj.agree {D : Addr → Prop} {I : Addr} {h h' : Heap} (x : IterObj h I) (y : Agr D I h h') : IterObj h' I := let ⟨o, n, a, r⟩ := x; ⟨o, n, y _ _ a (.inl rfl), r⟩
theorem ItOK.agree {D : Addr → Prop} {I : Addr} {h h' : Heap} {us : List V} (x : ItOK c D I us h) (y : Agr D I h h') : ItOK c D I us h' := by
  cases us with
  | nil => exact ⟨x.1.agree y, fun A s hA z => x.2 A s hA (y.trans z)⟩
  | cons u us => exact ⟨x.1.agree y, fun A s hA z => x.2 A s hA (y.trans z)⟩
theorem ItOK.obj {D : Addr → Prop} {I : Addr} {h : Heap} {us : List V} (x : ItOK c D I us h) : IterObj h I := by cases us <;> exact x.1
theorem ItOK.build {D : Addr → Prop} {I : Addr} (us : List V) (St : Nat → Heap → Prop) (obj : ∀ i h, St i h → IterObj h I) (stable : ∀ i h h', St i h → Agr D I h h' → St i h')
    (item : ∀ i A s u (Q : Option Value → Shared → Prop) E, A.handled = none → St i s.heap → us[i]? = some u → (∀ v s', ButI I s s' → Rep c.C s'.heap u v → St (i + 1) s'.heap → Q (some v) s') → wpAny (model c.prog c.w) A (pyNext (.ref I)) Q E s)
    (fin : ∀ A s (Q : Option Value → Shared → Prop) E, A.handled = none → St us.length s.heap → (∀ s', ButI I s s' → Q none s') → wpAny (model c.prog c.w) A (pyNext (.ref I)) Q E s) :
    ∀ (n i : Nat) (h : Heap), us.length = i + n → St i h → ItOK c D I (us.drop i) h
  | 0, i, h, e, x => by
    rw [List.drop_of_length_le (by omega)]
    exact ⟨obj _ _ x, fun A s hA y Q E k => fin A s Q E hA (by rw [e]; exact stable _ _ _ x y) k⟩
  | n + 1, i, h, e, x => by
    have hlt : i < us.length := by omega
    rw [List.drop_eq_getElem_cons hlt]
    refine ⟨obj _ _ x, fun A s hA y Q E k => item i A s us[i] Q E hA (stable _ _ _ x y) (by simp [hlt]) fun v s' b r x' => k v s' b r ?_⟩
    exact ItOK.build us St obj stable item fin n (i + 1) s'.heap (by omega) x'
theorem ButI.same {I : Addr} {s : Shared} {h' : Heap} {t : Nat} (sb : Heap.SameBut I s.heap h') : ButI I s { s with heap := h', toks := t } := ⟨fun b o hb e => (sb.2 b hb).trans e, rfl, rfl⟩
theorem fields_soft {o : Obj} {vs : Array Value} {n : String} (hd : o.data = .fields vs) (hc : o.cls = .type n) (h : n ≠ "range") : ¬ Solid o := by
  rintro (⟨e, xs, k, e'⟩ | ⟨e, _⟩ | ⟨⟨a, e⟩, _⟩)
  · rw [hd] at e'; cases e'
  · rw [hc] at e; exact h (Value.type.inj e)
  · rw [hc] at e; cases e
theorem It_list {h : Heap} {I l : Addr} {items : List Value} {us : List V} (hit : h.IsListIter I l 0) (hl : h.IsList l items.toArray) (r : RepL c.C h us items) (hne : l ≠ I) : ItOK c (· = l) I us h := by
  have hlen := r.length
  have := ItOK.build (c := c) (D := (· = l)) (I := I) us (fun i h => h.IsListIter I l i ∧ h.IsList l items.toArray ∧ RepL c.C h us items)
    (fun i h x => by obtain ⟨⟨o, ho, hc, hd⟩, _⟩ := x; exact ⟨o, _, ho, hc, by decide, fields_soft hd hc (by decide)⟩)
    (fun i h h' x y => ⟨let ⟨o, ho, z⟩ := x.1; ⟨o, y _ _ ho (.inl rfl), z⟩, let ⟨o, ho, z⟩ := x.2.1; ⟨o, y _ _ ho (.inr (.inl rfl)), z⟩, x.2.2.keeps fun a o e so => y a o e (.inr (.inr so))⟩)
    (fun i A s u Q E hA x e k => by
      obtain ⟨x1, x2, x3⟩ := x
      obtain ⟨v, e', rv⟩ := x3.get e
      refine wpAny_pyNext_list_item x1 x2 (by simpa using e') fun h' x1' sb => ?_
      have so : ∀ a o, s.heap.get? a = some o → Solid o → h'.get? a = some o := fun a o e z => (sb.2 a fun q => by
        subst q; obtain ⟨o', ho, hc, hd⟩ := x1; rw [e] at ho; cases ho; exact fields_soft hd hc (by decide) z).trans e
      exact k v _ (ButI.same sb) (rv.keeps so) ⟨x1', x2.extBut sb.extBut hne, x3.keeps so⟩)
    (fun A s Q E hA x k => wpAny_pyNext_list_end hA x.1 x.2.1 (by simp [hlen]) fun h' eb => k _ ⟨fun b o hb e => eb b o hb e, rfl, rfl⟩)
    us.length 0 h (by simp) ⟨hit, hl, r⟩
  simpa using this
theorem It_tuple {h : Heap} {I l : Addr} {items : List Value} {us : List V} (hit : h.IsTupleIter I l 0) (hl : h.IsTuple l items.toArray) (r : RepL c.C h us items) (hne : l ≠ I) : ItOK c (· = l) I us h := by
  have hlen := r.length
  have := ItOK.build (c := c) (D := (· = l)) (I := I) us (fun i h => h.IsTupleIter I l i ∧ h.IsTuple l items.toArray ∧ RepL c.C h us items)
    (fun i h x => by obtain ⟨⟨o, ho, hc, hd⟩, _⟩ := x; exact ⟨o, _, ho, hc, by decide, fields_soft hd hc (by decide)⟩)
    (fun i h h' x y => ⟨let ⟨o, ho, z⟩ := x.1; ⟨o, y _ _ ho (.inl rfl), z⟩, let ⟨o, ho, z⟩ := x.2.1; ⟨o, y _ _ ho (.inr (.inl rfl)), z⟩, x.2.2.keeps fun a o e so => y a o e (.inr (.inr so))⟩)
    (fun i A s u Q E hA x e k => by
      obtain ⟨x1, x2, x3⟩ := x
      obtain ⟨v, e', rv⟩ := x3.get e
      refine wpAny_pyNext_tuple_item x1 x2 (by simpa using e') fun h' x1' sb => ?_
      have so : ∀ a o, s.heap.get? a = some o → Solid o → h'.get? a = some o := fun a o e z => (sb.2 a fun q => by
        subst q; obtain ⟨o', ho, hc, hd⟩ := x1; rw [e] at ho; cases ho; exact fields_soft hd hc (by decide) z).trans e
      exact k v _ (ButI.same sb) (rv.keeps so) ⟨x1', x2.extBut sb.extBut hne, x3.keeps so⟩)
    (fun A s Q E hA x k => wpAny_pyNext_tuple_end hA x.1 x.2.1 (by simp [hlen]) fun h' eb => k _ ⟨fun b o hb e => eb b o hb e, rfl, rfl⟩)
    us.length 0 h (by simp) ⟨hit, hl, r⟩
  simpa using this
theorem It_str {h : Heap} {I : Addr} {l : List Nat} {t : Tok} (ty : String) (hty : ty = "str_ascii_iterator" ∨ ty = "str_iterator") (hit : h.IsStrIter I ty (S l) t 0) : ItOK c (fun _ => False) I (l.map fun x => .str [x]) h := by
  have := ItOK.build (c := c) (D := fun _ => False) (I := I) (l.map fun x => V.str [x]) (fun i h => h.IsStrIter I ty (S l) t i)
    (fun i h x => by obtain ⟨o, ho, hc, hd⟩ := x; rcases hty with rfl | rfl <;> exact ⟨o, _, ho, hc, by decide, fields_soft hd hc (by decide)⟩)
    (fun i h h' x y => let ⟨o, ho, z⟩ := x; ⟨o, y _ _ ho (.inl rfl), z⟩)
    (fun i A s u Q E hA x e k => by
      rw [List.getElem?_map] at e
      obtain ⟨n, e, rfl⟩ := Option.map_eq_some_iff.mp e
      rcases hty with rfl | rfl
      · exact wpAny_pyNext_ascii_item x (by simpa [S] using e) fun h' x' sb => k _ _ (ButI.same sb) (Rep_str (l := [n])) x'
      · exact wpAny_pyNext_wide_item x (by simpa [S] using e) fun h' x' sb => k _ _ (ButI.same sb) (Rep_str (l := [n])) x')
    (fun A s Q E hA x k => by
      rcases hty with rfl | rfl
      · exact wpAny_pyNext_ascii_end hA x (by simp [S]) fun h' eb => k _ ⟨fun b o hb e => eb b o hb e, rfl, rfl⟩
      · exact wpAny_pyNext_wide_end hA x (by simp [S]) fun h' eb => k _ ⟨fun b o hb e => eb b o hb e, rfl, rfl⟩)
    (l.map fun x => V.str [x]).length 0 h (by simp) hit
  simpa using this
noncomputable def rangeV (a st : Int) (n : Nat) : List V := (List.range n).map fun i : Nat => .int (a + (i : Int) * st)
theorem It_range {h : Heap} {I : Addr} {a st : Int} {n : Nat} (hit : IsRangeIter h I a n st) : ItOK c (fun _ => False) I (rangeV a st n) h := by
  have := ItOK.build (c := c) (D := fun _ => False) (I := I) (rangeV a st n) (fun i h => IsRangeIter h I (a + i * st) ((n : Int) - i) st)
    (fun i h x => ⟨_, _, x, rfl, by decide, fields_soft rfl rfl (by decide)⟩)
    (fun i h h' x y => y _ _ x (.inl rfl))
    (fun i A s u Q E hA x e k => by
      unfold rangeV at e
      rw [List.getElem?_map] at e
      obtain ⟨m, e3, rfl⟩ := Option.map_eq_some_iff.mp e
      obtain ⟨e1, e2⟩ := List.getElem?_eq_some_iff.mp e3
      rw [List.getElem_range] at e2; subst e2
      rw [List.length_range] at e1
      refine wpAny_pyNext_range_item x (by omega) fun h' x' sb => k _ _ (ButI.same sb) Rep_int ?_
      have e1 : a + (i : Int) * st + st = a + ((i + 1 : Nat) : Int) * st := by rw [Int.natCast_add, Int.add_mul]; simp [Int.add_assoc]
      have e2 : (n : Int) - i - 1 = (n : Int) - ((i + 1 : Nat) : Int) := by omega
      rw [e1, e2] at x'
      exact x')
    (fun A s Q E hA x k => wpAny_pyNext_range_end hA x (by simp [rangeV]) fun h' eb => k _ ⟨fun b o hb e => eb b o hb e, rfl, rfl⟩)
    n 0 h (by simp [rangeV]) (by simpa using hit)
  simpa using this
theorem It_rev {h : Heap} {I l : Addr} {items : List Value} {us : List V} (hit : h.IsRevIter I l ((items.length : Int) - 1)) (hl : h.IsList l items.toArray) (r : RepL c.C h us items) (hne : l ≠ I) : ItOK c (· = l) I us.reverse h := by
  have hlen := r.length
  have := ItOK.build (c := c) (D := (· = l)) (I := I) us.reverse (fun i h => i ≤ us.length ∧ h.IsRevIter I l ((us.length : Int) - 1 - i) ∧ h.IsList l items.toArray ∧ RepL c.C h us items)
    (fun i h x => by obtain ⟨_, ⟨o, ho, hc, hd⟩, _⟩ := x; exact ⟨o, _, ho, hc, by decide, fields_soft hd hc (by decide)⟩)
    (fun i h h' x y => ⟨x.1, let ⟨o, ho, z⟩ := x.2.1; ⟨o, y _ _ ho (.inl rfl), z⟩, let ⟨o, ho, z⟩ := x.2.2.1; ⟨o, y _ _ ho (.inr (.inl rfl)), z⟩, x.2.2.2.keeps fun a o e so => y a o e (.inr (.inr so))⟩)
    (fun i A s u Q E hA x e k => by
      obtain ⟨x0, x1, x2, x3⟩ := x
      have hi := (List.getElem?_eq_some_iff.mp e).1
      rw [List.length_reverse] at hi
      rw [List.getElem?_reverse hi] at e
      obtain ⟨v, e', rv⟩ := x3.get e
      have ei : (us.length : Int) - 1 - i = ((us.length - 1 - i : Nat) : Int) := by omega
      rw [ei] at x1
      refine wpAny_pyNext_rev_item x1 x2 (by simpa using e') fun h' x1' sb => ?_
      have so : ∀ a o, s.heap.get? a = some o → Solid o → h'.get? a = some o := fun a o e z => (sb.2 a fun q => by
        subst q; obtain ⟨o', ho, hc, hd⟩ := x1; rw [e] at ho; cases ho; exact fields_soft hd hc (by decide) z).trans e
      refine k v _ (ButI.same sb) (rv.keeps so) ⟨by omega, ?_, x2.extBut sb.extBut hne, x3.keeps so⟩
      have e2 : ((us.length - 1 - i : Nat) : Int) - 1 = (us.length : Int) - 1 - ((i + 1 : Nat) : Int) := by omega
      rw [e2] at x1'
      exact x1')
    (fun A s Q E hA x k => wpAny_pyNext_rev_end hA (by have := x.2.1; rw [List.length_reverse] at this; rw [show (us.length : Int) - 1 - us.length = -1 by omega] at this; exact this) fun h' eb => k _ ⟨fun b o hb e => eb b o hb e, rfl, rfl⟩)
    us.reverse.length 0 h (by simp) ⟨Nat.zero_le _, by rw [hlen] at hit; simpa using hit, hl, r⟩
  simpa using this
end
set_option tactic.hygienic true
section
variable {c : Cx} {d : Nat} {sc : Scope} {ρ : Locals} {σ : Store} {Q : Fl → Locals → Store → Prop}
theorem letOwned_ok {M : Model} {A : Around} {E : Value → Shared → Prop} {s : Shared} {t : Expr} {I : Addr} {v : Value} {Q' : Unit → Shared → Prop} (x : IterObj s.heap I) (h : Q' () s) : wpAny M A (letOwnedTupleGo t (.ref I) v) Q' E s := by
  have core : wpAny M A (match (Value.ref I, v) with
    | (.ref r, .ref a) => do
      let o ← load r
      match o.cls, o.data with
      | .type n, .fields vs =>
        if ["enumerate", "zip", "dict_itemiterator", "dict_reverseitemiterator", "odict_iterator", "itertools.zip_longest", "itertools.pairwise"].contains n && vs[0]? == some (rawInt a) then
          rule "for.unpacks-the-owned-tuple"
          updateField r 0 .none
      | _, _ => pure ()
    | _ => pure ()) Q' E s := by
    cases v <;> first | exact wpAny_pure h | skip
    obtain ⟨o, n, ho, hc, hok, _⟩ := x
    refine wpAny_bind (wpAny_load ho ?_)
    rw [hc]
    unfold okIter at hok
    have hok : (["enumerate", "zip", "dict_itemiterator", "dict_reverseitemiterator", "odict_iterator", "itertools.zip_longest", "itertools.pairwise"].contains n) = false := by simpa using hok
    split
    · rename_i e _
      cases e
      rw [hok, Bool.false_and]
      exact wpAny_pure h
    · exact wpAny_pure h
  cases t <;> first | exact wpAny_pure h | exact core
theorem Stp.iter {X : Addr → Prop} {σ₀ : Store} {s₀ s s' : Shared} {I : Addr} (st : Stp c X σ₀ s₀ σ s) (h0 : s₀.heap.get? I = none) (hI : σ I = none) (hg : c.g.get? I = none) (ob : IterObj s.heap I) (b : ButI I s s') : Stp c X σ₀ s₀ σ s' := by
  have so : ∀ a o, s.heap.get? a = some o → Solid o → s'.heap.get? a = some o := fun a o e z => b.keep a o (fun q => by
    subst q; obtain ⟨o', n, ho, _, _, ns⟩ := ob; rw [e] at ho; cases ho; exact ns z) e
  refine ⟨⟨fun a o e => b.keep a o (fun q => by rw [q, hg] at e; cases e) (st.base.ground a o e), fun a ao e => ?_, st.base.off, b.gens.trans st.base.gens, b.os.trans st.base.os⟩, fun a h => ?_, fun a o e h1 h2 => ?_, st.grow⟩
  · exact (st.base.objs a ao e).keeps (fun o z => b.keep a o (fun q => by rw [q, hI] at e; cases e) z) so
  · cases q : s.heap.get? a with
    | none => exact absurd q (st.live a h)
    | some o => exact some_ne (b.keep a o (fun z => h (z ▸ h0)) q)
  · exact b.keep a o (fun z => by rw [z, h0] at e; cases e) (st.keep a o e h1 h2)
theorem Loc.iter {env : Env} {s s' : Shared} {I : Addr} (L : Loc c env ρ σ s) (hI : ¬ FX env I) (ob : IterObj s.heap I) (b : ButI I s s') : Loc c env ρ σ s' := by
  have so : ∀ a o, s.heap.get? a = some o → Solid o → s'.heap.get? a = some o := fun a o e z => b.keep a o (fun q => by
    subst q; obtain ⟨o', n, ho, _, _, ns⟩ := ob; rw [e] at ho; cases ho; exact ns z) e
  have kF : ∀ a o, FX env a → s.heap.get? a = some o → s'.heap.get? a = some o := fun a o h e => b.keep a o (fun z => hI (z ▸ h)) e
  refine ⟨?_, fun y k h => ?_, L.inj, L.off⟩
  · obtain ⟨m, ⟨o, es, ep, ho, r⟩, hm⟩ := L.at_
    exact ⟨m, ⟨o, es, ep, kF _ _ (.inl rfl) ho, r⟩, fun y u e => (hm y u e).keeps so fun a o h e => kF a o (.inr h) e⟩
  · obtain ⟨v, o, ho, hd⟩ := L.cell y k h
    exact ⟨v, o, kF _ _ (.inr ⟨y, h⟩) ho, hd⟩
structure Held (env : Env) (D : Addr → Prop) (I : Addr) (σ : Store) (s : Shared) : Prop where
  live : ∀ a, (a = I ∨ D a) → s.heap.get? a ≠ none
  off : ∀ a, (a = I ∨ D a) → σ a = none
  fr : ∀ a, (a = I ∨ D a) → ¬ FX env a
theorem Held.agr {env : Env} {D : Addr → Prop} {I : Addr} {σ' : Store} {s s' : Shared} (h : Held env D I σ s) (B : Base c σ s) (L : Loc c env ρ σ s) (st : Stp c (FX env) σ s σ' s') : Agr D I s.heap s'.heap := fun a o e z => by
  rcases z with z | z | z
  · exact st.keep a o e (h.off a (.inl z)) (h.fr a (.inl z))
  · exact st.keep a o e (h.off a (.inr z)) (h.fr a (.inr z))
  · exact st.solid B L.soft a o e z
theorem Held.step {env : Env} {D : Addr → Prop} {I : Addr} {σ' : Store} {s s' : Shared} (h : Held env D I σ s) (st : Stp c (FX env) σ s σ' s') : Held env D I σ' s' := by
  refine ⟨fun a z => st.live a (h.live a z), fun a z => ?_, h.fr⟩
  cases q : σ' a with
  | none => rfl
  | some ao =>
    rcases st.grow a (some_ne q) with y | y
    · exact absurd (h.off a z) y
    · exact absurd y (h.live a z)
@[irreducible] noncomputable def WF (c : Cx) (d : Nat) (sc : Scope) (t : Expr) (b o : List Stmt) (us : List V) (ρ : Locals) (σ : Store) (Q : Fl → Locals → Store → Prop) : Prop :=
  ∀ A env σ₀ s₀ s I D, Room A d → EnvOK env sc → Loc c env ρ σ s → Stp c (FX env) σ₀ s₀ σ s → s₀.heap.get? I = none → c.g.get? I = none → Held env D I σ s → ItOK c D I us s.heap →
    codeAny (model c.prog c.w) A (.forLoop t (.ref I) b o env) (fun r s' => match r with | .ok f => PostS c env σ₀ s₀ Q f s' | .error _ => False) s
theorem WF_nil {t : Expr} {b o : List Stmt} (h : WB c d sc o ρ σ Q) : WF c d sc t b o [] ρ σ Q := by
  unfold WF
  intro A env σ₀ s₀ s I D R O L st h0 hg hd it
  refine codeAny_of_tree ?_
  show wpAny _ _ ((forTurn t (.ref I) b o env).onRaise (fun x => do noteFrame x env; theTreesLotGoes x)) _ _ s
  refine wpAny_noted ?_
  simp only [forTurn]
  refine wpAny_bind (wpAny_standAt (wpAny_bind (wpAny_onRaise (it.2 _ s R.handled (Agr.refl _) _ _ fun s₁ bi => ?_))))
  have st₁ := st.iter h0 (hd.off I (.inl rfl)) hg it.obj bi
  have L₁ := L.iter (hd.fr I (.inl rfl)) it.obj bi
  exact wpAny_pure ⟨rfl, codeAny_block (anyE <| h.seq R O st₁.base L₁ fun f s₂ fl ρ₂ σ₂ r₂ st₂ L₂ q => ⟨fl, ρ₂, σ₂, r₂, st₁.trans st₂, L₂, q⟩)⟩
noncomputable abbrev kWF (c : Cx) (d : Nat) (sc : Scope) (t : Expr) (b o : List Stmt) (us : List V) (Q : Fl → Locals → Store → Prop) : Locals → Store → Prop := fun ρ σ => WF c d sc t b o us ρ σ Q
theorem WF_cons {t : Expr} {b o : List Stmt} {u : V} {us : List V} (h : TgtP sc t u ρ (kAt (kB c d sc b (Lp Q (kWF c d sc t b o us Q))) σ)) : WF c d sc t b o (u :: us) ρ σ Q := by
  unfold WF
  intro A env σ₀ s₀ s I D R O L st h0 hg hd it
  refine codeAny_of_tree ?_
  show wpAny _ _ ((forTurn t (.ref I) b o env).onRaise (fun x => do noteFrame x env; theTreesLotGoes x)) _ _ s
  refine wpAny_noted ?_
  simp only [forTurn]
  refine wpAny_bind (wpAny_standAt (wpAny_bind (wpAny_onRaise (it.2 _ s R.handled (Agr.refl _) _ _ fun v s₁ bi rv it₁ => ?_))))
  have st₁ := st.iter h0 (hd.off I (.inl rfl)) hg it.obj bi
  have L₁ := L.iter (hd.fr I (.inl rfl)) it.obj bi
  have hd₁ : Held env D I σ s₁ := ⟨fun a z => by
    rcases z with rfl | z
    · obtain ⟨o, _, e, _⟩ := it₁.obj; exact some_ne e
    · by_cases q : a = I
      · subst q; obtain ⟨o, _, e, _⟩ := it₁.obj; exact some_ne e
      · cases e : s.heap.get? a with
        | none => exact absurd e (hd.live a (.inr z))
        | some o => exact some_ne (bi.keep a o q e), hd.off, hd.fr⟩
  refine wpAny_bind (letOwned_ok it₁.obj (wpAny_bind (anyE <| tgt_ok h R.handled O st₁.base L₁ rv fun ρ' s₂ hk st₂ L₂ => wpAny_bind (anyE <| hk.seq R O st₂.base L₂ fun f s₃ fl ρ₃ σ₃ r₃ st₃ L₃ q => ?_))))
  have stw := st₂.trans st₃
  have sta := st₁.trans stw
  have more (q : WF c d sc t b o us ρ₃ σ₃ Q) : codeAny (model c.prog c.w) A (.forLoop t (.ref I) b o env) (fun r s' => match r with | .ok f => PostS c env σ₀ s₀ Q f s' | .error _ => False) s₃ := by
    unfold WF at q
    exact q A env σ₀ s₀ s₃ I D R O L₃ sta h0 hg (hd₁.step stw) (it₁.agree (hd₁.agr st₁.base L₁ stw))
  cases fl with
  | next => obtain rfl := (r₃ : f = .next); exact wpAny_pure ⟨rfl, codeAny_mono (more q) fun r s' z => by cases r with | ok f => exact z | error e => exact z.elim⟩
  | cont => obtain rfl := (r₃ : f = .cont); exact wpAny_pure ⟨rfl, codeAny_mono (more q) fun r s' z => by cases r with | ok f => exact z | error e => exact z.elim⟩
  | brk => obtain rfl := (r₃ : f = .brk); exact wpAny_pure (show PostS c env σ₀ s₀ Q .next s₃ from ⟨.next, ρ₃, σ₃, rfl, sta, L₃, q⟩)
  | ret v => obtain ⟨w, rfl, r₃⟩ := r₃; exact wpAny_pure (show PostS c env σ₀ s₀ Q (.ret w) s₃ from ⟨.ret v, ρ₃, σ₃, ⟨w, rfl, r₃⟩, sta, L₃, q⟩)
noncomputable def ItP : V → Store → (List V → Store → Prop) → Prop
  | .tup us, σ, k => k us σ
  | .lst a, σ, k => ∃ us, σ a = some (.list us) ∧ k us (σ.del a)
  | .str l, σ, k => k (l.map fun x => .str [x]) σ
  | .rng a b st, σ, k => Builtin.Range.small a b st = true ∧ k (rangeV a st (Builtin.Range.rangeSize a b st).toNat) σ
  | _, _, _ => False
theorem rangeSize_nonneg (a b st : Int) : 0 ≤ Builtin.Range.rangeSize a b st := by
  unfold Builtin.Range.rangeSize
  split
  · split
    · rename_i h1 h2
      have : 0 ≤ (b - a - 1) / st := Int.ediv_nonneg (by omega) (by omega)
      omega
    · exact Int.le_refl _
  · split
    · rename_i h1 h2
      by_cases q : st = 0
      · subst q; simp
      · have : 0 ≤ (a - b - 1) / (-st) := Int.ediv_nonneg (by omega) (by omega)
        omega
    · exact Int.le_refl _
theorem held_at {env : Env} {s : Shared} {l : Addr} {ob : Obj} (L : Loc c env ρ σ s) (hl : s.heap.get? l ≠ none) (h1 : σ l = none) (h2 : ¬ FX env l) (hf : s.heap.get? s.heap.objs.size = none) (B : Base c σ s) (fr : ¬ FX env s.heap.objs.size) (h3 : ob.isFreed = false) : Held env (· = l) s.heap.objs.size σ { s with heap := s.heap.push ob } := by
  refine ⟨fun a z => ?_, fun a z => ?_, fun a z => ?_⟩
  · rcases z with rfl | rfl
    · exact some_ne (Heap.get?_push_size _ h3)
    · cases e : s.heap.get? a with
      | none => exact absurd e hl
      | some o => exact some_ne (Heap.get?_push_of_some _ e)
  · rcases z with rfl | rfl
    · exact B.fresh hf
    · exact h1
  · rcases z with rfl | rfl
    · exact fr
    · exact h2
theorem Loc.fr {env : Env} {s : Shared} (L : Loc c env ρ σ s) {a : Addr} (h : s.heap.get? a = none) : ¬ FX env a := by
  rintro (rfl | ⟨x, e⟩)
  · obtain ⟨m, ⟨o, _, _, e, _⟩, _⟩ := L.at_; rw [h] at e; cases e
  · obtain ⟨v, o, e, _⟩ := L.cell x a e; rw [h] at e; cases e
theorem Loc.drop {env : Env} {s : Shared} (L : Loc c env ρ σ s) (a : Addr) : Loc c env ρ (σ.del a) s :=
  ⟨L.at_, L.cell, L.inj, fun b h => ⟨by unfold Store.del; split; rfl; exact (L.off b h).1, (L.off b h).2⟩⟩
noncomputable abbrev kFo (c : Cx) (d : Nat) (sc : Scope) (t : Expr) (b o : List Stmt) (ρ : Locals) (Q : Fl → Locals → Store → Prop) : List V → Store → Prop := fun us σ => WF c d sc t b o us ρ σ Q
noncomputable abbrev kFor (c : Cx) (d : Nat) (sc : Scope) (t : Expr) (b o : List Stmt) (ρ : Locals) (Q : Fl → Locals → Store → Prop) : V → Store → Prop := fun u σ => ItP u σ (kFo c d sc t b o ρ Q)
theorem WF.enter {t : Expr} {b o : List Stmt} {A : Around} {env : Env} {s₀ s : Shared} {σ₀ : Store} {u : V} {v : Value} (R : Room A d) (O : EnvOK env sc) (L : Loc c env ρ σ s) (st : Stp c (FX env) σ₀ s₀ σ s) (r : Rep c.C s.heap u v) (h : ItP u σ (kFo c d sc t b o ρ Q)) :
    wpAny (model c.prog c.w) A (pyIter v) (fun it s₂ => codeAny (model c.prog c.w) A (.forLoop t it b o env) (fun r s' => match r with | .ok f => PostS c env σ₀ s₀ Q f s' | .error _ => False) s₂) noE s := by
  have h0 : s₀.heap.get? s.heap.objs.size = none := by
    cases q : s₀.heap.get? s.heap.objs.size with
    | none => rfl
    | some o => exact absurd (get_size s.heap) (st.live _ (some_ne q))
  have B := st.base
  have hg := B.off_new (get_size s.heap)
  have fr := L.fr (get_size s.heap)
  have go : ∀ {us : List V} {σ' : Store} {D : Addr → Prop} (ob : Obj), WF c d sc t b o us ρ σ' Q → Stp c (FX env) σ₀ s₀ σ' s → Loc c env ρ σ' s → Held env D s.heap.objs.size σ' { s with heap := s.heap.push ob } → ItOK c D s.heap.objs.size us (s.heap.push ob) →
      codeAny (model c.prog c.w) A (.forLoop t (.ref s.heap.objs.size) b o env) (fun r s' => match r with | .ok f => PostS c env σ₀ s₀ Q f s' | .error _ => False) { s with heap := s.heap.push ob } := by
    intro us σ' D ob q st' L' hd it
    unfold WF at q
    have sp := Stp.push st'.base ob
    exact q A env σ₀ s₀ _ _ D R O (L'.step st'.base sp) (st'.trans (noX_FX sp)) h0 hg hd it
  cases u <;> first | exact h.elim | skip
  case tup us =>
    obtain ⟨a, items, n, rfl, ho, l⟩ := r
    have it : s.heap.IsTuple a items.toArray := ⟨_, ho, rfl, _, rfl⟩
    have hne : a ≠ s.heap.objs.size := fun z => by rw [z, get_size] at ho; cases ho
    have sol : Solid (tupObj items n) := .inl ⟨rfl, _, _, rfl⟩
    exact wpAny_pyIter_tuple it (go _ h st L (held_at L (some_ne ho) (B.solid ho sol) (fun z => L.soft _ _ z ho sol) (get_size _) B fr rfl) (It_tuple ⟨_, Heap.get?_push_size _ rfl, rfl, rfl⟩ (it.push _) (l.push _) hne))
  case lst a =>
    subst r
    obtain ⟨us, hs, h⟩ := (h : ∃ us, σ a = some (.list us) ∧ _)
    obtain ⟨items, n, ho, l⟩ := B.objs _ _ hs
    have il : s.heap.IsList a items.toArray := ⟨_, ho, rfl, _, rfl⟩
    have hne : a ≠ s.heap.objs.size := fun z => by rw [z, get_size] at ho; cases ho
    have st' := st.drop a
    have fa : ¬ FX env a := fun z => by have := (L.off a z).1; rw [hs] at this; cases this
    exact wpAny_pyIter_list il (go _ h st' (L.drop a) (held_at (L.drop a) (some_ne ho) (by simp [Store.del]) fa (get_size _) st'.base fr rfl) (It_list ⟨_, Heap.get?_push_size _ rfl, rfl, rfl⟩ ⟨_, Heap.get?_push_of_some _ ho, rfl, _, rfl⟩ (l.push _) hne))
  case str l =>
    obtain ⟨tk, rfl⟩ := r
    refine wpAny_pyIter_strU (go _ h st L ⟨fun a z => ?_, fun a z => ?_, fun a z => ?_⟩ (It_str _ ?_ ⟨_, Heap.get?_push_size _ rfl, rfl, rfl⟩))
    · rcases z with rfl | z
      · exact some_ne (Heap.get?_push_size _ rfl)
      · exact z.elim
    · rcases z with rfl | z
      · exact B.fresh (get_size _)
      · exact z.elim
    · rcases z with rfl | z
      · exact fr
      · exact z.elim
    · unfold strIterType
      split
      · exact .inl rfl
      · exact .inr rfl
  case rng lo hi stp =>
    obtain ⟨a, t1, t2, t3, rfl, ho⟩ := r
    have h : _ ∧ _ := h
    refine wpAny_pyIter_range ho h.1 (go _ h.2 st L ⟨fun a z => ?_, fun a z => ?_, fun a z => ?_⟩ (It_range ?_))
    · rcases z with rfl | z
      · exact some_ne (Heap.get?_push_size _ rfl)
      · exact z.elim
    · rcases z with rfl | z
      · exact B.fresh (get_size _)
      · exact z.elim
    · rcases z with rfl | z
      · exact fr
      · exact z.elim
    · have e : ((Builtin.Range.rangeSize lo hi stp).toNat : Int) = Builtin.Range.rangeSize lo hi stp := Int.toNat_of_nonneg (rangeSize_nonneg ..)
      rw [e]
      exact Heap.get?_push_size _ rfl
theorem WS_for {t it : Expr} {b o : List Stmt} {p : Pos} (h : WE c d sc it ρ σ (kFor c d sc t b o ρ Q)) (hs : ∀ (env : Env) x, foldedSetIterable it env x = pure x) : WS c d sc (.For t it b o p) ρ σ Q :=
  .mk fun A env s R O B L => wpAny_For (h.seq R O B L fun v s₁ u σ₁ r st q => wpAny_mono (WF.enter R O (L.step B st) (noX_FX st) r q) (fun it s₂ z => codeAny_mono z fun r s' z => by cases r with | ok f => exact z | error e => exact z.elim) fun _ _ z => z) (hs env)
end
set_option tactic.hygienic false
theorem clos_ex {env : Env} (names : List (Str × NameKind)) : ∀ (acc : List (Str × Addr)), (∀ n, (n, NameKind.free) ∈ names → ∃ a, env.cells.lookup n = some a) → (∀ x k, acc.lookup x = some k → env.cells.lookup x = some k) →
   ∃ cl : List (Str × Addr), (forIn names acc (fun (x : Str × NameKind) (cs : List (Str × Addr)) => (match x with | (name, kind) => if (kind == NameKind.free) = true then do let a ← cellOf env name; pure (ForInStep.yield ((name, a) :: cs)) else pure (ForInStep.yield cs) : Sem (ForInStep (List (Str × Addr)))))) = (pure cl : Sem _) ∧
     (∀ x k, cl.lookup x = some k → env.cells.lookup x = some k) ∧ ∀ x, ((x, NameKind.free) ∈ names ∨ ∃ k, acc.lookup x = some k) → ∃ k, cl.lookup x = some k := by
  induction names with
  | nil => intro acc h hi; exact ⟨acc, rfl, hi, fun x h => h.elim (fun z => nomatch z) id⟩
  | cons p r ih =>
    intro acc h hi
    obtain ⟨n, k⟩ := p
    by_cases q : k = .free
    · subst q
      obtain ⟨a, ha⟩ := h n (.head _)
      have e : cellOf env n = pure a := by unfold cellOf; rw [ha]
      obtain ⟨cl, c1, c2, c3⟩ := ih ((n, a) :: acc) (fun m hm => h m (.tail _ hm)) (fun x k hx => by
        rw [List.lookup_cons] at hx
        split at hx
        · rename_i z; cases hx; rw [beq_iff_eq.mp z]; exact ha
        · exact hi x k hx)
      refine ⟨cl, ?_, c2, fun x hx => ?_⟩
      · rw [List.forIn_cons]; dsimp only; rw [e]
        exact c1
      · by_cases z : x = n
        · subst z; exact c3 x (.inr ⟨a, by rw [List.lookup_cons, beq_self_eq_true]⟩)
        · rcases hx with hx | ⟨k, hx⟩
          · rcases List.mem_cons.mp hx with y | y
            · exact absurd (Prod.mk.inj y).1 z
            · exact c3 x (.inl y)
          · exact c3 x (.inr ⟨k, by rw [List.lookup_cons, show (x == n) = false from beq_eq_false_iff_ne.mpr z]; exact hx⟩)
    · obtain ⟨cl, c1, c2, c3⟩ := ih acc (fun m hm => h m (.tail _ hm)) hi
      refine ⟨cl, ?_, c2, fun x hx => c3 x (hx.imp (fun y => ?_) id)⟩
      · rw [List.forIn_cons]; dsimp only; rw [if_neg (by simpa using q)]
        exact c1
      · rcases List.mem_cons.mp y with y | y
        · exact absurd (Prod.mk.inj y).2.symm q
        · exact y
theorem clos_of {env : Env} (scope : Scope) (h : ∀ n, (n, NameKind.free) ∈ scope.names → ∃ a, env.cells.lookup n = some a) : ∃ cl, closureFor scope env = pure cl ∧ (∀ x k, cl.lookup x = some k → env.cells.lookup x = some k) ∧ ∀ x, (x, NameKind.free) ∈ scope.names → ∃ k, cl.lookup x = some k := by
  obtain ⟨cl, c1, c2, c3⟩ := clos_ex scope.names [] h (fun _ _ z => nomatch z)
  refine ⟨cl, ?_, c2, fun x hx => c3 x (.inl hx)⟩
  unfold closureFor
  exact (congrArg (fun t : Sem (List (Str × Addr)) => t >>= pure) c1).trans rfl
section
variable {c : Cx} {d : Nat} {sc : Scope} {ρ : Locals} {σ : Store} {Q : Fl → Locals → Store → Prop}
theorem Loc.weak {env : Env} {s : Shared} {ρ' : Locals} (L : Loc c env ρ' σ s) (h : ∀ x u, lk x ρ = some u → lk x ρ' = some u) : Loc c env ρ σ s :=
  ⟨let ⟨m, n, k⟩ := L.at_; ⟨m, n, fun x u e => k x u (h x u e)⟩, L.cell, L.inj, L.off⟩
noncomputable def subL (ρ ρ' : Locals) : Prop := ∀ x u, lk x ρ = some u → lk x ρ' = some u
theorem WE.weak {e : Expr} {ρ' : Locals} {Q : V → Store → Prop} (h : WE c d sc e ρ σ Q) (w : subL ρ ρ') : WE c d sc e ρ' σ Q := by
  unfold WE at h ⊢
  exact fun A env s R O B L => h A env s R O B (L.weak w)
theorem WB.weak {b : List Stmt} {ρ' : Locals} (h : WB c d sc b ρ σ Q) (w : subL ρ ρ') : WB c d sc b ρ' σ Q := by
  unfold WB at h ⊢
  exact fun A env s R O B L => h A env s R O B (L.weak w)
theorem WW.weak {t : Expr} {b o : List Stmt} {ρ' : Locals} (h : WW c d sc t b o ρ σ Q) (w : subL ρ ρ') : WW c d sc t b o ρ' σ Q := by
  unfold WW at h ⊢
  exact fun A env s R O B L => h A env s R O B (L.weak w)
theorem WF.weak {t : Expr} {b o : List Stmt} {us : List V} {ρ' : Locals} (h : WF c d sc t b o us ρ σ Q) (w : subL ρ ρ') : WF c d sc t b o us ρ' σ Q := by
  unfold WF at h ⊢
  exact fun A env σ₀ s₀ s I D R O L => h A env σ₀ s₀ s I D R O (L.weak w)
theorem lk_mem : ∀ {ρ : Locals} {x : Str} {u : V}, lk x ρ = some u → (x, u) ∈ ρ
  | [], _, _, h => nomatch h
  | (y, v) :: r, x, u, h => by
    unfold lk at h
    split at h
    · rename_i q; cases h; subst q; exact .head _
    · exact .tail _ (lk_mem h)
theorem subL.of {ρ ρ' : Locals} (h : ∀ p ∈ ρ, lk p.1 ρ' = some p.2) : subL ρ ρ' := fun x u e => h _ (lk_mem e)
theorem WS_for_rev {t x : Expr} {b o : List Stmt} {p p1 p2 : Pos} (OK : CxOK c) (h1 : okGlobal sc "reversed" = true) (h2 : GV c "reversed" (.type "reversed")) (hn : noStar x = true)
    (h : WE c d sc x ρ σ fun u σ₁ => ∃ a us, u = .lst a ∧ σ₁ a = some (.list us) ∧ WF c d sc t b o us.reverse ρ (σ₁.del a) Q) (hs : ∀ (env : Env) y, foldedSetIterable (.Call (.Name "reversed" p1) [x] [] p2) env y = pure y) :
    WS c d sc (.For t (.Call (.Name "reversed" p1) [x] [] p2) b o p) ρ σ Q :=
  .mk fun A env s R O B L => wpAny_For (by
    show wpAny _ _ (eval (.Name "reversed" p1) env >>= fun fv => callWith p2 fv [] (backTo p2 (starEach [x] env)) (backToKw p2 (keywordEach [] env))) _ _ _
    refine wpAny_bind (glob_name OK h1 h2 O B ?_)
    have h' : WL c d sc [x] ρ σ fun us σ₁ => ∃ a vs, us = [.lst a] ∧ σ₁ a = some (.list vs) ∧ WF c d sc t b o vs.reverse ρ (σ₁.del a) Q := WL_cons (by
      unfold WE at h ⊢
      exact fun A env s R O B L => wpAny_mono (h A env s R O B L) (fun v s' ⟨u, σ', r, st, a, us, e, q⟩ => ⟨u, σ', r, st, WL_nil ⟨a, us, by rw [e], q⟩⟩) fun _ _ z => z) hn
    refine callW OK (.inr (.inl ⟨_, rfl⟩)) (by simpa using hn) (h'.seq R O B L p2 fun vs s₁ us σ₁ r st q => ⟨st.base.ground, ?_⟩)
    obtain ⟨a, us', rfl, hs', q⟩ := q
    obtain ⟨v, vs', rfl, ra, rb⟩ := r
    subst rb
    subst ra
    have B₁ := st.base
    have L₁ := L.step B st
    obtain ⟨items, n, ho, l⟩ := B₁.objs _ _ hs'
    have il : s₁.heap.IsList a items.toArray := ⟨_, ho, rfl, _, rfl⟩
    have hne : a ≠ s₁.heap.objs.size := fun z => by rw [z, get_size] at ho; cases ho
    refine call_reversed_list il ?_
    refine wpAny_pyIter_revIter (i := ((items.toArray.size : Int) - 1)) ⟨_, Heap.get?_push_size _ rfl, rfl, rfl⟩ ?_
    have h0 : s.heap.get? s₁.heap.objs.size = none := by
      cases q : s.heap.get? s₁.heap.objs.size with
      | none => rfl
      | some o => exact absurd (get_size s₁.heap) (st.live _ (some_ne q))
    have fa : ¬ FX env a := fun z => by have := (L₁.off a z).1; rw [hs'] at this; cases this
    have st' := st.drop a
    have sp := Stp.push st'.base (revObj a ((items.toArray.size : Int) - 1))
    have hd := held_at (ob := revObj a ((items.toArray.size : Int) - 1)) (L₁.drop a) (some_ne ho) (by simp [Store.del]) fa (get_size _) st'.base (L₁.fr (get_size _)) rfl
    unfold WF at q
    exact codeAny_mono (q A env σ s _ _ _ R O ((L₁.drop a).step st'.base sp) (noX_FX (st'.trans sp)) h0 (B₁.off_new (get_size _)) hd
      (It_rev ⟨_, Heap.get?_push_size _ rfl, rfl, by simp [revObj]⟩ ⟨_, Heap.get?_push_of_some _ ho, rfl, _, rfl⟩ (l.push _) hne)) fun r s' z => by cases r with | ok f => exact z | error e => exact z.elim) (hs env)
theorem CV_append {a : Addr} {u : V} {vs : List V} {Q : V → Store → Prop} (h : σ a = some (.list vs)) (hz : vs.length ≤ sizeLine) (q : Q .none (σ.set a (.list (vs ++ [u])))) : CV c d (.builtin "list.append") [.lst a, u] σ Q := by
  unfold CV
  intro A s ws R B r
  obtain ⟨v, vs', rfl, ra, r⟩ := r
  obtain ⟨v', vs'', rfl, rb, r⟩ := r
  subst r
  subst ra
  obtain ⟨items, n, ho, l⟩ := B.objs _ _ h
  have hlen := l.length
  refine append_at (n := n) ho (fun h' sb ho' => ?_) (by simpa [hlen] using hz)
  have st := Stp.put (s := s) (s' := { s with heap := h' }) (ao := .list (vs ++ [u])) B h sb (fun so => by
    have e : items.toArray.push v' = (items ++ [v']).toArray := by simp
    rw [e] at ho'
    exact RepO_list ho' ((l.keeps so).append (RepL_cons (rb.keeps so) rfl))) rfl rfl
  exact ⟨.none, _, Rep_none, st, q⟩
end
set_option tactic.hygienic true
section
variable {c : Cx} {d : Nat} {sc : Scope} {ρ : Locals} {σ : Store}
noncomputable def relabS (scope sc : Scope) : Scope := { scope with names := scope.names.map fun (n, k) => if (k == .free && sc.kind == .function && sc.names.lookup n == some .cell) then (n, .cell) else (n, k) }
theorem relabel_eq {scope : Scope} {env : Env} : relabel scope env = relabS scope env.scope := rfl
theorem store_local {M : Model} {A : Around} {E : Value → Shared → Prop} {env : Env} {s : Shared} {x : Str} {u : V} {v : Value} {Q' : Unit → Shared → Prop} (hk : sc.names.lookup x = some .local) (hd : (x == ("__debug__" : Str)) = false) (O : EnvOK env sc) (B : Base c σ s) (L : Loc c env ρ σ s) (r : Rep c.C s.heap u v)
    (k : ∀ s', Stp c (· = env.locals) σ s σ s' → Loc c env ((x, u) :: ρ) σ s' → Q' () s') : wpAny M A (storeName env x v) Q' E s := by
  have hkind : env.scope.kind = .function := by rw [O.scope]; exact O.kind
  obtain ⟨m, hm, hn⟩ := L.at_
  obtain ⟨oL, esL, epL, hoL, hdL, hkL, hfL⟩ := id hm
  have hx : env.kindOf x = some .local := by unfold Env.kindOf; rw [O.scope]; exact hk
  refine wpAny_storeName_local hx hm (fun h' hn' sb => ?_) (by rw [hkind]; rfl)
  have st : Stp c (· = env.locals) σ s σ { s with heap := h', toks := s.toks + 1 } := Stp.frame B (L.off _ (.inl rfl)).1 (L.off _ (.inl rfl)).2 rfl sb (fun o e => L.soft _ _ (.inl rfl) e) (by obtain ⟨_, _, _, e, _⟩ := hn'; exact some_ne e) rfl rfl
  have sk := st.solid B fun a o h e => L.soft a o (.inl h) e
  have kc : ∀ y k, env.cells.lookup y = some k → ∀ o, s.heap.get? k = some o → h'.get? k = some o := fun y k e o ho => by
    obtain ⟨w, o', ho', hd'⟩ := L.cell y k e
    refine (sb.2 k fun z => ?_).trans ho
    rw [z, hoL] at ho'; cases ho'; rw [hdL] at hd'; cases hd'
  refine k _ st ⟨⟨_, hn', fun y w e => ?_⟩, fun y k e => ?_, L.inj, L.off⟩
  · unfold lk at e
    by_cases q : y = x
    · subst q; rw [if_pos rfl] at e; cases e
      exact ⟨hd, v, r.keeps sk, .inl ⟨hx, if_pos rfl⟩⟩
    · rw [if_neg q] at e
      obtain ⟨z0, w', z1, z2⟩ := hn y w e
      refine ⟨z0, w', z1.keeps sk, z2.imp (fun ⟨a, b⟩ => ⟨a, (if_neg q).trans b⟩) fun ⟨a, k, b, o, ho, hd'⟩ => ⟨a, k, b, o, kc y k b o ho, hd'⟩⟩
  · obtain ⟨w, o, ho, hd'⟩ := L.cell y k e
    exact ⟨w, o, kc y k e o ho, hd'⟩
theorem Stp.hide {X Y : Addr → Prop} {σ₀ σ' : Store} {s₀ s s' : Shared} (st : Stp c X σ₀ s₀ σ s) (st' : Stp c Y σ s σ' s') (h : ∀ a, Y a → s₀.heap.get? a = none) : Stp c X σ₀ s₀ σ' s' := by
  have st'' : Stp c (fun a => X a ∨ Y a) σ s σ' s' := st'.wide fun _ z => .inr z
  have t : Stp c (fun a => X a ∨ Y a) σ₀ s₀ σ' s' := (st.wide (fun _ z => .inl z)).trans st''
  exact ⟨t.base, t.live, fun a o e h1 h2 => t.keep a o e h1 fun z => z.elim h2 fun y => (by have := h a y; rw [e] at this; cases this), t.grow⟩
theorem Stp.but {X : Addr → Prop} {σ₀ : Store} {s₀ s s' : Shared} {I : Addr} (st : Stp c X σ₀ s₀ σ s) (h0 : s₀.heap.get? I = none) (hI : σ I = none) (hg : c.g.get? I = none) (ns : ∀ o, s.heap.get? I = some o → ¬ Solid o) (b : ButI I s s') : Stp c X σ₀ s₀ σ s' := by
  have so : ∀ a o, s.heap.get? a = some o → Solid o → s'.heap.get? a = some o := fun a o e z => b.keep a o (fun q => by subst q; exact ns o e z) e
  refine ⟨⟨fun a o e => b.keep a o (fun q => by rw [q, hg] at e; cases e) (st.base.ground a o e), fun a ao e => ?_, st.base.off, b.gens.trans st.base.gens, b.os.trans st.base.os⟩, fun a h => ?_, fun a o e h1 h2 => ?_, st.grow⟩
  · exact (st.base.objs a ao e).keeps (fun o z => b.keep a o (fun q => by rw [q, hI] at e; cases e) z) so
  · cases q : s.heap.get? a with
    | none => exact absurd q (st.live a h)
    | some o => exact some_ne (b.keep a o (fun z => h (z ▸ h0)) q)
  · exact b.keep a o (fun z => by rw [z, h0] at e; cases e) (st.keep a o e h1 h2)
theorem Loc.but {env : Env} {s s' : Shared} {I : Addr} (L : Loc c env ρ σ s) (hI : ¬ FX env I) (ns : ∀ o, s.heap.get? I = some o → ¬ Solid o) (b : ButI I s s') : Loc c env ρ σ s' := by
  have so : ∀ a o, s.heap.get? a = some o → Solid o → s'.heap.get? a = some o := fun a o e z => b.keep a o (fun q => by subst q; exact ns o e z) e
  have kF : ∀ a o, FX env a → s.heap.get? a = some o → s'.heap.get? a = some o := fun a o h e => b.keep a o (fun z => hI (z ▸ h)) e
  refine ⟨?_, fun y k h => ?_, L.inj, L.off⟩
  · obtain ⟨m, ⟨o, es, ep, ho, r⟩, hm⟩ := L.at_
    exact ⟨m, ⟨o, es, ep, kF _ _ (.inl rfl) ho, r⟩, fun y u e => (hm y u e).keeps so fun a o h e => kF a o (.inr h) e⟩
  · obtain ⟨v, o, ho, hd⟩ := L.cell y k h
    exact ⟨v, o, kF _ _ (.inr ⟨y, h⟩) ho, hd⟩
@[irreducible] noncomputable def WC (c : Cx) (d : Nat) (sc scope : Scope) (elt : Expr) (x : Str) (px : Pos) (iter : Expr) (pos : Pos) (us : List V) (D : Addr) (ρ : Locals) (σ : Store) (Q : Store → Prop) : Prop :=
  ∀ A env σ₀ s₀ s I Dd, Room A d → EnvOK env (relabS scope sc) → Loc c env ρ σ s → Stp c noX σ₀ s₀ σ s → s₀.heap.get? I = none → s₀.heap.get? env.locals = none → c.g.get? I = none → Held env Dd I σ s → ItOK c Dd I us s.heap →
    codeAny (model c.prog c.w) A (.compLoop (.ListComp elt [⟨.Name x px, iter, [], 0⟩] scope pos) 0 (.ref I) (.ref D) env)
      (fun r s' => match r with | .ok f => ∃ σ', Stp c noX σ₀ s₀ σ' s' ∧ Loc c env ρ σ' s' ∧ Q σ' | .error _ => False) s
theorem WC_nil {scope : Scope} {elt : Expr} {x : Str} {px : Pos} {iter : Expr} {pos : Pos} {D : Addr} {Q : Store → Prop} (h : Q σ) : WC c d sc scope elt x px iter pos [] D ρ σ Q := by
  unfold WC
  intro A env σ₀ s₀ s I Dd R O L st h0 hC hg hd it
  refine codeAny_of_tree ?_
  show wpAny _ _ ((compTurn (.ListComp elt [⟨.Name x px, iter, [], 0⟩] scope pos) 0 (.ref I) (.ref D) env).onRaise (fun x => do noteFrame x env; theTreesLotGoes x)) _ _ s
  refine wpAny_noted ?_
  refine via (compTurn_list1 ..) ?_
  refine wpAny_bind (wpAny_standAt (wpAny_bind (it.2 _ s R.handled (Agr.refl _) _ _ fun s₁ bi => ?_)))
  have st₁ := st.iter h0 (hd.off I (.inl rfl)) hg it.obj bi
  have L₁ := L.iter (hd.fr I (.inl rfl)) it.obj bi
  exact wpAny_pure ⟨σ, st₁, L₁, h⟩
theorem WC_cons {scope : Scope} {elt : Expr} {x : Str} {px : Pos} {iter : Expr} {pos : Pos} {D : Addr} {u : V} {us : List V} {Q : Store → Prop} (hx : (relabS scope sc).names.lookup x = some .local) (hdb : (x == ("__debug__" : Str)) = false) (hl : lk x ρ = none)
    (h : WE c d (relabS scope sc) elt ((x, u) :: ρ) σ fun v σ₁ => ∃ vs, σ₁ D = some (.list vs) ∧ vs.length ≤ sizeLine ∧ WC c d sc scope elt x px iter pos us D ρ (σ₁.set D (.list (vs ++ [v]))) Q) : WC c d sc scope elt x px iter pos (u :: us) D ρ σ Q := by
  unfold WC
  intro A env σ₀ s₀ s I Dd R O L st h0 hC hg hd it
  refine codeAny_of_tree ?_
  show wpAny _ _ ((compTurn (.ListComp elt [⟨.Name x px, iter, [], 0⟩] scope pos) 0 (.ref I) (.ref D) env).onRaise (fun x => do noteFrame x env; theTreesLotGoes x)) _ _ s
  refine wpAny_noted ?_
  refine via (compTurn_list1 ..) ?_
  refine wpAny_bind (wpAny_standAt (wpAny_bind (it.2 _ s R.handled (Agr.refl _) _ _ fun v s₁ bi rv it₁ => ?_)))
  have st₁ := st.iter h0 (hd.off I (.inl rfl)) hg it.obj bi
  have L₁ := L.iter (hd.fr I (.inl rfl)) it.obj bi
  have hd₁ : Held env Dd I σ s₁ := ⟨fun a z => by
    rcases z with rfl | z
    · obtain ⟨o, _, e, _⟩ := it₁.obj; exact some_ne e
    · by_cases q : a = I
      · subst q; obtain ⟨o, _, e, _⟩ := it₁.obj; exact some_ne e
      · cases e : s.heap.get? a with
        | none => exact absurd e (hd.live a (.inr z))
        | some o => exact some_ne (bi.keep a o q e), hd.off, hd.fr⟩
  refine wpAny_bind (letOwned_ok it₁.obj (wpAny_bind (wpAny_assign_Name (store_local hx hdb O st₁.base L₁ rv fun s₂ st₂ L₂ => wpAny_bind (wpAny_bind (anyE <| h.seq R O st₂.base L₂ fun w s₃ v₃ σ₃ r₃ st₃ q => ?_))))))
  obtain ⟨vs, hs, hz, q⟩ := q
  have ap : CV c d (.builtin "list.append") [.lst D, v₃] σ₃ fun y σ₄ => y = .none ∧ σ₄ = σ₃.set D (.list (vs ++ [v₃])) := CV_append hs hz ⟨rfl, rfl⟩
  refine wpAny_bind (anyE <| ap.seq R st₃.base (RepL_cons (u := .lst D) rfl (RepL_cons r₃ rfl)) fun y s₄ y' σ₄ r₄ st₄ e => ?_)
  obtain ⟨rfl, rfl⟩ := e
  have stw := (st₂.wide (Y := FX env) fun a z => .inl z).trans (noX_FX (st₃.trans st₄))
  have sta := (st₁.hide st₂ (fun a z => by subst z; exact hC)).trans (st₃.trans st₄)
  have L₄ := ((L₂.step st₂.base st₃).step st₃.base st₄).weak (ρ := ρ) fun y u' e => by
    unfold lk
    rw [if_neg (fun z => by subst z; rw [hl] at e; cases e)]
    exact e
  unfold WC at q
  exact wpAny_pure (wpAny_pure ⟨rfl, q A env σ₀ s₀ s₄ I Dd R O L₄ sta h0 hC hg (hd₁.step stw) (it₁.agree (hd₁.agr st₁.base L₁ stw))⟩)
noncomputable def compOK (scope sc : Scope) (x : Str) : Bool :=
  (scope.kind == .function && sc.kind == .function) && (scope.names.all fun p => p.2 != .cell) && (scope.names.all fun p => p.2 != .local || scope.names.lookup p.1 == some .local) &&
  (scope.names.all fun p => p.2 != .free || sc.names.lookup p.1 == some .cell) && scope.names.lookup x == some .local && !(x == ("__debug__" : Str))
noncomputable def SelfIt (c : Cx) (D : Addr → Prop) (I : Addr) (h : Heap) : Prop := ∀ A s, Agr D I h s.heap → ∀ (Q : Value → Shared → Prop) E, Q (.ref I) s → wpAny (model c.prog c.w) A (pyIter (.ref I)) Q E s
noncomputable def CIt : V → (List V → Prop) → Prop
  | .tup us, k => k us
  | .rng a b st, k => Builtin.Range.small a b st = true ∧ k (rangeV a st (Builtin.Range.rangeSize a b st).toNat)
  | _, _ => False
theorem CIt_iter {A : Around} {env : Env} {s : Shared} {u : V} {v : Value} {k : List V → Prop} (h : CIt u k) (B : Base c σ s) (L : Loc c env ρ σ s) (r : Rep c.C s.heap u v) {Q' : Value → Shared → Prop}
    (q : ∀ ob D us, k us → ob.isFreed = false → ItOK c D s.heap.objs.size us (s.heap.push ob) → SelfIt c D s.heap.objs.size (s.heap.push ob) → (∀ a, D a → s.heap.get? a ≠ none ∧ σ a = none ∧ ¬ FX env a) → Q' (.ref s.heap.objs.size) { s with heap := s.heap.push ob }) : wpAny (model c.prog c.w) A (pyIter v) Q' noE s := by
  cases u <;> first | exact h.elim | skip
  case tup us =>
    obtain ⟨a, items, n, rfl, ho, l⟩ := r
    have it : s.heap.IsTuple a items.toArray := ⟨_, ho, rfl, _, rfl⟩
    have hne : a ≠ s.heap.objs.size := fun z => by rw [z, get_size] at ho; cases ho
    have sol : Solid (tupObj items n) := .inl ⟨rfl, _, _, rfl⟩
    refine wpAny_pyIter_tuple it (q _ _ _ h rfl (It_tuple ⟨_, Heap.get?_push_size _ rfl, rfl, rfl⟩ (it.push _) (l.push _) hne) (fun A s' ag Q E z => ?_) (fun b e => ?_))
    · exact wpAny_pyIter_tupleiter (i := 0) ⟨_, ag _ _ (Heap.get?_push_size _ rfl) (.inl rfl), rfl, rfl⟩ z
    · subst e; exact ⟨some_ne ho, B.solid ho sol, fun z => L.soft _ _ z ho sol⟩
  case rng lo hi stp =>
    obtain ⟨a, t1, t2, t3, rfl, ho⟩ := r
    have h : _ ∧ _ := h
    refine wpAny_pyIter_range ho h.1 (q _ (fun _ => False) _ h.2 rfl (It_range ?_) (fun A s' ag Q E z => ?_) (fun b e => e.elim))
    · have e : ((Builtin.Range.rangeSize lo hi stp).toNat : Int) = Builtin.Range.rangeSize lo hi stp := Int.toNat_of_nonneg (rangeSize_nonneg ..)
      rw [e]
      exact Heap.get?_push_size _ rfl
    · exact wpAny_pyIter_rangeiter (ag _ _ (Heap.get?_push_size _ rfl) (.inl rfl)) z
theorem lookup_map_cell {sc : Scope} : ∀ {names : List (Str × NameKind)} {x : Str}, (names.map fun (p : Str × NameKind) => match p with | (n, k) => if (k == .free && sc.kind == .function && sc.names.lookup n == some .cell) = true then (n, NameKind.cell) else (n, k)).lookup x = some .cell → (∀ p ∈ names, p.2 ≠ .cell) → (x, NameKind.free) ∈ names
  | [], _, h, _ => by simp at h
  | (n, k) :: r, x, h, hc => by
    rw [List.map_cons] at h
    by_cases q : x = n
    · subst q
      by_cases z : (k == .free && sc.kind == .function && sc.names.lookup x == some .cell) = true
      · have : k = .free := by
          have := (Bool.and_eq_true_iff.mp (Bool.and_eq_true_iff.mp z).1).1
          exact beq_iff_eq.mp this
        subst this; exact .head _
      · dsimp only at h
        rw [if_neg z, List.lookup_cons, beq_self_eq_true] at h
        cases h
        exact absurd rfl (hc _ (.head _))
    · refine .tail _ (lookup_map_cell (sc := sc) ?_ fun p hp => hc p (.tail _ hp))
      dsimp only at h
      by_cases z : (k == .free && sc.kind == .function && sc.names.lookup n == some .cell) = true
      · rw [if_pos z, List.lookup_cons, show (x == n) = false from beq_eq_false_iff_ne.mpr q] at h; exact h
      · rw [if_neg z, List.lookup_cons, show (x == n) = false from beq_eq_false_iff_ne.mpr q] at h; exact h
theorem comp_go {A : Around} {env : Env} {s₀ s : Shared} {σ₀ : Store} {elt iter : Expr} {x : Str} {px pos : Pos} {scope : Scope} {cl : List (Str × Addr)} {ρ' : Locals} {us : List V} {I : Addr} {Dd : Addr → Prop} {Qc : Addr → Store → Prop} {RR : Value → Addr → Result → Shared → Prop} (R : Room A d) (O : EnvOK env sc) (B₀ : Base c σ₀ s₀) (L₀ : Loc c env ρ σ₀ s₀) (L : Loc c env ρ σ s) (st : Stp c noX σ₀ s₀ σ s)
    (hok : compOK scope sc x = true) (hc2 : ∀ x k, cl.lookup x = some k → env.cells.lookup x = some k) (hc3 : ∀ x, (x, NameKind.free) ∈ scope.names → ∃ k, cl.lookup x = some k)
    (hcap : ∀ p ∈ ρ', lk p.1 ρ = some p.2) (hcap2 : (ρ'.all fun p => (relabS scope sc).names.lookup p.1 == some .cell && sc.names.lookup p.1 == some .cell) = true)
    (h0 : s₀.heap.get? I = none) (hg : c.g.get? I = none) (hd : Held env Dd I σ s) (it : ItOK c Dd I us s.heap) (self : SelfIt c Dd I s.heap)
    (h : ∀ D, σ D = none → WC c d sc scope elt x px iter pos us D ρ' (σ.set D (.list [])) (Qc D))
    (hRR : ∀ D C s' σ₂ m' f, Stp c noX σ₀ s₀ σ₂ s' → Loc c env ρ σ₂ s' → Qc D σ₂ → s'.heap.Ns C m' → s₀.heap.get? C = none → σ₂ C = none → c.g.get? C = none → ¬ FX env C → RR (.ref D) C (.ok f) s') :
    wpAny (model c.prog c.w) A (newList []) (fun acc s₃ =>
      wpAny (model c.prog c.w) A (newFunctionEnv scope env.globals cl [] env.qual none .none (some env)) (fun cenv s₄ =>
        codeAny (model c.prog c.w) A (.compStart (.ListComp elt [⟨.Name x px, iter, [], 0⟩] scope pos) 0 (.ref I) acc { cenv with scope := relabel scope env }) (RR acc cenv.locals) s₄) noE s₃) noE s := by
  unfold compOK at hok
  obtain ⟨hok, o6⟩ := Bool.and_eq_true_iff.mp hok
  obtain ⟨hok, o5⟩ := Bool.and_eq_true_iff.mp hok
  obtain ⟨hok, o4⟩ := Bool.and_eq_true_iff.mp hok
  obtain ⟨hok, o3⟩ := Bool.and_eq_true_iff.mp hok
  obtain ⟨o1, o2⟩ := Bool.and_eq_true_iff.mp hok
  obtain ⟨o1, o1'⟩ := Bool.and_eq_true_iff.mp o1
  have hkind : scope.kind = .function := beq_iff_eq.mp o1
  have hcell : ∀ p ∈ scope.names, p.2 ≠ .cell := fun p hp => by have := List.all_eq_true.mp o2 p hp; simpa using this
  refine wpAny_newObj_type (wpAny_newFunctionEnv hcell (by intro y hy; simp at hy) (fun h₁ hns₁ hsb₁ => ?_) hkind)
  dsimp only at hns₁ hsb₁ ⊢
  have B := st.base
  have hDf := get_size s.heap
  have st₂ : Stp c noX σ s (σ.set s.heap.objs.size (.list [])) { s with heap := s.heap.push (lstObj [] 0) } :=
    (Stp.push B (lstObj [] 0)).new hDf (RepO_list (items := []) (n := 0) (Heap.get?_push_size _ rfl) rfl) (B.off_new hDf)
  have hCf := get_size (s.heap.push (lstObj [] 0))
  have kH : ∀ a o, (s.heap.push (lstObj [] 0)).get? a = some o → h₁.get? a = some o := fun a o e =>
    hsb₁.extBut a o (fun z => by rw [z] at e; rw [hCf] at e; cases e) (Heap.get?_push_of_some _ e)
  have st₃ : Stp c noX (σ.set s.heap.objs.size (.list [])) { s with heap := s.heap.push (lstObj [] 0) } (σ.set s.heap.objs.size (.list [])) { s with heap := h₁, toks := s.toks + ([] : List (Str × Value)).length } :=
    Stp.grown st₂.base kH rfl rfl
  have stw := st₂.trans st₃
  have L₃ := L.step B stw
  have sta := st.trans stw
  have hC0 : s.heap.get? (s.heap.push (lstObj [] 0)).objs.size = none := by
    cases q : s.heap.get? (s.heap.push (lstObj [] 0)).objs.size with
    | none => rfl
    | some o => rw [Heap.get?_push_of_some _ q] at hCf; cases hCf
  have hC00 : s₀.heap.get? (s.heap.push (lstObj [] 0)).objs.size = none := by
    cases q : s₀.heap.get? (s.heap.push (lstObj [] 0)).objs.size with
    | none => rfl
    | some o => exact absurd hC0 (st.live _ (some_ne q))
  have hCs : (σ.set s.heap.objs.size (.list [])) (s.heap.push (lstObj [] 0)).objs.size = none := st₂.base.fresh hCf
  have hCg := st₂.base.off_new hCf
  have hCF : ¬ FX env (s.heap.push (lstObj [] 0)).objs.size := L.fr hC0
  have hCI : (s.heap.push (lstObj [] 0)).objs.size ≠ I := fun z => by
    have := hd.live I (.inl rfl); rw [← z] at this; exact this hC0
  have hDI : s.heap.objs.size ≠ I := fun z => by
    have := hd.live I (.inl rfl); rw [← z] at this; exact this hDf
  generalize hCe : (s.heap.push (lstObj [] 0)).objs.size = C at *
  have hd₃ : Held env Dd I (σ.set s.heap.objs.size (.list [])) { s with heap := h₁, toks := s.toks + ([] : List (Str × Value)).length } := hd.step (noX_FX stw)
  have it₃ := it.agree (hd.agr B L (noX_FX stw))
  have ag := hd.agr B L (noX_FX stw)
  obtain ⟨mF, hnF, hmF⟩ := L₃.at_
  have sc_eq : (relabel scope env) = relabS scope sc := by rw [relabel_eq, O.scope]
  have cells_ex : ∀ y, (relabS scope sc).names.lookup y = some .cell → ∃ k, cl.lookup y = some k := fun y hy => hc3 y (lookup_map_cell (sc := sc) hy hcell)
  have O' : EnvOK (compEnvC scope cl C env) (relabS scope sc) := ⟨sc_eq, hkind, O.globals, O.builtins, cells_ex⟩
  have L' : Loc c (compEnvC scope cl C env) ρ' (σ.set s.heap.objs.size (.list [])) { s with heap := h₁, toks := s.toks + ([] : List (Str × Value)).length } := by
    refine ⟨⟨_, hns₁, fun y u e => ?_⟩, fun y k e => L₃.cell y k (hc2 y k e), fun y z k e1 e2 => L₃.inj y z k (hc2 _ _ e1) (hc2 _ _ e2), fun a z => ?_⟩
    · have hm := lk_mem e
      have hq := List.all_eq_true.mp hcap2 _ hm
      obtain ⟨q1, q2⟩ := Bool.and_eq_true_iff.mp hq
      have q1 := beq_iff_eq.mp q1
      have q2 := beq_iff_eq.mp q2
      obtain ⟨hdb, v, rv, z⟩ := hmF y u (hcap _ hm)
      have hkc : env.kindOf y = some .cell := by unfold Env.kindOf; rw [O.scope]; exact q2
      rcases z with ⟨z1, _⟩ | ⟨_, k, z2, ic⟩
      · rw [hkc] at z1; cases z1
      · obtain ⟨k', e1⟩ := cells_ex y q1
        have := hc2 y k' e1
        rw [z2] at this; cases this
        refine ⟨hdb, v, rv, .inr ⟨.inl ?_, k, e1, ic⟩⟩
        show (relabel scope env).names.lookup y = _
        rw [sc_eq]; exact q1
    · rcases z with rfl | ⟨y, e⟩
      · exact ⟨hCs, hCg⟩
      · exact L₃.off a (.inr ⟨y, hc2 y a e⟩)
  have hd' : Held (compEnvC scope cl C env) Dd I (σ.set s.heap.objs.size (.list [])) { s with heap := h₁, toks := s.toks + ([] : List (Str × Value)).length } := by
    refine ⟨hd₃.live, hd₃.off, fun a z f => ?_⟩
    rcases f with rfl | ⟨y, e⟩
    · exact hd.live _ z hC0
    · exact hd₃.fr a z (.inr ⟨y, hc2 y a e⟩)
  have loop : codeAny (model c.prog c.w) A (.compLoop (.ListComp elt [⟨.Name x px, iter, [], 0⟩] scope pos) 0 (.ref I) (.ref s.heap.objs.size) (compEnvC scope cl C env)) (RR (.ref s.heap.objs.size) C) { s with heap := h₁, toks := s.toks + ([] : List (Str × Value)).length } := by
    have := h s.heap.objs.size (B.fresh hDf)
    unfold WC at this
    refine codeAny_mono (this A (compEnvC scope cl C env) σ₀ s₀ _ I Dd R O' L' sta h0 hC00 hg hd' it₃) fun r s' z => ?_
    cases r with
    | error e => exact z.elim
    | ok f =>
      obtain ⟨σ', st', L'', q⟩ := z
      obtain ⟨m', hm', _⟩ := L''.at_
      have hσC : σ' C = none := (L''.off C (.inl rfl)).1
      exact hRR _ C s' σ' m' f st' (L₀.step B₀ st') q hm' hC00 hσC hCg hCF
  exact codeAny_compStart_list loop (self _ _ ag _ _ loop)
theorem comp_run {A : Around} {env : Env} {s : Shared} {elt iter : Expr} {x : Str} {px pos pos' : Pos} {scope : Scope} {ρ' : Locals} {Qc : Addr → Store → Prop} {use : Option (Value → Sem Unit)} {Q' : Value → Shared → Prop} (R : Room A d) (O : EnvOK env sc) (B : Base c σ s) (L : Loc c env ρ σ s)
    (hok : compOK scope sc x = true) (hcap : ∀ p ∈ ρ', lk p.1 ρ = some p.2) (hcap2 : (ρ'.all fun p => (relabS scope sc).names.lookup p.1 == some .cell && sc.names.lookup p.1 == some .cell) = true)
    (h : WE c d sc iter ρ σ fun u σ₁ => CIt u fun us => ∀ D, σ₁ D = none → WC c d sc scope elt x px iter pos us D ρ' (σ₁.set D (.list [])) (Qc D)) (hs : ∀ x, foldedSetIterable iter env x = pure x)
    (hRR : ∀ D C s' σ₂ m' f, Stp c noX σ s σ₂ s' → Loc c env ρ σ₂ s' → Qc D σ₂ → s'.heap.Ns C m' → s.heap.get? C = none → σ₂ C = none → c.g.get? C = none → ¬ FX env C → compPost (model c.prog c.w) A noE use Q' (.ref D) C (.ok f) s') :
    wpAny (model c.prog c.w) A (comprehension (.ListComp elt [⟨.Name x px, iter, [], 0⟩] scope pos) scope env pos' (newList []) false (eval iter env) use) Q' noE s := by
  have hok' := hok
  unfold compOK at hok'
  obtain ⟨hok', o6⟩ := Bool.and_eq_true_iff.mp hok'
  obtain ⟨hok', o5⟩ := Bool.and_eq_true_iff.mp hok'
  obtain ⟨hok', o4⟩ := Bool.and_eq_true_iff.mp hok'
  obtain ⟨hok', o3⟩ := Bool.and_eq_true_iff.mp hok'
  obtain ⟨o1, o2⟩ := Bool.and_eq_true_iff.mp hok'
  obtain ⟨o1, o1'⟩ := Bool.and_eq_true_iff.mp o1
  have hkind : scope.kind = .function := beq_iff_eq.mp o1
  have hnames : ∀ p ∈ scope.names, p.2 = .local → scope.names.lookup p.1 = some .local := fun p hp e => by
    have := List.all_eq_true.mp o3 p hp
    rw [e] at this; simpa using this
  obtain ⟨cl, c1, c2, c3⟩ := clos_of (env := env) scope fun n hn => by
    have := List.all_eq_true.mp o4 _ hn
    have : sc.names.lookup n = some .cell := by simpa using this
    exact O.cells n this
  refine wpAny_comprehension_free (g := ⟨.Name x px, iter, [], 0⟩) (gs := []) rfl hs c1 hkind hnames (h.seq R O B L fun xv s₁ u σ₁ r st₁ h₁ => ?_)
  have L₁ := L.step B st₁
  refine CIt_iter h₁ st₁.base L₁ r fun ob Dd us hw hob it self hD => ?_
  have hI0 : s.heap.get? s₁.heap.objs.size = none := by
    cases q : s.heap.get? s₁.heap.objs.size with
    | none => rfl
    | some o => exact absurd (get_size s₁.heap) (st₁.live _ (some_ne q))
  have st₂ := st₁.pushS ob
  have hd : Held env Dd s₁.heap.objs.size σ₁ { s₁ with heap := s₁.heap.push ob } := by
    refine ⟨fun a z => ?_, fun a z => ?_, fun a z => ?_⟩
    · rcases z with rfl | z
      · exact some_ne (Heap.get?_push_size _ hob)
      · cases e : s₁.heap.get? a with
        | none => exact absurd e (hD a z).1
        | some o => exact some_ne (Heap.get?_push_of_some _ e)
    · rcases z with rfl | z
      · exact st₁.base.fresh (get_size _)
      · exact (hD a z).2.1
    · rcases z with rfl | z
      · exact L₁.fr (get_size _)
      · exact (hD a z).2.2
  exact comp_go (RR := compPost (model c.prog c.w) A noE use Q') R O B L (L.step B st₂) st₂ hok c2 c3 hcap hcap2 hI0 (st₁.base.off_new (get_size _)) hd it self (fun D hD => hw D hD) hRR
theorem WE_comp {elt iter : Expr} {x : Str} {px pos : Pos} {scope : Scope} (ρ' : Locals) {Q : V → Store → Prop} (hok : compOK scope sc x = true) (hcap : ∀ p ∈ ρ', lk p.1 ρ = some p.2) (hcap2 : (ρ'.all fun p => (relabS scope sc).names.lookup p.1 == some .cell && sc.names.lookup p.1 == some .cell) = true)
    (h : WE c d sc iter ρ σ fun u σ₁ => CIt u fun us => ∀ D, σ₁ D = none → WC c d sc scope elt x px iter pos us D ρ' (σ₁.set D (.list [])) (fun σ₂ => Q (.lst D) σ₂)) (hs : ∀ (env : Env) x, foldedSetIterable iter env x = pure x) :
    WE c d sc (.ListComp elt [⟨.Name x px, iter, [], 0⟩] scope pos) ρ σ Q :=
  .mk fun A env s R O B L => by
    rw [eval_ListComp]
    refine comp_run (Qc := fun D σ₂ => Q (.lst D) σ₂) (use := none) R O B L hok hcap hcap2 h (hs env) fun D C s' σ₂ m' f st L' q hn h1 h2 h3 h4 => ?_
    refine ⟨m', hn, fun h' sb => ?_⟩
    have st' := st.but h1 h2 h3 (fun o e => by obtain ⟨o', _, _, e', hd, _⟩ := hn; rw [e] at e'; cases e'; exact Solid.not_dict hd) (ButI.same (t := s'.toks) sb)
    exact ⟨.lst D, σ₂, Rep_lst, st', q⟩
theorem WS_comp {elt iter : Expr} {x y : Str} {px pos py p : Pos} {scope : Scope} (ρ' : Locals) {Q : Fl → Locals → Store → Prop} (hok : compOK scope sc x = true) (hcap : ∀ p ∈ ρ', lk p.1 ρ = some p.2) (hcap2 : (ρ'.all fun p => (relabS scope sc).names.lookup p.1 == some .cell && sc.names.lookup p.1 == some .cell) = true)
    (hy : okLocal sc y = true) (hsw : (sc.names.lookup y == some .local && py.line == pos.line && !(scope.names.any fun p => p.1 == y && (p.2 == .local || p.2 == .cell))) = true)
    (h : WE c d sc iter ρ σ fun u σ₁ => CIt u fun us => ∀ D, σ₁ D = none → WC c d sc scope elt x px iter pos us D ρ' (σ₁.set D (.list [])) (fun σ₂ => Q .next ((y, .lst D) :: ρ) σ₂)) (hs : ∀ (env : Env) x, foldedSetIterable iter env x = pure x) :
    WS c d sc (.Assign [.Name y py] (.ListComp elt [⟨.Name x px, iter, [], 0⟩] scope pos) p) ρ σ Q :=
  .mk fun A env s R O B L => by
    obtain ⟨hsw, w3⟩ := Bool.and_eq_true_iff.mp hsw
    obtain ⟨w1, w2⟩ := Bool.and_eq_true_iff.mp hsw
    have hyl : env.kindOf y = some .local := by unfold Env.kindOf; rw [O.scope]; exact beq_iff_eq.mp w1
    have hk : env.scope.kind = .function := by rw [O.scope]; exact O.kind
    have sw : swapsWith (.ListComp elt [⟨.Name x px, iter, [], 0⟩] scope pos) (some (.Name y py)) p.line env = pure true := by
      show (pure (env.blockKind == .function && env.kindOf y == some .local && py.line == pos.line && !(scope.names.any fun (n, k) => n == y && (k == .local || k == .cell))) : Sem Bool) = _
      congr 1
      rw [hyl, show env.blockKind = .function from by unfold Env.blockKind; rw [hk]; rfl]
      simp only [beq_self_eq_true, Bool.true_and]
      rw [w2, Bool.true_and]; exact w3
    refine via (exec_Assign_Name_used _ _ _ _ sw) ?_
    refine wpAny_bind (wpAny_standAt (wpAny_bind ?_))
    show wpAny _ A (do let _ ← comprehension (.ListComp elt [⟨.Name x px, iter, [], 0⟩] scope pos) scope env _ (newList []) false (eval iter env) (some (assign (.Name y py) env))) _ _ s
    refine wpAny_bind (wpAny_mono (comp_run (Q' := fun _ s' => PostS c env σ s Q .next s') (Qc := fun D σ₂ => Q .next ((y, .lst D) :: ρ) σ₂) (use := some (assign (.Name y py) env)) R O B L hok hcap hcap2 h (hs env) fun D C s' σ₂ m' f st L' q hn h1 h2 h3 h4 => ?_) (fun _ s' hq => wpAny_pure (wpAny_pure hq)) fun _ _ z => z)
    refine wpAny_assign_Name (store_ok hy O st.base L' (u := .lst D) Rep_lst fun s₂ st₂ L₂ => ?_)
    obtain ⟨oC, esC, epC, hoC, hdC, rC⟩ := hn
    have hC₂ := st₂.keep C oC hoC h2 h4
    refine ⟨m', ⟨oC, esC, epC, hC₂, hdC, rC⟩, fun h' sb => ?_⟩
    have ns : ∀ o, s₂.heap.get? C = some o → ¬ Solid o := fun o e => by rw [hC₂] at e; cases e; exact Solid.not_dict hdC
    have st' := ((noX_FX st).trans st₂).but h1 h2 h3 ns (ButI.same (t := s₂.toks) sb)
    exact ⟨.next, _, σ₂, rfl, st', L₂.but h4 ns (ButI.same (t := s₂.toks) sb), q⟩
end
set_option tactic.hygienic false
structure Fn (c : Cx) (f : Addr) (params : Arguments) (body : List Stmt) (scope : Scope) (D : Value → Prop := fun v => v = Value.none) : Prop where
  ex : ∃ fo name qual dV kV doc pm an cdv ct, c.g.get? f = some fo ∧ fo.data = .func (fnX name qual params body scope [] dV kV doc pm an cdv ct) ∧ c.g.CodeRec cdv qual ∧ D dV
  keep : keepIn c.K (.ref f) = true
noncomputable def RetP (Q : V → Store → Prop) : Fl → Locals → Store → Prop
  | .ret v, _, σ => Q v σ
  | _, _, σ => Q .none σ
theorem cellsFrom_some : ∀ (names : List (Str × NameKind)) (n : Nat) (acc : List (Str × Addr)) (x : Str), (names.lookup x = some .cell ∨ (acc.lookup x).isSome = true) → ((cellsFrom n names acc).lookup x).isSome = true
  | [], n, acc, x, h => h.elim (fun z => by simp at z) id
  | (y, k) :: r, n, acc, x, h => by
    unfold cellsFrom
    by_cases q : x = y
    · subst q
      rw [List.lookup_cons, beq_self_eq_true] at h
      by_cases z : (k == NameKind.cell) = true
      · rw [if_pos z]
        exact cellsFrom_some r _ _ _ (.inr (by rw [List.lookup_cons, beq_self_eq_true]; rfl))
      · rw [if_neg z]
        refine cellsFrom_some r _ _ _ (.inr ?_)
        rcases h with h | h
        · exact absurd (by cases h; rfl) z
        · exact h
    · have e : (x == y) = false := beq_eq_false_iff_ne.mpr q
      rw [List.lookup_cons, e] at h
      split
      · exact cellsFrom_some r _ _ _ (h.imp id fun z => by rw [List.lookup_cons, e]; exact z)
      · exact cellsFrom_some r _ _ _ h
theorem bindL_other {ko : Str → Option NameKind} {x : Str} : ∀ (b : List (Str × Value)) (m : Str → Option Value), (∀ p ∈ b, p.1 ≠ x) → bindL ko b m x = m x
  | [], m, _ => rfl
  | (n, v) :: r, m, h => by
    unfold bindL
    rw [bindL_other r _ fun p hp => h p (.tail _ hp)]
    split
    · exact if_neg fun z => h _ (.head _) z.symm
    · rfl
theorem bindC_other {ko : Str → Option NameKind} {x : Str} : ∀ (b : List (Str × Value)) (m : Str → Option Value), (∀ p ∈ b, p.1 ≠ x) → bindC ko b m x = m x
  | [], m, _ => rfl
  | (n, v) :: r, m, h => by
    unfold bindC
    rw [bindC_other r _ fun p hp => h p (.tail _ hp)]
    split
    · rfl
    · exact if_neg fun z => h _ (.head _) z.symm
theorem bindL_at {ko : Str → Option NameKind} {x : Str} {v : Value} (hk : ko x = some .local) : ∀ (b : List (Str × Value)) (m : Str → Option Value), (b.map (·.1)).Nodup → (x, v) ∈ b → bindL ko b m x = some v
  | [], m, _, h => nomatch h
  | (n, w) :: r, m, hn, h => by
    rw [List.map_cons, List.nodup_cons] at hn
    unfold bindL
    rcases List.mem_cons.mp h with e | e
    · cases e
      rw [if_pos hk, bindL_other r _ fun p hp z => hn.1 (List.mem_map.mpr ⟨p, hp, z⟩)]
      exact if_pos rfl
    · exact bindL_at hk r _ hn.2 e
theorem bindC_at {ko : Str → Option NameKind} {x : Str} {v : Value} (hk : ¬ ko x = some .local) : ∀ (b : List (Str × Value)) (m : Str → Option Value), (b.map (·.1)).Nodup → (x, v) ∈ b → bindC ko b m x = some v
  | [], m, _, h => nomatch h
  | (n, w) :: r, m, hn, h => by
    rw [List.map_cons, List.nodup_cons] at hn
    unfold bindC
    rcases List.mem_cons.mp h with e | e
    · cases e
      rw [if_neg hk, bindC_other r _ fun p hp z => hn.1 (List.mem_map.mpr ⟨p, hp, z⟩)]
      exact if_pos rfl
    · exact bindC_at hk r _ hn.2 e
theorem RepL.zip {C : Cls → Addr} {h : Heap} : ∀ {names : List Str} {us : List V} {vs : List Value} {x : Str} {u : V}, RepL C h us vs → (x, u) ∈ names.zip us → ∃ v, (x, v) ∈ names.zip vs ∧ Rep C h u v
  | [], _, _, _, _, _, m => by simp at m
  | _ :: _, [], _, _, _, _, m => by simp at m
  | n :: ns, w :: us, vs, x, u, r, m => by
    obtain ⟨v, vs', rfl, ra, rb⟩ := r
    rw [List.zip_cons_cons] at m ⊢
    rcases List.mem_cons.mp m with e | e
    · cases e; exact ⟨v, .head _, ra⟩
    · obtain ⟨v', hm, hr⟩ := rb.zip e
      exact ⟨v', .tail _ hm, hr⟩
theorem Room.deeper {A : Around} {env : Env} {d : Nat} (R : Room A (d + 1)) : Room (A.deeper env) d :=
  ⟨R.handled, by have := R.depth; show A.depth + 1 + 2 * d ≤ 980; omega, by have := R.units; show A.units + 3 + 12 * d ≤ 9800; omega⟩
noncomputable def fnOK (scope : Scope) (names : List Str) : Bool :=
  (scope.kind == .function && !scope.isCoroutine && !scope.isGenerator) && decide names.Nodup && names.all fun x => okLocal scope x
section
variable {c : Cx} {d : Nat} {σ : Store}
@[irreducible] noncomputable def CC (c : Cx) (d : Nat) (f : Value) (args : List V) (σ : Store) (Q : V → Store → Prop) : Prop :=
  ∀ A s vs, Room A d → Base c σ s → RepL c.C s.heap args vs → codeAny (model c.prog c.w) A (.call f ⟨vs, []⟩) (fun r s' => match r with | .ok (.ret v) => Post c σ s Q v s' | .ok _ => False | .error _ => False) s
theorem CC.cv {f : Value} {args : List V} {Q : V → Store → Prop} (h : CC c d f args σ Q) : CV c d f args σ Q := by
  unfold CC at h
  unfold CV
  exact fun A s vs R B r => wpAny_call (codeAny_mono (h A s vs R B r) fun r s' z => by rcases r with e | (v | _ | _ | _) <;> first | exact z | exact z.elim)
theorem CC_fnB (OK : CxOK c) {f : Addr} {params : Arguments} {body : List Stmt} {scope : Scope} {D : Value → Prop} (F : Fn c f params body scope D) (names : List Str) {us us' : List V} {Q : V → Store → Prop} (hok : fnOK scope names = true) (hl : names.length = us'.length)
    (hb : ∀ name qual dV kV doc pm an cdv ct s vs, D dV → Base c σ s → RepL c.C s.heap us vs → ∃ vs', RepL c.C s.heap us' vs' ∧ BindsTo s (fnX name qual params body scope [] dV kV doc pm an cdv ct) ⟨vs, []⟩ (names.zip vs'))
    (h : WB c d scope body (names.zip us') σ (RetP Q)) : CC c (d + 1) (.ref f) us σ Q := by
  unfold fnOK at hok
  obtain ⟨hok, o3⟩ := Bool.and_eq_true_iff.mp hok
  obtain ⟨hok, o2⟩ := Bool.and_eq_true_iff.mp hok
  obtain ⟨hok, og⟩ := Bool.and_eq_true_iff.mp hok
  obtain ⟨ok, oc⟩ := Bool.and_eq_true_iff.mp hok
  have ok := beq_iff_eq.mp ok
  have og : scope.isGenerator = false := by simpa using og
  have oc : scope.isCoroutine = false := by simpa using oc
  have o2 : names.Nodup := of_decide_eq_true o2
  obtain ⟨fo, name, qual, dV, kV, doc, pm, an, cdv, ct, hf, hfd, hcr, hD⟩ := F.ex
  unfold CC
  intro A s vs₀ R B r₀
  obtain ⟨vs, r, hbind⟩ := hb name qual dV kV doc pm an cdv ct s vs₀ hD B r₀
  have hlen := r.length
  have hlv : names.length = vs.length := by rw [hlen, hl]
  have hcr' : s.heap.CodeRec cdv qual := by
    obtain ⟨a, o, ws, t, e, ho, hd, hq⟩ := hcr
    exact ⟨a, o, ws, t, e, B.ground _ _ ho, hd, hq⟩
  have hcl : ∀ n x, okLocal scope x = true → scope.names.lookup x = some .local ∨ (scope.names.lookup x = some .cell ∧ ((cellsFrom n scope.names []).lookup x).isSome = true) := fun n x hx => by
    obtain ⟨hx, _⟩ := Bool.and_eq_true_iff.mp hx
    rcases Bool.or_eq_true_iff.mp hx with hx | hx
    · exact .inl (beq_iff_eq.mp hx)
    · exact .inr ⟨beq_iff_eq.mp hx, cellsFrom_some _ _ _ _ (.inl (beq_iff_eq.mp hx))⟩
  have hbn : ∀ p ∈ names.zip vs, okLocal scope p.1 = true := fun p hp => List.all_eq_true.mp o3 _ (List.of_mem_zip hp).1
  refine codeAny_call_function (fd := fnX name qual params body scope [] dV kV doc pm an cdv ct) (body := body) (by have := R.depth; show A.depth < 1000; omega) (B.ground _ _ hf) hfd oc og rfl hcr' (hbind _ _ _ _ (wpAny_newFunctionEnv_cells ok (fun p hp => hcl _ p.1 (hbn p hp)) fun env henv s₁ x => ?_))
  refine ⟨(OK.lim.keeps B.ground).keeps x.toInCall.keep, codeAny_func ?_⟩
  have esc : env.scope = scope := by rw [henv]; rfl
  have eL : env.locals = s.heap.objs.size := by rw [henv]; rfl
  have ecl : env.cells = cellsFrom (s.heap.objs.size + 1) scope.names [] := by rw [henv]; rfl
  have O : EnvOK env scope := ⟨esc, ok, by rw [henv]; rfl, by rw [henv]; rfl, fun y hy => Option.isSome_iff_exists.mp (by rw [ecl]; exact cellsFrom_some _ _ _ _ (.inl hy))⟩
  obtain ⟨h₁, tk, hs₁⟩ := x.toInCall.same
  have st : Stp c noX σ s σ s₁ := Stp.grown B x.toInCall.keep (by rw [hs₁]) (by rw [hs₁])
  have sz : ∀ a, s.heap.objs.size ≤ a → s.heap.get? a = none := fun a ha => by
    cases e : s.heap.get? a with
    | none => rfl
    | some o => exact absurd (Heap.lt_size e) (Nat.not_lt.mpr ha)
  have L : Loc c env (names.zip us') σ s₁ := by
    refine ⟨⟨_, x.toInCall.ns, fun y u e => ?_⟩, fun y k e => ⟨_, x.cell y k e⟩, fun y z k e1 e2 => name_of_addr x.apart (mem_of_lookup e1) (mem_of_lookup e2), fun a z => ?_⟩
    · obtain ⟨v, hm, rv⟩ := r.zip (lk_mem e)
      have hoy := hbn _ hm
      have hdb : (y == ("__debug__" : Str)) = false := by
        have := (Bool.and_eq_true_iff.mp hoy).2
        simpa using this
      have nd : ((names.zip vs).map (·.1)).Nodup := by
        rw [List.map_fst_zip (by omega)]; exact o2
      refine ⟨hdb, v, rv.step B st, ?_⟩
      rcases hcl (s.heap.objs.size + 1) y hoy with hl' | ⟨hl', hs'⟩
      · have hk : env.kindOf y = some .local := by unfold Env.kindOf; rw [esc]; exact hl'
        exact .inl ⟨hk, bindL_at hk _ _ nd hm⟩
      · have hk : env.kindOf y = some .cell := by unfold Env.kindOf; rw [esc]; exact hl'
        rw [← ecl] at hs'
        obtain ⟨k, e'⟩ := Option.isSome_iff_exists.mp hs'
        have := x.cell y k e'
        rw [bindC_at (by rw [hk]; decide) _ _ nd hm] at this
        exact .inr ⟨.inl hk, k, e', this⟩
    · have ha : s.heap.get? a = none := by
        rcases z with rfl | ⟨y, e⟩
        · exact sz _ (Nat.le_of_eq eL.symm)
        · exact sz _ (Nat.le_of_lt (eL ▸ x.above y a (mem_of_lookup e)))
      exact ⟨B.fresh ha, B.off_new ha⟩
  refine anyE (h.seq (R.deeper (env := env)) O st.base L fun fl s₂ f' ρ₂ σ₂ r₂ st₂ L₂ q => ?_)
  have st₂' := st.hide st₂ fun a z => by
    rcases z with rfl | ⟨y, e⟩
    · exact sz _ (Nat.le_of_eq eL.symm)
    · exact sz _ (Nat.le_of_lt (eL ▸ x.above y a (mem_of_lookup e)))
  cases f' with
  | next => obtain rfl := (r₂ : fl = .next); exact ⟨.none, σ₂, Rep_none, st₂', q⟩
  | brk => obtain rfl := (r₂ : fl = .brk); exact ⟨.none, σ₂, Rep_none, st₂', q⟩
  | cont => obtain rfl := (r₂ : fl = .cont); exact ⟨.none, σ₂, Rep_none, st₂', q⟩
  | ret v => obtain ⟨w, rfl, r₂⟩ := r₂; exact ⟨v, σ₂, r₂, st₂', q⟩
theorem CC_fn (OK : CxOK c) {f : Addr} {params : Arguments} {body : List Stmt} {scope : Scope} (F : Fn c f params body scope) (names : List Str) {us : List V} {Q : V → Store → Prop} (hok : fnOK scope names = true) (hl : names.length = us.length)
    (hb : ∀ name qual kV doc pm an cdv ct vs, vs.length = us.length → bindArgs (fnX name qual params body scope [] .none kV doc pm an cdv ct) ⟨vs, []⟩ = pure (names.zip vs))
    (h : WB c d scope body (names.zip us) σ (RetP Q)) : CC c (d + 1) (.ref f) us σ Q :=
  CC_fnB OK F names hok hl (fun _ _ _ _ _ _ _ _ _ s vs e _ r => ⟨vs, r, BindsTo.of_eq (by rw [e]; exact hb _ _ _ _ _ _ _ _ _ r.length)⟩) h
theorem CV_fn (OK : CxOK c) {f : Addr} {params : Arguments} {body : List Stmt} {scope : Scope} (F : Fn c f params body scope) (names : List Str) {us : List V} {Q : V → Store → Prop} (hok : fnOK scope names = true) (hl : names.length = us.length)
    (hb : ∀ name qual kV doc pm an cdv ct vs, vs.length = us.length → bindArgs (fnX name qual params body scope [] .none kV doc pm an cdv ct) ⟨vs, []⟩ = pure (names.zip vs))
    (h : WB c d scope body (names.zip us) σ (RetP Q)) : CV c (d + 1) (.ref f) us σ Q := (CC_fn OK F names hok hl hb h).cv
theorem Fn.kp {f : Addr} {params : Arguments} {body : List Stmt} {scope : Scope} {D : Value → Prop} (F : Fn c f params body scope D) : Kp c (.ref f) := .inr (.inr F.keep)
end
set_option tactic.hygienic true
set_option tactic.hygienic false
section
variable {c : Cx} {d : Nat} {σ : Store} {Q : V → Store → Prop}
theorem CV1 {f : Value} {u : V} (h : ∀ A s v, Room A d → Base c σ s → Rep c.C s.heap u v → wpAny (model c.prog c.w) A (call f [v]) (Post c σ s Q) noE s) : CV c d f [u] σ Q := by
  unfold CV
  intro A s vs R B r
  obtain ⟨v, vs', rfl, ra, r⟩ := r
  subst r
  exact h A s v R B ra
theorem CV2 {f : Value} {u u' : V} (h : ∀ A s v v', Room A d → Base c σ s → Rep c.C s.heap u v → Rep c.C s.heap u' v' → wpAny (model c.prog c.w) A (call f [v, v']) (Post c σ s Q) noE s) : CV c d f [u, u'] σ Q := by
  unfold CV
  intro A s vs R B r
  obtain ⟨v, vs', rfl, ra, r⟩ := r
  obtain ⟨v', vs'', rfl, rb, r⟩ := r
  subst r
  exact h A s v v' R B ra rb
theorem CV3 {f : Value} {u u' u'' : V} (h : ∀ A s v v' v'', Room A d → Base c σ s → Rep c.C s.heap u v → Rep c.C s.heap u' v' → Rep c.C s.heap u'' v'' → wpAny (model c.prog c.w) A (call f [v, v', v'']) (Post c σ s Q) noE s) : CV c d f [u, u', u''] σ Q := by
  unfold CV
  intro A s vs R B r
  obtain ⟨v, vs', rfl, ra, r⟩ := r
  obtain ⟨v', vs'', rfl, rb, r⟩ := r
  obtain ⟨v'', vs''', rfl, rc, r⟩ := r
  subst r
  exact h A s v v' v'' R B ra rb rc
theorem big : (16777216 : Int) < 2 ^ 63 := by decide
theorem CV_len_str {l : List Nat} (hz : l.length ≤ sizeLine) (h : Q (.int l.length) σ) : CV c d (.builtin "len") [.str l] σ Q := CV1 fun A s v R B r => by
  obtain ⟨t, rfl⟩ := r
  rw [sizeLine_eq] at hz
  refine P.len_str (by rw [S_length]; omega) ?_
  rw [S_length]
  exact Post.tok B Rep_int h
theorem CV_len_tup {us : List V} (hz : us.length ≤ sizeLine) (h : Q (.int us.length) σ) : CV c d (.builtin "len") [.tup us] σ Q := CV1 fun A s v R B r => by
  obtain ⟨a, items, n, rfl, ho, l⟩ := r
  rw [sizeLine_eq] at hz
  have e := l.length
  refine len_tuple (items := items.toArray) ⟨_, ho, rfl, _, rfl⟩ (by rw [List.size_toArray, e]; omega) ?_
  rw [List.size_toArray, e]
  exact Post.tok B Rep_int h
theorem CV_len_lst {a : Addr} {us : List V} (hs : σ a = some (.list us)) (hz : us.length ≤ sizeLine) (h : Q (.int us.length) σ) : CV c d (.builtin "len") [.lst a] σ Q := CV1 fun A s v R B r => by
  obtain rfl := r
  obtain ⟨items, n, ho, l⟩ := B.objs _ _ hs
  rw [sizeLine_eq] at hz
  have e := l.length
  refine len_list (items := items.toArray) ⟨_, ho, rfl, _, rfl⟩ (by rw [List.size_toArray, e]; omega) ?_
  rw [List.size_toArray, e]
  exact Post.tok B Rep_int h
theorem CV_ord {x : Nat} (h : Q (.int x) σ) : CV c d (.builtin "ord") [.str [x]] σ Q := CV1 fun A s v R B r => by
  obtain ⟨t, rfl⟩ := r
  exact P.ord_of_char (Post.tok B Rep_int h)
theorem CV_chr {i : Int} (hi : 0 ≤ i ∧ i ≤ 1114111) (h : Q (.str [i.toNat]) σ) : CV c d (.builtin "chr") [.int i] σ Q := CV1 fun A s v R B r => by
  obtain ⟨t, rfl⟩ := r
  exact chr_of_range hi.1 hi.2 (Post.tok B (Rep_str (l := [i.toNat])) h)
theorem CV_str {i : Int} (hi : i.natAbs.log2 < 1920) (h : Q (.str (intText i)) σ) : CV c d (.type "str") [.int i] σ Q := CV1 fun A s v R B r => by
  obtain ⟨t, rfl⟩ := r
  refine P.str_of_int hi (Post.tok B (u := .str (intText i)) ?_ h)
  unfold intText
  rw [← S_toList (Str.ofString (toString i))]
  exact Rep_str
theorem CV_int {i : Int} (h : Q (.int i) σ) : CV c d (.type "int") [.int i] σ Q := CV1 fun A s v R B r => by
  obtain ⟨t, rfl⟩ := r
  exact call_int_int (Post.here B Rep_int h)
theorem CV_abs {i : Int} (h : Q (.int (if i < 0 then -i else i)) σ) : CV c d (.builtin "abs") [.int i] σ Q := CV1 fun A s v R B r => by
  obtain ⟨t, rfl⟩ := r
  exact call_abs_int fun u tk => Post.tok B Rep_int h
theorem CV_max {i j : Int} (h : Q (.int (max i j)) σ) : CV c d (.builtin "max") [.int i, .int j] σ Q := CV2 fun A s v v' R B r r' => by
  obtain ⟨t, rfl⟩ := r
  obtain ⟨t', rfl⟩ := r'
  refine max_two_ints R.handled fun h' tk k => ?_
  have st : Stp c noX σ s σ { s with heap := h', toks := tk } := Stp.grown B k rfl rfl
  refine ⟨.int (max i j), σ, ?_, st, h⟩
  split
  · rename_i q; rw [show max i j = j by omega]; exact Rep_int
  · rename_i q; rw [show max i j = i by omega]; exact Rep_int
theorem CV_range1 {n : Int} (h : Q (.rng 0 n 1) σ) : CV c d (.type "range") [.int n] σ Q := CV1 fun A s v R B r => by
  obtain ⟨t, rfl⟩ := r
  exact call_range_1 ⟨.rng 0 n 1, σ, ⟨_, _, _, _, rfl, Heap.get?_push_size _ rfl⟩, (Stp.push B _).toks _, h⟩
theorem CV_range2 {a b : Int} (h : Q (.rng a b 1) σ) : CV c d (.type "range") [.int a, .int b] σ Q := CV2 fun A s v v' R B r r' => by
  obtain ⟨t, rfl⟩ := r
  obtain ⟨t', rfl⟩ := r'
  exact call_range_2 ⟨.rng a b 1, σ, ⟨_, _, _, _, rfl, Heap.get?_push_size _ rfl⟩, (Stp.push B _).toks _, h⟩
theorem CV_range3 {a b st : Int} (h0 : st ≠ 0) (hp : Builtin.divisionGoesByPylong (b - a) st = false) (h : Q (.rng a b st) σ) : CV c d (.type "range") [.int a, .int b, .int st] σ Q := CV3 fun A s v v' v'' R B r r' r'' => by
  obtain ⟨t, rfl⟩ := r
  obtain ⟨t', rfl⟩ := r'
  obtain ⟨t'', rfl⟩ := r''
  exact call_range_3 h0 ⟨.rng a b st, σ, ⟨_, _, _, _, rfl, Heap.get?_push_size _ rfl⟩, (Stp.push B _).toks _, h⟩ (.inl hp)
theorem CV_tuple {a : Addr} {us : List V} (hs : σ a = some (.list us)) (hz : us.length ≤ sizeLine) (h : Q (.tup us) σ) : CV c d (.type "tuple") [.lst a] σ Q := CV1 fun A s v R B r => by
  obtain rfl := r
  obtain ⟨items, n, ho, l⟩ := B.objs _ _ hs
  have e := l.length
  refine call_tuple_list (items := items.toArray) ⟨_, ho, rfl, _, rfl⟩ (fun h' k => ?_) (by rw [List.size_toArray, e]; exact hz)
  have st : Stp c noX σ s σ { s with heap := h' } := Stp.grown B k rfl rfl
  have := Post.tuple (n := 0) st.base (l.step B st) h
  exact this.after st
noncomputable def isT (x y z : Bool) : String → Option Bool
  | "tuple" => some x
  | "str" => some y
  | "int" => some z
  | _ => Option.none
theorem isT_inv {x y z b : Bool} {T : String} (e : isT x y z T = some b) : (T = "tuple" ∧ x = b) ∨ (T = "str" ∧ y = b) ∨ (T = "int" ∧ z = b) := by
  unfold isT at e
  split at e <;> first | (cases e; done) | skip
  · exact .inl ⟨rfl, Option.some.inj e⟩
  · exact .inr (.inl ⟨rfl, Option.some.inj e⟩)
  · exact .inr (.inr ⟨rfl, Option.some.inj e⟩)
noncomputable def isV : V → String → Option Bool
  | .tup _, T => isT true false false T
  | .str _, T => isT false true false T
  | .int _, T => isT false false true T
  | .bool _, T => isT false false true T
  | .none, T => isT false false false T
  | _, _ => Option.none
theorem CV_isi {u : V} {T : String} {b : Bool} (e : isV u T = some b) (h : Q (.bool b) σ) : CV c d (.builtin "isinstance") [u, .val (.type T)] σ Q := CV2 fun A s v v' R B r r' => by
  obtain ⟨rfl, _⟩ := r'
  have hq : ∀ n, Post c σ s Q (.bool b) { s with toks := n } := fun n => Post.tok B Rep_bool h
  clear h
  have hq' := hq s.toks
  cases u <;> first | (cases (show Option.none = some b from e); done) | skip
  · rcases isT_inv e with ⟨rfl, rfl⟩ | ⟨rfl, rfl⟩ | ⟨rfl, rfl⟩ <;> subst r
    · exact IsiPair.NoneType_tuple (hq _)
    · exact IsiPair.NoneType_str (hq _)
    · exact IsiPair.NoneType_int (hq _)
  · rcases isT_inv e with ⟨rfl, rfl⟩ | ⟨rfl, rfl⟩ | ⟨rfl, rfl⟩ <;> subst r
    · exact IsiPair.bool_tuple (hq _)
    · exact IsiPair.bool_str (hq _)
    · exact IsiPair.bool_int hq'
  · obtain ⟨t, rfl⟩ := r
    rcases isT_inv e with ⟨rfl, rfl⟩ | ⟨rfl, rfl⟩ | ⟨rfl, rfl⟩
    · exact IsiPair.int_tuple (hq _)
    · exact IsiPair.int_str (hq _)
    · exact IsiPair.int_int hq'
  · obtain ⟨t, rfl⟩ := r
    rcases isT_inv e with ⟨rfl, rfl⟩ | ⟨rfl, rfl⟩ | ⟨rfl, rfl⟩
    · exact IsiPair.str_tuple (hq _)
    · exact IsiPair.str_str hq'
    · exact IsiPair.str_int (hq _)
  · obtain ⟨a, items, n, rfl, ho, _⟩ := r
    rcases isT_inv e with ⟨rfl, rfl⟩ | ⟨rfl, rfl⟩ | ⟨rfl, rfl⟩
    · exact IsiPair.tuple_tuple ho rfl hq'
    · exact IsiPair.tuple_str ho rfl (hq _)
    · exact IsiPair.tuple_int ho rfl (hq _)
end
set_option tactic.hygienic true
set_option tactic.hygienic false
section
variable {c : Cx} {d : Nat} {σ : Store} {Q : V → Store → Prop}
noncomputable def joinL (sep : List Nat) : List (List Nat) → List Nat
  | [] => []
  | [x] => x
  | x :: y :: r => x ++ sep ++ joinL sep (y :: r)
theorem join_S (sep : List Nat) : ∀ ls : List (List Nat), Txt.join (S sep) (ls.map S) = S (joinL sep ls) := by
  have key : ∀ ls : List (List Nat), Str.join (S sep) (ls.map S) = S (joinL sep ls) := by
    intro ls
    induction ls with
    | nil => rfl
    | cons x r ih =>
      cases r with
      | nil => rfl
      | cons y r =>
        have : Str.join (S sep) (S x :: (S y :: r.map S)) = S x ++ S sep ++ Str.join (S sep) (S y :: r.map S) := rfl
        rw [List.map_cons] at ih
        rw [List.map_cons, List.map_cons, this, ih, S_append, S_append]
        rfl
  intro ls
  exact (StrLaws.glued_eq_join _ _).trans (key ls)
theorem CV_join {sep : List Nat} {a : Addr} {us : List V} {ls : List (List Nat)} (hs : σ a = some (.list us)) (hl : strsOf us = some ls) (hz : (ls.map (·.length)).sum + ls.length * sep.length ≤ 16777216) (h : Q (.str (joinL sep ls)) σ) : CV c d (.builtin "str.join") [.str sep, .lst a] σ Q := CV2 fun A s v v' R B r r' => by
  obtain ⟨t, rfl⟩ := r
  obtain rfl := r'
  obtain ⟨items, n, ho, l⟩ := B.objs _ _ hs
  refine join_list (items := items.toArray) ⟨_, ho, rfl, _, rfl⟩ (strsOf_are hl l) ?_ fun t' k => ?_
  · rw [List.map_map, List.length_map, S_length]
    have : ((fun x : Str => x.length) ∘ S) = fun x => x.length := by funext x; simp [S_length]
    rw [this]; exact hz
  · rw [join_S]
    exact Post.tok B Rep_str h
theorem GM_str {l : List Nat} {name : Str} {id : String} (slot : Slot "str" name id) (ty : typeOf (.builtin id) = pure (.type "method_descriptor")) : GM c σ (.str l) name (.builtin id) := by
  unfold GM
  refine ⟨.inl ⟨_, rfl⟩, fun A s v pl Q' B r h => ?_⟩
  obtain ⟨t, rfl⟩ := r
  exact getMethod_builtin (typeIs_str _ _ _) F.plainAttrs_str slot ty (fun a e => nomatch e) h
theorem GM_lst {a : Addr} {us : List V} {name : Str} {id : String} (hs : σ a = some (.list us)) (slot : Slot "list" name id) (ty : typeOf (.builtin id) = pure (.type "method_descriptor")) : GM c σ (.lst a) name (.builtin id) := by
  unfold GM
  refine ⟨.inl ⟨_, rfl⟩, fun A s v pl Q' B r h => ?_⟩
  obtain rfl := r
  obtain ⟨items, n, ho, l⟩ := B.objs _ _ hs
  exact getMethod_builtin ⟨_, ho, rfl⟩ F.plainAttrs_list slot ty (fun b e => by cases e; exact ⟨_, ho, rfl⟩) h
theorem GM_bits {i : Int} : GM c σ (.int i) (Str.ofString "bit_length") (.builtin "int.bit_length") := by
  unfold GM
  refine ⟨.inl ⟨_, rfl⟩, fun A s v pl Q' B r h => ?_⟩
  obtain ⟨t, rfl⟩ := r
  exact getMethod_int_bit_length h
noncomputable def methOK (K : Frag) (C : Addr) (name : Str) (f : Addr) : Bool :=
  (match findIn K (.ref C) "__getattribute__" with | some (some (.builtin i)) => i == "object.__getattribute__" | _ => false) && (match findIn K (.ref C) "__getattr__" with | some none => true | _ => false) &&
  (match findIn K (.ref C) name with | some (some (.ref g)) => g == f | _ => false) && (match typeIn K (.ref f) with | some (.type t) => t == "function" | _ => false)
theorem GM_inst (OK : CxOK c) {k : Cls} {dx : Addr} {m : List (Str × V)} {name : Str} {f : Addr} (hk : keepIn c.K (.ref f) = true) (hm : methOK c.K (c.C k) name f = true) (hs : σ dx = some (.ns m)) (hl : lkA name m = none) : GM c σ (.inst k dx) name (.ref f) := by
  unfold GM
  refine ⟨.inr (.inr hk), fun A s v pl Q' B r h => ?_⟩
  obtain ⟨a, rfl, ha⟩ := r
  obtain ⟨es, n, rn, D, I⟩ := inst_at B ha hs
  unfold methOK at hm
  obtain ⟨hm, m4⟩ := Bool.and_eq_true_iff.mp hm
  obtain ⟨hm, m3⟩ := Bool.and_eq_true_iff.mp hm
  obtain ⟨m1, m2⟩ := Bool.and_eq_true_iff.mp hm
  split at m1
  · rename_i i h1
    obtain rfl := beq_iff_eq.mp m1
    split at m2
    · rename_i h2
      split at m3
      · rename_i g h3
        obtain rfl := beq_iff_eq.mp m3
        split at m4
        · rename_i t h4
          obtain rfl := beq_iff_eq.mp m4
          exact method_fn (B.K OK) I h1 h2 h3 h4 (by show (lookIn name (dictOf es n)).map (·.isSome) = _; rw [lookIn_dict, rn.none hl]; rfl) h
        · cases m4
      · cases m3
    · cases m2
  · cases m1
theorem CV_bits {i : Int} (h : Q (.int (Builtin.Int.intBits i)) σ) : CV c d (.builtin "int.bit_length") [.int i] σ Q := CV1 fun A s v R B r => by
  obtain ⟨t, rfl⟩ := r
  exact call_int_bit_length (Post.tok B Rep_int h)
theorem CV_lower {l : List Nat} (hl : ∀ x ∈ l, 33 ≤ x ∧ x < 127 ∧ (x < 65 ∨ 90 < x)) (hz : l.length ≤ 5592405) (h : Q (.str l) σ) : CV c d (.builtin "str.lower") [.str l] σ Q := CV1 fun A s v R B r => by
  obtain ⟨t, rfl⟩ := r
  have e : Txt.lower (S l) = S l := KXs.lower_still (by simpa [KXs.Still, S] using hl)
  refine SC.lower ?_ ?_
  · rw [e, S_length]
    unfold Builtin.Str.tooLong
    rw [sizeLine_eq]
    exact decide_eq_false (by omega)
  · rw [e]; exact Post.tok B Rep_str h
theorem CV_find {l m : List Nat} (h : Q (.int (Txt.find (S l) (S m))) σ) : CV c d (.builtin "str.find") [.str l, .str m] σ Q := CV2 fun A s v v' R B r r' => by
  obtain ⟨t, rfl⟩ := r
  obtain ⟨t', rfl⟩ := r'
  exact SC.find (Post.tok B Rep_int h)
theorem CV_lstrip {l m r₀ : List Nat} (hz : l.length ≤ sizeLine) (e : Txt.lstripChars (S l) (S m) = S r₀) (h : Q (.str r₀) σ) : CV c d (.builtin "str.lstrip") [.str l, .str m] σ Q := CV2 fun A s v v' R B r r' => by
  obtain ⟨t, rfl⟩ := r
  obtain ⟨t', rfl⟩ := r'
  refine SC.lstripChars (fun t' k => ?_) (by rw [S_length]; exact hz)
  rw [e]; exact Post.tok B Rep_str h
theorem occ_none {l : List Nat} {x : Nat} (hx : x ∉ l) (k : Nat) : Builtin.Str.occurrences (S l) (S [x]) 0 (S l).length k = [] := by
  have h1 := StrLaws.found_one (S l) x
  have h2 : (Builtin.Str.occurrences (S l) ⟨#[x]⟩ 0 (S l).length 1).isEmpty = true := by
    have : decide (x ∈ (S l).cps.toList) = false := decide_eq_false (by simpa [S] using hx)
    rw [this] at h1; simpa using h1
  cases e : Builtin.Str.occurrences (S l) (S [x]) 0 (S l).length k with
  | nil => rfl
  | cons i r =>
    have h3 := StrLaws.occ_spec (S l) (S [x]) 0 (S l).length k i (by rw [e]; exact .head _)
    have h4 := (StrLaws.found_iff (S l) (S [x])).mpr ⟨i, h3⟩
    rw [show (S [x]) = ⟨#[x]⟩ from rfl] at h4
    rw [h2] at h4; cases h4
theorem CV_replace {l m : List Nat} {x : Nat} (hx : x ∉ l) (h : Q (.str l) σ) : CV c d (.builtin "str.replace") [.str l, .str [x], .str m] σ Q := CV3 fun A s v v' v'' R B r r' r'' => by
  obtain ⟨t, rfl⟩ := r
  obtain ⟨t', rfl⟩ := r'
  obtain ⟨t'', rfl⟩ := r''
  have e := occ_none hx ((S l).length + 1)
  have e' : ((Builtin.Str.occurrences (S l) (S [x]) 0 (S l).length ((S l).length + 1)).isEmpty || ((S [x]).length == 0 && (S m).length == 0)) = true := by rw [e]; rfl
  refine call_gives F.slot_str_replace (typeIs_str _ _ _) F.entry_str_replace (F.args_str_replace_3 _ _ _) (gives_str_replace (S l) (S [x]) (S m) t t' t'' fun z => by rw [e'] at z; cases z) ?_
  rw [if_pos e']
  exact Post.here B (Rep_str (l := l)) h
theorem strs_rep {C : Cls → Addr} {h : Heap} : ∀ (l : List (Str × Tok)) (ls : List (List Nat)), l.map (·.1) = ls.map S → RepL C h (ls.map .str) (strValues l)
  | [], [], _ => rfl
  | [], _ :: _, e => by simp at e
  | _ :: _, [], e => by simp at e
  | (x, t) :: l, y :: ls, e => by
    simp only [List.map_cons, List.cons.injEq] at e
    obtain ⟨rfl, e⟩ := e
    exact RepL_cons (u := .str y) ⟨t, rfl⟩ (strs_rep l ls e)
theorem CV_pop {a : Addr} {us : List V} {u : V} (hs : σ a = some (.list (us ++ [u]))) (hz : us.length < sizeLine) (h : Q u (σ.set a (.list us))) : CV c d (.builtin "list.pop") [.lst a] σ Q := CV1 fun A s v R B r => by
  obtain rfl := r
  obtain ⟨items, n, ho, l⟩ := B.objs _ _ hs
  have e := l.length
  rw [List.length_append] at e
  simp only [List.length_cons, List.length_nil] at e
  obtain ⟨w, e', rw'⟩ := l.get (i := us.length) (a := u) (by simp)
  refine call_meets PySem.F.slot_list_pop ⟨_, ho, rfl⟩ PySem.F.entry_list_pop (PySem.F.args_list_pop_1 _) (PySem.MeetsSeq.list_pop_last a items.toArray n w (by rw [List.size_toArray, e]; simpa using e') (by rw [List.size_toArray, e]; omega)) ⟨ho, ?_⟩
  have st := Stp.put (s := s) (s' := { s with heap := s.heap.update a (Obj.mapSeq fun xs => xs.eraseIdxIfInBounds (items.toArray.size - 1)) }) (ao := .list us) B hs (Heap.SameBut.update ..) (fun so => by
    have := IsL.update (n := n) ho (fun xs => xs.eraseIdxIfInBounds (items.toArray.size - 1))
    have e2 : items.toArray.eraseIdxIfInBounds (items.toArray.size - 1) = (items.take us.length).toArray := by
      apply Array.toList_inj.mp
      unfold Array.eraseIdxIfInBounds
      rw [dif_pos (by rw [List.size_toArray]; omega), Array.toList_eraseIdx, List.size_toArray, e]
      simp only [Nat.add_sub_cancel]
      rw [List.eraseIdx_eq_take_drop_succ, List.drop_of_length_le (by omega)]
      simp
    simp only [e2] at this
    refine RepO_list this ?_
    have := (l.take us.length).keeps so
    simpa using this) rfl rfl
  exact ⟨u, _, rw'.keeps (st.solid0 B), st, h⟩
noncomputable def splitL (x : Nat) : List Nat → List (List Nat)
  | [] => [[]]
  | y :: r => if y = x then [] :: splitL x r else match splitL x r with
    | [] => [[y]]
    | p :: ps => (y :: p) :: ps
theorem splitL_ne (x : Nat) : ∀ l, splitL x l ≠ []
  | [] => by simp [splitL]
  | y :: r => by
    unfold splitL
    split
    · simp
    · split <;> simp
theorem splitL_free (x : Nat) : ∀ p : List Nat, x ∉ p → splitL x p = [p]
  | [], _ => rfl
  | y :: r, h => by
    have h1 : y ≠ x := fun z => h (z ▸ .head _)
    unfold splitL
    rw [if_neg h1, splitL_free x r fun z => h (.tail _ z)]
theorem splitL_app (x : Nat) : ∀ (p rest : List Nat), x ∉ p → splitL x (p ++ x :: rest) = p :: splitL x rest
  | [], rest, _ => by rw [List.nil_append]; conv => lhs; unfold splitL
                      rw [if_pos rfl]
  | y :: r, rest, h => by
    have h1 : y ≠ x := fun z => h (z ▸ .head _)
    rw [List.cons_append]
    conv => lhs; unfold splitL
    rw [if_neg h1, splitL_app x r rest fun z => h (.tail _ z)]
theorem splitL_join (x : Nat) : ∀ ls : List (List Nat), ls ≠ [] → (∀ p ∈ ls, x ∉ p) → splitL x (joinL [x] ls) = ls
  | [], h, _ => absurd rfl h
  | [p], _, h => splitL_free x p (h p (.head _))
  | p :: q :: r, _, h => by
    have e : joinL [x] (p :: q :: r) = p ++ x :: joinL [x] (q :: r) := by
      show p ++ [x] ++ joinL [x] (q :: r) = _
      simp
    rw [e, splitL_app x p _ (h p (.head _)), splitL_join x (q :: r) (by simp) fun z hz => h z (.tail _ hz)]
theorem splitL_length (x : Nat) : ∀ l, (splitL x l).length ≤ l.length + 1
  | [] => Nat.le_refl _
  | y :: r => by
    have := splitL_length x r
    unfold splitL
    split
    · simpa using this
    · split
      · simp
      · rename_i e; rw [e] at this; simp at this ⊢; omega
theorem kind1 {l : List Nat} (h : ∀ y ∈ l, y < 256) : Builtin.Str.strKind (S l) = 1 := by
  unfold Builtin.Str.strKind
  rw [if_pos]
  rw [← Array.all_toList, List.all_eq_true]
  intro y hy
  exact decide_eq_true (h y (by simpa [S] using hy))
theorem split_parts {l : List Nat} {x : Nat} (hx : x ∈ l) (hl : ∀ y ∈ l, y < 256) : (Builtin.Str.occurrences (S l) (S [x]) 0 (S l).length ((S l).length + 1)).isEmpty = false ∧
    Builtin.Str.partsBetween (S l) (Builtin.Str.occurrences (S l) (S [x]) 0 (S l).length ((S l).length + 1)) (S [x]).length = (splitL x l).map S ∧ (decide ((S l).length < (S [x]).length) || decide (Builtin.Str.strKind (S l) < Builtin.Str.strKind (S [x]))) = false := by
  have hpos : 0 < l.length := List.length_pos_of_mem hx
  have h1 : (decide ((S l).length < (S [x]).length) || decide (Builtin.Str.strKind (S l) < Builtin.Str.strKind (S [x]))) = false := by
    rw [kind1 hl, kind1 (l := [x]) (fun y hy => by rw [List.mem_singleton.mp hy]; exact hl x hx), S_length, S_length]
    simp only [List.length_cons, List.length_nil, Nat.lt_irrefl, decide_false, Bool.or_false, decide_eq_false_iff_not]
    omega
  have hf : (Builtin.Str.occurrences (S l) (S [x]) 0 (S l).length ((S l).length + 1)).isEmpty = false := by
    cases e : (Builtin.Str.occurrences (S l) (S [x]) 0 (S l).length ((S l).length + 1)) with
    | cons a r => rfl
    | nil =>
      obtain ⟨f, hG, hn⟩ := StrLaws.occ_tight (S l) (S [x]) (by rw [S_length]; simp)
      rw [e] at hG
      have hf0 : f = 0 := hG
      have h2 := StrLaws.found_one (S l) x
      have : decide (x ∈ (S l).cps.toList) = true := decide_eq_true (by simpa [S] using hx)
      rw [this] at h2
      obtain ⟨i, hi⟩ := (StrLaws.found_iff (S l) ⟨#[x]⟩).mp h2
      exact absurd hi (hn i (by omega))
  refine ⟨hf, ?_, h1⟩
  have hfree := StrLaws.split_free (S l) x
  have hs : Txt.split (S l) ⟨#[x]⟩ = Builtin.Str.partsBetween (S l) (Builtin.Str.occurrences (S l) (S [x]) 0 (S l).length ((S l).length + 1)) (S [x]).length := by
    unfold Txt.split
    exact (if_neg (by rw [show (decide ((S l).length < (⟨#[x]⟩ : Str).length) || decide (Builtin.Str.strKind (S l) < Builtin.Str.strKind ⟨#[x]⟩)) = false from h1]; decide)).trans (if_neg (by rw [show (Builtin.Str.occurrences (S l) ⟨#[x]⟩ 0 (S l).length ((S l).length + 1)).isEmpty = false from hf]; decide))
  rw [hs] at hfree
  have hj := StrLaws.glued_between_self (S l) (S [x]) ((S l).length + 1)
  generalize hps : Builtin.Str.partsBetween (S l) (Builtin.Str.occurrences (S l) (S [x]) 0 (S l).length ((S l).length + 1)) (S [x]).length = ps at hfree hj ⊢
  have hps2 : ps = (ps.map fun p => p.cps.toList).map S := by
    rw [List.map_map]
    have : (S ∘ fun p : Str => p.cps.toList) = id := by funext p; exact S_toList p
    rw [this, List.map_id]
  rw [hps2] at hj
  have hj2 : S (joinL [x] (ps.map fun p => p.cps.toList)) = S l := (join_S [x] _).symm.trans hj
  have hj3 := S_inj hj2
  have hne : (ps.map fun p => p.cps.toList) ≠ [] := fun z => by
    rw [z] at hj3
    rw [← hj3] at hx; cases hx
  have hfr : ∀ p ∈ (ps.map fun p => p.cps.toList), x ∉ p := fun p hp => by
    obtain ⟨q, hq, rfl⟩ := List.mem_map.mp hp
    exact hfree q hq
  have := splitL_join x _ hne hfr
  rw [hj3] at this
  rw [this]
  exact hps2
theorem CV_split {l : List Nat} {x : Nat} (hx : x ∈ l) (hl : ∀ y ∈ l, y < 256) (hz : l.length < sizeLine) (h : ∀ a, σ a = none → Q (.lst a) (σ.set a (.list ((splitL x l).map .str)))) : CV c d (.builtin "str.split") [.str l, .str [x]] σ Q := CV2 fun A s v v' R B r r' => by
  obtain ⟨t, rfl⟩ := r
  obtain ⟨t', rfl⟩ := r'
  obtain ⟨hf, hp, h1⟩ := split_parts hx hl
  have hlen := splitL_length x l
  refine call_meets F.slot_str_split (typeIs_str _ _ _) F.entry_str_split (F.args_str_split_2 _ _) (meets_str_split_sep (S l) (S [x]) t t' h1 (by rw [S_length]; rfl) hf (by rw [S_length]; omega) (by rw [hp, List.length_map]; omega)) ?_
  rw [hp, strsFrom_eq]
  have rl := strs_rep (C := c.C) (h := s.heap) (numbered s.toks ((splitL x l).map S)) (splitL x l) (numbered_texts _ _)
  have st := ((Stp.push B (lstObj (strValues (numbered s.toks ((splitL x l).map S))) 0)).new (get_size _) (RepO_list (vs := (splitL x l).map .str) (Heap.get?_push_size _ rfl) (rl.push _)) (B.off_new (get_size _)))
  exact ⟨.lst _, _, Rep_lst, st.toks _, h _ (B.fresh (get_size _))⟩
end
set_option tactic.hygienic true
set_option tactic.hygienic false
section
variable {c : Cx} {d : Nat} {σ : Store} {Q : V → Store → Prop}
noncomputable def makeOK (K : Frag) (C : Addr) (fI : Addr) : Bool :=
  makesIn K C && (match findIn K (.ref C) "__init__" with | some (some (.ref g)) => g == fI | _ => false) && (match typeIn K (.ref fI) with | some (.type t) => t == "function" | _ => false)
theorem Room.under {A : Around} {d : Nat} {C : Addr} {rest : List Value} (R : Room A (d + 1)) : Room (A.under (.builtin "type.__call__" ⟨.ref C :: rest, []⟩)) d := by
  have h1 : (Code.builtin "type.__call__" ⟨.ref C :: rest, []⟩).weight = 1 := by kernel_rfl
  have h2 : (Code.builtin "type.__call__" ⟨.ref C :: rest, []⟩).cUnits = 1 := by kernel_rfl
  refine ⟨R.handled, ?_, ?_⟩
  · have := R.depth
    show A.depth + (Code.builtin "type.__call__" ⟨.ref C :: rest, []⟩).weight + 2 * d ≤ 980
    omega
  · have := R.units
    show A.units + (Code.builtin "type.__call__" ⟨.ref C :: rest, []⟩).cUnits + 12 * d ≤ 9800
    omega
theorem CV_make (OK : CxOK c) {k : Cls} {fI : Addr} {us : List V} (hm : makeOK c.K (c.C k) fI = true) (h : ∀ dx, σ dx = none → CC c d (.ref fI) (.inst k dx :: us) (σ.set dx (.ns [])) fun v σ' => v = .none ∧ Q (.inst k dx) σ') : CV c (d + 1) (.ref (c.C k)) us σ Q := by
  unfold makeOK at hm
  obtain ⟨hm, m3⟩ := Bool.and_eq_true_iff.mp hm
  obtain ⟨m1, m2⟩ := Bool.and_eq_true_iff.mp hm
  split at m2
  · rename_i g hi
    obtain rfl := beq_iff_eq.mp m2
    split at m3
    · rename_i t hf
      obtain rfl := beq_iff_eq.mp m3
      unfold CV
      intro A s vs R B r
      have X := B.K OK
      have hdx := get_size s.heap
      have st : Stp c noX σ s (σ.set s.heap.objs.size (.ns [])) { s with heap := (s.heap.push emptyDict).push (instObj (c.C k) s.heap.objs.size) } :=
        ((Stp.push B emptyDict).new hdx (RepO_ns (m := []) (es := []) (n := 0) (Heap.get?_push_size _ rfl) rfl) (B.off_new hdx)).pushS (instObj (c.C k) s.heap.objs.size)
      have rI : Rep c.C ((s.heap.push emptyDict).push (instObj (c.C k) s.heap.objs.size)) (.inst k s.heap.objs.size) (.ref (s.heap.objs.size + 1)) := by
        refine ⟨_, rfl, ?_⟩
        have := Heap.get?_push_size (s.heap.push emptyDict) (o := instObj (c.C k) s.heap.objs.size) rfl
        rwa [Heap.size_push] at this
      have hc := h s.heap.objs.size (B.fresh hdx)
      unfold CC at hc
      have hc := hc _ _ _ (R.under (C := c.C k) (rest := vs)) st.base (RepL_cons rI (r.step B st))
      have hdx' := B.fresh hdx
      refine wpAny_call (make_core (h := s.heap) (g := s.gens) (d := s.drawn) (t := s.toks) (os := s.os) (makes_of X m1) (looks_findIn X hi) (fun self => bind_fn X self hf) (.inl rfl) (codeAny_mono hc fun r s' z => ?_))
      rcases r with e | (v | _ | _ | _) <;> first | exact z.elim | skip
      obtain ⟨u, σ', ru, st', e, q⟩ := (z : Post _ _ _ _ _ _)
      subst e
      subst ru
      exact ⟨rfl, .inst k s.heap.objs.size, σ', rI.step st.base st', st.trans st', q⟩
    · cases m3
  · cases m2
end
set_option tactic.hygienic true
set_option tactic.hygienic false
mutual
noncomputable def datV : V → PyData
  | .bool b => .bool b
  | .int i => .int i
  | .str l => .str (S l)
  | .tup vs => .tuple (datVs vs)
  | _ => .none
noncomputable def datVs : List V → List PyData
  | [] => []
  | v :: r => datV v :: datVs r
end
inductive Flat : Nat → V → Prop where
  | none {n} : Flat n .none
  | bool {n b} : Flat n (.bool b)
  | int {n i} : Flat n (.int i)
  | str {n l} (h : PyData.strOk (S l) = true) : Flat n (.str l)
  | tup {n vs} (h : ∀ v ∈ vs, Flat n v) : Flat (n + 1) (.tup vs)
theorem flat_reads {C : Cls → Addr} {h : Heap} {n : Nat} {u : V} (f : Flat n u) : (∀ v, Rep C h u v → ∃ as, Reads h v (datV u) as) ∧ (datV u).canLay0 = true ∧ (datV u).depth ≤ n := by
  induction f with
  | none => exact ⟨fun v r => by obtain rfl := r; exact ⟨_, Reads.none⟩, by simp [datV, PyData.canLay0], by simp [datV, PyData.depth]⟩
  | bool => exact ⟨fun v r => by obtain rfl := r; exact ⟨_, Reads.bool _⟩, by simp [datV, PyData.canLay0], by simp [datV, PyData.depth]⟩
  | int => exact ⟨fun v r => by obtain ⟨t, rfl⟩ := r; exact ⟨_, Reads.int _ _⟩, by simp [datV, PyData.canLay0], by simp [datV, PyData.depth]⟩
  | str h => exact ⟨fun v r => by obtain ⟨t, rfl⟩ := r; exact ⟨_, Reads.str _ _⟩, by simp [datV, PyData.canLay0, h], by simp [datV, PyData.depth]⟩
  | @tup n vs _ ih =>
    have key : ∀ ws : List V, (∀ v ∈ ws, v ∈ vs) → (∀ items, RepL C h ws items → ∃ as, ReadsAll h items (datVs ws) as) ∧ PyData.canLayAll0 (datVs ws) = true ∧ PyData.depthAll (datVs ws) ≤ n := by
      intro ws
      induction ws with
      | nil => exact fun _ => ⟨fun items r => by obtain rfl := r; exact ⟨_, ReadsAll.nil⟩, by simp [datVs, PyData.canLayAll0], by simp [datVs, PyData.depthAll]⟩
      | cons w r ih2 =>
        intro hw
        obtain ⟨a1, a2, a3⟩ := ih w (hw w (.head _))
        obtain ⟨b1, b2, b3⟩ := ih2 fun v hv => hw v (.tail _ hv)
        refine ⟨fun items q => ?_, by simp [datVs, PyData.canLayAll0, a2, b2], by simp only [datVs, PyData.depthAll]; omega⟩
        obtain ⟨v, vs', rfl, q1, q2⟩ := q
        obtain ⟨as, x⟩ := a1 v q1
        obtain ⟨bs, y⟩ := b1 vs' q2
        exact ⟨_, ReadsAll.cons x y⟩
    obtain ⟨k1, k2, k3⟩ := key vs fun v hv => hv
    refine ⟨fun v r => ?_, by simp [datV, PyData.canLay0, k2], by simp only [datV, PyData.depth]; omega⟩
    obtain ⟨a, items, m, rfl, ho, l⟩ := r
    obtain ⟨as, x⟩ := k1 items l
    simp only [datV]
    exact ⟨_, reads_tuple_at (vs := items.toArray) ho rfl rfl x⟩
section
variable {c : Cx} {d : Nat} {sc : Scope} {ρ : Locals} {σ : Store}
theorem eqT_ok {A : Around} {s : Shared} {u : V} {va vb : Value} {Q' : Value → Shared → Prop} (R : Room A 0) (f : Flat 64 u) (ra : Rep c.C s.heap u va) (rb : Rep c.C s.heap u vb) (h : Q' (.bool true) s) :
    wpAny (model c.prog c.w) A (compareOp .Eq va vb) Q' noE s := by
  obtain ⟨x1, x2, x3⟩ := flat_reads (C := c.C) (h := s.heap) f
  obtain ⟨as, ya⟩ := x1 va ra
  obtain ⟨bs, yb⟩ := x1 vb rb
  have sh : SeqAt.shaped (datV u) = true := by
    unfold SeqAt.shaped
    rw [x2, Bool.true_and]; exact decide_eq_true x3
  refine eq_dataH ya yb sh sh (by have := R.units; show _ < 9900; omega) ?_
  rw [SeqAt.eqv_refl (datV u) x2]
  exact h
theorem WE_eqT {l r : Expr} {p : Pos} {Q : V → Store → Prop} (h : WE c d sc l ρ σ fun a σ₁ => WE c d sc r ρ σ₁ fun b σ₂ => a = b ∧ Flat 64 a ∧ Q (.bool true) σ₂) (hm : behindInMarks .Eq r = false) : WE c d sc (.Compare l [.Eq] [r] p) ρ σ Q :=
  .mk fun A env s R O B L => wpAny_Compare1 (h.seq R O B L fun va s₁ a σ₁ ra st₁ h₁ => h₁.seq R O st₁.base (L.step B st₁) fun vb s₂ b σ₂ rb st₂ ⟨e, f, q⟩ => by
    subst e
    exact eqT_ok (c := c) (R.less (Nat.zero_le _)) f (ra.step st₁.base st₂) rb ⟨.bool true, σ₂, Rep_bool, st₁.trans st₂, q⟩) hm
end
set_option tactic.hygienic true
set_option tactic.hygienic false
noncomputable def nth : List Stmt → Nat → Stmt
  | [], _ => .Pass ⟨0, 0, 0, 0⟩
  | s :: _, 0 => s
  | _ :: r, n + 1 => nth r n
noncomputable def top (i : Nat) : Stmt := nth PySem.Challenge.pw_nn0335_01.main.body i
noncomputable def fnBody : Stmt → List Stmt
  | .FunctionDef _ _ b _ _ _ _ _ _ _ => b
  | _ => []
noncomputable def fnArgs : Stmt → Arguments
  | .FunctionDef _ a _ _ _ _ _ _ _ _ => a
  | _ => ⟨[], [], none, [], [], none, []⟩
noncomputable def fnScope : Stmt → Scope
  | .FunctionDef _ _ _ _ _ _ s _ _ _ => s
  | _ => ⟨.function, [], false, false, []⟩
noncomputable def meth (i j : Nat) : Stmt := match top i with
  | .ClassDef _ _ _ b _ _ _ _ _ _ _ => nth b j
  | _ => .Pass ⟨0, 0, 0, 0⟩
noncomputable def Known (c : Cx) (x : Str) : Prop := ∃ f, GV c x f ∧ Kp c f
noncomputable def HasF (c : Cx) (x : Str) (st : Stmt) (D : Value → Prop := fun v => v = Value.none) : Prop := ∃ f, c.mg x = some (.ref f) ∧ Fn c f (fnArgs st) (fnBody st) (fnScope st) D
noncomputable def HasM (c : Cx) (k : Cls) (x : Str) (st : Stmt) : Prop := ∃ f, methOK c.K (c.C k) x f = true ∧ Fn c f (fnArgs st) (fnBody st) (fnScope st)
noncomputable def HasI (c : Cx) (k : Cls) (st : Stmt) (D : Value → Prop := fun v => v = Value.none) : Prop := ∃ f, makeOK c.K (c.C k) f = true ∧ Fn c f (fnArgs st) (fnBody st) (fnScope st) D
noncomputable def CF (c : Cx) (d : Nat) (x : Str) (us : List V) (σ : Store) (Q : V → Store → Prop) : Prop := ∃ f, GV c x f ∧ CV c d f us σ Q
noncomputable def MC (c : Cx) (d : Nat) (k : Cls) (x : Str) (us : List V) (σ : Store) (Q : V → Store → Prop) : Prop := ∃ f, methOK c.K (c.C k) x f = true ∧ CV c d (.ref f) us σ Q
section
variable {c : Cx} {d : Nat} {sc : Scope} {ρ : Locals} {σ : Store} {Q : V → Store → Prop}
theorem GV.one {x : Str} {f g : Value} (a : GV c x f) (b : GV c x g) : f = g := by
  rcases a with a | ⟨a, a'⟩ <;> rcases b with b | ⟨b, b'⟩
  · rw [a] at b; exact Option.some.inj b
  · rw [a] at b; cases b
  · rw [a] at b; cases b
  · rw [a'] at b'; exact Option.some.inj b'
theorem methOK.one {K : Frag} {C : Addr} {x : Str} {f g : Addr} (a : methOK K C x f = true) (b : methOK K C x g = true) : f = g := by
  unfold methOK at a b
  obtain ⟨a, _⟩ := Bool.and_eq_true_iff.mp a
  obtain ⟨_, a⟩ := Bool.and_eq_true_iff.mp a
  obtain ⟨b, _⟩ := Bool.and_eq_true_iff.mp b
  obtain ⟨_, b⟩ := Bool.and_eq_true_iff.mp b
  split at a
  · rename_i h e
    rw [e] at b
    exact (beq_iff_eq.mp a).symm.trans (beq_iff_eq.mp b)
  · cases a
theorem HasF.known {x : Str} {st : Stmt} {D : Value → Prop} (h : HasF c x st D) : Known c x := let ⟨f, a, b⟩ := h; ⟨.ref f, .inl a, b.kp⟩
theorem CV.up {f : Value} {us : List V} {e : Nat} (h : CV c d f us σ Q) (hd : d ≤ e) : CV c e f us σ Q := by
  unfold CV at h ⊢
  exact fun A s vs R B r => h A s vs (R.less hd) B r
theorem CV.mono {f : Value} {us : List V} {Q' : V → Store → Prop} (h : CV c d f us σ Q) (k : ∀ v σ', Q v σ' → Q' v σ') : CV c d f us σ Q' := by
  unfold CV at h ⊢
  exact fun A s vs R B r => wpAny_mono (h A s vs R B r) (fun v s' p => p.mono k) fun _ _ z => z
theorem CF.mono {x : Str} {us : List V} {e : Nat} {Q' : V → Store → Prop} (h : CF c d x us σ Q) (hd : d ≤ e) (k : ∀ v σ', Q v σ' → Q' v σ') : CF c e x us σ Q' := let ⟨f, a, b⟩ := h; ⟨f, a, (b.up hd).mono k⟩
theorem MC.mono {k : Cls} {x : Str} {us : List V} {e : Nat} {Q' : V → Store → Prop} (h : MC c d k x us σ Q) (hd : d ≤ e) (t : ∀ v σ', Q v σ' → Q' v σ') : MC c e k x us σ Q' := let ⟨f, a, b⟩ := h; ⟨f, a, (b.up hd).mono t⟩
theorem WL.mono {es : List Expr} {Q Q' : List V → Store → Prop} (h : WL c d sc es ρ σ Q) (k : ∀ v σ', Q v σ' → Q' v σ') : WL c d sc es ρ σ Q' := by
  unfold WL at h ⊢
  exact fun A env s R O B L pos => wpAny_mono (h A env s R O B L pos) (fun v s' ⟨u, σ', r, st, q⟩ => ⟨u, σ', r, st, k u σ' q⟩) fun _ _ z => z
theorem WE.mono {e : Expr} {Q' : V → Store → Prop} (h : WE c d sc e ρ σ Q) (k : ∀ v σ', Q v σ' → Q' v σ') : WE c d sc e ρ σ Q' := by
  unfold WE at h ⊢
  exact fun A env s R O B L => wpAny_mono (h A env s R O B L) (fun v s' ⟨u, σ', r, st, q⟩ => ⟨u, σ', r, st, k u σ' q⟩) fun _ _ z => z
noncomputable abbrev kCF (c : Cx) (d : Nat) (x : Str) (Q : V → Store → Prop) : List V → Store → Prop := fun us σ => CF c d x us σ Q
noncomputable abbrev kMC (c : Cx) (d : Nat) (k : Cls) (x : Str) (Q : V → Store → Prop) : List V → Store → Prop := fun us σ => MC c d k x us σ Q
theorem WE_callF (OK : CxOK c) {x : Str} {p p' : Pos} {es : List Expr} (hk : Known c x) (h : WL c d sc es ρ σ (kCF c d x Q)) (h1 : okGlobal sc x = true) (hn : es.all noStar = true) : WE c d sc (.Call (.Name x p) es [] p') ρ σ Q := by
  obtain ⟨f, g, k⟩ := hk
  exact WE_call OK h1 g k (h.mono fun us σ₁ ⟨f', g', q⟩ => g.one g' ▸ q) hn
inductive kMI (c : Cx) (d : Nat) (sc : Scope) (es : List Expr) (m : Str) (ρ : Locals) (Q : V → Store → Prop) (u : V) (σ₁ : Store) : Prop
  | mk (k : Cls) (dx : Addr) (n : List (Str × V)) (e : u = .inst k dx) (h : σ₁ dx = some (.ns n)) (l : lkA m n = none) (f : ∃ f, methOK c.K (c.C k) m f = true ∧ keepIn c.K (.ref f) = true) (w : WL c d sc es ρ σ₁ (kCons (kMC c d k m Q) u))
theorem WE_methI (OK : CxOK c) {o : Expr} {m : Str} {p p' : Pos} {es : List Expr} (h : WE c d sc o ρ σ (kMI c d sc es m ρ Q)) (hs : notSuper o := by exact fun _ _ _ => rfl) (hn : es.all noStar = true := by rfl) (hf : es.length < 30 := by decide) (hp : p.endLine = p'.line := by rfl) :
    WE c d sc (.Call (.Attribute o m p) es [] p') ρ σ Q :=
  WE_meth OK (h.mono fun u σ₁ ⟨k, dx, n, e, hd, hl, ⟨f, hm, hk⟩, w⟩ => by
    subst e
    exact ⟨.ref f, GM_inst OK hk hm hd hl, w.mono fun us σ₂ ⟨f', hm', q⟩ => methOK.one hm hm' ▸ q⟩) hs hn hf hp
theorem HasM.known {k : Cls} {x : Str} {st : Stmt} (h : HasM c k x st) : ∃ f, methOK c.K (c.C k) x f = true ∧ keepIn c.K (.ref f) = true := let ⟨f, a, b⟩ := h; ⟨f, a, b.keep⟩
theorem CF_fn (OK : CxOK c) {x : Str} {st : Stmt} (H : HasF c x st) (names : List Str) (us : List V) (h : WB c d (fnScope st) (fnBody st) (names.zip us) σ (RetP Q)) (hok : fnOK (fnScope st) names = true := by decide +kernel) (hl : names.length = us.length := by rfl)
    (hb : ∀ name qual kV doc pm an cdv ct vs, vs.length = us.length → bindArgs (fnX name qual (fnArgs st) (fnBody st) (fnScope st) [] .none kV doc pm an cdv ct) ⟨vs, []⟩ = pure (names.zip vs) := by walk_at "my ba") : CF c (d + 1) x us σ Q := by
  obtain ⟨f, a, b⟩ := H
  exact ⟨.ref f, .inl a, CV_fn OK b names hok hl hb h⟩
theorem MC_fn (OK : CxOK c) {k : Cls} {x : Str} {st : Stmt} (H : HasM c k x st) (names : List Str) (us : List V) (h : WB c d (fnScope st) (fnBody st) (names.zip us) σ (RetP Q)) (hok : fnOK (fnScope st) names = true := by decide +kernel) (hl : names.length = us.length := by rfl)
    (hb : ∀ name qual kV doc pm an cdv ct vs, vs.length = us.length → bindArgs (fnX name qual (fnArgs st) (fnBody st) (fnScope st) [] .none kV doc pm an cdv ct) ⟨vs, []⟩ = pure (names.zip vs) := by walk_at "my ba") : MC c (d + 1) k x us σ Q := by
  obtain ⟨f, a, b⟩ := H
  exact ⟨f, a, CV_fn OK b names hok hl hb h⟩
theorem zipN {us : List V} : [].zip us = ([] : Locals) := rfl
theorem ite_t {b : Bool} {X Y : Prop} (h : b = true) (x : X) : if b = true then X else Y := by rw [if_pos h]; exact x
theorem ite_f {b : Bool} {X Y : Prop} (h : b = false) (y : Y) : if b = true then X else Y := by rw [if_neg (by rw [h]; decide)]; exact y
theorem ite_b {b : Bool} {X Y : Prop} (x : b = true → X) (y : b = false → Y) : if b = true then X else Y := by
  cases b
  · exact y rfl
  · exact x rfl
end
set_option tactic.hygienic true
theorem left_ex {p q : Program} {loose : List Str} {Xt : Shared → Bool} {α : Type} {Yf : Shared → α} {Ya : World → α} {N : Nat} {g0 : Bool} {H₀ : Params → Heap} {gs₀ : Array GenState} {d₀ : Drawn} {k₀ m₀ : Nat} {ann : Option Value} {M : Nat}
    (open_ : ∀ w : World, (fencedOpening treeTable p w N).map (fun s => (s.heap, s.gens, s.drawn, s.toks)) = some (H₀ w.params, gs₀, d₀, k₀))
    (size : ∀ w : World, ((H₀ w.params).isNs mainGlobals && gs₀.size == 0, (H₀ w.params).objs.size, (H₀ w.params).nsMap mainGlobals "__annotations__") = (true, m₀, ann))
    (run : ∀ (w : World) (os : OsState), ∃ s, topRun treeTable p w m₀ ann M ⟨H₀ w.params, gs₀, d₀, k₀, os⟩ (topStub p) = some s ∧
      (staticsOk (importedModules p.main.body) (H₀ w.params) s.heap && namesBound p s.heap && gensDone s && laidKept (H₀ w.params) s.heap) = true ∧ openSeen q loose (importedModules p.main.body) Xt g0 s = openGood q loose ∧ Yf s = Ya w)
    (le : M ≤ N) : LeftO p q loose Xt Yf Ya N g0 := fun w => by
  obtain ⟨⟨h, gs, d, k, os⟩, e, e'⟩ := Option.map_eq_some_iff.mp (open_ w)
  obtain ⟨rfl, rfl, rfl, rfl⟩ : h = H₀ w.params ∧ gs = gs₀ ∧ d = d₀ ∧ k = k₀ := by simpa using e'
  obtain ⟨z1, z2, z3⟩ : _ ∧ _ ∧ _ := by simpa only [Prod.mk.injEq] using size w
  obtain ⟨s, r, l1, l2, l3⟩ := run w os
  have r := topRun_mono (N - M) _ _ _ _ r
  rw [show M + (N - M) = N by omega] at r
  have t : topFrom treeTable p w N ⟨H₀ w.params, gs, d, k, os⟩ = some s := by
    unfold topFrom
    dsimp only
    rw [z1, z2, z3, r]
    show (match staticsOk (importedModules p.main.body) (H₀ w.params) s.heap && namesBound p s.heap && gensDone s && laidKept (H₀ w.params) s.heap with | true => _ | false => _) = _
    rw [l1]
  unfold openEnds
  rw [e]
  show (topFrom treeTable p w N _).map _ = _
  rw [t]
  exact congrArg some (Prod.ext l2 l3)
abbrev RR : OpenRow := PySem.Challenge.rw_nn0335_01.row
noncomputable abbrev PP : Program := RR.prog
noncomputable def body0 : List Stmt := behindTheImports PP
noncomputable def env0 : Env := { scope := PP.main.scope, locals := mainNs, globals := mainNs, cells := [], code := .ref 13, frame := some 14 }
noncomputable def code0 : Code := .body body0 env0
noncomputable def pos0 : Pos := ⟨0, 0, 0, 0⟩
noncomputable def B0 : List Frame := [topFrame pos0]
noncomputable def o11 : Obj := { cls := .type "tuple", data := .seq #[] 0 }
noncomputable def o12 : Obj := { cls := .none, data := .fields #[] }
noncomputable def o13 : Obj := { cls := .type "code", data := .fields #[.str "<module>" 182, .str "<module>" 183, .str "/claim/cut.py" 184, .int 1 0, .int 0 0, .int 0 0, .int 0 0, .int 0 0, .ref 11, .bool false, .int 181 0, .ref 12, .none, .none, .none, .none, .int 185 0, .int 1 0, .str "/claim/cut.py" 186] }
noncomputable def o14 : Obj := { cls := .type "frame", data := .plain, slots := #[some (.ref 13), some (.ref 3), some (.ref 3), none, some (.str "__main__" 164), none, some (.ref 0)] }
noncomputable def objs7 (P : Params) : List Obj := [boot_o_0 P, boot_o_1 P, boot_o_2 P, boot_o_3 P, boot_o_4 P, boot_o_5 P, boot_o_6 P, boot_o_7 P, boot_o_8 P, boot_o_9 P, boot_o_10 P, o11, o12, o13, o14]
noncomputable def h7 (P : Params) : Heap := ⟨⟨objs7 P⟩, {}⟩
noncomputable def tr (l : List Obj) : Nat → BT → BT := fun n t => match l with
  | [] => t
  | o :: r => tr r (n + 1) (t.ins n o)
noncomputable def s8 (w : World) (os : OsState) : SharedT := ⟨tr (objs7 w.params) 0 .nil, 15, {}, #[], {}, 187, os⟩
theorem pre0 (w : World) (os : OsState) : topGo treeTable PP w 11 (some (.ref 6)) 12 ⟨boot_heap w.params, #[], boot_drawn, boot_toks, os⟩ (topStub PP) = some (⟨h7 w.params, #[], {}, 187, os⟩, ⟨denote treeTable code0, code0, pos0, B0⟩) := by kernel_rfl
theorem block0 (w : World) (os : OsState) : segRun treeTable PP w 11 (some (.ref 6)) 1 2 ⟨h7 w.params, #[], {}, 187, os⟩ (blockOf body0 env0 code0 pos0 B0) = some (.next, (s8 w os).abs, code0, pos0) := by kernel_rfl
theorem fin0 (w : World) (s : Shared) (p : Pos) : topRun treeTable PP w 11 (some (.ref 6)) 2 s ⟨doneF .next, code0, p, B0⟩ = some s := by kernel_rfl
theorem size0 (w : World) : ((boot_heap w.params).isNs mainGlobals && (#[] : Array GenState).size == 0, (boot_heap w.params).objs.size, (boot_heap w.params).nsMap mainGlobals "__annotations__") = (true, 11, some (.ref 6)) := by kernel_rfl
theorem open0 : ∀ w : World, (fencedOpening treeTable PP w 5000).map (fun s => (s.heap, s.gens, s.drawn, s.toks)) = some (boot_heap w.params, #[], boot_drawn, boot_toks) :=
  boot_open (by kernel_rfl) (by decide) (fun s => by kernel_rfl)
noncomputable def fnName : Stmt → Str
  | .FunctionDef n _ _ _ _ _ _ _ _ _ => n
  | _ => "_"
noncomputable def en (P : Params) (x : Str) (t : Tok) (v : Value) : DictEntry := ⟨PyData.keyHash P x, .str x t, v⟩
structure FE where
  a : Addr
  st : Stmt
  d : Value
  m : Str
  t : Tok
  q : Str
noncomputable def FE.obj (e : FE) : Obj := { cls := .type "function", data := .func (fnX (fnName e.st) e.q (fnArgs e.st) (fnBody e.st) (fnScope e.st) [] e.d .none .none (.str e.m e.t) none (.ref (e.a - 1)) .none) }
noncomputable def fe0 (a : Addr) (s : Stmt) (d : Value) (q : Str) : FE := ⟨a, s, d, "gateloom.tokens", 248, q⟩
noncomputable def fe1 (a : Addr) (s : Stmt) (d : Value) (q : Str) : FE := ⟨a, s, d, "gateloom.vec", 648, q⟩
noncomputable def fe2 (a : Addr) (s : Stmt) (d : Value) (q : Str) : FE := ⟨a, s, d, "gateloom.numerals", 686, q⟩
noncomputable def fe3 (a : Addr) (s : Stmt) (d : Value) (q : Str) : FE := ⟨a, s, d, "gateloom.exprparse", 783, q⟩
noncomputable def fe4 (a : Addr) (s : Stmt) (d : Value) (q : Str) : FE := ⟨a, s, d, "gateloom.exprtext", 1007, q⟩
noncomputable def fe5 (a : Addr) (s : Stmt) (d : Value) (q : Str) : FE := ⟨a, s, d, "law_nn0335_01", 1089, q⟩
noncomputable def FL : List FE := [fe0 82 (top 6) .none "keywords", fe0 89 (top 7) .none "is_letter", fe0 96 (top 8) .none "is_digit", fe0 103 (top 9) .none "is_word_char", fe0 110 (top 10) .none "is_layout", fe0 117 (top 11) .none "fits_base", fe0 139 (meth 12 1) .none "Lexer.char", fe0 146 (meth 12 2) .none "Lexer.pair", fe0 153 (meth 12 3) .none "Lexer.past_layout", fe0 160 (meth 12 4) .none "Lexer.next_token", fe0 167 (meth 12 5) .none "Lexer.skip", fe0 195 (meth 12 9) .none "Lexer.word", fe0 202 (meth 12 10) .none "Lexer.escaped", fe0 209 (meth 12 11) .none "Lexer.system", fe0 216 (meth 12 12) .none "Lexer.number", fe0 223 (meth 12 13) .none "Lexer.is_real", fe0 230 (meth 12 14) .none "Lexer.based", fe0 237 (meth 12 15) .none "Lexer.string", fe0 244 (meth 12 16) .none "Lexer.escape", fe0 251 (meth 12 17) .none "Lexer.escape_end", fe0 258 (meth 12 18) .none "Lexer.operator", fe0 294 (meth 13 2) .none "Cursor.take", fe0 301 (meth 13 3) .none "Cursor.is_op", fe0 315 (meth 13 5) .none "Cursor.accept_op", fe0 329 (meth 13 7) .none "Cursor.expect_op", fe0 343 (meth 13 9) .none "Cursor.expect_id", fe0 68 (meth 5 0) .none "Token.__init__", fe0 132 (meth 12 0) (.ref 125) "Lexer.__init__", fe0 279 (meth 13 0) .none "Cursor.__init__", fe1 365 (top 15) .none "mask", fe1 373 (top 16) (.ref 366) "vec", fe1 380 (top 17) .none "code", fe1 387 (top 18) .none "bits_text", fe2 394 (top 22) .none "digit_bits", fe2 401 (top 23) .none "decimal_value", fe2 408 (top 24) .none "size_value", fe2 415 (top 25) .none "digit_pair", fe2 422 (top 26) .none "grouped", fe2 429 (top 27) .none "padded_vec", fe2 436 (top 28) .none "numeral", fe2 443 (top 29) .none "numeral_text", fe3 450 (top 31) .none "precedence", fe3 457 (top 32) .none "is_unary", fe3 464 (top 33) .none "plain_operator", fe3 478 (meth 34 0) .none "ExprParser.expression", fe3 485 (meth 34 1) .none "ExprParser.binary", fe3 492 (meth 34 2) .none "ExprParser.unary", fe3 499 (meth 34 3) .none "ExprParser.primary", fe3 506 (meth 34 4) .none "ExprParser.named_primary", fe3 513 (meth 34 5) .none "ExprParser.braces", fe3 520 (meth 34 6) .none "ExprParser.expression_list", fe3 527 (meth 34 7) .none "ExprParser.arguments", fe3 534 (meth 34 8) .none "ExprParser.mintypmax", fe3 541 (meth 34 9) .none "ExprParser.reference", fe3 548 (meth 34 10) .none "ExprParser.path_term", fe3 555 (meth 34 11) .none "ExprParser.selects", fe3 562 (meth 34 12) .none "ExprParser.bracket", fe3 569 (meth 34 13) .none "ExprParser.with_select", fe4 623 (top 36) .none "is_simple_name", fe4 630 (top 37) .none "id_text", fe4 637 (top 38) .none "string_literal", fe4 644 (top 39) .none "rank", fe4 651 (top 40) .none "operand_text", fe4 658 (top 41) .none "list_text", fe4 665 (top 42) .none "path_text", fe4 672 (top 43) .none "select_text", fe4 679 (top 44) .none "expr_text", fe5 686 (top 46) .none "_law_pool", fe5 693 (top 47) .none "_law_pick", fe5 700 (top 48) .none "_law_name", fe5 707 (top 49) .none "_law_id", fe5 714 (top 50) .none "_law_number", fe5 721 (top 51) .none "_law_path", fe5 728 (top 52) .none "_law_select", fe5 733 (top 53) .none "_law_some", fe5 738 (top 54) .none "_law_expr", fe5 743 (top 55) .none "_law_bare", fe5 750 (top 56) .none "law"]
noncomputable def clsO (x : Str) (b : Value) (mro : List Value) (ns : Addr) (t u : Tok) (s : Option Value) : Obj := { cls := .type "type", data := .cls { name := x, bases := [b], mro := mro, ns := ns, qualname := x, subclasses := if x = "Cursor" then [.ref 614] else [] }, slots := #[s, none, some (.str x t), some (.str x u), some (.builtin "object.__new__"), some (.bool true)] }
noncomputable def fixAt : List Addr := [sysModules, mainNs, 70, 71, 260, 261, 353, 354, 613, 614, 125, 366]
noncomputable def fixO (P : Params) : List Obj := [boot_o_1 P,
  dictOf [en P "__name__" 165 (.str "law_nn0335_01" 1089), en P "__doc__" 166 .none, en P "__package__" 167 .none, en P "__loader__" 168 (.builtin "__main__.__loader__#opaque"), en P "__spec__" 169 .none, en P "__annotations__" 170 (.ref 6), en P "__builtins__" 171 (.ref 4), en P "__file__" 173 (.str "/claim/cut.py" 172), en P "__cached__" 174 .none, en P "_wall" 193 (.ref 21), en P "GateloomError" 231 (.ref 39), en P "SourceError" 247 (.ref 52), en P "Token" 282 (.ref 71), en P "keywords" 291 (.ref 82), en P "is_letter" 298 (.ref 89), en P "is_digit" 305 (.ref 96), en P "is_word_char" 312 (.ref 103), en P "is_layout" 319 (.ref 110), en P "fits_base" 329 (.ref 117), en P "Lexer" 533 (.ref 261), en P "Cursor" 647 (.ref 354), en P "mask" 656 (.ref 365), en P "vec" 667 (.ref 373), en P "code" 675 (.ref 380), en P "bits_text" 685 (.ref 387), en P "MOST_BITS" 689 (.int 65536 688), en P "PLAIN_BITS" 691 (.int 32 690), en P "digit_bits" 698 (.ref 394), en P "decimal_value" 707 (.ref 401), en P "size_value" 716 (.ref 408), en P "digit_pair" 724 (.ref 415), en P "grouped" 739 (.ref 422), en P "padded_vec" 751 (.ref 429), en P "numeral" 769 (.ref 436), en P "numeral_text" 782 (.ref 443), en P "precedence" 791 (.ref 450), en P "is_unary" 798 (.ref 457), en P "plain_operator" 805 (.ref 464), en P "ExprParser" 1006 (.ref 614), en P "is_simple_name" 1018 (.ref 623), en P "id_text" 1025 (.ref 630), en P "string_literal" 1035 (.ref 637), en P "rank" 1042 (.ref 644), en P "operand_text" 1050 (.ref 651), en P "list_text" 1059 (.ref 658), en P "path_text" 1070 (.ref 665), en P "select_text" 1079 (.ref 672), en P "expr_text" 1088 (.ref 679), en P "_law_pool" 1103 (.ref 686), en P "_law_pick" 1112 (.ref 693), en P "_law_name" 1119 (.ref 700), en P "_law_id" 1126 (.ref 707), en P "_law_number" 1136 (.ref 714), en P "_law_path" 1148 (.ref 721), en P "_law_select" 1160 (.ref 728), en P "_law_some" 1166 (.ref 733), en P "_law_expr" 1172 (.ref 738), en P "_law_bare" 1178 (.ref 743), en P "law" 1188 (.ref 750)] 59,
  dictOf [en P "__module__" 257 (.str "gateloom.tokens" 248), en P "__firstlineno__" 261 (.int 14 260), en P "__init__" 271 (.ref 68), en P "__static_attributes__" 275 (.ref 69), en P "__dict__" 277 (.ref 72), en P "__weakref__" 279 (.ref 73), en P "__doc__" 280 .none] 4,
  clsO "Token" (.type "object") [.ref 71, .type "object"] 70 250 258 none,
  dictOf [en P "__module__" 337 (.str "gateloom.tokens" 248), en P "__firstlineno__" 341 (.int 50 340), en P "__init__" 351 (.ref 132), en P "char" 359 (.ref 139), en P "pair" 367 (.ref 146), en P "past_layout" 375 (.ref 153), en P "next_token" 384 (.ref 160), en P "skip" 393 (.ref 167), en P "skip_row" 400 (.ref 174), en P "skip_remark" 408 (.ref 181), en P "skip_attribute" 418 (.ref 188), en P "word" 428 (.ref 195), en P "escaped" 437 (.ref 202), en P "system" 446 (.ref 209), en P "number" 457 (.ref 216), en P "is_real" 465 (.ref 223), en P "based" 481 (.ref 230), en P "string" 492 (.ref 237), en P "escape" 504 (.ref 244), en P "escape_end" 513 (.ref 251), en P "operator" 522 (.ref 258), en P "__static_attributes__" 526 (.ref 259), en P "__dict__" 528 (.ref 262), en P "__weakref__" 530 (.ref 263), en P "__doc__" 531 .none] 4,
  clsO "Lexer" (.type "object") [.ref 261, .type "object"] 260 330 338 none,
  dictOf [en P "__module__" 541 (.str "gateloom.tokens" 248), en P "__firstlineno__" 545 (.int 254 544), en P "__init__" 553 (.ref 279), en P "peek" 562 (.ref 287), en P "take" 570 (.ref 294), en P "is_op" 578 (.ref 301), en P "is_key" 586 (.ref 308), en P "accept_op" 594 (.ref 315), en P "accept_key" 602 (.ref 322), en P "expect_op" 610 (.ref 329), en P "expect_key" 618 (.ref 336), en P "expect_id" 625 (.ref 343), en P "fail" 635 (.ref 351), en P "__static_attributes__" 640 (.ref 352), en P "__dict__" 642 (.ref 355), en P "__weakref__" 644 (.ref 356), en P "__doc__" 645 .none] 4,
  clsO "Cursor" (.type "object") [.ref 354, .type "object"] 353 534 542 none,
  dictOf [en P "__module__" 813 (.str "gateloom.exprparse" 783), en P "__firstlineno__" 817 (.int 424 816), en P "expression" 829 (.ref 478), en P "binary" 842 (.ref 485), en P "unary" 853 (.ref 492), en P "primary" 868 (.ref 499), en P "named_primary" 876 (.ref 506), en P "braces" 886 (.ref 513), en P "expression_list" 894 (.ref 520), en P "arguments" 902 (.ref 527), en P "mintypmax" 911 (.ref 534), en P "reference" 922 (.ref 541), en P "path_term" 931 (.ref 548), en P "selects" 939 (.ref 555), en P "bracket" 949 (.ref 562), en P "with_select" 958 (.ref 569), en P "lvalue" 967 (.ref 576), en P "name_path" 974 (.ref 583), en P "range_or_none" 981 (.ref 590), en P "delay_value" 988 (.ref 597), en P "delay" 995 (.ref 604), en P "delays" 1002 (.ref 611), en P "__static_attributes__" 1003 (.ref 612), en P "__doc__" 1004 .none] 2,
  clsO "ExprParser" (.ref 354) [.ref 614, .ref 354, .type "object"] 613 806 814 (some (.ref 465)),
  { cls := .type "tuple", data := .seq #[.int 0 342] 0 },
  { cls := .type "tuple", data := .seq #[.int 0 657] 0 }]
noncomputable def KK (P : Params) : Frag := (fixAt.zip (fixO P)) ++ FL.map fun e => (e.a, e.obj)
noncomputable def asK : List Addr := fixAt ++ FL.map (·.a)
noncomputable def codeOk (h : Heap) (a : Addr) (q : Str) : Bool := match h.get? a with
  | some o => (match o.data with
    | Data.fields vs => (match vs[1]? with
      | some (Value.str x _) => x == q
      | _ => false)
    | _ => false)
  | none => false
theorem codeOk_of {h : Heap} {a : Addr} {q : Str} (e : codeOk h a q = true) : h.CodeRec (.ref a) q := by
  unfold codeOk at e
  split at e
  · rename_i o ho
    split at e
    · rename_i vs hd
      split at e
      · rename_i x t hv
        obtain rfl := beq_iff_eq.mp e
        exact ⟨a, o, vs, t, rfl, ho, hd, hv⟩
      · cases e
    · cases e
  · cases e
noncomputable def obsK (s : Shared) : List (Option Obj) × Bool := (asK.map s.heap.get?, FL.all fun e => codeOk s.heap (e.a - 1) e.q)
noncomputable def valK (w : World) : List (Option Obj) × Bool := ((KK w.params).map fun p => some p.2, true)
structure SaysK (w : World) (h : Heap) : Prop where
  inK : (KK w.params).In h
  codes : ∀ e ∈ FL, h.CodeRec (.ref (e.a - 1)) e.q
theorem SaysK.of (w : World) (s : Shared) (e : obsK s = valK w) : SaysK w s.heap := by
  obtain ⟨e1, e2⟩ := Prod.mk.inj e
  exact ⟨Frag.in_of (show asK = (KK w.params).map (·.1) by kernel_rfl) e1, fun e he => codeOk_of (List.all_eq_true.mp e2 e he)⟩
theorem SaysK.keeps (w : World) (h h' : Heap) (x : SaysK w h) (k : ∀ b o, h.get? b = some o → h'.get? b = some o) : SaysK w h' := ⟨x.inK.keeps k, fun e he => (x.codes e he).keeps k⟩
noncomputable def qq : Program := { PP with main := { PP.main with body := [top 56] } }
noncomputable def loose0 : List Str := (PP.boundNames.filter fun n => n != "law")
noncomputable def look0 (w : World) (s : Shared) := ((staticsOk (importedModules PP.main.body) (boot_heap w.params) s.heap && namesBound PP s.heap && gensDone s && laidKept (boot_heap w.params) s.heap), openSeen qq loose0 (importedModules PP.main.body) (fun _ => true) true s, obsK s)
theorem run0 (w : World) (os : OsState) : (Fast.tw10110043849684766642 Fast.tw14364793385576792824 PP w 11 (some (.ref 6)) 1 4400 (s8 w os) (piecesOf body0 env0 code0 pos0 B0)).map (fun r => (r.1, r.2.2, look0 w r.2.1.abs)) = some (.next, (code0, ⟨787, 0, 791, 80⟩), (true, openGood qq loose0, valK w)) := by kernel_rfl
theorem run1 (w : World) (os : OsState) : (segRunT treeTable PP w 11 (some (.ref 6)) 1 4400 (s8 w os) (piecesOf body0 env0 code0 pos0 B0)).map (fun r => (r.1, r.2.2, look0 w r.2.1.abs)) = some (.next, (code0, ⟨787, 0, 791, 80⟩), (true, openGood qq loose0, valK w)) := by
  have h := run0 w os
  rw [← Fast.te10110043849684766642, ← Fast.te14364793385576792824] at h
  exact h
theorem left0 : LeftO PP qq loose0 (fun _ => true) obsK valK 5000 true := by
  refine left_ex (M := 12 + (2 + (4400 + 2))) open0 size0 (fun w os => ?_) (by decide)
  obtain ⟨⟨f, s, c, p⟩, h1, h2⟩ := Option.map_eq_some_iff.mp (run1 w os)
  simp only [Prod.mk.injEq] at h2
  obtain ⟨rfl, ⟨rfl, rfl⟩, h3⟩ := h2
  obtain ⟨h4, h5⟩ := Prod.mk.inj h3
  obtain ⟨h5, h6⟩ := Prod.mk.inj h5
  refine ⟨s.abs, ?_, h4, h5, h6⟩
  refine go_top (pre0 w os) (piece_block (block0 w os) ?_)
  have e : body0 = body0 ++ [] := (List.append_nil _).symm
  have k := piece_app (segRun_of h1) (rest := []) (piece_nil (fin0 w s.abs ⟨787, 0, 791, 80⟩))
  rw [List.append_nil] at k
  exact k
set_option tactic.hygienic false
section
variable {k : V → Prop} {kb : Bool → Prop} {kl : List Nat → Prop} {a b : Int} {x y : List Nat} {us vs : List V} {σ : Store} {l : Addr} {n : Nat}
theorem P_add (h : k (.int (a + b))) : BinP .Add (.int a) (.int b) k := .add h
theorem P_sub (h : k (.int (a - b))) : BinP .Sub (.int a) (.int b) k := .sub h
theorem P_mul (h0 : IntMulOk a b) (h : k (.int (a * b))) : BinP .Mult (.int a) (.int b) k := .mul h0 h
theorem noPy {a b : Int} (h : b.natAbs < 2 ^ 30) : Builtin.divisionGoesByPylong a b = false := by
  have e : (if b == 0 then 0 else b.natAbs.log2 / 30 + 1) ≤ 300 := by
    split
    · omega
    · rename_i q
      have : b.natAbs.log2 < 30 := (Nat.log2_lt (by intro z; apply q; simp; omega)).mpr h
      omega
  unfold Builtin.divisionGoesByPylong
  simp only [Bool.and_eq_false_iff, decide_eq_false_iff_not]
  exact .inl (by omega)
theorem P_fdiv (h0 : b ≠ 0) (h1 : b.natAbs < 2 ^ 30) (h : k (.int (a.fdiv b))) : BinP .FloorDiv (.int a) (.int b) k := .fdiv h0 (noPy h1) h
theorem P_mod (h0 : b ≠ 0) (h : k (.int (a.fmod b))) : BinP .Mod (.int a) (.int b) k := .fmod h0 h
theorem P_shl (h0 : 0 ≤ b ∧ (Builtin.Int.intBits a : Int) + b ≤ 2 ^ 27) (h : k (.int (a * 2 ^ b.toNat))) : BinP .LShift (.int a) (.int b) k := .shl h0 h
theorem P_shr (h0 : 0 ≤ b) (h : k (.int (a.fdiv (2 ^ b.toNat)))) : BinP .RShift (.int a) (.int b) k := .shr h0 h
theorem P_and (h : k (.int (Builtin.bitAnd a b))) : BinP .BitAnd (.int a) (.int b) k := .band h
theorem P_or (h : k (.int (Builtin.bitOr a b))) : BinP .BitOr (.int a) (.int b) k := .bor h
theorem P_xor (h : k (.int (Builtin.bitXor a b))) : BinP .BitXor (.int a) (.int b) k := .bxor h
theorem P_addS (h0 : x.length + y.length ≤ sizeLine) (h : k (.str (x ++ y))) : BinP .Add (.str x) (.str y) k := .addS h0 h
theorem P_addT (h0 : us ≠ [] ∧ vs ≠ [] ∧ us.length + vs.length ≤ sizeLine) (h : k (.tup (us ++ vs))) : BinP .Add (.tup us) (.tup vs) k := .addT h0 h
theorem C_eqI (h : kb (decide (a = b))) : CmpP .Eq (.int a) (.int b) σ kb := .eqI h
theorem C_neI (h : kb (!decide (a = b))) : CmpP .NotEq (.int a) (.int b) σ kb := .neI h
theorem C_ltI (h : kb (decide (a < b))) : CmpP .Lt (.int a) (.int b) σ kb := .ltI h
theorem C_leI (h : kb (decide (a ≤ b))) : CmpP .LtE (.int a) (.int b) σ kb := .leI h
theorem C_gtI (h : kb (decide (b < a))) : CmpP .Gt (.int a) (.int b) σ kb := .gtI h
theorem C_geI (h : kb (decide (b ≤ a))) : CmpP .GtE (.int a) (.int b) σ kb := .geI h
theorem C_eqS (h : kb (decide (x = y))) : CmpP .Eq (.str x) (.str y) σ kb := .eqS h
theorem C_neS (h : kb (!decide (x = y))) : CmpP .NotEq (.str x) (.str y) σ kb := .neS h
theorem C_ltS (h : kb (decide (x < y))) : CmpP .Lt (.str x) (.str y) σ kb := .ltS h
theorem C_leS (h : kb (!decide (y < x))) : CmpP .LtE (.str x) (.str y) σ kb := .leS h
theorem C_gtS (h : kb (decide (y < x))) : CmpP .Gt (.str x) (.str y) σ kb := .gtS h
theorem C_geS (h : kb (!decide (x < y))) : CmpP .GtE (.str x) (.str y) σ kb := .geS h
theorem C_inS (h : kb (y.contains n)) : CmpP .In (.str [n]) (.str y) σ kb := .inS h
theorem C_niS (h : kb (!y.contains n)) : CmpP .NotIn (.str [n]) (.str y) σ kb := .niS h
theorem C_inT {ls : List (List Nat)} (e : strsOf vs = some ls) (h : kb (ls.contains x)) : CmpP .In (.str x) (.tup vs) σ kb := .inT e h
theorem C_niT {ls : List (List Nat)} (e : strsOf vs = some ls) (h : kb (!ls.contains x)) : CmpP .NotIn (.str x) (.tup vs) σ kb := .niT e h
theorem C_inL {ls : List (List Nat)} (hs : σ l = some (.list vs)) (e : strsOf vs = some ls) (h : kb (ls.contains x)) : CmpP .In (.str x) (.lst l) σ kb := .inL hs e h
theorem C_niL {ls : List (List Nat)} (hs : σ l = some (.list vs)) (e : strsOf vs = some ls) (h : kb (!ls.contains x)) : CmpP .NotIn (.str x) (.lst l) σ kb := .niL hs e h
theorem C_inD {ks : List (List Nat)} (hs : σ l = some (.map ks)) (h : kb (ks.contains x)) : CmpP .In (.str x) (.dct l) σ kb := .inD hs h
theorem C_niD {ks : List (List Nat)} (hs : σ l = some (.map ks)) (h : kb (!ks.contains x)) : CmpP .NotIn (.str x) (.dct l) σ kb := .niD hs h
theorem C_is {u : V} (e : ∀ x, u ≠ .val x) (h : kb (isNone u)) : CmpP .Is u .none σ kb := .is e h
theorem C_isn {u : V} (e : ∀ x, u ≠ .val x) (h : kb (!isNone u)) : CmpP .IsNot u .none σ kb := .isn e h
theorem T_bool {b : Bool} (h : kb b) : TruthP (.bool b) σ kb := h
theorem T_none (h : kb false) : TruthP .none σ kb := h
theorem T_tup (h0 : us.length < 2 ^ 24) (h : kb (!us.isEmpty)) : TruthP (.tup us) σ kb := ⟨h0, h⟩
theorem I_tup {i : Int} {v : V} (h0 : 0 ≤ i ∧ i < 2 ^ 62) (e : us[i.toNat]? = some v) (h : k v) : ItemP (.tup us) (.int i) σ k := .tup h0 e h
theorem I_lst {i : Int} {v : V} (hs : σ l = some (.list us)) (h0 : 0 ≤ i ∧ i < 2 ^ 62) (e : us[i.toNat]? = some v) (h : k v) : ItemP (.lst l) (.int i) σ k := .lst h0 hs e h
theorem I_str {i : Int} (h0 : 0 ≤ i ∧ i < 2 ^ 62) (e : x[i.toNat]? = some n) (h : k (.str [n])) : ItemP (.str x) (.int i) σ k := .str h0 e h
theorem F_str (h0 : x.length ≤ sizeLine) (h : kl x) : FmtP (.str x) kl := ⟨h0, h⟩
theorem F_int (h0 : a.natAbs.log2 < 1920) (h : kl (intText a)) : FmtP (.int a) kl := ⟨h0, h⟩
theorem S_str (h : kl x) : StrP (.str x) kl := h
theorem A_add (h : k (.int (a + b))) : AugP .Add (.int a) (.int b) k := .add h
theorem A_sub (h : k (.int (a - b))) : AugP .Sub (.int a) (.int b) k := .sub h
theorem A_fdiv (h0 : b ≠ 0) (h1 : b.natAbs < 2 ^ 30) (h : k (.int (a.fdiv b))) : AugP .FloorDiv (.int a) (.int b) k := .fdiv ⟨h0, noPy h1⟩ h
theorem G_name {sc : Scope} {z : Str} {p : Pos} {u : V} {ρ : Locals} {kr : Locals → Prop} (h0 : okLocal sc z = true) (h : kr ((z, u) :: ρ)) : TgtP sc (.Name z p) u ρ kr := .name h0 h
theorem G_tup {sc : Scope} {es : List Expr} {j : Nat} {p : Pos} {ρ : Locals} {kr : Locals → Prop} (h0 : TgtP.namesOK sc es = true) (h1 : us.length = es.length) (h : kr (TgtP.bindAll es us ρ)) : TgtP sc (.Tuple es j p) (.tup us) ρ kr := .tup h0 h1 h
theorem R_ret {Q : V → Store → Prop} {v : V} {ρ : Locals} (h : Q v σ) : RetP Q (.ret v) ρ σ := h
theorem R_next {Q : V → Store → Prop} {ρ : Locals} (h : Q .none σ) : RetP Q .next ρ σ := h
theorem N_next {Q : Fl → Locals → Store → Prop} {kk : Locals → Store → Prop} {ρ : Locals} (h : kk ρ σ) : Thn Q kk .next ρ σ := h
theorem N_ret {Q : Fl → Locals → Store → Prop} {kk : Locals → Store → Prop} {ρ : Locals} {v : V} (h : Q (.ret v) ρ σ) : Thn Q kk (.ret v) ρ σ := h
theorem N_brk {Q : Fl → Locals → Store → Prop} {kk : Locals → Store → Prop} {ρ : Locals} (h : Q .brk ρ σ) : Thn Q kk .brk ρ σ := h
theorem L_next {Q : Fl → Locals → Store → Prop} {kk : Locals → Store → Prop} {ρ : Locals} (h : kk ρ σ) : Lp Q kk .next ρ σ := h
theorem L_ret {Q : Fl → Locals → Store → Prop} {kk : Locals → Store → Prop} {ρ : Locals} {v : V} (h : Q (.ret v) ρ σ) : Lp Q kk (.ret v) ρ σ := h
theorem L_brk {Q : Fl → Locals → Store → Prop} {kk : Locals → Store → Prop} {ρ : Locals} (h : Q .next ρ σ) : Lp Q kk .brk ρ σ := h
theorem lk_hit {z : Str} {u : V} {r : Locals} : lk z ((z, u) :: r) = some u := if_pos rfl
theorem lk_skip {z w : Str} {u v : V} {r : Locals} (h : (z == w) = false) (t : lk z r = some u) : lk z ((w, v) :: r) = some u := (if_neg (beq_eq_false_iff_ne.mp h)).trans t
end
noncomputable def Keep (σ σ' : Store) : Prop := ∀ a, σ a ≠ none → σ' a = σ a
theorem Keep.refl (σ : Store) : Keep σ σ := fun _ _ => rfl
theorem Keep.trans {σ σ₁ σ₂ : Store} (x : Keep σ σ₁) (y : Keep σ₁ σ₂) : Keep σ σ₂ := fun a h => (y a (by rw [x a h]; exact h)).trans (x a h)
theorem Keep.set {σ σ₁ : Store} {a : Addr} {o : AO} (x : Keep σ σ₁) (h : σ a = none) : Keep σ (σ₁.set a o) := fun b hb => (Store.set_ne _ _ fun z : b = a => hb (by rw [z]; exact h)).trans (x b hb)
theorem Keep.set1 {σ : Store} {a : Addr} {o : AO} (h : σ a = none) : Keep σ (σ.set a o) := (Keep.refl σ).set h
theorem Keep.del {σ σ₁ : Store} {a : Addr} (x : Keep σ σ₁) (h : σ a = none) : Keep σ (σ₁.del a) := fun b hb => (if_neg fun z : b = a => hb (by rw [z]; exact h)).trans (x b hb)
theorem Keep.at {σ σ' : Store} {a : Addr} {o : AO} (x : Keep σ σ') (h : σ a = some o) : σ' a = some o := (x a (some_ne h)).trans h
theorem Keep.free {σ σ' : Store} {a : Addr} (x : Keep σ σ') (h : σ' a = none) : σ a = none := by
  cases q : σ a with
  | none => rfl
  | some o => rw [x.at q] at h; cases h
theorem Stp.clear {c : Cx} {X : Addr → Prop} {σ σ' : Store} {s s' : Shared} (x : Stp c X σ s σ' s') (k : Keep σ σ') : Stp c X σ s σ s' := by
  refine ⟨⟨x.base.ground, fun b bo e => x.base.objs b bo (k.at e), fun b bo e => x.base.off b bo (k.at e), x.base.gens, x.base.os⟩, x.live, x.keep, fun b h => .inl h⟩
section
variable {c : Cx} {d : Nat} {σ : Store} {Q : V → Store → Prop}
noncomputable abbrev kKp (σ : Store) (Q : V → Store → Prop) : V → Store → Prop := fun v σ' => Keep σ σ' ∧ Q v σ
theorem CV.pure {f : Value} {us : List V} (h : CV c d f us σ (kKp σ Q)) : CV c d f us σ Q := by
  unfold CV at h ⊢
  exact fun A s vs R B r => wpAny_mono (h A s vs R B r) (fun v s' ⟨u, σ', ru, st, k, q⟩ => ⟨u, σ, ru, st.clear k, q⟩) fun _ _ z => z
theorem CF.pure {x : Str} {us : List V} (h : CF c d x us σ (kKp σ Q)) : CF c d x us σ Q := let ⟨f, a, b⟩ := h; ⟨f, a, b.pure⟩
theorem MC.pure {k : Cls} {x : Str} {us : List V} (h : MC c d k x us σ (kKp σ Q)) : MC c d k x us σ Q := let ⟨f, a, b⟩ := h; ⟨f, a, b.pure⟩
end
noncomputable def biNames : List (Str × Value) := [("len", .builtin "len"), ("ord", .builtin "ord"), ("chr", .builtin "chr"), ("abs", .builtin "abs"), ("max", .builtin "max"), ("isinstance", .builtin "isinstance"), ("str", .type "str"), ("int", .type "int"), ("range", .type "range"), ("tuple", .type "tuple"), ("reversed", .type "reversed")]
noncomputable def fields : List (Cls × Str) := [(.token, "kind"), (.token, "value"), (.token, "at"), (.lexer, "text"), (.lexer, "at"), (.lexer, "keys"), (.parser, "source"), (.parser, "ahead"), (.parser, "token"), (.parser, "at")]
noncomputable def DEFLT (c : Cx) (dv : Value) : Prop := ∃ T o t n, dv = .ref T ∧ c.g.get? T = some o ∧ o.data = .seq #[.int 0 t] n
structure Txt (c : Cx) : Prop where
  OK : CxOK c
  bi : ∀ p ∈ biNames, GV c p.1 p.2
  most : ∃ t, c.mg "MOST_BITS" = some (.int 65536 t)
  plain : ∃ t, c.mg "PLAIN_BITS" = some (.int 32 t)
  token : c.mg "Token" = some (.ref (c.C .token)) ∧ keepIn c.K (.ref (c.C .token)) = true
  lexer : c.mg "Lexer" = some (.ref (c.C .lexer)) ∧ keepIn c.K (.ref (c.C .lexer)) = true
  parser : c.mg "ExprParser" = some (.ref (c.C .parser)) ∧ keepIn c.K (.ref (c.C .parser)) = true
  fld : ∀ p ∈ fields, fieldOK c.K (c.C p.1) p.2 = true ∧ setOK c.K (c.C p.1) p.2 = true
  iToken : HasI c .token (meth 5 0)
  iLexer : HasI c .lexer (meth 12 0) (DEFLT c)
  iParser : HasI c .parser (meth 13 0)
  f_keywords : HasF c "keywords" (top 6)
  f_is_letter : HasF c "is_letter" (top 7)
  f_is_digit : HasF c "is_digit" (top 8)
  f_is_word_char : HasF c "is_word_char" (top 9)
  f_is_layout : HasF c "is_layout" (top 10)
  f_fits_base : HasF c "fits_base" (top 11)
  m_char : HasM c .lexer "char" (meth 12 1)
  m_pair : HasM c .lexer "pair" (meth 12 2)
  m_past_layout : HasM c .lexer "past_layout" (meth 12 3)
  m_next_token : HasM c .lexer "next_token" (meth 12 4)
  m_skip : HasM c .lexer "skip" (meth 12 5)
  m_word : HasM c .lexer "word" (meth 12 9)
  m_escaped : HasM c .lexer "escaped" (meth 12 10)
  m_system : HasM c .lexer "system" (meth 12 11)
  m_number : HasM c .lexer "number" (meth 12 12)
  m_is_real : HasM c .lexer "is_real" (meth 12 13)
  m_based : HasM c .lexer "based" (meth 12 14)
  m_string : HasM c .lexer "string" (meth 12 15)
  m_escape : HasM c .lexer "escape" (meth 12 16)
  m_escape_end : HasM c .lexer "escape_end" (meth 12 17)
  m_operator : HasM c .lexer "operator" (meth 12 18)
  m_take : HasM c .parser "take" (meth 13 2)
  m_is_op : HasM c .parser "is_op" (meth 13 3)
  m_accept_op : HasM c .parser "accept_op" (meth 13 5)
  m_expect_op : HasM c .parser "expect_op" (meth 13 7)
  m_expect_id : HasM c .parser "expect_id" (meth 13 9)
  f_mask : HasF c "mask" (top 15)
  f_vec : HasF c "vec" (top 16) (DEFLT c)
  f_code : HasF c "code" (top 17)
  f_bits_text : HasF c "bits_text" (top 18)
  f_digit_bits : HasF c "digit_bits" (top 22)
  f_decimal_value : HasF c "decimal_value" (top 23)
  f_size_value : HasF c "size_value" (top 24)
  f_digit_pair : HasF c "digit_pair" (top 25)
  f_grouped : HasF c "grouped" (top 26)
  f_padded_vec : HasF c "padded_vec" (top 27)
  f_numeral : HasF c "numeral" (top 28)
  f_numeral_text : HasF c "numeral_text" (top 29)
  f_precedence : HasF c "precedence" (top 31)
  f_is_unary : HasF c "is_unary" (top 32)
  f_plain_operator : HasF c "plain_operator" (top 33)
  m_expression : HasM c .parser "expression" (meth 34 0)
  m_binary : HasM c .parser "binary" (meth 34 1)
  m_unary : HasM c .parser "unary" (meth 34 2)
  m_primary : HasM c .parser "primary" (meth 34 3)
  m_named_primary : HasM c .parser "named_primary" (meth 34 4)
  m_braces : HasM c .parser "braces" (meth 34 5)
  m_expression_list : HasM c .parser "expression_list" (meth 34 6)
  m_arguments : HasM c .parser "arguments" (meth 34 7)
  m_mintypmax : HasM c .parser "mintypmax" (meth 34 8)
  m_reference : HasM c .parser "reference" (meth 34 9)
  m_path_term : HasM c .parser "path_term" (meth 34 10)
  m_selects : HasM c .parser "selects" (meth 34 11)
  m_bracket : HasM c .parser "bracket" (meth 34 12)
  m_with_select : HasM c .parser "with_select" (meth 34 13)
  f_is_simple_name : HasF c "is_simple_name" (top 36)
  f_id_text : HasF c "id_text" (top 37)
  f_string_literal : HasF c "string_literal" (top 38)
  f_rank : HasF c "rank" (top 39)
  f_operand_text : HasF c "operand_text" (top 40)
  f_list_text : HasF c "list_text" (top 41)
  f_path_text : HasF c "path_text" (top 42)
  f_select_text : HasF c "select_text" (top 43)
  f_expr_text : HasF c "expr_text" (top 44)
  f_law_pool : HasF c "_law_pool" (top 46)
  f_law_pick : HasF c "_law_pick" (top 47)
  f_law_name : HasF c "_law_name" (top 48)
  f_law_id : HasF c "_law_id" (top 49)
  f_law_number : HasF c "_law_number" (top 50)
  f_law_path : HasF c "_law_path" (top 51)
  f_law_select : HasF c "_law_select" (top 52)
  f_law_some : HasF c "_law_some" (top 53)
  f_law_expr : HasF c "_law_expr" (top 54)
  f_law_bare : HasF c "_law_bare" (top 55)
  f_law : HasF c "law" (top 56)
noncomputable def knNames : List Str := [("keywords" : Str), ("is_letter" : Str), ("is_digit" : Str), ("is_word_char" : Str), ("is_layout" : Str), ("fits_base" : Str), ("mask" : Str), ("vec" : Str), ("code" : Str), ("bits_text" : Str), ("digit_bits" : Str), ("decimal_value" : Str), ("size_value" : Str), ("digit_pair" : Str), ("grouped" : Str), ("padded_vec" : Str), ("numeral" : Str), ("numeral_text" : Str), ("precedence" : Str), ("is_unary" : Str), ("plain_operator" : Str), ("is_simple_name" : Str), ("id_text" : Str), ("string_literal" : Str), ("rank" : Str), ("operand_text" : Str), ("list_text" : Str), ("path_text" : Str), ("select_text" : Str), ("expr_text" : Str), ("_law_pool" : Str), ("_law_pick" : Str), ("_law_name" : Str), ("_law_id" : Str), ("_law_number" : Str), ("_law_path" : Str), ("_law_select" : Str), ("_law_some" : Str), ("_law_expr" : Str), ("_law_bare" : Str), ("law" : Str), ("Token" : Str), ("Lexer" : Str), ("ExprParser" : Str)]
theorem Txt.kn {c : Cx} (T : Txt c) (x : Str) (h : (knNames ++ biNames.map (·.1)).contains x = true) : Known c x := by
  rw [List.contains_iff_mem, List.mem_append] at h
  rcases h with h | h
  · have all : ∀ y ∈ knNames, Known c y := by
      unfold knNames
      simp only [List.forall_mem_cons]
      exact ⟨T.f_keywords.known, T.f_is_letter.known, T.f_is_digit.known, T.f_is_word_char.known, T.f_is_layout.known, T.f_fits_base.known, T.f_mask.known, T.f_vec.known, T.f_code.known, T.f_bits_text.known, T.f_digit_bits.known, T.f_decimal_value.known, T.f_size_value.known, T.f_digit_pair.known, T.f_grouped.known, T.f_padded_vec.known, T.f_numeral.known, T.f_numeral_text.known, T.f_precedence.known, T.f_is_unary.known, T.f_plain_operator.known, T.f_is_simple_name.known, T.f_id_text.known, T.f_string_literal.known, T.f_rank.known, T.f_operand_text.known, T.f_list_text.known, T.f_path_text.known, T.f_select_text.known, T.f_expr_text.known, T.f_law_pool.known, T.f_law_pick.known, T.f_law_name.known, T.f_law_id.known, T.f_law_number.known, T.f_law_path.known, T.f_law_select.known, T.f_law_some.known, T.f_law_expr.known, T.f_law_bare.known, T.f_law.known, ⟨_, .inl T.token.1, .inr (.inr T.token.2)⟩, ⟨_, .inl T.lexer.1, .inr (.inr T.lexer.2)⟩, ⟨_, .inl T.parser.1, .inr (.inr T.parser.2)⟩, fun _ h => nomatch h⟩
    exact all x h
  · obtain ⟨p, hp, rfl⟩ := List.mem_map.mp h
    refine ⟨p.2, T.bi p hp, ?_⟩
    have all : ∀ p ∈ biNames, Kp c p.2 := by
      unfold biNames
      simp only [List.forall_mem_cons]
      exact ⟨.inl ⟨_, rfl⟩, .inl ⟨_, rfl⟩, .inl ⟨_, rfl⟩, .inl ⟨_, rfl⟩, .inl ⟨_, rfl⟩, .inl ⟨_, rfl⟩, .inr (.inl ⟨_, rfl⟩), .inr (.inl ⟨_, rfl⟩), .inr (.inl ⟨_, rfl⟩), .inr (.inl ⟨_, rfl⟩), .inr (.inl ⟨_, rfl⟩), fun _ h => nomatch h⟩
    exact all p hp
theorem Txt.gv {c : Cx} (T : Txt c) (p : Str × Value) (h : p ∈ biNames) : GV c p.1 p.2 := T.bi p h
noncomputable def mNames : List (Cls × Str) := [(Cls.lexer, ("char" : Str)), (Cls.lexer, ("pair" : Str)), (Cls.lexer, ("past_layout" : Str)), (Cls.lexer, ("next_token" : Str)), (Cls.lexer, ("skip" : Str)), (Cls.lexer, ("word" : Str)), (Cls.lexer, ("escaped" : Str)), (Cls.lexer, ("system" : Str)), (Cls.lexer, ("number" : Str)), (Cls.lexer, ("is_real" : Str)), (Cls.lexer, ("based" : Str)), (Cls.lexer, ("string" : Str)), (Cls.lexer, ("escape" : Str)), (Cls.lexer, ("escape_end" : Str)), (Cls.lexer, ("operator" : Str)), (Cls.parser, ("take" : Str)), (Cls.parser, ("is_op" : Str)), (Cls.parser, ("accept_op" : Str)), (Cls.parser, ("expect_op" : Str)), (Cls.parser, ("expect_id" : Str)), (Cls.parser, ("expression" : Str)), (Cls.parser, ("binary" : Str)), (Cls.parser, ("unary" : Str)), (Cls.parser, ("primary" : Str)), (Cls.parser, ("named_primary" : Str)), (Cls.parser, ("braces" : Str)), (Cls.parser, ("expression_list" : Str)), (Cls.parser, ("arguments" : Str)), (Cls.parser, ("mintypmax" : Str)), (Cls.parser, ("reference" : Str)), (Cls.parser, ("path_term" : Str)), (Cls.parser, ("selects" : Str)), (Cls.parser, ("bracket" : Str)), (Cls.parser, ("with_select" : Str))]
theorem Txt.km {c : Cx} (T : Txt c) (k : Cls) (x : Str) (h : mNames.contains (k, x) = true) : ∃ f, methOK c.K (c.C k) x f = true ∧ keepIn c.K (.ref f) = true := by
  rw [List.contains_iff_mem] at h
  have all : ∀ p ∈ mNames, ∃ f, methOK c.K (c.C p.1) p.2 f = true ∧ keepIn c.K (.ref f) = true := by
    unfold mNames
    simp only [List.forall_mem_cons]
    exact ⟨T.m_char.known, T.m_pair.known, T.m_past_layout.known, T.m_next_token.known, T.m_skip.known, T.m_word.known, T.m_escaped.known, T.m_system.known, T.m_number.known, T.m_is_real.known, T.m_based.known, T.m_string.known, T.m_escape.known, T.m_escape_end.known, T.m_operator.known, T.m_take.known, T.m_is_op.known, T.m_accept_op.known, T.m_expect_op.known, T.m_expect_id.known, T.m_expression.known, T.m_binary.known, T.m_unary.known, T.m_primary.known, T.m_named_primary.known, T.m_braces.known, T.m_expression_list.known, T.m_arguments.known, T.m_mintypmax.known, T.m_reference.known, T.m_path_term.known, T.m_selects.known, T.m_bracket.known, T.m_with_select.known, fun _ h => nomatch h⟩
  exact all _ h
theorem Txt.fr {c : Cx} (T : Txt c) (k : Cls) (x : Str) (h : fields.contains (k, x) = true) : fieldOK c.K (c.C k) x = true := (T.fld (k, x) (List.contains_iff_mem.mp h)).1
theorem Txt.fs {c : Cx} (T : Txt c) (k : Cls) (x : Str) (h : fields.contains (k, x) = true) : setOK c.K (c.C k) x = true := (T.fld (k, x) (List.contains_iff_mem.mp h)).2
set_option tactic.hygienic true
theorem WE_strE {c : Cx} {d : Nat} {sc : Scope} {ρ : Locals} {σ : Store} {Q : V → Store → Prop} {x : Str} {k : Nat} {p : Pos} {l : List Nat} (e : x.cps.toList = l) (h : Q (.str l) σ) : WE c d sc (.Constant (.str x) k p) ρ σ Q := WE_str (by rw [e]; exact h)
theorem ks_0 : (Str.ofString "gateloom.errors").cps.toList = [103, 97, 116, 101, 108, 111, 111, 109, 46, 101, 114, 114, 111, 114, 115] := by decide +kernel
theorem ks_1 : (Str.ofString "gateloom.tokens").cps.toList = [103, 97, 116, 101, 108, 111, 111, 109, 46, 116, 111, 107, 101, 110, 115] := by decide +kernel
theorem ks_2 : (Str.ofString "gateloom.vec").cps.toList = [103, 97, 116, 101, 108, 111, 111, 109, 46, 118, 101, 99] := by decide +kernel
theorem ks_3 : (Str.ofString "gateloom.numerals").cps.toList = [103, 97, 116, 101, 108, 111, 111, 109, 46, 110, 117, 109, 101, 114, 97, 108, 115] := by decide +kernel
theorem ks_4 : (Str.ofString "gateloom.exprparse").cps.toList = [103, 97, 116, 101, 108, 111, 111, 109, 46, 101, 120, 112, 114, 112, 97, 114, 115, 101] := by decide +kernel
theorem ks_5 : (Str.ofString "gateloom.exprtext").cps.toList = [103, 97, 116, 101, 108, 111, 111, 109, 46, 101, 120, 112, 114, 116, 101, 120, 116] := by decide +kernel
theorem ks_6 : (Str.ofString "law_nn0335_01").cps.toList = [108, 97, 119, 95, 110, 110, 48, 51, 51, 53, 95, 48, 49] := by decide +kernel
theorem ks_7 : (Str.ofString "always and assign automatic begin buf bufif0 bufif1 case casex casez cell cmos config deassign default defparam design disable edge else end endcase endconfig endfunction endgenerate endmodule endprimitive endspecify endtable endtask event for force forever fork function generate genvar highz0 highz1 if ifnone incdir include initial inout input instance integer join large liblist library localparam macromodule medium module nand negedge nmos nor noshowcancelled not notif0 notif1 or output parameter pmos posedge primitive pull0 pull1 pulldown pullup pulsestyle_onevent pulsestyle_ondetect rcmos real realtime reg release repeat rnmos rpmos rtran rtranif0 rtranif1 scalared showcancelled signed small specify specparam strong0 strong1 supply0 supply1 table task time tran tranif0 tranif1 tri tri0 tri1 triand trior trireg unsigned use uwire vectored wait wand weak0 weak1 while wire wor xnor xor").cps.toList = kwText := cps_of kw_lit kw_chars
theorem ks_8 : (Str.ofString "0123456789").cps.toList = [48, 49, 50, 51, 52, 53, 54, 55, 56, 57] := by decide +kernel
theorem ks_9 : (Str.ofString "01zx").cps.toList = [48, 49, 122, 120] := by decide +kernel
theorem ks_10 : (Str.ofString "'b").cps.toList = [39, 98] := by decide +kernel
theorem ks_11 : (Str.ofString ":").cps.toList = [58] := by decide +kernel
theorem ks_12 : (Str.ofString "").cps.toList = [] := by decide +kernel
theorem ks_13 : (Str.ofString " ").cps.toList = [32] := by decide +kernel
theorem ks_14 : (Str.ofString "b").cps.toList = [98] := by decide +kernel
theorem ks_15 : (Str.ofString "01xz?").cps.toList = [48, 49, 120, 122, 63] := by decide +kernel
theorem ks_16 : (Str.ofString "o").cps.toList = [111] := by decide +kernel
theorem ks_17 : (Str.ofString "0").cps.toList = [48] := by decide +kernel
theorem ks_18 : (Str.ofString "x").cps.toList = [120] := by decide +kernel
theorem ks_19 : (Str.ofString "'sb").cps.toList = [39, 115, 98] := by decide +kernel
theorem ks_20 : (Str.ofString "||").cps.toList = [124, 124] := by decide +kernel
theorem ks_21 : (Str.ofString "&&").cps.toList = [38, 38] := by decide +kernel
theorem ks_22 : (Str.ofString "|").cps.toList = [124] := by decide +kernel
theorem ks_23 : (Str.ofString "&").cps.toList = [38] := by decide +kernel
theorem ks_24 : (Str.ofString "**").cps.toList = [42, 42] := by decide +kernel
theorem ks_25 : (Str.ofString "^~").cps.toList = [94, 126] := by decide +kernel
theorem ks_26 : (Str.ofString "~^").cps.toList = [126, 94] := by decide +kernel
theorem ks_27 : (Str.ofString "index").cps.toList = [105, 110, 100, 101, 120] := by decide +kernel
theorem ks_28 : (Str.ofString "\"").cps.toList = [34] := by decide +kernel
theorem ks_29 : (Str.ofString "cond").cps.toList = [99, 111, 110, 100] := by decide +kernel
theorem ks_30 : (Str.ofString "bin").cps.toList = [98, 105, 110] := by decide +kernel
theorem ks_31 : (Str.ofString "un").cps.toList = [117, 110] := by decide +kernel
theorem ks_32 : (Str.ofString "up").cps.toList = [117, 112] := by decide +kernel
theorem ks_33 : (Str.ofString " +: ").cps.toList = [32, 43, 58, 32] := by decide +kernel
theorem ks_34 : (Str.ofString "[").cps.toList = [91] := by decide +kernel
theorem ks_35 : (Str.ofString "]").cps.toList = [93] := by decide +kernel
theorem ks_36 : (Str.ofString "num").cps.toList = [110, 117, 109] := by decide +kernel
theorem ks_37 : (Str.ofString "str").cps.toList = [115, 116, 114] := by decide +kernel
theorem ks_38 : (Str.ofString "id").cps.toList = [105, 100] := by decide +kernel
theorem ks_39 : (Str.ofString "path").cps.toList = [112, 97, 116, 104] := by decide +kernel
theorem ks_40 : (Str.ofString "cat").cps.toList = [99, 97, 116] := by decide +kernel
theorem ks_41 : (Str.ofString "rep").cps.toList = [114, 101, 112] := by decide +kernel
theorem ks_42 : (Str.ofString "call").cps.toList = [99, 97, 108, 108] := by decide +kernel
theorem ks_43 : (Str.ofString "sys").cps.toList = [115, 121, 115] := by decide +kernel
theorem ks_44 : (Str.ofString "9").cps.toList = [57] := by decide +kernel
theorem ks_45 : (Str.ofString "_").cps.toList = [95] := by decide +kernel
theorem ks_46 : (Str.ofString " \t\n\x0d\x0c\x0b").cps.toList = [32, 9, 10, 13, 12, 11] := by decide +kernel
theorem ks_47 : (Str.ofString "d").cps.toList = [100] := by decide +kernel
theorem ks_48 : (Str.ofString "01234567xz?").cps.toList = [48, 49, 50, 51, 52, 53, 54, 55, 120, 122, 63] := by decide +kernel
theorem ks_49 : (Str.ofString "'").cps.toList = [39] := by decide +kernel
theorem ks_50 : (Str.ofString "\\").cps.toList = [92] := by decide +kernel
theorem ks_51 : (Str.ofString "$").cps.toList = [36] := by decide +kernel
theorem ks_52 : (Str.ofString "*/").cps.toList = [42, 47] := by decide +kernel
theorem ks_53 : (Str.ofString ".").cps.toList = [46] := by decide +kernel
theorem ks_54 : (Str.ofString "?").cps.toList = [63] := by decide +kernel
theorem ks_55 : (Str.ofString "n").cps.toList = [110] := by decide +kernel
theorem ks_56 : (Str.ofString "\n").cps.toList = [10] := by decide +kernel
theorem ks_57 : (Str.ofString "t").cps.toList = [116] := by decide +kernel
theorem ks_58 : (Str.ofString "\t").cps.toList = [9] := by decide +kernel
theorem ks_59 : (Str.ofString "op").cps.toList = [111, 112] := by decide +kernel
theorem ks_60 : (Str.ofString "bad_size").cps.toList = [98, 97, 100, 95, 115, 105, 122, 101] := by decide +kernel
theorem ks_61 : (Str.ofString "z").cps.toList = [122] := by decide +kernel
theorem ks_62 : (Str.ofString "^").cps.toList = [94] := by decide +kernel
theorem ks_63 : (Str.ofString "==").cps.toList = [61, 61] := by decide +kernel
theorem ks_64 : (Str.ofString "!=").cps.toList = [33, 61] := by decide +kernel
theorem ks_65 : (Str.ofString "===").cps.toList = [61, 61, 61] := by decide +kernel
theorem ks_66 : (Str.ofString "!==").cps.toList = [33, 61, 61] := by decide +kernel
theorem ks_67 : (Str.ofString "<").cps.toList = [60] := by decide +kernel
theorem ks_68 : (Str.ofString "<=").cps.toList = [60, 61] := by decide +kernel
theorem ks_69 : (Str.ofString ">").cps.toList = [62] := by decide +kernel
theorem ks_70 : (Str.ofString ">=").cps.toList = [62, 61] := by decide +kernel
theorem ks_71 : (Str.ofString "<<").cps.toList = [60, 60] := by decide +kernel
theorem ks_72 : (Str.ofString ">>").cps.toList = [62, 62] := by decide +kernel
theorem ks_73 : (Str.ofString "<<<").cps.toList = [60, 60, 60] := by decide +kernel
theorem ks_74 : (Str.ofString ">>>").cps.toList = [62, 62, 62] := by decide +kernel
theorem ks_75 : (Str.ofString "+").cps.toList = [43] := by decide +kernel
theorem ks_76 : (Str.ofString "-").cps.toList = [45] := by decide +kernel
theorem ks_77 : (Str.ofString "*").cps.toList = [42] := by decide +kernel
theorem ks_78 : (Str.ofString "/").cps.toList = [47] := by decide +kernel
theorem ks_79 : (Str.ofString "%").cps.toList = [37] := by decide +kernel
theorem ks_80 : (Str.ofString "!").cps.toList = [33] := by decide +kernel
theorem ks_81 : (Str.ofString "~").cps.toList = [126] := by decide +kernel
theorem ks_82 : (Str.ofString "~&").cps.toList = [126, 38] := by decide +kernel
theorem ks_83 : (Str.ofString "~|").cps.toList = [126, 124] := by decide +kernel
theorem ks_84 : (Str.ofString "(").cps.toList = [40] := by decide +kernel
theorem ks_85 : (Str.ofString "{").cps.toList = [123] := by decide +kernel
theorem ks_86 : (Str.ofString "expression_expected").cps.toList = [101, 120, 112, 114, 101, 115, 115, 105, 111, 110, 95, 101, 120, 112, 101, 99, 116, 101, 100] := by decide +kernel
theorem ks_87 : (Str.ofString ",").cps.toList = [44] := by decide +kernel
theorem ks_88 : (Str.ofString "}").cps.toList = [125] := by decide +kernel
theorem ks_89 : (Str.ofString ")").cps.toList = [41] := by decide +kernel
theorem ks_90 : (Str.ofString "part").cps.toList = [112, 97, 114, 116] := by decide +kernel
theorem ks_91 : (Str.ofString ", ").cps.toList = [44, 32] := by decide +kernel
theorem ks_92 : (Str.ofString "down").cps.toList = [100, 111, 119, 110] := by decide +kernel
theorem ks_93 : (Str.ofString " -: ").cps.toList = [32, 45, 58, 32] := by decide +kernel
theorem ks_94 : (Str.ofString " ? ").cps.toList = [32, 63, 32] := by decide +kernel
theorem ks_95 : (Str.ofString " : ").cps.toList = [32, 58, 32] := by decide +kernel
theorem ks_96 : (Str.ofString "}}").cps.toList = [125, 125] := by decide +kernel
theorem ks_97 : (Str.ofString "a").cps.toList = [97] := by decide +kernel
theorem ks_98 : (Str.ofString "b1").cps.toList = [98, 49] := by decide +kernel
theorem ks_99 : (Str.ofString "c$").cps.toList = [99, 36] := by decide +kernel
theorem ks_100 : (Str.ofString "module").cps.toList = [109, 111, 100, 117, 108, 101] := by decide +kernel
theorem ks_101 : (Str.ofString "+x").cps.toList = [43, 120] := by decide +kernel
theorem ks_102 : (Str.ofString "7").cps.toList = [55] := by decide +kernel
theorem ks_103 : (Str.ofString "%d").cps.toList = [37, 100] := by decide +kernel
theorem ks_104 : (Str.ofString " // ").cps.toList = [32, 47, 47, 32] := by decide +kernel
theorem ks_105 : (Str.ofString "$time").cps.toList = [36, 116, 105, 109, 101] := by decide +kernel
theorem ks_106 : (Str.ofString "eof").cps.toList = [101, 111, 102] := by decide +kernel
theorem ks_107 : (Str.ofString "A").cps.toList = [65] := by decide +kernel
theorem ks_108 : (Str.ofString "Z").cps.toList = [90] := by decide +kernel
theorem ks_109 : (Str.ofString "h").cps.toList = [104] := by decide +kernel
theorem ks_110 : (Str.ofString "0123456789abcdefxz?").cps.toList = [48, 49, 50, 51, 52, 53, 54, 55, 56, 57, 97, 98, 99, 100, 101, 102, 120, 122, 63] := by decide +kernel
theorem ks_111 : (Str.ofString "*)").cps.toList = [42, 41] := by decide +kernel
theorem ks_112 : (Str.ofString "key").cps.toList = [107, 101, 121] := by decide +kernel
theorem ks_113 : (Str.ofString "bad_character").cps.toList = [98, 97, 100, 95, 99, 104, 97, 114, 97, 99, 116, 101, 114] := by decide +kernel
theorem ks_114 : (Str.ofString "real_unsupported").cps.toList = [114, 101, 97, 108, 95, 117, 110, 115, 117, 112, 112, 111, 114, 116, 101, 100] := by decide +kernel
theorem ks_115 : (Str.ofString "e").cps.toList = [101] := by decide +kernel
theorem ks_116 : (Str.ofString "E").cps.toList = [69] := by decide +kernel
theorem ks_117 : (Str.ofString "s").cps.toList = [115] := by decide +kernel
theorem ks_118 : (Str.ofString "S").cps.toList = [83] := by decide +kernel
theorem ks_119 : (Str.ofString "bad_number").cps.toList = [98, 97, 100, 95, 110, 117, 109, 98, 101, 114] := by decide +kernel
theorem ks_120 : (Str.ofString "unfinished_string").cps.toList = [117, 110, 102, 105, 110, 105, 115, 104, 101, 100, 95, 115, 116, 114, 105, 110, 103] := by decide +kernel
theorem ks_121 : (Str.ofString "unexpected_token").cps.toList = [117, 110, 101, 120, 112, 101, 99, 116, 101, 100, 95, 116, 111, 107, 101, 110] := by decide +kernel
theorem ks_122 : (Str.ofString "name").cps.toList = [110, 97, 109, 101] := by decide +kernel
theorem ks_123 : (Str.ofString "0123456789abcdef").cps.toList = [48, 49, 50, 51, 52, 53, 54, 55, 56, 57, 97, 98, 99, 100, 101, 102] := by decide +kernel
theorem ks_124 : (Str.ofString "+:").cps.toList = [43, 58] := by decide +kernel
theorem ks_125 : (Str.ofString "|| && | ^ ~^ & == != === !== < <= > >= << >> <<< >>> + - * / % **").cps.toList = [124, 124, 32, 38, 38, 32, 124, 32, 94, 32, 126, 94, 32, 38, 32, 61, 61, 32, 33, 61, 32, 61, 61, 61, 32, 33, 61, 61, 32, 60, 32, 60, 61, 32, 62, 32, 62, 61, 32, 60, 60, 32, 62, 62, 32, 60, 60, 60, 32, 62, 62, 62, 32, 43, 32, 45, 32, 42, 32, 47, 32, 37, 32, 42, 42] := by decide +kernel
theorem ks_126 : (Str.ofString "//").cps.toList = [47, 47] := by decide +kernel
theorem ks_127 : (Str.ofString "unfinished_remark").cps.toList = [117, 110, 102, 105, 110, 105, 115, 104, 101, 100, 95, 114, 101, 109, 97, 114, 107] := by decide +kernel
theorem ks_128 : (Str.ofString "unfinished_attribute").cps.toList = [117, 110, 102, 105, 110, 105, 115, 104, 101, 100, 95, 97, 116, 116, 114, 105, 98, 117, 116, 101] := by decide +kernel
theorem ks_129 : (Str.ofString "+-!~&|^*/%<>=?:()[]{},;.@#").cps.toList = [43, 45, 33, 126, 38, 124, 94, 42, 47, 37, 60, 62, 61, 63, 58, 40, 41, 91, 93, 123, 125, 44, 59, 46, 64, 35] := by decide +kernel
theorem ks_130 : (Str.ofString "-:").cps.toList = [45, 58] := by decide +kernel
theorem ks_131 : (Str.ofString "\\n").cps.toList = [92, 110] := by decide +kernel
theorem ks_132 : (Str.ofString "/*").cps.toList = [47, 42] := by decide +kernel
theorem ks_133 : (Str.ofString "** << >> <= >= == != && || ~& ~| ~^ ^~ -> +: -: =>").cps.toList = [42, 42, 32, 60, 60, 32, 62, 62, 32, 60, 61, 32, 62, 61, 32, 61, 61, 32, 33, 61, 32, 38, 38, 32, 124, 124, 32, 126, 38, 32, 126, 124, 32, 126, 94, 32, 94, 126, 32, 45, 62, 32, 43, 58, 32, 45, 58, 32, 61, 62] := by decide +kernel
theorem ks_134 : (Str.ofString "\\t").cps.toList = [92, 116] := by decide +kernel
theorem ks_135 : (Str.ofString "(*").cps.toList = [40, 42] := by decide +kernel
set_option tactic.hygienic false
@[elab_as_elim] theorem ba0 {P : List Value → Prop} (vs : List Value) (e : vs.length = 0) (h : P []) : P vs := by cases vs with | nil => exact h | cons => cases e
@[elab_as_elim] theorem ba1 {P : List Value → Prop} (vs : List Value) (e : vs.length = 1) (h : ∀ a, P [a]) : P vs := by cases vs with | nil => cases e | cons a r => exact ba0 (P := fun r => P (a :: r)) r (Nat.succ.inj e) (h a)
@[elab_as_elim] theorem ba2 {P : List Value → Prop} (vs : List Value) (e : vs.length = 2) (h : ∀ a b, P [a, b]) : P vs := by cases vs with | nil => cases e | cons a r => exact ba1 (P := fun r => P (a :: r)) r (Nat.succ.inj e) (h a)
@[elab_as_elim] theorem ba3 {P : List Value → Prop} (vs : List Value) (e : vs.length = 3) (h : ∀ a b c, P [a, b, c]) : P vs := by cases vs with | nil => cases e | cons a r => exact ba2 (P := fun r => P (a :: r)) r (Nat.succ.inj e) (h a)
@[elab_as_elim] theorem ba4 {P : List Value → Prop} (vs : List Value) (e : vs.length = 4) (h : ∀ a b c d, P [a, b, c, d]) : P vs := by cases vs with | nil => cases e | cons a r => exact ba3 (P := fun r => P (a :: r)) r (Nat.succ.inj e) (h a)
@[elab_as_elim] theorem ba5 {P : List Value → Prop} (vs : List Value) (e : vs.length = 5) (h : ∀ a b c d f, P [a, b, c, d, f]) : P vs := by cases vs with | nil => cases e | cons a r => exact ba4 (P := fun r => P (a :: r)) r (Nat.succ.inj e) (h a)
theorem lkA_hit {z : Str} {u : V} {r : List (Str × V)} : lkA z ((z, u) :: r) = some u := if_pos rfl
theorem lkA_skip {z w : Str} {o : Option V} {v : V} {r : List (Str × V)} (h : (z == w) = false) (t : lkA z r = o) : lkA z ((w, v) :: r) = o := (if_neg (beq_eq_false_iff_ne.mp h)).trans t
theorem lkA_nil {z : Str} : lkA z [] = none := rfl
theorem st_skip {σ : Store} {a b : Addr} {ao : AO} {o : Option AO} (h : b ≠ a) (t : σ b = o) : (σ.set a ao) b = o := (Store.set_ne σ ao h).trans t
theorem st_del {σ : Store} {a b : Addr} {o : Option AO} (h : b ≠ a) (t : σ b = o) : (σ.del a) b = o := (if_neg h).trans t
theorem ne_sn {σ : Store} {a b : Addr} {o : AO} (h : σ a = some o) (h' : σ b = none) : a ≠ b := fun z => by rw [z, h'] at h; cases h
theorem ne_ns {σ : Store} {a b : Addr} {o : AO} (h : σ a = none) (h' : σ b = some o) : a ≠ b := fun z => by rw [z, h'] at h; cases h
theorem E_attr {c : Cx} {x : Str} {Q : V → Store → Prop} {k : Cls} {dx : Addr} {m : List (Str × V)} {σ : Store} {v : V} (hs : σ dx = some (.ns m)) (hf : fieldOK c.K (c.C k) x = true) (hl : lkA x m = some v) (hv : ∀ y, v ≠ .val y) (h : Q v σ) : kAttr c x Q (.inst k dx) σ := ⟨k, dx, m, v, rfl, hs, hf, hl, hv, h⟩
theorem E_meth {c : Cx} {d : Nat} {sc : Scope} {es : List Expr} {x : Str} {ρ : Locals} {Q : V → Store → Prop} {k : Cls} {dx : Addr} {m : List (Str × V)} {σ : Store} (hs : σ dx = some (.ns m)) (hl : lkA x m = none) (hk : ∃ f, methOK c.K (c.C k) x f = true ∧ keepIn c.K (.ref f) = true) (h : WL c d sc es ρ σ (kCons (kMC c d k x Q) (.inst k dx))) : kMI c d sc es x ρ Q (.inst k dx) σ := ⟨k, dx, m, rfl, hs, hl, hk, h⟩
inductive jSet (c : Cx) (x : Str) (Q : Fl → Locals → Store → Prop) (ρ : Locals) (v u : V) (σ₂ : Store) : Prop
  | mk (k : Cls) (dx : Addr) (m m₂ : List (Str × V)) (e : u = .inst k dx) (h : σ₂ dx = some (.ns m)) (s : setOK c.K (c.C k) x = true) (l : m.length ≤ 900) (p : putA x v m = m₂) (q : Q .next ρ (σ₂.set dx (.ns m₂)))
theorem WS_attr' {c : Cx} {d : Nat} {sc : Scope} {ρ : Locals} {σ : Store} {Q : Fl → Locals → Store → Prop} (OK : CxOK c) {o e : Expr} {x : Str} {p p' : Pos}
    (h : WE c d sc e ρ σ (k2 c d sc o ρ (jSet c x Q ρ))) (hc : notComp e := by exact fun _ _ _ => rfl) :
    WS c d sc (.Assign [.Attribute o x p'] e p) ρ σ Q :=
  WS_attr OK (h.mono fun v σ₁ w => w.mono fun u σ₂ ⟨k, dx, m, m₂, e, a, b, l, q, r⟩ => ⟨k, dx, m, e, a, b, l, by rw [q]; exact r⟩) hc
theorem E_set {c : Cx} {x : Str} {Q : Fl → Locals → Store → Prop} {ρ : Locals} {k : Cls} {dx : Addr} {m m₂ : List (Str × V)} {σ : Store} {v : V} (hs : σ dx = some (.ns m)) (hf : setOK c.K (c.C k) x = true) (hm : m.length ≤ 900) (e : putA x v m = m₂) (h : Q .next ρ (σ.set dx (.ns m₂))) : jSet c x Q ρ v (.inst k dx) σ := ⟨k, dx, m, m₂, rfl, hs, hf, hm, e, h⟩
theorem X_bi {c : Cx} {d : Nat} {x : Str} {f : Value} {us : List V} {σ : Store} {Q : V → Store → Prop} (T : Txt c) (hm : (x, f) ∈ biNames) (h : CV c d f us σ Q) : CF c d x us σ Q := ⟨f, T.bi _ hm, h⟩
theorem U_slice {x : List Nat} {i j : Int} {k : List Nat → Int → Int → Prop} (h : k x i j) : IntP2 (.str x) (.int i) (.int j) k := .mk h
theorem H_tup {us : List V} {σ : Store} {k : List V → Store → Prop} (h : k us σ) : ItP (.tup us) σ k := h
theorem H_str {l : List Nat} {σ : Store} {k : List V → Store → Prop} (h : k (l.map fun x => .str [x]) σ) : ItP (.str l) σ k := h
theorem H_lst {a : Addr} {us : List V} {σ : Store} {k : List V → Store → Prop} (hs : σ a = some (.list us)) (h : k us (σ.del a)) : ItP (.lst a) σ k := ⟨us, hs, h⟩
theorem H_rng {a b st : Int} {σ : Store} {k : List V → Store → Prop} (h0 : Builtin.Range.small a b st = true) (h : k (rangeV a st (Builtin.Range.rangeSize a b st).toNat) σ) : ItP (.rng a b st) σ k := ⟨h0, h⟩
theorem bo_and {b : Bool} {X Y : Prop} (f : b = false → X) (t : b = true → Y) : if shorts .And b = true then X else Y := by cases b; exact f rfl; exact t rfl
theorem bo_or {b : Bool} {X Y : Prop} (t : b = true → X) (f : b = false → Y) : if shorts .Or b = true then X else Y := by cases b; exact f rfl; exact t rfl
theorem bo_and_s {b : Bool} {X Y : Prop} (e : b = false) (x : X) : if shorts .And b = true then X else Y := by subst e; exact x
theorem bo_and_n {b : Bool} {X Y : Prop} (e : b = true) (y : Y) : if shorts .And b = true then X else Y := by subst e; exact y
theorem bo_or_s {b : Bool} {X Y : Prop} (e : b = true) (x : X) : if shorts .Or b = true then X else Y := by subst e; exact x
theorem bo_or_n {b : Bool} {X Y : Prop} (e : b = false) (y : Y) : if shorts .Or b = true then X else Y := by subst e; exact y
theorem Txt.k_len {c : Cx} (T : Txt c) : Known c "len" := ⟨_, T.bi ("len", .builtin "len") (by simp [biNames]), .inl ⟨_, rfl⟩⟩
theorem X_len {c : Cx} {d : Nat} {us : List V} {σ : Store} {Q : V → Store → Prop} (T : Txt c) (h : CV c d (.builtin "len") us σ Q) : CF c d "len" us σ Q := ⟨_, T.bi ("len", .builtin "len") (by simp [biNames]), h⟩
theorem Txt.k_ord {c : Cx} (T : Txt c) : Known c "ord" := ⟨_, T.bi ("ord", .builtin "ord") (by simp [biNames]), .inl ⟨_, rfl⟩⟩
theorem X_ord {c : Cx} {d : Nat} {us : List V} {σ : Store} {Q : V → Store → Prop} (T : Txt c) (h : CV c d (.builtin "ord") us σ Q) : CF c d "ord" us σ Q := ⟨_, T.bi ("ord", .builtin "ord") (by simp [biNames]), h⟩
theorem Txt.k_chr {c : Cx} (T : Txt c) : Known c "chr" := ⟨_, T.bi ("chr", .builtin "chr") (by simp [biNames]), .inl ⟨_, rfl⟩⟩
theorem X_chr {c : Cx} {d : Nat} {us : List V} {σ : Store} {Q : V → Store → Prop} (T : Txt c) (h : CV c d (.builtin "chr") us σ Q) : CF c d "chr" us σ Q := ⟨_, T.bi ("chr", .builtin "chr") (by simp [biNames]), h⟩
theorem Txt.k_abs {c : Cx} (T : Txt c) : Known c "abs" := ⟨_, T.bi ("abs", .builtin "abs") (by simp [biNames]), .inl ⟨_, rfl⟩⟩
theorem X_abs {c : Cx} {d : Nat} {us : List V} {σ : Store} {Q : V → Store → Prop} (T : Txt c) (h : CV c d (.builtin "abs") us σ Q) : CF c d "abs" us σ Q := ⟨_, T.bi ("abs", .builtin "abs") (by simp [biNames]), h⟩
theorem Txt.k_max {c : Cx} (T : Txt c) : Known c "max" := ⟨_, T.bi ("max", .builtin "max") (by simp [biNames]), .inl ⟨_, rfl⟩⟩
theorem X_max {c : Cx} {d : Nat} {us : List V} {σ : Store} {Q : V → Store → Prop} (T : Txt c) (h : CV c d (.builtin "max") us σ Q) : CF c d "max" us σ Q := ⟨_, T.bi ("max", .builtin "max") (by simp [biNames]), h⟩
theorem Txt.k_isinstance {c : Cx} (T : Txt c) : Known c "isinstance" := ⟨_, T.bi ("isinstance", .builtin "isinstance") (by simp [biNames]), .inl ⟨_, rfl⟩⟩
theorem X_isinstance {c : Cx} {d : Nat} {us : List V} {σ : Store} {Q : V → Store → Prop} (T : Txt c) (h : CV c d (.builtin "isinstance") us σ Q) : CF c d "isinstance" us σ Q := ⟨_, T.bi ("isinstance", .builtin "isinstance") (by simp [biNames]), h⟩
theorem Txt.k_str {c : Cx} (T : Txt c) : Known c "str" := ⟨_, T.bi ("str", .type "str") (by simp [biNames]), .inr (.inl ⟨_, rfl⟩)⟩
theorem X_str {c : Cx} {d : Nat} {us : List V} {σ : Store} {Q : V → Store → Prop} (T : Txt c) (h : CV c d (.type "str") us σ Q) : CF c d "str" us σ Q := ⟨_, T.bi ("str", .type "str") (by simp [biNames]), h⟩
theorem Txt.k_int {c : Cx} (T : Txt c) : Known c "int" := ⟨_, T.bi ("int", .type "int") (by simp [biNames]), .inr (.inl ⟨_, rfl⟩)⟩
theorem X_int {c : Cx} {d : Nat} {us : List V} {σ : Store} {Q : V → Store → Prop} (T : Txt c) (h : CV c d (.type "int") us σ Q) : CF c d "int" us σ Q := ⟨_, T.bi ("int", .type "int") (by simp [biNames]), h⟩
theorem Txt.k_range {c : Cx} (T : Txt c) : Known c "range" := ⟨_, T.bi ("range", .type "range") (by simp [biNames]), .inr (.inl ⟨_, rfl⟩)⟩
theorem X_range {c : Cx} {d : Nat} {us : List V} {σ : Store} {Q : V → Store → Prop} (T : Txt c) (h : CV c d (.type "range") us σ Q) : CF c d "range" us σ Q := ⟨_, T.bi ("range", .type "range") (by simp [biNames]), h⟩
theorem Txt.k_tuple {c : Cx} (T : Txt c) : Known c "tuple" := ⟨_, T.bi ("tuple", .type "tuple") (by simp [biNames]), .inr (.inl ⟨_, rfl⟩)⟩
theorem X_tuple {c : Cx} {d : Nat} {us : List V} {σ : Store} {Q : V → Store → Prop} (T : Txt c) (h : CV c d (.type "tuple") us σ Q) : CF c d "tuple" us σ Q := ⟨_, T.bi ("tuple", .type "tuple") (by simp [biNames]), h⟩
theorem Txt.k_reversed {c : Cx} (T : Txt c) : Known c "reversed" := ⟨_, T.bi ("reversed", .type "reversed") (by simp [biNames]), .inr (.inl ⟨_, rfl⟩)⟩
theorem X_reversed {c : Cx} {d : Nat} {us : List V} {σ : Store} {Q : V → Store → Prop} (T : Txt c) (h : CV c d (.type "reversed") us σ Q) : CF c d "reversed" us σ Q := ⟨_, T.bi ("reversed", .type "reversed") (by simp [biNames]), h⟩
theorem Txt.k_Token {c : Cx} (T : Txt c) : Known c "Token" := ⟨_, .inl T.token.1, .inr (.inr T.token.2)⟩
theorem Txt.k_Lexer {c : Cx} (T : Txt c) : Known c "Lexer" := ⟨_, .inl T.lexer.1, .inr (.inr T.lexer.2)⟩
theorem Txt.k_ExprParser {c : Cx} (T : Txt c) : Known c "ExprParser" := ⟨_, .inl T.parser.1, .inr (.inr T.parser.2)⟩
theorem subL_nil {ρ : Locals} : subL [] ρ := fun _ _ h => nomatch h
theorem subL_cons {x : Str} {u : V} {r ρ : Locals} (h : lk x ρ = some u) (t : subL r ρ) : subL ((x, u) :: r) ρ := fun y v e => by
  unfold lk at e
  split at e
  · rename_i q; cases e; rw [q]; exact h
  · exact t y v e
theorem cut1 (t : List Nat) (j : Nat) : cut t (j : Int) ((j : Int) + 1) = (t.drop j).take 1 := by
  show (t.drop j).take (j + 1 - j) = _
  rw [Nat.add_sub_cancel_left]
theorem cut2 (t : List Nat) (j : Nat) : cut t (j : Int) ((j : Int) + 2) = (t.drop j).take 2 := by
  show (t.drop j).take (j + 2 - j) = _
  rw [Nat.add_sub_cancel_left]
theorem cut3 (t : List Nat) (j : Nat) : cut t (j : Int) ((j : Int) + 3) = (t.drop j).take 3 := by
  show (t.drop j).take (j + 3 - j) = _
  rw [Nat.add_sub_cancel_left]
theorem cutN (t : List Nat) (j k : Nat) : cut t (j : Int) (k : Int) = (t.drop j).take (k - j) := by
  unfold cut
  simp
theorem drop_cons {t s : List Nat} {j x : Nat} (h : t.drop j = x :: s) : t.drop (j + 1) = s := by
  rw [← List.drop_drop, h]; rfl
structure LexAt (σ : Store) (dx : Addr) (t : List Nat) (i : Int) (kd : Addr) : Prop where
  ns : σ dx = some (.ns [("text", .str t), ("at", .int i), ("keys", .dct kd)])
  keys : σ kd = some (.map (splitL 32 kwText).reverse)
  size : t.length ≤ 4000000
section
variable {c : Cx} {d : Nat} {sc : Scope} {ρ : Locals} {σ : Store} {Q : Fl → Locals → Store → Prop}
theorem PostS.re {env : Env} {s s' : Shared} {f : Flow} {Q Q' : Fl → Locals → Store → Prop} (p : PostS c env σ s Q f s') (k : ∀ fl ρ' σ', Q fl ρ' σ' → ∃ ρ₂, subL ρ₂ ρ' ∧ Q' fl ρ₂ σ') : PostS c env σ s Q' f s' :=
  let ⟨fl, ρ', σ', r, st, l, q⟩ := p
  let ⟨ρ₂, w, q'⟩ := k fl ρ' σ' q
  ⟨fl, ρ₂, σ', r, st, l.weak w, q'⟩
theorem WW.re {t : Expr} {b o : List Stmt} {Q' : Fl → Locals → Store → Prop} (h : WW c d sc t b o ρ σ Q) (k : ∀ fl ρ' σ', Q fl ρ' σ' → ∃ ρ₂, subL ρ₂ ρ' ∧ Q' fl ρ₂ σ') : WW c d sc t b o ρ σ Q' := by
  unfold WW at h ⊢
  exact fun A env s R O B L => codeAny_mono (h A env s R O B L) fun r s' z => by cases r with | ok f => exact PostS.re z k | error e => exact z.elim
theorem WF.re {t : Expr} {b o : List Stmt} {us : List V} {Q' : Fl → Locals → Store → Prop} (h : WF c d sc t b o us ρ σ Q) (k : ∀ fl ρ' σ', Q fl ρ' σ' → ∃ ρ₂, subL ρ₂ ρ' ∧ Q' fl ρ₂ σ') : WF c d sc t b o us ρ σ Q' := by
  unfold WF at h ⊢
  exact fun A env σ₀ s₀ s I D R O L a1 a2 a3 a4 a5 => codeAny_mono (h A env σ₀ s₀ s I D R O L a1 a2 a3 a4 a5) fun r s' z => by cases r with | ok f => exact PostS.re z k | error e => exact z.elim
theorem WB.re {b : List Stmt} {Q' : Fl → Locals → Store → Prop} (h : WB c d sc b ρ σ Q) (k : ∀ fl ρ' σ', Q fl ρ' σ' → ∃ ρ₂, subL ρ₂ ρ' ∧ Q' fl ρ₂ σ') : WB c d sc b ρ σ Q' := by
  unfold WB at h ⊢
  exact fun A env s R O B L => wpAny_mono (h A env s R O B L) (fun f s' z => PostS.re z k) fun _ _ z => z
theorem subL.refl (ρ : Locals) : subL ρ ρ := fun _ _ e => e
theorem WW.post {t : Expr} {b o : List Stmt} (ρ₂ : Locals) (σ₂ : Store) (h : WW c d sc t b o ρ σ fun fl ρ' σ' => fl = .next ∧ subL ρ₂ ρ' ∧ σ' = σ₂) (k : Q .next ρ₂ σ₂) : WW c d sc t b o ρ σ Q :=
  h.re fun fl ρ' σ' ⟨e, w, e'⟩ => ⟨ρ₂, w, by rw [e, e']; exact k⟩
theorem WF.post {t : Expr} {b o : List Stmt} {us : List V} (ρ₂ : Locals) (σ₂ : Store) (h : WF c d sc t b o us ρ σ fun fl ρ' σ' => fl = .next ∧ subL ρ₂ ρ' ∧ σ' = σ₂) (k : Q .next ρ₂ σ₂) : WF c d sc t b o us ρ σ Q :=
  h.re fun fl ρ' σ' ⟨e, w, e'⟩ => ⟨ρ₂, w, by rw [e, e']; exact k⟩
end
theorem LexAt.ne {σ : Store} {dx : Addr} {t : List Nat} {i : Int} {kd : Addr} (L : LexAt σ dx t i kd) : kd ≠ dx := fun z => by have := L.keys; rw [z, L.ns] at this; cases this
theorem putA_nil {x : Str} {v : V} : putA x v [] = [(x, v)] := rfl
theorem putA_hit {x : Str} {v w : V} {r : List (Str × V)} : putA x v ((x, w) :: r) = (x, v) :: r := if_pos rfl
theorem putA_skip {x y : Str} {v w : V} {r r' : List (Str × V)} (h : (x == y) = false) (t : putA x v r = r') : putA x v ((y, w) :: r) = (y, w) :: r' := (if_neg (beq_eq_false_iff_ne.mp h)).trans (by rw [t])
theorem cutA (t : List Nat) (j n : Nat) : cut t (j : Int) ((j + n : Nat) : Int) = (t.drop j).take n := by
  show (t.drop j).take (j + n - j) = _
  rw [Nat.add_sub_cancel_left]
theorem free_set {σ : Store} {a x : Addr} {o : AO} (h : (σ.set a o) x = none) : σ x = none := by
  unfold Store.set at h
  split at h
  · cases h
  · exact h
theorem ne_set {σ : Store} {a x : Addr} {o : AO} (h : (σ.set a o) x = none) : x ≠ a := fun z => by subst z; rw [Store.set_self] at h; cases h
theorem Store.set_id {σ : Store} {a : Addr} {o : AO} (h : σ a = some o) : σ.set a o = σ := by
  funext b
  by_cases q : b = a
  · subst q; rw [Store.set_self, h]
  · exact Store.set_ne _ _ q
theorem Store.set_comm {σ : Store} {a b : Addr} {x y : AO} (h : a ≠ b) : (σ.set a x).set b y = (σ.set b y).set a x := by
  funext z
  by_cases q : z = a
  · subst q; rw [Store.set_ne _ _ h, Store.set_self, Store.set_self]
  · rw [Store.set_ne (σ.set b y) _ q]
    by_cases q2 : z = b
    · subst q2; rw [Store.set_self, Store.set_self]
    · rw [Store.set_ne _ _ q2, Store.set_ne _ _ q2, Store.set_ne _ _ q]
theorem del_set {σ : Store} {a : Addr} {o : AO} (h : σ a = none) : (σ.set a o).del a = σ := by
  funext z
  unfold Store.del Store.set
  by_cases q : z = a
  · subst q; rw [if_pos rfl, h]
  · rw [if_neg q, if_neg q]
noncomputable def SubS (σ₂ σ' : Store) : Prop := ∀ a o, σ₂ a = some o → σ' a = some o
theorem Stp.subS {c : Cx} {X : Addr → Prop} {σ σ' σ₂ : Store} {s s' : Shared} (x : Stp c X σ s σ' s') (k : SubS σ₂ σ') : Stp c X σ s σ₂ s' := by
  refine ⟨⟨x.base.ground, fun b bo e => x.base.objs b bo (k b bo e), fun b bo e => x.base.off b bo (k b bo e), x.base.gens, x.base.os⟩, x.live, x.keep, fun b h => x.grow b ?_⟩
  cases q : σ₂ b with
  | none => exact absurd q h
  | some o => exact some_ne (k b o q)
theorem CV.sub {c : Cx} {d : Nat} {σ : Store} {f : Value} {us : List V} {Q : V → Store → Prop} (h : CV c d f us σ fun v σ' => ∃ σ₂, SubS σ₂ σ' ∧ Q v σ₂) : CV c d f us σ Q := by
  unfold CV at h ⊢
  exact fun A s vs R B r => wpAny_mono (h A s vs R B r) (fun v s' ⟨u, σ', ru, st, σ₂, k, q⟩ => ⟨u, σ₂, ru, st.subS k, q⟩) fun _ _ z => z
theorem CF.sub {c : Cx} {d : Nat} {σ : Store} {x : Str} {us : List V} {Q : V → Store → Prop} (h : CF c d x us σ fun v σ' => ∃ σ₂, SubS σ₂ σ' ∧ Q v σ₂) : CF c d x us σ Q := let ⟨f, a, b⟩ := h; ⟨f, a, b.sub⟩
theorem MC.sub {c : Cx} {d : Nat} {σ : Store} {k : Cls} {x : Str} {us : List V} {Q : V → Store → Prop} (h : MC c d k x us σ fun v σ' => ∃ σ₂, SubS σ₂ σ' ∧ Q v σ₂) : MC c d k x us σ Q := let ⟨f, a, b⟩ := h; ⟨f, a, b.sub⟩
theorem SubS.refl (σ : Store) : SubS σ σ := fun _ _ h => h
theorem SubS.set {σ σ' : Store} {a : Addr} {o : AO} (h : SubS σ σ') : SubS (σ.set a o) (σ'.set a o) := fun b p e => by
  by_cases q : b = a
  · subst q; rw [Store.set_self] at e ⊢; exact e
  · rw [Store.set_ne _ _ q] at e ⊢; exact h b p e
theorem SubS.new {σ σ' : Store} {a : Addr} {o : AO} (h : SubS σ σ') (ha : σ a = none) : SubS σ (σ'.set a o) := fun b p e => by
  have q : b ≠ a := fun z => by rw [z, ha] at e; cases e
  rw [Store.set_ne _ _ q]; exact h b p e
theorem LexAt.new {σ : Store} {dx : Addr} {t : List Nat} {i : Int} {kd : Addr} (L : LexAt σ dx t i kd) {a : Addr} {o : AO} (h : σ a = none) : LexAt (σ.set a o) dx t i kd :=
  ⟨(Store.set_ne _ _ fun z => by have := L.ns; rw [z, h] at this; cases this).trans L.ns, (Store.set_ne _ _ fun z => by have := L.keys; rw [z, h] at this; cases this).trans L.keys, L.size⟩
theorem strsOf_map (ls : List (List Nat)) : strsOf (ls.map .str) = some ls := by
  induction ls with
  | nil => rfl
  | cons a r ih => show (strsOf (r.map .str)).map (a :: ·) = _; rw [ih]; rfl
theorem one_lt (x y : Nat) : (([x] : List Nat) < [y]) ↔ x < y := by
  constructor
  · intro h
    rcases h with _ | h | h
    · assumption
    · cases h
  · intro h; exact List.Lex.rel h
noncomputable def wT : Stmt → Expr
  | .While t _ _ _ => t
  | .If t _ _ _ => t
  | _ => .Constant .none 0 ⟨0, 0, 0, 0⟩
noncomputable def wB : Stmt → List Stmt
  | .While _ b _ _ => b
  | .If _ b _ _ => b
  | .For _ _ b _ _ => b
  | _ => []
noncomputable def wI : Stmt → Expr
  | .For t _ _ _ _ => t
  | _ => .Constant .none 0 ⟨0, 0, 0, 0⟩
theorem G_tup2 {sc : Scope} {x0 x1 : Str} {p0 p1 : Pos} {u0 u1 : V} {j : Nat} {p : Pos} {ρ : Locals} {kr : Locals → Prop} (h0 : TgtP.namesOK sc [.Name x0 p0, .Name x1 p1] = true) (h : kr ((x1, u1) :: (x0, u0) :: ρ)) : TgtP sc (.Tuple [.Name x0 p0, .Name x1 p1] j p) (.tup [u0, u1]) ρ kr := .tup h0 rfl h
theorem G_tup3 {sc : Scope} {x0 x1 x2 : Str} {p0 p1 p2 : Pos} {u0 u1 u2 : V} {j : Nat} {p : Pos} {ρ : Locals} {kr : Locals → Prop} (h0 : TgtP.namesOK sc [.Name x0 p0, .Name x1 p1, .Name x2 p2] = true) (h : kr ((x2, u2) :: (x1, u1) :: (x0, u0) :: ρ)) : TgtP sc (.Tuple [.Name x0 p0, .Name x1 p1, .Name x2 p2] j p) (.tup [u0, u1, u2]) ρ kr := .tup h0 rfl h
theorem G_tup4 {sc : Scope} {x0 x1 x2 x3 : Str} {p0 p1 p2 p3 : Pos} {u0 u1 u2 u3 : V} {j : Nat} {p : Pos} {ρ : Locals} {kr : Locals → Prop} (h0 : TgtP.namesOK sc [.Name x0 p0, .Name x1 p1, .Name x2 p2, .Name x3 p3] = true) (h : kr ((x3, u3) :: (x2, u2) :: (x1, u1) :: (x0, u0) :: ρ)) : TgtP sc (.Tuple [.Name x0 p0, .Name x1 p1, .Name x2 p2, .Name x3 p3] j p) (.tup [u0, u1, u2, u3]) ρ kr := .tup h0 rfl h
noncomputable def scanN (p : Nat → Bool) : List Nat → Nat
  | [] => 0
  | x :: s => if p x then scanN p s + 1 else 0
theorem scanN_app {p : Nat → Bool} : ∀ {l r : List Nat}, (∀ x ∈ l, p x = true) → (∀ x s, r = x :: s → p x = false) → scanN p (l ++ r) = l.length
  | [], [], _, _ => rfl
  | [], x :: s, _, h => by
    show (if p x = true then _ else 0) = 0
    rw [if_neg (by rw [h x s rfl]; decide)]
  | y :: l, r, h1, h2 => by
    show (if p y = true then scanN p (l ++ r) + 1 else 0) = _
    rw [if_pos (h1 y (.head _)), scanN_app (fun x hx => h1 x (.tail _ hx)) h2]
    rfl
theorem scanN_le {p : Nat → Bool} : ∀ (l : List Nat), scanN p l ≤ l.length
  | [] => Nat.le_refl _
  | x :: s => by
    unfold scanN
    have := scanN_le (p := p) s
    split
    · simp; exact this
    · simp
theorem scanN_up {f : Nat → Bool} {k x : Nat} {s : List Nat} (e : f x = true) : k + scanN f (x :: s) = k + 1 + scanN f s := by
  show k + (if f x = true then scanN f s + 1 else 0) = _
  rw [if_pos e]; exact Nat.add_right_comm k (scanN f s) 1
theorem scanN_no {f : Nat → Bool} {k x : Nat} {s : List Nat} (e : f x = false) : k + scanN f (x :: s) = k := by
  show k + (if f x = true then scanN f s + 1 else 0) = k
  rw [if_neg (by rw [e]; decide)]; rfl
theorem or_l {a b : Bool} (h : a = true) : (a || b) = true := by subst h; rfl
theorem or_r {a b : Bool} (h : b = true) : (a || b) = true := by subst h; cases a <;> rfl
theorem or_n {a b : Bool} (h : a = false) (h' : b = false) : (a || b) = false := by subst h; exact h'
theorem U_cut {l m : List Nat} {i j : Int} {σ : Store} {Q : V → Store → Prop} (hs : 0 ≤ i ∧ 0 ≤ j ∧ l.length ≤ sizeLine) (e : cut l i j = m) (h : Q (.str m) σ) : jSlc Q (.str l) (.int i) (.int j) σ := .mk ⟨hs, by rw [e]; exact h⟩
theorem C_inTb {x : List Nat} {vs : List V} {σ : Store} {kb : Bool → Prop} {ls : List (List Nat)} {b : Bool} (e : strsOf vs = some ls) (e' : ls.contains x = b) (h : kb b) : CmpP .In (.str x) (.tup vs) σ kb := .inT e (by rw [e']; exact h)
theorem WF.ss {c : Cx} {d : Nat} {sc : Scope} {ρ : Locals} {σ : Store} {Q : Fl → Locals → Store → Prop} {t : Expr} {b o : List Stmt} {us : List V} {a : Addr} {x y : AO} (h : WF c d sc t b o us ρ (σ.set a y) Q) : WF c d sc t b o us ρ ((σ.set a x).set a y) Q := by
  rw [Store.set_set]; exact h
theorem WW.ss {c : Cx} {d : Nat} {sc : Scope} {ρ : Locals} {σ : Store} {Q : Fl → Locals → Store → Prop} {t : Expr} {b o : List Stmt} {a : Addr} {x y : AO} (h : WW c d sc t b o ρ (σ.set a y) Q) : WW c d sc t b o ρ ((σ.set a x).set a y) Q := by
  rw [Store.set_set]; exact h
noncomputable def isLay (x : Nat) : Bool := [32, 9, 10, 13, 12, 11].contains x
noncomputable def layN : List Nat → Nat
  | [] => 0
  | x :: s => if isLay x then layN s + 1 else 0
set_option tactic.hygienic true
set_option tactic.hygienic false
noncomputable def isVal : V → Bool
  | .val _ => true
  | _ => false
theorem isVal_of {v : V} (h : isVal v = false) : ∀ y, v ≠ .val y := fun y e => by rw [e] at h; cases h
noncomputable def callOK (sc : Scope) (x : Str) : Bool := (knNames ++ biNames.map (·.1)).contains x && okGlobal sc x
section
variable {c : Cx} {d : Nat} {sc : Scope} {ρ : Locals} {σ : Store}
theorem WL_str {x : Str} {k : Nat} {p : Pos} {rest : List Expr} {l : List Nat} {Q : List V → Store → Prop} (e : x.cps.toList = l) (h : WL c d sc rest ρ σ (kCons Q (.str l))) : WL c d sc (.Constant (.str x) k p :: rest) ρ σ Q := WL_cons (WE_strE e h) rfl
theorem WL_str1 {x : Str} {k : Nat} {p : Pos} {l : List Nat} {Q : List V → Store → Prop} (e : x.cps.toList = l) (h : Q [.str l] σ) : WL c d sc [.Constant (.str x) k p] ρ σ Q := WL_str e (WL_nil h)
theorem WL_int {i : Int} {k : Nat} {p : Pos} {rest : List Expr} {Q : List V → Store → Prop} (h : WL c d sc rest ρ σ (kCons Q (.int i))) : WL c d sc (.Constant (.int i) k p :: rest) ρ σ Q := WL_cons (WE_int h) rfl
theorem WL_int1 {i : Int} {k : Nat} {p : Pos} {Q : List V → Store → Prop} (h : Q [.int i] σ) : WL c d sc [.Constant (.int i) k p] ρ σ Q := WL_int (WL_nil h)
theorem WB_if {t : Expr} {b o rest : List Stmt} {p : Pos} {Q : Fl → Locals → Store → Prop} (h : WT c d sc t ρ σ (kIf c d sc b o ρ (Thn Q (kB c d sc rest Q)))) : WB c d sc (.If t b o p :: rest) ρ σ Q := WB_cons (WS_if h)
noncomputable abbrev kNB (c : Cx) (d : Nat) (sc : Scope) (r : List Stmt) (Q : Fl → Locals → Store → Prop) (ρ : Locals) (x : Str) : V → Store → Prop := fun u σ => WB c d sc r ((x, u) :: ρ) σ Q
theorem WB_name {x : Str} {e : Expr} {rest : List Stmt} {p p' : Pos} {Q : Fl → Locals → Store → Prop} (h : WE c d sc e ρ σ (kNB c d sc rest Q ρ x)) (hk : okLocal sc x = true := by decide +kernel) (hc : notComp e := by exact fun _ _ _ => rfl) : WB c d sc (.Assign [.Name x p'] e p :: rest) ρ σ Q := WB_cons (WS_name h hk hc)
theorem WB_ret {e : Expr} {rest : List Stmt} {p : Pos} {Q : Fl → Locals → Store → Prop} (h : WE c d sc e ρ σ (kR (Thn Q (kB c d sc rest Q)) ρ)) : WB c d sc (.Return (some e) p :: rest) ρ σ Q := WB_cons (WS_ret h)
noncomputable abbrev kXB (c : Cx) (d : Nat) (sc : Scope) (r : List Stmt) (Q : Fl → Locals → Store → Prop) (ρ : Locals) : V → Store → Prop := fun _ σ => WB c d sc r ρ σ Q
theorem WB_expr {e : Expr} {rest : List Stmt} {p : Pos} {Q : Fl → Locals → Store → Prop} (h : WE c d sc e ρ σ (kXB c d sc rest Q ρ)) (hc : notComp e := by exact fun _ _ _ => rfl) : WB c d sc (.Expr e p :: rest) ρ σ Q := WB_cons (WS_expr h hc)
theorem WT_eqLS {x y : Str} {k : Nat} {p p1 p2 : Pos} {a b : List Nat} {Q : Bool → Store → Prop} (e : y.cps.toList = b) (h : Q (decide (a = b)) σ) (T : Txt c := by assumption) (h1 : lk x ρ = some (.str a) := by walk_at "my lk") : WT c d sc (.Compare (.Name x p1) [.Eq] [.Constant (.str y) k p2] p) ρ σ Q := WT_cmp T.OK (WE_loc h1 (WE_strE e (.eqS h)))
variable {Q : V → Store → Prop}
theorem lo {x : Str} {p : Pos} {u : V} (h : Q u σ) (h1 : lk x ρ = some u := by walk_at "my lk") : WE c d sc (.Name x p) ρ σ Q := WE_loc h1 h
theorem la {x : Str} {p : Pos} {rest : List Expr} {u : V} {Q : List V → Store → Prop} (h : WL c d sc rest ρ σ (kCons Q u)) (h1 : lk x ρ = some u := by walk_at "my lk") : WL c d sc (.Name x p :: rest) ρ σ Q := WL_cons (WE_loc h1 h)
theorem lz {x : Str} {p : Pos} {u : V} {Q : List V → Store → Prop} (h : Q [u] σ) (h1 : lk x ρ = some u := by walk_at "my lk") : WL c d sc [.Name x p] ρ σ Q := la (WL_nil h) h1
theorem cl {x : Str} {r : Expr} {op : CmpOp} {p p' : Pos} {u : V} {Q : Bool → Store → Prop} (h : WE c d sc r ρ σ (jCmp op Q u)) (T : Txt c := by assumption) (h1 : lk x ρ = some u := by walk_at "my lk") (hm : behindInMarks op r = false := by rfl) : WT c d sc (.Compare (.Name x p') [op] [r] p) ρ σ Q := WT_cmp T.OK (WE_loc h1 h) hm
theorem me {x y : Str} {p p1 p' : Pos} {es : List Expr} {k : Cls} {dx : Addr} {m : List (Str × V)} (h : WL c d sc es ρ σ (kCons (kMC c d k y Q) (.inst k dx))) (T : Txt c := by assumption) (h1 : lk x ρ = some (.inst k dx) := by walk_at "my lk") (hs : σ dx = some (.ns m) := by walk_at "my st") (hl : lkA y m = none := by walk_at "my lka") (hk : mNames.contains (k, y) = true := by decide +kernel) (hn : es.all noStar = true := by rfl) (hf : es.length < 30 := by decide) (hp : p.endLine = p'.line := by rfl) :
    WE c d sc (.Call (.Attribute (.Name x p1) y p) es [] p') ρ σ Q := WE_methI T.OK (WE_loc h1 (E_meth hs hl (T.km _ _ hk) h)) (fun _ _ _ => rfl) hn hf hp
theorem att {x y : Str} {p p1 : Pos} {k : Cls} {dx : Addr} {m : List (Str × V)} {v : V} (h : Q v σ) (T : Txt c := by assumption) (h1 : lk x ρ = some (.inst k dx) := by walk_at "my lk") (hs : σ dx = some (.ns m) := by walk_at "my st") (hl : lkA y m = some v := by walk_at "my lka") (hf : fields.contains (k, y) = true := by decide +kernel) (hv : isVal v = false := by rfl) : WE c d sc (.Attribute (.Name x p1) y p) ρ σ Q :=
  WE_attr T.OK (fun _ _ => rfl) (WE_loc h1 (E_attr hs (T.fr _ _ hf) hl (isVal_of hv) h))
theorem ca {x : Str} {p p' : Pos} {es : List Expr} (h : WL c d sc es ρ σ (kCF c d x Q)) (T : Txt c := by assumption) (hk : callOK sc x = true := by decide +kernel) (hn : es.all noStar = true := by rfl) : WE c d sc (.Call (.Name x p) es [] p') ρ σ Q :=
  WE_callF T.OK (T.kn _ (Bool.and_eq_true_iff.mp hk).1) h (Bool.and_eq_true_iff.mp hk).2 hn
theorem su {x : Str} {p p1 p2 : Pos} {k : Nat} {i : Int} {us : List V} {v : V} (h : Q v σ) (h1 : lk x ρ = some (.tup us) := by walk_at "my lk") (h0 : 0 ≤ i ∧ i < 2 ^ 62 := by decide) (e : us[i.toNat]? = some v := by rfl) : WE c d sc (.Subscript (.Name x p1) (.Constant (.int i) k p2) p) ρ σ Q :=
  WE_sub (WE_loc h1 (WE_int (.tup h0 e h)))
theorem bl {x : Str} {r : Expr} {op : Operator} {p p1 : Pos} {u : V} (h : WE c d sc r ρ σ (jBin op Q u)) (h1 : lk x ρ = some u := by walk_at "my lk") : WE c d sc (.BinOp (.Name x p1) op r p) ρ σ Q := WE_bin (WE_loc h1 h)
theorem ea {x : Str} {k : Cls} {dx : Addr} {m : List (Str × V)} {v : V} (h : Q v σ) (T : Txt c := by assumption) (hs : σ dx = some (.ns m) := by walk_at "my st") (hf : fields.contains (k, x) = true := by decide +kernel) (hl : lkA x m = some v := by walk_at "my lka") (hv : isVal v = false := by rfl) : kAttr c x Q (.inst k dx) σ := E_attr hs (T.fr _ _ hf) hl (isVal_of hv) h
theorem em {es : List Expr} {x : Str} {k : Cls} {dx : Addr} {m : List (Str × V)} (h : WL c d sc es ρ σ (kCons (kMC c d k x Q) (.inst k dx))) (T : Txt c := by assumption) (hs : σ dx = some (.ns m) := by walk_at "my st") (hl : lkA x m = none := by walk_at "my lka") (hk : mNames.contains (k, x) = true := by decide +kernel) : kMI c d sc es x ρ Q (.inst k dx) σ := E_meth hs hl (T.km _ _ hk) h
end
set_option tactic.hygienic true
local macro_rules | `(tactic| walk_at "my lk") => `(tactic| first | with_reducible exact lk_hit | (apply lk_skip (by decide +kernel); walk_at "my lk"))
local macro_rules | `(tactic| walk_at "my lka") => `(tactic| first | with_reducible exact lkA_hit | with_reducible exact lkA_nil | (apply lkA_skip (by decide +kernel); walk_at "my lka"))
local macro_rules | `(tactic| walk_at "my ne") => `(tactic| first | with_reducible assumption | ((with_reducible apply Ne.symm); with_reducible assumption) | (with_reducible apply ne_sn <;> with_reducible assumption) | (with_reducible apply ne_ns <;> with_reducible assumption))
local macro_rules | `(tactic| walk_at "my st") => `(tactic| first | with_reducible assumption | with_reducible exact Store.set_self _ _ _ | ((with_reducible apply st_skip (by walk_at "my ne")); walk_at "my st") | ((with_reducible apply st_del (by walk_at "my ne")); walk_at "my st") | assumption | exact Store.set_self _ _ _)
local macro_rules | `(tactic| walk_at "my sz") => `(tactic| first | decide +kernel | omega | (rw [sizeLine_eq]; omega) | (simp only [sizeLine_eq, List.length_append, List.length_cons, List.length_nil, List.length_map] at *; omega))
local macro_rules | `(tactic| walk_at "my sl") => `(tactic| (refine ⟨by first | decide | omega, by first | decide | omega, by walk_at "my sz"⟩))
local macro_rules | `(tactic| walk_at "my tr") => `(tactic| first | with_reducible refine T_bool ?_ | with_reducible refine T_none ?_ | with_reducible refine T_tup (by walk_at "my sz") ?_)
local macro_rules | `(tactic| walk_at "my it") => `(tactic| first | with_reducible refine I_tup (by decide) rfl ?_ | with_reducible refine I_lst (by walk_at "my st") (by decide) rfl ?_)
local macro_rules | `(tactic| walk_at "my fm") => `(tactic| first | with_reducible refine F_str (by walk_at "my sz") ?_ | with_reducible refine F_int (by walk_at "my sz") ?_)
local macro_rules | `(tactic| walk_at "my nv") => `(tactic| (intro _ z; cases z))
local macro_rules | `(tactic| walk_at "my ba") => `(tactic| (intro _ _ _ _ _ _ _ _ vs e; first | (refine ba1 vs e ?_; exact fun _ => rfl) | (refine ba2 vs e ?_; exact fun _ _ => rfl) | (refine ba3 vs e ?_; exact fun _ _ _ => rfl) | (refine ba0 vs e ?_; exact rfl) | (refine ba4 vs e ?_; exact fun _ _ _ _ => rfl) | (refine ba5 vs e ?_; exact fun _ _ _ _ _ => rfl)))
local macro_rules | `(tactic| walk_at "my me append") => `(tactic| refine CV_append (by walk_at "my st") (by walk_at "my sz") ?_)
local macro_rules | `(tactic| walk_at "my mu") => `(tactic| first | exact IntMulOk.of_left (by decide) | exact IntMulOk.of_right (by decide))
local macro_rules | `(tactic| walk_at "my sub") => `(tactic| first | exact subL_nil | (refine subL_cons (by first | walk_at "my lk" | walk_at "my lkd") ?_; walk_at "my sub"))
local macro_rules | `(tactic| walk_at "my put") => `(tactic| first | with_reducible exact putA_nil | with_reducible exact putA_hit | (apply putA_skip (by decide +kernel); walk_at "my put"))
local macro_rules | `(tactic| walk_at "my strs") => `(tactic| exact strsOf_map _)
local macro_rules | `(tactic| walk_at "my lkd") => `(tactic| first | (apply lk_skip (by decide +kernel); walk_at "my lkd") | exact lk_hit)
local macro_rules | `(tactic| walk_at "ub") => `(tactic| first | (apply Nat.le_trans; (focus assumption); walk_at "ub") | (apply Nat.add_le_add; (focus walk_at "ub"); walk_at "ub") | (apply Nat.mul_le_mul; (focus walk_at "ub"); walk_at "ub") | exact Nat.le_refl _)
local macro_rules | `(tactic| walk_at "o") => `(tactic| first | exact Nat.le_of_ble_eq_true rfl | exact Nat.le_add_right _ _ | exact Nat.le_add_left _ _ | assumption | (refine Nat.add_le_add_left ?_ _; exact Nat.le_of_ble_eq_true rfl) | exact Nat.le_trans (Nat.le_add_right _ _) (by assumption) | (refine Nat.le_trans ?_ (by assumption); exact Nat.le_of_ble_eq_true rfl) | exact Nat.le_trans (by assumption) (Nat.le_add_right _ _) | exact Nat.le_sub_of_add_le (by assumption) | (refine Nat.le_sub_of_add_le (Nat.le_trans ?_ (by assumption)); exact Nat.le_of_ble_eq_true rfl) | (refine Nat.le_trans (Nat.add_le_add_left ?_ _) (by assumption); exact Nat.le_of_ble_eq_true rfl) | (refine Nat.le_trans (by assumption) ?_; exact Nat.le_of_ble_eq_true rfl) | (refine Nat.le_trans ?_ (Nat.le_trans (by assumption) (Nat.le_add_right _ _)); exact Nat.le_of_ble_eq_true rfl) | exact Nat.le_trans (Nat.le_of_eq (Nat.add_right_comm _ _ _)) (by assumption) | exact Nat.succ_ne_zero _ | (apply Nat.le_trans; (focus walk_at "ub"); exact Nat.le_of_ble_eq_true rfl) | omega)
set_option tactic.hygienic false
noncomputable def isLetter (l : List Nat) : Bool := (!decide (l < [97]) && !decide ([122] < l)) || (!decide (l < [65]) && !decide ([90] < l))
noncomputable def isDigit (l : List Nat) : Bool := !decide (l < [48]) && !decide ([57] < l)
noncomputable def isWord (l : List Nat) : Bool := isLetter l || isDigit l || decide (l = [95])
noncomputable def isLayout : List Nat → Bool
 | [x] => [32, 9, 10, 13, 12, 11].contains x
 | _ => false
section
variable {c : Cx} {d : Nat} {σ : Store} {Q : V → Store → Prop}
theorem mask_ok (T : Txt c) {w : Int} (hw : 0 ≤ w ∧ w < 1000000) (h : Q (.int (2 ^ w.toNat - 1)) σ) : CF c (d + 1) "mask" [.int w] σ Q := by
 have e1 : Builtin.Int.intBits 1 = 1 := by decide
 refine CF_fn T.OK T.f_mask ["w"] _ (show WB _ _ _ _ [("w", _)] _ _ from ?_)
 refine WB_ret (WE_bin (WE_bin (WE_int (lo ?_))))
 refine P_shl (by walk_at "my sz") ?_
 refine WE_int (P_sub ?_)
 refine N_ret (R_ret ?_)
 simpa using h
theorem is_letter_ok (T : Txt c) {l : List Nat} (h : Q (.bool (isLetter l)) σ) : CF c (d + 1) "is_letter" [.str l] σ Q := by
 unfold isLetter at h
 refine CF_fn T.OK T.f_is_letter ["char"] _ (show WB _ _ _ _ [("char", _)] _ _ from ?_)
 refine WB_ret (WE_bo (WE_bo (WE_cmp T.OK (WE_strE ks_97 (lo ?_)))))
 refine .leS ?_
 walk_at "my tr"
 refine bo_and (fun hb1 => ?_) (fun hb1 => ?_)
 ·walk_at "my tr"
  refine bo_or (fun hb2 => ?_) (fun hb2 => ?_)
  ·refine N_ret (R_ret ?_)
   first | exact h | (exfalso; simp_all; done) | (refine cast (congrArg (fun b => Q (V.bool b) σ) ?_) h; clear h; simp only [*, Bool.and_true, Bool.true_and, Bool.or_true, Bool.true_or, Bool.or_false, Bool.false_or, Bool.and_false, Bool.false_and, Bool.not_true, Bool.not_false, Bool.and_self, Bool.or_self]; done) | (refine cast (congrArg (fun b => Q (V.bool b) σ) ?_) h; simp_all; done) | (refine cast (congrArg (fun b => Q (V.int b) σ) ?_) h; simp_all; done) | (simp_all; done)
  ·refine WE_bo1 (WE_bo (WE_cmp T.OK (WE_strE ks_107 (lo ?_))))
   refine .leS ?_
   walk_at "my tr"
   refine bo_and (fun hb3 => ?_) (fun hb3 => ?_)
   ·refine N_ret (R_ret ?_)
    first | exact h | (exfalso; simp_all; done) | (refine cast (congrArg (fun b => Q (V.bool b) σ) ?_) h; clear h; simp only [*, Bool.and_true, Bool.true_and, Bool.or_true, Bool.true_or, Bool.or_false, Bool.false_or, Bool.and_false, Bool.false_and, Bool.not_true, Bool.not_false, Bool.and_self, Bool.or_self]; done) | (refine cast (congrArg (fun b => Q (V.bool b) σ) ?_) h; simp_all; done) | (refine cast (congrArg (fun b => Q (V.int b) σ) ?_) h; simp_all; done) | (simp_all; done)
   ·refine WE_bo1 (WE_cmp T.OK (lo ?_))
    refine WE_strE ks_108 (.leS ?_)
    refine N_ret (R_ret ?_)
    first | exact h | (exfalso; simp_all; done) | (refine cast (congrArg (fun b => Q (V.bool b) σ) ?_) h; clear h; simp only [*, Bool.and_true, Bool.true_and, Bool.or_true, Bool.true_or, Bool.or_false, Bool.false_or, Bool.and_false, Bool.false_and, Bool.not_true, Bool.not_false, Bool.and_self, Bool.or_self]; done) | (refine cast (congrArg (fun b => Q (V.bool b) σ) ?_) h; simp_all; done) | (refine cast (congrArg (fun b => Q (V.int b) σ) ?_) h; simp_all; done) | (simp_all; done)
 ·refine WE_bo1 (WE_cmp T.OK (lo ?_))
  refine WE_strE ks_61 (.leS ?_)
  walk_at "my tr"
  refine bo_or (fun hb4 => ?_) (fun hb4 => ?_)
  ·refine N_ret (R_ret ?_)
   first | exact h | (exfalso; simp_all; done) | (refine cast (congrArg (fun b => Q (V.bool b) σ) ?_) h; clear h; simp only [*, Bool.and_true, Bool.true_and, Bool.or_true, Bool.true_or, Bool.or_false, Bool.false_or, Bool.and_false, Bool.false_and, Bool.not_true, Bool.not_false, Bool.and_self, Bool.or_self]; done) | (refine cast (congrArg (fun b => Q (V.bool b) σ) ?_) h; simp_all; done) | (refine cast (congrArg (fun b => Q (V.int b) σ) ?_) h; simp_all; done) | (simp_all; done)
  ·refine WE_bo1 (WE_bo (WE_cmp T.OK (WE_strE ks_107 (lo ?_))))
   refine .leS ?_
   walk_at "my tr"
   refine bo_and (fun hb5 => ?_) (fun hb5 => ?_)
   ·refine N_ret (R_ret ?_)
    first | exact h | (exfalso; simp_all; done) | (refine cast (congrArg (fun b => Q (V.bool b) σ) ?_) h; clear h; simp only [*, Bool.and_true, Bool.true_and, Bool.or_true, Bool.true_or, Bool.or_false, Bool.false_or, Bool.and_false, Bool.false_and, Bool.not_true, Bool.not_false, Bool.and_self, Bool.or_self]; done) | (refine cast (congrArg (fun b => Q (V.bool b) σ) ?_) h; simp_all; done) | (refine cast (congrArg (fun b => Q (V.int b) σ) ?_) h; simp_all; done) | (simp_all; done)
   ·refine WE_bo1 (WE_cmp T.OK (lo ?_))
    refine WE_strE ks_108 (.leS ?_)
    refine N_ret (R_ret ?_)
    first | exact h | (exfalso; simp_all; done) | (refine cast (congrArg (fun b => Q (V.bool b) σ) ?_) h; clear h; simp only [*, Bool.and_true, Bool.true_and, Bool.or_true, Bool.true_or, Bool.or_false, Bool.false_or, Bool.and_false, Bool.false_and, Bool.not_true, Bool.not_false, Bool.and_self, Bool.or_self]; done) | (refine cast (congrArg (fun b => Q (V.bool b) σ) ?_) h; simp_all; done) | (refine cast (congrArg (fun b => Q (V.int b) σ) ?_) h; simp_all; done) | (simp_all; done)
theorem is_digit_ok (T : Txt c) {l : List Nat} (h : Q (.bool (isDigit l)) σ) : CF c (d + 1) "is_digit" [.str l] σ Q := by
 unfold isDigit at h
 refine CF_fn T.OK T.f_is_digit ["char"] _ (show WB _ _ _ _ [("char", _)] _ _ from ?_)
 refine WB_ret (WE_bo (WE_cmp T.OK (WE_strE ks_17 (lo ?_))))
 refine .leS ?_
 walk_at "my tr"
 refine bo_and (fun hb1 => ?_) (fun hb1 => ?_)
 ·refine N_ret (R_ret ?_)
  first | exact h | (exfalso; simp_all; done) | (refine cast (congrArg (fun b => Q (V.bool b) σ) ?_) h; clear h; simp only [*, Bool.and_true, Bool.true_and, Bool.or_true, Bool.true_or, Bool.or_false, Bool.false_or, Bool.and_false, Bool.false_and, Bool.not_true, Bool.not_false, Bool.and_self, Bool.or_self]; done) | (refine cast (congrArg (fun b => Q (V.bool b) σ) ?_) h; simp_all; done) | (refine cast (congrArg (fun b => Q (V.int b) σ) ?_) h; simp_all; done) | (simp_all; done)
 ·refine WE_bo1 (WE_cmp T.OK (lo ?_))
  refine WE_strE ks_44 (.leS ?_)
  refine N_ret (R_ret ?_)
  first | exact h | (exfalso; simp_all; done) | (refine cast (congrArg (fun b => Q (V.bool b) σ) ?_) h; clear h; simp only [*, Bool.and_true, Bool.true_and, Bool.or_true, Bool.true_or, Bool.or_false, Bool.false_or, Bool.and_false, Bool.false_and, Bool.not_true, Bool.not_false, Bool.and_self, Bool.or_self]; done) | (refine cast (congrArg (fun b => Q (V.bool b) σ) ?_) h; simp_all; done) | (refine cast (congrArg (fun b => Q (V.int b) σ) ?_) h; simp_all; done) | (simp_all; done)
theorem is_word_char_ok (T : Txt c) {l : List Nat} (h : Q (.bool (isWord l)) σ) : CF c (d + 2) "is_word_char" [.str l] σ Q := by
 unfold isWord at h
 refine CF_fn T.OK T.f_is_word_char ["char"] _ (show WB _ _ _ _ [("char", _)] _ _ from ?_)
 refine WB_ret (WE_bo (ca ?_))
 refine lz ?_
 refine is_letter_ok T ?_
 walk_at "my tr"
 refine bo_or (fun hb1 => ?_) (fun hb1 => ?_)
 ·refine N_ret (R_ret ?_)
  first | exact h | (exfalso; simp_all; done) | (refine cast (congrArg (fun b => Q (V.bool b) σ) ?_) h; clear h; simp only [*, Bool.and_true, Bool.true_and, Bool.or_true, Bool.true_or, Bool.or_false, Bool.false_or, Bool.and_false, Bool.false_and, Bool.not_true, Bool.not_false, Bool.and_self, Bool.or_self]; done) | (refine cast (congrArg (fun b => Q (V.bool b) σ) ?_) h; simp_all; done) | (refine cast (congrArg (fun b => Q (V.int b) σ) ?_) h; simp_all; done) | (simp_all; done)
 ·refine WE_bo (ca ?_)
  refine lz ?_
  refine is_digit_ok T ?_
  walk_at "my tr"
  refine bo_or (fun hb2 => ?_) (fun hb2 => ?_)
  ·refine N_ret (R_ret ?_)
   first | exact h | (exfalso; simp_all; done) | (refine cast (congrArg (fun b => Q (V.bool b) σ) ?_) h; clear h; simp only [*, Bool.and_true, Bool.true_and, Bool.or_true, Bool.true_or, Bool.or_false, Bool.false_or, Bool.and_false, Bool.false_and, Bool.not_true, Bool.not_false, Bool.and_self, Bool.or_self]; done) | (refine cast (congrArg (fun b => Q (V.bool b) σ) ?_) h; simp_all; done) | (refine cast (congrArg (fun b => Q (V.int b) σ) ?_) h; simp_all; done) | (simp_all; done)
  ·refine WE_bo1 (WE_cmp T.OK (lo ?_))
   refine WE_strE ks_45 (.eqS ?_)
   refine N_ret (R_ret ?_)
   first | exact h | (exfalso; simp_all; done) | (refine cast (congrArg (fun b => Q (V.bool b) σ) ?_) h; clear h; simp only [*, Bool.and_true, Bool.true_and, Bool.or_true, Bool.true_or, Bool.or_false, Bool.false_or, Bool.and_false, Bool.false_and, Bool.not_true, Bool.not_false, Bool.and_self, Bool.or_self]; done) | (refine cast (congrArg (fun b => Q (V.bool b) σ) ?_) h; simp_all; done) | (refine cast (congrArg (fun b => Q (V.int b) σ) ?_) h; simp_all; done) | (simp_all; done)
theorem is_layout0_ok (T : Txt c) (h : Q (.bool false) σ) : CF c (d + 1) "is_layout" [.str []] σ Q := by
 refine CF_fn T.OK T.f_is_layout ["char"] _ (show WB _ _ _ _ [("char", _)] _ _ from ?_)
 refine WB_ret (WE_bo (WE_cmp T.OK (lo ?_)))
 refine WE_strE ks_12 (.neS ?_)
 walk_at "my tr"
 exact bo_and_s (rfl) h
theorem is_layout1_ok (T : Txt c) {x : Nat} (h : Q (.bool (isLayout [x])) σ) : CF c (d + 1) "is_layout" [.str [x]] σ Q := by
 refine CF_fn T.OK T.f_is_layout ["char"] _ (show WB _ _ _ _ [("char", _)] _ _ from ?_)
 refine WB_ret (WE_bo (WE_cmp T.OK (lo ?_)))
 refine WE_strE ks_12 (.neS ?_)
 walk_at "my tr"
 refine bo_and_n (rfl) (WE_bo1 (WE_cmp T.OK (lo ?_)))
 refine WE_strE ks_46 (C_inS ?_)
 exact h
theorem digit_bits_ok (T : Txt c) {l : List Nat} (h : Q (.int (if l = [98] then 1 else if l = [111] then 3 else 4)) σ) : CF c (d + 1) "digit_bits" [.str l] σ Q := by
 refine CF_fn T.OK T.f_digit_bits ["base"] _ (show WB _ _ _ _ [("base", _)] _ _ from ?_)
 refine WB_if (WT_eqLS ks_14 ?_)
 refine ite_b (fun hb1 => ?_) (fun hb1 => ?_)
 ·refine WB_ret (WE_int (N_ret (N_ret ?_)))
  refine R_ret ?_
  first | exact h | (exfalso; simp_all; done) | (refine cast (congrArg (fun b => Q (V.bool b) σ) ?_) h; clear h; simp only [*, Bool.and_true, Bool.true_and, Bool.or_true, Bool.true_or, Bool.or_false, Bool.false_or, Bool.and_false, Bool.false_and, Bool.not_true, Bool.not_false, Bool.and_self, Bool.or_self]; done) | (refine cast (congrArg (fun b => Q (V.bool b) σ) ?_) h; simp_all; done) | (refine cast (congrArg (fun b => Q (V.int b) σ) ?_) h; simp_all; done) | (simp_all; done)
 ·refine WB_nil (WB_if (WT_eqLS ks_16 ?_))
  refine ite_b (fun hb2 => ?_) (fun hb2 => ?_)
  ·refine WB_ret (WE_int (N_ret (N_ret ?_)))
   refine R_ret ?_
   first | exact h | (exfalso; simp_all; done) | (refine cast (congrArg (fun b => Q (V.bool b) σ) ?_) h; clear h; simp only [*, Bool.and_true, Bool.true_and, Bool.or_true, Bool.true_or, Bool.or_false, Bool.false_or, Bool.and_false, Bool.false_and, Bool.not_true, Bool.not_false, Bool.and_self, Bool.or_self]; done) | (refine cast (congrArg (fun b => Q (V.bool b) σ) ?_) h; simp_all; done) | (refine cast (congrArg (fun b => Q (V.int b) σ) ?_) h; simp_all; done) | (simp_all; done)
  ·refine WB_nil (WB_ret (WE_int (N_ret (R_ret ?_))))
   first | exact h | (exfalso; simp_all; done) | (refine cast (congrArg (fun b => Q (V.bool b) σ) ?_) h; clear h; simp only [*, Bool.and_true, Bool.true_and, Bool.or_true, Bool.true_or, Bool.or_false, Bool.false_or, Bool.and_false, Bool.false_and, Bool.not_true, Bool.not_false, Bool.and_self, Bool.or_self]; done) | (refine cast (congrArg (fun b => Q (V.bool b) σ) ?_) h; simp_all; done) | (refine cast (congrArg (fun b => Q (V.int b) σ) ?_) h; simp_all; done) | (simp_all; done)
theorem vec_code_ok (T : Txt c) {w a b i : Int} (hi : 0 ≤ i) (h : Q (.int (Builtin.bitAnd (a.fdiv (2 ^ i.toNat)) 1 + 2 * Builtin.bitAnd (b.fdiv (2 ^ i.toNat)) 1)) σ) : CF c (d + 1) "code" [.tup [.int w, .int a, .int b], .int i] σ Q := by
 refine CF_fn T.OK T.f_code ["v", "i"] _ (show WB _ _ _ _ [("v", _), ("i", _)] _ _ from ?_)
 refine WB_ret (WE_bin (WE_bin (WE_bin (WE_sub (lo ?_)))))
 refine WE_int ?_
 walk_at "my it"
 refine lo ?_
 refine P_shr (by walk_at "my sz") ?_
 refine WE_int (P_and ?_)
 refine WE_bin (WE_int (WE_bin (WE_bin (WE_sub (lo ?_)))))
 refine WE_int ?_
 walk_at "my it"
 refine lo ?_
 refine P_shr (by walk_at "my sz") ?_
 refine WE_int (P_and ?_)
 refine P_mul (by walk_at "my mu") ?_
 refine .add ?_
 exact h
end
section
variable {c : Cx} {d : Nat} {σ : Store} {Q : V → Store → Prop} {t : List Nat} {dx kd : Addr} {i : Int}
theorem char_ok (T : Txt c) {j : Nat} (L : LexAt σ dx t i kd) (h : Q (.str ((t.drop j).take 1)) σ) : MC c (d + 1) .lexer "char" [.inst .lexer dx, .int j] σ Q := by
 have hn := L.ns
 have hkd := L.keys
 have hz := L.size
 rw [← cut1] at h
 refine MC_fn T.OK T.m_char ["self", "index"] _ (show WB _ _ _ _ [("self", _), ("index", _)] _ _ from ?_)
 refine WB_ret (WE_slice (att ?_))
 refine lo ?_
 refine bl ?_
 refine WE_int (.add ?_)
 refine U_slice ⟨by walk_at "my sl", ?_⟩
 exact h
theorem char_dr (T : Txt c) {j : Nat} {s : List Nat} (L : LexAt σ dx t i kd) (e : t.drop j = s) (h : Q (.str (s.take 1)) σ) : MC c (d + 1) .lexer "char" [.inst .lexer dx, .int j] σ Q := char_ok T L (by rw [e]; exact h)
theorem char_eq (T : Txt c) {j : Nat} {l : List Nat} (L : LexAt σ dx t i kd) (e : (t.drop j).take 1 = l) (h : Q (.str l) σ) : MC c (d + 1) .lexer "char" [.inst .lexer dx, .int j] σ Q := char_ok T L (by rw [e]; exact h)
theorem pair_ok (T : Txt c) {j : Nat} (L : LexAt σ dx t i kd) (h : Q (.str ((t.drop j).take 2)) σ) : MC c (d + 1) .lexer "pair" [.inst .lexer dx, .int j] σ Q := by
 have hn := L.ns
 have hkd := L.keys
 have hz := L.size
 rw [← cut2] at h
 refine MC_fn T.OK T.m_pair ["self", "index"] _ (show WB _ _ _ _ [("self", _), ("index", _)] _ _ from ?_)
 refine WB_ret (WE_slice (att ?_))
 refine lo ?_
 refine bl ?_
 refine WE_int (.add ?_)
 refine U_slice ⟨by walk_at "my sl", ?_⟩
 exact h
theorem pair_dr (T : Txt c) {j : Nat} {s : List Nat} (L : LexAt σ dx t i kd) (e : t.drop j = s) (h : Q (.str (s.take 2)) σ) : MC c (d + 1) .lexer "pair" [.inst .lexer dx, .int j] σ Q := pair_ok T L (by rw [e]; exact h)
theorem past_layout_ok (T : Txt c) {j : Nat} (L : LexAt σ dx t i kd) (h : Q (.int (j + scanN isLay (t.drop j) : Nat)) σ) : MC c (d + 3) .lexer "past_layout" [.inst .lexer dx, .int j] σ Q := by
 have hn := L.ns
 have hkd := L.keys
 have hz := L.size
 refine MC_fn T.OK T.m_past_layout ["self", "index"] _ (show WB _ _ _ _ [("self", _), ("index", _)] _ _ from ?_)
 refine WB_cons (WS_while ?_)
 obtain ⟨k, hk⟩ : ∃ k, k = j := ⟨_, rfl⟩
 refine WW.post [("index", .int (((k + scanN isLay (t.drop k) : Nat) : Int) : Int)), ("self", .inst .lexer dx)] σ ?_ ?_
 ·refine WW.weak (ρ := [("index", .int (((k : Nat) : Int) : Int)), ("self", .inst .lexer dx)]) ?_ (by rw [hk]; walk_at "my sub")
  clear h hk
  generalize hs : t.drop k = s
  generalize hE : k + scanN isLay s = E
  induction s generalizing k with
  | nil =>
   refine WW_step ?_
   refine WT_val (ca ?_)
   refine WL_cons (me ?_)
   refine lz ?_
   refine char_dr T L hs ?_
   refine WL_nil (is_layout0_ok T ?_)
   walk_at "my tr"
   refine ite_f (rfl) (WB_nil ?_)
   obtain rfl : k = E := hE
   exact ⟨rfl, by walk_at "my sub", rfl⟩
  | cons x s ih =>
   refine WW_step ?_
   refine WT_val (ca ?_)
   refine WL_cons (me ?_)
   refine lz ?_
   refine char_dr T L hs ?_
   refine WL_nil (is_layout1_ok T ?_)
   walk_at "my tr"
   refine ite_b (fun hb1 => ?_) (fun hb1 => ?_)
   ·refine WB_name (bl ?_)
    refine WE_int (.add ?_)
    refine WB_nil (L_next ?_)
    have e1 : isLay x = true := by simp_all [isLay, isLayout]
    exact WW.weak (ρ := [("index", .int (((k + 1 : Nat) : Int) : Int)), ("self", .inst .lexer dx)]) (ih (k + 1) (drop_cons hs) ((scanN_up e1).symm.trans hE)) (by walk_at "my sub")
   ·refine WB_nil ?_
    have e1 : isLay x = false := by simp_all [isLay, isLayout]
    obtain rfl : k = E := (scanN_no e1).symm.trans hE
    exact ⟨rfl, by walk_at "my sub", rfl⟩
 ·subst hk
  refine WB_ret (lo ?_)
  exact h
end
noncomputable def tokNs (kind : List Nat) (v : V) (at_ : Int) : AO := .ns [("kind", .str kind), ("value", v), ("at", .int at_)]
noncomputable def lexNs (t : List Nat) (i : Int) (kd : Addr) : AO := .ns [("text", .str t), ("at", .int i), ("keys", .dct kd)]
noncomputable def isDg (x : Nat) : Bool := isDigit [x] || decide ([x] = [95])
noncomputable def notLay (x : Nat) : Bool := !isLay x
noncomputable def isWd (x : Nat) : Bool := isWord [x] || decide ([x] = [36])
section
variable {c : Cx} {d : Nat} {σ : Store} {Q : V → Store → Prop} {t : List Nat} {dx kd : Addr} {i : Int}
theorem Token_ok (T : Txt c) {kind : List Nat} {v : V} {a : Int} (h : ∀ tx, σ tx = none → Q (.inst .token tx) (σ.set tx (tokNs kind v a))) : CF c (d + 2) "Token" [.str kind, v, .int a] σ Q := by
 refine ⟨_, .inl T.token.1, ?_⟩
 obtain ⟨f, hm, F⟩ := T.iToken
 refine CV_make T.OK hm fun tx htx => ?_
 refine CC_fn T.OK F ["self", "kind", "value", "at"] (by decide +kernel) rfl (by walk_at "my ba") (show WB _ _ _ _ [("self", _), ("kind", _), ("value", _), ("at", _)] _ _ from ?_)
 refine WB_cons (WS_attr' T.OK ?_)
 refine lo ?_
 refine lo ?_
 (refine E_set (by walk_at "my st") ?_ (by simp) (by walk_at "my put") ?_; exact T.fs _ _ (by decide +kernel))
 refine WB_cons (WS_attr' T.OK ?_)
 refine lo ?_
 refine lo ?_
 (refine E_set (by walk_at "my st") ?_ (by simp) (by walk_at "my put") ?_; exact T.fs _ _ (by decide +kernel))
 refine WB_cons (WS_attr' T.OK ?_)
 refine lo ?_
 refine lo ?_
 (refine E_set (by walk_at "my st") ?_ (by simp) (by walk_at "my put") ?_; exact T.fs _ _ (by decide +kernel))
 refine WB_nil (R_next ?_)
 exact ⟨rfl, by simpa [tokNs] using h tx htx⟩
theorem word_ok (T : Txt c) {j : Nat} (L : LexAt σ dx t i kd) (hk : (splitL 32 kwText).reverse.contains ((t.drop j).take (scanN isWd (t.drop j))) = false) (h : ∀ tx, σ tx = none → Q (.inst .token tx) ((σ.set dx (lexNs t ((j + scanN isWd (t.drop j) : Nat)) kd)).set tx (tokNs [105, 100] (.str ((t.drop j).take (scanN isWd (t.drop j)))) j))) : MC c (d + 4) .lexer "word" [.inst .lexer dx, .int j] σ Q := by
 have hn := L.ns
 have hkd := L.keys
 have hz := L.size
 have hne := L.ne
 refine MC_fn T.OK T.m_word ["self", "at"] _ (show WB _ _ _ _ [("self", _), ("at", _)] _ _ from ?_)
 refine WB_name (lo ?_)
 refine WB_cons (WS_while ?_)
 obtain ⟨k, hk⟩ : ∃ k, k = j := ⟨_, rfl⟩
 refine WW.post [("end", .int (((k + scanN isWd (t.drop k) : Nat) : Int) : Int)), ("self", .inst .lexer dx), ("at", .int (j : Int))] σ ?_ ?_
 ·refine WW.weak (ρ := [("end", .int (((k : Nat) : Int) : Int)), ("self", .inst .lexer dx), ("at", .int (j : Int))]) ?_ (by rw [hk]; walk_at "my sub")
  clear h hk
  generalize hs : t.drop k = s
  generalize hE : k + scanN isWd s = E
  induction s generalizing k with
  | nil =>
   refine WW_step ?_
   refine WT_or (WT_val (ca ?_))
   refine WL_cons (me ?_)
   refine lz ?_
   refine char_dr T L hs ?_
   refine WL_nil (is_word_char_ok T ?_)
   walk_at "my tr"
   refine ite_f (rfl) (WT_or1 (WT_cmp T.OK (me ?_)))
   refine lz ?_
   refine char_dr T L hs ?_
   refine WE_strE ks_51 (.eqS ?_)
   refine ite_f (rfl) (WB_nil ?_)
   obtain rfl : k = E := hE
   exact ⟨rfl, by walk_at "my sub", rfl⟩
  | cons x s ih =>
   refine WW_step ?_
   refine WT_or (WT_val (ca ?_))
   refine WL_cons (me ?_)
   refine lz ?_
   refine char_dr T L hs ?_
   refine WL_nil (is_word_char_ok T ?_)
   walk_at "my tr"
   refine ite_b (fun hb1 => ?_) (fun hb1 => ?_)
   ·refine ite_t rfl (WB_name (bl ?_))
    refine WE_int (.add ?_)
    refine WB_nil (L_next ?_)
    have e1 : isWd x = true := or_l hb1
    exact WW.weak (ρ := [("end", .int (((k + 1 : Nat) : Int) : Int)), ("self", .inst .lexer dx), ("at", .int (j : Int))]) (ih (k + 1) (drop_cons hs) ((scanN_up e1).symm.trans hE)) (by walk_at "my sub")
   ·refine WT_or1 (WT_cmp T.OK (me ?_))
    refine lz ?_
    refine char_dr T L hs ?_
    refine WE_strE ks_51 (.eqS ?_)
    refine ite_b (fun hb2 => ?_) (fun hb2 => ?_)
    ·refine WB_name (bl ?_)
     refine WE_int (.add ?_)
     refine WB_nil (L_next ?_)
     have e1 : isWd x = true := or_r hb2
     exact WW.weak (ρ := [("end", .int (((k + 1 : Nat) : Int) : Int)), ("self", .inst .lexer dx), ("at", .int (j : Int))]) (ih (k + 1) (drop_cons hs) ((scanN_up e1).symm.trans hE)) (by walk_at "my sub")
    ·refine WB_nil ?_
     have e1 : isWd x = false := or_n hb1 hb2
     obtain rfl : k = E := (scanN_no e1).symm.trans hE
     exact ⟨rfl, by walk_at "my sub", rfl⟩
 ·subst hk
  refine WB_cons (WS_attr' T.OK ?_)
  refine lo ?_
  refine lo ?_
  (refine E_set (by walk_at "my st") ?_ (by simp) (by walk_at "my put") ?_; exact T.fs _ _ (by decide +kernel))
  refine WB_name (WE_slice (att ?_))
  refine lo ?_
  refine lo ?_
  refine U_cut (by walk_at "my sl") (cutA _ _ _) ?_
  refine WB_if (cl ?_)
  refine att ?_
  refine C_inD (by walk_at "my st") ?_
  refine ite_f (hk) ?_
  refine WB_nil (WB_ret (ca ?_))
  refine WL_str ks_38 (la ?_)
  refine lz ?_
  refine Token_ok T fun tx htx => ?_
  exact h tx (free_set htx)
theorem system_ok (T : Txt c) {j : Nat} (L : LexAt σ dx t i kd) (hp : 0 < scanN isWd (t.drop (j + 1))) (h : ∀ tx, σ tx = none → Q (.inst .token tx) ((σ.set dx (lexNs t ((j + (scanN isWd (t.drop (j + 1)) + 1) : Nat)) kd)).set tx (tokNs [115, 121, 115] (.str ((t.drop j).take (scanN isWd (t.drop (j + 1)) + 1))) j))) : MC c (d + 4) .lexer "system" [.inst .lexer dx, .int j] σ Q := by
 rw [show j + (scanN isWd (t.drop (j + 1)) + 1) = j + 1 + scanN isWd (t.drop (j + 1)) by walk_at "o"] at h
 have hn := L.ns
 have hkd := L.keys
 have hz := L.size
 have hne := L.ne
 refine MC_fn T.OK T.m_system ["self", "at"] _ (show WB _ _ _ _ [("self", _), ("at", _)] _ _ from ?_)
 refine WB_name (bl ?_)
 refine WE_int (.add ?_)
 refine WB_cons (WS_while ?_)
 obtain ⟨k, hk⟩ : ∃ k, k = (j + 1) := ⟨_, rfl⟩
 refine WW.post [("end", .int (((k + scanN isWd (t.drop k) : Nat) : Int) : Int)), ("self", .inst .lexer dx), ("at", .int (j : Int))] σ ?_ ?_
 ·refine WW.weak (ρ := [("end", .int (((k : Nat) : Int) : Int)), ("self", .inst .lexer dx), ("at", .int (j : Int))]) ?_ (by rw [hk]; walk_at "my sub")
  clear h hk
  generalize hs : t.drop k = s
  generalize hE : k + scanN isWd s = E
  induction s generalizing k with
  | nil =>
   refine WW_step ?_
   refine WT_or (WT_val (ca ?_))
   refine WL_cons (me ?_)
   refine lz ?_
   refine char_dr T L hs ?_
   refine WL_nil (is_word_char_ok T ?_)
   walk_at "my tr"
   refine ite_f (rfl) (WT_or1 (WT_cmp T.OK (me ?_)))
   refine lz ?_
   refine char_dr T L hs ?_
   refine WE_strE ks_51 (.eqS ?_)
   refine ite_f (rfl) (WB_nil ?_)
   obtain rfl : k = E := hE
   exact ⟨rfl, by walk_at "my sub", rfl⟩
  | cons x s ih =>
   refine WW_step ?_
   refine WT_or (WT_val (ca ?_))
   refine WL_cons (me ?_)
   refine lz ?_
   refine char_dr T L hs ?_
   refine WL_nil (is_word_char_ok T ?_)
   walk_at "my tr"
   refine ite_b (fun hb1 => ?_) (fun hb1 => ?_)
   ·refine ite_t rfl (WB_name (bl ?_))
    refine WE_int (.add ?_)
    refine WB_nil (L_next ?_)
    have e1 : isWd x = true := or_l hb1
    exact WW.weak (ρ := [("end", .int (((k + 1 : Nat) : Int) : Int)), ("self", .inst .lexer dx), ("at", .int (j : Int))]) (ih (k + 1) (drop_cons hs) ((scanN_up e1).symm.trans hE)) (by walk_at "my sub")
   ·refine WT_or1 (WT_cmp T.OK (me ?_))
    refine lz ?_
    refine char_dr T L hs ?_
    refine WE_strE ks_51 (.eqS ?_)
    refine ite_b (fun hb2 => ?_) (fun hb2 => ?_)
    ·refine WB_name (bl ?_)
     refine WE_int (.add ?_)
     refine WB_nil (L_next ?_)
     have e1 : isWd x = true := or_r hb2
     exact WW.weak (ρ := [("end", .int (((k + 1 : Nat) : Int) : Int)), ("self", .inst .lexer dx), ("at", .int (j : Int))]) (ih (k + 1) (drop_cons hs) ((scanN_up e1).symm.trans hE)) (by walk_at "my sub")
    ·refine WB_nil ?_
     have e1 : isWd x = false := or_n hb1 hb2
     obtain rfl : k = E := (scanN_no e1).symm.trans hE
     exact ⟨rfl, by walk_at "my sub", rfl⟩
 ·subst hk
  refine WB_if (cl ?_)
  refine bl ?_
  refine WE_int (.add ?_)
  refine .eqI ?_
  refine ite_f (by simp; omega) ?_
  refine WB_nil (WB_cons (WS_attr' T.OK ?_))
  refine lo ?_
  refine lo ?_
  (refine E_set (by walk_at "my st") ?_ (by simp) (by walk_at "my put") ?_; exact T.fs _ _ (by decide +kernel))
  refine WB_ret (ca ?_)
  refine WL_str ks_43 (WL_cons (WE_slice (att ?_)))
  refine lo ?_
  refine lo ?_
  refine U_cut (by walk_at "my sl") (by rw [show j + 1 + scanN isWd (t.drop (j + 1)) = j + (scanN isWd (t.drop (j + 1)) + 1) by walk_at "o", cutA]) ?_
  refine lz ?_
  refine Token_ok T fun tx htx => ?_
  exact h tx (free_set htx)
theorem escaped_ok (T : Txt c) {j : Nat} (L : LexAt σ dx t i kd) (hp : 0 < scanN notLay (t.drop (j + 1))) (h : ∀ tx, σ tx = none → Q (.inst .token tx) ((σ.set dx (lexNs t ((j + 1 + scanN notLay (t.drop (j + 1)) : Nat)) kd)).set tx (tokNs [105, 100] (.str ((t.drop (j + 1)).take (scanN notLay (t.drop (j + 1))))) j))) : MC c (d + 4) .lexer "escaped" [.inst .lexer dx, .int j] σ Q := by
 have hn := L.ns
 have hkd := L.keys
 have hz := L.size
 have hne := L.ne
 refine MC_fn T.OK T.m_escaped ["self", "at"] _ (show WB _ _ _ _ [("self", _), ("at", _)] _ _ from ?_)
 refine WB_name (bl ?_)
 refine WE_int (.add ?_)
 refine WB_cons (WS_while ?_)
 obtain ⟨k, hk⟩ : ∃ k, k = (j + 1) := ⟨_, rfl⟩
 refine WW.post [("end", .int (((k + scanN notLay (t.drop k) : Nat) : Int) : Int)), ("self", .inst .lexer dx), ("at", .int (j : Int))] σ ?_ ?_
 ·refine WW.weak (ρ := [("end", .int (((k : Nat) : Int) : Int)), ("self", .inst .lexer dx), ("at", .int (j : Int))]) ?_ (by rw [hk]; walk_at "my sub")
  clear h hk
  generalize hs : t.drop k = s
  generalize hE : k + scanN notLay s = E
  induction s generalizing k with
  | nil =>
   refine WW_step ?_
   refine WT_and (WT_cmp T.OK (me ?_))
   refine lz ?_
   refine char_dr T L hs ?_
   refine WE_strE ks_12 (.neS ?_)
   refine ite_f (rfl) (ite_f rfl (WB_nil ?_))
   obtain rfl : k = E := hE
   exact ⟨rfl, by walk_at "my sub", rfl⟩
  | cons x s ih =>
   refine WW_step ?_
   refine WT_and (WT_cmp T.OK (me ?_))
   refine lz ?_
   refine char_dr T L hs ?_
   refine WE_strE ks_12 (.neS ?_)
   refine ite_t (rfl) (WT_and1 (WT_not (WT_val (ca ?_))))
   refine WL_cons (me ?_)
   refine lz ?_
   refine char_dr T L hs ?_
   refine WL_nil (is_layout1_ok T ?_)
   walk_at "my tr"
   refine ite_b (fun hb1 => ?_) (fun hb1 => ?_)
   ·refine WB_name (bl ?_)
    refine WE_int (.add ?_)
    refine WB_nil (L_next ?_)
    have e1 : notLay x = true := by simp_all [notLay, isLayout, isLay]
    exact WW.weak (ρ := [("end", .int (((k + 1 : Nat) : Int) : Int)), ("self", .inst .lexer dx), ("at", .int (j : Int))]) (ih (k + 1) (drop_cons hs) ((scanN_up e1).symm.trans hE)) (by walk_at "my sub")
   ·refine WB_nil ?_
    have e1 : notLay x = false := by simp_all [notLay, isLayout, isLay]
    obtain rfl : k = E := (scanN_no e1).symm.trans hE
    exact ⟨rfl, by walk_at "my sub", rfl⟩
 ·subst hk
  refine WB_if (cl ?_)
  refine bl ?_
  refine WE_int (.add ?_)
  refine .eqI ?_
  refine ite_f (by simp; omega) ?_
  refine WB_nil (WB_cons (WS_attr' T.OK ?_))
  refine lo ?_
  refine lo ?_
  (refine E_set (by walk_at "my st") ?_ (by simp) (by walk_at "my put") ?_; exact T.fs _ _ (by decide +kernel))
  refine WB_ret (ca ?_)
  refine WL_str ks_38 (WL_cons (WE_slice (att ?_)))
  refine bl ?_
  refine WE_int (.add ?_)
  refine lo ?_
  refine U_cut (by walk_at "my sl") (by rw [show (j : Int) + 1 = ((j + 1 : Nat) : Int) by walk_at "o", cutA]) ?_
  refine lz ?_
  refine Token_ok T fun tx htx => ?_
  exact h tx (free_set htx)
theorem is_real_ok (T : Txt c) {j : Nat} (L : LexAt σ dx t i kd) (h1 : (t.drop j).take 1 ≠ [46]) (h2 : [[101], [69]].contains ((t.drop j).take 1) = false) (h : Q (.bool false) σ) : MC c (d + 2) .lexer "is_real" [.inst .lexer dx, .int j] σ Q := by
 have hn := L.ns
 have hkd := L.keys
 have hz := L.size
 have hne := L.ne
 refine MC_fn T.OK T.m_is_real ["self", "end"] _ (show WB _ _ _ _ [("self", _), ("end", _)] _ _ from ?_)
 refine WB_if (WT_cmp T.OK (me ?_))
 refine lz ?_
 refine char_ok T L ?_
 refine WE_strE ks_53 (.eqS ?_)
 refine ite_f (decide_eq_false h1) ?_
 refine WB_nil (WB_if (WT_cmp T.OK (me ?_)))
 refine lz ?_
 refine char_ok T L ?_
 refine WE_tup (WL_str ks_115 (WL_str1 ks_116 ?_))
 refine ⟨by walk_at "my sz", ?_⟩
 refine C_niT rfl ?_
 refine ite_t (by rw [h2]; rfl) ?_
 exact WB_ret (WE_bool h)
theorem number_ok (T : Txt c) {j n : Nat} (L : LexAt σ dx t i kd) (hn0 : scanN isDg (t.drop j) = n) (hu : 95 ∉ (t.drop j).take n) (h1 : (t.drop (j + n)).take 1 ≠ [46]) (h2 : [[101], [69]].contains ((t.drop (j + n)).take 1) = false) (h3 : (t.drop (j + n + scanN isLay (t.drop (j + n)))).take 1 ≠ [39]) (h : ∀ tx, σ tx = none → Q (.inst .token tx) ((σ.set dx (lexNs t ((j + n : Nat)) kd)).set tx (tokNs [110, 117, 109] (.tup [.str [], .str [], .bool true, .str ((t.drop j).take n)]) j))) : MC c (d + 5) .lexer "number" [.inst .lexer dx, .int j] σ Q := by
 have hn := L.ns
 have hkd := L.keys
 have hz := L.size
 have hne := L.ne
 refine MC_fn T.OK T.m_number ["self", "at"] _ (show WB _ _ _ _ [("self", _), ("at", _)] _ _ from ?_)
 refine WB_name (lo ?_)
 refine WB_cons (WS_while ?_)
 obtain ⟨k, hk⟩ : ∃ k, k = j := ⟨_, rfl⟩
 refine WW.post [("end", .int (((k + scanN isDg (t.drop k) : Nat) : Int) : Int)), ("self", .inst .lexer dx), ("at", .int (j : Int))] σ ?_ ?_
 ·refine WW.weak (ρ := [("end", .int (((k : Nat) : Int) : Int)), ("self", .inst .lexer dx), ("at", .int (j : Int))]) ?_ (by rw [hk]; walk_at "my sub")
  clear h hk
  generalize hs : t.drop k = s
  generalize hE : k + scanN isDg s = E
  induction s generalizing k with
  | nil =>
   refine WW_step ?_
   refine WT_or (WT_val (ca ?_))
   refine WL_cons (me ?_)
   refine lz ?_
   refine char_dr T L hs ?_
   refine WL_nil (is_digit_ok T ?_)
   walk_at "my tr"
   refine ite_f (rfl) (WT_or1 (WT_cmp T.OK (me ?_)))
   refine lz ?_
   refine char_dr T L hs ?_
   refine WE_strE ks_45 (.eqS ?_)
   refine ite_f (rfl) (WB_nil ?_)
   obtain rfl : k = E := hE
   exact ⟨rfl, by walk_at "my sub", rfl⟩
  | cons x s ih =>
   refine WW_step ?_
   refine WT_or (WT_val (ca ?_))
   refine WL_cons (me ?_)
   refine lz ?_
   refine char_dr T L hs ?_
   refine WL_nil (is_digit_ok T ?_)
   walk_at "my tr"
   refine ite_b (fun hb1 => ?_) (fun hb1 => ?_)
   ·refine ite_t rfl (WB_name (bl ?_))
    refine WE_int (.add ?_)
    refine WB_nil (L_next ?_)
    have e1 : isDg x = true := or_l hb1
    exact WW.weak (ρ := [("end", .int (((k + 1 : Nat) : Int) : Int)), ("self", .inst .lexer dx), ("at", .int (j : Int))]) (ih (k + 1) (drop_cons hs) ((scanN_up e1).symm.trans hE)) (by walk_at "my sub")
   ·refine WT_or1 (WT_cmp T.OK (me ?_))
    refine lz ?_
    refine char_dr T L hs ?_
    refine WE_strE ks_45 (.eqS ?_)
    refine ite_b (fun hb2 => ?_) (fun hb2 => ?_)
    ·refine WB_name (bl ?_)
     refine WE_int (.add ?_)
     refine WB_nil (L_next ?_)
     have e1 : isDg x = true := or_r hb2
     exact WW.weak (ρ := [("end", .int (((k + 1 : Nat) : Int) : Int)), ("self", .inst .lexer dx), ("at", .int (j : Int))]) (ih (k + 1) (drop_cons hs) ((scanN_up e1).symm.trans hE)) (by walk_at "my sub")
    ·refine WB_nil ?_
     have e1 : isDg x = false := or_n hb1 hb2
     obtain rfl : k = E := (scanN_no e1).symm.trans hE
     exact ⟨rfl, by walk_at "my sub", rfl⟩
 ·subst hk
  refine WB_if (WT_val (me ?_))
  refine lz ?_
  refine is_real_ok T L (by rw [hn0]; exact h1) (by rw [hn0]; exact h2) ?_
  walk_at "my tr"
  refine ite_f (rfl) (WB_nil (WB_name (WE_meth T.OK (WE_slice (att ?_)))))
  refine lo ?_
  refine lo ?_
  refine U_cut (by walk_at "my sl") (cutA _ _ _) ?_
  refine ⟨_, GM_str F.slot_str_replace F.type_str_replace, ?_⟩
  refine WL_str ks_45 (WL_str1 ks_12 ?_)
  rw [hn0] at *
  refine CV_replace hu ?_
  refine WB_name (me ?_)
  refine lz ?_
  refine past_layout_ok T L ?_
  refine WB_if (WT_cmp T.OK (me ?_))
  refine lz ?_
  refine char_ok T L ?_
  refine WE_strE ks_49 (.eqS ?_)
  refine ite_f (decide_eq_false h3) ?_
  refine WB_nil (WB_cons (WS_attr' T.OK ?_))
  refine lo ?_
  refine lo ?_
  (refine E_set (by walk_at "my st") ?_ (by simp) (by walk_at "my put") ?_; exact T.fs _ _ (by decide +kernel))
  refine WB_ret (ca ?_)
  refine WL_str ks_36 (WL_cons (WE_tup (WL_str ks_12 (WL_str ks_12 (WL_cons (WE_bool (lz ?_)))))))
  refine ⟨by walk_at "my sz", ?_⟩
  refine lz ?_
  refine Token_ok T fun tx htx => ?_
  exact h tx (free_set htx)
end
noncomputable def isBd (x : Nat) : Bool := isWord [x] || decide ([x] = [63])
noncomputable def bit (x : Nat) : Bool := [48, 49, 120, 122].contains x
theorem bit_facts {x : Nat} (h : bit x = true) : isBd x = true ∧ isLay x = false ∧ x ≠ 63 ∧ x ≠ 95 ∧ [48, 49, 120, 122, 63].contains x = true ∧ (33 ≤ x ∧ x < 127 ∧ (x < 65 ∨ 90 < x)) := by
 have : x = 48 ∨ x = 49 ∨ x = 120 ∨ x = 122 := by simpa [bit] using h
 rcases this with rfl | rfl | rfl | rfl <;> decide
section
variable {c : Cx} {d : Nat} {σ : Store} {Q : V → Store → Prop} {t : List Nat} {dx kd : Addr} {i : Int}
theorem fits_base_ok (T : Txt c) {digits : List Nat} (hd : digits ≠ []) (hb : ∀ x ∈ digits, bit x = true) (h : Q (.bool true) σ) : CF c (d + 1) "fits_base" [.str [98], .str digits] σ Q := by
 refine CF_fn T.OK T.f_fits_base ["base", "digits"] _ (show WB _ _ _ _ [("base", _), ("digits", _)] _ _ from ?_)
 refine WB_if (WT_eqLS ks_12 ?_)
 refine ite_f (decide_eq_false hd) ?_
 refine WB_nil (WB_if (WT_and (WT_eqLS ks_47 ?_)))
 refine ite_f (rfl) (ite_f rfl (WB_nil (WB_name (WE_strE ks_8 (WB_if (WT_eqLS ks_14 ?_))))))
 refine ite_t (rfl) (WB_name (WE_strE ks_15 (WB_nil (WB_cons (WS_for ?_ (fun _ _ => rfl))))))
 refine lo ?_
 refine H_str ?_
 refine WF.post [] σ ?_ ?_
 ·refine WF.weak (ρ := [("allowed", .str [48, 49, 120, 122, 63])]) ?_ (by walk_at "my sub")
  clear h hd
  induction digits with
  | nil =>
   refine WF_nil ?_
   refine WB_nil ?_
   exact ⟨rfl, subL_nil, rfl⟩
  | cons x s ih =>
   refine WF_cons ?_
   refine G_name (by decide +kernel) (WB_if (cl ?_))
   refine lo ?_
   refine C_niS ?_
   refine ite_f (by rw [(bit_facts (hb x (.head _))).2.2.2.2.1]; rfl) ?_
   exact WB_nil (WB_nil (L_next (WF.weak (ρ := [("allowed", .str [48, 49, 120, 122, 63])]) (ih fun y hy => hb y (.tail _ hy)) (by walk_at "my sub"))))
 ·skip
  exact WB_ret (WE_bool h)
theorem based_s_ok (T : Txt c) {j q : Nat} {size bits r : List Nat} (L : LexAt σ dx t i kd) (hq : t.drop (q + 1) = 115 :: 98 :: (bits ++ r)) (hb0 : bits ≠ []) (hb : ∀ x ∈ bits, bit x = true) (hr : ∀ x s, r = x :: s → isBd x = false) (h : ∀ tx, σ tx = none → Q (.inst .token tx) ((σ.set dx (lexNs t ((q + 3 + bits.length : Nat)) kd)).set tx (tokNs [110, 117, 109] (.tup [.str size, .str [98], .bool true, .str bits]) j))) : MC c (d + 4) .lexer "based" [.inst .lexer dx, .int j, .int q, .str size] σ Q := by
 have hn := L.ns
 have hkd := L.keys
 have hz := L.size
 have hne := L.ne
 have hq1 : (t.drop (q + 1)).take 1 = [115] := by rw [hq]; rfl
 have hq2 : (t.drop (q + 2)).take 1 = [98] := by rw [drop_cons hq]; rfl
 have hq3 : t.drop (q + 3) = bits ++ r := drop_cons (drop_cons hq)
 obtain ⟨b0, bs, rfl⟩ : ∃ b0 bs, bits = b0 :: bs := by cases bits with | nil => exact absurd rfl hb0 | cons a b => exact ⟨a, b, rfl⟩
 have hbf := bit_facts (hb b0 (.head _))
 have hq4 : (t.drop (q + 3)).take 1 = [b0] := by rw [hq3]; rfl
 have h63 : b0 ≠ 63 := hbf.2.2.1
 have h95 : b0 ≠ 95 := hbf.2.2.2.1
 have hq5 : scanN isLay (t.drop (q + 3)) = 0 := by rw [hq3]; simp [scanN, hbf.2.1]
 have hsc : scanN isBd (b0 :: bs ++ r) = (b0 :: bs).length := scanN_app (fun x hx => (bit_facts (hb x hx)).1) hr
 rw [← hsc, ← hq3] at h
 have hlen : (b0 :: bs).length ≤ t.length := by have := congrArg List.length hq3; simp only [List.length_drop, List.length_append] at this; omega
 refine MC_fn T.OK T.m_based ["self", "at", "quote", "size"] _ (show WB _ _ _ _ [("self", _), ("at", _), ("quote", _), ("size", _)] _ _ from ?_)
 refine WB_name (bl ?_)
 refine WE_int (.add ?_)
 refine WB.weak (ρ := [("index", .int ((q + 1 : Nat) : Int)), ("self", .inst .lexer dx), ("at", .int (j : Int)), ("size", .str size)]) ?_ (by walk_at "my sub")
 refine WB_name (WE_cmp T.OK (me ?_))
 refine lz ?_
 refine char_eq T L hq1 ?_
 refine WE_tup (WL_str ks_117 (WL_str1 ks_118 ?_))
 refine ⟨by walk_at "my sz", ?_⟩
 refine C_inTb (b := true) rfl rfl ?_
 refine WB_if (WT_val (lo ?_))
 walk_at "my tr"
 refine ite_t (rfl) (WB_name (bl ?_))
 refine WE_int (.add ?_)
 refine WB.weak (ρ := [("index", .int ((q + 2 : Nat) : Int)), ("signed", .bool true), ("self", .inst .lexer dx), ("at", .int (j : Int)), ("size", .str size)]) ?_ (by walk_at "my sub")
 refine WB_nil (WB_name (WE_meth T.OK (me ?_)))
 refine lz ?_
 refine char_eq T L hq2 ?_
 refine ⟨_, GM_str F.slot_str_lower F.type_str_lower, ?_⟩
 refine WL_nil (CV_lower (by decide) (by decide) ?_)
 refine WB_if (cl ?_)
 refine WE_tup (WL_str ks_14 (WL_str ks_16 (WL_str ks_47 (WL_str1 ks_109 ?_))))
 refine ⟨by walk_at "my sz", ?_⟩
 refine C_niT rfl ?_
 refine ite_f (rfl) (WB_nil (WB_name (me ?_)))
 refine WL_cons (bl ?_)
 refine WE_int (.add ?_)
 refine WL_nil ?_
 rw [show ((q + 2 : Nat) : Int) + 1 = ((q + 3 : Nat) : Int) from rfl]
 refine past_layout_ok T L ?_
 rw [hq5]
 rw [show q + 3 + 0 = q + 3 from rfl]
 refine WB_name (lo ?_)
 refine WB_if (WT_cmp T.OK (me ?_))
 refine lz ?_
 refine char_eq T L hq4 ?_
 refine WE_strE ks_54 (.eqS ?_)
 refine ite_f (by simp [h63]) ?_
 refine WB_nil (WB_cons (WS_while ?_))
 obtain ⟨k, hk⟩ : ∃ k, k = (q + 3) := ⟨_, rfl⟩
 refine WW.post [("end", .int (((k + scanN isBd (t.drop k) : Nat) : Int) : Int)), ("self", .inst .lexer dx), ("at", .int (j : Int)), ("size", .str size), ("signed", .bool true), ("base", .str [98]), ("begin", .int ((q + 3 : Nat) : Int))] σ ?_ ?_
 ·refine WW.weak (ρ := [("end", .int (((k : Nat) : Int) : Int)), ("self", .inst .lexer dx), ("at", .int (j : Int)), ("size", .str size), ("signed", .bool true), ("base", .str [98]), ("begin", .int ((q + 3 : Nat) : Int))]) ?_ (by rw [hk]; walk_at "my sub")
  clear h hk
  generalize hs : t.drop k = s
  generalize hE : k + scanN isBd s = E
  induction s generalizing k with
  | nil =>
   refine WW_step ?_
   refine WT_or (WT_val (ca ?_))
   refine WL_cons (me ?_)
   refine lz ?_
   refine char_dr T L hs ?_
   refine WL_nil (is_word_char_ok T ?_)
   walk_at "my tr"
   refine ite_f (rfl) (WT_or1 (WT_and (WT_cmp T.OK (me ?_))))
   refine lz ?_
   refine char_dr T L hs ?_
   refine WE_strE ks_54 (.eqS ?_)
   refine ite_f (rfl) (ite_f rfl (WB_nil ?_))
   obtain rfl : k = E := hE
   exact ⟨rfl, by walk_at "my sub", rfl⟩
  | cons x s ih =>
   refine WW_step ?_
   refine WT_or (WT_val (ca ?_))
   refine WL_cons (me ?_)
   refine lz ?_
   refine char_dr T L hs ?_
   refine WL_nil (is_word_char_ok T ?_)
   walk_at "my tr"
   refine ite_b (fun hb1 => ?_) (fun hb1 => ?_)
   ·refine ite_t rfl (WB_name (bl ?_))
    refine WE_int (.add ?_)
    refine WB_nil (L_next ?_)
    have e1 : isBd x = true := or_l hb1
    exact WW.weak (ρ := [("end", .int (((k + 1 : Nat) : Int) : Int)), ("self", .inst .lexer dx), ("at", .int (j : Int)), ("size", .str size), ("signed", .bool true), ("base", .str [98]), ("begin", .int ((q + 3 : Nat) : Int))]) (ih (k + 1) (drop_cons hs) ((scanN_up e1).symm.trans hE)) (by walk_at "my sub")
   ·refine WT_or1 (WT_and (WT_cmp T.OK (me ?_)))
    refine lz ?_
    refine char_dr T L hs ?_
    refine WE_strE ks_54 (.eqS ?_)
    refine ite_b (fun hb2 => ?_) (fun hb2 => ?_)
    ·refine WT_and1 (cl ?_)
     refine WE_strE ks_47 (.neS ?_)
     refine ite_t (rfl) (WB_name (bl ?_))
     refine WE_int (.add ?_)
     refine WB_nil (L_next ?_)
     have e1 : isBd x = true := or_r hb2
     exact WW.weak (ρ := [("end", .int (((k + 1 : Nat) : Int) : Int)), ("self", .inst .lexer dx), ("at", .int (j : Int)), ("size", .str size), ("signed", .bool true), ("base", .str [98]), ("begin", .int ((q + 3 : Nat) : Int))]) (ih (k + 1) (drop_cons hs) ((scanN_up e1).symm.trans hE)) (by walk_at "my sub")
    ·refine ite_f rfl (WB_nil ?_)
     have e1 : isBd x = false := or_n hb1 hb2
     obtain rfl : k = E := (scanN_no e1).symm.trans hE
     exact ⟨rfl, by walk_at "my sub", rfl⟩
 ·subst hk
  refine WB_name (WE_meth T.OK (WE_meth T.OK (WE_slice (att ?_))))
  refine lo ?_
  refine lo ?_
  refine U_cut (by walk_at "my sl") (by rw [cutA, hq3, hsc, List.take_left]) ?_
  refine ⟨_, GM_str F.slot_str_lower F.type_str_lower, ?_⟩
  refine WL_nil ?_
  refine CV_lower (fun x hx => (bit_facts (hb x hx)).2.2.2.2.2) (by simp only [List.length_cons] at *; omega) ?_
  refine ⟨_, GM_str F.slot_str_replace F.type_str_replace, ?_⟩
  refine WL_str ks_45 (WL_str1 ks_12 (CV_replace (fun hx => (bit_facts (hb _ hx)).2.2.2.1 rfl) ?_))
  refine WB_if (WT_or (WT_cmp T.OK (me ?_)))
  refine lz ?_
  refine char_eq T L hq4 ?_
  refine WE_strE ks_45 (.eqS ?_)
  refine ite_f (by simp [h95]) ?_
  refine WT_or1 (WT_not (WT_val (ca ?_)))
  refine la ?_
  refine lz ?_
  refine fits_base_ok T hb0 hb ?_
  walk_at "my tr"
  refine ite_f (congrArg not (rfl)) ?_
  refine WB_nil (WB_cons (WS_attr' T.OK ?_))
  refine lo ?_
  refine lo ?_
  (refine E_set (by walk_at "my st") ?_ (by simp) (by walk_at "my put") ?_; exact T.fs _ _ (by decide +kernel))
  refine WB_ret (ca ?_)
  refine WL_str ks_36 (WL_cons (WE_tup (la ?_)))
  refine la ?_
  refine la ?_
  refine lz ?_
  refine ⟨by walk_at "my sz", ?_⟩
  refine lz ?_
  refine Token_ok T fun tx htx => ?_
  exact h tx (free_set htx)
theorem based_u_ok (T : Txt c) {j q : Nat} {size bits r : List Nat} (L : LexAt σ dx t i kd) (hq : t.drop (q + 1) = 98 :: (bits ++ r)) (hb0 : bits ≠ []) (hb : ∀ x ∈ bits, bit x = true) (hr : ∀ x s, r = x :: s → isBd x = false) (h : ∀ tx, σ tx = none → Q (.inst .token tx) ((σ.set dx (lexNs t ((q + 2 + bits.length : Nat)) kd)).set tx (tokNs [110, 117, 109] (.tup [.str size, .str [98], .bool false, .str bits]) j))) : MC c (d + 4) .lexer "based" [.inst .lexer dx, .int j, .int q, .str size] σ Q := by
 have hn := L.ns
 have hkd := L.keys
 have hz := L.size
 have hne := L.ne
 have hq1 : (t.drop (q + 1)).take 1 = [98] := by rw [hq]; rfl
 have hq2 : (t.drop (q + 1)).take 1 = [98] := by rw [hq]; rfl
 have hq3 : t.drop (q + 2) = bits ++ r := drop_cons hq
 obtain ⟨b0, bs, rfl⟩ : ∃ b0 bs, bits = b0 :: bs := by cases bits with | nil => exact absurd rfl hb0 | cons a b => exact ⟨a, b, rfl⟩
 have hbf := bit_facts (hb b0 (.head _))
 have hq4 : (t.drop (q + 2)).take 1 = [b0] := by rw [hq3]; rfl
 have h63 : b0 ≠ 63 := hbf.2.2.1
 have h95 : b0 ≠ 95 := hbf.2.2.2.1
 have hq5 : scanN isLay (t.drop (q + 2)) = 0 := by rw [hq3]; simp [scanN, hbf.2.1]
 have hsc : scanN isBd (b0 :: bs ++ r) = (b0 :: bs).length := scanN_app (fun x hx => (bit_facts (hb x hx)).1) hr
 rw [← hsc, ← hq3] at h
 have hlen : (b0 :: bs).length ≤ t.length := by have := congrArg List.length hq3; simp only [List.length_drop, List.length_append] at this; omega
 refine MC_fn T.OK T.m_based ["self", "at", "quote", "size"] _ (show WB _ _ _ _ [("self", _), ("at", _), ("quote", _), ("size", _)] _ _ from ?_)
 refine WB_name (bl ?_)
 refine WE_int (.add ?_)
 refine WB.weak (ρ := [("index", .int ((q + 1 : Nat) : Int)), ("self", .inst .lexer dx), ("at", .int (j : Int)), ("size", .str size)]) ?_ (by walk_at "my sub")
 refine WB_name (WE_cmp T.OK (me ?_))
 refine lz ?_
 refine char_eq T L hq1 ?_
 refine WE_tup (WL_str ks_117 (WL_str1 ks_118 ?_))
 refine ⟨by walk_at "my sz", ?_⟩
 refine C_inTb (b := false) rfl rfl ?_
 refine WB_if (WT_val (lo ?_))
 walk_at "my tr"
 refine ite_f (rfl) (WB_nil (WB_name (WE_meth T.OK (me ?_))))
 refine lz ?_
 refine char_eq T L hq2 ?_
 refine ⟨_, GM_str F.slot_str_lower F.type_str_lower, ?_⟩
 refine WL_nil (CV_lower (by decide) (by decide) ?_)
 refine WB_if (cl ?_)
 refine WE_tup (WL_str ks_14 (WL_str ks_16 (WL_str ks_47 (WL_str1 ks_109 ?_))))
 refine ⟨by walk_at "my sz", ?_⟩
 refine C_niT rfl ?_
 refine ite_f (rfl) (WB_nil (WB_name (me ?_)))
 refine WL_cons (bl ?_)
 refine WE_int (.add ?_)
 refine WL_nil ?_
 rw [show ((q + 1 : Nat) : Int) + 1 = ((q + 2 : Nat) : Int) from rfl]
 refine past_layout_ok T L ?_
 rw [hq5]
 rw [show q + 2 + 0 = q + 2 from rfl]
 refine WB_name (lo ?_)
 refine WB_if (WT_cmp T.OK (me ?_))
 refine lz ?_
 refine char_eq T L hq4 ?_
 refine WE_strE ks_54 (.eqS ?_)
 refine ite_f (by simp [h63]) ?_
 refine WB_nil (WB_cons (WS_while ?_))
 obtain ⟨k, hk⟩ : ∃ k, k = (q + 2) := ⟨_, rfl⟩
 refine WW.post [("end", .int (((k + scanN isBd (t.drop k) : Nat) : Int) : Int)), ("self", .inst .lexer dx), ("at", .int (j : Int)), ("size", .str size), ("signed", .bool false), ("base", .str [98]), ("begin", .int ((q + 2 : Nat) : Int))] σ ?_ ?_
 ·refine WW.weak (ρ := [("end", .int (((k : Nat) : Int) : Int)), ("self", .inst .lexer dx), ("at", .int (j : Int)), ("size", .str size), ("signed", .bool false), ("base", .str [98]), ("begin", .int ((q + 2 : Nat) : Int))]) ?_ (by rw [hk]; walk_at "my sub")
  clear h hk
  generalize hs : t.drop k = s
  generalize hE : k + scanN isBd s = E
  induction s generalizing k with
  | nil =>
   refine WW_step ?_
   refine WT_or (WT_val (ca ?_))
   refine WL_cons (me ?_)
   refine lz ?_
   refine char_dr T L hs ?_
   refine WL_nil (is_word_char_ok T ?_)
   walk_at "my tr"
   refine ite_f (rfl) (WT_or1 (WT_and (WT_cmp T.OK (me ?_))))
   refine lz ?_
   refine char_dr T L hs ?_
   refine WE_strE ks_54 (.eqS ?_)
   refine ite_f (rfl) (ite_f rfl (WB_nil ?_))
   obtain rfl : k = E := hE
   exact ⟨rfl, by walk_at "my sub", rfl⟩
  | cons x s ih =>
   refine WW_step ?_
   refine WT_or (WT_val (ca ?_))
   refine WL_cons (me ?_)
   refine lz ?_
   refine char_dr T L hs ?_
   refine WL_nil (is_word_char_ok T ?_)
   walk_at "my tr"
   refine ite_b (fun hb1 => ?_) (fun hb1 => ?_)
   ·refine ite_t rfl (WB_name (bl ?_))
    refine WE_int (.add ?_)
    refine WB_nil (L_next ?_)
    have e1 : isBd x = true := or_l hb1
    exact WW.weak (ρ := [("end", .int (((k + 1 : Nat) : Int) : Int)), ("self", .inst .lexer dx), ("at", .int (j : Int)), ("size", .str size), ("signed", .bool false), ("base", .str [98]), ("begin", .int ((q + 2 : Nat) : Int))]) (ih (k + 1) (drop_cons hs) ((scanN_up e1).symm.trans hE)) (by walk_at "my sub")
   ·refine WT_or1 (WT_and (WT_cmp T.OK (me ?_)))
    refine lz ?_
    refine char_dr T L hs ?_
    refine WE_strE ks_54 (.eqS ?_)
    refine ite_b (fun hb2 => ?_) (fun hb2 => ?_)
    ·refine WT_and1 (cl ?_)
     refine WE_strE ks_47 (.neS ?_)
     refine ite_t (rfl) (WB_name (bl ?_))
     refine WE_int (.add ?_)
     refine WB_nil (L_next ?_)
     have e1 : isBd x = true := or_r hb2
     exact WW.weak (ρ := [("end", .int (((k + 1 : Nat) : Int) : Int)), ("self", .inst .lexer dx), ("at", .int (j : Int)), ("size", .str size), ("signed", .bool false), ("base", .str [98]), ("begin", .int ((q + 2 : Nat) : Int))]) (ih (k + 1) (drop_cons hs) ((scanN_up e1).symm.trans hE)) (by walk_at "my sub")
    ·refine ite_f rfl (WB_nil ?_)
     have e1 : isBd x = false := or_n hb1 hb2
     obtain rfl : k = E := (scanN_no e1).symm.trans hE
     exact ⟨rfl, by walk_at "my sub", rfl⟩
 ·subst hk
  refine WB_name (WE_meth T.OK (WE_meth T.OK (WE_slice (att ?_))))
  refine lo ?_
  refine lo ?_
  refine U_cut (by walk_at "my sl") (by rw [cutA, hq3, hsc, List.take_left]) ?_
  refine ⟨_, GM_str F.slot_str_lower F.type_str_lower, ?_⟩
  refine WL_nil ?_
  refine CV_lower (fun x hx => (bit_facts (hb x hx)).2.2.2.2.2) (by simp only [List.length_cons] at *; omega) ?_
  refine ⟨_, GM_str F.slot_str_replace F.type_str_replace, ?_⟩
  refine WL_str ks_45 (WL_str1 ks_12 (CV_replace (fun hx => (bit_facts (hb _ hx)).2.2.2.1 rfl) ?_))
  refine WB_if (WT_or (WT_cmp T.OK (me ?_)))
  refine lz ?_
  refine char_eq T L hq4 ?_
  refine WE_strE ks_45 (.eqS ?_)
  refine ite_f (by simp [h95]) ?_
  refine WT_or1 (WT_not (WT_val (ca ?_)))
  refine la ?_
  refine lz ?_
  refine fits_base_ok T hb0 hb ?_
  walk_at "my tr"
  refine ite_f (congrArg not (rfl)) ?_
  refine WB_nil (WB_cons (WS_attr' T.OK ?_))
  refine lo ?_
  refine lo ?_
  (refine E_set (by walk_at "my st") ?_ (by simp) (by walk_at "my put") ?_; exact T.fs _ _ (by decide +kernel))
  refine WB_ret (ca ?_)
  refine WL_str ks_36 (WL_cons (WE_tup (la ?_)))
  refine la ?_
  refine la ?_
  refine lz ?_
  refine ⟨by walk_at "my sz", ?_⟩
  refine lz ?_
  refine Token_ok T fun tx htx => ?_
  exact h tx (free_set htx)
end
theorem LexAt.go {σ : Store} {dx : Addr} {t : List Nat} {i : Int} {kd : Addr} (L : LexAt σ dx t i kd) (j : Int) : LexAt (σ.set dx (lexNs t j kd)) dx t j kd := ⟨Store.set_self _ _ _, (Store.set_ne _ _ L.ne).trans L.keys, L.size⟩
section
variable {c : Cx} {d : Nat} {σ : Store} {Q : V → Store → Prop} {t : List Nat} {dx kd : Addr} {i : Int}
theorem skip_loop (T : Txt c) {Q : Fl → Locals → Store → Prop} (L0 : LexAt σ dx t i kd) (s : List Nat) : ∀ (j : Nat), t.drop j = s → (∀ p, (s.drop (scanN isLay s)).take 2 = p → p ≠ [47, 47] ∧ p ≠ [47, 42] ∧ p ≠ [40, 42]) → (∀ ρ, Q (.ret .none) ρ (σ.set dx (lexNs t ((j + scanN isLay s : Nat) : Int) kd))) →
  WW c (d + 4) (fnScope (meth 12 5)) (wT (nth (fnBody (meth 12 5)) 0)) (wB (nth (fnBody (meth 12 5)) 0)) [] [("self", .inst .lexer dx)] (σ.set dx (lexNs t (j : Int) kd)) Q := by
 induction s with
 | nil =>
  intro j hs hp h
  have L := L0.go (j : Int)
  have hn := L.ns
  have hz := L.size
  refine WW_step ?_
  refine WT_val (WE_bool ?_)
  walk_at "my tr"
  refine ite_t rfl (WB_name (me ?_))
  refine WL_cons (att ?_)
  refine WL_nil (char_dr T L hs ?_)
  refine WB_name (me ?_)
  refine WL_cons (att ?_)
  refine WL_nil (pair_dr T L hs ?_)
  refine WB_if (WT_val (ca ?_))
  refine lz ?_
  refine is_layout0_ok T ?_
  walk_at "my tr"
  refine ite_f (rfl) (WB_if (WT_eqLS ks_126 ?_))
  refine ite_f (rfl) (WB_if (WT_eqLS ks_132 ?_))
  refine ite_f (rfl) (WB_if (WT_and (WT_eqLS ks_135 ?_)))
  refine ite_f (rfl) (ite_f rfl (WB_cons (WS_retN ?_)))
  refine N_ret (N_ret (N_ret (N_ret ?_)))
  exact N_ret (L_ret (h _))
 | cons x s ih =>
  intro j hs hp h
  have L := L0.go (j : Int)
  have hn := L.ns
  have hz := L.size
  refine WW_step ?_
  refine WT_val (WE_bool ?_)
  walk_at "my tr"
  refine ite_t rfl (WB_name (me ?_))
  refine WL_cons (att ?_)
  refine WL_nil (char_dr T L hs ?_)
  refine WB_name (me ?_)
  refine WL_cons (att ?_)
  refine WL_nil (pair_dr T L hs ?_)
  refine WB_if (WT_val (ca ?_))
  refine lz ?_
  refine is_layout1_ok T ?_
  walk_at "my tr"
  refine ite_b (fun hb1 => ?_) (fun hb1 => ?_)
  ·refine WB_cons (WS_attr' T.OK ?_)
   refine WE_bin (att ?_)
   refine WE_int (.add ?_)
   refine lo ?_
   (refine E_set (by walk_at "my st") ?_ (by simp) (by walk_at "my put") ?_; exact T.fs _ _ (by decide +kernel))
   refine WB_nil (WB_nil (L_next ?_))
   have e1 : isLay x = true := by simp_all [isLay, isLayout]
   have e2 : scanN isLay (x :: s) = scanN isLay s + 1 := by simp only [scanN, e1, if_true]
   rw [e2] at h hp
   refine WW.weak (ρ := [("self", .inst .lexer dx)]) ?_ (by walk_at "my sub")
   rw [Store.set_set]
   exact ih (j + 1) (drop_cons hs) hp (by rw [show j + 1 + scanN isLay s = j + (scanN isLay s + 1) by walk_at "o"]; exact h)
  ·have e1 : isLay x = false := by simp_all [isLay, isLayout]
   have e2 : scanN isLay (x :: s) = 0 := by simp [scanN, e1]
   have hp0 := hp _ rfl
   rw [e2] at hp0
   have h2 := h
   rw [e2] at h2
   refine WB_if (WT_eqLS ks_126 ?_)
   refine ite_f (decide_eq_false hp0.1) ?_
   refine WB_if (WT_eqLS ks_132 ?_)
   refine ite_f (decide_eq_false hp0.2.1) ?_
   refine WB_if (WT_and (WT_eqLS ks_135 ?_))
   refine ite_f (decide_eq_false hp0.2.2) ?_
   refine ite_f rfl (WB_cons (WS_retN ?_))
   refine N_ret (N_ret (N_ret (N_ret ?_)))
   exact N_ret (L_ret (h2 _))
theorem skip_ok (T : Txt c) {j : Nat} (L : LexAt σ dx t j kd) (hp : ∀ p, ((t.drop j).drop (scanN isLay (t.drop j))).take 2 = p → p ≠ [47, 47] ∧ p ≠ [47, 42] ∧ p ≠ [40, 42]) (h : Q .none (σ.set dx (lexNs t ((j + scanN isLay (t.drop j) : Nat) : Int) kd))) : MC c (d + 5) .lexer "skip" [.inst .lexer dx] σ Q := by
 have hn := L.ns
 refine MC_fn T.OK T.m_skip ["self"] _ (show WB _ _ _ _ [("self", _)] _ _ from ?_)
 refine WB_cons (WS_while ?_)
 rw [← Store.set_id hn]
 exact skip_loop T L _ j rfl hp fun ρ => by refine N_ret ?_; refine R_ret ?_; exact h
end
noncomputable def ops2 : List (List Nat) := [[42, 42], [60, 60], [62, 62], [60, 61], [62, 61], [61, 61], [33, 61], [38, 38], [124, 124], [126, 38], [126, 124], [126, 94], [94, 126], [45, 62], [43, 58], [45, 58], [61, 62]]
theorem ops2_eq : splitL 32 [42, 42, 32, 60, 60, 32, 62, 62, 32, 60, 61, 32, 62, 61, 32, 61, 61, 32, 33, 61, 32, 38, 38, 32, 124, 124, 32, 126, 38, 32, 126, 124, 32, 126, 94, 32, 94, 126, 32, 45, 62, 32, 43, 58, 32, 45, 58, 32, 61, 62] = ops2 := by decide +kernel
noncomputable def ops1 : List Nat := [43, 45, 33, 126, 38, 124, 94, 42, 47, 37, 60, 62, 61, 63, 58, 40, 41, 91, 93, 123, 125, 44, 59, 46, 64, 35]
noncomputable def ops3 : List (List Nat) := [[60, 60, 60], [62, 62, 62], [61, 61, 61], [33, 61, 61]]
section
variable {c : Cx} {d : Nat} {σ : Store} {Q : V → Store → Prop} {t : List Nat} {dx kd : Addr} {i : Int}
theorem op3_ok (T : Txt c) {j : Nat} (L : LexAt σ dx t i kd) (hl : 3 ≤ (t.drop j).length) (h3 : ops3.contains ((t.drop j).take 3) = true) (h : ∀ tx, σ tx = none → Q (.inst .token tx) ((σ.set dx (lexNs t ((j + 3 : Nat)) kd)).set tx (tokNs [111, 112] (.str ((t.drop j).take 3)) j))) : MC c (d + 4) .lexer "operator" [.inst .lexer dx, .int j] σ Q := by
 have hn := L.ns
 have hkd := L.keys
 have hz := L.size
 have hne := L.ne
 have hlen : ((t.drop j).take 3).length = 3 := by rw [List.length_take]; omega
 unfold ops3 at h3
 refine MC_fn T.OK T.m_operator ["self", "at"] _ (show WB _ _ _ _ [("self", _), ("at", _)] _ _ from ?_)
 refine WB_name (WE_slice (att ?_))
 refine lo ?_
 refine bl ?_
 refine WE_int (.add ?_)
 refine U_cut (by walk_at "my sl") (cut3 _ _) ?_
 refine WB_if (cl ?_)
 refine WE_tup (WL_str ks_73 (WL_str ks_74 (WL_str ks_65 (WL_str1 ks_66 ?_))))
 refine ⟨by walk_at "my sz", ?_⟩
 refine C_niT rfl ?_
 refine ite_f (by rw [h3]; rfl) ?_
 refine WB_nil (WB_cons (WS_attr' T.OK ?_))
 refine bl ?_
 refine ca ?_
 refine lz ?_
 refine X_len T ?_
 refine CV_len_str (by walk_at "my sz") ?_
 refine .add ?_
 refine lo ?_
 (refine E_set (by walk_at "my st") ?_ (by simp) (by walk_at "my put") ?_; exact T.fs _ _ (by decide +kernel))
 rw [show (j : Int) + ((List.take 3 (List.drop j t)).length : Nat) = ((j + 3 : Nat) : Int) by rw [hlen]; omega]
 refine WB_ret (ca ?_)
 refine WL_str ks_59 (la ?_)
 refine lz ?_
 refine Token_ok T fun tx htx => ?_
 exact h tx (free_set htx)
theorem op2_ok (T : Txt c) {j : Nat} (L : LexAt σ dx t i kd) (hl : 2 ≤ (t.drop j).length) (h3 : ops3.contains ((t.drop j).take 3) = false) (h2 : ops2.contains ((t.drop j).take 2) = true) (h : ∀ tx, σ tx = none → Q (.inst .token tx) ((σ.set dx (lexNs t ((j + 2 : Nat)) kd)).set tx (tokNs [111, 112] (.str ((t.drop j).take 2)) j))) : MC c (d + 4) .lexer "operator" [.inst .lexer dx, .int j] σ Q := by
 refine MC.sub ?_
 have hn := L.ns
 have hkd := L.keys
 have hz := L.size
 have hne := L.ne
 have hlen : ((t.drop j).take 2).length = 2 := by rw [List.length_take]; omega
 unfold ops3 at h3
 refine MC_fn T.OK T.m_operator ["self", "at"] _ (show WB _ _ _ _ [("self", _), ("at", _)] _ _ from ?_)
 refine WB_name (WE_slice (att ?_))
 refine lo ?_
 refine bl ?_
 refine WE_int (.add ?_)
 refine U_cut (by walk_at "my sl") (cut3 _ _) ?_
 refine WB_if (cl ?_)
 refine WE_tup (WL_str ks_73 (WL_str ks_74 (WL_str ks_65 (WL_str1 ks_66 ?_))))
 refine ⟨by walk_at "my sz", ?_⟩
 refine C_niT rfl ?_
 refine ite_t (by rw [h3]; rfl) ?_
 refine WB_name (me ?_)
 refine lz ?_
 refine pair_ok T L ?_
 refine WB_if (cl ?_)
 refine WE_meth T.OK (WE_strE ks_133 ?_)
 refine ⟨_, GM_str F.slot_str_split F.type_str_split, ?_⟩
 refine WL_str1 ks_13 (CV_split (by decide) (by decide) (by decide) fun AL hAL => ?_)
 (refine C_niL (by walk_at "my st") (by walk_at "my strs") ?_; rw [ops2_eq])
 refine ite_f (by rw [h2]; rfl) ?_
 refine WB_nil (WB_nil (WB_cons (WS_attr' T.OK ?_)))
 refine bl ?_
 refine ca ?_
 refine lz ?_
 refine X_len T ?_
 refine CV_len_str (by walk_at "my sz") ?_
 refine .add ?_
 refine lo ?_
 (refine E_set (by walk_at "my st") ?_ (by simp) (by walk_at "my put") ?_; exact T.fs _ _ (by decide +kernel))
 rw [show (j : Int) + ((List.take 2 (List.drop j t)).length : Nat) = ((j + 2 : Nat) : Int) by rw [hlen]; omega]
 refine WB_ret (ca ?_)
 refine WL_str ks_59 (la ?_)
 refine lz ?_
 refine Token_ok T fun tx htx => ?_
 refine N_ret (R_ret ?_)
 refine ⟨_, ?_, h tx (free_set (free_set htx))⟩
 exact (((SubS.refl σ).new hAL).set).set
theorem op1_ok (T : Txt c) {j x : Nat} {r : List Nat} (L : LexAt σ dx t i kd) (hx : t.drop j = x :: r) (h1 : ops1.contains x = true) (h3 : ops3.contains ((t.drop j).take 3) = false) (h2 : ops2.contains ((t.drop j).take 2) = false) (h : ∀ tx, σ tx = none → Q (.inst .token tx) ((σ.set dx (lexNs t ((j + 1 : Nat)) kd)).set tx (tokNs [111, 112] (.str ((t.drop j).take 1)) j))) : MC c (d + 4) .lexer "operator" [.inst .lexer dx, .int j] σ Q := by
 refine MC.sub ?_
 have hn := L.ns
 have hkd := L.keys
 have hz := L.size
 have hne := L.ne
 have hl : 1 ≤ (t.drop j).length := by rw [hx]; simp
 have hlen : ((t.drop j).take 1).length = 1 := by rw [List.length_take]; omega
 unfold ops3 at h3
 unfold ops1 at h1
 have hx1 : (t.drop j).take 1 = [x] := by rw [hx]; rfl
 rw [hx1] at h
 refine MC_fn T.OK T.m_operator ["self", "at"] _ (show WB _ _ _ _ [("self", _), ("at", _)] _ _ from ?_)
 refine WB_name (WE_slice (att ?_))
 refine lo ?_
 refine bl ?_
 refine WE_int (.add ?_)
 refine U_cut (by walk_at "my sl") (cut3 _ _) ?_
 refine WB_if (cl ?_)
 refine WE_tup (WL_str ks_73 (WL_str ks_74 (WL_str ks_65 (WL_str1 ks_66 ?_))))
 refine ⟨by walk_at "my sz", ?_⟩
 refine C_niT rfl ?_
 refine ite_t (by rw [h3]; rfl) ?_
 refine WB_name (me ?_)
 refine lz ?_
 refine pair_ok T L ?_
 refine WB_if (cl ?_)
 refine WE_meth T.OK (WE_strE ks_133 ?_)
 refine ⟨_, GM_str F.slot_str_split F.type_str_split, ?_⟩
 refine WL_str1 ks_13 (CV_split (by decide) (by decide) (by decide) fun AL hAL => ?_)
 (refine C_niL (by walk_at "my st") (by walk_at "my strs") ?_; rw [ops2_eq])
 refine ite_t (by rw [h2]; rfl) ?_
 refine WB_name (me ?_)
 refine lz ?_
 refine char_ok T (L.new hAL) ?_
 refine WB_if (cl ?_)
 refine WE_strE ks_129 ?_
 (rw [hx1]; refine C_niS ?_)
 refine ite_f (congrArg not h1) ?_
 refine WB_nil (WB_nil (WB_nil (WB_cons (WS_attr' T.OK ?_))))
 refine bl ?_
 refine ca ?_
 refine lz ?_
 refine X_len T ?_
 refine CV_len_str (by walk_at "my sz") ?_
 refine .add ?_
 refine lo ?_
 (refine E_set (by walk_at "my st") ?_ (by simp) (by walk_at "my put") ?_; exact T.fs _ _ (by decide +kernel))
 rw [show (j : Int) + ((([x] : List Nat).length : Nat) : Int) = ((j + 1 : Nat) : Int) from rfl]
 refine WB_ret (ca ?_)
 refine WL_str ks_59 (la ?_)
 refine lz ?_
 refine Token_ok T fun tx htx => ?_
 refine N_ret (R_ret ?_)
 refine ⟨_, ?_, h tx (free_set (free_set htx))⟩
 exact (((SubS.refl σ).new hAL).set).set
theorem escape_end3_ok (T : Txt c) {j a b e : Nat} {r : List Nat} (L : LexAt σ dx t i kd) (hj : t.drop j = a :: b :: e :: r) (h1 : 48 ≤ a ∧ a ≤ 55) (h2 : 48 ≤ b ∧ b ≤ 55) (h3 : 48 ≤ e ∧ e ≤ 55) (h : Q (.int (j + 3 : Nat)) σ) : MC c (d + 4) .lexer "escape_end" [.inst .lexer dx, .int j] σ Q := by
 have hn := L.ns
 have hkd := L.keys
 have hz := L.size
 have hne := L.ne
 have hd0 : isDigit [a] = true := by unfold isDigit; rw [decide_eq_false (by rw [one_lt]; omega), decide_eq_false (by rw [one_lt]; omega)]; rfl
 have hs0 : (!decide ([55] < [a])) = true := by rw [decide_eq_false (by rw [one_lt]; omega)]; rfl
 have hd1 : isDigit [b] = true := by unfold isDigit; rw [decide_eq_false (by rw [one_lt]; omega), decide_eq_false (by rw [one_lt]; omega)]; rfl
 have hs1 : (!decide ([55] < [b])) = true := by rw [decide_eq_false (by rw [one_lt]; omega)]; rfl
 have hd2 : isDigit [e] = true := by unfold isDigit; rw [decide_eq_false (by rw [one_lt]; omega), decide_eq_false (by rw [one_lt]; omega)]; rfl
 have hs2 : (!decide ([55] < [e])) = true := by rw [decide_eq_false (by rw [one_lt]; omega)]; rfl
 have hc0 : (t.drop j).take 1 = [a] := by rw [hj]; rfl
 have hc1 : (t.drop (j + 1)).take 1 = [b] := by rw [drop_cons hj]; rfl
 have hc2 : (t.drop (j + 2)).take 1 = [e] := by rw [drop_cons (drop_cons hj)]; rfl
 refine MC_fn T.OK T.m_escape_end ["self", "index"] _ (show WB _ _ _ _ [("self", _), ("index", _)] _ _ from ?_)
 refine WB_name (lo ?_)
 refine WB_cons (WS_while (WW_step ?_))
 refine WT_and (cl ?_)
 refine bl ?_
 refine WE_int (.add ?_)
 refine .ltI ?_
 refine ite_t (decide_eq_true (by walk_at "o")) ?_
 refine WT_and (WT_val (ca ?_))
 refine WL_cons (me ?_)
 refine lz ?_
 refine char_eq T L hc0 ?_
 refine WL_nil (is_digit_ok T ?_)
 walk_at "my tr"
 refine ite_t (hd0) ?_
 refine WT_and1 (WT_cmp T.OK (me ?_))
 refine lz ?_
 refine char_eq T L hc0 ?_
 refine WE_strE ks_102 (.leS ?_)
 refine ite_t (hs0) ?_
 refine WB_name (bl ?_)
 refine WE_int (.add ?_)
 refine WB_nil (L_next (WW.weak (ρ := [("end", .int ((j + 1 : Nat) : Int)), ("self", .inst .lexer dx), ("index", .int (j : Int))]) ?_ (by walk_at "my sub")))
 refine WW_step ?_
 refine WT_and (cl ?_)
 refine bl ?_
 refine WE_int (.add ?_)
 refine .ltI ?_
 refine ite_t (decide_eq_true (by walk_at "o")) ?_
 refine WT_and (WT_val (ca ?_))
 refine WL_cons (me ?_)
 refine lz ?_
 refine char_eq T L hc1 ?_
 refine WL_nil (is_digit_ok T ?_)
 walk_at "my tr"
 refine ite_t (hd1) ?_
 refine WT_and1 (WT_cmp T.OK (me ?_))
 refine lz ?_
 refine char_eq T L hc1 ?_
 refine WE_strE ks_102 (.leS ?_)
 refine ite_t (hs1) ?_
 refine WB_name (bl ?_)
 refine WE_int (.add ?_)
 refine WB_nil (L_next (WW.weak (ρ := [("end", .int ((j + 2 : Nat) : Int)), ("self", .inst .lexer dx), ("index", .int (j : Int))]) ?_ (by walk_at "my sub")))
 refine WW_step ?_
 refine WT_and (cl ?_)
 refine bl ?_
 refine WE_int (.add ?_)
 refine .ltI ?_
 refine ite_t (decide_eq_true (by walk_at "o")) ?_
 refine WT_and (WT_val (ca ?_))
 refine WL_cons (me ?_)
 refine lz ?_
 refine char_eq T L hc2 ?_
 refine WL_nil (is_digit_ok T ?_)
 walk_at "my tr"
 refine ite_t (hd2) ?_
 refine WT_and1 (WT_cmp T.OK (me ?_))
 refine lz ?_
 refine char_eq T L hc2 ?_
 refine WE_strE ks_102 (.leS ?_)
 refine ite_t (hs2) ?_
 refine WB_name (bl ?_)
 refine WE_int (.add ?_)
 refine WB_nil (L_next (WW.weak (ρ := [("end", .int ((j + 3 : Nat) : Int)), ("self", .inst .lexer dx), ("index", .int (j : Int))]) ?_ (by walk_at "my sub")))
 refine WW_step ?_
 refine WT_and (cl ?_)
 refine bl ?_
 refine WE_int (.add ?_)
 refine .ltI ?_
 refine ite_f (decide_eq_false (by walk_at "o")) ?_
 refine ite_f rfl (WB_nil (WB_if (cl ?_)))
 refine lo ?_
 refine .eqI ?_
 refine ite_f (decide_eq_false (by walk_at "o")) ?_
 refine WB_nil (WB_ret (lo ?_))
 exact h
theorem escape_end1_ok (T : Txt c) {j a : Nat} {r : List Nat} (L : LexAt σ dx t i kd) (hj : t.drop j = a :: r) (h1 : isDigit [a] = false) (h : Q (.int (j + 1 : Nat)) σ) : MC c (d + 4) .lexer "escape_end" [.inst .lexer dx, .int j] σ Q := by
 have hn := L.ns
 have hkd := L.keys
 have hz := L.size
 have hne := L.ne
 have hd0 := h1
 have hc0 : (t.drop j).take 1 = [a] := by rw [hj]; rfl
 refine MC_fn T.OK T.m_escape_end ["self", "index"] _ (show WB _ _ _ _ [("self", _), ("index", _)] _ _ from ?_)
 refine WB_name (lo ?_)
 refine WB_cons (WS_while (WW_step ?_))
 refine WT_and (cl ?_)
 refine bl ?_
 refine WE_int (.add ?_)
 refine .ltI ?_
 refine ite_t (decide_eq_true (by walk_at "o")) ?_
 refine WT_and (WT_val (ca ?_))
 refine WL_cons (me ?_)
 refine lz ?_
 refine char_eq T L hc0 ?_
 refine WL_nil (is_digit_ok T ?_)
 walk_at "my tr"
 refine ite_f (hd0) ?_
 refine ite_f rfl (WB_nil (WB_if (cl ?_)))
 refine lo ?_
 refine .eqI ?_
 refine ite_t (decide_eq_true (by walk_at "o")) ?_
 refine WB_ret (bl ?_)
 refine WE_int (.add ?_)
 exact h
end
inductive Pc where | ch (x : Nat) | es (x : Nat) | oc (n : Nat)
noncomputable def Pc.enc : Pc → List Nat
 | .ch x => [x]
 | .es x => [92, if x = 10 then 110 else if x = 9 then 116 else x]
 | .oc n => [92, 48 + n / 64, 48 + n / 8 % 8, 48 + n % 8]
noncomputable def Pc.dec : Pc → Nat
 | .ch x => x
 | .es x => x
 | .oc n => n
noncomputable def Pc.ok : Pc → Prop
 | .ch x => x ≠ 34 ∧ x ≠ 10 ∧ x ≠ 92 ∧ x ≤ 255
 | .es x => x = 10 ∨ x = 9 ∨ x = 34 ∨ x = 92
 | .oc n => n < 256
theorem and255 : ∀ n : Nat, n < 256 → Builtin.bitAnd (n : Int) 255 = n := by decide +kernel
section
variable {c : Cx} {d : Nat} {σ : Store} {Q : V → Store → Prop} {t : List Nat} {dx kd : Addr} {i : Int}
theorem escape110_ok (T : Txt c) {j : Nat} {r : List Nat} {u : V} (L : LexAt σ dx t i kd) (hj : t.drop j = 110 :: r) (h : Q (.str [10]) σ) : MC c (d + 5) .lexer "escape" [.inst .lexer dx, .int j, u] σ Q := by
 have hn := L.ns
 have hkd := L.keys
 have hz := L.size
 have hne := L.ne
 have hc0 : (t.drop j).take 1 = [110] := by rw [hj]; rfl
 refine MC_fn T.OK T.m_escape ["self", "index", "begun"] _ (show WB _ _ _ _ [("self", _), ("index", _), ("begun", _)] _ _ from ?_)
 refine WB_name (me ?_)
 refine lz ?_
 refine char_eq T L hc0 ?_
 refine WB_if (WT_or (WT_eqLS ks_12 ?_))
 refine ite_f (rfl) (WT_or1 (WT_eqLS ks_56 ?_))
 refine ite_f (rfl) (WB_nil (WB_if (WT_cmp T.OK (ca ?_))))
 refine lz ?_
 refine X_ord T (CV_ord ?_)
 refine WE_int (.gtI ?_)
 refine ite_f (rfl) (WB_nil (WB_if (WT_eqLS ks_55 ?_)))
 exact ite_t (rfl) (WB_ret (WE_strE ks_56 h))
theorem escape116_ok (T : Txt c) {j : Nat} {r : List Nat} {u : V} (L : LexAt σ dx t i kd) (hj : t.drop j = 116 :: r) (h : Q (.str [9]) σ) : MC c (d + 5) .lexer "escape" [.inst .lexer dx, .int j, u] σ Q := by
 have hn := L.ns
 have hkd := L.keys
 have hz := L.size
 have hne := L.ne
 have hc0 : (t.drop j).take 1 = [116] := by rw [hj]; rfl
 refine MC_fn T.OK T.m_escape ["self", "index", "begun"] _ (show WB _ _ _ _ [("self", _), ("index", _), ("begun", _)] _ _ from ?_)
 refine WB_name (me ?_)
 refine lz ?_
 refine char_eq T L hc0 ?_
 refine WB_if (WT_or (WT_eqLS ks_12 ?_))
 refine ite_f (rfl) (WT_or1 (WT_eqLS ks_56 ?_))
 refine ite_f (rfl) (WB_nil (WB_if (WT_cmp T.OK (ca ?_))))
 refine lz ?_
 refine X_ord T (CV_ord ?_)
 refine WE_int (.gtI ?_)
 refine ite_f (rfl) (WB_nil (WB_if (WT_eqLS ks_55 ?_)))
 refine ite_f (rfl) (WB_nil (WB_if (WT_eqLS ks_57 ?_)))
 exact ite_t (rfl) (WB_ret (WE_strE ks_58 h))
theorem escape34_ok (T : Txt c) {j : Nat} {r : List Nat} {u : V} (L : LexAt σ dx t i kd) (hj : t.drop j = 34 :: r) (h : Q (.str [34]) σ) : MC c (d + 5) .lexer "escape" [.inst .lexer dx, .int j, u] σ Q := by
 have hn := L.ns
 have hkd := L.keys
 have hz := L.size
 have hne := L.ne
 have hc0 : (t.drop j).take 1 = [34] := by rw [hj]; rfl
 refine MC_fn T.OK T.m_escape ["self", "index", "begun"] _ (show WB _ _ _ _ [("self", _), ("index", _), ("begun", _)] _ _ from ?_)
 refine WB_name (me ?_)
 refine lz ?_
 refine char_eq T L hc0 ?_
 refine WB_if (WT_or (WT_eqLS ks_12 ?_))
 refine ite_f (rfl) (WT_or1 (WT_eqLS ks_56 ?_))
 refine ite_f (rfl) (WB_nil (WB_if (WT_cmp T.OK (ca ?_))))
 refine lz ?_
 refine X_ord T (CV_ord ?_)
 refine WE_int (.gtI ?_)
 refine ite_f (rfl) (WB_nil (WB_if (WT_eqLS ks_55 ?_)))
 refine ite_f (rfl) (WB_nil (WB_if (WT_eqLS ks_57 ?_)))
 refine ite_f (rfl) (WB_nil (WB_if (WT_or (WT_not (WT_val (ca ?_))))))
 refine lz ?_
 refine is_digit_ok T ?_
 walk_at "my tr"
 refine ite_t (congrArg not (rfl)) ?_
 refine ite_t rfl (WB_ret (lo ?_))
 exact h
theorem escape92_ok (T : Txt c) {j : Nat} {r : List Nat} {u : V} (L : LexAt σ dx t i kd) (hj : t.drop j = 92 :: r) (h : Q (.str [92]) σ) : MC c (d + 5) .lexer "escape" [.inst .lexer dx, .int j, u] σ Q := by
 have hn := L.ns
 have hkd := L.keys
 have hz := L.size
 have hne := L.ne
 have hc0 : (t.drop j).take 1 = [92] := by rw [hj]; rfl
 refine MC_fn T.OK T.m_escape ["self", "index", "begun"] _ (show WB _ _ _ _ [("self", _), ("index", _), ("begun", _)] _ _ from ?_)
 refine WB_name (me ?_)
 refine lz ?_
 refine char_eq T L hc0 ?_
 refine WB_if (WT_or (WT_eqLS ks_12 ?_))
 refine ite_f (rfl) (WT_or1 (WT_eqLS ks_56 ?_))
 refine ite_f (rfl) (WB_nil (WB_if (WT_cmp T.OK (ca ?_))))
 refine lz ?_
 refine X_ord T (CV_ord ?_)
 refine WE_int (.gtI ?_)
 refine ite_f (rfl) (WB_nil (WB_if (WT_eqLS ks_55 ?_)))
 refine ite_f (rfl) (WB_nil (WB_if (WT_eqLS ks_57 ?_)))
 refine ite_f (rfl) (WB_nil (WB_if (WT_or (WT_not (WT_val (ca ?_))))))
 refine lz ?_
 refine is_digit_ok T ?_
 walk_at "my tr"
 refine ite_t (congrArg not (rfl)) ?_
 refine ite_t rfl (WB_ret (lo ?_))
 exact h
theorem escapeO_ok (T : Txt c) {j n : Nat} {r : List Nat} {u : V} (L : LexAt σ dx t i kd) (hn2 : n < 256) (hj : t.drop j = (48 + n / 64) :: (48 + n / 8 % 8) :: (48 + n % 8) :: r) (h : Q (.str [n]) σ) : MC c (d + 5) .lexer "escape" [.inst .lexer dx, .int j, u] σ Q := by
 have hn := L.ns
 have hkd := L.keys
 have hz := L.size
 have hne := L.ne
 have hc0 : (t.drop j).take 1 = [48 + n / 64] := by rw [hj]; rfl
 have hd0 : isDigit [48 + n / 64] = true := by unfold isDigit; rw [decide_eq_false (by rw [one_lt]; omega), decide_eq_false (by rw [one_lt]; omega)]; rfl
 refine MC_fn T.OK T.m_escape ["self", "index", "begun"] _ (show WB _ _ _ _ [("self", _), ("index", _), ("begun", _)] _ _ from ?_)
 refine WB_name (me ?_)
 refine lz ?_
 refine char_eq T L hc0 ?_
 refine WB_if (WT_or (WT_eqLS ks_12 ?_))
 refine ite_f (rfl) (WT_or1 (WT_eqLS ks_56 ?_))
 refine ite_f (decide_eq_false (by simp; omega)) ?_
 refine WB_nil (WB_if (WT_cmp T.OK (ca ?_)))
 refine lz ?_
 refine X_ord T (CV_ord ?_)
 refine WE_int (.gtI ?_)
 refine ite_f (decide_eq_false (by walk_at "o")) ?_
 refine WB_nil (WB_if (WT_eqLS ks_55 ?_))
 refine ite_f (decide_eq_false (by simp; omega)) ?_
 refine WB_nil (WB_if (WT_eqLS ks_57 ?_))
 refine ite_f (decide_eq_false (by simp; omega)) ?_
 refine WB_nil (WB_if (WT_or (WT_not (WT_val (ca ?_)))))
 refine lz ?_
 refine is_digit_ok T ?_
 walk_at "my tr"
 refine ite_f (congrArg not (hd0)) ?_
 refine WT_or1 (cl ?_)
 refine WE_strE ks_102 (.gtS ?_)
 refine ite_f (decide_eq_false (by rw [one_lt]; omega)) ?_
 refine WB_nil (WB_name (WE_int (WB_cons (WS_for ?_ (fun _ _ => rfl)))))
 refine WE_slice (att ?_)
 refine lo ?_
 refine me ?_
 refine lz ?_
 refine escape_end3_ok T L hj (by walk_at "o") (by walk_at "o") (by walk_at "o") ?_
 refine U_cut (by walk_at "my sl") (by rw [cutA, hj, show List.take 3 ((48 + n / 64) :: (48 + n / 8 % 8) :: (48 + n % 8) :: r) = [48 + n / 64, 48 + n / 8 % 8, 48 + n % 8] from rfl]) ?_
 refine H_str ?_
 refine WF_cons ?_
 refine G_name (by decide +kernel) (WB_name (WE_bin (WE_bin (bl ?_))))
 refine WE_int (P_mul (by walk_at "my mu") ?_)
 refine ca ?_
 refine lz ?_
 refine X_ord T (CV_ord ?_)
 refine .add ?_
 refine WE_int (P_sub ?_)
 refine WB_nil (L_next ?_)
 rw [show 0 * 8 + ((48 + n / 64) : Nat) - 48 = ((n / 64 : Nat) : Int) by walk_at "o"]
 refine WF.weak (ρ := [("value", .int ((n / 64 : Nat) : Int)), ("self", .inst .lexer dx), ("index", .int (j : Int))]) ?_ (by walk_at "my sub")
 refine WF_cons ?_
 refine G_name (by decide +kernel) (WB_name (WE_bin (WE_bin (bl ?_))))
 refine WE_int (P_mul (by walk_at "my mu") ?_)
 refine ca ?_
 refine lz ?_
 refine X_ord T (CV_ord ?_)
 refine .add ?_
 refine WE_int (P_sub ?_)
 refine WB_nil (L_next ?_)
 rw [show ((n / 64 : Nat) : Int) * 8 + ((48 + n / 8 % 8) : Nat) - 48 = ((n / 64 * 8 + n / 8 % 8 : Nat) : Int) by walk_at "o"]
 refine WF.weak (ρ := [("value", .int ((n / 64 * 8 + n / 8 % 8 : Nat) : Int)), ("self", .inst .lexer dx), ("index", .int (j : Int))]) ?_ (by walk_at "my sub")
 refine WF_cons ?_
 refine G_name (by decide +kernel) (WB_name (WE_bin (WE_bin (bl ?_))))
 refine WE_int (P_mul (by walk_at "my mu") ?_)
 refine ca ?_
 refine lz ?_
 refine X_ord T (CV_ord ?_)
 refine .add ?_
 refine WE_int (P_sub ?_)
 refine WB_nil (L_next ?_)
 rw [show ((n / 64 * 8 + n / 8 % 8 : Nat) : Int) * 8 + ((48 + n % 8) : Nat) - 48 = (n : Int) by walk_at "o"]
 refine WF.weak (ρ := [("value", .int (n : Int)), ("self", .inst .lexer dx), ("index", .int (j : Int))]) ?_ (by walk_at "my sub")
 refine WF_nil ?_
 refine WB_nil (WB_ret (ca ?_))
 refine WL_cons (bl ?_)
 refine WE_int ?_
 (refine P_and ?_; rw [and255 n hn2])
 refine WL_nil (X_chr T (CV_chr (by walk_at "my sz") ?_))
 exact h
theorem escapeE_ok (T : Txt c) {j x : Nat} {r : List Nat} {u : V} (L : LexAt σ dx t i kd) (hx : Pc.ok (.es x)) (hj : t.drop j = (if x = 10 then 110 else if x = 9 then 116 else x) :: r) (h : Q (.str [x]) σ) : MC c (d + 5) .lexer "escape" [.inst .lexer dx, .int j, u] σ Q := by
 rcases hx with rfl | rfl | rfl | rfl
 ·exact escape110_ok T L hj h
 ·exact escape116_ok T L hj h
 ·exact escape34_ok T L hj h
 ·exact escape92_ok T L hj h
theorem escape_endE_ok (T : Txt c) {j x : Nat} {r : List Nat} (L : LexAt σ dx t i kd) (hx : Pc.ok (.es x)) (hj : t.drop j = (if x = 10 then 110 else if x = 9 then 116 else x) :: r) (h : Q (.int (j + 1 : Nat)) σ) : MC c (d + 4) .lexer "escape_end" [.inst .lexer dx, .int j] σ Q := by
 rcases hx with rfl | rfl | rfl | rfl <;> exact escape_end1_ok T L hj (by decide) h
end
noncomputable def encs (ps : List Pc) : List Nat := ps.flatMap Pc.enc
noncomputable def decs (ps : List Pc) : List V := ps.map fun p => .str [p.dec]
theorem set_new {σ : Store} {a : Addr} {x y : AO} : (σ.set a x).set a y = σ.set a y := Store.set_set _ _ _ _
section
variable {c : Cx} {d : Nat} {σ : Store} {Q : V → Store → Prop} {t : List Nat} {dx kd : Addr} {i : Int}
theorem string_loop (T : Txt c) {j : Nat} {r : List Nat} {AL : Addr} {Q : Fl → Locals → Store → Prop} (L0 : LexAt σ dx t i kd) (hAL : σ AL = none) (ps : List Pc) : ∀ (k : Nat) (acc : List V), t.drop k = encs ps ++ 34 :: r → (∀ p ∈ ps, p.ok) → acc.length + ps.length ≤ 4000000 →
  (∀ ρ, subL [("index", .int ((k + (encs ps).length : Nat) : Int)), ("chars", .lst AL), ("self", .inst .lexer dx), ("at", .int (j : Int))] ρ → Q .next ρ (σ.set AL (.list (acc ++ decs ps)))) →
  WW c (d + 6) (fnScope (meth 12 15)) (wT (nth (fnBody (meth 12 15)) 2)) (wB (nth (fnBody (meth 12 15)) 2)) [] [("index", .int ((k : Nat) : Int)), ("chars", .lst AL), ("self", .inst .lexer dx), ("at", .int (j : Int))] (σ.set AL (.list acc)) Q := by
 induction ps with
 | nil =>
  intro k acc hk hps hl h
  have L := L0.new (o := .list acc) hAL
  have hn := L.ns
  have hk1 : (t.drop k).take 1 = [34] := by rw [hk]; rfl
  refine WW_step ?_
  refine WT_cmp T.OK (me ?_)
  refine lz ?_
  refine char_eq T L hk1 ?_
  refine WE_strE ks_28 (.neS ?_)
  refine ite_f (rfl) (WB_nil ?_)
  simp only [decs, List.map_nil, List.append_nil] at h
  exact h _ (by simp only [encs, List.flatMap_nil, List.length_nil, Nat.add_zero]; exact subL.refl _)
 | cons p ps ih =>
  intro k acc hk hps hl h
  have L := L0.new (o := .list acc) hAL
  have hn := L.ns
  have hp := hps p (.head _)
  have h2 : ∀ m, m + (encs ps).length = k + (encs (p :: ps)).length → ∀ ρ, subL [("index", .int ((m + (encs ps).length : Nat) : Int)), ("chars", .lst AL), ("self", .inst .lexer dx), ("at", .int (j : Int))] ρ → Q .next ρ (σ.set AL (.list ((acc ++ [.str [p.dec]]) ++ decs ps))) := fun m e ρ w => by
   rw [e] at w
   have := h ρ w
   simpa [decs] using this
  cases p with
  | ch x =>
   have hk1 : (t.drop k).take 1 = [x] := by rw [hk]; rfl
   have hk3 : t.drop (k + 1) = encs ps ++ 34 :: r := drop_cons hk
   have h2 := h2 (k + 1) (by simp [encs, Pc.enc]; omega)
   refine WW_step ?_
   refine WT_cmp T.OK (me ?_)
   refine lz ?_
   refine char_eq T L hk1 ?_
   refine WE_strE ks_28 (.neS ?_)
   refine ite_t (by simp [hp.1]) ?_
   refine WB_name (me ?_)
   refine lz ?_
   refine char_eq T L hk1 ?_
   refine WB_if (WT_or (WT_eqLS ks_12 ?_))
   refine ite_f (rfl) (WT_or1 (WT_eqLS ks_56 ?_))
   refine ite_f (by simp [hp.2.1]) ?_
   refine WB_nil (WB_if (WT_cmp T.OK (ca ?_)))
   refine lz ?_
   refine X_ord T (CV_ord ?_)
   refine WE_int (.gtI ?_)
   refine ite_f (decide_eq_false (by have := hp.2.2.2; omega)) ?_
   refine WB_nil (WB_if (WT_eqLS ks_50 ?_))
   refine ite_f (by simp [hp.2.2.1]) ?_
   refine WB_name (bl ?_)
   refine WE_int (.add ?_)
   refine WB_nil (WB_expr (WE_meth T.OK (lo ?_)))
   refine ⟨_, GM_lst (by walk_at "my st") slot_list_append type_list_append, ?_⟩
   refine lz ?_
   walk_at "my me append"
   refine WB_nil (L_next (WW.ss ?_))
   refine WW.weak (ρ := [("index", .int ((k + 1 : Nat) : Int)), ("chars", .lst AL), ("self", .inst .lexer dx), ("at", .int (j : Int))]) ?_ (by walk_at "my sub")
   have := ih (k + 1) (acc ++ _) hk3 (fun q hq => hps q (.tail _ hq)) (by simp only [List.length_append, List.length_cons, List.length_nil] at hl ⊢; omega) h2
   exact this
  | es x =>
   have hk1 : (t.drop k).take 1 = [92] := by rw [hk]; rfl
   have hk2 : t.drop (k + 1) = (if x = 10 then 110 else if x = 9 then 116 else x) :: (encs ps ++ 34 :: r) := drop_cons hk
   have hk3 : t.drop (k + 1 + 1) = encs ps ++ 34 :: r := drop_cons hk2
   have h2 := h2 (k + 1 + 1) (by simp [encs, Pc.enc]; omega)
   refine WW_step ?_
   refine WT_cmp T.OK (me ?_)
   refine lz ?_
   refine char_eq T L hk1 ?_
   refine WE_strE ks_28 (.neS ?_)
   refine ite_t (rfl) (WB_name (me ?_))
   refine lz ?_
   refine char_eq T L hk1 ?_
   refine WB_if (WT_or (WT_eqLS ks_12 ?_))
   refine ite_f (rfl) (WT_or1 (WT_eqLS ks_56 ?_))
   refine ite_f (rfl) (WB_nil (WB_if (WT_cmp T.OK (ca ?_))))
   refine lz ?_
   refine X_ord T (CV_ord ?_)
   refine WE_int (.gtI ?_)
   refine ite_f (rfl) (WB_nil (WB_if (WT_eqLS ks_50 ?_)))
   refine ite_t (rfl) (WB_name (me ?_))
   refine WL_cons (bl ?_)
   refine WE_int (.add ?_)
   refine lz ?_
   rw [show ((k : Nat) : Int) + 1 = ((k + 1 : Nat) : Int) from rfl]
   refine escapeE_ok T L hp hk2 ?_
   refine WB_name (me ?_)
   refine WL_cons (bl ?_)
   refine WE_int (.add ?_)
   refine WL_nil ?_
   rw [show ((k : Nat) : Int) + 1 = ((k + 1 : Nat) : Int) from rfl]
   refine escape_endE_ok T L hp hk2 ?_
   refine WB_nil (WB_expr (WE_meth T.OK (lo ?_)))
   refine ⟨_, GM_lst (by walk_at "my st") slot_list_append type_list_append, ?_⟩
   refine lz ?_
   walk_at "my me append"
   refine WB_nil (L_next (WW.ss ?_))
   refine WW.weak (ρ := [("index", .int ((k + 1 + 1 : Nat) : Int)), ("chars", .lst AL), ("self", .inst .lexer dx), ("at", .int (j : Int))]) ?_ (by walk_at "my sub")
   have := ih (k + 1 + 1) (acc ++ _) hk3 (fun q hq => hps q (.tail _ hq)) (by simp only [List.length_append, List.length_cons, List.length_nil] at hl ⊢; omega) h2
   exact this
  | oc x =>
   have hp : x < 256 := hp
   have hk1 : (t.drop k).take 1 = [92] := by rw [hk]; rfl
   have hk2 : t.drop (k + 1) = (48 + x / 64) :: (48 + x / 8 % 8) :: (48 + x % 8) :: (encs ps ++ 34 :: r) := drop_cons hk
   have hk3 : t.drop (k + 1 + 3) = encs ps ++ 34 :: r := drop_cons (drop_cons (drop_cons hk2))
   have h2 := h2 (k + 1 + 3) (by simp [encs, Pc.enc]; omega)
   refine WW_step ?_
   refine WT_cmp T.OK (me ?_)
   refine lz ?_
   refine char_eq T L hk1 ?_
   refine WE_strE ks_28 (.neS ?_)
   refine ite_t (rfl) (WB_name (me ?_))
   refine lz ?_
   refine char_eq T L hk1 ?_
   refine WB_if (WT_or (WT_eqLS ks_12 ?_))
   refine ite_f (rfl) (WT_or1 (WT_eqLS ks_56 ?_))
   refine ite_f (rfl) (WB_nil (WB_if (WT_cmp T.OK (ca ?_))))
   refine lz ?_
   refine X_ord T (CV_ord ?_)
   refine WE_int (.gtI ?_)
   refine ite_f (rfl) (WB_nil (WB_if (WT_eqLS ks_50 ?_)))
   refine ite_t (rfl) (WB_name (me ?_))
   refine WL_cons (bl ?_)
   refine WE_int (.add ?_)
   refine lz ?_
   rw [show ((k : Nat) : Int) + 1 = ((k + 1 : Nat) : Int) from rfl]
   refine escapeO_ok T L hp hk2 ?_
   refine WB_name (me ?_)
   refine WL_cons (bl ?_)
   refine WE_int (.add ?_)
   refine WL_nil ?_
   rw [show ((k : Nat) : Int) + 1 = ((k + 1 : Nat) : Int) from rfl]
   refine escape_end3_ok T L hk2 (by walk_at "o") (by walk_at "o") (by walk_at "o") ?_
   refine WB_nil (WB_expr (WE_meth T.OK (lo ?_)))
   refine ⟨_, GM_lst (by walk_at "my st") slot_list_append type_list_append, ?_⟩
   refine lz ?_
   walk_at "my me append"
   refine WB_nil (L_next (WW.ss ?_))
   refine WW.weak (ρ := [("index", .int ((k + 1 + 3 : Nat) : Int)), ("chars", .lst AL), ("self", .inst .lexer dx), ("at", .int (j : Int))]) ?_ (by walk_at "my sub")
   have := ih (k + 1 + 3) (acc ++ _) hk3 (fun q hq => hps q (.tail _ hq)) (by simp only [List.length_append, List.length_cons, List.length_nil] at hl ⊢; omega) h2
   exact this
theorem sum_ones (ps : List Pc) : ((ps.map fun p => [p.dec]).map (·.length)).sum = ps.length := by
 induction ps with
 | nil => rfl
 | cons p r ih => simp only [List.map_cons, List.sum_cons, List.length_cons, List.length_nil, ih]; omega
theorem joinL_one (ps : List Pc) : joinL [] (ps.map fun p => [p.dec]) = ps.map Pc.dec := by
 induction ps with
 | nil => rfl
 | cons p r ih =>
  cases r with
  | nil => rfl
  | cons q r => show [p.dec] ++ [] ++ joinL [] ((q :: r).map fun p => [p.dec]) = _; rw [ih]; rfl
theorem string_ok (T : Txt c) {j : Nat} {r : List Nat} {ps : List Pc} (L : LexAt σ dx t i kd) (hq : t.drop (j + 1) = encs ps ++ 34 :: r) (hps : ∀ p ∈ ps, p.ok) (hl : ps.length ≤ 4000000) (h : ∀ tx, σ tx = none → Q (.inst .token tx) ((σ.set dx (lexNs t ((j + 1 + (encs ps).length + 1 : Nat)) kd)).set tx (tokNs [115, 116, 114] (.str (ps.map Pc.dec)) j))) : MC c (d + 7) .lexer "string" [.inst .lexer dx, .int j] σ Q := by
 refine MC.sub ?_
 have hn := L.ns
 have hkd := L.keys
 have hz := L.size
 have hne := L.ne
 refine MC_fn T.OK T.m_string ["self", "at"] _ (show WB _ _ _ _ [("self", _), ("at", _)] _ _ from ?_)
 refine WB_name (WE_lst (WL_nil ?_))
 refine ⟨by walk_at "my sz", ?_⟩
 intro A_1 h_1
 refine WB_name (bl ?_)
 refine WE_int (.add ?_)
 refine WB_cons (WS_while (WW.re (Q := fun fl ρ' σ' => fl = .next ∧ subL [("index", .int ((j + 1 + (encs ps).length : Nat) : Int)), ("chars", .lst A_1), ("self", .inst .lexer dx), ("at", .int (j : Int))] ρ' ∧ σ' = σ.set A_1 (.list ([] ++ decs ps))) ?_ ?_))
 ·refine WW.weak (ρ := [("index", .int ((j + 1 : Nat) : Int)), ("chars", .lst A_1), ("self", .inst .lexer dx), ("at", .int (j : Int))]) ?_ (by walk_at "my sub")
  exact string_loop T L h_1 ps (j + 1) [] hq hps (by simpa using hl) fun ρ w => ⟨rfl, w, rfl⟩
 intro fl ρ' σ' ⟨e1, e2, e3⟩
 subst e1 e3
 refine ⟨_, e2, ?_⟩
 refine WB_cons (WS_attr' T.OK ?_)
 refine bl ?_
 refine WE_int (.add ?_)
 refine lo ?_
 (refine E_set (by walk_at "my st") ?_ (by simp) (by walk_at "my put") ?_; exact T.fs _ _ (by decide +kernel))
 refine WB_ret (ca ?_)
 refine WL_str ks_37 (WL_cons (WE_meth T.OK (WE_strE ks_12 ?_)))
 refine ⟨_, GM_str F.slot_str_join F.type_str_join, ?_⟩
 refine lz ?_
 refine CV_join (by walk_at "my st") (ls := ps.map fun p => [p.dec]) (by rw [show ([] ++ decs ps) = (ps.map fun p => [p.dec]).map V.str from by simp [decs]]; exact strsOf_map _) (by rw [sum_ones]; simp; omega) ?_
 refine lz ?_
 refine Token_ok T fun tx htx => ?_
 refine N_ret (R_ret ?_)
 refine ⟨_, ?_, h tx (free_set (free_set htx))⟩
 rw [joinL_one]
 exact (((SubS.refl σ).new h_1).set).set
end
section
variable {c : Cx} {d : Nat} {σ : Store} {Q : V → Store → Prop} {t : List Nat} {dx kd : Addr} {i : Int}
theorem next_word_ok (T : Txt c) {j x : Nat} (L : LexAt σ dx t j kd) (hp : ∀ p, ((t.drop j).drop (scanN isLay (t.drop j))).take 2 = p → p ≠ [47, 47] ∧ p ≠ [47, 42] ∧ p ≠ [40, 42]) (hx : (t.drop (j + scanN isLay (t.drop j) : Nat)).take 1 = [x]) (hl : isLetter [x] = true) (hc : MC c (d + 7) .lexer "word" (.inst .lexer dx :: [.int (j + scanN isLay (t.drop j) : Nat)]) (σ.set dx (lexNs t (j + scanN isLay (t.drop j) : Nat) kd)) Q) : MC c (d + 8) .lexer "next_token" [.inst .lexer dx] σ Q := by
 have hn := L.ns
 have hkd := L.keys
 have hz := L.size
 have hne := L.ne
 have L' := L.go ((j + scanN isLay (t.drop j) : Nat) : Int)
 have hn' := L'.ns
 refine MC_fn T.OK T.m_next_token ["self"] _ (show WB _ _ _ _ [("self", _)] _ _ from ?_)
 refine WB_expr (me ?_)
 refine WL_nil (skip_ok T L hp ?_)
 refine WB_name (att ?_)
 refine WB_name (me ?_)
 refine lz ?_
 refine char_eq T L' hx ?_
 refine WB_if (WT_eqLS ks_12 ?_)
 refine ite_f (rfl) (WB_nil (WB_if (WT_or (WT_val (ca ?_)))))
 refine lz ?_
 refine is_letter_ok T ?_
 walk_at "my tr"
 refine ite_t (hl) ?_
 refine ite_t rfl (WB_ret (me ?_))
 refine lz ?_
 refine MC.mono hc (by walk_at "o") fun v σ' q => ?_
 exact q
theorem next_word2_ok (T : Txt c) {j x : Nat} (L : LexAt σ dx t j kd) (hp : ∀ p, ((t.drop j).drop (scanN isLay (t.drop j))).take 2 = p → p ≠ [47, 47] ∧ p ≠ [47, 42] ∧ p ≠ [40, 42]) (hx : (t.drop (j + scanN isLay (t.drop j) : Nat)).take 1 = [x]) (h95 : x = 95) (hc : MC c (d + 7) .lexer "word" (.inst .lexer dx :: [.int (j + scanN isLay (t.drop j) : Nat)]) (σ.set dx (lexNs t (j + scanN isLay (t.drop j) : Nat) kd)) Q) : MC c (d + 8) .lexer "next_token" [.inst .lexer dx] σ Q := by
 have hn := L.ns
 have hkd := L.keys
 have hz := L.size
 have hne := L.ne
 have L' := L.go ((j + scanN isLay (t.drop j) : Nat) : Int)
 have hn' := L'.ns
 subst h95
 refine MC_fn T.OK T.m_next_token ["self"] _ (show WB _ _ _ _ [("self", _)] _ _ from ?_)
 refine WB_expr (me ?_)
 refine WL_nil (skip_ok T L hp ?_)
 refine WB_name (att ?_)
 refine WB_name (me ?_)
 refine lz ?_
 refine char_eq T L' hx ?_
 refine WB_if (WT_eqLS ks_12 ?_)
 refine ite_f (rfl) (WB_nil (WB_if (WT_or (WT_val (ca ?_)))))
 refine lz ?_
 refine is_letter_ok T ?_
 walk_at "my tr"
 refine ite_f (rfl) (WT_or1 (WT_eqLS ks_45 ?_))
 refine ite_t (rfl) (WB_ret (me ?_))
 refine lz ?_
 refine MC.mono hc (by walk_at "o") fun v σ' q => ?_
 exact q
theorem next_num_ok (T : Txt c) {j x : Nat} (L : LexAt σ dx t j kd) (hp : ∀ p, ((t.drop j).drop (scanN isLay (t.drop j))).take 2 = p → p ≠ [47, 47] ∧ p ≠ [47, 42] ∧ p ≠ [40, 42]) (hx : (t.drop (j + scanN isLay (t.drop j) : Nat)).take 1 = [x]) (hl : isLetter [x] = false) (h95 : x ≠ 95) (hd : isDigit [x] = true) (hc : MC c (d + 7) .lexer "number" (.inst .lexer dx :: [.int (j + scanN isLay (t.drop j) : Nat)]) (σ.set dx (lexNs t (j + scanN isLay (t.drop j) : Nat) kd)) Q) : MC c (d + 8) .lexer "next_token" [.inst .lexer dx] σ Q := by
 have hn := L.ns
 have hkd := L.keys
 have hz := L.size
 have hne := L.ne
 have L' := L.go ((j + scanN isLay (t.drop j) : Nat) : Int)
 have hn' := L'.ns
 refine MC_fn T.OK T.m_next_token ["self"] _ (show WB _ _ _ _ [("self", _)] _ _ from ?_)
 refine WB_expr (me ?_)
 refine WL_nil (skip_ok T L hp ?_)
 refine WB_name (att ?_)
 refine WB_name (me ?_)
 refine lz ?_
 refine char_eq T L' hx ?_
 refine WB_if (WT_eqLS ks_12 ?_)
 refine ite_f (rfl) (WB_nil (WB_if (WT_or (WT_val (ca ?_)))))
 refine lz ?_
 refine is_letter_ok T ?_
 walk_at "my tr"
 refine ite_f (hl) ?_
 refine WT_or1 (WT_eqLS ks_45 ?_)
 refine ite_f (by simp [h95]) ?_
 refine WB_nil (WB_if (WT_val (ca ?_)))
 refine lz ?_
 refine is_digit_ok T ?_
 walk_at "my tr"
 refine ite_t (hd) ?_
 refine WB_ret (me ?_)
 refine lz ?_
 refine MC.mono hc (by walk_at "o") fun v σ' q => ?_
 exact q
theorem next_based_ok (T : Txt c) {j x : Nat} (L : LexAt σ dx t j kd) (hp : ∀ p, ((t.drop j).drop (scanN isLay (t.drop j))).take 2 = p → p ≠ [47, 47] ∧ p ≠ [47, 42] ∧ p ≠ [40, 42]) (hx : (t.drop (j + scanN isLay (t.drop j) : Nat)).take 1 = [x]) (hv : x = 39) (hc : MC c (d + 7) .lexer "based" (.inst .lexer dx :: [.int (j + scanN isLay (t.drop j) : Nat), .int (j + scanN isLay (t.drop j) : Nat), .str []]) (σ.set dx (lexNs t (j + scanN isLay (t.drop j) : Nat) kd)) Q) : MC c (d + 8) .lexer "next_token" [.inst .lexer dx] σ Q := by
 have hn := L.ns
 have hkd := L.keys
 have hz := L.size
 have hne := L.ne
 have L' := L.go ((j + scanN isLay (t.drop j) : Nat) : Int)
 have hn' := L'.ns
 subst hv
 refine MC_fn T.OK T.m_next_token ["self"] _ (show WB _ _ _ _ [("self", _)] _ _ from ?_)
 refine WB_expr (me ?_)
 refine WL_nil (skip_ok T L hp ?_)
 refine WB_name (att ?_)
 refine WB_name (me ?_)
 refine lz ?_
 refine char_eq T L' hx ?_
 refine WB_if (WT_eqLS ks_12 ?_)
 refine ite_f (rfl) (WB_nil (WB_if (WT_or (WT_val (ca ?_)))))
 refine lz ?_
 refine is_letter_ok T ?_
 walk_at "my tr"
 refine ite_f (rfl) (WT_or1 (WT_eqLS ks_45 ?_))
 refine ite_f (rfl) (WB_nil (WB_if (WT_val (ca ?_))))
 refine lz ?_
 refine is_digit_ok T ?_
 walk_at "my tr"
 refine ite_f (rfl) (WB_nil (WB_if (WT_eqLS ks_49 ?_)))
 refine ite_t (rfl) (WB_ret (me ?_))
 refine la ?_
 refine la ?_
 refine WL_str1 ks_12 (MC.mono hc (by walk_at "o") fun v σ' q => ?_)
 exact q
theorem next_escaped_ok (T : Txt c) {j x : Nat} (L : LexAt σ dx t j kd) (hp : ∀ p, ((t.drop j).drop (scanN isLay (t.drop j))).take 2 = p → p ≠ [47, 47] ∧ p ≠ [47, 42] ∧ p ≠ [40, 42]) (hx : (t.drop (j + scanN isLay (t.drop j) : Nat)).take 1 = [x]) (hv : x = 92) (hc : MC c (d + 7) .lexer "escaped" (.inst .lexer dx :: [.int (j + scanN isLay (t.drop j) : Nat)]) (σ.set dx (lexNs t (j + scanN isLay (t.drop j) : Nat) kd)) Q) : MC c (d + 8) .lexer "next_token" [.inst .lexer dx] σ Q := by
 have hn := L.ns
 have hkd := L.keys
 have hz := L.size
 have hne := L.ne
 have L' := L.go ((j + scanN isLay (t.drop j) : Nat) : Int)
 have hn' := L'.ns
 subst hv
 refine MC_fn T.OK T.m_next_token ["self"] _ (show WB _ _ _ _ [("self", _)] _ _ from ?_)
 refine WB_expr (me ?_)
 refine WL_nil (skip_ok T L hp ?_)
 refine WB_name (att ?_)
 refine WB_name (me ?_)
 refine lz ?_
 refine char_eq T L' hx ?_
 refine WB_if (WT_eqLS ks_12 ?_)
 refine ite_f (rfl) (WB_nil (WB_if (WT_or (WT_val (ca ?_)))))
 refine lz ?_
 refine is_letter_ok T ?_
 walk_at "my tr"
 refine ite_f (rfl) (WT_or1 (WT_eqLS ks_45 ?_))
 refine ite_f (rfl) (WB_nil (WB_if (WT_val (ca ?_))))
 refine lz ?_
 refine is_digit_ok T ?_
 walk_at "my tr"
 refine ite_f (rfl) (WB_nil (WB_if (WT_eqLS ks_49 ?_)))
 refine ite_f (rfl) (WB_nil (WB_if (WT_eqLS ks_50 ?_)))
 refine ite_t (rfl) (WB_ret (me ?_))
 refine lz ?_
 refine MC.mono hc (by walk_at "o") fun v σ' q => ?_
 exact q
theorem next_system_ok (T : Txt c) {j x : Nat} (L : LexAt σ dx t j kd) (hp : ∀ p, ((t.drop j).drop (scanN isLay (t.drop j))).take 2 = p → p ≠ [47, 47] ∧ p ≠ [47, 42] ∧ p ≠ [40, 42]) (hx : (t.drop (j + scanN isLay (t.drop j) : Nat)).take 1 = [x]) (hv : x = 36) (hc : MC c (d + 7) .lexer "system" (.inst .lexer dx :: [.int (j + scanN isLay (t.drop j) : Nat)]) (σ.set dx (lexNs t (j + scanN isLay (t.drop j) : Nat) kd)) Q) : MC c (d + 8) .lexer "next_token" [.inst .lexer dx] σ Q := by
 have hn := L.ns
 have hkd := L.keys
 have hz := L.size
 have hne := L.ne
 have L' := L.go ((j + scanN isLay (t.drop j) : Nat) : Int)
 have hn' := L'.ns
 subst hv
 refine MC_fn T.OK T.m_next_token ["self"] _ (show WB _ _ _ _ [("self", _)] _ _ from ?_)
 refine WB_expr (me ?_)
 refine WL_nil (skip_ok T L hp ?_)
 refine WB_name (att ?_)
 refine WB_name (me ?_)
 refine lz ?_
 refine char_eq T L' hx ?_
 refine WB_if (WT_eqLS ks_12 ?_)
 refine ite_f (rfl) (WB_nil (WB_if (WT_or (WT_val (ca ?_)))))
 refine lz ?_
 refine is_letter_ok T ?_
 walk_at "my tr"
 refine ite_f (rfl) (WT_or1 (WT_eqLS ks_45 ?_))
 refine ite_f (rfl) (WB_nil (WB_if (WT_val (ca ?_))))
 refine lz ?_
 refine is_digit_ok T ?_
 walk_at "my tr"
 refine ite_f (rfl) (WB_nil (WB_if (WT_eqLS ks_49 ?_)))
 refine ite_f (rfl) (WB_nil (WB_if (WT_eqLS ks_50 ?_)))
 refine ite_f (rfl) (WB_nil (WB_if (WT_eqLS ks_51 ?_)))
 refine ite_t (rfl) (WB_ret (me ?_))
 refine lz ?_
 refine MC.mono hc (by walk_at "o") fun v σ' q => ?_
 exact q
theorem next_string_ok (T : Txt c) {j x : Nat} (L : LexAt σ dx t j kd) (hp : ∀ p, ((t.drop j).drop (scanN isLay (t.drop j))).take 2 = p → p ≠ [47, 47] ∧ p ≠ [47, 42] ∧ p ≠ [40, 42]) (hx : (t.drop (j + scanN isLay (t.drop j) : Nat)).take 1 = [x]) (hv : x = 34) (hc : MC c (d + 7) .lexer "string" (.inst .lexer dx :: [.int (j + scanN isLay (t.drop j) : Nat)]) (σ.set dx (lexNs t (j + scanN isLay (t.drop j) : Nat) kd)) Q) : MC c (d + 8) .lexer "next_token" [.inst .lexer dx] σ Q := by
 have hn := L.ns
 have hkd := L.keys
 have hz := L.size
 have hne := L.ne
 have L' := L.go ((j + scanN isLay (t.drop j) : Nat) : Int)
 have hn' := L'.ns
 subst hv
 refine MC_fn T.OK T.m_next_token ["self"] _ (show WB _ _ _ _ [("self", _)] _ _ from ?_)
 refine WB_expr (me ?_)
 refine WL_nil (skip_ok T L hp ?_)
 refine WB_name (att ?_)
 refine WB_name (me ?_)
 refine lz ?_
 refine char_eq T L' hx ?_
 refine WB_if (WT_eqLS ks_12 ?_)
 refine ite_f (rfl) (WB_nil (WB_if (WT_or (WT_val (ca ?_)))))
 refine lz ?_
 refine is_letter_ok T ?_
 walk_at "my tr"
 refine ite_f (rfl) (WT_or1 (WT_eqLS ks_45 ?_))
 refine ite_f (rfl) (WB_nil (WB_if (WT_val (ca ?_))))
 refine lz ?_
 refine is_digit_ok T ?_
 walk_at "my tr"
 refine ite_f (rfl) (WB_nil (WB_if (WT_eqLS ks_49 ?_)))
 refine ite_f (rfl) (WB_nil (WB_if (WT_eqLS ks_50 ?_)))
 refine ite_f (rfl) (WB_nil (WB_if (WT_eqLS ks_51 ?_)))
 refine ite_f (rfl) (WB_nil (WB_if (WT_eqLS ks_28 ?_)))
 refine ite_t (rfl) (WB_ret (me ?_))
 refine lz ?_
 refine MC.mono hc (by walk_at "o") fun v σ' q => ?_
 exact q
theorem next_op_ok (T : Txt c) {j x : Nat} (L : LexAt σ dx t j kd) (hp : ∀ p, ((t.drop j).drop (scanN isLay (t.drop j))).take 2 = p → p ≠ [47, 47] ∧ p ≠ [47, 42] ∧ p ≠ [40, 42]) (hx : (t.drop (j + scanN isLay (t.drop j) : Nat)).take 1 = [x]) (hl : isLetter [x] = false) (h95 : x ≠ 95) (hd : isDigit [x] = false) (h4 : x ≠ 39 ∧ x ≠ 92 ∧ x ≠ 36 ∧ x ≠ 34) (hc : MC c (d + 7) .lexer "operator" (.inst .lexer dx :: [.int (j + scanN isLay (t.drop j) : Nat)]) (σ.set dx (lexNs t (j + scanN isLay (t.drop j) : Nat) kd)) Q) : MC c (d + 8) .lexer "next_token" [.inst .lexer dx] σ Q := by
 have hn := L.ns
 have hkd := L.keys
 have hz := L.size
 have hne := L.ne
 have L' := L.go ((j + scanN isLay (t.drop j) : Nat) : Int)
 have hn' := L'.ns
 refine MC_fn T.OK T.m_next_token ["self"] _ (show WB _ _ _ _ [("self", _)] _ _ from ?_)
 refine WB_expr (me ?_)
 refine WL_nil (skip_ok T L hp ?_)
 refine WB_name (att ?_)
 refine WB_name (me ?_)
 refine lz ?_
 refine char_eq T L' hx ?_
 refine WB_if (WT_eqLS ks_12 ?_)
 refine ite_f (rfl) (WB_nil (WB_if (WT_or (WT_val (ca ?_)))))
 refine lz ?_
 refine is_letter_ok T ?_
 walk_at "my tr"
 refine ite_f (hl) ?_
 refine WT_or1 (WT_eqLS ks_45 ?_)
 refine ite_f (by simp [h95]) ?_
 refine WB_nil (WB_if (WT_val (ca ?_)))
 refine lz ?_
 refine is_digit_ok T ?_
 walk_at "my tr"
 refine ite_f (hd) ?_
 refine WB_nil (WB_if (WT_eqLS ks_49 ?_))
 refine ite_f (by simp [h4.1]) ?_
 refine WB_nil (WB_if (WT_eqLS ks_50 ?_))
 refine ite_f (by simp [h4.2.1]) ?_
 refine WB_nil (WB_if (WT_eqLS ks_51 ?_))
 refine ite_f (by simp [h4.2.2.1]) ?_
 refine WB_nil (WB_if (WT_eqLS ks_28 ?_))
 refine ite_f (by simp [h4.2.2.2]) ?_
 refine WB_nil (WB_ret (me ?_))
 refine lz ?_
 refine MC.mono hc (by walk_at "o") fun v σ' q => ?_
 exact q
theorem next_eof_ok (T : Txt c) {j : Nat} (L : LexAt σ dx t j kd) (hx : (t.drop (j + scanN isLay (t.drop j) : Nat)).take 1 = []) (h : ∀ tx, σ tx = none → Q (.inst .token tx) ((σ.set dx (lexNs t (j + scanN isLay (t.drop j) : Nat) kd)).set tx (tokNs [101, 111, 102] (.str []) (j + scanN isLay (t.drop j) : Nat)))) : MC c (d + 8) .lexer "next_token" [.inst .lexer dx] σ Q := by
 have hp : ∀ p, ((t.drop j).drop (scanN isLay (t.drop j))).take 2 = p → p ≠ [47, 47] ∧ p ≠ [47, 42] ∧ p ≠ [40, 42] := by
   intro p e
   have : (t.drop j).drop (scanN isLay (t.drop j)) = [] := by
    rw [List.drop_drop]
    cases q : t.drop (j + scanN isLay (t.drop j)) with
    | nil => rfl
    | cons a b => rw [q] at hx; cases hx
   rw [this] at e; subst e; exact ⟨by decide, by decide, by decide⟩
 have hn := L.ns
 have hkd := L.keys
 have hz := L.size
 have hne := L.ne
 have L' := L.go ((j + scanN isLay (t.drop j) : Nat) : Int)
 have hn' := L'.ns
 refine MC_fn T.OK T.m_next_token ["self"] _ (show WB _ _ _ _ [("self", _)] _ _ from ?_)
 refine WB_expr (me ?_)
 refine WL_nil (skip_ok T L hp ?_)
 refine WB_name (att ?_)
 refine WB_name (me ?_)
 refine lz ?_
 refine char_eq T L' hx ?_
 refine WB_if (WT_eqLS ks_12 ?_)
 refine ite_t (rfl) (WB_ret (ca ?_))
 refine WL_str ks_106 (WL_str ks_12 (lz ?_))
 refine Token_ok T fun tx htx => ?_
 exact h tx (free_set htx)
end
theorem kw_sp : 32 ∈ kwText := by decide +kernel
theorem kw_small : ∀ y ∈ kwText, y < 256 := by decide +kernel
theorem kw_len : kwText.length = 899 := by decide +kernel
section
variable {c : Cx} {d : Nat} {σ : Store} {Q : V → Store → Prop} {t : List Nat} {dx kd : Addr} {i : Int}
theorem numberB_ok (T : Txt c) {j n : Nat} (L : LexAt σ dx t i kd) (hn0 : scanN isDg (t.drop j) = n) (hu : 95 ∉ (t.drop j).take n) (h1 : (t.drop (j + n)).take 1 ≠ [46]) (h2 : [[101], [69]].contains ((t.drop (j + n)).take 1) = false) (h3 : (t.drop (j + n + scanN isLay (t.drop (j + n)))).take 1 = [39]) (hc : MC c (d + 4) .lexer "based" [.inst .lexer dx, .int j, .int (j + n + scanN isLay (t.drop (j + n)) : Nat), .str ((t.drop j).take n)] σ Q) : MC c (d + 5) .lexer "number" [.inst .lexer dx, .int j] σ Q := by
 have hn := L.ns
 have hkd := L.keys
 have hz := L.size
 have hne := L.ne
 refine MC_fn T.OK T.m_number ["self", "at"] _ (show WB _ _ _ _ [("self", _), ("at", _)] _ _ from ?_)
 refine WB_name (lo ?_)
 refine WB_cons (WS_while ?_)
 obtain ⟨k, hk⟩ : ∃ k, k = j := ⟨_, rfl⟩
 refine WW.post [("end", .int (((k + scanN isDg (t.drop k) : Nat) : Int) : Int)), ("self", .inst .lexer dx), ("at", .int (j : Int))] σ ?_ ?_
 ·refine WW.weak (ρ := [("end", .int (((k : Nat) : Int) : Int)), ("self", .inst .lexer dx), ("at", .int (j : Int))]) ?_ (by rw [hk]; walk_at "my sub")
  clear hk
  generalize hs : t.drop k = s
  generalize hE : k + scanN isDg s = E
  induction s generalizing k with
  | nil =>
   refine WW_step ?_
   refine WT_or (WT_val (ca ?_))
   refine WL_cons (me ?_)
   refine lz ?_
   refine char_dr T L hs ?_
   refine WL_nil (is_digit_ok T ?_)
   walk_at "my tr"
   refine ite_f (rfl) (WT_or1 (WT_cmp T.OK (me ?_)))
   refine lz ?_
   refine char_dr T L hs ?_
   refine WE_strE ks_45 (.eqS ?_)
   refine ite_f (rfl) (WB_nil ?_)
   obtain rfl : k = E := hE
   exact ⟨rfl, by walk_at "my sub", rfl⟩
  | cons x s ih =>
   refine WW_step ?_
   refine WT_or (WT_val (ca ?_))
   refine WL_cons (me ?_)
   refine lz ?_
   refine char_dr T L hs ?_
   refine WL_nil (is_digit_ok T ?_)
   walk_at "my tr"
   refine ite_b (fun hb1 => ?_) (fun hb1 => ?_)
   ·refine ite_t rfl (WB_name (bl ?_))
    refine WE_int (.add ?_)
    refine WB_nil (L_next ?_)
    have e1 : isDg x = true := or_l hb1
    exact WW.weak (ρ := [("end", .int (((k + 1 : Nat) : Int) : Int)), ("self", .inst .lexer dx), ("at", .int (j : Int))]) (ih (k + 1) (drop_cons hs) ((scanN_up e1).symm.trans hE)) (by walk_at "my sub")
   ·refine WT_or1 (WT_cmp T.OK (me ?_))
    refine lz ?_
    refine char_dr T L hs ?_
    refine WE_strE ks_45 (.eqS ?_)
    refine ite_b (fun hb2 => ?_) (fun hb2 => ?_)
    ·refine WB_name (bl ?_)
     refine WE_int (.add ?_)
     refine WB_nil (L_next ?_)
     have e1 : isDg x = true := or_r hb2
     exact WW.weak (ρ := [("end", .int (((k + 1 : Nat) : Int) : Int)), ("self", .inst .lexer dx), ("at", .int (j : Int))]) (ih (k + 1) (drop_cons hs) ((scanN_up e1).symm.trans hE)) (by walk_at "my sub")
    ·refine WB_nil ?_
     have e1 : isDg x = false := or_n hb1 hb2
     obtain rfl : k = E := (scanN_no e1).symm.trans hE
     exact ⟨rfl, by walk_at "my sub", rfl⟩
 ·subst hk
  refine WB_if (WT_val (me ?_))
  refine lz ?_
  refine is_real_ok T L (by rw [hn0]; exact h1) (by rw [hn0]; exact h2) ?_
  walk_at "my tr"
  refine ite_f (rfl) (WB_nil (WB_name (WE_meth T.OK (WE_slice (att ?_)))))
  refine lo ?_
  refine lo ?_
  refine U_cut (by walk_at "my sl") (cutA _ _ _) ?_
  refine ⟨_, GM_str F.slot_str_replace F.type_str_replace, ?_⟩
  refine WL_str ks_45 (WL_str1 ks_12 ?_)
  rw [hn0] at *
  refine CV_replace hu ?_
  refine WB_name (me ?_)
  refine lz ?_
  refine past_layout_ok T L ?_
  refine WB_if (WT_cmp T.OK (me ?_))
  refine lz ?_
  refine char_ok T L ?_
  refine WE_strE ks_49 (.eqS ?_)
  refine ite_t (decide_eq_true h3) ?_
  refine WB_ret (me ?_)
  refine la ?_
  refine la ?_
  refine lz ?_
  refine MC.mono hc (by walk_at "o") fun v σ' q => ?_
  exact q
theorem keywords_ok (T : Txt c) (h : ∀ D, σ D = none → Q (.dct D) (σ.set D (.map (splitL 32 kwText).reverse))) : CF c (d + 1) "keywords" [] σ Q := by
 refine CF_fn T.OK T.f_keywords [] _ (show WB _ _ _ _ [] _ _ from ?_)
 refine WB_name (WE_strE ks_7 (WB_name (WE_nodict ?_)))
 intro A_1 h_1
 refine WB_cons (WS_for ?_ (fun _ _ => rfl))
 refine WE_meth T.OK (lo ?_)
 refine ⟨_, GM_str F.slot_str_split F.type_str_split, ?_⟩
 refine WL_str1 ks_13 ?_
 refine CV_split kw_sp kw_small (by rw [kw_len, sizeLine_eq]; decide) fun AL hAL => ?_
 refine H_lst (by walk_at "my st") ?_
 rw [del_set hAL]
 refine WF.re (Q := fun fl ρ' σ' => fl = .next ∧ subL [("found", .dct A_1)] ρ' ∧ σ' = σ.set A_1 (.map ((splitL 32 kwText).reverse ++ []))) ?_ ?_
 ·have key : ∀ (ws : List (List Nat)) (acc : List (List Nat)), acc.length + ws.length ≤ 1000 → WF c d (fnScope (top 6)) (wI (nth (fnBody (top 6)) 2)) (wB (nth (fnBody (top 6)) 2)) [] (ws.map .str) [("found", .dct A_1)] (σ.set A_1 (.map acc)) (fun fl ρ' σ' => fl = .next ∧ subL [("found", .dct A_1)] ρ' ∧ σ' = σ.set A_1 (.map (ws.reverse ++ acc))) := by
   intro ws
   induction ws with
   | nil =>
    intro acc hz
    refine WF_nil ?_
    refine WB_nil ?_
    exact ⟨rfl, by walk_at "my sub", rfl⟩
   | cons w ws ih =>
    intro acc hz
    simp only [List.length_cons] at hz
    refine WF_cons ?_
    refine G_name (by decide +kernel) (WB_cons (WS_item T.OK ?_))
    refine WE_bool (lo ?_)
    refine lo ?_
    refine ⟨_, _, _, rfl, rfl, Store.set_self _ _ _, by rw [sizeLine_eq]; omega, ?_⟩
    refine WB_nil (L_next (WF.ss ?_))
    have := ih (w :: acc) (by simp only [List.length_cons]; omega)
    rw [show ws.reverse ++ w :: acc = (w :: ws).reverse ++ acc by simp] at this
    exact WF.weak this (by walk_at "my sub")
  have hlw : (splitL 32 kwText).length ≤ 1000 := by have := splitL_length 32 kwText; rw [kw_len] at this; omega
  exact WF.weak (key _ [] (by simpa using hlw)) (by walk_at "my sub")
 intro fl ρ' σ' ⟨e1, e2, e3⟩
 subst e1 e3
 refine ⟨_, e2, ?_⟩
 refine WB_ret (lo ?_)
 refine N_ret (R_ret ?_)
 rw [List.append_nil]
 exact h A_1 h_1
end
section
variable {c : Cx} {d : Nat} {σ : Store} {Q : V → Store → Prop} {t : List Nat} {dx kd : Addr} {i : Int}
theorem binds_default {c : Cx} {σ : Store} {s : Shared} {fd : FuncData} {args : Args} {k : Option (Array Value) → Sem (List (Str × Value))} {binds : Tok → List (Str × Value)} (B : Base c σ s) (D : DEFLT c fd.defaults)
  (h₁ : bindArgs fd args = seqItems? fd.defaults >>= k) (h₂ : ∀ t, k (some #[.int 0 t]) = pure (binds t)) : ∃ t, BindsTo s fd args (binds t) := by
 obtain ⟨T, o, t, n, hd, ho, hs⟩ := D
 exact ⟨t, BindsTo.of_defaults hd (B.ground _ _ ho) hs h₁ (h₂ t)⟩
theorem Lexer_ok (T : Txt c) (hz : t.length ≤ 4000000) (h : ∀ dx kd σ', σ dx = none → σ kd = none → LexAt σ' dx t 0 kd → SubS σ σ' → Q (.inst .lexer dx) σ') : CF c (d + 5) "Lexer" [.str t] σ Q := by
 refine ⟨_, .inl T.lexer.1, ?_⟩
 obtain ⟨f, hm, F⟩ := T.iLexer
 refine CV_make T.OK hm fun dx hdx => ?_
 refine CC_fnB T.OK F ["self", "text", "at"] (us' := [.inst .lexer dx, .str t, .int 0]) (by decide +kernel) rfl ?_ (show WB _ _ _ _ [("self", _), ("text", _), ("at", _)] _ _ from ?_)
 ·intro name qual dV kV doc pm an cdv ct s vs hD B r
  have hl := r.length
  revert B r
  refine ba2 vs hl fun v0 v1 B r => ?_
  ·obtain ⟨tk, hb⟩ := binds_default (binds := fun tk => (["self", "text", "at"] : List Str).zip [v0, v1, .int 0 tk]) (fd := fnX name qual (fnArgs (meth 12 0)) (fnBody (meth 12 0)) (fnScope (meth 12 0)) [] dV kV doc pm an cdv ct) (args := ⟨[v0, v1], []⟩) B hD rfl (fun _ => rfl)
   refine ⟨[v0, v1, .int 0 tk], ?_, hb⟩
   obtain ⟨a, b, e, r1, r2⟩ := r
   cases e
   obtain ⟨a, b, e, r2, r3⟩ := r2
   cases e
   exact RepL_cons r1 (RepL_cons r2 (RepL_cons Rep_int rfl))
 refine WB_cons (WS_attr' T.OK ?_)
 refine lo ?_
 refine lo ?_
 (refine E_set (by walk_at "my st") ?_ (by simp) (by walk_at "my put") ?_; exact T.fs _ _ (by decide +kernel))
 refine WB_cons (WS_attr' T.OK ?_)
 refine lo ?_
 refine lo ?_
 (refine E_set (by walk_at "my st") ?_ (by simp) (by walk_at "my put") ?_; exact T.fs _ _ (by decide +kernel))
 refine WB_cons (WS_attr' T.OK ?_)
 refine ca ?_
 refine WL_nil (keywords_ok T fun kd hkd => ?_)
 have hkdne := ne_set hkd
 refine lo ?_
 (refine E_set (by walk_at "my st") ?_ (by simp) (by walk_at "my put") ?_; exact T.fs _ _ (by decide +kernel))
 refine WB_nil (R_next ?_)
 have hkd0 : σ kd = none := free_set (free_set (free_set hkd))
 have hk1 : kd ≠ dx := ne_set (free_set (free_set hkd))
 refine ⟨rfl, h dx kd _ hdx hkd0 ⟨Store.set_self _ _ _, (Store.set_ne _ _ hk1).trans (Store.set_self _ _ _), hz⟩ ?_⟩
 exact (((((SubS.refl σ).new hdx).new hdx).new hdx).new hkd0).new hdx
end
inductive Tk where
 | eof | op (l : List Nat) | id (l : List Nat) | sys (l : List Nat) | str (l : List Nat) | num (size base : List Nat) (signed : Bool) (digits : List Nat)
noncomputable def Tk.kind : Tk → List Nat
 | .eof => [101, 111, 102]
 | .op _ => [111, 112]
 | .id _ => [105, 100]
 | .sys _ => [115, 121, 115]
 | .str _ => [115, 116, 114]
 | .num .. => [110, 117, 109]
noncomputable def Tk.val : Tk → V
 | .eof => .str []
 | .op l => .str l
 | .id l => .str l
 | .sys l => .str l
 | .str l => .str l
 | .num s b g d => .tup [.str s, .str b, .bool g, .str d]
inductive Lx1 : List Nat → Tk → List Nat → Prop where
 | eof : Lx1 [] .eof []
 | id (x : Nat) (w r : List Nat) (hx : isLetter [x] = true ∨ x = 95) (ha : ∀ y ∈ x :: w, isWd y = true) (hr : ∀ y q, r = y :: q → isWd y = false) (hk : (splitL 32 kwText).reverse.contains (x :: w) = false) : Lx1 (x :: w ++ r) (.id (x :: w)) r
 | esc (w r : List Nat) (hw : w ≠ []) (ha : ∀ y ∈ w, notLay y = true) (hr : ∀ y q, r = y :: q → notLay y = false) : Lx1 (92 :: (w ++ r)) (.id w) r
 | sys (w r : List Nat) (hw : w ≠ []) (ha : ∀ y ∈ w, isWd y = true) (hr : ∀ y q, r = y :: q → isWd y = false) : Lx1 (36 :: (w ++ r)) (.sys (36 :: w)) r
 | num (ds r : List Nat) (hd : ds ≠ []) (ha : ∀ y ∈ ds, 48 ≤ y ∧ y ≤ 57) (hr : ∀ y q, r = y :: q → isDg y = false) (h46 : r.take 1 ≠ [46]) (he : [[101], [69]].contains (r.take 1) = false) (hq : (r.drop (scanN isLay r)).take 1 ≠ [39]) : Lx1 (ds ++ r) (.num [] [] true ds) r
 | bas (ds : List Nat) (sg : Bool) (bits r : List Nat) (ha : ∀ y ∈ ds, 48 ≤ y ∧ y ≤ 57) (hb : bits ≠ []) (hb' : ∀ x ∈ bits, bit x = true) (hr : ∀ y q, r = y :: q → isBd y = false) : Lx1 (ds ++ 39 :: ((if sg then [115] else []) ++ 98 :: (bits ++ r))) (.num ds [98] sg bits) r
 | str (ps : List Pc) (r : List Nat) (hp : ∀ p ∈ ps, p.ok) : Lx1 (34 :: (encs ps ++ 34 :: r)) (.str (ps.map Pc.dec)) r
 | op3 (a b e : Nat) (r : List Nat) (h : ops3.contains [a, b, e] = true) : Lx1 (a :: b :: e :: r) (.op [a, b, e]) r
 | op2 (a b : Nat) (r : List Nat) (h2 : ops2.contains [a, b] = true) (h3 : ops3.contains ((a :: b :: r).take 3) = false) : Lx1 (a :: b :: r) (.op [a, b]) r
 | op1 (a : Nat) (r : List Nat) (h1 : ops1.contains a = true) (h2 : ops2.contains ((a :: r).take 2) = false) (h3 : ops3.contains ((a :: r).take 3) = false) : Lx1 (a :: r) (.op [a]) r
noncomputable def Lx (s : List Nat) (tk : Tk) (s' : List Nat) : Prop := (∀ p, (s.drop (scanN isLay s)).take 2 = p → p ≠ [47, 47] ∧ p ≠ [47, 42] ∧ p ≠ [40, 42]) ∧ Lx1 (s.drop (scanN isLay s)) tk s'
theorem dig_facts {y : Nat} (h : 48 ≤ y ∧ y ≤ 57) : isDigit [y] = true ∧ isDg y = true ∧ isLetter [y] = false ∧ y ≠ 95 := by
 have h1 : isDigit [y] = true := by unfold isDigit; rw [decide_eq_false (by rw [one_lt]; omega), decide_eq_false (by rw [one_lt]; omega)]; rfl
 refine ⟨h1, by unfold isDg; rw [h1]; rfl, ?_, by walk_at "o"⟩
 unfold isLetter
 rw [decide_eq_true (show [y] < [97] by rw [one_lt]; omega), decide_eq_true (show [y] < [65] by rw [one_lt]; omega)]; rfl
noncomputable def hdOK : List Nat → Bool
 | a :: _ => decide (isLetter [a] = false ∧ a ≠ 95 ∧ isDigit [a] = false ∧ (a ≠ 39 ∧ a ≠ 92 ∧ a ≠ 36 ∧ a ≠ 34))
 | [] => true
theorem op1_first {a : Nat} (h : ops1.contains a = true) : isLetter [a] = false ∧ a ≠ 95 ∧ isDigit [a] = false ∧ (a ≠ 39 ∧ a ≠ 92 ∧ a ≠ 36 ∧ a ≠ 34) := of_decide_eq_true (List.all_eq_true.mp (show (ops1.all fun a => hdOK [a]) = true by decide +kernel) a (List.contains_iff_mem.mp h))
theorem op2_first {a b : Nat} (h : ops2.contains [a, b] = true) : isLetter [a] = false ∧ a ≠ 95 ∧ isDigit [a] = false ∧ (a ≠ 39 ∧ a ≠ 92 ∧ a ≠ 36 ∧ a ≠ 34) := of_decide_eq_true (List.all_eq_true.mp (show ops2.all hdOK = true by decide +kernel) [a, b] (List.contains_iff_mem.mp h))
theorem op3_first {a b e : Nat} (h : ops3.contains [a, b, e] = true) : isLetter [a] = false ∧ a ≠ 95 ∧ isDigit [a] = false ∧ (a ≠ 39 ∧ a ≠ 92 ∧ a ≠ 36 ∧ a ≠ 34) := of_decide_eq_true (List.all_eq_true.mp (show ops3.all hdOK = true by decide +kernel) [a, b, e] (List.contains_iff_mem.mp h))
theorem drop_app {t a b : List Nat} {j : Nat} (h : t.drop j = a ++ b) : t.drop (j + a.length) = b := by
 rw [← List.drop_drop, h, List.drop_left]
section
variable {c : Cx} {d : Nat} {σ : Store} {Q : V → Store → Prop} {t : List Nat} {dx kd : Addr} {i : Int}
theorem lx_ok (T : Txt c) {s s' : List Nat} {tk : Tk} {j : Nat} (L : LexAt σ dx t j kd) (hs : t.drop j = s) (hl : Lx s tk s') (h : ∀ tx j' a, σ tx = none → t.drop j' = s' → Q (.inst .token tx) ((σ.set dx (lexNs t (j' : Nat) kd)).set tx (tokNs tk.kind tk.val a))) :
  MC c (d + 20) .lexer "next_token" [.inst .lexer dx] σ Q := by
 obtain ⟨hp, hl⟩ := hl
 subst hs
 have hJ : (t.drop j).drop (scanN isLay (t.drop j)) = t.drop (j + scanN isLay (t.drop j)) := List.drop_drop
 have L' := L.go ((j + scanN isLay (t.drop j) : Nat) : Int)
 have hp' := hp
 rw [hJ] at hl hp
 generalize hJ' : j + scanN isLay (t.drop j) = J at *
 have fin : ∀ {j' : Nat} {tx a}, (σ.set dx (lexNs t (J : Int) kd)) tx = none → t.drop j' = s' → Q (.inst .token tx) (((σ.set dx (lexNs t (J : Int) kd)).set dx (lexNs t (j' : Nat) kd)).set tx (tokNs tk.kind tk.val a)) := fun {j' tx a} h1 h2 => by
  rw [Store.set_set]
  exact h tx j' a (free_set h1) h2
 generalize hs1 : t.drop J = s1 at hl
 induction hl with
 | eof =>
  subst hJ'
  refine MC.mono (next_eof_ok (d := d) (Q := Q) T L (by rw [hs1]; rfl) fun tx htx => ?_) (by walk_at "o") fun v σ' q => q
  exact h tx _ _ htx hs1
 | id x w r hx ha hr hk =>
  have hsc : scanN isWd (t.drop J) = (x :: w).length := by rw [hs1]; exact scanN_app ha hr
  have htk : (t.drop J).take (scanN isWd (t.drop J)) = x :: w := by rw [hsc, hs1, List.take_left]
  have hx1 : (t.drop J).take 1 = [x] := by rw [hs1]; rfl
  have hw := word_ok (d := d) (Q := Q) T L' (j := J) (by rw [htk]; exact hk) fun tx htx => by
   rw [htk, hsc]; exact fin htx (drop_app hs1)
  subst hJ'
  rcases hx with hx | hx
  ·exact MC.mono (next_word_ok (d := d) T L hp' hx1 hx (hw.mono (by walk_at "o") fun _ _ q => q)) (by walk_at "o") fun v σ' q => q
  ·exact MC.mono (next_word2_ok (d := d) T L hp' hx1 hx (hw.mono (by walk_at "o") fun _ _ q => q)) (by walk_at "o") fun v σ' q => q
 | esc w r hw ha hr =>
  have h1 : t.drop (J + 1) = w ++ r := drop_cons hs1
  have hsc : scanN notLay (t.drop (J + 1)) = w.length := by rw [h1]; exact scanN_app ha hr
  have hx1 : (t.drop J).take 1 = [92] := by rw [hs1]; rfl
  have hw := escaped_ok (d := d) (Q := Q) T L' (j := J) (by rw [hsc]; exact List.length_pos_iff.mpr hw) fun tx htx => by
   rw [hsc, h1, List.take_left]; exact fin htx (drop_app h1)
  subst hJ'
  exact MC.mono (next_escaped_ok (d := d) T L hp' hx1 rfl (hw.mono (by walk_at "o") fun _ _ q => q)) (by walk_at "o") fun v σ' q => q
 | sys w r hw ha hr =>
  have h1 : t.drop (J + 1) = w ++ r := drop_cons hs1
  have hsc : scanN isWd (t.drop (J + 1)) = w.length := by rw [h1]; exact scanN_app ha hr
  have hx1 : (t.drop J).take 1 = [36] := by rw [hs1]; rfl
  have hw := system_ok (d := d) (Q := Q) T L' (j := J) (by rw [hsc]; exact List.length_pos_iff.mpr hw) fun tx htx => by
   rw [hsc, hs1, show List.take (w.length + 1) (36 :: (w ++ r)) = 36 :: w by rw [List.take_succ_cons, List.take_left]]
   exact fin htx (by rw [show J + (w.length + 1) = J + 1 + w.length by walk_at "o"]; exact drop_app h1)
  subst hJ'
  exact MC.mono (next_system_ok (d := d) T L hp' hx1 rfl (hw.mono (by walk_at "o") fun _ _ q => q)) (by walk_at "o") fun v σ' q => q
 | num ds r hd ha hr h46 he hq =>
  have hsc : scanN isDg (t.drop J) = ds.length := by rw [hs1]; exact scanN_app (fun y hy => (dig_facts (ha y hy)).2.1) hr
  have htk : (t.drop J).take ds.length = ds := by rw [hs1, List.take_left]
  have hd2 : t.drop (J + ds.length) = r := drop_app hs1
  have hw := number_ok (d := d) (Q := Q) T L' (j := J) hsc (by rw [htk]; exact fun z => (dig_facts (ha _ z)).2.2.2 rfl) (by rw [hd2]; exact h46) (by rw [hd2]; exact he) (by rw [← List.drop_drop, hd2]; exact hq) fun tx htx => by
   rw [htk]; exact fin htx hd2
  obtain ⟨x, w, rfl⟩ : ∃ x w, ds = x :: w := by cases ds with | nil => exact absurd rfl hd | cons a b => exact ⟨a, b, rfl⟩
  have hx1 : (t.drop J).take 1 = [x] := by rw [hs1]; rfl
  have f := dig_facts (ha x (.head _))
  subst hJ'
  exact MC.mono (next_num_ok (d := d) T L hp' hx1 f.2.2.1 f.2.2.2 f.1 (hw.mono (by walk_at "o") fun _ _ q => q)) (by walk_at "o") fun v σ' q => q
 | bas ds sg bits r ha hb hb' hr =>
  have hd2 : t.drop (J + ds.length) = 39 :: ((if sg then [115] else []) ++ 98 :: (bits ++ r)) := drop_app hs1
  have htk : (t.drop J).take ds.length = ds := by rw [hs1, List.take_left]
  have bas : MC c (d + 4) .lexer "based" [.inst .lexer dx, .int (J : Nat), .int (J + ds.length : Nat), .str ds] (σ.set dx (lexNs t (J : Int) kd)) Q := by
   cases sg with
   | true =>
    have h1 : t.drop (J + ds.length + 1) = 115 :: 98 :: (bits ++ r) := drop_cons hd2
    exact based_s_ok T L' h1 hb hb' hr fun tx htx => fin htx (drop_app (drop_cons (drop_cons h1)))
   | false =>
    have h1 : t.drop (J + ds.length + 1) = 98 :: (bits ++ r) := drop_cons hd2
    exact based_u_ok T L' h1 hb hb' hr fun tx htx => fin htx (drop_app (drop_cons h1))
  cases ds with
  | nil =>
   have hx1 : (t.drop J).take 1 = [39] := by rw [hs1]; rfl
   subst hJ'
   exact MC.mono (next_based_ok (d := d) T L hp' hx1 rfl (bas.mono (by walk_at "o") fun _ _ q => q)) (by walk_at "o") fun v σ' q => q
  | cons x w =>
   have hsc : scanN isDg (t.drop J) = (x :: w).length := by rw [hs1]; exact scanN_app (fun y hy => (dig_facts (ha y hy)).2.1) (fun y q e => by cases e; decide)
   have hx1 : (t.drop J).take 1 = [x] := by rw [hs1]; rfl
   have f := dig_facts (ha x (.head _))
   have h0 : scanN isLay (t.drop (J + (x :: w).length)) = 0 := by rw [hd2]; rfl
   have hw := numberB_ok (d := d) (Q := Q) T L' (j := J) hsc (by rw [htk]; exact fun z => (dig_facts (ha _ z)).2.2.2 rfl) (by rw [hd2]; simp) (by rw [hd2]; rfl) (by rw [h0, Nat.add_zero, hd2]; rfl) (by rw [h0, Nat.add_zero, htk]; exact bas)
   subst hJ'
   exact MC.mono (next_num_ok (d := d) T L hp' hx1 f.2.2.1 f.2.2.2 f.1 (hw.mono (by walk_at "o") fun _ _ q => q)) (by walk_at "o") fun v σ' q => q
 | str ps r hps =>
  have h1 : t.drop (J + 1) = encs ps ++ 34 :: r := drop_cons hs1
  have hx1 : (t.drop J).take 1 = [34] := by rw [hs1]; rfl
  have hlen : ps.length ≤ 4000000 := by
   have e1 := congrArg List.length h1
   have e2 : ps.length ≤ (encs ps).length := by
    clear h1 hs1 hps h e1 fin
    unfold encs
    induction ps with
    | nil => exact Nat.le_refl _
    | cons p ps ih =>
     rw [List.flatMap_cons, List.length_append, List.length_cons]
     have : 1 ≤ p.enc.length := by cases p <;> simp [Pc.enc]
     omega
   simp only [List.length_drop, List.length_append] at e1
   have := L.size
   omega
  have hw := string_ok (d := d) (Q := Q) T L' (j := J) h1 hps hlen fun tx htx => fin htx (by rw [show J + 1 + (encs ps).length + 1 = (J + 1 + (encs ps).length) + 1 from rfl]; exact drop_cons (drop_app h1))
  subst hJ'
  exact MC.mono (next_string_ok (d := d) T L hp' hx1 rfl (hw.mono (by walk_at "o") fun _ _ q => q)) (by walk_at "o") fun v σ' q => q
 | op3 a b e r ho =>
  have hx1 : (t.drop J).take 1 = [a] := by rw [hs1]; rfl
  have htk : (t.drop J).take 3 = [a, b, e] := by rw [hs1]; rfl
  have hw := op3_ok (d := d) (Q := Q) T L' (j := J) (by rw [hs1]; simp) (by rw [htk]; exact ho) fun tx htx => by
   rw [htk]; exact fin htx (drop_cons (drop_cons (drop_cons hs1)))
  have f := op3_first ho
  subst hJ'
  exact MC.mono (next_op_ok (d := d) T L hp' hx1 f.1 f.2.1 f.2.2.1 f.2.2.2 (hw.mono (by walk_at "o") fun _ _ q => q)) (by walk_at "o") fun v σ' q => q
 | op2 a b r ho h3 =>
  have hx1 : (t.drop J).take 1 = [a] := by rw [hs1]; rfl
  have htk : (t.drop J).take 2 = [a, b] := by rw [hs1]; rfl
  have hw := op2_ok (d := d) (Q := Q) T L' (j := J) (by rw [hs1]; simp) (by rw [hs1]; exact h3) (by rw [htk]; exact ho) fun tx htx => by
   rw [htk]; exact fin htx (drop_cons (drop_cons hs1))
  have f := op2_first ho
  subst hJ'
  exact MC.mono (next_op_ok (d := d) T L hp' hx1 f.1 f.2.1 f.2.2.1 f.2.2.2 (hw.mono (by walk_at "o") fun _ _ q => q)) (by walk_at "o") fun v σ' q => q
 | op1 a r ho h2 h3 =>
  have hx1 : (t.drop J).take 1 = [a] := by rw [hs1]; rfl
  have hw := op1_ok (d := d) (Q := Q) T L' (j := J) hs1 ho (by rw [hs1]; exact h3) (by rw [hs1]; exact h2) fun tx htx => by
   rw [hx1]; exact fin htx (drop_cons hs1)
  have f := op1_first ho
  subst hJ'
  exact MC.mono (next_op_ok (d := d) T L hp' hx1 f.1 f.2.1 f.2.2.1 f.2.2.2 (hw.mono (by walk_at "o") fun _ _ q => q)) (by walk_at "o") fun v σ' q => q
end
noncomputable def Lxs : List Nat → List Tk → Prop
 | _, [] => True
 | s, k :: ks => ∃ s', Lx s k s' ∧ Lxs s' ks
noncomputable def parNs (dx ah tx : Addr) (a : Int) : AO := .ns [("source", .inst .lexer dx), ("ahead", .lst ah), ("token", .inst .token tx), ("at", .int a)]
noncomputable def Strm (σ : Store) (px dx ah : Addr) : List Tk → Prop
 | [] => False
 | k :: ks => ∃ kd tx t, ∃ j : Nat, ∃ a a' : Int, σ px = some (parNs dx ah tx a) ∧ σ ah = some (.list []) ∧ σ tx = some (tokNs k.kind k.val a') ∧ LexAt σ dx t j kd ∧ Lxs (t.drop j) ks
noncomputable def K2 (px dx : Addr) (σ σ' : Store) : Prop := ∀ a o, σ a = some o → a ≠ px → a ≠ dx → σ' a = some o
theorem K2.refl (px dx : Addr) (σ : Store) : K2 px dx σ σ := fun _ _ h _ _ => h
theorem K2.trans {px dx : Addr} {σ σ₁ σ₂ : Store} (x : K2 px dx σ σ₁) (y : K2 px dx σ₁ σ₂) : K2 px dx σ σ₂ := fun a o h h1 h2 => y a o (x a o h h1 h2) h1 h2
theorem K2.new {px dx : Addr} {σ σ₁ : Store} {a : Addr} {o : AO} (x : K2 px dx σ σ₁) (h : σ a = none) : K2 px dx σ (σ₁.set a o) := fun b p e h1 h2 => (Store.set_ne _ _ fun z : b = a => by rw [z, h] at e; cases e).trans (x b p e h1 h2)
theorem K2.px {px dx : Addr} {σ σ₁ : Store} {o : AO} (x : K2 px dx σ σ₁) : K2 px dx σ (σ₁.set px o) := fun b p e h1 h2 => (Store.set_ne _ _ h1).trans (x b p e h1 h2)
theorem K2.dx {px dx : Addr} {σ σ₁ : Store} {o : AO} (x : K2 px dx σ σ₁) : K2 px dx σ (σ₁.set dx o) := fun b p e h1 h2 => (Store.set_ne _ _ h2).trans (x b p e h1 h2)
theorem ns_ne {σ : Store} {a b : Addr} {x y : Str} {u v : V} {r r' : List (Str × V)} (h : σ a = some (.ns ((x, u) :: r))) (h' : σ b = some (.ns ((y, v) :: r'))) (e : (x == y) = false) : a ≠ b := fun z => by
 rw [z, h'] at h
 have h1 := AO.ns.inj (Option.some.inj h)
 have h2 := (Prod.mk.inj (List.cons.inj h1).1).1
 rw [h2] at e; simp at e
theorem ne_ln {σ : Store} {a b : Addr} {l : List V} {m : List (Str × V)} (h : σ a = some (.list l)) (h' : σ b = some (.ns m)) : a ≠ b := fun z => by rw [z, h'] at h; cases h
theorem ne_mn {σ : Store} {a b : Addr} {l : List (List Nat)} {m : List (Str × V)} (h : σ a = some (.map l)) (h' : σ b = some (.ns m)) : a ≠ b := fun z => by rw [z, h'] at h; cases h
theorem ne_ml {σ : Store} {a b : Addr} {l : List (List Nat)} {m : List V} (h : σ a = some (.map l)) (h' : σ b = some (.list m)) : a ≠ b := fun z => by rw [z, h'] at h; cases h
noncomputable def isOp (k : Tk) (l : List Nat) : Bool := match k with | .op m => decide (m = l) | _ => false
section
variable {c : Cx} {d : Nat} {σ : Store} {Q : V → Store → Prop} {px dx ah : Addr} {ks : List Tk} {k k2 : Tk} {l : List Nat}
theorem take_ok (T : Txt c) (S : Strm σ px dx ah (k :: k2 :: ks)) (h : ∀ tx σ' a, K2 px dx σ σ' → Strm σ' px dx ah (k2 :: ks) → σ' tx = some (tokNs k.kind k.val a) → Q (.inst .token tx) σ') : MC c (d + 22) .parser "take" [.inst .parser px] σ Q := by
 obtain ⟨kd, tx, t, j, a, a2, hpx, hah, htx, L, hls⟩ := S
 unfold parNs at hpx
 unfold tokNs at htx
 have hn := L.ns
 have hkd := L.keys
 have hkx := L.ne
 have hpd := ns_ne hpx hn (by decide +kernel)
 have hpt := ns_ne hpx htx (by decide +kernel)
 have htd := ns_ne htx hn (by decide +kernel)
 have hap := ne_ln hah hpx
 have had := ne_ln hah hn
 have hat := ne_ln hah htx
 have hkp := ne_mn hkd hpx
 have hkt := ne_mn hkd htx
 have hka := ne_ml hkd hah
 obtain ⟨s3, hlx, hls⟩ := hls
 refine MC_fn T.OK T.m_take ["self"] _ (show WB _ _ _ _ [("self", _)] _ _ from ?_)
 refine WB_name (att ?_)
 refine WB_if (WT_cmp T.OK (ca ?_))
 refine WL_cons (att ?_)
 refine WL_nil (X_len T ?_)
 refine CV_len_lst (by walk_at "my st") (by walk_at "my sz") ?_
 refine WE_int (.gtI ?_)
 refine ite_f (rfl) (WB_cons (WS_attr' T.OK ?_))
 refine WE_methI T.OK (att ?_)
 refine em ?_
 refine WL_nil (lx_ok T L rfl hlx fun tx2 j2 a3 htx2 hj2 => ?_)
 unfold tokNs lexNs
 refine lo ?_
 (refine E_set (by walk_at "my st") ?_ (by simp) (by walk_at "my put") ?_; exact T.fs _ _ (by decide +kernel))
 refine WB_nil (WB_cons (WS_attr' T.OK ?_))
 refine WE_attr T.OK (fun _ _ => rfl) (att ?_)
 refine ea ?_
 refine lo ?_
 (refine E_set (by walk_at "my st") ?_ (by simp) (by walk_at "my put") ?_; exact T.fs _ _ (by decide +kernel))
 refine WB_ret (lo ?_)
 refine N_ret (R_ret (h tx _ a2 ?_ ?_ ?_))
 ·exact (((((K2.refl px dx σ).dx).new htx2).px).px)
 ·refine ⟨kd, tx2, t, j2, _, a3, by walk_at "my st", by walk_at "my st", by walk_at "my st", ⟨by walk_at "my st", by walk_at "my st", L.size⟩, ?_⟩
  rw [hj2]; exact hls
 ·walk_at "my st"
theorem Strm.here {σ : Store} {px dx ah : Addr} {k : Tk} {ks : List Tk} (S : Strm σ px dx ah (k :: ks)) : ∃ tx a a', σ px = some (parNs dx ah tx a) ∧ σ tx = some (tokNs k.kind k.val a') := let ⟨_, tx, _, _, a, a', h1, _, h2, _⟩ := S; ⟨tx, a, a', h1, h2⟩
theorem is_op1_ok (T : Txt c) {m : List Nat} (S : Strm σ px dx ah (.op m :: ks)) (h : Q (.bool (decide (m = l))) σ) : MC c (d + 1) .parser "is_op" [.inst .parser px, .str l] σ Q := by
 obtain ⟨tx, a, a2, hpx, htx⟩ := S.here
 unfold parNs at hpx
 unfold tokNs at htx
 simp only [Tk.kind, Tk.val] at htx
 refine MC_fn T.OK T.m_is_op ["self", "text"] _ (show WB _ _ _ _ [("self", _), ("text", _)] _ _ from ?_)
 refine WB_ret (WE_bo (WE_cmp T.OK (WE_attr T.OK (fun _ _ => rfl) (att ?_))))
 refine ea ?_
 refine WE_strE ks_59 (.eqS ?_)
 walk_at "my tr"
 refine bo_and_n (rfl) (WE_bo1 (WE_cmp T.OK (WE_attr T.OK (fun _ _ => rfl) (att ?_))))
 refine ea ?_
 refine lo ?_
 refine .eqS ?_
 exact h
theorem is_op2_ok (T : Txt c) (S : Strm σ px dx ah (k :: ks)) (hk : k.kind ≠ [111, 112]) (h : Q (.bool false) σ) : MC c (d + 1) .parser "is_op" [.inst .parser px, .str l] σ Q := by
 obtain ⟨tx, a, a2, hpx, htx⟩ := S.here
 unfold parNs at hpx
 unfold tokNs at htx
 refine MC_fn T.OK T.m_is_op ["self", "text"] _ (show WB _ _ _ _ [("self", _), ("text", _)] _ _ from ?_)
 refine WB_ret (WE_bo (WE_cmp T.OK (WE_attr T.OK (fun _ _ => rfl) (att ?_))))
 refine ea ?_
 refine WE_strE ks_59 (.eqS ?_)
 walk_at "my tr"
 refine bo_and_s (decide_eq_false hk) ?_
 refine N_ret (R_ret ?_)
 rw [decide_eq_false hk]; exact h
theorem is_op_ok (T : Txt c) (S : Strm σ px dx ah (k :: ks)) (h : Q (.bool (isOp k l)) σ) : MC c (d + 1) .parser "is_op" [.inst .parser px, .str l] σ Q := by
 cases k with
 | op m => exact is_op1_ok T S h
 | _ => exact is_op2_ok T S (by simp [Tk.kind]) h
theorem accept1_ok (T : Txt c) (S : Strm σ px dx ah (k :: k2 :: ks)) (hop : isOp k l = true) (h : ∀ σ', K2 px dx σ σ' → Strm σ' px dx ah (k2 :: ks) → Q (.bool true) σ') : MC c (d + 23) .parser "accept_op" [.inst .parser px, .str l] σ Q := by
 have HS := S
 obtain ⟨tx, a, a2, hpx, htx⟩ := S.here
 unfold parNs at hpx
 unfold tokNs at htx
 refine MC_fn T.OK T.m_accept_op ["self", "text"] _ (show WB _ _ _ _ [("self", _), ("text", _)] _ _ from ?_)
 refine WB_if (WT_val (me ?_))
 refine lz ?_
 refine is_op_ok T S ?_
 walk_at "my tr"
 refine ite_t (hop) ?_
 refine WB_expr (me ?_)
 refine WL_nil (take_ok T S fun tx σ' a hk hs ht => ?_)
 exact WB_ret (WE_bool (h σ' hk hs))
theorem accept0_ok (T : Txt c) (S : Strm σ px dx ah (k :: ks)) (hop : isOp k l = false) (h : Q (.bool false) σ) : MC c (d + 23) .parser "accept_op" [.inst .parser px, .str l] σ Q := by
 obtain ⟨tx, a, a2, hpx, htx⟩ := S.here
 unfold parNs at hpx
 unfold tokNs at htx
 refine MC_fn T.OK T.m_accept_op ["self", "text"] _ (show WB _ _ _ _ [("self", _), ("text", _)] _ _ from ?_)
 refine WB_if (WT_val (me ?_))
 refine lz ?_
 refine is_op_ok T S ?_
 walk_at "my tr"
 refine ite_f (hop) ?_
 exact WB_nil (WB_ret (WE_bool h))
theorem expect_ok (T : Txt c) (S : Strm σ px dx ah (k :: k2 :: ks)) (hop : isOp k l = true) (h : ∀ σ', K2 px dx σ σ' → Strm σ' px dx ah (k2 :: ks) → Q .none σ') : MC c (d + 24) .parser "expect_op" [.inst .parser px, .str l] σ Q := by
 obtain ⟨tx, a, a2, hpx, htx⟩ := S.here
 unfold parNs at hpx
 unfold tokNs at htx
 refine MC_fn T.OK T.m_expect_op ["self", "text"] _ (show WB _ _ _ _ [("self", _), ("text", _)] _ _ from ?_)
 refine WB_if (WT_not (WT_val (me ?_)))
 refine lz ?_
 refine accept1_ok T S hop fun σ' hk hs => ?_
 walk_at "my tr"
 refine ite_f (congrArg not (rfl)) ?_
 refine WB_nil (WB_nil (R_next ?_))
 exact h σ' hk hs
theorem expect_id_ok (T : Txt c) {m : List Nat} (S : Strm σ px dx ah (.id m :: k2 :: ks)) (h : ∀ σ', K2 px dx σ σ' → Strm σ' px dx ah (k2 :: ks) → Q (.str m) σ') : MC c (d + 24) .parser "expect_id" [.inst .parser px] σ Q := by
 obtain ⟨tx, a, a2, hpx, htx⟩ := S.here
 unfold parNs at hpx
 unfold tokNs at htx
 simp only [Tk.kind, Tk.val] at htx
 refine MC_fn T.OK T.m_expect_id ["self"] _ (show WB _ _ _ _ [("self", _)] _ _ from ?_)
 refine WB_if (WT_cmp T.OK (WE_attr T.OK (fun _ _ => rfl) (att ?_)))
 refine ea ?_
 refine WE_strE ks_38 (.neS ?_)
 refine ite_f (rfl) (WB_nil (WB_ret (WE_attr T.OK (fun _ _ => rfl) (me ?_))))
 refine WL_nil (take_ok T S fun tx2 σ' a3 hk hs ht => ?_)
 refine ea ?_
 exact h σ' hk hs
theorem Strm.newL (S : Strm σ px dx ah ks) {A : Addr} {o : AO} (h : σ A = none) : Strm (σ.set A o) px dx ah ks := by
 cases ks with
 | nil => exact S.elim
 | cons k ks =>
  obtain ⟨kd, tx, t, j, a, a2, hpx, hah, htx, L, hls⟩ := S
  exact ⟨kd, tx, t, j, a, a2, st_skip (ne_sn hpx h) hpx, st_skip (ne_sn hah h) hah, st_skip (ne_sn htx h) htx, L.new h, hls⟩
theorem Strm.setL (S : Strm σ px dx ah ks) {A : Addr} {vs ws : List V} (h : σ A = some (.list vs)) (hn : A ≠ ah) : Strm (σ.set A (.list ws)) px dx ah ks := by
 cases ks with
 | nil => exact S.elim
 | cons k ks =>
  obtain ⟨kd, tx, t, j, a, a2, hpx, hah, htx, L, hls⟩ := S
  exact ⟨kd, tx, t, j, a, a2, st_skip (ne_ln h hpx).symm hpx, st_skip hn.symm hah, st_skip (ne_ln h htx).symm htx, ⟨st_skip (ne_ln h L.ns).symm L.ns, st_skip (ne_ml L.keys h) L.keys, L.size⟩, hls⟩
theorem Strm.delL (S : Strm σ px dx ah ks) {A : Addr} {vs : List V} (h : σ A = some (.list vs)) (hn : A ≠ ah) : Strm (σ.del A) px dx ah ks := by
 cases ks with
 | nil => exact S.elim
 | cons k ks =>
  obtain ⟨kd, tx, t, j, a, a2, hpx, hah, htx, L, hls⟩ := S
  exact ⟨kd, tx, t, j, a, a2, st_del (ne_ln h hpx).symm hpx, st_del hn.symm hah, st_del (ne_ln h htx).symm htx, ⟨st_del (ne_ln h L.ns).symm L.ns, st_del (ne_ml L.keys h) L.keys, L.size⟩, hls⟩
theorem K2.delA {σ₁ : Store} {A : Addr} (x : K2 px dx σ σ₁) (h : σ A = none) : K2 px dx σ (σ₁.del A) := fun b p e h1 h2 => (if_neg (fun z : b = A => by rw [z, h] at e; cases e)).trans (x b p e h1 h2)
theorem Strm.ahd (S : Strm σ px dx ah ks) : σ ah = some (.list []) := by
 cases ks with
 | nil => exact S.elim
 | cons k ks => exact S.choose_spec.choose_spec.choose_spec.choose_spec.choose_spec.choose_spec.2.1
end
theorem and_mask {a w : Nat} (h : a < 2 ^ w) : Builtin.bitAnd (a : Int) (2 ^ (w : Int).toNat - 1) = a := by
 have e : (2 ^ (w : Int).toNat - 1 : Int) = ((2 ^ w - 1 : Nat) : Int) := by
  rw [show (w : Int).toNat = w by walk_at "o", Int.natCast_sub (Nat.one_le_two_pow)]
  simp
 rw [e, bitAnd_pp (by walk_at "o") (by walk_at "o")]
 simp only [Int.toNat_natCast]
 rw [Nat.and_two_pow_sub_one_eq_mod, Nat.mod_eq_of_lt h]
theorem or_bit {a l : Nat} (h : l ≤ 1) : Builtin.bitOr ((a : Int) * 2 ^ (1 : Int).toNat) l = ((2 * a + l : Nat) : Int) := by
 have e : (a : Int) * 2 ^ (1 : Int).toNat = ((2 * a : Nat) : Int) := by
  rw [show (1 : Int).toNat = 1 from rfl]; omega
 rw [e, bitOr_and, bitAnd_pp (by walk_at "o") (by walk_at "o")]
 simp only [Int.toNat_natCast]
 have : 2 * a &&& l = 0 := by
  rcases (by omega : l = 0 ∨ l = 1) with rfl | rfl
  ·simp
  ·rw [Nat.and_one_is_mod]; omega
 rw [this]; omega
theorem bits_le {a n : Nat} (h : a < 2 ^ n) : Builtin.Int.intBits (a : Int) ≤ n := by
 unfold Builtin.Int.intBits
 split
 ·omega
 ·rename_i q
  have h0 : a ≠ 0 := by intro z; apply q; subst z; rfl
  have : a.log2 < n := (Nat.log2_lt h0).mpr h
  simp only [Int.natAbs_natCast]; omega
noncomputable def decN (l : List Nat) : Nat := l.foldl (fun v x => v * 10 + (x - 48)) 0
noncomputable def loB (x : Nat) : Nat := if x = 120 ∨ x = 49 then 1 else 0
noncomputable def hiB (x : Nat) : Nat := if x = 120 ∨ x = 122 then 1 else 0
noncomputable def gLo (l : List Nat) : Nat := l.foldl (fun v x => 2 * v + loB x) 0
noncomputable def gHi (l : List Nat) : Nat := l.foldl (fun v x => 2 * v + hiB x) 0
section
variable {c : Cx} {d : Nat} {σ : Store} {Q : V → Store → Prop}
theorem vec_ok (T : Txt c) {w a b : Nat} (hw : w < 1000) (ha : a < 2 ^ w) (hb : b < 2 ^ w) (h : Q (.tup [.int w, .int a, .int b]) σ) : CF c (d + 2) "vec" [.int w, .int a, .int b] σ Q := by
 obtain ⟨f, hf, F⟩ := T.f_vec
 refine ⟨_, .inl hf, (CC_fnB T.OK F ["w", "a", "b"] (us' := [.int w, .int a, .int b]) (by decide +kernel) rfl ?_ (show WB _ _ _ _ [("w", _), ("a", _), ("b", _)] _ _ from ?_)).cv⟩
 ·intro name qual dV kV doc pm an cdv ct s vs hD B r
  have hl := r.length
  revert B r
  refine ba3 vs hl fun v0 v1 v2 B r => ?_
  ·obtain ⟨tk, hb⟩ := binds_default (binds := fun tk => (["w", "a", "b"] : List Str).zip [v0, v1, v2]) (fd := fnX name qual (fnArgs (top 16)) (fnBody (top 16)) (fnScope (top 16)) [] dV kV doc pm an cdv ct) (args := ⟨[v0, v1, v2], []⟩) B hD rfl (fun _ => rfl)
   exact ⟨_, r, hb⟩
 refine WB_name (ca ?_)
 refine lz ?_
 refine mask_ok T (by walk_at "o") ?_
 refine WB_ret (WE_tup (la ?_))
 refine WL_cons (bl ?_)
 refine lo ?_
 refine P_and ?_
 refine WL_cons (bl ?_)
 refine lo ?_
 refine P_and ?_
 refine WL_nil ?_
 refine ⟨by walk_at "my sz", ?_⟩
 refine N_ret (R_ret ?_)
 rw [and_mask ha, and_mask hb]
 exact h
theorem decimal_value_ok (T : Txt c) {digits : List Nat} (hd : ∀ x ∈ digits, 48 ≤ x) (h : Q (.int (decN digits : Nat)) σ) : CF c (d + 1) "decimal_value" [.str digits] σ Q := by
 refine CF_fn T.OK T.f_decimal_value ["digits"] _ (show WB _ _ _ _ [("digits", _)] _ _ from ?_)
 refine WB_name (WE_int (WB_cons (WS_for ?_ (fun _ _ => rfl))))
 refine lo ?_
 refine H_str ?_
 refine WF.post [("value", .int (decN digits : Nat))] σ ?_ ?_
 ·have key : ∀ (l : List Nat) (v : Nat), (∀ x ∈ l, 48 ≤ x) → WF c d (fnScope (top 23)) (wI (nth (fnBody (top 23)) 1)) (wB (nth (fnBody (top 23)) 1)) [] (l.map fun x => .str [x]) [("value", .int (v : Nat))] σ (fun fl ρ' σ' => fl = .next ∧ subL [("value", .int (l.foldl (fun v x => v * 10 + (x - 48)) v : Nat))] ρ' ∧ σ' = σ) := by
   intro l
   induction l with
   | nil =>
    intro v hx
    refine WF_nil ?_
    refine WB_nil ?_
    exact ⟨rfl, by walk_at "my sub", rfl⟩
   | cons x l ih =>
    intro v hx
    have hx0 := hx x (.head _)
    refine WF_cons ?_
    refine G_name (by decide +kernel) (WB_name (WE_bin (WE_bin (bl ?_))))
    refine WE_int (P_mul (by walk_at "my mu") ?_)
    refine ca ?_
    refine lz ?_
    refine X_ord T (CV_ord ?_)
    refine .add ?_
    refine WE_int (P_sub ?_)
    refine WB_nil (L_next ?_)
    rw [show (v : Int) * 10 + (x : Nat) - 48 = ((v * 10 + (x - 48) : Nat) : Int) by walk_at "o"]
    exact WF.weak (ih (v * 10 + (x - 48)) fun y hy => hx y (.tail _ hy)) (by walk_at "my sub")
  exact WF.weak (key digits 0 hd) (by walk_at "my sub")
 ·skip
  refine WB_ret (lo ?_)
  exact h
theorem size8_ok (T : Txt c) {a : V} (h : Q (.int 8) σ) : CF c (d + 2) "size_value" [.str [56], a] σ Q := by
 refine CF_fn T.OK T.f_size_value ["size", "at"] _ (show WB _ _ _ _ [("size", _), ("at", _)] _ _ from ?_)
 refine WB_name (WE_meth T.OK (lo ?_))
 refine ⟨_, GM_str F.slot_str_lstrip F.type_str_lstrip, ?_⟩
 refine WL_str1 ks_17 (CV_lstrip (by decide) (r₀ := [56]) (by decide +kernel) ?_)
 refine WB_if (WT_or (WT_eqLS ks_12 ?_))
 refine ite_f (rfl) (WT_or (WT_cmp T.OK (ca ?_)))
 refine lz ?_
 refine X_len T ?_
 refine CV_len_str (by walk_at "my sz") ?_
 refine WE_int (.gtI ?_)
 refine ite_f (rfl) (WT_or1 (WT_cmp T.OK (ca ?_)))
 refine lz ?_
 refine decimal_value_ok T (by decide) ?_
 refine WE_gint T.OK (by decide +kernel) T.most.choose_spec ?_
 refine .gtI ?_
 refine ite_f (rfl) (WB_nil (WB_ret (ca ?_)))
 refine lz ?_
 refine decimal_value_ok T (by decide) ?_
 exact h
theorem digit_pair120_ok (T : Txt c) (h : Q (.tup [.int 1, .int 1]) σ) : CF c (d + 1) "digit_pair" [.str [120], .int 1] σ Q := by
 refine CF_fn T.OK T.f_digit_pair ["digit", "full"] _ (show WB _ _ _ _ [("digit", _), ("full", _)] _ _ from ?_)
 refine WB_if (WT_eqLS ks_18 ?_)
 refine ite_t (rfl) (WB_ret (WE_tup (la ?_)))
 refine lz ?_
 refine ⟨by walk_at "my sz", ?_⟩
 exact h
theorem digit_pair122_ok (T : Txt c) (h : Q (.tup [.int 0, .int 1]) σ) : CF c (d + 1) "digit_pair" [.str [122], .int 1] σ Q := by
 refine CF_fn T.OK T.f_digit_pair ["digit", "full"] _ (show WB _ _ _ _ [("digit", _), ("full", _)] _ _ from ?_)
 refine WB_if (WT_eqLS ks_18 ?_)
 refine ite_f (rfl) (WB_nil (WB_if (WT_or (WT_eqLS ks_61 ?_))))
 refine ite_t (rfl) (ite_t rfl (WB_ret (WE_tup (WL_int (lz ?_)))))
 refine ⟨by walk_at "my sz", ?_⟩
 exact h
theorem digit_pair48_ok (T : Txt c) (h : Q (.tup [.int 0, .int 0]) σ) : CF c (d + 1) "digit_pair" [.str [48], .int 1] σ Q := by
 refine CF_fn T.OK T.f_digit_pair ["digit", "full"] _ (show WB _ _ _ _ [("digit", _), ("full", _)] _ _ from ?_)
 refine WB_if (WT_eqLS ks_18 ?_)
 refine ite_f (rfl) (WB_nil (WB_if (WT_or (WT_eqLS ks_61 ?_))))
 refine ite_f (rfl) (WT_or1 (WT_eqLS ks_54 ?_))
 refine ite_f (rfl) (WB_nil (WB_ret (WE_tup (WL_cons (WE_meth T.OK (WE_strE ks_123 ?_))))))
 refine ⟨_, GM_str F.slot_str_find F.type_str_find, ?_⟩
 refine lz ?_
 refine CV_find ?_
 refine WL_int1 ?_
 refine ⟨by walk_at "my sz", ?_⟩
 refine N_ret (R_ret ?_)
 rw [show Txt.find (S [48, 49, 50, 51, 52, 53, 54, 55, 56, 57, 97, 98, 99, 100, 101, 102]) (S [48]) = 0 by decide +kernel]
 exact h
theorem digit_pair49_ok (T : Txt c) (h : Q (.tup [.int 1, .int 0]) σ) : CF c (d + 1) "digit_pair" [.str [49], .int 1] σ Q := by
 refine CF_fn T.OK T.f_digit_pair ["digit", "full"] _ (show WB _ _ _ _ [("digit", _), ("full", _)] _ _ from ?_)
 refine WB_if (WT_eqLS ks_18 ?_)
 refine ite_f (rfl) (WB_nil (WB_if (WT_or (WT_eqLS ks_61 ?_))))
 refine ite_f (rfl) (WT_or1 (WT_eqLS ks_54 ?_))
 refine ite_f (rfl) (WB_nil (WB_ret (WE_tup (WL_cons (WE_meth T.OK (WE_strE ks_123 ?_))))))
 refine ⟨_, GM_str F.slot_str_find F.type_str_find, ?_⟩
 refine lz ?_
 refine CV_find ?_
 refine WL_int1 ?_
 refine ⟨by walk_at "my sz", ?_⟩
 refine N_ret (R_ret ?_)
 rw [show Txt.find (S [48, 49, 50, 51, 52, 53, 54, 55, 56, 57, 97, 98, 99, 100, 101, 102]) (S [49]) = 1 by decide +kernel]
 exact h
theorem digit_pair_ok (T : Txt c) {x : Nat} (hx : bit x = true) (h : Q (.tup [.int (loB x : Nat), .int (hiB x : Nat)]) σ) : CF c (d + 1) "digit_pair" [.str [x], .int 1] σ Q := by
 have : x = 48 ∨ x = 49 ∨ x = 120 ∨ x = 122 := by simpa [bit] using hx
 rcases this with rfl | rfl | rfl | rfl
 ·exact digit_pair48_ok T h
 ·exact digit_pair49_ok T h
 ·exact digit_pair120_ok T h
 ·exact digit_pair122_ok T h
theorem grouped_ok (T : Txt c) {digits : List Nat} (hd : ∀ x ∈ digits, bit x = true) (hl : digits.length ≤ 1000) (h : Q (.tup [.int digits.length, .int (gLo digits : Nat), .int (gHi digits : Nat)]) σ) : CF c (d + 2) "grouped" [.str [98], .str digits] σ Q := by
 refine CF_fn T.OK T.f_grouped ["base", "digits"] _ (show WB _ _ _ _ [("base", _), ("digits", _)] _ _ from ?_)
 refine WB_name (ca ?_)
 refine lz ?_
 refine digit_bits_ok T ?_
 rw [if_pos rfl]
 refine WB_name (ca ?_)
 refine lz ?_
 refine mask_ok T (by decide) ?_
 rw [show (2 : Int) ^ (1 : Int).toNat - 1 = 1 from rfl]
 refine WB_name (WE_int (WB_name (WE_int (WB_cons (WS_for ?_ (fun _ _ => rfl))))))
 refine lo ?_
 refine H_str ?_
 refine WF.post [("a", .int (gLo digits : Nat)), ("b", .int (gHi digits : Nat)), ("count", .int 1), ("full", .int 1), ("digits", .str digits)] σ ?_ ?_
 ·have key : ∀ (l : List Nat) (v u n : Nat), (∀ x ∈ l, bit x = true) → v < 2 ^ n → u < 2 ^ n → n + l.length ≤ 1000 → WF c (d + 1) (fnScope (top 26)) (wI (nth (fnBody (top 26)) 4)) (wB (nth (fnBody (top 26)) 4)) [] (l.map fun x => .str [x]) [("a", .int (v : Nat)), ("b", .int (u : Nat)), ("count", .int 1), ("full", .int 1), ("digits", .str digits)] σ (fun fl ρ' σ' => fl = .next ∧ subL [("a", .int (l.foldl (fun v x => 2 * v + loB x) v : Nat)), ("b", .int (l.foldl (fun v x => 2 * v + hiB x) u : Nat)), ("count", .int 1), ("full", .int 1), ("digits", .str digits)] ρ' ∧ σ' = σ) := by
   intro l
   induction l with
   | nil =>
    intro v u n hx h1 h2 h3
    refine WF_nil ?_
    refine WB_nil ?_
    exact ⟨rfl, by walk_at "my sub", rfl⟩
   | cons x l ih =>
    intro v u n hx hv hu hn
    simp only [List.length_cons] at hn
    have hlo : loB x ≤ 1 := by unfold loB; split <;> omega
    have hhi : hiB x ≤ 1 := by unfold hiB; split <;> omega
    have b1 := bits_le hv
    have b2 := bits_le hu
    have p2 : 2 ^ (n + 1) = 2 * 2 ^ n := by rw [Nat.pow_succ]; omega
    refine WF_cons ?_
    refine G_name (by decide +kernel) (WB_cons (WS_tup ?_ (fun _ _ _ => rfl) (fun _ => rfl)))
    refine ca ?_
    refine la ?_
    refine lz ?_
    refine digit_pair_ok T (hx x (.head _)) ?_
    refine G_tup2 (by decide +kernel) ?_
    refine WB_name (WE_bin (bl ?_))
    refine lo ?_
    refine P_shl ⟨by decide, by walk_at "o"⟩ ?_
    refine lo ?_
    (refine P_or ?_; rw [or_bit hlo])
    refine WB_name (WE_bin (bl ?_))
    refine lo ?_
    refine P_shl ⟨by decide, by walk_at "o"⟩ ?_
    refine lo ?_
    (refine P_or ?_; rw [or_bit hhi])
    exact WB_nil (L_next (WF.weak (ih (2 * v + loB x) (2 * u + hiB x) (n + 1) (fun y hy => hx y (.tail _ hy)) (by walk_at "o") (by walk_at "o") (by walk_at "o")) (by walk_at "my sub")))
  exact WF.weak (key digits 0 0 0 hd (by decide) (by decide) (by walk_at "o")) (by walk_at "my sub")
 ·skip
  refine WB_ret (WE_tup (WL_cons (bl ?_)))
  refine ca ?_
  refine lz ?_
  refine X_len T ?_
  refine CV_len_str (by walk_at "my sz") ?_
  refine P_mul (by walk_at "my mu") ?_
  refine la ?_
  refine lz ?_
  refine ⟨by walk_at "my sz", ?_⟩
  refine N_ret (R_ret ?_)
  rw [Int.one_mul]
  exact h
theorem padded_same_ok (T : Txt c) {w a b : Nat} {f : V} (hw : w < 1000) (ha : a < 2 ^ w) (hb : b < 2 ^ w) (h : Q (.tup [.int w, .int a, .int b]) σ) : CF c (d + 3) "padded_vec" [.int w, .int w, .int a, .int b, f] σ Q := by
 refine CF_fn T.OK T.f_padded_vec ["w", "width", "a", "b", "first"] _ (show WB _ _ _ _ [("w", _), ("width", _), ("a", _), ("b", _), ("first", _)] _ _ from ?_)
 refine WB_if (cl ?_)
 refine lo ?_
 refine .gtI ?_
 refine ite_f (decide_eq_false (by walk_at "o")) ?_
 refine WB_nil (WB_ret (ca ?_))
 refine la ?_
 refine la ?_
 refine lz ?_
 refine vec_ok T hw ha hb ?_
 exact h
theorem padded_dec_ok (T : Txt c) {a f : Nat} {w : Int} (h1 : 0 ≤ w ∧ w < 32) (ha : a < 2 ^ 32) (hf : 48 ≤ f ∧ f ≤ 57) (h : Q (.tup [.int 32, .int a, .int 0]) σ) : CF c (d + 3) "padded_vec" [.int 32, .int w, .int a, .int 0, .str [f]] σ Q := by
 refine CF_fn T.OK T.f_padded_vec ["w", "width", "a", "b", "first"] _ (show WB _ _ _ _ [("w", _), ("width", _), ("a", _), ("b", _), ("first", _)] _ _ from ?_)
 refine WB_if (cl ?_)
 refine lo ?_
 refine .gtI ?_
 refine ite_t (decide_eq_true (by walk_at "o")) ?_
 refine WB_name (WE_bin (ca ?_))
 refine lz ?_
 refine mask_ok T (by walk_at "o") ?_
 refine ca ?_
 refine lz ?_
 refine mask_ok T (by walk_at "o") ?_
 refine P_xor ?_
 refine WB_if (WT_eqLS ks_18 ?_)
 refine ite_f (decide_eq_false (by simp; omega)) ?_
 refine WB_nil (WB_if (cl ?_))
 refine WE_tup (WL_str ks_18 (WL_str ks_61 (WL_str1 ks_54 ?_)))
 refine ⟨by walk_at "my sz", ?_⟩
 refine C_inT rfl ?_
 refine ite_f (by simp; omega) ?_
 refine WB_nil (WB_nil (WB_ret (ca ?_)))
 refine la ?_
 refine la ?_
 refine lz ?_
 refine vec_ok T (w := 32) (a := a) (b := 0) (by walk_at "o") ha (by decide) ?_
 exact h
end
theorem gfold_lt {f : Nat → Nat} (hf : ∀ x, f x ≤ 1) : ∀ (l : List Nat) (v n : Nat), v < 2 ^ n → l.foldl (fun v x => 2 * v + f x) v < 2 ^ (n + l.length)
 | [], v, n, h => h
 | x :: l, v, n, h => by
  have p2 : 2 ^ (n + 1) = 2 * 2 ^ n := by rw [Nat.pow_succ]; omega
  have := hf x
  have := gfold_lt hf l (2 * v + f x) (n + 1) (by walk_at "o")
  rw [show n + (x :: l).length = n + 1 + l.length by simp only [List.length_cons]; omega]
  exact this
theorem gLo_lt (l : List Nat) : gLo l < 2 ^ l.length := by have := gfold_lt (f := loB) (fun x => by unfold loB; split <;> omega) l 0 0 (by decide); simpa [gLo] using this
theorem gHi_lt (l : List Nat) : gHi l < 2 ^ l.length := by have := gfold_lt (f := hiB) (fun x => by unfold hiB; split <;> omega) l 0 0 (by decide); simpa [gHi] using this
section
variable {c : Cx} {d : Nat} {σ : Store} {Q : V → Store → Prop}
theorem numeral_dec_ok (T : Txt c) {x : Nat} {r : List Nat} {at_ : V} (ha : ∀ y ∈ x :: r, 48 ≤ y ∧ y ≤ 57) (hl : (x :: r).length ≤ 1000) (hv : decN (x :: r) < 2 ^ 30) (h : Q (.tup [.tup [.int 32, .int (decN (x :: r) : Nat), .int 0], .bool true, .bool false]) σ) : CF c (d + 5) "numeral" [.tup [.str [], .str [], .bool true, .str (x :: r)], at_] σ Q := by
 have hbl := bits_le hv
 refine CF_fn T.OK T.f_numeral ["value", "at"] _ (show WB _ _ _ _ [("value", _), ("at", _)] _ _ from ?_)
 refine WB_cons (WS_tup ?_ (fun _ _ _ => rfl) (fun _ => rfl))
 refine lo ?_
 refine G_tup4 (by decide +kernel) ?_
 refine WB_name (WE_sub (lo ?_))
 refine WE_int (I_str (by decide) rfl ?_)
 refine WB_name (WE_bo (WE_cmp T.OK (lo ?_)))
 refine WE_strE ks_12 (.eqS ?_)
 walk_at "my tr"
 refine bo_or_s (rfl) (WB_if (WT_cmp T.OK (ca ?_)))
 refine lz ?_
 refine X_len T ?_
 refine CV_len_str (by walk_at "my sz") ?_
 refine WE_gint T.OK (by decide +kernel) T.most.choose_spec ?_
 refine .gtI ?_
 refine ite_f (decide_eq_false (by simp only [List.length_cons] at *; omega)) ?_
 refine WB_nil (WB_if (WT_and (WT_val (lo ?_))))
 walk_at "my tr"
 refine ite_t (rfl) (WT_and1 (cl ?_))
 refine WE_tup (WL_str ks_18 (WL_str ks_61 (WL_str1 ks_54 ?_)))
 refine ⟨by walk_at "my sz", ?_⟩
 refine C_inT rfl ?_
 refine ite_f (by have := ha x (.head _); simp; omega) ?_
 refine WB_if (WT_val (lo ?_))
 walk_at "my tr"
 refine ite_t (rfl) (WB_name (ca ?_))
 refine lz ?_
 refine decimal_value_ok T (fun y hy => (ha y hy).1) ?_
 refine WB_name (WE_int (WB_name (ca ?_)))
 refine WL_cons (WE_meth T.OK (lo ?_))
 refine ⟨_, GM_bits, ?_⟩
 refine WL_nil (CV_bits ?_)
 refine WL_int1 (X_max T (CV_max ?_))
 refine WB_if (WT_and (WT_val (lo ?_)))
 walk_at "my tr"
 refine ite_t (rfl) (WT_and1 (WT_eqLS ks_12 ?_))
 refine ite_t (rfl) (WB_name (bl ?_))
 refine WE_int (.add ?_)
 refine WB_nil (WB_nil (WB_nil (WB_if (WT_eqLS ks_12 ?_))))
 refine ite_t (rfl) (WB_name (ca ?_))
 refine WL_cons (WE_gint T.OK (by decide +kernel) T.plain.choose_spec ?_)
 refine lz ?_
 refine X_max T (CV_max ?_)
 rw [show max (32 : Int) (max (Builtin.Int.intBits (decN (x :: r) : Nat) : Int) 1 + 1) = 32 by walk_at "o"]
 refine WB_if (cl ?_)
 refine WE_gint T.OK (by decide +kernel) T.most.choose_spec ?_
 refine .gtI ?_
 refine ite_f (rfl) (WB_nil (WB_nil (WB_ret (WE_tup (WL_cons (ca ?_))))))
 refine la ?_
 refine la ?_
 refine la ?_
 refine la ?_
 refine lz ?_
 refine padded_dec_ok T (by walk_at "o") (by walk_at "o") (ha x (.head _)) ?_
 refine la ?_
 refine WL_cons (WE_cmp T.OK (lo ?_))
 refine WE_strE ks_12 (.neS ?_)
 refine WL_nil ?_
 refine ⟨by walk_at "my sz", ?_⟩
 exact h
theorem numeral_u_ok (T : Txt c) {x : Nat} {r : List Nat} {sg : Bool} {at_ : V} (hb : ∀ y ∈ x :: r, bit y = true) (hl : 32 ≤ (x :: r).length ∧ (x :: r).length < 1000) (h : Q (.tup [.tup [.int (x :: r).length, .int (gLo (x :: r) : Nat), .int (gHi (x :: r) : Nat)], .bool sg, .bool false]) σ) : CF c (d + 5) "numeral" [.tup [.str [], .str [98], .bool sg, .str (x :: r)], at_] σ Q := by
 refine CF_fn T.OK T.f_numeral ["value", "at"] _ (show WB _ _ _ _ [("value", _), ("at", _)] _ _ from ?_)
 refine WB_cons (WS_tup ?_ (fun _ _ _ => rfl) (fun _ => rfl))
 refine lo ?_
 refine G_tup4 (by decide +kernel) ?_
 refine WB_name (WE_sub (lo ?_))
 refine WE_int (I_str (by decide) rfl ?_)
 refine WB_name (WE_bo (WE_cmp T.OK (lo ?_)))
 refine WE_strE ks_12 (.eqS ?_)
 walk_at "my tr"
 refine bo_or_n (rfl) (WE_bo1 (WE_cmp T.OK (lo ?_)))
 refine WE_strE ks_47 (.eqS ?_)
 refine WB_if (WT_cmp T.OK (ca ?_))
 refine lz ?_
 refine X_len T ?_
 refine CV_len_str (by walk_at "my sz") ?_
 refine WE_gint T.OK (by decide +kernel) T.most.choose_spec ?_
 refine .gtI ?_
 refine ite_f (decide_eq_false (by simp only [List.length_cons] at *; omega)) ?_
 refine WB_nil (WB_if (WT_and (WT_val (lo ?_))))
 walk_at "my tr"
 refine ite_f (rfl) (ite_f rfl (WB_if (WT_val (lo ?_))))
 walk_at "my tr"
 refine ite_f (rfl) (WB_cons (WS_tup ?_ (fun _ _ _ => rfl) (fun _ => rfl)))
 refine ca ?_
 refine la ?_
 refine lz ?_
 refine grouped_ok T hb (by simp only [List.length_cons] at *; omega) ?_
 refine G_tup3 (by decide +kernel) ?_
 refine WB_nil (WB_nil (WB_if (WT_eqLS ks_12 ?_)))
 refine ite_t (rfl) (WB_name (ca ?_))
 refine WL_cons (WE_gint T.OK (by decide +kernel) T.plain.choose_spec ?_)
 refine lz ?_
 refine X_max T (CV_max ?_)
 rw [show max (32 : Int) (((x :: r).length : Nat) : Int) = (((x :: r).length : Nat) : Int) by walk_at "o"]
 refine WB_if (cl ?_)
 refine WE_gint T.OK (by decide +kernel) T.most.choose_spec ?_
 refine .gtI ?_
 refine ite_f (decide_eq_false (by simp only [List.length_cons] at *; omega)) ?_
 refine WB_nil (WB_nil (WB_ret (WE_tup (WL_cons (ca ?_)))))
 refine la ?_
 refine la ?_
 refine la ?_
 refine la ?_
 refine lz ?_
 refine padded_same_ok T (by walk_at "o") (gLo_lt _) (gHi_lt _) ?_
 refine la ?_
 refine WL_cons (WE_cmp T.OK (lo ?_))
 refine WE_strE ks_12 (.neS ?_)
 refine WL_nil ?_
 refine ⟨by walk_at "my sz", ?_⟩
 exact h
theorem numeral_s_ok (T : Txt c) {x : Nat} {r : List Nat} {sg : Bool} {at_ : V} (hb : ∀ y ∈ x :: r, bit y = true) (hl : (x :: r).length = 8) (h : Q (.tup [.tup [.int (x :: r).length, .int (gLo (x :: r) : Nat), .int (gHi (x :: r) : Nat)], .bool sg, .bool true]) σ) : CF c (d + 5) "numeral" [.tup [.str [56], .str [98], .bool sg, .str (x :: r)], at_] σ Q := by
 refine CF_fn T.OK T.f_numeral ["value", "at"] _ (show WB _ _ _ _ [("value", _), ("at", _)] _ _ from ?_)
 refine WB_cons (WS_tup ?_ (fun _ _ _ => rfl) (fun _ => rfl))
 refine lo ?_
 refine G_tup4 (by decide +kernel) ?_
 refine WB_name (WE_sub (lo ?_))
 refine WE_int (I_str (by decide) rfl ?_)
 refine WB_name (WE_bo (WE_cmp T.OK (lo ?_)))
 refine WE_strE ks_12 (.eqS ?_)
 walk_at "my tr"
 refine bo_or_n (rfl) (WE_bo1 (WE_cmp T.OK (lo ?_)))
 refine WE_strE ks_47 (.eqS ?_)
 refine WB_if (WT_cmp T.OK (ca ?_))
 refine lz ?_
 refine X_len T ?_
 refine CV_len_str (by walk_at "my sz") ?_
 refine WE_gint T.OK (by decide +kernel) T.most.choose_spec ?_
 refine .gtI ?_
 refine ite_f (decide_eq_false (by simp only [List.length_cons] at *; omega)) ?_
 refine WB_nil (WB_if (WT_and (WT_val (lo ?_))))
 walk_at "my tr"
 refine ite_f (rfl) (ite_f rfl (WB_if (WT_val (lo ?_))))
 walk_at "my tr"
 refine ite_f (rfl) (WB_cons (WS_tup ?_ (fun _ _ _ => rfl) (fun _ => rfl)))
 refine ca ?_
 refine la ?_
 refine lz ?_
 refine grouped_ok T hb (by simp only [List.length_cons] at *; omega) ?_
 refine G_tup3 (by decide +kernel) ?_
 refine WB_nil (WB_nil (WB_if (WT_eqLS ks_12 ?_)))
 refine ite_f (rfl) (WB_name (ca ?_))
 refine la ?_
 refine lz ?_
 refine size8_ok T ?_
 refine WB_nil (WB_ret (WE_tup (WL_cons (ca ?_))))
 refine la ?_
 refine la ?_
 refine la ?_
 refine la ?_
 refine lz ?_
 rw [show (8 : Int) = (((x :: r).length : Nat) : Int) by rw [hl]; rfl]
 refine padded_same_ok T (by rw [hl]; decide) (gLo_lt _) (gHi_lt _) ?_
 refine la ?_
 refine WL_cons (WE_cmp T.OK (lo ?_))
 refine WE_strE ks_12 (.neS ?_)
 refine WL_nil ?_
 refine ⟨by walk_at "my sz", ?_⟩
 exact h
end
noncomputable def bitC (a b i : Nat) : Nat := if a.testBit i then (if b.testBit i then 120 else 49) else (if b.testBit i then 122 else 48)
noncomputable def bitsT (w a b : Nat) : List Nat := (List.range w).map fun i => bitC a b (w - 1 - i)
theorem fdiv_bit (a i : Nat) : Builtin.bitAnd ((a : Int).fdiv (2 ^ (i : Int).toNat)) 1 = ((a.testBit i).toNat : Int) := by
 have e : (a : Int).fdiv (2 ^ (i : Int).toNat) = ((a / 2 ^ i : Nat) : Int) := by
  rw [show (i : Int).toNat = i by walk_at "o", Int.fdiv_eq_ediv_of_nonneg _ (by exact Int.pow_nonneg (by decide))]
  simp
 rw [e, bitAnd_pp (Int.natCast_nonneg _) (by decide)]
 simp only [Int.toNat_natCast, show (1 : Int).toNat = 1 from rfl]
 rw [Nat.and_one_is_mod, Nat.testBit_eq_decide_div_mod_eq]
 rcases (by omega : a / 2 ^ i % 2 = 0 ∨ a / 2 ^ i % 2 = 1) with h | h <;> rw [h] <;> rfl
theorem code_val (a b i : Nat) : ∃ k : Nat, (Builtin.bitAnd ((a : Int).fdiv (2 ^ (i : Int).toNat)) 1 + 2 * Builtin.bitAnd ((b : Int).fdiv (2 ^ (i : Int).toNat)) 1 = (k : Int)) ∧ k < 4 ∧ [48, 49, 122, 120][k]? = some (bitC a b i) := by
 rw [fdiv_bit, fdiv_bit]
 refine ⟨(a.testBit i).toNat + 2 * (b.testBit i).toNat, by walk_at "o", ?_, ?_⟩
 ·cases a.testBit i <;> cases b.testBit i <;> decide
 ·unfold bitC
  cases a.testBit i <;> cases b.testBit i <;> rfl
theorem joinL_map {α : Type} (f : α → Nat) : ∀ l : List α, joinL [] (l.map fun i => [f i]) = l.map f
 | [] => rfl
 | [x] => rfl
 | x :: y :: r => by
  show [f x] ++ [] ++ joinL [] ((y :: r).map fun i => [f i]) = _
  rw [joinL_map f (y :: r)]; rfl
theorem sum_one {α : Type} (f : α → Nat) : ∀ l : List α, ((l.map fun i => [f i]).map (·.length)).sum = l.length
 | [] => rfl
 | x :: r => by
  have := sum_one f r
  simp only [List.map_cons, List.sum_cons, List.length_cons, List.length_nil] at *
  omega
theorem range_down {w : Nat} (h1 : 1 ≤ w) (h2 : w < 1000) : Builtin.Range.small ((w : Int) - 1) (-1) (-1) = true ∧ rangeV ((w : Int) - 1) (-1) (Builtin.Range.rangeSize ((w : Int) - 1) (-1) (-1)).toNat = ((List.range w).map fun i => w - 1 - i).map fun i => V.int (i : Nat) := by
 have e : Builtin.Range.rangeSize ((w : Int) - 1) (-1) (-1) = w := by
  unfold Builtin.Range.rangeSize
  rw [if_neg (by decide), if_pos (by walk_at "o")]
  simp
  try omega
 constructor
 ·unfold Builtin.Range.small
  rw [e]
  unfold Builtin.Range.rangeFitsLong
  simp only [Bool.and_eq_true, decide_eq_true_eq, Bool.or_eq_true]
  refine ⟨⟨⟨⟨⟨by walk_at "o", by walk_at "o"⟩, by decide⟩, by decide⟩, ⟨by walk_at "o", by walk_at "o"⟩⟩, .inr (by decide)⟩
 ·rw [e, Int.toNat_natCast]
  unfold rangeV
  rw [List.map_map]
  apply List.map_congr_left
  intro i hi
  rw [List.mem_range] at hi
  show V.int _ = V.int ((w - 1 - i : Nat) : Int)
  congr 1
  omega
section
variable {c : Cx} {d : Nat} {σ : Store} {Q : V → Store → Prop}
theorem bits_text_ok (T : Txt c) {w a b : Nat} (h1 : 1 ≤ w) (h2 : w < 1000) (h : Q (.str (bitsT w a b)) σ) : CF c (d + 2) "bits_text" [.tup [.int (w : Nat), .int (a : Nat), .int (b : Nat)]] σ Q := by
 refine CF.pure ?_
 refine CF_fn T.OK T.f_bits_text ["v"] _ (show WB _ _ _ _ [("v", _)] _ _ from ?_)
 refine WB_name (WE_strE ks_9 (WB_name (WE_lst (WL_nil ?_))))
 refine ⟨by walk_at "my sz", ?_⟩
 intro A_1 h_1
 refine WB_cons (WS_for ?_ (fun _ _ => rfl))
 refine ca ?_
 refine WL_cons (WE_bin (WE_sub (lo ?_)))
 refine WE_int ?_
 walk_at "my it"
 refine WE_int (P_sub ?_)
 refine WL_cons (WE_neg (WL_cons (WE_neg (WL_nil (X_range T ?_)))))
 refine CV_range3 (by decide) (noPy (by decide)) ?_
 refine H_rng (range_down h1 h2).1 ?_
 rw [(range_down h1 h2).2]
 refine WF.post [("row", .lst A_1), ("signs", .str [48, 49, 122, 120]), ("v", .tup [.int (w : Nat), .int (a : Nat), .int (b : Nat)])] (σ.set A_1 (.list ([] ++ ((List.range w).map fun i => w - 1 - i).map fun i => .str [bitC a b i]))) ?_ ?_
 ·have key : ∀ (l : List Nat) (acc : List V), acc.length + l.length ≤ 1000 → WF c (d + 1) (fnScope (top 18)) (wI (nth (fnBody (top 18)) 2)) (wB (nth (fnBody (top 18)) 2)) [] (l.map fun i => V.int (i : Nat)) [("row", .lst A_1), ("signs", .str [48, 49, 122, 120]), ("v", .tup [.int (w : Nat), .int (a : Nat), .int (b : Nat)])] (σ.set A_1 (.list acc)) (fun fl ρ' σ' => fl = .next ∧ subL [("row", .lst A_1), ("signs", .str [48, 49, 122, 120]), ("v", .tup [.int (w : Nat), .int (a : Nat), .int (b : Nat)])] ρ' ∧ σ' = σ.set A_1 (.list (acc ++ l.map fun i => .str [bitC a b i]))) := by
   intro l
   induction l with
   | nil =>
    intro acc hz
    refine WF_nil ?_
    refine WB_nil ?_
    exact ⟨rfl, by walk_at "my sub", by simp⟩
   | cons i l ih =>
    intro acc hz
    simp only [List.length_cons] at hz
    obtain ⟨kk, hk1, hk2, hk3⟩ := code_val a b i
    refine WF_cons ?_
    refine G_name (by decide +kernel) (WB_expr (WE_meth T.OK (lo ?_)))
    refine ⟨_, GM_lst (by walk_at "my st") slot_list_append type_list_append, ?_⟩
    refine WL_cons (WE_sub (lo ?_))
    refine ca ?_
    refine la ?_
    refine lz ?_
    refine vec_code_ok T (by walk_at "o") ?_
    rw [hk1]
    refine I_str (by walk_at "o") (by rw [Int.toNat_natCast]; exact hk3) ?_
    refine WL_nil ?_
    refine CV_append (Store.set_self _ _ _) (by rw [sizeLine_eq]; omega) ?_
    refine WB_nil (L_next (WF.ss ?_))
    have := ih (acc ++ [.str [bitC a b i]]) (by simp only [List.length_append, List.length_cons, List.length_nil]; omega)
    rw [List.append_assoc] at this
    exact WF.weak this (by walk_at "my sub")
  exact WF.weak (key _ [] (by simp; omega)) (by walk_at "my sub")
 ·skip
  refine WB_ret (WE_meth T.OK (WE_strE ks_12 ?_))
  refine ⟨_, GM_str F.slot_str_join F.type_str_join, ?_⟩
  refine lz ?_
  refine CV_join (Store.set_self _ _ _) (ls := ((List.range w).map fun i => w - 1 - i).map fun i => [bitC a b i]) (by rw [show ([] : List V) ++ ((List.range w).map fun i => w - 1 - i).map (fun i => V.str [bitC a b i]) = (((List.range w).map fun i => w - 1 - i).map fun i => [bitC a b i]).map V.str by simp]; exact strsOf_map _) (by rw [sum_one]; simp; omega) ?_
  refine N_ret (R_ret ?_)
  refine ⟨Keep.set1 h_1, ?_⟩
  rw [joinL_map]
  simpa [bitsT, Function.comp_def] using h
theorem intText_small : ∀ a : Nat, a < 256 → ((intText (a : Int)).all (fun x => decide (48 ≤ x) && decide (x ≤ 57)) && decide (decN (intText (a : Int)) = a) && !(intText (a : Int)).isEmpty && decide ((intText (a : Int)).length ≤ 3)) = true := by decide +kernel
theorem intText8 : intText 8 = [56] := by decide +kernel
theorem log_small {a : Nat} (h : a < 2 ^ 40) : (a : Int).natAbs.log2 < 1920 := by
 rw [Int.natAbs_natCast]
 by_cases h0 : a = 0
 ·subst h0; decide
 ·exact Nat.lt_of_lt_of_le ((Nat.log2_lt h0).mpr h) (by decide)
theorem bitsT_length (w a b : Nat) : (bitsT w a b).length = w := by simp [bitsT]
theorem nt_dec_ok (T : Txt c) {a : Nat} (ha : a < 256) (h : Q (.str (intText (a : Int))) σ) : CF c (d + 3) "numeral_text" [.tup [.int 32, .int a, .int 0], .bool true, .bool false] σ Q := by
 have ha' : (a : Int) < 2147483648 := by walk_at "o"
 refine CF_fn T.OK T.f_numeral_text ["v", "signed", "sized"] _ (show WB _ _ _ _ [("v", _), ("signed", _), ("sized", _)] _ _ from ?_)
 refine WB_cons (WS_tup ?_ (fun _ _ _ => rfl) (fun _ => rfl))
 refine lo ?_
 refine G_tup3 (by decide +kernel) ?_
 refine WB_if (WT_and (WT_not (WT_val (lo ?_))))
 walk_at "my tr"
 refine ite_t (congrArg not (rfl)) ?_
 refine WT_and (WT_val (lo ?_))
 walk_at "my tr"
 refine ite_t (rfl) (WT_and (cl ?_))
 refine WE_gint T.OK (by decide +kernel) T.plain.choose_spec ?_
 refine .eqI ?_
 refine ite_t (rfl) (WT_and (cl ?_))
 refine WE_int (.eqI ?_)
 refine ite_t (rfl) (WT_and1 (cl ?_))
 refine WE_bin (WE_int (bl ?_))
 refine WE_int (P_sub ?_)
 (refine P_shl (by decide +kernel) ?_; rw [show (1 : Int) * 2 ^ ((32 : Int) - 1).toNat = 2147483648 by decide])
 refine .ltI ?_
 rw [decide_eq_true ha']
 refine ite_t rfl (WB_ret (ca ?_))
 refine lz ?_
 refine X_str T (CV_str (log_small (by walk_at "o")) ?_)
 exact h
theorem nt_8s_ok (T : Txt c) {a b : Nat}  (h : Q (.str ([56] ++ [39, 115, 98] ++ bitsT 8 a b)) σ) : CF c (d + 3) "numeral_text" [.tup [.int 8, .int a, .int b], .bool true, .bool true] σ Q := by
 refine CF_fn T.OK T.f_numeral_text ["v", "signed", "sized"] _ (show WB _ _ _ _ [("v", _), ("signed", _), ("sized", _)] _ _ from ?_)
 refine WB_cons (WS_tup ?_ (fun _ _ _ => rfl) (fun _ => rfl))
 refine lo ?_
 refine G_tup3 (by decide +kernel) ?_
 refine WB_if (WT_and (WT_not (WT_val (lo ?_))))
 walk_at "my tr"
 refine ite_f (congrArg not (rfl)) ?_
 refine ite_f rfl (WB_nil (WB_name (WE_strE ks_10 (WB_if (WT_val (lo ?_))))))
 walk_at "my tr"
 refine ite_t (rfl) (WB_name (WE_strE ks_19 (WB_nil (WB_if (WT_val (lo ?_))))))
 walk_at "my tr"
 refine ite_t (rfl) (WB_ret (WE_join ?_))
 refine WJ_cons (WE_fmt (lo ?_))
 (refine F_int (by decide) ?_; rw [intText8])
 refine S_str ⟨by simp only [sizeLine_eq, List.length_append, List.length_cons, List.length_nil, bitsT_length]; omega, ?_⟩
 refine WJ_cons (WE_fmt (lo ?_))
 walk_at "my fm"
 refine S_str ⟨by simp only [sizeLine_eq, List.length_append, List.length_cons, List.length_nil, bitsT_length]; omega, ?_⟩
 refine WJ_cons (WE_fmt (ca ?_))
 refine lz ?_
 refine bits_text_ok T (w := 8) (a := a) (b := b) (by decide) (by decide) ?_
 refine F_str (by rw [bitsT_length, sizeLine_eq]; decide) ?_
 refine S_str ⟨by simp only [sizeLine_eq, List.length_append, List.length_cons, List.length_nil, bitsT_length]; omega, ?_⟩
 refine WJ_nil ?_ (by simp only [sizeLine_eq, List.length_append, List.length_cons, List.length_nil, bitsT_length]; omega)
 exact h
theorem nt_8u_ok (T : Txt c) {a b : Nat}  (h : Q (.str ([56] ++ [39, 98] ++ bitsT 8 a b)) σ) : CF c (d + 3) "numeral_text" [.tup [.int 8, .int a, .int b], .bool false, .bool true] σ Q := by
 refine CF_fn T.OK T.f_numeral_text ["v", "signed", "sized"] _ (show WB _ _ _ _ [("v", _), ("signed", _), ("sized", _)] _ _ from ?_)
 refine WB_cons (WS_tup ?_ (fun _ _ _ => rfl) (fun _ => rfl))
 refine lo ?_
 refine G_tup3 (by decide +kernel) ?_
 refine WB_if (WT_and (WT_not (WT_val (lo ?_))))
 walk_at "my tr"
 refine ite_f (congrArg not (rfl)) ?_
 refine ite_f rfl (WB_nil (WB_name (WE_strE ks_10 (WB_if (WT_val (lo ?_))))))
 walk_at "my tr"
 refine ite_f (rfl) (WB_nil (WB_if (WT_val (lo ?_))))
 walk_at "my tr"
 refine ite_t (rfl) (WB_ret (WE_join ?_))
 refine WJ_cons (WE_fmt (lo ?_))
 (refine F_int (by decide) ?_; rw [intText8])
 refine S_str ⟨by simp only [sizeLine_eq, List.length_append, List.length_cons, List.length_nil, bitsT_length]; omega, ?_⟩
 refine WJ_cons (WE_fmt (lo ?_))
 walk_at "my fm"
 refine S_str ⟨by simp only [sizeLine_eq, List.length_append, List.length_cons, List.length_nil, bitsT_length]; omega, ?_⟩
 refine WJ_cons (WE_fmt (ca ?_))
 refine lz ?_
 refine bits_text_ok T (w := 8) (a := a) (b := b) (by decide) (by decide) ?_
 refine F_str (by rw [bitsT_length, sizeLine_eq]; decide) ?_
 refine S_str ⟨by simp only [sizeLine_eq, List.length_append, List.length_cons, List.length_nil, bitsT_length]; omega, ?_⟩
 refine WJ_nil ?_ (by simp only [sizeLine_eq, List.length_append, List.length_cons, List.length_nil, bitsT_length]; omega)
 exact h
theorem nt_40s_ok (T : Txt c) {a b : Nat}  (h : Q (.str ([39, 115, 98] ++ bitsT 40 a b)) σ) : CF c (d + 3) "numeral_text" [.tup [.int 40, .int a, .int b], .bool true, .bool false] σ Q := by
 refine CF_fn T.OK T.f_numeral_text ["v", "signed", "sized"] _ (show WB _ _ _ _ [("v", _), ("signed", _), ("sized", _)] _ _ from ?_)
 refine WB_cons (WS_tup ?_ (fun _ _ _ => rfl) (fun _ => rfl))
 refine lo ?_
 refine G_tup3 (by decide +kernel) ?_
 refine WB_if (WT_and (WT_not (WT_val (lo ?_))))
 walk_at "my tr"
 refine ite_t (congrArg not (rfl)) ?_
 refine WT_and (WT_val (lo ?_))
 walk_at "my tr"
 refine ite_t (rfl) (WT_and (cl ?_))
 refine WE_gint T.OK (by decide +kernel) T.plain.choose_spec ?_
 refine .eqI ?_
 refine ite_f (rfl) (ite_f rfl (WB_nil (WB_name (WE_strE ks_10 (WB_if (WT_val (lo ?_)))))))
 walk_at "my tr"
 refine ite_t (rfl) (WB_name (WE_strE ks_19 (WB_nil (WB_if (WT_val (lo ?_))))))
 walk_at "my tr"
 refine ite_f (rfl) (WB_nil (WB_ret (WE_join ?_)))
 refine WJ_cons (WE_fmt (lo ?_))
 walk_at "my fm"
 refine S_str ⟨by simp only [sizeLine_eq, List.length_append, List.length_cons, List.length_nil, bitsT_length]; omega, ?_⟩
 refine WJ_cons (WE_fmt (ca ?_))
 refine lz ?_
 refine bits_text_ok T (w := 40) (a := a) (b := b) (by decide) (by decide) ?_
 refine F_str (by rw [bitsT_length, sizeLine_eq]; decide) ?_
 refine S_str ⟨by simp only [sizeLine_eq, List.length_append, List.length_cons, List.length_nil, bitsT_length]; omega, ?_⟩
 refine WJ_nil ?_ (by simp only [sizeLine_eq, List.length_append, List.length_cons, List.length_nil, bitsT_length]; omega)
 exact h
theorem nt_40u_ok (T : Txt c) {a b : Nat}  (h : Q (.str ([39, 98] ++ bitsT 40 a b)) σ) : CF c (d + 3) "numeral_text" [.tup [.int 40, .int a, .int b], .bool false, .bool false] σ Q := by
 refine CF_fn T.OK T.f_numeral_text ["v", "signed", "sized"] _ (show WB _ _ _ _ [("v", _), ("signed", _), ("sized", _)] _ _ from ?_)
 refine WB_cons (WS_tup ?_ (fun _ _ _ => rfl) (fun _ => rfl))
 refine lo ?_
 refine G_tup3 (by decide +kernel) ?_
 refine WB_if (WT_and (WT_not (WT_val (lo ?_))))
 walk_at "my tr"
 refine ite_t (congrArg not (rfl)) ?_
 refine WT_and (WT_val (lo ?_))
 walk_at "my tr"
 refine ite_f (rfl) (ite_f rfl (WB_nil (WB_name (WE_strE ks_10 (WB_if (WT_val (lo ?_)))))))
 walk_at "my tr"
 refine ite_f (rfl) (WB_nil (WB_if (WT_val (lo ?_))))
 walk_at "my tr"
 refine ite_f (rfl) (WB_nil (WB_ret (WE_join ?_)))
 refine WJ_cons (WE_fmt (lo ?_))
 walk_at "my fm"
 refine S_str ⟨by simp only [sizeLine_eq, List.length_append, List.length_cons, List.length_nil, bitsT_length]; omega, ?_⟩
 refine WJ_cons (WE_fmt (ca ?_))
 refine lz ?_
 refine bits_text_ok T (w := 40) (a := a) (b := b) (by decide) (by decide) ?_
 refine F_str (by rw [bitsT_length, sizeLine_eq]; decide) ?_
 refine S_str ⟨by simp only [sizeLine_eq, List.length_append, List.length_cons, List.length_nil, bitsT_length]; omega, ?_⟩
 refine WJ_nil ?_ (by simp only [sizeLine_eq, List.length_append, List.length_cons, List.length_nil, bitsT_length]; omega)
 exact h
theorem nt_32s_ok (T : Txt c) {a : Nat} (ha : 2147483648 ≤ a) (h : Q (.str ([39, 115, 98] ++ bitsT 32 a 0)) σ) : CF c (d + 3) "numeral_text" [.tup [.int 32, .int a, .int 0], .bool true, .bool false] σ Q := by
 have ha' : ¬ (a : Int) < 2147483648 := by walk_at "o"
 refine CF_fn T.OK T.f_numeral_text ["v", "signed", "sized"] _ (show WB _ _ _ _ [("v", _), ("signed", _), ("sized", _)] _ _ from ?_)
 refine WB_cons (WS_tup ?_ (fun _ _ _ => rfl) (fun _ => rfl))
 refine lo ?_
 refine G_tup3 (by decide +kernel) ?_
 refine WB_if (WT_and (WT_not (WT_val (lo ?_))))
 walk_at "my tr"
 refine ite_t (congrArg not (rfl)) ?_
 refine WT_and (WT_val (lo ?_))
 walk_at "my tr"
 refine ite_t (rfl) (WT_and (cl ?_))
 refine WE_gint T.OK (by decide +kernel) T.plain.choose_spec ?_
 refine .eqI ?_
 refine ite_t (rfl) (WT_and (cl ?_))
 refine WE_int (.eqI ?_)
 refine ite_t (rfl) (WT_and1 (cl ?_))
 refine WE_bin (WE_int (bl ?_))
 refine WE_int (P_sub ?_)
 (refine P_shl (by decide +kernel) ?_; rw [show (1 : Int) * 2 ^ ((32 : Int) - 1).toNat = 2147483648 by decide])
 refine .ltI ?_
 rw [decide_eq_false ha']
 refine ite_f rfl (WB_nil (WB_name (WE_strE ks_10 (WB_if (WT_val (lo ?_))))))
 walk_at "my tr"
 refine ite_t (rfl) (WB_name (WE_strE ks_19 (WB_nil (WB_if (WT_val (lo ?_))))))
 walk_at "my tr"
 refine ite_f (rfl) (WB_nil (WB_ret (WE_join ?_)))
 refine WJ_cons (WE_fmt (lo ?_))
 walk_at "my fm"
 refine S_str ⟨by simp only [sizeLine_eq, List.length_append, List.length_cons, List.length_nil, bitsT_length]; omega, ?_⟩
 refine WJ_cons (WE_fmt (ca ?_))
 refine lz ?_
 refine bits_text_ok T (w := 32) (a := a) (b := 0) (by decide) (by decide) ?_
 refine F_str (by rw [bitsT_length, sizeLine_eq]; decide) ?_
 refine S_str ⟨by simp only [sizeLine_eq, List.length_append, List.length_cons, List.length_nil, bitsT_length]; omega, ?_⟩
 refine WJ_nil ?_ (by simp only [sizeLine_eq, List.length_append, List.length_cons, List.length_nil, bitsT_length]; omega)
 exact h
theorem nt_32u_ok (T : Txt c) {a : Nat} (ha : 2147483648 ≤ a) (h : Q (.str ([39, 98] ++ bitsT 32 a 0)) σ) : CF c (d + 3) "numeral_text" [.tup [.int 32, .int a, .int 0], .bool false, .bool false] σ Q := by
 have ha' : ¬ (a : Int) < 2147483648 := by walk_at "o"
 refine CF_fn T.OK T.f_numeral_text ["v", "signed", "sized"] _ (show WB _ _ _ _ [("v", _), ("signed", _), ("sized", _)] _ _ from ?_)
 refine WB_cons (WS_tup ?_ (fun _ _ _ => rfl) (fun _ => rfl))
 refine lo ?_
 refine G_tup3 (by decide +kernel) ?_
 refine WB_if (WT_and (WT_not (WT_val (lo ?_))))
 walk_at "my tr"
 refine ite_t (congrArg not (rfl)) ?_
 refine WT_and (WT_val (lo ?_))
 walk_at "my tr"
 refine ite_f (rfl) (ite_f rfl (WB_nil (WB_name (WE_strE ks_10 (WB_if (WT_val (lo ?_)))))))
 walk_at "my tr"
 refine ite_f (rfl) (WB_nil (WB_if (WT_val (lo ?_))))
 walk_at "my tr"
 refine ite_f (rfl) (WB_nil (WB_ret (WE_join ?_)))
 refine WJ_cons (WE_fmt (lo ?_))
 walk_at "my fm"
 refine S_str ⟨by simp only [sizeLine_eq, List.length_append, List.length_cons, List.length_nil, bitsT_length]; omega, ?_⟩
 refine WJ_cons (WE_fmt (ca ?_))
 refine lz ?_
 refine bits_text_ok T (w := 32) (a := a) (b := 0) (by decide) (by decide) ?_
 refine F_str (by rw [bitsT_length, sizeLine_eq]; decide) ?_
 refine S_str ⟨by simp only [sizeLine_eq, List.length_append, List.length_cons, List.length_nil, bitsT_length]; omega, ?_⟩
 refine WJ_nil ?_ (by simp only [sizeLine_eq, List.length_append, List.length_cons, List.length_nil, bitsT_length]; omega)
 exact h
end
section
variable {c : Cx} {d : Nat} {sc : Scope} {ρ : Locals} {σ : Store} {Q : V → Store → Prop}
noncomputable abbrev kCh (c : Cx) (d : Nat) (sc : Scope) (r : Expr) (op : CmpOp) (b : V) (ρ : Locals) (Q : Bool → Store → Prop) : Bool → Store → Prop := fun x σ => if x = true then WE c d sc r ρ σ (jCmp op Q b) else Q false σ
noncomputable abbrev jCh (c : Cx) (d : Nat) (sc : Scope) (r : Expr) (op₁ op₂ : CmpOp) (ρ : Locals) (Q : Bool → Store → Prop) : V → V → Store → Prop := fun a b σ => CmpP op₁ a b σ (kAt (kCh c d sc r op₂ b ρ Q) σ)
theorem WE_chain2 (OK : CxOK c) {l r₁ r₂ : Expr} {op₁ op₂ : CmpOp} {p : Pos}
  (h : WE c d sc l ρ σ (k2 c d sc r₁ ρ (jCh c d sc r₂ op₁ op₂ ρ (kBo Q))))
  (hm : lastMarks [op₁, op₂] [r₁, r₂] = false) : WE c d sc (.Compare l [op₁, op₂] [r₁, r₂] p) ρ σ Q :=
 .mk fun A env s R O B L => by
  show wpAny _ _ (do compareChain p (← eval l env) [op₁, op₂] (markedEach [op₁, op₂] [r₁, r₂] (evalEach [r₁, r₂] env))) _ _ _
  rw [markedEach_of_false _ _ _ hm]
  refine wpAny_bind (h.seq R O B L fun va s₁ a σ₁ ra st₁ h₁ => ?_)
  show wpAny _ _ (do
   let rv ← holding [va] (eval r₁ env)
   standAt p
   let cc ← holding [va, rv] (compareOp op₁ va rv)
   release [va, rv] [cc]
   if ← holding [cc, rv] (truthy cc) then compareChain p rv [op₂] [eval r₂ env] else pure cc) _ _ _
  refine wpAny_bind (wpAny_holding (h₁.seq R O st₁.base (L.step B st₁) fun vb s₂ b σ₂ rb st₂ h₂ => ?_))
  refine wpAny_bind (wpAny_standAt (wpAny_bind (wpAny_holding ?_)))
  refine wpAny_mono (CmpP_ok (Q := fun x σ' => σ' = σ₂ ∧ (if x = true then WE c d sc r₂ ρ σ₂ fun e σ₃ => CmpP op₂ b e σ₃ fun y => Q (.bool y) σ₃ else Q (.bool false) σ₂)) ?_ (R.less (Nat.zero_le _)) st₂.base (ra.step st₁.base st₂) rb OK.sys) (fun vc s₃ ⟨u, σ₃, rc, st₃, x, e, e2, q⟩ => ?_) fun _ _ z => z
  ·exact CmpP.mono h₂ fun x q => ⟨rfl, q⟩
  ·subst e e2
   subst rc
   have st := (st₁.trans st₂).trans st₃
   refine wpAny_bind (wpAny_releaseD (wpAny_bind (wpAny_holding (wpAny_truthy_bool ?_))))
   cases x with
   | false => exact wpAny_pure ⟨.bool false, σ₃, Rep_bool, st, by simpa using q⟩
   | true =>
    have q : WE c d sc r₂ ρ σ₃ (fun e σ₄ => CmpP op₂ b e σ₄ fun y => Q (.bool y) σ₄) := by simpa using q
    show wpAny _ _ (do
     let rv ← holding [vb] (eval r₂ env)
     standAt p
     operate [vb, rv] (compareOp op₂ vb rv)) _ _ _
    refine wpAny_bind (wpAny_holding (q.seq R O st₃.base (L.step B st) fun ve s₄ e σ₄ re st₄ h₄ => ?_))
    refine wpAny_bind (wpAny_standAt (wpAny_operateT ?_))
    refine wpAny_mono (CmpP_ok (Q := fun y σ' => Q (.bool y) σ') h₄ (R.less (Nat.zero_le _)) st₄.base ((rb.step st₂.base st₃).step st₃.base st₄) re OK.sys) (fun v s₅ ⟨u, σ₅, r5, st₅, y, e5, q5⟩ => ?_) fun _ _ z => z
    subst e5
    exact ⟨_, σ₅, r5, (st.trans st₄).trans st₅, q5⟩
theorem WT_chain2 (OK : CxOK c) {l r₁ r₂ : Expr} {op₁ op₂ : CmpOp} {p : Pos} {Q : Bool → Store → Prop}
  (h : WE c d sc l ρ σ (k2 c d sc r₁ ρ (jCh c d sc r₂ op₁ op₂ ρ Q)))
  (hm : lastMarks [op₁, op₂] [r₁, r₂] = false) : WT c d sc (.Compare l [op₁, op₂] [r₁, r₂] p) ρ σ Q := by
 unfold WT
 intro A env s R O B L
 refine isTrue_chain (rs := []) (ops := []) (h.seq R O B L fun va s₁ a σ₁ ra st₁ h₁ => ?_) hm
 show wpAny _ _ (do
  let rv ← holding [va] (eval r₁ env)
  standAt p
  let cc ← holding [va, rv] (compareOp op₁ va rv)
  release [va, rv] [cc]
  if ← holding [cc, rv] (truthy cc) then testChain p rv [op₂] [eval r₂ env] else pure false) _ _ _
 refine wpAny_bind (wpAny_holding (h₁.seq R O st₁.base (L.step B st₁) fun vb s₂ b σ₂ rb st₂ h₂ => ?_))
 refine wpAny_bind (wpAny_standAt (wpAny_bind (wpAny_holding ?_)))
 refine wpAny_mono (CmpP_ok (Q := fun x σ' => σ' = σ₂ ∧ (if x = true then WE c d sc r₂ ρ σ₂ fun e σ₃ => CmpP op₂ b e σ₃ fun y => Q y σ₃ else Q false σ₂)) ?_ (R.less (Nat.zero_le _)) st₂.base (ra.step st₁.base st₂) rb OK.sys) (fun vc s₃ ⟨u, σ₃, rc, st₃, x, e, e2, q⟩ => ?_) fun _ _ z => z
 ·exact CmpP.mono h₂ fun x q => ⟨rfl, q⟩
 ·subst e e2
  subst rc
  have st := (st₁.trans st₂).trans st₃
  refine wpAny_bind (wpAny_releaseD (wpAny_bind (wpAny_holding (wpAny_truthy_bool ?_))))
  cases x with
  | false => exact wpAny_pure ⟨σ₃, st, by simpa using q⟩
  | true =>
   have q : WE c d sc r₂ ρ σ₃ (fun e σ₄ => CmpP op₂ b e σ₄ fun y => Q y σ₄) := by simpa using q
   show wpAny _ _ (do
    let rv ← holding [vb] (eval r₂ env)
    standAt p
    let cc ← operate [vb, rv] (compareOp op₂ vb rv)
    holding [cc] (truthy cc)) _ _ _
   refine wpAny_bind (wpAny_holding (q.seq R O st₃.base (L.step B st) fun ve s₄ e σ₄ re st₄ h₄ => ?_))
   refine wpAny_bind (wpAny_standAt (wpAny_bind (wpAny_operateT ?_)))
   refine wpAny_mono (CmpP_ok (Q := fun y σ' => Q y σ') h₄ (R.less (Nat.zero_le _)) st₄.base ((rb.step st₂.base st₃).step st₃.base st₄) re OK.sys) (fun v s₅ ⟨u, σ₅, r5, st₅, y, e5, q5⟩ => ?_) fun _ _ z => z
   subst e5
   subst r5
   exact wpAny_holding (wpAny_truthy_bool ⟨σ₅, (st.trans st₄).trans st₅, q5⟩)
end
section
variable {c : Cx} {d : Nat} {σ : Store} {Q : V → Store → Prop}
theorem kw_0 : (splitL 32 kwText).reverse.contains [97] = false := by decide +kernel
theorem kw_1 : (splitL 32 kwText).reverse.contains [98, 49] = false := by decide +kernel
theorem kw_2 : (splitL 32 kwText).reverse.contains [99, 36] = false := by decide +kernel
theorem kw_3 : (splitL 32 kwText).reverse.contains [109, 111, 100, 117, 108, 101] = true := by decide +kernel
theorem kw_5 : (splitL 32 kwText).reverse.contains [95] = false := by decide +kernel
theorem simple0_ok (T : Txt c) (h : Q (.bool true) σ) : CF c (d + 2) "is_simple_name" [.str [97]] σ Q := by
 refine CF.pure ?_
 refine CF_fn T.OK T.f_is_simple_name ["name"] _ (show WB _ _ _ _ [("name", _)] _ _ from ?_)
 refine WB_cons (WS_for ?_ (fun _ _ => rfl))
 refine ca ?_
 refine WL_cons (ca ?_)
 refine lz ?_
 refine X_len T ?_
 refine CV_len_str (by walk_at "my sz") ?_
 refine WL_nil (X_range T ?_)
 refine CV_range1 ?_
 refine H_rng (by decide) ?_
 rw [show rangeV 0 1 (Builtin.Range.rangeSize 0 (([97] : List Nat).length : Nat) 1).toNat = [V.int 0] from rfl]
 refine WF_cons ?_
 refine G_name (by decide +kernel) (WB_name (WE_sub (lo ?_)))
 refine lo ?_
 refine I_str (by decide) rfl ?_
 refine WB_name (WE_bo (WE_chain2 T.OK ?_ rfl))
 refine WE_strE ks_97 (lo ?_)
 refine .leS ?_
 refine ite_t (by decide +kernel) (WE_strE ks_61 (.leS ?_))
 walk_at "my tr"
 refine bo_or_s (by decide +kernel) ?_
 refine WB_if (WT_and (WT_not (WT_val (lo ?_))))
 walk_at "my tr"
 refine ite_f (by decide +kernel) (ite_f rfl (WB_nil (WB_nil (L_next (WF_nil ?_)))))
 refine WB_nil (WB_ret (WE_bo (WE_cmp T.OK (lo ?_))))
 refine WE_strE ks_12 (.neS ?_)
 walk_at "my tr"
 refine bo_and_n (by decide +kernel) ?_
 refine WE_bo1 (WE_cmp T.OK (lo ?_))
 refine ca ?_
 refine WL_nil (keywords_ok T fun D hD => ?_)
 (refine C_niD (Store.set_self _ _ _) ?_; rw [kw_0])
 refine N_ret (R_ret ?_)
 first | exact ⟨Keep.set1 hD, h⟩ | exact ⟨Keep.refl _, h⟩
theorem simple1_ok (T : Txt c) (h : Q (.bool true) σ) : CF c (d + 2) "is_simple_name" [.str [98, 49]] σ Q := by
 refine CF.pure ?_
 refine CF_fn T.OK T.f_is_simple_name ["name"] _ (show WB _ _ _ _ [("name", _)] _ _ from ?_)
 refine WB_cons (WS_for ?_ (fun _ _ => rfl))
 refine ca ?_
 refine WL_cons (ca ?_)
 refine lz ?_
 refine X_len T ?_
 refine CV_len_str (by walk_at "my sz") ?_
 refine WL_nil (X_range T ?_)
 refine CV_range1 ?_
 refine H_rng (by decide) ?_
 rw [show rangeV 0 1 (Builtin.Range.rangeSize 0 (([98, 49] : List Nat).length : Nat) 1).toNat = [V.int 0, V.int 1] from rfl]
 refine WF_cons ?_
 refine G_name (by decide +kernel) (WB_name (WE_sub (lo ?_)))
 refine lo ?_
 refine I_str (by decide) rfl ?_
 refine WB_name (WE_bo (WE_chain2 T.OK ?_ rfl))
 refine WE_strE ks_97 (lo ?_)
 refine .leS ?_
 refine ite_t (by decide +kernel) (WE_strE ks_61 (.leS ?_))
 walk_at "my tr"
 refine bo_or_s (by decide +kernel) ?_
 refine WB_if (WT_and (WT_not (WT_val (lo ?_))))
 walk_at "my tr"
 refine ite_f (by decide +kernel) (ite_f rfl (WB_nil (WB_nil (L_next (WF_cons ?_)))))
 refine G_name (by decide +kernel) (WB_name (WE_sub (lo ?_)))
 refine lo ?_
 refine I_str (by decide) rfl ?_
 refine WB_name (WE_bo (WE_chain2 T.OK ?_ rfl))
 refine WE_strE ks_97 (lo ?_)
 refine .leS ?_
 refine ite_f (by decide +kernel) ?_
 walk_at "my tr"
 refine bo_or_n (by decide +kernel) ?_
 refine WE_bo (WE_chain2 T.OK ?_ rfl)
 refine WE_strE ks_107 (lo ?_)
 refine .leS ?_
 refine ite_f (by decide +kernel) ?_
 walk_at "my tr"
 refine bo_or_n (by decide +kernel) ?_
 refine WE_bo1 (WE_cmp T.OK (lo ?_))
 refine WE_strE ks_45 (.eqS ?_)
 refine WB_if (WT_and (WT_not (WT_val (lo ?_))))
 walk_at "my tr"
 refine ite_t (by decide +kernel) (WT_and1 (WT_or (cl ?_)))
 refine WE_int (.eqI ?_)
 refine ite_f (by decide +kernel) (WT_or1 (WT_not (WT_or (WT_chain2 T.OK ?_ rfl))))
 refine WE_strE ks_17 (lo ?_)
 refine .leS ?_
 refine ite_t (by decide +kernel) (WE_strE ks_44 (.leS ?_))
 refine ite_t (by decide +kernel) (ite_f rfl (WB_nil (WB_nil (L_next (WF_nil ?_)))))
 refine WB_nil (WB_ret (WE_bo (WE_cmp T.OK (lo ?_))))
 refine WE_strE ks_12 (.neS ?_)
 walk_at "my tr"
 refine bo_and_n (by decide +kernel) ?_
 refine WE_bo1 (WE_cmp T.OK (lo ?_))
 refine ca ?_
 refine WL_nil (keywords_ok T fun D hD => ?_)
 (refine C_niD (Store.set_self _ _ _) ?_; rw [kw_1])
 refine N_ret (R_ret ?_)
 first | exact ⟨Keep.set1 hD, h⟩ | exact ⟨Keep.refl _, h⟩
theorem simple2_ok (T : Txt c) (h : Q (.bool true) σ) : CF c (d + 2) "is_simple_name" [.str [99, 36]] σ Q := by
 refine CF.pure ?_
 refine CF_fn T.OK T.f_is_simple_name ["name"] _ (show WB _ _ _ _ [("name", _)] _ _ from ?_)
 refine WB_cons (WS_for ?_ (fun _ _ => rfl))
 refine ca ?_
 refine WL_cons (ca ?_)
 refine lz ?_
 refine X_len T ?_
 refine CV_len_str (by walk_at "my sz") ?_
 refine WL_nil (X_range T ?_)
 refine CV_range1 ?_
 refine H_rng (by decide) ?_
 rw [show rangeV 0 1 (Builtin.Range.rangeSize 0 (([99, 36] : List Nat).length : Nat) 1).toNat = [V.int 0, V.int 1] from rfl]
 refine WF_cons ?_
 refine G_name (by decide +kernel) (WB_name (WE_sub (lo ?_)))
 refine lo ?_
 refine I_str (by decide) rfl ?_
 refine WB_name (WE_bo (WE_chain2 T.OK ?_ rfl))
 refine WE_strE ks_97 (lo ?_)
 refine .leS ?_
 refine ite_t (by decide +kernel) (WE_strE ks_61 (.leS ?_))
 walk_at "my tr"
 refine bo_or_s (by decide +kernel) ?_
 refine WB_if (WT_and (WT_not (WT_val (lo ?_))))
 walk_at "my tr"
 refine ite_f (by decide +kernel) (ite_f rfl (WB_nil (WB_nil (L_next (WF_cons ?_)))))
 refine G_name (by decide +kernel) (WB_name (WE_sub (lo ?_)))
 refine lo ?_
 refine I_str (by decide) rfl ?_
 refine WB_name (WE_bo (WE_chain2 T.OK ?_ rfl))
 refine WE_strE ks_97 (lo ?_)
 refine .leS ?_
 refine ite_f (by decide +kernel) ?_
 walk_at "my tr"
 refine bo_or_n (by decide +kernel) ?_
 refine WE_bo (WE_chain2 T.OK ?_ rfl)
 refine WE_strE ks_107 (lo ?_)
 refine .leS ?_
 refine ite_f (by decide +kernel) ?_
 walk_at "my tr"
 refine bo_or_n (by decide +kernel) ?_
 refine WE_bo1 (WE_cmp T.OK (lo ?_))
 refine WE_strE ks_45 (.eqS ?_)
 refine WB_if (WT_and (WT_not (WT_val (lo ?_))))
 walk_at "my tr"
 refine ite_t (by decide +kernel) (WT_and1 (WT_or (cl ?_)))
 refine WE_int (.eqI ?_)
 refine ite_f (by decide +kernel) (WT_or1 (WT_not (WT_or (WT_chain2 T.OK ?_ rfl))))
 refine WE_strE ks_17 (lo ?_)
 refine .leS ?_
 refine ite_f (by decide +kernel) (ite_f rfl (WT_or1 (WT_eqLS ks_51 ?_)))
 refine ite_f (by decide +kernel) (WB_nil (WB_nil (L_next (WF_nil ?_))))
 refine WB_nil (WB_ret (WE_bo (WE_cmp T.OK (lo ?_))))
 refine WE_strE ks_12 (.neS ?_)
 walk_at "my tr"
 refine bo_and_n (by decide +kernel) ?_
 refine WE_bo1 (WE_cmp T.OK (lo ?_))
 refine ca ?_
 refine WL_nil (keywords_ok T fun D hD => ?_)
 (refine C_niD (Store.set_self _ _ _) ?_; rw [kw_2])
 refine N_ret (R_ret ?_)
 first | exact ⟨Keep.set1 hD, h⟩ | exact ⟨Keep.refl _, h⟩
theorem simple3_ok (T : Txt c) (h : Q (.bool false) σ) : CF c (d + 2) "is_simple_name" [.str [109, 111, 100, 117, 108, 101]] σ Q := by
 refine CF.pure ?_
 refine CF_fn T.OK T.f_is_simple_name ["name"] _ (show WB _ _ _ _ [("name", _)] _ _ from ?_)
 refine WB_cons (WS_for ?_ (fun _ _ => rfl))
 refine ca ?_
 refine WL_cons (ca ?_)
 refine lz ?_
 refine X_len T ?_
 refine CV_len_str (by walk_at "my sz") ?_
 refine WL_nil (X_range T ?_)
 refine CV_range1 ?_
 refine H_rng (by decide) ?_
 rw [show rangeV 0 1 (Builtin.Range.rangeSize 0 (([109, 111, 100, 117, 108, 101] : List Nat).length : Nat) 1).toNat = [V.int 0, V.int 1, V.int 2, V.int 3, V.int 4, V.int 5] from rfl]
 refine WF_cons ?_
 refine G_name (by decide +kernel) (WB_name (WE_sub (lo ?_)))
 refine lo ?_
 refine I_str (by decide) rfl ?_
 refine WB_name (WE_bo (WE_chain2 T.OK ?_ rfl))
 refine WE_strE ks_97 (lo ?_)
 refine .leS ?_
 refine ite_t (by decide +kernel) (WE_strE ks_61 (.leS ?_))
 walk_at "my tr"
 refine bo_or_s (by decide +kernel) ?_
 refine WB_if (WT_and (WT_not (WT_val (lo ?_))))
 walk_at "my tr"
 refine ite_f (by decide +kernel) (ite_f rfl (WB_nil (WB_nil (L_next (WF_cons ?_)))))
 refine G_name (by decide +kernel) (WB_name (WE_sub (lo ?_)))
 refine lo ?_
 refine I_str (by decide) rfl ?_
 refine WB_name (WE_bo (WE_chain2 T.OK ?_ rfl))
 refine WE_strE ks_97 (lo ?_)
 refine .leS ?_
 refine ite_t (by decide +kernel) (WE_strE ks_61 (.leS ?_))
 walk_at "my tr"
 refine bo_or_s (by decide +kernel) ?_
 refine WB_if (WT_and (WT_not (WT_val (lo ?_))))
 walk_at "my tr"
 refine ite_f (by decide +kernel) (ite_f rfl (WB_nil (WB_nil (L_next (WF_cons ?_)))))
 refine G_name (by decide +kernel) (WB_name (WE_sub (lo ?_)))
 refine lo ?_
 refine I_str (by decide) rfl ?_
 refine WB_name (WE_bo (WE_chain2 T.OK ?_ rfl))
 refine WE_strE ks_97 (lo ?_)
 refine .leS ?_
 refine ite_t (by decide +kernel) (WE_strE ks_61 (.leS ?_))
 walk_at "my tr"
 refine bo_or_s (by decide +kernel) ?_
 refine WB_if (WT_and (WT_not (WT_val (lo ?_))))
 walk_at "my tr"
 refine ite_f (by decide +kernel) (ite_f rfl (WB_nil (WB_nil (L_next (WF_cons ?_)))))
 refine G_name (by decide +kernel) (WB_name (WE_sub (lo ?_)))
 refine lo ?_
 refine I_str (by decide) rfl ?_
 refine WB_name (WE_bo (WE_chain2 T.OK ?_ rfl))
 refine WE_strE ks_97 (lo ?_)
 refine .leS ?_
 refine ite_t (by decide +kernel) (WE_strE ks_61 (.leS ?_))
 walk_at "my tr"
 refine bo_or_s (by decide +kernel) ?_
 refine WB_if (WT_and (WT_not (WT_val (lo ?_))))
 walk_at "my tr"
 refine ite_f (by decide +kernel) (ite_f rfl (WB_nil (WB_nil (L_next (WF_cons ?_)))))
 refine G_name (by decide +kernel) (WB_name (WE_sub (lo ?_)))
 refine lo ?_
 refine I_str (by decide) rfl ?_
 refine WB_name (WE_bo (WE_chain2 T.OK ?_ rfl))
 refine WE_strE ks_97 (lo ?_)
 refine .leS ?_
 refine ite_t (by decide +kernel) (WE_strE ks_61 (.leS ?_))
 walk_at "my tr"
 refine bo_or_s (by decide +kernel) ?_
 refine WB_if (WT_and (WT_not (WT_val (lo ?_))))
 walk_at "my tr"
 refine ite_f (by decide +kernel) (ite_f rfl (WB_nil (WB_nil (L_next (WF_cons ?_)))))
 refine G_name (by decide +kernel) (WB_name (WE_sub (lo ?_)))
 refine lo ?_
 refine I_str (by decide) rfl ?_
 refine WB_name (WE_bo (WE_chain2 T.OK ?_ rfl))
 refine WE_strE ks_97 (lo ?_)
 refine .leS ?_
 refine ite_t (by decide +kernel) (WE_strE ks_61 (.leS ?_))
 walk_at "my tr"
 refine bo_or_s (by decide +kernel) ?_
 refine WB_if (WT_and (WT_not (WT_val (lo ?_))))
 walk_at "my tr"
 refine ite_f (by decide +kernel) (ite_f rfl (WB_nil (WB_nil (L_next (WF_nil ?_)))))
 refine WB_nil (WB_ret (WE_bo (WE_cmp T.OK (lo ?_))))
 refine WE_strE ks_12 (.neS ?_)
 walk_at "my tr"
 refine bo_and_n (by decide +kernel) ?_
 refine WE_bo1 (WE_cmp T.OK (lo ?_))
 refine ca ?_
 refine WL_nil (keywords_ok T fun D hD => ?_)
 (refine C_niD (Store.set_self _ _ _) ?_; rw [kw_3])
 refine N_ret (R_ret ?_)
 first | exact ⟨Keep.set1 hD, h⟩ | exact ⟨Keep.refl _, h⟩
theorem simple4_ok (T : Txt c) (h : Q (.bool false) σ) : CF c (d + 2) "is_simple_name" [.str [43, 120]] σ Q := by
 refine CF.pure ?_
 refine CF_fn T.OK T.f_is_simple_name ["name"] _ (show WB _ _ _ _ [("name", _)] _ _ from ?_)
 refine WB_cons (WS_for ?_ (fun _ _ => rfl))
 refine ca ?_
 refine WL_cons (ca ?_)
 refine lz ?_
 refine X_len T ?_
 refine CV_len_str (by walk_at "my sz") ?_
 refine WL_nil (X_range T ?_)
 refine CV_range1 ?_
 refine H_rng (by decide) ?_
 rw [show rangeV 0 1 (Builtin.Range.rangeSize 0 (([43, 120] : List Nat).length : Nat) 1).toNat = [V.int 0, V.int 1] from rfl]
 refine WF_cons ?_
 refine G_name (by decide +kernel) (WB_name (WE_sub (lo ?_)))
 refine lo ?_
 refine I_str (by decide) rfl ?_
 refine WB_name (WE_bo (WE_chain2 T.OK ?_ rfl))
 refine WE_strE ks_97 (lo ?_)
 refine .leS ?_
 refine ite_f (by decide +kernel) ?_
 walk_at "my tr"
 refine bo_or_n (by decide +kernel) ?_
 refine WE_bo (WE_chain2 T.OK ?_ rfl)
 refine WE_strE ks_107 (lo ?_)
 refine .leS ?_
 refine ite_f (by decide +kernel) ?_
 walk_at "my tr"
 refine bo_or_n (by decide +kernel) ?_
 refine WE_bo1 (WE_cmp T.OK (lo ?_))
 refine WE_strE ks_45 (.eqS ?_)
 refine WB_if (WT_and (WT_not (WT_val (lo ?_))))
 walk_at "my tr"
 refine ite_t (by decide +kernel) (WT_and1 (WT_or (cl ?_)))
 refine WE_int (.eqI ?_)
 refine ite_t (by decide +kernel) (ite_t rfl (WB_ret (WE_bool (N_ret (N_ret ?_)))))
 refine L_ret (N_ret (R_ret ?_))
 first | exact ⟨Keep.set1 hD, h⟩ | exact ⟨Keep.refl _, h⟩
theorem simple5_ok (T : Txt c) (h : Q (.bool true) σ) : CF c (d + 2) "is_simple_name" [.str [95]] σ Q := by
 refine CF.pure ?_
 refine CF_fn T.OK T.f_is_simple_name ["name"] _ (show WB _ _ _ _ [("name", _)] _ _ from ?_)
 refine WB_cons (WS_for ?_ (fun _ _ => rfl))
 refine ca ?_
 refine WL_cons (ca ?_)
 refine lz ?_
 refine X_len T ?_
 refine CV_len_str (by walk_at "my sz") ?_
 refine WL_nil (X_range T ?_)
 refine CV_range1 ?_
 refine H_rng (by decide) ?_
 rw [show rangeV 0 1 (Builtin.Range.rangeSize 0 (([95] : List Nat).length : Nat) 1).toNat = [V.int 0] from rfl]
 refine WF_cons ?_
 refine G_name (by decide +kernel) (WB_name (WE_sub (lo ?_)))
 refine lo ?_
 refine I_str (by decide) rfl ?_
 refine WB_name (WE_bo (WE_chain2 T.OK ?_ rfl))
 refine WE_strE ks_97 (lo ?_)
 refine .leS ?_
 refine ite_f (by decide +kernel) ?_
 walk_at "my tr"
 refine bo_or_n (by decide +kernel) ?_
 refine WE_bo (WE_chain2 T.OK ?_ rfl)
 refine WE_strE ks_107 (lo ?_)
 refine .leS ?_
 refine ite_t (by decide +kernel) (WE_strE ks_108 (.leS ?_))
 walk_at "my tr"
 refine bo_or_n (by decide +kernel) ?_
 refine WE_bo1 (WE_cmp T.OK (lo ?_))
 refine WE_strE ks_45 (.eqS ?_)
 refine WB_if (WT_and (WT_not (WT_val (lo ?_))))
 walk_at "my tr"
 refine ite_f (by decide +kernel) (ite_f rfl (WB_nil (WB_nil (L_next (WF_nil ?_)))))
 refine WB_nil (WB_ret (WE_bo (WE_cmp T.OK (lo ?_))))
 refine WE_strE ks_12 (.neS ?_)
 walk_at "my tr"
 refine bo_and_n (by decide +kernel) ?_
 refine WE_bo1 (WE_cmp T.OK (lo ?_))
 refine ca ?_
 refine WL_nil (keywords_ok T fun D hD => ?_)
 (refine C_niD (Store.set_self _ _ _) ?_; rw [kw_5])
 refine N_ret (R_ret ?_)
 first | exact ⟨Keep.set1 hD, h⟩ | exact ⟨Keep.refl _, h⟩
noncomputable def isName (l : List Nat) : Prop := l = [97] ∨ l = [98, 49] ∨ l = [99, 36] ∨ l = [109, 111, 100, 117, 108, 101] ∨ l = [43, 120] ∨ l = [95]
noncomputable def nameT (l : List Nat) : List Nat := if l = [109, 111, 100, 117, 108, 101] ∨ l = [43, 120] then 92 :: (l ++ [32]) else l
theorem id_text0_ok (T : Txt c) (h : Q (.str (nameT [97])) σ) : CF c (d + 3) "id_text" [.str [97]] σ Q := by
 refine CF_fn T.OK T.f_id_text ["name"] _ (show WB _ _ _ _ [("name", _)] _ _ from ?_)
 refine WB_if (WT_val (ca ?_))
 refine lz ?_
 refine simple0_ok T ?_
 walk_at "my tr"
 refine ite_t (rfl) (WB_ret (lo ?_))
 exact h
theorem id_text1_ok (T : Txt c) (h : Q (.str (nameT [98, 49])) σ) : CF c (d + 3) "id_text" [.str [98, 49]] σ Q := by
 refine CF_fn T.OK T.f_id_text ["name"] _ (show WB _ _ _ _ [("name", _)] _ _ from ?_)
 refine WB_if (WT_val (ca ?_))
 refine lz ?_
 refine simple1_ok T ?_
 walk_at "my tr"
 refine ite_t (rfl) (WB_ret (lo ?_))
 exact h
theorem id_text2_ok (T : Txt c) (h : Q (.str (nameT [99, 36])) σ) : CF c (d + 3) "id_text" [.str [99, 36]] σ Q := by
 refine CF_fn T.OK T.f_id_text ["name"] _ (show WB _ _ _ _ [("name", _)] _ _ from ?_)
 refine WB_if (WT_val (ca ?_))
 refine lz ?_
 refine simple2_ok T ?_
 walk_at "my tr"
 refine ite_t (rfl) (WB_ret (lo ?_))
 exact h
theorem id_text3_ok (T : Txt c) (h : Q (.str (nameT [109, 111, 100, 117, 108, 101])) σ) : CF c (d + 3) "id_text" [.str [109, 111, 100, 117, 108, 101]] σ Q := by
 refine CF_fn T.OK T.f_id_text ["name"] _ (show WB _ _ _ _ [("name", _)] _ _ from ?_)
 refine WB_if (WT_val (ca ?_))
 refine lz ?_
 refine simple3_ok T ?_
 walk_at "my tr"
 refine ite_f (rfl) (WB_nil (WB_ret (WE_bin (WE_bin (WE_strE ks_50 (lo ?_))))))
 refine .addS (by walk_at "my sz") ?_
 refine WE_strE ks_13 (.addS (by walk_at "my sz") ?_)
 exact h
theorem id_text4_ok (T : Txt c) (h : Q (.str (nameT [43, 120])) σ) : CF c (d + 3) "id_text" [.str [43, 120]] σ Q := by
 refine CF_fn T.OK T.f_id_text ["name"] _ (show WB _ _ _ _ [("name", _)] _ _ from ?_)
 refine WB_if (WT_val (ca ?_))
 refine lz ?_
 refine simple4_ok T ?_
 walk_at "my tr"
 refine ite_f (rfl) (WB_nil (WB_ret (WE_bin (WE_bin (WE_strE ks_50 (lo ?_))))))
 refine .addS (by walk_at "my sz") ?_
 refine WE_strE ks_13 (.addS (by walk_at "my sz") ?_)
 exact h
theorem id_text5_ok (T : Txt c) (h : Q (.str (nameT [95])) σ) : CF c (d + 3) "id_text" [.str [95]] σ Q := by
 refine CF_fn T.OK T.f_id_text ["name"] _ (show WB _ _ _ _ [("name", _)] _ _ from ?_)
 refine WB_if (WT_val (ca ?_))
 refine lz ?_
 refine simple5_ok T ?_
 walk_at "my tr"
 refine ite_t (rfl) (WB_ret (lo ?_))
 exact h
theorem id_text_ok (T : Txt c) {l : List Nat} (hl : isName l) (h : Q (.str (nameT l)) σ) : CF c (d + 3) "id_text" [.str l] σ Q := by
 rcases hl with rfl | rfl | rfl | rfl | rfl | rfl
 ·exact id_text0_ok T h
 ·exact id_text1_ok T h
 ·exact id_text2_ok T h
 ·exact id_text3_ok T h
 ·exact id_text4_ok T h
 ·exact id_text5_ok T h
end
noncomputable def okCh (x : Nat) : Prop := x = 97 ∨ x = 34 ∨ x = 92 ∨ x = 10 ∨ x = 9 ∨ x = 0 ∨ x = 200 ∨ x = 55 ∨ x = 37 ∨ x = 100 ∨ x = 32 ∨ x = 47
noncomputable def pcOf (x : Nat) : Pc := if x = 92 ∨ x = 34 ∨ x = 10 ∨ x = 9 then .es x else if x < 32 ∨ 127 ≤ x then .oc x else .ch x
theorem pcOf_ok {x : Nat} (h : okCh x) : (pcOf x).ok ∧ (pcOf x).dec = x ∧ (pcOf x).enc.length ≤ 4 := by
 rcases h with h | h | h | h | h | h | h | h | h | h | h | h <;> (subst h; refine ⟨?_, rfl, by decide⟩; simp [pcOf, Pc.ok])
theorem joinL_flat {α : Type} (f : α → List Nat) : ∀ l : List α, joinL [] (l.map f) = l.flatMap f
 | [] => rfl
 | [x] => by simp [joinL]
 | x :: y :: r => by
  show f x ++ [] ++ joinL [] ((y :: r).map f) = _
  rw [joinL_flat f (y :: r)]; simp
theorem encs_len : ∀ l : List Nat, (∀ x ∈ l, okCh x) → (encs (l.map pcOf)).length ≤ 4 * l.length ∧ ((l.map fun x => (pcOf x).enc).map (·.length)).sum ≤ 4 * l.length
 | [], _ => ⟨Nat.le_refl _, Nat.le_refl _⟩
 | x :: l, h => by
  have h1 := (pcOf_ok (h x (.head _))).2.2
  have h2 := encs_len l fun y hy => h y (.tail _ hy)
  simp only [encs, List.map_cons, List.flatMap_cons, List.length_append, List.length_cons, List.sum_cons] at *
  omega
section
variable {c : Cx} {d : Nat} {σ : Store} {Q : V → Store → Prop}
theorem string_literal_ok (T : Txt c) {l : List Nat} (hl : ∀ x ∈ l, okCh x) (hz : l.length ≤ 1000) (h : Q (.str (34 :: (encs (l.map pcOf) ++ [34]))) σ) : CF c (d + 1) "string_literal" [.str l] σ Q := by
 refine CF.pure ?_
 refine CF_fn T.OK T.f_string_literal ["text"] _ (show WB _ _ _ _ [("text", _)] _ _ from ?_)
 refine WB_name (WE_lst (WL_nil ?_))
 refine ⟨by walk_at "my sz", ?_⟩
 intro A_1 h_1
 refine WB_cons (WS_for ?_ (fun _ _ => rfl))
 refine lo ?_
 refine H_str ?_
 refine WF.post [("parts", .lst A_1)] (σ.set A_1 (.list ([] ++ l.map fun x => .str (pcOf x).enc))) ?_ ?_
 ·have key : ∀ (l : List Nat) (acc : List V), (∀ x ∈ l, okCh x) → acc.length + l.length ≤ 1000 → WF c d (fnScope (top 38)) (wI (nth (fnBody (top 38)) 1)) (wB (nth (fnBody (top 38)) 1)) [] (l.map fun x => V.str [x]) [("parts", .lst A_1)] (σ.set A_1 (.list acc)) (fun fl ρ' σ' => fl = .next ∧ subL [("parts", .lst A_1)] ρ' ∧ σ' = σ.set A_1 (.list (acc ++ l.map fun x => .str (pcOf x).enc))) := by
   intro l
   induction l with
   | nil =>
    intro acc hx hz
    refine WF_nil ?_
    refine WB_nil ?_
    exact ⟨rfl, by walk_at "my sub", by simp⟩
   | cons x l ih =>
    intro acc hx hz
    simp only [List.length_cons] at hz
    rcases hx x (.head _) with h | h | h | h | h | h | h | h | h | h | h | h <;> subst h
    ·refine WF_cons ?_
     refine G_name (by decide +kernel) (WB_name (ca ?_))
     refine lz ?_
     refine X_ord T (CV_ord ?_)
     refine WB_if (WT_or (WT_eqLS ks_50 ?_))
     refine ite_f (by decide +kernel) (WT_or1 (WT_eqLS ks_28 ?_))
     refine ite_f (by decide +kernel) (WB_if (WT_eqLS ks_56 ?_))
     refine ite_f (by decide +kernel) (WB_if (WT_eqLS ks_58 ?_))
     refine ite_f (by decide +kernel) (WB_if (WT_or (cl ?_)))
     refine WE_int (.ltI ?_)
     refine ite_f (by decide +kernel) (WT_or1 (WT_chain2 T.OK ?_ rfl))
     refine WE_int (lo ?_)
     refine .leI ?_
     refine ite_f (by decide +kernel) (ite_f rfl (WB_expr (WE_meth T.OK (lo ?_))))
     refine ⟨_, GM_lst (by walk_at "my st") slot_list_append type_list_append, ?_⟩
     refine lz ?_
     refine CV_append (Store.set_self _ _ _) (by rw [sizeLine_eq]; omega) ?_
     refine WB_nil (WB_nil (WB_nil (WB_nil (WB_nil (L_next (WF.ss ?_))))))
     have := ih (acc ++ [.str (pcOf 97).enc]) (fun y hy => hx y (.tail _ hy)) (by simp only [List.length_append, List.length_cons, List.length_nil]; omega)
     rw [List.append_assoc] at this
     exact WF.weak this (by walk_at "my sub")
    ·refine WF_cons ?_
     refine G_name (by decide +kernel) (WB_name (ca ?_))
     refine lz ?_
     refine X_ord T (CV_ord ?_)
     refine WB_if (WT_or (WT_eqLS ks_50 ?_))
     refine ite_f (by decide +kernel) (WT_or1 (WT_eqLS ks_28 ?_))
     refine ite_t (by decide +kernel) (WB_expr (WE_meth T.OK (lo ?_)))
     refine ⟨_, GM_lst (by walk_at "my st") slot_list_append type_list_append, ?_⟩
     refine WL_cons (WE_bin (WE_strE ks_50 (lo ?_)))
     refine .addS (by walk_at "my sz") ?_
     refine WL_nil ?_
     refine CV_append (Store.set_self _ _ _) (by rw [sizeLine_eq]; omega) ?_
     refine WB_nil (WB_nil (L_next (WF.ss ?_)))
     have := ih (acc ++ [.str (pcOf 34).enc]) (fun y hy => hx y (.tail _ hy)) (by simp only [List.length_append, List.length_cons, List.length_nil]; omega)
     rw [List.append_assoc] at this
     exact WF.weak this (by walk_at "my sub")
    ·refine WF_cons ?_
     refine G_name (by decide +kernel) (WB_name (ca ?_))
     refine lz ?_
     refine X_ord T (CV_ord ?_)
     refine WB_if (WT_or (WT_eqLS ks_50 ?_))
     refine ite_t (by decide +kernel) (ite_t rfl (WB_expr (WE_meth T.OK (lo ?_))))
     refine ⟨_, GM_lst (by walk_at "my st") slot_list_append type_list_append, ?_⟩
     refine WL_cons (WE_bin (WE_strE ks_50 (lo ?_)))
     refine .addS (by walk_at "my sz") ?_
     refine WL_nil ?_
     refine CV_append (Store.set_self _ _ _) (by rw [sizeLine_eq]; omega) ?_
     refine WB_nil (WB_nil (L_next (WF.ss ?_)))
     have := ih (acc ++ [.str (pcOf 92).enc]) (fun y hy => hx y (.tail _ hy)) (by simp only [List.length_append, List.length_cons, List.length_nil]; omega)
     rw [List.append_assoc] at this
     exact WF.weak this (by walk_at "my sub")
    ·refine WF_cons ?_
     refine G_name (by decide +kernel) (WB_name (ca ?_))
     refine lz ?_
     refine X_ord T (CV_ord ?_)
     refine WB_if (WT_or (WT_eqLS ks_50 ?_))
     refine ite_f (by decide +kernel) (WT_or1 (WT_eqLS ks_28 ?_))
     refine ite_f (by decide +kernel) (WB_if (WT_eqLS ks_56 ?_))
     refine ite_t (by decide +kernel) (WB_expr (WE_meth T.OK (lo ?_)))
     refine ⟨_, GM_lst (by walk_at "my st") slot_list_append type_list_append, ?_⟩
     refine WL_str1 ks_131 ?_
     refine CV_append (Store.set_self _ _ _) (by rw [sizeLine_eq]; omega) ?_
     refine WB_nil (WB_nil (WB_nil (L_next (WF.ss ?_))))
     have := ih (acc ++ [.str (pcOf 10).enc]) (fun y hy => hx y (.tail _ hy)) (by simp only [List.length_append, List.length_cons, List.length_nil]; omega)
     rw [List.append_assoc] at this
     exact WF.weak this (by walk_at "my sub")
    ·refine WF_cons ?_
     refine G_name (by decide +kernel) (WB_name (ca ?_))
     refine lz ?_
     refine X_ord T (CV_ord ?_)
     refine WB_if (WT_or (WT_eqLS ks_50 ?_))
     refine ite_f (by decide +kernel) (WT_or1 (WT_eqLS ks_28 ?_))
     refine ite_f (by decide +kernel) (WB_if (WT_eqLS ks_56 ?_))
     refine ite_f (by decide +kernel) (WB_if (WT_eqLS ks_58 ?_))
     refine ite_t (by decide +kernel) (WB_expr (WE_meth T.OK (lo ?_)))
     refine ⟨_, GM_lst (by walk_at "my st") slot_list_append type_list_append, ?_⟩
     refine WL_str1 ks_134 ?_
     refine CV_append (Store.set_self _ _ _) (by rw [sizeLine_eq]; omega) ?_
     refine WB_nil (WB_nil (WB_nil (WB_nil (L_next (WF.ss ?_)))))
     have := ih (acc ++ [.str (pcOf 9).enc]) (fun y hy => hx y (.tail _ hy)) (by simp only [List.length_append, List.length_cons, List.length_nil]; omega)
     rw [List.append_assoc] at this
     exact WF.weak this (by walk_at "my sub")
    ·refine WF_cons ?_
     refine G_name (by decide +kernel) (WB_name (ca ?_))
     refine lz ?_
     refine X_ord T (CV_ord ?_)
     refine WB_if (WT_or (WT_eqLS ks_50 ?_))
     refine ite_f (by decide +kernel) (WT_or1 (WT_eqLS ks_28 ?_))
     refine ite_f (by decide +kernel) (WB_if (WT_eqLS ks_56 ?_))
     refine ite_f (by decide +kernel) (WB_if (WT_eqLS ks_58 ?_))
     refine ite_f (by decide +kernel) (WB_if (WT_or (cl ?_)))
     refine WE_int (.ltI ?_)
     refine ite_t (by decide +kernel) (ite_t rfl (WB_expr (WE_meth T.OK (lo ?_))))
     refine ⟨_, GM_lst (by walk_at "my st") slot_list_append type_list_append, ?_⟩
     refine WL_cons (WE_join ?_)
     refine WJ_cons (WE_strE ks_50 (S_str ⟨by walk_at "my sz", ?_⟩))
     refine WJ_cons (WE_fmt (bl ?_))
     refine WE_int (P_fdiv (by decide) (by decide) ?_)
     (refine F_int (by decide) ?_; rw [show intText (((0 : Nat) : Int).fdiv 64) = [48] by decide +kernel])
     refine S_str ⟨by walk_at "my sz", ?_⟩
     refine WJ_cons (WE_fmt (WE_bin (bl ?_)))
     refine WE_int (P_fdiv (by decide) (by decide) ?_)
     refine WE_int (P_mod (by first | decide | omega) ?_)
     (refine F_int (by decide) ?_; rw [show intText ((((0 : Nat) : Int).fdiv 8).fmod 8) = [48] by decide +kernel])
     refine S_str ⟨by walk_at "my sz", ?_⟩
     refine WJ_cons (WE_fmt (bl ?_))
     refine WE_int (P_mod (by first | decide | omega) ?_)
     (refine F_int (by decide) ?_; rw [show intText (((0 : Nat) : Int).fmod 8) = [48] by decide +kernel])
     refine S_str ⟨by walk_at "my sz", ?_⟩
     refine WJ_nil ?_ (by walk_at "my sz")
     refine WL_nil ?_
     refine CV_append (Store.set_self _ _ _) (by rw [sizeLine_eq]; omega) ?_
     refine WB_nil (WB_nil (WB_nil (WB_nil (WB_nil (L_next (WF.ss ?_))))))
     have := ih (acc ++ [.str (pcOf 0).enc]) (fun y hy => hx y (.tail _ hy)) (by simp only [List.length_append, List.length_cons, List.length_nil]; omega)
     rw [List.append_assoc] at this
     exact WF.weak this (by walk_at "my sub")
    ·refine WF_cons ?_
     refine G_name (by decide +kernel) (WB_name (ca ?_))
     refine lz ?_
     refine X_ord T (CV_ord ?_)
     refine WB_if (WT_or (WT_eqLS ks_50 ?_))
     refine ite_f (by decide +kernel) (WT_or1 (WT_eqLS ks_28 ?_))
     refine ite_f (by decide +kernel) (WB_if (WT_eqLS ks_56 ?_))
     refine ite_f (by decide +kernel) (WB_if (WT_eqLS ks_58 ?_))
     refine ite_f (by decide +kernel) (WB_if (WT_or (cl ?_)))
     refine WE_int (.ltI ?_)
     refine ite_f (by decide +kernel) (WT_or1 (WT_chain2 T.OK ?_ rfl))
     refine WE_int (lo ?_)
     refine .leI ?_
     refine ite_t (by decide +kernel) (WE_int (.ltI ?_))
     refine ite_t (by decide +kernel) (WB_expr (WE_meth T.OK (lo ?_)))
     refine ⟨_, GM_lst (by walk_at "my st") slot_list_append type_list_append, ?_⟩
     refine WL_cons (WE_join ?_)
     refine WJ_cons (WE_strE ks_50 (S_str ⟨by walk_at "my sz", ?_⟩))
     refine WJ_cons (WE_fmt (bl ?_))
     refine WE_int (P_fdiv (by decide) (by decide) ?_)
     (refine F_int (by decide) ?_; rw [show intText (((200 : Nat) : Int).fdiv 64) = [51] by decide +kernel])
     refine S_str ⟨by walk_at "my sz", ?_⟩
     refine WJ_cons (WE_fmt (WE_bin (bl ?_)))
     refine WE_int (P_fdiv (by decide) (by decide) ?_)
     refine WE_int (P_mod (by first | decide | omega) ?_)
     (refine F_int (by decide) ?_; rw [show intText ((((200 : Nat) : Int).fdiv 8).fmod 8) = [49] by decide +kernel])
     refine S_str ⟨by walk_at "my sz", ?_⟩
     refine WJ_cons (WE_fmt (bl ?_))
     refine WE_int (P_mod (by first | decide | omega) ?_)
     (refine F_int (by decide) ?_; rw [show intText (((200 : Nat) : Int).fmod 8) = [48] by decide +kernel])
     refine S_str ⟨by walk_at "my sz", ?_⟩
     refine WJ_nil ?_ (by walk_at "my sz")
     refine WL_nil ?_
     refine CV_append (Store.set_self _ _ _) (by rw [sizeLine_eq]; omega) ?_
     refine WB_nil (WB_nil (WB_nil (WB_nil (WB_nil (L_next (WF.ss ?_))))))
     have := ih (acc ++ [.str (pcOf 200).enc]) (fun y hy => hx y (.tail _ hy)) (by simp only [List.length_append, List.length_cons, List.length_nil]; omega)
     rw [List.append_assoc] at this
     exact WF.weak this (by walk_at "my sub")
    ·refine WF_cons ?_
     refine G_name (by decide +kernel) (WB_name (ca ?_))
     refine lz ?_
     refine X_ord T (CV_ord ?_)
     refine WB_if (WT_or (WT_eqLS ks_50 ?_))
     refine ite_f (by decide +kernel) (WT_or1 (WT_eqLS ks_28 ?_))
     refine ite_f (by decide +kernel) (WB_if (WT_eqLS ks_56 ?_))
     refine ite_f (by decide +kernel) (WB_if (WT_eqLS ks_58 ?_))
     refine ite_f (by decide +kernel) (WB_if (WT_or (cl ?_)))
     refine WE_int (.ltI ?_)
     refine ite_f (by decide +kernel) (WT_or1 (WT_chain2 T.OK ?_ rfl))
     refine WE_int (lo ?_)
     refine .leI ?_
     refine ite_f (by decide +kernel) (ite_f rfl (WB_expr (WE_meth T.OK (lo ?_))))
     refine ⟨_, GM_lst (by walk_at "my st") slot_list_append type_list_append, ?_⟩
     refine lz ?_
     refine CV_append (Store.set_self _ _ _) (by rw [sizeLine_eq]; omega) ?_
     refine WB_nil (WB_nil (WB_nil (WB_nil (WB_nil (L_next (WF.ss ?_))))))
     have := ih (acc ++ [.str (pcOf 55).enc]) (fun y hy => hx y (.tail _ hy)) (by simp only [List.length_append, List.length_cons, List.length_nil]; omega)
     rw [List.append_assoc] at this
     exact WF.weak this (by walk_at "my sub")
    ·refine WF_cons ?_
     refine G_name (by decide +kernel) (WB_name (ca ?_))
     refine lz ?_
     refine X_ord T (CV_ord ?_)
     refine WB_if (WT_or (WT_eqLS ks_50 ?_))
     refine ite_f (by decide +kernel) (WT_or1 (WT_eqLS ks_28 ?_))
     refine ite_f (by decide +kernel) (WB_if (WT_eqLS ks_56 ?_))
     refine ite_f (by decide +kernel) (WB_if (WT_eqLS ks_58 ?_))
     refine ite_f (by decide +kernel) (WB_if (WT_or (cl ?_)))
     refine WE_int (.ltI ?_)
     refine ite_f (by decide +kernel) (WT_or1 (WT_chain2 T.OK ?_ rfl))
     refine WE_int (lo ?_)
     refine .leI ?_
     refine ite_f (by decide +kernel) (ite_f rfl (WB_expr (WE_meth T.OK (lo ?_))))
     refine ⟨_, GM_lst (by walk_at "my st") slot_list_append type_list_append, ?_⟩
     refine lz ?_
     refine CV_append (Store.set_self _ _ _) (by rw [sizeLine_eq]; omega) ?_
     refine WB_nil (WB_nil (WB_nil (WB_nil (WB_nil (L_next (WF.ss ?_))))))
     have := ih (acc ++ [.str (pcOf 37).enc]) (fun y hy => hx y (.tail _ hy)) (by simp only [List.length_append, List.length_cons, List.length_nil]; omega)
     rw [List.append_assoc] at this
     exact WF.weak this (by walk_at "my sub")
    ·refine WF_cons ?_
     refine G_name (by decide +kernel) (WB_name (ca ?_))
     refine lz ?_
     refine X_ord T (CV_ord ?_)
     refine WB_if (WT_or (WT_eqLS ks_50 ?_))
     refine ite_f (by decide +kernel) (WT_or1 (WT_eqLS ks_28 ?_))
     refine ite_f (by decide +kernel) (WB_if (WT_eqLS ks_56 ?_))
     refine ite_f (by decide +kernel) (WB_if (WT_eqLS ks_58 ?_))
     refine ite_f (by decide +kernel) (WB_if (WT_or (cl ?_)))
     refine WE_int (.ltI ?_)
     refine ite_f (by decide +kernel) (WT_or1 (WT_chain2 T.OK ?_ rfl))
     refine WE_int (lo ?_)
     refine .leI ?_
     refine ite_f (by decide +kernel) (ite_f rfl (WB_expr (WE_meth T.OK (lo ?_))))
     refine ⟨_, GM_lst (by walk_at "my st") slot_list_append type_list_append, ?_⟩
     refine lz ?_
     refine CV_append (Store.set_self _ _ _) (by rw [sizeLine_eq]; omega) ?_
     refine WB_nil (WB_nil (WB_nil (WB_nil (WB_nil (L_next (WF.ss ?_))))))
     have := ih (acc ++ [.str (pcOf 100).enc]) (fun y hy => hx y (.tail _ hy)) (by simp only [List.length_append, List.length_cons, List.length_nil]; omega)
     rw [List.append_assoc] at this
     exact WF.weak this (by walk_at "my sub")
    ·refine WF_cons ?_
     refine G_name (by decide +kernel) (WB_name (ca ?_))
     refine lz ?_
     refine X_ord T (CV_ord ?_)
     refine WB_if (WT_or (WT_eqLS ks_50 ?_))
     refine ite_f (by decide +kernel) (WT_or1 (WT_eqLS ks_28 ?_))
     refine ite_f (by decide +kernel) (WB_if (WT_eqLS ks_56 ?_))
     refine ite_f (by decide +kernel) (WB_if (WT_eqLS ks_58 ?_))
     refine ite_f (by decide +kernel) (WB_if (WT_or (cl ?_)))
     refine WE_int (.ltI ?_)
     refine ite_f (by decide +kernel) (WT_or1 (WT_chain2 T.OK ?_ rfl))
     refine WE_int (lo ?_)
     refine .leI ?_
     refine ite_f (by decide +kernel) (ite_f rfl (WB_expr (WE_meth T.OK (lo ?_))))
     refine ⟨_, GM_lst (by walk_at "my st") slot_list_append type_list_append, ?_⟩
     refine lz ?_
     refine CV_append (Store.set_self _ _ _) (by rw [sizeLine_eq]; omega) ?_
     refine WB_nil (WB_nil (WB_nil (WB_nil (WB_nil (L_next (WF.ss ?_))))))
     have := ih (acc ++ [.str (pcOf 32).enc]) (fun y hy => hx y (.tail _ hy)) (by simp only [List.length_append, List.length_cons, List.length_nil]; omega)
     rw [List.append_assoc] at this
     exact WF.weak this (by walk_at "my sub")
    ·refine WF_cons ?_
     refine G_name (by decide +kernel) (WB_name (ca ?_))
     refine lz ?_
     refine X_ord T (CV_ord ?_)
     refine WB_if (WT_or (WT_eqLS ks_50 ?_))
     refine ite_f (by decide +kernel) (WT_or1 (WT_eqLS ks_28 ?_))
     refine ite_f (by decide +kernel) (WB_if (WT_eqLS ks_56 ?_))
     refine ite_f (by decide +kernel) (WB_if (WT_eqLS ks_58 ?_))
     refine ite_f (by decide +kernel) (WB_if (WT_or (cl ?_)))
     refine WE_int (.ltI ?_)
     refine ite_f (by decide +kernel) (WT_or1 (WT_chain2 T.OK ?_ rfl))
     refine WE_int (lo ?_)
     refine .leI ?_
     refine ite_f (by decide +kernel) (ite_f rfl (WB_expr (WE_meth T.OK (lo ?_))))
     refine ⟨_, GM_lst (by walk_at "my st") slot_list_append type_list_append, ?_⟩
     refine lz ?_
     refine CV_append (Store.set_self _ _ _) (by rw [sizeLine_eq]; omega) ?_
     refine WB_nil (WB_nil (WB_nil (WB_nil (WB_nil (L_next (WF.ss ?_))))))
     have := ih (acc ++ [.str (pcOf 47).enc]) (fun y hy => hx y (.tail _ hy)) (by simp only [List.length_append, List.length_cons, List.length_nil]; omega)
     rw [List.append_assoc] at this
     exact WF.weak this (by walk_at "my sub")
  exact WF.weak (key _ [] hl (by simpa using hz)) (by walk_at "my sub")
 ·skip
  refine WB_ret (WE_bin (WE_bin (WE_strE ks_28 (WE_meth T.OK (WE_strE ks_12 ?_)))))
  refine ⟨_, GM_str F.slot_str_join F.type_str_join, ?_⟩
  refine lz ?_
  refine CV_join (Store.set_self _ _ _) (ls := l.map fun x => (pcOf x).enc) (by rw [show ([] : List V) ++ l.map (fun x => V.str (pcOf x).enc) = (l.map fun x => (pcOf x).enc).map V.str by simp]; exact strsOf_map _) (by have := (encs_len l hl).2; simp only [List.length_nil, Nat.mul_zero]; omega) ?_
  (rw [joinL_flat]; have he := (encs_len l hl).1; rw [show (l.flatMap fun x => (pcOf x).enc) = encs (l.map pcOf) by simp [encs, List.flatMap_map]]; refine P_addS (by rw [sizeLine_eq]; simp only [List.length_cons, List.length_nil]; omega) ?_)
  refine WE_strE ks_28 ?_
  refine P_addS (by rw [sizeLine_eq]; simp only [List.length_append, List.length_cons, List.length_nil]; omega) ?_
  refine N_ret (R_ret ?_)
  refine ⟨Keep.set1 h_1, ?_⟩
  exact h
end
noncomputable def unOps : List (List Nat) := [[43], [45], [33], [126], [38], [126, 38], [124], [126, 124], [94], [126, 94]]
noncomputable def binOps : List (List Nat) := [[124, 124], [38, 38], [124], [94], [126, 94], [38], [61, 61], [33, 61], [61, 61, 61], [33, 61, 61], [60], [60, 61], [62], [62, 61], [60, 60], [62, 62], [60, 60, 60], [62, 62, 62], [43], [45], [42], [47], [37], [42, 42]]
noncomputable def prec (l : List Nat) : Nat := if l = [124, 124] then 1 else if l = [38, 38] then 2 else if l = [124] then 3 else if [[94], [126, 94], [94, 126]].contains l then 4 else if l = [38] then 5 else if [[61, 61], [33, 61], [61, 61, 61], [33, 61, 61]].contains l then 6
 else if [[60], [60, 61], [62], [62, 61]].contains l then 7 else if [[60, 60], [62, 62], [60, 60, 60], [62, 62, 62]].contains l then 8 else if [[43], [45]].contains l then 9 else if [[42], [47], [37]].contains l then 10 else if l = [42, 42] then 11 else 0
noncomputable def isUn (l : List Nat) : Bool := [[43], [45], [33], [126], [38], [126, 38], [124], [126, 124], [94], [126, 94], [94, 126]].contains l
noncomputable def mkS (sg : Bool) : List Nat := if sg then [39, 115, 98] else [39, 98]
noncomputable abbrev kw (s : String) : V := .str (Str.ofString s).cps.toList
inductive Leaf : V → List Nat → List Tk → Prop where
 | id {l} (h : isName l) : Leaf (.tup [.str [105, 100], .int 0, .str l]) (nameT l) [.id l]
 | dec {a : Nat} (h : a < 256) : Leaf (.tup [.str [110, 117, 109], .int 0, .tup [.int 32, .int a, .int 0], .bool true, .bool false]) (intText (a : Int)) [.num [] [] true (intText (a : Int))]
 | n8 {a b : Nat} {sg : Bool} (h : a < 256 ∧ b < 256) : Leaf (.tup [.str [110, 117, 109], .int 0, .tup [.int 8, .int a, .int b], .bool sg, .bool true]) ([56] ++ mkS sg ++ bitsT 8 a b) [.num [56] [98] sg (bitsT 8 a b)]
 | n40 {a b : Nat} {sg : Bool} (h : a < 2 ^ 40 ∧ b < 2 ^ 40) : Leaf (.tup [.str [110, 117, 109], .int 0, .tup [.int 40, .int a, .int b], .bool sg, .bool false]) (mkS sg ++ bitsT 40 a b) [.num [] [98] sg (bitsT 40 a b)]
 | n32 {a : Nat} {sg : Bool} (h : 2147483648 ≤ a ∧ a < 2 ^ 32) : Leaf (.tup [.str [110, 117, 109], .int 0, .tup [.int 32, .int a, .int 0], .bool sg, .bool false]) (mkS sg ++ bitsT 32 a 0) [.num [] [98] sg (bitsT 32 a 0)]
 | str {l} (h : ∀ x ∈ l, okCh x) (hl : l.length ≤ 30) : Leaf (.tup [.str [115, 116, 114], .int 0, .str l]) (34 :: (encs (l.map pcOf) ++ [34])) [.str l]
noncomputable abbrev Rl := V → List Nat → List Tk → Nat → Prop
inductive Opd (P : Rl) (least : Nat) : V → List Nat → List Tk → Prop where
 | bare {v t k r} (h : P v t k r) (hr : least ≤ r) : Opd P least v t k
 | brak {v t k r} (h : P v t k r) (hr : r < least) : Opd P least v (40 :: (t ++ [41])) (.op [40] :: (k ++ [.op [41]]))
inductive LstR (P : Rl) : List V → List Nat → List Tk → Prop where
 | one {v t k r} (h : P v t k r) : LstR P [v] t k
 | cons {v t k r vs ts ks} (h : P v t k r) (hs : LstR P vs ts ks) : LstR P (v :: vs) (t ++ [44, 32] ++ ts) (k ++ .op [44] :: ks)
inductive PartR (P : Rl) : V → List Nat → List Tk → Prop where
 | bare {l} (h : isName l) : PartR P (.tup [.str l, .none]) (nameT l) [.id l]
 | sub {l v t k r} (h : isName l) (hv : P v t k r) : PartR P (.tup [.str l, v]) (nameT l ++ [91] ++ t ++ [93]) (.id l :: .op [91] :: (k ++ [.op [93]]))
inductive PathR (P : Rl) : List V → List Nat → List Tk → Prop where
 | last {l} (h : isName l) : PathR P [.tup [.str l, .none]] (nameT l) [.id l]
 | cons {p t k ps ts ks} (h : PartR P p t k) (hs : PathR P ps ts ks) : PathR P (p :: ps) (t ++ [46] ++ ts) (k ++ .op [46] :: ks)
inductive BaseR (P : Rl) : Nat → V → List Nat → List Tk → Prop where
 | id {l} (h : isName l) : BaseR P 0 (.tup [.str [105, 100], .int 0, .str l]) (nameT l) [.id l]
 | path {p t k ps ts ks} (h : PartR P p t k) (hs : PathR P ps ts ks) (hl : ps.length ≤ 2) : BaseR P 0 (.tup [.str [112, 97, 116, 104], .int 0, .tup (p :: ps)]) (t ++ [46] ++ ts) (k ++ .op [46] :: ks)
 | index {m b t k v t' k' r} (h : BaseR P m b t k) (hv : P v t' k' r) : BaseR P (m + 1) (.tup [.str [105, 110, 100, 101, 120], .int 0, b, v]) (t ++ [91] ++ t' ++ [93]) (k ++ .op [91] :: (k' ++ [.op [93]]))
inductive Node (P : Rl) : Rl where
 | leaf {v t k} (h : Leaf v t k) : Node P v t k 13
 | base {m v t k} (h : BaseR P m v t k) (hm : m ≤ 2) : Node P v t k 13
 | un {op v t k} (ho : op ∈ unOps) (h : Opd P 13 v t k) : Node P (.tup [.str [117, 110], .int 0, .str op, v]) (op ++ t) (.op op :: k) 12
 | bin {op l tl kl r tr kr} (ho : op ∈ binOps) (hl : Opd P (prec op) l tl kl) (hr : Opd P (prec op + 1) r tr kr) : Node P (.tup [.str [98, 105, 110], .int 0, .str op, l, r]) (tl ++ [32] ++ op ++ [32] ++ tr) (kl ++ .op op :: kr) (prec op)
 | cond {a ta ka b tb kb e te ke r} (ha : Opd P 1 a ta ka) (hb : Opd P 1 b tb kb) (he : P e te ke r) : Node P (.tup [.str [99, 111, 110, 100], .int 0, a, b, e]) (ta ++ [32, 63, 32] ++ tb ++ [32, 58, 32] ++ te) (ka ++ .op [63] :: (kb ++ .op [58] :: ke)) 0
 | cat {vs ts ks} (h : LstR P vs ts ks) (hl : vs.length ≤ 3) : Node P (.tup [.str [99, 97, 116], .int 0, .tup vs]) (123 :: (ts ++ [125])) (.op [123] :: (ks ++ [.op [125]])) 13
 | rep {n t k vs ts ks} (hn : Opd P 13 n t k) (h : LstR P vs ts ks) (hl : vs.length ≤ 2) : Node P (.tup [.str [114, 101, 112], .int 0, n, .tup vs]) (123 :: (t ++ [123] ++ ts ++ [125, 125])) (.op [123] :: (k ++ .op [123] :: (ks ++ [.op [125], .op [125]]))) 13
 | call0 {l} (hn : isName l) : Node P (.tup [.str [99, 97, 108, 108], .int 0, .str l, .tup []]) (nameT l ++ [40, 41]) [.id l, .op [40], .op [41]] 13
 | call {l vs ts ks} (hn : isName l) (h : LstR P vs ts ks) (hl : vs.length ≤ 2) : Node P (.tup [.str [99, 97, 108, 108], .int 0, .str l, .tup vs]) (nameT l ++ [40] ++ ts ++ [41]) (.id l :: .op [40] :: (ks ++ [.op [41]])) 13
 | sys0 : Node P (.tup [.str [115, 121, 115], .int 0, .str [36, 116, 105, 109, 101], .tup []]) [36, 116, 105, 109, 101] [.sys [36, 116, 105, 109, 101]] 13
 | sys {vs ts ks} (h : LstR P vs ts ks) (hl : vs.length ≤ 2) : Node P (.tup [.str [115, 121, 115], .int 0, .str [36, 116, 105, 109, 101], .tup vs]) ([36, 116, 105, 109, 101] ++ [40] ++ ts ++ [41]) (.sys [36, 116, 105, 109, 101] :: .op [40] :: (ks ++ [.op [41]])) 13
 | part {m b t k i ti ki ri j tj kj rj} (h : BaseR P m b t k) (hm : m ≤ 2) (hi : P i ti ki ri) (hj : P j tj kj rj) : Node P (.tup [.str [112, 97, 114, 116], .int 0, b, i, j]) (t ++ [91] ++ ti ++ [58] ++ tj ++ [93]) (k ++ .op [91] :: (ki ++ .op [58] :: (kj ++ [.op [93]]))) 13
 | up {m b t k i ti ki ri j tj kj rj} (h : BaseR P m b t k) (hm : m ≤ 2) (hi : P i ti ki ri) (hj : P j tj kj rj) : Node P (.tup [.str [117, 112], .int 0, b, i, j]) (t ++ [91] ++ ti ++ [32, 43, 58, 32] ++ tj ++ [93]) (k ++ .op [91] :: (ki ++ .op [43, 58] :: (kj ++ [.op [93]]))) 13
 | down {m b t k i ti ki ri j tj kj rj} (h : BaseR P m b t k) (hm : m ≤ 2) (hi : P i ti ki ri) (hj : P j tj kj rj) : Node P (.tup [.str [100, 111, 119, 110], .int 0, b, i, j]) (t ++ [91] ++ ti ++ [32, 45, 58, 32] ++ tj ++ [93]) (k ++ .op [91] :: (ki ++ .op [45, 58] :: (kj ++ [.op [93]]))) 13
noncomputable def GE : Nat → Rl
 | 0 => fun _ _ _ _ => False
 | n + 1 => Node (GE n)
section
variable {c : Cx} {d : Nat} {σ : Store} {Q : V → Store → Prop}
theorem precedence_ok (T : Txt c) {l : List Nat} (h : Q (.int (prec l : Nat)) σ) : CF c (d + 1) "precedence" [.str l] σ Q := by
 unfold prec at h
 refine CF_fn T.OK T.f_precedence ["op"] _ (show WB _ _ _ _ [("op", _)] _ _ from ?_)
 refine WB_if (WT_eqLS ks_20 ?_)
 refine ite_b (fun hb1 => ?_) (fun hb1 => ?_)
 ·rw [if_pos (of_decide_eq_true hb1)] at h
  exact WB_ret (WE_int h)
 ·rw [if_neg (of_decide_eq_false hb1)] at h
  refine WB_nil (WB_if (WT_eqLS ks_21 ?_))
  refine ite_b (fun hb2 => ?_) (fun hb2 => ?_)
  ·rw [if_pos (of_decide_eq_true hb2)] at h
   exact WB_ret (WE_int h)
  ·rw [if_neg (of_decide_eq_false hb2)] at h
   refine WB_nil (WB_if (WT_eqLS ks_22 ?_))
   refine ite_b (fun hb3 => ?_) (fun hb3 => ?_)
   ·rw [if_pos (of_decide_eq_true hb3)] at h
    exact WB_ret (WE_int h)
   ·rw [if_neg (of_decide_eq_false hb3)] at h
    refine WB_nil (WB_if (cl ?_))
    refine WE_tup (WL_str ks_62 (WL_str ks_26 (WL_str1 ks_25 ?_)))
    refine ⟨by walk_at "my sz", ?_⟩
    refine C_inT rfl ?_
    refine ite_b (fun hb4 => ?_) (fun hb4 => ?_)
    ·rw [if_pos hb4] at h
     exact WB_ret (WE_int h)
    ·rw [if_neg (Bool.eq_false_iff.mp hb4)] at h
     refine WB_nil (WB_if (WT_eqLS ks_23 ?_))
     refine ite_b (fun hb5 => ?_) (fun hb5 => ?_)
     ·rw [if_pos (of_decide_eq_true hb5)] at h
      exact WB_ret (WE_int h)
     ·rw [if_neg (of_decide_eq_false hb5)] at h
      refine WB_nil (WB_if (cl ?_))
      refine WE_tup (WL_str ks_63 (WL_str ks_64 (WL_str ks_65 (WL_str1 ks_66 ?_))))
      refine ⟨by walk_at "my sz", ?_⟩
      refine C_inT rfl ?_
      refine ite_b (fun hb6 => ?_) (fun hb6 => ?_)
      ·rw [if_pos hb6] at h
       exact WB_ret (WE_int h)
      ·rw [if_neg (Bool.eq_false_iff.mp hb6)] at h
       refine WB_nil (WB_if (cl ?_))
       refine WE_tup (WL_str ks_67 (WL_str ks_68 (WL_str ks_69 (WL_str1 ks_70 ?_))))
       refine ⟨by walk_at "my sz", ?_⟩
       refine C_inT rfl ?_
       refine ite_b (fun hb7 => ?_) (fun hb7 => ?_)
       ·rw [if_pos hb7] at h
        exact WB_ret (WE_int h)
       ·rw [if_neg (Bool.eq_false_iff.mp hb7)] at h
        refine WB_nil (WB_if (cl ?_))
        refine WE_tup (WL_str ks_71 (WL_str ks_72 (WL_str ks_73 (WL_str1 ks_74 ?_))))
        refine ⟨by walk_at "my sz", ?_⟩
        refine C_inT rfl ?_
        refine ite_b (fun hb8 => ?_) (fun hb8 => ?_)
        ·rw [if_pos hb8] at h
         exact WB_ret (WE_int h)
        ·rw [if_neg (Bool.eq_false_iff.mp hb8)] at h
         refine WB_nil (WB_if (cl ?_))
         refine WE_tup (WL_str ks_75 (WL_str1 ks_76 ?_))
         refine ⟨by walk_at "my sz", ?_⟩
         refine C_inT rfl ?_
         refine ite_b (fun hb9 => ?_) (fun hb9 => ?_)
         ·rw [if_pos hb9] at h
          exact WB_ret (WE_int h)
         ·rw [if_neg (Bool.eq_false_iff.mp hb9)] at h
          refine WB_nil (WB_if (cl ?_))
          refine WE_tup (WL_str ks_77 (WL_str ks_78 (WL_str1 ks_79 ?_)))
          refine ⟨by walk_at "my sz", ?_⟩
          refine C_inT rfl ?_
          refine ite_b (fun hb10 => ?_) (fun hb10 => ?_)
          ·rw [if_pos hb10] at h
           exact WB_ret (WE_int h)
          ·rw [if_neg (Bool.eq_false_iff.mp hb10)] at h
           refine WB_nil (WB_if (WT_eqLS ks_24 ?_))
           refine ite_b (fun hb11 => ?_) (fun hb11 => ?_)
           ·rw [if_pos (of_decide_eq_true hb11)] at h
            exact WB_ret (WE_int h)
           ·rw [if_neg (of_decide_eq_false hb11)] at h
            exact WB_nil (WB_ret (WE_int h))
theorem is_unary_ok (T : Txt c) {l : List Nat} (h : Q (.bool (isUn l)) σ) : CF c (d + 1) "is_unary" [.str l] σ Q := by
 unfold isUn at h
 refine CF_fn T.OK T.f_is_unary ["op"] _ (show WB _ _ _ _ [("op", _)] _ _ from ?_)
 refine WB_ret (WE_cmp T.OK (lo ?_))
 refine WE_tup (WL_str ks_75 (WL_str ks_76 (WL_str ks_80 (WL_str ks_81 (WL_str ks_23 (WL_str ks_82 (WL_str ks_22 (WL_str ks_83 (WL_str ks_62 (WL_str ks_26 (WL_str1 ks_25 ?_)))))))))))
 refine ⟨by walk_at "my sz", ?_⟩
 refine C_inT rfl ?_
 exact h
theorem plain_operator_ok (T : Txt c) {l : List Nat} (hl : l ≠ [94, 126]) (h : Q (.str l) σ) : CF c (d + 1) "plain_operator" [.str l] σ Q := by
 refine CF_fn T.OK T.f_plain_operator ["op"] _ (show WB _ _ _ _ [("op", _)] _ _ from ?_)
 refine WB_if (WT_eqLS ks_25 ?_)
 refine ite_f (decide_eq_false hl) ?_
 refine WB_nil (WB_ret (lo ?_))
 exact h
end
theorem nameT_len {l : List Nat} (h : isName l) : (nameT l).length ≤ 8 := by
 rcases h with rfl | rfl | rfl | rfl | rfl | rfl <;> decide
structure Kn (P : Rl) (B : Nat) : Prop where
 len : ∀ {v t k r}, P v t k r → t.length ≤ B
 rk : ∀ {v t k r}, P v t k r → r ≤ 13
 tup : ∀ {v t k r}, P v t k r → ∃ vs, v = .tup vs
theorem opd_len {P : Rl} {B m : Nat} (K : Kn P B) {v t k} (h : Opd P m v t k) : t.length ≤ B + 2 ∧ ∃ vs, v = .tup vs := by
 induction h with
 | bare h hr => exact ⟨Nat.le_trans (K.len h) (by walk_at "o"), K.tup h⟩
 | brak h hr => exact ⟨by have := K.len h; simp only [List.length_cons, List.length_append, List.length_nil]; omega, K.tup h⟩
theorem lst_len {P : Rl} {B : Nat} (K : Kn P B) {vs ts ks} (h : LstR P vs ts ks) : ts.length ≤ vs.length * (B + 2) := by
 induction h with
 | one h => have := K.len h; simp only [List.length_cons, List.length_nil]; omega
 | cons h hs ih =>
  have := K.len h
  simp only [List.length_append, List.length_cons, List.length_nil] at *
  rw [Nat.succ_mul]; omega
theorem part_len {P : Rl} {B : Nat} (K : Kn P B) {p t k} (h : PartR P p t k) : t.length ≤ B + 10 := by
 induction h with
 | bare h => have := nameT_len h; omega
 | sub h hv => have := nameT_len h; have := K.len hv; simp only [List.length_append, List.length_cons, List.length_nil]; omega
theorem path_len {P : Rl} {B : Nat} (K : Kn P B) {ps ts ks} (h : PathR P ps ts ks) : ts.length ≤ ps.length * (B + 11) := by
 induction h with
 | last h => have := nameT_len h; simp only [List.length_cons, List.length_nil]; omega
 | cons h hs ih =>
  have := part_len K h
  simp only [List.length_append, List.length_cons, List.length_nil] at *
  rw [Nat.succ_mul]; omega
theorem base_len {P : Rl} {B m : Nat} (K : Kn P B) {v t k} (h : BaseR P m v t k) : t.length ≤ 3 * (B + 11) + m * (B + 2) ∧ ∃ vs, v = .tup vs := by
 induction h with
 | id h => exact ⟨by have := nameT_len h; omega, _, rfl⟩
 | path h hs hl =>
  have h1 := part_len K h
  have h2 := path_len K hs
  refine ⟨?_, _, rfl⟩
  have h3 := Nat.mul_le_mul_right (B + 11) hl
  simp only [List.length_append, List.length_cons, List.length_nil]
  omega
 | @index m b t k v t' k' r h hv ih =>
  have := K.len hv
  refine ⟨?_, _, rfl⟩
  simp only [List.length_append, List.length_cons, List.length_nil]
  have e : (m + 1) * (B + 2) = m * (B + 2) + (B + 2) := Nat.succ_mul _ _
  have := ih.1; omega
theorem leaf_len {v t k} (h : Leaf v t k) : t.length ≤ 200 ∧ ∃ vs, v = .tup vs := by
 induction h with
 | id h => exact ⟨by have := nameT_len h; omega, _, rfl⟩
 | dec h => exact ⟨by have := intText_small _ h; simp only [Bool.and_eq_true, decide_eq_true_eq] at this; omega, _, rfl⟩
 | n8 h => exact ⟨by simp only [List.length_append, bitsT_length, mkS]; split <;> decide, _, rfl⟩
 | n40 h => exact ⟨by simp only [List.length_append, bitsT_length, mkS]; split <;> decide, _, rfl⟩
 | n32 h => exact ⟨by simp only [List.length_append, bitsT_length, mkS]; split <;> decide, _, rfl⟩
 | str h hl => exact ⟨by have := (encs_len _ h).1; simp only [List.length_append, List.length_cons, List.length_nil]; omega, _, rfl⟩
theorem op_len {op : List Nat} (h : op ∈ unOps ∨ op ∈ binOps) : op.length ≤ 3 := by
 rcases h with h | h
 ·exact of_decide_eq_true (List.all_eq_true.mp (show (unOps.all fun o => decide (o.length ≤ 3)) = true by decide) op h)
 ·exact of_decide_eq_true (List.all_eq_true.mp (show (binOps.all fun o => decide (o.length ≤ 3)) = true by decide) op h)
theorem prec_le {op : List Nat} (h : op ∈ binOps) : 1 ≤ prec op ∧ prec op ≤ 11 := by
 have := List.all_eq_true.mp (show (binOps.all fun o => decide (1 ≤ prec o) && decide (prec o ≤ 11)) = true by decide +kernel) op h
 simpa using this
set_option tactic.hygienic true in
theorem node_kn {P : Rl} {B : Nat} (K : Kn P B) : Kn (Node P) (8 * B + 300) := by
 refine ⟨fun {v t k r} h => ?_, fun {v t k r} h => ?_, fun {v t k r} h => ?_⟩
 ·induction h with
  | leaf h => have := (leaf_len h).1; omega
  | @base m _ _ _ h hm => have := (base_len K h).1; have := Nat.mul_le_mul_right (B + 2) hm; omega
  | un ho h => have := (opd_len K h).1; have := op_len (.inl ho); simp only [List.length_append]; omega
  | bin ho hl hr => have := (opd_len K hl).1; have := (opd_len K hr).1; have := op_len (.inr ho); simp only [List.length_append, List.length_cons, List.length_nil]; omega
  | cond ha hb he => have := (opd_len K ha).1; have := (opd_len K hb).1; have := K.len he; simp only [List.length_append, List.length_cons, List.length_nil]; omega
  | cat h hl => have := lst_len K h; have := Nat.mul_le_mul_right (B + 2) hl; simp only [List.length_append, List.length_cons, List.length_nil]; omega
  | rep hn h hl => have := lst_len K h; have := Nat.mul_le_mul_right (B + 2) hl; have := (opd_len K hn).1; simp only [List.length_append, List.length_cons, List.length_nil]; omega
  | call0 hn => have := nameT_len hn; simp only [List.length_append, List.length_cons, List.length_nil]; omega
  | call hn h hl => have := nameT_len hn; have := lst_len K h; have := Nat.mul_le_mul_right (B + 2) hl; simp only [List.length_append, List.length_cons, List.length_nil]; omega
  | sys0 => simp
  | sys h hl => have := lst_len K h; have := Nat.mul_le_mul_right (B + 2) hl; simp only [List.length_append, List.length_cons, List.length_nil]; omega
  | @part m _ _ _ _ _ _ _ _ _ _ _ h hm hi hj => have := (base_len K h).1; have := Nat.mul_le_mul_right (B + 2) hm; have := K.len hi; have := K.len hj; simp only [List.length_append, List.length_cons, List.length_nil]; omega
  | @up m _ _ _ _ _ _ _ _ _ _ _ h hm hi hj => have := (base_len K h).1; have := Nat.mul_le_mul_right (B + 2) hm; have := K.len hi; have := K.len hj; simp only [List.length_append, List.length_cons, List.length_nil]; omega
  | @down m _ _ _ _ _ _ _ _ _ _ _ h hm hi hj => have := (base_len K h).1; have := Nat.mul_le_mul_right (B + 2) hm; have := K.len hi; have := K.len hj; simp only [List.length_append, List.length_cons, List.length_nil]; omega
 ·cases h <;> first | omega | (rename_i h; have := prec_le h; omega) | (rename_i h _ _; have := prec_le h; omega)
 ·induction h with
  | leaf h => exact (leaf_len h).2
  | base h hm => exact (base_len K h).2
  | _ => exact ⟨_, rfl⟩
noncomputable def Lb : Nat → Nat
 | 0 => 0
 | n + 1 => 8 * Lb n + 300
theorem ge_kn : ∀ n, Kn (GE n) (Lb n)
 | 0 => ⟨fun h => h.elim, fun h => h.elim, fun h => h.elim⟩
 | n + 1 => node_kn (ge_kn n)
section
variable {c : Cx} {d : Nat} {σ : Store} {Q : V → Store → Prop}
theorem rank_cond_ok (T : Txt c) {vs : List V} (h : Q (.int 0) σ) : CF c (d + 2) "rank" [.tup (.str [99, 111, 110, 100] :: vs)] σ Q := by
 refine CF_fn T.OK T.f_rank ["e"] _ (show WB _ _ _ _ [("e", _)] _ _ from ?_)
 refine WB_if (WT_cmp T.OK (WE_sub (lo ?_)))
 refine WE_int ?_
 walk_at "my it"
 refine WE_strE ks_29 (.eqS ?_)
 exact ite_t (rfl) (WB_ret (WE_int h))
theorem rank_bin_ok (T : Txt c) {l : List Nat} {a b : V} (h : Q (.int (prec l : Nat)) σ) : CF c (d + 2) "rank" [.tup [.str [98, 105, 110], .int 0, .str l, a, b]] σ Q := by
 refine CF_fn T.OK T.f_rank ["e"] _ (show WB _ _ _ _ [("e", _)] _ _ from ?_)
 refine WB_if (WT_cmp T.OK (WE_sub (lo ?_)))
 refine WE_int ?_
 walk_at "my it"
 refine WE_strE ks_29 (.eqS ?_)
 refine ite_f (rfl) (WB_nil (WB_if (WT_cmp T.OK (WE_sub (lo ?_)))))
 refine WE_int ?_
 walk_at "my it"
 refine WE_strE ks_30 (.eqS ?_)
 refine ite_t (rfl) (WB_ret (ca ?_))
 refine WL_cons (WE_sub (lo ?_))
 refine WE_int ?_
 walk_at "my it"
 refine WL_nil (precedence_ok T ?_)
 exact h
theorem rank_un_ok (T : Txt c) {vs : List V} (h : Q (.int 12) σ) : CF c (d + 2) "rank" [.tup (.str [117, 110] :: vs)] σ Q := by
 refine CF_fn T.OK T.f_rank ["e"] _ (show WB _ _ _ _ [("e", _)] _ _ from ?_)
 refine WB_if (WT_cmp T.OK (WE_sub (lo ?_)))
 refine WE_int ?_
 walk_at "my it"
 refine WE_strE ks_29 (.eqS ?_)
 refine ite_f (rfl) (WB_nil (WB_if (WT_cmp T.OK (WE_sub (lo ?_)))))
 refine WE_int ?_
 walk_at "my it"
 refine WE_strE ks_30 (.eqS ?_)
 refine ite_f (rfl) (WB_nil (WB_if (WT_cmp T.OK (WE_sub (lo ?_)))))
 refine WE_int ?_
 walk_at "my it"
 refine WE_strE ks_31 (.eqS ?_)
 exact ite_t (rfl) (WB_ret (WE_int h))
theorem rank_oth_ok (T : Txt c) {k : List Nat} {vs : List V} (h1 : k ≠ [99, 111, 110, 100]) (h2 : k ≠ [98, 105, 110]) (h3 : k ≠ [117, 110]) (h : Q (.int 13) σ) : CF c (d + 2) "rank" [.tup (.str k :: vs)] σ Q := by
 refine CF_fn T.OK T.f_rank ["e"] _ (show WB _ _ _ _ [("e", _)] _ _ from ?_)
 refine WB_if (WT_cmp T.OK (WE_sub (lo ?_)))
 refine WE_int ?_
 walk_at "my it"
 refine WE_strE ks_29 (.eqS ?_)
 refine ite_f (decide_eq_false h1) ?_
 refine WB_nil (WB_if (WT_cmp T.OK (WE_sub (lo ?_))))
 refine WE_int ?_
 walk_at "my it"
 refine WE_strE ks_30 (.eqS ?_)
 refine ite_f (decide_eq_false h2) ?_
 refine WB_nil (WB_if (WT_cmp T.OK (WE_sub (lo ?_))))
 refine WE_int ?_
 walk_at "my it"
 refine WE_strE ks_31 (.eqS ?_)
 refine ite_f (decide_eq_false h3) ?_
 exact WB_nil (WB_ret (WE_int h))
theorem rank_ok (T : Txt c) {P : Rl} {v : V} {t : List Nat} {k : List Tk} {r : Nat} (hn : Node P v t k r) (h : Q (.int r) σ) : CF c (d + 2) "rank" [v] σ Q := by
 induction hn with
 | leaf hl => cases hl <;> exact rank_oth_ok T (by decide) (by decide) (by decide) h
 | base hb hm => cases hb <;> exact rank_oth_ok T (by decide) (by decide) (by decide) h
 | un => exact rank_un_ok T h
 | bin => exact rank_bin_ok T h
 | cond => exact rank_cond_ok T h
 | _ => exact rank_oth_ok T (by decide) (by decide) (by decide) h
end
structure Pr (c : Cx) (D : Nat) (P : Rl) (B : Nat) : Prop where
 kn : Kn P B
 bd : B ≤ 400000
 dp : 20 ≤ D
 txt : ∀ {v t k r}, P v t k r → ∀ {σ : Store} {Q : V → Store → Prop}, Q (.str t) σ → CF c D "expr_text" [v] σ Q
 rk : ∀ {v t k r}, P v t k r → ∀ {σ : Store} {Q : V → Store → Prop}, Q (.int (r : Nat)) σ → CF c D "rank" [v] σ Q
inductive Txs (P : Rl) : List V → List (List Nat) → Prop where
 | nil : Txs P [] []
 | cons {v t k r vs ts} (h : P v t k r) (hs : Txs P vs ts) : Txs P (v :: vs) (t :: ts)
theorem lst_txs {P : Rl} {vs : List V} {ts : List Nat} {ks : List Tk} (h : LstR P vs ts ks) : ∃ tl, Txs P vs tl ∧ joinL [44, 32] tl = ts ∧ tl ≠ [] := by
 induction h with
 | one h => exact ⟨[_], .cons h .nil, rfl, by simp⟩
 | cons h hs ih =>
  obtain ⟨tl, h1, h2, h3⟩ := ih
  cases tl with
  | nil => exact absurd rfl h3
  | cons a b => exact ⟨_ :: a :: b, .cons h h1, by rw [← h2]; rfl, by simp⟩
theorem txs_len {P : Rl} {B : Nat} (K : Kn P B) {vs : List V} {tl : List (List Nat)} (h : Txs P vs tl) : tl.length = vs.length ∧ (tl.map (·.length)).sum ≤ vs.length * B := by
 induction h with
 | nil => exact ⟨rfl, Nat.zero_le _⟩
 | cons h hs ih =>
  have := K.len h
  have e : ∀ n : Nat, (n + 1) * B = n * B + B := fun n => Nat.succ_mul n B
  simp only [List.length_cons, List.map_cons, List.sum_cons] at *
  have := e
  rw [e]
  exact ⟨by walk_at "o", by walk_at "o"⟩
inductive Pxs (P : Rl) : List V → List (List Nat) → Prop where
 | nil : Pxs P [] []
 | cons {v t k vs ts} (h : PartR P v t k) (hs : Pxs P vs ts) : Pxs P (v :: vs) (t :: ts)
theorem path_pxs {P : Rl} {ps : List V} {ts : List Nat} {ks : List Tk} (h : PathR P ps ts ks) : ∃ tl, Pxs P ps tl ∧ joinL [46] tl = ts ∧ tl ≠ [] := by
 induction h with
 | last h => exact ⟨[_], .cons (.bare h) .nil, rfl, by simp⟩
 | cons h hs ih =>
  obtain ⟨tl, h1, h2, h3⟩ := ih
  cases tl with
  | nil => exact absurd rfl h3
  | cons a b => exact ⟨_ :: a :: b, .cons h h1, by rw [← h2]; rfl, by simp⟩
theorem pxs_len {P : Rl} {B : Nat} (K : Kn P B) {vs : List V} {tl : List (List Nat)} (h : Pxs P vs tl) : tl.length = vs.length ∧ (tl.map (·.length)).sum ≤ vs.length * (B + 10) := by
 induction h with
 | nil => exact ⟨rfl, Nat.zero_le _⟩
 | cons h hs ih =>
  have := part_len K h
  have e : ∀ n : Nat, (n + 1) * (B + 10) = n * (B + 10) + (B + 10) := fun n => Nat.succ_mul n (B + 10)
  simp only [List.length_cons, List.map_cons, List.sum_cons] at *
  rw [e]
  exact ⟨by walk_at "o", by walk_at "o"⟩
section
variable {c : Cx} {d D B : Nat} {σ : Store} {Q : V → Store → Prop} {P : Rl}
theorem operand1_ok (T : Txt c) (R : Pr c D P B) {m : Nat} {v : V} {t : List Nat} {k : List Tk} {r : Nat} (hv : P v t k r) (hr : r < m) (h : Q (.str (40 :: (t ++ [41]))) σ) : CF c (D + 1) "operand_text" [v, .int m] σ Q := by
 have hb := R.bd
 have hl := R.kn.len hv
 refine CF_fn T.OK T.f_operand_text ["e", "least"] _ (show WB _ _ _ _ [("e", _), ("least", _)] _ _ from ?_)
 refine WB_if (WT_cmp T.OK (ca ?_))
 refine lz ?_
 refine R.rk hv ?_
 refine lo ?_
 refine .ltI ?_
 refine ite_t (decide_eq_true (by walk_at "o")) ?_
 refine WB_ret (WE_bin (WE_bin (WE_strE ks_84 (ca ?_))))
 refine lz ?_
 refine R.txt hv ?_
 refine P_addS (by rw [sizeLine_eq]; simp only [List.length_append, List.length_cons, List.length_nil]; omega) ?_
 refine WE_strE ks_89 ?_
 refine P_addS (by rw [sizeLine_eq]; simp only [List.length_append, List.length_cons, List.length_nil]; omega) ?_
 exact h
theorem operand0_ok (T : Txt c) (R : Pr c D P B) {m : Nat} {v : V} {t : List Nat} {k : List Tk} {r : Nat} (hv : P v t k r) (hr : m ≤ r) (h : Q (.str t) σ) : CF c (D + 1) "operand_text" [v, .int m] σ Q := by
 refine CF_fn T.OK T.f_operand_text ["e", "least"] _ (show WB _ _ _ _ [("e", _), ("least", _)] _ _ from ?_)
 refine WB_if (WT_cmp T.OK (ca ?_))
 refine lz ?_
 refine R.rk hv ?_
 refine lo ?_
 refine .ltI ?_
 refine ite_f (decide_eq_false (by walk_at "o")) ?_
 refine WB_nil (WB_ret (ca ?_))
 refine lz ?_
 refine R.txt hv ?_
 exact h
theorem operand_ok (T : Txt c) (R : Pr c D P B) {m : Nat} {v : V} {t : List Nat} {k : List Tk} (hv : Opd P m v t k) (h : Q (.str t) σ) : CF c (D + 1) "operand_text" [v, .int m] σ Q := by
 cases hv with
 | bare hv hr => exact operand0_ok T R hv hr h
 | brak hv hr => exact operand1_ok T R hv hr h
theorem list_text_ok (T : Txt c) (R : Pr c D P B) {vs : List V} {tl : List (List Nat)} (hx0 : Txs P vs tl) (hz : vs.length ≤ 3) (h : Q (.str (joinL [44, 32] tl)) σ) : CF c (D + 1) "list_text" [.tup vs] σ Q := by
 refine CF.pure ?_
 have hlen := txs_len R.kn hx0
 refine CF_fn T.OK T.f_list_text ["items"] _ (show WB _ _ _ _ [("items", _)] _ _ from ?_)
 refine WB_name (WE_lst (WL_nil ?_))
 refine ⟨by walk_at "my sz", ?_⟩
 intro A_1 h_1
 refine WB_cons (WS_for ?_ (fun _ _ => rfl))
 refine lo ?_
 refine H_tup ?_
 refine WF.post [("texts", .lst A_1)] (σ.set A_1 (.list ([] ++ tl.map V.str))) ?_ ?_
 ·have key : ∀ (vs : List V) (tl : List (List Nat)) (acc : List V), Txs P vs tl → acc.length + vs.length ≤ 1000 → WF c D (fnScope (top 41)) (wI (nth (fnBody (top 41)) 1)) (wB (nth (fnBody (top 41)) 1)) [] vs [("texts", .lst A_1)] (σ.set A_1 (.list acc)) (fun fl ρ' σ' => fl = .next ∧ subL [("texts", .lst A_1)] ρ' ∧ σ' = σ.set A_1 (.list (acc ++ tl.map V.str))) := by
   intro vs tl acc hx
   clear h hx0 hlen
   induction hx generalizing acc with
   | nil =>
    intro hz
    refine WF_nil ?_
    refine WB_nil ?_
    exact ⟨rfl, by walk_at "my sub", by simp⟩
   | @cons v t k r vs tl hv hs ih =>
    intro hz
    simp only [List.length_cons] at hz
    obtain ⟨us, rfl⟩ := R.kn.tup hv
    refine WF_cons ?_
    refine G_name (by decide +kernel) (WB_expr (WE_meth T.OK (lo ?_)))
    refine ⟨_, GM_lst (by walk_at "my st") slot_list_append type_list_append, ?_⟩
    refine WL_cons (WE_if ?_)
    refine cl ?_
    refine WE_none ?_
    (refine C_is (by intro _ z; cases z) ?_)
    refine ite_f (rfl) (ca ?_)
    refine lz ?_
    refine R.txt hv ?_
    refine WL_nil ?_
    refine CV_append (Store.set_self _ _ _) (by rw [sizeLine_eq]; omega) ?_
    refine WB_nil (L_next (WF.ss ?_))
    have := ih (acc ++ [.str t]) (by simp only [List.length_append, List.length_cons, List.length_nil]; omega)
    rw [List.append_assoc] at this
    exact WF.weak this (by walk_at "my sub")
  exact WF.weak (key _ _ [] hx0 (by simp only [List.length_nil]; omega)) (by walk_at "my sub")
 ·skip
  refine WB_ret (WE_meth T.OK (WE_strE ks_91 ?_))
  refine ⟨_, GM_str F.slot_str_join F.type_str_join, ?_⟩
  refine lz ?_
  refine CV_join (Store.set_self _ _ _) (ls := tl) (by rw [List.nil_append]; exact strsOf_map _) (by have hb := R.bd; have := hlen; have h1 := this.1; have h2 := this.2; have h3 := Nat.mul_le_mul_right B hz; simp only [List.length_cons, List.length_nil] at *; omega) ?_
  refine N_ret (R_ret ?_)
  refine ⟨Keep.set1 h_1, ?_⟩
  exact h
end
theorem joinL_len (sep : List Nat) : ∀ ls : List (List Nat), (joinL sep ls).length ≤ (ls.map (·.length)).sum + ls.length * sep.length
 | [] => Nat.zero_le _
 | [x] => by simp [joinL]
 | x :: y :: r => by
  have := joinL_len sep (y :: r)
  show (x ++ sep ++ joinL sep (y :: r)).length ≤ _
  have e : (r.length + 1 + 1) * sep.length = (r.length + 1) * sep.length + sep.length := Nat.succ_mul _ _
  simp only [List.length_append, List.map_cons, List.sum_cons, List.length_cons] at *
  omega
theorem CF.up {c : Cx} {d e : Nat} {x : Str} {us : List V} {σ : Store} {Q : V → Store → Prop} (h : CF c d x us σ Q) (hd : d ≤ e) : CF c e x us σ Q := h.mono hd fun _ _ q => q
section
variable {c : Cx} {d D B : Nat} {σ : Store} {Q : V → Store → Prop} {P : Rl}
theorem path_text_ok (T : Txt c) (R : Pr c D P B) {vs : List V} {tl : List (List Nat)} (hx0 : Pxs P vs tl) (hz : vs.length ≤ 3) (h : Q (.str (joinL [46] tl)) σ) : CF c (D + 1) "path_text" [.tup vs] σ Q := by
 refine CF.pure ?_
 have hlen := pxs_len R.kn hx0
 refine CF_fn T.OK T.f_path_text ["parts"] _ (show WB _ _ _ _ [("parts", _)] _ _ from ?_)
 refine WB_name (WE_lst (WL_nil ?_))
 refine ⟨by walk_at "my sz", ?_⟩
 intro A_1 h_1
 refine WB_cons (WS_for ?_ (fun _ _ => rfl))
 refine lo ?_
 refine H_tup ?_
 refine WF.post [("texts", .lst A_1)] (σ.set A_1 (.list ([] ++ tl.map V.str))) ?_ ?_
 ·have key : ∀ (vs : List V) (tl : List (List Nat)) (acc : List V), Pxs P vs tl → acc.length + vs.length ≤ 1000 → WF c D (fnScope (top 42)) (wI (nth (fnBody (top 42)) 1)) (wB (nth (fnBody (top 42)) 1)) [] vs [("texts", .lst A_1)] (σ.set A_1 (.list acc)) (fun fl ρ' σ' => fl = .next ∧ subL [("texts", .lst A_1)] ρ' ∧ σ' = σ.set A_1 (.list (acc ++ tl.map V.str))) := by
   intro vs tl acc hx
   clear h hx0 hlen
   induction hx generalizing acc with
   | nil =>
    intro hz
    refine WF_nil ?_
    refine WB_nil ?_
    exact ⟨rfl, by walk_at "my sub", by simp⟩
   | @cons p t k vs tl hp hs ih =>
    intro hz
    simp only [List.length_cons] at hz
    cases hp with
    | @bare ln hn =>
     refine WF_cons ?_
     refine G_tup2 (by decide +kernel) ?_
     refine WB_name (ca ?_)
     refine lz ?_
     refine CF.up (id_text_ok (d := 0) T hn ?_) (by have := R.dp; omega)
     refine WB_if (cl ?_)
     refine WE_none ?_
     (refine C_isn (by intro _ z; cases z) ?_)
     refine ite_f (rfl) (WB_nil (WB_expr (WE_meth T.OK (lo ?_))))
     refine ⟨_, GM_lst (by walk_at "my st") slot_list_append type_list_append, ?_⟩
     refine lz ?_
     refine CV_append (Store.set_self _ _ _) (by rw [sizeLine_eq]; omega) ?_
     refine WB_nil (L_next (WF.ss ?_))
     have := ih (acc ++ [.str (nameT ln)]) (by simp only [List.length_append, List.length_cons, List.length_nil]; omega)
     rw [List.append_assoc acc] at this
     exact WF.weak this (by walk_at "my sub")
    | @sub ln v t k r hn hv =>
     obtain ⟨us, rfl⟩ := R.kn.tup hv
     have hb := R.bd
     have hl1 := nameT_len hn
     have hl2 := R.kn.len hv
     refine WF_cons ?_
     refine G_tup2 (by decide +kernel) ?_
     refine WB_name (ca ?_)
     refine lz ?_
     refine CF.up (id_text_ok (d := 0) T hn ?_) (by have := R.dp; omega)
     refine WB_if (cl ?_)
     refine WE_none ?_
     (refine C_isn (by intro _ z; cases z) ?_)
     refine ite_t (rfl) (WB_name (WE_bin (WE_bin (bl ?_))))
     refine WE_strE ks_34 ?_
     refine P_addS (by rw [sizeLine_eq]; first | omega | (simp only [List.length_append, List.length_cons, List.length_nil]; omega)) ?_
     refine ca ?_
     refine lz ?_
     refine R.txt hv ?_
     refine P_addS (by rw [sizeLine_eq]; first | omega | (simp only [List.length_append, List.length_cons, List.length_nil]; omega)) ?_
     refine WE_strE ks_35 ?_
     refine P_addS (by rw [sizeLine_eq]; first | omega | (simp only [List.length_append, List.length_cons, List.length_nil]; omega)) ?_
     refine WB_nil (WB_expr (WE_meth T.OK (lo ?_)))
     refine ⟨_, GM_lst (by walk_at "my st") slot_list_append type_list_append, ?_⟩
     refine lz ?_
     refine CV_append (Store.set_self _ _ _) (by rw [sizeLine_eq]; omega) ?_
     refine WB_nil (L_next (WF.ss ?_))
     have := ih (acc ++ [.str (nameT ln ++ [91] ++ t ++ [93])]) (by simp only [List.length_append, List.length_cons, List.length_nil]; omega)
     rw [List.append_assoc acc] at this
     exact WF.weak this (by walk_at "my sub")
  exact WF.weak (key _ _ [] hx0 (by simp only [List.length_nil]; omega)) (by walk_at "my sub")
 ·skip
  refine WB_ret (WE_meth T.OK (WE_strE ks_53 ?_))
  refine ⟨_, GM_str F.slot_str_join F.type_str_join, ?_⟩
  refine lz ?_
  refine CV_join (Store.set_self _ _ _) (ls := tl) (by rw [List.nil_append]; exact strsOf_map _) (by have hb := R.bd; have := hlen; have h1 := this.1; have h2 := this.2; have h3 := Nat.mul_le_mul_right (B + 10) hz; simp only [List.length_cons, List.length_nil] at *; omega) ?_
  refine N_ret (R_ret ?_)
  refine ⟨Keep.set1 h_1, ?_⟩
  exact h
theorem select_index_ok (T : Txt c) (R : Pr c D P B) (hD : D ≤ d) {b : V} {tb : List Nat} (hb : ∀ {σ : Store} {Q : V → Store → Prop}, Q (.str tb) σ → CF c d "expr_text" [b] σ Q) (hlb : tb.length ≤ 5000000) {i : V} {ti : List Nat} {ki : List Tk} {ri : Nat} (hi : P i ti ki ri) (h : Q (.str (tb ++ [91] ++ ti ++ [93])) σ) : CF c (d + 1) "select_text" [.tup [.str [105, 110, 100, 101, 120], .int 0, b, i]] σ Q := by
 have hbd := R.bd
 have hl1 := R.kn.len hi
 refine CF_fn T.OK T.f_select_text ["e"] _ (show WB _ _ _ _ [("e", _)] _ _ from ?_)
 refine WB_name (ca ?_)
 refine WL_cons (su ?_)
 refine WL_nil (hb ?_)
 refine WB_if (WT_cmp T.OK (su ?_))
 refine WE_strE ks_27 (.eqS ?_)
 refine ite_t (rfl) (WB_ret (WE_join ?_))
 refine WJ_cons (WE_fmt (lo ?_))
 refine F_str (by rw [sizeLine_eq]; first | omega | (simp only [List.length_cons, List.length_nil, List.length_append]; omega)) ?_
 refine S_str ⟨by rw [sizeLine_eq]; simp only [List.length_append, List.length_cons, List.length_nil]; omega, ?_⟩
 refine WJ_cons (WE_strE ks_34 ?_)
 refine S_str ⟨by rw [sizeLine_eq]; simp only [List.length_append, List.length_cons, List.length_nil]; omega, ?_⟩
 refine WJ_cons (WE_fmt (ca ?_))
 refine WL_cons (su ?_)
 refine WL_nil (CF.up (R.txt hi ?_) hD)
 refine F_str (by rw [sizeLine_eq]; first | omega | (simp only [List.length_cons, List.length_nil, List.length_append]; omega)) ?_
 refine S_str ⟨by rw [sizeLine_eq]; simp only [List.length_append, List.length_cons, List.length_nil]; omega, ?_⟩
 refine WJ_cons (WE_strE ks_35 ?_)
 refine S_str ⟨by rw [sizeLine_eq]; simp only [List.length_append, List.length_cons, List.length_nil]; omega, ?_⟩
 refine WJ_nil ?_ (by rw [sizeLine_eq]; first | omega | (simp only [List.length_append, List.length_cons, List.length_nil]; omega))
 exact h
theorem select_part_ok (T : Txt c) (R : Pr c D P B) (hD : D ≤ d) {b : V} {tb : List Nat} (hb : ∀ {σ : Store} {Q : V → Store → Prop}, Q (.str tb) σ → CF c d "expr_text" [b] σ Q) (hlb : tb.length ≤ 5000000) {i : V} {ti : List Nat} {ki : List Tk} {ri : Nat} (hi : P i ti ki ri) {j : V} {tj : List Nat} {kj : List Tk} {rj : Nat} (hj : P j tj kj rj) (h : Q (.str (tb ++ [91] ++ ti ++ [58] ++ tj ++ [93])) σ) : CF c (d + 1) "select_text" [.tup [.str [112, 97, 114, 116], .int 0, b, i, j]] σ Q := by
 have hbd := R.bd
 have hl1 := R.kn.len hi
 have hl2 := R.kn.len hj
 refine CF_fn T.OK T.f_select_text ["e"] _ (show WB _ _ _ _ [("e", _)] _ _ from ?_)
 refine WB_name (ca ?_)
 refine WL_cons (su ?_)
 refine WL_nil (hb ?_)
 refine WB_if (WT_cmp T.OK (su ?_))
 refine WE_strE ks_27 (.eqS ?_)
 refine ite_f (rfl) (WB_nil (WB_name (WE_strE ks_11 (WB_if (WT_cmp T.OK (su ?_))))))
 refine WE_strE ks_32 (.eqS ?_)
 refine ite_f (rfl) (WB_if (WT_cmp T.OK (su ?_)))
 refine WE_strE ks_92 (.eqS ?_)
 refine ite_f (rfl) (WB_nil (WB_nil (WB_ret (WE_join ?_))))
 refine WJ_cons (WE_fmt (lo ?_))
 refine F_str (by rw [sizeLine_eq]; first | omega | (simp only [List.length_cons, List.length_nil, List.length_append]; omega)) ?_
 refine S_str ⟨by rw [sizeLine_eq]; simp only [List.length_append, List.length_cons, List.length_nil]; omega, ?_⟩
 refine WJ_cons (WE_strE ks_34 ?_)
 refine S_str ⟨by rw [sizeLine_eq]; simp only [List.length_append, List.length_cons, List.length_nil]; omega, ?_⟩
 refine WJ_cons (WE_fmt (ca ?_))
 refine WL_cons (su ?_)
 refine WL_nil (CF.up (R.txt hi ?_) hD)
 refine F_str (by rw [sizeLine_eq]; first | omega | (simp only [List.length_cons, List.length_nil, List.length_append]; omega)) ?_
 refine S_str ⟨by rw [sizeLine_eq]; simp only [List.length_append, List.length_cons, List.length_nil]; omega, ?_⟩
 refine WJ_cons (WE_fmt (lo ?_))
 refine F_str (by rw [sizeLine_eq]; first | omega | (simp only [List.length_cons, List.length_nil, List.length_append]; omega)) ?_
 refine S_str ⟨by rw [sizeLine_eq]; simp only [List.length_append, List.length_cons, List.length_nil]; omega, ?_⟩
 refine WJ_cons (WE_fmt (ca ?_))
 refine WL_cons (su ?_)
 refine WL_nil (CF.up (R.txt hj ?_) hD)
 refine F_str (by rw [sizeLine_eq]; first | omega | (simp only [List.length_cons, List.length_nil, List.length_append]; omega)) ?_
 refine S_str ⟨by rw [sizeLine_eq]; simp only [List.length_append, List.length_cons, List.length_nil]; omega, ?_⟩
 refine WJ_cons (WE_strE ks_35 ?_)
 refine S_str ⟨by rw [sizeLine_eq]; simp only [List.length_append, List.length_cons, List.length_nil]; omega, ?_⟩
 refine WJ_nil ?_ (by rw [sizeLine_eq]; first | omega | (simp only [List.length_append, List.length_cons, List.length_nil]; omega))
 exact h
theorem select_up_ok (T : Txt c) (R : Pr c D P B) (hD : D ≤ d) {b : V} {tb : List Nat} (hb : ∀ {σ : Store} {Q : V → Store → Prop}, Q (.str tb) σ → CF c d "expr_text" [b] σ Q) (hlb : tb.length ≤ 5000000) {i : V} {ti : List Nat} {ki : List Tk} {ri : Nat} (hi : P i ti ki ri) {j : V} {tj : List Nat} {kj : List Tk} {rj : Nat} (hj : P j tj kj rj) (h : Q (.str (tb ++ [91] ++ ti ++ [32, 43, 58, 32] ++ tj ++ [93])) σ) : CF c (d + 1) "select_text" [.tup [.str [117, 112], .int 0, b, i, j]] σ Q := by
 have hbd := R.bd
 have hl1 := R.kn.len hi
 have hl2 := R.kn.len hj
 refine CF_fn T.OK T.f_select_text ["e"] _ (show WB _ _ _ _ [("e", _)] _ _ from ?_)
 refine WB_name (ca ?_)
 refine WL_cons (su ?_)
 refine WL_nil (hb ?_)
 refine WB_if (WT_cmp T.OK (su ?_))
 refine WE_strE ks_27 (.eqS ?_)
 refine ite_f (rfl) (WB_nil (WB_name (WE_strE ks_11 (WB_if (WT_cmp T.OK (su ?_))))))
 refine WE_strE ks_32 (.eqS ?_)
 refine ite_t (rfl) (WB_name (WE_strE ks_33 (WB_nil (WB_ret (WE_join ?_)))))
 refine WJ_cons (WE_fmt (lo ?_))
 refine F_str (by rw [sizeLine_eq]; first | omega | (simp only [List.length_cons, List.length_nil, List.length_append]; omega)) ?_
 refine S_str ⟨by rw [sizeLine_eq]; simp only [List.length_append, List.length_cons, List.length_nil]; omega, ?_⟩
 refine WJ_cons (WE_strE ks_34 ?_)
 refine S_str ⟨by rw [sizeLine_eq]; simp only [List.length_append, List.length_cons, List.length_nil]; omega, ?_⟩
 refine WJ_cons (WE_fmt (ca ?_))
 refine WL_cons (su ?_)
 refine WL_nil (CF.up (R.txt hi ?_) hD)
 refine F_str (by rw [sizeLine_eq]; first | omega | (simp only [List.length_cons, List.length_nil, List.length_append]; omega)) ?_
 refine S_str ⟨by rw [sizeLine_eq]; simp only [List.length_append, List.length_cons, List.length_nil]; omega, ?_⟩
 refine WJ_cons (WE_fmt (lo ?_))
 refine F_str (by rw [sizeLine_eq]; first | omega | (simp only [List.length_cons, List.length_nil, List.length_append]; omega)) ?_
 refine S_str ⟨by rw [sizeLine_eq]; simp only [List.length_append, List.length_cons, List.length_nil]; omega, ?_⟩
 refine WJ_cons (WE_fmt (ca ?_))
 refine WL_cons (su ?_)
 refine WL_nil (CF.up (R.txt hj ?_) hD)
 refine F_str (by rw [sizeLine_eq]; first | omega | (simp only [List.length_cons, List.length_nil, List.length_append]; omega)) ?_
 refine S_str ⟨by rw [sizeLine_eq]; simp only [List.length_append, List.length_cons, List.length_nil]; omega, ?_⟩
 refine WJ_cons (WE_strE ks_35 ?_)
 refine S_str ⟨by rw [sizeLine_eq]; simp only [List.length_append, List.length_cons, List.length_nil]; omega, ?_⟩
 refine WJ_nil ?_ (by rw [sizeLine_eq]; first | omega | (simp only [List.length_append, List.length_cons, List.length_nil]; omega))
 exact h
theorem select_down_ok (T : Txt c) (R : Pr c D P B) (hD : D ≤ d) {b : V} {tb : List Nat} (hb : ∀ {σ : Store} {Q : V → Store → Prop}, Q (.str tb) σ → CF c d "expr_text" [b] σ Q) (hlb : tb.length ≤ 5000000) {i : V} {ti : List Nat} {ki : List Tk} {ri : Nat} (hi : P i ti ki ri) {j : V} {tj : List Nat} {kj : List Tk} {rj : Nat} (hj : P j tj kj rj) (h : Q (.str (tb ++ [91] ++ ti ++ [32, 45, 58, 32] ++ tj ++ [93])) σ) : CF c (d + 1) "select_text" [.tup [.str [100, 111, 119, 110], .int 0, b, i, j]] σ Q := by
 have hbd := R.bd
 have hl1 := R.kn.len hi
 have hl2 := R.kn.len hj
 refine CF_fn T.OK T.f_select_text ["e"] _ (show WB _ _ _ _ [("e", _)] _ _ from ?_)
 refine WB_name (ca ?_)
 refine WL_cons (su ?_)
 refine WL_nil (hb ?_)
 refine WB_if (WT_cmp T.OK (su ?_))
 refine WE_strE ks_27 (.eqS ?_)
 refine ite_f (rfl) (WB_nil (WB_name (WE_strE ks_11 (WB_if (WT_cmp T.OK (su ?_))))))
 refine WE_strE ks_32 (.eqS ?_)
 refine ite_f (rfl) (WB_if (WT_cmp T.OK (su ?_)))
 refine WE_strE ks_92 (.eqS ?_)
 refine ite_t (rfl) (WB_name (WE_strE ks_93 (WB_nil (WB_nil (WB_ret (WE_join ?_))))))
 refine WJ_cons (WE_fmt (lo ?_))
 refine F_str (by rw [sizeLine_eq]; first | omega | (simp only [List.length_cons, List.length_nil, List.length_append]; omega)) ?_
 refine S_str ⟨by rw [sizeLine_eq]; simp only [List.length_append, List.length_cons, List.length_nil]; omega, ?_⟩
 refine WJ_cons (WE_strE ks_34 ?_)
 refine S_str ⟨by rw [sizeLine_eq]; simp only [List.length_append, List.length_cons, List.length_nil]; omega, ?_⟩
 refine WJ_cons (WE_fmt (ca ?_))
 refine WL_cons (su ?_)
 refine WL_nil (CF.up (R.txt hi ?_) hD)
 refine F_str (by rw [sizeLine_eq]; first | omega | (simp only [List.length_cons, List.length_nil, List.length_append]; omega)) ?_
 refine S_str ⟨by rw [sizeLine_eq]; simp only [List.length_append, List.length_cons, List.length_nil]; omega, ?_⟩
 refine WJ_cons (WE_fmt (lo ?_))
 refine F_str (by rw [sizeLine_eq]; first | omega | (simp only [List.length_cons, List.length_nil, List.length_append]; omega)) ?_
 refine S_str ⟨by rw [sizeLine_eq]; simp only [List.length_append, List.length_cons, List.length_nil]; omega, ?_⟩
 refine WJ_cons (WE_fmt (ca ?_))
 refine WL_cons (su ?_)
 refine WL_nil (CF.up (R.txt hj ?_) hD)
 refine F_str (by rw [sizeLine_eq]; first | omega | (simp only [List.length_cons, List.length_nil, List.length_append]; omega)) ?_
 refine S_str ⟨by rw [sizeLine_eq]; simp only [List.length_append, List.length_cons, List.length_nil]; omega, ?_⟩
 refine WJ_cons (WE_strE ks_35 ?_)
 refine S_str ⟨by rw [sizeLine_eq]; simp only [List.length_append, List.length_cons, List.length_nil]; omega, ?_⟩
 refine WJ_nil ?_ (by rw [sizeLine_eq]; first | omega | (simp only [List.length_append, List.length_cons, List.length_nil]; omega))
 exact h
theorem ex_id_ok (T : Txt c) {l : List Nat} (hn : isName l) (hd : 3 ≤ d) (h : Q (.str (nameT l)) σ) : CF c (d + 1) "expr_text" [.tup [.str [105, 100], .int 0, .str l]] σ Q := by
 refine CF_fn T.OK T.f_expr_text ["e"] _ (show WB _ _ _ _ [("e", _)] _ _ from ?_)
 refine WB_name (su ?_)
 refine WB_if (WT_eqLS ks_36 ?_)
 refine ite_f (rfl) (WB_nil (WB_if (WT_eqLS ks_37 ?_)))
 refine ite_f (rfl) (WB_nil (WB_if (WT_eqLS ks_38 ?_)))
 refine ite_t (rfl) (WB_ret (ca ?_))
 refine WL_cons (su ?_)
 refine WL_nil (CF.up (id_text_ok (d := 0) T hn ?_) (by walk_at "o"))
 exact h
theorem ex_str_ok (T : Txt c) {l : List Nat} (hl : ∀ x ∈ l, okCh x) (hz : l.length ≤ 30) (hd : 1 ≤ d) (h : Q (.str (34 :: (encs (l.map pcOf) ++ [34]))) σ) : CF c (d + 1) "expr_text" [.tup [.str [115, 116, 114], .int 0, .str l]] σ Q := by
 refine CF_fn T.OK T.f_expr_text ["e"] _ (show WB _ _ _ _ [("e", _)] _ _ from ?_)
 refine WB_name (su ?_)
 refine WB_if (WT_eqLS ks_36 ?_)
 refine ite_f (rfl) (WB_nil (WB_if (WT_eqLS ks_37 ?_)))
 refine ite_t (rfl) (WB_ret (ca ?_))
 refine WL_cons (su ?_)
 refine WL_nil (CF.up (string_literal_ok (d := 0) T hl (by walk_at "o") ?_) (by walk_at "o"))
 exact h
theorem ex_num_ok (T : Txt c) {n a b : V} {e : Nat} (hd : e ≤ d) (hn : CF c e "numeral_text" [n, a, b] σ Q) : CF c (d + 1) "expr_text" [.tup [.str [110, 117, 109], .int 0, n, a, b]] σ Q := by
 refine CF_fn T.OK T.f_expr_text ["e"] _ (show WB _ _ _ _ [("e", _)] _ _ from ?_)
 refine WB_name (su ?_)
 refine WB_if (WT_eqLS ks_36 ?_)
 refine ite_t (rfl) (WB_ret (ca ?_))
 refine WL_cons (su ?_)
 refine WL_cons (su ?_)
 refine WL_cons (su ?_)
 refine WL_nil (CF.mono hn hd fun v σ' q => ?_)
 exact q
theorem leaf_ok (T : Txt c) {v : V} {t : List Nat} {k : List Tk} (hl : Leaf v t k) (hd : 10 ≤ d) (h : Q (.str t) σ) : CF c (d + 1) "expr_text" [v] σ Q := by
 induction hl with
 | id hn => exact ex_id_ok T hn (by walk_at "o") h
 | dec ha => exact ex_num_ok T (e := 3) (by walk_at "o") (nt_dec_ok (d := 0) T ha h)
 | @n8 a b sg hab =>
  cases sg with
  | true => exact ex_num_ok T (e := 3) (by walk_at "o") (nt_8s_ok (d := 0) T h)
  | false => exact ex_num_ok T (e := 3) (by walk_at "o") (nt_8u_ok (d := 0) T h)
 | @n40 a b sg hab =>
  cases sg with
  | true => exact ex_num_ok T (e := 3) (by walk_at "o") (nt_40s_ok (d := 0) T h)
  | false => exact ex_num_ok T (e := 3) (by walk_at "o") (nt_40u_ok (d := 0) T h)
 | @n32 a sg hab =>
  cases sg with
  | true => exact ex_num_ok T (e := 3) (by walk_at "o") (nt_32s_ok (d := 0) T hab.1 h)
  | false => exact ex_num_ok T (e := 3) (by walk_at "o") (nt_32u_ok (d := 0) T hab.1 h)
 | str hc hz => exact ex_str_ok T hc hz (by walk_at "o") h
theorem ex_path_ok (T : Txt c) (R : Pr c D P B) {vs : List V} {tl : List (List Nat)} (hx : Pxs P vs tl) (hz : vs.length ≤ 3) (hd : D + 1 ≤ d) (h : Q (.str (joinL [46] tl)) σ) : CF c (d + 1) "expr_text" [.tup [.str [112, 97, 116, 104], .int 0, .tup vs]] σ Q := by
 refine CF_fn T.OK T.f_expr_text ["e"] _ (show WB _ _ _ _ [("e", _)] _ _ from ?_)
 refine WB_name (su ?_)
 refine WB_if (WT_eqLS ks_36 ?_)
 refine ite_f (rfl) (WB_nil (WB_if (WT_eqLS ks_37 ?_)))
 refine ite_f (rfl) (WB_nil (WB_if (WT_eqLS ks_38 ?_)))
 refine ite_f (rfl) (WB_nil (WB_if (WT_eqLS ks_39 ?_)))
 refine ite_t (rfl) (WB_ret (ca ?_))
 refine WL_cons (su ?_)
 refine WL_nil (CF.up (path_text_ok T R hx hz ?_) hd)
 exact h
theorem ex_index_ok (T : Txt c) {b i : V} (hs : CF c d "select_text" [.tup [.str [105, 110, 100, 101, 120], .int 0, b, i]] σ Q) : CF c (d + 1) "expr_text" [.tup [.str [105, 110, 100, 101, 120], .int 0, b, i]] σ Q := by
 refine CF_fn T.OK T.f_expr_text ["e"] _ (show WB _ _ _ _ [("e", _)] _ _ from ?_)
 refine WB_name (su ?_)
 refine WB_if (WT_eqLS ks_36 ?_)
 refine ite_f (rfl) (WB_nil (WB_if (WT_eqLS ks_37 ?_)))
 refine ite_f (rfl) (WB_nil (WB_if (WT_eqLS ks_38 ?_)))
 refine ite_f (rfl) (WB_nil (WB_if (WT_eqLS ks_39 ?_)))
 refine ite_f (rfl) (WB_nil (WB_if (WT_eqLS ks_31 ?_)))
 refine ite_f (rfl) (WB_nil (WB_if (WT_eqLS ks_30 ?_)))
 refine ite_f (rfl) (WB_nil (WB_if (WT_eqLS ks_29 ?_)))
 refine ite_f (rfl) (WB_nil (WB_if (WT_eqLS ks_40 ?_)))
 refine ite_f (rfl) (WB_nil (WB_if (WT_eqLS ks_41 ?_)))
 refine ite_f (rfl) (WB_nil (WB_if (WT_eqLS ks_42 ?_)))
 refine ite_f (rfl) (WB_nil (WB_if (WT_eqLS ks_43 ?_)))
 refine ite_f (rfl) (WB_nil (WB_ret (ca ?_)))
 refine lz ?_
 refine CF.mono hs (Nat.le_refl _) fun v σ' q => ?_
 exact q
theorem ex_part_ok (T : Txt c) {b i j : V} (hs : CF c d "select_text" [.tup [.str [112, 97, 114, 116], .int 0, b, i, j]] σ Q) : CF c (d + 1) "expr_text" [.tup [.str [112, 97, 114, 116], .int 0, b, i, j]] σ Q := by
 refine CF_fn T.OK T.f_expr_text ["e"] _ (show WB _ _ _ _ [("e", _)] _ _ from ?_)
 refine WB_name (su ?_)
 refine WB_if (WT_eqLS ks_36 ?_)
 refine ite_f (rfl) (WB_nil (WB_if (WT_eqLS ks_37 ?_)))
 refine ite_f (rfl) (WB_nil (WB_if (WT_eqLS ks_38 ?_)))
 refine ite_f (rfl) (WB_nil (WB_if (WT_eqLS ks_39 ?_)))
 refine ite_f (rfl) (WB_nil (WB_if (WT_eqLS ks_31 ?_)))
 refine ite_f (rfl) (WB_nil (WB_if (WT_eqLS ks_30 ?_)))
 refine ite_f (rfl) (WB_nil (WB_if (WT_eqLS ks_29 ?_)))
 refine ite_f (rfl) (WB_nil (WB_if (WT_eqLS ks_40 ?_)))
 refine ite_f (rfl) (WB_nil (WB_if (WT_eqLS ks_41 ?_)))
 refine ite_f (rfl) (WB_nil (WB_if (WT_eqLS ks_42 ?_)))
 refine ite_f (rfl) (WB_nil (WB_if (WT_eqLS ks_43 ?_)))
 refine ite_f (rfl) (WB_nil (WB_ret (ca ?_)))
 refine lz ?_
 refine CF.mono hs (Nat.le_refl _) fun v σ' q => ?_
 exact q
theorem ex_up_ok (T : Txt c) {b i j : V} (hs : CF c d "select_text" [.tup [.str [117, 112], .int 0, b, i, j]] σ Q) : CF c (d + 1) "expr_text" [.tup [.str [117, 112], .int 0, b, i, j]] σ Q := by
 refine CF_fn T.OK T.f_expr_text ["e"] _ (show WB _ _ _ _ [("e", _)] _ _ from ?_)
 refine WB_name (su ?_)
 refine WB_if (WT_eqLS ks_36 ?_)
 refine ite_f (rfl) (WB_nil (WB_if (WT_eqLS ks_37 ?_)))
 refine ite_f (rfl) (WB_nil (WB_if (WT_eqLS ks_38 ?_)))
 refine ite_f (rfl) (WB_nil (WB_if (WT_eqLS ks_39 ?_)))
 refine ite_f (rfl) (WB_nil (WB_if (WT_eqLS ks_31 ?_)))
 refine ite_f (rfl) (WB_nil (WB_if (WT_eqLS ks_30 ?_)))
 refine ite_f (rfl) (WB_nil (WB_if (WT_eqLS ks_29 ?_)))
 refine ite_f (rfl) (WB_nil (WB_if (WT_eqLS ks_40 ?_)))
 refine ite_f (rfl) (WB_nil (WB_if (WT_eqLS ks_41 ?_)))
 refine ite_f (rfl) (WB_nil (WB_if (WT_eqLS ks_42 ?_)))
 refine ite_f (rfl) (WB_nil (WB_if (WT_eqLS ks_43 ?_)))
 refine ite_f (rfl) (WB_nil (WB_ret (ca ?_)))
 refine lz ?_
 refine CF.mono hs (Nat.le_refl _) fun v σ' q => ?_
 exact q
theorem ex_down_ok (T : Txt c) {b i j : V} (hs : CF c d "select_text" [.tup [.str [100, 111, 119, 110], .int 0, b, i, j]] σ Q) : CF c (d + 1) "expr_text" [.tup [.str [100, 111, 119, 110], .int 0, b, i, j]] σ Q := by
 refine CF_fn T.OK T.f_expr_text ["e"] _ (show WB _ _ _ _ [("e", _)] _ _ from ?_)
 refine WB_name (su ?_)
 refine WB_if (WT_eqLS ks_36 ?_)
 refine ite_f (rfl) (WB_nil (WB_if (WT_eqLS ks_37 ?_)))
 refine ite_f (rfl) (WB_nil (WB_if (WT_eqLS ks_38 ?_)))
 refine ite_f (rfl) (WB_nil (WB_if (WT_eqLS ks_39 ?_)))
 refine ite_f (rfl) (WB_nil (WB_if (WT_eqLS ks_31 ?_)))
 refine ite_f (rfl) (WB_nil (WB_if (WT_eqLS ks_30 ?_)))
 refine ite_f (rfl) (WB_nil (WB_if (WT_eqLS ks_29 ?_)))
 refine ite_f (rfl) (WB_nil (WB_if (WT_eqLS ks_40 ?_)))
 refine ite_f (rfl) (WB_nil (WB_if (WT_eqLS ks_41 ?_)))
 refine ite_f (rfl) (WB_nil (WB_if (WT_eqLS ks_42 ?_)))
 refine ite_f (rfl) (WB_nil (WB_if (WT_eqLS ks_43 ?_)))
 refine ite_f (rfl) (WB_nil (WB_ret (ca ?_)))
 refine lz ?_
 refine CF.mono hs (Nat.le_refl _) fun v σ' q => ?_
 exact q
theorem base_ok (T : Txt c) (R : Pr c D P B) {m : Nat} {v : V} {t : List Nat} {k : List Tk} (hb : BaseR P m v t k) (hm : m ≤ 2) : ∀ {σ : Store} {Q : V → Store → Prop}, Q (.str t) σ → CF c (D + 3 + 2 * m) "expr_text" [v] σ Q := by
 induction hb with
 | id hn => intro σ Q h; exact ex_id_ok T hn (by have := R.dp; omega) h
 | path hp hs hl =>
  intro σ Q h
  obtain ⟨tl, h1, h2, h3⟩ := path_pxs hs
  refine ex_path_ok T R (.cons hp h1) (by simp only [List.length_cons]; omega) (by walk_at "o") ?_
  cases tl with
  | nil => exact absurd rfl h3
  | cons a b => rw [← h2] at h; exact h
 | @index m b t k v t' k' r hb hv ih =>
  intro σ Q h
  have hl := (base_len R.kn hb).1
  have hbd := R.bd
  have h2 : m * (B + 2) ≤ 1 * (B + 2) := Nat.mul_le_mul_right _ (by walk_at "o")
  refine CF.up (ex_index_ok T (select_index_ok T R (d := D + 3 + 2 * m) (by walk_at "o") (ih (by walk_at "o")) (by walk_at "o") hv h)) (by walk_at "o")
theorem ex_un_ok (T : Txt c) (R : Pr c D P B) (hd : D + 1 ≤ d) {op : List Nat} (ho : op.length ≤ 3) {v : V} {t : List Nat} {k : List Tk} (hv : Opd P 13 v t k) (h : Q (.str (op ++ t)) σ) : CF c (d + 1) "expr_text" [.tup [.str [117, 110], .int 0, .str op, v]] σ Q := by
 have hbd := R.bd
 have hl1 := (opd_len R.kn hv).1
 refine CF_fn T.OK T.f_expr_text ["e"] _ (show WB _ _ _ _ [("e", _)] _ _ from ?_)
 refine WB_name (su ?_)
 refine WB_if (WT_eqLS ks_36 ?_)
 refine ite_f (rfl) (WB_nil (WB_if (WT_eqLS ks_37 ?_)))
 refine ite_f (rfl) (WB_nil (WB_if (WT_eqLS ks_38 ?_)))
 refine ite_f (rfl) (WB_nil (WB_if (WT_eqLS ks_39 ?_)))
 refine ite_f (rfl) (WB_nil (WB_if (WT_eqLS ks_31 ?_)))
 refine ite_t (rfl) (WB_ret (WE_bin (su ?_)))
 refine ca ?_
 refine WL_cons (su ?_)
 refine WL_int1 (CF.up (operand_ok T R hv ?_) hd)
 refine P_addS (by rw [sizeLine_eq]; first | omega | (simp only [List.length_append, List.length_cons, List.length_nil]; omega)) ?_
 exact h
theorem ex_bin_ok (T : Txt c) (R : Pr c D P B) (hd : D + 1 ≤ d) {op : List Nat} (ho : op.length ≤ 3) {v w : V} {t tw : List Nat} {k kw_ : List Tk} (hv : Opd P (prec op) v t k) (hw : Opd P (prec op + 1) w tw kw_) (h : Q (.str (t ++ [32] ++ op ++ [32] ++ tw)) σ) : CF c (d + 1) "expr_text" [.tup [.str [98, 105, 110], .int 0, .str op, v, w]] σ Q := by
 have hbd := R.bd
 have hl1 := (opd_len R.kn hv).1
 have hl2 := (opd_len R.kn hw).1
 refine CF_fn T.OK T.f_expr_text ["e"] _ (show WB _ _ _ _ [("e", _)] _ _ from ?_)
 refine WB_name (su ?_)
 refine WB_if (WT_eqLS ks_36 ?_)
 refine ite_f (rfl) (WB_nil (WB_if (WT_eqLS ks_37 ?_)))
 refine ite_f (rfl) (WB_nil (WB_if (WT_eqLS ks_38 ?_)))
 refine ite_f (rfl) (WB_nil (WB_if (WT_eqLS ks_39 ?_)))
 refine ite_f (rfl) (WB_nil (WB_if (WT_eqLS ks_31 ?_)))
 refine ite_f (rfl) (WB_nil (WB_if (WT_eqLS ks_30 ?_)))
 refine ite_t (rfl) (WB_name (ca ?_))
 refine WL_cons (su ?_)
 refine WL_nil (CF.up (precedence_ok (d := 0) T ?_) (by walk_at "o"))
 refine WB_ret (WE_join ?_)
 refine WJ_cons (WE_fmt (ca ?_))
 refine WL_cons (su ?_)
 refine lz ?_
 refine CF.up (operand_ok T R hv ?_) hd
 refine F_str (by rw [sizeLine_eq]; first | omega | (simp only [List.length_cons, List.length_nil, List.length_append]; omega)) ?_
 refine S_str ⟨by rw [sizeLine_eq]; simp only [List.length_append, List.length_cons, List.length_nil]; omega, ?_⟩
 refine WJ_cons (WE_strE ks_13 ?_)
 refine S_str ⟨by rw [sizeLine_eq]; simp only [List.length_append, List.length_cons, List.length_nil]; omega, ?_⟩
 refine WJ_cons (WE_fmt (su ?_))
 refine F_str (by rw [sizeLine_eq]; first | omega | (simp only [List.length_cons, List.length_nil, List.length_append]; omega)) ?_
 refine S_str ⟨by rw [sizeLine_eq]; simp only [List.length_append, List.length_cons, List.length_nil]; omega, ?_⟩
 refine WJ_cons (WE_strE ks_13 ?_)
 refine S_str ⟨by rw [sizeLine_eq]; simp only [List.length_append, List.length_cons, List.length_nil]; omega, ?_⟩
 refine WJ_cons (WE_fmt (ca ?_))
 refine WL_cons (su ?_)
 refine WL_cons (bl ?_)
 refine WE_int (.add ?_)
 refine WL_nil ?_
 rw [show ((prec op : Nat) : Int) + 1 = ((prec op + 1 : Nat) : Int) from rfl]
 refine CF.up (operand_ok T R hw ?_) hd
 refine F_str (by rw [sizeLine_eq]; first | omega | (simp only [List.length_cons, List.length_nil, List.length_append]; omega)) ?_
 refine S_str ⟨by rw [sizeLine_eq]; simp only [List.length_append, List.length_cons, List.length_nil]; omega, ?_⟩
 refine WJ_nil ?_ (by rw [sizeLine_eq]; first | omega | (simp only [List.length_append, List.length_cons, List.length_nil]; omega))
 exact h
theorem ex_cond_ok (T : Txt c) (R : Pr c D P B) (hd : D + 1 ≤ d) {a b e : V} {ta tb te : List Nat} {ka kb ke : List Tk} {r : Nat} (ha : Opd P 1 a ta ka) (hb : Opd P 1 b tb kb) (he : P e te ke r) (h : Q (.str (ta ++ [32, 63, 32] ++ tb ++ [32, 58, 32] ++ te)) σ) : CF c (d + 1) "expr_text" [.tup [.str [99, 111, 110, 100], .int 0, a, b, e]] σ Q := by
 have hbd := R.bd
 have hl1 := (opd_len R.kn ha).1
 have hl2 := (opd_len R.kn hb).1
 have hl3 := R.kn.len he
 refine CF_fn T.OK T.f_expr_text ["e"] _ (show WB _ _ _ _ [("e", _)] _ _ from ?_)
 refine WB_name (su ?_)
 refine WB_if (WT_eqLS ks_36 ?_)
 refine ite_f (rfl) (WB_nil (WB_if (WT_eqLS ks_37 ?_)))
 refine ite_f (rfl) (WB_nil (WB_if (WT_eqLS ks_38 ?_)))
 refine ite_f (rfl) (WB_nil (WB_if (WT_eqLS ks_39 ?_)))
 refine ite_f (rfl) (WB_nil (WB_if (WT_eqLS ks_31 ?_)))
 refine ite_f (rfl) (WB_nil (WB_if (WT_eqLS ks_30 ?_)))
 refine ite_f (rfl) (WB_nil (WB_if (WT_eqLS ks_29 ?_)))
 refine ite_t (rfl) (WB_ret (WE_join ?_))
 refine WJ_cons (WE_fmt (ca ?_))
 refine WL_cons (su ?_)
 refine WL_int1 (CF.up (operand_ok T R ha ?_) hd)
 refine F_str (by rw [sizeLine_eq]; first | omega | (simp only [List.length_cons, List.length_nil, List.length_append]; omega)) ?_
 refine S_str ⟨by rw [sizeLine_eq]; simp only [List.length_append, List.length_cons, List.length_nil]; omega, ?_⟩
 refine WJ_cons (WE_strE ks_94 ?_)
 refine S_str ⟨by rw [sizeLine_eq]; simp only [List.length_append, List.length_cons, List.length_nil]; omega, ?_⟩
 refine WJ_cons (WE_fmt (ca ?_))
 refine WL_cons (su ?_)
 refine WL_int1 (CF.up (operand_ok T R hb ?_) hd)
 refine F_str (by rw [sizeLine_eq]; first | omega | (simp only [List.length_cons, List.length_nil, List.length_append]; omega)) ?_
 refine S_str ⟨by rw [sizeLine_eq]; simp only [List.length_append, List.length_cons, List.length_nil]; omega, ?_⟩
 refine WJ_cons (WE_strE ks_95 ?_)
 refine S_str ⟨by rw [sizeLine_eq]; simp only [List.length_append, List.length_cons, List.length_nil]; omega, ?_⟩
 refine WJ_cons (WE_fmt (ca ?_))
 refine WL_cons (su ?_)
 refine WL_nil (CF.up (R.txt he ?_) (by walk_at "o"))
 refine F_str (by rw [sizeLine_eq]; first | omega | (simp only [List.length_cons, List.length_nil, List.length_append]; omega)) ?_
 refine S_str ⟨by rw [sizeLine_eq]; simp only [List.length_append, List.length_cons, List.length_nil]; omega, ?_⟩
 refine WJ_nil ?_ (by rw [sizeLine_eq]; first | omega | (simp only [List.length_append, List.length_cons, List.length_nil]; omega))
 exact h
theorem ex_cat_ok (T : Txt c) (R : Pr c D P B) (hd : D + 1 ≤ d) {vs : List V} {tl : List (List Nat)} (hx : Txs P vs tl) (hz : vs.length ≤ 3) (h : Q (.str (123 :: (joinL [44, 32] tl ++ [125]))) σ) : CF c (d + 1) "expr_text" [.tup [.str [99, 97, 116], .int 0, .tup vs]] σ Q := by
 have hbd := R.bd
 have hjl := joinL_len [44, 32] tl
 have hxl := txs_len R.kn hx
 have hx1 := hxl.1
 have hx2 := hxl.2
 have hx3 := Nat.mul_le_mul_right B hz
 simp only [List.length_cons, List.length_nil] at hjl
 refine CF_fn T.OK T.f_expr_text ["e"] _ (show WB _ _ _ _ [("e", _)] _ _ from ?_)
 refine WB_name (su ?_)
 refine WB_if (WT_eqLS ks_36 ?_)
 refine ite_f (rfl) (WB_nil (WB_if (WT_eqLS ks_37 ?_)))
 refine ite_f (rfl) (WB_nil (WB_if (WT_eqLS ks_38 ?_)))
 refine ite_f (rfl) (WB_nil (WB_if (WT_eqLS ks_39 ?_)))
 refine ite_f (rfl) (WB_nil (WB_if (WT_eqLS ks_31 ?_)))
 refine ite_f (rfl) (WB_nil (WB_if (WT_eqLS ks_30 ?_)))
 refine ite_f (rfl) (WB_nil (WB_if (WT_eqLS ks_29 ?_)))
 refine ite_f (rfl) (WB_nil (WB_if (WT_eqLS ks_40 ?_)))
 refine ite_t (rfl) (WB_ret (WE_bin (WE_bin (WE_strE ks_85 (ca ?_)))))
 refine WL_cons (su ?_)
 refine WL_nil (CF.up (list_text_ok T R hx hz ?_) hd)
 refine P_addS (by rw [sizeLine_eq]; first | omega | (simp only [List.length_append, List.length_cons, List.length_nil]; omega)) ?_
 refine WE_strE ks_88 ?_
 refine P_addS (by rw [sizeLine_eq]; first | omega | (simp only [List.length_append, List.length_cons, List.length_nil]; omega)) ?_
 exact h
theorem ex_rep_ok (T : Txt c) (R : Pr c D P B) (hd : D + 1 ≤ d) {n : V} {t : List Nat} {k : List Tk} (hn : Opd P 13 n t k) {vs : List V} {tl : List (List Nat)} (hx : Txs P vs tl) (hz : vs.length ≤ 3) (h : Q (.str (123 :: (t ++ [123] ++ joinL [44, 32] tl ++ [125, 125]))) σ) : CF c (d + 1) "expr_text" [.tup [.str [114, 101, 112], .int 0, n, .tup vs]] σ Q := by
 have hbd := R.bd
 have hjl := joinL_len [44, 32] tl
 have hxl := txs_len R.kn hx
 have hx1 := hxl.1
 have hx2 := hxl.2
 have hx3 := Nat.mul_le_mul_right B hz
 simp only [List.length_cons, List.length_nil] at hjl
 have hl1 := (opd_len R.kn hn).1
 refine CF_fn T.OK T.f_expr_text ["e"] _ (show WB _ _ _ _ [("e", _)] _ _ from ?_)
 refine WB_name (su ?_)
 refine WB_if (WT_eqLS ks_36 ?_)
 refine ite_f (rfl) (WB_nil (WB_if (WT_eqLS ks_37 ?_)))
 refine ite_f (rfl) (WB_nil (WB_if (WT_eqLS ks_38 ?_)))
 refine ite_f (rfl) (WB_nil (WB_if (WT_eqLS ks_39 ?_)))
 refine ite_f (rfl) (WB_nil (WB_if (WT_eqLS ks_31 ?_)))
 refine ite_f (rfl) (WB_nil (WB_if (WT_eqLS ks_30 ?_)))
 refine ite_f (rfl) (WB_nil (WB_if (WT_eqLS ks_29 ?_)))
 refine ite_f (rfl) (WB_nil (WB_if (WT_eqLS ks_40 ?_)))
 refine ite_f (rfl) (WB_nil (WB_if (WT_eqLS ks_41 ?_)))
 refine ite_t (rfl) (WB_ret (WE_bin (WE_bin (WE_bin (WE_bin (WE_strE ks_85 (ca ?_)))))))
 refine WL_cons (su ?_)
 refine WL_int1 (CF.up (operand_ok T R hn ?_) hd)
 refine P_addS (by rw [sizeLine_eq]; first | omega | (simp only [List.length_append, List.length_cons, List.length_nil]; omega)) ?_
 refine WE_strE ks_85 ?_
 refine P_addS (by rw [sizeLine_eq]; first | omega | (simp only [List.length_append, List.length_cons, List.length_nil]; omega)) ?_
 refine ca ?_
 refine WL_cons (su ?_)
 refine WL_nil (CF.up (list_text_ok T R hx hz ?_) hd)
 refine P_addS (by rw [sizeLine_eq]; first | omega | (simp only [List.length_append, List.length_cons, List.length_nil]; omega)) ?_
 refine WE_strE ks_96 ?_
 refine P_addS (by rw [sizeLine_eq]; first | omega | (simp only [List.length_append, List.length_cons, List.length_nil]; omega)) ?_
 refine N_ret (N_ret ?_)
 refine R_ret ?_
 simpa using h
theorem ex_call_ok (T : Txt c) (R : Pr c D P B) (hd : D + 1 ≤ d) {l : List Nat} (hn : isName l) {vs : List V} {tl : List (List Nat)} (hx : Txs P vs tl) (hz : vs.length ≤ 3) (h : Q (.str (nameT l ++ [40] ++ joinL [44, 32] tl ++ [41])) σ) : CF c (d + 1) "expr_text" [.tup [.str [99, 97, 108, 108], .int 0, .str l, .tup vs]] σ Q := by
 have hbd := R.bd
 have hjl := joinL_len [44, 32] tl
 have hxl := txs_len R.kn hx
 have hx1 := hxl.1
 have hx2 := hxl.2
 have hx3 := Nat.mul_le_mul_right B hz
 simp only [List.length_cons, List.length_nil] at hjl
 have hl1 := nameT_len hn
 refine CF_fn T.OK T.f_expr_text ["e"] _ (show WB _ _ _ _ [("e", _)] _ _ from ?_)
 refine WB_name (su ?_)
 refine WB_if (WT_eqLS ks_36 ?_)
 refine ite_f (rfl) (WB_nil (WB_if (WT_eqLS ks_37 ?_)))
 refine ite_f (rfl) (WB_nil (WB_if (WT_eqLS ks_38 ?_)))
 refine ite_f (rfl) (WB_nil (WB_if (WT_eqLS ks_39 ?_)))
 refine ite_f (rfl) (WB_nil (WB_if (WT_eqLS ks_31 ?_)))
 refine ite_f (rfl) (WB_nil (WB_if (WT_eqLS ks_30 ?_)))
 refine ite_f (rfl) (WB_nil (WB_if (WT_eqLS ks_29 ?_)))
 refine ite_f (rfl) (WB_nil (WB_if (WT_eqLS ks_40 ?_)))
 refine ite_f (rfl) (WB_nil (WB_if (WT_eqLS ks_41 ?_)))
 refine ite_f (rfl) (WB_nil (WB_if (WT_eqLS ks_42 ?_)))
 refine ite_t (rfl) (WB_ret (WE_join ?_))
 refine WJ_cons (WE_fmt (ca ?_))
 refine WL_cons (su ?_)
 refine WL_nil ?_
 refine CF.up (id_text_ok (d := 0) T hn ?_) (by have := R.dp; omega)
 refine F_str (by rw [sizeLine_eq]; first | omega | (simp only [List.length_cons, List.length_nil, List.length_append]; omega)) ?_
 refine S_str ⟨by rw [sizeLine_eq]; simp only [List.length_append, List.length_cons, List.length_nil]; omega, ?_⟩
 refine WJ_cons (WE_strE ks_84 ?_)
 refine S_str ⟨by rw [sizeLine_eq]; simp only [List.length_append, List.length_cons, List.length_nil]; omega, ?_⟩
 refine WJ_cons (WE_fmt (ca ?_))
 refine WL_cons (su ?_)
 refine WL_nil (CF.up (list_text_ok T R hx hz ?_) hd)
 refine F_str (by rw [sizeLine_eq]; first | omega | (simp only [List.length_cons, List.length_nil, List.length_append]; omega)) ?_
 refine S_str ⟨by rw [sizeLine_eq]; simp only [List.length_append, List.length_cons, List.length_nil]; omega, ?_⟩
 refine WJ_cons (WE_strE ks_89 ?_)
 refine S_str ⟨by rw [sizeLine_eq]; simp only [List.length_append, List.length_cons, List.length_nil]; omega, ?_⟩
 refine WJ_nil ?_ (by rw [sizeLine_eq]; first | omega | (simp only [List.length_append, List.length_cons, List.length_nil]; omega))
 exact h
theorem ex_sys_ok (T : Txt c) (R : Pr c D P B) (hd : D + 1 ≤ d) {vs : List V} {tl : List (List Nat)} (hx : Txs P vs tl) (hz : vs.length ≤ 3) (hne : vs ≠ []) (h : Q (.str ([36, 116, 105, 109, 101] ++ [40] ++ joinL [44, 32] tl ++ [41])) σ) : CF c (d + 1) "expr_text" [.tup [.str [115, 121, 115], .int 0, .str [36, 116, 105, 109, 101], .tup vs]] σ Q := by
 have hbd := R.bd
 have hjl := joinL_len [44, 32] tl
 have hxl := txs_len R.kn hx
 have hx1 := hxl.1
 have hx2 := hxl.2
 have hx3 := Nat.mul_le_mul_right B hz
 simp only [List.length_cons, List.length_nil] at hjl
 have hne2 : (!vs.isEmpty) = true := by cases vs with | nil => exact absurd rfl hne | cons a b => rfl
 refine CF_fn T.OK T.f_expr_text ["e"] _ (show WB _ _ _ _ [("e", _)] _ _ from ?_)
 refine WB_name (su ?_)
 refine WB_if (WT_eqLS ks_36 ?_)
 refine ite_f (rfl) (WB_nil (WB_if (WT_eqLS ks_37 ?_)))
 refine ite_f (rfl) (WB_nil (WB_if (WT_eqLS ks_38 ?_)))
 refine ite_f (rfl) (WB_nil (WB_if (WT_eqLS ks_39 ?_)))
 refine ite_f (rfl) (WB_nil (WB_if (WT_eqLS ks_31 ?_)))
 refine ite_f (rfl) (WB_nil (WB_if (WT_eqLS ks_30 ?_)))
 refine ite_f (rfl) (WB_nil (WB_if (WT_eqLS ks_29 ?_)))
 refine ite_f (rfl) (WB_nil (WB_if (WT_eqLS ks_40 ?_)))
 refine ite_f (rfl) (WB_nil (WB_if (WT_eqLS ks_41 ?_)))
 refine ite_f (rfl) (WB_nil (WB_if (WT_eqLS ks_42 ?_)))
 refine ite_f (rfl) (WB_nil (WB_if (WT_eqLS ks_43 ?_)))
 refine ite_t (rfl) (WB_ret (WE_if ?_))
 refine WT_not (WT_val (su ?_))
 walk_at "my tr"
 refine ite_f (congrArg not (hne2)) ?_
 refine WE_join ?_
 refine WJ_cons (WE_fmt (su ?_))
 refine F_str (by rw [sizeLine_eq]; first | omega | (simp only [List.length_cons, List.length_nil, List.length_append]; omega)) ?_
 refine S_str ⟨by rw [sizeLine_eq]; simp only [List.length_append, List.length_cons, List.length_nil]; omega, ?_⟩
 refine WJ_cons (WE_strE ks_84 ?_)
 refine S_str ⟨by rw [sizeLine_eq]; simp only [List.length_append, List.length_cons, List.length_nil]; omega, ?_⟩
 refine WJ_cons (WE_fmt (ca ?_))
 refine WL_cons (su ?_)
 refine WL_nil (CF.up (list_text_ok T R hx hz ?_) hd)
 refine F_str (by rw [sizeLine_eq]; first | omega | (simp only [List.length_cons, List.length_nil, List.length_append]; omega)) ?_
 refine S_str ⟨by rw [sizeLine_eq]; simp only [List.length_append, List.length_cons, List.length_nil]; omega, ?_⟩
 refine WJ_cons (WE_strE ks_89 ?_)
 refine S_str ⟨by rw [sizeLine_eq]; simp only [List.length_append, List.length_cons, List.length_nil]; omega, ?_⟩
 refine WJ_nil ?_ (by rw [sizeLine_eq]; first | omega | (simp only [List.length_append, List.length_cons, List.length_nil]; omega))
 exact h
theorem ex_sys0_ok (T : Txt c) (h : Q (.str [36, 116, 105, 109, 101]) σ) : CF c (d + 1) "expr_text" [.tup [.str [115, 121, 115], .int 0, .str [36, 116, 105, 109, 101], .tup []]] σ Q := by
 refine CF_fn T.OK T.f_expr_text ["e"] _ (show WB _ _ _ _ [("e", _)] _ _ from ?_)
 refine WB_name (su ?_)
 refine WB_if (WT_eqLS ks_36 ?_)
 refine ite_f (rfl) (WB_nil (WB_if (WT_eqLS ks_37 ?_)))
 refine ite_f (rfl) (WB_nil (WB_if (WT_eqLS ks_38 ?_)))
 refine ite_f (rfl) (WB_nil (WB_if (WT_eqLS ks_39 ?_)))
 refine ite_f (rfl) (WB_nil (WB_if (WT_eqLS ks_31 ?_)))
 refine ite_f (rfl) (WB_nil (WB_if (WT_eqLS ks_30 ?_)))
 refine ite_f (rfl) (WB_nil (WB_if (WT_eqLS ks_29 ?_)))
 refine ite_f (rfl) (WB_nil (WB_if (WT_eqLS ks_40 ?_)))
 refine ite_f (rfl) (WB_nil (WB_if (WT_eqLS ks_41 ?_)))
 refine ite_f (rfl) (WB_nil (WB_if (WT_eqLS ks_42 ?_)))
 refine ite_f (rfl) (WB_nil (WB_if (WT_eqLS ks_43 ?_)))
 refine ite_t (rfl) (WB_ret (WE_if ?_))
 refine WT_not (WT_val (su ?_))
 walk_at "my tr"
 refine ite_t (congrArg not (rfl)) ?_
 refine su ?_
 exact h
theorem node_ok (T : Txt c) (R : Pr c D P B) {v : V} {t : List Nat} {k : List Tk} {r : Nat} (hn : Node P v t k r) (h : Q (.str t) σ) : CF c (D + 20) "expr_text" [v] σ Q := by
 have hdp := R.dp
 have hbd := R.bd
 have bl : ∀ {m b tb kb}, BaseR P m b tb kb → m ≤ 2 → tb.length ≤ 5000000 := fun {m b tb kb} hb hm => by
  have := (base_len R.kn hb).1
  have h2 : m * (B + 2) ≤ 2 * (B + 2) := Nat.mul_le_mul_right _ hm
  omega
 induction hn with
 | leaf hl => exact leaf_ok T hl (by walk_at "o") h
 | base hb hm => exact CF.up (base_ok T R hb hm h) (by walk_at "o")
 | un ho hv => exact ex_un_ok T R (by walk_at "o") (op_len (.inl ho)) hv h
 | bin ho hl hr => exact ex_bin_ok T R (by walk_at "o") (op_len (.inr ho)) hl hr h
 | cond ha hb he => exact ex_cond_ok T R (by walk_at "o") ha hb he h
 | cat hx hz => obtain ⟨tl, h1, h2, h3⟩ := lst_txs hx; subst h2; exact ex_cat_ok T R (by walk_at "o") h1 hz h
 | rep hn hx hz => obtain ⟨tl, h1, h2, h3⟩ := lst_txs hx; subst h2; exact ex_rep_ok T R (by walk_at "o") hn h1 (by walk_at "o") h
 | call0 hn => exact ex_call_ok T R (by walk_at "o") hn .nil (by decide) (by simpa [joinL] using h)
 | call hn hx hz => obtain ⟨tl, h1, h2, h3⟩ := lst_txs hx; subst h2; exact ex_call_ok T R (by walk_at "o") hn h1 (by walk_at "o") h
 | sys0 => exact ex_sys0_ok T h
 | sys hx hz => obtain ⟨tl, h1, h2, h3⟩ := lst_txs hx; subst h2; exact ex_sys_ok T R (by walk_at "o") h1 (by walk_at "o") (by rintro rfl; cases hx) h
 | @part m _ _ _ _ _ _ _ _ _ _ _ hb hm hi hj => exact CF.up (ex_part_ok T (select_part_ok T R (d := D + 3 + 2 * m) (by walk_at "o") (fun h => base_ok T R hb hm h) (bl hb hm) hi hj h)) (by walk_at "o")
 | @up m _ _ _ _ _ _ _ _ _ _ _ hb hm hi hj => exact CF.up (ex_up_ok T (select_up_ok T R (d := D + 3 + 2 * m) (by walk_at "o") (fun h => base_ok T R hb hm h) (bl hb hm) hi hj h)) (by walk_at "o")
 | @down m _ _ _ _ _ _ _ _ _ _ _ hb hm hi hj => exact CF.up (ex_down_ok T (select_down_ok T R (d := D + 3 + 2 * m) (by walk_at "o") (fun h => base_ok T R hb hm h) (bl hb hm) hi hj h)) (by walk_at "o")
theorem ge_pr (T : Txt c) : ∀ n, n ≤ 4 → Pr c (20 + 20 * n) (GE n) (Lb n)
 | 0, _ => ⟨ge_kn 0, by decide, by decide, fun h => h.elim, fun h => h.elim⟩
 | n + 1, hn => ⟨ge_kn (n + 1), by
   have : n = 0 ∨ n = 1 ∨ n = 2 ∨ n = 3 := by walk_at "o"
   rcases this with rfl | rfl | rfl | rfl <;> decide, by walk_at "o", fun {v t k r} h {σ Q} q => CF.up (node_ok T (ge_pr T n (by walk_at "o")) h q) (by walk_at "o"), fun {v t k r} h {σ Q} q => CF.up (rank_ok (d := 0) T h q) (by walk_at "o")⟩
theorem expr_text_ok (T : Txt c) {v : V} {t : List Nat} {k : List Tk} {r : Nat} (h : GE 5 v t k r) (q : Q (.str t) σ) : CF c 130 "expr_text" [v] σ Q :=
 CF.up (node_ok T (ge_pr T 4 (by walk_at "o")) h q) (by walk_at "o")
end
noncomputable def bad (c y : Nat) : Bool := ops2.contains [c, y] || (c == 47 && (y == 47 || y == 42)) || (c == 40 && y == 42)
theorem ops3_pre {a b e : Nat} (h : ops3.contains [a, b, e] = true) : ops2.contains [a, b] = true := by
 have : [a, b, e] ∈ ops3 := List.contains_iff_mem.mp h
 simp only [ops3, List.mem_cons, List.cons.injEq, and_true, List.not_mem_nil, or_false] at this
 rcases this with ⟨rfl, rfl, rfl⟩ | ⟨rfl, rfl, rfl⟩ | ⟨rfl, rfl, rfl⟩ | ⟨rfl, rfl, rfl⟩ <;> decide
theorem scan0 {p : Nat → Bool} {x : Nat} {s : List Nat} (h : p x = false) : scanN p (x :: s) = 0 := by unfold scanN; rw [if_neg (by rw [h]; decide)]
theorem lx_of {s s' : List Nat} {tk : Tk} {x : Nat} {q : List Nat} (e : s = x :: q) (h0 : isLay x = false) (h1 : Lx1 s tk s') (hb : ∀ y r, q = y :: r → ¬ (x = 47 ∧ (y = 47 ∨ y = 42)) ∧ ¬ (x = 40 ∧ y = 42)) : Lx s tk s' := by
 subst e
 unfold Lx
 rw [scan0 h0, List.drop_zero]
 refine ⟨fun p hp => ?_, h1⟩
 subst hp
 cases q with
 | nil => exact ⟨by simp, by simp, by simp⟩
 | cons y r =>
  have := hb y r rfl
  simp only [List.take_succ_cons, List.take_zero]
  refine ⟨fun z => ?_, fun z => ?_, fun z => ?_⟩ <;> (simp only [List.cons.injEq, and_true] at z; omega)
theorem lxs_sp {s : List Nat} {ks : List Tk} (h : Lxs s ks) : Lxs (32 :: s) ks := by
 cases ks with
 | nil => exact trivial
 | cons k ks =>
  obtain ⟨s', ⟨h1, h2⟩, h3⟩ := h
  refine ⟨s', ⟨?_, ?_⟩, h3⟩
  ·rw [show scanN isLay (32 :: s) = scanN isLay s + 1 from rfl, List.drop_succ_cons]; exact h1
  ·rw [show scanN isLay (32 :: s) = scanN isLay s + 1 from rfl, List.drop_succ_cons]; exact h2
theorem op1_nolay {c : Nat} (h : ops1.contains c = true) : isLay c = false := by
 have : c ∈ ops1 := List.contains_iff_mem.mp h
 exact of_decide_eq_true (List.all_eq_true.mp (show (ops1.all fun c => decide (isLay c = false)) = true by decide) c this)
theorem ops2_no {l : List Nat} (h : l.length ≠ 2) : ops2.contains l = false := by
 cases q : ops2.contains l with
 | false => rfl
 | true => exact absurd (of_decide_eq_true (List.all_eq_true.mp (show (ops2.all fun o => decide (o.length = 2)) = true by decide) l (List.contains_iff_mem.mp q))) h
theorem ops3_no {l : List Nat} (h : l.length ≠ 3) : ops3.contains l = false := by
 cases q : ops3.contains l with
 | false => rfl
 | true => exact absurd (of_decide_eq_true (List.all_eq_true.mp (show (ops3.all fun o => decide (o.length = 3)) = true by decide) l (List.contains_iff_mem.mp q))) h
theorem o1 {c : Nat} {s : List Nat} {ks : List Tk} (hc : ops1.contains c = true) (hy : ∀ y q, s = y :: q → bad c y = false) (h : Lxs s ks) : Lxs (c :: s) (.op [c] :: ks) := by
 have hb : ∀ y q, s = y :: q → ops2.contains [c, y] = false ∧ ¬ (c = 47 ∧ (y = 47 ∨ y = 42)) ∧ ¬ (c = 40 ∧ y = 42) := fun y q e => by
  have := hy y q e
  unfold bad at this
  simp only [Bool.or_eq_false_iff, Bool.and_eq_false_iff, beq_eq_false_iff_ne] at this
  obtain ⟨⟨h1, h2⟩, h3⟩ := this
  exact ⟨h1, by rcases h2 with h2 | ⟨h2, h4⟩ <;> omega, by rcases h3 with h3 | h3 <;> omega⟩
 refine ⟨s, lx_of rfl (op1_nolay hc) (.op1 c s hc ?_ ?_) fun y q e => (hb y q e).2, h⟩
 ·cases s with
  | nil => exact ops2_no (by simp)
  | cons y q => exact (hb y q rfl).1
 ·cases s with
  | nil => exact ops3_no (by simp)
  | cons y q =>
   cases q with
   | nil => exact ops3_no (by simp)
   | cons z q =>
    cases hq : ops3.contains [c, y, z] with
    | false => exact hq
    | true => have := ops3_pre hq; rw [(hb y _ rfl).1] at this; cases this
theorem o2 {a b : Nat} {s : List Nat} {ks : List Tk} (h2 : ops2.contains [a, b] = true) (ha : isLay a = false) (hne : a ≠ 47 ∧ a ≠ 40) (hy : ∀ y q, s = y :: q → ops3.contains [a, b, y] = false) (h : Lxs s ks) : Lxs (a :: b :: s) (.op [a, b] :: ks) := by
 refine ⟨s, lx_of rfl ha (.op2 a b s h2 ?_) fun y q e => ⟨by walk_at "o", by walk_at "o"⟩, h⟩
 cases s with
 | nil => exact ops3_no (by simp)
 | cons y q => exact hy y q rfl
theorem o3 {a b e : Nat} {s : List Nat} {ks : List Tk} (h3 : ops3.contains [a, b, e] = true) (ha : isLay a = false) (hne : a ≠ 47 ∧ a ≠ 40) (h : Lxs s ks) : Lxs (a :: b :: e :: s) (.op [a, b, e] :: ks) :=
 ⟨s, lx_of rfl ha (.op3 a b e s h3) fun y q e => ⟨by walk_at "o", by walk_at "o"⟩, h⟩
noncomputable def opSp (op : List Nat) : Bool := match op with
 | [c] => ops1.contains c && !bad c 32
 | [a, b] => ops2.contains [a, b] && !isLay a && a != 47 && a != 40 && !ops3.contains [a, b, 32]
 | [a, b, e] => ops3.contains [a, b, e] && !isLay a && a != 47 && a != 40
 | _ => false
theorem op_sp {op s : List Nat} {ks : List Tk} (ho : opSp op = true) (h : Lxs s ks) : Lxs (op ++ 32 :: s) (.op op :: ks) := by
 have h := lxs_sp h
 match op, ho with
 | [c], ho =>
  obtain ⟨h1, h2⟩ := Bool.and_eq_true_iff.mp ho
  exact o1 h1 (fun y q e => by cases e; simpa using h2) h
 | [a, b], ho =>
  simp only [opSp, Bool.and_eq_true, Bool.not_eq_true', bne_iff_ne] at ho
  exact o2 ho.1.1.1.1 ho.1.1.1.2 ⟨ho.1.1.2, ho.1.2⟩ (fun y q e => by cases e; exact ho.2) h
 | [a, b, e], ho =>
  simp only [opSp, Bool.and_eq_true, Bool.not_eq_true', bne_iff_ne] at ho
  exact o3 ho.1.1.1 ho.1.1.2 ⟨ho.1.2, ho.2⟩ h
theorem binOps_sp {op : List Nat} (h : op ∈ binOps) : opSp op = true := List.all_eq_true.mp (show (binOps.all opSp) = true by decide) op h
noncomputable def st13 : List Nat := [40, 123, 97, 98, 99, 95, 92, 34, 39, 36, 48, 49, 50, 51, 52, 53, 54, 55, 56, 57]
noncomputable def stU : List Nat := [43, 45, 33, 126, 38, 124, 94]
theorem un_op {op s : List Nat} {ks : List Tk} {x : Nat} {q : List Nat} (ho : op ∈ unOps) (e : s = x :: q) (hx : x ∈ st13) (h : Lxs s ks) : Lxs (op ++ s) (.op op :: ks) := by
 have t : (unOps.all fun op => st13.all fun x => match op with
  | [c] => ops1.contains c && !bad c x
  | [a, b] => ops2.contains [a, b] && !isLay a && a != 47 && a != 40 && !ops3.contains [a, b, x]
  | _ => false) = true := by decide
 have := List.all_eq_true.mp (List.all_eq_true.mp t op ho) x hx
 subst e
 match op, this with
 | [c], ho =>
  obtain ⟨h1, h2⟩ := Bool.and_eq_true_iff.mp ho
  exact o1 h1 (fun y q e => by cases e; simpa using h2) h
 | [a, b], ho =>
  simp only [Bool.and_eq_true, Bool.not_eq_true', bne_iff_ne] at ho
  exact o2 ho.1.1.1.1 ho.1.1.1.2 ⟨ho.1.1.2, ho.1.2⟩ (fun y q e => by cases e; exact ho.2) h
noncomputable def fol : List Nat := [32, 41, 44, 93, 58, 125, 123, 91]
structure Fo (s : List Nat) : Prop where
 one : ∀ x q, s = x :: q → x ∈ fol
 quo : (s.drop (scanN isLay s)).take 1 ≠ [39]
theorem Fo.nil : Fo [] := ⟨fun _ _ e => (nomatch e), by simp⟩
theorem Fo.sign {x : Nat} {s : List Nat} (h : x ∈ [41, 44, 93, 58, 125, 123, 91]) : Fo (x :: s) := by
 have hl : isLay x = false ∧ x ∈ fol ∧ x ≠ 39 := by
  have := List.all_eq_true.mp (show ([41, 44, 93, 58, 125, 123, 91].all fun x => decide (isLay x = false ∧ x ∈ fol ∧ x ≠ 39)) = true by decide) x h
  exact of_decide_eq_true this
 exact ⟨fun y q e => by cases e; exact hl.2.1, by rw [scan0 hl.1]; simp [hl.2.2]⟩
theorem Fo.sp {x : Nat} {s : List Nat} (h0 : isLay x = false) (h : x ≠ 39) : Fo (32 :: x :: s) :=
 ⟨fun y q e => by cases e; decide, by rw [show scanN isLay (32 :: x :: s) = scanN isLay (x :: s) + 1 from rfl, scan0 h0]; simp [h]⟩
theorem fol_facts {x : Nat} (h : x ∈ fol) : isWd x = false ∧ isDg x = false ∧ isBd x = false ∧ x ≠ 46 ∧ x ≠ 101 ∧ x ≠ 69 := by
 have := List.all_eq_true.mp (show (fol.all fun x => decide (isWd x = false ∧ isDg x = false ∧ isBd x = false ∧ x ≠ 46 ∧ x ≠ 101 ∧ x ≠ 69)) = true by decide) x h
 exact of_decide_eq_true this
theorem name_lx {l s : List Nat} {ks : List Tk} (hl : isName l) (hs : ∀ x q, s = x :: q → x ∈ 46 :: 40 :: fol) (h : Lxs s ks) : Lxs (nameT l ++ s) (.id l :: ks) := by
 have hw : ∀ x q, s = x :: q → isWd x = false := fun x q e => by
  have := List.all_eq_true.mp (show ((46 :: 40 :: fol).all fun x => decide (isWd x = false)) = true by decide) x (hs x q e)
  exact of_decide_eq_true this
 have esc : ∀ w : List Nat, w ≠ [] → (∀ y ∈ w, notLay y = true) → Lxs (92 :: (w ++ 32 :: s)) (.id w :: ks) := fun w h1 h2 =>
  ⟨32 :: s, lx_of rfl (by decide) (.esc w (32 :: s) h1 h2 fun y q e => by cases e; decide) (fun y r e => ⟨by walk_at "o", by walk_at "o"⟩), lxs_sp h⟩
 rcases hl with rfl | rfl | rfl | rfl | rfl | rfl
 ·exact ⟨s, lx_of rfl (by decide) (.id 97 [] s (.inl (by decide)) (by decide) hw kw_0) (fun y r e => ⟨by walk_at "o", by walk_at "o"⟩), h⟩
 ·exact ⟨s, lx_of rfl (by decide) (.id 98 [49] s (.inl (by decide)) (by decide) hw kw_1) (fun y r e => ⟨by walk_at "o", by walk_at "o"⟩), h⟩
 ·exact ⟨s, lx_of rfl (by decide) (.id 99 [36] s (.inl (by decide)) (by decide) hw kw_2) (fun y r e => ⟨by walk_at "o", by walk_at "o"⟩), h⟩
 ·have := esc [109, 111, 100, 117, 108, 101] (by simp) (by decide)
  exact this
 ·have := esc [43, 120] (by simp) (by decide)
  exact this
 ·exact ⟨s, lx_of rfl (by decide) (.id 95 [] s (.inr rfl) (by decide) hw kw_5) (fun y r e => ⟨by walk_at "o", by walk_at "o"⟩), h⟩
theorem name_st {l : List Nat} (hl : isName l) : ∃ x q, nameT l = x :: q ∧ x ∈ st13 := by
 rcases hl with rfl | rfl | rfl | rfl | rfl | rfl <;> exact ⟨_, _, rfl, by decide⟩
theorem bits_bit (w a b : Nat) : ∀ x ∈ bitsT w a b, bit x = true := by
 intro x hx
 obtain ⟨i, _, rfl⟩ := List.mem_map.mp hx
 unfold bitC
 split <;> split <;> decide
theorem bas_lx {ds s : List Nat} {sg : Bool} {w a b : Nat} {ks : List Tk} (hw : 1 ≤ w) (hd : ds = [] ∨ ds = [56]) (hf : Fo s) (h : Lxs s ks) : Lxs (ds ++ mkS sg ++ bitsT w a b ++ s) (.num ds [98] sg (bitsT w a b) :: ks) := by
 have e : ds ++ mkS sg ++ bitsT w a b ++ s = ds ++ 39 :: ((if sg then [115] else []) ++ 98 :: (bitsT w a b ++ s)) := by
  cases sg <;> simp [mkS]
 rw [e]
 have l1 : Lx1 (ds ++ 39 :: ((if sg then [115] else []) ++ 98 :: (bitsT w a b ++ s))) (.num ds [98] sg (bitsT w a b)) s :=
  .bas ds sg (bitsT w a b) s (by rcases hd with rfl | rfl <;> simp) (by intro z; have := congrArg List.length z; rw [bitsT_length] at this; simp at this; omega) (bits_bit w a b) fun y q e => (fol_facts (hf.one y q e)).2.2.1
 rcases hd with rfl | rfl
 ·exact ⟨s, lx_of rfl (by decide) l1 (fun y r e => ⟨by walk_at "o", by walk_at "o"⟩), h⟩
 ·exact ⟨s, lx_of rfl (by decide) l1 (fun y r e => ⟨by walk_at "o", by walk_at "o"⟩), h⟩
theorem leaf_lx {v : V} {t : List Nat} {k : List Tk} {s : List Nat} {ks : List Tk} (hl : Leaf v t k) (hf : Fo s) (h : Lxs s ks) : Lxs (t ++ s) (k ++ ks) ∧ ∃ x q, t = x :: q ∧ x ∈ st13 := by
 induction hl with
 | id hn => exact ⟨name_lx hn (fun x q e => .tail _ (.tail _ (hf.one x q e))) h, name_st hn⟩
 | @dec a ha =>
  have f := intText_small a ha
  simp only [Bool.and_eq_true, decide_eq_true_eq, Bool.not_eq_true', List.isEmpty_eq_false_iff, List.all_eq_true] at f
  have hds : ∀ y ∈ intText (a : Int), 48 ≤ y ∧ y ≤ 57 := fun y hy => f.1.1.1 y hy
  obtain ⟨x, q, e⟩ : ∃ x q, intText (a : Int) = x :: q := by cases hq : intText (a : Int) with | nil => exact absurd hq f.1.2 | cons x q => exact ⟨x, q, rfl⟩
  have hx := hds x (by rw [e]; exact .head _)
  have hxs : x ∈ st13 := by
   have : x = 48 ∨ x = 49 ∨ x = 50 ∨ x = 51 ∨ x = 52 ∨ x = 53 ∨ x = 54 ∨ x = 55 ∨ x = 56 ∨ x = 57 := by walk_at "o"
   rcases this with rfl | rfl | rfl | rfl | rfl | rfl | rfl | rfl | rfl | rfl <;> decide
  refine ⟨⟨s, lx_of (x := x) (q := q ++ s) (by rw [e]; rfl) ?_ (.num _ s (by rw [e]; simp) hds (fun y q e => (fol_facts (hf.one y q e)).2.1) ?_ ?_ hf.quo) fun y r e => ⟨by walk_at "o", by walk_at "o"⟩, h⟩, x, q, e, hxs⟩
  ·exact of_decide_eq_true (List.all_eq_true.mp (show (st13.all fun x => decide (isLay x = false)) = true by decide) x hxs)
  ·cases s with
   | nil => simp
   | cons y q => have := (fol_facts (hf.one y q rfl)).2.2.2.1; simp [this]
  ·cases s with
   | nil => rfl
   | cons y q => have := (fol_facts (hf.one y q rfl)).2.2.2.2; simp [this.1, this.2]
 | @n8 a b sg _ => exact ⟨by have := bas_lx (ds := [56]) (sg := sg) (w := 8) (a := a) (b := b) (by decide) (.inr rfl) hf h; simpa using this, _, _, rfl, by decide⟩
 | @n40 a b sg _ => exact ⟨by have := bas_lx (ds := []) (sg := sg) (w := 40) (a := a) (b := b) (by decide) (.inl rfl) hf h; simpa using this, by cases sg <;> exact ⟨_, _, rfl, by decide⟩⟩
 | @n32 a sg _ => exact ⟨by have := bas_lx (ds := []) (sg := sg) (w := 32) (a := a) (b := 0) (by decide) (.inl rfl) hf h; simpa using this, by cases sg <;> exact ⟨_, _, rfl, by decide⟩⟩
 | @str l hc hz =>
  have hdec : (l.map pcOf).map Pc.dec = l := by
   rw [List.map_map]
   conv => rhs; rw [← List.map_id l]
   exact List.map_congr_left fun x hx => (pcOf_ok (hc x hx)).2.1
  refine ⟨⟨s, lx_of (x := 34) rfl (by decide) ?_ (fun y r e => ⟨by walk_at "o", by walk_at "o"⟩), h⟩, _, _, rfl, by decide⟩
  have := Lx1.str (l.map pcOf) s (fun p hp => by obtain ⟨x, hx, rfl⟩ := List.mem_map.mp hp; exact (pcOf_ok (hc x hx)).1)
  rw [hdec] at this
  simpa using this
structure LxP (P : Rl) : Prop where
 fst : ∀ {v t k r}, P v t k r → ∃ x q, t = x :: q ∧ (x ∈ st13 ∨ x ∈ stU) ∧ (13 ≤ r → x ∈ st13)
 lex : ∀ {v t k r}, P v t k r → ∀ {s ks}, Fo s → Lxs s ks → Lxs (t ++ s) (k ++ ks)
theorem opn {c : Nat} {s : List Nat} {ks : List Tk} {x : Nat} {q : List Nat} (hc : c ∈ [40, 91, 123, 58, 46]) (e : s = x :: q) (hx : (x ∈ st13 ∨ x ∈ stU) ∧ (c = 46 → x ∈ st13)) (h : Lxs s ks) : Lxs (c :: s) (.op [c] :: ks) := by
 have t := List.all_eq_true.mp (show ([40, 91, 123, 58, 46].all fun c => ops1.contains c && (st13.all fun x => !bad c x) && (stU.all fun x => c == 46 || !bad c x)) = true by decide) c hc
 simp only [Bool.and_eq_true] at t
 refine o1 t.1.1 (fun y r e' => ?_) h
 rw [e] at e'; cases e'
 rcases hx.1 with h1 | h1
 ·have := List.all_eq_true.mp t.1.2 x h1; simpa using this
 ·have := List.all_eq_true.mp t.2 x h1
  by_cases h46 : c = 46
  ·have := List.all_eq_true.mp t.1.2 x (hx.2 h46); simpa using this
  ·simpa [h46] using this
theorem cls {c : Nat} {s : List Nat} {ks : List Tk} (hc : c ∈ [41, 93, 125, 44, 63, 58, 123]) (hs : ∀ x q, s = x :: q → x ∈ 46 :: fol) (h : Lxs s ks) : Lxs (c :: s) (.op [c] :: ks) := by
 have t := List.all_eq_true.mp (show ([41, 93, 125, 44, 63, 58, 123].all fun c => ops1.contains c && ((46 :: fol).all fun x => !bad c x)) = true by decide) c hc
 simp only [Bool.and_eq_true] at t
 exact o1 t.1 (fun y q e => by have := List.all_eq_true.mp t.2 y (hs y q e); simpa using this) h
theorem Fo.pt {s : List Nat} (hf : Fo s) : ∀ x q, s = x :: q → x ∈ 46 :: fol := fun x q e => .tail _ (hf.one x q e)
theorem sp_pt {s : List Nat} : ∀ x q, 32 :: s = x :: q → x ∈ 46 :: fol := fun x q e => by cases e; decide
section
variable {P : Rl}
theorem opd_lx (L : LxP P) {m : Nat} {v t k} (h : Opd P m v t k) : (∃ x q, t = x :: q ∧ (x ∈ st13 ∨ x ∈ stU) ∧ (13 ≤ m → x ∈ st13)) ∧ ∀ {s ks}, Fo s → Lxs s ks → Lxs (t ++ s) (k ++ ks) := by
 induction h with
 | bare h hr =>
  obtain ⟨x, q, e, h1, h2⟩ := L.fst h
  exact ⟨⟨x, q, e, h1, fun z => h2 (by walk_at "o")⟩, L.lex h⟩
 | @brak t k r h hr =>
  refine ⟨⟨40, _, rfl, .inl (by decide), fun _ => by decide⟩, fun {s ks} hf hs => ?_⟩
  obtain ⟨x, q, e, h1, _⟩ := L.fst h
  have a := cls (c := 41) (by decide) hf.pt hs
  have b := L.lex h (Fo.sign (x := 41) (s := s) (by decide)) a
  have := opn (c := 40) (by decide) (x := x) (q := q ++ 41 :: s) (by rw [e]; rfl) ⟨h1, fun z => by walk_at "o"⟩ b
  simpa using this
theorem lst_lx (L : LxP P) {vs ts ks'} (h : LstR P vs ts ks') : (∃ x q, ts = x :: q ∧ (x ∈ st13 ∨ x ∈ stU)) ∧ ∀ {s ks}, Fo s → Lxs s ks → Lxs (ts ++ s) (ks' ++ ks) := by
 induction h with
 | one h =>
  obtain ⟨x, q, e, h1, h2⟩ := L.fst h
  exact ⟨⟨x, q, e, h1⟩, L.lex h⟩
 | @cons v t k r vs ts ks' h hs ih =>
  obtain ⟨x, q, e, h1, h2⟩ := L.fst h
  refine ⟨⟨x, _, by rw [e]; rfl, h1⟩, fun {s ks} hf hs => ?_⟩
  have a := lxs_sp (ih.2 hf hs)
  have b := cls (c := 44) (by decide) sp_pt a
  have d := L.lex h (Fo.sign (x := 44) (s := 32 :: (ts ++ s)) (by decide)) b
  simpa using d
theorem part_lx (L : LxP P) {p t k} (h : PartR P p t k) : (∃ x q, t = x :: q ∧ x ∈ st13) ∧ ∀ {s ks}, (∀ x q, s = x :: q → x ∈ 46 :: fol) → Lxs s ks → Lxs (t ++ s) (k ++ ks) := by
 induction h with
 | bare hn => exact ⟨name_st hn, fun hf hs => name_lx hn (fun x q e => by rcases List.mem_cons.mp (hf x q e) with h | h; exact h ▸ .head _; exact .tail _ (.tail _ h)) hs⟩
 | @sub l v t k r hn hv =>
  obtain ⟨y, p, e, hy⟩ := name_st hn
  refine ⟨⟨y, _, by rw [e]; rfl, hy⟩, fun {s ks} hf hs => ?_⟩
  obtain ⟨x, q, e, h1, _⟩ := L.fst hv
  have a := cls (c := 93) (by decide) hf hs
  have b := L.lex hv (Fo.sign (x := 93) (s := s) (by decide)) a
  have d := opn (c := 91) (by decide) (x := x) (q := q ++ 93 :: s) (by rw [e]; rfl) ⟨h1, fun z => by walk_at "o"⟩ b
  have := name_lx hn (s := 91 :: (t ++ 93 :: s)) (fun x q e => by cases e; decide) d
  simpa using this
theorem path_lx (L : LxP P) {ps ts ks'} (h : PathR P ps ts ks') : (∃ x q, ts = x :: q ∧ x ∈ st13) ∧ ∀ {s ks}, (∀ x q, s = x :: q → x ∈ 46 :: fol) → Lxs s ks → Lxs (ts ++ s) (ks' ++ ks) := by
 induction h with
 | last hn => exact part_lx L (.bare hn)
 | @cons p t k ps ts ks' h hs ih =>
  obtain ⟨⟨x, q, e, h1⟩, h2⟩ := part_lx L h
  refine ⟨⟨x, _, by rw [e]; rfl, h1⟩, fun {s ks} hf hs => ?_⟩
  obtain ⟨⟨y, p, e, hy⟩, h3⟩ := ih
  have a := h3 hf hs
  have b := opn (c := 46) (by decide) (x := y) (q := p ++ s) (by rw [e]; rfl) ⟨.inl hy, fun _ => hy⟩ a
  have := h2 (s := 46 :: (ts ++ s)) (fun x q e => by cases e; decide) b
  simpa using this
theorem base_lx (L : LxP P) {m v t k} (h : BaseR P m v t k) : (∃ x q, t = x :: q ∧ x ∈ st13) ∧ ∀ {s ks}, Fo s → Lxs s ks → Lxs (t ++ s) (k ++ ks) := by
 induction h with
 | id hn => exact ⟨name_st hn, fun hf hs => (part_lx L (.bare hn)).2 hf.pt hs⟩
 | path h hs hl =>
  have := path_lx L (.cons h hs)
  exact ⟨this.1, fun hf hs => this.2 hf.pt hs⟩
 | @index m b t k v t' k' r h hv ih =>
  obtain ⟨⟨x, q, e, h1⟩, h2⟩ := ih
  refine ⟨⟨x, _, by rw [e]; rfl, h1⟩, fun {s ks} hf hs => ?_⟩
  obtain ⟨y, p, e, hy, _⟩ := L.fst hv
  have a := cls (c := 93) (by decide) hf.pt hs
  have b := L.lex hv (Fo.sign (x := 93) (s := s) (by decide)) a
  have d := opn (c := 91) (by decide) (x := y) (q := p ++ 93 :: s) (by rw [e]; rfl) ⟨hy, fun z => by walk_at "o"⟩ b
  have := h2 (Fo.sign (x := 91) (s := t' ++ 93 :: s) (by decide)) d
  simpa using this
theorem bin_first {op s : List Nat} (h : op ∈ binOps) : Fo (32 :: (op ++ s)) := by
 have t := List.all_eq_true.mp (show (binOps.all fun op => match op with | x :: _ => !isLay x && x != 39 | [] => false) = true by decide) op h
 match op, t with
 | x :: q, t =>
  simp only [Bool.and_eq_true, Bool.not_eq_true', bne_iff_ne] at t
  exact Fo.sp t.1 t.2
theorem node_lx (L : LxP P) : LxP (Node P) := by
 refine ⟨fun {v t k r} h => ?_, fun {v t k r} h => ?_⟩
 ·induction h with
  | leaf h => obtain ⟨x, q, e, h1⟩ := (leaf_lx (s := []) (ks := []) h Fo.nil trivial).2; exact ⟨x, q, e, .inl h1, fun _ => h1⟩
  | base h hm => obtain ⟨x, q, e, h1⟩ := (base_lx L h).1; exact ⟨x, q, e, .inl h1, fun _ => h1⟩
  | @un op v t k ho h =>
   have t := List.all_eq_true.mp (show (unOps.all fun op => match op with | x :: _ => stU.contains x | [] => false) = true by decide) op ho
   match op, t with
   | x :: q, t => exact ⟨x, _, rfl, .inr (List.contains_iff_mem.mp t), fun z => by walk_at "o"⟩
  | bin ho hl hr => obtain ⟨x, q, e, h1, _⟩ := (opd_lx L hl).1; exact ⟨x, _, by rw [e]; rfl, h1, fun z => by have := (prec_le ho).2; omega⟩
  | cond ha hb he => obtain ⟨x, q, e, h1, _⟩ := (opd_lx L ha).1; exact ⟨x, _, by rw [e]; rfl, h1, fun z => by walk_at "o"⟩
  | cat => exact ⟨_, _, rfl, .inl (by decide), fun _ => by decide⟩
  | rep => exact ⟨_, _, rfl, .inl (by decide), fun _ => by decide⟩
  | call0 hn => obtain ⟨x, q, e, h1⟩ := name_st hn; exact ⟨x, _, by rw [e]; rfl, .inl h1, fun _ => h1⟩
  | call hn h hl => obtain ⟨x, q, e, h1⟩ := name_st hn; exact ⟨x, _, by rw [e]; rfl, .inl h1, fun _ => h1⟩
  | sys0 => exact ⟨_, _, rfl, .inl (by decide), fun _ => by decide⟩
  | sys => exact ⟨_, _, rfl, .inl (by decide), fun _ => by decide⟩
  | part h => obtain ⟨x, q, e, h1⟩ := (base_lx L h).1; exact ⟨x, _, by rw [e]; rfl, .inl h1, fun _ => h1⟩
  | up h => obtain ⟨x, q, e, h1⟩ := (base_lx L h).1; exact ⟨x, _, by rw [e]; rfl, .inl h1, fun _ => h1⟩
  | down h => obtain ⟨x, q, e, h1⟩ := (base_lx L h).1; exact ⟨x, _, by rw [e]; rfl, .inl h1, fun _ => h1⟩
 ·intro s ks hf hs
  have sysx : ∀ {s ks}, (∀ x q, s = x :: q → isWd x = false) → Lxs s ks → Lxs ([36, 116, 105, 109, 101] ++ s) (.sys [36, 116, 105, 109, 101] :: ks) := fun {s ks} hw hs =>
   ⟨s, lx_of rfl (by decide) (.sys [116, 105, 109, 101] s (by simp) (by decide) hw) (fun y r e => ⟨by walk_at "o", by walk_at "o"⟩), hs⟩
  induction h with
  | leaf h => exact (leaf_lx h hf hs).1
  | base h hm => exact (base_lx L h).2 hf hs
  | @un op v t k ho h =>
   obtain ⟨⟨x, q, e, _, h2⟩, h3⟩ := opd_lx L h
   have := un_op ho (s := t ++ s) (x := x) (q := q ++ s) (by rw [e]; rfl) (h2 (by walk_at "o")) (h3 hf hs)
   simpa using this
  | @bin op l tl kl r tr kr ho hl hr =>
   have a := (opd_lx L hr).2 hf hs
   have b := op_sp (binOps_sp ho) a
   have d := lxs_sp b
   have := (opd_lx L hl).2 (bin_first (s := 32 :: (tr ++ s)) ho) d
   simpa using this
  | @cond a ta ka b tb kb e te ke r ha hb he =>
   have x1 := lxs_sp (L.lex he hf hs)
   have x2 := lxs_sp (cls (c := 58) (by decide) sp_pt x1)
   have x3 := lxs_sp ((opd_lx L hb).2 (Fo.sp (x := 58) (by decide) (by decide)) x2)
   have x4 := lxs_sp (cls (c := 63) (by decide) sp_pt x3)
   have := (opd_lx L ha).2 (Fo.sp (x := 63) (by decide) (by decide)) x4
   simpa using this
  | @cat vs ts ks' h hl =>
   obtain ⟨⟨x, q, e, h1⟩, h2⟩ := lst_lx L h
   have a := cls (c := 125) (by decide) hf.pt hs
   have b := h2 (Fo.sign (x := 125) (s := s) (by decide)) a
   have := opn (c := 123) (by decide) (x := x) (q := q ++ 125 :: s) (by rw [e]; rfl) ⟨h1, fun z => by walk_at "o"⟩ b
   simpa using this
  | @rep n t k vs ts ks' hn h hl =>
   obtain ⟨⟨x, q, e, h1⟩, h2⟩ := lst_lx L h
   obtain ⟨⟨y, p, e', h1', _⟩, h3⟩ := opd_lx L hn
   have a := cls (c := 125) (by decide) hf.pt hs
   have a2 := cls (c := 125) (s := 125 :: s) (by decide) (fun x q e => by cases e; decide) a
   have b := h2 (Fo.sign (x := 125) (s := 125 :: s) (by decide)) a2
   have d := opn (c := 123) (by decide) (x := x) (q := q ++ 125 :: 125 :: s) (by rw [e]; rfl) ⟨h1, fun z => by walk_at "o"⟩ b
   have f := h3 (Fo.sign (x := 123) (s := ts ++ 125 :: 125 :: s) (by decide)) d
   have := opn (c := 123) (by decide) (x := y) (q := p ++ 123 :: (ts ++ 125 :: 125 :: s)) (by rw [e']; rfl) ⟨h1', fun z => by walk_at "o"⟩ f
   simpa using this
  | call0 hn =>
   have a := cls (c := 41) (by decide) hf.pt hs
   have b := o1 (c := 40) (s := 41 :: s) (by decide) (fun y q e => by cases e; decide) a
   have := name_lx hn (s := 40 :: 41 :: s) (fun x q e => by cases e; decide) b
   simpa using this
  | @call l vs ts ks' hn h hl =>
   obtain ⟨⟨x, q, e, h1⟩, h2⟩ := lst_lx L h
   have a := cls (c := 41) (by decide) hf.pt hs
   have b := h2 (Fo.sign (x := 41) (s := s) (by decide)) a
   have d := opn (c := 40) (by decide) (x := x) (q := q ++ 41 :: s) (by rw [e]; rfl) ⟨h1, fun z => by walk_at "o"⟩ b
   have := name_lx hn (s := 40 :: (ts ++ 41 :: s)) (fun x q e => by cases e; decide) d
   simpa using this
  | sys0 => exact sysx (fun x q e => (fol_facts (hf.one x q e)).1) hs
  | @sys vs ts ks' h hl =>
   obtain ⟨⟨x, q, e, h1⟩, h2⟩ := lst_lx L h
   have a := cls (c := 41) (by decide) hf.pt hs
   have b := h2 (Fo.sign (x := 41) (s := s) (by decide)) a
   have d := opn (c := 40) (by decide) (x := x) (q := q ++ 41 :: s) (by rw [e]; rfl) ⟨h1, fun z => by walk_at "o"⟩ b
   have := sysx (s := 40 :: (ts ++ 41 :: s)) (fun x q e => by cases e; decide) d
   simpa using this
  | @part m b t k i ti ki ri j tj kj rj h hm hi hj =>
   obtain ⟨x, q, e, h1, _⟩ := L.fst hi
   obtain ⟨y, p, e', h1', _⟩ := L.fst hj
   have a := cls (c := 93) (by decide) hf.pt hs
   have b := L.lex hj (Fo.sign (x := 93) (s := s) (by decide)) a
   have d := opn (c := 58) (by decide) (x := y) (q := p ++ 93 :: s) (by rw [e']; rfl) ⟨h1', fun z => by walk_at "o"⟩ b
   have f := L.lex hi (Fo.sign (x := 58) (s := tj ++ 93 :: s) (by decide)) d
   have g := opn (c := 91) (by decide) (x := x) (q := q ++ 58 :: (tj ++ 93 :: s)) (by rw [e]; rfl) ⟨h1, fun z => by walk_at "o"⟩ f
   have := (base_lx L h).2 (Fo.sign (x := 91) (s := ti ++ 58 :: (tj ++ 93 :: s)) (by decide)) g
   simpa using this
  | @up m b t k i ti ki ri j tj kj rj h hm hi hj =>
   obtain ⟨x, q, e, h1, _⟩ := L.fst hi
   have a := cls (c := 93) (by decide) hf.pt hs
   have b := lxs_sp (L.lex hj (Fo.sign (x := 93) (s := s) (by decide)) a)
   have d := lxs_sp (o2 (a := 43) (b := 58) (by decide) (by decide) (by decide) (fun y q e => by cases e; decide) b)
   have f := L.lex hi (Fo.sp (x := 43) (by decide) (by decide)) d
   have g := opn (c := 91) (by decide) (x := x) (q := q ++ 32 :: 43 :: 58 :: 32 :: (tj ++ 93 :: s)) (by rw [e]; rfl) ⟨h1, fun z => by walk_at "o"⟩ f
   have := (base_lx L h).2 (Fo.sign (x := 91) (by decide)) g
   simpa using this
  | @down m b t k i ti ki ri j tj kj rj h hm hi hj =>
   obtain ⟨x, q, e, h1, _⟩ := L.fst hi
   have a := cls (c := 93) (by decide) hf.pt hs
   have b := lxs_sp (L.lex hj (Fo.sign (x := 93) (s := s) (by decide)) a)
   have d := lxs_sp (o2 (a := 45) (b := 58) (by decide) (by decide) (by decide) (fun y q e => by cases e; decide) b)
   have f := L.lex hi (Fo.sp (x := 45) (by decide) (by decide)) d
   have g := opn (c := 91) (by decide) (x := x) (q := q ++ 32 :: 45 :: 58 :: 32 :: (tj ++ 93 :: s)) (by rw [e]; rfl) ⟨h1, fun z => by walk_at "o"⟩ f
   have := (base_lx L h).2 (Fo.sign (x := 91) (by decide)) g
   simpa using this
end
theorem ge_lx : ∀ n, LxP (GE n)
 | 0 => ⟨fun h => h.elim, fun h => h.elim⟩
 | n + 1 => node_lx (ge_lx n)
theorem ge_tokens {n : Nat} {v : V} {t : List Nat} {k : List Tk} {r : Nat} (h : GE n v t k r) : Lxs t (k ++ [.eof]) := by
 have := (ge_lx n).lex h Fo.nil (ks := [.eof]) ⟨[], ⟨fun p e => by subst e; exact ⟨by decide, by decide, by decide⟩, .eof⟩, trivial⟩
 simpa using this
mutual
noncomputable def bareV : V → V
 | .tup vs => .tup (zeroP (bareVs vs))
 | v => v
noncomputable def bareVs : List V → List V
 | [] => []
 | v :: r => bareV v :: bareVs r
noncomputable def zeroP : List V → List V
 | .str l :: .int _ :: r => .str l :: .int 0 :: r
 | .str l :: .bool _ :: r => .str l :: .int 0 :: r
 | vs => vs
end
noncomputable def endTks : List (List Nat) := [[41], [93], [44], [58], [125], [123], [43, 58], [45, 58]]
noncomputable def stopE : List Tk → Prop
 | .eof :: _ => True
 | .op l :: _ => l ∈ endTks
 | _ => False
theorem stop_no {l : List Nat} {ks : List Tk} (h : stopE ks) (hl : endTks.contains l = false) : ∃ k q, ks = k :: q ∧ isOp k l = false := by
 cases ks with
 | nil => exact h.elim
 | cons k q =>
  refine ⟨k, q, rfl, ?_⟩
  cases k with
  | op m =>
   have hm : m ∈ endTks := h
   refine decide_eq_false fun e => ?_
   subst e
   rw [List.contains_iff_mem.mpr hm] at hl; cases hl
  | _ => rfl
noncomputable def ExC (c : Cx) (D : Nat) (k : List Tk) (v : V) : Prop := ∀ {σ : Store} {px dx ah : Addr} {ks : List Tk} {Q : V → Store → Prop}, Strm σ px dx ah (k ++ ks) → stopE ks → (∀ v' σ', bareV v' = v → K2 px dx σ σ' → Strm σ' px dx ah ks → Q v' σ') → MC c D .parser "expression" [.inst .parser px] σ Q
inductive ExL (c : Cx) (D : Nat) : List V → List Tk → Prop where
 | one {v k} (h : ExC c D k v) : ExL c D [v] k
 | cons {v k vs ks} (h : ExC c D k v) (hs : ExL c D vs ks) : ExL c D (v :: vs) (k ++ .op [44] :: ks)
section
variable {c : Cx} {d D : Nat} {σ : Store} {Q : V → Store → Prop} {px dx ah : Addr} {ks : List Tk}
theorem path_term1_ok (T : Txt c) {a : Int} {A : Addr} {l : List Nat} (hA : σ A = some (.list [.tup [.str l, .none]])) (h : Q (.tup [.str [105, 100], .int a, .str l]) σ) : MC c (d + 1) .parser "path_term" [.inst .parser px, .int a, .lst A] σ Q := by
 refine MC_fn T.OK T.m_path_term ["self", "at", "parts"] _ (show WB _ _ _ _ [("self", _), ("at", _), ("parts", _)] _ _ from ?_)
 refine WB_if (WT_and (WT_cmp T.OK (ca ?_)))
 refine lz ?_
 refine X_len T ?_
 refine CV_len_lst (by walk_at "my st") (by walk_at "my sz") ?_
 refine WE_int (.eqI ?_)
 refine ite_t (rfl) (WT_and1 (WT_cmp T.OK (WE_sub (WE_sub (lo ?_)))))
 refine WE_int (I_lst (by walk_at "my st") (by decide) rfl ?_)
 refine WE_int (I_tup (by decide) rfl ?_)
 refine WE_none ?_
 refine C_is (by intro _ z; cases z) ?_
 refine ite_t (rfl) (WB_ret (WE_tup (WL_str ks_38 (la ?_))))
 refine WL_cons (WE_sub (WE_sub (lo ?_)))
 refine WE_int (I_lst (by walk_at "my st") (by decide) rfl ?_)
 refine WE_int (I_tup (by decide) rfl ?_)
 refine WL_nil ?_
 refine ⟨by walk_at "my sz", ?_⟩
 exact h
theorem path_term2_ok (T : Txt c) {a : Int} {A : Addr} {vs : List V} (hA : σ A = some (.list vs)) (hl : 2 ≤ vs.length) (hz : vs.length ≤ 1000) (h : Q (.tup [.str [112, 97, 116, 104], .int a, .tup vs]) σ) : MC c (d + 1) .parser "path_term" [.inst .parser px, .int a, .lst A] σ Q := by
 refine MC_fn T.OK T.m_path_term ["self", "at", "parts"] _ (show WB _ _ _ _ [("self", _), ("at", _), ("parts", _)] _ _ from ?_)
 refine WB_if (WT_and (WT_cmp T.OK (ca ?_)))
 refine lz ?_
 refine X_len T ?_
 refine CV_len_lst (by walk_at "my st") (by walk_at "my sz") ?_
 refine WE_int (.eqI ?_)
 refine ite_f (decide_eq_false (by walk_at "o")) ?_
 refine ite_f rfl (WB_nil (WB_ret (WE_tup (WL_str ks_39 (la ?_)))))
 refine WL_cons (ca ?_)
 refine lz ?_
 refine X_tuple T (CV_tuple (by walk_at "my st") (by walk_at "my sz") ?_)
 refine WL_nil ?_
 refine ⟨by walk_at "my sz", ?_⟩
 exact h
theorem with_index_ok (T : Txt c) {k : List Nat} {a i w : V} {r : List V} (h : Q (.tup [.str [105, 110, 100, 101, 120], a, .tup (.str k :: a :: r), i]) σ) : MC c (d + 1) .parser "with_select" [.inst .parser px, .tup (.str k :: a :: r), .tup [.str [105, 110, 100, 101, 120], i, w]] σ Q := by
 refine MC_fn T.OK T.m_with_select ["self", "base", "select"] _ (show WB _ _ _ _ [("self", _), ("base", _), ("select", _)] _ _ from ?_)
 refine WB_if (WT_cmp T.OK (su ?_))
 refine WE_strE ks_27 (.eqS ?_)
 refine ite_t (rfl) (WB_ret (WE_tup (WL_str ks_27 (WL_cons (su ?_)))))
 refine la ?_
 refine WL_cons (su ?_)
 refine WL_nil ?_
 refine ⟨by walk_at "my sz", ?_⟩
 exact h
theorem with_part_ok (T : Txt c) {k s : List Nat} {a i w : V} {r : List V} (hk : s ≠ [105, 110, 100, 101, 120]) (h : Q (.tup [.str s, a, .tup (.str k :: a :: r), i, w]) σ) : MC c (d + 1) .parser "with_select" [.inst .parser px, .tup (.str k :: a :: r), .tup [.str s, i, w]] σ Q := by
 refine MC_fn T.OK T.m_with_select ["self", "base", "select"] _ (show WB _ _ _ _ [("self", _), ("base", _), ("select", _)] _ _ from ?_)
 refine WB_if (WT_cmp T.OK (su ?_))
 refine WE_strE ks_27 (.eqS ?_)
 refine ite_f (decide_eq_false hk) ?_
 refine WB_nil (WB_ret (WE_tup (WL_cons (su ?_))))
 refine WL_cons (su ?_)
 refine la ?_
 refine WL_cons (su ?_)
 refine WL_cons (su ?_)
 refine WL_nil ?_
 refine ⟨by walk_at "my sz", ?_⟩
 exact h
theorem bracket_index_ok (T : Txt c) {ki : List Tk} {i : V} {k2 : Tk} (hD : D ≤ d) (hd : 30 ≤ d) (hi : ExC c D ki i) (hki : ki ≠ []) (S : Strm σ px dx ah (.op [91] :: (ki ++ .op [93] :: k2 :: ks))) (h : ∀ v1 σ', bareV v1 = i → K2 px dx σ σ' → Strm σ' px dx ah (k2 :: ks) → Q (.tup [.str [105, 110, 100, 101, 120], v1, .none]) σ') : MC c (d + 1) .parser "bracket" [.inst .parser px] σ Q := by
 obtain ⟨a1, b1, rfl⟩ := List.exists_cons_of_ne_nil hki
 obtain ⟨tx, a, a2_, hpx, htx⟩ := S.here
 unfold parNs at hpx
 refine MC_fn T.OK T.m_bracket ["self"] _ (show WB _ _ _ _ [("self", _)] _ _ from ?_)
 refine WB_expr (me ?_)
 refine WL_str1 ks_34 (MC.mono (expect_ok (d := 0) T S rfl fun σ1 hk1 S1 => ?_) (by walk_at "o") fun _ _ q => q)
 obtain ⟨tx1, a1_, a21_, hpx1, htx1⟩ := S1.here
 unfold parNs at hpx1
 refine WB_name (me ?_)
 refine WL_nil (MC.mono (hi S1 (by simp [stopE, endTks]) fun v1 σ2 hv1 hk2 S2 => ?_) (by walk_at "o") fun _ _ q => q)
 obtain ⟨tx2, a2_, a22_, hpx2, htx2⟩ := S2.here
 unfold parNs at hpx2
 refine WB_name (WE_none (WB_name (WE_strE ks_27 (WB_if (WT_val (me ?_))))))
 refine WL_str1 ks_11 (MC.mono (accept0_ok (d := 0) T S2 rfl ?_) (by walk_at "o") fun _ _ q => q)
 walk_at "my tr"
 refine ite_f (rfl) (WB_if (WT_val (me ?_)))
 refine WL_str1 ks_124 (MC.mono (accept0_ok (d := 0) T S2 rfl ?_) (by walk_at "o") fun _ _ q => q)
 walk_at "my tr"
 refine ite_f (rfl) (WB_if (WT_val (me ?_)))
 refine WL_str1 ks_130 (MC.mono (accept0_ok (d := 0) T S2 rfl ?_) (by walk_at "o") fun _ _ q => q)
 walk_at "my tr"
 refine ite_f (rfl) (WB_nil (WB_nil (WB_nil (WB_if (cl ?_)))))
 refine WE_strE ks_27 (.neS ?_)
 refine ite_f (rfl) (WB_nil (WB_expr (me ?_)))
 refine WL_str1 ks_35 (MC.mono (expect_ok (d := 0) T S2 rfl fun σ5 hk5 S5 => ?_) (by walk_at "o") fun _ _ q => q)
 refine WB_ret (WE_tup (la ?_))
 refine la ?_
 refine lz ?_
 refine ⟨by walk_at "my sz", ?_⟩
 refine N_ret (R_ret (h v1 σ5 hv1 ((hk1.trans hk2).trans hk5) S5))
theorem bracket_part_ok (T : Txt c) {ki kj : List Tk} {i j : V} {k2 : Tk} (hD : D ≤ d) (hd : 30 ≤ d) (hi : ExC c D ki i) (hj : ExC c D kj j) (hki : ki ≠ []) (hkj : kj ≠ []) (S : Strm σ px dx ah (.op [91] :: (ki ++ .op [58] :: (kj ++ .op [93] :: k2 :: ks)))) (h : ∀ v1 v2 σ', bareV v1 = i → bareV v2 = j → K2 px dx σ σ' → Strm σ' px dx ah (k2 :: ks) → Q (.tup [.str [112, 97, 114, 116], v1, v2]) σ') : MC c (d + 1) .parser "bracket" [.inst .parser px] σ Q := by
 obtain ⟨a1, b1, rfl⟩ := List.exists_cons_of_ne_nil hki
 obtain ⟨a2, b2, rfl⟩ := List.exists_cons_of_ne_nil hkj
 obtain ⟨tx, a, a2_, hpx, htx⟩ := S.here
 unfold parNs at hpx
 refine MC_fn T.OK T.m_bracket ["self"] _ (show WB _ _ _ _ [("self", _)] _ _ from ?_)
 refine WB_expr (me ?_)
 refine WL_str1 ks_34 (MC.mono (expect_ok (d := 0) T S rfl fun σ1 hk1 S1 => ?_) (by walk_at "o") fun _ _ q => q)
 obtain ⟨tx1, a1_, a21_, hpx1, htx1⟩ := S1.here
 unfold parNs at hpx1
 refine WB_name (me ?_)
 refine WL_nil (MC.mono (hi S1 (by simp [stopE, endTks]) fun v1 σ2 hv1 hk2 S2 => ?_) (by walk_at "o") fun _ _ q => q)
 obtain ⟨tx2, a2_, a22_, hpx2, htx2⟩ := S2.here
 unfold parNs at hpx2
 refine WB_name (WE_none (WB_name (WE_strE ks_27 (WB_if (WT_val (me ?_))))))
 refine WL_str1 ks_11 (MC.mono (accept1_ok (d := 0) T S2 rfl fun σ3 hk3 S3 => ?_) (by walk_at "o") fun _ _ q => q)
 obtain ⟨tx3, a3_, a23_, hpx3, htx3⟩ := S3.here
 unfold parNs at hpx3
 walk_at "my tr"
 refine ite_t (rfl) (WB_name (WE_strE ks_90 (WB_nil (WB_if (cl ?_)))))
 refine WE_strE ks_27 (.neS ?_)
 refine ite_t (rfl) (WB_name (me ?_))
 refine WL_nil (MC.mono (hj S3 (by simp [stopE, endTks]) fun v2 σ4 hv2 hk4 S4 => ?_) (by walk_at "o") fun _ _ q => q)
 obtain ⟨tx4, a4_, a24_, hpx4, htx4⟩ := S4.here
 unfold parNs at hpx4
 refine WB_nil (WB_expr (me ?_))
 refine WL_str1 ks_35 (MC.mono (expect_ok (d := 0) T S4 rfl fun σ5 hk5 S5 => ?_) (by walk_at "o") fun _ _ q => q)
 refine WB_ret (WE_tup (la ?_))
 refine la ?_
 refine lz ?_
 refine ⟨by walk_at "my sz", ?_⟩
 refine N_ret (R_ret (h v1 v2 σ5 hv1 hv2 (((hk1.trans hk2).trans hk3).trans (hk4.trans hk5)) S5))
theorem bracket_up_ok (T : Txt c) {ki kj : List Tk} {i j : V} {k2 : Tk} (hD : D ≤ d) (hd : 30 ≤ d) (hi : ExC c D ki i) (hj : ExC c D kj j) (hki : ki ≠ []) (hkj : kj ≠ []) (S : Strm σ px dx ah (.op [91] :: (ki ++ .op [43, 58] :: (kj ++ .op [93] :: k2 :: ks)))) (h : ∀ v1 v2 σ', bareV v1 = i → bareV v2 = j → K2 px dx σ σ' → Strm σ' px dx ah (k2 :: ks) → Q (.tup [.str [117, 112], v1, v2]) σ') : MC c (d + 1) .parser "bracket" [.inst .parser px] σ Q := by
 obtain ⟨a1, b1, rfl⟩ := List.exists_cons_of_ne_nil hki
 obtain ⟨a2, b2, rfl⟩ := List.exists_cons_of_ne_nil hkj
 obtain ⟨tx, a, a2_, hpx, htx⟩ := S.here
 unfold parNs at hpx
 refine MC_fn T.OK T.m_bracket ["self"] _ (show WB _ _ _ _ [("self", _)] _ _ from ?_)
 refine WB_expr (me ?_)
 refine WL_str1 ks_34 (MC.mono (expect_ok (d := 0) T S rfl fun σ1 hk1 S1 => ?_) (by walk_at "o") fun _ _ q => q)
 obtain ⟨tx1, a1_, a21_, hpx1, htx1⟩ := S1.here
 unfold parNs at hpx1
 refine WB_name (me ?_)
 refine WL_nil (MC.mono (hi S1 (by simp [stopE, endTks]) fun v1 σ2 hv1 hk2 S2 => ?_) (by walk_at "o") fun _ _ q => q)
 obtain ⟨tx2, a2_, a22_, hpx2, htx2⟩ := S2.here
 unfold parNs at hpx2
 refine WB_name (WE_none (WB_name (WE_strE ks_27 (WB_if (WT_val (me ?_))))))
 refine WL_str1 ks_11 (MC.mono (accept0_ok (d := 0) T S2 rfl ?_) (by walk_at "o") fun _ _ q => q)
 walk_at "my tr"
 refine ite_f (rfl) (WB_if (WT_val (me ?_)))
 refine WL_str1 ks_124 (MC.mono (accept1_ok (d := 0) T S2 rfl fun σ3 hk3 S3 => ?_) (by walk_at "o") fun _ _ q => q)
 obtain ⟨tx3, a3_, a23_, hpx3, htx3⟩ := S3.here
 unfold parNs at hpx3
 walk_at "my tr"
 refine ite_t (rfl) (WB_name (WE_strE ks_32 (WB_nil (WB_nil (WB_if (cl ?_))))))
 refine WE_strE ks_27 (.neS ?_)
 refine ite_t (rfl) (WB_name (me ?_))
 refine WL_nil (MC.mono (hj S3 (by simp [stopE, endTks]) fun v2 σ4 hv2 hk4 S4 => ?_) (by walk_at "o") fun _ _ q => q)
 obtain ⟨tx4, a4_, a24_, hpx4, htx4⟩ := S4.here
 unfold parNs at hpx4
 refine WB_nil (WB_expr (me ?_))
 refine WL_str1 ks_35 (MC.mono (expect_ok (d := 0) T S4 rfl fun σ5 hk5 S5 => ?_) (by walk_at "o") fun _ _ q => q)
 refine WB_ret (WE_tup (la ?_))
 refine la ?_
 refine lz ?_
 refine ⟨by walk_at "my sz", ?_⟩
 refine N_ret (R_ret (h v1 v2 σ5 hv1 hv2 (((hk1.trans hk2).trans hk3).trans (hk4.trans hk5)) S5))
theorem bracket_down_ok (T : Txt c) {ki kj : List Tk} {i j : V} {k2 : Tk} (hD : D ≤ d) (hd : 30 ≤ d) (hi : ExC c D ki i) (hj : ExC c D kj j) (hki : ki ≠ []) (hkj : kj ≠ []) (S : Strm σ px dx ah (.op [91] :: (ki ++ .op [45, 58] :: (kj ++ .op [93] :: k2 :: ks)))) (h : ∀ v1 v2 σ', bareV v1 = i → bareV v2 = j → K2 px dx σ σ' → Strm σ' px dx ah (k2 :: ks) → Q (.tup [.str [100, 111, 119, 110], v1, v2]) σ') : MC c (d + 1) .parser "bracket" [.inst .parser px] σ Q := by
 obtain ⟨a1, b1, rfl⟩ := List.exists_cons_of_ne_nil hki
 obtain ⟨a2, b2, rfl⟩ := List.exists_cons_of_ne_nil hkj
 obtain ⟨tx, a, a2_, hpx, htx⟩ := S.here
 unfold parNs at hpx
 refine MC_fn T.OK T.m_bracket ["self"] _ (show WB _ _ _ _ [("self", _)] _ _ from ?_)
 refine WB_expr (me ?_)
 refine WL_str1 ks_34 (MC.mono (expect_ok (d := 0) T S rfl fun σ1 hk1 S1 => ?_) (by walk_at "o") fun _ _ q => q)
 obtain ⟨tx1, a1_, a21_, hpx1, htx1⟩ := S1.here
 unfold parNs at hpx1
 refine WB_name (me ?_)
 refine WL_nil (MC.mono (hi S1 (by simp [stopE, endTks]) fun v1 σ2 hv1 hk2 S2 => ?_) (by walk_at "o") fun _ _ q => q)
 obtain ⟨tx2, a2_, a22_, hpx2, htx2⟩ := S2.here
 unfold parNs at hpx2
 refine WB_name (WE_none (WB_name (WE_strE ks_27 (WB_if (WT_val (me ?_))))))
 refine WL_str1 ks_11 (MC.mono (accept0_ok (d := 0) T S2 rfl ?_) (by walk_at "o") fun _ _ q => q)
 walk_at "my tr"
 refine ite_f (rfl) (WB_if (WT_val (me ?_)))
 refine WL_str1 ks_124 (MC.mono (accept0_ok (d := 0) T S2 rfl ?_) (by walk_at "o") fun _ _ q => q)
 walk_at "my tr"
 refine ite_f (rfl) (WB_if (WT_val (me ?_)))
 refine WL_str1 ks_130 (MC.mono (accept1_ok (d := 0) T S2 rfl fun σ3 hk3 S3 => ?_) (by walk_at "o") fun _ _ q => q)
 obtain ⟨tx3, a3_, a23_, hpx3, htx3⟩ := S3.here
 unfold parNs at hpx3
 walk_at "my tr"
 refine ite_t (rfl) (WB_name (WE_strE ks_92 (WB_nil (WB_nil (WB_nil (WB_if (cl ?_)))))))
 refine WE_strE ks_27 (.neS ?_)
 refine ite_t (rfl) (WB_name (me ?_))
 refine WL_nil (MC.mono (hj S3 (by simp [stopE, endTks]) fun v2 σ4 hv2 hk4 S4 => ?_) (by walk_at "o") fun _ _ q => q)
 obtain ⟨tx4, a4_, a24_, hpx4, htx4⟩ := S4.here
 unfold parNs at hpx4
 refine WB_nil (WB_expr (me ?_))
 refine WL_str1 ks_35 (MC.mono (expect_ok (d := 0) T S4 rfl fun σ5 hk5 S5 => ?_) (by walk_at "o") fun _ _ q => q)
 refine WB_ret (WE_tup (la ?_))
 refine la ?_
 refine lz ?_
 refine ⟨by walk_at "my sz", ?_⟩
 refine N_ret (R_ret (h v1 v2 σ5 hv1 hv2 (((hk1.trans hk2).trans hk3).trans (hk4.trans hk5)) S5))
end
theorem WW.post2 {c : Cx} {d : Nat} {sc : Scope} {ρ : Locals} {σ : Store} {Q : Fl → Locals → Store → Prop} {t : Expr} {b o : List Stmt} (ρ₂ : Locals) (R : Store → Prop) (h : WW c d sc t b o ρ σ fun fl ρ' σ' => fl = .next ∧ subL ρ₂ ρ' ∧ R σ') (k : ∀ σ', R σ' → Q .next ρ₂ σ') : WW c d sc t b o ρ σ Q :=
 h.re fun fl ρ' σ' ⟨e, s, r⟩ => ⟨ρ₂, s, by subst e; exact k σ' r⟩
theorem WF.post2 {c : Cx} {d : Nat} {sc : Scope} {ρ : Locals} {σ : Store} {Q : Fl → Locals → Store → Prop} {t : Expr} {b o : List Stmt} {us : List V} (ρ₂ : Locals) (R : Store → Prop) (h : WF c d sc t b o us ρ σ fun fl ρ' σ' => fl = .next ∧ subL ρ₂ ρ' ∧ R σ') (k : ∀ σ', R σ' → Q .next ρ₂ σ') : WF c d sc t b o us ρ σ Q :=
 h.re fun fl ρ' σ' ⟨e, s, r⟩ => ⟨ρ₂, s, by subst e; exact k σ' r⟩
noncomputable def hdE (k : List Tk) : Prop := ∃ a b, k = a :: b ∧ isOp a [41] = false
structure ExH (c : Cx) (D : Nat) (k : List Tk) (v : V) : Prop where
 hd : hdE k
 ex : ExC c D k v
 tp : ∃ us, v = .tup us
theorem ExH.up {c : Cx} {D D' : Nat} {k : List Tk} {v : V} (h : ExH c D k v) (hd : D ≤ D') : ExH c D' k v := ⟨h.hd, fun S st q => MC.mono (h.ex S st q) hd fun _ _ z => z, h.tp⟩
inductive ExR (c : Cx) (D : Nat) : List V → List Tk → Prop where
 | nil : ExR c D [] []
 | cons {v k vs ks} (h : ExH c D k v) (hs : ExR c D vs ks) : ExR c D (v :: vs) (.op [44] :: (k ++ ks))
noncomputable def ExF (c : Cx) (D : Nat) (vs : List V) (k : List Tk) : Prop := ∃ v k0 vr kr, vs = v :: vr ∧ k = k0 ++ kr ∧ ExH c D k0 v ∧ ExR c D vr kr
theorem lst_exF {c : Cx} {D : Nat} {P : Rl} (hP : ∀ {v t k r}, P v t k r → ExH c D k v) {vs : List V} {ts : List Nat} {ks : List Tk} (h : LstR P vs ts ks) : ExF c D vs ks := by
 induction h with
 | one h => exact ⟨_, _, [], [], rfl, (List.append_nil _).symm, hP h, .nil⟩
 | cons h hs ih =>
  obtain ⟨v, k0, vr, kr, rfl, rfl, h1, h2⟩ := ih
  exact ⟨_, _, _, _, rfl, rfl, hP h, .cons h1 h2⟩
theorem ExR.stop {c : Cx} {D : Nat} {vs : List V} {ks kz : List Tk} (h : ExR c D vs ks) (hz : stopE kz) : stopE (ks ++ kz) := by
 cases h with
 | nil => exact hz
 | cons => exact (by decide : [44] ∈ endTks)
theorem stopE_op {m : List Nat} {ks : List Tk} (h : m ∈ endTks) : stopE (.op m :: ks) := h
theorem K2.lst {px dx ah : Addr} {σ σ' : Store} {ks : List Tk} (x : K2 px dx σ σ') (S : Strm σ px dx ah ks) {A : Addr} {vs : List V} (h : σ A = some (.list vs)) : σ' A = some (.list vs) := by
 cases ks with
 | nil => exact S.elim
 | cons k ks =>
  obtain ⟨kd, tx, t, j, a, a2, hpx, hah, htx, L, hls⟩ := S
  exact x A _ h (ne_ln h hpx) (ne_ln h L.ns)
theorem app_ne {k k' : List Tk} {ks : List Tk} (h : hdE k) : ∃ a b, k ++ ks = a :: b := by
 obtain ⟨a, b, rfl, _⟩ := h
 exact ⟨_, _, rfl⟩
section
variable {c : Cx} {d D : Nat} {σ : Store} {Q : V → Store → Prop} {px dx ah : Addr} {ks : List Tk} {k2 : Tk}
theorem elist_loop (T : Txt c) (hD : D ≤ d) (hd : 30 ≤ d) {A : Addr} {w : V} {σ₀ : Store} (h0 : σ₀ A = none) (hA : A ≠ ah) {m : List Nat} {kz : List Tk} (hm : m ∈ endTks) (hc : m ≠ [44]) {vs : List V} {ks : List Tk} (hR : ExR c D vs ks) : ∀ {acc : List V} {σ : Store}, acc.length + vs.length ≤ 1000 → σ A = some (.list acc) → K2 px dx σ₀ σ → Strm σ px dx ah (ks ++ .op m :: kz) →
  WW c d (fnScope (meth 34 6)) (wT (nth (fnBody (meth 34 6)) 1)) (wB (nth (fnBody (meth 34 6)) 1)) [] [("items", .lst A), ("self", .inst .parser px)] σ (fun fl ρ' σ' => fl = .next ∧ subL [("items", .lst A), ("self", .inst .parser px)] ρ' ∧ ∃ ws, bareVs ws = vs ∧ K2 px dx σ₀ σ' ∧ σ' A = some (.list (acc ++ ws)) ∧ Strm σ' px dx ah (.op m :: kz)) := by
 induction hR with
 | nil =>
  intro acc σ hz hs hk S
  obtain ⟨tx0, a0_, a20_, hpx0, htx0⟩ := S.here
  unfold parNs at hpx0
  refine WW_step ?_
  refine WT_val (me ?_)
  refine WL_str1 ks_87 (MC.mono (accept0_ok (d := 0) T S (by simp [isOp, hc]) ?_) (by walk_at "o") fun _ _ q => q)
  walk_at "my tr"
  refine ite_f (rfl) (WB_nil ?_)
  exact ⟨rfl, by walk_at "my sub", [], rfl, hk, by simpa using hs, S⟩
 | @cons v k vs ks he hs ih =>
  intro acc σ hz hs0 hk S
  have S : Strm σ px dx ah (.op [44] :: (k ++ (ks ++ .op m :: kz))) := by simpa only [List.cons_append, List.append_assoc] using S
  obtain ⟨a1, b1, e1, _⟩ := id he.hd
  subst e1
  simp only [List.length_cons] at hz
  obtain ⟨tx0, a0_, a20_, hpx0, htx0⟩ := S.here
  unfold parNs at hpx0
  refine WW_step ?_
  refine WT_val (me ?_)
  refine WL_str1 ks_87 (MC.mono (accept1_ok (d := 0) T S rfl fun σ3 hk3 S3 => ?_) (by walk_at "o") fun _ _ q => q)
  obtain ⟨tx3, a3_, a23_, hpx3, htx3⟩ := S3.here
  unfold parNs at hpx3
  have hs3 := hk3.lst S hs0
  walk_at "my tr"
  refine ite_t (rfl) (WB_expr (WE_meth T.OK (lo ?_)))
  refine ⟨_, GM_lst (by walk_at "my st") slot_list_append type_list_append, ?_⟩
  refine WL_cons (me ?_)
  refine WL_nil (MC.mono (he.ex S3 (hs.stop (stopE_op hm)) fun v1 σ4 hv1 hk4 S4 => ?_) (by walk_at "o") fun _ _ q => q)
  refine WL_nil ?_
  refine CV_append (hk4.lst S3 (hk3.lst S hs0)) (by rw [sizeLine_eq]; omega) ?_
  refine WB_nil (L_next ?_)
  have hs4 := hk4.lst S3 (hk3.lst S hs0)
  refine WW.re (WW.weak (ih (acc := acc ++ [v1]) (by simp only [List.length_append, List.length_cons, List.length_nil]; omega) (Store.set_self _ _ _) (((hk.trans hk3).trans hk4).new h0) (S4.setL hs4 hA)) (by walk_at "my sub")) fun fl ρ' σ' ⟨e, s, ws, h1, h2, h3, h4⟩ => ⟨ρ', subL.refl _, e, s, v1 :: ws, by simp [bareVs, hv1, h1], h2, by simpa using h3, h4⟩
theorem cat_loop (T : Txt c) (hD : D ≤ d) (hd : 30 ≤ d) {A : Addr} {w : V} {σ₀ : Store} (h0 : σ₀ A = none) (hA : A ≠ ah) {m : List Nat} {kz : List Tk} (hm : m ∈ endTks) (hc : m ≠ [44]) {vs : List V} {ks : List Tk} (hR : ExR c D vs ks) : ∀ {acc : List V} {σ : Store}, acc.length + vs.length ≤ 1000 → σ A = some (.list acc) → K2 px dx σ₀ σ → Strm σ px dx ah (ks ++ .op m :: kz) →
  WW c d (fnScope (meth 34 5)) (wT (nth (fnBody (meth 34 5)) 5)) (wB (nth (fnBody (meth 34 5)) 5)) [] [("items", .lst A), ("at", w), ("self", .inst .parser px)] σ (fun fl ρ' σ' => fl = .next ∧ subL [("items", .lst A), ("at", w), ("self", .inst .parser px)] ρ' ∧ ∃ ws, bareVs ws = vs ∧ K2 px dx σ₀ σ' ∧ σ' A = some (.list (acc ++ ws)) ∧ Strm σ' px dx ah (.op m :: kz)) := by
 induction hR with
 | nil =>
  intro acc σ hz hs hk S
  obtain ⟨tx0, a0_, a20_, hpx0, htx0⟩ := S.here
  unfold parNs at hpx0
  refine WW_step ?_
  refine WT_val (me ?_)
  refine WL_str1 ks_87 (MC.mono (accept0_ok (d := 0) T S (by simp [isOp, hc]) ?_) (by walk_at "o") fun _ _ q => q)
  walk_at "my tr"
  refine ite_f (rfl) (WB_nil ?_)
  exact ⟨rfl, by walk_at "my sub", [], rfl, hk, by simpa using hs, S⟩
 | @cons v k vs ks he hs ih =>
  intro acc σ hz hs0 hk S
  have S : Strm σ px dx ah (.op [44] :: (k ++ (ks ++ .op m :: kz))) := by simpa only [List.cons_append, List.append_assoc] using S
  obtain ⟨a1, b1, e1, _⟩ := id he.hd
  subst e1
  simp only [List.length_cons] at hz
  obtain ⟨tx0, a0_, a20_, hpx0, htx0⟩ := S.here
  unfold parNs at hpx0
  refine WW_step ?_
  refine WT_val (me ?_)
  refine WL_str1 ks_87 (MC.mono (accept1_ok (d := 0) T S rfl fun σ3 hk3 S3 => ?_) (by walk_at "o") fun _ _ q => q)
  obtain ⟨tx3, a3_, a23_, hpx3, htx3⟩ := S3.here
  unfold parNs at hpx3
  have hs3 := hk3.lst S hs0
  walk_at "my tr"
  refine ite_t (rfl) (WB_expr (WE_meth T.OK (lo ?_)))
  refine ⟨_, GM_lst (by walk_at "my st") slot_list_append type_list_append, ?_⟩
  refine WL_cons (me ?_)
  refine WL_nil (MC.mono (he.ex S3 (hs.stop (stopE_op hm)) fun v1 σ4 hv1 hk4 S4 => ?_) (by walk_at "o") fun _ _ q => q)
  refine WL_nil ?_
  refine CV_append (hk4.lst S3 (hk3.lst S hs0)) (by rw [sizeLine_eq]; omega) ?_
  refine WB_nil (L_next ?_)
  have hs4 := hk4.lst S3 (hk3.lst S hs0)
  refine WW.re (WW.weak (ih (acc := acc ++ [v1]) (by simp only [List.length_append, List.length_cons, List.length_nil]; omega) (Store.set_self _ _ _) (((hk.trans hk3).trans hk4).new h0) (S4.setL hs4 hA)) (by walk_at "my sub")) fun fl ρ' σ' ⟨e, s, ws, h1, h2, h3, h4⟩ => ⟨ρ', subL.refl _, e, s, v1 :: ws, by simp [bareVs, hv1, h1], h2, by simpa using h3, h4⟩
theorem bareVs_len : ∀ ws : List V, (bareVs ws).length = ws.length
 | [] => rfl
 | w :: r => by simp [bareVs, bareVs_len r]
theorem elist_ok (T : Txt c) (hD : D ≤ d) (hd : 30 ≤ d) {vs : List V} {k : List Tk} (hL : ExF c D vs k) {m : List Nat} (hm : m ∈ endTks) (hc : m ≠ [44]) (hz : vs.length ≤ 100) (S : Strm σ px dx ah (k ++ .op m :: k2 :: ks)) (h : ∀ ws σ', bareVs ws = vs → K2 px dx σ σ' → Strm σ' px dx ah (.op m :: k2 :: ks) → Q (.tup ws) σ') : MC c (d + 1) .parser "expression_list" [.inst .parser px] σ Q := by
 obtain ⟨v, k0, vr, kr, rfl, rfl, hE, hR⟩ := hL
 rw [List.append_assoc] at S
 simp only [List.length_cons] at hz
 obtain ⟨a0, b0, e0⟩ := app_ne (k' := []) (ks := kr ++ .op m :: k2 :: ks) hE.hd
 have S' := S
 rw [e0] at S'
 obtain ⟨tx0, a0_, a20_, hpx0, htx0⟩ := S'.here
 unfold parNs at hpx0
 refine MC_fn T.OK T.m_expression_list ["self"] _ (show WB _ _ _ _ [("self", _)] _ _ from ?_)
 refine WB_name (WE_lst (WL_cons (me ?_)))
 refine WL_nil (MC.mono (hE.ex S (hR.stop (stopE_op hm)) fun v1 σ2 hv1 hk2 S2 => ?_) (by walk_at "o") fun _ _ q => q)
 obtain ⟨σL, hL⟩ : ∃ x, x = σ2 := ⟨_, rfl⟩
 subst hL
 have SL := S2
 refine WL_nil ?_
 refine ⟨by walk_at "my sz", ?_⟩
 intro A_1 h_1
 refine WB_cons (WS_while ?_)
 refine WW.post2 [("items", .lst A_1), ("self", .inst .parser px)] (fun σ' => ∃ ws, bareVs ws = vr ∧ K2 px dx σL σ' ∧ σ' A_1 = some (.list ([v1] ++ ws)) ∧ Strm σ' px dx ah (.op m :: k2 :: ks)) (WW.weak (elist_loop T (w := .none) hD hd h_1 (ne_ns h_1 SL.ahd) hm hc hR (by simp only [List.length_cons, List.length_nil] at *; omega) (Store.set_self _ _ _) ((K2.refl px dx _).new h_1) (SL.newL h_1)) (by walk_at "my sub")) ?_
 rintro σ9 ⟨ws, hws, hk9, hA9, S9⟩
 obtain ⟨tx9, a9_, a29_, hpx9, htx9⟩ := S9.here
 unfold parNs at hpx9
 refine WB_ret (ca ?_)
 refine lz ?_
 refine X_tuple T (CV_tuple hA9 (by have := bareVs_len ws; rw [hws] at this; rw [sizeLine_eq]; simp only [List.length_append, List.length_cons, List.length_nil] at *; omega) ?_)
 refine N_ret (R_ret (h (v1 :: ws) σ9 (by simp [bareVs, hv1, hws]) (hk2.trans hk9) S9))
theorem args0_ok (T : Txt c) (hd : 30 ≤ d) (S : Strm σ px dx ah (.op [40] :: .op [41] :: k2 :: ks)) (h : ∀ σ', K2 px dx σ σ' → Strm σ' px dx ah (k2 :: ks) → Q (.tup []) σ') : MC c (d + 1) .parser "arguments" [.inst .parser px] σ Q := by
 obtain ⟨tx0, a0_, a20_, hpx0, htx0⟩ := S.here
 unfold parNs at hpx0
 refine MC_fn T.OK T.m_arguments ["self"] _ (show WB _ _ _ _ [("self", _)] _ _ from ?_)
 refine WB_expr (me ?_)
 refine WL_str1 ks_84 (MC.mono (expect_ok (d := 0) T S rfl fun σ1 hk1 S1 => ?_) (by walk_at "o") fun _ _ q => q)
 obtain ⟨tx1, a1_, a21_, hpx1, htx1⟩ := S1.here
 unfold parNs at hpx1
 refine WB_if (WT_val (me ?_))
 refine WL_str1 ks_89 (MC.mono (accept1_ok (d := 0) T S1 rfl fun σ2 hk2 S2 => ?_) (by walk_at "o") fun _ _ q => q)
 obtain ⟨tx2, a2_, a22_, hpx2, htx2⟩ := S2.here
 unfold parNs at hpx2
 walk_at "my tr"
 refine ite_t (rfl) (WB_ret (WE_tup (WL_nil ?_)))
 refine ⟨by walk_at "my sz", ?_⟩
 exact h σ2 (hk1.trans hk2) S2
theorem args_ok (T : Txt c) (hD : D + 1 ≤ d) (hd : 31 ≤ d) {vs : List V} {k : List Tk} (hL : ExF c D vs k) (hz : vs.length ≤ 100) (S : Strm σ px dx ah (.op [40] :: (k ++ .op [41] :: k2 :: ks))) (h : ∀ ws σ', bareVs ws = vs → K2 px dx σ σ' → Strm σ' px dx ah (k2 :: ks) → Q (.tup ws) σ') : MC c (d + 1) .parser "arguments" [.inst .parser px] σ Q := by
 have hh : ∃ a b, k = a :: b ∧ isOp a [41] = false := by obtain ⟨v, k0, vr, kr, _, e, hE, _⟩ := id hL; obtain ⟨a, b, e2, h2⟩ := hE.hd; exact ⟨a, b ++ kr, by rw [e, e2]; rfl, h2⟩
 obtain ⟨a, b, e, ha⟩ := hh
 have e1 : a :: (b ++ .op [41] :: k2 :: ks) = k ++ .op [41] :: k2 :: ks := by rw [e]; rfl
 rw [← e1] at S
 obtain ⟨tx0, a0_, a20_, hpx0, htx0⟩ := S.here
 unfold parNs at hpx0
 refine MC_fn T.OK T.m_arguments ["self"] _ (show WB _ _ _ _ [("self", _)] _ _ from ?_)
 refine WB_expr (me ?_)
 refine WL_str1 ks_84 (MC.mono (expect_ok (d := 0) T S rfl fun σ1 hk1 S1 => ?_) (by walk_at "o") fun _ _ q => q)
 obtain ⟨tx1, a1_, a21_, hpx1, htx1⟩ := S1.here
 unfold parNs at hpx1
 refine WB_if (WT_val (me ?_))
 refine WL_str1 ks_89 (MC.mono (accept0_ok (d := 0) T S1 ha ?_) (by walk_at "o") fun _ _ q => q)
 walk_at "my tr"
 refine ite_f (rfl) (WB_nil (WB_name (me ?_)))
 refine WL_nil (MC.mono (elist_ok (d := d - 1) T (by walk_at "o") (by walk_at "o") hL (by decide : [41] ∈ endTks) (by decide) hz (e1 ▸ S1) fun ws σ2 hws hk2 S2 => ?_) (by walk_at "o") fun _ _ q => q)
 obtain ⟨tx2, a2_, a22_, hpx2, htx2⟩ := S2.here
 unfold parNs at hpx2
 refine WB_expr (me ?_)
 refine WL_str1 ks_89 (MC.mono (expect_ok (d := 0) T S2 rfl fun σ3 hk3 S3 => ?_) (by walk_at "o") fun _ _ q => q)
 obtain ⟨tx3, a3_, a23_, hpx3, htx3⟩ := S3.here
 unfold parNs at hpx3
 refine WB_ret (lo ?_)
 exact h ws σ3 hws ((hk1.trans hk2).trans hk3) S3
theorem paren_ok (T : Txt c) (hD : D ≤ d) (hd : 30 ≤ d) {v : V} {k : List Tk} (hE : ExH c D k v) (S : Strm σ px dx ah (k ++ .op [41] :: k2 :: ks)) (h : ∀ v1 σ', bareV v1 = v → K2 px dx σ σ' → Strm σ' px dx ah (.op [41] :: k2 :: ks) → Q v1 σ') : MC c (d + 1) .parser "mintypmax" [.inst .parser px] σ Q := by
 obtain ⟨a0, b0, e0, ha0⟩ := hE.hd
 have S' := S
 rw [e0] at S'
 obtain ⟨tx0, a0_, a20_, hpx0, htx0⟩ := S'.here
 unfold parNs at hpx0
 refine MC_fn T.OK T.m_mintypmax ["self"] _ (show WB _ _ _ _ [("self", _)] _ _ from ?_)
 refine WB_name (me ?_)
 refine WL_nil (MC.mono (hE.ex S (stopE_op (by decide : [41] ∈ endTks)) fun v1 σ1 hv1 hk1 S1 => ?_) (by walk_at "o") fun _ _ q => q)
 obtain ⟨tx1, a1_, a21_, hpx1, htx1⟩ := S1.here
 unfold parNs at hpx1
 refine WB_if (WT_not (WT_val (me ?_)))
 refine WL_str1 ks_11 (MC.mono (accept0_ok (d := 0) T S1 rfl ?_) (by walk_at "o") fun _ _ q => q)
 walk_at "my tr"
 refine ite_t (congrArg not (rfl)) ?_
 refine WB_ret (lo ?_)
 exact h v1 σ1 hv1 hk1 S1
theorem cat_ok (T : Txt c) (hD : D ≤ d) (hd : 30 ≤ d) {vs : List V} {k : List Tk} (hL : ExF c D vs k) (hz : vs.length ≤ 100) (S : Strm σ px dx ah (.op [123] :: (k ++ .op [125] :: k2 :: ks))) (h : ∀ (a : Int) ws σ', bareVs ws = vs → K2 px dx σ σ' → Strm σ' px dx ah (k2 :: ks) → Q (.tup [.str [99, 97, 116], .int a, .tup ws]) σ') : MC c (d + 1) .parser "braces" [.inst .parser px] σ Q := by
 obtain ⟨v, k0, vr, kr, rfl, rfl, hE, hR⟩ := hL
 obtain ⟨us, eus⟩ := hE.tp
 rw [List.append_assoc] at S
 simp only [List.length_cons] at hz
 obtain ⟨x0, y0, e0⟩ := app_ne (k' := []) (ks := kr ++ .op [125] :: k2 :: ks) hE.hd
 have S' := S
 rw [e0] at S'
 have hm : [125] ∈ endTks := by decide
 have hc : [125] ≠ [44] := by decide
 obtain ⟨tx0, a0_, a20_, hpx0, htx0⟩ := S'.here
 unfold parNs at hpx0
 refine MC_fn T.OK T.m_braces ["self"] _ (show WB _ _ _ _ [("self", _)] _ _ from ?_)
 refine WB_name (att ?_)
 refine WB_expr (me ?_)
 refine WL_str1 ks_85 (MC.mono (expect_ok (d := 0) T S' rfl fun σ1 hk1 S1 => ?_) (by walk_at "o") fun _ _ q => q)
 obtain ⟨tx1, a1_, a21_, hpx1, htx1⟩ := S1.here
 unfold parNs at hpx1
 rw [← e0] at S1
 refine WB_name (me ?_)
 refine WL_nil (MC.mono (hE.ex S1 (hR.stop (stopE_op hm)) fun v1 σ2 hv1 hk2 S2 => ?_) (by walk_at "o") fun _ _ q => q)
 obtain ⟨σL, hL⟩ : ∃ x, x = σ2 := ⟨_, rfl⟩
 subst hL
 have SL := S2
 obtain ⟨kx, qx, ex, hx⟩ : ∃ kx qx, kr ++ .op [125] :: k2 :: ks = kx :: qx ∧ isOp kx [123] = false := by cases hR with | nil => exact ⟨_, _, rfl, rfl⟩ | cons => exact ⟨_, _, rfl, rfl⟩
 rw [ex] at S2
 obtain ⟨tx2, a2_, a22_, hpx2, htx2⟩ := S2.here
 unfold parNs at hpx2
 refine WB_if (WT_val (me ?_))
 refine WL_str1 ks_85 (MC.mono (accept0_ok (d := 0) T S2 hx ?_) (by walk_at "o") fun _ _ q => q)
 walk_at "my tr"
 refine ite_f (rfl) (WB_nil (WB_name (WE_lst (lz ?_))))
 refine ⟨by walk_at "my sz", ?_⟩
 intro A_1 h_1
 refine WB_cons (WS_while ?_)
 refine WW.post2 [("items", .lst A_1), ("at", .int a0_), ("self", .inst .parser px)] (fun σ' => ∃ ws, bareVs ws = vr ∧ K2 px dx σL σ' ∧ σ' A_1 = some (.list ([v1] ++ ws)) ∧ Strm σ' px dx ah (.op [125] :: k2 :: ks)) (WW.weak (cat_loop T hD hd h_1 (ne_ns h_1 SL.ahd) hm hc hR (by simp only [List.length_cons, List.length_nil] at *; omega) (Store.set_self _ _ _) ((K2.refl px dx _).new h_1) (SL.newL h_1)) (by walk_at "my sub")) ?_
 rintro σ9 ⟨ws, hws, hk9, hA9, S9⟩
 obtain ⟨tx9, a9_, a29_, hpx9, htx9⟩ := S9.here
 unfold parNs at hpx9
 refine WB_expr (me ?_)
 refine WL_str1 ks_88 (MC.mono (expect_ok (d := 0) T S9 rfl fun σ10 hk10 S10 => ?_) (by walk_at "o") fun _ _ q => q)
 obtain ⟨tx10, a10_, a210_, hpx10, htx10⟩ := S10.here
 unfold parNs at hpx10
 refine WB_ret (WE_tup (WL_str ks_40 (la ?_)))
 refine WL_cons (ca ?_)
 refine lz ?_
 refine X_tuple T (CV_tuple (hk10.lst S9 hA9) (by have := bareVs_len ws; rw [hws] at this; rw [sizeLine_eq]; simp only [List.length_append, List.length_cons, List.length_nil] at *; omega) ?_)
 refine WL_nil ?_
 refine ⟨by walk_at "my sz", ?_⟩
 refine N_ret (R_ret (h a0_ (v1 :: ws) σ10 ?_ ((((hk1.trans hk2).trans hk9)).trans hk10) S10))
 subst eus
 simp [bareVs, hv1, hws]
theorem rep_ok (T : Txt c) (hD : D + 1 ≤ d) (hd : 31 ≤ d) {n : V} {kn : List Tk} (hn : ExH c D kn n) {vs : List V} {k : List Tk} (hL : ExF c D vs k) (hz : vs.length ≤ 100) (S : Strm σ px dx ah (.op [123] :: (kn ++ .op [123] :: (k ++ .op [125] :: .op [125] :: k2 :: ks)))) (h : ∀ (a : Int) v1 ws σ', bareV v1 = n → bareVs ws = vs → K2 px dx σ σ' → Strm σ' px dx ah (k2 :: ks) → Q (.tup [.str [114, 101, 112], .int a, v1, .tup ws]) σ') : MC c (d + 1) .parser "braces" [.inst .parser px] σ Q := by
 have hh : ∃ a b, k = a :: b := by obtain ⟨v, k0, vr, kr, _, e, hE, _⟩ := id hL; obtain ⟨a, b, e2, h2⟩ := hE.hd; exact ⟨a, b ++ kr, by rw [e, e2]; rfl⟩
 obtain ⟨x0, y0, e⟩ := hh
 have e0 : k ++ .op [125] :: .op [125] :: k2 :: ks = x0 :: (y0 ++ .op [125] :: .op [125] :: k2 :: ks) := by rw [e]; rfl
 obtain ⟨x1, y1, e1, _⟩ := id hn.hd
 have S0 := S
 subst e1
 obtain ⟨tx0, a0_, a20_, hpx0, htx0⟩ := S.here
 unfold parNs at hpx0
 refine MC_fn T.OK T.m_braces ["self"] _ (show WB _ _ _ _ [("self", _)] _ _ from ?_)
 refine WB_name (att ?_)
 refine WB_expr (me ?_)
 refine WL_str1 ks_85 (MC.mono (expect_ok (d := 0) T S rfl fun σ1 hk1 S1 => ?_) (by walk_at "o") fun _ _ q => q)
 obtain ⟨tx1, a1_, a21_, hpx1, htx1⟩ := S1.here
 unfold parNs at hpx1
 refine WB_name (me ?_)
 refine WL_nil (MC.mono (hn.ex S1 (stopE_op (by decide : [123] ∈ endTks)) fun v1 σ2 hv1 hk2 S2 => ?_) (by walk_at "o") fun _ _ q => q)
 obtain ⟨tx2, a2_, a22_, hpx2, htx2⟩ := S2.here
 unfold parNs at hpx2
 refine WB_if (WT_val (me ?_))
 refine WL_str1 ks_85 (MC.mono (accept1_ok (d := 0) T (e0 ▸ S2) rfl fun σ3 hk3 S3 => ?_) (by walk_at "o") fun _ _ q => q)
 rw [← e0] at S3
 obtain ⟨tx3, a3_, a23_, hpx3, htx3⟩ := (e0 ▸ S3).here
 unfold parNs at hpx3
 walk_at "my tr"
 refine ite_t (rfl) (WB_name (me ?_))
 refine WL_nil (MC.mono (elist_ok (d := d - 1) T (by walk_at "o") (by walk_at "o") hL (by decide : [125] ∈ endTks) (by decide) hz S3 fun ws σ4 hws hk4 S4 => ?_) (by walk_at "o") fun _ _ q => q)
 obtain ⟨tx4, a4_, a24_, hpx4, htx4⟩ := S4.here
 unfold parNs at hpx4
 refine WB_expr (me ?_)
 refine WL_str1 ks_88 (MC.mono (expect_ok (d := 0) T S4 rfl fun σ5 hk5 S5 => ?_) (by walk_at "o") fun _ _ q => q)
 obtain ⟨tx5, a5_, a25_, hpx5, htx5⟩ := S5.here
 unfold parNs at hpx5
 refine WB_expr (me ?_)
 refine WL_str1 ks_88 (MC.mono (expect_ok (d := 0) T S5 rfl fun σ6 hk6 S6 => ?_) (by walk_at "o") fun _ _ q => q)
 obtain ⟨tx6, a6_, a26_, hpx6, htx6⟩ := S6.here
 unfold parNs at hpx6
 refine WB_ret (WE_tup (WL_str ks_41 (la ?_)))
 refine la ?_
 refine lz ?_
 refine ⟨by walk_at "my sz", ?_⟩
 exact h a0_ v1 ws σ6 hv1 hws (((((hk1.trans hk2).trans hk3).trans hk4).trans hk5).trans hk6) S6
end
noncomputable def mkBase (a : Int) (l : List Nat) (one : Bool) (ps : List V) : V := .tup [.str (cond one [105, 100] [112, 97, 116, 104]), .int a, cond one (.str l) (.tup ps)]
inductive Fin (c : Cx) (D : Nat) : V → V → List Tk → Prop where
 | mk {b i j : V} {ki kj : List Tk} {s o : List Nat} (h : (s, o) ∈ [([112, 97, 114, 116], [58]), ([117, 112], [43, 58]), ([100, 111, 119, 110], [45, 58])]) (hi : ExH c D ki i) (hj : ExH c D kj j) : Fin c D b (.tup [.str s, .int 0, b, i, j]) (.op [91] :: (ki ++ .op o :: (kj ++ [.op [93]])))
inductive SelI (c : Cx) (D : Nat) : V → V → List Tk → Prop where
 | nil {b} : SelI c D b b []
 | idx {b i r : V} {ki k : List Tk} (hi : ExH c D ki i) (h : SelI c D (.tup [.str [105, 110, 100, 101, 120], .int 0, b, i]) r k) : SelI c D b r (.op [91] :: (ki ++ .op [93] :: k))
inductive Sel (c : Cx) (D : Nat) : V → V → List Tk → Prop where
 | nil {b} : Sel c D b b []
 | idx {b i r : V} {ki k : List Tk} (hi : ExH c D ki i) (h : Sel c D (.tup [.str [105, 110, 100, 101, 120], .int 0, b, i]) r k) : Sel c D b r (.op [91] :: (ki ++ .op [93] :: k))
 | fin {b r : V} {k : List Tk} (h : Fin c D b r k) : Sel c D b r k
theorem SelI.snoc {c : Cx} {D : Nat} {b v i : V} {k ki : List Tk} (h : SelI c D b v k) (hi : ExH c D ki i) : SelI c D b (.tup [.str [105, 110, 100, 101, 120], .int 0, v, i]) (k ++ .op [91] :: (ki ++ [.op [93]])) := by
 induction h with
 | nil => exact .idx hi .nil
 | idx h0 _ ih => rw [List.cons_append, List.append_assoc]; exact .idx h0 ih
theorem SelI.sel {c : Cx} {D : Nat} {b v : V} {k : List Tk} (h : SelI c D b v k) : Sel c D b v k := by
 induction h with
 | nil => exact .nil
 | idx h0 _ ih => exact .idx h0 ih
theorem SelI.fin {c : Cx} {D : Nat} {b v r : V} {k k' : List Tk} (h : SelI c D b v k) (hf : Fin c D v r k') : Sel c D b r (k ++ k') := by
 induction h with
 | nil => exact .fin hf
 | idx h0 _ ih => rw [List.cons_append, List.append_assoc]; exact .idx h0 (ih hf)
inductive RP (c : Cx) (D : Nat) : List Nat → List V → List Tk → Prop where
 | done {l} : RP c D l [.tup [.str l, .none]] []
 | dot {l l' ps k} (h : RP c D l' ps k) : RP c D l (.tup [.str l, .none] :: ps) (.op [46] :: .id l' :: k)
 | sub {l l' ps k ke e} (he : ExH c D ke e) (h : RP c D l' ps k) : RP c D l (.tup [.str l, e] :: ps) (.op [91] :: (ke ++ .op [93] :: .op [46] :: .id l' :: k))
theorem RP.two {c : Cx} {D : Nat} {l : List Nat} {ps : List V} {k : List Tk} (h : RP c D l ps k) (hk : k ≠ []) : 2 ≤ ps.length := by
 have hn : ∀ {l ps k}, RP c D l ps k → ps ≠ [] := fun h => by cases h <;> simp
 cases h with
 | done => exact absurd rfl hk
 | dot h => have := List.length_pos_iff.mpr (hn h); simp only [List.length_cons]; omega
 | sub _ h => have := List.length_pos_iff.mpr (hn h); simp only [List.length_cons]; omega
theorem RP.tups {c : Cx} {D : Nat} {l : List Nat} {ps : List V} {k : List Tk} (h : RP c D l ps k) : zeroP ps = ps := by
 cases h <;> rfl
section
variable {c : Cx} {d D : Nat} {σ : Store} {Q : V → Store → Prop} {px dx ah : Addr} {ks kz : List Tk} {k2 : Tk}
set_option tactic.hygienic true in
theorem bracket_fin_ok (T : Txt c) (hD : D ≤ d) (hd : 30 ≤ d) {b r : V} {k : List Tk} (hF : Fin c D b r k) (S : Strm σ px dx ah (k ++ k2 :: ks)) (h : ∀ s v1 v2 σ', s ≠ [105, 110, 100, 101, 120] → (∀ b', bareV b' = b → ∀ a : Int, bareV (.tup [.str s, .int a, b', v1, v2]) = r) → K2 px dx σ σ' → Strm σ' px dx ah (k2 :: ks) → Q (.tup [.str s, v1, v2]) σ') : MC c (d + 1) .parser "bracket" [.inst .parser px] σ Q := by
 obtain ⟨hm, hi, hj⟩ := hF
 rename_i i j ki kj s o
 have S : Strm σ px dx ah (.op [91] :: (ki ++ .op o :: (kj ++ .op [93] :: k2 :: ks))) := by simpa only [List.cons_append, List.append_assoc, List.nil_append] using S
 have n1 : ki ≠ [] := by obtain ⟨a, b, e, _⟩ := hi.hd; rw [e]; simp
 have n2 : kj ≠ [] := by obtain ⟨a, b, e, _⟩ := hj.hd; rw [e]; simp
 simp only [List.mem_cons, Prod.mk.injEq, List.not_mem_nil, or_false] at hm
 rcases hm with ⟨rfl, rfl⟩ | ⟨rfl, rfl⟩ | ⟨rfl, rfl⟩
 ·exact bracket_part_ok T hD hd hi.ex hj.ex n1 n2 S fun v1 v2 σ' e1 e2 hk S' => h _ v1 v2 σ' (by decide) (fun b' eb a => by simp [bareV, bareVs, zeroP, e1, e2, eb]) hk S'
 ·exact bracket_up_ok T hD hd hi.ex hj.ex n1 n2 S fun v1 v2 σ' e1 e2 hk S' => h _ v1 v2 σ' (by decide) (fun b' eb a => by simp [bareV, bareVs, zeroP, e1, e2, eb]) hk S'
 ·exact bracket_down_ok T hD hd hi.ex hj.ex n1 n2 S fun v1 v2 σ' e1 e2 hk S' => h _ v1 v2 σ' (by decide) (fun b' eb a => by simp [bareV, bareVs, zeroP, e1, e2, eb]) hk S'
theorem bracket_idx_ok (T : Txt c) (hD : D ≤ d) (hd : 30 ≤ d) {i : V} {ki : List Tk} (hi : ExH c D ki i) (S : Strm σ px dx ah (.op [91] :: (ki ++ .op [93] :: k2 :: ks))) (h : ∀ v1 σ', (∀ b' b : V, bareV b' = b → ∀ a : Int, bareV (.tup [.str [105, 110, 100, 101, 120], .int a, b', v1]) = .tup [.str [105, 110, 100, 101, 120], .int 0, b, i]) → bareV v1 = i → K2 px dx σ σ' → Strm σ' px dx ah (k2 :: ks) → Q (.tup [.str [105, 110, 100, 101, 120], v1, .none]) σ') : MC c (d + 1) .parser "bracket" [.inst .parser px] σ Q := by
 have n1 : ki ≠ [] := by obtain ⟨a, b, e, _⟩ := hi.hd; rw [e]; simp
 exact bracket_index_ok T hD hd hi.ex n1 S fun v1 σ' e1 hk S' => h v1 σ' (fun b' b eb a => by simp [bareV, bareVs, zeroP, e1, eb]) e1 hk S'
theorem Fin.hd {b r : V} {k : List Tk} (h : Fin c D b r k) : ∃ q, k = .op [91] :: q := by cases h; exact ⟨_, rfl⟩
noncomputable def endR (kz : List Tk) : Prop := ∃ k0 q, kz = k0 :: q ∧ isOp k0 [46] = false ∧ isOp k0 [91] = false
theorem endR.app {kz : List Tk} (h : endR kz) (k : List Tk) : ∃ a b, k ++ kz = a :: b := by
 obtain ⟨k0, q, rfl, _⟩ := h
 cases k with
 | nil => exact ⟨_, _, rfl⟩
 | cons a b => exact ⟨_, _, rfl⟩
theorem Sel.nodot {b r : V} {k : List Tk} (h : Sel c D b r k) (hz : endR kz) : ∃ a q, k ++ kz = a :: q ∧ isOp a [46] = false := by
 cases h with
 | nil => obtain ⟨k0, q, rfl, h1, _⟩ := hz; exact ⟨_, _, rfl, h1⟩
 | idx => exact ⟨_, _, rfl, rfl⟩
 | fin h => obtain ⟨q, rfl⟩ := h.hd; exact ⟨_, _, rfl, rfl⟩
theorem sel_loop (T : Txt c) (hD : D + 1 ≤ d) (hd : 32 ≤ d) (hz : endR kz) {QF : Fl → Locals → Store → Prop} {σ₀ : Store} {b r : V} {k : List Tk} (hS : Sel c D b r k) : ∀ {kd : List Nat} {a : Int} {rs : List V} {σ : Store}, (k ≠ [] → kd = [105, 110, 100, 101, 120]) → bareV (.tup (.str kd :: .int a :: rs)) = b → K2 px dx σ₀ σ → Strm σ px dx ah (k ++ kz) →
  (∀ kd (a : Int) rs σ', bareV (.tup (.str kd :: .int a :: rs)) = r → K2 px dx σ₀ σ' → Strm σ' px dx ah kz → QF .next [("base", .tup (.str kd :: .int a :: rs)), ("self", .inst .parser px)] σ') →
  WW c d (fnScope (meth 34 11)) (wT (nth (fnBody (meth 34 11)) 0)) (wB (nth (fnBody (meth 34 11)) 0)) [] [("base", .tup (.str kd :: .int a :: rs)), ("self", .inst .parser px)] σ QF := by
 have stop : ∀ {kd : List Nat} {a : Int} {rs : List V} {σ : Store} {r : V}, bareV (.tup (.str kd :: .int a :: rs)) = r → K2 px dx σ₀ σ → Strm σ px dx ah kz → (∀ kd (a : Int) rs σ', bareV (.tup (.str kd :: .int a :: rs)) = r → K2 px dx σ₀ σ' → Strm σ' px dx ah kz → QF .next [("base", .tup (.str kd :: .int a :: rs)), ("self", .inst .parser px)] σ') → WW c d (fnScope (meth 34 11)) (wT (nth (fnBody (meth 34 11)) 0)) (wB (nth (fnBody (meth 34 11)) 0)) [] [("base", .tup (.str kd :: .int a :: rs)), ("self", .inst .parser px)] σ QF := by
  intro kd a rs σ r hb hk S hQ
  obtain ⟨k0, q, rfl, h1, h2⟩ := hz
  obtain ⟨tx0, a0_, a20_, hpx0, htx0⟩ := S.here
  unfold parNs at hpx0
  refine WW_step ?_
  refine WT_val (me ?_)
  refine WL_str1 ks_34 (MC.mono (is_op_ok (d := 0) T S ?_) (by walk_at "o") fun _ _ q => q)
  walk_at "my tr"
  refine ite_f (h2) ?_
  exact WB_nil (hQ _ _ _ _ hb hk S)
 induction hS with
 | nil =>
  intro kd a rs σ hkd hb hk S hQ
  exact stop hb hk S hQ
 | @idx b i r ki k hi h ih =>
  intro kd a rs σ hkd hb hk S hQ
  have := hkd (by simp)
  subst this
  have S : Strm σ px dx ah (.op [91] :: (ki ++ .op [93] :: (k ++ kz))) := by simpa only [List.cons_append, List.append_assoc] using S
  obtain ⟨x, y, exy⟩ := hz.app k
  rw [exy] at S
  obtain ⟨tx0, a0_, a20_, hpx0, htx0⟩ := S.here
  unfold parNs at hpx0
  refine WW_step ?_
  refine WT_val (me ?_)
  refine WL_str1 ks_34 (MC.mono (is_op_ok (d := 0) T S ?_) (by walk_at "o") fun _ _ q => q)
  walk_at "my tr"
  refine ite_t (rfl) (WB_if (WT_cmp T.OK (su ?_)))
  refine WE_strE ks_27 (.neS ?_)
  refine ite_f (rfl) (WB_nil (WB_name (me ?_)))
  refine la ?_
  refine WL_cons (me ?_)
  refine WL_nil (MC.mono (bracket_idx_ok (d := d - 1) T (by walk_at "o") (by walk_at "o") hi S fun v1 σ1 hv1 hv2 hk1 S1 => ?_) (by walk_at "o") fun _ _ q => q)
  obtain ⟨tx1, a1_, a21_, hpx1, htx1⟩ := S1.here
  unfold parNs at hpx1
  rw [← exy] at S1
  refine WL_nil (MC.mono (with_index_ok (d := 0) T ?_) (by walk_at "o") fun _ _ q => q)
  exact WB_nil (L_next (WW.weak (ih (fun _ => rfl) (hv1 _ _ hb _) (hk.trans hk1) S1 hQ) (by walk_at "my sub")))
 | @fin b r k hF =>
  intro kd a rs σ hkd hb hk S hQ
  have hq := hF.hd
  have := hkd (by obtain ⟨q, rfl⟩ := hq; simp)
  subst this
  obtain ⟨k0, q, e0, h1, h2⟩ := id hz
  have S' := S
  obtain ⟨q', e'⟩ := hq
  rw [e'] at S'
  rw [e0] at S
  obtain ⟨tx0, a0_, a20_, hpx0, htx0⟩ := S'.here
  unfold parNs at hpx0
  refine WW_step ?_
  refine WT_val (me ?_)
  refine WL_str1 ks_34 (MC.mono (is_op_ok (d := 0) T S' ?_) (by walk_at "o") fun _ _ q => q)
  walk_at "my tr"
  refine ite_t (rfl) (WB_if (WT_cmp T.OK (su ?_)))
  refine WE_strE ks_27 (.neS ?_)
  refine ite_f (rfl) (WB_nil (WB_name (me ?_)))
  refine la ?_
  refine WL_cons (me ?_)
  refine WL_nil (MC.mono (bracket_fin_ok (d := d - 1) T (by walk_at "o") (by walk_at "o") hF S fun s v1 v2 σ1 hs hv1 hk1 S1 => ?_) (by walk_at "o") fun _ _ q => q)
  obtain ⟨tx1, a1_, a21_, hpx1, htx1⟩ := S1.here
  unfold parNs at hpx1
  rw [← e0] at S1
  refine WL_nil (MC.mono (with_part_ok (d := 0) T hs ?_) (by walk_at "o") fun _ _ q => q)
  exact WB_nil (L_next (WW.weak (stop (hv1 _ hb _) (hk.trans hk1) S1 hQ) (by walk_at "my sub")))
theorem selects_ok (T : Txt c) (hD : D + 1 ≤ d) (hd : 32 ≤ d) (hz : endR kz) {b r : V} {k : List Tk} (hS : Sel c D b r k) {kd : List Nat} {a : Int} {rs : List V} (hkd : k ≠ [] → kd = [105, 110, 100, 101, 120]) (hb : bareV (.tup (.str kd :: .int a :: rs)) = b) (S : Strm σ px dx ah (k ++ kz)) (h : ∀ kd (a : Int) rs σ', bareV (.tup (.str kd :: .int a :: rs)) = r → K2 px dx σ σ' → Strm σ' px dx ah kz → Q (.tup (.str kd :: .int a :: rs)) σ') : MC c (d + 1) .parser "selects" [.inst .parser px, .tup (.str kd :: .int a :: rs)] σ Q := by
 refine MC_fn T.OK T.m_selects ["self", "base"] _ (show WB _ _ _ _ [("self", _), ("base", _)] _ _ from ?_)
 refine WB_cons (WS_while (WW.weak (ρ := [("base", .tup (.str kd :: .int a :: rs)), ("self", .inst .parser px)]) (sel_loop T hD hd hz hS hkd hb (K2.refl px dx _) S fun kd a rs σ1 hb1 hk1 S1 => ?_) (by walk_at "my sub")))
 refine WB_ret (lo ?_)
 exact h _ _ _ _ hb1 hk1 S1
theorem dot_step (T : Txt c) (hd : 31 ≤ d) {A : Addr} {a : Int} (hA : A ≠ ah) {QF : Fl → Locals → Store → Prop} {l : List Nat} {vs : List V} {k1 : Tk} (hv : vs.length ≤ 1000) (hs0 : σ A = some (.list vs)) (S : Strm σ px dx ah (.op [46] :: .id l :: k1 :: ks)) (hQ : ∀ σ', K2 px dx σ (σ'.set A (.list vs)) → σ' A = some (.list (vs ++ [.tup [.str l, .none]])) → Strm σ' px dx ah (k1 :: ks) → WW c d (fnScope (meth 34 9)) (wT (nth (fnBody (meth 34 9)) 2)) (wB (nth (fnBody (meth 34 9)) 2)) [] [("parts", .lst A), ("at", .int a), ("self", .inst .parser px)] σ' QF) : WW c d (fnScope (meth 34 9)) (wT (nth (fnBody (meth 34 9)) 2)) (wB (nth (fnBody (meth 34 9)) 2)) [] [("parts", .lst A), ("at", .int a), ("self", .inst .parser px)] σ QF := by
 obtain ⟨tx0, a0_, a20_, hpx0, htx0⟩ := S.here
 unfold parNs at hpx0
 refine WW_step ?_
 refine WT_val (WE_bool ?_)
 walk_at "my tr"
 refine ite_t (rfl) (WB_if (WT_val (me ?_)))
 refine WL_str1 ks_53 (MC.mono (accept1_ok (d := 0) T S rfl fun σ1 hk1 S1 => ?_) (by walk_at "o") fun _ _ q => q)
 obtain ⟨tx1, a1_, a21_, hpx1, htx1⟩ := S1.here
 unfold parNs at hpx1
 have hs1 := hk1.lst S hs0
 walk_at "my tr"
 refine ite_t (rfl) (WB_expr (WE_meth T.OK (lo ?_)))
 refine ⟨_, GM_lst (by walk_at "my st") slot_list_append type_list_append, ?_⟩
 refine WL_cons (WE_tup (WL_cons (me ?_)))
 refine WL_nil (MC.mono (expect_id_ok (d := 0) T S1 fun σ2 hk2 S2 => ?_) (by walk_at "o") fun _ _ q => q)
 obtain ⟨tx2, a2_, a22_, hpx2, htx2⟩ := S2.here
 unfold parNs at hpx2
 have hs2 := hk2.lst S1 hs1
 refine WL_cons (WE_none (WL_nil ?_))
 refine ⟨by walk_at "my sz", ?_⟩
 refine WL_nil ?_
 refine CV_append (by walk_at "my st") (by rw [sizeLine_eq]; omega) ?_
 refine WB_nil (WB_nil (L_next (WW.weak (hQ _ ?_ (Store.set_self _ _ _) (S2.setL hs2 hA)) (by walk_at "my sub"))))
 rw [Store.set_set, Store.set_id hs2]; exact hk1.trans hk2
theorem K2.undo {σ σ' : Store} {A : Addr} {vs : List V} {σ₀ : Store} (h0 : σ₀ A = none) (x : K2 px dx σ₀ σ) (h : K2 px dx σ (σ'.set A (.list vs))) : K2 px dx σ₀ σ' := fun b p e h1 h2 => by
 have hb : b ≠ A := fun z => by rw [z, h0] at e; cases e
 have := h b p (x b p e h1 h2) h1 h2
 rwa [Store.set_ne _ _ hb] at this
theorem rp_loop (T : Txt c) (hD : D + 1 ≤ d) (hd : 32 ≤ d) {A : Addr} {a : Int} (hA : A ≠ ah) {QF : Fl → Locals → Store → Prop} {σ₀ : Store} (h0 : σ₀ A = none) {z0 : Tk} {l : List Nat} {ps : List V} {k : List Tk} (hR : RP c D l ps k) : ∀ {acc : List V} {σ : Store}, acc.length + ps.length ≤ 100 → σ A = some (.list (acc ++ [.tup [.str l, .none]])) → K2 px dx σ₀ σ → Strm σ px dx ah (k ++ z0 :: kz) →
  (∀ ps' σ', bareVs ps' = ps → (k = [] → ps' = [.tup [.str l, .none]]) → K2 px dx σ₀ σ' → σ' A = some (.list (acc ++ ps')) → Strm σ' px dx ah (z0 :: kz) → WW c d (fnScope (meth 34 9)) (wT (nth (fnBody (meth 34 9)) 2)) (wB (nth (fnBody (meth 34 9)) 2)) [] [("parts", .lst A), ("at", .int a), ("self", .inst .parser px)] σ' QF) → WW c d (fnScope (meth 34 9)) (wT (nth (fnBody (meth 34 9)) 2)) (wB (nth (fnBody (meth 34 9)) 2)) [] [("parts", .lst A), ("at", .int a), ("self", .inst .parser px)] σ QF := by
 induction hR with
 | done =>
  intro acc σ hz hs hk S hQ
  exact hQ [_] σ rfl (fun _ => rfl) hk hs S
 | @dot l l' ps k hR ih =>
  intro acc σ hz hs hk S hQ
  simp only [List.length_cons] at hz
  obtain ⟨x, y, exy⟩ : ∃ x y, k ++ z0 :: kz = x :: y := by cases k <;> exact ⟨_, _, rfl⟩
  have S : Strm σ px dx ah (.op [46] :: .id l' :: (k ++ z0 :: kz)) := S
  rw [exy] at S
  refine dot_step T (by walk_at "o") hA (by simp only [List.length_append, List.length_cons, List.length_nil]; omega) hs S fun σ1 hk1 hs1 S1 => ?_
  rw [← exy] at S1
  refine ih (acc := acc ++ [.tup [.str l, .none]]) (by simp only [List.length_append, List.length_cons, List.length_nil]; omega) hs1 (K2.undo h0 hk hk1) S1 fun ps' σ' e1 _ hk' hs' S' => ?_
  exact hQ (.tup [.str l, .none] :: ps') σ' (by simp [bareVs, bareV, zeroP, e1]) (fun z => by cases z) hk' (by simpa using hs') S'
 | @sub l l' ps k ke e he hR ih =>
  intro acc σ hz hs hk S hQ
  obtain ⟨ue, hue⟩ := he.tp
  simp only [List.length_cons] at hz
  obtain ⟨x, y, exy⟩ : ∃ x y, k ++ z0 :: kz = x :: y := by cases k <;> exact ⟨_, _, rfl⟩
  have S : Strm σ px dx ah (.op [91] :: (ke ++ .op [93] :: .op [46] :: .id l' :: (k ++ z0 :: kz))) := by simpa only [List.cons_append, List.append_assoc] using S
  obtain ⟨tx0, a0_, a20_, hpx0, htx0⟩ := S.here
  unfold parNs at hpx0
  refine WW_step ?_
  refine WT_val (WE_bool ?_)
  walk_at "my tr"
  refine ite_t (rfl) (WB_if (WT_val (me ?_)))
  refine WL_str1 ks_53 (MC.mono (accept0_ok (d := 0) T S rfl ?_) (by walk_at "o") fun _ _ q => q)
  walk_at "my tr"
  refine ite_f (rfl) (WB_if (WT_val (me ?_)))
  refine WL_str1 ks_34 (MC.mono (is_op_ok (d := 0) T S ?_) (by walk_at "o") fun _ _ q => q)
  walk_at "my tr"
  refine ite_t (rfl) (WB_name (me ?_))
  refine WL_nil (MC.mono (bracket_idx_ok (d := d - 1) T (by walk_at "o") (by walk_at "o") he S fun v1 σ1 hv1 hv2 hk1 S1 => ?_) (by walk_at "o") fun _ _ q => q)
  obtain ⟨tx1, a1_, a21_, hpx1, htx1⟩ := S1.here
  unfold parNs at hpx1
  have hs1 := hk1.lst S hs
  refine WB_if (WT_or (WT_cmp T.OK (su ?_)))
  refine WE_strE ks_27 (.neS ?_)
  refine ite_f (rfl) (WT_or1 (WT_not (WT_val (me ?_))))
  refine WL_str1 ks_53 (MC.mono (is_op_ok (d := 0) T S1 ?_) (by walk_at "o") fun _ _ q => q)
  walk_at "my tr"
  refine ite_f (congrArg not (rfl)) ?_
  refine WB_nil (WB_name (WE_sub (WE_meth T.OK (lo ?_))))
  refine ⟨_, GM_lst (by walk_at "my st") F.slot_list_pop F.type_list_pop, ?_⟩
  refine WL_nil ?_
  refine CV_pop hs1 (by rw [sizeLine_eq]; omega) ?_
  refine WE_int (I_tup (by decide) rfl ?_)
  refine WB_expr (WE_meth T.OK (lo ?_))
  refine ⟨_, GM_lst (by walk_at "my st") slot_list_append type_list_append, ?_⟩
  refine WL_cons (WE_tup (la ?_))
  refine WL_cons (su ?_)
  refine WL_nil ?_
  refine ⟨by walk_at "my sz", ?_⟩
  refine WL_nil ?_
  refine CV_append (by walk_at "my st") (by rw [sizeLine_eq]; omega) ?_
  refine WB_nil (WB_nil (WB_nil (L_next (WW.ss ?_))))
  rw [exy] at S1
  refine WW.weak (dot_step T (by walk_at "o") hA (by simp only [List.length_append, List.length_cons, List.length_nil]; omega) (Store.set_self _ _ _) (S1.setL hs1 hA) fun σ2 hk2 hs2 S2 => ?_) (by walk_at "my sub")
  rw [← exy] at S2
  refine ih (acc := acc ++ [.tup [.str l, v1]]) (by simp only [List.length_append, List.length_cons, List.length_nil]; omega) hs2 (K2.undo h0 ((hk.trans hk1).new h0) hk2) S2 fun ps' σ' e1 _ hk' hs' S' => ?_
  exact hQ (.tup [.str l, v1] :: ps') σ' (by rw [hue] at hv2 ⊢; simp [bareVs, bareV, zeroP, e1, hv2]) (fun z => by cases z) hk' (by simpa using hs') S'
end
theorem gfold_app {f : Nat → Nat} : ∀ (l : List Nat) (v : Nat), l.foldl (fun v x => 2 * v + f x) v = v * 2 ^ l.length + l.foldl (fun v x => 2 * v + f x) 0
 | [], v => by simp
 | x :: l, v => by
  simp only [List.foldl_cons]
  rw [gfold_app l (2 * v + f x), gfold_app l (2 * 0 + f x), List.length_cons, Nat.pow_succ]
  rw [Nat.add_mul, Nat.mul_comm 2 v, Nat.mul_assoc, Nat.mul_comm 2 (2 ^ l.length)]
  simp; omega
theorem bitsT_succ (w a b : Nat) : bitsT (w + 1) a b = bitC a b w :: bitsT w a b := by
 unfold bitsT
 rw [List.range_succ_eq_map]
 simp only [List.map_cons, List.map_map, Nat.add_sub_cancel, Nat.sub_zero, List.cons.injEq, true_and]
 apply List.map_congr_left
 intro i _
 simp only [Function.comp]
 rw [show w - (i + 1) = w - 1 - i by walk_at "o"]
theorem loB_bit (a b i : Nat) : loB (bitC a b i) = a / 2 ^ i % 2 := by
 have := Nat.testBit_eq_decide_div_mod_eq (x := a) (i := i)
 unfold bitC loB
 by_cases h1 : a.testBit i = true <;> by_cases h2 : b.testBit i = true <;> simp [h1, h2] <;> simp [h1] at this <;> omega
theorem hiB_bit (a b i : Nat) : hiB (bitC a b i) = b / 2 ^ i % 2 := by
 have := Nat.testBit_eq_decide_div_mod_eq (x := b) (i := i)
 unfold bitC hiB
 by_cases h1 : a.testBit i = true <;> by_cases h2 : b.testBit i = true <;> simp [h1, h2] <;> simp [h2] at this <;> omega
theorem pow_split (a w : Nat) : a % 2 ^ (w + 1) = a / 2 ^ w % 2 * 2 ^ w + a % 2 ^ w := by
 rw [Nat.pow_succ, Nat.mod_mul]
 rw [Nat.mul_comm (2 ^ w)]; omega
theorem gLo_bits (a b : Nat) : ∀ w, gLo (bitsT w a b) = a % 2 ^ w
 | 0 => by simp [bitsT, gLo, Nat.mod_one]
 | w + 1 => by
  have ih := gLo_bits a b w
  rw [bitsT_succ, pow_split]
  unfold gLo at *
  rw [List.foldl_cons, gfold_app, ih, bitsT_length, loB_bit]; simp
theorem gHi_bits (a b : Nat) : ∀ w, gHi (bitsT w a b) = b % 2 ^ w
 | 0 => by simp [bitsT, gHi, Nat.mod_one]
 | w + 1 => by
  have ih := gHi_bits a b w
  rw [bitsT_succ, pow_split]
  unfold gHi at *
  rw [List.foldl_cons, gfold_app, ih, bitsT_length, hiB_bit]; simp
section
variable {c : Cx} {d D : Nat} {σ : Store} {Q : V → Store → Prop} {px dx ah : Addr} {ks kz : List Tk} {k2 : Tk}
theorem path_term_ok (T : Txt c) {a : Int} {A : Addr} {l : List Nat} {one : Bool} {ps : List V} (hA : σ A = some (.list ps)) (ho : one = true → ps = [.tup [.str l, .none]]) (hm : one = false → 2 ≤ ps.length) (hz : ps.length ≤ 1000) (h : Q (mkBase a l one ps) σ) : MC c (d + 1) .parser "path_term" [.inst .parser px, .int a, .lst A] σ Q := by
 cases one with
 | true => have := ho rfl; subst this; exact path_term1_ok T hA h
 | false => exact path_term2_ok T hA (hm rfl) hz h
theorem mkBase_bare {a : Int} {l : List Nat} {one : Bool} {ps ps' : List V} (h : bareVs ps' = ps) (hz : zeroP ps = ps) : bareV (mkBase a l one ps') = mkBase 0 l one ps := by
 cases one with
 | true => rfl
 | false => show V.tup [_, _, V.tup (zeroP (bareVs ps'))] = _; rw [h, hz]; rfl
theorem ref_end (T : Txt c) (hD : D + 2 ≤ d) (hd : 33 ≤ d) (hz : endR kz) {A : Addr} {a0 : Int} {QF : Fl → Locals → Store → Prop} {l : List Nat} {one : Bool} {ps ps' : List V} {r : V} {k : List Tk} (hs : σ A = some (.list ps')) (ho : one = true → ps' = [.tup [.str l, .none]]) (hm : one = false → 2 ≤ ps'.length) (hl : ps'.length ≤ 1000) (hb : bareVs ps' = ps) (hzp : zeroP ps = ps) (hS : Sel c D (mkBase 0 l one ps) r k) (S : Strm σ px dx ah (k ++ kz))
  (hQ : ∀ ρ kd (a : Int) rs σ', bareV (.tup (.str kd :: .int a :: rs)) = r → (one = true → k = [] → kd = [105, 100] ∧ rs = [.str l]) → K2 px dx σ σ' → Strm σ' px dx ah kz → QF (.ret (.tup (.str kd :: .int a :: rs))) ρ σ') : WW c d (fnScope (meth 34 9)) (wT (nth (fnBody (meth 34 9)) 2)) (wB (nth (fnBody (meth 34 9)) 2)) [] [("parts", .lst A), ("at", .int a0), ("self", .inst .parser px)] σ QF := by
 have hbb := fun a => mkBase_bare (a := a) (l := l) (one := one) hb hzp
 generalize hB : mkBase 0 l one ps = bb at hS
 cases hS with
 | nil =>
  subst hB
  obtain ⟨k0, q, rfl, h1, h2⟩ := hz
  obtain ⟨tx0, a0_, a20_, hpx0, htx0⟩ := S.here
  unfold parNs at hpx0
  refine WW_step ?_
  refine WT_val (WE_bool ?_)
  walk_at "my tr"
  refine ite_t (rfl) (WB_if (WT_val (me ?_)))
  refine WL_str1 ks_53 (MC.mono (accept0_ok (d := 0) T S h1 ?_) (by walk_at "o") fun _ _ q => q)
  walk_at "my tr"
  refine ite_f (rfl) (WB_if (WT_val (me ?_)))
  refine WL_str1 ks_34 (MC.mono (is_op_ok (d := 0) T S ?_) (by walk_at "o") fun _ _ q => q)
  walk_at "my tr"
  refine ite_f (h2) ?_
  refine WB_ret (me ?_)
  refine la ?_
  refine lz ?_
  refine MC.mono (path_term_ok (d := 0) T hs ho hm hl ?_) (by walk_at "o") fun _ _ q => q
  refine N_ret (N_ret (N_ret ?_))
  refine L_ret ?_
  refine hQ _ _ _ _ _ (hbb _) (fun e _ => by subst e; exact ⟨rfl, rfl⟩) (K2.refl px dx _) S
 | @idx _ i r ki k hi h =>
  subst hB
  have S : Strm σ px dx ah (.op [91] :: (ki ++ .op [93] :: (k ++ kz))) := by simpa only [List.cons_append, List.append_assoc] using S
  obtain ⟨x, y, exy, hx⟩ := h.nodot hz
  rw [exy] at S
  obtain ⟨tx0, a0_, a20_, hpx0, htx0⟩ := S.here
  unfold parNs at hpx0
  refine WW_step ?_
  refine WT_val (WE_bool ?_)
  walk_at "my tr"
  refine ite_t (rfl) (WB_if (WT_val (me ?_)))
  refine WL_str1 ks_53 (MC.mono (accept0_ok (d := 0) T S rfl ?_) (by walk_at "o") fun _ _ q => q)
  walk_at "my tr"
  refine ite_f (rfl) (WB_if (WT_val (me ?_)))
  refine WL_str1 ks_34 (MC.mono (is_op_ok (d := 0) T S ?_) (by walk_at "o") fun _ _ q => q)
  walk_at "my tr"
  refine ite_t (rfl) (WB_name (me ?_))
  refine WL_nil (MC.mono (bracket_idx_ok (d := d - 1) T (by walk_at "o") (by walk_at "o") hi S fun v1 σ1 hv1 hv2 hk1 S1 => ?_) (by walk_at "o") fun _ _ q => q)
  obtain ⟨tx1, a1_, a21_, hpx1, htx1⟩ := S1.here
  unfold parNs at hpx1
  have hs1 := hk1.lst S hs
  refine WB_if (WT_or (WT_cmp T.OK (su ?_)))
  refine WE_strE ks_27 (.neS ?_)
  refine ite_f (rfl) (WT_or1 (WT_not (WT_val (me ?_))))
  refine WL_str1 ks_53 (MC.mono (is_op_ok (d := 0) T S1 ?_) (by walk_at "o") fun _ _ q => q)
  walk_at "my tr"
  refine ite_t (congrArg not (hx)) ?_
  refine WB_ret (me ?_)
  refine WL_cons (me ?_)
  refine WL_cons (me ?_)
  refine la ?_
  refine lz ?_
  refine MC.mono (path_term_ok (d := 0) T hs1 ho hm hl ?_) (by walk_at "o") fun _ _ q => q
  refine lz ?_
  refine MC.mono (with_index_ok (d := 0) T ?_) (by walk_at "o") fun _ _ q => q
  refine WL_nil ?_
  rw [← exy] at S1
  refine MC.mono (selects_ok (D := D) (d := d - 1) T (by walk_at "o") (by walk_at "o") hz h (fun _ => rfl) (hv1 _ _ (hbb a0) _) S1 fun kd a rs σ2 hb2 hk2 S2 => ?_) (by walk_at "o") fun _ _ q => q
  refine N_ret (N_ret (N_ret (N_ret ?_)))
  exact L_ret (hQ _ _ _ _ _ hb2 (fun _ z => by cases z) (hk1.trans hk2) S2)
 | fin hF =>
  subst hB
  obtain ⟨q', e'⟩ := hF.hd
  obtain ⟨k0, q, e0, h1, h2⟩ := id hz
  have S' := S
  rw [e'] at S'
  rw [e0] at S
  obtain ⟨tx0, a0_, a20_, hpx0, htx0⟩ := S'.here
  unfold parNs at hpx0
  refine WW_step ?_
  refine WT_val (WE_bool ?_)
  walk_at "my tr"
  refine ite_t (rfl) (WB_if (WT_val (me ?_)))
  refine WL_str1 ks_53 (MC.mono (accept0_ok (d := 0) T S' rfl ?_) (by walk_at "o") fun _ _ q => q)
  walk_at "my tr"
  refine ite_f (rfl) (WB_if (WT_val (me ?_)))
  refine WL_str1 ks_34 (MC.mono (is_op_ok (d := 0) T S' ?_) (by walk_at "o") fun _ _ q => q)
  walk_at "my tr"
  refine ite_t (rfl) (WB_name (me ?_))
  refine WL_nil (MC.mono (bracket_fin_ok (d := d - 1) T (by walk_at "o") (by walk_at "o") hF S fun s v1 v2 σ1 hsx hv1 hk1 S1 => ?_) (by walk_at "o") fun _ _ q => q)
  obtain ⟨tx1, a1_, a21_, hpx1, htx1⟩ := S1.here
  unfold parNs at hpx1
  have hs1 := hk1.lst S hs
  refine WB_if (WT_or (WT_cmp T.OK (su ?_)))
  refine WE_strE ks_27 (.neS ?_)
  refine ite_t (congrArg not (decide_eq_false hsx)) ?_
  refine ite_t rfl (WB_ret (me ?_))
  refine WL_cons (me ?_)
  refine WL_cons (me ?_)
  refine la ?_
  refine lz ?_
  refine MC.mono (path_term_ok (d := 0) T hs1 ho hm hl ?_) (by walk_at "o") fun _ _ q => q
  refine lz ?_
  refine MC.mono (with_part_ok (d := 0) T hsx ?_) (by walk_at "o") fun _ _ q => q
  refine WL_nil ?_
  rw [← e0] at S1
  refine MC.mono (selects_ok (D := D) (d := d - 1) T (by walk_at "o") (by walk_at "o") hz (k := []) .nil (fun z => absurd rfl z) (hv1 _ (hbb a0) _) S1 fun kd a rs σ2 hb2 hk2 S2 => ?_) (by walk_at "o") fun _ _ q => q
  refine N_ret (N_ret (N_ret (N_ret ?_)))
  refine L_ret ?_
  exact hQ _ _ _ _ _ hb2 (fun _ z => by rw [e'] at z; cases z) (hk1.trans hk2) S2
theorem reference_ok (T : Txt c) (hD : D + 2 ≤ d) (hd : 33 ≤ d) (hz : endR kz) {l : List Nat} {ps : List V} {r : V} {k1 k2 : List Tk} (hp : ps.length ≤ 100) (hR : RP c D l ps k1) (hS : Sel c D (mkBase 0 l k1.isEmpty ps) r k2) (S : Strm σ px dx ah (.id l :: (k1 ++ (k2 ++ kz)))) (h : ∀ kd (a : Int) rs σ', bareV (.tup (.str kd :: .int a :: rs)) = r → (k1 = [] → k2 = [] → kd = [105, 100] ∧ rs = [.str l]) → K2 px dx σ σ' → Strm σ' px dx ah kz → Q (.tup (.str kd :: .int a :: rs)) σ') : MC c (d + 1) .parser "reference" [.inst .parser px] σ Q := by
 obtain ⟨tx0, a0_, a20_, hpx0, htx0⟩ := S.here
 unfold parNs at hpx0
 refine MC_fn T.OK T.m_reference ["self"] _ (show WB _ _ _ _ [("self", _)] _ _ from ?_)
 refine WB_name (att ?_)
 refine WB_name (WE_lst (WL_cons (WE_tup (WL_cons (me ?_)))))
 refine WL_nil ?_
 obtain ⟨x, y, exy⟩ : ∃ x y, k1 ++ (k2 ++ kz) = x :: y := by rw [← List.append_assoc]; exact hz.app _
 rw [exy] at S
 refine MC.mono (expect_id_ok (d := 0) T S fun σ1 hk1 S1 => ?_) (by walk_at "o") fun _ _ q => q
 obtain ⟨tx1, a1_, a21_, hpx1, htx1⟩ := S1.here
 unfold parNs at hpx1
 rw [← exy] at S1
 refine WL_cons (WE_none (WL_nil ?_))
 refine ⟨by walk_at "my sz", ?_⟩
 refine WL_nil ?_
 refine ⟨by walk_at "my sz", ?_⟩
 intro A_1 h_1
 refine WB_cons (WS_while ?_)
 obtain ⟨z0, zq, ez⟩ := hz.app k2
 refine WW.weak (ρ := [("parts", .lst A_1), ("at", .int a0_), ("self", .inst .parser px)]) (rp_loop (acc := []) T (by walk_at "o") (by walk_at "o") (ne_ns h_1 S1.ahd) h_1 hR (by simpa using hp) (Store.set_self _ _ _) ((K2.refl px dx _).new h_1) (by rw [← ez]; exact S1.newL h_1) fun ps' σ2 hb2 ho2 hk2 hs2 S2 => ?_) (by walk_at "my sub")
 rw [← ez] at S2
 have hlen := bareVs_len ps'
 rw [hb2] at hlen
 refine ref_end (one := k1.isEmpty) T hD hd hz hs2 (fun e => ho2 (List.isEmpty_iff.mp e)) (fun e => by have := hR.two (by intro z; rw [z] at e; cases e); simp only [List.nil_append]; omega) (by simp only [List.nil_append]; omega) (by simpa using hb2) hR.tups hS S2 fun ρ kd a rs σ3 h1 h2 h3 h4 => ?_
 refine N_ret (R_ret ?_)
 refine h _ _ _ _ h1 (fun e1 e2 => h2 (by rw [e1]; rfl) e2) ((hk1.trans hk2).trans h3) h4
noncomputable def endP (kz : List Tk) : Prop := ∃ k0 q, kz = k0 :: q ∧ isOp k0 [46] = false ∧ isOp k0 [91] = false ∧ isOp k0 [40] = false
theorem endP.R {kz : List Tk} (h : endP kz) : endR kz := let ⟨a, b, e, h1, h2, _⟩ := h; ⟨a, b, e, h1, h2⟩
theorem np_ref_ok (T : Txt c) (hD : D + 3 ≤ d) (hd : 34 ≤ d) (hz : endP kz) {l : List Nat} {ps : List V} {r : V} {k1 k2 : List Tk} (hp : ps.length ≤ 100) (hR : RP c D l ps k1) (hS : Sel c D (mkBase 0 l k1.isEmpty ps) r k2) (S : Strm σ px dx ah (.id l :: (k1 ++ (k2 ++ kz)))) (h : ∀ v σ', bareV v = r → K2 px dx σ σ' → Strm σ' px dx ah kz → Q v σ') : MC c (d + 1) .parser "named_primary" [.inst .parser px] σ Q := by
 obtain ⟨tx0, a0_, a20_, hpx0, htx0⟩ := S.here
 unfold parNs at hpx0
 refine MC_fn T.OK T.m_named_primary ["self"] _ (show WB _ _ _ _ [("self", _)] _ _ from ?_)
 refine WB_name (me ?_)
 refine WL_nil (MC.mono (reference_ok (d := d - 1) T (by walk_at "o") (by walk_at "o") hz.R hp hR hS S fun kd a rs σ1 hbr _ hk1 S1 => ?_) (by walk_at "o") fun _ _ q => q)
 have S2 := S1
 obtain ⟨k0, q, e0, _, _, h3⟩ := hz
 rw [e0] at S1
 obtain ⟨tx1, a1_, a21_, hpx1, htx1⟩ := S1.here
 unfold parNs at hpx1
 refine WB_if (WT_and (WT_cmp T.OK (su ?_)))
 refine WE_strE ks_38 (.eqS ?_)
 refine ite_b (fun hb1 => ?_) (fun hb1 => ?_)
 ·refine WT_and1 (WT_val (me ?_))
  refine WL_str1 ks_84 (MC.mono (is_op_ok (d := 0) T S1 ?_) (by walk_at "o") fun _ _ q => q)
  walk_at "my tr"
  refine ite_f (h3) ?_
  refine WB_nil (WB_ret (lo ?_))
  exact h _ _ hbr hk1 S2
 ·refine ite_f rfl (WB_nil (WB_ret (lo ?_)))
  exact h _ _ hbr hk1 S2
theorem np_call0_ok (T : Txt c) (hD : D + 3 ≤ d) (hd : 34 ≤ d) {l : List Nat}  (S : Strm σ px dx ah (.id l :: .op [40] :: .op [41] :: k2 :: ks)) (h : ∀ v σ', bareV v = .tup [.str [99, 97, 108, 108], .int 0, .str l, .tup []] → K2 px dx σ σ' → Strm σ' px dx ah (k2 :: ks) → Q v σ') : MC c (d + 1) .parser "named_primary" [.inst .parser px] σ Q := by
 obtain ⟨tx0, a0_, a20_, hpx0, htx0⟩ := S.here
 unfold parNs at hpx0
 refine MC_fn T.OK T.m_named_primary ["self"] _ (show WB _ _ _ _ [("self", _)] _ _ from ?_)
 refine WB_name (me ?_)
 refine WL_nil (MC.mono (reference_ok (D := 0) (k1 := []) (k2 := []) (d := d - 1) T (by walk_at "o") (by walk_at "o") ⟨_, _, rfl, rfl, rfl⟩ (by simp) .done .nil S fun kd a rs σ1 hb1 hid hk1 S1 => ?_) (by walk_at "o") fun _ _ q => q)
 obtain ⟨rfl, rfl⟩ := hid rfl rfl
 obtain ⟨tx1, a1_, a21_, hpx1, htx1⟩ := S1.here
 unfold parNs at hpx1
 refine WB_if (WT_and (WT_cmp T.OK (su ?_)))
 refine WE_strE ks_38 (.eqS ?_)
 refine ite_t (rfl) (WT_and1 (WT_val (me ?_)))
 refine WL_str1 ks_84 (MC.mono (is_op_ok (d := 0) T S1 ?_) (by walk_at "o") fun _ _ q => q)
 walk_at "my tr"
 refine ite_t (rfl) (WB_ret (WE_tup (WL_str ks_42 (WL_cons (su ?_)))))
 refine WL_cons (su ?_)
 refine WL_cons (me ?_)
 refine WL_nil (MC.mono (args0_ok (d := d - 1) T (by walk_at "o") S1 fun σ2 hk2 S2 => ?_) (by walk_at "o") fun _ _ q => q)
 refine WL_nil ?_
 refine ⟨by walk_at "my sz", ?_⟩
 exact h _ _ (by simp [bareV, bareVs, zeroP]) (hk1.trans hk2) S2
theorem np_call_ok (T : Txt c) (hD : D + 3 ≤ d) (hd : 34 ≤ d) {l : List Nat} {vs : List V} {k : List Tk} (hL : ExF c D vs k) (hz : vs.length ≤ 100) (ht : zeroP vs = vs) (S : Strm σ px dx ah (.id l :: .op [40] :: (k ++ .op [41] :: k2 :: ks))) (h : ∀ v σ', bareV v = .tup [.str [99, 97, 108, 108], .int 0, .str l, .tup vs] → K2 px dx σ σ' → Strm σ' px dx ah (k2 :: ks) → Q v σ') : MC c (d + 1) .parser "named_primary" [.inst .parser px] σ Q := by
 obtain ⟨tx0, a0_, a20_, hpx0, htx0⟩ := S.here
 unfold parNs at hpx0
 refine MC_fn T.OK T.m_named_primary ["self"] _ (show WB _ _ _ _ [("self", _)] _ _ from ?_)
 refine WB_name (me ?_)
 refine WL_nil (MC.mono (reference_ok (D := 0) (k1 := []) (k2 := []) (d := d - 1) T (by walk_at "o") (by walk_at "o") ⟨_, _, rfl, rfl, rfl⟩ (by simp) .done .nil S fun kd a rs σ1 hb1 hid hk1 S1 => ?_) (by walk_at "o") fun _ _ q => q)
 obtain ⟨rfl, rfl⟩ := hid rfl rfl
 obtain ⟨tx1, a1_, a21_, hpx1, htx1⟩ := S1.here
 unfold parNs at hpx1
 refine WB_if (WT_and (WT_cmp T.OK (su ?_)))
 refine WE_strE ks_38 (.eqS ?_)
 refine ite_t (rfl) (WT_and1 (WT_val (me ?_)))
 refine WL_str1 ks_84 (MC.mono (is_op_ok (d := 0) T S1 ?_) (by walk_at "o") fun _ _ q => q)
 walk_at "my tr"
 refine ite_t (rfl) (WB_ret (WE_tup (WL_str ks_42 (WL_cons (su ?_)))))
 refine WL_cons (su ?_)
 refine WL_cons (me ?_)
 refine WL_nil (MC.mono (args_ok (d := d - 1) T (by walk_at "o") (by walk_at "o") hL hz S1 fun ws σ2 hws hk2 S2 => ?_) (by walk_at "o") fun _ _ q => q)
 refine WL_nil ?_
 refine ⟨by walk_at "my sz", ?_⟩
 exact h _ _ (by show V.tup [_, _, _, V.tup (zeroP (bareVs ws))] = _; rw [hws, ht]; rfl) (hk1.trans hk2) S2
end
noncomputable def PrC (c : Cx) (D : Nat) (k : List Tk) (v : V) : Prop := ∀ {σ : Store} {px dx ah : Addr} {ks : List Tk} {Q : V → Store → Prop}, Strm σ px dx ah (k ++ ks) → endP ks → (∀ v' σ', bareV v' = v → K2 px dx σ σ' → Strm σ' px dx ah ks → Q v' σ') → MC c D .parser "primary" [.inst .parser px] σ Q
theorem PrC.up {c : Cx} {D D' : Nat} {k : List Tk} {v : V} (h : PrC c D k v) (hd : D ≤ D') : PrC c D' k v := fun S st q => MC.mono (h S st q) hd fun _ _ z => z
section
variable {c : Cx} {d D : Nat} {σ : Store} {Q : V → Store → Prop} {px dx ah : Addr} {ks kz : List Tk} {k2 : Tk}
theorem pr_num_ok (T : Txt c) {sz ba dg : List Nat} {sn sg sd : Bool} {vv v0 : V} (hd : 30 ≤ d) (hN : ∀ {σ : Store} {Q : V → Store → Prop} {at_ : V}, Q (.tup [vv, .bool sg, .bool sd]) σ → CF c d "numeral" [.tup [.str sz, .str ba, .bool sn, .str dg], at_] σ Q) (hv : ∀ a : Int, bareV (.tup [.str [110, 117, 109], .int a, vv, .bool sg, .bool sd]) = v0) (S : Strm σ px dx ah (.num sz ba sn dg :: k2 :: ks)) (h : ∀ v σ', bareV v = v0 → K2 px dx σ σ' → Strm σ' px dx ah (k2 :: ks) → Q v σ') : MC c (d + 1) .parser "primary" [.inst .parser px] σ Q := by
 obtain ⟨tx0, a0_, a20_, hpx0, htx0⟩ := S.here
 unfold parNs at hpx0
 unfold tokNs at htx0
 simp only [Tk.kind, Tk.val] at htx0
 refine MC_fn T.OK T.m_primary ["self"] _ (show WB _ _ _ _ [("self", _)] _ _ from ?_)
 refine WB_name (WE_attr T.OK (fun _ _ => rfl) (att ?_))
 refine ea ?_
 refine WB_name (att ?_)
 refine WB_if (WT_eqLS ks_36 ?_)
 refine ite_t (rfl) (WB_cons (WS_tup ?_ (fun _ _ _ => rfl) (fun _ => rfl)))
 refine ca ?_
 refine WL_cons (WE_attr T.OK (fun _ _ => rfl) (att ?_))
 refine ea ?_
 refine lz ?_
 refine hN ?_
 refine G_tup3 (by decide +kernel) ?_
 refine WB_expr (me ?_)
 refine WL_nil (MC.mono (take_ok (d := 0) T S fun tk1 σ1 at1 hk1 S1 ht1 => ?_) (by walk_at "o") fun _ _ q => q)
 obtain ⟨tx1, a1_, a21_, hpx1, htx1⟩ := S1.here
 unfold parNs at hpx1
 refine WB_ret (WE_tup (WL_str ks_36 (la ?_)))
 refine la ?_
 refine la ?_
 refine lz ?_
 refine ⟨by walk_at "my sz", ?_⟩
 exact h _ _ (hv _) hk1 S1
theorem pr_str_ok (T : Txt c) {l : List Nat} {v0 : V} (hd : 30 ≤ d) (hv : ∀ a : Int, bareV (.tup [.str [115, 116, 114], .int a, .str l]) = v0) (S : Strm σ px dx ah (.str l :: k2 :: ks)) (h : ∀ v σ', bareV v = v0 → K2 px dx σ σ' → Strm σ' px dx ah (k2 :: ks) → Q v σ') : MC c (d + 1) .parser "primary" [.inst .parser px] σ Q := by
 obtain ⟨tx0, a0_, a20_, hpx0, htx0⟩ := S.here
 unfold parNs at hpx0
 unfold tokNs at htx0
 simp only [Tk.kind, Tk.val] at htx0
 refine MC_fn T.OK T.m_primary ["self"] _ (show WB _ _ _ _ [("self", _)] _ _ from ?_)
 refine WB_name (WE_attr T.OK (fun _ _ => rfl) (att ?_))
 refine ea ?_
 refine WB_name (att ?_)
 refine WB_if (WT_eqLS ks_36 ?_)
 refine ite_f (rfl) (WB_nil (WB_if (WT_eqLS ks_37 ?_)))
 refine ite_t (rfl) (WB_name (WE_attr T.OK (fun _ _ => rfl) (att ?_)))
 refine ea ?_
 refine WB_expr (me ?_)
 refine WL_nil (MC.mono (take_ok (d := 0) T S fun tk1 σ1 at1 hk1 S1 ht1 => ?_) (by walk_at "o") fun _ _ q => q)
 obtain ⟨tx1, a1_, a21_, hpx1, htx1⟩ := S1.here
 unfold parNs at hpx1
 refine WB_ret (WE_tup (WL_str ks_37 (la ?_)))
 refine lz ?_
 refine ⟨by walk_at "my sz", ?_⟩
 exact h _ _ (hv _) hk1 S1
theorem pr_sys0_ok (T : Txt c) {l : List Nat} {v0 : V} (hd : 30 ≤ d) (hk : isOp k2 [40] = false) (hv : ∀ a : Int, bareV (.tup [.str [115, 121, 115], .int a, .str l, .tup []]) = v0) (S : Strm σ px dx ah (.sys l :: k2 :: ks)) (h : ∀ v σ', bareV v = v0 → K2 px dx σ σ' → Strm σ' px dx ah (k2 :: ks) → Q v σ') : MC c (d + 1) .parser "primary" [.inst .parser px] σ Q := by
 obtain ⟨tx0, a0_, a20_, hpx0, htx0⟩ := S.here
 unfold parNs at hpx0
 unfold tokNs at htx0
 simp only [Tk.kind, Tk.val] at htx0
 refine MC_fn T.OK T.m_primary ["self"] _ (show WB _ _ _ _ [("self", _)] _ _ from ?_)
 refine WB_name (WE_attr T.OK (fun _ _ => rfl) (att ?_))
 refine ea ?_
 refine WB_name (att ?_)
 refine WB_if (WT_eqLS ks_36 ?_)
 refine ite_f (rfl) (WB_nil (WB_if (WT_eqLS ks_37 ?_)))
 refine ite_f (rfl) (WB_nil (WB_if (WT_eqLS ks_43 ?_)))
 refine ite_t (rfl) (WB_name (WE_attr T.OK (fun _ _ => rfl) (att ?_)))
 refine ea ?_
 refine WB_expr (me ?_)
 refine WL_nil (MC.mono (take_ok (d := 0) T S fun tk1 σ1 at1 hk1 S1 ht1 => ?_) (by walk_at "o") fun _ _ q => q)
 obtain ⟨tx1, a1_, a21_, hpx1, htx1⟩ := S1.here
 unfold parNs at hpx1
 refine WB_if (WT_val (me ?_))
 refine WL_str1 ks_84 (MC.mono (is_op_ok (d := 0) T S1 ?_) (by walk_at "o") fun _ _ q => q)
 walk_at "my tr"
 refine ite_f (hk) ?_
 refine WB_nil (WB_ret (WE_tup (WL_str ks_43 (la ?_))))
 refine la ?_
 refine WL_cons (WE_tup (WL_nil ?_))
 refine ⟨by walk_at "my sz", ?_⟩
 refine WL_nil ?_
 refine ⟨by walk_at "my sz", ?_⟩
 exact h _ _ (hv _) hk1 S1
theorem pr_sysA_ok (T : Txt c) {l : List Nat} {v0 : V} (hd : 31 ≤ d) (hv : ∀ a : Int, bareV (.tup [.str [115, 121, 115], .int a, .str l, .tup []]) = v0) (S : Strm σ px dx ah (.sys l :: .op [40] :: .op [41] :: k2 :: ks)) (h : ∀ v σ', bareV v = v0 → K2 px dx σ σ' → Strm σ' px dx ah (k2 :: ks) → Q v σ') : MC c (d + 1) .parser "primary" [.inst .parser px] σ Q := by
 obtain ⟨tx0, a0_, a20_, hpx0, htx0⟩ := S.here
 unfold parNs at hpx0
 unfold tokNs at htx0
 simp only [Tk.kind, Tk.val] at htx0
 refine MC_fn T.OK T.m_primary ["self"] _ (show WB _ _ _ _ [("self", _)] _ _ from ?_)
 refine WB_name (WE_attr T.OK (fun _ _ => rfl) (att ?_))
 refine ea ?_
 refine WB_name (att ?_)
 refine WB_if (WT_eqLS ks_36 ?_)
 refine ite_f (rfl) (WB_nil (WB_if (WT_eqLS ks_37 ?_)))
 refine ite_f (rfl) (WB_nil (WB_if (WT_eqLS ks_43 ?_)))
 refine ite_t (rfl) (WB_name (WE_attr T.OK (fun _ _ => rfl) (att ?_)))
 refine ea ?_
 refine WB_expr (me ?_)
 refine WL_nil (MC.mono (take_ok (d := 0) T S fun tk1 σ1 at1 hk1 S1 ht1 => ?_) (by walk_at "o") fun _ _ q => q)
 obtain ⟨tx1, a1_, a21_, hpx1, htx1⟩ := S1.here
 unfold parNs at hpx1
 refine WB_if (WT_val (me ?_))
 refine WL_str1 ks_84 (MC.mono (is_op_ok (d := 0) T S1 ?_) (by walk_at "o") fun _ _ q => q)
 walk_at "my tr"
 refine ite_t (rfl) (WB_ret (WE_tup (WL_str ks_43 (la ?_))))
 refine la ?_
 refine WL_cons (me ?_)
 refine WL_nil (MC.mono (args0_ok (d := d - 1) T (by walk_at "o") S1 fun σ2 hk2 S2 => ?_) (by walk_at "o") fun _ _ q => q)
 refine WL_nil ?_
 refine ⟨by walk_at "my sz", ?_⟩
 exact h _ _ (hv _) (hk1.trans hk2) S2
theorem pr_sys_ok (T : Txt c) {l : List Nat} {v0 : V} (hD : D + 2 ≤ d) (hd : 32 ≤ d) {vs : List V} {k : List Tk} (hL : ExF c D vs k) (hz : vs.length ≤ 100) (hv : ∀ (a : Int) ws, bareVs ws = vs → bareV (.tup [.str [115, 121, 115], .int a, .str l, .tup ws]) = v0) (S : Strm σ px dx ah (.sys l :: .op [40] :: (k ++ .op [41] :: k2 :: ks))) (h : ∀ v σ', bareV v = v0 → K2 px dx σ σ' → Strm σ' px dx ah (k2 :: ks) → Q v σ') : MC c (d + 1) .parser "primary" [.inst .parser px] σ Q := by
 obtain ⟨tx0, a0_, a20_, hpx0, htx0⟩ := S.here
 unfold parNs at hpx0
 unfold tokNs at htx0
 simp only [Tk.kind, Tk.val] at htx0
 refine MC_fn T.OK T.m_primary ["self"] _ (show WB _ _ _ _ [("self", _)] _ _ from ?_)
 refine WB_name (WE_attr T.OK (fun _ _ => rfl) (att ?_))
 refine ea ?_
 refine WB_name (att ?_)
 refine WB_if (WT_eqLS ks_36 ?_)
 refine ite_f (rfl) (WB_nil (WB_if (WT_eqLS ks_37 ?_)))
 refine ite_f (rfl) (WB_nil (WB_if (WT_eqLS ks_43 ?_)))
 refine ite_t (rfl) (WB_name (WE_attr T.OK (fun _ _ => rfl) (att ?_)))
 refine ea ?_
 refine WB_expr (me ?_)
 refine WL_nil (MC.mono (take_ok (d := 0) T S fun tk1 σ1 at1 hk1 S1 ht1 => ?_) (by walk_at "o") fun _ _ q => q)
 obtain ⟨tx1, a1_, a21_, hpx1, htx1⟩ := S1.here
 unfold parNs at hpx1
 refine WB_if (WT_val (me ?_))
 refine WL_str1 ks_84 (MC.mono (is_op_ok (d := 0) T S1 ?_) (by walk_at "o") fun _ _ q => q)
 walk_at "my tr"
 refine ite_t (rfl) (WB_ret (WE_tup (WL_str ks_43 (la ?_))))
 refine la ?_
 refine WL_cons (me ?_)
 refine WL_nil (MC.mono (args_ok (d := d - 1) T (by walk_at "o") (by walk_at "o") hL hz S1 fun ws σ2 hws hk2 S2 => ?_) (by walk_at "o") fun _ _ q => q)
 refine WL_nil ?_
 refine ⟨by walk_at "my sz", ?_⟩
 exact h _ _ (hv _ _ hws) (hk1.trans hk2) S2
theorem pr_named_ok (T : Txt c) {l : List Nat} (S : Strm σ px dx ah (.id l :: ks)) (hn : MC c d .parser "named_primary" [.inst .parser px] σ Q) : MC c (d + 1) .parser "primary" [.inst .parser px] σ Q := by
 obtain ⟨tx0, a0_, a20_, hpx0, htx0⟩ := S.here
 unfold parNs at hpx0
 unfold tokNs at htx0
 simp only [Tk.kind, Tk.val] at htx0
 refine MC_fn T.OK T.m_primary ["self"] _ (show WB _ _ _ _ [("self", _)] _ _ from ?_)
 refine WB_name (WE_attr T.OK (fun _ _ => rfl) (att ?_))
 refine ea ?_
 refine WB_name (att ?_)
 refine WB_if (WT_eqLS ks_36 ?_)
 refine ite_f (rfl) (WB_nil (WB_if (WT_eqLS ks_37 ?_)))
 refine ite_f (rfl) (WB_nil (WB_if (WT_eqLS ks_43 ?_)))
 refine ite_f (rfl) (WB_nil (WB_if (WT_eqLS ks_38 ?_)))
 refine ite_t (rfl) (WB_ret (me ?_))
 refine WL_nil (MC.mono hn (by walk_at "o") fun _ _ q => ?_)
 exact q
theorem pr_paren_ok (T : Txt c) (hD : D + 1 ≤ d) (hd : 31 ≤ d) {v : V} {k : List Tk} (hE : ExH c D k v) (S : Strm σ px dx ah (.op [40] :: (k ++ .op [41] :: k2 :: ks))) (h : ∀ v1 σ', bareV v1 = v → K2 px dx σ σ' → Strm σ' px dx ah (k2 :: ks) → Q v1 σ') : MC c (d + 1) .parser "primary" [.inst .parser px] σ Q := by
 obtain ⟨tx0, a0_, a20_, hpx0, htx0⟩ := S.here
 unfold parNs at hpx0
 unfold tokNs at htx0
 simp only [Tk.kind, Tk.val] at htx0
 obtain ⟨x0, y0, e0⟩ := app_ne (k' := []) (ks := .op [41] :: k2 :: ks) hE.hd
 refine MC_fn T.OK T.m_primary ["self"] _ (show WB _ _ _ _ [("self", _)] _ _ from ?_)
 refine WB_name (WE_attr T.OK (fun _ _ => rfl) (att ?_))
 refine ea ?_
 refine WB_name (att ?_)
 refine WB_if (WT_eqLS ks_36 ?_)
 refine ite_f (rfl) (WB_nil (WB_if (WT_eqLS ks_37 ?_)))
 refine ite_f (rfl) (WB_nil (WB_if (WT_eqLS ks_43 ?_)))
 refine ite_f (rfl) (WB_nil (WB_if (WT_eqLS ks_38 ?_)))
 refine ite_f (rfl) (WB_nil (WB_if (WT_val (me ?_))))
 refine WL_str1 ks_84 (MC.mono (accept1_ok (d := 0) T (e0 ▸ S) rfl fun σ1 hk1 S1 => ?_) (by walk_at "o") fun _ _ q => q)
 obtain ⟨tx1, a1_, a21_, hpx1, htx1⟩ := S1.here
 unfold parNs at hpx1
 rw [← e0] at S1
 walk_at "my tr"
 refine ite_t (rfl) (WB_name (me ?_))
 refine WL_nil (MC.mono (paren_ok (d := d - 1) T (by walk_at "o") (by walk_at "o") hE S1 fun v1 σ2 hv1 hk2 S2 => ?_) (by walk_at "o") fun _ _ q => q)
 obtain ⟨tx2, a2_, a22_, hpx2, htx2⟩ := S2.here
 unfold parNs at hpx2
 refine WB_expr (me ?_)
 refine WL_str1 ks_89 (MC.mono (expect_ok (d := 0) T S2 rfl fun σ3 hk3 S3 => ?_) (by walk_at "o") fun _ _ q => q)
 obtain ⟨tx3, a3_, a23_, hpx3, htx3⟩ := S3.here
 unfold parNs at hpx3
 refine WB_ret (lo ?_)
 exact h _ _ hv1 ((hk1.trans hk2).trans hk3) S3
theorem pr_braces_ok (T : Txt c) (hd : 30 ≤ d) (S : Strm σ px dx ah (.op [123] :: ks)) (hn : MC c d .parser "braces" [.inst .parser px] σ Q) : MC c (d + 1) .parser "primary" [.inst .parser px] σ Q := by
 obtain ⟨tx0, a0_, a20_, hpx0, htx0⟩ := S.here
 unfold parNs at hpx0
 unfold tokNs at htx0
 simp only [Tk.kind, Tk.val] at htx0
 refine MC_fn T.OK T.m_primary ["self"] _ (show WB _ _ _ _ [("self", _)] _ _ from ?_)
 refine WB_name (WE_attr T.OK (fun _ _ => rfl) (att ?_))
 refine ea ?_
 refine WB_name (att ?_)
 refine WB_if (WT_eqLS ks_36 ?_)
 refine ite_f (rfl) (WB_nil (WB_if (WT_eqLS ks_37 ?_)))
 refine ite_f (rfl) (WB_nil (WB_if (WT_eqLS ks_43 ?_)))
 refine ite_f (rfl) (WB_nil (WB_if (WT_eqLS ks_38 ?_)))
 refine ite_f (rfl) (WB_nil (WB_if (WT_val (me ?_))))
 refine WL_str1 ks_84 (MC.mono (accept0_ok (d := 0) T S rfl ?_) (by walk_at "o") fun _ _ q => q)
 walk_at "my tr"
 refine ite_f (rfl) (WB_nil (WB_if (WT_val (me ?_))))
 refine WL_str1 ks_85 (MC.mono (is_op_ok (d := 0) T S ?_) (by walk_at "o") fun _ _ q => q)
 walk_at "my tr"
 refine ite_t (rfl) (WB_ret (me ?_))
 refine WL_nil (MC.mono hn (by walk_at "o") fun _ _ q => ?_)
 exact q
end
noncomputable def sgn : Tk → Bool
 | .op l => isUn l
 | _ => false
noncomputable def UnC (c : Cx) (D : Nat) (k : List Tk) (v : V) : Prop := ∀ {σ : Store} {px dx ah : Addr} {ks : List Tk} {Q : V → Store → Prop}, Strm σ px dx ah (k ++ ks) → endP ks → (∀ v' σ', bareV v' = v → K2 px dx σ σ' → Strm σ' px dx ah ks → Q v' σ') → MC c D .parser "unary" [.inst .parser px] σ Q
theorem UnC.up {c : Cx} {D D' : Nat} {k : List Tk} {v : V} (h : UnC c D k v) (hd : D ≤ D') : UnC c D' k v := fun S st q => MC.mono (h S st q) hd fun _ _ z => z
theorem endP.cons {ks : List Tk} (h : endP ks) : ∃ a b, ks = a :: b := let ⟨a, b, e, _⟩ := h; ⟨a, b, e⟩
section
variable {c : Cx} {d D : Nat} {σ : Store} {Q : V → Store → Prop} {px dx ah : Addr} {ks kz : List Tk} {k2 : Tk}
theorem un_test (T : Txt c) {a : Tk} {ρ : Locals} {R : Bool → Store → Prop} (hd : 30 ≤ d) (hl : lk "self" ρ = some (.inst .parser px)) (S : Strm σ px dx ah (a :: ks)) (h : R (sgn a) σ) : WT c d (fnScope (meth 34 2)) (wT (nth (fnBody (meth 34 2)) 1)) ρ σ R := by
 cases a with
 | op l =>
  obtain ⟨tx0, a0_, a20_, hpx0, htx0⟩ := S.here
  unfold parNs at hpx0
  unfold tokNs at htx0
  simp only [Tk.kind, Tk.val] at htx0
  refine WT_and (WT_cmp T.OK (WE_attr T.OK (fun _ _ => rfl) (WE_attr T.OK (fun _ _ => rfl) (WE_loc hl ?_))))
  refine ea ?_
  refine ea ?_
  refine WE_strE ks_59 (.eqS ?_)
  refine ite_t (rfl) (WT_and1 (WT_val (ca ?_)))
  refine WL_cons (WE_attr T.OK (fun _ _ => rfl) (WE_attr T.OK (fun _ _ => rfl) (WE_loc hl ?_)))
  refine ea ?_
  refine ea ?_
  refine WL_nil (CF.mono (is_unary_ok (d := 0) T ?_) (by walk_at "o") fun _ _ q => q)
  walk_at "my tr"
  exact h
 | _ =>
  obtain ⟨tx0, a0_, a20_, hpx0, htx0⟩ := S.here
  unfold parNs at hpx0
  unfold tokNs at htx0
  simp only [Tk.kind, Tk.val] at htx0
  refine WT_and (WT_cmp T.OK (WE_attr T.OK (fun _ _ => rfl) (WE_attr T.OK (fun _ _ => rfl) (WE_loc hl ?_))))
  refine ea ?_
  refine ea ?_
  refine WE_strE ks_59 (.eqS ?_)
  exact ite_f (rfl) h
theorem un0_ok (T : Txt c) (hD : D ≤ d) (hd : 30 ≤ d) {v : V} {k : List Tk} (hn : ∃ a b, k = a :: b ∧ sgn a = false) (hp : PrC c D k v) (he : endP ks) (S : Strm σ px dx ah (k ++ ks)) (h : ∀ v1 σ', bareV v1 = v → K2 px dx σ σ' → Strm σ' px dx ah ks → Q v1 σ') : MC c (d + 1) .parser "unary" [.inst .parser px] σ Q := by
 refine MC_fn T.OK T.m_unary ["self"] _ (show WB _ _ _ _ [("self", _)] _ _ from ?_)
 refine WB_name (WE_lst (WL_nil ?_))
 refine ⟨by walk_at "my sz", ?_⟩
 intro A_1 h_1
 refine WB_cons (WS_while ?_)
 obtain ⟨a, b, rfl, ha⟩ := hn
 have S1 := S.newL (o := .list []) h_1
 obtain ⟨tx1, a1_, a21_, hpx1, htx1⟩ := S1.here
 unfold parNs at hpx1
 refine WW_step ?_
 refine un_test T (by walk_at "o") (by walk_at "my lk") S1 ?_
 rw [ha]
 refine ite_f rfl (WB_nil (WB_name (me ?_)))
 refine WL_nil (MC.mono (hp S1 he fun v1 σ3 hv1 hk3 S3 => ?_) (by walk_at "o") fun _ _ q => q)
 have hAz := hk3.lst S1 (Store.set_self _ _ _)
 refine WB_cons (WS_for_rev T.OK (by decide +kernel) (T.bi ("reversed", .type "reversed") (by simp [biNames])) rfl ?_ (fun _ _ => rfl))
 refine lo ?_
 refine ⟨_, _, rfl, hAz, ?_⟩
 simp only [List.reverse_cons, List.reverse_nil, List.nil_append]
 refine WF_nil ?_
 refine WB_nil (WB_ret (lo ?_))
 refine N_ret (R_ret ?_)
 have hx : K2 px dx σ σ3 := fun b p e h1 h2 => hk3 b p (((K2.refl px dx σ).new h_1) b p e h1 h2) h1 h2
 exact h v1 _ hv1 (hx.delA h_1) (S3.delL hAz (ne_ns h_1 S.ahd))
theorem un1_ok (T : Txt c) (hD : D ≤ d) (hd : 30 ≤ d) {v : V} {o : List Nat} {k : List Tk} (ho : isUn o = true) (hop : o ≠ [94, 126]) (hn : ∃ a b, k = a :: b ∧ sgn a = false) (hp : PrC c D k v) (he : endP ks) (S : Strm σ px dx ah (.op o :: (k ++ ks))) (h : ∀ (a : Int) v1 σ', bareV v1 = v → K2 px dx σ σ' → Strm σ' px dx ah ks → Q (.tup [.str [117, 110], .int a, .str o, v1]) σ') : MC c (d + 1) .parser "unary" [.inst .parser px] σ Q := by
 obtain ⟨tx0, a0_, a20_, hpx0, htx0⟩ := S.here
 unfold parNs at hpx0
 refine MC_fn T.OK T.m_unary ["self"] _ (show WB _ _ _ _ [("self", _)] _ _ from ?_)
 refine WB_name (WE_lst (WL_nil ?_))
 refine ⟨by walk_at "my sz", ?_⟩
 intro A_1 h_1
 refine WB_cons (WS_while ?_)
 have hpA : px ≠ A_1 := ne_sn hpx0 h_1
 obtain ⟨a, b, rfl, ha⟩ := hn
 have S1 := S.newL (o := .list []) h_1
 obtain ⟨tx1, a1_, a21_, hpx1, htx1⟩ := S1.here
 unfold parNs at hpx1
 unfold tokNs at htx1
 simp only [Tk.kind, Tk.val] at htx1
 refine WW_step ?_
 refine un_test T (by walk_at "o") (by walk_at "my lk") S1 ?_
 refine ite_t ho ?_
 refine WB_expr (WE_meth T.OK (lo ?_))
 refine ⟨_, GM_lst (by walk_at "my st") slot_list_append type_list_append, ?_⟩
 refine WL_cons (WE_tup (WL_cons (att ?_)))
 refine WL_cons (ca ?_)
 refine WL_cons (WE_attr T.OK (fun _ _ => rfl) (att ?_))
 refine ea ?_
 refine WL_nil (CF.mono (plain_operator_ok (d := 0) T hop ?_) (by walk_at "o") fun _ _ q => q)
 refine WL_nil ?_
 refine ⟨by walk_at "my sz", ?_⟩
 refine WL_nil ?_
 refine CV_append (by walk_at "my st") (by rw [sizeLine_eq]; decide) ?_
 refine WB_expr (me ?_)
 refine WL_nil ?_
 have S1b := S1.setL (ws := [] ++ [.tup [.int a1_, .str o]]) (Store.set_self _ _ _) (ne_ns h_1 S.ahd)
 rw [Store.set_set] at S1b ⊢
 refine MC.mono (take_ok (d := 0) T S1b fun tk2 σ2 at2 hk2 S2 ht2 => ?_) (by walk_at "o") fun _ _ q => q
 obtain ⟨tx2, a2_, a22_, hpx2, htx2⟩ := S2.here
 unfold parNs at hpx2
 refine WB_nil (L_next (WW_step ?_))
 refine un_test T (by walk_at "o") (by walk_at "my lk") S2 ?_
 rw [ha]
 refine ite_f rfl (WB_nil (WB_name (me ?_)))
 refine WL_nil (MC.mono (hp S2 he fun v1 σ3 hv1 hk3 S3 => ?_) (by walk_at "o") fun _ _ q => q)
 have hAz := hk3.lst S2 (hk2.lst S1b (Store.set_self _ _ _))
 refine WB_cons (WS_for_rev T.OK (by decide +kernel) (T.bi ("reversed", .type "reversed") (by simp [biNames])) rfl ?_ (fun _ _ => rfl))
 refine lo ?_
 refine ⟨_, _, rfl, hAz, ?_⟩
 simp only [List.reverse_cons, List.reverse_nil, List.nil_append]
 refine WF_cons ?_
 refine G_tup2 (by decide +kernel) ?_
 refine WB_name (WE_tup (WL_str ks_31 (la ?_)))
 refine la ?_
 refine lz ?_
 refine ⟨by walk_at "my sz", ?_⟩
 refine WB_nil (L_next (WF_nil ?_))
 refine WB_nil (WB_ret (lo ?_))
 refine N_ret (R_ret ?_)
 have hx : K2 px dx σ σ3 := fun b p e h1 h2 => hk3 b p (hk2 b p (((K2.refl px dx σ).new h_1) b p e h1 h2) h1 h2) h1 h2
 exact h a1_ v1 _ hv1 (hx.delA h_1) (S3.delL hAz (ne_ns h_1 S.ahd))
end
noncomputable def bp : List Tk → Nat
 | .op l :: _ => prec l
 | _ => 0
noncomputable def BiC (c : Cx) (D m : Nat) (k : List Tk) (v : V) : Prop := ∀ {σ : Store} {px dx ah : Addr} {ks : List Tk} {Q : V → Store → Prop}, Strm σ px dx ah (k ++ ks) → endP ks → bp ks < m → (∀ v' σ', bareV v' = v → K2 px dx σ σ' → Strm σ' px dx ah ks → Q v' σ') → MC c D .parser "binary" [.inst .parser px, .int (m : Nat)] σ Q
theorem BiC.up {c : Cx} {D D' m : Nat} {k : List Tk} {v : V} (h : BiC c D m k v) (hd : D ≤ D') : BiC c D' m k v := fun S st hb q => MC.mono (h S st hb q) hd fun _ _ z => z
noncomputable def mkBin (op : List Nat) (v w : V) : V := .tup [.str [98, 105, 110], .int 0, .str op, v, w]
inductive Spn (c : Cx) (D m : Nat) : V → List Tk → V → Nat → Prop where
 | nil {v} : Spn c D m v [] v 13
 | snoc {v k w b op kr r} (h : Spn c D m v k w b) (h1 : m ≤ prec op) (h2 : 1 ≤ prec op) (h3 : prec op ≤ b) (h4 : op ≠ [94, 126]) (hn : kr ≠ []) (hr : BiC c D (prec op + 1) kr r) : Spn c D m v (k ++ .op op :: kr) (mkBin op w r) (prec op)
theorem prec_ops {op : List Nat} (h : 1 ≤ prec op) : op ≠ [46] ∧ op ≠ [91] ∧ op ≠ [40] ∧ op ≠ [63] := by
 refine ⟨?_, ?_, ?_, ?_⟩ <;> (intro e; subst e; revert h; decide)
theorem endP_op {op : List Nat} {ks : List Tk} (h : 1 ≤ prec op) : endP (.op op :: ks) := by
 obtain ⟨h1, h2, h3, _⟩ := prec_ops h
 exact ⟨_, _, rfl, decide_eq_false h1, decide_eq_false h2, decide_eq_false h3⟩
section
variable {c : Cx} {d D : Nat} {σ : Store} {Q : V → Store → Prop} {px dx ah : Addr} {ks kz : List Tk} {k2 : Tk}
theorem bin_stop (T : Txt c) (hd : 30 ≤ d) {QF : Fl → Locals → Store → Prop} {m : Nat} {v : V} {a : Tk} (S : Strm σ px dx ah (a :: ks)) (hb : bp (a :: ks) < m) (hr : ∀ ρ, QF (.ret v) ρ σ) (hq : QF .next [("left", v), ("least", .int (m : Nat)), ("self", .inst .parser px)] σ) : WW c d (fnScope (meth 34 1)) (wT (nth (fnBody (meth 34 1)) 1)) (wB (nth (fnBody (meth 34 1)) 1)) [] [("left", v), ("least", .int (m : Nat)), ("self", .inst .parser px)] σ QF := by
 cases a with
 | op l =>
  obtain ⟨tx0, a0_, a20_, hpx0, htx0⟩ := S.here
  unfold parNs at hpx0
  unfold tokNs at htx0
  simp only [Tk.kind, Tk.val] at htx0
  refine WW_step ?_
  refine WT_cmp T.OK (WE_attr T.OK (fun _ _ => rfl) (att ?_))
  refine ea ?_
  refine WE_strE ks_59 (.eqS ?_)
  refine ite_t (rfl) (WB_name (WE_attr T.OK (fun _ _ => rfl) (att ?_)))
  refine ea ?_
  refine WB_name (ca ?_)
  refine lz ?_
  refine CF.mono (precedence_ok (d := 0) T ?_) (by walk_at "o") fun _ _ q => q
  refine WB_if (WT_or (cl ?_))
  refine WE_int (.eqI ?_)
  refine ite_b (fun hb1 => ?_) (fun hb1 => ?_)
  ·refine ite_t rfl (WB_ret (lo ?_))
   refine N_ret (N_ret ?_)
   exact L_ret (hr _)
  ·refine WT_or1 (cl ?_)
   refine lo ?_
   refine .ltI ?_
   refine ite_t (decide_eq_true (by have : prec l < m := hb; omega)) ?_
   refine WB_ret (lo ?_)
   refine N_ret (N_ret ?_)
   exact L_ret (hr _)
 | _ =>
  obtain ⟨tx0, a0_, a20_, hpx0, htx0⟩ := S.here
  unfold parNs at hpx0
  unfold tokNs at htx0
  simp only [Tk.kind, Tk.val] at htx0
  refine WW_step ?_
  refine WT_cmp T.OK (WE_attr T.OK (fun _ _ => rfl) (att ?_))
  refine ea ?_
  refine WE_strE ks_59 (.eqS ?_)
  exact ite_f (rfl) (WB_nil hq)
theorem bin_loop (T : Txt c) (hD : D ≤ d) (hd : 30 ≤ d) {QF : Fl → Locals → Store → Prop} {m b : Nat} {v0 w : V} {k : List Tk} (hS : Spn c D m v0 k w b) : ∀ {ks : List Tk} {v : V} {σ : Store}, endP ks → bp ks ≤ b → bareV v = v0 → Strm σ px dx ah (k ++ ks) → (∀ v' σ', bareV v' = w → K2 px dx σ σ' → Strm σ' px dx ah ks → WW c d (fnScope (meth 34 1)) (wT (nth (fnBody (meth 34 1)) 1)) (wB (nth (fnBody (meth 34 1)) 1)) [] [("left", v'), ("least", .int (m : Nat)), ("self", .inst .parser px)] σ' QF) → WW c d (fnScope (meth 34 1)) (wT (nth (fnBody (meth 34 1)) 1)) (wB (nth (fnBody (meth 34 1)) 1)) [] [("left", v), ("least", .int (m : Nat)), ("self", .inst .parser px)] σ QF := by
 induction hS with
 | nil =>
  intro ks v σ he hb hv S hQ
  exact hQ v σ hv (K2.refl px dx _) S
 | @snoc k w b op kr r h h1 h2 h3 h4 hn hr ih =>
  intro ks v σ he hb hv S hQ
  rw [List.append_assoc] at S
  refine ih (ks := .op op :: (kr ++ ks)) (endP_op h2) h3 hv S fun v' σ' hv' hk' S' => ?_
  have Sx := S'
  obtain ⟨x, y, exy⟩ : ∃ x y, kr ++ ks = x :: y := by cases kr with | nil => exact absurd rfl hn | cons a b => exact ⟨_, _, rfl⟩
  rw [exy] at S'
  obtain ⟨tx0, a0_, a20_, hpx0, htx0⟩ := S'.here
  unfold parNs at hpx0
  unfold tokNs at htx0
  simp only [Tk.kind, Tk.val] at htx0
  refine WW_step ?_
  refine WT_cmp T.OK (WE_attr T.OK (fun _ _ => rfl) (att ?_))
  refine ea ?_
  refine WE_strE ks_59 (.eqS ?_)
  refine ite_t (rfl) (WB_name (WE_attr T.OK (fun _ _ => rfl) (att ?_)))
  refine ea ?_
  refine WB_name (ca ?_)
  refine lz ?_
  refine CF.mono (precedence_ok (d := 0) T ?_) (by walk_at "o") fun _ _ q => q
  refine WB_if (WT_or (cl ?_))
  refine WE_int (.eqI ?_)
  refine ite_f (decide_eq_false (by walk_at "o")) ?_
  refine WT_or1 (cl ?_)
  refine lo ?_
  refine .ltI ?_
  refine ite_f (decide_eq_false (by walk_at "o")) ?_
  refine WB_nil (WB_name (att ?_))
  refine WB_expr (me ?_)
  refine WL_nil (MC.mono (take_ok (d := 0) T S' fun tk2 σ2 at2 hk2 S2 ht2 => ?_) (by walk_at "o") fun _ _ q => q)
  obtain ⟨tx2, a2_, a22_, hpx2, htx2⟩ := S2.here
  unfold parNs at hpx2
  rw [← exy] at S2
  refine WB_name (me ?_)
  refine WL_cons (bl ?_)
  refine WE_int (.add ?_)
  refine WL_nil (MC.mono (hr S2 he (by walk_at "o") fun v3 σ3 hv3 hk3 S3 => ?_) (by walk_at "o") fun _ _ q => q)
  refine WB_name (WE_tup (WL_str ks_30 (la ?_)))
  refine WL_cons (ca ?_)
  refine lz ?_
  refine CF.mono (plain_operator_ok (d := 0) T h4 ?_) (by walk_at "o") fun _ _ q => q
  refine la ?_
  refine lz ?_
  refine ⟨by walk_at "my sz", ?_⟩
  refine WB_nil (L_next (WW.weak (hQ _ _ ?_ ((hk'.trans hk2).trans hk3) S3) (by walk_at "my sub")))
  show V.tup [_, _, _, bareV v', bareV v3] = _; rw [hv', hv3]; rfl
theorem Spn.fol {m b : Nat} {v0 w : V} {k ks : List Tk} (hS : Spn c D m v0 k w b) (he : endP ks) : endP (k ++ ks) := by
 induction hS generalizing ks with
 | nil => exact he
 | snoc h h1 h2 h3 h4 hn hr ih => rw [List.append_assoc]; exact ih (endP_op h2)
theorem binary_ok (T : Txt c) (hD : D ≤ d) (hd : 30 ≤ d) {m b : Nat} {v0 w : V} {k0 k : List Tk} (hu : UnC c D k0 v0) (hS : Spn c D m v0 k w b) (hm : m ≤ b + 1) : BiC c (d + 1) m (k0 ++ k) w := by
 intro σ px dx ah ks Q S he hb h
 rw [List.append_assoc] at S
 have he1 := hS.fol he
 obtain ⟨x1, y1, e1⟩ : ∃ x y, k0 ++ (k ++ ks) = x :: y := by obtain ⟨a, b, e⟩ := he1.cons; rw [e]; cases k0 <;> exact ⟨_, _, rfl⟩
 have S0 := S
 rw [e1] at S0
 obtain ⟨tx0, a0_, a20_, hpx0, htx0⟩ := S0.here
 unfold parNs at hpx0
 refine MC_fn T.OK T.m_binary ["self", "least"] _ (show WB _ _ _ _ [("self", _), ("least", _)] _ _ from ?_)
 refine WB_name (me ?_)
 refine WL_nil (MC.mono (hu S he1 fun v1 σ1 hv1 hk1 S1 => ?_) (by walk_at "o") fun _ _ q => q)
 refine WB_cons (WS_while (WW.weak (ρ := [("left", v1), ("least", .int (m : Nat)), ("self", .inst .parser px)]) (bin_loop T hD hd hS he (by walk_at "o") hv1 S1 fun v2 σ2 hv2 hk2 S2 => ?_) (by walk_at "my sub")))
 obtain ⟨x, y, rfl⟩ := he.cons
 refine bin_stop T hd S2 hb (fun ρ => ?_) ?_
 ·exact h v2 σ2 hv2 (hk1.trans hk2) S2
 ·skip
  refine WB_ret (lo ?_)
  exact h v2 σ2 hv2 (hk1.trans hk2) S2
end
inductive Cn2 (c : Cx) (D : Nat) : Nat → V → List Tk → V → Prop where
 | nil {a} : Cn2 c D 0 a [] a
 | cons {n a kb b kc e ks r} (hb : ExH c D kb b) (hn : kc ≠ []) (hc : BiC c D 1 kc e) (h : Cn2 c D n e ks r) : Cn2 c D (n + 1) a (.op [63] :: (kb ++ .op [58] :: (kc ++ ks))) (.tup [.str [99, 111, 110, 100], .int 0, a, b, r])
noncomputable def condF (M : List (Int × V × V)) (x : V) : V := M.foldr (fun t l => .tup [.str [99, 111, 110, 100], .int t.1, t.2.1, t.2.2, l]) x
noncomputable def condT (t : Int × V × V) : V := .tup [.int t.1, t.2.1, t.2.2]
theorem stopE.fol {ks : List Tk} (h : stopE ks) : endP ks ∧ bp ks < 1 ∧ ∃ a q, ks = a :: q ∧ isOp a [63] = false := by
 cases ks with
 | nil => exact h.elim
 | cons k q =>
  cases k with
  | op l =>
   have hm : l ∈ endTks := h
   simp only [endTks, List.mem_cons, List.not_mem_nil, or_false] at hm
   rcases hm with rfl | rfl | rfl | rfl | rfl | rfl | rfl | rfl <;> exact ⟨⟨_, _, rfl, rfl, rfl, rfl⟩, by show prec _ < 1; decide, _, _, rfl, rfl⟩
  | eof => exact ⟨⟨_, _, rfl, rfl, rfl, rfl⟩, Nat.zero_lt_one, _, _, rfl, rfl⟩
  | _ => exact h.elim
theorem Cn2.fol {c : Cx} {D n : Nat} {a r : V} {k ks : List Tk} (h : Cn2 c D n a k r) (he : stopE ks) : endP (k ++ ks) ∧ bp (k ++ ks) < 1 := by
 cases h with
 | nil => exact ⟨he.fol.1, he.fol.2.1⟩
 | cons => exact ⟨⟨_, _, rfl, rfl, rfl, rfl⟩, by show prec _ < 1; decide⟩
section
variable {c : Cx} {d D : Nat} {σ : Store} {Q : V → Store → Prop} {px dx ah : Addr} {ks kz : List Tk} {k2 : Tk}
theorem cond_loop (T : Txt c) (hD : D ≤ d) (hd : 30 ≤ d) {A : Addr} (hA : A ≠ ah) {σ₀ : Store} (h0 : σ₀ A = none) {QF : Fl → Locals → Store → Prop} {n : Nat} {a r : V} {k : List Tk} (hz : stopE kz) (hC : Cn2 c D n a k r) : ∀ {acc : List V} {v : V} {σ : Store}, acc.length + n ≤ 4000000 → bareV v = a → σ A = some (.list acc) → K2 px dx σ₀ σ → Strm σ px dx ah (k ++ kz) →
  (∀ M x σ', bareV (condF M x) = (condF (M.map fun t => (0, bareV t.2.1, bareV t.2.2)) (bareV x)) → (condF (M.map fun t => (0, bareV t.2.1, bareV t.2.2)) (bareV x)) = r → K2 px dx σ₀ σ' → σ' A = some (.list (acc ++ M.map condT)) → Strm σ' px dx ah kz → QF .next [("last", x), ("tests", .lst A), ("self", .inst .parser px)] σ') → WW c d (fnScope (meth 34 0)) (wT (nth (fnBody (meth 34 0)) 2)) (wB (nth (fnBody (meth 34 0)) 2)) [] [("last", v), ("tests", .lst A), ("self", .inst .parser px)] σ QF := by
 induction hC with
 | nil =>
  intro acc v σ hl hv hs hk S hQ
  obtain ⟨_, _, z0, zq, ez, hq⟩ := hz.fol
  have S' := S
  rw [List.nil_append, ez] at S
  obtain ⟨tx0, a0_, a20_, hpx0, htx0⟩ := S.here
  unfold parNs at hpx0
  refine WW_step ?_
  refine WT_val (me ?_)
  refine WL_str1 ks_54 (MC.mono (is_op_ok (d := 0) T S ?_) (by walk_at "o") fun _ _ q => q)
  walk_at "my tr"
  refine ite_f (hq) ?_
  exact WB_nil (hQ [] v σ rfl hv hk (by simpa using hs) S')
 | @cons n a kb b kc e ks r hb hn hc h ih =>
  intro acc v σ hl hv hs hk S hQ
  have S : Strm σ px dx ah (.op [63] :: (kb ++ .op [58] :: (kc ++ (ks ++ kz)))) := by simpa only [List.cons_append, List.append_assoc] using S
  obtain ⟨x1, y1, e1, _⟩ := id hb.hd
  obtain ⟨x2, y2, e2⟩ : ∃ x y, kc ++ (ks ++ kz) = x :: y := by cases kc with | nil => exact absurd rfl hn | cons a b => exact ⟨_, _, rfl⟩
  have hf := h.fol hz
  subst e1
  obtain ⟨tx0, a0_, a20_, hpx0, htx0⟩ := S.here
  unfold parNs at hpx0
  refine WW_step ?_
  refine WT_val (me ?_)
  refine WL_str1 ks_54 (MC.mono (is_op_ok (d := 0) T S ?_) (by walk_at "o") fun _ _ q => q)
  walk_at "my tr"
  refine ite_t (rfl) (WB_name (att ?_))
  refine WB_expr (me ?_)
  refine WL_nil (MC.mono (take_ok (d := 0) T S fun tk1 σ1 at1 hk1 S1 ht1 => ?_) (by walk_at "o") fun _ _ q => q)
  obtain ⟨tx1, a1_, a21_, hpx1, htx1⟩ := S1.here
  unfold parNs at hpx1
  have hs1 := hk1.lst S hs
  refine WB_name (me ?_)
  refine WL_nil (MC.mono (hb.ex S1 (stopE_op (by decide)) fun v2 σ2 hv2 hk2 S2 => ?_) (by walk_at "o") fun _ _ q => q)
  have hs2 := hk2.lst S1 hs1
  rw [e2] at S2
  obtain ⟨tx2, a2_, a22_, hpx2, htx2⟩ := S2.here
  unfold parNs at hpx2
  refine WB_expr (me ?_)
  refine WL_str1 ks_11 (MC.mono (expect_ok (d := 0) T S2 rfl fun σ3 hk3 S3 => ?_) (by walk_at "o") fun _ _ q => q)
  obtain ⟨tx3, a3_, a23_, hpx3, htx3⟩ := S3.here
  unfold parNs at hpx3
  have hs3 := hk3.lst S2 hs2
  refine WB_expr (WE_meth T.OK (lo ?_))
  refine ⟨_, GM_lst (by walk_at "my st") slot_list_append type_list_append, ?_⟩
  refine WL_cons (WE_tup (la ?_))
  refine la ?_
  refine lz ?_
  refine ⟨by walk_at "my sz", ?_⟩
  refine WL_nil ?_
  refine CV_append (by walk_at "my st") (by rw [sizeLine_eq]; omega) ?_
  have S4 := S3.setL (ws := acc ++ [.tup [.int a0_, v, v2]]) hs3 hA
  obtain ⟨tx4, a4_, a24_, hpx4, htx4⟩ := S4.here
  unfold parNs at hpx4
  refine WB_name (me ?_)
  refine WL_int1 ?_
  rw [← e2] at S4
  refine MC.mono (hc (ks := ks ++ kz) S4 hf.1 hf.2 fun v5 σ5 hv5 hk5 S5 => ?_) (by walk_at "o") fun _ _ q => q
  have hs5 := hk5.lst S4 (Store.set_self _ _ _)
  refine WB_nil (L_next ?_)
  refine WW.weak (ih (acc := acc ++ [.tup [.int a0_, v, v2]]) (by simp only [List.length_append, List.length_cons, List.length_nil] at *; omega) hv5 hs5 (((((hk.trans hk1).trans hk2).trans hk3).new h0).trans hk5) S5 fun M x σ6 h1 h2 h3 h4 h5 => ?_) (by walk_at "my sub")
  refine hQ ((a0_, v, v2) :: M) x σ6 ?_ ?_ h3 (by rw [h4, List.append_assoc]; rfl) h5
  ·show V.tup [_, _, bareV v, bareV v2, bareV (condF M x)] = _
   rw [h1]; rfl
  ·show V.tup [_, _, bareV v, bareV v2, condF (M.map fun t => (0, bareV t.2.1, bareV t.2.2)) (bareV x)] = _
   rw [h2, hv, hv2]
theorem cond_fold (T : Txt c) : ∀ {L : List (Int × V × V)} {x : V}, WF c d (fnScope (meth 34 0)) (wI (nth (fnBody (meth 34 0)) 3)) (wB (nth (fnBody (meth 34 0)) 3)) [] (L.map condT) [("last", x)] σ (fun fl ρ' σ' => fl = .next ∧ subL [("last", L.foldl (fun l t => .tup [.str [99, 111, 110, 100], .int t.1, t.2.1, t.2.2, l]) x)] ρ' ∧ σ' = σ) := by
 intro L
 induction L with
 | nil =>
  intro x
  refine WF_nil ?_
  refine WB_nil ?_
  exact ⟨rfl, by walk_at "my sub", rfl⟩
 | cons t L ih =>
  intro x
  obtain ⟨p, t1, t2⟩ := t
  refine WF_cons ?_
  refine G_tup3 (by decide +kernel) ?_
  refine WB_name (WE_tup (WL_str ks_29 (la ?_)))
  refine la ?_
  refine la ?_
  refine lz ?_
  refine ⟨by walk_at "my sz", ?_⟩
  exact WB_nil (L_next (WF.weak ih (by walk_at "my sub")))
theorem expression_ok (T : Txt c) (hD : D ≤ d) (hd : 30 ≤ d) {a r : V} {k0 k : List Tk} {n : Nat} (hkl : n ≤ 1000) (hb : BiC c D 1 k0 a) (hC : Cn2 c D n a k r) : ExC c (d + 1) (k0 ++ k) r := by
 intro σ px dx ah ks Q S he h
 rw [List.append_assoc] at S
 have hf := hC.fol he
 obtain ⟨x1, y1, e1⟩ : ∃ x y, k0 ++ (k ++ ks) = x :: y := by obtain ⟨a, b, e⟩ := hf.1.cons; rw [e]; cases k0 <;> exact ⟨_, _, rfl⟩
 have S0 := S
 rw [e1] at S0
 obtain ⟨tx0, a0_, a20_, hpx0, htx0⟩ := S0.here
 unfold parNs at hpx0
 refine MC_fn T.OK T.m_expression ["self"] _ (show WB _ _ _ _ [("self", _)] _ _ from ?_)
 refine WB_name (WE_lst (WL_nil ?_))
 refine ⟨by walk_at "my sz", ?_⟩
 intro A_1 h_1
 refine WB_name (me ?_)
 refine WL_int1 ?_
 have SA := S.newL (o := .list []) h_1
 refine MC.mono (hb (ks := k ++ ks) SA hf.1 hf.2 fun v1 σ1 hv1 hk1 S1 => ?_) (by walk_at "o") fun _ _ q => q
 refine WB_cons (WS_while ?_)
 refine WW.weak (ρ := [("last", v1), ("tests", .lst A_1), ("self", .inst .parser px)]) (cond_loop T hD hd (ne_ns h_1 S.ahd) h_1 he hC (by simp only [List.length_nil]; omega) hv1 (hk1.lst SA (Store.set_self _ _ _)) (((K2.refl px dx σ).new h_1).trans hk1) S1 fun M x σ2 hm1 hm2 hk2 hs2 S2 => ?_) (by walk_at "my sub")
 refine WB_cons (WS_for_rev T.OK (by decide +kernel) (T.bi ("reversed", .type "reversed") (by simp [biNames])) rfl ?_ (fun _ _ => rfl))
 refine lo ?_
 refine ⟨_, _, rfl, hs2, ?_⟩
 rw [List.nil_append, ← List.map_reverse]
 refine WF.post [("last", condF M x)] (σ2.del A_1) ?_ ?_
 ·have := cond_fold (c := c) (d := d) (σ := σ2.del A_1) T (L := M.reverse) (x := x)
  rw [List.foldl_reverse] at this
  exact WF.weak this (by walk_at "my sub")
 ·skip
  refine WB_ret (lo ?_)
  exact h _ _ (hm1.trans hm2) (hk2.delA h_1) (S2.delL hs2 (ne_ns h_1 S.ahd))
end
structure NodeP (c : Cx) (D N : Nat) (k : List Tk) (v : V) (r : Nat) : Prop where
 tp : ∃ us, v = .tup us
 hd : hdE k
 rk : r ≤ 13
 pr : r = 13 → PrC c D k v ∧ ∃ a b, k = a :: b ∧ sgn a = false
 bi : 1 ≤ r → ∃ k0 k1 v0 b, k = k0 ++ k1 ∧ k0 ≠ [] ∧ UnC c D k0 v0 ∧ r ≤ b ∧ ∀ m, m ≤ r → Spn c D m v0 k1 v b
 cn : ∃ k0 k1 a q, k = k0 ++ k1 ∧ k0 ≠ [] ∧ q ≤ N ∧ BiC c D 1 k0 a ∧ Cn2 c D q a k1 v
theorem Spn.up {c : Cx} {D D' m b : Nat} {v w : V} {k : List Tk} (h : Spn c D m v k w b) (hd : D ≤ D') : Spn c D' m v k w b := by
 induction h with
 | nil => exact .nil
 | snoc h h1 h2 h3 h4 hn hr ih => exact .snoc ih h1 h2 h3 h4 hn (hr.up hd)
theorem Cn2.up {c : Cx} {D D' n : Nat} {a r : V} {k : List Tk} (h : Cn2 c D n a k r) (hd : D ≤ D') : Cn2 c D' n a k r := by
 induction h with
 | nil => exact .nil
 | cons hb hn hc h ih => exact .cons (hb.up hd) hn (hc.up hd) ih
section
variable {c : Cx} {d D N : Nat} {k : List Tk} {v : V} {r : Nat}
theorem NodeP.exH (T : Txt c) (hD : 30 ≤ D) (hN : N ≤ 1000) (h : NodeP c D N k v r) : ExH c (D + 1) k v := by
 obtain ⟨k0, k1, a, q, rfl, _, hq, hb, hC⟩ := h.cn
 exact ⟨h.hd, expression_ok T (Nat.le_refl D) hD (by walk_at "o") hb hC, h.tp⟩
theorem mkB (T : Txt c) (hD : 30 ≤ D) (tp : ∃ us, v = .tup us) (hd : hdE k) (rk : r ≤ 13) (h1 : 1 ≤ r) (pr : r = 13 → PrC c (D + 1) k v ∧ ∃ a b, k = a :: b ∧ sgn a = false) (bi : ∃ k0 k1 v0 b, k = k0 ++ k1 ∧ k0 ≠ [] ∧ UnC c D k0 v0 ∧ r ≤ b ∧ ∀ m, m ≤ r → Spn c D m v0 k1 v b) : NodeP c (D + 1) N k v r := by
 obtain ⟨k0, k1, v0, b, rfl, hn, hu, hb, hs⟩ := bi
 refine ⟨tp, hd, rk, pr, fun _ => ⟨k0, k1, v0, b, rfl, hn, hu.up (by walk_at "o"), hb, fun m hm => (hs m hm).up (by walk_at "o")⟩, ⟨k0 ++ k1, [], v, 0, by simp, by cases k0 with | nil => exact absurd rfl hn | cons => simp, Nat.zero_le _, ?_, .nil⟩⟩
 exact binary_ok T (Nat.le_refl D) hD hu (hs 1 h1) (by walk_at "o")
theorem mk12 (T : Txt c) (hD : 30 ≤ D) (tp : ∃ us, v = .tup us) (hd : hdE k) (hu : UnC c D k v) : NodeP c (D + 1) N k v 12 := by
 refine mkB T hD tp hd (by decide) (by decide) (by intro z; cases z) ⟨k, [], v, 13, by simp, ?_, hu, by decide, fun m hm => .nil⟩
 obtain ⟨a, b, e, _⟩ := hd; rw [e]; simp
theorem un_of (T : Txt c) (hD : 30 ≤ D) (hp : PrC c D k v) (hn : ∃ a b, k = a :: b ∧ sgn a = false) : UnC c (D + 1) k v := fun S he h => un0_ok T (Nat.le_refl D) hD hn hp he S h
theorem mk13 (T : Txt c) (hD : 30 ≤ D) (tp : ∃ us, v = .tup us) (hd : hdE k) (hp : PrC c D k v) (hn : ∃ a b, k = a :: b ∧ sgn a = false) : NodeP c (D + 2) N k v 13 := by
 refine mkB T (by walk_at "o") tp hd (by decide) (by decide) (fun _ => ⟨hp.up (by walk_at "o"), hn⟩) ⟨k, [], v, 13, by simp, ?_, un_of T hD hp hn, by decide, fun m hm => .nil⟩
 obtain ⟨a, b, e, _⟩ := hd; rw [e]; simp
variable {P : Rl}
noncomputable def IHP (c : Cx) (D N : Nat) (P : Rl) : Prop := ∀ {v t k r}, P v t k r → NodeP c D N k v r
theorem hd_brak (k : List Tk) : hdE (.op [40] :: k) := ⟨_, _, rfl, rfl⟩
theorem brak_pr (T : Txt c) (hD : 30 ≤ D) (hE : ExH c D k v) : PrC c (D + 2) (.op [40] :: (k ++ [.op [41]])) v := fun {σ px dx ah ks Q} S he h => by
 obtain ⟨a, b, rfl⟩ := he.cons
 have S : Strm σ px dx ah (.op [40] :: (k ++ .op [41] :: a :: b)) := by simpa only [List.cons_append, List.append_assoc, List.nil_append] using S
 exact pr_paren_ok T (D := D) (by walk_at "o") (by walk_at "o") hE S h
theorem opd13 (T : Txt c) (hD : 30 ≤ D) (hN : N ≤ 1000) (IH : IHP c D N P) {t : List Nat} (h : Opd P 13 v t k) : PrC c (D + 3) k v ∧ (∃ a b, k = a :: b ∧ sgn a = false) ∧ hdE k ∧ ∃ us, v = .tup us := by
 induction h with
 | bare h hr =>
  have I := IH h
  have e : _ = 13 := Nat.le_antisymm I.rk hr
  obtain ⟨h1, h2⟩ := I.pr e
  exact ⟨h1.up (by walk_at "o"), h2, I.hd, I.tp⟩
 | brak h hr =>
  have I := IH h
  exact ⟨brak_pr T (by walk_at "o") (I.exH T hD hN), ⟨_, _, rfl, rfl⟩, hd_brak _, I.tp⟩
theorem opdB (T : Txt c) (hD : 30 ≤ D) (hN : N ≤ 1000) (IH : IHP c D N P) {t : List Nat} {p : Nat} (hp : 1 ≤ p ∧ p ≤ 13) (h : Opd P p v t k) : (∃ k0 k1 v0 b, k = k0 ++ k1 ∧ k0 ≠ [] ∧ UnC c (D + 4) k0 v0 ∧ p ≤ b ∧ ∀ m, m ≤ p → Spn c (D + 4) m v0 k1 v b) ∧ hdE k ∧ ∃ us, v = .tup us := by
 induction h with
 | bare h hr =>
  have I := IH h
  obtain ⟨k0, k1, v0, b, rfl, hn, hu, hb, hs⟩ := I.bi (by walk_at "o")
  exact ⟨⟨k0, k1, v0, b, rfl, hn, hu.up (by walk_at "o"), by walk_at "o", fun m hm => (hs m (by walk_at "o")).up (by walk_at "o")⟩, I.hd, I.tp⟩
 | brak h hr =>
  have I := IH h
  exact ⟨⟨_, [], v, 13, by simp, by simp, un_of T (by walk_at "o") (brak_pr T (by walk_at "o") (I.exH T hD hN)) ⟨_, _, rfl, rfl⟩, hp.2, fun m hm => .nil⟩, hd_brak _, I.tp⟩
theorem opdBi (T : Txt c) (hD : 30 ≤ D) (hN : N ≤ 1000) (IH : IHP c D N P) {t : List Nat} {p : Nat} (hp : 1 ≤ p ∧ p ≤ 13) (h : Opd P p v t k) : BiC c (D + 5) p k v ∧ hdE k ∧ ∃ us, v = .tup us := by
 obtain ⟨⟨k0, k1, v0, b, rfl, hn, hu, hb, hs⟩, h1, h2⟩ := opdB T hD hN IH hp h
 exact ⟨binary_ok T (Nat.le_refl _) (by walk_at "o") hu (hs p (Nat.le_refl _)) (by walk_at "o"), h1, h2⟩
theorem opdEx (T : Txt c) (hD : 30 ≤ D) (hN : N ≤ 1000) (IH : IHP c D N P) {t : List Nat} {p : Nat} (h : Opd P p v t k) : ExH c (D + 6) k v := by
 induction h with
 | bare h hr => exact ((IH h).exH T hD hN).up (by walk_at "o")
 | @brak t k' r h hr =>
  have I := IH h
  have hu : UnC c (D + 4) _ v := un_of T (by walk_at "o") (brak_pr T (by walk_at "o") (I.exH T hD hN)) ⟨_, _, rfl, rfl⟩
  have hb : BiC c (D + 5) 1 (.op [40] :: (k' ++ [.op [41]]) ++ []) v := binary_ok (m := 1) T (Nat.le_refl (D + 4)) (by walk_at "o") hu .nil (by decide)
  have : ExC c (D + 6) (.op [40] :: (k' ++ [.op [41]]) ++ [] ++ []) v := expression_ok T (Nat.le_refl (D + 5)) (by walk_at "o") (by decide) hb .nil
  rw [List.append_nil, List.append_nil] at this
  exact ⟨hd_brak _, this, I.tp⟩
theorem hd_ne {k : List Tk} (h : hdE k) : k ≠ [] := by obtain ⟨a, b, e, _⟩ := h; rw [e]; simp
theorem part_rp (T : Txt c) (hD : 30 ≤ D) (hN : N ≤ 1000) (IH : IHP c D N P) {p : V} {t : List Nat} (h : PartR P p t k) {l' : List Nat} {ps : List V} {k' : List Tk} (hR : RP c (D + 1) l' ps k') : ∃ l k1, k ++ .op [46] :: .id l' :: k' = .id l :: k1 ∧ RP c (D + 1) l (p :: ps) k1 ∧ k1 ≠ [] := by
 induction h with
 | bare h => exact ⟨_, _, rfl, .dot hR, by simp⟩
 | @sub l v t k r h hv =>
  refine ⟨_, _, rfl, ?_, by simp⟩
  show RP c (D + 1) l (.tup [.str l, v] :: ps) (.op [91] :: ((k ++ [.op [93]]) ++ .op [46] :: .id l' :: k'))
  rw [List.append_assoc]
  exact .sub ((IH hv).exH T hD hN) hR
theorem path_rp (T : Txt c) (hD : 30 ≤ D) (hN : N ≤ 1000) (IH : IHP c D N P) {ps : List V} {t : List Nat} (h : PathR P ps t k) : ∃ l k1, k = .id l :: k1 ∧ RP c (D + 1) l ps k1 := by
 induction h with
 | last h => exact ⟨_, _, rfl, .done⟩
 | cons h hs ih =>
  obtain ⟨l, k1, rfl, hR⟩ := ih
  obtain ⟨l', k2, e, hR', _⟩ := part_rp T hD hN IH h hR
  exact ⟨l', k2, e, hR'⟩
theorem base_dec (T : Txt c) (hD : 30 ≤ D) (hN : N ≤ 1000) (IH : IHP c D N P) {m : Nat} {t : List Nat} (h : BaseR P m v t k) : ∃ l ps k1 k2, k = .id l :: (k1 ++ k2) ∧ RP c (D + 1) l ps k1 ∧ ps.length ≤ 3 ∧ SelI c (D + 1) (mkBase 0 l k1.isEmpty ps) v k2 := by
 induction h with
 | @id l h => exact ⟨l, _, [], [], rfl, .done, by simp, .nil⟩
 | @path p t k ps ts ks h hs hl =>
  obtain ⟨l, k1, rfl, hR⟩ := path_rp T hD hN IH hs
  obtain ⟨l', k2, e, hR', hn⟩ := part_rp T hD hN IH h hR
  refine ⟨l', _, k2, [], by rw [List.append_nil]; exact e, hR', by simp only [List.length_cons]; omega, ?_⟩
  cases k2 with
  | nil => exact absurd rfl hn
  | cons a b => exact .nil
 | index h hv ih =>
  obtain ⟨l, ps, k1, k2, rfl, h1, h2, h3⟩ := ih
  exact ⟨l, ps, k1, _, by simp only [List.cons_append, List.append_assoc], h1, h2, h3.snoc ((IH hv).exH T hD hN)⟩
theorem ref_pr (T : Txt c) (hD : 30 ≤ D) {l : List Nat} {ps : List V} {k1 k2 : List Tk} (h1 : RP c D l ps k1) (h2 : ps.length ≤ 3) (h3 : Sel c D (mkBase 0 l k1.isEmpty ps) v k2) : PrC c (D + 6) (.id l :: (k1 ++ k2)) v := fun {σ px dx ah ks Q} S he h => by
 have S : Strm σ px dx ah (.id l :: (k1 ++ (k2 ++ ks))) := by simpa only [List.cons_append, List.append_assoc] using S
 have hn := np_ref_ok (d := D + 4) T (by walk_at "o") (by walk_at "o") he (by walk_at "o") h1 h3 S h
 exact pr_named_ok T S hn
theorem num_pr (T : Txt c) {sz ba dg : List Nat} {sn sg sd : Bool} {us : List Int} (hN : ∀ {σ : Store} {Q : V → Store → Prop} {at_ : V}, Q (.tup [.tup (us.map V.int), .bool sg, .bool sd]) σ → CF c 30 "numeral" [.tup [.str sz, .str ba, .bool sn, .str dg], at_] σ Q) : PrC c 31 [.num sz ba sn dg] (.tup [.str [110, 117, 109], .int 0, .tup (us.map V.int), .bool sg, .bool sd]) := fun {σ px dx ah ks Q} S he h => by
 obtain ⟨a, b, rfl⟩ := he.cons
 refine pr_num_ok (d := 30) T (Nat.le_refl _) hN (fun a => ?_) S h
 have e : ∀ l : List Int, zeroP (bareVs (l.map V.int)) = l.map V.int := by
  intro l
  have e2 : ∀ l : List Int, bareVs (l.map V.int) = l.map V.int := by
   intro l; induction l with
   | nil => rfl
   | cons x l ih => show V.int x :: bareVs (l.map V.int) = _; rw [ih]; rfl
  rw [e2]
  cases l <;> rfl
 show V.tup [_, _, V.tup (zeroP (bareVs (us.map V.int))), _, _] = _
 rw [e]; rfl
theorem leaf_pr (T : Txt c) {t : List Nat} (h : Leaf v t k) : PrC c 36 k v ∧ (∃ a b, k = a :: b ∧ sgn a = false) ∧ hdE k ∧ ∃ us, v = .tup us := by
 induction h with
 | @id l h => exact ⟨ref_pr (k1 := []) (k2 := []) (ps := [.tup [.str l, .none]]) T (D := 30) (Nat.le_refl _) .done (by simp) .nil, ⟨_, _, rfl, rfl⟩, ⟨_, _, rfl, rfl⟩, _, rfl⟩
 | @dec a h =>
  refine ⟨PrC.up (num_pr (us := [32, (a : Int), 0]) T fun {σ Q at_} q => ?_) (by decide), ⟨_, _, rfl, rfl⟩, ⟨_, _, rfl, rfl⟩, _, rfl⟩
  have hs := intText_small a h
  simp only [Bool.and_eq_true, decide_eq_true_eq, List.all_eq_true, Bool.not_eq_true', List.isEmpty_eq_false_iff] at hs
  obtain ⟨⟨⟨h1, h2⟩, h3⟩, h4⟩ := hs
  cases e : intText (a : Int) with
  | nil => exact absurd e h3
  | cons x r =>
   rw [e] at h1 h2 h4
   refine CF.up (numeral_dec_ok (d := 25) T h1 (by walk_at "o") (by rw [h2]; omega) ?_) (by decide)
   rw [h2]; exact q
 | @n8 a b sg h =>
  refine ⟨PrC.up (num_pr (us := [8, (a : Int), (b : Int)]) T fun {σ Q at_} q => ?_) (by decide), ⟨_, _, rfl, rfl⟩, ⟨_, _, rfl, rfl⟩, _, rfl⟩
  have hg1 := gLo_bits a b 8
  have hg2 := gHi_bits a b 8
  have hl := bitsT_length 8 a b
  have hb := bits_bit 8 a b
  rw [Nat.mod_eq_of_lt (show a < 2 ^ 8 by walk_at "o")] at hg1
  rw [Nat.mod_eq_of_lt (show b < 2 ^ 8 by walk_at "o")] at hg2
  cases e : bitsT 8 a b with
  | nil => rw [e] at hl; cases hl
  | cons x r =>
   rw [e] at hg1 hg2 hl hb
   refine CF.up (numeral_s_ok (d := 25) T hb hl ?_) (by decide)
   rw [hl, hg1, hg2]; exact q
 | @n40 a b sg h =>
  refine ⟨PrC.up (num_pr (us := [40, (a : Int), (b : Int)]) T fun {σ Q at_} q => ?_) (by decide), ⟨_, _, rfl, rfl⟩, ⟨_, _, rfl, rfl⟩, _, rfl⟩
  have hg1 := gLo_bits a b 40
  have hg2 := gHi_bits a b 40
  have hl := bitsT_length 40 a b
  have hb := bits_bit 40 a b
  rw [Nat.mod_eq_of_lt h.1] at hg1
  rw [Nat.mod_eq_of_lt h.2] at hg2
  cases e : bitsT 40 a b with
  | nil => rw [e] at hl; cases hl
  | cons x r =>
   rw [e] at hg1 hg2 hl hb
   refine CF.up (numeral_u_ok (d := 25) T hb (by rw [hl]; decide) ?_) (by decide)
   rw [hl, hg1, hg2]; exact q
 | @n32 a sg h =>
  refine ⟨PrC.up (num_pr (us := [32, (a : Int), 0]) T fun {σ Q at_} q => ?_) (by decide), ⟨_, _, rfl, rfl⟩, ⟨_, _, rfl, rfl⟩, _, rfl⟩
  have hg1 := gLo_bits a 0 32
  have hg2 := gHi_bits a 0 32
  have hl := bitsT_length 32 a 0
  have hb := bits_bit 32 a 0
  rw [Nat.mod_eq_of_lt h.2] at hg1
  rw [Nat.zero_mod] at hg2
  cases e : bitsT 32 a 0 with
  | nil => rw [e] at hl; cases hl
  | cons x r =>
   rw [e] at hg1 hg2 hl hb
   refine CF.up (numeral_u_ok (d := 25) T hb (by rw [hl]; decide) ?_) (by decide)
   rw [hl, hg1, hg2]; exact q
 | @str l h hl =>
  refine ⟨PrC.up (fun {σ px dx ah ks Q} S he h => ?_) (show 31 ≤ 36 by decide), ⟨_, _, rfl, rfl⟩, ⟨_, _, rfl, rfl⟩, _, rfl⟩
  obtain ⟨a, b, rfl⟩ := he.cons
  exact pr_str_ok (d := 30) T (Nat.le_refl _) (fun a => rfl) S h
theorem exF_tups (h : ExF c D vs k) : zeroP vs = vs := by
 obtain ⟨v, k0, vr, kr, rfl, rfl, h1, _⟩ := h
 obtain ⟨us, rfl⟩ := h1.tp
 rfl
theorem exF_hd {vs : List V} (h : ExF c D vs k) : k ≠ [] := by
 obtain ⟨v, k0, vr, kr, rfl, rfl, h1, _⟩ := h
 obtain ⟨a, b, e, _⟩ := h1.hd
 rw [e]; simp
theorem node_par (T : Txt c) (hD : 40 ≤ D) (hN : N ≤ 1000) (IH : IHP c D N P) {t : List Nat} (h : Node P v t k r) : NodeP c (D + 12) (N + 1) k v r := by
 have hE : ∀ {v t k r}, P v t k r → ExH c (D + 1) k v := fun h => (IH h).exH T (by walk_at "o") hN
 have up13 : ∀ {k : List Tk} {v : V}, PrC c (D + 10) k v → (∃ a b, k = a :: b ∧ sgn a = false) → hdE k → (∃ us, v = .tup us) → NodeP c (D + 12) (N + 1) k v 13 := fun h1 h2 h3 h4 => mk13 T (by walk_at "o") h4 h3 h1 h2
 induction h with
 | leaf h =>
  obtain ⟨h1, h2, h3, h4⟩ := leaf_pr T h
  exact up13 (h1.up (by walk_at "o")) h2 h3 h4
 | @base m v t k h hm =>
  have hv : ∃ us, v = .tup us := by clear hE up13 IH; induction h <;> exact ⟨_, rfl⟩
  obtain ⟨l, ps, k1, k2, rfl, h1, h2, h3⟩ := base_dec T (by walk_at "o") hN IH h
  exact up13 (PrC.up (ref_pr T (D := D + 1) (by walk_at "o") h1 h2 h3.sel) (by walk_at "o")) ⟨_, _, rfl, rfl⟩ ⟨_, _, rfl, rfl⟩ hv
 | @un op v t k ho h =>
  obtain ⟨h1, h2, h3, us, h4⟩ := opd13 T (by walk_at "o") hN IH h
  have hu : isUn op = true := (show ∀ l ∈ unOps, isUn l = true by decide) op ho
  have hx : op ≠ [94, 126] := (show ∀ l ∈ unOps, l ≠ [94, 126] by decide) op ho
  have hy : op ≠ [41] := (show ∀ l ∈ unOps, l ≠ [41] by decide) op ho
  refine mk12 (D := D + 11) T (by walk_at "o") ⟨_, rfl⟩ ⟨_, _, rfl, decide_eq_false hy⟩ fun {σ px dx ah ks Q} S he q => ?_
  refine un1_ok (D := D + 3) (d := D + 10) T (by walk_at "o") (by walk_at "o") hu hx h2 h1 he S fun a v1 σ' e1 hk S' => q _ _ ?_ hk S'
  subst h4
  show V.tup [_, _, _, bareV v1] = _
  rw [e1]; rfl
 | @bin op l tl kl r tr kr ho hl hr =>
  have hp : 1 ≤ prec op ∧ prec op ≤ 11 := (show ∀ l ∈ binOps, 1 ≤ prec l ∧ prec l ≤ 11 by decide) op ho
  have hx : op ≠ [94, 126] := (show ∀ l ∈ binOps, l ≠ [94, 126] by decide) op ho
  obtain ⟨⟨k0, k1, v0, b, rfl, hn, hu, hb, hs⟩, h1, h2⟩ := opdB T (by walk_at "o") hN IH ⟨hp.1, by walk_at "o"⟩ hl
  obtain ⟨g1, g2, g3⟩ := opdBi T (by walk_at "o") hN IH ⟨by walk_at "o", by walk_at "o"⟩ hr
  have hh : hdE (k0 ++ k1 ++ .op op :: kr) := by obtain ⟨a, b, e, ha⟩ := h1; exact ⟨a, b ++ .op op :: kr, by rw [e]; rfl, ha⟩
  refine mkB (D := D + 11) T (by walk_at "o") ⟨_, rfl⟩ hh (by walk_at "o") hp.1 (fun z => by walk_at "o") ⟨k0, k1 ++ .op op :: kr, v0, prec op, by simp only [List.append_assoc], hn, hu.up (by walk_at "o"), Nat.le_refl _, fun m hm => ?_⟩
  exact .snoc ((hs m hm).up (by walk_at "o")) hm hp.1 hb hx (hd_ne g2) (g1.up (by walk_at "o"))
 | @cond a ta ka b tb kb e te ke r ha hb he =>
  obtain ⟨g1, g2, g3⟩ := opdBi T (by walk_at "o") hN IH ⟨Nat.le_refl _, by decide⟩ ha
  have hbx := opdEx T (by walk_at "o") hN IH hb
  have I := IH he
  obtain ⟨k0, k1, x, q, rfl, hn, hq, hB, hC⟩ := I.cn
  have hh : hdE (ka ++ .op [63] :: (kb ++ .op [58] :: (k0 ++ k1))) := by obtain ⟨a, b, e, ha⟩ := g2; exact ⟨a, b ++ .op [63] :: (kb ++ .op [58] :: (k0 ++ k1)), by rw [e]; rfl, ha⟩
  refine ⟨⟨_, rfl⟩, hh, by decide, fun z => (by cases z), fun z => (by cases z), ⟨ka, _, a, q + 1, rfl, hd_ne g2, by walk_at "o", g1.up (by walk_at "o"), .cons (hbx.up (by walk_at "o")) hn (hB.up (by walk_at "o")) (hC.up (by walk_at "o"))⟩⟩
 | @cat vs ts ks h hl =>
  have hF := lst_exF hE h
  refine up13 (fun {σ px dx ah kz Q} S he q => ?_) ⟨_, _, rfl, rfl⟩ ⟨_, _, rfl, rfl⟩ ⟨_, rfl⟩
  obtain ⟨x, y, rfl⟩ := he.cons
  have S : Strm σ px dx ah (.op [123] :: (ks ++ .op [125] :: x :: y)) := by simpa only [List.cons_append, List.append_assoc, List.nil_append] using S
  refine pr_braces_ok (d := D + 9) T (by walk_at "o") S (cat_ok (d := D + 8) T (by walk_at "o") (by walk_at "o") hF (by walk_at "o") S fun a ws σ' hw hk S' => q _ _ ?_ hk S')
  show V.tup [_, _, V.tup (zeroP (bareVs ws))] = _
  rw [hw, exF_tups hF]; try rfl
 | @rep n t k vs ts ks hn h hl =>
  have hF := lst_exF hE h
  have hnx := opdEx T (by walk_at "o") hN IH hn
  obtain ⟨un, hun⟩ := hnx.tp
  refine up13 (fun {σ px dx ah kz Q} S he q => ?_) ⟨_, _, rfl, rfl⟩ ⟨_, _, rfl, rfl⟩ ⟨_, rfl⟩
  obtain ⟨x, y, rfl⟩ := he.cons
  have S : Strm σ px dx ah (.op [123] :: (k ++ .op [123] :: (ks ++ .op [125] :: .op [125] :: x :: y))) := by simpa only [List.cons_append, List.append_assoc, List.nil_append] using S
  have hF' : ExF c (D + 6) vs ks := lst_exF (fun h => (hE h).up (by walk_at "o")) h
  refine pr_braces_ok (d := D + 9) T (by walk_at "o") S (rep_ok (D := D + 6) (d := D + 8) T (by walk_at "o") (by walk_at "o") hnx hF' (by walk_at "o") S fun a v1 ws σ' h1 hw hk S' => q _ _ ?_ hk S')
  show V.tup [_, _, bareV v1, V.tup (zeroP (bareVs ws))] = _
  rw [hw, exF_tups hF, h1]; try rfl
 | @call0 l hn =>
  refine up13 (fun {σ px dx ah kz Q} S he q => ?_) ⟨_, _, rfl, rfl⟩ ⟨_, _, rfl, rfl⟩ ⟨_, rfl⟩
  obtain ⟨x, y, rfl⟩ := he.cons
  have S : Strm σ px dx ah (.id l :: .op [40] :: .op [41] :: x :: y) := S
  exact pr_named_ok (d := D + 9) T S (np_call0_ok (D := D) (d := D + 8) T (by walk_at "o") (by walk_at "o") S q)
 | @call l vs ts ks hn h hl =>
  have hF := lst_exF hE h
  refine up13 (fun {σ px dx ah kz Q} S he q => ?_) ⟨_, _, rfl, rfl⟩ ⟨_, _, rfl, rfl⟩ ⟨_, rfl⟩
  obtain ⟨x, y, rfl⟩ := he.cons
  have S : Strm σ px dx ah (.id l :: .op [40] :: (ks ++ .op [41] :: x :: y)) := by simpa only [List.cons_append, List.append_assoc, List.nil_append] using S
  exact pr_named_ok (d := D + 9) T S (np_call_ok (D := D + 1) (d := D + 8) T (by walk_at "o") (by walk_at "o") hF (by walk_at "o") (exF_tups hF) S q)
 | sys0 =>
  refine up13 (fun {σ px dx ah kz Q} S he q => ?_) ⟨_, _, rfl, rfl⟩ ⟨_, _, rfl, rfl⟩ ⟨_, rfl⟩
  obtain ⟨x, y, rfl, _, _, h3⟩ := he
  exact pr_sys0_ok (d := D + 9) T (by walk_at "o") h3 (fun a => rfl) S q
 | @sys vs ts ks h hl =>
  have hF := lst_exF hE h
  refine up13 (fun {σ px dx ah kz Q} S he q => ?_) ⟨_, _, rfl, rfl⟩ ⟨_, _, rfl, rfl⟩ ⟨_, rfl⟩
  obtain ⟨x, y, rfl⟩ := he.cons
  have S : Strm σ px dx ah (.sys [36, 116, 105, 109, 101] :: .op [40] :: (ks ++ .op [41] :: x :: y)) := by simpa only [List.cons_append, List.append_assoc, List.nil_append] using S
  refine pr_sys_ok (D := D + 1) (d := D + 9) T (by walk_at "o") (by walk_at "o") hF (by walk_at "o") (fun a ws hw => ?_) S q
  show V.tup [_, _, _, V.tup (zeroP (bareVs ws))] = _
  rw [hw, exF_tups hF]; try rfl
 | @part m b t k i ti ki ri j tj kj rj h hm hi hj =>
  obtain ⟨l, ps, k1, k2, rfl, h1, h2, h3⟩ := base_dec T (by walk_at "o") hN IH h
  have h4 : PrC c (D + 7) _ _ := ref_pr T (D := D + 1) (by walk_at "o") h1 h2 (h3.fin (Fin.mk (.head _) (hE hi) (hE hj)))
  rw [← List.append_assoc] at h4
  exact up13 (PrC.up h4 (by walk_at "o")) ⟨_, _, rfl, rfl⟩ ⟨_, _, rfl, rfl⟩ ⟨_, rfl⟩
 | @up m b t k i ti ki ri j tj kj rj h hm hi hj =>
  obtain ⟨l, ps, k1, k2, rfl, h1, h2, h3⟩ := base_dec T (by walk_at "o") hN IH h
  have h4 : PrC c (D + 7) _ _ := ref_pr T (D := D + 1) (by walk_at "o") h1 h2 (h3.fin (Fin.mk (.tail _ (.head _)) (hE hi) (hE hj)))
  rw [← List.append_assoc] at h4
  exact up13 (PrC.up h4 (by walk_at "o")) ⟨_, _, rfl, rfl⟩ ⟨_, _, rfl, rfl⟩ ⟨_, rfl⟩
 | @down m b t k i ti ki ri j tj kj rj h hm hi hj =>
  obtain ⟨l, ps, k1, k2, rfl, h1, h2, h3⟩ := base_dec T (by walk_at "o") hN IH h
  have h4 : PrC c (D + 7) _ _ := ref_pr T (D := D + 1) (by walk_at "o") h1 h2 (h3.fin (Fin.mk (.tail _ (.tail _ (.head _))) (hE hi) (hE hj)))
  rw [← List.append_assoc] at h4
  exact up13 (PrC.up h4 (by walk_at "o")) ⟨_, _, rfl, rfl⟩ ⟨_, _, rfl, rfl⟩ ⟨_, rfl⟩
theorem ge_par (T : Txt c) : ∀ n, n ≤ 1000 → IHP c (40 + 12 * n) n (GE n)
 | 0, _ => fun h => h.elim
 | n + 1, hn => fun h => by
  have := node_par T (D := 40 + 12 * n) (N := n) (by walk_at "o") (by walk_at "o") (ge_par T n (by walk_at "o")) h
  rwa [show 40 + 12 * (n + 1) = 40 + 12 * n + 12 by walk_at "o"]
theorem parse_ok (T : Txt c) {t : List Nat} (h : GE 5 v t k r) {σ : Store} {px dx ah : Addr} {Q : V → Store → Prop} (S : Strm σ px dx ah (k ++ [.eof])) (q : ∀ v' σ', bareV v' = v → K2 px dx σ σ' → Strm σ' px dx ah [.eof] → Q v' σ') : MC c 110 .parser "expression" [.inst .parser px] σ Q := by
 have := ((ge_par T 5 (by decide) h).exH T (by decide) (by decide)).ex S trivial q
 exact MC.mono this (by decide) fun _ _ z => z
end
section
variable {c : Cx} {d : Nat} {σ : Store} {Q : V → Store → Prop} {t : List Nat} {dx kd : Addr} {j : Nat}
theorem Parser_ok (T : Txt c) (L : LexAt σ dx t j kd) {k : Tk} {ks : List Tk} (hl : Lxs (t.drop j) (k :: ks)) (h : ∀ px ah σ', σ px = none → Strm σ' px dx ah (k :: ks) → K2 px dx σ σ' → Q (.inst .parser px) σ') : CF c (d + 24) "ExprParser" [.inst .lexer dx] σ Q := by
 refine ⟨_, .inl T.parser.1, ?_⟩
 obtain ⟨f, hm, F⟩ := T.iParser
 refine CV_make T.OK hm fun px hpx0 => ?_
 have hn := L.ns
 have hkd := L.keys
 have hkx := L.ne
 have hpd : dx ≠ px := ne_sn hn hpx0
 have hpk : kd ≠ px := ne_sn hkd hpx0
 obtain ⟨s', hlx, hls⟩ := hl
 refine CC_fn T.OK F ["self", "source"] (by decide +kernel) rfl (by walk_at "my ba") (show WB _ _ _ _ [("self", _), ("source", _)] _ _ from ?_)
 refine WB_cons (WS_attr' T.OK ?_)
 refine lo ?_
 refine lo ?_
 (refine E_set (by walk_at "my st") ?_ (by simp) (by walk_at "my put") ?_; exact T.fs _ _ (by decide +kernel))
 refine WB_cons (WS_attr' T.OK ?_)
 refine WE_lst (WL_nil ?_)
 refine ⟨by walk_at "my sz", ?_⟩
 intro A_1 h_1
 have hA0 : σ A_1 = none := free_set (free_set h_1)
 have hAp : A_1 ≠ px := ne_set h_1
 have hAd : dx ≠ A_1 := ne_sn hn hA0
 have hAk : kd ≠ A_1 := ne_sn hkd hA0
 refine lo ?_
 (refine E_set (by walk_at "my st") ?_ (by simp) (by walk_at "my put") ?_; exact T.fs _ _ (by decide +kernel))
 refine WB_cons (WS_attr' T.OK ?_)
 refine me ?_
 refine WL_nil (MC.mono (lx_ok (d := 0) (j := j) T ⟨by walk_at "my st", by walk_at "my st", L.size⟩ rfl hlx fun tx j2 a3 htx hj2 => ?_) (by walk_at "o") fun _ _ q => q)
 have htx0 : σ tx = none := free_set (free_set (free_set (free_set htx)))
 have htp : tx ≠ px := ne_set htx
 have htA : tx ≠ A_1 := ne_set (free_set htx)
 have htd : dx ≠ tx := ne_sn hn htx0
 have htk : kd ≠ tx := ne_sn hkd htx0
 unfold tokNs lexNs
 refine lo ?_
 (refine E_set (by walk_at "my st") ?_ (by simp) (by walk_at "my put") ?_; exact T.fs _ _ (by decide +kernel))
 refine WB_cons (WS_attr' T.OK ?_)
 refine WE_attr T.OK (fun _ _ => rfl) (att ?_)
 refine ea ?_
 refine lo ?_
 (refine E_set (by walk_at "my st") ?_ (by simp) (by walk_at "my put") ?_; exact T.fs _ _ (by decide +kernel))
 refine WB_nil (R_next ?_)
 refine ⟨rfl, h px A_1 _ hpx0 ?_ ?_⟩
 ·refine ⟨kd, tx, t, j2, _, a3, by walk_at "my st", by walk_at "my st", by walk_at "my st", ⟨by walk_at "my st", by walk_at "my st", L.size⟩, ?_⟩
  rw [hj2]; exact hls
 ·exact (((((((K2.refl px dx σ).px).px).new hA0).px).dx).new htx0).px.px
end
theorem WC.mono {c : Cx} {d : Nat} {sc scope : Scope} {ρ : Locals} {σ : Store} {elt iter : Expr} {x : Str} {px pos : Pos} {us : List V} {D : Addr} {Q Q' : Store → Prop} (h : WC c d sc scope elt x px iter pos us D ρ σ Q) (k : ∀ σ', Q σ' → Q' σ') : WC c d sc scope elt x px iter pos us D ρ σ Q' := by
 unfold WC at h ⊢
 intro A env σ₀ s₀ s I Dd R O L st h0 hC hg hd it
 refine codeAny_mono (h A env σ₀ s₀ s I Dd R O L st h0 hC hg hd it) fun r s' z => ?_
 cases r with
 | ok f => obtain ⟨σ', a, b, q⟩ := z; exact ⟨σ', a, b, k _ q⟩
 | error e => exact z
inductive Nice : Nat → V → Prop where
 | none {n} : Nice n .none
 | bool {n b} : Nice n (.bool b)
 | int {n i} : Nice n (.int i)
 | str {n l} (h : ∀ x ∈ l, x < 256) : Nice n (.str l)
 | tup {n vs} (h : ∀ v ∈ vs, Nice n v) (hl : vs.length ≤ 1000) : Nice (n + 1) (.tup vs)
theorem Nice.flat {n : Nat} {v : V} (h : Nice n v) : Flat n v := by
 induction h with
 | none => exact .none
 | bool => exact .bool
 | int => exact .int
 | @str n l h =>
  refine .str ?_
  unfold PyData.strOk
  rw [Array.all_eq_true_iff_forall_mem]
  intro x hx
  have := h x (by simpa [S] using hx)
  exact decide_eq_true (by walk_at "o")
 | tup h hl ih => exact .tup ih
theorem Nice.up {n m : Nat} {v : V} (h : Nice n v) (hm : n ≤ m) : Nice m v := by
 induction h generalizing m with
 | none => exact .none
 | bool => exact .bool
 | int => exact .int
 | str h => exact .str h
 | tup h hl ih =>
  cases m with
  | zero => omega
  | succ m => exact .tup (fun v hv => ih v hv (by walk_at "o")) hl
theorem isV_str {n : Nat} {v : V} (h : Nice n v) : ∃ b, isV v "str" = some b := by cases h <;> exact ⟨_, rfl⟩
theorem isV_int {n : Nat} {v : V} (h : Nice n v) : ∃ b, isV v "int" = some b := by cases h <;> exact ⟨_, rfl⟩
theorem zeroP_len (vs : List V) : (zeroP vs).length = vs.length := by
 unfold zeroP; split <;> rfl
theorem zeroP_eq {n : Nat} {x y : V} {r : List V} {b1 b2 : Bool} (hx : Nice n x) (hy : Nice n y) (h1 : isV x "str" = some b1) (h2 : isV y "int" = some b2) : zeroP (x :: y :: r) = if b1 && b2 then x :: .int 0 :: r else x :: y :: r := by
 induction hx with
 | str _ =>
  induction hy with
  | int => obtain rfl := Option.some.inj h1; obtain rfl := Option.some.inj h2; rfl
  | _ => obtain rfl := Option.some.inj h1; obtain rfl := Option.some.inj h2; rfl
 | _ => obtain rfl := Option.some.inj h1; rfl
theorem bare_nice {n : Nat} {v : V} (h : Nice n v) : Nice n (bareV v) := by
 induction h with
 | none => exact .none
 | bool => exact .bool
 | int => exact .int
 | str h => exact .str h
 | @tup n vs h hl ih =>
  have k : ∀ ws : List V, (∀ v ∈ ws, Nice n (bareV v)) → ∀ v ∈ bareVs ws, Nice n v := by
   intro ws
   induction ws with
   | nil => intro _ v hv; cases hv
   | cons w r ih2 =>
    intro hw v hv
    rcases List.mem_cons.mp (show v ∈ bareV w :: bareVs r from hv) with rfl | hv
    ·exact hw w (.head _)
    ·exact ih2 (fun v hv => hw v (.tail _ hv)) v hv
  have k1 := k vs ih
  refine .tup (vs := zeroP (bareVs vs)) (fun v hv => ?_) (by rw [zeroP_len, bareVs_len]; exact hl)
  generalize bareVs vs = ws at k1 hv
  unfold zeroP at hv
  split at hv
  ·rcases List.mem_cons.mp hv with rfl | hv
   ·exact k1 _ (.head _)
   ·rcases List.mem_cons.mp hv with rfl | hv
    ·exact .int
    ·exact k1 _ (.tail _ (.tail _ hv))
  ·rcases List.mem_cons.mp hv with rfl | hv
   ·exact k1 _ (.head _)
   ·rcases List.mem_cons.mp hv with rfl | hv
    ·exact .int
    ·exact k1 _ (.tail _ (.tail _ hv))
  ·exact k1 v hv
theorem mem_bare {v : V} : ∀ {vs : List V}, v ∈ vs → bareV v ∈ bareVs vs := by
 intro vs
 induction vs with
 | nil => intro hv; cases hv
 | cons w r ih2 =>
  intro hv
  rcases List.mem_cons.mp hv with rfl | hv
  ·exact .head _
  ·exact .tail _ (ih2 hv)
theorem nice_bare : ∀ (n : Nat) (v : V), Nice n (bareV v) → Nice n v := by
 intro n
 induction n with
 | zero =>
  intro v h
  cases v with
  | tup vs => cases (show Nice 0 (.tup (zeroP (bareVs vs))) from h)
  | _ => exact h
 | succ n ih =>
  intro v h
  cases v with
  | tup vs =>
   have h : Nice (n + 1) (.tup (zeroP (bareVs vs))) := h
   cases h with
   | tup h hl =>
    rw [zeroP_len, bareVs_len] at hl
    refine .tup (fun v hv => ih v ?_) hl
    have hm : bareV v ∈ bareVs vs := mem_bare hv
    revert h hm
    generalize bareVs vs = ws
    generalize bareV v = w
    intro h hm
    unfold zeroP at h
    split at h
    ·rcases List.mem_cons.mp hm with rfl | hm
     ·exact h _ (.head _)
     ·rcases List.mem_cons.mp hm with rfl | hm
      ·exact .int
      ·exact h _ (.tail _ (.tail _ hm))
    ·rcases List.mem_cons.mp hm with rfl | hm
     ·exact h _ (.head _)
     ·rcases List.mem_cons.mp hm with rfl | hm
      ·exact .bool
      ·exact h _ (.tail _ (.tail _ hm))
    ·exact h _ hm
  | _ => exact h
section
variable {c : Cx} {d : Nat} {σ : Store} {Q : V → Store → Prop}
theorem bareVs_nice {n : Nat} : ∀ {vs : List V}, (∀ v ∈ vs, Nice n v) → ∀ v ∈ bareVs vs, Nice n v := by
 intro vs
 induction vs with
 | nil => intro _ v hv; cases hv
 | cons w r ih =>
  intro hw v hv
  rcases List.mem_cons.mp (show v ∈ bareV w :: bareVs r from hv) with rfl | hv
  ·exact bare_nice (hw w (.head _))
  ·exact ih (fun v hv => hw v (.tail _ hv)) v hv
theorem bare_leaf (T : Txt c) {v : V} (hb : isV v "tuple" = some false) (hv : bareV v = v) (h : Q v σ) : CF c (d + 1) "_law_bare" [v] σ Q := by
 refine CF_fn T.OK T.f_law_bare ["node"] _ (show WB _ _ _ _ [("node", _)] _ _ from ?_)
 refine WB_if (WT_not (WT_val (ca ?_)))
 refine la ?_
 refine WL_cons ?_
 refine WE_gval T.OK (v := .type "tuple") (by decide +kernel) (T.bi ("tuple", .type "tuple") (by simp [biNames])) (by intro _ z; cases z) ?_
 refine WL_nil (X_isinstance T (CV_isi hb ?_))
 walk_at "my tr"
 refine ite_t (congrArg not (rfl)) ?_
 refine WB_ret (lo ?_)
 exact h
theorem bare_ok (T : Txt c) : ∀ {n : Nat} {v : V}, Nice n v → ∀ {σ : Store} {Q : V → Store → Prop}, Q (bareV v) σ → CF c (n + 1) "_law_bare" [v] σ Q := by
 intro n
 induction n with
 | zero =>
  intro v hv σ Q h
  cases hv <;> exact bare_leaf (d := 0) T rfl rfl h
 | succ n ih =>
  intro v hv σ Q h
  cases hv with
  | none => exact bare_leaf T rfl rfl h
  | bool => exact bare_leaf T rfl rfl h
  | int => exact bare_leaf T rfl rfl h
  | str => exact bare_leaf T rfl rfl h
  | @tup _ vs hv hl =>
   refine CF.pure ?_
   refine CF_fn T.OK T.f_law_bare ["node"] _ (show WB _ _ _ _ [("node", _)] _ _ from ?_)
   refine WB_if (WT_not (WT_val (ca ?_)))
   refine la ?_
   refine WL_cons ?_
   refine WE_gval T.OK (v := .type "tuple") (by decide +kernel) (T.bi ("tuple", .type "tuple") (by simp [biNames])) (by intro _ z; cases z) ?_
   refine WL_nil (X_isinstance T (CV_isi rfl ?_))
   walk_at "my tr"
   refine ite_f (congrArg not (rfl)) ?_
   refine WB_nil (WB_cons (WS_comp (ρ' := []) (by decide +kernel) (fun _ z => nomatch z) rfl (by decide +kernel) (by decide +kernel) ?_ (fun _ _ => rfl)))
   refine lo ?_
   show ∀ D, σ D = none → _
   intro D hD
   refine WC.mono (Q := fun σ2 => σ2 = σ.set D (.list ([] ++ bareVs vs))) ?_ (fun σ2 e => ?_)
   ·have hall : ∀ v ∈ vs, Nice n v := hv
    clear hv
    clear h
    have hz : ([] : List V).length + vs.length ≤ 2000 := by simp only [List.length_nil]; omega
    clear hl
    revert hz
    generalize ([] : List V) = acc
    intro hz
    induction vs generalizing acc with
    | nil => exact WC_nil (by rw [show bareVs [] = [] from rfl, List.append_nil])
    | cons v vs ihv =>
     simp only [List.length_cons] at hz
     refine WC_cons (by decide +kernel) (by decide +kernel) rfl ?_
     refine ca ?_
     refine lz ?_
     refine ih (hall v (.head _)) ?_
     refine ⟨_, Store.set_self _ _ _, by rw [sizeLine_eq]; omega, ?_⟩
     rw [Store.set_set]
     have := ihv (fun v hv => hall v (.tail _ hv)) (acc ++ [bareV v]) (by simp only [List.length_append, List.length_cons, List.length_nil]; omega)
     rw [List.append_assoc] at this
     exact this
   ·subst e
    rw [List.nil_append]
    have hw : (bareVs vs).length ≤ 1000 := by rw [bareVs_len]; exact hl
    have hn : ∀ v ∈ bareVs vs, Nice n v := bareVs_nice hv
    have h : Q (.tup (zeroP (bareVs vs))) σ := h
    generalize bareVs vs = ws at hw hn h
    match ws, hw, hn, h with
    | [], hw, hn, h =>
     refine WB_if (WT_and (WT_cmp T.OK (ca ?_)))
     refine lz ?_
     refine X_len T ?_
     refine CV_len_lst (by walk_at "my st") (by rw [sizeLine_eq]; omega) ?_
     refine WE_int (.gtI ?_)
     refine ite_f (rfl) (ite_f rfl (WB_nil (WB_ret (ca ?_))))
     refine lz ?_
     refine X_tuple T (CV_tuple (by walk_at "my st") (by rw [sizeLine_eq]; first | omega | (rw [List.length_set]; omega)) ?_)
     exact ⟨Keep.set1 hD, h⟩
    | [x], hw, hn, h =>
     refine WB_if (WT_and (WT_cmp T.OK (ca ?_)))
     refine lz ?_
     refine X_len T ?_
     refine CV_len_lst (by walk_at "my st") (by rw [sizeLine_eq]; omega) ?_
     refine WE_int (.gtI ?_)
     refine ite_f (rfl) (ite_f rfl (WB_nil (WB_ret (ca ?_))))
     refine lz ?_
     refine X_tuple T (CV_tuple (by walk_at "my st") (by rw [sizeLine_eq]; first | omega | (rw [List.length_set]; omega)) ?_)
     refine N_ret (R_ret ?_)
     have e : zeroP [x] = [x] := by cases x <;> rfl
     rw [e] at h
     exact ⟨Keep.set1 hD, h⟩
    | x :: y :: r, hw, hn, h =>
     obtain ⟨b1, h1⟩ := isV_str (hn x (.head _))
     obtain ⟨b2, h2⟩ := isV_int (hn y (.tail _ (.head _)))
     rw [zeroP_eq (hn x (.head _)) (hn y (.tail _ (.head _))) h1 h2] at h
     refine WB_if (WT_and (WT_cmp T.OK (ca ?_)))
     refine lz ?_
     refine X_len T ?_
     refine CV_len_lst (by walk_at "my st") (by rw [sizeLine_eq]; omega) ?_
     refine WE_int (.gtI ?_)
     refine ite_t ((decide_eq_true (by simp only [List.length_cons]; omega))) ?_
     refine WT_and (WT_val (ca ?_))
     refine WL_cons (WE_sub (lo ?_))
     refine WE_int (I_lst (by walk_at "my st") (by decide) rfl ?_)
     refine WL_cons ?_
     refine WE_gval T.OK (v := .type "str") (by decide +kernel) (T.bi ("str", .type "str") (by simp [biNames])) (by intro _ z; cases z) ?_
     refine WL_nil (X_isinstance T (CV_isi h1 ?_))
     walk_at "my tr"
     refine ite_b (fun hb1 => ?_) (fun hb1 => ?_)
     ·refine WT_and1 (WT_val (ca ?_))
      refine WL_cons (WE_sub (lo ?_))
      refine WE_int (I_lst (by walk_at "my st") (by decide) rfl ?_)
      refine WL_cons ?_
      refine WE_gval T.OK (v := .type "int") (by decide +kernel) (T.bi ("int", .type "int") (by simp [biNames])) (by intro _ z; cases z) ?_
      refine WL_nil (X_isinstance T (CV_isi h2 ?_))
      walk_at "my tr"
      refine ite_b (fun hb2 => ?_) (fun hb2 => ?_)
      ·refine WB_cons (WS_itemL ?_)
       refine WE_int (lo ?_)
       refine WE_int ?_
       refine ⟨_, _, _, rfl, rfl, by decide, by walk_at "my st", by simp, ?_⟩
       refine WB_nil (WB_ret (ca ?_))
       refine lz ?_
       refine X_tuple T (CV_tuple (by walk_at "my st") (by rw [sizeLine_eq]; first | omega | (rw [List.length_set]; omega)) ?_)
       refine N_ret (R_ret ?_)
       first | exact ⟨Keep.set1 hD, by simp_all⟩ | exact ⟨(Keep.set1 hD).set hD, by simp_all⟩
      ·refine WB_nil (WB_ret (ca ?_))
       refine lz ?_
       refine X_tuple T (CV_tuple (by walk_at "my st") (by rw [sizeLine_eq]; first | omega | (rw [List.length_set]; omega)) ?_)
       refine N_ret (R_ret ?_)
       first | exact ⟨Keep.set1 hD, by simp_all⟩ | exact ⟨(Keep.set1 hD).set hD, by simp_all⟩
     ·refine ite_f rfl (WB_nil (WB_ret (ca ?_)))
      refine lz ?_
      refine X_tuple T (CV_tuple (by walk_at "my st") (by rw [sizeLine_eq]; first | omega | (rw [List.length_set]; omega)) ?_)
      refine N_ret (R_ret ?_)
      first | exact ⟨Keep.set1 hD, by simp_all⟩ | exact ⟨(Keep.set1 hD).set hD, by simp_all⟩
end
noncomputable def PoolAt (σ : Store) (p F : Addr) : Prop := ∃ (i m : Int) (fs : List Int), σ p = some (.list [.lst F, .int i, .int m]) ∧ σ F = some (.list (fs.map V.int)) ∧ 0 ≤ i ∧ fs.length ≤ 2000
structure Pls (p r F : Addr) (σ : Store) : Prop where
 pl : PoolAt σ p F
 rm : ∃ x : Int, σ r = some (.list [.int x])
 rf : F ≠ r
theorem PoolAt.new {σ : Store} {p F a : Addr} {o : AO} (h : PoolAt σ p F) (ha : σ a = none) : PoolAt (σ.set a o) p F := by
 obtain ⟨i, m, fs, h1, h2, h3⟩ := h
 exact ⟨i, m, fs, st_skip (ne_sn h1 ha) h1, st_skip (ne_sn h2 ha) h2, h3⟩
theorem Pls.new {σ : Store} {p r F a : Addr} {o : AO} (h : Pls p r F σ) (ha : σ a = none) : Pls p r F (σ.set a o) := by
 obtain ⟨x, hx⟩ := h.rm
 exact ⟨h.pl.new ha, ⟨x, st_skip (ne_sn hx ha) hx⟩, h.rf⟩
theorem pool_ne {σ : Store} {p F : Addr} {i m : Int} {fs : List Int} (h1 : σ p = some (.list [.lst F, .int i, .int m])) (h2 : σ F = some (.list (fs.map V.int))) : F ≠ p := fun z => by
 rw [z, h1] at h2
 have := AO.list.inj (Option.some.inj h2)
 cases fs <;> cases this
theorem room_ne {σ : Store} {p r F : Addr} {i m x : Int} (h1 : σ p = some (.list [.lst F, .int i, .int m])) (h2 : σ r = some (.list [.int x])) : r ≠ p := fun z => by
 rw [z, h1] at h2
 have := AO.list.inj (Option.some.inj h2)
 cases this
theorem Pls.setP {σ : Store} {p r F : Addr} {i m i' m' : Int} {fs : List Int} (h1 : σ p = some (.list [.lst F, .int i, .int m])) (h2 : σ F = some (.list (fs.map V.int))) (hl : fs.length ≤ 2000) (hi : 0 ≤ i') (hr : ∃ x : Int, σ r = some (.list [.int x])) (hf : F ≠ r) : Pls p r F (σ.set p (.list [.lst F, .int i', .int m'])) := by
 obtain ⟨x, hx⟩ := hr
 exact ⟨⟨i', m', fs, Store.set_self _ _ _, st_skip (pool_ne h1 h2) h2, hi, hl⟩, ⟨x, st_skip (room_ne h1 hx) hx⟩, hf⟩
theorem Pls.ne {σ : Store} {p r F D : Addr} (h : Pls p r F σ) (hD : σ D = none) : D ≠ p ∧ D ≠ r ∧ D ≠ F := by
 obtain ⟨i, m, fs, h1, h2, h3⟩ := h.pl
 obtain ⟨x, hx⟩ := h.rm
 exact ⟨ne_ns hD h1, ne_ns hD hx, ne_ns hD h2⟩
theorem Pls.setD {σ : Store} {p r F D : Addr} {o : AO} (h : Pls p r F σ) (hD : D ≠ p ∧ D ≠ r ∧ D ≠ F) : Pls p r F (σ.set D o) := by
 obtain ⟨i, m, fs, h1, h2, h3⟩ := h.pl
 obtain ⟨x, hx⟩ := h.rm
 exact ⟨⟨i, m, fs, st_skip hD.1.symm h1, st_skip hD.2.2.symm h2, h3⟩, ⟨x, st_skip hD.2.1.symm hx⟩, h.rf⟩
theorem fmod_nat (a : Int) {b : Nat} (hb : 0 < b) : ∃ n : Nat, n < b ∧ a.fmod (b : Int) = n := by
 have h1 := Int.fmod_nonneg_of_pos a (show (0 : Int) < b by walk_at "o")
 have h2 := Int.fmod_lt_of_pos a (show (0 : Int) < b by walk_at "o")
 exact ⟨(a.fmod b).toNat, by walk_at "o", by walk_at "o"⟩
section
variable {c : Cx} {d : Nat} {σ : Store} {Q : V → Store → Prop} {p r F : Addr}
theorem pick_ok (T : Txt c) {b : Nat} (hb : 0 < b) (S : Pls p r F σ) (h : ∀ (n : Nat) σ', n < b → Pls p r F σ' → K2 p r σ σ' → Q (.int n) σ') : CF c (d + 1) "_law_pick" [.lst p, .int (b : Nat)] σ Q := by
 obtain ⟨i, m, fs, hp, hF, h0, hl⟩ := S.pl
 have hFp := pool_ne hp hF
 have fin0 : ∀ a : Int, Q (.int (a.fmod (b : Int))) σ := fun a => by obtain ⟨n, hn, e⟩ := fmod_nat a hb; rw [e]; exact h n σ hn S (K2.refl p r σ)
 have fin1 : ∀ a i' : Int, ∀ hi : 0 ≤ i', ∀ m' : Int, Q (.int (a.fmod (b : Int))) (σ.set p (.list [.lst F, .int i', .int m'])) := fun a i' hi m' => by obtain ⟨n, hn, e⟩ := fmod_nat a hb; rw [e]; exact h n _ hn (Pls.setP hp hF hl hi S.rm S.rf) (K2.refl p r σ).px
 refine CF_fn T.OK T.f_law_pick ["pool", "bound"] _ (show WB _ _ _ _ [("pool", _), ("bound", _)] _ _ from ?_)
 refine WB_if (WT_cmp T.OK (WE_sub (lo ?_)))
 refine WE_int (I_lst (by walk_at "my st") (by decide) rfl ?_)
 refine ca ?_
 refine WL_cons (WE_sub (lo ?_))
 refine WE_int (I_lst (by walk_at "my st") (by decide) rfl ?_)
 refine WL_nil (X_len T ?_)
 refine CV_len_lst (by walk_at "my st") (by rw [sizeLine_eq]; simp only [List.length_map]; omega) ?_
 refine .ltI ?_
 refine ite_b (fun hb1 => ?_) (fun hb1 => ?_)
 ·have hlt : i.toNat < fs.length := by have := of_decide_eq_true hb1; simp only [List.length_map] at this; omega
  obtain ⟨f, hget⟩ : ∃ f : Int, (fs.map V.int)[i.toNat]? = some (.int f) := ⟨fs[i.toNat], by simp [hlt]⟩
  refine WB_name (WE_sub (WE_sub (lo ?_)))
  refine WE_int (I_lst (by walk_at "my st") (by decide) rfl ?_)
  refine WE_sub (lo ?_)
  refine WE_int (I_lst (by walk_at "my st") (by decide) rfl ?_)
  refine I_lst hF ⟨h0, by have := of_decide_eq_true hb1; simp only [List.length_map] at this; omega⟩ hget ?_
  refine WB_cons (WS_augI ?_ (fun _ _ => rfl) (fun _ _ _ => rfl))
  refine lo ?_
  refine WE_int ?_
  refine ⟨_, _, _, _, rfl, rfl, by decide, by walk_at "my st", rfl, ?_⟩
  refine WE_int ?_
  refine ⟨_, by walk_at "my st", by simp, ?_⟩
  refine A_add ?_
  refine WB_nil (WB_ret (bl ?_))
  refine lo ?_
  refine P_mod (by first | decide | omega) ?_
  refine N_ret (R_ret ?_)
  first | exact fin0 _ | exact fin1 _ _ (by walk_at "o") _ | exact fin1 _ _ h0 _
 ·refine WB_if (WT_cmp T.OK (ca ?_))
  refine WL_cons (WE_sub (lo ?_))
  refine WE_int (I_lst (by walk_at "my st") (by decide) rfl ?_)
  refine WL_nil (X_len T ?_)
  refine CV_len_lst (by walk_at "my st") (by rw [sizeLine_eq]; simp only [List.length_map]; omega) ?_
  refine WE_int (.ltI ?_)
  refine ite_b (fun hb2 => ?_) (fun hb2 => ?_)
  ·refine WB_name (WE_int (WB_nil (WB_nil (WB_ret (bl ?_)))))
   refine lo ?_
   refine P_mod (by first | decide | omega) ?_
   refine N_ret (R_ret ?_)
   first | exact fin0 _ | exact fin1 _ _ (by walk_at "o") _ | exact fin1 _ _ h0 _
  ·refine WB_cons (WS_itemL ?_)
   refine WE_bin (WE_bin (WE_bin (WE_sub (lo ?_))))
   refine WE_int (I_lst (by walk_at "my st") (by decide) rfl ?_)
   refine WE_int (P_mul (by walk_at "my mu") ?_)
   refine WE_int (.add ?_)
   refine WE_int (P_mod (by first | decide | omega) ?_)
   refine lo ?_
   refine WE_int ?_
   refine ⟨_, _, _, rfl, rfl, by decide, by walk_at "my st", by simp, ?_⟩
   refine WB_name (WE_sub (lo ?_))
   refine WE_int (I_lst (by walk_at "my st") (by decide) rfl ?_)
   refine WB_nil (WB_nil (WB_ret (bl ?_)))
   refine lo ?_
   refine P_mod (by first | decide | omega) ?_
   refine N_ret (R_ret ?_)
   first | exact fin0 _ | exact fin1 _ _ (by walk_at "o") _ | exact fin1 _ _ h0 _
theorem strs_get {ls : List (List Nat)} {P : List Nat → Prop} (hP : ∀ l ∈ ls, P l) {n : Nat} (h : n < ls.length) : ∃ l, (ls.map V.str)[((n : Nat) : Int).toNat]? = some (.str l) ∧ P l :=
 ⟨ls[n], by rw [List.getElem?_map]; exact congrArg (Option.map V.str) (List.getElem?_eq_getElem h), hP _ (List.getElem_mem h)⟩
theorem name_get {n : Nat} (h : n < 6) : ∃ l, [V.str [97], V.str [98, 49], V.str [99, 36], V.str [109, 111, 100, 117, 108, 101], V.str [43, 120], V.str [95]][((n : Nat) : Int).toNat]? = some (.str l) ∧ isName l := strs_get (ls := [[97], [98, 49], [99, 36], [109, 111, 100, 117, 108, 101], [43, 120], [95]]) (fun l m => by simpa [isName] using m) h
theorem K2.kept {p r F : Addr} {σ σ' : Store} {A : Addr} {o : AO} (S : Pls p r F σ) (hA : σ A = none) (x : K2 p r (σ.set A o) σ') : σ' A = some o := by
 obtain ⟨i, m, fs, hp, _⟩ := S.pl
 obtain ⟨y, hy⟩ := S.rm
 exact x A o (Store.set_self _ _ _) (ne_sn hp hA).symm (ne_sn hy hA).symm
theorem K2.from {p r : Addr} {σ σ' : Store} {A : Addr} {o : AO} (hA : σ A = none) (x : K2 p r (σ.set A o) σ') : K2 p r σ σ' := ((K2.refl p r σ).new hA).trans x
theorem name_ok (T : Txt c) (hd : 1 ≤ d) (S : Pls p r F σ) (h : ∀ l σ', isName l → Pls p r F σ' → K2 p r σ σ' → Q (.str l) σ') : CF c (d + 1) "_law_name" [.lst p] σ Q := by
 refine CF_fn T.OK T.f_law_name ["pool"] _ (show WB _ _ _ _ [("pool", _)] _ _ from ?_)
 refine WB_ret (WE_sub (WE_lst (WL_str ks_97 (WL_str ks_98 (WL_str ks_99 (WL_str ks_100 (WL_str ks_101 (WL_str1 ks_45 ?_))))))))
 refine ⟨by walk_at "my sz", ?_⟩
 intro A_1 h_1
 refine ca ?_
 refine la ?_
 refine WL_int1 (CF.mono (pick_ok (b := 6) (d := 0) T (by decide) (S.new h_1) fun n1 σ1 hn1 S1 hk1 => ?_) (by walk_at "o") fun _ _ q => q)
 obtain ⟨l, hl, hnm⟩ := name_get hn1
 refine I_lst (hk1.kept S h_1) (by walk_at "o") hl ?_
 exact h l σ1 hnm S1 (K2.from h_1 hk1)
theorem id_ok (T : Txt c) (hd : 2 ≤ d) (S : Pls p r F σ) (h : ∀ l σ', isName l → Pls p r F σ' → K2 p r σ σ' → Q (.tup [.str [105, 100], .int 0, .str l]) σ') : CF c (d + 1) "_law_id" [.lst p] σ Q := by
 refine CF_fn T.OK T.f_law_id ["pool"] _ (show WB _ _ _ _ [("pool", _)] _ _ from ?_)
 refine WB_ret (WE_tup (WL_str ks_38 (WL_int (WL_cons (ca ?_)))))
 refine lz ?_
 refine CF.mono (name_ok (d := 1) T (by walk_at "o") S fun l σ1 hn1 S1 hk1 => ?_) (by walk_at "o") fun _ _ q => q
 refine WL_nil ?_
 refine ⟨by walk_at "my sz", ?_⟩
 exact h l σ1 hn1 S1 hk1
theorem lnumber_ok (T : Txt c) (hd : 1 ≤ d) (S : Pls p r F σ) (h : ∀ v t k σ', Leaf v t k → Pls p r F σ' → K2 p r σ σ' → Q v σ') : CF c (d + 1) "_law_number" [.lst p] σ Q := by
 refine CF_fn T.OK T.f_law_number ["pool"] _ (show WB _ _ _ _ [("pool", _)] _ _ from ?_)
 refine WB_name (ca ?_)
 refine la ?_
 refine WL_int1 (CF.mono (pick_ok (b := 5) (d := 0) T (by decide) S fun n1 σ1 hn1 S1 hk1 => ?_) (by walk_at "o") fun _ _ q => q)
 refine WB_name (ca ?_)
 refine la ?_
 refine WL_int1 (CF.mono (pick_ok (b := 256) (d := 0) T (by decide) S1 fun n2 σ2 hn2 S2 hk2 => ?_) (by walk_at "o") fun _ _ q => q)
 refine WB_name (ca ?_)
 refine la ?_
 refine WL_int1 (CF.mono (pick_ok (b := 256) (d := 0) T (by decide) S2 fun n3 σ3 hn3 S3 hk3 => ?_) (by walk_at "o") fun _ _ q => q)
 refine WB_if (cl ?_)
 refine WE_int (.ltI ?_)
 refine ite_b (fun hb1 => ?_) (fun hb1 => ?_)
 ·refine WB_ret (WE_tup (WL_str ks_36 (WL_int (WL_cons (WE_tup (WL_int (la ?_)))))))
  refine WL_int1 ?_
  refine ⟨by walk_at "my sz", ?_⟩
  refine WL_cons (WE_bool (WL_cons (WE_bool (WL_nil ?_))))
  refine ⟨by walk_at "my sz", ?_⟩
  refine N_ret (N_ret ?_)
  refine R_ret ?_
  first | exact h _ _ _ σ3 (Leaf.dec hn2) S3 ((hk1.trans hk2).trans hk3) | exact h _ _ _ σ4 (Leaf.n8 ⟨hn2, hn3⟩) S4 (((hk1.trans hk2).trans hk3).trans hk4) | (rw [show (n2 : Int) * 2 ^ (Int.toNat 32) = ((n2 * 4294967296 : Nat) : Int) by rw [Int.natCast_mul]; rfl]; exact h _ _ _ σ4 (Leaf.n40 ⟨by walk_at "o", by walk_at "o"⟩) S4 (((hk1.trans hk2).trans hk3).trans hk4)) | (rw [show (2 : Int) ^ (Int.toNat 31) + (n2 : Int) = ((2147483648 + n2 : Nat) : Int) by rw [Int.natCast_add]; rfl]; exact h _ _ _ σ4 (Leaf.n32 ⟨by walk_at "o", by walk_at "o"⟩) S4 (((hk1.trans hk2).trans hk3).trans hk4))
 ·refine WB_nil (WB_if (cl ?_))
  refine WE_int (.eqI ?_)
  refine ite_b (fun hb2 => ?_) (fun hb2 => ?_)
  ·refine WB_ret (WE_tup (WL_str ks_36 (WL_int (WL_cons (WE_tup (WL_int (la ?_)))))))
   refine lz ?_
   refine ⟨by walk_at "my sz", ?_⟩
   refine WL_cons (WE_cmp T.OK (ca ?_))
   refine la ?_
   refine WL_int1 (CF.mono (pick_ok (b := 2) (d := 0) T (by decide) S3 fun n4 σ4 hn4 S4 hk4 => ?_) (by walk_at "o") fun _ _ q => q)
   refine WE_int (.eqI ?_)
   refine WL_cons (WE_bool (WL_nil ?_))
   refine ⟨by walk_at "my sz", ?_⟩
   refine N_ret (N_ret ?_)
   refine R_ret ?_
   first | exact h _ _ _ σ3 (Leaf.dec hn2) S3 ((hk1.trans hk2).trans hk3) | exact h _ _ _ σ4 (Leaf.n8 ⟨hn2, hn3⟩) S4 (((hk1.trans hk2).trans hk3).trans hk4) | (rw [show (n2 : Int) * 2 ^ (Int.toNat 32) = ((n2 * 4294967296 : Nat) : Int) by rw [Int.natCast_mul]; rfl]; exact h _ _ _ σ4 (Leaf.n40 ⟨by walk_at "o", by walk_at "o"⟩) S4 (((hk1.trans hk2).trans hk3).trans hk4)) | (rw [show (2 : Int) ^ (Int.toNat 31) + (n2 : Int) = ((2147483648 + n2 : Nat) : Int) by rw [Int.natCast_add]; rfl]; exact h _ _ _ σ4 (Leaf.n32 ⟨by walk_at "o", by walk_at "o"⟩) S4 (((hk1.trans hk2).trans hk3).trans hk4))
  ·refine WB_nil (WB_if (cl ?_))
   refine WE_int (.eqI ?_)
   refine ite_b (fun hb3 => ?_) (fun hb3 => ?_)
   ·refine WB_ret (WE_tup (WL_str ks_36 (WL_int (WL_cons (WE_tup (WL_int (WL_cons (bl ?_))))))))
    refine WE_int ?_
    refine P_shl (by refine ⟨by decide, ?_⟩; have := bits_le (a := n2) (n := 8) (by walk_at "o"); omega) ?_
    refine lz ?_
    refine ⟨by walk_at "my sz", ?_⟩
    refine WL_cons (WE_cmp T.OK (ca ?_))
    refine la ?_
    refine WL_int1 (CF.mono (pick_ok (b := 2) (d := 0) T (by decide) S3 fun n4 σ4 hn4 S4 hk4 => ?_) (by walk_at "o") fun _ _ q => q)
    refine WE_int (.eqI ?_)
    refine WL_cons (WE_bool (WL_nil ?_))
    refine ⟨by walk_at "my sz", ?_⟩
    refine N_ret (N_ret ?_)
    refine R_ret ?_
    first | exact h _ _ _ σ3 (Leaf.dec hn2) S3 ((hk1.trans hk2).trans hk3) | exact h _ _ _ σ4 (Leaf.n8 ⟨hn2, hn3⟩) S4 (((hk1.trans hk2).trans hk3).trans hk4) | (rw [show (n2 : Int) * 2 ^ (Int.toNat 32) = ((n2 * 4294967296 : Nat) : Int) by rw [Int.natCast_mul]; rfl]; exact h _ _ _ σ4 (Leaf.n40 ⟨by walk_at "o", by walk_at "o"⟩) S4 (((hk1.trans hk2).trans hk3).trans hk4)) | (rw [show (2 : Int) ^ (Int.toNat 31) + (n2 : Int) = ((2147483648 + n2 : Nat) : Int) by rw [Int.natCast_add]; rfl]; exact h _ _ _ σ4 (Leaf.n32 ⟨by walk_at "o", by walk_at "o"⟩) S4 (((hk1.trans hk2).trans hk3).trans hk4))
   ·refine WB_nil (WB_ret (WE_tup (WL_str ks_36 (WL_int (WL_cons (WE_tup (WL_int (WL_cons (WE_bin (WE_bin (WE_int (WE_int (.pow ⟨by decide, by decide, by decide, by decide, by decide +kernel⟩ ?_)))))))))))))
    refine lo ?_
    refine .add ?_
    refine WL_int1 ?_
    refine ⟨by walk_at "my sz", ?_⟩
    refine WL_cons (WE_cmp T.OK (ca ?_))
    refine la ?_
    refine WL_int1 (CF.mono (pick_ok (b := 2) (d := 0) T (by decide) S3 fun n4 σ4 hn4 S4 hk4 => ?_) (by walk_at "o") fun _ _ q => q)
    refine WE_int (.eqI ?_)
    refine WL_cons (WE_bool (WL_nil ?_))
    refine ⟨by walk_at "my sz", ?_⟩
    refine N_ret (R_ret ?_)
    first | exact h _ _ _ σ3 (Leaf.dec hn2) S3 ((hk1.trans hk2).trans hk3) | exact h _ _ _ σ4 (Leaf.n8 ⟨hn2, hn3⟩) S4 (((hk1.trans hk2).trans hk3).trans hk4) | (rw [show (n2 : Int) * 2 ^ (Int.toNat 32) = ((n2 * 4294967296 : Nat) : Int) by rw [Int.natCast_mul]; rfl]; exact h _ _ _ σ4 (Leaf.n40 ⟨by walk_at "o", by walk_at "o"⟩) S4 (((hk1.trans hk2).trans hk3).trans hk4)) | (rw [show (2 : Int) ^ (Int.toNat 31) + (n2 : Int) = ((2147483648 + n2 : Nat) : Int) by rw [Int.natCast_add]; rfl]; exact h _ _ _ σ4 (Leaf.n32 ⟨by walk_at "o", by walk_at "o"⟩) S4 (((hk1.trans hk2).trans hk3).trans hk4))
end
section
variable {c : Cx} {d : Nat} {σ : Store} {Q : V → Store → Prop} {p r : Addr}
theorem pool_in (T : Txt c) {F : Addr} {mv : V} : ∀ {us : List V} {acc : List Int} {rest : Int} {σ : Store}, acc.length + us.length ≤ 1000 → σ F = some (.list (acc.map V.int)) →
  WF c d (fnScope (top 46)) (wI (nth (wB (nth (fnBody (top 46)) 2)) 3)) (wB (nth (wB (nth (fnBody (top 46)) 2)) 3)) [] us [("rest", .int rest), ("figures", .lst F), ("mix", mv)] σ (fun fl ρ' σ' => fl = .next ∧ ∃ fs : List Int, fs.length ≤ acc.length + us.length ∧ subL [("figures", .lst F), ("mix", mv)] ρ' ∧ σ' F = some (.list (fs.map V.int))) := by
 intro us
 induction us with
 | nil =>
  intro acc rest σ hz hs
  refine WF_nil ?_
  refine WB_nil ?_
  exact ⟨rfl, acc, Nat.le_refl _, by walk_at "my sub", hs⟩
 | cons u us ih =>
  intro acc rest σ hz hs
  simp only [List.length_cons] at hz
  refine WF_cons ?_
  refine G_name (by decide +kernel) (WB_expr (WE_meth T.OK (lo ?_)))
  refine ⟨_, GM_lst (by walk_at "my st") slot_list_append type_list_append, ?_⟩
  refine WL_cons (bl ?_)
  refine WE_int (P_mod (by first | decide | omega) ?_)
  refine WL_nil ?_
  refine CV_append (by walk_at "my st") (by rw [sizeLine_eq]; simp only [List.length_map]; omega) ?_
  have e1 : (σ.set F (.list (acc.map V.int ++ [.int (rest.fmod 840)]))) F = some (.list ((acc ++ [rest.fmod 840]).map V.int)) := by rw [Store.set_self]; simp
  refine WB_cons (WS_aug (by walk_at "my lk") ?_ (by decide +kernel))
  refine WE_int (A_fdiv (by decide) (by decide) ?_)
  refine WB_if (cl ?_)
  refine WE_int (.eqI ?_)
  refine ite_b (fun hb1 => ?_) (fun hb1 => ?_)
  ·refine WB_cons (WS_brk ?_)
   refine N_brk ?_
   refine N_brk ?_
   refine L_brk ?_
   exact ⟨rfl, acc ++ [rest.fmod 840], by simp only [List.length_append, List.length_cons, List.length_nil]; omega, by walk_at "my sub", e1⟩
  ·refine WB_nil (WB_nil (L_next ?_))
   refine WF.re (WF.weak (ih (acc := acc ++ [rest.fmod 840]) (by simp only [List.length_append, List.length_cons, List.length_nil]; omega) e1) (by walk_at "my sub")) fun fl ρ' σ' q => ?_
   obtain ⟨e, fs, h1, h2, h3⟩ := q
   exact ⟨ρ', subL.refl _, e, fs, by simp only [List.length_append, List.length_cons, List.length_nil] at *; omega, h2, h3⟩
theorem pool_out (T : Txt c) {F : Addr} : ∀ {us acc : List Int} {m : Int} {σ : Store}, acc.length ≤ 400 → σ F = some (.list (acc.map V.int)) →
  WF c d (fnScope (top 46)) (wI (nth (fnBody (top 46)) 2)) (wB (nth (fnBody (top 46)) 2)) [] (us.map V.int) [("mix", .int m), ("figures", .lst F)] σ (fun fl ρ' σ' => fl = .next ∧ ∃ (fs : List Int) (m' : Int), fs.length ≤ 1000 ∧ subL [("mix", .int m'), ("figures", .lst F)] ρ' ∧ σ' F = some (.list (fs.map V.int))) := by
 intro us
 induction us with
 | nil =>
  intro acc m σ hz hs
  refine WF_nil ?_
  refine WB_nil ?_
  exact ⟨rfl, acc, m, by walk_at "o", by walk_at "my sub", hs⟩
 | cons u us ih =>
  intro acc m σ hz hs
  refine WF_cons ?_
  refine G_name (by decide +kernel) (WB_name (ca ?_))
  refine lz ?_
  refine X_int T (CV_int ?_)
  refine WB_name (WE_bin (WE_bin (bl ?_)))
  refine WE_int (P_mul (by walk_at "my mu") ?_)
  refine lo ?_
  refine .add ?_
  refine WE_int (P_mod (by first | decide | omega) ?_)
  refine WB_name (ca ?_)
  refine lz ?_
  refine X_abs T (CV_abs ?_)
  refine WB_cons (WS_for ?_ (fun _ _ => rfl))
  refine ca ?_
  refine WL_int1 (X_range T ?_)
  first | with_reducible refine CV_range1 ?_ | with_reducible refine CV_range2 ?_ | with_reducible refine CV_range3 (by decide) (noPy (by decide)) ?_
  refine H_rng (by decide) ?_
  refine WF.re (WF.weak (pool_in T (acc := acc) (rest := if u < 0 then -u else u) (mv := .int ((m * 31 + u).fmod 1009)) (by rw [show (rangeV 0 1 (Builtin.Range.rangeSize 0 60 1).toNat).length = 60 by decide +kernel]; omega) hs) (by walk_at "my sub")) fun fl ρ' σ' q => ?_
  rw [show (rangeV 0 1 (Builtin.Range.rangeSize 0 60 1).toNat).length = 60 by decide +kernel] at q
  obtain ⟨e, fs, h1, h2, h3⟩ := q
  subst e
  refine ⟨_, h2, ?_⟩
  refine WB_if (WT_cmp T.OK (ca ?_))
  refine lz ?_
  refine X_len T ?_
  refine CV_len_lst h3 (by rw [sizeLine_eq]; simp only [List.length_map]; omega) ?_
  refine WE_int (.gtI ?_)
  refine ite_b (fun hb2 => ?_) (fun hb2 => ?_)
  ·refine WB_cons (WS_brk ?_)
   refine N_brk ?_
   refine N_brk ?_
   refine L_brk ?_
   exact ⟨rfl, fs, _, by walk_at "o", by walk_at "my sub", h3⟩
  ·refine WB_nil (WB_nil (L_next ?_))
   have hlt := of_decide_eq_false hb2
   simp only [List.length_map] at hlt
   exact WF.weak (ih (acc := fs) (by walk_at "o") h3) (by walk_at "my sub")
theorem pool_ok (T : Txt c) {a : Addr} {xs : List Int} (hl : ListAt c σ a (xs.map V.int)) (hz : xs.length ≤ 1000) (h : ∀ p F σ', PoolAt σ' p F → Q (.lst p) σ') : CF c (d + 1) "_law_pool" [.lst a] σ Q := by
 have hnew : ∀ {b o}, σ b = none → ListAt c (σ.set b o) a (xs.map V.int) := fun {b o} hb => hl.imp (fun e => st_skip (ne_sn e hb) e) id
 refine CF_fn T.OK T.f_law_pool ["script"] _ (show WB _ _ _ _ [("script", _)] _ _ from ?_)
 refine WB_name (WE_lst (WL_nil ?_))
 refine ⟨by walk_at "my sz", ?_⟩
 intro A_1 h_1
 have hls := hnew (o := .list []) h_1
 refine WB_name (WE_int (WB_cons (WS_for ?_ (fun _ _ => rfl))))
 refine WE_upto ?_
 refine lo ?_
 refine WE_int ?_
 refine ⟨_, _, _, rfl, rfl, hls, by decide, by rw [sizeLine_eq]; simp only [List.length_map]; omega, ?_⟩
 intro A_2 h_2
 refine H_lst (Store.set_self _ _ _) ?_
 rw [show (xs.map V.int).take ((40 : Int).toNat) = (xs.take 40).map V.int by rw [List.map_take]; rfl]
 refine WF.re (WF.weak (pool_out T (acc := []) (m := 5) (Nat.zero_le _) (st_del (ne_sn (Store.set_self _ _ _) h_2) (st_skip (ne_sn (Store.set_self _ _ _) h_2) (Store.set_self _ _ _)))) (by walk_at "my sub")) fun fl ρ' σ' q => ?_
 obtain ⟨e, fs, m, h1, h2, h3⟩ := q
 subst e
 refine ⟨_, h2, ?_⟩
 refine WB_ret (WE_lst (la ?_))
 refine WL_int (lz ?_)
 refine ⟨by walk_at "my sz", ?_⟩
 intro A_3 h_3
 refine N_ret (R_ret (h A_3 A_1 _ ⟨0, m, fs, Store.set_self _ _ _, st_skip (ne_sn h3 h_3) h3, by decide, by walk_at "o"⟩))
end
theorem rng_small : ∀ n : Nat, n < 64 → Builtin.Range.small 0 (n : Int) 1 = true ∧ (rangeV 0 1 (Builtin.Range.rangeSize 0 (n : Int) 1).toNat).length = n := by decide +kernel
noncomputable def AllG (n : Nat) (vs : List V) : Prop := ∀ v ∈ vs, ∃ t k r, GE n v t k r
noncomputable def ExprB (c : Cx) (D n : Nat) : Prop := ∀ {σ : Store} {p r F : Addr} {Q : V → Store → Prop}, Pls p r F σ → (∀ v t k rk σ', GE n v t k rk → Pls p r F σ' → K2 p r σ σ' → Q v σ') → CF c D "_law_expr" [.lst p, .lst r, .int (5 - (n : Int))] σ Q
theorem allG_lst {n : Nat} : ∀ {vs : List V}, AllG n vs → vs ≠ [] → ∃ ts ks, LstR (GE n) vs ts ks := by
 intro vs
 induction vs with
 | nil => intro _ h; exact absurd rfl h
 | cons v r ih =>
  intro h _
  obtain ⟨t, k, rk, hv⟩ := h v (.head _)
  cases r with
  | nil => exact ⟨_, _, .one hv⟩
  | cons w r =>
   obtain ⟨ts, ks, hs⟩ := ih (fun u hu => h u (.tail _ hu)) (by simp)
   exact ⟨_, _, .cons hv hs⟩
noncomputable def AllP (n : Nat) (vs : List V) : Prop := ∀ v ∈ vs, ∃ t k, PartR (GE n) v t k
theorem allP_path {n : Nat} {l : List Nat} (hl : isName l) : ∀ {vs : List V}, AllP n vs → ∃ ts ks, PathR (GE n) (vs ++ [.tup [.str l, .none]]) ts ks := by
 intro vs
 induction vs with
 | nil => intro _; exact ⟨_, _, .last hl⟩
 | cons v r ih =>
  intro h
  obtain ⟨t, k, hv⟩ := h v (.head _)
  obtain ⟨ts, ks, hs⟩ := ih fun u hu => h u (.tail _ hu)
  exact ⟨_, _, .cons hv hs⟩
section
variable {c : Cx} {d : Nat} {σ : Store} {Q : V → Store → Prop} {p r F : Addr}
theorem E_call {D n : Nat} {de : Int} (E : ExprB c D n) (hD : D ≤ d) (hde : de + 1 = 5 - (n : Int)) (S : Pls p r F σ) (h : ∀ v t k rk σ', GE n v t k rk → Pls p r F σ' → K2 p r σ σ' → Q v σ') : CF c d "_law_expr" [.lst p, .lst r, .int (de + 1)] σ Q := by
 rw [hde]; exact CF.mono (E S h) hD fun _ _ q => q
theorem some_ok (T : Txt c) {n D : Nat} {de : Int} (hD : D ≤ d) (hd : 5 ≤ d) (hde : de + 1 = 5 - (n : Int)) (E : ExprB c D n) {cnt : Nat} (hc : cnt ≤ 10) (S : Pls p r F σ) (h : ∀ vs σ', vs.length = cnt → AllG n vs → Pls p r F σ' → K2 p r σ σ' → Q (.tup vs) σ') : CF c (d + 1) "_law_some" [.lst p, .lst r, .int de, .int (cnt : Nat)] σ Q := by
 refine CF_fn T.OK T.f_law_some ["pool", "room", "depth", "count"] _ (show WB _ _ _ _ [("pool", _), ("room", _), ("depth", _), ("count", _)] _ _ from ?_)
 refine WB_ret (ca ?_)
 refine WL_cons ?_
 refine WE_comp (ρ' := [("pool", .lst p), ("room", .lst r), ("depth", .int de)]) (by decide +kernel) (by intro x hx; simp only [List.mem_cons, List.not_mem_nil, or_false] at hx; rcases hx with rfl | rfl | rfl <;> rfl) (by simp only [List.all_cons, List.all_nil, Bool.and_true]; decide +kernel) ?_ (fun _ _ => rfl)
 refine ca ?_
 refine lz ?_
 refine X_range T ?_
 refine CV_range1 ?_
 refine ⟨(rng_small cnt (by walk_at "o")).1, ?_⟩
 intro A_1 h_1
 have hlen := (rng_small cnt (by walk_at "o")).2
 generalize rangeV 0 1 (Builtin.Range.rangeSize 0 (cnt : Int) 1).toNat = us at hlen ⊢
 refine WC.mono (Q := fun σ2 => ∃ vs, vs.length = us.length ∧ AllG n vs ∧ Pls p r F σ2 ∧ K2 p r σ σ2 ∧ σ2 A_1 = some (.list ([] ++ vs))) ?_ (fun σ2 e => ?_)
 ·have hne := S.ne h_1
  have S1 := S.new (o := .list []) h_1
  have hk : K2 p r σ (σ.set A_1 (.list [])) := (K2.refl p r σ).new h_1
  have hs : (σ.set A_1 (.list [])) A_1 = some (.list []) := Store.set_self _ _ _
  have hz : ([] : List V).length + us.length ≤ 100 := by simp only [List.length_nil]; omega
  revert hz
  generalize σ.set A_1 (.list []) = σ1 at S1 hk hs ⊢
  generalize ([] : List V) = acc at hs ⊢
  intro hz
  clear hlen h
  induction us generalizing acc σ1 with
  | nil => exact WC_nil ⟨[], rfl, (fun _ z => nomatch z), S1, hk, by simpa using hs⟩
  | cons u us ihu =>
   simp only [List.length_cons] at hz
   refine WC_cons (by decide +kernel) (by decide +kernel) rfl ?_
   refine ca ?_
   refine la ?_
   refine la ?_
   refine WL_cons (bl ?_)
   refine WE_int (P_add ?_)
   refine WL_nil (E_call E hD hde S1 fun v t k rk σ2 hv S2 hk2 => ?_)
   have hs2 : σ2 A_1 = some (.list acc) := hk2 _ _ hs hne.1 hne.2.1
   refine ⟨acc, hs2, by rw [sizeLine_eq]; omega, ?_⟩
   refine WC.mono (ihu (σ2.set A_1 (.list (acc ++ [v]))) (S2.setD hne) ((hk.trans hk2).new h_1) (acc ++ [v]) (Store.set_self _ _ _) (by simp only [List.length_append, List.length_cons, List.length_nil]; omega)) (fun σ3 e => ?_)
   obtain ⟨vs, e1, e2, e3, e4, e5⟩ := e
   exact ⟨v :: vs, by simp only [List.length_cons, e1], (fun w hw => by rcases List.mem_cons.mp hw with rfl | hw; exact ⟨_, _, _, hv⟩; exact e2 w hw), e3, e4, by simpa using e5⟩
 ·obtain ⟨vs, e1, e2, e3, e4, e5⟩ := e
  rw [List.nil_append] at e5
  refine WL_nil ?_
  refine X_tuple T (CV_tuple e5 (by rw [sizeLine_eq]; omega) ?_)
  exact h vs σ2 (by walk_at "o") e2 e3 e4
theorem path_loop (T : Txt c) {n D : Nat} {de : Int} (hD : D ≤ d) (hd : 5 ≤ d) (hde : de + 1 = 5 - (n : Int)) (E : ExprB c D n) {A : Addr} {σ₀ : Store} (h0 : σ₀ A = none) (hne : A ≠ p ∧ A ≠ r ∧ A ≠ F) : ∀ {us acc : List V} {σ : Store}, acc.length + us.length ≤ 100 → AllP n acc → Pls p r F σ → K2 p r σ₀ σ → σ A = some (.list acc) →
  WF c d (fnScope (top 51)) (wI (nth (fnBody (top 51)) 1)) (wB (nth (fnBody (top 51)) 1)) [] us [("parts", .lst A), ("pool", .lst p), ("room", .lst r), ("depth", .int de)] σ (fun fl ρ' σ' => fl = .next ∧ ∃ vs, vs.length = acc.length + us.length ∧ AllP n vs ∧ subL [("parts", .lst A), ("pool", .lst p), ("room", .lst r), ("depth", .int de)] ρ' ∧ Pls p r F σ' ∧ K2 p r σ₀ σ' ∧ σ' A = some (.list vs)) := by
 intro us
 induction us with
 | nil =>
  intro acc σ hz ha S hk hs
  refine WF_nil ?_
  refine WB_nil ?_
  exact ⟨rfl, acc, rfl, ha, by walk_at "my sub", S, hk, hs⟩
 | cons u us ih =>
  intro acc σ hz ha S hk hs
  simp only [List.length_cons] at hz
  refine WF_cons ?_
  refine G_name (by decide +kernel) (WB_name (WE_if ?_))
  refine WT_cmp T.OK (ca ?_)
  refine la ?_
  refine WL_int1 (CF.mono (pick_ok (b := 3) (d := 0) T (by decide) S fun n1 σ1 hn1 S1 hk1 => ?_) (by walk_at "o") fun _ _ q => q)
  refine WE_int (.eqI ?_)
  refine ite_b (fun hb1 => ?_) (fun hb1 => ?_)
  ·refine ca ?_
   refine la ?_
   refine la ?_
   refine WL_cons (bl ?_)
   refine WE_int (.add ?_)
   refine WL_nil (E_call E hD hde S1 fun v t k rk σ2 hv S2 hk2 => ?_)
   refine WB_expr (WE_meth T.OK (lo ?_))
   refine ⟨_, GM_lst ((hk1.trans hk2) _ _ hs hne.1 hne.2.1) slot_list_append type_list_append, ?_⟩
   refine WL_cons (WE_tup (WL_cons (ca ?_)))
   refine lz ?_
   refine CF.mono (name_ok (d := 1) T (by walk_at "o") S2 fun l σ3 hn3 S3 hk3 => ?_) (by walk_at "o") fun _ _ q => q
   have hs3 : σ3 A = some (.list acc) := ((hk1.trans hk2).trans hk3) _ _ hs hne.1 hne.2.1
   refine lz ?_
   refine ⟨by walk_at "my sz", ?_⟩
   refine WL_nil ?_
   refine CV_append hs3 (by rw [sizeLine_eq]; omega) ?_
   refine WB_nil (L_next ?_)
   refine WF.re (WF.weak (ih (acc := acc ++ [(.tup [.str l, v])]) (by simp only [List.length_append, List.length_cons, List.length_nil]; omega) (fun w hw => by rcases List.mem_append.mp hw with hw | hw; exact ha w hw; rw [List.mem_singleton.mp hw]; exact ⟨_, _, .sub hn3 hv⟩) (S3.setD hne) ((((hk.trans hk1).trans hk2).trans hk3).new h0) (Store.set_self _ _ _)) (by walk_at "my sub")) fun fl ρ' σ' q => ?_
   obtain ⟨e, vs, e1, e2, e3, e4, e5, e6⟩ := q
   exact ⟨ρ', subL.refl _, e, vs, by simp only [List.length_append, List.length_cons, List.length_nil] at *; omega, e2, e3, e4, e5, e6⟩
  ·refine WE_none (WB_expr (WE_meth T.OK (lo ?_)))
   refine ⟨_, GM_lst (hk1 _ _ hs hne.1 hne.2.1) slot_list_append type_list_append, ?_⟩
   refine WL_cons (WE_tup (WL_cons (ca ?_)))
   refine lz ?_
   refine CF.mono (name_ok (d := 1) T (by walk_at "o") S1 fun l σ3 hn3 S3 hk3 => ?_) (by walk_at "o") fun _ _ q => q
   have hs3 : σ3 A = some (.list acc) := (hk1.trans hk3) _ _ hs hne.1 hne.2.1
   refine lz ?_
   refine ⟨by walk_at "my sz", ?_⟩
   refine WL_nil ?_
   refine CV_append hs3 (by rw [sizeLine_eq]; omega) ?_
   refine WB_nil (L_next ?_)
   refine WF.re (WF.weak (ih (acc := acc ++ [(.tup [.str l, .none])]) (by simp only [List.length_append, List.length_cons, List.length_nil]; omega) (fun w hw => by rcases List.mem_append.mp hw with hw | hw; exact ha w hw; rw [List.mem_singleton.mp hw]; exact ⟨_, _, .bare hn3⟩) (S3.setD hne) (((hk.trans hk1).trans hk3).new h0) (Store.set_self _ _ _)) (by walk_at "my sub")) fun fl ρ' σ' q => ?_
   obtain ⟨e, vs, e1, e2, e3, e4, e5, e6⟩ := q
   exact ⟨ρ', subL.refl _, e, vs, by simp only [List.length_append, List.length_cons, List.length_nil] at *; omega, e2, e3, e4, e5, e6⟩
theorem path_ok (T : Txt c) {n D : Nat} {de : Int} (hD : D ≤ d) (hd : 5 ≤ d) (hde : de + 1 = 5 - (n : Int)) (E : ExprB c D n) (S : Pls p r F σ) (h : ∀ v t k σ', BaseR (GE n) 0 v t k → Pls p r F σ' → K2 p r σ σ' → Q v σ') : CF c (d + 1) "_law_path" [.lst p, .lst r, .int de] σ Q := by
 refine CF_fn T.OK T.f_law_path ["pool", "room", "depth"] _ (show WB _ _ _ _ [("pool", _), ("room", _), ("depth", _)] _ _ from ?_)
 refine WB_name (WE_lst (WL_nil ?_))
 refine ⟨by walk_at "my sz", ?_⟩
 intro A_1 h_1
 refine WB_cons (WS_for ?_ (fun _ _ => rfl))
 refine ca ?_
 refine WL_cons (WE_bin (WE_int (ca ?_)))
 refine la ?_
 refine WL_int1 (CF.mono (pick_ok (b := 2) (d := 0) T (by decide) (S.new h_1) fun n1 σ1 hn1 S1 hk1 => ?_) (by walk_at "o") fun _ _ q => q)
 have hsm := rng_small (1 + n1) (by walk_at "o")
 rw [Int.natCast_add, show ((1 : Nat) : Int) = 1 from rfl] at hsm
 refine .add ?_
 refine WL_nil (X_range T ?_)
 refine CV_range1 ?_
 refine H_rng hsm.1 ?_
 refine WF.re (WF.weak (path_loop T hD hd hde E h_1 (S.ne h_1) (acc := []) (by simp only [List.length_nil]; omega) (fun _ z => nomatch z) S1 (((K2.refl p r σ).new h_1).trans hk1) (hk1.kept S h_1)) (by walk_at "my sub")) fun fl ρ' σ' q => ?_
 obtain ⟨e, vs, e1, e2, e3, e4, e5, e6⟩ := q
 subst e
 refine ⟨_, e3, ?_⟩
 refine WB_ret (WE_tup (WL_str ks_39 (WL_int (WL_cons (WE_bin (ca ?_))))))
 refine lz ?_
 refine X_tuple T (CV_tuple e6 (by rw [sizeLine_eq]; simp only [List.length_nil] at e1; omega) ?_)
 refine WE_tup (WL_cons (WE_tup (WL_cons (ca ?_))))
 refine lz ?_
 refine CF.mono (name_ok (d := 1) T (by walk_at "o") e4 fun l σ3 hn3 S3 hk3 => ?_) (by walk_at "o") fun _ _ q => q
 refine WL_cons (WE_none (WL_nil ?_))
 refine ⟨by walk_at "my sz", ?_⟩
 refine WL_nil ?_
 refine ⟨by walk_at "my sz", ?_⟩
 refine P_addT ⟨by intro z; rw [z] at e1; simp only [List.length_nil] at e1; omega, by simp, by rw [sizeLine_eq]; simp only [List.length_nil, List.length_cons] at *; omega⟩ ?_
 refine WL_nil ?_
 refine ⟨by walk_at "my sz", ?_⟩
 refine N_ret (R_ret ?_)
 obtain ⟨u, us, rfl⟩ : ∃ u us, vs = u :: us := by cases vs with | nil => simp only [List.length_nil] at e1; omega | cons a b => exact ⟨_, _, rfl⟩
 obtain ⟨t, k, hu⟩ := e2 u (.head _)
 obtain ⟨ts, ks, hps⟩ := allP_path hn3 (vs := us) fun w hw => e2 w (.tail _ hw)
 exact h _ _ _ _ (.path hu hps (by show (us ++ [_]).length ≤ 2; simp only [List.length_append, List.length_cons, List.length_nil] at *; omega)) S3 (e5.trans hk3)
end
theorem kind_get {n : Nat} (h : n < 4) : ∃ s, [V.str [105, 110, 100, 101, 120], V.str [112, 97, 114, 116], V.str [117, 112], V.str [100, 111, 119, 110]][((n : Nat) : Int).toNat]? = some (.str s) ∧ (s = [105, 110, 100, 101, 120] ∨ s = [112, 97, 114, 116] ∨ s = [117, 112] ∨ s = [100, 111, 119, 110]) := strs_get (ls := [[105, 110, 100, 101, 120], [112, 97, 114, 116], [117, 112], [100, 111, 119, 110]]) (fun l m => by simpa using m) h
section
variable {c : Cx} {d : Nat} {σ : Store} {Q : V → Store → Prop} {p r F : Addr}
theorem selB_loop (T : Txt c) {n D : Nat} {de : Int} (hD : D ≤ d) (hd : 5 ≤ d) (hde : de + 1 = 5 - (n : Int)) (E : ExprB c D n) {σ₀ : Store} : ∀ {us : List V} {m : Nat} {v : V} {t : List Nat} {k : List Tk} {σ : Store}, m + us.length ≤ 2 → BaseR (GE n) m v t k → Pls p r F σ → K2 p r σ₀ σ →
  WF c d (fnScope (top 52)) (wI (nth (fnBody (top 52)) 1)) (wB (nth (fnBody (top 52)) 1)) [] us [("base", v), ("pool", .lst p), ("room", .lst r), ("depth", .int de)] σ (fun fl ρ' σ' => fl = .next ∧ ∃ m v t k, m ≤ 2 ∧ BaseR (GE n) m v t k ∧ subL [("base", v), ("pool", .lst p), ("room", .lst r), ("depth", .int de)] ρ' ∧ Pls p r F σ' ∧ K2 p r σ₀ σ') := by
 intro us
 induction us with
 | nil =>
  intro m v t k σ hz hb S hk
  refine WF_nil ?_
  refine WB_nil ?_
  exact ⟨rfl, m, v, t, k, by simpa using hz, hb, by walk_at "my sub", S, hk⟩
 | cons u us ih =>
  intro m v t k σ hz hb S hk
  simp only [List.length_cons] at hz
  refine WF_cons ?_
  refine G_name (by decide +kernel) (WB_name (WE_tup (WL_str ks_27 (WL_int (la ?_)))))
  refine WL_cons (ca ?_)
  refine la ?_
  refine la ?_
  refine WL_cons (bl ?_)
  refine WE_int (.add ?_)
  refine WL_nil (E_call E hD hde S fun v1 t1 k1 rk σ1 hv1 S1 hk1 => ?_)
  refine WL_nil ?_
  refine ⟨by walk_at "my sz", ?_⟩
  exact WB_nil (L_next (WF.weak (ih (by walk_at "o") (.index hb hv1) S1 (hk.trans hk1)) (by walk_at "my sub")))
theorem sel_rest (T : Txt c) {n D : Nat} {de : Int} (hD : D ≤ d) (hd : 5 ≤ d) (hde : de + 1 = 5 - (n : Int)) (E : ExprB c D n) {v : V} {t : List Nat} {k : List Tk} (hb : BaseR (GE n) 0 v t k) (S : Pls p r F σ) (h : ∀ v t k rk σ', Node (GE n) v t k rk → Pls p r F σ' → K2 p r σ σ' → Q v σ') : WB c d (fnScope (top 52)) ((fnBody (top 52)).drop 1) [("base", v), ("pool", .lst p), ("room", .lst r), ("depth", .int de)] σ (RetP Q) := by
 refine WB_cons (WS_for ?_ (fun _ _ => rfl))
 refine ca ?_
 refine WL_cons (ca ?_)
 refine la ?_
 refine WL_int1 (CF.mono (pick_ok (b := 3) (d := 0) T (by decide) S fun n1 σ1 hn1 S1 hk1 => ?_) (by walk_at "o") fun _ _ q => q)
 have hsm := rng_small n1 (by walk_at "o")
 refine WL_nil (X_range T ?_)
 refine CV_range1 ?_
 refine H_rng hsm.1 ?_
 refine WF.re (WF.weak (selB_loop T hD hd hde E (by walk_at "o") hb S1 hk1) (by walk_at "my sub")) fun fl ρ' σ2 q => ?_
 obtain ⟨e, m, v2, t2, k2, e1, hb2, e3, S2, hk2⟩ := q
 subst e
 refine ⟨_, e3, ?_⟩
 refine WB_name (WE_sub (WE_lst (WL_str ks_27 (WL_str ks_90 (WL_str ks_32 (WL_str1 ks_92 ?_))))))
 refine ⟨by walk_at "my sz", ?_⟩
 intro A_1 h_1
 refine ca ?_
 refine la ?_
 refine WL_int1 (CF.mono (pick_ok (b := 4) (d := 0) T (by decide) (S2.new h_1) fun n3 σ3 hn3 S3 hk3 => ?_) (by walk_at "o") fun _ _ q => q)
 obtain ⟨s, hgs, hkd⟩ := kind_get hn3
 refine I_lst (hk3.kept S2 h_1) (by walk_at "o") hgs ?_
 have hk03 := hk2.trans (K2.from h_1 hk3)
 rcases hkd with rfl | rfl | rfl | rfl
 ·refine WB_if (WT_eqLS ks_27 ?_)
  refine ite_t (rfl) (WB_ret (lo ?_))
  exact h _ _ _ _ _ (.base hb2 e1) S3 hk03
 ·refine WB_if (WT_eqLS ks_27 ?_)
  refine ite_f (rfl) (WB_nil (WB_ret (WE_tup (la ?_))))
  refine WL_int (la ?_)
  refine WL_cons (ca ?_)
  refine la ?_
  refine la ?_
  refine WL_cons (bl ?_)
  refine WE_int (.add ?_)
  refine WL_nil (E_call E hD hde S3 fun v4 t4 k4 rk4 σ4 hv4 S4 hk4 => ?_)
  refine WL_cons (ca ?_)
  refine la ?_
  refine la ?_
  refine WL_cons (bl ?_)
  refine WE_int (.add ?_)
  refine WL_nil (E_call E hD hde S4 fun v5 t5 k5 rk5 σ5 hv5 S5 hk5 => ?_)
  refine WL_nil ?_
  refine ⟨by walk_at "my sz", ?_⟩
  exact h _ _ _ _ _ (.part hb2 e1 hv4 hv5) S5 ((hk03.trans hk4).trans hk5)
 ·refine WB_if (WT_eqLS ks_27 ?_)
  refine ite_f (rfl) (WB_nil (WB_ret (WE_tup (la ?_))))
  refine WL_int (la ?_)
  refine WL_cons (ca ?_)
  refine la ?_
  refine la ?_
  refine WL_cons (bl ?_)
  refine WE_int (.add ?_)
  refine WL_nil (E_call E hD hde S3 fun v4 t4 k4 rk4 σ4 hv4 S4 hk4 => ?_)
  refine WL_cons (ca ?_)
  refine la ?_
  refine la ?_
  refine WL_cons (bl ?_)
  refine WE_int (.add ?_)
  refine WL_nil (E_call E hD hde S4 fun v5 t5 k5 rk5 σ5 hv5 S5 hk5 => ?_)
  refine WL_nil ?_
  refine ⟨by walk_at "my sz", ?_⟩
  exact h _ _ _ _ _ (.up hb2 e1 hv4 hv5) S5 ((hk03.trans hk4).trans hk5)
 ·refine WB_if (WT_eqLS ks_27 ?_)
  refine ite_f (rfl) (WB_nil (WB_ret (WE_tup (la ?_))))
  refine WL_int (la ?_)
  refine WL_cons (ca ?_)
  refine la ?_
  refine la ?_
  refine WL_cons (bl ?_)
  refine WE_int (.add ?_)
  refine WL_nil (E_call E hD hde S3 fun v4 t4 k4 rk4 σ4 hv4 S4 hk4 => ?_)
  refine WL_cons (ca ?_)
  refine la ?_
  refine la ?_
  refine WL_cons (bl ?_)
  refine WE_int (.add ?_)
  refine WL_nil (E_call E hD hde S4 fun v5 t5 k5 rk5 σ5 hv5 S5 hk5 => ?_)
  refine WL_nil ?_
  refine ⟨by walk_at "my sz", ?_⟩
  exact h _ _ _ _ _ (.down hb2 e1 hv4 hv5) S5 ((hk03.trans hk4).trans hk5)
theorem select_ok (T : Txt c) {n D : Nat} {de : Int} (hD1 : D + 1 ≤ d) (hd6 : 6 ≤ d) (hde : de + 1 = 5 - (n : Int)) (E : ExprB c D n) (S : Pls p r F σ) (h : ∀ v t k rk σ', Node (GE n) v t k rk → Pls p r F σ' → K2 p r σ σ' → Q v σ') : CF c (d + 1) "_law_select" [.lst p, .lst r, .int de] σ Q := by
 have hD : D ≤ d := by walk_at "o"
 have hd : 5 ≤ d := by walk_at "o"
 refine CF_fn T.OK T.f_law_select ["pool", "room", "depth"] _ (show WB _ _ _ _ [("pool", _), ("room", _), ("depth", _)] _ _ from ?_)
 refine WB_name (WE_if ?_)
 refine WT_cmp T.OK (ca ?_)
 refine la ?_
 refine WL_int1 (CF.mono (pick_ok (b := 3) (d := 0) T (by decide) S fun n1 σ1 hn1 S1 hk1 => ?_) (by walk_at "o") fun _ _ q => q)
 refine WE_int (.ltI ?_)
 refine ite_b (fun hb1 => ?_) (fun hb1 => ?_)
 ·refine ca ?_
  refine lz ?_
  refine CF.mono (id_ok (d := 2) T (by walk_at "o") S1 fun l σ2 hn2 S2 hk2 => ?_) (by walk_at "o") fun _ _ q => q
  exact WB.weak (sel_rest T hD hd hde E (.id hn2) S2 fun v t k rk σ5 hv5 S5 hk5 => h v t k rk σ5 hv5 S5 ((hk1.trans hk2).trans hk5)) (by walk_at "my sub")
 ·refine ca ?_
  refine la ?_
  refine la ?_
  refine lz ?_
  refine CF.mono (path_ok (d := d - 1) T (by walk_at "o") (by walk_at "o") hde E S1 fun v t k σ2 hb2 S2 hk2 => ?_) (by walk_at "o") fun _ _ q => q
  exact WB.weak (sel_rest T hD hd hde E hb2 S2 fun v t k rk σ5 hv5 S5 hk5 => h v t k rk σ5 hv5 S5 ((hk1.trans hk2).trans hk5)) (by walk_at "my sub")
end
theorem char_get {n : Nat} (h : n < 10) : ∃ l, [V.str [97], V.str [34], V.str [92], V.str [10], V.str [9], V.str [0], V.str [200], V.str [55], V.str [37, 100], V.str [32, 47, 47, 32]][((n : Nat) : Int).toNat]? = some (.str l) ∧ (∀ x ∈ l, okCh x) ∧ l.length ≤ 4 := strs_get (ls := [[97], [34], [92], [10], [9], [0], [200], [55], [37, 100], [32, 47, 47, 32]]) (P := fun l => (∀ x ∈ l, okCh x) ∧ l.length ≤ 4) (by unfold okCh; decide) h
theorem un_get {n : Nat} (h : n < 10) : ∃ l, [V.str [43], V.str [45], V.str [33], V.str [126], V.str [38], V.str [126, 38], V.str [124], V.str [126, 124], V.str [94], V.str [126, 94]][((n : Nat) : Int).toNat]? = some (.str l) ∧ l ∈ unOps := strs_get (ls := unOps) (fun _ m => m) h
theorem bin_get {n : Nat} (h : n < 24) : ∃ l, (binOps.map V.str)[((n : Nat) : Int).toNat]? = some (.str l) ∧ l ∈ binOps := strs_get (fun _ m => m) h
theorem opd_of {n m : Nat} {v : V} {t : List Nat} {k : List Tk} {r : Nat} (h : GE n v t k r) : ∃ t' k', Opd (GE n) m v t' k' := by
 by_cases hr : m ≤ r
 ·exact ⟨_, _, .bare h hr⟩
 ·exact ⟨_, _, .brak h (by walk_at "o")⟩
theorem joinL_nil (ls : List (List Nat)) : joinL [] ls = ls.flatten := by
 have := joinL_flat (fun l : List Nat => l) ls
 rw [List.map_id'] at this
 rw [this]; simp [List.flatMap]
theorem okL : ∀ {ls : List (List Nat)}, (∀ l ∈ ls, (∀ x ∈ l, okCh x) ∧ l.length ≤ 4) → (∀ x ∈ ls.flatten, okCh x) ∧ ls.flatten.length ≤ 4 * ls.length ∧ (ls.map (·.length)).sum ≤ 4 * ls.length := by
 intro ls
 induction ls with
 | nil => intro _; exact ⟨fun _ z => (nomatch z), Nat.le_refl _, Nat.le_refl _⟩
 | cons l r ih =>
  intro h
  obtain ⟨h1, h2, h3⟩ := ih fun u hu => h u (.tail _ hu)
  obtain ⟨g1, g2⟩ := h l (.head _)
  refine ⟨fun x hx => ?_, ?_, ?_⟩
  ·rw [List.flatten_cons] at hx
   rcases List.mem_append.mp hx with hx | hx
   ·exact g1 x hx
   ·exact h1 x hx
  ·rw [List.flatten_cons, List.length_append, List.length_cons]; omega
  ·simp only [List.map_cons, List.sum_cons, List.length_cons]; omega
theorem Pls.setR {σ : Store} {p r F : Addr} (h : Pls p r F σ) (x : Int) : Pls p r F (σ.set r (.list [.int x])) := by
 obtain ⟨i, m, fs, h1, h2, h3⟩ := h.pl
 obtain ⟨y, hy⟩ := h.rm
 have e1 := room_ne h1 hy
 have hF := h.rf
 exact ⟨⟨i, m, fs, st_skip e1.symm h1, st_skip hF h2, h3⟩, ⟨x, Store.set_self _ _ _⟩, h.rf⟩
section
variable {c : Cx} {d : Nat} {σ : Store} {Q : V → Store → Prop} {p r G0 : Addr}
theorem expr_rest (T : Txt c) {n D kn : Nat} {de : Int} (hD2 : D + 2 ≤ d) (hd : 8 ≤ d) (hkn : kn < 13) (hE : 4 ≤ kn → de + 1 = 5 - (n : Int) ∧ ExprB c D n) (S : Pls p r G0 σ) (h : ∀ v t k rk σ', Node (GE n) v t k rk → Pls p r G0 σ' → K2 p r σ σ' → Q v σ') : WB c d (fnScope (top 54)) ((fnBody (top 54)).drop 2) [("kind", .int (kn : Nat)), ("depth", .int de), ("room", .lst r), ("pool", .lst p)] σ (RetP Q) := by
 have hD : D ≤ d := by walk_at "o"
 refine WB_if (cl ?_)
 refine WE_int (.ltI ?_)
 refine ite_b (fun hb1 => ?_) (fun hb1 => ?_)
 ·refine WB_ret (ca ?_)
  refine lz ?_
  refine CF.mono (id_ok (d := 2) T (by walk_at "o") S fun l σ1 hn1 S1 hk1 => ?_) (by walk_at "o") fun _ _ q => q
  exact h _ _ _ _ σ1 (.leaf (.id hn1)) S1 hk1
 ·refine WB_nil (WB_if (cl ?_))
  refine WE_int (.eqI ?_)
  refine ite_b (fun hb2 => ?_) (fun hb2 => ?_)
  ·refine WB_ret (ca ?_)
   refine lz ?_
   refine CF.mono (lnumber_ok (d := 2) T (by walk_at "o") S fun v t k σ1 hl S1 hk1 => ?_) (by walk_at "o") fun _ _ q => q
   exact h _ _ _ _ σ1 (.leaf hl) S1 hk1
  ·refine WB_nil (WB_if (cl ?_))
   refine WE_int (.eqI ?_)
   refine ite_b (fun hb3 => ?_) (fun hb3 => ?_)
   ·refine WB_name (WE_lst (WL_str ks_97 (WL_str ks_28 (WL_str ks_50 (WL_str ks_56 (WL_str ks_58 (WL_cons (ca ?_))))))))
    refine WL_int1 (X_chr T (CV_chr (by decide) ?_))
    refine WL_cons (ca ?_)
    refine WL_int1 (X_chr T (CV_chr (by decide) ?_))
    refine WL_str ks_102 (WL_str ks_103 (WL_str1 ks_104 ?_))
    refine ⟨by walk_at "my sz", ?_⟩
    intro A_1 h_1
    refine WB_ret (WE_tup (WL_str ks_37 (WL_int (WL_cons (WE_meth T.OK (WE_strE ks_12 ?_))))))
    refine ⟨_, GM_str F.slot_str_join F.type_str_join, ?_⟩
    refine WL_cons ?_
    refine WE_comp (ρ' := [("chars", .lst A_1), ("pool", .lst p)]) (by decide +kernel) (by intro x hx; simp only [List.mem_cons, List.not_mem_nil, or_false] at hx; rcases hx with rfl | rfl <;> rfl) (by simp only [List.all_cons, List.all_nil, Bool.and_true]; decide +kernel) ?_ (fun _ _ => rfl)
    refine ca ?_
    refine WL_cons (ca ?_)
    refine la ?_
    refine WL_int1 ?_
    have SA := S.new (o := .list [V.str [97], V.str [34], V.str [92], V.str [10], V.str [9], V.str [0], V.str [200], V.str [55], V.str [37, 100], V.str [32, 47, 47, 32]]) h_1
    refine CF.mono (pick_ok (b := 4) (d := 0) T (by decide) SA fun n1 σ1 hn1 S1 hk1 => ?_) (by walk_at "o") fun _ _ q => q
    refine WL_nil (X_range T ?_)
    refine CV_range1 ?_
    refine ⟨(rng_small n1 (by walk_at "o")).1, ?_⟩
    intro A_2 h_2
    have hch := hk1.kept S h_1
    have hk1 := K2.from h_1 hk1
    have hA12 : A_1 ≠ A_2 := ne_sn hch h_2
    have hneA := S.ne h_1
    have hlen := (rng_small n1 (by walk_at "o")).2
    generalize rangeV 0 1 (Builtin.Range.rangeSize 0 (n1 : Int) 1).toNat = us at hlen ⊢
    refine WC.mono (Q := fun σ2 => ∃ ls : List (List Nat), ls.length = us.length ∧ (∀ l ∈ ls, (∀ x ∈ l, okCh x) ∧ l.length ≤ 4) ∧ Pls p r G0 σ2 ∧ K2 p r σ1 σ2 ∧ σ2 A_2 = some (.list ([] ++ ls.map V.str))) ?_ (fun σ2 e => ?_)
    ·have hne := S1.ne h_2
     have S3 := S1.new (o := .list []) h_2
     have hk : K2 p r σ1 (σ1.set A_2 (.list [])) := (K2.refl p r σ1).new h_2
     have hs : (σ1.set A_2 (.list [])) A_2 = some (.list []) := Store.set_self _ _ _
     have hch2 : (σ1.set A_2 (.list [])) A_1 = _ := st_skip hA12 hch
     have hz : ([] : List V).length + us.length ≤ 100 := by simp only [List.length_nil]; omega
     revert hz
     generalize σ1.set A_2 (.list []) = σ3 at S3 hk hs hch2 ⊢
     generalize ([] : List V) = acc at hs ⊢
     intro hz
     clear hlen h hch hE
     induction us generalizing acc σ3 with
     | nil => exact WC_nil ⟨[], rfl, (fun _ z => nomatch z), S3, hk, by simpa using hs⟩
     | cons u us ihu =>
      simp only [List.length_cons] at hz
      refine WC_cons (by decide +kernel) (by decide +kernel) rfl ?_
      refine WE_sub (lo ?_)
      refine ca ?_
      refine la ?_
      refine WL_int1 (CF.mono (pick_ok (b := 10) (d := 0) T (by decide) S3 fun n4 σ4 hn4 S4 hk4 => ?_) (by walk_at "o") fun _ _ q => q)
      have hch4 := hk4 _ _ hch2 hneA.1 hneA.2.1
      have hs4 := hk4 _ _ hs hne.1 hne.2.1
      obtain ⟨l, hgl, hl1, hl2⟩ := char_get hn4
      refine I_lst hch4 (by walk_at "o") hgl ?_
      refine ⟨acc, hs4, by rw [sizeLine_eq]; omega, ?_⟩
      refine WC.mono (ihu (σ4.set A_2 (.list (acc ++ [.str l]))) (S4.setD hne) ((hk.trans hk4).new h_2) (st_skip hA12 hch4) (acc ++ [.str l]) (Store.set_self _ _ _) (by simp only [List.length_append, List.length_cons, List.length_nil]; omega)) (fun σ5 e => ?_)
      obtain ⟨ls, e1, e2, e3, e4, e5⟩ := e
      exact ⟨l :: ls, by simp only [List.length_cons, e1], (fun w hw => by rcases List.mem_cons.mp hw with rfl | hw; exact ⟨hl1, hl2⟩; exact e2 w hw), e3, e4, by simpa using e5⟩
    ·obtain ⟨ls, e1, e2, e3, e4, e5⟩ := e
     rw [List.nil_append] at e5
     obtain ⟨o1, o2, o3⟩ := okL e2
     refine WL_nil ?_
     refine CV_join e5 (strsOf_map ls) (by simp only [List.length_nil, Nat.mul_zero]; omega) ?_
     refine WL_nil ?_
     refine ⟨by walk_at "my sz", ?_⟩
     refine N_ret (N_ret ?_)
     refine R_ret ?_
     rw [joinL_nil]
     exact h _ _ _ _ σ2 (.leaf (.str o1 (by walk_at "o"))) e3 (hk1.trans e4)
   ·refine WB_nil (WB_if (cl ?_))
    refine WE_int (.eqI ?_)
    refine ite_b (fun hb5 => ?_) (fun hb5 => ?_)
    ·refine WB_name (WE_lst (WL_str ks_75 (WL_str ks_76 (WL_str ks_80 (WL_str ks_81 (WL_str ks_23 (WL_str ks_82 (WL_str ks_22 (WL_str ks_83 (WL_str ks_62 (WL_str1 ks_26 ?_)))))))))))
     refine ⟨by walk_at "my sz", ?_⟩
     intro A_2 h_2
     refine WB_ret (WE_tup (WL_str ks_31 (WL_int (WL_cons (WE_sub (lo ?_))))))
     refine ca ?_
     refine la ?_
     refine WL_int1 ?_
     have SA := S.new (o := .list [V.str [43], V.str [45], V.str [33], V.str [126], V.str [38], V.str [126, 38], V.str [124], V.str [126, 124], V.str [94], V.str [126, 94]]) h_2
     refine CF.mono (pick_ok (b := 10) (d := 0) T (by decide) SA fun n1 σ1 hn1 S1 hk1 => ?_) (by walk_at "o") fun _ _ q => q
     have hus := hk1.kept S h_2
     have hk1 := K2.from h_2 hk1
     obtain ⟨op, hgo, hop⟩ := un_get hn1
     refine I_lst hus (by walk_at "o") hgo ?_
     refine WL_cons (ca ?_)
     refine la ?_
     refine la ?_
     refine WL_cons (bl ?_)
     refine WE_int (.add ?_)
     refine WL_nil ?_
     refine E_call (hE (by simp only [decide_eq_true_eq, decide_eq_false_iff_not] at *; omega)).2 hD (hE (by simp only [decide_eq_true_eq, decide_eq_false_iff_not] at *; omega)).1 S1 fun v2 t2 k2 rk2 σ2 hv2 S2 hk2 => ?_
     refine WL_nil ?_
     refine ⟨by walk_at "my sz", ?_⟩
     refine N_ret (N_ret ?_)
     refine R_ret ?_
     obtain ⟨t3, k3, ho⟩ := opd_of (m := 13) hv2
     exact h _ _ _ _ σ2 (.un hop ho) S2 (hk1.trans hk2)
    ·refine WB_nil (WB_if (cl ?_))
     refine WE_int (.ltI ?_)
     refine ite_b (fun hb7 => ?_) (fun hb7 => ?_)
     ·refine WB_name (WE_meth T.OK (WE_strE ks_125 ?_))
      refine ⟨_, GM_str F.slot_str_split F.type_str_split, ?_⟩
      refine WL_str1 ks_13 ?_
      refine CV_split (by decide) (by decide) (by rw [sizeLine_eq]; decide) fun A_3 h_3 => ?_
      rw [show (splitL 32 [124, 124, 32, 38, 38, 32, 124, 32, 94, 32, 126, 94, 32, 38, 32, 61, 61, 32, 33, 61, 32, 61, 61, 61, 32, 33, 61, 61, 32, 60, 32, 60, 61, 32, 62, 32, 62, 61, 32, 60, 60, 32, 62, 62, 32, 60, 60, 60, 32, 62, 62, 62, 32, 43, 32, 45, 32, 42, 32, 47, 32, 37, 32, 42, 42]).map V.str = binOps.map V.str from congrArg (List.map V.str) (by decide +kernel)]
      refine WB_name (WE_sub (lo ?_))
      refine ca ?_
      refine la ?_
      refine WL_cons (ca ?_)
      refine lz ?_
      refine X_len T ?_
      refine CV_len_lst (by walk_at "my st") (by rw [sizeLine_eq]; decide) ?_
      refine WL_nil ?_
      have SA := S.new (o := .list (binOps.map V.str)) h_3
      rw [show (binOps.map V.str).length = 24 from rfl]
      refine CF.mono (pick_ok (b := 24) (d := 0) T (by decide) SA fun n1 σ1 hn1 S1 hk1 => ?_) (by walk_at "o") fun _ _ q => q
      have hus := hk1.kept S h_3
      have hk1 := K2.from h_3 hk1
      obtain ⟨op, hgo, hop⟩ := bin_get hn1
      refine I_lst hus (by walk_at "o") hgo ?_
      refine WB_ret (WE_tup (WL_str ks_30 (WL_int (la ?_))))
      refine WL_cons (ca ?_)
      refine la ?_
      refine la ?_
      refine WL_cons (bl ?_)
      refine WE_int (.add ?_)
      refine WL_nil ?_
      refine E_call (hE (by simp only [decide_eq_true_eq, decide_eq_false_iff_not] at *; omega)).2 hD (hE (by simp only [decide_eq_true_eq, decide_eq_false_iff_not] at *; omega)).1 S1 fun v2 t2 k2 rk2 σ2 hv2 S2 hk2 => ?_
      refine WL_cons (ca ?_)
      refine la ?_
      refine la ?_
      refine WL_cons (bl ?_)
      refine WE_int (.add ?_)
      refine WL_nil ?_
      refine E_call (hE (by simp only [decide_eq_true_eq, decide_eq_false_iff_not] at *; omega)).2 hD (hE (by simp only [decide_eq_true_eq, decide_eq_false_iff_not] at *; omega)).1 S2 fun v3 t3 k3 rk3 σ3 hv3 S3 hk3 => ?_
      refine WL_nil ?_
      refine ⟨by walk_at "my sz", ?_⟩
      refine N_ret (N_ret ?_)
      refine R_ret ?_
      obtain ⟨t4, k4, ho1⟩ := opd_of (m := prec op) hv2
      obtain ⟨t5, k5, ho2⟩ := opd_of (m := prec op + 1) hv3
      exact h _ _ _ _ σ3 (.bin hop ho1 ho2) S3 ((hk1.trans hk2).trans hk3)
     ·refine WB_nil (WB_if (cl ?_))
      refine WE_int (.eqI ?_)
      refine ite_b (fun hb8 => ?_) (fun hb8 => ?_)
      ·refine WB_ret (WE_bin (WE_tup (WL_str ks_29 (WL_int1 ?_))))
       refine ⟨by walk_at "my sz", ?_⟩
       refine ca ?_
       refine la ?_
       refine la ?_
       refine la ?_
       refine WL_int1 ?_
       refine CF.mono (some_ok (cnt := 3) (d := d - 1) T (by walk_at "o") (by walk_at "o") (hE (by simp only [decide_eq_true_eq, decide_eq_false_iff_not] at *; omega)).1 (hE (by simp only [decide_eq_true_eq, decide_eq_false_iff_not] at *; omega)).2 (by walk_at "o") S fun vs1 σ1 hl1 hv1 S1 hk1 => ?_) (by walk_at "o") fun _ _ q => q
       refine P_addT ⟨by simp, (by intro z; rw [z] at hl1; cases hl1), by rw [sizeLine_eq, hl1]; decide⟩ ?_
       refine N_ret (N_ret ?_)
       refine R_ret ?_
       obtain ⟨a, b, e, rfl⟩ : ∃ a b e, vs1 = [a, b, e] := by match vs1, hl1 with | [a, b, e], _ => exact ⟨_, _, _, rfl⟩
       obtain ⟨ta, ka, ra, ha⟩ := hv1 a (.head _)
       obtain ⟨tb, kb, rb, hb⟩ := hv1 b (.tail _ (.head _))
       obtain ⟨te, ke, re, he⟩ := hv1 e (.tail _ (.tail _ (.head _)))
       obtain ⟨t4, k4, ho1⟩ := opd_of (m := 1) ha
       obtain ⟨t5, k5, ho2⟩ := opd_of (m := 1) hb
       exact h _ _ _ _ σ1 (.cond ho1 ho2 he) S1 hk1
      ·refine WB_nil (WB_if (cl ?_))
       refine WE_int (.eqI ?_)
       refine ite_b (fun hb9 => ?_) (fun hb9 => ?_)
       ·refine WB_ret (WE_tup (WL_str ks_40 (WL_int (WL_cons (ca ?_)))))
        refine la ?_
        refine la ?_
        refine la ?_
        refine WL_cons (WE_bin (WE_int (ca ?_)))
        refine la ?_
        refine WL_int1 (CF.mono (pick_ok (b := 3) (d := 0) T (by decide) S fun n1 σ1 hn1 S1 hk1 => ?_) (by walk_at "o") fun _ _ q => q)
        refine .add ?_
        refine WL_nil ?_
        rw [show (1 : Int) + (n1 : Int) = ((1 + n1 : Nat) : Int) by rw [Int.natCast_add]; rfl]
        refine CF.mono (some_ok (cnt := 1 + n1) (d := d - 1) T (by walk_at "o") (by walk_at "o") (hE (by simp only [decide_eq_true_eq, decide_eq_false_iff_not] at *; omega)).1 (hE (by simp only [decide_eq_true_eq, decide_eq_false_iff_not] at *; omega)).2 (by walk_at "o") S1 fun vs2 σ2 hl2 hv2 S2 hk2 => ?_) (by walk_at "o") fun _ _ q => q
        refine WL_nil ?_
        refine ⟨by walk_at "my sz", ?_⟩
        refine N_ret (N_ret ?_)
        refine R_ret ?_
        obtain ⟨ts, ks, hL⟩ := allG_lst hv2 (by intro z; rw [z] at hl2; simp only [List.length_nil] at hl2; omega)
        exact h _ _ _ _ σ2 (.cat hL (by walk_at "o")) S2 (hk1.trans hk2)
       ·refine WB_nil (WB_if (cl ?_))
        refine WE_int (.eqI ?_)
        refine ite_b (fun hb10 => ?_) (fun hb10 => ?_)
        ·refine WB_name (ca ?_)
         refine la ?_
         refine la ?_
         refine WL_cons (bl ?_)
         refine WE_int (.add ?_)
         refine WL_nil ?_
         refine E_call (hE (by simp only [decide_eq_true_eq, decide_eq_false_iff_not] at *; omega)).2 hD (hE (by simp only [decide_eq_true_eq, decide_eq_false_iff_not] at *; omega)).1 S fun v3 t3 k3 rk3 σ3 hv3 S3 hk3 => ?_
         refine WB_ret (WE_tup (WL_str ks_41 (WL_int (la ?_))))
         refine WL_cons (ca ?_)
         refine la ?_
         refine la ?_
         refine la ?_
         refine WL_cons (WE_bin (WE_int (ca ?_)))
         refine la ?_
         refine WL_int1 (CF.mono (pick_ok (b := 2) (d := 0) T (by decide) S3 fun n1 σ1 hn1 S1 hk1 => ?_) (by walk_at "o") fun _ _ q => q)
         refine .add ?_
         refine WL_nil ?_
         rw [show (1 : Int) + (n1 : Int) = ((1 + n1 : Nat) : Int) by rw [Int.natCast_add]; rfl]
         refine CF.mono (some_ok (cnt := 1 + n1) (d := d - 1) T (by walk_at "o") (by walk_at "o") (hE (by simp only [decide_eq_true_eq, decide_eq_false_iff_not] at *; omega)).1 (hE (by simp only [decide_eq_true_eq, decide_eq_false_iff_not] at *; omega)).2 (by walk_at "o") S1 fun vs2 σ2 hl2 hv2 S2 hk2 => ?_) (by walk_at "o") fun _ _ q => q
         refine WL_nil ?_
         refine ⟨by walk_at "my sz", ?_⟩
         refine N_ret (N_ret ?_)
         refine R_ret ?_
         obtain ⟨ts, ks, hL⟩ := allG_lst hv2 (by intro z; rw [z] at hl2; simp only [List.length_nil] at hl2; omega)
         obtain ⟨t4, k4, ho1⟩ := opd_of (m := 13) hv3
         exact h _ _ _ _ σ2 (.rep ho1 hL (by walk_at "o")) S2 ((hk3.trans hk1).trans hk2)
        ·refine WB_nil (WB_if (cl ?_))
         refine WE_int (.eqI ?_)
         refine ite_b (fun hb11 => ?_) (fun hb11 => ?_)
         ·refine WB_ret (WE_tup (WL_str ks_42 (WL_int (WL_cons (ca ?_)))))
          refine lz ?_
          refine CF.mono (name_ok (d := 1) T (by walk_at "o") S fun l σ3 hn3 S3 hk3 => ?_) (by walk_at "o") fun _ _ q => q
          refine WL_cons (ca ?_)
          refine la ?_
          refine la ?_
          refine la ?_
          refine WL_cons (ca ?_)
          refine la ?_
          refine WL_int1 (CF.mono (pick_ok (b := 3) (d := 0) T (by decide) S3 fun n1 σ1 hn1 S1 hk1 => ?_) (by walk_at "o") fun _ _ q => q)
          refine WL_nil ?_
          refine CF.mono (some_ok (cnt := n1) (d := d - 1) T (by walk_at "o") (by walk_at "o") (hE (by simp only [decide_eq_true_eq, decide_eq_false_iff_not] at *; omega)).1 (hE (by simp only [decide_eq_true_eq, decide_eq_false_iff_not] at *; omega)).2 (by walk_at "o") S1 fun vs2 σ2 hl2 hv2 S2 hk2 => ?_) (by walk_at "o") fun _ _ q => q
          refine WL_nil ?_
          refine ⟨by walk_at "my sz", ?_⟩
          refine N_ret (N_ret ?_)
          refine R_ret ?_
          cases vs2 with
          | nil => exact h _ _ _ _ σ2 (.call0 hn3) S2 ((hk3.trans hk1).trans hk2)
          | cons a b =>
           obtain ⟨ts, ks, hL⟩ := allG_lst hv2 (by simp)
           exact h _ _ _ _ σ2 (.call hn3 hL (by walk_at "o")) S2 ((hk3.trans hk1).trans hk2)
         ·refine WB_nil (WB_if (cl ?_))
          refine WE_int (.eqI ?_)
          refine ite_b (fun hb12 => ?_) (fun hb12 => ?_)
          ·refine WB_ret (WE_tup (WL_str ks_43 (WL_int (WL_str ks_105 (WL_cons (ca ?_))))))
           refine la ?_
           refine la ?_
           refine la ?_
           refine WL_cons (ca ?_)
           refine la ?_
           refine WL_int1 (CF.mono (pick_ok (b := 3) (d := 0) T (by decide) S fun n1 σ1 hn1 S1 hk1 => ?_) (by walk_at "o") fun _ _ q => q)
           refine WL_nil ?_
           refine CF.mono (some_ok (cnt := n1) (d := d - 1) T (by walk_at "o") (by walk_at "o") (hE (by simp only [decide_eq_true_eq, decide_eq_false_iff_not] at *; omega)).1 (hE (by simp only [decide_eq_true_eq, decide_eq_false_iff_not] at *; omega)).2 (by walk_at "o") S1 fun vs2 σ2 hl2 hv2 S2 hk2 => ?_) (by walk_at "o") fun _ _ q => q
           refine WL_nil ?_
           refine ⟨by walk_at "my sz", ?_⟩
           refine N_ret (N_ret ?_)
           refine R_ret ?_
           cases vs2 with
           | nil => exact h _ _ _ _ σ2 .sys0 S2 (hk1.trans hk2)
           | cons a b =>
            obtain ⟨ts, ks, hL⟩ := allG_lst hv2 (by simp)
            exact h _ _ _ _ σ2 (.sys hL (by walk_at "o")) S2 (hk1.trans hk2)
          ·refine WB_nil (WB_ret (ca ?_))
           refine la ?_
           refine la ?_
           refine lz ?_
           refine CF.mono (select_ok (d := d - 1) T (by walk_at "o") (by walk_at "o") (hE (by simp only [decide_eq_true_eq, decide_eq_false_iff_not] at *; omega)).1 (hE (by simp only [decide_eq_true_eq, decide_eq_false_iff_not] at *; omega)).2 S h) (by walk_at "o") fun _ _ q => ?_
           exact q
end
section
variable {c : Cx} {d : Nat} {σ : Store} {Q : V → Store → Prop} {p r G0 : Addr}
theorem expr_step (T : Txt c) {n D : Nat} {de : Int} (hD : D + 2 ≤ d) (hd : 8 ≤ d) (hE : de < 4 → de + 1 = 5 - (n : Int) ∧ ExprB c D n) (S : Pls p r G0 σ) (h : ∀ v t k rk σ', Node (GE n) v t k rk → Pls p r G0 σ' → K2 p r σ σ' → Q v σ') : CF c (d + 1) "_law_expr" [.lst p, .lst r, .int de] σ Q := by
 obtain ⟨x, hx⟩ := S.rm
 refine CF_fn T.OK T.f_law_expr ["pool", "room", "depth"] _ (show WB _ _ _ _ [("pool", _), ("room", _), ("depth", _)] _ _ from ?_)
 refine WB_cons (WS_augI ?_ (fun _ _ => rfl) (fun _ _ _ => rfl))
 refine lo ?_
 refine WE_int ?_
 refine ⟨_, _, _, _, rfl, rfl, by decide, by walk_at "my st", rfl, ?_⟩
 refine WE_int ?_
 refine ⟨_, by walk_at "my st", by simp, ?_⟩
 refine A_sub ?_
 have S1 := S.setR (x - 1)
 have hk1 : K2 p r σ (σ.set r (.list [.int (x - 1)])) := (K2.refl p r σ).dx
 refine WB_name (ca ?_)
 refine la ?_
 refine WL_cons (WE_if ?_)
 refine WT_and (cl ?_)
 refine WE_int (.ltI ?_)
 refine ite_b (fun hb1 => ?_) (fun hb1 => ?_)
 ·refine WT_and1 (WT_cmp T.OK (WE_sub (lo ?_)))
  refine WE_int (I_lst (Store.set_self _ _ _) (by decide) rfl ?_)
  refine WE_int (.gtI ?_)
  refine ite_b (fun hb2 => ?_) (fun hb2 => ?_)
  ·refine WE_int (WL_nil (CF.mono (pick_ok (b := 13) (d := 0) T (by decide) S1 fun nk σ2 hn S2 hk2 => ?_) (by walk_at "o") fun _ _ q => q))
   exact WB.weak (expr_rest (n := n) (D := D) (kn := nk) (de := de) T hD hd (by walk_at "o") (fun _ => hE (of_decide_eq_true hb1)) S2 fun v t k rk σ3 hv S3 hk3 => h v t k rk σ3 hv S3 ((hk1.trans hk2).trans hk3)) (by walk_at "my sub")
  ·refine WE_int (WL_nil (CF.mono (pick_ok (b := 4) (d := 0) T (by decide) S1 fun nk σ2 hn S2 hk2 => ?_) (by walk_at "o") fun _ _ q => q))
   exact WB.weak (expr_rest (n := n) (D := D) (kn := nk) (de := de) T hD hd (by walk_at "o") (fun z => by walk_at "o") S2 fun v t k rk σ3 hv S3 hk3 => h v t k rk σ3 hv S3 ((hk1.trans hk2).trans hk3)) (by walk_at "my sub")
 ·refine ite_f rfl (WE_int (WL_nil (CF.mono (pick_ok (b := 4) (d := 0) T (by decide) S1 fun nk σ2 hn S2 hk2 => ?_) (by walk_at "o") fun _ _ q => q)))
  exact WB.weak (expr_rest (n := n) (D := D) (kn := nk) (de := de) T hD hd (by walk_at "o") (fun z => by walk_at "o") S2 fun v t k rk σ3 hv S3 hk3 => h v t k rk σ3 hv S3 ((hk1.trans hk2).trans hk3)) (by walk_at "my sub")
theorem exprB_ok (T : Txt c) : ∀ n : Nat, n ≤ 4 → ExprB c (12 + 4 * n) (n + 1) := by
 intro n
 induction n with
 | zero =>
  intro _ σ p r F Q S h
  exact CF.mono (expr_step (d := 11) (n := 0) (D := 0) T (by decide) (by decide) (fun z => absurd z (by walk_at "o")) S h) (by decide) fun _ _ q => q
 | succ n ih =>
  intro hn σ p r F Q S h
  exact CF.mono (expr_step (d := 12 + 4 * n + 2) (n := n + 1) (D := 12 + 4 * n) T (by walk_at "o") (by walk_at "o") (fun _ => ⟨by walk_at "o", ih (by walk_at "o")⟩) S h) (by walk_at "o") fun _ _ q => q
theorem build_ok (T : Txt c) (S : Pls p r G0 σ) (h : ∀ v t k rk σ', GE 5 v t k rk → Q v σ') : CF c 30 "_law_expr" [.lst p, .lst r, .int 0] σ Q :=
 CF.mono (exprB_ok T 4 (by decide) S fun v t k rk σ' hv _ _ => h v t k rk σ' hv) (by decide) fun _ _ q => q
noncomputable def NiP (P : Rl) (B : Nat) : Prop := ∀ v t k r, P v t k r → Nice B v
theorem lst_nice {P : Rl} {B : Nat} (I : NiP P B) {vs : List V} {t : List Nat} {k : List Tk} (h : LstR P vs t k) : ∀ v ∈ vs, Nice B v := by
 induction h with
 | one h => intro v hv; rw [List.mem_singleton.mp hv]; exact I _ _ _ _ h
 | cons h hs ih =>
  intro v hv
  rcases List.mem_cons.mp hv with rfl | hv
  ·exact I _ _ _ _ h
  ·exact ih v hv
theorem opd_nice {P : Rl} {B m : Nat} (I : NiP P B) {v : V} {t : List Nat} {k : List Tk} (h : Opd P m v t k) : Nice B v := by
 induction h with
 | bare h => exact I _ _ _ _ h
 | brak h => exact I _ _ _ _ h
theorem name_nice {n : Nat} {l : List Nat} (h : isName l) : Nice n (.str l) := by
 refine .str ?_
 rcases h with rfl | rfl | rfl | rfl | rfl | rfl <;> decide
theorem tup_nice {n : Nat} {vs : List V} (h : ∀ v ∈ vs, Nice n v) (hl : vs.length ≤ 1000) {m : Nat} (hm : n < m) : Nice m (.tup vs) := (Nice.tup h hl).up (by walk_at "o")
theorem kd_nice {n : Nat} {l : List Nat} (h : (l.all fun x => decide (x < 256)) = true) : Nice n (.str l) := .str fun x hx => of_decide_eq_true (List.all_eq_true.mp h x hx)
theorem all_nil {n : Nat} : ∀ v ∈ ([] : List V), Nice n v := fun _ z => nomatch z
theorem all_cons {n : Nat} {v : V} {vs : List V} (h : Nice n v) (hs : ∀ w ∈ vs, Nice n w) : ∀ w ∈ v :: vs, Nice n w := fun w hw => by
 rcases List.mem_cons.mp hw with rfl | hw
 ·exact h
 ·exact hs w hw
theorem part_nice {P : Rl} {B : Nat} (I : NiP P B) {v : V} {t : List Nat} {k : List Tk} (h : PartR P v t k) : Nice (B + 1) v := by
 induction h with
 | bare h => exact tup_nice (n := B) (all_cons (name_nice h) (all_cons .none all_nil)) (by simp) (by walk_at "o")
 | sub h hv => exact tup_nice (n := B) (all_cons (name_nice h) (all_cons (I _ _ _ _ hv) all_nil)) (by simp) (by walk_at "o")
theorem path_nice {P : Rl} {B : Nat} (I : NiP P B) {vs : List V} {t : List Nat} {k : List Tk} (h : PathR P vs t k) : ∀ v ∈ vs, Nice (B + 1) v := by
 induction h with
 | last h => exact all_cons (part_nice I (PartR.bare (P := P) h)) all_nil
 | cons h hs ih => exact all_cons (part_nice I h) ih
theorem base_nice {P : Rl} {B : Nat} (I : NiP P B) {m : Nat} {v : V} {t : List Nat} {k : List Tk} (h : BaseR P m v t k) : Nice (B + 3 + m) v := by
 induction h with
 | id h => exact tup_nice (n := B) (all_cons (kd_nice (by decide)) (all_cons .int (all_cons (name_nice h) all_nil))) (by simp) (by walk_at "o")
 | path h hs hl => exact tup_nice (n := B + 2) (all_cons (kd_nice (by decide)) (all_cons .int (all_cons (tup_nice (n := B + 1) (all_cons (part_nice I h) (path_nice I hs)) (by simp only [List.length_cons]; omega) (by walk_at "o")) all_nil))) (by simp) (by walk_at "o")
 | @index m b t k v t' k' r h hv ih => exact tup_nice (n := B + 3 + m) (all_cons (kd_nice (by decide)) (all_cons .int (all_cons ih (all_cons ((I _ _ _ _ hv).up (by walk_at "o")) all_nil)))) (by simp) (by walk_at "o")
theorem leaf_nice {v : V} {t : List Nat} {k : List Tk} (h : Leaf v t k) : Nice 2 v := by
 have num : ∀ (x y z : Int) (b1 b2 : Bool), Nice 2 (.tup [.str [110, 117, 109], .int 0, .tup [.int x, .int y, .int z], .bool b1, .bool b2]) := fun x y z b1 b2 =>
  tup_nice (n := 1) (all_cons (kd_nice (by decide)) (all_cons .int (all_cons (tup_nice (n := 0) (all_cons .int (all_cons .int (all_cons .int all_nil))) (by simp) (by walk_at "o")) (all_cons .bool (all_cons .bool all_nil))))) (by simp) (by walk_at "o")
 induction h with
 | id h => exact tup_nice (n := 0) (all_cons (kd_nice (by decide)) (all_cons .int (all_cons (name_nice h) all_nil))) (by simp) (by walk_at "o")
 | dec h => exact num _ _ _ _ _
 | n8 h => exact num _ _ _ _ _
 | n40 h => exact num _ _ _ _ _
 | n32 h => exact num _ _ _ _ _
 | str h hl => exact tup_nice (n := 0) (all_cons (kd_nice (by decide)) (all_cons .int (all_cons (.str fun x hx => by rcases h x hx with h | h | h | h | h | h | h | h | h | h | h | h <;> omega) all_nil))) (by simp) (by walk_at "o")
theorem op_nice {n : Nat} {op : List Nat} (h : op ∈ unOps ∨ op ∈ binOps) : Nice n (.str op) := by
 refine kd_nice ?_
 rcases h with h | h
 ·exact (show ∀ l ∈ unOps, (l.all fun x => decide (x < 256)) = true by decide) op h
 ·exact (show ∀ l ∈ binOps, (l.all fun x => decide (x < 256)) = true by decide) op h
theorem node_nice {P : Rl} {B : Nat} (I : NiP P B) : NiP (Node P) (B + 6) := fun v t k r h => by
 have hl : ∀ {vs : List V} {t : List Nat} {k : List Tk} (h : LstR P vs t k) (hz : vs.length ≤ 10), Nice (B + 1) (.tup vs) := fun h hz => tup_nice (n := B) (lst_nice I h) (by walk_at "o") (by walk_at "o")
 have pt : ∀ {m} {b i j : V} {t ti tj : List Nat} {k ki kj : List Tk} {ri rj : Nat} (s : List Nat) (hs : (s.all fun x => decide (x < 256)) = true) (h : BaseR P m b t k) (hm : m ≤ 2) (hi : P i ti ki ri) (hj : P j tj kj rj), Nice (B + 6) (.tup [.str s, .int 0, b, i, j]) := fun s hs h hm hi hj =>
  tup_nice (n := B + 5) (all_cons (kd_nice hs) (all_cons .int (all_cons ((base_nice I h).up (by walk_at "o")) (all_cons ((I _ _ _ _ hi).up (by walk_at "o")) (all_cons ((I _ _ _ _ hj).up (by walk_at "o")) all_nil))))) (by simp) (by walk_at "o")
 have L0 : Nice (B + 1) (.tup []) := tup_nice (n := B) all_nil (by simp) (by walk_at "o")
 induction h with
 | leaf h => exact (leaf_nice h).up (by walk_at "o")
 | base h hm => exact (base_nice I h).up (by walk_at "o")
 | un ho h => exact tup_nice (n := B) (all_cons (kd_nice (by decide)) (all_cons .int (all_cons (op_nice (.inl ho)) (all_cons (opd_nice I h) all_nil)))) (by simp) (by walk_at "o")
 | bin ho hl hr => exact tup_nice (n := B) (all_cons (kd_nice (by decide)) (all_cons .int (all_cons (op_nice (.inr ho)) (all_cons (opd_nice I hl) (all_cons (opd_nice I hr) all_nil))))) (by simp) (by walk_at "o")
 | cond ha hb he => exact tup_nice (n := B) (all_cons (kd_nice (by decide)) (all_cons .int (all_cons (opd_nice I ha) (all_cons (opd_nice I hb) (all_cons (I _ _ _ _ he) all_nil))))) (by simp) (by walk_at "o")
 | cat h hz => exact tup_nice (n := B + 1) (all_cons (kd_nice (by decide)) (all_cons .int (all_cons (hl h (by walk_at "o")) all_nil))) (by simp) (by walk_at "o")
 | rep hn h hz => exact tup_nice (n := B + 1) (all_cons (kd_nice (by decide)) (all_cons .int (all_cons ((opd_nice I hn).up (by walk_at "o")) (all_cons (hl h (by walk_at "o")) all_nil)))) (by simp) (by walk_at "o")
 | call0 hn => exact tup_nice (n := B + 1) (all_cons (kd_nice (by decide)) (all_cons .int (all_cons (name_nice hn) (all_cons L0 all_nil)))) (by simp) (by walk_at "o")
 | call hn h hz => exact tup_nice (n := B + 1) (all_cons (kd_nice (by decide)) (all_cons .int (all_cons (name_nice hn) (all_cons (hl h (by walk_at "o")) all_nil)))) (by simp) (by walk_at "o")
 | sys0 => exact tup_nice (n := B + 1) (all_cons (kd_nice (by decide)) (all_cons .int (all_cons (kd_nice (by decide)) (all_cons L0 all_nil)))) (by simp) (by walk_at "o")
 | sys h hz => exact tup_nice (n := B + 1) (all_cons (kd_nice (by decide)) (all_cons .int (all_cons (kd_nice (by decide)) (all_cons (hl h (by walk_at "o")) all_nil)))) (by simp) (by walk_at "o")
 | part h hm hi hj => exact pt _ (by decide) h hm hi hj
 | up h hm hi hj => exact pt _ (by decide) h hm hi hj
 | down h hm hi hj => exact pt _ (by decide) h hm hi hj
theorem ge_nice : ∀ n, NiP (GE n) (6 * n)
 | 0 => fun _ _ _ _ h => h.elim
 | n + 1 => node_nice (ge_nice n)
end
section
variable {c : Cx} {d : Nat} {σ : Store} {Q : V → Store → Prop}
theorem law_ok (T : Txt c) {a : Addr} {xs : List Int} (hd : 140 ≤ d) (hl : ListAt c σ a (xs.map V.int)) (hz : xs.length ≤ 1000) (h : ∀ σ', Q (.bool true) σ') : CF c (d + 1) "law" [.lst a] σ Q := by
 refine CF_fn T.OK T.f_law ["script"] _ (show WB _ _ _ _ [("script", _)] _ _ from ?_)
 refine WB_name (ca ?_)
 refine lz ?_
 refine CF.mono (pool_ok (d := 0) T hl hz fun p F σ1 hp => ?_) (by walk_at "o") fun _ _ q => q
 refine WB_name (ca ?_)
 refine la ?_
 refine WL_cons (WE_lst (WL_int1 ?_))
 refine ⟨by walk_at "my sz", ?_⟩
 intro A_1 h_1
 refine WL_int1 ?_
 have S1 : Pls p A_1 F (σ1.set A_1 (.list [.int 16])) := ⟨hp.new h_1, ⟨16, Store.set_self _ _ _⟩, (by obtain ⟨i, m, fs, _, h2, _⟩ := hp; exact ne_sn h2 h_1)⟩
 refine CF.mono (build_ok T S1 fun v t k rk σ2 hv => ?_) (by walk_at "o") fun _ _ q => q
 have hlen := (ge_kn 5).len hv
 have hB : Lb 5 = 1404300 := by decide
 have hni : Nice 30 v := ge_nice 5 _ _ _ _ hv
 refine WB_name (ca ?_)
 refine WL_cons (ca ?_)
 refine WL_cons (ca ?_)
 refine lz ?_
 refine CF.mono (expr_text_ok T hv ?_) (by walk_at "o") fun _ _ q => q
 refine WL_nil (CF.mono (Lexer_ok (d := 0) T (by walk_at "o") fun dx kd σ3 _ _ L _ => ?_) (by walk_at "o") fun _ _ q => q)
 refine WL_nil ?_
 obtain ⟨k0, ks, ek⟩ : ∃ k0 ks, k ++ [Tk.eof] = k0 :: ks := by cases k <;> exact ⟨_, _, rfl⟩
 have hx := ge_tokens hv
 rw [ek] at hx
 refine CF.mono (Parser_ok (d := 0) (j := 0) T L hx fun px ah σ4 _ S4 _ => ?_) (by walk_at "o") fun _ _ q => q
 obtain ⟨tx4, a4_, a24_, hpx4, htx4⟩ := S4.here
 unfold parNs at hpx4
 rw [← ek] at S4
 refine WB_ret (WE_bo (WE_eqT ?_ rfl))
 refine ca ?_
 refine WL_cons (me ?_)
 refine WL_nil (MC.mono (parse_ok T hv S4 fun v7 σ7 hv7 _ S7 => ?_) (by walk_at "o") fun _ _ q => q)
 have hn7 : Nice 30 v7 := nice_bare _ _ (by rw [hv7]; exact hni)
 obtain ⟨tx7, a7_, a27_, hpx7, htx7⟩ := S7.here
 unfold parNs at hpx7
 unfold tokNs at htx7
 simp only [Tk.kind, Tk.val] at htx7
 refine WL_nil (CF.mono (bare_ok T hn7 ?_) (by walk_at "o") fun _ _ q => q)
 refine lo ?_
 refine ⟨hv7, (by rw [hv7]; exact (hni.up (show 30 ≤ 64 by decide)).flat), ?_⟩
 walk_at "my tr"
 refine bo_and_n (rfl) (WE_bo1 (WE_cmp T.OK (WE_attr T.OK (fun _ _ => rfl) (att ?_))))
 refine ea ?_
 refine WE_strE ks_106 (.eqS ?_)
 exact h _
end
set_option tactic.hygienic true
noncomputable def Cc : Cls → Addr
  | .token => 71
  | .lexer => 261
  | .parser => 614
structure Sit (c : Cx) : Prop where
  eK : c.K = KK c.w.params
  eC : c.C = Cc
  Y : SaysK c.w c.g
  lim : c.g.NoLimit
  g : c.g.Ns mainGlobals c.mg
  b : c.g.Ns builtinsNs c.mb
  bi : ∀ x : Str, x ≠ "__name__" → c.mb x = bootBuiltins x
theorem fl_def : ∃ e : FE, e ∈ FL := ⟨_, .head _⟩
noncomputable def fl (k : Nat) : FE := (FL[k]?).getD (fe0 0 (top 0) .none "")
theorem flm {k : Nat} (h : k < FL.length) : fl k ∈ FL := by
  unfold fl
  rw [List.getElem?_eq_getElem h]
  exact List.getElem_mem h
theorem chk1 (P : Params) : FL.map (fun e => ((KK P).lookup e.a, keepIn (KK P) (.ref e.a))) = FL.map fun e => (some e.obj, true) := by kernel_rfl
noncomputable abbrev fp (x : Str) (n : Nat) : Str × Nat := (x, n)
noncomputable abbrev mp (k : Cls) (x : Str) (n : Nat) : Cls × Str × Nat := (k, x, n)
noncomputable def TFl : List (Str × Nat) := [fp "keywords" 0, fp "is_letter" 1, fp "is_digit" 2, fp "is_word_char" 3, fp "is_layout" 4, fp "fits_base" 5, fp "mask" 29, fp "vec" 30, fp "code" 31, fp "bits_text" 32, fp "digit_bits" 33, fp "decimal_value" 34, fp "size_value" 35, fp "digit_pair" 36, fp "grouped" 37, fp "padded_vec" 38, fp "numeral" 39, fp "numeral_text" 40, fp "precedence" 41, fp "is_unary" 42, fp "plain_operator" 43, fp "is_simple_name" 58, fp "id_text" 59, fp "string_literal" 60, fp "rank" 61, fp "operand_text" 62, fp "list_text" 63, fp "path_text" 64, fp "select_text" 65, fp "expr_text" 66, fp "_law_pool" 67, fp "_law_pick" 68, fp "_law_name" 69, fp "_law_id" 70, fp "_law_number" 71, fp "_law_path" 72, fp "_law_select" 73, fp "_law_some" 74, fp "_law_expr" 75, fp "_law_bare" 76, fp "law" 77]
noncomputable def MFl : List (Cls × Str × Nat) := [mp .lexer "char" 6, mp .lexer "pair" 7, mp .lexer "past_layout" 8, mp .lexer "next_token" 9, mp .lexer "skip" 10, mp .lexer "word" 11, mp .lexer "escaped" 12, mp .lexer "system" 13, mp .lexer "number" 14, mp .lexer "is_real" 15, mp .lexer "based" 16, mp .lexer "string" 17, mp .lexer "escape" 18, mp .lexer "escape_end" 19, mp .lexer "operator" 20, mp .parser "take" 21, mp .parser "is_op" 22, mp .parser "accept_op" 23, mp .parser "expect_op" 24, mp .parser "expect_id" 25, mp .parser "expression" 44, mp .parser "binary" 45, mp .parser "unary" 46, mp .parser "primary" 47, mp .parser "named_primary" 48, mp .parser "braces" 49, mp .parser "expression_list" 50, mp .parser "arguments" 51, mp .parser "mintypmax" 52, mp .parser "reference" 53, mp .parser "path_term" 54, mp .parser "selects" 55, mp .parser "bracket" 56, mp .parser "with_select" 57]
noncomputable def IFl : List (Cls × Nat) := [(.token, 26), (.lexer, 27), (.parser, 28)]
theorem chkF (P : Params) : TFl.map (fun p => (nsIn (KK P) mainGlobals p.1, Nat.blt p.2 FL.length)) = TFl.map fun p => (some (some (.ref (fl p.2).a)), true) := by kernel_rfl
theorem chkM (P : Params) : MFl.map (fun p => (methOK (KK P) (Cc p.1) p.2.1 (fl p.2.2).a, Nat.blt p.2.2 FL.length)) = MFl.map fun p => (true, true) := by kernel_rfl
theorem chkI (P : Params) : IFl.map (fun p => (makeOK (KK P) (Cc p.1) (fl p.2).a, Nat.blt p.2 FL.length)) = IFl.map fun p => (true, true) := by kernel_rfl
theorem chkB (P : Params) : biNames.map (fun p => (nsIn (KK P) mainGlobals p.1, bootBuiltins p.1, p.1 == ("__name__" : Str))) = biNames.map fun p => (some none, some p.2, false) := by kernel_rfl
theorem chkA (P : Params) : fields.map (fun p => (fieldOK (KK P) (Cc p.1) p.2, setOK (KK P) (Cc p.1) p.2)) = fields.map fun p => (true, true) := by kernel_rfl
theorem chkC (P : Params) : ([(.token, "Token"), (.lexer, "Lexer"), (.parser, "ExprParser")] : List (Cls × Str)).map (fun p => (nsIn (KK P) mainGlobals p.2, keepIn (KK P) (.ref (Cc p.1)))) = [(some (some (.ref 71)), true), (some (some (.ref 261)), true), (some (some (.ref 614)), true)] := by kernel_rfl
section
variable {c : Cx}
theorem Sit.mg (S : Sit c) {x : Str} {v : Value} (e : nsIn (KK c.w.params) mainGlobals x = some (some v)) : c.mg x = some v := mg_of S.Y.inK S.g e
theorem Sit.fn (S : Sit c) {e : FE} (he : e ∈ FL) {D : Value → Prop} (hD : D e.d) : Fn c e.a (fnArgs e.st) (fnBody e.st) (fnScope e.st) D := by
  obtain ⟨h1, h2⟩ := Prod.mk.inj (List.map_inj_left.mp (chk1 c.w.params) e he)
  exact ⟨⟨e.obj, fnName e.st, e.q, e.d, .none, .none, .str e.m e.t, none, .ref (e.a - 1), .none, S.Y.inK _ _ h1, rfl, S.Y.codes e he, hD⟩, by rw [S.eK]; exact h2⟩
theorem tF (S : Sit c) (p : Str × Nat) (hp : p ∈ TFl) {D : Value → Prop} (hD : D (fl p.2).d) : HasF c p.1 (fl p.2).st D := by
  obtain ⟨h1, h2⟩ := Prod.mk.inj (List.map_inj_left.mp (chkF c.w.params) p hp)
  exact ⟨_, S.mg h1, S.fn (flm (Nat.le_of_ble_eq_true h2)) hD⟩
theorem tM (S : Sit c) (p : Cls × Str × Nat) (hp : p ∈ MFl) (hD : (fl p.2.2).d = .none) : HasM c p.1 p.2.1 (fl p.2.2).st := by
  obtain ⟨h1, h2⟩ := Prod.mk.inj (List.map_inj_left.mp (chkM c.w.params) p hp)
  exact ⟨_, by rw [S.eK, S.eC]; exact h1, S.fn (flm (Nat.le_of_ble_eq_true h2)) hD⟩
theorem tI (S : Sit c) (p : Cls × Nat) (hp : p ∈ IFl) {D : Value → Prop} (hD : D (fl p.2).d) : HasI c p.1 (fl p.2).st D := by
  obtain ⟨h1, h2⟩ := Prod.mk.inj (List.map_inj_left.mp (chkI c.w.params) p hp)
  exact ⟨_, by rw [S.eK, S.eC]; exact h1, S.fn (flm (Nat.le_of_ble_eq_true h2)) hD⟩
theorem h125 (S : Sit c) : DEFLT c (.ref 125) := ⟨125, _, _, _, rfl, S.Y.inK _ _ (show (KK c.w.params).lookup 125 = some { cls := .type "tuple", data := .seq #[.int 0 342] 0 } by kernel_rfl), rfl⟩
theorem h366 (S : Sit c) : DEFLT c (.ref 366) := ⟨366, _, _, _, rfl, S.Y.inK _ _ (show (KK c.w.params).lookup 366 = some { cls := .type "tuple", data := .seq #[.int 0 657] 0 } by kernel_rfl), rfl⟩
theorem sys_ok (S : Sit c) : c.g.get? sysModules ≠ none := fun z => by
  have := S.Y.inK sysModules _ (show (KK c.w.params).lookup sysModules = some (boot_o_1 c.w.params) by kernel_rfl)
  rw [this] at z
  cases z
theorem sit_ok (S : Sit c) : CxOK c := ⟨by rw [S.eK]; exact S.Y.inK, sys_ok S, S.lim, S.g, S.b⟩
theorem txt_ok (S : Sit c) : Txt c where
  OK := sit_ok S
  bi := fun p hp => by
    obtain ⟨h1, h2⟩ := Prod.mk.inj (List.map_inj_left.mp (chkB c.w.params) p hp)
    obtain ⟨h2, h3⟩ := Prod.mk.inj h2
    exact .inr ⟨mg_none_of S.Y.inK S.g h1, (S.bi _ (beq_eq_false_iff_ne.mp h3)).trans h2⟩
  most := ⟨688, S.mg (by kernel_rfl)⟩
  plain := ⟨690, S.mg (by kernel_rfl)⟩
  token := by
    have h := chkC c.w.params
    simp only [List.map_cons, List.cons.injEq, Prod.mk.injEq] at h
    rw [S.eK, S.eC]; exact ⟨S.mg h.1.1, h.1.2⟩
  lexer := by
    have h := chkC c.w.params
    simp only [List.map_cons, List.cons.injEq, Prod.mk.injEq] at h
    rw [S.eK, S.eC]; exact ⟨S.mg h.2.1.1, h.2.1.2⟩
  parser := by
    have h := chkC c.w.params
    simp only [List.map_cons, List.cons.injEq, Prod.mk.injEq] at h
    rw [S.eK, S.eC]; exact ⟨S.mg h.2.2.1.1, h.2.2.1.2⟩
  fld := fun p hp => by
    obtain ⟨h1, h2⟩ := Prod.mk.inj (List.map_inj_left.mp (chkA c.w.params) p hp)
    rw [S.eK, S.eC]; exact ⟨h1, h2⟩
  f_keywords := tF S (fp "keywords" 0) (by decide +kernel) rfl
  f_is_letter := tF S (fp "is_letter" 1) (by decide +kernel) rfl
  f_is_digit := tF S (fp "is_digit" 2) (by decide +kernel) rfl
  f_is_word_char := tF S (fp "is_word_char" 3) (by decide +kernel) rfl
  f_is_layout := tF S (fp "is_layout" 4) (by decide +kernel) rfl
  f_fits_base := tF S (fp "fits_base" 5) (by decide +kernel) rfl
  f_mask := tF S (fp "mask" 29) (by decide +kernel) rfl
  f_vec := tF S (fp "vec" 30) (by decide +kernel) (h366 S)
  f_code := tF S (fp "code" 31) (by decide +kernel) rfl
  f_bits_text := tF S (fp "bits_text" 32) (by decide +kernel) rfl
  f_digit_bits := tF S (fp "digit_bits" 33) (by decide +kernel) rfl
  f_decimal_value := tF S (fp "decimal_value" 34) (by decide +kernel) rfl
  f_size_value := tF S (fp "size_value" 35) (by decide +kernel) rfl
  f_digit_pair := tF S (fp "digit_pair" 36) (by decide +kernel) rfl
  f_grouped := tF S (fp "grouped" 37) (by decide +kernel) rfl
  f_padded_vec := tF S (fp "padded_vec" 38) (by decide +kernel) rfl
  f_numeral := tF S (fp "numeral" 39) (by decide +kernel) rfl
  f_numeral_text := tF S (fp "numeral_text" 40) (by decide +kernel) rfl
  f_precedence := tF S (fp "precedence" 41) (by decide +kernel) rfl
  f_is_unary := tF S (fp "is_unary" 42) (by decide +kernel) rfl
  f_plain_operator := tF S (fp "plain_operator" 43) (by decide +kernel) rfl
  f_is_simple_name := tF S (fp "is_simple_name" 58) (by decide +kernel) rfl
  f_id_text := tF S (fp "id_text" 59) (by decide +kernel) rfl
  f_string_literal := tF S (fp "string_literal" 60) (by decide +kernel) rfl
  f_rank := tF S (fp "rank" 61) (by decide +kernel) rfl
  f_operand_text := tF S (fp "operand_text" 62) (by decide +kernel) rfl
  f_list_text := tF S (fp "list_text" 63) (by decide +kernel) rfl
  f_path_text := tF S (fp "path_text" 64) (by decide +kernel) rfl
  f_select_text := tF S (fp "select_text" 65) (by decide +kernel) rfl
  f_expr_text := tF S (fp "expr_text" 66) (by decide +kernel) rfl
  f_law_pool := tF S (fp "_law_pool" 67) (by decide +kernel) rfl
  f_law_pick := tF S (fp "_law_pick" 68) (by decide +kernel) rfl
  f_law_name := tF S (fp "_law_name" 69) (by decide +kernel) rfl
  f_law_id := tF S (fp "_law_id" 70) (by decide +kernel) rfl
  f_law_number := tF S (fp "_law_number" 71) (by decide +kernel) rfl
  f_law_path := tF S (fp "_law_path" 72) (by decide +kernel) rfl
  f_law_select := tF S (fp "_law_select" 73) (by decide +kernel) rfl
  f_law_some := tF S (fp "_law_some" 74) (by decide +kernel) rfl
  f_law_expr := tF S (fp "_law_expr" 75) (by decide +kernel) rfl
  f_law_bare := tF S (fp "_law_bare" 76) (by decide +kernel) rfl
  f_law := tF S (fp "law" 77) (by decide +kernel) rfl
  m_char := tM S (mp .lexer "char" 6) (by decide +kernel) rfl
  m_pair := tM S (mp .lexer "pair" 7) (by decide +kernel) rfl
  m_past_layout := tM S (mp .lexer "past_layout" 8) (by decide +kernel) rfl
  m_next_token := tM S (mp .lexer "next_token" 9) (by decide +kernel) rfl
  m_skip := tM S (mp .lexer "skip" 10) (by decide +kernel) rfl
  m_word := tM S (mp .lexer "word" 11) (by decide +kernel) rfl
  m_escaped := tM S (mp .lexer "escaped" 12) (by decide +kernel) rfl
  m_system := tM S (mp .lexer "system" 13) (by decide +kernel) rfl
  m_number := tM S (mp .lexer "number" 14) (by decide +kernel) rfl
  m_is_real := tM S (mp .lexer "is_real" 15) (by decide +kernel) rfl
  m_based := tM S (mp .lexer "based" 16) (by decide +kernel) rfl
  m_string := tM S (mp .lexer "string" 17) (by decide +kernel) rfl
  m_escape := tM S (mp .lexer "escape" 18) (by decide +kernel) rfl
  m_escape_end := tM S (mp .lexer "escape_end" 19) (by decide +kernel) rfl
  m_operator := tM S (mp .lexer "operator" 20) (by decide +kernel) rfl
  m_take := tM S (mp .parser "take" 21) (by decide +kernel) rfl
  m_is_op := tM S (mp .parser "is_op" 22) (by decide +kernel) rfl
  m_accept_op := tM S (mp .parser "accept_op" 23) (by decide +kernel) rfl
  m_expect_op := tM S (mp .parser "expect_op" 24) (by decide +kernel) rfl
  m_expect_id := tM S (mp .parser "expect_id" 25) (by decide +kernel) rfl
  m_expression := tM S (mp .parser "expression" 44) (by decide +kernel) rfl
  m_binary := tM S (mp .parser "binary" 45) (by decide +kernel) rfl
  m_unary := tM S (mp .parser "unary" 46) (by decide +kernel) rfl
  m_primary := tM S (mp .parser "primary" 47) (by decide +kernel) rfl
  m_named_primary := tM S (mp .parser "named_primary" 48) (by decide +kernel) rfl
  m_braces := tM S (mp .parser "braces" 49) (by decide +kernel) rfl
  m_expression_list := tM S (mp .parser "expression_list" 50) (by decide +kernel) rfl
  m_arguments := tM S (mp .parser "arguments" 51) (by decide +kernel) rfl
  m_mintypmax := tM S (mp .parser "mintypmax" 52) (by decide +kernel) rfl
  m_reference := tM S (mp .parser "reference" 53) (by decide +kernel) rfl
  m_path_term := tM S (mp .parser "path_term" 54) (by decide +kernel) rfl
  m_selects := tM S (mp .parser "selects" 55) (by decide +kernel) rfl
  m_bracket := tM S (mp .parser "bracket" 56) (by decide +kernel) rfl
  m_with_select := tM S (mp .parser "with_select" 57) (by decide +kernel) rfl
  iToken := tI S (.token, 26) (by decide +kernel) rfl
  iLexer := tI S (.lexer, 27) (by decide +kernel) (h125 S)
  iParser := tI S (.parser, 28) (by decide +kernel) rfl
end
noncomputable def dlaw : DefRec := ⟨"law", fnArgs (top 56), fnBody (top 56), fnScope (top 56), ⟨787, 0, 791, 80⟩⟩
theorem rep_ints {C : Cls → Addr} {P : Params} {h : Heap} : ∀ {xs : List Int} {vs : List Value}, WellAll P h vs (ofPys (xs.map PyData.int)) → RepL C h (xs.map V.int) vs
  | [], vs, x => by cases x; exact rfl
  | i :: r, vs, x => by
    cases x with
    | cons a b => cases a with
      | int _ t => exact RepL_cons ⟨t, rfl⟩ (rep_ints b)
theorem walk1 {w : World} {s₀ s₁ : Shared} {mg mb : Str → Option Value} (G : Ground qq loose0 RR.records (fun _ _ => True) w s₀ mg mb s₁.heap) (Y : SaysK w s₁.heap) {a la : Addr} {xs : List Int} (hmg : mg "law" = some (.ref a)) (hg : s₁.gens = #[])
    (hw : Well w.params s₁.heap (.ref la) (ofPy (.list (xs.map PyData.int)))) (hz : xs.length ≤ 63) :
    wpAny (model RR.prog w) callerA (call (.ref a) [.ref la]) (fun v s' => GoodWG RR.claim (classAt s₀.heap) (ExcName.means s₀.heap) [ofPy (.list (xs.map PyData.int))] s₁ (.ok (.ret v)) s')
      (fun e s' => GoodWG RR.claim (classAt s₀.heap) (ExcName.means s₀.heap) [ofPy (.list (xs.map PyData.int))] s₁ (.error e) s') s₁ := by
  have S : Sit { prog := PP, w := w, g := s₁.heap, os := s₁.os, K := KK w.params, C := Cc, mg := mg, mb := mb } := ⟨rfl, rfl, Y, G.T.nolimit, G.T.g, G.T.b, G.T.builtins⟩
  have hw' : Well w.params s₁.heap (.ref la) (.list (ofPys (xs.map PyData.int))) := hw
  cases hw' with
  | @list _ vs _ h1 h2 =>
    obtain ⟨f, gv, cv⟩ := law_ok (d := 140) (σ := fun _ => none) (Q := fun v _ => v = .bool true) (txt_ok S) (Nat.le_refl _) (.inr ⟨vs, 0, h1, rep_ints h2⟩) (by omega) fun _ => rfl
    have e : f = .ref a := by
      rcases gv with gv | ⟨gv, _⟩
      · exact Option.some.inj (gv.symm.trans hmg)
      · exact absurd (gv.symm.trans hmg) (by simp)
    subst e
    unfold CV at cv
    refine wpAny_mono (cv callerA s₁ [.ref la] ⟨rfl, by decide, by decide⟩ ⟨fun _ _ e => e, (fun _ _ e => nomatch e), (fun _ _ e => nomatch e), hg, rfl⟩ (RepL_cons Rep_lst rfl)) (fun v s' p => ?_) (fun _ _ z => z.elim)
    obtain ⟨u, σ', ru, st, rfl⟩ := p
    unfold Rep at ru
    subst ru
    exact GoodW.toG ⟨.inl ⟨.bool true, .bool true, [], rfl, raisesW_false (by wrow_none_raised), .bool true, postW_of (by wrow_shape) (by wtm_val) (by w_fin), unshared_nil⟩, fun b o e => st.base.ground b o e, st.base.os, st.base.gens⟩
theorem walk : WalkO qq loose0 (fun _ _ => True) SaysK RR.toRowW dlaw [] (fun f vs => PySem.call f vs) := by
  intro w s₀ s₁ mg mb G Y a o pm cd doc dV kV ho hd hcd hD hmg hg args vals as hpre hlay hrd hwl hlo
  wrow_args hpre hlay hrd hwl hlo
  rename_i xs _ _ _ _ _ _ _ la _ _ _ _ w1 _ _ _ hc _
  exact walk1 G Y hmg hg w1 (by omega)
theorem holds0 (k1 : RR.wellSaid = true) : RR.Holds := by
  refine holds_open (q := qq) (loose := loose0) (Xt := fun _ => true) (XP := fun _ _ => True) (Yf := obsK) (Ya := valK) (YP := SaysK) (N := 5000) (d := dlaw) (kwd := []) left0 SaysK.of SaysK.keeps (fun _ _ => trivial) (fun _ _ _ _ _ => trivial) (by kernel_rfl) (by kernel_rfl) (by kernel_rfl) (fun s _ => recFacts_nil rfl) (by kernel_rfl) k1 (by kernel_rfl) ⟨rfl, rfl, rfl, rfl, rfl, by kernel_rfl⟩ ?_ walk
  w_witness2
end Mine
theorem PySem.Challenge.cw_nn0335_01_holds : PySem.Challenge.rw_nn0335_01.Holds :=
 holds_law Mine.Hd.said Mine.holds0
