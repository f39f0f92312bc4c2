import PyProof.Rows.All
import Wide.All
import OpenK.AllK
import Wide.FinOn
import PySem.Challenge.RW_pq0748_01
open PySem PySem.W PyProof.Rows
set_option Elab.async false
set_option maxRecDepth 100000
set_option maxHeartbeats 8000000
set_option genInjectivity false
set_option genSizeOf false
namespace Mine
-- part L0
noncomputable abbrev pw : Program := PySem.Challenge.pw_pq0748_01
noncomputable abbrev NoE : Value → Shared → Prop := fun _ _ => False
/-! the program's defs, by their place at the top (and in the class) -/
structure Dn where
  name : Str
  params : Arguments
  body : List Stmt
  scope : Scope
noncomputable def dnOf : Option Stmt → Dn
  | some (.FunctionDef n a b _ _ _ sc _ _ _) => ⟨n, a, b, sc⟩
  | _ => ⟨Str.ofString "", ⟨[], [], none, [], [], none, []⟩, [], ⟨.function, [], false, false, []⟩⟩
noncomputable def dn (i : Nat) : Dn := dnOf pw.main.body[i]?
noncomputable def clsBody : Option Stmt → List Stmt
  | some (.ClassDef _ _ _ b _ _ _ _ _ _ _) => b
  | _ => []
noncomputable def mt (i : Nat) : Dn := dnOf (clsBody pw.main.body[5]?)[i]?
/-! heaps that grow: what stays -/
noncomputable def Tuplish (o : Obj) : Prop := o.cls = .type "tuple" ∧ ∃ xs n, o.data = .seq xs n
noncomputable def Ext (B : Heap) (W : List Addr) (h h' : Heap) : Prop :=
  ∀ a o, h.get? a = some o → ∃ o', h'.get? a = some o' ∧ (a ∉ W ∨ Tuplish o ∨ (B.get? a).isSome = true → o' = o)
section
variable {B h h' h'' : Heap} {W W' : List Addr}
theorem Ext.refl (B : Heap) (W : List Addr) (h : Heap) : Ext B W h h := fun _ o e => ⟨o, e, fun _ => rfl⟩
theorem Ext.same (X : Ext B W h h') {a : Addr} (ha : a ∉ W) {o : Obj} (e : h.get? a = some o) : h'.get? a = some o := by
  obtain ⟨o', e', r⟩ := X a o e
  rw [e', r (.inl ha)]
theorem Ext.gone (X : Ext B W h h') {a : Addr} (e : h'.get? a = none) : h.get? a = none := by
  cases q : h.get? a with
  | none => rfl
  | some o => obtain ⟨o', e', _⟩ := X a o q; rw [e] at e'; cases e'
theorem Ext.trans (X : Ext B W h h') (Y : Ext B W' h' h'') (hw : ∀ a ∈ W', a ∈ W ∨ h.get? a = none) : Ext B W h h'' := by
  intro a o e
  obtain ⟨o', e', r⟩ := X a o e
  obtain ⟨o'', e'', r'⟩ := Y a o' e'
  refine ⟨o'', e'', fun c => ?_⟩
  have e1 := r c
  subst e1
  refine r' ?_
  rcases c with c | c | c
  · refine .inl fun m => ?_
    rcases hw a m with q | q
    · exact c q
    · rw [q] at e; cases e
  · exact .inr (.inl c)
  · exact .inr (.inr c)
theorem Ext.step (X : Ext B W h h') (Y : Ext B W h' h'') : Ext B W h h'' := X.trans Y fun _ m => .inl m
theorem Ext.more (X : Ext B W h h') (hw : ∀ a ∈ W, a ∈ W') : Ext B W' h h' := fun a o e =>
  let ⟨o', e', r⟩ := X a o e
  ⟨o', e', fun c => r (c.imp (fun n m => n (hw a m)) id)⟩
theorem Ext.of_keeps (k : ∀ b o, h.get? b = some o → h'.get? b = some o) : Ext B W h h' := fun a o e => ⟨o, k a o e, fun _ => rfl⟩
theorem Ext.push (B : Heap) (W : List Addr) (h : Heap) (o : Obj) : Ext B W h (h.push o) := .of_keeps fun _ _ e => Heap.get?_push_of_some o e
theorem Ext.one {a : Addr} {o o' : Obj} (hs : Heap.SameBut a h h') (e : h.get? a = some o) (e' : h'.get? a = some o') (hb : B.get? a = none) (ht : ¬ Tuplish o) : Ext B [a] h h' := by
  intro b p q
  by_cases hb' : b = a
  · subst hb'
    rw [e] at q; cases q
    refine ⟨o', e', fun c => ?_⟩
    rcases c with c | c | c
    · exact absurd (List.mem_singleton.mpr rfl) c
    · exact absurd c ht
    · rw [hb] at c; cases c
  · exact ⟨p, (hs.2 b hb').trans q, fun _ => rfl⟩
theorem not_tuplish_dict {o : Obj} {es ep} (h : o.data = .dict es ep) : ¬ Tuplish o := fun ⟨_, xs, n, e⟩ => by rw [h] at e; cases e
theorem not_tuplish_list {o : Obj} (h : o.cls = .type "list") : ¬ Tuplish o := fun ⟨e, _⟩ => by
  rw [h] at e; exact absurd e (by decide)
theorem get?_size (h : Heap) : h.get? h.objs.size = none := Heap.get?_none_of_le (Nat.le_refl _)
end
/-! frames -/
section
variable {base B h h' : Heap} {L : Addr} {m m' : Str → Option Value} {W : List Addr}
theorem fr_none {base h : Heap} {L : Addr} {m} (F : Fr base L h m) : base.get? L = none := Heap.get?_none_of_le F.above
theorem fr_ext (F : Fr base L h m) (X : Ext base W h h') (hL : L ∉ W) : Fr base L h' m where
  ns := F.ns.at' fun _ e => X.same hL e
  keep := fun b o e => by
    obtain ⟨o', e', r⟩ := X b o (F.keep b o e)
    rw [e', r (.inr (.inr (by rw [e]; rfl)))]
  above := F.above
theorem Ext.frame (F : Fr base L h m) (F' : Fr base L h' m') (hs : Heap.SameBut L h h') : Ext base [L] h h' := by
  obtain ⟨o, es, ep, ho, hd, _⟩ := F.ns
  obtain ⟨o', es', ep', ho', hd', _⟩ := F'.ns
  exact Ext.one hs ho ho' (fr_none F) (not_tuplish_dict hd)
theorem fr_keeps_base (F : Fr base L h m) : Ext base W base h := .of_keeps F.keep
end
/-! objects of the call -/
noncomputable abbrev SK (w : World) := strKind pw w
/-- a dict of the call's own, by strs -/
noncomputable def Dc (w : World) (B h : Heap) (d : Addr) (kvs : List (Str × Value)) : Prop := B.get? d = none ∧ (d == sysModules) = false ∧ h.DictOf (SK w) d kvs
/-- a list of the call's own -/
noncomputable def Ls (B h : Heap) (l : Addr) (vs : List Value) : Prop := B.get? l = none ∧ h.PlainList l vs.toArray
noncomputable def Tp (h : Heap) (t : Addr) (vs : List Value) : Prop := ∃ n, h.get? t = some { cls := .type "tuple", data := .seq vs.toArray n }
theorem tp_tup {h : Heap} {t : Addr} {vs : List Value} (x : Tp h t vs) : IsTup h t vs.toArray := let ⟨n, e⟩ := x; ⟨_, e, rfl, n, rfl⟩
section
variable {w : World} {B h h' : Heap} {W : List Addr} {d l t : Addr} {kvs : List (Str × Value)} {vs : List Value}
theorem Dc.ext (x : Dc w B h d kvs) (X : Ext B W h h') (hd : d ∉ W) : Dc w B h' d kvs := ⟨x.1, x.2.1, x.2.2.at fun _ e => X.same hd e⟩
theorem Ls.ext (x : Ls B h l vs) (X : Ext B W h h') (hd : l ∉ W) : Ls B h' l vs := ⟨x.1, let ⟨n, e⟩ := x.2; ⟨n, X.same hd e⟩⟩
theorem Tp.ext (x : Tp h t vs) (X : Ext B W h h') : Tp h' t vs := by
  obtain ⟨n, ho⟩ := x
  obtain ⟨o', e', r⟩ := X t _ ho
  rw [r (.inr (.inl ⟨rfl, _, _, rfl⟩))] at e'
  exact ⟨n, e'⟩
theorem Dc.live (x : Dc w B h d kvs) : h.get? d ≠ none := by obtain ⟨_, _, _, _, _, e, _⟩ := x; rw [e]; simp
theorem Ls.live (x : Ls B h l vs) : h.get? l ≠ none := by obtain ⟨_, _, e⟩ := x; rw [e]; simp
theorem Tp.live (x : Tp h t vs) : h.get? t ≠ none := by obtain ⟨_, e⟩ := x; rw [e]; simp
theorem Dc.lt (x : Dc w B h d kvs) : d < h.objs.size := by obtain ⟨_, _, _, _, _, e, _⟩ := x; exact Heap.lt_size e
theorem Ls.lt (x : Ls B h l vs) : l < h.objs.size := by obtain ⟨_, _, e⟩ := x; exact Heap.lt_size e
theorem Tp.lt (x : Tp h t vs) : t < h.objs.size := by obtain ⟨_, e⟩ := x; exact Heap.lt_size e
end
-- part H3
/-! the head: what the top leaves behind, and that it does, in four pieces -/
noncomputable abbrev RR : RowW := OpenRow.toRowW (OpenLaw.row PySem.Challenge.rw_pq0748_01)
noncomputable def vw : Program := { pw with main := { pw.main with body := (pw.main.body.drop 1).eraseIdx 17 } }
noncomputable def cutS : Str := Str.ofString "/claim/cut.py"
noncomputable def fo (q : Str) (D : Dn) (m : Str) (t c : Nat) : Obj :=
  { cls := .type "function", data := .func { name := D.name, qualname := q, params := D.params, body := .stmts D.body, scope := D.scope, globals := 3, closure := [], defaults := .none, kwdefaults := .none, pyModule := .str m t, code := .ref c } }
noncomputable def fc (q : Str) (D : Dn) : Obj :=
  { cls := .none, data := .func { name := D.name, qualname := q, params := D.params, body := .stmts D.body, scope := D.scope, globals := 0, closure := [], defaults := .none, kwdefaults := .none } }
noncomputable def e0 : Obj := { cls := .type "tuple", data := .seq #[] }
noncomputable def n0 : Obj := { cls := .none, data := .fields #[] }
noncomputable def tu (l : List Value) : Obj := { cls := .type "tuple", data := .seq (List.toArray l) }
noncomputable def co (n q : Str) (t : Nat) (l a : Int) (r s : Nat) (x y z : Value) (u : Int) (v : Nat) : Obj :=
  { cls := .type "code", data := .fields #[.str n t, .str q (t + 1), .str cutS (t + 2), .int l 0, .int a 0, .int 0 0, .int 0 0, .int 3 0, .ref r, .bool true, .int 181 0, .ref s, .none, x, y, z, .int u 0, .int l 0, .str cutS v] }
noncomputable def de (P : Params) (k : Str) (t : Nat) (v : Value) : DictEntry := { hash := PyData.keyHash P k, key := .str k t, val := v }
noncomputable def gE (P : Params) : List DictEntry := [de P (Str.ofString "__name__") 165 (Value.str (Str.ofString "law_pq0748_01") 413),
    de P (Str.ofString "__doc__") 166 Value.none,
    de P (Str.ofString "__package__") 167 Value.none,
    de P (Str.ofString "__loader__") 168 (Value.builtin "__main__.__loader__#opaque"),
    de P (Str.ofString "__spec__") 169 Value.none,
    de P (Str.ofString "__annotations__") 170 (Value.ref 6),
    de P (Str.ofString "__builtins__") 171 (Value.ref 4),
    de P (Str.ofString "__file__") 173 (Value.str (cutS) 172),
    de P (Str.ofString "__cached__") 174 Value.none,
    de P (Str.ofString "END") 190 (Value.str (Str.ofString "eof") 189),
    de P (Str.ofString "token_of") 198 (Value.ref 21),
    de P (Str.ofString "is_token") 206 (Value.ref 28),
    de P (Str.ofString "merge") 216 (Value.ref 35),
    de P (Str.ofString "Grammar") 279 (Value.ref 73),
    de P (Str.ofString "may_be_empty") 290 (Value.ref 84),
    de P (Str.ofString "empty_rules") 301 (Value.ref 91),
    de P (Str.ofString "first_of") 314 (Value.ref 98),
    de P (Str.ofString "first_rows") 326 (Value.ref 105),
    de P (Str.ofString "follow_rows") 336 (Value.ref 112),
    de P (Str.ofString "add_follows") 350 (Value.ref 119),
    de P (Str.ofString "parts") 362 (Value.ref 126),
    de P (Str.ofString "shared") 368 (Value.ref 131),
    de P (Str.ofString "conflicts") 377 (Value.ref 138),
    de P (Str.ofString "find_conflicts") 394 (Value.ref 145),
    de P (Str.ofString "add_alternatives") 400 (Value.ref 150),
    de P (Str.ofString "is_left_recursive") 412 (Value.ref 157),
    de P (Str.ofString "_law_fetch") 422 (Value.ref 164),
    de P (Str.ofString "_law_piece") 432 (Value.ref 171),
    de P (Str.ofString "_law_rules") 438 (Value.ref 176),
    de P (Str.ofString "_law_hollow") 446 (Value.ref 183),
    de P (Str.ofString "_law_hollows") 452 (Value.ref 188),
    de P (Str.ofString "_law_lefts") 466 (Value.ref 195),
    de P (Str.ofString "law") 486 (Value.ref 202)]
noncomputable def ob43 (_ : Params) : Obj := e0
noncomputable def ob44 (_ : Params) : Obj := n0
noncomputable def ob45 (_ : Params) : Obj := { cls := Value.type "code", data := Data.fields (List.toArray ([Value.str (Str.ofString "<module>") 182, Value.str (Str.ofString "<module>") 183, Value.str (cutS) 184, Value.int 1 0, Value.int 0 0, Value.int 0 0, Value.int 0 0, Value.int 0 0, Value.ref 11, Value.bool false, Value.int 181 0, Value.ref 12, Value.none, Value.none, Value.none, Value.none, Value.int 185 0, Value.int 1 0, Value.str (cutS) 186])) }
noncomputable def ob46 (_ : Params) : Obj := { cls := Value.type "frame", slots := List.toArray ([some (Value.ref 13), some (Value.ref 3), some (Value.ref 3), none, some (Value.str (Str.ofString "__main__") 164), none, some (Value.ref 0)]) }
noncomputable def ob49 (P : Params) : Obj := { cls := .type "dict", data := .dict (List.toArray (de P (Str.ofString "__name__") 165 (Value.str (Str.ofString "moduleyard.firsts") 187) :: ((gE P).drop 1).take 12)) 13 }
noncomputable def ob50 (_ : Params) : Obj := { cls := Value.none, data := Data.fields (List.toArray ([Value.int 3 0, Value.int 0 0, Value.ref 20, Value.int 9 0, Value.int 0 0, Value.ref 27, Value.int 11 0, Value.int 0 0, Value.ref 34])) }
noncomputable def ob51 (_ : Params) : Obj := e0
noncomputable def ob52 (_ : Params) : Obj := n0
noncomputable def ob53 (_ : Params) : Obj := tu [Value.str (Str.ofString "e") 194, Value.str (Str.ofString "table") 195]
noncomputable def ob54 (_ : Params) : Obj := e0
noncomputable def ob55 (_ : Params) : Obj := fc (Str.ofString "token_of") (dn 2)
noncomputable def ob56 (_ : Params) : Obj := co (Str.ofString "token_of") (Str.ofString "token_of") 191 3 2 15 16 (Value.ref 17) (Value.ref 18) (Value.ref 19) 196 197
noncomputable def ob57 (_ : Params) : Obj := fo (Str.ofString "token_of") (dn 2) (Str.ofString "moduleyard.firsts") 187 20
noncomputable def ob58 (_ : Params) : Obj := e0
noncomputable def ob59 (_ : Params) : Obj := n0
noncomputable def ob60 (_ : Params) : Obj := tu [Value.str (Str.ofString "e") 202, Value.str (Str.ofString "table") 203]
noncomputable def ob61 (_ : Params) : Obj := e0
noncomputable def ob62 (_ : Params) : Obj := fc (Str.ofString "is_token") (dn 3)
noncomputable def ob63 (_ : Params) : Obj := co (Str.ofString "is_token") (Str.ofString "is_token") 199 9 2 22 23 (Value.ref 24) (Value.ref 25) (Value.ref 26) 204 205
noncomputable def ob64 (_ : Params) : Obj := fo (Str.ofString "is_token") (dn 3) (Str.ofString "moduleyard.firsts") 187 27
noncomputable def ob65 (_ : Params) : Obj := e0
noncomputable def ob66 (_ : Params) : Obj := n0
noncomputable def ob67 (_ : Params) : Obj := tu [Value.str (Str.ofString "target") 210, Value.str (Str.ofString "source") 211, Value.str (Str.ofString "size") 212, Value.str (Str.ofString "token") 213]
noncomputable def ob68 (_ : Params) : Obj := e0
noncomputable def ob69 (_ : Params) : Obj := fc (Str.ofString "merge") (dn 4)
noncomputable def ob70 (_ : Params) : Obj := co (Str.ofString "merge") (Str.ofString "merge") 207 11 2 29 30 (Value.ref 31) (Value.ref 32) (Value.ref 33) 214 215
noncomputable def ob71 (_ : Params) : Obj := fo (Str.ofString "merge") (dn 4) (Str.ofString "moduleyard.firsts") 187 34
noncomputable def ob72 (P : Params) : Obj := { cls := .type "dict", data := .dict (List.toArray (de P (Str.ofString "__name__") 165 (Value.str (Str.ofString "moduleyard.firsts") 187) :: ((gE P).drop 1).take 15)) 16 }
noncomputable def ob73 (_ : Params) : Obj := { cls := Value.none, data := Data.fields (List.toArray ([Value.int 3 0, Value.int 0 0, Value.ref 20, Value.int 9 0, Value.int 0 0, Value.ref 27, Value.int 11 0, Value.int 0 0, Value.ref 34, Value.int 16 0, Value.int 0 0, Value.ref 41, Value.int 41 0, Value.int 0 0, Value.ref 83, Value.int 56 0, Value.int 0 0, Value.ref 90])) }
noncomputable def ob74 (_ : Params) : Obj := e0
noncomputable def ob75 (_ : Params) : Obj := { cls := Value.type "builtin_function_or_method", data := Data.fields (List.toArray ([Value.builtin "type.__prepare__", Value.type "type"])) }
noncomputable def ob76 (P : Params) : Obj := { cls := Value.type "dict", data := Data.dict (List.toArray ([{ hash := PyData.keyHash P (Str.ofString "__module__"), key := Value.str (Str.ofString "__module__") 224, val := Value.str (Str.ofString "moduleyard.firsts") 187 }, { hash := PyData.keyHash P (Str.ofString "__qualname__"), key := Value.str (Str.ofString "__qualname__") 226, val := Value.str (Str.ofString "Grammar") 225 }, { hash := PyData.keyHash P (Str.ofString "__firstlineno__"), key := Value.str (Str.ofString "__firstlineno__") 228, val := Value.int 16 227 }, { hash := PyData.keyHash P (Str.ofString "__init__"), key := Value.str (Str.ofString "__init__") 239, val := Value.ref 49 }, { hash := PyData.keyHash P (Str.ofString "nullable"), key := Value.str (Str.ofString "nullable") 247, val := Value.ref 56 }, { hash := PyData.keyHash P (Str.ofString "first"), key := Value.str (Str.ofString "first") 255, val := Value.ref 63 }, { hash := PyData.keyHash P (Str.ofString "predict"), key := Value.str (Str.ofString "predict") 265, val := Value.ref 70 }, { hash := PyData.keyHash P (Str.ofString "__static_attributes__"), key := Value.str (Str.ofString "__static_attributes__") 272, val := Value.ref 71 }])) 8 }
noncomputable def ob77 (_ : Params) : Obj := e0
noncomputable def ob78 (_ : Params) : Obj := { cls := Value.none, data := Data.fields (List.toArray ([Value.int 18 0, Value.int 4 0, Value.ref 48, Value.int 30 0, Value.int 4 0, Value.ref 55, Value.int 33 0, Value.int 4 0, Value.ref 62, Value.int 36 0, Value.int 4 0, Value.ref 69])) }
noncomputable def ob79 (_ : Params) : Obj := { cls := Value.type "code", data := Data.fields (List.toArray ([Value.str (Str.ofString "Grammar") 219, Value.str (Str.ofString "Grammar") 220, Value.str (cutS) 221, Value.int 16 0, Value.int 0 0, Value.int 0 0, Value.int 0 0, Value.int 0 0, Value.ref 39, Value.bool false, Value.int 181 0, Value.ref 40, Value.none, Value.none, Value.none, Value.none, Value.int 222 0, Value.int 16 0, Value.str (cutS) 223])) }
noncomputable def ob80 (_ : Params) : Obj := { cls := Value.type "frame", slots := List.toArray ([some (Value.ref 41), some (Value.ref 3), some (Value.ref 38), none, some (Value.str (Str.ofString "moduleyard.firsts") 187), none, some (Value.ref 0)]) }
noncomputable def ob81 (_ : Params) : Obj := e0
noncomputable def ob82 (_ : Params) : Obj := n0
noncomputable def ob83 (_ : Params) : Obj := tu [Value.str (Str.ofString "self") 232, Value.str (Str.ofString "rules") 233, Value.str (Str.ofString "start") 234, Value.str (Str.ofString "name") 235, Value.str (Str.ofString "e") 236]
noncomputable def ob84 (_ : Params) : Obj := e0
noncomputable def ob85 (_ : Params) : Obj := fc (Str.ofString "Grammar.__init__") (mt 0)
noncomputable def ob86 (_ : Params) : Obj := co (Str.ofString "__init__") (Str.ofString "Grammar.__init__") 229 18 3 43 44 (Value.ref 45) (Value.ref 46) (Value.ref 47) 237 238
noncomputable def ob87 (_ : Params) : Obj := fo (Str.ofString "Grammar.__init__") (mt 0) (Str.ofString "moduleyard.firsts") 187 48
noncomputable def ob88 (_ : Params) : Obj := e0
noncomputable def ob89 (_ : Params) : Obj := n0
noncomputable def ob90 (_ : Params) : Obj := tu [Value.str (Str.ofString "self") 243, Value.str (Str.ofString "e") 244]
noncomputable def ob91 (_ : Params) : Obj := e0
noncomputable def ob92 (_ : Params) : Obj := fc (Str.ofString "Grammar.nullable") (mt 1)
noncomputable def ob93 (_ : Params) : Obj := co (Str.ofString "nullable") (Str.ofString "Grammar.nullable") 240 30 2 50 51 (Value.ref 52) (Value.ref 53) (Value.ref 54) 245 246
noncomputable def ob94 (_ : Params) : Obj := fo (Str.ofString "Grammar.nullable") (mt 1) (Str.ofString "moduleyard.firsts") 187 55
noncomputable def ob95 (_ : Params) : Obj := e0
noncomputable def ob96 (_ : Params) : Obj := n0
noncomputable def ob97 (_ : Params) : Obj := tu [Value.str (Str.ofString "self") 251, Value.str (Str.ofString "e") 252]
noncomputable def ob98 (_ : Params) : Obj := e0
noncomputable def ob99 (_ : Params) : Obj := fc (Str.ofString "Grammar.first") (mt 2)
noncomputable def ob100 (_ : Params) : Obj := co (Str.ofString "first") (Str.ofString "Grammar.first") 248 33 2 57 58 (Value.ref 59) (Value.ref 60) (Value.ref 61) 253 254
noncomputable def ob101 (_ : Params) : Obj := fo (Str.ofString "Grammar.first") (mt 2) (Str.ofString "moduleyard.firsts") 187 62
noncomputable def ob102 (_ : Params) : Obj := e0
noncomputable def ob103 (_ : Params) : Obj := n0
noncomputable def ob104 (_ : Params) : Obj := tu [Value.str (Str.ofString "self") 259, Value.str (Str.ofString "e") 260, Value.str (Str.ofString "after") 261, Value.str (Str.ofString "found") 262]
noncomputable def ob105 (_ : Params) : Obj := e0
noncomputable def ob106 (_ : Params) : Obj := fc (Str.ofString "Grammar.predict") (mt 3)
noncomputable def ob107 (_ : Params) : Obj := co (Str.ofString "predict") (Str.ofString "Grammar.predict") 256 36 3 64 65 (Value.ref 66) (Value.ref 67) (Value.ref 68) 263 264
noncomputable def ob108 (_ : Params) : Obj := fo (Str.ofString "Grammar.predict") (mt 3) (Str.ofString "moduleyard.firsts") 187 69
noncomputable def ob109 (_ : Params) : Obj := tu [Value.str (Str.ofString "empty") 266, Value.str (Str.ofString "firsts") 267, Value.str (Str.ofString "follows") 268, Value.str (Str.ofString "order") 269, Value.str (Str.ofString "start") 270, Value.str (Str.ofString "table") 271]
noncomputable def ob110 (P : Params) : Obj := { cls := Value.type "dict", data := Data.dict (List.toArray ([{ hash := PyData.keyHash P (Str.ofString "__module__"), key := Value.str (Str.ofString "__module__") 224, val := Value.str (Str.ofString "moduleyard.firsts") 187 }, { hash := PyData.keyHash P (Str.ofString "__firstlineno__"), key := Value.str (Str.ofString "__firstlineno__") 228, val := Value.int 16 227 }, { hash := PyData.keyHash P (Str.ofString "__init__"), key := Value.str (Str.ofString "__init__") 239, val := Value.ref 49 }, { hash := PyData.keyHash P (Str.ofString "nullable"), key := Value.str (Str.ofString "nullable") 247, val := Value.ref 56 }, { hash := PyData.keyHash P (Str.ofString "first"), key := Value.str (Str.ofString "first") 255, val := Value.ref 63 }, { hash := PyData.keyHash P (Str.ofString "predict"), key := Value.str (Str.ofString "predict") 265, val := Value.ref 70 }, { hash := PyData.keyHash P (Str.ofString "__static_attributes__"), key := Value.str (Str.ofString "__static_attributes__") 272, val := Value.ref 71 }, { hash := PyData.keyHash P (Str.ofString "__dict__"), key := Value.str (Str.ofString "__dict__") 274, val := Value.ref 74 }, { hash := PyData.keyHash P (Str.ofString "__weakref__"), key := Value.str (Str.ofString "__weakref__") 276, val := Value.ref 75 }, { hash := PyData.keyHash P (Str.ofString "__doc__"), key := Value.str (Str.ofString "__doc__") 277, val := Value.none }])) 4 }
noncomputable def ob111 (_ : Params) : Obj := { cls := Value.type "type", data := Data.cls { name := Str.ofString "Grammar", bases := [Value.type "object"], mro := [Value.ref 73, Value.type "object"], ns := 72, qualname := Str.ofString "Grammar" }, slots := List.toArray ([none, none, some (Value.str (Str.ofString "Grammar") 217), some (Value.str (Str.ofString "Grammar") 225), some (Value.builtin "object.__new__"), some (Value.bool true)]) }
noncomputable def ob112 (_ : Params) : Obj := { cls := Value.type "getset_descriptor", data := Data.fields (List.toArray ([Value.str (Str.ofString "__dict__") 273, Value.ref 73, Value.builtin "function.__dict__", Value.builtin "function.__dict__#set"])) }
noncomputable def ob113 (_ : Params) : Obj := { cls := Value.type "getset_descriptor", data := Data.fields (List.toArray ([Value.str (Str.ofString "__weakref__") 275, Value.ref 73, Value.builtin "ExceptionGroup.__weakref__", Value.none])) }
noncomputable def ob114 (_ : Params) : Obj := { cls := Value.type "super", data := Data.fields (List.toArray ([Value.ref 73, Value.ref 73, Value.ref 73])) }
noncomputable def ob115 (_ : Params) : Obj := { cls := Value.type "builtin_function_or_method", data := Data.fields (List.toArray ([Value.builtin "object.__init_subclass__", Value.ref 73])) }
noncomputable def ob116 (_ : Params) : Obj := e0
noncomputable def ob117 (_ : Params) : Obj := n0
noncomputable def ob118 (_ : Params) : Obj := tu [Value.str (Str.ofString "e") 283, Value.str (Str.ofString "table") 284, Value.str (Str.ofString "empty") 285, Value.str (Str.ofString "tag") 286, Value.str (Str.ofString "item") 287]
noncomputable def ob119 (_ : Params) : Obj := e0
noncomputable def ob120 (_ : Params) : Obj := fc (Str.ofString "may_be_empty") (dn 6)
noncomputable def ob121 (_ : Params) : Obj := co (Str.ofString "may_be_empty") (Str.ofString "may_be_empty") 280 41 3 78 79 (Value.ref 80) (Value.ref 81) (Value.ref 82) 288 289
noncomputable def ob122 (_ : Params) : Obj := fo (Str.ofString "may_be_empty") (dn 6) (Str.ofString "moduleyard.firsts") 187 83
noncomputable def ob123 (_ : Params) : Obj := e0
noncomputable def ob124 (_ : Params) : Obj := n0
noncomputable def ob125 (_ : Params) : Obj := tu [Value.str (Str.ofString "table") 294, Value.str (Str.ofString "order") 295, Value.str (Str.ofString "empty") 296, Value.str (Str.ofString "grown") 297, Value.str (Str.ofString "name") 298]
noncomputable def ob126 (_ : Params) : Obj := e0
noncomputable def ob127 (_ : Params) : Obj := fc (Str.ofString "empty_rules") (dn 7)
noncomputable def ob128 (_ : Params) : Obj := co (Str.ofString "empty_rules") (Str.ofString "empty_rules") 291 56 2 85 86 (Value.ref 87) (Value.ref 88) (Value.ref 89) 299 300
noncomputable def ob129 (_ : Params) : Obj := fo (Str.ofString "empty_rules") (dn 7) (Str.ofString "moduleyard.firsts") 187 90
noncomputable def ob130 (P : Params) : Obj := { cls := .type "dict", data := .dict (List.toArray (de P (Str.ofString "__name__") 165 (Value.str (Str.ofString "law_pq0748_01") 413) :: ((gE P).drop 1).take 27)) 28 }
noncomputable def ob131 (_ : Params) : Obj := { cls := Value.none, data := Data.fields (List.toArray ([Value.int 3 0, Value.int 0 0, Value.ref 20, Value.int 9 0, Value.int 0 0, Value.ref 27, Value.int 11 0, Value.int 0 0, Value.ref 34, Value.int 16 0, Value.int 0 0, Value.ref 41, Value.int 41 0, Value.int 0 0, Value.ref 83, Value.int 56 0, Value.int 0 0, Value.ref 90, Value.int 66 0, Value.int 0 0, Value.ref 97, Value.int 80 0, Value.int 0 0, Value.ref 104, Value.int 91 0, Value.int 0 0, Value.ref 111, Value.int 104 0, Value.int 0 0, Value.ref 118, Value.int 121 0, Value.int 0 0, Value.ref 125, Value.int 130 0, Value.int 0 0, Value.ref 130, Value.int 132 0, Value.int 0 0, Value.ref 137, Value.int 137 0, Value.int 0 0, Value.ref 144, Value.int 158 0, Value.int 0 0, Value.ref 149, Value.int 165 0, Value.int 0 0, Value.ref 156, Value.int 189 0, Value.int 0 0, Value.ref 163, Value.int 192 0, Value.int 0 0, Value.ref 170])) }
noncomputable def ob132 (_ : Params) : Obj := e0
noncomputable def ob133 (_ : Params) : Obj := n0
noncomputable def ob134 (_ : Params) : Obj := tu [Value.str (Str.ofString "e") 305, Value.str (Str.ofString "table") 306, Value.str (Str.ofString "empty") 307, Value.str (Str.ofString "firsts") 308, Value.str (Str.ofString "tag") 309, Value.str (Str.ofString "found") 310, Value.str (Str.ofString "item") 311]
noncomputable def ob135 (_ : Params) : Obj := e0
noncomputable def ob136 (_ : Params) : Obj := fc (Str.ofString "first_of") (dn 8)
noncomputable def ob137 (_ : Params) : Obj := co (Str.ofString "first_of") (Str.ofString "first_of") 302 66 4 92 93 (Value.ref 94) (Value.ref 95) (Value.ref 96) 312 313
noncomputable def ob138 (_ : Params) : Obj := fo (Str.ofString "first_of") (dn 8) (Str.ofString "moduleyard.firsts") 187 97
noncomputable def ob139 (_ : Params) : Obj := e0
noncomputable def ob140 (_ : Params) : Obj := n0
noncomputable def ob141 (_ : Params) : Obj := tu [Value.str (Str.ofString "table") 318, Value.str (Str.ofString "order") 319, Value.str (Str.ofString "empty") 320, Value.str (Str.ofString "firsts") 321, Value.str (Str.ofString "name") 322, Value.str (Str.ofString "grown") 323]
noncomputable def ob142 (_ : Params) : Obj := e0
noncomputable def ob143 (_ : Params) : Obj := fc (Str.ofString "first_rows") (dn 9)
noncomputable def ob144 (_ : Params) : Obj := co (Str.ofString "first_rows") (Str.ofString "first_rows") 315 80 3 99 100 (Value.ref 101) (Value.ref 102) (Value.ref 103) 324 325
noncomputable def ob145 (_ : Params) : Obj := fo (Str.ofString "first_rows") (dn 9) (Str.ofString "moduleyard.firsts") 187 104
noncomputable def ob146 (_ : Params) : Obj := e0
noncomputable def ob147 (_ : Params) : Obj := n0
noncomputable def ob148 (_ : Params) : Obj := tu [Value.str (Str.ofString "grammar") 330, Value.str (Str.ofString "follows") 331, Value.str (Str.ofString "name") 332, Value.str (Str.ofString "grown") 333]
noncomputable def ob149 (_ : Params) : Obj := e0
noncomputable def ob150 (_ : Params) : Obj := fc (Str.ofString "follow_rows") (dn 10)
noncomputable def ob151 (_ : Params) : Obj := co (Str.ofString "follow_rows") (Str.ofString "follow_rows") 327 91 1 106 107 (Value.ref 108) (Value.ref 109) (Value.ref 110) 334 335
noncomputable def ob152 (_ : Params) : Obj := fo (Str.ofString "follow_rows") (dn 10) (Str.ofString "moduleyard.firsts") 187 111
noncomputable def ob153 (_ : Params) : Obj := e0
noncomputable def ob154 (_ : Params) : Obj := n0
noncomputable def ob155 (_ : Params) : Obj := tu [Value.str (Str.ofString "grammar") 340, Value.str (Str.ofString "e") 341, Value.str (Str.ofString "after") 342, Value.str (Str.ofString "follows") 343, Value.str (Str.ofString "tag") 344, Value.str (Str.ofString "grown") 345, Value.str (Str.ofString "item") 346, Value.str (Str.ofString "behind") 347]
noncomputable def ob156 (_ : Params) : Obj := e0
noncomputable def ob157 (_ : Params) : Obj := fc (Str.ofString "add_follows") (dn 11)
noncomputable def ob158 (_ : Params) : Obj := co (Str.ofString "add_follows") (Str.ofString "add_follows") 337 104 4 113 114 (Value.ref 115) (Value.ref 116) (Value.ref 117) 348 349
noncomputable def ob159 (_ : Params) : Obj := fo (Str.ofString "add_follows") (dn 11) (Str.ofString "moduleyard.firsts") 187 118
noncomputable def ob160 (_ : Params) : Obj := e0
noncomputable def ob161 (_ : Params) : Obj := n0
noncomputable def ob162 (_ : Params) : Obj := tu [Value.str (Str.ofString "grammar") 354, Value.str (Str.ofString "e") 355, Value.str (Str.ofString "after") 356, Value.str (Str.ofString "found") 357, Value.str (Str.ofString "behind") 358, Value.str (Str.ofString "item") 359]
noncomputable def ob163 (_ : Params) : Obj := e0
noncomputable def ob164 (_ : Params) : Obj := fc (Str.ofString "parts") (dn 12)
noncomputable def ob165 (_ : Params) : Obj := co (Str.ofString "parts") (Str.ofString "parts") 351 121 3 120 121 (Value.ref 122) (Value.ref 123) (Value.ref 124) 360 361
noncomputable def ob166 (_ : Params) : Obj := fo (Str.ofString "parts") (dn 12) (Str.ofString "moduleyard.firsts") 187 125
noncomputable def ob167 (_ : Params) : Obj := e0
noncomputable def ob168 (_ : Params) : Obj := n0
noncomputable def ob169 (_ : Params) : Obj := fc (Str.ofString "shared") (dn 13)
noncomputable def ob170 (_ : Params) : Obj := co (Str.ofString "shared") (Str.ofString "shared") 363 130 2 127 128 Value.none Value.none (Value.ref 129) 366 367
noncomputable def ob171 (_ : Params) : Obj := fo (Str.ofString "shared") (dn 13) (Str.ofString "moduleyard.firsts") 187 130
noncomputable def ob172 (_ : Params) : Obj := e0
noncomputable def ob173 (_ : Params) : Obj := n0
noncomputable def ob174 (_ : Params) : Obj := tu [Value.str (Str.ofString "grammar") 372, Value.str (Str.ofString "found") 373, Value.str (Str.ofString "name") 374]
noncomputable def ob175 (_ : Params) : Obj := e0
noncomputable def ob176 (_ : Params) : Obj := fc (Str.ofString "conflicts") (dn 14)
noncomputable def ob177 (_ : Params) : Obj := co (Str.ofString "conflicts") (Str.ofString "conflicts") 369 132 1 132 133 (Value.ref 134) (Value.ref 135) (Value.ref 136) 375 376
noncomputable def ob178 (_ : Params) : Obj := fo (Str.ofString "conflicts") (dn 14) (Str.ofString "moduleyard.firsts") 187 137
noncomputable def ob179 (_ : Params) : Obj := e0
noncomputable def ob180 (_ : Params) : Obj := n0
noncomputable def ob181 (_ : Params) : Obj := tu [Value.str (Str.ofString "grammar") 381, Value.str (Str.ofString "name") 382, Value.str (Str.ofString "e") 383, Value.str (Str.ofString "after") 384, Value.str (Str.ofString "found") 385, Value.str (Str.ofString "tag") 386, Value.str (Str.ofString "body") 387, Value.str (Str.ofString "kind") 388, Value.str (Str.ofString "both") 389, Value.str (Str.ofString "behind") 390, Value.str (Str.ofString "item") 391]
noncomputable def ob182 (_ : Params) : Obj := e0
noncomputable def ob183 (_ : Params) : Obj := fc (Str.ofString "find_conflicts") (dn 15)
noncomputable def ob184 (_ : Params) : Obj := co (Str.ofString "find_conflicts") (Str.ofString "find_conflicts") 378 137 5 139 140 (Value.ref 141) (Value.ref 142) (Value.ref 143) 392 393
noncomputable def ob185 (_ : Params) : Obj := fo (Str.ofString "find_conflicts") (dn 15) (Str.ofString "moduleyard.firsts") 187 144
noncomputable def ob186 (_ : Params) : Obj := e0
noncomputable def ob187 (_ : Params) : Obj := n0
noncomputable def ob188 (_ : Params) : Obj := fc (Str.ofString "add_alternatives") (dn 16)
noncomputable def ob189 (_ : Params) : Obj := co (Str.ofString "add_alternatives") (Str.ofString "add_alternatives") 395 158 5 146 147 Value.none Value.none (Value.ref 148) 398 399
noncomputable def ob190 (_ : Params) : Obj := fo (Str.ofString "add_alternatives") (dn 16) (Str.ofString "moduleyard.firsts") 187 149
noncomputable def ob191 (_ : Params) : Obj := e0
noncomputable def ob192 (_ : Params) : Obj := n0
noncomputable def ob193 (_ : Params) : Obj := tu [Value.str (Str.ofString "grammar") 404, Value.str (Str.ofString "name") 405, Value.str (Str.ofString "waiting") 406, Value.str (Str.ofString "seen") 407, Value.str (Str.ofString "e") 408, Value.str (Str.ofString "item") 409]
noncomputable def ob194 (_ : Params) : Obj := e0
noncomputable def ob195 (_ : Params) : Obj := fc (Str.ofString "is_left_recursive") (dn 17)
noncomputable def ob196 (_ : Params) : Obj := co (Str.ofString "is_left_recursive") (Str.ofString "is_left_recursive") 401 165 2 151 152 (Value.ref 153) (Value.ref 154) (Value.ref 155) 410 411
noncomputable def ob197 (_ : Params) : Obj := fo (Str.ofString "is_left_recursive") (dn 17) (Str.ofString "moduleyard.firsts") 187 156
noncomputable def ob198 (_ : Params) : Obj := e0
noncomputable def ob199 (_ : Params) : Obj := n0
noncomputable def ob200 (_ : Params) : Obj := tu [Value.str (Str.ofString "pot") 418, Value.str (Str.ofString "ways") 419]
noncomputable def ob201 (_ : Params) : Obj := e0
noncomputable def ob202 (_ : Params) : Obj := fc (Str.ofString "_law_fetch") (dn 19)
noncomputable def ob203 (_ : Params) : Obj := co (Str.ofString "_law_fetch") (Str.ofString "_law_fetch") 415 189 2 158 159 (Value.ref 160) (Value.ref 161) (Value.ref 162) 420 421
noncomputable def ob204 (_ : Params) : Obj := fo (Str.ofString "_law_fetch") (dn 19) (Str.ofString "law_pq0748_01") 413 163
noncomputable def ob205 (_ : Params) : Obj := e0
noncomputable def ob206 (_ : Params) : Obj := n0
noncomputable def ob207 (_ : Params) : Obj := tu [Value.str (Str.ofString "pot") 426, Value.str (Str.ofString "count") 427, Value.str (Str.ofString "kind") 428, Value.str (Str.ofString "name") 429]
noncomputable def ob208 (_ : Params) : Obj := e0
noncomputable def ob209 (_ : Params) : Obj := fc (Str.ofString "_law_piece") (dn 20)
noncomputable def ob210 (_ : Params) : Obj := co (Str.ofString "_law_piece") (Str.ofString "_law_piece") 423 192 2 165 166 (Value.ref 167) (Value.ref 168) (Value.ref 169) 430 431
noncomputable def ob211 (_ : Params) : Obj := fo (Str.ofString "_law_piece") (dn 20) (Str.ofString "law_pq0748_01") 413 170
noncomputable def ob212 (P : Params) : Obj := { cls := .type "dict", data := .dict (List.toArray (gE P)) 33 }
noncomputable def ob213 (_ : Params) : Obj := { cls := Value.none, data := Data.fields (List.toArray ([Value.int 3 0, Value.int 0 0, Value.ref 20, Value.int 9 0, Value.int 0 0, Value.ref 27, Value.int 11 0, Value.int 0 0, Value.ref 34, Value.int 16 0, Value.int 0 0, Value.ref 41, Value.int 41 0, Value.int 0 0, Value.ref 83, Value.int 56 0, Value.int 0 0, Value.ref 90, Value.int 66 0, Value.int 0 0, Value.ref 97, Value.int 80 0, Value.int 0 0, Value.ref 104, Value.int 91 0, Value.int 0 0, Value.ref 111, Value.int 104 0, Value.int 0 0, Value.ref 118, Value.int 121 0, Value.int 0 0, Value.ref 125, Value.int 130 0, Value.int 0 0, Value.ref 130, Value.int 132 0, Value.int 0 0, Value.ref 137, Value.int 137 0, Value.int 0 0, Value.ref 144, Value.int 158 0, Value.int 0 0, Value.ref 149, Value.int 165 0, Value.int 0 0, Value.ref 156, Value.int 189 0, Value.int 0 0, Value.ref 163, Value.int 192 0, Value.int 0 0, Value.ref 170, Value.int 198 0, Value.int 0 0, Value.ref 175, Value.int 207 0, Value.int 0 0, Value.ref 182, Value.int 209 0, Value.int 0 0, Value.ref 187, Value.int 217 0, Value.int 0 0, Value.ref 194, Value.int 229 0, Value.int 0 0, Value.ref 201])) }
noncomputable def ob214 (_ : Params) : Obj := e0
noncomputable def ob215 (_ : Params) : Obj := n0
noncomputable def ob216 (_ : Params) : Obj := fc (Str.ofString "_law_rules") (dn 21)
noncomputable def ob217 (_ : Params) : Obj := co (Str.ofString "_law_rules") (Str.ofString "_law_rules") 433 198 1 172 173 Value.none Value.none (Value.ref 174) 436 437
noncomputable def ob218 (_ : Params) : Obj := fo (Str.ofString "_law_rules") (dn 21) (Str.ofString "law_pq0748_01") 413 175
noncomputable def ob219 (_ : Params) : Obj := e0
noncomputable def ob220 (_ : Params) : Obj := n0
noncomputable def ob221 (_ : Params) : Obj := tu [Value.str (Str.ofString "piece") 442, Value.str (Str.ofString "hollow") 443]
noncomputable def ob222 (_ : Params) : Obj := e0
noncomputable def ob223 (_ : Params) : Obj := fc (Str.ofString "_law_hollow") (dn 22)
noncomputable def ob224 (_ : Params) : Obj := co (Str.ofString "_law_hollow") (Str.ofString "_law_hollow") 439 207 2 177 178 (Value.ref 179) (Value.ref 180) (Value.ref 181) 444 445
noncomputable def ob225 (_ : Params) : Obj := fo (Str.ofString "_law_hollow") (dn 22) (Str.ofString "law_pq0748_01") 413 182
noncomputable def ob226 (_ : Params) : Obj := e0
noncomputable def ob227 (_ : Params) : Obj := n0
noncomputable def ob228 (_ : Params) : Obj := fc (Str.ofString "_law_hollows") (dn 23)
noncomputable def ob229 (_ : Params) : Obj := co (Str.ofString "_law_hollows") (Str.ofString "_law_hollows") 447 209 1 184 185 Value.none Value.none (Value.ref 186) 450 451
noncomputable def ob230 (_ : Params) : Obj := fo (Str.ofString "_law_hollows") (dn 23) (Str.ofString "law_pq0748_01") 413 187
noncomputable def ob231 (_ : Params) : Obj := e0
noncomputable def ob232 (_ : Params) : Obj := n0
noncomputable def ob233 (_ : Params) : Obj := tu [Value.str (Str.ofString "rules") 456, Value.str (Str.ofString "hollow") 457, Value.str (Str.ofString "found") 458, Value.str (Str.ofString "name") 459, Value.str (Str.ofString "e") 460, Value.str (Str.ofString "way") 461, Value.str (Str.ofString "piece") 462, Value.str (Str.ofString "inner") 463]
noncomputable def ob234 (_ : Params) : Obj := e0
noncomputable def ob235 (_ : Params) : Obj := fc (Str.ofString "_law_lefts") (dn 24)
noncomputable def ob236 (_ : Params) : Obj := co (Str.ofString "_law_lefts") (Str.ofString "_law_lefts") 453 217 2 189 190 (Value.ref 191) (Value.ref 192) (Value.ref 193) 464 465
noncomputable def ob237 (_ : Params) : Obj := fo (Str.ofString "_law_lefts") (dn 24) (Str.ofString "law_pq0748_01") 413 194
noncomputable def ob238 (_ : Params) : Obj := e0
noncomputable def ob239 (_ : Params) : Obj := n0
noncomputable def ob240 (_ : Params) : Obj := tu [Value.str (Str.ofString "script") 470, Value.str (Str.ofString "pot") 471, Value.str (Str.ofString "rules") 472, Value.str (Str.ofString "made") 473, Value.str (Str.ofString "told") 474, Value.str (Str.ofString "lefts") 475, Value.str (Str.ofString "name") 476, Value.str (Str.ofString "e") 477, Value.str (Str.ofString "met_rules") 478, Value.str (Str.ofString "waiting") 479, Value.str (Str.ofString "one") 480, Value.str (Str.ofString "asked") 481, Value.str (Str.ofString "row") 482, Value.str (Str.ofString "kept") 483]
noncomputable def ob241 (_ : Params) : Obj := e0
noncomputable def ob242 (_ : Params) : Obj := fc (Str.ofString "law") (dn 25)
noncomputable def ob243 (_ : Params) : Obj := co (Str.ofString "law") (Str.ofString "law") 467 229 1 196 197 (Value.ref 198) (Value.ref 199) (Value.ref 200) 484 485
noncomputable def ob244 (_ : Params) : Obj := fo (Str.ofString "law") (dn 25) (Str.ofString "law_pq0748_01") 413 201
noncomputable def tr47 (P : Params) : BT := .node (boot_o_0 P) (.node (boot_o_1 P) (.node (boot_o_3 P) (.node (boot_o_7 P) .nil .nil) (.node (ob43 P) .nil .nil)) (.node (boot_o_5 P) (.node (boot_o_9 P) .nil .nil) (.node (ob45 P) .nil .nil))) (.node (boot_o_2 P) (.node (boot_o_4 P) (.node (boot_o_8 P) .nil .nil) (.node (ob44 P) .nil .nil)) (.node (boot_o_6 P) (.node (boot_o_10 P) .nil .nil) (.node (ob46 P) .nil .nil)))
noncomputable def tr71 (P : Params) : BT := .node (boot_o_0 P) (.node (boot_o_1 P) (.node (ob49 P) (.node (boot_o_7 P) (.node (ob51 P) (.node (ob67 P) .nil .nil) .nil) (.node (ob59 P) .nil .nil)) (.node (ob43 P) (.node (ob55 P) (.node (ob71 P) .nil .nil) .nil) (.node (ob63 P) .nil .nil))) (.node (boot_o_5 P) (.node (boot_o_9 P) (.node (ob53 P) (.node (ob69 P) .nil .nil) .nil) (.node (ob61 P) .nil .nil)) (.node (ob45 P) (.node (ob57 P) .nil .nil) (.node (ob65 P) .nil .nil)))) (.node (boot_o_2 P) (.node (boot_o_4 P) (.node (boot_o_8 P) (.node (ob52 P) (.node (ob68 P) .nil .nil) .nil) (.node (ob60 P) .nil .nil)) (.node (ob50 P) (.node (ob56 P) .nil .nil) (.node (ob64 P) .nil .nil))) (.node (boot_o_6 P) (.node (boot_o_10 P) (.node (ob54 P) (.node (ob70 P) .nil .nil) .nil) (.node (ob62 P) .nil .nil)) (.node (ob46 P) (.node (ob58 P) .nil .nil) (.node (ob66 P) .nil .nil))))
noncomputable def tr129 (P : Params) : BT := .node (boot_o_0 P) (.node (boot_o_1 P) (.node (ob72 P) (.node (boot_o_7 P) (.node (ob51 P) (.node (ob67 P) (.node (ob101 P) .nil .nil) .nil) (.node (ob85 P) (.node (ob117 P) .nil .nil) .nil)) (.node (ob59 P) (.node (ob77 P) (.node (ob109 P) .nil .nil) .nil) (.node (ob93 P) (.node (ob125 P) .nil .nil) .nil))) (.node (ob43 P) (.node (ob55 P) (.node (ob71 P) (.node (ob105 P) .nil .nil) .nil) (.node (ob89 P) (.node (ob121 P) .nil .nil) .nil)) (.node (ob63 P) (.node (ob81 P) (.node (ob113 P) .nil .nil) .nil) (.node (ob97 P) (.node (ob129 P) .nil .nil) .nil)))) (.node (boot_o_5 P) (.node (boot_o_9 P) (.node (ob53 P) (.node (ob69 P) (.node (ob103 P) .nil .nil) .nil) (.node (ob87 P) (.node (ob119 P) .nil .nil) .nil)) (.node (ob61 P) (.node (ob79 P) (.node (ob111 P) .nil .nil) .nil) (.node (ob95 P) (.node (ob127 P) .nil .nil) .nil))) (.node (ob45 P) (.node (ob57 P) (.node (ob75 P) (.node (ob107 P) .nil .nil) .nil) (.node (ob91 P) (.node (ob123 P) .nil .nil) .nil)) (.node (ob65 P) (.node (ob83 P) (.node (ob115 P) .nil .nil) .nil) (.node (ob99 P) .nil .nil))))) (.node (boot_o_2 P) (.node (boot_o_4 P) (.node (boot_o_8 P) (.node (ob52 P) (.node (ob68 P) (.node (ob102 P) .nil .nil) .nil) (.node (ob86 P) (.node (ob118 P) .nil .nil) .nil)) (.node (ob60 P) (.node (ob78 P) (.node (ob110 P) .nil .nil) .nil) (.node (ob94 P) (.node (ob126 P) .nil .nil) .nil))) (.node (ob73 P) (.node (ob56 P) (.node (ob74 P) (.node (ob106 P) .nil .nil) .nil) (.node (ob90 P) (.node (ob122 P) .nil .nil) .nil)) (.node (ob64 P) (.node (ob82 P) (.node (ob114 P) .nil .nil) .nil) (.node (ob98 P) .nil .nil)))) (.node (boot_o_6 P) (.node (boot_o_10 P) (.node (ob54 P) (.node (ob70 P) (.node (ob104 P) .nil .nil) .nil) (.node (ob88 P) (.node (ob120 P) .nil .nil) .nil)) (.node (ob62 P) (.node (ob80 P) (.node (ob112 P) .nil .nil) .nil) (.node (ob96 P) (.node (ob128 P) .nil .nil) .nil))) (.node (ob46 P) (.node (ob58 P) (.node (ob76 P) (.node (ob108 P) .nil .nil) .nil) (.node (ob92 P) (.node (ob124 P) .nil .nil) .nil)) (.node (ob66 P) (.node (ob84 P) (.node (ob116 P) .nil .nil) .nil) (.node (ob100 P) .nil .nil)))))
noncomputable def tr211 (P : Params) : BT := .node (boot_o_0 P) (.node (boot_o_1 P) (.node (ob130 P) (.node (boot_o_7 P) (.node (ob51 P) (.node (ob67 P) (.node (ob101 P) (.node (ob167 P) .nil .nil) .nil) (.node (ob135 P) (.node (ob199 P) .nil .nil) .nil)) (.node (ob85 P) (.node (ob117 P) (.node (ob183 P) .nil .nil) .nil) (.node (ob151 P) .nil .nil))) (.node (ob59 P) (.node (ob77 P) (.node (ob109 P) (.node (ob175 P) .nil .nil) .nil) (.node (ob143 P) (.node (ob207 P) .nil .nil) .nil)) (.node (ob93 P) (.node (ob125 P) (.node (ob191 P) .nil .nil) .nil) (.node (ob159 P) .nil .nil)))) (.node (ob43 P) (.node (ob55 P) (.node (ob71 P) (.node (ob105 P) (.node (ob171 P) .nil .nil) .nil) (.node (ob139 P) (.node (ob203 P) .nil .nil) .nil)) (.node (ob89 P) (.node (ob121 P) (.node (ob187 P) .nil .nil) .nil) (.node (ob155 P) .nil .nil))) (.node (ob63 P) (.node (ob81 P) (.node (ob113 P) (.node (ob179 P) .nil .nil) .nil) (.node (ob147 P) (.node (ob211 P) .nil .nil) .nil)) (.node (ob97 P) (.node (ob129 P) (.node (ob195 P) .nil .nil) .nil) (.node (ob163 P) .nil .nil))))) (.node (boot_o_5 P) (.node (boot_o_9 P) (.node (ob53 P) (.node (ob69 P) (.node (ob103 P) (.node (ob169 P) .nil .nil) .nil) (.node (ob137 P) (.node (ob201 P) .nil .nil) .nil)) (.node (ob87 P) (.node (ob119 P) (.node (ob185 P) .nil .nil) .nil) (.node (ob153 P) .nil .nil))) (.node (ob61 P) (.node (ob79 P) (.node (ob111 P) (.node (ob177 P) .nil .nil) .nil) (.node (ob145 P) (.node (ob209 P) .nil .nil) .nil)) (.node (ob95 P) (.node (ob127 P) (.node (ob193 P) .nil .nil) .nil) (.node (ob161 P) .nil .nil)))) (.node (ob45 P) (.node (ob57 P) (.node (ob75 P) (.node (ob107 P) (.node (ob173 P) .nil .nil) .nil) (.node (ob141 P) (.node (ob205 P) .nil .nil) .nil)) (.node (ob91 P) (.node (ob123 P) (.node (ob189 P) .nil .nil) .nil) (.node (ob157 P) .nil .nil))) (.node (ob65 P) (.node (ob83 P) (.node (ob115 P) (.node (ob181 P) .nil .nil) .nil) (.node (ob149 P) .nil .nil)) (.node (ob99 P) (.node (ob133 P) (.node (ob197 P) .nil .nil) .nil) (.node (ob165 P) .nil .nil)))))) (.node (boot_o_2 P) (.node (boot_o_4 P) (.node (boot_o_8 P) (.node (ob52 P) (.node (ob68 P) (.node (ob102 P) (.node (ob168 P) .nil .nil) .nil) (.node (ob136 P) (.node (ob200 P) .nil .nil) .nil)) (.node (ob86 P) (.node (ob118 P) (.node (ob184 P) .nil .nil) .nil) (.node (ob152 P) .nil .nil))) (.node (ob60 P) (.node (ob78 P) (.node (ob110 P) (.node (ob176 P) .nil .nil) .nil) (.node (ob144 P) (.node (ob208 P) .nil .nil) .nil)) (.node (ob94 P) (.node (ob126 P) (.node (ob192 P) .nil .nil) .nil) (.node (ob160 P) .nil .nil)))) (.node (ob131 P) (.node (ob56 P) (.node (ob74 P) (.node (ob106 P) (.node (ob172 P) .nil .nil) .nil) (.node (ob140 P) (.node (ob204 P) .nil .nil) .nil)) (.node (ob90 P) (.node (ob122 P) (.node (ob188 P) .nil .nil) .nil) (.node (ob156 P) .nil .nil))) (.node (ob64 P) (.node (ob82 P) (.node (ob114 P) (.node (ob180 P) .nil .nil) .nil) (.node (ob148 P) .nil .nil)) (.node (ob98 P) (.node (ob132 P) (.node (ob196 P) .nil .nil) .nil) (.node (ob164 P) .nil .nil))))) (.node (boot_o_6 P) (.node (boot_o_10 P) (.node (ob54 P) (.node (ob70 P) (.node (ob104 P) (.node (ob170 P) .nil .nil) .nil) (.node (ob138 P) (.node (ob202 P) .nil .nil) .nil)) (.node (ob88 P) (.node (ob120 P) (.node (ob186 P) .nil .nil) .nil) (.node (ob154 P) .nil .nil))) (.node (ob62 P) (.node (ob80 P) (.node (ob112 P) (.node (ob178 P) .nil .nil) .nil) (.node (ob146 P) (.node (ob210 P) .nil .nil) .nil)) (.node (ob96 P) (.node (ob128 P) (.node (ob194 P) .nil .nil) .nil) (.node (ob162 P) .nil .nil)))) (.node (ob46 P) (.node (ob58 P) (.node (ob76 P) (.node (ob108 P) (.node (ob174 P) .nil .nil) .nil) (.node (ob142 P) (.node (ob206 P) .nil .nil) .nil)) (.node (ob92 P) (.node (ob124 P) (.node (ob190 P) .nil .nil) .nil) (.node (ob158 P) .nil .nil))) (.node (ob66 P) (.node (ob84 P) (.node (ob116 P) (.node (ob182 P) .nil .nil) .nil) (.node (ob150 P) .nil .nil)) (.node (ob100 P) (.node (ob134 P) (.node (ob198 P) .nil .nil) .nil) (.node (ob166 P) .nil .nil))))))
noncomputable def tr244 (P : Params) : BT := .node (boot_o_0 P) (.node (boot_o_1 P) (.node (ob212 P) (.node (boot_o_7 P) (.node (ob51 P) (.node (ob67 P) (.node (ob101 P) (.node (ob167 P) .nil .nil) (.node (ob233 P) .nil .nil)) (.node (ob135 P) (.node (ob199 P) .nil .nil) .nil)) (.node (ob85 P) (.node (ob117 P) (.node (ob183 P) .nil .nil) .nil) (.node (ob151 P) (.node (ob217 P) .nil .nil) .nil))) (.node (ob59 P) (.node (ob77 P) (.node (ob109 P) (.node (ob175 P) .nil .nil) (.node (ob241 P) .nil .nil)) (.node (ob143 P) (.node (ob207 P) .nil .nil) .nil)) (.node (ob93 P) (.node (ob125 P) (.node (ob191 P) .nil .nil) .nil) (.node (ob159 P) (.node (ob225 P) .nil .nil) .nil)))) (.node (ob43 P) (.node (ob55 P) (.node (ob71 P) (.node (ob105 P) (.node (ob171 P) .nil .nil) (.node (ob237 P) .nil .nil)) (.node (ob139 P) (.node (ob203 P) .nil .nil) .nil)) (.node (ob89 P) (.node (ob121 P) (.node (ob187 P) .nil .nil) .nil) (.node (ob155 P) (.node (ob221 P) .nil .nil) .nil))) (.node (ob63 P) (.node (ob81 P) (.node (ob113 P) (.node (ob179 P) .nil .nil) .nil) (.node (ob147 P) (.node (ob211 P) .nil .nil) .nil)) (.node (ob97 P) (.node (ob129 P) (.node (ob195 P) .nil .nil) .nil) (.node (ob163 P) (.node (ob229 P) .nil .nil) .nil))))) (.node (boot_o_5 P) (.node (boot_o_9 P) (.node (ob53 P) (.node (ob69 P) (.node (ob103 P) (.node (ob169 P) .nil .nil) (.node (ob235 P) .nil .nil)) (.node (ob137 P) (.node (ob201 P) .nil .nil) .nil)) (.node (ob87 P) (.node (ob119 P) (.node (ob185 P) .nil .nil) .nil) (.node (ob153 P) (.node (ob219 P) .nil .nil) .nil))) (.node (ob61 P) (.node (ob79 P) (.node (ob111 P) (.node (ob177 P) .nil .nil) (.node (ob243 P) .nil .nil)) (.node (ob145 P) (.node (ob209 P) .nil .nil) .nil)) (.node (ob95 P) (.node (ob127 P) (.node (ob193 P) .nil .nil) .nil) (.node (ob161 P) (.node (ob227 P) .nil .nil) .nil)))) (.node (ob45 P) (.node (ob57 P) (.node (ob75 P) (.node (ob107 P) (.node (ob173 P) .nil .nil) (.node (ob239 P) .nil .nil)) (.node (ob141 P) (.node (ob205 P) .nil .nil) .nil)) (.node (ob91 P) (.node (ob123 P) (.node (ob189 P) .nil .nil) .nil) (.node (ob157 P) (.node (ob223 P) .nil .nil) .nil))) (.node (ob65 P) (.node (ob83 P) (.node (ob115 P) (.node (ob181 P) .nil .nil) .nil) (.node (ob149 P) (.node (ob215 P) .nil .nil) .nil)) (.node (ob99 P) (.node (ob133 P) (.node (ob197 P) .nil .nil) .nil) (.node (ob165 P) (.node (ob231 P) .nil .nil) .nil)))))) (.node (boot_o_2 P) (.node (boot_o_4 P) (.node (boot_o_8 P) (.node (ob52 P) (.node (ob68 P) (.node (ob102 P) (.node (ob168 P) .nil .nil) (.node (ob234 P) .nil .nil)) (.node (ob136 P) (.node (ob200 P) .nil .nil) .nil)) (.node (ob86 P) (.node (ob118 P) (.node (ob184 P) .nil .nil) .nil) (.node (ob152 P) (.node (ob218 P) .nil .nil) .nil))) (.node (ob60 P) (.node (ob78 P) (.node (ob110 P) (.node (ob176 P) .nil .nil) (.node (ob242 P) .nil .nil)) (.node (ob144 P) (.node (ob208 P) .nil .nil) .nil)) (.node (ob94 P) (.node (ob126 P) (.node (ob192 P) .nil .nil) .nil) (.node (ob160 P) (.node (ob226 P) .nil .nil) .nil)))) (.node (ob213 P) (.node (ob56 P) (.node (ob74 P) (.node (ob106 P) (.node (ob172 P) .nil .nil) (.node (ob238 P) .nil .nil)) (.node (ob140 P) (.node (ob204 P) .nil .nil) .nil)) (.node (ob90 P) (.node (ob122 P) (.node (ob188 P) .nil .nil) .nil) (.node (ob156 P) (.node (ob222 P) .nil .nil) .nil))) (.node (ob64 P) (.node (ob82 P) (.node (ob114 P) (.node (ob180 P) .nil .nil) .nil) (.node (ob148 P) (.node (ob214 P) .nil .nil) .nil)) (.node (ob98 P) (.node (ob132 P) (.node (ob196 P) .nil .nil) .nil) (.node (ob164 P) (.node (ob230 P) .nil .nil) .nil))))) (.node (boot_o_6 P) (.node (boot_o_10 P) (.node (ob54 P) (.node (ob70 P) (.node (ob104 P) (.node (ob170 P) .nil .nil) (.node (ob236 P) .nil .nil)) (.node (ob138 P) (.node (ob202 P) .nil .nil) .nil)) (.node (ob88 P) (.node (ob120 P) (.node (ob186 P) .nil .nil) .nil) (.node (ob154 P) (.node (ob220 P) .nil .nil) .nil))) (.node (ob62 P) (.node (ob80 P) (.node (ob112 P) (.node (ob178 P) .nil .nil) (.node (ob244 P) .nil .nil)) (.node (ob146 P) (.node (ob210 P) .nil .nil) .nil)) (.node (ob96 P) (.node (ob128 P) (.node (ob194 P) .nil .nil) .nil) (.node (ob162 P) (.node (ob228 P) .nil .nil) .nil)))) (.node (ob46 P) (.node (ob58 P) (.node (ob76 P) (.node (ob108 P) (.node (ob174 P) .nil .nil) (.node (ob240 P) .nil .nil)) (.node (ob142 P) (.node (ob206 P) .nil .nil) .nil)) (.node (ob92 P) (.node (ob124 P) (.node (ob190 P) .nil .nil) .nil) (.node (ob158 P) (.node (ob224 P) .nil .nil) .nil))) (.node (ob66 P) (.node (ob84 P) (.node (ob116 P) (.node (ob182 P) .nil .nil) .nil) (.node (ob150 P) (.node (ob216 P) .nil .nil) .nil)) (.node (ob100 P) (.node (ob134 P) (.node (ob198 P) .nil .nil) .nil) (.node (ob166 P) (.node (ob232 P) .nil .nil) .nil))))))
noncomputable def hA (P : Params) : Heap := { objs := { toList := [boot_o_0 P, boot_o_1 P, boot_o_2 P, boot_o_3 P, boot_o_4 P, boot_o_5 P, boot_o_6 P, boot_o_7 P, boot_o_8 P, boot_o_9 P, boot_o_10 P, ob43 P, ob44 P, ob45 P, ob46 P] } }
noncomputable def hZ (P : Params) : Heap := { objs := { toList := [boot_o_0 P, boot_o_1 P, boot_o_2 P, ob212 P, boot_o_4 P, boot_o_5 P, boot_o_6 P, boot_o_7 P, boot_o_8 P, boot_o_9 P, boot_o_10 P, ob43 P, ob213 P, ob45 P, ob46 P, ob51 P, ob52 P, ob53 P, ob54 P, ob55 P, ob56 P, ob57 P, ob58 P, ob59 P, ob60 P, ob61 P, ob62 P, ob63 P, ob64 P, ob65 P, ob66 P, ob67 P, ob68 P, ob69 P, ob70 P, ob71 P, ob74 P, ob75 P, ob76 P, ob77 P, ob78 P, ob79 P, ob80 P, ob81 P, ob82 P, ob83 P, ob84 P, ob85 P, ob86 P, ob87 P, ob88 P, ob89 P, ob90 P, ob91 P, ob92 P, ob93 P, ob94 P, ob95 P, ob96 P, ob97 P, ob98 P, ob99 P, ob100 P, ob101 P, ob102 P, ob103 P, ob104 P, ob105 P, ob106 P, ob107 P, ob108 P, ob109 P, ob110 P, ob111 P, ob112 P, ob113 P, ob114 P, ob115 P, ob116 P, ob117 P, ob118 P, ob119 P, ob120 P, ob121 P, ob122 P, ob123 P, ob124 P, ob125 P, ob126 P, ob127 P, ob128 P, ob129 P, ob132 P, ob133 P, ob134 P, ob135 P, ob136 P, ob137 P, ob138 P, ob139 P, ob140 P, ob141 P, ob142 P, ob143 P, ob144 P, ob145 P, ob146 P, ob147 P, ob148 P, ob149 P, ob150 P, ob151 P, ob152 P, ob153 P, ob154 P, ob155 P, ob156 P, ob157 P, ob158 P, ob159 P, ob160 P, ob161 P, ob162 P, ob163 P, ob164 P, ob165 P, ob166 P, ob167 P, ob168 P, ob169 P, ob170 P, ob171 P, ob172 P, ob173 P, ob174 P, ob175 P, ob176 P, ob177 P, ob178 P, ob179 P, ob180 P, ob181 P, ob182 P, ob183 P, ob184 P, ob185 P, ob186 P, ob187 P, ob188 P, ob189 P, ob190 P, ob191 P, ob192 P, ob193 P, ob194 P, ob195 P, ob196 P, ob197 P, ob198 P, ob199 P, ob200 P, ob201 P, ob202 P, ob203 P, ob204 P, ob205 P, ob206 P, ob207 P, ob208 P, ob209 P, ob210 P, ob211 P, ob214 P, ob215 P, ob216 P, ob217 P, ob218 P, ob219 P, ob220 P, ob221 P, ob222 P, ob223 P, ob224 P, ob225 P, ob226 P, ob227 P, ob228 P, ob229 P, ob230 P, ob231 P, ob232 P, ob233 P, ob234 P, ob235 P, ob236 P, ob237 P, ob238 P, ob239 P, ob240 P, ob241 P, ob242 P, ob243 P, ob244 P] } }
noncomputable def KH (P : Params) : Frag := [(3, ob212 P), (20, ob56 P), (21, ob57 P), (27, ob63 P), (28, ob64 P), (34, ob70 P), (35, ob71 P), (48, ob86 P), (49, ob87 P), (55, ob93 P), (56, ob94 P), (62, ob100 P), (63, ob101 P), (69, ob107 P), (70, ob108 P), (72, ob110 P), (73, ob111 P), (83, ob121 P), (84, ob122 P), (90, ob128 P), (91, ob129 P), (97, ob137 P), (98, ob138 P), (104, ob144 P), (105, ob145 P), (111, ob151 P), (112, ob152 P), (118, ob158 P), (119, ob159 P), (125, ob165 P), (126, ob166 P), (130, ob170 P), (131, ob171 P), (137, ob177 P), (138, ob178 P), (144, ob184 P), (145, ob185 P), (149, ob189 P), (150, ob190 P), (156, ob196 P), (157, ob197 P), (163, ob203 P), (164, ob204 P), (170, ob210 P), (171, ob211 P), (175, ob217 P), (176, ob218 P), (182, ob224 P), (183, ob225 P), (187, ob229 P), (188, ob230 P), (194, ob236 P), (195, ob237 P)]
noncomputable def KA : List Addr := [3, 20, 21, 27, 28, 34, 35, 48, 49, 55, 56, 62, 63, 69, 70, 72, 73, 83, 84, 90, 91, 97, 98, 104, 105, 111, 112, 118, 119, 125, 126, 130, 131, 137, 138, 144, 145, 149, 150, 156, 157, 163, 164, 170, 171, 175, 176, 182, 183, 187, 188, 194, 195]
noncomputable def kHk : Hook := kHook KH KA fun _ => rfl
noncomputable abbrev bdy : List Stmt := behindTheImports pw
noncomputable def eV : Env := { scope := pw.main.scope, locals := mainNs, globals := mainNs, cells := [], code := .ref 13, frame := some 14 }
noncomputable abbrev cdV : Code := .body bdy eV
noncomputable abbrev fr0 : List Frame := [topFrame { line := 0, col := 0, endLine := 0, endCol := 0 }]
noncomputable abbrev st1 : List Stmt := pw.main.body.take 5
noncomputable abbrev st2 : List Stmt := (pw.main.body.drop 5).take 3
noncomputable abbrev st3 : List Stmt := (pw.main.body.drop 8).take 13
noncomputable abbrev st4 : List Stmt := (pw.main.body.drop 21).take 5
noncomputable abbrev sT (T : BT) (n k : Nat) (os : OsState) : SharedT := { tree := T, n := n, life := {}, gens := #[], drawn := {}, toks := k, os := os }
theorem bdy_eq : bdy = st1 ++ (st2 ++ (st3 ++ (st4 ++ []))) := by kernel_rfl
theorem pre0 (w : World) : (fun os => topGo treeTable pw w 11 (some (.ref 6)) 12 ⟨boot_heap w.params, #[], boot_drawn, boot_toks, os⟩ (topStub pw)) = fun os => some (⟨hA w.params, #[], {}, 187, os⟩, ⟨denote treeTable cdV, cdV, ⟨0, 0, 0, 0⟩, fr0⟩) := by kernel_rfl
theorem blk0 (w : World) : (fun os => segRun treeTable pw w 11 (some (.ref 6)) 1 1 ⟨hA w.params, #[], {}, 187, os⟩ (blockOf bdy eV cdV ⟨0, 0, 0, 0⟩ fr0)) = fun os => some (.next, (sT (tr47 w.params) 15 187 os).abs, cdV, ⟨0, 0, 0, 0⟩) := by kernel_rfl
theorem seg1 (w : World) : (fun os => segRunT treeTable pw w 11 (some (.ref 6)) 1 111 (sT (tr47 w.params) 15 187 os) (piecesOf st1 eV cdV ⟨0, 0, 0, 0⟩ fr0)) = fun os => some (.next, sT (tr71 w.params) 36 217 os, cdV, ⟨11, 0, 15, 29⟩) := by kernel_rfl
theorem seg2 (w : World) : (fun os => segRunT treeTable pw w 11 (some (.ref 6)) 1 395 (sT (tr71 w.params) 36 217 os) (piecesOf st2 eV cdV ⟨11, 0, 15, 29⟩ fr0)) = fun os => some (.next, sT (tr129 w.params) 92 302 os, cdV, ⟨56, 0, 65, 16⟩) := by kernel_rfl
theorem seg3 (w : World) : (fun os => segRunT treeTable pw w 11 (some (.ref 6)) 1 399 (sT (tr129 w.params) 92 302 os) (piecesOf st3 eV cdV ⟨56, 0, 65, 16⟩ fr0)) = fun os => some (.next, sT (tr211 w.params) 172 433 os, cdV, ⟨192, 0, 197, 66⟩) := by kernel_rfl
theorem seg4 (w : World) : (fun os => segRunT treeTable pw w 11 (some (.ref 6)) 1 161 (sT (tr211 w.params) 172 433 os) (piecesOf st4 eV cdV ⟨192, 0, 197, 66⟩ fr0)) = fun os => some (.next, sT (tr244 w.params) 203 487 os, cdV, ⟨229, 0, 251, 116⟩) := by kernel_rfl
theorem fin0 (w : World) : (fun os => topRun treeTable pw w 11 (some (.ref 6)) 2 (sT (tr244 w.params) 203 487 os).abs ⟨doneF .next, cdV, ⟨229, 0, 251, 116⟩, fr0⟩) = fun os => some ⟨hZ w.params, #[], {}, 487, os⟩ := by kernel_rfl
theorem run0 (w : World) (os : OsState) : topRun treeTable pw w 11 (some (.ref 6)) (12 + (1 + (111 + (395 + (399 + (161 + 2)))))) ⟨boot_heap w.params, #[], boot_drawn, boot_toks, os⟩ (topStub pw) = some ⟨hZ w.params, #[], {}, 487, os⟩ := by
  refine go_top (congrFun (pre0 w) os) (piece_block (congrFun (blk0 w) os) ?_)
  rw [bdy_eq]
  exact piece_app (segRun_of (congrFun (seg1 w) os)) (piece_app (segRun_of (congrFun (seg2 w) os)) (piece_app (segRun_of (congrFun (seg3 w) os)) (piece_app (segRun_of (congrFun (seg4 w) os)) (piece_nil (congrFun (fin0 w) os)))))
theorem size0 (w : World) : ((boot_heap w.params).isNs mainGlobals && (#[] : Array GenState).size == 0, (boot_heap w.params).objs.size, (boot_heap w.params).nsMap mainGlobals "__annotations__") = (true, 11, some (.ref 6)) := by kernel_rfl
noncomputable abbrev xT : Shared → Bool := fun s => xlAt vw [] s && recOk (RowW.records RR) s
theorem look1 (ms : List Str) (e : ms = []) (w : World) : (fun os : OsState => staticsOk ms (boot_heap w.params) (hZ w.params) && namesBound pw (hZ w.params) && gensDone ⟨hZ w.params, #[], {}, 487, os⟩ && laidKept (boot_heap w.params) (hZ w.params)) = fun _ => true := by
  subst e; kernel_rfl
theorem look2 (ms : List Str) (e : ms = []) (w : World) : (fun os : OsState => openSeen vw [] ms xT true ⟨hZ w.params, #[], {}, 487, os⟩) = fun _ => openGood vw [] := by
  subst e; kernel_rfl
theorem look3 (w : World) : (fun os : OsState => kHk.obs ⟨hZ w.params, #[], {}, 487, os⟩) = fun _ => kHk.val w := by kernel_rfl
theorem open0 : ∀ w : World, (fencedOpening treeTable pw w 2250).map (fun s => (s.heap, s.gens, s.drawn, s.toks)) = some (boot_heap w.params, #[], boot_drawn, boot_toks) := boot_open (p := pw) (N := 2250) (by kernel_rfl) (by kernel_rfl) (fun s => by kernel_rfl)
theorem left : LeftO pw vw [] xT kHk.obs kHk.val 2250 :=
  LeftO.of_pieces open0 size0 run0 (by kernel_rfl) fun w => funext fun os => Prod.ext (congrFun (look1 _ (by kernel_rfl) w) os) (Prod.ext (congrFun (look2 _ (by kernel_rfl) w) os) (congrFun (look3 w) os))
/-! posts as variables -/
section
variable {M : Model} {A : Around} {E : Value → Shared → Prop} {env : Env} {s : Shared} {Q R : Flow → Shared → Prop}
/-- what a statement's post owes to the statements behind it -/
noncomputable def Ct (M : Model) (A : Around) (E : Value → Shared → Prop) (env : Env) (rest : List Stmt) (Q R : Flow → Shared → Prop) : Prop :=
  (∀ s, wpAny M A (execs rest env) Q E s → R .next s) ∧ (∀ v s, Q (.ret v) s → R (.ret v) s) ∧ ∀ s, Q .brk s → R .brk s
theorem execs_ct {st : Stmt} {rest : List Stmt} (h : ∀ R, Ct M A E env rest Q R → wpAny M A (exec st env) R E s) : wpAny M A (execs (st :: rest) env) Q E s :=
  wpAny_execs_cons (h _ ⟨fun _ q => q, fun _ _ q => q, fun _ q => q⟩)
theorem ct_next {rest : List Stmt} (c : Ct M A E env rest Q R) (q : wpAny M A (execs rest env) Q E s) : R .next s := c.1 s q
theorem ct_ret {rest : List Stmt} {v : Value} (c : Ct M A E env rest Q R) (q : Q (.ret v) s) : R (.ret v) s := c.2.1 v s q
theorem ct_brk {rest : List Stmt} (c : Ct M A E env rest Q R) (q : Q .brk s) : R .brk s := c.2.2 s q
noncomputable def Fin_ (Q : Value → Shared → Prop) (R : Flow → Shared → Prop) : Prop := (∀ v s, Q v s → R (.ret v) s) ∧ ∀ s, Q .none s → R .next s
theorem fin_q (Q : Value → Shared → Prop) : Fin_ Q (fun fl s' => Q (match fl with | .ret v => v | _ => .none) s') := ⟨fun _ _ q => q, fun _ q => q⟩
theorem fin_ret {Q : Value → Shared → Prop} {v : Value} (c : Fin_ Q R) (q : Q v s) : R (.ret v) s := c.1 v s q
theorem fin_next {Q : Value → Shared → Prop} (c : Fin_ Q R) (q : Q .none s) : R .next s := c.2 s q
noncomputable def Lt_ (base : Heap) (g : Array GenState) (dr : Drawn) (os : OsState) (W : List Addr) (h : Heap) (J : Heap → Prop) (Q R : Flow → Shared → Prop) : Prop :=
  (∀ h' t', Ext base W h h' → J h' → R .next ⟨h', g, dr, t', os⟩) ∧ (∀ s, Q .next s → R .brk s) ∧ ∀ v s, Q (.ret v) s → R (.ret v) s
noncomputable def Wt_ (g : Array GenState) (dr : Drawn) (os : OsState) (n : Nat) (I : Nat → Heap → Prop) (Q R : Flow → Shared → Prop) : Prop :=
  (∀ m h' t', m < n → I m h' → R .next ⟨h', g, dr, t', os⟩) ∧ (∀ s, Q .next s → R .brk s) ∧ ∀ v s, Q (.ret v) s → R (.ret v) s
section
variable {base h h' : Heap} {g : Array GenState} {dr : Drawn} {os : OsState} {W : List Addr} {J : Heap → Prop} {n m : Nat} {I : Nat → Heap → Prop} {t' : Nat}
theorem lt_brk (c : Lt_ base g dr os W h J Q R) (q : Q .next s) : R .brk s := c.2.1 s q
theorem lt_ret {v : Value} (c : Lt_ base g dr os W h J Q R) (q : Q (.ret v) s) : R (.ret v) s := c.2.2 v s q
theorem for_next (c : Lt_ base g dr os W h J Q R) (X : Ext base W h h') (j : J h') : R .next ⟨h', g, dr, t', os⟩ := c.1 _ _ X j
theorem wt_brk (c : Wt_ g dr os n I Q R) (q : Q .next s) : R .brk s := c.2.1 s q
theorem wt_ret {v : Value} (c : Wt_ g dr os n I Q R) (q : Q (.ret v) s) : R (.ret v) s := c.2.2 v s q
theorem whl_next (c : Wt_ g dr os n I Q R) (hm : m < n) (j : I m h) : R .next ⟨h, g, dr, t', os⟩ := c.1 _ _ _ hm j
end
end
-- part L1
/-! what the top holds -/
structure FnIs (b : Heap) (a : Addr) (q : Str) (D : Dn) : Prop where
  is : ∃ o pm cd doc, b.get? a = some o ∧ o.data = .func { name := D.name, qualname := q, params := D.params, body := .stmts D.body, scope := D.scope, globals := mainGlobals, closure := [], defaults := .none, kwdefaults := .none, doc := doc, pyModule := pm, code := cd, builtins := builtinsNs } ∧ b.CodeRec cd q
structure Ok (A : Around) (k : Nat) : Prop where
  hh : A.handled = none
  dp : A.depth + k + 1 < recursionLimit
  un : A.units + 10 * k + 30 < cLine
  gd : A.guards = some []
  fr : ∃ l, A.frames = some l
theorem Ok.deeper {A : Around} {k : Nat} (x : Ok A (k + 1)) (env : Env) : Ok (A.deeper env) k where
  hh := x.hh
  dp := by have := x.dp; simp only [Around.deeper]; omega
  un := by have := x.un; simp only [Around.deeper]; omega
  gd := x.gd
  fr := let ⟨l, e⟩ := x.fr; ⟨env :: l, by simp only [Around.deeper, e]; rfl⟩
theorem Ok.less {A : Around} {k j : Nat} (x : Ok A k) (h : j ≤ k) : Ok A j where
  hh := x.hh
  dp := by have := x.dp; omega
  un := by have := x.un; omega
  gd := x.gd
  fr := x.fr
theorem Ok.room {A : Around} {k : Nat} (x : Ok A k) : A.depth < recursionLimit := by have := x.dp; omega
section
variable {w : World} {A : Around} {k : Nat} {base h : Heap} {g : Array GenState} {dr : Drawn} {t : Nat} {os : OsState}
structure On (base h : Heap) : Prop where
  keep : ∀ b o, base.get? b = some o → h.get? b = some o
  size : base.objs.size ≤ h.objs.size
theorem on_of {L : Addr} {m} (F : Fr base L h m) : On base h := ⟨F.keep, Nat.le_trans F.above (Nat.le_of_lt F.ns.lt)⟩
theorem On.ext {W h'} (x : On base h) (X : Ext base W h h') (hz : h.objs.size ≤ h'.objs.size) : On base h' where
  keep := fun b o e => by
    obtain ⟨o', e', r⟩ := X b o (x.keep b o e)
    rw [e', r (.inr (.inr (by rw [e]; rfl)))]
  size := Nat.le_trans x.size hz
theorem call_fn {f : Addr} {q : Str} {D : Dn} {args : List Value} {binds : List (Str × Value)} {Q : Value → Shared → Prop}
    (hA : Ok A (k + 1)) (hf : FnIs base f q D) (hn : base.NoLimit) (hO : On base h)
    (hb : ∀ pm cd doc, bindArgs { name := D.name, qualname := q, params := D.params, body := .stmts D.body, scope := D.scope, globals := mainGlobals, closure := [], defaults := .none, kwdefaults := .none, doc := doc, pyModule := pm, code := cd, builtins := builtinsNs } ⟨args, []⟩ = pure binds)
    (hcell : (D.scope.names.all fun x => decide (x.2 ≠ .cell)) = true) (hloc : (binds.all fun x => decide (D.scope.names.lookup x.1 = some .local)) = true)
    (hsc : D.scope.isCoroutine = false ∧ D.scope.isGenerator = false ∧ D.scope.kind = .function)
    (body : ∀ R cd h₁ t₁ A₁, Fin_ Q R → Ok A₁ k → Fr base h.objs.size h₁ (fun x => binds.reverse.lookup x) → Ext base [] h h₁ →
      wpAny (model pw w) A₁ (execs D.body (envOf q D.scope h.objs.size f cd)) R NoE ⟨h₁, g, dr, t₁, os⟩) :
    wpAny (model pw w) A (call (.ref f) args) Q NoE ⟨h, g, dr, t, os⟩ := by
  obtain ⟨o, pm, cd, doc, ho, hd, hc⟩ := hf.is
  refine wpAny_call (codeAny_call_def (s := ⟨h, g, dr, t, os⟩) hA.room (hO.keep _ _ ho) hd (hn.keeps hO.keep) (hc.keeps hO.keep) rfl (BindsTo.of_eq (hb pm cd doc)) ?_ ?_ ?_ hsc.1 hsc.2.1 hsc.2.2)
  · intro x hx; exact of_decide_eq_true (List.all_eq_true.mp hcell x hx)
  · exact locs hloc
  · intro h₁ hns hk₁
    refine wpAny_mono (body _ cd h₁ _ _ (fin_q Q) (hA.deeper _) ⟨hns, fun b o e => hk₁ b o (hO.keep b o e), hO.size⟩ (.of_keeps hk₁)) (fun fl s' x => x) (fun _ _ x => x.elim)
/-! steps in the layer's own words -/
section
variable {E : Value → Shared → Prop} {W : List Addr} {L : Addr} {m : Str → Option Value}
theorem str_beq (x y : Str) : (x.cps.toList == y.cps.toList) = decide (x = y) := by
  by_cases h : x = y
  · subst h; simp
  · rw [decide_eq_false h]
    refine beq_eq_false_iff_ne.mpr fun hl => h ?_
    cases x; cases y
    simp only [Str.mk.injEq]
    exact Array.toList_inj.mp hl
theorem eq_dec {x y : Str} {t₁ u₁ : Tok} {Q : Value → Shared → Prop} {s : Shared} (h : Q (.bool (decide (x = y))) s) : wpAny (model pw w) A (compareOp .Eq (.str x t₁) (.str y u₁)) Q E s :=
  PySem.P.eq_str (by rw [str_beq]; exact h)
theorem eq_tt {x : Str} {t₁ u₁ : Tok} {Q : Value → Shared → Prop} {s : Shared} (h : Q (.bool true) s) : wpAny (model pw w) A (compareOp .Eq (.str x t₁) (.str x u₁)) Q E s :=
  eq_dec (by simpa using h)
theorem eq_ff {x y : Str} {t₁ u₁ : Tok} {Q : Value → Shared → Prop} {s : Shared} (hne : ¬ x = y) (h : Q (.bool false) s) : wpAny (model pw w) A (compareOp .Eq (.str x t₁) (.str y u₁)) Q E s :=
  eq_dec (by rw [decide_eq_false hne]; exact h)
theorem ite_t {P R : Prop} (h : P) : if true = true then P else R := by simpa using h
theorem ite_f {P R : Prop} (h : R) : if false = true then P else R := by simpa using h
theorem ite_s {b : Bool} {P R : Prop} (h1 : b = true → P) (h2 : b = false → R) : if b = true then P else R := by
  cases b
  · exact ite_f (h2 rfl)
  · exact ite_t (h1 rfl)
theorem tup_item {value slice : Expr} {a : Addr} {vs : List Value} {i : Int} {u : Tok} {j : Nat} {v : Value} {Q : Value → Shared → Prop} (ht : Tp h a vs) (hj : seqIndex? i vs.length = some j) (hx : vs[j]? = some v)
    (hQ : Q v ⟨h, g, dr, t, os⟩) (h0 : decide (-(2 ^ 63) ≤ i ∧ i < 2 ^ 63) = true := by decide)
    (hs : subscripted slice false (.ref a) (.int i u) = operate [.ref a, .int i u] (getItem (.ref a) (.int i u)) := by with_unfolding_all rfl) :
    wpAny (model pw w) A (subscriptTail value slice (.ref a) (.int i u)) Q E ⟨h, g, dr, t, os⟩ :=
  item_tupleT (tp_tup ht) (of_decide_eq_true h0).1 (of_decide_eq_true h0).2 hj hx hQ hs
theorem seqIndex_nat {n i : Nat} (hi : i < n) : seqIndex? (i : Int) n = some i := by
  unfold seqIndex?
  have h0 : ¬ ((i : Int) < 0) := by omega
  simp only [h0, if_false]
  rw [if_pos (by simp only [Bool.and_eq_true, decide_eq_true_eq]; omega)]
  simp
theorem tup_at {value : Expr} {a : Addr} {vs : List Value} {i : Nat} {kk : Nat} {u : Tok} {pos : Pos} {v : Value} {Q : Value → Shared → Prop} (ht : Tp h a vs) (hx : vs[i]? = some v)
    (hQ : Q v ⟨h, g, dr, t, os⟩) (hi : i < 1000000) :
    wpAny (model pw w) A (subscriptTail value (.Constant (.int (i : Nat)) kk pos) (.ref a) (.int (i : Nat) u)) Q E ⟨h, g, dr, t, os⟩ :=
  item_tupleT (tp_tup ht) (by omega) (by omega) (seqIndex_nat (by rcases Nat.lt_or_ge i vs.length with h | h; exact h; simp [List.getElem?_eq_none h] at hx)) hx hQ (by with_unfolding_all rfl)
theorem tup_at0 {value : Expr} {a : Addr} {v : Value} {vs : List Value} {kk : Nat} {u : Tok} {pos : Pos} {Q : Value → Shared → Prop} (ht : Tp h a (v :: vs))
    (hQ : Q v ⟨h, g, dr, t, os⟩) :
    wpAny (model pw w) A (subscriptTail value (.Constant (.int 0) kk pos) (.ref a) (.int 0 u)) Q E ⟨h, g, dr, t, os⟩ := tup_at (i := 0) ht rfl hQ (by omega)
theorem tup_at1 {value : Expr} {a : Addr} {v v₀ : Value} {vs : List Value} {kk : Nat} {u : Tok} {pos : Pos} {Q : Value → Shared → Prop} (ht : Tp h a (v₀ :: v :: vs))
    (hQ : Q v ⟨h, g, dr, t, os⟩) :
    wpAny (model pw w) A (subscriptTail value (.Constant (.int 1) kk pos) (.ref a) (.int 1 u)) Q E ⟨h, g, dr, t, os⟩ := tup_at (i := 1) ht rfl hQ (by omega)
theorem dict_in {d : Addr} {x : Str} {u : Tok} {kvs : List (Str × Value)} {Q : Value → Shared → Prop} (hd : Dc w base h d kvs)
    (hQ : ∀ t', Q (.bool (valueAt kvs x).isSome) ⟨h, g, dr, t', os⟩) : wpAny (model pw w) A (compareOp .In (.str x u) (.ref d)) Q E ⟨h, g, dr, t, os⟩ :=
  wpAny_in_of (strKind_is pw w x u) hd.2.1 hd.2.2.mapOf (hQ _)
theorem dict_notIn {d : Addr} {x : Str} {u : Tok} {kvs : List (Str × Value)} {Q : Value → Shared → Prop} (hd : Dc w base h d kvs)
    (hQ : ∀ t', Q (.bool (!(valueAt kvs x).isSome)) ⟨h, g, dr, t', os⟩) : wpAny (model pw w) A (compareOp .NotIn (.str x u) (.ref d)) Q E ⟨h, g, dr, t, os⟩ :=
  wpAny_notIn_of (strKind_is pw w x u) hd.2.1 hd.2.2.mapOf (hQ _)
theorem const_int {i : Int} {kk : Nat} {pos : Pos} {env : Env} {Q : Value → Shared → Prop} (hQ : ∀ t', Q (.int i t) ⟨h, g, dr, t', os⟩) : wpAny (model pw w) A (eval (.Constant (.int i) kk pos) env) Q E ⟨h, g, dr, t, os⟩ :=
  wpAny_Constant_int (hQ _)
theorem const_str {i : Str} {kk : Nat} {pos : Pos} {env : Env} {Q : Value → Shared → Prop} (hQ : ∀ u t', Q (.str i u) ⟨h, g, dr, t', os⟩) : wpAny (model pw w) A (eval (.Constant (.str i) kk pos) env) Q E ⟨h, g, dr, t, os⟩ :=
  wpAny_Constant_str (hQ _ _)
end
end
-- part L2
noncomputable def defIx : List Nat := [2, 3, 4, 6, 7, 8, 9, 10, 11, 12, 13, 14, 15, 16, 17, 19, 20, 21, 22, 23, 24]
noncomputable def biNames : List (Str × Value) := [("len", .builtin "len"), ("sorted", .builtin "sorted"), ("dict", .type "dict"), ("list", .type "list"), ("tuple", .type "tuple"), ("str", .type "str"), ("abs", .builtin "abs"), ("range", .type "range"), ("reversed", .type "reversed")]
noncomputable def fieldNames : List Str := ["start", "order", "table", "empty", "firsts", "follows"]
structure Bs (w : World) (base : Heap) where
  mg : Str → Option Value
  mb : Str → Option Value
  g : base.Ns mainGlobals mg
  b : base.Ns builtinsNs mb
  nolim : base.NoLimit
  K : Frag
  X : K.In base
  f : Nat → Addr
  fn : ∀ i ∈ defIx, FnIs base (f i) (dn i).name (dn i) ∧ mg (dn i).name = some (.ref (f i)) ∧ keepIn K (.ref (f i)) = true
  cls : Addr
  gcls : mg (Str.ofString "Grammar") = some (.ref cls)
  ct : Tok
  gend : mg (Str.ofString "END") = some (.str (Str.ofString "eof") ct)
  bi : ∀ p ∈ biNames, mg p.1 = none ∧ mb p.1 = some p.2
  m : Nat → Addr
  mq : ∀ i ∈ [0, 1, 2, 3], FnIs base (m i) ("Grammar." ++ (mt i).name) (mt i) ∧ findIn K (.ref cls) (mt i).name = some (some (.ref (m i))) ∧ isFn K (.ref (m i)) = true ∧ keepIn K (.ref (m i)) = true
  makes : makesIn K cls = true
  plain : plainGet K cls (Str.ofString "x") = true
  hasD : hasDictIn K cls = true
  setA : findIn K (.ref cls) "__setattr__" = some (some (.builtin "object.__setattr__"))
  over : plainOver K cls = true
  keepC : keepIn K (.ref cls) = true
  fld : ∀ n ∈ fieldNames, findIn K (.ref cls) n = some none ∧ takerIn K cls n = some none
section
variable {w : World} {base : Heap} (C : Bs w base)
theorem g_token_of : C.mg (Str.ofString "token_of") = some (.ref (C.f 2)) := (C.fn 2 (by decide)).2.1
theorem g_is_token : C.mg (Str.ofString "is_token") = some (.ref (C.f 3)) := (C.fn 3 (by decide)).2.1
theorem g_merge : C.mg (Str.ofString "merge") = some (.ref (C.f 4)) := (C.fn 4 (by decide)).2.1
theorem g_may : C.mg (Str.ofString "may_be_empty") = some (.ref (C.f 6)) := (C.fn 6 (by decide)).2.1
theorem g_empty_rules : C.mg (Str.ofString "empty_rules") = some (.ref (C.f 7)) := (C.fn 7 (by decide)).2.1
theorem g_first_of : C.mg (Str.ofString "first_of") = some (.ref (C.f 8)) := (C.fn 8 (by decide)).2.1
theorem g_first_rows : C.mg (Str.ofString "first_rows") = some (.ref (C.f 9)) := (C.fn 9 (by decide)).2.1
theorem g_follow_rows : C.mg (Str.ofString "follow_rows") = some (.ref (C.f 10)) := (C.fn 10 (by decide)).2.1
theorem g_add_follows : C.mg (Str.ofString "add_follows") = some (.ref (C.f 11)) := (C.fn 11 (by decide)).2.1
theorem g_parts : C.mg (Str.ofString "parts") = some (.ref (C.f 12)) := (C.fn 12 (by decide)).2.1
theorem g_shared : C.mg (Str.ofString "shared") = some (.ref (C.f 13)) := (C.fn 13 (by decide)).2.1
theorem g_conflicts : C.mg (Str.ofString "conflicts") = some (.ref (C.f 14)) := (C.fn 14 (by decide)).2.1
theorem g_find_conflicts : C.mg (Str.ofString "find_conflicts") = some (.ref (C.f 15)) := (C.fn 15 (by decide)).2.1
theorem g_add_alternatives : C.mg (Str.ofString "add_alternatives") = some (.ref (C.f 16)) := (C.fn 16 (by decide)).2.1
theorem g_ilr : C.mg (Str.ofString "is_left_recursive") = some (.ref (C.f 17)) := (C.fn 17 (by decide)).2.1
theorem g_fetch : C.mg (Str.ofString "_law_fetch") = some (.ref (C.f 19)) := (C.fn 19 (by decide)).2.1
theorem g_piece : C.mg (Str.ofString "_law_piece") = some (.ref (C.f 20)) := (C.fn 20 (by decide)).2.1
theorem g_rules : C.mg (Str.ofString "_law_rules") = some (.ref (C.f 21)) := (C.fn 21 (by decide)).2.1
theorem g_hollow : C.mg (Str.ofString "_law_hollow") = some (.ref (C.f 22)) := (C.fn 22 (by decide)).2.1
theorem g_hollows : C.mg (Str.ofString "_law_hollows") = some (.ref (C.f 23)) := (C.fn 23 (by decide)).2.1
theorem g_lefts : C.mg (Str.ofString "_law_lefts") = some (.ref (C.f 24)) := (C.fn 24 (by decide)).2.1
end
section
variable {w : World} {base : Heap} {M : Model} {A : Around} {E : Value → Shared → Prop} {s : Shared} {nm : Str} {sc : Scope} {L a : Addr} {cd : Value} {m : Str → Option Value}
theorem ldl {x : Str} {pos : Pos} {v : Value} {Q : Value → Shared → Prop} (F : Fr base L s.heap m) (hv : m x = some v) (hk : sc.kind = .function) (hl : (envOf nm sc L a cd).kindOf x = some .local)
    (hd : (x == ("__debug__" : Str)) = false) (h : Q v s) : wpAny M A (eval (.Name x pos) (envOf nm sc L a cd)) Q E s := ld F hv h hk hl hd
theorem ldg (C : Bs w base) {x : Str} {pos : Pos} {v : Value} {Q : Value → Shared → Prop} (F : Fr base L s.heap m) (hv : C.mg x = some v) (hk : sc.kind = .function) (hl : (envOf nm sc L a cd).kindOf x = some .globalImplicit)
    (hd : (x == ("__debug__" : Str)) = false) (h : Q v s) : wpAny M A (eval (.Name x pos) (envOf nm sc L a cd)) Q E s := ld_global_at F C.g hv h hk hl hd
theorem ldb (C : Bs w base) {x : Str} {pos : Pos} {v : Value} {Q : Value → Shared → Prop} (hv : (x, v) ∈ biNames) (F : Fr base L s.heap m) (hk : sc.kind = .function) (hl : (envOf nm sc L a cd).kindOf x = some .globalImplicit)
    (hd : (x == ("__debug__" : Str)) = false) (h : Q v s) : wpAny M A (eval (.Name x pos) (envOf nm sc L a cd)) Q E s :=
  ld_builtin_at F C.g (C.bi _ hv).1 C.b (C.bi _ hv).2 h hk hl hd
end
section
variable {w : World} {A : Around} {k : Nat} {base h : Heap} {g : Array GenState} {dr : Drawn} {t : Nat} {os : OsState} {E : Value → Shared → Prop} {env : Env}
theorem cw_fn (C : Bs w base) {i : Nat} {e : Expr} {rest : List Expr} {pos : Pos} {Q : Value → Shared → Prop} {s : Shared} (hi : i ∈ defIx)
    (h : wpAny (model pw w) A (spliced (backTo pos (starEach (e :: rest) env))) (fun vs s₁ => On base s₁.heap ∧ wpAny (model pw w) A (call (.ref (C.f i)) vs) Q E s₁) E s)
    (he : starEach (e :: rest) env = (false, eval e env) :: starEach rest env) (hp : (backTo pos (starEach rest env)).any (·.1) = false) :
    wpAny (model pw w) A (callWith pos (.ref (C.f i)) [] (backTo pos (starEach (e :: rest) env)) []) Q E s :=
  callWith_K C.X (C.fn i hi).2.2 (wpAny_mono h (fun _ _ x => ⟨C.X.keeps x.1.keep, x.2⟩) (fun _ _ x => x)) he hp
theorem cw_m (C : Bs w base) {i : Nat} {x : Value} {e : Expr} {rest : List Expr} {pos : Pos} {Q : Value → Shared → Prop} {s : Shared} (hi : i ∈ [0, 1, 2, 3])
    (h : wpAny (model pw w) A (spliced (backTo pos (starEach (e :: rest) env))) (fun vs s₁ => On base s₁.heap ∧ wpAny (model pw w) A (call (.ref (C.m i)) (x :: vs)) Q E s₁) E s)
    (he : starEach (e :: rest) env = (false, eval e env) :: starEach rest env) (hp : (backTo pos (starEach rest env)).any (·.1) = false) :
    wpAny (model pw w) A (callWith pos (.ref (C.m i)) [x] (backTo pos (starEach (e :: rest) env)) []) Q E s :=
  callWith_K C.X (C.mq i hi).2.2.2 (wpAny_mono h (fun _ _ x => ⟨C.X.keeps x.1.keep, x.2⟩) (fun _ _ x => x)) he hp
theorem cw_cls (C : Bs w base) {e : Expr} {rest : List Expr} {pos : Pos} {Q : Value → Shared → Prop} {s : Shared}
    (h : wpAny (model pw w) A (spliced (backTo pos (starEach (e :: rest) env))) (fun vs s₁ => On base s₁.heap ∧ wpAny (model pw w) A (call (.ref C.cls) vs) Q E s₁) E s)
    (he : starEach (e :: rest) env = (false, eval e env) :: starEach rest env) (hp : (backTo pos (starEach rest env)).any (·.1) = false) :
    wpAny (model pw w) A (callWith pos (.ref C.cls) [] (backTo pos (starEach (e :: rest) env)) []) Q E s :=
  callWith_K C.X C.keepC (wpAny_mono h (fun _ _ x => ⟨C.X.keeps x.1.keep, x.2⟩) (fun _ _ x => x)) he hp
end
-- part L3
/-- an iterator's own step: what is no bare record stays -/
noncomputable def Soft (B h h' : Heap) : Prop := ∀ b o, h.get? b = some o → ((∀ vs, o.data ≠ .fields vs) ∨ (B.get? b).isSome = true) → h'.get? b = some o
section
variable {w : World} {B base h h' : Heap} {W : List Addr} {d l t L : Addr} {kvs : List (Str × Value)} {vs : List Value} {m : Str → Option Value}
theorem Soft.of_but {I : Addr} {o : Obj} {fs} (k : ∀ b o, b ∉ [I] → h.get? b = some o → h'.get? b = some o) (e : h.get? I = some o) (hf : o.data = .fields fs) (hb : B.get? I = none) : Soft B h h' := fun b p q c =>
  k b p (fun m => by
    rw [List.mem_singleton.mp m] at q c
    rw [e] at q; cases q
    rcases c with c | c
    · exact c _ hf
    · rw [hb] at c; cases c) q
theorem Dc.soft (x : Dc w B h d kvs) (X : Soft B h h') : Dc w B h' d kvs := ⟨x.1, x.2.1, x.2.2.at fun o e => X d o e (.inl fun vs q => by
  obtain ⟨_, _, o', es, ep, e', _, hd, _⟩ := x
  rw [e] at e'; cases e'; rw [hd] at q; cases q)⟩
theorem Ls.soft (x : Ls B h l vs) (X : Soft B h h') : Ls B h' l vs := ⟨x.1, let ⟨n, e⟩ := x.2; ⟨n, X l _ e (.inl fun vs q => by cases q)⟩⟩
theorem Tp.soft (x : Tp h t vs) (X : Soft B h h') : Tp h' t vs := let ⟨n, ho⟩ := x; ⟨n, X t _ ho (.inl fun vs q => by cases q)⟩
theorem fr_soft (F : Fr base L h m) (X : Soft base h h') : Fr base L h' m where
  ns := F.ns.at' fun o e => X L o e (.inl fun vs q => by
    obtain ⟨o', es, ep, e', hd, _⟩ := F.ns
    rw [e] at e'; cases e'; rw [hd] at q; cases q)
  keep := fun b o e => X b o (F.keep b o e) (.inr (by rw [e]; rfl))
  above := F.above
end
section
variable {w : World} {A : Around} {k : Nat} {base h₀ : Heap} {g : Array GenState} {dr : Drawn} {os : OsState} {env : Env}
noncomputable def ForPost (base : Heap) (g : Array GenState) (dr : Drawn) (os : OsState) (W : List Addr) (h : Heap) (J : Heap → Prop) (Q : Flow → Shared → Prop) (f : Flow) (s : Shared) : Prop :=
  match f with
  | .brk => Q .next s
  | .ret v => Q (.ret v) s
  | _ => ∃ h' t', s = ⟨h', g, dr, t', os⟩ ∧ Ext base W h h' ∧ J h'
theorem lt_fp {base h : Heap} {g : Array GenState} {dr : Drawn} {os : OsState} {W : List Addr} {J : Heap → Prop} {Q : Flow → Shared → Prop} : Lt_ base g dr os W h J Q (ForPost base g dr os W h J Q) := ⟨fun h' t' X j => ⟨h', t', rfl, X, j⟩, fun _ q => q, fun _ _ q => q⟩
theorem for_rule {target : Expr} {body : List Stmt} {I : Addr} {fp : List Addr} {n : Nat} {P : Nat → Value → Prop} {St : Nat → Heap → Prop} {Q : Flow → Shared → Prop}
    (Wk : Walks pw w A I fp [I] n P St) (W : List Addr) (J : Nat → Heap → Prop) {h₁ : Heap} {t₁ : Nat}
    (hI : h₀.get? I = none) (hIb : base.get? I = none) (hIr : ∀ i h, St i h → ∃ o fs, h.get? I = some o ∧ o.data = .fields fs)
    (hst : ∀ i h h', St (i + 1) h → Ext base W h h' → J (i + 1) h' → St (i + 1) h')
    (hgo : ∀ i h t v (Q' : Unit → Shared → Prop), St i h → Q' () ⟨h, g, dr, t, os⟩ → wpAny (model pw w) A (letOwnedTupleGo target (.ref I) v) Q' NoE ⟨h, g, dr, t, os⟩)
    (hs : St 0 h₁) (hX : Ext base W h₀ h₁) (h0 : J 0 h₁) (hw : ∀ i h h', J i h → Soft base h h' → J i h')
    (turn : ∀ i v h t, i < n → P i v → Ext base W h₀ h → J i h →
      wpAny (model pw w) A (assign target env v) (fun _ s₂ => wpAny (model pw w) A (execs body env) (ForPost base g dr os W h (J (i + 1)) Q) NoE s₂) NoE ⟨h, g, dr, t, os⟩)
    (done : ∀ h t, Ext base W h₀ h → J n h → Q .next ⟨h, g, dr, t, os⟩) {R : Result → Shared → Prop} (hR : ∀ f s, Q f s → R (.ok f) s) :
    codeAny (model pw w) A (.forLoop target (.ref I) body [] env) R ⟨h₁, g, dr, t₁, os⟩ := by
  have itr : ∀ {i h h'}, St i h → Ext base W h₀ h → (∀ b o, b ∉ [I] → h.get? b = some o → h'.get? b = some o) → Ext base W h₀ h' ∧ Soft base h h' := fun {i h h'} st X k => by
    obtain ⟨o, fs, e, hf⟩ := hIr i h st
    refine ⟨fun a p q => ?_, Soft.of_but k e hf hIb⟩
    have hne : a ∉ [I] := fun m => by rw [List.mem_singleton.mp m, hI] at q; cases q
    obtain ⟨p', e', r⟩ := X a p q
    exact ⟨p', k a p' hne e', r⟩
  refine codeAny_forLoop_any (fun k s' => ∃ i h t, s' = ⟨h, g, dr, t, os⟩ ∧ St i h ∧ Ext base W h₀ h ∧ J i h ∧ i ≤ n ∧ k = n + 1 - i) ?_ (n + 1) ⟨0, h₁, t₁, rfl, hs, hX, h0, Nat.zero_le _, rfl⟩
  rintro k s' ⟨i, h, t, rfl, st, X, hJ, hi, rfl⟩
  by_cases hlt : i < n
  · refine Wk.item i ⟨h, g, dr, t, os⟩ _ _ hlt st fun v h' t' hP st' hk => ?_
    obtain ⟨X', S'⟩ := itr st X hk
    refine wpAny_mono (hgo (i + 1) h' t' v _ st' (wpAny_mono (turn i v h' t' hlt hP X' (hw i h h' hJ S')) (fun _ s₂ z => wpAny_mono z (fun f s₃ z₃ => ?_) fun _ _ x => x.elim) fun _ _ x => x.elim)) (fun _ _ x => x) fun _ _ x => x.elim
    have fin : (∃ h₃ t₃, s₃ = ⟨h₃, g, dr, t₃, os⟩ ∧ Ext base W h' h₃ ∧ J (i + 1) h₃) → ∃ m, m < n + 1 - i ∧ ∃ j h t, s₃ = ⟨h, g, dr, t, os⟩ ∧ St j h ∧ Ext base W h₀ h ∧ J j h ∧ j ≤ n ∧ m = n + 1 - j := by
      rintro ⟨h₃, t₃, rfl, X₃, hJ₃⟩
      exact ⟨n + 1 - (i + 1), by omega, i + 1, h₃, t₃, rfl, hst _ _ _ st' X₃ hJ₃, X'.step X₃, hJ₃, hlt, rfl⟩
    cases f with
    | next => exact fin z₃
    | cont => exact fin z₃
    | brk => exact hR _ _ z₃
    | ret v => exact hR _ _ z₃
  · have hin : i = n := by omega
    subst hin
    refine Wk.done ⟨h, g, dr, t, os⟩ _ _ st fun h' t' hk => wpAny_execs_nil ?_
    obtain ⟨X', S'⟩ := itr st X hk
    exact hR _ _ (done h' t' X' (hw i h h' hJ S'))
theorem ls_list {B h : Heap} {l : Addr} {vs : List Value} (x : Ls B h l vs) : h.IsList l vs.toArray := let ⟨n, e⟩ := x.2; ⟨_, e, rfl, n, rfl⟩
theorem Soft.push (B h : Heap) (o : Obj) : Soft B h (h.push o) := fun _ _ e _ => Heap.get?_push_of_some _ e
theorem Soft.keeps {B h h' : Heap} (k : ∀ b o, h.get? b = some o → h'.get? b = some o) : Soft B h h' := fun _ _ e _ => k _ _ e
/-- what a loop over n items wants: W what it may write, J what holds -/
structure Loop (w : World) (A : Around) (base : Heap) (g : Array GenState) (dr : Drawn) (os : OsState) (env : Env) (target : Expr) (body : List Stmt) (Q : Flow → Shared → Prop) (h₀ : Heap) (n : Nat) (P : Nat → Value → Prop) (W : List Addr) (J : Nat → Heap → Prop) : Prop where
  lt : ∀ a ∈ W, a < h₀.objs.size
  start : J 0 h₀
  soft : ∀ i h h', J i h → Soft base h h' → J i h'
  turn : ∀ i v h t R, i < n → P i v → Ext base W h₀ h → J i h → Lt_ base g dr os W h (J (i + 1)) Q R →
        wpAny (model pw w) A (assign target env v) (fun _ s₂ => wpAny (model pw w) A (execs body env) R NoE s₂) NoE ⟨h, g, dr, t, os⟩
  done : ∀ h t, Ext base W h₀ h → J n h → Q .next ⟨h, g, dr, t, os⟩
/-- for over a list of the call's own -/
theorem for_list {target iter : Expr} {body : List Stmt} {pos : Pos} {Q : Flow → Shared → Prop} {h₁ : Heap} {t₁ : Nat} (hh : A.handled = none)
    (h : wpAny (model pw w) A (eval iter env) (fun xv s₁ => ∃ l vs h₀ t, xv = .ref l ∧ s₁ = ⟨h₀, g, dr, t, os⟩ ∧ Ls base h₀ l vs ∧ On base h₀ ∧ ∃ (W : List Addr) (J : Nat → Heap → Prop),
      l ∉ W ∧ Loop w A base g dr os env target body Q h₀ vs.length (fun i v => vs[i]? = some v) W J) NoE ⟨h₁, g, dr, t₁, os⟩)
    (hs : ∀ x, foldedSetIterable iter env x = pure x)
    (hgo : (∀ it v, letOwnedTupleGo target it v = pure ()) ∨ ∃ elts x1 pos, target = .Tuple elts x1 pos) :
    wpAny (model pw w) A (exec (.For target iter body [] pos) env) Q NoE ⟨h₁, g, dr, t₁, os⟩ := by
  refine wpAny_For (wpAny_mono h (fun xv s₁ z => ?_) fun _ _ x => x) hs
  obtain ⟨l, vs, h₀, t, rfl, rfl, hl, hO, W, J, hlW, Y⟩ := z
  refine wpAny_pyIter_list (s := ⟨h₀, g, dr, t, os⟩) (ls_list hl) ?_
  have hne : l ≠ h₀.objs.size := Nat.ne_of_lt hl.lt
  have hWI : h₀.objs.size ∉ W := fun hm => Nat.lt_irrefl _ (Y.lt _ hm)
  refine for_rule (n := vs.length) (Walks.list hh h₀.objs.size l hne vs.toArray) W J (h₀ := h₀) (get?_size _) (Heap.get?_none_of_le hO.size) ?_ ?_ ?_ ?_ (Ext.push _ _ _ _) (Y.soft _ _ _ Y.start (Soft.push _ _ _)) Y.soft
    (fun i v h t hi hP X hJ => Y.turn i v h t _ hi (by simpa using hP) X hJ lt_fp) Y.done fun _ _ x => x
  · rintro i h ⟨⟨o, e, _, hf⟩, _⟩; exact ⟨o, _, e, hf⟩
  · intro i h h' st X _
    exact ⟨st.1.at fun o e => X.same hWI e, st.2.at fun o e => X.same hlW e⟩
  · intro i h' t v Q' st q
    rcases hgo with hgo | ⟨elts, x1, pos, rfl⟩
    · rw [hgo]; exact wpAny_pure q
    · cases v with
      | ref T => exact wpAny_letOwnedTupleGo_listiter (s := ⟨h', g, dr, t, os⟩) st.1 q
      | _ => exact wpAny_of_eq (a := ()) rfl q
  · exact ⟨⟨_, Heap.get?_push_size _ rfl, rfl, rfl⟩, (ls_list hl).at fun o e => Heap.get?_push_of_some _ e⟩
theorem for_tup {target iter : Expr} {body : List Stmt} {pos : Pos} {Q : Flow → Shared → Prop} {h₁ : Heap} {t₁ : Nat} (hh : A.handled = none)
    (h : wpAny (model pw w) A (eval iter env) (fun xv s₁ => ∃ l vs h₀ t, xv = .ref l ∧ s₁ = ⟨h₀, g, dr, t, os⟩ ∧ Tp h₀ l vs ∧ On base h₀ ∧ ∃ (W : List Addr) (J : Nat → Heap → Prop),
      Loop w A base g dr os env target body Q h₀ vs.length (fun i v => vs[i]? = some v) W J) NoE ⟨h₁, g, dr, t₁, os⟩)
    (hs : ∀ x, foldedSetIterable iter env x = pure x)
    (hgo : ∀ it v, letOwnedTupleGo target it v = pure ()) :
    wpAny (model pw w) A (exec (.For target iter body [] pos) env) Q NoE ⟨h₁, g, dr, t₁, os⟩ := by
  refine wpAny_For (wpAny_mono h (fun xv s₁ z => ?_) fun _ _ x => x) hs
  obtain ⟨l, vs, h₀, t, rfl, rfl, hl, hO, W, J, Y⟩ := z
  refine wpAny_pyIter_tuple (s := ⟨h₀, g, dr, t, os⟩) (tp_tup hl) ?_
  have hne : l ≠ h₀.objs.size := Nat.ne_of_lt hl.lt
  have hWI : h₀.objs.size ∉ W := fun hm => Nat.lt_irrefl _ (Y.lt _ hm)
  refine for_rule (n := vs.length) (Walks.tuple hh h₀.objs.size l hne vs.toArray) W J (h₀ := h₀) (get?_size _) (Heap.get?_none_of_le hO.size) ?_ ?_ ?_ ?_ (Ext.push _ _ _ _) (Y.soft _ _ _ Y.start (Soft.push _ _ _)) Y.soft
    (fun i v h t hi hP X hJ => Y.turn i v h t _ hi (by simpa using hP) X hJ lt_fp) Y.done fun _ _ x => x
  · rintro i h ⟨⟨o, e, _, hf⟩, _⟩; exact ⟨o, _, e, hf⟩
  · intro i h h' st X _
    refine ⟨st.1.at fun o e => X.same hWI e, ?_⟩
    obtain ⟨o, e, hc, n, hd⟩ := st.2
    obtain ⟨o', e', r⟩ := X l o e
    rw [r (.inr (.inl ⟨hc, _, n, hd⟩))] at e'
    exact ⟨o, e', hc, n, hd⟩
  · intro i h t v Q' st q
    rw [hgo]; exact wpAny_pure q
  · exact ⟨⟨_, Heap.get?_push_size _ rfl, rfl, rfl⟩, IsTup.push (tp_tup hl) _⟩
theorem for_dict {target iter : Expr} {body : List Stmt} {pos : Pos} {Q : Flow → Shared → Prop} {h₁ : Heap} {t₁ : Nat} (hh : A.handled = none)
    (h : wpAny (model pw w) A (eval iter env) (fun xv s₁ => ∃ d kvs h₀ t, xv = .ref d ∧ s₁ = ⟨h₀, g, dr, t, os⟩ ∧ Dc w base h₀ d kvs ∧ On base h₀ ∧ ∃ (W : List Addr) (J : Nat → Heap → Prop),
      d ∉ W ∧ Loop w A base g dr os env target body Q h₀ kvs.length (fun i v => ∃ x y u, kvs[i]? = some (x, y) ∧ v = .str x u) W J) NoE ⟨h₁, g, dr, t₁, os⟩)
    (hs : ∀ x, foldedSetIterable iter env x = pure x)
    (hgo : ∀ it v, letOwnedTupleGo target it v = pure ()) :
    wpAny (model pw w) A (exec (.For target iter body [] pos) env) Q NoE ⟨h₁, g, dr, t₁, os⟩ := by
  refine wpAny_For (wpAny_mono h (fun xv s₁ z => ?_) fun _ _ x => x) hs
  obtain ⟨l, kvs, h₀, t, rfl, rfl, hl, hO, W, J, hlW, Y⟩ := z
  obtain ⟨ep, hd⟩ := hl.2.2.dictAt
  refine wpAny_pyIter_dict (s := ⟨h₀, g, dr, t, os⟩) hl.2.1 hd ?_
  have hne : l ≠ h₀.objs.size := Nat.ne_of_lt hl.lt
  have hWI : h₀.objs.size ∉ W := fun hm => Nat.lt_irrefl _ (Y.lt _ hm)
  refine for_rule (n := kvs.length) (Walks.dictKeys (knd := SK w) hh h₀.objs.size l hne kvs ep) W J (h₀ := h₀) (get?_size _) (Heap.get?_none_of_le hO.size) ?_ ?_ ?_ ?_ (Ext.push _ _ _ _) (Y.soft _ _ _ Y.start (Soft.push _ _ _)) Y.soft
    (fun i v h t hi hP X hJ => Y.turn i v h t _ hi (by obtain ⟨x, y, hx, hv⟩ := hP; obtain ⟨u, rfl⟩ := Value.isStrOf_shape hv; exact ⟨x, y, u, hx, rfl⟩) X hJ lt_fp) Y.done fun _ _ x => x
  · rintro i h ⟨⟨o, e, _, hf⟩, _⟩; exact ⟨o, _, e, hf⟩
  · intro i h h' st X _
    exact ⟨st.1.at fun o e => X.same hWI e, st.2.at' fun o e => X.same hlW e⟩
  · intro i h t v Q' st q
    rw [hgo]; exact wpAny_pure q
  · exact ⟨⟨_, Heap.get?_push_size _ rfl, rfl, rfl⟩, hd.push _⟩
/-- for over a dict that the body may store into: the entries stay -/
theorem for_dict_same {target iter : Expr} {body : List Stmt} {pos : Pos} {Q : Flow → Shared → Prop} {h₁ : Heap} {t₁ : Nat} (hh : A.handled = none)
    (h : wpAny (model pw w) A (eval iter env) (fun xv s₁ => ∃ d kvs ep h₀ t, xv = .ref d ∧ s₁ = ⟨h₀, g, dr, t, os⟩ ∧ Dc w base h₀ d kvs ∧ h₀.DictAt (SK w) d kvs ep ∧ On base h₀ ∧ ∃ (W : List Addr) (J : Nat → Heap → Prop),
      (∀ i h, J i h → h.DictAt (SK w) d kvs ep) ∧ Loop w A base g dr os env target body Q h₀ kvs.length (fun i v => ∃ x y u, kvs[i]? = some (x, y) ∧ v = .str x u) W J) NoE ⟨h₁, g, dr, t₁, os⟩)
    (hs : ∀ x, foldedSetIterable iter env x = pure x)
    (hgo : ∀ it v, letOwnedTupleGo target it v = pure ()) :
    wpAny (model pw w) A (exec (.For target iter body [] pos) env) Q NoE ⟨h₁, g, dr, t₁, os⟩ := by
  refine wpAny_For (wpAny_mono h (fun xv s₁ z => ?_) fun _ _ x => x) hs
  obtain ⟨l, kvs, ep, h₀, t, rfl, rfl, hl, hd, hO, W, J, hJd, Y⟩ := z
  refine wpAny_pyIter_dict (s := ⟨h₀, g, dr, t, os⟩) hl.2.1 hd ?_
  have hne : l ≠ h₀.objs.size := Nat.ne_of_lt hl.lt
  have hWI : h₀.objs.size ∉ W := fun hm => Nat.lt_irrefl _ (Y.lt _ hm)
  refine for_rule (n := kvs.length) (Walks.dictKeys (knd := SK w) hh h₀.objs.size l hne kvs ep) W J (h₀ := h₀) (get?_size _) (Heap.get?_none_of_le hO.size) ?_ ?_ ?_ ?_ (Ext.push _ _ _ _) (Y.soft _ _ _ Y.start (Soft.push _ _ _)) Y.soft
    (fun i v h t hi hP X hJ => Y.turn i v h t _ hi (by obtain ⟨x, y, hx, hv⟩ := hP; obtain ⟨u, rfl⟩ := Value.isStrOf_shape hv; exact ⟨x, y, u, hx, rfl⟩) X hJ lt_fp) Y.done fun _ _ x => x
  · rintro i h ⟨⟨o, e, _, hf⟩, _⟩; exact ⟨o, _, e, hf⟩
  · intro i h h' st X hJ
    exact ⟨st.1.at fun o e => X.same hWI e, hJd _ _ hJ⟩
  · intro i h t v Q' st q
    rw [hgo]; exact wpAny_pure q
  · exact ⟨⟨_, Heap.get?_push_size _ rfl, rfl, rfl⟩, hd.push _⟩
theorem for_range {target iter : Expr} {body : List Stmt} {pos : Pos} {Q : Flow → Shared → Prop} {h₁ : Heap} {t₁ : Nat} (hh : A.handled = none)
    (h : wpAny (model pw w) A (eval iter env) (fun xv s₁ => ∃ r n u v₁ v₂ h₀ t, xv = .ref r ∧ s₁ = ⟨h₀, g, dr, t, os⟩ ∧ IsRange h₀ r 0 (n : Nat) 1 u v₁ v₂ ∧ n < 1000000 ∧ On base h₀ ∧ ∃ (W : List Addr) (J : Nat → Heap → Prop),
      Loop w A base g dr os env target body Q h₀ n (fun i v => ∃ u, v = .int (i : Nat) u) W J) NoE ⟨h₁, g, dr, t₁, os⟩)
    (hs : ∀ x, foldedSetIterable iter env x = pure x)
    (hgo : ∀ it v, letOwnedTupleGo target it v = pure ()) :
    wpAny (model pw w) A (exec (.For target iter body [] pos) env) Q NoE ⟨h₁, g, dr, t₁, os⟩ := by
  refine wpAny_For (wpAny_mono h (fun xv s₁ z => ?_) fun _ _ x => x) hs
  obtain ⟨r, n, u, v₁, v₂, h₀, t, rfl, rfl, hl, hn, hO, W, J, Y⟩ := z
  have hsz : Builtin.Range.rangeSize 0 (n : Int) 1 = n := by
    unfold Builtin.Range.rangeSize; simp; omega
  refine wpAny_pyIter_range (s := ⟨h₀, g, dr, t, os⟩) hl (by unfold Builtin.Range.small Builtin.Range.rangeFitsLong; rw [hsz]; simp only [Bool.and_eq_true, Bool.or_eq_true, decide_eq_true_eq]; rw [if_pos (by decide)]; simp only [Bool.and_eq_true, decide_eq_true_eq]; omega) ?_
  have hWI : h₀.objs.size ∉ W := fun hm => Nat.lt_irrefl _ (Y.lt _ hm)
  refine for_rule (n := n) (Walks.range hh h₀.objs.size 0 1 n) W J (h₀ := h₀) (get?_size _) (Heap.get?_none_of_le hO.size) ?_ ?_ ?_ ?_ (Ext.push _ _ _ _) (Y.soft _ _ _ Y.start (Soft.push _ _ _)) Y.soft
    (fun i v h t hi hP X hJ => Y.turn i v h t _ hi (by obtain ⟨u, rfl⟩ := hP; exact ⟨u, by simp⟩) X hJ lt_fp) Y.done fun _ _ x => x
  · intro i h st; exact ⟨_, _, st, rfl⟩
  · intro i h h' st X _
    exact X.same hWI st
  · intro i h t v Q' st q
    rw [hgo]; exact wpAny_pure q
  · show IsRangeIter _ _ _ _ _
    have e := Heap.get?_push_size h₀ (o := { cls := .type "range_iterator", data := .fields #[rawInt 0, rawInt (Builtin.Range.rangeSize 0 (n : Int) 1), rawInt 1] }) rfl
    rw [hsz] at e
    rw [hsz]; simpa [IsRangeIter, rawInt] using e
end
-- part L4
/-! the call's grammar parts -/
inductive Pc where
  | text (x : Str)
  | name (x : Str)
  | opt (x : Str)
  | rep (x : Str)
noncomputable def All2 {α β : Type} (R : α → β → Prop) (xs : List α) (ys : List β) : Prop := xs.length = ys.length ∧ ∀ (i : Nat) (v : α) (p : β), xs[i]? = some v → ys[i]? = some p → R v p
theorem All2.imp {α β : Type} {R R' : α → β → Prop} {xs : List α} {ys : List β} (x : All2 R xs ys) (k : ∀ v p, R v p → R' v p) : All2 R' xs ys := ⟨x.1, fun i v p a b => k v p (x.2 i v p a b)⟩
theorem All2.get {α β : Type} {R : α → β → Prop} {xs : List α} {ys : List β} (x : All2 R xs ys) {i : Nat} {v : α} (e : xs[i]? = some v) : ∃ p, ys[i]? = some p ∧ R v p := by
  have hi : i < xs.length := by
    rcases Nat.lt_or_ge i xs.length with h | h
    · exact h
    · simp [List.getElem?_eq_none h] at e
  have hi' : i < ys.length := x.1 ▸ hi
  exact ⟨ys[i], by simp [hi'], x.2 i v ys[i] e (by simp [hi'])⟩
theorem All2.nil {α β : Type} {R : α → β → Prop} : All2 R ([] : List α) ([] : List β) := ⟨rfl, fun i v p e => by simp at e⟩
theorem All2.snoc {α β : Type} {R : α → β → Prop} {xs : List α} {ys : List β} {v : α} {p : β} (x : All2 R xs ys) (r : R v p) : All2 R (xs ++ [v]) (ys ++ [p]) := by
  refine ⟨by simp [x.1], fun i v' p' e e' => ?_⟩
  rcases Nat.lt_or_ge i xs.length with h | h
  · rw [List.getElem?_append_left h] at e
    rw [List.getElem?_append_left (x.1 ▸ h)] at e'
    exact x.2 i v' p' e e'
  · rw [List.getElem?_append_right h] at e
    rw [List.getElem?_append_right (x.1 ▸ h)] at e'
    rw [← x.1] at e'
    cases q : i - xs.length with
    | zero => rw [q] at e e'; simp at e e'; subst e; subst e'; exact r
    | succ n => rw [q] at e; simp at e
noncomputable def sText : Str := "text"
noncomputable def IsNm (h : Heap) (tag : Str) (v : Value) (x : Str) : Prop := ∃ a t1 t2, v = .ref a ∧ Tp h a [.str tag t1, .str x t2]
noncomputable def IsPc (h : Heap) (v : Value) : Pc → Prop
  | .text x => IsNm h (Str.ofString "text") v x
  | .name x => IsNm h (Str.ofString "name") v x
  | .opt x => ∃ a t1 v', v = .ref a ∧ Tp h a [.str (Str.ofString "opt") t1, v'] ∧ IsNm h (Str.ofString "name") v' x
  | .rep x => ∃ a t1 v', v = .ref a ∧ Tp h a [.str (Str.ofString "rep") t1, v'] ∧ IsNm h (Str.ofString "name") v' x
noncomputable def IsSeq (h : Heap) (v : Value) (ps : List Pc) : Prop := ∃ a t1 b vs, v = .ref a ∧ Tp h a [.str (Str.ofString "seq") t1, .ref b] ∧ Tp h b vs ∧ All2 (IsPc h) vs ps
noncomputable def IsAlt (h : Heap) (v : Value) (ws : List (List Pc)) : Prop := ∃ a t1 b vs, v = .ref a ∧ Tp h a [.str (Str.ofString "alt") t1, .ref b] ∧ Tp h b vs ∧ All2 (IsSeq h) vs ws
section
variable {B h h' : Heap} {W : List Addr} {v : Value}
theorem IsNm.ext {tag x : Str} (p : IsNm h tag v x) (X : Ext B W h h') : IsNm h' tag v x := let ⟨a, t1, t2, e, ht⟩ := p; ⟨a, t1, t2, e, ht.ext X⟩
theorem IsPc.ext {p : Pc} (q : IsPc h v p) (X : Ext B W h h') : IsPc h' v p := by
  cases p with
  | text x => exact IsNm.ext q X
  | name x => exact IsNm.ext q X
  | opt x => obtain ⟨a, t1, v', e, ht, hn⟩ := q; exact ⟨a, t1, v', e, ht.ext X, hn.ext X⟩
  | rep x => obtain ⟨a, t1, v', e, ht, hn⟩ := q; exact ⟨a, t1, v', e, ht.ext X, hn.ext X⟩
theorem IsSeq.ext {ps : List Pc} (q : IsSeq h v ps) (X : Ext B W h h') : IsSeq h' v ps := let ⟨a, t1, b, vs, e, h1, h2, h3⟩ := q; ⟨a, t1, b, vs, e, h1.ext X, h2.ext X, h3.imp fun _ _ z => z.ext X⟩
theorem IsAlt.ext {ps : List (List Pc)} (q : IsAlt h v ps) (X : Ext B W h h') : IsAlt h' v ps := let ⟨a, t1, b, vs, e, h1, h2, h3⟩ := q; ⟨a, t1, b, vs, e, h1.ext X, h2.ext X, h3.imp fun _ _ z => z.ext X⟩
end
section
variable {base h : Heap} {L : Addr} {m : Str → Option Value}
theorem fr_init {x : Str} (F : Fr base L h m) : Fr base L h (fun y => if y = x then m x else m y) := by
  have e : (fun y => if y = x then m x else m y) = m := by funext y; by_cases q : y = x <;> simp [q]
  rw [e]; exact F
theorem fr_again {x : Str} {u v : Option Value} (F : Fr base L h (fun y => if y = x then u else if y = x then v else m y)) : Fr base L h (fun y => if y = x then u else m y) := by
  have e : (fun y => if y = x then u else if y = x then v else m y) = fun y => if y = x then u else m y := by funext y; by_cases q : y = x <;> simp [q]
  rw [← e]; exact F
theorem nin1 {a b : Addr} (h : a ≠ b) : a ∉ [b] := fun m => h (List.mem_singleton.mp m)
theorem nin0 {a : Addr} : a ∉ ([] : List Addr) := List.not_mem_nil
end
section
variable {w : World} {A : Around} {k : Nat} {base h : Heap} {g : Array GenState} {dr : Drawn} {t : Nat} {os : OsState} {E : Value → Shared → Prop} {env : Env} {L : Addr} {m : Str → Option Value}
theorem sto {nm : Str} {sc : Scope} {a : Addr} {cd : Value} {x : Str} {v : Value} {Q : Unit → Shared → Prop} (F : Fr base L h m)
    (hk : sc.kind = .function) (hl : (envOf nm sc L a cd).kindOf x = some .local)
    (hQ : ∀ h' t', Fr base L h' (fun y => if y = x then some v else m y) → Ext base [L] h h' → Q () ⟨h', g, dr, t', os⟩) :
    wpAny (model pw w) A (storeName (envOf nm sc L a cd) x v) Q E ⟨h, g, dr, t, os⟩ :=
  wpAny_storeName_local hl F.ns (fun h' hn hs => hQ h' _ (F.set hn hs) (Ext.frame F (F.set hn hs) hs)) (by show (sc.kind == .class || (sc.kind == .module && L != mainGlobals)) = false; rw [hk]; rfl)
theorem asgn {nm : Str} {sc : Scope} {a : Addr} {cd : Value} {x : Str} {pos : Pos} {v : Value} {Q : Unit → Shared → Prop} (F : Fr base L h m)
    (hk : sc.kind = .function) (hl : (envOf nm sc L a cd).kindOf x = some .local)
    (hQ : ∀ h' t', Fr base L h' (fun y => if y = x then some v else m y) → Ext base [L] h h' → Q () ⟨h', g, dr, t', os⟩) :
    wpAny (model pw w) A (assign (.Name x pos) (envOf nm sc L a cd) v) Q E ⟨h, g, dr, t, os⟩ := wpAny_assign_Name (sto F hk hl hQ)
theorem const_bool {i : Bool} {kk : Nat} {pos : Pos} {Q : Value → Shared → Prop} (hQ : Q (.bool i) ⟨h, g, dr, t, os⟩) : wpAny (model pw w) A (eval (.Constant (.bool i) kk pos) env) Q E ⟨h, g, dr, t, os⟩ :=
  wpAny_of_eq (a := Value.bool i) rfl hQ
end
theorem Ext.frm {B h h₁ h₂ : Heap} {W : List Addr} (X : Ext B W h h₁) (Y : Ext B [h.objs.size] h₁ h₂) : Ext B W h h₂ :=
  X.trans Y fun a m => .inr (by rw [List.mem_singleton.mp m]; exact get?_size h)
theorem Ext.nil {B h h₁ h₂ : Heap} {W : List Addr} (X : Ext B W h h₁) (Y : Ext B [] h₁ h₂) : Ext B W h h₂ := X.trans Y fun _ m => nomatch m
theorem Dc.keysLt {w : World} {B h : Heap} {d : Addr} {kvs : List (Str × Value)} (x : Dc w B h d kvs) : d ∉ [h.objs.size] := nin1 (Nat.ne_of_lt x.lt)
theorem b_len : ((Str.ofString "len", .builtin "len") : Str × Value) ∈ biNames := by unfold biNames; simp
theorem b_sorted : ((Str.ofString "sorted", .builtin "sorted") : Str × Value) ∈ biNames := by unfold biNames; simp
theorem b_dict : ((Str.ofString "dict", .type "dict") : Str × Value) ∈ biNames := by unfold biNames; simp
theorem b_list : ((Str.ofString "list", .type "list") : Str × Value) ∈ biNames := by unfold biNames; simp
theorem b_tuple : ((Str.ofString "tuple", .type "tuple") : Str × Value) ∈ biNames := by unfold biNames; simp
theorem b_str : ((Str.ofString "str", .type "str") : Str × Value) ∈ biNames := by unfold biNames; simp
theorem b_abs : ((Str.ofString "abs", .builtin "abs") : Str × Value) ∈ biNames := by unfold biNames; simp
theorem b_range : ((Str.ofString "range", .type "range") : Str × Value) ∈ biNames := by unfold biNames; simp
theorem b_reversed : ((Str.ofString "reversed", .type "reversed") : Str × Value) ∈ biNames := by unfold biNames; simp
theorem on_and {base h : Heap} {L : Addr} {m : Str → Option Value} {P : Prop} (F : Fr base L h m) (p : P) : On base h ∧ P := ⟨on_of F, p⟩
theorem fr_name {base h : Heap} {L : Addr} {m : Str → Option Value} (F : Fr base L h m) : ∃ m0, m0 = m ∧ Fr base L h m0 := ⟨m, rfl, F⟩
/-- a frame whose one more name may stand -/
noncomputable def FrU (base : Heap) (L : Addr) (h : Heap) (m : Str → Option Value) (x : Str) : Prop := ∃ u, Fr base L h (fun y => if y = x then u else m y)
theorem FrU.init {base h : Heap} {L : Addr} {m : Str → Option Value} {x : Str} (F : Fr base L h m) : FrU base L h m x := ⟨_, fr_init F⟩
theorem FrU.soft {base h h' : Heap} {L : Addr} {m : Str → Option Value} {x : Str} (F : FrU base L h m x) (S : Soft base h h') : FrU base L h' m x := let ⟨u, F⟩ := F; ⟨u, fr_soft F S⟩
theorem FrU.of {base h : Heap} {L : Addr} {m : Str → Option Value} {x : Str} {u : Option Value} (F : Fr base L h (fun y => if y = x then u else m y)) : FrU base L h m x := ⟨u, F⟩
theorem lt1 {base h : Heap} {L : Addr} {m : Str → Option Value} (F : Fr base L h m) : ∀ a ∈ [L], a < h.objs.size := fun a m => by rw [List.mem_singleton.mp m]; exact F.ns.lt
section
variable {base : Heap} {g : Array GenState} {dr : Drawn} {os : OsState} {W : List Addr} {h h' : Heap} {J : Heap → Prop} {Q : Flow → Shared → Prop} {t' : Nat}
end
theorem lt_succ_cases {P : Nat → Prop} {i : Nat} (h : ∀ j, j < i → P j) (hi : P i) : ∀ j, j < i + 1 → P j := fun j hj => by
  rcases Nat.lt_or_ge j i with q | q
  · exact h j q
  · have : j = i := by omega
    subst this; exact hi
-- part L5
/-! dicts whose values are all True -/
noncomputable def tt (ks : List Str) : List (Str × Value) := ks.map fun k => (k, .bool true)
noncomputable def addK (ks : List Str) (k : Str) : List Str := if k ∈ ks then ks else ks ++ [k]
noncomputable def mergeK (ks js : List Str) : List Str := js.foldl addK ks
theorem stored_tt (ks : List Str) (k : Str) : stored (tt ks) k (.bool true) = tt (addK ks k) := by
  unfold stored tt addK
  by_cases h : k ∈ ks
  · have h1 : ((ks.map fun k => (k, Value.bool true)).any fun kv => decide (kv.1 = k)) = true := by
      rw [List.any_eq_true]; exact ⟨(k, .bool true), List.mem_map.mpr ⟨k, h, rfl⟩, by simp⟩
    rw [if_pos h1, if_pos h, List.map_map]
    refine List.map_congr_left fun a _ => ?_
    simp only [Function.comp_apply]
    split <;> rfl
  · have h1 : ¬ ((ks.map fun k => (k, Value.bool true)).any fun kv => decide (kv.1 = k)) = true := by
      rw [List.any_eq_true]; rintro ⟨p, hp, hq⟩
      obtain ⟨a, ha, rfl⟩ := List.mem_map.mp hp
      exact h (by have := of_decide_eq_true hq; exact this ▸ ha)
    rw [if_neg h1, if_neg h]; simp
theorem valueAt_tt (ks : List Str) (k : Str) : valueAt (tt ks) k = if k ∈ ks then some (.bool true) else none := by
  unfold valueAt tt
  by_cases h : k ∈ ks
  · rw [if_pos h]
    cases q : (ks.map fun k => (k, Value.bool true)).find? fun kv => decide (kv.1 = k) with
    | none =>
      rw [List.find?_eq_none] at q
      exact absurd (q (k, .bool true) (List.mem_map.mpr ⟨k, h, rfl⟩)) (by simp)
    | some p =>
      obtain ⟨a, ha, rfl⟩ := List.mem_map.mp (List.mem_of_find?_eq_some q)
      rfl
  · rw [if_neg h]
    have q : (ks.map fun k => (k, Value.bool true)).find? (fun kv => decide (kv.1 = k)) = none := by
      rw [List.find?_eq_none]; rintro p hp
      obtain ⟨a, ha, rfl⟩ := List.mem_map.mp hp
      simp only [decide_eq_true_eq]; rintro rfl; exact h ha
    rw [q]; rfl
theorem tt_get {ks : List Str} {i : Nat} {x : Str} {y : Value} (e : (tt ks)[i]? = some (x, y)) : ks[i]? = some x ∧ y = .bool true := by
  unfold tt at e
  rw [List.getElem?_map] at e
  obtain ⟨a, ha, hb⟩ := Option.map_eq_some_iff.mp e
  cases hb; exact ⟨ha, rfl⟩
theorem tt_len (ks : List Str) : (tt ks).length = ks.length := by simp [tt]
theorem addK_len (ks : List Str) (k : Str) : ks.length ≤ (addK ks k).length ∧ (addK ks k).length ≤ ks.length + 1 := by unfold addK; split <;> simp
theorem mergeK_len (js ks : List Str) : ks.length ≤ (mergeK ks js).length ∧ (mergeK ks js).length ≤ ks.length + js.length := by
  induction js generalizing ks with
  | nil => simp [mergeK]
  | cons j js ih =>
    have h1 := ih (addK ks j)
    have h2 := addK_len ks j
    simp only [mergeK, List.foldl_cons] at h1 ⊢
    simp only [List.length_cons]
    omega
theorem mergeK_snoc (ks js : List Str) (j : Str) : mergeK ks (js ++ [j]) = addK (mergeK ks js) j := by simp [mergeK]
theorem mergeK_mem (js ks : List Str) (x : Str) : x ∈ mergeK ks js ↔ x ∈ ks ∨ x ∈ js := by
  induction js generalizing ks with
  | nil => simp [mergeK]
  | cons j js ih =>
    have h1 := ih (addK ks j)
    simp only [mergeK, List.foldl_cons] at h1 ⊢
    rw [h1]
    unfold addK
    split
    · rename_i h
      constructor
      · rintro (a | a); exact .inl a; exact .inr (.tail _ a)
      · rintro (a | a); exact .inl a
        rcases List.mem_cons.mp a with rfl | a
        · exact .inl h
        · exact .inr a
    · simp only [List.mem_append, List.mem_cons, List.not_mem_nil, or_false]
      exact or_assoc
theorem addK_nodup {ks : List Str} {k : Str} (h : ks.Nodup) : (addK ks k).Nodup := by
  unfold addK
  split
  · exact h
  · rename_i q
    rw [List.nodup_append]
    exact ⟨h, by simp, fun a ha b hb => by rw [List.mem_singleton.mp hb]; rintro rfl; exact q ha⟩
theorem mergeK_nodup {js ks : List Str} (h : ks.Nodup) : (mergeK ks js).Nodup := by
  induction js generalizing ks with
  | nil => exact h
  | cons j js ih => exact ih (addK_nodup h)
noncomputable abbrev Ks (w : World) (B h : Heap) (d : Addr) (ks : List Str) : Prop := Dc w B h d (tt ks)
section
variable {w : World} {A : Around} {k : Nat} {base h : Heap} {g : Array GenState} {dr : Drawn} {t : Nat} {os : OsState} {E : Value → Shared → Prop} {env : Env} {L : Addr} {m : Str → Option Value}
theorem Dc.one {d : Addr} {kvs kvs' : List (Str × Value)} {h' : Heap} (x : Dc w base h d kvs) (x' : h'.DictOf (SK w) d kvs') (hs : Heap.SameBut d h h') : Dc w base h' d kvs' ∧ Ext base [d] h h' := by
  obtain ⟨_, _, o, es, ep, e, _, hd, _⟩ := id x
  obtain ⟨o', es', ep', e', _⟩ := id x'
  exact ⟨⟨x.1, x.2.1, x'⟩, Ext.one hs e e' x.1 (not_tuplish_dict hd)⟩
theorem dict_set {d : Addr} {x : Str} {u : Tok} {v : Value} {kvs : List (Str × Value)} {Q : Unit → Shared → Prop} (hd : Dc w base h d kvs) (hz : kvs.length ≤ 1000)
    (hQ : ∀ h' t', Dc w base h' d (stored kvs x v) → Ext base [d] h h' → Q () ⟨h', g, dr, t', os⟩) : wpAny (model pw w) A (setItem (.ref d) (.str x u) v) Q E ⟨h, g, dr, t, os⟩ :=
  wpAny_setItem_pairs (strKind_is pw w x u) hd.2.2 (fun h' hm hs => let r := hd.one hm hs; hQ h' _ r.1 r.2) (by rw [sizeLine_eq]; omega)
theorem ks_set {d : Addr} {x : Str} {u : Tok} {ks : List Str} {Q : Unit → Shared → Prop} (hd : Ks w base h d ks) (hz : ks.length ≤ 1000)
    (hQ : ∀ h' t', Ks w base h' d (addK ks x) → Ext base [d] h h' → Q () ⟨h', g, dr, t', os⟩) : wpAny (model pw w) A (setItem (.ref d) (.str x u) (.bool true)) Q E ⟨h, g, dr, t, os⟩ :=
  dict_set hd (by rw [tt_len]; exact hz) fun h' t' y X => hQ h' t' (by rw [stored_tt] at y; exact y) X
/-- a store of the very value that stands there: the dict's count stays too -/
theorem dict_set_same {d : Addr} {x : Str} {u : Tok} {v : Value} {kvs : List (Str × Value)} {ep : Nat} {Q : Unit → Shared → Prop} (hd : Dc w base h d kvs) (ha : h.DictAt (SK w) d kvs ep) (hv : valueAt kvs x = some v)
    (hQ : ∀ h' t', Dc w base h' d kvs → h'.DictAt (SK w) d kvs ep → Ext base [d] h h' → Q () ⟨h', g, dr, t', os⟩) : wpAny (model pw w) A (setItem (.ref d) (.str x u) v) Q E ⟨h, g, dr, t, os⟩ := by
  have hkey := strKind_is pw w x u
  have hT : (⟨h, g, dr, t, os⟩ : Shared).TypeIs (.ref d) "dict" := hd.2.2.typeIs
  obtain ⟨o, es, ho, hc, hdat, hk, hp, hn⟩ := id ha
  unfold setItem
  refine wpAny_holding (wpAny_bind (wpAny_sequenceKey hT (by decide) ?_))
  refine wpAny_bind (wpAny_callSpecial?_slot (name := Str.ofString "__setitem__") hT slot_dict_setitem
    (wpAny_call_entry slot_dict_setitem hT entry_dict_setitem ?_ (args_dict_setitem _ _ _)))
  show wpAny _ _ (Builtin.Dict.notOrdered "__setitem__" ⟨[.ref d, .str x u, v], []⟩ >>= _) _ _ _
  refine wpAny_bind (wpAny_notOrdered_dict hT ?_)
  show wpAny _ _ (dictSet d (.str x u) v >>= _) _ _ _
  refine wpAny_bind ?_
  unfold dictSet
  refine wpAny_holding (wpAny_bind ((SK w).pyHash hkey ?_))
  unfold dictSetHashed
  refine wpAny_holding (wpAny_bind (wpAny_dictFind_of hkey ho hdat hk ?_))
  have hfind := hp.find x
  rw [hv] at hfind
  obtain ⟨⟨en, hen, hval⟩⟩ : Nonempty { en // (es.toList.find? fun e => (SK w).is x e.key) = some en ∧ en.val = v } := by
    obtain ⟨en, a, b⟩ := Option.map_eq_some_iff.mp hfind
    exact ⟨en, a, b⟩
  obtain ⟨i, hi, hei⟩ : ∃ i, (es.findIdx? fun e => (SK w).is x e.key) = some i ∧ ∃ hlt : i < es.size, es[i].val = v := by
    cases hi : es.findIdx? fun e => (SK w).is x e.key with
    | none =>
      rw [Array.findIdx?_eq_none_iff] at hi
      have := hi en (Array.mem_toList_iff.mp (List.mem_of_find?_eq_some hen))
      rw [List.find?_some hen] at this; cases this
    | some i =>
      refine ⟨i, rfl, ?_⟩
      obtain ⟨hlt, h1, h2⟩ := Array.findIdx?_eq_some_iff_getElem.mp hi
      refine ⟨hlt, ?_⟩
      obtain ⟨l⟩ := es
      have hf : l.find? (fun e => (SK w).is x e.key) = some l[i] := by
        rw [List.find?_eq_some_iff_getElem]
        exact ⟨h1, i, hlt, rfl, fun j hj => by simpa using h2 j hj⟩
      have hen' : l.find? (fun e => (SK w).is x e.key) = some en := hen
      rw [hf] at hen'; cases hen'
      exact hval
  rw [hi]
  have hid : (es.modify i fun e => { e with val := v }) = es := by
    obtain ⟨hlt, hv'⟩ := hei
    refine Array.ext (by simp) fun j h1 h2 => ?_
    rw [Array.getElem_modify]
    split
    · rename_i q; subst q; exact (by simp [← hv'] : ({ hash := es[i].hash, key := es[i].key, val := v } : DictEntry) = es[i])
    · rfl
  refine wpAny_bind (wpAny_rule (wpAny_bind (wpAny_updateDict ho hdat (wpAny_point ?_))))
  refine wpAny_pure ⟨.none, rfl, wpAny_pure ?_⟩
  have hs : Heap.SameBut d h (h.update d (Obj.mapDict (·.modify i fun e => { e with val := v }))) := Heap.SameBut.update ..
  have e' : (h.update d (Obj.mapDict (·.modify i fun e => { e with val := v }))).get? d = some (Obj.mapDict (·.modify i fun e => { e with val := v }) o) :=
    Heap.get?_update_self _ ho (Obj.isFreed_of_dict (Obj.data_mapDict hdat _))
  have hd' : (h.update d (Obj.mapDict (·.modify i fun e => { e with val := v }))).DictAt (SK w) d kvs ep :=
    ⟨_, es, e', hc.mapDict _, by rw [Obj.data_mapDict hdat, hid], hk, hp, hn⟩
  have r := hd.one hd'.dictOf hs
  exact hQ _ _ r.1 hd' r.2
theorem dict_len {d : Addr} {kvs : List (Str × Value)} {Q : Value → Shared → Prop} (hd : Dc w base h d kvs) (hz : kvs.length ≤ 1000)
    (hQ : ∀ u t', Q (.int kvs.length u) ⟨h, g, dr, t', os⟩) : wpAny (model pw w) A (call (.builtin "len") [.ref d]) Q E ⟨h, g, dr, t, os⟩ :=
  call_len_dict hd.2.1 hd.2.2 (by omega) (hQ _ _)
theorem int_gt {a b : Int} {u v : Tok} {Q : Value → Shared → Prop} {s : Shared} (hQ : Q (.bool (decide (b < a))) s) : wpAny (model pw w) A (compareOp .Gt (.int a u) (.int b v)) Q E s := PyProof.Rows.gt_int hQ
theorem cw_bi {i : String} {e : Expr} {rest : List Expr} {pos : Pos} {Q : Value → Shared → Prop} {s : Shared}
    (h : wpAny (model pw w) A (spliced (backTo pos (starEach (e :: rest) env))) (fun vs s₁ => wpAny (model pw w) A (call (.builtin i) vs) Q E s₁) E s)
    (he : starEach (e :: rest) env = (false, eval e env) :: starEach rest env) (hp : (backTo pos (starEach rest env)).any (·.1) = false) :
    wpAny (model pw w) A (callWith pos (.builtin i) [] (backTo pos (starEach (e :: rest) env)) []) Q E s := PyProof.Rows.callWith_builtin1 h he hp
end
theorem nin2 {a b c : Addr} (h : a ≠ b) (h2 : a ≠ c) : a ∉ [b, c] := fun m => by
  rcases List.mem_cons.mp m with q | q
  · exact h q
  · exact h2 (List.mem_singleton.mp q)
theorem ne_lt {a b : Addr} (h : a < b) : a ≠ b := Nat.ne_of_lt h
theorem ne_gt {a b : Addr} (h : a < b) : b ≠ a := Nat.ne_of_gt h
theorem sub1 {a : Addr} {W : List Addr} (h : a ∈ W) : ∀ b ∈ [a], b ∈ W := fun b m => by rw [List.mem_singleton.mp m]; exact h
theorem Ext.frm2 {B h h₁ h₂ : Heap} {a : Addr} {W : List Addr} (X : Ext B W h h₁) (Y : Ext B [a, h.objs.size] h₁ h₂) (ha : a ∈ W ∨ h.get? a = none) : Ext B W h h₂ :=
  X.trans Y fun b m => by
    rcases List.mem_cons.mp m with rfl | m
    · exact ha
    · exact .inr (by rw [List.mem_singleton.mp m]; exact get?_size h)
-- part L6
section
variable {w : World} {A : Around} {k : Nat} {base h : Heap} {g : Array GenState} {dr : Drawn} {t : Nat} {os : OsState} {E : Value → Shared → Prop} {env : Env} {L : Addr} {m : Str → Option Value}
noncomputable def WhlPost (g : Array GenState) (dr : Drawn) (os : OsState) (n : Nat) (I : Nat → Heap → Prop) (Q : Flow → Shared → Prop) (f : Flow) (s : Shared) : Prop :=
  match f with
  | .brk => Q .next s
  | .ret v => Q (.ret v) s
  | _ => ∃ m h' t', m < n ∧ s = ⟨h', g, dr, t', os⟩ ∧ I m h'
theorem while_rule {test : Expr} {body : List Stmt} {pos : Pos} {Q : Flow → Shared → Prop} (I : Nat → Heap → Prop) (n : Nat)
    (turn : ∀ n h t, I n h → wpAny (model pw w) A (isTrue test env (eval test env)) (fun b s₂ => if b = true then wpAny (model pw w) A (execs body env) (WhlPost g dr os n I Q) NoE s₂ else Q .next s₂) NoE ⟨h, g, dr, t, os⟩)
    (h0 : I n h) : wpAny (model pw w) A (exec (.While test body [] pos) env) Q NoE ⟨h, g, dr, t, os⟩ := by
  refine wpAny_While (codeAny_whileLoop (fun n s => ∃ h t, s = ⟨h, g, dr, t, os⟩ ∧ I n h) ?_ n ⟨h, t, rfl, h0⟩)
  rintro n s ⟨h, t, rfl, j⟩
  refine wpAny_mono (turn n h t j) (fun b s₂ z => ?_) fun _ _ x => x.elim
  cases b with
  | false => exact wpAny_execs_nil (by simpa using z)
  | true =>
    simp only [if_true] at z ⊢
    refine wpAny_mono z (fun f s₃ z₃ => ?_) fun _ _ x => x.elim
    cases f with
    | next => obtain ⟨m, h', t', a, b, c⟩ := z₃; exact ⟨m, a, h', t', b, c⟩
    | cont => obtain ⟨m, h', t', a, b, c⟩ := z₃; exact ⟨m, a, h', t', b, c⟩
    | brk => exact z₃
    | ret v => exact z₃
theorem wt_wp {n : Nat} {I : Nat → Heap → Prop} {Q : Flow → Shared → Prop} : Wt_ g dr os n I Q (WhlPost g dr os n I Q) := ⟨fun m h' t' hm j => ⟨m, h', t', hm, rfl, j⟩, fun _ q => q, fun _ _ q => q⟩
theorem while_rule2 {test : Expr} {body : List Stmt} {pos : Pos} {Q : Flow → Shared → Prop} (I : Nat → Heap → Prop) (n : Nat)
    (turn : ∀ n h t R, I n h → Wt_ g dr os n I Q R → wpAny (model pw w) A (isTrue test env (eval test env)) (fun b s₂ => if b = true then wpAny (model pw w) A (execs body env) R NoE s₂ else R .brk s₂) NoE ⟨h, g, dr, t, os⟩)
    (h0 : I n h) : wpAny (model pw w) A (exec (.While test body [] pos) env) Q NoE ⟨h, g, dr, t, os⟩ :=
  while_rule I n (fun n h t j => turn n h t _ j wt_wp) h0
theorem low (C : Bs w base) (hO : On base h) : sysModules < h.objs.size := Nat.lt_of_lt_of_le (modules_low C.nolim) hO.size
theorem new_base (hO : On base h) : base.get? h.objs.size = none := Heap.get?_none_of_le hO.size
theorem dict_new (C : Bs w base) {pos : Pos} {Q : Value → Shared → Prop} (F : Fr base L h m)
    (hQ : ∀ h' d, d = h.objs.size → L < d → Fr base L h' m → Dc w base h' d [] → Ext base [] h h' → Q (.ref d) ⟨h', g, dr, t, os⟩) :
    wpAny (model pw w) A (eval (.Dict [] [] pos) env) Q E ⟨h, g, dr, t, os⟩ :=
  wpAny_Dict_empty (hQ _ _ rfl F.ns.lt (F.push _) ⟨new_base (on_of F), beq_eq_false_iff_ne.mpr (Nat.ne_of_gt (low C (on_of F))), Heap.DictOf.new h⟩ (Ext.push _ _ _ _))
theorem dict_item {value slice : Expr} {d : Addr} {x : Str} {u : Tok} {v : Value} {kvs : List (Str × Value)} {Q : Value → Shared → Prop} (hd : Dc w base h d kvs) (hv : valueAt kvs x = some v)
    (hQ : ∀ t', Q v ⟨h, g, dr, t', os⟩) (hs : subscripted slice false (.ref d) (.str x u) = operate [.ref d, .str x u] (getItem (.ref d) (.str x u))) :
    wpAny (model pw w) A (subscriptTail value slice (.ref d) (.str x u)) Q E ⟨h, g, dr, t, os⟩ :=
  tail_any hd.2.2.typeIs slot_dict_getitem.lookup (wpAny_getItem_of (strKind_is pw w x u) hd.2.2.mapOf hv (hQ _)) hs
theorem ls_new {vs : List Value} {Q : Value → Shared → Prop} (F : Fr base L h m) (hz : vs.length ≤ 1000000)
    (hQ : ∀ h' d, d = h.objs.size → L < d → Fr base L h' m → Ls base h' d vs → Ext base [] h h' → Q (.ref d) ⟨h', g, dr, t, os⟩) :
    wpAny (model pw w) A (newList vs) Q E ⟨h, g, dr, t, os⟩ :=
  wpAny_newObj_type (hQ _ _ rfl F.ns.lt (F.push _) ⟨new_base (on_of F), _, Heap.get?_push_size _ rfl⟩ (Ext.push _ _ _ _)) (by show vs.toArray.size ≤ sizeLine; rw [List.size_toArray, sizeLine_eq]; omega)
theorem tp_new {vs : List Value} {Q : Value → Shared → Prop} (F : Fr base L h m) (hz : vs.length ≤ 1000000)
    (hQ : ∀ h' d, d = h.objs.size → L < d → Fr base L h' m → Tp h' d vs → Ext base [] h h' → Q (.ref d) ⟨h', g, dr, t, os⟩) :
    wpAny (model pw w) A (newTuple vs) Q E ⟨h, g, dr, t, os⟩ :=
  wpAny_newObj_type (hQ _ _ rfl F.ns.lt (F.push _) ⟨_, Heap.get?_push_size _ rfl⟩ (Ext.push _ _ _ _)) (by show vs.toArray.size ≤ sizeLine; rw [List.size_toArray, sizeLine_eq]; omega)
theorem Ls.typeIs {l : Addr} {vs : List Value} (x : Ls base h l vs) : (⟨h, g, dr, t, os⟩ : Shared).TypeIs (.ref l) "list" := let ⟨_, e⟩ := x.2; ⟨_, e, rfl⟩
theorem Ls.one {l : Addr} {vs vs' : List Value} {h' : Heap} (x : Ls base h l vs) (x' : h'.PlainList l vs'.toArray) (hs : Heap.SameBut l h h') : Ls base h' l vs' ∧ Ext base [l] h h' := by
  obtain ⟨n, e⟩ := x.2
  obtain ⟨n', e'⟩ := x'
  exact ⟨⟨x.1, n', e'⟩, Ext.one hs e e' x.1 (not_tuplish_list rfl)⟩
theorem gm_ls {l : Addr} {vs : List Value} {nm : Str} {id : String} {pl : Sem Bool} {Q : Value × List Value → Shared → Prop} (hl : Ls base h l vs) (slot : Slot "list" nm id) (hty : typeOf (.builtin id) = pure (.type "method_descriptor"))
    (hQ : Q (.builtin id, [.ref l]) ⟨h, g, dr, t, os⟩) : wpAny (model pw w) A (getMethod (.ref l) nm pl) Q E ⟨h, g, dr, t, os⟩ :=
  getMethod_builtin hl.typeIs PySem.F.plainAttrs_list slot hty (fun a e => by cases e; obtain ⟨n, e⟩ := hl.2; exact ⟨_, e, rfl⟩) hQ
theorem gm_append {l : Addr} {vs : List Value} {pl : Sem Bool} {Q : Value × List Value → Shared → Prop} (hl : Ls base h l vs) (hQ : Q (.builtin "list.append", [.ref l]) ⟨h, g, dr, t, os⟩) :
    wpAny (model pw w) A (getMethod (.ref l) (Str.ofString "append") pl) Q E ⟨h, g, dr, t, os⟩ := gm_ls hl slot_list_append (by show builtinType _ = _; rw [builtinType_eq_fast]; kernel_rfl) hQ
theorem gm_pop {l : Addr} {vs : List Value} {pl : Sem Bool} {Q : Value × List Value → Shared → Prop} (hl : Ls base h l vs) (hQ : Q (.builtin "list.pop", [.ref l]) ⟨h, g, dr, t, os⟩) :
    wpAny (model pw w) A (getMethod (.ref l) (Str.ofString "pop") pl) Q E ⟨h, g, dr, t, os⟩ := gm_ls hl PySem.F.slot_list_pop PySem.F.type_list_pop hQ
theorem gm_extend {l : Addr} {vs : List Value} {pl : Sem Bool} {Q : Value × List Value → Shared → Prop} (hl : Ls base h l vs) (hQ : Q (.builtin "list.extend", [.ref l]) ⟨h, g, dr, t, os⟩) :
    wpAny (model pw w) A (getMethod (.ref l) (Str.ofString "extend") pl) Q E ⟨h, g, dr, t, os⟩ := gm_ls hl PySem.F.slot_list_extend PySem.F.type_list_extend hQ
theorem gm_reverse {l : Addr} {vs : List Value} {pl : Sem Bool} {Q : Value × List Value → Shared → Prop} (hl : Ls base h l vs) (hQ : Q (.builtin "list.reverse", [.ref l]) ⟨h, g, dr, t, os⟩) :
    wpAny (model pw w) A (getMethod (.ref l) (Str.ofString "reverse") pl) Q E ⟨h, g, dr, t, os⟩ := gm_ls hl PySem.F.slot_list_reverse PySem.F.type_list_reverse hQ
theorem plain_upd {l : Addr} {xs : Array Value} {n : Nat} (e : h.get? l = some { cls := .type "list", data := .seq xs n }) (f : Array Value → Array Value) : (h.update l (Obj.mapSeq f)).PlainList l (f xs) := by
  have q := Heap.get?_update_self (Obj.mapSeq f) e rfl
  exact ⟨_, q⟩
theorem ls_append {l : Addr} {vs : List Value} {v : Value} {Q : Value → Shared → Prop} (hl : Ls base h l vs) (hz : vs.length ≤ 100000)
    (hQ : ∀ h', Ls base h' l (vs ++ [v]) → Ext base [l] h h' → Q .none ⟨h', g, dr, t, os⟩) : wpAny (model pw w) A (call (.builtin "list.append") ([.ref l] ++ [v])) Q E ⟨h, g, dr, t, os⟩ :=
  wpAny_list_append_plain hl.2 (fun h' hp hs => let r := hl.one (vs' := vs ++ [v]) (by simpa using hp) hs; hQ h' r.1 r.2) (by rw [List.size_toArray, sizeLine_eq]; omega)
theorem ls_pop {l : Addr} {vs : List Value} {v : Value} {Q : Value → Shared → Prop} (hl : Ls base h l (vs ++ [v])) (hz : vs.length ≤ 100000)
    (hQ : ∀ h', Ls base h' l vs → Ext base [l] h h' → Q v ⟨h', g, dr, t, os⟩) : wpAny (model pw w) A (call (.builtin "list.pop") [.ref l]) Q E ⟨h, g, dr, t, os⟩ := by
  obtain ⟨n, e⟩ := hl.2
  have hz' : (vs ++ [v]).toArray.size ≤ sizeLine := by rw [List.size_toArray, List.length_append, sizeLine_eq, List.length_singleton]; omega
  have hk : (vs ++ [v]).toArray.size - 1 = vs.length := by simp
  refine call_meets PySem.F.slot_list_pop hl.typeIs PySem.F.entry_list_pop (PySem.F.args_list_pop_1 _) (PySem.MeetsSeq.list_pop_last l _ n v (by rw [hk]; simp) hz') ⟨e, ?_⟩
  have r := hl.one (vs' := vs) (by
    have := plain_upd e fun xs => xs.eraseIdxIfInBounds ((vs ++ [v]).toArray.size - 1)
    have e2 : (vs ++ [v]).eraseIdx vs.length = vs := by
      have := List.eraseIdx_append_of_length_le (l := vs) (k := vs.length) (Nat.le_refl _) [v]
      simpa using this
    rw [hk] at this
    simpa [e2] using this) (Heap.SameBut.update _ _ (Obj.mapSeq fun xs => xs.eraseIdxIfInBounds ((vs ++ [v]).toArray.size - 1)))
  exact hQ _ r.1 r.2
theorem ls_extend_tp {l b : Addr} {vs us : List Value} {Q : Value → Shared → Prop} (hl : Ls base h l vs) (hb : Tp h b us) (hz : vs.length + us.length ≤ 100000)
    (hQ : ∀ h', Ls base h' l (vs ++ us) → Ext base [l] h h' → Q .none ⟨h', g, dr, t, os⟩) : wpAny (model pw w) A (call (.builtin "list.extend") ([.ref l] ++ [.ref b])) Q E ⟨h, g, dr, t, os⟩ := by
  obtain ⟨n, e⟩ := hl.2
  obtain ⟨n2, e2⟩ := hb
  have h1 : vs.toArray.size + us.toArray.size ≤ sizeLine := by rw [List.size_toArray, List.size_toArray, sizeLine_eq]; omega
  refine call_meets PySem.F.slot_list_extend hl.typeIs PySem.F.entry_list_extend (PySem.F.args_list_extend_2 _ _) (AutoSeq1.list_extend_list_tuple_0 l _ n b _ n2 (extend_door h1) (Nat.le_trans (Nat.le_add_right _ _) h1) (Nat.le_succ_of_le h1)) ⟨e, e2, ?_⟩
  have r := hl.one (vs' := vs ++ us) (by simpa using plain_upd e fun x => x ++ us.toArray) (Heap.SameBut.update ..)
  exact hQ _ r.1 r.2
theorem ls_reverse {l : Addr} {vs : List Value} {Q : Value → Shared → Prop} (hl : Ls base h l vs) (hz : vs.length ≤ 100000)
    (hQ : ∀ h', Ls base h' l vs.reverse → Ext base [l] h h' → Q .none ⟨h', g, dr, t, os⟩) : wpAny (model pw w) A (call (.builtin "list.reverse") [.ref l]) Q E ⟨h, g, dr, t, os⟩ := by
  obtain ⟨n, e⟩ := hl.2
  refine call_meets PySem.F.slot_list_reverse hl.typeIs PySem.F.entry_list_reverse (PySem.F.args_list_reverse_1 _) (AutoListH.list_reverse_list_0 l _ n (by rw [List.size_toArray, sizeLine_eq]; omega)) ⟨e, ?_⟩
  have r := hl.one (vs' := vs.reverse) (by simpa using plain_upd e fun x => x.reverse) (Heap.SameBut.update ..)
  exact hQ _ r.1 r.2
theorem ls_copy {l : Addr} {vs : List Value} {Q : Value → Shared → Prop} (hl : Ls base h l vs) (F : Fr base L h m) (hz : vs.length ≤ 100000)
    (hQ : ∀ h' d, d = h.objs.size → L < d → Fr base L h' m → Ls base h' d vs → Ext base [] h h' → Q (.ref d) ⟨h', g, dr, t, os⟩) : wpAny (model pw w) A (call (.type "list") [.ref l]) Q E ⟨h, g, dr, t, os⟩ := by
  obtain ⟨n, e⟩ := hl.2
  exact call_list_seq l (.inl rfl) e rfl rfl (fun h' c' k e' => hQ h' _ rfl F.ns.lt (fr_ext F (W := []) (.of_keeps k) nin0) ⟨new_base (on_of F), _, e'⟩ (.of_keeps k)) (by rw [List.size_toArray, sizeLine_eq]; omega)
theorem ls_tuple {l : Addr} {vs : List Value} {Q : Value → Shared → Prop} (hl : Ls base h l vs) (F : Fr base L h m) (hz : vs.length ≤ 100000)
    (hQ : ∀ h' d, h.get? d = none → Fr base L h' m → Tp h' d vs → Ext base [] h h' → Q (.ref d) ⟨h', g, dr, t, os⟩) : wpAny (model pw w) A (call (.type "tuple") [.ref l]) Q E ⟨h, g, dr, t, os⟩ :=
  call_tuple_list (ls_list hl) (fun h' k => by
    have X : Ext base [] h (h'.push { cls := .type "tuple", data := .seq vs.toArray }) := .of_keeps fun b o e => Heap.get?_push_of_some _ (k b o e)
    refine hQ _ _ ?_ (fr_ext F X nin0) ⟨_, Heap.get?_push_size _ rfl⟩ X
    cases q : h.get? h'.objs.size with
    | none => rfl
    | some o => exact absurd (Heap.lt_size (k _ _ q)) (Nat.lt_irrefl _)) (by rw [List.size_toArray, sizeLine_eq]; omega)
theorem dict_copy {d : Addr} {kvs : List (Str × Value)} {Q : Value → Shared → Prop} (C : Bs w base) (hd : Dc w base h d kvs) (F : Fr base L h m) (hz : kvs.length ≤ 1000)
    (hQ : ∀ h' d', d' = h.objs.size → L < d' → Fr base L h' m → Dc w base h' d' kvs → Ext base [] h h' → Q (.ref d') ⟨h', g, dr, t, os⟩) : wpAny (model pw w) A (call (.type "dict") [.ref d]) Q E ⟨h, g, dr, t, os⟩ :=
  kt_call_dict hd.2.1 hd.2.2 (by rw [sizeLine_eq]; omega) fun h' hm hs => by
    have X : Ext base [] h h' := .of_keeps fun b o e => hs.extBut b o (Nat.ne_of_lt (Heap.lt_size e)) (Heap.get?_push_of_some _ e)
    exact hQ h' _ rfl F.ns.lt (fr_ext F X nin0) ⟨new_base (on_of F), beq_eq_false_iff_ne.mpr (Nat.ne_of_gt (low C (on_of F))), hm⟩ X
theorem cw_ty {i : String} {e : Expr} {rest : List Expr} {pos : Pos} {Q : Value → Shared → Prop} {s : Shared}
    (h : wpAny (model pw w) A (spliced (backTo pos (starEach (e :: rest) env))) (fun vs s₁ => wpAny (model pw w) A (call (.type i) vs) Q E s₁) E s)
    (he : starEach (e :: rest) env = (false, eval e env) :: starEach rest env) (hp : (backTo pos (starEach rest env)).any (·.1) = false) :
    wpAny (model pw w) A (callWith pos (.type i) [] (backTo pos (starEach (e :: rest) env)) []) Q E s := PyProof.Rows.callWith_type1 h he hp
theorem ls_len {l : Addr} {vs : List Value} {Q : Value → Shared → Prop} (hl : Ls base h l vs) (hz : vs.length ≤ 100000)
    (hQ : ∀ u t', Q (.int vs.length u) ⟨h, g, dr, t', os⟩) : wpAny (model pw w) A (call (.builtin "len") [.ref l]) Q E ⟨h, g, dr, t, os⟩ :=
  len_list (ls_list hl) (by rw [List.size_toArray]; omega) (by rw [List.size_toArray]; exact hQ _ _)
theorem ls_item {value slice : Expr} {l : Addr} {vs : List Value} {i : Nat} {u : Tok} {v : Value} {Q : Value → Shared → Prop} (hl : Ls base h l vs) (hv : vs[i]? = some v) (hi : i < 1000000)
    (hQ : Q v ⟨h, g, dr, t, os⟩) (hs : subscripted slice false (.ref l) (.int (i : Nat) u) = operate [.ref l, .int (i : Nat) u] (getItem (.ref l) (.int (i : Nat) u))) :
    wpAny (model pw w) A (subscriptTail value slice (.ref l) (.int (i : Nat) u)) Q E ⟨h, g, dr, t, os⟩ :=
  tail_any hl.typeIs slot_list_getitem.lookup (wpAny_getItem_list (ls_list hl) (by omega) (by omega) (by simpa using hv) hQ) hs
end
-- part L7
theorem fr_swap {base h : Heap} {L : Addr} {m : Str → Option Value} {x z : Str} {u v u' : Option Value} (F : Fr base L h (fun y => if y = x then u else if y = z then v else if y = x then u' else m y)) (hne : x ≠ z) :
    Fr base L h (fun y => if y = z then v else if y = x then u else m y) := by
  have e : (fun y => if y = x then u else if y = z then v else if y = x then u' else m y) = fun y => if y = z then v else if y = x then u else m y := by
    funext y
    by_cases a : y = x
    · subst a; simp [hne]
    · simp [a]
  rw [← e]; exact F
theorem fr_cast {base h : Heap} {L : Addr} {m m' : Str → Option Value} (F : Fr base L h m) (e : ∀ y, m y = m' y) : Fr base L h m' := by
  rw [← funext e]; exact F
noncomputable abbrev Rules := List (Str × List (List Pc))
noncomputable def Tab (w : World) (B h : Heap) (d : Addr) (R : Rules) : Prop := ∃ tbl, Dc w B h d tbl ∧ All2 (fun p q => p.1 = q.1 ∧ IsAlt h p.2 q.2) tbl R
noncomputable def OrdL (B h : Heap) (l : Addr) (R : Rules) : Prop := ∃ vs, Ls B h l vs ∧ All2 (fun v (q : Str × List (List Pc)) => ∃ u, v = .str q.1 u) vs R
structure WF (R : Rules) : Prop where
  nodup : (R.map (·.1)).Nodup
  few : R.length ≤ 4
  ways : ∀ r ∈ R, r.2.length ≤ 3
  parts : ∀ r ∈ R, ∀ way ∈ r.2, way.length ≤ 3
  names : ∀ r ∈ R, ∀ way ∈ r.2, ∀ x, (.name x ∈ way ∨ .opt x ∈ way ∨ .rep x ∈ way) → x ∈ R.map (·.1)
  texts : ∀ r ∈ R, ∀ way ∈ r.2, ∀ x, .text x ∈ way → x = Str.ofString "p" ∨ x = Str.ofString "q" ∨ x = Str.ofString "r"
  first : ∃ ws rest, R = (Str.ofString "R0", ws) :: rest
section
variable {w : World} {B h h' : Heap} {W : List Addr} {d l : Addr} {R : Rules}
theorem Tab.ext (x : Tab w B h d R) (X : Ext B W h h') (hd : d ∉ W) : Tab w B h' d R := let ⟨tbl, a, b⟩ := x; ⟨tbl, a.ext X hd, b.imp fun _ _ z => ⟨z.1, z.2.ext X⟩⟩
theorem OrdL.ext (x : OrdL B h l R) (X : Ext B W h h') (hd : l ∉ W) : OrdL B h' l R := let ⟨vs, a, b⟩ := x; ⟨vs, a.ext X hd, b⟩
theorem Dc.nodup {kvs : List (Str × Value)} (x : Dc w B h d kvs) : (kvs.map (·.1)).Nodup := let ⟨_, _, _, _, _, _, _, _, _, _, hn⟩ := x; hn
theorem valueAt_none {kvs : List (Str × Value)} {x : Str} (hx : x ∉ kvs.map (·.1)) : valueAt kvs x = none := by
  unfold valueAt
  rw [List.find?_eq_none.mpr]; rfl
  intro p hp
  simp only [decide_eq_true_eq]
  rintro rfl
  exact hx (List.mem_map.mpr ⟨p, hp, rfl⟩)
theorem All2.map {α β γ : Type} {f : α → γ} {f' : β → γ} {xs : List α} {ys : List β} {P : α → β → Prop} (x : All2 P xs ys) (k : ∀ a b, P a b → f a = f' b) : xs.map f = ys.map f' := by
  refine List.ext_getElem? fun i => ?_
  rw [List.getElem?_map, List.getElem?_map]
  cases e : xs[i]? with
  | none =>
    have : ys[i]? = none := by rw [List.getElem?_eq_none_iff] at e ⊢; rw [← x.1]; exact e
    rw [this]; rfl
  | some a =>
    obtain ⟨b, e', r⟩ := x.get e
    rw [e']; simp [k a b r]
theorem Tab.get (x : Tab w B h d R) {r : Str × List (List Pc)} (hr : r ∈ R) : ∃ tbl v, Dc w B h d tbl ∧ valueAt tbl r.1 = some v ∧ IsAlt h v r.2 := by
  obtain ⟨tbl, hd, ha⟩ := x
  obtain ⟨i, hi⟩ := List.getElem?_of_mem hr
  have hlt : i < tbl.length := by rw [ha.1]; exact (List.getElem?_eq_some_iff.mp hi).1
  have e : tbl[i]? = some tbl[i] := by simp [hlt]
  obtain ⟨q, hq, h1, h2⟩ := ha.get e
  rw [hi] at hq; cases hq
  exact ⟨tbl, tbl[i].2, hd, valueAt_of_get hd.nodup (by rw [e, ← h1]), h2⟩
theorem Tab.isSome (x : Tab w B h d R) : ∃ tbl, Dc w B h d tbl ∧ ∀ y, (valueAt tbl y).isSome = decide (y ∈ R.map (·.1)) := by
  obtain ⟨tbl, hd, ha⟩ := x
  refine ⟨tbl, hd, fun y => ?_⟩
  have hm : tbl.map (·.1) = R.map (·.1) := ha.map fun a b r => r.1
  by_cases hy : y ∈ R.map (·.1)
  · rw [decide_eq_true hy]
    rw [← hm] at hy
    obtain ⟨p, hp, rfl⟩ := List.mem_map.mp hy
    obtain ⟨i, hi⟩ := List.getElem?_of_mem hp
    rw [valueAt_of_get hd.nodup (i := i) (k := p.1) (v := p.2) hi]; rfl
  · rw [decide_eq_false hy, valueAt_none (by rw [hm]; exact hy)]; rfl
end
noncomputable def nulPc (S : Str → Bool) : Pc → Bool
  | .text _ => false
  | .name x => S x
  | .opt _ => true
  | .rep _ => true
noncomputable def nulAlt (S : Str → Bool) (ws : List (List Pc)) : Bool := ws.any fun p => p.all (nulPc S)
noncomputable def keysIn (es : List (Str × Value)) : Str → Bool := fun x => (valueAt es x).isSome
theorem nodup_len {α : Type} [DecidableEq α] : ∀ {xs ys : List α}, xs.Nodup → (∀ x ∈ xs, x ∈ ys) → xs.length ≤ ys.length
  | [], _, _, _ => Nat.zero_le _
  | x :: xs, ys, hn, hs => by
    rw [List.nodup_cons] at hn
    have hx := hs x (.head _)
    have ih := nodup_len (xs := xs) (ys := ys.erase x) hn.2 fun y hy => by
      have hne : y ≠ x := fun e => by rw [e] at hy; exact hn.1 hy
      rw [List.mem_erase_of_ne hne]
      exact hs y (.tail _ hy)
    rw [List.length_erase_of_mem hx] at ih
    have := List.length_pos_of_mem hx
    simp only [List.length_cons]; omega
theorem tt_nodup {ks : List Str} (h : ((tt ks).map (·.1)).Nodup) : ks.Nodup := by
  have e : (tt ks).map (·.1) = ks := by unfold tt; rw [List.map_map]; exact List.map_id'' (fun _ => rfl) ks
  rwa [e] at h
theorem keysIn_tt (E : List Str) (x : Str) : keysIn (tt E) x = decide (x ∈ E) := by
  unfold keysIn; rw [valueAt_tt]; split <;> simp [*]
noncomputable def inE (E : List Str) : Str → Bool := fun x => decide (x ∈ E)
/-- may the name be empty: by the rules alone -/
inductive Nul (R : Rules) : Str → Prop where
  | mk {x : Str} {ws : List (List Pc)} {way : List Pc} (hr : (x, ws) ∈ R) (hw : way ∈ ws) (ht : ∀ y, .text y ∉ way) (hn : ∀ y, .name y ∈ way → Nul R y) : Nul R x
theorem Nul.of_closed {R : Rules} {E : List Str} (hc : ∀ r ∈ R, nulAlt (inE E) r.2 = true → r.1 ∈ E) {x : Str} (n : Nul R x) : x ∈ E := by
  induction n with
  | @mk x ws way hr hw ht hn ih =>
    refine hc (x, ws) hr ?_
    unfold nulAlt
    rw [List.any_eq_true]
    refine ⟨way, hw, ?_⟩
    rw [List.all_eq_true]
    intro p hp
    cases p with
    | text y => exact absurd hp (ht y)
    | name y => simpa [nulPc, inE] using ih y hp
    | opt y => rfl
    | rep y => rfl
theorem Nul.of_alt {R : Rules} {E : List Str} (hs : ∀ x ∈ E, Nul R x) {r : Str × List (List Pc)} (hr : r ∈ R) (h : nulAlt (inE E) r.2 = true) : Nul R r.1 := by
  unfold nulAlt at h
  obtain ⟨way, hw, ha⟩ := List.any_eq_true.mp h
  rw [List.all_eq_true] at ha
  refine Nul.mk (ws := r.2) hr hw (fun y hy => ?_) fun y hy => ?_
  · exact absurd (ha _ hy) (by simp [nulPc])
  · exact hs y (by simpa [nulPc, inE] using ha _ hy)
theorem fr_name1 {base h : Heap} {L : Addr} {m : Str → Option Value} {x : Str} {v : Option Value} (F : Fr base L h (fun y => if y = x then v else m y)) : ∃ m0, m0 = m ∧ Fr base L h (fun y => if y = x then v else m0 y) := ⟨m, rfl, F⟩
/-- a frame with a loop's name and a flag -/
noncomputable def FrV (base : Heap) (L : Addr) (h : Heap) (m : Str → Option Value) (x z : Str) (v : Value) : Prop := ∃ u, Fr base L h (fun y => if y = x then u else if y = z then some v else m y)
theorem FrV.init {base h : Heap} {L : Addr} {m : Str → Option Value} {x z : Str} {v : Value} (F : Fr base L h (fun y => if y = z then some v else m y)) : FrV base L h m x z v := ⟨_, fr_init F⟩
theorem FrV.of {base h : Heap} {L : Addr} {m : Str → Option Value} {x z : Str} {v : Value} {u : Option Value} (F : Fr base L h (fun y => if y = x then u else if y = z then some v else m y)) : FrV base L h m x z v := ⟨u, F⟩
/-- the flag is stored anew -/
theorem FrV.flag {base h : Heap} {L : Addr} {m : Str → Option Value} {x z : Str} {v v' : Value} {u : Option Value} (F : Fr base L h (fun y => if y = z then some v' else if y = x then u else if y = z then some v else m y)) (hne : z ≠ x) : FrV base L h m x z v' := ⟨u, fr_swap F hne⟩
theorem FrV.soft {base h h' : Heap} {L : Addr} {m : Str → Option Value} {x z : Str} {v : Value} (F : FrV base L h m x z v) (S : Soft base h h') : FrV base L h' m x z v := let ⟨u, F⟩ := F; ⟨u, fr_soft F S⟩
theorem FrV.lt {base h : Heap} {L : Addr} {m : Str → Option Value} {x z : Str} {v : Value} (F : FrV base L h m x z v) : L < h.objs.size := let ⟨_, F⟩ := F; F.ns.lt
theorem FrV.on {base h : Heap} {L : Addr} {m : Str → Option Value} {x z : Str} {v : Value} (F : FrV base L h m x z v) : On base h := let ⟨_, F⟩ := F; on_of F
theorem FrV.ext {base h h' : Heap} {L : Addr} {m : Str → Option Value} {x z : Str} {v : Value} {W : List Addr} (F : FrV base L h m x z v) (X : Ext base W h h') (hL : L ∉ W) : FrV base L h' m x z v := let ⟨u, F⟩ := F; ⟨u, fr_ext F X hL⟩
theorem addK_new {E : List Str} {x : Str} (h : x ∉ E) : addK E x = E ++ [x] := by unfold addK; rw [if_neg h]
theorem mem2 {a b x : Addr} (h : x = a ∨ x = b) : x ∈ [a, b] := by rcases h with rfl | rfl <;> simp
theorem OrdL.get {B h : Heap} {l : Addr} {R : Rules} (x : OrdL B h l R) : ∃ vs, Ls B h l vs ∧ vs.length = R.length ∧ ∀ (i : Nat) (v : Value), vs[i]? = some v → ∃ r u, R[i]? = some r ∧ v = .str r.1 u := by
  obtain ⟨vs, a, b⟩ := x
  refine ⟨vs, a, b.1, fun i v e => ?_⟩
  obtain ⟨r, hr, u, hu⟩ := b.get e
  exact ⟨r, u, hr, hu⟩
-- part L8
/-- names to dicts of the call's own -/
structure Fam (w : World) (B h : Heap) (d : Addr) (ns : List Str) (Ds : List Addr) (FS : List (List Str)) : Prop where
  dict : Dc w B h d (ns.zip (Ds.map Value.ref))
  len : Ds.length = ns.length
  each : All2 (fun a ks => Ks w B h a ks) Ds FS
  nodup : Ds.Nodup
  off : d ∉ Ds
noncomputable def fsAt (ns : List Str) (FS : List (List Str)) (x : Str) : List Str := match (ns.zip FS).find? fun p => p.1 = x with | some p => p.2 | none => []
section
variable {w : World} {B h h' : Heap} {W : List Addr} {d : Addr} {ns : List Str} {Ds : List Addr} {FS : List (List Str)}
theorem Fam.ext (x : Fam w B h d ns Ds FS) (X : Ext B W h h') (hd : d ∉ W) (hD : ∀ a ∈ Ds, a ∉ W) : Fam w B h' d ns Ds FS where
  dict := x.dict.ext X hd
  len := x.len
  each := ⟨x.each.1, fun i a ks e e' => (x.each.2 i a ks e e').ext X (hD a (List.mem_of_getElem? e))⟩
  nodup := x.nodup
  off := x.off
theorem Fam.soft (x : Fam w B h d ns Ds FS) (S : Soft B h h') : Fam w B h' d ns Ds FS where
  dict := x.dict.soft S
  len := x.len
  each := x.each.imp fun _ _ z => z.soft S
  nodup := x.nodup
  off := x.off
theorem zip_fst_nodup {α β : Type} : ∀ {xs : List α} {ys : List β}, xs.Nodup → ((xs.zip ys).map (·.1)).Nodup
  | [], _, _ => by simp
  | _ :: _, [], _ => by simp
  | x :: xs, y :: ys, hn => by
    rw [List.nodup_cons] at hn
    rw [List.zip_cons_cons, List.map_cons, List.nodup_cons]
    refine ⟨fun hm => hn.1 ?_, zip_fst_nodup hn.2⟩
    obtain ⟨p, hp, rfl⟩ := List.mem_map.mp hm
    exact (List.of_mem_zip (a := p.1) (b := p.2) hp).1
theorem fsAt_get {i : Nat} {x : Str} {ks : List Str} (hn : ns.Nodup) (e : ns[i]? = some x) (e' : FS[i]? = some ks) : fsAt ns FS x = ks := by
  have hz : (ns.zip FS)[i]? = some (x, ks) := by rw [List.getElem?_zip_eq_some]; exact ⟨e, e'⟩
  have hk : ((ns.zip FS).map (·.1)).Nodup := by
    exact zip_fst_nodup hn
  unfold fsAt
  cases q : (ns.zip FS).find? fun p => decide (p.1 = x) with
  | none =>
    rw [List.find?_eq_none] at q
    exact absurd (q _ (List.mem_of_getElem? hz)) (by simp)
  | some p =>
    have h1 := List.find?_some q
    have h2 := List.mem_of_find?_eq_some q
    simp only [decide_eq_true_eq] at h1
    obtain ⟨j, hj⟩ := List.getElem?_of_mem h2
    have hlt1 : i < ((ns.zip FS).map (·.1)).length := by rw [List.length_map]; exact (List.getElem?_eq_some_iff.mp hz).1
    have hlt2 : j < ((ns.zip FS).map (·.1)).length := by rw [List.length_map]; exact (List.getElem?_eq_some_iff.mp hj).1
    have : i = j := by
      refine (List.getElem_inj hk (h₀ := hlt1) (h₁ := hlt2)).mp ?_
      have a1 : ((ns.zip FS).map (·.1))[i]? = some x := by rw [List.getElem?_map, hz]; rfl
      have a2 : ((ns.zip FS).map (·.1))[j]? = some x := by rw [List.getElem?_map, hj]; simp [h1]
      rw [List.getElem?_eq_getElem hlt1] at a1
      rw [List.getElem?_eq_getElem hlt2] at a2
      rw [Option.some.inj a1, Option.some.inj a2]
    subst this
    rw [hz] at hj; cases hj; rfl
/-- a name's dict -/
theorem Fam.get (x : Fam w B h d ns Ds FS) (hn : ns.Nodup) {y : Str} (hy : y ∈ ns) : ∃ (i : Nat) (a : Addr), ns[i]? = some y ∧ Ds[i]? = some a ∧ valueAt (ns.zip (Ds.map Value.ref)) y = some (.ref a) ∧ a ∈ Ds ∧ Ks w B h a (fsAt ns FS y) := by
  obtain ⟨i, hi⟩ := List.getElem?_of_mem hy
  have hlt : i < Ds.length := by rw [x.len]; exact (List.getElem?_eq_some_iff.mp hi).1
  have ha : Ds[i]? = some Ds[i] := by simp [hlt]
  obtain ⟨ks, hk, hK⟩ := x.each.get ha
  refine ⟨i, Ds[i], hi, ha, ?_, List.getElem_mem hlt, ?_⟩
  · refine valueAt_of_get (i := i) x.dict.nodup ?_
    rw [List.getElem?_zip_eq_some]
    exact ⟨hi, by rw [List.getElem?_map, ha]; rfl⟩
  · rw [fsAt_get hn hi hk]; exact hK
end
/-! what may begin a part -/
noncomputable def firstPc (Fs : Str → List Str) : Pc → List Str
  | .text x => [x]
  | .name x => Fs x
  | .opt x => Fs x
  | .rep x => Fs x
noncomputable def firstSeq (S : Str → Bool) (Fs : Str → List Str) : List Str → List Pc → List Str
  | acc, [] => acc
  | acc, p :: ps => if nulPc S p then firstSeq S Fs (mergeK acc (firstPc Fs p)) ps else mergeK acc (firstPc Fs p)
noncomputable def firstAlt (S : Str → Bool) (Fs : Str → List Str) (ws : List (List Pc)) : List Str := ws.foldl (fun acc way => mergeK acc (firstSeq S Fs [] way)) []
section
variable {w : World} {A : Around} {k : Nat} {base h : Heap} {g : Array GenState} {dr : Drawn} {t : Nat} {os : OsState} {E : Value → Shared → Prop} {env : Env} {L : Addr} {m : Str → Option Value}
theorem dict_one (C : Bs w base) {ke ve : Expr} {pos : Pos} {Q : Value → Shared → Prop} (F : Fr base L h m)
    (hsh : (evalEachOpt [some ke] env).zip ((evalEach [ve] env).map fun v => do let x ← v; standAt pos; pure x) = [(some (eval ke env), do let x ← eval ve env; standAt pos; pure x)])
    (hk : ∀ h' d, d = h.objs.size → L < d → Fr base L h' m → Dc w base h' d [] → Ext base [] h h' →
      wpAny (model pw w) A (eval ke env) (fun kv s₁ => wpAny (model pw w) A (eval ve env) (fun vv s₂ => ∃ x u h₂ t₂, kv = .str x u ∧ s₂ = ⟨h₂, g, dr, t₂, os⟩ ∧ Dc w base h₂ d [] ∧
        ∀ h₃ t₃, Dc w base h₃ d [(x, vv)] → Ext base [d] h₂ h₃ → Q (.ref d) ⟨h₃, g, dr, t₃, os⟩) E s₁) E ⟨h', g, dr, t, os⟩) :
    wpAny (model pw w) A (eval (.Dict [some ke] [ve] pos) env) Q E ⟨h, g, dr, t, os⟩ := by
  refine wpAny_Dict_pairs (knd := SK w) (pairs := [(eval ke env, do let x ← eval ve env; standAt pos; pure x)]) (by rw [hsh]; rfl) (by simp) (by simp) ?_
  refine evalPairs_cons ?_
  have hDn : Dc w base (h.push { cls := .type "dict", data := .dict #[] }) h.objs.size [] := ⟨new_base (on_of F), beq_eq_false_iff_ne.mpr (Nat.ne_of_gt (low C (on_of F))), Heap.DictOf.new h⟩
  refine wpAny_mono (hk _ _ rfl F.ns.lt (F.push _) hDn (Ext.push _ _ _ _)) (fun kv s₁ z => ?_) fun _ _ x => x
  refine wpAny_bind (wpAny_mono z (fun vv s₂ z₂ => ?_) fun _ _ x => x)
  refine wpAny_bind (wpAny_standAt (wpAny_pure (evalPairs_nil ?_)))
  obtain ⟨x, u, h₂, t₂, rfl, rfl, hD, hq⟩ := z₂
  refine ⟨[(x, vv)], ?_, hD.2.2, fun h' hm hs => ?_⟩
  · simp [Carries, strKind_is]
  · have hm' : h'.DictOf (SK w) h.objs.size [(x, vv)] := by simpa [merged, stored] using hm
    have r := hD.one hm' hs
    exact hq _ _ r.1 r.2
end
theorem IsNm.pc {h : Heap} {v : Value} {x : Str} (q : IsNm h (Str.ofString "name") v x) : IsPc h v (.name x) := q
noncomputable def PcIn (ns : List Str) : Pc → Prop
  | .text _ => True
  | .name x => x ∈ ns
  | .opt x => x ∈ ns
  | .rep x => x ∈ ns
theorem fsAt_len {ns : List Str} {FS : List (List Str)} {n : Nat} (hB : ∀ ks ∈ FS, ks.length ≤ n) (x : Str) : (fsAt ns FS x).length ≤ n := by
  unfold fsAt
  split
  · rename_i p hp
    exact hB _ (List.of_mem_zip (a := p.1) (b := p.2) (List.mem_of_find?_eq_some hp)).2
  · exact Nat.zero_le _
theorem firstPc_len {ns : List Str} {FS : List (List Str)} (hB : ∀ ks ∈ FS, ks.length ≤ 8) (p : Pc) : (firstPc (fsAt ns FS) p).length ≤ 8 := by
  cases p with
  | text x => simp [firstPc]
  | name x => exact fsAt_len hB x
  | opt x => exact fsAt_len hB x
  | rep x => exact fsAt_len hB x
theorem firstSeq_len {S : Str → Bool} {Fs : Str → List Str} (hB : ∀ p, (firstPc Fs p).length ≤ 8) : ∀ (ps : List Pc) (acc : List Str), (firstSeq S Fs acc ps).length ≤ acc.length + 8 * ps.length
  | [], acc => by simp [firstSeq]
  | p :: ps, acc => by
    have h1 := (mergeK_len (firstPc Fs p) acc).2
    have h2 := hB p
    have h3 := firstSeq_len (S := S) hB ps (mergeK acc (firstPc Fs p))
    unfold firstSeq
    simp only [List.length_cons]
    split <;> omega
theorem all_inE (E : List Str) : nulPc (keysIn (tt E)) = nulPc (inE E) := by
  have e : keysIn (tt E) = inE E := funext fun x => keysIn_tt E x
  rw [e]
theorem firstSeq_nil {S : Str → Bool} {Fs : Str → List Str} {acc : List Str} : firstSeq S Fs acc [] = acc := by simp [firstSeq]
theorem firstSeq_cons {S : Str → Bool} {Fs : Str → List Str} {acc : List Str} {p : Pc} {ps : List Pc} : firstSeq S Fs acc (p :: ps) = if nulPc S p = true then firstSeq S Fs (mergeK acc (firstPc Fs p)) ps else mergeK acc (firstPc Fs p) := by rw [firstSeq]
-- part L9
noncomputable def T3 : List Str := [Str.ofString "p", Str.ofString "q", Str.ofString "r"]
noncomputable def SubT (T : List Str) (FS : List (List Str)) : Prop := ∀ ks ∈ FS, ∀ x ∈ ks, x ∈ T
noncomputable def total (FS : List (List Str)) : Nat := (FS.map List.length).sum
section
variable {w : World} {B h h' : Heap} {W : List Addr} {d a : Addr} {ns : List Str} {Ds : List Addr} {FS : List (List Str)}
theorem stored_new {kvs : List (Str × Value)} {x : Str} {v : Value} (hx : x ∉ kvs.map (·.1)) : stored kvs x v = kvs ++ [(x, v)] := by
  unfold stored
  rw [if_neg]
  rw [List.any_eq_true]
  rintro ⟨p, hp, hq⟩
  exact hx (List.mem_map.mpr ⟨p, hp, of_decide_eq_true hq⟩)
theorem zip_fst {α β : Type} : ∀ {xs : List α} {ys : List β}, xs.length = ys.length → (xs.zip ys).map (·.1) = xs
  | [], [], _ => rfl
  | x :: xs, y :: ys, e => by rw [List.zip_cons_cons, List.map_cons, zip_fst (by simpa using e)]
theorem Fam.keys (f : Fam w B h d ns Ds FS) : (ns.zip (Ds.map Value.ref)).map (·.1) = ns := zip_fst (by rw [List.length_map]; exact f.len.symm)
theorem Fam.nil (hd : Dc w B h d []) : Fam w B h d [] [] [] := ⟨hd, rfl, All2.nil, List.nodup_nil, List.not_mem_nil⟩
theorem Fam.snoc {x : Str} (hx : x ∉ ns) (f : Fam w B h d ns Ds FS) (hK : Ks w B h a []) (ha : a ∉ Ds) (hda : d ≠ a)
    (hd' : Dc w B h' d (stored (ns.zip (Ds.map Value.ref)) x (.ref a))) (X : Ext B [d] h h') : Fam w B h' d (ns ++ [x]) (Ds ++ [a]) (FS ++ [[]]) where
  dict := by
    rw [stored_new (by rw [f.keys]; exact hx)] at hd'
    rw [List.map_append, List.zip_append (by rw [List.length_map]; exact f.len.symm)]
    exact hd'
  len := by simp [f.len]
  each := by
    refine All2.snoc ⟨f.each.1, fun i b ks e e' => (f.each.2 i b ks e e').ext X (nin1 ?_)⟩ (hK.ext X (nin1 hda.symm))
    rintro rfl
    exact f.off (List.mem_of_getElem? e)
  nodup := by
    rw [List.nodup_append]
    exact ⟨f.nodup, by simp, fun b hb c hc => by rw [List.mem_singleton.mp hc]; rintro rfl; exact ha hb⟩
  off := by
    rw [List.mem_append]
    rintro (q | q)
    · exact f.off q
    · exact hda (List.mem_singleton.mp q)
theorem Fam.setAt {i : Nat} {ks' : List Str} (f : Fam w B h d ns Ds FS) (hi : Ds[i]? = some a) (X : Ext B [a] h h') (hK : Ks w B h' a ks') : Fam w B h' d ns Ds (FS.set i ks') where
  dict := f.dict.ext X (nin1 fun e => f.off (e ▸ List.mem_of_getElem? hi))
  len := f.len
  each := by
    refine ⟨by simp [f.each.1], fun j b ks e e' => ?_⟩
    rw [List.getElem?_set] at e'
    by_cases hij : i = j
    · subst hij
      rw [hi] at e; cases e
      rw [if_pos rfl] at e'
      split at e'
      · cases e'; exact hK
      · cases e'
    · rw [if_neg hij] at e'
      refine (f.each.2 j b ks e e').ext X (nin1 ?_)
      rintro rfl
      obtain ⟨h1, e1⟩ := List.getElem?_eq_some_iff.mp hi
      obtain ⟨h2, e2⟩ := List.getElem?_eq_some_iff.mp e
      exact hij ((List.getElem_inj f.nodup).mp (e1.trans e2.symm))
  nodup := f.nodup
  off := f.off
theorem Fam.lts (f : Fam w B h d ns Ds FS) : ∀ b ∈ Ds, b < h.objs.size := fun b hb => by
  obtain ⟨j, hj⟩ := List.getElem?_of_mem hb
  obtain ⟨ks, _, hk⟩ := f.each.get hj
  exact hk.lt
theorem Fam.live (f : Fam w B h d ns Ds FS) : ∀ b ∈ Ds, h.get? b ≠ none := fun b hb => by
  obtain ⟨j, hj⟩ := List.getElem?_of_mem hb
  obtain ⟨ks, _, hk⟩ := f.each.get hj
  exact hk.live
theorem Fam.ksNodup (f : Fam w B h d ns Ds FS) : ∀ ks ∈ FS, ks.Nodup := fun ks hk => by
  obtain ⟨j, hj⟩ := List.getElem?_of_mem hk
  have hlt : j < Ds.length := by rw [f.each.1]; exact (List.getElem?_eq_some_iff.mp hj).1
  exact tt_nodup (f.each.2 j Ds[j] ks (by simp [hlt]) hj).nodup
theorem Fam.fsLen (f : Fam w B h d ns Ds FS) : FS.length = ns.length := by rw [← f.each.1, f.len]
theorem Fam.small {T : List Str} (f : Fam w B h d ns Ds FS) (hs : SubT T FS) : ∀ ks ∈ FS, ks.length ≤ T.length := fun ks hk => nodup_len (f.ksNodup ks hk) (hs ks hk)
theorem total_le {n : Nat} : ∀ {FS : List (List Str)}, (∀ ks ∈ FS, ks.length ≤ n) → total FS ≤ n * FS.length
  | [], _ => by simp [total]
  | ks :: FS, hs => by
    have h1 := hs ks (.head _)
    have h2 := total_le (FS := FS) fun k hk => hs k (.tail _ hk)
    simp only [total, List.map_cons, List.sum_cons, List.length_cons, Nat.mul_succ] at h2 ⊢
    omega
theorem total_set : ∀ {FS : List (List Str)} {i : Nat} {ks ks' : List Str}, FS[i]? = some ks → total (FS.set i ks') + ks.length = total FS + ks'.length
  | [], i, ks, ks', e => by simp at e
  | k :: FS, 0, ks, ks', e => by
    simp at e; subst e
    simp only [total, List.set_cons_zero, List.map_cons, List.sum_cons]; omega
  | k :: FS, i + 1, ks, ks', e => by
    have h := total_set (FS := FS) (i := i) (ks := ks) (ks' := ks') (by simpa using e)
    simp only [total, List.set_cons_succ, List.map_cons, List.sum_cons] at h ⊢; omega
theorem SubT.set {T : List Str} {i : Nat} {ks : List Str} (hs : SubT T FS) (hk : ∀ x ∈ ks, x ∈ T) : SubT T (FS.set i ks) := fun js hj x hx => by
  rcases List.mem_or_eq_of_mem_set hj with hj | rfl
  · exact hs js hj x hx
  · exact hk x hx
theorem SubT.at {T : List Str} (hs : SubT T FS) (x : Str) : ∀ y ∈ fsAt ns FS x, y ∈ T := fun y hy => by
  unfold fsAt at hy
  split at hy
  · rename_i p hp
    exact hs _ (List.of_mem_zip (a := p.1) (b := p.2) (List.mem_of_find?_eq_some hp)).2 y hy
  · cases hy
theorem firstPc_sub {T : List Str} {Fs : Str → List Str} (hF : ∀ x, ∀ y ∈ Fs x, y ∈ T) {p : Pc} (ht : ∀ x, p = .text x → x ∈ T) : ∀ y ∈ firstPc Fs p, y ∈ T := by
  cases p with
  | text x => intro y hy; rw [List.mem_singleton.mp hy]; exact ht x rfl
  | name x => exact hF x
  | opt x => exact hF x
  | rep x => exact hF x
theorem firstSeq_sub {T : List Str} {S : Str → Bool} {Fs : Str → List Str} (hF : ∀ x, ∀ y ∈ Fs x, y ∈ T) : ∀ (ps : List Pc) (acc : List Str), (∀ x, .text x ∈ ps → x ∈ T) → (∀ y ∈ acc, y ∈ T) → ∀ y ∈ firstSeq S Fs acc ps, y ∈ T
  | [], acc, _, ha => by rw [firstSeq_nil]; exact ha
  | p :: ps, acc, ht, ha => by
    have hm : ∀ y ∈ mergeK acc (firstPc Fs p), y ∈ T := fun y hy => by
      rcases (mergeK_mem _ _ _).mp hy with q | q
      · exact ha y q
      · exact firstPc_sub hF (fun x e => ht x (e ▸ .head _)) y q
    rw [firstSeq_cons]
    split
    · exact firstSeq_sub hF ps _ (fun x hx => ht x (.tail _ hx)) hm
    · exact hm
theorem firstAlt_sub {T : List Str} {S : Str → Bool} {Fs : Str → List Str} (hF : ∀ x, ∀ y ∈ Fs x, y ∈ T) (ws : List (List Pc)) (ht : ∀ way ∈ ws, ∀ x, .text x ∈ way → x ∈ T) : ∀ y ∈ firstAlt S Fs ws, y ∈ T := by
  unfold firstAlt
  have gen : ∀ (ws : List (List Pc)) (acc : List Str), (∀ way ∈ ws, ∀ x, .text x ∈ way → x ∈ T) → (∀ y ∈ acc, y ∈ T) → ∀ y ∈ ws.foldl (fun acc way => mergeK acc (firstSeq S Fs [] way)) acc, y ∈ T := by
    intro ws
    induction ws with
    | nil => intro acc _ ha; exact ha
    | cons way ws ih =>
      intro acc ht ha
      refine ih _ (fun w hw => ht w (.tail _ hw)) fun y hy => ?_
      rcases (mergeK_mem _ _ _).mp hy with q | q
      · exact ha y q
      · exact firstSeq_sub hF way [] (ht way (.head _)) (fun _ h => nomatch h) y q
  exact gen ws [] ht fun _ h => nomatch h
theorem WF.text3 {R : Rules} (hR : WF R) {r : Str × List (List Pc)} (hr : r ∈ R) : ∀ way ∈ r.2, ∀ x, .text x ∈ way → x ∈ T3 := fun way hw x hx => by
  rcases hR.texts r hr way hw x hx with rfl | rfl | rfl <;> simp [T3]
theorem WF.pcIn {R : Rules} (hR : WF R) {r : Str × List (List Pc)} (hr : r ∈ R) : ∀ way ∈ r.2, ∀ p ∈ way, PcIn (R.map (·.1)) p := fun way hw p hp => by
  cases p with
  | text x => trivial
  | name x => exact hR.names r hr way hw x (.inl hp)
  | opt x => exact hR.names r hr way hw x (.inr (.inl hp))
  | rep x => exact hR.names r hr way hw x (.inr (.inr hp))
end
theorem fr_comm {base h : Heap} {L : Addr} {m : Str → Option Value} {x z : Str} {u v : Option Value} (F : Fr base L h (fun y => if y = z then v else if y = x then u else m y)) (hne : z ≠ x) :
    Fr base L h (fun y => if y = x then u else if y = z then v else m y) := by
  refine fr_cast F fun y => ?_
  by_cases a : y = x
  · subst a; simp [hne.symm]
  · simp [a]
theorem mem_cons2 {L : Addr} {Ds : List Addr} {P : Addr → Prop} (h1 : P L) (h2 : ∀ a ∈ Ds, P a) : ∀ a ∈ L :: Ds, P a := fun a m => by
  rcases List.mem_cons.mp m with rfl | m
  · exact h1
  · exact h2 a m
theorem sub_cons {L : Addr} {Ds : List Addr} : ∀ b ∈ [L], b ∈ L :: Ds := fun b m => by rw [List.mem_singleton.mp m]; exact .head _
theorem sub_in {L d : Addr} {Ds : List Addr} (hd : d ∈ Ds) : ∀ b ∈ [d], b ∈ L :: Ds := fun b m => by rw [List.mem_singleton.mp m]; exact .tail _ hd
theorem not_cons {a L : Addr} {Ds : List Addr} (h1 : a ≠ L) (h2 : a ∉ Ds) : a ∉ L :: Ds := fun m => by
  rcases List.mem_cons.mp m with q | q
  · exact h1 q
  · exact h2 q
theorem not_new {B h : Heap} {Ds : List Addr} {a : Addr} (hD : ∀ b ∈ Ds, h.objs.size < b) (ha : a < h.objs.size) : a ∉ Ds := fun m => Nat.lt_irrefl _ (Nat.lt_trans ha (hD a m))
-- part L10
noncomputable def lk (x : Str) (fl : List (Str × Value)) : Option Value := (fl.find? fun p => p.1 = x).map (·.2)
noncomputable def EntOf (e : DictEntry) (p : Str × Value) : Prop := (∃ u, e.key = .str p.1 u) ∧ e.val = p.2
/-- an object of the class, its fields in order -/
structure InstD {w : World} {base : Heap} (C : Bs w base) (h : Heap) (x dx : Addr) (fl : List (Str × Value)) : Prop where
  nx : base.get? x = none
  nd : base.get? dx = none
  ne : x ≠ dx
  obj : h.get? x = some (instObj C.cls dx)
  dict : ∃ es n, h.get? dx = some (dictOf es n) ∧ All2 EntOf es fl
theorem ents_getL {es : List DictEntry} {fl : List (Str × Value)} (a : All2 EntOf es fl) (x : Str) : getL x es = some (lk x fl) := by
  induction es generalizing fl with
  | nil =>
    have : fl = [] := List.length_eq_zero_iff.mp a.1.symm
    subst this; rfl
  | cons e es ih =>
    cases fl with
    | nil => have := a.1; simp at this
    | cons p fl =>
      have h0 := a.2 0 e p rfl rfl
      have hr : All2 EntOf es fl := ⟨by have := a.1; simpa using this, fun i v q e1 e2 => a.2 (i + 1) v q (by simpa using e1) (by simpa using e2)⟩
      have ih := ih hr
      obtain ⟨⟨u, hk⟩, hv⟩ := h0
      have hks : e.key.isStr x = (p.1 == x) := by rw [hk]; rfl
      unfold getL lk at ih ⊢
      rw [List.find?_cons, List.find?_cons, hks]
      by_cases hx : p.1 = x
      · rw [show (p.1 == x) = true from by simpa using hx, decide_eq_true hx]
        dsimp only
        rw [hv]; rfl
      · rw [show (p.1 == x) = false from by simpa using hx, decide_eq_false hx]
        have hrk : e.refKey = false := by simp [DictEntry.refKey, hk]
        dsimp only
        rw [List.any_cons, hrk, Bool.false_or]
        exact ih
section
variable {w : World} {A : Around} {k : Nat} {base h h' : Heap} {g : Array GenState} {dr : Drawn} {t : Nat} {os : OsState} {E : Value → Shared → Prop} {env : Env} {L : Addr} {m : Str → Option Value} {C : Bs w base} {x dx : Addr} {fl : List (Str × Value)} {W : List Addr}
theorem InstD.ext (I : InstD C h x dx fl) (X : Ext base W h h') (h1 : x ∉ W) (h2 : dx ∉ W) : InstD C h' x dx fl where
  nx := I.nx
  nd := I.nd
  ne := I.ne
  obj := X.same h1 I.obj
  dict := let ⟨es, n, e, a⟩ := I.dict; ⟨es, n, X.same h2 e, a⟩
theorem InstD.soft (I : InstD C h x dx fl) (X : Soft base h h') : InstD C h' x dx fl where
  nx := I.nx
  nd := I.nd
  ne := I.ne
  obj := X _ _ I.obj (.inl fun vs q => by cases q)
  dict := let ⟨es, n, e, a⟩ := I.dict; ⟨es, n, X _ _ e (.inl fun vs q => by cases q), a⟩
theorem InstD.at (I : InstD C h x dx fl) : ∃ es n, InstAt h x (instObj C.cls dx) C.cls (some (dictOf es n)) ∧ All2 EntOf es fl :=
  let ⟨es, n, e, a⟩ := I.dict; ⟨es, n, ⟨I.obj, rfl, rfl, e⟩, a⟩
theorem get_fld (I : InstD C h x dx fl) (F : Fr base L h m) {nm : Str} {v : Value} {expr : Bool} {Q : Value → Shared → Prop} (hn : nm ∈ fieldNames) (hv : lk nm fl = some v) (hh : handedIn v = true)
    (hQ : ∀ t', Q v ⟨h, g, dr, t', os⟩) : wpAny (model pw w) A (getAttr (.ref x) nm expr) Q E ⟨h, g, dr, t, os⟩ := by
  obtain ⟨es, n, I, a⟩ := I.at
  exact get_own F C.X I C.plain C.hasD (C.fld nm hn).1 rfl (by rw [ents_getL a, hv]) hh (hQ _)
theorem gm_inst (I : InstD C h x dx fl) (F : Fr base L h m) {i : Nat} {nm : Str} {pl : Sem Bool} {Q : Value × List Value → Shared → Prop} (hi : i ∈ [0, 1, 2, 3]) (hn : nm = (mt i).name) (hv : lk nm fl = none)
    (hQ : Q (.ref (C.m i), [.ref x]) ⟨h, g, dr, t, os⟩) : wpAny (model pw w) A (getMethod (.ref x) nm pl) Q E ⟨h, g, dr, t, os⟩ := by
  obtain ⟨es, n, I, a⟩ := I.at
  subst hn
  exact method_inst F C.X I C.plain (C.mq i hi).2.1 (C.mq i hi).2.2.1 (by rw [ents_getL a, hv]) hQ
end
/-! what the library says of a ledger, said of the whole heap -/
noncomputable def others (base h : Heap) (L d : Addr) : List (Addr × Obj) :=
  (List.range h.objs.size).filterMap fun a => if a = L ∨ a = d then none else match base.get? a with | some _ => none | none => (h.get? a).map fun o => (a, o)
section
variable {base h h' : Heap} {L d : Addr} {m m' : Str → Option Value} {o o' : Obj}
theorem mem_others {a : Addr} {p : Obj} : (a, p) ∈ others base h L d ↔ a ≠ L ∧ a ≠ d ∧ base.get? a = none ∧ h.get? a = some p := by
  unfold others
  rw [List.mem_filterMap]
  constructor
  · rintro ⟨b, _, hb⟩
    split at hb
    · cases hb
    · rename_i hne
      split at hb
      · cases hb
      · rename_i hbase
        obtain ⟨q, hq, e⟩ := Option.map_eq_some_iff.mp hb
        cases e
        exact ⟨fun e => hne (.inl e), fun e => hne (.inr e), hbase, hq⟩
  · rintro ⟨h1, h2, h3, h4⟩
    refine ⟨a, List.mem_range.mpr (Heap.lt_size h4), ?_⟩
    rw [if_neg (fun q => q.elim h1 h2), h3, h4]; rfl
theorem news_others (F : Fr base L h m) (hd : h.get? d = some o) (hb : base.get? d = none) (hL : d ≠ L) : News base L h ((d, o) :: others base h L d) := by
  intro p hp
  rcases List.mem_cons.mp hp with rfl | hp
  · exact ⟨hd, hL, hb⟩
  · have := mem_others.mp (show (p.1, p.2) ∈ _ from hp)
    exact ⟨this.2.2.2, this.1, this.2.2.1⟩
theorem others_ne : ∀ p ∈ others base h L d, p.1 ≠ d := fun p hp => (mem_others.mp (show (p.1, p.2) ∈ _ from hp)).2.1
theorem ext_news (F : Fr base L h m) (F' : Fr base L h' m') (N : News base L h' ((d, o') :: others base h L d)) (hd : h.get? d = some o) (hL : d ≠ L) (hb : base.get? d = none) (ht : ¬ Tuplish o) : Ext base [d, L] h h' := by
  intro a p e
  by_cases h1 : a = d
  · subst h1
    rw [hd] at e; cases e
    refine ⟨o', (N _ (.head _)).1, fun c => ?_⟩
    rcases c with c | c | c
    · exact absurd (List.Mem.head _) c
    · exact absurd c ht
    · rw [hb] at c; cases c
  · by_cases h2 : a = L
    · subst h2
      obtain ⟨oo, es, ep, e1, e2, _⟩ := F.ns
      obtain ⟨oo', es', ep', e1', e2', _⟩ := F'.ns
      rw [e1] at e; cases e
      refine ⟨oo', e1', fun c => ?_⟩
      rcases c with c | c | c
      · exact absurd (List.Mem.tail _ (List.Mem.head _)) c
      · exact absurd c (not_tuplish_dict e2)
      · rw [fr_none F] at c; cases c
    · cases hq : base.get? a with
      | none =>
        exact ⟨p, (N _ (.tail _ (mem_others.mpr ⟨h2, h1, hq, e⟩))).1, fun _ => rfl⟩
      | some q =>
        have := F.keep a q hq
        rw [e] at this; cases this
        exact ⟨p, F'.keep a p hq, fun _ => rfl⟩
end
section
variable {w : World} {A : Around} {k : Nat} {base h h' : Heap} {g : Array GenState} {dr : Drawn} {t : Nat} {os : OsState} {E : Value → Shared → Prop} {env : Env} {L : Addr} {m : Str → Option Value} {C : Bs w base} {x dx : Addr} {fl : List (Str × Value)} {W : List Addr}
theorem ents_put {es : List DictEntry} {fl : List (Str × Value)} (a : All2 EntOf es fl) {nm : Str} {v : Value} {hs : Int} {u : Tok} (hn : lk nm fl = none) : putL nm hs (.str nm u) v es = es ++ [⟨hs, .str nm u, v⟩] := by
  induction es generalizing fl with
  | nil => rfl
  | cons e es ih =>
    cases fl with
    | nil => have := a.1; simp at this
    | cons p fl =>
      have h0 := a.2 0 e p rfl rfl
      have hr : All2 EntOf es fl := ⟨by have := a.1; simpa using this, fun i v q e1 e2 => a.2 (i + 1) v q (by simpa using e1) (by simpa using e2)⟩
      obtain ⟨⟨u', hk⟩, hv⟩ := h0
      unfold lk at hn
      rw [List.find?_cons] at hn
      by_cases hx : p.1 = nm
      · rw [decide_eq_true hx] at hn; simp at hn
      · rw [decide_eq_false hx] at hn
        have hb : (p.1 == nm) = false := by simpa using hx
        simp only [putL, hk, Value.isStr, hb, Bool.false_eq_true, if_false, List.cons_append]
        rw [ih hr (by unfold lk; exact hn)]
theorem set_fld (I : InstD C h x dx fl) (F : Fr base L h m) {nm : Str} {v : Value} {Q : Unit → Shared → Prop} (hn : nm ∈ fieldNames) (hv : lk nm fl = none) (hz : fl.length ≤ 20) (hL : dx ≠ L)
    (hQ : ∀ h' t', Fr base L h' m → InstD C h' x dx (fl ++ [(nm, v)]) → Ext base [dx, L] h h' → Q () ⟨h', g, dr, t', os⟩) :
    wpAny (model pw w) A (setAttr (.ref x) nm v) Q E ⟨h, g, dr, t, os⟩ := by
  have hxL : x ≠ L := by
    rintro rfl
    obtain ⟨o, es, ep, e1, e2, _⟩ := F.ns
    rw [I.obj] at e1; cases e1; cases e2
  obtain ⟨es, n, e, a⟩ := I.dict
  have IA : InstAt h x (instObj C.cls dx) C.cls (some (dictOf es n)) := ⟨I.obj, rfl, rfl, e⟩
  refine set_dict (s := ⟨h, g, dr, t, os⟩) F C.X (news_others F e I.nd hL) IA rfl C.setA C.over (C.fld nm hn).2 C.hasD (by rw [ents_getL a]; rfl) rfl (Upd.head others_ne) ?_ fun h' F' N' => ?_
  · rw [ents_put a hv, List.length_append, List.length_singleton, a.1]; omega
  · have X := ext_news F F' N' e hL I.nd (not_tuplish_dict rfl)
    refine hQ h' _ F' ⟨I.nx, I.nd, I.ne, X.same (nin2 I.ne hxL) I.obj, _, _, (N' _ (.head _)).1, ?_⟩ X
    rw [ents_put a hv]
    exact All2.snoc a ⟨⟨_, rfl⟩, rfl⟩
end
-- part L11
inductive Ex where
  | pc (p : Pc)
  | seq (ps : List Pc)
  | alt (ws : List (List Pc))
noncomputable def IsEx (h : Heap) (v : Value) : Ex → Prop
  | .pc p => IsPc h v p
  | .seq ps => IsSeq h v ps
  | .alt ws => IsAlt h v ws
noncomputable def nulEx (S : Str → Bool) : Ex → Bool
  | .pc p => nulPc S p
  | .seq ps => ps.all (nulPc S)
  | .alt ws => nulAlt S ws
noncomputable def firstEx (S : Str → Bool) (Fs : Str → List Str) : Ex → List Str
  | .pc p => firstPc Fs p
  | .seq ps => firstSeq S Fs [] ps
  | .alt ws => firstAlt S Fs ws
noncomputable def PcOK (ns : List Str) (p : Pc) : Prop := PcIn ns p ∧ ∀ x, p = .text x → x ∈ T3
noncomputable def ExOK (ns : List Str) : Ex → Prop
  | .pc p => PcOK ns p
  | .seq ps => ps.length ≤ 3 ∧ ∀ p ∈ ps, PcOK ns p
  | .alt ws => ws.length ≤ 3 ∧ ∀ ps ∈ ws, ps.length ≤ 3 ∧ ∀ p ∈ ps, PcOK ns p
noncomputable def predEx (S : Str → Bool) (Fs : Str → List Str) (e : Ex) (ka : List Str) : List Str := if nulEx S e = true then mergeK (firstEx S Fs e) ka else firstEx S Fs e
theorem IsEx.ext {B h h' : Heap} {W : List Addr} {v : Value} {e : Ex} (q : IsEx h v e) (X : Ext B W h h') : IsEx h' v e := by
  cases e with
  | pc p => exact IsPc.ext q X
  | seq ps => exact IsSeq.ext q X
  | alt ws => exact IsAlt.ext q X
theorem firstEx_sub {S : Str → Bool} {Fs : Str → List Str} {ns : List Str} (hF : ∀ x, ∀ y ∈ Fs x, y ∈ T3) {e : Ex} (he : ExOK ns e) : ∀ y ∈ firstEx S Fs e, y ∈ T3 := by
  cases e with
  | pc p => exact firstPc_sub hF he.2
  | seq ps => exact firstSeq_sub hF ps [] (fun x hx => (he.2 _ hx).2 x rfl) fun _ q => nomatch q
  | alt ws => exact firstAlt_sub hF ws fun way hw x hx => ((he.2 way hw).2 _ hx).2 x rfl
structure GA where
  dx : Addr
  lo : Addr
  dt : Addr
  de : Addr
  df : Addr
structure Gr {w : World} {base : Heap} (C : Bs w base) (h : Heap) (x : Addr) (a : GA) (fl : List (Str × Value)) (R : Rules) (E : List Str) (Ds : List Addr) (FS : List (List Str)) : Prop where
  inst : InstD C h x a.dx fl
  f1 : lk (Str.ofString "order") fl = some (.ref a.lo)
  f2 : lk (Str.ofString "table") fl = some (.ref a.dt)
  f3 : lk (Str.ofString "empty") fl = some (.ref a.de)
  f4 : lk (Str.ofString "firsts") fl = some (.ref a.df)
  m1 : lk (Str.ofString "nullable") fl = none
  m2 : lk (Str.ofString "first") fl = none
  m3 : lk (Str.ofString "predict") fl = none
  ord : OrdL base h a.lo R
  tab : Tab w base h a.dt R
  emp : Ks w base h a.de E
  fir : Fam w base h a.df (R.map (·.1)) Ds FS
  sub : SubT T3 FS
  wf : WF R
section
variable {w : World} {base h h' : Heap} {C : Bs w base} {x : Addr} {a : GA} {fl : List (Str × Value)} {R : Rules} {E : List Str} {Ds : List Addr} {FS : List (List Str)}
theorem Gr.ext (G : Gr C h x a fl R E Ds FS) (X : Ext base [] h h') : Gr C h' x a fl R E Ds FS where
  inst := G.inst.ext X nin0 nin0
  f1 := G.f1
  f2 := G.f2
  f3 := G.f3
  f4 := G.f4
  m1 := G.m1
  m2 := G.m2
  m3 := G.m3
  ord := G.ord.ext X nin0
  tab := G.tab.ext X nin0
  emp := G.emp.ext X nin0
  fir := G.fir.ext X nin0 fun _ _ => nin0
  sub := G.sub
  wf := G.wf
theorem Gr.b8 (G : Gr C h x a fl R E Ds FS) : ∀ ks ∈ FS, ks.length ≤ 8 := fun ks hk => Nat.le_trans (G.fir.small G.sub ks hk) (by decide)
theorem Gr.at (G : Gr C h x a fl R E Ds FS) : ∀ y, ∀ z ∈ fsAt (R.map (·.1)) FS y, z ∈ T3 := fun y => G.sub.at (ns := R.map (·.1)) y
end
-- part P1
/-! what stands at the left -/
noncomputable def leftPc : Pc → Option Str
  | .text _ => none
  | .name x => some x
  | .opt x => some x
  | .rep x => some x
noncomputable def leftSeq (S : Str → Bool) : List Pc → List Pc
  | [] => []
  | p :: ps => p :: if nulPc S p then leftSeq S ps else []
noncomputable def HdSeq (S : Str → Bool) (ps : List Pc) (y : Str) : Prop := ∃ p ∈ leftSeq S ps, leftPc p = some y
noncomputable def HdEx (S : Str → Bool) : Ex → Str → Prop
  | .pc p, y => leftPc p = some y
  | .seq ps, y => HdSeq S ps y
  | .alt ws, y => ∃ way ∈ ws, HdSeq S way y
/-- y stands at the left of x's rule -/
noncomputable def Lf (R : Rules) (S : Str → Bool) (x y : Str) : Prop := ∃ ws, (x, ws) ∈ R ∧ HdEx S (.alt ws) y
inductive Rc (R : Rules) (S : Str → Bool) (x : Str) : Str → Prop where
  | one {y : Str} (h : Lf R S x y) : Rc R S x y
  | more {y z : Str} (h : Rc R S x y) (l : Lf R S y z) : Rc R S x z
theorem leftSeq_all {S : Str → Bool} : ∀ {ps : List Pc}, (∀ p ∈ ps, nulPc S p = true) → leftSeq S ps = ps
  | [], _ => rfl
  | p :: ps, h => by
    rw [leftSeq, if_pos (h p (.head _)), leftSeq_all fun q hq => h q (.tail _ hq)]
theorem leftSeq_stop {S : Str → Bool} : ∀ {ps : List Pc} {i : Nat} {p : Pc}, (∀ q ∈ ps.take i, nulPc S q = true) → ps[i]? = some p → nulPc S p = false → leftSeq S ps = ps.take (i + 1)
  | [], i, p, _, e, _ => by simp at e
  | q :: ps, 0, p, _, e, hn => by
    simp at e; subst e
    rw [leftSeq, if_neg (by rw [hn]; decide)]; simp
  | q :: ps, i + 1, p, h, e, hn => by
    rw [leftSeq, if_pos (h q (by simp)), leftSeq_stop (i := i) (p := p) (fun r hr => h r (by rw [List.take_succ_cons]; exact .tail _ hr)) (by simpa using e) hn]
    rfl
theorem Lf.names {R : Rules} (hR : WF R) {S : Str → Bool} {x y : Str} (l : Lf R S x y) : y ∈ R.map (·.1) := by
  obtain ⟨ws, hr, way, hw, p, hp, hy⟩ := l
  have hpw : p ∈ way := by
    have : ∀ {ps : List Pc}, p ∈ leftSeq S ps → p ∈ ps := by
      intro ps
      induction ps with
      | nil => intro h; exact h
      | cons q ps ih =>
        intro h
        rw [leftSeq] at h
        rcases List.mem_cons.mp h with rfl | h
        · exact .head _
        · split at h
          · exact .tail _ (ih h)
          · cases h
    exact this hp
  cases p with
  | text z => cases hy
  | name z => cases hy; exact hR.names _ hr way hw y (.inl hpw)
  | opt z => cases hy; exact hR.names _ hr way hw y (.inr (.inl hpw))
  | rep z => cases hy; exact hR.names _ hr way hw y (.inr (.inr hpw))
/-! the search: what waits, what was seen -/
structure Srch (R : Rules) (S : Str → Bool) (nm : Str) (es : List Ex) (seen : List Str) : Prop where
  sound : ∀ e ∈ es, ∀ y, HdEx S e y → Rc R S nm y
  root : ∀ y, Lf R S nm y → y ∈ seen ∨ ∃ e ∈ es, HdEx S e y
  clos : ∀ z ∈ seen, ∀ y, Lf R S z y → y ∈ seen ∨ ∃ e ∈ es, HdEx S e y
  not : nm ∉ seen
  sub : ∀ z ∈ seen, z ∈ R.map (·.1)
  ok : ∀ e ∈ es, ExOK (R.map (·.1)) e
noncomputable def wtPc : Pc → Nat
  | .text _ => 1
  | .name _ => 1
  | .opt _ => 2
  | .rep _ => 2
noncomputable def wtSeq (ps : List Pc) : Nat := 1 + (ps.map wtPc).sum
noncomputable def wt : Ex → Nat
  | .pc p => wtPc p
  | .seq ps => wtSeq ps
  | .alt ws => 1 + (ws.map wtSeq).sum
noncomputable def wts (es : List Ex) : Nat := (es.map wt).sum
theorem wts_append (a b : List Ex) : wts (a ++ b) = wts a + wts b := by simp [wts]
theorem wtPc_pos (p : Pc) : 1 ≤ wtPc p := by cases p <;> simp [wtPc]
theorem wtPc_le (p : Pc) : wtPc p ≤ 2 := by cases p <;> simp [wtPc]
theorem wt_pos (e : Ex) : 1 ≤ wt e := by
  cases e with
  | pc p => exact wtPc_pos p
  | seq ps => simp only [wt, wtSeq]; omega
  | alt ws => simp only [wt]; omega
theorem len_wts : ∀ (es : List Ex), es.length ≤ wts es
  | [] => by simp [wts]
  | e :: es => by
    have := len_wts es
    have := wt_pos e
    simp only [wts, List.map_cons, List.sum_cons, List.length_cons] at *; omega
theorem sum_le {α : Type} (f : α → Nat) (n : Nat) : ∀ (l : List α), (∀ x ∈ l, f x ≤ n) → (l.map f).sum ≤ n * l.length
  | [], _ => by simp
  | x :: l, h => by
    have h1 := h x (.head _)
    have h2 := sum_le f n l fun y hy => h y (.tail _ hy)
    simp only [List.map_cons, List.sum_cons, List.length_cons, Nat.mul_succ]; omega
theorem wtSeq_le {ps : List Pc} (h : ps.length ≤ 3) : wtSeq ps ≤ 7 := by
  have := sum_le wtPc 2 ps fun p _ => wtPc_le p
  unfold wtSeq; omega
theorem wtAlt_le {ws : List (List Pc)} (h : ws.length ≤ 3) (h2 : ∀ way ∈ ws, way.length ≤ 3) : wt (.alt ws) ≤ 22 := by
  have := sum_le wtSeq 7 ws fun p hp => wtSeq_le (h2 p hp)
  simp only [wt]; omega
theorem wts_pcs (ps : List Pc) : wts (ps.map .pc) = (ps.map wtPc).sum := by
  unfold wts; rw [List.map_map]; rfl
theorem wts_seqs (ws : List (List Pc)) : wts (ws.map .seq) = (ws.map wtSeq).sum := by
  unfold wts; rw [List.map_map]; rfl
theorem sum_take (f : Pc → Nat) (ps : List Pc) (i : Nat) : ((ps.take i).map f).sum ≤ (ps.map f).sum := by
  conv => rhs; rw [← List.take_append_drop i ps]
  rw [List.map_append, List.sum_append]; omega
section
variable {R : Rules} {S : Str → Bool} {nm : Str} {es es' : List Ex} {seen : List Str} {e : Ex}
/-- what was taken is put back as parts -/
theorem Srch.parts (s : Srch R S nm (es ++ [e]) seen) (h : ∀ y, HdEx S e y ↔ ∃ d ∈ es', HdEx S d y) (hok : ∀ d ∈ es', ExOK (R.map (·.1)) d) : Srch R S nm (es ++ es') seen := by
  have mv : ∀ y, (y ∈ seen ∨ ∃ d ∈ es ++ [e], HdEx S d y) → (y ∈ seen ∨ ∃ d ∈ es ++ es', HdEx S d y) := by
    rintro y (hy | ⟨d, hd, hy⟩)
    · exact .inl hy
    · rcases List.mem_append.mp hd with hd | hd
      · exact .inr ⟨d, List.mem_append.mpr (.inl hd), hy⟩
      · rw [List.mem_singleton.mp hd] at hy
        obtain ⟨d', hd', hy'⟩ := (h y).mp hy
        exact .inr ⟨d', List.mem_append.mpr (.inr hd'), hy'⟩
  refine ⟨fun d hd y hy => ?_, fun y hy => mv y (s.root y hy), fun z hz y hy => mv y (s.clos z hz y hy), s.not, s.sub, fun d hd => ?_⟩
  · rcases List.mem_append.mp hd with hd | hd
    · exact s.sound d (List.mem_append.mpr (.inl hd)) y hy
    · exact s.sound e (List.mem_append.mpr (.inr (.head _))) y ((h y).mpr ⟨d, hd, hy⟩)
  · rcases List.mem_append.mp hd with hd | hd
    · exact s.ok d (List.mem_append.mpr (.inl hd))
    · exact hok d hd
theorem Srch.start {ws : List (List Pc)} (hR : WF R) (hr : (nm, ws) ∈ R) : Srch R S nm [.alt ws] [] where
  sound := fun e he y hy => by rw [List.mem_singleton.mp he] at hy; exact .one ⟨ws, hr, hy⟩
  root := fun y ⟨ws', hr', hy⟩ => by
    have : ws' = ws := by
      obtain ⟨i, hi⟩ := List.getElem?_of_mem hr
      obtain ⟨j, hj⟩ := List.getElem?_of_mem hr'
      obtain ⟨h1, e1⟩ := List.getElem?_eq_some_iff.mp hi
      obtain ⟨h2, e2⟩ := List.getElem?_eq_some_iff.mp hj
      have hij : i = j := (List.getElem_inj (h₀ := by rw [List.length_map]; exact h1) (h₁ := by rw [List.length_map]; exact h2) hR.nodup).mp (by rw [List.getElem_map, List.getElem_map, e1, e2])
      subst hij
      rw [e1] at e2; cases e2; rfl
    subst this
    exact .inr ⟨_, .head _, hy⟩
  clos := fun z hz => nomatch hz
  not := List.not_mem_nil
  sub := fun z hz => nomatch hz
  ok := fun e he => by
    rw [List.mem_singleton.mp he]
    refine ⟨hR.ways _ hr, fun ps hp => ⟨hR.parts _ hr ps hp, fun p hpp => ⟨?_, ?_⟩⟩⟩
    · cases p with
      | text x => trivial
      | name x => exact hR.names _ hr ps hp x (.inl hpp)
      | opt x => exact hR.names _ hr ps hp x (.inr (.inl hpp))
      | rep x => exact hR.names _ hr ps hp x (.inr (.inr hpp))
    · rintro x rfl
      rcases hR.texts _ hr ps hp x hpp with rfl | rfl | rfl <;> simp [T3]
theorem WF.uniq (hR : WF R) {x : Str} {ws ws' : List (List Pc)} (hr : (x, ws) ∈ R) (hr' : (x, ws') ∈ R) : ws' = ws := by
  obtain ⟨i, hi⟩ := List.getElem?_of_mem hr
  obtain ⟨j, hj⟩ := List.getElem?_of_mem hr'
  obtain ⟨h1, e1⟩ := List.getElem?_eq_some_iff.mp hi
  obtain ⟨h2, e2⟩ := List.getElem?_eq_some_iff.mp hj
  have hij : i = j := (List.getElem_inj (h₀ := by rw [List.length_map]; exact h1) (h₁ := by rw [List.length_map]; exact h2) hR.nodup).mp (by rw [List.getElem_map, List.getElem_map, e1, e2])
  subst hij
  rw [e1] at e2; cases e2; rfl
theorem WF.exOK (hR : WF R) {x : Str} {ws : List (List Pc)} (hr : (x, ws) ∈ R) : ExOK (R.map (·.1)) (.alt ws) := (Srch.start (S := fun _ => true) hR hr).ok _ (.head _)
/-- a name not yet seen -/
theorem Srch.see (hR : WF R) {z : Str} {ws : List (List Pc)} (s : Srch R S nm (es ++ [.pc (.name z)]) seen) (hr : (z, ws) ∈ R) (hz : z ≠ nm) (hs : z ∉ seen) : Srch R S nm (es ++ [.alt ws]) (seen ++ [z]) := by
  have mv : ∀ y, (y ∈ seen ∨ ∃ d ∈ es ++ [.pc (.name z)], HdEx S d y) → (y ∈ seen ++ [z] ∨ ∃ d ∈ es ++ [.alt ws], HdEx S d y) := by
    rintro y (hy | ⟨d, hd, hy⟩)
    · exact .inl (List.mem_append.mpr (.inl hy))
    · rcases List.mem_append.mp hd with hd | hd
      · exact .inr ⟨d, List.mem_append.mpr (.inl hd), hy⟩
      · rw [List.mem_singleton.mp hd] at hy
        cases hy
        exact .inl (List.mem_append.mpr (.inr (.head _)))
  have hzr : Rc R S nm z := s.sound _ (List.mem_append.mpr (.inr (.head _))) z rfl
  refine ⟨fun d hd y hy => ?_, fun y hy => mv y (s.root y hy), fun x hx y hy => ?_, ?_, ?_, fun d hd => ?_⟩
  · rcases List.mem_append.mp hd with hd | hd
    · exact s.sound d (List.mem_append.mpr (.inl hd)) y hy
    · rw [List.mem_singleton.mp hd] at hy
      exact .more hzr ⟨ws, hr, hy⟩
  · rcases List.mem_append.mp hx with hx | hx
    · exact mv y (s.clos x hx y hy)
    · rw [List.mem_singleton.mp hx] at hy
      obtain ⟨ws', hr', hy⟩ := hy
      rw [hR.uniq hr hr'] at hy
      exact .inr ⟨_, List.mem_append.mpr (.inr (.head _)), hy⟩
  · rw [List.mem_append]
    rintro (q | q)
    · exact s.not q
    · exact hz (List.mem_singleton.mp q).symm
  · intro x hx
    rcases List.mem_append.mp hx with hx | hx
    · exact s.sub x hx
    · rw [List.mem_singleton.mp hx]; exact List.mem_map.mpr ⟨_, hr, rfl⟩
  · rcases List.mem_append.mp hd with hd | hd
    · exact s.ok d (List.mem_append.mpr (.inl hd))
    · rw [List.mem_singleton.mp hd]; exact hR.exOK hr
/-- a name seen before -/
theorem Srch.skip {z : Str} (s : Srch R S nm (es ++ [.pc (.name z)]) seen) (hs : z ∈ seen) : Srch R S nm es seen := by
  have mv : ∀ y, (y ∈ seen ∨ ∃ d ∈ es ++ [.pc (.name z)], HdEx S d y) → (y ∈ seen ∨ ∃ d ∈ es, HdEx S d y) := by
    rintro y (hy | ⟨d, hd, hy⟩)
    · exact .inl hy
    · rcases List.mem_append.mp hd with hd | hd
      · exact .inr ⟨d, hd, hy⟩
      · rw [List.mem_singleton.mp hd] at hy
        cases hy
        exact .inl hs
  exact ⟨fun d hd => s.sound d (List.mem_append.mpr (.inl hd)), fun y hy => mv y (s.root y hy), fun z hz y hy => mv y (s.clos z hz y hy), s.not, s.sub, fun d hd => s.ok d (List.mem_append.mpr (.inl hd))⟩
theorem Srch.found (s : Srch R S nm (es ++ [.pc (.name nm)]) seen) : Rc R S nm nm := s.sound _ (List.mem_append.mpr (.inr (.head _))) nm rfl
theorem Srch.done (s : Srch R S nm [] seen) : ¬ Rc R S nm nm := by
  have key : ∀ y, Rc R S nm y → y ∈ seen := by
    intro y h
    induction h with
    | one l => rcases s.root _ l with h | ⟨_, h, _⟩; exact h; cases h
    | more h l ih => rcases s.clos _ ih _ l with h | ⟨_, h, _⟩; exact h; cases h
  exact fun h => s.not (key _ h)
end
-- part L12
section
variable {w : World} {A : Around} {k : Nat} {base h : Heap} {g : Array GenState} {dr : Drawn} {t : Nat} {os : OsState} {E : Value → Shared → Prop} {env : Env} {L : Addr} {m : Str → Option Value}
/-- a display: what is to be shown when its items stand -/
noncomputable def Disp (P : Heap → Heap → Addr → List Value → Prop) (Q : Value → Shared → Prop) (vs : List Value) (s : Shared) : Prop :=
  ∃ base g dr os L m h t, s = ⟨h, g, dr, t, os⟩ ∧ Fr base L h m ∧ vs.length ≤ 1000000 ∧ ∀ h' d, d = h.objs.size → L < d → Fr base L h' m → P base h' d vs → Ext base [] h h' → Q (.ref d) ⟨h', g, dr, t, os⟩
theorem list_ {elts : List Expr} {pos : Pos} {Q : Value → Shared → Prop} {s : Shared}
    (h : wpAny (model pw w) A (spliced (backTo pos (starEach elts env))) (Disp Ls Q) E s) : wpAny (model pw w) A (eval (.List elts pos) env) Q E s := by
  refine wpAny_List (wpAny_mono h (fun vs s₁ z => ?_) fun _ _ x => x)
  obtain ⟨base, g, dr, os, L, m, h, t, rfl, F, hz, hQ⟩ := z
  exact ⟨by rw [sizeLine_eq]; omega, hQ _ _ rfl F.ns.lt (F.push _) ⟨new_base (on_of F), _, Heap.get?_push_size _ rfl⟩ (Ext.push _ _ _ _)⟩
theorem tup_ {elts : List Expr} {kk : Nat} {pos : Pos} {Q : Value → Shared → Prop} {s : Shared}
    (h : wpAny (model pw w) A (spliced (backTo pos (starEach elts env))) (Disp (fun _ => Tp) Q) E s) : wpAny (model pw w) A (eval (.Tuple elts kk pos) env) Q E s := by
  refine wpAny_Tuple (wpAny_mono h (fun vs s₁ z => ?_) fun _ _ x => x)
  obtain ⟨base, g, dr, os, L, m, h, t, rfl, F, hz, hQ⟩ := z
  exact ⟨by rw [sizeLine_eq]; omega, hQ _ _ rfl F.ns.lt (F.push _) ⟨_, Heap.get?_push_size _ rfl⟩ (Ext.push _ _ _ _)⟩
theorem disp {P : Heap → Heap → Addr → List Value → Prop} {Q : Value → Shared → Prop} {vs : List Value} (F : Fr base L h m) (hz : vs.length ≤ 1000000)
    (hQ : ∀ h' d, d = h.objs.size → L < d → Fr base L h' m → P base h' d vs → Ext base [] h h' → Q (.ref d) ⟨h', g, dr, t, os⟩) : Disp P Q vs ⟨h, g, dr, t, os⟩ := ⟨base, g, dr, os, L, m, h, t, rfl, F, hz, hQ⟩
/-- a frame with two names that may stand -/
noncomputable def FrW (base : Heap) (L : Addr) (h : Heap) (m : Str → Option Value) (x z : Str) : Prop := ∃ u v, Fr base L h (fun y => if y = x then u else if y = z then v else m y)
theorem FrW.init {base h : Heap} {L : Addr} {m : Str → Option Value} {x z : Str} (F : Fr base L h m) : FrW base L h m x z :=
  have F1 : Fr base L h (fun y => if y = z then m z else m y) := fr_init F
  ⟨_, m z, fr_init F1⟩
theorem FrW.soft {base h h' : Heap} {L : Addr} {m : Str → Option Value} {x z : Str} (F : FrW base L h m x z) (S : Soft base h h') : FrW base L h' m x z := let ⟨u, v, F⟩ := F; ⟨u, v, fr_soft F S⟩
theorem FrW.of {base h : Heap} {L : Addr} {m : Str → Option Value} {x z : Str} {u v : Option Value} (F : Fr base L h (fun y => if y = x then u else if y = z then v else m y)) : FrW base L h m x z := ⟨u, v, F⟩
theorem FrW.on {base h : Heap} {L : Addr} {m : Str → Option Value} {x z : Str} (F : FrW base L h m x z) : On base h := let ⟨_, _, F⟩ := F; on_of F
theorem FrW.lt {base h : Heap} {L : Addr} {m : Str → Option Value} {x z : Str} (F : FrW base L h m x z) : L < h.objs.size := let ⟨_, _, F⟩ := F; F.ns.lt
theorem append_pop {α : Type} {l : List α} (h : l ≠ []) : ∃ l' x, l = l' ++ [x] := ⟨l.dropLast, l.getLast h, (List.dropLast_concat_getLast h).symm⟩
theorem All2.unsnoc {α β : Type} {R : α → β → Prop} {xs : List α} {ys : List β} {v : α} (x : All2 R (xs ++ [v]) ys) : ∃ ys' p, ys = ys' ++ [p] ∧ All2 R xs ys' ∧ R v p := by
  have hne : ys ≠ [] := by rintro rfl; have := x.1; simp at this
  obtain ⟨ys', p, rfl⟩ := append_pop hne
  have hl : xs.length = ys'.length := by have := x.1; simpa using this
  refine ⟨ys', p, rfl, ⟨hl, fun i a b e e' => ?_⟩, ?_⟩
  · have h1 := (List.getElem?_eq_some_iff.mp e).1
    exact x.2 i a b (by rw [List.getElem?_append_left h1]; exact e) (by rw [List.getElem?_append_left (hl ▸ h1)]; exact e')
  · exact x.2 xs.length v p (by simp) (by rw [hl]; simp)
theorem All2.append {α β : Type} {R : α → β → Prop} {xs xs' : List α} {ys ys' : List β} (x : All2 R xs ys) (x' : All2 R xs' ys') : All2 R (xs ++ xs') (ys ++ ys') := by
  refine ⟨by simp [x.1, x'.1], fun i a b e e' => ?_⟩
  rcases Nat.lt_or_ge i xs.length with h | h
  · rw [List.getElem?_append_left h] at e
    rw [List.getElem?_append_left (x.1 ▸ h)] at e'
    exact x.2 i a b e e'
  · rw [List.getElem?_append_right h] at e
    rw [List.getElem?_append_right (x.1 ▸ h)] at e'
    rw [← x.1] at e'
    exact x'.2 _ a b e e'
theorem All2.take {α β : Type} {R : α → β → Prop} {xs : List α} {ys : List β} (x : All2 R xs ys) (i : Nat) : All2 R (xs.take i) (ys.take i) := by
  refine ⟨by simp [x.1], fun j a b e e' => ?_⟩
  have h1 := (List.getElem?_eq_some_iff.mp e).1
  rw [List.length_take] at h1
  have hji : j < i := by omega
  rw [List.getElem?_take_of_lt hji] at e e'
  exact x.2 j a b e e'
theorem All2.mapR {α β γ : Type} {R : α → β → Prop} {R' : α → γ → Prop} {f : β → γ} {xs : List α} {ys : List β} (x : All2 R xs ys) (k : ∀ a b, R a b → R' a (f b)) : All2 R' xs (ys.map f) := by
  refine ⟨by simp [x.1], fun i a c e e' => ?_⟩
  rw [List.getElem?_map] at e'
  obtain ⟨b, hb, rfl⟩ := Option.map_eq_some_iff.mp e'
  exact k a b (x.2 i a b e hb)
theorem isSome_tt (ks : List Str) (x : Str) : (valueAt (tt ks) x).isSome = decide (x ∈ ks) := keysIn_tt ks x
theorem ite_nt {P R : Prop} (h : R) : if (!true) = true then P else R := ite_f h
theorem ite_nf {P R : Prop} (h : P) : if (!false) = true then P else R := ite_t h
end
section
variable {B h h' : Heap} {v : Value}
theorem IsNm.soft {tag x : Str} (p : IsNm h tag v x) (X : Soft B h h') : IsNm h' tag v x := let ⟨a, t1, t2, e, ht⟩ := p; ⟨a, t1, t2, e, ht.soft X⟩
theorem IsPc.soft {p : Pc} (q : IsPc h v p) (X : Soft B h h') : IsPc h' v p := by
  cases p with
  | text x => exact IsNm.soft q X
  | name x => exact IsNm.soft q X
  | opt x => obtain ⟨a, t1, v', e, ht, hn⟩ := q; exact ⟨a, t1, v', e, ht.soft X, hn.soft X⟩
  | rep x => obtain ⟨a, t1, v', e, ht, hn⟩ := q; exact ⟨a, t1, v', e, ht.soft X, hn.soft X⟩
theorem IsSeq.soft {ps : List Pc} (q : IsSeq h v ps) (X : Soft B h h') : IsSeq h' v ps := let ⟨a, t1, b, vs, e, h1, h2, h3⟩ := q; ⟨a, t1, b, vs, e, h1.soft X, h2.soft X, h3.imp fun _ _ z => z.soft X⟩
theorem IsAlt.soft {ps : List (List Pc)} (q : IsAlt h v ps) (X : Soft B h h') : IsAlt h' v ps := let ⟨a, t1, b, vs, e, h1, h2, h3⟩ := q; ⟨a, t1, b, vs, e, h1.soft X, h2.soft X, h3.imp fun _ _ z => z.soft X⟩
theorem IsEx.soft {e : Ex} (q : IsEx h v e) (X : Soft B h h') : IsEx h' v e := by
  cases e with
  | pc p => exact IsPc.soft q X
  | seq ps => exact IsSeq.soft q X
  | alt ws => exact IsAlt.soft q X
end
theorem IsEx.ofPc {h : Heap} {v : Value} {p : Pc} (q : IsPc h v p) : IsEx h v (.pc p) := q
theorem IsEx.ofNm {h : Heap} {v : Value} {x : Str} (q : IsNm h (Str.ofString "name") v x) : IsEx h v (.pc (.name x)) := q
theorem IsEx.ofSeq {h : Heap} {v : Value} {ps : List Pc} (q : IsSeq h v ps) : IsEx h v (.seq ps) := q
theorem IsEx.ofAlt {h : Heap} {v : Value} {ws : List (List Pc)} (q : IsAlt h v ws) : IsEx h v (.alt ws) := q
-- part L13
theorem owner_rev : Manifest.owners.lookup (String.ofList ['d', 'e', 's', 'r', 'e', 'v', 'e', 'r'].reverse) = some Manifest.sig_reversed := by kernel_rfl
theorem slot_rev_next : Slot "reversed" "__next__" "reversed.__next__" :=
  .of (owner := "reversed") (n := "__next__") (by rw [typeLookup_type, builtinLookup_eq_fast]; kernel_rfl) (by decide +kernel) (by decide +kernel) (by decide +kernel)
    (by first | exact .inl (by decide +kernel) | exact .inr (by decide +kernel)) (by rw [isSubtype_type]; kernel_rfl)
theorem entry_rev_next : entryFor table "reversed.__next__" = some Builtin.«reversed.__next__» := entryFor_of_tree (by kernel_rfl)
theorem args_rev_next_1 (a : Value) : argsOk "reversed.__next__" ⟨[a], []⟩ := by
  unfold argsOk; rw [signature?_of (id := "reversed.__next__") (n := ['_', '_', 't', 'x', 'e', 'n', '_', '_']) (o := ['d', 'e', 's', 'r', 'e', 'v', 'e', 'r']) (by kernel_rfl) owner_rev]; kernel_rfl
theorem slot_rev_iter : Slot "reversed" "__iter__" "reversed.__iter__" :=
  .of (owner := "reversed") (n := "__iter__") (by rw [typeLookup_type, builtinLookup_eq_fast]; kernel_rfl) (by decide +kernel) (by decide +kernel) (by decide +kernel)
    (by first | exact .inl (by decide +kernel) | exact .inr (by decide +kernel)) (by rw [isSubtype_type]; kernel_rfl)
theorem args_rev_iter_1 (a : Value) : argsOk "reversed.__iter__" ⟨[a], []⟩ := by
  unfold argsOk; rw [signature?_of (id := "reversed.__iter__") (n := ['_', '_', 'r', 'e', 't', 'i', '_', '_']) (o := ['d', 'e', 's', 'r', 'e', 'v', 'e', 'r']) (by kernel_rfl) owner_rev]; kernel_rfl
theorem entry_rev_iter : entryFor table "reversed.__iter__" = some Builtin.«dict_keyiterator.__iter__» :=
  entryFor_alias (id' := "dict_keyiterator.__iter__") (by kernel_rfl) (by first | rfl | decide +kernel | (unfold String.splitOn; simp +decide [String.splitOnAux])) (by decide +kernel) (by kernel_rfl)
theorem slot_rev_init : Slot "reversed" "__init__" "object.__init__" :=
  .of (owner := "object") (n := "__init__") (by rw [typeLookup_type, builtinLookup_eq_fast]; kernel_rfl) (by decide +kernel) (by decide +kernel) (by decide +kernel)
    (by first | exact .inl (by decide +kernel) | exact .inr (by decide +kernel)) (by rw [isSubtype_type]; kernel_rfl)
theorem called_rev : TypeCalled "reversed" "reversed.__new__" "object.__init__" :=
  ⟨by decide +kernel, by decide +kernel, ⟨_, _, PySem.F.mro_reversed⟩, madeBy_type PySem.F.mro_reversed PySem.F.lookup_reversed_new (by decide +kernel), by decide +kernel, by rw [isSubtype_type]; kernel_rfl, slot_rev_init⟩
theorem tup_no_rev : typeLookup (.type "tuple") "__reversed__" = pure none := by rw [typeLookup_type, builtinLookup_eq_fast]; kernel_rfl
theorem tup_no_dict : isSubtype (.type "tuple") (.type "dict") = pure false := by rw [isSubtype_type]; kernel_rfl
noncomputable def revO (t : Addr) (i : Int) : Obj := { cls := .type "reversed", data := .fields #[.ref t, rawInt i] }
noncomputable def IsRevO (h : Heap) (a t : Addr) (i : Int) : Prop := ∃ o, h.get? a = some o ∧ o.cls = .type "reversed" ∧ o.data = .fields #[.ref t, rawInt i]
section
variable {prog : Program} {w : World} {A : Around} {E : Value → Shared → Prop} {s : Shared}
theorem IsRevO.typeIs {a t : Addr} {i : Int} (x : IsRevO s.heap a t i) : s.TypeIs (.ref a) "reversed" := let ⟨o, ho, hc, _⟩ := x; ⟨o, ho, hc⟩
theorem IsRevO.at {h h' : Heap} {a t : Addr} {i : Int} (x : IsRevO h a t i) (e : ∀ o, h.get? a = some o → h'.get? a = some o) : IsRevO h' a t i := let ⟨o, ho, r⟩ := x; ⟨o, e _ ho, r⟩
theorem code_rev_new {l : Addr} {items : Array Value} {Q₁ : Value → Shared → Prop} (hl : IsTup s.heap l items) (hz : items.size < 1000000)
    (h : ∀ tk, Q₁ (.ref s.heap.objs.size) { s with heap := s.heap.push (revO l ((items.size : Int) - 1)), toks := tk }) :
    codeAny (model prog w) A (.call (.builtin "reversed.__new__") ⟨[.type "reversed", .ref l], []⟩) (wants Q₁ E) s := by
  refine codeAny_of_tree ?_
  show wpAny _ A.in1 (do checkBuiltinCall "reversed.__new__" ⟨[.type "reversed", .ref l], []⟩; again (.builtin "reversed.__new__" ⟨[.type "reversed", .ref l], []⟩)) _ _ s
  refine wpAny_bind (wpAny_of_eq (PySem.F.newCall_reversed_1 _) (wpAny_pure ⟨plainId_quiet PySem.F.plain_reversed_new _, codeAny_builtin PySem.F.entry_reversed_new ?_⟩))
  rw [Around.under_plainId PySem.F.plain_reversed_new _]
  unfold Builtin.«reversed.__new__»
  refine wpAny_bind (wpAny_of_eq (newClass_reversed _) ?_)
  try dsimp only
  refine wpAny_bind (wpAny_of_eq (a := ()) (by first | rfl | kernel_rfl) ?_)
  refine wpAny_bind (wpAny_of_eq (a := ()) (by first | rfl | kernel_rfl) ?_)
  try dsimp only
  refine wpAny_bind (wpAny_specialOf hl.typeIs tup_no_rev ?_)
  try dsimp only
  refine wpAny_bind ?_
  show wpAny _ _ (isInstance (.ref l) (.type "dict") >>= _) _ _ _
  refine wpAny_bind (wpAny_isInstance hl.typeIs tup_no_dict ?_)
  simp only [Bool.false_eq_true, if_false]
  first
  | show wpAny _ _ (specialOf (.ref l) "__getitem__" >>= _) _ _ _
  | (refine wpAny_bind (wpAny_pure ?_); show wpAny _ _ (specialOf (.ref l) "__getitem__" >>= _) _ _ _)
  refine wpAny_bind (wpAny_specialOf hl.typeIs slot_tuple_getitem.lookup ?_)
  try dsimp only
  rw [if_pos (by decide +kernel)]
  refine wpAny_pure ?_
  rw [if_neg (by decide)]
  refine wpAny_bind (len_tuple hl (by omega) ?_)
  refine wpAny_bind (wpAny_of_eq (a := some ((items.size : Int))) (by rfl) ?_)
  dsimp only
  refine wpAny_bind (m := newObj _ _ _) (wpAny_newObj_type (data := .fields #[.ref l, rawInt ((items.size : Int) - 1)]) ?_)
  exact wpAny_pure (h _)
theorem call_rev {l : Addr} {items : Array Value} {Q : Value → Shared → Prop} (hl : IsTup s.heap l items) (hz : items.size < 1000000)
    (h : ∀ tk, Q (.ref s.heap.objs.size) { s with heap := s.heap.push (revO l ((items.size : Int) - 1)), toks := tk }) : wpAny (model prog w) A (call (.type "reversed") [.ref l]) Q E s := by
  refine callType_codes called_rev (Q₁ := fun obj s₁ => ∃ tk, obj = .ref s.heap.objs.size ∧ s₁ = { s with heap := s.heap.push (revO l ((items.size : Int) - 1)), toks := tk }) (PySem.F.typeCall_reversed_1 _) PySem.F.entry_object_init (code_rev_new hl hz fun tk => ⟨tk, rfl, rfl⟩) ?_
  rintro obj s₁ ⟨tk, rfl, rfl⟩
  have hT : ({ s with heap := s.heap.push (revO l ((items.size : Int) - 1)), toks := tk } : Shared).TypeIs (.ref s.heap.objs.size) "reversed" := ⟨_, Heap.get?_push_size _ rfl, rfl⟩
  refine ⟨hT, PySem.F.args_object_init_2 _ _, ?_⟩
  exact object_init_meets called_rev.init.lookup called_rev.made (by decide) prog w _ _ _ ⟨hT, rfl, h tk⟩
theorem rev_iter {it l : Addr} {i : Int} {Q : Value → Shared → Prop} (hit : IsRevO s.heap it l i) (h : Q (.ref it) s) : wpAny (model prog w) A (pyIter (.ref it)) Q E s := by
  refine wpAny_pyIter_slot hit.typeIs slot_rev_iter (wpAny_call_entry slot_rev_iter hit.typeIs entry_rev_iter ?_ (args_rev_iter_1 _))
  show wpAny _ _ (ret (.ref it)) _ _ s
  exact wpAny_pure ⟨_, rfl, "reversed", _, hit.typeIs, slot_rev_next.lookup, h⟩
theorem rev_item {it l : Addr} {i : Nat} {items : Array Value} {x : Value} {Q : Option Value → Shared → Prop} (hit : IsRevO s.heap it l (i : Int)) (hl : IsTup s.heap l items) (hz : items.size < 1000000) (hx : items[i]? = some x)
    (hQ : ∀ h' tk, IsRevO h' it l ((i : Int) - 1) → Heap.SameBut it s.heap h' → Q (some x) { s with heap := h', toks := tk }) : wpAny (model prog w) A (pyNext (.ref it)) Q E s := by
  obtain ⟨o, ho, hc, hd⟩ := id hit
  have hi : i < items.size := (Array.getElem?_eq_some_iff.mp hx).1
  unfold pyNext
  refine wpAny_bind (wpAny_attempt (wpAny_callSpecial?_slot (name := Str.ofString "__next__") hit.typeIs slot_rev_next
    (wpAny_call_entry slot_rev_next hit.typeIs entry_rev_next ?_ (args_rev_next_1 _))))
  unfold Builtin.«reversed.__next__»
  refine wpAny_bind (wpAny_of_eq (a := (Value.ref it, [])) rfl ?_)
  try dsimp only
  refine wpAny_bind (wpAny_field ho hd (x := .ref l) rfl ?_)
  refine wpAny_bind (wpAny_field ho hd (x := rawInt (i : Int)) rfl ?_)
  show wpAny _ _ (if (i : Int) < 0 then _ else _) _ _ s
  rw [if_neg (by omega)]
  refine wpAny_bind (wpAny_specialOf hl.typeIs slot_tuple_getitem.lookup ?_)
  try dsimp only
  simp only [Option.isNone_some, Bool.false_eq_true, if_false]
  refine wpAny_bind (wpAny_mkInt ?_)
  refine wpAny_bind (wpAny_attempt (getItem_tuple (s := { s with toks := s.toks + 1 }) hl (by omega) (by omega) (seqIndex_nat hi) hx ?_))
  try dsimp only
  refine wpAny_bind (wpAny_field ho hd (x := rawInt (i : Int)) rfl ?_)
  show wpAny _ _ (setField _ _ _ >>= _) _ _ _
  refine wpAny_bind (wpAny_setField ho hd (by simp) ?_)
  refine wpAny_pure ⟨x, rfl, wpAny_pure (hQ _ _ ?_ (Heap.SameBut.update ..))⟩
  exact ⟨_, Heap.get?_update_self _ ho (Obj.isFreed_of_fields (Obj.data_mapFields hd _)), (Obj.cls_mapFields ..).trans hc, by
    rw [Obj.data_mapFields hd]; simp⟩
theorem rev_end {it l : Addr} {Q : Option Value → Shared → Prop} (hh : A.handled = none) (hit : IsRevO s.heap it l (-1))
    (hQ : ∀ h', Heap.ExtBut it s.heap h' → Q none { s with heap := h' }) : wpAny (model prog w) A (pyNext (.ref it)) Q E s := by
  obtain ⟨o, ho, hc, hd⟩ := id hit
  unfold pyNext
  refine wpAny_bind (wpAny_attempt (wpAny_callSpecial?_slot (name := Str.ofString "__next__") hit.typeIs slot_rev_next
    (wpAny_call_entry slot_rev_next hit.typeIs entry_rev_next ?_ (args_rev_next_1 _))))
  unfold Builtin.«reversed.__next__»
  refine wpAny_bind (wpAny_of_eq (a := (Value.ref it, [])) rfl ?_)
  try dsimp only
  refine wpAny_bind (wpAny_field ho hd (x := .ref l) rfl ?_)
  refine wpAny_bind (wpAny_field ho hd (x := rawInt (-1)) rfl ?_)
  show wpAny _ _ (if (-1 : Int) < 0 then _ else _) _ _ s
  rw [if_pos (by decide)]
  refine wpAny_bind (wpAny_rule ?_)
  refine wpAny_bind ?_
  show wpAny _ _ (setField (.ref it) 1 (rawInt (-1)) >>= _) _ _ _
  refine wpAny_bind (wpAny_setField ho hd (by simp) ?_)
  show wpAny _ _ (setField (.ref it) 0 .none) _ _ _
  have ho1 := Heap.get?_update_self (Obj.mapFields fun x => x.setIfInBounds 1 (rawInt (-1))) ho (Obj.isFreed_of_fields (Obj.data_mapFields hd _))
  have hd1 := Obj.data_mapFields hd (fun x => x.setIfInBounds 1 (rawInt (-1)))
  refine wpAny_setField (s := { s with heap := s.heap.update it (Obj.mapFields fun x => x.setIfInBounds 1 (rawInt (-1))) }) ho1 hd1 (by simp) ?_
  have hx : Heap.ExtBut it s.heap ((s.heap.update it (Obj.mapFields fun x => x.setIfInBounds 1 (rawInt (-1)))).update it (Obj.mapFields fun x => x.setIfInBounds 0 .none)) :=
    ((Heap.SameBut.update ..).trans (Heap.SameBut.update ..)).extBut
  generalize (s.heap.update it (Obj.mapFields fun x => x.setIfInBounds 1 (rawInt (-1)))).update it (Obj.mapFields fun x => x.setIfInBounds 0 .none) = H at hx ⊢
  first
  | show wpAny _ _ (newExc (.type "StopIteration") [] >>= _) _ _ _
  | (refine wpAny_bind ?_; show wpAny _ _ (newExc (.type "StopIteration") [] >>= _) _ _ _)
  refine wpAny_bind ?_
  simp only [newExc, newTuple]
  refine wpAny_bind (wpAny_newObj_type ?_ (by size_fits))
  refine wpAny_bind (m := firstArgMember _ _) (wpAny_of_eq (a := Value.none) (by first | rfl | (simp only [firstArgMember]; rfl)) ?_)
  refine wpAny_newObj_type ?_ (by size_fits)
  simp only [raiseNew]
  refine wpAny_bind (wpAny_handled ?_)
  first | rw [show A.in1.handled = none from hh] | rw [hh]
  refine wpAny_bind (wpAny_pure (wpAny_throw ?_))
  refine wpAny_bind (wpAny_isInstance (T := "StopIteration") (b := true) ⟨_, Heap.get?_push_size _ rfl, rfl⟩ isSubtype_stop ?_)
  exact wpAny_pure (hQ _ ((hx.push _).push _))
end
theorem Walks_rev {prog : Program} {w : World} {A : Around} (hh : A.handled = none) (I l : Addr) (hne : l ≠ I) (items : Array Value) (hz : items.size < 1000000) :
    Walks prog w A I [I, l] [I] items.size (fun i v => items[items.size - 1 - i]? = some v) (fun i h => i ≤ items.size ∧ IsRevO h I l ((items.size : Int) - 1 - (i : Int)) ∧ IsTup h l items) where
  sub := fun b hb => by simp at hb; simp [hb]
  frame := fun _ _ _ x hk => ⟨x.1, x.2.1.at fun o e => hk I (by simp) o e, let ⟨o, e, r⟩ := x.2.2; ⟨o, hk l (by simp) o e, r⟩⟩
  item := fun i s Q E hi x hQ => by
    have e : (items.size : Int) - 1 - (i : Int) = ((items.size - 1 - i : Nat) : Int) := by omega
    have hit := x.2.1
    rw [e] at hit
    have hx : items[items.size - 1 - i]? = some (items[items.size - 1 - i]'(by omega)) := Array.getElem?_eq_getElem (by omega)
    refine rev_item hit x.2.2 hz hx fun h' tk hit' hs' => ?_
    have e2 : ((items.size - 1 - i : Nat) : Int) - 1 = (items.size : Int) - 1 - ((i + 1 : Nat) : Int) := by omega
    rw [e2] at hit'
    exact hQ _ h' tk hx ⟨hi, hit', let ⟨o, eo, r⟩ := x.2.2; ⟨o, (hs'.2 l hne).trans eo, r⟩⟩ fun b o hb eo => hs'.extBut b o (fun h => hb (by simp [h])) eo
  done := fun s Q E x hQ => by
    have e : (items.size : Int) - 1 - (items.size : Int) = -1 := by omega
    have hit := x.2.1
    rw [e] at hit
    exact rev_end hh hit fun h' he' => hQ h' s.toks fun b o hb eo => he' b o (fun h => hb (by simp [h])) eo
  self := fun _ _ _ _ x hQ => rev_iter x.2.1 hQ
section
variable {w : World} {A : Around} {k : Nat} {base h₀ : Heap} {g : Array GenState} {dr : Drawn} {os : OsState} {env : Env}
/-- for over what reversed gave of a tuple -/
theorem for_rev {target iter : Expr} {body : List Stmt} {pos : Pos} {Q : Flow → Shared → Prop} {h₁ : Heap} {t₁ : Nat} (hh : A.handled = none)
    (h : wpAny (model pw w) A (eval iter env) (fun xv s₁ => ∃ I l vs h₀ t tk, xv = .ref I ∧ I = h₀.objs.size ∧ s₁ = ⟨h₀.push (revO l ((vs.toArray.size : Int) - 1)), g, dr, tk, os⟩ ∧ t = tk ∧ Tp h₀ l vs ∧ vs.length < 1000000 ∧ On base h₀ ∧ ∃ (W : List Addr) (J : Nat → Heap → Prop),
      Loop w A base g dr os env target body Q h₀ vs.length (fun i v => vs[vs.length - 1 - i]? = some v) W J) NoE ⟨h₁, g, dr, t₁, os⟩)
    (hs : ∀ x, foldedSetIterable iter env x = pure x)
    (hgo : ∀ it v, letOwnedTupleGo target it v = pure ()) :
    wpAny (model pw w) A (exec (.For target iter body [] pos) env) Q NoE ⟨h₁, g, dr, t₁, os⟩ := by
  refine wpAny_For (wpAny_mono h (fun xv s₁ z => ?_) fun _ _ x => x) hs
  obtain ⟨I, l, vs, h₀, t, tk, rfl, rfl, rfl, rfl, hl, hz, hO, W, J, Y⟩ := z
  have hR : IsRevO (h₀.push (revO l ((vs.toArray.size : Int) - 1))) h₀.objs.size l ((vs.toArray.size : Int) - 1) := ⟨_, Heap.get?_push_size _ rfl, rfl, rfl⟩
  refine rev_iter (s := ⟨_, g, dr, _, os⟩) hR ?_
  have hne : l ≠ h₀.objs.size := Nat.ne_of_lt hl.lt
  have hWI : h₀.objs.size ∉ W := fun hm => Nat.lt_irrefl _ (Y.lt _ hm)
  have Wk := Walks_rev (prog := pw) (w := w) hh h₀.objs.size l hne vs.toArray (by rw [List.size_toArray]; exact hz)
  have hsz : vs.toArray.size = vs.length := by simp
  rw [hsz] at Wk hR ⊢
  refine for_rule (n := vs.length) Wk W J (h₀ := h₀) (get?_size _) (Heap.get?_none_of_le hO.size) ?_ ?_ ?_ ?_ (Ext.push _ _ _ _) (Y.soft _ _ _ Y.start (Soft.push _ _ _)) Y.soft
    (fun i v h t hi hP X hJ => Y.turn i v h t _ hi (by simpa using hP) X hJ lt_fp) Y.done fun _ _ x => x
  · rintro i h ⟨_, ⟨o, e, _, hf⟩, _⟩; exact ⟨o, _, e, hf⟩
  · intro i h h' st X _
    refine ⟨st.1, st.2.1.at fun o e => X.same hWI e, ?_⟩
    obtain ⟨o, e, hc, n, hd⟩ := st.2.2
    obtain ⟨o', e', r⟩ := X l o e
    rw [r (.inr (.inl ⟨hc, _, n, hd⟩))] at e'
    exact ⟨o, e', hc, n, hd⟩
  · intro i h t v Q' st q
    rw [hgo]; exact wpAny_pure q
  · refine ⟨Nat.zero_le _, by simpa using hR, IsTup.push (tp_tup hl) _⟩
theorem rev_call {l : Addr} {vs : List Value} {Q : Value → Shared → Prop} {h : Heap} {t : Nat} {E : Value → Shared → Prop} (hl : Tp h l vs) (hz : vs.length < 1000000)
    (hQ : ∀ tk, Q (.ref h.objs.size) ⟨h.push (revO l ((vs.toArray.size : Int) - 1)), g, dr, tk, os⟩) : wpAny (model pw w) A (call (.type "reversed") [.ref l]) Q E ⟨h, g, dr, t, os⟩ :=
  call_rev (tp_tup hl) (by rw [List.size_toArray]; exact hz) hQ
end
-- part L14
section
variable {w : World} {A : Around} {k : Nat} {base h : Heap} {g : Array GenState} {dr : Drawn} {t : Nat} {os : OsState} {E : Value → Shared → Prop} {env : Env} {L : Addr} {m : Str → Option Value}
theorem asgn2 {nm : Str} {sc : Scope} {a : Addr} {cd : Value} {x y : Str} {px py pos : Pos} {kk : Nat} {tp : Addr} {u v : Value} {Q : Unit → Shared → Prop} (hh : A.handled = none) (ht : Tp h tp [u, v]) (F : Fr base L h m)
    (hk : sc.kind = .function) (hl : (envOf nm sc L a cd).kindOf x = some .local) (hl2 : (envOf nm sc L a cd).kindOf y = some .local)
    (hQ : ∀ h' t', Fr base L h' (fun z => if z = y then some v else if z = x then some u else m z) → Ext base [L] h h' → Q () ⟨h', g, dr, t', os⟩) :
    wpAny (model pw w) A (assign (.Tuple [.Name x px, .Name y py] kk pos) (envOf nm sc L a cd) (.ref tp)) Q E ⟨h, g, dr, t, os⟩ := by
  refine PyProof.Rows.assign_Tuple_tuple hh (tp_tup ht) rfl rfl fun h₁ hx => ?_
  have X : Ext base [] h h₁ := .of_keeps fun b o e => hx b o (Nat.ne_of_lt (Heap.lt_size e)) e
  show wpAny _ _ (assignInOrder [assign (.Name x px) _, assign (.Name y py) _] [u, v]) _ _ _
  refine wpAny_assignInOrder_more (asgn (fr_ext F X nin0) hk hl fun h₂ t₂ F₂ X₂ => ?_)
  refine wpAny_assignInOrder_more (asgn F₂ hk hl2 fun h₃ t₃ F₃ X₃ => ?_)
  exact wpAny_assignInOrder_none (hQ _ _ F₃ (((X.more (fun _ q => nomatch q)).step X₂).step X₃))
end
/-! what may follow a part -/
noncomputable def T4 : List Str := [Str.ofString "p", Str.ofString "q", Str.ofString "r", Str.ofString "eof"]
noncomputable def folSeq (S : Str → Bool) (Fs : Str → List Str) (ka : List Str) : List Pc → List Str
  | [] => ka
  | p :: ps => predEx S Fs (.pc p) (folSeq S Fs ka ps)
noncomputable def partSeq (S : Str → Bool) (Fs : Str → List Str) (ka : List Str) : List Pc → List (Ex × List Str)
  | [] => []
  | p :: ps => (.pc p, folSeq S Fs ka ps) :: partSeq S Fs ka ps
noncomputable def partEx (S : Str → Bool) (Fs : Str → List Str) (ka : List Str) : Ex → List (Ex × List Str)
  | .pc _ => []
  | .seq ps => partSeq S Fs ka ps
  | .alt ws => ws.map fun ps => (.seq ps, ka)
noncomputable def PartOf (w : World) (base h : Heap) (P : Addr → Prop) (v : Value) (q : Ex × List Str) : Prop :=
  ∃ tp iv db, v = .ref tp ∧ Tp h tp [iv, .ref db] ∧ IsEx h iv q.1 ∧ Ks w base h db q.2 ∧ P db
theorem PartOf.ext {w : World} {base h h' : Heap} {P : Addr → Prop} {v : Value} {q : Ex × List Str} {W : List Addr} (x : PartOf w base h P v q) (X : Ext base W h h') (hW : ∀ a ∈ W, ¬ P a) : PartOf w base h' P v q :=
  let ⟨tp, iv, db, e, h1, h2, h3, h4⟩ := x
  ⟨tp, iv, db, e, h1.ext X, h2.ext X, h3.ext X (fun hm => hW _ hm h4), h4⟩
theorem PartOf.soft {w : World} {base h h' : Heap} {P : Addr → Prop} {v : Value} {q : Ex × List Str} (x : PartOf w base h P v q) (X : Soft base h h') : PartOf w base h' P v q :=
  let ⟨tp, iv, db, e, h1, h2, h3, h4⟩ := x
  ⟨tp, iv, db, e, h1.soft X, h2.soft X, h3.soft X, h4⟩
theorem PartOf.imp {w : World} {base h : Heap} {P P' : Addr → Prop} {v : Value} {q : Ex × List Str} (x : PartOf w base h P v q) (k : ∀ a, P a → P' a) : PartOf w base h P' v q :=
  let ⟨tp, iv, db, e, h1, h2, h3, h4⟩ := x
  ⟨tp, iv, db, e, h1, h2, h3, k _ h4⟩
theorem predEx_sub4 {S : Str → Bool} {Fs : Str → List Str} {ns : List Str} {e : Ex} {ka : List Str} (hF : ∀ x, ∀ y ∈ Fs x, y ∈ T3) (he : ExOK ns e) (hk : ∀ y ∈ ka, y ∈ T4) : ∀ y ∈ predEx S Fs e ka, y ∈ T4 := by
  have h3 : ∀ y ∈ T3, y ∈ T4 := fun y hy => by simp [T3] at hy; rcases hy with rfl | rfl | rfl <;> simp [T4]
  intro y hy
  unfold predEx at hy
  split at hy
  · rcases (mergeK_mem _ _ _).mp hy with q | q
    · exact h3 y (firstEx_sub hF he y q)
    · exact hk y q
  · exact h3 y (firstEx_sub hF he y hy)
theorem folSeq_sub4 {S : Str → Bool} {Fs : Str → List Str} {ns : List Str} {ka : List Str} (hF : ∀ x, ∀ y ∈ Fs x, y ∈ T3) (hk : ∀ y ∈ ka, y ∈ T4) : ∀ (ps : List Pc), (∀ p ∈ ps, PcOK ns p) → ∀ y ∈ folSeq S Fs ka ps, y ∈ T4
  | [], _ => hk
  | p :: ps, hp => predEx_sub4 (ns := ns) hF (e := .pc p) (hp p (.head _)) (folSeq_sub4 hF hk ps fun q hq => hp q (.tail _ hq))
theorem partSeq_drop {S : Str → Bool} {Fs : Str → List Str} {ka : List Str} : ∀ (ps : List Pc) (i : Nat) (p : Pc), ps[i]? = some p → partSeq S Fs ka (ps.drop i) = (.pc p, folSeq S Fs ka (ps.drop (i + 1))) :: partSeq S Fs ka (ps.drop (i + 1))
  | [], i, p, e => by simp at e
  | q :: ps, 0, p, e => by simp at e; subst e; simp [partSeq]
  | q :: ps, i + 1, p, e => by
    simp only [List.drop_succ_cons]
    exact partSeq_drop ps i p (by simpa using e)
theorem folSeq_drop {S : Str → Bool} {Fs : Str → List Str} {ka : List Str} : ∀ (ps : List Pc) (i : Nat) (p : Pc), ps[i]? = some p → folSeq S Fs ka (ps.drop i) = predEx S Fs (.pc p) (folSeq S Fs ka (ps.drop (i + 1)))
  | [], i, p, e => by simp at e
  | q :: ps, 0, p, e => by simp at e; subst e; simp [folSeq]
  | q :: ps, i + 1, p, e => by
    simp only [List.drop_succ_cons]
    exact folSeq_drop ps i p (by simpa using e)
-- part L15
/-! cells -/
section
variable {B h h' : Heap} {W : List Addr} {c : Addr} {v : Option Value}
theorem ce_ext (x : h.IsCell c v) (X : Ext B W h h') (hc : c ∉ W) : h'.IsCell c v := let ⟨o, e, hd⟩ := x; ⟨o, X.same hc e, hd⟩
theorem ce_soft (x : h.IsCell c v) (X : Soft B h h') : h'.IsCell c v := let ⟨o, e, hd⟩ := x; ⟨o, X c o e (.inl fun vs q => by rw [hd] at q; cases q), hd⟩
theorem ce_live (x : h.IsCell c v) : h.get? c ≠ none := by obtain ⟨o, e, _⟩ := x; rw [e]; simp
end
section
variable {w : World} {base : Heap} {M : Model} {A : Around} {E : Value → Shared → Prop} {s : Shared} {env : Env} {m : Str → Option Value}
theorem ldl_ {x : Str} {pos : Pos} {v : Value} {Q : Value → Shared → Prop} (F : Fr base env.locals s.heap m) (hv : m x = some v) (hk : env.scope.kind = .function) (hl : env.kindOf x = some .local)
    (hd : (x == ("__debug__" : Str)) = false) (h : Q v s) : wpAny M A (eval (.Name x pos) env) Q E s := wpAny_Name (wpAny_loadName_local hk hl F.ns hv h) hd
theorem ldg_ (C : Bs w base) {x : Str} {pos : Pos} {v : Value} {Q : Value → Shared → Prop} {L : Addr} (F : Fr base L s.heap m) (hg : env.globals = mainGlobals) (hv : C.mg x = some v) (hk : env.scope.kind = .function) (hl : env.kindOf x = some .globalImplicit)
    (hd : (x == ("__debug__" : Str)) = false) (h : Q v s) : wpAny M A (eval (.Name x pos) env) Q E s :=
  Calls.Name_function_global hk hl (Calls.loadGlobal_global (env := env) (by rw [hg]; exact C.g.keeps F.keep) hv h) hd
theorem ldb_ (C : Bs w base) {x : Str} {pos : Pos} {v : Value} {Q : Value → Shared → Prop} {L : Addr} (hv : (x, v) ∈ biNames) (F : Fr base L s.heap m) (hg : env.globals = mainGlobals) (hb : env.builtins = builtinsNs) (hk : env.scope.kind = .function) (hl : env.kindOf x = some .globalImplicit)
    (hd : (x == ("__debug__" : Str)) = false) (h : Q v s) : wpAny M A (eval (.Name x pos) env) Q E s :=
  Calls.Name_function_global hk hl (Calls.loadGlobal_builtin (env := env) (by rw [hg]; exact C.g.keeps F.keep) (C.bi _ hv).1 (by rw [hb]; exact C.b.keeps F.keep) (C.bi _ hv).2 h) hd
theorem ldc_ {x : Str} {pos : Pos} {v : Value} {c : Addr} {Q : Value → Shared → Prop} (hk : env.scope.kind = .function) (hl : env.kindOf x = some .cell) (hc : env.cells.lookup x = some c) (X : s.heap.IsCell c (some v))
    (hd : (x == ("__debug__" : Str)) = false) (h : Q v s) : wpAny M A (eval (.Name x pos) env) Q E s := wpAny_Name (wpAny_loadName_cell hk hl hc X h) hd
end
/-! frames with cells -/
section
variable {w : World} {base : Heap} {M : Model} {A : Around} {E : Value → Shared → Prop} {s : Shared} {nm : Str} {sc : Scope} {L a : Addr} {cd : Value} {m : Str → Option Value}
theorem ldlC {x : Str} {pos : Pos} {v : Value} {Q : Value → Shared → Prop} (F : Fr base L s.heap m) (hv : m x = some v) (hk : sc.kind = .function) (hl : (envOfC nm sc L a cd).kindOf x = some .local)
    (hd : (x == ("__debug__" : Str)) = false) (h : Q v s) : wpAny M A (eval (.Name x pos) (envOfC nm sc L a cd)) Q E s := ldl_ F hv hk hl hd h
theorem ldgC (C : Bs w base) {x : Str} {pos : Pos} {v : Value} {Q : Value → Shared → Prop} (F : Fr base L s.heap m) (hv : C.mg x = some v) (hk : sc.kind = .function) (hl : (envOfC nm sc L a cd).kindOf x = some .globalImplicit)
    (hd : (x == ("__debug__" : Str)) = false) (h : Q v s) : wpAny M A (eval (.Name x pos) (envOfC nm sc L a cd)) Q E s := ldg_ C F rfl hv hk hl hd h
theorem ldbC (C : Bs w base) {x : Str} {pos : Pos} {v : Value} {Q : Value → Shared → Prop} (hv : (x, v) ∈ biNames) (F : Fr base L s.heap m) (hk : sc.kind = .function) (hl : (envOfC nm sc L a cd).kindOf x = some .globalImplicit)
    (hd : (x == ("__debug__" : Str)) = false) (h : Q v s) : wpAny M A (eval (.Name x pos) (envOfC nm sc L a cd)) Q E s := ldb_ C hv F rfl rfl hk hl hd h
theorem ldcC {x : Str} {pos : Pos} {v : Value} {c : Addr} {Q : Value → Shared → Prop} (hk : sc.kind = .function) (hl : (envOfC nm sc L a cd).kindOf x = some .cell) (hc : (envOfC nm sc L a cd).cells.lookup x = some c) (X : s.heap.IsCell c (some v))
    (hd : (x == ("__debug__" : Str)) = false) (h : Q v s) : wpAny M A (eval (.Name x pos) (envOfC nm sc L a cd)) Q E s := ldc_ hk hl hc X hd h
end
section
variable {w : World} {base : Heap} {M : Model} {A : Around} {E : Value → Shared → Prop} {s : Shared} {scope : Scope} {cl : List (Str × Addr)} {C : Addr} {nm : Str} {sc : Scope} {L a : Addr} {cd : Value} {m : Str → Option Value}
theorem ldlK {x : Str} {pos : Pos} {v : Value} {Q : Value → Shared → Prop} (F : Fr base C s.heap m) (hv : m x = some v) (hk : scope.kind = .function) (hl : (compEnvC scope cl C (envOfC nm sc L a cd)).kindOf x = some .local)
    (hd : (x == ("__debug__" : Str)) = false) (h : Q v s) : wpAny M A (eval (.Name x pos) (compEnvC scope cl C (envOfC nm sc L a cd))) Q E s := ldl_ F hv hk hl hd h
theorem ldgK (B : Bs w base) {x : Str} {pos : Pos} {v : Value} {Q : Value → Shared → Prop} (F : Fr base C s.heap m) (hv : B.mg x = some v) (hk : scope.kind = .function) (hl : (compEnvC scope cl C (envOfC nm sc L a cd)).kindOf x = some .globalImplicit)
    (hd : (x == ("__debug__" : Str)) = false) (h : Q v s) : wpAny M A (eval (.Name x pos) (compEnvC scope cl C (envOfC nm sc L a cd))) Q E s := ldg_ B F rfl hv hk hl hd h
theorem ldcK {x : Str} {pos : Pos} {v : Value} {c : Addr} {Q : Value → Shared → Prop} (hk : scope.kind = .function) (hl : (compEnvC scope cl C (envOfC nm sc L a cd)).kindOf x = some .cell) (hc : (compEnvC scope cl C (envOfC nm sc L a cd)).cells.lookup x = some c) (X : s.heap.IsCell c (some v))
    (hd : (x == ("__debug__" : Str)) = false) (h : Q v s) : wpAny M A (eval (.Name x pos) (compEnvC scope cl C (envOfC nm sc L a cd))) Q E s := ldc_ hk hl hc X hd h
end
section
variable {w : World} {A : Around} {k : Nat} {base h : Heap} {g : Array GenState} {dr : Drawn} {t : Nat} {os : OsState} {E : Value → Shared → Prop} {L : Addr} {m : Str → Option Value} {nm : Str} {sc : Scope} {a : Addr} {cd : Value}
theorem stoC {x : Str} {v : Value} {Q : Unit → Shared → Prop} (F : Fr base L h m) (hk : sc.kind = .function) (hl : (envOfC nm sc L a cd).kindOf x = some .local)
    (hQ : ∀ h' t', Fr base L h' (fun y => if y = x then some v else m y) → Ext base [L] h h' → Q () ⟨h', g, dr, t', os⟩) :
    wpAny (model pw w) A (storeName (envOfC nm sc L a cd) x v) Q E ⟨h, g, dr, t, os⟩ :=
  wpAny_storeName_local hl F.ns (fun h' hn hs => hQ h' _ (F.set hn hs) (Ext.frame F (F.set hn hs) hs)) (by show (sc.kind == .class || (sc.kind == .module && L != mainGlobals)) = false; rw [hk]; rfl)
theorem asgnC {x : Str} {pos : Pos} {v : Value} {Q : Unit → Shared → Prop} (F : Fr base L h m) (hk : sc.kind = .function) (hl : (envOfC nm sc L a cd).kindOf x = some .local)
    (hQ : ∀ h' t', Fr base L h' (fun y => if y = x then some v else m y) → Ext base [L] h h' → Q () ⟨h', g, dr, t', os⟩) :
    wpAny (model pw w) A (assign (.Name x pos) (envOfC nm sc L a cd) v) Q E ⟨h, g, dr, t, os⟩ := wpAny_assign_Name (stoC F hk hl hQ)
theorem asgn2C {x y : Str} {px py pos : Pos} {kk : Nat} {tp : Addr} {u v : Value} {Q : Unit → Shared → Prop} (hh : A.handled = none) (ht : Tp h tp [u, v]) (F : Fr base L h m)
    (hk : sc.kind = .function) (hl : (envOfC nm sc L a cd).kindOf x = some .local) (hl2 : (envOfC nm sc L a cd).kindOf y = some .local)
    (hQ : ∀ h' t', Fr base L h' (fun z => if z = y then some v else if z = x then some u else m z) → Ext base [L] h h' → Q () ⟨h', g, dr, t', os⟩) :
    wpAny (model pw w) A (assign (.Tuple [.Name x px, .Name y py] kk pos) (envOfC nm sc L a cd) (.ref tp)) Q E ⟨h, g, dr, t, os⟩ := by
  refine PyProof.Rows.assign_Tuple_tuple hh (tp_tup ht) rfl rfl fun h₁ hx => ?_
  have X : Ext base [] h h₁ := .of_keeps fun b o e => hx b o (Nat.ne_of_lt (Heap.lt_size e)) e
  show wpAny _ _ (assignInOrder [assign (.Name x px) _, assign (.Name y py) _] [u, v]) _ _ _
  refine wpAny_assignInOrder_more (asgnC (fr_ext F X nin0) hk hl fun h₂ t₂ F₂ X₂ => ?_)
  refine wpAny_assignInOrder_more (asgnC F₂ hk hl2 fun h₃ t₃ F₃ X₃ => ?_)
  exact wpAny_assignInOrder_none (hQ _ _ F₃ (((X.more (fun _ q => nomatch q)).step X₂).step X₃))
theorem stcC {x : Str} {c : Addr} {v₀ : Option Value} {v : Value} {Q : Unit → Shared → Prop} (hO : On base h) (hk : sc.kind = .function) (hl : (envOfC nm sc L a cd).kindOf x = some .cell) (hc : (envOfC nm sc L a cd).cells.lookup x = some c) (X : h.IsCell c v₀) (hb : base.get? c = none)
    (hQ : ∀ h' t', h'.IsCell c (some v) → Ext base [c] h h' → Q () ⟨h', g, dr, t', os⟩) :
    wpAny (model pw w) A (storeName (envOfC nm sc L a cd) x v) Q E ⟨h, g, dr, t, os⟩ := by
  refine wpAny_storeName_cell hk hl hc X fun h' hc' hs => hQ h' _ hc' ?_
  obtain ⟨o, e, hd⟩ := X
  obtain ⟨o', e', hd'⟩ := hc'
  exact Ext.one hs e e' hb (fun ⟨_, xs, n, q⟩ => by rw [hd] at q; cases q)
theorem call_fnC {f : Addr} {q : Str} {D : Dn} {args : List Value} {binds : List (Str × Value)} {mL mC : Str → Option Value} {Q : Value → Shared → Prop}
    (hA : Ok A (k + 1)) (hf : FnIs base f q D) (hn : base.NoLimit) (hO : On base h)
    (hb : ∀ pm cd doc, bindArgs { name := D.name, qualname := q, params := D.params, body := .stmts D.body, scope := D.scope, globals := mainGlobals, closure := [], defaults := .none, kwdefaults := .none, doc := doc, pyModule := pm, code := cd, builtins := builtinsNs } ⟨args, []⟩ = pure binds)
    (hkind : ∀ L, (binds.all fun x => decide (D.scope.names.lookup x.1 = some .local) || (decide (D.scope.names.lookup x.1 = some .cell) && ((cellsFrom (L + 1) D.scope.names []).lookup x.1).isSome)) = true)
    (hsc : D.scope.isCoroutine = false ∧ D.scope.isGenerator = false ∧ D.scope.kind = .function)
    (hmL : ∀ L cd, bindL (envOfC q D.scope L f cd).kindOf binds (fun _ => none) = mL) (hmC : ∀ L cd, bindC (envOfC q D.scope L f cd).kindOf binds (fun _ => none) = mC)
    (body : ∀ R cd h₁ t₁ A₁, Fin_ Q R → Ok A₁ k → Fr base h.objs.size h₁ mL → Cl h.objs.size (cellsFrom (h.objs.size + 1) D.scope.names []) h₁ mC → Ext base [] h h₁ →
      wpAny (model pw w) A₁ (execs D.body (envOfC q D.scope h.objs.size f cd)) R NoE ⟨h₁, g, dr, t₁, os⟩) :
    wpAny (model pw w) A (call (.ref f) args) Q NoE ⟨h, g, dr, t, os⟩ := by
  obtain ⟨o, pm, cd, doc, ho, hd, hc⟩ := hf.is
  refine wpAny_call ?_
  refine codeAny_call_cells (fd := { name := D.name, qualname := q, params := D.params, body := .stmts D.body, scope := D.scope, globals := mainGlobals, closure := [], defaults := .none, kwdefaults := .none, doc := doc, pyModule := pm, code := cd, builtins := builtinsNs }) (s := ⟨h, g, dr, t, os⟩) hA.room (hO.keep _ _ ho) hd (hn.keeps hO.keep) (hc.keeps hO.keep) rfl (hb pm cd doc) rfl ?_ ?_ hsc.1 hsc.2.1 hsc.2.2
  · intro x hx
    have := List.all_eq_true.mp (hkind h.objs.size) x hx
    simp only [Bool.or_eq_true, Bool.and_eq_true, decide_eq_true_eq] at this
    exact this
  · intro s₁ X
    obtain ⟨h₁, tk, rfl, hk₁⟩ := X.done
    have e1 := hmL h.objs.size cd
    have e2 := hmC h.objs.size cd
    have XL := X.toInCall.ns
    have XC : Cl h.objs.size (cellsFrom (h.objs.size + 1) D.scope.names []) h₁ mC := by rw [← e2]; exact ⟨X.cell, X.apart, X.above⟩
    refine wpAny_mono (body _ cd h₁ tk _ (fin_q Q) (hA.deeper _) ⟨by rw [← e1]; exact XL, fun b o e => hk₁ b o (hO.keep b o e), hO.size⟩ XC (.of_keeps hk₁)) (fun fl s' x => x) (fun _ _ x => x.elim)
end
-- part L16
section
variable {w : World} {A : Around} {base : Heap} {g : Array GenState} {dr : Drawn} {t : Nat} {os : OsState} {env : Env} {L : Addr}
noncomputable def tests (ifs : List Expr) (env : Env) : Sem Bool := forIn ifs true fun c r => if r = true then do let ok ← isTrue c env (eval c env); pure (ForInStep.yield ok) else pure (ForInStep.yield r)
noncomputable def CompNext (base : Heap) (g : Array GenState) (dr : Drawn) (os : OsState) (W : List Addr) (h : Heap) (J : Heap → Prop) (s : Shared) : Prop := ∃ h' t', s = ⟨h', g, dr, t', os⟩ ∧ Ext base W h h' ∧ J h'
theorem comp_next {W : List Addr} {h h' : Heap} {J : Heap → Prop} {t' : Nat} (X : Ext base W h h') (j : J h') : CompNext base g dr os W h J ⟨h', g, dr, t', os⟩ := ⟨h', t', rfl, X, j⟩
structure CompJ (w : World) (A : Around) (base : Heap) (g : Array GenState) (dr : Drawn) (os : OsState) (cenv : Env) (x : Str) (ifs : List Expr) (elt : Expr) (h₀ : Heap) (C D : Addr) (n : Nat) (P : Nat → Value → Prop) (W : List Addr) (J : Nat → List Value → Heap → Prop) : Prop where
  lt : ∀ a ∈ W, a < h₀.objs.size
  start : J 0 [] h₀
  soft : ∀ i us h h', J i us h → Soft base h h' → J i us h'
  own : ∀ i us h h', J i us h → Ext base [C, D] h h' → J i us h'
  turn : ∀ i us v h t (m : Str → Option Value), i < n → us.length ≤ i → P i v → Ext base W h₀ h → J i us h → Fr base C h (fun y => if y = x then some v else m y) → h.get? D ≠ none →
    wpAny (model pw w) A (tests ifs cenv) (fun ok s₃ => if ok = true then wpAny (model pw w) A (eval elt cenv) (fun y s₄ => CompNext base g dr os W h (J (i + 1) (us ++ [y])) s₄) NoE s₃
      else CompNext base g dr os W h (J (i + 1) us) s₃) NoE ⟨h, g, dr, t, os⟩
theorem comp_block {elt iter : Expr} {x : Str} {px : Pos} {ifs : List Expr} {scope : Scope} {cl : List (Str × Addr)} {pos : Pos} {h₀ h₂ : Heap} {t₂ : Nat} {I : Addr} {fp : List Addr} {n : Nat} {P : Nat → Value → Prop}
    {St : Nat → Heap → Prop} {RR : Value → Addr → Result → Shared → Prop} (W : List Addr) (Wk : Walks pw w A I fp [I] n P St) (hn : n ≤ 100000)
    (hcell : ∀ y ∈ scope.names, y.2 ≠ .cell) (hkind : scope.kind = .function) (hx : scope.names.lookup x = some .local) (hO : On base h₂)
    (hI : h₀.get? I = none) (hI2 : I < h₂.objs.size) (hIb : base.get? I = none) (h02 : ∀ b o, h₀.get? b = some o → h₂.get? b = some o) (h02s : h₀.objs.size ≤ h₂.objs.size) (hIr : ∀ i h, St i h → ∃ o fs, h.get? I = some o ∧ o.data = .fields fs)
    (hst : ∀ C D, h₂.objs.size ≤ C → h₂.objs.size ≤ D → ∀ i h h', St i h → Ext base (C :: D :: W) h h' → St i h') (hs : St 0 h₂)
    (hJ : ∀ C D, C ≠ D → h₂.objs.size ≤ C → h₂.objs.size ≤ D → ∃ J, CompJ w A base g dr os (compEnvC scope cl C env) x ifs elt h₀ C D n P W J ∧
      ∀ us h t (m : Str → Option Value), us.length ≤ n → Ext base W h₀ h → J n us h → Ls base h D us → h.Ns C m → RR (.ref D) C (.ok .next) ⟨h, g, dr, t, os⟩) :
    wpAny (model pw w) A (newList []) (fun acc s₃ => wpAny (model pw w) A (newFunctionEnv scope env.globals cl [] env.qual none .none (some env)) (fun cenv s₄ =>
      codeAny (model pw w) A (.compStart (.ListComp elt [⟨.Name x px, iter, ifs, 0⟩] scope pos) 0 (.ref I) acc { cenv with scope := relabel scope env }) (RR acc cenv.locals) s₄) NoE s₃) NoE ⟨h₂, g, dr, t₂, os⟩ := by
  refine wpAny_newObj_type (wpAny_newFunctionEnv hcell (by intro y hy; simp at hy) (fun h₁ hns₁ hsb₁ => ?_) hkind)
  dsimp only at hns₁ hsb₁ ⊢
  generalize hH2 : h₂.push { cls := .type "list", dict := none, data := .seq ([] : List Value).toArray } = H2 at hns₁ hsb₁ ⊢
  have hC : H2.objs.size = h₂.objs.size + 1 := by rw [← hH2, Heap.size_push]
  obtain ⟨C, hCe⟩ : ∃ C : Nat, C = H2.objs.size := ⟨_, rfl⟩
  obtain ⟨D, hDe⟩ : ∃ D : Nat, D = h₂.objs.size := ⟨_, rfl⟩
  rw [← hCe] at hns₁ hsb₁ hC ⊢
  rw [← hDe] at hC ⊢
  have hCD : C ≠ D := by omega
  have hb1 : ∀ b o, h₂.get? b = some o → h₁.get? b = some o := fun b o e => by
    have hlt := Heap.lt_size e
    have h2 : H2.get? b = some o := by rw [← hH2]; exact Heap.get?_push_of_some _ e
    have hne : b ≠ C := by have : (b : Nat) < D := by rw [hDe]; exact hlt
                           intro q; exact Nat.ne_of_lt (Nat.lt_of_lt_of_le this (by rw [hC]; exact Nat.le_succ D)) q
    exact hsb₁.extBut b o hne (Heap.get?_push_of_some _ h2)
  have hg2 : H2.get? D = some { cls := .type "list", dict := none, data := .seq ([] : List Value).toArray } := by rw [← hH2, hDe]; exact Heap.get?_push_size _ rfl
  have hD1 : Ls base h₁ D [] := by
    refine ⟨Heap.get?_none_of_le (by rw [hDe]; exact hO.size), _, hsb₁.extBut _ _ (Ne.symm hCD) (Heap.get?_push_of_some _ hg2)⟩
  have hFC : Fr base C h₁ (fun _ => none) := ⟨hns₁, fun b o e => hb1 b o (hO.keep b o e), by have := hO.size; omega⟩
  obtain ⟨J, cj, fin⟩ := hJ C D hCD (by omega) (by omega)
  have hfr : ∀ a, h₂.objs.size ≤ a → h₀.get? a = none := fun a ha => Heap.get?_none_of_le (Nat.le_trans h02s ha)
  have hCW : C ∉ W := fun m => absurd (cj.lt _ m) (Nat.not_lt.mpr (by show h₀.objs.size ≤ C; omega))
  have hDW : D ∉ W := fun m => absurd (cj.lt _ m) (Nat.not_lt.mpr (by show h₀.objs.size ≤ D; omega))
  have hI3 : (I : Nat) < D := by rw [hDe]; exact hI2
  have hIC : I ≠ C := fun q => Nat.ne_of_lt (Nat.lt_of_lt_of_le hI3 (by rw [hC]; exact Nat.le_succ D)) q
  have hID : I ≠ D := fun q => Nat.ne_of_lt hI3 q
  have stp := hst C D (by omega) (by omega)
  have itr : ∀ {i h h'}, St i h → (∀ b o, b ∉ [I] → h.get? b = some o → h'.get? b = some o) → Soft base h h' := fun {i h h'} st k => by
    obtain ⟨o, fs, e, hf⟩ := hIr i h st
    exact Soft.of_but k e hf hIb
  have itX : ∀ {h h'}, Ext base W h₀ h → (∀ b o, b ∉ [I] → h.get? b = some o → h'.get? b = some o) → Ext base W h₀ h' := fun {h h'} X k a p q => by
    have hne : a ∉ [I] := fun m => by rw [List.mem_singleton.mp m, hI] at q; cases q
    obtain ⟨p', e', r⟩ := X a p q
    exact ⟨p', k a p' hne e', r⟩
  have itN : ∀ {h h'} {l : Addr} {vs : List Value}, Ls base h l vs → Soft base h h' → Ls base h' l vs := fun x S => x.soft S
  have X1 : Ext base [] h₂ h₁ := .of_keeps hb1
  have X01 : Ext base W h₀ h₁ := .of_keeps fun b o e => hb1 b o (h02 b o e)
  have S01 : Soft base h₀ h₁ := .keeps fun b o e => hb1 b o (h02 b o e)
  have hs1 : St 0 h₁ := stp 0 _ _ hs (X1.more (fun _ q => nomatch q))
  have loop : ∀ t, codeAny (model pw w) A (.compLoop (.ListComp elt [⟨.Name x px, iter, ifs, 0⟩] scope pos) 0 (.ref I) (.ref D) (compEnvC scope cl C env)) (RR (.ref D) C) ⟨h₁, g, dr, t, os⟩ := by
    intro t
    refine codeAny_compLoop_tests
      (fun k s' => ∃ i us h t m, s' = ⟨h, g, dr, t, os⟩ ∧ St i h ∧ Ext base W h₀ h ∧ J i us h ∧ Ls base h D us ∧ Fr base C h m ∧ us.length ≤ i ∧ i ≤ n ∧ k = n + 1 - i) ?_ (n + 1)
      ⟨0, [], h₁, t, _, rfl, hs1, X01, cj.soft _ _ _ _ cj.start S01, hD1, hFC, Nat.le_refl _, Nat.zero_le _, rfl⟩
    rintro k s' ⟨i, us, h, t, m, rfl, st, X, j, hL, F, hu, hi, rfl⟩
    by_cases hlt : i < n
    · refine Wk.item i ⟨h, g, dr, t, os⟩ _ _ hlt st fun v h' t' hP st' hk => ?_
      have S := itr st hk
      have X' := itX X hk
      have j := cj.soft _ _ _ _ j S
      have hL := hL.soft S
      have F := fr_soft F S
      refine wpAny_assign_Name (wpAny_storeName_local (env := compEnvC scope cl C env) (lookup_relabel_local hx) F.ns (fun h₃ hn₃ hs₃ => ?_) (by simp [compEnvC, relabel, hkind]))
      have F3 : Fr base C h₃ (fun y => if y = x then some v else m y) := F.set hn₃ hs₃
      have Y3 := Ext.frame F F3 hs₃
      have j := cj.own _ _ _ _ j (Y3.more (fun b m => by rw [List.mem_singleton.mp m]; exact .head _))
      have hL := hL.ext Y3 (nin1 (Ne.symm hCD))
      have st3 := stp _ _ _ st' (Y3.more (fun b m => by rw [List.mem_singleton.mp m]; exact .head _))
      have X3 : Ext base W h₀ h₃ := X'.trans Y3 fun a m => .inr (by rw [List.mem_singleton.mp m]; exact hfr _ (by omega))
      have tick : ∀ t₃, wpAny (model pw w) A (tests ifs (compEnvC scope cl C env)) _ NoE ⟨h₃, g, dr, t₃, os⟩ := fun t₃ => cj.turn i us v h₃ t₃ m hlt hu hP X3 j F3 hL.live
      refine wpAny_mono (tick _) (fun ok s₃ z => ?_) fun _ _ x => x.elim
      have again : ∀ us' h₅ t₅, Ext base (C :: D :: W) h₃ h₅ → Ext base W h₀ h₅ → J (i + 1) us' h₅ → Ls base h₅ D us' → Fr base C h₅ (fun y => if y = x then some v else m y) → us'.length ≤ i + 1 →
          ∃ m, m < n + 1 - i ∧ ∃ i us h t m', (⟨h₅, g, dr, t₅, os⟩ : Shared) = ⟨h, g, dr, t, os⟩ ∧ St i h ∧ Ext base W h₀ h ∧ J i us h ∧ Ls base h D us ∧ Fr base C h m' ∧ us.length ≤ i ∧ i ≤ n ∧ m = n + 1 - i := fun us' h₅ t₅ Y5 X5 j5 hL5 F5 hu5 =>
        ⟨n + 1 - (i + 1), by omega, i + 1, us', h₅, t₅, _, rfl, stp _ _ _ st3 Y5, X5, j5, hL5, F5, hu5, hlt, rfl⟩
      cases ok with
      | false =>
        simp only [Bool.false_eq_true, if_false] at z ⊢
        obtain ⟨h₄, t₄, rfl, Y4, j4⟩ := z
        exact again us h₄ t₄ (Y4.more (fun a m => .tail _ (.tail _ m))) (X3.step Y4) j4 (hL.ext Y4 hDW) (fr_ext F3 Y4 hCW) (by omega)
      | true =>
        simp only [if_true] at z ⊢
        refine wpAny_mono z (fun y s₄ z₄ => ?_) fun _ _ x => x.elim
        obtain ⟨h₄, t₄, rfl, Y4, j4⟩ := z₄
        refine ls_append (hL.ext Y4 hDW) (by omega) fun h₅ hL5 Y5 => ?_
        refine again (us ++ [y]) h₅ t₄ ((Y4.more (fun a m => .tail _ (.tail _ m))).step (Y5.more (fun b m => by rw [List.mem_singleton.mp m]; exact .tail _ (.head _)))) ((X3.step Y4).trans Y5 fun a m => .inr (by rw [List.mem_singleton.mp m]; exact hfr _ (by omega)))
          (cj.own _ _ _ _ j4 (Y5.more (fun b m => by rw [List.mem_singleton.mp m]; exact .tail _ (.head _)))) hL5 (fr_ext (fr_ext F3 Y4 hCW) Y5 (nin1 hCD)) (by simp; omega)
    · have hin : i = n := by omega
      subst hin
      refine Wk.done ⟨h, g, dr, t, os⟩ _ _ st fun h' t' hk => ?_
      have S := itr st hk
      exact fin us h' t' m hu (itX X hk) (cj.soft _ _ _ _ j S) (hL.soft S) (fr_soft F S).ns
  exact codeAny_compStart_list (loop _) (Wk.self 0 _ _ _ hs1 (loop _))
end
-- part L17
noncomputable def KB (l : List Addr) (h h' : Heap) : Prop := ∀ b o, b ∉ l → h.get? b = some o → h'.get? b = some o
section
variable {w : World} {B base h h' : Heap} {l : List Addr} {a : Addr}
theorem Ls.kb {vs : List Value} (x : Ls B h a vs) (k : KB l h h') (ha : a ∉ l) : Ls B h' a vs := ⟨x.1, let ⟨n, e⟩ := x.2; ⟨n, k _ _ ha e⟩⟩
theorem Dc.kb {kvs : List (Str × Value)} (x : Dc w B h a kvs) (k : KB l h h') (ha : a ∉ l) : Dc w B h' a kvs := ⟨x.1, x.2.1, x.2.2.at fun o e => k _ _ ha e⟩
theorem Ks.kb {ks : List Str} (x : Ks w B h a ks) (k : KB l h h') (ha : a ∉ l) : Ks w B h' a ks := Dc.kb x k ha
theorem Tp.kb {vs : List Value} (x : Tp h a vs) (k : KB l h h') (ha : a ∉ l) : Tp h' a vs := let ⟨n, e⟩ := x; ⟨n, k _ _ ha e⟩
theorem fr_kb {L : Addr} {m : Str → Option Value} (F : Fr base L h m) (k : KB l h h') (hL : L ∉ l) (hb : ∀ b ∈ l, base.get? b = none) : Fr base L h' m where
  ns := F.ns.at' fun o e => k _ _ hL e
  keep := fun b o e => k b o (fun m => by rw [hb b m] at e; cases e) (F.keep b o e)
  above := F.above
theorem ce_kb {v : Option Value} (x : h.IsCell a v) (k : KB l h h') (ha : a ∉ l) : h'.IsCell a v := let ⟨o, e, hd⟩ := x; ⟨o, k _ _ ha e, hd⟩
/-- tuples stand when what goes is none -/
theorem Tp.kb1 {vs : List Value} (x : Tp h a vs) (k : KB l h h') (hl : ∀ b ∈ l, ∀ o, h.get? b = some o → ¬ Tuplish o) : Tp h' a vs := by
  obtain ⟨n, e⟩ := x
  exact ⟨n, k _ _ (fun m => hl a m _ e ⟨rfl, _, _, rfl⟩) e⟩
theorem IsNm.kb {tag x : Str} {v : Value} (p : IsNm h tag v x) (k : KB l h h') (hl : ∀ b ∈ l, ∀ o, h.get? b = some o → ¬ Tuplish o) : IsNm h' tag v x := let ⟨a, t1, t2, e, ht⟩ := p; ⟨a, t1, t2, e, ht.kb1 k hl⟩
theorem IsPc.kb {p : Pc} {v : Value} (q : IsPc h v p) (k : KB l h h') (hl : ∀ b ∈ l, ∀ o, h.get? b = some o → ¬ Tuplish o) : IsPc h' v p := by
  cases p with
  | text x => exact IsNm.kb q k hl
  | name x => exact IsNm.kb q k hl
  | opt x => obtain ⟨a, t1, v', e, ht, hn⟩ := q; exact ⟨a, t1, v', e, ht.kb1 k hl, hn.kb k hl⟩
  | rep x => obtain ⟨a, t1, v', e, ht, hn⟩ := q; exact ⟨a, t1, v', e, ht.kb1 k hl, hn.kb k hl⟩
end
section
variable {w : World} {A : Around} {base : Heap} {g : Array GenState} {dr : Drawn} {t : Nat} {os : OsState} {L : Addr}
/-- what can be gone over -/
structure Itf (w : World) (A : Around) (base h₀ h₂ : Heap) (I : Addr) (n : Nat) (P : Nat → Value → Prop) (W : List Addr) (fp : List Addr) (St : Nat → Heap → Prop) : Prop where
  wk : Walks pw w A I fp [I] n P St
  hI : I = h₀.objs.size
  sz : h₂.objs.size = h₀.objs.size + 1
  kp : ∀ b o, h₀.get? b = some o → h₂.get? b = some o
  rc : ∀ i h, St i h → ∃ o fs, h.get? I = some o ∧ o.data = .fields fs
  st : ∀ C D, h₂.objs.size ≤ C → h₂.objs.size ≤ D → ∀ i h h', St i h → Ext base (C :: D :: W) h h' → St i h'
  hs : St 0 h₂
noncomputable def ItOk (w : World) (A : Around) (base : Heap) (g : Array GenState) (dr : Drawn) (os : OsState) (h₀ : Heap) (xv : Value) (n : Nat) (P : Nat → Value → Prop) (W : List Addr) : Prop :=
  n ≤ 100000 ∧ ∀ t (Q : Value → Shared → Prop), (∀ I h₂ t₂ fp St, Itf w A base h₀ h₂ I n P W fp St → Q (.ref I) ⟨h₂, g, dr, t₂, os⟩) → wpAny (model pw w) A (pyIter xv) Q NoE ⟨h₀, g, dr, t, os⟩
theorem nin_CDW {a C D : Addr} {W : List Addr} (h1 : a < C) (h2 : a < D) (h3 : a ∉ W) : a ∉ C :: D :: W := fun m => by
  rcases List.mem_cons.mp m with q | m
  · exact Nat.ne_of_lt h1 q
  · rcases List.mem_cons.mp m with q | m
    · exact Nat.ne_of_lt h2 q
    · exact h3 m
theorem it_tup {h₀ : Heap} {b : Addr} {vs : List Value} {W : List Addr} (hh : A.handled = none) (ht : Tp h₀ b vs) (hW : ∀ a ∈ W, a < h₀.objs.size) (hz : vs.length ≤ 100000) : ItOk w A base g dr os h₀ (.ref b) vs.length (fun i v => vs[i]? = some v) W := by
  refine ⟨hz, fun t Q k => ?_⟩
  refine wpAny_pyIter_tuple (s := ⟨h₀, g, dr, t, os⟩) (tp_tup ht) ?_
  have hne : b ≠ h₀.objs.size := Nat.ne_of_lt ht.lt
  have Wk := Walks.tuple (prog := pw) (w := w) hh h₀.objs.size b hne vs.toArray
  refine k _ _ _ _ (fun i h => _) ⟨⟨Wk.sub, Wk.frame, fun i s Q E hi st hQ => Wk.item i s Q E hi st fun v h' tk hP st' hk => hQ v h' tk ?_ st' hk, Wk.done, Wk.self⟩, rfl, Heap.size_push .., fun _ _ e => Heap.get?_push_of_some _ e, ?_, ?_, ?_⟩
  · simpa using hP
  · rintro i h ⟨⟨o, e, _, hf⟩, _⟩; exact ⟨o, _, e, hf⟩
  · intro C D hC hD i h h' st X
    have hC' : h₀.objs.size < C := Nat.lt_of_lt_of_le (by rw [Heap.size_push]; exact Nat.lt_succ_self _) hC
    have hD' : h₀.objs.size < D := Nat.lt_of_lt_of_le (by rw [Heap.size_push]; exact Nat.lt_succ_self _) hD
    have hI : h₀.objs.size ∉ C :: D :: W := nin_CDW hC' hD' fun m => Nat.lt_irrefl _ (hW _ m)
    refine ⟨st.1.at fun o e => X.same hI e, ?_⟩
    obtain ⟨o, e, hc, n, hd⟩ := st.2
    obtain ⟨o', e', r⟩ := X b o e
    rw [r (.inr (.inl ⟨hc, _, n, hd⟩))] at e'
    exact ⟨o, e', hc, n, hd⟩
  · exact ⟨⟨_, Heap.get?_push_size _ rfl, rfl, rfl⟩, IsTup.push (tp_tup ht) _⟩
theorem it_dict {h₀ : Heap} {d : Addr} {kvs : List (Str × Value)} {W : List Addr} (hh : A.handled = none) (ht : Dc w base h₀ d kvs) (hdW : d ∉ W) (hW : ∀ a ∈ W, a < h₀.objs.size) (hz : kvs.length ≤ 100000) : ItOk w A base g dr os h₀ (.ref d) kvs.length (fun i v => ∃ x y u, kvs[i]? = some (x, y) ∧ v = .str x u) W := by
  refine ⟨hz, fun t Q k => ?_⟩
  obtain ⟨ep, hd⟩ := ht.2.2.dictAt
  refine wpAny_pyIter_dict (s := ⟨h₀, g, dr, t, os⟩) ht.2.1 hd ?_
  have hdl : d < h₀.objs.size := ht.lt
  have hne : d ≠ h₀.objs.size := Nat.ne_of_lt hdl
  have Wk := Walks.dictKeys (prog := pw) (w := w) (knd := SK w) hh h₀.objs.size d hne kvs ep
  refine k _ _ _ _ (fun i h => _) ⟨⟨Wk.sub, Wk.frame, fun i s Q E hi st hQ => Wk.item i s Q E hi st fun v h' tk hP st' hk => hQ v h' tk ?_ st' hk, Wk.done, Wk.self⟩, rfl, Heap.size_push .., fun _ _ e => Heap.get?_push_of_some _ e, ?_, ?_, ?_⟩
  · obtain ⟨x, y, hx, hv⟩ := hP; obtain ⟨u, rfl⟩ := Value.isStrOf_shape hv; exact ⟨x, y, u, hx, rfl⟩
  · rintro i h ⟨⟨o, e, _, hf⟩, _⟩; exact ⟨o, _, e, hf⟩
  · intro C D hC hD i h h' st X
    have hC' : h₀.objs.size < C := Nat.lt_of_lt_of_le (by rw [Heap.size_push]; exact Nat.lt_succ_self _) hC
    have hD' : h₀.objs.size < D := Nat.lt_of_lt_of_le (by rw [Heap.size_push]; exact Nat.lt_succ_self _) hD
    have hI : h₀.objs.size ∉ C :: D :: W := nin_CDW hC' hD' fun m => Nat.lt_irrefl _ (hW _ m)
    have hd' : d ∉ C :: D :: W := nin_CDW (Nat.lt_trans hdl hC') (Nat.lt_trans hdl hD') hdW
    exact ⟨st.1.at fun o e => X.same hI e, st.2.at' fun o e => X.same hd' e⟩
  · exact ⟨⟨_, Heap.get?_push_size _ rfl, rfl, rfl⟩, hd.push _⟩
theorem it_range {h₀ : Heap} {r : Addr} {n : Nat} {u v₁ v₂ : Tok} {W : List Addr} (hh : A.handled = none) (hr : IsRange h₀ r 0 (n : Nat) 1 u v₁ v₂) (hn : n ≤ 100000) (hW : ∀ a ∈ W, a < h₀.objs.size) : ItOk w A base g dr os h₀ (.ref r) n (fun i v => ∃ u, v = .int (i : Nat) u) W := by
  refine ⟨hn, fun t Q k => ?_⟩
  have hsz : Builtin.Range.rangeSize 0 (n : Int) 1 = n := by
    unfold Builtin.Range.rangeSize; simp; omega
  refine wpAny_pyIter_range (s := ⟨h₀, g, dr, t, os⟩) hr (by unfold Builtin.Range.small Builtin.Range.rangeFitsLong; rw [hsz]; simp only [Bool.and_eq_true, Bool.or_eq_true, decide_eq_true_eq]; rw [if_pos (by decide)]; simp only [Bool.and_eq_true, decide_eq_true_eq]; omega) ?_
  have Wk := Walks.range (prog := pw) (w := w) hh h₀.objs.size 0 1 n
  refine k _ _ _ _ (fun i h => _) ⟨⟨Wk.sub, Wk.frame, fun i s Q E hi st hQ => Wk.item i s Q E hi st fun v h' tk hP st' hk => hQ v h' tk ?_ st' hk, Wk.done, Wk.self⟩, rfl, Heap.size_push .., fun _ _ e => Heap.get?_push_of_some _ e, ?_, ?_, ?_⟩
  · obtain ⟨u, rfl⟩ := hP; exact ⟨u, by simp⟩
  · intro i h st; exact ⟨_, _, st, rfl⟩
  · intro C D hC hD i h h' st X
    have hC' : h₀.objs.size < C := Nat.lt_of_lt_of_le (by rw [Heap.size_push]; exact Nat.lt_succ_self _) hC
    have hD' : h₀.objs.size < D := Nat.lt_of_lt_of_le (by rw [Heap.size_push]; exact Nat.lt_succ_self _) hD
    have hI : h₀.objs.size ∉ C :: D :: W := nin_CDW hC' hD' fun m => Nat.lt_irrefl _ (hW _ m)
    exact X.same hI st
  · show IsRangeIter _ _ _ _ _
    have e := Heap.get?_push_size h₀ (o := { cls := .type "range_iterator", data := .fields #[rawInt 0, rawInt (Builtin.Range.rangeSize 0 (n : Int) 1), rawInt 1] }) rfl
    rw [hsz] at e
    rw [hsz]; simpa [IsRangeIter, rawInt] using e
theorem kb_same {C : Addr} {h h' : Heap} (s : Heap.SameBut C h h') : KB [C] h h' := fun b o hb e => s.extBut b o (fun q => hb (List.mem_singleton.mpr q)) e
theorem comp_eval {env : Env} {s : Shared} {elt iter : Expr} {x : Str} {px : Pos} {ifs : List Expr} {scope : Scope} {cl : List (Str × Addr)} {pos : Pos} {Q : Value → Shared → Prop}
    (hclos : closureFor scope env = pure cl) (hcell : (scope.names.all fun y => decide (y.2 ≠ .cell)) = true) (hkind : scope.kind = .function)
    (hnames : (scope.names.all fun y => decide (y.2 = .local → scope.names.lookup y.1 = some .local)) = true) (hx : scope.names.lookup x = some .local)
    (hs : ∀ x, foldedSetIterable iter env x = pure x)
    (h : wpAny (model pw w) A (eval iter env) (fun xv s₁ => ∃ base g dr os h₀ t₀ n P W, s₁ = ⟨h₀, g, dr, t₀, os⟩ ∧ On base h₀ ∧ ItOk w A base g dr os h₀ xv n P W ∧
      ∀ C D, C ≠ D → h₀.get? C = none → h₀.get? D = none → h₀.objs.size ≤ C → h₀.objs.size ≤ D → ∃ J, CompJ w A base g dr os (compEnvC scope cl C env) x ifs elt h₀ C D n P W J ∧
        ∀ us h h' t, us.length ≤ n → J n us h → KB [C] h h' → Ext base W h₀ h' → Ls base h' D us → base.get? C = none → (∀ o, h.get? C = some o → ¬ Tuplish o) → Q (.ref D) ⟨h', g, dr, t, os⟩) NoE s) :
    wpAny (model pw w) A (eval (.ListComp elt [⟨.Name x px, iter, ifs, 0⟩] scope pos) env) Q NoE s := by
  have hcell' : ∀ y ∈ scope.names, y.2 ≠ .cell := fun y hy => of_decide_eq_true (List.all_eq_true.mp hcell y hy)
  have hnames' : ∀ y ∈ scope.names, y.2 = .local → scope.names.lookup y.1 = some .local := fun y hy => of_decide_eq_true (List.all_eq_true.mp hnames y hy)
  rw [eval_ListComp]
  refine wpAny_comprehension_free (use := none) rfl hs hclos hkind hnames' (wpAny_mono h (fun xv s₁ z => ?_) fun _ _ x => x.elim)
  obtain ⟨base, g, dr, os, h₀, t₀, n, P, W, rfl, hO, ⟨hn, it⟩, hJ⟩ := z
  refine it _ _ fun I h₂ t₂ fp St f => ?_
  have h1 : h₀.objs.size ≤ h₂.objs.size := by rw [f.sz]; exact Nat.le_succ _
  refine comp_block (h₀ := h₀) (fp := fp) (n := n) (P := P) (St := St) (RR := fun acc C => compPost (model pw w) A NoE none Q acc C) W f.wk hn hcell' hkind hx ⟨fun b o e => f.kp _ _ (hO.keep b o e), Nat.le_trans hO.size h1⟩
    (by rw [f.hI]; exact get?_size _) (by rw [f.hI, f.sz]; exact Nat.lt_succ_self _) (by rw [f.hI]; exact new_base hO) f.kp h1 f.rc f.st f.hs ?_
  intro C D hCD hC hD
  have hC0 : h₀.get? C = none := Heap.get?_none_of_le (Nat.le_trans h1 hC)
  have hD0 : h₀.get? D = none := Heap.get?_none_of_le (Nat.le_trans h1 hD)
  have hbC : base.get? C = none := Heap.get?_none_of_le (Nat.le_trans hO.size (Nat.le_trans h1 hC))
  obtain ⟨J, cj, fin⟩ := hJ C D hCD hC0 hD0 (Nat.le_trans h1 hC) (Nat.le_trans h1 hD)
  refine ⟨J, cj, fun us h t m hu X j hL hns => ⟨m, hns, fun h' hs' => ?_⟩⟩
  have k := kb_same hs'
  refine fin us h h' t hu j k ?_ (hL.kb k (nin1 (Ne.symm hCD))) hbC (fun o e => by
    obtain ⟨o', es, ep, e1, e2, _⟩ := hns
    rw [e] at e1; cases e1; exact not_tuplish_dict e2)
  intro a o e
  obtain ⟨o', e', r⟩ := X a o e
  exact ⟨o', k _ _ (nin1 (by rintro rfl; rw [hC0] at e; cases e)) e', r⟩
theorem comp_asgn {nm : Str} {sc : Scope} {a : Addr} {cd : Value} {s : Shared} {elt iter : Expr} {x y : Str} {px py : Pos} {ifs : List Expr} {scope : Scope} {cl : List (Str × Addr)} {pos spos : Pos} {Q : Flow → Shared → Prop}
    (hsw : swapsWith (.ListComp elt [⟨.Name x px, iter, ifs, 0⟩] scope pos) (some (.Name y py)) spos.line (envOfC nm sc L a cd) = pure true)
    (hclos : closureFor scope (envOfC nm sc L a cd) = pure cl) (hcell : (scope.names.all fun y => decide (y.2 ≠ .cell)) = true) (hkind : scope.kind = .function)
    (hnames : (scope.names.all fun y => decide (y.2 = .local → scope.names.lookup y.1 = some .local)) = true) (hx : scope.names.lookup x = some .local)
    (hk : sc.kind = .function) (hy : (envOfC nm sc L a cd).kindOf y = some .local)
    (hs : ∀ x, foldedSetIterable iter (envOfC nm sc L a cd) x = pure x)
    (h : wpAny (model pw w) A (eval iter (envOfC nm sc L a cd)) (fun xv s₁ => ∃ base g dr os h₀ t₀ n P W mL, s₁ = ⟨h₀, g, dr, t₀, os⟩ ∧ On base h₀ ∧ ItOk w A base g dr os h₀ xv n P W ∧ L < h₀.objs.size ∧
      ∀ C D, C ≠ D → h₀.get? C = none → h₀.get? D = none → h₀.objs.size ≤ C → h₀.objs.size ≤ D → ∃ J, CompJ w A base g dr os (compEnvC scope cl C (envOfC nm sc L a cd)) x ifs elt h₀ C D n P W J ∧
        (∀ us h, J n us h → Fr base L h mL) ∧
        ∀ us h h' t, us.length ≤ n → J n us h → KB [C, L] h h' → Ext base (L :: W) h₀ h' → Ls base h' D us → Fr base L h' (fun z => if z = y then some (.ref D) else mL z) → base.get? C = none → Q .next ⟨h', g, dr, t, os⟩) NoE s) :
    wpAny (model pw w) A (exec (.Assign [.Name y py] (.ListComp elt [⟨.Name x px, iter, ifs, 0⟩] scope pos) spos) (envOfC nm sc L a cd)) Q NoE s := by
  have hcell' : ∀ y ∈ scope.names, y.2 ≠ .cell := fun y hy => of_decide_eq_true (List.all_eq_true.mp hcell y hy)
  have hnames' : ∀ y ∈ scope.names, y.2 = .local → scope.names.lookup y.1 = some .local := fun y hy => of_decide_eq_true (List.all_eq_true.mp hnames y hy)
  rw [exec_Assign_Name_used _ _ _ _ hsw]
  refine wpAny_bind (wpAny_standAt (wpAny_bind ?_))
  show wpAny _ A (do let _ ← comprehension (.ListComp elt [⟨.Name x px, iter, ifs, 0⟩] scope pos) scope (envOfC nm sc L a cd) _ (newList []) false (eval iter (envOfC nm sc L a cd)) (some (assign (.Name y py) (envOfC nm sc L a cd)))) _ _ s
  refine wpAny_bind (wpAny_mono (wpAny_comprehension_free (use := some (assign (.Name y py) (envOfC nm sc L a cd))) (Q := fun _ s' => Q .next s') rfl hs hclos hkind hnames'
    (wpAny_mono h (fun xv s₁ z => ?_) fun _ _ x => x.elim)) (fun _ _ z => wpAny_pure (wpAny_pure z)) fun _ _ x => x)
  obtain ⟨base, g, dr, os, h₀, t₀, n, P, W, mL, rfl, hO, ⟨hn, it⟩, hL0, hJ⟩ := z
  refine it _ _ fun I h₂ t₂ fp St f => ?_
  have h1 : h₀.objs.size ≤ h₂.objs.size := by rw [f.sz]; exact Nat.le_succ _
  refine comp_block (h₀ := h₀) (fp := fp) (n := n) (P := P) (St := St) (RR := fun acc C => compPost (model pw w) A NoE (some (assign (.Name y py) (envOfC nm sc L a cd))) (fun _ s' => Q .next s') acc C) W f.wk hn hcell' hkind hx ⟨fun b o e => f.kp _ _ (hO.keep b o e), Nat.le_trans hO.size h1⟩
    (by rw [f.hI]; exact get?_size _) (by rw [f.hI, f.sz]; exact Nat.lt_succ_self _) (by rw [f.hI]; exact new_base hO) f.kp h1 f.rc f.st f.hs ?_
  intro C D hCD hC hD
  have hC0 : h₀.get? C = none := Heap.get?_none_of_le (Nat.le_trans h1 hC)
  have hD0 : h₀.get? D = none := Heap.get?_none_of_le (Nat.le_trans h1 hD)
  have hbC : base.get? C = none := Heap.get?_none_of_le (Nat.le_trans hO.size (Nat.le_trans h1 hC))
  obtain ⟨J, cj, hF, fin⟩ := hJ C D hCD hC0 hD0 (Nat.le_trans h1 hC) (Nat.le_trans h1 hD)
  have hLC : L ≠ C := Nat.ne_of_lt (Nat.lt_of_lt_of_le hL0 (Nat.le_trans h1 hC))
  have hLD : L ≠ D := Nat.ne_of_lt (Nat.lt_of_lt_of_le hL0 (Nat.le_trans h1 hD))
  refine ⟨J, cj, fun us h t m hu X j hL hns => ?_⟩
  show wpAny _ A (assign (.Name y py) _ (.ref D)) _ _ _
  refine asgnC (hF us h j) hk hy fun h₃ t₃ F₃ Y₃ => ⟨m, hns.at' (fun o e => Y₃.same (nin1 (Ne.symm hLC)) e), fun h' hs' => ?_⟩
  have k := kb_same hs'
  have k3 : KB [C, L] h h' := fun b o hb e => by
    have hb1 : b ≠ C := fun q => hb (q ▸ .head _)
    have hb2 : b ≠ L := fun q => hb (q ▸ .tail _ (.head _))
    exact k b o (nin1 hb1) (Y₃.same (nin1 hb2) e)
  refine fin us h h' t₃ hu j k3 ?_ (hL.kb k3 (fun m => ?_)) ⟨F₃.ns.at' (fun o e => k _ _ (nin1 hLC) e), fun b o e => k _ _ (nin1 (by rintro rfl; rw [hbC] at e; cases e)) (F₃.keep b o e), F₃.above⟩ hbC
  · intro a o e
    obtain ⟨o', e', r⟩ := (X.more (W' := L :: W) (fun _ m => .tail _ m)).trans Y₃ (fun a m => .inl (by rw [List.mem_singleton.mp m]; exact .head _)) a o e
    exact ⟨o', k _ _ (nin1 (by rintro rfl; rw [hC0] at e; cases e)) e', r⟩
  · rcases List.mem_cons.mp m with q | m
    · exact hCD q.symm
    · exact hLD (List.mem_singleton.mp m).symm
end
-- part L18
/-! strs in order -/
theorem risingS_pair : ∀ (l : List Str) (p : Str), risingS p l = true → (p :: l).Pairwise (fun a b => ¬ b.cps.toList < a.cps.toList)
  | [], p, _ => by simp
  | x :: r, p, h => by
    have h : (!Spec.ltCps x.cps.toList p.cps.toList && risingS x r) = true := h
    rw [ltCps_eq, Bool.and_eq_true] at h
    have h1 : ¬ x.cps.toList < p.cps.toList := by simpa using h.1
    have ih := risingS_pair r x h.2
    refine List.pairwise_cons.mpr ⟨fun b hb => ?_, ih⟩
    rcases List.mem_cons.mp hb with rfl | hb
    · exact h1
    · have h2 : ¬ b.cps.toList < x.cps.toList := (List.pairwise_cons.mp ih).1 b hb
      exact List.not_lt.mpr (List.le_trans (List.not_lt.mp h1) (List.not_lt.mp h2))
theorem sortedS_pair : ∀ {l : List Str}, sortedS l = true → l.Pairwise (fun a b => ¬ b.cps.toList < a.cps.toList)
  | [], _ => .nil
  | x :: r, h => risingS_pair r x h
theorem str_tri {a b : Str} (h1 : ¬ a.cps.toList < b.cps.toList) (h2 : ¬ b.cps.toList < a.cps.toList) : a = b := by
  have h := List.le_antisymm (List.not_lt.mp h2) (List.not_lt.mp h1)
  cases a; cases b
  simp only [Str.mk.injEq]
  exact Array.toList_inj.mp h
theorem sort_uniq : ∀ {l l' : List Str}, l.Perm l' → sortedS l = true → sortedS l' = true → l = l' := by
  have key : ∀ (l l' : List Str), l.Perm l' → l.Pairwise (fun a b => ¬ b.cps.toList < a.cps.toList) → l'.Pairwise (fun a b => ¬ b.cps.toList < a.cps.toList) → l = l' := by
    intro l
    induction l with
    | nil => intro l' p _ _; exact (List.Perm.nil_eq p)
    | cons x r ih =>
      intro l' p h h'
      cases l' with
      | nil => exact absurd p.length_eq (by simp)
      | cons y r' =>
        have hx := List.pairwise_cons.mp h
        have hy := List.pairwise_cons.mp h'
        have e : x = y := by
          have m1 : x ∈ y :: r' := p.mem_iff.mp (.head _)
          have m2 : y ∈ x :: r := p.mem_iff.mpr (.head _)
          rcases List.mem_cons.mp m1 with e | m1
          · exact e
          · rcases List.mem_cons.mp m2 with e | m2
            · exact e.symm
            · exact str_tri (hy.1 x m1) (hx.1 y m2)
        subst e
        rw [ih r' (List.Perm.cons_inv p) hx.2 hy.2]
  exact fun {l l'} p h h' => key _ _ p (sortedS_pair h) (sortedS_pair h')
open Classical in
noncomputable def srt (ss : List Str) : List Str := if h : ∃ ss', ss'.Perm ss ∧ sortedS ss' = true then h.choose else []
theorem srt_eq {ss ss' : List Str} (p : ss'.Perm ss) (h : sortedS ss' = true) : ss' = srt ss := by
  have hex : ∃ ss', ss'.Perm ss ∧ sortedS ss' = true := ⟨ss', p, h⟩
  unfold srt
  rw [dif_pos hex]
  obtain ⟨p2, h2⟩ := hex.choose_spec
  exact sort_uniq (p.trans p2.symm) h h2
/-- a list of strs of the call's own -/
noncomputable def Sl (B h : Heap) (l : Addr) (ss : List Str) : Prop := ∃ vs, Ls B h l vs ∧ StrsAre vs ss
section
variable {B h h' : Heap} {W : List Addr} {l : Addr} {ss : List Str}
theorem Sl.ext (x : Sl B h l ss) (X : Ext B W h h') (hl : l ∉ W) : Sl B h' l ss := let ⟨vs, h1, h2⟩ := x; ⟨vs, h1.ext X hl, h2⟩
theorem Sl.soft (x : Sl B h l ss) (X : Soft B h h') : Sl B h' l ss := let ⟨vs, h1, h2⟩ := x; ⟨vs, h1.soft X, h2⟩
theorem Sl.lt (x : Sl B h l ss) : l < h.objs.size := let ⟨_, h1, _⟩ := x; h1.lt
theorem Sl.live (x : Sl B h l ss) : h.get? l ≠ none := let ⟨_, h1, _⟩ := x; h1.live
theorem Sl.off (x : Sl B h l ss) : B.get? l = none := let ⟨_, h1, _⟩ := x; h1.1
end
theorem strsAre_len {vs : List Value} {ss : List Str} (x : StrsAre vs ss) : vs.length = ss.length := StrsAre.length x
theorem strsAre_snoc {y : Str} {t : Tok} : ∀ {vs : List Value} {ss : List Str}, StrsAre vs ss → StrsAre (vs ++ [.str y t]) (ss ++ [y])
  | _, _, .nil => .cons y t .nil
  | _, _, .cons z u r => .cons z u (strsAre_snoc r)
section
variable {w : World} {A : Around} {k : Nat} {base h : Heap} {g : Array GenState} {dr : Drawn} {t : Nat} {os : OsState} {E : Value → Shared → Prop}
theorem sl_sorted {l : Addr} {ss : List Str} {Q : Value → Shared → Prop} (hO : On base h) (hl : Sl base h l ss) (h64 : ss.length < 64)
    (hQ : ∀ h' t' d, Ext base [] h h' → h.get? d = none → Sl base h' d (srt ss) → Q (.ref d) ⟨h', g, dr, t', os⟩) :
    wpAny (model pw w) A (call (.builtin "sorted") [.ref l]) Q E ⟨h, g, dr, t, os⟩ := by
  obtain ⟨vs, hl, hS⟩ := hl
  refine sorted_strs (s := ⟨h, g, dr, t, os⟩) (ls_list hl) hS (by rw [strsAre_len hS]; exact h64) fun out ss' h1 h2 h3 => ?_
  obtain ⟨e, he⟩ := sortedAll_at h vs out
  refine hQ _ _ _ (.of_keeps fun b o e => sortedAll_old e) (Heap.get?_none_of_le (Nat.le_succ _)) ⟨out.toList, ⟨Heap.get?_none_of_le (Nat.le_trans hO.size (Nat.le_succ _)), e, by simpa [seqObj] using he⟩, ?_⟩
  rw [← srt_eq h2 h3]; exact h1
theorem strsAre_at : ∀ (vs : List Value) (ss : List Str), vs.length = ss.length → (∀ (j : Nat) (v : Value), vs[j]? = some v → ∃ x u, v = Value.str x u ∧ ss[j]? = some x) → StrsAre vs ss
  | [], [], _, _ => .nil
  | [], _ :: _, e, _ => by simp at e
  | _ :: _, [], e, _ => by simp at e
  | v :: vs, y :: ss, e, h => by
    obtain ⟨x, u, rfl, hx⟩ := h 0 v rfl
    have hx : y = x := by simpa using hx
    subst hx
    exact .cons y u (strsAre_at vs ss (by simpa using e) fun j v e => by simpa using h (j + 1) v (by simpa using e))
theorem gone_of {h h' : Heap} {a : Addr} (k : ∀ b o, h.get? b = some o → h'.get? b = some o) (e : h'.get? a = none) : h.get? a = none := by
  cases q : h.get? a with
  | none => rfl
  | some o => rw [k _ _ q] at e; cases e
theorem News_nil {h₀ h : Heap} {L : Addr} : News h₀ L h [] := fun _ m => nomatch m
theorem ks_sorted {L : Addr} {m : Str → Option Value} {d : Addr} {ks : List Str} {Q : Value → Shared → Prop} (hh : A.handled = none) (F : Fr base L h m) (hd : Ks w base h d ks) (h64 : ks.length < 64)
    (hQ : ∀ h' t' d, Ext base [] h h' → h.get? d = none → Sl base h' d (srt ks) → Q (.ref d) ⟨h', g, dr, t', os⟩) :
    wpAny (model pw w) A (call (.builtin "sorted") [.ref d]) Q E ⟨h, g, dr, t, os⟩ := by
  obtain ⟨ep, hda⟩ := hd.2.2.dictAt
  have hlen := tt_len ks
  have hO := on_of F
  refine Calls.call_function_entry kind_sorted plain_sorted entry_sorted (args_sorted1 _) ?_
  unfold Builtin.«sorted»
  refine wpAny_bind (m := checkCount "sorted" 1 1 _) (wpAny_pure ?_)
  refine wpAny_bind (kdu_collect (A := A.in1) (s := ⟨h, g, dr, t, os⟩) (kdl_dict (knd := SK w) hd.2.1) hh hda (by rw [hlen, sizeLine_eq]; omega) fun h' tk acc hk hacc => ?_)
  have hS : StrsAre acc.toList ks := by
    refine strsAre_at acc.toList ks (by rw [Array.length_toList]; exact hacc.1.trans hlen) fun j v e => ?_
    obtain ⟨x, y, hx, hv⟩ := hacc.2 j v (by rw [← Array.getElem?_toList]; exact e)
    obtain ⟨u, rfl⟩ := Value.isStrOf_shape hv
    exact ⟨x, u, rfl, (tt_get hx).1⟩
  have hl : acc.toList.length = ks.length := strsAre_len hS
  refine wpAny_bind (wpAny_newList ?_ (by rw [hl, sizeLine_eq]; omega))
  have ho : (h'.push (seqObj "list" acc.toList.toArray 0)).get? h'.objs.size = some (seqObj "list" acc.toList.toArray 0) := Heap.get?_push_size _ rfl
  have hz : h.get? h'.objs.size = none := gone_of hk (get?_size _)
  refine wpAny_bind (wpAny_holding (wpAny_call_entry slot_list_sort ⟨_, ho, rfl⟩ entry_list_sort (list_sort_treeK strKind_oneLt (s := ⟨h'.push (seqObj "list" acc.toList.toArray 0), g, dr, tk, os⟩) ho hS.keysOf (fun v₁ v₂ rest e => keyKind_strs (by rw [← e]; exact hS)) (by rw [hl]; exact h64) fun st' a1 a2 => ⟨_, rfl, ?_⟩) (args_list_sort _)))
  obtain ⟨ss', h1, h2, h3⟩ := sorted_out_str hS a1 a2
  obtain ⟨e, he⟩ := sortedHeap_at (vs := acc.toList) (out := (arrOf st').map (·.2)) ho
  refine wpAny_pure ⟨_, rfl, ?_⟩
  refine hQ _ _ _ (.of_keeps fun b o e => ?_) hz ⟨((arrOf st').map (·.2)).toList, ⟨gone_of hO.keep hz, e, by rw [Array.toArray_toList]; exact he⟩, ?_⟩
  · have e1 := hk _ _ e
    have hlt := Heap.lt_size e1
    have := sortedHeap_old (h := h'.push (seqObj "list" acc.toList.toArray 0)) (a := h'.objs.size) (b := b) (vs := acc.toList) (out := (arrOf st').map (·.2)) (Nat.ne_of_lt hlt) (by rw [Heap.size_push]; exact Nat.lt_succ_of_lt hlt)
    exact this.trans (Heap.get?_push_of_some _ e1)
  · rw [← srt_eq h2 h3]; exact h1
end
/-! reading data -/
noncomputable def Rd (h : Heap) (v : Value) (d : PyData) : Prop := ∃ as, Reads h v d as
theorem All2.cons_inv {α β : Type} {R : α → β → Prop} {x : α} {y : β} {xs : List α} {ys : List β} (q : All2 R (x :: xs) (y :: ys)) : R x y ∧ All2 R xs ys :=
  ⟨q.2 0 x y rfl rfl, by have := q.1; simpa using this, fun i v p e e' => q.2 (i + 1) v p (by simpa using e) (by simpa using e')⟩
theorem rd_all {h : Heap} : ∀ {vs : List Value} {ds : List PyData}, All2 (Rd h) vs ds → ∃ as, ReadsAll h vs ds as
  | [], [], _ => ⟨_, .nil⟩
  | [], _ :: _, q => by have := q.1; simp at this
  | _ :: _, [], q => by have := q.1; simp at this
  | v :: vs, d :: ds, q => by
    obtain ⟨⟨as, h1⟩, h2⟩ := q.cons_inv
    obtain ⟨bs, h3⟩ := rd_all h2
    exact ⟨_, .cons h1 h3⟩
theorem All2.cons {α β : Type} {R : α → β → Prop} {x : α} {y : β} {xs : List α} {ys : List β} (r : R x y) (q : All2 R xs ys) : All2 R (x :: xs) (y :: ys) :=
  ⟨by simp [q.1], fun i v p e e' => by
    cases i with
    | zero => simp at e e'; subst e; subst e'; exact r
    | succ i => exact q.2 i v p (by simpa using e) (by simpa using e')⟩
theorem rd_str {h : Heap} {x : Str} {t : Tok} : Rd h (.str x t) (.str x) := ⟨_, .str x t⟩
theorem rd_bool {h : Heap} {b : Bool} : Rd h (.bool b) (.bool b) := ⟨_, .bool b⟩
theorem rd_ls {B h : Heap} {l : Addr} {vs : List Value} {ds : List PyData} (x : Ls B h l vs) (q : All2 (Rd h) vs ds) : Rd h (.ref l) (.list ds) := by
  obtain ⟨n, e⟩ := x.2
  obtain ⟨as, r⟩ := rd_all q
  exact ⟨_, .list e rfl rfl (by simpa using r)⟩
theorem rd_tp {h : Heap} {l : Addr} {vs : List Value} {ds : List PyData} (x : Tp h l vs) (q : All2 (Rd h) vs ds) : Rd h (.ref l) (.tuple ds) := by
  obtain ⟨n, e⟩ := x
  obtain ⟨as, r⟩ := rd_all q
  exact ⟨_, .tuple e rfl rfl (by simpa using r)⟩
theorem rd_strs {h : Heap} : ∀ {vs : List Value} {ss : List Str}, StrsAre vs ss → All2 (Rd h) vs (ss.map .str)
  | _, _, .nil => All2.nil
  | _, _, .cons y u r => All2.cons rd_str (rd_strs r)
theorem rd_sl {B h : Heap} {l : Addr} {ss : List Str} (x : Sl B h l ss) : Rd h (.ref l) (.list (ss.map .str)) := let ⟨_, h1, h2⟩ := x; rd_ls h1 (rd_strs h2)
noncomputable def okS (ss : List Str) : Prop := ∀ x ∈ ss, PyData.strOk x = true
theorem canAll_strs {ss : List Str} (h : okS ss) : PyData.canLayAll0 (ss.map .str) = true := by
  rw [canLayAll_strs', List.all_eq_true]; exact h
theorem shaped_strs {ss : List Str} (h : okS ss) : SeqAt.shaped (.list (ss.map .str)) = true := by
  unfold SeqAt.shaped
  rw [Bool.and_eq_true]
  refine ⟨by rw [PyData.canLay0]; exact canAll_strs h, ?_⟩
  simp only [PyData.depth, depthAll_strs', decide_eq_true_eq]
  omega
theorem eqvAll_strs : ∀ (ss ss' : List Str), PyData.eqvAll (ss.map .str) (ss'.map .str) = decide (ss = ss')
  | [], [] => rfl
  | [], _ :: _ => by simp [PyData.eqvAll]
  | _ :: _, [] => by simp [PyData.eqvAll]
  | x :: ss, y :: ss' => by
    simp only [List.map_cons, PyData.eqvAll, eqvAll_strs ss ss', PyData.eqv]
    by_cases h1 : x = y <;> by_cases h2 : ss = ss' <;> simp [h1, h2]
theorem any_strs (x : Str) : ∀ (ss : List Str), ((ss.map PyData.str).any fun y => PyData.eqv y (.str x)) = decide (x ∈ ss)
  | [] => by simp
  | y :: ss => by
    rw [List.map_cons, List.any_cons, any_strs x ss, PyData.eqv]
    by_cases h1 : y = x
    · subst h1; simp
    · have h2 : ¬ x = y := fun e => h1 e.symm
      by_cases h3 : x ∈ ss <;> simp [h1, h2, h3]
theorem any_bools : ∀ (bs : List Bool), ((bs.map PyData.bool).any fun y => PyData.eqv y (.bool false)) = !bs.all id
  | [] => rfl
  | b :: bs => by
    rw [List.map_cons, List.any_cons, any_bools bs, PyData.eqv]
    cases b <;> simp
section
variable {w : World} {A : Around} {k : Nat} {base h : Heap} {g : Array GenState} {dr : Drawn} {t : Nat} {os : OsState} {E : Value → Shared → Prop}
theorem rd_eq {a b : Value} {d : PyData} {Q : Value → Shared → Prop} (h1 : Rd h a d) (h2 : Rd h b d) (hd : SeqAt.shaped d = true) (hu : A.units + 64 < cLine) (hQ : Q (.bool true) ⟨h, g, dr, t, os⟩) :
    wpAny (model pw w) A (compareOp .Eq a b) Q E ⟨h, g, dr, t, os⟩ := by
  obtain ⟨as, r1⟩ := h1
  obtain ⟨bs, r2⟩ := h2
  exact eq_dataH (s := ⟨h, g, dr, t, os⟩) r1 r2 hd hd hu (by rw [SeqAt.eqv_refl _ (SeqAt.canLay_of_shaped hd)]; exact hQ)
theorem sl_ne {a b : Addr} {ss ss' : List Str} {Q : Value → Shared → Prop} (h1 : Sl base h a ss) (h2 : Sl base h b ss') (hs : okS ss) (hs' : okS ss') (hu : A.units + 64 < cLine) (hQ : Q (.bool (!decide (ss = ss'))) ⟨h, g, dr, t, os⟩) :
    wpAny (model pw w) A (compareOp .NotEq (.ref a) (.ref b)) Q E ⟨h, g, dr, t, os⟩ := by
  obtain ⟨as, r1⟩ := rd_sl h1
  obtain ⟨bs, r2⟩ := rd_sl h2
  exact ne_dataH (s := ⟨h, g, dr, t, os⟩) r1 r2 (shaped_strs hs) (shaped_strs hs') hu (by rw [PyData.eqv, eqvAll_strs]; exact hQ)
theorem sl_in {l : Addr} {ss : List Str} {x : Str} {u : Tok} {Q : Value → Shared → Prop} (h1 : Sl base h l ss) (hs : okS ss) (hx : PyData.strOk x = true) (hu : A.units + 64 < cLine) (hQ : Q (.bool (decide (x ∈ ss))) ⟨h, g, dr, t, os⟩) :
    wpAny (model pw w) A (compareOp .In (.str x u) (.ref l)) Q E ⟨h, g, dr, t, os⟩ := by
  obtain ⟨as, r1⟩ := rd_sl h1
  refine SeqAt.in_list_reads (s := ⟨h, g, dr, t, os⟩) r1 (Reads.str x u) (canAll_strs hs) (by simpa [PyData.canLay0] using hx) ?_ (by rw [any_strs]; exact hQ)
  simp only [PyData.depth]; omega
theorem sl_notIn {l : Addr} {ss : List Str} {x : Str} {u : Tok} {Q : Value → Shared → Prop} (h1 : Sl base h l ss) (hs : okS ss) (hx : PyData.strOk x = true) (hu : A.units + 64 < cLine) (hQ : Q (.bool (!decide (x ∈ ss))) ⟨h, g, dr, t, os⟩) :
    wpAny (model pw w) A (compareOp .NotIn (.str x u) (.ref l)) Q E ⟨h, g, dr, t, os⟩ := by
  obtain ⟨as, r1⟩ := rd_sl h1
  refine SeqAt.notIn_list_reads (s := ⟨h, g, dr, t, os⟩) r1 (Reads.str x u) (canAll_strs hs) (by simpa [PyData.canLay0] using hx) ?_ (by rw [any_strs]; exact hQ)
  simp only [PyData.depth]; omega
theorem tp_in {l : Addr} {vs : List Value} {ss : List Str} {x : Str} {u : Tok} {Q : Value → Shared → Prop} (h1 : Tp h l vs) (h2 : StrsAre vs ss) (hs : okS ss) (hx : PyData.strOk x = true) (hu : A.units + 64 < cLine) (hQ : Q (.bool (decide (x ∈ ss))) ⟨h, g, dr, t, os⟩) :
    wpAny (model pw w) A (compareOp .In (.str x u) (.ref l)) Q E ⟨h, g, dr, t, os⟩ := by
  obtain ⟨as, r1⟩ := rd_tp h1 (rd_strs h2)
  refine SeqAt.in_tuple_reads (s := ⟨h, g, dr, t, os⟩) r1 (Reads.str x u) (canAll_strs hs) (by simpa [PyData.canLay0] using hx) ?_ (by rw [any_strs]; exact hQ)
  simp only [PyData.depth]; omega
theorem rd_bools {h : Heap} : ∀ (bs : List Bool), All2 (Rd h) (bs.map Value.bool) (bs.map PyData.bool)
  | [] => All2.nil
  | b :: bs => All2.cons rd_bool (rd_bools bs)
theorem ls_noFalse {l : Addr} {bs : List Bool} {Q : Value → Shared → Prop} (h1 : Ls base h l (bs.map .bool)) (hu : A.units + 64 < cLine) (hQ : Q (.bool (bs.all id)) ⟨h, g, dr, t, os⟩) :
    wpAny (model pw w) A (compareOp .NotIn (.bool false) (.ref l)) Q E ⟨h, g, dr, t, os⟩ := by
  obtain ⟨as, r1⟩ := rd_ls h1 (rd_bools bs)
  refine SeqAt.notIn_list_reads (s := ⟨h, g, dr, t, os⟩) r1 (Reads.bool false) ?_ rfl ?_ (by rw [any_bools, Bool.not_not]; exact hQ)
  · clear r1 h1 hQ
    induction bs with
    | nil => rfl
    | cons b bs ih => rw [List.map_cons, PyData.canLayAll0, ih]; rfl
  · simp only [PyData.depth]; omega
end
-- part L21
/-- the law's pot: the script's head and how much of it is drawn -/
noncomputable def Pt (B h : Heap) (p sl : Addr) : Prop := ∃ (n : Nat) (u : Tok) (vs : List Value) (ns : List Int), B.get? p = none ∧ h.IsList p #[.ref sl, .int (n : Nat) u] ∧ Ls B h sl vs ∧ IntsAre vs ns ∧ vs.length ≤ 100 ∧ sl ≠ p
section
variable {w : World} {A : Around} {k : Nat} {base h h' : Heap} {g : Array GenState} {dr : Drawn} {t : Nat} {os : OsState} {E : Value → Shared → Prop} {p sl : Addr} {W : List Addr}
theorem isl_ext {xs : Array Value} (x : h.IsList p xs) (X : Ext base W h h') (hp : p ∉ W) : h'.IsList p xs := let ⟨o, e, a, n, b⟩ := x; ⟨o, X.same hp e, a, n, b⟩
theorem isl_soft {xs : Array Value} (x : h.IsList p xs) (X : Soft base h h') : h'.IsList p xs := let ⟨o, e, a, n, b⟩ := x; ⟨o, X p o e (.inl fun vs q => by rw [b] at q; cases q), a, n, b⟩
theorem isl_kb {xs : Array Value} {ls : List Addr} (x : h.IsList p xs) (X : KB ls h h') (hp : p ∉ ls) : h'.IsList p xs := let ⟨o, e, a, n, b⟩ := x; ⟨o, X _ _ hp e, a, n, b⟩
theorem Pt.ext (x : Pt base h p sl) (X : Ext base W h h') (hp : p ∉ W) (hs : sl ∉ W) : Pt base h' p sl := let ⟨n, u, vs, ns, a, b, c, d⟩ := x; ⟨n, u, vs, ns, a, isl_ext b X hp, c.ext X hs, d⟩
theorem Pt.soft (x : Pt base h p sl) (X : Soft base h h') : Pt base h' p sl := let ⟨n, u, vs, ns, a, b, c, d⟩ := x; ⟨n, u, vs, ns, a, isl_soft b X, c.soft X, d⟩
theorem Pt.kb {ls : List Addr} (x : Pt base h p sl) (X : KB ls h h') (hp : p ∉ ls) (hs : sl ∉ ls) : Pt base h' p sl := let ⟨n, u, vs, ns, a, b, c, d⟩ := x; ⟨n, u, vs, ns, a, isl_kb b X hp, c.kb X hs, d⟩
theorem Pt.lt (x : Pt base h p sl) : p < h.objs.size := let ⟨_, _, _, _, _, ⟨_, e, _⟩, _⟩ := x; Heap.lt_size e
theorem Pt.slt (x : Pt base h p sl) : sl < h.objs.size := let ⟨_, _, _, _, _, _, b, _⟩ := x; b.lt
theorem Pt.live (x : Pt base h p sl) : h.get? p ≠ none := by obtain ⟨_, _, _, _, _, ⟨_, e, _⟩, _⟩ := x; rw [e]; simp
theorem Pt.slive (x : Pt base h p sl) : h.get? sl ≠ none := let ⟨_, _, _, _, _, _, b, _⟩ := x; b.live
theorem isl_at {value slice : Expr} {xs : Array Value} {i : Nat} {u : Tok} {v : Value} {Q : Value → Shared → Prop} (hl : h.IsList p xs) (hv : xs[i]? = some v) (hi : i < 1000000)
    (hQ : Q v ⟨h, g, dr, t, os⟩) (hs : subscripted slice false (.ref p) (.int (i : Nat) u) = operate [.ref p, .int (i : Nat) u] (getItem (.ref p) (.int (i : Nat) u))) :
    wpAny (model pw w) A (subscriptTail value slice (.ref p) (.int (i : Nat) u)) Q E ⟨h, g, dr, t, os⟩ :=
  tail_any (Heap.IsList.typeIs (s := ⟨h, g, dr, t, os⟩) hl) slot_list_getitem.lookup (wpAny_getItem_list (s := ⟨h, g, dr, t, os⟩) hl (by omega) (by omega) (by simpa using hv) hQ) hs
theorem pt_get {n : Nat} {u u1 : Tok} {Q : Value → Shared → Prop} (hl : h.IsList p #[.ref sl, .int (n : Nat) u]) (hQ : Q (.int (n : Nat) u) ⟨h, g, dr, t, os⟩) : wpAny (model pw w) A (getItem (.ref p) (.int 1 u1)) Q E ⟨h, g, dr, t, os⟩ :=
  wpAny_getItem_list (s := ⟨h, g, dr, t, os⟩) hl (by omega) (by omega) (by rfl) hQ
theorem pt_0 {value : Expr} {kk : Nat} {pos : Pos} {n : Nat} {u u1 : Tok} {Q : Value → Shared → Prop} (hl : h.IsList p #[.ref sl, .int (n : Nat) u]) (hQ : Q (.ref sl) ⟨h, g, dr, t, os⟩) :
    wpAny (model pw w) A (subscriptTail value (.Constant (.int 0) kk pos) (.ref p) (.int 0 u1)) Q E ⟨h, g, dr, t, os⟩ := isl_at (i := 0) hl rfl (by omega) hQ (by with_unfolding_all rfl)
theorem pt_1 {value : Expr} {kk : Nat} {pos : Pos} {n : Nat} {u u1 : Tok} {Q : Value → Shared → Prop} (hl : h.IsList p #[.ref sl, .int (n : Nat) u]) (hQ : Q (.int (n : Nat) u) ⟨h, g, dr, t, os⟩) :
    wpAny (model pw w) A (subscriptTail value (.Constant (.int 1) kk pos) (.ref p) (.int 1 u1)) Q E ⟨h, g, dr, t, os⟩ := isl_at (i := 1) hl rfl (by omega) hQ (by with_unfolding_all rfl)
theorem pt_set {n m : Nat} {u u1 u2 : Tok} {Q : Unit → Shared → Prop} (hb : base.get? p = none) (hl : h.IsList p #[.ref sl, .int (n : Nat) u])
    (hQ : ∀ h' t', h'.IsList p #[.ref sl, .int (m : Nat) u2] → Ext base [p] h h' → Q () ⟨h', g, dr, t', os⟩) : wpAny (model pw w) A (setItem (.ref p) (.int 1 u1) (.int (m : Nat) u2)) Q E ⟨h, g, dr, t, os⟩ := by
  refine wpAny_setItem_list (s := ⟨h, g, dr, t, os⟩) hl (by omega) (by omega) (by show (1 : Int) < ((2 : Nat) : Int); omega) fun h' hl' hs => hQ h' _ hl' ?_
  obtain ⟨o, e, hc, _⟩ := hl
  obtain ⟨o', e', _⟩ := hl'
  exact Ext.one hs e e' hb (not_tuplish_list hc)
theorem int_add1 {a b : Int} {u v : Tok} {Q : Value → Shared → Prop} (hQ : ∀ t', Q (.int (a + b) t) ⟨h, g, dr, t', os⟩) : wpAny (model pw w) A (inplaceOp .Add (.int a u) (.int b v)) Q E ⟨h, g, dr, t, os⟩ := PySem.P.iadd_int (hQ _)
theorem int_add {a b : Int} {u v : Tok} {Q : Value → Shared → Prop} (hQ : ∀ t', Q (.int (a + b) t) ⟨h, g, dr, t', os⟩) : wpAny (model pw w) A (binaryOp .Add (.int a u) (.int b v)) Q E ⟨h, g, dr, t, os⟩ := PySem.P.add_int (hQ _)
theorem int_sub {a b : Int} {u v : Tok} {Q : Value → Shared → Prop} (hQ : ∀ t', Q (.int (a - b) t) ⟨h, g, dr, t', os⟩) : wpAny (model pw w) A (binaryOp .Sub (.int a u) (.int b v)) Q E ⟨h, g, dr, t, os⟩ := PySem.P.sub_int (hQ _)
theorem int_mod {a b : Int} {u v : Tok} {Q : Value → Shared → Prop} (hb : 0 < b) (hQ : ∀ t', Q (.int (a.fmod b) t) ⟨h, g, dr, t', os⟩) : wpAny (model pw w) A (binaryOp .Mod (.int a u) (.int b v)) Q E ⟨h, g, dr, t, os⟩ :=
  AutoIntOps.mod_1 (s := ⟨h, g, dr, t, os⟩) (by simp; omega) (hQ _)
theorem int_le {a b : Int} {u v : Tok} {Q : Value → Shared → Prop} {s : Shared} (hQ : Q (.bool (decide (a ≤ b))) s) : wpAny (model pw w) A (compareOp .LtE (.int a u) (.int b v)) Q E s := PySem.P.le_int hQ
theorem int_eq {a b : Int} {u v : Tok} {Q : Value → Shared → Prop} {s : Shared} (hQ : Q (.bool (a == b)) s) : wpAny (model pw w) A (compareOp .Eq (.int a u) (.int b v)) Q E s := PySem.P.eq_int hQ
theorem int_abs {a : Int} {u : Tok} {Q : Value → Shared → Prop} (hQ : ∀ u t', Q (.int (if a < 0 then -a else a) u) ⟨h, g, dr, t', os⟩) : wpAny (model pw w) A (call (.builtin "abs") [.int a u]) Q E ⟨h, g, dr, t, os⟩ := call_abs_int fun u tk => hQ u tk
theorem fmod_nat {a : Int} {b : Nat} (hb : 0 < b) : ∃ r : Nat, a.fmod (b : Int) = (r : Int) ∧ r < b := by
  have h1 := Int.fmod_nonneg_of_pos a (b := (b : Int)) (by omega)
  have h2 := Int.fmod_lt_of_pos a (b := (b : Int)) (by omega)
  exact ⟨(a.fmod b).toNat, by omega, by omega⟩
end
section
variable {w : World} {A : Around} {E : Value → Shared → Prop}
theorem not_bool {b : Bool} {Q : Value → Shared → Prop} {s : Shared} (hQ : Q (.bool (!b)) s) : wpAny (model pw w) A (unaryOp .Not (.bool b)) Q E s := by
  unfold unaryOp
  refine wpAny_holding ?_
  show wpAny _ _ (truthy (.bool b) >>= fun x => pure (Value.bool (!x))) _ _ _
  exact wpAny_bind (wpAny_truthy_bool (wpAny_pure hQ))
end
theorem ldn {base : Heap} {M : Model} {A : Around} {E : Value → Shared → Prop} {s : Shared} {nm : Str} {sc : Scope} {L a : Addr} {cd : Value} {m : Str → Option Value} {x : Str} {v : Value} {Q : Value → Shared → Prop} (F : Fr base L s.heap m) (hv : m x = some v) (hk : sc.kind = .function) (hl : (envOf nm sc L a cd).kindOf x = some .local)
    (h : Q v s) : wpAny M A (loadName (envOf nm sc L a cd) x) Q E s := wpAny_loadName_local hk hl F.ns hv h
local macro_rules | `(tactic| walk_at "gname") => `(tactic| with_reducible first
  | exact g_token_of _ | exact g_is_token _ | exact g_merge _ | exact g_may _ | exact g_empty_rules _ | exact g_first_of _ | exact g_first_rows _ | exact g_follow_rows _
  | exact g_add_follows _ | exact g_parts _ | exact g_shared _ | exact g_conflicts _ | exact g_find_conflicts _ | exact g_add_alternatives _ | exact g_ilr _
  | exact g_fetch _ | exact g_piece _ | exact g_rules _ | exact g_hollow _ | exact g_hollows _ | exact g_lefts _ | exact Bs.gcls _ | exact Bs.gend _)
local macro_rules | `(tactic| walk_at "bname") => `(tactic| with_reducible first
  | exact b_len | exact b_sorted | exact b_dict | exact b_list | exact b_tuple | exact b_str | exact b_abs | exact b_range | exact b_reversed)
local macro_rules | `(tactic| walk_at "m_name") => `(tactic| first
  | refine ldl (by assumption) (by k_dflt rfl) (by k_dflt rfl) (by k_dflt rfl) (by k_dflt decide) ?_
  | refine ldg (by assumption) (by assumption) (by walk_at "gname") (by k_dflt rfl) (by k_dflt rfl) (by k_dflt decide) ?_
  | refine ldb (by assumption) (by walk_at "bname") (by assumption) (by k_dflt rfl) (by k_dflt rfl) (by k_dflt decide) ?_
  | refine ldlC (by assumption) (by k_dflt rfl) (by k_dflt rfl) (by k_dflt rfl) (by k_dflt decide) ?_
  | refine ldgC (by assumption) (by assumption) (by walk_at "gname") (by k_dflt rfl) (by k_dflt rfl) (by k_dflt decide) ?_
  | refine ldbC (by assumption) (by walk_at "bname") (by assumption) (by k_dflt rfl) (by k_dflt rfl) (by k_dflt decide) ?_
  | refine ldcC (by k_dflt rfl) (by k_dflt rfl) (by k_dflt rfl) (by assumption) (by k_dflt decide) ?_
  | refine ldlK (by assumption) (by k_dflt rfl) (by k_dflt rfl) (by k_dflt rfl) (by k_dflt decide) ?_
  | refine ldgK (by assumption) (by assumption) (by walk_at "gname") (by k_dflt rfl) (by k_dflt rfl) (by k_dflt decide) ?_
  | refine ldcK (by k_dflt rfl) (by k_dflt rfl) (by k_dflt rfl) (by assumption) (by k_dflt decide) ?_)
local macro_rules | `(tactic| walk_at "m_eval") => `(tactic| first
  | (show wpAny _ _ (eval (Expr.Name _ _) _) _ _ _; walk_at "m_name")
  | (show wpAny _ _ (eval (Expr.Constant _ _ _) _) _ _ _; first | (refine const_str ?_; intro _ _) | (refine const_int ?_; intro _) | refine const_bool ?_)
  | refine Subscript_ ?_
  | refine Call_ (he := by k_dflt rfl) ?_
  | refine PyProof.Rows.MethodCall_ (he := by k_dflt rfl) ?_
  | refine PyProof.Rows.Attribute_name ?_
  | refine wpAny_Compare1 ?_
  | refine list_ ?_
  | refine tup_ ?_
  | refine wpAny_BinOp ?_
  | refine PyProof.Rows.IfExp_ ?_
  | refine PyProof.Rows.UnaryOp_ ?_
  | refine BoolOp_one ?_
  | refine BoolOp_or ?_
  | refine BoolOp_and ?_)
local macro_rules | `(tactic| walk_at "m_exec") => `(tactic| first
  | refine wpAny_Assign_Name (hs := by k_dflt rfl) ?_
  | refine wpAny_If ?_
  | refine wpAny_Return_some ?_
  | refine wpAny_Expr (hi := by k_dflt rfl) (hs := by k_dflt rfl) ?_
  | refine wpAny_Assign_Subscript (hs := by k_dflt rfl) ?_
  | refine wpAny_Break ?_
  | refine wpAny_Continue ?_
  | refine wpAny_Return_none ?_
  | refine plainObj_wpAny_Assign_Attribute (hs := by k_dflt rfl) ?_
  | refine wpAny_AugAssign_Subscript_any (ha := by intro _ _ _; k_dflt rfl) ?_
  | refine wpAny_AugAssign_Name ?_)
local macro_rules | `(tactic| walk_at "m_true") => `(tactic| first
  | refine wpAny_isTrue_Compare1 ?_
  | refine isTrue_not ?_
  | refine isTrue_and_nil ?_
  | refine isTrue_or_nil ?_
  | refine isTrue_and ?_
  | refine isTrue_or ?_
  | refine isTrue_plain (he := by k_dflt rfl) ?_)
local macro_rules | `(tactic| walk_at "m_cmp") => `(tactic| first
  | refine eq_tt ?_
  | refine eq_ff (by k_dflt decide) ?_
  | (refine dict_in (by assumption) ?_; intro _)
  | (refine dict_notIn (by assumption) ?_; intro _)
  | refine int_gt ?_
  | refine int_le ?_
  | refine int_eq ?_)
local macro_rules | `(tactic| walk_at "m_sub") => `(tactic| first
  | refine tup_at0 (by assumption) ?_
  | refine tup_at1 (by assumption) ?_
  | (refine dict_item (by assumption) (by assumption) ?_ (by with_unfolding_all rfl); intro _)
  | refine pt_0 (by assumption) ?_
  | refine pt_1 (by assumption) ?_)
local macro_rules | `(tactic| walk_at "m_callw") => `(tactic| first
  | refine cw_fn _ (by k_dflt decide) ?_ (by k_dflt rfl) (by k_dflt rfl)
  | refine cw_bi ?_ (by k_dflt rfl) (by k_dflt rfl)
  | refine PyProof.Rows.callWith_method1 ?_ (by k_dflt rfl) (by k_dflt rfl)
  | refine PyProof.Rows.callWith_method0 ?_
  | refine cw_m _ (by k_dflt decide) ?_ (by k_dflt rfl) (by k_dflt rfl)
  | refine cw_ty ?_ (by k_dflt rfl) (by k_dflt rfl)
  | refine cw_cls _ ?_ (by k_dflt rfl) (by k_dflt rfl))
local macro_rules | `(tactic| walk_at "m_rest") => `(tactic| first
  | refine sto (by assumption) (by k_dflt rfl) (by k_dflt rfl) ?_
  | refine asgn (by assumption) (by k_dflt rfl) (by k_dflt rfl) ?_
  | refine stoC (by assumption) (by k_dflt rfl) (by k_dflt rfl) ?_
  | refine asgnC (by assumption) (by k_dflt rfl) (by k_dflt rfl) ?_
  | refine asgn2 (by assumption) (by assumption) (by assumption) (by k_dflt rfl) (by k_dflt rfl) (by k_dflt rfl) ?_
  | refine asgn2C (by assumption) (by assumption) (by assumption) (by k_dflt rfl) (by k_dflt rfl) (by k_dflt rfl) ?_
  | refine wpAny_truthy_bool ?_
  | (refine get_fld (by assumption) (by assumption) (by k_dflt decide) (by assumption) (by k_dflt rfl) ?_; intro _)
  | refine gm_append (by assumption) ?_
  | refine gm_pop (by assumption) ?_
  | refine gm_extend (by assumption) ?_
  | refine gm_reverse (by assumption) ?_
  | refine gm_inst (by assumption) (by assumption) (i := 1) (by k_dflt decide) (by k_dflt rfl) (by assumption) ?_
  | refine gm_inst (by assumption) (by assumption) (i := 2) (by k_dflt decide) (by k_dflt rfl) (by assumption) ?_
  | refine gm_inst (by assumption) (by assumption) (i := 3) (by k_dflt decide) (by k_dflt rfl) (by assumption) ?_
  | refine pt_get (by assumption) ?_
  | (refine int_add1 ?_; intro _)
  | (refine int_add ?_; intro _)
  | (refine int_sub ?_; intro _)
  | (refine int_abs ?_; intro _ _)
  | refine ldn (by assumption) (by k_dflt rfl) (by k_dflt rfl) (by k_dflt rfl) ?_
  | refine not_bool ?_)
local macro_rules | `(tactic| walk_at "mm") => `(tactic| with_reducible first
  | (show wpAny _ _ (eval _ _) _ _ _; walk_at "m_eval")
  | (show wpAny _ _ (execs _ _) _ _ _; first | (refine execs_ct ?_; intro _ _) | refine wpAny_execs_nil ?_)
  | (show wpAny _ _ (exec _ _) _ _ _; walk_at "m_exec")
  | (show wpAny _ _ (spliced _) _ _ _; first | refine args_cons (he := by k_dflt rfl) ?_ | refine args_nil ?_)
  | (show wpAny _ _ (compareOp _ _ _) _ _ _; walk_at "m_cmp")
  | (show wpAny _ _ (isTrue _ _ _) _ _ _; walk_at "m_true")
  | (show wpAny _ _ (subscriptTail _ _ _ _) _ _ _; walk_at "m_sub")
  | (show wpAny _ _ (callWith _ _ _ _ _) _ _ _; walk_at "m_callw")
  | (show wpAny _ _ _ _ _ _; walk_at "m_rest")
  | refine ite_t ?_
  | refine ite_f ?_
  | refine ite_nt ?_
  | refine ite_nf ?_
  | refine on_and (by assumption) ?_
  | refine ct_next (by assumption) ?_
  | refine ct_ret (by assumption) ?_
  | refine fin_ret (by assumption) ?_
  | refine ct_brk (by assumption) ?_
  | refine lt_brk (by assumption) ?_
  | refine wt_brk (by assumption) ?_
  | refine lt_ret (by assumption) ?_
  | refine wt_ret (by assumption) ?_
  | refine fin_next (by assumption) ?_
  | dsimp only)
-- part M1
section
variable {w : World} {A : Around} {k : Nat} {base h : Heap} {g : Array GenState} {dr : Drawn} {t : Nat} {os : OsState}
theorem may_pc (C : Bs w base) {p : Pc} {v vt : Value} {de : Addr} {es : List (Str × Value)} {Q : Value → Shared → Prop} (hA : Ok A 1) (hO : On base h) (hp : IsPc h v p) (hE : Dc w base h de es)
    (hQ : ∀ h' t', Ext base [] h h' → Q (.bool (nulPc (keysIn es) p)) ⟨h', g, dr, t', os⟩) :
    wpAny (model pw w) A (call (.ref (C.f 6)) [v, vt, .ref de]) Q NoE ⟨h, g, dr, t, os⟩ := by
  refine call_fn hA (C.fn 6 (by decide)).1 C.nolim hO (binds := [(Str.ofString "e", v), (Str.ofString "table", vt), (Str.ofString "empty", .ref de)]) (fun _ _ _ => rfl) rfl rfl ⟨rfl, rfl, rfl⟩ ?_
  intro R0 cd h₁ t₁ A₁ hFin hA₁ F X
  have hD : dn 6 = dn 6 := rfl
  conv at hD => rhs; whnf
  rw [hD]
  dsimp only
  clear hD
  have hE0 := hE
  have hp := hp.ext X
  cases p with
  | text x =>
    obtain ⟨a, t1, t2, rfl, ha⟩ := hp
    repeat' (walk_at "mm")
    intro h₂ t₂ F Y
    have X := X.frm Y
    have ha := ha.ext Y
    repeat' (walk_at "mm")
    exact hQ _ _ X
  | name x =>
    obtain ⟨a, t1, t2, rfl, ha⟩ := hp
    repeat' (walk_at "mm")
    intro h₂ t₂ F Y
    have X := X.frm Y
    have ha := ha.ext Y
    have hE := hE0.ext X nin0
    repeat' (walk_at "mm")
    exact hQ _ _ X
  | opt x =>
    obtain ⟨a, t1, v', rfl, ha, _⟩ := hp
    repeat' (walk_at "mm")
    intro h₂ t₂ F Y
    have X := X.frm Y
    have ha := ha.ext Y
    repeat' (walk_at "mm")
    exact hQ _ _ X
  | rep x =>
    obtain ⟨a, t1, v', rfl, ha, _⟩ := hp
    repeat' (walk_at "mm")
    intro h₂ t₂ F Y
    have X := X.frm Y
    have ha := ha.ext Y
    repeat' (walk_at "mm")
    exact hQ _ _ X
theorem may_seq (C : Bs w base) {ps : List Pc} {v vt : Value} {de : Addr} {es : List (Str × Value)} {Q : Value → Shared → Prop} (hA : Ok A 2) (hO : On base h) (hp : IsSeq h v ps) (hE : Dc w base h de es)
    (hQ : ∀ h' t', Ext base [] h h' → Q (.bool (ps.all (nulPc (keysIn es)))) ⟨h', g, dr, t', os⟩) :
    wpAny (model pw w) A (call (.ref (C.f 6)) [v, vt, .ref de]) Q NoE ⟨h, g, dr, t, os⟩ := by
  refine call_fn hA (C.fn 6 (by decide)).1 C.nolim hO (binds := [(Str.ofString "e", v), (Str.ofString "table", vt), (Str.ofString "empty", .ref de)]) (fun _ _ _ => rfl) rfl rfl ⟨rfl, rfl, rfl⟩ ?_
  intro R0 cd h₁ t₁ A₁ hFin hA₁ F X
  have hD : dn 6 = dn 6 := rfl
  conv at hD => rhs; whnf
  rw [hD]
  dsimp only
  clear hD
  have hE0 := hE
  obtain ⟨a, t1, b, vs, rfl, ha0, hb0, hvs⟩ := hp
  have ha := ha0.ext X
  repeat' (walk_at "mm")
  intro h₂ t₂ F Y
  have X := X.frm Y
  have ha := ha.ext Y
  repeat' (walk_at "mm")
  have ⟨m0, hm, F⟩ := fr_name F
  refine for_tup (base := base) hA₁.hh ?_ (by intro _; rfl) (by intro _ _; rfl)
  have F' := F
  rw [hm] at F'
  repeat' (walk_at "mm")
  refine ⟨b, vs, _, _, rfl, rfl, hb0.ext X, on_of F, [h.objs.size], fun i h' => FrU base h.objs.size h' m0 (Str.ofString "item") ∧ ∀ j, j < i → ∀ p, ps[j]? = some p → nulPc (keysIn es) p = true, lt1 F, ⟨.init F, fun _ h => nomatch h⟩, ?_, ?_, ?_⟩
  · rintro i h h' ⟨F, J⟩ S; exact ⟨F.soft S, J⟩
  · rintro i v h₃ t₃ R9 hi hv X₃ ⟨⟨u, F⟩, J⟩ hLT9
    subst hm
    have X := X.frm X₃
    repeat' (walk_at "mm")
    intro h₄ t₄ F Y₄
    have X := X.frm Y₄
    have F := fr_again F
    repeat' (walk_at "mm")
    obtain ⟨p, hp, hip⟩ := hvs.get hv
    refine may_pc C hA₁ (on_of F) (hip.ext X) (hE0.ext X nin0) ?_
    intro h₅ t₅ Y₅
    have F := fr_ext F Y₅ nin0
    have X := X.nil Y₅
    repeat' (walk_at "mm")
    refine ite_s ?_ ?_ <;> intro hb
    · repeat' (walk_at "mm")
      have e : ps.all (nulPc (keysIn es)) = false := by
        rw [List.all_eq_false]; exact ⟨p, List.mem_of_getElem? hp, by simpa using hb⟩
      rw [e] at hQ
      exact hQ _ _ X
    · repeat' (walk_at "mm")
      refine for_next hLT9 (Y₄.nil Y₅) ⟨.of F, lt_succ_cases J fun p' hp' => ?_⟩
      rw [hp] at hp'; cases hp'
      simpa using hb
  · rintro h₃ t₃ X₃ ⟨⟨u, F⟩, J⟩
    subst hm
    repeat' (walk_at "mm")
    have e : ps.all (nulPc (keysIn es)) = true := by
      rw [List.all_eq_true]; intro p hp
      obtain ⟨j, hj⟩ := List.getElem?_of_mem hp
      exact J j (by rw [hvs.1]; exact (List.getElem?_eq_some_iff.mp hj).1) p hj
    rw [e] at hQ
    exact hQ _ _ (X.frm X₃)
theorem may_alt (C : Bs w base) {ps : List (List Pc)} {v vt : Value} {de : Addr} {es : List (Str × Value)} {Q : Value → Shared → Prop} (hA : Ok A 3) (hO : On base h) (hp : IsAlt h v ps) (hE : Dc w base h de es)
    (hQ : ∀ h' t', Ext base [] h h' → Q (.bool (ps.any fun p => p.all (nulPc (keysIn es)))) ⟨h', g, dr, t', os⟩) :
    wpAny (model pw w) A (call (.ref (C.f 6)) [v, vt, .ref de]) Q NoE ⟨h, g, dr, t, os⟩ := by
  refine call_fn hA (C.fn 6 (by decide)).1 C.nolim hO (binds := [(Str.ofString "e", v), (Str.ofString "table", vt), (Str.ofString "empty", .ref de)]) (fun _ _ _ => rfl) rfl rfl ⟨rfl, rfl, rfl⟩ ?_
  intro R0 cd h₁ t₁ A₁ hFin hA₁ F X
  have hD : dn 6 = dn 6 := rfl
  conv at hD => rhs; whnf
  rw [hD]
  dsimp only
  clear hD
  have hE0 := hE
  obtain ⟨a, t1, b, vs, rfl, ha0, hb0, hvs⟩ := hp
  have ha := ha0.ext X
  repeat' (walk_at "mm")
  intro h₂ t₂ F Y
  have X := X.frm Y
  have ha := ha.ext Y
  repeat' (walk_at "mm")
  have ⟨m0, hm, F⟩ := fr_name F
  refine for_tup (base := base) hA₁.hh ?_ (by intro _; rfl) (by intro _ _; rfl)
  have F' := F
  rw [hm] at F'
  repeat' (walk_at "mm")
  refine ⟨b, vs, _, _, rfl, rfl, hb0.ext X, on_of F, [h.objs.size], fun i h' => FrU base h.objs.size h' m0 (Str.ofString "item") ∧ ∀ j, j < i → ∀ p, ps[j]? = some p → p.all (nulPc (keysIn es)) = false, lt1 F, ⟨.init F, fun _ h => nomatch h⟩, ?_, ?_, ?_⟩
  · rintro i h h' ⟨F, J⟩ S; exact ⟨F.soft S, J⟩
  · rintro i v h₃ t₃ R9 hi hv X₃ ⟨⟨u, F⟩, J⟩ hLT9
    subst hm
    have X := X.frm X₃
    repeat' (walk_at "mm")
    intro h₄ t₄ F Y₄
    have X := X.frm Y₄
    have F := fr_again F
    repeat' (walk_at "mm")
    obtain ⟨p, hp, hip⟩ := hvs.get hv
    refine may_seq C hA₁ (on_of F) (hip.ext X) (hE0.ext X nin0) ?_
    intro h₅ t₅ Y₅
    have F := fr_ext F Y₅ nin0
    have X := X.nil Y₅
    repeat' (walk_at "mm")
    refine ite_s ?_ ?_ <;> intro hb
    · repeat' (walk_at "mm")
      have e : (ps.any fun p => p.all (nulPc (keysIn es))) = true := by
        rw [List.any_eq_true]; exact ⟨p, List.mem_of_getElem? hp, hb⟩
      rw [e] at hQ
      exact hQ _ _ X
    · repeat' (walk_at "mm")
      refine for_next hLT9 (Y₄.nil Y₅) ⟨.of F, lt_succ_cases J fun p' hp' => ?_⟩
      rw [hp] at hp'; cases hp'
      simpa using hb
  · rintro h₃ t₃ X₃ ⟨⟨u, F⟩, J⟩
    subst hm
    repeat' (walk_at "mm")
    have e : (ps.any fun p => p.all (nulPc (keysIn es))) = false := by
      rw [List.any_eq_false]; intro p hp
      obtain ⟨j, hj⟩ := List.getElem?_of_mem hp
      simp [J j (by rw [hvs.1]; exact (List.getElem?_eq_some_iff.mp hj).1) p hj]
    rw [e] at hQ
    exact hQ _ _ (X.frm X₃)
end
-- part M2
section
variable {w : World} {A : Around} {k : Nat} {base h : Heap} {g : Array GenState} {dr : Drawn} {t : Nat} {os : OsState}
theorem merge_apart (C : Bs w base) {dt ds : Addr} {kt ks : List Str} {Q : Value → Shared → Prop} (hA : Ok A 1) (hO : On base h) (hT : Ks w base h dt kt) (hS : Ks w base h ds ks) (hne : dt ≠ ds) (hz : kt.length + ks.length ≤ 900)
    (hQ : ∀ h' t', Ext base [dt] h h' → Ks w base h' dt (mergeK kt ks) → Q (.bool (decide (kt.length < (mergeK kt ks).length))) ⟨h', g, dr, t', os⟩) :
    wpAny (model pw w) A (call (.ref (C.f 4)) [.ref dt, .ref ds]) Q NoE ⟨h, g, dr, t, os⟩ := by
  refine call_fn hA (C.fn 4 (by decide)).1 C.nolim hO (binds := [(Str.ofString "target", .ref dt), (Str.ofString "source", .ref ds)]) (fun _ _ _ => rfl) rfl rfl ⟨rfl, rfl, rfl⟩ ?_
  intro R0 cd h₁ t₁ A₁ hFin hA₁ F X
  have hD : dn 4 = dn 4 := rfl
  conv at hD => rhs; whnf
  rw [hD]
  dsimp only
  clear hD
  have htL := hT.lt
  have hsL := hS.lt
  have hT1 := hT.ext X nin0
  have hTl : (tt kt).length ≤ 1000 := by rw [tt_len]; omega
  repeat' (walk_at "mm")
  refine dict_len hT1 hTl ?_
  intro u t₂
  repeat' (walk_at "mm")
  intro h₂ t₂ F Y
  have X := X.frm Y
  have hT2 := hT.ext X nin0
  have hS2 := hS.ext X nin0
  repeat' (walk_at "mm")
  have ⟨m0, hm, F⟩ := fr_name F
  refine for_dict (w := w) (base := base) hA₁.hh ?_ (by intro _; rfl) (by intro _ _; rfl)
  have F' := F
  rw [hm] at F'
  repeat' (walk_at "mm")
  refine ⟨ds, tt ks, _, _, rfl, rfl, hS2, on_of F, [dt, h.objs.size], fun i h' => FrU base h.objs.size h' m0 (Str.ofString "token") ∧ Ks w base h' dt (mergeK kt (ks.take i)), ?_, ?_, ⟨.init F, hT2⟩, ?_, ?_, ?_⟩
  · exact nin2 (fun e => hne e.symm) (ne_lt hsL)
  · intro a m
    rcases List.mem_cons.mp m with rfl | m
    · exact hT2.lt
    · exact lt1 F a m
  · rintro i h h' ⟨F, J⟩ S; exact ⟨F.soft S, J.soft S⟩
  · rintro i v h₃ t₃ R9 hi ⟨x, y, u, hx, rfl⟩ X₃ ⟨⟨u, F⟩, J⟩ hLT9
    subst hm
    obtain ⟨hx', rfl⟩ := tt_get hx
    repeat' (walk_at "mm")
    intro h₄ t₄ F Y₄
    have F := fr_again F
    have J := J.ext Y₄ (nin1 (ne_lt htL))
    repeat' (walk_at "mm")
    have hl := (mergeK_len (ks.take i) kt).2
    have hl2 : (ks.take i).length ≤ ks.length := List.length_take_le' i ks
    refine ks_set J (by omega) ?_
    intro h₅ t₅ J Y₅
    have F := fr_ext F Y₅ (nin1 (ne_gt htL))
    repeat' (walk_at "mm")
    refine for_next hLT9 ((Y₄.more (by simp)).step (Y₅.more (by simp))) ⟨.of F, ?_⟩
    have e : ks.take (i + 1) = ks.take i ++ [x] := by rw [List.take_add_one, hx']; rfl
    rw [e, mergeK_snoc]; exact J
  · rintro h₃ t₃ X₃ ⟨⟨u, F⟩, J⟩
    subst hm
    rw [tt_len, List.take_length] at J
    have hl := (mergeK_len ks kt).2
    have hJl : (tt (mergeK kt ks)).length ≤ 1000 := by rw [tt_len]; omega
    repeat' (walk_at "mm")
    refine dict_len J hJl ?_
    intro u t₄
    repeat' (walk_at "mm")
    rw [tt_len, tt_len]
    have e : decide ((kt.length : Int) < ((mergeK kt ks).length : Int)) = decide (kt.length < (mergeK kt ks).length) := by simp
    rw [e]
    exact hQ _ _ ((X.more (fun _ m => nomatch m)).frm2 X₃ (.inl (.head _))) J
theorem merge_self (C : Bs w base) {dt : Addr} {kt : List Str} {Q : Value → Shared → Prop} (hA : Ok A 1) (hO : On base h) (hT : Ks w base h dt kt) (hz : kt.length ≤ 900)
    (hQ : ∀ h' t', Ext base [dt] h h' → Ks w base h' dt kt → Q (.bool false) ⟨h', g, dr, t', os⟩) :
    wpAny (model pw w) A (call (.ref (C.f 4)) [.ref dt, .ref dt]) Q NoE ⟨h, g, dr, t, os⟩ := by
  refine call_fn hA (C.fn 4 (by decide)).1 C.nolim hO (binds := [(Str.ofString "target", .ref dt), (Str.ofString "source", .ref dt)]) (fun _ _ _ => rfl) rfl rfl ⟨rfl, rfl, rfl⟩ ?_
  intro R0 cd h₁ t₁ A₁ hFin hA₁ F X
  have hD : dn 4 = dn 4 := rfl
  conv at hD => rhs; whnf
  rw [hD]
  dsimp only
  clear hD
  have htL := hT.lt
  have hT1 := hT.ext X nin0
  have hTl : (tt kt).length ≤ 1000 := by rw [tt_len]; omega
  repeat' (walk_at "mm")
  refine dict_len hT1 hTl ?_
  intro u t₂
  repeat' (walk_at "mm")
  intro h₂ t₂ F Y
  have X := X.frm Y
  have hT2 := hT.ext X nin0
  repeat' (walk_at "mm")
  have ⟨m0, hm, F⟩ := fr_name F
  refine for_dict_same (w := w) (base := base) hA₁.hh ?_ (by intro _; rfl) (by intro _ _; rfl)
  have F' := F
  rw [hm] at F'
  repeat' (walk_at "mm")
  obtain ⟨ep, hep⟩ := hT2.2.2.dictAt
  refine ⟨dt, tt kt, ep, _, _, rfl, rfl, hT2, hep, on_of F, [dt, h.objs.size], fun i h' => FrU base h.objs.size h' m0 (Str.ofString "token") ∧ Ks w base h' dt kt ∧ h'.DictAt (SK w) dt (tt kt) ep, fun _ _ z => z.2.2, ?_, ⟨.init F, hT2, hep⟩, ?_, ?_, ?_⟩
  · intro a m
    rcases List.mem_cons.mp m with rfl | m
    · exact hT2.lt
    · exact lt1 F a m
  · rintro i h h' ⟨F, J, K⟩ S
    refine ⟨F.soft S, J.soft S, K.at' fun o e => S _ _ e (.inl fun vs q => ?_)⟩
    obtain ⟨o', es, e', _, hd, _⟩ := K
    rw [e] at e'; cases e'; rw [hd] at q; cases q
  · rintro i v h₃ t₃ R9 hi ⟨x, y, u, hx, rfl⟩ X₃ ⟨⟨u, F⟩, J, K⟩ hLT9
    subst hm
    obtain ⟨hx', rfl⟩ := tt_get hx
    repeat' (walk_at "mm")
    intro h₄ t₄ F Y₄
    have F := fr_again F
    have J := J.ext Y₄ (nin1 (ne_lt htL))
    have K := K.at' fun o e => Y₄.same (nin1 (ne_lt htL)) e
    repeat' (walk_at "mm")
    refine dict_set_same J K (by rw [valueAt_tt, if_pos (List.mem_of_getElem? hx')]) ?_
    intro h₅ t₅ J K Y₅
    have F := fr_ext F Y₅ (nin1 (ne_gt htL))
    repeat' (walk_at "mm")
    exact for_next hLT9 ((Y₄.more (by simp)).step (Y₅.more (by simp))) ⟨.of F, J, K⟩
  · rintro h₃ t₃ X₃ ⟨⟨u, F⟩, J, K⟩
    subst hm
    repeat' (walk_at "mm")
    refine dict_len J hTl ?_
    intro u t₄
    repeat' (walk_at "mm")
    have e : decide (((tt kt).length : Int) < ((tt kt).length : Int)) = false := by simp
    rw [e]
    exact hQ _ _ ((X.more (fun _ m => nomatch m)).frm2 X₃ (.inl (.head _))) J
end
-- part M3
section
variable {w : World} {A : Around} {k : Nat} {base h : Heap} {g : Array GenState} {dr : Drawn} {t : Nat} {os : OsState}
theorem empty_spec (C : Bs w base) {dt lo : Addr} {R : Rules} {Q : Value → Shared → Prop} (hA : Ok A 4) (hO : On base h) (hT : Tab w base h dt R) (hL : OrdL base h lo R) (hR : WF R)
    (hQ : ∀ h' de E t', Ext base [] h h' → h.get? de = none → Ks w base h' de E → (∀ x, x ∈ E ↔ Nul R x) → Q (.ref de) ⟨h', g, dr, t', os⟩) :
    wpAny (model pw w) A (call (.ref (C.f 7)) [.ref dt, .ref lo]) Q NoE ⟨h, g, dr, t, os⟩ := by
  refine call_fn hA (C.fn 7 (by decide)).1 C.nolim hO (binds := [(Str.ofString "table", .ref dt), (Str.ofString "order", .ref lo)]) (fun _ _ _ => rfl) rfl rfl ⟨rfl, rfl, rfl⟩ ?_
  intro R0 cd h₁ t₁ A₁ hFin hA₁ F X
  have hD : dn 7 = dn 7 := rfl
  conv at hD => rhs; whnf
  rw [hD]
  dsimp only
  clear hD
  repeat' (walk_at "mm")
  refine dict_new C F ?_
  intro h₂ de hde hLd F hE Y
  have X := X.nil Y
  have hdn : h.get? de = none := Heap.get?_none_of_le (Nat.le_of_lt hLd)
  repeat' (walk_at "mm")
  intro h₃ t₃ F Y
  have X := X.frm Y
  have hE := hE.ext Y (nin1 (ne_gt hLd))
  repeat' (walk_at "mm")
  intro h₄ t₄ F Y
  have X := X.frm Y
  have hE := hE.ext Y (nin1 (ne_gt hLd))
  have ⟨m0, hm, F⟩ := fr_name1 F
  repeat' (walk_at "mm")
  refine while_rule2 (fun n h' => ∃ b E, FrV base h.objs.size h' m0 (Str.ofString "name") (Str.ofString "grown") (.bool b) ∧ Ks w base h' de E ∧ (∀ x ∈ E, Nul R x ∧ x ∈ R.map (·.1)) ∧ Ext base [] h h' ∧
    (b = false → ∀ r ∈ R, nulAlt (inE E) r.2 = true → r.1 ∈ E) ∧ n = (4 - E.length) + (if b = true then 1 else 0)) 5 ?_ ⟨true, [], .init F, hE, (fun x hx => nomatch hx), X, (fun e => nomatch e), rfl⟩
  rintro n h₅ t₅ R9 ⟨b, E, ⟨u, F⟩, hE, hS, X, hc, rfl⟩ hWT9
  subst hm
  cases b with
  | false =>
    repeat' (walk_at "mm")
    refine hQ _ _ _ _ X hdn hE fun x => ⟨fun hx => (hS x hx).1, fun n => Nul.of_closed (hc rfl) n⟩
  | true =>
    repeat' (walk_at "mm")
    intro h₆ t₆ F Y
    have X := X.frm Y
    have hE := hE.ext Y (nin1 (ne_gt hLd))
    have F := FrV.flag F (by decide)
    have ⟨m0, hm, F⟩ : ∃ m0, m0 = _ ∧ FrV base h.objs.size h₆ m0 (Str.ofString "name") (Str.ofString "grown") (.bool false) := ⟨_, rfl, F⟩
    repeat' (walk_at "mm")
    refine for_list (base := base) hA₁.hh ?_ (by intro _; rfl) (.inl (by intro _ _; rfl))
    have ⟨u, F'⟩ := F
    rw [hm] at F'
    repeat' (walk_at "mm")
    obtain ⟨vs, hvs, hlen, hget⟩ := (hL.ext X nin0).get
    have hloL : lo < h.objs.size := by obtain ⟨_, q, _⟩ := hL; exact q.lt
    refine ⟨lo, vs, _, _, rfl, rfl, hvs, on_of F', [de, h.objs.size], fun i h' => ∃ b E', FrV base h.objs.size h' m0 (Str.ofString "name") (Str.ofString "grown") (.bool b) ∧ Ks w base h' de E' ∧ (∀ x ∈ E', Nul R x ∧ x ∈ R.map (·.1)) ∧
      (b = true → E.length < E'.length) ∧ (b = false → E' = E ∧ ∀ j, j < i → ∀ r, R[j]? = some r → nulAlt (inE E) r.2 = true → r.1 ∈ E), ?_, ?_, ⟨false, E, F, hE, hS, (fun e => nomatch e), fun _ => ⟨rfl, fun j hj => nomatch hj⟩⟩, ?_, ?_, ?_⟩
    · exact nin2 (ne_lt (Nat.lt_trans hloL hLd)) (ne_lt hloL)
    · intro a m
      rcases List.mem_cons.mp m with rfl | m
      · exact hE.lt
      · exact lt1 F' a m
    · rintro i h h' ⟨b, E', F, K, rest⟩ S
      exact ⟨b, E', F.soft S, K.soft S, rest⟩
    · rintro i v h₇ t₇ R9 hi hv X₇ ⟨b, E', ⟨u, F⟩, hE, hS, h1, h2⟩ hLT9
      subst hm
      obtain ⟨r, u', hr, rfl⟩ := hget i v hv
      have hrm := List.mem_of_getElem? hr
      have X₈ := X.frm2 X₇ (.inr hdn)
      repeat' (walk_at "mm")
      intro h₈ t₈ F Y₈
      have F := fr_again F
      have hE := hE.ext Y₈ (nin1 (ne_gt hLd))
      have X₈ := X₈.frm Y₈
      have hT₈ := hT.ext X₈ nin0
      obtain ⟨tbl, va, htd, hva, hal⟩ := hT₈.get hrm
      repeat' (walk_at "mm")
      rw [show (valueAt (tt E') r.1).isSome = decide (r.1 ∈ E') from keysIn_tt E' r.1]
      refine ite_s ?_ ?_ <;> intro hb
      · repeat' (walk_at "mm")
        refine may_alt C hA₁ (on_of F) hal hE ?_
        intro h₉ t₉ Y₉
        have F := fr_ext F Y₉ nin0
        have hE := hE.ext Y₉ nin0
        repeat' (walk_at "mm")
        have hk : (r.2.any fun p => p.all (nulPc (keysIn (tt E')))) = nulAlt (inE E') r.2 := by
          have e : keysIn (tt E') = inE E' := funext fun x => keysIn_tt E' x
          rw [e]; rfl
        rw [hk]
        have hb' : r.1 ∉ E' := by simpa using hb
        refine ite_s ?_ ?_ <;> intro hn
        · repeat' (walk_at "mm")
          have hlen' : E'.length ≤ 4 := Nat.le_trans (nodup_len (tt_nodup hE.nodup) fun x hx => (hS x hx).2) (by rw [List.length_map]; exact hR.few)
          refine ks_set hE (by omega) ?_
          intro h₁₀ t₁₀ hE Y₁₀
          have F := fr_ext F Y₁₀ (nin1 (ne_lt hLd))
          rw [addK_new hb'] at hE
          repeat' (walk_at "mm")
          intro h₁₁ t₁₁ F Y₁₁
          have hE := hE.ext Y₁₁ (nin1 (ne_gt hLd))
          repeat' (walk_at "mm")
          refine for_next hLT9 ((((Y₈.more (by simp)).step (Y₉.more (by simp))).step (Y₁₀.more (by simp))).step (Y₁₁.more (by simp))) ⟨true, E' ++ [r.1], FrV.flag F (by decide), hE, ?_, ?_, fun e => nomatch e⟩
          · intro x hx
            rcases List.mem_append.mp hx with hx | hx
            · exact hS x hx
            · rw [List.mem_singleton.mp hx]
              exact ⟨Nul.of_alt (fun x hx => (hS x hx).1) hrm hn, List.mem_map.mpr ⟨r, hrm, rfl⟩⟩
          · intro _
            rw [List.length_append, List.length_singleton]
            cases b with
            | true => have := h1 rfl; omega
            | false => have := (h2 rfl).1; subst this; omega
        · repeat' (walk_at "mm")
          refine for_next hLT9 ((Y₈.more (by simp)).step (Y₉.more (by simp))) ⟨b, E', FrV.of F, hE, hS, h1, fun e => ⟨(h2 e).1, lt_succ_cases (h2 e).2 fun r' hr' hn' => ?_⟩⟩
          rw [hr] at hr'; cases hr'
          rw [(h2 e).1, hn'] at hn; cases hn
      · repeat' (walk_at "mm")
        refine for_next hLT9 (Y₈.more (by simp)) ⟨b, E', FrV.of F, hE, hS, h1, fun e => ⟨(h2 e).1, lt_succ_cases (h2 e).2 fun r' hr' hn' => ?_⟩⟩
        rw [hr] at hr'; cases hr'
        rw [← (h2 e).1]; simpa using hb
    · rintro h₇ t₇ X₇ ⟨b, E', F, hE', hS', h1, h2⟩
      subst hm
      repeat' (walk_at "mm")
      have hlen' : E'.length ≤ 4 := Nat.le_trans (nodup_len (tt_nodup hE'.nodup) fun x hx => (hS' x hx).2) (by rw [List.length_map]; exact hR.few)
      refine whl_next hWT9 (m := (4 - E'.length) + (if b = true then 1 else 0)) ?_ ⟨b, E', F, hE', hS', X.frm2 X₇ (.inr hdn), fun e r hr hn => ?_, rfl⟩
      · cases b with
        | true => have := h1 rfl; simp only [if_true]; omega
        | false => have := (h2 rfl).1; subst this; simp
      · obtain ⟨e1, e2⟩ := h2 e
        subst e1
        obtain ⟨j, hj⟩ := List.getElem?_of_mem hr
        exact e2 j (by rw [hlen]; exact (List.getElem?_eq_some_iff.mp hj).1) r hj hn
end
-- part M4
section
variable {w : World} {A : Around} {k : Nat} {base h : Heap} {g : Array GenState} {dr : Drawn} {t : Nat} {os : OsState}
theorem istok_other (C : Bs w base) {a : Addr} {tag : Str} {t1 : Tok} {v2 vt : Value} {Q : Value → Shared → Prop} (hA : Ok A 1) (hO : On base h) (ha : Tp h a [.str tag t1, v2]) (h1 : ¬ tag = Str.ofString "text") (h2 : ¬ tag = Str.ofString "name")
    (hQ : ∀ h' t', Ext base [] h h' → Q (.bool false) ⟨h', g, dr, t', os⟩) :
    wpAny (model pw w) A (call (.ref (C.f 3)) [.ref a, vt]) Q NoE ⟨h, g, dr, t, os⟩ := by
  refine call_fn hA (C.fn 3 (by decide)).1 C.nolim hO (binds := [(Str.ofString "e", .ref a), (Str.ofString "table", vt)]) (fun _ _ _ => rfl) rfl rfl ⟨rfl, rfl, rfl⟩ ?_
  intro R0 cd h₁ t₁ A₁ hFin hA₁ F X
  have hD : dn 3 = dn 3 := rfl
  conv at hD => rhs; whnf
  rw [hD]
  dsimp only
  clear hD
  have ha := ha.ext X
  repeat' (walk_at "mm")
  refine eq_ff h1 ?_
  repeat' (walk_at "mm")
  refine eq_ff h2 ?_
  repeat' (walk_at "mm")
  exact hQ _ _ X
theorem istok_text (C : Bs w base) {a : Addr} {t1 : Tok} {v2 vt : Value} {Q : Value → Shared → Prop} (hA : Ok A 1) (hO : On base h) (ha : Tp h a [.str (Str.ofString "text") t1, v2])
    (hQ : ∀ h' t', Ext base [] h h' → Q (.bool true) ⟨h', g, dr, t', os⟩) :
    wpAny (model pw w) A (call (.ref (C.f 3)) [.ref a, vt]) Q NoE ⟨h, g, dr, t, os⟩ := by
  refine call_fn hA (C.fn 3 (by decide)).1 C.nolim hO (binds := [(Str.ofString "e", .ref a), (Str.ofString "table", vt)]) (fun _ _ _ => rfl) rfl rfl ⟨rfl, rfl, rfl⟩ ?_
  intro R0 cd h₁ t₁ A₁ hFin hA₁ F X
  have hD : dn 3 = dn 3 := rfl
  conv at hD => rhs; whnf
  rw [hD]
  dsimp only
  clear hD
  have ha := ha.ext X
  repeat' (walk_at "mm")
  exact hQ _ _ X
theorem istok_name (C : Bs w base) {a dt : Addr} {t1 t2 : Tok} {x : Str} {R : Rules} {Q : Value → Shared → Prop} (hA : Ok A 1) (hO : On base h) (ha : Tp h a [.str (Str.ofString "name") t1, .str x t2]) (hT : Tab w base h dt R) (hx : x ∈ R.map (·.1))
    (hQ : ∀ h' t', Ext base [] h h' → Q (.bool false) ⟨h', g, dr, t', os⟩) :
    wpAny (model pw w) A (call (.ref (C.f 3)) [.ref a, .ref dt]) Q NoE ⟨h, g, dr, t, os⟩ := by
  refine call_fn hA (C.fn 3 (by decide)).1 C.nolim hO (binds := [(Str.ofString "e", .ref a), (Str.ofString "table", .ref dt)]) (fun _ _ _ => rfl) rfl rfl ⟨rfl, rfl, rfl⟩ ?_
  intro R0 cd h₁ t₁ A₁ hFin hA₁ F X
  have hD : dn 3 = dn 3 := rfl
  conv at hD => rhs; whnf
  rw [hD]
  dsimp only
  clear hD
  have ha := ha.ext X
  obtain ⟨tbl, hD, hS⟩ := (hT.ext X nin0).isSome
  repeat' (walk_at "mm")
  rw [hS x, decide_eq_true hx]
  exact hQ _ _ X
theorem tok_text (C : Bs w base) {a : Addr} {t1 : Tok} {v2 vt : Value} {Q : Value → Shared → Prop} (hA : Ok A 1) (hO : On base h) (ha : Tp h a [.str (Str.ofString "text") t1, v2])
    (hQ : ∀ h' t', Ext base [] h h' → Q v2 ⟨h', g, dr, t', os⟩) :
    wpAny (model pw w) A (call (.ref (C.f 2)) [.ref a, vt]) Q NoE ⟨h, g, dr, t, os⟩ := by
  refine call_fn hA (C.fn 2 (by decide)).1 C.nolim hO (binds := [(Str.ofString "e", .ref a), (Str.ofString "table", vt)]) (fun _ _ _ => rfl) rfl rfl ⟨rfl, rfl, rfl⟩ ?_
  intro R0 cd h₁ t₁ A₁ hFin hA₁ F X
  have hD : dn 2 = dn 2 := rfl
  conv at hD => rhs; whnf
  rw [hD]
  dsimp only
  clear hD
  have ha := ha.ext X
  repeat' (walk_at "mm")
  exact hQ _ _ X
theorem first_nm (C : Bs w base) {v : Value} {x : Str} {dt de df : Addr} {R : Rules} {E : List Str} {Ds : List Addr} {FS : List (List Str)} {Q : Value → Shared → Prop} (hA : Ok A 2) (hO : On base h) (hp : IsNm h (Str.ofString "name") v x) (hR : WF R) (hx : x ∈ R.map (·.1))
    (hT : Tab w base h dt R) (hE : Ks w base h de E) (hF : Fam w base h df (R.map (·.1)) Ds FS)
    (hQ : ∀ h' t' d, Ext base [] h h' → d ∈ Ds → Ks w base h' d (fsAt (R.map (·.1)) FS x) → Q (.ref d) ⟨h', g, dr, t', os⟩) :
    wpAny (model pw w) A (call (.ref (C.f 8)) [v, .ref dt, .ref de, .ref df]) Q NoE ⟨h, g, dr, t, os⟩ := by
  refine call_fn hA (C.fn 8 (by decide)).1 C.nolim hO (binds := [(Str.ofString "e", v), (Str.ofString "table", .ref dt), (Str.ofString "empty", .ref de), (Str.ofString "firsts", .ref df)]) (fun _ _ _ => rfl) rfl rfl ⟨rfl, rfl, rfl⟩ ?_
  intro R0 cd h₁ t₁ A₁ hFin hA₁ F X
  have hD : dn 8 = dn 8 := rfl
  conv at hD => rhs; whnf
  rw [hD]
  dsimp only
  clear hD
  obtain ⟨a, t1, t2, rfl, ha0⟩ := hp
  have ha := ha0.ext X
  repeat' (walk_at "mm")
  refine istok_name C hA₁ (on_of F) ha (hT.ext X nin0) hx ?_
  intro h₂ t₂ Y
  have X := X.nil Y
  have F := fr_ext F Y nin0
  have ha := ha.ext Y
  repeat' (walk_at "mm")
  intro h₃ t₃ F Y
  have X := X.frm Y
  have ha := ha.ext Y
  have hF₃ := hF.ext X nin0 (fun _ _ => nin0)
  obtain ⟨i, d, hi, hd, hv, hm, hK⟩ := hF₃.get hR.nodup hx
  have hFd := hF₃.dict
  repeat' (walk_at "mm")
  exact hQ _ _ _ X hm hK
theorem first_pc (C : Bs w base) {v : Value} {p : Pc} {dt de df : Addr} {R : Rules} {E : List Str} {Ds : List Addr} {FS : List (List Str)} {Q : Value → Shared → Prop} (hA : Ok A 3) (hO : On base h) (hp : IsPc h v p) (hR : WF R) (hx : PcIn (R.map (·.1)) p)
    (hT : Tab w base h dt R) (hE : Ks w base h de E) (hF : Fam w base h df (R.map (·.1)) Ds FS)
    (hQ : ∀ h' t' d, Ext base [] h h' → (d ∈ Ds ∨ h.get? d = none) → Ks w base h' d (firstPc (fsAt (R.map (·.1)) FS) p) → Q (.ref d) ⟨h', g, dr, t', os⟩) :
    wpAny (model pw w) A (call (.ref (C.f 8)) [v, .ref dt, .ref de, .ref df]) Q NoE ⟨h, g, dr, t, os⟩ := by
  cases p with
  | name x => exact first_nm C (hA.less (by decide)) hO hp hR hx hT hE hF fun h' t' d X hd hK => hQ h' t' d X (.inl hd) hK
  | text x =>
    refine call_fn hA (C.fn 8 (by decide)).1 C.nolim hO (binds := [(Str.ofString "e", v), (Str.ofString "table", .ref dt), (Str.ofString "empty", .ref de), (Str.ofString "firsts", .ref df)]) (fun _ _ _ => rfl) rfl rfl ⟨rfl, rfl, rfl⟩ ?_
    intro R0 cd h₁ t₁ A₁ hFin hA₁ F X
    have hD : dn 8 = dn 8 := rfl
    conv at hD => rhs; whnf
    rw [hD]
    dsimp only
    clear hD
    obtain ⟨a, t1, t2, rfl, ha0⟩ := hp
    have ha := ha0.ext X
    repeat' (walk_at "mm")
    refine istok_text C (hA₁.less (by decide)) (on_of F) ha ?_
    intro h₂ t₂ Y
    have X := X.nil Y
    have F := fr_ext F Y nin0
    have ha := ha.ext Y
    repeat' (walk_at "mm")
    refine dict_one C F rfl ?_
    intro h₃ d hd hLd F hD Y
    have hdn : h.get? d = none := Heap.get?_none_of_le (Nat.le_of_lt hLd)
    have X := X.nil Y
    have ha := ha.ext Y
    repeat' (walk_at "mm")
    refine tok_text C (hA₁.less (by decide)) (on_of F) ha ?_
    intro h₄ t₄ Y
    have X := X.nil Y
    have hD := hD.ext Y nin0
    repeat' (walk_at "mm")
    refine ⟨x, _, _, _, rfl, rfl, hD, fun h₅ t₅ hD Y => ?_⟩
    repeat' (walk_at "mm")
    exact hQ _ _ _ (X.trans Y (fun a m => .inr (by rw [List.mem_singleton.mp m]; exact hdn))) (.inr hdn) hD
  | opt x =>
    refine call_fn hA (C.fn 8 (by decide)).1 C.nolim hO (binds := [(Str.ofString "e", v), (Str.ofString "table", .ref dt), (Str.ofString "empty", .ref de), (Str.ofString "firsts", .ref df)]) (fun _ _ _ => rfl) rfl rfl ⟨rfl, rfl, rfl⟩ ?_
    intro R0 cd h₁ t₁ A₁ hFin hA₁ F X
    have hD : dn 8 = dn 8 := rfl
    conv at hD => rhs; whnf
    rw [hD]
    dsimp only
    clear hD
    obtain ⟨a, t1, v', rfl, ha0, hn⟩ := hp
    have ha := ha0.ext X
    repeat' (walk_at "mm")
    refine istok_other C (hA₁.less (by decide)) (on_of F) ha (by decide) (by decide) ?_
    intro h₂ t₂ Y
    have X := X.nil Y
    have F := fr_ext F Y nin0
    have ha := ha.ext Y
    repeat' (walk_at "mm")
    intro h₃ t₃ F Y
    have X := X.frm Y
    have ha := ha.ext Y
    repeat' (walk_at "mm")
    refine first_nm C hA₁ (on_of F) (hn.ext X) hR hx (hT.ext X nin0) (hE.ext X nin0) (hF.ext X nin0 (fun _ _ => nin0)) ?_
    intro h₄ t₄ d Y hd hK
    repeat' (walk_at "mm")
    exact hQ _ _ _ (X.nil Y) (.inl hd) hK
  | rep x =>
    refine call_fn hA (C.fn 8 (by decide)).1 C.nolim hO (binds := [(Str.ofString "e", v), (Str.ofString "table", .ref dt), (Str.ofString "empty", .ref de), (Str.ofString "firsts", .ref df)]) (fun _ _ _ => rfl) rfl rfl ⟨rfl, rfl, rfl⟩ ?_
    intro R0 cd h₁ t₁ A₁ hFin hA₁ F X
    have hD : dn 8 = dn 8 := rfl
    conv at hD => rhs; whnf
    rw [hD]
    dsimp only
    clear hD
    obtain ⟨a, t1, v', rfl, ha0, hn⟩ := hp
    have ha := ha0.ext X
    repeat' (walk_at "mm")
    refine istok_other C (hA₁.less (by decide)) (on_of F) ha (by decide) (by decide) ?_
    intro h₂ t₂ Y
    have X := X.nil Y
    have F := fr_ext F Y nin0
    have ha := ha.ext Y
    repeat' (walk_at "mm")
    intro h₃ t₃ F Y
    have X := X.frm Y
    have ha := ha.ext Y
    repeat' (walk_at "mm")
    refine first_nm C hA₁ (on_of F) (hn.ext X) hR hx (hT.ext X nin0) (hE.ext X nin0) (hF.ext X nin0 (fun _ _ => nin0)) ?_
    intro h₄ t₄ d Y hd hK
    repeat' (walk_at "mm")
    exact hQ _ _ _ (X.nil Y) (.inl hd) hK
end
-- part M5
section
variable {w : World} {A : Around} {k : Nat} {base h : Heap} {g : Array GenState} {dr : Drawn} {t : Nat} {os : OsState}
theorem first_seq (C : Bs w base) {v : Value} {ps : List Pc} {dt de df : Addr} {R : Rules} {E : List Str} {Ds : List Addr} {FS : List (List Str)} {Q : Value → Shared → Prop} (hA : Ok A 4) (hO : On base h) (hp : IsSeq h v ps) (hR : WF R) (hl : ps.length ≤ 3) (hx : ∀ p ∈ ps, PcIn (R.map (·.1)) p)
    (hT : Tab w base h dt R) (hE : Ks w base h de E) (hF : Fam w base h df (R.map (·.1)) Ds FS) (hB : ∀ ks ∈ FS, ks.length ≤ 8)
    (hQ : ∀ h' t' d, Ext base [] h h' → h.get? d = none → Ks w base h' d (firstSeq (inE E) (fsAt (R.map (·.1)) FS) [] ps) → Q (.ref d) ⟨h', g, dr, t', os⟩) :
    wpAny (model pw w) A (call (.ref (C.f 8)) [v, .ref dt, .ref de, .ref df]) Q NoE ⟨h, g, dr, t, os⟩ := by
  refine call_fn hA (C.fn 8 (by decide)).1 C.nolim hO (binds := [(Str.ofString "e", v), (Str.ofString "table", .ref dt), (Str.ofString "empty", .ref de), (Str.ofString "firsts", .ref df)]) (fun _ _ _ => rfl) rfl rfl ⟨rfl, rfl, rfl⟩ ?_
  intro R0 cd h₁ t₁ A₁ hFin hA₁ F X
  have hD : dn 8 = dn 8 := rfl
  conv at hD => rhs; whnf
  rw [hD]
  dsimp only
  clear hD
  obtain ⟨a, t1, b, vs, rfl, ha0, hb0, hvs⟩ := hp
  have ha := ha0.ext X
  repeat' (walk_at "mm")
  refine istok_other C (hA₁.less (by decide)) (on_of F) ha (by decide) (by decide) ?_
  intro h₂ t₂ Y
  have X := X.nil Y
  have F := fr_ext F Y nin0
  have ha := ha.ext Y
  repeat' (walk_at "mm")
  intro h₃ t₃ F Y
  have X := X.frm Y
  have ha := ha.ext Y
  repeat' (walk_at "mm")
  refine dict_new C F ?_
  intro h₄ dn_ hdd hLd F hD Y
  have hdn : h.get? dn_ = none := Heap.get?_none_of_le (Nat.le_of_lt hLd)
  have X := X.nil Y
  have ha := ha.ext Y
  repeat' (walk_at "mm")
  intro h₅ t₅ F Y
  have X := X.frm Y
  have ha := ha.ext Y
  have hD := hD.ext Y (nin1 (ne_gt hLd))
  repeat' (walk_at "mm")
  have ⟨m0, hm, F⟩ := fr_name F
  refine for_tup (base := base) hA₁.hh ?_ (by intro _; rfl) (by intro _ _; rfl)
  have F' := F
  rw [hm] at F'
  repeat' (walk_at "mm")
  have hdfd : df ≠ dn_ := ne_lt (Nat.lt_trans hF.dict.lt hLd)
  refine ⟨b, vs, _, _, rfl, rfl, hb0.ext X, on_of F, [dn_, h.objs.size], fun i h' => FrU base h.objs.size h' m0 (Str.ofString "item") ∧ ∃ acc, Ks w base h' dn_ acc ∧ firstSeq (inE E) (fsAt (R.map (·.1)) FS) [] ps = firstSeq (inE E) (fsAt (R.map (·.1)) FS) acc (ps.drop i) ∧ acc.length ≤ 8 * i, ?_, ⟨.init F, [], hD, rfl, Nat.le_refl _⟩, ?_, ?_, ?_⟩
  · intro a m
    rcases List.mem_cons.mp m with rfl | m
    · exact hD.lt
    · exact lt1 F' a m
  · rintro i h h' ⟨F, acc, K, rest⟩ S
    exact ⟨F.soft S, acc, K.soft S, rest⟩
  · rintro i v h₆ t₆ R9 hi hv X₆ ⟨⟨u, F⟩, acc, hD, hacc, hlen⟩ hLT9
    subst hm
    have X := X.frm2 X₆ (.inr hdn)
    repeat' (walk_at "mm")
    intro h₇ t₇ F Y₇
    have X := X.frm Y₇
    have F := fr_again F
    have hD := hD.ext Y₇ (nin1 (ne_gt hLd))
    obtain ⟨p, hp, hip⟩ := hvs.get hv
    have hpm := List.mem_of_getElem? hp
    repeat' (walk_at "mm")
    refine first_pc C hA₁ (on_of F) (hip.ext X) hR (hx p hpm) (hT.ext X nin0) (hE.ext X nin0) (hF.ext X nin0 (fun _ _ => nin0)) ?_
    intro h₈ t₈ d Y₈ hd hK
    have X := X.nil Y₈
    have F := fr_ext F Y₈ nin0
    have hne : dn_ ≠ d := by
      rintro rfl
      rcases hd with hd | hd
      · obtain ⟨j, hj⟩ := List.getElem?_of_mem hd
        obtain ⟨ks, _, hks⟩ := hF.each.get hj
        exact Nat.lt_irrefl _ (Nat.lt_trans hks.lt hLd)
      · exact hD.live hd
    have hD := hD.ext Y₈ nin0
    repeat' (walk_at "mm")
    have h8 := firstPc_len (ns := R.map (·.1)) hB p
    have hil : i < ps.length := by rw [← hvs.1]; exact hi
    refine merge_apart C (hA₁.less (by decide)) (on_of F) hD hK hne (by omega) ?_
    intro h₉ t₉ Y₉ hD
    have X := X.trans Y₉ (fun a m => .inr (by rw [List.mem_singleton.mp m]; exact hdn))
    have F := fr_ext F Y₉ (nin1 (ne_lt hLd))
    repeat' (walk_at "mm")
    refine may_pc C (hA₁.less (by decide)) (on_of F) (hip.ext X) (hE.ext X nin0) ?_
    intro h₁₀ t₁₀ Y₁₀
    have X := X.nil Y₁₀
    have F := fr_ext F Y₁₀ nin0
    have hD := hD.ext Y₁₀ nin0
    have hdrop : ps.drop i = p :: ps.drop (i + 1) := by
      obtain ⟨hlt, e⟩ := List.getElem?_eq_some_iff.mp hp
      rw [List.drop_eq_getElem_cons hlt, e]
    rw [hdrop, firstSeq_cons] at hacc
    have hkk : nulPc (keysIn (tt E)) p = nulPc (inE E) p := congrFun (all_inE E) p
    repeat' (walk_at "mm")
    rw [hkk]
    refine ite_s ?_ ?_ <;> intro hb
    · have hb' : nulPc (inE E) p = false := by simpa using hb
      repeat' (walk_at "mm")
      rw [hb'] at hacc
      simp only [Bool.false_eq_true, if_false] at hacc
      rw [← hacc] at hD
      exact hQ _ _ _ X hdn hD
    · have hb' : nulPc (inE E) p = true := by simpa using hb
      repeat' (walk_at "mm")
      rw [hb'] at hacc
      simp only [if_true] at hacc
      have hml := (mergeK_len (firstPc (fsAt (R.map (·.1)) FS) p) acc).2
      exact for_next hLT9 ((((Y₇.more (by simp)).step (Y₈.more (by simp))).step (Y₉.more (by simp))).step (Y₁₀.more (by simp))) ⟨.of F, _, hD, hacc, by omega⟩
  · rintro h₆ t₆ X₆ ⟨⟨u, F⟩, acc, hD, hacc, hlen⟩
    subst hm
    have X := X.frm2 X₆ (.inr hdn)
    repeat' (walk_at "mm")
    rw [hvs.1, List.drop_length, firstSeq_nil] at hacc
    rw [← hacc] at hD
    exact hQ _ _ _ X hdn hD
theorem first_alt (C : Bs w base) {v : Value} {ps : List (List Pc)} {dt de df : Addr} {R : Rules} {E : List Str} {Ds : List Addr} {FS : List (List Str)} {Q : Value → Shared → Prop} (hA : Ok A 5) (hO : On base h) (hp : IsAlt h v ps) (hR : WF R) (hl : ps.length ≤ 3) (hl2 : ∀ way ∈ ps, way.length ≤ 3) (hx : ∀ way ∈ ps, ∀ p ∈ way, PcIn (R.map (·.1)) p)
    (hT : Tab w base h dt R) (hE : Ks w base h de E) (hF : Fam w base h df (R.map (·.1)) Ds FS) (hB : ∀ ks ∈ FS, ks.length ≤ 8)
    (hQ : ∀ h' t' d, Ext base [] h h' → h.get? d = none → Ks w base h' d (firstAlt (inE E) (fsAt (R.map (·.1)) FS) ps) → Q (.ref d) ⟨h', g, dr, t', os⟩) :
    wpAny (model pw w) A (call (.ref (C.f 8)) [v, .ref dt, .ref de, .ref df]) Q NoE ⟨h, g, dr, t, os⟩ := by
  refine call_fn hA (C.fn 8 (by decide)).1 C.nolim hO (binds := [(Str.ofString "e", v), (Str.ofString "table", .ref dt), (Str.ofString "empty", .ref de), (Str.ofString "firsts", .ref df)]) (fun _ _ _ => rfl) rfl rfl ⟨rfl, rfl, rfl⟩ ?_
  intro R0 cd h₁ t₁ A₁ hFin hA₁ F X
  have hD : dn 8 = dn 8 := rfl
  conv at hD => rhs; whnf
  rw [hD]
  dsimp only
  clear hD
  obtain ⟨a, t1, b, vs, rfl, ha0, hb0, hvs⟩ := hp
  have ha := ha0.ext X
  repeat' (walk_at "mm")
  refine istok_other C (hA₁.less (by decide)) (on_of F) ha (by decide) (by decide) ?_
  intro h₂ t₂ Y
  have X := X.nil Y
  have F := fr_ext F Y nin0
  have ha := ha.ext Y
  repeat' (walk_at "mm")
  intro h₃ t₃ F Y
  have X := X.frm Y
  have ha := ha.ext Y
  repeat' (walk_at "mm")
  refine dict_new C F ?_
  intro h₄ dn_ hdd hLd F hD Y
  have hdn : h.get? dn_ = none := Heap.get?_none_of_le (Nat.le_of_lt hLd)
  have X := X.nil Y
  have ha := ha.ext Y
  repeat' (walk_at "mm")
  intro h₅ t₅ F Y
  have X := X.frm Y
  have ha := ha.ext Y
  have hD := hD.ext Y (nin1 (ne_gt hLd))
  repeat' (walk_at "mm")
  have ⟨m0, hm, F⟩ := fr_name F
  refine for_tup (base := base) hA₁.hh ?_ (by intro _; rfl) (by intro _ _; rfl)
  have F' := F
  rw [hm] at F'
  repeat' (walk_at "mm")
  have hdfd : df ≠ dn_ := ne_lt (Nat.lt_trans hF.dict.lt hLd)
  refine ⟨b, vs, _, _, rfl, rfl, hb0.ext X, on_of F, [dn_, h.objs.size], fun i h' => FrU base h.objs.size h' m0 (Str.ofString "item") ∧ ∃ acc, Ks w base h' dn_ acc ∧ acc = firstAlt (inE E) (fsAt (R.map (·.1)) FS) (ps.take i) ∧ acc.length ≤ 24 * i, ?_, ⟨.init F, [], hD, rfl, Nat.le_refl _⟩, ?_, ?_, ?_⟩
  · intro a m
    rcases List.mem_cons.mp m with rfl | m
    · exact hD.lt
    · exact lt1 F' a m
  · rintro i h h' ⟨F, acc, K, rest⟩ S
    exact ⟨F.soft S, acc, K.soft S, rest⟩
  · rintro i v h₆ t₆ R9 hi hv X₆ ⟨⟨u, F⟩, acc, hD, hacc, hlen⟩ hLT9
    subst hm
    have X := X.frm2 X₆ (.inr hdn)
    repeat' (walk_at "mm")
    intro h₇ t₇ F Y₇
    have X := X.frm Y₇
    have F := fr_again F
    have hD := hD.ext Y₇ (nin1 (ne_gt hLd))
    obtain ⟨p, hp, hip⟩ := hvs.get hv
    have hpm := List.mem_of_getElem? hp
    repeat' (walk_at "mm")
    refine first_seq C hA₁ (on_of F) (hip.ext X) hR (hl2 p hpm) (hx p hpm) (hT.ext X nin0) (hE.ext X nin0) (hF.ext X nin0 (fun _ _ => nin0)) hB ?_
    intro h₈ t₈ d Y₈ hd hK
    have X := X.nil Y₈
    have F := fr_ext F Y₈ nin0
    have hne : dn_ ≠ d := by
      rintro rfl
      exact hD.live hd
    have hD := hD.ext Y₈ nin0
    repeat' (walk_at "mm")
    have h8 := firstSeq_len (S := inE E) (fun p => firstPc_len (ns := R.map (·.1)) hB p) p []
    have hl3 := hl2 p hpm
    simp only [List.length_nil] at h8
    have hil : i < ps.length := by rw [← hvs.1]; exact hi
    refine merge_apart C (hA₁.less (by decide)) (on_of F) hD hK hne (by omega) ?_
    intro h₉ t₉ Y₉ hD
    have X := X.trans Y₉ (fun a m => .inr (by rw [List.mem_singleton.mp m]; exact hdn))
    have F := fr_ext F Y₉ (nin1 (ne_lt hLd))
    repeat' (walk_at "mm")
    have hml := (mergeK_len (firstSeq (inE E) (fsAt (R.map (·.1)) FS) [] p) acc).2
    refine for_next hLT9 (((Y₇.more (by simp)).step (Y₈.more (by simp))).step (Y₉.more (by simp))) ⟨.of F, _, hD, ?_, by omega⟩
    rw [List.take_add_one, hp, hacc]
    simp [firstAlt]
  · rintro h₆ t₆ X₆ ⟨⟨u, F⟩, acc, hD, hacc, hlen⟩
    subst hm
    have X := X.frm2 X₆ (.inr hdn)
    repeat' (walk_at "mm")
    rw [hvs.1, List.take_length] at hacc
    subst hacc
    exact hQ _ _ _ X hdn hD
end
-- part M6
section
variable {w : World} {A : Around} {k : Nat} {base h : Heap} {g : Array GenState} {dr : Drawn} {t : Nat} {os : OsState}
theorem first_rows_spec (C : Bs w base) {dt lo de : Addr} {R : Rules} {E : List Str} {Q : Value → Shared → Prop} (hA : Ok A 6) (hO : On base h) (hT : Tab w base h dt R) (hL : OrdL base h lo R) (hE : Ks w base h de E) (hR : WF R)
    (hQ : ∀ h' df Ds FS t', Ext base [] h h' → h.get? df = none → (∀ a ∈ Ds, h.get? a = none) → Fam w base h' df (R.map (·.1)) Ds FS → SubT T3 FS → Q (.ref df) ⟨h', g, dr, t', os⟩) :
    wpAny (model pw w) A (call (.ref (C.f 9)) [.ref dt, .ref lo, .ref de]) Q NoE ⟨h, g, dr, t, os⟩ := by
  refine call_fn hA (C.fn 9 (by decide)).1 C.nolim hO (binds := [(Str.ofString "table", .ref dt), (Str.ofString "order", .ref lo), (Str.ofString "empty", .ref de)]) (fun _ _ _ => rfl) rfl rfl ⟨rfl, rfl, rfl⟩ ?_
  intro R0 cd h₁ t₁ A₁ hFin hA₁ F X
  have hD : dn 9 = dn 9 := rfl
  conv at hD => rhs; whnf
  rw [hD]
  dsimp only
  clear hD
  have hloL : lo < h.objs.size := by obtain ⟨_, q, _⟩ := hL; exact q.lt
  repeat' (walk_at "mm")
  refine dict_new C F ?_
  intro h₂ df hde hLd F hD Y
  have X := X.nil Y
  have hdn : h.get? df = none := Heap.get?_none_of_le (Nat.le_of_lt hLd)
  repeat' (walk_at "mm")
  intro h₃ t₃ F Y
  have X := X.frm Y
  have hD := hD.ext Y (nin1 (ne_gt hLd))
  repeat' (walk_at "mm")
  have ⟨m0, hm, F⟩ := fr_name F
  refine for_list (base := base) hA₁.hh ?_ (by intro _; rfl) (.inl (by intro _ _; rfl))
  have F' := F
  rw [hm] at F'
  repeat' (walk_at "mm")
  obtain ⟨vs, hvs, hlen, hget⟩ := (hL.ext X nin0).get
  refine ⟨lo, vs, _, _, rfl, rfl, hvs, on_of F', [df, h.objs.size], fun i h' => FrU base h.objs.size h' m0 (Str.ofString "name") ∧ ∃ Ds, Fam w base h' df ((R.map (·.1)).take i) Ds (List.replicate i []) ∧ ∀ a ∈ Ds, h.objs.size < a, ?_, ?_, ⟨.init F, [], Fam.nil hD, fun _ q => nomatch q⟩, ?_, ?_, ?_⟩
  · exact nin2 (ne_lt (Nat.lt_trans hloL hLd)) (ne_lt hloL)
  · intro a m
    rcases List.mem_cons.mp m with rfl | m
    · exact hD.lt
    · exact lt1 F' a m
  · rintro i h h' ⟨F, Ds, f, ha⟩ S
    exact ⟨F.soft S, Ds, f.soft S, ha⟩
  · rintro i v h₄ t₄ R9 hi hv X₄ ⟨⟨u, F⟩, Ds, f, hDs⟩ hLT9
    subst hm
    obtain ⟨r, u', hr, rfl⟩ := hget i v hv
    repeat' (walk_at "mm")
    intro h₅ t₅ F Y₅
    have F := fr_again F
    have f := f.ext Y₅ (nin1 (ne_gt hLd)) (fun a ha => nin1 (ne_gt (hDs a ha)))
    repeat' (walk_at "mm")
    refine dict_new C F ?_
    intro h₆ d' hd' hLd' F hD' Y₆
    have f6 := f.ext Y₆ nin0 (fun _ _ => nin0)
    have hda : df ≠ d' := by rw [hd']; exact ne_lt f.dict.lt
    have hns : ((R.map (·.1)).take i).length ≤ 4 := Nat.le_trans (List.length_take_le' _ _) (by rw [List.length_map]; exact hR.few)
    repeat' (walk_at "mm")
    refine dict_set f6.dict (by rw [List.length_zip]; omega) ?_
    intro h₇ t₇ hst Y₇
    have F := fr_ext F Y₇ (nin1 (ne_lt hLd))
    have hx : r.1 ∉ (R.map (·.1)).take i := fun hm => by
      obtain ⟨j, hj⟩ := List.getElem?_of_mem hm
      have hji : j < i := by
        have := (List.getElem?_eq_some_iff.mp hj).1
        rw [List.length_take] at this; omega
      rw [List.getElem?_take_of_lt hji] at hj
      have hri : (R.map (·.1))[i]? = some r.1 := by rw [List.getElem?_map, hr]; rfl
      obtain ⟨h1, e1⟩ := List.getElem?_eq_some_iff.mp hj
      obtain ⟨h2, e2⟩ := List.getElem?_eq_some_iff.mp hri
      have := (List.getElem_inj hR.nodup).mp (e1.trans e2.symm)
      omega
    have f7 := f6.snoc hx hD' (fun hm => by rw [hd'] at hm; exact Nat.lt_irrefl _ (f.lts _ hm)) hda hst Y₇
    repeat' (walk_at "mm")
    refine for_next hLT9 (((Y₅.more (by simp)).step (Y₆.more (by simp))).step (Y₇.more (by simp))) ⟨.of F, Ds ++ [d'], ?_, ?_⟩
    · rw [List.take_add_one, List.getElem?_map, hr, List.replicate_succ']
      exact f7
    · intro a ha
      rcases List.mem_append.mp ha with ha | ha
      · exact hDs a ha
      · rw [List.mem_singleton.mp ha]; exact hLd'
  · rintro h₄ t₄ X₄ ⟨⟨u, F⟩, Ds, f, hDs⟩
    subst hm
    have X := X.frm2 X₄ (.inr hdn)
    have htk : (R.map (·.1)).take vs.length = R.map (·.1) := by rw [hlen]; rw [List.take_of_length_le (by rw [List.length_map]; exact Nat.le_refl _)]
    rw [htk] at f
    have hDn : ∀ a ∈ Ds, h.get? a = none := fun a ha => Heap.get?_none_of_le (Nat.le_of_lt (hDs a ha))
    have hsub : SubT T3 (List.replicate vs.length ([] : List Str)) := fun ks hk => by rw [List.eq_of_mem_replicate hk]; exact fun _ q => nomatch q
    generalize List.replicate vs.length ([] : List Str) = FS at f hsub
    repeat' (walk_at "mm")
    intro h₅ t₅ F Y₅
    have X := X.frm Y₅
    have f := f.ext Y₅ (nin1 (ne_gt hLd)) (fun a ha => nin1 (ne_gt (hDs a ha)))
    have ⟨m0, hm, F⟩ : ∃ m0, m0 = _ ∧ FrV base h.objs.size h₅ m0 (Str.ofString "name") (Str.ofString "grown") (.bool true) := ⟨_, rfl, FrV.of (fr_comm F (by decide))⟩
    have hdeL := hE.lt
    have hdfD : ∀ a ∈ Ds, df ≠ a := fun a ha e => f.off (e ▸ ha)
    have hN4 : (R.map (·.1)).length ≤ 4 := by rw [List.length_map]; exact hR.few
    repeat' (walk_at "mm")
    refine while_rule2 (fun n h' => ∃ b FS, FrV base h.objs.size h' m0 (Str.ofString "name") (Str.ofString "grown") (.bool b) ∧ Fam w base h' df (R.map (·.1)) Ds FS ∧ SubT T3 FS ∧ Ext base [] h h' ∧
      n = (12 - total FS) + (if b = true then 1 else 0)) _ ?_ ⟨true, FS, F, f, hsub, X, rfl⟩
    rintro n h₆ t₆ R9 ⟨b, FS, ⟨u, F⟩, f, hsub, X, rfl⟩ hWT9
    subst hm
    cases b with
    | false =>
      repeat' (walk_at "mm")
      exact hQ _ _ _ _ _ X hdn hDn f hsub
    | true =>
      repeat' (walk_at "mm")
      intro h₇ t₇ F Y
      have X := X.frm Y
      have f := f.ext Y (nin1 (ne_gt hLd)) (fun a ha => nin1 (ne_gt (hDs a ha)))
      have F := FrV.flag F (by decide)
      have ⟨m0, hm, F⟩ : ∃ m0, m0 = _ ∧ FrV base h.objs.size h₇ m0 (Str.ofString "name") (Str.ofString "grown") (.bool false) := ⟨_, rfl, F⟩
      repeat' (walk_at "mm")
      refine for_list (base := base) hA₁.hh ?_ (by intro _; rfl) (.inl (by intro _ _; rfl))
      have ⟨u, F'⟩ := F
      rw [hm] at F'
      repeat' (walk_at "mm")
      obtain ⟨vs, hvs, hlen, hget⟩ := (hL.ext X nin0).get
      refine ⟨lo, vs, _, _, rfl, rfl, hvs, on_of F', h.objs.size :: Ds, fun i h' => ∃ b FS', FrV base h.objs.size h' m0 (Str.ofString "name") (Str.ofString "grown") (.bool b) ∧ Fam w base h' df (R.map (·.1)) Ds FS' ∧ SubT T3 FS' ∧
        total FS ≤ total FS' ∧ (b = true → total FS < total FS'), ?_, ?_, ⟨false, FS, F, f, hsub, Nat.le_refl _, fun e => nomatch e⟩, ?_, ?_, ?_⟩
      · exact not_cons (ne_lt hloL) (fun hm => Nat.lt_irrefl _ (Nat.lt_trans hloL (hDs lo hm)))
      · exact mem_cons2 (lt1 F' _ (.head _)) f.lts
      · rintro i h h' ⟨b, FS', F, f, rest⟩ S
        exact ⟨b, FS', F.soft S, f.soft S, rest⟩
      · rintro i v h₈ t₈ R9 hi hv X₈ ⟨b, FS', ⟨u, F⟩, f, hsub, h1, h2⟩ hLT9
        subst hm
        obtain ⟨r, u', hr, rfl⟩ := hget i v hv
        have hrm := List.mem_of_getElem? hr
        have hrn : r.1 ∈ R.map (·.1) := List.mem_map.mpr ⟨r, hrm, rfl⟩
        have X₉ := X.trans X₈ (mem_cons2 (P := fun a => a ∈ ([] : List Addr) ∨ h.get? a = none) (.inr (get?_size h)) fun a ha => .inr (hDn a ha))
        repeat' (walk_at "mm")
        intro h₉ t₉ F Y₉
        have F := fr_again F
        have f := f.ext Y₉ (nin1 (ne_gt hLd)) (fun a ha => nin1 (ne_gt (hDs a ha)))
        have X₉ := X₉.frm Y₉
        have hT₉ := hT.ext X₉ nin0
        obtain ⟨tbl, va, htd, hva, hal⟩ := hT₉.get hrm
        obtain ⟨j, a, hj, hja, hva2, haD, hKa⟩ := f.get hR.nodup hrn
        have hfd := f.dict
        repeat' (walk_at "mm")
        have hB : ∀ ks ∈ FS', ks.length ≤ 3 := f.small hsub
        have hB8 : ∀ ks ∈ FS', ks.length ≤ 8 := fun ks hk => Nat.le_trans (hB ks hk) (by omega)
        refine first_alt C hA₁ (on_of F) hal hR (hR.ways r hrm) (hR.parts r hrm) (hR.pcIn hrm) hT₉ (hE.ext X₉ nin0) f hB8 ?_
        intro h₁₀ t₁₀ d' Y₁₀ hdn' hK'
        have F := fr_ext F Y₁₀ nin0
        have hne : a ≠ d' := by rintro rfl; exact f.live a haD hdn'
        have hKa := hKa.ext Y₁₀ nin0
        have f := f.ext Y₁₀ nin0 (fun _ _ => nin0)
        have hsa := firstAlt_sub (S := inE E) (hsub.at (ns := R.map (·.1))) r.2 (hR.text3 hrm)
        have hl1 : (fsAt (R.map (·.1)) FS' r.1).length ≤ 8 := fsAt_len hB8 _
        have hl2 : (firstAlt (inE E) (fsAt (R.map (·.1)) FS') r.2).length ≤ 3 := nodup_len (tt_nodup hK'.nodup) hsa
        repeat' (walk_at "mm")
        refine merge_apart C (hA₁.less (by decide)) (on_of F) hKa hK' hne (by omega) ?_
        intro h₁₁ t₁₁ Y₁₁ hKa
        have F := fr_ext F Y₁₁ (nin1 (ne_lt (hDs a haD)))
        have hfl := f.fsLen
        have f := f.setAt hja Y₁₁ hKa
        have hFj : FS'[j]? = some (fsAt (R.map (·.1)) FS' r.1) := by
          have hlt : j < FS'.length := by rw [hfl]; exact (List.getElem?_eq_some_iff.mp hj).1
          have e : FS'[j]? = some FS'[j] := by simp [hlt]
          rw [fsAt_get hR.nodup hj e]; exact e
        have hts := total_set (ks' := mergeK (fsAt (R.map (·.1)) FS' r.1) (firstAlt (inE E) (fsAt (R.map (·.1)) FS') r.2)) hFj
        have hml := (mergeK_len (firstAlt (inE E) (fsAt (R.map (·.1)) FS') r.2) (fsAt (R.map (·.1)) FS' r.1)).1
        have hsub' : SubT T3 (FS'.set j (mergeK (fsAt (R.map (·.1)) FS' r.1) (firstAlt (inE E) (fsAt (R.map (·.1)) FS') r.2))) := hsub.set fun x hx => by
          rcases (mergeK_mem _ _ _).mp hx with q | q
          · exact hsub.at (ns := R.map (·.1)) _ x q
          · exact hsa x q
        repeat' (walk_at "mm")
        refine ite_s ?_ ?_ <;> intro hb
        · have hb := of_decide_eq_true hb
          repeat' (walk_at "mm")
          intro h₁₂ t₁₂ F Y₁₂
          have f := f.ext Y₁₂ (nin1 (ne_gt hLd)) (fun a ha => nin1 (ne_gt (hDs a ha)))
          repeat' (walk_at "mm")
          refine for_next hLT9 ((((Y₉.more sub_cons).step (Y₁₀.more (fun _ q => nomatch q))).step (Y₁₁.more (sub_in haD))).step (Y₁₂.more sub_cons)) ⟨true, _, FrV.flag F (by decide), f, hsub', by omega, fun _ => by omega⟩
        · repeat' (walk_at "mm")
          refine for_next hLT9 (((Y₉.more sub_cons).step (Y₁₀.more (fun _ q => nomatch q))).step (Y₁₁.more (sub_in haD))) ⟨b, _, FrV.of F, f, hsub', by omega, fun e => by have := h2 e; omega⟩
      · rintro h₈ t₈ X₈ ⟨b, FS', F, f, hsub, h1, h2⟩
        subst hm
        repeat' (walk_at "mm")
        have hB : ∀ ks ∈ FS', ks.length ≤ 3 := f.small hsub
        have htl := total_le hB
        rw [f.fsLen] at htl
        refine whl_next hWT9 (m := (12 - total FS') + (if b = true then 1 else 0)) ?_ ⟨b, FS', F, f, hsub, X.trans X₈ (mem_cons2 (P := fun a => a ∈ ([] : List Addr) ∨ h.get? a = none) (.inr (get?_size h)) fun a ha => .inr (hDn a ha)), rfl⟩
        cases b with
        | true => have := h2 rfl; simp only [if_true]; omega
        | false => simp only [Bool.false_eq_true, if_false, if_true]; omega
end
-- part M7
section
variable {w : World} {A : Around} {k : Nat} {base h : Heap} {g : Array GenState} {dr : Drawn} {t : Nat} {os : OsState}
theorem may_ex (C : Bs w base) {e : Ex} {v vt : Value} {de : Addr} {E : List Str} {Q : Value → Shared → Prop} (hA : Ok A 3) (hO : On base h) (hp : IsEx h v e) (hE : Ks w base h de E)
    (hQ : ∀ h' t', Ext base [] h h' → Q (.bool (nulEx (inE E) e)) ⟨h', g, dr, t', os⟩) :
    wpAny (model pw w) A (call (.ref (C.f 6)) [v, vt, .ref de]) Q NoE ⟨h, g, dr, t, os⟩ := by
  cases e with
  | pc p => exact may_pc C (hA.less (by decide)) hO hp hE fun h' t' X => by rw [all_inE]; exact hQ h' t' X
  | seq ps => exact may_seq C (hA.less (by decide)) hO hp hE fun h' t' X => by rw [all_inE]; exact hQ h' t' X
  | alt ws => exact may_alt C hA hO hp hE fun h' t' X => by rw [all_inE]; exact hQ h' t' X
theorem first_ex (C : Bs w base) {e : Ex} {v : Value} {dt de df : Addr} {R : Rules} {E : List Str} {Ds : List Addr} {FS : List (List Str)} {Q : Value → Shared → Prop} (hA : Ok A 5) (hO : On base h) (hp : IsEx h v e) (hR : WF R) (hx : ExOK (R.map (·.1)) e)
    (hT : Tab w base h dt R) (hE : Ks w base h de E) (hF : Fam w base h df (R.map (·.1)) Ds FS) (hB : ∀ ks ∈ FS, ks.length ≤ 8)
    (hQ : ∀ h' t' d, Ext base [] h h' → (d ∈ Ds ∨ h.get? d = none) → Ks w base h' d (firstEx (inE E) (fsAt (R.map (·.1)) FS) e) → Q (.ref d) ⟨h', g, dr, t', os⟩) :
    wpAny (model pw w) A (call (.ref (C.f 8)) [v, .ref dt, .ref de, .ref df]) Q NoE ⟨h, g, dr, t, os⟩ := by
  cases e with
  | pc p => exact first_pc C (hA.less (by decide)) hO hp hR hx.1 hT hE hF hQ
  | seq ps => exact first_seq C (hA.less (by decide)) hO hp hR hx.1 (fun p hp => (hx.2 p hp).1) hT hE hF hB fun h' t' d X hd hK => hQ h' t' d X (.inr hd) hK
  | alt ws => exact first_alt C hA hO hp hR hx.1 (fun w hw => (hx.2 w hw).1) (fun w hw p hp => ((hx.2 w hw).2 p hp).1) hT hE hF hB fun h' t' d X hd hK => hQ h' t' d X (.inr hd) hK
theorem nullable_spec (C : Bs w base) {x : Addr} {ga : GA} {fl : List (Str × Value)} {R : Rules} {E : List Str} {Ds : List Addr} {FS : List (List Str)} {e : Ex} {v : Value} {Q : Value → Shared → Prop} (hA : Ok A 4) (hO : On base h) (G : Gr C h x ga fl R E Ds FS) (hp : IsEx h v e)
    (hQ : ∀ h' t', Ext base [] h h' → Q (.bool (nulEx (inE E) e)) ⟨h', g, dr, t', os⟩) :
    wpAny (model pw w) A (call (.ref (C.m 1)) [.ref x, v]) Q NoE ⟨h, g, dr, t, os⟩ := by
  refine call_fn hA (C.mq 1 (by decide)).1 C.nolim hO (binds := [(Str.ofString "self", .ref x), (Str.ofString "e", v)]) (fun _ _ _ => rfl) rfl rfl ⟨rfl, rfl, rfl⟩ ?_
  intro R0 cd h₁ t₁ A₁ hFin hA₁ F X
  have hD : mt 1 = mt 1 := rfl
  conv at hD => rhs; whnf
  rw [hD]
  dsimp only
  clear hD
  have G1 := G.ext X
  have I := G1.inst
  have f2 := G1.f2
  have f3 := G1.f3
  repeat' (walk_at "mm")
  refine may_ex C hA₁ (on_of F) (hp.ext X) G1.emp ?_
  intro h₂ t₂ Y
  repeat' (walk_at "mm")
  exact hQ _ _ (X.nil Y)
theorem first_spec (C : Bs w base) {x : Addr} {ga : GA} {fl : List (Str × Value)} {R : Rules} {E : List Str} {Ds : List Addr} {FS : List (List Str)} {e : Ex} {v : Value} {Q : Value → Shared → Prop} (hA : Ok A 6) (hO : On base h) (G : Gr C h x ga fl R E Ds FS) (hp : IsEx h v e) (hx : ExOK (R.map (·.1)) e)
    (hQ : ∀ h' t' d, Ext base [] h h' → h.get? d = none → Ks w base h' d (firstEx (inE E) (fsAt (R.map (·.1)) FS) e) → Q (.ref d) ⟨h', g, dr, t', os⟩) :
    wpAny (model pw w) A (call (.ref (C.m 2)) [.ref x, v]) Q NoE ⟨h, g, dr, t, os⟩ := by
  refine call_fn hA (C.mq 2 (by decide)).1 C.nolim hO (binds := [(Str.ofString "self", .ref x), (Str.ofString "e", v)]) (fun _ _ _ => rfl) rfl rfl ⟨rfl, rfl, rfl⟩ ?_
  intro R0 cd h₁ t₁ A₁ hFin hA₁ F X
  have hD : mt 2 = mt 2 := rfl
  conv at hD => rhs; whnf
  rw [hD]
  dsimp only
  clear hD
  have G1 := G.ext X
  have I := G1.inst
  have f2 := G1.f2
  have f3 := G1.f3
  have f4 := G1.f4
  repeat' (walk_at "mm")
  refine first_ex C hA₁ (on_of F) (hp.ext X) G.wf hx G1.tab G1.emp G1.fir G.b8 ?_
  intro h₂ t₂ d Y hd hK
  have X := X.nil Y
  have F := fr_ext F Y nin0
  repeat' (walk_at "mm")
  have hs := nodup_len (tt_nodup hK.nodup) (firstEx_sub (S := inE E) G.at hx)
  refine dict_copy C hK F (by rw [tt_len]; exact Nat.le_trans hs (by decide)) ?_
  intro h₃ d' hd' hL F hK Y
  repeat' (walk_at "mm")
  exact hQ _ _ _ (X.nil Y) (Heap.get?_none_of_le (Nat.le_of_lt hL)) hK
theorem predict_spec (C : Bs w base) {x : Addr} {ga : GA} {fl : List (Str × Value)} {R : Rules} {E : List Str} {Ds : List Addr} {FS : List (List Str)} {e : Ex} {v : Value} {da : Addr} {ka : List Str} {Q : Value → Shared → Prop} (hA : Ok A 7) (hO : On base h) (G : Gr C h x ga fl R E Ds FS) (hp : IsEx h v e) (hx : ExOK (R.map (·.1)) e) (hD : Ks w base h da ka) (hl : ka.length ≤ 8)
    (hQ : ∀ h' t' d, Ext base [] h h' → h.get? d = none → Ks w base h' d (predEx (inE E) (fsAt (R.map (·.1)) FS) e ka) → Q (.ref d) ⟨h', g, dr, t', os⟩) :
    wpAny (model pw w) A (call (.ref (C.m 3)) [.ref x, v, .ref da]) Q NoE ⟨h, g, dr, t, os⟩ := by
  refine call_fn hA (C.mq 3 (by decide)).1 C.nolim hO (binds := [(Str.ofString "self", .ref x), (Str.ofString "e", v), (Str.ofString "after", .ref da)]) (fun _ _ _ => rfl) rfl rfl ⟨rfl, rfl, rfl⟩ ?_
  intro R0 cd h₁ t₁ A₁ hFin hA₁ F X
  have hD : mt 3 = mt 3 := rfl
  conv at hD => rhs; whnf
  rw [hD]
  dsimp only
  clear hD
  have G1 := G.ext X
  have I := G1.inst
  have m1 := G1.m1
  have m2 := G1.m2
  repeat' (walk_at "mm")
  refine first_spec C hA₁ (on_of F) G1 (hp.ext X) hx ?_
  intro h₂ t₂ d Y hd hK
  have hdn : h.get? d = none := X.gone hd
  have hda : d ≠ da := by rintro rfl; exact hD.live hdn
  have hdL : d ≠ h.objs.size := by
    rintro rfl
    obtain ⟨o, es, ep, e1, _⟩ := F.ns
    rw [hd] at e1; cases e1
  have X := X.nil Y
  have F := fr_ext F Y nin0
  repeat' (walk_at "mm")
  intro h₃ t₃ F Y
  have X := X.frm Y
  have hK := hK.ext Y (nin1 hdL)
  have G1 := G.ext X
  have I := G1.inst
  repeat' (walk_at "mm")
  refine nullable_spec C (hA₁.less (by decide)) (on_of F) G1 (hp.ext X) ?_
  intro h₄ t₄ Y
  have X := X.nil Y
  have F := fr_ext F Y nin0
  have hK := hK.ext Y nin0
  repeat' (walk_at "mm")
  have hs := nodup_len (tt_nodup hK.nodup) (firstEx_sub (S := inE E) G.at hx)
  have hs8 : (firstEx (inE E) (fsAt (R.map (·.1)) FS) e).length ≤ 8 := Nat.le_trans hs (by decide)
  refine ite_s ?_ ?_ <;> intro hb
  · repeat' (walk_at "mm")
    refine merge_apart C (hA₁.less (by decide)) (on_of F) hK (hD.ext X nin0) hda (by omega) ?_
    intro h₅ t₅ Y hK
    have F := fr_ext F Y (nin1 hdL.symm)
    repeat' (walk_at "mm")
    refine hQ _ _ _ (X.trans Y (fun a m => .inr (by rw [List.mem_singleton.mp m]; exact hdn))) hdn ?_
    unfold predEx; rw [if_pos hb]; exact hK
  · repeat' (walk_at "mm")
    refine hQ _ _ _ X hdn ?_
    unfold predEx; rw [if_neg (by rw [hb]; decide)]; exact hK
end
-- part M8
section
variable {w : World} {A : Around} {k : Nat} {base h : Heap} {g : Array GenState} {dr : Drawn} {t : Nat} {os : OsState}
theorem ilr_spec (C : Bs w base) {x : Addr} {ga : GA} {fl : List (Str × Value)} {R : Rules} {E : List Str} {Ds : List Addr} {FS : List (List Str)} {nm : Str} {u0 : Tok} {Q : Value → Shared → Prop} (hA : Ok A 8) (hO : On base h) (G : Gr C h x ga fl R E Ds FS)
    (hQ : ∀ h' t' b, Ext base [] h h' → (b = true ↔ Rc R (inE E) nm nm) → Q (.bool b) ⟨h', g, dr, t', os⟩) :
    wpAny (model pw w) A (call (.ref (C.f 17)) [.ref x, .str nm u0]) Q NoE ⟨h, g, dr, t, os⟩ := by
  refine call_fn hA (C.fn 17 (by decide)).1 C.nolim hO (binds := [(Str.ofString "grammar", .ref x), (Str.ofString "name", .str nm u0)]) (fun _ _ _ => rfl) rfl rfl ⟨rfl, rfl, rfl⟩ ?_
  intro R0 cd h₁ t₁ A₁ hFin hA₁ F X
  have hD : dn 17 = dn 17 := rfl
  conv at hD => rhs; whnf
  rw [hD]
  dsimp only
  clear hD
  have G1 := G.ext X
  have I := G1.inst
  have f1 := G1.f1
  have f2 := G1.f2
  have m1 := G1.m1
  have hR := G.wf
  obtain ⟨tbl, htd, hts⟩ := G1.tab.isSome
  repeat' (walk_at "mm")
  rw [hts]
  by_cases hin : nm ∉ R.map (·.1)
  · rw [decide_eq_false hin]
    repeat' (walk_at "mm")
    refine hQ _ _ _ X ⟨fun e => (nomatch e), fun r => absurd ?_ hin⟩
    cases r with
    | one l => exact l.names hR
    | more _ l => exact l.names hR
  have hin := Classical.not_not.mp hin
  rw [decide_eq_true hin]
  obtain ⟨r, hrm, hrn⟩ := List.mem_map.mp hin
  obtain ⟨tbl, va, htd, hva, hal⟩ := G1.tab.get hrm
  rw [hrn] at hva
  repeat' (walk_at "mm")
  refine disp F (by simp) ?_
  intro h₂ wl hwl hLw F hW Y
  have X := X.nil Y
  have hal := hal.ext Y
  have hwn : h.get? wl = none := Heap.get?_none_of_le (Nat.le_of_lt hLw)
  repeat' (walk_at "mm")
  intro h₃ t₃ F Y
  have X := X.frm Y
  have hW := hW.ext Y (nin1 (ne_gt hLw))
  have hal := hal.ext Y
  repeat' (walk_at "mm")
  refine dict_new C F ?_
  intro h₄ sd hsd hLs F hS Y
  have hws : wl ≠ sd := by rw [hsd]; exact ne_lt hW.lt
  have X := X.nil Y
  have hW := hW.ext Y nin0
  have hal := hal.ext Y
  have hsn : h.get? sd = none := Heap.get?_none_of_le (Nat.le_of_lt hLs)
  repeat' (walk_at "mm")
  intro h₅ t₅ F Y
  have X := X.frm Y
  have hW := hW.ext Y (nin1 (ne_gt hLw))
  have hS := hS.ext Y (nin1 (ne_gt hLs))
  have hal := hal.ext Y
  have ⟨m0, hm, F⟩ := fr_name F
  have hr0 : (nm, r.2) ∈ R := by rw [← hrn]; exact hrm
  repeat' (walk_at "mm")
  refine while_rule2 (fun n h' => ∃ vs es seen, FrW base h.objs.size h' m0 (Str.ofString "item") (Str.ofString "e") ∧ Ls base h' wl vs ∧ Ks w base h' sd seen ∧ All2 (IsEx h') vs es ∧ Srch R (inE E) nm es seen ∧ Ext base [] h h' ∧
    wts es + 22 * (4 - seen.length) ≤ 1000 ∧ n = wts es + 22 * (4 - seen.length)) _ ?_ ⟨[va], [.alt r.2], [], .init F, hW, hS, All2.snoc (xs := []) (ys := []) All2.nil hal, Srch.start hR hr0, X, ?_, rfl⟩
  rotate_left
  · have := wtAlt_le (hR.ways _ hrm) (hR.parts _ hrm)
    simp only [wts, List.map_cons, List.map_nil, List.sum_cons, List.sum_nil, List.length_nil]; omega
  rintro n h₆ t₆ R9 ⟨us, es, seen, ⟨u1, u2, F⟩, hW0, hS, hV0, hs, X, hb, rfl⟩ hWT9
  subst hm
  have hvl : us.length ≤ 1000 := by have := len_wts es; rw [hV0.1]; omega
  repeat' (walk_at "mm")
  refine ls_len hW0 (by omega) ?_
  intro _ _
  repeat' (walk_at "mm")
  by_cases hvs : us = []
  · subst hvs
    have hes : es = [] := List.length_eq_zero_iff.mp hV0.1.symm
    subst hes
    refine ite_f ?_
    repeat' (walk_at "mm")
    exact hQ _ _ _ X ⟨fun e => (nomatch e), fun q => absurd q hs.done⟩
  have hpos : 0 < us.length := List.length_pos_iff.mpr hvs
  obtain ⟨vs, v, rfl⟩ := append_pop hvs
  obtain ⟨es, e, rfl, hV, hv⟩ := hV0.unsnoc
  refine ite_s ?_ (fun q => absurd q (by simpa using hpos))
  intro _
  repeat' (walk_at "mm")
  clear hV0
  refine ls_pop hW0 (by simp at hvl; omega) ?_
  clear hW0
  intro h₇ hW Y₇
  have X := X.trans Y₇ (fun a m => .inr (by rw [List.mem_singleton.mp m]; exact hwn))
  have F := fr_ext F Y₇ (nin1 (ne_lt hLw))
  have hS := hS.ext Y₇ (nin1 hws.symm)
  have hV := hV.imp fun _ _ z => z.ext Y₇
  have hv := hv.ext Y₇
  repeat' (walk_at "mm")
  intro h₈ t₈ F Y₈
  have X := X.frm Y₈
  have F := fr_swap F (by decide)
  have hW := hW.ext Y₈ (nin1 (ne_gt hLw))
  have hS := hS.ext Y₈ (nin1 (ne_gt hLs))
  have hV := hV.imp fun _ _ z => z.ext Y₈
  have hv := hv.ext Y₈
  have hwe : wts (es ++ [e]) = wts es + wt e := by rw [wts_append]; simp [wts]
  rw [hwe] at hb hWT9
  simp only [List.length_append, List.length_singleton] at hvl
  have hok : ExOK (R.map (·.1)) e := hs.ok e (List.mem_append.mpr (.inr (.head _)))
  have G8 := G.ext X
  have I := G8.inst
  cases e with
  | pc p =>
    cases p with
    | text z =>
      obtain ⟨a, t1, t2, rfl, ht⟩ := hv
      repeat' (walk_at "mm")
      refine whl_next hWT9 (m := wts es + 22 * (4 - seen.length)) ?_ ⟨_, es, seen, .of F, hW, hS, hV, ?_, X, by omega, rfl⟩
      · have := wt_pos (.pc (.text z)); omega
      · have := hs.parts (es' := []) (fun y => ⟨fun q => (by cases q), fun ⟨_, q, _⟩ => (by cases q)⟩) (fun _ q => by cases q)
        simpa using this
    | name z =>
      obtain ⟨a, t1, t2, rfl, ht⟩ := hv
      repeat' (walk_at "mm")
      refine eq_dec ?_
      repeat' (walk_at "mm")
      refine ite_s ?_ ?_ <;> intro hz
      · have hz := of_decide_eq_true hz
        subst hz
        repeat' (walk_at "mm")
        exact hQ _ _ _ X ⟨fun _ => hs.found, fun _ => rfl⟩
      have hz := of_decide_eq_false hz
      have hzR : z ∈ R.map (·.1) := hok.1
      obtain ⟨tbl, htd, hts⟩ := G8.tab.isSome
      have f2 := G8.f2
      repeat' (walk_at "mm")
      rw [hts, decide_eq_true hzR]
      repeat' (walk_at "mm")
      have hsl : seen.length ≤ 4 := by
        have := nodup_len (tt_nodup hS.nodup) hs.sub
        rw [List.length_map] at this; have := hR.few; omega
      by_cases hzs : z ∈ seen
      · rw [isSome_tt, decide_eq_true hzs]
        repeat' (walk_at "mm")
        refine whl_next hWT9 (m := wts es + 22 * (4 - seen.length)) ?_ ⟨_, es, seen, .of F, hW, hS, hV, hs.skip hzs, X, by omega, rfl⟩
        have := wt_pos (.pc (.name z)); omega
      rw [isSome_tt, decide_eq_false hzs]
      repeat' (walk_at "mm")
      refine ks_set hS (by omega) ?_
      intro h₉ t₉ hS Y₉
      rw [addK_new hzs] at hS
      have X := X.trans Y₉ (fun a m => .inr (by rw [List.mem_singleton.mp m]; exact hsn))
      have F := fr_ext F Y₉ (nin1 (ne_lt hLs))
      have hW := hW.ext Y₉ (nin1 hws)
      have hV := hV.imp fun _ _ z => z.ext Y₉
      have ht := ht.ext Y₉
      have G9 := G.ext X
      have I := G9.inst
      obtain ⟨r', hrm', hrn'⟩ := List.mem_map.mp hzR
      obtain ⟨tbl, va', htd, hva', hal'⟩ := G9.tab.get hrm'
      rw [hrn'] at hva'
      have hr1 : (z, r'.2) ∈ R := by rw [← hrn']; exact hrm'
      repeat' (walk_at "mm")
      refine ls_append hW (by omega) ?_
      intro h₁₀ hW Y₁₀
      have X := X.trans Y₁₀ (fun a m => .inr (by rw [List.mem_singleton.mp m]; exact hwn))
      have F := fr_ext F Y₁₀ (nin1 (ne_lt hLw))
      have hS := hS.ext Y₁₀ (nin1 hws.symm)
      have hV := hV.imp fun _ _ z => z.ext Y₁₀
      have hal' := hal'.ext Y₁₀
      repeat' (walk_at "mm")
      have hs' := hs.see hR hr1 hz hzs
      have hsl' : (seen ++ [z]).length ≤ 4 := by
        have := nodup_len (tt_nodup hS.nodup) hs'.sub
        rw [List.length_map] at this; have := hR.few; omega
      have hwz := wtAlt_le (hR.ways _ hrm') (hR.parts _ hrm')
      have hwe' : wts (es ++ [.alt r'.2]) = wts es + wt (.alt r'.2) := by rw [wts_append]; simp [wts]
      have := wt_pos (.pc (.name z))
      simp only [List.length_append, List.length_singleton] at hsl'
      refine whl_next hWT9 (m := _) ?_ ⟨_, es ++ [.alt r'.2], seen ++ [z], .of F, hW, hS, hV.snoc (IsEx.ofAlt hal'), hs', X, ?_, rfl⟩
      · rw [hwe']; simp only [List.length_append, List.length_singleton]; omega
      · rw [hwe']; simp only [List.length_append, List.length_singleton]; omega
    | opt z =>
      obtain ⟨a, t1, v', rfl, ht, hn⟩ := hv
      repeat' (walk_at "mm")
      refine ls_append hW (by omega) ?_
      intro h₉ hW Y₉
      have X := X.trans Y₉ (fun a m => .inr (by rw [List.mem_singleton.mp m]; exact hwn))
      have F := fr_ext F Y₉ (nin1 (ne_lt hLw))
      have hS := hS.ext Y₉ (nin1 hws.symm)
      have hV := hV.imp fun _ _ z => z.ext Y₉
      have hn := hn.ext Y₉
      repeat' (walk_at "mm")
      have hwe' : wts (es ++ [.pc (.name z)]) = wts es + 1 := by rw [wts_append]; simp [wts, wt, wtPc]
      have hw2 : wt (.pc (.opt z)) = 2 := rfl
      refine whl_next hWT9 (m := _) ?_ ⟨_, es ++ [.pc (.name z)], seen, .of F, hW, hS, hV.snoc (IsEx.ofNm hn), hs.parts (es' := [.pc (.name z)]) (fun y => ⟨fun q => ⟨_, .head _, q⟩, fun ⟨d, hd, q⟩ => by rw [List.mem_singleton.mp hd] at q; exact q⟩) (fun d hd => by rw [List.mem_singleton.mp hd]; exact ⟨hok.1, fun x q => nomatch q⟩), X, ?_, rfl⟩
      · rw [hwe']; omega
      · rw [hwe']; omega
    | rep z =>
      obtain ⟨a, t1, v', rfl, ht, hn⟩ := hv
      repeat' (walk_at "mm")
      refine ls_append hW (by omega) ?_
      intro h₉ hW Y₉
      have X := X.trans Y₉ (fun a m => .inr (by rw [List.mem_singleton.mp m]; exact hwn))
      have F := fr_ext F Y₉ (nin1 (ne_lt hLw))
      have hS := hS.ext Y₉ (nin1 hws.symm)
      have hV := hV.imp fun _ _ z => z.ext Y₉
      have hn := hn.ext Y₉
      repeat' (walk_at "mm")
      have hwe' : wts (es ++ [.pc (.name z)]) = wts es + 1 := by rw [wts_append]; simp [wts, wt, wtPc]
      have hw2 : wt (.pc (.rep z)) = 2 := rfl
      refine whl_next hWT9 (m := _) ?_ ⟨_, es ++ [.pc (.name z)], seen, .of F, hW, hS, hV.snoc (IsEx.ofNm hn), hs.parts (es' := [.pc (.name z)]) (fun y => ⟨fun q => ⟨_, .head _, q⟩, fun ⟨d, hd, q⟩ => by rw [List.mem_singleton.mp hd] at q; exact q⟩) (fun d hd => by rw [List.mem_singleton.mp hd]; exact ⟨hok.1, fun x q => nomatch q⟩), X, ?_, rfl⟩
      · rw [hwe']; omega
      · rw [hwe']; omega
  | alt ws =>
    obtain ⟨a, t1, b, us, rfl, ht, hb2, hu⟩ := hv
    repeat' (walk_at "mm")
    refine ls_extend_tp hW hb2 (by rw [hu.1]; have := hok.1; omega) ?_
    intro h₉ hW Y₉
    have X := X.trans Y₉ (fun a m => .inr (by rw [List.mem_singleton.mp m]; exact hwn))
    have F := fr_ext F Y₉ (nin1 (ne_lt hLw))
    have hS := hS.ext Y₉ (nin1 hws.symm)
    have hV := hV.imp fun _ _ z => z.ext Y₉
    have hu := hu.imp fun _ _ z => z.ext Y₉
    repeat' (walk_at "mm")
    have hwe' : wts (es ++ ws.map .seq) = wts es + (ws.map wtSeq).sum := by rw [wts_append, wts_seqs]
    have hw2 : wt (.alt ws) = 1 + (ws.map wtSeq).sum := rfl
    refine whl_next hWT9 (m := _) ?_ ⟨_, es ++ ws.map .seq, seen, .of F, hW, hS, hV.append (hu.mapR (R' := IsEx _) (f := Ex.seq) fun _ _ q => IsEx.ofSeq q), hs.parts (fun y => ⟨fun ⟨way, hw, q⟩ => ⟨.seq way, List.mem_map.mpr ⟨way, hw, rfl⟩, q⟩, fun ⟨d, hd, q⟩ => by
      obtain ⟨way, hw, rfl⟩ := List.mem_map.mp hd
      exact ⟨way, hw, q⟩⟩) (fun d hd => by
      obtain ⟨way, hw, rfl⟩ := List.mem_map.mp hd
      exact hok.2 way hw), X, ?_, rfl⟩
    · rw [hwe']; omega
    · rw [hwe']; omega
  | seq ps =>
    obtain ⟨a, t1, b, us, rfl, ht, hb2, hu⟩ := hv
    repeat' (walk_at "mm")
    have ⟨m0, hm, F⟩ := fr_name1 F
    refine for_tup (base := base) hA₁.hh ?_ (by intro _; rfl) (by intro _ _; rfl)
    have F' := F
    rw [hm] at F'
    repeat' (walk_at "mm")
    refine ⟨b, us, _, _, rfl, rfl, hb2, on_of F', [wl, h.objs.size], fun i h' => (∃ u, Fr base h.objs.size h' (fun y => if y = Str.ofString "item" then u else m0 y)) ∧ Ls base h' wl (vs ++ us.take i) ∧ Ks w base h' sd seen ∧ All2 (IsEx h') (vs ++ us.take i) (es ++ (ps.take i).map .pc) ∧ (∀ q ∈ ps.take i, nulPc (inE E) q = true), ?_, ⟨⟨_, F⟩, by simpa using hW, hS, by simpa using hV, by simp⟩, ?_, ?_, ?_⟩
    · intro a m
      rcases List.mem_cons.mp m with rfl | m
      · exact hW.lt
      · exact lt1 F' a m
    · rintro i h h' ⟨⟨u, F⟩, hW, hS, hV, hn⟩ S
      exact ⟨⟨u, fr_soft F S⟩, hW.soft S, hS.soft S, hV.imp fun v e q => q.soft S, hn⟩
    · rintro i v h₁₀ t₁₀ R9 hi hv X₁₀ ⟨⟨u, F⟩, hW, hS, hV, hn⟩ hLT9
      subst hm
      obtain ⟨p, hp, hvp⟩ := hu.get hv
      have hvp := hvp.ext X₁₀
      have X := X.frm2 X₁₀ (.inr hwn)
      have hul : us.length ≤ 3 := by rw [hu.1]; exact hok.1
      repeat' (walk_at "mm")
      intro h₁₁ t₁₁ F Y₁₁
      have X := X.frm Y₁₁
      have F := fr_again F
      have hW := hW.ext Y₁₁ (nin1 (ne_gt hLw))
      have hS := hS.ext Y₁₁ (nin1 (ne_gt hLs))
      have hV := hV.imp fun _ _ z => z.ext Y₁₁
      have hvp := hvp.ext Y₁₁
      repeat' (walk_at "mm")
      refine ls_append hW (by rw [List.length_append, List.length_take]; omega) ?_
      intro h₁₂ hW Y₁₂
      have X := X.trans Y₁₂ (fun a m => .inr (by rw [List.mem_singleton.mp m]; exact hwn))
      have F := fr_ext F Y₁₂ (nin1 (ne_lt hLw))
      have hS := hS.ext Y₁₂ (nin1 hws.symm)
      have hV := hV.imp fun _ _ z => z.ext Y₁₂
      have hvp := hvp.ext Y₁₂
      have G12 := G.ext X
      have I := G12.inst
      rw [List.append_assoc, show us.take i ++ [v] = us.take (i + 1) from by rw [List.take_add_one, hv]; rfl] at hW
      have hV : All2 (IsEx h₁₂) (vs ++ us.take (i + 1)) (es ++ (ps.take (i + 1)).map .pc) := by
        rw [List.take_add_one, hv, List.take_add_one, hp, List.map_append, ← List.append_assoc, ← List.append_assoc]
        exact hV.snoc hvp
      repeat' (walk_at "mm")
      refine nullable_spec C (hA₁.less (by decide)) (on_of F) G12 (e := .pc p) hvp ?_
      intro h₁₃ t₁₃ Y₁₃
      have X := X.nil Y₁₃
      have F := fr_ext F Y₁₃ nin0
      have hW := hW.ext Y₁₃ nin0
      have hS := hS.ext Y₁₃ nin0
      have hV := hV.imp fun _ _ z => z.ext Y₁₃
      repeat' (walk_at "mm")
      cases hnp : nulEx (inE E) (.pc p) with
      | false =>
        repeat' (walk_at "mm")
        have F := FrW.of (x := Str.ofString "item") (z := Str.ofString "e") F
        have hwe' : wts (es ++ (ps.take (i + 1)).map .pc) = wts es + ((ps.take (i + 1)).map wtPc).sum := by rw [wts_append, wts_pcs]
        have hst := sum_take wtPc ps (i + 1)
        have hw2 : wt (.seq ps) = 1 + (ps.map wtPc).sum := rfl
        have hls : leftSeq (inE E) ps = ps.take (i + 1) := leftSeq_stop hn hp hnp
        refine whl_next hWT9 (m := _) ?_ ⟨_, es ++ (ps.take (i + 1)).map .pc, seen, F, hW, hS, hV, hs.parts (fun y => ⟨fun ⟨p, hp, q⟩ => ⟨.pc p, List.mem_map.mpr ⟨p, by rw [← hls]; exact hp, rfl⟩, q⟩, fun ⟨d, hd, q⟩ => by
          obtain ⟨p, hp, rfl⟩ := List.mem_map.mp hd
          exact ⟨p, by rw [hls]; exact hp, q⟩⟩) (fun d hd => by
          obtain ⟨p, hp, rfl⟩ := List.mem_map.mp hd
          exact hok.2 p (List.mem_of_mem_take hp)), X, ?_, rfl⟩
        · rw [hwe']; omega
        · rw [hwe']; omega
      | true =>
        repeat' (walk_at "mm")
        refine for_next hLT9 ?_ ⟨⟨_, F⟩, hW, hS, hV, ?_⟩
        · exact (((Y₁₁.more (by simp)).step (Y₁₂.more (by simp))).step (Y₁₃.more (fun _ q => nomatch q)))
        · intro q hq
          rw [List.take_add_one, hp] at hq
          rcases List.mem_append.mp hq with hq | hq
          · exact hn q hq
          · rw [List.mem_singleton.mp hq]; exact hnp
    · rintro h₁₀ t₁₀ X₁₀ ⟨⟨u, F⟩, hW, hS, hV, hn⟩
      subst hm
      have X := X.frm2 X₁₀ (.inr hwn)
      repeat' (walk_at "mm")
      have F := FrW.of (x := Str.ofString "item") (z := Str.ofString "e") F
      have hwe' : wts (es ++ (ps.take us.length).map .pc) = wts es + ((ps.take us.length).map wtPc).sum := by rw [wts_append, wts_pcs]
      have hst := sum_take wtPc ps us.length
      have hw2 : wt (.seq ps) = 1 + (ps.map wtPc).sum := rfl
      have hls : leftSeq (inE E) ps = ps.take us.length := (by rw [hu.1, List.take_length] at hn ⊢; exact leftSeq_all hn)
      refine whl_next hWT9 (m := _) ?_ ⟨_, es ++ (ps.take us.length).map .pc, seen, F, hW, hS, hV, hs.parts (fun y => ⟨fun ⟨p, hp, q⟩ => ⟨.pc p, List.mem_map.mpr ⟨p, by rw [← hls]; exact hp, rfl⟩, q⟩, fun ⟨d, hd, q⟩ => by
        obtain ⟨p, hp, rfl⟩ := List.mem_map.mp hd
        exact ⟨p, by rw [hls]; exact hp, q⟩⟩) (fun d hd => by
        obtain ⟨p, hp, rfl⟩ := List.mem_map.mp hd
        exact hok.2 p (List.mem_of_mem_take hp)), X, ?_, rfl⟩
      · rw [hwe']; omega
      · rw [hwe']; omega
end
-- part M9
section
variable {w : World} {A : Around} {k : Nat} {base h : Heap} {g : Array GenState} {dr : Drawn} {t : Nat} {os : OsState}
theorem All2.rev {α β : Type} {R : α → β → Prop} {xs : List α} {ys : List β} (x : All2 R xs ys) : All2 R xs.reverse ys.reverse := by
  refine ⟨by simp [x.1], fun i a b e e' => ?_⟩
  have h1 : i < xs.length := by have := (List.getElem?_eq_some_iff.mp e).1; simpa using this
  rw [List.getElem?_reverse h1] at e
  rw [List.getElem?_reverse (x.1 ▸ h1), ← x.1] at e'
  exact x.2 _ a b e e'
theorem parts_seq (C : Bs w base) {x : Addr} {ga : GA} {fl : List (Str × Value)} {R : Rules} {E : List Str} {Ds : List Addr} {FS : List (List Str)} {ps : List Pc} {v : Value} {da : Addr} {ka : List Str} {Q : Value → Shared → Prop} (hA : Ok A 8) (hO : On base h) (G : Gr C h x ga fl R E Ds FS) (hp : IsEx h v (.seq ps)) (hx : ExOK (R.map (·.1)) (.seq ps))
    (hD : Ks w base h da ka) (hk : ∀ y ∈ ka, y ∈ T4)
    (hQ : ∀ h' t' d us, Ext base [] h h' → h.get? d = none → Ls base h' d us → All2 (PartOf w base h' fun db => (db = da ∨ h.get? db = none) ∧ db ≠ d) us (partEx (inE E) (fsAt (R.map (·.1)) FS) ka (.seq ps)) → Q (.ref d) ⟨h', g, dr, t', os⟩) :
    wpAny (model pw w) A (call (.ref (C.f 12)) [.ref x, v, .ref da]) Q NoE ⟨h, g, dr, t, os⟩ := by
  refine call_fn hA (C.fn 12 (by decide)).1 C.nolim hO (binds := [(Str.ofString "grammar", .ref x), (Str.ofString "e", v), (Str.ofString "after", .ref da)]) (fun _ _ _ => rfl) rfl rfl ⟨rfl, rfl, rfl⟩ ?_
  intro R0 cd h₁ t₁ A₁ hFin hA₁ F X
  have hD : dn 12 = dn 12 := rfl
  conv at hD => rhs; whnf
  rw [hD]
  dsimp only
  clear hD
  have G1 := G.ext X
  obtain ⟨a, t1, b, vs, rfl, ht, htb, hvs⟩ := hp.ext X
  have hdal := hD.live
  have hD1 := hD.ext X nin0
  have hdaL : da < h.objs.size := hD.lt
  have hF3 := G.at
  obtain ⟨S, hS⟩ : ∃ S, S = inE E := ⟨_, rfl⟩
  obtain ⟨Fs, hFs⟩ : ∃ Fs, Fs = fsAt (R.map (·.1)) FS := ⟨_, rfl⟩
  rw [← hS, ← hFs] at hQ
  rw [← hFs] at hF3
  repeat' (walk_at "mm")
  refine disp F (by decide) ?_
  intro h₂ d hd hLd F hW Y
  have X := X.nil Y
  have hD1 := hD1.ext Y nin0
  have ht := ht.ext Y
  have htb := htb.ext Y
  have hvs := hvs.imp fun _ _ z => z.ext Y
  have hdn : h.get? d = none := Heap.get?_none_of_le (Nat.le_of_lt hLd)
  have hdda : d ≠ da := by rintro rfl; exact hdal hdn
  repeat' (walk_at "mm")
  intro h₃ t₃ F Y
  have X := X.frm Y
  have hD1 := hD1.ext Y (nin1 (ne_lt hdaL))
  have hW := hW.ext Y (nin1 (ne_gt hLd))
  have ht := ht.ext Y
  have htb := htb.ext Y
  have hvs := hvs.imp fun _ _ z => z.ext Y
  repeat' (walk_at "mm")
  intro h₄ t₄ F Y
  have X := X.frm Y
  have hD1 := hD1.ext Y (nin1 (ne_lt hdaL))
  have hW := hW.ext Y (nin1 (ne_gt hLd))
  have ht := ht.ext Y
  have htb := htb.ext Y
  have hvs := hvs.imp fun _ _ z => z.ext Y
  have hlen := hvs.1
  have hl3 : vs.length ≤ 3 := by rw [hlen]; exact hx.1
  have ⟨m0, hm, F⟩ := fr_name1 F
  have hP : ∀ a ∈ [d, h.objs.size], ¬ ((a = da ∨ h.get? a = none) ∧ a ≠ d ∧ a ≠ h.objs.size) := by
    rintro a m ⟨_, h1, h2⟩
    rcases List.mem_cons.mp m with q | q
    · exact h1 q
    · exact h2 (List.mem_singleton.mp q)
  have hP1 : ∀ a ∈ [h.objs.size], ¬ ((a = da ∨ h.get? a = none) ∧ a ≠ d ∧ a ≠ h.objs.size) := fun a m => hP a (.tail _ m)
  have hP2 : ∀ a ∈ [d], ¬ ((a = da ∨ h.get? a = none) ∧ a ≠ d ∧ a ≠ h.objs.size) := fun a m => hP a (by rw [List.mem_singleton.mp m]; exact .head _)
  repeat' (walk_at "mm")
  refine for_rev (base := base) hA₁.hh ?_ (by intro _; rfl) (by intro _ _; rfl)
  have F' := F
  rw [hm] at F'
  repeat' (walk_at "mm")
  refine rev_call htb (by omega) ?_
  intro tk
  refine ⟨_, b, vs, _, _, tk, rfl, rfl, rfl, rfl, htb, by omega, on_of F', [d, h.objs.size], fun i h' => ∃ bd us, FrV base h.objs.size h' m0 (Str.ofString "item") (Str.ofString "behind") (.ref bd) ∧ Ks w base h' bd (folSeq S Fs ka (ps.drop (vs.length - i))) ∧ ((bd = da ∨ h.get? bd = none) ∧ bd ≠ d ∧ bd ≠ h.objs.size) ∧
    Ls base h' d us ∧ All2 (PartOf w base h' fun db => (db = da ∨ h.get? db = none) ∧ db ≠ d ∧ db ≠ h.objs.size) us (partSeq S Fs ka (ps.drop (vs.length - i))).reverse ∧ us.length = i, ?_, ⟨da, [], .init F, ?_, ⟨.inl rfl, hdda.symm, ne_lt hdaL⟩, hW, ?_, rfl⟩, ?_, ?_, ?_⟩
  · intro a m
    rcases List.mem_cons.mp m with rfl | m
    · exact hW.lt
    · exact lt1 F' a m
  · rw [hlen, Nat.sub_zero, List.drop_length]; exact hD1
  · rw [hlen, Nat.sub_zero, List.drop_length]; exact All2.nil
  · rintro i h h' ⟨bd, us, F, hB, hb, hW, hU, hul⟩ S
    exact ⟨bd, us, F.soft S, hB.soft S, hb, hW.soft S, hU.imp fun _ _ z => z.soft S, hul⟩
  · rintro i v h₅ t₅ R9 hi hv X₅ ⟨bd, us, ⟨u, F⟩, hB, hb, hW, hU, hul⟩ hLT9
    subst hm
    obtain ⟨p, hp, hvp⟩ := hvs.get hv
    have hvp := IsEx.ofPc (hvp.ext X₅)
    have X := X.frm2 X₅ (.inr hdn)
    have ht := ht.ext X₅
    have hni : vs.length - i = (vs.length - 1 - i) + 1 := by omega
    have hni2 : vs.length - (i + 1) = vs.length - 1 - i := by omega
    repeat' (walk_at "mm")
    intro h₆ t₆ F Y₆
    have X := X.frm Y₆
    have F := fr_again F
    have hB := hB.ext Y₆ (nin1 hb.2.2)
    have hW := hW.ext Y₆ (nin1 (ne_gt hLd))
    have hU := hU.imp fun _ _ z => z.ext Y₆ hP1
    have hvp := hvp.ext Y₆
    have ht := ht.ext Y₆
    repeat' (walk_at "mm")
    refine disp F (by simp) ?_
    intro h₇ tp htp hLt F hT Y₇
    have X := X.nil Y₇
    have hB := hB.ext Y₇ nin0
    have hW := hW.ext Y₇ nin0
    have hU := hU.imp fun _ _ z => z.ext Y₇ (fun _ q => nomatch q)
    have hvp := hvp.ext Y₇
    have ht := ht.ext Y₇
    repeat' (walk_at "mm")
    refine ls_append hW (by omega) ?_
    intro h₈ hW Y₈
    have X := X.trans Y₈ (fun a m => .inr (by rw [List.mem_singleton.mp m]; exact hdn))
    have F := fr_ext F Y₈ (nin1 (ne_lt hLd))
    have hB := hB.ext Y₈ (nin1 hb.2.1)
    have hU := hU.imp fun _ _ z => z.ext Y₈ hP2
    have hvp := hvp.ext Y₈
    have ht := ht.ext Y₈
    have hT := hT.ext Y₈
    have hU := hU.snoc (v := .ref tp) (p := (.pc p, folSeq S Fs ka (ps.drop (vs.length - i)))) ⟨tp, _, bd, rfl, hT, hvp, hB, hb⟩
    rw [hni] at hU hB
    have hPT : (partSeq S Fs ka (ps.drop (vs.length - 1 - i + 1))).reverse ++ [(.pc p, folSeq S Fs ka (ps.drop (vs.length - 1 - i + 1)))] = (partSeq S Fs ka (ps.drop (vs.length - 1 - i))).reverse := by
      rw [partSeq_drop ps _ p hp, List.reverse_cons]
    rw [hPT] at hU
    have G8 := G.ext X
    have I := G8.inst
    have m3 := G8.m3
    have hpm : PcOK (R.map (·.1)) p := hx.2 p (List.mem_of_getElem? hp)
    have hf4 := folSeq_sub4 (S := S) (ka := ka) hF3 hk (ps.drop (vs.length - 1 - i + 1)) (fun q hq => hx.2 q (List.mem_of_mem_drop hq))
    have hfl : (folSeq S Fs ka (ps.drop (vs.length - 1 - i + 1))).length ≤ 4 := nodup_len (tt_nodup hB.nodup) hf4
    repeat' (walk_at "mm")
    refine predict_spec C hA₁ (on_of F) G8 hvp hpm hB (by omega) ?_
    intro h₉ t₉ bd' Y₉ hdn' hB'
    have hdn2 : h.get? bd' = none := X.gone hdn'
    have hbd : bd' ≠ d := by rintro rfl; exact hW.live hdn'
    have hbL : bd' ≠ h.objs.size := by
      rintro rfl
      obtain ⟨o, es, ep, e1, _⟩ := F.ns
      rw [hdn'] at e1; cases e1
    have F := fr_ext F Y₉ nin0
    have hW := hW.ext Y₉ nin0
    have hU := hU.imp fun _ _ z => z.ext Y₉ (fun _ q => nomatch q)
    rw [← hS, ← hFs, ← folSeq_drop ps _ p hp] at hB'
    repeat' (walk_at "mm")
    intro h₁₀ t₁₀ F Y₁₀
    have hB := hB'.ext Y₁₀ (nin1 hbL)
    have hW := hW.ext Y₁₀ (nin1 (ne_gt hLd))
    have hU := hU.imp fun _ _ z => z.ext Y₁₀ hP1
    have F := FrV.flag F (by decide)
    repeat' (walk_at "mm")
    refine for_next hLT9 ?_ ⟨bd', _, F, by rw [hni2]; exact hB, ⟨.inr hdn2, hbd, hbL⟩, hW, by rw [hni2]; exact hU, by simp [hul]⟩
    exact ((((Y₆.more (by simp)).step (Y₇.more (by simp))).step (Y₈.more (by simp))).step (Y₉.more (by simp))).step (Y₁₀.more (by simp))
  · rintro h₅ t₅ X₅ ⟨bd, us, ⟨u, F⟩, hB, hb, hW, hU, hul⟩
    subst hm
    have X := X.frm2 X₅ (.inr hdn)
    rw [Nat.sub_self, List.drop_zero] at hU
    repeat' (walk_at "mm")
    refine ls_reverse hW (by omega) ?_
    intro h₆ hW Y₆
    have X := X.trans Y₆ (fun a m => .inr (by rw [List.mem_singleton.mp m]; exact hdn))
    have F := fr_ext F Y₆ (nin1 (ne_lt hLd))
    have hU := hU.imp fun _ _ z => z.ext Y₆ hP2
    repeat' (walk_at "mm")
    refine hQ _ _ _ _ X hdn hW ?_
    have hU := hU.rev
    rw [List.reverse_reverse] at hU
    exact hU.imp fun _ _ z => z.imp fun _ q => ⟨q.1, q.2.1⟩
theorem parts_alt (C : Bs w base) {x : Addr} {ga : GA} {fl : List (Str × Value)} {R : Rules} {E : List Str} {Ds : List Addr} {FS : List (List Str)} {ws : List (List Pc)} {v : Value} {da : Addr} {ka : List Str} {Q : Value → Shared → Prop} (hA : Ok A 8) (hO : On base h) (G : Gr C h x ga fl R E Ds FS) (hp : IsEx h v (.alt ws)) (hx : ExOK (R.map (·.1)) (.alt ws))
    (hD : Ks w base h da ka) (hk : ∀ y ∈ ka, y ∈ T4)
    (hQ : ∀ h' t' d us, Ext base [] h h' → h.get? d = none → Ls base h' d us → All2 (PartOf w base h' fun db => (db = da ∨ h.get? db = none) ∧ db ≠ d) us (partEx (inE E) (fsAt (R.map (·.1)) FS) ka (.alt ws)) → Q (.ref d) ⟨h', g, dr, t', os⟩) :
    wpAny (model pw w) A (call (.ref (C.f 12)) [.ref x, v, .ref da]) Q NoE ⟨h, g, dr, t, os⟩ := by
  refine call_fn hA (C.fn 12 (by decide)).1 C.nolim hO (binds := [(Str.ofString "grammar", .ref x), (Str.ofString "e", v), (Str.ofString "after", .ref da)]) (fun _ _ _ => rfl) rfl rfl ⟨rfl, rfl, rfl⟩ ?_
  intro R0 cd h₁ t₁ A₁ hFin hA₁ F X
  have hD : dn 12 = dn 12 := rfl
  conv at hD => rhs; whnf
  rw [hD]
  dsimp only
  clear hD
  have G1 := G.ext X
  obtain ⟨a, t1, b, vs, rfl, ht, htb, hvs⟩ := hp.ext X
  have hdal := hD.live
  have hD1 := hD.ext X nin0
  have hdaL : da < h.objs.size := hD.lt
  have hF3 := G.at
  obtain ⟨S, hS⟩ : ∃ S, S = inE E := ⟨_, rfl⟩
  obtain ⟨Fs, hFs⟩ : ∃ Fs, Fs = fsAt (R.map (·.1)) FS := ⟨_, rfl⟩
  rw [← hS, ← hFs] at hQ
  rw [← hFs] at hF3
  repeat' (walk_at "mm")
  refine disp F (by decide) ?_
  intro h₂ d hd hLd F hW Y
  have X := X.nil Y
  have hD1 := hD1.ext Y nin0
  have ht := ht.ext Y
  have htb := htb.ext Y
  have hvs := hvs.imp fun _ _ z => z.ext Y
  have hdn : h.get? d = none := Heap.get?_none_of_le (Nat.le_of_lt hLd)
  have hdda : d ≠ da := by rintro rfl; exact hdal hdn
  repeat' (walk_at "mm")
  intro h₃ t₃ F Y
  have X := X.frm Y
  have hD1 := hD1.ext Y (nin1 (ne_lt hdaL))
  have hW := hW.ext Y (nin1 (ne_gt hLd))
  have ht := ht.ext Y
  have htb := htb.ext Y
  have hvs := hvs.imp fun _ _ z => z.ext Y
  repeat' (walk_at "mm")
  intro h₄ t₄ F Y
  have X := X.frm Y
  have hD1 := hD1.ext Y (nin1 (ne_lt hdaL))
  have hW := hW.ext Y (nin1 (ne_gt hLd))
  have ht := ht.ext Y
  have htb := htb.ext Y
  have hvs := hvs.imp fun _ _ z => z.ext Y
  have hlen := hvs.1
  have hl3 : vs.length ≤ 3 := by rw [hlen]; exact hx.1
  have ⟨m0, hm, F⟩ := fr_name1 F
  have hP : ∀ a ∈ [d, h.objs.size], ¬ ((a = da ∨ h.get? a = none) ∧ a ≠ d ∧ a ≠ h.objs.size) := by
    rintro a m ⟨_, h1, h2⟩
    rcases List.mem_cons.mp m with q | q
    · exact h1 q
    · exact h2 (List.mem_singleton.mp q)
  have hP1 : ∀ a ∈ [h.objs.size], ¬ ((a = da ∨ h.get? a = none) ∧ a ≠ d ∧ a ≠ h.objs.size) := fun a m => hP a (.tail _ m)
  have hP2 : ∀ a ∈ [d], ¬ ((a = da ∨ h.get? a = none) ∧ a ≠ d ∧ a ≠ h.objs.size) := fun a m => hP a (by rw [List.mem_singleton.mp m]; exact .head _)
  repeat' (walk_at "mm")
  refine for_rev (base := base) hA₁.hh ?_ (by intro _; rfl) (by intro _ _; rfl)
  have F' := F
  rw [hm] at F'
  repeat' (walk_at "mm")
  refine rev_call htb (by omega) ?_
  intro tk
  refine ⟨_, b, vs, _, _, tk, rfl, rfl, rfl, rfl, htb, by omega, on_of F', [d, h.objs.size], fun i h' => ∃ bd us, FrV base h.objs.size h' m0 (Str.ofString "item") (Str.ofString "behind") (.ref bd) ∧ Ks w base h' bd (ka) ∧ ((bd = da ∨ h.get? bd = none) ∧ bd ≠ d ∧ bd ≠ h.objs.size) ∧
    Ls base h' d us ∧ All2 (PartOf w base h' fun db => (db = da ∨ h.get? db = none) ∧ db ≠ d ∧ db ≠ h.objs.size) us ((ws.drop (vs.length - i)).map fun ps => ((Ex.seq ps, ka) : Ex × List Str)).reverse ∧ us.length = i, ?_, ⟨da, [], .init F, ?_, ⟨.inl rfl, hdda.symm, ne_lt hdaL⟩, hW, ?_, rfl⟩, ?_, ?_, ?_⟩
  · intro a m
    rcases List.mem_cons.mp m with rfl | m
    · exact hW.lt
    · exact lt1 F' a m
  · exact hD1
  · rw [hlen, Nat.sub_zero, List.drop_length]; exact All2.nil
  · rintro i h h' ⟨bd, us, F, hB, hb, hW, hU, hul⟩ S
    exact ⟨bd, us, F.soft S, hB.soft S, hb, hW.soft S, hU.imp fun _ _ z => z.soft S, hul⟩
  · rintro i v h₅ t₅ R9 hi hv X₅ ⟨bd, us, ⟨u, F⟩, hB, hb, hW, hU, hul⟩ hLT9
    subst hm
    obtain ⟨p, hp, hvp⟩ := hvs.get hv
    have hvp := IsEx.ofSeq (hvp.ext X₅)
    have X := X.frm2 X₅ (.inr hdn)
    have ht := ht.ext X₅
    have hni : vs.length - i = (vs.length - 1 - i) + 1 := by omega
    have hni2 : vs.length - (i + 1) = vs.length - 1 - i := by omega
    repeat' (walk_at "mm")
    intro h₆ t₆ F Y₆
    have X := X.frm Y₆
    have F := fr_again F
    have hB := hB.ext Y₆ (nin1 hb.2.2)
    have hW := hW.ext Y₆ (nin1 (ne_gt hLd))
    have hU := hU.imp fun _ _ z => z.ext Y₆ hP1
    have hvp := hvp.ext Y₆
    have ht := ht.ext Y₆
    repeat' (walk_at "mm")
    refine disp F (by simp) ?_
    intro h₇ tp htp hLt F hT Y₇
    have X := X.nil Y₇
    have hB := hB.ext Y₇ nin0
    have hW := hW.ext Y₇ nin0
    have hU := hU.imp fun _ _ z => z.ext Y₇ (fun _ q => nomatch q)
    have hvp := hvp.ext Y₇
    have ht := ht.ext Y₇
    repeat' (walk_at "mm")
    refine ls_append hW (by omega) ?_
    intro h₈ hW Y₈
    have X := X.trans Y₈ (fun a m => .inr (by rw [List.mem_singleton.mp m]; exact hdn))
    have F := fr_ext F Y₈ (nin1 (ne_lt hLd))
    have hB := hB.ext Y₈ (nin1 hb.2.1)
    have hU := hU.imp fun _ _ z => z.ext Y₈ hP2
    have hvp := hvp.ext Y₈
    have ht := ht.ext Y₈
    have hT := hT.ext Y₈
    have hU := hU.snoc (v := .ref tp) (p := (.seq p, ka)) ⟨tp, _, bd, rfl, hT, hvp, hB, hb⟩
    rw [hni] at hU
    have hPT : ((ws.drop (vs.length - 1 - i + 1)).map fun ps => ((Ex.seq ps, ka) : Ex × List Str)).reverse ++ [(.seq p, ka)] = ((ws.drop (vs.length - 1 - i)).map fun ps => ((Ex.seq ps, ka) : Ex × List Str)).reverse := by
      obtain ⟨h1, e1⟩ := List.getElem?_eq_some_iff.mp hp
      rw [List.drop_eq_getElem_cons h1, e1, List.map_cons, List.reverse_cons]
    rw [hPT] at hU
    repeat' (walk_at "mm")
    refine for_next hLT9 ?_ ⟨bd, _, .of F, hB, hb, hW, by rw [hni2]; exact hU, by simp [hul]⟩
    exact ((Y₆.more (by simp)).step (Y₇.more (by simp))).step (Y₈.more (by simp))
  · rintro h₅ t₅ X₅ ⟨bd, us, ⟨u, F⟩, hB, hb, hW, hU, hul⟩
    subst hm
    have X := X.frm2 X₅ (.inr hdn)
    rw [Nat.sub_self, List.drop_zero] at hU
    repeat' (walk_at "mm")
    refine ls_reverse hW (by omega) ?_
    intro h₆ hW Y₆
    have X := X.trans Y₆ (fun a m => .inr (by rw [List.mem_singleton.mp m]; exact hdn))
    have F := fr_ext F Y₆ (nin1 (ne_lt hLd))
    have hU := hU.imp fun _ _ z => z.ext Y₆ hP2
    repeat' (walk_at "mm")
    refine hQ _ _ _ _ X hdn hW ?_
    have hU := hU.rev
    rw [List.reverse_reverse] at hU
    exact hU.imp fun _ _ z => z.imp fun _ q => ⟨q.1, q.2.1⟩
end
-- part M10
section
variable {w : World} {A : Around} {k : Nat} {base h : Heap} {g : Array GenState} {dr : Drawn} {t : Nat} {os : OsState}
theorem exok_pc {ns : List Str} {p : Pc} (x : PcOK ns p) : ExOK ns (.pc p) := x
theorem exok_seq {ns : List Str} {ps : List Pc} (x : ps.length ≤ 3 ∧ ∀ p ∈ ps, PcOK ns p) : ExOK ns (.seq ps) := x
noncomputable def AftOK (w : World) (base h : Heap) (Dw : List Addr) (da : Addr) : Prop := da ∈ Dw ∨ (da ∉ Dw ∧ ∃ ka, Ks w base h da ka ∧ ∀ y ∈ ka, y ∈ T4)
theorem AftOK.ext {h h' : Heap} {W Dw : List Addr} {da : Addr} (x : AftOK w base h Dw da) (X : Ext base W h h') (hW : ∀ a ∈ W, a ≠ da ∨ a ∈ Dw) : AftOK w base h' Dw da := by
  rcases x with x | ⟨x, ka, hk, h4⟩
  · exact .inl x
  · exact .inr ⟨x, ka, hk.ext X (fun m => (hW _ m).elim (fun q => q rfl) x), h4⟩
theorem AftOK.soft {h h' : Heap} {Dw : List Addr} {da : Addr} (x : AftOK w base h Dw da) (X : Soft base h h') : AftOK w base h' Dw da := by
  rcases x with x | ⟨x, ka, hk, h4⟩
  · exact .inl x
  · exact .inr ⟨x, ka, hk.soft X, h4⟩
theorem AftOK.keys {h : Heap} {dw : Addr} {ns : List Str} {Dw : List Addr} {WS : List (List Str)} {da : Addr} (x : AftOK w base h Dw da) (f : Fam w base h dw ns Dw WS) (hs : SubT T4 WS) : ∃ ka, Ks w base h da ka ∧ ∀ y ∈ ka, y ∈ T4 := by
  rcases x with x | ⟨x, ka, hk, h4⟩
  · obtain ⟨j, hj⟩ := List.getElem?_of_mem x
    obtain ⟨ks, hks, hk⟩ := f.each.get hj
    exact ⟨ks, hk, hs ks (List.mem_of_getElem? hks)⟩
  · exact ⟨ka, hk, h4⟩
noncomputable def PartW (w : World) (base h : Heap) (Dw : List Addr) (L : Addr) (v : Value) (e : Ex) : Prop :=
  ∃ tp iv db, v = .ref tp ∧ Tp h tp [iv, .ref db] ∧ IsEx h iv e ∧ AftOK w base h Dw db ∧ db ≠ L
theorem IsEx.soft' {h h' : Heap} {v : Value} {e : Ex} (x : IsEx h v e) (X : Soft base h h') : IsEx h' v e := x.soft X
theorem PartW.soft {h h' : Heap} {Dw : List Addr} {L : Addr} {v : Value} {e : Ex} (x : PartW w base h Dw L v e) (X : Soft base h h') : PartW w base h' Dw L v e :=
  let ⟨tp, iv, db, q, h1, h2, h3, h4⟩ := x; ⟨tp, iv, db, q, h1.soft X, h2.soft X, h3.soft X, h4⟩
theorem PartW.ext {h h' : Heap} {Dw W : List Addr} {L : Addr} {v : Value} {e : Ex} (x : PartW w base h Dw L v e) (X : Ext base W h h') (hW : (∀ a ∈ W, a ∈ Dw) ∨ ∀ a ∈ W, a = L) : PartW w base h' Dw L v e :=
  let ⟨tp, iv, db, q, h1, h2, h3, h4⟩ := x; ⟨tp, iv, db, q, h1.ext X, h2.ext X, h3.ext X (fun a m => by
    rcases hW with hW | hW
    · exact .inr (hW a m)
    · rw [hW a m]; exact .inl (fun e => h4 e.symm)), h4⟩
/-- a frame with two names of a loop and a flag -/
noncomputable def FrZ (base : Heap) (L : Addr) (h : Heap) (m : Str → Option Value) (x y z : Str) (v : Value) : Prop := ∃ u u', Fr base L h (fun n => if n = x then u else if n = y then u' else if n = z then some v else m n)
theorem FrZ.init {L : Addr} {m : Str → Option Value} {x y z : Str} {v : Value} (F : Fr base L h (fun n => if n = z then some v else m n)) : FrZ base L h m x y z v :=
  have F1 : Fr base L h (fun n => if n = y then (if y = z then some v else m y) else if n = z then some v else m n) := fr_init F
  ⟨_, _, fr_init F1⟩
theorem FrZ.soft {L : Addr} {h' : Heap} {m : Str → Option Value} {x y z : Str} {v : Value} (F : FrZ base L h m x y z v) (S : Soft base h h') : FrZ base L h' m x y z v := let ⟨u, u', F⟩ := F; ⟨u, u', fr_soft F S⟩
theorem FrZ.of {L : Addr} {m : Str → Option Value} {x y z : Str} {v : Value} {u u' : Option Value} (F : Fr base L h (fun n => if n = x then u else if n = y then u' else if n = z then some v else m n)) : FrZ base L h m x y z v := ⟨u, u', F⟩
theorem FrZ.step {L : Addr} {m : Str → Option Value} {x y z : Str} {v : Value} {a b u u' : Option Value} (F : Fr base L h (fun n => if n = x then a else if n = y then b else if n = x then u else if n = y then u' else if n = z then some v else m n)) (hxy : x ≠ y) : Fr base L h (fun n => if n = x then a else if n = y then b else if n = z then some v else m n) := by
  refine fr_cast F fun n => ?_
  by_cases h1 : n = x
  · simp [h1]
  · by_cases h2 : n = y
    · simp [h2, Ne.symm hxy]
    · simp [h1, h2]
theorem FrZ.flag {L : Addr} {m : Str → Option Value} {x y z : Str} {v v' : Value} {u u' : Option Value} (F : Fr base L h (fun n => if n = z then some v' else if n = x then u else if n = y then u' else if n = z then some v else m n)) (h1 : z ≠ x) (h2 : z ≠ y) : FrZ base L h m x y z v' := by
  refine ⟨u, u', fr_cast F fun n => ?_⟩
  by_cases hn : n = z
  · subst hn; simp [h1, h2]
  · simp [hn]
theorem partSeq_len {S : Str → Bool} {Fs : Str → List Str} {ka : List Str} : ∀ (ps : List Pc), (partSeq S Fs ka ps).length = ps.length
  | [] => rfl
  | p :: ps => by simp [partSeq, partSeq_len ps]
theorem partSeq_at {S : Str → Bool} {Fs : Str → List Str} {ns : List Str} {ka : List Str} (hF : ∀ x, ∀ y ∈ Fs x, y ∈ T3) (hk : ∀ y ∈ ka, y ∈ T4) {q : Ex × List Str} {e : Ex} : ∀ {ps : List Pc} {i : Nat}, (∀ p ∈ ps, PcOK ns p) → (partSeq S Fs ka ps)[i]? = some q → (ps.map Ex.pc)[i]? = some e → q.1 = e ∧ ∀ y ∈ q.2, y ∈ T4
  | [], i, _, h1, _ => by simp [partSeq] at h1
  | p :: ps, 0, hp, h1, h2 => by
    simp [partSeq] at h1 h2
    subst h1; subst h2
    exact ⟨rfl, folSeq_sub4 (ns := ns) hF hk ps fun q hq => hp q (.tail _ hq)⟩
  | p :: ps, i + 1, hp, h1, h2 => partSeq_at (ns := ns) (ps := ps) (i := i) hF hk (fun q hq => hp q (.tail _ hq)) (by simpa [partSeq] using h1) (by simpa using h2)
theorem partAlt_at {ka : List Str} (hk : ∀ y ∈ ka, y ∈ T4) {q : Ex × List Str} {e : Ex} {ws : List (List Pc)} {i : Nat} (h1 : (ws.map fun ps => ((Ex.seq ps, ka) : Ex × List Str))[i]? = some q) (h2 : (ws.map Ex.seq)[i]? = some e) : q.1 = e ∧ ∀ y ∈ q.2, y ∈ T4 := by
  rw [List.getElem?_map] at h1 h2
  cases e1 : ws[i]? with
  | none => rw [e1] at h1; cases h1
  | some ps => rw [e1] at h1 h2; cases h1; cases h2; exact ⟨rfl, hk⟩
theorem af_nm (C : Bs w base) {x : Addr} {R : Rules} {dw : Addr} {Dw : List Addr} {WS : List (List Str)} {da : Addr} {z : Str} {v : Value} {Q : Value → Shared → Prop} (hA : Ok A 4) (hO : On base h) (hR : WF R) (f : Fam w base h dw (R.map (·.1)) Dw WS) (hs : SubT T4 WS) (ha : AftOK w base h Dw da)
    (hn : IsNm h (Str.ofString "name") v z) (hz : z ∈ R.map (·.1)) (hQ : ∀ h' t' b WS', Ext base Dw h h' → Fam w base h' dw (R.map (·.1)) Dw WS' → SubT T4 WS' → total WS ≤ total WS' → (b = true → total WS < total WS') → Q (.bool b) ⟨h', g, dr, t', os⟩) :
    wpAny (model pw w) A (call (.ref (C.f 11)) [.ref x, v, .ref da, .ref dw]) Q NoE ⟨h, g, dr, t, os⟩ := by
  refine call_fn hA (C.fn 11 (by decide)).1 C.nolim hO (binds := [(Str.ofString "grammar", .ref x), (Str.ofString "e", v), (Str.ofString "after", .ref da), (Str.ofString "follows", .ref dw)]) (fun _ _ _ => rfl) rfl rfl ⟨rfl, rfl, rfl⟩ ?_
  intro R0 cd h₁ t₁ A₁ hFin hA₁ F X
  have hD : dn 11 = dn 11 := rfl
  conv at hD => rhs; whnf
  rw [hD]
  dsimp only
  clear hD
  obtain ⟨a, t1, t2, rfl, ht⟩ := hn.ext X
  have hh := hA₁.hh
  repeat' (walk_at "mm")
  intro h₂ t₂ F Y
  have X := X.frm Y
  have ht := ht.ext Y
  have f2 := f.ext X nin0 (fun _ _ => nin0)
  have ha2 := ha.ext X (fun _ q => nomatch q)
  obtain ⟨j, dz, hj, hja, hva, haD, hKa⟩ := f2.get hR.nodup hz
  have hfd := f2.dict
  obtain ⟨ka, hka, hk4⟩ := ha2.keys f2 hs
  have hFz : ∀ y ∈ fsAt (R.map (·.1)) WS z, y ∈ T4 := hs.at z
  have hl1 : (fsAt (R.map (·.1)) WS z).length ≤ 4 := nodup_len (tt_nodup hKa.nodup) hFz
  have hl2 : ka.length ≤ 4 := nodup_len (tt_nodup hka.nodup) hk4
  have hin : (keysIn ((R.map (·.1)).zip (Dw.map Value.ref))) z = true := by
    rw [show keysIn ((R.map (·.1)).zip (Dw.map Value.ref)) z = (valueAt ((R.map (·.1)).zip (Dw.map Value.ref)) z).isSome from rfl, hva]; rfl
  repeat' (walk_at "mm")
  rw [hva]
  refine ite_t ?_
  repeat' (walk_at "mm")
  by_cases hne : dz = da
  · subst hne
    refine merge_self C (hA₁.less (by decide)) (on_of F) hKa (by omega) ?_
    intro h₃ t₃ Y₃ hK3
    repeat' (walk_at "mm")
    have X3 : Ext base Dw h h₃ := (X.more (fun _ q => nomatch q)).step (Y₃.more fun c m => by rw [List.mem_singleton.mp m]; exact haD)
    have f3 := f2.setAt hja Y₃ hK3
    have hFj : WS[j]? = some (fsAt (R.map (·.1)) WS z) := by
      have hlt : j < WS.length := by rw [f.fsLen]; exact (List.getElem?_eq_some_iff.mp hj).1
      have e : WS[j]? = some WS[j] := by simp [hlt]
      rw [fsAt_get hR.nodup hj e]; exact e
    have hts := total_set (ks' := fsAt (R.map (·.1)) WS z) hFj
    exact hQ _ _ _ _ X3 f3 (hs.set hFz) (by omega) (fun e => nomatch e)
  · refine merge_apart C (hA₁.less (by decide)) (on_of F) hKa hka hne (by omega) ?_
    intro h₃ t₃ Y₃ hK3
    repeat' (walk_at "mm")
    have X3 : Ext base Dw h h₃ := (X.more (fun _ q => nomatch q)).step (Y₃.more fun c m => by rw [List.mem_singleton.mp m]; exact haD)
    have f3 := f2.setAt hja Y₃ hK3
    have hFj : WS[j]? = some (fsAt (R.map (·.1)) WS z) := by
      have hlt : j < WS.length := by rw [f.fsLen]; exact (List.getElem?_eq_some_iff.mp hj).1
      have e : WS[j]? = some WS[j] := by simp [hlt]
      rw [fsAt_get hR.nodup hj e]; exact e
    have hts := total_set (ks' := mergeK (fsAt (R.map (·.1)) WS z) ka) hFj
    have hml := (mergeK_len ka (fsAt (R.map (·.1)) WS z)).1
    refine hQ _ _ _ _ X3 f3 (hs.set fun y hy => ?_) (by omega) (fun e => by have := of_decide_eq_true e; omega)
    rcases (mergeK_mem _ _ _).mp hy with q | q
    · exact hFz y q
    · exact hk4 y q
theorem af_pc (C : Bs w base) {x : Addr} {ga : GA} {fl : List (Str × Value)} {R : Rules} {E : List Str} {Ds : List Addr} {FS : List (List Str)} {dw : Addr} {Dw : List Addr} {WS : List (List Str)} {da : Addr} {h₀ : Heap} {p : Pc} {v : Value} {Q : Value → Shared → Prop} (hA : Ok A 9) (hO : On base h) (hR : WF R) (f : Fam w base h dw (R.map (·.1)) Dw WS) (hs : SubT T4 WS) (ha : AftOK w base h Dw da) (G : Gr C h₀ x ga fl R E Ds FS) (X0 : Ext base [] h₀ h) (hD0 : ∀ a ∈ Dw, h₀.get? a = none)
    (hp : IsEx h v (.pc p)) (hx : PcOK (R.map (·.1)) p) (hQ : ∀ h' t' b WS', Ext base Dw h h' → Fam w base h' dw (R.map (·.1)) Dw WS' → SubT T4 WS' → total WS ≤ total WS' → (b = true → total WS < total WS') → Q (.bool b) ⟨h', g, dr, t', os⟩) :
    wpAny (model pw w) A (call (.ref (C.f 11)) [.ref x, v, .ref da, .ref dw]) Q NoE ⟨h, g, dr, t, os⟩ := by
  cases p with
  | name z => exact af_nm C (hA.less (by decide)) hO hR f hs ha hp hx.1 hQ
  | text z =>
    refine call_fn hA (C.fn 11 (by decide)).1 C.nolim hO (binds := [(Str.ofString "grammar", .ref x), (Str.ofString "e", v), (Str.ofString "after", .ref da), (Str.ofString "follows", .ref dw)]) (fun _ _ _ => rfl) rfl rfl ⟨rfl, rfl, rfl⟩ ?_
    intro R0 cd h₁ t₁ A₁ hFin hA₁ F X
    have hD : dn 11 = dn 11 := rfl
    conv at hD => rhs; whnf
    rw [hD]
    dsimp only
    clear hD
    obtain ⟨a, t1, t2, rfl, ht⟩ := hp.ext X
    have hh := hA₁.hh
    repeat' (walk_at "mm")
    intro h₂ t₂ F Y
    have X := X.frm Y
    have ht := ht.ext Y
    repeat' (walk_at "mm")
    exact hQ _ _ _ WS (X.more (fun _ q => nomatch q)) (f.ext X nin0 (fun _ _ => nin0)) hs (Nat.le_refl _) (fun e => nomatch e)
  | opt z =>
    refine call_fn hA (C.fn 11 (by decide)).1 C.nolim hO (binds := [(Str.ofString "grammar", .ref x), (Str.ofString "e", v), (Str.ofString "after", .ref da), (Str.ofString "follows", .ref dw)]) (fun _ _ _ => rfl) rfl rfl ⟨rfl, rfl, rfl⟩ ?_
    intro R0 cd h₁ t₁ A₁ hFin hA₁ F X
    have hD : dn 11 = dn 11 := rfl
    conv at hD => rhs; whnf
    rw [hD]
    dsimp only
    clear hD
    obtain ⟨a, t1, v', rfl, ht, hn⟩ := hp.ext X
    have hh := hA₁.hh
    repeat' (walk_at "mm")
    intro h₂ t₂ F Y
    have X := X.frm Y
    have ht := ht.ext Y
    repeat' (walk_at "mm")
    refine af_nm C (hA₁.less (by decide)) (on_of F) hR (f.ext X nin0 (fun _ _ => nin0)) hs (ha.ext X (fun _ q => nomatch q)) (hn.ext Y) hx.1 ?_
    intro h₃ t₃ b WS' Y₃ f hs h1 h2
    repeat' (walk_at "mm")
    exact hQ _ _ _ WS' ((X.more (fun _ q => nomatch q)).step Y₃) f hs h1 h2
  | rep z =>
    refine call_fn hA (C.fn 11 (by decide)).1 C.nolim hO (binds := [(Str.ofString "grammar", .ref x), (Str.ofString "e", v), (Str.ofString "after", .ref da), (Str.ofString "follows", .ref dw)]) (fun _ _ _ => rfl) rfl rfl ⟨rfl, rfl, rfl⟩ ?_
    intro R0 cd h₁ t₁ A₁ hFin hA₁ F X
    have hD : dn 11 = dn 11 := rfl
    conv at hD => rhs; whnf
    rw [hD]
    dsimp only
    clear hD
    obtain ⟨a, t1, v', rfl, ht, hn⟩ := hp.ext X
    have hh := hA₁.hh
    repeat' (walk_at "mm")
    intro h₂ t₂ F Y
    have X := X.frm Y
    have ht := ht.ext Y
    repeat' (walk_at "mm")
    have G2 := G.ext (X0.nil X)
    have I := G2.inst
    have m3 := G2.m3
    obtain ⟨ka, hka, hk4⟩ := ha.keys f hs
    have hka2 := hka.ext X nin0
    have hl2 : ka.length ≤ 4 := nodup_len (tt_nodup hka.nodup) hk4
    have f2 := f.ext X nin0 (fun _ _ => nin0)
    repeat' (walk_at "mm")
    refine predict_spec C (hA₁.less (by decide)) (on_of F) G2 (e := .pc (.rep z)) ⟨a, t1, v', rfl, ht, hn.ext Y⟩ (exok_pc hx) hka2 (by omega) ?_
    intro h₃ t₃ d Y₃ hdn hK
    have F := fr_ext F Y₃ nin0
    have f3 := f2.ext Y₃ nin0 (fun _ _ => nin0)
    repeat' (walk_at "mm")
    refine af_nm C (hA₁.less (by decide)) (on_of F) hR f3 hs (.inr ⟨fun m => f2.live d m hdn, _, hK, predEx_sub4 G.at (ns := R.map (·.1)) (e := .pc (.rep z)) (exok_pc hx) hk4⟩) ((hn.ext Y).ext Y₃) hx.1 ?_
    intro h₄ t₄ b WS' Y₄ f hs h1 h2
    repeat' (walk_at "mm")
    exact hQ _ _ _ WS' (((X.nil Y₃).more (fun _ q => nomatch q)).step Y₄) f hs h1 h2
theorem af_seq (C : Bs w base) {x : Addr} {ga : GA} {fl : List (Str × Value)} {R : Rules} {E : List Str} {Ds : List Addr} {FS : List (List Str)} {dw : Addr} {Dw : List Addr} {WS : List (List Str)} {da : Addr} {h₀ : Heap} {ps : List Pc} {v : Value} {Q : Value → Shared → Prop} (hA : Ok A 10) (hO : On base h) (hR : WF R) (f : Fam w base h dw (R.map (·.1)) Dw WS) (hs : SubT T4 WS) (ha : AftOK w base h Dw da) (G : Gr C h₀ x ga fl R E Ds FS) (X0 : Ext base [] h₀ h) (hD0 : ∀ a ∈ Dw, h₀.get? a = none)
    (hp : IsEx h v (.seq ps)) (hx : ExOK (R.map (·.1)) (.seq ps)) (hQ : ∀ h' t' b WS', Ext base Dw h h' → Fam w base h' dw (R.map (·.1)) Dw WS' → SubT T4 WS' → total WS ≤ total WS' → (b = true → total WS < total WS') → Q (.bool b) ⟨h', g, dr, t', os⟩) :
    wpAny (model pw w) A (call (.ref (C.f 11)) [.ref x, v, .ref da, .ref dw]) Q NoE ⟨h, g, dr, t, os⟩ := by
  refine call_fn hA (C.fn 11 (by decide)).1 C.nolim hO (binds := [(Str.ofString "grammar", .ref x), (Str.ofString "e", v), (Str.ofString "after", .ref da), (Str.ofString "follows", .ref dw)]) (fun _ _ _ => rfl) rfl rfl ⟨rfl, rfl, rfl⟩ ?_
  intro R0 cd h₁ t₁ A₁ hFin hA₁ F X
  have hD : dn 11 = dn 11 := rfl
  conv at hD => rhs; whnf
  rw [hD]
  dsimp only
  clear hD
  obtain ⟨a, t1, b, vs, rfl, ht, htb, hvs⟩ := hp.ext X
  have hh := hA₁.hh
  have f1 := f.ext X nin0 (fun _ _ => nin0)
  have hDl := f.lts
  have hLD : h.objs.size ∉ Dw := fun m => Nat.lt_irrefl _ (hDl _ m)
  have hdwl : dw < h.objs.size := f.dict.lt
  have ha1 := ha.ext X (fun _ q => nomatch q)
  repeat' (walk_at "mm")
  intro h₂ t₂ F Y
  have X := X.frm Y
  have ht := ht.ext Y
  have hvs := hvs.imp fun _ _ z => z.ext Y
  have htb := htb.ext Y
  repeat' (walk_at "mm")
  intro h₃ t₃ F Y
  have X := X.frm Y
  have ht := ht.ext Y
  have hvs := hvs.imp fun _ _ z => z.ext Y
  have htb := htb.ext Y
  have f3 := f.ext X nin0 (fun _ _ => nin0)
  have ⟨m0, hm, F⟩ := fr_name1 F
  repeat' (walk_at "mm")
  refine for_list (base := base) hA₁.hh ?_ (by intro _; rfl) (.inr ⟨_, _, _, rfl⟩)
  have F' := F
  rw [hm] at F'
  repeat' (walk_at "mm")
  have G3 := G.ext (X0.nil X)
  obtain ⟨ka, hka, hk4⟩ := ha.keys f hs
  have hka3 := hka.ext X nin0
  refine parts_seq C (hA₁.less (by decide)) (on_of F') G3 ⟨a, t1, b, vs, rfl, ht, htb, hvs⟩ hx hka3 hk4 ?_
  intro h₄ t₄ d us Y hdn hU hP
  have X4 := X.nil Y
  have F4 := fr_ext F Y nin0
  have hdL : d ≠ h.objs.size := by
    rintro rfl
    obtain ⟨o, es, ep, e1, _⟩ := F.ns
    rw [hdn] at e1; cases e1
  have hdD : d ∉ Dw := fun m => f3.live d m hdn
  have hPW : All2 (PartW w base h₄ Dw h.objs.size) us (ps.map Ex.pc) := by
    refine ⟨by rw [hP.1]; simp [partEx, partSeq_len], fun i v e e1 e2 => ?_⟩
    obtain ⟨q, hq, tp, iv, db, rfl, hT, hI, hK, hb, hbd⟩ := hP.get e1
    have hq2 : q.1 = e ∧ ∀ y ∈ q.2, y ∈ T4 := partSeq_at (ns := R.map (·.1)) G.at hk4 hx.2 hq e2
    rw [hq2.1] at hI
    refine ⟨tp, iv, db, rfl, hT, hI, ?_, ?_⟩
    · by_cases hm : db ∈ Dw
      · exact .inl hm
      · exact .inr ⟨hm, q.2, hK, hq2.2⟩
    · rcases hb with rfl | hb
      · exact ne_lt hka.lt
      · rintro rfl
        obtain ⟨o, es, ep, e1, _⟩ := F.ns
        rw [hb] at e1; cases e1
  have hl3 : us.length ≤ 3 := by rw [hPW.1, List.length_map]; exact hx.1
  refine ⟨d, us, h₄, t₄, rfl, rfl, hU, on_of F4, h.objs.size :: Dw, fun i h' => ∃ b WS', FrZ base h.objs.size h' m0 (Str.ofString "behind") (Str.ofString "item") (Str.ofString "grown") (.bool b) ∧ Fam w base h' dw (R.map (·.1)) Dw WS' ∧ SubT T4 WS' ∧
    total WS ≤ total WS' ∧ (b = true → total WS < total WS') ∧ All2 (PartW w base h' Dw h.objs.size) us (ps.map Ex.pc), ?_, ?_, ⟨false, WS, .init F4, f.ext X4 nin0 (fun _ _ => nin0), hs, Nat.le_refl _, (fun e => nomatch e), hPW⟩, ?_, ?_, ?_⟩
  · exact not_cons hdL hdD
  · exact mem_cons2 F4.ns.lt (f.ext X4 nin0 (fun _ _ => nin0)).lts
  · rintro i h h' ⟨b, WS', F, f, hs, h1, h2, hP⟩ S
    exact ⟨b, WS', F.soft S, f.soft S, hs, h1, h2, hP.imp fun _ _ z => z.soft S⟩
  · rintro i v h₅ t₅ R9 hi hv X₅ ⟨b, WS', ⟨u1, u2, F⟩, f, hs, h1, h2, hPW⟩ hLT9
    subst hm
    obtain ⟨e, he, hpw⟩ := hPW.get hv
    obtain ⟨tp, iv, db, rfl, hT, hI, hA5, hbL⟩ := id hpw
    repeat' (walk_at "mm")
    intro h₆ t₆ F Y₆
    have F := FrZ.step F (by decide)
    have f := f.ext Y₆ (nin1 (ne_lt hdwl)) (fun a ha => nin1 (ne_lt (hDl a ha)))
    have hI := hI.ext Y₆
    have hA6 := hA5.ext Y₆ (fun c m => by rw [List.mem_singleton.mp m]; exact .inl (Ne.symm hbL))
    have hPW := hPW.imp fun _ _ z => z.ext Y₆ (.inr fun c m => List.mem_singleton.mp m)
    have X6 : Ext base [] h₀ h₆ := (X0.nil X4).trans (X₅.step (Y₆.more sub_cons)) (mem_cons2 (P := fun a => a ∈ ([] : List Addr) ∨ h₀.get? a = none) (.inr (X0.gone (get?_size h))) fun a ha => .inr (hD0 a ha))
    obtain ⟨z, hz, rfl⟩ := List.mem_map.mp (List.mem_of_getElem? he)
    repeat' (walk_at "mm")
    refine af_pc C (hA₁.less (by decide)) (on_of F) hR f hs hA6 G X6 hD0 hI (hx.2 z hz) ?_
    intro h₇ t₇ b' WS'' Y₇ f hs h3 h4
    have F := fr_ext F Y₇ hLD
    have hPW := hPW.imp fun _ _ z => z.ext Y₇ (.inl fun c m => m)
    repeat' (walk_at "mm")
    cases b' with
    | false =>
      repeat' (walk_at "mm")
      refine for_next hLT9 ((Y₆.more sub_cons).step (Y₇.more (fun a m => .tail _ m))) ⟨b, WS'', .of F, f, hs, by omega, fun e => by have := h2 e; omega, hPW⟩
    | true =>
      have h4 := h4 rfl
      repeat' (walk_at "mm")
      intro h₈ t₈ F Y₈
      have F := FrZ.flag F (by decide) (by decide)
      have f := f.ext Y₈ (nin1 (ne_lt hdwl)) (fun a ha => nin1 (ne_lt (hDl a ha)))
      have hPW := hPW.imp fun _ _ z => z.ext Y₈ (.inr fun c m => List.mem_singleton.mp m)
      repeat' (walk_at "mm")
      refine for_next hLT9 (((Y₆.more sub_cons).step (Y₇.more (fun a m => .tail _ m))).step (Y₈.more sub_cons)) ⟨true, WS'', F, f, hs, by omega, fun _ => by omega, hPW⟩
  · rintro h₅ t₅ X₅ ⟨b, WS', ⟨u1, u2, F⟩, f, hs, h1, h2, hPW⟩
    subst hm
    repeat' (walk_at "mm")
    refine hQ _ _ _ WS' ?_ f hs h1 h2
    exact (X4.more (fun _ q => nomatch q)).trans X₅ (mem_cons2 (P := fun a => a ∈ Dw ∨ h.get? a = none) (.inr (get?_size h)) fun a ha => .inl ha)
theorem af_alt (C : Bs w base) {x : Addr} {ga : GA} {fl : List (Str × Value)} {R : Rules} {E : List Str} {Ds : List Addr} {FS : List (List Str)} {dw : Addr} {Dw : List Addr} {WS : List (List Str)} {da : Addr} {h₀ : Heap} {ws : List (List Pc)} {v : Value} {Q : Value → Shared → Prop} (hA : Ok A 11) (hO : On base h) (hR : WF R) (f : Fam w base h dw (R.map (·.1)) Dw WS) (hs : SubT T4 WS) (ha : AftOK w base h Dw da) (G : Gr C h₀ x ga fl R E Ds FS) (X0 : Ext base [] h₀ h) (hD0 : ∀ a ∈ Dw, h₀.get? a = none)
    (hp : IsEx h v (.alt ws)) (hx : ExOK (R.map (·.1)) (.alt ws)) (hQ : ∀ h' t' b WS', Ext base Dw h h' → Fam w base h' dw (R.map (·.1)) Dw WS' → SubT T4 WS' → total WS ≤ total WS' → (b = true → total WS < total WS') → Q (.bool b) ⟨h', g, dr, t', os⟩) :
    wpAny (model pw w) A (call (.ref (C.f 11)) [.ref x, v, .ref da, .ref dw]) Q NoE ⟨h, g, dr, t, os⟩ := by
  refine call_fn hA (C.fn 11 (by decide)).1 C.nolim hO (binds := [(Str.ofString "grammar", .ref x), (Str.ofString "e", v), (Str.ofString "after", .ref da), (Str.ofString "follows", .ref dw)]) (fun _ _ _ => rfl) rfl rfl ⟨rfl, rfl, rfl⟩ ?_
  intro R0 cd h₁ t₁ A₁ hFin hA₁ F X
  have hD : dn 11 = dn 11 := rfl
  conv at hD => rhs; whnf
  rw [hD]
  dsimp only
  clear hD
  obtain ⟨a, t1, b, vs, rfl, ht, htb, hvs⟩ := hp.ext X
  have hh := hA₁.hh
  have f1 := f.ext X nin0 (fun _ _ => nin0)
  have hDl := f.lts
  have hLD : h.objs.size ∉ Dw := fun m => Nat.lt_irrefl _ (hDl _ m)
  have hdwl : dw < h.objs.size := f.dict.lt
  have ha1 := ha.ext X (fun _ q => nomatch q)
  repeat' (walk_at "mm")
  intro h₂ t₂ F Y
  have X := X.frm Y
  have ht := ht.ext Y
  have hvs := hvs.imp fun _ _ z => z.ext Y
  have htb := htb.ext Y
  repeat' (walk_at "mm")
  intro h₃ t₃ F Y
  have X := X.frm Y
  have ht := ht.ext Y
  have hvs := hvs.imp fun _ _ z => z.ext Y
  have htb := htb.ext Y
  have f3 := f.ext X nin0 (fun _ _ => nin0)
  have ⟨m0, hm, F⟩ := fr_name1 F
  repeat' (walk_at "mm")
  refine for_list (base := base) hA₁.hh ?_ (by intro _; rfl) (.inr ⟨_, _, _, rfl⟩)
  have F' := F
  rw [hm] at F'
  repeat' (walk_at "mm")
  have G3 := G.ext (X0.nil X)
  obtain ⟨ka, hka, hk4⟩ := ha.keys f hs
  have hka3 := hka.ext X nin0
  refine parts_alt C (hA₁.less (by decide)) (on_of F') G3 ⟨a, t1, b, vs, rfl, ht, htb, hvs⟩ hx hka3 hk4 ?_
  intro h₄ t₄ d us Y hdn hU hP
  have X4 := X.nil Y
  have F4 := fr_ext F Y nin0
  have hdL : d ≠ h.objs.size := by
    rintro rfl
    obtain ⟨o, es, ep, e1, _⟩ := F.ns
    rw [hdn] at e1; cases e1
  have hdD : d ∉ Dw := fun m => f3.live d m hdn
  have hPW : All2 (PartW w base h₄ Dw h.objs.size) us (ws.map Ex.seq) := by
    refine ⟨by rw [hP.1]; simp [partEx], fun i v e e1 e2 => ?_⟩
    obtain ⟨q, hq, tp, iv, db, rfl, hT, hI, hK, hb, hbd⟩ := hP.get e1
    have hq2 : q.1 = e ∧ ∀ y ∈ q.2, y ∈ T4 := partAlt_at hk4 hq e2
    rw [hq2.1] at hI
    refine ⟨tp, iv, db, rfl, hT, hI, ?_, ?_⟩
    · by_cases hm : db ∈ Dw
      · exact .inl hm
      · exact .inr ⟨hm, q.2, hK, hq2.2⟩
    · rcases hb with rfl | hb
      · exact ne_lt hka.lt
      · rintro rfl
        obtain ⟨o, es, ep, e1, _⟩ := F.ns
        rw [hb] at e1; cases e1
  have hl3 : us.length ≤ 3 := by rw [hPW.1, List.length_map]; exact hx.1
  refine ⟨d, us, h₄, t₄, rfl, rfl, hU, on_of F4, h.objs.size :: Dw, fun i h' => ∃ b WS', FrZ base h.objs.size h' m0 (Str.ofString "behind") (Str.ofString "item") (Str.ofString "grown") (.bool b) ∧ Fam w base h' dw (R.map (·.1)) Dw WS' ∧ SubT T4 WS' ∧
    total WS ≤ total WS' ∧ (b = true → total WS < total WS') ∧ All2 (PartW w base h' Dw h.objs.size) us (ws.map Ex.seq), ?_, ?_, ⟨false, WS, .init F4, f.ext X4 nin0 (fun _ _ => nin0), hs, Nat.le_refl _, (fun e => nomatch e), hPW⟩, ?_, ?_, ?_⟩
  · exact not_cons hdL hdD
  · exact mem_cons2 F4.ns.lt (f.ext X4 nin0 (fun _ _ => nin0)).lts
  · rintro i h h' ⟨b, WS', F, f, hs, h1, h2, hP⟩ S
    exact ⟨b, WS', F.soft S, f.soft S, hs, h1, h2, hP.imp fun _ _ z => z.soft S⟩
  · rintro i v h₅ t₅ R9 hi hv X₅ ⟨b, WS', ⟨u1, u2, F⟩, f, hs, h1, h2, hPW⟩ hLT9
    subst hm
    obtain ⟨e, he, hpw⟩ := hPW.get hv
    obtain ⟨tp, iv, db, rfl, hT, hI, hA5, hbL⟩ := id hpw
    repeat' (walk_at "mm")
    intro h₆ t₆ F Y₆
    have F := FrZ.step F (by decide)
    have f := f.ext Y₆ (nin1 (ne_lt hdwl)) (fun a ha => nin1 (ne_lt (hDl a ha)))
    have hI := hI.ext Y₆
    have hA6 := hA5.ext Y₆ (fun c m => by rw [List.mem_singleton.mp m]; exact .inl (Ne.symm hbL))
    have hPW := hPW.imp fun _ _ z => z.ext Y₆ (.inr fun c m => List.mem_singleton.mp m)
    have X6 : Ext base [] h₀ h₆ := (X0.nil X4).trans (X₅.step (Y₆.more sub_cons)) (mem_cons2 (P := fun a => a ∈ ([] : List Addr) ∨ h₀.get? a = none) (.inr (X0.gone (get?_size h))) fun a ha => .inr (hD0 a ha))
    obtain ⟨z, hz, rfl⟩ := List.mem_map.mp (List.mem_of_getElem? he)
    repeat' (walk_at "mm")
    refine af_seq C (hA₁.less (by decide)) (on_of F) hR f hs hA6 G X6 hD0 hI (hx.2 z hz) ?_
    intro h₇ t₇ b' WS'' Y₇ f hs h3 h4
    have F := fr_ext F Y₇ hLD
    have hPW := hPW.imp fun _ _ z => z.ext Y₇ (.inl fun c m => m)
    repeat' (walk_at "mm")
    cases b' with
    | false =>
      repeat' (walk_at "mm")
      refine for_next hLT9 ((Y₆.more sub_cons).step (Y₇.more (fun a m => .tail _ m))) ⟨b, WS'', .of F, f, hs, by omega, fun e => by have := h2 e; omega, hPW⟩
    | true =>
      have h4 := h4 rfl
      repeat' (walk_at "mm")
      intro h₈ t₈ F Y₈
      have F := FrZ.flag F (by decide) (by decide)
      have f := f.ext Y₈ (nin1 (ne_lt hdwl)) (fun a ha => nin1 (ne_lt (hDl a ha)))
      have hPW := hPW.imp fun _ _ z => z.ext Y₈ (.inr fun c m => List.mem_singleton.mp m)
      repeat' (walk_at "mm")
      refine for_next hLT9 (((Y₆.more sub_cons).step (Y₇.more (fun a m => .tail _ m))).step (Y₈.more sub_cons)) ⟨true, WS'', F, f, hs, by omega, fun _ => by omega, hPW⟩
  · rintro h₅ t₅ X₅ ⟨b, WS', ⟨u1, u2, F⟩, f, hs, h1, h2, hPW⟩
    subst hm
    repeat' (walk_at "mm")
    refine hQ _ _ _ WS' ?_ f hs h1 h2
    exact (X4.more (fun _ q => nomatch q)).trans X₅ (mem_cons2 (P := fun a => a ∈ Dw ∨ h.get? a = none) (.inr (get?_size h)) fun a ha => .inl ha)
end
-- part M11
section
variable {w : World} {A : Around} {k : Nat} {base h : Heap} {g : Array GenState} {dr : Drawn} {t : Nat} {os : OsState}
theorem fr_live {L : Addr} {m : Str → Option Value} (F : Fr base L h m) : h.get? L ≠ none := by obtain ⟨o, _, _, e, _⟩ := F.ns; rw [e]; simp
theorem shared_spec (C : Bs w base) {d1 d2 : Addr} {k1 k2 : List Str} {Q : Value → Shared → Prop} (hA : Ok A 1) (hO : On base h) (h1 : Ks w base h d1 k1) (h2 : Ks w base h d2 k2) (h64 : k1.length < 64)
    (hQ : ∀ h' t' d, Ext base [] h h' → h.get? d = none → Sl base h' d (srt (k1.filter fun x => decide (x ∈ k2))) → Q (.ref d) ⟨h', g, dr, t', os⟩) :
    wpAny (model pw w) A (call (.ref (C.f 13)) [.ref d1, .ref d2]) Q NoE ⟨h, g, dr, t, os⟩ := by
  refine call_fnC hA (C.fn 13 (by decide)).1 C.nolim hO (binds := [(Str.ofString "first", .ref d1), (Str.ofString "second", .ref d2)]) (mL := fun y => if y = Str.ofString "first" then some (.ref d1) else none) (mC := fun y => if y = Str.ofString "second" then some (.ref d2) else none) (fun _ _ _ => rfl) (fun _ => rfl) ⟨rfl, rfl, rfl⟩ (fun _ _ => rfl) (fun _ _ => rfl) ?_
  intro R0 cd h₁ t₁ A₁ hFin hA₁ F Z X
  have Z1 := Z.cell (Str.ofString "second") (h.objs.size + 1) rfl
  have hD : dn 13 = dn 13 := rfl
  conv at hD => rhs; whnf
  rw [hD]
  dsimp only
  clear hD
  have hh := hA₁.hh
  simp only [if_true] at Z1
  repeat' (walk_at "mm")
  refine comp_eval (cl := [(Str.ofString "second", h.objs.size + 1)]) (by with_unfolding_all rfl) rfl rfl rfl rfl (by intro _; rfl) ?_
  repeat' (walk_at "mm")
  have hd1 := h1.ext X nin0
  have hd2 := h2.ext X nin0
  have hl1 := tt_len k1
  refine ⟨base, g, dr, os, h₁, t₁, _, _, [], rfl, on_of F, it_dict hh hd1 nin0 (fun _ q => nomatch q) (by omega), ?_⟩
  intro Cc D hCD hC0 hD0 hCs hDs
  have hL1 : h.objs.size ∉ [Cc, D] := fun m => fr_live F (by
    rcases List.mem_cons.mp m with q | m
    · rw [q]; exact hC0
    · rw [List.mem_singleton.mp m]; exact hD0)
  have hc1 : h.objs.size + 1 ∉ [Cc, D] := fun m => ce_live Z1 (by
    rcases List.mem_cons.mp m with q | m
    · rw [q]; exact hC0
    · rw [List.mem_singleton.mp m]; exact hD0)
  have hd2' : d2 ∉ [Cc, D] := fun m => hd2.live (by
    rcases List.mem_cons.mp m with q | m
    · rw [q]; exact hC0
    · rw [List.mem_singleton.mp m]; exact hD0)
  have ⟨m0, hm, F⟩ := fr_name F
  refine ⟨fun i us h' => Fr base h.objs.size h' m0 ∧ h'.IsCell (h.objs.size + 1) (some (.ref d2)) ∧ Ks w base h' d2 k2 ∧ StrsAre us ((k1.take i).filter fun x => decide (x ∈ k2)),
    ⟨(fun _ q => nomatch q), ⟨F, Z1, hd2, .nil⟩, ?_, ?_, ?_⟩, ?_⟩
  · rintro i us h h' ⟨a, b, c, e⟩ S
    exact ⟨fr_soft a S, ce_soft b S, c.soft S, e⟩
  · rintro i us h h' ⟨a, b, c, e⟩ Y
    exact ⟨fr_ext a Y hL1, ce_ext b Y hc1, c.ext Y hd2', e⟩
  · rintro i us v h₂ t₂ m hi hu ⟨x, y, u, hx, rfl⟩ X₂ ⟨F0, Z1, hd2, hus⟩ FC hDl
    have hx := (tt_get hx).1
    have hdd : Dc w base h₂ d2 (tt k2) := hd2
    have hin := isSome_tt k2 x
    refine wpAny_tests_one ?_
    repeat' (walk_at "mm")
    rw [hin]
    have hts : k1.take (i + 1) = k1.take i ++ [x] := by rw [List.take_add_one, hx]; rfl
    by_cases hk : x ∈ k2
    · rw [decide_eq_true hk]
      refine ite_t ?_
      repeat' (walk_at "mm")
      refine comp_next (.refl _ _ _) ⟨F0, Z1, hd2, ?_⟩
      rw [hts, List.filter_append]
      simpa [hk] using strsAre_snoc hus
    · rw [decide_eq_false hk]
      refine ite_f ?_
      refine comp_next (.refl _ _ _) ⟨F0, Z1, hd2, ?_⟩
      rw [hts, List.filter_append]
      simpa [hk] using hus
  · rintro us h₂ h₃ t₂ hu ⟨F0, _, _, hus⟩ hkb X₃ hL hbC _
    have F3 := fr_kb F0 hkb (fun m => hL1 (by rw [List.mem_singleton.mp m]; exact .head _)) (fun b m => by rw [List.mem_singleton.mp m]; exact hbC)
    repeat' (walk_at "mm")
    rw [hl1, List.take_length] at hus
    have hlen := List.length_filter_le (fun x => decide (x ∈ k2)) k1
    refine sl_sorted (on_of F3) ⟨us, hL, hus⟩ (by omega) ?_
    intro h₄ t₄ d Y hdn hS
    repeat' (walk_at "mm")
    exact hQ _ _ _ ((X.nil X₃).nil Y) ((X.nil X₃).gone hdn) hS
end
-- part L19
section
variable {w : World} {A : Around} {base h h' : Heap} {g : Array GenState} {dr : Drawn} {t : Nat} {os : OsState} {E : Value → Shared → Prop} {L : Addr} {m : Str → Option Value} {W N : List Addr} {l : Addr}
theorem rng {n : Nat} {u : Tok} {Q : Value → Shared → Prop} (F : Fr base L h m)
    (hQ : ∀ h' t' r u v₁ v₂, IsRange h' r 0 (n : Nat) 1 u v₁ v₂ → Fr base L h' m → Ext base [] h h' → Q (.ref r) ⟨h', g, dr, t', os⟩) : wpAny (model pw w) A (call (.type "range") [.int n u]) Q E ⟨h, g, dr, t, os⟩ :=
  range1_rows (s := ⟨h, g, dr, t, os⟩) F (News.nil) fun h' tk t₁ u₁ v₁ hr F' _ k => hQ h' tk _ _ _ _ hr F' (.of_keeps k)
/-! a list of what was found -/
noncomputable abbrev Cf := Str × Str × List Str
noncomputable def CfOk (B h : Heap) (M : List Addr) (v : Value) (c : Cf) : Prop := ∃ tp t1 t2 bl, v = .ref tp ∧ Tp h tp [.str c.1 t1, .str c.2.1 t2, .ref bl] ∧ Sl B h bl c.2.2 ∧ bl ∉ M
theorem CfOk.ext {M : List Addr} {v : Value} {c : Cf} (x : CfOk base h M v c) (X : Ext base W h h') (hW : ∀ a ∈ W, a ∈ M) : CfOk base h' M v c :=
  let ⟨tp, t1, t2, bl, e, h1, h2, h3⟩ := x
  ⟨tp, t1, t2, bl, e, h1.ext X, h2.ext X (fun q => h3 (hW _ q)), h3⟩
theorem CfOk.soft {M : List Addr} {v : Value} {c : Cf} (x : CfOk base h M v c) (X : Soft base h h') : CfOk base h' M v c :=
  let ⟨tp, t1, t2, bl, e, h1, h2, h3⟩ := x
  ⟨tp, t1, t2, bl, e, h1.soft X, h2.soft X, h3⟩
noncomputable def Fd (B h : Heap) (l : Addr) (N : List Addr) (ds : List Cf) : Prop := ∃ vs, Ls B h l vs ∧ All2 (CfOk B h (l :: N)) vs ds
theorem Fd.ext {ds : List Cf} (x : Fd base h l N ds) (X : Ext base W h h') (hW : ∀ a ∈ W, a ∈ N) (hl : l ∉ W) : Fd base h' l N ds :=
  let ⟨vs, h1, h2⟩ := x
  ⟨vs, h1.ext X hl, h2.imp fun _ _ z => z.ext X fun a m => .tail _ (hW a m)⟩
theorem Fd.soft {ds : List Cf} (x : Fd base h l N ds) (X : Soft base h h') : Fd base h' l N ds :=
  let ⟨vs, h1, h2⟩ := x
  ⟨vs, h1.soft X, h2.imp fun _ _ z => z.soft X⟩
theorem Fd.lt {ds : List Cf} (x : Fd base h l N ds) : l < h.objs.size := let ⟨_, h1, _⟩ := x; h1.lt
theorem Fd.live {ds : List Cf} (x : Fd base h l N ds) : h.get? l ≠ none := let ⟨_, h1, _⟩ := x; h1.live
theorem Fd.more {ds : List Cf} (x : Fd base h l N ds) (hL : h.get? L = none) : Fd base h l (L :: N) ds := by
  obtain ⟨vs, h1, h2⟩ := x
  refine ⟨vs, h1, h2.imp fun v c z => ?_⟩
  obtain ⟨tp, t1, t2, bl, e, h1, h2, h3⟩ := z
  refine ⟨tp, t1, t2, bl, e, h1, h2, fun m => ?_⟩
  rcases List.mem_cons.mp m with q | m
  · exact h3 (q ▸ .head _)
  · rcases List.mem_cons.mp m with q | m
    · exact h2.live (q ▸ hL)
    · exact h3 (.tail _ m)
theorem Fd.less {ds : List Cf} (x : Fd base h l (L :: N) ds) : Fd base h l N ds := by
  obtain ⟨vs, h1, h2⟩ := x
  refine ⟨vs, h1, h2.imp fun v c z => ?_⟩
  obtain ⟨tp, t1, t2, bl, e, h1, h2, h3⟩ := z
  refine ⟨tp, t1, t2, bl, e, h1, h2, fun m => h3 ?_⟩
  rcases List.mem_cons.mp m with q | m
  · exact q ▸ .head _
  · exact .tail _ (.tail _ m)
theorem fd_append {ds : List Cf} {v : Value} {c : Cf} {Q : Value → Shared → Prop} (x : Fd base h l N ds) (hc : CfOk base h (l :: N) v c) (hz : ds.length ≤ 10000)
    (hQ : ∀ h', Fd base h' l N (ds ++ [c]) → Ext base [l] h h' → Q .none ⟨h', g, dr, t, os⟩) : wpAny (model pw w) A (call (.builtin "list.append") ([.ref l] ++ [v])) Q E ⟨h, g, dr, t, os⟩ := by
  obtain ⟨vs, h1, h2⟩ := x
  have hl : vs.length = ds.length := h2.1
  refine ls_append h1 (by omega) fun h' h3 Y => hQ h' ⟨_, h3, ?_⟩ Y
  have sub : ∀ a ∈ [l], a ∈ l :: N := fun a m => by rw [List.mem_singleton.mp m]; exact .head _
  exact (h2.imp fun _ _ z => z.ext Y sub).snoc (hc.ext Y sub)
theorem Fd.get {ds : List Cf} (x : Fd base h l N ds) : ∃ vs, Ls base h l vs := let ⟨vs, h1, _⟩ := x; ⟨vs, h1⟩
/-- dicts in a list -/
noncomputable def RowOk (w : World) (B h : Heap) (N : List Addr) (v : Value) (ks : List Str) : Prop := ∃ d, v = .ref d ∧ Ks w B h d ks ∧ d ∉ N
theorem RowOk.ext {v : Value} {ks : List Str} (x : RowOk w base h N v ks) (X : Ext base W h h') (hW : ∀ a ∈ W, a ∈ N) : RowOk w base h' N v ks := let ⟨d, e, h1, h2⟩ := x; ⟨d, e, h1.ext X (fun m => h2 (hW _ m)), h2⟩
theorem RowOk.soft {v : Value} {ks : List Str} (x : RowOk w base h N v ks) (X : Soft base h h') : RowOk w base h' N v ks := let ⟨d, e, h1, h2⟩ := x; ⟨d, e, h1.soft X, h2⟩
theorem RowOk.kb {v : Value} {ks : List Str} {ls : List Addr} (x : RowOk w base h N v ks) (X : KB ls h h') (hW : ∀ a ∈ ls, a ∈ N) : RowOk w base h' N v ks := let ⟨d, e, h1, h2⟩ := x; ⟨d, e, h1.kb X (fun m => h2 (hW _ m)), h2⟩
theorem RowOk.sub {v : Value} {ks : List Str} {M : List Addr} (x : RowOk w base h N v ks) (hW : ∀ a ∈ M, a ∈ N) : RowOk w base h M v ks := let ⟨d, e, h1, h2⟩ := x; ⟨d, e, h1, fun m => h2 (hW _ m)⟩
end
/-! what conflicts are found -/
noncomputable def shr (a b : List Str) : List Str := srt (a.filter fun x => decide (x ∈ b))
theorem srt_len_le {ss ss' : List Str} (e : ss' = srt ss) : ss'.length ≤ ss.length := by
  subst e
  unfold srt
  split
  · rename_i hex; rw [hex.choose_spec.1.length_eq]; exact Nat.le_refl _
  · exact Nat.zero_le _
theorem shr_len (a b : List Str) : (shr a b).length ≤ a.length := Nat.le_trans (srt_len_le rfl) (List.length_filter_le _ _)
noncomputable def conf1 (nm kind : Str) (b : List Str) : List Cf := if 0 < b.length then [(nm, kind, b)] else []
noncomputable def altIn (nm : Str) (rows : List (List Str)) (hi n : Nat) : List Cf := (List.range n).flatMap fun lo => conf1 nm (Str.ofString "alternatives") (shr (rows.getD lo []) (rows.getD hi []))
noncomputable def altC (nm : Str) (rows : List (List Str)) (n : Nat) : List Cf := (List.range n).flatMap fun hi => altIn nm rows hi hi
theorem conf1_len (nm kind : Str) (b : List Str) : (conf1 nm kind b).length ≤ 1 := by unfold conf1; split <;> simp
theorem flat_len {α β : Type} {f : α → List β} {m : Nat} : ∀ (l : List α), (∀ x ∈ l, (f x).length ≤ m) → (l.flatMap f).length ≤ l.length * m
  | [], _ => by simp
  | x :: l, h => by
    have h1 := h x (.head _)
    have h2 := flat_len l fun y hy => h y (.tail _ hy)
    rw [List.flatMap_cons, List.length_append, List.length_cons, Nat.add_mul]; omega
theorem altIn_len (nm : Str) (rows : List (List Str)) (hi n : Nat) : (altIn nm rows hi n).length ≤ n := by
  have := flat_len (f := fun lo => conf1 nm (Str.ofString "alternatives") (shr (rows.getD lo []) (rows.getD hi []))) (m := 1) (List.range n) fun _ _ => conf1_len _ _ _
  simpa [altIn] using this
theorem altC_len (nm : Str) (rows : List (List Str)) (n : Nat) : (altC nm rows n).length ≤ n * n := by
  have := flat_len (f := fun hi => altIn nm rows hi hi) (m := n) (List.range n) fun x hx => Nat.le_trans (altIn_len _ _ _ _) (Nat.le_of_lt (List.mem_range.mp hx))
  simpa [altC] using this
theorem altIn_succ (nm : Str) (rows : List (List Str)) (hi n : Nat) : altIn nm rows hi (n + 1) = altIn nm rows hi n ++ conf1 nm (Str.ofString "alternatives") (shr (rows.getD n []) (rows.getD hi [])) := by
  unfold altIn; rw [List.range_succ, List.flatMap_append]; simp
theorem altC_succ (nm : Str) (rows : List (List Str)) (n : Nat) : altC nm rows (n + 1) = altC nm rows n ++ altIn nm rows n n := by
  unfold altC; rw [List.range_succ, List.flatMap_append]; simp
-- part M12
section
variable {w : World} {A : Around} {k : Nat} {base h : Heap} {g : Array GenState} {dr : Drawn} {t : Nat} {os : OsState}
/-- a frame with three names that may stand -/
noncomputable def Fr3 (base : Heap) (L : Addr) (h : Heap) (m : Str → Option Value) (x y z : Str) : Prop := ∃ u u' o, Fr base L h (fun n => if n = x then u else if n = y then u' else if n = z then o else m n)
theorem Fr3.init {L : Addr} {m : Str → Option Value} {x y z : Str} (F : Fr base L h m) : Fr3 base L h m x y z :=
  have F1 : Fr base L h (fun n => if n = z then m z else m n) := fr_init F
  let ⟨u, v, F2⟩ := FrW.init (x := x) (z := y) F1
  ⟨u, v, _, F2⟩
theorem Fr3.soft {L : Addr} {h' : Heap} {m : Str → Option Value} {x y z : Str} (F : Fr3 base L h m x y z) (S : Soft base h h') : Fr3 base L h' m x y z := let ⟨u, u', o, F⟩ := F; ⟨u, u', o, fr_soft F S⟩
theorem Fr3.ext {L : Addr} {h' : Heap} {m : Str → Option Value} {x y z : Str} {W : List Addr} (F : Fr3 base L h m x y z) (X : Ext base W h h') (hL : L ∉ W) : Fr3 base L h' m x y z := let ⟨u, u', o, F⟩ := F; ⟨u, u', o, fr_ext F X hL⟩
theorem Fr3.of {L : Addr} {m : Str → Option Value} {x y z : Str} {o : Option Value} (F : FrW base L h (fun n => if n = z then o else m n) x y) : Fr3 base L h m x y z := let ⟨u, u', F⟩ := F; ⟨u, u', _, F⟩
theorem Fr3.set {L : Addr} {m : Str → Option Value} {x y z : Str} {u u' o : Option Value} {v : Value} (F : Fr base L h (fun n => if n = z then some v else if n = x then u else if n = y then u' else if n = z then o else m n)) (h1 : z ≠ x) (h2 : z ≠ y) : FrW base L h (fun n => if n = z then some v else m n) x y := by
  refine ⟨u, u', fr_cast F fun n => ?_⟩
  by_cases hn : n = z
  · subst hn; simp [h1, h2]
  · simp [hn]
theorem int_gt0 {n : Nat} : decide ((0 : Int) < (n : Int)) = decide (0 < n) := by
  by_cases h : 0 < n
  · rw [decide_eq_true h, decide_eq_true (by omega)]
  · rw [decide_eq_false h, decide_eq_false (by omega)]
theorem frw_name {L : Addr} {m : Str → Option Value} {x z : Str} (F : FrW base L h m x z) : ∃ m0, m0 = m ∧ FrW base L h m0 x z := ⟨m, rfl, F⟩
theorem sub_two {a b : Addr} : ∀ c ∈ [a], c ∈ [a, b] := fun c q => by rw [List.mem_singleton.mp q]; exact .head _
theorem sub_two' {a b : Addr} : ∀ c ∈ [b], c ∈ [a, b] := fun c q => by rw [List.mem_singleton.mp q]; exact .tail _ (.head _)
theorem sub_hd {a : Addr} {l : List Addr} : ∀ c ∈ [a], c ∈ a :: l := fun c q => by rw [List.mem_singleton.mp q]; exact .head _
theorem add_alts (C : Bs w base) {x : Addr} {ga : GA} {fl : List (Str × Value)} {R : Rules} {E : List Str} {Ds : List Addr} {FS : List (List Str)} {ws : List (List Pc)} {v : Value} {nm : Str} {u : Tok} {da l : Addr} {ka : List Str} {N : List Addr} {ds : List Cf} {Q : Value → Shared → Prop} (hA : Ok A 9) (hO : On base h) (G : Gr C h x ga fl R E Ds FS)
    (hp : IsEx h v (.alt ws)) (hx : ExOK (R.map (·.1)) (.alt ws)) (hD : Ks w base h da ka) (hk : ∀ y ∈ ka, y ∈ T4) (hN : ∀ a ∈ N, h.get? a ≠ none) (hF : Fd base h l N ds) (hz : ds.length ≤ 1000)
    (hQ : ∀ h' t', Ext base [l] h h' → Fd base h' l N (ds ++ altC nm (ws.map fun ps => predEx (inE E) (fsAt (R.map (·.1)) FS) (.seq ps) ka) ws.length) → Q .none ⟨h', g, dr, t', os⟩) :
    wpAny (model pw w) A (call (.ref (C.f 16)) [.ref x, .str nm u, v, .ref da, .ref l]) Q NoE ⟨h, g, dr, t, os⟩ := by
  refine call_fnC hA (C.fn 16 (by decide)).1 C.nolim hO (binds := [(Str.ofString "grammar", .ref x), (Str.ofString "name", .str nm u), (Str.ofString "e", v), (Str.ofString "after", .ref da), (Str.ofString "found", .ref l)]) (mL := fun y => if y = Str.ofString "found" then some (.ref l) else (if y = Str.ofString "e" then some (v) else (if y = Str.ofString "name" then some (.str nm u) else none))) (mC := fun y => if y = Str.ofString "after" then some (.ref da) else (if y = Str.ofString "grammar" then some (.ref x) else none)) (fun _ _ _ => rfl) (fun _ => rfl) ⟨rfl, rfl, rfl⟩ (fun _ _ => rfl) (fun _ _ => rfl) ?_
  intro R0 cd h₁ t₁ A₁ hFin hA₁ F Z X
  have Z1 := Z.cell (Str.ofString "grammar") (h.objs.size + 1) rfl
  have Z2 := Z.cell (Str.ofString "after") (h.objs.size + 2) rfl
  have hD : dn 16 = dn 16 := rfl
  conv at hD => rhs; whnf
  rw [hD]
  dsimp only
  clear hD
  have hh := hA₁.hh
  have Z1 : h₁.IsCell (h.objs.size + 1) (some (.ref x)) := Z1
  have Z2 : h₁.IsCell (h.objs.size + 2) (some (.ref da)) := Z2
  obtain ⟨a, t1, b, vs, rfl, ht, htb, hvs⟩ := hp.ext X
  have G1 := G.ext X
  have hD1 := hD.ext X nin0
  have hl2 : ka.length ≤ 4 := nodup_len (tt_nodup hD.nodup) hk
  have hl3 : vs.length ≤ 3 := by rw [hvs.1]; exact hx.1
  obtain ⟨S, hS⟩ : ∃ S, S = inE E := ⟨_, rfl⟩
  obtain ⟨Fs, hFs⟩ : ∃ Fs, Fs = fsAt (R.map (·.1)) FS := ⟨_, rfl⟩
  rw [← hS, ← hFs] at hQ
  refine wpAny_execs_cons ?_
  have ⟨m0, hm, F⟩ := fr_name F
  refine comp_asgn (by with_unfolding_all rfl) (by with_unfolding_all rfl) rfl rfl rfl rfl (by k_dflt rfl) (by k_dflt rfl) (by intro _; rfl) ?_
  have F' := F
  rw [hm] at F'
  repeat' (walk_at "mm")
  refine ⟨base, g, dr, os, h₁, _, _, _, [], m0, rfl, on_of F', it_tup hh htb (fun _ q => nomatch q) (by omega), F.ns.lt, ?_⟩
  intro Cc D hCD hC0 hD0 hCs hDs
  have hL1 : h.objs.size ∉ [Cc, D] := fun q => fr_live F (by
    rcases List.mem_cons.mp q with q | q
    · rw [q]; exact hC0
    · rw [List.mem_singleton.mp q]; exact hD0)
  have hc1 : h.objs.size + 1 ∉ [Cc, D] := fun q => ce_live Z1 (by
    rcases List.mem_cons.mp q with q | q
    · rw [q]; exact hC0
    · rw [List.mem_singleton.mp q]; exact hD0)
  have hc2 : h.objs.size + 2 ∉ [Cc, D] := fun q => ce_live Z2 (by
    rcases List.mem_cons.mp q with q | q
    · rw [q]; exact hC0
    · rw [List.mem_singleton.mp q]; exact hD0)
  have hll : h₁.get? l ≠ none := fun e => hF.live (X.gone e)
  have sub2 : ∀ a ∈ [Cc, D], a ∈ [Cc, D, h.objs.size, l] := fun a q => by
    rcases List.mem_cons.mp q with q | q
    · rw [q]; exact .head _
    · rw [List.mem_singleton.mp q]; exact .tail _ (.head _)
  refine ⟨fun i us h' => Fr base h.objs.size h' m0 ∧ h'.IsCell (h.objs.size + 1) (some (.ref x)) ∧ h'.IsCell (h.objs.size + 2) (some (.ref da)) ∧ All2 (RowOk w base h' [Cc, D, h.objs.size, l]) us ((ws.take i).map fun ps => predEx S Fs (.seq ps) ka),
    ⟨(fun _ q => nomatch q), ⟨F, Z1, Z2, All2.nil⟩, ?_, ?_, ?_⟩, (fun _ _ z => z.1), ?_⟩
  · rintro i us h h' ⟨a, b, c, e⟩ S
    exact ⟨fr_soft a S, ce_soft b S, ce_soft c S, e.imp fun _ _ z => z.soft S⟩
  · rintro i us h h' ⟨a, b, c, e⟩ Y
    exact ⟨fr_ext a Y hL1, ce_ext b Y hc1, ce_ext c Y hc2, e.imp fun _ _ z => z.ext Y sub2⟩
  · rintro i us v h₂ t₂ m hi hu hv X₂ ⟨F0, Z1, Z2, hr⟩ FC hDl
    obtain ⟨p, hp2, hvp⟩ := hvs.get hv
    have hvp := IsEx.ofSeq (hvp.ext X₂)
    have G2 := G1.ext X₂
    have I := G2.inst
    have m3 := G2.m3
    have hD2 := hD1.ext X₂ nin0
    refine wpAny_tests_nil ?_
    refine ite_t ?_
    repeat' (walk_at "mm")
    refine predict_spec C (hA₁.less (by decide)) (on_of F0) G2 hvp (exok_seq (hx.2 p (List.mem_of_getElem? hp2))) hD2 (by omega) ?_
    intro h₃ t₃ d Y hdn hK
    refine comp_next Y ⟨fr_ext F0 Y nin0, ce_ext Z1 Y nin0, ce_ext Z2 Y nin0, ?_⟩
    have hts : ws.take (i + 1) = ws.take i ++ [p] := by rw [List.take_add_one, hp2]; rfl
    rw [hts, List.map_append]
    rw [← hS, ← hFs] at hK
    refine (hr.imp fun _ _ z => z.ext Y (fun _ q => nomatch q)).snoc ⟨d, rfl, hK, fun q => ?_⟩
    rcases List.mem_cons.mp q with q | q
    · exact fr_live FC (q ▸ hdn)
    · rcases List.mem_cons.mp q with q | q
      · exact hDl (q ▸ hdn)
      · rcases List.mem_cons.mp q with q | q
        · exact fr_live F0 (q ▸ hdn)
        · rw [List.mem_singleton.mp q] at hdn; exact hll (X₂.gone hdn)
  · rintro us h₂ h₃ t₂ hu ⟨F0, _, _, hr⟩ hkb X₃ hL F3 hbC
    have sub3 : ∀ a ∈ [Cc, h.objs.size], a ∈ [Cc, D, h.objs.size, l] := fun a q => by
      rcases List.mem_cons.mp q with q | q
      · rw [q]; exact .head _
      · rw [List.mem_singleton.mp q]; exact .tail _ (.tail _ (.head _))
    have sub4 : ∀ a ∈ [h.objs.size, l], a ∈ [Cc, D, h.objs.size, l] := fun a q => .tail _ (.tail _ q)
    have hr := hr.imp fun _ _ z => (z.kb hkb sub3).sub sub4
    rw [hvs.1, List.take_length] at hr
    obtain ⟨RS, hRS⟩ : ∃ RS, RS = ws.map fun ps => predEx S Fs (.seq ps) ka := ⟨_, rfl⟩
    rw [← hRS] at hr hQ
    have hus : us.length = ws.length := by rw [hr.1, hRS, List.length_map]
    have hws : ws.length ≤ 3 := hx.1
    have hRl : RS.length = ws.length := by rw [hRS, List.length_map]
    have hks : ∀ ks ∈ RS, ks.length ≤ 4 := fun ks hks => by
      obtain ⟨j, hj⟩ := List.getElem?_of_mem hks
      have hlt : j < us.length := by rw [hr.1]; exact (List.getElem?_eq_some_iff.mp hj).1
      obtain ⟨d, _, hK, _⟩ := hr.2 j us[j] ks (by simp [hlt]) hj
      rw [hRS] at hks
      obtain ⟨ps, hps, rfl⟩ := List.mem_map.mp hks
      exact nodup_len (tt_nodup hK.nodup) (by rw [hS, hFs]; exact predEx_sub4 G.at (ns := R.map (·.1)) (e := .seq ps) (exok_seq (hx.2 ps hps)) hk)
    have X := X.frm (X₃.more (fun a q => q))
    have hF3 := (hF.ext X (fun _ q => nomatch q) nin0)
    have hLl : l ≠ h.objs.size := ne_lt hF.lt
    have hF3 : Fd base h₃ l (h.objs.size :: N) ds := by
      have := (hF.more (get?_size h)).ext X (fun _ q => nomatch q) nin0
      exact this
    have hDL : D ≠ h.objs.size := fun q => hL1 (q ▸ .tail _ (.head _))
    have hDl : D ≠ l := fun q => hll (q ▸ hD0)
    repeat' (walk_at "mm")
    subst hm
    have ⟨m1, hm, F3⟩ := fr_name F3
    refine for_range (base := base) hh ?_ (by intro _; rfl) (by intro _ _; rfl)
    have F' := F3
    rw [hm] at F'
    repeat' (walk_at "mm")
    refine ls_len hL (by omega) ?_
    intro u₁ t₃
    repeat' (walk_at "mm")
    refine rng F' ?_
    intro h₄ t₄ r u₂ v₁ v₂ hr1 F4 Y₄
    have F4 := fr_ext F3 Y₄ nin0
    have X₄ := X.nil Y₄
    refine ⟨r, us.length, _, _, _, h₄, _, rfl, rfl, hr1, by omega, on_of F4, [h.objs.size, l], fun i h' => Fr3 base h.objs.size h' m1 (Str.ofString "low") (Str.ofString "both") (Str.ofString "high") ∧ Fd base h' l (h.objs.size :: N) (ds ++ altC nm RS i) ∧ All2 (RowOk w base h' [h.objs.size, l]) us RS ∧ Ls base h' D us,
      ?_, ⟨.init F4, by simpa [altC] using hF3.ext Y₄ (fun _ q => nomatch q) nin0, hr.imp fun _ _ z => z.ext Y₄ (fun _ q => nomatch q), hL.ext Y₄ nin0⟩, ?_, ?_, ?_⟩
    · exact mem_cons2 F4.ns.lt (fun a q => by rw [List.mem_singleton.mp q]; exact (hF3.ext Y₄ (fun _ q => nomatch q) nin0).lt)
    · rintro i h h' ⟨F, f, hr, hL⟩ S
      exact ⟨F.soft S, f.soft S, hr.imp fun _ _ z => z.soft S, hL.soft S⟩
    · rintro i v h₅ t₅ R9 hi ⟨u, rfl⟩ X₅ ⟨⟨b1, b2, b3, F⟩, f, hr, hL⟩ hLT9
      subst hm
      repeat' (walk_at "mm")
      intro h₆ t₆ F Y₆
      have F := Fr3.set F (by decide) (by decide)
      have f := f.ext Y₆ sub_hd (nin1 hLl)
      have hr := hr.imp fun _ _ z => z.ext Y₆ sub_two
      have hL := hL.ext Y₆ (nin1 hDL)
      have ⟨m2, hm, F⟩ := frw_name F
      obtain ⟨b1, b2, F⟩ := F
      have hal := altC_len nm RS i
      have hal2 : i * i ≤ 9 := Nat.mul_le_mul (show i ≤ 3 by omega) (show i ≤ 3 by omega)
      repeat' (walk_at "mm")
      refine for_range (base := base) hh ?_ (by intro _; rfl) (by intro _ _; rfl)
      have F' := F
      rw [hm] at F'
      repeat' (walk_at "mm")
      refine rng F' ?_
      intro h₇ t₇ r u₂ v₁ v₂ hr2 F7 Y₇
      have F7 := fr_ext F Y₇ nin0
      have f := f.ext Y₇ (fun _ q => nomatch q) nin0
      refine ⟨r, i, _, _, _, h₇, _, rfl, rfl, hr2, by omega, on_of F7, [h.objs.size, l], fun j h' => FrW base h.objs.size h' m2 (Str.ofString "low") (Str.ofString "both") ∧ Fd base h' l (h.objs.size :: N) (ds ++ altC nm RS i ++ altIn nm RS i j) ∧ All2 (RowOk w base h' [h.objs.size, l]) us RS ∧ Ls base h' D us,
        ?_, ⟨.of F7, by simpa [altIn] using f, hr.imp fun _ _ z => z.ext Y₇ (fun _ q => nomatch q), hL.ext Y₇ nin0⟩, ?_, ?_, ?_⟩
      · exact mem_cons2 F7.ns.lt (fun a q => by rw [List.mem_singleton.mp q]; exact f.lt)
      · rintro i h h' ⟨F, f, hr, hL⟩ S
        exact ⟨F.soft S, f.soft S, hr.imp fun _ _ z => z.soft S, hL.soft S⟩
      · rintro j v h₈ t₈ R9 hj ⟨u, rfl⟩ X₈ ⟨⟨b1, b2, F⟩, f, hr, hL⟩ hLT9
        subst hm
        repeat' (walk_at "mm")
        intro h₉ t₉ F Y₉
        have F := fr_again F
        have f := f.ext Y₉ sub_hd (nin1 hLl)
        have hr := hr.imp fun _ _ z => z.ext Y₉ sub_two
        have hL := hL.ext Y₉ (nin1 hDL)
        have hj3 : j < us.length := by omega
        have e1 : us[j]? = some us[j] := by simp [hj3]
        have e2 : us[i]? = some us[i] := by simp [hi]
        obtain ⟨k1, hk1, d1, ed1, hK1, _⟩ := hr.get e1
        obtain ⟨k2, hk2, d2, ed2, hK2, _⟩ := hr.get e2
        rw [ed1] at e1
        rw [ed2] at e2
        have hg1 : RS.getD j [] = k1 := by rw [List.getD_eq_getElem?_getD, hk1]; rfl
        have hg2 : RS.getD i [] = k2 := by rw [List.getD_eq_getElem?_getD, hk2]; rfl
        have hk1l := hks k1 (List.mem_of_getElem? hk1)
        repeat' (walk_at "mm")
        refine ls_item hL e1 (by omega) ?_ (by with_unfolding_all rfl)
        repeat' (walk_at "mm")
        refine ls_item hL e2 (by omega) ?_ (by with_unfolding_all rfl)
        repeat' (walk_at "mm")
        refine shared_spec C (hA₁.less (by decide)) (on_of F) hK1 hK2 (by omega) ?_
        intro h₁₀ t₁₀ db Y₁₀ hdn hS2
        have X₉ : Ext base [h.objs.size, l] h h₉ := (((((X₄.more (fun _ q => nomatch q)).step X₅).step (Y₆.more sub_two)).step (Y₇.more (fun _ q => nomatch q))).step X₈).step (Y₉.more sub_two)
        have hb1 : db ≠ h.objs.size := fun q => fr_live F (q ▸ hdn)
        have hb2 : db ≠ l := fun q => f.live (q ▸ hdn)
        have F := fr_ext F Y₁₀ nin0
        have f := f.ext Y₁₀ (fun _ q => nomatch q) nin0
        have hr := hr.imp fun _ _ z => z.ext Y₁₀ (fun _ q => nomatch q)
        have hL := hL.ext Y₁₀ nin0
        have hbN : db ∉ l :: h.objs.size :: N := fun q => by
          rcases List.mem_cons.mp q with q | q
          · exact hb2 q
          · rcases List.mem_cons.mp q with q | q
            · exact hb1 q
            · exact hN db q (X₉.gone hdn)
        repeat' (walk_at "mm")
        intro h₁₁ t₁₁ F Y₁₁
        have F := fr_swap F (by decide)
        have f := f.ext Y₁₁ sub_hd (nin1 hLl)
        have hr := hr.imp fun _ _ z => z.ext Y₁₁ sub_two
        have hL := hL.ext Y₁₁ (nin1 hDL)
        have hS2 := hS2.ext Y₁₁ (nin1 hb1)
        obtain ⟨vb, hLb, hSb⟩ := id hS2
        have hlb := strsAre_len hSb
        have hl4 := Nat.le_trans (shr_len k1 k2) hk1l
        have hlb4 : vb.length ≤ 4 := by rw [hlb]; exact hl4
        have hY : Ext base [h.objs.size, l] h₈ h₁₁ := ((Y₉.more sub_two).step (Y₁₀.more (fun _ q => nomatch q))).step (Y₁₁.more sub_two)
        have hin := altIn_len nm RS i j
        repeat' (walk_at "mm")
        refine ls_len hLb (by omega) ?_
        intro u₃ t₁₂
        repeat' (walk_at "mm")
        rw [int_gt0]
        by_cases hpos : 0 < vb.length
        · rw [decide_eq_true hpos]
          have hc1 : conf1 nm (Str.ofString "alternatives") (shr (RS.getD j []) (RS.getD i [])) = [(nm, Str.ofString "alternatives", shr k1 k2)] := by
            unfold conf1; rw [hg1, hg2, if_pos]; rw [hlb] at hpos; exact hpos
          obtain ⟨vf, hLf⟩ := f.get
          refine ite_t ?_
          repeat' (walk_at "mm")
          refine disp F (by simp) ?_
          intro h₁₂ tp htp hLt F hT Y₁₂
          have f := f.ext Y₁₂ (fun _ q => nomatch q) nin0
          have hr := hr.imp fun _ _ z => z.ext Y₁₂ (fun _ q => nomatch q)
          have hL := hL.ext Y₁₂ nin0
          have hS2 := hS2.ext Y₁₂ nin0
          repeat' (walk_at "mm")
          refine fd_append f (c := (nm, Str.ofString "alternatives", shr k1 k2)) ⟨tp, _, _, db, rfl, hT, hS2, hbN⟩ (by simp only [List.length_append]; omega) ?_
          intro h₁₃ f Y₁₃
          have F := fr_ext F Y₁₃ (nin1 (Ne.symm hLl))
          have hr := hr.imp fun _ _ z => z.ext Y₁₃ sub_two'
          have hL := hL.ext Y₁₃ (nin1 hDl)
          repeat' (walk_at "mm")
          refine for_next hLT9 ((hY.step (Y₁₂.more (fun _ q => nomatch q))).step (Y₁₃.more sub_two')) ⟨.of F, ?_, hr, hL⟩
          rw [altIn_succ, hc1, ← List.append_assoc]; exact f
        · rw [decide_eq_false hpos]
          have hc1 : conf1 nm (Str.ofString "alternatives") (shr (RS.getD j []) (RS.getD i [])) = [] := by
            unfold conf1; rw [hg1, hg2, if_neg]; rw [hlb] at hpos; exact hpos
          refine ite_f ?_
          repeat' (walk_at "mm")
          refine for_next hLT9 hY ⟨.of F, ?_, hr, hL⟩
          rw [altIn_succ, hc1, List.append_nil]; exact f
      · rintro h₈ t₈ X₈ ⟨F, f, hr, hL⟩
        subst hm
        repeat' (walk_at "mm")
        refine for_next hLT9 (((Y₆.more sub_two).step (Y₇.more (fun _ q => nomatch q))).step X₈) ⟨.of F, ?_, hr, hL⟩
        rw [altC_succ, ← List.append_assoc]; exact f
    · rintro h₅ t₅ X₅ ⟨⟨b1, b2, b3, F⟩, f, hr, hL⟩
      repeat' (walk_at "mm")
      refine hQ _ _ ((X₄.more (fun _ q => nomatch q)).trans X₅ (mem_cons2 (P := fun a => a ∈ [l] ∨ h.get? a = none) (.inr (get?_size h)) fun a q => .inl q)) ?_
      rw [← hus]; exact f.less
end
-- part M13
section
variable {w : World} {A : Around} {k : Nat} {base h : Heap} {g : Array GenState} {dr : Drawn} {t : Nat} {os : OsState}
theorem off_frame {h h' : Heap} {a : Addr} {W : List Addr} (X : Ext base (a :: W) h h') (ha : h.get? a = none) : Ext base W h h' := fun b o e => by
  obtain ⟨o', e', r⟩ := X b o e
  refine ⟨o', e', fun c => r ?_⟩
  rcases c with c | c
  · refine .inl fun m => ?_
    rcases List.mem_cons.mp m with q | m
    · rw [q, ha] at e; cases e
    · exact c m
  · exact .inr c
theorem ks_ne_ls {d l : Addr} {ks : List Str} {vs : List Value} (x : Ks w base h d ks) (y : Ls base h l vs) : d ≠ l := by
  rintro rfl
  obtain ⟨_, _, o, es, ep, e, _, hd, _⟩ := x
  obtain ⟨_, n, e'⟩ := y
  rw [e] at e'; cases e'; cases hd
theorem ks_ne_fd {d l : Addr} {ks : List Str} {N : List Addr} {ds : List Cf} (x : Ks w base h d ks) (y : Fd base h l N ds) : d ≠ l := let ⟨_, y⟩ := y.get; ks_ne_ls x y
theorem execs_mid {env : Env} {st : Stmt} {rest : List Stmt} {Q : Flow → Shared → Prop} (MID : Heap → Prop)
    (h1 : ∀ R, (∀ h' t', MID h' → R .next ⟨h', g, dr, t', os⟩) → wpAny (model pw w) A (exec st env) R NoE ⟨h, g, dr, t, os⟩) (h2 : ∀ h' t', MID h' → wpAny (model pw w) A (execs rest env) Q NoE ⟨h', g, dr, t', os⟩) :
    wpAny (model pw w) A (execs (st :: rest) env) Q NoE ⟨h, g, dr, t, os⟩ :=
  wpAny_execs_cons (h1 _ fun h' t' m => h2 h' t' m)
noncomputable def emp (S : Str → Bool) (nm z : Str) : List Cf := if S z = true then [(nm, Str.ofString "empty", [])] else []
theorem emp_t {S : Str → Bool} {nm z : Str} (h : nulEx S (.pc (.name z)) = true) : emp S nm z = [(nm, Str.ofString "empty", [])] := if_pos h
theorem emp_f {S : Str → Bool} {nm z : Str} (h : nulEx S (.pc (.name z)) = false) : emp S nm z = [] := if_neg (by rw [show S z = nulEx S (.pc (.name z)) from rfl, h]; simp)
theorem emp_len (S : Str → Bool) (nm z : Str) : (emp S nm z).length ≤ 1 := by unfold emp; split <;> simp
noncomputable def confPc (S : Str → Bool) (Fs : Str → List Str) (nm : Str) : Pc → List Str → List Cf
  | .text _, _ => []
  | .name _, _ => []
  | .opt x, ka => emp S nm x ++ conf1 nm (Str.ofString "option") (shr (Fs x) ka)
  | .rep x, ka => emp S nm x ++ conf1 nm (Str.ofString "repetition") (shr (Fs x) ka)
theorem fc_nm (C : Bs w base) {x : Addr} {ga : GA} {fl : List (Str × Value)} {R : Rules} {E : List Str} {Ds : List Addr} {FS : List (List Str)} {z : Str} {v : Value} {nm : Str} {u : Tok} {da l : Addr} {ka : List Str} {N : List Addr} {ds : List Cf} {Q : Value → Shared → Prop} {h₀ : Heap} (hA : Ok A 8) (hO : On base h) (G : Gr C h₀ x ga fl R E Ds FS) (X0 : Ext base [] h₀ h) (hl0 : h₀.get? l = none)
    (hp : IsEx h v (.pc (.name z))) (hx : ExOK (R.map (·.1)) (.pc (.name z))) (hD : Ks w base h da ka) (hk : ∀ y ∈ ka, y ∈ T4) (hN : ∀ a ∈ N, h.get? a ≠ none) (hF : Fd base h l N ds) (hz : ds.length ≤ 3000)
    (hQ : ∀ h' t', Ext base [l] h h' → Fd base h' l N (ds ++ []) → Q .none ⟨h', g, dr, t', os⟩) :
    wpAny (model pw w) A (call (.ref (C.f 15)) [.ref x, .str nm u, v, .ref da, .ref l]) Q NoE ⟨h, g, dr, t, os⟩ := by
  refine call_fn hA (C.fn 15 (by decide)).1 C.nolim hO (binds := [(Str.ofString "grammar", .ref x), (Str.ofString "name", .str nm u), (Str.ofString "e", v), (Str.ofString "after", .ref da), (Str.ofString "found", .ref l)]) (fun _ _ _ => rfl) rfl rfl ⟨rfl, rfl, rfl⟩ ?_
  intro R0 cd h₁ t₁ A₁ hFin hA₁ F X
  have hD : dn 15 = dn 15 := rfl
  conv at hD => rhs; whnf
  rw [hD]
  dsimp only
  clear hD
  obtain ⟨a, t1, t2, rfl, ht⟩ := hp.ext X
  have hh := hA₁.hh
  repeat' (walk_at "mm")
  intro h₂ t₂ F Y
  have X := X.frm Y
  have ht := ht.ext Y
  repeat' (walk_at "mm")
  refine hQ _ _ (X.more (fun _ q => nomatch q)) ?_
  rw [List.append_nil]
  exact hF.ext X (fun _ q => nomatch q) nin0
theorem fc_pc (C : Bs w base) {x : Addr} {ga : GA} {fl : List (Str × Value)} {R : Rules} {E : List Str} {Ds : List Addr} {FS : List (List Str)} {p : Pc} {v : Value} {nm : Str} {u : Tok} {da l : Addr} {ka : List Str} {N : List Addr} {ds : List Cf} {Q : Value → Shared → Prop} {h₀ : Heap} (hA : Ok A 9) (hO : On base h) (G : Gr C h₀ x ga fl R E Ds FS) (X0 : Ext base [] h₀ h) (hl0 : h₀.get? l = none)
    (hp : IsEx h v (.pc p)) (hx : ExOK (R.map (·.1)) (.pc p)) (hD : Ks w base h da ka) (hk : ∀ y ∈ ka, y ∈ T4) (hN : ∀ a ∈ N, h.get? a ≠ none) (hF : Fd base h l N ds) (hz : ds.length ≤ 2000)
    (hQ : ∀ h' t', Ext base [l] h h' → Fd base h' l N (ds ++ confPc (inE E) (fsAt (R.map (·.1)) FS) nm p ka) → Q .none ⟨h', g, dr, t', os⟩) :
    wpAny (model pw w) A (call (.ref (C.f 15)) [.ref x, .str nm u, v, .ref da, .ref l]) Q NoE ⟨h, g, dr, t, os⟩ := by
  cases p with
  | name z => exact fc_nm C (hA.less (by decide)) hO G X0 hl0 hp hx hD hk hN hF (by omega) hQ
  | text z =>
    refine call_fn hA (C.fn 15 (by decide)).1 C.nolim hO (binds := [(Str.ofString "grammar", .ref x), (Str.ofString "name", .str nm u), (Str.ofString "e", v), (Str.ofString "after", .ref da), (Str.ofString "found", .ref l)]) (fun _ _ _ => rfl) rfl rfl ⟨rfl, rfl, rfl⟩ ?_
    intro R0 cd h₁ t₁ A₁ hFin hA₁ F X
    have hD : dn 15 = dn 15 := rfl
    conv at hD => rhs; whnf
    rw [hD]
    dsimp only
    clear hD
    obtain ⟨a, t1, t2, rfl, ht⟩ := hp.ext X
    have hh := hA₁.hh
    repeat' (walk_at "mm")
    intro h₂ t₂ F Y
    have X := X.frm Y
    have ht := ht.ext Y
    repeat' (walk_at "mm")
    refine hQ _ _ (X.more (fun _ q => nomatch q)) ?_
    simp only [confPc, List.append_nil]
    exact hF.ext X (fun _ q => nomatch q) nin0
  | opt z =>
    refine call_fn hA (C.fn 15 (by decide)).1 C.nolim hO (binds := [(Str.ofString "grammar", .ref x), (Str.ofString "name", .str nm u), (Str.ofString "e", v), (Str.ofString "after", .ref da), (Str.ofString "found", .ref l)]) (fun _ _ _ => rfl) rfl rfl ⟨rfl, rfl, rfl⟩ ?_
    intro R0 cd h₁ t₁ A₁ hFin hA₁ F X
    have hD : dn 15 = dn 15 := rfl
    conv at hD => rhs; whnf
    rw [hD]
    dsimp only
    clear hD
    obtain ⟨a, t1, v', rfl, ht, hn⟩ := hp.ext X
    have hh := hA₁.hh
    have hl2 : ka.length ≤ 4 := nodup_len (tt_nodup hD.nodup) hk
    have hLl : l ≠ h.objs.size := ne_lt hF.lt
    have hdl : da ≠ l := ks_ne_fd hD hF
    have hdL : da ≠ h.objs.size := ne_lt hD.lt
    obtain ⟨S, hS⟩ : ∃ S, S = inE E := ⟨_, rfl⟩
    obtain ⟨Fs, hFs⟩ : ∃ Fs, Fs = fsAt (R.map (·.1)) FS := ⟨_, rfl⟩
    rw [← hS, ← hFs] at hQ
    have hFs4 : (Fs z).length ≤ 4 := by rw [hFs]; exact Nat.le_trans (fsAt_len (n := 3) (fun ks hk => G.fir.small G.sub ks hk) z) (by decide)
    repeat' (walk_at "mm")
    intro h₂ t₂ F Y
    have X := X.frm Y
    have ht := ht.ext Y
    have hn := hn.ext Y
    repeat' (walk_at "mm")
    intro h₃ t₃ F Y
    have X := X.frm Y
    have ht := ht.ext Y
    have hn := hn.ext Y
    repeat' (walk_at "mm")
    intro h₄ t₄ F Y
    have X := X.frm Y
    have ht := ht.ext Y
    have hn := hn.ext Y
    have f4 : Fd base h₄ l (h.objs.size :: N) ds := (hF.more (get?_size h)).ext X (fun _ q => nomatch q) nin0
    have X4 := X
    have ⟨m0, hm, F⟩ := fr_name F
    refine ct_next (by assumption) ?_
    refine execs_mid (fun h' => Fr base h.objs.size h' m0 ∧ Ext base [l] h₄ h' ∧ Fd base h' l (h.objs.size :: N) (ds ++ emp S nm z)) ?_ ?_
    · intro R8 hMid
      subst hm
      have G2 := G.ext (X0.nil X)
      have I := G2.inst
      have m1 := G2.m1
      repeat' (walk_at "mm")
      refine nullable_spec C (hA₁.less (by decide)) (on_of F) G2 (IsEx.ofNm hn) ?_
      intro h₅ t₅ Y
      have F := fr_ext F Y nin0
      have f5 := f4.ext Y (fun _ q => nomatch q) nin0
      rw [← hS]
      cases hb : nulEx S (.pc (.name z)) with
      | false =>
        repeat' (walk_at "mm")
        refine hMid _ _ ⟨F, Y.more (fun _ q => nomatch q), ?_⟩
        rw [emp_f hb, List.append_nil]; exact f5
      | true =>
        obtain ⟨vf, hLf⟩ := f5.get
        repeat' (walk_at "mm")
        refine disp F (by decide) ?_
        intro h₆ b hb6 hLb F hWb Y6
        have f6 := f5.ext Y6 (fun _ q => nomatch q) nin0
        obtain ⟨vf, hLf⟩ := f6.get
        have hbn : h₅.get? b = none := by rw [hb6]; exact get?_size _
        repeat' (walk_at "mm")
        refine disp F (by simp) ?_
        intro h₇ tp htp hLt F hT Y7
        have f7 := f6.ext Y7 (fun _ q => nomatch q) nin0
        have hWb := hWb.ext Y7 nin0
        repeat' (walk_at "mm")
        refine fd_append f7 (c := (nm, Str.ofString "empty", [])) ⟨tp, _, _, b, rfl, hT, ⟨_, hWb, .nil⟩, fun q => ?_⟩ (by omega) ?_
        · rcases List.mem_cons.mp q with q | q
          · exact f5.live (q ▸ hbn)
          · rcases List.mem_cons.mp q with q | q
            · exact Nat.lt_irrefl _ (q ▸ hLb)
            · exact hN b q (X4.gone (Y.gone hbn))
        intro h₈ f8 Y8
        have F := fr_ext F Y8 (nin1 (Ne.symm hLl))
        repeat' (walk_at "mm")
        refine hMid _ _ ⟨F, (((Y.step Y6).step Y7).more (fun _ q => nomatch q)).step Y8, ?_⟩
        rw [emp_t hb]; exact f8
    intro h₅ t₅ ⟨F, X5, f5⟩
    have hd5 : ∀ (W : List Addr), (∀ a ∈ W, a ∈ [h.objs.size, l]) → da ∉ W := fun W hW q => by
      rcases List.mem_cons.mp (hW da q) with q | q
      · exact hdL q
      · exact hdl (List.mem_singleton.mp q)
    have Xm : Ext base [h.objs.size, l] h h₅ := (X.more (fun _ q => nomatch q)).step (X5.more sub_two')
    have hXm0 : ∀ a ∈ [h.objs.size, l], a ∈ ([] : List Addr) ∨ h₀.get? a = none := mem_cons2 (P := fun a => a ∈ ([] : List Addr) ∨ h₀.get? a = none) (.inr (X0.gone (get?_size h))) fun a q => by rw [List.mem_singleton.mp q]; exact .inr hl0
    have ht := ht.ext X5
    have hn := hn.ext X5
    have hD5 := hD.ext Xm (hd5 _ fun _ q => q)
    have G5 := G.ext (X0.trans Xm hXm0)
    have hel : (ds ++ emp S nm z).length ≤ 2001 := by have := emp_len S nm z; rw [List.length_append]; omega
    subst hm
    have I := G5.inst
    have m2 := G5.m2
    repeat' (walk_at "mm")
    refine first_spec C (hA₁.less (by decide)) (on_of F) G5 (IsEx.ofNm hn) (e := .pc (.name z)) ⟨hx.1, fun x e => nomatch e⟩ ?_
    intro h₆ t₆ df6 Y6 hdn6 hK6
    have hD6 := hD5.ext Y6 nin0
    have F := fr_ext F Y6 nin0
    have hn := hn.ext Y6
    have ht := ht.ext Y6
    have f6 := f5.ext Y6 (fun _ q => nomatch q) nin0
    have hKe : firstEx (inE E) (fsAt (R.map (·.1)) FS) (.pc (.name z)) = Fs z := by rw [hFs]; rfl
    rw [hKe] at hK6
    repeat' (walk_at "mm")
    refine shared_spec C (hA₁.less (by decide)) (on_of F) hK6 hD6 (by omega) ?_
    intro h₇ t₇ db Y7 hdn7 hS7
    have hD7 := hD6.ext Y7 nin0
    have hLv := fr_live F
    have F := fr_ext F Y7 nin0
    have hn := hn.ext Y7
    have ht := ht.ext Y7
    have f7 := f6.ext Y7 (fun _ q => nomatch q) nin0
    have hbN : db ∉ l :: h.objs.size :: N := fun q => by
      rcases List.mem_cons.mp q with q | q
      · exact f6.live (q ▸ hdn7)
      · rcases List.mem_cons.mp q with q | q
        · exact hLv (q ▸ hdn7)
        · exact hN db q (Xm.gone (Y6.gone hdn7))
    repeat' (walk_at "mm")
    intro h₈ t₈ F Y8
    have hbL : db ≠ h.objs.size := fun q => hbN (q ▸ .tail _ (.head _))
    have hD8 := hD7.ext Y8 (nin1 hdL)
    have hn := hn.ext Y8
    have ht := ht.ext Y8
    have f8 := f7.ext Y8 sub_hd (nin1 hLl)
    have hS8 := hS7.ext Y8 (nin1 hbL)
    have X8 : Ext base [h.objs.size, l] h h₈ := ((Xm.step (Y6.more (fun _ q => nomatch q))).step (Y7.more (fun _ q => nomatch q))).step (Y8.more sub_two)
    obtain ⟨vb, hLb, hSb⟩ := id hS8
    have hlb := strsAre_len hSb
    have hl4 := Nat.le_trans (shr_len (Fs z) ka) hFs4
    have hlb4 : vb.length ≤ 4 := by rw [hlb]; exact hl4
    have ⟨m0, hm, F⟩ := fr_name F
    refine ct_next (by assumption) ?_
    refine execs_mid (fun h' => Fr base h.objs.size h' m0 ∧ Ext base [l] h₈ h' ∧ Fd base h' l (h.objs.size :: N) (ds ++ emp S nm z ++ conf1 nm (Str.ofString "option") (shr (Fs z) ka))) ?_ ?_
    · intro R8 hMid
      subst hm
      repeat' (walk_at "mm")
      refine ls_len hLb (by omega) ?_
      intro u₃ t₉
      repeat' (walk_at "mm")
      rw [int_gt0]
      by_cases hpos : 0 < vb.length
      · rw [decide_eq_true hpos]
        have hc1 : conf1 nm (Str.ofString "option") (shr (Fs z) ka) = [(nm, Str.ofString "option", shr (Fs z) ka)] := by
          unfold conf1; rw [if_pos]; rw [hlb] at hpos; exact hpos
        obtain ⟨vf, hLf⟩ := f8.get
        refine ite_t ?_
        repeat' (walk_at "mm")
        refine disp F (by simp) ?_
        intro h₉ tp htp hLt F hT Y9
        have f9 := f8.ext Y9 (fun _ q => nomatch q) nin0
        have hS9 := hS8.ext Y9 nin0
        repeat' (walk_at "mm")
        refine fd_append f9 (c := (nm, Str.ofString "option", shr (Fs z) ka)) ⟨tp, _, _, db, rfl, hT, hS9, hbN⟩ (by omega) ?_
        intro h₁₀ f10 Y10
        have F := fr_ext F Y10 (nin1 (Ne.symm hLl))
        repeat' (walk_at "mm")
        refine hMid _ _ ⟨F, (Y9.more (fun _ q => nomatch q)).step Y10, ?_⟩
        rw [hc1]; exact f10
      · rw [decide_eq_false hpos]
        have hc1 : conf1 nm (Str.ofString "option") (shr (Fs z) ka) = [] := by
          unfold conf1; rw [if_neg]; rw [hlb] at hpos; exact hpos
        refine ite_f ?_
        repeat' (walk_at "mm")
        refine hMid _ _ ⟨F, .refl _ _ _, ?_⟩
        rw [hc1, List.append_nil]; exact f8
    intro h₉ t₉ ⟨F, Y9, f9⟩
    subst hm
    have hD9 := hD8.ext Y9 (nin1 hdl)
    have hn := hn.ext Y9
    have ht := ht.ext Y9
    have X9 := X8.step (Y9.more sub_two')
    repeat' (walk_at "mm")
    intro h₁₀ t₁₀ F Y10
    have hD10 := hD9.ext Y10 (nin1 hdL)
    have hn := hn.ext Y10
    have ht := ht.ext Y10
    have f10 := f9.ext Y10 sub_hd (nin1 hLl)
    have X10 := X9.step (Y10.more sub_two)
    have hlen10 : (ds ++ emp S nm z ++ conf1 nm (Str.ofString "option") (shr (Fs z) ka)).length ≤ 2002 := by have := conf1_len nm (Str.ofString "option") (shr (Fs z) ka); rw [List.length_append]; omega
    repeat' (walk_at "mm")
    refine fc_nm C (hA₁.less (by decide)) (on_of F) G (X0.trans X10 hXm0) hl0 (IsEx.ofNm hn) ⟨hx.1, fun x e => nomatch e⟩ hD10 hk (fun a q => (mem_cons2 (P := fun a => h₁₀.get? a ≠ none) (fr_live F) fun a q e => hN a q (X10.gone e)) a q) f10 (by omega) ?_
    intro h₁₁ t₁₁ Y11 f11
    repeat' (walk_at "mm")
    refine hQ _ _ ?_ ?_
    · exact ((X10.more (W' := h.objs.size :: [l]) (fun _ q => q)).step (Y11.more sub_two')) |> fun Z => off_frame Z (get?_size h)
    · have := f11.less
      rw [List.append_nil] at this
      rw [show confPc S Fs nm (.opt z) ka = emp S nm z ++ conf1 nm (Str.ofString "option") (shr (Fs z) ka) from rfl, ← List.append_assoc]
      exact this
  | rep z =>
    refine call_fn hA (C.fn 15 (by decide)).1 C.nolim hO (binds := [(Str.ofString "grammar", .ref x), (Str.ofString "name", .str nm u), (Str.ofString "e", v), (Str.ofString "after", .ref da), (Str.ofString "found", .ref l)]) (fun _ _ _ => rfl) rfl rfl ⟨rfl, rfl, rfl⟩ ?_
    intro R0 cd h₁ t₁ A₁ hFin hA₁ F X
    have hD : dn 15 = dn 15 := rfl
    conv at hD => rhs; whnf
    rw [hD]
    dsimp only
    clear hD
    obtain ⟨a, t1, v', rfl, ht, hn⟩ := hp.ext X
    have hh := hA₁.hh
    have hl2 : ka.length ≤ 4 := nodup_len (tt_nodup hD.nodup) hk
    have hLl : l ≠ h.objs.size := ne_lt hF.lt
    have hdl : da ≠ l := ks_ne_fd hD hF
    have hdL : da ≠ h.objs.size := ne_lt hD.lt
    obtain ⟨S, hS⟩ : ∃ S, S = inE E := ⟨_, rfl⟩
    obtain ⟨Fs, hFs⟩ : ∃ Fs, Fs = fsAt (R.map (·.1)) FS := ⟨_, rfl⟩
    rw [← hS, ← hFs] at hQ
    have hFs4 : (Fs z).length ≤ 4 := by rw [hFs]; exact Nat.le_trans (fsAt_len (n := 3) (fun ks hk => G.fir.small G.sub ks hk) z) (by decide)
    repeat' (walk_at "mm")
    intro h₂ t₂ F Y
    have X := X.frm Y
    have ht := ht.ext Y
    have hn := hn.ext Y
    repeat' (walk_at "mm")
    intro h₃ t₃ F Y
    have X := X.frm Y
    have ht := ht.ext Y
    have hn := hn.ext Y
    repeat' (walk_at "mm")
    intro h₄ t₄ F Y
    have X := X.frm Y
    have ht := ht.ext Y
    have hn := hn.ext Y
    have f4 : Fd base h₄ l (h.objs.size :: N) ds := (hF.more (get?_size h)).ext X (fun _ q => nomatch q) nin0
    have X4 := X
    have ⟨m0, hm, F⟩ := fr_name F
    refine ct_next (by assumption) ?_
    refine execs_mid (fun h' => Fr base h.objs.size h' m0 ∧ Ext base [l] h₄ h' ∧ Fd base h' l (h.objs.size :: N) (ds ++ emp S nm z)) ?_ ?_
    · intro R8 hMid
      subst hm
      have G2 := G.ext (X0.nil X)
      have I := G2.inst
      have m1 := G2.m1
      repeat' (walk_at "mm")
      refine nullable_spec C (hA₁.less (by decide)) (on_of F) G2 (IsEx.ofNm hn) ?_
      intro h₅ t₅ Y
      have F := fr_ext F Y nin0
      have f5 := f4.ext Y (fun _ q => nomatch q) nin0
      rw [← hS]
      cases hb : nulEx S (.pc (.name z)) with
      | false =>
        repeat' (walk_at "mm")
        refine hMid _ _ ⟨F, Y.more (fun _ q => nomatch q), ?_⟩
        rw [emp_f hb, List.append_nil]; exact f5
      | true =>
        obtain ⟨vf, hLf⟩ := f5.get
        repeat' (walk_at "mm")
        refine disp F (by decide) ?_
        intro h₆ b hb6 hLb F hWb Y6
        have f6 := f5.ext Y6 (fun _ q => nomatch q) nin0
        obtain ⟨vf, hLf⟩ := f6.get
        have hbn : h₅.get? b = none := by rw [hb6]; exact get?_size _
        repeat' (walk_at "mm")
        refine disp F (by simp) ?_
        intro h₇ tp htp hLt F hT Y7
        have f7 := f6.ext Y7 (fun _ q => nomatch q) nin0
        have hWb := hWb.ext Y7 nin0
        repeat' (walk_at "mm")
        refine fd_append f7 (c := (nm, Str.ofString "empty", [])) ⟨tp, _, _, b, rfl, hT, ⟨_, hWb, .nil⟩, fun q => ?_⟩ (by omega) ?_
        · rcases List.mem_cons.mp q with q | q
          · exact f5.live (q ▸ hbn)
          · rcases List.mem_cons.mp q with q | q
            · exact Nat.lt_irrefl _ (q ▸ hLb)
            · exact hN b q (X4.gone (Y.gone hbn))
        intro h₈ f8 Y8
        have F := fr_ext F Y8 (nin1 (Ne.symm hLl))
        repeat' (walk_at "mm")
        refine hMid _ _ ⟨F, (((Y.step Y6).step Y7).more (fun _ q => nomatch q)).step Y8, ?_⟩
        rw [emp_t hb]; exact f8
    intro h₅ t₅ ⟨F, X5, f5⟩
    have hd5 : ∀ (W : List Addr), (∀ a ∈ W, a ∈ [h.objs.size, l]) → da ∉ W := fun W hW q => by
      rcases List.mem_cons.mp (hW da q) with q | q
      · exact hdL q
      · exact hdl (List.mem_singleton.mp q)
    have Xm : Ext base [h.objs.size, l] h h₅ := (X.more (fun _ q => nomatch q)).step (X5.more sub_two')
    have hXm0 : ∀ a ∈ [h.objs.size, l], a ∈ ([] : List Addr) ∨ h₀.get? a = none := mem_cons2 (P := fun a => a ∈ ([] : List Addr) ∨ h₀.get? a = none) (.inr (X0.gone (get?_size h))) fun a q => by rw [List.mem_singleton.mp q]; exact .inr hl0
    have ht := ht.ext X5
    have hn := hn.ext X5
    have hD5 := hD.ext Xm (hd5 _ fun _ q => q)
    have G5 := G.ext (X0.trans Xm hXm0)
    have hel : (ds ++ emp S nm z).length ≤ 2001 := by have := emp_len S nm z; rw [List.length_append]; omega
    subst hm
    have I := G5.inst
    have m2 := G5.m2
    repeat' (walk_at "mm")
    refine first_spec C (hA₁.less (by decide)) (on_of F) G5 (IsEx.ofNm hn) (e := .pc (.name z)) ⟨hx.1, fun x e => nomatch e⟩ ?_
    intro h₆ t₆ df6 Y6 hdn6 hK6
    have hD6 := hD5.ext Y6 nin0
    have F := fr_ext F Y6 nin0
    have hn := hn.ext Y6
    have ht := ht.ext Y6
    have f6 := f5.ext Y6 (fun _ q => nomatch q) nin0
    have hKe : firstEx (inE E) (fsAt (R.map (·.1)) FS) (.pc (.name z)) = Fs z := by rw [hFs]; rfl
    rw [hKe] at hK6
    repeat' (walk_at "mm")
    refine shared_spec C (hA₁.less (by decide)) (on_of F) hK6 hD6 (by omega) ?_
    intro h₇ t₇ db Y7 hdn7 hS7
    have hD7 := hD6.ext Y7 nin0
    have hLv := fr_live F
    have F := fr_ext F Y7 nin0
    have hn := hn.ext Y7
    have ht := ht.ext Y7
    have f7 := f6.ext Y7 (fun _ q => nomatch q) nin0
    have hbN : db ∉ l :: h.objs.size :: N := fun q => by
      rcases List.mem_cons.mp q with q | q
      · exact f6.live (q ▸ hdn7)
      · rcases List.mem_cons.mp q with q | q
        · exact hLv (q ▸ hdn7)
        · exact hN db q (Xm.gone (Y6.gone hdn7))
    repeat' (walk_at "mm")
    intro h₈ t₈ F Y8
    have hbL : db ≠ h.objs.size := fun q => hbN (q ▸ .tail _ (.head _))
    have hD8 := hD7.ext Y8 (nin1 hdL)
    have hn := hn.ext Y8
    have ht := ht.ext Y8
    have f8 := f7.ext Y8 sub_hd (nin1 hLl)
    have hS8 := hS7.ext Y8 (nin1 hbL)
    have X8 : Ext base [h.objs.size, l] h h₈ := ((Xm.step (Y6.more (fun _ q => nomatch q))).step (Y7.more (fun _ q => nomatch q))).step (Y8.more sub_two)
    obtain ⟨vb, hLb, hSb⟩ := id hS8
    have hlb := strsAre_len hSb
    have hl4 := Nat.le_trans (shr_len (Fs z) ka) hFs4
    have hlb4 : vb.length ≤ 4 := by rw [hlb]; exact hl4
    have ⟨m0, hm, F⟩ := fr_name F
    refine ct_next (by assumption) ?_
    refine execs_mid (fun h' => Fr base h.objs.size h' m0 ∧ Ext base [l] h₈ h' ∧ Fd base h' l (h.objs.size :: N) (ds ++ emp S nm z ++ conf1 nm (Str.ofString "repetition") (shr (Fs z) ka))) ?_ ?_
    · intro R8 hMid
      subst hm
      repeat' (walk_at "mm")
      refine ls_len hLb (by omega) ?_
      intro u₃ t₉
      repeat' (walk_at "mm")
      rw [int_gt0]
      by_cases hpos : 0 < vb.length
      · rw [decide_eq_true hpos]
        have hc1 : conf1 nm (Str.ofString "repetition") (shr (Fs z) ka) = [(nm, Str.ofString "repetition", shr (Fs z) ka)] := by
          unfold conf1; rw [if_pos]; rw [hlb] at hpos; exact hpos
        obtain ⟨vf, hLf⟩ := f8.get
        refine ite_t ?_
        repeat' (walk_at "mm")
        refine disp F (by simp) ?_
        intro h₉ tp htp hLt F hT Y9
        have f9 := f8.ext Y9 (fun _ q => nomatch q) nin0
        have hS9 := hS8.ext Y9 nin0
        repeat' (walk_at "mm")
        refine fd_append f9 (c := (nm, Str.ofString "repetition", shr (Fs z) ka)) ⟨tp, _, _, db, rfl, hT, hS9, hbN⟩ (by omega) ?_
        intro h₁₀ f10 Y10
        have F := fr_ext F Y10 (nin1 (Ne.symm hLl))
        repeat' (walk_at "mm")
        refine hMid _ _ ⟨F, (Y9.more (fun _ q => nomatch q)).step Y10, ?_⟩
        rw [hc1]; exact f10
      · rw [decide_eq_false hpos]
        have hc1 : conf1 nm (Str.ofString "repetition") (shr (Fs z) ka) = [] := by
          unfold conf1; rw [if_neg]; rw [hlb] at hpos; exact hpos
        refine ite_f ?_
        repeat' (walk_at "mm")
        refine hMid _ _ ⟨F, .refl _ _ _, ?_⟩
        rw [hc1, List.append_nil]; exact f8
    intro h₉ t₉ ⟨F, Y9, f9⟩
    subst hm
    have hD9 := hD8.ext Y9 (nin1 hdl)
    have hn := hn.ext Y9
    have ht := ht.ext Y9
    have X9 := X8.step (Y9.more sub_two')
    repeat' (walk_at "mm")
    intro h₁₀ t₁₀ F Y10
    have hD10 := hD9.ext Y10 (nin1 hdL)
    have hn := hn.ext Y10
    have ht := ht.ext Y10
    have f10 := f9.ext Y10 sub_hd (nin1 hLl)
    have X10 := X9.step (Y10.more sub_two)
    have hlen10 : (ds ++ emp S nm z ++ conf1 nm (Str.ofString "repetition") (shr (Fs z) ka)).length ≤ 2002 := by have := conf1_len nm (Str.ofString "repetition") (shr (Fs z) ka); rw [List.length_append]; omega
    have G10 := G.ext (X0.trans X10 hXm0)
    have I := G10.inst
    have m3 := G10.m3
    repeat' (walk_at "mm")
    refine predict_spec C (hA₁.less (by decide)) (on_of F) G10 (e := .pc (.rep z)) ⟨a, t1, v', rfl, ht, hn⟩ hx hD10 (by omega) ?_
    intro h₁₁ t₁₁ d2 Y11 hdn11 hK11
    have hn := hn.ext Y11
    have hd2L : d2 ≠ h.objs.size := fun q => fr_live F (q ▸ hdn11)
    have F := fr_ext F Y11 nin0
    have f11 := f10.ext Y11 (fun _ q => nomatch q) nin0
    have X11 := X10.step (Y11.more (fun _ q => nomatch q))
    repeat' (walk_at "mm")
    intro h₁₂ t₁₂ F Y12
    have hn := hn.ext Y12
    have f12 := f11.ext Y12 sub_hd (nin1 hLl)
    have X12 := X11.step (Y12.more sub_two)
    have hK12 := hK11.ext Y12 (nin1 hd2L)
    repeat' (walk_at "mm")
    refine fc_nm C (hA₁.less (by decide)) (on_of F) G (X0.trans X12 hXm0) hl0 (IsEx.ofNm hn) ⟨hx.1, fun x e => nomatch e⟩ hK12 (predEx_sub4 G.at (ns := R.map (·.1)) (e := .pc (.rep z)) hx hk) (fun a q => (mem_cons2 (P := fun a => h₁₂.get? a ≠ none) (fr_live F) fun a q e => hN a q (X12.gone e)) a q) f12 (by omega) ?_
    intro h₁₃ t₁₃ Y13 f13
    repeat' (walk_at "mm")
    refine hQ _ _ ?_ ?_
    · exact off_frame ((X12.more (W' := h.objs.size :: [l]) (fun _ q => q)).step (Y13.more sub_two')) (get?_size h)
    · have := f13.less
      rw [List.append_nil] at this
      rw [show confPc S Fs nm (.rep z) ka = emp S nm z ++ conf1 nm (Str.ofString "repetition") (shr (Fs z) ka) from rfl, ← List.append_assoc]
      exact this
end
-- part M14
section
variable {w : World} {A : Around} {k : Nat} {base h : Heap} {g : Array GenState} {dr : Drawn} {t : Nat} {os : OsState}
theorem FrW.step {L : Addr} {m : Str → Option Value} {x y : Str} {a b u u' : Option Value} (F : Fr base L h (fun n => if n = x then a else if n = y then b else if n = x then u else if n = y then u' else m n)) (hxy : x ≠ y) : Fr base L h (fun n => if n = x then a else if n = y then b else m n) := by
  refine fr_cast F fun n => ?_
  by_cases h1 : n = x
  · simp [h1]
  · by_cases h2 : n = y
    · simp [h2, Ne.symm hxy]
    · simp [h1, h2]
noncomputable def confPc1 (S : Str → Bool) (Fs : Str → List Str) (nm : Str) (q : Ex × List Str) : List Cf := match q with
  | (.pc p, ka) => confPc S Fs nm p ka
  | _ => []
noncomputable def confPart (S : Str → Bool) (Fs : Str → List Str) (nm : Str) (q : Ex × List Str) : List Cf := match q with
  | (.pc p, ka) => confPc S Fs nm p ka
  | (.seq ps, ka) => (partSeq S Fs ka ps).flatMap (confPc1 S Fs nm)
  | _ => []
noncomputable def confSeq (S : Str → Bool) (Fs : Str → List Str) (nm : Str) (ka : List Str) (ps : List Pc) : List Cf := (partSeq S Fs ka ps).flatMap (confPc1 S Fs nm)
noncomputable def confAlt (S : Str → Bool) (Fs : Str → List Str) (nm : Str) (ka : List Str) (ws : List (List Pc)) : List Cf :=
  altC nm (ws.map fun ps => predEx S Fs (.seq ps) ka) ws.length ++ (partEx S Fs ka (.alt ws)).flatMap (confPart S Fs nm)
theorem confPc_len (S : Str → Bool) (Fs : Str → List Str) (nm : Str) (p : Pc) (ka : List Str) : (confPc S Fs nm p ka).length ≤ 2 := by
  cases p with
  | text x => simp [confPc]
  | name x => simp [confPc]
  | opt x =>
    have h1 := emp_len S nm x
    have h2 := conf1_len nm (Str.ofString "option") (shr (Fs x) ka)
    rw [confPc, List.length_append]; omega
  | rep x =>
    have h1 := emp_len S nm x
    have h2 := conf1_len nm (Str.ofString "repetition") (shr (Fs x) ka)
    rw [confPc, List.length_append]; omega
theorem confSeqP_len {S : Str → Bool} {Fs : Str → List Str} {nm : Str} {ka : List Str} {ps : List Pc} (h : ps.length ≤ 3) : (confPart S Fs nm (.seq ps, ka)).length ≤ 6 := by
  have h1 := flat_len (f := confPc1 S Fs nm) (m := 2) (partSeq S Fs ka ps) (fun q _ => by
    obtain ⟨q1, q2⟩ := q
    cases q1 with
    | pc p => exact confPc_len _ _ _ _ _
    | seq p => exact Nat.zero_le _
    | alt p => exact Nat.zero_le _)
  rw [partSeq_len] at h1
  exact Nat.le_trans h1 (by omega)
theorem partSeq_pc {S : Str → Bool} {Fs : Str → List Str} {ka : List Str} : ∀ (ps : List Pc), ∀ q ∈ partSeq S Fs ka ps, ∃ p, q.1 = .pc p
  | [], q, h => nomatch h
  | p :: ps, q, h => by
    rw [partSeq] at h
    rcases List.mem_cons.mp h with rfl | h
    · exact ⟨p, rfl⟩
    · exact partSeq_pc ps q h
theorem fc_seq (C : Bs w base) {x : Addr} {ga : GA} {fl : List (Str × Value)} {R : Rules} {E : List Str} {Ds : List Addr} {FS : List (List Str)} {ps : List Pc} {v : Value} {nm : Str} {u : Tok} {da l : Addr} {ka : List Str} {N : List Addr} {ds : List Cf} {Q : Value → Shared → Prop} {h₀ : Heap} (hA : Ok A 10) (hO : On base h) (G : Gr C h₀ x ga fl R E Ds FS) (X0 : Ext base [] h₀ h) (hl0 : h₀.get? l = none)
    (hp : IsEx h v (.seq ps)) (hx : ExOK (R.map (·.1)) (.seq ps)) (hD : Ks w base h da ka) (hk : ∀ y ∈ ka, y ∈ T4) (hN : ∀ a ∈ N, h.get? a ≠ none) (hF : Fd base h l N ds) (hz : ds.length ≤ 1000)
    (hQ : ∀ h' t', Ext base [l] h h' → Fd base h' l N (ds ++ confSeq (inE E) (fsAt (R.map (·.1)) FS) nm ka ps) → Q .none ⟨h', g, dr, t', os⟩) :
    wpAny (model pw w) A (call (.ref (C.f 15)) [.ref x, .str nm u, v, .ref da, .ref l]) Q NoE ⟨h, g, dr, t, os⟩ := by
  refine call_fn hA (C.fn 15 (by decide)).1 C.nolim hO (binds := [(Str.ofString "grammar", .ref x), (Str.ofString "name", .str nm u), (Str.ofString "e", v), (Str.ofString "after", .ref da), (Str.ofString "found", .ref l)]) (fun _ _ _ => rfl) rfl rfl ⟨rfl, rfl, rfl⟩ ?_
  intro R0 cd h₁ t₁ A₁ hFin hA₁ F X
  have hD : dn 15 = dn 15 := rfl
  conv at hD => rhs; whnf
  rw [hD]
  dsimp only
  clear hD
  obtain ⟨a, t1, b, vs, rfl, ht, htb, hvs⟩ := hp.ext X
  have hh := hA₁.hh
  have hl2 : ka.length ≤ 4 := nodup_len (tt_nodup hD.nodup) hk
  have hLl : l ≠ h.objs.size := ne_lt hF.lt
  have hdl : da ≠ l := ks_ne_fd hD hF
  have hdL : da ≠ h.objs.size := ne_lt hD.lt
  have hal2 : ∀ a ∈ [h.objs.size, l], a ∈ ([] : List Addr) ∨ h₀.get? a = none := mem_cons2 (P := fun a => a ∈ ([] : List Addr) ∨ h₀.get? a = none) (.inr (X0.gone (get?_size h))) fun a q => by rw [List.mem_singleton.mp q]; exact .inr hl0
  repeat' (walk_at "mm")
  intro h₂ t₂ F Y
  have X := X.frm Y
  have ht := ht.ext Y
  have hvs := hvs.imp fun _ _ z => z.ext Y
  have htb := htb.ext Y
  have f2 : Fd base h₂ l (h.objs.size :: N) ds := (hF.more (get?_size h)).ext X (fun _ q => nomatch q) nin0
  have hN2 : ∀ a ∈ h.objs.size :: N, h₂.get? a ≠ none := mem_cons2 (P := fun a => h₂.get? a ≠ none) (fr_live F) fun a q e => hN a q (X.gone e)
  have hD2 := hD.ext X nin0
  have Z : Ext base [h.objs.size, l] h h₂ := X.more (fun _ q => nomatch q)
  obtain ⟨es, hes⟩ : ∃ es, es = ds := ⟨_, rfl⟩
  rw [← hes] at f2
  have hz2 : es.length ≤ 1000 := by rw [hes]; exact hz
  repeat' (walk_at "mm")
  have ⟨m0, hm, F⟩ := fr_name F
  refine for_list (base := base) hA₁.hh ?_ (by intro _; rfl) (.inr ⟨_, _, _, rfl⟩)
  have F' := F
  rw [hm] at F'
  repeat' (walk_at "mm")
  have hZ0 : Ext base [] h₀ _ := X0.trans Z hal2
  have G3 := G.ext hZ0
  refine parts_seq C (hA₁.less (by decide)) (on_of F') G3 ⟨a, t1, b, vs, rfl, ht, htb, hvs⟩ hx hD2 hk ?_
  intro h₄ t₄ d us Y hdn hU hP
  have F4 := fr_ext F Y nin0
  have f4 := f2.ext Y (fun _ q => nomatch q) nin0
  have hdL : d ≠ h.objs.size := fun q => fr_live F (q ▸ hdn)
  have hdl2 : d ≠ l := fun q => f2.live (q ▸ hdn)
  obtain ⟨S, hS⟩ : ∃ S, S = inE E := ⟨_, rfl⟩
  obtain ⟨Fs, hFs⟩ : ∃ Fs, Fs = fsAt (R.map (·.1)) FS := ⟨_, rfl⟩
  have hF3 := G.at
  rw [← hFs] at hF3
  obtain ⟨PS, hPS⟩ : ∃ PS, PS = partEx S Fs ka (.seq ps) := ⟨_, rfl⟩
  have hPQ : All2 (PartOf w base h₄ fun db => db ≠ h.objs.size ∧ db ≠ l) us PS := by
    rw [hPS, hS, hFs]
    refine hP.imp fun v q z => ?_
    obtain ⟨tp, iv, db, rfl, hT, hI, hK, hb, hbd⟩ := z
    refine ⟨tp, iv, db, rfl, hT, hI, hK, ?_⟩
    rcases hb with rfl | hb
    · exact ⟨by assumption, hdl⟩
    · exact ⟨fun q => fr_live F (q ▸ hb), fun q => f2.live (q ▸ hb)⟩
  have hPlen : PS.length = ps.length := by rw [hPS]; simp [partEx, partSeq_len]
  have hl3 : us.length ≤ 3 := by rw [hPQ.1, hPlen]; exact hx.1
  have hPat : ∀ (i : Nat) (q : Ex × List Str), PS[i]? = some q → ∃ z, ps[i]? = some z ∧ q.1 = .pc z ∧ ∀ y ∈ q.2, y ∈ T4 := by
    intro i q hq
    have hi : i < ps.length := by rw [← hPlen]; exact (List.getElem?_eq_some_iff.mp hq).1
    have e2 : (ps.map Ex.pc)[i]? = some (.pc ps[i]) := by simp [hi]
    rw [hPS] at hq
    exact ⟨ps[i], by simp [hi], partSeq_at (ns := R.map (·.1)) hF3 hk hx.2 hq e2⟩
  have hlen : ∀ i, ((PS.take i).flatMap (confPc1 S Fs nm)).length ≤ 6 := by
    intro i
    have h1 := flat_len (f := confPc1 S Fs nm) (m := 2) (PS.take i) (by
      intro q hq
      obtain ⟨j, hj⟩ := List.getElem?_of_mem (List.mem_of_mem_take hq)
      obtain ⟨z, hz, hq1, _⟩ := hPat j q hj
      obtain ⟨q1, q2⟩ := q
      subst hq1
      exact confPc_len _ _ _ _ _)
    rw [List.length_take, hPlen] at h1
    have : ps.length ≤ 3 := hx.1
    omega
  have Z4 := Z.nil Y
  refine ⟨d, us, h₄, t₄, rfl, rfl, hU, on_of F4, [h.objs.size, l], fun i h' => FrW base h.objs.size h' m0 (Str.ofString "behind") (Str.ofString "item") ∧ Fd base h' l (h.objs.size :: N) (es ++ (PS.take i).flatMap (confPc1 S Fs nm)) ∧
    All2 (PartOf w base h' fun db => db ≠ h.objs.size ∧ db ≠ l) us PS, ?_, ?_, ⟨.init F4, by simpa using f4, hPQ⟩, ?_, ?_, ?_⟩
  · exact not_cons hdL (nin1 hdl2)
  · exact mem_cons2 F4.ns.lt fun a q => by rw [List.mem_singleton.mp q]; exact f4.lt
  · rintro i h h' ⟨F, f, hP⟩ S
    exact ⟨F.soft S, f.soft S, hP.imp fun _ _ z => z.soft S⟩
  · rintro i v h₅ t₅ R9 hi hv X₅ ⟨⟨u1, u2, F⟩, f, hPQ⟩ hLT9
    subst hm
    obtain ⟨q, hq, hpw⟩ := hPQ.get hv
    obtain ⟨tp, iv, db, rfl, hT, hI, hK, hbL, hbl⟩ := id hpw
    obtain ⟨z, hz3, hq1, hq4⟩ := hPat i q hq
    obtain ⟨q1, q2⟩ := q
    subst hq1
    have hli := hlen i
    repeat' (walk_at "mm")
    intro h₆ t₆ F Y₆
    have F := FrW.step F (by decide)
    have f := f.ext Y₆ sub_hd (nin1 hLl)
    have hI := hI.ext Y₆
    have hK := hK.ext Y₆ (nin1 hbL)
    have hPQ := hPQ.imp fun _ _ z => z.ext Y₆ (fun a q => by rw [List.mem_singleton.mp q]; exact fun q => q.1 rfl)
    have X6 := (Z4.step X₅).step (Y₆.more sub_two)
    repeat' (walk_at "mm")
    refine fc_pc C (hA₁.less (by decide)) (on_of F) G (X0.trans X6 hal2) hl0 hI (exok_pc (hx.2 z (List.mem_of_getElem? hz3))) hK hq4 (mem_cons2 (P := fun a => h₆.get? a ≠ none) (fr_live F) fun a q e => hN a q (X6.gone e)) f (by rw [List.length_append]; omega) ?_
    intro h₇ t₇ Y₇ f
    have F := fr_ext F Y₇ (nin1 (Ne.symm hLl))
    have hPQ := hPQ.imp fun _ _ z => z.ext Y₇ (fun a q => by rw [List.mem_singleton.mp q]; exact fun q => q.2 rfl)
    repeat' (walk_at "mm")
    refine for_next hLT9 ((Y₆.more sub_two).step (Y₇.more sub_two')) ⟨.of F, ?_, hPQ⟩
    have hts : PS.take (i + 1) = PS.take i ++ [(.pc z, q2)] := by rw [List.take_add_one, hq]; rfl
    rw [hts, List.flatMap_append, ← List.append_assoc, List.flatMap_cons, List.flatMap_nil, List.append_nil]
    rw [← hS, ← hFs] at f
    exact f
  · rintro h₅ t₅ X₅ ⟨F, f, hPQ⟩
    repeat' (walk_at "mm")
    refine hQ _ _ (off_frame (Z4.step X₅) (get?_size h)) ?_
    have f := f.less
    rw [hPQ.1, List.take_length, hes] at f
    rw [hPS, hS, hFs] at f; exact f
theorem fc_alt (C : Bs w base) {x : Addr} {ga : GA} {fl : List (Str × Value)} {R : Rules} {E : List Str} {Ds : List Addr} {FS : List (List Str)} {ws : List (List Pc)} {v : Value} {nm : Str} {u : Tok} {da l : Addr} {ka : List Str} {N : List Addr} {ds : List Cf} {Q : Value → Shared → Prop} {h₀ : Heap} (hA : Ok A 11) (hO : On base h) (G : Gr C h₀ x ga fl R E Ds FS) (X0 : Ext base [] h₀ h) (hl0 : h₀.get? l = none)
    (hp : IsEx h v (.alt ws)) (hx : ExOK (R.map (·.1)) (.alt ws)) (hD : Ks w base h da ka) (hk : ∀ y ∈ ka, y ∈ T4) (hN : ∀ a ∈ N, h.get? a ≠ none) (hF : Fd base h l N ds) (hz : ds.length ≤ 500)
    (hQ : ∀ h' t', Ext base [l] h h' → Fd base h' l N (ds ++ confAlt (inE E) (fsAt (R.map (·.1)) FS) nm ka ws) → Q .none ⟨h', g, dr, t', os⟩) :
    wpAny (model pw w) A (call (.ref (C.f 15)) [.ref x, .str nm u, v, .ref da, .ref l]) Q NoE ⟨h, g, dr, t, os⟩ := by
  refine call_fn hA (C.fn 15 (by decide)).1 C.nolim hO (binds := [(Str.ofString "grammar", .ref x), (Str.ofString "name", .str nm u), (Str.ofString "e", v), (Str.ofString "after", .ref da), (Str.ofString "found", .ref l)]) (fun _ _ _ => rfl) rfl rfl ⟨rfl, rfl, rfl⟩ ?_
  intro R0 cd h₁ t₁ A₁ hFin hA₁ F X
  have hD : dn 15 = dn 15 := rfl
  conv at hD => rhs; whnf
  rw [hD]
  dsimp only
  clear hD
  obtain ⟨a, t1, b, vs, rfl, ht, htb, hvs⟩ := hp.ext X
  have hh := hA₁.hh
  have hl2 : ka.length ≤ 4 := nodup_len (tt_nodup hD.nodup) hk
  have hLl : l ≠ h.objs.size := ne_lt hF.lt
  have hdl : da ≠ l := ks_ne_fd hD hF
  have hdL : da ≠ h.objs.size := ne_lt hD.lt
  have hal2 : ∀ a ∈ [h.objs.size, l], a ∈ ([] : List Addr) ∨ h₀.get? a = none := mem_cons2 (P := fun a => a ∈ ([] : List Addr) ∨ h₀.get? a = none) (.inr (X0.gone (get?_size h))) fun a q => by rw [List.mem_singleton.mp q]; exact .inr hl0
  repeat' (walk_at "mm")
  intro h₂ t₂ F Y
  have X := X.frm Y
  have ht := ht.ext Y
  have hvs := hvs.imp fun _ _ z => z.ext Y
  have htb := htb.ext Y
  have f2 : Fd base h₂ l (h.objs.size :: N) ds := (hF.more (get?_size h)).ext X (fun _ q => nomatch q) nin0
  have hN2 : ∀ a ∈ h.objs.size :: N, h₂.get? a ≠ none := mem_cons2 (P := fun a => h₂.get? a ≠ none) (fr_live F) fun a q e => hN a q (X.gone e)
  have hD2 := hD.ext X nin0
  repeat' (walk_at "mm")
  have G2 := G.ext (X0.nil X)
  refine add_alts C (hA₁.less (by decide)) (on_of F) G2 ⟨a, t1, b, vs, rfl, ht, htb, hvs⟩ hx hD2 hk hN2 f2 (by omega) ?_
  clear hN2
  intro h₃ t₃ Y3 f2
  have F := fr_ext F Y3 (nin1 (Ne.symm hLl))
  have ht := ht.ext Y3
  have hvs := hvs.imp fun _ _ z => z.ext Y3
  have htb := htb.ext Y3
  have hD2 := hD2.ext Y3 (nin1 hdl)
  have Z : Ext base [h.objs.size, l] h h₃ := (X.more (fun _ q => nomatch q)).step (Y3.more sub_two')
  have hal := altC_len nm (ws.map fun ps => predEx (inE E) (fsAt (R.map (·.1)) FS) (.seq ps) ka) ws.length
  have hws : ws.length ≤ 3 := hx.1
  have hal3 : ws.length * ws.length ≤ 9 := Nat.mul_le_mul hws hws
  have hN2 : ∀ a ∈ h.objs.size :: N, h₃.get? a ≠ none := mem_cons2 (P := fun a => h₃.get? a ≠ none) (fr_live F) fun a q e => hN a q (Z.gone e)
  obtain ⟨es, hes⟩ : ∃ es, es = ds ++ altC nm (ws.map fun ps => predEx (inE E) (fsAt (R.map (·.1)) FS) (.seq ps) ka) ws.length := ⟨_, rfl⟩
  rw [← hes] at f2
  have hz2 : es.length ≤ 900 := by rw [hes, List.length_append]; omega
  repeat' (walk_at "mm")
  have ⟨m0, hm, F⟩ := fr_name F
  refine for_list (base := base) hA₁.hh ?_ (by intro _; rfl) (.inr ⟨_, _, _, rfl⟩)
  have F' := F
  rw [hm] at F'
  repeat' (walk_at "mm")
  have hZ0 : Ext base [] h₀ _ := X0.trans Z hal2
  have G3 := G.ext hZ0
  refine parts_alt C (hA₁.less (by decide)) (on_of F') G3 ⟨a, t1, b, vs, rfl, ht, htb, hvs⟩ hx hD2 hk ?_
  intro h₄ t₄ d us Y hdn hU hP
  have F4 := fr_ext F Y nin0
  have f4 := f2.ext Y (fun _ q => nomatch q) nin0
  have hdL : d ≠ h.objs.size := fun q => fr_live F (q ▸ hdn)
  have hdl2 : d ≠ l := fun q => f2.live (q ▸ hdn)
  obtain ⟨S, hS⟩ : ∃ S, S = inE E := ⟨_, rfl⟩
  obtain ⟨Fs, hFs⟩ : ∃ Fs, Fs = fsAt (R.map (·.1)) FS := ⟨_, rfl⟩
  have hF3 := G.at
  rw [← hFs] at hF3
  obtain ⟨PS, hPS⟩ : ∃ PS, PS = partEx S Fs ka (.alt ws) := ⟨_, rfl⟩
  have hPQ : All2 (PartOf w base h₄ fun db => db ≠ h.objs.size ∧ db ≠ l) us PS := by
    rw [hPS, hS, hFs]
    refine hP.imp fun v q z => ?_
    obtain ⟨tp, iv, db, rfl, hT, hI, hK, hb, hbd⟩ := z
    refine ⟨tp, iv, db, rfl, hT, hI, hK, ?_⟩
    rcases hb with rfl | hb
    · exact ⟨by assumption, hdl⟩
    · exact ⟨fun q => fr_live F (q ▸ hb), fun q => f2.live (q ▸ hb)⟩
  have hPlen : PS.length = ws.length := by rw [hPS]; simp [partEx]
  have hl3 : us.length ≤ 3 := by rw [hPQ.1, hPlen]; exact hx.1
  have hPat : ∀ (i : Nat) (q : Ex × List Str), PS[i]? = some q → ∃ z, ws[i]? = some z ∧ q.1 = .seq z ∧ ∀ y ∈ q.2, y ∈ T4 := by
    intro i q hq
    have hi : i < ws.length := by rw [← hPlen]; exact (List.getElem?_eq_some_iff.mp hq).1
    have e2 : (ws.map Ex.seq)[i]? = some (.seq ws[i]) := by simp [hi]
    rw [hPS] at hq
    exact ⟨ws[i], by simp [hi], partAlt_at hk hq e2⟩
  have hlen : ∀ i, ((PS.take i).flatMap (confPart S Fs nm)).length ≤ 18 := by
    intro i
    have h1 := flat_len (f := confPart S Fs nm) (m := 6) (PS.take i) (by
      intro q hq
      obtain ⟨j, hj⟩ := List.getElem?_of_mem (List.mem_of_mem_take hq)
      obtain ⟨z, hz, hq1, _⟩ := hPat j q hj
      obtain ⟨q1, q2⟩ := q
      subst hq1
      exact confSeqP_len (hx.2 z (List.mem_of_getElem? hz)).1)
    rw [List.length_take, hPlen] at h1
    have : ws.length ≤ 3 := hx.1
    omega
  have Z4 := Z.nil Y
  refine ⟨d, us, h₄, t₄, rfl, rfl, hU, on_of F4, [h.objs.size, l], fun i h' => FrW base h.objs.size h' m0 (Str.ofString "behind") (Str.ofString "item") ∧ Fd base h' l (h.objs.size :: N) (es ++ (PS.take i).flatMap (confPart S Fs nm)) ∧
    All2 (PartOf w base h' fun db => db ≠ h.objs.size ∧ db ≠ l) us PS, ?_, ?_, ⟨.init F4, by simpa using f4, hPQ⟩, ?_, ?_, ?_⟩
  · exact not_cons hdL (nin1 hdl2)
  · exact mem_cons2 F4.ns.lt fun a q => by rw [List.mem_singleton.mp q]; exact f4.lt
  · rintro i h h' ⟨F, f, hP⟩ S
    exact ⟨F.soft S, f.soft S, hP.imp fun _ _ z => z.soft S⟩
  · rintro i v h₅ t₅ R9 hi hv X₅ ⟨⟨u1, u2, F⟩, f, hPQ⟩ hLT9
    subst hm
    obtain ⟨q, hq, hpw⟩ := hPQ.get hv
    obtain ⟨tp, iv, db, rfl, hT, hI, hK, hbL, hbl⟩ := id hpw
    obtain ⟨z, hz3, hq1, hq4⟩ := hPat i q hq
    obtain ⟨q1, q2⟩ := q
    subst hq1
    have hli := hlen i
    repeat' (walk_at "mm")
    intro h₆ t₆ F Y₆
    have F := FrW.step F (by decide)
    have f := f.ext Y₆ sub_hd (nin1 hLl)
    have hI := hI.ext Y₆
    have hK := hK.ext Y₆ (nin1 hbL)
    have hPQ := hPQ.imp fun _ _ z => z.ext Y₆ (fun a q => by rw [List.mem_singleton.mp q]; exact fun q => q.1 rfl)
    have X6 := (Z4.step X₅).step (Y₆.more sub_two)
    repeat' (walk_at "mm")
    refine fc_seq C (hA₁.less (by decide)) (on_of F) G (X0.trans X6 hal2) hl0 hI (exok_seq (hx.2 z (List.mem_of_getElem? hz3))) hK hq4 (mem_cons2 (P := fun a => h₆.get? a ≠ none) (fr_live F) fun a q e => hN a q (X6.gone e)) f (by rw [List.length_append]; omega) ?_
    intro h₇ t₇ Y₇ f
    have F := fr_ext F Y₇ (nin1 (Ne.symm hLl))
    have hPQ := hPQ.imp fun _ _ z => z.ext Y₇ (fun a q => by rw [List.mem_singleton.mp q]; exact fun q => q.2 rfl)
    repeat' (walk_at "mm")
    refine for_next hLT9 ((Y₆.more sub_two).step (Y₇.more sub_two')) ⟨.of F, ?_, hPQ⟩
    have hts : PS.take (i + 1) = PS.take i ++ [(.seq z, q2)] := by rw [List.take_add_one, hq]; rfl
    rw [hts, List.flatMap_append, ← List.append_assoc, List.flatMap_cons, List.flatMap_nil, List.append_nil]
    rw [← hS, ← hFs] at f
    exact f
  · rintro h₅ t₅ X₅ ⟨F, f, hPQ⟩
    repeat' (walk_at "mm")
    refine hQ _ _ (off_frame (Z4.step X₅) (get?_size h)) ?_
    have f := f.less
    rw [hPQ.1, List.take_length, hes] at f
    rw [List.append_assoc, hPS, hS, hFs] at f; exact f
end
-- part M15
section
variable {w : World} {A : Around} {k : Nat} {base h : Heap} {g : Array GenState} {dr : Drawn} {t : Nat} {os : OsState}
structure GrF (C : Bs w base) (h : Heap) (x : Addr) (ga : GA) (fl : List (Str × Value)) (R : Rules) (E : List Str) (Ds : List Addr) (FS : List (List Str)) (dw : Addr) (Dw : List Addr) (WS : List (List Str)) : Prop where
  gr : Gr C h x ga fl R E Ds FS
  f5 : lk (Str.ofString "follows") fl = some (.ref dw)
  fol : Fam w base h dw (R.map (·.1)) Dw WS
  fsub : SubT T4 WS
theorem GrF.ext {C : Bs w base} {h h' : Heap} {x : Addr} {ga : GA} {fl : List (Str × Value)} {R : Rules} {E : List Str} {Ds : List Addr} {FS : List (List Str)} {dw : Addr} {Dw : List Addr} {WS : List (List Str)} (G : GrF C h x ga fl R E Ds FS dw Dw WS) (X : Ext base [] h h') : GrF C h' x ga fl R E Ds FS dw Dw WS :=
  ⟨G.gr.ext X, G.f5, G.fol.ext X nin0 (fun _ _ => nin0), G.fsub⟩
noncomputable def confAll (S : Str → Bool) (Fs Ws : Str → List Str) (R : Rules) : List Cf := R.flatMap fun r => confAlt S Fs r.1 (Ws r.1) r.2
theorem confAlt_len {S : Str → Bool} {Fs : Str → List Str} {nm : Str} {ka : List Str} {ws : List (List Pc)} (h1 : ws.length ≤ 3) (h2 : ∀ ps ∈ ws, ps.length ≤ 3) : (confAlt S Fs nm ka ws).length ≤ 27 := by
  have a1 := altC_len nm (ws.map fun ps => predEx S Fs (.seq ps) ka) ws.length
  have a2 : ws.length * ws.length ≤ 9 := Nat.mul_le_mul h1 h1
  have a3 := flat_len (f := confPart S Fs nm) (m := 6) (partEx S Fs ka (.alt ws)) (fun q hq => by
    obtain ⟨ps, hps, rfl⟩ := List.mem_map.mp hq
    exact confSeqP_len (h2 ps hps))
  have a4 : (partEx S Fs ka (.alt ws)).length = ws.length := by simp [partEx]
  rw [a4] at a3
  rw [confAlt, List.length_append]; omega
theorem conflicts_spec (C : Bs w base) {x : Addr} {ga : GA} {fl : List (Str × Value)} {R : Rules} {E : List Str} {Ds : List Addr} {FS : List (List Str)} {dw : Addr} {Dw : List Addr} {WS : List (List Str)} {N : List Addr} {Q : Value → Shared → Prop} (hA : Ok A 12) (hO : On base h) (hN : ∀ a ∈ N, h.get? a ≠ none) (G : GrF C h x ga fl R E Ds FS dw Dw WS)
    (hQ : ∀ h' t' d, Ext base [] h h' → h.get? d = none → Fd base h' d N (confAll (inE E) (fsAt (R.map (·.1)) FS) (fsAt (R.map (·.1)) WS) R) → Q (.ref d) ⟨h', g, dr, t', os⟩) :
    wpAny (model pw w) A (call (.ref (C.f 14)) [.ref x]) Q NoE ⟨h, g, dr, t, os⟩ := by
  refine call_fn hA (C.fn 14 (by decide)).1 C.nolim hO (binds := [(Str.ofString "grammar", .ref x)]) (fun _ _ _ => rfl) rfl rfl ⟨rfl, rfl, rfl⟩ ?_
  intro R0 cd h₁ t₁ A₁ hFin hA₁ F X
  have hD : dn 14 = dn 14 := rfl
  conv at hD => rhs; whnf
  rw [hD]
  dsimp only
  clear hD
  have hh := hA₁.hh
  have hR := G.gr.wf
  repeat' (walk_at "mm")
  refine disp F (by simp) ?_
  intro h₂ d hd hLd F hW Y
  have hdn : h₁.get? d = none := by rw [hd]; exact get?_size _
  have hdn0 : h.get? d = none := X.gone hdn
  have X := X.nil Y
  have hdL : d ≠ h.objs.size := Nat.ne_of_gt hLd
  repeat' (walk_at "mm")
  intro h₃ t₃ F Y
  have X := X.frm Y
  have hW := hW.ext Y (nin1 hdL)
  have f3 : Fd base h₃ d (h.objs.size :: N) [] := ⟨_, hW, All2.nil⟩
  have G3 := G.ext X
  have I := G3.gr.inst
  have f1 := G3.gr.f1
  have ⟨m0, hm, F⟩ := fr_name F
  repeat' (walk_at "mm")
  refine for_list (base := base) hA₁.hh ?_ (by intro _; rfl) (.inl (by intro _ _; rfl))
  have F' := F
  rw [hm] at F'
  repeat' (walk_at "mm")
  obtain ⟨vs, hvs, hlen0, hget⟩ := G3.gr.ord.get
  obtain ⟨vs0, hvs0, _⟩ := G.gr.ord.get
  have hlol : ga.lo ≠ d := fun q => hvs0.live (q ▸ hdn0)
  have hloL : ga.lo ≠ h.objs.size := ne_lt hvs0.lt
  obtain ⟨PF, hPF⟩ : ∃ PF : (Str × List (List Pc)) → List Cf, PF = fun r => confAlt (inE E) (fsAt (R.map (·.1)) FS) r.1 (fsAt (R.map (·.1)) WS r.1) r.2 := ⟨_, rfl⟩
  have hlen : ∀ i, ((R.take i).flatMap PF).length ≤ 108 := by
    intro i
    have h1 := flat_len (f := PF) (m := 27) (R.take i) (by
      intro r hr
      have hr := List.mem_of_mem_take hr
      rw [hPF]
      exact confAlt_len (hR.ways r hr) (hR.parts r hr))
    rw [List.length_take] at h1
    have := hR.few
    omega
  refine ⟨ga.lo, vs, _, _, rfl, rfl, hvs, on_of F', [h.objs.size, d], fun i h' => FrU base h.objs.size h' m0 (Str.ofString "name") ∧ Fd base h' d (h.objs.size :: N) ((R.take i).flatMap PF), ?_, ?_, ⟨.init F, by simpa using f3⟩, ?_, ?_, ?_⟩
  · exact nin2 hloL hlol
  · exact mem_cons2 F.ns.lt fun a q => by rw [List.mem_singleton.mp q]; exact f3.lt
  · rintro i h h' ⟨F, f⟩ S
    exact ⟨F.soft S, f.soft S⟩
  · rintro i v h₄ t₄ R9 hi hv X₄ ⟨⟨u, F⟩, f⟩ hLT9
    subst hm
    obtain ⟨r, u', hr, rfl⟩ := hget i v hv
    have hrm := List.mem_of_getElem? hr
    have hrn : r.1 ∈ R.map (·.1) := List.mem_map.mpr ⟨r, hrm, rfl⟩
    have hal2 : ∀ a ∈ [h.objs.size, d], a ∈ ([] : List Addr) ∨ h.get? a = none := mem_cons2 (P := fun a => a ∈ ([] : List Addr) ∨ h.get? a = none) (.inr (get?_size h)) fun a q => by rw [List.mem_singleton.mp q]; exact .inr hdn0
    repeat' (walk_at "mm")
    intro h₅ t₅ F Y₅
    have F := fr_again F
    have f := f.ext Y₅ sub_hd (nin1 hdL)
    have X₅ : Ext base [] h h₅ := X.trans (X₄.step (Y₅.more sub_two)) hal2
    have G5 := G.ext X₅
    have I := G5.gr.inst
    have f2 := G5.gr.f2
    have f5 := G5.f5
    obtain ⟨tbl, va, htd, hva, hal⟩ := G5.gr.tab.get hrm
    obtain ⟨j, a, hj, hja, hva2, haD, hKa⟩ := G5.fol.get hR.nodup hrn
    have hfd := G5.fol.dict
    have hx := hR.exOK hrm
    have hli := hlen i
    repeat' (walk_at "mm")
    refine fc_alt C (hA₁.less (by decide)) (on_of F) G.gr X₅ hdn0 (IsEx.ofAlt hal) hx hKa (G.fsub.at _) (mem_cons2 (P := fun a => h₅.get? a ≠ none) (fr_live F) fun a q e => hN a q (X₅.gone e)) f (by omega) ?_
    intro h₆ t₆ Y₆ f
    have F := fr_ext F Y₆ (nin1 (Ne.symm hdL))
    repeat' (walk_at "mm")
    refine for_next hLT9 ((Y₅.more sub_two).step (Y₆.more sub_two')) ⟨.of F, ?_⟩
    have hts : R.take (i + 1) = R.take i ++ [r] := by rw [List.take_add_one, hr]; rfl
    rw [hts, List.flatMap_append, List.flatMap_cons, List.flatMap_nil, List.append_nil]
    rw [hPF] at f ⊢
    exact f
  · rintro h₄ t₄ X₄ ⟨⟨u, F⟩, f⟩
    subst hm
    have hal2 : ∀ a ∈ [h.objs.size, d], a ∈ ([] : List Addr) ∨ h.get? a = none := mem_cons2 (P := fun a => a ∈ ([] : List Addr) ∨ h.get? a = none) (.inr (get?_size h)) fun a q => by rw [List.mem_singleton.mp q]; exact .inr hdn0
    repeat' (walk_at "mm")
    have f := f.less
    rw [hlen0, List.take_length, hPF] at f
    exact hQ _ _ _ (X.trans X₄ hal2) hdn0 f
end
-- part M16
section
variable {w : World} {A : Around} {k : Nat} {base h : Heap} {g : Array GenState} {dr : Drawn} {t : Nat} {os : OsState}
theorem follow_rows_spec (C : Bs w base) {x : Addr} {ga : GA} {fl : List (Str × Value)} {R : Rules} {E : List Str} {Ds : List Addr} {FS : List (List Str)} {st : Str} {su : Tok} {Q : Value → Shared → Prop} (hA : Ok A 12) (hO : On base h) (G : Gr C h x ga fl R E Ds FS) (f0 : lk (Str.ofString "start") fl = some (.str st su)) (hst : st ∈ R.map (·.1))
    (hQ : ∀ h' dw Dw WS t', Ext base [] h h' → h.get? dw = none → (∀ a ∈ Dw, h.get? a = none) → Fam w base h' dw (R.map (·.1)) Dw WS → SubT T4 WS → Q (.ref dw) ⟨h', g, dr, t', os⟩) :
    wpAny (model pw w) A (call (.ref (C.f 10)) [.ref x]) Q NoE ⟨h, g, dr, t, os⟩ := by
  refine call_fn hA (C.fn 10 (by decide)).1 C.nolim hO (binds := [(Str.ofString "grammar", .ref x)]) (fun _ _ _ => rfl) rfl rfl ⟨rfl, rfl, rfl⟩ ?_
  intro R0 cd h₁ t₁ A₁ hFin hA₁ F X
  have hD : dn 10 = dn 10 := rfl
  conv at hD => rhs; whnf
  rw [hD]
  dsimp only
  clear hD
  have hh := hA₁.hh
  have hR := G.wf
  have hL := G.ord
  have hloL : ga.lo < h.objs.size := by obtain ⟨_, q, _⟩ := hL; exact q.lt
  repeat' (walk_at "mm")
  refine dict_new C F ?_
  intro h₂ df hde hLd F hD Y
  have X := X.nil Y
  have hdn : h.get? df = none := Heap.get?_none_of_le (Nat.le_of_lt hLd)
  repeat' (walk_at "mm")
  intro h₃ t₃ F Y
  have X := X.frm Y
  have hD := hD.ext Y (nin1 (ne_gt hLd))
  have G3 := G.ext X
  have I := G3.inst
  have f1 := G3.f1
  have ⟨m0, hm, F⟩ := fr_name F
  repeat' (walk_at "mm")
  refine for_list (base := base) hA₁.hh ?_ (by intro _; rfl) (.inl (by intro _ _; rfl))
  have F' := F
  rw [hm] at F'
  repeat' (walk_at "mm")
  obtain ⟨vs, hvs, hlen, hget⟩ := G3.ord.get
  refine ⟨ga.lo, vs, _, _, rfl, rfl, hvs, on_of F', [df, h.objs.size], fun i h' => FrU base h.objs.size h' m0 (Str.ofString "name") ∧ ∃ Ds, Fam w base h' df ((R.map (·.1)).take i) Ds (List.replicate i []) ∧ ∀ a ∈ Ds, h.objs.size < a, ?_, ?_, ⟨.init F, [], Fam.nil hD, fun _ q => nomatch q⟩, ?_, ?_, ?_⟩
  · exact nin2 (ne_lt (Nat.lt_trans hloL hLd)) (ne_lt hloL)
  · intro a m
    rcases List.mem_cons.mp m with rfl | m
    · exact hD.lt
    · exact lt1 F' a m
  · rintro i h h' ⟨F, Ds, f, ha⟩ S
    exact ⟨F.soft S, Ds, f.soft S, ha⟩
  · rintro i v h₄ t₄ R9 hi hv X₄ ⟨⟨u, F⟩, Ds, f, hDs⟩ hLT9
    subst hm
    obtain ⟨r, u', hr, rfl⟩ := hget i v hv
    repeat' (walk_at "mm")
    intro h₅ t₅ F Y₅
    have F := fr_again F
    have f := f.ext Y₅ (nin1 (ne_gt hLd)) (fun a ha => nin1 (ne_gt (hDs a ha)))
    repeat' (walk_at "mm")
    refine dict_new C F ?_
    intro h₆ d' hd' hLd' F hD' Y₆
    have f6 := f.ext Y₆ nin0 (fun _ _ => nin0)
    have hda : df ≠ d' := by rw [hd']; exact ne_lt f.dict.lt
    have hns : ((R.map (·.1)).take i).length ≤ 4 := Nat.le_trans (List.length_take_le' _ _) (by rw [List.length_map]; exact hR.few)
    repeat' (walk_at "mm")
    refine dict_set f6.dict (by rw [List.length_zip]; omega) ?_
    intro h₇ t₇ hst Y₇
    have F := fr_ext F Y₇ (nin1 (ne_lt hLd))
    have hx : r.1 ∉ (R.map (·.1)).take i := fun hm => by
      obtain ⟨j, hj⟩ := List.getElem?_of_mem hm
      have hji : j < i := by
        have := (List.getElem?_eq_some_iff.mp hj).1
        rw [List.length_take] at this; omega
      rw [List.getElem?_take_of_lt hji] at hj
      have hri : (R.map (·.1))[i]? = some r.1 := by rw [List.getElem?_map, hr]; rfl
      obtain ⟨h1, e1⟩ := List.getElem?_eq_some_iff.mp hj
      obtain ⟨h2, e2⟩ := List.getElem?_eq_some_iff.mp hri
      have := (List.getElem_inj hR.nodup).mp (e1.trans e2.symm)
      omega
    have f7 := f6.snoc hx hD' (fun hm => by rw [hd'] at hm; exact Nat.lt_irrefl _ (f.lts _ hm)) hda hst Y₇
    repeat' (walk_at "mm")
    refine for_next hLT9 (((Y₅.more (by simp)).step (Y₆.more (by simp))).step (Y₇.more (by simp))) ⟨.of F, Ds ++ [d'], ?_, ?_⟩
    · rw [List.take_add_one, List.getElem?_map, hr, List.replicate_succ']
      exact f7
    · intro a ha
      rcases List.mem_append.mp ha with ha | ha
      · exact hDs a ha
      · rw [List.mem_singleton.mp ha]; exact hLd'
  · rintro h₄ t₄ X₄ ⟨⟨u, F⟩, Ds, f, hDs⟩
    subst hm
    have X := X.frm2 X₄ (.inr hdn)
    have htk : (R.map (·.1)).take vs.length = R.map (·.1) := by rw [hlen]; rw [List.take_of_length_le (by rw [List.length_map]; exact Nat.le_refl _)]
    rw [htk] at f
    have hDn : ∀ a ∈ Ds, h.get? a = none := fun a ha => Heap.get?_none_of_le (Nat.le_of_lt (hDs a ha))
    have hsub : SubT T4 (List.replicate vs.length ([] : List Str)) := fun ks hk => by rw [List.eq_of_mem_replicate hk]; exact fun _ q => nomatch q
    generalize List.replicate vs.length ([] : List Str) = FS1 at f hsub
    have G4 := G.ext X
    have I := G4.inst
    have hfd := f.dict
    obtain ⟨j, ja, hj, hja, hva2, haD, hKa⟩ := f.get hR.nodup hst
    have hin : (keysIn ((R.map (·.1)).zip (Ds.map Value.ref))) st = true := by
      rw [show keysIn ((R.map (·.1)).zip (Ds.map Value.ref)) st = (valueAt ((R.map (·.1)).zip (Ds.map Value.ref)) st).isSome from rfl, hva2]; rfl
    have hl4 : (fsAt (R.map (·.1)) FS1 st).length ≤ 4 := nodup_len (tt_nodup hKa.nodup) (hsub.at st)
    repeat' (walk_at "mm")
    rw [hva2]
    refine ite_t ?_
    repeat' (walk_at "mm")
    refine ks_set hKa (by omega) ?_
    intro h₅ t₅ hKb Y₅
    have F := fr_ext F Y₅ (nin1 (ne_lt (hDs _ haD)))
    have X := X.trans Y₅ (fun a q => .inr (by rw [List.mem_singleton.mp q]; exact hDn _ haD))
    have f := f.setAt hja Y₅ hKb
    have hsub := hsub.set (i := j) (ks := addK (fsAt (R.map (·.1)) FS1 st) (Str.ofString "eof")) (fun y hy => by
      unfold addK at hy
      split at hy
      · exact hsub.at st y hy
      · rcases List.mem_append.mp hy with q | q
        · exact hsub.at st y q
        · rw [List.mem_singleton.mp q]; decide)
    generalize FS1.set j _ = WS at f hsub
    repeat' (walk_at "mm")
    intro h₅ t₅ F Y₅
    have X := X.frm Y₅
    have f := f.ext Y₅ (nin1 (ne_gt hLd)) (fun a ha => nin1 (ne_gt (hDs a ha)))
    have ⟨m0, hm, F⟩ : ∃ m0, m0 = _ ∧ FrV base h.objs.size h₅ m0 (Str.ofString "name") (Str.ofString "grown") (.bool true) := ⟨_, rfl, FrV.of (fr_comm F (by decide))⟩
    have hdfD : ∀ a ∈ Ds, df ≠ a := fun a ha e => f.off (e ▸ ha)
    have hN4 : (R.map (·.1)).length ≤ 4 := by rw [List.length_map]; exact hR.few
    repeat' (walk_at "mm")
    refine while_rule2 (fun n h' => ∃ b WS, FrV base h.objs.size h' m0 (Str.ofString "name") (Str.ofString "grown") (.bool b) ∧ Fam w base h' df (R.map (·.1)) Ds WS ∧ SubT T4 WS ∧ Ext base [] h h' ∧
      n = (16 - total WS) + (if b = true then 1 else 0)) _ ?_ ⟨true, WS, F, f, hsub, X, rfl⟩
    rintro n h₆ t₆ R9 ⟨b, WS, ⟨u, F⟩, f, hsub, X, rfl⟩ hWT9
    subst hm
    cases b with
    | false =>
      repeat' (walk_at "mm")
      exact hQ _ _ _ _ _ X hdn hDn f hsub
    | true =>
      repeat' (walk_at "mm")
      intro h₇ t₇ F Y
      have X := X.frm Y
      have f := f.ext Y (nin1 (ne_gt hLd)) (fun a ha => nin1 (ne_gt (hDs a ha)))
      have F := FrV.flag F (by decide)
      have ⟨m0, hm, F⟩ : ∃ m0, m0 = _ ∧ FrV base h.objs.size h₇ m0 (Str.ofString "name") (Str.ofString "grown") (.bool false) := ⟨_, rfl, F⟩
      have G7 := G.ext X
      have I := G7.inst
      have f1 := G7.f1
      repeat' (walk_at "mm")
      refine for_list (base := base) hA₁.hh ?_ (by intro _; rfl) (.inl (by intro _ _; rfl))
      have ⟨u, F'⟩ := F
      rw [hm] at F'
      repeat' (walk_at "mm")
      obtain ⟨vs, hvs, hlen, hget⟩ := (hL.ext X nin0).get
      refine ⟨ga.lo, vs, _, _, rfl, rfl, hvs, on_of F', h.objs.size :: Ds, fun i h' => ∃ b WS', FrV base h.objs.size h' m0 (Str.ofString "name") (Str.ofString "grown") (.bool b) ∧ Fam w base h' df (R.map (·.1)) Ds WS' ∧ SubT T4 WS' ∧
        total WS ≤ total WS' ∧ (b = true → total WS < total WS'), ?_, ?_, ⟨false, WS, F, f, hsub, Nat.le_refl _, fun e => nomatch e⟩, ?_, ?_, ?_⟩
      · exact not_cons (ne_lt hloL) (fun hm => Nat.lt_irrefl _ (Nat.lt_trans hloL (hDs ga.lo hm)))
      · exact mem_cons2 (lt1 F' _ (.head _)) f.lts
      · rintro i h h' ⟨b, FS', F, f, rest⟩ S
        exact ⟨b, FS', F.soft S, f.soft S, rest⟩
      · rintro i v h₈ t₈ R9 hi hv X₈ ⟨b, WS', ⟨u, F⟩, f, hsub, h1, h2⟩ hLT9
        subst hm
        obtain ⟨r, u', hr, rfl⟩ := hget i v hv
        have hrm := List.mem_of_getElem? hr
        have hrn : r.1 ∈ R.map (·.1) := List.mem_map.mpr ⟨r, hrm, rfl⟩
        have X₉ := X.trans X₈ (mem_cons2 (P := fun a => a ∈ ([] : List Addr) ∨ h.get? a = none) (.inr (get?_size h)) fun a ha => .inr (hDn a ha))
        repeat' (walk_at "mm")
        intro h₉ t₉ F Y₉
        have F := fr_again F
        have f := f.ext Y₉ (nin1 (ne_gt hLd)) (fun a ha => nin1 (ne_gt (hDs a ha)))
        have X₉ := X₉.frm Y₉
        have G9 := G.ext X₉
        have I := G9.inst
        have f2 := G9.f2
        obtain ⟨tbl, va, htd, hva, hal⟩ := G9.tab.get hrm
        obtain ⟨j, a, hj, hja, hva2, haD, hKa⟩ := f.get hR.nodup hrn
        have hfd := f.dict
        repeat' (walk_at "mm")
        refine af_alt C (hA₁.less (by decide)) (on_of F) hR f hsub (.inl haD) G X₉ hDn (IsEx.ofAlt hal) (hR.exOK hrm) ?_
        intro h₁₀ t₁₀ b' WS'' Y₁₀ f hsub h3 h4
        have F := fr_ext F Y₁₀ (fun q => Nat.lt_irrefl _ (hDs _ q))
        repeat' (walk_at "mm")
        cases b' with
        | true =>
          have h4 := h4 rfl
          repeat' (walk_at "mm")
          intro h₁₂ t₁₂ F Y₁₂
          have f := f.ext Y₁₂ (nin1 (ne_gt hLd)) (fun a ha => nin1 (ne_gt (hDs a ha)))
          repeat' (walk_at "mm")
          refine for_next hLT9 (((Y₉.more sub_cons).step (Y₁₀.more (fun a q => .tail _ q))).step (Y₁₂.more sub_cons)) ⟨true, _, FrV.flag F (by decide), f, hsub, by omega, fun _ => by omega⟩
        | false =>
          repeat' (walk_at "mm")
          refine for_next hLT9 ((Y₉.more sub_cons).step (Y₁₀.more (fun a q => .tail _ q))) ⟨b, _, FrV.of F, f, hsub, by omega, fun e => by have := h2 e; omega⟩
      · rintro h₈ t₈ X₈ ⟨b, WS', F, f, hsub, h1, h2⟩
        subst hm
        repeat' (walk_at "mm")
        have hB : ∀ ks ∈ WS', ks.length ≤ 4 := f.small hsub
        have htl := total_le hB
        rw [f.fsLen] at htl
        refine whl_next hWT9 (m := (16 - total WS') + (if b = true then 1 else 0)) ?_ ⟨b, WS', F, f, hsub, X.trans X₈ (mem_cons2 (P := fun a => a ∈ ([] : List Addr) ∨ h.get? a = none) (.inr (get?_size h)) fun a ha => .inr (hDn a ha)), rfl⟩
        cases b with
        | true => have := h2 rfl; simp only [if_true]; omega
        | false => simp only [Bool.false_eq_true, if_false, if_true]; omega
end
-- part L20
section
variable {w : World} {A : Around} {k : Nat} {base h : Heap} {g : Array GenState} {dr : Drawn} {t : Nat} {os : OsState}
theorem call_code {f : Addr} {q : Str} {D : Dn} {args : List Value} {binds : List (Str × Value)} {R : Result → Shared → Prop}
    (hA : Ok A (k + 1)) (hf : FnIs base f q D) (hn : base.NoLimit) (hO : On base h)
    (hb : ∀ pm cd doc, bindArgs { name := D.name, qualname := q, params := D.params, body := .stmts D.body, scope := D.scope, globals := mainGlobals, closure := [], defaults := .none, kwdefaults := .none, doc := doc, pyModule := pm, code := cd, builtins := builtinsNs } ⟨args, []⟩ = pure binds)
    (hcell : (D.scope.names.all fun x => decide (x.2 ≠ .cell)) = true) (hloc : (binds.all fun x => decide (D.scope.names.lookup x.1 = some .local)) = true)
    (hsc : D.scope.isCoroutine = false ∧ D.scope.isGenerator = false ∧ D.scope.kind = .function)
    (body : ∀ R' cd h₁ t₁ A₁, Fin_ (fun v s' => R (.ok (.ret v)) s') R' → Ok A₁ k → Fr base h.objs.size h₁ (fun x => binds.reverse.lookup x) → Ext base [] h h₁ →
      wpAny (model pw w) A₁ (execs D.body (envOf q D.scope h.objs.size f cd)) R' NoE ⟨h₁, g, dr, t₁, os⟩) :
    codeAny (model pw w) A (.call (.ref f) ⟨args, []⟩) R ⟨h, g, dr, t, os⟩ := by
  obtain ⟨o, pm, cd, doc, ho, hd, hc⟩ := hf.is
  refine (codeAny_call_def (s := ⟨h, g, dr, t, os⟩) hA.room (hO.keep _ _ ho) hd (hn.keeps hO.keep) (hc.keeps hO.keep) rfl (BindsTo.of_eq (hb pm cd doc)) ?_ ?_ ?_ hsc.1 hsc.2.1 hsc.2.2)
  · intro x hx; exact of_decide_eq_true (List.all_eq_true.mp hcell x hx)
  · exact locs hloc
  · intro h₁ hns hk₁
    refine wpAny_mono (body _ cd h₁ _ _ (fin_q (fun v s' => R (.ok (.ret v)) s')) (hA.deeper _) ⟨hns, fun b o e => hk₁ b o (hO.keep b o e), hO.size⟩ (.of_keeps hk₁)) (fun fl s' x => x) (fun _ _ x => x.elim)
theorem Ok.make {A : Around} {k : Nat} (x : Ok A (k + 1)) (C : Addr) (vals : List Value) : Ok (A.under (.builtin "type.__call__" ⟨.ref C :: vals, []⟩)) k where
  hh := x.hh
  dp := by have := x.dp; have e : (A.under (.builtin "type.__call__" ⟨.ref C :: vals, []⟩)).depth = A.depth + 1 := rfl; rw [e]; omega
  un := by have := x.un; have e : (A.under (.builtin "type.__call__" ⟨.ref C :: vals, []⟩)).units = A.units + 1 := rfl; rw [e]; omega
  gd := by
    have e : Code.guards (.builtin "type.__call__" ⟨.ref C :: vals, []⟩) = [] := by
      unfold Code.guards Code.isGuard
      rw [if_neg (by show ¬ guardIds.contains "type.__call__" = true; decide +kernel)]
    have e2 : (A.under (.builtin "type.__call__" ⟨.ref C :: vals, []⟩)).guards = pushGuards (Code.guards (.builtin "type.__call__" ⟨.ref C :: vals, []⟩)) A.guards := rfl
    rw [e2, e]; exact x.gd
  fr := by
    have e2 : (A.under (.builtin "type.__call__" ⟨.ref C :: vals, []⟩)).frames = pushEnvs (Code.envs (.builtin "type.__call__" ⟨.ref C :: vals, []⟩)) A.frames := rfl
    have e : Code.envs (.builtin "type.__call__" ⟨.ref C :: vals, []⟩) = [] := rfl
    rw [e2, e]; exact x.fr
theorem make_g (C : Bs w base) {rest : List Value} {Q : Value → Shared → Prop} (hA : Ok A (k + 1)) (hO : On base h)
    (hq : ∀ h' x dx A₁, Ok A₁ k → On base h' → InstD C h' x dx [] → h.get? x = none → h.get? dx = none → Ext base [] h h' →
      codeAny (model pw w) A₁ (.call (.ref (C.m 0)) ⟨.ref x :: rest, []⟩) (InitBack x (fun r s' => match r with | .ok (.ret v) => Q v s' | .ok _ => False | .error e => NoE e s')) ⟨h', g, dr, t, os⟩) :
    wpAny (model pw w) A (call (.ref C.cls) rest) Q NoE ⟨h, g, dr, t, os⟩ := by
  refine wpAny_call ?_
  have X := C.X
  have X' : C.K.In h := C.X.keeps hO.keep
  have hm := (C.mq 0 (by decide))
  refine make_core (makes_of X' C.makes) (looks_findIn X' hm.2.1) (fun self => bind_fn X' self (by have := hm.2.2.1; unfold isFn at this; exact eq_of_beq this)) (.inl rfl) ?_
  have k1 : ∀ b o, h.get? b = some o → ((h.push emptyDict).push (instObj C.cls h.objs.size)).get? b = some o := fun b o e => Heap.get?_push_of_some _ (Heap.get?_push_of_some _ e)
  have hs1 : (h.push emptyDict).objs.size = h.objs.size + 1 := Heap.size_push ..
  refine hq _ _ h.objs.size _ (hA.make _ _) ⟨fun b o e => k1 b o (hO.keep b o e), by rw [Heap.size_push, hs1]; have := hO.size; omega⟩ ⟨Heap.get?_none_of_le (Nat.le_succ_of_le hO.size), new_base hO, Nat.succ_ne_self _, ?_, [], 0, ?_, All2.nil⟩ (Heap.get?_none_of_le (Nat.le_succ _)) (get?_size h) (.of_keeps k1)
  · have := Heap.get?_push_size (h.push emptyDict) (o := instObj C.cls h.objs.size) rfl
    rw [hs1] at this; exact this
  · exact Heap.get?_push_of_some _ (Heap.get?_push_size h rfl)
end
-- part M17
section
variable {w : World} {A : Around} {k : Nat} {base h : Heap} {g : Array GenState} {dr : Drawn} {t : Nat} {os : OsState}
noncomputable def RuleOk (h : Heap) (v : Value) (r : Str × List (List Pc)) : Prop := ∃ tp u av, v = .ref tp ∧ Tp h tp [.str r.1 u, av] ∧ IsAlt h av r.2
theorem RuleOk.ext {h h' : Heap} {W : List Addr} {v : Value} {r : Str × List (List Pc)} (x : RuleOk h v r) (X : Ext base W h h') : RuleOk h' v r := let ⟨tp, u, av, e, h1, h2⟩ := x; ⟨tp, u, av, e, h1.ext X, h2.ext X⟩
theorem RuleOk.soft {h h' : Heap} {v : Value} {r : Str × List (List Pc)} (x : RuleOk h v r) (X : Soft base h h') : RuleOk h' v r := let ⟨tp, u, av, e, h1, h2⟩ := x; ⟨tp, u, av, e, h1.soft X, h2.soft X⟩
noncomputable def RL (B h : Heap) (l : Addr) (R : Rules) : Prop := ∃ vs, Ls B h l vs ∧ All2 (RuleOk h) vs R
theorem RL.ext {h h' : Heap} {W : List Addr} {l : Addr} {R : Rules} (x : RL base h l R) (X : Ext base W h h') (hl : l ∉ W) : RL base h' l R := let ⟨vs, h1, h2⟩ := x; ⟨vs, h1.ext X hl, h2.imp fun _ _ z => z.ext X⟩
theorem RL.soft {h h' : Heap} {l : Addr} {R : Rules} (x : RL base h l R) (X : Soft base h h') : RL base h' l R := let ⟨vs, h1, h2⟩ := x; ⟨vs, h1.soft X, h2.imp fun _ _ z => z.soft X⟩
theorem RL.lt {h : Heap} {l : Addr} {R : Rules} (x : RL base h l R) : l < h.objs.size := let ⟨_, h1, _⟩ := x; h1.lt
theorem Tab.soft {h h' : Heap} {d : Addr} {R : Rules} (x : Tab w base h d R) (X : Soft base h h') : Tab w base h' d R := let ⟨tbl, a, b⟩ := x; ⟨tbl, a.soft X, b.imp fun _ _ z => ⟨z.1, z.2.soft X⟩⟩
theorem OrdL.soft {h h' : Heap} {l : Addr} {R : Rules} (x : OrdL base h l R) (X : Soft base h h') : OrdL base h' l R := let ⟨vs, a, b⟩ := x; ⟨vs, a.soft X, b⟩
theorem sub_sw {a b : Addr} : ∀ x ∈ [a, b], x ∈ [b, a] := fun x q => by
  rcases List.mem_cons.mp q with q | q
  · rw [q]; exact .tail _ (.head _)
  · rw [List.mem_singleton.mp q]; exact .head _
theorem sub3a {a b c : Addr} : ∀ x ∈ [a], x ∈ [a, b, c] := fun x q => by rw [List.mem_singleton.mp q]; exact .head _
theorem nin3 {a b c d : Addr} (h1 : a ≠ b) (h2 : a ≠ c) (h3 : a ≠ d) : a ∉ [b, c, d] := fun m => by
  rcases List.mem_cons.mp m with q | m
  · exact h1 q
  · exact nin2 h2 h3 m
theorem init_spec (C : Bs w base) {x dx lr : Addr} {R : Rules} {st : Str} {su : Tok} {RR : Result → Shared → Prop} (hA : Ok A 14) (hO : On base h) (I : InstD C h x dx []) (hRL : RL base h lr R) (hR : WF R) (hst : st ∈ R.map (·.1)) (hlr : lr ≠ dx)
    (hQ : ∀ h' t' ga fl E Ds FS dw Dw WS, Ext base [dx] h h' → GrF C h' x ga fl R E Ds FS dw Dw WS → ga.dx = dx → (∀ y, y ∈ E ↔ Nul R y) → (∀ a, h.get? a ≠ none → a ≠ ga.lo ∧ a ≠ ga.dt ∧ a ≠ ga.de ∧ a ≠ ga.df ∧ a ∉ Ds ∧ a ≠ dw ∧ a ∉ Dw) → RR (.ok (.ret .none)) ⟨h', g, dr, t', os⟩) :
    codeAny (model pw w) A (.call (.ref (C.m 0)) ⟨[.ref x, .ref lr, .str st su], []⟩) RR ⟨h, g, dr, t, os⟩ := by
  refine call_code hA (C.mq 0 (by decide)).1 C.nolim hO (binds := [(Str.ofString "self", .ref x), (Str.ofString "rules", .ref lr), (Str.ofString "start", .str st su)]) (fun _ _ _ => rfl) rfl rfl ⟨rfl, rfl, rfl⟩ ?_
  intro R0 cd h₁ t₁ A₁ hFin hA₁ F X
  have hD : mt 0 = mt 0 := rfl
  conv at hD => rhs; whnf
  rw [hD]
  dsimp only
  clear hD
  have hh := hA₁.hh
  have hdxL : dx ≠ h.objs.size := by obtain ⟨es, n, e, _⟩ := I.dict; exact ne_lt (Heap.lt_size e)
  have hxL : x ≠ h.objs.size := ne_lt (Heap.lt_size I.obj)
  have hxo : h.get? x ≠ none := by rw [I.obj]; simp
  have hdxo : h.get? dx ≠ none := by obtain ⟨es, n, e, _⟩ := I.dict; rw [e]; simp
  have hlrL : lr ≠ h.objs.size := ne_lt hRL.lt
  have I := I.ext X nin0 nin0
  repeat' (walk_at "mm")
  refine set_fld I F (by decide) (by rfl) (by simp) hdxL ?_
  intro h₂ t₂ F I Y₂
  have Z : Ext base [dx, h.objs.size] h h₂ := (X.more (fun _ q => nomatch q)).step Y₂
  repeat' (walk_at "mm")
  refine disp F (by decide) ?_
  intro h₃ lo hlo hLlo F hLo Y
  have hlo0 : h.get? lo = none := Z.gone (by rw [hlo]; exact get?_size _)
  have hloL : lo ≠ h.objs.size := Nat.ne_of_gt hLlo
  have hlodx : lo ≠ dx := fun q => by obtain ⟨es, n, e, _⟩ := I.dict; rw [← q, hlo, get?_size] at e; cases e
  have I := I.ext Y nin0 nin0
  have Z := Z.step (Y.more (fun _ q => nomatch q))
  repeat' (walk_at "mm")
  refine set_fld I F (by decide) (by rfl) (by simp) hdxL ?_
  intro h₄ t₄ F I Y
  have hLo := hLo.ext Y (nin2 hlodx hloL)
  have Z := Z.step Y
  repeat' (walk_at "mm")
  refine dict_new C F ?_
  intro h₅ dt hdt hLdt F hDt Y
  have hdt0 : h.get? dt = none := Z.gone (by rw [hdt]; exact get?_size _)
  have hdtL : dt ≠ h.objs.size := Nat.ne_of_gt hLdt
  have hdtdx : dt ≠ dx := fun q => by obtain ⟨es, n, e, _⟩ := I.dict; rw [← q, hdt, get?_size] at e; cases e
  have hdtlo : dt ≠ lo := fun q => hLo.live (by rw [← q, hdt]; exact get?_size _)
  have I := I.ext Y nin0 nin0
  have hLo := hLo.ext Y nin0
  have Z := Z.step (Y.more (fun _ q => nomatch q))
  repeat' (walk_at "mm")
  refine set_fld I F (by decide) (by rfl) (by simp) hdxL ?_
  intro h₆ t₆ F I Y
  have hLo := hLo.ext Y (nin2 hlodx hloL)
  have hDt := hDt.ext Y (nin2 hdtdx hdtL)
  have Z := Z.step Y
  have hRL6 := hRL.ext Z (nin2 hlr hlrL)
  repeat' (walk_at "mm")
  have ⟨m0, hm, F⟩ := fr_name F
  refine for_list (base := base) hA₁.hh ?_ (by intro _; rfl) (.inr ⟨_, _, _, rfl⟩)
  have F' := F
  rw [hm] at F'
  repeat' (walk_at "mm")
  obtain ⟨vs, hvs, hRs⟩ := hRL6
  obtain ⟨fl3, hfl3⟩ : ∃ fl3, fl3 = [] ++ [(Str.ofString "start", Value.str st su)] ++ [(Str.ofString "order", Value.ref lo)] ++ [(Str.ofString "table", Value.ref dt)] := ⟨_, rfl⟩
  rw [← hfl3] at I
  have f1 : lk (Str.ofString "order") fl3 = some (.ref lo) := by rw [hfl3]; rfl
  have f2 : lk (Str.ofString "table") fl3 = some (.ref dt) := by rw [hfl3]; rfl
  have hlrlo : lr ≠ lo := fun q => by obtain ⟨_, h1, _⟩ := hRL; exact h1.live (q ▸ hlo0)
  have hlrdt : lr ≠ dt := fun q => by obtain ⟨_, h1, _⟩ := hRL; exact h1.live (q ▸ hdt0)
  have hxlo : x ≠ lo := fun q => hxo (q ▸ hlo0)
  have hxdt : x ≠ dt := fun q => hxo (q ▸ hdt0)
  refine ⟨lr, vs, _, _, rfl, rfl, hvs, on_of F', [h.objs.size, lo, dt], fun i h' => FrW base h.objs.size h' m0 (Str.ofString "e") (Str.ofString "name") ∧ InstD C h' x dx fl3 ∧ OrdL base h' lo (R.take i) ∧ Tab w base h' dt (R.take i), ?_, ?_, ⟨.init F, I, ⟨_, hLo, All2.nil⟩, ⟨_, hDt, All2.nil⟩⟩, ?_, ?_, ?_⟩
  · exact nin3 hlrL hlrlo hlrdt
  · refine mem_cons2 F.ns.lt (mem_cons2 hLo.lt fun a q => by rw [List.mem_singleton.mp q]; exact hDt.lt)
  · rintro i h h' ⟨F, I, h1, h2⟩ S
    exact ⟨F.soft S, I.soft S, h1.soft S, h2.soft S⟩
  · rintro i v h₇ t₇ R9 hi hv X₇ ⟨⟨u1, u2, F⟩, I, hO1, hT⟩ hLT9
    subst hm
    obtain ⟨r, hr, tp, u, av, rfl, hTp, hAl⟩ := hRs.get hv
    have hTp := hTp.ext X₇
    have hAl := hAl.ext X₇
    have hrm := List.mem_of_getElem? hr
    repeat' (walk_at "mm")
    intro h₈ t₈ F Y
    have F := FrW.step F (by decide)
    have I := I.ext Y (nin1 hxL) (nin1 hdxL)
    have hO1 := hO1.ext Y (nin1 hloL)
    have hT := hT.ext Y (nin1 hdtL)
    have hAl := hAl.ext Y
    have Y8 : Ext base [h.objs.size, lo, dt] _ _ := Y.more sub3a
    have hx : r.1 ∉ (R.take i).map (·.1) := fun hm => by
      rw [List.map_take] at hm
      obtain ⟨j, hj⟩ := List.getElem?_of_mem hm
      have hji : j < i := by
        have := (List.getElem?_eq_some_iff.mp hj).1
        rw [List.length_take] at this; omega
      rw [List.getElem?_take_of_lt hji] at hj
      have hri : (R.map (·.1))[i]? = some r.1 := by rw [List.getElem?_map, hr]; rfl
      obtain ⟨h1, e1⟩ := List.getElem?_eq_some_iff.mp hj
      obtain ⟨h2, e2⟩ := List.getElem?_eq_some_iff.mp hri
      have := (List.getElem_inj hR.nodup).mp (e1.trans e2.symm)
      omega
    obtain ⟨tbl, htb, his⟩ := hT.isSome
    have his := his r.1
    rw [decide_eq_false hx] at his
    obtain ⟨vo, hvo, hva⟩ := id hO1
    have hilen : i ≤ 4 := by have := hR.few; have := (List.getElem?_eq_some_iff.mp hr).1; omega
    have hvol : vo.length ≤ 4 := by rw [hva.1, List.length_take]; omega
    repeat' (walk_at "mm")
    rw [his]
    refine ite_t ?_
    repeat' (walk_at "mm")
    refine ls_append hvo (by omega) ?_
    intro h₉ hvo Y
    have F := fr_ext F Y (nin1 (Ne.symm hloL))
    have I := I.ext Y (nin1 hxlo) (nin1 (Ne.symm hlodx))
    have htb := htb.ext Y (nin1 hdtlo)
    have hT := hT.ext Y (nin1 hdtlo)
    have hAl := hAl.ext Y
    have Y9 : Ext base [h.objs.size, lo, dt] _ _ := Y.more (fun a q => by rw [List.mem_singleton.mp q]; exact .tail _ (.head _))
    obtain ⟨tb2, htb2, hab⟩ := id hT
    have htl : tb2.length ≤ 4 := by rw [hab.1, List.length_take]; omega
    repeat' (walk_at "mm")
    refine dict_set htb2 (by omega) ?_
    intro h₁₀ t₁₀ hst2 Y
    have F := fr_ext F Y (nin1 (Ne.symm hdtL))
    have I := I.ext Y (nin1 hxdt) (nin1 (Ne.symm hdtdx))
    have hvo := hvo.ext Y (nin1 (Ne.symm hdtlo))
    have Y10 : Ext base [h.objs.size, lo, dt] _ _ := Y.more (fun a q => by rw [List.mem_singleton.mp q]; exact .tail _ (.tail _ (.head _)))
    have hts : R.take (i + 1) = R.take i ++ [r] := by rw [List.take_add_one, hr]; rfl
    have hmap : tb2.map (·.1) = (R.take i).map (·.1) := hab.map fun a b q => q.1
    repeat' (walk_at "mm")
    refine for_next hLT9 ((Y8.step Y9).step Y10) ⟨.of F, I, ?_, ?_⟩
    · rw [hts]; exact ⟨_, hvo, hva.snoc ⟨_, rfl⟩⟩
    · rw [hts]
      refine ⟨_, by rw [stored_new (by rw [hmap]; exact hx)] at hst2; exact hst2, (hab.imp fun _ _ z => ⟨z.1, z.2.ext Y⟩).snoc ⟨rfl, hAl.ext Y⟩⟩
  · rintro h₇ t₇ X₇ ⟨⟨u1, u2, F⟩, I, hO1, hT⟩
    subst hm
    have Z : Ext base [h.objs.size, dx] h h₇ := ((Z.more (fun a q => by
      rcases List.mem_cons.mp q with q | q
      · rw [q]; exact .tail _ (.head _)
      · rw [List.mem_singleton.mp q]; exact .head _)).trans X₇ (mem_cons2 (.inl (.head _)) (mem_cons2 (P := fun a => a ∈ [h.objs.size, dx] ∨ h.get? a = none) (.inr hlo0) fun a q => by rw [List.mem_singleton.mp q]; exact .inr hdt0)))
    rw [hRs.1, List.take_length] at hO1 hT
    repeat' (walk_at "mm")
    have Z7 := Z
    have hLv := fr_live F
    have hdv : h₇.get? dx ≠ none := fun e => hdxo (Z.gone e)
    refine empty_spec C (hA₁.less (by decide)) (on_of F) hT hO1 hR ?_
    intro h₈ de E t₈ Y hde hE hNul
    have F := fr_ext F Y nin0
    have I := I.ext Y nin0 nin0
    have hO1 := hO1.ext Y nin0
    have hT := hT.ext Y nin0
    have hde0 := Z7.gone hde
    have hdeL : de ≠ h.objs.size := fun q => hLv (q ▸ hde)
    have hdedx : de ≠ dx := fun q => hdv (q ▸ hde)
    have Z := Z.nil Y
    repeat' (walk_at "mm")
    refine set_fld I F (by decide) (by rw [hfl3]; rfl) (by rw [hfl3]; simp) hdxL ?_
    intro h₉ t₉ F I Y
    have hO1 := hO1.ext Y (nin2 hlodx hloL)
    have hT := hT.ext Y (nin2 hdtdx hdtL)
    have hE := hE.ext Y (nin2 hdedx hdeL)
    have Z := Z.step (Y.more sub_sw)
    obtain ⟨fl4, hfl4⟩ : ∃ fl4, fl4 = fl3 ++ [(Str.ofString "empty", Value.ref de)] := ⟨_, rfl⟩
    rw [← hfl4] at I
    have f1 : lk (Str.ofString "order") fl4 = some (.ref lo) := by rw [hfl4, hfl3]; rfl
    have f2 : lk (Str.ofString "table") fl4 = some (.ref dt) := by rw [hfl4, hfl3]; rfl
    have f3 : lk (Str.ofString "empty") fl4 = some (.ref de) := by rw [hfl4, hfl3]; rfl
    have hLv := fr_live F
    have hdv : h₉.get? dx ≠ none := fun e => hdxo (Z.gone e)
    repeat' (walk_at "mm")
    have Z9 := Z
    refine first_rows_spec C (hA₁.less (by decide)) (on_of F) hT hO1 hE hR ?_
    intro h₁₀ df Ds FS t₁₀ Y hdf hDsn hFam hsub
    have F := fr_ext F Y nin0
    have I := I.ext Y nin0 nin0
    have hO1 := hO1.ext Y nin0
    have hT := hT.ext Y nin0
    have hE := hE.ext Y nin0
    have Z := Z.nil Y
    have hdf0 := Z9.gone hdf
    have hDs0 : ∀ a ∈ Ds, h.get? a = none := fun a ha => Z9.gone (hDsn a ha)
    have hdfn : df ∉ [dx, h.objs.size] := nin2 (fun q => hdv (q ▸ hdf)) (fun q => hLv (q ▸ hdf))
    have hDs2 : ∀ a ∈ Ds, a ∉ [dx, h.objs.size] := fun a ha => nin2 (fun q => hdv (q ▸ hDsn a ha)) (fun q => hLv (q ▸ hDsn a ha))
    repeat' (walk_at "mm")
    refine set_fld I F (by decide) (by rw [hfl4, hfl3]; rfl) (by rw [hfl4, hfl3]; simp) hdxL ?_
    intro h₁₁ t₁₁ F I Y
    have hO1 := hO1.ext Y (nin2 hlodx hloL)
    have hT := hT.ext Y (nin2 hdtdx hdtL)
    have hE := hE.ext Y (nin2 hdedx hdeL)
    have hFam := hFam.ext Y hdfn hDs2
    have Z := Z.step (Y.more sub_sw)
    obtain ⟨fl5, hfl5⟩ : ∃ fl5, fl5 = fl4 ++ [(Str.ofString "firsts", Value.ref df)] := ⟨_, rfl⟩
    rw [← hfl5] at I
    have G : Gr C h₁₁ x ⟨dx, lo, dt, de, df⟩ fl5 R E Ds FS := ⟨I, by rw [hfl5, hfl4, hfl3]; rfl, by rw [hfl5, hfl4, hfl3]; rfl, by rw [hfl5, hfl4, hfl3]; rfl, by rw [hfl5, hfl4, hfl3]; rfl, by rw [hfl5, hfl4, hfl3]; rfl, by rw [hfl5, hfl4, hfl3]; rfl, by rw [hfl5, hfl4, hfl3]; rfl, hO1, hT, hE, hFam, hsub, hR⟩
    have hLv := fr_live F
    have hdv : h₁₁.get? dx ≠ none := fun e => hdxo (Z.gone e)
    repeat' (walk_at "mm")
    have Z11 := Z
    refine follow_rows_spec C (hA₁.less (by decide)) (on_of F) G (st := st) (su := su) (by rw [hfl5, hfl4, hfl3]; rfl) hst ?_
    intro h₁₂ dw Dw WS t₁₂ Y hdw hDwn hFol hsubW
    have F := fr_ext F Y nin0
    have I := I.ext Y nin0 nin0
    have hO1 := hO1.ext Y nin0
    have hT := hT.ext Y nin0
    have hE := hE.ext Y nin0
    have hFam := hFam.ext Y nin0 (fun _ _ => nin0)
    have Z := Z.nil Y
    have hdw0 := Z11.gone hdw
    have hDw0 : ∀ a ∈ Dw, h.get? a = none := fun a ha => Z11.gone (hDwn a ha)
    have hdwn : dw ∉ [dx, h.objs.size] := nin2 (fun q => hdv (q ▸ hdw)) (fun q => hLv (q ▸ hdw))
    have hDw2 : ∀ a ∈ Dw, a ∉ [dx, h.objs.size] := fun a ha => nin2 (fun q => hdv (q ▸ hDwn a ha)) (fun q => hLv (q ▸ hDwn a ha))
    repeat' (walk_at "mm")
    refine set_fld I F (by decide) (by rw [hfl5, hfl4, hfl3]; rfl) (by rw [hfl5, hfl4, hfl3]; simp) hdxL ?_
    intro h₁₃ t₁₃ F I Y
    have hO1 := hO1.ext Y (nin2 hlodx hloL)
    have hT := hT.ext Y (nin2 hdtdx hdtL)
    have hE := hE.ext Y (nin2 hdedx hdeL)
    have hFam := hFam.ext Y hdfn hDs2
    have hFol := hFol.ext Y hdwn hDw2
    have Z := Z.step (Y.more sub_sw)
    repeat' (walk_at "mm")
    refine hQ _ _ ⟨dx, lo, dt, de, df⟩ (fl5 ++ [(Str.ofString "follows", Value.ref dw)]) E Ds FS dw Dw WS (off_frame Z (get?_size h)) ⟨⟨I, ?_, ?_, ?_, ?_, ?_, ?_, ?_, hO1, hT, hE, hFam, hsub, hR⟩, ?_, hFol, hsubW⟩ rfl hNul (fun a ha => ⟨fun q => ha (q ▸ hlo0), fun q => ha (q ▸ hdt0), fun q => ha (q ▸ hde0), fun q => ha (q ▸ hdf0), fun q => ha (hDs0 _ q), fun q => ha (q ▸ hdw0), fun q => ha (hDw0 _ q)⟩) <;> (rw [hfl5, hfl4, hfl3]; rfl)
end
-- part M18
section
variable {w : World} {A : Around} {k : Nat} {base h : Heap} {g : Array GenState} {dr : Drawn} {t : Nat} {os : OsState}
theorem fetch_spec (C : Bs w base) {p sl : Addr} {ways : Nat} {wu : Tok} {Q : Value → Shared → Prop} (hA : Ok A 1) (hO : On base h) (hP : Pt base h p sl) (hw : 0 < ways)
    (hQ : ∀ h' t' (r : Nat) u, r < ways → Ext base [p] h h' → Pt base h' p sl → Q (.int (r : Nat) u) ⟨h', g, dr, t', os⟩) :
    wpAny (model pw w) A (call (.ref (C.f 19)) [.ref p, .int (ways : Nat) wu]) Q NoE ⟨h, g, dr, t, os⟩ := by
  refine call_fn hA (C.fn 19 (by decide)).1 C.nolim hO (binds := [(Str.ofString "pot", .ref p), (Str.ofString "ways", .int (ways : Nat) wu)]) (fun _ _ _ => rfl) rfl rfl ⟨rfl, rfl, rfl⟩ ?_
  intro R0 cd h₁ t₁ A₁ hFin hA₁ F X
  have hD : dn 19 = dn 19 := rfl
  conv at hD => rhs; whnf
  rw [hD]
  dsimp only
  clear hD
  have hh := hA₁.hh
  have hpL : p ≠ h.objs.size := ne_lt hP.lt
  have hP := hP.ext X nin0 nin0
  obtain ⟨n, u, vs, ns, hb, hl, hsl, hI, hz, hne⟩ := hP
  repeat' (walk_at "mm")
  rw [show ((n : Int) + 1) = ((n + 1 : Nat) : Int) from by omega]
  refine pt_set hb hl ?_
  intro h₂ t₂ hl Y
  have F := fr_ext F Y (nin1 (Ne.symm hpL))
  have hsl := hsl.ext Y (nin1 hne)
  repeat' (walk_at "mm")
  refine ls_len hsl (by omega) ?_
  intro u2 t3
  repeat' (walk_at "mm")
  refine ite_s ?_ ?_ <;> intro hle
  · have hle := of_decide_eq_true hle
    have hlt : n < vs.length := by omega
    obtain ⟨tk, hv⟩ := hI.int_at n vs[n] (by simp [hlt])
    have hv2 : vs[n]? = some (.int (ns.getD n 0) tk) := by rw [← hv]; simp [hlt]
    repeat' (walk_at "mm")
    rw [show (((n + 1 : Nat) : Int) - 1) = ((n : Nat) : Int) from by omega]
    refine ls_item hsl hv2 (by omega) ?_ (by with_unfolding_all rfl)
    repeat' (walk_at "mm")
    refine int_mod (by omega) ?_
    intro t4
    obtain ⟨r, hr, hrw⟩ := fmod_nat (a := if ns.getD n 0 < 0 then -(ns.getD n 0) else ns.getD n 0) hw
    rw [hr]
    repeat' (walk_at "mm")
    exact hQ _ _ r _ hrw ((X.more (fun _ q => nomatch q)).step Y) ⟨n + 1, _, vs, ns, hb, hl, hsl, hI, hz, hne⟩
  · repeat' (walk_at "mm")
    exact hQ _ _ 0 _ hw ((X.more (fun _ q => nomatch q)).step Y) ⟨n + 1, _, vs, ns, hb, hl, hsl, hI, hz, hne⟩
end
-- part M19
section
variable {w : World} {A : Around} {k : Nat} {base h : Heap} {g : Array GenState} {dr : Drawn} {t : Nat} {os : OsState}
noncomputable def nmR (i : Nat) : Str := Str.ofString "R" ++ (toString (i : Int) : String)
theorem lt4 {P : Nat → Prop} (h0 : P 0) (h1 : P 1) (h2 : P 2) (h3 : P 3) {i : Nat} (hi : i < 4) : P i := by
  rcases i with _ | _ | _ | _ | i
  · exact h0
  · exact h1
  · exact h2
  · exact h3
  · omega
theorem str_R {i : Nat} {u1 u2 : Tok} {Q : Value → Shared → Prop} (hi : i < 4) (hQ : ∀ t' k, Q (.str (nmR i) t') ⟨h, g, dr, k, os⟩) :
    wpAny (model pw w) A (binaryOp .Add (.str (Str.ofString "R") u1) (.str (toString (i : Int) : String) u2)) Q NoE ⟨h, g, dr, t, os⟩ :=
  SB.add (s := ⟨h, g, dr, t, os⟩) (fun t' k => hQ t' k) (by
    have h1 : (Str.ofString "R").length = 1 := rfl
    have h2 : ((toString (i : Int) : String) : Str).length ≤ 1 := by exact lt4 (P := fun i => ((toString (i : Int) : String) : Str).length ≤ 1) (by decide +kernel) (by decide +kernel) (by decide +kernel) (by decide +kernel) hi
    rw [h1, sizeLine_eq]; omega)
theorem str_of {i : Nat} {u : Tok} {Q : Value → Shared → Prop} (hi : i < 4) (hQ : ∀ t' k, Q (.str (toString (i : Int) : String) t') ⟨h, g, dr, k, os⟩) :
    wpAny (model pw w) A (call (.type "str") [.int (i : Nat) u]) Q NoE ⟨h, g, dr, t, os⟩ :=
  PySem.P.str_of_int (s := ⟨h, g, dr, t, os⟩) (by exact lt4 (P := fun i => ((i : Nat) : Int).natAbs.log2 < 1920) (by decide +kernel) (by decide +kernel) (by decide +kernel) (by decide +kernel) hi) (hQ _ _)
theorem pqr_at {value slice : Expr} {i : Nat} {u u1 : Tok} {Q : Value → Shared → Prop} (hi : i < 3) (hQ : ∀ x t' k, x ∈ T3 → Q (.str x t') ⟨h, g, dr, k, os⟩)
    (hs : ∀ i, subscripted slice false (.str (Str.ofString "pqr") u) (.int i u1) = operate [.str (Str.ofString "pqr") u, .int i u1] (getItem (.str (Str.ofString "pqr") u) (.int i u1))) :
    wpAny (model pw w) A (subscriptTail value slice (.str (Str.ofString "pqr") u) (.int (i : Nat) u1)) Q NoE ⟨h, g, dr, t, os⟩ := by
  refine tail_any (T := "str") (id := "str.__getitem__") rfl (by rw [typeLookup_type, builtinLookup_eq_fast]; kernel_rfl) ?_ (hs _)
  refine SB.getItem (s := ⟨h, g, dr, t, os⟩) ?_ ?_ ?_
  · exact lt4 (P := fun i => fitsSsize (i : Int) = true) (by decide +kernel) (by decide +kernel) (by decide +kernel) (by decide +kernel) (by omega : i < 4)
  · rcases i with _ | _ | _ | i
    · decide +kernel
    · decide +kernel
    · decide +kernel
    · omega
  · refine hQ _ _ _ ?_
    rcases i with _ | _ | _ | i
    · decide +kernel
    · decide +kernel
    · decide +kernel
    · omega
noncomputable def POK (count : Nat) : Pc → Prop
  | .text x => x ∈ T3
  | .name x => ∃ i, i < count ∧ x = nmR i
  | .opt x => ∃ i, i < count ∧ x = nmR i
  | .rep x => ∃ i, i < count ∧ x = nmR i
theorem piece_spec (C : Bs w base) {p sl : Addr} {count : Nat} {cu : Tok} {Q : Value → Shared → Prop} (hA : Ok A 2) (hO : On base h) (hP : Pt base h p sl) (hc : 0 < count) (hc4 : count ≤ 4)
    (hQ : ∀ h' t' v pc, Ext base [p] h h' → Pt base h' p sl → IsPc h' v pc → POK count pc → Q v ⟨h', g, dr, t', os⟩) :
    wpAny (model pw w) A (call (.ref (C.f 20)) [.ref p, .int (count : Nat) cu]) Q NoE ⟨h, g, dr, t, os⟩ := by
  refine call_fn hA (C.fn 20 (by decide)).1 C.nolim hO (binds := [(Str.ofString "pot", .ref p), (Str.ofString "count", .int (count : Nat) cu)]) (fun _ _ _ => rfl) rfl rfl ⟨rfl, rfl, rfl⟩ ?_
  intro R0 cd h₁ t₁ A₁ hFin hA₁ F X
  have hD : dn 20 = dn 20 := rfl
  conv at hD => rhs; whnf
  rw [hD]
  dsimp only
  clear hD
  have hh := hA₁.hh
  have hpL : p ≠ h.objs.size := ne_lt hP.lt
  have hsL : sl ≠ h.objs.size := ne_lt hP.slt
  have hP := hP.ext X nin0 nin0
  repeat' (walk_at "mm")
  refine fetch_spec C (ways := 4) (hA₁.less (by decide)) (on_of F) hP (by omega) ?_
  intro h₂ t₂ r u hr Y hP
  have F := fr_ext F Y (nin1 (Ne.symm hpL))
  have Z : Ext base [p, h.objs.size] h h₂ := (X.more (fun _ q => nomatch q)).step (Y.more sub_two)
  repeat' (walk_at "mm")
  intro h₃ t₃ F Y
  have hP := hP.ext Y (nin1 hpL) (nin1 hsL)
  have Z := Z.step (Y.more sub_two')
  repeat' (walk_at "mm")
  have hsp : ∀ W : List Addr, (∀ a ∈ W, a = h.objs.size) → p ∉ W ∧ sl ∉ W := fun W hW => ⟨fun q => hpL (hW _ q), fun q => hsL (hW _ q)⟩
  by_cases hr0 : r = 0
  · subst hr0
    repeat' (walk_at "mm")
    rw [show (((0 : Nat) : Int) == 0) = true from rfl]
    repeat' (walk_at "mm")
    refine fetch_spec C (ways := 3) (hA₁.less (by decide)) (on_of F) hP (by omega) ?_
    intro h₄ t₄ r2 u2 hr2 Y hP
    have F := fr_ext F Y (nin1 (Ne.symm hpL))
    have Z := Z.step (Y.more sub_two)
    repeat' (walk_at "mm")
    refine pqr_at hr2 ?_ (by intro _; with_unfolding_all rfl)
    intro x u3 k3 hx
    repeat' (walk_at "mm")
    refine disp F (by simp) ?_
    intro h₅ d hd hLd F hT Y
    have hP := hP.ext Y nin0 nin0
    have Z := Z.step (Y.more (fun _ q => nomatch q))
    repeat' (walk_at "mm")
    exact hQ _ _ _ (.text x) (off_frame (Z.more sub_sw) (get?_size h)) hP ⟨d, _, _, rfl, hT⟩ hx
  · rw [show (((r : Nat) : Int) == 0) = false from by simp; omega]
    repeat' (walk_at "mm")
    refine fetch_spec C (ways := count) (hA₁.less (by decide)) (on_of F) hP hc ?_
    intro h₄ t₄ r2 u2 hr2 Y hP
    have F := fr_ext F Y (nin1 (Ne.symm hpL))
    have Z := Z.step (Y.more sub_two)
    repeat' (walk_at "mm")
    refine str_of (by omega) ?_
    intro u3 k3
    repeat' (walk_at "mm")
    refine str_R (by omega) ?_
    intro u4 k4
    repeat' (walk_at "mm")
    refine disp F (by simp) ?_
    intro h₅ d hd hLd F hT Y
    have hP := hP.ext Y nin0 nin0
    have Z := Z.step (Y.more (fun _ q => nomatch q))
    repeat' (walk_at "mm")
    intro h₆ t₆ F Y
    have hP := hP.ext Y (nin1 hpL) (nin1 hsL)
    have Z := Z.step (Y.more sub_two')
    have hT := hT.ext Y
    have hnm : ∃ i, i < count ∧ nmR r2 = nmR i := ⟨r2, hr2, rfl⟩
    repeat' (walk_at "mm")
    by_cases hr1 : r = 1
    · subst hr1
      rw [show (((1 : Nat) : Int) == 1) = true from rfl]
      repeat' (walk_at "mm")
      exact hQ _ _ _ (.name (nmR r2)) (off_frame (Z.more sub_sw) (get?_size h)) hP ⟨d, _, _, rfl, hT⟩ hnm
    · rw [show (((r : Nat) : Int) == 1) = false from by simp; omega]
      repeat' (walk_at "mm")
      refine disp F (by simp) ?_
      intro h₇ d2 hd2 hLd2 F hLs Y
      have hP := hP.ext Y nin0 nin0
      have Z := Z.step (Y.more (fun _ q => nomatch q))
      have hT := hT.ext Y
      repeat' (walk_at "mm")
      have hr23 : r = 2 ∨ r = 3 := by omega
      rcases hr23 with rfl | rfl
      · refine ls_item (i := 0) hLs rfl (by omega) ?_ (by with_unfolding_all rfl)
        repeat' (walk_at "mm")
        refine disp F (by simp) ?_
        intro h₈ d3 hd3 hLd3 F hT3 Y
        have hP := hP.ext Y nin0 nin0
        have Z := Z.step (Y.more (fun _ q => nomatch q))
        have hT := hT.ext Y
        repeat' (walk_at "mm")
        exact hQ _ _ _ (.opt (nmR r2)) (off_frame (Z.more sub_sw) (get?_size h)) hP ⟨d3, _, _, rfl, hT3, d, _, _, rfl, hT⟩ hnm
      · refine ls_item (i := 1) hLs rfl (by omega) ?_ (by with_unfolding_all rfl)
        repeat' (walk_at "mm")
        refine disp F (by simp) ?_
        intro h₈ d3 hd3 hLd3 F hT3 Y
        have hP := hP.ext Y nin0 nin0
        have Z := Z.step (Y.more (fun _ q => nomatch q))
        have hT := hT.ext Y
        repeat' (walk_at "mm")
        exact hQ _ _ _ (.rep (nmR r2)) (off_frame (Z.more sub_sw) (get?_size h)) hP ⟨d3, _, _, rfl, hT3, d, _, _, rfl, hT⟩ hnm
end
-- part M20
section
variable {w : World} {A : Around} {k : Nat} {base h : Heap} {g : Array GenState} {dr : Drawn} {t : Nat} {os : OsState}
noncomputable def WaysOK (count : Nat) (ws : List (List Pc)) : Prop := ws.length ≤ 3 ∧ ∀ ps ∈ ws, ps.length ≤ 3 ∧ ∀ pc ∈ ps, POK count pc
noncomputable def nmRs (n : Nat) : List Str := (List.range n).map nmR
noncomputable def IsR (count : Nat) (R : Rules) (i : Nat) : Prop := R.map (·.1) = nmRs i ∧ ∀ r ∈ R, WaysOK count r.2
theorem four_at {a b c d : Tok} {r : Nat} (hr : r < 4) : ∃ (n : Nat) (u : Tok), [Value.int 1 a, .int 2 b, .int 3 c, .int 0 d][r]? = some (.int (n : Nat) u) ∧ n ≤ 3 := by
  refine lt4 (P := fun r => ∃ (n : Nat) (u : Tok), [Value.int 1 a, .int 2 b, .int 3 c, .int 0 d][r]? = some (.int (n : Nat) u) ∧ n ≤ 3) ?_ ?_ ?_ ?_ hr
  · exact ⟨1, _, rfl, by omega⟩
  · exact ⟨2, _, rfl, by omega⟩
  · exact ⟨3, _, rfl, by omega⟩
  · exact ⟨0, _, rfl, by omega⟩
theorem fru_name {L : Addr} {m : Str → Option Value} {x : Str} (F : FrU base L h m x) : ∃ m0, m0 = m ∧ FrU base L h m0 x := ⟨m, rfl, F⟩
theorem nin5 {a b c d e f : Addr} (h : a ≠ b ∧ a ≠ c ∧ a ≠ d ∧ a ≠ e ∧ a ≠ f) : a ≠ b ∧ a ≠ c ∧ a ≠ d ∧ a ≠ e ∧ a ≠ f := h
theorem sub3_1 {a b c : Addr} : ∀ x ∈ [a], x ∈ [a, b, c] := fun x q => by rw [List.mem_singleton.mp q]; exact .head _
theorem sub3_2 {a b c : Addr} : ∀ x ∈ [b], x ∈ [a, b, c] := fun x q => by rw [List.mem_singleton.mp q]; exact .tail _ (.head _)
theorem sub3_3 {a b c : Addr} : ∀ x ∈ [c], x ∈ [a, b, c] := fun x q => by rw [List.mem_singleton.mp q]; exact .tail _ (.tail _ (.head _))
theorem rules_spec (C : Bs w base) {p sl : Addr} {Q : Value → Shared → Prop} (hA : Ok A 4) (hO : On base h) (hP : Pt base h p sl)
    (hQ : ∀ h' t' d R count, Ext base [p] h h' → h.get? d = none → RL base h' d R → 0 < count → count ≤ 4 → IsR count R count → Q (.ref d) ⟨h', g, dr, t', os⟩) :
    wpAny (model pw w) A (call (.ref (C.f 21)) [.ref p]) Q NoE ⟨h, g, dr, t, os⟩ := by
  refine call_fnC hA (C.fn 21 (by decide)).1 C.nolim hO (binds := [(Str.ofString "pot", .ref p)]) (mL := fun y => none) (mC := fun y => if y = Str.ofString "pot" then some (.ref p) else none) (fun _ _ _ => rfl) (fun _ => rfl) ⟨rfl, rfl, rfl⟩ (fun _ _ => rfl) (fun _ _ => rfl) ?_
  intro R0 cd h₁ t₁ A₁ hFin hA₁ F Z X
  have Z1 := Z.cell (Str.ofString "pot") (h.objs.size + 1) rfl
  have Z2 := Z.cell (Str.ofString "count") (h.objs.size + 2) rfl
  have hD : dn 21 = dn 21 := rfl
  conv at hD => rhs; whnf
  rw [hD]
  dsimp only
  clear hD
  have hh := hA₁.hh
  have hpL : p ≠ h.objs.size := ne_lt hP.lt
  have hsL : sl ≠ h.objs.size := ne_lt hP.slt
  have hp1 : p ≠ h.objs.size + 1 := ne_lt (Nat.lt_succ_of_lt hP.lt)
  have hp2 : p ≠ h.objs.size + 2 := ne_lt (Nat.lt_succ_of_lt (Nat.lt_succ_of_lt hP.lt))
  have hs1 : sl ≠ h.objs.size + 1 := ne_lt (Nat.lt_succ_of_lt hP.slt)
  have hs2 : sl ≠ h.objs.size + 2 := ne_lt (Nat.lt_succ_of_lt (Nat.lt_succ_of_lt hP.slt))
  have hc12 : h.objs.size + 1 ≠ h.objs.size + 2 := by omega
  have hcL1 : h.objs.size + 1 ≠ h.objs.size := by omega
  have hcL2 : h.objs.size + 2 ≠ h.objs.size := by omega
  have hb2 : base.get? (h.objs.size + 2) = none := Heap.get?_none_of_le (Nat.le_succ_of_le (Nat.le_succ_of_le hO.size))
  have hg1 : h.get? (h.objs.size + 1) = none := Heap.get?_none_of_le (Nat.le_succ _)
  have hg2 : h.get? (h.objs.size + 2) = none := Heap.get?_none_of_le (Nat.le_succ_of_le (Nat.le_succ _))
  have Z1 : h₁.IsCell (h.objs.size + 1) (some (.ref p)) := Z1
  have Z2 : h₁.IsCell (h.objs.size + 2) none := Z2
  have hP := hP.ext X nin0 nin0
  repeat' (walk_at "mm")
  refine fetch_spec C (ways := 4) (hA₁.less (by decide)) (on_of F) hP (by omega) ?_
  intro h₂ t₂ r u hr Y hP
  have F := fr_ext F Y (nin1 (Ne.symm hpL))
  have Z1 := ce_ext Z1 Y (nin1 (Ne.symm hp1))
  have Z2 := ce_ext Z2 Y (nin1 (Ne.symm hp2))
  have Z : Ext base [p] h h₂ := (X.more (fun _ q => nomatch q)).step Y
  repeat' (walk_at "mm")
  rw [show (1 + (r : Int)) = ((1 + r : Nat) : Int) from by omega]
  obtain ⟨count, hcount⟩ : ∃ count, count = 1 + r := ⟨_, rfl⟩
  rw [← hcount]
  refine stcC (on_of F) (by k_dflt rfl) (by k_dflt rfl) (by k_dflt rfl) Z2 hb2 ?_
  intro h₃ t₃ Z2 Y
  have F := fr_ext F Y (nin1 (Ne.symm hcL2))
  have Z1 := ce_ext Z1 Y (nin1 hc12)
  have hP := hP.ext Y (nin1 hp2) (nin1 hs2)
  have Z : Ext base [p] h h₃ := Z.trans Y (fun a q => .inr (by rw [List.mem_singleton.mp q]; exact hg2))
  repeat' (walk_at "mm")
  refine disp F (by simp) ?_
  intro h₄ d hd hLd F hD Y
  have hdn := Z.gone (show h₃.get? d = none by rw [hd]; exact get?_size _)
  have hdc1 : d ≠ h.objs.size + 1 := fun q => ce_live Z1 (by rw [← q, hd]; exact get?_size _)
  have hdc2 : d ≠ h.objs.size + 2 := fun q => ce_live Z2 (by rw [← q, hd]; exact get?_size _)
  have hdL : d ≠ h.objs.size := Nat.ne_of_gt hLd
  have hdp : d ≠ p := fun q => hP.live (by rw [← q, hd]; exact get?_size _)
  have hds : d ≠ sl := fun q => hP.slive (by rw [← q, hd]; exact get?_size _)
  have Z1 := ce_ext Z1 Y nin0
  have Z2 := ce_ext Z2 Y nin0
  have hP := hP.ext Y nin0 nin0
  have Z := Z.nil Y
  repeat' (walk_at "mm")
  intro h₅ t₅ F Y
  have Z1 := ce_ext Z1 Y (nin1 hcL1)
  have Z2 := ce_ext Z2 Y (nin1 hcL2)
  have hP := hP.ext Y (nin1 hpL) (nin1 hsL)
  have hD := hD.ext Y (nin1 hdL)
  have Z := Z.frm Y
  repeat' (walk_at "mm")
  have ⟨m1, hm, F⟩ := fr_name F
  refine for_range (base := base) hh ?_ (by intro _; rfl) (by intro _ _; rfl)
  have F' := F
  rw [hm] at F'
  repeat' (walk_at "mm")
  refine rng F' ?_
  intro h₆ t₆ rr u₂ v₁ v₂ hr1 F6 Y
  have F6 := fr_ext F Y nin0
  have Z1 := ce_ext Z1 Y nin0
  have Z2 := ce_ext Z2 Y nin0
  have hP := hP.ext Y nin0 nin0
  have hD := hD.ext Y nin0
  have Z := Z.nil Y
  have hc4 : count ≤ 4 := by omega
  have hc0 : 0 < count := by omega
  refine ⟨rr, count, _, _, _, h₆, _, rfl, rfl, hr1, by omega, on_of F6, [h.objs.size, p, d], fun i h' => Fr3 base h.objs.size h' m1 (Str.ofString "lap") (Str.ofString "ways") (Str.ofString "step") ∧ Pt base h' p sl ∧
    h'.IsCell (h.objs.size + 1) (some (.ref p)) ∧ h'.IsCell (h.objs.size + 2) (some (.int (count : Nat) _)) ∧ ∃ R, RL base h' d R ∧ IsR count R i, ?_, ⟨.init F6, hP, Z1, Z2, [], ⟨_, hD, All2.nil⟩, rfl, fun _ q => nomatch q⟩, ?_, ?_, ?_⟩
  · exact mem_cons2 F6.ns.lt (mem_cons2 hP.lt fun a q => by rw [List.mem_singleton.mp q]; exact hD.lt)
  · rintro i h h' ⟨F, a, b, c, R, e, e2⟩ S
    exact ⟨F.soft S, a.soft S, ce_soft b S, ce_soft c S, R, e.soft S, e2⟩
  · rintro i v h₇ t₇ R9 hi ⟨u, rfl⟩ X₇ ⟨⟨b1, b2, b3, F⟩, hP, Z1, Z2, R, hRL, hIR⟩ hLT9
    subst hm
    repeat' (walk_at "mm")
    intro h₈ t₈ F Y
    have F := Fr3.set F (by decide) (by decide)
    have hP := hP.ext Y (nin1 hpL) (nin1 hsL)
    have Z1 := ce_ext Z1 Y (nin1 hcL1)
    have Z2 := ce_ext Z2 Y (nin1 hcL2)
    have hRL := hRL.ext Y (nin1 hdL)
    have T : Ext base [h.objs.size, p, d] h₇ h₈ := Y.more sub3_1
    have ⟨m2, hm2, F⟩ := frw_name F
    obtain ⟨b1, b2, F⟩ := F
    repeat' (walk_at "mm")
    refine disp F (by decide) ?_
    intro h₉ dw hdw hLdw F hW Y
    have hwc1 : dw ≠ h.objs.size + 1 := fun q => ce_live Z1 (by rw [← q, hdw]; exact get?_size _)
    have hwc2 : dw ≠ h.objs.size + 2 := fun q => ce_live Z2 (by rw [← q, hdw]; exact get?_size _)
    have hwL : dw ≠ h.objs.size := Nat.ne_of_gt hLdw
    have hwp : dw ≠ p := fun q => hP.live (by rw [← q, hdw]; exact get?_size _)
    have hws : dw ≠ sl := fun q => hP.slive (by rw [← q, hdw]; exact get?_size _)
    have hwd : dw ≠ d := fun q => absurd hRL.lt (by rw [← q, hdw]; exact Nat.lt_irrefl _)
    have hw7 : h₇.get? dw = none := T.gone (by rw [hdw]; exact get?_size _)
    have hP := hP.ext Y nin0 nin0
    have Z1 := ce_ext Z1 Y nin0
    have Z2 := ce_ext Z2 Y nin0
    have hRL := hRL.ext Y nin0
    have T := T.step (Y.more (fun _ q => nomatch q))
    repeat' (walk_at "mm")
    intro h₁₀ t₁₀ F Y
    have F := fr_swap F (by decide)
    have hP := hP.ext Y (nin1 hpL) (nin1 hsL)
    have Z1 := ce_ext Z1 Y (nin1 hcL1)
    have Z2 := ce_ext Z2 Y (nin1 hcL2)
    have hRL := hRL.ext Y (nin1 hdL)
    have hW := hW.ext Y (nin1 hwL)
    have T := T.step (Y.more sub3_1)
    have ⟨m3, hm3, F⟩ := fru_name (FrU.of F)
    obtain ⟨b1, F⟩ := F
    repeat' (walk_at "mm")
    refine for_range (base := base) hh ?_ (by intro _; rfl) (by intro _ _; rfl)
    have F' := F
    rw [hm3] at F'
    repeat' (walk_at "mm")
    refine fetch_spec C (ways := 2) (hA₁.less (by decide)) (on_of F) hP (by omega) ?_
    intro h₁₁ t₁₁ r2 u2 hr2 Y hP
    have F := fr_ext F Y (nin1 (Ne.symm hpL))
    have F' := fr_ext F' Y (nin1 (Ne.symm hpL))
    have Z1 := ce_ext Z1 Y (nin1 (Ne.symm hp1))
    have Z2 := ce_ext Z2 Y (nin1 (Ne.symm hp2))
    have hRL := hRL.ext Y (nin1 hdp)
    have hW := hW.ext Y (nin1 hwp)
    have T := T.step (Y.more sub3_2)
    repeat' (walk_at "mm")
    rw [show (2 + (r2 : Int)) = ((2 + r2 : Nat) : Int) from by omega]
    refine rng F' ?_
    intro h₁₂ t₁₂ rr2 u₃ v₃ v₄ hr3 F7 Y
    have F := fr_ext F Y nin0
    have hP := hP.ext Y nin0 nin0
    have Z1 := ce_ext Z1 Y nin0
    have Z2 := ce_ext Z2 Y nin0
    have hRL := hRL.ext Y nin0
    have hW := hW.ext Y nin0
    have T := T.step (Y.more (fun _ q => nomatch q))
    refine ⟨rr2, 2 + r2, _, _, _, h₁₂, _, rfl, rfl, hr3, by omega, on_of F, [h.objs.size, p, dw], fun j h' => FrU base h.objs.size h' m3 (Str.ofString "lap") ∧ Pt base h' p sl ∧
      h'.IsCell (h.objs.size + 1) (some (.ref p)) ∧ h'.IsCell (h.objs.size + 2) (some (.int (count : Nat) _)) ∧ RL base h' d R ∧ ∃ ws vw, Ls base h' dw vw ∧ All2 (IsSeq h') vw ws ∧ ws.length = j ∧ ∀ ps ∈ ws, ps.length ≤ 3 ∧ ∀ pc ∈ ps, POK count pc,
      ?_, ⟨⟨_, F⟩, hP, Z1, Z2, hRL, [], [], hW, All2.nil, rfl, fun _ q => nomatch q⟩, ?_, ?_, ?_⟩
    · exact mem_cons2 F.ns.lt (mem_cons2 hP.lt fun a q => by rw [List.mem_singleton.mp q]; exact hW.lt)
    · rintro i h h' ⟨F, a, b, c, e, ws, vw, e1, e2, e3⟩ S
      exact ⟨F.soft S, a.soft S, ce_soft b S, ce_soft c S, e.soft S, ws, vw, e1.soft S, e2.imp fun _ _ z => z.soft S, e3⟩
    · rintro j v h₁₃ t₁₃ R9 hj ⟨u, rfl⟩ X₁₃ ⟨⟨b1, F⟩, hP, Z1, Z2, hRL, ws, vw, hW, hAw, hwl, hok⟩ hLT9
      subst hm3
      subst hm2
      have hvl : vw.length ≤ 3 := by rw [hAw.1, hwl]; omega
      repeat' (walk_at "mm")
      intro h₁₄ t₁₄ F Y
      have F := fr_again F
      have hP := hP.ext Y (nin1 hpL) (nin1 hsL)
      have Z1 := ce_ext Z1 Y (nin1 hcL1)
      have Z2 := ce_ext Z2 Y (nin1 hcL2)
      have hRL := hRL.ext Y (nin1 hdL)
      have hW := hW.ext Y (nin1 hwL)
      have hAw := hAw.imp fun _ _ z => z.ext Y
      have U : Ext base [h.objs.size, p, dw] h₁₃ h₁₄ := Y.more sub3_1
      repeat' (walk_at "mm")
      have ⟨m4, hm4, F⟩ := fr_name F
      refine comp_eval (by with_unfolding_all rfl) rfl rfl rfl rfl (by intro _; rfl) ?_
      have F' := F
      rw [hm4] at F'
      repeat' (walk_at "mm")
      refine disp F' (by simp) ?_
      intro h₁₅ dl hdl hLdl F' hLs Y
      have hPl := hP.live
      have F := fr_ext F Y nin0
      have hP := hP.ext Y nin0 nin0
      have Z1 := ce_ext Z1 Y nin0
      have Z2 := ce_ext Z2 Y nin0
      have hRL := hRL.ext Y nin0
      have hW := hW.ext Y nin0
      have hAw := hAw.imp fun _ _ z => z.ext Y
      have U := U.step (Y.more (fun _ q => nomatch q))
      have hdlp : dl ≠ p := fun q => hPl (by rw [← q, hdl]; exact get?_size _)
      repeat' (walk_at "mm")
      refine fetch_spec C (ways := 4) (hA₁.less (by decide)) (on_of F) hP (by omega) ?_
      intro h₁₆ t₁₆ r3 u3 hr3 Y hP
      have F := fr_ext F Y (nin1 (Ne.symm hpL))
      have F' := fr_ext F' Y (nin1 (Ne.symm hpL))
      have Z1 := ce_ext Z1 Y (nin1 (Ne.symm hp1))
      have Z2 := ce_ext Z2 Y (nin1 (Ne.symm hp2))
      have hRL := hRL.ext Y (nin1 hdp)
      have hW := hW.ext Y (nin1 hwp)
      have hAw := hAw.imp fun _ _ z => z.ext Y
      have hLs := hLs.ext Y (nin1 hdlp)
      have U := U.step (Y.more sub3_2)
      obtain ⟨kn, ku, hkv, hk3⟩ := four_at (a := _) (b := _) (c := _) (d := _) hr3
      repeat' (walk_at "mm")
      refine ls_item hLs hkv (by omega) ?_ (by with_unfolding_all rfl)
      repeat' (walk_at "mm")
      refine rng F' ?_
      intro h₁₇ t₁₇ rr3 u₅ v₅ v₆ hr4 F8 Y
      have F := fr_ext F Y nin0
      have hP := hP.ext Y nin0 nin0
      have Z1 := ce_ext Z1 Y nin0
      have Z2 := ce_ext Z2 Y nin0
      have hRL := hRL.ext Y nin0
      have hW := hW.ext Y nin0
      have hAw := hAw.imp fun _ _ z => z.ext Y
      have U := U.step (Y.more (fun _ q => nomatch q))
      refine ⟨base, g, dr, os, h₁₇, _, _, _, [p], rfl, on_of F, it_range hh hr4 (by omega) (fun a q => by rw [List.mem_singleton.mp q]; exact hP.lt), ?_⟩
      intro Cc D hCD hC0 hD0 hCs hDs
      have hnn : ∀ a, h₁₇.get? a ≠ none → a ∉ [Cc, D] := fun a ha q => ha (by
        rcases List.mem_cons.mp q with q | q
        · rw [q]; exact hC0
        · rw [List.mem_singleton.mp q]; exact hD0)
      have hL1 := hnn _ (fr_live F)
      have hc1 := hnn _ (ce_live Z1)
      have hc2 := hnn _ (ce_live Z2)
      have hpn := hnn _ hP.live
      have hsn := hnn _ hP.slive
      refine ⟨fun i us h' => Fr base h.objs.size h' m4 ∧ Pt base h' p sl ∧ h'.IsCell (h.objs.size + 1) (some (.ref p)) ∧ h'.IsCell (h.objs.size + 2) (some (.int (count : Nat) _)) ∧ ∃ pcs, All2 (IsPc h') us pcs ∧ ∀ pc ∈ pcs, POK count pc,
        ⟨(fun a q => by rw [List.mem_singleton.mp q]; exact hP.lt), ⟨F, hP, Z1, Z2, [], All2.nil, fun _ q => nomatch q⟩, ?_, ?_, ?_⟩, ?_⟩
      · rintro i us h h' ⟨a, b, c, d, pcs, e1, e2⟩ S
        exact ⟨fr_soft a S, b.soft S, ce_soft c S, ce_soft d S, pcs, e1.imp fun _ _ z => z.soft S, e2⟩
      · rintro i us h h' ⟨a, b, c, d, pcs, e1, e2⟩ Y
        exact ⟨fr_ext a Y hL1, b.ext Y hpn hsn, ce_ext c Y hc1, ce_ext d Y hc2, pcs, e1.imp fun _ _ z => z.ext Y, e2⟩
      · rintro i us v h₂₀ t₂₀ m hi hu ⟨u, rfl⟩ X₂₀ ⟨F0, hP, Z1, Z2, pcs, hAp, hpk⟩ FC hDl
        refine wpAny_tests_nil ?_
        refine ite_t ?_
        repeat' (walk_at "mm")
        refine piece_spec C (hA₁.less (by decide)) (on_of F0) hP hc0 hc4 ?_
        intro h₂₁ t₂₁ v pc Y hP hpc hok1
        refine comp_next Y ⟨fr_ext F0 Y (nin1 (Ne.symm hpL)), hP, ce_ext Z1 Y (nin1 (Ne.symm hp1)), ce_ext Z2 Y (nin1 (Ne.symm hp2)), pcs ++ [pc], (hAp.imp fun _ _ z => z.ext Y).snoc hpc, fun q hq => ?_⟩
        rcases List.mem_append.mp hq with hq | hq
        · exact hpk q hq
        · rw [List.mem_singleton.mp hq]; exact hok1
      · rintro us h₂₀ h₂₁ t₂₀ hu ⟨F0, hP, Z1, Z2, pcs, hAp, hpk⟩ hkb X₂₁ hL hbC hCt
        have sb : ∀ a, a ∉ [Cc, D] → a ∉ [Cc] := fun a ha q => ha (by rw [List.mem_singleton.mp q]; exact .head _)
        have F := fr_kb F0 hkb (sb _ hL1) (fun b q => by rw [List.mem_singleton.mp q]; exact hbC)
        have hP := hP.kb hkb (sb _ hpn) (sb _ hsn)
        have Z1 := ce_kb Z1 hkb (sb _ hc1)
        have Z2 := ce_kb Z2 hkb (sb _ hc2)
        have hAp := hAp.imp fun _ _ z => z.kb hkb (fun b q o e => by rw [List.mem_singleton.mp q] at e; exact hCt o e)
        have hRL := hRL.ext X₂₁ (nin1 hdp)
        have hW := hW.ext X₂₁ (nin1 hwp)
        have hAw := hAw.imp fun _ _ z => z.ext X₂₁
        have U := U.step (X₂₁.more sub3_2)
        subst hm4
        repeat' (walk_at "mm")
        refine ls_tuple hL F (by omega) ?_
        intro h₂₂ tw htw F hTw Y
        have hP := hP.ext Y nin0 nin0
        have Z1 := ce_ext Z1 Y nin0
        have Z2 := ce_ext Z2 Y nin0
        have hAp := hAp.imp fun _ _ z => z.ext Y
        have hRL := hRL.ext Y nin0
        have hW := hW.ext Y nin0
        have hAw := hAw.imp fun _ _ z => z.ext Y
        have U := U.step (Y.more (fun _ q => nomatch q))
        repeat' (walk_at "mm")
        refine disp F (by simp) ?_
        intro h₂₃ ts hts hLts F hTs Y
        have hP := hP.ext Y nin0 nin0
        have Z1 := ce_ext Z1 Y nin0
        have Z2 := ce_ext Z2 Y nin0
        have hAp := hAp.imp fun _ _ z => z.ext Y
        have hRL := hRL.ext Y nin0
        have hW := hW.ext Y nin0
        have hAw := hAw.imp fun _ _ z => z.ext Y
        have hTw := hTw.ext Y
        have U := U.step (Y.more (fun _ q => nomatch q))
        repeat' (walk_at "mm")
        refine ls_append hW (by omega) ?_
        intro h₂₄ hW Y
        have F := fr_ext F Y (nin1 (Ne.symm hwL))
        have hP := hP.ext Y (nin1 (Ne.symm hwp)) (nin1 (Ne.symm hws))
        have Z1 := ce_ext Z1 Y (nin1 (Ne.symm hwc1))
        have Z2 := ce_ext Z2 Y (nin1 (Ne.symm hwc2))
        have hRL := hRL.ext Y (nin1 (Ne.symm hwd))
        have hAp := hAp.imp fun _ _ z => z.ext Y
        have hAw := hAw.imp fun _ _ z => z.ext Y
        have hTw := hTw.ext Y
        have hTs := hTs.ext Y
        have U := U.step (Y.more sub3_3)
        repeat' (walk_at "mm")
        refine for_next hLT9 U ⟨FrU.of F, hP, Z1, Z2, hRL, ws ++ [pcs], _, hW, hAw.snoc ⟨ts, _, tw, us, rfl, hTs, hTw, hAp⟩, by rw [List.length_append, hwl]; rfl, fun ps hps => ?_⟩
        rcases List.mem_append.mp hps with hps | hps
        · exact hok ps hps
        · rw [List.mem_singleton.mp hps]; exact ⟨by rw [← hAp.1]; omega, hpk⟩
    · rintro h₁₃ t₁₃ X₁₃ ⟨⟨b1, F⟩, hP, Z1, Z2, hRL, ws, vw, hW, hAw, hwl, hok⟩
      subst hm3
      subst hm2
      have hil : i < 4 := by omega
      have hvl : vw.length ≤ 3 := by rw [hAw.1, hwl]; omega
      obtain ⟨vr, hRv, hRa⟩ := hRL
      have hvr : vr.length ≤ 4 := by
        have h1 := congrArg List.length hIR.1
        rw [List.length_map, nmRs, List.length_map, List.length_range] at h1
        rw [hRa.1, h1]; omega
      have U : Ext base [h.objs.size, p, d] h₇ h₁₃ := T.trans X₁₃ (mem_cons2 (.inl (.head _)) (mem_cons2 (P := fun a => a ∈ [h.objs.size, p, d] ∨ h₇.get? a = none) (.inl (.tail _ (.head _))) fun a q => by rw [List.mem_singleton.mp q]; exact .inr hw7))
      repeat' (walk_at "mm")
      refine str_of hil ?_
      intro u3 k3
      repeat' (walk_at "mm")
      refine str_R hil ?_
      intro u4 k4
      repeat' (walk_at "mm")
      refine ls_tuple hW F (by omega) ?_
      intro h₁₄ tw htw F hTw Y
      have hP := hP.ext Y nin0 nin0
      have Z1 := ce_ext Z1 Y nin0
      have Z2 := ce_ext Z2 Y nin0
      have hAw := hAw.imp fun _ _ z => z.ext Y
      have hRv := hRv.ext Y nin0
      have hRa := hRa.imp fun _ _ z => z.ext Y
      have U := U.step (Y.more (fun _ q => nomatch q))
      repeat' (walk_at "mm")
      refine disp F (by simp) ?_
      intro h₁₅ ta hta hLta F hTa Y
      have hP := hP.ext Y nin0 nin0
      have Z1 := ce_ext Z1 Y nin0
      have Z2 := ce_ext Z2 Y nin0
      have hAw := hAw.imp fun _ _ z => z.ext Y
      have hRv := hRv.ext Y nin0
      have hRa := hRa.imp fun _ _ z => z.ext Y
      have hTw := hTw.ext Y
      have U := U.step (Y.more (fun _ q => nomatch q))
      repeat' (walk_at "mm")
      refine disp F (by simp) ?_
      intro h₁₆ tr htr hLtr F hTr Y
      have hP := hP.ext Y nin0 nin0
      have Z1 := ce_ext Z1 Y nin0
      have Z2 := ce_ext Z2 Y nin0
      have hAw := hAw.imp fun _ _ z => z.ext Y
      have hRv := hRv.ext Y nin0
      have hRa := hRa.imp fun _ _ z => z.ext Y
      have hTw := hTw.ext Y
      have hTa := hTa.ext Y
      have U := U.step (Y.more (fun _ q => nomatch q))
      repeat' (walk_at "mm")
      refine ls_append hRv (by omega) ?_
      intro h₁₇ hRv Y
      have F := fr_ext F Y (nin1 (Ne.symm hdL))
      have hP := hP.ext Y (nin1 (Ne.symm hdp)) (nin1 (Ne.symm hds))
      have Z1 := ce_ext Z1 Y (nin1 (Ne.symm hdc1))
      have Z2 := ce_ext Z2 Y (nin1 (Ne.symm hdc2))
      have hAw := hAw.imp fun _ _ z => z.ext Y
      have hRa := hRa.imp fun _ _ z => z.ext Y
      have hTw := hTw.ext Y
      have hTa := hTa.ext Y
      have hTr := hTr.ext Y
      have U := U.step (Y.more sub3_3)
      repeat' (walk_at "mm")
      refine for_next hLT9 U ⟨⟨_, _, _, F⟩, hP, Z1, Z2, R ++ [(nmR i, ws)], ⟨_, hRv, hRa.snoc ⟨tr, _, .ref ta, rfl, hTr, ta, _, tw, vw, rfl, hTa, hTw, hAw⟩⟩, ?_, fun r hr => ?_⟩
      · rw [List.map_append, hIR.1]; unfold nmRs; rw [List.range_succ, List.map_append]; rfl
      · rcases List.mem_append.mp hr with hr | hr
        · exact hIR.2 r hr
        · rw [List.mem_singleton.mp hr]; exact ⟨by rw [hwl]; omega, hok⟩
  · rintro h₇ t₇ X₇ ⟨⟨b1, b2, b3, F⟩, hP, Z1, Z2, R, hRL, hIR⟩
    subst hm
    repeat' (walk_at "mm")
    refine hQ _ _ _ R count ?_ hdn hRL hc0 hc4 hIR
    exact Z.trans X₇ (mem_cons2 (.inr (get?_size h)) (mem_cons2 (P := fun a => a ∈ [p] ∨ h.get? a = none) (.inl (.head _)) fun a q => by rw [List.mem_singleton.mp q]; exact .inr hdn))
end
-- part M21
section
variable {w : World} {A : Around} {k : Nat} {base h : Heap} {g : Array GenState} {dr : Drawn} {t : Nat} {os : OsState}
theorem strOk_R {i : Nat} (hi : i < 4) : PyData.strOk (nmR i) = true := by exact lt4 (P := fun i => PyData.strOk (nmR i) = true) (by decide +kernel) (by decide +kernel) (by decide +kernel) (by decide +kernel) hi
theorem okS_or : okS [Str.ofString "opt", Str.ofString "rep"] := fun x hx => by
  rcases List.mem_cons.mp hx with rfl | hx
  · decide +kernel
  · rw [List.mem_singleton.mp hx]; decide +kernel
theorem hollow_spec (C : Bs w base) {v : Value} {pc : Pc} {hl : Addr} {hs : List Str} {count : Nat} {Q : Value → Shared → Prop} (hA : Ok A 5) (hO : On base h) (hp : IsPc h v pc) (hS : Sl base h hl hs) (hk : okS hs) (hx : POK count pc) (hc : count ≤ 4)
    (hQ : ∀ h' t', Ext base [] h h' → Q (.bool (nulPc (inE hs) pc)) ⟨h', g, dr, t', os⟩) :
    wpAny (model pw w) A (call (.ref (C.f 22)) [v, .ref hl]) Q NoE ⟨h, g, dr, t, os⟩ := by
  cases pc with
  | text z =>
    refine call_fn hA (C.fn 22 (by decide)).1 C.nolim hO (binds := [(Str.ofString "piece", v), (Str.ofString "hollow", .ref hl)]) (fun _ _ _ => rfl) rfl rfl ⟨rfl, rfl, rfl⟩ ?_
    intro R0 cd h₁ t₁ A₁ hFin hA₁ F X
    have hD : dn 22 = dn 22 := rfl
    conv at hD => rhs; whnf
    rw [hD]
    dsimp only
    clear hD
    obtain ⟨a, t1, t2, rfl, ht⟩ := hp
    have ht := ht.ext X
    have hh := hA₁.hh
    have hun := hA₁.un
    have hS1 := hS.ext X nin0
    repeat' (walk_at "mm")
    refine disp F (by simp) ?_
    intro h₂ d hd hLd F hT Y
    have X := X.nil Y
    have ht := ht.ext Y
    have hS1 := hS1.ext Y nin0
    repeat' (walk_at "mm")
    refine tp_in hT (.cons _ _ (.cons _ _ .nil)) okS_or (by decide +kernel) (by omega) ?_
    rw [show decide (Str.ofString "text" ∈ [Str.ofString "opt", Str.ofString "rep"]) = false from by decide +kernel]
    repeat' (walk_at "mm")
    exact hQ _ _ X
  | name z =>
    refine call_fn hA (C.fn 22 (by decide)).1 C.nolim hO (binds := [(Str.ofString "piece", v), (Str.ofString "hollow", .ref hl)]) (fun _ _ _ => rfl) rfl rfl ⟨rfl, rfl, rfl⟩ ?_
    intro R0 cd h₁ t₁ A₁ hFin hA₁ F X
    have hD : dn 22 = dn 22 := rfl
    conv at hD => rhs; whnf
    rw [hD]
    dsimp only
    clear hD
    obtain ⟨a, t1, t2, rfl, ht⟩ := hp
    have ht := ht.ext X
    have hh := hA₁.hh
    have hun := hA₁.un
    have hS1 := hS.ext X nin0
    repeat' (walk_at "mm")
    refine disp F (by simp) ?_
    intro h₂ d hd hLd F hT Y
    have X := X.nil Y
    have ht := ht.ext Y
    have hS1 := hS1.ext Y nin0
    repeat' (walk_at "mm")
    refine tp_in hT (.cons _ _ (.cons _ _ .nil)) okS_or (by decide +kernel) (by omega) ?_
    rw [show decide (Str.ofString "name" ∈ [Str.ofString "opt", Str.ofString "rep"]) = false from by decide +kernel]
    repeat' (walk_at "mm")
    obtain ⟨i, hi, rfl⟩ := hx
    refine sl_in hS1 hk (strOk_R (by omega)) (by omega) ?_
    repeat' (walk_at "mm")
    exact hQ _ _ X
  | opt z =>
    refine call_fn hA (C.fn 22 (by decide)).1 C.nolim hO (binds := [(Str.ofString "piece", v), (Str.ofString "hollow", .ref hl)]) (fun _ _ _ => rfl) rfl rfl ⟨rfl, rfl, rfl⟩ ?_
    intro R0 cd h₁ t₁ A₁ hFin hA₁ F X
    have hD : dn 22 = dn 22 := rfl
    conv at hD => rhs; whnf
    rw [hD]
    dsimp only
    clear hD
    obtain ⟨a, t1, v', rfl, ht, hn⟩ := hp
    have ht := ht.ext X
    have hh := hA₁.hh
    have hun := hA₁.un
    have hS1 := hS.ext X nin0
    repeat' (walk_at "mm")
    refine disp F (by simp) ?_
    intro h₂ d hd hLd F hT Y
    have X := X.nil Y
    have ht := ht.ext Y
    have hS1 := hS1.ext Y nin0
    repeat' (walk_at "mm")
    refine tp_in hT (.cons _ _ (.cons _ _ .nil)) okS_or (by decide +kernel) (by omega) ?_
    rw [show decide (Str.ofString "opt" ∈ [Str.ofString "opt", Str.ofString "rep"]) = true from by decide +kernel]
    repeat' (walk_at "mm")
    exact hQ _ _ X
  | rep z =>
    refine call_fn hA (C.fn 22 (by decide)).1 C.nolim hO (binds := [(Str.ofString "piece", v), (Str.ofString "hollow", .ref hl)]) (fun _ _ _ => rfl) rfl rfl ⟨rfl, rfl, rfl⟩ ?_
    intro R0 cd h₁ t₁ A₁ hFin hA₁ F X
    have hD : dn 22 = dn 22 := rfl
    conv at hD => rhs; whnf
    rw [hD]
    dsimp only
    clear hD
    obtain ⟨a, t1, v', rfl, ht, hn⟩ := hp
    have ht := ht.ext X
    have hh := hA₁.hh
    have hun := hA₁.un
    have hS1 := hS.ext X nin0
    repeat' (walk_at "mm")
    refine disp F (by simp) ?_
    intro h₂ d hd hLd F hT Y
    have X := X.nil Y
    have ht := ht.ext Y
    have hS1 := hS1.ext Y nin0
    repeat' (walk_at "mm")
    refine tp_in hT (.cons _ _ (.cons _ _ .nil)) okS_or (by decide +kernel) (by omega) ?_
    rw [show decide (Str.ofString "rep" ∈ [Str.ofString "opt", Str.ofString "rep"]) = true from by decide +kernel]
    repeat' (walk_at "mm")
    exact hQ _ _ X
end
-- part M22
section
variable {w : World} {A : Around} {k : Nat} {base h : Heap} {g : Array GenState} {dr : Drawn} {t : Nat} {os : OsState}
noncomputable def Closed (R : Rules) (hs : List Str) : Prop := ∀ r ∈ R, nulAlt (inE hs) r.2 = true → r.1 ∈ hs
structure HI (R : Rules) (hs0 hs : List Str) : Prop where
  sub : ∀ x ∈ hs0, x ∈ hs
  nd : hs.Nodup
  ns : ∀ x ∈ hs, x ∈ R.map (·.1)
  snd : ∀ x ∈ hs, Nul R x
  cl : Closed R hs0 → hs = hs0
  grow : hs = hs0 ∨ hs0.length < hs.length
theorem nul_mono {hs0 hs : List Str} (h : ∀ x ∈ hs0, x ∈ hs) {ps : List Pc} (a : ps.all (nulPc (inE hs0)) = true) : ps.all (nulPc (inE hs)) = true := by
  rw [List.all_eq_true] at a ⊢
  intro p hp
  have := a p hp
  cases p with
  | text x => exact this
  | name x => exact decide_eq_true (h x (of_decide_eq_true this))
  | opt x => rfl
  | rep x => rfl
theorem HI.add {R : Rules} {hs0 hs : List Str} (H : HI R hs0 hs) {r : Str × List (List Pc)} (hr : r ∈ R) (hn : r.1 ∉ hs) {way : List Pc} (hw : way ∈ r.2) (a : way.all (nulPc (inE hs)) = true) : HI R hs0 (hs ++ [r.1]) where
  sub := fun x hx => List.mem_append_left _ (H.sub x hx)
  nd := List.nodup_append.mpr ⟨H.nd, by simp, fun x hx y hy e => hn (by rw [List.mem_singleton.mp hy] at e; exact e ▸ hx)⟩
  ns := fun x hx => by
    rcases List.mem_append.mp hx with hx | hx
    · exact H.ns x hx
    · rw [List.mem_singleton.mp hx]; exact List.mem_map.mpr ⟨r, hr, rfl⟩
  snd := fun x hx => by
    rcases List.mem_append.mp hx with hx | hx
    · exact H.snd x hx
    · rw [List.mem_singleton.mp hx]; exact Nul.of_alt H.snd hr (List.any_eq_true.mpr ⟨way, hw, a⟩)
  cl := fun c => absurd (c r hr (List.any_eq_true.mpr ⟨way, hw, by rw [← H.cl c]; exact a⟩)) (by rw [← H.cl c]; exact hn)
  grow := .inr (by
    have := H.grow
    rw [List.length_append, List.length_singleton]
    rcases this with e | e
    · rw [e]; omega
    · omega)
theorem HI.here {R : Rules} {hs0 hs : List Str} (H : HI R hs0 hs) : HI R hs hs := ⟨(fun _ q => q), H.nd, H.ns, H.snd, (fun _ => rfl), .inl rfl⟩
theorem HI.nil {R : Rules} : HI R [] [] := ⟨(fun _ q => q), List.nodup_nil, (fun _ q => nomatch q), (fun _ q => nomatch q), (fun _ => rfl), .inl rfl⟩
theorem HI.len {R : Rules} {hs0 hs : List Str} (H : HI R hs0 hs) : hs.length ≤ R.length := by
  have := nodup_len H.nd H.ns
  rwa [List.length_map] at this
noncomputable def Fr4 (base : Heap) (L : Addr) (h : Heap) (m : Str → Option Value) (x y q z : Str) : Prop := ∃ u u' u'' o, Fr base L h (fun n => if n = x then u else if n = y then u' else if n = q then u'' else if n = z then o else m n)
theorem Fr4.init {L : Addr} {m : Str → Option Value} {x y q z : Str} (F : Fr base L h m) : Fr4 base L h m x y q z :=
  have F1 : Fr base L h (fun n => if n = z then m z else m n) := fr_init F
  let ⟨u, v, u2, F2⟩ := Fr3.init (x := x) (y := y) (z := q) F1
  ⟨u, v, u2, _, F2⟩
theorem Fr4.soft {L : Addr} {h' : Heap} {m : Str → Option Value} {x y q z : Str} (F : Fr4 base L h m x y q z) (S : Soft base h h') : Fr4 base L h' m x y q z := let ⟨u, u', u2, o, F⟩ := F; ⟨u, u', u2, o, fr_soft F S⟩
theorem Fr4.of {L : Addr} {m : Str → Option Value} {x y q z : Str} {o : Option Value} (F : Fr3 base L h (fun n => if n = z then o else m n) x y q) : Fr4 base L h m x y q z := let ⟨u, u', u2, F⟩ := F; ⟨u, u', u2, _, F⟩
theorem Fr4.set {L : Addr} {m : Str → Option Value} {x y q z : Str} {u u' u2 o : Option Value} {v : Value} (F : Fr base L h (fun n => if n = z then some v else if n = x then u else if n = y then u' else if n = q then u2 else if n = z then o else m n)) (h1 : z ≠ x) (h2 : z ≠ y) (h3 : z ≠ q) : Fr3 base L h (fun n => if n = z then some v else m n) x y q := by
  refine ⟨u, u', u2, fr_cast F fun n => ?_⟩
  by_cases hn : n = z
  · subst hn; simp [h1, h2, h3]
  · simp [hn]
theorem Fr3.set2 {L : Addr} {m : Str → Option Value} {x y z : Str} {u u' o : Option Value} {v1 v2 : Value} (F : Fr base L h (fun n => if n = y then some v2 else if n = z then some v1 else if n = x then u else if n = y then u' else if n = z then o else m n)) (h1 : y ≠ x) (h2 : z ≠ x) : Fr base L h (fun n => if n = x then u else if n = y then some v2 else if n = z then some v1 else m n) := by
  refine fr_cast F fun n => ?_
  by_cases h3 : n = y
  · simp [h3, h1]
  · by_cases h4 : n = z
    · by_cases h5 : z = y
      · exact absurd (h4.trans h5) h3
      · simp [h4, h2, h5]
    · simp [h3, h4]
theorem Fr3.off {L : Addr} {m : Str → Option Value} {x y z : Str} {u u' o : Option Value} (F : Fr base L h (fun n => if n = x then u else if n = y then u' else if n = z then o else m n)) : Fr3 base L h m x y z := ⟨_, _, _, F⟩
theorem fr3_name {L : Addr} {m : Str → Option Value} {x y z : Str} (F : Fr3 base L h m x y z) : ∃ m0, m0 = m ∧ Fr3 base L h m0 x y z := ⟨m, rfl, F⟩
theorem isR_ok {count : Nat} {R : Rules} (hI : IsR count R count) (hc : count ≤ 4) {x : Str} (hx : x ∈ R.map (·.1)) : PyData.strOk x = true := by
  rw [hI.1] at hx
  obtain ⟨i, hi, rfl⟩ := List.mem_map.mp hx
  exact strOk_R (Nat.lt_of_lt_of_le (List.mem_range.mp hi) hc)
theorem hollows_spec (C : Bs w base) {lr : Addr} {R : Rules} {count : Nat} {Q : Value → Shared → Prop} (hA : Ok A 7) (hO : On base h) (hRL : RL base h lr R) (hI : IsR count R count) (hc : count ≤ 4)
    (hQ : ∀ h' t' d hs, Ext base [] h h' → h.get? d = none → Sl base h' d hs → okS hs → (∀ x, x ∈ hs ↔ Nul R x) → Q (.ref d) ⟨h', g, dr, t', os⟩) :
    wpAny (model pw w) A (call (.ref (C.f 23)) [.ref lr]) Q NoE ⟨h, g, dr, t, os⟩ := by
  refine call_fnC hA (C.fn 23 (by decide)).1 C.nolim hO (binds := [(Str.ofString "rules", .ref lr)]) (mL := fun y => if y = Str.ofString "rules" then some (.ref lr) else none) (mC := fun y => none) (fun _ _ _ => rfl) (fun _ => rfl) ⟨rfl, rfl, rfl⟩ (fun _ _ => rfl) (fun _ _ => rfl) ?_
  intro R0 cd h₁ t₁ A₁ hFin hA₁ F Z X
  have Z1 := Z.cell (Str.ofString "hollow") (h.objs.size + 1) rfl
  have hD : dn 23 = dn 23 := rfl
  conv at hD => rhs; whnf
  rw [hD]
  dsimp only
  clear hD
  have hh := hA₁.hh
  have hun := hA₁.un
  have hcL1 : h.objs.size + 1 ≠ h.objs.size := by omega
  have hlrL : lr ≠ h.objs.size := ne_lt hRL.lt
  have hlr1 : lr ≠ h.objs.size + 1 := ne_lt (Nat.lt_succ_of_lt hRL.lt)
  have hb1 : base.get? (h.objs.size + 1) = none := Heap.get?_none_of_le (Nat.le_succ_of_le hO.size)
  have hg1 : h.get? (h.objs.size + 1) = none := Heap.get?_none_of_le (Nat.le_succ _)
  have Z1 : h₁.IsCell (h.objs.size + 1) none := Z1
  have hRl : R.length = count := by
    have h1 := congrArg List.length hI.1
    rwa [List.length_map, nmRs, List.length_map, List.length_range] at h1
  repeat' (walk_at "mm")
  refine disp F (by simp) ?_
  intro h₂ d hd hLd F hD Y
  have hdn : h.get? d = none := X.gone (by rw [hd]; exact get?_size _)
  have hdL : d ≠ h.objs.size := Nat.ne_of_gt hLd
  have hd1 : d ≠ h.objs.size + 1 := fun q => ce_live Z1 (by rw [← q, hd]; exact get?_size _)
  have Z1 := ce_ext Z1 Y nin0
  have Z := X.nil Y
  repeat' (walk_at "mm")
  refine stcC (on_of F) (by k_dflt rfl) (by k_dflt rfl) (by k_dflt rfl) Z1 hb1 ?_
  intro h₃ t₃ Z1 Y
  have F := fr_ext F Y (nin1 (Ne.symm hcL1))
  have hD := hD.ext Y (nin1 hd1)
  have Z := Z.trans Y (fun a q => .inr (by rw [List.mem_singleton.mp q]; exact hg1))
  have hS : Sl base h₃ d [] := ⟨_, hD, .nil⟩
  have hRL3 := hRL.ext Z nin0
  obtain ⟨vr, hvr, hRa⟩ := id hRL3
  have hvl : vr.length = count := by rw [hRa.1, hRl]
  repeat' (walk_at "mm")
  have ⟨m1, hm, F⟩ := fr_name F
  refine for_range (base := base) hh ?_ (by intro _; rfl) (by intro _ _; rfl)
  have F' := F
  rw [hm] at F'
  repeat' (walk_at "mm")
  refine ls_len hvr (by omega) ?_
  intro u1 t₄
  repeat' (walk_at "mm")
  rw [show ((vr.length : Int) + 1) = ((vr.length + 1 : Nat) : Int) from by omega]
  refine rng F' ?_
  intro h₄ t₅ rr u₂ v₁ v₂ hr1 F6 Y
  have F6 := fr_ext F Y nin0
  have Z1 := ce_ext Z1 Y nin0
  have hS := hS.ext Y nin0
  have Z := Z.nil Y
  refine ⟨rr, vr.length + 1, _, _, _, h₄, _, rfl, rfl, hr1, by omega, on_of F6, [h.objs.size, d], fun i h' => Fr4 base h.objs.size h' m1 (Str.ofString "way") (Str.ofString "e") (Str.ofString "name") (Str.ofString "lap") ∧
    h'.IsCell (h.objs.size + 1) (some (.ref d)) ∧ ∃ hs, Sl base h' d hs ∧ HI R hs hs ∧ (i ≤ hs.length ∨ Closed R hs), ?_, ⟨.init F6, Z1, [], hS, HI.nil, .inl (Nat.le_refl _)⟩, ?_, ?_, ?_⟩
  · exact mem_cons2 F6.ns.lt fun a q => by rw [List.mem_singleton.mp q]; exact hS.lt
  · rintro i h h' ⟨F, a, hs, b, c⟩ S
    exact ⟨F.soft S, ce_soft a S, hs, b.soft S, c⟩
  · rintro i v h₇ t₇ R9 hi ⟨u, rfl⟩ X₇ ⟨⟨b1, b2, b3, b4, F⟩, Z1, hs0, hS, hHI, hic⟩ hLT9
    subst hm
    repeat' (walk_at "mm")
    intro h₈ t₈ F Y
    have F := Fr4.set F (by decide) (by decide) (by decide)
    have Z1 := ce_ext Z1 Y (nin1 hcL1)
    have hS := hS.ext Y (nin1 hdL)
    have T : Ext base [h.objs.size, d] h₇ h₈ := Y.more sub_two
    have ⟨m2, hm2, F⟩ := fr3_name F
    obtain ⟨b1, b2, b3, F⟩ := F
    have hal2 : ∀ a ∈ [h.objs.size, d], a ∈ ([] : List Addr) ∨ h.get? a = none := mem_cons2 (P := fun a => a ∈ ([] : List Addr) ∨ h.get? a = none) (.inr (get?_size h)) fun a q => by rw [List.mem_singleton.mp q]; exact .inr hdn
    have X8 : Ext base [] h h₈ := Z.trans (X₇.step (Y.more sub_two)) hal2
    obtain ⟨vr, hvr, hRa⟩ := hRL.ext X8 nin0
    have hlrd : lr ≠ d := fun q => by obtain ⟨_, h1, _⟩ := hRL; exact h1.live (q ▸ hdn)
    repeat' (walk_at "mm")
    refine for_list (base := base) hA₁.hh ?_ (by intro _; rfl) (.inr ⟨_, _, _, rfl⟩)
    have F' := F
    rw [hm2] at F'
    repeat' (walk_at "mm")
    refine ⟨lr, vr, _, _, rfl, rfl, hvr, on_of F', [h.objs.size, d], fun j h' => Fr3 base h.objs.size h' m2 (Str.ofString "way") (Str.ofString "e") (Str.ofString "name") ∧ h'.IsCell (h.objs.size + 1) (some (.ref d)) ∧
      ∃ hs, Sl base h' d hs ∧ HI R hs0 hs ∧ ∀ r ∈ R.take j, nulAlt (inE hs0) r.2 = true → r.1 ∈ hs, ?_, ?_, ⟨⟨_, _, _, F⟩, Z1, hs0, hS, hHI, (fun _ q => by simp at q)⟩, ?_, ?_, ?_⟩
    · exact nin2 hlrL hlrd
    · exact mem_cons2 F.ns.lt fun a q => by rw [List.mem_singleton.mp q]; exact hS.lt
    · rintro i h h' ⟨F, a, hs, b, c⟩ S
      exact ⟨F.soft S, ce_soft a S, hs, b.soft S, c⟩
    · rintro j v h₉ t₉ R9 hj hv X₉ ⟨⟨b1, b2, b3, F⟩, Z1, hs, hS, hH, hdone⟩ hLT9
      obtain ⟨r, hr, tp, u, av, rfl, hTp, hAl⟩ := hRa.get hv
      have hrm := List.mem_of_getElem? hr
      have hTp := hTp.ext X₉
      have hAl := hAl.ext X₉
      have hrok : PyData.strOk r.1 = true := isR_ok hI hc (List.mem_map.mpr ⟨r, hrm, rfl⟩)
      subst hm2
      repeat' (walk_at "mm")
      intro h₁₀ t₁₀ F Y
      have F := Fr3.set2 F (by decide) (by decide)
      have Z1 := ce_ext Z1 Y (nin1 hcL1)
      have hS := hS.ext Y (nin1 hdL)
      obtain ⟨a2, t2, bw, vws, rfl, ht2, htb2, hws⟩ := hAl.ext Y
      have T2 : Ext base [h.objs.size, d] h₉ h₁₀ := Y.more sub_two
      have ⟨m3, hm3, F⟩ := fru_name (FrU.of F)
      obtain ⟨b1, F⟩ := F
      repeat' (walk_at "mm")
      refine for_tup (base := base) hA₁.hh ?_ (by intro _; rfl) (by intro _ _; rfl)
      have F' := F
      rw [hm3] at F'
      repeat' (walk_at "mm")
      refine ⟨bw, vws, _, _, rfl, rfl, htb2, on_of F', [h.objs.size, d], fun k h' => FrU base h.objs.size h' m3 (Str.ofString "way") ∧ h'.IsCell (h.objs.size + 1) (some (.ref d)) ∧
        ∃ hs', Sl base h' d hs' ∧ HI R hs0 hs' ∧ (∀ x ∈ hs, x ∈ hs') ∧ ∀ way ∈ r.2.take k, way.all (nulPc (inE hs0)) = true → r.1 ∈ hs', ?_, ⟨⟨_, F⟩, Z1, hs, hS, hH, (fun _ q => q), (fun _ q => by simp at q)⟩, ?_, ?_, ?_⟩
      · exact mem_cons2 F.ns.lt fun a q => by rw [List.mem_singleton.mp q]; exact hS.lt
      · rintro i h h' ⟨F, a, hs, b, c⟩ S
        exact ⟨F.soft S, ce_soft a S, hs, b.soft S, c⟩
      · rintro k v h₁₁ t₁₁ R9 hk hv X₁₁ ⟨⟨b1, F⟩, Z1, hs', hS, hH, hss, hd2⟩ hLT9
        obtain ⟨ps, hps, hseq⟩ := hws.get hv
        have hpm := List.mem_of_getElem? hps
        subst hm3
        repeat' (walk_at "mm")
        intro h₁₂ t₁₂ F Y
        have F := fr_again F
        have Z1 := ce_ext Z1 Y (nin1 hcL1)
        have hS := hS.ext Y (nin1 hdL)
        obtain ⟨a3, t3, bp, vps, rfl, ht3, htb3, hpps⟩ := (hseq.ext X₁₁).ext Y
        have T3 : Ext base [h.objs.size, d] h₁₁ h₁₂ := Y.more sub_two
        have hsk : okS hs' := fun x hx => isR_ok hI hc (hH.ns x hx)
        have hps3 : ps.length ≤ 3 ∧ ∀ pc ∈ ps, POK count pc := (hI.2 r hrm).2 ps hpm
        have hts : r.2.take (k + 1) = r.2.take k ++ [ps] := by rw [List.take_add_one, hps]; rfl
        repeat' (walk_at "mm")
        refine sl_notIn hS hsk hrok (by omega) ?_
        by_cases hn : r.1 ∈ hs'
        · rw [decide_eq_true hn]
          repeat' (walk_at "mm")
          refine for_next hLT9 T3 ⟨.of F, Z1, hs', hS, hH, hss, fun way hw ha => hn⟩
        · rw [decide_eq_false hn]
          have ⟨m4, hm4, F⟩ := fr_name F
          repeat' (walk_at "mm")
          refine comp_eval (by with_unfolding_all rfl) rfl rfl rfl rfl (by intro _; rfl) ?_
          have F' := F
          rw [hm4] at F'
          repeat' (walk_at "mm")
          refine ⟨base, g, dr, os, h₁₂, _, _, _, [], rfl, on_of F, it_tup hh htb3 (fun _ q => nomatch q) (by rw [hpps.1]; omega), ?_⟩
          intro Cc D hCD hC0 hD0 hCs hDs
          have hnn : ∀ a, h₁₂.get? a ≠ none → a ∉ [Cc, D] := fun a ha q => ha (by
            rcases List.mem_cons.mp q with q | q
            · rw [q]; exact hC0
            · rw [List.mem_singleton.mp q]; exact hD0)
          have hL1 := hnn _ (fr_live F)
          have hc1 := hnn _ (ce_live Z1)
          have hdn1 := hnn _ hS.live
          refine ⟨fun i us h' => Fr base h.objs.size h' m4 ∧ h'.IsCell (h.objs.size + 1) (some (.ref d)) ∧ us = ((ps.take i).map (nulPc (inE hs'))).map Value.bool,
            ⟨(fun a q => nomatch q), ⟨F, Z1, rfl⟩, ?_, ?_, ?_⟩, ?_⟩
          · rintro i us h h' ⟨a, b, c⟩ S
            exact ⟨fr_soft a S, ce_soft b S, c⟩
          · rintro i us h h' ⟨a, b, c⟩ Y
            exact ⟨fr_ext a Y hL1, ce_ext b Y hc1, c⟩
          · rintro i us v h₂₀ t₂₀ m hi hu hv X₂₀ ⟨F0, Z1, rfl⟩ FC hDl
            obtain ⟨pc, hpc, hvp⟩ := hpps.get hv
            have hvp := hvp.ext X₂₀
            have hS := hS.ext X₂₀ nin0
            refine wpAny_tests_nil ?_
            refine ite_t ?_
            repeat' (walk_at "mm")
            refine hollow_spec C (hA₁.less (by decide)) (on_of F0) hvp hS hsk (hps3.2 pc (List.mem_of_getElem? hpc)) hc ?_
            intro h₂₁ t₂₁ Y
            refine comp_next Y ⟨fr_ext F0 Y nin0, ce_ext Z1 Y nin0, ?_⟩
            have hts : ps.take (i + 1) = ps.take i ++ [pc] := by rw [List.take_add_one, hpc]; rfl
            rw [hts]; simp
          · rintro us h₂₀ h₂₁ t₂₀ hu ⟨F0, Z1, rfl⟩ hkb X₂₁ hL hbC hCt
            have sb : ∀ a, a ∉ [Cc, D] → a ∉ [Cc] := fun a ha q => ha (by rw [List.mem_singleton.mp q]; exact .head _)
            have F := fr_kb F0 hkb (sb _ hL1) (fun b q => by rw [List.mem_singleton.mp q]; exact hbC)
            have Z1 := ce_kb Z1 hkb (sb _ hc1)
            have hS := hS.ext X₂₁ nin0
            have T4 := T3.step (X₂₁.more (fun _ q => nomatch q))
            rw [hpps.1, List.take_length] at hL
            subst hm4
            repeat' (walk_at "mm")
            refine ls_noFalse hL (by omega) ?_
            have hall : (ps.map (nulPc (inE hs'))).all id = ps.all (nulPc (inE hs')) := by rw [List.all_map]; rfl
            rw [hall]
            cases hb : ps.all (nulPc (inE hs')) with
            | false =>
              repeat' (walk_at "mm")
              refine for_next hLT9 T4 ⟨.of F, Z1, hs', hS, hH, hss, fun way hw ha => ?_⟩
              rw [hts] at hw
              rcases List.mem_append.mp hw with hw | hw
              · exact hd2 way hw ha
              · rw [List.mem_singleton.mp hw] at ha
                have := nul_mono hH.sub ha
                rw [hb] at this; cases this
            | true =>
              obtain ⟨vs', hvs', hst'⟩ := id hS
              have hlen := hH.len
              have hvl' := strsAre_len hst'
              repeat' (walk_at "mm")
              refine ls_append hvs' (by omega) ?_
              intro h₂₂ hvs' Y
              have F := fr_ext F Y (nin1 (Ne.symm hdL))
              have Z1 := ce_ext Z1 Y (nin1 (Ne.symm hd1))
              repeat' (walk_at "mm")
              refine for_next hLT9 (T4.step (Y.more sub_two')) ⟨.of F, Z1, hs' ++ [r.1], ⟨_, hvs', strsAre_snoc hst'⟩, hH.add hrm hn hpm hb, fun x hx => List.mem_append_left _ (hss x hx), fun way hw ha => List.mem_append_right _ (.head _)⟩
      · rintro h₁₁ t₁₁ X₁₁ ⟨⟨b1, F⟩, Z1, hs', hS, hH, hss, hd2⟩
        subst hm3
        repeat' (walk_at "mm")
        have hts : R.take (j + 1) = R.take j ++ [r] := by rw [List.take_add_one, hr]; rfl
        refine for_next hLT9 (T2.step X₁₁) ⟨⟨_, _, _, F⟩, Z1, hs', hS, hH, fun r' hr' hn => ?_⟩
        rw [hts] at hr'
        rcases List.mem_append.mp hr' with hr' | hr'
        · exact hss _ (hdone r' hr' hn)
        · rw [List.mem_singleton.mp hr'] at hn ⊢
          obtain ⟨way, hw, ha⟩ := List.any_eq_true.mp hn
          exact hd2 way (by rw [hws.1, List.take_length]; exact hw) ha
    · rintro h₉ t₉ X₉ ⟨⟨b1, b2, b3, F⟩, Z1, hs, hS, hH, hdone⟩
      subst hm2
      repeat' (walk_at "mm")
      refine for_next hLT9 (T.step X₉) ⟨⟨_, _, _, _, F⟩, Z1, hs, hS, hH.here, ?_⟩
      rw [hRa.1, List.take_length] at hdone
      rcases hH.grow with e | e
      · subst e
        exact .inr hdone
      · rcases hic with hic | hic
        · exact .inl (by omega)
        · have := hH.cl hic
          rw [this] at e; omega
  · rintro h₇ t₇ X₇ ⟨⟨b1, b2, b3, b4, F⟩, Z1, hs, hS, hHI, hic⟩
    subst hm
    repeat' (walk_at "mm")
    have hal2 : ∀ a ∈ [h.objs.size, d], a ∈ ([] : List Addr) ∨ h.get? a = none := mem_cons2 (P := fun a => a ∈ ([] : List Addr) ∨ h.get? a = none) (.inr (get?_size h)) fun a q => by rw [List.mem_singleton.mp q]; exact .inr hdn
    refine hQ _ _ _ hs (Z.trans X₇ hal2) hdn hS (fun x hx => isR_ok hI hc (hHI.ns x hx)) fun x => ⟨hHI.snd x, fun n => ?_⟩
    rcases hic with hic | hic
    · have := nodup_len hHI.nd hHI.ns
      rw [List.length_map] at this
      omega
    · exact n.of_closed hic
end
-- part M23
section
variable {w : World} {A : Around} {k : Nat} {base h : Heap} {g : Array GenState} {dr : Drawn} {t : Nat} {os : OsState}
noncomputable def lfSeq (S : Str → Bool) (ps : List Pc) : List Str := (leftSeq S ps).filterMap leftPc
noncomputable def lfAlt (S : Str → Bool) (ws : List (List Pc)) : List Str := ws.flatMap (lfSeq S)
theorem lfSeq_len (S : Str → Bool) (ps : List Pc) : (lfSeq S ps).length ≤ ps.length := by
  unfold lfSeq
  refine Nat.le_trans (List.length_filterMap_le _ _) ?_
  induction ps with
  | nil => exact Nat.le_refl _
  | cons p ps ih =>
    rw [leftSeq]
    split
    · simp; exact ih
    · simp
theorem mem_lfAlt {S : Str → Bool} {ws : List (List Pc)} {y : Str} : y ∈ lfAlt S ws ↔ HdEx S (.alt ws) y := by
  unfold lfAlt lfSeq
  rw [List.mem_flatMap]
  constructor
  · rintro ⟨way, hw, hy⟩
    obtain ⟨p, hp, hy⟩ := List.mem_filterMap.mp hy
    exact ⟨way, hw, p, hp, hy⟩
  · rintro ⟨way, hw, p, hp, hy⟩
    exact ⟨way, hw, List.mem_filterMap.mpr ⟨p, hp, hy⟩⟩
noncomputable def LfOk (B h : Heap) (N : List Addr) (S : Str → Bool) (kv : Str × Value) (r : Str × List (List Pc)) : Prop := kv.1 = r.1 ∧ ∃ a, kv.2 = .ref a ∧ Sl B h a (lfAlt S r.2) ∧ a ∉ N
theorem LfOk.ext {h h' : Heap} {W N : List Addr} {S : Str → Bool} {kv : Str × Value} {r : Str × List (List Pc)} (x : LfOk base h N S kv r) (X : Ext base W h h') (hW : ∀ a ∈ W, a ∈ N) : LfOk base h' N S kv r := let ⟨e, a, e1, h1, h2⟩ := x; ⟨e, a, e1, h1.ext X (fun q => h2 (hW _ q)), h2⟩
theorem LfOk.soft {h h' : Heap} {N : List Addr} {S : Str → Bool} {kv : Str × Value} {r : Str × List (List Pc)} (x : LfOk base h N S kv r) (X : Soft base h h') : LfOk base h' N S kv r := let ⟨e, a, e1, h1, h2⟩ := x; ⟨e, a, e1, h1.soft X, h2⟩
theorem LfOk.more {h : Heap} {N : List Addr} {b : Addr} {S : Str → Bool} {kv : Str × Value} {r : Str × List (List Pc)} (x : LfOk base h N S kv r) (hb : h.get? b = none) : LfOk base h (b :: N) S kv r := let ⟨e, a, e1, h1, h2⟩ := x; ⟨e, a, e1, h1, fun q => by
  rcases List.mem_cons.mp q with q | q
  · exact h1.live (q ▸ hb)
  · exact h2 q⟩
theorem LfOk.less {h : Heap} {N : List Addr} {b : Addr} {S : Str → Bool} {kv : Str × Value} {r : Str × List (List Pc)} (x : LfOk base h (b :: N) S kv r) : LfOk base h N S kv r := let ⟨e, a, e1, h1, h2⟩ := x; ⟨e, a, e1, h1, fun q => h2 (.tail _ q)⟩
theorem okS_nt : okS [Str.ofString "name", Str.ofString "text"] := fun x hx => by
  rcases List.mem_cons.mp hx with rfl | hx
  · decide +kernel
  · rw [List.mem_singleton.mp hx]; decide +kernel
/-- five names of a frame that may stand -/
noncomputable def Fr5 (base : Heap) (L : Addr) (h : Heap) (m : Str → Option Value) (a b c y z : Str) : Prop := ∃ u1 u2 u3 u4 u5, Fr base L h (fun n => if n = a then u1 else if n = b then u2 else if n = c then u3 else if n = y then u4 else if n = z then u5 else m n)
theorem Fr5.init {L : Addr} {m : Str → Option Value} {a b c y z : Str} (F : Fr base L h m) : Fr5 base L h m a b c y z :=
  have F1 : Fr base L h (fun n => if n = z then m z else m n) := fr_init F
  let ⟨u, v, u2, o, F2⟩ := Fr4.init (x := a) (y := b) (q := c) (z := y) F1
  ⟨u, v, u2, o, _, F2⟩
theorem Fr5.soft {L : Addr} {h' : Heap} {m : Str → Option Value} {a b c y z : Str} (F : Fr5 base L h m a b c y z) (S : Soft base h h') : Fr5 base L h' m a b c y z := let ⟨u, u', u2, o, v, F⟩ := F; ⟨u, u', u2, o, v, fr_soft F S⟩
theorem Fr5.set2 {L : Addr} {m : Str → Option Value} {a b c y z : Str} {u1 u2 u3 u4 u5 : Option Value} {v1 v2 : Value} (F : Fr base L h (fun n => if n = y then some v2 else if n = z then some v1 else if n = a then u1 else if n = b then u2 else if n = c then u3 else if n = y then u4 else if n = z then u5 else m n))
    (h1 : y ≠ a) (h2 : z ≠ a) (h3 : y ≠ b) (h4 : z ≠ b) (h5 : y ≠ c) (h6 : z ≠ c) : Fr3 base L h (fun n => if n = y then some v2 else if n = z then some v1 else m n) a b c := by
  refine ⟨u1, u2, u3, fr_cast F fun n => ?_⟩
  by_cases e1 : n = y
  · simp [e1, h1, h3, h5]
  · by_cases e2 : n = z
    · by_cases e3 : z = y
      · exact absurd (e2.trans e3) e1
      · simp [e2, e3, h2, h4, h6]
    · simp [e1, e2]
theorem sub_k2 {a b : Addr} {l : List Addr} : ∀ x ∈ [b], x ∈ a :: b :: l := fun x q => by rw [List.mem_singleton.mp q]; exact .tail _ (.head _)
theorem sub_k3 {a b c : Addr} {l : List Addr} : ∀ x ∈ [c], x ∈ a :: b :: c :: l := fun x q => by rw [List.mem_singleton.mp q]; exact .tail _ (.tail _ (.head _))
theorem lefts_spec (C : Bs w base) {lr hl : Addr} {R : Rules} {hs : List Str} {count : Nat} {N : List Addr} {Q : Value → Shared → Prop} (hA : Ok A 7) (hO : On base h) (hRL : RL base h lr R) (hI : IsR count R count) (hc : count ≤ 4) (hnd : (R.map (·.1)).Nodup) (hHS : Sl base h hl hs) (hk : okS hs) (hN : ∀ a ∈ N, h.get? a ≠ none)
    (hQ : ∀ h' t' d kvs, Ext base [] h h' → h.get? d = none → Dc w base h' d kvs → All2 (LfOk base h' (d :: N) (inE hs)) kvs R → Q (.ref d) ⟨h', g, dr, t', os⟩) :
    wpAny (model pw w) A (call (.ref (C.f 24)) [.ref lr, .ref hl]) Q NoE ⟨h, g, dr, t, os⟩ := by
  refine call_fn hA (C.fn 24 (by decide)).1 C.nolim hO (binds := [(Str.ofString "rules", .ref lr), (Str.ofString "hollow", .ref hl)]) (fun _ _ _ => rfl) rfl rfl ⟨rfl, rfl, rfl⟩ ?_
  intro R0 cd h₁ t₁ A₁ hFin hA₁ F X
  have hD : dn 24 = dn 24 := rfl
  conv at hD => rhs; whnf
  rw [hD]
  dsimp only
  clear hD
  have hh := hA₁.hh
  have hun := hA₁.un
  have hlrL : lr ≠ h.objs.size := ne_lt hRL.lt
  have hRl : R.length = count := by
    have h1 := congrArg List.length hI.1
    rwa [List.length_map, nmRs, List.length_map, List.length_range] at h1
  repeat' (walk_at "mm")
  refine dict_new C F ?_
  intro h₂ d hd hLd F hD Y
  have hdn : h.get? d = none := Heap.get?_none_of_le (Nat.le_of_lt hLd)
  have hdL : d ≠ h.objs.size := Nat.ne_of_gt hLd
  have X := X.nil Y
  repeat' (walk_at "mm")
  intro h₃ t₃ F Y
  have hD := hD.ext Y (nin1 hdL)
  have X := X.frm Y
  obtain ⟨vr, hvr, hRa⟩ := hRL.ext X nin0
  have hlrd : lr ≠ d := fun q => by obtain ⟨_, h1, _⟩ := hRL; exact h1.live (q ▸ hdn)
  repeat' (walk_at "mm")
  have ⟨m1, hm, F⟩ := fr_name F
  refine for_list (base := base) hA₁.hh ?_ (by intro _; rfl) (.inr ⟨_, _, _, rfl⟩)
  have F' := F
  rw [hm] at F'
  repeat' (walk_at "mm")
  refine ⟨lr, vr, _, _, rfl, rfl, hvr, on_of F', [h.objs.size, d], fun j h' => Fr5 base h.objs.size h' m1 (Str.ofString "inner") (Str.ofString "piece") (Str.ofString "way") (Str.ofString "e") (Str.ofString "name") ∧
    ∃ kvs, Dc w base h' d kvs ∧ All2 (LfOk base h' (h.objs.size :: d :: N) (inE hs)) kvs (R.take j), ?_, ?_, ⟨.init F, [], hD, All2.nil⟩, ?_, ?_, ?_⟩
  · exact nin2 hlrL hlrd
  · exact mem_cons2 F.ns.lt fun a q => by rw [List.mem_singleton.mp q]; exact hD.lt
  · rintro i h h' ⟨F, kvs, b, c⟩ S
    exact ⟨F.soft S, kvs, b.soft S, c.imp fun _ _ z => z.soft S⟩
  · rintro j v h₄ t₄ R9 hj hv X₄ ⟨⟨b1, b2, b3, b4, b5, F⟩, kvs, hDc, hAll⟩ hLT9
    obtain ⟨r, hr, tp, u, av, rfl, hTp, hAl⟩ := hRa.get hv
    have hrm := List.mem_of_getElem? hr
    have hTp := hTp.ext X₄
    have hAl := hAl.ext X₄
    subst hm
    have hal2 : ∀ a ∈ [h.objs.size, d], a ∈ ([] : List Addr) ∨ h.get? a = none := mem_cons2 (P := fun a => a ∈ ([] : List Addr) ∨ h.get? a = none) (.inr (get?_size h)) fun a q => by rw [List.mem_singleton.mp q]; exact .inr hdn
    repeat' (walk_at "mm")
    intro h₅ t₅ F Y
    have F := Fr5.set2 F (by decide) (by decide) (by decide) (by decide) (by decide) (by decide)
    have hDc := hDc.ext Y (nin1 hdL)
    have hAll := hAll.imp fun _ _ z => z.ext Y sub_hd
    have hAl := hAl.ext Y
    have T1 : Ext base [h.objs.size, d] h₄ h₅ := Y.more sub_two
    obtain ⟨b1, b2, b3, F⟩ := F
    have hx : r.1 ∉ (R.take j).map (·.1) := fun hm => by
      rw [List.map_take] at hm
      obtain ⟨i, hi⟩ := List.getElem?_of_mem hm
      have hij : i < j := by
        have := (List.getElem?_eq_some_iff.mp hi).1
        rw [List.length_take] at this; omega
      rw [List.getElem?_take_of_lt hij] at hi
      have hri : (R.map (·.1))[j]? = some r.1 := by rw [List.getElem?_map, hr]; rfl
      obtain ⟨h1, e1⟩ := List.getElem?_eq_some_iff.mp hi
      obtain ⟨h2, e2⟩ := List.getElem?_eq_some_iff.mp hri
      have := (List.getElem_inj hnd).mp (e1.trans e2.symm)
      omega
    have hkeys : kvs.map (·.1) = (R.take j).map (·.1) := hAll.map fun a b q => q.1
    have hkl : kvs.length ≤ 4 := by rw [hAll.1, List.length_take]; omega
    repeat' (walk_at "mm")
    refine disp F (by decide) ?_
    intro h₆ a ha hLa F hA0 Y
    have haL : a ≠ h.objs.size := Nat.ne_of_gt hLa
    have had : a ≠ d := fun q => hDc.live (by rw [← q, ha]; exact get?_size _)
    have ha5 : h₅.get? a = none := by rw [ha]; exact get?_size _
    have X5 : Ext base [] h h₅ := X.trans (X₄.step T1) hal2
    have ha0 : h.get? a = none := X5.gone ha5
    have ha4 : h₄.get? a = none := T1.gone ha5
    have hAll := hAll.imp fun _ _ z => (z.more ha5).ext Y (fun _ q => nomatch q)
    have hDc := hDc.ext Y nin0
    have hAl := hAl.ext Y
    have T1 := T1.step (Y.more (fun _ q => nomatch q))
    repeat' (walk_at "mm")
    refine dict_set hDc (by omega) ?_
    intro h₇ t₇ hDc Y
    rw [stored_new (by rw [hkeys]; exact hx)] at hDc
    have F := fr_ext F Y (nin1 (Ne.symm hdL))
    have hAll := hAll.imp fun _ _ z => z.ext Y sub_k3
    have hSa : Sl base h₇ a [] := ⟨_, hA0.ext Y (nin1 had), .nil⟩
    have hAl := hAl.ext Y
    have T1 := T1.step (Y.more sub_two')
    have hva : valueAt (kvs ++ [(r.1, Value.ref a)]) r.1 = some (.ref a) := valueAt_of_get (i := kvs.length) (by
      have := hDc.nodup
      exact this) (by simp)
    obtain ⟨a0, t0, bw, vws, rfl, ht0, htb0, hws⟩ := hAl
    repeat' (walk_at "mm")
    have ⟨m2, hm2, F⟩ := fr3_name (Fr3.off F)
    obtain ⟨b1, b2, b3, F⟩ := F
    have X7 : Ext base [] h h₇ := X.trans (X₄.step T1) hal2
    refine for_tup (base := base) hA₁.hh ?_ (by intro _; rfl) (by intro _ _; rfl)
    have F' := F
    rw [hm2] at F'
    repeat' (walk_at "mm")
    refine ⟨bw, vws, _, _, rfl, rfl, htb0, on_of F', [h.objs.size, a], fun i h' => Fr3 base h.objs.size h' m2 (Str.ofString "inner") (Str.ofString "piece") (Str.ofString "way") ∧ Dc w base h' d (kvs ++ [(r.1, .ref a)]) ∧
      All2 (LfOk base h' (a :: h.objs.size :: d :: N) (inE hs)) kvs (R.take j) ∧ Sl base h' a ((r.2.take i).flatMap (lfSeq (inE hs))), ?_, ⟨⟨_, _, _, F⟩, hDc, hAll, by simpa using hSa⟩, ?_, ?_, ?_⟩
    · exact mem_cons2 F.ns.lt fun b q => by rw [List.mem_singleton.mp q]; exact hSa.lt
    · rintro i h h' ⟨F, b, c, e⟩ S
      exact ⟨F.soft S, b.soft S, c.imp fun _ _ z => z.soft S, e.soft S⟩
    · rintro i v h₈ t₈ R9 hi hv X₈ ⟨⟨b1, b2, b3, F⟩, hDc, hAll, hSa⟩ hLT9
      have hLo := hLT9
      obtain ⟨ps, hps, hseq⟩ := hws.get hv
      have hpm := List.mem_of_getElem? hps
      have hseq := hseq.ext X₈
      have hps3 : ps.length ≤ 3 ∧ ∀ pc ∈ ps, POK count pc := (hI.2 r hrm).2 ps hpm
      have hwts : r.2.take (i + 1) = r.2.take i ++ [ps] := by rw [List.take_add_one, hps]; rfl
      subst hm2
      repeat' (walk_at "mm")
      intro h₁₁ t₁₁ F Y
      have F := Fr3.set F (by decide) (by decide)
      have hDc := hDc.ext Y (nin1 hdL)
      have hAll := hAll.imp fun _ _ z => z.ext Y sub_k2
      have hSa := hSa.ext Y (nin1 haL)
      obtain ⟨a1, t1, bp, vps, rfl, ht1, htb1, hpps⟩ := hseq.ext Y
      have T2 : Ext base [h.objs.size, a] h₈ h₁₁ := Y.more sub_two
      have X11 : Ext base [] h h₁₁ := X7.trans (X₈.step T2) (mem_cons2 (P := fun a => a ∈ ([] : List Addr) ∨ h.get? a = none) (.inr (get?_size h)) fun b q => by rw [List.mem_singleton.mp q]; exact .inr ha0)
      have ⟨m3, hm3, F⟩ := frw_name F
      obtain ⟨b1, b2, F⟩ := F
      obtain ⟨cur, hcur0⟩ : ∃ cur, cur = (r.2.take i).flatMap (lfSeq (inE hs)) := ⟨_, rfl⟩
      rw [← hcur0] at hSa
      have hlen : ∀ k, (cur ++ (ps.take k).filterMap leftPc).length ≤ 100 := by
        intro k
        have h1 := flat_len (f := lfSeq (inE hs)) (m := 3) (r.2.take i) (fun q hq => Nat.le_trans (lfSeq_len _ _) ((hI.2 r hrm).2 q (List.mem_of_mem_take hq)).1)
        have h2 : (r.2.take i).length ≤ 3 := Nat.le_trans (List.length_take_le' _ _) (hI.2 r hrm).1
        have h3 := List.length_filterMap_le leftPc (ps.take k)
        have h4 : (ps.take k).length ≤ 3 := Nat.le_trans (List.length_take_le' _ _) hps3.1
        rw [List.length_append, hcur0]; omega
      repeat' (walk_at "mm")
      refine for_tup (base := base) hA₁.hh ?_ (by intro _; rfl) (by intro _ _; rfl)
      have F' := F
      rw [hm3] at F'
      repeat' (walk_at "mm")
      refine ⟨bp, vps, _, _, rfl, rfl, htb1, on_of F', [h.objs.size, a], fun k h' => FrW base h.objs.size h' m3 (Str.ofString "inner") (Str.ofString "piece") ∧ Dc w base h' d (kvs ++ [(r.1, .ref a)]) ∧
        All2 (LfOk base h' (a :: h.objs.size :: d :: N) (inE hs)) kvs (R.take j) ∧ Sl base h' a (cur ++ (ps.take k).filterMap leftPc) ∧ ∀ q ∈ ps.take k, nulPc (inE hs) q = true, ?_, ⟨⟨_, _, F⟩, hDc, hAll, by simpa using hSa, fun q hq => by simp at hq⟩, ?_, ?_, ?_⟩
      · exact mem_cons2 F.ns.lt fun b q => by rw [List.mem_singleton.mp q]; exact hSa.lt
      · rintro i h h' ⟨F, b, c, e, e2⟩ S
        exact ⟨F.soft S, b.soft S, c.imp fun _ _ z => z.soft S, e.soft S, e2⟩
      · rintro k v h₁₃ t₁₃ R9 hk2 hv X₁₃ ⟨⟨b1, b2, F⟩, hDc, hAll, hSa, hall⟩ hLT9
        obtain ⟨pc, hpc, hvp⟩ := hpps.get hv
        have hvp := hvp.ext X₁₃
        have hts : ps.take (k + 1) = ps.take k ++ [pc] := by rw [List.take_add_one, hpc]; rfl
        subst hm3
        repeat' (walk_at "mm")
        intro h₁₄ t₁₄ F Y
        have F := fr_swap F (by decide)
        have hDc := hDc.ext Y (nin1 hdL)
        have hAll := hAll.imp fun _ _ z => z.ext Y sub_k2
        have hSa := hSa.ext Y (nin1 haL)
        have hvp := hvp.ext Y
        have X11 : Ext base [] h h₁₄ := X11.trans (X₁₃.step (Y.more sub_two)) (mem_cons2 (P := fun a => a ∈ ([] : List Addr) ∨ h.get? a = none) (.inr (get?_size h)) fun b q => by rw [List.mem_singleton.mp q]; exact .inr ha0)
        have T : Ext base [h.objs.size, a] h₁₃ h₁₄ := Y.more sub_two
        have T' : Ext base [h.objs.size, a] h₁₄ h₁₄ := .refl _ _ _
        cases pc with
        | text z =>
          obtain ⟨a2, u1, u2, rfl, ht⟩ := id hvp
          repeat' (walk_at "mm")
          refine disp F (by simp) ?_
          intro h₁₅ dn hdn2 hLdn F hT Y
          have hDc := hDc.ext Y nin0
          have hAll := hAll.imp fun _ _ z => z.ext Y (fun _ q => nomatch q)
          have hSa := hSa.ext Y nin0
          have hvp := hvp.ext Y
          have ht := ht.ext Y
          have T := T.step (Y.more (fun _ q => nomatch q))
          have T' := T'.step (Y.more (fun _ q => nomatch q))
          repeat' (walk_at "mm")
          refine tp_in hT (.cons _ _ (.cons _ _ .nil)) okS_nt (by decide +kernel) (by omega) ?_
          rw [show decide (Str.ofString "text" ∈ [Str.ofString "name", Str.ofString "text"]) = true from by decide +kernel]
          repeat' (walk_at "mm")
          intro h₁₆ t₁₆ F Y
          have F := fr_again F
          have hDc := hDc.ext Y (nin1 hdL)
          have hAll := hAll.imp fun _ _ z => z.ext Y sub_k2
          have hSa := hSa.ext Y (nin1 haL)
          have hvp := hvp.ext Y
          have ht := ht.ext Y
          have T := T.step (Y.more sub_two)
          have T' := T'.step (Y.more sub_two)
          repeat' (walk_at "mm")
          have hS := hHS.ext (X11.trans T' (mem_cons2 (P := fun a => a ∈ ([] : List Addr) ∨ h.get? a = none) (.inr (get?_size h)) fun b q => by rw [List.mem_singleton.mp q]; exact .inr ha0)) nin0
          refine hollow_spec C (hA₁.less (by decide)) (on_of F) (pc := .text z) hvp hS hk (hps3.2 _ (List.mem_of_getElem? hpc)) hc ?_
          intro h₁₈ t₁₈ Y
          have F := fr_ext F Y nin0
          have hDc := hDc.ext Y nin0
          have hAll := hAll.imp fun _ _ z => z.ext Y (fun _ q => nomatch q)
          have hSa := hSa.ext Y nin0
          have T := T.step (Y.more (fun _ q => nomatch q))
          have T' := T'.step (Y.more (fun _ q => nomatch q))
          have hcur : cur ++ (ps.take k).filterMap leftPc = cur ++ (ps.take (k + 1)).filterMap leftPc := by rw [hts, List.filterMap_append]; simp [leftPc]
          rw [hcur] at hSa
          cases hb : nulPc (inE hs) (.text z) with
          | true =>
            repeat' (walk_at "mm")
            refine for_next hLT9 T ⟨FrW.of F, hDc, hAll, hSa, fun q hq => ?_⟩
            rw [hts] at hq
            rcases List.mem_append.mp hq with hq | hq
            · exact hall q hq
            · rw [List.mem_singleton.mp hq]; exact hb
          | false =>
            repeat' (walk_at "mm")
            have hls : lfSeq (inE hs) ps = (ps.take (k + 1)).filterMap leftPc := by rw [lfSeq, leftSeq_stop hall hpc hb]
            refine for_next hLo (T2.step (X₁₃.step T)) ⟨⟨_, _, _, F⟩, hDc, hAll, ?_⟩
            rw [hwts, List.flatMap_append, List.flatMap_cons, List.flatMap_nil, List.append_nil, hls, ← hcur0]; exact hSa
        | name z =>
          obtain ⟨a2, u1, u2, rfl, ht⟩ := id hvp
          repeat' (walk_at "mm")
          refine disp F (by simp) ?_
          intro h₁₅ dn hdn2 hLdn F hT Y
          have hDc := hDc.ext Y nin0
          have hAll := hAll.imp fun _ _ z => z.ext Y (fun _ q => nomatch q)
          have hSa := hSa.ext Y nin0
          have hvp := hvp.ext Y
          have ht := ht.ext Y
          have T := T.step (Y.more (fun _ q => nomatch q))
          have T' := T'.step (Y.more (fun _ q => nomatch q))
          repeat' (walk_at "mm")
          refine tp_in hT (.cons _ _ (.cons _ _ .nil)) okS_nt (by decide +kernel) (by omega) ?_
          rw [show decide (Str.ofString "name" ∈ [Str.ofString "name", Str.ofString "text"]) = true from by decide +kernel]
          repeat' (walk_at "mm")
          intro h₁₆ t₁₆ F Y
          have F := fr_again F
          have hDc := hDc.ext Y (nin1 hdL)
          have hAll := hAll.imp fun _ _ z => z.ext Y sub_k2
          have hSa := hSa.ext Y (nin1 haL)
          have hvp := hvp.ext Y
          have ht := ht.ext Y
          have T := T.step (Y.more sub_two)
          have T' := T'.step (Y.more sub_two)
          obtain ⟨va, hva, hsa⟩ := id hSa
          have hval : va.length ≤ 100 := by rw [strsAre_len hsa]; exact hlen k
          repeat' (walk_at "mm")
          refine ls_append hva (by omega) ?_
          intro h₁₇ hva Y
          have F := fr_ext F Y (nin1 (Ne.symm haL))
          have hDc := hDc.ext Y (nin1 (Ne.symm had))
          have hAll := hAll.imp fun _ _ z => z.ext Y sub_hd
          have hSa : Sl base h₁₇ a _ := ⟨_, hva, strsAre_snoc hsa⟩
          have hvp := hvp.ext Y
          have T := T.step (Y.more sub_two')
          have T' := T'.step (Y.more sub_two')
          repeat' (walk_at "mm")
          have hS := hHS.ext (X11.trans T' (mem_cons2 (P := fun a => a ∈ ([] : List Addr) ∨ h.get? a = none) (.inr (get?_size h)) fun b q => by rw [List.mem_singleton.mp q]; exact .inr ha0)) nin0
          refine hollow_spec C (hA₁.less (by decide)) (on_of F) (pc := .name z) hvp hS hk (hps3.2 _ (List.mem_of_getElem? hpc)) hc ?_
          intro h₁₈ t₁₈ Y
          have F := fr_ext F Y nin0
          have hDc := hDc.ext Y nin0
          have hAll := hAll.imp fun _ _ z => z.ext Y (fun _ q => nomatch q)
          have hSa := hSa.ext Y nin0
          have T := T.step (Y.more (fun _ q => nomatch q))
          have T' := T'.step (Y.more (fun _ q => nomatch q))
          have hcur : cur ++ (ps.take k).filterMap leftPc ++ [z] = cur ++ (ps.take (k + 1)).filterMap leftPc := by rw [hts, List.filterMap_append]; simp [leftPc]
          rw [hcur] at hSa
          cases hb : nulPc (inE hs) (.name z) with
          | true =>
            repeat' (walk_at "mm")
            refine for_next hLT9 T ⟨FrW.of F, hDc, hAll, hSa, fun q hq => ?_⟩
            rw [hts] at hq
            rcases List.mem_append.mp hq with hq | hq
            · exact hall q hq
            · rw [List.mem_singleton.mp hq]; exact hb
          | false =>
            repeat' (walk_at "mm")
            have hls : lfSeq (inE hs) ps = (ps.take (k + 1)).filterMap leftPc := by rw [lfSeq, leftSeq_stop hall hpc hb]
            refine for_next hLo (T2.step (X₁₃.step T)) ⟨⟨_, _, _, F⟩, hDc, hAll, ?_⟩
            rw [hwts, List.flatMap_append, List.flatMap_cons, List.flatMap_nil, List.append_nil, hls, ← hcur0]; exact hSa
        | opt z =>
          obtain ⟨a2, u1, v', rfl, ht, hn⟩ := id hvp
          repeat' (walk_at "mm")
          refine disp F (by simp) ?_
          intro h₁₅ dn hdn2 hLdn F hT Y
          have hDc := hDc.ext Y nin0
          have hAll := hAll.imp fun _ _ z => z.ext Y (fun _ q => nomatch q)
          have hSa := hSa.ext Y nin0
          have hvp := hvp.ext Y
          have ht := ht.ext Y
          have hn := hn.ext Y
          have T := T.step (Y.more (fun _ q => nomatch q))
          have T' := T'.step (Y.more (fun _ q => nomatch q))
          repeat' (walk_at "mm")
          refine tp_in hT (.cons _ _ (.cons _ _ .nil)) okS_nt (by decide +kernel) (by omega) ?_
          rw [show decide (Str.ofString "opt" ∈ [Str.ofString "name", Str.ofString "text"]) = false from by decide +kernel]
          repeat' (walk_at "mm")
          intro h₁₆ t₁₆ F Y
          have F := fr_again F
          have hDc := hDc.ext Y (nin1 hdL)
          have hAll := hAll.imp fun _ _ z => z.ext Y sub_k2
          have hSa := hSa.ext Y (nin1 haL)
          have hvp := hvp.ext Y
          have ht := ht.ext Y
          have hn := hn.ext Y
          have T := T.step (Y.more sub_two)
          have T' := T'.step (Y.more sub_two)
          obtain ⟨a3, u3, u4, rfl, hn3⟩ := id hn
          obtain ⟨va, hva, hsa⟩ := id hSa
          have hval : va.length ≤ 100 := by rw [strsAre_len hsa]; exact hlen k
          repeat' (walk_at "mm")
          refine ls_append hva (by omega) ?_
          intro h₁₇ hva Y
          have F := fr_ext F Y (nin1 (Ne.symm haL))
          have hDc := hDc.ext Y (nin1 (Ne.symm had))
          have hAll := hAll.imp fun _ _ z => z.ext Y sub_hd
          have hSa : Sl base h₁₇ a _ := ⟨_, hva, strsAre_snoc hsa⟩
          have hvp := hvp.ext Y
          have T := T.step (Y.more sub_two')
          have T' := T'.step (Y.more sub_two')
          repeat' (walk_at "mm")
          have hS := hHS.ext (X11.trans T' (mem_cons2 (P := fun a => a ∈ ([] : List Addr) ∨ h.get? a = none) (.inr (get?_size h)) fun b q => by rw [List.mem_singleton.mp q]; exact .inr ha0)) nin0
          refine hollow_spec C (hA₁.less (by decide)) (on_of F) (pc := .opt z) hvp hS hk (hps3.2 _ (List.mem_of_getElem? hpc)) hc ?_
          intro h₁₈ t₁₈ Y
          have F := fr_ext F Y nin0
          have hDc := hDc.ext Y nin0
          have hAll := hAll.imp fun _ _ z => z.ext Y (fun _ q => nomatch q)
          have hSa := hSa.ext Y nin0
          have T := T.step (Y.more (fun _ q => nomatch q))
          have T' := T'.step (Y.more (fun _ q => nomatch q))
          have hcur : cur ++ (ps.take k).filterMap leftPc ++ [z] = cur ++ (ps.take (k + 1)).filterMap leftPc := by rw [hts, List.filterMap_append]; simp [leftPc]
          rw [hcur] at hSa
          cases hb : nulPc (inE hs) (.opt z) with
          | true =>
            repeat' (walk_at "mm")
            refine for_next hLT9 T ⟨FrW.of F, hDc, hAll, hSa, fun q hq => ?_⟩
            rw [hts] at hq
            rcases List.mem_append.mp hq with hq | hq
            · exact hall q hq
            · rw [List.mem_singleton.mp hq]; exact hb
          | false =>
            repeat' (walk_at "mm")
            have hls : lfSeq (inE hs) ps = (ps.take (k + 1)).filterMap leftPc := by rw [lfSeq, leftSeq_stop hall hpc hb]
            refine for_next hLo (T2.step (X₁₃.step T)) ⟨⟨_, _, _, F⟩, hDc, hAll, ?_⟩
            rw [hwts, List.flatMap_append, List.flatMap_cons, List.flatMap_nil, List.append_nil, hls, ← hcur0]; exact hSa
        | rep z =>
          obtain ⟨a2, u1, v', rfl, ht, hn⟩ := id hvp
          repeat' (walk_at "mm")
          refine disp F (by simp) ?_
          intro h₁₅ dn hdn2 hLdn F hT Y
          have hDc := hDc.ext Y nin0
          have hAll := hAll.imp fun _ _ z => z.ext Y (fun _ q => nomatch q)
          have hSa := hSa.ext Y nin0
          have hvp := hvp.ext Y
          have ht := ht.ext Y
          have hn := hn.ext Y
          have T := T.step (Y.more (fun _ q => nomatch q))
          have T' := T'.step (Y.more (fun _ q => nomatch q))
          repeat' (walk_at "mm")
          refine tp_in hT (.cons _ _ (.cons _ _ .nil)) okS_nt (by decide +kernel) (by omega) ?_
          rw [show decide (Str.ofString "rep" ∈ [Str.ofString "name", Str.ofString "text"]) = false from by decide +kernel]
          repeat' (walk_at "mm")
          intro h₁₆ t₁₆ F Y
          have F := fr_again F
          have hDc := hDc.ext Y (nin1 hdL)
          have hAll := hAll.imp fun _ _ z => z.ext Y sub_k2
          have hSa := hSa.ext Y (nin1 haL)
          have hvp := hvp.ext Y
          have ht := ht.ext Y
          have hn := hn.ext Y
          have T := T.step (Y.more sub_two)
          have T' := T'.step (Y.more sub_two)
          obtain ⟨a3, u3, u4, rfl, hn3⟩ := id hn
          obtain ⟨va, hva, hsa⟩ := id hSa
          have hval : va.length ≤ 100 := by rw [strsAre_len hsa]; exact hlen k
          repeat' (walk_at "mm")
          refine ls_append hva (by omega) ?_
          intro h₁₇ hva Y
          have F := fr_ext F Y (nin1 (Ne.symm haL))
          have hDc := hDc.ext Y (nin1 (Ne.symm had))
          have hAll := hAll.imp fun _ _ z => z.ext Y sub_hd
          have hSa : Sl base h₁₇ a _ := ⟨_, hva, strsAre_snoc hsa⟩
          have hvp := hvp.ext Y
          have T := T.step (Y.more sub_two')
          have T' := T'.step (Y.more sub_two')
          repeat' (walk_at "mm")
          have hS := hHS.ext (X11.trans T' (mem_cons2 (P := fun a => a ∈ ([] : List Addr) ∨ h.get? a = none) (.inr (get?_size h)) fun b q => by rw [List.mem_singleton.mp q]; exact .inr ha0)) nin0
          refine hollow_spec C (hA₁.less (by decide)) (on_of F) (pc := .rep z) hvp hS hk (hps3.2 _ (List.mem_of_getElem? hpc)) hc ?_
          intro h₁₈ t₁₈ Y
          have F := fr_ext F Y nin0
          have hDc := hDc.ext Y nin0
          have hAll := hAll.imp fun _ _ z => z.ext Y (fun _ q => nomatch q)
          have hSa := hSa.ext Y nin0
          have T := T.step (Y.more (fun _ q => nomatch q))
          have T' := T'.step (Y.more (fun _ q => nomatch q))
          have hcur : cur ++ (ps.take k).filterMap leftPc ++ [z] = cur ++ (ps.take (k + 1)).filterMap leftPc := by rw [hts, List.filterMap_append]; simp [leftPc]
          rw [hcur] at hSa
          cases hb : nulPc (inE hs) (.rep z) with
          | true =>
            repeat' (walk_at "mm")
            refine for_next hLT9 T ⟨FrW.of F, hDc, hAll, hSa, fun q hq => ?_⟩
            rw [hts] at hq
            rcases List.mem_append.mp hq with hq | hq
            · exact hall q hq
            · rw [List.mem_singleton.mp hq]; exact hb
          | false =>
            repeat' (walk_at "mm")
            have hls : lfSeq (inE hs) ps = (ps.take (k + 1)).filterMap leftPc := by rw [lfSeq, leftSeq_stop hall hpc hb]
            refine for_next hLo (T2.step (X₁₃.step T)) ⟨⟨_, _, _, F⟩, hDc, hAll, ?_⟩
            rw [hwts, List.flatMap_append, List.flatMap_cons, List.flatMap_nil, List.append_nil, hls, ← hcur0]; exact hSa
      · rintro h₁₃ t₁₃ X₁₃ ⟨⟨b1, b2, F⟩, hDc, hAll, hSa, hall⟩
        subst hm3
        repeat' (walk_at "mm")
        rw [hpps.1, List.take_length] at hSa hall
        have hls : lfSeq (inE hs) ps = ps.filterMap leftPc := by rw [lfSeq, leftSeq_all hall]
        refine for_next hLT9 (T2.step X₁₃) ⟨⟨_, _, _, F⟩, hDc, hAll, ?_⟩
        rw [hwts, List.flatMap_append, List.flatMap_cons, List.flatMap_nil, List.append_nil, hls, ← hcur0]; exact hSa
    · rintro h₈ t₈ X₈ ⟨⟨b1, b2, b3, F⟩, hDc, hAll, hSa⟩
      subst hm2
      repeat' (walk_at "mm")
      have X8' : Ext base [h.objs.size, d] h₄ h₈ := T1.trans X₈ (mem_cons2 (.inl (.head _)) fun b q => by rw [List.mem_singleton.mp q]; exact .inr ha4)
      rw [hws.1, List.take_length] at hSa
      have hts : R.take (j + 1) = R.take j ++ [r] := by rw [List.take_add_one, hr]; rfl
      refine for_next hLT9 X8' ⟨⟨_, _, _, _, _, F⟩, _, hDc, ?_⟩
      rw [hts]
      exact (hAll.imp fun _ _ z => z.less).snoc ⟨rfl, a, rfl, hSa, not_cons haL (not_cons had fun q => hN a q ha0)⟩
  · rintro h₄ t₄ X₄ ⟨⟨b1, b2, b3, b4, b5, F⟩, kvs, hDc, hAll⟩
    subst hm
    have hal2 : ∀ a ∈ [h.objs.size, d], a ∈ ([] : List Addr) ∨ h.get? a = none := mem_cons2 (P := fun a => a ∈ ([] : List Addr) ∨ h.get? a = none) (.inr (get?_size h)) fun a q => by rw [List.mem_singleton.mp q]; exact .inr hdn
    repeat' (walk_at "mm")
    rw [hRa.1, List.take_length] at hAll
    exact hQ _ _ _ kvs (X.trans X₄ hal2) hdn hDc (hAll.imp fun _ _ z => z.less)
end
-- part P2
theorem nmR_0 : nmR 0 = Str.ofString "R0" := by decide +kernel
theorem nmRs_nodup {n : Nat} (hn : n ≤ 4) : (nmRs n).Nodup := by
  have h4 : (nmRs 4).Nodup := by decide +kernel
  have e : nmRs n = (nmRs 4).take n := by
    unfold nmRs
    rw [← List.map_take, List.take_range]
    congr 2; omega
  rw [e]; exact h4.sublist (List.take_sublist _ _)
theorem IsR.len {count : Nat} {R : Rules} {i : Nat} (h : IsR count R i) : R.length = i := by
  have h1 := congrArg List.length h.1
  rwa [List.length_map, nmRs, List.length_map, List.length_range] at h1
theorem IsR.wf {count : Nat} {R : Rules} (h : IsR count R count) (h0 : 0 < count) (h4 : count ≤ 4) : WF R := by
  have hin : ∀ {i}, i < count → nmR i ∈ R.map (·.1) := fun hi => by
    rw [h.1]; exact List.mem_map.mpr ⟨_, List.mem_range.mpr hi, rfl⟩
  refine ⟨?_, ?_, fun r hr => (h.2 r hr).1, fun r hr way hw => ((h.2 r hr).2 way hw).1, fun r hr way hw x hx => ?_, fun r hr way hw x hx => ?_, ?_⟩
  · rw [h.1]; exact nmRs_nodup h4
  · rw [h.len]; exact h4
  · rcases hx with hx | hx | hx
    · obtain ⟨i, hi, rfl⟩ := ((h.2 r hr).2 way hw).2 _ hx; exact hin hi
    · obtain ⟨i, hi, rfl⟩ := ((h.2 r hr).2 way hw).2 _ hx; exact hin hi
    · obtain ⟨i, hi, rfl⟩ := ((h.2 r hr).2 way hw).2 _ hx; exact hin hi
  · have : x ∈ T3 := ((h.2 r hr).2 way hw).2 _ hx
    simpa [T3] using this
  · cases R with
    | nil => have := h.len; simp at this; omega
    | cons r rest =>
      obtain ⟨x, ws⟩ := r
      refine ⟨ws, rest, ?_⟩
      have h1 := congrArg (fun l => l[0]?) h.1
      simp only [List.map_cons, List.getElem?_cons_zero, nmRs, List.getElem?_map] at h1
      rw [List.getElem?_range h0] at h1
      simp only [Option.map_some, Option.some.injEq] at h1
      rw [h1, nmR_0]
/-! what is met from a rule -/
structure DI (R : Rules) (S : Str → Bool) (nm : Str) (met wt : List Str) : Prop where
  sound : ∀ y, y ∈ met ∨ y ∈ wt → Rc R S nm y
  root : ∀ y, Lf R S nm y → y ∈ met ∨ y ∈ wt
  clos : ∀ z ∈ met, ∀ y, Lf R S z y → y ∈ met ∨ y ∈ wt
  nd : met.Nodup
  ns : ∀ y, y ∈ met ∨ y ∈ wt → y ∈ R.map (·.1)
theorem lf_of {R : Rules} (hR : WF R) {S : Str → Bool} {x : Str} {ws : List (List Pc)} (hr : (x, ws) ∈ R) {y : Str} : Lf R S x y ↔ y ∈ lfAlt S ws := by
  rw [mem_lfAlt]
  constructor
  · rintro ⟨ws', hr', h⟩
    rw [← hR.uniq hr hr']; exact h
  · intro h; exact ⟨ws, hr, h⟩
theorem DI.start {R : Rules} (hR : WF R) {S : Str → Bool} {nm : Str} {ws : List (List Pc)} (hr : (nm, ws) ∈ R) : DI R S nm [] (lfAlt S ws) where
  sound := fun y hy => .one ((lf_of hR hr).mpr (hy.elim (fun q => nomatch q) id))
  root := fun y hy => .inr ((lf_of hR hr).mp hy)
  clos := fun _ q => nomatch q
  nd := List.nodup_nil
  ns := fun y hy => ((lf_of hR hr).mpr (hy.elim (fun q => nomatch q) id)).names hR
theorem DI.skip {R : Rules} {S : Str → Bool} {nm y : Str} {met wt : List Str} (d : DI R S nm met (wt ++ [y])) (hy : y ∈ met) : DI R S nm met wt := by
  have key : ∀ z, z ∈ met ∨ z ∈ wt ++ [y] → z ∈ met ∨ z ∈ wt := fun z hz => by
    rcases hz with hz | hz
    · exact .inl hz
    · rcases List.mem_append.mp hz with hz | hz
      · exact .inr hz
      · rw [List.mem_singleton.mp hz]; exact .inl hy
  exact ⟨fun z hz => d.sound z (hz.imp id (List.mem_append_left _)), fun z hz => key z (d.root z hz), fun u hu z hz => key z (d.clos u hu z hz), d.nd, fun z hz => d.ns z (hz.imp id (List.mem_append_left _))⟩
theorem DI.push {R : Rules} (hR : WF R) {S : Str → Bool} {nm y : Str} {met wt : List Str} {ws : List (List Pc)} (d : DI R S nm met (wt ++ [y])) (hy : y ∉ met) (hr : (y, ws) ∈ R) : DI R S nm (met ++ [y]) (wt ++ lfAlt S ws) := by
  have hRy : Rc R S nm y := d.sound y (.inr (List.mem_append_right _ (.head _)))
  have key : ∀ z, z ∈ met ∨ z ∈ wt ++ [y] → z ∈ met ++ [y] ∨ z ∈ wt ++ lfAlt S ws := fun z hz => by
    rcases hz with hz | hz
    · exact .inl (List.mem_append_left _ hz)
    · rcases List.mem_append.mp hz with hz | hz
      · exact .inr (List.mem_append_left _ hz)
      · exact .inl (List.mem_append_right _ hz)
  refine ⟨fun z hz => ?_, fun z hz => key z (d.root z hz), fun u hu z hz => ?_, ?_, fun z hz => ?_⟩
  · rcases hz with hz | hz
    · rcases List.mem_append.mp hz with hz | hz
      · exact d.sound z (.inl hz)
      · rw [List.mem_singleton.mp hz]; exact hRy
    · rcases List.mem_append.mp hz with hz | hz
      · exact d.sound z (.inr (List.mem_append_left _ hz))
      · exact .more hRy ((lf_of hR hr).mpr hz)
  · rcases List.mem_append.mp hu with hu | hu
    · exact key z (d.clos u hu z hz)
    · rw [List.mem_singleton.mp hu] at hz
      exact .inr (List.mem_append_right _ ((lf_of hR hr).mp hz))
  · exact List.nodup_append.mpr ⟨d.nd, by simp, fun a ha b hb e => hy (by rw [List.mem_singleton.mp hb] at e; exact e ▸ ha)⟩
  · rcases hz with hz | hz
    · rcases List.mem_append.mp hz with hz | hz
      · exact d.ns z (.inl hz)
      · exact d.ns z (.inr (List.mem_append_right _ hz))
    · rcases List.mem_append.mp hz with hz | hz
      · exact d.ns z (.inr (List.mem_append_left _ hz))
      · exact ((lf_of hR hr).mpr hz).names hR
theorem DI.done {R : Rules} {S : Str → Bool} {nm : Str} {met : List Str} (d : DI R S nm met []) (y : Str) : y ∈ met ↔ Rc R S nm y := by
  refine ⟨fun h => d.sound y (.inl h), fun h => ?_⟩
  induction h with
  | one l => exact (d.root _ l).elim id (fun q => nomatch q)
  | more _ l ih => exact (d.clos _ ih _ l).elim id (fun q => nomatch q)
theorem rc_name {R : Rules} {S : Str → Bool} {x y : Str} (r : Rc R S x y) : x ∈ R.map (·.1) := by
  induction r with
  | one l => obtain ⟨ws, hr, _⟩ := l; exact List.mem_map.mpr ⟨_, hr, rfl⟩
  | more _ _ ih => exact ih
theorem inE_eq {E hs : List Str} {R : Rules} (h1 : ∀ y, y ∈ E ↔ Nul R y) (h2 : ∀ y, y ∈ hs ↔ Nul R y) : inE E = inE hs := by
  funext y
  unfold inE
  by_cases h : y ∈ E
  · rw [decide_eq_true h, decide_eq_true ((h2 y).mpr ((h1 y).mp h))]
  · rw [decide_eq_false h, decide_eq_false fun q => h ((h1 y).mpr ((h2 y).mp q))]
theorem name_ne {x : Str} {count : Nat} {R : Rules} (hI : IsR count R count) (h4 : count ≤ 4) (h : ∀ i, i < 4 → x ≠ nmR i) : x ∉ R.map (·.1) := fun m => by
  rw [hI.1] at m
  obtain ⟨i, hi, e⟩ := List.mem_map.mp m
  exact h i (Nat.lt_of_lt_of_le (List.mem_range.mp hi) h4) e.symm
theorem ne_p : ∀ i, i < 4 → Str.ofString "p" ≠ nmR i := fun i hi => lt4 (P := fun i => Str.ofString "p" ≠ nmR i) (by decide +kernel) (by decide +kernel) (by decide +kernel) (by decide +kernel) hi
theorem ne_other : ∀ i, i < 4 → Str.ofString "other" ≠ nmR i := fun i hi => lt4 (P := fun i => Str.ofString "other" ≠ nmR i) (by decide +kernel) (by decide +kernel) (by decide +kernel) (by decide +kernel) hi
-- part L22
section
variable {w : World} {A : Around} {k : Nat} {base h h' : Heap} {g : Array GenState} {dr : Drawn} {t : Nat} {os : OsState} {E : Value → Shared → Prop} {W : List Addr}
theorem iadd_fill : fillsInplaceSlot (.type "list") "add" (Operator.Add == .Add) = pure false := by
  unfold fillsInplaceSlot
  show (typeLookup (.type "list") (dunderI "add") >>= fun fi => pure (fi.isSome && !isSeqSlot fi)) = pure false
  rw [PySem.F.slot_list_iadd.lookup]
  show (pure ((some (Value.builtin "list.__iadd__")).isSome && !isSeqSlot (some (.builtin "list.__iadd__"))) : Sem Bool) = pure false
  rw [show ((some (Value.builtin "list.__iadd__")).isSome && !isSeqSlot (some (.builtin "list.__iadd__"))) = false from by decide +kernel]
theorem iadd_seq : seqSlot? (.type "list") (dunderI "add") = pure (some (.builtin "list.__iadd__")) := PySem.seqSlot_of PySem.F.slot_list_iadd.lookup (by decide +kernel)
theorem ls_iadd {l b : Addr} {vs us : List Value} {Q : Value → Shared → Prop} (hl : Ls base h l vs) (hb : Ls base h b us) (hz : vs.length + us.length ≤ 100000)
    (hQ : ∀ h', Ls base h' l (vs ++ us) → Ext base [l] h h' → Q (.ref l) ⟨h', g, dr, t, os⟩) : wpAny (model pw w) A (inplaceOp .Add (.ref l) (.ref b)) Q E ⟨h, g, dr, t, os⟩ := by
  obtain ⟨n, e⟩ := hl.2
  obtain ⟨n2, e2⟩ := hb.2
  have h1 : vs.toArray.size + us.toArray.size ≤ sizeLine := by rw [List.size_toArray, List.size_toArray, sizeLine_eq]; omega
  unfold inplaceOp
  refine wpAny_holding ?_
  refine wpAny_bind (wpAny_typeOf hl.typeIs (wpAny_bind (wpAny_of_eq iadd_fill ?_)))
  show wpAny _ A (if false = true then _ else _) Q E _
  rw [if_neg Bool.false_ne_true]
  refine wpAny_bind (wpAny_binaryOp1_none (nm := "add") hl.typeIs hb.typeIs noFill_list_add ?_)
  refine wpAny_bind (wpAny_of_eq iadd_seq ?_)
  refine wpAny_bind (wpAny_rule ?_)
  refine call_meets PySem.F.slot_list_iadd hl.typeIs PySem.F.entry_list_iadd (PySem.F.args_list_iadd_2 _ _) (AutoSeq1.list___iadd___list_list_0 l _ n b _ n2 (extend_door h1) (Nat.le_trans (Nat.le_add_right _ _) h1) (Nat.le_succ_of_le h1)) ⟨e, e2, ?_⟩
  have r := hl.one (vs' := vs ++ us) (by simpa using plain_upd e fun x => x ++ us.toArray) (Heap.SameBut.update ..)
  exact hQ _ r.1 r.2
theorem bool_ne {b c : Bool} {Q : Value → Shared → Prop} (hu : A.units + 64 < cLine) (hQ : Q (.bool (!(b == c))) ⟨h, g, dr, t, os⟩) : wpAny (model pw w) A (compareOp .NotEq (.bool b) (.bool c)) Q E ⟨h, g, dr, t, os⟩ :=
  ne_dataH (s := ⟨h, g, dr, t, os⟩) (Reads.bool b) (Reads.bool c) rfl rfl hu (by rw [PyData.eqv]; exact hQ)
/-! the grammar and what it does not touch -/
structure Off (x : Addr) (ga : GA) (Ds : List Addr) (dw : Addr) (Dw : List Addr) (a : Addr) : Prop where
  x : a ≠ x
  dx : a ≠ ga.dx
  lo : a ≠ ga.lo
  dt : a ≠ ga.dt
  de : a ≠ ga.de
  df : a ≠ ga.df
  Ds : a ∉ Ds
  dw : a ≠ dw
  Dw : a ∉ Dw
theorem GrF.extW {C : Bs w base} {x : Addr} {ga : GA} {fl : List (Str × Value)} {R : Rules} {E : List Str} {Ds : List Addr} {FS : List (List Str)} {dw : Addr} {Dw : List Addr} {WS : List (List Str)}
    (G : GrF C h x ga fl R E Ds FS dw Dw WS) (X : Ext base W h h') (hW : ∀ a ∈ W, Off x ga Ds dw Dw a) : GrF C h' x ga fl R E Ds FS dw Dw WS where
  gr := { G.gr with
    inst := G.gr.inst.ext X (fun m => (hW _ m).x rfl) (fun m => (hW _ m).dx rfl)
    ord := G.gr.ord.ext X (fun m => (hW _ m).lo rfl)
    tab := G.gr.tab.ext X (fun m => (hW _ m).dt rfl)
    emp := G.gr.emp.ext X (fun m => (hW _ m).de rfl)
    fir := G.gr.fir.ext X (fun m => (hW _ m).df rfl) (fun a ha m => (hW _ m).Ds ha) }
  f5 := G.f5
  fol := G.fol.ext X (fun m => (hW _ m).dw rfl) (fun a ha m => (hW _ m).Dw ha)
  fsub := G.fsub
theorem GrF.off {C : Bs w base} {x : Addr} {ga : GA} {fl : List (Str × Value)} {R : Rules} {E : List Str} {Ds : List Addr} {FS : List (List Str)} {dw : Addr} {Dw : List Addr} {WS : List (List Str)}
    (G : GrF C h x ga fl R E Ds FS dw Dw WS) {a : Addr} (ha : h.get? a = none) : Off x ga Ds dw Dw a where
  x := fun q => by have := G.gr.inst.obj; rw [← q, ha] at this; cases this
  dx := fun q => by obtain ⟨_, _, this, _⟩ := G.gr.inst.dict; rw [← q, ha] at this; cases this
  lo := fun q => by obtain ⟨_, this, _⟩ := G.gr.ord; exact this.live (q ▸ ha)
  dt := fun q => by obtain ⟨_, this, _⟩ := G.gr.tab; exact this.live (q ▸ ha)
  de := fun q => G.gr.emp.live (q ▸ ha)
  df := fun q => G.gr.fir.dict.live (q ▸ ha)
  Ds := fun q => G.gr.fir.live a q ha
  dw := fun q => G.fol.dict.live (q ▸ ha)
  Dw := fun q => G.fol.live a q ha
/-! a frame that holds some names, whatever else -/
noncomputable def FrK (base : Heap) (L : Addr) (h : Heap) (kv : List (Str × Value)) : Prop := ∃ m : Str → Option Value, Fr base L h (fun y => match kv.lookup y with | some v => some v | none => m y)
theorem FrK.of {L : Addr} {m : Str → Option Value} {kv : List (Str × Value)} (F : Fr base L h m) (hk : ∀ p ∈ kv, m p.1 = some p.2) : FrK base L h kv := by
  refine ⟨m, fr_cast F fun y => ?_⟩
  cases e : kv.lookup y with
  | none => rfl
  | some v => exact hk (y, v) (mem_of_lookup e)
theorem FrK.soft {L : Addr} {kv : List (Str × Value)} (F : FrK base L h kv) (S : Soft base h h') : FrK base L h' kv := let ⟨m, F⟩ := F; ⟨m, fr_soft F S⟩
theorem FrK.ext {L : Addr} {kv : List (Str × Value)} (F : FrK base L h kv) (X : Ext base W h h') (hL : L ∉ W) : FrK base L h' kv := let ⟨m, F⟩ := F; ⟨m, fr_ext F X hL⟩
theorem FrK.on {L : Addr} {kv : List (Str × Value)} (F : FrK base L h kv) : On base h := let ⟨_, F⟩ := F; on_of F
theorem FrK.lt {L : Addr} {kv : List (Str × Value)} (F : FrK base L h kv) : L < h.objs.size := let ⟨_, F⟩ := F; F.ns.lt
theorem FrK.live {L : Addr} {kv : List (Str × Value)} (F : FrK base L h kv) : h.get? L ≠ none := let ⟨_, F⟩ := F; fr_live F
theorem all4 {α : Type} {a b c d : α} {P : α → Prop} (h1 : P a) (h2 : P b) (h3 : P c) (h4 : P d) : ∀ p ∈ [a, b, c, d], P p := fun p hp => by
  simp only [List.mem_cons, List.not_mem_nil, or_false] at hp
  rcases hp with rfl | rfl | rfl | rfl
  · exact h1
  · exact h2
  · exact h3
  · exact h4
theorem all6 {α : Type} {a b c d e f : α} {P : α → Prop} (h1 : P a) (h2 : P b) (h3 : P c) (h4 : P d) (h5 : P e) (h6 : P f) : ∀ p ∈ [a, b, c, d, e, f], P p := fun p hp => by
  simp only [List.mem_cons, List.not_mem_nil, or_false] at hp
  rcases hp with rfl | rfl | rfl | rfl | rfl | rfl
  · exact h1
  · exact h2
  · exact h3
  · exact h4
  · exact h5
  · exact h6
theorem all8 {α : Type} {a b c d e f x y : α} {P : α → Prop} (h1 : P a) (h2 : P b) (h3 : P c) (h4 : P d) (h5 : P e) (h6 : P f) (h7 : P x) (h8 : P y) : ∀ p ∈ [a, b, c, d, e, f, x, y], P p := fun p hp => by
  simp only [List.mem_cons, List.not_mem_nil, or_false] at hp
  rcases hp with rfl | rfl | rfl | rfl | rfl | rfl | rfl | rfl
  · exact h1
  · exact h2
  · exact h3
  · exact h4
  · exact h5
  · exact h6
  · exact h7
  · exact h8
/-! the data of what was found -/
noncomputable def cfD (c : Cf) : PyData := .tuple [.str c.1, .str c.2.1, .list (c.2.2.map .str)]
theorem rd_cf {N : List Addr} {v : Value} {c : Cf} (x : CfOk base h N v c) : Rd h v (cfD c) := by
  obtain ⟨tp, t1, t2, bl, rfl, h1, h2, _⟩ := x
  exact rd_tp h1 (All2.cons rd_str (All2.cons rd_str (All2.cons (rd_sl h2) All2.nil)))
theorem rd_fd {l : Addr} {N : List Addr} {ds : List Cf} (x : Fd base h l N ds) : Rd h (.ref l) (.list (ds.map cfD)) := by
  obtain ⟨vs, h1, h2⟩ := x
  exact rd_ls h1 (h2.mapR fun _ _ z => rd_cf z)
noncomputable def okC (c : Cf) : Prop := PyData.strOk c.1 = true ∧ PyData.strOk c.2.1 = true ∧ okS c.2.2
theorem cf_shape {c : Cf} (h : okC c) : (cfD c).canLay0 = true ∧ (cfD c).depth ≤ 2 := by
  have h3 := canAll_strs h.2.2
  refine ⟨?_, ?_⟩
  · simp [cfD, PyData.canLay0, PyData.canLayAll0, h.1, h.2.1, h3]
  · simp [cfD, PyData.depth, PyData.depthAll, depthAll_strs']
theorem fd_shape : ∀ {ds : List Cf}, (∀ c ∈ ds, okC c) → PyData.canLayAll0 (ds.map cfD) = true ∧ PyData.depthAll (ds.map cfD) ≤ 2
  | [], _ => ⟨rfl, by simp [PyData.depthAll]⟩
  | c :: ds, h => by
    have h1 := cf_shape (h c (.head _))
    have h2 := fd_shape fun d hd => h d (.tail _ hd)
    refine ⟨?_, ?_⟩
    · simp [PyData.canLayAll0, h1.1, h2.1]
    · simp only [List.map_cons, PyData.depthAll]; exact Nat.max_le.mpr ⟨h1.2, h2.2⟩
theorem fds_shape {ds : List Cf} (h : ∀ c ∈ ds, okC c) : SeqAt.shaped (.list (ds.map cfD)) = true := by
  have := fd_shape h
  unfold SeqAt.shaped
  rw [Bool.and_eq_true]
  refine ⟨by rw [PyData.canLay0]; exact this.1, ?_⟩
  have h2 := this.2
  rw [decide_eq_true_eq, PyData.depth]; omega
end
-- part P3
theorem srt_mem {ss : List Str} {y : Str} (h : y ∈ srt ss) : y ∈ ss := by
  unfold srt at h
  split at h
  · rename_i hex; exact hex.choose_spec.1.mem_iff.mp h
  · cases h
theorem okS_sub {a b : List Str} (h : okS b) (k : ∀ x ∈ a, x ∈ b) : okS a := fun x hx => h x (k x hx)
theorem okS_T4 : okS T4 := fun x hx => by
  simp only [T4, List.mem_cons, List.not_mem_nil, or_false] at hx
  rcases hx with rfl | rfl | rfl | rfl <;> decide +kernel
theorem okS_T3 : okS T3 := okS_sub okS_T4 fun x hx => by simp [T3] at hx; rcases hx with rfl | rfl | rfl <;> simp [T4]
theorem shr_ok {a b : List Str} (h : okS a) : okS (shr a b) := okS_sub h fun x hx => (List.mem_filter.mp (srt_mem hx)).1
theorem conf1_ok {nm kind : Str} {b : List Str} (hn : PyData.strOk nm = true) (hk : PyData.strOk kind = true) (hb : okS b) : ∀ c ∈ conf1 nm kind b, okC c := fun c hc => by
  unfold conf1 at hc
  split at hc
  · rw [List.mem_singleton.mp hc]; exact ⟨hn, hk, hb⟩
  · cases hc
theorem emp_ok {S : Str → Bool} {nm z : Str} (hn : PyData.strOk nm = true) : ∀ c ∈ emp S nm z, okC c := fun c hc => by
  unfold emp at hc
  split at hc
  · rw [List.mem_singleton.mp hc]; exact ⟨hn, (by decide +kernel : PyData.strOk (Str.ofString "empty") = true), fun _ q => nomatch q⟩
  · cases hc
theorem altIn_ok {nm : Str} {rows : List (List Str)} (hn : PyData.strOk nm = true) (hr : ∀ ks ∈ rows, okS ks) (hi n : Nat) : ∀ c ∈ altIn nm rows hi n, okC c := fun c hc => by
  obtain ⟨lo, _, hc⟩ := List.mem_flatMap.mp hc
  refine conf1_ok hn (by decide +kernel) (shr_ok ?_) c hc
  rw [List.getD_eq_getElem?_getD]
  cases e : rows[lo]? with
  | none => exact fun _ q => nomatch q
  | some ks => exact hr ks (List.mem_of_getElem? e)
theorem altC_ok {nm : Str} {rows : List (List Str)} (hn : PyData.strOk nm = true) (hr : ∀ ks ∈ rows, okS ks) (n : Nat) : ∀ c ∈ altC nm rows n, okC c := fun c hc => by
  obtain ⟨hi, _, hc⟩ := List.mem_flatMap.mp hc
  exact altIn_ok hn hr _ _ c hc
theorem confPc_ok {S : Str → Bool} {Fs : Str → List Str} {nm : Str} (hn : PyData.strOk nm = true) (hF : ∀ x, okS (Fs x)) (p : Pc) (ka : List Str) : ∀ c ∈ confPc S Fs nm p ka, okC c := fun c hc => by
  cases p with
  | text x => cases hc
  | name x => cases hc
  | opt x =>
    rcases List.mem_append.mp hc with hc | hc
    · exact emp_ok hn c hc
    · exact conf1_ok hn (by decide +kernel) (shr_ok (hF x)) c hc
  | rep x =>
    rcases List.mem_append.mp hc with hc | hc
    · exact emp_ok hn c hc
    · exact conf1_ok hn (by decide +kernel) (shr_ok (hF x)) c hc
theorem confPc1_ok {S : Str → Bool} {Fs : Str → List Str} {nm : Str} (hn : PyData.strOk nm = true) (hF : ∀ x, okS (Fs x)) (q : Ex × List Str) : ∀ c ∈ confPc1 S Fs nm q, okC c := fun c hc => by
  obtain ⟨q1, q2⟩ := q
  cases q1 with
  | pc p => exact confPc_ok hn hF p q2 c hc
  | seq p => cases hc
  | alt p => cases hc
theorem confPart_ok {S : Str → Bool} {Fs : Str → List Str} {nm : Str} (hn : PyData.strOk nm = true) (hF : ∀ x, okS (Fs x)) (q : Ex × List Str) : ∀ c ∈ confPart S Fs nm q, okC c := fun c hc => by
  obtain ⟨q1, q2⟩ := q
  cases q1 with
  | pc p => exact confPc_ok hn hF p q2 c hc
  | seq p =>
    obtain ⟨q', _, hc⟩ := List.mem_flatMap.mp hc
    exact confPc1_ok hn hF q' c hc
  | alt p => cases hc
theorem confAlt_ok {S : Str → Bool} {Fs : Str → List Str} {ns : List Str} {nm : Str} {ka : List Str} {ws : List (List Pc)} (hn : PyData.strOk nm = true) (hF : ∀ x, ∀ y ∈ Fs x, y ∈ T3) (hx : ExOK ns (.alt ws)) (hk : ∀ y ∈ ka, y ∈ T4) : ∀ c ∈ confAlt S Fs nm ka ws, okC c := fun c hc => by
  have hF' : ∀ x, okS (Fs x) := fun x => okS_sub okS_T3 (hF x)
  rcases List.mem_append.mp hc with hc | hc
  · refine altC_ok hn (fun ks hks => ?_) _ c hc
    obtain ⟨ps, hps, rfl⟩ := List.mem_map.mp hks
    exact okS_sub okS_T4 (predEx_sub4 hF (ns := ns) (e := .seq ps) (exok_seq (hx.2 ps hps)) hk)
  · obtain ⟨q, _, hc⟩ := List.mem_flatMap.mp hc
    exact confPart_ok hn hF' q c hc
theorem confAll_ok {S : Str → Bool} {Fs Ws : Str → List Str} {R : Rules} (hR : WF R) (hn : ∀ r ∈ R, PyData.strOk r.1 = true) (hF : ∀ x, ∀ y ∈ Fs x, y ∈ T3) (hW : ∀ x, ∀ y ∈ Ws x, y ∈ T4) : ∀ c ∈ confAll S Fs Ws R, okC c := fun c hc => by
  obtain ⟨r, hr, hc⟩ := List.mem_flatMap.mp hc
  exact confAlt_ok (hn r hr) hF (hR.exOK (x := r.1) hr) (hW r.1) c hc
theorem zz_T3 : Str.ofString "zz" ∉ T3 := by decide +kernel
theorem ks_off {ks : List Str} (h : ∀ y ∈ ks, y ∈ T3) : Str.ofString "zz" ∉ ks := fun q => zz_T3 (h _ q)
-- part M24
section
variable {w : World} {A : Around} {k : Nat} {base h : Heap} {g : Array GenState} {dr : Drawn} {t : Nat} {os : OsState}
theorem slice_head {value slice : Expr} {l : Addr} {vs : List Value} {Q : Value → Shared → Prop} {E : Value → Shared → Prop} {u : Tok} (hO : On base h) (hl : h.IsList l vs.toArray) (hz : vs.length ≤ 1000)
    (hQ : ∀ h' sl, Ext base [] h h' → h.get? sl = none → Ls base h' sl (vs.take 60) → Q (.ref sl) ⟨h', g, dr, t, os⟩)
    (hs : subscripted slice false (.ref l) (.ref h.objs.size) = operate [.ref h.objs.size, .ref l] (getItem (.ref l) (.ref h.objs.size))) (ht : ∀ r, letTemporaryGo value (.ref l) r = pure ()) :
    wpAny (model pw w) A (subscriptTail value slice (.ref l) (.ref h.objs.size)) Q E ⟨h.push { cls := .type "slice", data := .fields #[.none, .int 60 u, .none] }, g, dr, t, os⟩ := by
  refine slice_listK (s := ⟨h, g, dr, t, os⟩) hl .none (.int _ _) ?_ hs ht (by rw [List.size_toArray, sizeLine_eq]; omega)
  have hp := slicePick_upto' vs.toArray 60
  rw [show (some (60 : Int)) = some ((60 : Nat) : Int) from rfl, hp]
  have k : ∀ b o, h.get? b = some o → ((h.push { cls := .type "slice", data := .fields #[.none, .int 60 u, .none] }).push { cls := .type "list", data := .seq (vs.take 60).toArray }).get? b = some o := fun b o e => Heap.get?_push_of_some _ (Heap.get?_push_of_some _ e)
  have e : (h.push { cls := .type "slice", data := .fields #[.none, .int 60 u, .none] }).objs.size = h.objs.size + 1 := Heap.size_push ..
  have e2 := Heap.get?_push_size (h.push { cls := .type "slice", data := .fields #[.none, .int 60 u, .none] }) (o := { cls := .type "list", data := .seq (vs.take 60).toArray }) rfl
  rw [e] at e2
  exact hQ _ _ (.of_keeps k) (Heap.get?_none_of_le (Nat.le_succ _)) ⟨Heap.get?_none_of_le (Nat.le_succ_of_le hO.size), _, e2⟩
theorem lf_get {h : Heap} {N : List Addr} {S : Str → Bool} {kvs : List (Str × Value)} {R : Rules} (hn : (R.map (·.1)).Nodup) (x : All2 (LfOk base h N S) kvs R) {y : Str} (hy : y ∈ R.map (·.1)) :
    ∃ (r : Str × List (List Pc)) (a : Addr), r ∈ R ∧ r.1 = y ∧ valueAt kvs y = some (.ref a) ∧ Sl base h a (lfAlt S r.2) ∧ a ∉ N := by
  obtain ⟨r, hr, rfl⟩ := List.mem_map.mp hy
  obtain ⟨i, hi⟩ := List.getElem?_of_mem hr
  have hlt : i < kvs.length := by rw [x.1]; exact (List.getElem?_eq_some_iff.mp hi).1
  have hk : kvs[i]? = some kvs[i] := by simp [hlt]
  obtain ⟨e, a, e1, h1, h2⟩ := x.2 i kvs[i] r hk hi
  have hkeys : kvs.map (·.1) = R.map (·.1) := x.map fun a b q => q.1
  refine ⟨r, a, hr, rfl, valueAt_of_get (i := i) (by rw [hkeys]; exact hn) ?_, h1, h2⟩
  rw [hk, ← e, ← e1]
theorem lfAlt_len {S : Str → Bool} {ws : List (List Pc)} (h1 : ws.length ≤ 3) (h2 : ∀ ps ∈ ws, ps.length ≤ 3) : (lfAlt S ws).length ≤ 9 := by
  have := flat_len (f := lfSeq S) (m := 3) ws fun ps hps => Nat.le_trans (lfSeq_len _ _) (h2 ps hps)
  unfold lfAlt; omega
theorem strsAre_append : ∀ {vs us : List Value} {ss ts : List Str}, StrsAre vs ss → StrsAre us ts → StrsAre (vs ++ us) (ss ++ ts)
  | _, _, _, _, .nil, q => q
  | _, _, _, _, .cons y u r, q => .cons y u (strsAre_append r q)
theorem strsAre_unsnoc {vs : List Value} {ss : List Str} {y : Str} (x : StrsAre vs (ss ++ [y])) : ∃ vs' u, vs = vs' ++ [.str y u] ∧ StrsAre vs' ss := by
  induction ss generalizing vs with
  | nil =>
    cases x with
    | cons y u r => cases r; exact ⟨[], u, rfl, .nil⟩
  | cons z ss ih =>
    cases x with
    | cons z u r =>
      obtain ⟨vs', u', rfl, h⟩ := ih r
      exact ⟨.str z u :: vs', u', rfl, .cons z u h⟩
theorem law_body (C : Bs w base) {L l f : Addr} {cd : Value} {vs : List Value} {ns : List Int} {Q : Flow → Shared → Prop} (hA : Ok A 24) (F : Fr base L h (fun x => [(Str.ofString "script", Value.ref l)].reverse.lookup x)) (hl : h.IsList l vs.toArray) (hI : IntsAre vs ns) (hz : vs.length ≤ 1000)
    (hQ : ∀ h' t' (m : Str → Option Value), Fr base L h' m → Q (.ret (.bool true)) ⟨h', g, dr, t', os⟩) :
    wpAny (model pw w) A (execs (dn 25).body (envOf (dn 25).name (dn 25).scope L f cd)) Q NoE ⟨h, g, dr, t, os⟩ := by
  have hD : dn 25 = dn 25 := rfl
  conv at hD => rhs; whnf
  rw [hD]
  dsimp only
  clear hD
  have hh := hA.hh
  have hun := hA.un
  have hLlt := F.ns.lt
  have F0 := F
  repeat' (walk_at "mm")
  refine wpAny_Slice ?_
  refine wpAny_of_eq (a := Value.none) rfl ?_
  show wpAny _ _ (eval _ _) _ _ _
  repeat' (walk_at "mm")
  refine wpAny_of_eq (a := Value.none) rfl ?_
  refine slice_head (on_of F) hl hz ?_ (by with_unfolding_all rfl) (by intro _; with_unfolding_all rfl)
  intro h₂ sl X hsn hsl
  have hsl0 := hsl
  have F := fr_ext F X nin0
  have hslL : sl ≠ L := fun q => fr_live F0 (q ▸ hsn)
  repeat' (walk_at "mm")
  refine disp F (by simp) ?_
  intro h₃ p hp hLp F hP0 Y
  have hsl := hsl.ext Y nin0
  have hpL : p ≠ L := Nat.ne_of_gt hLp
  have hsp : sl ≠ p := fun q => hsl0.live (by rw [q, hp]; exact get?_size _)
  have hPt : Pt base h₃ p sl := ⟨0, _, vs.take 60, ns.take 60, hP0.1, ls_list hP0, hsl, hI.take 60, by rw [List.length_take]; omega, hsp⟩
  have X := X.nil Y
  repeat' (walk_at "mm")
  intro h₄ t₄ F Y
  have hPt := hPt.ext Y (nin1 hpL) (nin1 hslL)
  repeat' (walk_at "mm")
  refine rules_spec C (hA.less (by decide)) (on_of F) hPt ?_
  intro h₅ t₅ lr R count Y hlrn hRL hc0 hc4 hI
  have hlrL : lr ≠ L := fun q => fr_live F (q ▸ hlrn)
  have F := fr_ext F Y (nin1 (Ne.symm hpL))
  have hR := hI.wf hc0 hc4
  repeat' (walk_at "mm")
  intro h₆ t₆ F Y
  have hRL := hRL.ext Y (nin1 hlrL)
  repeat' (walk_at "mm")
  refine make_g C (hA.less (by decide) : Ok A 16) (on_of F) ?_
  intro h₇ x dx A₂ hA₂ hO₂ I hxn hdxn Y
  have hRL7 := hRL.ext Y nin0
  have hlrdx : lr ≠ dx := fun q => by obtain ⟨_, h1, _⟩ := hRL; exact h1.live (q ▸ hdxn)
  refine init_spec C (hA₂.less (by decide)) hO₂ I hRL7 hR (by rw [hI.1, ← nmR_0]; exact List.mem_map.mpr ⟨0, List.mem_range.mpr hc0, rfl⟩) hlrdx ?_
  intro h₈ t₈ ga fl E Ds FS dw Dw WS Y8 G hgdx hNul hfresh
  refine ⟨rfl, ?_⟩
  dsimp only
  have X68 : Ext base [] h₆ h₈ := Y.trans Y8 (fun a q => .inr (by rw [List.mem_singleton.mp q]; exact hdxn))
  have hLv := fr_live F
  have hLv7 : h₇.get? L ≠ none := fun e => hLv (Y.gone e)
  have hLoff : Off x ga Ds dw Dw L := by
    obtain ⟨a1, a2, a3, a4, a5, a6, a7⟩ := hfresh L hLv7
    exact ⟨fun q => hLv (q ▸ hxn), fun q => hLv (by rw [q, hgdx]; exact hdxn), a1, a2, a3, a4, a5, a6, a7⟩
  have F := fr_ext F X68 nin0
  have hRL := hRL.ext X68 nin0
  have hLW : ∀ a ∈ [L], Off x ga Ds dw Dw a := fun a q => by rw [List.mem_singleton.mp q]; exact hLoff
  repeat' (walk_at "mm")
  intro h₉ t₉ F Y
  have G := G.extW Y hLW
  have hRL := hRL.ext Y (nin1 hlrL)
  repeat' (walk_at "mm")
  refine conflicts_spec C (N := [L]) (hA.less (by decide)) (on_of F) (fun a q => by rw [List.mem_singleton.mp q]; exact fr_live F) G ?_
  intro h₁₀ t₁₀ td Y htdn hTold
  have htdL : td ≠ L := fun q => fr_live F (q ▸ htdn)
  have F := fr_ext F Y nin0
  have G := G.ext Y
  have hRL := hRL.ext Y nin0
  obtain ⟨CF, hCF⟩ : ∃ CF, CF = confAll (inE E) (fsAt (R.map (·.1)) FS) (fsAt (R.map (·.1)) WS) R := ⟨_, rfl⟩
  rw [← hCF] at hTold
  repeat' (walk_at "mm")
  intro h₁₁ t₁₁ F Y
  have G := G.extW Y hLW
  have hRL := hRL.ext Y (nin1 hlrL)
  have hTold := hTold.ext Y (fun a q => q) (nin1 htdL)
  repeat' (walk_at "mm")
  refine hollows_spec C (hA.less (by decide)) (on_of F) hRL hI hc4 ?_
  intro h₁₂ t₁₂ hl hs Y hln hHS hok hNul2
  have F := fr_ext F Y nin0
  have G := G.ext Y
  have hRL := hRL.ext Y nin0
  have hTold := hTold.ext Y (fun a q => nomatch q) nin0
  repeat' (walk_at "mm")
  refine lefts_spec C (N := [L]) (hA.less (by decide)) (on_of F) hRL hI hc4 hR.nodup hHS hok (fun a q => by rw [List.mem_singleton.mp q]; exact fr_live F) ?_
  intro h₁₃ t₁₃ dl kvs Y hdln hDc hLf
  have hdlL : dl ≠ L := fun q => fr_live F (q ▸ hdln)
  have F := fr_ext F Y nin0
  have G := G.ext Y
  have hRL := hRL.ext Y nin0
  have hTold := hTold.ext Y (fun a q => nomatch q) nin0
  repeat' (walk_at "mm")
  intro h₁₄ t₁₄ F Y
  have G := G.extW Y hLW
  have hRL := hRL.ext Y (nin1 hlrL)
  have hTold := hTold.ext Y (fun a q => q) (nin1 htdL)
  have hDc := hDc.ext Y (nin1 hdlL)
  have hLf := hLf.imp fun _ _ z => z.ext Y sub_k2
  have hSE : inE E = inE hs := inE_eq hNul hNul2
  obtain ⟨vr, hvr, hRa⟩ := hRL
  repeat' (walk_at "mm")
  refine for_list (base := base) hh ?_ (by intro _; rfl) (.inr ⟨_, _, _, rfl⟩)
  repeat' (walk_at "mm")
  refine ⟨lr, vr, _, _, rfl, rfl, hvr, on_of F, [L], fun i h' => FrK base L h' [(Str.ofString "rules", .ref lr), (Str.ofString "made", .ref x), (Str.ofString "told", .ref td), (Str.ofString "lefts", .ref dl)], nin1 hlrL, lt1 F, .of F (all4 rfl rfl rfl rfl), ?_, ?_, ?_⟩
  · intro i h h' F S
    exact F.soft S
  · rintro i v h₁₅ t₁₅ R9 hi hv X₁₅ ⟨m0, F⟩ hLT9
    obtain ⟨r, hr, tp, u, av, rfl, hTp, hAl⟩ := hRa.get hv
    have hrm := List.mem_of_getElem? hr
    have hrn : r.1 ∈ R.map (·.1) := List.mem_map.mpr ⟨r, hrm, rfl⟩
    have hrok : PyData.strOk r.1 = true := isR_ok hI hc4 hrn
    have hTp := hTp.ext X₁₅
    have hAl := hAl.ext X₁₅
    repeat' (walk_at "mm")
    intro h₁₆ t₁₆ F Y
    have hAl := hAl.ext Y
    have X := X₁₅.step Y
    have T : Ext base [L] h₁₅ h₁₆ := Y
    repeat' (walk_at "mm")
    refine disp F (by decide) ?_
    intro h₁₇ dm hdm hLdm F hM Y
    have hM : Sl base h₁₇ dm [] := ⟨_, hM, .nil⟩
    have T15m : h₁₅.get? dm = none := T.gone (by rw [hdm]; exact get?_size _)
    have hdmL : dm ≠ L := Nat.ne_of_gt hLdm
    have hAl := hAl.ext Y
    have X := X.step (Y.more (fun _ q => nomatch q))
    have T := T.step (Y.more (fun _ q => nomatch q))
    repeat' (walk_at "mm")
    intro h₁₈ t₁₈ F Y
    have hM := hM.ext Y (nin1 hdmL)
    have hAl := hAl.ext Y
    have X := X.step Y
    have T := T.step Y
    have hDc18 := hDc.ext X (nin1 hdlL)
    have hLf18 := hLf.imp fun _ _ z => z.ext X sub_k2
    obtain ⟨r', a, hr', he', hva, hSa, haN⟩ := lf_get hR.nodup hLf18 hrn
    have hra : r'.2 = r.2 := hR.uniq (x := r.1) hrm (by rw [← he']; exact hr')
    rw [hra] at hSa
    obtain ⟨va, hva2, hsa⟩ := id hSa
    repeat' (walk_at "mm")
    have hval : va.length ≤ 9 := by
      rw [strsAre_len hsa]
      exact lfAlt_len (hI.2 r hrm).1 fun ps hps => ((hI.2 r hrm).2 ps hps).1
    refine ls_copy hva2 F (by omega) ?_
    intro h₁₉ dw' hdw' hLdw F hW0 Y
    have T15w : h₁₅.get? dw' = none := T.gone (by rw [hdw']; exact get?_size _)
    have hW : Sl base h₁₉ dw' (lfAlt (inE hs) r.2) := ⟨va, hW0, hsa⟩
    have hwL : dw' ≠ L := Nat.ne_of_gt hLdw
    have hwm : dw' ≠ dm := fun q => hM.live (by rw [← q, hdw']; exact get?_size _)
    have hM := hM.ext Y nin0
    have hAl := hAl.ext Y
    have X := X.step (Y.more (fun _ q => nomatch q))
    have T := T.step (Y.more (fun _ q => nomatch q))
    repeat' (walk_at "mm")
    intro h₂₀ t₂₀ F Y
    have hM := hM.ext Y (nin1 hdmL)
    have hW := hW.ext Y (nin1 hwL)
    have hAl20 := hAl.ext Y
    have X := X.step Y
    have T := T.step Y
    have hDI : DI R (inE hs) r.1 [] (lfAlt (inE hs) r.2) := DI.start hR (by obtain ⟨y, z⟩ := r; exact hrm)
    have F : FrK base L h₂₀ [(Str.ofString "rules", .ref lr), (Str.ofString "made", .ref x), (Str.ofString "told", .ref td), (Str.ofString "lefts", .ref dl), (Str.ofString "name", .str r.1 u), (Str.ofString "e", av), (Str.ofString "met_rules", .ref dm), (Str.ofString "waiting", .ref dw')] := .of F (all8 rfl rfl rfl rfl rfl rfl rfl rfl)
    have hin : ∀ {l : List Str}, (∀ y ∈ l, y ∈ R.map (·.1)) → okS l := fun hl y hy => isR_ok hI hc4 (hl y hy)
    have hdm15 : h₁₅.get? dm = none := T15m
    have hdw15 : h₁₅.get? dw' = none := T15w
    have hdm14 : h₁₄.get? dm = none := X₁₅.gone hdm15
    have hdw14 : h₁₄.get? dw' = none := X₁₅.gone hdw15
    have lenR : ∀ {met wt : List Str}, DI R (inE hs) r.1 met wt → met.length ≤ 4 := fun d => by
      have := nodup_len d.nd (fun y hy => d.ns y (.inl hy))
      rw [List.length_map] at this
      exact Nat.le_trans this hR.few
    repeat' (walk_at "mm")
    refine while_rule2 (fun n h' => ∃ met wt, FrK base L h' [(Str.ofString "rules", .ref lr), (Str.ofString "made", .ref x), (Str.ofString "told", .ref td), (Str.ofString "lefts", .ref dl), (Str.ofString "name", .str r.1 u), (Str.ofString "e", av), (Str.ofString "met_rules", .ref dm), (Str.ofString "waiting", .ref dw')] ∧
      Sl base h' dm met ∧ Sl base h' dw' wt ∧ DI R (inE hs) r.1 met wt ∧ Ext base [L] h₁₄ h' ∧ Ext base [L] h₁₅ h' ∧ IsAlt h' av r.2 ∧ n = 10 * (4 - met.length) + wt.length ∧ n ≤ 49) _ ?_ ⟨[], _, F, hM, hW, hDI, X, T, hAl20, rfl, by
        have := strsAre_len hsa
        simp only [List.length_nil]; omega⟩
    rintro n h₂₁ t₂₁ R9 ⟨met, wt, ⟨m1, F⟩, hM, hW, hDI, X, T, hAl, hn, hn49⟩ hWT9
    have hmet4 := lenR hDI
    have hokm : okS met := hin fun y hy => hDI.ns y (.inl hy)
    have hokw : okS wt := hin fun y hy => hDI.ns y (.inr hy)
    repeat' (walk_at "mm")
    refine disp F (by decide) ?_
    intro h₂₂ d0 hd0 hLd0 F hE0 Y
    have hM := hM.ext Y nin0
    have hW := hW.ext Y nin0
    have hAl := hAl.ext Y
    have X := X.step (Y.more (fun _ q => nomatch q))
    have T := T.step (Y.more (fun _ q => nomatch q))
    repeat' (walk_at "mm")
    refine sl_ne hW ⟨_, hE0, .nil⟩ hokw (fun _ q => nomatch q) (by omega) ?_
    by_cases hwe : wt = []
    · subst hwe
      rw [decide_eq_true rfl]
      repeat' (walk_at "mm")
      have GN := G.extW X hLW
      refine ilr_spec C (hA.less (by decide)) (on_of F) GN.gr ?_
      intro h₂₃ t₂₃ b Y hb
      have F := fr_ext F Y nin0
      have hM := hM.ext Y nin0
      have hAl := hAl.ext Y
      have X := X.step (Y.more (fun _ q => nomatch q))
      have T := T.step (Y.more (fun _ q => nomatch q))
      have hbd : b = decide (r.1 ∈ met) := by
        rw [hSE] at hb
        have h1 := hDI.done r.1
        cases b with
        | true => rw [decide_eq_true (h1.mpr (hb.mp rfl))]
        | false => rw [decide_eq_false fun q => by have := hb.mpr (h1.mp q); cases this]
      subst hbd
      repeat' (walk_at "mm")
      refine sl_in hM hokm hrok (by omega) ?_
      repeat' (walk_at "mm")
      refine bool_ne (by omega) ?_
      rw [show (!(decide (r.1 ∈ met) == decide (r.1 ∈ met))) = false from by rw [beq_self_eq_true]; rfl]
      repeat' (walk_at "mm")
      refine for_list (base := base) hh ?_ (by intro _; rfl) (.inl (by intro _ _; rfl))
      repeat' (walk_at "mm")
      refine disp F (by simp) ?_
      intro h₂₄ q1 hq1 hLq1 F hT1 Y
      have hAl := hAl.ext Y
      have X := X.step (Y.more (fun _ q => nomatch q))
      have T := T.step (Y.more (fun _ q => nomatch q))
      repeat' (walk_at "mm")
      refine disp F (by simp) ?_
      intro h₂₅ q2 hq2 hLq2 F hT2 Y
      have hT1 := hT1.ext Y
      have hAl := hAl.ext Y
      have X := X.step (Y.more (fun _ q => nomatch q))
      have T := T.step (Y.more (fun _ q => nomatch q))
      repeat' (walk_at "mm")
      refine disp F (by simp) ?_
      intro h₂₆ q3 hq3 hLq3 F hT3 Y
      have hT1 := hT1.ext Y
      have hT2 := hT2.ext Y
      have hAl := hAl.ext Y
      have X := X.step (Y.more (fun _ q => nomatch q))
      have T := T.step (Y.more (fun _ q => nomatch q))
      repeat' (walk_at "mm")
      refine disp F (by simp) ?_
      intro h₂₇ la hla hLla F hLa Y
      have hT1 := hT1.ext Y
      have hT2 := hT2.ext Y
      have hT3 := hT3.ext Y
      have hAl := hAl.ext Y
      have X := X.step (Y.more (fun _ q => nomatch q))
      have T := T.step (Y.more (fun _ q => nomatch q))
      have hlaL : la ≠ L := Nat.ne_of_gt hLla
      have hpo : PcOK (R.map (·.1)) (.name r.1) := ⟨hrn, fun x e => nomatch e⟩
      have hpo2 : PcOK (R.map (·.1)) (.opt r.1) := ⟨hrn, fun x e => nomatch e⟩
      have hitems : ∀ (i : Nat) (v : Value), [Value.ref q1, Value.ref q3, av][i]? = some v → ∃ ex, IsEx h₂₇ v ex ∧ ExOK (R.map (·.1)) ex := fun i v e => by
        rcases i with _ | _ | _ | i
        · cases e; exact ⟨.pc (.name r.1), ⟨q1, _, _, rfl, hT1⟩, hpo⟩
        · cases e; exact ⟨.pc (.opt r.1), ⟨q3, _, _, rfl, hT3, q2, _, _, rfl, hT2⟩, hpo2⟩
        · cases e; exact ⟨.alt r.2, hAl, hR.exOK (x := r.1) hrm⟩
        · simp at e
      refine ⟨la, _, h₂₇, _, rfl, rfl, hLa, on_of F, [L], fun i h' => FrK base L h' [(Str.ofString "rules", .ref lr), (Str.ofString "made", .ref x), (Str.ofString "told", .ref td), (Str.ofString "lefts", .ref dl), (Str.ofString "name", .str r.1 u), (Str.ofString "e", av)], nin1 hlaL, lt1 F, .of F (all6 rfl rfl rfl rfl rfl rfl), ?_, ?_, ?_⟩
      · intro i h h' F S
        exact F.soft S
      · rintro j v h₂₈ t₂₈ R9 hj hv X₂₈ ⟨m2, F⟩ hLT9
        obtain ⟨ex, hex, hexo⟩ := hitems j v hv
        have hex := hex.ext X₂₈
        have X := X.step X₂₈
        repeat' (walk_at "mm")
        intro h₂₉ t₂₉ F Y
        have hex := hex.ext Y
        have U : Ext base [L] h₂₈ h₂₉ := Y
        have X := X.step Y
        have GN := G.extW X hLW
        have I := GN.gr.inst
        have m2 := GN.gr.m2
        repeat' (walk_at "mm")
        refine first_spec C (hA.less (by decide)) (on_of F) GN.gr hex hexo ?_
        intro h₃₀ t₃₀ d1 Y hd1 hK1
        have hd1L : d1 ≠ L := fun q => fr_live F (q ▸ hd1)
        have hd28 : h₂₈.get? d1 = none := U.gone hd1
        have hd14 : h₁₄.get? d1 = none := X.gone hd1
        have F := fr_ext F Y nin0
        have hex := hex.ext Y
        have U := U.step (Y.more (fun _ q => nomatch q))
        have X := X.step (Y.more (fun _ q => nomatch q))
        repeat' (walk_at "mm")
        intro h₃₁ t₃₁ F Y
        have hK1 := hK1.ext Y (nin1 hd1L)
        have hex := hex.ext Y
        have U := U.step Y
        have X := X.step Y
        have hks3 := firstEx_sub (S := inE E) GN.gr.at hexo
        have hkl : (firstEx (inE E) (fsAt (R.map (·.1)) FS) ex).length ≤ 3 := nodup_len (tt_nodup hK1.nodup) hks3
        repeat' (walk_at "mm")
        refine ks_sorted hh F hK1 (by omega) ?_
        intro h₃₂ t₃₂ d2 Y hd2 hS2
        have hd2L : d2 ≠ L := fun q => fr_live F (q ▸ hd2)
        have hd21 : d2 ≠ d1 := fun q => hK1.live (q ▸ hd2)
        have F := fr_ext F Y nin0
        have hK1 := hK1.ext Y nin0
        have hex := hex.ext Y
        have U := U.step (Y.more (fun _ q => nomatch q))
        have X := X.step (Y.more (fun _ q => nomatch q))
        repeat' (walk_at "mm")
        intro h₃₃ t₃₃ F Y
        have hK1 := hK1.ext Y (nin1 hd1L)
        have hS2 := hS2.ext Y (nin1 hd2L)
        have hex := hex.ext Y
        have U := U.step Y
        have X := X.step Y
        repeat' (walk_at "mm")
        refine ks_set hK1 (by omega) ?_
        intro h₃₄ t₃₄ hK1 Y
        have F := fr_ext F Y (nin1 (Ne.symm hd1L))
        have hS2 := hS2.ext Y (nin1 hd21)
        have hex := hex.ext Y
        have U := U.trans Y (fun a q => .inr (by rw [List.mem_singleton.mp q]; exact hd28))
        have X := X.trans Y (fun a q => .inr (by rw [List.mem_singleton.mp q]; exact hd14))
        have GN := G.extW X hLW
        have I := GN.gr.inst
        repeat' (walk_at "mm")
        refine first_spec C (hA.less (by decide)) (on_of F) GN.gr hex hexo ?_
        intro h₃₅ t₃₅ d3 Y hd3 hK3
        have F := fr_ext F Y nin0
        have hS2 := hS2.ext Y nin0
        have U := U.step (Y.more (fun _ q => nomatch q))
        have X := X.step (Y.more (fun _ q => nomatch q))
        repeat' (walk_at "mm")
        refine ks_sorted hh F hK3 (by omega) ?_
        intro h₃₆ t₃₆ d4 Y hd4 hS4
        have F := fr_ext F Y nin0
        have hS2 := hS2.ext Y nin0
        have U := U.step (Y.more (fun _ q => nomatch q))
        have X := X.step (Y.more (fun _ q => nomatch q))
        have hsok : okS (srt (firstEx (inE E) (fsAt (R.map (·.1)) FS) ex)) := fun y hy => okS_T3 y (hks3 y (srt_mem hy))
        repeat' (walk_at "mm")
        refine sl_ne hS4 hS2 hsok hsok (by omega) ?_
        rw [decide_eq_true rfl]
        have GN := G.extW X hLW
        have I := GN.gr.inst
        have f4 := GN.gr.f4
        obtain ⟨jj, da, hjj, hja, hvda, hdaD, hKa⟩ := GN.gr.fir.get hR.nodup hrn
        have hfd := GN.gr.fir.dict
        have hKd : Dc w base h₃₆ da (tt _) := hKa
        have hzz := isSome_tt (fsAt (R.map (·.1)) FS r.1) (Str.ofString "zz")
        rw [decide_eq_false (ks_off (GN.gr.at r.1))] at hzz
        repeat' (walk_at "mm")
        rw [hzz]
        repeat' (walk_at "mm")
        exact for_next hLT9 U (.of F (all6 rfl rfl rfl rfl rfl rfl))
      · rintro h₂₈ t₂₈ X₂₈ ⟨m2, F⟩
        repeat' (walk_at "mm")
        refine for_next hLT9 (T.step X₂₈) (.of F (all4 rfl rfl rfl rfl))
    · rw [decide_eq_false hwe]
      obtain ⟨wt', y, rfl⟩ := append_pop hwe
      obtain ⟨vw, hvw, hsw⟩ := id hW
      obtain ⟨vw', uy, rfl, hsw'⟩ := strsAre_unsnoc hsw
      have hvl := strsAre_len hsw'
      have hyn : y ∈ R.map (·.1) := hDI.ns y (.inr (List.mem_append_right _ (.head _)))
      have hyok := isR_ok hI hc4 hyn
      have hwl : (wt' ++ [y]).length = wt'.length + 1 := by simp
      repeat' (walk_at "mm")
      refine ls_pop hvw (by omega) ?_
      intro h₂₃ hvw Y
      have F := fr_ext F Y (nin1 (Ne.symm hwL))
      have hM := hM.ext Y (nin1 (Ne.symm hwm))
      have hAl := hAl.ext Y
      have X := X.trans Y (fun a q => .inr (by rw [List.mem_singleton.mp q]; exact hdw14))
      have T := T.trans Y (fun a q => .inr (by rw [List.mem_singleton.mp q]; exact hdw15))
      repeat' (walk_at "mm")
      intro h₂₄ t₂₄ F Y
      have hM := hM.ext Y (nin1 hdmL)
      have hvw := hvw.ext Y (nin1 hwL)
      have hAl := hAl.ext Y
      have X := X.step Y
      have T := T.step Y
      repeat' (walk_at "mm")
      refine sl_notIn hM hokm hyok (by omega) ?_
      by_cases hy : y ∈ met
      · rw [decide_eq_true hy]
        repeat' (walk_at "mm")
        refine whl_next hWT9 (m := 10 * (4 - met.length) + wt'.length) (by omega) ⟨met, wt', .of F (all8 rfl rfl rfl rfl rfl rfl rfl rfl), hM, ⟨_, hvw, hsw'⟩, hDI.skip hy, X, T, hAl, rfl, by omega⟩
      · rw [decide_eq_false hy]
        obtain ⟨vm, hvm, hsm⟩ := id hM
        have hml := strsAre_len hsm
        repeat' (walk_at "mm")
        refine ls_append hvm (by omega) ?_
        intro h₂₅ hvm Y
        have F := fr_ext F Y (nin1 (Ne.symm hdmL))
        have hvw := hvw.ext Y (nin1 hwm)
        have hAl := hAl.ext Y
        have X := X.trans Y (fun a q => .inr (by rw [List.mem_singleton.mp q]; exact hdm14))
        have T := T.trans Y (fun a q => .inr (by rw [List.mem_singleton.mp q]; exact hdm15))
        have hDcN := hDc.ext X (nin1 hdlL)
        have hLfN := hLf.imp fun _ _ z => z.ext X sub_k2
        obtain ⟨r2, a2, hr2, he2, hv2, hS2, haN2⟩ := lf_get hR.nodup hLfN hyn
        obtain ⟨va2, hva3, hsa2⟩ := id hS2
        have hal2 : va2.length ≤ 9 := by
          rw [strsAre_len hsa2]
          exact lfAlt_len (hI.2 r2 hr2).1 fun ps hps => ((hI.2 r2 hr2).2 ps hps).1
        have hal3 := strsAre_len hsa2
        repeat' (walk_at "mm")
        refine ls_iadd hvw hva3 (by omega) ?_
        intro h₂₆ hvw Y
        have F := fr_ext F Y (nin1 (Ne.symm hwL))
        have hvm := hvm.ext Y (nin1 (Ne.symm hwm))
        have hAl := hAl.ext Y
        have X := X.trans Y (fun a q => .inr (by rw [List.mem_singleton.mp q]; exact hdw14))
        have T := T.trans Y (fun a q => .inr (by rw [List.mem_singleton.mp q]; exact hdw15))
        repeat' (walk_at "mm")
        intro h₂₇ t₂₇ F Y
        have hvm := hvm.ext Y (nin1 hdmL)
        have hvw := hvw.ext Y (nin1 hwL)
        have hAl := hAl.ext Y
        have X := X.step Y
        have T := T.step Y
        have hDI2 := hDI.push hR hy (ws := r2.2) (by rw [← he2]; exact hr2)
        have hm5 := lenR hDI2
        have hm6 : (met ++ [y]).length = met.length + 1 := by simp
        have hw6 : (wt' ++ lfAlt (inE hs) r2.2).length = wt'.length + (lfAlt (inE hs) r2.2).length := by simp
        repeat' (walk_at "mm")
        refine whl_next hWT9 (m := 10 * (4 - (met ++ [y]).length) + (wt' ++ lfAlt (inE hs) r2.2).length) (by omega) ⟨met ++ [y], wt' ++ lfAlt (inE hs) r2.2, .of F (all8 rfl rfl rfl rfl rfl rfl rfl rfl), ⟨_, hvm, strsAre_snoc hsm⟩, ⟨_, hvw, strsAre_append hsw' hsa2⟩, hDI2, X, T, hAl, rfl, by omega⟩
  · rintro h₁₅ t₁₅ X₁₅ ⟨m0, F⟩
    repeat' (walk_at "mm")
    have GN := G.extW X₁₅ hLW
    refine conflicts_spec C (N := []) (hA.less (by decide)) (on_of F) (fun a q => nomatch q) GN ?_
    intro h₁₆ t₁₆ td2 Y htd2 hTold2
    have F := fr_ext F Y nin0
    have X := X₁₅.step (Y.more (fun _ q => nomatch q))
    have hToldN := hTold.ext X (fun a q => q) (nin1 htdL)
    rw [← hCF] at hTold2
    have hok2 : ∀ c ∈ CF, okC c := by
      rw [hCF]
      exact confAll_ok hR (fun r hr => isR_ok hI hc4 (List.mem_map.mpr ⟨r, hr, rfl⟩)) G.gr.at (fun y => G.fsub.at y)
    repeat' (walk_at "mm")
    refine rd_eq (rd_fd hTold2) (rd_fd hToldN) (fds_shape hok2) (by omega) ?_
    have GN := G.extW X hLW
    repeat' (walk_at "mm")
    refine ilr_spec C (hA.less (by decide)) (on_of F) GN.gr ?_
    intro h₁₇ t₁₇ b Y hb
    have F := fr_ext F Y nin0
    have X := X.step (Y.more (fun _ q => nomatch q))
    have hbf : b = false := by
      cases b with
      | false => rfl
      | true => exact absurd (rc_name (hb.mp rfl)) (name_ne hI hc4 ne_p)
    subst hbf
    have GN := G.extW X hLW
    repeat' (walk_at "mm")
    refine ilr_spec C (hA.less (by decide)) (on_of F) GN.gr ?_
    intro h₁₈ t₁₈ b Y hb
    have F := fr_ext F Y nin0
    have hbf : b = false := by
      cases b with
      | false => rfl
      | true => exact absurd (rc_name (hb.mp rfl)) (name_ne hI hc4 ne_other)
    subst hbf
    repeat' (walk_at "mm")
    exact hQ _ _ _ F
end
-- part J5h
noncomputable def FnK (K : Frag) (a : Addr) (q : Str) (D : Dn) : Prop := ∃ o pm cd doc, K.lookup a = some o ∧ o.data = .func { name := D.name, qualname := q, params := D.params, body := .stmts D.body, scope := D.scope, globals := mainGlobals, closure := [], defaults := .none, kwdefaults := .none, doc := doc, pyModule := pm, code := cd, builtins := builtinsNs } ∧ codeIn K cd q = true
theorem FnK.is {K : Frag} {b : Heap} (X : K.In b) {a : Addr} {q : Str} {D : Dn} (x : FnK K a q D) : FnIs b a q D :=
  let ⟨o, pm, cd, doc, h1, h2, h3⟩ := x; ⟨o, pm, cd, doc, X _ _ h1, h2, codeRec_of X h3⟩
noncomputable abbrev kh (p : Params) : Frag := KH p
noncomputable def kf (i : Nat) : Addr := ([0, 0, 21, 28, 35, 0, 84, 91, 98, 105, 112, 119, 126, 131, 138, 145, 150, 157, 0, 164, 171, 176, 183, 188, 195] : List Nat).getD i 0
noncomputable def km (i : Nat) : Addr := ([49, 56, 63, 70] : List Nat).getD i 0
noncomputable def FnAll (p : Params) (i : Nat) : Prop := FnK (kh p) (kf i) (dn i).name (dn i) ∧ nsIn (kh p) mainGlobals (dn i).name = some (some (.ref (kf i))) ∧ keepIn (kh p) (.ref (kf i)) = true
theorem fnAll (p : Params) : ∀ i ∈ defIx, FnAll p i := by
  intro i hi
  simp only [defIx, List.mem_cons, List.not_mem_nil, or_false] at hi
  rcases hi with rfl | rfl | rfl | rfl | rfl | rfl | rfl | rfl | rfl | rfl | rfl | rfl | rfl | rfl | rfl | rfl | rfl | rfl | rfl | rfl | rfl <;> exact ⟨⟨_, _, _, _, rfl, rfl, rfl⟩, rfl, rfl⟩
noncomputable def MtAll (p : Params) (i : Nat) : Prop := FnK (kh p) (km i) ("Grammar." ++ (mt i).name) (mt i) ∧ findIn (kh p) (.ref 73) (mt i).name = some (some (.ref (km i))) ∧ isFn (kh p) (.ref (km i)) = true ∧ keepIn (kh p) (.ref (km i)) = true
theorem mtAll (p : Params) : ∀ i ∈ [0, 1, 2, 3], MtAll p i := by
  intro i hi
  simp only [List.mem_cons, List.not_mem_nil, or_false] at hi
  rcases hi with rfl | rfl | rfl | rfl <;> exact ⟨⟨_, _, _, _, rfl, rfl, rfl⟩, rfl, rfl, rfl⟩
theorem biAll (p : Params) : ∀ q ∈ biNames, nsIn (kh p) mainGlobals q.1 = some none ∧ q.1 ≠ "__name__" ∧ bootBuiltins q.1 = some q.2 := by
  intro q hq
  simp only [biNames, List.mem_cons, List.not_mem_nil, or_false] at hq
  rcases hq with rfl | rfl | rfl | rfl | rfl | rfl | rfl | rfl | rfl <;> exact ⟨rfl, by decide, by decide +kernel⟩
theorem clsAll (p : Params) : nsIn (kh p) mainGlobals (Str.ofString "Grammar") = some (some (.ref 73)) ∧ makesIn (kh p) 73 = true ∧ plainGet (kh p) 73 (Str.ofString "x") = true ∧ hasDictIn (kh p) 73 = true ∧
    findIn (kh p) (.ref 73) "__setattr__" = some (some (.builtin "object.__setattr__")) ∧ plainOver (kh p) 73 = true ∧ keepIn (kh p) (.ref 73) = true := ⟨rfl, rfl, rfl, rfl, rfl, rfl, rfl⟩
theorem fldAll (p : Params) : ∀ n ∈ fieldNames, findIn (kh p) (.ref 73) n = some none ∧ takerIn (kh p) 73 n = some none := by
  intro n hn
  simp only [fieldNames, List.mem_cons, List.not_mem_nil, or_false] at hn
  rcases hn with rfl | rfl | rfl | rfl | rfl | rfl <;> exact ⟨rfl, rfl⟩
theorem endAll (p : Params) : nsIn (kh p) mainGlobals (Str.ofString "END") = some (some (.str (Str.ofString "eof") 189)) := rfl
noncomputable def mkBs {w : World} {b : Heap} {pr : Program} {loose : List Str} {mean : ExcName → Option Value} {mg mb : Str → Option Value} (X : (KH w.params).In b) (T : Top pr loose mean mg mb b) : Bs w b where
  mg := mg
  mb := mb
  g := T.g
  b := T.b
  nolim := T.nolimit
  K := kh w.params
  X := X
  f := kf
  fn := fun i hi => let z := fnAll w.params i hi; ⟨z.1.is X, mg_of X T.g z.2.1, z.2.2⟩
  cls := 73
  gcls := mg_of X T.g (clsAll w.params).1
  ct := 189
  gend := mg_of X T.g (endAll w.params)
  bi := fun q hq => let z := biAll w.params q hq; ⟨mg_none_of X T.g z.1, (T.builtins q.1 z.2.1).trans z.2.2⟩
  m := km
  mq := fun i hi => let z := mtAll w.params i hi; ⟨z.1.is X, z.2⟩
  makes := (clsAll w.params).2.1
  plain := (clsAll w.params).2.2.1
  hasD := (clsAll w.params).2.2.2.1
  setA := (clsAll w.params).2.2.2.2.1
  over := (clsAll w.params).2.2.2.2.2.1
  keepC := (clsAll w.params).2.2.2.2.2.2
  fld := fldAll w.params
-- part J6i
theorem Ok.caller (env : Env) : Ok (callerA.deeper env) 24 where
  hh := rfl
  dp := by show callerA.depth + 1 + 24 + 1 < recursionLimit; decide +kernel
  un := by show callerA.units + 3 + 10 * 24 + 30 < cLine; decide +kernel
  gd := rfl
  fr := ⟨_, rfl⟩
theorem law_top {w : World} {A : Around} {base h : Heap} {g : Array GenState} {dr : Drawn} {t : Nat} {os : OsState} (C : Bs w base) {L l f : Addr} {cd : Value} {vs : List Value} {ns : List Int} {Q : Flow → Shared → Prop} {E : Value → Shared → Prop} (hA : Ok A 24) (F : Fr base L h (fun x => [(Str.ofString "script", Value.ref l)].reverse.lookup x)) (hl : base.IsList l vs.toArray) (hI : IntsAre vs ns) (hz : ¬ (63 : Int) < ns.length)
    (hQ : ∀ h' t' (m : Str → Option Value), Fr base L h' m → Q (.ret (.bool true)) ⟨h', g, dr, t', os⟩) :
    wpAny (model pw w) A (execs (dn 25).body (envOf (dn 25).name (dn 25).scope L f cd)) Q E ⟨h, g, dr, t, os⟩ :=
  wpAny_mono (law_body C hA F (hl.at fun o e => F.keep _ o e) hI (by have := hI.length; omega) hQ) (fun _ _ x => x) fun _ _ x => x.elim
theorem saidB1 : readsOut pw pw.main.body "vars" = false := by kernel_rfl
theorem saidB2 : readsOut pw pw.main.body "dir" = false := by kernel_rfl
theorem saidB3 : readsOut pw pw.main.body "locals" = false := by kernel_rfl
theorem saidB0 : (["vars", "dir", "locals"] : List Str).filter (readsOut pw pw.main.body) = [] := by
  rw [List.filter_cons, saidB1, List.filter_cons, saidB2, List.filter_cons, saidB3]; rfl
theorem saidO1 : namesResolve pw = true := by kernel_rfl
theorem saidO2 : (pw.boundNames.all fun n => !worldNames.contains n) = true := by kernel_rfl
theorem saidO4 (b : Bool) (e : b = true) : noRoadLSs { strict := !b, foot := none, bare := [] } pw.main.body = true := by
  subst e; kernel_rfl
theorem saidO5 : (namesMeet pw pw.main.body fun _ n => attrL n) = true := by kernel_rfl
theorem saidO3 : looksOpen pw = true := by
  unfold looksOpen
  refine look_both (look_both (look_both (look_both ?_ saidO1) saidO2) ?_) saidO5
  · kernel_rfl
  · rw [saidB0]; exact saidO4 _ (by kernel_rfl)
theorem saidS1 : PySem.Challenge.rw_pq0748_01.row.wellSaid = true := by
  unfold OpenRow.wellSaid
  refine look_both (look_both ?_ ?_) ?_
  · unfold OpenRow.partSaid
    iterate 13 refine look_both ?_ ?_
    · exact saidO3
    all_goals kernel_rfl
  · kernel_rfl
  · kernel_rfl
theorem said0 : OpenLaw.wellSaid PySem.Challenge.rw_pq0748_01 = true := by
  unfold OpenLaw.wellSaid
  iterate 18 refine look_both ?_ ?_
  · exact saidS1
  all_goals kernel_rfl
theorem X : PySem.Challenge.rw_pq0748_01.Holds := by
    w_on
    refine holds_law said0 fun said => ?_
    refine holds_open (q := vw) (loose := []) (Xt := fun s => xlAt vw [] s && recOk (RowW.records RR) s) (XP := XL vw []) (Yf := kHk.obs) (Ya := kHk.val) (YP := kHk.says) (N := 2250) left kHk.of kHk.keeps (fun s e => xl_of s (Bool.and_eq_true_iff.mp e).1) XL.keeps (by rfl) (by rfl) (by rfl) (fun s e => recFacts_of (Bool.and_eq_true_iff.mp e).2) (by rfl) said (by decide +kernel) ⟨rfl, rfl, rfl, rfl, rfl, by decide +kernel⟩ ?hw ?hc
    case hw => w_witness2
    k_go0
    have KX := ‹(KH _).In _›
    have T := ‹Top _ _ _ _ _ _›
    have F := ‹Fr _ _ _ _›
    have hl := ‹Heap.IsList _ _ _›
    have hI := ‹IntsAre _ _›
    have hlen := ‹¬ (63 : Int) < _›
    refine law_top (mkBs KX T) (Ok.caller _) F hl hI hlen (fun h' t' m F => ?_)
    show GoodW _ _ _ _ _ (.ok (.ret (.bool true))) _
    refine goodW_bool F (by assumption) (raisesW_false ?_) ?_
    · wrow_none_raised
    · first | kc_post | wrow_post
end Mine
theorem PySem.Challenge.cw_pq0748_01_holds : PySem.Challenge.rw_pq0748_01.Holds := by
  exact Mine.X
