import PyProof.Rows.All
import Wide.All
import OpenK.AllK
import Wide.FinOn
import Lean
import PySem.Challenge.RW_xm0310_01
open PySem PySem.W PyProof.Rows PySem.Calls
set_option Elab.async false
set_option maxRecDepth 100000
set_option maxHeartbeats 8000000
namespace Mine
theorem two {A B C : Prop} (f : (Unit → A) → (Unit → B) → C) (h : A ∧ B) : C := f (fun _ => h.1) (fun _ => h.2)
/-- what is owed of the walk, of a head whose looks at the text and whose run of the top are left to be shown -/
def prem {A B C D : Prop} (_ : A ∧ (B ∧ C) → D) : Prop := C
section
local macro_rules
  | `(tactic| o_law) => do
    let pb := Lean.mkIdent `pbLater
    `(tactic| (refine' two ?zg ?hc; rotate_left 2; intro pa $pb:ident; refine holds_law (pa ()) fun said => ?_))
local macro_rules
  | `(tactic| refine $f:ident $args*) => do
    let isHl (s : Lean.Syntax) : Bool := s.isOfKind ``Lean.Parser.Term.syntheticHole && s[1].getId.eraseMacroScopes == `hl
    unless args.any (fun a => isHl a.raw) do Lean.Macro.throwUnsupported
    let n := args.size
    let pb := Lean.mkIdent `pbLater
    let a ← `((a ()))
    let b ← `((b ()))
    let mut new := #[]
    for i in [0:n] do
      let x := args[i]!
      new := new.push (if isHl x.raw then ⟨a.raw⟩ else if i + 1 == n then ⟨b.raw⟩ else x)
    `(tactic| (refine' two ?zf ($pb:ident ()); (case' zf => skip); intro a b; refine $f:ident $new*; all_goals skip))
set_option maxRecDepth 100000 in
set_option maxHeartbeats 8000000 in
open_top hd for PySem.Challenge.rw_xm0310_01
end
/-! base -/
abbrev Led := List (Addr × Obj)
abbrev tupO (vs : List Value) (c : Nat) : Obj := { cls := .type "tuple", data := .seq vs.toArray c }
/-- a tuple or a list -/
def IsTL (o : Obj) : Prop := (∃ vs c, o = tupO vs c) ∨ ∃ vs c, o = W.listOf (List.toArray vs) c
def isSeq (o : Obj) : Prop := ∃ vs n, o.data = .seq vs n
/-- tuples and lists alone lie in the ledger -/
def NoD (l : Led) : Prop := ∀ p ∈ l, IsTL p.2
theorem NoD.nil : NoD [] := fun _ h => nomatch h
theorem NoD.cons {p : Addr × Obj} {l : Led} (hp : IsTL p.2) (h : NoD l) : NoD (p :: l) := fun q hq => by
  rcases List.mem_cons.mp hq with rfl | hq
  · exact hp
  · exact h q hq
theorem NoD.app {a b : Led} (ha : NoD a) (hb : NoD b) : NoD (a ++ b) := fun q hq => (List.mem_append.mp hq).elim (ha q) (hb q)
theorem tup_noD {a : Addr} {vs : List Value} {c : Nat} : IsTL ((a, tupO vs c) : Addr × Obj).2 := .inl ⟨_, _, rfl⟩
theorem list_noD {a : Addr} {vs : List Value} {c : Nat} : IsTL ((a, W.listOf vs.toArray c) : Addr × Obj).2 := .inr ⟨_, _, rfl⟩
theorem IsTL.seq {o : Obj} (h : IsTL o) : isSeq o := by
  rcases h with ⟨vs, c, rfl⟩ | ⟨vs, c, rfl⟩ <;> exact ⟨_, _, rfl⟩
/-- no dict lies in the ledger -/
def isX (o : Obj) : Prop := o.cls ≠ .type "dict" ∨ ∀ es ep, o.data ≠ .dict es ep
def NoX (l : Led) : Prop := ∀ p ∈ l, isX p.2
theorem NoX.nil : NoX [] := fun _ h => nomatch h
theorem NoX.cons {p : Addr × Obj} {l : Led} (hp : isX p.2) (h : NoX l) : NoX (p :: l) := fun q hq => by
  rcases List.mem_cons.mp hq with rfl | hq
  · exact hp
  · exact h q hq
theorem NoX.app {a b : Led} (ha : NoX a) (hb : NoX b) : NoX (a ++ b) := fun q hq => (List.mem_append.mp hq).elim (ha q) (hb q)
theorem IsTL.x {o : Obj} (h : IsTL o) : isX o := by
  rcases h with ⟨vs, c, rfl⟩ | ⟨vs, c, rfl⟩
  · exact .inr fun _ _ h => by cases h
  · exact .inr fun _ _ h => by cases h
theorem NoD.x {l : Led} (h : NoD l) : NoX l := fun p hp => (h p hp).x
theorem isX_cell {o : Obj} {v : Option Value} (h : o.data = .cell v) : isX o := .inr fun _ _ e => by rw [h] at e; cases e
theorem noSeq_cell {o : Obj} {v : Option Value} (h : o.data = .cell v) : ¬ isSeq o := fun ⟨_, _, e⟩ => by rw [h] at e; cases e

/-- what a call of f upon vs hands back, from any caller whose ledger is `news` -/
def Con (w : World) (f : Addr) (vs : List Value) (dD uU : Nat) (news : Led) (Post : Value → Led → Prop) : Prop :=
  ∀ (mean : ExcName → Option Value) (mg mb : Str → Option Value) (dp un : Nat) (gd : Option (List Code)) (cn : Str) (cs : Scope) (a : Addr) (ccd : Value) (cl : List (Str × Addr)) (outer : List Env) (A₀ : Around) (base h₀ : Heap) (L : Addr) (m : Str → Option Value) (s : Shared) (Q E : Value → Shared → Prop),
    Below A₀ base outer h₀ → Fr h₀ L s.heap m → (hd.heap_1 w.params).In h₀ → News h₀ L s.heap news → Top hd.view_1 (looseW hd.view_1 [Str.ofString "INT_RANGES"]) mean mg mb h₀ → cs.kind = .function →
    dp + dD < recursionLimit → un + uU < cLine →
    (∀ (r : Value) (h' : Heap) (tk' : Nat) (news' : Led), Fr h₀ L h' m → News h₀ L h' news' → Post r news' → Q r { s with heap := h', toks := tk' }) →
    wpAny (model PySem.Challenge.rw_xm0310_01.row.prog w) (ktrTop dp un gd cn cs L a ccd cl outer) (call (.ref f) vs) Q E s

/-- the ledger with one entry taken to the front -/
inductive Pk (x : Addr × Obj) : Led → Led → Prop
  | here {r : Led} : Pk x (x :: r) r
  | there {y : Addr × Obj} {r r' : Led} : Pk x r r' → Pk x (y :: r) (y :: r')
  | app {t r r' : Led} : Pk x r r' → Pk x (t ++ r) (t ++ r')
theorem Pk.mem {x : Addr × Obj} {l r : Led} (h : Pk x l r) : ∀ p ∈ x :: r, p ∈ l := by
  induction h with
  | here => exact fun _ h => h
  | there _ ih =>
    intro p hp
    rcases List.mem_cons.mp hp with rfl | hp
    · exact .tail _ (ih _ (.head _))
    · rcases List.mem_cons.mp hp with rfl | hp
      · exact .head _
      · exact .tail _ (ih _ (.tail _ hp))
  | app _ ih =>
    intro p hp
    rcases List.mem_cons.mp hp with rfl | hp
    · exact List.mem_append_right _ (ih _ (.head _))
    · rcases List.mem_append.mp hp with hp | hp
      · exact List.mem_append_left _ hp
      · exact List.mem_append_right _ (ih _ (.tail _ hp))

section
variable {w : World} {f : Addr} {vs : List Value} {dD uU : Nat} {news cur : Led} {Post : Value → Led → Prop} {x : Addr × Obj}
  {mean : ExcName → Option Value} {mg mb : Str → Option Value} {dp un : Nat} {gd : Option (List Code)} {cn : Str} {cs : Scope} {a : Addr} {ccd : Value} {cl : List (Str × Addr)} {outer : List Env} {A₀ : Around} {base h₀ : Heap} {L : Addr} {m : Str → Option Value} {s : Shared} {Q E : Value → Shared → Prop}
theorem Con.use (C : Con w f vs dD uU news Post) (B : Below A₀ base outer h₀) (F : Fr h₀ L s.heap m) (X : (hd.heap_1 w.params).In h₀) (N : News h₀ L s.heap news) (T : Top hd.view_1 (looseW hd.view_1 [Str.ofString "INT_RANGES"]) mean mg mb h₀) (hk : cs.kind = .function)
    (hd : dp + dD < recursionLimit) (hu : un + uU < cLine)
    (ret : ∀ (r : Value) (h' : Heap) (tk' : Nat) (news' : Led), Fr h₀ L h' m → News h₀ L h' news' → Post r news' → Q r { s with heap := h', toks := tk' }) :
    wpAny (model PySem.Challenge.rw_xm0310_01.row.prog w) (ktrTop dp un gd cn cs L a ccd cl outer) (call (.ref f) vs) Q E s := C _ _ _ _ _ _ _ _ _ _ _ _ _ _ _ _ _ _ _ _ B F X N T hk hd hu ret
theorem Con.useW (P : Pk x cur news) (C : Con w f vs dD uU (x :: news) Post) (B : Below A₀ base outer h₀) (F : Fr h₀ L s.heap m) (X : (hd.heap_1 w.params).In h₀) (N : News h₀ L s.heap cur) (T : Top hd.view_1 (looseW hd.view_1 [Str.ofString "INT_RANGES"]) mean mg mb h₀) (hk : cs.kind = .function)
    (hd : dp + dD < recursionLimit) (hu : un + uU < cLine)
    (ret : ∀ (r : Value) (h' : Heap) (tk' : Nat) (news' : Led), Fr h₀ L h' m → News h₀ L h' news' → Post r news' → Q r { s with heap := h', toks := tk' }) :
    wpAny (model PySem.Challenge.rw_xm0310_01.row.prog w) (ktrTop dp un gd cn cs L a ccd cl outer) (call (.ref f) vs) Q E s := C _ _ _ _ _ _ _ _ _ _ _ _ _ _ _ _ _ _ _ _ B F X (fun p hp => N p (P.mem p hp)) T hk hd hu ret
/-- the same, but what is handed back is told part by part -/
theorem Con.useR {Ret : (Value → Led → Prop) → Prop} (C : Con w f vs dD uU news Post) (El : ∀ G : Value → Led → Prop, Ret G → ∀ r n, Post r n → G r n) (B : Below A₀ base outer h₀) (F : Fr h₀ L s.heap m) (X : (hd.heap_1 w.params).In h₀) (N : News h₀ L s.heap news) (T : Top hd.view_1 (looseW hd.view_1 [Str.ofString "INT_RANGES"]) mean mg mb h₀) (hk : cs.kind = .function)
    (hd : dp + dD < recursionLimit) (hu : un + uU < cLine)
    (ret : Ret fun r n => ∀ (h' : Heap) (tk' : Nat), Fr h₀ L h' m → News h₀ L h' n → Q r { s with heap := h', toks := tk' }) :
    wpAny (model PySem.Challenge.rw_xm0310_01.row.prog w) (ktrTop dp un gd cn cs L a ccd cl outer) (call (.ref f) vs) Q E s := C.use B F X N T hk hd hu fun r h' tk' n F' N' p => El _ ret r n p h' tk' F' N'
theorem Con.useR2 {R1 R2 : (Value → Led → Prop) → Prop} (C : Con w f vs dD uU news Post) (El : ∀ G : Value → Led → Prop, R1 G → R2 G → ∀ r n, Post r n → G r n) (B : Below A₀ base outer h₀) (F : Fr h₀ L s.heap m) (X : (hd.heap_1 w.params).In h₀) (N : News h₀ L s.heap news) (T : Top hd.view_1 (looseW hd.view_1 [Str.ofString "INT_RANGES"]) mean mg mb h₀) (hk : cs.kind = .function)
    (hd : dp + dD < recursionLimit) (hu : un + uU < cLine)
    (ret1 : R1 fun r n => ∀ (h' : Heap) (tk' : Nat), Fr h₀ L h' m → News h₀ L h' n → Q r { s with heap := h', toks := tk' })
    (ret2 : R2 fun r n => ∀ (h' : Heap) (tk' : Nat), Fr h₀ L h' m → News h₀ L h' n → Q r { s with heap := h', toks := tk' }) :
    wpAny (model PySem.Challenge.rw_xm0310_01.row.prog w) (ktrTop dp un gd cn cs L a ccd cl outer) (call (.ref f) vs) Q E s := C.use B F X N T hk hd hu fun r h' tk' n F' N' p => El _ ret1 ret2 r n p h' tk' F' N'
theorem Con.useRW {Ret : (Value → Led → Prop) → Prop} (P : Pk x cur news) (C : Con w f vs dD uU (x :: news) Post) (El : ∀ G : Value → Led → Prop, Ret G → ∀ r n, Post r n → G r n) (B : Below A₀ base outer h₀) (F : Fr h₀ L s.heap m) (X : (hd.heap_1 w.params).In h₀) (N : News h₀ L s.heap cur) (T : Top hd.view_1 (looseW hd.view_1 [Str.ofString "INT_RANGES"]) mean mg mb h₀) (hk : cs.kind = .function)
    (hd : dp + dD < recursionLimit) (hu : un + uU < cLine)
    (ret : Ret fun r n => ∀ (h' : Heap) (tk' : Nat), Fr h₀ L h' m → News h₀ L h' n → Q r { s with heap := h', toks := tk' }) :
    wpAny (model PySem.Challenge.rw_xm0310_01.row.prog w) (ktrTop dp un gd cn cs L a ccd cl outer) (call (.ref f) vs) Q E s := C.useR El B F X (fun p hp => N p (P.mem p hp)) T hk hd hu ret
theorem Con.useRW2 {R1 R2 : (Value → Led → Prop) → Prop} (P : Pk x cur news) (C : Con w f vs dD uU (x :: news) Post) (El : ∀ G : Value → Led → Prop, R1 G → R2 G → ∀ r n, Post r n → G r n) (B : Below A₀ base outer h₀) (F : Fr h₀ L s.heap m) (X : (hd.heap_1 w.params).In h₀) (N : News h₀ L s.heap cur) (T : Top hd.view_1 (looseW hd.view_1 [Str.ofString "INT_RANGES"]) mean mg mb h₀) (hk : cs.kind = .function)
    (hd : dp + dD < recursionLimit) (hu : un + uU < cLine)
    (ret1 : R1 fun r n => ∀ (h' : Heap) (tk' : Nat), Fr h₀ L h' m → News h₀ L h' n → Q r { s with heap := h', toks := tk' })
    (ret2 : R2 fun r n => ∀ (h' : Heap) (tk' : Nat), Fr h₀ L h' m → News h₀ L h' n → Q r { s with heap := h', toks := tk' }) :
    wpAny (model PySem.Challenge.rw_xm0310_01.row.prog w) (ktrTop dp un gd cn cs L a ccd cl outer) (call (.ref f) vs) Q E s := C.useR2 El B F X (fun p hp => N p (P.mem p hp)) T hk hd hu ret1 ret2
end
theorem el_eq {v : Value} {news : Led} : ∀ G : Value → Led → Prop, G v news → ∀ r n, (r = v ∧ n = news) → G r n := by
  rintro G h r n ⟨rfl, rfl⟩; exact h
theorem el_int {x : Int} {news : Led} : ∀ G : Value → Led → Prop, (∀ t, G (.int x t) news) → ∀ r n, ((∃ t, r = .int x t) ∧ n = news) → G r n := by
  rintro G h r n ⟨⟨t, rfl⟩, rfl⟩; exact h t
theorem isL {h₀ h : Heap} {L l : Addr} {led : Led} {ws : List Value} {c : Nat} (N : News h₀ L h led) (hm : (l, W.listOf ws.toArray c) ∈ led) : h.IsList l ws.toArray := News.isList N hm
theorem isT {h₀ h : Heap} {L l : Addr} {led : Led} {ws : List Value} {c : Nat} (N : News h₀ L h led) (hm : (l, tupO ws c) ∈ led) : IsTup h l ws.toArray := News.isTup N hm

theorem weak {h₀ h : Heap} {L : Addr} {a b : Led} (N : News h₀ L h a) (hs : ∀ p ∈ b, p ∈ a) : News h₀ L h b := fun p hp => N p (hs p hp)
/-- all tuples and lists are still there -/
def Sub (old cur : Led) : Prop := ∀ p ∈ old, isSeq p.2 → p ∈ cur
theorem Sub.refl {l : Led} : Sub l l := fun _ h _ => h
theorem Sub.skip {q : Addr × Obj} {old cur : Led} (h : Sub old cur) : Sub old (q :: cur) := fun p hp hn => .tail _ (h p hp hn)
theorem Sub.skipA {t old cur : Led} (h : Sub old cur) : Sub old (t ++ cur) := fun p hp hn => List.mem_append_right _ (h p hp hn)
theorem Sub.skipB {t old cur : Led} (h : Sub old t) : Sub old (t ++ cur) := fun p hp hn => List.mem_append_left _ (h p hp hn)
theorem Sub.cons {q : Addr × Obj} {old cur : Led} (hq : q ∈ cur) (h : Sub old cur) : Sub (q :: old) cur := fun p hp hn => by
  rcases List.mem_cons.mp hp with rfl | hp
  · exact hq
  · exact h p hp hn
theorem Sub.drop {q : Addr × Obj} {old cur : Led} (hq : ¬ isSeq q.2) (h : Sub old cur) : Sub (q :: old) cur := fun p hp hn => by
  rcases List.mem_cons.mp hp with rfl | hp
  · exact absurd hn hq
  · exact h p hp hn
theorem Sub.app {a b cur : Led} (ha : Sub a cur) (hb : Sub b cur) : Sub (a ++ b) cur := fun p hp hn => (List.mem_append.mp hp).elim (fun h => ha p h hn) fun h => hb p h hn
mutual
theorem din_sub {news news' : Led} (hs : Sub news news') : ∀ {v : Value} {d : Dat}, DatIn news v d → DatIn news' v d
  | _, _, .none => .none
  | _, _, .bool b => .bool b
  | _, _, .int i t => .int i t
  | _, _, .str x t => .str x t
  | _, _, .bytes b t => .bytes b t
  | _, _, .tuple h r => .tuple (hs _ h ⟨_, _, rfl⟩) (dall_sub hs r)
  | _, _, .list h r => .list (hs _ h ⟨_, _, rfl⟩) (dall_sub hs r)
theorem dall_sub {news news' : Led} (hs : Sub news news') : ∀ {vs : List Value} {ds : List Dat}, DatAll news vs ds → DatAll news' vs ds
  | _, _, .nil => .nil
  | _, _, .cons h r => .cons (din_sub hs h) (dall_sub hs r)
end
/-- an entry of the ledger that is a tuple of data -/
theorem din_int {news : Led} {v : Value} {i : Int} (h : DatIn news v (.int i)) : ∃ t, v = .int i t := by cases h; exact ⟨_, rfl⟩
theorem din_str {news : Led} {v : Value} {i : Str} (h : DatIn news v (.str i)) : ∃ t, v = .str i t := by cases h; exact ⟨_, rfl⟩
theorem din_none {news : Led} {v : Value} (h : DatIn news v .none) : v = .none := by cases h; rfl
theorem din_tup {news : Led} {v : Value} {ds : List Dat} (h : DatIn news v (.tuple ds)) : ∃ a vs c, v = .ref a ∧ (a, tupO vs c) ∈ news ∧ DatAll news vs ds := by
  cases h with
  | tuple h r => exact ⟨_, _, _, rfl, h, r⟩
theorem din2 {news : Led} {v : Value} {d1 d2 : Dat} (h : DatIn news v (.tuple [d1, d2])) : ∃ a v1 v2 c, v = .ref a ∧ (a, tupO [v1, v2] c) ∈ news ∧ DatIn news v1 d1 ∧ DatIn news v2 d2 := by
  obtain ⟨a, vs, c, e, hm, r⟩ := din_tup h
  rcases r with _ | ⟨h1, _ | ⟨h2, _ | _⟩⟩
  exact ⟨a, _, _, c, e, hm, h1, h2⟩
theorem din3 {news : Led} {v : Value} {d1 d2 d3 : Dat} (h : DatIn news v (.tuple [d1, d2, d3])) : ∃ a v1 v2 v3 c, v = .ref a ∧ (a, tupO [v1, v2, v3] c) ∈ news ∧ DatIn news v1 d1 ∧ DatIn news v2 d2 ∧ DatIn news v3 d3 := by
  obtain ⟨a, vs, c, e, hm, r⟩ := din_tup h
  rcases r with _ | ⟨h1, _ | ⟨h2, _ | ⟨h3, _ | _⟩⟩⟩
  exact ⟨a, _, _, _, c, e, hm, h1, h2, h3⟩
theorem din5 {news : Led} {v : Value} {d1 d2 d3 d4 d5 : Dat} (h : DatIn news v (.tuple [d1, d2, d3, d4, d5])) : ∃ a v1 v2 v3 v4 v5 c, v = .ref a ∧ (a, tupO [v1, v2, v3, v4, v5] c) ∈ news ∧ DatIn news v1 d1 ∧ DatIn news v2 d2 ∧ DatIn news v3 d3 ∧ DatIn news v4 d4 ∧ DatIn news v5 d5 := by
  obtain ⟨a, vs, c, e, hm, r⟩ := din_tup h
  rcases r with _ | ⟨h1, _ | ⟨h2, _ | ⟨h3, _ | ⟨h4, _ | ⟨h5, _ | _⟩⟩⟩⟩⟩
  exact ⟨a, _, _, _, _, _, c, e, hm, h1, h2, h3, h4, h5⟩
theorem din6 {news : Led} {v : Value} {d1 d2 d3 d4 d5 d6 : Dat} (h : DatIn news v (.tuple [d1, d2, d3, d4, d5, d6])) : ∃ a v1 v2 v3 v4 v5 v6 c, v = .ref a ∧ (a, tupO [v1, v2, v3, v4, v5, v6] c) ∈ news ∧ DatIn news v1 d1 ∧ DatIn news v2 d2 ∧ DatIn news v3 d3 ∧ DatIn news v4 d4 ∧ DatIn news v5 d5 ∧ DatIn news v6 d6 := by
  obtain ⟨a, vs, c, e, hm, r⟩ := din_tup h
  rcases r with _ | ⟨h1, _ | ⟨h2, _ | ⟨h3, _ | ⟨h4, _ | ⟨h5, _ | ⟨h6, _ | _⟩⟩⟩⟩⟩⟩
  exact ⟨a, _, _, _, _, _, _, c, e, hm, h1, h2, h3, h4, h5, h6⟩

/-- the kinds' ranges -/
def lo (k : Int) : Int := if k = 3 then -128 else if k = 5 then -32768 else if k = 7 then -2147483648 else if k = 9 then -9223372036854775808 else 0
def hi (k : Int) : Int := if k = 3 then 127 else if k = 4 then 255 else if k = 5 then 32767 else if k = 7 then 2147483647 else if k = 8 then 4294967295 else if k = 9 then 9223372036854775807 else if k = 10 then 18446744073709551615 else 65535
abbrev Fits (k n : Int) : Prop := lo k ≤ n ∧ n ≤ hi k
def cutV (k n : Int) : Int := lo k + (n - lo k) % (hi k - lo k + 1)
local macro_rules | `(tactic| walk_at $s:str) => `(tactic| k_extra $(Lean.Syntax.mkStrLit ("my " ++ s.getString)))
local macro_rules | `(tactic| k_mem) => `(tactic| first | assumption | exact List.Mem.head _ | (refine' List.Mem.tail _ ?_; k_mem) | (refine' List.mem_append_left _ ?_; k_mem) | (refine' List.mem_append_right _ ?_; k_mem))
local macro_rules | `(tactic| is_list) => `(tactic| exact isL (by k_asm) (by k_mem))
local macro_rules | `(tactic| is_tup) => `(tactic| exact isT (by k_asm) (by k_mem))
local macro_rules | `(tactic| k_room) => `(tactic| ktr_room)
local macro_rules | `(tactic| tb_start) => `(tactic| first | exact Pk.here | (refine' Pk.there ?zp; case zp => tb_start) | (refine' Pk.app ?zq; case zq => tb_start) | fail "no place")
local macro_rules | `(tactic| tb_rel) => `(tactic| first | assumption | exact Sub.refl | (refine' Sub.skip ?_; tb_rel) | (refine' Sub.skipA ?_; tb_rel) | (refine' Sub.skipB ?_; tb_rel) | (refine' Sub.app ?sa ?sb; (case sa => tb_rel); (case sb => tb_rel)) | (refine' Sub.cons ?sa ?sb; (case sa => k_mem); (case sb => tb_rel)) | (refine' Sub.drop ?sa ?sb; (case sa => first | assumption | exact noSeq_cell (by assumption)); (case sb => tb_rel)))



/-! rng -/
theorem kinds {k : Int} (h : 2 ≤ k ∧ k ≤ 10) : k = 2 ∨ k = 3 ∨ k = 4 ∨ k = 5 ∨ k = 6 ∨ k = 7 ∨ k = 8 ∨ k = 9 ∨ k = 10 := by omega
/-- what the table of ranges says -/
def rngK : List (Int × Value) := [(1, .ref 48), (2, .ref 49), (3, .ref 50), (4, .ref 51), (5, .ref 52), (6, .ref 53), (7, .ref 54), (8, .ref 55), (9, .ref 56), (10, .ref 57), (11, .ref 58)]
/-- a tuple of the written part -/
def KT (w : World) (a : Addr) (vs : List Value) : Prop := ∃ c, (hd.heap_1 w.params).lookup a = some (tupO vs c)
theorem KT.isTup {w : World} {a : Addr} {vs : List Value} {h : Heap} (x : KT w a vs) (X : (hd.heap_1 w.params).In h) : IsTup h a vs.toArray := by
  obtain ⟨c, e⟩ := x
  exact ⟨_, X _ _ e, rfl, _, rfl⟩
theorem rng_dict (w : World) {h : Heap} (X : (hd.heap_1 w.params).In h) : h.DictOf (intKind PySem.Challenge.rw_xm0310_01.row.prog w) 47 rngK := by
  have e := X 47 _ rfl
  refine ⟨_, _, _, e, ⟨rfl, rfl, rfl⟩, rfl, ?_, ?_, by decide⟩
  · intro p hp
    simp only [List.mem_toArray, List.mem_cons, List.not_mem_nil, or_false] at hp
    rcases hp with rfl | rfl | rfl | rfl | rfl | rfl | rfl | rfl | rfl | rfl | rfl <;> exact ⟨_, intKind_is _ _ _ _, rfl⟩
  · repeat (first | exact Pairs.nil | refine Pairs.cons (intKind_is _ _ _ _) rfl ?_)
theorem rng_notin {w : World} {A : Around} {Q E : Value → Shared → Prop} {s : Shared} {h₀ : Heap} {L : Addr} {m : Str → Option Value} {k : Int} {t : Tok} (F : Fr h₀ L s.heap m) (X : (hd.heap_1 w.params).In h₀) (hv : (valueAt rngK k).isSome = true)
    (h : Q (.bool false) { s with toks := s.toks + 1 }) : wpAny (model PySem.Challenge.rw_xm0310_01.row.prog w) A (compareOp .NotIn (.int k t) (.ref 47)) Q E s :=
  wpAny_notIn_of (intKind_is _ _ _ _) (by decide) (rng_dict w (X.keeps F.keep)).mapOf (by rw [hv]; exact h)
theorem rng_get {w : World} {A : Around} {Q E : Value → Shared → Prop} {s : Shared} {h₀ : Heap} {L : Addr} {m : Str → Option Value} {k : Int} {t : Tok} {v : Value} (F : Fr h₀ L s.heap m) (X : (hd.heap_1 w.params).In h₀) (hv : valueAt rngK k = some v)
    (h : Q v { s with toks := s.toks + 1 }) : wpAny (model PySem.Challenge.rw_xm0310_01.row.prog w) A (getItem (.ref 47) (.int k t)) Q E s :=
  wpAny_getItem_of (intKind_is _ _ _ _) (rng_dict w (X.keeps F.keep)).mapOf hv h
theorem rngK_at {k : Int} (h : 2 ≤ k ∧ k ≤ 10) : valueAt rngK k = some (.ref (47 + k).toNat) := by
  rcases kinds h with rfl | rfl | rfl | rfl | rfl | rfl | rfl | rfl | rfl <;> rfl
theorem rng_KT (w : World) {k : Int} (h : 2 ≤ k ∧ k ≤ 10) : ∃ t1 t2, KT w (47 + k).toNat [.int (lo k) t1, .int (hi k) t2] := by
  rcases kinds h with rfl | rfl | rfl | rfl | rfl | rfl | rfl | rfl | rfl <;> exact ⟨_, _, _, rfl⟩
theorem rng_tail {w : World} {A : Around} {Q E : Value → Shared → Prop} {s : Shared} {h₀ : Heap} {L : Addr} {m : Str → Option Value} {value slice : PySem.Expr} {k : Int} {t : Tok} {v : Value} (F : Fr h₀ L s.heap m) (X : (hd.heap_1 w.params).In h₀) (hv : valueAt rngK k = some v)
    (h : Q v { s with toks := s.toks + 1 }) (hs : subscripted slice false (.ref 47) (.int k t) = operate [.ref 47, .int k t] (getItem (.ref 47) (.int k t)) := by with_unfolding_all rfl) :
    wpAny (model PySem.Challenge.rw_xm0310_01.row.prog w) A (subscriptTail value slice (.ref 47) (.int k t)) Q E s :=
  tail_any (rng_dict w (X.keeps F.keep)).typeIs slot_dict_getitem.lookup (rng_get F X hv h) hs
theorem el_rng {w : World} {k : Int} {news : Led} {h₀ : Heap} (X : (hd.heap_1 w.params).In h₀) : ∀ G : Value → Led → Prop, (∀ a t1 t2, KT w a [.int (lo k) t1, .int (hi k) t2] → IsTup h₀ a [Value.int (lo k) t1, .int (hi k) t2].toArray → G (.ref a) news) → ∀ r n, ((∃ a t1 t2, r = .ref a ∧ KT w a [.int (lo k) t1, .int (hi k) t2]) ∧ n = news) → G r n := by
  rintro G h r n ⟨⟨a, t1, t2, rfl, hK⟩, rfl⟩; exact h a t1 t2 hK (hK.isTup X)
section
theorem reg_1 : True := by
  k_with_none
  k_with "my subscriptTail Name Constant ref int" => ((k_here; k_dflt (refine' item_tupleT ?z0T ?z0a ?z0b ?z0j ?z0x ?_ ?z0s; (case z0T => exact isT (by k_asm) (by k_mem)); (case z0a => decide); (case z0b => decide); (case z0j => exact rfl); (case z0x => exact rfl); (case z0s => with_unfolding_all rfl); k_whole)))
  k_with "my subscriptTail Subscript Constant ref int" => ((k_here; k_dflt (refine' item_tupleT ?z1T ?z1a ?z1b ?z1j ?z1x ?_ ?z1s; (case z1T => exact isT (by k_asm) (by k_mem)); (case z1a => decide); (case z1b => decide); (case z1j => exact rfl); (case z1x => exact rfl); (case z1s => with_unfolding_all rfl); k_whole)))
  k_with "my eval Call" => ((k_here; first | k_compRoot | k_dflt (refine Call_ ?_)))
  k_with "my compareOp NotIn int ref" => ((k_here; k_dflt (refine' rng_notin ?z3F ?z3X ?z3v ?_; (case z3F => k_asm); (case z3X => k_asm); (case z3v => (rw [rngK_at (by assumption)]; rfl)); k_whole)))
  k_with "my subscriptTail Name Name ref int" => ((k_here; k_dflt (refine' rng_tail ?z4F ?z4X ?z4v ?_; (case z4F => k_asm); (case z4X => k_asm); (case z4v => exact rngK_at (by assumption)); k_whole)))
  exact True.intro
theorem c_int_range (w : World) {k : Int} {tk : Tok} {news : Led} (hk : 2 ≤ k ∧ k ≤ 10) :
    Con w 65 [.int k tk] 3 48 news (fun r news' => (∃ a t1 t2, r = .ref a ∧ KT w a [.int (lo k) t1, .int (hi k) t2]) ∧ news' = news) := by
  unfold Con
  w_top off
  k_fill
  intro mean mg mb dp un gd cn cs a ccd cl outer A₀ base h₀ L m s Q E B F X N T hkk hdd huu hret
  refine wpAny_call ?_
  k_dflt cell_enter
  k_steps
  refine hret _ _ _ _ (by k_asm) (by k_asm) ?_
  obtain ⟨t1, t2, e⟩ := rng_KT w hk
  exact ⟨⟨_, t1, t2, rfl, e⟩, rfl⟩
end

theorem reg_2 : True := by
  k_with_none
  k_with "my subscriptTail Name Constant ref int" => ((k_here; k_dflt (refine' item_tupleT ?z0T ?z0a ?z0b ?z0j ?z0x ?_ ?z0s; (case z0T => exact isT (by k_asm) (by k_mem)); (case z0a => decide); (case z0b => decide); (case z0j => exact rfl); (case z0x => exact rfl); (case z0s => with_unfolding_all rfl); k_whole)))
  k_with "my subscriptTail Subscript Constant ref int" => ((k_here; k_dflt (refine' item_tupleT ?z1T ?z1a ?z1b ?z1j ?z1x ?_ ?z1s; (case z1T => exact isT (by k_asm) (by k_mem)); (case z1a => decide); (case z1b => decide); (case z1j => exact rfl); (case z1x => exact rfl); (case z1s => with_unfolding_all rfl); k_whole)))
  k_with "my eval Call" => ((k_here; first | k_compRoot | k_dflt (refine Call_ ?_)))
  k_with "my call ref" => ((k_here; (with_reducible show wpAny _ _ (call (Value.ref 65) _) _ _ _); k_dflt ((refine' Con.useR (c_int_range _ ?z5kp) (el_rng ?z5kX) ?z5k1 ?z5k2 ?z5k3 ?z5k4 ?z5k5 ?z5kK ?z5kd ?z5ku ?_; (case z5k1 => k_asm); (case z5k2 => k_asm); (case z5k3 => k_asm); (case z5k4 => k_asm); (case z5k5 => k_asm); (case z5kK => first | exact rfl | assumption);  (case z5kp => first | assumption | omega); (case z5kX => k_asm); (case z5kd => ktr_room); (case z5ku => ktr_units)); (intro a9 t1 t2 hK9 hT9 h9 tk9 F9 N9); (try dsimp only); (try k_fold))))
  exact True.intro
theorem c_in_range (w : World) {k n : Int} {tk tn : Tok} {news : Led} (hk : 2 ≤ k ∧ k ≤ 10) :
    Con w 87 [.int k tk, .int n tn] 5 64 news (fun r news' => r = .bool (decide (Fits k n)) ∧ news' = news) := by
  unfold Con
  w_top off
  k_fill
  intro mean mg mb dp un gd cn cs a ccd cl outer A₀ base h₀ L m s Q E B F X N T hkk hdd huu hret
  refine wpAny_call ?_
  k_dflt cell_enter
  k_steps
  all_goals (refine hret _ _ _ _ (by k_asm) (by k_asm) ?_; exact ⟨congrArg Value.bool (decide_eq_decide.mpr (by unfold Fits; omega)), rfl⟩)
theorem width_pos {k : Int} (hk : 2 ≤ k ∧ k ≤ 10) : 0 < hi k - lo k + 1 := by
  rcases kinds hk with rfl | rfl | rfl | rfl | rfl | rfl | rfl | rfl | rfl <;> decide
theorem c_cut (w : World) {k n : Int} {tk tn : Tok} {news : Led} (hk : 2 ≤ k ∧ k ≤ 10) :
    Con w 80 [.int k tk, .int n tn] 5 64 news (fun r news' => (∃ t, r = .int (cutV k n) t) ∧ news' = news) := by
  have hp := width_pos hk
  unfold Con
  w_top off
  k_fill
  intro mean mg mb dp un gd cn cs a ccd cl outer A₀ base h₀ L m s Q E B F X N T hkk hdd huu hret
  refine wpAny_call ?_
  k_dflt cell_enter
  k_steps
  all_goals first
    | (exfalso; omega)
    | (refine hret _ _ _ _ (by k_asm) (by k_asm) ?_; exact ⟨⟨_, congrArg (fun x => Value.int x _) (by unfold cutV; rw [Int.fmod_eq_emod_of_nonneg _ (by omega)])⟩, rfl⟩)

/-! whole -/
/-- the number is given, not told -/
abbrev OK (k n c : Int) : Prop := Fits k n ∨ c = 0
def ConvP (err k n c : Int) (news : Led) (r : Value) (news' : Led) : Prop :=
  ∃ tl D v x t q, news' = tl ++ news ∧ NoD tl ∧ r = .ref D ∧ (D, tupO [v, .int x t] q) ∈ news' ∧ ((OK k n c ∧ x = 0 ∧ ∃ t', v = .int (cutV k n) t') ∨ (¬ OK k n c ∧ x = err ∧ v = .none))
theorem el_conv {err k n c : Int} {news : Led} : ∀ G : Value → Led → Prop,
    (∀ tl D t q t', NoD tl → (D, tupO [.int (cutV k n) t', .int 0 t] q) ∈ tl ++ news → OK k n c → G (.ref D) (tl ++ news)) →
    (∀ tl D t q, NoD tl → (D, tupO [.none, .int err t] q) ∈ tl ++ news → ¬ OK k n c → G (.ref D) (tl ++ news)) → ∀ r n', ConvP err k n c news r n' → G r n' := by
  rintro G g1 g2 r n' ⟨tl, D, v, x, t, q, rfl, hn, rfl, hm, ⟨hok, rfl, t', rfl⟩ | ⟨hok, rfl, rfl⟩⟩
  · exact g1 tl D t q t' hn hm hok
  · exact g2 tl D t q hn hm hok
theorem cut_fits {k n : Int} (h : Fits k n) : cutV k n = n := by
  unfold Fits at h
  unfold cutV
  rw [Int.emod_eq_of_lt (by omega) (by omega)]
  omega
theorem whole_end {err k n c : Int} {news : Led} {D : Addr} {v : Value} {x : Int} {t : Tok} {q : Nat} (h : (OK k n c ∧ x = 0 ∧ ∃ t', v = .int (cutV k n) t') ∨ (¬ OK k n c ∧ x = err ∧ v = .none)) : ConvP err k n c news (.ref D) ((D, tupO [v, .int x t] q) :: news) :=
  ⟨[(D, tupO [v, .int x t] q)], D, v, x, t, q, rfl, .cons tup_noD .nil, rfl, .head _, h⟩
theorem reg_3 : True := by
  k_with_none
  k_with "my subscriptTail Name Constant ref int" => ((k_here; k_dflt (refine' item_tupleT ?z0T ?z0a ?z0b ?z0j ?z0x ?_ ?z0s; (case z0T => exact isT (by k_asm) (by k_mem)); (case z0a => decide); (case z0b => decide); (case z0j => exact rfl); (case z0x => exact rfl); (case z0s => with_unfolding_all rfl); k_whole)))
  k_with "my subscriptTail Subscript Constant ref int" => ((k_here; k_dflt (refine' item_tupleT ?z1T ?z1a ?z1b ?z1j ?z1x ?_ ?z1s; (case z1T => exact isT (by k_asm) (by k_mem)); (case z1a => decide); (case z1b => decide); (case z1j => exact rfl); (case z1x => exact rfl); (case z1s => with_unfolding_all rfl); k_whole)))
  k_with "my eval Call" => ((k_here; first | k_compRoot | k_dflt (refine Call_ ?_)))
  k_with "my call ref" => ((k_here; (with_reducible show wpAny _ _ (call (Value.ref 65) _) _ _ _); k_dflt ((refine' Con.useR (c_int_range _ ?z5kp) (el_rng ?z5kX) ?z5k1 ?z5k2 ?z5k3 ?z5k4 ?z5k5 ?z5kK ?z5kd ?z5ku ?_; (case z5k1 => k_asm); (case z5k2 => k_asm); (case z5k3 => k_asm); (case z5k4 => k_asm); (case z5k5 => k_asm); (case z5kK => first | exact rfl | assumption);  (case z5kp => first | assumption | omega); (case z5kX => k_asm); (case z5kd => ktr_room); (case z5ku => ktr_units)); (intro a9 t1 t2 hK9 hT9 h9 tk9 F9 N9); (try dsimp only); (try k_fold))))
  k_with "my call ref" => ((k_here; (with_reducible show wpAny _ _ (call (Value.ref 87) _) _ _ _); k_dflt ((refine' Con.useR (c_in_range _ ?z6kp) el_eq ?z6k1 ?z6k2 ?z6k3 ?z6k4 ?z6k5 ?z6kK ?z6kd ?z6ku ?_; (case z6k1 => k_asm); (case z6k2 => k_asm); (case z6k3 => k_asm); (case z6k4 => k_asm); (case z6k5 => k_asm); (case z6kK => first | exact rfl | assumption);  (case z6kp => first | assumption | omega); (case z6kd => ktr_room); (case z6ku => ktr_units)); (intro  h9 tk9 F9 N9); (try dsimp only); (try k_fold))))
  k_with "my call ref" => ((k_here; (with_reducible show wpAny _ _ (call (Value.ref 80) _) _ _ _); k_dflt ((refine' Con.useR (c_cut _ ?z7kp) el_int ?z7k1 ?z7k2 ?z7k3 ?z7k4 ?z7k5 ?z7kK ?z7kd ?z7ku ?_; (case z7k1 => k_asm); (case z7k2 => k_asm); (case z7k3 => k_asm); (case z7k4 => k_asm); (case z7k5 => k_asm); (case z7kK => first | exact rfl | assumption);  (case z7kp => first | assumption | omega); (case z7kd => ktr_room); (case z7ku => ktr_units)); (intro t9 h9 tk9 F9 N9); (try dsimp only); (try k_fold))))
  exact True.intro
theorem c_whole (w : World) {k n c : Int} {tk tn tc : Tok} {news : Led} (hk : 2 ≤ k ∧ k ≤ 10) (_hc : c = 0 ∨ c = 1) :
    Con w 129 [.int k tk, .int n tn, .int c tc] 7 80 news (ConvP 220 k n c news) := by
  unfold Con
  w_top off
  k_fill
  intro mean mg mb dp un gd cn cs a ccd cl outer A₀ base h₀ L m s Q E B F X N T hkk hdd huu hret
  refine wpAny_call ?_
  k_dflt cell_enter
  k_steps
  · refine hret _ _ _ _ (by k_asm) (by k_asm) ?_
    exact whole_end (.inl ⟨.inl (by assumption), rfl, _, by rw [cut_fits (by assumption)]⟩)
  · refine hret _ _ _ _ (by k_asm) (by k_asm) ?_
    exact whole_end (.inr ⟨by rintro (h | h) <;> contradiction, rfl, rfl⟩)
  · refine hret _ _ _ _ (by k_asm) (by k_asm) ?_
    exact whole_end (.inl ⟨.inr (by assumption), rfl, _, rfl⟩)

theorem reg_4 : True := by
  k_with_none
  k_with "my subscriptTail Name Constant ref int" => ((k_here; k_dflt (refine' item_tupleT ?z0T ?z0a ?z0b ?z0j ?z0x ?_ ?z0s; (case z0T => exact isT (by k_asm) (by k_mem)); (case z0a => decide); (case z0b => decide); (case z0j => exact rfl); (case z0x => exact rfl); (case z0s => with_unfolding_all rfl); k_whole)))
  k_with "my subscriptTail Subscript Constant ref int" => ((k_here; k_dflt (refine' item_tupleT ?z1T ?z1a ?z1b ?z1j ?z1x ?_ ?z1s; (case z1T => exact isT (by k_asm) (by k_mem)); (case z1a => decide); (case z1b => decide); (case z1j => exact rfl); (case z1x => exact rfl); (case z1s => with_unfolding_all rfl); k_whole)))
  k_with "my eval Call" => ((k_here; first | k_compRoot | k_dflt (refine Call_ ?_)))
  k_with "my call ref" => ((k_here; (with_reducible show wpAny _ _ (call (Value.ref 65) _) _ _ _); k_dflt ((refine' Con.useR (c_int_range _ ?z5kp) (el_rng ?z5kX) ?z5k1 ?z5k2 ?z5k3 ?z5k4 ?z5k5 ?z5kK ?z5kd ?z5ku ?_; (case z5k1 => k_asm); (case z5k2 => k_asm); (case z5k3 => k_asm); (case z5k4 => k_asm); (case z5k5 => k_asm); (case z5kK => first | exact rfl | assumption);  (case z5kp => first | assumption | omega); (case z5kX => k_asm); (case z5kd => ktr_room); (case z5ku => ktr_units)); (intro a9 t1 t2 hK9 hT9 h9 tk9 F9 N9); (try dsimp only); (try k_fold))))
  k_with "my call ref" => ((k_here; (with_reducible show wpAny _ _ (call (Value.ref 87) _) _ _ _); k_dflt ((refine' Con.useR (c_in_range _ ?z6kp) el_eq ?z6k1 ?z6k2 ?z6k3 ?z6k4 ?z6k5 ?z6kK ?z6kd ?z6ku ?_; (case z6k1 => k_asm); (case z6k2 => k_asm); (case z6k3 => k_asm); (case z6k4 => k_asm); (case z6k5 => k_asm); (case z6kK => first | exact rfl | assumption);  (case z6kp => first | assumption | omega); (case z6kd => ktr_room); (case z6ku => ktr_units)); (intro  h9 tk9 F9 N9); (try dsimp only); (try k_fold))))
  k_with "my call ref" => ((k_here; (with_reducible show wpAny _ _ (call (Value.ref 80) _) _ _ _); k_dflt ((refine' Con.useR (c_cut _ ?z7kp) el_int ?z7k1 ?z7k2 ?z7k3 ?z7k4 ?z7k5 ?z7kK ?z7kd ?z7ku ?_; (case z7k1 => k_asm); (case z7k2 => k_asm); (case z7k3 => k_asm); (case z7k4 => k_asm); (case z7k5 => k_asm); (case z7kK => first | exact rfl | assumption);  (case z7kp => first | assumption | omega); (case z7kd => ktr_room); (case z7ku => ktr_units)); (intro t9 h9 tk9 F9 N9); (try dsimp only); (try k_fold))))
  k_with "my call ref" => ((k_here; (with_reducible show wpAny _ _ (call (Value.ref 129) _) _ _ _); k_dflt ((refine' Con.useR2 (c_whole _ ?z8kp ?z8kc) el_conv ?z8k1 ?z8k2 ?z8k3 ?z8k4 ?z8k5 ?z8kK ?z8kd ?z8ku ?_ ?_; (case z8k1 => k_asm); (case z8k2 => k_asm); (case z8k3 => k_asm); (case z8k4 => k_asm); (case z8k5 => k_asm); (case z8kK => first | exact rfl | assumption);  (case z8kp => first | assumption | omega); (case z8kc => first | assumption | omega); (case z8kd => ktr_room); (case z8ku => ktr_units)); (intro tl9 D9 t9 q9 tv9 hnd9 hm9 hok9 h9 tk9 F9 N9); (try dsimp only); (try k_fold); rotate_left; (intro tl9 D9 t9 q9 hnd9 hm9 hok9 h9 tk9 F9 N9); (try dsimp only); (try k_fold); rotate_left)))
  exact True.intro
theorem c_conv (w : World) {k n c : Int} {tk tn tc : Tok} {news : Led} (hk : 2 ≤ k ∧ k ≤ 10) (_hc : c = 0 ∨ c = 1) :
    Con w 150 [.int k tk, .int n tn, .int c tc] 9 96 news (ConvP 221 k n c news) := by
  unfold Con
  w_top off
  k_fill
  intro mean mg mb dp un gd cn cs a ccd cl outer A₀ base h₀ L m s Q E B F X N T hkk hdd huu hret
  refine wpAny_call ?_
  k_dflt cell_enter
  k_steps
  · refine hret _ _ _ _ (by k_asm) (by k_asm) ?_
    exact ⟨_, _, _, _, _, _, rfl, by assumption, rfl, by assumption, .inl ⟨by assumption, rfl, _, rfl⟩⟩
  · refine hret _ _ _ _ (by k_asm) (by k_asm) ?_
    exact ⟨_ :: _, _, _, _, _, _, rfl, NoD.cons tup_noD (by assumption), rfl, .head _, .inr ⟨by assumption, rfl, rfl⟩⟩

/-! nodes -/
/-- what stands within a node -/
inductive In where
  | num (k n : Int)
  | txt
  | nul (k : Int)
  | bad
  | loc
  | sum (k n : Int)
def In.dat : In → Dat
  | .num k n => .tuple [.int 1, .int k, .int n]
  | .txt => .tuple [.int 1, .int 13, .str (Str.ofString "7")]
  | .nul k => .tuple [.int 1, .int k, .none]
  | .bad => .tuple [.int 1, .int 15, .int 7]
  | .loc => .tuple [.int 2, .int 7, .int 5]
  | .sum k n => .tuple [.int 14, .int 7, .str (Str.ofString "+"), .tuple [.int 1, .int k, .int n], .tuple [.int 1, .int 7, .int 1], .int 0]
def In.n : In → Option Int
  | .num _ n => some n
  | _ => none
def In.ok : In → Prop
  | .num k _ => (2 ≤ k ∧ k ≤ 10) ∨ (40 ≤ k ∧ k ≤ 47)
  | .nul k => k = 14 ∨ k = 12
  | .sum k _ => 2 ≤ k ∧ k ≤ 10
  | _ => True
theorem reg_5 : True := by
  k_with_none
  k_with "my subscriptTail Name Constant ref int" => ((k_here; k_dflt (refine' item_tupleT ?z0T ?z0a ?z0b ?z0j ?z0x ?_ ?z0s; (case z0T => exact isT (by k_asm) (by k_mem)); (case z0a => decide); (case z0b => decide); (case z0j => exact rfl); (case z0x => exact rfl); (case z0s => with_unfolding_all rfl); k_whole)))
  k_with "my subscriptTail Subscript Constant ref int" => ((k_here; k_dflt (refine' item_tupleT ?z1T ?z1a ?z1b ?z1j ?z1x ?_ ?z1s; (case z1T => exact isT (by k_asm) (by k_mem)); (case z1a => decide); (case z1b => decide); (case z1j => exact rfl); (case z1x => exact rfl); (case z1s => with_unfolding_all rfl); k_whole)))
  k_with "my eval Call" => ((k_here; first | k_compRoot | k_dflt (refine Call_ ?_)))
  k_with "my call ref" => ((k_here; (with_reducible show wpAny _ _ (call (Value.ref 65) _) _ _ _); k_dflt ((refine' Con.useR (c_int_range _ ?z5kp) (el_rng ?z5kX) ?z5k1 ?z5k2 ?z5k3 ?z5k4 ?z5k5 ?z5kK ?z5kd ?z5ku ?_; (case z5k1 => k_asm); (case z5k2 => k_asm); (case z5k3 => k_asm); (case z5k4 => k_asm); (case z5k5 => k_asm); (case z5kK => first | exact rfl | assumption);  (case z5kp => first | assumption | omega); (case z5kX => k_asm); (case z5kd => ktr_room); (case z5ku => ktr_units)); (intro a9 t1 t2 hK9 hT9 h9 tk9 F9 N9); (try dsimp only); (try k_fold))))
  k_with "my call ref" => ((k_here; (with_reducible show wpAny _ _ (call (Value.ref 87) _) _ _ _); k_dflt ((refine' Con.useR (c_in_range _ ?z6kp) el_eq ?z6k1 ?z6k2 ?z6k3 ?z6k4 ?z6k5 ?z6kK ?z6kd ?z6ku ?_; (case z6k1 => k_asm); (case z6k2 => k_asm); (case z6k3 => k_asm); (case z6k4 => k_asm); (case z6k5 => k_asm); (case z6kK => first | exact rfl | assumption);  (case z6kp => first | assumption | omega); (case z6kd => ktr_room); (case z6ku => ktr_units)); (intro  h9 tk9 F9 N9); (try dsimp only); (try k_fold))))
  k_with "my call ref" => ((k_here; (with_reducible show wpAny _ _ (call (Value.ref 80) _) _ _ _); k_dflt ((refine' Con.useR (c_cut _ ?z7kp) el_int ?z7k1 ?z7k2 ?z7k3 ?z7k4 ?z7k5 ?z7kK ?z7kd ?z7ku ?_; (case z7k1 => k_asm); (case z7k2 => k_asm); (case z7k3 => k_asm); (case z7k4 => k_asm); (case z7k5 => k_asm); (case z7kK => first | exact rfl | assumption);  (case z7kp => first | assumption | omega); (case z7kd => ktr_room); (case z7ku => ktr_units)); (intro t9 h9 tk9 F9 N9); (try dsimp only); (try k_fold))))
  k_with "my call ref" => ((k_here; (with_reducible show wpAny _ _ (call (Value.ref 129) _) _ _ _); k_dflt ((refine' Con.useR2 (c_whole _ ?z8kp ?z8kc) el_conv ?z8k1 ?z8k2 ?z8k3 ?z8k4 ?z8k5 ?z8kK ?z8kd ?z8ku ?_ ?_; (case z8k1 => k_asm); (case z8k2 => k_asm); (case z8k3 => k_asm); (case z8k4 => k_asm); (case z8k5 => k_asm); (case z8kK => first | exact rfl | assumption);  (case z8kp => first | assumption | omega); (case z8kc => first | assumption | omega); (case z8kd => ktr_room); (case z8ku => ktr_units)); (intro tl9 D9 t9 q9 tv9 hnd9 hm9 hok9 h9 tk9 F9 N9); (try dsimp only); (try k_fold); rotate_left; (intro tl9 D9 t9 q9 hnd9 hm9 hok9 h9 tk9 F9 N9); (try dsimp only); (try k_fold); rotate_left)))
  k_with "my call ref" => ((k_here; (with_reducible show wpAny _ _ (call (Value.ref 150) _) _ _ _); k_dflt ((refine' Con.useR2 (c_conv _ ?z9kp ?z9kc) el_conv ?z9k1 ?z9k2 ?z9k3 ?z9k4 ?z9k5 ?z9kK ?z9kd ?z9ku ?_ ?_; (case z9k1 => k_asm); (case z9k2 => k_asm); (case z9k3 => k_asm); (case z9k4 => k_asm); (case z9k5 => k_asm); (case z9kK => first | exact rfl | assumption);  (case z9kp => first | assumption | omega); (case z9kc => first | assumption | omega); (case z9kd => ktr_room); (case z9ku => ktr_units)); (intro tl9 D9 t9 q9 tv9 hnd9 hm9 hok9 h9 tk9 F9 N9); (try dsimp only); (try k_fold); rotate_left; (intro tl9 D9 t9 q9 hnd9 hm9 hok9 h9 tk9 F9 N9); (try dsimp only); (try k_fold); rotate_left)))
  exact True.intro
theorem c_numeric (w : World) {v : Value} {k n : Int} {news : Led} (hD : DatIn news v (In.num k n).dat) (hk : (2 ≤ k ∧ k ≤ 10) ∨ (40 ≤ k ∧ k ≤ 47)) :
    Con w 164 [v] 5 64 news (fun r news' => r = .bool true ∧ news' = news) := by
  obtain ⟨a, v1, v2, v3, c, rfl, hm, h1, h2, h3⟩ := din3 hD
  obtain ⟨t1, rfl⟩ := din_int h1
  obtain ⟨t2, rfl⟩ := din_int h2
  obtain ⟨t3, rfl⟩ := din_int h3
  unfold Con
  w_top off
  k_fill
  intro mean mg mb dp un gd cn cs a ccd cl outer A₀ base h₀ L m s Q E B F X N T hkk hdd huu hret
  refine wpAny_call ?_
  k_dflt cell_enter
  k_steps
  all_goals (refine hret _ _ _ _ (by k_asm) (by k_asm) ?_; exact ⟨congrArg Value.bool (bne_iff_ne.mpr (by omega)), rfl⟩)
theorem c_numeric_no (w : World) {v : Value} {i : In} {news : Led} (hD : DatIn news v i.dat) (hk : i.ok) (hn : i.n = none) :
    Con w 164 [v] 5 64 news (fun r news' => r = .bool false ∧ news' = news) := by
  cases i with
  | num k n => cases hn
  | sum k n =>
    obtain ⟨a, v1, v2, v3, v4, v5, v6, c, rfl, hm, h1, h2, h3, h4, h5, h6⟩ := din6 hD
    obtain ⟨t1, rfl⟩ := din_int h1
    unfold Con
    w_top off
    k_fill
    intro mean mg mb dp un gd cn cs a ccd cl outer A₀ base h₀ L m s Q E B F X N T hkk hdd huu hret
    refine wpAny_call ?_
    k_dflt cell_enter
    k_steps
    all_goals (refine hret _ _ _ _ (by k_asm) (by k_asm) ?_; exact ⟨rfl, rfl⟩)
  | txt =>
    obtain ⟨a, v1, v2, v3, c, rfl, hm, h1, h2, h3⟩ := din3 hD
    obtain ⟨t1, rfl⟩ := din_int h1
    obtain ⟨t2, rfl⟩ := din_int h2
    obtain ⟨t3, rfl⟩ := din_str h3
    unfold Con
    w_top off
    k_fill
    intro mean mg mb dp un gd cn cs a ccd cl outer A₀ base h₀ L m s Q E B F X N T hkk hdd huu hret
    refine wpAny_call ?_
    k_dflt cell_enter
    k_steps
    all_goals (refine hret _ _ _ _ (by k_asm) (by k_asm) ?_; exact ⟨rfl, rfl⟩)
  | nul k =>
    obtain ⟨a, v1, v2, v3, c, rfl, hm, h1, h2, h3⟩ := din3 hD
    obtain ⟨t1, rfl⟩ := din_int h1
    obtain ⟨t2, rfl⟩ := din_int h2
    obtain rfl := din_none h3
    obtain rfl | rfl : k = 14 ∨ k = 12 := hk
    all_goals (
    unfold Con
    w_top off
    k_fill
    intro mean mg mb dp un gd cn cs a ccd cl outer A₀ base h₀ L m s Q E B F X N T hkk hdd huu hret
    refine wpAny_call ?_
    k_dflt cell_enter
    k_steps
    all_goals (refine hret _ _ _ _ (by k_asm) (by k_asm) ?_; exact ⟨rfl, rfl⟩))
  | bad =>
    obtain ⟨a, v1, v2, v3, c, rfl, hm, h1, h2, h3⟩ := din3 hD
    obtain ⟨t1, rfl⟩ := din_int h1
    obtain ⟨t2, rfl⟩ := din_int h2
    unfold Con
    w_top off
    k_fill
    intro mean mg mb dp un gd cn cs a ccd cl outer A₀ base h₀ L m s Q E B F X N T hkk hdd huu hret
    refine wpAny_call ?_
    k_dflt cell_enter
    k_steps
    all_goals (refine hret _ _ _ _ (by k_asm) (by k_asm) ?_; exact ⟨rfl, rfl⟩)
  | loc =>
    obtain ⟨a, v1, v2, v3, c, rfl, hm, h1, h2, h3⟩ := din3 hD
    obtain ⟨t1, rfl⟩ := din_int h1
    obtain ⟨t2, rfl⟩ := din_int h2
    unfold Con
    w_top off
    k_fill
    intro mean mg mb dp un gd cn cs a ccd cl outer A₀ base h₀ L m s Q E B F X N T hkk hdd huu hret
    refine wpAny_call ?_
    k_dflt cell_enter
    k_steps
    all_goals (refine hret _ _ _ _ (by k_asm) (by k_asm) ?_; exact ⟨rfl, rfl⟩)

/-! under -/
/-- a node that no conversion of a number is: it stays -/
inductive Still : Dat → Prop
  | t3 {c : Int} {a b : Dat} : c ≠ 19 → Still (.tuple [.int c, a, b])
  | t2 {c : Int} {a : Dat} : c ≠ 19 → Still (.tuple [.int c, a])
  | t5 {c : Int} {a b d e : Dat} : c ≠ 19 → Still (.tuple [.int c, a, b, d, e])
  | c5 {cv : Int} {a b c : Dat} : cv ≠ 1 → Still (.tuple [.int 19, a, b, .int cv, c])
  | c6 {cv : Int} {a b c d : Dat} : cv ≠ 1 → Still (.tuple [.int 19, a, b, .int cv, c, d])
  | cn {i : In} {a c : Dat} : i.ok → i.n = none → Still (.tuple [.int 19, a, i.dat, .int 1, c])
/-- how a node shows that it stays: by its first item, by its way, by what it holds -/
theorem still_el {news : Led} {v : Value} {d : Dat} {P : Value → Prop} (hD : DatIn news v d) (hS : Still d)
    (h1 : ∀ a q c t vs, c ≠ 19 → (a, tupO (.int c t :: vs) q) ∈ news → P (.ref a))
    (h2 : ∀ a q cv t1 t4 b1 b2 vs, cv ≠ 1 → (a, tupO (.int 19 t1 :: b1 :: b2 :: .int cv t4 :: vs) q) ∈ news → P (.ref a))
    (h3 : ∀ a q e (i : In) t1 t4 b1 b5, i.ok → i.n = none → (a, tupO [.int 19 t1, b1, e, .int 1 t4, b5] q) ∈ news → DatIn news e i.dat → P (.ref a)) : P v := by
  cases hS with
  | t3 hc =>
    obtain ⟨a, v1, v2, v3, c, rfl, hm, g1, _, _⟩ := din3 hD
    obtain ⟨t1, rfl⟩ := din_int g1
    exact h1 _ _ _ _ _ hc hm
  | t2 hc =>
    obtain ⟨a, v1, v2, c, rfl, hm, g1, _⟩ := din2 hD
    obtain ⟨t1, rfl⟩ := din_int g1
    exact h1 _ _ _ _ _ hc hm
  | t5 hc =>
    obtain ⟨a, v1, v2, v3, v4, v5, c, rfl, hm, g1, _, _, _, _⟩ := din5 hD
    obtain ⟨t1, rfl⟩ := din_int g1
    exact h1 _ _ _ _ _ hc hm
  | c5 hc =>
    obtain ⟨a, v1, v2, v3, v4, v5, c, rfl, hm, g1, _, _, g4, _⟩ := din5 hD
    obtain ⟨t1, rfl⟩ := din_int g1
    obtain ⟨t4, rfl⟩ := din_int g4
    exact h2 _ _ _ _ _ _ _ _ hc hm
  | c6 hc =>
    obtain ⟨a, v1, v2, v3, v4, v5, v6, c, rfl, hm, g1, _, _, g4, _, _⟩ := din6 hD
    obtain ⟨t1, rfl⟩ := din_int g1
    obtain ⟨t4, rfl⟩ := din_int g4
    exact h2 _ _ _ _ _ _ _ _ hc hm
  | cn hi hn =>
    obtain ⟨a, v1, v2, v3, v4, v5, c, rfl, hm, g1, _, g3, g4, _⟩ := din5 hD
    obtain ⟨t1, rfl⟩ := din_int g1
    obtain ⟨t4, rfl⟩ := din_int g4
    exact h3 _ _ _ _ _ _ _ _ hi hn hm g3
section
variable {prog : Program} {w : World} {A : Around} {E : Value → Shared → Prop} {s : Shared}
theorem seq_at0 (n : Nat) : seqIndex? 0 (n + 1) = some 0 := by
  simp [seqIndex?]
theorem seq_at3 (n : Nat) : seqIndex? 3 (n + 4) = some 3 := by
  simp [seqIndex?]
  omega
theorem item_at0 {value slice : PySem.Expr} {t : Addr} {x : Value} {vs : List Value} {u : Tok} {Q : Value → Shared → Prop} (ht : IsTup s.heap t (x :: vs).toArray) (h : Q x s)
    (hs : subscripted slice false (.ref t) (.int 0 u) = operate [.ref t, .int 0 u] (getItem (.ref t) (.int 0 u)) := by with_unfolding_all rfl) :
    wpAny (model prog w) A (subscriptTail value slice (.ref t) (.int 0 u)) Q E s := item_tupleT ht (by decide) (by decide) (seq_at0 _) rfl h hs
theorem item_at3 {value slice : PySem.Expr} {t : Addr} {x0 x1 x2 x : Value} {vs : List Value} {u : Tok} {Q : Value → Shared → Prop} (ht : IsTup s.heap t (x0 :: x1 :: x2 :: x :: vs).toArray) (h : Q x s)
    (hs : subscripted slice false (.ref t) (.int 3 u) = operate [.ref t, .int 3 u] (getItem (.ref t) (.int 3 u)) := by with_unfolding_all rfl) :
    wpAny (model prog w) A (subscriptTail value slice (.ref t) (.int 3 u)) Q E s := item_tupleT ht (by decide) (by decide) (seq_at3 _) rfl h hs
end
section
theorem reg_6 : True := by
  k_with_none
  k_with "my subscriptTail Name Constant ref int" => ((k_here; k_dflt (refine' item_tupleT ?z0T ?z0a ?z0b ?z0j ?z0x ?_ ?z0s; (case z0T => exact isT (by k_asm) (by k_mem)); (case z0a => decide); (case z0b => decide); (case z0j => exact rfl); (case z0x => exact rfl); (case z0s => with_unfolding_all rfl); k_whole)))
  k_with "my subscriptTail Subscript Constant ref int" => ((k_here; k_dflt (refine' item_tupleT ?z1T ?z1a ?z1b ?z1j ?z1x ?_ ?z1s; (case z1T => exact isT (by k_asm) (by k_mem)); (case z1a => decide); (case z1b => decide); (case z1j => exact rfl); (case z1x => exact rfl); (case z1s => with_unfolding_all rfl); k_whole)))
  k_with "my eval Call" => ((k_here; first | k_compRoot | k_dflt (refine Call_ ?_)))
  k_with "my call ref" => ((k_here; (with_reducible show wpAny _ _ (call (Value.ref 65) _) _ _ _); k_dflt ((refine' Con.useR (c_int_range _ ?z5kp) (el_rng ?z5kX) ?z5k1 ?z5k2 ?z5k3 ?z5k4 ?z5k5 ?z5kK ?z5kd ?z5ku ?_; (case z5k1 => k_asm); (case z5k2 => k_asm); (case z5k3 => k_asm); (case z5k4 => k_asm); (case z5k5 => k_asm); (case z5kK => first | exact rfl | assumption);  (case z5kp => first | assumption | omega); (case z5kX => k_asm); (case z5kd => ktr_room); (case z5ku => ktr_units)); (intro a9 t1 t2 hK9 hT9 h9 tk9 F9 N9); (try dsimp only); (try k_fold))))
  k_with "my call ref" => ((k_here; (with_reducible show wpAny _ _ (call (Value.ref 87) _) _ _ _); k_dflt ((refine' Con.useR (c_in_range _ ?z6kp) el_eq ?z6k1 ?z6k2 ?z6k3 ?z6k4 ?z6k5 ?z6kK ?z6kd ?z6ku ?_; (case z6k1 => k_asm); (case z6k2 => k_asm); (case z6k3 => k_asm); (case z6k4 => k_asm); (case z6k5 => k_asm); (case z6kK => first | exact rfl | assumption);  (case z6kp => first | assumption | omega); (case z6kd => ktr_room); (case z6ku => ktr_units)); (intro  h9 tk9 F9 N9); (try dsimp only); (try k_fold))))
  k_with "my call ref" => ((k_here; (with_reducible show wpAny _ _ (call (Value.ref 80) _) _ _ _); k_dflt ((refine' Con.useR (c_cut _ ?z7kp) el_int ?z7k1 ?z7k2 ?z7k3 ?z7k4 ?z7k5 ?z7kK ?z7kd ?z7ku ?_; (case z7k1 => k_asm); (case z7k2 => k_asm); (case z7k3 => k_asm); (case z7k4 => k_asm); (case z7k5 => k_asm); (case z7kK => first | exact rfl | assumption);  (case z7kp => first | assumption | omega); (case z7kd => ktr_room); (case z7ku => ktr_units)); (intro t9 h9 tk9 F9 N9); (try dsimp only); (try k_fold))))
  k_with "my call ref" => ((k_here; (with_reducible show wpAny _ _ (call (Value.ref 129) _) _ _ _); k_dflt ((refine' Con.useR2 (c_whole _ ?z8kp ?z8kc) el_conv ?z8k1 ?z8k2 ?z8k3 ?z8k4 ?z8k5 ?z8kK ?z8kd ?z8ku ?_ ?_; (case z8k1 => k_asm); (case z8k2 => k_asm); (case z8k3 => k_asm); (case z8k4 => k_asm); (case z8k5 => k_asm); (case z8kK => first | exact rfl | assumption);  (case z8kp => first | assumption | omega); (case z8kc => first | assumption | omega); (case z8kd => ktr_room); (case z8ku => ktr_units)); (intro tl9 D9 t9 q9 tv9 hnd9 hm9 hok9 h9 tk9 F9 N9); (try dsimp only); (try k_fold); rotate_left; (intro tl9 D9 t9 q9 hnd9 hm9 hok9 h9 tk9 F9 N9); (try dsimp only); (try k_fold); rotate_left)))
  k_with "my call ref" => ((k_here; (with_reducible show wpAny _ _ (call (Value.ref 150) _) _ _ _); k_dflt ((refine' Con.useR2 (c_conv _ ?z9kp ?z9kc) el_conv ?z9k1 ?z9k2 ?z9k3 ?z9k4 ?z9k5 ?z9kK ?z9kd ?z9ku ?_ ?_; (case z9k1 => k_asm); (case z9k2 => k_asm); (case z9k3 => k_asm); (case z9k4 => k_asm); (case z9k5 => k_asm); (case z9kK => first | exact rfl | assumption);  (case z9kp => first | assumption | omega); (case z9kc => first | assumption | omega); (case z9kd => ktr_room); (case z9ku => ktr_units)); (intro tl9 D9 t9 q9 tv9 hnd9 hm9 hok9 h9 tk9 F9 N9); (try dsimp only); (try k_fold); rotate_left; (intro tl9 D9 t9 q9 hnd9 hm9 hok9 h9 tk9 F9 N9); (try dsimp only); (try k_fold); rotate_left)))
  k_with "my call ref" => ((k_here; (with_reducible show wpAny _ _ (call (Value.ref 164) _) _ _ _); k_dflt ((refine' Con.useR (c_numeric_no _ ?z10kp ?z10kc ?z10ke) el_eq ?z10k1 ?z10k2 ?z10k3 ?z10k4 ?z10k5 ?z10kK ?z10kd ?z10ku ?_; (case z10k1 => k_asm); (case z10k2 => k_asm); (case z10k3 => k_asm); (case z10k4 => k_asm); (case z10k5 => k_asm); (case z10kK => first | exact rfl | assumption);  (case z10kp => first | assumption | (refine' din_sub ?z10ds ?z10dh; (case z10dh => assumption); (case z10ds => tb_rel))); (case z10kc => assumption); (case z10ke => assumption); (case z10kd => ktr_room); (case z10ku => ktr_units)); (intro  h9 tk9 F9 N9); (try dsimp only); (try k_fold))))
  k_with "my call ref" => ((k_here; (with_reducible show wpAny _ _ (call (Value.ref 164) _) _ _ _); k_dflt ((refine' Con.useR (c_numeric _ ?z11kp ?z11kc) el_eq ?z11k1 ?z11k2 ?z11k3 ?z11k4 ?z11k5 ?z11kK ?z11kd ?z11ku ?_; (case z11k1 => k_asm); (case z11k2 => k_asm); (case z11k3 => k_asm); (case z11k4 => k_asm); (case z11k5 => k_asm); (case z11kK => first | exact rfl | assumption);  (case z11kp => first | assumption | (refine' din_sub ?z11ds ?z11dh; (case z11dh => assumption); (case z11ds => tb_rel))); (case z11kc => first | assumption | omega); (case z11kd => ktr_room); (case z11ku => ktr_units)); (intro  h9 tk9 F9 N9); (try dsimp only); (try k_fold))))
  k_with "my subscriptTail Name Constant ref int" => ((k_here; (with_reducible show wpAny _ _ (subscriptTail _ _ _ (Value.int 0 _)) _ _ _); k_dflt (refine' item_at0 ?z12T ?_ ?z12s; (case z12T => exact isT (by k_asm) (by k_mem)); (case z12s => with_unfolding_all rfl); k_whole)))
  k_with "my subscriptTail Name Constant ref int" => ((k_here; (with_reducible show wpAny _ _ (subscriptTail _ _ _ (Value.int 3 _)) _ _ _); k_dflt (refine' item_at3 ?z13T ?_ ?z13s; (case z13T => exact isT (by k_asm) (by k_mem)); (case z13s => with_unfolding_all rfl); k_whole)))
  exact True.intro
theorem c_under_still (w : World) {v : Value} {d : Dat} {k : Int} {tk : Tok} {news : Led} (hD : DatIn news v d) (hS : Still d) :
    Con w 248 [v, .int k tk] 7 80 news (fun r news' => r = v ∧ news' = news) := by
  refine' still_el (P := fun v => Con w 248 [v, .int k tk] 7 80 news (fun r news' => r = v ∧ news' = news)) hD hS ?_ ?_ ?_
  · intro a q c t1 vs hc hm
    unfold Con
    w_top off
    k_fill
    intro mean mg mb dp un gd cn cs a ccd cl outer A₀ base h₀ L m s Q E B F X N T hkk hdd huu hret
    refine wpAny_call ?_
    k_dflt cell_enter
    k_steps
    all_goals first | (exfalso; contradiction) | (refine hret _ _ _ _ (by k_asm) (by k_asm) ?_; exact ⟨rfl, rfl⟩)
  · intro a q cv t1 t4 b1 b2 vs hc hm
    unfold Con
    w_top off
    k_fill
    intro mean mg mb dp un gd cn cs a ccd cl outer A₀ base h₀ L m s Q E B F X N T hkk hdd huu hret
    refine wpAny_call ?_
    k_dflt cell_enter
    k_steps
    all_goals first | (exfalso; contradiction) | (refine hret _ _ _ _ (by k_asm) (by k_asm) ?_; exact ⟨rfl, rfl⟩)
  · intro a q e i t1 t4 b1 b5 hi hn hm h3
    unfold Con
    w_top off
    k_fill
    intro mean mg mb dp un gd cn cs a ccd cl outer A₀ base h₀ L m s Q E B F X N T hkk hdd huu hret
    refine wpAny_call ?_
    k_dflt cell_enter
    k_steps
    all_goals first | (exfalso; contradiction) | (refine hret _ _ _ _ (by k_asm) (by k_asm) ?_; exact ⟨rfl, rfl⟩)
end
/-- the node of a conversion -/
abbrev convD (kind : Int) (i : In) (c : Int) : Dat := .tuple [.int 19, .int kind, i.dat, .int 1, .int c]
/-- what fold_under makes of it -/
def fuD (kind k k0 n c : Int) : Dat := if OK k n c then .tuple [.int 1, .int kind, .int (cutV k n)] else convD kind (.num k0 n) c
def Made (d : Dat) (news : Led) (r : Value) (news' : Led) : Prop := ∃ tl, news' = tl ++ news ∧ NoD tl ∧ DatIn news' r d
theorem conv_el {news : Led} {v : Value} {kind k0 n c : Int} {P : Value → Prop} (hD : DatIn news v (convD kind (.num k0 n) c))
    (h : ∀ a q a' q' t1 t2 t4 t5 s1 s2 s3, (a, tupO [.int 19 t1, .int kind t2, .ref a', .int 1 t4, .int c t5] q) ∈ news → (a', tupO [.int 1 s1, .int k0 s2, .int n s3] q') ∈ news →
      DatIn news (.ref a) (convD kind (.num k0 n) c) → DatIn news (.ref a') (In.num k0 n).dat → P (.ref a)) : P v := by
  have hD0 := hD
  obtain ⟨a, v1, v2, v3, v4, v5, q, rfl, hm, h1, h2, h3, h4, h5⟩ := din5 hD
  obtain ⟨t1, rfl⟩ := din_int h1
  obtain ⟨t2, rfl⟩ := din_int h2
  obtain ⟨t4, rfl⟩ := din_int h4
  obtain ⟨t5, rfl⟩ := din_int h5
  have h3' := h3
  obtain ⟨a', u1, u2, u3, q', rfl, hm', g1, g2, g3⟩ := din3 h3'
  obtain ⟨s1, rfl⟩ := din_int g1
  obtain ⟨s2, rfl⟩ := din_int g2
  obtain ⟨s3, rfl⟩ := din_int g3
  exact h a q a' q' t1 t2 t4 t5 s1 s2 s3 hm hm' hD0 h3
theorem conv_elb {news : Led} {v : Value} {kind c : Int} {P : Value → Prop} (hD : DatIn news v (convD kind .bad c))
    (h : ∀ a q a' q' t1 t2 t4 t5 s1 s2 s3, (a, tupO [.int 19 t1, .int kind t2, .ref a', .int 1 t4, .int c t5] q) ∈ news → (a', tupO [.int 1 s1, .int 15 s2, .int 7 s3] q') ∈ news →
      DatIn news (.ref a) (convD kind .bad c) → DatIn news (.ref a') In.bad.dat → P (.ref a)) : P v :=
  conv_el (k0 := 15) (n := 7) (P := P) hD h
theorem el_made {d : Dat} {news : Led} : ∀ G : Value → Led → Prop, (∀ r tl, NoD tl → DatIn (tl ++ news) r d → G r (tl ++ news)) → ∀ r n, Made d news r n → G r n := by
  rintro G h r n ⟨tl, rfl, hn, hD⟩; exact h r tl hn hD
theorem reg_7 : True := by
  k_with_none
  k_with "my subscriptTail Name Constant ref int" => ((k_here; k_dflt (refine' item_tupleT ?z0T ?z0a ?z0b ?z0j ?z0x ?_ ?z0s; (case z0T => exact isT (by k_asm) (by k_mem)); (case z0a => decide); (case z0b => decide); (case z0j => exact rfl); (case z0x => exact rfl); (case z0s => with_unfolding_all rfl); k_whole)))
  k_with "my subscriptTail Subscript Constant ref int" => ((k_here; k_dflt (refine' item_tupleT ?z1T ?z1a ?z1b ?z1j ?z1x ?_ ?z1s; (case z1T => exact isT (by k_asm) (by k_mem)); (case z1a => decide); (case z1b => decide); (case z1j => exact rfl); (case z1x => exact rfl); (case z1s => with_unfolding_all rfl); k_whole)))
  k_with "my eval Call" => ((k_here; first | k_compRoot | k_dflt (refine Call_ ?_)))
  k_with "my call ref" => ((k_here; (with_reducible show wpAny _ _ (call (Value.ref 65) _) _ _ _); k_dflt ((refine' Con.useR (c_int_range _ ?z5kp) (el_rng ?z5kX) ?z5k1 ?z5k2 ?z5k3 ?z5k4 ?z5k5 ?z5kK ?z5kd ?z5ku ?_; (case z5k1 => k_asm); (case z5k2 => k_asm); (case z5k3 => k_asm); (case z5k4 => k_asm); (case z5k5 => k_asm); (case z5kK => first | exact rfl | assumption);  (case z5kp => first | assumption | omega); (case z5kX => k_asm); (case z5kd => ktr_room); (case z5ku => ktr_units)); (intro a9 t1 t2 hK9 hT9 h9 tk9 F9 N9); (try dsimp only); (try k_fold))))
  k_with "my call ref" => ((k_here; (with_reducible show wpAny _ _ (call (Value.ref 87) _) _ _ _); k_dflt ((refine' Con.useR (c_in_range _ ?z6kp) el_eq ?z6k1 ?z6k2 ?z6k3 ?z6k4 ?z6k5 ?z6kK ?z6kd ?z6ku ?_; (case z6k1 => k_asm); (case z6k2 => k_asm); (case z6k3 => k_asm); (case z6k4 => k_asm); (case z6k5 => k_asm); (case z6kK => first | exact rfl | assumption);  (case z6kp => first | assumption | omega); (case z6kd => ktr_room); (case z6ku => ktr_units)); (intro  h9 tk9 F9 N9); (try dsimp only); (try k_fold))))
  k_with "my call ref" => ((k_here; (with_reducible show wpAny _ _ (call (Value.ref 80) _) _ _ _); k_dflt ((refine' Con.useR (c_cut _ ?z7kp) el_int ?z7k1 ?z7k2 ?z7k3 ?z7k4 ?z7k5 ?z7kK ?z7kd ?z7ku ?_; (case z7k1 => k_asm); (case z7k2 => k_asm); (case z7k3 => k_asm); (case z7k4 => k_asm); (case z7k5 => k_asm); (case z7kK => first | exact rfl | assumption);  (case z7kp => first | assumption | omega); (case z7kd => ktr_room); (case z7ku => ktr_units)); (intro t9 h9 tk9 F9 N9); (try dsimp only); (try k_fold))))
  k_with "my call ref" => ((k_here; (with_reducible show wpAny _ _ (call (Value.ref 129) _) _ _ _); k_dflt ((refine' Con.useR2 (c_whole _ ?z8kp ?z8kc) el_conv ?z8k1 ?z8k2 ?z8k3 ?z8k4 ?z8k5 ?z8kK ?z8kd ?z8ku ?_ ?_; (case z8k1 => k_asm); (case z8k2 => k_asm); (case z8k3 => k_asm); (case z8k4 => k_asm); (case z8k5 => k_asm); (case z8kK => first | exact rfl | assumption);  (case z8kp => first | assumption | omega); (case z8kc => first | assumption | omega); (case z8kd => ktr_room); (case z8ku => ktr_units)); (intro tl9 D9 t9 q9 tv9 hnd9 hm9 hok9 h9 tk9 F9 N9); (try dsimp only); (try k_fold); rotate_left; (intro tl9 D9 t9 q9 hnd9 hm9 hok9 h9 tk9 F9 N9); (try dsimp only); (try k_fold); rotate_left)))
  k_with "my call ref" => ((k_here; (with_reducible show wpAny _ _ (call (Value.ref 150) _) _ _ _); k_dflt ((refine' Con.useR2 (c_conv _ ?z9kp ?z9kc) el_conv ?z9k1 ?z9k2 ?z9k3 ?z9k4 ?z9k5 ?z9kK ?z9kd ?z9ku ?_ ?_; (case z9k1 => k_asm); (case z9k2 => k_asm); (case z9k3 => k_asm); (case z9k4 => k_asm); (case z9k5 => k_asm); (case z9kK => first | exact rfl | assumption);  (case z9kp => first | assumption | omega); (case z9kc => first | assumption | omega); (case z9kd => ktr_room); (case z9ku => ktr_units)); (intro tl9 D9 t9 q9 tv9 hnd9 hm9 hok9 h9 tk9 F9 N9); (try dsimp only); (try k_fold); rotate_left; (intro tl9 D9 t9 q9 hnd9 hm9 hok9 h9 tk9 F9 N9); (try dsimp only); (try k_fold); rotate_left)))
  k_with "my call ref" => ((k_here; (with_reducible show wpAny _ _ (call (Value.ref 164) _) _ _ _); k_dflt ((refine' Con.useR (c_numeric_no _ ?z10kp ?z10kc ?z10ke) el_eq ?z10k1 ?z10k2 ?z10k3 ?z10k4 ?z10k5 ?z10kK ?z10kd ?z10ku ?_; (case z10k1 => k_asm); (case z10k2 => k_asm); (case z10k3 => k_asm); (case z10k4 => k_asm); (case z10k5 => k_asm); (case z10kK => first | exact rfl | assumption);  (case z10kp => first | assumption | (refine' din_sub ?z10ds ?z10dh; (case z10dh => assumption); (case z10ds => tb_rel))); (case z10kc => assumption); (case z10ke => assumption); (case z10kd => ktr_room); (case z10ku => ktr_units)); (intro  h9 tk9 F9 N9); (try dsimp only); (try k_fold))))
  k_with "my call ref" => ((k_here; (with_reducible show wpAny _ _ (call (Value.ref 164) _) _ _ _); k_dflt ((refine' Con.useR (c_numeric _ ?z11kp ?z11kc) el_eq ?z11k1 ?z11k2 ?z11k3 ?z11k4 ?z11k5 ?z11kK ?z11kd ?z11ku ?_; (case z11k1 => k_asm); (case z11k2 => k_asm); (case z11k3 => k_asm); (case z11k4 => k_asm); (case z11k5 => k_asm); (case z11kK => first | exact rfl | assumption);  (case z11kp => first | assumption | (refine' din_sub ?z11ds ?z11dh; (case z11dh => assumption); (case z11ds => tb_rel))); (case z11kc => first | assumption | omega); (case z11kd => ktr_room); (case z11ku => ktr_units)); (intro  h9 tk9 F9 N9); (try dsimp only); (try k_fold))))
  exact True.intro
theorem c_under_num (w : World) {v : Value} {kind k k0 n c : Int} {tk : Tok} {news : Led} (hD : DatIn news v (convD kind (.num k0 n) c)) (hk : 2 ≤ k ∧ k ≤ 10) (hk0 : (2 ≤ k0 ∧ k0 ≤ 10) ∨ (40 ≤ k0 ∧ k0 ≤ 47)) (hc : c = 0 ∨ c = 1) :
    Con w 248 [v, .int k tk] 11 128 news (Made (fuD kind k k0 n c) news) := by
  refine' conv_el (P := fun v => Con w 248 [v, .int k tk] 11 128 news (Made (fuD kind k k0 n c) news)) hD ?_
  intro a q a' q' t1 t2 t4 t5 s1 s2 s3 hm hm' hD0 h3
  unfold Con
  w_top off
  k_fill
  intro mean mg mb dp un gd cn cs a ccd cl outer A₀ base h₀ L m s Q E B F X N T hkk hdd huu hret
  refine wpAny_call ?_
  k_dflt cell_enter
  k_steps
  · refine hret _ _ _ _ (by k_asm) (by k_asm) ?_
    refine ⟨_ :: _, rfl, NoD.cons tup_noD (by assumption), ?_⟩
    rw [fuD, if_pos (by assumption)]
    exact .tuple (.head _) (.cons (.int _ _) (.cons (.int _ _) (.cons (.int _ _) .nil)))
  · refine hret _ _ _ _ (by k_asm) (by k_asm) ?_
    refine ⟨_, rfl, by assumption, ?_⟩
    rw [fuD, if_neg (by assumption)]
    (first | assumption | (refine' din_sub ?ds ?dh; (case dh => assumption); (case ds => tb_rel)) | exact DatIn.int _ _ | exact DatIn.none | exact DatIn.str _ _ | exact DatIn.bool _)
/-- what is told -/
def faV (k n c : Int) : Int := if OK k n c then 0 else 221
section
theorem reg_8 : True := by
  k_with_none
  k_with "my subscriptTail Name Constant ref int" => ((k_here; k_dflt (refine' item_tupleT ?z0T ?z0a ?z0b ?z0j ?z0x ?_ ?z0s; (case z0T => exact isT (by k_asm) (by k_mem)); (case z0a => decide); (case z0b => decide); (case z0j => exact rfl); (case z0x => exact rfl); (case z0s => with_unfolding_all rfl); k_whole)))
  k_with "my subscriptTail Subscript Constant ref int" => ((k_here; k_dflt (refine' item_tupleT ?z1T ?z1a ?z1b ?z1j ?z1x ?_ ?z1s; (case z1T => exact isT (by k_asm) (by k_mem)); (case z1a => decide); (case z1b => decide); (case z1j => exact rfl); (case z1x => exact rfl); (case z1s => with_unfolding_all rfl); k_whole)))
  k_with "my eval Call" => ((k_here; first | k_compRoot | k_dflt (refine Call_ ?_)))
  k_with "my call ref" => ((k_here; (with_reducible show wpAny _ _ (call (Value.ref 65) _) _ _ _); k_dflt ((refine' Con.useR (c_int_range _ ?z5kp) (el_rng ?z5kX) ?z5k1 ?z5k2 ?z5k3 ?z5k4 ?z5k5 ?z5kK ?z5kd ?z5ku ?_; (case z5k1 => k_asm); (case z5k2 => k_asm); (case z5k3 => k_asm); (case z5k4 => k_asm); (case z5k5 => k_asm); (case z5kK => first | exact rfl | assumption);  (case z5kp => first | assumption | omega); (case z5kX => k_asm); (case z5kd => ktr_room); (case z5ku => ktr_units)); (intro a9 t1 t2 hK9 hT9 h9 tk9 F9 N9); (try dsimp only); (try k_fold))))
  k_with "my call ref" => ((k_here; (with_reducible show wpAny _ _ (call (Value.ref 87) _) _ _ _); k_dflt ((refine' Con.useR (c_in_range _ ?z6kp) el_eq ?z6k1 ?z6k2 ?z6k3 ?z6k4 ?z6k5 ?z6kK ?z6kd ?z6ku ?_; (case z6k1 => k_asm); (case z6k2 => k_asm); (case z6k3 => k_asm); (case z6k4 => k_asm); (case z6k5 => k_asm); (case z6kK => first | exact rfl | assumption);  (case z6kp => first | assumption | omega); (case z6kd => ktr_room); (case z6ku => ktr_units)); (intro  h9 tk9 F9 N9); (try dsimp only); (try k_fold))))
  k_with "my call ref" => ((k_here; (with_reducible show wpAny _ _ (call (Value.ref 80) _) _ _ _); k_dflt ((refine' Con.useR (c_cut _ ?z7kp) el_int ?z7k1 ?z7k2 ?z7k3 ?z7k4 ?z7k5 ?z7kK ?z7kd ?z7ku ?_; (case z7k1 => k_asm); (case z7k2 => k_asm); (case z7k3 => k_asm); (case z7k4 => k_asm); (case z7k5 => k_asm); (case z7kK => first | exact rfl | assumption);  (case z7kp => first | assumption | omega); (case z7kd => ktr_room); (case z7ku => ktr_units)); (intro t9 h9 tk9 F9 N9); (try dsimp only); (try k_fold))))
  k_with "my call ref" => ((k_here; (with_reducible show wpAny _ _ (call (Value.ref 129) _) _ _ _); k_dflt ((refine' Con.useR2 (c_whole _ ?z8kp ?z8kc) el_conv ?z8k1 ?z8k2 ?z8k3 ?z8k4 ?z8k5 ?z8kK ?z8kd ?z8ku ?_ ?_; (case z8k1 => k_asm); (case z8k2 => k_asm); (case z8k3 => k_asm); (case z8k4 => k_asm); (case z8k5 => k_asm); (case z8kK => first | exact rfl | assumption);  (case z8kp => first | assumption | omega); (case z8kc => first | assumption | omega); (case z8kd => ktr_room); (case z8ku => ktr_units)); (intro tl9 D9 t9 q9 tv9 hnd9 hm9 hok9 h9 tk9 F9 N9); (try dsimp only); (try k_fold); rotate_left; (intro tl9 D9 t9 q9 hnd9 hm9 hok9 h9 tk9 F9 N9); (try dsimp only); (try k_fold); rotate_left)))
  k_with "my call ref" => ((k_here; (with_reducible show wpAny _ _ (call (Value.ref 150) _) _ _ _); k_dflt ((refine' Con.useR2 (c_conv _ ?z9kp ?z9kc) el_conv ?z9k1 ?z9k2 ?z9k3 ?z9k4 ?z9k5 ?z9kK ?z9kd ?z9ku ?_ ?_; (case z9k1 => k_asm); (case z9k2 => k_asm); (case z9k3 => k_asm); (case z9k4 => k_asm); (case z9k5 => k_asm); (case z9kK => first | exact rfl | assumption);  (case z9kp => first | assumption | omega); (case z9kc => first | assumption | omega); (case z9kd => ktr_room); (case z9ku => ktr_units)); (intro tl9 D9 t9 q9 tv9 hnd9 hm9 hok9 h9 tk9 F9 N9); (try dsimp only); (try k_fold); rotate_left; (intro tl9 D9 t9 q9 hnd9 hm9 hok9 h9 tk9 F9 N9); (try dsimp only); (try k_fold); rotate_left)))
  k_with "my call ref" => ((k_here; (with_reducible show wpAny _ _ (call (Value.ref 164) _) _ _ _); k_dflt ((refine' Con.useR (c_numeric_no _ ?z10kp ?z10kc ?z10ke) el_eq ?z10k1 ?z10k2 ?z10k3 ?z10k4 ?z10k5 ?z10kK ?z10kd ?z10ku ?_; (case z10k1 => k_asm); (case z10k2 => k_asm); (case z10k3 => k_asm); (case z10k4 => k_asm); (case z10k5 => k_asm); (case z10kK => first | exact rfl | assumption);  (case z10kp => first | assumption | (refine' din_sub ?z10ds ?z10dh; (case z10dh => assumption); (case z10ds => tb_rel))); (case z10kc => assumption); (case z10ke => assumption); (case z10kd => ktr_room); (case z10ku => ktr_units)); (intro  h9 tk9 F9 N9); (try dsimp only); (try k_fold))))
  k_with "my call ref" => ((k_here; (with_reducible show wpAny _ _ (call (Value.ref 164) _) _ _ _); k_dflt ((refine' Con.useR (c_numeric _ ?z11kp ?z11kc) el_eq ?z11k1 ?z11k2 ?z11k3 ?z11k4 ?z11k5 ?z11kK ?z11kd ?z11ku ?_; (case z11k1 => k_asm); (case z11k2 => k_asm); (case z11k3 => k_asm); (case z11k4 => k_asm); (case z11k5 => k_asm); (case z11kK => first | exact rfl | assumption);  (case z11kp => first | assumption | (refine' din_sub ?z11ds ?z11dh; (case z11dh => assumption); (case z11ds => tb_rel))); (case z11kc => first | assumption | omega); (case z11kd => ktr_room); (case z11ku => ktr_units)); (intro  h9 tk9 F9 N9); (try dsimp only); (try k_fold))))
  k_with "my subscriptTail Name Constant ref int" => ((k_here; (with_reducible show wpAny _ _ (subscriptTail _ _ _ (Value.int 0 _)) _ _ _); k_dflt (refine' item_at0 ?z12T ?_ ?z12s; (case z12T => exact isT (by k_asm) (by k_mem)); (case z12s => with_unfolding_all rfl); k_whole)))
  k_with "my subscriptTail Name Constant ref int" => ((k_here; (with_reducible show wpAny _ _ (subscriptTail _ _ _ (Value.int 3 _)) _ _ _); k_dflt (refine' item_at3 ?z13T ?_ ?z13s; (case z13T => exact isT (by k_asm) (by k_mem)); (case z13s => with_unfolding_all rfl); k_whole)))
  exact True.intro
theorem c_fault_still (w : World) {v : Value} {d : Dat} {k : Int} {tk : Tok} {news : Led} (hD : DatIn news v d) (hS : Still d) :
    Con w 213 [v, .int k tk] 7 80 news (fun r news' => (∃ t, r = .int 0 t) ∧ news' = news) := by
  refine' still_el (P := fun v => Con w 213 [v, .int k tk] 7 80 news (fun r news' => (∃ t, r = .int 0 t) ∧ news' = news)) hD hS ?_ ?_ ?_
  · intro a q c t1 vs hc hm
    unfold Con
    w_top off
    k_fill
    intro mean mg mb dp un gd cn cs a ccd cl outer A₀ base h₀ L m s Q E B F X N T hkk hdd huu hret
    refine wpAny_call ?_
    k_dflt cell_enter
    k_steps
    all_goals first | (exfalso; contradiction) | (refine hret _ _ _ _ (by k_asm) (by k_asm) ?_; exact ⟨⟨_, rfl⟩, rfl⟩)
  · intro a q cv t1 t4 b1 b2 vs hc hm
    unfold Con
    w_top off
    k_fill
    intro mean mg mb dp un gd cn cs a ccd cl outer A₀ base h₀ L m s Q E B F X N T hkk hdd huu hret
    refine wpAny_call ?_
    k_dflt cell_enter
    k_steps
    all_goals first | (exfalso; contradiction) | (refine hret _ _ _ _ (by k_asm) (by k_asm) ?_; exact ⟨⟨_, rfl⟩, rfl⟩)
  · intro a q e i t1 t4 b1 b5 hi hn hm h3
    unfold Con
    w_top off
    k_fill
    intro mean mg mb dp un gd cn cs a ccd cl outer A₀ base h₀ L m s Q E B F X N T hkk hdd huu hret
    refine wpAny_call ?_
    k_dflt cell_enter
    k_steps
    all_goals first | (exfalso; contradiction) | (refine hret _ _ _ _ (by k_asm) (by k_asm) ?_; exact ⟨⟨_, rfl⟩, rfl⟩)
end
theorem reg_9 : True := by
  k_with_none
  k_with "my subscriptTail Name Constant ref int" => ((k_here; k_dflt (refine' item_tupleT ?z0T ?z0a ?z0b ?z0j ?z0x ?_ ?z0s; (case z0T => exact isT (by k_asm) (by k_mem)); (case z0a => decide); (case z0b => decide); (case z0j => exact rfl); (case z0x => exact rfl); (case z0s => with_unfolding_all rfl); k_whole)))
  k_with "my subscriptTail Subscript Constant ref int" => ((k_here; k_dflt (refine' item_tupleT ?z1T ?z1a ?z1b ?z1j ?z1x ?_ ?z1s; (case z1T => exact isT (by k_asm) (by k_mem)); (case z1a => decide); (case z1b => decide); (case z1j => exact rfl); (case z1x => exact rfl); (case z1s => with_unfolding_all rfl); k_whole)))
  k_with "my eval Call" => ((k_here; first | k_compRoot | k_dflt (refine Call_ ?_)))
  k_with "my call ref" => ((k_here; (with_reducible show wpAny _ _ (call (Value.ref 65) _) _ _ _); k_dflt ((refine' Con.useR (c_int_range _ ?z5kp) (el_rng ?z5kX) ?z5k1 ?z5k2 ?z5k3 ?z5k4 ?z5k5 ?z5kK ?z5kd ?z5ku ?_; (case z5k1 => k_asm); (case z5k2 => k_asm); (case z5k3 => k_asm); (case z5k4 => k_asm); (case z5k5 => k_asm); (case z5kK => first | exact rfl | assumption);  (case z5kp => first | assumption | omega); (case z5kX => k_asm); (case z5kd => ktr_room); (case z5ku => ktr_units)); (intro a9 t1 t2 hK9 hT9 h9 tk9 F9 N9); (try dsimp only); (try k_fold))))
  k_with "my call ref" => ((k_here; (with_reducible show wpAny _ _ (call (Value.ref 87) _) _ _ _); k_dflt ((refine' Con.useR (c_in_range _ ?z6kp) el_eq ?z6k1 ?z6k2 ?z6k3 ?z6k4 ?z6k5 ?z6kK ?z6kd ?z6ku ?_; (case z6k1 => k_asm); (case z6k2 => k_asm); (case z6k3 => k_asm); (case z6k4 => k_asm); (case z6k5 => k_asm); (case z6kK => first | exact rfl | assumption);  (case z6kp => first | assumption | omega); (case z6kd => ktr_room); (case z6ku => ktr_units)); (intro  h9 tk9 F9 N9); (try dsimp only); (try k_fold))))
  k_with "my call ref" => ((k_here; (with_reducible show wpAny _ _ (call (Value.ref 80) _) _ _ _); k_dflt ((refine' Con.useR (c_cut _ ?z7kp) el_int ?z7k1 ?z7k2 ?z7k3 ?z7k4 ?z7k5 ?z7kK ?z7kd ?z7ku ?_; (case z7k1 => k_asm); (case z7k2 => k_asm); (case z7k3 => k_asm); (case z7k4 => k_asm); (case z7k5 => k_asm); (case z7kK => first | exact rfl | assumption);  (case z7kp => first | assumption | omega); (case z7kd => ktr_room); (case z7ku => ktr_units)); (intro t9 h9 tk9 F9 N9); (try dsimp only); (try k_fold))))
  k_with "my call ref" => ((k_here; (with_reducible show wpAny _ _ (call (Value.ref 129) _) _ _ _); k_dflt ((refine' Con.useR2 (c_whole _ ?z8kp ?z8kc) el_conv ?z8k1 ?z8k2 ?z8k3 ?z8k4 ?z8k5 ?z8kK ?z8kd ?z8ku ?_ ?_; (case z8k1 => k_asm); (case z8k2 => k_asm); (case z8k3 => k_asm); (case z8k4 => k_asm); (case z8k5 => k_asm); (case z8kK => first | exact rfl | assumption);  (case z8kp => first | assumption | omega); (case z8kc => first | assumption | omega); (case z8kd => ktr_room); (case z8ku => ktr_units)); (intro tl9 D9 t9 q9 tv9 hnd9 hm9 hok9 h9 tk9 F9 N9); (try dsimp only); (try k_fold); rotate_left; (intro tl9 D9 t9 q9 hnd9 hm9 hok9 h9 tk9 F9 N9); (try dsimp only); (try k_fold); rotate_left)))
  k_with "my call ref" => ((k_here; (with_reducible show wpAny _ _ (call (Value.ref 150) _) _ _ _); k_dflt ((refine' Con.useR2 (c_conv _ ?z9kp ?z9kc) el_conv ?z9k1 ?z9k2 ?z9k3 ?z9k4 ?z9k5 ?z9kK ?z9kd ?z9ku ?_ ?_; (case z9k1 => k_asm); (case z9k2 => k_asm); (case z9k3 => k_asm); (case z9k4 => k_asm); (case z9k5 => k_asm); (case z9kK => first | exact rfl | assumption);  (case z9kp => first | assumption | omega); (case z9kc => first | assumption | omega); (case z9kd => ktr_room); (case z9ku => ktr_units)); (intro tl9 D9 t9 q9 tv9 hnd9 hm9 hok9 h9 tk9 F9 N9); (try dsimp only); (try k_fold); rotate_left; (intro tl9 D9 t9 q9 hnd9 hm9 hok9 h9 tk9 F9 N9); (try dsimp only); (try k_fold); rotate_left)))
  k_with "my call ref" => ((k_here; (with_reducible show wpAny _ _ (call (Value.ref 164) _) _ _ _); k_dflt ((refine' Con.useR (c_numeric_no _ ?z10kp ?z10kc ?z10ke) el_eq ?z10k1 ?z10k2 ?z10k3 ?z10k4 ?z10k5 ?z10kK ?z10kd ?z10ku ?_; (case z10k1 => k_asm); (case z10k2 => k_asm); (case z10k3 => k_asm); (case z10k4 => k_asm); (case z10k5 => k_asm); (case z10kK => first | exact rfl | assumption);  (case z10kp => first | assumption | (refine' din_sub ?z10ds ?z10dh; (case z10dh => assumption); (case z10ds => tb_rel))); (case z10kc => assumption); (case z10ke => assumption); (case z10kd => ktr_room); (case z10ku => ktr_units)); (intro  h9 tk9 F9 N9); (try dsimp only); (try k_fold))))
  k_with "my call ref" => ((k_here; (with_reducible show wpAny _ _ (call (Value.ref 164) _) _ _ _); k_dflt ((refine' Con.useR (c_numeric _ ?z11kp ?z11kc) el_eq ?z11k1 ?z11k2 ?z11k3 ?z11k4 ?z11k5 ?z11kK ?z11kd ?z11ku ?_; (case z11k1 => k_asm); (case z11k2 => k_asm); (case z11k3 => k_asm); (case z11k4 => k_asm); (case z11k5 => k_asm); (case z11kK => first | exact rfl | assumption);  (case z11kp => first | assumption | (refine' din_sub ?z11ds ?z11dh; (case z11dh => assumption); (case z11ds => tb_rel))); (case z11kc => first | assumption | omega); (case z11kd => ktr_room); (case z11ku => ktr_units)); (intro  h9 tk9 F9 N9); (try dsimp only); (try k_fold))))
  exact True.intro
theorem c_fault_num (w : World) {v : Value} {kind k k0 n c : Int} {tk : Tok} {news : Led} (hD : DatIn news v (convD kind (.num k0 n) c)) (hk : 2 ≤ k ∧ k ≤ 10) (hk0 : (2 ≤ k0 ∧ k0 ≤ 10) ∨ (40 ≤ k0 ∧ k0 ≤ 47)) (hc : c = 0 ∨ c = 1) :
    Con w 213 [v, .int k tk] 11 128 news (fun r news' => (∃ t, r = .int (faV k n c) t) ∧ news' = news) := by
  refine' conv_el (P := fun v => Con w 213 [v, .int k tk] 11 128 news (fun r news' => (∃ t, r = .int (faV k n c) t) ∧ news' = news)) hD ?_
  intro a q a' q' t1 t2 t4 t5 s1 s2 s3 hm hm' hD0 h3
  unfold Con
  w_top off
  k_fill
  intro mean mg mb dp un gd cn cs a ccd cl outer A₀ base h₀ L m s Q E B F X N T hkk hdd huu hret
  refine wpAny_call ?_
  k_dflt cell_enter
  k_steps
  · refine' hret _ _ _ _ ?rF ?rN ⟨⟨_, congrArg (fun x => Value.int x _) (if_pos (by assumption)).symm⟩, rfl⟩
    (case rF => k_asm)
    (case rN => exact weak (by k_asm) (by kcj_in))
  · refine' hret _ _ _ _ ?rF ?rN ⟨⟨_, congrArg (fun x => Value.int x _) (if_neg (by assumption)).symm⟩, rfl⟩
    (case rF => k_asm)
    (case rN => exact weak (by k_asm) (by kcj_in))

/-! loops -/
/-- a turn's end: the frame, the ledger that goes on (none of it of the iterator's kind), what holds of both -/
def TEnd (ic : String) (h₀ : Heap) (L : Addr) (J : (Str → Option Value) → Led → Prop) (own : Led) (s₁ s₂ : Shared) : Prop :=
  ∃ h' tk m' news' nx, s₂ = { s₁ with heap := h', toks := tk } ∧ Fr h₀ L h' m' ∧ News h₀ L h' news' ∧ (∀ p ∈ nx, p ∈ news') ∧ (∀ p ∈ own, p ∈ news') ∧ (∀ p ∈ nx, p.2.cls ≠ .type ic ∨ ∀ q ∈ own, q.1 ≠ p.1) ∧ J m' nx
def TPost (ic : String) (h₀ : Heap) (L : Addr) (J : (Str → Option Value) → Led → Prop) (own : Led) (s₁ : Shared) (Q : Flow → Shared → Prop) (f : Flow) (s₂ : Shared) : Prop :=
  match f with
  | .ret v => Q (.ret v) s₂
  | .brk => Q .next s₂
  | _ => TEnd ic h₀ L J own s₁ s₂
section
variable {prog : Program} {w : World} {A : Around} {E : Value → Shared → Prop} {s : Shared} {env : Env} {h₀ : Heap} {x : Str} {body : List Stmt} {Q : Flow → Shared → Prop}
theorem coreLoop {I : Addr} {fp : List Addr} {n : Nat} {P : Nat → Value → Prop} {St : Nat → Heap → Prop} {ic : String} {m₀ : Str → Option Value} {news : Led} (J : Nat → (Str → Option Value) → Led → Prop)
    (W : Walks prog w A I fp [I] n P St) (hcls : ∀ i h, St i h → ∃ o, h.get? I = some o ∧ o.cls = .type ic) (hI : I ∈ fp) (hLf : env.locals ∉ fp) (hI0 : h₀.get? I = none) (hnew : ∀ p ∈ news, p.1 ≠ I) (hst : St 0 s.heap)
    (hfp : ∀ b ∈ fp, h₀.get? b = none → b = I)
    (F : Fr h₀ env.locals s.heap m₀) (N : News h₀ env.locals s.heap news) (hj : J 0 m₀ news)
    (turn : ∀ i v m₁ nx h tk own, i < n → P i v → J i m₁ nx → (∀ p ∈ own, p.2.cls = .type ic) → (∀ p ∈ nx, ∀ q ∈ own, q.1 ≠ p.1) → Fr h₀ env.locals h (fun y => if y = x then some v else m₁ y) → News h₀ env.locals h (nx ++ own) →
      wpAny (model prog w) A (execs body env) (TPost ic h₀ env.locals (J (i + 1)) own { s with heap := h, toks := tk } Q) E { s with heap := h, toks := tk })
    (done : ∀ m₁ nx h tk, J n m₁ nx → Fr h₀ env.locals h m₁ → News h₀ env.locals h nx → Q .next { s with heap := h, toks := tk }) :
    LoopAtV prog w A h₀ env x body Q E (.ref I) s := by
  refine ⟨I, fp, [I], n, P, St, m₀, news, J, rfl, W, hLf, ?_, ?_, hst, F, N, hj, ?_, ?_⟩
  · intro b hb
    rw [List.mem_singleton.mp hb]
    exact hI0
  · intro p hp hq
    exact hnew p hp (List.mem_singleton.mp hq)
  · rintro i v m₁ news₁ s₁ own ⟨hh', tk', rfl⟩ hin hP hJ hoff hown hget hfp' hst' F₁ N₁
    have N₂ : News h₀ env.locals hh' (news₁ ++ own) := fun p hp => N₁ p ((List.mem_append.mp hp).elim (fun h => List.mem_append.mpr (.inr h)) fun h => List.mem_append.mpr (.inl h))
    have hat : ∀ p ∈ own, p.1 = I := fun p hp => hfp p.1 (hown p hp) (N₁ p (List.mem_append_left _ hp)).2.2
    have hnd : ∀ p ∈ own, p.2.cls = .type ic := fun p hp => by
      obtain ⟨oI, hoI, hcI⟩ := hcls _ _ hst'
      have h1 := hget p hp
      rw [hat p hp, hoI] at h1
      rw [← Option.some.inj h1]
      exact hcI
    have hoff' : ∀ p ∈ news₁, ∀ q ∈ own, q.1 ≠ p.1 := fun p hp q hq e => hoff p hp (by rw [← e, hat q hq]; exact .head _)
    refine wpAny_mono (turn i v m₁ news₁ hh' tk' own hin hP hJ hnd hoff' F₁ N₂) (fun f s₂ p => ?_) fun _ _ e => e
    have fin : TEnd ic h₀ env.locals (J (i + 1)) own { s with heap := hh', toks := tk' } s₂ → LoopStepU h₀ env.locals [I] own (J (i + 1)) { s with heap := hh', toks := tk' } .next s₂ := by
      rintro ⟨h', tk, m', news', nx, e, F', N', hn, ho, hc, hm⟩
      refine ⟨rfl, h', tk, m', nx, e, F', fun p hp => N' p ((List.mem_append.mp hp).elim (ho p) (hn p)), fun p hp hq => ?_, hm⟩
      obtain ⟨oI, hoI, hcI⟩ := hcls _ _ hst'
      have h1 := (N' _ (ho _ (hfp' I hI hI0 oI hoI))).1
      have h2 := (N' _ (hn p hp)).1
      rw [List.mem_singleton.mp hq] at h2
      have h3 : oI = p.2 := Option.some.inj (h1.symm.trans h2)
      rcases hc p hp with hc | hc
      · exact hc (h3 ▸ hcI)
      · exact hc _ (hfp' I hI hI0 oI hoI) (List.mem_singleton.mp hq).symm
    cases f with
    | ret v => exact .ret p
    | brk => exact .brk p
    | next => exact .next (fin p)
    | cont => exact .cont (fin p)
  · rintro h' tk m' news' F' N' _ hJ
    exact done m' news' h' tk hJ F' N'
theorem rngLoop {r : Addr} {a₀ b₀ : Int} {t₀ u₀ v₀ : Tok} {n : Nat} {m₀ : Str → Option Value} {news : Led} (J : Nat → (Str → Option Value) → Led → Prop)
    (hh : A.handled = none) (hr : IsRange s.heap r a₀ b₀ 1 t₀ u₀ v₀) (hsmall : Builtin.Range.small a₀ b₀ 1 = true) (hsz : Builtin.Range.rangeSize a₀ b₀ 1 = (n : Int)) (F : Fr h₀ env.locals s.heap m₀) (N : News h₀ env.locals s.heap news) (hj : J 0 m₀ news)
    (turn : ∀ i t m₁ nx h tk own, i < n → J i m₁ nx → (∀ p ∈ own, p.2.cls = .type "range_iterator") → (∀ p ∈ nx, ∀ q ∈ own, q.1 ≠ p.1) → Fr h₀ env.locals h (fun y => if y = x then some (.int (a₀ + (i : Int)) t) else m₁ y) → News h₀ env.locals h (nx ++ own) →
      wpAny (model prog w) A (execs body env) (TPost "range_iterator" h₀ env.locals (J (i + 1)) own { s with heap := h, toks := tk } Q) E { s with heap := h, toks := tk })
    (done : ∀ m₁ nx h tk, J n m₁ nx → Fr h₀ env.locals h m₁ → News h₀ env.locals h nx → Q .next { s with heap := h, toks := tk }) :
    wpAny (model prog w) A (pyIter (.ref r)) (fun it s₂ => LoopAtV prog w A h₀ env x body Q E it s₂) E s := by
  refine wpAny_pyIter_range hr hsmall ?_
  have W : Walks prog w A s.heap.objs.size [s.heap.objs.size] [s.heap.objs.size] n (fun i v => i < n ∧ ∃ t, v = .int (a₀ + i * 1) t)
      (fun i h => IsRangeIter h s.heap.objs.size (a₀ + (i : Nat) * 1) ((n : Int) - (i : Nat)) 1) := (Walks.range hh _ a₀ 1 n).bound
  refine coreLoop J W (ic := "range_iterator") (fun i h hi => ⟨_, hi, rfl⟩) (by simp) ?_ (next_is_new F) ?_ ?_ ?_ (F.push _) (fun p hp => ⟨Heap.get?_push_of_some _ (N p hp).1, (N p hp).2⟩) hj ?_ done
  · intro hm
    exact absurd F.ns.lt ((List.mem_singleton.mp hm) ▸ Nat.lt_irrefl _)
  · intro p hp hI
    exact absurd (Heap.lt_size (N p hp).1) (hI ▸ Nat.lt_irrefl _)
  · show IsRangeIter _ _ _ _ _
    rw [hsz]
    simpa using Heap.get?_push_size _ rfl
  · intro b hb _
    exact List.mem_singleton.mp hb
  · rintro i v m₁ nx h tk own hi ⟨_, t, rfl⟩ hJ hnd hoff F₁ N₁
    have e1 : a₀ + (i : Int) * 1 = a₀ + (i : Int) := by omega
    rw [e1] at F₁
    exact turn i t m₁ nx h tk own hi hJ hnd hoff F₁ N₁
theorem tupLoop {r : Addr} {vs : List Value} {m₀ : Str → Option Value} {news : Led} (J : Nat → (Str → Option Value) → Led → Prop)
    (hh : A.handled = none) (hr : IsTup h₀ r vs.toArray) (F : Fr h₀ env.locals s.heap m₀) (N : News h₀ env.locals s.heap news) (hj : J 0 m₀ news)
    (turn : ∀ i v m₁ nx h tk own, vs[i]? = some v → J i m₁ nx → (∀ p ∈ own, p.2.cls = .type "tuple_iterator") → (∀ p ∈ nx, ∀ q ∈ own, q.1 ≠ p.1) → Fr h₀ env.locals h (fun y => if y = x then some v else m₁ y) → News h₀ env.locals h (nx ++ own) →
      wpAny (model prog w) A (execs body env) (TPost "tuple_iterator" h₀ env.locals (J (i + 1)) own { s with heap := h, toks := tk } Q) E { s with heap := h, toks := tk })
    (done : ∀ m₁ nx h tk, J vs.length m₁ nx → Fr h₀ env.locals h m₁ → News h₀ env.locals h nx → Q .next { s with heap := h, toks := tk }) :
    wpAny (model prog w) A (pyIter (.ref r)) (fun it s₂ => LoopAtV prog w A h₀ env x body Q E it s₂) E s := by
  have hrs : IsTup s.heap r vs.toArray := IsTup.keeps hr F.keep
  obtain ⟨orr, hor, hor2⟩ := id hr
  have hor' := F.keep _ _ hor
  have hne : r ≠ s.heap.objs.size := Nat.ne_of_lt (Heap.lt_size hor')
  refine wpAny_pyIter_tuple hrs ?_
  have W := Walks.tuple (prog := prog) (w := w) hh s.heap.objs.size r hne vs.toArray
  have hlen : vs.toArray.size = vs.length := by simp
  rw [hlen] at W
  refine coreLoop J W (ic := "tuple_iterator") ?_ (by simp) ?_ (next_is_new F) ?_ ?_ ?_ (F.push _) (fun p hp => ⟨Heap.get?_push_of_some _ (N p hp).1, (N p hp).2⟩) hj ?_ done
  · rintro i h ⟨⟨o, ho, hc, _⟩, _⟩
    exact ⟨o, ho, hc⟩
  · intro hm
    rcases List.mem_cons.mp hm with e | hm
    · exact absurd F.ns.lt (e ▸ Nat.lt_irrefl _)
    · have h1 := Heap.lt_size hor
      have h2 := F.above
      rw [← List.mem_singleton.mp hm] at h1
      exact absurd (Nat.lt_of_lt_of_le h1 h2) (Nat.lt_irrefl _)
  · intro p hp hI
    exact absurd (Heap.lt_size (N p hp).1) (hI ▸ Nat.lt_irrefl _)
  · exact ⟨⟨_, Heap.get?_push_size _ rfl, rfl, rfl⟩, IsTup.keeps hrs fun b o e => Heap.get?_push_of_some _ e⟩
  · intro b hb hb0
    rcases List.mem_cons.mp hb with rfl | hb
    · rfl
    · rw [List.mem_singleton.mp hb, hor] at hb0
      cases hb0
  · rintro i v m₁ nx h tk own hi hv hJ hnd hoff F₁ N₁
    exact turn i v m₁ nx h tk own (by simpa using hv) hJ hnd hoff F₁ N₁
theorem lstLoop {ax : Addr} {vs : List Value} {nn : Nat} {m₀ : Str → Option Value} {news : Led} (J : Nat → (Str → Option Value) → Led → Prop)
    (hh : A.handled = none) (hl : (ax, W.listOf vs.toArray nn) ∈ news) (F : Fr h₀ env.locals s.heap m₀) (N : News h₀ env.locals s.heap news) (hj : J 0 m₀ news)
    (turn : ∀ i v m₁ nx h tk own, vs[i]? = some v → J i m₁ nx → (ax, W.listOf vs.toArray nn) ∈ nx → (∀ p ∈ own, p.2.cls = .type "list_iterator") → (∀ p ∈ nx, ∀ q ∈ own, q.1 ≠ p.1) → Fr h₀ env.locals h (fun y => if y = x then some v else m₁ y) → News h₀ env.locals h (nx ++ own) →
      wpAny (model prog w) A (execs body env) (TPost "list_iterator" h₀ env.locals (fun m' nx => (ax, W.listOf vs.toArray nn) ∈ nx ∧ J (i + 1) m' nx) own { s with heap := h, toks := tk } Q) E { s with heap := h, toks := tk })
    (done : ∀ m₁ nx h tk, J vs.length m₁ nx → Fr h₀ env.locals h m₁ → News h₀ env.locals h nx → Q .next { s with heap := h, toks := tk }) :
    wpAny (model prog w) A (pyIter (.ref ax)) (fun it s₂ => LoopAtV prog w A h₀ env x body Q E it s₂) E s := by
  have hax := N _ hl
  have hls : s.heap.IsList ax vs.toArray := ⟨_, hax.1, rfl, nn, rfl⟩
  have hlt : ax < s.heap.objs.size := Heap.lt_size hax.1
  have hne : ax ≠ s.heap.objs.size := Nat.ne_of_lt hlt
  refine wpAny_pyIter_list hls ?_
  have Wk := Walks.list (prog := prog) (w := w) hh s.heap.objs.size ax hne vs.toArray
  have hnew := next_is_new F
  have hlen : vs.toArray.size = vs.length := by simp
  rw [hlen] at Wk
  refine ⟨_, _, _, vs.length, _, _, m₀, news, (fun i m nx => (ax, W.listOf vs.toArray nn) ∈ nx ∧ J i m nx), rfl, Wk, ?_, ?_, ?_, ⟨⟨_, Heap.get?_push_size _ rfl, rfl, rfl⟩, hls.at fun o e => Heap.get?_push_of_some _ e⟩, F.push _, (fun p hp => ⟨Heap.get?_push_of_some _ (N p hp).1, (N p hp).2⟩), ⟨hl, hj⟩, ?_, ?_⟩
  · intro hmm
    rcases List.mem_cons.mp hmm with e | hmm
    · exact absurd F.ns.lt (e ▸ Nat.lt_irrefl _)
    · exact hax.2.1 (List.mem_singleton.mp hmm).symm
  · intro b hb
    rw [List.mem_singleton.mp hb]
    exact hnew
  · intro p hp hI
    exact absurd (Heap.lt_size (N p hp).1) ((List.mem_singleton.mp hI) ▸ Nat.lt_irrefl _)
  · rintro i v m₁ news₁ s₁ own ⟨hh', tk', rfl⟩ hin hP ⟨hmem₁, hJ⟩ hoff hown hget hall hst F₁ N₁
    obtain ⟨it, hit, hic, hid⟩ := hst.1
    have hmemI := hall s.heap.objs.size (List.mem_cons_self ..) hnew _ hit
    have hv : vs[i]? = some v := by simpa using hP
    have N₂ : News h₀ env.locals hh' (news₁ ++ [(s.heap.objs.size, it)]) := fun p hp => by
      rcases List.mem_append.mp hp with hp | hp
      · exact N₁ _ (List.mem_append_right _ hp)
      · rw [List.mem_singleton.mp hp]; exact N₁ _ (List.mem_append_left _ hmemI)
    refine wpAny_mono (turn i v m₁ news₁ hh' tk' [(s.heap.objs.size, it)] hv hJ hmem₁ (fun p hp => by rw [List.mem_singleton.mp hp]; exact hic) (fun p hp q hq e => hoff p hp (by rw [← e, List.mem_singleton.mp hq]; exact .head _)) F₁ N₂) (fun f s₂ p => ?_) fun _ _ e => e
    have fin : TEnd "list_iterator" h₀ env.locals (fun m' nx => (ax, W.listOf vs.toArray nn) ∈ nx ∧ J (i + 1) m' nx) [(s.heap.objs.size, it)] { s with heap := hh', toks := tk' } s₂ →
        LoopStepU h₀ env.locals [s.heap.objs.size] own (fun m nx => (ax, W.listOf vs.toArray nn) ∈ nx ∧ J (i + 1) m nx) { s with heap := hh', toks := tk' } .next s₂ := by
      rintro ⟨h', tk, m', news', nx, e, F', N', hn, ho, hc, hmm, r⟩
      have hI' := N' _ (ho _ (.head _))
      refine ⟨rfl, h', tk, m', nx, e, F', fun p hp => ?_, fun p hp hI => ?_, hmm, r⟩
      · rcases List.mem_append.mp hp with hp | hp
        · have h2 : hh'.get? p.1 = some p.2 := hget p hp
          rcases List.mem_cons.mp (hown p hp) with h1 | h1
          · have h3 : p = (s.heap.objs.size, it) := by
              rw [h1, hit] at h2
              exact Prod.ext h1 (Option.some.inj h2).symm
            rw [h3]; exact hI'
          · have h1' : p.1 = ax := List.mem_singleton.mp h1
            have h3 : p = (ax, W.listOf vs.toArray nn) := by
              rw [h1', (N₁ _ (List.mem_append_right _ hmem₁)).1] at h2
              exact Prod.ext h1' (Option.some.inj h2).symm
            rw [h3]; exact N' _ (hn _ hmm)
        · exact N' _ (hn _ hp)
      · have h2 := (N' _ (hn p hp)).1
        rw [List.mem_singleton.mp hI] at h2
        have h3 : it = p.2 := Option.some.inj (hI'.1.symm.trans h2)
        rcases hc p hp with hc | hc
        · exact hc (h3 ▸ hic)
        · exact hc _ (.head _) (List.mem_singleton.mp hI).symm
    cases f with
    | ret v => exact .ret p
    | brk => exact .brk p
    | next => exact .next (fin p)
    | cont => exact .cont (fin p)
  · rintro h' tk m' news' F' N' _ ⟨_, hJ⟩
    exact done m' news' h' tk hJ F' N'
end
/-- a function of names, two of them said -/
abbrev set2 (a b : Str) (u v : Option Value) (m : Str → Option Value) : Str → Option Value := fun y => if y = a then u else if y = b then v else m y
theorem set2_self (a b : Str) (m : Str → Option Value) : m = set2 a b (m a) (m b) m := by
  funext y
  simp only [set2]
  split
  · rename_i h; rw [h]
  · split
    · rename_i h; rw [h]
    · rfl
theorem set2_turn {a b : Str} {I N iv N0 : Option Value} {m₀ : Str → Option Value} (hab : b ≠ a) : (fun y => if y = b then N else if y = a then I else set2 a b iv N0 m₀ y) = set2 a b I N m₀ := by
  funext y
  simp only [set2]
  by_cases h1 : y = b
  · rw [if_pos h1, if_neg (by rw [h1]; exact hab), if_pos h1]
  · rw [if_neg h1]
    by_cases h2 : y = a
    · rw [if_pos h2, if_pos h2]
    · simp only [h1, h2, if_false]

/-! intolaw -/
/-- how many octets, and is it signed -/
def szV (k : Int) : Int := if k = 2 ∨ k = 5 ∨ k = 6 then 2 else if k = 3 ∨ k = 4 then 1 else if k = 7 ∨ k = 8 then 4 else 8
def sgV (k : Int) : Int := if k = 3 ∨ k = 5 ∨ k = 7 ∨ k = 9 then 1 else 0
def dv (n : Int) : Nat → Int
  | 0 => n
  | i + 1 => (dv n i).fdiv 256
def limbs (n : Int) : Nat → List Int
  | 0 => []
  | i + 1 => limbs n i ++ [(dv n i).fmod 256]
theorem limbs_len (n : Int) : ∀ i, (limbs n i).length = i
  | 0 => rfl
  | i + 1 => by rw [limbs, List.length_append, limbs_len n i]; rfl
def hor (ls : List Int) : Int := ls.foldl (fun o p => o * 256 + p) 0
theorem hor_snoc {ls : List Int} {i : Nat} {p : Int} (h : ls[i]? = some p) : hor (ls.take (i + 1)) = hor (ls.take i) * 256 + p := by
  unfold hor
  rw [List.take_add_one, h]
  simp
theorem hor_from (ls : List Int) : ∀ a : Int, ls.foldl (fun o p => o * 256 + p) a = a * 256 ^ ls.length + hor ls := by
  induction ls with
  | nil => intro a; simp [hor]
  | cons p r ih =>
    intro a
    have h1 := ih (a * 256 + p)
    have h2 := ih (0 * 256 + p)
    unfold hor
    rw [List.foldl_cons, List.foldl_cons, h1, h2, List.length_cons, Int.pow_succ, Int.add_mul, Int.mul_assoc, Int.mul_comm 256, Int.zero_mul, Int.zero_add]
    omega
theorem hor_cons (p : Int) (r : List Int) : hor (p :: r) = p * 256 ^ r.length + hor r := by
  unfold hor
  rw [List.foldl_cons, hor_from r (0 * 256 + p), Int.zero_mul, Int.zero_add]
  rfl
/-- the low octets as one number -/
theorem hor_limbs (n : Int) : ∀ m : Nat, n = dv n m * 256 ^ m + hor (limbs n m).reverse ∧ 0 ≤ hor (limbs n m).reverse ∧ hor (limbs n m).reverse < 256 ^ m
  | 0 => by simp [dv, limbs, hor]
  | m + 1 => by
    obtain ⟨h1, h2, h3⟩ := hor_limbs n m
    have e : hor (limbs n (m + 1)).reverse = (dv n m).fmod 256 * 256 ^ m + hor (limbs n m).reverse := by
      rw [limbs, List.reverse_append, List.reverse_singleton, List.singleton_append, hor_cons, List.length_reverse, limbs_len]
    have h4 : dv n m = 256 * (dv n m).fdiv 256 + (dv n m).fmod 256 := (Int.mul_fdiv_add_fmod (dv n m) 256).symm
    have h5 : 0 ≤ (dv n m).fmod 256 := Int.fmod_nonneg_of_pos _ (by decide)
    have h6 : (dv n m).fmod 256 < 256 := Int.fmod_lt_of_pos _ (by decide)
    have hp : (0 : Int) < 256 ^ m := Int.pow_pos (by decide)
    rw [e, dv, Int.pow_succ]
    refine ⟨?_, ?_, ?_⟩
    · have h7 : dv n m * 256 ^ m = (dv n m).fdiv 256 * (256 ^ m * 256) + (dv n m).fmod 256 * 256 ^ m := by
        conv => lhs; rw [h4]
        rw [Int.add_mul, Int.mul_comm 256 ((dv n m).fdiv 256), Int.mul_assoc, Int.mul_comm 256 (256 ^ m)]
      omega
    · have := Int.mul_nonneg h5 (Int.le_of_lt hp)
      omega
    · have h8 : (dv n m).fmod 256 * 256 ^ m ≤ 255 * 256 ^ m := Int.mul_le_mul_of_nonneg_right (by omega) (Int.le_of_lt hp)
      omega
/-- the highest octet and what lies below it -/
theorem hor_top (n : Int) (m : Nat) : hor (limbs n (m + 1)).reverse = (limbs n (m + 1)).getD m 0 * 256 ^ m + hor (limbs n m).reverse := by
  have hl := limbs_len n m
  rw [limbs, List.reverse_append, List.reverse_singleton, List.singleton_append, hor_cons, List.length_reverse, hl]
  congr 2
  simp [List.getD, hl]
theorem hor_set (n x : Int) (m : Nat) : hor ((limbs n (m + 1)).set m x).reverse = x * 256 ^ m + hor (limbs n m).reverse := by
  have hl := limbs_len n m
  have e : (limbs n (m + 1)).set m x = limbs n m ++ [x] := by
    rw [limbs]
    apply List.ext_getElem
    · simp
    · intro i h1 h2
      simp only [List.getElem_set, List.getElem_append, hl, List.getElem_singleton]
      split
      · rename_i h; subst h; simp
      · rename_i h
        simp only [List.length_set, List.length_append, hl, List.length_cons, List.length_nil] at h1
        have : i < m := by omega
        simp [this]
  rw [e, List.reverse_append, List.reverse_singleton, List.singleton_append, hor_cons, List.length_reverse, hl]
theorem szV_bounds {k : Int} (hk : 2 ≤ k ∧ k ≤ 10) : 1 ≤ (szV k).toNat ∧ (szV k).toNat ≤ 8 := by
  rcases kinds hk with rfl | rfl | rfl | rfl | rfl | rfl | rfl | rfl | rfl <;> decide
theorem szV_range {k : Int} (hk : 2 ≤ k ∧ k ≤ 10) : Builtin.Range.rangeSize 0 (szV k) 1 = ((szV k).toNat : Int) ∧ Builtin.Range.small 0 (szV k) 1 = true := by
  rcases kinds hk with rfl | rfl | rfl | rfl | rfl | rfl | rfl | rfl | rfl <;> exact ⟨by rfl, by rfl⟩
theorem sg1 {n r T L : Int} (e : n % 256 = r) (t : r = T * 1 + L) (hT : T ≤ 127) (h1 : L < 1) : r = -128 + (n + 128) % 256 := by omega
theorem st1 {n r T L : Int} (e : n % 256 = r) (t : r = T * 1 + L) (hT : 127 < T) (h0 : 0 ≤ L) : (T - 256) * 1 + L = -128 + (n + 128) % 256 := by omega
theorem sg2 {n r T L : Int} (e : n % 65536 = r) (t : r = T * 256 + L) (hT : T ≤ 127) (h1 : L < 256) : r = -32768 + (n + 32768) % 65536 := by omega
theorem st2 {n r T L : Int} (e : n % 65536 = r) (t : r = T * 256 + L) (hT : 127 < T) (h0 : 0 ≤ L) : (T - 256) * 256 + L = -32768 + (n + 32768) % 65536 := by omega
theorem sg4 {n r T L : Int} (e : n % 4294967296 = r) (t : r = T * 16777216 + L) (hT : T ≤ 127) (h1 : L < 16777216) : r = -2147483648 + (n + 2147483648) % 4294967296 := by omega
theorem st4 {n r T L : Int} (e : n % 4294967296 = r) (t : r = T * 16777216 + L) (hT : 127 < T) (h0 : 0 ≤ L) : (T - 256) * 16777216 + L = -2147483648 + (n + 2147483648) % 4294967296 := by omega
theorem sg8 {n r T L : Int} (e : n % 18446744073709551616 = r) (t : r = T * 72057594037927936 + L) (hT : T ≤ 127) (h1 : L < 72057594037927936) : r = -9223372036854775808 + (n + 9223372036854775808) % 18446744073709551616 := by omega
theorem st8 {n r T L : Int} (e : n % 18446744073709551616 = r) (t : r = T * 72057594037927936 + L) (hT : 127 < T) (h0 : 0 ≤ L) : (T - 256) * 72057594037927936 + L = -9223372036854775808 + (n + 9223372036854775808) % 18446744073709551616 := by omega
theorem cuts (n : Int) : cutV 2 n = n % 65536 ∧ cutV 3 n = -128 + (n + 128) % 256 ∧ cutV 4 n = n % 256 ∧ cutV 5 n = -32768 + (n + 32768) % 65536 ∧ cutV 6 n = n % 65536 ∧ cutV 7 n = -2147483648 + (n + 2147483648) % 4294967296 ∧ cutV 8 n = n % 4294967296 ∧ cutV 9 n = -9223372036854775808 + (n + 9223372036854775808) % 18446744073709551616 ∧ cutV 10 n = n % 18446744073709551616 := by
  simp [cutV, lo, hi]
theorem into_plain {k : Int} (hk : 2 ≤ k ∧ k ≤ 10) (n : Int) (h : sgV k = 0 ∨ (limbs n (szV k).toNat).getD ((szV k).toNat - 1) 0 ≤ 127) : hor (limbs n (szV k).toNat).reverse = cutV k n := by
  have b7 := hor_limbs n 7
  have b8 := hor_limbs n 8
  have b3 := hor_limbs n 3
  have b4 := hor_limbs n 4
  have b1 := hor_limbs n 1
  have b2 := hor_limbs n 2
  have b0 := hor_limbs n 0
  have t8 := hor_top n 7
  have t4 := hor_top n 3
  have t2 := hor_top n 1
  have t1 := hor_top n 0
  simp only [Nat.reduceAdd, Int.reducePow] at *
  have key : ∀ W : Int, 0 < W → ∀ a r : Int, n = a * W + r → 0 ≤ r → r < W → n % W = r := by
    intro W hW a r h0 h1 h2
    rw [h0, Int.add_comm, Int.add_mul_emod_self_right, Int.emod_eq_of_lt h1 h2]
  have e8 := key _ (by decide) _ _ b8.1 b8.2.1 b8.2.2
  have e4 := key _ (by decide) _ _ b4.1 b4.2.1 b4.2.2
  have e2 := key _ (by decide) _ _ b2.1 b2.2.1 b2.2.2
  have e1 := key _ (by decide) _ _ b1.1 b1.2.1 b1.2.2
  obtain ⟨c2, c3, c4, c5, c6, c7, c8, c9, c10⟩ := cuts n
  rcases kinds hk with rfl | rfl | rfl | rfl | rfl | rfl | rfl | rfl | rfl
  · show hor (limbs n 2).reverse = _; rw [c2]; exact e2.symm
  · show hor (limbs n 1).reverse = _; have h' : (limbs n 1).getD 0 0 ≤ 127 := h.resolve_left (by decide); rw [c3]; exact sg1 e1 t1 h' b0.2.2
  · show hor (limbs n 1).reverse = _; rw [c4]; exact e1.symm
  · show hor (limbs n 2).reverse = _; have h' : (limbs n 2).getD 1 0 ≤ 127 := h.resolve_left (by decide); rw [c5]; exact sg2 e2 t2 h' b1.2.2
  · show hor (limbs n 2).reverse = _; rw [c6]; exact e2.symm
  · show hor (limbs n 4).reverse = _; have h' : (limbs n 4).getD 3 0 ≤ 127 := h.resolve_left (by decide); rw [c7]; exact sg4 e4 t4 h' b3.2.2
  · show hor (limbs n 4).reverse = _; rw [c8]; exact e4.symm
  · show hor (limbs n 8).reverse = _; have h' : (limbs n 8).getD 7 0 ≤ 127 := h.resolve_left (by decide); rw [c9]; exact sg8 e8 t8 h' b7.2.2
  · show hor (limbs n 8).reverse = _; rw [c10]; exact e8.symm
theorem into_turned {k : Int} (hk : 2 ≤ k ∧ k ≤ 10) (n : Int) (hs : sgV k ≠ 0) (h : 127 < (limbs n (szV k).toNat).getD ((szV k).toNat - 1) 0) : hor ((limbs n (szV k).toNat).set ((szV k).toNat - 1) ((limbs n (szV k).toNat).getD ((szV k).toNat - 1) 0 - 256)).reverse = cutV k n := by
  have b7 := hor_limbs n 7
  have b8 := hor_limbs n 8
  have b3 := hor_limbs n 3
  have b4 := hor_limbs n 4
  have b1 := hor_limbs n 1
  have b2 := hor_limbs n 2
  have b0 := hor_limbs n 0
  have t8 := hor_top n 7
  have t4 := hor_top n 3
  have t2 := hor_top n 1
  have t1 := hor_top n 0
  have s8 := fun x => hor_set n x 7
  have s4 := fun x => hor_set n x 3
  have s2 := fun x => hor_set n x 1
  have s1 := fun x => hor_set n x 0
  simp only [Nat.reduceAdd, Int.reducePow] at *
  have key : ∀ W : Int, 0 < W → ∀ a r : Int, n = a * W + r → 0 ≤ r → r < W → n % W = r := by
    intro W hW a r h0 h1 h2
    rw [h0, Int.add_comm, Int.add_mul_emod_self_right, Int.emod_eq_of_lt h1 h2]
  have e8 := key _ (by decide) _ _ b8.1 b8.2.1 b8.2.2
  have e4 := key _ (by decide) _ _ b4.1 b4.2.1 b4.2.2
  have e2 := key _ (by decide) _ _ b2.1 b2.2.1 b2.2.2
  have e1 := key _ (by decide) _ _ b1.1 b1.2.1 b1.2.2
  obtain ⟨c2, c3, c4, c5, c6, c7, c8, c9, c10⟩ := cuts n
  rcases kinds hk with rfl | rfl | rfl | rfl | rfl | rfl | rfl | rfl | rfl
  · exact absurd rfl hs
  · show hor ((limbs n 1).set 0 ((limbs n 1).getD 0 0 - 256)).reverse = _; rw [s1]; have h' : 127 < (limbs n 1).getD 0 0 := h; rw [c3]; exact st1 e1 t1 h' b0.2.1
  · exact absurd rfl hs
  · show hor ((limbs n 2).set 1 ((limbs n 2).getD 1 0 - 256)).reverse = _; rw [s2]; have h' : 127 < (limbs n 2).getD 1 0 := h; rw [c5]; exact st2 e2 t2 h' b1.2.1
  · exact absurd rfl hs
  · show hor ((limbs n 4).set 3 ((limbs n 4).getD 3 0 - 256)).reverse = _; rw [s4]; have h' : 127 < (limbs n 4).getD 3 0 := h; rw [c7]; exact st4 e4 t4 h' b3.2.1
  · exact absurd rfl hs
  · show hor ((limbs n 8).set 7 ((limbs n 8).getD 7 0 - 256)).reverse = _; rw [s8]; have h' : 127 < (limbs n 8).getD 7 0 := h; rw [c9]; exact st8 e8 t8 h' b7.2.1
  · exact absurd rfl hs

/-! into -/
theorem into_tail {prog : Program} {w : World} {A : Around} {Q E : Value → Shared → Prop} {s : Shared} {h₀ : Heap} {L d : Addr} {news : Led} {o : Obj} {kvs : List (Int × Value)} {value slice : PySem.Expr} {k : Int} {t : Tok} (N : News h₀ L s.heap news) (hp : (d, o) ∈ news) (hd : o.IsDictOf (intKind prog w) kvs)
    (hall : ∃ a t1 t2 c, valueAt kvs k = some (.ref a) ∧ (a, tupO [.int (szV k) t1, .int (sgV k) t2] c) ∈ news)
    (h : ∀ a t1 t2 c, (a, tupO [.int (szV k) t1, .int (sgV k) t2] c) ∈ news → Q (.ref a) { s with toks := s.toks + 1 })
    (hs : subscripted slice false (.ref d) (.int k t) = operate [.ref d, .int k t] (getItem (.ref d) (.int k t)) := by with_unfolding_all rfl) :
    wpAny (model prog w) A (subscriptTail value slice (.ref d) (.int k t)) Q E s := by
  obtain ⟨a, t1, t2, c, hv, hm⟩ := hall
  exact kdt_tail N hp hd (kdt_getItem N hp hd (intKind_is _ _ _ _) hv (h a t1 t2 c hm)) hs
def Mark (_ : Led) : Prop := True
theorem own_off {h₀ h : Heap} {L l : Addr} {o : Obj} {all own : Led} {ic : String} (N : News h₀ L h all) (hl : (l, o) ∈ all) (ho : ∀ p ∈ own, p ∈ all) (hc : ∀ p ∈ own, p.2.cls = .type ic) (hn : o.cls ≠ .type ic) : ∀ p ∈ own, p.1 ≠ l := by
  intro p hp e
  have h1 := (N _ (ho p hp)).1
  have h2 := (N _ hl).1
  rw [e] at h1
  have h3 : o = p.2 := Option.some.inj (h2.symm.trans h1)
  exact hn (h3 ▸ hc p hp)
section
variable {prog : Program} {w : World} {A : Around} {E : Value → Shared → Prop} {s : Shared} {env : Env} {h₀ : Heap} {body : List Stmt} {Q : Flow → Shared → Prop}
/-- what holds after i turns of the first loop -/
def Into1 (l : Addr) (n : Int) (m₀ : Str → Option Value) (news : Led) (i : Nat) (m' : Str → Option Value) (nx : Led) : Prop :=
  ∃ iv tn vs c, m' = set2 (Str.ofString "i") (Str.ofString "n") iv (some (.int (dv n i) tn)) m₀ ∧ nx = (l, W.listOf vs.toArray c) :: news ∧ IntsAre vs (limbs n i)
theorem into_loop1 {r l : Addr} {b₀ n : Int} {t₀ u₀ v₀ t : Tok} {sz : Nat} {m₀ : Str → Option Value} {tab news : Led} (_M : Mark news)
    (hh : A.handled = none) (hr : IsRange s.heap r 0 b₀ 1 t₀ u₀ v₀) (hsz : Builtin.Range.rangeSize 0 b₀ 1 = (sz : Int) ∧ Builtin.Range.small 0 b₀ 1 = true) (hb : 1 ≤ sz ∧ sz ≤ 8) (F : Fr h₀ env.locals s.heap m₀) (N : News h₀ env.locals s.heap ((l, W.listOf [].toArray 0) :: tab))
    (hs : ∀ p ∈ news, p ∈ tab) (hl : AllLt l news) (hn : m₀ (Str.ofString "n") = some (.int n t))
    (turn : ∀ i t iv vs c tn h tk own, IntsAre vs (limbs n i) → vs.length ≤ sizeLine → (∀ p ∈ news ++ own, p.1 ≠ l) → (∀ p ∈ (l, W.listOf vs.toArray c) :: news, ∀ q ∈ own, q.1 ≠ p.1) →
      Fr h₀ env.locals h (fun y => if y = Str.ofString "i" then some (.int (0 + (i : Int)) t) else set2 (Str.ofString "i") (Str.ofString "n") iv (some (.int (dv n i) tn)) m₀ y) →
      News h₀ env.locals h ((l, W.listOf vs.toArray c) :: (news ++ own)) →
      wpAny (model prog w) A (execs body env) (TPost "range_iterator" h₀ env.locals (Into1 l n m₀ news (i + 1)) own { s with heap := h, toks := tk } Q) E { s with heap := h, toks := tk })
    (done : ∀ iv vs c tn ls h tk, ls = limbs n sz → 1 ≤ ls.length → ls.length ≤ 8 → IntsAre vs ls → (∀ p ∈ news, p.1 ≠ l) → Fr h₀ env.locals h (set2 (Str.ofString "i") (Str.ofString "n") iv (some (.int (dv n sz) tn)) m₀) → News h₀ env.locals h ((l, W.listOf vs.toArray c) :: news) → Q .next { s with heap := h, toks := tk }) :
    wpAny (model prog w) A (pyIter (.ref r)) (fun it s₂ => LoopAtV prog w A h₀ env (Str.ofString "i") body Q E it s₂) E s := by
  have hln : ∀ p ∈ news, p.1 ≠ l := fun p hp => Nat.ne_of_lt (ktn_ltOf hl p hp)
  refine rngLoop (Into1 l n m₀ news) hh hr hsz.2 hsz.1 F (weak N (b := (l, W.listOf [].toArray 0) :: news) fun p hp => ?_) ⟨m₀ (Str.ofString "i"), t, [], 0, ?_, rfl, .nil⟩ ?_ ?_
  · rcases List.mem_cons.mp hp with rfl | hp
    · exact .head _
    · exact .tail _ (hs p hp)
  · have e := set2_self (Str.ofString "i") (Str.ofString "n") m₀
    rw [hn] at e
    exact e
  · rintro i ti m₁ nx h tk own hi ⟨iv, tn, vs, c, rfl, rfl, hI⟩ hcl hO F₁ N₁
    have hoff : ∀ p ∈ own, p.1 ≠ l := own_off N₁ (.head _) (fun p hp => List.mem_append_right _ hp) hcl (by show Value.type "list" ≠ Value.type "range_iterator"; decide)
    exact turn i ti iv vs c tn h tk own hI (by rw [hI.length, limbs_len, PySem.sizeLine_eq]; omega) (fun p hp => (List.mem_append.mp hp).elim (hln p) (hoff p)) hO F₁ N₁
  · rintro m₁ nx h tk ⟨iv, tn, vs, c, rfl, rfl, hI⟩ F₁ N₁
    exact done iv vs c tn _ h tk rfl (by rw [limbs_len]; exact hb.1) (by rw [limbs_len]; exact hb.2) hI hln F₁ N₁
theorem into_end1 {l : Addr} {n : Int} {t tx : Tok} {c i : Nat} {vs : List Value} {m₀ m' : Str → Option Value} {news own : Led} {h' : Heap} {tk' : Nat} (F : Fr h₀ env.locals h' m') (N : News h₀ env.locals h' ((l, W.listOf (vs.toArray.push (.int ((dv n i).fmod 256) tx)) (c + 1)) :: (news ++ own)))
    (hI : IntsAre vs (limbs n i)) (hO : ∀ p ∈ (l, W.listOf vs.toArray c) :: news, ∀ q ∈ own, q.1 ≠ p.1) (iv : Option Value) (hm : m' = set2 (Str.ofString "i") (Str.ofString "n") iv (some (.int ((dv n i).fdiv 256) t)) m₀) :
    TPost "range_iterator" h₀ env.locals (Into1 l n m₀ news (i + 1)) own s Q .next { s with heap := h', toks := tk' } := by
  refine ⟨h', tk', m', _, (l, W.listOf (vs ++ [Value.int ((dv n i).fmod 256) tx]).toArray (c + 1)) :: news, rfl, F, N, ?_, ?_, ?_, iv, t, _, c + 1, hm, rfl, IntsAre.append hI (.cons _ _ .nil)⟩
  · intro p hp
    rcases List.mem_cons.mp hp with rfl | hp
    · rw [List.push_toArray]; exact .head _
    · exact .tail _ (List.mem_append_left _ hp)
  · exact fun p hp => .tail _ (List.mem_append_right _ hp)
  · intro p hp
    rcases List.mem_cons.mp hp with rfl | hp
    · exact .inr (hO (l, W.listOf vs.toArray c) (.head _))
    · exact .inr (hO p (.tail _ hp))
theorem into_get {Q : Value → Shared → Prop} {L l : Addr} {led : Led} {vs : List Value} {c : Nat} {ls : List Int} {u : Tok} (N : News h₀ L s.heap led) (hm : (l, W.listOf vs.toArray c) ∈ led) (hI : IntsAre vs ls) (h1 : 1 ≤ ls.length)
    (h : ∀ t, Q (.int (ls.getD (ls.length - 1) 0) t) s) : wpAny (model prog w) A (getItem (.ref l) (.int (-1) u)) Q E s := by
  have hl := isL N hm
  have hsz : vs.toArray.size = ls.length := by simp [hI.length]
  obtain ⟨t, hx⟩ := hI.get (ls.length - 1) (ls.getD (ls.length - 1) 0) (by simp only [List.getD]; rw [List.getElem?_eq_getElem (by omega)]; rfl)
  refine wpAny_getItem_list_neg hl (by omega) (by rw [hsz]; omega) (by omega) ?_ (h t)
  have e : ((-1 : Int) + (vs.toArray.size : Int)).toNat = ls.length - 1 := by rw [hsz]; omega
  rw [e]
  simpa using hx
theorem into_neg {Q : Value → Shared → Prop} {L l : Addr} {led : Led} {vs : List Value} {c : Nat} {ls : List Int} {u : Tok} {value slice : PySem.Expr} (N : News h₀ L s.heap led) (hm : (l, W.listOf vs.toArray c) ∈ led) (hI : IntsAre vs ls) (h1 : 1 ≤ ls.length)
    (h : ∀ t, Q (.int (ls.getD (ls.length - 1) 0) t) s) (hs : subscripted slice false (.ref l) (.int (-1) u) = operate [.ref l, .int (-1) u] (getItem (.ref l) (.int (-1) u)) := by with_unfolding_all rfl) : wpAny (model prog w) A (subscriptTail value slice (.ref l) (.int (-1) u)) Q E s :=
  tail_any (isL N hm).typeIs slot_list_getitem.lookup (into_get N hm hI h1 h) hs
theorem into_set {Q : Unit → Shared → Prop} {L l : Addr} {m : Str → Option Value} {rest : Led} {vs : List Value} {c : Nat} {ls : List Int} {x : Int} {t u : Tok} (F : Fr h₀ L s.heap m) (N : News h₀ L s.heap ((l, W.listOf vs.toArray c) :: rest)) (ho : ∀ p ∈ rest, p.1 ≠ l) (hI : IntsAre vs ls) (h1 : 1 ≤ ls.length)
    (h : ∀ h' vs' ls', ls' = ls.set (ls.length - 1) x → ls'.length = ls.length → Fr h₀ L h' m → News h₀ L h' ((l, W.listOf vs'.toArray c) :: rest) → IntsAre vs' ls' → Q () { s with heap := h' }) :
    wpAny (model prog w) A (setItem (.ref l) (.int (-1) t) (.int x u)) Q E s := by
  have z := N _ (List.Mem.head _)
  have hsz : vs.toArray.size = ls.length := by simp [hI.length]
  have e : ((-1 : Int) + (vs.toArray.size : Int)).toNat = ls.length - 1 := by rw [hsz]; omega
  refine ki_setBack z.1 (by omega) (by rw [hsz]; omega) (by omega) ?_
  rw [e]
  refine h _ (vs.set (ls.length - 1) (.int x u)) _ rfl (List.length_set ..) (F.change (Heap.SameBut.update ..) z.2.1 z.2.2) ?_ (ints_set hI _)
  have q := ki_turn (pre := []) (post := rest) (its := vs.toArray) (its' := (vs.set (ls.length - 1) (.int x u)).toArray) (n' := c) (fun xs => xs.setIfInBounds (ls.length - 1) (.int x u)) (by simpa using N) (fun _ hp => nomatch hp) ho
    (by apply Array.toList_inj.mp; simp) (by simp)
  simpa using q
def Into2 (l : Addr) (c : Nat) (ls : List Int) (vs : List Value) (m₀ : Str → Option Value) (news : Led) (i : Nat) (m' : Str → Option Value) (nx : Led) : Prop :=
  ∃ pv tn, m' = set2 (Str.ofString "part") (Str.ofString "out") pv (some (.int (hor (ls.take i)) tn)) m₀ ∧ nx = (l, W.listOf vs.toArray c) :: news
theorem into_loop2 {l : Addr} {c : Nat} {ls : List Int} {vs : List Value} {t : Tok} {m₀ : Str → Option Value} {news tab : Led} (_M : Mark news)
    (hh : A.handled = none) (F : Fr h₀ env.locals s.heap m₀) (N : News h₀ env.locals s.heap ((l, W.listOf vs.toArray c) :: tab)) (hs : ∀ p ∈ news, p ∈ tab) (hI : IntsAre vs ls) (hn : m₀ (Str.ofString "out") = some (.int 0 t))
    (turn : ∀ i p tp pv tn h tk own, ls[i]? = some p → (∀ p ∈ (l, W.listOf vs.toArray c) :: news, ∀ q ∈ own, q.1 ≠ p.1) →
      Fr h₀ env.locals h (fun y => if y = Str.ofString "part" then some (.int p tp) else set2 (Str.ofString "part") (Str.ofString "out") pv (some (.int (hor (ls.take i)) tn)) m₀ y) →
      News h₀ env.locals h ((l, W.listOf vs.toArray c) :: (news ++ own)) →
      wpAny (model prog w) A (execs body env) (TPost "list_iterator" h₀ env.locals (fun m' nx => (l, W.listOf vs.toArray c) ∈ nx ∧ Into2 l c ls vs m₀ news (i + 1) m' nx) own { s with heap := h, toks := tk } Q) E { s with heap := h, toks := tk })
    (done : ∀ pv tn h tk, Fr h₀ env.locals h (set2 (Str.ofString "part") (Str.ofString "out") pv (some (.int (hor ls) tn)) m₀) → News h₀ env.locals h news → Q .next { s with heap := h, toks := tk }) :
    wpAny (model prog w) A (pyIter (.ref l)) (fun it s₂ => LoopAtV prog w A h₀ env (Str.ofString "part") body Q E it s₂) E s := by
  refine lstLoop (Into2 l c ls vs m₀ news) hh (List.Mem.head _) F (weak N (b := (l, W.listOf vs.toArray c) :: news) fun p hp => ?_) ⟨m₀ (Str.ofString "part"), t, ?_, rfl⟩ ?_ ?_
  · rcases List.mem_cons.mp hp with rfl | hp
    · exact .head _
    · exact .tail _ (hs p hp)
  · have e := set2_self (Str.ofString "part") (Str.ofString "out") m₀
    rw [hn] at e
    exact e
  · rintro i v m₁ nx h tk own hv ⟨pv, tn, rfl, rfl⟩ _ hcl hO F₁ N₁
    have hi : i < ls.length := by rw [← hI.length]; exact (List.getElem?_eq_some_iff.mp hv).1
    obtain ⟨tp, hx⟩ := hI.get i (ls[i]'hi) (List.getElem?_eq_getElem hi)
    have ev : v = .int (ls[i]'hi) tp := by rw [hx] at hv; exact (Option.some.inj hv).symm
    subst ev
    exact turn i _ tp pv tn h tk own (List.getElem?_eq_getElem hi) hO F₁ N₁
  · rintro m₁ nx h tk ⟨pv, tn, rfl, rfl⟩ F₁ N₁
    rw [hI.length, List.take_length] at F₁
    exact done pv tn h tk F₁ fun p hp => N₁ p (.tail _ hp)
theorem into_end2 {l : Addr} {c i : Nat} {ls : List Int} {vs : List Value} {p : Int} {t : Tok} {m₀ m' : Str → Option Value} {news own : Led} {h' : Heap} {tk' : Nat} (F : Fr h₀ env.locals h' m') (N : News h₀ env.locals h' ((l, W.listOf vs.toArray c) :: (news ++ own))) (hp : ls[i]? = some p)
    (hO : ∀ p ∈ (l, W.listOf vs.toArray c) :: news, ∀ q ∈ own, q.1 ≠ p.1) (pv : Option Value) (hm : m' = set2 (Str.ofString "part") (Str.ofString "out") pv (some (.int (hor (ls.take i) * 256 + p) t)) m₀) :
    TPost "list_iterator" h₀ env.locals (fun m' nx => (l, W.listOf vs.toArray c) ∈ nx ∧ Into2 l c ls vs m₀ news (i + 1) m' nx) own s Q .next { s with heap := h', toks := tk' } := by
  refine ⟨h', tk', m', _, (l, W.listOf vs.toArray c) :: news, rfl, F, N, ?_, ?_, fun p hp => .inr (hO p hp), .head _, pv, t, ?_, rfl⟩
  · intro p hp
    rcases List.mem_cons.mp hp with rfl | hp
    · exact .head _
    · exact .tail _ (List.mem_append_left _ hp)
  · exact fun p hp => .tail _ (List.mem_append_right _ hp)
  · rw [hm, hor_snoc hp]
end
theorem into_fin {k n : Int} {ls : List Int} (hk : 2 ≤ k ∧ k ≤ 10) (hls : ls = limbs n (szV k).toNat) (h : sgV k = 0 ∨ ls.getD (ls.length - 1) 0 ≤ 127) : hor ls.reverse = cutV k n := by
  subst hls
  rw [limbs_len] at h
  exact into_plain hk n h
theorem into_fin2 {k n : Int} {ls ls' : List Int} (hk : 2 ≤ k ∧ k ≤ 10) (hls : ls = limbs n (szV k).toNat) (hs : sgV k ≠ 0) (h : 127 < ls.getD (ls.length - 1) 0) (hls' : ls' = ls.set (ls.length - 1) (ls.getD (ls.length - 1) 0 - 256)) : hor ls'.reverse = cutV k n := by
  subst hls'
  subst hls
  rw [limbs_len] at h ⊢
  exact into_turned hk n hs h
section
local macro_rules | `(tactic| k_all) => `(tactic| assumption)
local macro_rules | `(tactic| k_all) => `(tactic| exact fun p hp => Nat.ne_of_lt ((by assumption : ∀ p ∈ _, p.1 < _) p hp))
theorem reg_10 : True := by
  k_with_none
  k_with "my subscriptTail Name Constant ref int" => ((k_here; k_dflt (refine' item_tupleT ?z0T ?z0a ?z0b ?z0j ?z0x ?_ ?z0s; (case z0T => exact isT (by k_asm) (by k_mem)); (case z0a => decide); (case z0b => decide); (case z0j => exact rfl); (case z0x => exact rfl); (case z0s => with_unfolding_all rfl); k_whole)))
  k_with "my subscriptTail Subscript Constant ref int" => ((k_here; k_dflt (refine' item_tupleT ?z1T ?z1a ?z1b ?z1j ?z1x ?_ ?z1s; (case z1T => exact isT (by k_asm) (by k_mem)); (case z1a => decide); (case z1b => decide); (case z1j => exact rfl); (case z1x => exact rfl); (case z1s => with_unfolding_all rfl); k_whole)))
  k_with "my eval Call" => ((k_here; first | k_compRoot | k_dflt (refine Call_ ?_)))
  k_with "my call ref" => ((k_here; (with_reducible show wpAny _ _ (call (Value.ref 65) _) _ _ _); k_dflt ((refine' Con.useR (c_int_range _ ?z5kp) (el_rng ?z5kX) ?z5k1 ?z5k2 ?z5k3 ?z5k4 ?z5k5 ?z5kK ?z5kd ?z5ku ?_; (case z5k1 => k_asm); (case z5k2 => k_asm); (case z5k3 => k_asm); (case z5k4 => k_asm); (case z5k5 => k_asm); (case z5kK => first | exact rfl | assumption);  (case z5kp => first | assumption | omega); (case z5kX => k_asm); (case z5kd => ktr_room); (case z5ku => ktr_units)); (intro a9 t1 t2 hK9 hT9 h9 tk9 F9 N9); (try dsimp only); (try k_fold))))
  k_with "my call ref" => ((k_here; (with_reducible show wpAny _ _ (call (Value.ref 87) _) _ _ _); k_dflt ((refine' Con.useR (c_in_range _ ?z6kp) el_eq ?z6k1 ?z6k2 ?z6k3 ?z6k4 ?z6k5 ?z6kK ?z6kd ?z6ku ?_; (case z6k1 => k_asm); (case z6k2 => k_asm); (case z6k3 => k_asm); (case z6k4 => k_asm); (case z6k5 => k_asm); (case z6kK => first | exact rfl | assumption);  (case z6kp => first | assumption | omega); (case z6kd => ktr_room); (case z6ku => ktr_units)); (intro  h9 tk9 F9 N9); (try dsimp only); (try k_fold))))
  k_with "my call ref" => ((k_here; (with_reducible show wpAny _ _ (call (Value.ref 80) _) _ _ _); k_dflt ((refine' Con.useR (c_cut _ ?z7kp) el_int ?z7k1 ?z7k2 ?z7k3 ?z7k4 ?z7k5 ?z7kK ?z7kd ?z7ku ?_; (case z7k1 => k_asm); (case z7k2 => k_asm); (case z7k3 => k_asm); (case z7k4 => k_asm); (case z7k5 => k_asm); (case z7kK => first | exact rfl | assumption);  (case z7kp => first | assumption | omega); (case z7kd => ktr_room); (case z7ku => ktr_units)); (intro t9 h9 tk9 F9 N9); (try dsimp only); (try k_fold))))
  k_with "my call ref" => ((k_here; (with_reducible show wpAny _ _ (call (Value.ref 129) _) _ _ _); k_dflt ((refine' Con.useR2 (c_whole _ ?z8kp ?z8kc) el_conv ?z8k1 ?z8k2 ?z8k3 ?z8k4 ?z8k5 ?z8kK ?z8kd ?z8ku ?_ ?_; (case z8k1 => k_asm); (case z8k2 => k_asm); (case z8k3 => k_asm); (case z8k4 => k_asm); (case z8k5 => k_asm); (case z8kK => first | exact rfl | assumption);  (case z8kp => first | assumption | omega); (case z8kc => first | assumption | omega); (case z8kd => ktr_room); (case z8ku => ktr_units)); (intro tl9 D9 t9 q9 tv9 hnd9 hm9 hok9 h9 tk9 F9 N9); (try dsimp only); (try k_fold); rotate_left; (intro tl9 D9 t9 q9 hnd9 hm9 hok9 h9 tk9 F9 N9); (try dsimp only); (try k_fold); rotate_left)))
  k_with "my call ref" => ((k_here; (with_reducible show wpAny _ _ (call (Value.ref 150) _) _ _ _); k_dflt ((refine' Con.useR2 (c_conv _ ?z9kp ?z9kc) el_conv ?z9k1 ?z9k2 ?z9k3 ?z9k4 ?z9k5 ?z9kK ?z9kd ?z9ku ?_ ?_; (case z9k1 => k_asm); (case z9k2 => k_asm); (case z9k3 => k_asm); (case z9k4 => k_asm); (case z9k5 => k_asm); (case z9kK => first | exact rfl | assumption);  (case z9kp => first | assumption | omega); (case z9kc => first | assumption | omega); (case z9kd => ktr_room); (case z9ku => ktr_units)); (intro tl9 D9 t9 q9 tv9 hnd9 hm9 hok9 h9 tk9 F9 N9); (try dsimp only); (try k_fold); rotate_left; (intro tl9 D9 t9 q9 hnd9 hm9 hok9 h9 tk9 F9 N9); (try dsimp only); (try k_fold); rotate_left)))
  k_with "my call ref" => ((k_here; (with_reducible show wpAny _ _ (call (Value.ref 164) _) _ _ _); k_dflt ((refine' Con.useR (c_numeric_no _ ?z10kp ?z10kc ?z10ke) el_eq ?z10k1 ?z10k2 ?z10k3 ?z10k4 ?z10k5 ?z10kK ?z10kd ?z10ku ?_; (case z10k1 => k_asm); (case z10k2 => k_asm); (case z10k3 => k_asm); (case z10k4 => k_asm); (case z10k5 => k_asm); (case z10kK => first | exact rfl | assumption);  (case z10kp => first | assumption | (refine' din_sub ?z10ds ?z10dh; (case z10dh => assumption); (case z10ds => tb_rel))); (case z10kc => assumption); (case z10ke => assumption); (case z10kd => ktr_room); (case z10ku => ktr_units)); (intro  h9 tk9 F9 N9); (try dsimp only); (try k_fold))))
  k_with "my call ref" => ((k_here; (with_reducible show wpAny _ _ (call (Value.ref 164) _) _ _ _); k_dflt ((refine' Con.useR (c_numeric _ ?z11kp ?z11kc) el_eq ?z11k1 ?z11k2 ?z11k3 ?z11k4 ?z11k5 ?z11kK ?z11kd ?z11ku ?_; (case z11k1 => k_asm); (case z11k2 => k_asm); (case z11k3 => k_asm); (case z11k4 => k_asm); (case z11k5 => k_asm); (case z11kK => first | exact rfl | assumption);  (case z11kp => first | assumption | (refine' din_sub ?z11ds ?z11dh; (case z11dh => assumption); (case z11ds => tb_rel))); (case z11kc => first | assumption | omega); (case z11kd => ktr_room); (case z11ku => ktr_units)); (intro  h9 tk9 F9 N9); (try dsimp only); (try k_fold))))
  k_with "my call ref" => ((k_here; (with_reducible show wpAny _ _ (call (Value.ref 248) _) _ _ _); k_dflt ((refine' Con.useR (c_under_still _ ?z14kp ?z14kc) el_eq ?z14k1 ?z14k2 ?z14k3 ?z14k4 ?z14k5 ?z14kK ?z14kd ?z14ku ?_; (case z14k1 => k_asm); (case z14k2 => k_asm); (case z14k3 => k_asm); (case z14k4 => k_asm); (case z14k5 => k_asm); (case z14kK => first | exact rfl | assumption);  (case z14kp => first | assumption | (refine' din_sub ?z14ds ?z14dh; (case z14dh => assumption); (case z14ds => tb_rel))); (case z14kc => assumption); (case z14kd => ktr_room); (case z14ku => ktr_units)); (intro  h9 tk9 F9 N9); (try dsimp only); (try k_fold))))
  k_with "my call ref" => ((k_here; (with_reducible show wpAny _ _ (call (Value.ref 248) _) _ _ _); k_dflt ((refine' Con.useR (c_under_num _ ?z15kp ?z15kc ?z15ka ?z15kb) el_made ?z15k1 ?z15k2 ?z15k3 ?z15k4 ?z15k5 ?z15kK ?z15kd ?z15ku ?_; (case z15k1 => k_asm); (case z15k2 => k_asm); (case z15k3 => k_asm); (case z15k4 => k_asm); (case z15k5 => k_asm); (case z15kK => first | exact rfl | assumption);  (case z15kp => first | assumption | (refine' din_sub ?z15ds ?z15dh; (case z15dh => assumption); (case z15ds => tb_rel))); (case z15kc => first | assumption | omega); (case z15ka => assumption); (case z15kb => first | assumption | omega); (case z15kd => ktr_room); (case z15ku => ktr_units)); (intro r9 tl9 hnd9 hD9 h9 tk9 F9 N9); (try dsimp only); (try k_fold))))
  k_with "my call ref" => ((k_here; (with_reducible show wpAny _ _ (call (Value.ref 213) _) _ _ _); k_dflt ((refine' Con.useR (c_fault_still _ ?z16kp ?z16kc) el_int ?z16k1 ?z16k2 ?z16k3 ?z16k4 ?z16k5 ?z16kK ?z16kd ?z16ku ?_; (case z16k1 => k_asm); (case z16k2 => k_asm); (case z16k3 => k_asm); (case z16k4 => k_asm); (case z16k5 => k_asm); (case z16kK => first | exact rfl | assumption);  (case z16kp => first | assumption | (refine' din_sub ?z16ds ?z16dh; (case z16dh => assumption); (case z16ds => tb_rel))); (case z16kc => assumption); (case z16kd => ktr_room); (case z16ku => ktr_units)); (intro t9 h9 tk9 F9 N9); (try dsimp only); (try k_fold))))
  k_with "my call ref" => ((k_here; (with_reducible show wpAny _ _ (call (Value.ref 213) _) _ _ _); k_dflt ((refine' Con.useR (c_fault_num _ ?z17kp ?z17kc ?z17ka ?z17kb) el_int ?z17k1 ?z17k2 ?z17k3 ?z17k4 ?z17k5 ?z17kK ?z17kd ?z17ku ?_; (case z17k1 => k_asm); (case z17k2 => k_asm); (case z17k3 => k_asm); (case z17k4 => k_asm); (case z17k5 => k_asm); (case z17kK => first | exact rfl | assumption);  (case z17kp => first | assumption | (refine' din_sub ?z17ds ?z17dh; (case z17dh => assumption); (case z17ds => tb_rel))); (case z17kc => first | assumption | omega); (case z17ka => assumption); (case z17kb => first | assumption | omega); (case z17kd => ktr_room); (case z17ku => ktr_units)); (intro t9 h9 tk9 F9 N9); (try dsimp only); (try k_fold))))
  k_with "my exec For Name Subscript cons nil" => ((k_here; (rename Fr _ _ _ _ => lF'); k_dflt ((with_unfolding_all refine' For_invVF lF' ?z18k1 ?z18k2 ?_; (case z18k1 => exact rfl); (case z18k2 => exact rfl); k_whole))))
  k_with "my eval Dict" => ((k_here; k_dflt ((refine' kdn_eval (knd := PySem.intKind _ _) ?z19F ?z19N ?z19b ?z19a ?z19l ?z19e ?z19n ?_; (case z19F => k_asm); (case z19N => k_asm); (case z19b => exact Top.nolimit (by k_asm)); (case z19a => rfl); (case z19l => rfl); (case z19e => exact List.cons_ne_nil _ _); (case z19n => exact Nat.le_of_ble_eq_true rfl)); intro d' h' o' F' N' l1 lo' hd')))
  k_with "my subscriptTail Name Name ref int" => ((k_here; k_dflt ((refine' into_tail ?z20N ?z20p ?z20d ?z20al ?_; (case z20N => k_asm); (case z20p => k_mem); (case z20d => k_asm); (case z20al => (rcases kinds (by assumption) with e | e | e | e | e | e | e | e | e <;> subst e <;> exact ⟨_, _, _, _, rfl, by k_mem⟩)); intro a9 t19 t29 c9 hm9))))
  k_with "my getItem ref int" => ((k_here; k_dflt ((refine' into_get ?z21N ?z21m ?z21i ?z21l ?_; (case z21N => k_asm); (case z21m => k_mem); (case z21i => assumption); (case z21l => assumption); k_whole); intro t9)))
  k_with "my subscriptTail Name UnaryOp ref int" => ((k_here; k_dflt ((refine' into_neg ?z22N ?z22m ?z22i ?z22l ?_; (case z22N => k_asm); (case z22m => k_mem); (case z22i => assumption); (case z22l => assumption); k_whole); intro t9)))
  k_with "my setItem ref int" => ((k_here; k_dflt ((refine' into_set ?z23F ?z23N ?z23o ?z23i ?z23l ?_; (case z23F => k_asm); (case z23N => k_asm); (case z23o => assumption); (case z23i => assumption); (case z23l => assumption); k_whole); intro h9 vs9 ls9 hls9 hln9 F9 N9 hI9)))
  k_with "my pyIter ref" => ((k_here; k_dflt ((rename IsRange _ _ _ _ _ _ _ _ => hr9); (rename Fr _ _ _ _ => F9); (rename News _ _ _ _ => N9); (rename (_ ∧ _ ∧ _ ∧ _ ∧ _ ∧ _ ∧ _ ∧ _ ∧ _ ∧ _ ∧ AllLt _ _) => hl9); (refine' into_loop1 (by assumption) rfl hr9 (szV_range (by assumption)) (szV_bounds (by assumption)) F9 N9 ?z24hs hl9.2.2.2.2.2.2.2.2.2.2 rfl ?_ ?_); (case z24hs => kcj_in); (all_goals clear F9 N9 hr9); (all_goals (intros; (try k_fold))))))
  k_with "my pyIter ref" => ((k_here; k_dflt ((rename IntsAre _ (List.reverse _) => hi9); (rename Fr _ _ _ _ => F9); (rename News _ _ _ _ => N9); (refine' into_loop2 (by assumption) rfl F9 N9 ?z25hs hi9 rfl ?_ ?_); (case z25hs => kcj_in); (all_goals clear F9 N9); (all_goals (intros; (try k_fold))))))
  exact True.intro
theorem c_into (w : World) {k n : Int} {tk tn : Tok} {news : Led} (hk : 2 ≤ k ∧ k ≤ 10) :
    Con w 312 [.int k tk, .int n tn] 5 64 news (fun r news' => (∃ t, r = .int (cutV k n) t) ∧ news' = news) := by
  have M9 : Mark news := True.intro
  unfold Con
  w_top off
  k_fill
  intro mean mg mb dp un gd cn cs a ccd cl outer A₀ base h₀ L m s Q E B F X N T hkk hdd huu hret
  refine wpAny_call ?_
  k_dflt cell_enter
  k_steps
  all_goals first
    | (refine' into_end1 ?F ?N ?I ?O _ (set2_turn ?d); (case F => k_asm); (case N => k_asm); (case I => assumption); (case O => assumption); (case d => decide))
    | (refine' into_end2 ?F ?N ?I ?O _ (set2_turn ?d); (case F => k_asm); (case N => k_asm); (case I => assumption); (case O => assumption); (case d => decide))
    | (refine' hret _ _ _ _ ?rF ?rN ⟨⟨_, congrArg (fun x => Value.int x _) ?e⟩, rfl⟩; (case rF => k_asm); (case rN => k_asm); (case e => first
        | exact into_fin2 hk (by assumption) (by assumption) (by assumption) (by assumption)
        | exact into_fin hk (by assumption) (.inl (by assumption))
        | exact into_fin hk (by assumption) (.inr (Int.not_lt.mp (by assumption)))))
end

/-! due -/
theorem cut_eq {k n : Int} (hk : 2 ≤ k ∧ k ≤ 10) : cutV k n = n ↔ Fits k n := by
  constructor
  · intro h
    have hw := width_pos hk
    have h1 := Int.emod_nonneg (n - lo k) (b := hi k - lo k + 1) (by omega)
    have h2 := Int.emod_lt_of_pos (n - lo k) hw
    unfold cutV at h
    unfold Fits
    omega
  · exact cut_fits
theorem reg_11 : True := by
  k_with_none
  k_with "my subscriptTail Name Constant ref int" => ((k_here; k_dflt (refine' item_tupleT ?z0T ?z0a ?z0b ?z0j ?z0x ?_ ?z0s; (case z0T => exact isT (by k_asm) (by k_mem)); (case z0a => decide); (case z0b => decide); (case z0j => exact rfl); (case z0x => exact rfl); (case z0s => with_unfolding_all rfl); k_whole)))
  k_with "my subscriptTail Subscript Constant ref int" => ((k_here; k_dflt (refine' item_tupleT ?z1T ?z1a ?z1b ?z1j ?z1x ?_ ?z1s; (case z1T => exact isT (by k_asm) (by k_mem)); (case z1a => decide); (case z1b => decide); (case z1j => exact rfl); (case z1x => exact rfl); (case z1s => with_unfolding_all rfl); k_whole)))
  k_with "my eval Call" => ((k_here; first | k_compRoot | k_dflt (refine Call_ ?_)))
  k_with "my call ref" => ((k_here; (with_reducible show wpAny _ _ (call (Value.ref 65) _) _ _ _); k_dflt ((refine' Con.useR (c_int_range _ ?z5kp) (el_rng ?z5kX) ?z5k1 ?z5k2 ?z5k3 ?z5k4 ?z5k5 ?z5kK ?z5kd ?z5ku ?_; (case z5k1 => k_asm); (case z5k2 => k_asm); (case z5k3 => k_asm); (case z5k4 => k_asm); (case z5k5 => k_asm); (case z5kK => first | exact rfl | assumption);  (case z5kp => first | assumption | omega); (case z5kX => k_asm); (case z5kd => ktr_room); (case z5ku => ktr_units)); (intro a9 t1 t2 hK9 hT9 h9 tk9 F9 N9); (try dsimp only); (try k_fold))))
  k_with "my call ref" => ((k_here; (with_reducible show wpAny _ _ (call (Value.ref 87) _) _ _ _); k_dflt ((refine' Con.useR (c_in_range _ ?z6kp) el_eq ?z6k1 ?z6k2 ?z6k3 ?z6k4 ?z6k5 ?z6kK ?z6kd ?z6ku ?_; (case z6k1 => k_asm); (case z6k2 => k_asm); (case z6k3 => k_asm); (case z6k4 => k_asm); (case z6k5 => k_asm); (case z6kK => first | exact rfl | assumption);  (case z6kp => first | assumption | omega); (case z6kd => ktr_room); (case z6ku => ktr_units)); (intro  h9 tk9 F9 N9); (try dsimp only); (try k_fold))))
  k_with "my call ref" => ((k_here; (with_reducible show wpAny _ _ (call (Value.ref 80) _) _ _ _); k_dflt ((refine' Con.useR (c_cut _ ?z7kp) el_int ?z7k1 ?z7k2 ?z7k3 ?z7k4 ?z7k5 ?z7kK ?z7kd ?z7ku ?_; (case z7k1 => k_asm); (case z7k2 => k_asm); (case z7k3 => k_asm); (case z7k4 => k_asm); (case z7k5 => k_asm); (case z7kK => first | exact rfl | assumption);  (case z7kp => first | assumption | omega); (case z7kd => ktr_room); (case z7ku => ktr_units)); (intro t9 h9 tk9 F9 N9); (try dsimp only); (try k_fold))))
  k_with "my call ref" => ((k_here; (with_reducible show wpAny _ _ (call (Value.ref 129) _) _ _ _); k_dflt ((refine' Con.useR2 (c_whole _ ?z8kp ?z8kc) el_conv ?z8k1 ?z8k2 ?z8k3 ?z8k4 ?z8k5 ?z8kK ?z8kd ?z8ku ?_ ?_; (case z8k1 => k_asm); (case z8k2 => k_asm); (case z8k3 => k_asm); (case z8k4 => k_asm); (case z8k5 => k_asm); (case z8kK => first | exact rfl | assumption);  (case z8kp => first | assumption | omega); (case z8kc => first | assumption | omega); (case z8kd => ktr_room); (case z8ku => ktr_units)); (intro tl9 D9 t9 q9 tv9 hnd9 hm9 hok9 h9 tk9 F9 N9); (try dsimp only); (try k_fold); rotate_left; (intro tl9 D9 t9 q9 hnd9 hm9 hok9 h9 tk9 F9 N9); (try dsimp only); (try k_fold); rotate_left)))
  k_with "my call ref" => ((k_here; (with_reducible show wpAny _ _ (call (Value.ref 150) _) _ _ _); k_dflt ((refine' Con.useR2 (c_conv _ ?z9kp ?z9kc) el_conv ?z9k1 ?z9k2 ?z9k3 ?z9k4 ?z9k5 ?z9kK ?z9kd ?z9ku ?_ ?_; (case z9k1 => k_asm); (case z9k2 => k_asm); (case z9k3 => k_asm); (case z9k4 => k_asm); (case z9k5 => k_asm); (case z9kK => first | exact rfl | assumption);  (case z9kp => first | assumption | omega); (case z9kc => first | assumption | omega); (case z9kd => ktr_room); (case z9ku => ktr_units)); (intro tl9 D9 t9 q9 tv9 hnd9 hm9 hok9 h9 tk9 F9 N9); (try dsimp only); (try k_fold); rotate_left; (intro tl9 D9 t9 q9 hnd9 hm9 hok9 h9 tk9 F9 N9); (try dsimp only); (try k_fold); rotate_left)))
  k_with "my call ref" => ((k_here; (with_reducible show wpAny _ _ (call (Value.ref 164) _) _ _ _); k_dflt ((refine' Con.useR (c_numeric_no _ ?z10kp ?z10kc ?z10ke) el_eq ?z10k1 ?z10k2 ?z10k3 ?z10k4 ?z10k5 ?z10kK ?z10kd ?z10ku ?_; (case z10k1 => k_asm); (case z10k2 => k_asm); (case z10k3 => k_asm); (case z10k4 => k_asm); (case z10k5 => k_asm); (case z10kK => first | exact rfl | assumption);  (case z10kp => first | assumption | (refine' din_sub ?z10ds ?z10dh; (case z10dh => assumption); (case z10ds => tb_rel))); (case z10kc => assumption); (case z10ke => assumption); (case z10kd => ktr_room); (case z10ku => ktr_units)); (intro  h9 tk9 F9 N9); (try dsimp only); (try k_fold))))
  k_with "my call ref" => ((k_here; (with_reducible show wpAny _ _ (call (Value.ref 164) _) _ _ _); k_dflt ((refine' Con.useR (c_numeric _ ?z11kp ?z11kc) el_eq ?z11k1 ?z11k2 ?z11k3 ?z11k4 ?z11k5 ?z11kK ?z11kd ?z11ku ?_; (case z11k1 => k_asm); (case z11k2 => k_asm); (case z11k3 => k_asm); (case z11k4 => k_asm); (case z11k5 => k_asm); (case z11kK => first | exact rfl | assumption);  (case z11kp => first | assumption | (refine' din_sub ?z11ds ?z11dh; (case z11dh => assumption); (case z11ds => tb_rel))); (case z11kc => first | assumption | omega); (case z11kd => ktr_room); (case z11ku => ktr_units)); (intro  h9 tk9 F9 N9); (try dsimp only); (try k_fold))))
  k_with "my call ref" => ((k_here; (with_reducible show wpAny _ _ (call (Value.ref 248) _) _ _ _); k_dflt ((refine' Con.useR (c_under_still _ ?z14kp ?z14kc) el_eq ?z14k1 ?z14k2 ?z14k3 ?z14k4 ?z14k5 ?z14kK ?z14kd ?z14ku ?_; (case z14k1 => k_asm); (case z14k2 => k_asm); (case z14k3 => k_asm); (case z14k4 => k_asm); (case z14k5 => k_asm); (case z14kK => first | exact rfl | assumption);  (case z14kp => first | assumption | (refine' din_sub ?z14ds ?z14dh; (case z14dh => assumption); (case z14ds => tb_rel))); (case z14kc => assumption); (case z14kd => ktr_room); (case z14ku => ktr_units)); (intro  h9 tk9 F9 N9); (try dsimp only); (try k_fold))))
  k_with "my call ref" => ((k_here; (with_reducible show wpAny _ _ (call (Value.ref 248) _) _ _ _); k_dflt ((refine' Con.useR (c_under_num _ ?z15kp ?z15kc ?z15ka ?z15kb) el_made ?z15k1 ?z15k2 ?z15k3 ?z15k4 ?z15k5 ?z15kK ?z15kd ?z15ku ?_; (case z15k1 => k_asm); (case z15k2 => k_asm); (case z15k3 => k_asm); (case z15k4 => k_asm); (case z15k5 => k_asm); (case z15kK => first | exact rfl | assumption);  (case z15kp => first | assumption | (refine' din_sub ?z15ds ?z15dh; (case z15dh => assumption); (case z15ds => tb_rel))); (case z15kc => first | assumption | omega); (case z15ka => assumption); (case z15kb => first | assumption | omega); (case z15kd => ktr_room); (case z15ku => ktr_units)); (intro r9 tl9 hnd9 hD9 h9 tk9 F9 N9); (try dsimp only); (try k_fold))))
  k_with "my call ref" => ((k_here; (with_reducible show wpAny _ _ (call (Value.ref 213) _) _ _ _); k_dflt ((refine' Con.useR (c_fault_still _ ?z16kp ?z16kc) el_int ?z16k1 ?z16k2 ?z16k3 ?z16k4 ?z16k5 ?z16kK ?z16kd ?z16ku ?_; (case z16k1 => k_asm); (case z16k2 => k_asm); (case z16k3 => k_asm); (case z16k4 => k_asm); (case z16k5 => k_asm); (case z16kK => first | exact rfl | assumption);  (case z16kp => first | assumption | (refine' din_sub ?z16ds ?z16dh; (case z16dh => assumption); (case z16ds => tb_rel))); (case z16kc => assumption); (case z16kd => ktr_room); (case z16ku => ktr_units)); (intro t9 h9 tk9 F9 N9); (try dsimp only); (try k_fold))))
  k_with "my call ref" => ((k_here; (with_reducible show wpAny _ _ (call (Value.ref 213) _) _ _ _); k_dflt ((refine' Con.useR (c_fault_num _ ?z17kp ?z17kc ?z17ka ?z17kb) el_int ?z17k1 ?z17k2 ?z17k3 ?z17k4 ?z17k5 ?z17kK ?z17kd ?z17ku ?_; (case z17k1 => k_asm); (case z17k2 => k_asm); (case z17k3 => k_asm); (case z17k4 => k_asm); (case z17k5 => k_asm); (case z17kK => first | exact rfl | assumption);  (case z17kp => first | assumption | (refine' din_sub ?z17ds ?z17dh; (case z17dh => assumption); (case z17ds => tb_rel))); (case z17kc => first | assumption | omega); (case z17ka => assumption); (case z17kb => first | assumption | omega); (case z17kd => ktr_room); (case z17ku => ktr_units)); (intro t9 h9 tk9 F9 N9); (try dsimp only); (try k_fold))))
  k_with "my call ref" => ((k_here; (with_reducible show wpAny _ _ (call (Value.ref 312) _) _ _ _); k_dflt ((refine' Con.useR (c_into _ ?z26kp) el_int ?z26k1 ?z26k2 ?z26k3 ?z26k4 ?z26k5 ?z26kK ?z26kd ?z26ku ?_; (case z26k1 => k_asm); (case z26k2 => k_asm); (case z26k3 => k_asm); (case z26k4 => k_asm); (case z26k5 => k_asm); (case z26kK => first | exact rfl | assumption);  (case z26kp => first | assumption | omega); (case z26kd => ktr_room); (case z26ku => ktr_units)); (intro t9 h9 tk9 F9 N9); (try dsimp only); (try k_fold))))
  exact True.intro
theorem c_due_none (w : World) {v : Value} {k : Int} {tk : Tok} {d : Dat} {news : Led} (hD : DatIn news v d) :
    Con w 347 [v, .none, .int k tk] 7 80 news (Made (.tuple [d, .int 0]) news) := by
  unfold Con
  w_top off
  k_fill
  intro mean mg mb dp un gd cn cs a ccd cl outer A₀ base h₀ L m s Q E B F X N T hkk hdd huu hret
  refine wpAny_call ?_
  k_dflt cell_enter
  k_steps
  all_goals (refine hret _ _ _ _ (by k_asm) (by k_asm) ?_; exact ⟨_ :: [], rfl, NoD.cons tup_noD NoD.nil, .tuple (.head _) (.cons (by (first | assumption | (refine' din_sub ?ds ?dh; (case dh => assumption); (case ds => tb_rel)) | exact DatIn.int _ _ | exact DatIn.none | exact DatIn.str _ _ | exact DatIn.bool _)) (.cons (.int _ _) .nil))⟩)
theorem c_due_num (w : World) {v : Value} {kind k k0 n c : Int} {tn tk : Tok} {news : Led} (hD : DatIn news v (convD kind (.num k0 n) c)) (hk : 2 ≤ k ∧ k ≤ 10) (_hc : c = 0 ∨ c = 1) :
    Con w 347 [v, .int n tn, .int k tk] 8 96 news (Made (.tuple [fuD kind k k0 n c, .int (faV k n c)]) news) := by
  refine' conv_el (P := fun v => Con w 347 [v, .int n tn, .int k tk] 8 96 news (Made (.tuple [fuD kind k k0 n c, .int (faV k n c)]) news)) hD ?_
  intro a q a' q' t1 t2 t4 t5 s1 s2 s3 hm hm' hD0 h3
  unfold Con
  w_top off
  k_fill
  intro mean mg mb dp un gd cn cs a ccd cl outer A₀ base h₀ L m s Q E B F X N T hkk hdd huu hret
  refine wpAny_call ?_
  k_dflt cell_enter
  k_steps
  · have hf : OK k n c := .inl ((cut_eq hk).mp (by assumption))
    refine hret _ _ _ _ (by k_asm) (by k_asm) ?_
    refine ⟨_ :: _ :: [], rfl, NoD.cons tup_noD (NoD.cons tup_noD NoD.nil), ?_⟩
    rw [fuD, faV, if_pos hf, if_pos hf]
    exact .tuple (.head _) (.cons (.tuple (.tail _ (.head _)) (.cons (.int _ _) (.cons (.int _ _) (.cons (.int _ _) .nil)))) (.cons (.int _ _) .nil))
  · have hf : ¬ OK k n c := by
      rintro (h | h)
      · exact absurd ((cut_eq hk).mpr h) (by assumption)
      · contradiction
    refine hret _ _ _ _ (by k_asm) (by k_asm) ?_
    refine ⟨_ :: [], rfl, NoD.cons tup_noD NoD.nil, ?_⟩
    rw [fuD, faV, if_neg hf, if_neg hf]
    exact .tuple (.head _) (.cons (by (first | assumption | (refine' din_sub ?ds ?dh; (case dh => assumption); (case ds => tb_rel)) | exact DatIn.int _ _ | exact DatIn.none | exact DatIn.str _ _ | exact DatIn.bool _)) (.cons (.int _ _) .nil))
  · have hf : OK k n c := .inr (by assumption)
    refine hret _ _ _ _ (by k_asm) (by k_asm) ?_
    refine ⟨_ :: _ :: [], rfl, NoD.cons tup_noD (NoD.cons tup_noD NoD.nil), ?_⟩
    rw [fuD, faV, if_pos hf, if_pos hf]
    exact .tuple (.head _) (.cons (.tuple (.tail _ (.head _)) (.cons (.int _ _) (.cons (.int _ _) (.cons (.int _ _) .nil)))) (.cons (.int _ _) .nil))

/-! take -/
/-- the dict of a law's run: its list, how far it is read -/
def WD (w : World) (o : Obj) (l : Addr) (i : Int) : Prop := ∃ t, Obj.IsDictOf (strKind PySem.Challenge.rw_xm0310_01.row.prog w) o [(Str.ofString "in", .ref l), (Str.ofString "at", .int i t)]
theorem WD.cls {w : World} {o : Obj} {l : Addr} {i : Int} (h : WD w o l i) : o.cls = .type "dict" ∧ ∃ es ep, o.data = .dict es ep := by
  obtain ⟨_, es, ep, e, hd, _⟩ := h
  exact ⟨e.1, es, ep, hd⟩
theorem WD.noSeq {w : World} {o : Obj} {l : Addr} {i : Int} (h : WD w o l i) : ¬ isSeq o := by
  obtain ⟨_, es, ep, hd⟩ := h.cls
  rintro ⟨_, _, e⟩
  rw [hd] at e
  cases e
theorem off_of {h₀ h : Heap} {L d : Addr} {o : Obj} {rest : Led} (N : News h₀ L h ((d, o) :: rest)) (hc : o.cls = .type "dict" ∧ ∃ es ep, o.data = .dict es ep) (hn : NoX rest) : ∀ p ∈ rest, p.1 ≠ d := by
  intro p hp e
  have h1 := (N _ (.head _)).1
  have h2 := (N p (.tail _ hp)).1
  rw [e] at h2
  have h3 : o = p.2 := Option.some.inj (h1.symm.trans h2)
  subst h3
  obtain ⟨h4, es, ep, h5⟩ := hc
  rcases hn p hp with h6 | h6
  · exact h6 h4
  · exact h6 es ep h5
/-- what the run's dict says, and where its list lies -/
structure Scr (l : Addr) (ws : List Value) (ns : List Int) (rest : Led) : Prop where
  are : IntsAre ws ns
  lies : ∃ c, (l, W.listOf ws.toArray c) ∈ rest
  short : ns.length ≤ 50
  plain : NoX rest
theorem Scr.more {l : Addr} {ws : List Value} {ns : List Int} {rest tl : Led} (h : Scr l ws ns rest) (hn : NoD tl) : Scr l ws ns (tl ++ rest) :=
  ⟨h.are, h.lies.imp fun _ x => List.mem_append_right _ x, h.short, hn.x.app h.plain⟩
theorem Scr.more1 {l : Addr} {ws : List Value} {ns : List Int} {rest : Led} {p : Addr × Obj} (h : Scr l ws ns rest) (hn : isX p.2) : Scr l ws ns (p :: rest) :=
  ⟨h.are, h.lies.imp fun _ x => .tail _ x, h.short, .cons hn h.plain⟩
section
local macro_rules | `(tactic| k_all) => `(tactic| assumption)
theorem reg_12 : True := by
  k_with_none
  k_with "my subscriptTail Name Constant ref int" => ((k_here; k_dflt (refine' item_tupleT ?z0T ?z0a ?z0b ?z0j ?z0x ?_ ?z0s; (case z0T => exact isT (by k_asm) (by k_mem)); (case z0a => decide); (case z0b => decide); (case z0j => exact rfl); (case z0x => exact rfl); (case z0s => with_unfolding_all rfl); k_whole)))
  k_with "my subscriptTail Subscript Constant ref int" => ((k_here; k_dflt (refine' item_tupleT ?z1T ?z1a ?z1b ?z1j ?z1x ?_ ?z1s; (case z1T => exact isT (by k_asm) (by k_mem)); (case z1a => decide); (case z1b => decide); (case z1j => exact rfl); (case z1x => exact rfl); (case z1s => with_unfolding_all rfl); k_whole)))
  k_with "my eval Call" => ((k_here; first | k_compRoot | k_dflt (refine Call_ ?_)))
  k_with "my call ref" => ((k_here; (with_reducible show wpAny _ _ (call (Value.ref 65) _) _ _ _); k_dflt ((refine' Con.useR (c_int_range _ ?z5kp) (el_rng ?z5kX) ?z5k1 ?z5k2 ?z5k3 ?z5k4 ?z5k5 ?z5kK ?z5kd ?z5ku ?_; (case z5k1 => k_asm); (case z5k2 => k_asm); (case z5k3 => k_asm); (case z5k4 => k_asm); (case z5k5 => k_asm); (case z5kK => first | exact rfl | assumption);  (case z5kp => first | assumption | omega); (case z5kX => k_asm); (case z5kd => ktr_room); (case z5ku => ktr_units)); (intro a9 t1 t2 hK9 hT9 h9 tk9 F9 N9); (try dsimp only); (try k_fold))))
  k_with "my call ref" => ((k_here; (with_reducible show wpAny _ _ (call (Value.ref 87) _) _ _ _); k_dflt ((refine' Con.useR (c_in_range _ ?z6kp) el_eq ?z6k1 ?z6k2 ?z6k3 ?z6k4 ?z6k5 ?z6kK ?z6kd ?z6ku ?_; (case z6k1 => k_asm); (case z6k2 => k_asm); (case z6k3 => k_asm); (case z6k4 => k_asm); (case z6k5 => k_asm); (case z6kK => first | exact rfl | assumption);  (case z6kp => first | assumption | omega); (case z6kd => ktr_room); (case z6ku => ktr_units)); (intro  h9 tk9 F9 N9); (try dsimp only); (try k_fold))))
  k_with "my call ref" => ((k_here; (with_reducible show wpAny _ _ (call (Value.ref 80) _) _ _ _); k_dflt ((refine' Con.useR (c_cut _ ?z7kp) el_int ?z7k1 ?z7k2 ?z7k3 ?z7k4 ?z7k5 ?z7kK ?z7kd ?z7ku ?_; (case z7k1 => k_asm); (case z7k2 => k_asm); (case z7k3 => k_asm); (case z7k4 => k_asm); (case z7k5 => k_asm); (case z7kK => first | exact rfl | assumption);  (case z7kp => first | assumption | omega); (case z7kd => ktr_room); (case z7ku => ktr_units)); (intro t9 h9 tk9 F9 N9); (try dsimp only); (try k_fold))))
  k_with "my call ref" => ((k_here; (with_reducible show wpAny _ _ (call (Value.ref 129) _) _ _ _); k_dflt ((refine' Con.useR2 (c_whole _ ?z8kp ?z8kc) el_conv ?z8k1 ?z8k2 ?z8k3 ?z8k4 ?z8k5 ?z8kK ?z8kd ?z8ku ?_ ?_; (case z8k1 => k_asm); (case z8k2 => k_asm); (case z8k3 => k_asm); (case z8k4 => k_asm); (case z8k5 => k_asm); (case z8kK => first | exact rfl | assumption);  (case z8kp => first | assumption | omega); (case z8kc => first | assumption | omega); (case z8kd => ktr_room); (case z8ku => ktr_units)); (intro tl9 D9 t9 q9 tv9 hnd9 hm9 hok9 h9 tk9 F9 N9); (try dsimp only); (try k_fold); rotate_left; (intro tl9 D9 t9 q9 hnd9 hm9 hok9 h9 tk9 F9 N9); (try dsimp only); (try k_fold); rotate_left)))
  k_with "my call ref" => ((k_here; (with_reducible show wpAny _ _ (call (Value.ref 150) _) _ _ _); k_dflt ((refine' Con.useR2 (c_conv _ ?z9kp ?z9kc) el_conv ?z9k1 ?z9k2 ?z9k3 ?z9k4 ?z9k5 ?z9kK ?z9kd ?z9ku ?_ ?_; (case z9k1 => k_asm); (case z9k2 => k_asm); (case z9k3 => k_asm); (case z9k4 => k_asm); (case z9k5 => k_asm); (case z9kK => first | exact rfl | assumption);  (case z9kp => first | assumption | omega); (case z9kc => first | assumption | omega); (case z9kd => ktr_room); (case z9ku => ktr_units)); (intro tl9 D9 t9 q9 tv9 hnd9 hm9 hok9 h9 tk9 F9 N9); (try dsimp only); (try k_fold); rotate_left; (intro tl9 D9 t9 q9 hnd9 hm9 hok9 h9 tk9 F9 N9); (try dsimp only); (try k_fold); rotate_left)))
  k_with "my call ref" => ((k_here; (with_reducible show wpAny _ _ (call (Value.ref 164) _) _ _ _); k_dflt ((refine' Con.useR (c_numeric_no _ ?z10kp ?z10kc ?z10ke) el_eq ?z10k1 ?z10k2 ?z10k3 ?z10k4 ?z10k5 ?z10kK ?z10kd ?z10ku ?_; (case z10k1 => k_asm); (case z10k2 => k_asm); (case z10k3 => k_asm); (case z10k4 => k_asm); (case z10k5 => k_asm); (case z10kK => first | exact rfl | assumption);  (case z10kp => first | assumption | (refine' din_sub ?z10ds ?z10dh; (case z10dh => assumption); (case z10ds => tb_rel))); (case z10kc => assumption); (case z10ke => assumption); (case z10kd => ktr_room); (case z10ku => ktr_units)); (intro  h9 tk9 F9 N9); (try dsimp only); (try k_fold))))
  k_with "my call ref" => ((k_here; (with_reducible show wpAny _ _ (call (Value.ref 164) _) _ _ _); k_dflt ((refine' Con.useR (c_numeric _ ?z11kp ?z11kc) el_eq ?z11k1 ?z11k2 ?z11k3 ?z11k4 ?z11k5 ?z11kK ?z11kd ?z11ku ?_; (case z11k1 => k_asm); (case z11k2 => k_asm); (case z11k3 => k_asm); (case z11k4 => k_asm); (case z11k5 => k_asm); (case z11kK => first | exact rfl | assumption);  (case z11kp => first | assumption | (refine' din_sub ?z11ds ?z11dh; (case z11dh => assumption); (case z11ds => tb_rel))); (case z11kc => first | assumption | omega); (case z11kd => ktr_room); (case z11ku => ktr_units)); (intro  h9 tk9 F9 N9); (try dsimp only); (try k_fold))))
  k_with "my call ref" => ((k_here; (with_reducible show wpAny _ _ (call (Value.ref 248) _) _ _ _); k_dflt ((refine' Con.useR (c_under_still _ ?z14kp ?z14kc) el_eq ?z14k1 ?z14k2 ?z14k3 ?z14k4 ?z14k5 ?z14kK ?z14kd ?z14ku ?_; (case z14k1 => k_asm); (case z14k2 => k_asm); (case z14k3 => k_asm); (case z14k4 => k_asm); (case z14k5 => k_asm); (case z14kK => first | exact rfl | assumption);  (case z14kp => first | assumption | (refine' din_sub ?z14ds ?z14dh; (case z14dh => assumption); (case z14ds => tb_rel))); (case z14kc => assumption); (case z14kd => ktr_room); (case z14ku => ktr_units)); (intro  h9 tk9 F9 N9); (try dsimp only); (try k_fold))))
  k_with "my call ref" => ((k_here; (with_reducible show wpAny _ _ (call (Value.ref 248) _) _ _ _); k_dflt ((refine' Con.useR (c_under_num _ ?z15kp ?z15kc ?z15ka ?z15kb) el_made ?z15k1 ?z15k2 ?z15k3 ?z15k4 ?z15k5 ?z15kK ?z15kd ?z15ku ?_; (case z15k1 => k_asm); (case z15k2 => k_asm); (case z15k3 => k_asm); (case z15k4 => k_asm); (case z15k5 => k_asm); (case z15kK => first | exact rfl | assumption);  (case z15kp => first | assumption | (refine' din_sub ?z15ds ?z15dh; (case z15dh => assumption); (case z15ds => tb_rel))); (case z15kc => first | assumption | omega); (case z15ka => assumption); (case z15kb => first | assumption | omega); (case z15kd => ktr_room); (case z15ku => ktr_units)); (intro r9 tl9 hnd9 hD9 h9 tk9 F9 N9); (try dsimp only); (try k_fold))))
  k_with "my call ref" => ((k_here; (with_reducible show wpAny _ _ (call (Value.ref 213) _) _ _ _); k_dflt ((refine' Con.useR (c_fault_still _ ?z16kp ?z16kc) el_int ?z16k1 ?z16k2 ?z16k3 ?z16k4 ?z16k5 ?z16kK ?z16kd ?z16ku ?_; (case z16k1 => k_asm); (case z16k2 => k_asm); (case z16k3 => k_asm); (case z16k4 => k_asm); (case z16k5 => k_asm); (case z16kK => first | exact rfl | assumption);  (case z16kp => first | assumption | (refine' din_sub ?z16ds ?z16dh; (case z16dh => assumption); (case z16ds => tb_rel))); (case z16kc => assumption); (case z16kd => ktr_room); (case z16ku => ktr_units)); (intro t9 h9 tk9 F9 N9); (try dsimp only); (try k_fold))))
  k_with "my call ref" => ((k_here; (with_reducible show wpAny _ _ (call (Value.ref 213) _) _ _ _); k_dflt ((refine' Con.useR (c_fault_num _ ?z17kp ?z17kc ?z17ka ?z17kb) el_int ?z17k1 ?z17k2 ?z17k3 ?z17k4 ?z17k5 ?z17kK ?z17kd ?z17ku ?_; (case z17k1 => k_asm); (case z17k2 => k_asm); (case z17k3 => k_asm); (case z17k4 => k_asm); (case z17k5 => k_asm); (case z17kK => first | exact rfl | assumption);  (case z17kp => first | assumption | (refine' din_sub ?z17ds ?z17dh; (case z17dh => assumption); (case z17ds => tb_rel))); (case z17kc => first | assumption | omega); (case z17ka => assumption); (case z17kb => first | assumption | omega); (case z17kd => ktr_room); (case z17ku => ktr_units)); (intro t9 h9 tk9 F9 N9); (try dsimp only); (try k_fold))))
  k_with "my call ref" => ((k_here; (with_reducible show wpAny _ _ (call (Value.ref 312) _) _ _ _); k_dflt ((refine' Con.useR (c_into _ ?z26kp) el_int ?z26k1 ?z26k2 ?z26k3 ?z26k4 ?z26k5 ?z26kK ?z26kd ?z26ku ?_; (case z26k1 => k_asm); (case z26k2 => k_asm); (case z26k3 => k_asm); (case z26k4 => k_asm); (case z26k5 => k_asm); (case z26kK => first | exact rfl | assumption);  (case z26kp => first | assumption | omega); (case z26kd => ktr_room); (case z26ku => ktr_units)); (intro t9 h9 tk9 F9 N9); (try dsimp only); (try k_fold))))
  k_with "my call ref" => ((k_here; (with_reducible show wpAny _ _ (call (Value.ref 347) _) _ _ _); k_dflt ((refine' Con.useR (c_due_none _ ?z27kp) el_made ?z27k1 ?z27k2 ?z27k3 ?z27k4 ?z27k5 ?z27kK ?z27kd ?z27ku ?_; (case z27k1 => k_asm); (case z27k2 => k_asm); (case z27k3 => k_asm); (case z27k4 => k_asm); (case z27k5 => k_asm); (case z27kK => first | exact rfl | assumption);  (case z27kp => first | assumption | (refine' din_sub ?z27ds ?z27dh; (case z27dh => assumption); (case z27ds => tb_rel))); (case z27kd => ktr_room); (case z27ku => ktr_units)); (intro r9 tl9 hnd9 hD9 h9 tk9 F9 N9); (try dsimp only); (try k_fold))))
  k_with "my call ref" => ((k_here; (with_reducible show wpAny _ _ (call (Value.ref 347) _) _ _ _); k_dflt ((refine' Con.useR (c_due_num _ ?z28kp ?z28kc ?z28kb) el_made ?z28k1 ?z28k2 ?z28k3 ?z28k4 ?z28k5 ?z28kK ?z28kd ?z28ku ?_; (case z28k1 => k_asm); (case z28k2 => k_asm); (case z28k3 => k_asm); (case z28k4 => k_asm); (case z28k5 => k_asm); (case z28kK => first | exact rfl | assumption);  (case z28kp => first | assumption | (refine' din_sub ?z28ds ?z28dh; (case z28dh => assumption); (case z28ds => tb_rel))); (case z28kc => first | assumption | omega); (case z28kb => first | assumption | omega); (case z28kd => ktr_room); (case z28ku => ktr_units)); (intro r9 tl9 hnd9 hD9 h9 tk9 F9 N9); (try dsimp only); (try k_fold))))
  exact True.intro
theorem c_take (w : World) {d l : Addr} {o : Obj} {ws : List Value} {ns : List Int} {rest : Led} {i n : Int} {tn : Tok}
    (hW : WD w o l i) (hS : Scr l ws ns rest) (hi : 0 ≤ i) (hn : 1 ≤ n) :
    Con w 305 [.ref d, .int n tn] 3 64 ((d, o) :: rest) (fun r news' => ∃ x t o', r = .int x t ∧ 0 ≤ x ∧ x < n ∧ (0 < x → i + 1 ≤ ns.length) ∧ WD w o' l (i + 1) ∧ news' = (d, o') :: rest) := by
  have hcls := hW.cls
  obtain ⟨t, hW⟩ := hW
  obtain ⟨hI, ⟨c, hl⟩, hlen, hnd⟩ := hS
  unfold Con
  w_top off
  k_fill
  intro mean mg mb dp un gd cn cs a ccd cl outer A₀ base h₀ L m s Q E B F X N T hkk hdd huu hret
  have hO := off_of N hcls hnd
  refine wpAny_call ?_
  k_dflt cell_enter
  k_steps
  · refine hret _ _ _ _ (by k_asm) (by k_asm) ?_
    refine ⟨_, _, _, rfl, ?_, ?_, fun _ => by simp_all, ⟨_, by assumption⟩, rfl⟩
    · exact Int.fmod_nonneg_of_pos _ (by omega)
    · exact Int.fmod_lt_of_pos _ (by omega)
  · refine hret _ _ _ _ (by k_asm) (by k_asm) ?_
    exact ⟨_, _, _, rfl, by omega, by omega, fun h => by omega, ⟨_, by assumption⟩, rfl⟩
end
theorem el_take {w : World} {d l : Addr} {rest : Led} {i n : Int} {ns : List Int} : ∀ G : Value → Led → Prop, (∀ x t o', 0 ≤ x → x < n → (0 < x → i + 1 ≤ ns.length) → WD w o' l (i + 1) → G (.int x t) ((d, o') :: rest)) →
    ∀ r news', (∃ x t o', r = .int x t ∧ 0 ≤ x ∧ x < n ∧ (0 < x → i + 1 ≤ ns.length) ∧ WD w o' l (i + 1) ∧ news' = (d, o') :: rest) → G r news' := by
  rintro G h r n ⟨x, t, o', rfl, h1, h2, h3, h4, rfl⟩; exact h x t o' h1 h2 h3 h4
theorem el_wd {w : World} {d l : Addr} {rest : Led} : ∀ G : Value → Led → Prop, (∀ o' i', 0 ≤ i' → WD w o' l i' → G (.bool true) ((d, o') :: rest)) → ∀ r n, (∃ o' i', r = .bool true ∧ 0 ≤ i' ∧ WD w o' l i' ∧ n = (d, o') :: rest) → G r n := by
  rintro G h r n ⟨o', i', rfl, h1, h2, rfl⟩; exact h o' i' h1 h2
local macro_rules | `(tactic| ktr_rel) => `(tactic| first | assumption | (refine' Scr.more1 ?sa ?sb; (case sa => ktr_rel); (case sb => first | exact tup_noD.x | exact list_noD.x | exact isX_cell (by assumption))) | (refine' Scr.more ?sa ?sb; (case sa => ktr_rel); (case sb => assumption)))

/-! number -/
theorem menu_b (j : Nat) : 0 ≤ ([8, 7, 16, 15, 32, 31, 64, 63, 0] : List Int).getD j 0 ∧ ([8, 7, 16, 15, 32, 31, 64, 63, 0] : List Int).getD j 0 ≤ 1000000 := by
  match j with
  | 0 | 1 | 2 | 3 | 4 | 5 | 6 | 7 | 8 => decide
  | n + 9 => exact ⟨Int.le_refl 0, (by decide : (0 : Int) ≤ 1000000)⟩
theorem kmenu_b {x : Int} (h0 : 0 ≤ x) (h9 : x < 9) : 2 ≤ ([7, 9, 10, 8, 5, 6, 2, 3, 4] : List Int).getD x.toNat 0 ∧ ([7, 9, 10, 8, 5, 6, 2, 3, 4] : List Int).getD x.toNat 0 ≤ 10 := by
  obtain ⟨j, rfl⟩ := Int.eq_ofNat_of_zero_le h0
  match j with
  | 0 | 1 | 2 | 3 | 4 | 5 | 6 | 7 | 8 => decide
  | n + 9 => omega
theorem umenu_b {x : Int} (h0 : 0 ≤ x) (h9 : x < 8) : 2 ≤ ([3, 4, 5, 6, 7, 8, 9, 10] : List Int).getD x.toNat 0 ∧ ([3, 4, 5, 6, 7, 8, 9, 10] : List Int).getD x.toNat 0 ≤ 10 := by
  obtain ⟨j, rfl⟩ := Int.eq_ofNat_of_zero_le h0
  match j with
  | 0 | 1 | 2 | 3 | 4 | 5 | 6 | 7 => decide
  | n + 8 => omega
/-- a number drawn, the place moved on -/
def NumP (w : World) (d l : Addr) (rest : Led) (r : Value) (news' : Led) : Prop := ∃ x t o' i', r = .int x t ∧ 0 ≤ i' ∧ WD w o' l i' ∧ news' = (d, o') :: rest
theorem el_num {w : World} {d l : Addr} {rest : Led} : ∀ G : Value → Led → Prop, (∀ x t o' i', 0 ≤ i' → WD w o' l i' → G (.int x t) ((d, o') :: rest)) → ∀ r n, NumP w d l rest r n → G r n := by
  rintro G h r n ⟨x, t, o', i', rfl, h1, h2, rfl⟩; exact h x t o' i' h1 h2
section
local macro_rules | `(tactic| k_all) => `(tactic| assumption)
theorem reg_13 : True := by
  k_with_none
  k_with "my subscriptTail Name Constant ref int" => ((k_here; k_dflt (refine' item_tupleT ?z0T ?z0a ?z0b ?z0j ?z0x ?_ ?z0s; (case z0T => exact isT (by k_asm) (by k_mem)); (case z0a => decide); (case z0b => decide); (case z0j => exact rfl); (case z0x => exact rfl); (case z0s => with_unfolding_all rfl); k_whole)))
  k_with "my subscriptTail Subscript Constant ref int" => ((k_here; k_dflt (refine' item_tupleT ?z1T ?z1a ?z1b ?z1j ?z1x ?_ ?z1s; (case z1T => exact isT (by k_asm) (by k_mem)); (case z1a => decide); (case z1b => decide); (case z1j => exact rfl); (case z1x => exact rfl); (case z1s => with_unfolding_all rfl); k_whole)))
  k_with "my eval Call" => ((k_here; first | k_compRoot | k_dflt (refine Call_ ?_)))
  k_with "my call ref" => ((k_here; (with_reducible show wpAny _ _ (call (Value.ref 65) _) _ _ _); k_dflt ((refine' Con.useR (c_int_range _ ?z5kp) (el_rng ?z5kX) ?z5k1 ?z5k2 ?z5k3 ?z5k4 ?z5k5 ?z5kK ?z5kd ?z5ku ?_; (case z5k1 => k_asm); (case z5k2 => k_asm); (case z5k3 => k_asm); (case z5k4 => k_asm); (case z5k5 => k_asm); (case z5kK => first | exact rfl | assumption);  (case z5kp => first | assumption | omega); (case z5kX => k_asm); (case z5kd => ktr_room); (case z5ku => ktr_units)); (intro a9 t1 t2 hK9 hT9 h9 tk9 F9 N9); (try dsimp only); (try k_fold))))
  k_with "my call ref" => ((k_here; (with_reducible show wpAny _ _ (call (Value.ref 87) _) _ _ _); k_dflt ((refine' Con.useR (c_in_range _ ?z6kp) el_eq ?z6k1 ?z6k2 ?z6k3 ?z6k4 ?z6k5 ?z6kK ?z6kd ?z6ku ?_; (case z6k1 => k_asm); (case z6k2 => k_asm); (case z6k3 => k_asm); (case z6k4 => k_asm); (case z6k5 => k_asm); (case z6kK => first | exact rfl | assumption);  (case z6kp => first | assumption | omega); (case z6kd => ktr_room); (case z6ku => ktr_units)); (intro  h9 tk9 F9 N9); (try dsimp only); (try k_fold))))
  k_with "my call ref" => ((k_here; (with_reducible show wpAny _ _ (call (Value.ref 80) _) _ _ _); k_dflt ((refine' Con.useR (c_cut _ ?z7kp) el_int ?z7k1 ?z7k2 ?z7k3 ?z7k4 ?z7k5 ?z7kK ?z7kd ?z7ku ?_; (case z7k1 => k_asm); (case z7k2 => k_asm); (case z7k3 => k_asm); (case z7k4 => k_asm); (case z7k5 => k_asm); (case z7kK => first | exact rfl | assumption);  (case z7kp => first | assumption | omega); (case z7kd => ktr_room); (case z7ku => ktr_units)); (intro t9 h9 tk9 F9 N9); (try dsimp only); (try k_fold))))
  k_with "my call ref" => ((k_here; (with_reducible show wpAny _ _ (call (Value.ref 129) _) _ _ _); k_dflt ((refine' Con.useR2 (c_whole _ ?z8kp ?z8kc) el_conv ?z8k1 ?z8k2 ?z8k3 ?z8k4 ?z8k5 ?z8kK ?z8kd ?z8ku ?_ ?_; (case z8k1 => k_asm); (case z8k2 => k_asm); (case z8k3 => k_asm); (case z8k4 => k_asm); (case z8k5 => k_asm); (case z8kK => first | exact rfl | assumption);  (case z8kp => first | assumption | omega); (case z8kc => first | assumption | omega); (case z8kd => ktr_room); (case z8ku => ktr_units)); (intro tl9 D9 t9 q9 tv9 hnd9 hm9 hok9 h9 tk9 F9 N9); (try dsimp only); (try k_fold); rotate_left; (intro tl9 D9 t9 q9 hnd9 hm9 hok9 h9 tk9 F9 N9); (try dsimp only); (try k_fold); rotate_left)))
  k_with "my call ref" => ((k_here; (with_reducible show wpAny _ _ (call (Value.ref 150) _) _ _ _); k_dflt ((refine' Con.useR2 (c_conv _ ?z9kp ?z9kc) el_conv ?z9k1 ?z9k2 ?z9k3 ?z9k4 ?z9k5 ?z9kK ?z9kd ?z9ku ?_ ?_; (case z9k1 => k_asm); (case z9k2 => k_asm); (case z9k3 => k_asm); (case z9k4 => k_asm); (case z9k5 => k_asm); (case z9kK => first | exact rfl | assumption);  (case z9kp => first | assumption | omega); (case z9kc => first | assumption | omega); (case z9kd => ktr_room); (case z9ku => ktr_units)); (intro tl9 D9 t9 q9 tv9 hnd9 hm9 hok9 h9 tk9 F9 N9); (try dsimp only); (try k_fold); rotate_left; (intro tl9 D9 t9 q9 hnd9 hm9 hok9 h9 tk9 F9 N9); (try dsimp only); (try k_fold); rotate_left)))
  k_with "my call ref" => ((k_here; (with_reducible show wpAny _ _ (call (Value.ref 164) _) _ _ _); k_dflt ((refine' Con.useR (c_numeric_no _ ?z10kp ?z10kc ?z10ke) el_eq ?z10k1 ?z10k2 ?z10k3 ?z10k4 ?z10k5 ?z10kK ?z10kd ?z10ku ?_; (case z10k1 => k_asm); (case z10k2 => k_asm); (case z10k3 => k_asm); (case z10k4 => k_asm); (case z10k5 => k_asm); (case z10kK => first | exact rfl | assumption);  (case z10kp => first | assumption | (refine' din_sub ?z10ds ?z10dh; (case z10dh => assumption); (case z10ds => tb_rel))); (case z10kc => assumption); (case z10ke => assumption); (case z10kd => ktr_room); (case z10ku => ktr_units)); (intro  h9 tk9 F9 N9); (try dsimp only); (try k_fold))))
  k_with "my call ref" => ((k_here; (with_reducible show wpAny _ _ (call (Value.ref 164) _) _ _ _); k_dflt ((refine' Con.useR (c_numeric _ ?z11kp ?z11kc) el_eq ?z11k1 ?z11k2 ?z11k3 ?z11k4 ?z11k5 ?z11kK ?z11kd ?z11ku ?_; (case z11k1 => k_asm); (case z11k2 => k_asm); (case z11k3 => k_asm); (case z11k4 => k_asm); (case z11k5 => k_asm); (case z11kK => first | exact rfl | assumption);  (case z11kp => first | assumption | (refine' din_sub ?z11ds ?z11dh; (case z11dh => assumption); (case z11ds => tb_rel))); (case z11kc => first | assumption | omega); (case z11kd => ktr_room); (case z11ku => ktr_units)); (intro  h9 tk9 F9 N9); (try dsimp only); (try k_fold))))
  k_with "my call ref" => ((k_here; (with_reducible show wpAny _ _ (call (Value.ref 248) _) _ _ _); k_dflt ((refine' Con.useR (c_under_still _ ?z14kp ?z14kc) el_eq ?z14k1 ?z14k2 ?z14k3 ?z14k4 ?z14k5 ?z14kK ?z14kd ?z14ku ?_; (case z14k1 => k_asm); (case z14k2 => k_asm); (case z14k3 => k_asm); (case z14k4 => k_asm); (case z14k5 => k_asm); (case z14kK => first | exact rfl | assumption);  (case z14kp => first | assumption | (refine' din_sub ?z14ds ?z14dh; (case z14dh => assumption); (case z14ds => tb_rel))); (case z14kc => assumption); (case z14kd => ktr_room); (case z14ku => ktr_units)); (intro  h9 tk9 F9 N9); (try dsimp only); (try k_fold))))
  k_with "my call ref" => ((k_here; (with_reducible show wpAny _ _ (call (Value.ref 248) _) _ _ _); k_dflt ((refine' Con.useR (c_under_num _ ?z15kp ?z15kc ?z15ka ?z15kb) el_made ?z15k1 ?z15k2 ?z15k3 ?z15k4 ?z15k5 ?z15kK ?z15kd ?z15ku ?_; (case z15k1 => k_asm); (case z15k2 => k_asm); (case z15k3 => k_asm); (case z15k4 => k_asm); (case z15k5 => k_asm); (case z15kK => first | exact rfl | assumption);  (case z15kp => first | assumption | (refine' din_sub ?z15ds ?z15dh; (case z15dh => assumption); (case z15ds => tb_rel))); (case z15kc => first | assumption | omega); (case z15ka => assumption); (case z15kb => first | assumption | omega); (case z15kd => ktr_room); (case z15ku => ktr_units)); (intro r9 tl9 hnd9 hD9 h9 tk9 F9 N9); (try dsimp only); (try k_fold))))
  k_with "my call ref" => ((k_here; (with_reducible show wpAny _ _ (call (Value.ref 213) _) _ _ _); k_dflt ((refine' Con.useR (c_fault_still _ ?z16kp ?z16kc) el_int ?z16k1 ?z16k2 ?z16k3 ?z16k4 ?z16k5 ?z16kK ?z16kd ?z16ku ?_; (case z16k1 => k_asm); (case z16k2 => k_asm); (case z16k3 => k_asm); (case z16k4 => k_asm); (case z16k5 => k_asm); (case z16kK => first | exact rfl | assumption);  (case z16kp => first | assumption | (refine' din_sub ?z16ds ?z16dh; (case z16dh => assumption); (case z16ds => tb_rel))); (case z16kc => assumption); (case z16kd => ktr_room); (case z16ku => ktr_units)); (intro t9 h9 tk9 F9 N9); (try dsimp only); (try k_fold))))
  k_with "my call ref" => ((k_here; (with_reducible show wpAny _ _ (call (Value.ref 213) _) _ _ _); k_dflt ((refine' Con.useR (c_fault_num _ ?z17kp ?z17kc ?z17ka ?z17kb) el_int ?z17k1 ?z17k2 ?z17k3 ?z17k4 ?z17k5 ?z17kK ?z17kd ?z17ku ?_; (case z17k1 => k_asm); (case z17k2 => k_asm); (case z17k3 => k_asm); (case z17k4 => k_asm); (case z17k5 => k_asm); (case z17kK => first | exact rfl | assumption);  (case z17kp => first | assumption | (refine' din_sub ?z17ds ?z17dh; (case z17dh => assumption); (case z17ds => tb_rel))); (case z17kc => first | assumption | omega); (case z17ka => assumption); (case z17kb => first | assumption | omega); (case z17kd => ktr_room); (case z17ku => ktr_units)); (intro t9 h9 tk9 F9 N9); (try dsimp only); (try k_fold))))
  k_with "my call ref" => ((k_here; (with_reducible show wpAny _ _ (call (Value.ref 312) _) _ _ _); k_dflt ((refine' Con.useR (c_into _ ?z26kp) el_int ?z26k1 ?z26k2 ?z26k3 ?z26k4 ?z26k5 ?z26kK ?z26kd ?z26ku ?_; (case z26k1 => k_asm); (case z26k2 => k_asm); (case z26k3 => k_asm); (case z26k4 => k_asm); (case z26k5 => k_asm); (case z26kK => first | exact rfl | assumption);  (case z26kp => first | assumption | omega); (case z26kd => ktr_room); (case z26ku => ktr_units)); (intro t9 h9 tk9 F9 N9); (try dsimp only); (try k_fold))))
  k_with "my call ref" => ((k_here; (with_reducible show wpAny _ _ (call (Value.ref 347) _) _ _ _); k_dflt ((refine' Con.useR (c_due_none _ ?z27kp) el_made ?z27k1 ?z27k2 ?z27k3 ?z27k4 ?z27k5 ?z27kK ?z27kd ?z27ku ?_; (case z27k1 => k_asm); (case z27k2 => k_asm); (case z27k3 => k_asm); (case z27k4 => k_asm); (case z27k5 => k_asm); (case z27kK => first | exact rfl | assumption);  (case z27kp => first | assumption | (refine' din_sub ?z27ds ?z27dh; (case z27dh => assumption); (case z27ds => tb_rel))); (case z27kd => ktr_room); (case z27ku => ktr_units)); (intro r9 tl9 hnd9 hD9 h9 tk9 F9 N9); (try dsimp only); (try k_fold))))
  k_with "my call ref" => ((k_here; (with_reducible show wpAny _ _ (call (Value.ref 347) _) _ _ _); k_dflt ((refine' Con.useR (c_due_num _ ?z28kp ?z28kc ?z28kb) el_made ?z28k1 ?z28k2 ?z28k3 ?z28k4 ?z28k5 ?z28kK ?z28kd ?z28ku ?_; (case z28k1 => k_asm); (case z28k2 => k_asm); (case z28k3 => k_asm); (case z28k4 => k_asm); (case z28k5 => k_asm); (case z28kK => first | exact rfl | assumption);  (case z28kp => first | assumption | (refine' din_sub ?z28ds ?z28dh; (case z28dh => assumption); (case z28ds => tb_rel))); (case z28kc => first | assumption | omega); (case z28kb => first | assumption | omega); (case z28kd => ktr_room); (case z28ku => ktr_units)); (intro r9 tl9 hnd9 hD9 h9 tk9 F9 N9); (try dsimp only); (try k_fold))))
  k_with "my call ref" => ((k_here; (with_reducible show wpAny _ _ (call (Value.ref 305) _) _ _ _); k_dflt ((refine' Con.useRW ?z29kP (c_take _ ?z29kw ?z29ks ?z29ki ?z29kn) el_take ?z29k1 ?z29k2 ?z29k3 ?z29k4 ?z29k5 ?z29kK ?z29kd ?z29ku ?_; (case z29k1 => k_asm); (case z29k2 => k_asm); (case z29k3 => k_asm); (case z29k4 => k_asm); (case z29k5 => k_asm); (case z29kK => first | exact rfl | assumption); (case z29kP => tb_start);  (case z29kw => assumption); (case z29ks => ktr_rel); (case z29ki => omega); (case z29kn => omega); (case z29kd => ktr_room); (case z29ku => ktr_units)); (intro x9 t9 o9 hx09 hxn9 hxl9 hw9 h9 tk9 F9 N9); (try dsimp only); (try k_fold))))
  k_with "my binaryOp Pow int int" => ((k_here; k_dflt (refine' pow_int_small ?z30a ?z30b ?z30c ?_; (case z30a => exact (menu_b _).1); (case z30b => exact (menu_b _).2); (case z30c => decide))))
  k_with "my subscriptTail" => (((with_reducible show wpAny _ _ (subscriptTail _ _ (Value.ref _) (Value.str _ _)) _ _ _); k_dflt ((rename WD _ _ _ _ => hwX); (obtain ⟨_, hdX⟩ := hwX))))
  k_with "my subscriptTail" => ((k_dflt ((with_reducible show wpAny _ _ (subscriptTail _ _ _ (Value.int _ _)) _ _ _); (refine' ksa_sub ?z32k1 ?z32k2 ?z32k3 ?z32k4 ?z32k5 ?z32k6 ?_ ?z32k7; (case z32k1 => k_asm); (case z32k2 => k_mem); (case z32k3 => assumption); (case z32k4 => omega); (case z32k5 => omega); (case z32k6 => omega); (case z32k7 => with_unfolding_all rfl)); intro t9)))
  exact True.intro
theorem c_number (w : World) {d l : Addr} {o : Obj} {ws : List Value} {ns : List Int} {rest : Led} {i k : Int} {tk : Tok}
    (hW : WD w o l i) (hS : Scr l ws ns rest) (hi : 0 ≤ i) (hk : 2 ≤ k ∧ k ≤ 10) :
    Con w 319 [.ref d, .int k tk] 7 128 ((d, o) :: rest) (NumP w d l rest) := by
  have hA := hS.are
  have hshort := hS.short
  obtain ⟨cl9, hL⟩ := hS.lies
  unfold Con
  w_top off
  k_fill
  intro mean mg mb dp un gd cn cs a ccd cl outer A₀ base h₀ L m s Q E B F X N T hkk hdd huu hret
  refine wpAny_call ?_
  k_dflt cell_enter
  k_steps

  all_goals (refine' hret _ _ _ _ ?F ?N ⟨_, _, _, _, rfl, ?i, ?w, rfl⟩; (case F => k_asm); (case N => exact weak (by k_asm) (by kcj_in)); (case w => first | assumption | exact ⟨_, by assumption⟩); (case i => omega))
end

/-! const -/
abbrev NvIs (nv : Value) : Option Int → Prop
  | some x => ∃ t, nv = .int x t
  | none => nv = .none
/-- e and n, as a pair: what a maker of nodes hands back; the place moved on -/
def PairP (w : World) (d l : Addr) (rest : Led) (Ok : Dat → Option Int → Prop) (r : Value) (news' : Led) : Prop :=
  ∃ D e nv q o' i' tl dd n, r = .ref D ∧ news' = (d, o') :: (tl ++ rest) ∧ NoD tl ∧ 0 ≤ i' ∧ WD w o' l i' ∧ (D, tupO [e, nv] q) ∈ tl ++ rest ∧ DatIn (tl ++ rest) e dd ∧ Ok dd n ∧ NvIs nv n
theorem pk_weak {h₀ h : Heap} {L : Addr} {x : Addr × Obj} {cur r : Led} (N : News h₀ L h cur) (P : Pk x cur r) : News h₀ L h (x :: r) := fun p hp => N p (P.mem p hp)
theorem const_end {w : World} {d l D a : Addr} {rest tl : Led} {o' : Obj} {i' x k : Int} {t t1 t2 t3 : Tok} {q c : Nat} (hw : WD w o' l i') (hi : 0 ≤ i') (hn : NoD tl) (hm : (D, tupO [.ref a, .int x t] q) ∈ tl ++ rest) (hm2 : (a, tupO [.int 1 t1, .int k t2, .int x t3] c) ∈ tl ++ rest) (hk : 2 ≤ k ∧ k ≤ 10) :
    PairP w d l rest (fun dd n => ∃ k x, (2 ≤ k ∧ k ≤ 10) ∧ dd = (In.num k x).dat ∧ n = some x) (.ref D) ((d, o') :: (tl ++ rest)) :=
  ⟨D, _, _, q, o', i', tl, (In.num k x).dat, some x, rfl, rfl, hn, hi, hw, hm, .tuple hm2 (.cons (.int _ _) (.cons (.int _ _) (.cons (.int _ _) .nil))), ⟨k, x, hk, rfl, rfl⟩, t, rfl⟩
theorem el_const {w : World} {d l : Addr} {rest : Led} : ∀ G : Value → Led → Prop,
    (∀ D e q o' i' tl k x t, NoD tl → 0 ≤ i' → WD w o' l i' → (D, tupO [e, .int x t] q) ∈ tl ++ rest → DatIn (tl ++ rest) e (In.num k x).dat → (2 ≤ k ∧ k ≤ 10) → G (.ref D) ((d, o') :: (tl ++ rest))) →
    ∀ r n, PairP w d l rest (fun dd n => ∃ k x, (2 ≤ k ∧ k ≤ 10) ∧ dd = (In.num k x).dat ∧ n = some x) r n → G r n := by
  rintro G h r n ⟨D, e, nv, q, o', i', tl, dd, n, rfl, rfl, h1, h2, h3, h4, h5, ⟨k, x, hk, rfl, rfl⟩, t, rfl⟩
  exact h D e q o' i' tl k x t h1 h2 h3 h4 h5 hk
section
local macro_rules | `(tactic| ktd_rel) => `(tactic| first | exact NoD.nil | (refine' NoD.cons ?na ?nb; (case na => first | exact tup_noD | exact list_noD); (case nb => ktd_rel)) | (refine' NoD.app ?na ?nb; (case na => assumption); (case nb => ktd_rel)) | assumption)
theorem reg_14 : True := by
  k_with_none
  k_with "my subscriptTail Name Constant ref int" => ((k_here; k_dflt (refine' item_tupleT ?z0T ?z0a ?z0b ?z0j ?z0x ?_ ?z0s; (case z0T => exact isT (by k_asm) (by k_mem)); (case z0a => decide); (case z0b => decide); (case z0j => exact rfl); (case z0x => exact rfl); (case z0s => with_unfolding_all rfl); k_whole)))
  k_with "my subscriptTail Subscript Constant ref int" => ((k_here; k_dflt (refine' item_tupleT ?z1T ?z1a ?z1b ?z1j ?z1x ?_ ?z1s; (case z1T => exact isT (by k_asm) (by k_mem)); (case z1a => decide); (case z1b => decide); (case z1j => exact rfl); (case z1x => exact rfl); (case z1s => with_unfolding_all rfl); k_whole)))
  k_with "my eval Call" => ((k_here; first | k_compRoot | k_dflt (refine Call_ ?_)))
  k_with "my call ref" => ((k_here; (with_reducible show wpAny _ _ (call (Value.ref 65) _) _ _ _); k_dflt ((refine' Con.useR (c_int_range _ ?z5kp) (el_rng ?z5kX) ?z5k1 ?z5k2 ?z5k3 ?z5k4 ?z5k5 ?z5kK ?z5kd ?z5ku ?_; (case z5k1 => k_asm); (case z5k2 => k_asm); (case z5k3 => k_asm); (case z5k4 => k_asm); (case z5k5 => k_asm); (case z5kK => first | exact rfl | assumption);  (case z5kp => first | assumption | omega); (case z5kX => k_asm); (case z5kd => ktr_room); (case z5ku => ktr_units)); (intro a9 t1 t2 hK9 hT9 h9 tk9 F9 N9); (try dsimp only); (try k_fold))))
  k_with "my call ref" => ((k_here; (with_reducible show wpAny _ _ (call (Value.ref 87) _) _ _ _); k_dflt ((refine' Con.useR (c_in_range _ ?z6kp) el_eq ?z6k1 ?z6k2 ?z6k3 ?z6k4 ?z6k5 ?z6kK ?z6kd ?z6ku ?_; (case z6k1 => k_asm); (case z6k2 => k_asm); (case z6k3 => k_asm); (case z6k4 => k_asm); (case z6k5 => k_asm); (case z6kK => first | exact rfl | assumption);  (case z6kp => first | assumption | omega); (case z6kd => ktr_room); (case z6ku => ktr_units)); (intro  h9 tk9 F9 N9); (try dsimp only); (try k_fold))))
  k_with "my call ref" => ((k_here; (with_reducible show wpAny _ _ (call (Value.ref 80) _) _ _ _); k_dflt ((refine' Con.useR (c_cut _ ?z7kp) el_int ?z7k1 ?z7k2 ?z7k3 ?z7k4 ?z7k5 ?z7kK ?z7kd ?z7ku ?_; (case z7k1 => k_asm); (case z7k2 => k_asm); (case z7k3 => k_asm); (case z7k4 => k_asm); (case z7k5 => k_asm); (case z7kK => first | exact rfl | assumption);  (case z7kp => first | assumption | omega); (case z7kd => ktr_room); (case z7ku => ktr_units)); (intro t9 h9 tk9 F9 N9); (try dsimp only); (try k_fold))))
  k_with "my call ref" => ((k_here; (with_reducible show wpAny _ _ (call (Value.ref 129) _) _ _ _); k_dflt ((refine' Con.useR2 (c_whole _ ?z8kp ?z8kc) el_conv ?z8k1 ?z8k2 ?z8k3 ?z8k4 ?z8k5 ?z8kK ?z8kd ?z8ku ?_ ?_; (case z8k1 => k_asm); (case z8k2 => k_asm); (case z8k3 => k_asm); (case z8k4 => k_asm); (case z8k5 => k_asm); (case z8kK => first | exact rfl | assumption);  (case z8kp => first | assumption | omega); (case z8kc => first | assumption | omega); (case z8kd => ktr_room); (case z8ku => ktr_units)); (intro tl9 D9 t9 q9 tv9 hnd9 hm9 hok9 h9 tk9 F9 N9); (try dsimp only); (try k_fold); rotate_left; (intro tl9 D9 t9 q9 hnd9 hm9 hok9 h9 tk9 F9 N9); (try dsimp only); (try k_fold); rotate_left)))
  k_with "my call ref" => ((k_here; (with_reducible show wpAny _ _ (call (Value.ref 150) _) _ _ _); k_dflt ((refine' Con.useR2 (c_conv _ ?z9kp ?z9kc) el_conv ?z9k1 ?z9k2 ?z9k3 ?z9k4 ?z9k5 ?z9kK ?z9kd ?z9ku ?_ ?_; (case z9k1 => k_asm); (case z9k2 => k_asm); (case z9k3 => k_asm); (case z9k4 => k_asm); (case z9k5 => k_asm); (case z9kK => first | exact rfl | assumption);  (case z9kp => first | assumption | omega); (case z9kc => first | assumption | omega); (case z9kd => ktr_room); (case z9ku => ktr_units)); (intro tl9 D9 t9 q9 tv9 hnd9 hm9 hok9 h9 tk9 F9 N9); (try dsimp only); (try k_fold); rotate_left; (intro tl9 D9 t9 q9 hnd9 hm9 hok9 h9 tk9 F9 N9); (try dsimp only); (try k_fold); rotate_left)))
  k_with "my call ref" => ((k_here; (with_reducible show wpAny _ _ (call (Value.ref 164) _) _ _ _); k_dflt ((refine' Con.useR (c_numeric_no _ ?z10kp ?z10kc ?z10ke) el_eq ?z10k1 ?z10k2 ?z10k3 ?z10k4 ?z10k5 ?z10kK ?z10kd ?z10ku ?_; (case z10k1 => k_asm); (case z10k2 => k_asm); (case z10k3 => k_asm); (case z10k4 => k_asm); (case z10k5 => k_asm); (case z10kK => first | exact rfl | assumption);  (case z10kp => first | assumption | (refine' din_sub ?z10ds ?z10dh; (case z10dh => assumption); (case z10ds => tb_rel))); (case z10kc => assumption); (case z10ke => assumption); (case z10kd => ktr_room); (case z10ku => ktr_units)); (intro  h9 tk9 F9 N9); (try dsimp only); (try k_fold))))
  k_with "my call ref" => ((k_here; (with_reducible show wpAny _ _ (call (Value.ref 164) _) _ _ _); k_dflt ((refine' Con.useR (c_numeric _ ?z11kp ?z11kc) el_eq ?z11k1 ?z11k2 ?z11k3 ?z11k4 ?z11k5 ?z11kK ?z11kd ?z11ku ?_; (case z11k1 => k_asm); (case z11k2 => k_asm); (case z11k3 => k_asm); (case z11k4 => k_asm); (case z11k5 => k_asm); (case z11kK => first | exact rfl | assumption);  (case z11kp => first | assumption | (refine' din_sub ?z11ds ?z11dh; (case z11dh => assumption); (case z11ds => tb_rel))); (case z11kc => first | assumption | omega); (case z11kd => ktr_room); (case z11ku => ktr_units)); (intro  h9 tk9 F9 N9); (try dsimp only); (try k_fold))))
  k_with "my call ref" => ((k_here; (with_reducible show wpAny _ _ (call (Value.ref 248) _) _ _ _); k_dflt ((refine' Con.useR (c_under_still _ ?z14kp ?z14kc) el_eq ?z14k1 ?z14k2 ?z14k3 ?z14k4 ?z14k5 ?z14kK ?z14kd ?z14ku ?_; (case z14k1 => k_asm); (case z14k2 => k_asm); (case z14k3 => k_asm); (case z14k4 => k_asm); (case z14k5 => k_asm); (case z14kK => first | exact rfl | assumption);  (case z14kp => first | assumption | (refine' din_sub ?z14ds ?z14dh; (case z14dh => assumption); (case z14ds => tb_rel))); (case z14kc => assumption); (case z14kd => ktr_room); (case z14ku => ktr_units)); (intro  h9 tk9 F9 N9); (try dsimp only); (try k_fold))))
  k_with "my call ref" => ((k_here; (with_reducible show wpAny _ _ (call (Value.ref 248) _) _ _ _); k_dflt ((refine' Con.useR (c_under_num _ ?z15kp ?z15kc ?z15ka ?z15kb) el_made ?z15k1 ?z15k2 ?z15k3 ?z15k4 ?z15k5 ?z15kK ?z15kd ?z15ku ?_; (case z15k1 => k_asm); (case z15k2 => k_asm); (case z15k3 => k_asm); (case z15k4 => k_asm); (case z15k5 => k_asm); (case z15kK => first | exact rfl | assumption);  (case z15kp => first | assumption | (refine' din_sub ?z15ds ?z15dh; (case z15dh => assumption); (case z15ds => tb_rel))); (case z15kc => first | assumption | omega); (case z15ka => assumption); (case z15kb => first | assumption | omega); (case z15kd => ktr_room); (case z15ku => ktr_units)); (intro r9 tl9 hnd9 hD9 h9 tk9 F9 N9); (try dsimp only); (try k_fold))))
  k_with "my call ref" => ((k_here; (with_reducible show wpAny _ _ (call (Value.ref 213) _) _ _ _); k_dflt ((refine' Con.useR (c_fault_still _ ?z16kp ?z16kc) el_int ?z16k1 ?z16k2 ?z16k3 ?z16k4 ?z16k5 ?z16kK ?z16kd ?z16ku ?_; (case z16k1 => k_asm); (case z16k2 => k_asm); (case z16k3 => k_asm); (case z16k4 => k_asm); (case z16k5 => k_asm); (case z16kK => first | exact rfl | assumption);  (case z16kp => first | assumption | (refine' din_sub ?z16ds ?z16dh; (case z16dh => assumption); (case z16ds => tb_rel))); (case z16kc => assumption); (case z16kd => ktr_room); (case z16ku => ktr_units)); (intro t9 h9 tk9 F9 N9); (try dsimp only); (try k_fold))))
  k_with "my call ref" => ((k_here; (with_reducible show wpAny _ _ (call (Value.ref 213) _) _ _ _); k_dflt ((refine' Con.useR (c_fault_num _ ?z17kp ?z17kc ?z17ka ?z17kb) el_int ?z17k1 ?z17k2 ?z17k3 ?z17k4 ?z17k5 ?z17kK ?z17kd ?z17ku ?_; (case z17k1 => k_asm); (case z17k2 => k_asm); (case z17k3 => k_asm); (case z17k4 => k_asm); (case z17k5 => k_asm); (case z17kK => first | exact rfl | assumption);  (case z17kp => first | assumption | (refine' din_sub ?z17ds ?z17dh; (case z17dh => assumption); (case z17ds => tb_rel))); (case z17kc => first | assumption | omega); (case z17ka => assumption); (case z17kb => first | assumption | omega); (case z17kd => ktr_room); (case z17ku => ktr_units)); (intro t9 h9 tk9 F9 N9); (try dsimp only); (try k_fold))))
  k_with "my call ref" => ((k_here; (with_reducible show wpAny _ _ (call (Value.ref 312) _) _ _ _); k_dflt ((refine' Con.useR (c_into _ ?z26kp) el_int ?z26k1 ?z26k2 ?z26k3 ?z26k4 ?z26k5 ?z26kK ?z26kd ?z26ku ?_; (case z26k1 => k_asm); (case z26k2 => k_asm); (case z26k3 => k_asm); (case z26k4 => k_asm); (case z26k5 => k_asm); (case z26kK => first | exact rfl | assumption);  (case z26kp => first | assumption | omega); (case z26kd => ktr_room); (case z26ku => ktr_units)); (intro t9 h9 tk9 F9 N9); (try dsimp only); (try k_fold))))
  k_with "my call ref" => ((k_here; (with_reducible show wpAny _ _ (call (Value.ref 347) _) _ _ _); k_dflt ((refine' Con.useR (c_due_none _ ?z27kp) el_made ?z27k1 ?z27k2 ?z27k3 ?z27k4 ?z27k5 ?z27kK ?z27kd ?z27ku ?_; (case z27k1 => k_asm); (case z27k2 => k_asm); (case z27k3 => k_asm); (case z27k4 => k_asm); (case z27k5 => k_asm); (case z27kK => first | exact rfl | assumption);  (case z27kp => first | assumption | (refine' din_sub ?z27ds ?z27dh; (case z27dh => assumption); (case z27ds => tb_rel))); (case z27kd => ktr_room); (case z27ku => ktr_units)); (intro r9 tl9 hnd9 hD9 h9 tk9 F9 N9); (try dsimp only); (try k_fold))))
  k_with "my call ref" => ((k_here; (with_reducible show wpAny _ _ (call (Value.ref 347) _) _ _ _); k_dflt ((refine' Con.useR (c_due_num _ ?z28kp ?z28kc ?z28kb) el_made ?z28k1 ?z28k2 ?z28k3 ?z28k4 ?z28k5 ?z28kK ?z28kd ?z28ku ?_; (case z28k1 => k_asm); (case z28k2 => k_asm); (case z28k3 => k_asm); (case z28k4 => k_asm); (case z28k5 => k_asm); (case z28kK => first | exact rfl | assumption);  (case z28kp => first | assumption | (refine' din_sub ?z28ds ?z28dh; (case z28dh => assumption); (case z28ds => tb_rel))); (case z28kc => first | assumption | omega); (case z28kb => first | assumption | omega); (case z28kd => ktr_room); (case z28ku => ktr_units)); (intro r9 tl9 hnd9 hD9 h9 tk9 F9 N9); (try dsimp only); (try k_fold))))
  k_with "my call ref" => ((k_here; (with_reducible show wpAny _ _ (call (Value.ref 305) _) _ _ _); k_dflt ((refine' Con.useRW ?z29kP (c_take _ ?z29kw ?z29ks ?z29ki ?z29kn) el_take ?z29k1 ?z29k2 ?z29k3 ?z29k4 ?z29k5 ?z29kK ?z29kd ?z29ku ?_; (case z29k1 => k_asm); (case z29k2 => k_asm); (case z29k3 => k_asm); (case z29k4 => k_asm); (case z29k5 => k_asm); (case z29kK => first | exact rfl | assumption); (case z29kP => tb_start);  (case z29kw => assumption); (case z29ks => ktr_rel); (case z29ki => omega); (case z29kn => omega); (case z29kd => ktr_room); (case z29ku => ktr_units)); (intro x9 t9 o9 hx09 hxn9 hxl9 hw9 h9 tk9 F9 N9); (try dsimp only); (try k_fold))))
  k_with "my call ref" => ((k_here; (with_reducible show wpAny _ _ (call (Value.ref 319) _) _ _ _); k_dflt ((refine' Con.useRW ?z33kP (c_number _ ?z33kw ?z33ks ?z33ki ?z33kn) el_num ?z33k1 ?z33k2 ?z33k3 ?z33k4 ?z33k5 ?z33kK ?z33kd ?z33ku ?_; (case z33k1 => k_asm); (case z33k2 => k_asm); (case z33k3 => k_asm); (case z33k4 => k_asm); (case z33k5 => k_asm); (case z33kK => first | exact rfl | assumption); (case z33kP => tb_start);  (case z33kw => assumption); (case z33ks => ktr_rel); (case z33ki => omega); (case z33kn => first | assumption | omega | exact kmenu_b (by assumption) (by assumption) | exact umenu_b (by assumption) (by assumption)); (case z33kd => ktr_room); (case z33ku => ktr_units)); (intro x9 t9 o9 i9 hi09 hw9 h9 tk9 F9 N9); (try dsimp only); (try k_fold))))
  exact True.intro
theorem c_constant (w : World) {d l : Addr} {o : Obj} {ws : List Value} {ns : List Int} {rest : Led} {i : Int}
    (hW : WD w o l i) (hS : Scr l ws ns rest) (hi : 0 ≤ i) :
    Con w 326 [.ref d] 10 192 ((d, o) :: rest) (PairP w d l rest (fun dd n => ∃ k x, (2 ≤ k ∧ k ≤ 10) ∧ dd = (In.num k x).dat ∧ n = some x)) := by
  unfold Con
  w_top off
  k_fill
  intro mean mg mb dp un gd cn cs a ccd cl outer A₀ base h₀ L m s Q E B F X N T hkk hdd huu hret
  refine wpAny_call ?_
  k_dflt cell_enter
  k_steps
  exact hret _ _ _ ((d, _) :: ((_ :: _ :: _ :: []) ++ rest)) (by k_asm) (pk_weak (by k_asm) (by tb_start)) (const_end (by assumption) (by omega) (by ktd_rel) (List.Mem.head _) (by k_mem) (by exact kmenu_b (by assumption) (by assumption)))
end
local macro_rules | `(tactic| ktd_rel) => `(tactic| first | exact NoD.nil | (refine' NoD.cons ?na ?nb; (case na => first | exact tup_noD | exact list_noD); (case nb => ktd_rel)) | (refine' NoD.app ?na ?nb; (case na => assumption); (case nb => ktd_rel)) | assumption)

/-! inner -/
def InOk (dd : Dat) (n : Option Int) : Prop := ∃ i : In, i.ok ∧ dd = i.dat ∧ n = i.n
section
variable {w : World} {d l D a : Addr} {rest tl : Led} {o' : Obj} {i' x k : Int} {t t1 t2 t3 t4 t5 t6 t7 : Tok} {q c c' : Nat} {ve : Value}
theorem num_end (hw : WD w o' l i') (hi : 0 ≤ i') (hn : NoD tl) (hm : (D, tupO [.ref a, .int x t] q) ∈ tl ++ rest) (hm2 : (a, tupO [.int 1 t1, .int k t2, .int x t3] c) ∈ tl ++ rest) (hk : (2 ≤ k ∧ k ≤ 10) ∨ (40 ≤ k ∧ k ≤ 47)) :
    PairP w d l rest InOk (.ref D) ((d, o') :: (tl ++ rest)) :=
  ⟨D, _, _, q, o', i', tl, (In.num k x).dat, some x, rfl, rfl, hn, hi, hw, hm, .tuple hm2 (.cons (.int _ _) (.cons (.int _ _) (.cons (.int _ _) .nil))), ⟨.num k x, hk, rfl, rfl⟩, t, rfl⟩
theorem txt_end (hw : WD w o' l i') (hi : 0 ≤ i') (hn : NoD tl) (hm : (D, tupO [.ref a, .none] q) ∈ tl ++ rest) (hm2 : (a, tupO [.int 1 t1, .int 13 t2, .str (Str.ofString "7") t3] c) ∈ tl ++ rest) :
    PairP w d l rest InOk (.ref D) ((d, o') :: (tl ++ rest)) :=
  ⟨D, _, _, q, o', i', tl, In.txt.dat, none, rfl, rfl, hn, hi, hw, hm, .tuple hm2 (.cons (.int _ _) (.cons (.int _ _) (.cons (.str _ _) .nil))), ⟨.txt, True.intro, rfl, rfl⟩, rfl⟩
theorem nul_end (hw : WD w o' l i') (hi : 0 ≤ i') (hn : NoD tl) (hm : (D, tupO [.ref a, .none] q) ∈ tl ++ rest) (hm2 : (a, tupO [.int 1 t1, .int k t2, .none] c) ∈ tl ++ rest) (hk : k = 14 ∨ k = 12) :
    PairP w d l rest InOk (.ref D) ((d, o') :: (tl ++ rest)) :=
  ⟨D, _, _, q, o', i', tl, (In.nul k).dat, none, rfl, rfl, hn, hi, hw, hm, .tuple hm2 (.cons (.int _ _) (.cons (.int _ _) (.cons .none .nil))), ⟨.nul k, hk, rfl, rfl⟩, rfl⟩
theorem bad_end (hw : WD w o' l i') (hi : 0 ≤ i') (hn : NoD tl) (hm : (D, tupO [.ref a, .none] q) ∈ tl ++ rest) (hm2 : (a, tupO [.int 1 t1, .int 15 t2, .int 7 t3] c) ∈ tl ++ rest) :
    PairP w d l rest InOk (.ref D) ((d, o') :: (tl ++ rest)) :=
  ⟨D, _, _, q, o', i', tl, In.bad.dat, none, rfl, rfl, hn, hi, hw, hm, .tuple hm2 (.cons (.int _ _) (.cons (.int _ _) (.cons (.int _ _) .nil))), ⟨.bad, True.intro, rfl, rfl⟩, rfl⟩
theorem loc_end (hw : WD w o' l i') (hi : 0 ≤ i') (hn : NoD tl) (hm : (D, tupO [.ref a, .none] q) ∈ tl ++ rest) (hm2 : (a, tupO [.int 2 t1, .int 7 t2, .int 5 t3] c) ∈ tl ++ rest) :
    PairP w d l rest InOk (.ref D) ((d, o') :: (tl ++ rest)) :=
  ⟨D, _, _, q, o', i', tl, In.loc.dat, none, rfl, rfl, hn, hi, hw, hm, .tuple hm2 (.cons (.int _ _) (.cons (.int _ _) (.cons (.int _ _) .nil))), ⟨.loc, True.intro, rfl, rfl⟩, rfl⟩
theorem sum_end {b : Addr} (hw : WD w o' l i') (hi : 0 ≤ i') (hn : NoD tl) (hm : (D, tupO [.ref a, .none] q) ∈ tl ++ rest) (hm2 : (a, tupO [.int 14 t1, .int 7 t2, .str (Str.ofString "+") t3, ve, .ref b, .int 0 t4] c) ∈ tl ++ rest) (hm3 : (b, tupO [.int 1 t7, .int 7 t5, .int 1 t6] c') ∈ tl ++ rest) (hD : DatIn (tl ++ rest) ve (In.num k x).dat) (hk : 2 ≤ k ∧ k ≤ 10) :
    PairP w d l rest InOk (.ref D) ((d, o') :: (tl ++ rest)) :=
  ⟨D, _, _, q, o', i', tl, (In.sum k x).dat, none, rfl, rfl, hn, hi, hw, hm, .tuple hm2 (.cons (.int _ _) (.cons (.int _ _) (.cons (.str _ _) (.cons hD (.cons (.tuple hm3 (.cons (.int _ _) (.cons (.int _ _) (.cons (.int _ _) .nil)))) (.cons (.int _ _) .nil)))))), ⟨.sum k x, hk, rfl, rfl⟩, rfl⟩
end
theorem el_inner {w : World} {d l : Addr} {rest : Led} : ∀ G : Value → Led → Prop,
    (∀ D e nv q o' i' tl (i : In) n, NoD tl → 0 ≤ i' → WD w o' l i' → (D, tupO [e, nv] q) ∈ tl ++ rest → DatIn (tl ++ rest) e i.dat → i.ok → n = i.n → NvIs nv n → G (.ref D) ((d, o') :: (tl ++ rest))) →
    ∀ r n, PairP w d l rest InOk r n → G r n := by
  rintro G h r n ⟨D, e, nv, q, o', i', tl, dd, n, rfl, rfl, h1, h2, h3, h4, h5, ⟨i, h6, rfl, h7⟩, h8⟩
  exact h D e nv q o' i' tl i n h1 h2 h3 h4 h5 h6 h7 h8
theorem reg_15 : True := by
  k_with_none
  k_with "my subscriptTail Name Constant ref int" => ((k_here; k_dflt (refine' item_tupleT ?z0T ?z0a ?z0b ?z0j ?z0x ?_ ?z0s; (case z0T => exact isT (by k_asm) (by k_mem)); (case z0a => decide); (case z0b => decide); (case z0j => exact rfl); (case z0x => exact rfl); (case z0s => with_unfolding_all rfl); k_whole)))
  k_with "my subscriptTail Subscript Constant ref int" => ((k_here; k_dflt (refine' item_tupleT ?z1T ?z1a ?z1b ?z1j ?z1x ?_ ?z1s; (case z1T => exact isT (by k_asm) (by k_mem)); (case z1a => decide); (case z1b => decide); (case z1j => exact rfl); (case z1x => exact rfl); (case z1s => with_unfolding_all rfl); k_whole)))
  k_with "my eval Call" => ((k_here; first | k_compRoot | k_dflt (refine Call_ ?_)))
  k_with "my call ref" => ((k_here; (with_reducible show wpAny _ _ (call (Value.ref 65) _) _ _ _); k_dflt ((refine' Con.useR (c_int_range _ ?z5kp) (el_rng ?z5kX) ?z5k1 ?z5k2 ?z5k3 ?z5k4 ?z5k5 ?z5kK ?z5kd ?z5ku ?_; (case z5k1 => k_asm); (case z5k2 => k_asm); (case z5k3 => k_asm); (case z5k4 => k_asm); (case z5k5 => k_asm); (case z5kK => first | exact rfl | assumption);  (case z5kp => first | assumption | omega); (case z5kX => k_asm); (case z5kd => ktr_room); (case z5ku => ktr_units)); (intro a9 t1 t2 hK9 hT9 h9 tk9 F9 N9); (try dsimp only); (try k_fold))))
  k_with "my call ref" => ((k_here; (with_reducible show wpAny _ _ (call (Value.ref 87) _) _ _ _); k_dflt ((refine' Con.useR (c_in_range _ ?z6kp) el_eq ?z6k1 ?z6k2 ?z6k3 ?z6k4 ?z6k5 ?z6kK ?z6kd ?z6ku ?_; (case z6k1 => k_asm); (case z6k2 => k_asm); (case z6k3 => k_asm); (case z6k4 => k_asm); (case z6k5 => k_asm); (case z6kK => first | exact rfl | assumption);  (case z6kp => first | assumption | omega); (case z6kd => ktr_room); (case z6ku => ktr_units)); (intro  h9 tk9 F9 N9); (try dsimp only); (try k_fold))))
  k_with "my call ref" => ((k_here; (with_reducible show wpAny _ _ (call (Value.ref 80) _) _ _ _); k_dflt ((refine' Con.useR (c_cut _ ?z7kp) el_int ?z7k1 ?z7k2 ?z7k3 ?z7k4 ?z7k5 ?z7kK ?z7kd ?z7ku ?_; (case z7k1 => k_asm); (case z7k2 => k_asm); (case z7k3 => k_asm); (case z7k4 => k_asm); (case z7k5 => k_asm); (case z7kK => first | exact rfl | assumption);  (case z7kp => first | assumption | omega); (case z7kd => ktr_room); (case z7ku => ktr_units)); (intro t9 h9 tk9 F9 N9); (try dsimp only); (try k_fold))))
  k_with "my call ref" => ((k_here; (with_reducible show wpAny _ _ (call (Value.ref 129) _) _ _ _); k_dflt ((refine' Con.useR2 (c_whole _ ?z8kp ?z8kc) el_conv ?z8k1 ?z8k2 ?z8k3 ?z8k4 ?z8k5 ?z8kK ?z8kd ?z8ku ?_ ?_; (case z8k1 => k_asm); (case z8k2 => k_asm); (case z8k3 => k_asm); (case z8k4 => k_asm); (case z8k5 => k_asm); (case z8kK => first | exact rfl | assumption);  (case z8kp => first | assumption | omega); (case z8kc => first | assumption | omega); (case z8kd => ktr_room); (case z8ku => ktr_units)); (intro tl9 D9 t9 q9 tv9 hnd9 hm9 hok9 h9 tk9 F9 N9); (try dsimp only); (try k_fold); rotate_left; (intro tl9 D9 t9 q9 hnd9 hm9 hok9 h9 tk9 F9 N9); (try dsimp only); (try k_fold); rotate_left)))
  k_with "my call ref" => ((k_here; (with_reducible show wpAny _ _ (call (Value.ref 150) _) _ _ _); k_dflt ((refine' Con.useR2 (c_conv _ ?z9kp ?z9kc) el_conv ?z9k1 ?z9k2 ?z9k3 ?z9k4 ?z9k5 ?z9kK ?z9kd ?z9ku ?_ ?_; (case z9k1 => k_asm); (case z9k2 => k_asm); (case z9k3 => k_asm); (case z9k4 => k_asm); (case z9k5 => k_asm); (case z9kK => first | exact rfl | assumption);  (case z9kp => first | assumption | omega); (case z9kc => first | assumption | omega); (case z9kd => ktr_room); (case z9ku => ktr_units)); (intro tl9 D9 t9 q9 tv9 hnd9 hm9 hok9 h9 tk9 F9 N9); (try dsimp only); (try k_fold); rotate_left; (intro tl9 D9 t9 q9 hnd9 hm9 hok9 h9 tk9 F9 N9); (try dsimp only); (try k_fold); rotate_left)))
  k_with "my call ref" => ((k_here; (with_reducible show wpAny _ _ (call (Value.ref 164) _) _ _ _); k_dflt ((refine' Con.useR (c_numeric_no _ ?z10kp ?z10kc ?z10ke) el_eq ?z10k1 ?z10k2 ?z10k3 ?z10k4 ?z10k5 ?z10kK ?z10kd ?z10ku ?_; (case z10k1 => k_asm); (case z10k2 => k_asm); (case z10k3 => k_asm); (case z10k4 => k_asm); (case z10k5 => k_asm); (case z10kK => first | exact rfl | assumption);  (case z10kp => first | assumption | (refine' din_sub ?z10ds ?z10dh; (case z10dh => assumption); (case z10ds => tb_rel))); (case z10kc => assumption); (case z10ke => assumption); (case z10kd => ktr_room); (case z10ku => ktr_units)); (intro  h9 tk9 F9 N9); (try dsimp only); (try k_fold))))
  k_with "my call ref" => ((k_here; (with_reducible show wpAny _ _ (call (Value.ref 164) _) _ _ _); k_dflt ((refine' Con.useR (c_numeric _ ?z11kp ?z11kc) el_eq ?z11k1 ?z11k2 ?z11k3 ?z11k4 ?z11k5 ?z11kK ?z11kd ?z11ku ?_; (case z11k1 => k_asm); (case z11k2 => k_asm); (case z11k3 => k_asm); (case z11k4 => k_asm); (case z11k5 => k_asm); (case z11kK => first | exact rfl | assumption);  (case z11kp => first | assumption | (refine' din_sub ?z11ds ?z11dh; (case z11dh => assumption); (case z11ds => tb_rel))); (case z11kc => first | assumption | omega); (case z11kd => ktr_room); (case z11ku => ktr_units)); (intro  h9 tk9 F9 N9); (try dsimp only); (try k_fold))))
  k_with "my call ref" => ((k_here; (with_reducible show wpAny _ _ (call (Value.ref 248) _) _ _ _); k_dflt ((refine' Con.useR (c_under_still _ ?z14kp ?z14kc) el_eq ?z14k1 ?z14k2 ?z14k3 ?z14k4 ?z14k5 ?z14kK ?z14kd ?z14ku ?_; (case z14k1 => k_asm); (case z14k2 => k_asm); (case z14k3 => k_asm); (case z14k4 => k_asm); (case z14k5 => k_asm); (case z14kK => first | exact rfl | assumption);  (case z14kp => first | assumption | (refine' din_sub ?z14ds ?z14dh; (case z14dh => assumption); (case z14ds => tb_rel))); (case z14kc => assumption); (case z14kd => ktr_room); (case z14ku => ktr_units)); (intro  h9 tk9 F9 N9); (try dsimp only); (try k_fold))))
  k_with "my call ref" => ((k_here; (with_reducible show wpAny _ _ (call (Value.ref 248) _) _ _ _); k_dflt ((refine' Con.useR (c_under_num _ ?z15kp ?z15kc ?z15ka ?z15kb) el_made ?z15k1 ?z15k2 ?z15k3 ?z15k4 ?z15k5 ?z15kK ?z15kd ?z15ku ?_; (case z15k1 => k_asm); (case z15k2 => k_asm); (case z15k3 => k_asm); (case z15k4 => k_asm); (case z15k5 => k_asm); (case z15kK => first | exact rfl | assumption);  (case z15kp => first | assumption | (refine' din_sub ?z15ds ?z15dh; (case z15dh => assumption); (case z15ds => tb_rel))); (case z15kc => first | assumption | omega); (case z15ka => assumption); (case z15kb => first | assumption | omega); (case z15kd => ktr_room); (case z15ku => ktr_units)); (intro r9 tl9 hnd9 hD9 h9 tk9 F9 N9); (try dsimp only); (try k_fold))))
  k_with "my call ref" => ((k_here; (with_reducible show wpAny _ _ (call (Value.ref 213) _) _ _ _); k_dflt ((refine' Con.useR (c_fault_still _ ?z16kp ?z16kc) el_int ?z16k1 ?z16k2 ?z16k3 ?z16k4 ?z16k5 ?z16kK ?z16kd ?z16ku ?_; (case z16k1 => k_asm); (case z16k2 => k_asm); (case z16k3 => k_asm); (case z16k4 => k_asm); (case z16k5 => k_asm); (case z16kK => first | exact rfl | assumption);  (case z16kp => first | assumption | (refine' din_sub ?z16ds ?z16dh; (case z16dh => assumption); (case z16ds => tb_rel))); (case z16kc => assumption); (case z16kd => ktr_room); (case z16ku => ktr_units)); (intro t9 h9 tk9 F9 N9); (try dsimp only); (try k_fold))))
  k_with "my call ref" => ((k_here; (with_reducible show wpAny _ _ (call (Value.ref 213) _) _ _ _); k_dflt ((refine' Con.useR (c_fault_num _ ?z17kp ?z17kc ?z17ka ?z17kb) el_int ?z17k1 ?z17k2 ?z17k3 ?z17k4 ?z17k5 ?z17kK ?z17kd ?z17ku ?_; (case z17k1 => k_asm); (case z17k2 => k_asm); (case z17k3 => k_asm); (case z17k4 => k_asm); (case z17k5 => k_asm); (case z17kK => first | exact rfl | assumption);  (case z17kp => first | assumption | (refine' din_sub ?z17ds ?z17dh; (case z17dh => assumption); (case z17ds => tb_rel))); (case z17kc => first | assumption | omega); (case z17ka => assumption); (case z17kb => first | assumption | omega); (case z17kd => ktr_room); (case z17ku => ktr_units)); (intro t9 h9 tk9 F9 N9); (try dsimp only); (try k_fold))))
  k_with "my call ref" => ((k_here; (with_reducible show wpAny _ _ (call (Value.ref 312) _) _ _ _); k_dflt ((refine' Con.useR (c_into _ ?z26kp) el_int ?z26k1 ?z26k2 ?z26k3 ?z26k4 ?z26k5 ?z26kK ?z26kd ?z26ku ?_; (case z26k1 => k_asm); (case z26k2 => k_asm); (case z26k3 => k_asm); (case z26k4 => k_asm); (case z26k5 => k_asm); (case z26kK => first | exact rfl | assumption);  (case z26kp => first | assumption | omega); (case z26kd => ktr_room); (case z26ku => ktr_units)); (intro t9 h9 tk9 F9 N9); (try dsimp only); (try k_fold))))
  k_with "my call ref" => ((k_here; (with_reducible show wpAny _ _ (call (Value.ref 347) _) _ _ _); k_dflt ((refine' Con.useR (c_due_none _ ?z27kp) el_made ?z27k1 ?z27k2 ?z27k3 ?z27k4 ?z27k5 ?z27kK ?z27kd ?z27ku ?_; (case z27k1 => k_asm); (case z27k2 => k_asm); (case z27k3 => k_asm); (case z27k4 => k_asm); (case z27k5 => k_asm); (case z27kK => first | exact rfl | assumption);  (case z27kp => first | assumption | (refine' din_sub ?z27ds ?z27dh; (case z27dh => assumption); (case z27ds => tb_rel))); (case z27kd => ktr_room); (case z27ku => ktr_units)); (intro r9 tl9 hnd9 hD9 h9 tk9 F9 N9); (try dsimp only); (try k_fold))))
  k_with "my call ref" => ((k_here; (with_reducible show wpAny _ _ (call (Value.ref 347) _) _ _ _); k_dflt ((refine' Con.useR (c_due_num _ ?z28kp ?z28kc ?z28kb) el_made ?z28k1 ?z28k2 ?z28k3 ?z28k4 ?z28k5 ?z28kK ?z28kd ?z28ku ?_; (case z28k1 => k_asm); (case z28k2 => k_asm); (case z28k3 => k_asm); (case z28k4 => k_asm); (case z28k5 => k_asm); (case z28kK => first | exact rfl | assumption);  (case z28kp => first | assumption | (refine' din_sub ?z28ds ?z28dh; (case z28dh => assumption); (case z28ds => tb_rel))); (case z28kc => first | assumption | omega); (case z28kb => first | assumption | omega); (case z28kd => ktr_room); (case z28ku => ktr_units)); (intro r9 tl9 hnd9 hD9 h9 tk9 F9 N9); (try dsimp only); (try k_fold))))
  k_with "my call ref" => ((k_here; (with_reducible show wpAny _ _ (call (Value.ref 305) _) _ _ _); k_dflt ((refine' Con.useRW ?z29kP (c_take _ ?z29kw ?z29ks ?z29ki ?z29kn) el_take ?z29k1 ?z29k2 ?z29k3 ?z29k4 ?z29k5 ?z29kK ?z29kd ?z29ku ?_; (case z29k1 => k_asm); (case z29k2 => k_asm); (case z29k3 => k_asm); (case z29k4 => k_asm); (case z29k5 => k_asm); (case z29kK => first | exact rfl | assumption); (case z29kP => tb_start);  (case z29kw => assumption); (case z29ks => ktr_rel); (case z29ki => omega); (case z29kn => omega); (case z29kd => ktr_room); (case z29ku => ktr_units)); (intro x9 t9 o9 hx09 hxn9 hxl9 hw9 h9 tk9 F9 N9); (try dsimp only); (try k_fold))))
  k_with "my call ref" => ((k_here; (with_reducible show wpAny _ _ (call (Value.ref 319) _) _ _ _); k_dflt ((refine' Con.useRW ?z33kP (c_number _ ?z33kw ?z33ks ?z33ki ?z33kn) el_num ?z33k1 ?z33k2 ?z33k3 ?z33k4 ?z33k5 ?z33kK ?z33kd ?z33ku ?_; (case z33k1 => k_asm); (case z33k2 => k_asm); (case z33k3 => k_asm); (case z33k4 => k_asm); (case z33k5 => k_asm); (case z33kK => first | exact rfl | assumption); (case z33kP => tb_start);  (case z33kw => assumption); (case z33ks => ktr_rel); (case z33ki => omega); (case z33kn => first | assumption | omega | exact kmenu_b (by assumption) (by assumption) | exact umenu_b (by assumption) (by assumption)); (case z33kd => ktr_room); (case z33ku => ktr_units)); (intro x9 t9 o9 i9 hi09 hw9 h9 tk9 F9 N9); (try dsimp only); (try k_fold))))
  k_with "my call ref" => ((k_here; (with_reducible show wpAny _ _ (call (Value.ref 326) _) _ _ _); k_dflt ((refine' Con.useRW ?z34kP (c_constant _ ?z34kw ?z34ks ?z34ki) el_const ?z34k1 ?z34k2 ?z34k3 ?z34k4 ?z34k5 ?z34kK ?z34kd ?z34ku ?_; (case z34k1 => k_asm); (case z34k2 => k_asm); (case z34k3 => k_asm); (case z34k4 => k_asm); (case z34k5 => k_asm); (case z34kK => first | exact rfl | assumption); (case z34kP => tb_start);  (case z34kw => assumption); (case z34ks => ktr_rel); (case z34ki => omega); (case z34kd => ktr_room); (case z34ku => ktr_units)); (intro D9 e9 q9 o9 i9 tl9 k9 x9 tv9 hnd9 hi09 hw9 hm9 hD9 hk9 h9 tk9 F9 N9); (try dsimp only); (try k_fold))))
  exact True.intro
theorem c_inner (w : World) {d l : Addr} {o : Obj} {ws : List Value} {ns : List Int} {rest : Led} {i : Int}
    (hW : WD w o l i) (hS : Scr l ws ns rest) (hi : 0 ≤ i) :
    Con w 333 [.ref d] 13 256 ((d, o) :: rest) (PairP w d l rest InOk) := by
  unfold Con
  w_top off
  k_fill
  intro mean mg mb dp un gd cn cs a ccd cl outer A₀ base h₀ L m s Q E B F X N T hkk hdd huu hret
  refine wpAny_call ?_
  k_dflt cell_enter
  k_steps
  · exact hret _ _ _ _ (by k_asm) (by k_asm) ⟨_, _, _, _, _, _, _, _, _, rfl, rfl, by assumption, by assumption, by assumption, by assumption, by assumption, ⟨In.num _ _, .inl (by assumption), rfl, rfl⟩, ⟨_, rfl⟩⟩
  · exact hret _ _ _ ((d, _) :: ((_ :: _ :: []) ++ rest)) (by k_asm) (pk_weak (by k_asm) (by tb_start)) (num_end (by assumption) (by omega) (by ktd_rel) (List.Mem.head _) (by k_mem) (.inr ⟨by omega, by omega⟩))
  · exact hret _ _ _ ((d, _) :: ((_ :: _ :: []) ++ rest)) (by k_asm) (pk_weak (by k_asm) (by tb_start)) (txt_end (by assumption) (by omega) (by ktd_rel) (List.Mem.head _) (by k_mem))
  · exact hret _ _ _ ((d, _) :: ((_ :: _ :: []) ++ rest)) (by k_asm) (pk_weak (by k_asm) (by tb_start)) (nul_end (by assumption) (by omega) (by ktd_rel) (List.Mem.head _) (by k_mem) (.inl rfl))
  · exact hret _ _ _ ((d, _) :: ((_ :: _ :: []) ++ rest)) (by k_asm) (pk_weak (by k_asm) (by tb_start)) (nul_end (by assumption) (by omega) (by ktd_rel) (List.Mem.head _) (by k_mem) (.inr rfl))
  · exact hret _ _ _ ((d, _) :: ((_ :: _ :: []) ++ rest)) (by k_asm) (pk_weak (by k_asm) (by tb_start)) (bad_end (by assumption) (by omega) (by ktd_rel) (List.Mem.head _) (by k_mem))
  · exact hret _ _ _ ((d, _) :: ((_ :: _ :: []) ++ rest)) (by k_asm) (pk_weak (by k_asm) (by tb_start)) (loc_end (by assumption) (by omega) (by ktd_rel) (List.Mem.head _) (by k_mem))
  · exact hret _ _ _ ((d, _) :: ((_ :: _ :: _ :: _) ++ rest)) (by k_asm) (pk_weak (by k_asm) (by tb_start)) (sum_end (by assumption) (by omega) (by ktd_rel) (List.Mem.head _) (by k_mem) (by k_mem) (by (first | assumption | (refine' din_sub ?ds ?dh; (case dh => assumption); (case ds => tb_rel)) | exact DatIn.int _ _ | exact DatIn.none | exact DatIn.str _ _ | exact DatIn.bool _)) (by assumption))

/-! node -/
/-- a node: a conversion of a number to an enum, or one that stays -/
def NdOk (dd : Dat) (n : Option Int) : Prop :=
  kqdOk 7 dd = true ∧ ((n = none ∧ Still dd) ∨ ∃ kind k0 x c, (40 ≤ kind ∧ kind ≤ 47) ∧ ((2 ≤ k0 ∧ k0 ≤ 10) ∨ (40 ≤ k0 ∧ k0 ≤ 47)) ∧ (c = 0 ∨ c = 1) ∧ dd = convD kind (.num k0 x) c ∧ n = some x)
theorem in_ok (i : In) : kqdOk 4 i.dat = true := by cases i <;> first | rfl | kernel_rfl!
theorem cvmenu (j : Nat) : ([2, 3, 4, 5, 6, 7, 8, 10] : List Int).getD j 0 ≠ 1 := by
  match j with
  | 0 | 1 | 2 | 3 | 4 | 5 | 6 | 7 => decide
  | n + 8 => exact (by decide : (0 : Int) ≠ 1)
section
variable {w : World} {d l D a b : Addr} {rest tl : Led} {o' : Obj} {i' kind k2 c cv : Int} {t t1 t2 t3 t4 t5 t6 t7 t8 t9 : Tok} {q cc c' : Nat} {ve nv : Value} {i : In} {n : Option Int}
theorem conv_end (hw : WD w o' l i') (hi : 0 ≤ i') (hn : NoD tl) (hm : (D, tupO [.ref a, nv] q) ∈ tl ++ rest) (hm2 : (a, tupO [.int 19 t1, .int kind t2, ve, .int 1 t4, .int c t5] cc) ∈ tl ++ rest) (hD : DatIn (tl ++ rest) ve i.dat) (hok : i.ok) (hnn : n = i.n)
    (hv : NvIs nv n) (hk : 40 ≤ kind ∧ kind ≤ 47) (hc : c = 0 ∨ c = 1) : PairP w d l rest NdOk (.ref D) ((d, o') :: (tl ++ rest)) := by
  refine ⟨D, _, nv, q, o', i', tl, convD kind i c, n, rfl, rfl, hn, hi, hw, hm, .tuple hm2 (.cons (.int _ _) (.cons (.int _ _) (.cons hD (.cons (.int _ _) (.cons (.int _ _) .nil))))), ⟨?_, ?_⟩, hv⟩
  · cases i <;> first | rfl | kernel_rfl!
  · subst hnn
    cases i with
    | num k x => exact .inr ⟨kind, k, x, c, hk, hok, hc, rfl, rfl⟩
    | _ => exact .inl ⟨rfl, .cn hok rfl⟩
theorem kst_end (hw : WD w o' l i') (hi : 0 ≤ i') (hn : NoD tl) (hm : (D, tupO [.ref a, .none] q) ∈ tl ++ rest) (hm2 : (a, tupO [.int 1 t1, .int kind t2, .int 300 t3] cc) ∈ tl ++ rest) : PairP w d l rest NdOk (.ref D) ((d, o') :: (tl ++ rest)) :=
  ⟨D, _, _, q, o', i', tl, _, none, rfl, rfl, hn, hi, hw, hm, .tuple hm2 (.cons (.int _ _) (.cons (.int _ _) (.cons (.int _ _) .nil))), ⟨rfl, .inl ⟨rfl, .t3 (by decide)⟩⟩, rfl⟩
theorem dfl_end (hw : WD w o' l i') (hi : 0 ≤ i') (hn : NoD tl) (hm : (D, tupO [.ref a, .none] q) ∈ tl ++ rest) (hm2 : (a, tupO [.int 12 t1, .int kind t2] cc) ∈ tl ++ rest) : PairP w d l rest NdOk (.ref D) ((d, o') :: (tl ++ rest)) :=
  ⟨D, _, _, q, o', i', tl, _, none, rfl, rfl, hn, hi, hw, hm, .tuple hm2 (.cons (.int _ _) (.cons (.int _ _) .nil)), ⟨rfl, .inl ⟨rfl, .t2 (by decide)⟩⟩, rfl⟩
theorem un_end (hw : WD w o' l i') (hi : 0 ≤ i') (hn : NoD tl) (hm : (D, tupO [.ref a, .none] q) ∈ tl ++ rest) (hm2 : (a, tupO [.int 13 t1, .int kind t2, .str (Str.ofString "~") t3, ve, .int c t5] cc) ∈ tl ++ rest) (hD : DatIn (tl ++ rest) ve i.dat) : PairP w d l rest NdOk (.ref D) ((d, o') :: (tl ++ rest)) :=
  ⟨D, _, _, q, o', i', tl, .tuple [.int 13, .int kind, .str (Str.ofString "~"), i.dat, .int c], none, rfl, rfl, hn, hi, hw, hm, .tuple hm2 (.cons (.int _ _) (.cons (.int _ _) (.cons (.str _ _) (.cons hD (.cons (.int _ _) .nil))))), ⟨by cases i <;> first | rfl | kernel_rfl!, .inl ⟨rfl, .t5 (by decide)⟩⟩, rfl⟩
theorem coal_end (hw : WD w o' l i') (hi : 0 ≤ i') (hn : NoD tl) (hm : (D, tupO [.ref a, .none] q) ∈ tl ++ rest) (hm2 : (a, tupO [.int 18 t1, .int kind t2, ve, ve, .ref b] cc) ∈ tl ++ rest) (hm3 : (b, tupO [.int 19 t6, .int k2 t7, ve, .int 1 t8, .int c t9] c') ∈ tl ++ rest) (hD : DatIn (tl ++ rest) ve i.dat) : PairP w d l rest NdOk (.ref D) ((d, o') :: (tl ++ rest)) :=
  ⟨D, _, _, q, o', i', tl, .tuple [.int 18, .int kind, i.dat, i.dat, convD k2 i c], none, rfl, rfl, hn, hi, hw, hm, .tuple hm2 (.cons (.int _ _) (.cons (.int _ _) (.cons hD (.cons hD (.cons (.tuple hm3 (.cons (.int _ _) (.cons (.int _ _) (.cons hD (.cons (.int _ _) (.cons (.int _ _) .nil)))))) .nil))))), ⟨by cases i <;> first | rfl | kernel_rfl!, .inl ⟨rfl, .t5 (by decide)⟩⟩, rfl⟩
theorem lift_end (hw : WD w o' l i') (hi : 0 ≤ i') (hn : NoD tl) (hm : (D, tupO [.ref a, .none] q) ∈ tl ++ rest) (hm2 : (a, tupO [.int 19 t1, .int 50 t2, ve, .int 9 t4, .int c t5, .int 1 t6] cc) ∈ tl ++ rest) (hD : DatIn (tl ++ rest) ve i.dat) : PairP w d l rest NdOk (.ref D) ((d, o') :: (tl ++ rest)) :=
  ⟨D, _, _, q, o', i', tl, .tuple [.int 19, .int 50, i.dat, .int 9, .int c, .int 1], none, rfl, rfl, hn, hi, hw, hm, .tuple hm2 (.cons (.int _ _) (.cons (.int _ _) (.cons hD (.cons (.int _ _) (.cons (.int _ _) (.cons (.int _ _) .nil)))))), ⟨by cases i <;> first | rfl | kernel_rfl!, .inl ⟨rfl, .c6 (by decide)⟩⟩, rfl⟩
theorem oth_end (hw : WD w o' l i') (hi : 0 ≤ i') (hn : NoD tl) (hm : (D, tupO [.ref a, .none] q) ∈ tl ++ rest) (hm2 : (a, tupO [.int 19 t1, .int kind t2, ve, .int cv t4, .int c t5] cc) ∈ tl ++ rest) (hD : DatIn (tl ++ rest) ve i.dat) (hcv : cv ≠ 1) : PairP w d l rest NdOk (.ref D) ((d, o') :: (tl ++ rest)) :=
  ⟨D, _, _, q, o', i', tl, .tuple [.int 19, .int kind, i.dat, .int cv, .int c], none, rfl, rfl, hn, hi, hw, hm, .tuple hm2 (.cons (.int _ _) (.cons (.int _ _) (.cons hD (.cons (.int _ _) (.cons (.int _ _) .nil))))), ⟨by cases i <;> first | rfl | kernel_rfl!, .inl ⟨rfl, .c5 hcv⟩⟩, rfl⟩
end
theorem el_node {w : World} {d l : Addr} {rest : Led} : ∀ G : Value → Led → Prop,
    (∀ D e q o' i' tl kind k0 x c t, NoD tl → 0 ≤ i' → WD w o' l i' → (D, tupO [e, .int x t] q) ∈ tl ++ rest → DatIn (tl ++ rest) e (convD kind (.num k0 x) c) → kqdOk 7 (convD kind (.num k0 x) c) = true → (40 ≤ kind ∧ kind ≤ 47) → ((2 ≤ k0 ∧ k0 ≤ 10) ∨ (40 ≤ k0 ∧ k0 ≤ 47)) → (c = 0 ∨ c = 1) → G (.ref D) ((d, o') :: (tl ++ rest))) →
    (∀ D e q o' i' tl dd, NoD tl → 0 ≤ i' → WD w o' l i' → (D, tupO [e, .none] q) ∈ tl ++ rest → DatIn (tl ++ rest) e dd → kqdOk 7 dd = true → Still dd → G (.ref D) ((d, o') :: (tl ++ rest))) →
    ∀ r n, PairP w d l rest NdOk r n → G r n := by
  rintro G g1 g2 r n ⟨D, e, nv, q, o', i', tl, dd, n, rfl, rfl, h1, h2, h3, h4, h5, ⟨h6, ⟨rfl, h7⟩ | ⟨kind, k0, x, c, h7, h8, h9, rfl, rfl⟩⟩, h10⟩
  · obtain rfl : nv = .none := h10
    exact g2 D e q o' i' tl dd h1 h2 h3 h4 h5 h6 h7
  · obtain ⟨t, rfl⟩ : ∃ t, nv = .int x t := h10
    exact g1 D e q o' i' tl kind k0 x c t h1 h2 h3 h4 h5 h6 h7 h8 h9
theorem reg_16 : True := by
  k_with_none
  k_with "my subscriptTail Name Constant ref int" => ((k_here; k_dflt (refine' item_tupleT ?z0T ?z0a ?z0b ?z0j ?z0x ?_ ?z0s; (case z0T => exact isT (by k_asm) (by k_mem)); (case z0a => decide); (case z0b => decide); (case z0j => exact rfl); (case z0x => exact rfl); (case z0s => with_unfolding_all rfl); k_whole)))
  k_with "my subscriptTail Subscript Constant ref int" => ((k_here; k_dflt (refine' item_tupleT ?z1T ?z1a ?z1b ?z1j ?z1x ?_ ?z1s; (case z1T => exact isT (by k_asm) (by k_mem)); (case z1a => decide); (case z1b => decide); (case z1j => exact rfl); (case z1x => exact rfl); (case z1s => with_unfolding_all rfl); k_whole)))
  k_with "my eval Call" => ((k_here; first | k_compRoot | k_dflt (refine Call_ ?_)))
  k_with "my call ref" => ((k_here; (with_reducible show wpAny _ _ (call (Value.ref 65) _) _ _ _); k_dflt ((refine' Con.useR (c_int_range _ ?z5kp) (el_rng ?z5kX) ?z5k1 ?z5k2 ?z5k3 ?z5k4 ?z5k5 ?z5kK ?z5kd ?z5ku ?_; (case z5k1 => k_asm); (case z5k2 => k_asm); (case z5k3 => k_asm); (case z5k4 => k_asm); (case z5k5 => k_asm); (case z5kK => first | exact rfl | assumption);  (case z5kp => first | assumption | omega); (case z5kX => k_asm); (case z5kd => ktr_room); (case z5ku => ktr_units)); (intro a9 t1 t2 hK9 hT9 h9 tk9 F9 N9); (try dsimp only); (try k_fold))))
  k_with "my call ref" => ((k_here; (with_reducible show wpAny _ _ (call (Value.ref 87) _) _ _ _); k_dflt ((refine' Con.useR (c_in_range _ ?z6kp) el_eq ?z6k1 ?z6k2 ?z6k3 ?z6k4 ?z6k5 ?z6kK ?z6kd ?z6ku ?_; (case z6k1 => k_asm); (case z6k2 => k_asm); (case z6k3 => k_asm); (case z6k4 => k_asm); (case z6k5 => k_asm); (case z6kK => first | exact rfl | assumption);  (case z6kp => first | assumption | omega); (case z6kd => ktr_room); (case z6ku => ktr_units)); (intro  h9 tk9 F9 N9); (try dsimp only); (try k_fold))))
  k_with "my call ref" => ((k_here; (with_reducible show wpAny _ _ (call (Value.ref 80) _) _ _ _); k_dflt ((refine' Con.useR (c_cut _ ?z7kp) el_int ?z7k1 ?z7k2 ?z7k3 ?z7k4 ?z7k5 ?z7kK ?z7kd ?z7ku ?_; (case z7k1 => k_asm); (case z7k2 => k_asm); (case z7k3 => k_asm); (case z7k4 => k_asm); (case z7k5 => k_asm); (case z7kK => first | exact rfl | assumption);  (case z7kp => first | assumption | omega); (case z7kd => ktr_room); (case z7ku => ktr_units)); (intro t9 h9 tk9 F9 N9); (try dsimp only); (try k_fold))))
  k_with "my call ref" => ((k_here; (with_reducible show wpAny _ _ (call (Value.ref 129) _) _ _ _); k_dflt ((refine' Con.useR2 (c_whole _ ?z8kp ?z8kc) el_conv ?z8k1 ?z8k2 ?z8k3 ?z8k4 ?z8k5 ?z8kK ?z8kd ?z8ku ?_ ?_; (case z8k1 => k_asm); (case z8k2 => k_asm); (case z8k3 => k_asm); (case z8k4 => k_asm); (case z8k5 => k_asm); (case z8kK => first | exact rfl | assumption);  (case z8kp => first | assumption | omega); (case z8kc => first | assumption | omega); (case z8kd => ktr_room); (case z8ku => ktr_units)); (intro tl9 D9 t9 q9 tv9 hnd9 hm9 hok9 h9 tk9 F9 N9); (try dsimp only); (try k_fold); rotate_left; (intro tl9 D9 t9 q9 hnd9 hm9 hok9 h9 tk9 F9 N9); (try dsimp only); (try k_fold); rotate_left)))
  k_with "my call ref" => ((k_here; (with_reducible show wpAny _ _ (call (Value.ref 150) _) _ _ _); k_dflt ((refine' Con.useR2 (c_conv _ ?z9kp ?z9kc) el_conv ?z9k1 ?z9k2 ?z9k3 ?z9k4 ?z9k5 ?z9kK ?z9kd ?z9ku ?_ ?_; (case z9k1 => k_asm); (case z9k2 => k_asm); (case z9k3 => k_asm); (case z9k4 => k_asm); (case z9k5 => k_asm); (case z9kK => first | exact rfl | assumption);  (case z9kp => first | assumption | omega); (case z9kc => first | assumption | omega); (case z9kd => ktr_room); (case z9ku => ktr_units)); (intro tl9 D9 t9 q9 tv9 hnd9 hm9 hok9 h9 tk9 F9 N9); (try dsimp only); (try k_fold); rotate_left; (intro tl9 D9 t9 q9 hnd9 hm9 hok9 h9 tk9 F9 N9); (try dsimp only); (try k_fold); rotate_left)))
  k_with "my call ref" => ((k_here; (with_reducible show wpAny _ _ (call (Value.ref 164) _) _ _ _); k_dflt ((refine' Con.useR (c_numeric_no _ ?z10kp ?z10kc ?z10ke) el_eq ?z10k1 ?z10k2 ?z10k3 ?z10k4 ?z10k5 ?z10kK ?z10kd ?z10ku ?_; (case z10k1 => k_asm); (case z10k2 => k_asm); (case z10k3 => k_asm); (case z10k4 => k_asm); (case z10k5 => k_asm); (case z10kK => first | exact rfl | assumption);  (case z10kp => first | assumption | (refine' din_sub ?z10ds ?z10dh; (case z10dh => assumption); (case z10ds => tb_rel))); (case z10kc => assumption); (case z10ke => assumption); (case z10kd => ktr_room); (case z10ku => ktr_units)); (intro  h9 tk9 F9 N9); (try dsimp only); (try k_fold))))
  k_with "my call ref" => ((k_here; (with_reducible show wpAny _ _ (call (Value.ref 164) _) _ _ _); k_dflt ((refine' Con.useR (c_numeric _ ?z11kp ?z11kc) el_eq ?z11k1 ?z11k2 ?z11k3 ?z11k4 ?z11k5 ?z11kK ?z11kd ?z11ku ?_; (case z11k1 => k_asm); (case z11k2 => k_asm); (case z11k3 => k_asm); (case z11k4 => k_asm); (case z11k5 => k_asm); (case z11kK => first | exact rfl | assumption);  (case z11kp => first | assumption | (refine' din_sub ?z11ds ?z11dh; (case z11dh => assumption); (case z11ds => tb_rel))); (case z11kc => first | assumption | omega); (case z11kd => ktr_room); (case z11ku => ktr_units)); (intro  h9 tk9 F9 N9); (try dsimp only); (try k_fold))))
  k_with "my call ref" => ((k_here; (with_reducible show wpAny _ _ (call (Value.ref 248) _) _ _ _); k_dflt ((refine' Con.useR (c_under_still _ ?z14kp ?z14kc) el_eq ?z14k1 ?z14k2 ?z14k3 ?z14k4 ?z14k5 ?z14kK ?z14kd ?z14ku ?_; (case z14k1 => k_asm); (case z14k2 => k_asm); (case z14k3 => k_asm); (case z14k4 => k_asm); (case z14k5 => k_asm); (case z14kK => first | exact rfl | assumption);  (case z14kp => first | assumption | (refine' din_sub ?z14ds ?z14dh; (case z14dh => assumption); (case z14ds => tb_rel))); (case z14kc => assumption); (case z14kd => ktr_room); (case z14ku => ktr_units)); (intro  h9 tk9 F9 N9); (try dsimp only); (try k_fold))))
  k_with "my call ref" => ((k_here; (with_reducible show wpAny _ _ (call (Value.ref 248) _) _ _ _); k_dflt ((refine' Con.useR (c_under_num _ ?z15kp ?z15kc ?z15ka ?z15kb) el_made ?z15k1 ?z15k2 ?z15k3 ?z15k4 ?z15k5 ?z15kK ?z15kd ?z15ku ?_; (case z15k1 => k_asm); (case z15k2 => k_asm); (case z15k3 => k_asm); (case z15k4 => k_asm); (case z15k5 => k_asm); (case z15kK => first | exact rfl | assumption);  (case z15kp => first | assumption | (refine' din_sub ?z15ds ?z15dh; (case z15dh => assumption); (case z15ds => tb_rel))); (case z15kc => first | assumption | omega); (case z15ka => assumption); (case z15kb => first | assumption | omega); (case z15kd => ktr_room); (case z15ku => ktr_units)); (intro r9 tl9 hnd9 hD9 h9 tk9 F9 N9); (try dsimp only); (try k_fold))))
  k_with "my call ref" => ((k_here; (with_reducible show wpAny _ _ (call (Value.ref 213) _) _ _ _); k_dflt ((refine' Con.useR (c_fault_still _ ?z16kp ?z16kc) el_int ?z16k1 ?z16k2 ?z16k3 ?z16k4 ?z16k5 ?z16kK ?z16kd ?z16ku ?_; (case z16k1 => k_asm); (case z16k2 => k_asm); (case z16k3 => k_asm); (case z16k4 => k_asm); (case z16k5 => k_asm); (case z16kK => first | exact rfl | assumption);  (case z16kp => first | assumption | (refine' din_sub ?z16ds ?z16dh; (case z16dh => assumption); (case z16ds => tb_rel))); (case z16kc => assumption); (case z16kd => ktr_room); (case z16ku => ktr_units)); (intro t9 h9 tk9 F9 N9); (try dsimp only); (try k_fold))))
  k_with "my call ref" => ((k_here; (with_reducible show wpAny _ _ (call (Value.ref 213) _) _ _ _); k_dflt ((refine' Con.useR (c_fault_num _ ?z17kp ?z17kc ?z17ka ?z17kb) el_int ?z17k1 ?z17k2 ?z17k3 ?z17k4 ?z17k5 ?z17kK ?z17kd ?z17ku ?_; (case z17k1 => k_asm); (case z17k2 => k_asm); (case z17k3 => k_asm); (case z17k4 => k_asm); (case z17k5 => k_asm); (case z17kK => first | exact rfl | assumption);  (case z17kp => first | assumption | (refine' din_sub ?z17ds ?z17dh; (case z17dh => assumption); (case z17ds => tb_rel))); (case z17kc => first | assumption | omega); (case z17ka => assumption); (case z17kb => first | assumption | omega); (case z17kd => ktr_room); (case z17ku => ktr_units)); (intro t9 h9 tk9 F9 N9); (try dsimp only); (try k_fold))))
  k_with "my call ref" => ((k_here; (with_reducible show wpAny _ _ (call (Value.ref 312) _) _ _ _); k_dflt ((refine' Con.useR (c_into _ ?z26kp) el_int ?z26k1 ?z26k2 ?z26k3 ?z26k4 ?z26k5 ?z26kK ?z26kd ?z26ku ?_; (case z26k1 => k_asm); (case z26k2 => k_asm); (case z26k3 => k_asm); (case z26k4 => k_asm); (case z26k5 => k_asm); (case z26kK => first | exact rfl | assumption);  (case z26kp => first | assumption | omega); (case z26kd => ktr_room); (case z26ku => ktr_units)); (intro t9 h9 tk9 F9 N9); (try dsimp only); (try k_fold))))
  k_with "my call ref" => ((k_here; (with_reducible show wpAny _ _ (call (Value.ref 347) _) _ _ _); k_dflt ((refine' Con.useR (c_due_none _ ?z27kp) el_made ?z27k1 ?z27k2 ?z27k3 ?z27k4 ?z27k5 ?z27kK ?z27kd ?z27ku ?_; (case z27k1 => k_asm); (case z27k2 => k_asm); (case z27k3 => k_asm); (case z27k4 => k_asm); (case z27k5 => k_asm); (case z27kK => first | exact rfl | assumption);  (case z27kp => first | assumption | (refine' din_sub ?z27ds ?z27dh; (case z27dh => assumption); (case z27ds => tb_rel))); (case z27kd => ktr_room); (case z27ku => ktr_units)); (intro r9 tl9 hnd9 hD9 h9 tk9 F9 N9); (try dsimp only); (try k_fold))))
  k_with "my call ref" => ((k_here; (with_reducible show wpAny _ _ (call (Value.ref 347) _) _ _ _); k_dflt ((refine' Con.useR (c_due_num _ ?z28kp ?z28kc ?z28kb) el_made ?z28k1 ?z28k2 ?z28k3 ?z28k4 ?z28k5 ?z28kK ?z28kd ?z28ku ?_; (case z28k1 => k_asm); (case z28k2 => k_asm); (case z28k3 => k_asm); (case z28k4 => k_asm); (case z28k5 => k_asm); (case z28kK => first | exact rfl | assumption);  (case z28kp => first | assumption | (refine' din_sub ?z28ds ?z28dh; (case z28dh => assumption); (case z28ds => tb_rel))); (case z28kc => first | assumption | omega); (case z28kb => first | assumption | omega); (case z28kd => ktr_room); (case z28ku => ktr_units)); (intro r9 tl9 hnd9 hD9 h9 tk9 F9 N9); (try dsimp only); (try k_fold))))
  k_with "my call ref" => ((k_here; (with_reducible show wpAny _ _ (call (Value.ref 305) _) _ _ _); k_dflt ((refine' Con.useRW ?z29kP (c_take _ ?z29kw ?z29ks ?z29ki ?z29kn) el_take ?z29k1 ?z29k2 ?z29k3 ?z29k4 ?z29k5 ?z29kK ?z29kd ?z29ku ?_; (case z29k1 => k_asm); (case z29k2 => k_asm); (case z29k3 => k_asm); (case z29k4 => k_asm); (case z29k5 => k_asm); (case z29kK => first | exact rfl | assumption); (case z29kP => tb_start);  (case z29kw => assumption); (case z29ks => ktr_rel); (case z29ki => omega); (case z29kn => omega); (case z29kd => ktr_room); (case z29ku => ktr_units)); (intro x9 t9 o9 hx09 hxn9 hxl9 hw9 h9 tk9 F9 N9); (try dsimp only); (try k_fold))))
  k_with "my call ref" => ((k_here; (with_reducible show wpAny _ _ (call (Value.ref 319) _) _ _ _); k_dflt ((refine' Con.useRW ?z33kP (c_number _ ?z33kw ?z33ks ?z33ki ?z33kn) el_num ?z33k1 ?z33k2 ?z33k3 ?z33k4 ?z33k5 ?z33kK ?z33kd ?z33ku ?_; (case z33k1 => k_asm); (case z33k2 => k_asm); (case z33k3 => k_asm); (case z33k4 => k_asm); (case z33k5 => k_asm); (case z33kK => first | exact rfl | assumption); (case z33kP => tb_start);  (case z33kw => assumption); (case z33ks => ktr_rel); (case z33ki => omega); (case z33kn => first | assumption | omega | exact kmenu_b (by assumption) (by assumption) | exact umenu_b (by assumption) (by assumption)); (case z33kd => ktr_room); (case z33ku => ktr_units)); (intro x9 t9 o9 i9 hi09 hw9 h9 tk9 F9 N9); (try dsimp only); (try k_fold))))
  k_with "my call ref" => ((k_here; (with_reducible show wpAny _ _ (call (Value.ref 326) _) _ _ _); k_dflt ((refine' Con.useRW ?z34kP (c_constant _ ?z34kw ?z34ks ?z34ki) el_const ?z34k1 ?z34k2 ?z34k3 ?z34k4 ?z34k5 ?z34kK ?z34kd ?z34ku ?_; (case z34k1 => k_asm); (case z34k2 => k_asm); (case z34k3 => k_asm); (case z34k4 => k_asm); (case z34k5 => k_asm); (case z34kK => first | exact rfl | assumption); (case z34kP => tb_start);  (case z34kw => assumption); (case z34ks => ktr_rel); (case z34ki => omega); (case z34kd => ktr_room); (case z34ku => ktr_units)); (intro D9 e9 q9 o9 i9 tl9 k9 x9 tv9 hnd9 hi09 hw9 hm9 hD9 hk9 h9 tk9 F9 N9); (try dsimp only); (try k_fold))))
  k_with "my call ref" => ((k_here; (with_reducible show wpAny _ _ (call (Value.ref 333) _) _ _ _); k_dflt ((refine' Con.useRW ?z35kP (c_inner _ ?z35kw ?z35ks ?z35ki) el_inner ?z35k1 ?z35k2 ?z35k3 ?z35k4 ?z35k5 ?z35kK ?z35kd ?z35ku ?_; (case z35k1 => k_asm); (case z35k2 => k_asm); (case z35k3 => k_asm); (case z35k4 => k_asm); (case z35k5 => k_asm); (case z35kK => first | exact rfl | assumption); (case z35kP => tb_start);  (case z35kw => assumption); (case z35ks => ktr_rel); (case z35ki => omega); (case z35kd => ktr_room); (case z35ku => ktr_units)); (intro D9 e9 nv9 q9 o9 i9 tl9 in9 n9 hnd9 hi09 hw9 hm9 hD9 hok9 hnn9 hv9 h9 tk9 F9 N9); (try dsimp only); (try k_fold))))
  exact True.intro
theorem c_node (w : World) {d l : Addr} {o : Obj} {ws : List Value} {ns : List Int} {rest : Led} {i : Int}
    (hW : WD w o l i) (hS : Scr l ws ns rest) (hi : 0 ≤ i) :
    Con w 340 [.ref d] 16 320 ((d, o) :: rest) (PairP w d l rest NdOk) := by
  unfold Con
  w_top off
  k_fill
  intro mean mg mb dp un gd cn cs a ccd cl outer A₀ base h₀ L m s Q E B F X N T hkk hdd huu hret
  refine wpAny_call ?_
  k_dflt cell_enter
  k_steps
  · exact hret _ _ _ ((d, _) :: ((_ :: _ :: _) ++ rest)) (by k_asm) (pk_weak (by k_asm) (by tb_start)) (conv_end (by assumption) (by omega) (by ktd_rel) (List.Mem.head _) (by k_mem) (by (first | assumption | (refine' din_sub ?ds ?dh; (case dh => assumption); (case ds => tb_rel)) | exact DatIn.int _ _ | exact DatIn.none | exact DatIn.str _ _ | exact DatIn.bool _)) (by assumption) (by assumption) (by assumption) ⟨by omega, by omega⟩ (by omega))
  · exact hret _ _ _ ((d, _) :: ((_ :: _ :: _) ++ rest)) (by k_asm) (pk_weak (by k_asm) (by tb_start)) (kst_end (by assumption) (by omega) (by ktd_rel) (List.Mem.head _) (by k_mem))
  · exact hret _ _ _ ((d, _) :: ((_ :: _ :: _) ++ rest)) (by k_asm) (pk_weak (by k_asm) (by tb_start)) (dfl_end (by assumption) (by omega) (by ktd_rel) (List.Mem.head _) (by k_mem))
  · exact hret _ _ _ ((d, _) :: ((_ :: _ :: _) ++ rest)) (by k_asm) (pk_weak (by k_asm) (by tb_start)) (un_end (by assumption) (by omega) (by ktd_rel) (List.Mem.head _) (by k_mem) (by (first | assumption | (refine' din_sub ?ds ?dh; (case dh => assumption); (case ds => tb_rel)) | exact DatIn.int _ _ | exact DatIn.none | exact DatIn.str _ _ | exact DatIn.bool _)))
  · exact hret _ _ _ ((d, _) :: ((_ :: _ :: _ :: _) ++ rest)) (by k_asm) (pk_weak (by k_asm) (by tb_start)) (coal_end (by assumption) (by omega) (by ktd_rel) (List.Mem.head _) (by k_mem) (by k_mem) (by (first | assumption | (refine' din_sub ?ds ?dh; (case dh => assumption); (case ds => tb_rel)) | exact DatIn.int _ _ | exact DatIn.none | exact DatIn.str _ _ | exact DatIn.bool _)))
  · exact hret _ _ _ ((d, _) :: ((_ :: _ :: _) ++ rest)) (by k_asm) (pk_weak (by k_asm) (by tb_start)) (lift_end (by assumption) (by omega) (by ktd_rel) (List.Mem.head _) (by k_mem) (by (first | assumption | (refine' din_sub ?ds ?dh; (case dh => assumption); (case ds => tb_rel)) | exact DatIn.int _ _ | exact DatIn.none | exact DatIn.str _ _ | exact DatIn.bool _)))
  · exact hret _ _ _ ((d, _) :: ((_ :: _ :: _ :: _) ++ rest)) (by k_asm) (pk_weak (by k_asm) (by tb_start)) (oth_end (by assumption) (by omega) (by ktd_rel) (List.Mem.head _) (by k_mem) (by (first | assumption | (refine' din_sub ?ds ?dh; (case dh => assumption); (case ds => tb_rel)) | exact DatIn.int _ _ | exact DatIn.none | exact DatIn.str _ _ | exact DatIn.bool _)) (cvmenu _))

/-! fold -/
/-- what fold alone makes of a conversion to an enum -/
def foD (kind k0 n c : Int) : Dat := if 0 ≤ n ∧ n ≤ 127 then .tuple [.int 1, .int kind, .int n] else convD kind (.num k0 n) c
theorem reg_17 : True := by
  k_with_none
  k_with "my subscriptTail Name Constant ref int" => ((k_here; k_dflt (refine' item_tupleT ?z0T ?z0a ?z0b ?z0j ?z0x ?_ ?z0s; (case z0T => exact isT (by k_asm) (by k_mem)); (case z0a => decide); (case z0b => decide); (case z0j => exact rfl); (case z0x => exact rfl); (case z0s => with_unfolding_all rfl); k_whole)))
  k_with "my subscriptTail Subscript Constant ref int" => ((k_here; k_dflt (refine' item_tupleT ?z1T ?z1a ?z1b ?z1j ?z1x ?_ ?z1s; (case z1T => exact isT (by k_asm) (by k_mem)); (case z1a => decide); (case z1b => decide); (case z1j => exact rfl); (case z1x => exact rfl); (case z1s => with_unfolding_all rfl); k_whole)))
  k_with "my eval Call" => ((k_here; first | k_compRoot | k_dflt (refine Call_ ?_)))
  k_with "my call ref" => ((k_here; (with_reducible show wpAny _ _ (call (Value.ref 65) _) _ _ _); k_dflt ((refine' Con.useR (c_int_range _ ?z5kp) (el_rng ?z5kX) ?z5k1 ?z5k2 ?z5k3 ?z5k4 ?z5k5 ?z5kK ?z5kd ?z5ku ?_; (case z5k1 => k_asm); (case z5k2 => k_asm); (case z5k3 => k_asm); (case z5k4 => k_asm); (case z5k5 => k_asm); (case z5kK => first | exact rfl | assumption);  (case z5kp => first | assumption | omega); (case z5kX => k_asm); (case z5kd => ktr_room); (case z5ku => ktr_units)); (intro a9 t1 t2 hK9 hT9 h9 tk9 F9 N9); (try dsimp only); (try k_fold))))
  k_with "my call ref" => ((k_here; (with_reducible show wpAny _ _ (call (Value.ref 87) _) _ _ _); k_dflt ((refine' Con.useR (c_in_range _ ?z6kp) el_eq ?z6k1 ?z6k2 ?z6k3 ?z6k4 ?z6k5 ?z6kK ?z6kd ?z6ku ?_; (case z6k1 => k_asm); (case z6k2 => k_asm); (case z6k3 => k_asm); (case z6k4 => k_asm); (case z6k5 => k_asm); (case z6kK => first | exact rfl | assumption);  (case z6kp => first | assumption | omega); (case z6kd => ktr_room); (case z6ku => ktr_units)); (intro  h9 tk9 F9 N9); (try dsimp only); (try k_fold))))
  k_with "my call ref" => ((k_here; (with_reducible show wpAny _ _ (call (Value.ref 80) _) _ _ _); k_dflt ((refine' Con.useR (c_cut _ ?z7kp) el_int ?z7k1 ?z7k2 ?z7k3 ?z7k4 ?z7k5 ?z7kK ?z7kd ?z7ku ?_; (case z7k1 => k_asm); (case z7k2 => k_asm); (case z7k3 => k_asm); (case z7k4 => k_asm); (case z7k5 => k_asm); (case z7kK => first | exact rfl | assumption);  (case z7kp => first | assumption | omega); (case z7kd => ktr_room); (case z7ku => ktr_units)); (intro t9 h9 tk9 F9 N9); (try dsimp only); (try k_fold))))
  k_with "my call ref" => ((k_here; (with_reducible show wpAny _ _ (call (Value.ref 129) _) _ _ _); k_dflt ((refine' Con.useR2 (c_whole _ ?z8kp ?z8kc) el_conv ?z8k1 ?z8k2 ?z8k3 ?z8k4 ?z8k5 ?z8kK ?z8kd ?z8ku ?_ ?_; (case z8k1 => k_asm); (case z8k2 => k_asm); (case z8k3 => k_asm); (case z8k4 => k_asm); (case z8k5 => k_asm); (case z8kK => first | exact rfl | assumption);  (case z8kp => first | assumption | omega); (case z8kc => first | assumption | omega); (case z8kd => ktr_room); (case z8ku => ktr_units)); (intro tl9 D9 t9 q9 tv9 hnd9 hm9 hok9 h9 tk9 F9 N9); (try dsimp only); (try k_fold); rotate_left; (intro tl9 D9 t9 q9 hnd9 hm9 hok9 h9 tk9 F9 N9); (try dsimp only); (try k_fold); rotate_left)))
  k_with "my call ref" => ((k_here; (with_reducible show wpAny _ _ (call (Value.ref 150) _) _ _ _); k_dflt ((refine' Con.useR2 (c_conv _ ?z9kp ?z9kc) el_conv ?z9k1 ?z9k2 ?z9k3 ?z9k4 ?z9k5 ?z9kK ?z9kd ?z9ku ?_ ?_; (case z9k1 => k_asm); (case z9k2 => k_asm); (case z9k3 => k_asm); (case z9k4 => k_asm); (case z9k5 => k_asm); (case z9kK => first | exact rfl | assumption);  (case z9kp => first | assumption | omega); (case z9kc => first | assumption | omega); (case z9kd => ktr_room); (case z9ku => ktr_units)); (intro tl9 D9 t9 q9 tv9 hnd9 hm9 hok9 h9 tk9 F9 N9); (try dsimp only); (try k_fold); rotate_left; (intro tl9 D9 t9 q9 hnd9 hm9 hok9 h9 tk9 F9 N9); (try dsimp only); (try k_fold); rotate_left)))
  k_with "my call ref" => ((k_here; (with_reducible show wpAny _ _ (call (Value.ref 164) _) _ _ _); k_dflt ((refine' Con.useR (c_numeric_no _ ?z10kp ?z10kc ?z10ke) el_eq ?z10k1 ?z10k2 ?z10k3 ?z10k4 ?z10k5 ?z10kK ?z10kd ?z10ku ?_; (case z10k1 => k_asm); (case z10k2 => k_asm); (case z10k3 => k_asm); (case z10k4 => k_asm); (case z10k5 => k_asm); (case z10kK => first | exact rfl | assumption);  (case z10kp => first | assumption | (refine' din_sub ?z10ds ?z10dh; (case z10dh => assumption); (case z10ds => tb_rel))); (case z10kc => assumption); (case z10ke => assumption); (case z10kd => ktr_room); (case z10ku => ktr_units)); (intro  h9 tk9 F9 N9); (try dsimp only); (try k_fold))))
  k_with "my call ref" => ((k_here; (with_reducible show wpAny _ _ (call (Value.ref 164) _) _ _ _); k_dflt ((refine' Con.useR (c_numeric _ ?z11kp ?z11kc) el_eq ?z11k1 ?z11k2 ?z11k3 ?z11k4 ?z11k5 ?z11kK ?z11kd ?z11ku ?_; (case z11k1 => k_asm); (case z11k2 => k_asm); (case z11k3 => k_asm); (case z11k4 => k_asm); (case z11k5 => k_asm); (case z11kK => first | exact rfl | assumption);  (case z11kp => first | assumption | (refine' din_sub ?z11ds ?z11dh; (case z11dh => assumption); (case z11ds => tb_rel))); (case z11kc => first | assumption | omega); (case z11kd => ktr_room); (case z11ku => ktr_units)); (intro  h9 tk9 F9 N9); (try dsimp only); (try k_fold))))
  k_with "my call ref" => ((k_here; (with_reducible show wpAny _ _ (call (Value.ref 248) _) _ _ _); k_dflt ((refine' Con.useR (c_under_still _ ?z14kp ?z14kc) el_eq ?z14k1 ?z14k2 ?z14k3 ?z14k4 ?z14k5 ?z14kK ?z14kd ?z14ku ?_; (case z14k1 => k_asm); (case z14k2 => k_asm); (case z14k3 => k_asm); (case z14k4 => k_asm); (case z14k5 => k_asm); (case z14kK => first | exact rfl | assumption);  (case z14kp => first | assumption | (refine' din_sub ?z14ds ?z14dh; (case z14dh => assumption); (case z14ds => tb_rel))); (case z14kc => assumption); (case z14kd => ktr_room); (case z14ku => ktr_units)); (intro  h9 tk9 F9 N9); (try dsimp only); (try k_fold))))
  k_with "my call ref" => ((k_here; (with_reducible show wpAny _ _ (call (Value.ref 248) _) _ _ _); k_dflt ((refine' Con.useR (c_under_num _ ?z15kp ?z15kc ?z15ka ?z15kb) el_made ?z15k1 ?z15k2 ?z15k3 ?z15k4 ?z15k5 ?z15kK ?z15kd ?z15ku ?_; (case z15k1 => k_asm); (case z15k2 => k_asm); (case z15k3 => k_asm); (case z15k4 => k_asm); (case z15k5 => k_asm); (case z15kK => first | exact rfl | assumption);  (case z15kp => first | assumption | (refine' din_sub ?z15ds ?z15dh; (case z15dh => assumption); (case z15ds => tb_rel))); (case z15kc => first | assumption | omega); (case z15ka => assumption); (case z15kb => first | assumption | omega); (case z15kd => ktr_room); (case z15ku => ktr_units)); (intro r9 tl9 hnd9 hD9 h9 tk9 F9 N9); (try dsimp only); (try k_fold))))
  k_with "my call ref" => ((k_here; (with_reducible show wpAny _ _ (call (Value.ref 213) _) _ _ _); k_dflt ((refine' Con.useR (c_fault_still _ ?z16kp ?z16kc) el_int ?z16k1 ?z16k2 ?z16k3 ?z16k4 ?z16k5 ?z16kK ?z16kd ?z16ku ?_; (case z16k1 => k_asm); (case z16k2 => k_asm); (case z16k3 => k_asm); (case z16k4 => k_asm); (case z16k5 => k_asm); (case z16kK => first | exact rfl | assumption);  (case z16kp => first | assumption | (refine' din_sub ?z16ds ?z16dh; (case z16dh => assumption); (case z16ds => tb_rel))); (case z16kc => assumption); (case z16kd => ktr_room); (case z16ku => ktr_units)); (intro t9 h9 tk9 F9 N9); (try dsimp only); (try k_fold))))
  k_with "my call ref" => ((k_here; (with_reducible show wpAny _ _ (call (Value.ref 213) _) _ _ _); k_dflt ((refine' Con.useR (c_fault_num _ ?z17kp ?z17kc ?z17ka ?z17kb) el_int ?z17k1 ?z17k2 ?z17k3 ?z17k4 ?z17k5 ?z17kK ?z17kd ?z17ku ?_; (case z17k1 => k_asm); (case z17k2 => k_asm); (case z17k3 => k_asm); (case z17k4 => k_asm); (case z17k5 => k_asm); (case z17kK => first | exact rfl | assumption);  (case z17kp => first | assumption | (refine' din_sub ?z17ds ?z17dh; (case z17dh => assumption); (case z17ds => tb_rel))); (case z17kc => first | assumption | omega); (case z17ka => assumption); (case z17kb => first | assumption | omega); (case z17kd => ktr_room); (case z17ku => ktr_units)); (intro t9 h9 tk9 F9 N9); (try dsimp only); (try k_fold))))
  k_with "my call ref" => ((k_here; (with_reducible show wpAny _ _ (call (Value.ref 312) _) _ _ _); k_dflt ((refine' Con.useR (c_into _ ?z26kp) el_int ?z26k1 ?z26k2 ?z26k3 ?z26k4 ?z26k5 ?z26kK ?z26kd ?z26ku ?_; (case z26k1 => k_asm); (case z26k2 => k_asm); (case z26k3 => k_asm); (case z26k4 => k_asm); (case z26k5 => k_asm); (case z26kK => first | exact rfl | assumption);  (case z26kp => first | assumption | omega); (case z26kd => ktr_room); (case z26ku => ktr_units)); (intro t9 h9 tk9 F9 N9); (try dsimp only); (try k_fold))))
  k_with "my call ref" => ((k_here; (with_reducible show wpAny _ _ (call (Value.ref 347) _) _ _ _); k_dflt ((refine' Con.useR (c_due_none _ ?z27kp) el_made ?z27k1 ?z27k2 ?z27k3 ?z27k4 ?z27k5 ?z27kK ?z27kd ?z27ku ?_; (case z27k1 => k_asm); (case z27k2 => k_asm); (case z27k3 => k_asm); (case z27k4 => k_asm); (case z27k5 => k_asm); (case z27kK => first | exact rfl | assumption);  (case z27kp => first | assumption | (refine' din_sub ?z27ds ?z27dh; (case z27dh => assumption); (case z27ds => tb_rel))); (case z27kd => ktr_room); (case z27ku => ktr_units)); (intro r9 tl9 hnd9 hD9 h9 tk9 F9 N9); (try dsimp only); (try k_fold))))
  k_with "my call ref" => ((k_here; (with_reducible show wpAny _ _ (call (Value.ref 347) _) _ _ _); k_dflt ((refine' Con.useR (c_due_num _ ?z28kp ?z28kc ?z28kb) el_made ?z28k1 ?z28k2 ?z28k3 ?z28k4 ?z28k5 ?z28kK ?z28kd ?z28ku ?_; (case z28k1 => k_asm); (case z28k2 => k_asm); (case z28k3 => k_asm); (case z28k4 => k_asm); (case z28k5 => k_asm); (case z28kK => first | exact rfl | assumption);  (case z28kp => first | assumption | (refine' din_sub ?z28ds ?z28dh; (case z28dh => assumption); (case z28ds => tb_rel))); (case z28kc => first | assumption | omega); (case z28kb => first | assumption | omega); (case z28kd => ktr_room); (case z28ku => ktr_units)); (intro r9 tl9 hnd9 hD9 h9 tk9 F9 N9); (try dsimp only); (try k_fold))))
  k_with "my call ref" => ((k_here; (with_reducible show wpAny _ _ (call (Value.ref 305) _) _ _ _); k_dflt ((refine' Con.useRW ?z29kP (c_take _ ?z29kw ?z29ks ?z29ki ?z29kn) el_take ?z29k1 ?z29k2 ?z29k3 ?z29k4 ?z29k5 ?z29kK ?z29kd ?z29ku ?_; (case z29k1 => k_asm); (case z29k2 => k_asm); (case z29k3 => k_asm); (case z29k4 => k_asm); (case z29k5 => k_asm); (case z29kK => first | exact rfl | assumption); (case z29kP => tb_start);  (case z29kw => assumption); (case z29ks => ktr_rel); (case z29ki => omega); (case z29kn => omega); (case z29kd => ktr_room); (case z29ku => ktr_units)); (intro x9 t9 o9 hx09 hxn9 hxl9 hw9 h9 tk9 F9 N9); (try dsimp only); (try k_fold))))
  k_with "my call ref" => ((k_here; (with_reducible show wpAny _ _ (call (Value.ref 319) _) _ _ _); k_dflt ((refine' Con.useRW ?z33kP (c_number _ ?z33kw ?z33ks ?z33ki ?z33kn) el_num ?z33k1 ?z33k2 ?z33k3 ?z33k4 ?z33k5 ?z33kK ?z33kd ?z33ku ?_; (case z33k1 => k_asm); (case z33k2 => k_asm); (case z33k3 => k_asm); (case z33k4 => k_asm); (case z33k5 => k_asm); (case z33kK => first | exact rfl | assumption); (case z33kP => tb_start);  (case z33kw => assumption); (case z33ks => ktr_rel); (case z33ki => omega); (case z33kn => first | assumption | omega | exact kmenu_b (by assumption) (by assumption) | exact umenu_b (by assumption) (by assumption)); (case z33kd => ktr_room); (case z33ku => ktr_units)); (intro x9 t9 o9 i9 hi09 hw9 h9 tk9 F9 N9); (try dsimp only); (try k_fold))))
  k_with "my call ref" => ((k_here; (with_reducible show wpAny _ _ (call (Value.ref 326) _) _ _ _); k_dflt ((refine' Con.useRW ?z34kP (c_constant _ ?z34kw ?z34ks ?z34ki) el_const ?z34k1 ?z34k2 ?z34k3 ?z34k4 ?z34k5 ?z34kK ?z34kd ?z34ku ?_; (case z34k1 => k_asm); (case z34k2 => k_asm); (case z34k3 => k_asm); (case z34k4 => k_asm); (case z34k5 => k_asm); (case z34kK => first | exact rfl | assumption); (case z34kP => tb_start);  (case z34kw => assumption); (case z34ks => ktr_rel); (case z34ki => omega); (case z34kd => ktr_room); (case z34ku => ktr_units)); (intro D9 e9 q9 o9 i9 tl9 k9 x9 tv9 hnd9 hi09 hw9 hm9 hD9 hk9 h9 tk9 F9 N9); (try dsimp only); (try k_fold))))
  k_with "my call ref" => ((k_here; (with_reducible show wpAny _ _ (call (Value.ref 333) _) _ _ _); k_dflt ((refine' Con.useRW ?z35kP (c_inner _ ?z35kw ?z35ks ?z35ki) el_inner ?z35k1 ?z35k2 ?z35k3 ?z35k4 ?z35k5 ?z35kK ?z35kd ?z35ku ?_; (case z35k1 => k_asm); (case z35k2 => k_asm); (case z35k3 => k_asm); (case z35k4 => k_asm); (case z35k5 => k_asm); (case z35kK => first | exact rfl | assumption); (case z35kP => tb_start);  (case z35kw => assumption); (case z35ks => ktr_rel); (case z35ki => omega); (case z35kd => ktr_room); (case z35ku => ktr_units)); (intro D9 e9 nv9 q9 o9 i9 tl9 in9 n9 hnd9 hi09 hw9 hm9 hD9 hok9 hnn9 hv9 h9 tk9 F9 N9); (try dsimp only); (try k_fold))))
  k_with "my call ref" => ((k_here; (with_reducible show wpAny _ _ (call (Value.ref 340) _) _ _ _); k_dflt ((refine' Con.useRW2 ?z36kP (c_node _ ?z36kw ?z36ks ?z36ki) el_node ?z36k1 ?z36k2 ?z36k3 ?z36k4 ?z36k5 ?z36kK ?z36kd ?z36ku ?_ ?_; (case z36k1 => k_asm); (case z36k2 => k_asm); (case z36k3 => k_asm); (case z36k4 => k_asm); (case z36k5 => k_asm); (case z36kK => first | exact rfl | assumption); (case z36kP => tb_start);  (case z36kw => assumption); (case z36ks => ktr_rel); (case z36ki => omega); (case z36kd => ktr_room); (case z36ku => ktr_units)); (intro D9 e9 q9 o9 i9 tl9 kd9 k09 x9 c9 tv9 hnd9 hi09 hw9 hm9 hD9 hq9 hkd9 hk09 hc9 h9 tk9 F9 N9); (try dsimp only); (try k_fold); rotate_left; (intro D9 e9 q9 o9 i9 tl9 dd9 hnd9 hi09 hw9 hm9 hD9 hq9 hst9 h9 tk9 F9 N9); (try dsimp only); (try k_fold); rotate_left)))
  exact True.intro
theorem c_fold_enum (w : World) {v : Value} {kind k0 n c : Int} {news : Led} (hD : DatIn news v (convD kind (.num k0 n) c)) (hk : 40 ≤ kind ∧ kind ≤ 47) (hk0 : (2 ≤ k0 ∧ k0 ≤ 10) ∨ (40 ≤ k0 ∧ k0 ≤ 47)) :
    Con w 297 [v] 12 160 news (Made (foD kind k0 n c) news) := by
  refine' conv_el (P := fun v => Con w 297 [v] 12 160 news (Made (foD kind k0 n c) news)) hD ?_
  intro a q a' q' t1 t2 t4 t5 s1 s2 s3 hm hm' hD0 h3
  unfold Con
  w_top off
  k_fill
  intro mean mg mb dp un gd cn cs a ccd cl outer A₀ base h₀ L m s Q E B F X N T hkk hdd huu hret
  refine wpAny_call ?_
  k_dflt cell_enter
  k_steps
  · refine hret _ _ _ _ (by k_asm) (by k_asm) ?_
    refine ⟨_ :: [], rfl, NoD.cons tup_noD NoD.nil, ?_⟩
    rw [foD, if_pos ⟨by assumption, by assumption⟩]
    exact .tuple (.head _) (.cons (.int _ _) (.cons (.int _ _) (.cons (.int _ _) .nil)))
  · refine hret _ _ _ _ (by k_asm) (by k_asm) ?_
    refine ⟨[], rfl, NoD.nil, ?_⟩
    rw [foD, if_neg (fun h => absurd h.2 (by assumption))]
    assumption
  · refine hret _ _ _ _ (by k_asm) (by k_asm) ?_
    refine ⟨[], rfl, NoD.nil, ?_⟩
    rw [foD, if_neg (fun h => absurd h.1 (by assumption))]
    assumption
theorem c_fold_num (w : World) {v : Value} {k k0 n c : Int} {news : Led} (hD : DatIn news v (convD k (.num k0 n) c)) (hk : 2 ≤ k ∧ k ≤ 10) (hk0 : (2 ≤ k0 ∧ k0 ≤ 10) ∨ (40 ≤ k0 ∧ k0 ≤ 47)) (hc : c = 0 ∨ c = 1) :
    Con w 297 [v] 14 192 news (Made (fuD k k k0 n c) news) := by
  refine' conv_el (P := fun v => Con w 297 [v] 14 192 news (Made (fuD k k k0 n c) news)) hD ?_
  intro a q a' q' t1 t2 t4 t5 s1 s2 s3 hm hm' hD0 h3
  unfold Con
  w_top off
  k_fill
  intro mean mg mb dp un gd cn cs a ccd cl outer A₀ base h₀ L m s Q E B F X N T hkk hdd huu hret
  refine wpAny_call ?_
  k_dflt cell_enter
  k_steps
  all_goals first
    | (exfalso; omega)
    | (refine hret _ _ _ _ (by k_asm) (by k_asm) ?_
       refine ⟨_ :: _, rfl, NoD.cons tup_noD (by assumption), ?_⟩
       rw [fuD, if_pos (by assumption)]
       exact .tuple (.head _) (.cons (.int _ _) (.cons (.int _ _) (.cons (.int _ _) .nil))))
    | (refine hret _ _ _ _ (by k_asm) (by k_asm) ?_
       refine ⟨_, rfl, by assumption, ?_⟩
       rw [fuD, if_neg (by assumption)]
       (first | assumption | (refine' din_sub ?ds ?dh; (case dh => assumption); (case ds => tb_rel)) | exact DatIn.int _ _ | exact DatIn.none | exact DatIn.str _ _ | exact DatIn.bool _))
theorem c_fold_bad (w : World) {v : Value} {k c : Int} {news : Led} (hD : DatIn news v (convD k .bad c)) :
    Con w 297 [v] 12 160 news (fun r news' => r = v ∧ news' = news) := by
  refine' conv_elb (P := fun v => Con w 297 [v] 12 160 news (fun r news' => r = v ∧ news' = news)) hD ?_
  intro a q a' q' t1 t2 t4 t5 s1 s2 s3 hm hm' hD0 h3
  have hb1 : In.bad.ok := True.intro
  have hb2 : In.bad.n = none := rfl
  unfold Con
  w_top off
  k_fill
  intro mean mg mb dp un gd cn cs a ccd cl outer A₀ base h₀ L m s Q E B F X N T hkk hdd huu hret
  refine wpAny_call ?_
  k_dflt cell_enter
  k_steps
  all_goals (refine hret _ _ _ _ (by k_asm) (by k_asm) ?_; exact ⟨rfl, rfl⟩)

/-! fault -/
theorem reg_18 : True := by
  k_with_none
  k_with "my subscriptTail Name Constant ref int" => ((k_here; k_dflt (refine' item_tupleT ?z0T ?z0a ?z0b ?z0j ?z0x ?_ ?z0s; (case z0T => exact isT (by k_asm) (by k_mem)); (case z0a => decide); (case z0b => decide); (case z0j => exact rfl); (case z0x => exact rfl); (case z0s => with_unfolding_all rfl); k_whole)))
  k_with "my subscriptTail Subscript Constant ref int" => ((k_here; k_dflt (refine' item_tupleT ?z1T ?z1a ?z1b ?z1j ?z1x ?_ ?z1s; (case z1T => exact isT (by k_asm) (by k_mem)); (case z1a => decide); (case z1b => decide); (case z1j => exact rfl); (case z1x => exact rfl); (case z1s => with_unfolding_all rfl); k_whole)))
  k_with "my eval Call" => ((k_here; first | k_compRoot | k_dflt (refine Call_ ?_)))
  k_with "my call ref" => ((k_here; (with_reducible show wpAny _ _ (call (Value.ref 65) _) _ _ _); k_dflt ((refine' Con.useR (c_int_range _ ?z5kp) (el_rng ?z5kX) ?z5k1 ?z5k2 ?z5k3 ?z5k4 ?z5k5 ?z5kK ?z5kd ?z5ku ?_; (case z5k1 => k_asm); (case z5k2 => k_asm); (case z5k3 => k_asm); (case z5k4 => k_asm); (case z5k5 => k_asm); (case z5kK => first | exact rfl | assumption);  (case z5kp => first | assumption | omega); (case z5kX => k_asm); (case z5kd => ktr_room); (case z5ku => ktr_units)); (intro a9 t1 t2 hK9 hT9 h9 tk9 F9 N9); (try dsimp only); (try k_fold))))
  k_with "my call ref" => ((k_here; (with_reducible show wpAny _ _ (call (Value.ref 87) _) _ _ _); k_dflt ((refine' Con.useR (c_in_range _ ?z6kp) el_eq ?z6k1 ?z6k2 ?z6k3 ?z6k4 ?z6k5 ?z6kK ?z6kd ?z6ku ?_; (case z6k1 => k_asm); (case z6k2 => k_asm); (case z6k3 => k_asm); (case z6k4 => k_asm); (case z6k5 => k_asm); (case z6kK => first | exact rfl | assumption);  (case z6kp => first | assumption | omega); (case z6kd => ktr_room); (case z6ku => ktr_units)); (intro  h9 tk9 F9 N9); (try dsimp only); (try k_fold))))
  k_with "my call ref" => ((k_here; (with_reducible show wpAny _ _ (call (Value.ref 80) _) _ _ _); k_dflt ((refine' Con.useR (c_cut _ ?z7kp) el_int ?z7k1 ?z7k2 ?z7k3 ?z7k4 ?z7k5 ?z7kK ?z7kd ?z7ku ?_; (case z7k1 => k_asm); (case z7k2 => k_asm); (case z7k3 => k_asm); (case z7k4 => k_asm); (case z7k5 => k_asm); (case z7kK => first | exact rfl | assumption);  (case z7kp => first | assumption | omega); (case z7kd => ktr_room); (case z7ku => ktr_units)); (intro t9 h9 tk9 F9 N9); (try dsimp only); (try k_fold))))
  k_with "my call ref" => ((k_here; (with_reducible show wpAny _ _ (call (Value.ref 129) _) _ _ _); k_dflt ((refine' Con.useR2 (c_whole _ ?z8kp ?z8kc) el_conv ?z8k1 ?z8k2 ?z8k3 ?z8k4 ?z8k5 ?z8kK ?z8kd ?z8ku ?_ ?_; (case z8k1 => k_asm); (case z8k2 => k_asm); (case z8k3 => k_asm); (case z8k4 => k_asm); (case z8k5 => k_asm); (case z8kK => first | exact rfl | assumption);  (case z8kp => first | assumption | omega); (case z8kc => first | assumption | omega); (case z8kd => ktr_room); (case z8ku => ktr_units)); (intro tl9 D9 t9 q9 tv9 hnd9 hm9 hok9 h9 tk9 F9 N9); (try dsimp only); (try k_fold); rotate_left; (intro tl9 D9 t9 q9 hnd9 hm9 hok9 h9 tk9 F9 N9); (try dsimp only); (try k_fold); rotate_left)))
  k_with "my call ref" => ((k_here; (with_reducible show wpAny _ _ (call (Value.ref 150) _) _ _ _); k_dflt ((refine' Con.useR2 (c_conv _ ?z9kp ?z9kc) el_conv ?z9k1 ?z9k2 ?z9k3 ?z9k4 ?z9k5 ?z9kK ?z9kd ?z9ku ?_ ?_; (case z9k1 => k_asm); (case z9k2 => k_asm); (case z9k3 => k_asm); (case z9k4 => k_asm); (case z9k5 => k_asm); (case z9kK => first | exact rfl | assumption);  (case z9kp => first | assumption | omega); (case z9kc => first | assumption | omega); (case z9kd => ktr_room); (case z9ku => ktr_units)); (intro tl9 D9 t9 q9 tv9 hnd9 hm9 hok9 h9 tk9 F9 N9); (try dsimp only); (try k_fold); rotate_left; (intro tl9 D9 t9 q9 hnd9 hm9 hok9 h9 tk9 F9 N9); (try dsimp only); (try k_fold); rotate_left)))
  k_with "my call ref" => ((k_here; (with_reducible show wpAny _ _ (call (Value.ref 164) _) _ _ _); k_dflt ((refine' Con.useR (c_numeric_no _ ?z10kp ?z10kc ?z10ke) el_eq ?z10k1 ?z10k2 ?z10k3 ?z10k4 ?z10k5 ?z10kK ?z10kd ?z10ku ?_; (case z10k1 => k_asm); (case z10k2 => k_asm); (case z10k3 => k_asm); (case z10k4 => k_asm); (case z10k5 => k_asm); (case z10kK => first | exact rfl | assumption);  (case z10kp => first | assumption | (refine' din_sub ?z10ds ?z10dh; (case z10dh => assumption); (case z10ds => tb_rel))); (case z10kc => assumption); (case z10ke => assumption); (case z10kd => ktr_room); (case z10ku => ktr_units)); (intro  h9 tk9 F9 N9); (try dsimp only); (try k_fold))))
  k_with "my call ref" => ((k_here; (with_reducible show wpAny _ _ (call (Value.ref 164) _) _ _ _); k_dflt ((refine' Con.useR (c_numeric _ ?z11kp ?z11kc) el_eq ?z11k1 ?z11k2 ?z11k3 ?z11k4 ?z11k5 ?z11kK ?z11kd ?z11ku ?_; (case z11k1 => k_asm); (case z11k2 => k_asm); (case z11k3 => k_asm); (case z11k4 => k_asm); (case z11k5 => k_asm); (case z11kK => first | exact rfl | assumption);  (case z11kp => first | assumption | (refine' din_sub ?z11ds ?z11dh; (case z11dh => assumption); (case z11ds => tb_rel))); (case z11kc => first | assumption | omega); (case z11kd => ktr_room); (case z11ku => ktr_units)); (intro  h9 tk9 F9 N9); (try dsimp only); (try k_fold))))
  k_with "my call ref" => ((k_here; (with_reducible show wpAny _ _ (call (Value.ref 248) _) _ _ _); k_dflt ((refine' Con.useR (c_under_still _ ?z14kp ?z14kc) el_eq ?z14k1 ?z14k2 ?z14k3 ?z14k4 ?z14k5 ?z14kK ?z14kd ?z14ku ?_; (case z14k1 => k_asm); (case z14k2 => k_asm); (case z14k3 => k_asm); (case z14k4 => k_asm); (case z14k5 => k_asm); (case z14kK => first | exact rfl | assumption);  (case z14kp => first | assumption | (refine' din_sub ?z14ds ?z14dh; (case z14dh => assumption); (case z14ds => tb_rel))); (case z14kc => assumption); (case z14kd => ktr_room); (case z14ku => ktr_units)); (intro  h9 tk9 F9 N9); (try dsimp only); (try k_fold))))
  k_with "my call ref" => ((k_here; (with_reducible show wpAny _ _ (call (Value.ref 248) _) _ _ _); k_dflt ((refine' Con.useR (c_under_num _ ?z15kp ?z15kc ?z15ka ?z15kb) el_made ?z15k1 ?z15k2 ?z15k3 ?z15k4 ?z15k5 ?z15kK ?z15kd ?z15ku ?_; (case z15k1 => k_asm); (case z15k2 => k_asm); (case z15k3 => k_asm); (case z15k4 => k_asm); (case z15k5 => k_asm); (case z15kK => first | exact rfl | assumption);  (case z15kp => first | assumption | (refine' din_sub ?z15ds ?z15dh; (case z15dh => assumption); (case z15ds => tb_rel))); (case z15kc => first | assumption | omega); (case z15ka => assumption); (case z15kb => first | assumption | omega); (case z15kd => ktr_room); (case z15ku => ktr_units)); (intro r9 tl9 hnd9 hD9 h9 tk9 F9 N9); (try dsimp only); (try k_fold))))
  k_with "my call ref" => ((k_here; (with_reducible show wpAny _ _ (call (Value.ref 213) _) _ _ _); k_dflt ((refine' Con.useR (c_fault_still _ ?z16kp ?z16kc) el_int ?z16k1 ?z16k2 ?z16k3 ?z16k4 ?z16k5 ?z16kK ?z16kd ?z16ku ?_; (case z16k1 => k_asm); (case z16k2 => k_asm); (case z16k3 => k_asm); (case z16k4 => k_asm); (case z16k5 => k_asm); (case z16kK => first | exact rfl | assumption);  (case z16kp => first | assumption | (refine' din_sub ?z16ds ?z16dh; (case z16dh => assumption); (case z16ds => tb_rel))); (case z16kc => assumption); (case z16kd => ktr_room); (case z16ku => ktr_units)); (intro t9 h9 tk9 F9 N9); (try dsimp only); (try k_fold))))
  k_with "my call ref" => ((k_here; (with_reducible show wpAny _ _ (call (Value.ref 213) _) _ _ _); k_dflt ((refine' Con.useR (c_fault_num _ ?z17kp ?z17kc ?z17ka ?z17kb) el_int ?z17k1 ?z17k2 ?z17k3 ?z17k4 ?z17k5 ?z17kK ?z17kd ?z17ku ?_; (case z17k1 => k_asm); (case z17k2 => k_asm); (case z17k3 => k_asm); (case z17k4 => k_asm); (case z17k5 => k_asm); (case z17kK => first | exact rfl | assumption);  (case z17kp => first | assumption | (refine' din_sub ?z17ds ?z17dh; (case z17dh => assumption); (case z17ds => tb_rel))); (case z17kc => first | assumption | omega); (case z17ka => assumption); (case z17kb => first | assumption | omega); (case z17kd => ktr_room); (case z17ku => ktr_units)); (intro t9 h9 tk9 F9 N9); (try dsimp only); (try k_fold))))
  k_with "my call ref" => ((k_here; (with_reducible show wpAny _ _ (call (Value.ref 312) _) _ _ _); k_dflt ((refine' Con.useR (c_into _ ?z26kp) el_int ?z26k1 ?z26k2 ?z26k3 ?z26k4 ?z26k5 ?z26kK ?z26kd ?z26ku ?_; (case z26k1 => k_asm); (case z26k2 => k_asm); (case z26k3 => k_asm); (case z26k4 => k_asm); (case z26k5 => k_asm); (case z26kK => first | exact rfl | assumption);  (case z26kp => first | assumption | omega); (case z26kd => ktr_room); (case z26ku => ktr_units)); (intro t9 h9 tk9 F9 N9); (try dsimp only); (try k_fold))))
  k_with "my call ref" => ((k_here; (with_reducible show wpAny _ _ (call (Value.ref 347) _) _ _ _); k_dflt ((refine' Con.useR (c_due_none _ ?z27kp) el_made ?z27k1 ?z27k2 ?z27k3 ?z27k4 ?z27k5 ?z27kK ?z27kd ?z27ku ?_; (case z27k1 => k_asm); (case z27k2 => k_asm); (case z27k3 => k_asm); (case z27k4 => k_asm); (case z27k5 => k_asm); (case z27kK => first | exact rfl | assumption);  (case z27kp => first | assumption | (refine' din_sub ?z27ds ?z27dh; (case z27dh => assumption); (case z27ds => tb_rel))); (case z27kd => ktr_room); (case z27ku => ktr_units)); (intro r9 tl9 hnd9 hD9 h9 tk9 F9 N9); (try dsimp only); (try k_fold))))
  k_with "my call ref" => ((k_here; (with_reducible show wpAny _ _ (call (Value.ref 347) _) _ _ _); k_dflt ((refine' Con.useR (c_due_num _ ?z28kp ?z28kc ?z28kb) el_made ?z28k1 ?z28k2 ?z28k3 ?z28k4 ?z28k5 ?z28kK ?z28kd ?z28ku ?_; (case z28k1 => k_asm); (case z28k2 => k_asm); (case z28k3 => k_asm); (case z28k4 => k_asm); (case z28k5 => k_asm); (case z28kK => first | exact rfl | assumption);  (case z28kp => first | assumption | (refine' din_sub ?z28ds ?z28dh; (case z28dh => assumption); (case z28ds => tb_rel))); (case z28kc => first | assumption | omega); (case z28kb => first | assumption | omega); (case z28kd => ktr_room); (case z28ku => ktr_units)); (intro r9 tl9 hnd9 hD9 h9 tk9 F9 N9); (try dsimp only); (try k_fold))))
  k_with "my call ref" => ((k_here; (with_reducible show wpAny _ _ (call (Value.ref 305) _) _ _ _); k_dflt ((refine' Con.useRW ?z29kP (c_take _ ?z29kw ?z29ks ?z29ki ?z29kn) el_take ?z29k1 ?z29k2 ?z29k3 ?z29k4 ?z29k5 ?z29kK ?z29kd ?z29ku ?_; (case z29k1 => k_asm); (case z29k2 => k_asm); (case z29k3 => k_asm); (case z29k4 => k_asm); (case z29k5 => k_asm); (case z29kK => first | exact rfl | assumption); (case z29kP => tb_start);  (case z29kw => assumption); (case z29ks => ktr_rel); (case z29ki => omega); (case z29kn => omega); (case z29kd => ktr_room); (case z29ku => ktr_units)); (intro x9 t9 o9 hx09 hxn9 hxl9 hw9 h9 tk9 F9 N9); (try dsimp only); (try k_fold))))
  k_with "my call ref" => ((k_here; (with_reducible show wpAny _ _ (call (Value.ref 319) _) _ _ _); k_dflt ((refine' Con.useRW ?z33kP (c_number _ ?z33kw ?z33ks ?z33ki ?z33kn) el_num ?z33k1 ?z33k2 ?z33k3 ?z33k4 ?z33k5 ?z33kK ?z33kd ?z33ku ?_; (case z33k1 => k_asm); (case z33k2 => k_asm); (case z33k3 => k_asm); (case z33k4 => k_asm); (case z33k5 => k_asm); (case z33kK => first | exact rfl | assumption); (case z33kP => tb_start);  (case z33kw => assumption); (case z33ks => ktr_rel); (case z33ki => omega); (case z33kn => first | assumption | omega | exact kmenu_b (by assumption) (by assumption) | exact umenu_b (by assumption) (by assumption)); (case z33kd => ktr_room); (case z33ku => ktr_units)); (intro x9 t9 o9 i9 hi09 hw9 h9 tk9 F9 N9); (try dsimp only); (try k_fold))))
  k_with "my call ref" => ((k_here; (with_reducible show wpAny _ _ (call (Value.ref 326) _) _ _ _); k_dflt ((refine' Con.useRW ?z34kP (c_constant _ ?z34kw ?z34ks ?z34ki) el_const ?z34k1 ?z34k2 ?z34k3 ?z34k4 ?z34k5 ?z34kK ?z34kd ?z34ku ?_; (case z34k1 => k_asm); (case z34k2 => k_asm); (case z34k3 => k_asm); (case z34k4 => k_asm); (case z34k5 => k_asm); (case z34kK => first | exact rfl | assumption); (case z34kP => tb_start);  (case z34kw => assumption); (case z34ks => ktr_rel); (case z34ki => omega); (case z34kd => ktr_room); (case z34ku => ktr_units)); (intro D9 e9 q9 o9 i9 tl9 k9 x9 tv9 hnd9 hi09 hw9 hm9 hD9 hk9 h9 tk9 F9 N9); (try dsimp only); (try k_fold))))
  k_with "my call ref" => ((k_here; (with_reducible show wpAny _ _ (call (Value.ref 333) _) _ _ _); k_dflt ((refine' Con.useRW ?z35kP (c_inner _ ?z35kw ?z35ks ?z35ki) el_inner ?z35k1 ?z35k2 ?z35k3 ?z35k4 ?z35k5 ?z35kK ?z35kd ?z35ku ?_; (case z35k1 => k_asm); (case z35k2 => k_asm); (case z35k3 => k_asm); (case z35k4 => k_asm); (case z35k5 => k_asm); (case z35kK => first | exact rfl | assumption); (case z35kP => tb_start);  (case z35kw => assumption); (case z35ks => ktr_rel); (case z35ki => omega); (case z35kd => ktr_room); (case z35ku => ktr_units)); (intro D9 e9 nv9 q9 o9 i9 tl9 in9 n9 hnd9 hi09 hw9 hm9 hD9 hok9 hnn9 hv9 h9 tk9 F9 N9); (try dsimp only); (try k_fold))))
  k_with "my call ref" => ((k_here; (with_reducible show wpAny _ _ (call (Value.ref 340) _) _ _ _); k_dflt ((refine' Con.useRW2 ?z36kP (c_node _ ?z36kw ?z36ks ?z36ki) el_node ?z36k1 ?z36k2 ?z36k3 ?z36k4 ?z36k5 ?z36kK ?z36kd ?z36ku ?_ ?_; (case z36k1 => k_asm); (case z36k2 => k_asm); (case z36k3 => k_asm); (case z36k4 => k_asm); (case z36k5 => k_asm); (case z36kK => first | exact rfl | assumption); (case z36kP => tb_start);  (case z36kw => assumption); (case z36ks => ktr_rel); (case z36ki => omega); (case z36kd => ktr_room); (case z36ku => ktr_units)); (intro D9 e9 q9 o9 i9 tl9 kd9 k09 x9 c9 tv9 hnd9 hi09 hw9 hm9 hD9 hq9 hkd9 hk09 hc9 h9 tk9 F9 N9); (try dsimp only); (try k_fold); rotate_left; (intro D9 e9 q9 o9 i9 tl9 dd9 hnd9 hi09 hw9 hm9 hD9 hq9 hst9 h9 tk9 F9 N9); (try dsimp only); (try k_fold); rotate_left)))
  k_with "my call ref" => ((k_here; (with_reducible show wpAny _ _ (call (Value.ref 297) _) _ _ _); k_dflt ((refine' Con.useR (c_fold_enum _ ?z37kp ?z37kc ?z37ka) el_made ?z37k1 ?z37k2 ?z37k3 ?z37k4 ?z37k5 ?z37kK ?z37kd ?z37ku ?_; (case z37k1 => k_asm); (case z37k2 => k_asm); (case z37k3 => k_asm); (case z37k4 => k_asm); (case z37k5 => k_asm); (case z37kK => first | exact rfl | assumption);  (case z37kp => first | assumption | (refine' din_sub ?z37ds ?z37dh; (case z37dh => assumption); (case z37ds => tb_rel))); (case z37kc => first | assumption | omega); (case z37ka => first | assumption | omega); (case z37kd => ktr_room); (case z37ku => ktr_units)); (intro r9 tl9 hnd9 hD9 h9 tk9 F9 N9); (try dsimp only); (try k_fold))))
  k_with "my call ref" => ((k_here; (with_reducible show wpAny _ _ (call (Value.ref 297) _) _ _ _); k_dflt ((refine' Con.useR (c_fold_num _ ?z38kp ?z38kc ?z38ka ?z38kb) el_made ?z38k1 ?z38k2 ?z38k3 ?z38k4 ?z38k5 ?z38kK ?z38kd ?z38ku ?_; (case z38k1 => k_asm); (case z38k2 => k_asm); (case z38k3 => k_asm); (case z38k4 => k_asm); (case z38k5 => k_asm); (case z38kK => first | exact rfl | assumption);  (case z38kp => first | assumption | (refine' din_sub ?z38ds ?z38dh; (case z38dh => assumption); (case z38ds => tb_rel))); (case z38kc => first | assumption | omega); (case z38ka => first | assumption | omega); (case z38kb => first | assumption | omega); (case z38kd => ktr_room); (case z38ku => ktr_units)); (intro r9 tl9 hnd9 hD9 h9 tk9 F9 N9); (try dsimp only); (try k_fold))))
  k_with "my call ref" => ((k_here; (with_reducible show wpAny _ _ (call (Value.ref 297) _) _ _ _); k_dflt ((refine' Con.useR (c_fold_bad _ ?z39kp) el_eq ?z39k1 ?z39k2 ?z39k3 ?z39k4 ?z39k5 ?z39kK ?z39kd ?z39ku ?_; (case z39k1 => k_asm); (case z39k2 => k_asm); (case z39k3 => k_asm); (case z39k4 => k_asm); (case z39k5 => k_asm); (case z39kK => first | exact rfl | assumption);  (case z39kp => first | assumption | (refine' din_sub ?z39ds ?z39dh; (case z39dh => assumption); (case z39ds => tb_rel))); (case z39kd => ktr_room); (case z39ku => ktr_units)); (intro  h9 tk9 F9 N9); (try dsimp only); (try k_fold))))
  exact True.intro
theorem c_fault_enum (w : World) {v : Value} {kind k0 n c : Int} {news : Led} (hD : DatIn news v (convD kind (.num k0 n) c)) (hk : 40 ≤ kind ∧ kind ≤ 47) (hk0 : (2 ≤ k0 ∧ k0 ≤ 10) ∨ (40 ≤ k0 ∧ k0 ≤ 47)) :
    Con w 206 [v] 12 160 news (fun r news' => (∃ t, r = .int 0 t) ∧ news' = news) := by
  refine' conv_el (P := fun v => Con w 206 [v] 12 160 news (fun r news' => (∃ t, r = .int 0 t) ∧ news' = news)) hD ?_
  intro a q a' q' t1 t2 t4 t5 s1 s2 s3 hm hm' hD0 h3
  unfold Con
  w_top off
  k_fill
  intro mean mg mb dp un gd cn cs a ccd cl outer A₀ base h₀ L m s Q E B F X N T hkk hdd huu hret
  refine wpAny_call ?_
  k_dflt cell_enter
  k_steps
  all_goals first | (exfalso; omega) | (refine hret _ _ _ _ (by k_asm) (by k_asm) ?_; exact ⟨⟨_, rfl⟩, rfl⟩)
theorem c_fault_same (w : World) {v : Value} {k k0 n c : Int} {news : Led} (hD : DatIn news v (convD k (.num k0 n) c)) (hk : 2 ≤ k ∧ k ≤ 10) (hk0 : (2 ≤ k0 ∧ k0 ≤ 10) ∨ (40 ≤ k0 ∧ k0 ≤ 47)) (hc : c = 0 ∨ c = 1) :
    Con w 206 [v] 14 192 news (fun r news' => (∃ t, r = .int (faV k n c) t) ∧ news' = news) := by
  refine' conv_el (P := fun v => Con w 206 [v] 14 192 news (fun r news' => (∃ t, r = .int (faV k n c) t) ∧ news' = news)) hD ?_
  intro a q a' q' t1 t2 t4 t5 s1 s2 s3 hm hm' hD0 h3
  unfold Con
  w_top off
  k_fill
  intro mean mg mb dp un gd cn cs a ccd cl outer A₀ base h₀ L m s Q E B F X N T hkk hdd huu hret
  refine wpAny_call ?_
  k_dflt cell_enter
  k_steps
  all_goals first
    | (exfalso; omega)
    | (refine' hret _ _ _ _ ?rF ?rN ⟨⟨_, congrArg (fun x => Value.int x _) (if_pos (by assumption)).symm⟩, rfl⟩; (case rF => k_asm); (case rN => exact weak (by k_asm) (by kcj_in)))
    | (refine' hret _ _ _ _ ?rF ?rN ⟨⟨_, congrArg (fun x => Value.int x _) (if_neg (by assumption)).symm⟩, rfl⟩; (case rF => k_asm); (case rN => exact weak (by k_asm) (by kcj_in)))
theorem c_fault_bad (w : World) {v : Value} {k c : Int} {news : Led} (hD : DatIn news v (convD k .bad c)) :
    Con w 206 [v] 12 160 news (fun r news' => (∃ t, r = .int 0 t) ∧ news' = news) := by
  refine' conv_elb (P := fun v => Con w 206 [v] 12 160 news (fun r news' => (∃ t, r = .int 0 t) ∧ news' = news)) hD ?_
  intro a q a' q' t1 t2 t4 t5 s1 s2 s3 hm hm' hD0 h3
  have hb1 : In.bad.ok := True.intro
  have hb2 : In.bad.n = none := rfl
  unfold Con
  w_top off
  k_fill
  intro mean mg mb dp un gd cn cs a ccd cl outer A₀ base h₀ L m s Q E B F X N T hkk hdd huu hret
  refine wpAny_call ?_
  k_dflt cell_enter
  k_steps
  all_goals (refine hret _ _ _ _ (by k_asm) (by k_asm) ?_; exact ⟨⟨_, rfl⟩, rfl⟩)

/-! asc -/
/-- the node as an operation of constants -/
def asD (kind : Int) (i : In) (c lo : Int) : Dat := if lo = 0 ∧ i.n.isSome = true then convD kind i 1 else convD kind i c
theorem reg_19 : True := by
  k_with_none
  k_with "my subscriptTail Name Constant ref int" => ((k_here; k_dflt (refine' item_tupleT ?z0T ?z0a ?z0b ?z0j ?z0x ?_ ?z0s; (case z0T => exact isT (by k_asm) (by k_mem)); (case z0a => decide); (case z0b => decide); (case z0j => exact rfl); (case z0x => exact rfl); (case z0s => with_unfolding_all rfl); k_whole)))
  k_with "my subscriptTail Subscript Constant ref int" => ((k_here; k_dflt (refine' item_tupleT ?z1T ?z1a ?z1b ?z1j ?z1x ?_ ?z1s; (case z1T => exact isT (by k_asm) (by k_mem)); (case z1a => decide); (case z1b => decide); (case z1j => exact rfl); (case z1x => exact rfl); (case z1s => with_unfolding_all rfl); k_whole)))
  k_with "my eval Call" => ((k_here; first | k_compRoot | k_dflt (refine Call_ ?_)))
  k_with "my call ref" => ((k_here; (with_reducible show wpAny _ _ (call (Value.ref 65) _) _ _ _); k_dflt ((refine' Con.useR (c_int_range _ ?z5kp) (el_rng ?z5kX) ?z5k1 ?z5k2 ?z5k3 ?z5k4 ?z5k5 ?z5kK ?z5kd ?z5ku ?_; (case z5k1 => k_asm); (case z5k2 => k_asm); (case z5k3 => k_asm); (case z5k4 => k_asm); (case z5k5 => k_asm); (case z5kK => first | exact rfl | assumption);  (case z5kp => first | assumption | omega); (case z5kX => k_asm); (case z5kd => ktr_room); (case z5ku => ktr_units)); (intro a9 t1 t2 hK9 hT9 h9 tk9 F9 N9); (try dsimp only); (try k_fold))))
  k_with "my call ref" => ((k_here; (with_reducible show wpAny _ _ (call (Value.ref 87) _) _ _ _); k_dflt ((refine' Con.useR (c_in_range _ ?z6kp) el_eq ?z6k1 ?z6k2 ?z6k3 ?z6k4 ?z6k5 ?z6kK ?z6kd ?z6ku ?_; (case z6k1 => k_asm); (case z6k2 => k_asm); (case z6k3 => k_asm); (case z6k4 => k_asm); (case z6k5 => k_asm); (case z6kK => first | exact rfl | assumption);  (case z6kp => first | assumption | omega); (case z6kd => ktr_room); (case z6ku => ktr_units)); (intro  h9 tk9 F9 N9); (try dsimp only); (try k_fold))))
  k_with "my call ref" => ((k_here; (with_reducible show wpAny _ _ (call (Value.ref 80) _) _ _ _); k_dflt ((refine' Con.useR (c_cut _ ?z7kp) el_int ?z7k1 ?z7k2 ?z7k3 ?z7k4 ?z7k5 ?z7kK ?z7kd ?z7ku ?_; (case z7k1 => k_asm); (case z7k2 => k_asm); (case z7k3 => k_asm); (case z7k4 => k_asm); (case z7k5 => k_asm); (case z7kK => first | exact rfl | assumption);  (case z7kp => first | assumption | omega); (case z7kd => ktr_room); (case z7ku => ktr_units)); (intro t9 h9 tk9 F9 N9); (try dsimp only); (try k_fold))))
  k_with "my call ref" => ((k_here; (with_reducible show wpAny _ _ (call (Value.ref 129) _) _ _ _); k_dflt ((refine' Con.useR2 (c_whole _ ?z8kp ?z8kc) el_conv ?z8k1 ?z8k2 ?z8k3 ?z8k4 ?z8k5 ?z8kK ?z8kd ?z8ku ?_ ?_; (case z8k1 => k_asm); (case z8k2 => k_asm); (case z8k3 => k_asm); (case z8k4 => k_asm); (case z8k5 => k_asm); (case z8kK => first | exact rfl | assumption);  (case z8kp => first | assumption | omega); (case z8kc => first | assumption | omega); (case z8kd => ktr_room); (case z8ku => ktr_units)); (intro tl9 D9 t9 q9 tv9 hnd9 hm9 hok9 h9 tk9 F9 N9); (try dsimp only); (try k_fold); rotate_left; (intro tl9 D9 t9 q9 hnd9 hm9 hok9 h9 tk9 F9 N9); (try dsimp only); (try k_fold); rotate_left)))
  k_with "my call ref" => ((k_here; (with_reducible show wpAny _ _ (call (Value.ref 150) _) _ _ _); k_dflt ((refine' Con.useR2 (c_conv _ ?z9kp ?z9kc) el_conv ?z9k1 ?z9k2 ?z9k3 ?z9k4 ?z9k5 ?z9kK ?z9kd ?z9ku ?_ ?_; (case z9k1 => k_asm); (case z9k2 => k_asm); (case z9k3 => k_asm); (case z9k4 => k_asm); (case z9k5 => k_asm); (case z9kK => first | exact rfl | assumption);  (case z9kp => first | assumption | omega); (case z9kc => first | assumption | omega); (case z9kd => ktr_room); (case z9ku => ktr_units)); (intro tl9 D9 t9 q9 tv9 hnd9 hm9 hok9 h9 tk9 F9 N9); (try dsimp only); (try k_fold); rotate_left; (intro tl9 D9 t9 q9 hnd9 hm9 hok9 h9 tk9 F9 N9); (try dsimp only); (try k_fold); rotate_left)))
  k_with "my call ref" => ((k_here; (with_reducible show wpAny _ _ (call (Value.ref 164) _) _ _ _); k_dflt ((refine' Con.useR (c_numeric_no _ ?z10kp ?z10kc ?z10ke) el_eq ?z10k1 ?z10k2 ?z10k3 ?z10k4 ?z10k5 ?z10kK ?z10kd ?z10ku ?_; (case z10k1 => k_asm); (case z10k2 => k_asm); (case z10k3 => k_asm); (case z10k4 => k_asm); (case z10k5 => k_asm); (case z10kK => first | exact rfl | assumption);  (case z10kp => first | assumption | (refine' din_sub ?z10ds ?z10dh; (case z10dh => assumption); (case z10ds => tb_rel))); (case z10kc => assumption); (case z10ke => assumption); (case z10kd => ktr_room); (case z10ku => ktr_units)); (intro  h9 tk9 F9 N9); (try dsimp only); (try k_fold))))
  k_with "my call ref" => ((k_here; (with_reducible show wpAny _ _ (call (Value.ref 164) _) _ _ _); k_dflt ((refine' Con.useR (c_numeric _ ?z11kp ?z11kc) el_eq ?z11k1 ?z11k2 ?z11k3 ?z11k4 ?z11k5 ?z11kK ?z11kd ?z11ku ?_; (case z11k1 => k_asm); (case z11k2 => k_asm); (case z11k3 => k_asm); (case z11k4 => k_asm); (case z11k5 => k_asm); (case z11kK => first | exact rfl | assumption);  (case z11kp => first | assumption | (refine' din_sub ?z11ds ?z11dh; (case z11dh => assumption); (case z11ds => tb_rel))); (case z11kc => first | assumption | omega); (case z11kd => ktr_room); (case z11ku => ktr_units)); (intro  h9 tk9 F9 N9); (try dsimp only); (try k_fold))))
  k_with "my call ref" => ((k_here; (with_reducible show wpAny _ _ (call (Value.ref 248) _) _ _ _); k_dflt ((refine' Con.useR (c_under_still _ ?z14kp ?z14kc) el_eq ?z14k1 ?z14k2 ?z14k3 ?z14k4 ?z14k5 ?z14kK ?z14kd ?z14ku ?_; (case z14k1 => k_asm); (case z14k2 => k_asm); (case z14k3 => k_asm); (case z14k4 => k_asm); (case z14k5 => k_asm); (case z14kK => first | exact rfl | assumption);  (case z14kp => first | assumption | (refine' din_sub ?z14ds ?z14dh; (case z14dh => assumption); (case z14ds => tb_rel))); (case z14kc => assumption); (case z14kd => ktr_room); (case z14ku => ktr_units)); (intro  h9 tk9 F9 N9); (try dsimp only); (try k_fold))))
  k_with "my call ref" => ((k_here; (with_reducible show wpAny _ _ (call (Value.ref 248) _) _ _ _); k_dflt ((refine' Con.useR (c_under_num _ ?z15kp ?z15kc ?z15ka ?z15kb) el_made ?z15k1 ?z15k2 ?z15k3 ?z15k4 ?z15k5 ?z15kK ?z15kd ?z15ku ?_; (case z15k1 => k_asm); (case z15k2 => k_asm); (case z15k3 => k_asm); (case z15k4 => k_asm); (case z15k5 => k_asm); (case z15kK => first | exact rfl | assumption);  (case z15kp => first | assumption | (refine' din_sub ?z15ds ?z15dh; (case z15dh => assumption); (case z15ds => tb_rel))); (case z15kc => first | assumption | omega); (case z15ka => assumption); (case z15kb => first | assumption | omega); (case z15kd => ktr_room); (case z15ku => ktr_units)); (intro r9 tl9 hnd9 hD9 h9 tk9 F9 N9); (try dsimp only); (try k_fold))))
  k_with "my call ref" => ((k_here; (with_reducible show wpAny _ _ (call (Value.ref 213) _) _ _ _); k_dflt ((refine' Con.useR (c_fault_still _ ?z16kp ?z16kc) el_int ?z16k1 ?z16k2 ?z16k3 ?z16k4 ?z16k5 ?z16kK ?z16kd ?z16ku ?_; (case z16k1 => k_asm); (case z16k2 => k_asm); (case z16k3 => k_asm); (case z16k4 => k_asm); (case z16k5 => k_asm); (case z16kK => first | exact rfl | assumption);  (case z16kp => first | assumption | (refine' din_sub ?z16ds ?z16dh; (case z16dh => assumption); (case z16ds => tb_rel))); (case z16kc => assumption); (case z16kd => ktr_room); (case z16ku => ktr_units)); (intro t9 h9 tk9 F9 N9); (try dsimp only); (try k_fold))))
  k_with "my call ref" => ((k_here; (with_reducible show wpAny _ _ (call (Value.ref 213) _) _ _ _); k_dflt ((refine' Con.useR (c_fault_num _ ?z17kp ?z17kc ?z17ka ?z17kb) el_int ?z17k1 ?z17k2 ?z17k3 ?z17k4 ?z17k5 ?z17kK ?z17kd ?z17ku ?_; (case z17k1 => k_asm); (case z17k2 => k_asm); (case z17k3 => k_asm); (case z17k4 => k_asm); (case z17k5 => k_asm); (case z17kK => first | exact rfl | assumption);  (case z17kp => first | assumption | (refine' din_sub ?z17ds ?z17dh; (case z17dh => assumption); (case z17ds => tb_rel))); (case z17kc => first | assumption | omega); (case z17ka => assumption); (case z17kb => first | assumption | omega); (case z17kd => ktr_room); (case z17ku => ktr_units)); (intro t9 h9 tk9 F9 N9); (try dsimp only); (try k_fold))))
  k_with "my call ref" => ((k_here; (with_reducible show wpAny _ _ (call (Value.ref 312) _) _ _ _); k_dflt ((refine' Con.useR (c_into _ ?z26kp) el_int ?z26k1 ?z26k2 ?z26k3 ?z26k4 ?z26k5 ?z26kK ?z26kd ?z26ku ?_; (case z26k1 => k_asm); (case z26k2 => k_asm); (case z26k3 => k_asm); (case z26k4 => k_asm); (case z26k5 => k_asm); (case z26kK => first | exact rfl | assumption);  (case z26kp => first | assumption | omega); (case z26kd => ktr_room); (case z26ku => ktr_units)); (intro t9 h9 tk9 F9 N9); (try dsimp only); (try k_fold))))
  k_with "my call ref" => ((k_here; (with_reducible show wpAny _ _ (call (Value.ref 347) _) _ _ _); k_dflt ((refine' Con.useR (c_due_none _ ?z27kp) el_made ?z27k1 ?z27k2 ?z27k3 ?z27k4 ?z27k5 ?z27kK ?z27kd ?z27ku ?_; (case z27k1 => k_asm); (case z27k2 => k_asm); (case z27k3 => k_asm); (case z27k4 => k_asm); (case z27k5 => k_asm); (case z27kK => first | exact rfl | assumption);  (case z27kp => first | assumption | (refine' din_sub ?z27ds ?z27dh; (case z27dh => assumption); (case z27ds => tb_rel))); (case z27kd => ktr_room); (case z27ku => ktr_units)); (intro r9 tl9 hnd9 hD9 h9 tk9 F9 N9); (try dsimp only); (try k_fold))))
  k_with "my call ref" => ((k_here; (with_reducible show wpAny _ _ (call (Value.ref 347) _) _ _ _); k_dflt ((refine' Con.useR (c_due_num _ ?z28kp ?z28kc ?z28kb) el_made ?z28k1 ?z28k2 ?z28k3 ?z28k4 ?z28k5 ?z28kK ?z28kd ?z28ku ?_; (case z28k1 => k_asm); (case z28k2 => k_asm); (case z28k3 => k_asm); (case z28k4 => k_asm); (case z28k5 => k_asm); (case z28kK => first | exact rfl | assumption);  (case z28kp => first | assumption | (refine' din_sub ?z28ds ?z28dh; (case z28dh => assumption); (case z28ds => tb_rel))); (case z28kc => first | assumption | omega); (case z28kb => first | assumption | omega); (case z28kd => ktr_room); (case z28ku => ktr_units)); (intro r9 tl9 hnd9 hD9 h9 tk9 F9 N9); (try dsimp only); (try k_fold))))
  k_with "my call ref" => ((k_here; (with_reducible show wpAny _ _ (call (Value.ref 305) _) _ _ _); k_dflt ((refine' Con.useRW ?z29kP (c_take _ ?z29kw ?z29ks ?z29ki ?z29kn) el_take ?z29k1 ?z29k2 ?z29k3 ?z29k4 ?z29k5 ?z29kK ?z29kd ?z29ku ?_; (case z29k1 => k_asm); (case z29k2 => k_asm); (case z29k3 => k_asm); (case z29k4 => k_asm); (case z29k5 => k_asm); (case z29kK => first | exact rfl | assumption); (case z29kP => tb_start);  (case z29kw => assumption); (case z29ks => ktr_rel); (case z29ki => omega); (case z29kn => omega); (case z29kd => ktr_room); (case z29ku => ktr_units)); (intro x9 t9 o9 hx09 hxn9 hxl9 hw9 h9 tk9 F9 N9); (try dsimp only); (try k_fold))))
  k_with "my call ref" => ((k_here; (with_reducible show wpAny _ _ (call (Value.ref 319) _) _ _ _); k_dflt ((refine' Con.useRW ?z33kP (c_number _ ?z33kw ?z33ks ?z33ki ?z33kn) el_num ?z33k1 ?z33k2 ?z33k3 ?z33k4 ?z33k5 ?z33kK ?z33kd ?z33ku ?_; (case z33k1 => k_asm); (case z33k2 => k_asm); (case z33k3 => k_asm); (case z33k4 => k_asm); (case z33k5 => k_asm); (case z33kK => first | exact rfl | assumption); (case z33kP => tb_start);  (case z33kw => assumption); (case z33ks => ktr_rel); (case z33ki => omega); (case z33kn => first | assumption | omega | exact kmenu_b (by assumption) (by assumption) | exact umenu_b (by assumption) (by assumption)); (case z33kd => ktr_room); (case z33ku => ktr_units)); (intro x9 t9 o9 i9 hi09 hw9 h9 tk9 F9 N9); (try dsimp only); (try k_fold))))
  k_with "my call ref" => ((k_here; (with_reducible show wpAny _ _ (call (Value.ref 326) _) _ _ _); k_dflt ((refine' Con.useRW ?z34kP (c_constant _ ?z34kw ?z34ks ?z34ki) el_const ?z34k1 ?z34k2 ?z34k3 ?z34k4 ?z34k5 ?z34kK ?z34kd ?z34ku ?_; (case z34k1 => k_asm); (case z34k2 => k_asm); (case z34k3 => k_asm); (case z34k4 => k_asm); (case z34k5 => k_asm); (case z34kK => first | exact rfl | assumption); (case z34kP => tb_start);  (case z34kw => assumption); (case z34ks => ktr_rel); (case z34ki => omega); (case z34kd => ktr_room); (case z34ku => ktr_units)); (intro D9 e9 q9 o9 i9 tl9 k9 x9 tv9 hnd9 hi09 hw9 hm9 hD9 hk9 h9 tk9 F9 N9); (try dsimp only); (try k_fold))))
  k_with "my call ref" => ((k_here; (with_reducible show wpAny _ _ (call (Value.ref 333) _) _ _ _); k_dflt ((refine' Con.useRW ?z35kP (c_inner _ ?z35kw ?z35ks ?z35ki) el_inner ?z35k1 ?z35k2 ?z35k3 ?z35k4 ?z35k5 ?z35kK ?z35kd ?z35ku ?_; (case z35k1 => k_asm); (case z35k2 => k_asm); (case z35k3 => k_asm); (case z35k4 => k_asm); (case z35k5 => k_asm); (case z35kK => first | exact rfl | assumption); (case z35kP => tb_start);  (case z35kw => assumption); (case z35ks => ktr_rel); (case z35ki => omega); (case z35kd => ktr_room); (case z35ku => ktr_units)); (intro D9 e9 nv9 q9 o9 i9 tl9 in9 n9 hnd9 hi09 hw9 hm9 hD9 hok9 hnn9 hv9 h9 tk9 F9 N9); (try dsimp only); (try k_fold))))
  k_with "my call ref" => ((k_here; (with_reducible show wpAny _ _ (call (Value.ref 340) _) _ _ _); k_dflt ((refine' Con.useRW2 ?z36kP (c_node _ ?z36kw ?z36ks ?z36ki) el_node ?z36k1 ?z36k2 ?z36k3 ?z36k4 ?z36k5 ?z36kK ?z36kd ?z36ku ?_ ?_; (case z36k1 => k_asm); (case z36k2 => k_asm); (case z36k3 => k_asm); (case z36k4 => k_asm); (case z36k5 => k_asm); (case z36kK => first | exact rfl | assumption); (case z36kP => tb_start);  (case z36kw => assumption); (case z36ks => ktr_rel); (case z36ki => omega); (case z36kd => ktr_room); (case z36ku => ktr_units)); (intro D9 e9 q9 o9 i9 tl9 kd9 k09 x9 c9 tv9 hnd9 hi09 hw9 hm9 hD9 hq9 hkd9 hk09 hc9 h9 tk9 F9 N9); (try dsimp only); (try k_fold); rotate_left; (intro D9 e9 q9 o9 i9 tl9 dd9 hnd9 hi09 hw9 hm9 hD9 hq9 hst9 h9 tk9 F9 N9); (try dsimp only); (try k_fold); rotate_left)))
  k_with "my call ref" => ((k_here; (with_reducible show wpAny _ _ (call (Value.ref 297) _) _ _ _); k_dflt ((refine' Con.useR (c_fold_enum _ ?z37kp ?z37kc ?z37ka) el_made ?z37k1 ?z37k2 ?z37k3 ?z37k4 ?z37k5 ?z37kK ?z37kd ?z37ku ?_; (case z37k1 => k_asm); (case z37k2 => k_asm); (case z37k3 => k_asm); (case z37k4 => k_asm); (case z37k5 => k_asm); (case z37kK => first | exact rfl | assumption);  (case z37kp => first | assumption | (refine' din_sub ?z37ds ?z37dh; (case z37dh => assumption); (case z37ds => tb_rel))); (case z37kc => first | assumption | omega); (case z37ka => first | assumption | omega); (case z37kd => ktr_room); (case z37ku => ktr_units)); (intro r9 tl9 hnd9 hD9 h9 tk9 F9 N9); (try dsimp only); (try k_fold))))
  k_with "my call ref" => ((k_here; (with_reducible show wpAny _ _ (call (Value.ref 297) _) _ _ _); k_dflt ((refine' Con.useR (c_fold_num _ ?z38kp ?z38kc ?z38ka ?z38kb) el_made ?z38k1 ?z38k2 ?z38k3 ?z38k4 ?z38k5 ?z38kK ?z38kd ?z38ku ?_; (case z38k1 => k_asm); (case z38k2 => k_asm); (case z38k3 => k_asm); (case z38k4 => k_asm); (case z38k5 => k_asm); (case z38kK => first | exact rfl | assumption);  (case z38kp => first | assumption | (refine' din_sub ?z38ds ?z38dh; (case z38dh => assumption); (case z38ds => tb_rel))); (case z38kc => first | assumption | omega); (case z38ka => first | assumption | omega); (case z38kb => first | assumption | omega); (case z38kd => ktr_room); (case z38ku => ktr_units)); (intro r9 tl9 hnd9 hD9 h9 tk9 F9 N9); (try dsimp only); (try k_fold))))
  k_with "my call ref" => ((k_here; (with_reducible show wpAny _ _ (call (Value.ref 297) _) _ _ _); k_dflt ((refine' Con.useR (c_fold_bad _ ?z39kp) el_eq ?z39k1 ?z39k2 ?z39k3 ?z39k4 ?z39k5 ?z39kK ?z39kd ?z39ku ?_; (case z39k1 => k_asm); (case z39k2 => k_asm); (case z39k3 => k_asm); (case z39k4 => k_asm); (case z39k5 => k_asm); (case z39kK => first | exact rfl | assumption);  (case z39kp => first | assumption | (refine' din_sub ?z39ds ?z39dh; (case z39dh => assumption); (case z39ds => tb_rel))); (case z39kd => ktr_room); (case z39ku => ktr_units)); (intro  h9 tk9 F9 N9); (try dsimp only); (try k_fold))))
  k_with "my call ref" => ((k_here; (with_reducible show wpAny _ _ (call (Value.ref 206) _) _ _ _); k_dflt ((refine' Con.useR (c_fault_enum _ ?z40kp ?z40kc ?z40ka) el_int ?z40k1 ?z40k2 ?z40k3 ?z40k4 ?z40k5 ?z40kK ?z40kd ?z40ku ?_; (case z40k1 => k_asm); (case z40k2 => k_asm); (case z40k3 => k_asm); (case z40k4 => k_asm); (case z40k5 => k_asm); (case z40kK => first | exact rfl | assumption);  (case z40kp => first | assumption | (refine' din_sub ?z40ds ?z40dh; (case z40dh => assumption); (case z40ds => tb_rel))); (case z40kc => first | assumption | omega); (case z40ka => first | assumption | omega); (case z40kd => ktr_room); (case z40ku => ktr_units)); (intro t9 h9 tk9 F9 N9); (try dsimp only); (try k_fold))))
  k_with "my call ref" => ((k_here; (with_reducible show wpAny _ _ (call (Value.ref 206) _) _ _ _); k_dflt ((refine' Con.useR (c_fault_same _ ?z41kp ?z41kc ?z41ka ?z41kb) el_int ?z41k1 ?z41k2 ?z41k3 ?z41k4 ?z41k5 ?z41kK ?z41kd ?z41ku ?_; (case z41k1 => k_asm); (case z41k2 => k_asm); (case z41k3 => k_asm); (case z41k4 => k_asm); (case z41k5 => k_asm); (case z41kK => first | exact rfl | assumption);  (case z41kp => first | assumption | (refine' din_sub ?z41ds ?z41dh; (case z41dh => assumption); (case z41ds => tb_rel))); (case z41kc => first | assumption | omega); (case z41ka => first | assumption | omega); (case z41kb => first | assumption | omega); (case z41kd => ktr_room); (case z41ku => ktr_units)); (intro t9 h9 tk9 F9 N9); (try dsimp only); (try k_fold))))
  k_with "my call ref" => ((k_here; (with_reducible show wpAny _ _ (call (Value.ref 206) _) _ _ _); k_dflt ((refine' Con.useR (c_fault_bad _ ?z42kp) el_int ?z42k1 ?z42k2 ?z42k3 ?z42k4 ?z42k5 ?z42kK ?z42kd ?z42ku ?_; (case z42k1 => k_asm); (case z42k2 => k_asm); (case z42k3 => k_asm); (case z42k4 => k_asm); (case z42k5 => k_asm); (case z42kK => first | exact rfl | assumption);  (case z42kp => first | assumption | (refine' din_sub ?z42ds ?z42dh; (case z42dh => assumption); (case z42ds => tb_rel))); (case z42kd => ktr_room); (case z42ku => ktr_units)); (intro t9 h9 tk9 F9 N9); (try dsimp only); (try k_fold))))
  exact True.intro
theorem c_as_num (w : World) {v : Value} {kind k0 n c lo : Int} {tl : Tok} {news : Led} (hD : DatIn news v (convD kind (.num k0 n) c)) (hk0 : (2 ≤ k0 ∧ k0 ≤ 10) ∨ (40 ≤ k0 ∧ k0 ≤ 47)) (hlo : lo = 0 ∨ lo = 1) :
    Con w 178 [v, .int lo tl] 8 96 news (Made (asD kind (.num k0 n) c lo) news) := by
  refine' conv_el (P := fun v => Con w 178 [v, .int lo tl] 8 96 news (Made (asD kind (.num k0 n) c lo) news)) hD ?_
  intro a q a' q' t1 t2 t4 t5 s1 s2 s3 hm hm' hD0 h3
  unfold Con
  w_top off
  k_fill
  intro mean mg mb dp un gd cn cs a ccd cl outer A₀ base h₀ L m s Q E B F X N T hkk hdd huu hret
  refine wpAny_call ?_
  k_dflt cell_enter
  k_steps
  · refine hret _ _ _ _ (by k_asm) (by k_asm) ?_
    refine ⟨[], rfl, NoD.nil, ?_⟩
    rw [asD, if_neg (fun h => by have := h.1; omega)]
    assumption
  · refine hret _ _ _ _ (by k_asm) (by k_asm) ?_
    refine ⟨_ :: [], rfl, NoD.cons tup_noD NoD.nil, ?_⟩
    rw [asD, if_pos ⟨by omega, rfl⟩]
    exact .tuple (.head _) (.cons (.int _ _) (.cons (.int _ _) (.cons (by (first | assumption | (refine' din_sub ?ds ?dh; (case dh => assumption); (case ds => tb_rel)) | exact DatIn.int _ _ | exact DatIn.none | exact DatIn.str _ _ | exact DatIn.bool _)) (.cons (.int _ _) (.cons (.int _ _) .nil)))))
  · exfalso; omega
theorem c_as_bad (w : World) {v : Value} {kind c lo : Int} {tl : Tok} {news : Led} (hD : DatIn news v (convD kind .bad c)) :
    Con w 178 [v, .int lo tl] 8 96 news (Made (asD kind .bad c lo) news) := by
  refine' conv_elb (P := fun v => Con w 178 [v, .int lo tl] 8 96 news (Made (asD kind .bad c lo) news)) hD ?_
  intro a q a' q' t1 t2 t4 t5 s1 s2 s3 hm hm' hD0 h3
  unfold Con
  w_top off
  k_fill
  intro mean mg mb dp un gd cn cs a ccd cl outer A₀ base h₀ L m s Q E B F X N T hkk hdd huu hret
  refine wpAny_call ?_
  k_dflt cell_enter
  k_steps
  all_goals (
    refine hret _ _ _ _ (by k_asm) (by k_asm) ?_
    refine ⟨[], rfl, NoD.nil, ?_⟩
    rw [asD, if_neg (fun h => Bool.noConfusion h.2)]
    assumption)

/-! cmp -/
section
variable {prog : Program} {w : World} {A : Around} {E : Value → Shared → Prop} {s : Shared} {h₀ : Heap} {L : Addr} {led : Led} {va vb : Value} {d e : Dat} {Q : Value → Shared → Prop}
theorem dat_shaped {d : Dat} (ok : kqdOk 8 d = true) : SeqAt.shaped (kqdP d) = true := by
  have la := kqd_lay 8 d ok
  unfold SeqAt.shaped
  rw [la.1, Bool.true_and]
  exact decide_eq_true (Nat.le_trans la.2 (by decide))
theorem tup_ne (N : News h₀ L s.heap led) (Da : DatIn led va d) (Db : DatIn led vb d) (ok : kqdOk 8 d = true) (hu : A.units + 64 < cLine) (h : Q (.bool false) s) : wpAny (model prog w) A (compareOp .NotEq va vb) Q E s := by
  obtain ⟨as, ra⟩ := kqd_in N 8 Da ok
  obtain ⟨bs, rb⟩ := kqd_in N 8 Db ok
  refine ne_dataH ra rb (dat_shaped ok) (dat_shaped ok) hu ?_
  rw [(kqd_eqv 8 d d 8 ok ok).mpr rfl]
  exact h
theorem tup_eq (N : News h₀ L s.heap led) (Da : DatIn led va d) (Db : DatIn led vb d) (ok : kqdOk 8 d = true) (hu : A.units + 64 < cLine) (h : Q (.bool true) s) : wpAny (model prog w) A (compareOp .Eq va vb) Q E s := by
  obtain ⟨as, ra⟩ := kqd_in N 8 Da ok
  obtain ⟨bs, rb⟩ := kqd_in N 8 Db ok
  refine eq_dataH ra rb (dat_shaped ok) (dat_shaped ok) hu ?_
  rw [(kqd_eqv 8 d d 8 ok ok).mpr rfl]
  exact h
end
theorem ok_pair {d : Dat} {i : Int} (h : kqdOk 7 d = true) : kqdOk 8 (.tuple [d, .int i]) = true := by
  simp [kqdOk, h]
theorem ok_fu (kind k k0 n c : Int) : kqdOk 7 (fuD kind k k0 n c) = true := by
  unfold fuD
  split <;> rfl
/-- the eight whole kinds -/
def undersV (ts : List Tok) : List Value := [3, 4, 5, 6, 7, 8, 9, 10].zipWith (fun k t => Value.int k t) ts
theorem unders_at (w : World) {h : Heap} (X : (hd.heap_1 w.params).In h) : IsTup h 298 ([.int 3 647, .int 4 648, .int 5 649, .int 6 650, .int 7 651, .int 8 652, .int 9 653, .int 10 654] : List Value).toArray :=
  ⟨_, X 298 _ rfl, rfl, _, rfl⟩
abbrev set1 (a : Str) (u : Option Value) (m : Str → Option Value) : Str → Option Value := fun y => if y = a then u else m y
theorem set1_self (a : Str) (m : Str → Option Value) : m = set1 a (m a) m := by
  funext y
  simp only [set1]
  split
  · rename_i h; rw [h]
  · rfl
theorem set1_turn {a : Str} {I iv : Option Value} {m₀ : Str → Option Value} : (fun y => if y = a then I else set1 a iv m₀ y) = set1 a I m₀ := by
  funext y
  simp only [set1]
  split <;> rfl
section
variable {w : World} {A : Around} {E : Value → Shared → Prop} {s : Shared} {env : Env} {h₀ : Heap} {body : List Stmt} {Q : Flow → Shared → Prop}
theorem unders_loop {m₀ : Str → Option Value} {led : Led} (hh : A.handled = none) (X : (hd.heap_1 w.params).In h₀) (F : Fr h₀ env.locals s.heap m₀) (N : News h₀ env.locals s.heap led)
    (turn : ∀ k t kv h tk own, 3 ≤ k ∧ k ≤ 10 → (∀ p ∈ led, ∀ q ∈ own, q.1 ≠ p.1) → (∀ p ∈ own, p.2.cls = .type "tuple_iterator") →
      Fr h₀ env.locals h (fun y => if y = Str.ofString "k" then some (.int k t) else set1 (Str.ofString "k") kv m₀ y) → News h₀ env.locals h (led ++ own) →
      wpAny (model PySem.Challenge.rw_xm0310_01.row.prog w) A (execs body env) (TPost "tuple_iterator" h₀ env.locals (fun m' nx => (∃ kv, m' = set1 (Str.ofString "k") kv m₀) ∧ nx = led) own { s with heap := h, toks := tk } Q) E { s with heap := h, toks := tk })
    (done : ∀ kv h tk, Fr h₀ env.locals h (set1 (Str.ofString "k") kv m₀) → News h₀ env.locals h led → Q .next { s with heap := h, toks := tk }) :
    wpAny (model PySem.Challenge.rw_xm0310_01.row.prog w) A (pyIter (.ref 298)) (fun it s₂ => LoopAtV PySem.Challenge.rw_xm0310_01.row.prog w A h₀ env (Str.ofString "k") body Q E it s₂) E s := by
  refine tupLoop (fun _ m' nx => (∃ kv, m' = set1 (Str.ofString "k") kv m₀) ∧ nx = led) hh (unders_at w X) F N ⟨⟨_, set1_self _ _⟩, rfl⟩ ?_ ?_
  · rintro i v m₁ nx h tk own hv ⟨⟨kv, rfl⟩, rfl⟩ hcl hO F₁ N₁
    obtain ⟨k, t, rfl, hk⟩ : ∃ k t, v = .int k t ∧ (3 ≤ k ∧ k ≤ 10) := by
      match i, hv with
      | 0, hv => exact ⟨3, 647, (Option.some.inj hv).symm, by decide⟩
      | 1, hv => exact ⟨4, 648, (Option.some.inj hv).symm, by decide⟩
      | 2, hv => exact ⟨5, 649, (Option.some.inj hv).symm, by decide⟩
      | 3, hv => exact ⟨6, 650, (Option.some.inj hv).symm, by decide⟩
      | 4, hv => exact ⟨7, 651, (Option.some.inj hv).symm, by decide⟩
      | 5, hv => exact ⟨8, 652, (Option.some.inj hv).symm, by decide⟩
      | 6, hv => exact ⟨9, 653, (Option.some.inj hv).symm, by decide⟩
      | 7, hv => exact ⟨10, 654, (Option.some.inj hv).symm, by decide⟩
    exact turn k t kv h tk own hk hO hcl F₁ N₁
  · rintro m₁ nx h tk ⟨⟨kv, rfl⟩, rfl⟩ F₁ N₁
    exact done kv h tk F₁ N₁
theorem unders_end {m₀ m' : Str → Option Value} {led own news' : Led} {h' : Heap} {tk' : Nat} (F : Fr h₀ env.locals h' m') (N : News h₀ env.locals h' news') (hO : ∀ p ∈ led, ∀ q ∈ own, q.1 ≠ p.1) (kv : Option Value) (hm : m' = set1 (Str.ofString "k") kv m₀) (hs : ∀ p ∈ led ++ own, p ∈ news') :
    TPost "tuple_iterator" h₀ env.locals (fun m' nx => (∃ kv, m' = set1 (Str.ofString "k") kv m₀) ∧ nx = led) own s Q .next { s with heap := h', toks := tk' } :=
  ⟨h', tk', m', news', led, rfl, F, N, fun p hp => hs p (List.mem_append_left _ hp), fun p hp => hs p (List.mem_append_right _ hp), fun p hp => .inr (hO p hp), ⟨kv, hm⟩, rfl⟩
end

/-! comp -/
section
open LCt LCg
variable {prog : Program} {w : World} {A : Around} {E : Value → Shared → Prop} {s : Shared} {env : Env} {h₀ : Heap} {L : Addr} {m : Str → Option Value}
theorem ListComp_Tup {ct elt iter : Expr} {x : Str} {px : Pos} {scope : Scope} {cl : List (Str × Addr)} {pos : Pos} {Q : Value → Shared → Prop}
    (hclos : closureFor scope env = pure cl) (hcell : ∀ y ∈ scope.names, y.2 ≠ .cell) (hkind : scope.kind = .function)
    (hnames : ∀ y ∈ scope.names, y.2 = .local → scope.names.lookup y.1 = some .local) (hx : scope.names.lookup x = some .local)
    (h : wpAny (model prog w) A (eval iter env) (fun xv s₁ => ∃ ax vs news, xv = .ref ax ∧ A.handled = none ∧ Fr h₀ L s₁.heap m ∧ News h₀ L s₁.heap news ∧ IsTup h₀ ax (List.toArray vs) ∧ vs.length ≤ sizeLine ∧
      ∀ g, CompRestT prog w A h₀ L m env ct elt x scope cl { s₁ with heap := g } (fun _ => True) (fun i v => vs[i]? = some v) (FinE h₀ L m { s₁ with heap := g } Q) vs.length 0 [] news) E s)
    (hs : ∀ x, foldedSetIterable iter env x = pure x := by intro _; rfl) :
    wpAny (model prog w) A (eval (.ListComp elt [⟨.Name x px, iter, [ct], 0⟩] scope pos) env) Q E s := by
  rw [eval_ListComp]
  refine wpAny_comprehension_free (use := none) rfl hs hclos hkind hnames (wpAny_mono h (fun xv s₁ h₁ => ?_) fun _ _ e => e)
  obtain ⟨ax, vs, news, rfl, hh, F, N, T, hsz, R⟩ := h₁
  have hl : IsTup s₁.heap ax vs.toArray := IsTup.keeps T F.keep
  have hlt : ax < s₁.heap.objs.size := by obtain ⟨_, e, _⟩ := hl; exact Heap.lt_size e
  refine wpAny_pyIter_tuple hl ?_
  have up : ∀ b o, s₁.heap.get? b = some o → (s₁.heap.push { cls := .type "tuple_iterator", data := .fields #[.ref ax, .int 0 0] }).get? b = some o := fun b o e => Heap.get?_push_of_some _ e
  have Wk := Walks.tuple (prog := prog) (w := w) hh s₁.heap.objs.size ax (Nat.ne_of_lt hlt) vs.toArray
  have hlen : vs.toArray.size = vs.length := by simp
  rw [hlen] at Wk
  have R' := R (s₁.heap.push { cls := .type "tuple_iterator", data := .fields #[.ref ax, .int 0 0] })
  refine block_T (S := fun _ => True) (P := fun i v => vs.toArray[i]? = some v) Wk hsz (fun i h st => by obtain ⟨o, e, _⟩ := st.1; exact ⟨o, e⟩) ?_ hcell hkind hx ⟨⟨_, Heap.get?_push_size _ rfl, rfl, rfl⟩, IsTup.keeps hl up⟩ (fun b hb => ?_)
    (F.keeps up) (N.grown up) (Nat.ne_of_lt F.ns.lt) (next_is_new F) (fun p hp => Nat.ne_of_lt (Heap.lt_size (N p hp).1)) trivial (by simpa using R') ?_
  · rintro i h h' o nw ⟨hi, ht⟩ ho ho' hk _ _
    refine ⟨?_, IsTup.keeps T hk⟩
    obtain ⟨o2, e2, r2⟩ := hi
    rw [ho] at e2
    exact ⟨o, ho', (Option.some.inj e2) ▸ r2⟩
  · show b < (s₁.heap.push _).objs.size
    rw [Heap.size_push]
    rcases List.mem_cons.mp hb with rfl | hb
    · exact Nat.lt_succ_self _
    · rw [List.mem_singleton.mp hb]; exact Nat.lt_succ_of_lt hlt
  · intro D C h tk m' ys news' F' N' o1 hn hC₀ hD₀ hCL hDL hCD offC fin
    refine ⟨m', hn, fun h'' hs'' => fin D h'' tk (F'.change hs'' hCL hC₀) (fun p hp => ?_) o1⟩
    refine ⟨hs''.extBut _ _ ?_ (N' p hp).1, (N' p hp).2⟩
    rcases List.mem_cons.mp hp with rfl | hp
    · exact Ne.symm hCD
    · exact offC p hp
abbrev underL : List Value := [.int 3 647, .int 4 648, .int 5 649, .int 6 650, .int 7 651, .int 8 652, .int 9 653, .int 10 654]
def fitN (x : Int) (i : Nat) : Nat := ((([3, 4, 5, 6, 7, 8, 9, 10] : List Int).take i).filter fun k => decide (cutV k x = x)).length
theorem fitN_succ {x k : Int} {i : Nat} (h : ([3, 4, 5, 6, 7, 8, 9, 10] : List Int)[i]? = some k) : fitN x (i + 1) = if cutV k x = x then fitN x i + 1 else fitN x i := by
  unfold fitN
  rw [List.take_add_one, h]
  by_cases hc : cutV k x = x <;> simp [hc]
theorem cut_iff {k x : Int} (hk : 3 ≤ k ∧ k ≤ 10) : cutV k x = x ↔ Fits k x := by
  have : k = 3 ∨ k = 4 ∨ k = 5 ∨ k = 6 ∨ k = 7 ∨ k = 8 ∨ k = 9 ∨ k = 10 := by omega
  rcases this with rfl | rfl | rfl | rfl | rfl | rfl | rfl | rfl <;> simp only [cutV, Fits, lo, hi] <;> simp <;> omega
theorem fitN_all {x : Int} : fitN x 8 = 8 ↔ (0 ≤ x ∧ x ≤ 127) := by
  have e : fitN x 8 = 8 ↔ ∀ k ∈ ([3, 4, 5, 6, 7, 8, 9, 10] : List Int), decide (cutV k x = x) = true := by
    exact List.length_filter_eq_length_iff
  rw [e]
  simp only [decide_eq_true_eq]
  constructor
  · intro h
    have h3 := (cut_iff (by decide)).mp (h 3 (by decide))
    have h4 := (cut_iff (by decide)).mp (h 4 (by decide))
    simp [Fits, lo, hi] at h3 h4
    omega
  · intro h k hk
    have hk' : 3 ≤ k ∧ k ≤ 10 := by revert k; decide
    refine (cut_iff hk').mpr ?_
    have : k = 3 ∨ k = 4 ∨ k = 5 ∨ k = 6 ∨ k = 7 ∨ k = 8 ∨ k = 9 ∨ k = 10 := by omega
    rcases this with rfl | rfl | rfl | rfl | rfl | rfl | rfl | rfl <;> simp [Fits, lo, hi] <;> omega
theorem unders_rest {ct elt : Expr} {y : Str} {scope : Scope} {cl : List (Str × Addr)} {news : Led} {Fin : List Value → Led → Prop} (x : Int)
    (turn : ∀ k t I oI C oC D m₂ ys h tk (E' : Value → Shared → Prop), 3 ≤ k ∧ k ≤ 10 → NsObj oC m₂ → m₂ y = some (.int k t) → Fr h₀ L h m → News h₀ L h ((I, oI) :: (C, oC) :: (D, lst ys) :: news) → Off3 I C D news → ((@Ne Nat I C) ∧ (@Ne Nat I D) ∧ (@Ne Nat C D)) →
      wpAny (model prog w) A (isTrue ct (compEnvC scope cl C env) (eval ct (compEnvC scope cl C env))) (fun ok s' => if ok = true then
        wpAny (model prog w) A (eval elt (compEnvC scope cl C env)) (CompEnd h₀ L m { s with heap := h, toks := tk } I oI C oC D (lst ys) (fun _ => True) (fun _ news' => cutV k x = x ∧ news' = news)) E' s'
        else CompEnd h₀ L m { s with heap := h, toks := tk } I oI C oC D (lst ys) (fun _ => True) (fun _ news' => cutV k x ≠ x ∧ news' = news) Value.none s') E' { s with heap := h, toks := tk })
    (fin : ∀ ys, ys.length ≤ 8 → (ys.length = 8 ↔ (0 ≤ x ∧ x ≤ 127)) → Fin ys news) :
    CompRestT prog w A h₀ L m env ct elt y scope cl s (fun _ => True) (fun i v => underL[i]? = some v) Fin 8 0 [] news := by
  have key : ∀ (j i : Nat) (ys : List Value), i + j = 8 → ys.length = fitN x i → CompRestT prog w A h₀ L m env ct elt y scope cl s (fun _ => True) (fun i v => underL[i]? = some v) Fin j i ys news := by
    intro j
    induction j with
    | zero =>
      intro i ys hi hy
      obtain rfl : i = 8 := by omega
      exact CompRestT.zero (fin ys (hy ▸ List.length_filter_le _ _) (hy ▸ fitN_all))
    | succ j ih =>
      intro i ys hi hy
      refine CompRestT.succ ?_
      intro v I oI C oC D m₂ h tk E' hv hC hx F N off ne
      obtain ⟨k, t, rfl, hk, hki⟩ : ∃ k t, v = .int k t ∧ (3 ≤ k ∧ k ≤ 10) ∧ ([3, 4, 5, 6, 7, 8, 9, 10] : List Int)[i]? = some k := by
        match i, hv with
        | 0, hv => exact ⟨3, 647, (Option.some.inj hv).symm, by decide, rfl⟩
        | 1, hv => exact ⟨4, 648, (Option.some.inj hv).symm, by decide, rfl⟩
        | 2, hv => exact ⟨5, 649, (Option.some.inj hv).symm, by decide, rfl⟩
        | 3, hv => exact ⟨6, 650, (Option.some.inj hv).symm, by decide, rfl⟩
        | 4, hv => exact ⟨7, 651, (Option.some.inj hv).symm, by decide, rfl⟩
        | 5, hv => exact ⟨8, 652, (Option.some.inj hv).symm, by decide, rfl⟩
        | 6, hv => exact ⟨9, 653, (Option.some.inj hv).symm, by decide, rfl⟩
        | 7, hv => exact ⟨10, 654, (Option.some.inj hv).symm, by decide, rfl⟩
      have hs := fitN_succ (x := x) hki
      refine wpAny_mono (turn k t I oI C oC D m₂ ys h tk E' hk hC hx F N off ne) (fun b s₂ hq => ?_) fun _ _ e => e
      cases b with
      | true =>
        simp only [if_true] at hq ⊢
        refine wpAny_mono hq (fun z s₃ hr => ?_) fun _ _ e => e
        obtain ⟨h', tk', nw, e, F', N', off', hS, hc, rfl⟩ := hr
        refine ⟨h', tk', nw, e, F', N', off', hS, ih (i + 1) _ (by omega) ?_⟩
        rw [hs, if_pos hc, List.length_append, hy]; rfl
      | false =>
        simp only [Bool.false_eq_true, if_false] at hq ⊢
        obtain ⟨h', tk', nw, e, F', N', off', hS, hc, rfl⟩ := hq
        refine ⟨h', tk', nw, e, F', N', off', hS, ih (i + 1) _ (by omega) ?_⟩
        rw [hs, if_neg hc, hy]
  exact key 8 0 [] rfl rfl
/-- the list of the kinds that hold x: what is owed once the source is read -/
def UComp (w : World) (A : Around) (h₀ : Heap) (L : Addr) (m : Str → Option Value) (env : Env) (ct elt : Expr) (y : Str) (scope : Scope) (cl : List (Str × Addr)) (x : Int) (Q : Value → Shared → Prop) (xv : Value) (s₁ : Shared) : Prop :=
  ∃ news, xv = .ref 298 ∧ A.handled = none ∧ Fr h₀ L s₁.heap m ∧ News h₀ L s₁.heap news ∧ (hd.heap_1 w.params).In h₀ ∧
      (∀ k t I oI C oC D m₂ ys h tk (E' : Value → Shared → Prop), 3 ≤ k ∧ k ≤ 10 → NsObj oC m₂ → m₂ y = some (.int k t) → Fr h₀ L h m → News h₀ L h ((I, oI) :: (C, oC) :: (D, lst ys) :: news) → Off3 I C D news → ((@Ne Nat I C) ∧ (@Ne Nat I D) ∧ (@Ne Nat C D)) →
        wpAny (model PySem.Challenge.rw_xm0310_01.row.prog w) A (isTrue ct (compEnvC scope cl C env) (eval ct (compEnvC scope cl C env))) (fun ok s' => if ok = true then
          wpAny (model PySem.Challenge.rw_xm0310_01.row.prog w) A (eval elt (compEnvC scope cl C env)) (CompEnd h₀ L m { s₁ with heap := h, toks := tk } I oI C oC D (lst ys) (fun _ => True) (fun _ news' => cutV k x = x ∧ news' = news)) E' s'
          else CompEnd h₀ L m { s₁ with heap := h, toks := tk } I oI C oC D (lst ys) (fun _ => True) (fun _ news' => cutV k x ≠ x ∧ news' = news) Value.none s') E' { s₁ with heap := h, toks := tk }) ∧
      (∀ (ys : List Value) (D : Addr) (h : Heap) (tk : Nat), ys.length ≤ 8 → (ys.length = 8 ↔ (0 ≤ x ∧ x ≤ 127)) → Fr h₀ L h m → News h₀ L h ((D, W.listOf ys.toArray ys.length) :: news) → Q (.ref D) { s₁ with heap := h, toks := tk })
theorem UComp.intro {w : World} {A : Around} {h₀ : Heap} {L : Addr} {m : Str → Option Value} {env : Env} {ct elt : Expr} {y : Str} {scope : Scope} {cl : List (Str × Addr)} {x : Int} {Q : Value → Shared → Prop} {s₁ : Shared} {news : Led}
    (hh : A.handled = none) (F : Fr h₀ L s₁.heap m) (N : News h₀ L s₁.heap news) (X : (hd.heap_1 w.params).In h₀)
    (turn : ∀ k t I oI C oC D m₂ ys h tk (E' : Value → Shared → Prop), 3 ≤ k ∧ k ≤ 10 → NsObj oC m₂ → m₂ y = some (.int k t) → Fr h₀ L h m → News h₀ L h ((I, oI) :: (C, oC) :: (D, lst ys) :: news) → Off3 I C D news → ((@Ne Nat I C) ∧ (@Ne Nat I D) ∧ (@Ne Nat C D)) →
        wpAny (model PySem.Challenge.rw_xm0310_01.row.prog w) A (isTrue ct (compEnvC scope cl C env) (eval ct (compEnvC scope cl C env))) (fun ok s' => if ok = true then
          wpAny (model PySem.Challenge.rw_xm0310_01.row.prog w) A (eval elt (compEnvC scope cl C env)) (CompEnd h₀ L m { s₁ with heap := h, toks := tk } I oI C oC D (lst ys) (fun _ => True) (fun _ news' => cutV k x = x ∧ news' = news)) E' s'
          else CompEnd h₀ L m { s₁ with heap := h, toks := tk } I oI C oC D (lst ys) (fun _ => True) (fun _ news' => cutV k x ≠ x ∧ news' = news) Value.none s') E' { s₁ with heap := h, toks := tk })
    (fin : ∀ (ys : List Value) (D : Addr) (h : Heap) (tk : Nat), ys.length ≤ 8 → (ys.length = 8 ↔ (0 ≤ x ∧ x ≤ 127)) → Fr h₀ L h m → News h₀ L h ((D, W.listOf ys.toArray ys.length) :: news) → Q (.ref D) { s₁ with heap := h, toks := tk }) :
    UComp w A h₀ L m env ct elt y scope cl x Q (.ref 298) s₁ := ⟨news, rfl, hh, F, N, X, turn, fin⟩
theorem UComp.turn {h₀ : Heap} {L : Addr} {m : Str → Option Value} {s₁ : Shared} {I C D : Addr} {oI oC : Obj} {ys : List Value} {S : Led → Prop} {R : Value → Led → Prop} {y : Value} {h' : Heap} {tk : Nat} {news : Led}
    (F : Fr h₀ L h' m) (N : News h₀ L h' ((I, oI) :: (C, oC) :: (D, lst ys) :: news)) (O : Off3 I C D news) (hS : S news) (r : R y news) :
    CompEnd h₀ L m s₁ I oI C oC D (lst ys) S R y { s₁ with heap := h', toks := tk } := ⟨h', tk, news, rfl, F, N, O, hS, r⟩
theorem unders_comp {w : World} {A : Around} {E : Value → Shared → Prop} {s : Shared} {env : Env} {h₀ : Heap} {L : Addr} {m : Str → Option Value} {ct elt iter : Expr} {y : Str} {px : Pos} {scope : Scope} {cl : List (Str × Addr)} {pos : Pos} {Q : Value → Shared → Prop} {x : Int} {o : Obj} {tx : Tok}
    (_ : o.data = .cell (some (.int x tx))) (_ : Fr h₀ L s.heap m)
    (hclos : closureFor scope env = pure cl) (hcell : ∀ y ∈ scope.names, y.2 ≠ .cell) (hkind : scope.kind = .function)
    (hnames : ∀ y ∈ scope.names, y.2 = .local → scope.names.lookup y.1 = some .local) (hx : scope.names.lookup y = some .local)
    (h : wpAny (model PySem.Challenge.rw_xm0310_01.row.prog w) A (eval iter env) (UComp w A h₀ L m env ct elt y scope cl x Q) E s)
    (hs : ∀ x, foldedSetIterable iter env x = pure x := by intro _; rfl) :
    wpAny (model PySem.Challenge.rw_xm0310_01.row.prog w) A (eval (.ListComp elt [⟨.Name y px, iter, [ct], 0⟩] scope pos) env) Q E s := by
  refine ListComp_Tup (h₀ := h₀) (L := L) (m := m) hclos hcell hkind hnames hx (wpAny_mono h (fun xv s₁ h₁ => ?_) fun _ _ e => e) hs
  obtain ⟨news, rfl, hh, F, N, X, turn, fin⟩ := h₁
  refine ⟨298, underL, news, rfl, hh, F, N, unders_at w X, by decide, fun g => ?_⟩
  exact unders_rest x turn fun ys hl hy D h tk F' N' _ => fin ys D h tk hl hy F' N'
end
theorem len_made {prog : Program} {w : World} {A : Around} {E : Value → Shared → Prop} {s : Shared} {h₀ : Heap} {L D : Addr} {led : Led} {ys : List Value} {c : Nat} {Q : Value → Shared → Prop} (N : News h₀ L s.heap led) (hm : (D, W.listOf ys.toArray c) ∈ led) (hs : ys.length ≤ 50) (h : Q (.int (ys.length : Nat) (s.toks + 1)) { s with toks := s.toks + 1 + 1 }) :
    wpAny (model prog w) A (call (.builtin "len") [.ref D]) Q E s :=
  KM.len_K N hm (by simp) (Nat.lt_of_le_of_lt hs (by decide)) h

/-! nodefits -/
theorem storeX_P {M : Model} {A : Around} {E : Value → Shared → Prop} {s : Shared} {h₀ : Heap} {L a c : Addr} {m : Str → Option Value} {cn : Str} {cs : Scope} {ccd v : Value} {cl : List (Str × Addr)} {x : Str} {cur r : Led} {o : Obj} {v₀ : Option Value} {Q : Unit → Shared → Prop}
    (hc : cl.lookup x = some c) (F : Fr h₀ L s.heap m) (N : News h₀ L s.heap cur) (P : Pk (c, o) cur r) (hd : o.data = .cell v₀) (ho : ∀ p ∈ r, p.1 ≠ c)
    (h : ∀ h' o', Fr h₀ L h' m → News h₀ L h' ((c, o') :: r) → o'.data = .cell (some v) → Q () { s with heap := h' })
    (hk : cs.kind = .function := by rfl) (hx : (envX cn cs L a ccd cl).kindOf x = some .cell := by rfl) : wpAny M A (storeName (envX cn cs L a ccd cl) x v) Q E s :=
  storeX_C F (pk_weak N P) hc (.head ho) hd h hk hx
theorem nf_off {h₀ h : Heap} {L d L' : Addr} {o oc od : Obj} {v : Option Value} {cur tl rest : Led} (N : News h₀ L h cur) (P : Pk (L' + 1, oc) cur ((d, od) :: (tl ++ rest))) (hcell : oc.data = .cell v) (hn : NoD tl) (hl : ∀ p ∈ (d, o) :: rest, p.1 < L') : ∀ p ∈ (d, od) :: (tl ++ rest), p.1 ≠ L' + 1 := by
  intro p hp e
  rcases List.mem_cons.mp hp with rfl | hp
  · have := hl _ (.head _)
    exact absurd (Nat.lt_trans this (Nat.lt_succ_self _)) (e ▸ Nat.lt_irrefl _)
  · rcases List.mem_append.mp hp with hp | hp
    · have N' := pk_weak N P
      have h1 := (N' _ (.head _)).1
      have h2 := (N' p (.tail _ (.tail _ (List.mem_append_left _ hp)))).1
      rw [e] at h2
      have h3 : oc = p.2 := Option.some.inj (h1.symm.trans h2)
      exact noSeq_cell hcell (h3 ▸ (hn p hp).seq)
    · have := hl p (.tail _ hp)
      exact absurd (Nat.lt_trans this (Nat.lt_succ_self _)) (e ▸ Nat.lt_irrefl _)
section
variable {prog : Program} {w : World} {A : Around} {E : Value → Shared → Prop} {s : Shared} {h₀ : Heap} {L : Addr} {led : Led}
theorem conv_item1 {value slice : PySem.Expr} {v : Value} {kd c : Int} {i : In} {u : Tok} {Q : Value → Shared → Prop} (N : News h₀ L s.heap led) (D : DatIn led v (convD kd i c)) (h : ∀ t, Q (.int kd t) s)
    (hs : ∀ a, subscripted slice false (.ref a) (.int 1 u) = operate [.ref a, .int 1 u] (getItem (.ref a) (.int 1 u)) := by intro _; with_unfolding_all rfl) :
    wpAny (model prog w) A (subscriptTail value slice v (.int 1 u)) Q E s := by
  obtain ⟨a, v1, v2, v3, v4, v5, q, rfl, hm, h1, h2, h3, h4, h5⟩ := din5 D
  obtain ⟨t2, rfl⟩ := din_int h2
  exact item_tupleT (isT N hm) (by decide) (by decide) rfl rfl (h t2) (hs a)
theorem fo_no {v : Value} {kind k0 n c : Int} {z : Nat} (D : DatIn led v (foD kind k0 n c)) (h : z = 8 ↔ (0 ≤ n ∧ n ≤ 127)) (h2 : (z : Int) ≠ 8) : DatIn led v (convD kind (.num k0 n) c) := by
  rwa [foD, if_neg (fun h3 => h2 (by rw [h.mpr h3]; rfl))] at D
theorem fo_yes {v : Value} {kind k0 n c : Int} {z : Nat} (D : DatIn led v (foD kind k0 n c)) (h : z = 8 ↔ (0 ≤ n ∧ n ≤ 127)) (h2 : (z : Int) = 8) : DatIn led v (.tuple [.int 1, .int kind, .int n]) := by
  rwa [foD, if_pos (h.mp (by omega))] at D
end
section
theorem reg_20 : True := by
  k_with_none
  k_with "my subscriptTail Name Constant ref int" => ((k_here; k_dflt (refine' item_tupleT ?z0T ?z0a ?z0b ?z0j ?z0x ?_ ?z0s; (case z0T => exact isT (by k_asm) (by k_mem)); (case z0a => decide); (case z0b => decide); (case z0j => exact rfl); (case z0x => exact rfl); (case z0s => with_unfolding_all rfl); k_whole)))
  k_with "my subscriptTail Subscript Constant ref int" => ((k_here; k_dflt (refine' item_tupleT ?z1T ?z1a ?z1b ?z1j ?z1x ?_ ?z1s; (case z1T => exact isT (by k_asm) (by k_mem)); (case z1a => decide); (case z1b => decide); (case z1j => exact rfl); (case z1x => exact rfl); (case z1s => with_unfolding_all rfl); k_whole)))
  k_with "my eval Call" => ((k_here; first | k_compRoot | k_dflt (refine Call_ ?_)))
  k_with "my call ref" => ((k_here; (with_reducible show wpAny _ _ (call (Value.ref 65) _) _ _ _); k_dflt ((refine' Con.useR (c_int_range _ ?z5kp) (el_rng ?z5kX) ?z5k1 ?z5k2 ?z5k3 ?z5k4 ?z5k5 ?z5kK ?z5kd ?z5ku ?_; (case z5k1 => k_asm); (case z5k2 => k_asm); (case z5k3 => k_asm); (case z5k4 => k_asm); (case z5k5 => k_asm); (case z5kK => first | exact rfl | assumption);  (case z5kp => first | assumption | omega); (case z5kX => k_asm); (case z5kd => ktr_room); (case z5ku => ktr_units)); (intro a9 t1 t2 hK9 hT9 h9 tk9 F9 N9); (try dsimp only); (try k_fold))))
  k_with "my call ref" => ((k_here; (with_reducible show wpAny _ _ (call (Value.ref 87) _) _ _ _); k_dflt ((refine' Con.useR (c_in_range _ ?z6kp) el_eq ?z6k1 ?z6k2 ?z6k3 ?z6k4 ?z6k5 ?z6kK ?z6kd ?z6ku ?_; (case z6k1 => k_asm); (case z6k2 => k_asm); (case z6k3 => k_asm); (case z6k4 => k_asm); (case z6k5 => k_asm); (case z6kK => first | exact rfl | assumption);  (case z6kp => first | assumption | omega); (case z6kd => ktr_room); (case z6ku => ktr_units)); (intro  h9 tk9 F9 N9); (try dsimp only); (try k_fold))))
  k_with "my call ref" => ((k_here; (with_reducible show wpAny _ _ (call (Value.ref 80) _) _ _ _); k_dflt ((refine' Con.useR (c_cut _ ?z7kp) el_int ?z7k1 ?z7k2 ?z7k3 ?z7k4 ?z7k5 ?z7kK ?z7kd ?z7ku ?_; (case z7k1 => k_asm); (case z7k2 => k_asm); (case z7k3 => k_asm); (case z7k4 => k_asm); (case z7k5 => k_asm); (case z7kK => first | exact rfl | assumption);  (case z7kp => first | assumption | omega); (case z7kd => ktr_room); (case z7ku => ktr_units)); (intro t9 h9 tk9 F9 N9); (try dsimp only); (try k_fold))))
  k_with "my call ref" => ((k_here; (with_reducible show wpAny _ _ (call (Value.ref 129) _) _ _ _); k_dflt ((refine' Con.useR2 (c_whole _ ?z8kp ?z8kc) el_conv ?z8k1 ?z8k2 ?z8k3 ?z8k4 ?z8k5 ?z8kK ?z8kd ?z8ku ?_ ?_; (case z8k1 => k_asm); (case z8k2 => k_asm); (case z8k3 => k_asm); (case z8k4 => k_asm); (case z8k5 => k_asm); (case z8kK => first | exact rfl | assumption);  (case z8kp => first | assumption | omega); (case z8kc => first | assumption | omega); (case z8kd => ktr_room); (case z8ku => ktr_units)); (intro tl9 D9 t9 q9 tv9 hnd9 hm9 hok9 h9 tk9 F9 N9); (try dsimp only); (try k_fold); rotate_left; (intro tl9 D9 t9 q9 hnd9 hm9 hok9 h9 tk9 F9 N9); (try dsimp only); (try k_fold); rotate_left)))
  k_with "my call ref" => ((k_here; (with_reducible show wpAny _ _ (call (Value.ref 150) _) _ _ _); k_dflt ((refine' Con.useR2 (c_conv _ ?z9kp ?z9kc) el_conv ?z9k1 ?z9k2 ?z9k3 ?z9k4 ?z9k5 ?z9kK ?z9kd ?z9ku ?_ ?_; (case z9k1 => k_asm); (case z9k2 => k_asm); (case z9k3 => k_asm); (case z9k4 => k_asm); (case z9k5 => k_asm); (case z9kK => first | exact rfl | assumption);  (case z9kp => first | assumption | omega); (case z9kc => first | assumption | omega); (case z9kd => ktr_room); (case z9ku => ktr_units)); (intro tl9 D9 t9 q9 tv9 hnd9 hm9 hok9 h9 tk9 F9 N9); (try dsimp only); (try k_fold); rotate_left; (intro tl9 D9 t9 q9 hnd9 hm9 hok9 h9 tk9 F9 N9); (try dsimp only); (try k_fold); rotate_left)))
  k_with "my call ref" => ((k_here; (with_reducible show wpAny _ _ (call (Value.ref 164) _) _ _ _); k_dflt ((refine' Con.useR (c_numeric_no _ ?z10kp ?z10kc ?z10ke) el_eq ?z10k1 ?z10k2 ?z10k3 ?z10k4 ?z10k5 ?z10kK ?z10kd ?z10ku ?_; (case z10k1 => k_asm); (case z10k2 => k_asm); (case z10k3 => k_asm); (case z10k4 => k_asm); (case z10k5 => k_asm); (case z10kK => first | exact rfl | assumption);  (case z10kp => first | assumption | (refine' din_sub ?z10ds ?z10dh; (case z10dh => assumption); (case z10ds => tb_rel))); (case z10kc => assumption); (case z10ke => assumption); (case z10kd => ktr_room); (case z10ku => ktr_units)); (intro  h9 tk9 F9 N9); (try dsimp only); (try k_fold))))
  k_with "my call ref" => ((k_here; (with_reducible show wpAny _ _ (call (Value.ref 164) _) _ _ _); k_dflt ((refine' Con.useR (c_numeric _ ?z11kp ?z11kc) el_eq ?z11k1 ?z11k2 ?z11k3 ?z11k4 ?z11k5 ?z11kK ?z11kd ?z11ku ?_; (case z11k1 => k_asm); (case z11k2 => k_asm); (case z11k3 => k_asm); (case z11k4 => k_asm); (case z11k5 => k_asm); (case z11kK => first | exact rfl | assumption);  (case z11kp => first | assumption | (refine' din_sub ?z11ds ?z11dh; (case z11dh => assumption); (case z11ds => tb_rel))); (case z11kc => first | assumption | omega); (case z11kd => ktr_room); (case z11ku => ktr_units)); (intro  h9 tk9 F9 N9); (try dsimp only); (try k_fold))))
  k_with "my call ref" => ((k_here; (with_reducible show wpAny _ _ (call (Value.ref 248) _) _ _ _); k_dflt ((refine' Con.useR (c_under_still _ ?z14kp ?z14kc) el_eq ?z14k1 ?z14k2 ?z14k3 ?z14k4 ?z14k5 ?z14kK ?z14kd ?z14ku ?_; (case z14k1 => k_asm); (case z14k2 => k_asm); (case z14k3 => k_asm); (case z14k4 => k_asm); (case z14k5 => k_asm); (case z14kK => first | exact rfl | assumption);  (case z14kp => first | assumption | (refine' din_sub ?z14ds ?z14dh; (case z14dh => assumption); (case z14ds => tb_rel))); (case z14kc => assumption); (case z14kd => ktr_room); (case z14ku => ktr_units)); (intro  h9 tk9 F9 N9); (try dsimp only); (try k_fold))))
  k_with "my call ref" => ((k_here; (with_reducible show wpAny _ _ (call (Value.ref 248) _) _ _ _); k_dflt ((refine' Con.useR (c_under_num _ ?z15kp ?z15kc ?z15ka ?z15kb) el_made ?z15k1 ?z15k2 ?z15k3 ?z15k4 ?z15k5 ?z15kK ?z15kd ?z15ku ?_; (case z15k1 => k_asm); (case z15k2 => k_asm); (case z15k3 => k_asm); (case z15k4 => k_asm); (case z15k5 => k_asm); (case z15kK => first | exact rfl | assumption);  (case z15kp => first | assumption | (refine' din_sub ?z15ds ?z15dh; (case z15dh => assumption); (case z15ds => tb_rel))); (case z15kc => first | assumption | omega); (case z15ka => assumption); (case z15kb => first | assumption | omega); (case z15kd => ktr_room); (case z15ku => ktr_units)); (intro r9 tl9 hnd9 hD9 h9 tk9 F9 N9); (try dsimp only); (try k_fold))))
  k_with "my call ref" => ((k_here; (with_reducible show wpAny _ _ (call (Value.ref 213) _) _ _ _); k_dflt ((refine' Con.useR (c_fault_still _ ?z16kp ?z16kc) el_int ?z16k1 ?z16k2 ?z16k3 ?z16k4 ?z16k5 ?z16kK ?z16kd ?z16ku ?_; (case z16k1 => k_asm); (case z16k2 => k_asm); (case z16k3 => k_asm); (case z16k4 => k_asm); (case z16k5 => k_asm); (case z16kK => first | exact rfl | assumption);  (case z16kp => first | assumption | (refine' din_sub ?z16ds ?z16dh; (case z16dh => assumption); (case z16ds => tb_rel))); (case z16kc => assumption); (case z16kd => ktr_room); (case z16ku => ktr_units)); (intro t9 h9 tk9 F9 N9); (try dsimp only); (try k_fold))))
  k_with "my call ref" => ((k_here; (with_reducible show wpAny _ _ (call (Value.ref 213) _) _ _ _); k_dflt ((refine' Con.useR (c_fault_num _ ?z17kp ?z17kc ?z17ka ?z17kb) el_int ?z17k1 ?z17k2 ?z17k3 ?z17k4 ?z17k5 ?z17kK ?z17kd ?z17ku ?_; (case z17k1 => k_asm); (case z17k2 => k_asm); (case z17k3 => k_asm); (case z17k4 => k_asm); (case z17k5 => k_asm); (case z17kK => first | exact rfl | assumption);  (case z17kp => first | assumption | (refine' din_sub ?z17ds ?z17dh; (case z17dh => assumption); (case z17ds => tb_rel))); (case z17kc => first | assumption | omega); (case z17ka => assumption); (case z17kb => first | assumption | omega); (case z17kd => ktr_room); (case z17ku => ktr_units)); (intro t9 h9 tk9 F9 N9); (try dsimp only); (try k_fold))))
  k_with "my call ref" => ((k_here; (with_reducible show wpAny _ _ (call (Value.ref 312) _) _ _ _); k_dflt ((refine' Con.useR (c_into _ ?z26kp) el_int ?z26k1 ?z26k2 ?z26k3 ?z26k4 ?z26k5 ?z26kK ?z26kd ?z26ku ?_; (case z26k1 => k_asm); (case z26k2 => k_asm); (case z26k3 => k_asm); (case z26k4 => k_asm); (case z26k5 => k_asm); (case z26kK => first | exact rfl | assumption);  (case z26kp => first | assumption | omega); (case z26kd => ktr_room); (case z26ku => ktr_units)); (intro t9 h9 tk9 F9 N9); (try dsimp only); (try k_fold))))
  k_with "my call ref" => ((k_here; (with_reducible show wpAny _ _ (call (Value.ref 347) _) _ _ _); k_dflt ((refine' Con.useR (c_due_none _ ?z27kp) el_made ?z27k1 ?z27k2 ?z27k3 ?z27k4 ?z27k5 ?z27kK ?z27kd ?z27ku ?_; (case z27k1 => k_asm); (case z27k2 => k_asm); (case z27k3 => k_asm); (case z27k4 => k_asm); (case z27k5 => k_asm); (case z27kK => first | exact rfl | assumption);  (case z27kp => first | assumption | (refine' din_sub ?z27ds ?z27dh; (case z27dh => assumption); (case z27ds => tb_rel))); (case z27kd => ktr_room); (case z27ku => ktr_units)); (intro r9 tl9 hnd9 hD9 h9 tk9 F9 N9); (try dsimp only); (try k_fold))))
  k_with "my call ref" => ((k_here; (with_reducible show wpAny _ _ (call (Value.ref 347) _) _ _ _); k_dflt ((refine' Con.useR (c_due_num _ ?z28kp ?z28kc ?z28kb) el_made ?z28k1 ?z28k2 ?z28k3 ?z28k4 ?z28k5 ?z28kK ?z28kd ?z28ku ?_; (case z28k1 => k_asm); (case z28k2 => k_asm); (case z28k3 => k_asm); (case z28k4 => k_asm); (case z28k5 => k_asm); (case z28kK => first | exact rfl | assumption);  (case z28kp => first | assumption | (refine' din_sub ?z28ds ?z28dh; (case z28dh => assumption); (case z28ds => tb_rel))); (case z28kc => first | assumption | omega); (case z28kb => first | assumption | omega); (case z28kd => ktr_room); (case z28ku => ktr_units)); (intro r9 tl9 hnd9 hD9 h9 tk9 F9 N9); (try dsimp only); (try k_fold))))
  k_with "my call ref" => ((k_here; (with_reducible show wpAny _ _ (call (Value.ref 305) _) _ _ _); k_dflt ((refine' Con.useRW ?z29kP (c_take _ ?z29kw ?z29ks ?z29ki ?z29kn) el_take ?z29k1 ?z29k2 ?z29k3 ?z29k4 ?z29k5 ?z29kK ?z29kd ?z29ku ?_; (case z29k1 => k_asm); (case z29k2 => k_asm); (case z29k3 => k_asm); (case z29k4 => k_asm); (case z29k5 => k_asm); (case z29kK => first | exact rfl | assumption); (case z29kP => tb_start);  (case z29kw => assumption); (case z29ks => ktr_rel); (case z29ki => omega); (case z29kn => omega); (case z29kd => ktr_room); (case z29ku => ktr_units)); (intro x9 t9 o9 hx09 hxn9 hxl9 hw9 h9 tk9 F9 N9); (try dsimp only); (try k_fold))))
  k_with "my call ref" => ((k_here; (with_reducible show wpAny _ _ (call (Value.ref 319) _) _ _ _); k_dflt ((refine' Con.useRW ?z33kP (c_number _ ?z33kw ?z33ks ?z33ki ?z33kn) el_num ?z33k1 ?z33k2 ?z33k3 ?z33k4 ?z33k5 ?z33kK ?z33kd ?z33ku ?_; (case z33k1 => k_asm); (case z33k2 => k_asm); (case z33k3 => k_asm); (case z33k4 => k_asm); (case z33k5 => k_asm); (case z33kK => first | exact rfl | assumption); (case z33kP => tb_start);  (case z33kw => assumption); (case z33ks => ktr_rel); (case z33ki => omega); (case z33kn => first | assumption | omega | exact kmenu_b (by assumption) (by assumption) | exact umenu_b (by assumption) (by assumption)); (case z33kd => ktr_room); (case z33ku => ktr_units)); (intro x9 t9 o9 i9 hi09 hw9 h9 tk9 F9 N9); (try dsimp only); (try k_fold))))
  k_with "my call ref" => ((k_here; (with_reducible show wpAny _ _ (call (Value.ref 326) _) _ _ _); k_dflt ((refine' Con.useRW ?z34kP (c_constant _ ?z34kw ?z34ks ?z34ki) el_const ?z34k1 ?z34k2 ?z34k3 ?z34k4 ?z34k5 ?z34kK ?z34kd ?z34ku ?_; (case z34k1 => k_asm); (case z34k2 => k_asm); (case z34k3 => k_asm); (case z34k4 => k_asm); (case z34k5 => k_asm); (case z34kK => first | exact rfl | assumption); (case z34kP => tb_start);  (case z34kw => assumption); (case z34ks => ktr_rel); (case z34ki => omega); (case z34kd => ktr_room); (case z34ku => ktr_units)); (intro D9 e9 q9 o9 i9 tl9 k9 x9 tv9 hnd9 hi09 hw9 hm9 hD9 hk9 h9 tk9 F9 N9); (try dsimp only); (try k_fold))))
  k_with "my call ref" => ((k_here; (with_reducible show wpAny _ _ (call (Value.ref 333) _) _ _ _); k_dflt ((refine' Con.useRW ?z35kP (c_inner _ ?z35kw ?z35ks ?z35ki) el_inner ?z35k1 ?z35k2 ?z35k3 ?z35k4 ?z35k5 ?z35kK ?z35kd ?z35ku ?_; (case z35k1 => k_asm); (case z35k2 => k_asm); (case z35k3 => k_asm); (case z35k4 => k_asm); (case z35k5 => k_asm); (case z35kK => first | exact rfl | assumption); (case z35kP => tb_start);  (case z35kw => assumption); (case z35ks => ktr_rel); (case z35ki => omega); (case z35kd => ktr_room); (case z35ku => ktr_units)); (intro D9 e9 nv9 q9 o9 i9 tl9 in9 n9 hnd9 hi09 hw9 hm9 hD9 hok9 hnn9 hv9 h9 tk9 F9 N9); (try dsimp only); (try k_fold))))
  k_with "my call ref" => ((k_here; (with_reducible show wpAny _ _ (call (Value.ref 340) _) _ _ _); k_dflt ((refine' Con.useRW2 ?z36kP (c_node _ ?z36kw ?z36ks ?z36ki) el_node ?z36k1 ?z36k2 ?z36k3 ?z36k4 ?z36k5 ?z36kK ?z36kd ?z36ku ?_ ?_; (case z36k1 => k_asm); (case z36k2 => k_asm); (case z36k3 => k_asm); (case z36k4 => k_asm); (case z36k5 => k_asm); (case z36kK => first | exact rfl | assumption); (case z36kP => tb_start);  (case z36kw => assumption); (case z36ks => ktr_rel); (case z36ki => omega); (case z36kd => ktr_room); (case z36ku => ktr_units)); (intro D9 e9 q9 o9 i9 tl9 kd9 k09 x9 c9 tv9 hnd9 hi09 hw9 hm9 hD9 hq9 hkd9 hk09 hc9 h9 tk9 F9 N9); (try dsimp only); (try k_fold); rotate_left; (intro D9 e9 q9 o9 i9 tl9 dd9 hnd9 hi09 hw9 hm9 hD9 hq9 hst9 h9 tk9 F9 N9); (try dsimp only); (try k_fold); rotate_left)))
  k_with "my call ref" => ((k_here; (with_reducible show wpAny _ _ (call (Value.ref 297) _) _ _ _); k_dflt ((refine' Con.useR (c_fold_enum _ ?z37kp ?z37kc ?z37ka) el_made ?z37k1 ?z37k2 ?z37k3 ?z37k4 ?z37k5 ?z37kK ?z37kd ?z37ku ?_; (case z37k1 => k_asm); (case z37k2 => k_asm); (case z37k3 => k_asm); (case z37k4 => k_asm); (case z37k5 => k_asm); (case z37kK => first | exact rfl | assumption);  (case z37kp => first | assumption | (refine' din_sub ?z37ds ?z37dh; (case z37dh => assumption); (case z37ds => tb_rel))); (case z37kc => first | assumption | omega); (case z37ka => first | assumption | omega); (case z37kd => ktr_room); (case z37ku => ktr_units)); (intro r9 tl9 hnd9 hD9 h9 tk9 F9 N9); (try dsimp only); (try k_fold))))
  k_with "my call ref" => ((k_here; (with_reducible show wpAny _ _ (call (Value.ref 297) _) _ _ _); k_dflt ((refine' Con.useR (c_fold_num _ ?z38kp ?z38kc ?z38ka ?z38kb) el_made ?z38k1 ?z38k2 ?z38k3 ?z38k4 ?z38k5 ?z38kK ?z38kd ?z38ku ?_; (case z38k1 => k_asm); (case z38k2 => k_asm); (case z38k3 => k_asm); (case z38k4 => k_asm); (case z38k5 => k_asm); (case z38kK => first | exact rfl | assumption);  (case z38kp => first | assumption | (refine' din_sub ?z38ds ?z38dh; (case z38dh => assumption); (case z38ds => tb_rel))); (case z38kc => first | assumption | omega); (case z38ka => first | assumption | omega); (case z38kb => first | assumption | omega); (case z38kd => ktr_room); (case z38ku => ktr_units)); (intro r9 tl9 hnd9 hD9 h9 tk9 F9 N9); (try dsimp only); (try k_fold))))
  k_with "my call ref" => ((k_here; (with_reducible show wpAny _ _ (call (Value.ref 297) _) _ _ _); k_dflt ((refine' Con.useR (c_fold_bad _ ?z39kp) el_eq ?z39k1 ?z39k2 ?z39k3 ?z39k4 ?z39k5 ?z39kK ?z39kd ?z39ku ?_; (case z39k1 => k_asm); (case z39k2 => k_asm); (case z39k3 => k_asm); (case z39k4 => k_asm); (case z39k5 => k_asm); (case z39kK => first | exact rfl | assumption);  (case z39kp => first | assumption | (refine' din_sub ?z39ds ?z39dh; (case z39dh => assumption); (case z39ds => tb_rel))); (case z39kd => ktr_room); (case z39ku => ktr_units)); (intro  h9 tk9 F9 N9); (try dsimp only); (try k_fold))))
  k_with "my call ref" => ((k_here; (with_reducible show wpAny _ _ (call (Value.ref 206) _) _ _ _); k_dflt ((refine' Con.useR (c_fault_enum _ ?z40kp ?z40kc ?z40ka) el_int ?z40k1 ?z40k2 ?z40k3 ?z40k4 ?z40k5 ?z40kK ?z40kd ?z40ku ?_; (case z40k1 => k_asm); (case z40k2 => k_asm); (case z40k3 => k_asm); (case z40k4 => k_asm); (case z40k5 => k_asm); (case z40kK => first | exact rfl | assumption);  (case z40kp => first | assumption | (refine' din_sub ?z40ds ?z40dh; (case z40dh => assumption); (case z40ds => tb_rel))); (case z40kc => first | assumption | omega); (case z40ka => first | assumption | omega); (case z40kd => ktr_room); (case z40ku => ktr_units)); (intro t9 h9 tk9 F9 N9); (try dsimp only); (try k_fold))))
  k_with "my call ref" => ((k_here; (with_reducible show wpAny _ _ (call (Value.ref 206) _) _ _ _); k_dflt ((refine' Con.useR (c_fault_same _ ?z41kp ?z41kc ?z41ka ?z41kb) el_int ?z41k1 ?z41k2 ?z41k3 ?z41k4 ?z41k5 ?z41kK ?z41kd ?z41ku ?_; (case z41k1 => k_asm); (case z41k2 => k_asm); (case z41k3 => k_asm); (case z41k4 => k_asm); (case z41k5 => k_asm); (case z41kK => first | exact rfl | assumption);  (case z41kp => first | assumption | (refine' din_sub ?z41ds ?z41dh; (case z41dh => assumption); (case z41ds => tb_rel))); (case z41kc => first | assumption | omega); (case z41ka => first | assumption | omega); (case z41kb => first | assumption | omega); (case z41kd => ktr_room); (case z41ku => ktr_units)); (intro t9 h9 tk9 F9 N9); (try dsimp only); (try k_fold))))
  k_with "my call ref" => ((k_here; (with_reducible show wpAny _ _ (call (Value.ref 206) _) _ _ _); k_dflt ((refine' Con.useR (c_fault_bad _ ?z42kp) el_int ?z42k1 ?z42k2 ?z42k3 ?z42k4 ?z42k5 ?z42kK ?z42kd ?z42ku ?_; (case z42k1 => k_asm); (case z42k2 => k_asm); (case z42k3 => k_asm); (case z42k4 => k_asm); (case z42k5 => k_asm); (case z42kK => first | exact rfl | assumption);  (case z42kp => first | assumption | (refine' din_sub ?z42ds ?z42dh; (case z42dh => assumption); (case z42ds => tb_rel))); (case z42kd => ktr_room); (case z42ku => ktr_units)); (intro t9 h9 tk9 F9 N9); (try dsimp only); (try k_fold))))
  k_with "my call ref" => ((k_here; (with_reducible show wpAny _ _ (call (Value.ref 178) _) _ _ _); k_dflt ((refine' Con.useR (c_as_num _ ?z43kp ?z43kc ?z43ka) el_made ?z43k1 ?z43k2 ?z43k3 ?z43k4 ?z43k5 ?z43kK ?z43kd ?z43ku ?_; (case z43k1 => k_asm); (case z43k2 => k_asm); (case z43k3 => k_asm); (case z43k4 => k_asm); (case z43k5 => k_asm); (case z43kK => first | exact rfl | assumption);  (case z43kp => first | assumption | (refine' din_sub ?z43ds ?z43dh; (case z43dh => assumption); (case z43ds => tb_rel))); (case z43kc => first | assumption | omega); (case z43ka => first | assumption | omega); (case z43kd => ktr_room); (case z43ku => ktr_units)); (intro r9 tl9 hnd9 hD9 h9 tk9 F9 N9); (try dsimp only); (try k_fold))))
  k_with "my call ref" => ((k_here; (with_reducible show wpAny _ _ (call (Value.ref 178) _) _ _ _); k_dflt ((refine' Con.useR (c_as_bad _ ?z44kp) el_made ?z44k1 ?z44k2 ?z44k3 ?z44k4 ?z44k5 ?z44kK ?z44kd ?z44ku ?_; (case z44k1 => k_asm); (case z44k2 => k_asm); (case z44k3 => k_asm); (case z44k4 => k_asm); (case z44k5 => k_asm); (case z44kK => first | exact rfl | assumption);  (case z44kp => first | assumption | (refine' din_sub ?z44ds ?z44dh; (case z44dh => assumption); (case z44ds => tb_rel))); (case z44kd => ktr_room); (case z44ku => ktr_units)); (intro r9 tl9 hnd9 hD9 h9 tk9 F9 N9); (try dsimp only); (try k_fold))))
  k_with "my subscriptTail" => ((k_here; k_dflt ((refine' conv_item1 ?z45N ?z45D ?_ ?z45s; (case z45N => k_asm); (case z45D => first | assumption | (refine' din_sub ?z45ds ?z45dh; (case z45dh => assumption); (case z45ds => tb_rel))); (case z45s => intro _; with_unfolding_all rfl)); intro t9)))
  k_with "my compareOp Eq" => ((k_here; k_dflt (refine' tup_eq ?z46N ?z46a ?z46b ?z46ok ?z46u ?_; (case z46N => k_asm); (case z46a => first | exact fo_no (by assumption) (by assumption) (by assumption) | exact fo_yes (by assumption) (by assumption) (by assumption)); (case z46b => first | assumption | (refine' din_sub ?z46ds ?z46dh; (case z46dh => assumption); (case z46ds => tb_rel)) | exact DatIn.tuple (by k_mem) (.cons (.int _ _) (.cons (.int _ _) (.cons (.int _ _) .nil)))); (case z46ok => first | exact rfl | kernel_rfl!); (case z46u => ktr_units))))
  k_with "my storeName" => ((k_here; k_dflt ((refine storeX_P (by rfl) (by k_asm) (by k_asm) (by tb_start) (by k_asm) (by exact nf_off (by k_asm) (by tb_start) (by k_asm) (by assumption) (by assumption)) ?_ (by rfl) (by rfl); k_whole); intro h9 o9 F9 N9 d9)))
  k_with "my exec For Name Name cons nil" => ((k_here; (rename Fr _ _ _ _ => lF'); k_dflt ((with_unfolding_all refine' For_invVF lF' ?z48k1 ?z48k2 ?_; (case z48k1 => exact rfl); (case z48k2 => exact rfl); k_whole))))
  k_with "my pyIter ref" => ((k_here; k_dflt ((with_reducible show wpAny _ _ (pyIter (Value.ref 298)) _ _ _); (refine' unders_loop rfl ?z49kX ?z49kF ?z49kN ?_ ?_); (case z49kX => k_asm); (case z49kF => k_asm); (case z49kN => k_asm); (all_goals (intros; (try k_fold))))))
  k_with "my compareOp NotEq ref" => ((k_here; k_dflt (refine' tup_ne ?z50N ?z50a ?z50b ?z50ok ?z50u ?_; (case z50N => k_asm); (case z50b => assumption); (case z50a => exact DatIn.tuple (by k_mem) (.cons (by (first | assumption | (refine' din_sub ?z50ds ?z50dh; (case z50dh => assumption); (case z50ds => tb_rel)) | exact DatIn.int _ _ | exact DatIn.none | exact DatIn.str _ _ | exact DatIn.bool _)) (.cons (.int _ _) .nil))); (case z50ok => first | exact ok_pair (ok_fu _ _ _ _ _) | exact ok_pair (by assumption)); (case z50u => ktr_units))))
  k_with "my TPost" => ((k_dflt (refine' unders_end ?z51F ?z51N ?z51O _ set1_turn ?z51s; (case z51F => k_asm); (case z51N => k_asm); (case z51O => assumption); (case z51s => kcj_in))))
  k_with "my eval Call" => ((k_here; k_dflt (refine Call_ ?_)))
  k_with "my eval ListComp" => ((k_here; k_dflt ((refine' unders_comp ?z53cd ?z53cF ?z53c1 ?z53c2 ?z53c3 ?z53c4 ?z53c5 ?_ ?z53c6; (case z53cd => assumption); (case z53cF => k_asm); (case z53c1 => exact rfl); (case z53c2 => decide); (case z53c3 => exact rfl); (case z53c4 => decide); (case z53c5 => exact rfl); (case z53c6 => intro _; exact rfl)))))
  k_with "my UComp" => ((k_here; k_dflt ((refine' UComp.intro ?z54uh ?z54uF ?z54uN ?z54uX ?_ ?_; (case z54uh => exact rfl); (case z54uF => k_asm); (case z54uN => k_asm); (case z54uX => assumption)); (all_goals (intros; (try dsimp only); (try k_fold))))))
  k_with "my CompEnd" => ((k_dflt ((refine' UComp.turn ?z55F ?z55N ?z55O True.intro (And.intro ?z55c rfl); (case z55F => k_asm); (case z55N => k_asm); (case z55O => assumption); (case z55c => assumption)))))
  k_with "my call builtin:len" => ((k_here; k_dflt ((refine' len_made ?z56N ?z56m ?z56s ?_; (case z56N => k_asm); (case z56m => k_mem); (case z56s => omega); k_whole))))
  exact True.intro
theorem c_nodefits (w : World) {d l : Addr} {o : Obj} {ws : List Value} {ns : List Int} {rest : Led} {i : Int}
    (hW : WD w o l i) (hS : Scr l ws ns rest) (hi : 0 ≤ i) :
    Con w 352 [.ref d] 20 512 ((d, o) :: rest) (fun r news' => ∃ o' i', r = .bool true ∧ 0 ≤ i' ∧ WD w o' l i' ∧ news' = (d, o') :: rest) := by
  unfold Con
  w_top off
  k_fill
  intro mean mg mb dp un gd cn cs a ccd cl outer A₀ base h₀ L m s Q E B F X N T hkk hdd huu hret
  refine wpAny_call ?_
  k_dflt (refine' code_defC ?k1 ?k2 ?k3 ?k4 ?k5 ?kA ?kF ?kK ?k6 ?k7 ?k8 ?k9 ?kB ?kD ?_ ?c2 ?c3 ?c4; (case kA => exact rfl); (case kF => exact rfl); (case kK => assumption); (case k1 => k_asm); (case k2 => k_asm); (case k3 => k_asm); (case k4 => k_asm); (case k5 => k_asm); (case k6 => k_is); (case k7 => k_is); (case k8 => ktr_room); (case k9 => exact BindsTo.of_eq rfl); (case kB => exact rfl); (case kD => decide +kernel); (case c2 => exact rfl); (case c3 => exact rfl); (case c4 => exact rfl); k_whole)
  intro g' L' h' tk' cells' FG' F' N' Y' B' X' T' l1
  k_cells Y'
  (try simp only [List.cons_append, List.nil_append] at N')
  (try dsimp only)
  (try k_lift B')
  (try k_fold)
  k_steps
  all_goals (refine' hret _ _ _ ((d, _) :: rest) ?rF ?rN ⟨_, _, rfl, ?ri, ?rw, rfl⟩; (case rF => k_asm); (case rN => exact weak (by k_asm) (by kcj_in)); (case rw => assumption); (case ri => assumption))
end

/-! turn -/
section
variable {prog : Program} {w : World} {A : Around} {E : Value → Shared → Prop} {s : Shared} {h₀ : Heap} {L : Addr} {m : Str → Option Value} {news : List (Addr × Obj)}
theorem slice_upto4 {sl : Addr} {u : Tok} {Q : Int × Int × Nat → Shared → Prop} (hs : s.heap.IsSliceOf sl .none (.int 4 u) .none) (h : Q (0, 1, 4) s) :
    wpAny (model prog w) A (Builtin.Slice.sliceApplied (.ref sl) (pure ((5 : Nat) : Int))) Q E s := by
  obtain ⟨os, hos, hcs, hds⟩ := id hs
  unfold Builtin.Slice.sliceApplied Builtin.Slice.sliceFields
  refine wpAny_bind (wpAny_bind (wpAny_field hos hds (x := .none) rfl (wpAny_bind (wpAny_field hos hds (x := .int 4 u) rfl (wpAny_bind (wpAny_field hos hds (x := .none) rfl (wpAny_pure ?_)))))))
  refine wpAny_bind (slicePart_none ?_)
  show wpAny _ _ (if ((1 : Int) == 0) = true then _ else _) _ _ s
  rw [if_neg (by decide)]
  refine wpAny_bind (slicePart_none (wpAny_bind (slicePart_int (wpAny_bind (wpAny_pure ?_)))))
  exact wpAny_pure h
theorem getItem_upto4 {t sl : Addr} {v1 v2 v3 v4 v5 : Value} {u : Tok} {Q : Value → Shared → Prop} (ht : IsTup s.heap t [v1, v2, v3, v4, v5].toArray) (hs : s.heap.IsSliceOf sl .none (.int 4 u) .none)
    (h : Q (.ref s.heap.objs.size) { s with heap := s.heap.push { cls := .type "tuple", data := .seq [v1, v2, v3, v4].toArray } }) : wpAny (model prog w) A (getItem (.ref t) (.ref sl)) Q E s := by
  obtain ⟨os, hos, hcs, hds⟩ := id hs
  have hTs : s.TypeIs (.ref sl) "slice" := ⟨os, hos, hcs⟩
  unfold getItem
  try with_reducible refine wpAny_holding ?_
  first | refine wpAny_bind (wpAny_pure ?_) | skip
  refine wpAny_bind (wpAny_sequenceKey ht.typeIs (by decide) ?_)
  refine wpAny_bind (wpAny_callSpecial?_slot (name := Str.ofString "__getitem__") ht.typeIs slot_tuple_getitem
    (wpAny_call_entry slot_tuple_getitem ht.typeIs entry_tuple_getitem ?_ (args_tuple_getitem _ _)))
  show wpAny _ _ (Builtin.Tuple.tupleItemsOf (.ref t) >>= _) _ _ s
  refine wpAny_bind (tupleItemsOf_ ht ?_)
  refine wpAny_bind (wpAny_typeOf hTs ?_)
  rw [if_pos (by decide)]
  refine wpAny_bind (slice_upto4 hs ?_)
  show wpAny _ _ (if ((0 : Int) == 0 && (1 : Int) == 1 && (4 : Nat) == 5) = true then _ else _) _ _ s
  rw [if_neg (by decide)]
  have hsz : sizeOk (.seq [v1, v2, v3, v4].toArray) := by
    show [v1, v2, v3, v4].toArray.size ≤ sizeLine
    rw [PySem.sizeLine_eq]; exact Nat.le_of_ble_eq_true rfl
  first
    | exact wpAny_bind (m := Builtin.Tuple.tupleExact _) (wpAny_newObj_type (wpAny_pure ⟨_, rfl, wpAny_pure h⟩) hsz)
    | exact wpAny_bind (m := Builtin.Tuple.tupleExact _) (wpAny_newObj_type (wpAny_bind (wpAny_pure (wpAny_pure ⟨_, rfl, wpAny_pure h⟩))) hsz)
    | exact wpAny_bind (wpAny_bind (m := Builtin.Tuple.tupleExact _) (wpAny_newObj_type (wpAny_pure (wpAny_pure ⟨_, rfl, wpAny_pure h⟩)) hsz))
    | exact wpAny_bind (wpAny_bind (m := Builtin.Tuple.tupleExact _) (wpAny_newObj_type (wpAny_pure ⟨_, rfl, wpAny_pure h⟩) hsz))
theorem tup_upto4 {value slice : Expr} {t : Addr} {v1 v2 v3 v4 v5 : Value} {u : Tok} {Q : Value → Shared → Prop}
    (F : Fr h₀ L s.heap m) (N : News h₀ L s.heap news) (ht : IsTup s.heap t [v1, v2, v3, v4, v5].toArray)
    (h : ∀ D h', Fr h₀ L h' m → News h₀ L h' ((D, { cls := .type "tuple", data := .seq [v1, v2, v3, v4].toArray }) :: news) → (∀ p ∈ news, p.1 < D) → Q (.ref D) { s with heap := h' })
    (hs : subscripted slice false (.ref t) (.ref s.heap.objs.size) = operate [.ref s.heap.objs.size, .ref t] (getItem (.ref t) (.ref s.heap.objs.size)) := by with_unfolding_all rfl)
    (hg : ∀ r, letTemporaryGo value (.ref t) r = pure () := by intro _; with_unfolding_all rfl) :
    wpAny (model prog w) A (subscriptTail value slice (.ref t) (.ref s.heap.objs.size)) Q E { s with heap := s.heap.push { cls := .type "slice", data := .fields #[.none, .int 4 u, .none] } } := by
  have ht' : IsTup (s.heap.push { cls := .type "slice", data := .fields #[.none, .int 4 u, .none] }) t [v1, v2, v3, v4, v5].toArray := ht.keeps fun _ _ e => Heap.get?_push_of_some _ e
  refine subscriptTail_ops (s := { s with heap := s.heap.push { cls := .type "slice", data := .fields #[.none, .int 4 u, .none] } }) ht'.typeIs slot_tuple_getitem.lookup
    (getItem_upto4 ht' (Heap.IsSliceOf.new ..) ?_) hs hg
  have N1 := News.push (F.push { cls := .type "slice", data := .fields #[.none, .int 4 u, .none] }) (N.grown fun _ _ e => Heap.get?_push_of_some _ e) { cls := .type "tuple", data := .seq [v1, v2, v3, v4].toArray }
  rw [Heap.size_push] at N1
  show Q (.ref (s.heap.push _).objs.size) _
  rw [Heap.size_push]
  exact h _ _ ((F.push _).push _) N1 fun p hp => Nat.lt_succ_of_lt (Heap.lt_size (N p hp).1)
end
/-- an operand and its number: a constant of a number, or what is told -/
def EnP (led : Led) (e nv : Value) : Prop :=
  (∃ k0 x t, ((2 ≤ k0 ∧ k0 ≤ 10) ∨ (40 ≤ k0 ∧ k0 ≤ 47)) ∧ DatIn led e (In.num k0 x).dat ∧ nv = .int x t) ∨ (DatIn led e In.bad.dat ∧ nv = .none)
theorem EnP.sub {a b : Led} {e nv : Value} (h : EnP a e nv) (hs : Sub a b) : EnP b e nv := by
  rcases h with ⟨k0, x, t, hk, hD, e1⟩ | ⟨hD, e1⟩
  · exact .inl ⟨k0, x, t, hk, din_sub hs hD, e1⟩
  · exact .inr ⟨din_sub hs hD, e1⟩
def TurnP (w : World) (d l : Addr) (rest : Led) (r : Value) (news' : Led) : Prop :=
  ∃ D e nv q o' i' tl, r = .ref D ∧ news' = (d, o') :: (tl ++ rest) ∧ NoD tl ∧ 0 ≤ i' ∧ WD w o' l i' ∧ (D, tupO [.bool true, e, nv] q) ∈ tl ++ rest ∧ EnP (tl ++ rest) e nv
theorem Con.mono {w : World} {f : Addr} {vs : List Value} {dD uU : Nat} {news : Led} {P P' : Value → Led → Prop} (C : Con w f vs dD uU news P) (h : ∀ r n, P r n → P' r n) : Con w f vs dD uU news P' := by
  intro mean mg mb dp un gd cn cs a ccd cl outer A₀ base h₀ L m s Q E B F X N T hkk hdd huu hret
  exact C mean mg mb dp un gd cn cs a ccd cl outer A₀ base h₀ L m s Q E B F X N T hkk hdd huu fun r h' tk' n' F' N' p => hret r h' tk' n' F' N' (h r n' p)
section
variable {prog : Program} {w : World} {A : Around} {E : Value → Shared → Prop} {s : Shared} {Q : Value → Shared → Prop} {a b : Int} {t u : Tok}
theorem eq_same (h : Q (.bool true) s) : wpAny (model prog w) A (compareOp .Eq (.int a t) (.int a u)) Q E s := by
  refine PyProof.Rows.eq_int ?_
  rw [beq_self_eq_true]; exact h
theorem eq_apart (hn : a ≠ b) (h : Q (.bool false) s) : wpAny (model prog w) A (compareOp .Eq (.int a t) (.int b u)) Q E s := by
  refine PyProof.Rows.eq_int ?_
  rw [beq_false_of_ne hn]; exact h
end
/-- checked, as the law writes it -/
def ck (lo c : Int) : Int := if lo = 0 then 1 else c
theorem ck_b {lo c : Int} (h : c = 0 ∨ c = 1) : ck lo c = 0 ∨ ck lo c = 1 := by
  unfold ck
  split
  · exact .inr rfl
  · exact h
theorem el_as2 {d : Dat} {news : Led} {P : Prop} : ∀ G : Value → Led → Prop, (∀ r tl, NoD tl → DatIn (tl ++ news) r d → P → G r (tl ++ news)) → ∀ r n, (∃ tl', n = tl' ++ news ∧ NoD tl' ∧ DatIn n r d ∧ P) → G r n := by
  rintro G h r n ⟨tl, rfl, h1, h2, h3⟩; exact h r tl h1 h2 h3
theorem el_due3 {d : Dat} {news : Led} : ∀ G : Value → Led → Prop, (∀ tl D v q t, NoD tl → DatIn (tl ++ news) (.ref D) d → (D, tupO [v, .int 0 t] q) ∈ tl ++ news → G (.ref D) (tl ++ news)) →
    ∀ r n, (∃ tl', n = tl' ++ news ∧ NoD tl' ∧ DatIn n r d ∧ ∃ D v1 q t, r = .ref D ∧ (D, tupO [v1, .int 0 t] q) ∈ n) → G r n := by
  rintro G h r n ⟨tl, rfl, h1, h2, D, v, q, t, rfl, hm⟩; exact h tl D v q t h1 h2 hm
theorem el_turn {w : World} {d l : Addr} {rest : Led} : ∀ G : Value → Led → Prop,
    (∀ D e nv q o' i' tl, NoD tl → 0 ≤ i' → WD w o' l i' → (D, tupO [.bool true, e, nv] q) ∈ tl ++ rest → EnP (tl ++ rest) e nv → G (.ref D) ((d, o') :: (tl ++ rest))) → ∀ r n, TurnP w d l rest r n → G r n := by
  rintro G h r n ⟨D, e, nv, q, o', i', tl, rfl, rfl, h1, h2, h3, h4, h5⟩; exact h D e nv q o' i' tl h1 h2 h3 h4 h5
theorem c_as2 (w : World) {v : Value} {kind k0 n c lo : Int} {tl : Tok} {news : Led} (hD : DatIn news v (convD kind (.num k0 n) c)) (hk0 : (2 ≤ k0 ∧ k0 ≤ 10) ∨ (40 ≤ k0 ∧ k0 ≤ 47)) (hlo : lo = 0 ∨ lo = 1) (hc : c = 0 ∨ c = 1) :
    Con w 178 [v, .int lo tl] 8 96 news (fun r news' => ∃ tl', news' = tl' ++ news ∧ NoD tl' ∧ DatIn news' r (convD kind (.num k0 n) (ck lo c)) ∧ (ck lo c = 0 ∨ ck lo c = 1)) := by
  refine Con.mono (c_as_num w hD hk0 hlo) ?_
  rintro r n' ⟨tl', h1, h2, h3⟩
  refine ⟨tl', h1, h2, ?_, ck_b hc⟩
  rcases hlo with rfl | rfl
  · rw [asD, if_pos ⟨rfl, rfl⟩] at h3
    exact h3
  · rw [asD, if_neg (fun h => absurd h.1 (by decide))] at h3
    exact h3
theorem c_as3 (w : World) {v : Value} {kind c lo : Int} {tl : Tok} {news : Led} (hD : DatIn news v (convD kind .bad c)) :
    Con w 178 [v, .int lo tl] 8 96 news (fun r news' => ∃ tl', news' = tl' ++ news ∧ NoD tl' ∧ DatIn news' r (convD kind .bad c) ∧ Still (convD kind .bad c)) := by
  refine Con.mono (c_as_bad w hD) ?_
  rintro r n' ⟨tl', h1, h2, h3⟩
  rw [asD, if_neg (fun h => Bool.noConfusion h.2)] at h3
  exact ⟨tl', h1, h2, h3, .cn True.intro rfl⟩
section
variable {prog : Program} {w : World} {A : Around} {E : Value → Shared → Prop} {s : Shared} {h₀ : Heap} {L : Addr} {led : Led}
/-- two ways to a value, one way on -/
theorem join_dat {t a b : Expr} {pos : Pos} {env : Env} {led0 : Led} {v0 : Value} {kind lo c : Int} {i : In} {Q : Value → Shared → Prop} (_N : News h₀ L s.heap led) (_D : DatIn led0 v0 (convD kind i (ck lo c)))
    (h1 : wpAny (model prog w) A (isTrue t env (eval t env)) (fun z s₁ => if z = true then wpAny (model prog w) A (eval a env) (fun v s' => DatIn led v (convD kind i (ck lo c)) ∧ ∃ tk, s' = { s with toks := tk }) E s₁ else wpAny (model prog w) A (eval b env) (fun v s' => DatIn led v (convD kind i (ck lo c)) ∧ ∃ tk, s' = { s with toks := tk }) E s₁) E s)
    (h2 : ∀ v tk, DatIn led v (convD kind i (ck lo c)) → Q v { s with toks := tk }) : wpAny (model prog w) A (eval (.IfExp t a b pos) env) Q E s :=
  wpAny_mono (IfExp_ h1) (fun v s' h => by obtain ⟨hD, tk, rfl⟩ := h; exact h2 v tk hD) fun _ _ e => e
theorem leaf1 {a : Addr} {q : Nat} {kind lo c : Int} {i : In} {e : Value} {t1 t2 t4 t5 : Tok} (h : lo = 0) (hm : (a, tupO [.int 19 t1, .int kind t2, e, .int 1 t4, .int 1 t5] q) ∈ led) (hE : DatIn led e i.dat) : DatIn led (.ref a) (convD kind i (ck lo c)) := by
  rw [ck, if_pos h]
  exact .tuple hm (.cons (.int _ _) (.cons (.int _ _) (.cons hE (.cons (.int _ _) (.cons (.int _ _) .nil)))))
theorem leaf2 {a : Addr} {q : Nat} {kind lo c : Int} {i : In} {e : Value} {t1 t2 t4 t5 : Tok} (h : ¬ lo = 0) (hm : (a, tupO [.int 19 t1, .int kind t2, e, .int 1 t4, .int c t5] q) ∈ led) (hE : DatIn led e i.dat) : DatIn led (.ref a) (convD kind i (ck lo c)) := by
  rw [ck, if_neg h]
  exact .tuple hm (.cons (.int _ _) (.cons (.int _ _) (.cons hE (.cons (.int _ _) (.cons (.int _ _) .nil)))))
theorem due_told {value slice : PySem.Expr} {v : Value} {d : Dat} {i : Int} {u : Tok} {Q : Value → Shared → Prop} (N : News h₀ L s.heap led) (D : DatIn led v (.tuple [d, .int i])) (h : ∀ t, Q (.int i t) s)
    (hs : ∀ a, subscripted slice false (.ref a) (.int 1 u) = operate [.ref a, .int 1 u] (getItem (.ref a) (.int 1 u)) := by intro _; with_unfolding_all rfl) :
    wpAny (model prog w) A (subscriptTail value slice v (.int 1 u)) Q E s := by
  obtain ⟨a, v1, v2, q, rfl, hm, h1, h2⟩ := din2 D
  obtain ⟨t2, rfl⟩ := din_int h2
  exact item_tupleT (isT N hm) (by decide) (by decide) rfl rfl (h t2) (hs a)
theorem due_made {value slice : PySem.Expr} {v : Value} {kind k k0 n c : Int} {u : Tok} {Q : Value → Shared → Prop} (N : News h₀ L s.heap led) (D : DatIn led v (.tuple [fuD kind k k0 n c, .int (faV k n c)])) (hz : faV k n c = 0)
    (h : ∀ a q t1 t2 t3, (a, tupO [.int 1 t1, .int kind t2, .int (cutV k n) t3] q) ∈ led → Q (.ref a) s)
    (hs : ∀ a, subscripted slice false (.ref a) (.int 0 u) = operate [.ref a, .int 0 u] (getItem (.ref a) (.int 0 u)) := by intro _; with_unfolding_all rfl) :
    wpAny (model prog w) A (subscriptTail value slice v (.int 0 u)) Q E s := by
  obtain ⟨a, v1, v2, q, rfl, hm, h1, h2⟩ := din2 D
  have hok : OK k n c := by
    refine Classical.byContradiction fun hn => ?_
    rw [faV, if_neg hn] at hz
    exact absurd hz (by decide)
  rw [fuD, if_pos hok] at h1
  obtain ⟨a', u1, u2, u3, q', rfl, hm', e1, e2, e3⟩ := din3 h1
  obtain ⟨t1, rfl⟩ := din_int e1
  obtain ⟨t2, rfl⟩ := din_int e2
  obtain ⟨t3, rfl⟩ := din_int e3
  exact item_tupleT (isT N hm) (by decide) (by decide) rfl rfl (h a' q' t1 t2 t3 hm') (hs a)
end
theorem c_due3 (w : World) {v : Value} {k : Int} {tk : Tok} {d : Dat} {news : Led} (hD : DatIn news v d) :
    Con w 347 [v, .none, .int k tk] 7 80 news (fun r news' => ∃ tl', news' = tl' ++ news ∧ NoD tl' ∧ DatIn news' r (.tuple [d, .int 0]) ∧ ∃ D v1 q t, r = .ref D ∧ (D, tupO [v1, .int 0 t] q) ∈ news') := by
  refine Con.mono (c_due_none w hD) ?_
  rintro r n' ⟨tl', h1, h2, h3⟩
  refine ⟨tl', h1, h2, h3, ?_⟩
  obtain ⟨D, v1, v2, q, rfl, hm, g1, g2⟩ := din2 h3
  obtain ⟨t, rfl⟩ := din_int g2
  exact ⟨D, v1, q, t, rfl, hm⟩
section
variable {w : World} {d l D a : Addr} {rest tl : Led} {o' : Obj} {i' x kind : Int} {t t1 t2 t3 : Tok} {q c : Nat}
theorem turn_fin (hw : WD w o' l i') (hi : 0 ≤ i') (hk : (2 ≤ kind ∧ kind ≤ 10) ∨ (40 ≤ kind ∧ kind ≤ 47)) :
    TurnP w d l rest (.ref D) ((d, o') :: ([(D, tupO [.bool true, .ref a, .int x t] q), (a, tupO [.int 1 t1, .int kind t2, .int x t3] c)] ++ rest)) :=
  ⟨D, _, _, q, o', i', _, rfl, rfl, .cons tup_noD (.cons tup_noD .nil), hi, hw, .head _, .inl ⟨kind, x, t, hk, .tuple (.tail _ (.head _)) (.cons (.int _ _) (.cons (.int _ _) (.cons (.int _ _) .nil))), rfl⟩⟩
theorem turn_told (hw : WD w o' l i') (hi : 0 ≤ i') :
    TurnP w d l rest (.ref D) ((d, o') :: ([(D, tupO [.bool true, .ref a, .none] q), (a, tupO [.int 1 t1, .int 15 t2, .int 7 t3] c)] ++ rest)) :=
  ⟨D, _, _, q, o', i', _, rfl, rfl, .cons tup_noD (.cons tup_noD .nil), hi, hw, .head _, .inr ⟨.tuple (.tail _ (.head _)) (.cons (.int _ _) (.cons (.int _ _) (.cons (.int _ _) .nil))), rfl⟩⟩
theorem sub3 {a b c : Addr × Obj} {r C : Led} (ha : a ∈ C) (hb : b ∈ C) (hc : c ∈ C) (hr : ∀ p ∈ r, p ∈ C) : ∀ p ∈ a :: ([b, c] ++ r), p ∈ C := by
  intro p hp
  rcases List.mem_cons.mp hp with rfl | hp
  · exact ha
  · rcases List.mem_cons.mp hp with rfl | hp
    · exact hb
    · rcases List.mem_cons.mp hp with rfl | hp
      · exact hc
      · exact hr p hp
end
section
theorem reg_21 : True := by
  k_with_none
  k_with "my subscriptTail Name Constant ref int" => ((k_here; k_dflt (refine' item_tupleT ?z0T ?z0a ?z0b ?z0j ?z0x ?_ ?z0s; (case z0T => exact isT (by k_asm) (by k_mem)); (case z0a => decide); (case z0b => decide); (case z0j => exact rfl); (case z0x => exact rfl); (case z0s => with_unfolding_all rfl); k_whole)))
  k_with "my subscriptTail Subscript Constant ref int" => ((k_here; k_dflt (refine' item_tupleT ?z1T ?z1a ?z1b ?z1j ?z1x ?_ ?z1s; (case z1T => exact isT (by k_asm) (by k_mem)); (case z1a => decide); (case z1b => decide); (case z1j => exact rfl); (case z1x => exact rfl); (case z1s => with_unfolding_all rfl); k_whole)))
  k_with "my eval Call" => ((k_here; first | k_compRoot | k_dflt (refine Call_ ?_)))
  k_with "my call ref" => ((k_here; (with_reducible show wpAny _ _ (call (Value.ref 65) _) _ _ _); k_dflt ((refine' Con.useR (c_int_range _ ?z5kp) (el_rng ?z5kX) ?z5k1 ?z5k2 ?z5k3 ?z5k4 ?z5k5 ?z5kK ?z5kd ?z5ku ?_; (case z5k1 => k_asm); (case z5k2 => k_asm); (case z5k3 => k_asm); (case z5k4 => k_asm); (case z5k5 => k_asm); (case z5kK => first | exact rfl | assumption);  (case z5kp => first | assumption | omega); (case z5kX => k_asm); (case z5kd => ktr_room); (case z5ku => ktr_units)); (intro a9 t1 t2 hK9 hT9 h9 tk9 F9 N9); (try dsimp only); (try k_fold))))
  k_with "my call ref" => ((k_here; (with_reducible show wpAny _ _ (call (Value.ref 87) _) _ _ _); k_dflt ((refine' Con.useR (c_in_range _ ?z6kp) el_eq ?z6k1 ?z6k2 ?z6k3 ?z6k4 ?z6k5 ?z6kK ?z6kd ?z6ku ?_; (case z6k1 => k_asm); (case z6k2 => k_asm); (case z6k3 => k_asm); (case z6k4 => k_asm); (case z6k5 => k_asm); (case z6kK => first | exact rfl | assumption);  (case z6kp => first | assumption | omega); (case z6kd => ktr_room); (case z6ku => ktr_units)); (intro  h9 tk9 F9 N9); (try dsimp only); (try k_fold))))
  k_with "my call ref" => ((k_here; (with_reducible show wpAny _ _ (call (Value.ref 80) _) _ _ _); k_dflt ((refine' Con.useR (c_cut _ ?z7kp) el_int ?z7k1 ?z7k2 ?z7k3 ?z7k4 ?z7k5 ?z7kK ?z7kd ?z7ku ?_; (case z7k1 => k_asm); (case z7k2 => k_asm); (case z7k3 => k_asm); (case z7k4 => k_asm); (case z7k5 => k_asm); (case z7kK => first | exact rfl | assumption);  (case z7kp => first | assumption | omega); (case z7kd => ktr_room); (case z7ku => ktr_units)); (intro t9 h9 tk9 F9 N9); (try dsimp only); (try k_fold))))
  k_with "my call ref" => ((k_here; (with_reducible show wpAny _ _ (call (Value.ref 129) _) _ _ _); k_dflt ((refine' Con.useR2 (c_whole _ ?z8kp ?z8kc) el_conv ?z8k1 ?z8k2 ?z8k3 ?z8k4 ?z8k5 ?z8kK ?z8kd ?z8ku ?_ ?_; (case z8k1 => k_asm); (case z8k2 => k_asm); (case z8k3 => k_asm); (case z8k4 => k_asm); (case z8k5 => k_asm); (case z8kK => first | exact rfl | assumption);  (case z8kp => first | assumption | omega); (case z8kc => first | assumption | omega); (case z8kd => ktr_room); (case z8ku => ktr_units)); (intro tl9 D9 t9 q9 tv9 hnd9 hm9 hok9 h9 tk9 F9 N9); (try dsimp only); (try k_fold); rotate_left; (intro tl9 D9 t9 q9 hnd9 hm9 hok9 h9 tk9 F9 N9); (try dsimp only); (try k_fold); rotate_left)))
  k_with "my call ref" => ((k_here; (with_reducible show wpAny _ _ (call (Value.ref 150) _) _ _ _); k_dflt ((refine' Con.useR2 (c_conv _ ?z9kp ?z9kc) el_conv ?z9k1 ?z9k2 ?z9k3 ?z9k4 ?z9k5 ?z9kK ?z9kd ?z9ku ?_ ?_; (case z9k1 => k_asm); (case z9k2 => k_asm); (case z9k3 => k_asm); (case z9k4 => k_asm); (case z9k5 => k_asm); (case z9kK => first | exact rfl | assumption);  (case z9kp => first | assumption | omega); (case z9kc => first | assumption | omega); (case z9kd => ktr_room); (case z9ku => ktr_units)); (intro tl9 D9 t9 q9 tv9 hnd9 hm9 hok9 h9 tk9 F9 N9); (try dsimp only); (try k_fold); rotate_left; (intro tl9 D9 t9 q9 hnd9 hm9 hok9 h9 tk9 F9 N9); (try dsimp only); (try k_fold); rotate_left)))
  k_with "my call ref" => ((k_here; (with_reducible show wpAny _ _ (call (Value.ref 164) _) _ _ _); k_dflt ((refine' Con.useR (c_numeric_no _ ?z10kp ?z10kc ?z10ke) el_eq ?z10k1 ?z10k2 ?z10k3 ?z10k4 ?z10k5 ?z10kK ?z10kd ?z10ku ?_; (case z10k1 => k_asm); (case z10k2 => k_asm); (case z10k3 => k_asm); (case z10k4 => k_asm); (case z10k5 => k_asm); (case z10kK => first | exact rfl | assumption);  (case z10kp => first | assumption | (refine' din_sub ?z10ds ?z10dh; (case z10dh => assumption); (case z10ds => tb_rel))); (case z10kc => assumption); (case z10ke => assumption); (case z10kd => ktr_room); (case z10ku => ktr_units)); (intro  h9 tk9 F9 N9); (try dsimp only); (try k_fold))))
  k_with "my call ref" => ((k_here; (with_reducible show wpAny _ _ (call (Value.ref 164) _) _ _ _); k_dflt ((refine' Con.useR (c_numeric _ ?z11kp ?z11kc) el_eq ?z11k1 ?z11k2 ?z11k3 ?z11k4 ?z11k5 ?z11kK ?z11kd ?z11ku ?_; (case z11k1 => k_asm); (case z11k2 => k_asm); (case z11k3 => k_asm); (case z11k4 => k_asm); (case z11k5 => k_asm); (case z11kK => first | exact rfl | assumption);  (case z11kp => first | assumption | (refine' din_sub ?z11ds ?z11dh; (case z11dh => assumption); (case z11ds => tb_rel))); (case z11kc => first | assumption | omega); (case z11kd => ktr_room); (case z11ku => ktr_units)); (intro  h9 tk9 F9 N9); (try dsimp only); (try k_fold))))
  k_with "my call ref" => ((k_here; (with_reducible show wpAny _ _ (call (Value.ref 248) _) _ _ _); k_dflt ((refine' Con.useR (c_under_still _ ?z14kp ?z14kc) el_eq ?z14k1 ?z14k2 ?z14k3 ?z14k4 ?z14k5 ?z14kK ?z14kd ?z14ku ?_; (case z14k1 => k_asm); (case z14k2 => k_asm); (case z14k3 => k_asm); (case z14k4 => k_asm); (case z14k5 => k_asm); (case z14kK => first | exact rfl | assumption);  (case z14kp => first | assumption | (refine' din_sub ?z14ds ?z14dh; (case z14dh => assumption); (case z14ds => tb_rel))); (case z14kc => assumption); (case z14kd => ktr_room); (case z14ku => ktr_units)); (intro  h9 tk9 F9 N9); (try dsimp only); (try k_fold))))
  k_with "my call ref" => ((k_here; (with_reducible show wpAny _ _ (call (Value.ref 248) _) _ _ _); k_dflt ((refine' Con.useR (c_under_num _ ?z15kp ?z15kc ?z15ka ?z15kb) el_made ?z15k1 ?z15k2 ?z15k3 ?z15k4 ?z15k5 ?z15kK ?z15kd ?z15ku ?_; (case z15k1 => k_asm); (case z15k2 => k_asm); (case z15k3 => k_asm); (case z15k4 => k_asm); (case z15k5 => k_asm); (case z15kK => first | exact rfl | assumption);  (case z15kp => first | assumption | (refine' din_sub ?z15ds ?z15dh; (case z15dh => assumption); (case z15ds => tb_rel))); (case z15kc => first | assumption | omega); (case z15ka => assumption); (case z15kb => first | assumption | omega); (case z15kd => ktr_room); (case z15ku => ktr_units)); (intro r9 tl9 hnd9 hD9 h9 tk9 F9 N9); (try dsimp only); (try k_fold))))
  k_with "my call ref" => ((k_here; (with_reducible show wpAny _ _ (call (Value.ref 213) _) _ _ _); k_dflt ((refine' Con.useR (c_fault_still _ ?z16kp ?z16kc) el_int ?z16k1 ?z16k2 ?z16k3 ?z16k4 ?z16k5 ?z16kK ?z16kd ?z16ku ?_; (case z16k1 => k_asm); (case z16k2 => k_asm); (case z16k3 => k_asm); (case z16k4 => k_asm); (case z16k5 => k_asm); (case z16kK => first | exact rfl | assumption);  (case z16kp => first | assumption | (refine' din_sub ?z16ds ?z16dh; (case z16dh => assumption); (case z16ds => tb_rel))); (case z16kc => assumption); (case z16kd => ktr_room); (case z16ku => ktr_units)); (intro t9 h9 tk9 F9 N9); (try dsimp only); (try k_fold))))
  k_with "my call ref" => ((k_here; (with_reducible show wpAny _ _ (call (Value.ref 213) _) _ _ _); k_dflt ((refine' Con.useR (c_fault_num _ ?z17kp ?z17kc ?z17ka ?z17kb) el_int ?z17k1 ?z17k2 ?z17k3 ?z17k4 ?z17k5 ?z17kK ?z17kd ?z17ku ?_; (case z17k1 => k_asm); (case z17k2 => k_asm); (case z17k3 => k_asm); (case z17k4 => k_asm); (case z17k5 => k_asm); (case z17kK => first | exact rfl | assumption);  (case z17kp => first | assumption | (refine' din_sub ?z17ds ?z17dh; (case z17dh => assumption); (case z17ds => tb_rel))); (case z17kc => first | assumption | omega); (case z17ka => assumption); (case z17kb => first | assumption | omega); (case z17kd => ktr_room); (case z17ku => ktr_units)); (intro t9 h9 tk9 F9 N9); (try dsimp only); (try k_fold))))
  k_with "my call ref" => ((k_here; (with_reducible show wpAny _ _ (call (Value.ref 312) _) _ _ _); k_dflt ((refine' Con.useR (c_into _ ?z26kp) el_int ?z26k1 ?z26k2 ?z26k3 ?z26k4 ?z26k5 ?z26kK ?z26kd ?z26ku ?_; (case z26k1 => k_asm); (case z26k2 => k_asm); (case z26k3 => k_asm); (case z26k4 => k_asm); (case z26k5 => k_asm); (case z26kK => first | exact rfl | assumption);  (case z26kp => first | assumption | omega); (case z26kd => ktr_room); (case z26ku => ktr_units)); (intro t9 h9 tk9 F9 N9); (try dsimp only); (try k_fold))))
  k_with "my call ref" => ((k_here; (with_reducible show wpAny _ _ (call (Value.ref 347) _) _ _ _); k_dflt ((refine' Con.useR (c_due_none _ ?z27kp) el_made ?z27k1 ?z27k2 ?z27k3 ?z27k4 ?z27k5 ?z27kK ?z27kd ?z27ku ?_; (case z27k1 => k_asm); (case z27k2 => k_asm); (case z27k3 => k_asm); (case z27k4 => k_asm); (case z27k5 => k_asm); (case z27kK => first | exact rfl | assumption);  (case z27kp => first | assumption | (refine' din_sub ?z27ds ?z27dh; (case z27dh => assumption); (case z27ds => tb_rel))); (case z27kd => ktr_room); (case z27ku => ktr_units)); (intro r9 tl9 hnd9 hD9 h9 tk9 F9 N9); (try dsimp only); (try k_fold))))
  k_with "my call ref" => ((k_here; (with_reducible show wpAny _ _ (call (Value.ref 347) _) _ _ _); k_dflt ((refine' Con.useR (c_due_num _ ?z28kp ?z28kc ?z28kb) el_made ?z28k1 ?z28k2 ?z28k3 ?z28k4 ?z28k5 ?z28kK ?z28kd ?z28ku ?_; (case z28k1 => k_asm); (case z28k2 => k_asm); (case z28k3 => k_asm); (case z28k4 => k_asm); (case z28k5 => k_asm); (case z28kK => first | exact rfl | assumption);  (case z28kp => first | assumption | (refine' din_sub ?z28ds ?z28dh; (case z28dh => assumption); (case z28ds => tb_rel))); (case z28kc => first | assumption | omega); (case z28kb => first | assumption | omega); (case z28kd => ktr_room); (case z28ku => ktr_units)); (intro r9 tl9 hnd9 hD9 h9 tk9 F9 N9); (try dsimp only); (try k_fold))))
  k_with "my call ref" => ((k_here; (with_reducible show wpAny _ _ (call (Value.ref 305) _) _ _ _); k_dflt ((refine' Con.useRW ?z29kP (c_take _ ?z29kw ?z29ks ?z29ki ?z29kn) el_take ?z29k1 ?z29k2 ?z29k3 ?z29k4 ?z29k5 ?z29kK ?z29kd ?z29ku ?_; (case z29k1 => k_asm); (case z29k2 => k_asm); (case z29k3 => k_asm); (case z29k4 => k_asm); (case z29k5 => k_asm); (case z29kK => first | exact rfl | assumption); (case z29kP => tb_start);  (case z29kw => assumption); (case z29ks => ktr_rel); (case z29ki => omega); (case z29kn => omega); (case z29kd => ktr_room); (case z29ku => ktr_units)); (intro x9 t9 o9 hx09 hxn9 hxl9 hw9 h9 tk9 F9 N9); (try dsimp only); (try k_fold))))
  k_with "my call ref" => ((k_here; (with_reducible show wpAny _ _ (call (Value.ref 319) _) _ _ _); k_dflt ((refine' Con.useRW ?z33kP (c_number _ ?z33kw ?z33ks ?z33ki ?z33kn) el_num ?z33k1 ?z33k2 ?z33k3 ?z33k4 ?z33k5 ?z33kK ?z33kd ?z33ku ?_; (case z33k1 => k_asm); (case z33k2 => k_asm); (case z33k3 => k_asm); (case z33k4 => k_asm); (case z33k5 => k_asm); (case z33kK => first | exact rfl | assumption); (case z33kP => tb_start);  (case z33kw => assumption); (case z33ks => ktr_rel); (case z33ki => omega); (case z33kn => first | assumption | omega | exact kmenu_b (by assumption) (by assumption) | exact umenu_b (by assumption) (by assumption)); (case z33kd => ktr_room); (case z33ku => ktr_units)); (intro x9 t9 o9 i9 hi09 hw9 h9 tk9 F9 N9); (try dsimp only); (try k_fold))))
  k_with "my call ref" => ((k_here; (with_reducible show wpAny _ _ (call (Value.ref 326) _) _ _ _); k_dflt ((refine' Con.useRW ?z34kP (c_constant _ ?z34kw ?z34ks ?z34ki) el_const ?z34k1 ?z34k2 ?z34k3 ?z34k4 ?z34k5 ?z34kK ?z34kd ?z34ku ?_; (case z34k1 => k_asm); (case z34k2 => k_asm); (case z34k3 => k_asm); (case z34k4 => k_asm); (case z34k5 => k_asm); (case z34kK => first | exact rfl | assumption); (case z34kP => tb_start);  (case z34kw => assumption); (case z34ks => ktr_rel); (case z34ki => omega); (case z34kd => ktr_room); (case z34ku => ktr_units)); (intro D9 e9 q9 o9 i9 tl9 k9 x9 tv9 hnd9 hi09 hw9 hm9 hD9 hk9 h9 tk9 F9 N9); (try dsimp only); (try k_fold))))
  k_with "my call ref" => ((k_here; (with_reducible show wpAny _ _ (call (Value.ref 333) _) _ _ _); k_dflt ((refine' Con.useRW ?z35kP (c_inner _ ?z35kw ?z35ks ?z35ki) el_inner ?z35k1 ?z35k2 ?z35k3 ?z35k4 ?z35k5 ?z35kK ?z35kd ?z35ku ?_; (case z35k1 => k_asm); (case z35k2 => k_asm); (case z35k3 => k_asm); (case z35k4 => k_asm); (case z35k5 => k_asm); (case z35kK => first | exact rfl | assumption); (case z35kP => tb_start);  (case z35kw => assumption); (case z35ks => ktr_rel); (case z35ki => omega); (case z35kd => ktr_room); (case z35ku => ktr_units)); (intro D9 e9 nv9 q9 o9 i9 tl9 in9 n9 hnd9 hi09 hw9 hm9 hD9 hok9 hnn9 hv9 h9 tk9 F9 N9); (try dsimp only); (try k_fold))))
  k_with "my call ref" => ((k_here; (with_reducible show wpAny _ _ (call (Value.ref 340) _) _ _ _); k_dflt ((refine' Con.useRW2 ?z36kP (c_node _ ?z36kw ?z36ks ?z36ki) el_node ?z36k1 ?z36k2 ?z36k3 ?z36k4 ?z36k5 ?z36kK ?z36kd ?z36ku ?_ ?_; (case z36k1 => k_asm); (case z36k2 => k_asm); (case z36k3 => k_asm); (case z36k4 => k_asm); (case z36k5 => k_asm); (case z36kK => first | exact rfl | assumption); (case z36kP => tb_start);  (case z36kw => assumption); (case z36ks => ktr_rel); (case z36ki => omega); (case z36kd => ktr_room); (case z36ku => ktr_units)); (intro D9 e9 q9 o9 i9 tl9 kd9 k09 x9 c9 tv9 hnd9 hi09 hw9 hm9 hD9 hq9 hkd9 hk09 hc9 h9 tk9 F9 N9); (try dsimp only); (try k_fold); rotate_left; (intro D9 e9 q9 o9 i9 tl9 dd9 hnd9 hi09 hw9 hm9 hD9 hq9 hst9 h9 tk9 F9 N9); (try dsimp only); (try k_fold); rotate_left)))
  k_with "my call ref" => ((k_here; (with_reducible show wpAny _ _ (call (Value.ref 297) _) _ _ _); k_dflt ((refine' Con.useR (c_fold_enum _ ?z37kp ?z37kc ?z37ka) el_made ?z37k1 ?z37k2 ?z37k3 ?z37k4 ?z37k5 ?z37kK ?z37kd ?z37ku ?_; (case z37k1 => k_asm); (case z37k2 => k_asm); (case z37k3 => k_asm); (case z37k4 => k_asm); (case z37k5 => k_asm); (case z37kK => first | exact rfl | assumption);  (case z37kp => first | assumption | (refine' din_sub ?z37ds ?z37dh; (case z37dh => assumption); (case z37ds => tb_rel))); (case z37kc => first | assumption | omega); (case z37ka => first | assumption | omega); (case z37kd => ktr_room); (case z37ku => ktr_units)); (intro r9 tl9 hnd9 hD9 h9 tk9 F9 N9); (try dsimp only); (try k_fold))))
  k_with "my call ref" => ((k_here; (with_reducible show wpAny _ _ (call (Value.ref 297) _) _ _ _); k_dflt ((refine' Con.useR (c_fold_num _ ?z38kp ?z38kc ?z38ka ?z38kb) el_made ?z38k1 ?z38k2 ?z38k3 ?z38k4 ?z38k5 ?z38kK ?z38kd ?z38ku ?_; (case z38k1 => k_asm); (case z38k2 => k_asm); (case z38k3 => k_asm); (case z38k4 => k_asm); (case z38k5 => k_asm); (case z38kK => first | exact rfl | assumption);  (case z38kp => first | assumption | (refine' din_sub ?z38ds ?z38dh; (case z38dh => assumption); (case z38ds => tb_rel))); (case z38kc => first | assumption | omega); (case z38ka => first | assumption | omega); (case z38kb => first | assumption | omega); (case z38kd => ktr_room); (case z38ku => ktr_units)); (intro r9 tl9 hnd9 hD9 h9 tk9 F9 N9); (try dsimp only); (try k_fold))))
  k_with "my call ref" => ((k_here; (with_reducible show wpAny _ _ (call (Value.ref 297) _) _ _ _); k_dflt ((refine' Con.useR (c_fold_bad _ ?z39kp) el_eq ?z39k1 ?z39k2 ?z39k3 ?z39k4 ?z39k5 ?z39kK ?z39kd ?z39ku ?_; (case z39k1 => k_asm); (case z39k2 => k_asm); (case z39k3 => k_asm); (case z39k4 => k_asm); (case z39k5 => k_asm); (case z39kK => first | exact rfl | assumption);  (case z39kp => first | assumption | (refine' din_sub ?z39ds ?z39dh; (case z39dh => assumption); (case z39ds => tb_rel))); (case z39kd => ktr_room); (case z39ku => ktr_units)); (intro  h9 tk9 F9 N9); (try dsimp only); (try k_fold))))
  k_with "my call ref" => ((k_here; (with_reducible show wpAny _ _ (call (Value.ref 206) _) _ _ _); k_dflt ((refine' Con.useR (c_fault_enum _ ?z40kp ?z40kc ?z40ka) el_int ?z40k1 ?z40k2 ?z40k3 ?z40k4 ?z40k5 ?z40kK ?z40kd ?z40ku ?_; (case z40k1 => k_asm); (case z40k2 => k_asm); (case z40k3 => k_asm); (case z40k4 => k_asm); (case z40k5 => k_asm); (case z40kK => first | exact rfl | assumption);  (case z40kp => first | assumption | (refine' din_sub ?z40ds ?z40dh; (case z40dh => assumption); (case z40ds => tb_rel))); (case z40kc => first | assumption | omega); (case z40ka => first | assumption | omega); (case z40kd => ktr_room); (case z40ku => ktr_units)); (intro t9 h9 tk9 F9 N9); (try dsimp only); (try k_fold))))
  k_with "my call ref" => ((k_here; (with_reducible show wpAny _ _ (call (Value.ref 206) _) _ _ _); k_dflt ((refine' Con.useR (c_fault_same _ ?z41kp ?z41kc ?z41ka ?z41kb) el_int ?z41k1 ?z41k2 ?z41k3 ?z41k4 ?z41k5 ?z41kK ?z41kd ?z41ku ?_; (case z41k1 => k_asm); (case z41k2 => k_asm); (case z41k3 => k_asm); (case z41k4 => k_asm); (case z41k5 => k_asm); (case z41kK => first | exact rfl | assumption);  (case z41kp => first | assumption | (refine' din_sub ?z41ds ?z41dh; (case z41dh => assumption); (case z41ds => tb_rel))); (case z41kc => first | assumption | omega); (case z41ka => first | assumption | omega); (case z41kb => first | assumption | omega); (case z41kd => ktr_room); (case z41ku => ktr_units)); (intro t9 h9 tk9 F9 N9); (try dsimp only); (try k_fold))))
  k_with "my call ref" => ((k_here; (with_reducible show wpAny _ _ (call (Value.ref 206) _) _ _ _); k_dflt ((refine' Con.useR (c_fault_bad _ ?z42kp) el_int ?z42k1 ?z42k2 ?z42k3 ?z42k4 ?z42k5 ?z42kK ?z42kd ?z42ku ?_; (case z42k1 => k_asm); (case z42k2 => k_asm); (case z42k3 => k_asm); (case z42k4 => k_asm); (case z42k5 => k_asm); (case z42kK => first | exact rfl | assumption);  (case z42kp => first | assumption | (refine' din_sub ?z42ds ?z42dh; (case z42dh => assumption); (case z42ds => tb_rel))); (case z42kd => ktr_room); (case z42ku => ktr_units)); (intro t9 h9 tk9 F9 N9); (try dsimp only); (try k_fold))))
  k_with "my call ref" => ((k_here; (with_reducible show wpAny _ _ (call (Value.ref 178) _) _ _ _); k_dflt ((refine' Con.useR (c_as_num _ ?z43kp ?z43kc ?z43ka) el_made ?z43k1 ?z43k2 ?z43k3 ?z43k4 ?z43k5 ?z43kK ?z43kd ?z43ku ?_; (case z43k1 => k_asm); (case z43k2 => k_asm); (case z43k3 => k_asm); (case z43k4 => k_asm); (case z43k5 => k_asm); (case z43kK => first | exact rfl | assumption);  (case z43kp => first | assumption | (refine' din_sub ?z43ds ?z43dh; (case z43dh => assumption); (case z43ds => tb_rel))); (case z43kc => first | assumption | omega); (case z43ka => first | assumption | omega); (case z43kd => ktr_room); (case z43ku => ktr_units)); (intro r9 tl9 hnd9 hD9 h9 tk9 F9 N9); (try dsimp only); (try k_fold))))
  k_with "my call ref" => ((k_here; (with_reducible show wpAny _ _ (call (Value.ref 178) _) _ _ _); k_dflt ((refine' Con.useR (c_as_bad _ ?z44kp) el_made ?z44k1 ?z44k2 ?z44k3 ?z44k4 ?z44k5 ?z44kK ?z44kd ?z44ku ?_; (case z44k1 => k_asm); (case z44k2 => k_asm); (case z44k3 => k_asm); (case z44k4 => k_asm); (case z44k5 => k_asm); (case z44kK => first | exact rfl | assumption);  (case z44kp => first | assumption | (refine' din_sub ?z44ds ?z44dh; (case z44dh => assumption); (case z44ds => tb_rel))); (case z44kd => ktr_room); (case z44ku => ktr_units)); (intro r9 tl9 hnd9 hD9 h9 tk9 F9 N9); (try dsimp only); (try k_fold))))
  k_with "my call ref" => ((k_here; (with_reducible show wpAny _ _ (call (Value.ref 352) _) _ _ _); k_dflt ((refine' Con.useRW ?z57kP (c_nodefits _ ?z57kw ?z57ks ?z57ki) el_wd ?z57k1 ?z57k2 ?z57k3 ?z57k4 ?z57k5 ?z57kK ?z57kd ?z57ku ?_; (case z57k1 => k_asm); (case z57k2 => k_asm); (case z57k3 => k_asm); (case z57k4 => k_asm); (case z57k5 => k_asm); (case z57kK => first | exact rfl | assumption); (case z57kP => tb_start);  (case z57kw => assumption); (case z57ks => ktr_rel); (case z57ki => omega); (case z57kd => ktr_room); (case z57ku => ktr_units)); (intro o9 i9 hi09 hw9 h9 tk9 F9 N9); (try dsimp only); (try k_fold))))
  k_with "my subscriptTail Name Slice ref ref" => ((k_here; k_dflt ((refine' tup_upto4 ?z58F ?z58N ?z58l ?_ ?z58s ?z58t; (case z58F => k_asm); (case z58N => k_asm); (case z58l => is_tup); (case z58s => with_unfolding_all rfl); (case z58t => intro _; with_unfolding_all rfl)); intro D' h' F' N' l1)))
  k_with "my compareOp NotEq" => ((k_here; k_dflt (refine' tup_ne ?z59N ?z59a ?z59b ?z59ok ?z59u ?_; (case z59N => k_asm); (case z59a => first | assumption | (refine' din_sub ?z59ds ?z59dh; (case z59dh => assumption); (case z59ds => tb_rel)) | exact DatIn.tuple (by k_mem) (.cons (by (first | assumption | (refine' din_sub ?z59ds ?z59dh; (case z59dh => assumption); (case z59ds => tb_rel)) | exact DatIn.int _ _ | exact DatIn.none | exact DatIn.str _ _ | exact DatIn.bool _)) (.cons (.int _ _) .nil))); (case z59b => first | assumption | (refine' din_sub ?z59ds ?z59dh; (case z59dh => assumption); (case z59ds => tb_rel)) | exact DatIn.tuple (by k_mem) (.cons (.int _ _) (.cons (.int _ _) (.cons (by (first | assumption | (refine' din_sub ?z59ds ?z59dh; (case z59dh => assumption); (case z59ds => tb_rel)) | exact DatIn.int _ _ | exact DatIn.none | exact DatIn.str _ _ | exact DatIn.bool _)) (.cons (.int _ _) (.cons (.int _ _) .nil)))))); (case z59ok => first | exact ok_pair (ok_fu _ _ _ _ _) | exact rfl | kernel_rfl!); (case z59u => ktr_units))))
  k_with "my compareOp NotEq ref" => ((k_here; k_dflt (refine' tup_ne ?z60N ?z60a ?z60b ?z60ok ?z60u ?_; (case z60N => k_asm); (case z60a => first | assumption | (refine' din_sub ?z60ds ?z60dh; (case z60dh => assumption); (case z60ds => tb_rel)) | exact DatIn.tuple (by k_mem) (.cons (by (first | assumption | (refine' din_sub ?z60ds ?z60dh; (case z60dh => assumption); (case z60ds => tb_rel)) | exact DatIn.int _ _ | exact DatIn.none | exact DatIn.str _ _ | exact DatIn.bool _)) (.cons (.int _ _) .nil))); (case z60b => first | assumption | (refine' din_sub ?z60ds ?z60dh; (case z60dh => assumption); (case z60ds => tb_rel)) | exact DatIn.tuple (by k_mem) (.cons (.int _ _) (.cons (.int _ _) (.cons (by (first | assumption | (refine' din_sub ?z60ds ?z60dh; (case z60dh => assumption); (case z60ds => tb_rel)) | exact DatIn.int _ _ | exact DatIn.none | exact DatIn.str _ _ | exact DatIn.bool _)) (.cons (.int _ _) (.cons (.int _ _) .nil)))))); (case z60ok => first | exact ok_pair (ok_fu _ _ _ _ _) | exact rfl | kernel_rfl!); (case z60u => ktr_units))))
  k_with "my compareOp NotEq ref ref" => ((k_here; k_dflt (refine' tup_ne ?z61N ?z61a ?z61b ?z61ok ?z61u ?_; (case z61N => k_asm); (case z61a => first | assumption | (refine' din_sub ?z61ds ?z61dh; (case z61dh => assumption); (case z61ds => tb_rel)) | exact DatIn.tuple (by k_mem) (.cons (by (first | assumption | (refine' din_sub ?z61ds ?z61dh; (case z61dh => assumption); (case z61ds => tb_rel)) | exact DatIn.int _ _ | exact DatIn.none | exact DatIn.str _ _ | exact DatIn.bool _)) (.cons (.int _ _) .nil))); (case z61b => first | assumption | (refine' din_sub ?z61ds ?z61dh; (case z61dh => assumption); (case z61ds => tb_rel)) | exact DatIn.tuple (by k_mem) (.cons (.int _ _) (.cons (.int _ _) (.cons (by (first | assumption | (refine' din_sub ?z61ds ?z61dh; (case z61dh => assumption); (case z61ds => tb_rel)) | exact DatIn.int _ _ | exact DatIn.none | exact DatIn.str _ _ | exact DatIn.bool _)) (.cons (.int _ _) (.cons (.int _ _) .nil)))))); (case z61ok => first | exact ok_pair (ok_fu _ _ _ _ _) | exact rfl | kernel_rfl!); (case z61u => ktr_units))))
  k_with "my compareOp Eq int int" => ((k_here; k_dflt (first | (refine' eq_apart ?z62d ?_; (case z62d => omega)) | (refine' eq_same ?_))))
  k_with "my compareOp NotEq ref" => ((k_here; k_dflt (refine' tup_ne ?z63N ?z63a ?z63b ?z63ok ?z63u ?_; (case z63N => k_asm); (case z63b => (refine' din_sub ?z63ds ?z63dh; (case z63dh => assumption); (case z63ds => tb_rel))); (case z63a => exact DatIn.tuple (by k_mem) (.cons (by (refine' din_sub ?z63ds ?z63dh; (case z63dh => assumption); (case z63ds => tb_rel))) (.cons (.int _ _) .nil))); (case z63ok => exact ok_pair (ok_fu _ _ _ _ _)); (case z63u => ktr_units))))
  k_with "my eval IfExp" => ((k_here; k_dflt ((refine' join_dat ?z64N ?z64D ?_ ?_; (case z64N => k_asm); (case z64D => assumption)); rotate_left; (intro v9 tk9 hD9))))
  k_with "my call ref" => ((k_here; (with_reducible show wpAny _ _ (call (Value.ref 178) _) _ _ _); k_dflt ((refine' Con.useR (c_as2 _ ?z65kp ?z65kc ?z65ka ?z65kb) el_as2 ?z65k1 ?z65k2 ?z65k3 ?z65k4 ?z65k5 ?z65kK ?z65kd ?z65ku ?_; (case z65k1 => k_asm); (case z65k2 => k_asm); (case z65k3 => k_asm); (case z65k4 => k_asm); (case z65k5 => k_asm); (case z65kK => first | exact rfl | assumption);  (case z65kp => exact DatIn.tuple (by k_mem) (.cons (.int _ _) (.cons (.int _ _) (.cons (by (first | assumption | (refine' din_sub ?z65ds ?z65dh; (case z65dh => assumption); (case z65ds => tb_rel)) | exact DatIn.int _ _ | exact DatIn.none | exact DatIn.str _ _ | exact DatIn.bool _)) (.cons (.int _ _) (.cons (.int _ _) .nil)))))); (case z65kc => first | assumption | omega); (case z65ka => first | assumption | omega); (case z65kb => first | assumption | omega); (case z65kd => ktr_room); (case z65ku => ktr_units)); (intro r9 tl9 hnd9 hD9 hck9 h9 tk9 F9 N9); (try dsimp only); (try k_fold))))
  k_with "my call ref" => ((k_here; (with_reducible show wpAny _ _ (call (Value.ref 178) _) _ _ _); k_dflt ((refine' Con.useR (c_as3 _ ?z66kp) el_as2 ?z66k1 ?z66k2 ?z66k3 ?z66k4 ?z66k5 ?z66kK ?z66kd ?z66ku ?_; (case z66k1 => k_asm); (case z66k2 => k_asm); (case z66k3 => k_asm); (case z66k4 => k_asm); (case z66k5 => k_asm); (case z66kK => first | exact rfl | assumption);  (case z66kp => exact DatIn.tuple (by k_mem) (.cons (.int _ _) (.cons (.int _ _) (.cons (by (first | assumption | (refine' din_sub ?z66ds ?z66dh; (case z66dh => assumption); (case z66ds => tb_rel)) | exact DatIn.int _ _ | exact DatIn.none | exact DatIn.str _ _ | exact DatIn.bool _)) (.cons (.int _ _) (.cons (.int _ _) .nil)))))); (case z66kd => ktr_room); (case z66ku => ktr_units)); (intro r9 tl9 hnd9 hD9 hst9 h9 tk9 F9 N9); (try dsimp only); (try k_fold))))
  k_with "my call ref" => ((k_here; (with_reducible show wpAny _ _ (call (Value.ref 347) _) _ _ _); k_dflt ((refine' Con.useR (c_due3 _ ?z67kp) el_due3 ?z67k1 ?z67k2 ?z67k3 ?z67k4 ?z67k5 ?z67kK ?z67kd ?z67ku ?_; (case z67k1 => k_asm); (case z67k2 => k_asm); (case z67k3 => k_asm); (case z67k4 => k_asm); (case z67k5 => k_asm); (case z67kK => first | exact rfl | assumption);  (case z67kp => first | assumption | (refine' din_sub ?z67ds ?z67dh; (case z67dh => assumption); (case z67ds => tb_rel))); (case z67kd => ktr_room); (case z67ku => ktr_units)); (intro tl9 D9 v19 q9 t9 hnd9 hD9 hm9 h9 tk9 F9 N9); (try dsimp only); (try k_fold))))
  k_with "my call ref" => ((k_here; (with_reducible show wpAny _ _ (call (Value.ref 347) _) _ _ _); k_dflt ((refine' Con.useR (c_due_num _ ?z28kp ?z28kc ?z28kb) el_made ?z28k1 ?z28k2 ?z28k3 ?z28k4 ?z28k5 ?z28kK ?z28kd ?z28ku ?_; (case z28k1 => k_asm); (case z28k2 => k_asm); (case z28k3 => k_asm); (case z28k4 => k_asm); (case z28k5 => k_asm); (case z28kK => first | exact rfl | assumption);  (case z28kp => first | assumption | (refine' din_sub ?z28ds ?z28dh; (case z28dh => assumption); (case z28ds => tb_rel))); (case z28kc => first | assumption | omega); (case z28kb => first | assumption | omega); (case z28kd => ktr_room); (case z28ku => ktr_units)); (intro r9 tl9 hnd9 hD9 h9 tk9 F9 N9); (try dsimp only); (try k_fold))))
  k_with "my subscriptTail Name Constant int" => ((k_here; (with_reducible show wpAny _ _ (subscriptTail _ _ _ (Value.int 1 _)) _ _ _); k_dflt ((refine' due_told ?z68N ?z68D ?_ ?z68zs; (case z68N => k_asm); (case z68D => (refine' din_sub ?z68ds ?z68dh; (case z68dh => assumption); (case z68ds => tb_rel))); (case z68zs => intro _; with_unfolding_all rfl)); intro t9)))
  k_with "my subscriptTail Name Constant int" => ((k_here; (with_reducible show wpAny _ _ (subscriptTail _ _ _ (Value.int 0 _)) _ _ _); k_dflt ((refine' due_made ?z69N ?z69D ?z69z ?_ ?z69zs; (case z69N => k_asm); (case z69D => (refine' din_sub ?z69ds ?z69dh; (case z69dh => assumption); (case z69ds => tb_rel))); (case z69z => first | assumption | omega); (case z69zs => intro _; with_unfolding_all rfl)); intro a9 q9 t19 t29 t39 hm9)))
  exact True.intro
theorem c_turn_ns (w : World) {d l : Addr} {o : Obj} {ws : List Value} {ns : List Int} {rest : Led} {i k k0 x : Int} {e : Value} {tn tk tk2 : Tok}
    (hW : WD w o l i) (hS : Scr l ws ns rest) (hi : 0 ≤ i) (hE : DatIn rest e (In.num k0 x).dat) (hk0 : (2 ≤ k0 ∧ k0 ≤ 10) ∨ (40 ≤ k0 ∧ k0 ≤ 47)) (hk : 2 ≤ k ∧ k ≤ 10) :
    Con w 359 [.ref d, e, .int x tn, .int k tk, .int k tk2] 18 400 ((d, o) :: rest) (TurnP w d l rest) := by
  unfold Con
  w_top off
  k_fill
  intro mean mg mb dp un gd cn cs a ccd cl outer A₀ base h₀ L m s Q E B F X N T hkk hdd huu hret
  refine wpAny_call ?_
  k_dflt cell_enter
  k_steps
  all_goals first | (exact leaf1 (by assumption) (by k_mem) (by (first | assumption | (refine' din_sub ?ds ?dh; (case dh => assumption); (case ds => tb_rel)) | exact DatIn.int _ _ | exact DatIn.none | exact DatIn.str _ _ | exact DatIn.bool _))) | (exact leaf2 (by assumption) (by k_mem) (by (first | assumption | (refine' din_sub ?ds ?dh; (case dh => assumption); (case ds => tb_rel)) | exact DatIn.int _ _ | exact DatIn.none | exact DatIn.str _ _ | exact DatIn.bool _))) | (refine' hret _ _ _ ((d, _) :: ([_, _] ++ rest)) ?rF (weak ?rN (sub3 ?a ?b ?c ?r)) (turn_fin ?hw ?hi ?hk); (case rF => k_asm); (case rN => k_asm); (case a => k_mem); (case b => k_mem); (case c => k_mem); (case r => kcj_in); (case hw => assumption); (case hi => omega); (case hk => first | exact .inl (by assumption) | exact .inr (by assumption))) | (refine' hret _ _ _ ((d, _) :: ([_, _] ++ rest)) ?rF (weak ?rN (sub3 ?a ?b ?c ?r)) (turn_told ?hw ?hi); (case rF => k_asm); (case rN => k_asm); (case a => k_mem); (case b => k_mem); (case c => k_mem); (case r => kcj_in); (case hw => assumption); (case hi => omega))
theorem c_turn_es (w : World) {d l : Addr} {o : Obj} {ws : List Value} {ns : List Int} {rest : Led} {i kind k k0 x : Int} {e : Value} {tn tk tk2 : Tok}
    (hW : WD w o l i) (hS : Scr l ws ns rest) (hi : 0 ≤ i) (hE : DatIn rest e (In.num k0 x).dat) (hk0 : (2 ≤ k0 ∧ k0 ≤ 10) ∨ (40 ≤ k0 ∧ k0 ≤ 47)) (hk : 2 ≤ k ∧ k ≤ 10) (hkind : 40 ≤ kind ∧ kind ≤ 47) :
    Con w 359 [.ref d, e, .int x tn, .int kind tk, .int k tk2] 18 400 ((d, o) :: rest) (TurnP w d l rest) := by
  unfold Con
  w_top off
  k_fill
  intro mean mg mb dp un gd cn cs a ccd cl outer A₀ base h₀ L m s Q E B F X N T hkk hdd huu hret
  refine wpAny_call ?_
  k_dflt cell_enter
  k_steps
  all_goals first | (exact leaf1 (by assumption) (by k_mem) (by (first | assumption | (refine' din_sub ?ds ?dh; (case dh => assumption); (case ds => tb_rel)) | exact DatIn.int _ _ | exact DatIn.none | exact DatIn.str _ _ | exact DatIn.bool _))) | (exact leaf2 (by assumption) (by k_mem) (by (first | assumption | (refine' din_sub ?ds ?dh; (case dh => assumption); (case ds => tb_rel)) | exact DatIn.int _ _ | exact DatIn.none | exact DatIn.str _ _ | exact DatIn.bool _))) | (refine' hret _ _ _ ((d, _) :: ([_, _] ++ rest)) ?rF (weak ?rN (sub3 ?a ?b ?c ?r)) (turn_fin ?hw ?hi ?hk); (case rF => k_asm); (case rN => k_asm); (case a => k_mem); (case b => k_mem); (case c => k_mem); (case r => kcj_in); (case hw => assumption); (case hi => omega); (case hk => first | exact .inl (by assumption) | exact .inr (by assumption))) | (refine' hret _ _ _ ((d, _) :: ([_, _] ++ rest)) ?rF (weak ?rN (sub3 ?a ?b ?c ?r)) (turn_told ?hw ?hi); (case rF => k_asm); (case rN => k_asm); (case a => k_mem); (case b => k_mem); (case c => k_mem); (case r => kcj_in); (case hw => assumption); (case hi => omega))
theorem c_turn_nb (w : World) {d l : Addr} {o : Obj} {ws : List Value} {ns : List Int} {rest : Led} {i k : Int} {e : Value} {tk tk2 : Tok}
    (hW : WD w o l i) (hS : Scr l ws ns rest) (hi : 0 ≤ i) (hE : DatIn rest e In.bad.dat) (hk : 2 ≤ k ∧ k ≤ 10) :
    Con w 359 [.ref d, e, .none, .int k tk, .int k tk2] 18 400 ((d, o) :: rest) (TurnP w d l rest) := by
  unfold Con
  w_top off
  k_fill
  intro mean mg mb dp un gd cn cs a ccd cl outer A₀ base h₀ L m s Q E B F X N T hkk hdd huu hret
  refine wpAny_call ?_
  k_dflt cell_enter
  k_steps
  all_goals (refine' hret _ _ _ ((d, _) :: ([_, _] ++ rest)) ?rF (weak ?rN (sub3 ?a ?b ?c ?r)) (turn_told ?hw ?hi); (case rF => k_asm); (case rN => k_asm); (case a => k_mem); (case b => k_mem); (case c => k_mem); (case r => kcj_in); (case hw => assumption); (case hi => omega))
theorem c_turn_eb (w : World) {d l : Addr} {o : Obj} {ws : List Value} {ns : List Int} {rest : Led} {i kind k : Int} {e : Value} {tk tk2 : Tok}
    (hW : WD w o l i) (hS : Scr l ws ns rest) (hi : 0 ≤ i) (hE : DatIn rest e In.bad.dat) (hk : 2 ≤ k ∧ k ≤ 10) (hkind : 40 ≤ kind ∧ kind ≤ 47) :
    Con w 359 [.ref d, e, .none, .int kind tk, .int k tk2] 18 400 ((d, o) :: rest) (TurnP w d l rest) := by
  unfold Con
  w_top off
  k_fill
  intro mean mg mb dp un gd cn cs a ccd cl outer A₀ base h₀ L m s Q E B F X N T hkk hdd huu hret
  refine wpAny_call ?_
  k_dflt cell_enter
  k_steps
  all_goals (refine' hret _ _ _ ((d, _) :: ([_, _] ++ rest)) ?rF (weak ?rN (sub3 ?a ?b ?c ?r)) (turn_told ?hw ?hi); (case rF => k_asm); (case rN => k_asm); (case a => k_mem); (case b => k_mem); (case c => k_mem); (case r => kcj_in); (case hw => assumption); (case hi => omega))
end
theorem c_turn (w : World) {d l : Addr} {o : Obj} {ws : List Value} {ns : List Int} {rest : Led} {i kind k : Int} {e nv : Value} {tk tk2 : Tok}
    (hW : WD w o l i) (hS : Scr l ws ns rest) (hi : 0 ≤ i) (hE : EnP rest e nv) (hk : 2 ≤ k ∧ k ≤ 10) (hkind : kind = k ∨ (40 ≤ kind ∧ kind ≤ 47)) :
    Con w 359 [.ref d, e, nv, .int kind tk, .int k tk2] 18 400 ((d, o) :: rest) (TurnP w d l rest) := by
  rcases hE with ⟨k0, x, t, hk0, hD, rfl⟩ | ⟨hD, rfl⟩
  · rcases hkind with rfl | hkind
    · exact c_turn_ns w hW hS hi hD hk0 hk
    · exact c_turn_es w hW hS hi hD hk0 hk hkind
  · rcases hkind with rfl | hkind
    · exact c_turn_nb w hW hS hi hD hk
    · exact c_turn_eb w hW hS hi hD hk hkind

/-! chain -/
/-- six names said -/
abbrev set6 (vi vp vr vk ve vn : Option Value) (m : Str → Option Value) : Str → Option Value := fun y => if y = Str.ofString "e" then ve else if y = Str.ofString "n" then vn else if y = Str.ofString "i" then vi else if y = Str.ofString "place" then vp else if y = Str.ofString "right" then vr else if y = Str.ofString "k" then vk else m y
theorem set6_of {m' m : Str → Option Value} (h : ∀ y, y ≠ Str.ofString "e" → y ≠ Str.ofString "n" → y ≠ Str.ofString "i" → y ≠ Str.ofString "place" → y ≠ Str.ofString "right" → y ≠ Str.ofString "k" → m' y = m y) :
    m' = set6 (m' (Str.ofString "i")) (m' (Str.ofString "place")) (m' (Str.ofString "right")) (m' (Str.ofString "k")) (m' (Str.ofString "e")) (m' (Str.ofString "n")) m := by
  funext y
  simp only [set6]
  split
  · rename_i h1; rw [h1]
  · split
    · rename_i h1; rw [h1]
    · split
      · rename_i h1; rw [h1]
      · split
        · rename_i h1; rw [h1]
        · split
          · rename_i h1; rw [h1]
          · split
            · rename_i h1; rw [h1]
            · exact h y (by assumption) (by assumption) (by assumption) (by assumption) (by assumption) (by assumption)
theorem EnP.pick {L : Led} {e nv : Value} (h : EnP L e nv) : ∃ a vs c, (a, tupO vs c) ∈ L ∧ EnP [(a, tupO vs c)] e nv := by
  rcases h with ⟨k0, x, t, hk, hD, e1⟩ | ⟨hD, e1⟩
  · obtain ⟨a, v1, v2, v3, c, rfl, hm, h1, h2, h3⟩ := din3 hD
    obtain ⟨t1, rfl⟩ := din_int h1
    obtain ⟨t2, rfl⟩ := din_int h2
    obtain ⟨t3, rfl⟩ := din_int h3
    exact ⟨a, _, c, hm, .inl ⟨k0, x, t, hk, .tuple (.head _) (.cons (.int _ _) (.cons (.int _ _) (.cons (.int _ _) .nil))), e1⟩⟩
  · obtain ⟨a, v1, v2, v3, c, rfl, hm, h1, h2, h3⟩ := din3 hD
    obtain ⟨t1, rfl⟩ := din_int h1
    obtain ⟨t2, rfl⟩ := din_int h2
    obtain ⟨t3, rfl⟩ := din_int h3
    exact ⟨a, _, c, hm, .inr ⟨.tuple (.head _) (.cons (.int _ _) (.cons (.int _ _) (.cons (.int _ _) .nil))), e1⟩⟩
theorem small_range {b : Int} (h : 1 ≤ b ∧ b ≤ 5) : ∃ n : Nat, Builtin.Range.rangeSize 0 b 1 = (n : Int) ∧ Builtin.Range.small 0 b 1 = true := by
  have : b = 1 ∨ b = 2 ∨ b = 3 ∨ b = 4 ∨ b = 5 := by omega
  rcases this with rfl | rfl | rfl | rfl | rfl
  · exact ⟨1, rfl, rfl⟩
  · exact ⟨2, rfl, rfl⟩
  · exact ⟨3, rfl, rfl⟩
  · exact ⟨4, rfl, rfl⟩
  · exact ⟨5, rfl, rfl⟩
/-- the loop's own objects lie apart -/
structure ChR (d : Addr) (rest own R : Led) : Prop where
  eq : R = rest ++ own
  off : ∀ p ∈ rest, ∀ q ∈ own, q.1 ≠ p.1
  offd : ∀ q ∈ own, q.1 ≠ d
section
variable {w : World} {A : Around} {E : Value → Shared → Prop} {s : Shared} {env : Env} {h₀ : Heap} {body : List Stmt} {Q : Flow → Shared → Prop}
/-- between two turns of the chain -/
def ChJ (w : World) (d l : Addr) (rest : Led) (m₀ : Str → Option Value) (m' : Str → Option Value) (nx : Led) : Prop :=
  ∃ vi vp vr vk e nv o i a vs c, m' = set6 vi vp vr vk (some e) (some nv) m₀ ∧ nx = (d, o) :: (a, tupO vs c) :: rest ∧ 0 ≤ i ∧ WD w o l i ∧ EnP [(a, tupO vs c)] e nv
theorem chain_loop {r d l : Addr} {b₀ i : Int} {t₀ u₀ v₀ : Tok} {o : Obj} {ws : List Value} {ns : List Int} {e nv : Value} {rest led L : Led} {m₀ : Str → Option Value}
    (hS : Scr l ws ns rest) (hh : A.handled = none) (hr : IsRange s.heap r 0 b₀ 1 t₀ u₀ v₀) (hb : 1 ≤ b₀ ∧ b₀ ≤ 5) (F : Fr h₀ env.locals s.heap m₀) (N : News h₀ env.locals s.heap led)
    (hd : (d, o) ∈ led) (hw : WD w o l i) (hi : 0 ≤ i) (hE : EnP L e nv) (he : m₀ (Str.ofString "e") = some e) (hn : m₀ (Str.ofString "n") = some nv) (hL : ∀ p ∈ L, p ∈ led) (hrest : ∀ p ∈ rest, p ∈ led)
    (turn : ∀ (j : Nat) t vi vp vr vk e nv o i a vs c h tk own R, ChR d rest own R → 0 ≤ i → WD w o l i → EnP [(a, tupO vs c)] e nv → Scr l ws ns R →
      Fr h₀ env.locals h (fun y => if y = Str.ofString "i" then some (.int (0 + (j : Int)) t) else set6 vi vp vr vk (some e) (some nv) m₀ y) → News h₀ env.locals h ((d, o) :: (a, tupO vs c) :: R) →
      wpAny (model PySem.Challenge.rw_xm0310_01.row.prog w) A (execs body env) (TPost "range_iterator" h₀ env.locals (ChJ w d l rest m₀) own { s with heap := h, toks := tk } Q) E { s with heap := h, toks := tk })
    (done : ∀ vi vp vr vk e nv o i h tk, 0 ≤ i → WD w o l i → Fr h₀ env.locals h (set6 vi vp vr vk (some e) (some nv) m₀) → News h₀ env.locals h ((d, o) :: rest) → Q .next { s with heap := h, toks := tk }) :
    wpAny (model PySem.Challenge.rw_xm0310_01.row.prog w) A (pyIter (.ref r)) (fun it s₂ => LoopAtV PySem.Challenge.rw_xm0310_01.row.prog w A h₀ env (Str.ofString "i") body Q E it s₂) E s := by
  obtain ⟨n, hsz, hsm⟩ := small_range hb
  obtain ⟨a, vs, c, hm, hE⟩ := hE.pick
  have s0 := set6_of (m' := m₀) (m := m₀) fun _ _ _ _ _ _ _ => rfl
  rw [he, hn] at s0
  refine rngLoop (fun _ => ChJ w d l rest m₀) hh hr hsm hsz F (weak N (b := (d, o) :: (a, tupO vs c) :: rest) fun p hp => ?_) ⟨_, _, _, _, e, nv, o, i, a, vs, c, s0, rfl, hi, hw, hE⟩ ?_ ?_
  · rcases List.mem_cons.mp hp with rfl | hp
    · exact hd
    · rcases List.mem_cons.mp hp with rfl | hp
      · exact hL _ hm
      · exact hrest p hp
  · rintro j t m₁ nx h tk own _ ⟨vi, vp, vr, vk, e, nv, o, i, a, vs, c, rfl, rfl, hi, hw, hE⟩ hcl hO F₁ N₁
    refine turn j t vi vp vr vk e nv o i a vs c h tk own (rest ++ own) ⟨rfl, fun p hp => hO p (.tail _ (.tail _ hp)), hO _ (.head _)⟩ hi hw hE ⟨hS.are, hS.lies.imp fun _ x => List.mem_append_left _ x, hS.short, hS.plain.app fun p hp => .inl ?_⟩ F₁ N₁
    rw [hcl p hp]
    show Value.type "range_iterator" ≠ Value.type "dict"
    decide
  · rintro m₁ nx h tk ⟨vi, vp, vr, vk, e, nv, o, i, a, vs, c, rfl, rfl, hi, hw, hE⟩ F₁ N₁
    exact done vi vp vr vk e nv o i h tk hi hw F₁ (weak N₁ fun p hp => (List.mem_cons.mp hp).elim (fun h => h ▸ .head _) fun h => .tail _ (.tail _ h))
theorem chain_end {d l : Addr} {i : Int} {o : Obj} {e nv : Value} {rest own R C L : Led} {m₀ m' : Str → Option Value} {h' : Heap} {tk' : Nat} (F : Fr h₀ env.locals h' m') (N : News h₀ env.locals h' C) (hR : ChR d rest own R) (hs : ∀ p ∈ R, p ∈ C) (hd : (d, o) ∈ C) (hE : EnP L e nv) (hL : ∀ p ∈ L, p ∈ C) (hi : 0 ≤ i) (hw : WD w o l i)
    (he : m' (Str.ofString "e") = some e) (hn : m' (Str.ofString "n") = some nv) (hm : ∀ y, y ≠ Str.ofString "e" → y ≠ Str.ofString "n" → y ≠ Str.ofString "i" → y ≠ Str.ofString "place" → y ≠ Str.ofString "right" → y ≠ Str.ofString "k" → m' y = m₀ y) :
    TPost "range_iterator" h₀ env.locals (ChJ w d l rest m₀) own s Q .next { s with heap := h', toks := tk' } := by
  obtain ⟨a, vs, c, hma, hE⟩ := hE.pick
  have s0 := set6_of hm
  rw [he, hn] at s0
  have hr : ∀ p ∈ rest, p ∈ C := fun p hp => hs p (hR.eq ▸ List.mem_append_left _ hp)
  refine ⟨h', tk', m', C, (d, o) :: (a, tupO vs c) :: rest, rfl, F, N, fun p hp => ?_, fun p hp => hs p (hR.eq ▸ List.mem_append_right _ hp), fun p hp => ?_, ⟨_, _, _, _, e, nv, o, i, a, vs, c, s0, rfl, hi, hw, hE⟩⟩
  · rcases List.mem_cons.mp hp with rfl | hp
    · exact hd
    · rcases List.mem_cons.mp hp with rfl | hp
      · exact hL _ hma
      · exact hr p hp
  · rcases List.mem_cons.mp hp with rfl | hp
    · exact .inr hR.offd
    · rcases List.mem_cons.mp hp with rfl | hp
      · refine .inl ?_
        show Value.type "tuple" ≠ Value.type "range_iterator"
        decide
      · exact .inr fun q hq => hR.off p hp q hq
end
section
theorem reg_22 : True := by
  k_with_none
  k_with "my subscriptTail Name Constant ref int" => ((k_here; k_dflt (refine' item_tupleT ?z0T ?z0a ?z0b ?z0j ?z0x ?_ ?z0s; (case z0T => exact isT (by k_asm) (by k_mem)); (case z0a => decide); (case z0b => decide); (case z0j => exact rfl); (case z0x => exact rfl); (case z0s => with_unfolding_all rfl); k_whole)))
  k_with "my subscriptTail Subscript Constant ref int" => ((k_here; k_dflt (refine' item_tupleT ?z1T ?z1a ?z1b ?z1j ?z1x ?_ ?z1s; (case z1T => exact isT (by k_asm) (by k_mem)); (case z1a => decide); (case z1b => decide); (case z1j => exact rfl); (case z1x => exact rfl); (case z1s => with_unfolding_all rfl); k_whole)))
  k_with "my eval Call" => ((k_here; first | k_compRoot | k_dflt (refine Call_ ?_)))
  k_with "my call ref" => ((k_here; (with_reducible show wpAny _ _ (call (Value.ref 65) _) _ _ _); k_dflt ((refine' Con.useR (c_int_range _ ?z5kp) (el_rng ?z5kX) ?z5k1 ?z5k2 ?z5k3 ?z5k4 ?z5k5 ?z5kK ?z5kd ?z5ku ?_; (case z5k1 => k_asm); (case z5k2 => k_asm); (case z5k3 => k_asm); (case z5k4 => k_asm); (case z5k5 => k_asm); (case z5kK => first | exact rfl | assumption);  (case z5kp => first | assumption | omega); (case z5kX => k_asm); (case z5kd => ktr_room); (case z5ku => ktr_units)); (intro a9 t1 t2 hK9 hT9 h9 tk9 F9 N9); (try dsimp only); (try k_fold))))
  k_with "my call ref" => ((k_here; (with_reducible show wpAny _ _ (call (Value.ref 87) _) _ _ _); k_dflt ((refine' Con.useR (c_in_range _ ?z6kp) el_eq ?z6k1 ?z6k2 ?z6k3 ?z6k4 ?z6k5 ?z6kK ?z6kd ?z6ku ?_; (case z6k1 => k_asm); (case z6k2 => k_asm); (case z6k3 => k_asm); (case z6k4 => k_asm); (case z6k5 => k_asm); (case z6kK => first | exact rfl | assumption);  (case z6kp => first | assumption | omega); (case z6kd => ktr_room); (case z6ku => ktr_units)); (intro  h9 tk9 F9 N9); (try dsimp only); (try k_fold))))
  k_with "my call ref" => ((k_here; (with_reducible show wpAny _ _ (call (Value.ref 80) _) _ _ _); k_dflt ((refine' Con.useR (c_cut _ ?z7kp) el_int ?z7k1 ?z7k2 ?z7k3 ?z7k4 ?z7k5 ?z7kK ?z7kd ?z7ku ?_; (case z7k1 => k_asm); (case z7k2 => k_asm); (case z7k3 => k_asm); (case z7k4 => k_asm); (case z7k5 => k_asm); (case z7kK => first | exact rfl | assumption);  (case z7kp => first | assumption | omega); (case z7kd => ktr_room); (case z7ku => ktr_units)); (intro t9 h9 tk9 F9 N9); (try dsimp only); (try k_fold))))
  k_with "my call ref" => ((k_here; (with_reducible show wpAny _ _ (call (Value.ref 129) _) _ _ _); k_dflt ((refine' Con.useR2 (c_whole _ ?z8kp ?z8kc) el_conv ?z8k1 ?z8k2 ?z8k3 ?z8k4 ?z8k5 ?z8kK ?z8kd ?z8ku ?_ ?_; (case z8k1 => k_asm); (case z8k2 => k_asm); (case z8k3 => k_asm); (case z8k4 => k_asm); (case z8k5 => k_asm); (case z8kK => first | exact rfl | assumption);  (case z8kp => first | assumption | omega); (case z8kc => first | assumption | omega); (case z8kd => ktr_room); (case z8ku => ktr_units)); (intro tl9 D9 t9 q9 tv9 hnd9 hm9 hok9 h9 tk9 F9 N9); (try dsimp only); (try k_fold); rotate_left; (intro tl9 D9 t9 q9 hnd9 hm9 hok9 h9 tk9 F9 N9); (try dsimp only); (try k_fold); rotate_left)))
  k_with "my call ref" => ((k_here; (with_reducible show wpAny _ _ (call (Value.ref 150) _) _ _ _); k_dflt ((refine' Con.useR2 (c_conv _ ?z9kp ?z9kc) el_conv ?z9k1 ?z9k2 ?z9k3 ?z9k4 ?z9k5 ?z9kK ?z9kd ?z9ku ?_ ?_; (case z9k1 => k_asm); (case z9k2 => k_asm); (case z9k3 => k_asm); (case z9k4 => k_asm); (case z9k5 => k_asm); (case z9kK => first | exact rfl | assumption);  (case z9kp => first | assumption | omega); (case z9kc => first | assumption | omega); (case z9kd => ktr_room); (case z9ku => ktr_units)); (intro tl9 D9 t9 q9 tv9 hnd9 hm9 hok9 h9 tk9 F9 N9); (try dsimp only); (try k_fold); rotate_left; (intro tl9 D9 t9 q9 hnd9 hm9 hok9 h9 tk9 F9 N9); (try dsimp only); (try k_fold); rotate_left)))
  k_with "my call ref" => ((k_here; (with_reducible show wpAny _ _ (call (Value.ref 164) _) _ _ _); k_dflt ((refine' Con.useR (c_numeric_no _ ?z10kp ?z10kc ?z10ke) el_eq ?z10k1 ?z10k2 ?z10k3 ?z10k4 ?z10k5 ?z10kK ?z10kd ?z10ku ?_; (case z10k1 => k_asm); (case z10k2 => k_asm); (case z10k3 => k_asm); (case z10k4 => k_asm); (case z10k5 => k_asm); (case z10kK => first | exact rfl | assumption);  (case z10kp => first | assumption | (refine' din_sub ?z10ds ?z10dh; (case z10dh => assumption); (case z10ds => tb_rel))); (case z10kc => assumption); (case z10ke => assumption); (case z10kd => ktr_room); (case z10ku => ktr_units)); (intro  h9 tk9 F9 N9); (try dsimp only); (try k_fold))))
  k_with "my call ref" => ((k_here; (with_reducible show wpAny _ _ (call (Value.ref 164) _) _ _ _); k_dflt ((refine' Con.useR (c_numeric _ ?z11kp ?z11kc) el_eq ?z11k1 ?z11k2 ?z11k3 ?z11k4 ?z11k5 ?z11kK ?z11kd ?z11ku ?_; (case z11k1 => k_asm); (case z11k2 => k_asm); (case z11k3 => k_asm); (case z11k4 => k_asm); (case z11k5 => k_asm); (case z11kK => first | exact rfl | assumption);  (case z11kp => first | assumption | (refine' din_sub ?z11ds ?z11dh; (case z11dh => assumption); (case z11ds => tb_rel))); (case z11kc => first | assumption | omega); (case z11kd => ktr_room); (case z11ku => ktr_units)); (intro  h9 tk9 F9 N9); (try dsimp only); (try k_fold))))
  k_with "my call ref" => ((k_here; (with_reducible show wpAny _ _ (call (Value.ref 248) _) _ _ _); k_dflt ((refine' Con.useR (c_under_still _ ?z14kp ?z14kc) el_eq ?z14k1 ?z14k2 ?z14k3 ?z14k4 ?z14k5 ?z14kK ?z14kd ?z14ku ?_; (case z14k1 => k_asm); (case z14k2 => k_asm); (case z14k3 => k_asm); (case z14k4 => k_asm); (case z14k5 => k_asm); (case z14kK => first | exact rfl | assumption);  (case z14kp => first | assumption | (refine' din_sub ?z14ds ?z14dh; (case z14dh => assumption); (case z14ds => tb_rel))); (case z14kc => assumption); (case z14kd => ktr_room); (case z14ku => ktr_units)); (intro  h9 tk9 F9 N9); (try dsimp only); (try k_fold))))
  k_with "my call ref" => ((k_here; (with_reducible show wpAny _ _ (call (Value.ref 248) _) _ _ _); k_dflt ((refine' Con.useR (c_under_num _ ?z15kp ?z15kc ?z15ka ?z15kb) el_made ?z15k1 ?z15k2 ?z15k3 ?z15k4 ?z15k5 ?z15kK ?z15kd ?z15ku ?_; (case z15k1 => k_asm); (case z15k2 => k_asm); (case z15k3 => k_asm); (case z15k4 => k_asm); (case z15k5 => k_asm); (case z15kK => first | exact rfl | assumption);  (case z15kp => first | assumption | (refine' din_sub ?z15ds ?z15dh; (case z15dh => assumption); (case z15ds => tb_rel))); (case z15kc => first | assumption | omega); (case z15ka => assumption); (case z15kb => first | assumption | omega); (case z15kd => ktr_room); (case z15ku => ktr_units)); (intro r9 tl9 hnd9 hD9 h9 tk9 F9 N9); (try dsimp only); (try k_fold))))
  k_with "my call ref" => ((k_here; (with_reducible show wpAny _ _ (call (Value.ref 213) _) _ _ _); k_dflt ((refine' Con.useR (c_fault_still _ ?z16kp ?z16kc) el_int ?z16k1 ?z16k2 ?z16k3 ?z16k4 ?z16k5 ?z16kK ?z16kd ?z16ku ?_; (case z16k1 => k_asm); (case z16k2 => k_asm); (case z16k3 => k_asm); (case z16k4 => k_asm); (case z16k5 => k_asm); (case z16kK => first | exact rfl | assumption);  (case z16kp => first | assumption | (refine' din_sub ?z16ds ?z16dh; (case z16dh => assumption); (case z16ds => tb_rel))); (case z16kc => assumption); (case z16kd => ktr_room); (case z16ku => ktr_units)); (intro t9 h9 tk9 F9 N9); (try dsimp only); (try k_fold))))
  k_with "my call ref" => ((k_here; (with_reducible show wpAny _ _ (call (Value.ref 213) _) _ _ _); k_dflt ((refine' Con.useR (c_fault_num _ ?z17kp ?z17kc ?z17ka ?z17kb) el_int ?z17k1 ?z17k2 ?z17k3 ?z17k4 ?z17k5 ?z17kK ?z17kd ?z17ku ?_; (case z17k1 => k_asm); (case z17k2 => k_asm); (case z17k3 => k_asm); (case z17k4 => k_asm); (case z17k5 => k_asm); (case z17kK => first | exact rfl | assumption);  (case z17kp => first | assumption | (refine' din_sub ?z17ds ?z17dh; (case z17dh => assumption); (case z17ds => tb_rel))); (case z17kc => first | assumption | omega); (case z17ka => assumption); (case z17kb => first | assumption | omega); (case z17kd => ktr_room); (case z17ku => ktr_units)); (intro t9 h9 tk9 F9 N9); (try dsimp only); (try k_fold))))
  k_with "my call ref" => ((k_here; (with_reducible show wpAny _ _ (call (Value.ref 312) _) _ _ _); k_dflt ((refine' Con.useR (c_into _ ?z26kp) el_int ?z26k1 ?z26k2 ?z26k3 ?z26k4 ?z26k5 ?z26kK ?z26kd ?z26ku ?_; (case z26k1 => k_asm); (case z26k2 => k_asm); (case z26k3 => k_asm); (case z26k4 => k_asm); (case z26k5 => k_asm); (case z26kK => first | exact rfl | assumption);  (case z26kp => first | assumption | omega); (case z26kd => ktr_room); (case z26ku => ktr_units)); (intro t9 h9 tk9 F9 N9); (try dsimp only); (try k_fold))))
  k_with "my call ref" => ((k_here; (with_reducible show wpAny _ _ (call (Value.ref 347) _) _ _ _); k_dflt ((refine' Con.useR (c_due_none _ ?z27kp) el_made ?z27k1 ?z27k2 ?z27k3 ?z27k4 ?z27k5 ?z27kK ?z27kd ?z27ku ?_; (case z27k1 => k_asm); (case z27k2 => k_asm); (case z27k3 => k_asm); (case z27k4 => k_asm); (case z27k5 => k_asm); (case z27kK => first | exact rfl | assumption);  (case z27kp => first | assumption | (refine' din_sub ?z27ds ?z27dh; (case z27dh => assumption); (case z27ds => tb_rel))); (case z27kd => ktr_room); (case z27ku => ktr_units)); (intro r9 tl9 hnd9 hD9 h9 tk9 F9 N9); (try dsimp only); (try k_fold))))
  k_with "my call ref" => ((k_here; (with_reducible show wpAny _ _ (call (Value.ref 347) _) _ _ _); k_dflt ((refine' Con.useR (c_due_num _ ?z28kp ?z28kc ?z28kb) el_made ?z28k1 ?z28k2 ?z28k3 ?z28k4 ?z28k5 ?z28kK ?z28kd ?z28ku ?_; (case z28k1 => k_asm); (case z28k2 => k_asm); (case z28k3 => k_asm); (case z28k4 => k_asm); (case z28k5 => k_asm); (case z28kK => first | exact rfl | assumption);  (case z28kp => first | assumption | (refine' din_sub ?z28ds ?z28dh; (case z28dh => assumption); (case z28ds => tb_rel))); (case z28kc => first | assumption | omega); (case z28kb => first | assumption | omega); (case z28kd => ktr_room); (case z28ku => ktr_units)); (intro r9 tl9 hnd9 hD9 h9 tk9 F9 N9); (try dsimp only); (try k_fold))))
  k_with "my call ref" => ((k_here; (with_reducible show wpAny _ _ (call (Value.ref 305) _) _ _ _); k_dflt ((refine' Con.useRW ?z29kP (c_take _ ?z29kw ?z29ks ?z29ki ?z29kn) el_take ?z29k1 ?z29k2 ?z29k3 ?z29k4 ?z29k5 ?z29kK ?z29kd ?z29ku ?_; (case z29k1 => k_asm); (case z29k2 => k_asm); (case z29k3 => k_asm); (case z29k4 => k_asm); (case z29k5 => k_asm); (case z29kK => first | exact rfl | assumption); (case z29kP => tb_start);  (case z29kw => assumption); (case z29ks => ktr_rel); (case z29ki => omega); (case z29kn => omega); (case z29kd => ktr_room); (case z29ku => ktr_units)); (intro x9 t9 o9 hx09 hxn9 hxl9 hw9 h9 tk9 F9 N9); (try dsimp only); (try k_fold))))
  k_with "my call ref" => ((k_here; (with_reducible show wpAny _ _ (call (Value.ref 319) _) _ _ _); k_dflt ((refine' Con.useRW ?z33kP (c_number _ ?z33kw ?z33ks ?z33ki ?z33kn) el_num ?z33k1 ?z33k2 ?z33k3 ?z33k4 ?z33k5 ?z33kK ?z33kd ?z33ku ?_; (case z33k1 => k_asm); (case z33k2 => k_asm); (case z33k3 => k_asm); (case z33k4 => k_asm); (case z33k5 => k_asm); (case z33kK => first | exact rfl | assumption); (case z33kP => tb_start);  (case z33kw => assumption); (case z33ks => ktr_rel); (case z33ki => omega); (case z33kn => first | assumption | omega | exact kmenu_b (by assumption) (by assumption) | exact umenu_b (by assumption) (by assumption)); (case z33kd => ktr_room); (case z33ku => ktr_units)); (intro x9 t9 o9 i9 hi09 hw9 h9 tk9 F9 N9); (try dsimp only); (try k_fold))))
  k_with "my call ref" => ((k_here; (with_reducible show wpAny _ _ (call (Value.ref 326) _) _ _ _); k_dflt ((refine' Con.useRW ?z34kP (c_constant _ ?z34kw ?z34ks ?z34ki) el_const ?z34k1 ?z34k2 ?z34k3 ?z34k4 ?z34k5 ?z34kK ?z34kd ?z34ku ?_; (case z34k1 => k_asm); (case z34k2 => k_asm); (case z34k3 => k_asm); (case z34k4 => k_asm); (case z34k5 => k_asm); (case z34kK => first | exact rfl | assumption); (case z34kP => tb_start);  (case z34kw => assumption); (case z34ks => ktr_rel); (case z34ki => omega); (case z34kd => ktr_room); (case z34ku => ktr_units)); (intro D9 e9 q9 o9 i9 tl9 k9 x9 tv9 hnd9 hi09 hw9 hm9 hD9 hk9 h9 tk9 F9 N9); (try dsimp only); (try k_fold))))
  k_with "my call ref" => ((k_here; (with_reducible show wpAny _ _ (call (Value.ref 333) _) _ _ _); k_dflt ((refine' Con.useRW ?z35kP (c_inner _ ?z35kw ?z35ks ?z35ki) el_inner ?z35k1 ?z35k2 ?z35k3 ?z35k4 ?z35k5 ?z35kK ?z35kd ?z35ku ?_; (case z35k1 => k_asm); (case z35k2 => k_asm); (case z35k3 => k_asm); (case z35k4 => k_asm); (case z35k5 => k_asm); (case z35kK => first | exact rfl | assumption); (case z35kP => tb_start);  (case z35kw => assumption); (case z35ks => ktr_rel); (case z35ki => omega); (case z35kd => ktr_room); (case z35ku => ktr_units)); (intro D9 e9 nv9 q9 o9 i9 tl9 in9 n9 hnd9 hi09 hw9 hm9 hD9 hok9 hnn9 hv9 h9 tk9 F9 N9); (try dsimp only); (try k_fold))))
  k_with "my call ref" => ((k_here; (with_reducible show wpAny _ _ (call (Value.ref 340) _) _ _ _); k_dflt ((refine' Con.useRW2 ?z36kP (c_node _ ?z36kw ?z36ks ?z36ki) el_node ?z36k1 ?z36k2 ?z36k3 ?z36k4 ?z36k5 ?z36kK ?z36kd ?z36ku ?_ ?_; (case z36k1 => k_asm); (case z36k2 => k_asm); (case z36k3 => k_asm); (case z36k4 => k_asm); (case z36k5 => k_asm); (case z36kK => first | exact rfl | assumption); (case z36kP => tb_start);  (case z36kw => assumption); (case z36ks => ktr_rel); (case z36ki => omega); (case z36kd => ktr_room); (case z36ku => ktr_units)); (intro D9 e9 q9 o9 i9 tl9 kd9 k09 x9 c9 tv9 hnd9 hi09 hw9 hm9 hD9 hq9 hkd9 hk09 hc9 h9 tk9 F9 N9); (try dsimp only); (try k_fold); rotate_left; (intro D9 e9 q9 o9 i9 tl9 dd9 hnd9 hi09 hw9 hm9 hD9 hq9 hst9 h9 tk9 F9 N9); (try dsimp only); (try k_fold); rotate_left)))
  k_with "my call ref" => ((k_here; (with_reducible show wpAny _ _ (call (Value.ref 297) _) _ _ _); k_dflt ((refine' Con.useR (c_fold_enum _ ?z37kp ?z37kc ?z37ka) el_made ?z37k1 ?z37k2 ?z37k3 ?z37k4 ?z37k5 ?z37kK ?z37kd ?z37ku ?_; (case z37k1 => k_asm); (case z37k2 => k_asm); (case z37k3 => k_asm); (case z37k4 => k_asm); (case z37k5 => k_asm); (case z37kK => first | exact rfl | assumption);  (case z37kp => first | assumption | (refine' din_sub ?z37ds ?z37dh; (case z37dh => assumption); (case z37ds => tb_rel))); (case z37kc => first | assumption | omega); (case z37ka => first | assumption | omega); (case z37kd => ktr_room); (case z37ku => ktr_units)); (intro r9 tl9 hnd9 hD9 h9 tk9 F9 N9); (try dsimp only); (try k_fold))))
  k_with "my call ref" => ((k_here; (with_reducible show wpAny _ _ (call (Value.ref 297) _) _ _ _); k_dflt ((refine' Con.useR (c_fold_num _ ?z38kp ?z38kc ?z38ka ?z38kb) el_made ?z38k1 ?z38k2 ?z38k3 ?z38k4 ?z38k5 ?z38kK ?z38kd ?z38ku ?_; (case z38k1 => k_asm); (case z38k2 => k_asm); (case z38k3 => k_asm); (case z38k4 => k_asm); (case z38k5 => k_asm); (case z38kK => first | exact rfl | assumption);  (case z38kp => first | assumption | (refine' din_sub ?z38ds ?z38dh; (case z38dh => assumption); (case z38ds => tb_rel))); (case z38kc => first | assumption | omega); (case z38ka => first | assumption | omega); (case z38kb => first | assumption | omega); (case z38kd => ktr_room); (case z38ku => ktr_units)); (intro r9 tl9 hnd9 hD9 h9 tk9 F9 N9); (try dsimp only); (try k_fold))))
  k_with "my call ref" => ((k_here; (with_reducible show wpAny _ _ (call (Value.ref 297) _) _ _ _); k_dflt ((refine' Con.useR (c_fold_bad _ ?z39kp) el_eq ?z39k1 ?z39k2 ?z39k3 ?z39k4 ?z39k5 ?z39kK ?z39kd ?z39ku ?_; (case z39k1 => k_asm); (case z39k2 => k_asm); (case z39k3 => k_asm); (case z39k4 => k_asm); (case z39k5 => k_asm); (case z39kK => first | exact rfl | assumption);  (case z39kp => first | assumption | (refine' din_sub ?z39ds ?z39dh; (case z39dh => assumption); (case z39ds => tb_rel))); (case z39kd => ktr_room); (case z39ku => ktr_units)); (intro  h9 tk9 F9 N9); (try dsimp only); (try k_fold))))
  k_with "my call ref" => ((k_here; (with_reducible show wpAny _ _ (call (Value.ref 206) _) _ _ _); k_dflt ((refine' Con.useR (c_fault_enum _ ?z40kp ?z40kc ?z40ka) el_int ?z40k1 ?z40k2 ?z40k3 ?z40k4 ?z40k5 ?z40kK ?z40kd ?z40ku ?_; (case z40k1 => k_asm); (case z40k2 => k_asm); (case z40k3 => k_asm); (case z40k4 => k_asm); (case z40k5 => k_asm); (case z40kK => first | exact rfl | assumption);  (case z40kp => first | assumption | (refine' din_sub ?z40ds ?z40dh; (case z40dh => assumption); (case z40ds => tb_rel))); (case z40kc => first | assumption | omega); (case z40ka => first | assumption | omega); (case z40kd => ktr_room); (case z40ku => ktr_units)); (intro t9 h9 tk9 F9 N9); (try dsimp only); (try k_fold))))
  k_with "my call ref" => ((k_here; (with_reducible show wpAny _ _ (call (Value.ref 206) _) _ _ _); k_dflt ((refine' Con.useR (c_fault_same _ ?z41kp ?z41kc ?z41ka ?z41kb) el_int ?z41k1 ?z41k2 ?z41k3 ?z41k4 ?z41k5 ?z41kK ?z41kd ?z41ku ?_; (case z41k1 => k_asm); (case z41k2 => k_asm); (case z41k3 => k_asm); (case z41k4 => k_asm); (case z41k5 => k_asm); (case z41kK => first | exact rfl | assumption);  (case z41kp => first | assumption | (refine' din_sub ?z41ds ?z41dh; (case z41dh => assumption); (case z41ds => tb_rel))); (case z41kc => first | assumption | omega); (case z41ka => first | assumption | omega); (case z41kb => first | assumption | omega); (case z41kd => ktr_room); (case z41ku => ktr_units)); (intro t9 h9 tk9 F9 N9); (try dsimp only); (try k_fold))))
  k_with "my call ref" => ((k_here; (with_reducible show wpAny _ _ (call (Value.ref 206) _) _ _ _); k_dflt ((refine' Con.useR (c_fault_bad _ ?z42kp) el_int ?z42k1 ?z42k2 ?z42k3 ?z42k4 ?z42k5 ?z42kK ?z42kd ?z42ku ?_; (case z42k1 => k_asm); (case z42k2 => k_asm); (case z42k3 => k_asm); (case z42k4 => k_asm); (case z42k5 => k_asm); (case z42kK => first | exact rfl | assumption);  (case z42kp => first | assumption | (refine' din_sub ?z42ds ?z42dh; (case z42dh => assumption); (case z42ds => tb_rel))); (case z42kd => ktr_room); (case z42ku => ktr_units)); (intro t9 h9 tk9 F9 N9); (try dsimp only); (try k_fold))))
  k_with "my call ref" => ((k_here; (with_reducible show wpAny _ _ (call (Value.ref 178) _) _ _ _); k_dflt ((refine' Con.useR (c_as_num _ ?z43kp ?z43kc ?z43ka) el_made ?z43k1 ?z43k2 ?z43k3 ?z43k4 ?z43k5 ?z43kK ?z43kd ?z43ku ?_; (case z43k1 => k_asm); (case z43k2 => k_asm); (case z43k3 => k_asm); (case z43k4 => k_asm); (case z43k5 => k_asm); (case z43kK => first | exact rfl | assumption);  (case z43kp => first | assumption | (refine' din_sub ?z43ds ?z43dh; (case z43dh => assumption); (case z43ds => tb_rel))); (case z43kc => first | assumption | omega); (case z43ka => first | assumption | omega); (case z43kd => ktr_room); (case z43ku => ktr_units)); (intro r9 tl9 hnd9 hD9 h9 tk9 F9 N9); (try dsimp only); (try k_fold))))
  k_with "my call ref" => ((k_here; (with_reducible show wpAny _ _ (call (Value.ref 178) _) _ _ _); k_dflt ((refine' Con.useR (c_as_bad _ ?z44kp) el_made ?z44k1 ?z44k2 ?z44k3 ?z44k4 ?z44k5 ?z44kK ?z44kd ?z44ku ?_; (case z44k1 => k_asm); (case z44k2 => k_asm); (case z44k3 => k_asm); (case z44k4 => k_asm); (case z44k5 => k_asm); (case z44kK => first | exact rfl | assumption);  (case z44kp => first | assumption | (refine' din_sub ?z44ds ?z44dh; (case z44dh => assumption); (case z44ds => tb_rel))); (case z44kd => ktr_room); (case z44ku => ktr_units)); (intro r9 tl9 hnd9 hD9 h9 tk9 F9 N9); (try dsimp only); (try k_fold))))
  k_with "my call ref" => ((k_here; (with_reducible show wpAny _ _ (call (Value.ref 352) _) _ _ _); k_dflt ((refine' Con.useRW ?z57kP (c_nodefits _ ?z57kw ?z57ks ?z57ki) el_wd ?z57k1 ?z57k2 ?z57k3 ?z57k4 ?z57k5 ?z57kK ?z57kd ?z57ku ?_; (case z57k1 => k_asm); (case z57k2 => k_asm); (case z57k3 => k_asm); (case z57k4 => k_asm); (case z57k5 => k_asm); (case z57kK => first | exact rfl | assumption); (case z57kP => tb_start);  (case z57kw => assumption); (case z57ks => ktr_rel); (case z57ki => omega); (case z57kd => ktr_room); (case z57ku => ktr_units)); (intro o9 i9 hi09 hw9 h9 tk9 F9 N9); (try dsimp only); (try k_fold))))
  k_with "my call ref" => ((k_here; (with_reducible show wpAny _ _ (call (Value.ref 359) _) _ _ _); k_dflt ((refine' Con.useRW ?z70kP (c_turn _ ?z70kw ?z70ks ?z70ki ?z70kn ?z70ke ?z70kf) el_turn ?z70k1 ?z70k2 ?z70k3 ?z70k4 ?z70k5 ?z70kK ?z70kd ?z70ku ?_; (case z70k1 => k_asm); (case z70k2 => k_asm); (case z70k3 => k_asm); (case z70k4 => k_asm); (case z70k5 => k_asm); (case z70kK => first | exact rfl | assumption); (case z70kP => tb_start);  (case z70kw => assumption); (case z70ks => ktr_rel); (case z70ki => omega); (case z70kn => first | assumption | (refine' EnP.sub ?z70ds ?z70dh; (case z70ds => assumption); (case z70dh => exact Sub.cons (by k_mem) (fun _ h => nomatch h))) | (refine' EnP.sub ?z70ds ?z70dh; (case z70ds => assumption); (case z70dh => tb_rel))); (case z70ke => first | assumption | exact kmenu_b (by assumption) (by assumption) | exact umenu_b (by assumption) (by assumption)); (case z70kf => first | exact .inl rfl | exact .inr ⟨by omega, by omega⟩); (case z70kd => ktr_room); (case z70ku => ktr_units)); (intro D9 e9 nv9 q9 o9 i9 tl9 hnd9 hi09 hw9 hm9 hE9 h9 tk9 F9 N9); (try dsimp only); (try k_fold))))
  k_with "my exec For Name Call cons nil" => ((k_here; (rename Fr _ _ _ _ => lF'); k_dflt ((with_unfolding_all refine' For_invVF lF' ?z71k1 ?z71k2 ?_; (case z71k1 => exact rfl); (case z71k2 => exact rfl); k_whole))))
  k_with "my pyIter ref" => ((k_here; k_dflt ((rename IsRange _ _ _ _ _ _ _ _ => hr9); (refine' chain_loop ?z72hS ?z72hh hr9 ?z72hb ?z72F ?z72N ?z72hd ?z72hw ?z72hi ?z72hE ?z72he ?z72hn ?z72hL ?z72hs ?_ ?_; (case z72hS => assumption); (case z72hh => exact rfl); (case z72hb => exact ⟨by omega, by omega⟩); (case z72F => k_asm); (case z72N => k_asm); (case z72he => exact rfl); (case z72hn => exact rfl); (case z72hd => k_mem); (case z72hw => assumption); (case z72hi => omega); (case z72hE => first | assumption | exact .inl ⟨_, _, _, .inl (by assumption), by assumption, rfl⟩); (case z72hL => kcj_in); (case z72hs => kcj_in)); (all_goals (clear hr9; intros; (try k_fold))))))
  exact True.intro
theorem c_chain (w : World) {d l : Addr} {o : Obj} {ws : List Value} {ns : List Int} {rest : Led} {i : Int}
    (hW : WD w o l i) (hS : Scr l ws ns rest) (hi : 0 ≤ i) :
    Con w 366 [.ref d] 22 600 ((d, o) :: rest) (fun r news' => ∃ o' i', r = .bool true ∧ 0 ≤ i' ∧ WD w o' l i' ∧ news' = (d, o') :: rest) := by
  unfold Con
  w_top off
  k_fill
  intro mean mg mb dp un gd cn cs a ccd cl outer A₀ base h₀ L m s Q E B F X N T hkk hdd huu hret
  refine wpAny_call ?_
  k_dflt cell_enter
  k_steps
  · refine' chain_end ?F ?N ?R ?s ?d ?E ?L ?i ?w ?he ?hn ?hm
    (case F => k_asm)
    (case N => k_asm)
    (case R => assumption)
    (case s => kcj_in)
    (case he => exact rfl)
    (case hn => exact rfl)
    (case E => assumption)
    (case L => kcj_in)
    (case d => k_mem)
    (case w => assumption)
    (case i => omega)
    (case hm => (intro y h1 h2 h3 h4 h5 h6; simp only [set6, h1, h2, h3, h4, h5, h6, if_false]))
  · refine' hret _ _ _ ((d, _) :: rest) ?rF ?rN ⟨_, _, rfl, ?ri, ?rw, rfl⟩; (case rF => k_asm); (case rN => exact weak (by k_asm) (by kcj_in)); (case rw => assumption); (case ri => assumption)
end

/-! law -/
theorem law_b (n : Nat) : 1 ≤ 1 + (if (n : Int).fdiv 8 < 4 then (n : Int).fdiv 8 else 4) ∧ 1 + (if (n : Int).fdiv 8 < 4 then (n : Int).fdiv 8 else 4) ≤ 5 := by
  rw [Int.fdiv_eq_ediv_of_nonneg _ (by decide)]
  split <;> omega
section
variable {w : World} {A : Around} {E : Value → Shared → Prop} {s : Shared} {env : Env} {h₀ : Heap} {body : List Stmt} {Q : Flow → Shared → Prop}
/-- between two nodes -/
def LwJ (w : World) (d l : Addr) (rest : Led) (m₀ : Str → Option Value) (m' : Str → Option Value) (nx : Led) : Prop :=
  ∃ iv o i, m' = set1 (Str.ofString "i") iv m₀ ∧ nx = (d, o) :: rest ∧ 0 ≤ i ∧ WD w o l i
theorem law_loop {r d l : Addr} {b₀ : Int} {t₀ u₀ v₀ : Tok} {o : Obj} {c : Nat} {ws : List Value} {ns : List Int} {m₀ : Str → Option Value}
    (hI : IntsAre ws (List.take 50 ns)) (hh : A.handled = none) (hr : IsRange s.heap r 0 b₀ 1 t₀ u₀ v₀) (hb : 1 ≤ b₀ ∧ b₀ ≤ 5) (F : Fr h₀ env.locals s.heap m₀) (N : News h₀ env.locals s.heap [(l, W.listOf ws.toArray c), (d, o)]) (hw : WD w o l 0)
    (turn : ∀ (j : Nat) t iv o i h tk own R, ChR d [(l, W.listOf ws.toArray c)] own R → 0 ≤ i → WD w o l i → Scr l ws (List.take 50 ns) R →
      Fr h₀ env.locals h (fun y => if y = Str.ofString "i" then some (.int (0 + (j : Int)) t) else set1 (Str.ofString "i") iv m₀ y) → News h₀ env.locals h ((d, o) :: R) →
      wpAny (model PySem.Challenge.rw_xm0310_01.row.prog w) A (execs body env) (TPost "range_iterator" h₀ env.locals (LwJ w d l [(l, W.listOf ws.toArray c)] m₀) own { s with heap := h, toks := tk } Q) E { s with heap := h, toks := tk })
    (done : ∀ iv o i h tk, 0 ≤ i → WD w o l i → Scr l ws (List.take 50 ns) [(l, W.listOf ws.toArray c)] → Fr h₀ env.locals h (set1 (Str.ofString "i") iv m₀) → News h₀ env.locals h ((d, o) :: [(l, W.listOf ws.toArray c)]) → Q .next { s with heap := h, toks := tk }) :
    wpAny (model PySem.Challenge.rw_xm0310_01.row.prog w) A (pyIter (.ref r)) (fun it s₂ => LoopAtV PySem.Challenge.rw_xm0310_01.row.prog w A h₀ env (Str.ofString "i") body Q E it s₂) E s := by
  obtain ⟨n, hsz, hsm⟩ := small_range hb
  have hS : Scr l ws (List.take 50 ns) [(l, W.listOf ws.toArray c)] := ⟨hI, ⟨c, .head _⟩, List.length_take_le _ _, .cons (list_noD (a := l)).x .nil⟩
  refine rngLoop (fun _ => LwJ w d l [(l, W.listOf ws.toArray c)] m₀) hh hr hsm hsz F (weak N (b := (d, o) :: [(l, W.listOf ws.toArray c)]) fun p hp => ?_) ⟨_, o, 0, set1_self _ _, rfl, Int.le_refl _, hw⟩ ?_ ?_
  · rcases List.mem_cons.mp hp with rfl | hp
    · exact .tail _ (.head _)
    · rw [List.mem_singleton.mp hp]; exact .head _
  · rintro j t m₁ nx h tk own _ ⟨iv, o, i, rfl, rfl, hi, hw⟩ hcl hO F₁ N₁
    refine turn j t iv o i h tk own ([(l, W.listOf ws.toArray c)] ++ own) ⟨rfl, fun p hp => hO p (.tail _ hp), hO _ (.head _)⟩ hi hw ⟨hS.are, hS.lies.imp fun _ x => List.mem_append_left _ x, hS.short, hS.plain.app fun p hp => .inl ?_⟩ F₁ N₁
    rw [hcl p hp]
    show Value.type "range_iterator" ≠ Value.type "dict"
    decide
  · rintro m₁ nx h tk ⟨iv, o, i, rfl, rfl, hi, hw⟩ F₁ N₁
    exact done iv o i h tk hi hw hS F₁ N₁
theorem law_end {d l : Addr} {i : Int} {o : Obj} {rest own R C : Led} {m₀ m' : Str → Option Value} {h' : Heap} {tk' : Nat} (F : Fr h₀ env.locals h' m') (N : News h₀ env.locals h' C) (hR : ChR d rest own R) (hs : ∀ p ∈ R, p ∈ C) (hd : (d, o) ∈ C) (hi : 0 ≤ i) (hw : WD w o l i)
    (iv : Option Value) (hm : m' = set1 (Str.ofString "i") iv m₀) :
    TPost "range_iterator" h₀ env.locals (LwJ w d l rest m₀) own s Q .next { s with heap := h', toks := tk' } := by
  have hr : ∀ p ∈ rest, p ∈ C := fun p hp => hs p (hR.eq ▸ List.mem_append_left _ hp)
  refine ⟨h', tk', m', C, (d, o) :: rest, rfl, F, N, fun p hp => ?_, fun p hp => hs p (hR.eq ▸ List.mem_append_right _ hp), fun p hp => ?_, ⟨iv, o, i, hm, rfl, hi, hw⟩⟩
  · rcases List.mem_cons.mp hp with rfl | hp
    · exact hd
    · exact hr p hp
  · rcases List.mem_cons.mp hp with rfl | hp
    · exact .inr hR.offd
    · exact .inr fun q hq => hR.off p hp q hq
end
section
theorem law_T.tw14531352234054725774 : True := trivial
theorem law_T.tw2508255044705368994 : True := trivial
theorem reg_23 : True := by
  k_with_none
  k_with "my subscriptTail Name Constant ref int" => ((k_here; k_dflt (refine' item_tupleT ?z0T ?z0a ?z0b ?z0j ?z0x ?_ ?z0s; (case z0T => exact isT (by k_asm) (by k_mem)); (case z0a => decide); (case z0b => decide); (case z0j => exact rfl); (case z0x => exact rfl); (case z0s => with_unfolding_all rfl); k_whole)))
  k_with "my subscriptTail Subscript Constant ref int" => ((k_here; k_dflt (refine' item_tupleT ?z1T ?z1a ?z1b ?z1j ?z1x ?_ ?z1s; (case z1T => exact isT (by k_asm) (by k_mem)); (case z1a => decide); (case z1b => decide); (case z1j => exact rfl); (case z1x => exact rfl); (case z1s => with_unfolding_all rfl); k_whole)))
  k_with "my eval Call" => ((k_here; first | k_compRoot | k_dflt (refine Call_ ?_)))
  k_with "my call ref" => ((k_here; (with_reducible show wpAny _ _ (call (Value.ref 65) _) _ _ _); k_dflt ((refine' Con.useR (c_int_range _ ?z5kp) (el_rng ?z5kX) ?z5k1 ?z5k2 ?z5k3 ?z5k4 ?z5k5 ?z5kK ?z5kd ?z5ku ?_; (case z5k1 => k_asm); (case z5k2 => k_asm); (case z5k3 => k_asm); (case z5k4 => k_asm); (case z5k5 => k_asm); (case z5kK => first | exact rfl | assumption);  (case z5kp => first | assumption | omega); (case z5kX => k_asm); (case z5kd => ktr_room); (case z5ku => ktr_units)); (intro a9 t1 t2 hK9 hT9 h9 tk9 F9 N9); (try dsimp only); (try k_fold))))
  k_with "my call ref" => ((k_here; (with_reducible show wpAny _ _ (call (Value.ref 87) _) _ _ _); k_dflt ((refine' Con.useR (c_in_range _ ?z6kp) el_eq ?z6k1 ?z6k2 ?z6k3 ?z6k4 ?z6k5 ?z6kK ?z6kd ?z6ku ?_; (case z6k1 => k_asm); (case z6k2 => k_asm); (case z6k3 => k_asm); (case z6k4 => k_asm); (case z6k5 => k_asm); (case z6kK => first | exact rfl | assumption);  (case z6kp => first | assumption | omega); (case z6kd => ktr_room); (case z6ku => ktr_units)); (intro  h9 tk9 F9 N9); (try dsimp only); (try k_fold))))
  k_with "my call ref" => ((k_here; (with_reducible show wpAny _ _ (call (Value.ref 80) _) _ _ _); k_dflt ((refine' Con.useR (c_cut _ ?z7kp) el_int ?z7k1 ?z7k2 ?z7k3 ?z7k4 ?z7k5 ?z7kK ?z7kd ?z7ku ?_; (case z7k1 => k_asm); (case z7k2 => k_asm); (case z7k3 => k_asm); (case z7k4 => k_asm); (case z7k5 => k_asm); (case z7kK => first | exact rfl | assumption);  (case z7kp => first | assumption | omega); (case z7kd => ktr_room); (case z7ku => ktr_units)); (intro t9 h9 tk9 F9 N9); (try dsimp only); (try k_fold))))
  k_with "my call ref" => ((k_here; (with_reducible show wpAny _ _ (call (Value.ref 129) _) _ _ _); k_dflt ((refine' Con.useR2 (c_whole _ ?z8kp ?z8kc) el_conv ?z8k1 ?z8k2 ?z8k3 ?z8k4 ?z8k5 ?z8kK ?z8kd ?z8ku ?_ ?_; (case z8k1 => k_asm); (case z8k2 => k_asm); (case z8k3 => k_asm); (case z8k4 => k_asm); (case z8k5 => k_asm); (case z8kK => first | exact rfl | assumption);  (case z8kp => first | assumption | omega); (case z8kc => first | assumption | omega); (case z8kd => ktr_room); (case z8ku => ktr_units)); (intro tl9 D9 t9 q9 tv9 hnd9 hm9 hok9 h9 tk9 F9 N9); (try dsimp only); (try k_fold); rotate_left; (intro tl9 D9 t9 q9 hnd9 hm9 hok9 h9 tk9 F9 N9); (try dsimp only); (try k_fold); rotate_left)))
  k_with "my call ref" => ((k_here; (with_reducible show wpAny _ _ (call (Value.ref 150) _) _ _ _); k_dflt ((refine' Con.useR2 (c_conv _ ?z9kp ?z9kc) el_conv ?z9k1 ?z9k2 ?z9k3 ?z9k4 ?z9k5 ?z9kK ?z9kd ?z9ku ?_ ?_; (case z9k1 => k_asm); (case z9k2 => k_asm); (case z9k3 => k_asm); (case z9k4 => k_asm); (case z9k5 => k_asm); (case z9kK => first | exact rfl | assumption);  (case z9kp => first | assumption | omega); (case z9kc => first | assumption | omega); (case z9kd => ktr_room); (case z9ku => ktr_units)); (intro tl9 D9 t9 q9 tv9 hnd9 hm9 hok9 h9 tk9 F9 N9); (try dsimp only); (try k_fold); rotate_left; (intro tl9 D9 t9 q9 hnd9 hm9 hok9 h9 tk9 F9 N9); (try dsimp only); (try k_fold); rotate_left)))
  k_with "my call ref" => ((k_here; (with_reducible show wpAny _ _ (call (Value.ref 164) _) _ _ _); k_dflt ((refine' Con.useR (c_numeric_no _ ?z10kp ?z10kc ?z10ke) el_eq ?z10k1 ?z10k2 ?z10k3 ?z10k4 ?z10k5 ?z10kK ?z10kd ?z10ku ?_; (case z10k1 => k_asm); (case z10k2 => k_asm); (case z10k3 => k_asm); (case z10k4 => k_asm); (case z10k5 => k_asm); (case z10kK => first | exact rfl | assumption);  (case z10kp => first | assumption | (refine' din_sub ?z10ds ?z10dh; (case z10dh => assumption); (case z10ds => tb_rel))); (case z10kc => assumption); (case z10ke => assumption); (case z10kd => ktr_room); (case z10ku => ktr_units)); (intro  h9 tk9 F9 N9); (try dsimp only); (try k_fold))))
  k_with "my call ref" => ((k_here; (with_reducible show wpAny _ _ (call (Value.ref 164) _) _ _ _); k_dflt ((refine' Con.useR (c_numeric _ ?z11kp ?z11kc) el_eq ?z11k1 ?z11k2 ?z11k3 ?z11k4 ?z11k5 ?z11kK ?z11kd ?z11ku ?_; (case z11k1 => k_asm); (case z11k2 => k_asm); (case z11k3 => k_asm); (case z11k4 => k_asm); (case z11k5 => k_asm); (case z11kK => first | exact rfl | assumption);  (case z11kp => first | assumption | (refine' din_sub ?z11ds ?z11dh; (case z11dh => assumption); (case z11ds => tb_rel))); (case z11kc => first | assumption | omega); (case z11kd => ktr_room); (case z11ku => ktr_units)); (intro  h9 tk9 F9 N9); (try dsimp only); (try k_fold))))
  k_with "my call ref" => ((k_here; (with_reducible show wpAny _ _ (call (Value.ref 248) _) _ _ _); k_dflt ((refine' Con.useR (c_under_still _ ?z14kp ?z14kc) el_eq ?z14k1 ?z14k2 ?z14k3 ?z14k4 ?z14k5 ?z14kK ?z14kd ?z14ku ?_; (case z14k1 => k_asm); (case z14k2 => k_asm); (case z14k3 => k_asm); (case z14k4 => k_asm); (case z14k5 => k_asm); (case z14kK => first | exact rfl | assumption);  (case z14kp => first | assumption | (refine' din_sub ?z14ds ?z14dh; (case z14dh => assumption); (case z14ds => tb_rel))); (case z14kc => assumption); (case z14kd => ktr_room); (case z14ku => ktr_units)); (intro  h9 tk9 F9 N9); (try dsimp only); (try k_fold))))
  k_with "my call ref" => ((k_here; (with_reducible show wpAny _ _ (call (Value.ref 248) _) _ _ _); k_dflt ((refine' Con.useR (c_under_num _ ?z15kp ?z15kc ?z15ka ?z15kb) el_made ?z15k1 ?z15k2 ?z15k3 ?z15k4 ?z15k5 ?z15kK ?z15kd ?z15ku ?_; (case z15k1 => k_asm); (case z15k2 => k_asm); (case z15k3 => k_asm); (case z15k4 => k_asm); (case z15k5 => k_asm); (case z15kK => first | exact rfl | assumption);  (case z15kp => first | assumption | (refine' din_sub ?z15ds ?z15dh; (case z15dh => assumption); (case z15ds => tb_rel))); (case z15kc => first | assumption | omega); (case z15ka => assumption); (case z15kb => first | assumption | omega); (case z15kd => ktr_room); (case z15ku => ktr_units)); (intro r9 tl9 hnd9 hD9 h9 tk9 F9 N9); (try dsimp only); (try k_fold))))
  k_with "my call ref" => ((k_here; (with_reducible show wpAny _ _ (call (Value.ref 213) _) _ _ _); k_dflt ((refine' Con.useR (c_fault_still _ ?z16kp ?z16kc) el_int ?z16k1 ?z16k2 ?z16k3 ?z16k4 ?z16k5 ?z16kK ?z16kd ?z16ku ?_; (case z16k1 => k_asm); (case z16k2 => k_asm); (case z16k3 => k_asm); (case z16k4 => k_asm); (case z16k5 => k_asm); (case z16kK => first | exact rfl | assumption);  (case z16kp => first | assumption | (refine' din_sub ?z16ds ?z16dh; (case z16dh => assumption); (case z16ds => tb_rel))); (case z16kc => assumption); (case z16kd => ktr_room); (case z16ku => ktr_units)); (intro t9 h9 tk9 F9 N9); (try dsimp only); (try k_fold))))
  k_with "my call ref" => ((k_here; (with_reducible show wpAny _ _ (call (Value.ref 213) _) _ _ _); k_dflt ((refine' Con.useR (c_fault_num _ ?z17kp ?z17kc ?z17ka ?z17kb) el_int ?z17k1 ?z17k2 ?z17k3 ?z17k4 ?z17k5 ?z17kK ?z17kd ?z17ku ?_; (case z17k1 => k_asm); (case z17k2 => k_asm); (case z17k3 => k_asm); (case z17k4 => k_asm); (case z17k5 => k_asm); (case z17kK => first | exact rfl | assumption);  (case z17kp => first | assumption | (refine' din_sub ?z17ds ?z17dh; (case z17dh => assumption); (case z17ds => tb_rel))); (case z17kc => first | assumption | omega); (case z17ka => assumption); (case z17kb => first | assumption | omega); (case z17kd => ktr_room); (case z17ku => ktr_units)); (intro t9 h9 tk9 F9 N9); (try dsimp only); (try k_fold))))
  k_with "my call ref" => ((k_here; (with_reducible show wpAny _ _ (call (Value.ref 312) _) _ _ _); k_dflt ((refine' Con.useR (c_into _ ?z26kp) el_int ?z26k1 ?z26k2 ?z26k3 ?z26k4 ?z26k5 ?z26kK ?z26kd ?z26ku ?_; (case z26k1 => k_asm); (case z26k2 => k_asm); (case z26k3 => k_asm); (case z26k4 => k_asm); (case z26k5 => k_asm); (case z26kK => first | exact rfl | assumption);  (case z26kp => first | assumption | omega); (case z26kd => ktr_room); (case z26ku => ktr_units)); (intro t9 h9 tk9 F9 N9); (try dsimp only); (try k_fold))))
  k_with "my call ref" => ((k_here; (with_reducible show wpAny _ _ (call (Value.ref 347) _) _ _ _); k_dflt ((refine' Con.useR (c_due_none _ ?z27kp) el_made ?z27k1 ?z27k2 ?z27k3 ?z27k4 ?z27k5 ?z27kK ?z27kd ?z27ku ?_; (case z27k1 => k_asm); (case z27k2 => k_asm); (case z27k3 => k_asm); (case z27k4 => k_asm); (case z27k5 => k_asm); (case z27kK => first | exact rfl | assumption);  (case z27kp => first | assumption | (refine' din_sub ?z27ds ?z27dh; (case z27dh => assumption); (case z27ds => tb_rel))); (case z27kd => ktr_room); (case z27ku => ktr_units)); (intro r9 tl9 hnd9 hD9 h9 tk9 F9 N9); (try dsimp only); (try k_fold))))
  k_with "my call ref" => ((k_here; (with_reducible show wpAny _ _ (call (Value.ref 347) _) _ _ _); k_dflt ((refine' Con.useR (c_due_num _ ?z28kp ?z28kc ?z28kb) el_made ?z28k1 ?z28k2 ?z28k3 ?z28k4 ?z28k5 ?z28kK ?z28kd ?z28ku ?_; (case z28k1 => k_asm); (case z28k2 => k_asm); (case z28k3 => k_asm); (case z28k4 => k_asm); (case z28k5 => k_asm); (case z28kK => first | exact rfl | assumption);  (case z28kp => first | assumption | (refine' din_sub ?z28ds ?z28dh; (case z28dh => assumption); (case z28ds => tb_rel))); (case z28kc => first | assumption | omega); (case z28kb => first | assumption | omega); (case z28kd => ktr_room); (case z28ku => ktr_units)); (intro r9 tl9 hnd9 hD9 h9 tk9 F9 N9); (try dsimp only); (try k_fold))))
  k_with "my call ref" => ((k_here; (with_reducible show wpAny _ _ (call (Value.ref 305) _) _ _ _); k_dflt ((refine' Con.useRW ?z29kP (c_take _ ?z29kw ?z29ks ?z29ki ?z29kn) el_take ?z29k1 ?z29k2 ?z29k3 ?z29k4 ?z29k5 ?z29kK ?z29kd ?z29ku ?_; (case z29k1 => k_asm); (case z29k2 => k_asm); (case z29k3 => k_asm); (case z29k4 => k_asm); (case z29k5 => k_asm); (case z29kK => first | exact rfl | assumption); (case z29kP => tb_start);  (case z29kw => assumption); (case z29ks => ktr_rel); (case z29ki => omega); (case z29kn => omega); (case z29kd => ktr_room); (case z29ku => ktr_units)); (intro x9 t9 o9 hx09 hxn9 hxl9 hw9 h9 tk9 F9 N9); (try dsimp only); (try k_fold))))
  k_with "my call ref" => ((k_here; (with_reducible show wpAny _ _ (call (Value.ref 319) _) _ _ _); k_dflt ((refine' Con.useRW ?z33kP (c_number _ ?z33kw ?z33ks ?z33ki ?z33kn) el_num ?z33k1 ?z33k2 ?z33k3 ?z33k4 ?z33k5 ?z33kK ?z33kd ?z33ku ?_; (case z33k1 => k_asm); (case z33k2 => k_asm); (case z33k3 => k_asm); (case z33k4 => k_asm); (case z33k5 => k_asm); (case z33kK => first | exact rfl | assumption); (case z33kP => tb_start);  (case z33kw => assumption); (case z33ks => ktr_rel); (case z33ki => omega); (case z33kn => first | assumption | omega | exact kmenu_b (by assumption) (by assumption) | exact umenu_b (by assumption) (by assumption)); (case z33kd => ktr_room); (case z33ku => ktr_units)); (intro x9 t9 o9 i9 hi09 hw9 h9 tk9 F9 N9); (try dsimp only); (try k_fold))))
  k_with "my call ref" => ((k_here; (with_reducible show wpAny _ _ (call (Value.ref 326) _) _ _ _); k_dflt ((refine' Con.useRW ?z34kP (c_constant _ ?z34kw ?z34ks ?z34ki) el_const ?z34k1 ?z34k2 ?z34k3 ?z34k4 ?z34k5 ?z34kK ?z34kd ?z34ku ?_; (case z34k1 => k_asm); (case z34k2 => k_asm); (case z34k3 => k_asm); (case z34k4 => k_asm); (case z34k5 => k_asm); (case z34kK => first | exact rfl | assumption); (case z34kP => tb_start);  (case z34kw => assumption); (case z34ks => ktr_rel); (case z34ki => omega); (case z34kd => ktr_room); (case z34ku => ktr_units)); (intro D9 e9 q9 o9 i9 tl9 k9 x9 tv9 hnd9 hi09 hw9 hm9 hD9 hk9 h9 tk9 F9 N9); (try dsimp only); (try k_fold))))
  k_with "my call ref" => ((k_here; (with_reducible show wpAny _ _ (call (Value.ref 333) _) _ _ _); k_dflt ((refine' Con.useRW ?z35kP (c_inner _ ?z35kw ?z35ks ?z35ki) el_inner ?z35k1 ?z35k2 ?z35k3 ?z35k4 ?z35k5 ?z35kK ?z35kd ?z35ku ?_; (case z35k1 => k_asm); (case z35k2 => k_asm); (case z35k3 => k_asm); (case z35k4 => k_asm); (case z35k5 => k_asm); (case z35kK => first | exact rfl | assumption); (case z35kP => tb_start);  (case z35kw => assumption); (case z35ks => ktr_rel); (case z35ki => omega); (case z35kd => ktr_room); (case z35ku => ktr_units)); (intro D9 e9 nv9 q9 o9 i9 tl9 in9 n9 hnd9 hi09 hw9 hm9 hD9 hok9 hnn9 hv9 h9 tk9 F9 N9); (try dsimp only); (try k_fold))))
  k_with "my call ref" => ((k_here; (with_reducible show wpAny _ _ (call (Value.ref 340) _) _ _ _); k_dflt ((refine' Con.useRW2 ?z36kP (c_node _ ?z36kw ?z36ks ?z36ki) el_node ?z36k1 ?z36k2 ?z36k3 ?z36k4 ?z36k5 ?z36kK ?z36kd ?z36ku ?_ ?_; (case z36k1 => k_asm); (case z36k2 => k_asm); (case z36k3 => k_asm); (case z36k4 => k_asm); (case z36k5 => k_asm); (case z36kK => first | exact rfl | assumption); (case z36kP => tb_start);  (case z36kw => assumption); (case z36ks => ktr_rel); (case z36ki => omega); (case z36kd => ktr_room); (case z36ku => ktr_units)); (intro D9 e9 q9 o9 i9 tl9 kd9 k09 x9 c9 tv9 hnd9 hi09 hw9 hm9 hD9 hq9 hkd9 hk09 hc9 h9 tk9 F9 N9); (try dsimp only); (try k_fold); rotate_left; (intro D9 e9 q9 o9 i9 tl9 dd9 hnd9 hi09 hw9 hm9 hD9 hq9 hst9 h9 tk9 F9 N9); (try dsimp only); (try k_fold); rotate_left)))
  k_with "my call ref" => ((k_here; (with_reducible show wpAny _ _ (call (Value.ref 297) _) _ _ _); k_dflt ((refine' Con.useR (c_fold_enum _ ?z37kp ?z37kc ?z37ka) el_made ?z37k1 ?z37k2 ?z37k3 ?z37k4 ?z37k5 ?z37kK ?z37kd ?z37ku ?_; (case z37k1 => k_asm); (case z37k2 => k_asm); (case z37k3 => k_asm); (case z37k4 => k_asm); (case z37k5 => k_asm); (case z37kK => first | exact rfl | assumption);  (case z37kp => first | assumption | (refine' din_sub ?z37ds ?z37dh; (case z37dh => assumption); (case z37ds => tb_rel))); (case z37kc => first | assumption | omega); (case z37ka => first | assumption | omega); (case z37kd => ktr_room); (case z37ku => ktr_units)); (intro r9 tl9 hnd9 hD9 h9 tk9 F9 N9); (try dsimp only); (try k_fold))))
  k_with "my call ref" => ((k_here; (with_reducible show wpAny _ _ (call (Value.ref 297) _) _ _ _); k_dflt ((refine' Con.useR (c_fold_num _ ?z38kp ?z38kc ?z38ka ?z38kb) el_made ?z38k1 ?z38k2 ?z38k3 ?z38k4 ?z38k5 ?z38kK ?z38kd ?z38ku ?_; (case z38k1 => k_asm); (case z38k2 => k_asm); (case z38k3 => k_asm); (case z38k4 => k_asm); (case z38k5 => k_asm); (case z38kK => first | exact rfl | assumption);  (case z38kp => first | assumption | (refine' din_sub ?z38ds ?z38dh; (case z38dh => assumption); (case z38ds => tb_rel))); (case z38kc => first | assumption | omega); (case z38ka => first | assumption | omega); (case z38kb => first | assumption | omega); (case z38kd => ktr_room); (case z38ku => ktr_units)); (intro r9 tl9 hnd9 hD9 h9 tk9 F9 N9); (try dsimp only); (try k_fold))))
  k_with "my call ref" => ((k_here; (with_reducible show wpAny _ _ (call (Value.ref 297) _) _ _ _); k_dflt ((refine' Con.useR (c_fold_bad _ ?z39kp) el_eq ?z39k1 ?z39k2 ?z39k3 ?z39k4 ?z39k5 ?z39kK ?z39kd ?z39ku ?_; (case z39k1 => k_asm); (case z39k2 => k_asm); (case z39k3 => k_asm); (case z39k4 => k_asm); (case z39k5 => k_asm); (case z39kK => first | exact rfl | assumption);  (case z39kp => first | assumption | (refine' din_sub ?z39ds ?z39dh; (case z39dh => assumption); (case z39ds => tb_rel))); (case z39kd => ktr_room); (case z39ku => ktr_units)); (intro  h9 tk9 F9 N9); (try dsimp only); (try k_fold))))
  k_with "my call ref" => ((k_here; (with_reducible show wpAny _ _ (call (Value.ref 206) _) _ _ _); k_dflt ((refine' Con.useR (c_fault_enum _ ?z40kp ?z40kc ?z40ka) el_int ?z40k1 ?z40k2 ?z40k3 ?z40k4 ?z40k5 ?z40kK ?z40kd ?z40ku ?_; (case z40k1 => k_asm); (case z40k2 => k_asm); (case z40k3 => k_asm); (case z40k4 => k_asm); (case z40k5 => k_asm); (case z40kK => first | exact rfl | assumption);  (case z40kp => first | assumption | (refine' din_sub ?z40ds ?z40dh; (case z40dh => assumption); (case z40ds => tb_rel))); (case z40kc => first | assumption | omega); (case z40ka => first | assumption | omega); (case z40kd => ktr_room); (case z40ku => ktr_units)); (intro t9 h9 tk9 F9 N9); (try dsimp only); (try k_fold))))
  k_with "my call ref" => ((k_here; (with_reducible show wpAny _ _ (call (Value.ref 206) _) _ _ _); k_dflt ((refine' Con.useR (c_fault_same _ ?z41kp ?z41kc ?z41ka ?z41kb) el_int ?z41k1 ?z41k2 ?z41k3 ?z41k4 ?z41k5 ?z41kK ?z41kd ?z41ku ?_; (case z41k1 => k_asm); (case z41k2 => k_asm); (case z41k3 => k_asm); (case z41k4 => k_asm); (case z41k5 => k_asm); (case z41kK => first | exact rfl | assumption);  (case z41kp => first | assumption | (refine' din_sub ?z41ds ?z41dh; (case z41dh => assumption); (case z41ds => tb_rel))); (case z41kc => first | assumption | omega); (case z41ka => first | assumption | omega); (case z41kb => first | assumption | omega); (case z41kd => ktr_room); (case z41ku => ktr_units)); (intro t9 h9 tk9 F9 N9); (try dsimp only); (try k_fold))))
  k_with "my call ref" => ((k_here; (with_reducible show wpAny _ _ (call (Value.ref 206) _) _ _ _); k_dflt ((refine' Con.useR (c_fault_bad _ ?z42kp) el_int ?z42k1 ?z42k2 ?z42k3 ?z42k4 ?z42k5 ?z42kK ?z42kd ?z42ku ?_; (case z42k1 => k_asm); (case z42k2 => k_asm); (case z42k3 => k_asm); (case z42k4 => k_asm); (case z42k5 => k_asm); (case z42kK => first | exact rfl | assumption);  (case z42kp => first | assumption | (refine' din_sub ?z42ds ?z42dh; (case z42dh => assumption); (case z42ds => tb_rel))); (case z42kd => ktr_room); (case z42ku => ktr_units)); (intro t9 h9 tk9 F9 N9); (try dsimp only); (try k_fold))))
  k_with "my call ref" => ((k_here; (with_reducible show wpAny _ _ (call (Value.ref 178) _) _ _ _); k_dflt ((refine' Con.useR (c_as_num _ ?z43kp ?z43kc ?z43ka) el_made ?z43k1 ?z43k2 ?z43k3 ?z43k4 ?z43k5 ?z43kK ?z43kd ?z43ku ?_; (case z43k1 => k_asm); (case z43k2 => k_asm); (case z43k3 => k_asm); (case z43k4 => k_asm); (case z43k5 => k_asm); (case z43kK => first | exact rfl | assumption);  (case z43kp => first | assumption | (refine' din_sub ?z43ds ?z43dh; (case z43dh => assumption); (case z43ds => tb_rel))); (case z43kc => first | assumption | omega); (case z43ka => first | assumption | omega); (case z43kd => ktr_room); (case z43ku => ktr_units)); (intro r9 tl9 hnd9 hD9 h9 tk9 F9 N9); (try dsimp only); (try k_fold))))
  k_with "my call ref" => ((k_here; (with_reducible show wpAny _ _ (call (Value.ref 178) _) _ _ _); k_dflt ((refine' Con.useR (c_as_bad _ ?z44kp) el_made ?z44k1 ?z44k2 ?z44k3 ?z44k4 ?z44k5 ?z44kK ?z44kd ?z44ku ?_; (case z44k1 => k_asm); (case z44k2 => k_asm); (case z44k3 => k_asm); (case z44k4 => k_asm); (case z44k5 => k_asm); (case z44kK => first | exact rfl | assumption);  (case z44kp => first | assumption | (refine' din_sub ?z44ds ?z44dh; (case z44dh => assumption); (case z44ds => tb_rel))); (case z44kd => ktr_room); (case z44ku => ktr_units)); (intro r9 tl9 hnd9 hD9 h9 tk9 F9 N9); (try dsimp only); (try k_fold))))
  k_with "my call ref" => ((k_here; (with_reducible show wpAny _ _ (call (Value.ref 352) _) _ _ _); k_dflt ((refine' Con.useRW ?z57kP (c_nodefits _ ?z57kw ?z57ks ?z57ki) el_wd ?z57k1 ?z57k2 ?z57k3 ?z57k4 ?z57k5 ?z57kK ?z57kd ?z57ku ?_; (case z57k1 => k_asm); (case z57k2 => k_asm); (case z57k3 => k_asm); (case z57k4 => k_asm); (case z57k5 => k_asm); (case z57kK => first | exact rfl | assumption); (case z57kP => tb_start);  (case z57kw => assumption); (case z57ks => ktr_rel); (case z57ki => omega); (case z57kd => ktr_room); (case z57ku => ktr_units)); (intro o9 i9 hi09 hw9 h9 tk9 F9 N9); (try dsimp only); (try k_fold))))
  k_with "my call ref" => ((k_here; (with_reducible show wpAny _ _ (call (Value.ref 359) _) _ _ _); k_dflt ((refine' Con.useRW ?z70kP (c_turn _ ?z70kw ?z70ks ?z70ki ?z70kn ?z70ke ?z70kf) el_turn ?z70k1 ?z70k2 ?z70k3 ?z70k4 ?z70k5 ?z70kK ?z70kd ?z70ku ?_; (case z70k1 => k_asm); (case z70k2 => k_asm); (case z70k3 => k_asm); (case z70k4 => k_asm); (case z70k5 => k_asm); (case z70kK => first | exact rfl | assumption); (case z70kP => tb_start);  (case z70kw => assumption); (case z70ks => ktr_rel); (case z70ki => omega); (case z70kn => first | assumption | (refine' EnP.sub ?z70ds ?z70dh; (case z70ds => assumption); (case z70dh => exact Sub.cons (by k_mem) (fun _ h => nomatch h))) | (refine' EnP.sub ?z70ds ?z70dh; (case z70ds => assumption); (case z70dh => tb_rel))); (case z70ke => first | assumption | exact kmenu_b (by assumption) (by assumption) | exact umenu_b (by assumption) (by assumption)); (case z70kf => first | exact .inl rfl | exact .inr ⟨by omega, by omega⟩); (case z70kd => ktr_room); (case z70ku => ktr_units)); (intro D9 e9 nv9 q9 o9 i9 tl9 hnd9 hi09 hw9 hm9 hE9 h9 tk9 F9 N9); (try dsimp only); (try k_fold))))
  k_with "my call ref" => ((k_here; (with_reducible show wpAny _ _ (call (Value.ref 366) _) _ _ _); k_dflt ((refine' Con.useRW ?z73kP (c_chain _ ?z73kw ?z73ks ?z73ki) el_wd ?z73k1 ?z73k2 ?z73k3 ?z73k4 ?z73k5 ?z73kK ?z73kd ?z73ku ?_; (case z73k1 => k_asm); (case z73k2 => k_asm); (case z73k3 => k_asm); (case z73k4 => k_asm); (case z73k5 => k_asm); (case z73kK => first | exact rfl | assumption); (case z73kP => tb_start);  (case z73kw => assumption); (case z73ks => ktr_rel); (case z73ki => omega); (case z73kd => ktr_room); (case z73ku => ktr_units)); (intro o9 i9 hi09 hw9 h9 tk9 F9 N9); (try dsimp only); (try k_fold))))
  k_with "my exec For Name Call cons nil" => ((k_here; (rename Fr _ _ _ _ => lF'); k_dflt ((with_unfolding_all refine' For_invVF lF' ?z71k1 ?z71k2 ?_; (case z71k1 => exact rfl); (case z71k2 => exact rfl); k_whole))))
  k_with "my pyIter ref" => ((k_here; k_dflt ((rename IsRange _ _ _ _ _ _ _ _ => hr9); (refine' law_loop ?z74hI ?z74hh hr9 ?z74hb ?z74F ?z74N ?z74hw ?_ ?_; (case z74F => k_asm); (case z74N => k_asm); (case z74hI => assumption); (case z74hh => exact rfl); (case z74hb => exact law_b _); (case z74hw => exact ⟨_, by assumption⟩)); (all_goals (clear hr9; intros; (try k_fold))))))
  exact True.intro
set_option Elab.async true in
theorem law_T : prem hd := by
  unfold prem
  w_top off
  k_go0
  all_goals (try k_fold)
  k_steps
  refine' law_end ?F ?N ?R ?zs ?zd ?zi ?zw _ set1_turn
  (case F => k_asm)
  (case N => k_asm)
  (case R => assumption)
  (case zs => kcj_in)
  (case zd => k_mem)
  (case zi => assumption)
  (case zw => assumption)
end

theorem top.tw10006222313960134694 : True := trivial
theorem top.tw10008474027749305400 : True := trivial
theorem top.tw10090393231696489298 : True := trivial
theorem top.tw10187264123177260123 : True := trivial
theorem top.tw1040915598704419856 : True := trivial
theorem top.tw10448899703829047738 : True := trivial
theorem top.tw1047907039808853306 : True := trivial
theorem top.tw105208000716104510 : True := trivial
theorem top.tw10548783162686979305 : True := trivial
theorem top.tw10567129059001840431 : True := trivial
theorem top.tw10617020205504526918 : True := trivial
theorem top.tw10648311167861321448 : True := trivial
theorem top.tw1088946173253831356 : True := trivial
theorem top.tw10915162052029792233 : True := trivial
theorem top.tw10936122117785486979 : True := trivial
theorem top.tw10956490626425055710 : True := trivial
theorem top.tw10987319290404115282 : True := trivial
theorem top.tw10989066668313759200 : True := trivial
theorem top.tw10996937224433265937 : True := trivial
theorem top.tw11199532085631943738 : True := trivial
theorem top.tw11203750815551599093 : True := trivial
theorem top.tw11334415319851112604 : True := trivial
theorem top.tw1139600151236580504 : True := trivial
theorem top.tw11423202765487971197 : True := trivial
theorem top.tw1142415686869020238 : True := trivial
theorem top.tw11430207588045935325 : True := trivial
theorem top.tw11459358961799972967 : True := trivial
theorem top.tw1149218181149386328 : True := trivial
theorem top.tw11536330283829923712 : True := trivial
theorem top.tw11546936639936008217 : True := trivial
theorem top.tw11578502930711088577 : True := trivial
theorem top.tw11613256710310857696 : True := trivial
theorem top.tw11762496359356365647 : True := trivial
theorem top.tw11845233108574324481 : True := trivial
theorem top.tw11922380849998532372 : True := trivial
theorem top.tw1195175773429642966 : True := trivial
theorem top.tw12012865196380796599 : True := trivial
theorem top.tw1212798325632107971 : True := trivial
theorem top.tw12318557346453588183 : True := trivial
theorem top.tw12342655685612074800 : True := trivial
theorem top.tw12376051458212225564 : True := trivial
theorem top.tw12385144161495827662 : True := trivial
theorem top.tw12392516345856041104 : True := trivial
theorem top.tw12425085872883035938 : True := trivial
theorem top.tw1245559373397905713 : True := trivial
theorem top.tw12483720753089274532 : True := trivial
theorem top.tw12535971307161669396 : True := trivial
theorem top.tw12540527436937284434 : True := trivial
theorem top.tw12622177474791663080 : True := trivial
theorem top.tw12643491718579748851 : True := trivial
theorem top.tw1275901062530889299 : True := trivial
theorem top.tw12787338502077490372 : True := trivial
theorem top.tw12819366960792805191 : True := trivial
theorem top.tw13044034144603486326 : True := trivial
theorem top.tw13068111086705522682 : True := trivial
theorem top.tw13090165191389475591 : True := trivial
theorem top.tw13091174067606910046 : True := trivial
theorem top.tw13120753694373217308 : True := trivial
theorem top.tw13177472732611162249 : True := trivial
theorem top.tw13264354339760550358 : True := trivial
theorem top.tw13303987763403120937 : True := trivial
theorem top.tw13345470168829271861 : True := trivial
theorem top.tw13359135706311490777 : True := trivial
theorem top.tw13369591340354186047 : True := trivial
theorem top.tw13370750898655102155 : True := trivial
theorem top.tw13420762306968818387 : True := trivial
theorem top.tw13501252493785611398 : True := trivial
theorem top.tw1366308652836431711 : True := trivial
theorem top.tw13802547742096326172 : True := trivial
theorem top.tw13822267516522204269 : True := trivial
theorem top.tw13889484949932952446 : True := trivial
theorem top.tw13896958669275611876 : True := trivial
theorem top.tw13928562000808390012 : True := trivial
theorem top.tw1400011881503588481 : True := trivial
theorem top.tw14142502885225118848 : True := trivial
theorem top.tw14168018189251442112 : True := trivial
theorem top.tw14263998999751124003 : True := trivial
theorem top.tw14282377253939248939 : True := trivial
theorem top.tw14371913498598963198 : True := trivial
theorem top.tw14374289702345001990 : True := trivial
theorem top.tw14390669486469195807 : True := trivial
theorem top.tw14402358008270493973 : True := trivial
theorem top.tw14459580976405569124 : True := trivial
theorem top.tw14502225709538309166 : True := trivial
theorem top.tw14531352234054725774 : True := trivial
theorem top.tw14597223018079223185 : True := trivial
theorem top.tw14608685727046917156 : True := trivial
theorem top.tw14611434983143301774 : True := trivial
theorem top.tw14632489290957082403 : True := trivial
theorem top.tw146815374380898660 : True := trivial
theorem top.tw14762295962024373759 : True := trivial
theorem top.tw14789260269991461300 : True := trivial
theorem top.tw14796646475526232899 : True := trivial
theorem top.tw14823308797102314842 : True := trivial
theorem top.tw14826035006057030972 : True := trivial
theorem top.tw14861896470697024400 : True := trivial
theorem top.tw14890274524958701917 : True := trivial
theorem top.tw14901070454687303710 : True := trivial
theorem top.tw1492452104121835379 : True := trivial
theorem top.tw14987219478266130788 : True := trivial
theorem top.tw15058813355848621054 : True := trivial
theorem top.tw15092371282622821202 : True := trivial
theorem top.tw1516213087968936877 : True := trivial
theorem top.tw15169761463676818070 : True := trivial
theorem top.tw15177526630643400193 : True := trivial
theorem top.tw15240379268576122478 : True := trivial
theorem top.tw15299407806266782574 : True := trivial
theorem top.tw15361541807878343388 : True := trivial
theorem top.tw15569959144833144457 : True := trivial
theorem top.tw1585457916280141200 : True := trivial
theorem top.tw15877122091014420850 : True := trivial
theorem top.tw15878805988109762761 : True := trivial
theorem top.tw15918733279669447828 : True := trivial
theorem top.tw15985961358823992270 : True := trivial
theorem top.tw16044733080236030384 : True := trivial
theorem top.tw16058212318047004132 : True := trivial
theorem top.tw16104615914030681952 : True := trivial
theorem top.tw16123964013534891561 : True := trivial
theorem top.tw16155163154822807229 : True := trivial
theorem top.tw1617357707322924660 : True := trivial
theorem top.tw16174758807025615021 : True := trivial
theorem top.tw16196420915677631385 : True := trivial
theorem top.tw16204670001084760307 : True := trivial
theorem top.tw16273406610938067001 : True := trivial
theorem top.tw16325430554902658873 : True := trivial
theorem top.tw16352630495959832749 : True := trivial
theorem top.tw16420938139371093754 : True := trivial
theorem top.tw16439428074185983240 : True := trivial
theorem top.tw16541100652227675460 : True := trivial
theorem top.tw16550210197400561554 : True := trivial
theorem top.tw16580785732701462914 : True := trivial
theorem top.tw16713831800681072344 : True := trivial
theorem top.tw16782997733028217545 : True := trivial
theorem top.tw16795567611416646642 : True := trivial
theorem top.tw16821654228018055803 : True := trivial
theorem top.tw16869712714098612864 : True := trivial
theorem top.tw16885616592811714743 : True := trivial
theorem top.tw16900427199656544559 : True := trivial
theorem top.tw1706793611546318481 : True := trivial
theorem top.tw17177869089781658578 : True := trivial
theorem top.tw17315540178315561739 : True := trivial
theorem top.tw1732150942055357024 : True := trivial
theorem top.tw17323899518341599180 : True := trivial
theorem top.tw17355269125676882429 : True := trivial
theorem top.tw1736530178072539846 : True := trivial
theorem top.tw17428532607074087071 : True := trivial
theorem top.tw17437410693418506584 : True := trivial
theorem top.tw17469865338272021226 : True := trivial
theorem top.tw17470836177267949868 : True := trivial
theorem top.tw17492772389151264855 : True := trivial
theorem top.tw17512577416206416963 : True := trivial
theorem top.tw17555251805378815213 : True := trivial
theorem top.tw17620759639134147866 : True := trivial
theorem top.tw17810072253543177317 : True := trivial
theorem top.tw17886615442053742456 : True := trivial
theorem top.tw18008055252877512497 : True := trivial
theorem top.tw18063644159110109576 : True := trivial
theorem top.tw18064794426631996164 : True := trivial
theorem top.tw18085771088847121727 : True := trivial
theorem top.tw18086089286151905521 : True := trivial
theorem top.tw1814787853859245837 : True := trivial
theorem top.tw18164388396756303480 : True := trivial
theorem top.tw18237780215024852062 : True := trivial
theorem top.tw18245740138792012028 : True := trivial
theorem top.tw18371284783138465269 : True := trivial
theorem top.tw18398763907500777133 : True := trivial
theorem top.tw1869187583165140508 : True := trivial
theorem top.tw1886144042066472794 : True := trivial
theorem top.tw2007660962349395123 : True := trivial
theorem top.tw2057334267981633021 : True := trivial
theorem top.tw2126296398998916975 : True := trivial
theorem top.tw2145171640123136144 : True := trivial
theorem top.tw216529984938456764 : True := trivial
theorem top.tw2218668502564051296 : True := trivial
theorem top.tw2249405535684624136 : True := trivial
theorem top.tw2287823674025257028 : True := trivial
theorem top.tw2369445192022557226 : True := trivial
theorem top.tw2443449257678562572 : True := trivial
theorem top.tw2464713573024523455 : True := trivial
theorem top.tw2514443458684651071 : True := trivial
theorem top.tw2555065506035805374 : True := trivial
theorem top.tw2581206410525282061 : True := trivial
theorem top.tw2617719716777270872 : True := trivial
theorem top.tw2624093185689280933 : True := trivial
theorem top.tw2665807947273092163 : True := trivial
theorem top.tw2731995056826638727 : True := trivial
theorem top.tw2732273902793177162 : True := trivial
theorem top.tw2741389259953327712 : True := trivial
theorem top.tw2745572283795976233 : True := trivial
theorem top.tw2782073688633401757 : True := trivial
theorem top.tw2812155379371279736 : True := trivial
theorem top.tw2822501910515967889 : True := trivial
theorem top.tw283044589724301 : True := trivial
theorem top.tw2835187731363253809 : True := trivial
theorem top.tw2847958352784047137 : True := trivial
theorem top.tw2867133514656366558 : True := trivial
theorem top.tw2924597203103170677 : True := trivial
theorem top.tw2985252069258134486 : True := trivial
theorem top.tw2988451766255067171 : True := trivial
theorem top.tw3195968871104189447 : True := trivial
theorem top.tw339143206060000330 : True := trivial
theorem top.tw3422688185749166683 : True := trivial
theorem top.tw342308947776675178 : True := trivial
theorem top.tw3474246075231452896 : True := trivial
theorem top.tw3584897518013459382 : True := trivial
theorem top.tw370947364307004932 : True := trivial
theorem top.tw3730354652608582461 : True := trivial
theorem top.tw3776753064480771068 : True := trivial
theorem top.tw381845443943030031 : True := trivial
theorem top.tw390997316461189296 : True := trivial
theorem top.tw3969286963782609292 : True := trivial
theorem top.tw4047667213573674445 : True := trivial
theorem top.tw4076138812419527698 : True := trivial
theorem top.tw4159251561096739476 : True := trivial
theorem top.tw4186445540838780016 : True := trivial
theorem top.tw4205137553216949640 : True := trivial
theorem top.tw4213018616267185653 : True := trivial
theorem top.tw427269002284569659 : True := trivial
theorem top.tw4299629679881509495 : True := trivial
theorem top.tw4321519831107876412 : True := trivial
theorem top.tw4498253355057717688 : True := trivial
theorem top.tw453181688931711583 : True := trivial
theorem top.tw4655869559712951663 : True := trivial
theorem top.tw4656485037274611717 : True := trivial
theorem top.tw4671429814451907529 : True := trivial
theorem top.tw4713442408853163898 : True := trivial
theorem top.tw4784893810139332661 : True := trivial
theorem top.tw4940147422707163885 : True := trivial
theorem top.tw501154541418245514 : True := trivial
theorem top.tw5058314954733539658 : True := trivial
theorem top.tw5088376156974544275 : True := trivial
theorem top.tw5105846836358774362 : True := trivial
theorem top.tw5155950481276406077 : True := trivial
theorem top.tw5225153198818245361 : True := trivial
theorem top.tw5225916559131626549 : True := trivial
theorem top.tw5244899138074338376 : True := trivial
theorem top.tw5278709424875269971 : True := trivial
theorem top.tw5303079699428457377 : True := trivial
theorem top.tw5476889619067714990 : True := trivial
theorem top.tw5523086135645875356 : True := trivial
theorem top.tw5581607755468803823 : True := trivial
theorem top.tw5597187220613765494 : True := trivial
theorem top.tw5667650583090716360 : True := trivial
theorem top.tw575894324575664597 : True := trivial
theorem top.tw5766051744304087583 : True := trivial
theorem top.tw5860347150701562758 : True := trivial
theorem top.tw5868845118606482295 : True := trivial
theorem top.tw5889316905344633881 : True := trivial
theorem top.tw5915399644114372684 : True := trivial
theorem top.tw609860122456452193 : True := trivial
theorem top.tw6187478851450931391 : True := trivial
theorem top.tw6189502492464219833 : True := trivial
theorem top.tw6211089042160764376 : True := trivial
theorem top.tw6240723676877644813 : True := trivial
theorem top.tw6286779285267259847 : True := trivial
theorem top.tw6333448901615975916 : True := trivial
theorem top.tw6370870915552960936 : True := trivial
theorem top.tw6431110157172167083 : True := trivial
theorem top.tw6438537300738474071 : True := trivial
theorem top.tw649594095290182367 : True := trivial
theorem top.tw6505410396798821541 : True := trivial
theorem top.tw6520327441239513222 : True := trivial
theorem top.tw6624316729101989866 : True := trivial
theorem top.tw6662652255960138227 : True := trivial
theorem top.tw6664487174759623829 : True := trivial
theorem top.tw6694047246710070196 : True := trivial
theorem top.tw6749217079512962374 : True := trivial
theorem top.tw6756868429301003459 : True := trivial
theorem top.tw6761616313442571491 : True := trivial
theorem top.tw6812286434817487243 : True := trivial
theorem top.tw6885214360128481674 : True := trivial
theorem top.tw6885378943132763201 : True := trivial
theorem top.tw6898770573198911631 : True := trivial
theorem top.tw6919701780365589675 : True := trivial
theorem top.tw6930518751129746686 : True := trivial
theorem top.tw7008692893051332821 : True := trivial
theorem top.tw705360758644809490 : True := trivial
theorem top.tw708234853630380328 : True := trivial
theorem top.tw7250933059871147345 : True := trivial
theorem top.tw728428047077509346 : True := trivial
theorem top.tw7297446738713254254 : True := trivial
theorem top.tw7414872774492366064 : True := trivial
theorem top.tw7429413206186439793 : True := trivial
theorem top.tw7444641836354208208 : True := trivial
theorem top.tw7458633546980236471 : True := trivial
theorem top.tw7527032243904285869 : True := trivial
theorem top.tw7652560490529028683 : True := trivial
theorem top.tw7673058066778466091 : True := trivial
theorem top.tw7715697345341360870 : True := trivial
theorem top.tw7743179893348639699 : True := trivial
theorem top.tw775762912060472103 : True := trivial
theorem top.tw7830913209206220567 : True := trivial
theorem top.tw7847650389618582240 : True := trivial
theorem top.tw788273225186049534 : True := trivial
theorem top.tw795583310449317561 : True := trivial
theorem top.tw7990429038631628895 : True := trivial
theorem top.tw8107780213005350392 : True := trivial
theorem top.tw8139039716903228087 : True := trivial
theorem top.tw8140125068956082859 : True := trivial
theorem top.tw814325599930780420 : True := trivial
theorem top.tw8143265674769528471 : True := trivial
theorem top.tw81815255157605957 : True := trivial
theorem top.tw8184561461823581802 : True := trivial
theorem top.tw8204474986945543665 : True := trivial
theorem top.tw8212240652046128837 : True := trivial
theorem top.tw8265191368974092141 : True := trivial
theorem top.tw8321918168302905379 : True := trivial
theorem top.tw8345894832289464959 : True := trivial
theorem top.tw8363718466572441477 : True := trivial
theorem top.tw8410488445778877200 : True := trivial
theorem top.tw8435561252592420358 : True := trivial
theorem top.tw8507776931139520737 : True := trivial
theorem top.tw8523463495250067690 : True := trivial
theorem top.tw8538268897159353584 : True := trivial
theorem top.tw8598144960395782539 : True := trivial
theorem top.tw860223938195835975 : True := trivial
theorem top.tw8622502720953521162 : True := trivial
theorem top.tw8645369167282567922 : True := trivial
theorem top.tw864819663365544661 : True := trivial
theorem top.tw8694864300669457046 : True := trivial
theorem top.tw8729362747519067210 : True := trivial
theorem top.tw8735323631387419056 : True := trivial
theorem top.tw877433047237710547 : True := trivial
theorem top.tw8810280945414196856 : True := trivial
theorem top.tw8813761850579938390 : True := trivial
theorem top.tw8892184565913893157 : True := trivial
theorem top.tw9059672392935016618 : True := trivial
theorem top.tw9059832203979395877 : True := trivial
theorem top.tw908825868028484722 : True := trivial
theorem top.tw9108098604805947806 : True := trivial
theorem top.tw9229161468869434483 : True := trivial
theorem top.tw9259421805112917234 : True := trivial
theorem top.tw9305691244287143441 : True := trivial
theorem top.tw9335426496214029073 : True := trivial
theorem top.tw9378254376102152143 : True := trivial
theorem top.tw9503340733035011235 : True := trivial
theorem top.tw9601329371697537090 : True := trivial
theorem top.tw9743097575036673082 : True := trivial
theorem top.tw9768079942903668216 : True := trivial
theorem top.tw9800703332001039478 : True := trivial
theorem top.tw987869383939708018 : True := trivial
theorem top.tw9951221954081769418 : True := trivial
theorem top.tw9953747333497923681 : True := trivial
theorem top.tw9961057766049560675 : True := trivial
theorem top.tw9962302188120564619 : True := trivial
theorem top.tw10005945817407372193 : True := trivial
theorem top.tw10404823597219466188 : True := trivial
theorem top.tw10827898314382056206 : True := trivial
theorem top.tw11133666699803404755 : True := trivial
theorem top.tw11141966352661209427 : True := trivial
theorem top.tw11279390925490393535 : True := trivial
theorem top.tw11426215844183674140 : True := trivial
theorem top.tw11466170419677230873 : True := trivial
theorem top.tw11520865232209809239 : True := trivial
theorem top.tw11858546649754279707 : True := trivial
theorem top.tw11960245374511038805 : True := trivial
theorem top.tw12080426169559351053 : True := trivial
theorem top.tw12094960947251128927 : True := trivial
theorem top.tw12105128591322288922 : True := trivial
theorem top.tw12166907935582030026 : True := trivial
theorem top.tw12317137736924338119 : True := trivial
theorem top.tw126598861570590740 : True := trivial
theorem top.tw12718909917080609646 : True := trivial
theorem top.tw1284575025550258836 : True := trivial
theorem top.tw12958502747184954254 : True := trivial
theorem top.tw1306697619066116301 : True := trivial
theorem top.tw13160728816969591200 : True := trivial
theorem top.tw13272337422414781067 : True := trivial
theorem top.tw13889309363888878346 : True := trivial
theorem top.tw14349089067433371257 : True := trivial
theorem top.tw14372152842798730730 : True := trivial
theorem top.tw14399976873020721970 : True := trivial
theorem top.tw1483126911874232274 : True := trivial
theorem top.tw14851680436948445374 : True := trivial
theorem top.tw15362295582089109014 : True := trivial
theorem top.tw15646934709686841381 : True := trivial
theorem top.tw1638113669730673903 : True := trivial
theorem top.tw16666122058527598403 : True := trivial
theorem top.tw16759092144687519636 : True := trivial
theorem top.tw1676862907878916244 : True := trivial
theorem top.tw16840627104734473223 : True := trivial
theorem top.tw17046948494117081484 : True := trivial
theorem top.tw17486766287000646611 : True := trivial
theorem top.tw17565814175750979855 : True := trivial
theorem top.tw17825272241439330880 : True := trivial
theorem top.tw17896093901957597135 : True := trivial
theorem top.tw18034075008235765660 : True := trivial
theorem top.tw18051893902657315973 : True := trivial
theorem top.tw18194552166560175392 : True := trivial
theorem top.tw18260020939358253101 : True := trivial
theorem top.tw2462062305354472974 : True := trivial
theorem top.tw279221788311839977 : True := trivial
theorem top.tw2849167335222591983 : True := trivial
theorem top.tw3337584539547039419 : True := trivial
theorem top.tw3561193834555079511 : True := trivial
theorem top.tw3855276242980373810 : True := trivial
theorem top.tw4166218997396506358 : True := trivial
theorem top.tw4199510409282951887 : True := trivial
theorem top.tw4551080515912023512 : True := trivial
theorem top.tw4571971715460732019 : True := trivial
theorem top.tw4859757453598101857 : True := trivial
theorem top.tw5118827330378232414 : True := trivial
theorem top.tw517144808224063464 : True := trivial
theorem top.tw5969682004907312646 : True := trivial
theorem top.tw6127594578889010139 : True := trivial
theorem top.tw620129878449983639 : True := trivial
theorem top.tw6473336682457920079 : True := trivial
theorem top.tw6491118196486620199 : True := trivial
theorem top.tw6621670593625495552 : True := trivial
theorem top.tw6859976401760118174 : True := trivial
theorem top.tw6883741973766446791 : True := trivial
theorem top.tw6906291655842520137 : True := trivial
theorem top.tw7281139961889257330 : True := trivial
theorem top.tw7557910624720293991 : True := trivial
theorem top.tw7740461459972228597 : True := trivial
theorem top.tw8128397726703822571 : True := trivial
theorem top.tw8147595930496242885 : True := trivial
theorem top.tw8237333600419904120 : True := trivial
theorem top.tw8443935842833279946 : True := trivial
theorem top.tw8640399195822439974 : True := trivial
theorem top.tw8679839319945467846 : True := trivial
theorem top.tw8689318265317240412 : True := trivial
theorem top.tw8973803690348224638 : True := trivial
theorem top.tw9068506458530023791 : True := trivial
theorem top.tw9382581127745807760 : True := trivial
theorem top.tw9614876229902214918 : True := trivial
theorem top.tw9631074621892390191 : True := trivial
theorem top.tw9759319705405543751 : True := trivial
set_option Elab.async true in
set_option maxRecDepth 100000 in
set_option maxHeartbeats 8000000 in
theorem top : PySem.Challenge.rw_xm0310_01.Holds := by
  w_on
  o_law
  k_head
  (case hw => w_witness2)
  exact law_T
end Mine
theorem PySem.Challenge.cw_xm0310_01_holds : PySem.Challenge.rw_xm0310_01.Holds := by
  exact Mine.top
